import PyProof.Rows.All
import Wide.All
import OpenK.AllK
import Wide.FinOn
import HandS.ForMost
import HandS.Wide
import HandS.IsInst
import HandS.TupAny
import HandS.Deep
import HandS.Iter
import HandS.Zip
import KE.GoesMore
import KE.GoesZip
import KE.GoesEnum
import HandS.TupMul
import HandS.Records
import HandS.Rev
import HandS.TupLe
import HandS.More
import KE.KDictPairs
import HandS.Text
import HandS.Style
import PyProof.Rows.StrMeet
import PySem.Challenge.RW_courtwide_k19_whole_lines_put_together
set_option Elab.async false
set_option linter.all false
set_option maxRecDepth 100000
set_option maxHeartbeats 4000000
/-! CwT: tuples that are made, each known as the very object that was made (one without a dict of its own). -/
namespace Cw
open PySem PySem.Spec PyProof.Rows L2

/-- a new tuple: its object is known -/
def newT (H : Hp) (xs : List V) (Q : VK) : Prop := ∀ p o, H p = none → o.dict = none → Q (.ref p) (upd H p (.frz o (.tup xs)))
section
variable {X : Cx}
theorem made_tup {pins : List (Addr × Obj)} {σ : L2.St} {H : Hp} {s : Shared} {h' : Heap} {t' : Tok} {a : Addr} {xs : List V} {its : List Value} {o : Obj} (I : Inv X pins σ H s) (k : ∀ b u, s.heap.get? b = some u → h'.get? b = some u)
    (hp : s.heap.objs.size ≤ a) (hz : xs.length ≤ sizeLine) (r : Vals xs its) (e : h'.get? a = some o) (ht : IsTup h' a its.toArray) : Inv X pins σ (upd H a (.frz o (.tup xs))) { s with heap := h', toks := t' } :=
  I.laid k hp (show ObjOk X.prog X.w (upd H a (.frz o (.tup xs))) h' a (.frz o (.tup xs)) from ⟨e, hz, its, r, ht⟩)
theorem fin_tup {pins : List (Addr × Obj)} {σ : L2.St} {H : Hp} {s : Shared} {h' : Heap} {t' : Tok} {a : Addr} {xs : List V} {its : List Value} {o : Obj} {Q : VK} (I : Inv X pins σ H s) (k : ∀ b u, s.heap.get? b = some u → h'.get? b = some u)
    (hp : s.heap.objs.size ≤ a) (hz : xs.length ≤ sizeLine) (r : Vals xs its) (e : h'.get? a = some o) (ht : IsTup h' a its.toArray) (hd : o.dict = none) (q : newT H xs Q) : EP X pins σ Q (.ref a) { s with heap := h', toks := t' } :=
  ⟨.ref a, _, made_tup I k hp hz r e ht, rfl, q a o (I.hok.fresh hp) hd⟩
theorem pe_tupN {es : List Expr} {t : TA} {x1 pos} (h : PA X es t) : PE X (.Tuple es x1 pos) (fun σ H Q => t σ H fun xs H1 => xs.length ≤ sizeLine ∧ newT H1 xs Q) := by
  refine ⟨fun pins s σ H Q I hq => wpAny_Tuple_spliced (thn (h.run pos pins s σ H _ I hq) fun us s1 ⟨xs, H1, I1, r, z, q⟩ => ⟨by rw [← r.length]; exact z, ?_⟩)⟩
  have e := Heap.get?_push_size s1.heap (o := { cls := .type "tuple", data := .seq us.toArray }) rfl
  exact fin_tup (t' := s1.toks) I1 (fun b u e => Heap.get?_push_of_some _ e) (Nat.le_refl _) z r e ⟨_, e, rfl, _, rfl⟩ rfl q
theorem call_tupleN : CallR X (.type "tuple") (fun xs H Q => ∃ p ys, xs = [.ref p] ∧ ((SqL X.K H p ys ∧ newT H ys Q) ∨ (SqT X.K H p ys ∧ Q (.ref p) H))) := fun pins s σ H xs us Q I r h => by
  obtain ⟨p, ys, rfl, h⟩ := h
  obtain ⟨u, rfl, rx⟩ := vals1 r
  cases rx
  rcases h with ⟨hq, q⟩ | ⟨hq, q⟩
  · obtain ⟨its, r', pl, hz⟩ := I.list hq
    have hl := r'.length
    refine call_tuple_list pl.isList (fun h' kp => ?_) (by rw [List.size_toArray, ← hl]; exact hz)
    have I1 : Inv X pins σ H { s with heap := h' } := I.kept (t' := s.toks) kp
    have e := Heap.get?_push_size h' (o := { cls := .type "tuple", data := .seq its.toArray }) rfl
    exact fin_tup (s := { s with heap := h' }) (t' := s.toks) I1 (fun b o e => Heap.get?_push_of_some _ e) (Nat.le_refl _) hz r' e ⟨_, e, rfl, _, rfl⟩ rfl q
  · obtain ⟨its, r', pl, hz⟩ := I.tuple hq
    exact call_tuple_same pl ⟨.ref p, H, I, rfl, q⟩
def rCatN (K : PySem.W.Frag) : R2 := fun x y H Q => ∃ a b xs ys, x = .ref a ∧ y = .ref b ∧ SqT K H a xs ∧ SqT K H b ys ∧ xs.length + ys.length ≤ sizeLine ∧
  (xs = [] → Q (.ref b) H) ∧ (xs ≠ [] → ys = [] → Q (.ref a) H) ∧ (xs ≠ [] → ys ≠ [] → newT H (xs ++ ys) Q)
theorem op_catN : OpR X (binaryOp .Add) (rCatN X.K) := fun pins s σ H x y v u Q I rx ry h => by
  obtain ⟨a, b, xs, ys, rfl, rfl, ha, hb, hz, q0, q1, q2⟩ := h
  by_cases hx : xs = []
  · exact op_catA pins s σ H _ _ v u Q I rx ry ⟨a, b, xs, ys, rfl, rfl, ha, hb, hz, q0, fun z => absurd hx z, fun z => absurd hx z⟩
  · by_cases hy : ys = []
    · exact op_catA pins s σ H _ _ v u Q I rx ry ⟨a, b, xs, ys, rfl, rfl, ha, hb, hz, q0, q1, fun _ z => absurd hy z⟩
    · cases rx; cases ry
      obtain ⟨its, r1, p1, _⟩ := I.tuple ha
      obtain ⟨its2, r2, p2, _⟩ := I.tuple hb
      refine HT.cat_tup p1 p2 (fun z => hx (r1.nil_iff.mp z)) (fun z => absurd (r2.nil_iff.mp z) hy) (fun z => ?_) (by rw [← r1.length, ← r2.length]; exact hz)
      have e := Heap.get?_push_size s.heap (o := { cls := .type "tuple", data := .seq (its ++ its2).toArray }) rfl
      exact fin_tup (t' := s.toks) I (fun b o e => Heap.get?_push_of_some _ e) (Nat.le_refl _) (by rw [List.length_append]; exact hz) (r1.append r2) e ⟨_, e, rfl, _, rfl⟩ rfl (q2 hx hy)
def rSlN (K : PySem.W.Frag) : V → Option Int → Option Int → Hp → VK → Prop := fun x lo hi H Q => ∃ a xs, x = .ref a ∧ SqT K H a xs ∧
  (HT.sIx xs.length 0 lo = 0 ∧ HT.sIx xs.length xs.length hi = xs.length → Q (.ref a) H) ∧ (¬ (HT.sIx xs.length 0 lo = 0 ∧ HT.sIx xs.length xs.length hi = xs.length) → newT H (cutV xs lo hi) Q)
theorem sl_tupN : SlR X (rSlN X.K) := fun pins s σ H x v vl vu lo hi sl Q I rx hs pl pu h => by
  obtain ⟨a, xs, rfl, hx, q1, q2⟩ := h
  by_cases hw : HT.sIx xs.length 0 lo = 0 ∧ HT.sIx xs.length xs.length hi = xs.length
  · exact sl_tupA pins s σ H _ v vl vu lo hi sl Q I rx hs pl pu ⟨a, xs, rfl, hx, q1, fun z => absurd hw z⟩
  · cases rx
    obtain ⟨its, r, ht, hz⟩ := I.tuple hx
    have hl : its.toArray.size = xs.length := by rw [List.size_toArray]; exact r.length.symm
    refine ⟨"tuple", _, PyProof.Rows.slot_tuple_getitem.lookup, ht.typeIs, HT.getItem_tuple_cut ht hs pl pu (by rw [hl]; exact hw) ?_ (by rw [hl]; exact hz)⟩
    rw [hl]
    have e := Heap.get?_push_size s.heap (o := { cls := .type "tuple", data := .seq ((its.drop (HT.sIx xs.length 0 lo)).take (HT.sIx xs.length xs.length hi - HT.sIx xs.length 0 lo)).toArray }) rfl
    exact fin_tup (t' := s.toks) I (fun b o e => Heap.get?_push_of_some _ e) (Nat.le_refl _) (Nat.le_trans (cutV_length xs lo hi) hz) ((r.drop _).take _) e ⟨_, e, rfl, _, rfl⟩ rfl (q2 hw)
end
end Cw
set_option Elab.async false
set_option linter.all false
set_option maxRecDepth 100000
set_option maxHeartbeats 4000000
/-! CwT2: enumerate and zip over lists and over tuples, each pair known as the object that was made. -/
namespace Cw
open PySem PySem.Spec PyProof.Rows L2

/-- a list (false), a tuple (true) -/
def SqX (t : Bool) (K : PySem.W.Frag) (H : Hp) (a : Addr) (xs : List V) : Prop := match t with
  | false => SqL K H a xs
  | true => SqT K H a xs
def InX (t : Bool) (h : Heap) (a : Addr) (its : Array Value) : Prop := match t with
  | false => h.IsList a its
  | true => h.IsTuple a its
def GoX (t : Bool) (h : Heap) (it a : Addr) (i : Nat) : Prop := match t with
  | false => h.IsListIter it a i
  | true => h.IsTupleIter it a i
theorem InX.obj {t : Bool} {h : Heap} {a : Addr} {its : Array Value} (x : InX t h a its) : ∃ o n, h.get? a = some o ∧ o.data = .seq its n := by
  cases t with
  | false => obtain ⟨o, e, _, n, d⟩ := x; exact ⟨o, n, e, d⟩
  | true => obtain ⟨o, e, _, n, d⟩ := x; exact ⟨o, n, e, d⟩
theorem InX.at {t : Bool} {h h' : Heap} {a : Addr} {its : Array Value} (x : InX t h a its) (k : ∀ o, h.get? a = some o → h'.get? a = some o) : InX t h' a its := by
  cases t with
  | false => exact Heap.IsList.at x k
  | true => exact Heap.IsTuple.at x k
theorem GoX.obj {t : Bool} {h : Heap} {it a : Addr} {i : Nat} (x : GoX t h it a i) : ∃ o, h.get? it = some o ∧ ∃ vs, o.data = .fields vs := by
  cases t with
  | false => obtain ⟨o, e, _, d⟩ := x; exact ⟨o, e, _, d⟩
  | true => obtain ⟨o, e, _, d⟩ := x; exact ⟨o, e, _, d⟩
theorem GoX.at {t : Bool} {h h' : Heap} {it a : Addr} {i : Nat} (x : GoX t h it a i) (k : ∀ o, h.get? it = some o → h'.get? it = some o) : GoX t h' it a i := by
  cases t with
  | false => exact Heap.IsListIter.at x k
  | true => exact Heap.IsTupleIter.at x k
theorem drawsX {prog : Program} {w : World} {A : Around} (hh : A.handled = none) (t : Bool) (it l : Addr) (hne : l ≠ it) (items : Array Value) :
    Draws prog w A it [it, l] items.size (fun i v => items[i]? = some v) (fun i h => GoX t h it l i ∧ InX t h l items) := by
  cases t with
  | false => exact Draws.list hh it l hne items
  | true => exact Draws.tuple hh it l hne items
section
variable {X : Cx} {pins : List (Addr × Obj)} {σ : L2.St} {H : Hp} {s : Shared}
theorem seqX {t : Bool} {a : Addr} {xs : List V} (I : Inv X pins σ H s) (h : SqX t X.K H a xs) : ∃ its : List Value, Vals xs its ∧ InX t s.heap a its.toArray := by
  cases t with
  | false => obtain ⟨its, r, p, _⟩ := I.list h; exact ⟨its, r, p.isList⟩
  | true => obtain ⟨its, r, p, _⟩ := I.tuple h; exact ⟨its, r, p⟩
theorem injX {t : Bool} {a : Addr} {xs ys : List V} (I : Inv X pins σ H s) (h : SqX t X.K H a xs) (h' : SqX t X.K H a ys) : xs = ys := by
  cases t with
  | false => exact I.list_inj h h'
  | true => exact I.tuple_inj h h'
end
theorem apartX {t : Bool} {h : Heap} {a b : Addr} {its : Array Value} {o : Obj} {fs : Array Value} (x : InX t h a its) (e : h.get? b = some o) (d : o.data = .fields fs) : b ≠ a := fun z => by
  obtain ⟨o', n, e', d'⟩ := x.obj
  rw [z, e'] at e; cases e
  rw [d'] at d; cases d

/-! ### enumerate -/
def IteX (t : Bool) (K : PySem.W.Frag) (a : Addr) : It :=
  ⟨fun i H => ∃ (xs : List V) (x : V), SqX t K H a xs ∧ xs[i]? = some x,
   fun i H v H' => ∃ T o x, v = .ref T ∧ H T = none ∧ o.dict = none ∧ H' = upd H T (.frz o (.tup [.int (i : Nat), x])) ∧ ∀ xs, SqX t K H a xs → xs[i]? = some x,
   fun i H => ∃ xs : List V, SqX t K H a xs ∧ xs.length = i⟩
theorem turn_enumX {P : Program} {w : World} {K : PySem.W.Frag} {elts : List Expr} {kk : Nat} {tpos : Pos} (t : Bool) (a e it : Addr) :
    Turn P w K (.Tuple elts kk tpos) (IteX t K a) [e, it] e (fun i h => (∃ old, IsEnum h e it ((i : Nat) : Int) old) ∧ GoX t h it a i ∧ e ≠ it) where
  mem := List.mem_cons_self ..
  obj := fun i h ⟨⟨old, he⟩, hi, _⟩ b hb => by
    rcases List.mem_cons.mp hb with z | hb
    · rw [z]; exact ⟨_, he, fun v q => nomatch q⟩
    · obtain ⟨o, ho, vs, hd⟩ := hi.obj
      rw [List.mem_singleton.mp hb]; exact ⟨o, ho, fun v q => by rw [hd] at q; cases q⟩
  keep := fun i h h' ⟨⟨old, he⟩, hi, hne⟩ k => ⟨⟨old, k e (List.mem_cons_self ..) _ he⟩, hi.at fun o q => k it (List.mem_cons_of_mem _ (List.mem_cons_self ..)) o q, hne⟩
  item := by
    rintro X rfl rfl rfl hc i pins s σ H E I hf ⟨⟨old, he⟩, hit, hne⟩ ⟨xs, x, hq, hx⟩
    obtain ⟨its, rv, p⟩ := seqX I hq
    obtain ⟨u, hu, ru⟩ := rv.get hx
    obtain ⟨oi, hoi, fs, hdi⟩ := hit.obj
    have nea : e ≠ a := apartX p he rfl
    have nia : it ≠ a := apartX p hoi hdi
    have hlt : i < its.toArray.size := by
      rw [List.size_toArray]
      rcases Nat.lt_or_ge i its.length with q | q
      · exact q
      · rw [List.getElem?_eq_none q] at hu; cases hu
    have hel : e < s.heap.objs.size := Heap.lt_size he
    have hh : X.A.in1.handled = none := I.ok.hd hc
    have D1 := drawsX (prog := X.prog) (w := X.w) hh t it a (Ne.symm nia) its.toArray
    refine wpAny_pyNext_enum_itemD D1 he ⟨hit, p⟩ hlt hne (by simp [hne, nea]) fun y h' tk hy ho' st' hT hsz hk => ?_
    have hy2 : y = u := by
      rw [List.getElem?_toArray, hu] at hy
      cases hy; rfl
    subst hy2
    refine ⟨_, rfl, wpAny_letOwnedTupleGo_enum (s := { s with heap := h', toks := tk + 1 }) ho' fun h'' he' sb => ?_⟩
    have hT2 := (sb.2 s.heap.objs.size (Nat.ne_of_gt hel)).trans hT
    have new : ObjOk X.prog X.w (upd H s.heap.objs.size (.frz { cls := .type "tuple", data := .seq #[.int i tk, y] } (.tup [.int (i : Nat), x]))) h'' s.heap.objs.size (.frz { cls := .type "tuple", data := .seq #[.int i tk, y] } (.tup [.int (i : Nat), x])) :=
      ⟨hT2, by show 2 ≤ sizeLine; decide, [.int i tk, y], .cons ⟨_, rfl⟩ (.cons ru .nil), ⟨_, hT2, rfl, _, rfl⟩⟩
    have I1 := I.turnedNew (t' := tk + 1) (h' := h'') (ch := [e, it]) (fun b ob hb q => (sb.2 b (fun z => hb (by simp [z]))).trans (hk b ob (fun z => hb (by simp [z])) (fun z => hb (by simp [z])) q)) hf (Nat.le_refl _) new
    refine ⟨.ref s.heap.objs.size, _, I1, rfl, ⟨_, _, x, rfl, I.hok.fresh (Nat.le_refl _), rfl, rfl, fun ys hy => by rw [injX I hy hq]; exact hx⟩, ⟨⟨y, ?_⟩, st'.1.at fun o q => (sb.2 it (Ne.symm hne)).trans q, hne⟩, fun b hb => ?_⟩
    · have e1 : ((i + 1 : Nat) : Int) = (i : Int) + 1 := by omega
      rw [e1]; exact he'
    · have hb' : b < s.heap.objs.size := by
        rcases List.mem_cons.mp hb with z | z
        · rw [z]; exact hel
        · rw [List.mem_singleton.mp z]; exact Heap.lt_size hoi
      rw [upd_ne (Nat.ne_of_lt hb')]
      exact (hf b hb).1
  done := by
    rintro X rfl rfl rfl hc i pins s σ H E I hf ⟨⟨old, he⟩, hit, hne⟩ ⟨xs, hq, rfl⟩
    obtain ⟨its, rv, p⟩ := seqX I hq
    obtain ⟨oi, hoi, fs, hdi⟩ := hit.obj
    obtain ⟨f0, f1, f2, f3, f4, f5⟩ := hf it (by simp)
    have hl : xs.length = its.toArray.size := by rw [List.size_toArray]; exact rv.length
    have hh : X.A.in1.handled = none := I.ok.hd hc
    have D1 := drawsX (prog := X.prog) (w := X.w) hh t it a (Ne.symm (apartX p hoi hdi)) its.toArray
    refine wpAny_pyNext_enum_endD D1 he ⟨hl ▸ hit, p⟩ fun h' eb => ⟨rfl, I.turned (t' := s.toks) (fun b o hb q => eb b o hb q) f0 f1 f3 f4 f5⟩
  self := fun A i s Q E st h => let ⟨⟨_, he⟩, _⟩ := st; wpAny_pyIter_enum he h
theorem enum_new_tuple (l : Addr) (items : Array Value) (o : Obj) (hc : o.cls = .type "tuple") (hd : ∃ n, o.data = .seq items n) :
    Meets (Builtin.«enumerate.__new__» ⟨[.type "enumerate", .ref l], []⟩) (fun _ R s => s.heap.get? l = some o ∧
      R (.ok (.ret (.ref (s.heap.push { cls := .type "tuple_iterator", data := .fields #[.ref l, .int 0 0] }).objs.size)))
        { s with heap := (s.heap.push { cls := .type "tuple_iterator", data := .fields #[.ref l, .int 0 0] }).push { cls := .type "enumerate", data := .fields #[.none, .bool false, .ref s.heap.objs.size, rawInt 0, .none, .none] } }) :=
  .of_wp fun prog w A R ⟨hp, g, d, tk, os⟩ ⟨hl, h⟩ => by
    obtain ⟨n, hd⟩ := hd
    have hT : Heap.IsTuple (Shared.heap ⟨hp, g, d, tk, os⟩) l items := ⟨o, hl, hc, n, hd⟩
    have hsub := sub_enumerate
    wp_walk
    refine wpAny_stack_any fun st => wpAny_pure ?_
    split
    · rename_i c _ _ _ _ _
      cases (c == Value.type "enumerate") <;> (wp_walk using wpAny_pyIter_tuple hT; exact ⟨_, rfl, h⟩)
    · wp_walk using wpAny_pyIter_tuple hT
      exact ⟨_, rfl, h⟩
section
variable {prog : Program} {w : World} {A : Around} {E : Value → Shared → Prop} {s : Shared}
theorem call_enumX {t : Bool} {l : Addr} {items : Array Value} {Q : Value → Shared → Prop} (hL : InX t s.heap l items)
    (h : ∀ h', IsEnum h' (s.heap.objs.size + 1) s.heap.objs.size 0 .none → GoX t h' s.heap.objs.size l 0 → (∀ b o, s.heap.get? b = some o → h'.get? b = some o) → Q (.ref (s.heap.objs.size + 1)) { s with heap := h' }) :
    wpAny (model prog w) A (call (.type "enumerate") [.ref l]) Q E s := by
  cases t with
  | false => exact call_enumerate_list hL fun h' a b _ k => h h' a b k
  | true =>
    obtain ⟨o, ho, hc, hd⟩ := hL
    refine callType_new F.called_enumerate (by decide) (F.typeCall_enumerate_1 _) (F.newCall_enumerate_1 _) (fun obj => F.args_object_init_2 obj _) F.entry_enumerate_new (enum_new_tuple l items o hc hd) ⟨ho, ?_⟩
    have hz : (s.heap.push { cls := .type "tuple_iterator", data := .fields #[.ref l, .int 0 0] }).objs.size = s.heap.objs.size + 1 := Heap.size_push ..
    have e1 := Heap.get?_push_size (s.heap.push { cls := .type "tuple_iterator", data := .fields #[.ref l, .int 0 0] }) (o := { cls := .type "enumerate", data := .fields #[.none, .bool false, .ref s.heap.objs.size, rawInt 0, .none, .none] }) rfl
    rw [hz] at e1
    have e2 := Heap.get?_push_of_some (o := { cls := .type "enumerate", data := .fields #[.none, .bool false, .ref s.heap.objs.size, rawInt 0, .none, .none] }) (Heap.get?_push_size s.heap (o := { cls := .type "tuple_iterator", data := .fields #[.ref l, .int 0 0] }) rfl)
    show _ ∧ _
    rw [hz]
    exact ⟨⟨_, e1, rfl⟩, h _ e1 ⟨_, e2, rfl, rfl⟩ fun b o x => Heap.get?_push_of_some _ (Heap.get?_push_of_some _ x)⟩
end
def iEnumX (t : Bool) (K : PySem.W.Frag) (ta : TA) : TI := fun σ H R => ta σ H fun vs H1 => ∃ a xs, vs = [.ref a] ∧ SqX t K H1 a xs ∧ R (IteX t K a) H1
theorem pi_enumX {X : Cx} {e : Expr} {ta : TA} {p pos tpos : Pos} {elts : List Expr} {kk : Nat} (t : Bool) (hg : Gl X "enumerate") (hm : X.mg "enumerate" = none) (ha : PA X [e] ta) (hs : starEach [e] X.env = [(false, eval e X.env)] := by rfl) :
    PI X (.Tuple elts kk tpos) (.Call (.Name "enumerate" p) [e] [] pos) (iEnumX t X.K ta) := by
  refine ⟨fun pins s σ H R I h => Call_ (ld_blt I hg hm boot_enumerate (PyProof.Rows.callWith_type1 (thn (ha.run pos pins s σ H _ I h) fun us s1 ⟨vs, H1, I1, r1, a, xs, ex, hq, q⟩ => ?_) hs rfl))⟩
  subst ex
  obtain ⟨u, rfl, r⟩ := vals1 r1
  cases r
  obtain ⟨its, rv, p'⟩ := seqX I1 hq
  refine call_enumX p' fun h' he hit hk => wpAny_pyIter_enum he ?_
  refine ⟨s1.heap.objs.size + 1, [s1.heap.objs.size + 1, s1.heap.objs.size], _, _, H1, rfl, I1.kept (t' := s1.toks) hk, turn_enumX t a (s1.heap.objs.size + 1) s1.heap.objs.size, ⟨⟨.none, he⟩, hit, Nat.succ_ne_self _⟩, fun b hb => ?_, q⟩
  have hle : s1.heap.objs.size ≤ b := by
    rcases List.mem_cons.mp hb with z | z
    · rw [z]; exact Nat.le_add_right _ _
    · rw [List.mem_singleton.mp z]; exact Nat.le_refl _
  exact I1.fpOk hle (I1.hok.fresh hle)

/-! ### zip -/
def ItzX (t : Bool) (K : PySem.W.Frag) (a b : Addr) : It :=
  ⟨fun i H => ∃ (xs ys : List V) (x y : V), SqX t K H a xs ∧ SqX t K H b ys ∧ xs[i]? = some x ∧ ys[i]? = some y,
   fun i H v H' => ∃ T o x y, v = .ref T ∧ H T = none ∧ o.dict = none ∧ H' = upd H T (.frz o (.tup [x, y])) ∧ (∀ xs, SqX t K H a xs → xs[i]? = some x) ∧ ∀ ys, SqX t K H b ys → ys[i]? = some y,
   fun i H => ∃ xs ys : List V, SqX t K H a xs ∧ SqX t K H b ys ∧ i ≤ xs.length ∧ i ≤ ys.length ∧ (i = xs.length ∨ i = ys.length)⟩
theorem lt_of_get {α : Type} {xs : List α} {i : Nat} {x : α} (h : xs[i]? = some x) : i < xs.length := by
  rcases Nat.lt_or_ge i xs.length with q | q
  · exact q
  · rw [List.getElem?_eq_none q] at h; cases h
theorem sepX {z TI TO i1 i2 a b : Addr} (D : ZipApart z TI TO i1 i2 a b) : ZipSep2 z TI TO i1 i2 [i1, a] [i2, b] :=
  { TIz := D.TIz, TOz := D.TOz, TITO := D.TITO, TIi1 := D.TIi1, mem1 := by simp, zf1 := by simp [D.i1z.symm, D.l1z.symm], Tf1 := by simp [D.TOi1, D.l1TO.symm],
    TIi2 := D.TIi2, mem2 := by simp, zf2 := by simp [D.i2z.symm, D.l2z.symm], Tf2 := by simp [D.TOi2, D.l2TO.symm], sep1_2 := by simp [D.i12, D.l2i1.symm], sep2_1 := by simp [D.i12.symm, D.l1i2.symm] }
theorem turn_zipX {P : Program} {w : World} {K : PySem.W.Frag} {elts : List Expr} {kk : Nat} {tpos : Pos} (t : Bool) {a b z TI TO i1 i2 : Addr} (D : ZipApart z TI TO i1 i2 a b) :
    Turn P w K (.Tuple elts kk tpos) (ItzX t K a b) [z, TI, TO, i1, i2] z (fun i h => IsZip h z TI TO .none ∧ IsTupOf2 h TI (.ref i1) (.ref i2) ∧ (∃ x y, IsTupOf2 h TO x y) ∧ GoX t h i1 a i ∧ GoX t h i2 b i) where
  mem := List.mem_cons_self ..
  obj := fun i h ⟨hz, hTI, ⟨x, y, hTO⟩, h1, h2⟩ c hc => by
    obtain ⟨o1, e1, v1, d1⟩ := h1.obj
    obtain ⟨o2, e2, v2, d2⟩ := h2.obj
    simp only [List.mem_cons, List.not_mem_nil, or_false] at hc
    rcases hc with rfl | rfl | rfl | rfl | rfl
    · exact ⟨_, hz, fun v q => nomatch q⟩
    · exact ⟨_, hTI, fun v q => nomatch q⟩
    · exact ⟨_, hTO, fun v q => nomatch q⟩
    · exact ⟨o1, e1, fun v q => by rw [d1] at q; cases q⟩
    · exact ⟨o2, e2, fun v q => by rw [d2] at q; cases q⟩
  keep := fun i h h' ⟨hz, hTI, ⟨x, y, hTO⟩, h1, h2⟩ k => ⟨k z (by simp) _ hz, k TI (by simp) _ hTI, ⟨x, y, k TO (by simp) _ hTO⟩, h1.at fun o q => k i1 (by simp) o q, h2.at fun o q => k i2 (by simp) o q⟩
  item := by
    rintro X rfl rfl rfl hc i pins s σ H E I hf ⟨hz, hTI, ⟨x0, y0, hTO⟩, h1, h2⟩ ⟨xs, ys, x, y, hqx, hqy, hx, hy⟩
    obtain ⟨its, rv, p⟩ := seqX I hqx
    obtain ⟨its2, rv2, p2⟩ := seqX I hqy
    obtain ⟨u, hu, ru⟩ := rv.get hx
    obtain ⟨u2, hu2, ru2⟩ := rv2.get hy
    obtain ⟨o1, e1, v1, d1⟩ := h1.obj
    obtain ⟨o2, e2, v2, d2⟩ := h2.obj
    have hzl : z < s.heap.objs.size := Heap.lt_size hz
    have hh : X.A.in1.handled = none := I.ok.hd hc
    have D1 := drawsX (prog := X.prog) (w := X.w) hh t i1 a (Ne.symm (apartX p e1 d1)) its.toArray
    have D2 := drawsX (prog := X.prog) (w := X.w) hh t i2 b (Ne.symm (apartX p2 e2 d2)) its2.toArray
    refine wpAny_pyNext_zipD2_item (sepX D) D1 D2 hz hTI hTO ⟨h1, p⟩ ⟨h2, p2⟩
      (by rw [List.size_toArray]; exact lt_of_get hu) (by rw [List.size_toArray]; exact lt_of_get hu2) fun q1 q2 h' tk g1 g2 z' TO' s1 s2 hT hsz hk => ?_
    rw [List.getElem?_toArray, hu] at g1
    rw [List.getElem?_toArray, hu2] at g2
    cases g1; cases g2
    refine ⟨_, rfl, wpAny_letOwnedTupleGo_zip (s := { s with heap := h', toks := tk }) z' fun h'' z'' sb => ?_⟩
    have hT2 := (sb.2 s.heap.objs.size (Nat.ne_of_gt hzl)).trans hT
    have new : ObjOk X.prog X.w (upd H s.heap.objs.size (.frz { cls := .type "tuple", data := .seq #[u, u2] } (.tup [x, y]))) h'' s.heap.objs.size (.frz { cls := .type "tuple", data := .seq #[u, u2] } (.tup [x, y])) :=
      ⟨hT2, by show 2 ≤ sizeLine; decide, [u, u2], .cons ru (.cons ru2 .nil), ⟨_, hT2, rfl, _, rfl⟩⟩
    have I1 := I.turnedNew (t' := tk) (h' := h'') (ch := [z, TI, TO, i1, i2]) (fun c o hb q => (sb.2 c (fun q' => hb (by simp [q']))).trans (hk c o (fun q' => hb (by simp [q'])) (fun q' => hb (by simp [q'])) (fun q' => hb (by simp [q'])) (fun q' => hb (by simp [q'])) q)) hf (Nat.le_refl _) new
    refine ⟨.ref s.heap.objs.size, _, I1, rfl, ⟨_, _, x, y, rfl, I.hok.fresh (Nat.le_refl _), rfl, rfl, fun l hl => by rw [injX I hl hqx]; exact hx, fun l hl => by rw [injX I hl hqy]; exact hy⟩, ⟨z'', ?_, ⟨u, u2, ?_⟩, ?_, ?_⟩, fun c hcm => ?_⟩
    · exact (sb.2 _ D.TIz).trans (hk _ _ D.TIz D.TITO D.TIi1 D.TIi2 hTI)
    · exact (sb.2 _ D.TOz).trans TO'
    · exact s1.1.at fun o q => (sb.2 _ D.i1z).trans q
    · exact s2.1.at fun o q => (sb.2 _ D.i2z).trans q
    · have hlt : c < s.heap.objs.size := by
        simp only [List.mem_cons, List.not_mem_nil, or_false] at hcm
        rcases hcm with rfl | rfl | rfl | rfl | rfl
        · exact hzl
        · exact Heap.lt_size hTI
        · exact Heap.lt_size hTO
        · exact Heap.lt_size e1
        · exact Heap.lt_size e2
      rw [upd_ne (Nat.ne_of_lt hlt)]
      exact (hf c hcm).1
  done := by
    rintro X rfl rfl rfl hc i pins s σ H E I hf ⟨hz, hTI, ⟨x0, y0, hTO⟩, h1, h2⟩ ⟨xs, ys, hqx, hqy, l1, l2, he⟩
    obtain ⟨its, rv, p⟩ := seqX I hqx
    obtain ⟨its2, rv2, p2⟩ := seqX I hqy
    obtain ⟨o1, e1, v1, d1⟩ := h1.obj
    obtain ⟨o2, e2, v2, d2⟩ := h2.obj
    have hh : X.A.in1.handled = none := I.ok.hd hc
    have D1 := drawsX (prog := X.prog) (w := X.w) hh t i1 a (Ne.symm (apartX p e1 d1)) its.toArray
    have D2 := drawsX (prog := X.prog) (w := X.w) hh t i2 b (Ne.symm (apartX p2 e2 d2)) its2.toArray
    have n1 : its.toArray.size = xs.length := by rw [List.size_toArray]; exact rv.length.symm
    have n2 : its2.toArray.size = ys.length := by rw [List.size_toArray]; exact rv2.length.symm
    exact wpAny_pyNext_zipD2_end (sepX D) D1 D2 hz hTI hTO ⟨h1, p⟩ ⟨h2, p2⟩
      (by omega) (by omega) (by omega) fun h' tk hk => ⟨rfl, I.turnedL (t' := tk) (ch := [z, TI, TO, i1, i2]) (fun c o hb q =>
      hk c o (fun q' => hb (by simp [q'])) (fun q' => hb (by simp [q'])) (fun q' => hb (by simp [q'])) (fun q' => hb (by simp [q'])) q) hf⟩
  self := fun A i s Q E st h => wpAny_pyIter_zip st.1 h
section
variable {prog : Program} {w : World} {A : Around} {E : Value → Shared → Prop} {s : Shared}
theorem call_zipX {t : Bool} {l1 l2 : Addr} {xs ys : Array Value} {Q : Value → Shared → Prop} (hl1 : InX t s.heap l1 xs) (hl2 : InX t s.heap l2 ys)
    (h : ∀ h', IsZip h' (s.heap.objs.size + 4) (s.heap.objs.size + 2) (s.heap.objs.size + 3) .none → IsTupOf2 h' (s.heap.objs.size + 2) (.ref s.heap.objs.size) (.ref (s.heap.objs.size + 1)) →
      IsTupOf2 h' (s.heap.objs.size + 3) .none .none → GoX t h' s.heap.objs.size l1 0 → GoX t h' (s.heap.objs.size + 1) l2 0 →
      (∀ c o, s.heap.get? c = some o → h'.get? c = some o) → Q (.ref (s.heap.objs.size + 4)) { s with heap := h' }) :
    wpAny (model prog w) A (call (.type "zip") [.ref l1, .ref l2]) Q E s := by
  cases t with
  | false => exact call_zip_2 hl1 hl2 fun h' a b c d e _ k => h h' a b c d e k
  | true => exact RZ.call_zipT hl1 hl2 fun h' a b c d e _ k => h h' a b c d e k
end
def iZipX (t : Bool) (K : PySem.W.Frag) (ta : TA) : TI := fun σ H R => ta σ H fun vs H1 => ∃ a b xs ys, vs = [.ref a, .ref b] ∧ SqX t K H1 a xs ∧ SqX t K H1 b ys ∧ R (ItzX t K a b) H1
theorem pi_zipX {X : Cx} {e e2 : Expr} {ta : TA} {p pos tpos : Pos} {elts : List Expr} {kk : Nat} (t : Bool) (hg : Gl X "zip") (hm : X.mg "zip" = none) (ha : PA X [e, e2] ta)
    (hs : starEach [e, e2] X.env = (false, eval e X.env) :: starEach [e2] X.env := by rfl) (hpl : (backTo pos (starEach [e2] X.env)).any (·.1) = false := by rfl) :
    PI X (.Tuple elts kk tpos) (.Call (.Name "zip" p) [e, e2] [] pos) (iZipX t X.K ta) := by
  refine ⟨fun pins s σ H R I h => Call_ (ld_blt I hg hm PyProof.Rows.boot_zip (PyProof.Rows.callWith_type1 (thn (ha.run pos pins s σ H _ I h) fun us s1 ⟨vs, H1, I1, r1, a, b, xs, ys, ex, hqx, hqy, q⟩ => ?_) hs hpl))⟩
  subst ex
  cases r1 with
  | cons r rr =>
    obtain ⟨u, rfl, r'⟩ := vals1 rr
    cases r
    cases r'
    obtain ⟨its, rv, p1⟩ := seqX I1 hqx
    obtain ⟨its2, rv2, p2⟩ := seqX I1 hqy
    have l1 : a < s1.heap.objs.size := by obtain ⟨o, n, e, _⟩ := p1.obj; exact Heap.lt_size e
    have l2 : b < s1.heap.objs.size := by obtain ⟨o, n, e, _⟩ := p2.obj; exact Heap.lt_size e
    refine call_zipX p1 p2 fun h' hz hTI hTO h1 h2 hk => wpAny_pyIter_zip hz ?_
    refine ⟨s1.heap.objs.size + 4, [s1.heap.objs.size + 4, s1.heap.objs.size + 2, s1.heap.objs.size + 3, s1.heap.objs.size, s1.heap.objs.size + 1], _, _, H1, rfl, I1.kept (t' := s1.toks) hk,
      turn_zipX t (PySem.W.ktu_apart s1.heap.objs.size a b l1 l2), ⟨hz, hTI, ⟨_, _, hTO⟩, h1, h2⟩, fun c hcm => ?_, q⟩
    have hle : s1.heap.objs.size ≤ c := by
      simp only [List.mem_cons, List.not_mem_nil, or_false] at hcm
      rcases hcm with z | z | z | z | z <;> rw [z] <;> first | exact Nat.le_refl _ | exact Nat.le_add_right _ _
    exact I1.fpOk hle (I1.hok.fresh hle)
end Cw
set_option Elab.async false
set_option linter.all false
set_option maxRecDepth 100000
set_option maxHeartbeats 4000000
/-! Cw1: pure data over the hand layer: values as trees, a small store, readings by functions. -/
namespace Cw
open PySem PySem.Spec PyProof.Rows L2

/-- pure data: lists and dicts as values (never changed again) -/
inductive P where
  | non | bl (b : Bool) | int (i : Int) | str (s : Str) | tup (xs : List P) | ro (xs : List P) | scr (xs : List P) | dic (kvs : List (Key × P))
  deriving Inhabited
/-- a value: pure data, or a thing of the store -/
inductive D where
  | p (x : P) | ref (n : Nat)
  deriving Inhabited
inductive Ob where
  | lst (xs : List P) | dic (kvs : List (Key × P)) | gone
  deriving Inhabited
abbrev Sto := List Ob
abbrev Ev := List (Option D)
/-- what is raised: the class's name, what it was made of -/
structure Exn where
  cls : Str
  val : P
inductive R (α : Type) where
  | ok (a : α) (S : Sto) | ex (e : Exn) (S : Sto) | no
def R.bind {α β : Type} (r : R α) (f : α → Sto → R β) : R β := match r with
  | .ok a S => f a S
  | .ex e S => .ex e S
  | .no => .no
@[simp] theorem bind_okE {α β : Type} (a : α) (S : Sto) (f : α → Sto → R β) : (R.ok a S).bind f = f a S := rfl
@[simp] theorem bind_exE {α β : Type} (e : Exn) (S : Sto) (f : α → Sto → R β) : (R.ex e S).bind f = .ex e S := rfl
@[simp] theorem bind_noE {α β : Type} (f : α → Sto → R β) : (R.no : R α).bind f = .no := rfl
theorem bind_ok {α β : Type} {r : R α} {f : α → Sto → R β} {b : β} {S' : Sto} (h : r.bind f = .ok b S') : ∃ a S, r = .ok a S ∧ f a S = .ok b S' := by
  cases r with
  | ok a S => exact ⟨a, S, rfl, h⟩
  | ex e S => cases h
  | no => cases h

/-- where the store's things lie (a gone thing lies nowhere), and the things that are being made -/
structure Lk where
  ix : List (Option Addr)
  hid : List Addr
def Lk.has (ι : Lk) (a : Addr) : Prop := some a ∈ ι.ix ∨ a ∈ ι.hid
def Lk.hide (ι : Lk) (a : Addr) : Lk := ⟨ι.ix, a :: ι.hid⟩
def Lk.add (ι : Lk) (a : Addr) : Lk := ⟨ι.ix ++ [some a], ι.hid⟩

/-! ### how the world may change -/
structure Step (ι : Lk) (H : Hp) (ι' : Lk) (H' : Hp) : Prop where
  hid : ι'.hid = ι.hid
  len : ι.ix.length ≤ ι'.ix.length
  old : ∀ (n : Nat) (o : Option Addr), ι.ix[n]? = some o → ι'.ix[n]? = some o ∨ ι'.ix[n]? = some none
  new : ∀ a, some a ∈ ι'.ix → some a ∈ ι.ix ∨ H a = none
  keep : ∀ a o, H a = some o → some a ∉ ι.ix → H' a = some o
  there : ∀ a, H' a = none → H a = none
theorem Step.refl (ι : Lk) (H : Hp) : Step ι H ι H := ⟨rfl, Nat.le_refl _, fun _ _ h => .inl h, fun _ h => .inl h, fun _ _ h _ => h, fun _ h => h⟩
theorem Step.trans {ι1 ι2 ι3 : Lk} {H1 H2 H3 : Hp} (a : Step ι1 H1 ι2 H2) (b : Step ι2 H2 ι3 H3) : Step ι1 H1 ι3 H3 where
  hid := b.hid.trans a.hid
  len := Nat.le_trans a.len b.len
  old := fun n o h => by
    rcases a.old n o h with q | q
    · exact b.old n o q
    · rcases b.old n none q with z | z <;> exact .inr z
  new := fun x h => by
    rcases b.new x h with q | q
    · exact a.new x q
    · exact .inr (a.there x q)
  keep := fun x o h hn => by
    refine b.keep x o (a.keep x o h hn) fun hm => ?_
    rcases a.new x hm with q | q
    · exact hn q
    · rw [h] at q; cases q
  there := fun x h => a.there x (b.there x h)

/-- the same, what is being made apart -/
structure StepH (ι : Lk) (H : Hp) (ι' : Lk) (H' : Hp) : Prop where
  old : ∀ (n : Nat) (o : Option Addr), ι.ix[n]? = some o → ι'.ix[n]? = some o ∨ ι'.ix[n]? = some none
  has : ∀ a, ι'.has a → ι.has a ∨ H a = none
  keep : ∀ a o, H a = some o → ¬ ι.has a → H' a = some o
theorem Step.h {ι ι' : Lk} {H H' : Hp} (st : Step ι H ι' H') : StepH ι H ι' H' :=
  ⟨st.old, fun a ha => ha.elim (fun q => (st.new a q).elim (fun z => .inl (.inl z)) .inr) fun q => .inl (.inr (st.hid ▸ q)), fun a o h hn => st.keep a o h fun q => hn (.inl q)⟩

section
variable (K : PySem.W.Frag) (ι : Lk) (H : Hp)
/-- a tuple, a list, a dict that stands: not of the store -/
def NT (a : Addr) (vs : List V) : Prop := ∃ o : Obj, o.dict = none ∧ H a = some (.frz o (.tup vs))
def KT (a : Addr) (vs : List V) : Prop := ∃ (o : Obj) (its : Array Value) (n : Nat), K.lookup a = some o ∧ o.cls = .type "tuple" ∧ o.dict = none ∧ o.data = .seq its n ∧ its.size ≤ sizeLine ∧ Vals vs its.toList
def TupAt (a : Addr) (vs : List V) : Prop := (NT H a vs ∧ ¬ ι.has a) ∨ KT K a vs
def LstAt (a : Addr) (vs : List V) : Prop := (Rd H a (.lst vs) ∧ ¬ ι.has a) ∨ SqL K (fun _ => none) a vs
mutual
inductive RP : V → P → Prop
  | non : RP .non .non
  | bl (b : Bool) : RP (.bl b) (.bl b)
  | int (i : Int) : RP (.int i) (.int i)
  | str {s : Str} : PyData.strOk s = true → RP (.str s) (.str s)
  | tup {a : Addr} {vs : List V} {xs : List P} : TupAt K ι H a vs → RPs vs xs → RP (.ref a) (.tup xs)
  | ro {a : Addr} {vs : List V} {xs : List P} : Rd H a (.lst vs) → ¬ ι.has a → RPs vs xs → RP (.ref a) (.ro xs)
  | scr {a : Addr} {vs : List V} {xs : List P} : LstAt K ι H a vs → RPs vs xs → RP (.ref a) (.scr xs)
  | dic {a : Addr} {kws : List (Key × V)} {kvs : List (Key × P)} : Rd H a (.dK kws) → ¬ ι.has a → RKs kws kvs → RP (.ref a) (.dic kvs)
inductive RPs : List V → List P → Prop
  | nil : RPs [] []
  | cons {v : V} {vs : List V} {x : P} {xs : List P} : RP v x → RPs vs xs → RPs (v :: vs) (x :: xs)
inductive RKs : List (Key × V) → List (Key × P) → Prop
  | nil : RKs [] []
  | cons {k : Key} {v : V} {vs : List (Key × V)} {x : P} {xs : List (Key × P)} : RP v x → RKs vs xs → RKs ((k, v) :: vs) ((k, x) :: xs)
end
inductive RD : V → D → Prop
  | p {v : V} {x : P} : RP K ι H v x → RD v (.p x)
  | ref {v : V} {n : Nat} {o : Option Addr} : ι.ix[n]? = some o → (∀ a, o = some a → v = .ref a) → RD v (.ref n)
inductive RDs : List V → List D → Prop
  | nil : RDs [] []
  | cons {v : V} {vs : List V} {x : D} {xs : List D} : RD K ι H v x → RDs vs xs → RDs (v :: vs) (x :: xs)
/-- what a thing of the store is -/
inductive ROb : Option (Option Addr) → Ob → Prop
  | lst {a : Addr} {vs : List V} {xs : List P} : H a = some (.lst vs) → RPs K ι H vs xs → ROb (some (some a)) (.lst xs)
  | dic {a : Addr} {kws : List (Key × V)} {kvs : List (Key × P)} : H a = some (.dK kws) → RKs K ι H kws kvs → ROb (some (some a)) (.dic kvs)
  | gone : ROb (some none) .gone
structure Wd (S : Sto) : Prop where
  len : ι.ix.length = S.length
  nd : ∀ (n m : Nat) (a : Addr), ι.ix[n]? = some (some a) → ι.ix[m]? = some (some a) → n = m
  ob : ∀ (n : Nat) (o : Ob), S[n]? = some o → ROb K ι H ι.ix[n]? o
  hd : ∀ a, a ∈ ι.hid → H a ≠ none ∧ some a ∉ ι.ix
structure Cf (σ : L2.St) (ρ : Ev) (S : Sto) : Prop where
  wd : Wd K ι H S
  len : σ.length = ρ.length
  sv : ∀ (i : Nat) (d : D), ρ[i]? = some (some d) → ∃ v, σ[i]? = some (some v) ∧ RD K ι H v d
end

section
variable {K : PySem.W.Frag} {ι ι' : Lk} {H H' : Hp}
theorem NT.rd {a : Addr} {vs : List V} (h : NT H a vs) : Rd H a (.tup vs) := let ⟨o, _, e⟩ := h; .inr ⟨o, e⟩
theorem TupAt.sq {a : Addr} {vs : List V} (h : TupAt K ι H a vs) : SqT K H a vs := by
  rcases h with h | ⟨o, its, n, h1, h2, _, h3, h4, h5⟩
  · exact .inl h.1.rd
  · exact .inr ⟨o, its, n, h1, h2, h3, h4, h5⟩
theorem LstAt.sq {a : Addr} {vs : List V} (h : LstAt K ι H a vs) : SqL K H a vs := by
  rcases h with h | h
  · exact .inl h.1
  · rcases h with (h | ⟨_, h⟩) | h
    · cases h
    · cases h
    · exact .inr h
theorem StepH.out (st : StepH ι H ι' H') {a : Addr} {o : HO} (h : H a = some o) (hn : ¬ ι.has a) : ¬ ι'.has a := fun hm => by
  rcases st.has a hm with q | q
  · exact hn q
  · rw [h] at q; cases q
theorem StepH.rd (st : StepH ι H ι' H') {a : Addr} {u : HO} (h : Rd H a u) (hn : ¬ ι.has a) : Rd H' a u ∧ ¬ ι'.has a := by
  rcases h with h | ⟨o, h⟩
  · exact ⟨.inl (st.keep _ _ h hn), st.out h hn⟩
  · exact ⟨.inr ⟨o, st.keep _ _ h hn⟩, st.out h hn⟩
theorem TupAt.monoH (st : StepH ι H ι' H') {a : Addr} {vs : List V} (h : TupAt K ι H a vs) : TupAt K ι' H' a vs := by
  rcases h with ⟨⟨o, d, h⟩, hn⟩ | h
  · exact .inl ⟨⟨o, d, st.keep _ _ h hn⟩, st.out h hn⟩
  · exact .inr h
theorem LstAt.monoH (st : StepH ι H ι' H') {a : Addr} {vs : List V} (h : LstAt K ι H a vs) : LstAt K ι' H' a vs := by
  rcases h with ⟨h, hn⟩ | h
  · exact .inl (st.rd h hn)
  · exact .inr h
theorem TupAt.mono (st : Step ι H ι' H') {a : Addr} {vs : List V} (h : TupAt K ι H a vs) : TupAt K ι' H' a vs := h.monoH st.h
theorem LstAt.mono (st : Step ι H ι' H') {a : Addr} {vs : List V} (h : LstAt K ι H a vs) : LstAt K ι' H' a vs := h.monoH st.h
mutual
theorem RP.monoH (st : StepH ι H ι' H') : ∀ {v : V} {x : P}, RP K ι H v x → RP K ι' H' v x
  | _, _, .non => .non
  | _, _, .bl b => .bl b
  | _, _, .int i => .int i
  | _, _, .str s => .str s
  | _, _, .tup h r => .tup (h.monoH st) (RPs.monoH st r)
  | _, _, .ro h hn r => .ro (st.rd h hn).1 (st.rd h hn).2 (RPs.monoH st r)
  | _, _, .scr h r => .scr (h.monoH st) (RPs.monoH st r)
  | _, _, .dic h hn r => .dic (st.rd h hn).1 (st.rd h hn).2 (RKs.monoH st r)
theorem RPs.monoH (st : StepH ι H ι' H') : ∀ {v : List V} {x : List P}, RPs K ι H v x → RPs K ι' H' v x
  | _, _, .nil => .nil
  | _, _, .cons h r => .cons (RP.monoH st h) (RPs.monoH st r)
theorem RKs.monoH (st : StepH ι H ι' H') : ∀ {v : List (Key × V)} {x : List (Key × P)}, RKs K ι H v x → RKs K ι' H' v x
  | _, _, .nil => .nil
  | _, _, .cons h r => .cons (RP.monoH st h) (RKs.monoH st r)
end
theorem RP.mono (st : Step ι H ι' H') {v : V} {x : P} (r : RP K ι H v x) : RP K ι' H' v x := r.monoH st.h
theorem RPs.mono (st : Step ι H ι' H') {v : List V} {x : List P} (r : RPs K ι H v x) : RPs K ι' H' v x := r.monoH st.h
theorem RKs.mono (st : Step ι H ι' H') {v : List (Key × V)} {x : List (Key × P)} (r : RKs K ι H v x) : RKs K ι' H' v x := r.monoH st.h
theorem RD.monoH (st : StepH ι H ι' H') {v : V} {d : D} (h : RD K ι H v d) : RD K ι' H' v d := by
  cases h with
  | p h => exact .p (h.monoH st)
  | ref e h =>
    rcases st.old _ _ e with q | q
    · exact .ref q h
    · exact .ref q fun a z => by cases z
theorem RD.mono (st : Step ι H ι' H') {v : V} {d : D} (h : RD K ι H v d) : RD K ι' H' v d := h.monoH st.h
theorem RDs.mono (st : Step ι H ι' H') : ∀ {v : List V} {d : List D}, RDs K ι H v d → RDs K ι' H' v d
  | _, _, .nil => .nil
  | _, _, .cons h r => .cons (h.mono st) (RDs.mono st r)
theorem Cf.step {σ : L2.St} {ρ : Ev} {S S' : Sto} (cf : Cf K ι H σ ρ S) (st : Step ι H ι' H') (wd : Wd K ι' H' S') : Cf K ι' H' σ ρ S' :=
  ⟨wd, cf.len, fun i d h => by
    obtain ⟨v, e, r⟩ := cf.sv i d h
    exact ⟨v, e, r.mono st⟩⟩
/-- the store's things lie as they did -/
theorem Wd.same {S : Sto} (wd : Wd K ι H S) (st : Step ι H ι H') (h : ∀ a, some a ∈ ι.ix → H' a = H a) : Wd K ι H' S := by
  refine ⟨wd.len, wd.nd, fun n o e => ?_, fun a ha => ⟨fun z => (wd.hd a ha).1 (st.there a z), (wd.hd a ha).2⟩⟩
  have q := wd.ob n o e
  generalize hz : ι.ix[n]? = z at q
  cases q with
  | lst e1 r => exact .lst (by rw [h _ (List.mem_of_getElem? hz)]; exact e1) (r.mono st)
  | dic e1 r => exact .dic (by rw [h _ (List.mem_of_getElem? hz)]; exact e1) (r.mono st)
  | gone => exact .gone
theorem Wd.some_of {S : Sto} (wd : Wd K ι H S) {a : Addr} (h : some a ∈ ι.ix) : H a ≠ none := by
  obtain ⟨n, hn, e⟩ := List.mem_iff_getElem.mp h
  have hl := wd.len
  have hS : S[n]? = some (S[n]'(by omega)) := List.getElem?_eq_getElem _
  have q := wd.ob n _ hS
  rw [List.getElem?_eq_getElem hn, e] at q
  generalize S[n] = o at q
  cases q with
  | lst e _ => rw [e]; exact fun z => by cases z
  | dic e _ => rw [e]; exact fun z => by cases z
theorem Wd.fresh {S : Sto} (wd : Wd K ι H S) {p : Addr} (hp : H p = none) : ¬ ι.has p := fun h => by
  rcases h with h | h
  · exact wd.some_of h hp
  · exact (wd.hd p h).1 hp
/-- a new object that nobody keeps -/
theorem Step.new1 {S : Sto} (wd : Wd K ι H S) {p : Addr} (hp : H p = none) (o : HO) : Step ι H ι (upd H p o) :=
  ⟨rfl, Nat.le_refl _, fun _ _ h => .inl h, fun _ h => .inl h, fun a u h _ => by rw [upd_ne (ne_of_none h hp)]; exact h, fun a h => by
    by_cases e : a = p
    · subst e; exact hp
    · rw [upd_ne e] at h; exact h⟩
theorem Wd.new1 {S : Sto} (wd : Wd K ι H S) {p : Addr} (hp : H p = none) (o : HO) : Wd K ι (upd H p o) S :=
  wd.same (Step.new1 wd hp o) fun a ha => by
    have := wd.some_of ha
    refine upd_ne fun e => this (by rw [e]; exact hp)
mutual
/-- what a value is hangs on which things are excepted alone -/
theorem RP.has (k : ∀ a, ι'.has a → ι.has a) : ∀ {v : V} {x : P}, RP K ι H v x → RP K ι' H v x
  | _, _, .non => .non
  | _, _, .bl b => .bl b
  | _, _, .int i => .int i
  | _, _, .str s => .str s
  | _, _, .tup h r => .tup (h.elim (fun h => .inl ⟨h.1, fun q => h.2 (k _ q)⟩) .inr) (RPs.has k r)
  | _, _, .ro h hn r => .ro h (fun q => hn (k _ q)) (RPs.has k r)
  | _, _, .scr h r => .scr (h.elim (fun h => .inl ⟨h.1, fun q => h.2 (k _ q)⟩) .inr) (RPs.has k r)
  | _, _, .dic h hn r => .dic h (fun q => hn (k _ q)) (RKs.has k r)
theorem RPs.has (k : ∀ a, ι'.has a → ι.has a) : ∀ {v : List V} {x : List P}, RPs K ι H v x → RPs K ι' H v x
  | _, _, .nil => .nil
  | _, _, .cons h r => .cons (RP.has k h) (RPs.has k r)
theorem RKs.has (k : ∀ a, ι'.has a → ι.has a) : ∀ {v : List (Key × V)} {x : List (Key × P)}, RKs K ι H v x → RKs K ι' H v x
  | _, _, .nil => .nil
  | _, _, .cons h r => .cons (RP.has k h) (RKs.has k r)
end
theorem ROb.has (k : ∀ a, ι'.has a → ι.has a) {z : Option (Option Addr)} {o : Ob} (h : ROb K ι H z o) : ROb K ι' H z o := by
  cases h with
  | lst e r => exact .lst e (r.has k)
  | dic e r => exact .dic e (r.has k)
  | gone => exact .gone
theorem hide_has (ι : Lk) (a b : Addr) : ι.has b → (ι.hide a).has b := fun h => h.elim .inl fun q => .inr (List.mem_cons_of_mem _ q)
theorem has_hide {ι : Lk} {a b : Addr} : (ι.hide a).has b → ι.has b ∨ b = a := fun h => h.elim (fun q => .inl (.inl q)) fun q => (List.mem_cons.mp q).elim .inr fun q => .inl (.inr q)
theorem has_add {ι : Lk} {a b : Addr} : (ι.add a).has b → (ι.hide a).has b := fun h => h.elim (fun q => (List.mem_append.mp q).elim .inl fun q => .inr (by
  have : b = a := by simpa using q
  rw [this]; exact List.mem_cons_self)) fun q => .inr (List.mem_cons_of_mem _ q)
theorem ntNew {p a : Addr} {u : List V} {o : HO} (hp : H p = none) (h : NT H a u) (hn : ¬ ι.has a) : NT (upd H p o) a u ∧ ¬ (ι.hide p).has a := by
  obtain ⟨ob, d, h⟩ := h
  have ne : a ≠ p := ne_of_none h hp
  exact ⟨⟨ob, d, by rw [upd_ne ne]; exact h⟩, fun q => (has_hide q).elim hn ne⟩
theorem rdNew {p a : Addr} {u o : HO} (hp : H p = none) (h : Rd H a u) (hn : ¬ ι.has a) : Rd (upd H p o) a u ∧ ¬ (ι.hide p).has a := by
  have ne : a ≠ p := by
    rcases h with h | ⟨o, h⟩ <;> exact ne_of_none h hp
  refine ⟨?_, fun q => (has_hide q).elim hn ne⟩
  unfold Rd
  rw [upd_ne ne]
  exact h
mutual
/-- a value that stands ahead of a new thing isn't it -/
theorem RP.hideNew {S : Sto} (wd : Wd K ι H S) {p : Addr} (hp : H p = none) {o : HO} : ∀ {v : V} {x : P}, RP K ι H v x → RP K (ι.hide p) (upd H p o) v x
  | _, _, .non => .non
  | _, _, .bl b => .bl b
  | _, _, .int i => .int i
  | _, _, .str s => .str s
  | _, _, .tup h r => .tup (h.elim (fun h => .inl (ntNew hp h.1 h.2)) .inr) (RPs.hideNew wd hp r)
  | _, _, .ro h hn r => .ro (rdNew (o := o) hp h hn).1 (rdNew (o := o) hp h hn).2 (RPs.hideNew wd hp r)
  | _, _, .scr h r => .scr (h.elim (fun h => .inl (rdNew hp h.1 h.2)) .inr) (RPs.hideNew wd hp r)
  | _, _, .dic h hn r => .dic (rdNew (o := o) hp h hn).1 (rdNew (o := o) hp h hn).2 (RKs.hideNew wd hp r)
theorem RPs.hideNew {S : Sto} (wd : Wd K ι H S) {p : Addr} (hp : H p = none) {o : HO} : ∀ {v : List V} {x : List P}, RPs K ι H v x → RPs K (ι.hide p) (upd H p o) v x
  | _, _, .nil => .nil
  | _, _, .cons h r => .cons (RP.hideNew wd hp h) (RPs.hideNew wd hp r)
theorem RKs.hideNew {S : Sto} (wd : Wd K ι H S) {p : Addr} (hp : H p = none) {o : HO} : ∀ {v : List (Key × V)} {x : List (Key × P)}, RKs K ι H v x → RKs K (ι.hide p) (upd H p o) v x
  | _, _, .nil => .nil
  | _, _, .cons h r => .cons (RP.hideNew wd hp h) (RKs.hideNew wd hp r)
end
/-- what was being made stands now -/
theorem Wd.unhide {S : Sto} {a : Addr} (wd : Wd K (ι.hide a) H S) : Wd K ι H S :=
  ⟨wd.len, wd.nd, fun n o e => (wd.ob n o e).has (hide_has ι a), fun b hb => wd.hd b (List.mem_cons_of_mem _ hb)⟩
/-- a new thing is being made -/
theorem Wd.hidden {S : Sto} (wd : Wd K ι H S) {p : Addr} (hp : H p = none) (o : HO) : Wd K (ι.hide p) (upd H p o) S := by
  have w1 := wd.new1 hp o
  have st := Step.new1 wd hp o
  refine ⟨wd.len, wd.nd, fun n ob e => ?_, fun b hb => ?_⟩
  · have q := wd.ob n ob e
    generalize hz : ι.ix[n]? = z at q
    have ne : ∀ {a : Addr}, z = some (some a) → a ≠ p := fun hza e => by
      subst hza
      have := wd.some_of (List.mem_of_getElem? hz)
      rw [e] at this; exact this hp
    show ROb K (ι.hide p) (upd H p o) ι.ix[n]? ob
    rw [hz]
    cases q with
    | lst e1 r => exact .lst (by rw [upd_ne (ne rfl)]; exact e1) (r.hideNew wd hp)
    | dic e1 r => exact .dic (by rw [upd_ne (ne rfl)]; exact e1) (r.hideNew wd hp)
    | gone => exact .gone
  · rcases List.mem_cons.mp hb with e | hb
    · subst e
      exact ⟨(by rw [upd_same]; intro z; cases z), (fun q => wd.some_of q hp)⟩
    · have := wd.hd b hb
      refine ⟨?_, this.2⟩
      by_cases e : b = p
      · rw [e] at this; exact absurd hp this.1
      · rw [upd_ne e]; exact this.1
end
end Cw
set_option Elab.async false
set_option linter.all false
set_option maxRecDepth 100000
set_option maxHeartbeats 4000000
/-! Cw2: readings by functions; expressions. -/
namespace Cw
open PySem PySem.Spec PyProof.Rows L2

/-! ### readings -/
abbrev CE := Ev → Sto → R D
abbrev CT := Ev → Sto → R Bool
abbrev CA := Ev → Sto → R (List D)
abbrev CN := Ev → Sto → R (List P)
section
variable (K : PySem.W.Frag)
def PostE (ι : Lk) (H : Hp) (r : R D) (Q : VK) : Prop := ∃ d S', r = .ok d S' ∧ ∀ v ι' H', Step ι H ι' H' → Wd K ι' H' S' → RD K ι' H' v d → Q v H'
def PostT (ι : Lk) (H : Hp) (r : R Bool) (Q : Bool → Hp → Prop) : Prop := ∃ b S', r = .ok b S' ∧ ∀ ι' H', Step ι H ι' H' → Wd K ι' H' S' → Q b H'
def PostA (ι : Lk) (H : Hp) (r : R (List D)) (Q : List V → Hp → Prop) : Prop := ∃ ds S', r = .ok ds S' ∧ ∀ vs ι' H', Step ι H ι' H' → Wd K ι' H' S' → RDs K ι' H' vs ds → Q vs H'
/-- a new list that nobody keeps yet -/
def PostN (ι : Lk) (H : Hp) (r : R (List P)) (Q : VK) : Prop := ∃ xs S', r = .ok xs S' ∧ ∀ a vs ι' H', Step ι H ι' H' → Wd K (ι'.hide a) H' S' → H a = none → ¬ ι'.has a → H' a = some (.lst vs) → RPs K (ι'.hide a) H' vs xs → Q (.ref a) H'
def RdE (c : CE) : TE := fun σ H Q => ∃ ι ρ S, Cf K ι H σ ρ S ∧ PostE K ι H (c ρ S) Q
def RdT (c : CT) : TT := fun σ H Q => ∃ ι ρ S, Cf K ι H σ ρ S ∧ PostT K ι H (c ρ S) Q
def RdA (c : CA) : TA := fun σ H Q => ∃ ι ρ S, Cf K ι H σ ρ S ∧ PostA K ι H (c ρ S) Q
def RdN (c : CN) : TE := fun σ H Q => ∃ ι ρ S, Cf K ι H σ ρ S ∧ PostN K ι H (c ρ S) Q
end
theorem _root_.L2.PE.weak {X : Cx} {e : Expr} {t t' : TE} (h : PE X e t) (k : ∀ σ H Q, t' σ H Q → t σ H Q) : PE X e t' := ⟨fun pins s σ H Q I q => h.run pins s σ H Q I (k σ H Q q)⟩
theorem _root_.L2.PT.weak {X : Cx} {e : Expr} {t t' : TT} (h : PT X e t) (k : ∀ σ H Q, t' σ H Q → t σ H Q) : PT X e t' := ⟨fun pins s σ H Q I q => h.run pins s σ H Q I (k σ H Q q)⟩
theorem _root_.L2.PW.weak {X : Cx} {e : Expr} {t t' : TT} (h : PW X e t) (k : ∀ σ H Q, t' σ H Q → t σ H Q) : PW X e t' := ⟨fun w pins s σ H Q I q => h.run w pins s σ H Q I (k σ H Q q)⟩
theorem _root_.L2.PA.weak {X : Cx} {e : List Expr} {t t' : TA} (h : PA X e t) (k : ∀ σ H Q, t' σ H Q → t σ H Q) : PA X e t' := ⟨fun p pins s σ H Q I q => h.run p pins s σ H Q I (k σ H Q q)⟩
theorem _root_.L2.PE.orr {X : Cx} {e : Expr} {t t' : TE} (h : PE X e t) (h' : PE X e t') : PE X e (fun σ H Q => t σ H Q ∨ t' σ H Q) := ⟨fun pins s σ H Q I q => q.elim (h.run pins s σ H Q I) (h'.run pins s σ H Q I)⟩
section
variable {K : PySem.W.Frag} {ι : Lk} {H : Hp} {σ : L2.St} {ρ : Ev} {S : Sto}
theorem RdE.run {c : CE} {d : D} {S1 : Sto} {Q : VK} (cf : Cf K ι H σ ρ S) (e : c ρ S = .ok d S1) (k : ∀ v ι1 H1, Step ι H ι1 H1 → Cf K ι1 H1 σ ρ S1 → RD K ι1 H1 v d → Q v H1) : RdE K c σ H Q :=
  ⟨ι, ρ, S, cf, d, S1, e, fun v ι' H' st wd r => k v ι' H' st (cf.step st wd) r⟩
theorem RdT.run {c : CT} {d : Bool} {S1 : Sto} {Q : Bool → Hp → Prop} (cf : Cf K ι H σ ρ S) (e : c ρ S = .ok d S1) (k : ∀ ι1 H1, Step ι H ι1 H1 → Cf K ι1 H1 σ ρ S1 → Q d H1) : RdT K c σ H Q :=
  ⟨ι, ρ, S, cf, d, S1, e, fun ι' H' st wd => k ι' H' st (cf.step st wd)⟩
theorem RdA.run {c : CA} {d : List D} {S1 : Sto} {Q : List V → Hp → Prop} (cf : Cf K ι H σ ρ S) (e : c ρ S = .ok d S1) (k : ∀ v ι1 H1, Step ι H ι1 H1 → Cf K ι1 H1 σ ρ S1 → RDs K ι1 H1 v d → Q v H1) : RdA K c σ H Q :=
  ⟨ι, ρ, S, cf, d, S1, e, fun v ι' H' st wd r => k v ι' H' st (cf.step st wd) r⟩
end

/-! ### what things are, by their data -/
/-- a list's items: a list of the store, or one that stands -/
def seqL : D → Sto → Option (List P)
  | .p (.ro xs), _ => some xs
  | .ref n, S => match S[n]? with
    | some (.lst xs) => some xs
    | _ => none
  | _, _ => none
/-- .. or the script -/
def seqA : D → Sto → Option (List P)
  | .p (.scr xs), _ => some xs
  | d, S => seqL d S
theorem seqL_ref {n : Nat} {S : Sto} {xs : List P} (e : seqL (.ref n) S = some xs) : S[n]? = some (.lst xs) := by
  simp only [seqL] at e
  split at e
  · rename_i ys hy
    cases e
    exact hy
  · cases e
def dicL : D → Sto → Option (List (Key × P))
  | .p (.dic xs), _ => some xs
  | .ref n, S => match S[n]? with
    | some (.dic xs) => some xs
    | _ => none
  | _, _ => none
theorem dicL_ref {n : Nat} {S : Sto} {xs : List (Key × P)} (e : dicL (.ref n) S = some xs) : S[n]? = some (.dic xs) := by
  simp only [dicL] at e
  split at e
  · rename_i ys hy
    cases e
    exact hy
  · cases e
section
variable {K : PySem.W.Frag} {ι : Lk} {H : Hp} {S : Sto}
theorem Wd.lst (wd : Wd K ι H S) {v : V} {n : Nat} {xs : List P} (r : RD K ι H v (.ref n)) (e : S[n]? = some (.lst xs)) : ∃ a vs, v = .ref a ∧ ι.ix[n]? = some (some a) ∧ H a = some (.lst vs) ∧ RPs K ι H vs xs := by
  have q := wd.ob n _ e
  cases r with
  | ref e1 hv =>
    rw [e1] at q
    cases q with
    | lst h r => exact ⟨_, _, hv _ rfl, e1, h, r⟩
theorem Wd.dict (wd : Wd K ι H S) {v : V} {n : Nat} {xs : List (Key × P)} (r : RD K ι H v (.ref n)) (e : S[n]? = some (.dic xs)) : ∃ a vs, v = .ref a ∧ ι.ix[n]? = some (some a) ∧ H a = some (.dK vs) ∧ RKs K ι H vs xs := by
  have q := wd.ob n _ e
  cases r with
  | ref e1 hv =>
    rw [e1] at q
    cases q with
    | dic h r => exact ⟨_, _, hv _ rfl, e1, h, r⟩
/-- a list that is read -/
theorem Wd.seq (wd : Wd K ι H S) {v : V} {d : D} {xs : List P} (r : RD K ι H v d) (e : seqL d S = some xs) : ∃ a vs, v = .ref a ∧ Rd H a (.lst vs) ∧ RPs K ι H vs xs := by
  cases d with
  | p x =>
    cases x with
    | ro ys =>
      cases e
      cases r with
      | p r =>
        cases r with
        | ro h _ r => exact ⟨_, _, rfl, h, r⟩
    | _ => cases e
  | ref n =>
    have hy := seqL_ref e
    obtain ⟨a, vs, rfl, _, h, q⟩ := wd.lst r hy
    exact ⟨a, vs, rfl, .of h, q⟩
theorem Wd.seqA (wd : Wd K ι H S) {v : V} {d : D} {xs : List P} (r : RD K ι H v d) (e : seqA d S = some xs) : ∃ a vs, v = .ref a ∧ SqL K H a vs ∧ RPs K ι H vs xs := by
  unfold Cw.seqA at e
  split at e
  · cases e
    cases r with
    | p r =>
      cases r with
      | scr h r => exact ⟨_, _, rfl, h.sq, r⟩
  · obtain ⟨a, vs, e1, h, q⟩ := wd.seq r e
    exact ⟨a, vs, e1, .inl h, q⟩
theorem dgK {H : Hp} {a : Addr} {kvs : List (Key × V)} {k : Key} (e : Rd H a (.dK kvs)) : DGet H a (kV k) (valV kvs k) := .inl ⟨kvs, k, e, rfl, rfl⟩
theorem Wd.dct (wd : Wd K ι H S) {v : V} {d : D} {xs : List (Key × P)} (r : RD K ι H v d) (e : dicL d S = some xs) : ∃ a vs, v = .ref a ∧ Rd H a (.dK vs) ∧ RKs K ι H vs xs := by
  cases d with
  | p x =>
    cases x with
    | dic ys =>
      cases e
      cases r with
      | p r =>
        cases r with
        | dic h _ r => exact ⟨_, _, rfl, h, r⟩
    | _ => cases e
  | ref n =>
    have hy := dicL_ref e
    obtain ⟨a, vs, rfl, _, h, q⟩ := wd.dict r hy
    exact ⟨a, vs, rfl, .of h, q⟩
end
section
variable {K : PySem.W.Frag} {ι : Lk} {H : Hp}
theorem RPs.length : ∀ {vs : List V} {xs : List P}, RPs K ι H vs xs → vs.length = xs.length
  | _, _, .nil => rfl
  | _, _, .cons _ r => congrArg (· + 1) r.length
theorem RPs.get : ∀ {vs : List V} {xs : List P} {i : Nat} {x : P}, RPs K ι H vs xs → xs[i]? = some x → ∃ v, vs[i]? = some v ∧ RP K ι H v x
  | _, _, _, _, .nil, e => by simp at e
  | _, _, 0, _, .cons r _, e => by simp at e; subst e; exact ⟨_, rfl, r⟩
  | _, _, i + 1, x, .cons _ t, e => by
    obtain ⟨u, h1, h2⟩ := RPs.get (i := i) (x := x) t (by simpa using e)
    exact ⟨u, by simpa using h1, h2⟩
theorem RPs.app : ∀ {vs ws : List V} {xs ys : List P}, RPs K ι H vs xs → RPs K ι H ws ys → RPs K ι H (vs ++ ws) (xs ++ ys)
  | _, _, _, _, .nil, s => s
  | _, _, _, _, .cons r t, s => .cons r (t.app s)
theorem RPs.drop : ∀ {vs : List V} {xs : List P} (n : Nat), RPs K ι H vs xs → RPs K ι H (vs.drop n) (xs.drop n)
  | _, _, 0, r => r
  | _, _, _ + 1, .nil => .nil
  | _, _, n + 1, .cons _ t => t.drop n
theorem RPs.take : ∀ {vs : List V} {xs : List P} (n : Nat), RPs K ι H vs xs → RPs K ι H (vs.take n) (xs.take n)
  | _, _, 0, _ => .nil
  | _, _, _ + 1, .nil => .nil
  | _, _, n + 1, .cons r t => .cons r (t.take n)
theorem RPs.rep : ∀ {vs : List V} {xs : List P}, RPs K ι H vs xs → ∀ k : Nat, RPs K ι H (List.replicate k vs).flatten (List.replicate k xs).flatten
  | _, _, _, 0 => .nil
  | _, _, r, k + 1 => by
    rw [List.replicate_succ, List.replicate_succ, List.flatten_cons, List.flatten_cons]
    exact r.app (r.rep k)
theorem RPs.set {v : V} {x : P} (r : RP K ι H v x) : ∀ {vs : List V} {xs : List P} (i : Nat), RPs K ι H vs xs → RPs K ι H (vs.set i v) (xs.set i x)
  | _, _, _, .nil => .nil
  | _, _, 0, .cons _ t => .cons r t
  | _, _, i + 1, .cons q t => .cons q (RPs.set r i t)
theorem RPs.erase : ∀ {vs : List V} {xs : List P} (i : Nat), RPs K ι H vs xs → RPs K ι H (vs.eraseIdx i) (xs.eraseIdx i)
  | _, _, _, .nil => .nil
  | _, _, 0, .cons _ t => t
  | _, _, i + 1, .cons q t => .cons q (RPs.erase i t)
theorem RPs.rev {vs : List V} {xs : List P} (r : RPs K ι H vs xs) : RPs K ι H vs.reverse xs.reverse := by
  induction r using RPs.rec (motive_1 := fun _ _ _ => True) (motive_3 := fun _ _ _ => True) with
  | nil => exact .nil
  | cons r _ _ ih =>
    rw [List.reverse_cons, List.reverse_cons]
    exact ih.app (.cons r .nil)
  | _ => trivial
end

/-! ### names and constants -/
section
variable {X : Cx}
def cVar (i : Nat) : CE := fun ρ S => match ρ[i]? with
  | some (some d) => .ok d S
  | _ => .no
def cP (x : P) : CE := fun _ S => .ok (.p x) S
theorem re_var {i : Nat} {e : Expr} (h : PE X e (tVar i)) : PE X e (RdE X.K (cVar i)) := h.weak fun σ H Q ⟨ι, ρ, S, cf, d, S', e, k⟩ => by
  unfold cVar at e
  split at e
  · rename_i d' hd
    cases e
    obtain ⟨v, hv, r⟩ := cf.sv i _ hd
    exact ⟨v, hv, k v ι H (.refl _ _) cf.wd r⟩
  · cases e
theorem re_c {e : Expr} {v : V} {x : P} (h : PE X e (tC v)) (r : ∀ ι H, RP X.K ι H v x) : PE X e (RdE X.K (cP x)) := h.weak fun σ H Q ⟨ι, ρ, S, cf, d, S', e, k⟩ => by
  cases e
  exact k v ι H (.refl _ _) cf.wd (.p (r ι H))
theorem re_int {i j pos} : PE X (.Constant (.int i) j pos) (RdE X.K (cP (.int i))) := re_c pe_int fun _ _ => .int i
theorem re_bl {i j pos} : PE X (.Constant (.bool i) j pos) (RdE X.K (cP (.bl i))) := re_c pe_bl fun _ _ => .bl i
theorem re_non {j pos} : PE X (.Constant .none j pos) (RdE X.K (cP .non)) := re_c pe_non fun _ _ => .non
theorem re_str {i j pos} (h : PyData.strOk i = true := by decide +kernel) : PE X (.Constant (.str i) j pos) (RdE X.K (cP (.str i))) := re_c pe_str fun _ _ => .str h
end

/-! ### two places, by what the values are -/
/-- what a rule on values gives, where the data says so -/
def Lk2 (K : PySem.W.Frag) (r : R2) (g : D → D → Sto → R D) (x y : D) (S : Sto) : Prop :=
  ∀ (ι : Lk) (H : Hp) (v w : V) (d : D) (S' : Sto) (Q : VK), Wd K ι H S → RD K ι H v x → RD K ι H w y → g x y S = .ok d S' → (∀ z ι' H', Step ι H ι' H' → Wd K ι' H' S' → RD K ι' H' z d → Q z H') → r v w H Q
def c2 (g : D → D → Sto → R D) (ca cb : CE) : CE := fun ρ S => (ca ρ S).bind fun x S1 => (cb ρ S1).bind fun y S2 => g x y S2
/-- the ways of an expression of two parts -/
def Ways2 (X : Cx) (e a b : Expr) (g : D → D → Sto → R D) : Prop :=
  ∀ x y S d S', g x y S = .ok d S' → ∃ r, (∀ ta tb, PE X a ta → PE X b tb → PE X e (tOp r ta tb)) ∧ Lk2 X.K r g x y S
theorem re2 {X : Cx} {e a b : Expr} {g : D → D → Sto → R D} {ca cb : CE} (w : Ways2 X e a b g) (ha : PE X a (RdE X.K ca)) (hb : PE X b (RdE X.K cb)) : PE X e (RdE X.K (c2 g ca cb)) := by
  refine ⟨fun pins s σ H Q I ⟨ι, ρ, S, cf, d, S', e0, k⟩ => ?_⟩
  obtain ⟨x, S1, e1, e2⟩ := bind_ok e0
  obtain ⟨y, S2, e3, e4⟩ := bind_ok e2
  obtain ⟨r, he, hl⟩ := w x y S2 d S' e4
  refine (he _ _ ha hb).run pins s σ H Q I ?_
  refine RdE.run cf e1 fun v ι1 H1 st1 cf1 r1 => RdE.run cf1 e3 fun u ι2 H2 st2 cf2 r2 => ?_
  exact hl ι2 H2 v u d S' Q cf2.wd (r1.mono st2) r2 e4 fun z ι' H' st wd rz => k z ι' H' ((st1.trans st2).trans st) wd rz
/-- the same as a test -/
def bT (r : R D) : R Bool := r.bind fun d S => match d with
  | .p (.bl b) => .ok b S
  | _ => .no
theorem bT_ok {r : R D} {b : Bool} {S : Sto} (h : bT r = .ok b S) : r = .ok (.p (.bl b)) S := by
  obtain ⟨d, S1, e1, e2⟩ := bind_ok h
  cases d with
  | ref n => cases e2
  | p x =>
    cases x with
    | bl k => cases e2; exact e1
    | _ => cases e2
def cT (c : CE) : CT := fun ρ S => bT (c ρ S)
def Ways2T (X : Cx) (e a b : Expr) (g : D → D → Sto → R D) : Prop :=
  ∀ x y S d S', g x y S = .ok d S' → ∃ r, (∀ ta tb, PE X a ta → PE X b tb → PT X e (tTest (tOp r ta tb))) ∧ Lk2 X.K r g x y S
theorem rt2 {X : Cx} {e a b : Expr} {g : D → D → Sto → R D} {ca cb : CE} (w : Ways2T X e a b g) (ha : PE X a (RdE X.K ca)) (hb : PE X b (RdE X.K cb)) : PT X e (RdT X.K (cT (c2 g ca cb))) := by
  refine ⟨fun pins s σ H Q I ⟨ι, ρ, S, cf, d, S', e0, k⟩ => ?_⟩
  obtain ⟨x, S1, e1, e2⟩ := bind_ok (bT_ok e0)
  obtain ⟨y, S2, e3, e4⟩ := bind_ok e2
  obtain ⟨r, he, hl⟩ := w x y S2 _ S' e4
  refine (he _ _ ha hb).run pins s σ H Q I ?_
  show RdE X.K ca σ H _
  refine RdE.run cf e1 fun v ι1 H1 st1 cf1 r1 => RdE.run cf1 e3 fun u ι2 H2 st2 cf2 r2 => ?_
  refine hl ι2 H2 v u _ S' _ cf2.wd (r1.mono st2) r2 e4 fun z ι' H' st wd rz => ?_
  cases rz with
  | p rz =>
    cases rz
    exact ⟨_, rfl, k ι' H' ((st1.trans st2).trans st) wd⟩
/-- compares: both -/
theorem cmp_ways {X : Cx} {op : CmpOp} {a b : Expr} {pos : Pos} {g : D → D → Sto → R D} (hm : behindInMarks op b = false)
    (h : ∀ x y S d S', g x y S = .ok d S' → ∃ r, OpR X (compareOp op) r ∧ Lk2 X.K r g x y S) : Ways2 X (.Compare a [op] [b] pos) a b g ∧ Ways2T X (.Compare a [op] [b] pos) a b g :=
  ⟨fun x y S d S' e => let ⟨r, h1, h2⟩ := h x y S d S' e; ⟨r, fun _ _ ha hb => pe_cmpR h1 ha hb hm, h2⟩,
   fun x y S d S' e => let ⟨r, h1, h2⟩ := h x y S d S' e; ⟨r, fun _ _ ha hb => pt_cmpR h1 ha hb hm, h2⟩⟩
theorem op_ways {X : Cx} {op : Operator} {a b : Expr} {pos : Pos} {g : D → D → Sto → R D}
    (h : ∀ x y S d S', g x y S = .ok d S' → ∃ r, OpR X (binaryOp op) r ∧ Lk2 X.K r g x y S) : Ways2 X (.BinOp a op b pos) a b g :=
  fun x y S d S' e => let ⟨r, h1, h2⟩ := h x y S d S' e; ⟨r, fun _ _ ha hb => pe_op h1 ha hb, h2⟩

/-! #### whole numbers -/
def gInt (C : Int → Int → Prop) [∀ i j, Decidable (C i j)] (f : Int → Int → P) : D → D → Sto → R D
  | .p (.int i), .p (.int j), S => if C i j then .ok (.p (f i j)) S else .no
  | _, _, _ => .no
theorem lk_int {K : PySem.W.Frag} {C : Int → Int → Prop} [∀ i j, Decidable (C i j)] {f : Int → Int → P} {g : Int → Int → V} (hf : ∀ i j ι H, RP K ι H (g i j) (f i j)) (x y : D) (S : Sto) : Lk2 K (rI C g) (gInt C f) x y S := by
  intro ι H v w d S' Q wd r1 r2 e k
  unfold gInt at e
  split at e
  · rename_i i j
    split at e
    · rename_i hc
      cases e
      cases r1 with
      | p r1 =>
        cases r1
        cases r2 with
        | p r2 =>
          cases r2
          exact ⟨i, j, rfl, rfl, hc, k _ ι H (.refl _ _) wd (.p (hf i j ι H))⟩
    · cases e
  · cases e
theorem ways_int {X : Cx} {op : Operator} {a b : Expr} {pos : Pos} {C : Int → Int → Prop} [∀ i j, Decidable (C i j)] {f : Int → Int → Int} (h : OpR X (binaryOp op) (rI C fun i j => .int (f i j))) : Ways2 X (.BinOp a op b pos) a b (gInt C fun i j => .int (f i j)) :=
  op_ways fun x y S _ _ _ => ⟨_, h, lk_int (fun _ _ _ _ => .int _) x y S⟩
instance (i j : Int) : Decidable (CMul i j) := by unfold CMul; infer_instance
instance (i j : Int) : Decidable (CPow i j) := by unfold CPow; infer_instance
instance (i j : Int) : Decidable (CDivW i j) := by unfold CDivW; infer_instance
instance (i j : Int) : Decidable (CMulW i j) := by unfold CMulW; infer_instance
def CYes (_ _ : Int) : Prop := True
instance (i j : Int) : Decidable (CYes i j) := by unfold CYes; infer_instance
def CPos (_ j : Int) : Prop := 0 < j
instance (i j : Int) : Decidable (CPos i j) := by unfold CPos; infer_instance
def CNn (_ j : Int) : Prop := 0 ≤ j
instance (i j : Int) : Decidable (CNn i j) := by unfold CNn; infer_instance
theorem op0 {X : Cx} {f : Value → Value → Sem Value} {g : Int → Int → V} (h : OpR X f (rI0 g)) : OpR X f (rI CYes g) := fun pins s σ H x y v u Q I rx ry ⟨i, j, a, b, _, q⟩ => h pins s σ H x y v u Q I rx ry ⟨i, j, a, b, q⟩
def gSub := gInt CYes fun i j => .int (i - j)
def gMod := gInt CPos fun i j => .int (i % j)
def gDiv := gInt CDivW fun i j => .int (i / j)
def gPow := gInt CPow fun i j => .int (i ^ j.toNat)
def gShl := gInt CPow fun i j => .int (i * 2 ^ j.toNat)
def gShr := gInt CNn fun i j => .int (i / 2 ^ j.toNat)
section
variable {X : Cx} {a b : Expr} {ca cb : CE} {pos : Pos}
theorem re_sub (ha : PE X a (RdE X.K ca)) (hb : PE X b (RdE X.K cb)) : PE X (.BinOp a .Sub b pos) (RdE X.K (c2 gSub ca cb)) := re2 (ways_int (op0 op_sub)) ha hb
theorem re_mod (ha : PE X a (RdE X.K ca)) (hb : PE X b (RdE X.K cb)) : PE X (.BinOp a .Mod b pos) (RdE X.K (c2 gMod ca cb)) := re2 (ways_int (C := CPos) op_mod) ha hb
theorem re_div (ha : PE X a (RdE X.K ca)) (hb : PE X b (RdE X.K cb)) : PE X (.BinOp a .FloorDiv b pos) (RdE X.K (c2 gDiv ca cb)) := re2 (ways_int op_fdivW) ha hb
theorem re_pow (ha : PE X a (RdE X.K ca)) (hb : PE X b (RdE X.K cb)) : PE X (.BinOp a .Pow b pos) (RdE X.K (c2 gPow ca cb)) := re2 (ways_int op_pow) ha hb
theorem re_shl (ha : PE X a (RdE X.K ca)) (hb : PE X b (RdE X.K cb)) : PE X (.BinOp a .LShift b pos) (RdE X.K (c2 gShl ca cb)) := re2 (ways_int op_shl) ha hb
theorem re_shr (ha : PE X a (RdE X.K ca)) (hb : PE X b (RdE X.K cb)) : PE X (.BinOp a .RShift b pos) (RdE X.K (c2 gShr ca cb)) := re2 (ways_int (C := CNn) op_shr) ha hb
end
end Cw
set_option Elab.async false
set_option linter.all false
set_option maxRecDepth 100000
set_option maxHeartbeats 4000000
/-! Cw3: expressions, further. -/
namespace Cw
open PySem PySem.Spec PyProof.Rows L2

section
variable {K : PySem.W.Frag} {ι : Lk} {H : Hp} {S : Sto}
theorem RD.intD {v : V} {i : Int} (r : RD K ι H v (.p (.int i))) : v = .int i := by cases r with | p r => cases r; rfl
theorem RD.strD {v : V} {i : Str} (r : RD K ι H v (.p (.str i))) : v = .str i ∧ PyData.strOk i = true := by cases r with | p r => cases r; exact ⟨rfl, by assumption⟩
theorem RD.blD {v : V} {i : Bool} (r : RD K ι H v (.p (.bl i))) : v = .bl i := by cases r with | p r => cases r; rfl
theorem RD.nonD {v : V} (r : RD K ι H v (.p .non)) : v = .non := by cases r with | p r => cases r; rfl
theorem RD.tupD {v : V} {xs : List P} (r : RD K ι H v (.p (.tup xs))) : ∃ a vs, v = .ref a ∧ TupAt K ι H a vs ∧ RPs K ι H vs xs := by cases r with | p r => cases r; exact ⟨_, _, rfl, by assumption, by assumption⟩
theorem TupAt.new {a : Addr} {vs : List V} {o : Obj} (wd : Wd K ι H S) (h : H a = none) (hd : o.dict = none) : TupAt K ι (upd H a (.frz o (.tup vs))) a vs := .inl ⟨⟨o, hd, upd_same⟩, wd.fresh h⟩
/-- a new tuple, a new list that stands -/
theorem RD.newTup {a : Addr} {vs : List V} {xs : List P} {o : Obj} (wd : Wd K ι H S) (h : H a = none) (hd : o.dict = none) (r : RPs K ι H vs xs) : RD K ι (upd H a (.frz o (.tup vs))) (.ref a) (.p (.tup xs)) := .p (.tup (TupAt.new wd h hd) (r.mono (Step.new1 wd h _)))
theorem RD.newRo {a : Addr} {vs : List V} {xs : List P} (wd : Wd K ι H S) (h : H a = none) (r : RPs K ι H vs xs) : RD K ι (upd H a (.lst vs)) (.ref a) (.p (.ro xs)) := .p (.ro (.inl upd_same) (wd.fresh h) (r.mono (Step.new1 wd h _)))
end
theorem strOk_app {i j : Str} (h1 : PyData.strOk i = true) (h2 : PyData.strOk j = true) : PyData.strOk (i ++ j) = true := by
  show (i.cps ++ j.cps).all _ = true
  rw [Array.all_append]
  simp only [PyData.strOk] at h1 h2
  rw [h1, h2]; rfl
/-! ### adding -/
/-- list + list, lists that stand too -/
def rCatR : R2 := fun x y H Q => ∃ l b xs zs, x = .ref l ∧ y = .ref b ∧ Rd H l (.lst xs) ∧ Rd H b (.lst zs) ∧ xs.length + zs.length ≤ sizeLine ∧ ∀ p, H p = none → Q (.ref p) (upd H p (.lst (xs ++ zs)))
theorem lstR {X : Cx} {pins : List (Addr × Obj)} {σ : L2.St} {H : Hp} {s : Shared} {l : Addr} {xs : List V} (I : Inv X pins σ H s) (hH : Rd H l (.lst xs)) : xs.length ≤ sizeLine ∧ ∃ (its : List Value) (n : Nat), Vals xs its ∧ xs.length = its.length ∧ s.heap.get? l = some { cls := .type "list", data := .seq its.toArray n } := by
  obtain ⟨z, its, n, r, e⟩ := hH.ok I.hok
  exact ⟨z, its, n, r, r.length, e⟩
theorem op_catR {X : Cx} : OpR X (binaryOp .Add) rCatR := by
  intro pins s σ H x y v u Q I rx ry h
  obtain ⟨l, b, xs, zs, rfl, rfl, hH, hB, hz, q⟩ := h
  cases rx
  cases ry
  obtain ⟨z, its, n, r, hl, e⟩ := lstR I hH
  obtain ⟨z2, its2, n2, r2, hl2, e2⟩ := lstR I hB
  refine PySem.P.add_list e e2 ?_ (by rw [List.size_toArray, List.size_toArray]; omega)
  have ea : its.toArray ++ its2.toArray = (its ++ its2).toArray := by simp
  rw [ea]
  exact ⟨.ref _, _, L2.Inv.lnew (t' := s.toks) I (r.append r2) (by rw [List.length_append]; omega), rfl, q _ (L2.Inv.fresh I)⟩
def gCat (xs ys : Option (List P)) (S : Sto) : R D := match xs, ys with
  | some xs, some ys => if xs.length + ys.length ≤ sizeLine then .ok (.p (.ro (xs ++ ys))) S else .no
  | _, _ => .no
def gAdd : D → D → Sto → R D
  | .p (.int i), .p (.int j), S => .ok (.p (.int (i + j))) S
  | .p (.str i), .p (.str j), S => if i.length + j.length ≤ sizeLine then .ok (.p (.str (i ++ j))) S else .no
  | .p (.tup xs), .p (.tup ys), S => if xs.length + ys.length ≤ sizeLine then .ok (.p (.tup (xs ++ ys))) S else .no
  | x, y, S => gCat (seqL x S) (seqL y S) S
theorem add_ways {X : Cx} (x y : D) (S : Sto) (d : D) (S' : Sto) (e : gAdd x y S = .ok d S') : ∃ r, OpR X (binaryOp .Add) r ∧ Lk2 X.K r gAdd x y S := by
  unfold gAdd at e
  split at e
  · refine ⟨_, op_add, fun ι H v w d S' Q wd r1 r2 e k => ?_⟩
    cases e
    cases r1.intD; cases r2.intD
    exact ⟨_, _, rfl, rfl, k _ ι H (.refl _ _) wd (.p (.int _))⟩
  · refine ⟨_, op_add_str, fun ι H v w d S' Q wd r1 r2 e k => ?_⟩
    simp only [gAdd] at e
    split at e
    · rename_i hc
      cases e
      obtain ⟨rfl, o1⟩ := r1.strD
      obtain ⟨rfl, o2⟩ := r2.strD
      exact ⟨_, _, rfl, rfl, hc, k _ ι H (.refl _ _) wd (.p (.str (strOk_app o1 o2)))⟩
    · cases e
  · refine ⟨_, op_catN, fun ι H v w d S' Q wd r1 r2 e k => ?_⟩
    simp only [gAdd] at e
    split at e
    · rename_i hc
      cases e
      obtain ⟨a, vs, rfl, h1, q1⟩ := r1.tupD
      obtain ⟨b, ws, rfl, h2, q2⟩ := r2.tupD
      refine ⟨a, b, vs, ws, rfl, rfl, h1.sq, h2.sq, by rw [q1.length, q2.length]; exact hc, fun z => ?_, fun _ z => ?_, fun _ _ p o hp hd => ?_⟩
      · subst z
        refine k _ ι H (.refl _ _) wd (.p (.tup h2 ?_))
        exact q1.app q2
      · subst z
        refine k _ ι H (.refl _ _) wd (.p (.tup h1 ?_))
        have := q1.app q2
        rwa [List.append_nil] at this
      · exact k _ ι _ (Step.new1 wd hp _) (wd.new1 hp _) (RD.newTup wd hp hd (q1.app q2))
    · cases e
  · rename_i n1 n2 n3
    refine ⟨_, op_catR, fun ι H v w d S' Q wd r1 r2 e k => ?_⟩
    rw [gAdd] at e
    · unfold gCat at e
      split at e
      · rename_i xs ys h1 h2
        split at e
        · rename_i hc
          cases e
          obtain ⟨a, vs, rfl, g1, q1⟩ := wd.seq r1 h1
          obtain ⟨b, ws, rfl, g2, q2⟩ := wd.seq r2 h2
          exact ⟨a, b, vs, ws, rfl, rfl, g1, g2, by rw [q1.length, q2.length]; exact hc, fun p hp => k _ ι _ (Step.new1 wd hp _) (wd.new1 hp _) (RD.newRo wd hp (q1.app q2))⟩
        · cases e
      · cases e
    all_goals assumption
section
variable {X : Cx} {a b : Expr} {ca cb : CE} {pos : Pos}
theorem re_add (ha : PE X a (RdE X.K ca)) (hb : PE X b (RdE X.K cb)) : PE X (.BinOp a .Add b pos) (RdE X.K (c2 gAdd ca cb)) := re2 (op_ways add_ways) ha hb
end

/-! ### times -/
def rRepR : R2 := fun x y H Q => ∃ l k xs, x = .ref l ∧ y = .int k ∧ H l = some (.lst xs) ∧ -(2 ^ 63) ≤ k ∧ k < 2 ^ 63 ∧ xs.length * k.toNat ≤ sizeLine ∧
  ∀ p, H p = none → Q (.ref p) (upd H p (.lst (List.replicate k.toNat xs).flatten))
def CMulA (i j : Int) : Prop := CMul i j ∨ CMulW i j
instance (i j : Int) : Decidable (CMulA i j) := by unfold CMulA; infer_instance
theorem op_mulA {X : Cx} : OpR X (binaryOp .Mult) (rI CMulA fun i j => .int (i * j)) := fun pins s σ H x y v u Q I rx ry ⟨i, j, e1, e2, hc, q⟩ => by
  rcases hc with hc | hc
  · exact op_mul pins s σ H x y v u Q I rx ry ⟨i, j, e1, e2, hc, q⟩
  · exact op_mulW pins s σ H x y v u Q I rx ry ⟨i, j, e1, e2, hc, q⟩
def gMul := gInt CMulA fun i j => .int (i * j)
theorem re_mul {X : Cx} {a b : Expr} {ca cb : CE} {pos : Pos} (ha : PE X a (RdE X.K ca)) (hb : PE X b (RdE X.K cb)) : PE X (.BinOp a .Mult b pos) (RdE X.K (c2 gMul ca cb)) := re2 (ways_int op_mulA) ha hb

/-! ### == of data -/
mutual
def P.data : P → PyData
  | .non => .none
  | .bl b => .bool b
  | .int i => .int i
  | .str s => .str s
  | .tup xs => .tuple (P.datas xs)
  | .ro xs => .list (P.datas xs)
  | .scr xs => .list (P.datas xs)
  | .dic _ => .dict []
def P.datas : List P → List PyData
  | [] => []
  | x :: xs => x.data :: P.datas xs
end
mutual
/-- how deep; a dict is beyond -/
def P.dep : P → Nat
  | .tup xs => P.deps xs + 1
  | .ro xs => P.deps xs + 1
  | .scr xs => P.deps xs + 1
  | .dic _ => 1000
  | _ => 0
def P.deps : List P → Nat
  | [] => 0
  | x :: xs => max x.dep (P.deps xs)
end
mutual
theorem dep_data : ∀ x : P, x.dep ≤ 64 → x.data.depth = x.dep
  | .non, _ => rfl
  | .bl _, _ => rfl
  | .int _, _ => rfl
  | .str _, _ => rfl
  | .tup xs, h => by
    simp only [P.dep] at h ⊢
    rw [P.data, PyData.depth, dep_datas xs (by omega)]
  | .ro xs, h => by
    simp only [P.dep] at h ⊢
    rw [P.data, PyData.depth, dep_datas xs (by omega)]
  | .scr xs, h => by
    simp only [P.dep] at h ⊢
    rw [P.data, PyData.depth, dep_datas xs (by omega)]
  | .dic _, h => by simp only [P.dep] at h; omega
theorem dep_datas : ∀ xs : List P, P.deps xs ≤ 64 → PyData.depthAll (P.datas xs) = P.deps xs
  | [], _ => rfl
  | x :: xs, h => by
    simp only [P.deps] at h ⊢
    rw [P.datas, PyData.depthAll, dep_data x (by omega), dep_datas xs (by omega)]
end
section
variable {K : PySem.W.Frag} {ι : Lk} {H : Hp}
mutual
theorem RP.dp : ∀ {v : V} {x : P}, RP K ι H v x → x.dep ≤ 64 → Dp K H v x.data ∧ x.data.canLay0 = true
  | _, _, .non, _ => ⟨.non, rfl⟩
  | _, _, .bl b, _ => ⟨.bl b, rfl⟩
  | _, _, .int i, _ => ⟨.int i, rfl⟩
  | _, _, .str h, _ => ⟨.str _, by rw [P.data, PyData.canLay0]; exact h⟩
  | _, _, .tup h r, hd => by
    simp only [P.dep] at hd
    have ⟨a, b⟩ := RPs.dp r (by omega)
    exact ⟨.tup h.sq a, by rw [P.data, PyData.canLay0]; exact b⟩
  | _, _, .ro h hn r, hd => by
    simp only [P.dep] at hd
    have ⟨a, b⟩ := RPs.dp r (by omega)
    exact ⟨.lst (.inl h) a, by rw [P.data, PyData.canLay0]; exact b⟩
  | _, _, .scr h r, hd => by
    simp only [P.dep] at hd
    have ⟨a, b⟩ := RPs.dp r (by omega)
    exact ⟨.lst h.sq a, by rw [P.data, PyData.canLay0]; exact b⟩
  | _, _, .dic _ _ _, hd => by simp only [P.dep] at hd; omega
theorem RPs.dp : ∀ {v : List V} {x : List P}, RPs K ι H v x → P.deps x ≤ 64 → DpAll K H v (P.datas x) ∧ PyData.canLayAll0 (P.datas x) = true
  | _, _, .nil, _ => ⟨.nil, rfl⟩
  | _, _, .cons h r, hd => by
    simp only [P.deps] at hd
    have ⟨a, b⟩ := RP.dp h (by omega)
    have ⟨c, d⟩ := RPs.dp r (by omega)
    exact ⟨.cons a c, by rw [P.datas, PyData.canLayAll0, b, d]; rfl⟩
end
end
/-- a value as it stands -/
def nowP : D → Sto → Option P
  | .p x, _ => some x
  | .ref n, S => match S[n]? with
    | some (.lst xs) => some (.ro xs)
    | some (.dic kvs) => some (.dic kvs)
    | _ => none
section
variable {K : PySem.W.Frag} {ι : Lk} {H : Hp} {S : Sto}
theorem now_dp (wd : Wd K ι H S) {v : V} {d : D} {x : P} (r : RD K ι H v d) (e : nowP d S = some x) (hd : x.dep ≤ 64) : Dp K H v x.data ∧ SeqAt.shaped x.data = true := by
  have fin : Dp K H v x.data ∧ x.data.canLay0 = true → Dp K H v x.data ∧ SeqAt.shaped x.data = true := fun ⟨a, b⟩ => ⟨a, by
    unfold SeqAt.shaped
    rw [b, dep_data x hd, decide_eq_true hd]; rfl⟩
  cases d with
  | p y =>
    cases e
    cases r with
    | p r => exact fin (r.dp hd)
  | ref n =>
    simp only [nowP] at e
    split at e
    · rename_i xs hx
      cases e
      obtain ⟨a, vs, rfl, _, h, q⟩ := wd.lst r hx
      simp only [P.dep] at hd
      have ⟨c, b⟩ := q.dp (by omega)
      exact fin ⟨.lst (.of h) c, by rw [P.data, PyData.canLay0]; exact b⟩
    · rename_i xs hx
      cases e
      simp only [P.dep] at hd
      omega
    · cases e
end
def P.eqv (x y : P) : Bool := PyData.eqv x.data y.data
def gEqB (neg : Bool) (x y : D) (S : Sto) : R D := match nowP x S, nowP y S with
  | some a, some b => if a.dep ≤ 64 ∧ b.dep ≤ 64 then .ok (.p (.bl (if neg then !a.eqv b else a.eqv b))) S else .no
  | _, _ => .no
theorem eq_ways {X : Cx} (hu : X.A.units + 65 < cLine) (neg : Bool) (x y : D) (S : Sto) (d : D) (S' : Sto) (e : gEqB neg x y S = .ok d S') : ∃ r, OpR X (compareOp (if neg then .NotEq else .Eq)) r ∧ Lk2 X.K r (gEqB neg) x y S := by
  have lk : ∀ (ι : Lk) (H : Hp) (v w : V) (d : D) (S' : Sto) (Q : VK), Wd X.K ι H S → RD X.K ι H v x → RD X.K ι H w y → gEqB neg x y S = .ok d S' → (∀ z ι' H', Step ι H ι' H' → Wd X.K ι' H' S' → RD X.K ι' H' z d → Q z H') →
      ∃ d e, Dp X.K H v d ∧ Dp X.K H w e ∧ SeqAt.shaped d = true ∧ SeqAt.shaped e = true ∧ Q (.bl (if neg then !PyData.eqv d e else PyData.eqv d e)) H := fun ι H v w d S' Q wd r1 r2 e k => by
    unfold gEqB at e
    split at e
    · rename_i a b h1 h2
      split at e
      · rename_i hc
        cases e
        obtain ⟨p1, p2⟩ := now_dp wd r1 h1 hc.1
        obtain ⟨p3, p4⟩ := now_dp wd r2 h2 hc.2
        exact ⟨_, _, p1, p3, p2, p4, k _ ι H (.refl _ _) wd (.p (.bl _))⟩
      · cases e
    · cases e
  cases neg with
  | false => exact ⟨_, op_eqD (by omega), fun ι H v w d S' Q wd r1 r2 e k => lk ι H v w d S' Q wd r1 r2 e k⟩
  | true => exact ⟨_, op_neD (by omega), fun ι H v w d S' Q wd r1 r2 e k => lk ι H v w d S' Q wd r1 r2 e k⟩
section
variable {X : Cx} {a b : Expr} {ca cb : CE} {pos : Pos}
theorem re_eq (hu : X.A.units + 65 < cLine) (ha : PE X a (RdE X.K ca)) (hb : PE X b (RdE X.K cb)) : PE X (.Compare a [.Eq] [b] pos) (RdE X.K (c2 (gEqB false) ca cb)) := re2 (cmp_ways (nomark _) (eq_ways hu false)).1 ha hb
theorem re_ne (hu : X.A.units + 65 < cLine) (ha : PE X a (RdE X.K ca)) (hb : PE X b (RdE X.K cb)) : PE X (.Compare a [.NotEq] [b] pos) (RdE X.K (c2 (gEqB true) ca cb)) := re2 (cmp_ways (nomark _) (eq_ways hu true)).1 ha hb
theorem rt_eq (hu : X.A.units + 65 < cLine) (ha : PE X a (RdE X.K ca)) (hb : PE X b (RdE X.K cb)) : PT X (.Compare a [.Eq] [b] pos) (RdT X.K (cT (c2 (gEqB false) ca cb))) := rt2 (cmp_ways (nomark _) (eq_ways hu false)).2 ha hb
theorem rt_ne (hu : X.A.units + 65 < cLine) (ha : PE X a (RdE X.K ca)) (hb : PE X b (RdE X.K cb)) : PT X (.Compare a [.NotEq] [b] pos) (RdT X.K (cT (c2 (gEqB true) ca cb))) := rt2 (cmp_ways (nomark _) (eq_ways hu true)).2 ha hb
/-! ### order of whole numbers -/
theorem ways_cmpI {op : CmpOp} {f : Int → Int → Bool} (h : OpR X (compareOp op) (rI0 fun i j => .bl (f i j))) (hm : op ≠ .In := by decide) (hm2 : op ≠ .NotIn := by decide) :
    Ways2 X (.Compare a [op] [b] pos) a b (gInt CYes fun i j => .bl (f i j)) ∧ Ways2T X (.Compare a [op] [b] pos) a b (gInt CYes fun i j => .bl (f i j)) :=
  cmp_ways (nomark _ hm hm2) fun x y S _ _ _ => ⟨_, op0 h, lk_int (fun _ _ _ _ => .bl _) x y S⟩
def gLt := gInt CYes fun i j => .bl (decide (i < j))
def gLe := gInt CYes fun i j => .bl (decide (i ≤ j))
def gGt := gInt CYes fun i j => .bl (decide (j < i))
def gGe := gInt CYes fun i j => .bl (decide (j ≤ i))
theorem re_lt (ha : PE X a (RdE X.K ca)) (hb : PE X b (RdE X.K cb)) : PE X (.Compare a [.Lt] [b] pos) (RdE X.K (c2 gLt ca cb)) := re2 (ways_cmpI op_lt).1 ha hb
theorem rt_lt (ha : PE X a (RdE X.K ca)) (hb : PE X b (RdE X.K cb)) : PT X (.Compare a [.Lt] [b] pos) (RdT X.K (cT (c2 gLt ca cb))) := rt2 (ways_cmpI op_lt).2 ha hb
theorem re_le (ha : PE X a (RdE X.K ca)) (hb : PE X b (RdE X.K cb)) : PE X (.Compare a [.LtE] [b] pos) (RdE X.K (c2 gLe ca cb)) := re2 (ways_cmpI op_le).1 ha hb
theorem rt_le (ha : PE X a (RdE X.K ca)) (hb : PE X b (RdE X.K cb)) : PT X (.Compare a [.LtE] [b] pos) (RdT X.K (cT (c2 gLe ca cb))) := rt2 (ways_cmpI op_le).2 ha hb
theorem re_gt (ha : PE X a (RdE X.K ca)) (hb : PE X b (RdE X.K cb)) : PE X (.Compare a [.Gt] [b] pos) (RdE X.K (c2 gGt ca cb)) := re2 (ways_cmpI op_gt).1 ha hb
theorem rt_gt (ha : PE X a (RdE X.K ca)) (hb : PE X b (RdE X.K cb)) : PT X (.Compare a [.Gt] [b] pos) (RdT X.K (cT (c2 gGt ca cb))) := rt2 (ways_cmpI op_gt).2 ha hb
theorem re_ge (ha : PE X a (RdE X.K ca)) (hb : PE X b (RdE X.K cb)) : PE X (.Compare a [.GtE] [b] pos) (RdE X.K (c2 gGe ca cb)) := re2 (ways_cmpI op_ge).1 ha hb
theorem rt_ge (ha : PE X a (RdE X.K ca)) (hb : PE X b (RdE X.K cb)) : PT X (.Compare a [.GtE] [b] pos) (RdT X.K (cT (c2 gGe ca cb))) := rt2 (ways_cmpI op_ge).2 ha hb
/-! ### is None -/
def isN : D → Bool
  | .p .non => true
  | _ => false
theorem isN_rel {K : PySem.W.Frag} {ι : Lk} {H : Hp} {S : Sto} (wd : Wd K ι H S) {v : V} {d : D} (r : RD K ι H v d) (hg : ∀ n, d = .ref n → S[n]? ≠ some .gone ∧ n < S.length) : decide (v = .non) = isN d := by
  cases r with
  | p r => cases r <;> rfl
  | @ref n o e h =>
    obtain ⟨h1, h2⟩ := hg n rfl
    have q := wd.ob n _ (List.getElem?_eq_getElem h2)
    rw [e] at q
    rw [List.getElem?_eq_getElem h2] at h1
    generalize S[n] = z at q h1
    cases q with
    | lst _ _ => rw [h _ rfl]; rfl
    | dic _ _ => rw [h _ rfl]; rfl
    | gone => exact absurd rfl h1
def gIs (neg : Bool) : D → D → Sto → R D
  | .p x, .p .non, S => .ok (.p (.bl (if neg then !isN (.p x) else isN (.p x)))) S
  | _, _, _ => .no
theorem is_ways {X : Cx} (neg : Bool) (x y : D) (S : Sto) (d : D) (S' : Sto) (e : gIs neg x y S = .ok d S') : ∃ r, OpR X (compareOp (if neg then .IsNot else .Is)) r ∧ Lk2 X.K r (gIs neg) x y S := by
  unfold gIs at e
  split at e
  · rename_i x _
    cases neg with
    | false =>
      refine ⟨_, op_isN, fun ι H v w d S' Q wd r1 r2 e k => ?_⟩
      cases e
      cases r2.nonD
      refine ⟨rfl, ?_⟩
      rw [isN_rel wd r1 fun n z => nomatch z]
      exact k _ ι H (.refl _ _) wd (.p (.bl _))
    | true =>
      refine ⟨_, op_notN, fun ι H v w d S' Q wd r1 r2 e k => ?_⟩
      cases e
      cases r2.nonD
      refine ⟨rfl, ?_⟩
      rw [isN_rel wd r1 fun n z => nomatch z]
      exact k _ ι H (.refl _ _) wd (.p (.bl _))
  · cases e
theorem re_is (ha : PE X a (RdE X.K ca)) (hb : PE X b (RdE X.K cb)) : PE X (.Compare a [.Is] [b] pos) (RdE X.K (c2 (gIs false) ca cb)) := re2 (cmp_ways (nomark _) (is_ways false)).1 ha hb
theorem re_isnt (ha : PE X a (RdE X.K ca)) (hb : PE X b (RdE X.K cb)) : PE X (.Compare a [.IsNot] [b] pos) (RdE X.K (c2 (gIs true) ca cb)) := re2 (cmp_ways (nomark _) (is_ways true)).1 ha hb
theorem rt_is (ha : PE X a (RdE X.K ca)) (hb : PE X b (RdE X.K cb)) : PT X (.Compare a [.Is] [b] pos) (RdT X.K (cT (c2 (gIs false) ca cb))) := rt2 (cmp_ways (nomark _) (is_ways false)).2 ha hb
theorem rt_isnt (ha : PE X a (RdE X.K ca)) (hb : PE X b (RdE X.K cb)) : PT X (.Compare a [.IsNot] [b] pos) (RdT X.K (cT (c2 (gIs true) ca cb))) := rt2 (cmp_ways (nomark _) (is_ways true)).2 ha hb
end
end Cw
set_option Elab.async false
set_option linter.all false
set_option maxRecDepth 100000
set_option maxHeartbeats 4000000
/-! Cw4: in, chains, and, or, subscripts, slices, displays, built-ins. -/
namespace Cw
open PySem PySem.Spec PyProof.Rows L2

/-! ### in -/
def flatP : P → Bool
  | .non => true | .bl _ => true | .int _ => true | .str _ => true
  | _ => false
def keyP : P → Option Key
  | .int i => some (.inl i)
  | .str s => some (.inr s)
  | _ => none
def lookK (kvs : List (Key × P)) (k : Key) : Option P := (kvs.find? fun kv => decide (kv.1 = k)).map (·.2)
section
variable {K : PySem.W.Frag} {ι : Lk} {H : Hp}
theorem RP.flat {v : V} {x : P} (r : RP K ι H v x) : flatV v = flatP x := by cases r <;> rfl
theorem RP.eqF {v w : V} {x y : P} (r : RP K ι H v x) (q : RP K ι H w y) (hx : flatP x = true) (hy : flatP y = true) : eqV v w = x.eqv y := by
  cases r <;> first | (cases hx; done) | (cases q <;> first | (cases hy; done) | (simp [eqV, P.eqv, P.data, PyData.eqv]))
theorem RP.key {v : V} {x : P} {k : Key} (r : RP K ι H v x) (h : keyP x = some k) : v = kV k := by
  cases r <;> first | (cases h; rfl) | cases h
theorem RPs.flats : ∀ {vs : List V} {xs : List P}, RPs K ι H vs xs → vs.all flatV = xs.all flatP
  | _, _, .nil => rfl
  | _, _, .cons r t => by rw [List.all_cons, List.all_cons, r.flat, t.flats]
theorem RPs.inF {w : V} {y : P} (q : RP K ι H w y) (hy : flatP y = true) : ∀ {vs : List V} {xs : List P}, RPs K ι H vs xs → xs.all flatP = true → inV w vs = xs.any fun x => x.eqv y
  | _, _, .nil, _ => rfl
  | _, _, .cons r t, h => by
    rw [List.all_cons, Bool.and_eq_true] at h
    have ih := RPs.inF q hy t h.2
    unfold inV at ih ⊢
    rw [List.any_cons, List.any_cons, r.eqF q h.1 hy, ih]
theorem RKs.look : ∀ {vs : List (Key × V)} {xs : List (Key × P)} (k : Key), RKs K ι H vs xs → (∀ x, lookK xs k = some x → ∃ v, valV vs k = some v ∧ RP K ι H v x) ∧ (lookK xs k = none → valV vs k = none)
  | _, _, k, .nil => ⟨fun x h => (by cases h), fun _ => rfl⟩
  | _, _, k, .cons (k := k') (v := v) (x := y) r t => by
    have ⟨ih1, ih2⟩ := RKs.look k t
    by_cases e : k' = k
    · subst e
      have e1 : ∀ {α : Type} (a : α) (l : List (Key × α)), (((k', a) :: l).find? fun kv => decide (kv.1 = k')).map (·.2) = some a := fun a l => by simp [List.find?_cons]
      exact ⟨fun x h => ⟨v, e1 _ _, by rw [lookK, e1] at h; cases h; exact r⟩, fun h => by rw [lookK, e1] at h; cases h⟩
    · have e1 : ∀ {α : Type} (a : α) (l : List (Key × α)), (((k', a) :: l).find? fun kv => decide (kv.1 = k)).map (·.2) = (l.find? fun kv => decide (kv.1 = k)).map (·.2) := fun a l => by simp [List.find?_cons, e]
      refine ⟨fun x h => ?_, fun h => ?_⟩
      · rw [lookK, e1] at h
        obtain ⟨w, h1, h2⟩ := ih1 x h
        exact ⟨w, (e1 _ _).trans h1, h2⟩
      · rw [lookK, e1] at h
        exact (e1 _ _).trans (ih2 h)
theorem RKs.length : ∀ {vs : List (Key × V)} {xs : List (Key × P)}, RKs K ι H vs xs → vs.length = xs.length
  | _, _, .nil => rfl
  | _, _, .cons _ r => congrArg (· + 1) r.length
end
/-- items of a list or a tuple, the script too -/
def itemsA : D → Sto → Option (List P)
  | .p (.tup xs), _ => some xs
  | d, S => seqA d S
theorem Wd.items {K : PySem.W.Frag} {ι : Lk} {H : Hp} {S : Sto} (wd : Wd K ι H S) {v : V} {d : D} {xs : List P} (r : RD K ι H v d) (e : itemsA d S = some xs) : ∃ a vs, v = .ref a ∧ (SqL K H a vs ∨ SqT K H a vs) ∧ RPs K ι H vs xs := by
  unfold itemsA at e
  split at e
  · cases e
    obtain ⟨a, vs, e1, h, q⟩ := r.tupD
    exact ⟨a, vs, e1, .inr h.sq, q⟩
  · obtain ⟨a, vs, e1, h, q⟩ := wd.seqA r e
    exact ⟨a, vs, e1, .inl h, q⟩
def inList (x : P) (xs : List P) : Bool := xs.any fun z => z.eqv x
/-- one sign, a text -/
def sign1 : P → D → Option (Nat × Str)
  | .str ⟨⟨[c]⟩⟩, .p (.str z) => some (c, z)
  | _, _ => none
theorem sign1_eq {x : P} {y : D} {c : Nat} {z : Str} (h : sign1 x y = some (c, z)) : x = .str ⟨⟨[c]⟩⟩ ∧ y = .p (.str z) := by
  unfold sign1 at h
  split at h
  · cases h; exact ⟨rfl, rfl⟩
  · cases h
def gInB (neg : Bool) (x y : D) (S : Sto) : R D := match x with
  | .ref _ => .no
  | .p x => match dicL y S with
    | some kvs => match keyP x with
      | some k => .ok (.p (.bl (if neg then !(lookK kvs k).isSome else (lookK kvs k).isSome))) S
      | none => .no
    | none => match sign1 x y with
      | some (c, z) => .ok (.p (.bl (if neg then !decide (c ∈ z.cps.toList) else decide (c ∈ z.cps.toList)))) S
      | none => match itemsA y S with
        | some xs => if flatP x && xs.all flatP then .ok (.p (.bl (if neg then !inList x xs else inList x xs))) S else
          match seqL y S with
          | some xs => if x.dep ≤ 64 ∧ P.deps xs < 64 then .ok (.p (.bl (if neg then !inList x xs else inList x xs))) S else .no
          | none => .no
        | none => .no
theorem any_data (x : P) : ∀ xs : List P, ((P.datas xs).any fun z => PyData.eqv z x.data) = inList x xs
  | [] => rfl
  | y :: ys => by
    unfold inList
    rw [P.datas, List.any_cons, List.any_cons, any_data x ys]
    rfl
theorem op_dinA {X : Cx} (hu : X.A.units + 65 < cLine) : OpR X (compareOp .In) (fun y x H2 Q => ∃ a o, x = .ref a ∧ DGet H2 a y o ∧ Q (.bl o.isSome) H2) := by
  intro pins s σ H x y v u Q I rx ry h
  obtain ⟨a, o, rfl, g, q⟩ := h
  obtain rfl : u = Value.ref a := ry
  exact d_in (by omega) I g rx fun s3 I3 => ⟨.bl o.isSome, H, I3, rfl, q⟩
theorem op_dninA {X : Cx} (hu : X.A.units + 65 < cLine) : OpR X (compareOp .NotIn) (fun y x H2 Q => ∃ a o, x = .ref a ∧ DGet H2 a y o ∧ Q (.bl (!o.isSome)) H2) := by
  intro pins s σ H x y v u Q I rx ry h
  obtain ⟨a, o, rfl, g, q⟩ := h
  obtain rfl : u = Value.ref a := ry
  exact d_notIn (by omega) I g rx fun s3 I3 => ⟨.bl (!o.isSome), H, I3, rfl, q⟩
theorem in_ways {X : Cx} (hu : X.A.units + 65 < cLine) (neg : Bool) (x y : D) (S : Sto) (d : D) (S' : Sto) (e : gInB neg x y S = .ok d S') : ∃ r, OpR X (compareOp (if neg then .NotIn else .In)) r ∧ Lk2 X.K r (gInB neg) x y S := by
  unfold gInB at e
  split at e
  · cases e
  · rename_i x
    split at e
    · rename_i kvs hk
      split at e
      · rename_i k hx
        have lk : ∀ (ι : Lk) (H : Hp) (v w : V) (d : D) (S' : Sto) (Q : VK), Wd X.K ι H S → RD X.K ι H v (.p x) → RD X.K ι H w y → gInB neg (.p x) y S = .ok d S' → (∀ z ι' H', Step ι H ι' H' → Wd X.K ι' H' S' → RD X.K ι' H' z d → Q z H') →
            ∃ a o, w = .ref a ∧ DGet H a v o ∧ Q (.bl (if neg then !o.isSome else o.isSome)) H := fun ι H v w d S' Q wd r1 r2 e k' => by
          unfold gInB at e
          simp only [hk, hx] at e
          cases e
          obtain ⟨a, vs, rfl, h1, q1⟩ := wd.dct r2 hk
          cases r1 with
          | p r1 =>
            cases r1.key hx
            refine ⟨a, _, rfl, dgK h1, ?_⟩
            have e2 : (valV vs k).isSome = (lookK kvs k).isSome := by
              have ⟨l1, l2⟩ := q1.look k
              cases hl : lookK kvs k with
              | none => rw [l2 hl]; rfl
              | some z =>
                obtain ⟨v, hv, _⟩ := l1 z hl
                rw [hv]; rfl
            rw [e2]
            exact k' _ ι H (.refl _ _) wd (.p (.bl _))
        cases neg with
        | false => exact ⟨_, op_dinA hu, fun ι H v w d S' Q wd r1 r2 e k => lk ι H v w d S' Q wd r1 r2 e k⟩
        | true => exact ⟨_, op_dninA hu, fun ι H v w d S' Q wd r1 r2 e k => lk ι H v w d S' Q wd r1 r2 e k⟩
      · cases e
    · rename_i hk
      split at e
      · rename_i c z hs
        obtain ⟨rfl, rfl⟩ := sign1_eq hs
        have lk : ∀ (ι : Lk) (H : Hp) (v w : V) (d : D) (S' : Sto) (Q : VK), Wd X.K ι H S → RD X.K ι H v (.p (.str ⟨⟨[c]⟩⟩)) → RD X.K ι H w (.p (.str z)) → gInB neg (.p (.str ⟨⟨[c]⟩⟩)) (.p (.str z)) S = .ok d S' → (∀ z ι' H', Step ι H ι' H' → Wd X.K ι' H' S' → RD X.K ι' H' z d → Q z H') →
            ∃ (c : Nat) (z : Str), v = .str ⟨#[c]⟩ ∧ w = .str z ∧ Q (.bl (if neg then !decide (c ∈ z.cps.toList) else decide (c ∈ z.cps.toList))) H := fun ι H v w d S' Q wd r1 r2 e k' => by
          unfold gInB at e
          simp only [hk, hs] at e
          cases e
          exact ⟨c, z, r1.strD.1, r2.strD.1, k' _ ι H (.refl _ _) wd (.p (.bl _))⟩
        cases neg with
        | false => exact ⟨_, op_in_sign, fun ι H v w d S' Q wd r1 r2 e k => lk ι H v w d S' Q wd r1 r2 e k⟩
        | true => exact ⟨_, op_notIn_sign, fun ι H v w d S' Q wd r1 r2 e k => lk ι H v w d S' Q wd r1 r2 e k⟩
      · rename_i hno
        split at e
        · rename_i xs hi
          split at e
          · rename_i hf
            rw [Bool.and_eq_true] at hf
            have lk : ∀ (ι : Lk) (H : Hp) (v w : V) (d : D) (S' : Sto) (Q : VK), Wd X.K ι H S → RD X.K ι H v (.p x) → RD X.K ι H w y → gInB neg (.p x) y S = .ok d S' → (∀ z ι' H', Step ι H ι' H' → Wd X.K ι' H' S' → RD X.K ι' H' z d → Q z H') → rIn X.K neg v w H Q := fun ι H v w d S' Q wd r1 r2 e k' => by
              unfold gInB at e
              simp only [hk, hno, hi, hf.1, hf.2, Bool.and_self, if_true] at e
              cases e
              obtain ⟨a, vs, rfl, h1, q1⟩ := wd.items r2 hi
              cases r1 with
              | p r1 =>
                refine ⟨a, vs, rfl, h1, by rw [r1.flat]; exact hf.1, by rw [q1.flats]; exact hf.2, ?_⟩
                rw [RPs.inF r1 hf.1 q1 hf.2]
                exact k' _ ι H (.refl _ _) wd (.p (.bl _))
            cases neg with
            | false => exact ⟨_, op_in_seq, lk⟩
            | true => exact ⟨_, op_notIn_seq, lk⟩
          · rename_i hf
            split at e
            · rename_i ys hy
              split at e
              · rename_i hd
                have lk : ∀ (ι : Lk) (H : Hp) (v w : V) (d : D) (S' : Sto) (Q : VK), Wd X.K ι H S → RD X.K ι H v (.p x) → RD X.K ι H w y → gInB neg (.p x) y S = .ok d S' → (∀ z ι' H', Step ι H ι' H' → Wd X.K ι' H' S' → RD X.K ι' H' z d → Q z H') →
                    ∃ d ds, Dp X.K H v d ∧ Dp X.K H w (.list ds) ∧ SeqAt.shaped d = true ∧ SeqAt.shaped (.list ds) = true ∧ Q (.bl (if neg then !(ds.any fun z => PyData.eqv z d) else ds.any fun z => PyData.eqv z d)) H := fun ι H v w d S' Q wd r1 r2 e k' => by
                  unfold gInB at e
                  simp only [hk, hno, hi, hf, hy, hd, if_false, and_self, if_true, Bool.false_eq_true] at e
                  cases e
                  obtain ⟨a, vs, rfl, h1, q1⟩ := wd.seq r2 hy
                  obtain ⟨p1, p2⟩ := now_dp wd r1 (x := x) rfl hd.1
                  have ⟨p3, p4⟩ := q1.dp (Nat.le_of_lt hd.2)
                  refine ⟨_, _, p1, .lst (.inl h1) p3, p2, ?_, ?_⟩
                  · unfold SeqAt.shaped
                    rw [PyData.canLay0, p4, PyData.depth, dep_datas _ (Nat.le_of_lt hd.2), decide_eq_true (by omega)]; rfl
                  · rw [any_data]
                    exact k' _ ι H (.refl _ _) wd (.p (.bl _))
                cases neg with
                | false => exact ⟨_, op_inD hu, fun ι H v w d S' Q wd r1 r2 e k => lk ι H v w d S' Q wd r1 r2 e k⟩
                | true => exact ⟨_, op_notInD hu, fun ι H v w d S' Q wd r1 r2 e k => lk ι H v w d S' Q wd r1 r2 e k⟩
              · cases e
            · cases e
        · cases e
section
variable {X : Cx} {a b : Expr} {ca cb : CE} {pos : Pos}
theorem re_in (hu : X.A.units + 65 < cLine) (ha : PE X a (RdE X.K ca)) (hb : PE X b (RdE X.K cb)) (hm : behindInMarks .In b = false := by rfl) : PE X (.Compare a [.In] [b] pos) (RdE X.K (c2 (gInB false) ca cb)) := re2 (cmp_ways hm (in_ways hu false)).1 ha hb
theorem rt_in (hu : X.A.units + 65 < cLine) (ha : PE X a (RdE X.K ca)) (hb : PE X b (RdE X.K cb)) (hm : behindInMarks .In b = false := by rfl) : PT X (.Compare a [.In] [b] pos) (RdT X.K (cT (c2 (gInB false) ca cb))) := rt2 (cmp_ways hm (in_ways hu false)).2 ha hb
theorem re_nin (hu : X.A.units + 65 < cLine) (ha : PE X a (RdE X.K ca)) (hb : PE X b (RdE X.K cb)) (hm : behindInMarks .NotIn b = false := by rfl) : PE X (.Compare a [.NotIn] [b] pos) (RdE X.K (c2 (gInB true) ca cb)) := re2 (cmp_ways hm (in_ways hu true)).1 ha hb
theorem rt_nin (hu : X.A.units + 65 < cLine) (ha : PE X a (RdE X.K ca)) (hb : PE X b (RdE X.K cb)) (hm : behindInMarks .NotIn b = false := by rfl) : PT X (.Compare a [.NotIn] [b] pos) (RdT X.K (cT (c2 (gInB true) ca cb))) := rt2 (cmp_ways hm (in_ways hu true)).2 ha hb
end
end Cw
set_option Elab.async false
set_option linter.all false
set_option maxRecDepth 100000
set_option maxHeartbeats 4000000
/-! Cw5: chains, and, or, subscripts, slices, displays, built-ins. -/
namespace Cw
open PySem PySem.Spec PyProof.Rows L2

/-! ### a < b < c -/
def cChain (g g' : D → D → Sto → R D) (ca cb cc : CE) : CE := fun ρ S => (ca ρ S).bind fun x S1 => (cb ρ S1).bind fun y S2 => (bT (g x y S2)).bind fun k S3 => if k then (cc ρ S3).bind fun z S4 => g' y z S4 else .ok (.p (.bl false)) S3
theorem chain_rd {X : Cx} {g g' : D → D → Sto → R D} {ca cb cc : CE} {op op' : CmpOp} (h : ∀ x y S d S', g x y S = .ok d S' → ∃ r, OpR X (compareOp op) r ∧ Lk2 X.K r g x y S) (h' : ∀ x y S d S', g' x y S = .ok d S' → ∃ r, OpR X (compareOp op') r ∧ Lk2 X.K r g' x y S)
    {ι : Lk} {H : Hp} {σ : L2.St} {ρ : Ev} {S : Sto} {d : D} {S' : Sto} {Q : VK} (cf : Cf X.K ι H σ ρ S) (e0 : cChain g g' ca cb cc ρ S = .ok d S') (k : ∀ v ι' H', Step ι H ι' H' → Wd X.K ι' H' S' → RD X.K ι' H' v d → Q v H') :
    ∃ r r', OpR X (compareOp op) r ∧ OpR X (compareOp op') r' ∧ tChain r r' (RdE X.K ca) (RdE X.K cb) (RdE X.K cc) σ H Q := by
  obtain ⟨x, S1, e1, e2⟩ := bind_ok e0
  obtain ⟨y, S2, e3, e4⟩ := bind_ok e2
  obtain ⟨b, S3, e5, e6⟩ := bind_ok e4
  obtain ⟨r, ho, hl⟩ := h x y S2 _ S3 (bT_ok e5)
  cases b with
  | false =>
    rw [if_neg Bool.false_ne_true] at e6
    cases e6
    refine ⟨r, fun _ _ _ _ => False, ho, fun _ _ _ _ _ _ _ _ _ _ _ _ q => q.elim, ?_⟩
    refine RdE.run cf e1 fun v ι1 H1 st1 cf1 r1 => RdE.run cf1 e3 fun w ι2 H2 st2 cf2 r2 => ?_
    refine hl ι2 H2 v w _ _ _ cf2.wd (r1.mono st2) r2 (bT_ok e5) fun z ι3 H3 st3 wd3 r3 => ?_
    refine ⟨false, r3.blD, ?_⟩
    rw [if_neg Bool.false_ne_true]
    exact k _ ι3 H3 ((st1.trans st2).trans st3) wd3 (.p (.bl _))
  | true =>
    rw [if_pos rfl] at e6
    obtain ⟨z, S4, e7, e8⟩ := bind_ok e6
    obtain ⟨r', ho', hl'⟩ := h' y z S4 _ S' e8
    refine ⟨r, r', ho, ho', ?_⟩
    refine RdE.run cf e1 fun v ι1 H1 st1 cf1 r1 => RdE.run cf1 e3 fun w ι2 H2 st2 cf2 r2 => ?_
    refine hl ι2 H2 v w _ S3 _ cf2.wd (r1.mono st2) r2 (bT_ok e5) fun z' ι3 H3 st3 wd3 r3 => ?_
    refine ⟨true, r3.blD, ?_⟩
    rw [if_pos rfl]
    refine RdE.run (cf2.step st3 wd3) e7 fun u ι4 H4 st4 cf4 r4 => ?_
    exact hl' ι4 H4 w u d S' Q cf4.wd (r2.mono (st3.trans st4)) r4 e8 fun z2 ι' H' st wd rz => k z2 ι' H' ((((st1.trans st2).trans st3).trans st4).trans st) wd rz
section
variable {X : Cx} {a b c : Expr} {ca cb cc : CE} {pos : Pos} {op op' : CmpOp} {g g' : D → D → Sto → R D}
theorem re_chain (h : ∀ x y S d S', g x y S = .ok d S' → ∃ r, OpR X (compareOp op) r ∧ Lk2 X.K r g x y S) (h' : ∀ x y S d S', g' x y S = .ok d S' → ∃ r, OpR X (compareOp op') r ∧ Lk2 X.K r g' x y S)
    (ha : PE X a (RdE X.K ca)) (hb : PE X b (RdE X.K cb)) (hc : PE X c (RdE X.K cc)) (hm : lastMarks [op, op'] [b, c] = false := by with_unfolding_all rfl) : PE X (.Compare a [op, op'] [b, c] pos) (RdE X.K (cChain g g' ca cb cc)) := by
  refine ⟨fun pins s σ H Q I ⟨ι, ρ, S, cf, d, S', e0, k⟩ => ?_⟩
  obtain ⟨r, r', ho, ho', q⟩ := chain_rd h h' cf e0 k
  exact (pe_chain ho ho' ha hb hc hm).run pins s σ H Q I q
theorem rt_chain (h : ∀ x y S d S', g x y S = .ok d S' → ∃ r, OpR X (compareOp op) r ∧ Lk2 X.K r g x y S) (h' : ∀ x y S d S', g' x y S = .ok d S' → ∃ r, OpR X (compareOp op') r ∧ Lk2 X.K r g' x y S)
    (ha : PE X a (RdE X.K ca)) (hb : PE X b (RdE X.K cb)) (hc : PE X c (RdE X.K cc)) (hm : lastMarks [op, op'] [b, c] = false := by with_unfolding_all rfl) : PT X (.Compare a [op, op'] [b, c] pos) (RdT X.K (cT (cChain g g' ca cb cc))) := by
  refine ⟨fun pins s σ H Q I ⟨ι, ρ, S, cf, d, S', e0, k⟩ => ?_⟩
  obtain ⟨r, r', ho, ho', q⟩ := chain_rd (Q := fun x H' => ∃ k, x = .bl k ∧ Q k H') h h' cf (bT_ok e0) fun v ι' H' st wd rv => ⟨d, rv.blD, k ι' H' st wd⟩
  exact (pt_chain ho ho' ha hb hc hm).run pins s σ H Q I q
theorem w_lt : ∀ x y S d S', gLt x y S = .ok d S' → ∃ r, OpR X (compareOp .Lt) r ∧ Lk2 X.K r gLt x y S := fun x y S _ _ _ => ⟨_, op0 op_lt, lk_int (fun _ _ _ _ => .bl _) x y S⟩
theorem w_le : ∀ x y S d S', gLe x y S = .ok d S' → ∃ r, OpR X (compareOp .LtE) r ∧ Lk2 X.K r gLe x y S := fun x y S _ _ _ => ⟨_, op0 op_le, lk_int (fun _ _ _ _ => .bl _) x y S⟩
theorem w_gt : ∀ x y S d S', gGt x y S = .ok d S' → ∃ r, OpR X (compareOp .Gt) r ∧ Lk2 X.K r gGt x y S := fun x y S _ _ _ => ⟨_, op0 op_gt, lk_int (fun _ _ _ _ => .bl _) x y S⟩
theorem w_ge : ∀ x y S d S', gGe x y S = .ok d S' → ∃ r, OpR X (compareOp .GtE) r ∧ Lk2 X.K r gGe x y S := fun x y S _ _ _ => ⟨_, op0 op_ge, lk_int (fun _ _ _ _ => .bl _) x y S⟩
end

/-! ### tests -/
/-- a value's truth -/
def truD : D → Sto → Option Bool
  | .p .non, _ => some false
  | .p (.bl b), _ => some b
  | .p (.int i), _ => some (i != 0)
  | .p (.str s), _ => if s.length ≤ sizeLine then some ((s.length : Int) != 0) else none
  | d, S => match itemsA d S with
    | some xs => some (!xs.isEmpty)
    | none => match dicL d S with
      | some kvs => some (!kvs.isEmpty)
      | none => none
def cTru (c : CE) : CT := fun ρ S => (c ρ S).bind fun d S1 => match truD d S1 with
  | some b => .ok b S1
  | none => .no
def cAnd (t u : CT) : CT := fun ρ S => (t ρ S).bind fun b S1 => if b then u ρ S1 else .ok false S1
def cOr (t u : CT) : CT := fun ρ S => (t ρ S).bind fun b S1 => if b then .ok true S1 else u ρ S1
def cNot (t : CT) : CT := fun ρ S => (t ρ S).bind fun b S1 => .ok (!b) S1
def cAndV (a b : CE) : CE := fun ρ S => (bT (a ρ S)).bind fun k S1 => if k then b ρ S1 else .ok (.p (.bl false)) S1
def cOrV (a b : CE) : CE := fun ρ S => (bT (a ρ S)).bind fun k S1 => if k then .ok (.p (.bl true)) S1 else b ρ S1
def cNotV (a : CE) : CE := fun ρ S => (bT (a ρ S)).bind fun k S1 => .ok (.p (.bl (!k))) S1
def cIf (t : CT) (a b : CE) : CE := fun ρ S => (t ρ S).bind fun k S1 => if k then a ρ S1 else b ρ S1
theorem isEmpty_len {α β : Type} {xs : List α} {ys : List β} (h : xs.length = ys.length) : xs.isEmpty = ys.isEmpty := by
  cases xs <;> cases ys <;> simp_all
theorem tru_of {K : PySem.W.Frag} {ι : Lk} {H : Hp} {S : Sto} (wd : Wd K ι H S) {v : V} {d : D} {b : Bool} (r : RD K ι H v d) (e : truD d S = some b) : TruV K v H b ∨ ∃ a kvs, v = .ref a ∧ Rd H a (.dK kvs) ∧ b = !kvs.isEmpty := by
  unfold truD at e
  split at e
  · cases e; cases r.nonD; exact .inl rfl
  · cases e; cases r.blD; exact .inl rfl
  · cases e; cases r.intD; exact .inl rfl
  · split at e
    · cases e; obtain ⟨rfl, _⟩ := r.strD; exact .inl ⟨by assumption, rfl⟩
    · cases e
  · split at e
    · rename_i xs hx
      cases e
      obtain ⟨a, vs, rfl, h, q⟩ := wd.items r hx
      rcases h with h | h
      · exact .inl (.inl ⟨vs, h, by rw [isEmpty_len q.length]⟩)
      · exact .inl (.inr (.inl ⟨vs, h, by rw [isEmpty_len q.length]⟩))
    · split at e
      · rename_i kvs hk
        cases e
        obtain ⟨a, vs, rfl, h, q⟩ := wd.dct r hk
        exact .inr ⟨a, vs, rfl, h, by rw [isEmpty_len q.length]⟩
      · cases e
theorem tru_any {X : Cx} : TruR X (fun x H Q => ∃ k, (TruV X.K x H k ∨ ∃ a kvs, x = .ref a ∧ Rd H a (.dK kvs) ∧ k = !kvs.isEmpty) ∧ Q k H) := by
  rintro pins s σ H x v Q I rx ⟨k, h | ⟨a, kvs, rfl, h, rfl⟩, q⟩
  · exact tru_ok pins s σ H x v Q I rx ⟨k, h, q⟩
  · cases rx
    obtain ⟨hz, hS, vs, r, m⟩ : kvs.length ≤ sizeLine ∧ (a == sysModules) = false ∧ ∃ vs, KV kvs vs ∧ s.heap.DictOf (mixKind X.prog X.w) a vs := h.ok I.hok
    have hl : kvs.length = vs.length := Paired.length r
    exact wpAny_truthy_dict hS m (by have := sizeLine_eq; omega) ⟨H, I.tok _, by rw [isEmpty_kv r]; exact q⟩
section
variable {X : Cx} {a b : Expr} {ca cb : CE} {t u : CT} {rest : List Expr} {pos : Pos}
theorem rt_val (h : PE X a (RdE X.K ca)) (he : ∀ whole, isTrue a X.env whole = (do let v ← whole; standAt a.pos; holding [v] (truthy v)) := by intro _; rfl) : PT X a (RdT X.K (cTru ca)) :=
  (pt_truthR h tru_any he).weak fun σ H Q ⟨ι, ρ, S, cf, d, S', e, k⟩ => by
    obtain ⟨x, S1, e1, e2⟩ := bind_ok e
    refine RdE.run cf e1 fun v ι1 H1 st1 cf1 r1 => ?_
    split at e2
    · rename_i b hb
      cases e2
      exact ⟨_, tru_of cf1.wd r1 hb, k ι1 H1 st1 cf1.wd⟩
    · cases e2
theorem RdT.seq2 {K : PySem.W.Frag} {σ : L2.St} {H : Hp} {t : CT} {f : Bool → Ev → Sto → R Bool} {Q : Bool → Hp → Prop} (h : RdT K (fun ρ S => (t ρ S).bind fun b S1 => f b ρ S1) σ H Q) (w : Bool → TT)
    (k : ∀ b ι ρ S σ H, Cf K ι H σ ρ S → PostT K ι H (f b ρ S) Q → w b σ H Q) : RdT K t σ H fun b H1 => w b σ H1 Q := by
  obtain ⟨ι, ρ, S, cf, d, S', e, k'⟩ := h
  obtain ⟨b, S1, e1, e2⟩ := bind_ok e
  exact RdT.run cf e1 fun ι1 H1 st1 cf1 => k b ι1 ρ S1 σ H1 cf1 ⟨d, S', e2, fun ι' H' st wd => k' ι' H' (st1.trans st) wd⟩
theorem RdT.of {K : PySem.W.Frag} {ι : Lk} {σ : L2.St} {ρ : Ev} {S : Sto} {H : Hp} {t : CT} {Q : Bool → Hp → Prop} (cf : Cf K ι H σ ρ S) (h : PostT K ι H (t ρ S) Q) : RdT K t σ H Q := ⟨ι, ρ, S, cf, h⟩
theorem RdE.of {K : PySem.W.Frag} {ι : Lk} {σ : L2.St} {ρ : Ev} {S : Sto} {H : Hp} {t : CE} {Q : VK} (cf : Cf K ι H σ ρ S) (h : PostE K ι H (t ρ S) Q) : RdE K t σ H Q := ⟨ι, ρ, S, cf, h⟩
theorem PostT.ok {K : PySem.W.Frag} {ι : Lk} {H : Hp} {b : Bool} {S : Sto} {Q : Bool → Hp → Prop} (wd : Wd K ι H S) (h : PostT K ι H (.ok b S) Q) : Q b H := by
  obtain ⟨d, S', e, k⟩ := h
  cases e
  exact k ι H (.refl _ _) wd
theorem PostE.okP {K : PySem.W.Frag} {ι : Lk} {H : Hp} {v : V} {x : P} {S : Sto} {Q : VK} (wd : Wd K ι H S) (r : RP K ι H v x) (h : PostE K ι H (.ok (.p x) S) Q) : Q v H := by
  obtain ⟨d, S', e, k⟩ := h
  cases e
  exact k v ι H (.refl _ _) wd (.p r)
theorem rw_and1 (ha : PT X a (RdT X.K t)) : PW X (.BoolOp .And [a] pos) (RdT X.K t) := pw_and1 ha
theorem rw_or1 (ha : PT X a (RdT X.K t)) : PW X (.BoolOp .Or [a] pos) (RdT X.K t) := pw_or1 ha
theorem rw_and (ha : PT X a (RdT X.K t)) (hb : PW X (.BoolOp .And (b :: rest) pos) (RdT X.K u)) : PW X (.BoolOp .And (a :: b :: rest) pos) (RdT X.K (cAnd t u)) := (pw_and ha hb).weak fun σ H Q h =>
  RdT.seq2 (f := fun b ρ S => if b then u ρ S else .ok false S) h (fun c σ H Q => if c = true then RdT X.K u σ H Q else Q false H) fun c ι ρ S σ H cf p => by
    cases c with
    | true =>
      rw [if_pos rfl] at p ⊢
      exact .of cf p
    | false =>
      rw [if_neg Bool.false_ne_true] at p ⊢
      exact p.ok cf.wd
theorem rw_or (ha : PT X a (RdT X.K t)) (hb : PW X (.BoolOp .Or (b :: rest) pos) (RdT X.K u)) : PW X (.BoolOp .Or (a :: b :: rest) pos) (RdT X.K (cOr t u)) := (pw_or ha hb).weak fun σ H Q h =>
  RdT.seq2 (f := fun b ρ S => if b then .ok true S else u ρ S) h (fun c σ H Q => if c = true then Q true H else RdT X.K u σ H Q) fun c ι ρ S σ H cf p => by
    cases c with
    | true =>
      rw [if_pos rfl] at p ⊢
      exact p.ok cf.wd
    | false =>
      rw [if_neg Bool.false_ne_true] at p ⊢
      exact .of cf p
theorem rt_not (ha : PT X a (RdT X.K t)) : PT X (.UnaryOp .Not a pos) (RdT X.K (cNot t)) := (pt_not ha).weak fun σ H Q h =>
  RdT.seq2 (f := fun b _ S => .ok (!b) S) h (fun c σ H Q => Q (!c) H) fun c ι ρ S σ H cf p => p.ok cf.wd
theorem re_one {op} (h : PE X a (RdE X.K ca)) : PE X (.BoolOp op [a] pos) (RdE X.K ca) := pe_one h
theorem re_and (ha : PE X a (RdE X.K ca)) (hb : PE X (.BoolOp .And (b :: rest) pos) (RdE X.K cb)) : PE X (.BoolOp .And (a :: b :: rest) pos) (RdE X.K (cAndV ca cb)) := (pe_and ha hb).weak fun σ H Q ⟨ι, ρ, S, cf, d, S', e, k⟩ => by
  obtain ⟨c, S1, e1, e2⟩ := bind_ok e
  refine RdE.run cf (bT_ok e1) fun v ι1 H1 st1 cf1 r1 => ⟨c, r1.blD, ?_⟩
  cases c with
  | true =>
    rw [if_pos rfl] at e2 ⊢
    exact .of cf1 ⟨d, S', e2, fun v ι' H' st wd r => k v ι' H' (st1.trans st) wd r⟩
  | false =>
    rw [if_neg Bool.false_ne_true] at e2 ⊢
    cases e2
    exact k _ ι1 H1 st1 cf1.wd (.p (.bl _))
theorem re_or (ha : PE X a (RdE X.K ca)) (hb : PE X (.BoolOp .Or (b :: rest) pos) (RdE X.K cb)) : PE X (.BoolOp .Or (a :: b :: rest) pos) (RdE X.K (cOrV ca cb)) := (pe_or ha hb).weak fun σ H Q ⟨ι, ρ, S, cf, d, S', e, k⟩ => by
  obtain ⟨c, S1, e1, e2⟩ := bind_ok e
  refine RdE.run cf (bT_ok e1) fun v ι1 H1 st1 cf1 r1 => ⟨c, r1.blD, ?_⟩
  cases c with
  | false =>
    rw [if_neg Bool.false_ne_true] at e2 ⊢
    exact .of cf1 ⟨d, S', e2, fun v ι' H' st wd r => k v ι' H' (st1.trans st) wd r⟩
  | true =>
    rw [if_pos rfl] at e2 ⊢
    cases e2
    exact k _ ι1 H1 st1 cf1.wd (.p (.bl _))
theorem re_not (ha : PE X a (RdE X.K ca)) : PE X (.UnaryOp .Not a pos) (RdE X.K (cNotV ca)) := (pe_not ha).weak fun σ H Q ⟨ι, ρ, S, cf, d, S', e, k⟩ => by
  obtain ⟨c, S1, e1, e2⟩ := bind_ok e
  refine RdE.run cf (bT_ok e1) fun v ι1 H1 st1 cf1 r1 => ⟨c, r1.blD, ?_⟩
  cases e2
  exact k _ ι1 H1 st1 cf1.wd (.p (.bl _))
theorem re_if {c : Expr} (hc : PT X c (RdT X.K t)) (ha : PE X a (RdE X.K ca)) (hb : PE X b (RdE X.K cb)) : PE X (.IfExp c a b pos) (RdE X.K (cIf t ca cb)) := (pe_ifExp hc ha hb).weak fun σ H Q ⟨ι, ρ, S, cf, d, S', e, k⟩ => by
  obtain ⟨c, S1, e1, e2⟩ := bind_ok e
  refine RdT.run cf e1 fun ι1 H1 st1 cf1 => ?_
  cases c with
  | true =>
    rw [if_pos rfl] at e2 ⊢
    exact .of cf1 ⟨d, S', e2, fun v ι' H' st wd r => k v ι' H' (st1.trans st) wd r⟩
  | false =>
    rw [if_neg Bool.false_ne_true] at e2 ⊢
    exact .of cf1 ⟨d, S', e2, fun v ι' H' st wd r => k v ι' H' (st1.trans st) wd r⟩
end

/-! ### -n -/
def cNeg (c : CE) : CE := fun ρ S => (c ρ S).bind fun d S1 => match d with
  | .p (.int i) => .ok (.p (.int (-i))) S1
  | _ => .no
theorem re_neg {X : Cx} {a : Expr} {ca : CE} {pos : Pos} (ha : PE X a (RdE X.K ca)) : PE X (.UnaryOp .USub a pos) (RdE X.K (cNeg ca)) := (pe_un un_neg ha).weak fun σ H Q ⟨ι, ρ, S, cf, d, S', e, k⟩ => by
  obtain ⟨x, S1, e1, e2⟩ := bind_ok e
  refine RdE.run cf e1 fun v ι1 H1 st1 cf1 r1 => ?_
  split at e2
  · cases e2
    exact ⟨_, r1.intD, k _ ι1 H1 st1 cf1.wd (.p (.int _))⟩
  · cases e2

/-! ### subscripts -/
def gIxL (xs : Option (List P)) (i : Int) (S : Sto) : R D := match xs with
  | some xs => match atI xs i with
    | some x => .ok (.p x) S
    | none => .no
  | none => .no
def gIx (x y : D) (S : Sto) : R D := match dicL x S with
  | some kvs => match y with
    | .p y => match keyP y with
      | some k => match lookK kvs k with
        | some v => .ok (.p v) S
        | none => .no
      | none => .no
    | _ => .no
  | none => match x, y with
    | .p (.str s), .p (.int i) => if s.length ≤ sizeLine then match atI s.cps.toList i with
        | some c => .ok (.p (.str ⟨#[c]⟩)) S
        | none => .no
      else .no
    | x, .p (.int i) => gIxL (itemsA x S) i S
    | _, _ => .no
theorem RPs.atI {K : PySem.W.Frag} {ι : Lk} {H : Hp} {vs : List V} {xs : List P} {i : Int} {x : P} (r : RPs K ι H vs xs) (h : L2.atI xs i = some x) : ∃ v, L2.atI vs i = some v ∧ RP K ι H v x := by
  unfold L2.atI at h ⊢
  rw [r.length]
  cases hj : ixN xs.length i with
  | none => rw [hj] at h; cases h
  | some j =>
    rw [hj] at h
    exact r.get h
theorem strOk_at {s : Str} {i : Int} {c : Nat} (h : PyData.strOk s = true) (e : L2.atI s.cps.toList i = some c) : PyData.strOk ⟨#[c]⟩ = true := by
  obtain ⟨j, _, hj, _⟩ := atI_get e
  have hm : c ∈ s.cps := by
    have := List.mem_of_getElem? hj
    simpa using this
  unfold PyData.strOk at h ⊢
  rw [Array.all_eq_true_iff_forall_mem] at h
  have := h c hm
  simpa using this
theorem ix_ways {X : Cx} (hu : X.A.units + 65 < cLine) {a b : Expr} {pos : Pos} (hp : PlainIx b) (hn : NoSl b) : Ways2 X (.Subscript a b pos) a b gIx := fun x y S d S' e => by
  unfold gIx at e
  split at e
  · rename_i kvs hk
    split at e
    · rename_i y
      split at e
      · rename_i k hy
        split at e
        · rename_i z hz
          refine ⟨fun x y H2 Q => ∃ a v, x = .ref a ∧ DGet H2 a y (some v) ∧ Q v H2, fun ta tb ha hb => pe_dget (by omega) ha hb hn, fun ι H v w d S' Q wd r1 r2 e k' => ?_⟩
          unfold gIx at e
          simp only [hk, hy, hz] at e
          cases e
          obtain ⟨a, vs, rfl, h1, q1⟩ := wd.dct r1 hk
          obtain ⟨v, hv, rv⟩ := (q1.look k).1 z hz
          cases r2 with
          | p r2 =>
            cases r2.key hy
            exact ⟨a, v, rfl, by rw [← hv]; exact dgK h1, k' v ι H (.refl _ _) wd (.p rv)⟩
        · cases e
      · cases e
    · cases e
  · rename_i hk
    split at e
    · rename_i s i
      split at e
      · rename_i hl
        split at e
        · rename_i c hc
          refine ⟨_, fun ta tb ha hb => pe_ix ix_str ha hb hp, fun ι H v w d S' Q wd r1 r2 e k' => ?_⟩
          unfold gIx at e
          simp only [dicL, hl, hc, if_true] at e
          cases e
          obtain ⟨rfl, ho⟩ := r1.strD
          cases r2.intD
          exact ⟨s, i, c, rfl, rfl, hl, hc, k' _ ι H (.refl _ _) wd (.p (.str (strOk_at ho hc)))⟩
        · cases e
      · cases e
    · rename_i x i hx
      unfold gIxL at e
      split at e
      · rename_i xs hi
        split at e
        · rename_i z hz
          refine ⟨_, fun ta tb ha hb => pe_ix (ix_list.or ix_tup) ha hb hp, fun ι H v w d S' Q wd r1 r2 e k' => ?_⟩
          unfold gIx at e
          simp only [hk] at e
          unfold gIxL at e
          simp only [hi, hz] at e
          cases e
          obtain ⟨a, vs, rfl, h1, q1⟩ := wd.items r1 hi
          obtain ⟨u, hv, rv⟩ := q1.atI hz
          cases r2.intD
          rcases h1 with h1 | h1
          · exact .inl ⟨a, vs, _, u, rfl, rfl, h1, hv, k' u ι H (.refl _ _) wd (.p rv)⟩
          · exact .inr ⟨a, vs, _, u, rfl, rfl, h1, hv, k' u ι H (.refl _ _) wd (.p rv)⟩
        · cases e
      · cases e
    · cases e
section
variable {X : Cx} {a b : Expr} {ca cb : CE} {pos : Pos}
theorem re_ix (hu : X.A.units + 65 < cLine) (ha : PE X a (RdE X.K ca)) (hb : PE X b (RdE X.K cb)) (hp : PlainIx b := by exact fun _ _ => rfl) (hn : NoSl b := by exact fun _ _ => rfl) : PE X (.Subscript a b pos) (RdE X.K (c2 gIx ca cb)) := re2 (ix_ways hu hp hn) ha hb
end
end Cw
set_option Elab.async false
set_option linter.all false
set_option maxRecDepth 100000
set_option maxHeartbeats 4000000
/-! Cw6: slices, displays, arguments, built-ins, calls of defs. -/
namespace Cw
open PySem PySem.Spec PyProof.Rows L2

/-! ### slices -/
abbrev CO := Ev → Sto → R (Option Int)
def RdO (K : PySem.W.Frag) (c : CO) : TO := fun σ H Q => ∃ ι ρ S, Cf K ι H σ ρ S ∧ ∃ o S', c ρ S = .ok o S' ∧ ∀ ι' H', Step ι H ι' H' → Wd K ι' H' S' → Q o H'
theorem RdO.run {K : PySem.W.Frag} {ι : Lk} {H : Hp} {σ : L2.St} {ρ : Ev} {S : Sto} {c : CO} {d : Option Int} {S1 : Sto} {Q : Option Int → Hp → Prop} (cf : Cf K ι H σ ρ S) (e : c ρ S = .ok d S1) (k : ∀ ι1 H1, Step ι H ι1 H1 → Cf K ι1 H1 σ ρ S1 → Q d H1) : RdO K c σ H Q :=
  ⟨ι, ρ, S, cf, d, S1, e, fun ι' H' st wd => k ι' H' st (cf.step st wd)⟩
def cONone : CO := fun _ S => .ok none S
def cOSome (c : CE) : CO := fun ρ S => (c ρ S).bind fun d S1 => match d with
  | .p (.int i) => .ok (some i) S1
  | _ => .no
def cutP (xs : List P) (lo hi : Option Int) : List P := (xs.drop (HT.sIx xs.length 0 lo)).take (HT.sIx xs.length xs.length hi - HT.sIx xs.length 0 lo)
theorem RPs.cut {K : PySem.W.Frag} {ι : Lk} {H : Hp} {vs : List V} {xs : List P} (r : RPs K ι H vs xs) (lo hi : Option Int) : RPs K ι H (cutV vs lo hi) (cutP xs lo hi) := by
  unfold cutV cutP
  rw [r.length]
  exact (r.drop _).take _
theorem strOk_cut {s : Str} (h : PyData.strOk s = true) (lo hi : Option Int) : PyData.strOk (cutS s lo hi) = true := by
  unfold PyData.strOk at h ⊢
  rw [Array.all_eq_true_iff_forall_mem] at h ⊢
  intro x hx
  refine h x ?_
  have : x ∈ ((s.cps.toList.drop (HT.sIx s.length 0 lo)).take (HT.sIx s.length s.length hi - HT.sIx s.length 0 lo)) := by simpa [cutS] using hx
  simpa using List.mem_of_mem_drop (List.mem_of_mem_take this)
def gSl (x : D) (lo hi : Option Int) (S : Sto) : R D := match x with
  | .p (.tup xs) => .ok (.p (.tup (cutP xs lo hi))) S
  | .p (.str s) => if s.length ≤ sizeLine then .ok (.p (.str (cutS s lo hi))) S else .no
  | x => match seqA x S with
    | some xs => .ok (.p (.ro (cutP xs lo hi))) S
    | none => .no
def cSl (c : CE) (l h : CO) : CE := fun ρ S => (c ρ S).bind fun x S1 => (l ρ S1).bind fun lo S2 => (h ρ S2).bind fun hi S3 => gSl x lo hi S3
theorem cut_whole (vs : List V) (lo hi : Option Int) (h : HT.sIx vs.length 0 lo = 0 ∧ HT.sIx vs.length vs.length hi = vs.length) : cutV vs lo hi = vs := by
  unfold cutV
  rw [h.1, h.2, List.drop_zero, Nat.sub_zero, List.take_length]
section
variable {X : Cx} {a : Expr} {ca : CE} {lo hi : Option Expr} {cl ch : CO} {pos p2 : Pos}
theorem ro_none : PO X none (RdO X.K cONone) := ⟨fun pins s σ H Q I ⟨ι, ρ, S, cf, o, S', e, k⟩ => by
  cases e
  exact po_none.run pins s σ H Q I (k ι H (.refl _ _) cf.wd)⟩
theorem ro_some (h : PE X a (RdE X.K ca)) : PO X (some a) (RdO X.K (cOSome ca)) := ⟨fun pins s σ H Q I ⟨ι, ρ, S, cf, o, S', e, k⟩ => by
  refine (po_some h).run pins s σ H Q I ?_
  obtain ⟨x, S1, e1, e2⟩ := bind_ok e
  refine RdE.run cf e1 fun v ι1 H1 st1 cf1 r1 => ?_
  split at e2
  · cases e2
    exact ⟨_, r1.intD, k ι1 H1 st1 cf1.wd⟩
  · cases e2⟩
theorem re_slice (ha : PE X a (RdE X.K ca)) (hl : PO X lo (RdO X.K cl)) (hh : PO X hi (RdO X.K ch)) : PE X (.Subscript a (.Slice lo hi none p2) pos) (RdE X.K (cSl ca cl ch)) := by
  refine (pe_slice (sl_tupN.or (sl_str.or sl_list)) ha hl hh).weak fun σ H Q ⟨ι, ρ, S, cf, d, S', e, k⟩ => ?_
  obtain ⟨x, S1, e1, e2⟩ := bind_ok e
  obtain ⟨lo, S2, e3, e4⟩ := bind_ok e2
  obtain ⟨hi, S3, e5, e6⟩ := bind_ok e4
  refine RdE.run cf e1 fun v ι1 H1 st1 cf1 r1 => RdO.run cf1 e3 fun ι2 H2 st2 cf2 => RdO.run cf2 e5 fun ι3 H3 st3 cf3 => ?_
  have r3 := r1.mono (st2.trans st3)
  have st := (st1.trans st2).trans st3
  unfold gSl at e6
  split at e6
  · cases e6
    obtain ⟨a, vs, rfl, h1, q1⟩ := r3.tupD
    refine .inl ⟨a, vs, rfl, h1.sq, fun hw => ?_, fun _ p o hp hd => ?_⟩
    · refine k _ ι3 H3 st cf3.wd (.p (.tup h1 ?_))
      have := q1.cut lo hi
      rwa [cut_whole vs lo hi hw] at this
    · exact k _ ι3 _ (st.trans (Step.new1 cf3.wd hp _)) (cf3.wd.new1 hp _) (RD.newTup cf3.wd hp hd (q1.cut lo hi))
  · split at e6
    · rename_i hl
      cases e6
      obtain ⟨rfl, ho⟩ := r3.strD
      exact .inr (.inl ⟨_, rfl, hl, k _ ι3 H3 st cf3.wd (.p (.str (strOk_cut ho lo hi)))⟩)
    · cases e6
  · split at e6
    · rename_i xs hx
      cases e6
      obtain ⟨a, vs, rfl, h1, q1⟩ := cf3.wd.seqA r3 hx
      exact .inr (.inr ⟨a, vs, rfl, h1, fun p hp => k _ ι3 _ (st.trans (Step.new1 cf3.wd hp _)) (cf3.wd.new1 hp _) (RD.newRo cf3.wd hp (q1.cut lo hi))⟩)
    · cases e6
end

/-! ### arguments, displays -/
def cNil : CA := fun _ S => .ok [] S
def cCons (c : CE) (r : CA) : CA := fun ρ S => (c ρ S).bind fun x S1 => (r ρ S1).bind fun xs S2 => .ok (x :: xs) S2
/-- pure ones alone -/
def allP : List D → Option (List P)
  | [] => some []
  | .p x :: r => match allP r with
    | some xs => some (x :: xs)
    | none => none
  | .ref _ :: _ => none
theorem RDs.allP {K : PySem.W.Frag} {ι : Lk} {H : Hp} : ∀ {vs : List V} {ds : List D} {xs : List P}, RDs K ι H vs ds → Cw.allP ds = some xs → RPs K ι H vs xs
  | _, _, _, .nil, e => by cases e; exact .nil
  | _, _, _, .cons (x := .p y) r t, e => by
    unfold Cw.allP at e
    split at e
    · rename_i xs h
      cases e
      cases r with
      | p r => exact .cons r (t.allP h)
    · cases e
  | _, _, _, .cons (x := .ref n) r t, e => by cases e
def cTup (c : CA) : CE := fun ρ S => (c ρ S).bind fun ds S1 => match allP ds with
  | some xs => if xs.length ≤ sizeLine then .ok (.p (.tup xs)) S1 else .no
  | none => .no
def cLst (c : CA) : CN := fun ρ S => (c ρ S).bind fun ds S1 => match allP ds with
  | some xs => if xs.length ≤ sizeLine then .ok xs S1 else .no
  | none => .no
/-- a new list as one that stands, as a thing of the store -/
def cRo (c : CN) : CE := fun ρ S => (c ρ S).bind fun xs S1 => .ok (.p (.ro xs)) S1
def cTr (c : CN) : CE := fun ρ S => (c ρ S).bind fun xs S1 => .ok (.ref S1.length) (S1 ++ [.lst xs])
theorem PostN.intro {K : PySem.W.Frag} {ι ι1 : Lk} {H H1 : Hp} {S1 S' : Sto} {xs : List P} {vs : List V} {Q : VK} (st1 : Step ι H ι1 H1) (wd1 : Wd K ι1 H1 S1) (r : RPs K ι1 H1 vs xs) (e : S1 = S')
    (k : ∀ a vs ι' H', Step ι H ι' H' → Wd K (ι'.hide a) H' S' → H a = none → ¬ ι'.has a → H' a = some (.lst vs) → RPs K (ι'.hide a) H' vs xs → Q (.ref a) H') : ∀ p, H1 p = none → Q (.ref p) (upd H1 p (.lst vs)) := fun p hp => by
  subst e
  exact k p vs ι1 _ (st1.trans (Step.new1 wd1 hp _)) (wd1.hidden hp _) (st1.there p hp) (wd1.fresh hp) upd_same (r.hideNew wd1 hp)
theorem ix_old {ι : Lk} {a : Addr} {n : Nat} {o : Option Addr} (h : ι.ix[n]? = some o) : (ι.add a).ix[n]? = some o := by
  have hn : n < ι.ix.length := by
    rcases Nat.lt_or_ge n ι.ix.length with q | q
    · exact q
    · rw [List.getElem?_eq_none q] at h; cases h
  show (ι.ix ++ [some a])[n]? = some o
  rw [List.getElem?_append_left hn]; exact h
theorem ix_new {ι : Lk} {a : Addr} {n : Nat} {o : Option Addr} (h : (ι.add a).ix[n]? = some o) : ι.ix[n]? = some o ∨ (n = ι.ix.length ∧ o = some a) := by
  have h : (ι.ix ++ [some a])[n]? = some o := h
  rcases Nat.lt_or_ge n ι.ix.length with q | q
  · rw [List.getElem?_append_left q] at h; exact .inl h
  · rw [List.getElem?_append_right q] at h
    have : n - ι.ix.length = 0 := by
      rcases Nat.eq_zero_or_pos (n - ι.ix.length) with z | z
      · exact z
      · rw [List.getElem?_eq_none (by rw [List.length_singleton]; omega)] at h; cases h
    rw [this] at h
    cases h
    exact .inr ⟨by omega, rfl⟩
theorem Step.added {ι ι' : Lk} {H H' : Hp} {a : Addr} (st : Step ι H ι' H') (h1 : H a = none) : Step ι H (ι'.add a) H' where
  hid := st.hid
  len := by
    have := st.len
    show _ ≤ (ι'.ix ++ [some a]).length
    rw [List.length_append]; omega
  old := fun n o h => (st.old n o h).elim (fun q => .inl (ix_old q)) fun q => .inr (ix_old q)
  new := fun b hb => by
    rcases List.mem_append.mp hb with q | q
    · exact st.new b q
    · have : b = a := by simpa using q
      rw [this]; exact .inr h1
  keep := st.keep
  there := st.there
theorem Wd.added {K : PySem.W.Frag} {ι' : Lk} {H' : Hp} {S1 : Sto} {a : Addr} {vs : List V} {xs : List P} (wd : Wd K (ι'.hide a) H' S1) (h2 : ¬ ι'.has a) (h3 : H' a = some (.lst vs)) (r : RPs K (ι'.hide a) H' vs xs) : Wd K (ι'.add a) H' (S1 ++ [.lst xs]) where
  len := by
    have hlen : ι'.ix.length = S1.length := wd.len
    show (ι'.ix ++ [some a]).length = _
    rw [List.length_append, List.length_append, hlen]; rfl
  nd := fun n m b hn hm => by
    rcases ix_new hn with q | ⟨q, e⟩ <;> rcases ix_new hm with z | ⟨z, e'⟩
    · exact wd.nd n m b q z
    · cases e'; exact (h2 (.inl (List.mem_of_getElem? q))).elim
    · cases e; exact (h2 (.inl (List.mem_of_getElem? z))).elim
    · omega
  ob := fun n o h => by
    have hlen : ι'.ix.length = S1.length := wd.len
    rcases Nat.lt_or_ge n S1.length with q | q
    · rw [List.getElem?_append_left q] at h
      have w := wd.ob n o h
      have e : (ι'.add a).ix[n]? = ι'.ix[n]? := by
        show (ι'.ix ++ [some a])[n]? = _
        rw [List.getElem?_append_left (by omega)]
      rw [e]
      exact w.has fun _ => has_add
    · rw [List.getElem?_append_right q] at h
      have : n - S1.length = 0 := by
        rcases Nat.eq_zero_or_pos (n - S1.length) with z | z
        · exact z
        · rw [List.getElem?_eq_none (by rw [List.length_singleton]; omega)] at h; cases h
      rw [this] at h
      cases h
      have e : (ι'.add a).ix[n]? = some (some a) := by
        show (ι'.ix ++ [some a])[n]? = _
        rw [List.getElem?_append_right (by omega)]
        have : n - ι'.ix.length = 0 := by omega
        rw [this]; rfl
      rw [e]
      exact .lst h3 (r.has fun _ => has_add)
  hd := fun b hb => by
    have w := wd.hd b (List.mem_cons_of_mem _ hb)
    refine ⟨w.1, fun q => ?_⟩
    rcases List.mem_append.mp q with q | q
    · exact w.2 q
    · have : b = a := by simpa using q
      subst this
      exact h2 (.inr hb)
section
variable {X : Cx} {a : Expr} {es : List Expr} {ca : CE} {cr : CA} {cn : CN} {pos : Pos}
theorem ra_nil : PA X [] (RdA X.K cNil) := pa_nil.weak fun σ H Q ⟨ι, ρ, S, cf, d, S', e, k⟩ => by
  cases e
  exact k [] ι H (.refl _ _) cf.wd .nil
theorem ra_cons (ha : PE X a (RdE X.K ca)) (hr : PA X es (RdA X.K cr)) (hs : starEach (a :: es) X.env = (false, eval a X.env) :: starEach es X.env := by rfl) : PA X (a :: es) (RdA X.K (cCons ca cr)) := (pa_cons ha hr hs).weak fun σ H Q ⟨ι, ρ, S, cf, d, S', e, k⟩ => by
  obtain ⟨x, S1, e1, e2⟩ := bind_ok e
  obtain ⟨xs, S2, e3, e4⟩ := bind_ok e2
  cases e4
  exact RdE.run cf e1 fun v ι1 H1 st1 cf1 r1 => RdA.run cf1 e3 fun vs ι2 H2 st2 cf2 r2 => k _ ι2 H2 (st1.trans st2) cf2.wd (.cons (r1.mono st2) r2)
theorem re_tup {x1} (ha : PA X es (RdA X.K cr)) : PE X (.Tuple es x1 pos) (RdE X.K (cTup cr)) := (pe_tupN ha).weak fun σ H Q ⟨ι, ρ, S, cf, d, S', e, k⟩ => by
  obtain ⟨ds, S1, e1, e2⟩ := bind_ok e
  refine RdA.run cf e1 fun vs ι1 H1 st1 cf1 r1 => ?_
  split at e2
  · rename_i xs hx
    split at e2
    · rename_i hl
      cases e2
      have q := r1.allP hx
      exact ⟨by rw [q.length]; exact hl, fun p o hp hd => k _ ι1 _ (st1.trans (Step.new1 cf1.wd hp _)) (cf1.wd.new1 hp _) (RD.newTup cf1.wd hp hd q)⟩
    · cases e2
  · cases e2
theorem rn_lst (ha : PA X es (RdA X.K cr)) : PE X (.List es pos) (RdN X.K (cLst cr)) := (pe_lst ha).weak fun σ H Q ⟨ι, ρ, S, cf, d, S', e, k⟩ => by
  obtain ⟨ds, S1, e1, e2⟩ := bind_ok e
  refine RdA.run cf e1 fun vs ι1 H1 st1 cf1 r1 => ?_
  split at e2
  · rename_i xs hx
    split at e2
    · rename_i hl
      cases e2
      have q := r1.allP hx
      exact ⟨by rw [q.length]; exact hl, PostN.intro st1 cf1.wd q rfl k⟩
    · cases e2
  · cases e2
theorem re_ro (h : PE X a (RdN X.K cn)) : PE X a (RdE X.K (cRo cn)) := h.weak fun σ H Q ⟨ι, ρ, S, cf, d, S', e, k⟩ => by
  obtain ⟨xs, S1, e1, e2⟩ := bind_ok e
  cases e2
  refine ⟨ι, ρ, S, cf, xs, S', e1, fun a vs ι' H' st wd h1 h2 h3 r => ?_⟩
  exact k _ ι' H' st wd.unhide (.p (.ro (.inl h3) h2 (r.has (hide_has ι' a))))
theorem re_tr (h : PE X a (RdN X.K cn)) : PE X a (RdE X.K (cTr cn)) := h.weak fun σ H Q ⟨ι, ρ, S, cf, d, S', e, k⟩ => by
  obtain ⟨xs, S1, e1, e2⟩ := bind_ok e
  cases e2
  refine ⟨ι, ρ, S, cf, xs, S1, e1, fun a vs ι' H' st wd h1 h2 h3 r => ?_⟩
  have hlen : ι'.ix.length = S1.length := wd.len
  have hat : (ι'.ix ++ [some a])[S1.length]? = some (some a) := by rw [← hlen, List.getElem?_append_right (Nat.le_refl _), Nat.sub_self]; rfl
  exact k _ (ι'.add a) H' (Step.added st h1) (Wd.added wd h2 h3 r) (.ref (n := S1.length) (o := some a) hat fun b z => by cases z; rfl)
end
end Cw
set_option Elab.async false
set_option linter.all false
set_option maxRecDepth 100000
set_option maxHeartbeats 4000000
/-! Cw7: built-ins called by name. -/
namespace Cw
open PySem PySem.Spec PyProof.Rows L2

def LkC (K : PySem.W.Frag) (r : List V → Hp → VK → Prop) (g : List D → Sto → R D) (ds : List D) (S : Sto) : Prop :=
  ∀ (ι : Lk) (H : Hp) (vs : List V) (d : D) (S' : Sto) (Q : VK), Wd K ι H S → RDs K ι H vs ds → g ds S = .ok d S' → (∀ z ι' H', Step ι H ι' H' → Wd K ι' H' S' → RD K ι' H' z d → Q z H') → r vs H Q
def WaysC (X : Cx) (f : Value) (g : List D → Sto → R D) : Prop := ∀ ds S d S', g ds S = .ok d S' → ∃ r, CallR X f r ∧ LkC X.K r g ds S
def c1 (g : List D → Sto → R D) (ca : CA) : CE := fun ρ S => (ca ρ S).bind g
section
variable {X : Cx} {x : Str} {p pos : Pos} {e : Expr} {es : List Expr} {ca : CA} {id T : String} {g : List D → Sto → R D}
theorem re_callB (w : WaysC X (.builtin id) g) (hg : Gl X x) (hm : X.mg x = none) (hv : bootBuiltins x = some (.builtin id)) (ha : PA X (e :: es) (RdA X.K ca)) (hn : x ≠ "__name__" := by decide) (hdb : (x == ("__debug__" : Str)) = false := by decide)
    (he : starEach (e :: es) X.env = (false, eval e X.env) :: starEach es X.env := by rfl) (hpl : (backTo pos (starEach es X.env)).any (·.1) = false := by rfl) : PE X (.Call (.Name x p) (e :: es) [] pos) (RdE X.K (c1 g ca)) := by
  refine ⟨fun pins s σ H Q I ⟨ι, ρ, S, cf, d, S', e0, k⟩ => ?_⟩
  obtain ⟨ds, S1, e1, e2⟩ := bind_ok e0
  obtain ⟨r, hr, hl⟩ := w ds S1 d S' e2
  refine (pe_callB hr hg hm hv ha hn hdb he hpl).run pins s σ H Q I ?_
  exact RdA.run cf e1 fun vs ι1 H1 st1 cf1 r1 => hl ι1 H1 vs d S' Q cf1.wd r1 e2 fun z ι' H' st wd rz => k z ι' H' (st1.trans st) wd rz
theorem re_callTy (w : WaysC X (.type T) g) (hg : Gl X x) (hm : X.mg x = none) (hv : bootBuiltins x = some (.type T)) (ha : PA X (e :: es) (RdA X.K ca)) (hn : x ≠ "__name__" := by decide) (hdb : (x == ("__debug__" : Str)) = false := by decide)
    (he : starEach (e :: es) X.env = (false, eval e X.env) :: starEach es X.env := by rfl) (hpl : (backTo pos (starEach es X.env)).any (·.1) = false := by rfl) : PE X (.Call (.Name x p) (e :: es) [] pos) (RdE X.K (c1 g ca)) := by
  refine ⟨fun pins s σ H Q I ⟨ι, ρ, S, cf, d, S', e0, k⟩ => ?_⟩
  obtain ⟨ds, S1, e1, e2⟩ := bind_ok e0
  obtain ⟨r, hr, hl⟩ := w ds S1 d S' e2
  refine (pe_callTy hr hg hm hv ha hn hdb he hpl).run pins s σ H Q I ?_
  exact RdA.run cf e1 fun vs ι1 H1 st1 cf1 r1 => hl ι1 H1 vs d S' Q cf1.wd r1 e2 fun z ι' H' st wd rz => k z ι' H' (st1.trans st) wd rz
end
section
variable {K : PySem.W.Frag} {ι : Lk} {H : Hp}
theorem RDs.one {vs : List V} {d : D} (r : RDs K ι H vs [d]) : ∃ v, vs = [v] ∧ RD K ι H v d := by
  cases r with
  | cons r t => cases t; exact ⟨_, rfl, r⟩
theorem RDs.two {vs : List V} {d e : D} (r : RDs K ι H vs [d, e]) : ∃ v w, vs = [v, w] ∧ RD K ι H v d ∧ RD K ι H w e := by
  cases r with
  | cons r t => cases t with
    | cons q t => cases t; exact ⟨_, _, rfl, r, q⟩
end
/-! ### len -/
theorem len_rd {X : Cx} : CallR X (.builtin "len") (fun xs H Q => ∃ a kvs, xs = [.ref a] ∧ Rd H a (.dK kvs) ∧ Q (.int (kvs.length : Nat)) H) := by
  rintro pins s σ H xs us Q I r ⟨a, kvs, rfl, h, q⟩
  obtain rfl := Vals.ref1 r
  exact d_len I h fun t s' I' => ⟨.int kvs.length, H, I', ⟨t, rfl⟩, q⟩
def gLen : List D → Sto → R D
  | [.p (.str s)], S => if s.length ≤ sizeLine then .ok (.p (.int (s.length : Nat))) S else .no
  | [d], S => match itemsA d S with
    | some xs => .ok (.p (.int (xs.length : Nat))) S
    | none => match dicL d S with
      | some kvs => .ok (.p (.int (kvs.length : Nat))) S
      | none => .no
  | _, _ => .no
theorem w_len {X : Cx} : WaysC X (.builtin "len") gLen := fun ds S d S' e => by
  unfold gLen at e
  split at e
  · split at e
    · rename_i s hl
      refine ⟨_, call_len, fun ι H vs d S' Q wd rs e k => ?_⟩
      simp only [gLen, hl, if_true] at e
      cases e
      obtain ⟨v, rfl, r⟩ := rs.one
      obtain ⟨rfl, _⟩ := r.strD
      exact ⟨_, _, rfl, ⟨hl, rfl⟩, k _ ι H (.refl _ _) wd (.p (.int _))⟩
    · cases e
  · rename_i d _ _ hns
    split at e
    · rename_i xs hx
      refine ⟨_, call_len, fun ι H vs d S' Q wd rs e k => ?_⟩
      rw [gLen] at e
      · simp only [hx] at e
        cases e
        obtain ⟨v, rfl, r⟩ := rs.one
        obtain ⟨a, us, rfl, h, q⟩ := wd.items r hx
        refine ⟨_, us.length, rfl, ?_, by rw [q.length]; exact k _ ι H (.refl _ _) wd (.p (.int _))⟩
        rcases h with h | h
        · exact .inl ⟨us, h, rfl⟩
        · exact .inr ⟨us, h, rfl⟩
      · exact hns
    · rename_i hx
      split at e
      · rename_i kvs hk
        refine ⟨_, len_rd, fun ι H vs d S' Q wd rs e k => ?_⟩
        rw [gLen] at e
        · simp only [hx, hk] at e
          cases e
          obtain ⟨v, rfl, r⟩ := rs.one
          obtain ⟨a, us, rfl, h, q⟩ := wd.dct r hk
          exact ⟨a, us, rfl, h, by rw [q.length]; exact k _ ι H (.refl _ _) wd (.p (.int _))⟩
        · exact hns
      · cases e
  · cases e
/-! ### tuple(x), list(x) -/
def gTuple : List D → Sto → R D
  | [d], S => match itemsA d S with
    | some xs => .ok (.p (.tup xs)) S
    | none => .no
  | _, _ => .no
theorem w_tuple {X : Cx} : WaysC X (.type "tuple") gTuple := fun ds S d S' e => by
  unfold gTuple at e
  split at e
  · rename_i d
    split at e
    · rename_i xs hx
      cases e
      refine ⟨_, call_tupleN, fun ι H vs d S' Q wd rs e k => ?_⟩
      simp only [gTuple, hx] at e
      cases e
      obtain ⟨v, rfl, r⟩ := rs.one
      cases d with
      | p y =>
        cases y with
        | tup ys =>
          cases hx
          obtain ⟨a, us, rfl, h, q⟩ := r.tupD
          exact ⟨a, us, rfl, .inr ⟨h.sq, k _ ι H (.refl _ _) wd (.p (.tup h q))⟩⟩
        | ro ys =>
          obtain ⟨a, us, rfl, h, q⟩ := wd.seqA r hx
          exact ⟨a, us, rfl, .inl ⟨h, fun p o hp hd => k _ ι _ (Step.new1 wd hp _) (wd.new1 hp _) (RD.newTup wd hp hd q)⟩⟩
        | scr ys =>
          obtain ⟨a, us, rfl, h, q⟩ := wd.seqA r hx
          exact ⟨a, us, rfl, .inl ⟨h, fun p o hp hd => k _ ι _ (Step.new1 wd hp _) (wd.new1 hp _) (RD.newTup wd hp hd q)⟩⟩
        | _ => cases hx
      | ref n =>
        obtain ⟨a, us, rfl, h, q⟩ := wd.seqA r hx
        exact ⟨a, us, rfl, .inl ⟨h, fun p o hp hd => k _ ι _ (Step.new1 wd hp _) (wd.new1 hp _) (RD.newTup wd hp hd q)⟩⟩
    · cases e
  · cases e
def gListR : List D → Sto → R D
  | [d], S => match itemsA d S with
    | some xs => .ok (.p (.ro xs)) S
    | none => .no
  | _, _ => .no
theorem w_listR {X : Cx} : WaysC X (.type "list") gListR := fun ds S d S' e => by
  unfold gListR at e
  split at e
  · rename_i d _
    split at e
    · rename_i xs hx
      cases e
      refine ⟨_, call_list_of, fun ι H vs d S' Q wd rs e k => ?_⟩
      simp only [gListR, hx] at e
      cases e
      obtain ⟨v, rfl, r⟩ := rs.one
      obtain ⟨a, us, rfl, h, q⟩ := wd.items r hx
      exact ⟨a, us, rfl, h, fun p hp => k _ ι _ (Step.new1 wd hp _) (wd.new1 hp _) (RD.newRo wd hp q)⟩
    · cases e
  · cases e
/-! ### all, any, sum, max, min -/
def blsP : List P → Option (List Bool)
  | [] => some []
  | .bl b :: r => (blsP r).map (b :: ·)
  | _ :: _ => none
def intsP : List P → Option (List Int)
  | [] => some []
  | .int b :: r => (intsP r).map (b :: ·)
  | _ :: _ => none
def strsP : List P → Option (List Str)
  | [] => some []
  | .str b :: r => (strsP r).map (b :: ·)
  | _ :: _ => none
section
variable {K : PySem.W.Frag} {ι : Lk} {H : Hp}
theorem RPs.bls : ∀ {vs : List V} {xs : List P} {bs : List Bool}, RPs K ι H vs xs → blsP xs = some bs → vs = bs.map V.bl
  | _, _, _, .nil, e => by cases e; rfl
  | _, _, _, .cons r t, e => by
    cases r with
    | bl b =>
      simp only [blsP] at e
      obtain ⟨r', h, e2⟩ := Option.map_eq_some_iff.mp e
      subst e2
      rw [t.bls h]; rfl
    | _ => cases e
theorem RPs.ints : ∀ {vs : List V} {xs : List P} {bs : List Int}, RPs K ι H vs xs → intsP xs = some bs → vs = bs.map V.int
  | _, _, _, .nil, e => by cases e; rfl
  | _, _, _, .cons r t, e => by
    cases r with
    | int b =>
      simp only [intsP] at e
      obtain ⟨r', h, e2⟩ := Option.map_eq_some_iff.mp e
      subst e2
      rw [t.ints h]; rfl
    | _ => cases e
theorem RPs.strs : ∀ {vs : List V} {xs : List P} {bs : List Str}, RPs K ι H vs xs → strsP xs = some bs → vs = bs.map V.str ∧ ∀ s ∈ bs, PyData.strOk s = true
  | _, _, _, .nil, e => by cases e; exact ⟨rfl, by simp⟩
  | _, _, _, .cons r t, e => by
    cases r with
    | str h1 =>
      simp only [strsP] at e
      obtain ⟨r', h, e2⟩ := Option.map_eq_some_iff.mp e
      subst e2
      have ⟨q1, q2⟩ := t.strs h
      rw [q1]
      exact ⟨rfl, fun s hs => (List.mem_cons.mp hs).elim (fun e => e ▸ h1) (q2 s)⟩
    | _ => cases e
end
def gBls (f : List Bool → Bool) : List D → Sto → R D
  | [d], S => match (seqA d S).bind blsP with
    | some bs => .ok (.p (.bl (f bs))) S
    | none => .no
  | _, _ => .no
def gAll := gBls fun bs => bs.all id
def gAny := gBls fun bs => bs.any id
theorem ways_bls {X : Cx} {id : String} {f : List Bool → Bool} (h : CallR X (.builtin id) fun vs H Q => ∃ (a : Addr) (bs : List Bool), vs = [V.ref a] ∧ SqL X.K H a (bs.map V.bl) ∧ Q (.bl (f bs)) H) : WaysC X (.builtin id) (gBls f) := fun ds S d S' e => by
  unfold gBls at e
  split at e
  · rename_i d _
    split at e
    · rename_i bs hb
      cases e
      refine ⟨_, h, fun ι H vs d S' Q wd rs e k => ?_⟩
      simp only [gBls, hb] at e
      cases e
      obtain ⟨v, rfl, r⟩ := rs.one
      obtain ⟨xs, hx, hb⟩ := Option.bind_eq_some_iff.mp hb
      obtain ⟨a, us, rfl, h, q⟩ := wd.seqA r hx
      exact ⟨a, bs, rfl, by rw [← q.bls hb]; exact h, k _ ι H (.refl _ _) wd (.p (.bl _))⟩
    · cases e
  · cases e
theorem w_all {X : Cx} (hc : X.calm = true) : WaysC X (.builtin "all") gAll := ways_bls (cr_all hc)
theorem w_any {X : Cx} (hc : X.calm = true) : WaysC X (.builtin "any") gAny := ways_bls (cr_any hc)
/-- the greatest, the least -/
def maxL : List Int → Int
  | [] => 0
  | [x] => x
  | x :: r => max x (maxL r)
def minL : List Int → Int
  | [] => 0
  | [x] => x
  | x :: r => min x (minL r)
theorem maxL_spec : ∀ (ns : List Int) (m : Int), m ∈ ns → (∀ y, y ∈ ns → y ≤ m) → m = maxL ns
  | [], _, h, _ => nomatch h
  | [x], m, h, _ => by simpa [maxL, minL] using h
  | x :: y :: r, m, h, k => by
    have ih := maxL_spec (y :: r)
    have hmax : maxL (x :: y :: r) = max x (maxL (y :: r)) := rfl
    rw [hmax]
    have mem : ∀ l : List Int, l ≠ [] → maxL l ∈ l ∧ ∀ z ∈ l, z ≤ maxL l := by
      intro l
      induction l with
      | nil => intro h; exact absurd rfl h
      | cons a t iht =>
        intro _
        cases t with
        | nil => simp [maxL]
        | cons b t =>
          have ⟨i1, i2⟩ := iht (by simp)
          have e : maxL (a :: b :: t) = max a (maxL (b :: t)) := rfl
          rw [e]
          refine ⟨?_, fun z hz => ?_⟩
          · rcases Int.le_total a (maxL (b :: t)) with q | q
            · rw [Int.max_eq_right q]; exact List.mem_cons_of_mem _ i1
            · rw [Int.max_eq_left q]; exact List.mem_cons_self
          · rcases List.mem_cons.mp hz with e | hz
            · subst e; exact Int.le_max_left _ _
            · exact Int.le_trans (i2 z hz) (Int.le_max_right _ _)
    have ⟨m1, m2⟩ := mem (x :: y :: r) (by simp)
    rw [hmax] at m1 m2
    exact Int.le_antisymm (m2 m h) (k _ m1)
theorem minL_spec : ∀ (ns : List Int) (m : Int), m ∈ ns → (∀ y, y ∈ ns → m ≤ y) → m = minL ns
  | [], _, h, _ => nomatch h
  | [x], m, h, _ => by simpa [maxL, minL] using h
  | x :: y :: r, m, h, k => by
    have hmax : minL (x :: y :: r) = min x (minL (y :: r)) := rfl
    rw [hmax]
    have mem : ∀ l : List Int, l ≠ [] → minL l ∈ l ∧ ∀ z ∈ l, minL l ≤ z := by
      intro l
      induction l with
      | nil => intro h; exact absurd rfl h
      | cons a t iht =>
        intro _
        cases t with
        | nil => simp [minL]
        | cons b t =>
          have ⟨i1, i2⟩ := iht (by simp)
          have e : minL (a :: b :: t) = min a (minL (b :: t)) := rfl
          rw [e]
          refine ⟨?_, fun z hz => ?_⟩
          · rcases Int.le_total a (minL (b :: t)) with q | q
            · rw [Int.min_eq_left q]; exact List.mem_cons_self
            · rw [Int.min_eq_right q]; exact List.mem_cons_of_mem _ i1
          · rcases List.mem_cons.mp hz with e | hz
            · subst e; exact Int.min_le_left _ _
            · exact Int.le_trans (Int.min_le_right _ _) (i2 z hz)
    have ⟨m1, m2⟩ := mem (x :: y :: r) (by simp)
    rw [hmax] at m1 m2
    exact Int.le_antisymm (k _ m1) (m2 m h)
def gIntsOf (C : List Int → Bool) (f : List Int → Int) (d : D) (S : Sto) : R D := match (seqA d S).bind intsP with
  | some bs => if C bs then .ok (.p (.int (f bs))) S else .no
  | none => .no
def gMax : List D → Sto → R D
  | [.p (.int i), .p (.int j)], S => .ok (.p (.int (max i j))) S
  | [d], S => gIntsOf (fun ns => decide (0 < ns.length)) maxL d S
  | _, _ => .no
def gMin : List D → Sto → R D
  | [.p (.int i), .p (.int j)], S => .ok (.p (.int (min i j))) S
  | [d], S => gIntsOf (fun ns => decide (0 < ns.length)) minL d S
  | _, _ => .no
def gSum : List D → Sto → R D
  | [d], S => gIntsOf (fun _ => true) List.sum d S
  | _, _ => .no
theorem lk_ints {X : Cx} {C : List Int → Bool} {f : List Int → Int} {d : D} {S : Sto} {ι : Lk} {H : Hp} {v : V} {z : D} {S' : Sto} {Q : VK} (wd : Wd X.K ι H S) (r : RD X.K ι H v d) (e : gIntsOf C f d S = .ok z S') (k : ∀ w ι' H', Step ι H ι' H' → Wd X.K ι' H' S' → RD X.K ι' H' w z → Q w H') :
    ∃ (a : Addr) (ns : List Int), v = .ref a ∧ SqL X.K H a (ns.map V.int) ∧ C ns = true ∧ Q (.int (f ns)) H := by
  unfold gIntsOf at e
  split at e
  · rename_i bs hb
    split at e
    · rename_i hc
      cases e
      obtain ⟨xs, hx, hb⟩ := Option.bind_eq_some_iff.mp hb
      obtain ⟨a, us, rfl, h, q⟩ := wd.seqA r hx
      exact ⟨a, bs, rfl, by rw [← q.ints hb]; exact h, hc, k _ ι H (.refl _ _) wd (.p (.int _))⟩
    · cases e
  · cases e
theorem w_max {X : Cx} (hc : X.calm = true) : WaysC X (.builtin "max") gMax := fun ds S d S' e => by
  unfold gMax at e
  split at e
  · rename_i i j
    refine ⟨_, call_max2 hc, fun ι H vs d S' Q wd rs e k => ?_⟩
    simp only [gMax] at e
    cases e
    obtain ⟨v, w, rfl, r1, r2⟩ := rs.two
    cases r1.intD; cases r2.intD
    refine ⟨_, _, rfl, ?_⟩
    have : (if j > i then j else i) = max i j := by
      by_cases h : j > i
      · rw [if_pos h, Int.max_eq_right (by omega)]
      · rw [if_neg h, Int.max_eq_left (by omega)]
    rw [this]
    exact k _ ι H (.refl _ _) wd (.p (.int _))
  · rename_i d
    refine ⟨_, cr_max hc, fun ι H vs z S' Q wd rs e k => ?_⟩
    simp only [gMax] at e
    obtain ⟨v, rfl, r⟩ := rs.one
    obtain ⟨a, ns, rfl, h1, h2, q⟩ := lk_ints wd r e k
    exact ⟨a, ns, rfl, h1, of_decide_eq_true h2, fun m h h' => by rw [maxL_spec ns m h h']; exact q⟩
  · cases e
theorem w_min {X : Cx} (hc : X.calm = true) : WaysC X (.builtin "min") gMin := fun ds S d S' e => by
  unfold gMin at e
  split at e
  · rename_i i j
    refine ⟨_, call_min2 hc, fun ι H vs d S' Q wd rs e k => ?_⟩
    simp only [gMin] at e
    cases e
    obtain ⟨v, w, rfl, r1, r2⟩ := rs.two
    cases r1.intD; cases r2.intD
    refine ⟨_, _, rfl, ?_⟩
    have : (if j < i then j else i) = min i j := by
      by_cases h : j < i
      · rw [if_pos h, Int.min_eq_right (by omega)]
      · rw [if_neg h, Int.min_eq_left (by omega)]
    rw [this]
    exact k _ ι H (.refl _ _) wd (.p (.int _))
  · rename_i d
    refine ⟨_, cr_min hc, fun ι H vs z S' Q wd rs e k => ?_⟩
    simp only [gMin] at e
    obtain ⟨v, rfl, r⟩ := rs.one
    obtain ⟨a, ns, rfl, h1, h2, q⟩ := lk_ints wd r e k
    exact ⟨a, ns, rfl, h1, of_decide_eq_true h2, fun m h h' => by rw [minL_spec ns m h h']; exact q⟩
  · cases e
theorem w_sum {X : Cx} (hc : X.calm = true) : WaysC X (.builtin "sum") gSum := fun ds S d S' e => by
  unfold gSum at e
  split at e
  · rename_i d
    refine ⟨_, cr_sum hc, fun ι H vs z S' Q wd rs e k => ?_⟩
    simp only [gSum] at e
    obtain ⟨v, rfl, r⟩ := rs.one
    obtain ⟨a, ns, rfl, h1, h2, q⟩ := lk_ints wd r e k
    exact ⟨a, ns, rfl, h1, q⟩
  · cases e
/-! ### int(x), abs(x) -/
def gIntOf : List D → Sto → R D
  | [.p (.int i)], S => .ok (.p (.int i)) S
  | [.p (.bl b)], S => .ok (.p (.int (if b then 1 else 0))) S
  | _, _ => .no
theorem w_int {X : Cx} : WaysC X (.type "int") gIntOf := fun ds S d S' e => by
  refine ⟨_, call_int1, fun ι H vs d S' Q wd rs e k => ?_⟩
  unfold gIntOf at e
  split at e
  · cases e
    obtain ⟨v, rfl, r⟩ := rs.one
    cases r.intD
    exact .inl ⟨_, rfl, k _ ι H (.refl _ _) wd (.p (.int _))⟩
  · cases e
    obtain ⟨v, rfl, r⟩ := rs.one
    cases r.blD
    exact .inr ⟨_, rfl, k _ ι H (.refl _ _) wd (.p (.int _))⟩
  · cases e
def gAbs : List D → Sto → R D
  | [.p (.int i)], S => .ok (.p (.int (if i < 0 then -i else i))) S
  | _, _ => .no
theorem w_abs {X : Cx} : WaysC X (.builtin "abs") gAbs := fun ds S d S' e => by
  refine ⟨_, call_abs, fun ι H vs d S' Q wd rs e k => ?_⟩
  unfold gAbs at e
  split at e
  · cases e
    obtain ⟨v, rfl, r⟩ := rs.one
    cases r.intD
    exact ⟨_, rfl, k _ ι H (.refl _ _) wd (.p (.int _))⟩
  · cases e
/-! ### isinstance(x, T) -/
def tyN : D → Sto → Option String
  | .p .non, _ => some "NoneType"
  | .p (.bl _), _ => some "bool"
  | .p (.int _), _ => some "int"
  | .p (.str _), _ => some "str"
  | .p (.tup _), _ => some "tuple"
  | .p (.ro _), _ => some "list"
  | .p (.scr _), _ => some "list"
  | .p (.dic _), _ => some "dict"
  | .ref n, S => match S[n]? with
    | some (.lst _) => some "list"
    | some (.dic _) => some "dict"
    | _ => none
def cIsi (T : String) (c : CE) : CE := fun ρ S => (c ρ S).bind fun d S1 => match (tyN d S1).bind fun t => kitB t T with
  | some b => .ok (.p (.bl b)) S1
  | none => .no
theorem ty_of {K : PySem.W.Frag} {ι : Lk} {H : Hp} {S : Sto} (wd : Wd K ι H S) {v : V} {d : D} {t : String} (r : RD K ι H v d) (e : tyN d S = some t) : TyX K H v (.type t) := by
  cases d with
  | p x =>
    cases r with
    | p r =>
      cases r with
      | non => cases e; exact .base .non
      | bl b => cases e; exact .base (.bl b)
      | int b => cases e; exact .base (.int b)
      | str b => cases e; exact .base (.str _)
      | tup h _ =>
        cases e
        rcases h with ⟨⟨o, _, h⟩, _⟩ | ⟨o, _, _, h1, h2, _⟩
        · exact .fTuple h
        · exact .kTuple h1 h2
      | ro h _ _ =>
        cases e
        rcases h with h | ⟨o, h⟩
        · exact .base (.lst h)
        · exact .base (.frz h)
      | scr h _ =>
        cases e
        rcases h with ⟨h | ⟨o, h⟩, _⟩ | h
        · exact .base (.lst h)
        · exact .base (.frz h)
        · rcases h with (h | ⟨_, h⟩) | ⟨o, _, _, h1, h2, _⟩
          · cases h
          · cases h
          · exact .kList h1 h2
      | dic h _ _ =>
        cases e
        rcases h with h | ⟨_, h⟩
        · exact .base (.dK h)
        · exact .fDict h
  | ref n =>
    simp only [tyN] at e
    split at e
    · rename_i xs hx
      cases e
      obtain ⟨a, vs, rfl, _, h, _⟩ := wd.lst r hx
      exact .base (.lst h)
    · rename_i xs hx
      cases e
      obtain ⟨a, vs, rfl, _, h, _⟩ := wd.dict r hx
      exact .base (.dK h)
    · cases e
theorem re_isi {X : Cx} {a : Expr} {ca : CE} {T : String} {y : Str} {p p2 pos : Pos} (hg : Gl X "isinstance") (hm : X.mg "isinstance" = none) (hg2 : Gl X y) (hm2 : X.mg y = none) (hv : bootBuiltins y = some (.type T)) (ha : PE X a (RdE X.K ca))
    (hn : y ≠ "__name__" := by decide) (hd : (y == ("__debug__" : Str)) = false := by decide)
    (hs : starEach (a :: [.Name y p2]) X.env = (false, eval a X.env) :: starEach [.Name y p2] X.env := by rfl)
    (hs2 : starEach (.Name y p2 :: []) X.env = (false, eval (.Name y p2) X.env) :: starEach [] X.env := by rfl)
    (hpl : (backTo pos (starEach [.Name y p2] X.env)).any (·.1) = false := by rfl) :
    PE X (.Call (.Name "isinstance" p) [a, .Name y p2] [] pos) (RdE X.K (cIsi T ca)) := by
  refine (pe_callB call_isi hg hm (by decide +kernel) (pa_cons ha (pa_cons (pe_bltn (v := .ty T) hg2 hm2 hv rfl hn hd) pa_nil hs2) hs) (by decide) (by decide) hs hpl).weak fun σ H Q ⟨ι, ρ, S, cf, d, S', e, k⟩ => ?_
  obtain ⟨x, S1, e1, e2⟩ := bind_ok e
  refine RdE.run cf e1 fun v ι1 H1 st1 cf1 r1 => ?_
  split at e2
  · rename_i b hb
    cases e2
    obtain ⟨t, ht, hk⟩ := Option.bind_eq_some_iff.mp hb
    exact ⟨v, .ty T, _, _, b, rfl, .ty T, ty_of cf1.wd r1 ht, kit_ty hk, k _ ι1 H1 st1 cf1.wd (.p (.bl _))⟩
  · cases e2
end Cw
set_option Elab.async false
set_option linter.all false
set_option maxRecDepth 100000
set_option maxHeartbeats 4000000
/-! Cw8: statements, loops, comprehensions. -/
namespace Cw
open PySem PySem.Spec PyProof.Rows L2

inductive Fl where
  | nx (ρ : Ev) | rt (d : D) | bk (ρ : Ev) | ct (ρ : Ev)
abbrev CS := Ev → Sto → R Fl
section
variable (K : PySem.W.Frag)
def PostS (ι : Lk) (H : Hp) (r : R Fl) (E : Ends) : Prop := ∃ f S', r = .ok f S' ∧ match f with
  | .nx ρ' => ∀ σ' ι' H', Step ι H ι' H' → Cf K ι' H' σ' ρ' S' → E.nx σ' H'
  | .rt d => ∀ v ι' H', Step ι H ι' H' → Wd K ι' H' S' → RD K ι' H' v d → E.rt v H'
  | .bk ρ' => ∀ σ' ι' H', Step ι H ι' H' → Cf K ι' H' σ' ρ' S' → E.bk σ' H'
  | .ct ρ' => ∀ σ' ι' H', Step ι H ι' H' → Cf K ι' H' σ' ρ' S' → E.ct σ' H'
def RdS (c : CS) : TS := fun E σ H => ∃ ι ρ S, Cf K ι H σ ρ S ∧ PostS K ι H (c ρ S) E
end
theorem _root_.L2.PS.weak {X : Cx} {e : Stmt} {t t' : TS} (h : PS X e t) (k : ∀ E σ H, t' E σ H → t E σ H) : PS X e t' := ⟨fun pins s σ H E I q => h.run pins s σ H E I (k E σ H q)⟩
theorem _root_.L2.PSs.weak {X : Cx} {e : List Stmt} {t t' : TS} (h : PSs X e t) (k : ∀ E σ H, t' E σ H → t E σ H) : PSs X e t' := ⟨fun pins s σ H E I q => h.run pins s σ H E I (k E σ H q)⟩
section
variable {K : PySem.W.Frag} {ι : Lk} {H : Hp} {σ : L2.St} {ρ : Ev} {S : Sto}
theorem PostS.step {ι1 : Lk} {H1 : Hp} {r : R Fl} {E : Ends} (st : Step ι H ι1 H1) (h : PostS K ι H r E) : PostS K ι1 H1 r E := by
  obtain ⟨f, S', e, k⟩ := h
  refine ⟨f, S', e, ?_⟩
  cases f with
  | nx ρ' => exact fun σ' ι' H' st' cf => k σ' ι' H' (st.trans st') cf
  | rt d => exact fun v ι' H' st' wd r => k v ι' H' (st.trans st') wd r
  | bk ρ' => exact fun σ' ι' H' st' cf => k σ' ι' H' (st.trans st') cf
  | ct ρ' => exact fun σ' ι' H' st' cf => k σ' ι' H' (st.trans st') cf
theorem RdS.of {c : CS} {E : Ends} (cf : Cf K ι H σ ρ S) (h : PostS K ι H (c ρ S) E) : RdS K c E σ H := ⟨ι, ρ, S, cf, h⟩
/-- behind a body, its way out goes on -/
def goOn (k : Fl → Sto → R Fl) (r : R Fl) : R Fl := r.bind k
theorem RdS.then {c : CS} {k : Fl → Sto → R Fl} {E E' : Ends} (cf : Cf K ι H σ ρ S) (h : PostS K ι H ((c ρ S).bind k) E)
    (hn : ∀ ρ' S' σ' ι' H', Step ι H ι' H' → Cf K ι' H' σ' ρ' S' → PostS K ι' H' (k (.nx ρ') S') E → E'.nx σ' H')
    (hr : ∀ d S' v ι' H', Step ι H ι' H' → Wd K ι' H' S' → RD K ι' H' v d → PostS K ι' H' (k (.rt d) S') E → E'.rt v H')
    (hb : ∀ ρ' S' σ' ι' H', Step ι H ι' H' → Cf K ι' H' σ' ρ' S' → PostS K ι' H' (k (.bk ρ') S') E → E'.bk σ' H')
    (hc : ∀ ρ' S' σ' ι' H', Step ι H ι' H' → Cf K ι' H' σ' ρ' S' → PostS K ι' H' (k (.ct ρ') S') E → E'.ct σ' H') : RdS K c E' σ H := by
  obtain ⟨f, S', e, z⟩ := h
  obtain ⟨g, S1, e1, e2⟩ := bind_ok e
  refine ⟨ι, ρ, S, cf, g, S1, e1, ?_⟩
  have p : PostS K ι H (k g S1) E := ⟨f, S', e2, z⟩
  cases g with
  | nx ρ' => exact fun σ' ι' H' st cf' => hn ρ' S1 σ' ι' H' st cf' (p.step st)
  | rt d => exact fun v ι' H' st wd r => hr d S1 v ι' H' st wd r (p.step st)
  | bk ρ' => exact fun σ' ι' H' st cf' => hb ρ' S1 σ' ι' H' st cf' (p.step st)
  | ct ρ' => exact fun σ' ι' H' st cf' => hc ρ' S1 σ' ι' H' st cf' (p.step st)
theorem PostS.nx {ρ' : Ev} {S' : Sto} {E : Ends} {σ' : L2.St} (cf : Cf K ι H σ' ρ' S') (h : PostS K ι H (.ok (.nx ρ') S') E) : E.nx σ' H := by
  obtain ⟨f, S1, e, k⟩ := h
  cases e
  exact k σ' ι H (.refl _ _) cf
theorem PostS.bk {ρ' : Ev} {S' : Sto} {E : Ends} {σ' : L2.St} (cf : Cf K ι H σ' ρ' S') (h : PostS K ι H (.ok (.bk ρ') S') E) : E.bk σ' H := by
  obtain ⟨f, S1, e, k⟩ := h
  cases e
  exact k σ' ι H (.refl _ _) cf
theorem PostS.ct {ρ' : Ev} {S' : Sto} {E : Ends} {σ' : L2.St} (cf : Cf K ι H σ' ρ' S') (h : PostS K ι H (.ok (.ct ρ') S') E) : E.ct σ' H := by
  obtain ⟨f, S1, e, k⟩ := h
  cases e
  exact k σ' ι H (.refl _ _) cf
theorem PostS.rt {d : D} {S' : Sto} {E : Ends} {v : V} (wd : Wd K ι H S') (r : RD K ι H v d) (h : PostS K ι H (.ok (.rt d) S') E) : E.rt v H := by
  obtain ⟨f, S1, e, k⟩ := h
  cases e
  exact k v ι H (.refl _ _) wd r
end

/-! ### blocks -/
def sNil : CS := fun ρ S => .ok (.nx ρ) S
def sSeq (s t : CS) : CS := fun ρ S => (s ρ S).bind fun f S1 => match f with
  | .nx ρ1 => t ρ1 S1
  | f => .ok f S1
def sIf (c : CT) (s t : CS) : CS := fun ρ S => (c ρ S).bind fun b S1 => if b then s ρ S1 else t ρ S1
def sRet (c : CE) : CS := fun ρ S => (c ρ S).bind fun d S1 => .ok (.rt d) S1
def sRetN : CS := fun _ S => .ok (.rt (.p .non)) S
def sDrop (c : CE) : CS := fun ρ S => (c ρ S).bind fun _ S1 => .ok (.nx ρ) S1
def sBrk : CS := fun ρ S => .ok (.bk ρ) S
def sCnt : CS := fun ρ S => .ok (.ct ρ) S
def sNever : CS := fun _ _ => .no
section
variable {X : Cx} {st : Stmt} {rest sb : List Stmt} {s t : CS} {c : CT} {ce : CE} {e : Expr} {pos : Pos}
theorem rs_nil : PSs X [] (RdS X.K sNil) := pss_nil.weak fun E σ H ⟨ι, ρ, S, cf, h⟩ => h.nx cf
theorem rs_cons (h1 : PS X st (RdS X.K s)) (h2 : PSs X rest (RdS X.K t)) : PSs X (st :: rest) (RdS X.K (sSeq s t)) := (pss_cons h1 h2).weak fun E σ H ⟨ι, ρ, S, cf, h⟩ =>
  RdS.then cf h (fun ρ' S' σ' ι' H' st cf' p => .of cf' p) (fun d S' v ι' H' st wd r p => PostS.rt (E := E) wd r p) (fun ρ' S' σ' ι' H' st cf' p => PostS.bk (E := E) cf' p) fun ρ' S' σ' ι' H' st cf' p => PostS.ct (E := E) cf' p
theorem rs_one (h1 : PS X st (RdS X.K s)) : PSs X [st] (RdS X.K s) := pss_one h1
theorem rs_if {ex : Expr} (hc : PT X ex (RdT X.K c)) (h1 : PSs X rest (RdS X.K s)) (h2 : PSs X sb (RdS X.K t)) : PS X (.If ex rest sb pos) (RdS X.K (sIf c s t)) := (ps_if hc h1 h2).weak fun E σ H ⟨ι, ρ, S, cf, f, S', e, k⟩ => by
  obtain ⟨b, S1, e1, e2⟩ := bind_ok e
  refine RdT.run cf e1 fun ι1 H1 st1 cf1 => ?_
  have p : PostS X.K ι1 H1 (if b = true then s ρ S1 else t ρ S1) E := PostS.step st1 ⟨f, S', e2, k⟩
  cases b with
  | true =>
    rw [if_pos rfl] at p ⊢
    exact .of cf1 p
  | false =>
    rw [if_neg Bool.false_ne_true] at p ⊢
    exact .of cf1 p
theorem rs_ret (h : PE X e (RdE X.K ce)) : PS X (.Return (some e) pos) (RdS X.K (sRet ce)) := (ps_ret h).weak fun E σ H ⟨ι, ρ, S, cf, f, S', e, k⟩ => by
  obtain ⟨d, S1, e1, e2⟩ := bind_ok e
  refine RdE.run cf e1 fun v ι1 H1 st1 cf1 r1 => ?_
  exact PostS.rt cf1.wd r1 (PostS.step st1 ⟨f, S', e2, k⟩)
theorem rs_retN : PS X (.Return none pos) (RdS X.K sRetN) := ps_retN.weak fun E σ H ⟨ι, ρ, S, cf, h⟩ => h.rt cf.wd (.p .non)
theorem rs_expr (h : PE X e (RdE X.K ce)) (hs : swapsWith e none pos.line X.env = pure false := by rfl) : PS X (.Expr e pos) (RdS X.K (sDrop ce)) := (ps_expr h hs).weak fun E σ H ⟨ι, ρ, S, cf, f, S', e, k⟩ => by
  obtain ⟨d, S1, e1, e2⟩ := bind_ok e
  refine RdE.run cf e1 fun v ι1 H1 st1 cf1 r1 => ?_
  exact PostS.nx cf1 (PostS.step st1 ⟨f, S', e2, k⟩)
theorem rs_pass : PS X (.Pass pos) (RdS X.K sNil) := ps_pass.weak fun E σ H ⟨ι, ρ, S, cf, h⟩ => h.nx cf
theorem rs_break : PS X (.Break pos) (RdS X.K sBrk) := ps_break.weak fun E σ H ⟨ι, ρ, S, cf, h⟩ => h.bk cf
theorem rs_continue : PS X (.Continue pos) (RdS X.K sCnt) := ps_continue.weak fun E σ H ⟨ι, ρ, S, cf, h⟩ => h.ct cf
theorem rs_never : PS X st (RdS X.K sNever) := ps_never.weak fun E σ H ⟨ι, ρ, S, cf, f, S', e, k⟩ => by cases e
theorem rs_neverS : PSs X rest (RdS X.K sNever) := pss_never.weak fun E σ H ⟨ι, ρ, S, cf, f, S', e, k⟩ => by cases e
end

/-! ### targets -/
abbrev CG := D → Ev → Sto → R Ev
abbrev CGs := List P → Ev → Sto → R Ev
/-- a target stores at the slots of is alone -/
def RdG (K : PySem.W.Frag) (is : List Nat) (g : CG) : TG := fun v σ H Q => ∃ ι ρ S d, Cf K ι H σ ρ S ∧ RD K ι H v d ∧ ∃ ρ' S', g d ρ S = .ok ρ' S' ∧
  ∀ σ' ι' H', Step ι H ι' H' → Cf K ι' H' σ' ρ' S' → σ'.length = σ.length → (∀ j, j ∉ is → σ'[j]? = σ[j]?) → Q σ' H'
def RdGs (K : PySem.W.Frag) (is : List Nat) (g : CGs) : TGs := fun vs σ H Q => ∃ ι ρ S xs, Cf K ι H σ ρ S ∧ RPs K ι H vs xs ∧ ∃ ρ' S', g xs ρ S = .ok ρ' S' ∧
  ∀ σ' ι' H', Step ι H ι' H' → Cf K ι' H' σ' ρ' S' → σ'.length = σ.length → (∀ j, j ∉ is → σ'[j]? = σ[j]?) → Q σ' H'
theorem _root_.L2.PG.weak {X : Cx} {e : Expr} {t t' : TG} (h : PG X e t) (k : ∀ v σ H Q, t' v σ H Q → t v σ H Q) : PG X e t' := ⟨fun pins s σ H v u Q I r q => h.run pins s σ H v u Q I r (k v σ H Q q)⟩
theorem _root_.L2.PGs.weak {X : Cx} {e : List Expr} {t t' : TGs} (h : PGs X e t) (k : ∀ v σ H Q, t' v σ H Q → t v σ H Q) : PGs X e t' := ⟨fun pins s σ H v u Q I r q => h.run pins s σ H v u Q I r (k v σ H Q q)⟩
theorem Cf.set {K : PySem.W.Frag} {ι : Lk} {H : Hp} {σ : L2.St} {ρ : Ev} {S : Sto} {v : V} {d : D} (cf : Cf K ι H σ ρ S) (r : RD K ι H v d) (i : Nat) : Cf K ι H (σ.set i (some v)) (ρ.set i (some d)) S := by
  refine ⟨cf.wd, by rw [List.length_set, List.length_set]; exact cf.len, fun j e h => ?_⟩
  by_cases hj : i = j
  · subst hj
    by_cases hi : i < ρ.length
    · rw [List.getElem?_set_self hi] at h
      cases h
      exact ⟨v, List.getElem?_set_self (by rw [cf.len]; exact hi), r⟩
    · rw [List.getElem?_eq_none (by rw [List.length_set]; omega)] at h; cases h
  · rw [List.getElem?_set_ne hj] at h ⊢
    exact cf.sv j e h
def gN (i : Nat) : CG := fun d ρ S => .ok (ρ.set i (some d)) S
def gsNil : CGs := fun xs ρ S => match xs with
  | [] => .ok ρ S
  | _ => .no
def gsCons (g : CG) (r : CGs) : CGs := fun xs ρ S => match xs with
  | x :: xs => (g (.p x) ρ S).bind fun ρ1 S1 => r xs ρ1 S1
  | [] => .no
def gTp (n : Nat) (g : CGs) : CG := fun d ρ S => match d with
  | .p (.tup xs) => if xs.length = n then g xs ρ S else .no
  | _ => .no
section
variable {X : Cx} {pos : Pos} {x : Str}
theorem rg_name {i : Nat} (hN : X.N.Nodup) (hi : X.N[i]? = some x) (hx : Loc X.env.scope x) (hf : X.fn x = true ∨ X.env.scope.names.lookup x = some .local := by first | exact .inl rfl | exact .inr rfl | assumption) : PG X (.Name x pos) (RdG X.K [i] (gN i)) :=
  (pg_name hN hi hx hf).weak fun v σ H Q ⟨ι, ρ, S, d, cf, r, ρ', S', e, k⟩ => by
    cases e
    exact k _ ι H (.refl _ _) (cf.set r i) (List.length_set ..) fun j hj => List.getElem?_set_ne fun e => hj (by rw [e]; exact List.mem_singleton.mpr rfl)
theorem rgs_nil : PGs X [] (RdGs X.K [] gsNil) := pgs_nil.weak fun v σ H Q ⟨ι, ρ, S, d, cf, r, ρ', S', e, k⟩ => by
  unfold gsNil at e
  split at e
  · cases e
    cases r
    exact ⟨rfl, k σ ι H (.refl _ _) cf rfl fun _ _ => rfl⟩
  · cases e
theorem rgs_cons {a : Expr} {es : List Expr} {is js : List Nat} {g : CG} {r : CGs} (h1 : PG X a (RdG X.K is g)) (h2 : PGs X es (RdGs X.K js r)) (hs : (assignEach (a :: es) X.env).map (·.2) = assign a X.env :: (assignEach es X.env).map (·.2) := by rfl) : PGs X (a :: es) (RdGs X.K (is ++ js) (gsCons g r)) :=
  (pgs_cons h1 h2 hs).weak fun v σ H Q ⟨ι, ρ, S, d, cf, q, ρ', S', e, k⟩ => by
    unfold gsCons at e
    split at e
    · rename_i y ys
      obtain ⟨ρ1, S1, e1, e2⟩ := bind_ok e
      cases q with
      | cons q qs =>
        refine ⟨_, _, rfl, ι, ρ, S, _, cf, .p q, ρ1, S1, e1, fun σ1 ι1 H1 st1 cf1 l1 h1 => ?_⟩
        refine ⟨ι1, ρ1, S1, _, cf1, qs.mono st1, ρ', S', e2, fun σ2 ι2 H2 st2 cf2 l2 h2 => k σ2 ι2 H2 (st1.trans st2) cf2 (l2.trans l1) fun j hj => ?_⟩
        rw [h2 j fun z => hj (List.mem_append_right _ z), h1 j fun z => hj (List.mem_append_left _ z)]
    · cases e
theorem rg_tup {es : List Expr} {k : Nat} {is : List Nat} {g : CGs} {n : Nat} (hc : X.calm = true) (h : PGs X es (RdGs X.K is g)) (hn : (assignEach es X.env).length = n := by rfl) (hst : (assignEach es X.env).findIdx? (·.1) = none := by rfl) : PG X (.Tuple es k pos) (RdG X.K is (gTp n g)) :=
  (pg_tup hc h hn hst).weak fun v σ H Q ⟨ι, ρ, S, d, cf, q, ρ', S', e, k⟩ => by
    unfold gTp at e
    split at e
    · split at e
      · rename_i xs hl
        obtain ⟨a, vs, rfl, h1, q1⟩ := q.tupD
        exact ⟨a, vs, rfl, h1.sq, by rw [q1.length]; exact hl, ι, ρ, S, xs, cf, q1, ρ', S', e, k⟩
      · cases e
    · cases e
end
/-! ### assignments -/
def sAsg (c : CE) (g : CG) : CS := fun ρ S => (c ρ S).bind fun d S1 => (g d ρ S1).bind fun ρ2 S2 => .ok (.nx ρ2) S2
theorem asg_rd {K : PySem.W.Frag} {c : CE} {is : List Nat} {g : CG} {E : Ends} {σ : L2.St} {H : Hp} (h : RdS K (sAsg c g) E σ H) : RdE K c σ H fun x H1 => RdG K is g x σ H1 E.nx := by
  obtain ⟨ι, ρ, S, cf, f, S', e, k⟩ := h
  obtain ⟨d, S1, e1, e2⟩ := bind_ok e
  obtain ⟨ρ2, S2, e3, e4⟩ := bind_ok e2
  cases e4
  exact RdE.run cf e1 fun v ι1 H1 st1 cf1 r1 => ⟨ι1, ρ, S1, d, cf1, r1, ρ2, S', e3, fun σ' ι' H' st cf' _ _ => k σ' ι' H' (st1.trans st) cf'⟩
section
variable {X : Cx} {e tg : Expr} {ce : CE} {is : List Nat} {g : CG} {pos pos' : Pos} {x : Str}
theorem rs_asg (he : PE X e (RdE X.K ce)) (hg : PG X tg (RdG X.K is g)) (hs : swapsWithSole [tg] e pos.line X.env = pure false := by rfl) (hw : swappedStores [tg] e X.env = pure none := by rfl)
    (h1 : (assignEach [tg] X.env).map (·.2) = [assign tg X.env] := by rfl) : PS X (.Assign [tg] e pos) (RdS X.K (sAsg ce g)) := (ps_asg he hg hs hw h1).weak fun E σ H h => asg_rd h
theorem rs_set {i : Nat} (hN : X.N.Nodup) (hi : X.N[i]? = some x) (hx : Loc X.env.scope x) (he : PE X e (RdE X.K ce)) (hs : swapsWith e (some (.Name x pos')) pos.line X.env = pure false := by rfl) (hf : X.fn x = true ∨ X.env.scope.names.lookup x = some .local := by first | exact .inl rfl | exact .inr rfl | assumption) :
    PS X (.Assign [.Name x pos'] e pos) (RdS X.K (sAsg ce (gN i))) := (ps_set hN hi hx he hs hf).weak fun E σ H h => by
  obtain ⟨ι, ρ, S, cf, f, S', e, k⟩ := h
  obtain ⟨d, S1, e1, e2⟩ := bind_ok e
  obtain ⟨ρ2, S2, e3, e4⟩ := bind_ok e2
  cases e4
  cases e3
  exact RdE.run cf e1 fun v ι1 H1 st1 cf1 r1 => k _ ι1 H1 st1 (cf1.set r1 i)
end

/-! ### the same things -/
mutual
def P.beq : P → P → Bool
  | .non, .non => true
  | .bl a, .bl b => a == b
  | .int a, .int b => a == b
  | .str a, .str b => decide (a = b)
  | .tup a, .tup b => P.beqs a b
  | .ro a, .ro b => P.beqs a b
  | .scr a, .scr b => P.beqs a b
  | .dic a, .dic b => P.beqk a b
  | _, _ => false
def P.beqs : List P → List P → Bool
  | [], [] => true
  | x :: xs, y :: ys => x.beq y && P.beqs xs ys
  | _, _ => false
def P.beqk : List (Key × P) → List (Key × P) → Bool
  | [], [] => true
  | (j, x) :: xs, (k, y) :: ys => decide (j = k) && x.beq y && P.beqk xs ys
  | _, _ => false
end
mutual
theorem beq_eq : ∀ x y : P, x.beq y = true → x = y
  | .non, .non, _ => rfl
  | .bl a, .bl b, h => by simp only [P.beq, beq_iff_eq] at h; rw [h]
  | .int a, .int b, h => by simp only [P.beq, beq_iff_eq] at h; rw [h]
  | .str a, .str b, h => by simp only [P.beq, decide_eq_true_eq] at h; rw [h]
  | .tup a, .tup b, h => by simp only [P.beq] at h; rw [beqs_eq a b h]
  | .ro a, .ro b, h => by simp only [P.beq] at h; rw [beqs_eq a b h]
  | .scr a, .scr b, h => by simp only [P.beq] at h; rw [beqs_eq a b h]
  | .dic a, .dic b, h => by simp only [P.beq] at h; rw [beqk_eq a b h]
theorem beqs_eq : ∀ x y : List P, P.beqs x y = true → x = y
  | [], [], _ => rfl
  | x :: xs, y :: ys, h => by
    simp only [P.beqs, Bool.and_eq_true] at h
    rw [beq_eq x y h.1, beqs_eq xs ys h.2]
theorem beqk_eq : ∀ x y : List (Key × P), P.beqk x y = true → x = y
  | [], [], _ => rfl
  | (j, x) :: xs, (k, y) :: ys, h => by
    simp only [P.beqk, Bool.and_eq_true, decide_eq_true_eq] at h
    rw [h.1.1, beq_eq x y h.1.2, beqk_eq xs ys h.2]
end
mutual
theorem beq_rfl : ∀ x : P, x.beq x = true
  | .non => rfl
  | .bl a => by simp [P.beq]
  | .int a => by simp [P.beq]
  | .str a => by simp [P.beq]
  | .tup a => by simp only [P.beq]; exact beqs_rfl a
  | .ro a => by simp only [P.beq]; exact beqs_rfl a
  | .scr a => by simp only [P.beq]; exact beqs_rfl a
  | .dic a => by simp only [P.beq]; exact beqk_rfl a
theorem beqs_rfl : ∀ x : List P, P.beqs x x = true
  | [] => rfl
  | x :: xs => by simp only [P.beqs, beq_rfl x, beqs_rfl xs]; rfl
theorem beqk_rfl : ∀ x : List (Key × P), P.beqk x x = true
  | [] => rfl
  | (j, x) :: xs => by simp only [P.beqk, beq_rfl x, beqk_rfl xs, decide_true]; rfl
end

/-! ### what is walked -/
/-- the things walked; the store's list whose they are -/
abbrev CI := Ev → Sto → R (List P × Option (Nat × List P))
def okT (tr : Option (Nat × List P)) (_ : List P) (S : Sto) : Bool := match tr with
  | none => true
  | some (m, zs) => match S[m]? with
    | some (.lst ys) => P.beqs ys zs
    | _ => false
theorem okT_at {m : Nat} {xs zs : List P} {S : Sto} (h : okT (some (m, zs)) xs S = true) : S[m]? = some (.lst zs) := by
  unfold okT at h
  simp only at h
  split at h
  · rename_i ys hy
    rw [hy, beqs_eq ys zs h]
  · cases h
/-- J walks them -/
def Go (K : PySem.W.Frag) (J : It) (ι0 : Lk) (H0 : Hp) (xs : List P) (tr : Option (Nat × List P)) : Prop :=
  ∀ (ι : Lk) (H : Hp) (S : Sto), StepH ι0 H0 ι H → Wd K ι H S → okT tr xs S = true →
    (∀ i x, xs[i]? = some x → J.go i H ∧ ∀ v H', J.yld i H v H' → Step ι H ι H' ∧ Wd K ι H' S ∧ RP K ι H' v x) ∧ J.stop xs.length H
def RdI (K : PySem.W.Frag) (c : CI) : TI := fun σ H Q => ∃ ι ρ S, Cf K ι H σ ρ S ∧ ∃ xs tr S', c ρ S = .ok (xs, tr) S' ∧ ∀ J ι' H', Step ι H ι' H' → Wd K ι' H' S' → Go K J ι' H' xs tr → Q J H'
theorem _root_.L2.PI.weak {X : Cx} {tg e : Expr} {t t' : TI} (h : PI X tg e t) (k : ∀ σ H Q, t' σ H Q → t σ H Q) : PI X tg e t' := ⟨fun pins s σ H Q I q => h.run pins s σ H Q I (k σ H Q q)⟩
theorem _root_.L2.PI.orr {X : Cx} {tg e : Expr} {t t' : TI} (h : PI X tg e t) (h' : PI X tg e t') : PI X tg e (fun σ H Q => t σ H Q ∨ t' σ H Q) := ⟨fun pins s σ H Q I q => q.elim (h.run pins s σ H Q I) (h'.run pins s σ H Q I)⟩
theorem Step.lk {ι ι' : Lk} {H H' : Hp} (st : Step ι H ι' H') {m : Nat} {a : Addr} (h : ι.ix[m]? = some (some a)) : ι'.ix[m]? = some (some a) ∨ ι'.ix[m]? = some none := st.old m _ h
/-- a sequence at a: what is read there is one -/
theorem rd_one {H : Hp} {a : Addr} {u u' : HO} (h : Rd H a u) (h' : Rd H a u') (n : ∀ o w, u ≠ .frz o w) (n' : ∀ o w, u' ≠ .frz o w) : u = u' := by
  rcases h with h | ⟨o, h⟩ <;> rcases h' with h' | ⟨o', h'⟩
  · rw [h] at h'; exact Option.some.inj h'
  · rw [h] at h'; exact absurd (Option.some.inj h') (n _ _)
  · rw [h'] at h; exact absurd (Option.some.inj h) (n' _ _)
  · rw [h] at h'; cases h'; rfl
end Cw
set_option Elab.async false
set_option linter.all false
set_option maxRecDepth 100000
set_option maxHeartbeats 4000000
/-! Cw9: loops, comprehensions. -/
namespace Cw
open PySem PySem.Spec PyProof.Rows L2

section
variable {K : PySem.W.Frag} {ι : Lk} {H : Hp} {S : Sto}
theorem go_seq {a : Addr} {vs : List V} {xs : List P} (h : LstAt K ι H a vs) (r : RPs K ι H vs xs) : Go K (Itl K a) ι H xs none := fun ι1 H1 S1 st wd _ => by
  have h1 := (h.monoH st).sq
  have r1 := r.monoH st
  refine ⟨fun i x e => ?_, ⟨vs, h1, Nat.le_of_eq r1.length⟩⟩
  obtain ⟨v, hv, rv⟩ := r1.get e
  refine ⟨⟨vs, v, h1, hv⟩, fun w H' y => ?_⟩
  obtain ⟨e1, y⟩ := y
  subst e1
  have := y vs h1
  rw [hv] at this
  cases this
  exact ⟨.refl _ _, wd, rv⟩
theorem go_tup {a : Addr} {vs : List V} {xs : List P} (h : TupAt K ι H a vs) (r : RPs K ι H vs xs) : Go K (Itt K a) ι H xs none := fun ι1 H1 S1 st wd _ => by
  have h1 := (h.monoH st).sq
  have r1 := r.monoH st
  refine ⟨fun i x e => ?_, ⟨vs, h1, Nat.le_of_eq r1.length⟩⟩
  obtain ⟨v, hv, rv⟩ := r1.get e
  refine ⟨⟨vs, v, h1, hv⟩, fun w H' y => ?_⟩
  obtain ⟨e1, y⟩ := y
  subst e1
  have := y vs h1
  rw [hv] at this
  cases this
  exact ⟨.refl _ _, wd, rv⟩
theorem go_ref {m : Nat} {a : Addr} {xs : List P} (h : ι.ix[m]? = some (some a)) : Go K (Itl K a) ι H xs (some (m, xs)) := fun ι1 H1 S1 st wd ok => by
  have hS := okT_at ok
  have q := wd.ob m _ hS
  obtain ⟨vs, h1, r1⟩ : ∃ vs, H1 a = some (.lst vs) ∧ RPs K ι1 H1 vs xs := by
    rcases st.old m _ h with e | e
    · rw [e] at q
      cases q with
      | lst e1 r => exact ⟨_, e1, r⟩
    · rw [e] at q
      cases q
  refine ⟨fun i x e => ?_, ⟨vs, .of h1, Nat.le_of_eq r1.length⟩⟩
  obtain ⟨v, hv, rv⟩ := r1.get e
  refine ⟨⟨vs, v, .of h1, hv⟩, fun w H' y => ?_⟩
  obtain ⟨e1, y⟩ := y
  subst e1
  have := y vs (.of h1)
  rw [hv] at this
  cases this
  exact ⟨.refl _ _, wd, rv⟩
def rangeP (lo : Int) (n : Nat) : List P := (List.range n).map fun i => .int (lo + (i : Nat))
theorem go_range (lo : Int) (n : Nat) : Go K (Itr lo n) ι H (rangeP lo n) none := fun ι1 H1 S1 st wd _ => by
  have hl : (rangeP lo n).length = n := by unfold rangeP; rw [List.length_map, List.length_range]
  refine ⟨fun i x e => ?_, by rw [hl]; exact Nat.le_refl n⟩
  have hi : i < n := by
    rcases Nat.lt_or_ge i n with q | q
    · exact q
    · rw [List.getElem?_eq_none (by omega)] at e; cases e
  refine ⟨hi, fun w H' y => ?_⟩
  obtain ⟨e1, e2⟩ := y
  subst e1 e2
  have : (rangeP lo n)[i]? = some (.int (lo + (i : Nat))) := by
    unfold rangeP
    rw [List.getElem?_map, List.getElem?_range hi]; rfl
  rw [this] at e
  cases e
  exact ⟨.refl _ _, wd, .int _⟩
end
/-! ### what a for walks -/
/-- a value: a tuple, a list -/
def iterD (d : D) (S : Sto) : R (List P × Option (Nat × List P)) := match d with
  | .p (.tup xs) => .ok (xs, none) S
  | .p (.ro xs) => .ok (xs, none) S
  | .p (.scr xs) => .ok (xs, none) S
  | .ref m => match S[m]? with
    | some (.lst xs) => .ok (xs, some (m, xs)) S
    | _ => .no
  | _ => .no
def cIt (c : CE) : CI := fun ρ S => (c ρ S).bind iterD
def rngOk (i j : Int) : Bool := Nat.ble i.natAbs 4611686018427387903 && Nat.ble j.natAbs 4611686018427387903
def cRng1 (c : CE) : CI := fun ρ S => (c ρ S).bind fun d S1 => match d with
  | .p (.int j) => if rngOk 0 j then .ok (rangeP 0 j.toNat, none) S1 else .no
  | _ => .no
def cRng2 (a b : CE) : CI := fun ρ S => (a ρ S).bind fun x S1 => (b ρ S1).bind fun y S2 => match x, y with
  | .p (.int i), .p (.int j) => if rngOk i j then .ok (rangeP i (j - i).toNat, none) S2 else .no
  | _, _ => .no
section
variable {X : Cx} {e a b tg : Expr} {ce ca cb : CE} {p pos : Pos}
theorem ri_seq (h : PE X e (RdE X.K ce)) : PI X tg e (RdI X.K (cIt ce)) := (PI.orr (pi_list h) (pi_tup h)).weak fun σ H Q ⟨ι, ρ, S, cf, xs, tr, S', e, k⟩ => by
  obtain ⟨d, S1, e1, e2⟩ := bind_ok e
  cases d with
  | p x =>
    cases x with
    | tup ys =>
      cases e2
      refine .inr (RdE.run cf e1 fun v ι1 H1 st1 cf1 r1 => ?_)
      obtain ⟨a, vs, rfl, h1, q1⟩ := r1.tupD
      exact ⟨a, rfl, ⟨vs, h1.sq⟩, k _ ι1 H1 st1 cf1.wd (go_tup h1 q1)⟩
    | ro ys =>
      cases e2
      refine .inl (RdE.run cf e1 fun v ι1 H1 st1 cf1 r1 => ?_)
      cases r1 with
      | p r1 =>
        cases r1 with
        | ro h hn q1 => exact ⟨_, rfl, ⟨_, .inl h⟩, k _ ι1 H1 st1 cf1.wd (go_seq (.inl ⟨h, hn⟩) q1)⟩
    | scr ys =>
      cases e2
      refine .inl (RdE.run cf e1 fun v ι1 H1 st1 cf1 r1 => ?_)
      cases r1 with
      | p r1 =>
        cases r1 with
        | scr h q1 => exact ⟨_, rfl, ⟨_, h.sq⟩, k _ ι1 H1 st1 cf1.wd (go_seq h q1)⟩
    | _ => cases e2
  | ref m =>
    unfold iterD at e2
    simp only at e2
    split at e2
    · rename_i ys hy
      cases e2
      refine .inl (RdE.run cf e1 fun v ι1 H1 st1 cf1 r1 => ?_)
      obtain ⟨a, vs, rfl, hix, h1, q1⟩ := cf1.wd.lst r1 hy
      exact ⟨a, rfl, ⟨vs, .of h1⟩, k _ ι1 H1 st1 cf1.wd (go_ref hix)⟩
    · cases e2
theorem rngOk_of {i j : Int} (h : rngOk i j = true) : -(2 ^ 62) ≤ i ∧ i < 2 ^ 62 ∧ -(2 ^ 62) ≤ j ∧ j < 2 ^ 62 := by
  unfold rngOk at h
  rw [Bool.and_eq_true, Nat.ble_eq, Nat.ble_eq] at h
  omega
theorem ri_range1 (hg : Gl X "range") (hm : X.mg "range" = none) (ha : PE X a (RdE X.K ca)) (hs : starEach [a] X.env = [(false, eval a X.env)] := by rfl) (hs0 : starEach (a :: []) X.env = (false, eval a X.env) :: starEach [] X.env := by rfl) : PI X tg (.Call (.Name "range" p) [a] [] pos) (RdI X.K (cRng1 ca)) :=
  (pi_range1 hg hm (pa_cons ha pa_nil hs0) hs).weak fun σ H Q ⟨ι, ρ, S, cf, xs, tr, S', e, k⟩ => by
    obtain ⟨d, S1, e1, e2⟩ := bind_ok e
    refine RdE.run cf e1 fun v ι1 H1 st1 cf1 r1 => ?_
    split at e2
    · split at e2
      · rename_i j hj
        cases e2
        have hj := rngOk_of hj
        exact ⟨j, by rw [r1.intD], hj.2.2.1, hj.2.2.2, k _ ι1 H1 st1 cf1.wd (go_range 0 _)⟩
      · cases e2
    · cases e2
theorem ri_range2 (hg : Gl X "range") (hm : X.mg "range" = none) (ha : PE X a (RdE X.K ca)) (hb : PE X b (RdE X.K cb)) (hs : starEach [a, b] X.env = [(false, eval a X.env), (false, eval b X.env)] := by rfl) (hs2 : starEach [b] X.env = [(false, eval b X.env)] := by rfl)
    (hs0 : starEach (a :: [b]) X.env = (false, eval a X.env) :: starEach [b] X.env := by rfl) (hs1 : starEach (b :: []) X.env = (false, eval b X.env) :: starEach [] X.env := by rfl) : PI X tg (.Call (.Name "range" p) [a, b] [] pos) (RdI X.K (cRng2 ca cb)) :=
  (pi_range2 hg hm (pa_cons ha (pa_cons hb pa_nil hs1) hs0) hs hs2).weak fun σ H Q ⟨ι, ρ, S, cf, xs, tr, S', e, k⟩ => by
    obtain ⟨x, S1, e1, e2⟩ := bind_ok e
    obtain ⟨y, S2, e3, e4⟩ := bind_ok e2
    refine RdE.run cf e1 fun v ι1 H1 st1 cf1 r1 => RdE.run cf1 e3 fun w ι2 H2 st2 cf2 r2 => ?_
    split at e4
    · split at e4
      · rename_i i j hj
        cases e4
        have hj := rngOk_of hj
        exact ⟨i, j, by rw [r1.intD, r2.intD], hj, k _ ι2 H2 (st1.trans st2) cf2.wd (go_range i _)⟩
      · cases e4
    · cases e4
end

/-! ### for -/
def forL (g : CG) (body : CS) (tr : Option (Nat × List P)) (xs0 : List P) : List P → CS
  | [] => fun ρ S => if okT tr xs0 S then .ok (.nx ρ) S else .no
  | x :: r => fun ρ S => if okT tr xs0 S then (g (.p x) ρ S).bind fun ρ1 S1 => (body ρ1 S1).bind fun f S2 => match f with
      | .nx ρ2 => forL g body tr xs0 r ρ2 S2
      | .ct ρ2 => forL g body tr xs0 r ρ2 S2
      | .bk ρ2 => .ok (.nx ρ2) S2
      | .rt d => .ok (.rt d) S2
    else .no
def sFor (it : CI) (g : CG) (body : CS) : CS := fun ρ S => (it ρ S).bind fun z S1 => forL g body z.2 z.1 z.1 ρ S1
theorem drop_at {α : Type} {xs : List α} {i : Nat} {x : α} {r : List α} (h : xs.drop i = x :: r) : xs[i]? = some x ∧ xs.drop (i + 1) = r := by
  have hi : i < xs.length := by
    rcases Nat.lt_or_ge i xs.length with q | q
    · exact q
    · rw [List.drop_eq_nil_of_le q] at h; cases h
  rw [List.drop_eq_getElem_cons hi] at h
  cases h
  exact ⟨List.getElem?_eq_getElem hi, rfl⟩
section
variable {X : Cx} {tg iter : Expr} {body : List Stmt} {it : CI} {is : List Nat} {g : CG} {cb : CS} {pos : Pos}
theorem for_go {K : PySem.W.Frag} {E : Ends} {σ : L2.St} {H1 : Hp} {J : It} {ι1 : Lk} {ρ : Ev} {S1 : Sto} {xs : List P} {tr : Option (Nat × List P)} (cf1 : Cf K ι1 H1 σ ρ S1) (go : Go K J ι1 H1 xs tr) (p0 : PostS K ι1 H1 (forL g cb tr xs xs ρ S1) E) :
    ∃ W : Nat → Nat → L2.St → Hp → Prop, (∃ m, W 0 m σ H1) ∧ ∀ i m σ H, W i m σ H →
      (J.stop i H ∧ E.nx σ H) ∨ (J.go i H ∧ ∃ N : L2.St → Hp → Prop, (∀ σ' H', N σ' H' → ∃ m', m' < m ∧ W (i + 1) m' σ' H') ∧ ∀ x H', J.yld i H x H' → RdG K is g x σ H' fun σ2 H2 => RdS K cb { E with nx := N, ct := N, bk := E.nx } σ2 H2) := by
  refine ⟨fun i m σ H => m + i = xs.length ∧ ∃ ι ρ S, Cf K ι H σ ρ S ∧ Step ι1 H1 ι H ∧ PostS K ι H (forL g cb tr xs (xs.drop i) ρ S) E, ⟨xs.length, by omega, ι1, ρ, S1, cf1, .refl _ _, p0⟩, ?_⟩
  rintro i m σ2 H2 ⟨hm, ι2, ρ2, S2, cf2, st2, p2⟩
  cases hx : xs.drop i with
  | nil =>
    rw [hx] at p2
    unfold forL at p2
    have hi : xs.length ≤ i := List.drop_eq_nil_iff.mp hx
    have hi2 : i = xs.length := by omega
    by_cases ok : okT tr xs S2 = true
    · simp only [ok, if_true] at p2
      exact .inl ⟨by rw [hi2]; exact (go ι2 H2 S2 st2.h cf2.wd ok).2, p2.nx cf2⟩
    · simp only [ok] at p2
      obtain ⟨_, _, z, _⟩ := p2
      cases z
  | cons x r =>
    obtain ⟨hxi, hr⟩ := drop_at hx
    rw [hx] at p2
    unfold forL at p2
    by_cases ok : okT tr xs S2 = true
    · simp only [ok, if_true] at p2
      obtain ⟨gg, gy⟩ := (go ι2 H2 S2 st2.h cf2.wd ok).1 i x hxi
      refine .inr ⟨gg, fun σ H => ∃ ι ρ S, Cf K ι H σ ρ S ∧ Step ι1 H1 ι H ∧ PostS K ι H (forL g cb tr xs (xs.drop (i + 1)) ρ S) E, fun σ' H' ⟨ι', ρ', S', c', s', p'⟩ => ⟨m - 1, ?_, ?_, ι', ρ', S', c', s', p'⟩, fun v H' y => ?_⟩
      · have : i < xs.length := by
          rcases Nat.lt_or_ge i xs.length with q | q
          · exact q
          · rw [List.getElem?_eq_none q] at hxi; cases hxi
        omega
      · have : i < xs.length := by
          rcases Nat.lt_or_ge i xs.length with q | q
          · exact q
          · rw [List.getElem?_eq_none q] at hxi; cases hxi
        omega
      obtain ⟨st3, wd3, rv⟩ := gy v H' y
      obtain ⟨f', Sf, e3, k3⟩ := p2
      obtain ⟨ρ4, S4, e4, e5⟩ := bind_ok e3
      refine ⟨ι2, ρ2, S2, .p x, cf2.step st3 wd3, .p rv, ρ4, S4, e4, fun σ4 ι4 H4 st4 cf4 _ _ => ?_⟩
      have st34 := st3.trans st4
      refine RdS.then (E := E) cf4 (PostS.step st34 ⟨f', Sf, e5, k3⟩) (fun ρ' S' σ' ι' H' st cf' p => ?_) (fun d S' v ι' H' st wd r p => PostS.rt (E := E) wd r p) (fun ρ' S' σ' ι' H' st cf' p => PostS.nx (E := E) cf' p) fun ρ' S' σ' ι' H' st cf' p => ?_
      · rw [hr]
        exact ⟨ι', ρ', S', cf', (st2.trans st34).trans st, p⟩
      · rw [hr]
        exact ⟨ι', ρ', S', cf', (st2.trans st34).trans st, p⟩
    · simp only [ok] at p2
      obtain ⟨_, _, z, _⟩ := p2
      cases z
theorem for_rd {K : PySem.W.Frag} {E : Ends} {σ : L2.St} {H : Hp} (h : RdS K (sFor it g cb) E σ H) : tFor (RdI K it) (RdG K is g) (RdS K cb) E σ H := by
  obtain ⟨ι, ρ, S, cf, f, S', e, k⟩ := h
  obtain ⟨⟨xs, tr⟩, S1, e1, e2⟩ := bind_ok e
  exact ⟨ι, ρ, S, cf, xs, tr, S1, e1, fun J ι1 H1 st1 wd1 go => for_go (cf.step st1 wd1) go (PostS.step st1 ⟨f, S', e2, k⟩)⟩
theorem rs_for (hp : PassesOwn (model X.prog X.w) X.A X.env X.xe) (hc : X.calm = true) (hi : PI X tg iter (RdI X.K it)) (hg : PG X tg (RdG X.K is g)) (hb : PSs X body (RdS X.K cb))
    (hs : ∀ x, foldedSetIterable iter X.env x = pure x := by intro _; rfl) : PS X (.For tg iter body [] pos) (RdS X.K (sFor it g cb)) := (ps_for hp hc hi hg hb hs).weak fun E σ H h => for_rd h
end

/-! ### while -/
def whileN (t : CT) (b : CS) : Nat → CS
  | 0 => fun _ _ => .no
  | n + 1 => fun ρ S => (t ρ S).bind fun k S1 => if k then (b ρ S1).bind fun f S2 => match f with
      | .nx ρ2 => whileN t b n ρ2 S2
      | .ct ρ2 => whileN t b n ρ2 S2
      | .bk ρ2 => .ok (.nx ρ2) S2
      | .rt d => .ok (.rt d) S2
    else .ok (.nx ρ) S1
/-- more turns than any loop here takes -/
def bigW : Nat := 1099511627776
def sWhile (t : CT) (b : CS) : CS := whileN t b bigW
section
variable {X : Cx} {c : Expr} {body : List Stmt} {t : CT} {cb : CS} {pos : Pos}
theorem while_rd {K : PySem.W.Frag} {E : Ends} {σ : L2.St} {H : Hp} {n : Nat} (h : RdS K (whileN t cb n) E σ H) : tWhile (RdT K t) (RdS K cb) E σ H := by
  refine ⟨fun m σ H => RdS K (whileN t cb m) E σ H, ⟨n, h⟩, ?_⟩
  rintro m σ2 H2 ⟨ι, ρ, S, cf, f, S', e, k⟩
  cases m with
  | zero => cases e
  | succ m =>
    obtain ⟨b, S1, e1, e2⟩ := bind_ok e
    refine RdT.run cf e1 fun ι1 H1 st1 cf1 => ?_
    cases b with
    | false =>
      rw [if_neg Bool.false_ne_true] at e2 ⊢
      exact PostS.nx cf1 (PostS.step st1 ⟨f, S', e2, k⟩)
    | true =>
      rw [if_pos rfl] at e2 ⊢
      refine ⟨fun σ H => RdS K (whileN t cb m) E σ H, fun σ' H' q => ⟨m, Nat.lt_succ_self m, q⟩, ?_⟩
      exact RdS.then (E := E) cf1 (PostS.step st1 ⟨f, S', e2, k⟩) (fun ρ' S' σ' ι' H' st cf' p => .of cf' p) (fun d S' v ι' H' st wd r p => PostS.rt (E := E) wd r p) (fun ρ' S' σ' ι' H' st cf' p => PostS.nx (E := E) cf' p) fun ρ' S' σ' ι' H' st cf' p => .of cf' p
theorem rs_while (hp : PassesOwn (model X.prog X.w) X.A X.env X.xe) (hc : PT X c (RdT X.K t)) (hb : PSs X body (RdS X.K cb)) : PS X (.While c body [] pos) (RdS X.K (sWhile t cb)) := (ps_while hp hc hb).weak fun E σ H h => while_rd h
end
end Cw
set_option Elab.async false
set_option linter.all false
set_option maxRecDepth 100000
set_option maxHeartbeats 4000000
/-! Cw10: comprehensions. -/
namespace Cw
open PySem PySem.Spec PyProof.Rows L2

/-- the slots of the block's own names forgotten -/
def wipeE (ρ : Ev) : List Nat → Ev
  | [] => ρ
  | v :: vs => (wipeE ρ vs).set v none
theorem wipe_get {α : Type} (σ : List (Option α)) (w : List (Option α) → List Nat → List (Option α)) (h0 : ∀ σ, w σ [] = σ) (h1 : ∀ σ v vs, w σ (v :: vs) = (w σ vs).set v none) : ∀ (vs : List Nat),
    (w σ vs).length = σ.length ∧ (∀ j, j ∉ vs → (w σ vs)[j]? = σ[j]?) ∧ ∀ j, j ∈ vs → j < σ.length → (w σ vs)[j]? = some none
  | [] => by rw [h0]; exact ⟨rfl, fun _ _ => rfl, fun j hj => by simp at hj⟩
  | v :: vs => by
    obtain ⟨a, b, c⟩ := wipe_get σ w h0 h1 vs
    rw [h1]
    refine ⟨by rw [List.length_set, a], fun j hj => ?_, fun j hj hl => ?_⟩
    · have h2 : v ≠ j := fun e => hj (by rw [e]; exact List.mem_cons_self)
      rw [List.getElem?_set_ne h2]
      exact b j fun z => hj (List.mem_cons_of_mem _ z)
    · by_cases e : v = j
      · subst e
        exact List.getElem?_set_self (by rw [a]; exact hl)
      · rw [List.getElem?_set_ne e]
        exact c j ((List.mem_cons.mp hj).elim (fun z => absurd z.symm e) id) hl
theorem wipeV (σ : L2.St) (vs : List Nat) : (wipe σ vs).length = σ.length ∧ (∀ j, j ∉ vs → (wipe σ vs)[j]? = σ[j]?) ∧ ∀ j, j ∈ vs → j < σ.length → (wipe σ vs)[j]? = some none := wipe_get σ wipe (fun _ => rfl) (fun _ _ _ => rfl) vs
theorem wipeD (ρ : Ev) (vs : List Nat) : (wipeE ρ vs).length = ρ.length ∧ (∀ j, j ∉ vs → (wipeE ρ vs)[j]? = ρ[j]?) ∧ ∀ j, j ∈ vs → j < ρ.length → (wipeE ρ vs)[j]? = some none := wipe_get ρ wipeE (fun _ => rfl) (fun _ _ _ => rfl) vs
/-- stores at the block's own names are forgotten -/
theorem wipe_same {σ σ2 : L2.St} {vs : List Nat} (hl : σ2.length = σ.length) (h : ∀ j, j ∉ vs → σ2[j]? = (wipe σ vs)[j]?) : wipe σ2 vs = wipe σ vs := by
  obtain ⟨a, b, c⟩ := wipeV σ vs
  obtain ⟨a2, b2, c2⟩ := wipeV σ2 vs
  refine List.ext_getElem? fun j => ?_
  by_cases hj : j ∈ vs
  · by_cases hs : j < σ.length
    · rw [c2 j hj (by rw [hl]; exact hs), c j hj hs]
    · rw [List.getElem?_eq_none (by rw [a2, hl]; omega), List.getElem?_eq_none (by rw [a]; omega)]
  · rw [b2 j hj, h j hj]
section
variable {K : PySem.W.Frag} {ι ι' : Lk} {H H' : Hp} {S : Sto}
theorem Cf.wiped {σ : L2.St} {ρ : Ev} (cf : Cf K ι H σ ρ S) (vs : List Nat) : Cf K ι H (wipe σ vs) (wipeE ρ vs) S := by
  obtain ⟨a, b, c⟩ := wipeV σ vs
  obtain ⟨a2, b2, c2⟩ := wipeD ρ vs
  refine ⟨cf.wd, by rw [a, a2]; exact cf.len, fun i d h => ?_⟩
  by_cases hi : i ∈ vs
  · by_cases hs : i < ρ.length
    · rw [c2 i hi hs] at h; cases h
    · rw [List.getElem?_eq_none (by rw [a2]; omega)] at h; cases h
  · rw [b2 i hi] at h
    rw [b i hi]
    exact cf.sv i d h
theorem Step.unhide {a : Addr} (st : Step (ι.hide a) H (ι'.hide a) H') : Step ι H ι' H' := ⟨by have := st.hid; exact (List.cons.inj this).2, st.len, st.old, st.new, st.keep, st.there⟩
theorem Step.isHide {a : Addr} {κ : Lk} (st : Step (ι.hide a) H κ H') : ∃ ι' : Lk, κ = ι'.hide a := ⟨⟨κ.ix, ι.hid⟩, by
  obtain ⟨ix, hid⟩ := κ
  have : hid = a :: ι.hid := st.hid
  subst this
  rfl⟩
/-- ahead of a new thing that is being made -/
theorem StepH.hide {a : Addr} {o : HO} (wd : Wd K ι H S) (ha : H a = none) : StepH ι H (ι.hide a) (upd H a o) :=
  ⟨fun _ _ h => .inl h, fun b hb => (has_hide hb).elim .inl fun e => .inr (by rw [e]; exact ha), fun b u h _ => by rw [upd_ne (ne_of_none h ha)]; exact h⟩
/-- what is being made changes -/
theorem StepH.made {a : Addr} {o : HO} : StepH (ι.hide a) H (ι.hide a) (upd H a o) :=
  ⟨fun _ _ h => .inl h, fun b hb => .inl hb, fun b u h hn => by
    have : b ≠ a := fun e => hn (.inr (by rw [e]; exact List.mem_cons_self))
    rw [upd_ne this]; exact h⟩
theorem StepH.trans {κ : Lk} {G : Hp} (a : StepH ι H ι' H') (b : StepH ι' H' κ G) (t : ∀ x, H' x = none → H x = none) : StepH ι H κ G :=
  ⟨fun n o h => (a.old n o h).elim (b.old n o) fun q => (b.old n none q).elim .inr .inr, fun x hx => (b.has x hx).elim (a.has x) fun q => .inr (t x q), fun x o h hn => b.keep x o (a.keep x o h hn) (a.out h hn)⟩
theorem Wd.made {a : Addr} {o : HO} (wd : Wd K (ι.hide a) H S) : Wd K (ι.hide a) (upd H a o) S := by
  have hda := wd.hd a List.mem_cons_self
  refine ⟨wd.len, wd.nd, fun n ob e => ?_, fun b hb => ⟨fun z => ?_, (wd.hd b hb).2⟩⟩
  · have q := wd.ob n ob e
    generalize hz : (ι.hide a).ix[n]? = z at q
    have ne : ∀ {x : Addr}, z = some (some x) → x ≠ a := fun hzx e => by
      subst hzx e
      exact hda.2 (List.mem_of_getElem? hz)
    cases q with
    | lst e1 r => exact .lst (by rw [upd_ne (ne rfl)]; exact e1) (r.monoH StepH.made)
    | dic e1 r => exact .dic (by rw [upd_ne (ne rfl)]; exact e1) (r.monoH StepH.made)
    | gone => exact .gone
  · by_cases e : b = a
    · rw [e, upd_same] at z; cases z
    · rw [upd_ne e] at z; exact (wd.hd b hb).1 z
theorem Step.made {a : Addr} {o : HO} {ι0 : Lk} {H0 : Hp} (st : Step ι0 H0 ι H) (ha : H0 a = none) : Step ι0 H0 ι (upd H a o) :=
  ⟨st.hid, st.len, st.old, st.new, fun x u h hn => by rw [upd_ne (ne_of_none h ha)]; exact st.keep x u h hn, fun x h => by
    by_cases e : x = a
    · rw [e]; exact ha
    · rw [upd_ne e] at h; exact st.there x h⟩
end

def compL (g : CG) (t : CT) (e : CE) (tr : Option (Nat × List P)) (xs0 : List P) : List P → List P → Ev → Sto → R (List P)
  | [], acc, ρ, S => if okT tr xs0 S then .ok acc S else .no
  | x :: r, acc, ρ, S => if okT tr xs0 S then (g (.p x) ρ S).bind fun ρ1 S1 => (t ρ1 S1).bind fun b S2 =>
      if b then (e ρ1 S2).bind fun d S3 => match d with
        | .p y => if acc.length < sizeLine then compL g t e tr xs0 r (acc ++ [y]) ρ S3 else .no
        | .ref _ => .no
      else compL g t e tr xs0 r acc ρ S2
    else .no
def cComp (it : CI) (g : CG) (t : CT) (e : CE) (vs : List Nat) : CN := fun ρ S => (it ρ S).bind fun z S1 => compL g t e z.2 z.1 z.1 [] (wipeE ρ vs) S1
def cYes : CT := fun _ S => .ok true S
theorem lc_rd {K : PySem.W.Frag} {it : CI} {is vs : List Nat} {g : CG} {t : CT} {e : CE} {σ : L2.St} {H : Hp} {Q : VK} (hv : ∀ i ∈ is, i ∈ vs) (h : RdN K (cComp it g t e vs) σ H Q) : tLc (RdI K it) (RdG K is g) (RdT K t) (RdE K e) vs σ H Q := by
  obtain ⟨ι, ρ, S, cf, zs, S', e0, k⟩ := h
  obtain ⟨⟨xs, tr⟩, S1, e1, e2⟩ := bind_ok e0
  refine ⟨ι, ρ, S, cf, xs, tr, S1, e1, fun J ι1 H1 st1 wd1 go D hD => ?_⟩
  have e2 : compL g t e tr xs xs [] (wipeE ρ vs) S1 = .ok zs S' := e2
  have hD0 : H D = none := st1.there D hD
  have hDh : D ∉ ι1.hid := fun z => (wd1.hd D z).1 hD
  refine ⟨fun i m H2 => m + i = xs.length ∧ ∃ ι2 S2 acc us, Step ι1 H1 ι2 H2 ∧ Cf K (ι2.hide D) H2 (wipe σ vs) (wipeE ρ vs) S2 ∧ H2 D = some (.lst us) ∧ RPs K (ι2.hide D) H2 us acc ∧ compL g t e tr xs (xs.drop i) acc (wipeE ρ vs) S2 = .ok zs S',
    ⟨xs.length, by omega, ι1, S1, [], [], (Step.refl ι1 H1).made hD, ?_, upd_same, .nil, e2⟩, ?_⟩
  · have cfh : Cf K (ι1.hide D) (upd H1 D (.lst [])) σ ρ S1 := ⟨wd1.hidden hD _, cf.len, fun i d hd => by
      obtain ⟨v, hv, r⟩ := cf.sv i d hd
      exact ⟨v, hv, (r.mono st1).monoH (StepH.hide wd1 hD)⟩⟩
    exact cfh.wiped vs
  rintro i m H2 ⟨hm, ι2, S2, acc, us, st2, cf2, hus, rus, e3⟩
  have hda := cf2.wd.hd D List.mem_cons_self
  have gstep : StepH ι1 H1 (ι2.hide D) H2 := ⟨st2.old, fun b hb => (has_hide hb).elim (st2.h.has b) fun e => .inr (by rw [e]; exact hD), st2.h.keep⟩
  cases hx : xs.drop i with
  | nil =>
    rw [hx] at e3
    unfold compL at e3
    have hi : xs.length ≤ i := List.drop_eq_nil_iff.mp hx
    have hi2 : i = xs.length := by omega
    by_cases ok : okT tr xs S2 = true
    · simp only [ok, if_true] at e3
      cases e3
      refine .inl ⟨by rw [hi2]; exact (go _ H2 _ gstep cf2.wd ok).2, ?_⟩
      refine k D us ι2 H2 (st1.trans st2) cf2.wd hD0 (fun z => ?_) hus rus
      rcases z with z | z
      · exact hda.2 z
      · rw [st2.hid] at z; exact hDh z
    · simp only [ok] at e3
      cases e3
  | cons x r =>
    obtain ⟨hxi, hr⟩ := drop_at hx
    have hil : i < xs.length := by
      rcases Nat.lt_or_ge i xs.length with q | q
      · exact q
      · rw [List.getElem?_eq_none q] at hxi; cases hxi
    rw [hx] at e3
    unfold compL at e3
    by_cases ok : okT tr xs S2 = true
    · simp only [ok, if_true] at e3
      obtain ⟨gg, gy⟩ := (go _ H2 _ gstep cf2.wd ok).1 i x hxi
      refine .inr ⟨gg, fun H2 => ∃ ι2 S2 acc us, Step ι1 H1 ι2 H2 ∧ Cf K (ι2.hide D) H2 (wipe σ vs) (wipeE ρ vs) S2 ∧ H2 D = some (.lst us) ∧ RPs K (ι2.hide D) H2 us acc ∧ compL g t e tr xs (xs.drop (i + 1)) acc (wipeE ρ vs) S2 = .ok zs S',
        fun H' q => ⟨m - 1, by omega, by omega, q⟩, fun v H' y => ?_⟩
      obtain ⟨st3, wd3, rv⟩ := gy v H' y
      obtain ⟨ρ4, S4, e4, e5⟩ := bind_ok e3
      obtain ⟨b, S5, e6, e7⟩ := bind_ok e5
      refine ⟨_, wipeE ρ vs, S2, .p x, cf2.step st3 wd3, .p rv, ρ4, S4, e4, fun σ4 κ4 H4 st4 cf4 hlen hσ => ?_⟩
      refine ⟨wipe_same (hlen.trans (wipeV σ vs).1) fun j hj => hσ j fun z => hj (hv j z), ?_⟩
      refine RdT.run cf4 e6 fun κ5 H5 st5 cf5 => ?_
      have stA := (st3.trans st4).trans st5
      cases b with
      | false =>
        rw [if_neg Bool.false_ne_true] at e7 ⊢
        obtain ⟨ι5, rfl⟩ := stA.isHide
        exact ⟨ι5, S5, acc, us, st2.trans stA.unhide, cf2.step stA cf5.wd, stA.keep D _ hus hda.2, rus.mono stA, by rw [hr]; exact e7⟩
      | true =>
        rw [if_pos rfl] at e7 ⊢
        obtain ⟨d, S6, e8, e9⟩ := bind_ok e7
        refine RdE.run cf5 e8 fun w κ6 H6 st6 cf6 r6 => ?_
        split at e9
        · rename_i y
          split at e9
          · rename_i hl
            have stB := stA.trans st6
            obtain ⟨ι6, rfl⟩ := stB.isHide
            have rB := rus.mono stB
            cases r6 with
            | p r6 =>
              refine ⟨us, stB.keep D _ hus hda.2, by rw [rB.length]; exact hl, ι6, S6, acc ++ [y], us ++ [w], (st2.trans stB.unhide).made hD, ⟨cf6.wd.made, cf2.len, fun j d hd => ?_⟩, upd_same, (rB.app (.cons r6 .nil)).monoH StepH.made, by rw [hr]; exact e9⟩
              obtain ⟨v', hv', r'⟩ := cf2.sv j d hd
              exact ⟨v', hv', (r'.mono stB).monoH StepH.made⟩
          · cases e9
        · cases e9
    · simp only [ok] at e3
      cases e3
structure PTsR (X : Cx) (ifs : List Expr) (t : CT) : Prop where
  run : PTs X ifs (RdT X.K t)
theorem rts_nil {X : Cx} : PTsR X [] cYes := ⟨⟨fun pins s σ H Q I ⟨ι, ρ, S, cf, b, S', e, k⟩ => by
  cases e
  exact pts_nil.run pins s σ H Q I (k ι H (.refl _ _) cf.wd)⟩⟩
theorem rts_one {X : Cx} {c : Expr} {t : CT} (h : PT X c (RdT X.K t)) : PTsR X [c] t := ⟨pts_one h⟩
section
variable {X : Cx} {elt tg iter : Expr} {ifs : List Expr} {scope : Scope} {own : List (Str × Nat)} {pos : Pos} {it : CI} {is : List Nat} {g : CG} {t : CT} {e : CE}
theorem rn_lc (hc : X.calm = true) (hN : X.N.Nodup) (hi : PI X tg iter (RdI X.K it)) (ok : blkC X.N X.env.scope scope own = true)
    (hg : ∀ (s : Shared) (H : Hp) (C : Addr) (cl : List (Str × Addr)) (fp : List Addr), PG (X.blk s H scope (compEnvC scope cl C X.env) fp) tg (RdG X.K is g)) (ht : ∀ (s : Shared) (H : Hp) (C : Addr) (cl : List (Str × Addr)) (fp : List Addr), PTsR (X.blk s H scope (compEnvC scope cl C X.env) fp) ifs t)
    (he : ∀ (s : Shared) (H : Hp) (C : Addr) (cl : List (Str × Addr)) (fp : List Addr), PE (X.blk s H scope (compEnvC scope cl C X.env) fp) elt (RdE X.K e)) (hv : (is.all fun i => (own.map (·.2)).contains i) = true := by rfl) (hs : ∀ x, foldedSetIterable iter X.env x = pure x := by intro _; rfl) :
    PE X (.ListComp elt [⟨tg, iter, ifs, 0⟩] scope pos) (RdN X.K (cComp it g t e (own.map (·.2)))) :=
  (pe_lc hc hN hi (blkOk_by ok) hg (fun s H C cl fp => (ht s H C cl fp).run) he hs).weak fun σ H Q h => lc_rd (fun i hi => by
    have := List.all_eq_true.mp hv i hi
    simpa using this) h
def sSetN (i : Nat) (c : CE) : CS := sAsg c (gN i)
/-- y = [..] on one line: as one that stands, as a thing of the store -/
theorem ro_rd {K : PySem.W.Frag} {cn : CN} {σ : L2.St} {H : Hp} {Q : VK} (h : RdE K (cRo cn) σ H Q) : RdN K cn σ H Q := by
  obtain ⟨ι, ρ, S, cf, d, S', e, k⟩ := h
  obtain ⟨xs, S1, e1, e2⟩ := bind_ok e
  cases e2
  refine ⟨ι, ρ, S, cf, xs, S', e1, fun a vs ι' H' st wd h1 h2 h3 r => ?_⟩
  exact k _ ι' H' st wd.unhide (.p (.ro (.inl h3) h2 (r.has (hide_has ι' a))))
theorem tr_rd {K : PySem.W.Frag} {cn : CN} {σ : L2.St} {H : Hp} {Q : VK} (h : RdE K (cTr cn) σ H Q) : RdN K cn σ H Q := by
  obtain ⟨ι, ρ, S, cf, d, S', e, k⟩ := h
  obtain ⟨xs, S1, e1, e2⟩ := bind_ok e
  cases e2
  refine ⟨ι, ρ, S, cf, xs, S1, e1, fun a vs ι' H' st wd h1 h2 h3 r => ?_⟩
  have hlen : ι'.ix.length = S1.length := wd.len
  have hat : (ι'.ix ++ [some a])[S1.length]? = some (some a) := by rw [← hlen, List.getElem?_append_right (Nat.le_refl _), Nat.sub_self]; rfl
  exact k _ (ι'.add a) H' (Step.added st h1) (Wd.added wd h2 h3 r) (.ref (n := S1.length) (o := some a) hat fun b z => by cases z; rfl)
variable {y : Str} {py spos : Pos} {i : Nat}
theorem lcset_rd {K : PySem.W.Frag} {t : TE} {c : CE} {E : Ends} {σ : L2.St} {H : Hp} (k : ∀ σ H Q, RdE K c σ H Q → t σ H Q) (h : RdS K (sAsg c (gN i)) E σ H) : tAsg t (gName i) E σ H := by
  obtain ⟨ι, ρ, S, cf, f, S', e, k'⟩ := h
  obtain ⟨d, S1, e1, e2⟩ := bind_ok e
  obtain ⟨ρ2, S2, e3, e4⟩ := bind_ok e2
  cases e4
  cases e3
  refine k σ H _ (RdE.run cf e1 fun v ι1 H1 st1 cf1 r1 => ?_)
  exact k' _ ι1 H1 st1 (cf1.set r1 i)
theorem rs_setLc {c : CE} (hk : ∀ σ H Q, RdE X.K c σ H Q → RdN X.K (cComp it g t e (own.map (·.2))) σ H Q) (hc : X.calm = true) (hN : X.N.Nodup) (hy : X.N[i]? = some y) (hyl : X.env.scope.names.lookup y = some .local)
    (hsw : swapsWith (.ListComp elt [⟨tg, iter, ifs, 0⟩] scope pos) (some (.Name y py)) spos.line X.env = pure true) (hi : PI X tg iter (RdI X.K it)) (ok : blkC X.N X.env.scope scope own = true)
    (hg : ∀ (s : Shared) (H : Hp) (C : Addr) (cl : List (Str × Addr)) (fp : List Addr), PG (X.blk s H scope (compEnvC scope cl C X.env) fp) tg (RdG X.K is g)) (ht : ∀ (s : Shared) (H : Hp) (C : Addr) (cl : List (Str × Addr)) (fp : List Addr), PTsR (X.blk s H scope (compEnvC scope cl C X.env) fp) ifs t)
    (he : ∀ (s : Shared) (H : Hp) (C : Addr) (cl : List (Str × Addr)) (fp : List Addr), PE (X.blk s H scope (compEnvC scope cl C X.env) fp) elt (RdE X.K e)) (hv : (is.all fun i => (own.map (·.2)).contains i) = true := by rfl) (hs : ∀ x, foldedSetIterable iter X.env x = pure x := by intro _; rfl) :
    PS X (.Assign [.Name y py] (.ListComp elt [⟨tg, iter, ifs, 0⟩] scope pos) spos) (RdS X.K (sAsg c (gN i))) :=
  (ps_setLc (i := i) hc hN hy hyl hsw hi (blkOk_by ok) hg (fun s H C cl fp => (ht s H C cl fp).run) he hs).weak fun E σ H h => lcset_rd (fun σ H Q q => lc_rd (fun i hi => by
    have := List.all_eq_true.mp hv i hi
    simpa using this) (hk σ H Q q)) h
end
end Cw
set_option Elab.async false
set_option linter.all false
set_option maxRecDepth 100000
set_option maxHeartbeats 4000000
/-! Cw11: what changes: lists and dicts of the store. -/
namespace Cw
open PySem PySem.Spec PyProof.Rows L2

section
variable {K : PySem.W.Frag} {ι ι' : Lk} {H H' : Hp} {S : Sto}
theorem Wd.lt (wd : Wd K ι H S) {n : Nat} {a : Addr} (h : ι.ix[n]? = some (some a)) : n < S.length := by
  rw [← wd.len]
  rcases Nat.lt_or_ge n ι.ix.length with q | q
  · exact q
  · rw [List.getElem?_eq_none q] at h; cases h
/-- a thing of the store changes -/
theorem StepH.write {a : Addr} {o : HO} (h : some a ∈ ι.ix) : StepH ι H ι (upd H a o) :=
  ⟨fun _ _ h => .inl h, fun _ h => .inl h, fun b u hb hn => by rw [upd_ne (fun e => hn (.inl (by rw [e]; exact h)))]; exact hb⟩
theorem Step.write {a : Addr} {o : HO} (h : some a ∈ ι.ix) : Step ι H ι (upd H a o) :=
  ⟨rfl, Nat.le_refl _, fun _ _ h => .inl h, fun _ h => .inl h, fun b u hb hn => by rw [upd_ne (fun e => hn (by rw [e]; exact h))]; exact hb, fun b hb => by
    by_cases e : b = a
    · rw [e, upd_same] at hb; cases hb
    · rw [upd_ne e] at hb; exact hb⟩
theorem Wd.write (wd : Wd K ι H S) {n : Nat} {a : Addr} {o : HO} {ob : Ob} (h : ι.ix[n]? = some (some a)) (q : ROb K ι (upd H a o) (some (some a)) ob) : Wd K ι (upd H a o) (S.set n ob) := by
  have hm := List.mem_of_getElem? h
  refine ⟨by rw [List.length_set]; exact wd.len, wd.nd, fun m o' e => ?_, fun b hb => ⟨fun z => (wd.hd b hb).1 ((Step.write hm).there b z), (wd.hd b hb).2⟩⟩
  by_cases hmn : n = m
  · subst hmn
    rw [List.getElem?_set_self (wd.lt h)] at e
    cases e
    rw [h]; exact q
  · rw [List.getElem?_set_ne hmn] at e
    have z := wd.ob m o' e
    generalize hz : ι.ix[m]? = w at z
    have ne : ∀ {x : Addr}, w = some (some x) → x ≠ a := fun hx e => by
      subst hx e
      exact hmn (wd.nd n m _ h hz)
    cases z with
    | lst e1 r => exact .lst (by rw [upd_ne (ne rfl)]; exact e1) (r.mono (Step.write hm))
    | dic e1 r => exact .dic (by rw [upd_ne (ne rfl)]; exact e1) (r.mono (Step.write hm))
    | gone => exact .gone
end
/-! ### methods of built-ins -/
def LkM (K : PySem.W.Frag) (r : V → List V → Hp → VK → Prop) (g : D → List D → Sto → R D) (x : D) (ds : List D) (S : Sto) : Prop :=
  ∀ (ι : Lk) (H : Hp) (v : V) (vs : List V) (d : D) (S' : Sto) (Q : VK), Wd K ι H S → RD K ι H v x → RDs K ι H vs ds → g x ds S = .ok d S' → (∀ z ι' H', Step ι H ι' H' → Wd K ι' H' S' → RD K ι' H' z d → Q z H') → r v vs H Q
def WaysM (X : Cx) (id : String) (g : D → List D → Sto → R D) : Prop := ∀ x ds S d S', g x ds S = .ok d S' → ∃ r, MtM X id r ∧ LkM X.K r g x ds S
/-- of which built-in class a value is, for its methods -/
def isTy (T : String) (d : D) (S : Sto) : Bool := match d with
  | .p (.str _) => T == "str"
  | .ref n => match S[n]? with
    | some (.lst _) => T == "list"
    | some (.dic _) => T == "dict"
    | _ => false
  | .p (.ro _) => T == "list"
  | .p (.scr _) => T == "list"
  | _ => false
theorem ty_is {K : PySem.W.Frag} {ι : Lk} {H : Hp} {S : Sto} (wd : Wd K ι H S) {T : String} {v : V} {d : D} (r : RD K ι H v d) (h : isTy T d S = true) : tyV K T v H := by
  cases d with
  | p x =>
    cases x with
    | str s =>
      obtain ⟨rfl, _⟩ := r.strD
      exact eq_of_beq h
    | ro xs =>
      obtain ⟨a, vs, rfl, h1, _⟩ := wd.seqA r (d := .p (.ro xs)) rfl
      exact .inl ⟨eq_of_beq h, vs, h1⟩
    | scr xs =>
      obtain ⟨a, vs, rfl, h1, _⟩ := wd.seqA r (d := .p (.scr xs)) rfl
      exact .inl ⟨eq_of_beq h, vs, h1⟩
    | _ => cases h
  | ref n =>
    unfold isTy at h
    simp only at h
    split at h
    · rename_i xs hx
      obtain ⟨a, vs, rfl, _, h1, _⟩ := wd.lst r hx
      exact .inl ⟨eq_of_beq h, vs, .of h1⟩
    · rename_i xs hx
      obtain ⟨a, vs, rfl, _, h1, _⟩ := wd.dict r hx
      exact .inr (.inr (.inl ⟨eq_of_beq h, .inl ⟨vs, h1⟩⟩))
    · cases h
def cM (T : String) (g : D → List D → Sto → R D) (co : CE) (ca : CA) : CE := fun ρ S => (co ρ S).bind fun x S1 => if isTy T x S1 then (ca ρ S1).bind fun ds S2 => g x ds S2 else .no
def cM0 (T : String) (g : D → List D → Sto → R D) (co : CE) : CE := fun ρ S => (co ρ S).bind fun x S1 => if isTy T x S1 then g x [] S1 else .no
section
variable {X : Cx} {o e : Expr} {es : List Expr} {co : CE} {ca : CA} {name : Str} {apos cpos : Pos} {T id : String} {g : D → List D → Sto → R D}
theorem re_m0 (w : WaysM X id g) (pa : PlainAttrs T) (slot : Slot T name id) (hty : typeOf (.builtin id) = pure (.type "method_descriptor")) (ho : PE X o (RdE X.K co))
    (hbase : attributeBase o name X.env (eval o X.env) = eval o X.env := by rfl) (hline : (apos.endLine == cpos.line) = true := by rfl) : PE X (.Call (.Attribute o name apos) [] [] cpos) (RdE X.K (cM0 T g co)) := by
  refine ⟨fun pins s σ H Q I ⟨ι, ρ, S, cf, d, S', e0, k⟩ => ?_⟩
  obtain ⟨x, S1, e1, e2⟩ := bind_ok e0
  split at e2
  · rename_i ht
    obtain ⟨r, hr, hl⟩ := w x [] S1 d S' e2
    refine (pe_bm0 pa slot hty hr ho hbase hline).run pins s σ H Q I ?_
    exact RdE.run cf e1 fun v ι1 H1 st1 cf1 r1 => ⟨ty_is cf1.wd r1 ht, hl ι1 H1 v [] d S' Q cf1.wd r1 .nil e2 fun z ι' H' st wd rz => k z ι' H' (st1.trans st) wd rz⟩
  · cases e2
theorem re_m (w : WaysM X id g) (pa : PlainAttrs T) (slot : Slot T name id) (hty : typeOf (.builtin id) = pure (.type "method_descriptor")) (ho : PE X o (RdE X.K co)) (ha : PA X (e :: es) (RdA X.K ca))
    (hbase : attributeBase o name X.env (eval o X.env) = eval o X.env := by rfl)
    (hfew : ((backTo cpos (starEach (e :: es) X.env)).all (fun x => !x.1) && (backToKw cpos (keywordEach [] X.env)).all (fun x => x.1.isSome)
      && decide ((e :: es).length + ([] : List Keyword).length + (if ([] : List Keyword).isEmpty then 0 else 1) < 30)) = true := by rfl)
    (hline : (apos.endLine == cpos.line) = true := by rfl) (hs : starEach (e :: es) X.env = (false, eval e X.env) :: starEach es X.env := by rfl) (hplain : (backTo cpos (starEach es X.env)).any (·.1) = false := by rfl) :
    PE X (.Call (.Attribute o name apos) (e :: es) [] cpos) (RdE X.K (cM T g co ca)) := by
  refine ⟨fun pins s σ H Q I ⟨ι, ρ, S, cf, d, S', e0, k⟩ => ?_⟩
  obtain ⟨x, S1, e1, e2⟩ := bind_ok e0
  split at e2
  · rename_i ht
    obtain ⟨ds, S2, e3, e4⟩ := bind_ok e2
    obtain ⟨r, hr, hl⟩ := w x ds S2 d S' e4
    refine (pe_bm pa slot hty hr ho ha hbase hfew hline hs hplain).run pins s σ H Q I ?_
    refine RdE.run cf e1 fun v ι1 H1 st1 cf1 r1 => ⟨ty_is cf1.wd r1 ht, ?_⟩
    exact RdA.run cf1 e3 fun vs ι2 H2 st2 cf2 r2 => hl ι2 H2 v vs d S' Q cf2.wd (r1.mono st2) r2 e4 fun z ι' H' st wd rz => k z ι' H' ((st1.trans st2).trans st) wd rz
  · cases e2
end
/-! #### lists -/
/-- the list n becomes f of it, None is told -/
def onLst (x : D) (S : Sto) (f : List P → R (D × List P)) : R D := match x with
  | .ref n => match S[n]? with
    | some (.lst xs) => match f xs with
      | .ok (d, ys) _ => .ok d (S.set n (.lst ys))
      | _ => .no
    | _ => .no
  | _ => .no
theorem onLst_ok {x : D} {S S' : Sto} {d : D} {f : List P → R (D × List P)} (e : onLst x S f = .ok d S') : ∃ n xs ys T, x = .ref n ∧ S[n]? = some (.lst xs) ∧ f xs = .ok (d, ys) T ∧ S' = S.set n (.lst ys) := by
  unfold onLst at e
  split at e
  · split at e
    · rename_i xs hx
      split at e
      · rename_i d' ys T hf
        cases e
        exact ⟨_, xs, ys, T, rfl, hx, hf, rfl⟩
      · cases e
    · cases e
  · cases e
def gAppend : D → List D → Sto → R D := fun x ds S => onLst x S fun xs => match ds with
  | [.p y] => if xs.length < sizeLine then .ok (.p .non, xs ++ [y]) [] else .no
  | _ => .no
theorem w_append {X : Cx} : WaysM X "list.append" gAppend := fun x ds S d S' e => ⟨_, mt_append, fun ι H v vs d S' Q wd r1 r2 e k => by
  obtain ⟨n, xs, ys, T, rfl, hx, hf, rfl⟩ := onLst_ok e
  split at hf
  · split at hf
    · rename_i y hl
      cases hf
      obtain ⟨a, us, rfl, hix, h1, q⟩ := wd.lst r1 hx
      obtain ⟨w, rfl, rw'⟩ := r2.one
      have hm := List.mem_of_getElem? hix
      cases rw' with
      | p ry => exact ⟨a, us, w, rfl, rfl, h1, by rw [q.length]; exact hl, k _ ι _ (Step.write hm) (wd.write hix (.lst upd_same ((q.app (.cons ry .nil)).mono (Step.write hm)))) (.p .non)⟩
    · cases hf
  · cases hf⟩
end Cw
namespace PySem.AutoSeq1
open PySem Builtin
set_option maxRecDepth 8000 in
/-- a tuple of any making put behind a list -/
theorem extTupG (l : Addr) (items : Array Value) (n : Nat) (b : Addr) (more : Array Value) (k : Nat) (dd : Option Addr) (sl : Array (Option Value)) (h0 : ¬(!items.isEmpty && Builtin.List.listTooLong (items.size + more.size)) = true) (h1 : items.size ≤ sizeLine) (h2 : items.size + more.size ≤ sizeLine + 1) :
    Meets (Builtin.«list.extend» ⟨[.ref l, .ref b], []⟩) (fun _ R s => s.heap.get? l = some { cls := .type "list", dict := none, data := .seq items n, slots := #[] } ∧ s.heap.get? b = some { cls := .type "tuple", dict := dd, data := .seq more k, slots := sl } ∧
      R (.ok (.ret Value.none)) { s with heap := s.heap.update l (Obj.mapSeq fun x => x ++ more), toks := s.toks }) :=
  .of_wp fun prog w A R s h => by
    obtain ⟨hp, g, d, tk, os⟩ := s
    obtain ⟨hl, hb, h⟩ := h
    have q1 := idx_int
    have q2 := sub_tuple_tuple
    have q3 := sub_list_list
    have q4 := sub_tuple_list
    have q5 := sub_list_tuple
    have hz : (items ++ more).size ≤ sizeLine + 1 := by rw [Array.size_append]; exact h2
    wp_walk using (wpAny_updateSeq hl rfl (hz := h1) (_hz' := hz)), wpAny_loadPart' hl, wpAny_loadPart' hb
    exact ⟨_, rfl, h⟩
end PySem.AutoSeq1
namespace Cw
open PySem PySem.Spec PyProof.Rows L2
def rExtR (K : PySem.W.Frag) : V → List V → Hp → VK → Prop := fun x vs H Q => ∃ l b xs zs, x = .ref l ∧ vs = [.ref b] ∧ H l = some (.lst xs) ∧ (Rd H b (.lst zs) ∨ SqT K H b zs) ∧ xs.length + zs.length ≤ sizeLine ∧ Q .non (upd H l (.lst (xs ++ zs)))
theorem mt_extR {X : Cx} : MtM X "list.extend" (rExtR X.K) := by
  intro pins s σ H x vs v us Q I rx rv h
  obtain ⟨l, b, xs, zs, rfl, rfl, hH, hB, hz, q⟩ := h
  cases rx
  obtain ⟨u, rfl, ru⟩ := Vals.one rv
  cases ru
  obtain ⟨z, its, n, r, hl, e⟩ := lstR I (.inl hH)
  rcases hB with hB | hB
  · obtain ⟨z2, its2, n2, r2, hl2, e2⟩ := lstR I hB
    have hsz : its.toArray.size + its2.toArray.size ≤ sizeLine := by rw [List.size_toArray, List.size_toArray]; omega
    have hlong : ¬ (!its.toArray.isEmpty && Builtin.List.listTooLong (its.toArray.size + its2.toArray.size)) = true := by
      rw [notLongL hsz, Bool.and_false]
      exact Bool.false_ne_true
    refine call_meets F.slot_list_extend ⟨_, e, rfl⟩ F.entry_list_extend (F.args_list_extend_2 _ _)
      (AutoSeq1.list_extend_list_list_0 l its.toArray n b its2.toArray n2 hlong (by rw [List.size_toArray]; omega) (by omega)) ⟨e, e2, ?_⟩
    refine ⟨.non, _, L2.Inv.lset (its' := its ++ its2) I hH e (by simp) (r.append r2) ?_, rfl, q⟩
    rw [List.length_append]
    omega
  · obtain ⟨its2, r2, ⟨ob, e2, hc, n2, hd⟩, z2⟩ := I.tuple hB
    have hl2 := r2.length
    have hsz : its.toArray.size + its2.toArray.size ≤ sizeLine := by rw [List.size_toArray, List.size_toArray]; omega
    have hlong : ¬ (!its.toArray.isEmpty && Builtin.List.listTooLong (its.toArray.size + its2.toArray.size)) = true := by
      rw [notLongL hsz, Bool.and_false]
      exact Bool.false_ne_true
    obtain ⟨oc, od, dt, sl⟩ := ob
    simp only at hc hd
    subst hc hd
    refine call_meets F.slot_list_extend ⟨_, e, rfl⟩ F.entry_list_extend (F.args_list_extend_2 _ _)
      (AutoSeq1.extTupG l its.toArray n b its2.toArray n2 od sl hlong (by rw [List.size_toArray]; omega) (by omega)) ⟨e, e2, ?_⟩
    refine ⟨.non, _, L2.Inv.lset (its' := its ++ its2) I hH e (by simp) (r.append r2) ?_, rfl, q⟩
    rw [List.length_append]
    omega
def gExtend : D → List D → Sto → R D := fun x ds S => onLst x S fun xs => match ds with
  | [y] => match seqL y S with
    | some zs => if xs.length + zs.length ≤ sizeLine then .ok (.p .non, xs ++ zs) [] else .no
    | none => match y with
      | .p (.tup zs) => if xs.length + zs.length ≤ sizeLine then .ok (.p .non, xs ++ zs) [] else .no
      | _ => .no
  | _ => .no
theorem w_extend {X : Cx} : WaysM X "list.extend" gExtend := fun x ds S d S' e => ⟨_, mt_extR, fun ι H v vs d S' Q wd r1 r2 e k => by
  obtain ⟨n, xs, ys, T, rfl, hx, hf, rfl⟩ := onLst_ok e
  obtain ⟨a, us, rfl, hix, h1, q⟩ := wd.lst r1 hx
  have hm := List.mem_of_getElem? hix
  split at hf
  · split at hf
    · rename_i y zs hz
      split at hf
      · rename_i hl
        cases hf
        obtain ⟨w, rfl, ry⟩ := r2.one
        obtain ⟨b, ws, rfl, h2, q2⟩ := wd.seq ry hz
        exact ⟨a, b, us, ws, rfl, rfl, h1, .inl h2, by rw [q.length, q2.length]; exact hl, k _ ι _ (Step.write hm) (wd.write hix (.lst upd_same ((q.app q2).mono (Step.write hm)))) (.p .non)⟩
      · cases hf
    · split at hf
      · split at hf
        · rename_i hl
          cases hf
          obtain ⟨w, rfl, ry⟩ := r2.one
          obtain ⟨b, ws, rfl, h2, q2⟩ := ry.tupD
          exact ⟨a, b, us, ws, rfl, rfl, h1, .inr h2.sq, by rw [q.length, q2.length]; exact hl, k _ ι _ (Step.write hm) (wd.write hix (.lst upd_same ((q.app q2).mono (Step.write hm)))) (.p .non)⟩
        · cases hf
      · cases hf
  · cases hf⟩
theorem RPs.dropLast {K : PySem.W.Frag} {ι : Lk} {H : Hp} {vs : List V} {xs : List P} (r : RPs K ι H vs xs) : RPs K ι H vs.dropLast xs.dropLast := by
  rw [List.dropLast_eq_take, List.dropLast_eq_take, r.length]
  exact r.take _
def gPop0 : D → List D → Sto → R D := fun x ds S => onLst x S fun xs => match ds with
  | [] => match xs[xs.length - 1]? with
    | some y => .ok (.p y, xs.dropLast) []
    | none => .no
  | _ => .no
theorem w_pop0 {X : Cx} : WaysM X "list.pop" gPop0 := fun x ds S d S' e => ⟨_, mt_pop, fun ι H v vs d S' Q wd r1 r2 e k => by
  obtain ⟨n, xs, ys, T, rfl, hx, hf, rfl⟩ := onLst_ok e
  obtain ⟨a, us, rfl, hix, h1, q⟩ := wd.lst r1 hx
  have hm := List.mem_of_getElem? hix
  split at hf
  · split at hf
    · rename_i y hy
      cases hf
      cases r2
      obtain ⟨w, hw, rw'⟩ := q.get hy
      exact ⟨a, us, w, rfl, rfl, h1, by rw [q.length]; exact hw, k _ ι _ (Step.write hm) (wd.write hix (.lst upd_same (q.dropLast.mono (Step.write hm)))) (.p (rw'.mono (Step.write hm)))⟩
    · cases hf
  · cases hf⟩
def gPopAt : D → List D → Sto → R D := fun x ds S => onLst x S fun xs => match ds with
  | [.p (.int i)] => match ixN xs.length i with
    | some j => match xs[j]? with
      | some y => if -(2 ^ 63) ≤ i ∧ i < 2 ^ 63 then .ok (.p y, xs.eraseIdx j) [] else .no
      | none => .no
    | none => .no
  | _ => .no
theorem w_popAt {X : Cx} : WaysM X "list.pop" gPopAt := fun x ds S d S' e => ⟨_, mt_popAt, fun ι H v vs d S' Q wd r1 r2 e k => by
  obtain ⟨n, xs, ys, T, rfl, hx, hf, rfl⟩ := onLst_ok e
  obtain ⟨a, us, rfl, hix, h1, q⟩ := wd.lst r1 hx
  have hm := List.mem_of_getElem? hix
  split at hf
  · split at hf
    · rename_i j hj
      split at hf
      · rename_i y hy
        split at hf
        · rename_i hb
          cases hf
          obtain ⟨w, rfl, ri⟩ := r2.one
          cases ri.intD
          obtain ⟨w, hw, rw'⟩ := q.get hy
          exact ⟨a, us, _, j, w, rfl, rfl, h1, hb.1, hb.2, by rw [q.length]; exact (ixN_seq hj).1, hw, k _ ι _ (Step.write hm) (wd.write hix (.lst upd_same ((q.erase j).mono (Step.write hm)))) (.p (rw'.mono (Step.write hm)))⟩
        · cases hf
      · cases hf
    · cases hf
  · cases hf⟩
/-! #### o[i] = v -/
def gSetL (o i v : D) (S : Sto) : R Unit := match o, i, v with
  | .ref n, .p (.int j), .p y => match S[n]? with
    | some (.lst xs) => match ixN xs.length j with
      | some m => .ok () (S.set n (.lst (xs.set m y)))
      | none => .no
    | _ => .no
  | _, _, _ => .no
def putP (kvs : List (Key × P)) (k : Key) (v : P) : List (Key × P) := if kvs.any (fun kv => decide (kv.1 = k)) then kvs.map (fun kv => if kv.1 = k then (kv.1, v) else kv) else kvs ++ [(k, v)]
def gSetD (o i v : D) (S : Sto) : R Unit := match o, i, v with
  | .ref n, .p j, .p y => match S[n]? with
    | some (.dic kvs) => match keyP j with
      | some k => if kvs.length < sizeLine then .ok () (S.set n (.dic (putP kvs k y))) else .no
      | none => .no
    | _ => .no
  | _, _, _ => .no
section
variable {K : PySem.W.Frag} {ι : Lk} {H : Hp}
theorem RKs.app : ∀ {vs ws : List (Key × V)} {xs ys : List (Key × P)}, RKs K ι H vs xs → RKs K ι H ws ys → RKs K ι H (vs ++ ws) (xs ++ ys)
  | _, _, _, _, .nil, s => s
  | _, _, _, _, .cons r t, s => .cons r (t.app s)
theorem RKs.anyK (k : Key) : ∀ {vs : List (Key × V)} {xs : List (Key × P)}, RKs K ι H vs xs → (vs.any fun kv => decide (kv.1 = k)) = xs.any fun kv => decide (kv.1 = k)
  | _, _, .nil => rfl
  | _, _, .cons _ t => by rw [List.any_cons, List.any_cons, t.anyK k]
theorem RKs.repl (k : Key) {w : V} {y : P} (r : RP K ι H w y) : ∀ {vs : List (Key × V)} {xs : List (Key × P)}, RKs K ι H vs xs → RKs K ι H (vs.map fun kv => if kv.1 = k then (kv.1, w) else kv) (xs.map fun kv => if kv.1 = k then (kv.1, y) else kv)
  | _, _, .nil => .nil
  | _, _, .cons (k := j) q t => by
    rw [List.map_cons, List.map_cons]
    by_cases e : j = k
    · simp only [e, if_true]
      exact .cons r (t.repl k r)
    · simp only [e, if_false]
      exact .cons q (t.repl k r)
theorem RKs.put (k : Key) {w : V} {y : P} (r : RP K ι H w y) {vs : List (Key × V)} {xs : List (Key × P)} (q : RKs K ι H vs xs) : RKs K ι H (putK vs k w) (putP xs k y) := by
  unfold putK putP
  rw [q.anyK k]
  split
  · exact q.repl k r
  · exact q.app (.cons r .nil)
end
theorem set_dict {X : Cx} (hu : X.A.units + 65 < cLine) : PSet X (fun o i v H Q => ∃ a H4, o = .ref a ∧ DPut H a i v H4 ∧ Q H4) := by
  intro pins s σ H o i v ov iv u Q I ro ri rv h
  obtain ⟨a, H4, rfl, g, q⟩ := h
  obtain rfl : ov = Value.ref a := ro
  exact d_setItem (by omega) I g ri rv fun s4 I4 => ⟨H4, I4, q⟩
theorem PSet.or {X : Cx} {t t' : TSet} (h : PSet X t) (h' : PSet X t') : PSet X (fun o i v H Q => t o i v H Q ∨ t' o i v H Q) := fun pins s σ H o i v ov iv u Q I ro ri rv q => q.elim (h pins s σ H o i v ov iv u Q I ro ri rv) (h' pins s σ H o i v ov iv u Q I ro ri rv)
def gSet (o i v : D) (S : Sto) : R Unit := match gSetL o i v S with
  | .no => gSetD o i v S
  | r => r
def gAt (co ci : CE) : CG := fun d ρ S => (co ρ S).bind fun x S1 => (ci ρ S1).bind fun y S2 => (gSet x y d S2).bind fun _ S3 => .ok ρ S3
theorem set_rd {X : Cx} {o i v : D} {S S' : Sto} {ι : Lk} {H : Hp} {ov iv vv : V} {Q : Hp → Prop} (wd : Wd X.K ι H S) (ro : RD X.K ι H ov o) (ri : RD X.K ι H iv i) (rv : RD X.K ι H vv v) (e : gSet o i v S = .ok () S') (k : ∀ H', Step ι H ι H' → Wd X.K ι H' S' → Q H') :
    rSetL ov iv vv H Q ∨ ∃ a H4, ov = .ref a ∧ DPut H a iv vv H4 ∧ Q H4 := by
  unfold gSet at e
  split at e
  · unfold gSetD at e
    split at e
    · split at e
      · rename_i kvs hk
        split at e
        · rename_i ky hky
          split at e
          · rename_i hl
            cases e
            obtain ⟨a, us, rfl, hix, h1, q⟩ := wd.dict ro hk
            have hm := List.mem_of_getElem? hix
            cases ri with
            | p ri =>
              cases ri.key hky
              cases rv with
              | p rv => exact .inr ⟨a, _, rfl, DPut.k h1 (by rw [q.length]; exact hl), k _ (Step.write hm) (wd.write hix (.dic upd_same ((q.put ky rv).mono (Step.write hm))))⟩
          · cases e
        · cases e
      · cases e
    · cases e
  · rename_i hno
    unfold gSetL at e
    split at e
    · split at e
      · rename_i xs hx
        split at e
        · rename_i m hj
          cases e
          obtain ⟨a, us, rfl, hix, h1, q⟩ := wd.lst ro hx
          have hm := List.mem_of_getElem? hix
          cases ri.intD
          cases rv with
          | p rv => exact .inl ⟨a, us, _, m, rfl, rfl, h1, by rw [q.length]; exact hj, k _ (Step.write hm) (wd.write hix (.lst upd_same ((RPs.set rv m q).mono (Step.write hm))))⟩
        · cases e
      · cases e
    · cases e
theorem rg_sub {X : Cx} {o i : Expr} {co ci : CE} {pos : Pos} (hu : X.A.units + 65 < cLine) (ho : PE X o (RdE X.K co)) (hi : PE X i (RdE X.K ci))
    (ha : ∀ v, assign (.Subscript o i pos) X.env v = (do
      let ov ← holding [v] (eval o X.env)
      let iv ← holding [v, ov] (eval i X.env)
      standAt pos
      holding [v, ov, iv] (setItem ov iv v)
      release [v, ov, iv] []) := by intro _; rfl) : PG X (.Subscript o i pos) (RdG X.K [] (gAt co ci)) :=
  (pg_sub ho hi (PSet.or set_list (set_dict hu)) ha).weak fun v σ H Q ⟨ι, ρ, S, d, cf, r, ρ', S', e, k⟩ => by
    obtain ⟨x, S1, e1, e2⟩ := bind_ok e
    obtain ⟨y, S2, e3, e4⟩ := bind_ok e2
    obtain ⟨_, S3, e5, e6⟩ := bind_ok e4
    cases e6
    refine RdE.run cf e1 fun ov ι1 H1 st1 cf1 r1 => RdE.run cf1 e3 fun iv ι2 H2 st2 cf2 r2 => ?_
    exact set_rd cf2.wd (r1.mono st2) r2 (r.mono (st1.trans st2)) e5 fun H' st wd => k σ ι2 H' ((st1.trans st2).trans st) (cf2.step st wd) rfl fun _ _ => rfl
/-! #### d.get, d.update -/
def gGet : D → List D → Sto → R D := fun x ds S => match dicL x S, ds with
  | some kvs, [.p k] => match keyP k with
    | some k => .ok (.p ((lookK kvs k).getD .non)) S
    | none => .no
  | some kvs, [.p k, .p z] => match keyP k with
    | some k => .ok (.p ((lookK kvs k).getD z)) S
    | none => .no
  | _, _ => .no
end Cw
set_option Elab.async false
set_option linter.all false
set_option maxRecDepth 100000
set_option maxHeartbeats 4000000
/-! Cw12: dicts made, asked, put together. -/
namespace Cw
open PySem PySem.Spec PyProof.Rows L2

theorem Wd.addedO {K : PySem.W.Frag} {ι' : Lk} {H' : Hp} {S1 : Sto} {a : Addr} {ob : Ob} (wd : Wd K (ι'.hide a) H' S1) (h2 : ¬ ι'.has a) (q : ROb K (ι'.hide a) H' (some (some a)) ob) : Wd K (ι'.add a) H' (S1 ++ [ob]) := by
  have w := Wd.added (vs := []) (xs := []) (H' := upd H' a (.lst [])) wd.made h2 upd_same .nil
  have e : upd (upd H' a (.lst [])) a (H' a |>.getD (.lst [])) = H' := by
    funext b
    by_cases hb : b = a
    · subst hb
      rw [upd_same]
      cases q with
      | lst e _ => rw [e]; rfl
      | dic e _ => rw [e]; rfl
    · rw [upd_ne hb, upd_ne hb]
  have hix : (ι'.add a).ix[S1.length]? = some (some a) := by
    have hl : ι'.ix.length = S1.length := wd.len
    show (ι'.ix ++ [some a])[S1.length]? = _
    rw [← hl, List.getElem?_append_right (Nat.le_refl _), Nat.sub_self]; rfl
  have z := w.write (o := (H' a).getD (.lst [])) (ob := ob) hix (by rw [e]; exact q.has fun _ => has_add)
  rw [e] at z
  have e2 : (S1 ++ [Ob.lst []]).set S1.length ob = S1 ++ [ob] := by
    rw [List.set_append_right _ _ (Nat.le_refl _), Nat.sub_self]; rfl
  rw [e2] at z
  exact z

abbrev CD := Ev → Sto → R (List (Key × P))
def PostD (K : PySem.W.Frag) (ι : Lk) (H : Hp) (r : R (List (Key × P))) (Q : VK) : Prop := ∃ xs S', r = .ok xs S' ∧ ∀ a vs ι' H', Step ι H ι' H' → Wd K (ι'.hide a) H' S' → H a = none → ¬ ι'.has a → H' a = some (.dK vs) → RKs K (ι'.hide a) H' vs xs → Q (.ref a) H'
def RdD (K : PySem.W.Frag) (c : CD) : TE := fun σ H Q => ∃ ι ρ S, Cf K ι H σ ρ S ∧ PostD K ι H (c ρ S) Q
def cDo (c : CD) : CE := fun ρ S => (c ρ S).bind fun xs S1 => .ok (.p (.dic xs)) S1
def cDt (c : CD) : CE := fun ρ S => (c ρ S).bind fun xs S1 => .ok (.ref S1.length) (S1 ++ [.dic xs])
section
variable {X : Cx} {e : Expr} {c : CD}
theorem re_do (h : PE X e (RdD X.K c)) : PE X e (RdE X.K (cDo c)) := h.weak fun σ H Q ⟨ι, ρ, S, cf, d, S', e, k⟩ => by
  obtain ⟨xs, S1, e1, e2⟩ := bind_ok e
  cases e2
  exact ⟨ι, ρ, S, cf, xs, S', e1, fun a vs ι' H' st wd h1 h2 h3 r => k _ ι' H' st wd.unhide (.p (.dic (.of h3) h2 (r.has (hide_has ι' a))))⟩
theorem re_dt (h : PE X e (RdD X.K c)) : PE X e (RdE X.K (cDt c)) := h.weak fun σ H Q ⟨ι, ρ, S, cf, d, S', e, k⟩ => by
  obtain ⟨xs, S1, e1, e2⟩ := bind_ok e
  cases e2
  refine ⟨ι, ρ, S, cf, xs, S1, e1, fun a vs ι' H' st wd h1 h2 h3 r => ?_⟩
  have hlen : ι'.ix.length = S1.length := wd.len
  have hat : (ι'.ix ++ [some a])[S1.length]? = some (some a) := by rw [← hlen, List.getElem?_append_right (Nat.le_refl _), Nat.sub_self]; rfl
  exact k _ (ι'.add a) H' (Step.added st h1) (Wd.addedO wd h2 (.dic h3 r)) (.ref (n := S1.length) (o := some a) hat fun b z => by cases z; rfl)
end
def cDNew : CD := fun _ S => .ok [] S
theorem PostD.intro {K : PySem.W.Frag} {ι ι1 : Lk} {H H1 : Hp} {S1 S' : Sto} {xs : List (Key × P)} {vs : List (Key × V)} {Q : VK} (st1 : Step ι H ι1 H1) (wd1 : Wd K ι1 H1 S1) (r : RKs K ι1 H1 vs xs) (e : S1 = S')
    (k : ∀ a vs ι' H', Step ι H ι' H' → Wd K (ι'.hide a) H' S' → H a = none → ¬ ι'.has a → H' a = some (.dK vs) → RKs K (ι'.hide a) H' vs xs → Q (.ref a) H') : ∀ p, H1 p = none → Q (.ref p) (upd H1 p (.dK vs)) := fun p hp => by
  subst e
  exact k p vs ι1 _ (st1.trans (Step.new1 wd1 hp _)) (wd1.hidden hp _) (st1.there p hp) (wd1.fresh hp) upd_same (r.hideNew wd1 hp)
theorem rd_new {X : Cx} {pos : Pos} : PE X (.Dict [] [] pos) (RdD X.K cDNew) := pe_dnewK.weak fun σ H Q ⟨ι, ρ, S, cf, d, S', e, k⟩ => by
  cases e
  exact PostD.intro (.refl _ _) cf.wd .nil rfl k
/-! ### {k: v, ..} -/
def cPairs : List (CE × CE) → Ev → Sto → R (List (Key × P))
  | [], _, S => .ok [] S
  | (a, b) :: r, ρ, S => (a ρ S).bind fun x S1 => (b ρ S1).bind fun y S2 => match x, y with
    | .p x, .p y => match keyP x with
      | some k => (cPairs r ρ S2).bind fun ps S3 => .ok ((k, y) :: ps) S3
      | none => .no
    | _, _ => .no
def mergeP (kvs more : List (Key × P)) : List (Key × P) := more.foldl (fun acc kv => putP acc kv.1 kv.2) kvs
def cDisp (l : List (CE × CE)) : CD := fun ρ S => (cPairs l ρ S).bind fun ps S1 => if ps.length ≤ 15 then .ok (mergeP [] ps) S1 else .no
theorem RKs.merge {K : PySem.W.Frag} {ι : Lk} {H : Hp} : ∀ {ws : List (Key × V)} {ys : List (Key × P)} {vs : List (Key × V)} {xs : List (Key × P)}, RKs K ι H ws ys → RKs K ι H vs xs → RKs K ι H (mergeK vs ws) (mergeP xs ys)
  | _, _, _, _, .nil, s => s
  | _, _, _, _, .cons (k := j) r t, s => by
    have := RKs.merge t (s.put j r)
    exact this
theorem pairs_rd {K : PySem.W.Frag} {σ : L2.St} {ρ : Ev} : ∀ (l : List (CE × CE)) (ι : Lk) (H : Hp) (S S' : Sto) (ps : List (Key × P)) (Q : List (V × V) → Hp → Prop), Cf K ι H σ ρ S → cPairs l ρ S = .ok ps S' →
    (∀ ws ι' H', Step ι H ι' H' → Wd K ι' H' S' → RKs K ι' H' ws ps → Q (ws.map fun kv => (kV kv.1, kv.2)) H') → tPairs (l.map fun z => (RdE K z.1, RdE K z.2)) σ H Q
  | [], ι, H, S, S', ps, Q, cf, e, k => by
    cases e
    exact k [] ι H (.refl _ _) cf.wd .nil
  | (a, b) :: r, ι, H, S, S', ps, Q, cf, e, k => by
    obtain ⟨x, S1, e1, e2⟩ := bind_ok e
    obtain ⟨y, S2, e3, e4⟩ := bind_ok e2
    split at e4
    · rename_i x y
      split at e4
      · rename_i ky hky
        obtain ⟨qs, S3, e5, e6⟩ := bind_ok e4
        cases e6
        refine RdE.run cf e1 fun v ι1 H1 st1 cf1 r1 => RdE.run cf1 e3 fun w ι2 H2 st2 cf2 r2 => ?_
        refine pairs_rd r ι2 H2 S2 S' qs _ cf2 e5 fun ws ι' H' st wd rs => ?_
        cases r1 with
        | p r1 =>
          cases r1.key hky
          cases r2 with
          | p r2 => exact k ((ky, w) :: ws) ι' H' ((st1.trans st2).trans st) wd (.cons (r2.mono st) rs)
      · cases e4
    · cases e4
structure PPsR (X : Cx) (pos : Pos) (keys : List (Option Expr)) (values : List Expr) (l : List (CE × CE)) : Prop where
  run : PPs X pos keys values (l.map fun z => (RdE X.K z.1, RdE X.K z.2))
theorem rpp_nil {X : Cx} {pos : Pos} : PPsR X pos [] [] [] := ⟨pps_nil⟩
theorem rpp_cons {X : Cx} {pos : Pos} {k v : Expr} {ks : List (Option Expr)} {vs : List Expr} {ck cv : CE} {l : List (CE × CE)} (hk : PE X k (RdE X.K ck)) (hv : PE X v (RdE X.K cv)) (hr : PPsR X pos ks vs l) : PPsR X pos (some k :: ks) (v :: vs) ((ck, cv) :: l) := ⟨pps_cons hk hv hr.run⟩
theorem rd_disp {X : Cx} {pos : Pos} {keys : List (Option Expr)} {values : List Expr} {l : List (CE × CE)} (h : PPsR X pos keys values l) (hall : keys.all (·.isSome) = true := by rfl) (hl : keys.length = values.length := by rfl) (h0 : keys ≠ [] := by intro z; cases z)
    (h15 : keys.length ≤ 15 := by decide) : PE X (.Dict keys values pos) (RdD X.K (cDisp l)) := (pe_disp h.run hall hl h0 h15).weak fun σ H Q ⟨ι, ρ, S, cf, d, S', e, k⟩ => by
  intro p hp
  obtain ⟨ps, S1, e1, e2⟩ := bind_ok e
  split at e2
  · rename_i hlen
    cases e2
    have cf1 : Cf X.K (ι.hide p) (upd H p (.dK [])) σ ρ S := ⟨cf.wd.hidden hp _, cf.len, fun i d hd => by
      obtain ⟨v, hv, r⟩ := cf.sv i d hd
      exact ⟨v, hv, r.monoH (StepH.hide cf.wd hp)⟩⟩
    refine pairs_rd l _ _ S S' ps _ cf1 e1 fun ws ι' H' st wd rs => ?_
    obtain ⟨ι2, rfl⟩ := st.isHide
    have hda := cf1.wd.hd p List.mem_cons_self
    have hd2 := wd.hd p List.mem_cons_self
    refine ⟨st.keep p _ upd_same hda.2, ws, rfl, by rw [rs.length]; exact hlen, ?_⟩
    have st0 : Step ι H ι2 H' := by
      have s1 := Step.new1 (o := .dK []) cf.wd hp
      exact s1.trans st.unhide
    refine k p _ ι2 _ (st0.made hp) wd.made hp (fun z => ?_) upd_same ((RKs.merge rs .nil).monoH StepH.made)
    rcases z with z | z
    · exact hd2.2 z
    · rw [st0.hid] at z
      exact (cf.wd.hd p z).1 hp
  · cases e2
/-! ### d.get(k), d.get(k, x) -/
def cGet1 (cd ck : CE) : CE := fun ρ S => (cd ρ S).bind fun x S1 => (dicOk x S1).bind fun _ S1 => (ck ρ S1).bind fun y S2 => gGet x [y] S2
where dicOk (x : D) (S : Sto) : R Unit := match dicL x S with
  | some _ => .ok () S
  | none => .no
def cGet2 (cd ck cx : CE) : CE := fun ρ S => (cd ρ S).bind fun x S1 => (cGet1.dicOk x S1).bind fun _ S1 => (ck ρ S1).bind fun y S2 => (cx ρ S2).bind fun z S3 => gGet x [y, z] S3
theorem dicOk_ok {x : D} {S S' : Sto} {u : Unit} (h : cGet1.dicOk x S = .ok u S') : S' = S ∧ ∃ kvs, dicL x S = some kvs := by
  unfold cGet1.dicOk at h
  split at h
  · cases h; exact ⟨rfl, _, by assumption⟩
  · cases h
section
variable {X : Cx} {o e f : Expr} {co ca cb : CE} {apos cpos : Pos}
theorem re_get1 (hu : X.A.units + 65 < cLine) (ho : PE X o (RdE X.K co)) (he : PE X e (RdE X.K ca)) (m : M1 X o "get" apos e cpos := by exact ⟨rfl, rfl, rfl, rfl⟩) : PE X (.Call (.Attribute o "get" apos) [e] [] cpos) (RdE X.K (cGet1 co ca)) := (pe_dget1 (by omega) ho he m).weak fun σ H Q ⟨ι, ρ, S, cf, d, S', e, k⟩ => by
  obtain ⟨x, S1, e1, e2⟩ := bind_ok e
  obtain ⟨_, _, e3, e4⟩ := bind_ok e2
  obtain ⟨rfl, kvs0, hk0⟩ := dicOk_ok e3
  obtain ⟨y, S2, e5, e6⟩ := bind_ok e4
  refine RdE.run cf e1 fun v ι1 H1 st1 cf1 r1 => ?_
  obtain ⟨a, us, rfl, h1, q1⟩ := cf1.wd.dct r1 hk0
  refine ⟨a, rfl, .inl ⟨us, h1⟩, RdE.run cf1 e5 fun w ι2 H2 st2 cf2 r2 => ?_⟩
  unfold gGet at e6
  split at e6
  · rename_i kvs y hk hy
    cases hy
    split at e6
    · rename_i ky hky
      cases e6
      obtain ⟨a', us', e', h2, q2⟩ := cf2.wd.dct (r1.mono st2) hk
      cases e'
      cases r2 with
      | p r2 =>
        cases r2.key hky
        refine ⟨_, dgK h2, ?_⟩
        have ⟨l1, l2⟩ := q2.look ky
        cases hl : lookK kvs ky with
        | none =>
          rw [l2 hl]
          rw [hl] at k
          exact k _ ι2 H2 (st1.trans st2) cf2.wd (.p .non)
        | some z =>
          obtain ⟨v, hv, rv⟩ := l1 z hl
          rw [hv]
          rw [hl] at k
          exact k _ ι2 H2 (st1.trans st2) cf2.wd (.p rv)
    · cases e6
  · rename_i h; cases h
  · cases e6
theorem re_get2 (hu : X.A.units + 65 < cLine) (ho : PE X o (RdE X.K co)) (he : PE X e (RdE X.K ca)) (hf : PE X f (RdE X.K cb)) (m : M2 X o "get" apos e f cpos := by exact ⟨rfl, rfl, rfl, rfl⟩) : PE X (.Call (.Attribute o "get" apos) [e, f] [] cpos) (RdE X.K (cGet2 co ca cb)) := (pe_dget2 (by omega) ho he hf m).weak fun σ H Q ⟨ι, ρ, S, cf, d, S', e, k⟩ => by
  obtain ⟨x, S1, e1, e2⟩ := bind_ok e
  obtain ⟨_, _, e3, e4⟩ := bind_ok e2
  obtain ⟨rfl, kvs0, hk0⟩ := dicOk_ok e3
  obtain ⟨y, S2, e5, e6⟩ := bind_ok e4
  obtain ⟨z, S3, e7, e8⟩ := bind_ok e6
  refine RdE.run cf e1 fun v ι1 H1 st1 cf1 r1 => ?_
  obtain ⟨a, us, rfl, h1, q1⟩ := cf1.wd.dct r1 hk0
  refine ⟨a, rfl, .inl ⟨us, h1⟩, RdE.run cf1 e5 fun w ι2 H2 st2 cf2 r2 => RdE.run cf2 e7 fun u ι3 H3 st3 cf3 r3 => ?_⟩
  unfold gGet at e8
  split at e8
  · rename_i h; cases h
  · rename_i kvs y z hk hy
    cases hy
    split at e8
    · rename_i ky hky
      cases e8
      obtain ⟨a', us', e', h2, q2⟩ := cf3.wd.dct (r1.mono (st2.trans st3)) hk
      cases e'
      cases r2 with
      | p r2 =>
        cases r2.key hky
        cases r3 with
        | p r3 =>
        refine ⟨_, dgK h2, ?_⟩
        have ⟨l1, l2⟩ := q2.look ky
        cases hl : lookK kvs ky with
        | none =>
          rw [l2 hl]
          rw [hl] at k
          exact k _ ι3 H3 ((st1.trans st2).trans st3) cf3.wd (.p r3)
        | some z =>
          obtain ⟨v, hv, rv⟩ := l1 z hl
          rw [hv]
          rw [hl] at k
          exact k _ ι3 H3 ((st1.trans st2).trans st3) cf3.wd (.p rv)
    · cases e8
  · cases e8
end
/-! ### d.update(e) -/
theorem mt_update {X : Cx} : MtM X "dict.update" (fun x vs H Q => ∃ d o kvs more, x = .ref d ∧ vs = [.ref o] ∧ H d = some (.dK kvs) ∧ Rd H o (.dK more) ∧ d ≠ o ∧ kvs.length + more.length ≤ sizeLine ∧ Q .non (upd H d (.dK (mergeK kvs more)))) := by
  intro pins s σ H x vs v us Q I rx rv h
  obtain ⟨d, o, kvs, more, rfl, rfl, hd, ho, hne, hz, q⟩ := h
  cases rx
  obtain ⟨u, rfl, ru⟩ := Vals.one rv
  cases ru
  obtain ⟨z1, lo1, ws1, rel1, dd1⟩ := dk_of I.hok hd
  obtain ⟨z2, lo2, ws2, rel2, dd2⟩ := dk_rd I.hok ho
  refine call_meetsIn PySem.F.slot_dict_update dd1.typeIs PySem.F.entry_dict_update (PySem.F.args_dict_update_2 _ _) (meets_dict_update (mixKind X.prog X.w) d o hne lo2)
    ⟨ws1, ws2, dd1, dd2, by rw [← rel1.length, ← rel2.length]; exact hz, fun h' dd' dd2' hs => ⟨.non, _, ?_, rfl, q⟩⟩
  have he : ∃ q, h'.get? d = some q := let ⟨q, _, _, hq, _⟩ := dd'; ⟨q, hq⟩
  have hl := length_mergeK more kvs
  exact d_write (t' := s.toks) I (by rw [hd]; exact True.intro) hs he (dk_new (by omega) lo1 (rel2.merge rel1) dd')
def unlike (y : D) (n : Nat) : Bool := match y with
  | .ref m => decide (m ≠ n)
  | _ => true
def gUpdate : D → List D → Sto → R D := fun x ds S => match x, ds with
  | .ref n, [y] => match S[n]? with
    | some (.dic kvs) => match dicL y S with
      | some more => if kvs.length + more.length ≤ sizeLine ∧ unlike y n = true then .ok (.p .non) (S.set n (.dic (mergeP kvs more))) else .no
      | none => .no
    | _ => .no
  | _, _ => .no
theorem w_update {X : Cx} : WaysM X "dict.update" gUpdate := fun x ds S d S' e => ⟨_, mt_update, fun ι H v vs d S' Q wd r1 r2 e k => by
  unfold gUpdate at e
  split at e
  · rename_i n y
    split at e
    · rename_i kvs hk
      split at e
      · rename_i more hm
        split at e
        · rename_i hc
          cases e
          obtain ⟨a, us, rfl, hix, h1, q⟩ := wd.dict r1 hk
          have hmem := List.mem_of_getElem? hix
          obtain ⟨w, rfl, ry⟩ := r2.one
          obtain ⟨b, ws, rfl, h2, q2⟩ := wd.dct ry hm
          refine ⟨a, b, us, ws, rfl, rfl, h1, h2, fun e => ?_, by rw [q.length, q2.length]; exact hc.1, k _ ι _ (Step.write hmem) (wd.write hix (.dic upd_same ((q2.merge q).mono (Step.write hmem)))) (.p .non)⟩
          subst e
          cases ry with
          | p ry =>
            cases ry with
            | dic h hn _ => exact hn (.inl hmem)
            | _ => cases hm
          | @ref m o e2 h3 =>
            have hc2 := hc.2
            simp only [unlike, decide_eq_true_eq] at hc2
            have hz := wd.ob m _ (dicL_ref hm)
            rw [e2] at hz
            cases hz with
            | dic h4 _ =>
              have := h3 _ rfl
              cases this
              exact hc2 (wd.nd _ _ _ e2 hix)
        · cases e
      · cases e
    · cases e
  · cases e⟩
end Cw
set_option Elab.async false
set_option linter.all false
set_option maxRecDepth 100000
set_option maxHeartbeats 4000000
/-! Cw13: defs that call one another, the law's end. -/
namespace Cw
open PySem PySem.Spec PyProof.Rows L2

abbrev Run := Nat → List D → Sto → R D
/-- a def: its name, its parameters, its names by slot, what its body does -/
structure Fd where
  name : Str
  ps : List Str
  N : List Str
  B : Run → CS
def startE (n : Nat) (ds : List D) : Ev := ds.map some ++ List.replicate (n - ds.length) none
/-- what is told by a call: what was made within it is gone, but what is told -/
def tellD (n : Nat) (d : D) (S : Sto) : R D := match d with
  | .p x => .ok (.p x) (S.take n)
  | .ref m => if m < n then .ok (.ref m) (S.take n) else match S[m]? with
    | some (.lst xs) => .ok (.ref n) (S.take n ++ [.lst xs])
    | some (.dic xs) => .ok (.ref n) (S.take n ++ [.dic xs])
    | _ => .no
def leave (n : Nat) (r : R Fl) : R D := r.bind fun f S => match f with
  | .nx _ => .ok (.p .non) (S.take n)
  | .rt d => tellD n d S
  | _ => .no
def runT (T : List Fd) : Nat → Run
  | 0 => fun _ _ _ => .no
  | k + 1 => fun i ds S => match T[i]? with
    | some fd => if ds.length = fd.ps.length then leave S.length (fd.B (runT T k) (startE fd.N.length ds) S) else .no
    | none => .no
section
variable {K : PySem.W.Frag} {ι ι' : Lk} {H H' : Hp} {S S' : Sto}
def Lk.cut (ι : Lk) (n : Nat) : Lk := ⟨ι.ix.take n, ι.hid⟩
theorem cut_has {n : Nat} {a : Addr} (h : (ι.cut n).has a) : ι.has a := h.elim (fun q => .inl (List.mem_of_mem_take q)) .inr
theorem Step.cut (st : Step ι H ι' H') (n : Nat) (hn : ι.ix.length = n) : Step ι H (ι'.cut n) H' := by
  refine ⟨st.hid, ?_, fun m o h => ?_, fun a ha => st.new a (List.mem_of_mem_take ha), st.keep, st.there⟩
  · have := st.len
    show _ ≤ (ι'.ix.take n).length
    rw [List.length_take]; omega
  · have hm : m < n := by
      rcases Nat.lt_or_ge m n with q | q
      · exact q
      · rw [List.getElem?_eq_none (by omega)] at h; cases h
    have e : (ι'.cut n).ix[m]? = ι'.ix[m]? := by
      show (ι'.ix.take n)[m]? = _
      rw [List.getElem?_take_of_lt hm]
    rw [e]
    exact st.old m o h
theorem Wd.cut (wd : Wd K ι H S) (n : Nat) : Wd K (ι.cut n) H (S.take n) := by
  have at_ : ∀ {m : Nat} {o : Option Addr}, (ι.cut n).ix[m]? = some o → m < n ∧ ι.ix[m]? = some o := fun {m o} h => by
    have h : (ι.ix.take n)[m]? = some o := h
    rcases Nat.lt_or_ge m n with q | q
    · rw [List.getElem?_take_of_lt q] at h; exact ⟨q, h⟩
    · rw [List.getElem?_eq_none (by rw [List.length_take]; omega)] at h; cases h
  refine ⟨?_, fun i j a hi hj => wd.nd i j a (at_ hi).2 (at_ hj).2, fun i o h => ?_, fun a ha => ⟨(wd.hd a ha).1, fun q => (wd.hd a ha).2 (List.mem_of_mem_take q)⟩⟩
  · show (ι.ix.take n).length = _
    rw [List.length_take, List.length_take, wd.len]
  · rcases Nat.lt_or_ge i n with q | q
    · rw [List.getElem?_take_of_lt q] at h
      have e : (ι.cut n).ix[i]? = ι.ix[i]? := by
        show (ι.ix.take n)[i]? = _
        rw [List.getElem?_take_of_lt q]
      rw [e]
      exact (wd.ob i o h).has fun _ => cut_has
    · rw [List.getElem?_eq_none (by rw [List.length_take]; omega)] at h; cases h
theorem tell_ok {n : Nat} {d d' : D} {S2 : Sto} {v : V} (st : Step ι H ι' H') (hn : ι.ix.length = n) (wd : Wd K ι' H' S') (r : RD K ι' H' v d) (e : tellD n d S' = .ok d' S2) :
    ∃ κ, Step ι H κ H' ∧ Wd K κ H' S2 ∧ RD K κ H' v d' := by
  unfold tellD at e
  split at e
  · cases e
    cases r with
    | p r => exact ⟨ι'.cut n, st.cut n hn, wd.cut n, .p (r.has fun _ => cut_has)⟩
  · rename_i m
    split at e
    · rename_i hm
      cases e
      cases r with
      | ref h1 h2 => exact ⟨ι'.cut n, st.cut n hn, wd.cut n, .ref (by show (ι'.ix.take n)[m]? = _; rw [List.getElem?_take_of_lt hm]; exact h1) h2⟩
    · rename_i hm
      have hl := st.len
      have key : ∀ (ob : Ob), S'[m]? = some ob → ob ≠ .gone → S2 = S'.take n ++ [ob] → d' = .ref n → ∃ κ, Step ι H κ H' ∧ Wd K κ H' S2 ∧ RD K κ H' v d' := fun ob ho hng e2 e3 => by
        subst e2 e3
        have q := wd.ob m ob ho
        cases r with
        | @ref _ o h1 h2 =>
          rw [h1] at q
          obtain ⟨a, rfl⟩ : ∃ a, o = some a := by
            cases q with
            | lst _ _ => exact ⟨_, rfl⟩
            | dic _ _ => exact ⟨_, rfl⟩
            | gone => exact absurd rfl hng
          have hlen : (ι'.ix.take n).length = n := by rw [List.length_take]; omega
          have hna : some a ∉ ι'.ix.take n := fun z => by
            obtain ⟨j, hj, ej⟩ := List.mem_iff_getElem.mp z
            have hjn : j < n := by omega
            have : ι'.ix[j]? = some (some a) := by
              rw [List.getElem_take] at ej
              rw [List.getElem?_eq_getElem (by omega), ej]
            have := wd.nd j m a this h1
            omega
          have wc := wd.cut n
          refine ⟨(ι'.cut n).add a, ?_, ?_, .ref (n := n) (o := some a) ?_ h2⟩
          · have s1 := st.cut n hn
            refine ⟨s1.hid, ?_, fun i o h => (s1.old i o h).elim (fun q => .inl (ix_old q)) fun q => .inr (ix_old q), fun b hb => ?_, s1.keep, s1.there⟩
            · show _ ≤ (ι'.ix.take n ++ [some a]).length
              rw [List.length_append, hlen]; omega
            · rcases List.mem_append.mp hb with q | q
              · exact s1.new b q
              · have : b = a := by simpa using q
                subst this
                exact st.new b (List.mem_of_getElem? h1)
          · have hadd : ∀ b, ((ι'.cut n).add a).has b → ι'.has b := fun b hb => hb.elim (fun q => (List.mem_append.mp q).elim (fun z => .inl (List.mem_of_mem_take z)) fun z => .inl (by
              have : b = a := by simpa using z
              subst this
              exact List.mem_of_getElem? h1)) .inr
            refine ⟨?_, fun i j b hi hj => ?_, fun i o h => ?_, fun b hb => ⟨(wd.hd b hb).1, fun q => ?_⟩⟩
            · show (ι'.ix.take n ++ [some a]).length = _
              rw [List.length_append, List.length_append, hlen, List.length_take]
              have := wd.len
              show n + 1 = _ + 1
              omega
            · rcases ix_new hi with q | ⟨q, e⟩ <;> rcases ix_new hj with z | ⟨z, e'⟩
              · exact wc.nd i j b q z
              · cases e'; exact (hna (List.mem_of_getElem? q)).elim
              · cases e; exact (hna (List.mem_of_getElem? z)).elim
              · omega
            · have hlS : (S'.take n).length = n := by
                have := wd.len
                rw [List.length_take]; omega
              rcases Nat.lt_or_ge i n with q0 | q0
              · rw [List.getElem?_append_left (by omega)] at h
                have w := wc.ob i o h
                have e : ((ι'.cut n).add a).ix[i]? = (ι'.cut n).ix[i]? := by
                  show (ι'.ix.take n ++ [some a])[i]? = _
                  rw [List.getElem?_append_left (by omega)]; rfl
                rw [e]
                rw [List.getElem?_take_of_lt q0] at h
                have w2 := wd.ob i o h
                have e3 : (ι'.cut n).ix[i]? = ι'.ix[i]? := by
                  show (ι'.ix.take n)[i]? = _
                  rw [List.getElem?_take_of_lt q0]
                rw [e3]
                exact w2.has hadd
              · rw [List.getElem?_append_right (by omega)] at h
                have : i - (S'.take n).length = 0 := by
                  rcases Nat.eq_zero_or_pos (i - (S'.take n).length) with z | z
                  · exact z
                  · rw [List.getElem?_eq_none (by rw [List.length_singleton]; omega)] at h; cases h
                rw [this] at h
                cases h
                have hi : i = n := by omega
                have e : ((ι'.cut n).add a).ix[i]? = some (some a) := by
                  show (ι'.ix.take n ++ [some a])[i]? = _
                  rw [hi, List.getElem?_append_right (by omega), hlen, Nat.sub_self]; rfl
                rw [e]
                exact q.has hadd
            · rcases List.mem_append.mp q with z | z
              · exact (wd.hd b hb).2 (List.mem_of_mem_take z)
              · have : b = a := by simpa using z
                subst this
                exact (wd.hd b hb).2 (List.mem_of_getElem? h1)
          · show (ι'.ix.take n ++ [some a])[n]? = _
            rw [List.getElem?_append_right (by omega), hlen, Nat.sub_self]; rfl
      split at e
      · rename_i xs hx
        cases e
        exact key _ hx (by intro z; cases z) rfl rfl
      · rename_i xs hx
        cases e
        exact key _ hx (by intro z; cases z) rfl rfl
      · cases e
end
/-! ### what a def promises -/
def spT (T : List Fd) (K : PySem.W.Frag) (k i : Nat) : Sp := fun vs H Q _ => ∃ ι S ds, Wd K ι H S ∧ RDs K ι H vs ds ∧ PostE K ι H (runT T k i ds S) Q
theorem RDs.length {K : PySem.W.Frag} {ι : Lk} {H : Hp} : ∀ {vs : List V} {ds : List D}, RDs K ι H vs ds → vs.length = ds.length
  | _, _, .nil => rfl
  | _, _, .cons _ r => congrArg (· + 1) r.length
theorem RDs.get {K : PySem.W.Frag} {ι : Lk} {H : Hp} : ∀ {vs : List V} {ds : List D} {i : Nat} {x : D}, RDs K ι H vs ds → ds[i]? = some x → ∃ v, vs[i]? = some v ∧ RD K ι H v x
  | _, _, _, _, .nil, e => by simp at e
  | _, _, 0, _, .cons r _, e => by simp at e; subst e; exact ⟨_, rfl, r⟩
  | _, _, i + 1, x, .cons _ t, e => by
    obtain ⟨u, h1, h2⟩ := RDs.get (i := i) (x := x) t (by simpa using e)
    exact ⟨u, by simpa using h1, h2⟩
theorem start_cf {K : PySem.W.Frag} {ι : Lk} {H : Hp} {S : Sto} {N : List Str} {vs : List V} {ds : List D} (wd : Wd K ι H S) (r : RDs K ι H vs ds) : Cf K ι H (L2.start N vs) (startE N.length ds) S := by
  have hl := r.length
  refine ⟨wd, by simp [L2.start, startE, hl], fun i d h => ?_⟩
  unfold startE at h
  rcases Nat.lt_or_ge i ds.length with q | q
  · rw [List.getElem?_append_left (by rw [List.length_map]; exact q), List.getElem?_map] at h
    obtain ⟨x, hx, e⟩ := Option.map_eq_some_iff.mp h
    cases e
    obtain ⟨v, hv, rv⟩ := r.get hx
    refine ⟨v, ?_, rv⟩
    unfold L2.start
    rw [List.getElem?_append_left (by rw [List.length_map, hl]; exact q), List.getElem?_map, hv]; rfl
  · rw [List.getElem?_append_right (by rw [List.length_map]; exact q)] at h
    rw [List.getElem?_replicate] at h
    split at h <;> cases h
section
variable {P : Program} {w : World} {K : PySem.W.Frag} {mg : Str → Option Value} {base : Heap} {T : List Fd}
/-- a def of the table, as callers see it -/
def Callee (P : Program) (w : World) (K : PySem.W.Frag) (mg : Str → Option Value) (base : Heap) (T : List Fd) (k i : Nat) (x : Str) : Prop :=
  ∃ (f : Addr) (fd : FuncData) (ps : List Str), mg x = some (.ref f) ∧ PySem.W.keepIn K (.ref f) = true ∧ Binds K fd ps [] ∧ FnOk P w K mg base CX0 k f fd ps (spT T K k i)
def Callees (P : Program) (w : World) (K : PySem.W.Frag) (mg : Str → Option Value) (base : Heap) (T : List Fd) (k : Nat) : Prop := ∀ i fd, T[i]? = some fd → Callee P w K mg base T k i fd.name
/-- a def of the table: its place, and each level from the one ahead -/
def Entry (P : Program) (w : World) (K : PySem.W.Frag) (mg : Str → Option Value) (base : Heap) (T : List Fd) (i : Nat) (x : Str) : Prop :=
  ∃ (f : Addr) (fd : FuncData) (ps : List Str), mg x = some (.ref f) ∧ PySem.W.keepIn K (.ref f) = true ∧ Binds K fd ps [] ∧ ∀ k, Callees P w K mg base T k → FnOk P w K mg base CX0 (k + 1) f fd ps (spT T K (k + 1) i)
theorem spT_zero {i : Nat} {vs : List V} {H : Hp} {Q : VK} {E : XK} : ¬ spT T K 0 i vs H Q E := fun ⟨ι, S, ds, _, _, d, S', e, _⟩ => by cases e
theorem tab_ok (h : ∀ i fd, T[i]? = some fd → Entry P w K mg base T i fd.name) : ∀ k, Callees P w K mg base T k
  | 0 => fun i fd hi => by
    obtain ⟨f, d, ps, h1, h2, h3, _⟩ := h i fd hi
    exact ⟨f, d, ps, h1, h2, h3, fun vs H Q E q => absurd q spT_zero, fun A outer s H args us vs Q E _ _ _ _ q => absurd q spT_zero⟩
  | k + 1 => fun i fd hi => by
    obtain ⟨f, d, ps, h1, h2, h3, h4⟩ := h i fd hi
    exact ⟨f, d, ps, h1, h2, h3, h4 k (tab_ok h k)⟩
/-- where one stands in a body -/
structure Ctx (X : Cx) (T : List Fd) (k : Nat) : Prop where
  room : Room k X.A
  calm : X.calm = true
  all : Callees X.prog X.w X.K X.mg X.base T k
theorem Ctx.hu {X : Cx} {k : Nat} (C : Ctx X T k) : X.A.units + 65 < cLine := by have := C.room.un; omega
theorem Ctx.blk {X : Cx} {k : Nat} (C : Ctx X T k) (s : Shared) (H : Hp) (scope : Scope) (cenv : Env) (fp : List Addr) : Ctx (X.blk s H scope cenv fp) T k := ⟨C.room, C.calm, C.all⟩
/-- THE ENTRY of a def: its body's derivation -/
theorem entry_fn {x qual : Str} {st : Stmt} {f : Addr} {fd : FuncData} {i : Nat} {D : Fd} (hD : T[i]? = some D) (F : Fun K x qual st f fd) (S : FnScope D.N D.ps (defScope st))
    (body : ∀ (k : Nat) (cdv : Value) (A : Around) (outer : List Env) (s : Shared) (H : Hp) (E : XK), Ctx (cxOf CX0 P w K mg base D.N qual (defScope st) f cdv A outer s H E).nox T k →
      PSs (cxOf CX0 P w K mg base D.N qual (defScope st) f cdv A outer s H E).nox (defBody st) (RdS K (D.B (runT T k)))) (k : Nat) (hc : Callees P w K mg base T k) : FnOk P w K mg base CX0 (k + 1) f fd D.ps (spT T K (k + 1) i) := by
  refine F.ok S (fun vs H Q E h => ?_) fun cdv A outer s H vs Q E hr h => ?_
  · obtain ⟨ι, S0, ds, wd, r, d, S', e, _⟩ := h
    rw [r.length]
    simp only [runT, hD] at e
    split at e
    · assumption
    · cases e
  · refine ⟨_, body k cdv A outer s H E ⟨hr, rfl, hc⟩, ?_⟩
    obtain ⟨ι, S0, ds, wd, r, d, S', e, k'⟩ := h
    simp only [runT, hD] at e
    split at e
    · obtain ⟨fl, S1, e1, e2⟩ := bind_ok (show (D.B (runT T k) (startE D.N.length ds) S0).bind _ = R.ok d S' from e)
      refine ⟨ι, startE D.N.length ds, S0, start_cf wd r, fl, S1, e1, ?_⟩
      cases fl with
      | nx ρ =>
        cases e2
        intro σ' ι' H' st cf
        exact k' .non (ι'.cut S0.length) H' (st.cut _ wd.len) (cf.wd.cut _) (.p .non)
      | rt z =>
        intro v ι' H' st wd' rv
        obtain ⟨κ, s1, w1, r1⟩ := tell_ok st wd.len wd' rv e2
        exact k' v κ H' s1 w1 r1
      | bk ρ => cases e2
      | ct ρ => cases e2
    · cases e
theorem entry {x qual : Str} {st : Stmt} {f : Addr} {fd : FuncData} {i : Nat} {D : Fd} (hD : T[i]? = some D) (F : Fun K x qual st f fd) (S : FnScope D.N D.ps (defScope st)) (hm : mg D.name = some (.ref f))
    (hb : ∀ (kV doc pm : Value) (an : Option Addr) (cdv ct : Value) (us : List Value), us.length = D.ps.length → bindArgs (PySem.W.fnOf x qual (defArgs st) (defBody st) (defScope st) .none kV doc pm an cdv ct) ⟨us, []⟩ = pure (D.ps.zip us))
    (body : ∀ (k : Nat) (cdv : Value) (A : Around) (outer : List Env) (s : Shared) (H : Hp) (E : XK), Ctx (cxOf CX0 P w K mg base D.N qual (defScope st) f cdv A outer s H E).nox T k →
      PSs (cxOf CX0 P w K mg base D.N qual (defScope st) f cdv A outer s H E).nox (defBody st) (RdS K (D.B (runT T k)))) : Entry P w K mg base T i D.name :=
  ⟨f, fd, D.ps, hm, F.kp, F.binds hb, entry_fn hD F S body⟩
end
/-! ### calls -/
def cCall (run : Run) (i : Nat) (ca : CA) : CE := fun ρ S => (ca ρ S).bind fun ds S1 => run i ds S1
/-- a call that tells a new list or dict: as one that stands -/
def frz (n : Nat) (d : D) (S : Sto) : R D := match d with
  | .ref m => if m = n then match S[n]? with
      | some (.lst xs) => .ok (.p (.ro xs)) (S.take n)
      | some (.dic xs) => .ok (.p (.dic xs)) (S.take n)
      | _ => .no
    else .ok (.ref m) S
  | d => .ok d S
def cCallF (run : Run) (i : Nat) (ca : CA) : CE := fun ρ S => (ca ρ S).bind fun ds S1 => (run i ds S1).bind fun d S2 => frz S1.length d S2
section
variable {X : Cx} {T : List Fd} {k : Nat} {x : Str} {p pos : Pos} {e : Expr} {es : List Expr} {ca : CA}
theorem re_call (C : Ctx X T k) (i : Nat) {fd : Fd} (hi : T[i]? = some fd) (hx : fd.name = x) (hg : Gl X x) (ha : PA X (e :: es) (RdA X.K ca)) (hdb : (x == ("__debug__" : Str)) = false := by decide) (he : starEach (e :: es) X.env = (false, eval e X.env) :: starEach es X.env := by rfl) (hpl : (backTo pos (starEach es X.env)).any (·.1) = false := by rfl) :
    PE X (.Call (.Name x p) (e :: es) [] pos) (RdE X.K (cCall (runT T k) i ca)) := by
  obtain ⟨f, d, ps, h1, h2, h3, h4⟩ := C.all i fd hi
  rw [hx] at h1
  refine (pe_call h4 C.room hg h1 h2 h3 .nil pass0 ha hdb he hpl).weak fun σ H Q ⟨ι, ρ, S, cf, d, S', e, k'⟩ => ?_
  obtain ⟨ds, S1, e1, e2⟩ := bind_ok e
  refine RdA.run cf e1 fun vs ι1 H1 st1 cf1 r1 => ?_
  exact ⟨ι1, S1, ds, cf1.wd, by rw [List.append_nil]; exact r1, d, S', e2, fun v ι' H' st wd r => k' v ι' H' (st1.trans st) wd r⟩
theorem frz_ok {K : PySem.W.Frag} {ι ι' : Lk} {H H' : Hp} {S1 S2 S3 : Sto} {d d' : D} {v : V} (st : Step ι H ι' H') (w0 : Wd K ι H S1) (wd : Wd K ι' H' S2) (r : RD K ι' H' v d) (e : frz S1.length d S2 = .ok d' S3) : ∃ κ, Step ι H κ H' ∧ Wd K κ H' S3 ∧ RD K κ H' v d' := by
  unfold frz at e
  have ncut : ∀ {a : Addr}, ι'.ix[S1.length]? = some (some a) → ¬ (ι'.cut S1.length).has a := fun {a} h z => by
    rcases z with z | z
    · obtain ⟨j, ej⟩ := List.mem_iff_getElem?.mp z
      have ej : (ι'.ix.take S1.length)[j]? = some (some a) := ej
      have hjn : j < S1.length := by
        rcases Nat.lt_or_ge j S1.length with q | q
        · exact q
        · rw [List.getElem?_eq_none (by rw [List.length_take]; omega)] at ej; cases ej
      rw [List.getElem?_take_of_lt hjn] at ej
      have this := ej
      have := wd.nd j _ a this h
      omega
    · exact (wd.hd a z).2 (List.mem_of_getElem? h)
  split at e
  · rename_i m
    split at e
    · rename_i hm
      subst hm
      split at e
      · rename_i xs hx
        cases e
        obtain ⟨a, vs, rfl, hix, h1, q⟩ := wd.lst r hx
        exact ⟨ι'.cut S1.length, st.cut _ w0.len, wd.cut _, .p (.ro (.inl h1) (ncut hix) (q.has fun _ => cut_has))⟩
      · rename_i xs hx
        cases e
        obtain ⟨a, vs, rfl, hix, h1, q⟩ := wd.dict r hx
        exact ⟨ι'.cut S1.length, st.cut _ w0.len, wd.cut _, .p (.dic (.of h1) (ncut hix) (q.has fun _ => cut_has))⟩
      · cases e
    · cases e
      exact ⟨ι', st, wd, r⟩
  · cases e
    exact ⟨ι', st, wd, r⟩
theorem re_callF (C : Ctx X T k) (i : Nat) {fd : Fd} (hi : T[i]? = some fd) (hx : fd.name = x) (hg : Gl X x) (ha : PA X (e :: es) (RdA X.K ca)) (hdb : (x == ("__debug__" : Str)) = false := by decide) (he : starEach (e :: es) X.env = (false, eval e X.env) :: starEach es X.env := by rfl) (hpl : (backTo pos (starEach es X.env)).any (·.1) = false := by rfl) :
    PE X (.Call (.Name x p) (e :: es) [] pos) (RdE X.K (cCallF (runT T k) i ca)) := by
  obtain ⟨f, d, ps, h1, h2, h3, h4⟩ := C.all i fd hi
  rw [hx] at h1
  refine (pe_call h4 C.room hg h1 h2 h3 .nil pass0 ha hdb he hpl).weak fun σ H Q ⟨ι, ρ, S, cf, d, S', e, k'⟩ => ?_
  obtain ⟨ds, S1, e1, e2⟩ := bind_ok e
  obtain ⟨d2, S2, e3, e4⟩ := bind_ok e2
  refine RdA.run cf e1 fun vs ι1 H1 st1 cf1 r1 => ?_
  refine ⟨ι1, S1, ds, cf1.wd, by rw [List.append_nil]; exact r1, d2, S2, e3, fun v ι' H' st wd r => ?_⟩
  obtain ⟨κ, s1, w1, r1'⟩ := frz_ok st cf1.wd wd r e4
  exact k' v κ H' (st1.trans s1) w1 r1'
end
/-! ### the law's end -/
theorem law_sp {T : List Fd} {K : PySem.W.Frag} {k i : Nat} (h : ∀ ns : List Int, ns.length ≤ 63 → runT T k i [.p (.scr (ns.map .int))] [] = .ok (.p (.bl true)) []) (H : Hp) (a : Addr) (ns : List Int) (hl : ns.length ≤ 63) (hS : SqL K H a (ns.map V.int)) (Z : XK) : spT T K k i [.ref a] H (fun v _ => v = .bl true) Z := by
  have rints : ∀ (ι : Lk) (ns : List Int), RPs K ι H (ns.map V.int) (ns.map .int) := fun ι ns => by
    induction ns with
    | nil => exact .nil
    | cons n r ih => exact .cons (.int n) ih
  have hat : LstAt K ⟨[], []⟩ H a (ns.map V.int) := by
    rcases hS with h | h
    · exact .inl ⟨h, fun z => z.elim (by simp) (by simp)⟩
    · exact .inr (.inr h)
  refine ⟨⟨[], []⟩, [], [.p (.scr (ns.map .int))], ⟨rfl, fun n m a h => by simp at h, fun n o h => by simp at h, fun a h => by simp at h⟩, .cons (.p (.scr hat (rints _ ns))) .nil, _, _, h ns hl, fun v ι' H' st wd r => ?_⟩
  exact r.blD
theorem law_walk {l : PySem.W.OpenLaw} {q : Program} {loose : List Str} {XP : (Str → Option Value) → Heap → Prop} {YP : World → Heap → Prop} {d : DefRec} {K : Params → PySem.W.Frag} {T : List Fd} {i : Nat} (lv : Nat) (hlv : Room lv callerA)
    (pure : ∀ ns : List Int, ns.length ≤ 63 → runT T lv i [.p (.scr (ns.map .int))] [] = .ok (.p (.bl true)) []) (hn : l.most = some 63) (hdf : d.params.defaults = [])
    (hY : ∀ (w : World) (h : Heap), YP w h → (K w.params).In h)
    (F : ∀ (w : World) (mg : Str → Option Value) (fa : Addr) (h : Heap), (K w.params).In h → h.Ns mainGlobals mg → mg d.name = some (.ref fa) →
      ∃ fd : FuncData, (∀ (s : Shared) (u : Value), BindsTo s fd ⟨[u], []⟩ [("script", u)]) ∧ ∀ base : Heap, (K w.params).In base → base.Ns mainGlobals mg → FnOk l.prog w (K w.params) mg base CX0 lv fa fd ["script"] (spT T (K w.params) lv i)) :
    PySem.W.WalkO q loose XP YP l.row.toRowW d [] (fun f vs => PySem.call f vs) :=
  L2.walk_of (n := 63) (k := lv) (x := "script") (CX := fun _ => CX0) (sp := fun w => spT T (K w.params) lv i) hn (by decide) hdf hlv hY F (fun _ H a ns hl _ hS => law_sp pure H a ns hl hS _) fun _ _ _ _ _ z => z
end Cw
set_option Elab.async false
set_option linter.all false
set_option maxRecDepth 100000
set_option maxHeartbeats 4000000
/-! Cw14: new lists by operators, constants of the module. -/
namespace Cw
open PySem PySem.Spec PyProof.Rows L2

theorem bt_len : bootBuiltins "len" = some (.builtin "len") := by decide +kernel
theorem bt_all : bootBuiltins "all" = some (.builtin "all") := by decide +kernel
theorem bt_any : bootBuiltins "any" = some (.builtin "any") := by decide +kernel
theorem bt_max : bootBuiltins "max" = some (.builtin "max") := by decide +kernel
theorem bt_min : bootBuiltins "min" = some (.builtin "min") := by decide +kernel
theorem bt_sum : bootBuiltins "sum" = some (.builtin "sum") := by decide +kernel
theorem bt_abs : bootBuiltins "abs" = some (.builtin "abs") := by decide +kernel
theorem bt_tuple : bootBuiltins "tuple" = some (.type "tuple") := by decide +kernel
theorem bt_int : bootBuiltins "int" = some (.type "int") := by decide +kernel
theorem bt_list : bootBuiltins "list" = some (.type "list") := by decide +kernel
theorem bt_bool : bootBuiltins "bool" = some (.type "bool") := by decide +kernel
theorem bt_str : bootBuiltins "str" = some (.type "str") := by decide +kernel
theorem bt_dict : bootBuiltins "dict" = some (.type "dict") := by decide +kernel
section
variable {X : Cx} {a b e : Expr} {ca cb : CE} {pos p p2 : Pos} {x : Str}
def nCat (ca cb : CE) : CN := fun ρ S => (ca ρ S).bind fun x S1 => (cb ρ S1).bind fun y S2 => match seqL x S2, seqL y S2 with
  | some xs, some ys => if xs.length + ys.length ≤ sizeLine then .ok (xs ++ ys) S2 else .no
  | _, _ => .no
theorem rn_cat (ha : PE X a (RdE X.K ca)) (hb : PE X b (RdE X.K cb)) : PE X (.BinOp a .Add b pos) (RdN X.K (nCat ca cb)) := (pe_op op_catR ha hb).weak fun σ H Q ⟨ι, ρ, S, cf, d, S', e, k⟩ => by
  obtain ⟨x, S1, e1, e2⟩ := bind_ok e
  obtain ⟨y, S2, e3, e4⟩ := bind_ok e2
  refine RdE.run cf e1 fun v ι1 H1 st1 cf1 r1 => RdE.run cf1 e3 fun w ι2 H2 st2 cf2 r2 => ?_
  split at e4
  · rename_i xs ys h1 h2
    split at e4
    · rename_i hc
      cases e4
      obtain ⟨a, vs, rfl, g1, q1⟩ := cf2.wd.seq (r1.mono st2) h1
      obtain ⟨b, ws, rfl, g2, q2⟩ := cf2.wd.seq r2 h2
      exact ⟨a, b, vs, ws, rfl, rfl, g1, g2, by rw [q1.length, q2.length]; exact hc, PostN.intro (st1.trans st2) cf2.wd (q1.app q2) rfl k⟩
    · cases e4
  · cases e4
/-- list * int, a list that stands too -/
theorem op_repR : OpR X (binaryOp .Mult) (fun x y H Q => ∃ l k xs, x = .ref l ∧ y = .int k ∧ H l = some (.lst xs) ∧ -(2 ^ 63) ≤ k ∧ k < 2 ^ 63 ∧ xs.length * k.toNat ≤ sizeLine ∧
  ∀ p, H p = none → Q (.ref p) (upd H p (.lst (List.replicate k.toNat xs).flatten))) := op_rep
def repOk (n : Nat) (k : Int) : Bool := Nat.ble k.natAbs 9223372036854775807 && Nat.ble (n * k.toNat) sizeLine
theorem repOk_of {n : Nat} {k : Int} (h : repOk n k = true) : -(2 ^ 63) ≤ k ∧ k < 2 ^ 63 ∧ n * k.toNat ≤ sizeLine := by
  unfold repOk at h
  rw [Bool.and_eq_true, Nat.ble_eq, Nat.ble_eq] at h
  exact ⟨by omega, by omega, h.2⟩
/-- the list that is repeated is made on the way -/
def nRep (cn : CN) (cb : CE) : CN := fun ρ S => (cn ρ S).bind fun xs S1 => (cb ρ S1).bind fun y S2 => match y with
  | .p (.int k) => if repOk xs.length k then .ok (List.replicate k.toNat xs).flatten S2 else .no
  | _ => .no
theorem rn_rep {cn : CN} (ha : PE X a (RdN X.K cn)) (hb : PE X b (RdE X.K cb)) : PE X (.BinOp a .Mult b pos) (RdN X.K (nRep cn cb)) := (pe_op op_rep ha hb).weak fun σ H Q ⟨ι, ρ, S, cf, d, S', e, k⟩ => by
  obtain ⟨xs, S1, e1, e2⟩ := bind_ok e
  obtain ⟨y, S2, e3, e4⟩ := bind_ok e2
  refine ⟨ι, ρ, S, cf, xs, S1, e1, fun a vs ι1 H1 st1 wd1 h1 h2 h3 q => ?_⟩
  have cf1 := cf.step st1 wd1.unhide
  have rro : RD X.K ι1 H1 (.ref a) (.p (.ro xs)) := .p (.ro (.inl h3) h2 (q.has (hide_has ι1 a)))
  refine RdE.run cf1 e3 fun w ι2 H2 st2 cf2 r2 => ?_
  have r3 := rro.mono st2
  have hk : H2 a = some (.lst vs) := st2.keep a _ h3 fun z => h2 (.inl z)
  split at e4
  · split at e4
    · rename_i kk hc
      cases e4
      have hc := repOk_of hc
      refine ⟨a, kk, vs, rfl, r2.intD, hk, hc.1, hc.2.1, ?_, ?_⟩
      · have hl := q.length
        rw [hl]; exact hc.2.2
      · have qs : RPs X.K ι2 H2 vs xs := (q.has (hide_has ι1 a)).mono st2
        exact PostN.intro (st1.trans st2) cf2.wd (qs.rep _) rfl k
    · cases e4
  · cases e4
def nSl (c : CE) (l h : CO) : CN := fun ρ S => (c ρ S).bind fun x S1 => (l ρ S1).bind fun lo S2 => (h ρ S2).bind fun hi S3 => match seqA x S3 with
  | some xs => .ok (cutP xs lo hi) S3
  | none => .no
theorem rn_slice {lo hi : Option Expr} {cl ch : CO} (ha : PE X a (RdE X.K ca)) (hl : PO X lo (RdO X.K cl)) (hh : PO X hi (RdO X.K ch)) : PE X (.Subscript a (.Slice lo hi none p2) pos) (RdN X.K (nSl ca cl ch)) := by
  refine (pe_slice sl_list ha hl hh).weak fun σ H Q ⟨ι, ρ, S, cf, d, S', e, k⟩ => ?_
  obtain ⟨x, S1, e1, e2⟩ := bind_ok e
  obtain ⟨lo, S2, e3, e4⟩ := bind_ok e2
  obtain ⟨hi, S3, e5, e6⟩ := bind_ok e4
  refine RdE.run cf e1 fun v ι1 H1 st1 cf1 r1 => RdO.run cf1 e3 fun ι2 H2 st2 cf2 => RdO.run cf2 e5 fun ι3 H3 st3 cf3 => ?_
  have r3 := r1.mono (st2.trans st3)
  split at e6
  · rename_i xs hx
    cases e6
    obtain ⟨a, vs, rfl, h1, q1⟩ := cf3.wd.seqA r3 hx
    exact ⟨a, vs, rfl, h1, PostN.intro ((st1.trans st2).trans st3) cf3.wd (q1.cut lo hi) rfl k⟩
  · cases e6
def nList (ca : CE) : CN := fun ρ S => (ca ρ S).bind fun x S1 => match itemsA x S1 with
  | some xs => .ok xs S1
  | none => .no
theorem rn_list (hg : Gl X x) (hm : X.mg x = none) (hv : bootBuiltins x = some (.type "list")) (ha : PE X e (RdE X.K ca)) (hn : x ≠ "__name__" := by decide) (hdb : (x == ("__debug__" : Str)) = false := by decide)
    (he : starEach (e :: []) X.env = (false, eval e X.env) :: starEach [] X.env := by rfl) (hpl : (backTo pos (starEach [] X.env)).any (·.1) = false := by rfl) : PE X (.Call (.Name x p) [e] [] pos) (RdN X.K (nList ca)) :=
  (pe_callTy call_list_of hg hm hv (pa_cons ha pa_nil he) hn hdb he hpl).weak fun σ H Q ⟨ι, ρ, S, cf, d, S', e, k⟩ => by
    obtain ⟨x, S1, e1, e2⟩ := bind_ok e
    refine RdE.run cf e1 fun v ι1 H1 st1 cf1 r1 => ?_
    split at e2
    · rename_i xs hx
      cases e2
      obtain ⟨a, vs, rfl, h1, q1⟩ := cf1.wd.items r1 hx
      exact ⟨a, vs, rfl, h1, PostN.intro st1 cf1.wd q1 rfl k⟩
    · cases e2
/-! ### constants of the module -/
theorem re_gstr {z : Str} (hg : Gl X x) (h : ∃ t, X.mg x = some (.str z t)) (ho : PyData.strOk z = true := by decide +kernel) (hd : (x == ("__debug__" : Str)) = false := by decide) : PE X (.Name x pos) (RdE X.K (cP (.str z))) := by
  obtain ⟨t, h⟩ := h
  exact re_c (pe_glob (v := .str z) hg h ⟨t, rfl⟩ hd) fun _ _ => .str ho
theorem re_gint {z : Int} (hg : Gl X x) (h : ∃ t, X.mg x = some (.int z t)) (hd : (x == ("__debug__" : Str)) = false := by decide) : PE X (.Name x pos) (RdE X.K (cP (.int z))) := by
  obtain ⟨t, h⟩ := h
  exact re_c (pe_glob (v := .int z) hg h ⟨t, rfl⟩ hd) fun _ _ => .int z
end
end Cw
set_option Elab.async false
set_option linter.all false
set_option maxRecDepth 100000
set_option maxHeartbeats 4000000
/-! Cw15: equations for reckoning with what bodies do. -/
namespace Cw
open L2 PySem

@[simp] theorem xVar0 (d : D) (ρ : Ev) (S : Sto) : cVar 0 (some d :: ρ) S = .ok d S := id rfl
@[simp] theorem xVarS (i : Nat) (o : Option D) (ρ : Ev) (S : Sto) : cVar (i + 1) (o :: ρ) S = cVar i ρ S := id rfl
@[simp] theorem xP (x : P) (ρ : Ev) (S : Sto) : cP x ρ S = .ok (.p x) S := id rfl
@[simp] theorem x2 (g : D → D → Sto → R D) (a b : CE) (ρ : Ev) (S : Sto) : c2 g a b ρ S = (a ρ S).bind fun x S1 => (b ρ S1).bind fun y S2 => g x y S2 := id rfl
@[simp] theorem x1 (g : List D → Sto → R D) (a : CA) (ρ : Ev) (S : Sto) : c1 g a ρ S = (a ρ S).bind g := id rfl
@[simp] theorem xNil (ρ : Ev) (S : Sto) : cNil ρ S = .ok [] S := id rfl
@[simp] theorem xCons (a : CE) (r : CA) (ρ : Ev) (S : Sto) : cCons a r ρ S = (a ρ S).bind fun x S1 => (r ρ S1).bind fun xs S2 => .ok (x :: xs) S2 := id rfl
@[simp] theorem xbT (b : Bool) (S : Sto) : bT (.ok (.p (.bl b)) S) = .ok b S := id rfl
@[simp] theorem xT (c : CE) (ρ : Ev) (S : Sto) : cT c ρ S = bT (c ρ S) := id rfl
@[simp] theorem xAnd (t u : CT) (ρ : Ev) (S : Sto) : cAnd t u ρ S = (t ρ S).bind fun b S1 => if b then u ρ S1 else .ok false S1 := id rfl
@[simp] theorem xOr (t u : CT) (ρ : Ev) (S : Sto) : cOr t u ρ S = (t ρ S).bind fun b S1 => if b then .ok true S1 else u ρ S1 := id rfl
@[simp] theorem xNot (t : CT) (ρ : Ev) (S : Sto) : cNot t ρ S = (t ρ S).bind fun b S1 => .ok (!b) S1 := id rfl
@[simp] theorem xAndV (a b : CE) (ρ : Ev) (S : Sto) : cAndV a b ρ S = (bT (a ρ S)).bind fun k S1 => if k then b ρ S1 else .ok (.p (.bl false)) S1 := id rfl
@[simp] theorem xOrV (a b : CE) (ρ : Ev) (S : Sto) : cOrV a b ρ S = (bT (a ρ S)).bind fun k S1 => if k then .ok (.p (.bl true)) S1 else b ρ S1 := id rfl
@[simp] theorem xNotV (a : CE) (ρ : Ev) (S : Sto) : cNotV a ρ S = (bT (a ρ S)).bind fun k S1 => .ok (.p (.bl (!k))) S1 := id rfl
@[simp] theorem xIf (t : CT) (a b : CE) (ρ : Ev) (S : Sto) : cIf t a b ρ S = (t ρ S).bind fun k S1 => if k then a ρ S1 else b ρ S1 := id rfl
@[simp] theorem xTru (c : CE) (ρ : Ev) (S : Sto) : cTru c ρ S = (c ρ S).bind fun d S1 => match truD d S1 with | some b => .ok b S1 | none => .no := id rfl
@[simp] theorem xTup (c : CA) (ρ : Ev) (S : Sto) : cTup c ρ S = (c ρ S).bind fun ds S1 => match allP ds with | some xs => if xs.length ≤ sizeLine then .ok (.p (.tup xs)) S1 else .no | none => .no := id rfl
@[simp] theorem xLst (c : CA) (ρ : Ev) (S : Sto) : cLst c ρ S = (c ρ S).bind fun ds S1 => match allP ds with | some xs => if xs.length ≤ sizeLine then .ok xs S1 else .no | none => .no := id rfl
@[simp] theorem xRo (c : CN) (ρ : Ev) (S : Sto) : cRo c ρ S = (c ρ S).bind fun xs S1 => .ok (.p (.ro xs)) S1 := id rfl
@[simp] theorem xTr (c : CN) (ρ : Ev) (S : Sto) : cTr c ρ S = (c ρ S).bind fun xs S1 => .ok (.ref S1.length) (S1 ++ [.lst xs]) := id rfl
@[simp] theorem xDo (c : CD) (ρ : Ev) (S : Sto) : cDo c ρ S = (c ρ S).bind fun xs S1 => .ok (.p (.dic xs)) S1 := id rfl
@[simp] theorem xDt (c : CD) (ρ : Ev) (S : Sto) : cDt c ρ S = (c ρ S).bind fun xs S1 => .ok (.ref S1.length) (S1 ++ [.dic xs]) := id rfl
@[simp] theorem xDNew (ρ : Ev) (S : Sto) : cDNew ρ S = .ok [] S := id rfl
@[simp] theorem xSl (c : CE) (l h : CO) (ρ : Ev) (S : Sto) : cSl c l h ρ S = (c ρ S).bind fun x S1 => (l ρ S1).bind fun lo S2 => (h ρ S2).bind fun hi S3 => gSl x lo hi S3 := id rfl
@[simp] theorem xONone (ρ : Ev) (S : Sto) : cONone ρ S = .ok none S := id rfl
@[simp] theorem xOSome (c : CE) (ρ : Ev) (S : Sto) : cOSome c ρ S = (c ρ S).bind fun d S1 => match d with | .p (.int i) => .ok (some i) S1 | _ => .no := id rfl
@[simp] theorem xNeg (c : CE) (ρ : Ev) (S : Sto) : cNeg c ρ S = (c ρ S).bind fun d S1 => match d with | .p (.int i) => .ok (.p (.int (-i))) S1 | _ => .no := id rfl
@[simp] theorem xIsi (T : String) (c : CE) (ρ : Ev) (S : Sto) : cIsi T c ρ S = (c ρ S).bind fun d S1 => match (tyN d S1).bind fun t => kitB t T with | some b => .ok (.p (.bl b)) S1 | none => .no := id rfl
@[simp] theorem xCall (run : Run) (i : Nat) (ca : CA) (ρ : Ev) (S : Sto) : cCall run i ca ρ S = (ca ρ S).bind fun ds S1 => run i ds S1 := id rfl
@[simp] theorem xCallF (run : Run) (i : Nat) (ca : CA) (ρ : Ev) (S : Sto) : cCallF run i ca ρ S = (ca ρ S).bind fun ds S1 => (run i ds S1).bind fun d S2 => frz S1.length d S2 := id rfl
@[simp] theorem xM (T : String) (g : D → List D → Sto → R D) (co : CE) (ca : CA) (ρ : Ev) (S : Sto) : cM T g co ca ρ S = (co ρ S).bind fun x S1 => if isTy T x S1 then (ca ρ S1).bind fun ds S2 => g x ds S2 else .no := id rfl
@[simp] theorem xM0 (T : String) (g : D → List D → Sto → R D) (co : CE) (ρ : Ev) (S : Sto) : cM0 T g co ρ S = (co ρ S).bind fun x S1 => if isTy T x S1 then g x [] S1 else .no := id rfl
@[simp] theorem xCat (a b : CE) (ρ : Ev) (S : Sto) : nCat a b ρ S = (a ρ S).bind fun x S1 => (b ρ S1).bind fun y S2 => match seqL x S2, seqL y S2 with | some xs, some ys => if xs.length + ys.length ≤ sizeLine then .ok (xs ++ ys) S2 else .no | _, _ => .no := id rfl
@[simp] theorem xRep (a : CN) (b : CE) (ρ : Ev) (S : Sto) : nRep a b ρ S = (a ρ S).bind fun xs S1 => (b ρ S1).bind fun y S2 => match y with | .p (.int k) => if repOk xs.length k then .ok (List.replicate k.toNat xs).flatten S2 else .no | _ => .no := id rfl
@[simp] theorem xComp (it : CI) (g : CG) (t : CT) (e : CE) (vs : List Nat) (ρ : Ev) (S : Sto) : cComp it g t e vs ρ S = (it ρ S).bind fun z S1 => compL g t e z.2 z.1 z.1 [] (wipeE ρ vs) S1 := id rfl
@[simp] theorem xYes (ρ : Ev) (S : Sto) : cYes ρ S = .ok true S := id rfl
@[simp] theorem xIt (c : CE) (ρ : Ev) (S : Sto) : cIt c ρ S = (c ρ S).bind iterD := id rfl
@[simp] theorem xRng1 (c : CE) (ρ : Ev) (S : Sto) : cRng1 c ρ S = (c ρ S).bind fun d S1 => match d with | .p (.int j) => if rngOk 0 j then .ok (rangeP 0 j.toNat, none) S1 else .no | _ => .no := id rfl
@[simp] theorem xSeq (s t : CS) (ρ : Ev) (S : Sto) : sSeq s t ρ S = (s ρ S).bind fun f S1 => match f with | .nx ρ1 => t ρ1 S1 | f => .ok f S1 := id rfl
@[simp] theorem xSNil (ρ : Ev) (S : Sto) : sNil ρ S = .ok (.nx ρ) S := id rfl
@[simp] theorem xSIf (c : CT) (s t : CS) (ρ : Ev) (S : Sto) : sIf c s t ρ S = (c ρ S).bind fun b S1 => if b then s ρ S1 else t ρ S1 := id rfl
@[simp] theorem xRet (c : CE) (ρ : Ev) (S : Sto) : sRet c ρ S = (c ρ S).bind fun d S1 => .ok (.rt d) S1 := id rfl
@[simp] theorem xRetN (ρ : Ev) (S : Sto) : sRetN ρ S = .ok (.rt (.p .non)) S := id rfl
@[simp] theorem xDrop (c : CE) (ρ : Ev) (S : Sto) : sDrop c ρ S = (c ρ S).bind fun _ S1 => .ok (.nx ρ) S1 := id rfl
@[simp] theorem xAsg (c : CE) (g : CG) (ρ : Ev) (S : Sto) : sAsg c g ρ S = (c ρ S).bind fun d S1 => (g d ρ S1).bind fun ρ2 S2 => .ok (.nx ρ2) S2 := id rfl
@[simp] theorem xgN (i : Nat) (d : D) (ρ : Ev) (S : Sto) : gN i d ρ S = .ok (ρ.set i (some d)) S := id rfl
@[simp] theorem xgsNil (ρ : Ev) (S : Sto) : gsNil [] ρ S = .ok ρ S := id rfl
@[simp] theorem xgsCons (g : CG) (r : CGs) (x : P) (xs : List P) (ρ : Ev) (S : Sto) : gsCons g r (x :: xs) ρ S = (g (.p x) ρ S).bind fun ρ1 S1 => r xs ρ1 S1 := id rfl
@[simp] theorem xgTp (n : Nat) (g : CGs) (xs : List P) (ρ : Ev) (S : Sto) : gTp n g (.p (.tup xs)) ρ S = if xs.length = n then g xs ρ S else .no := id rfl
@[simp] theorem xgAt (co ci : CE) (d : D) (ρ : Ev) (S : Sto) : gAt co ci d ρ S = (co ρ S).bind fun x S1 => (ci ρ S1).bind fun y S2 => (gSet x y d S2).bind fun _ S3 => .ok ρ S3 := id rfl
@[simp] theorem xFor (it : CI) (g : CG) (b : CS) (ρ : Ev) (S : Sto) : sFor it g b ρ S = (it ρ S).bind fun z S1 => forL g b z.2 z.1 z.1 ρ S1 := id rfl
@[simp] theorem xleave_nx (n : Nat) (ρ : Ev) (S : Sto) : leave n (.ok (.nx ρ) S) = .ok (.p .non) (S.take n) := id rfl
@[simp] theorem xleave_rt (n : Nat) (d : D) (S : Sto) : leave n (.ok (.rt d) S) = tellD n d S := id rfl
@[simp] theorem xtell_p (n : Nat) (x : P) (S : Sto) : tellD n (.p x) S = .ok (.p x) (S.take n) := id rfl
@[simp] theorem xfrz_p (n : Nat) (x : P) (S : Sto) : frz n (.p x) S = .ok (.p x) S := id rfl
@[simp] theorem xIter_tup (xs : List P) (S : Sto) : iterD (.p (.tup xs)) S = .ok (xs, none) S := id rfl
@[simp] theorem xIter_ro (xs : List P) (S : Sto) : iterD (.p (.ro xs)) S = .ok (xs, none) S := id rfl
@[simp] theorem xIter_scr (xs : List P) (S : Sto) : iterD (.p (.scr xs)) S = .ok (xs, none) S := id rfl
@[simp] theorem xok_none (xs : List P) (S : Sto) : okT none xs S = true := id rfl
/-! ### operations -/
@[simp] theorem vAdd (i j : Int) (S : Sto) : gAdd (.p (.int i)) (.p (.int j)) S = .ok (.p (.int (i + j))) S := rfl
@[simp] theorem vSub (i j : Int) (S : Sto) : gSub (.p (.int i)) (.p (.int j)) S = .ok (.p (.int (i - j))) S := by simp [gSub, gInt, CYes]
@[simp] theorem vMod (i j : Int) (S : Sto) (h : 0 < j) : gMod (.p (.int i)) (.p (.int j)) S = .ok (.p (.int (i % j))) S := by simp [gMod, gInt, CPos, h]
theorem divW {i j : Int} (h : 0 < j) (h2 : j < 2 ^ 64) : CDivW i j := wide_div (b := 64) h (by omega) (by omega) (by omega)
@[simp] theorem vDiv (i j : Int) (S : Sto) (h : 0 < j) (h2 : j < 18446744073709551616) : gDiv (.p (.int i)) (.p (.int j)) S = .ok (.p (.int (i / j))) S := by simp [gDiv, gInt, divW h h2]
@[simp] theorem vMulL (i j : Int) (S : Sto) (h : -18446744073709551616 < i) (h2 : i < 18446744073709551616) : gMul (.p (.int i)) (.p (.int j)) S = .ok (.p (.int (i * j))) S := by
  have : CMulA i j := .inl (.inl ⟨by omega, by omega⟩)
  simp [gMul, gInt, this]
@[simp] theorem vMulR (i j : Int) (S : Sto) (h : -18446744073709551616 < j) (h2 : j < 18446744073709551616) : gMul (.p (.int i)) (.p (.int j)) S = .ok (.p (.int (i * j))) S := by
  have : CMulA i j := .inl (.inr ⟨by omega, by omega⟩)
  simp [gMul, gInt, this]
@[simp] theorem vPow (i j : Int) (S : Sto) (h0 : 0 ≤ j) (h1 : j ≤ 1000000) (h2 : i.natAbs < 18446744073709551616) : gPow (.p (.int i)) (.p (.int j)) S = .ok (.p (.int (i ^ j.toNat))) S := by
  have : CPow i j := ⟨h0, h1, h2⟩
  simp [gPow, gInt, this]
@[simp] theorem vLt (i j : Int) (S : Sto) : gLt (.p (.int i)) (.p (.int j)) S = .ok (.p (.bl (decide (i < j)))) S := by simp [gLt, gInt, CYes]
@[simp] theorem vLe (i j : Int) (S : Sto) : gLe (.p (.int i)) (.p (.int j)) S = .ok (.p (.bl (decide (i ≤ j)))) S := by simp [gLe, gInt, CYes]
@[simp] theorem vGt (i j : Int) (S : Sto) : gGt (.p (.int i)) (.p (.int j)) S = .ok (.p (.bl (decide (j < i)))) S := by simp [gGt, gInt, CYes]
@[simp] theorem vGe (i j : Int) (S : Sto) : gGe (.p (.int i)) (.p (.int j)) S = .ok (.p (.bl (decide (j ≤ i)))) S := by simp [gGe, gInt, CYes]
@[simp] theorem vIs (x : P) (S : Sto) : gIs false (.p x) (.p .non) S = .ok (.p (.bl (isN (.p x)))) S := rfl
@[simp] theorem vIsnt (x : P) (S : Sto) : gIs true (.p x) (.p .non) S = .ok (.p (.bl (!isN (.p x)))) S := rfl
@[simp] theorem vMax (i j : Int) (S : Sto) : gMax [.p (.int i), .p (.int j)] S = .ok (.p (.int (max i j))) S := rfl
@[simp] theorem vMin (i j : Int) (S : Sto) : gMin [.p (.int i), .p (.int j)] S = .ok (.p (.int (min i j))) S := rfl
@[simp] theorem vLenTup (xs : List P) (S : Sto) : gLen [.p (.tup xs)] S = .ok (.p (.int (xs.length : Nat))) S := rfl
@[simp] theorem vLenRo (xs : List P) (S : Sto) : gLen [.p (.ro xs)] S = .ok (.p (.int (xs.length : Nat))) S := rfl
@[simp] theorem vLenScr (xs : List P) (S : Sto) : gLen [.p (.scr xs)] S = .ok (.p (.int (xs.length : Nat))) S := rfl
@[simp] theorem vLenDic (xs : List (Key × P)) (S : Sto) : gLen [.p (.dic xs)] S = .ok (.p (.int (xs.length : Nat))) S := rfl
theorem vLenRef {n : Nat} {S : Sto} {xs : List P} (h : S[n]? = some (.lst xs)) : gLen [.ref n] S = .ok (.p (.int (xs.length : Nat))) S := by simp [gLen, itemsA, seqA, seqL, h]
@[simp] theorem vIntI (i : Int) (S : Sto) : gIntOf [.p (.int i)] S = .ok (.p (.int i)) S := rfl
@[simp] theorem vIntB (b : Bool) (S : Sto) : gIntOf [.p (.bl b)] S = .ok (.p (.int (if b then 1 else 0))) S := rfl
@[simp] theorem vTupRo (xs : List P) (S : Sto) : gTuple [.p (.ro xs)] S = .ok (.p (.tup xs)) S := rfl
@[simp] theorem vTupTup (xs : List P) (S : Sto) : gTuple [.p (.tup xs)] S = .ok (.p (.tup xs)) S := rfl
theorem vTupRef {n : Nat} {S : Sto} {xs : List P} (h : S[n]? = some (.lst xs)) : gTuple [.ref n] S = .ok (.p (.tup xs)) S := by simp [gTuple, itemsA, seqA, seqL, h]
theorem vAllRo {xs : List P} {bs : List Bool} (S : Sto) (h : blsP xs = some bs) : gAll [.p (.ro xs)] S = .ok (.p (.bl (bs.all id))) S := by simp [gAll, gBls, seqA, seqL, h]
theorem vIxT {xs : List P} {i : Int} {x : P} (S : Sto) (h0 : 0 ≤ i) (h : xs[i.toNat]? = some x) : gIx (.p (.tup xs)) (.p (.int i)) S = .ok (.p x) S := by
  have e : i = (i.toNat : Int) := by omega
  have q : atI xs i = some x := by rw [e]; exact atI_nat h
  show gIxL (some xs) i S = _
  simp [gIxL, q]
theorem vIxRo {xs : List P} {i : Int} {x : P} (S : Sto) (h0 : 0 ≤ i) (h : xs[i.toNat]? = some x) : gIx (.p (.ro xs)) (.p (.int i)) S = .ok (.p x) S := by
  have e : i = (i.toNat : Int) := by omega
  have q : atI xs i = some x := by rw [e]; exact atI_nat h
  show gIxL (some xs) i S = _
  simp [gIxL, q]
theorem vIxScr {xs : List P} {i : Int} {x : P} (S : Sto) (h0 : 0 ≤ i) (h : xs[i.toNat]? = some x) : gIx (.p (.scr xs)) (.p (.int i)) S = .ok (.p x) S := by
  have e : i = (i.toNat : Int) := by omega
  have q : atI xs i = some x := by rw [e]; exact atI_nat h
  show gIxL (some xs) i S = _
  simp [gIxL, q]
theorem vIxRef {n : Nat} {xs : List P} {i : Int} {x : P} {S : Sto} (hS : S[n]? = some (.lst xs)) (h0 : 0 ≤ i) (h : xs[i.toNat]? = some x) : gIx (.ref n) (.p (.int i)) S = .ok (.p x) S := by
  have e : i = (i.toNat : Int) := by omega
  have q : atI xs i = some x := by rw [e]; exact atI_nat h
  have h1 : dicL (.ref n) S = none := by simp [dicL, hS]
  have h2 : itemsA (.ref n) S = some xs := by simp [itemsA, seqA, seqL, hS]
  unfold gIx
  rw [h1]
  show gIxL (itemsA (.ref n) S) i S = _
  rw [h2]
  simp [gIxL, q]
theorem ixN_nat {n : Nat} {i : Int} (h0 : 0 ≤ i) (h : i < n) : ixN n i = some i.toNat := by unfold ixN; rw [if_pos h0, if_pos h]
theorem vSetL {n : Nat} {xs : List P} {i : Int} {y : P} {S : Sto} (hS : S[n]? = some (.lst xs)) (h0 : 0 ≤ i) (h : i < xs.length) : gSet (.ref n) (.p (.int i)) (.p y) S = .ok () (S.set n (.lst (xs.set i.toNat y))) := by
  unfold gSet gSetL
  simp [hS, ixN_nat h0 h]
theorem vAppend {n : Nat} {xs : List P} {y : P} {S : Sto} (hS : S[n]? = some (.lst xs)) (h : xs.length < sizeLine) : gAppend (.ref n) [.p y] S = .ok (.p .non) (S.set n (.lst (xs ++ [y]))) := by
  simp [gAppend, onLst, hS, h]
theorem vTyL {n : Nat} {xs : List P} {S : Sto} (hS : S[n]? = some (.lst xs)) : isTy "list" (.ref n) S = true := by simp [isTy, hS]
theorem vTyD {n : Nat} {xs : List (Key × P)} {S : Sto} (hS : S[n]? = some (.dic xs)) : isTy "dict" (.ref n) S = true := by simp [isTy, hS]
theorem take_set {S : Sto} {n : Nat} {o : Ob} : (S.set n o).take S.length = S.set n o := by rw [List.take_of_length_le]; rw [List.length_set]; exact Nat.le_refl _
@[simp] theorem take_self (S : Sto) : List.take S.length S = S := List.take_length
@[simp] theorem sizeLine_val : sizeLine = 16777216 := sizeLine_eq
theorem runS {T : List Fd} {k i : Nat} {ds : List D} {S : Sto} {fd : Fd} (h : T[i]? = some fd) (hl : ds.length = fd.ps.length) : runT T (k + 1) i ds S = leave S.length (fd.B (runT T k) (startE fd.N.length ds) S) := by
  simp [runT, h, hl]
end Cw
set_option Elab.async false
set_option linter.all false
set_option maxRecDepth 100000
set_option maxHeartbeats 4000000
/-! Cw16: loops and comprehensions reckoned with; texts, dicts, things of the store. -/
namespace Cw
open L2 PySem

/-! ### loops -/
/-- one turn -/
def turnF (g : CG) (body : CS) (x : P) : CS := fun ρ S => (g (.p x) ρ S).bind fun ρ1 S1 => body ρ1 S1
theorem forL_nil (g : CG) (body : CS) (xs0 : List P) (ρ : Ev) (S : Sto) : forL g body none xs0 [] ρ S = .ok (.nx ρ) S := rfl
theorem forL_next {g : CG} {body : CS} {xs0 : List P} {x : P} {r : List P} {ρ ρ' : Ev} {S S' : Sto} (h : turnF g body x ρ S = .ok (.nx ρ') S') : forL g body none xs0 (x :: r) ρ S = forL g body none xs0 r ρ' S' := by
  obtain ⟨ρ1, S1, e1, e2⟩ := bind_ok h
  simp only [forL, okT, if_true, e1, bind_okE, e2]
theorem forL_ret {g : CG} {body : CS} {xs0 : List P} {x : P} {r : List P} {ρ : Ev} {S S' : Sto} {d : D} (h : turnF g body x ρ S = .ok (.rt d) S') : forL g body none xs0 (x :: r) ρ S = .ok (.rt d) S' := by
  obtain ⟨ρ1, S1, e1, e2⟩ := bind_ok h
  simp only [forL, okT, if_true, e1, bind_okE, e2]
theorem forL_ind {g : CG} {body : CS} {xs0 : List P} (I : Nat → Ev → Sto → Prop) : ∀ (xs : List P) (i : Nat) (ρ : Ev) (S : Sto), I i ρ S →
    (∀ j x ρ S, xs[j]? = some x → I (i + j) ρ S → ∃ ρ' S', turnF g body x ρ S = .ok (.nx ρ') S' ∧ I (i + j + 1) ρ' S') → ∃ ρ' S', forL g body none xs0 xs ρ S = .ok (.nx ρ') S' ∧ I (i + xs.length) ρ' S'
  | [], i, ρ, S, h, _ => ⟨ρ, S, rfl, h⟩
  | x :: r, i, ρ, S, h, hs => by
    obtain ⟨ρ1, S1, e1, h1⟩ := hs 0 x ρ S rfl h
    obtain ⟨ρ2, S2, e2, h2⟩ := forL_ind I r (i + 1) ρ1 S1 h1 fun j y ρ S hj hI => by
      have := hs (j + 1) y ρ S hj (by rw [← Nat.add_assoc, Nat.add_right_comm]; exact hI)
      obtain ⟨ρ', S', e, q⟩ := this
      exact ⟨ρ', S', e, by rw [Nat.add_right_comm i 1 j]; rw [← Nat.add_assoc] at q; exact q⟩
    refine ⟨ρ2, S2, by rw [forL_next e1]; exact e2, ?_⟩
    have : i + (x :: r).length = i + 1 + r.length := by rw [List.length_cons]; omega
    rw [this]; exact h2
/-- over a range -/
theorem range_at {lo : Int} {n j : Nat} {x : P} (h : (rangeP lo n)[j]? = some x) : x = .int (lo + j) ∧ j < n := by
  unfold rangeP at h
  rw [List.getElem?_map] at h
  obtain ⟨i, hi, e⟩ := Option.map_eq_some_iff.mp h
  have hj : j < n := by
    rcases Nat.lt_or_ge j n with q | q
    · exact q
    · rw [List.getElem?_eq_none (by rw [List.length_range]; exact q)] at hi; cases hi
  rw [List.getElem?_range hj] at hi
  cases hi
  exact ⟨e.symm, hj⟩
theorem range_len (lo : Int) (n : Nat) : (rangeP lo n).length = n := by unfold rangeP; rw [List.length_map, List.length_range]
theorem for_range {g : CG} {body : CS} {xs0 : List P} {lo : Int} {n : Nat} {ρ : Ev} {S : Sto} (I : Nat → Ev → Sto → Prop) (h0 : I 0 ρ S)
    (hs : ∀ (j : Nat) ρ S, j < n → I j ρ S → ∃ ρ' S', turnF g body (.int (lo + j)) ρ S = .ok (.nx ρ') S' ∧ I (j + 1) ρ' S') : ∃ ρ' S', forL g body none xs0 (rangeP lo n) ρ S = .ok (.nx ρ') S' ∧ I n ρ' S' := by
  obtain ⟨ρ', S', e, h⟩ := forL_ind (g := g) (body := body) (xs0 := xs0) I (rangeP lo n) 0 ρ S h0 fun j x ρ S hj hI => by
    obtain ⟨rfl, hn⟩ := range_at hj
    rw [Nat.zero_add] at hI ⊢
    exact hs j ρ S hn hI
  refine ⟨ρ', S', e, ?_⟩
  rw [range_len, Nat.zero_add] at h
  exact h
@[simp] theorem rngOk_nat (n : Nat) (h : n ≤ 4611686018427387903) : rngOk 0 (n : Int) = true := by
  unfold rngOk
  rw [Bool.and_eq_true, Nat.ble_eq, Nat.ble_eq]
  omega
@[simp] theorem repOk_nat (a n : Nat) (h : n ≤ 9223372036854775807) (h2 : a * n ≤ 16777216) : repOk a (n : Int) = true := by
  unfold repOk
  rw [Bool.and_eq_true, Nat.ble_eq, Nat.ble_eq, sizeLine_eq, Int.toNat_natCast]
  exact ⟨by omega, h2⟩

/-! ### comprehensions -/
theorem compL_map {g : CG} {e : CE} {xs0 : List P} {ρ : Ev} {S : Sto} (f : P → P) : ∀ (xs acc : List P), acc.length + xs.length ≤ 16777216 → (∀ x ∈ xs, (g (.p x) ρ S).bind (fun ρ1 S1 => e ρ1 S1) = .ok (.p (f x)) S) →
    compL g cYes e none xs0 xs acc ρ S = .ok (acc ++ xs.map f) S
  | [], acc, _, _ => by simp [compL]
  | x :: r, acc, hl, h => by
    have h1 := h x List.mem_cons_self
    obtain ⟨ρ1, S1, e1, e2⟩ := bind_ok h1
    have ih := compL_map (g := g) (e := e) (xs0 := xs0) (ρ := ρ) (S := S) f r (acc ++ [f x]) (by rw [List.length_append, List.length_singleton]; rw [List.length_cons] at hl; omega) fun y hy => h y (List.mem_cons_of_mem _ hy)
    rw [List.length_cons] at hl
    have hlt : acc.length < sizeLine := by rw [sizeLine_val]; omega
    simp only [compL, okT, if_true, e1, bind_okE, xYes, e2, hlt, ih, List.map_cons, List.append_assoc, List.singleton_append]
theorem compL_filter {g : CG} {t : CT} {e : CE} {xs0 : List P} {ρ : Ev} {S : Sto} (p : P → Bool) (f : P → P) : ∀ (xs acc : List P), acc.length + xs.length ≤ 16777216 →
    (∀ x ∈ xs, ∃ ρ1, g (.p x) ρ S = .ok ρ1 S ∧ t ρ1 S = .ok (p x) S ∧ (p x = true → e ρ1 S = .ok (.p (f x)) S)) → compL g t e none xs0 xs acc ρ S = .ok (acc ++ (xs.filter p).map f) S
  | [], acc, _, _ => by simp [compL]
  | x :: r, acc, hl, h => by
    obtain ⟨ρ1, e1, e2, e3⟩ := h x List.mem_cons_self
    rw [List.length_cons] at hl
    have hlt : acc.length < sizeLine := by rw [sizeLine_val]; omega
    cases hp : p x with
    | true =>
      have ih := compL_filter (g := g) (t := t) (e := e) (xs0 := xs0) (ρ := ρ) (S := S) p f r (acc ++ [f x]) (by rw [List.length_append, List.length_singleton]; omega) fun y hy => h y (List.mem_cons_of_mem _ hy)
      simp only [compL, okT, if_true, e1, bind_okE, e2, hp, e3 hp, hlt, ih, List.filter_cons, List.map_cons, List.append_assoc, List.singleton_append]
    | false =>
      have ih := compL_filter (g := g) (t := t) (e := e) (xs0 := xs0) (ρ := ρ) (S := S) p f r acc (by omega) fun y hy => h y (List.mem_cons_of_mem _ hy)
      simp only [compL, okT, if_true, e1, bind_okE, e2, hp, ih, List.filter_cons, Bool.false_eq_true, if_false]
/-- one that changes the store on its way -/
theorem compL_ind {g : CG} {e : CE} {xs0 : List P} {ρ : Ev} (I : List P → Sto → Prop) : ∀ (xs acc : List P) (S : Sto), I acc S → acc.length + xs.length ≤ 16777216 →
    (∀ x ∈ xs, ∀ acc S, I acc S → ∃ ρ1 S1 y S2, g (.p x) ρ S = .ok ρ1 S1 ∧ e ρ1 S1 = .ok (.p y) S2 ∧ I (acc ++ [y]) S2) → ∃ ys S', compL g cYes e none xs0 xs acc ρ S = .ok ys S' ∧ I ys S' ∧ ys.length = acc.length + xs.length
  | [], acc, S, h, _, _ => ⟨acc, S, by simp [compL], h, rfl⟩
  | x :: r, acc, S, h, hl, hs => by
    obtain ⟨ρ1, S1, y, S2, e1, e2, h2⟩ := hs x List.mem_cons_self acc S h
    rw [List.length_cons] at hl
    have hlt : acc.length < sizeLine := by rw [sizeLine_val]; omega
    obtain ⟨ys, S', e3, h3, h4⟩ := compL_ind (g := g) (e := e) (xs0 := xs0) (ρ := ρ) I r (acc ++ [y]) S2 h2 (by rw [List.length_append, List.length_singleton]; omega) fun z hz => hs z (List.mem_cons_of_mem _ hz)
    refine ⟨ys, S', ?_, h3, by rw [h4, List.length_append, List.length_singleton, List.length_cons]; omega⟩
    simp only [compL, okT, if_true, e1, bind_okE, xYes, e2, hlt, e3]

/-! ### a while with a measure -/
theorem whileN_next {t : CT} {b : CS} {n : Nat} {ρ ρ' : Ev} {S S1 S' : Sto} (h : t ρ S = .ok true S1) (h2 : b ρ S1 = .ok (.nx ρ') S') : whileN t b (n + 1) ρ S = whileN t b n ρ' S' := by
  simp only [whileN, h, bind_okE, if_true, h2]
theorem whileN_end {t : CT} {b : CS} {n : Nat} {ρ : Ev} {S S1 : Sto} (h : t ρ S = .ok false S1) : whileN t b (n + 1) ρ S = .ok (.nx ρ) S1 := by
  simp only [whileN, h, bind_okE, Bool.false_eq_true, if_false]
theorem while_ind {t : CT} {b : CS} (I : Nat → Ev → Sto → Prop) (J : Ev → Sto → Prop)
    (hs : ∀ m ρ S, I m ρ S → (∃ S1, t ρ S = .ok false S1 ∧ J ρ S1) ∨ ∃ m' S1 ρ' S', m = m' + 1 ∧ t ρ S = .ok true S1 ∧ b ρ S1 = .ok (.nx ρ') S' ∧ I m' ρ' S') :
    ∀ (n m : Nat) (ρ : Ev) (S : Sto), I m ρ S → m < n → ∃ ρ' S', whileN t b n ρ S = .ok (.nx ρ') S' ∧ J ρ' S'
  | 0, m, ρ, S, _, h => absurd h (Nat.not_lt_zero _)
  | n + 1, m, ρ, S, h, hl => by
    rcases hs m ρ S h with ⟨S1, e, j⟩ | ⟨m', S1, ρ', S', rfl, e1, e2, i⟩
    · exact ⟨ρ, S1, whileN_end e, j⟩
    · rw [whileN_next e1 e2]
      exact while_ind I J hs n m' ρ' S' i (by omega)

/-! ### texts -/
def mkS (l : List Nat) : Str := ⟨l.toArray⟩
@[simp] theorem mkS_app (a b : List Nat) : mkS a ++ mkS b = mkS (a ++ b) := by
  show (⟨a.toArray ++ b.toArray⟩ : Str) = ⟨(a ++ b).toArray⟩
  simp
@[simp] theorem mkS_len (a : List Nat) : (mkS a).length = a.length := by
  show a.toArray.size = a.length
  simp
theorem mkS_inj {a b : List Nat} (h : mkS a = mkS b) : a = b := by
  have : a.toArray = b.toArray := congrArg Str.cps h
  simpa using this
theorem mkS_eta (s : Str) : s = mkS s.cps.toList := by
  cases s with
  | mk c => show (⟨c⟩ : Str) = ⟨c.toList.toArray⟩; simp
@[simp] theorem mkS_cps (a : List Nat) : (mkS a).cps.toList = a := by show a.toArray.toList = a; simp
theorem sIx_none0 (n : Nat) : HT.sIx n 0 none = 0 := rfl
theorem cut_pre {α : Type} (a : List α) (k : Nat) (hk : k ≤ a.length) : (a.drop (HT.sIx a.length 0 none)).take (HT.sIx a.length a.length (some (k : Int)) - HT.sIx a.length 0 none) = a.take k := by
  rw [HT.sIx_nat, HT.sIx_none, Nat.min_eq_left hk, List.drop_zero, Nat.sub_zero]
theorem cut_post {α : Type} (a : List α) (k : Nat) (hk : k ≤ a.length) : (a.drop (HT.sIx a.length 0 (some (k : Int)))).take (HT.sIx a.length a.length none - HT.sIx a.length 0 (some (k : Int))) = a.drop k := by
  rw [HT.sIx_nat, HT.sIx_none, Nat.min_eq_left hk, List.take_of_length_le (by rw [List.length_drop]; omega)]
theorem vSlPreS {a : List Nat} {k : Int} (S : Sto) (h0 : 0 ≤ k) (h1 : k ≤ a.length) (hl : a.length ≤ 16777216) : gSl (.p (.str (mkS a))) none (some k) S = .ok (.p (.str (mkS (a.take k.toNat)))) S := by
  have e : k = (k.toNat : Int) := by omega
  unfold gSl
  simp only [mkS_len, sizeLine_val, hl, if_true]
  rw [e]
  unfold cutS
  simp only [mkS_len, mkS_cps]
  rw [cut_pre a k.toNat (by omega)]
  rfl
theorem vSlPostS {a : List Nat} {k : Int} (S : Sto) (h0 : 0 ≤ k) (h1 : k ≤ a.length) (hl : a.length ≤ 16777216) : gSl (.p (.str (mkS a))) (some k) none S = .ok (.p (.str (mkS (a.drop k.toNat)))) S := by
  have e : k = (k.toNat : Int) := by omega
  unfold gSl
  simp only [mkS_len, sizeLine_val, hl, if_true]
  rw [e]
  unfold cutS
  simp only [mkS_len, mkS_cps]
  rw [cut_post a k.toNat (by omega)]
  rfl
theorem vSlPre {d : D} {xs : List P} {k : Int} (S : Sto) (hd : ∀ ys, d ≠ .p (.tup ys)) (hd2 : ∀ s, d ≠ .p (.str s)) (h : seqA d S = some xs) (h0 : 0 ≤ k) (h1 : k ≤ xs.length) : gSl d none (some k) S = .ok (.p (.ro (xs.take k.toNat))) S := by
  have e : k = (k.toNat : Int) := by omega
  unfold gSl
  split
  · exact absurd rfl (hd _)
  · exact absurd rfl (hd2 _)
  · rw [h]
    show (R.ok (Cw.D.p (P.ro (cutP xs none (some k)))) S : R Cw.D) = _
    rw [e]
    unfold cutP
    rw [cut_pre xs k.toNat (by omega)]
    rfl
theorem vSlPost {d : D} {xs : List P} {k : Int} (S : Sto) (hd : ∀ ys, d ≠ .p (.tup ys)) (hd2 : ∀ s, d ≠ .p (.str s)) (h : seqA d S = some xs) (h0 : 0 ≤ k) (h1 : k ≤ xs.length) : gSl d (some k) none S = .ok (.p (.ro (xs.drop k.toNat))) S := by
  have e : k = (k.toNat : Int) := by omega
  unfold gSl
  split
  · exact absurd rfl (hd _)
  · exact absurd rfl (hd2 _)
  · rw [h]
    show (R.ok (Cw.D.p (P.ro (cutP xs (some k) none))) S : R Cw.D) = _
    rw [e]
    unfold cutP
    rw [cut_post xs k.toNat (by omega)]
    rfl
@[simp] theorem vAddS (a b : List Nat) (S : Sto) (h : a.length + b.length ≤ 16777216) : gAdd (.p (.str (mkS a))) (.p (.str (mkS b))) S = .ok (.p (.str (mkS (a ++ b)))) S := by
  show (if (mkS a).length + (mkS b).length ≤ sizeLine then R.ok (Cw.D.p (P.str (mkS a ++ mkS b))) S else R.no : R Cw.D) = _
  simp [h]
/-! ### in -/
theorem inList_str (z : Str) : ∀ xs : List Str, inList (.str z) (xs.map P.str) = decide (z ∈ xs)
  | [] => by simp [inList]
  | x :: r => by
    have ih := inList_str z r
    unfold inList at ih ⊢
    rw [List.map_cons, List.any_cons, ih]
    have : P.eqv (.str x) (.str z) = (x == z) := by simp [P.eqv, P.data, PyData.eqv]
    rw [this]
    by_cases e : x = z
    · subst e; simp
    · have e2 : ¬ z = x := fun q => e q.symm
      simp [e, e2]
theorem flat_strs (xs : List Str) : (xs.map P.str).all flatP = true := by
  induction xs with
  | nil => rfl
  | cons x r ih => rw [List.map_cons, List.all_cons, ih]; rfl
theorem vInStrs (neg : Bool) {z : Str} {y : D} {xs : List Str} (S : Sto) (h : itemsA y S = some (xs.map P.str)) (hd : dicL y S = none) (hs : sign1 (.str z) y = none) : gInB neg (.p (.str z)) y S = .ok (.p (.bl (if neg then !decide (z ∈ xs) else decide (z ∈ xs)))) S := by
  unfold gInB
  simp only [hd, hs, h, flat_strs, flatP, Bool.and_self, if_true, inList_str]
theorem vInRo (neg : Bool) (z : Str) (xs : List Str) (S : Sto) : gInB neg (.p (.str z)) (.p (.ro (xs.map P.str))) S = .ok (.p (.bl (if neg then !decide (z ∈ xs) else decide (z ∈ xs)))) S := vInStrs neg S rfl rfl (by unfold sign1; split <;> first | rfl | (rename_i h; cases h))
theorem vInRef (neg : Bool) {z : Str} {n : Nat} {xs : List Str} {S : Sto} (h : S[n]? = some (.lst (xs.map P.str))) : gInB neg (.p (.str z)) (.ref n) S = .ok (.p (.bl (if neg then !decide (z ∈ xs) else decide (z ∈ xs)))) S :=
  vInStrs neg S (by simp [itemsA, seqA, seqL, h]) (by simp [dicL, h]) (by unfold sign1; split <;> first | rfl | (rename_i h; cases h))
theorem vInDic (neg : Bool) {z : Str} {y : D} {kvs : List (Key × P)} (S : Sto) (h : dicL y S = some kvs) : gInB neg (.p (.str z)) y S = .ok (.p (.bl (if neg then !(lookK kvs (.inr z)).isSome else (lookK kvs (.inr z)).isSome))) S := by
  unfold gInB
  simp only [h, keyP]
theorem vIxDic {z : Str} {y : D} {kvs : List (Key × P)} {v : P} (S : Sto) (h : dicL y S = some kvs) (hv : lookK kvs (.inr z) = some v) : gIx y (.p (.str z)) S = .ok (.p v) S := by
  unfold gIx
  simp only [h, keyP, hv]
/-! ### the store -/
theorem get_lt {S : Sto} {n : Nat} {o : Ob} (h : S[n]? = some o) : n < S.length := by
  rcases Nat.lt_or_ge n S.length with q | q
  · exact q
  · rw [List.getElem?_eq_none q] at h; cases h
theorem get_app {S G : Sto} {n : Nat} {o : Ob} (h : S[n]? = some o) : (S ++ G)[n]? = some o := by rw [List.getElem?_append_left (get_lt h)]; exact h
theorem get_new {S : Sto} {o : Ob} : (S ++ [o])[S.length]? = some o := by rw [List.getElem?_append_right (Nat.le_refl _), Nat.sub_self]; rfl
theorem get_set {S : Sto} {n : Nat} {o p : Ob} (h : S[n]? = some p) : (S.set n o)[n]? = some o := List.getElem?_set_self (get_lt h)
theorem get_set_ne {S : Sto} {n m : Nat} {o p : Ob} (h : S[m]? = some p) (hn : n ≠ m) : (S.set n o)[m]? = some p := by rw [List.getElem?_set_ne hn]; exact h
theorem take_set_ge {S : Sto} {n k : Nat} {o : Ob} (h : k ≤ n) : (S.set n o).take k = S.take k := by rw [List.take_set_of_le h]
theorem take_app_le {S G : Sto} {k : Nat} (h : k ≤ S.length) : (S ++ G).take k = S.take k := List.take_append_of_le_length h
end Cw
set_option Elab.async false
set_option linter.all false
set_option maxRecDepth 100000
set_option maxHeartbeats 4000000
/-! Cw17: what a reckoning comes to, and the rules of it. -/
namespace Cw
open L2 PySem

/-- it goes well, and what comes of it is such -/
def Nd {α : Type} (r : R α) (Q : α → Sto → Prop) : Prop := ∃ a S, r = .ok a S ∧ Q a S
theorem Nd.ok {α : Type} {a : α} {S : Sto} {Q : α → Sto → Prop} (h : Q a S) : Nd (.ok a S) Q := ⟨a, S, rfl, h⟩
@[simp] theorem nd_ok {α : Type} {a : α} {S : Sto} {Q : α → Sto → Prop} : Nd (.ok a S) Q ↔ Q a S := ⟨fun ⟨_, _, e, q⟩ => by cases e; exact q, Nd.ok⟩
theorem Nd.bind {α β : Type} {r : R α} {Q : α → Sto → Prop} {k : α → Sto → R β} {Q2 : β → Sto → Prop} (h : Nd r Q) (hk : ∀ a S, Q a S → Nd (k a S) Q2) : Nd (r.bind k) Q2 := by
  obtain ⟨a, S, rfl, q⟩ := h
  exact hk a S q
theorem Nd.mono {α : Type} {r : R α} {Q Q2 : α → Sto → Prop} (h : Nd r Q) (hk : ∀ a S, Q a S → Q2 a S) : Nd r Q2 := by
  obtain ⟨a, S, rfl, q⟩ := h
  exact ⟨a, S, rfl, hk a S q⟩
theorem Nd.of_eq {α : Type} {r : R α} {a : α} {S : Sto} {Q : α → Sto → Prop} (h : r = .ok a S) (q : Q a S) : Nd r Q := ⟨a, S, h, q⟩
theorem forE {α β : Type} {g : CG} {body : CS} {xs0 : List P} {k : Fl → Sto → R β} {Q : β → Sto → Prop} (enc : α → P) (l : List α) (I : List α → Ev → Sto → Prop) : ∀ (post pre : List α) (ρ : Ev) (S : Sto), pre ++ post = l → I pre ρ S →
    (∀ pre x post ρ S, l = pre ++ x :: post → I pre ρ S → Nd (turnF g body (enc x) ρ S) fun f S' => (∃ ρ', f = .nx ρ' ∧ I (pre ++ [x]) ρ' S') ∨ ∃ d, f = .rt d ∧ Nd (k f S') Q) →
    (∀ ρ S, I l ρ S → Nd (k (.nx ρ) S) Q) → Nd ((forL g body none xs0 (post.map enc) ρ S).bind k) Q
  | [], pre, ρ, S, e, h, _, hk => by
    rw [List.append_nil] at e
    subst e
    exact hk ρ S h
  | x :: r, pre, ρ, S, e, h, hs, hk => by
    obtain ⟨f, S', e1, h1⟩ := hs pre x r ρ S e.symm h
    rcases h1 with ⟨ρ', rfl, h2⟩ | ⟨d, rfl, h2⟩
    · rw [List.map_cons, forL_next e1]
      exact forE enc l I r (pre ++ [x]) ρ' S' (by rw [List.append_assoc]; exact e) h2 hs hk
    · rw [List.map_cons, forL_ret e1]
      exact h2
theorem forE0 {α β : Type} {g : CG} {body : CS} {xs0 : List P} {k : Fl → Sto → R β} {Q : β → Sto → Prop} {ρ : Ev} {S : Sto} {enc : α → P} {l : List α} (I : List α → Ev → Sto → Prop) (h : I [] ρ S)
    (hs : ∀ pre x post ρ S, l = pre ++ x :: post → I pre ρ S → Nd (turnF g body (enc x) ρ S) fun f S' => (∃ ρ', f = .nx ρ' ∧ I (pre ++ [x]) ρ' S') ∨ ∃ d, f = .rt d ∧ Nd (k f S') Q)
    (hk : ∀ ρ S, I l ρ S → Nd (k (.nx ρ) S) Q) : Nd ((forL g body none xs0 (l.map enc) ρ S).bind k) Q := forE enc l I l [] ρ S rfl h hs hk
theorem bind_asc {α β γ : Type} (r : R α) (f : α → Sto → R β) (g : β → Sto → R γ) : (r.bind f).bind g = r.bind fun a S => (f a S).bind g := by cases r <;> rfl
theorem bind_pure {α : Type} (r : R α) : r.bind R.ok = r := by cases r <;> rfl
/-- the last statement of a block -/
theorem forE1 {α : Type} {g : CG} {body : CS} {xs0 : List P} {Q : Fl → Sto → Prop} {ρ : Ev} {S : Sto} {enc : α → P} {l : List α} (I : List α → Ev → Sto → Prop) (h : I [] ρ S)
    (hs : ∀ pre x post ρ S, l = pre ++ x :: post → I pre ρ S → Nd (turnF g body (enc x) ρ S) fun f S' => (∃ ρ', f = .nx ρ' ∧ I (pre ++ [x]) ρ' S') ∨ ∃ d, f = .rt d ∧ Q f S')
    (hk : ∀ ρ S, I l ρ S → Q (.nx ρ) S) : Nd (forL g body none xs0 (l.map enc) ρ S) Q := by
  rw [← bind_pure (forL _ _ _ _ _ _ _)]
  exact forE0 I h (fun pre x post ρ S e hI => (hs pre x post ρ S e hI).mono fun f S' q => q.imp_right fun ⟨d, e, q⟩ => ⟨d, e, .ok q⟩) fun ρ S hI => .ok (hk ρ S hI)
theorem rangeE0 {β : Type} {g : CG} {body : CS} {xs0 : List P} {k : Fl → Sto → R β} {Q : β → Sto → Prop} {ρ : Ev} {S : Sto} {n : Nat} (I : Nat → Ev → Sto → Prop) (h : I 0 ρ S)
    (hs : ∀ j ρ S, j < n → I j ρ S → Nd (turnF g body (.int j) ρ S) fun f S' => (∃ ρ', f = .nx ρ' ∧ I (j + 1) ρ' S') ∨ ∃ d, f = .rt d ∧ Nd (k f S') Q)
    (hk : ∀ ρ S, I n ρ S → Nd (k (.nx ρ) S) Q) : Nd ((forL g body none xs0 (rangeP 0 n) ρ S).bind k) Q := by
  have e : rangeP 0 n = (List.range n).map fun j : Nat => P.int (0 + (j : Int)) := rfl
  rw [e]
  refine forE0 (fun pre ρ S => I pre.length ρ S) h (fun pre x post ρ S e hI => ?_) fun ρ S hI => hk ρ S (by rw [List.length_range] at hI; exact hI)
  have hx : x = pre.length ∧ pre.length < n := by
    have e2 : (List.range n)[pre.length]? = some x := by rw [e, List.getElem?_append_right (Nat.le_refl _), Nat.sub_self]; rfl
    have hl : (List.range n).length = pre.length + (post.length + 1) := by rw [e, List.length_append, List.length_cons]
    rw [List.length_range] at hl
    rw [List.getElem?_range (by omega)] at e2
    exact ⟨(Option.some.inj e2).symm, by omega⟩
  obtain ⟨rfl, hn⟩ := hx
  rw [List.length_append, List.length_singleton]
  have := hs pre.length ρ S hn hI
  rw [Int.zero_add]
  exact this
theorem rangeE1 {g : CG} {body : CS} {xs0 : List P} {Q : Fl → Sto → Prop} {ρ : Ev} {S : Sto} {n : Nat} (I : Nat → Ev → Sto → Prop) (h : I 0 ρ S)
    (hs : ∀ j ρ S, j < n → I j ρ S → Nd (turnF g body (.int j) ρ S) fun f S' => (∃ ρ', f = .nx ρ' ∧ I (j + 1) ρ' S') ∨ ∃ d, f = .rt d ∧ Q f S')
    (hk : ∀ ρ S, I n ρ S → Q (.nx ρ) S) : Nd (forL g body none xs0 (rangeP 0 n) ρ S) Q := by
  rw [← bind_pure (forL _ _ _ _ _ _ _)]
  exact rangeE0 I h (fun j ρ S e hI => (hs j ρ S e hI).mono fun f S' q => q.imp_right fun ⟨d, e, q⟩ => ⟨d, e, .ok q⟩) fun ρ S hI => .ok (hk ρ S hI)
/-- a turn that goes on -/
theorem Nd.go {r : R Fl} {I : Ev → Sto → Prop} {J : Fl → Sto → Prop} (h : Nd r fun f S' => ∃ ρ', f = .nx ρ' ∧ I ρ' S') : Nd r fun f S' => (∃ ρ', f = .nx ρ' ∧ I ρ' S') ∨ J f S' := h.mono fun _ _ q => .inl q
/-- a comprehension that only reads -/
theorem compE {β : Type} {g : CG} {e : CE} {xs0 xs : List P} {ρ : Ev} {S : Sto} {k : List P → Sto → R β} {Q : β → Sto → Prop} (f : P → P) (hl : xs.length ≤ 16777216) (h : ∀ x ∈ xs, (g (.p x) ρ S).bind (fun ρ1 S1 => e ρ1 S1) = .ok (.p (f x)) S)
    (hk : Nd (k (xs.map f) S) Q) : Nd ((compL g cYes e none xs0 xs [] ρ S).bind k) Q := by
  rw [compL_map f xs [] (by rw [List.length_nil]; omega) h, bind_okE, List.nil_append]
  exact hk
/-- a comprehension that changes the store on its way -/
theorem compI {β : Type} {g : CG} {e : CE} {xs0 xs : List P} {ρ : Ev} {S : Sto} {k : List P → Sto → R β} {Q : β → Sto → Prop} (I : List P → Sto → Prop) (h : I [] S) (hl : xs.length ≤ 16777216)
    (hs : ∀ x ∈ xs, ∀ acc S, I acc S → Nd ((g (.p x) ρ S).bind fun ρ1 S1 => e ρ1 S1) fun d S2 => ∃ y, d = .p y ∧ I (acc ++ [y]) S2)
    (hk : ∀ ys S', I ys S' → ys.length = xs.length → Nd (k ys S') Q) : Nd ((compL g cYes e none xs0 xs [] ρ S).bind k) Q := by
  obtain ⟨ys, S', e1, h1, h2⟩ := compL_ind (g := g) (e := e) (xs0 := xs0) (ρ := ρ) I xs [] S h (by rw [List.length_nil]; omega) fun x hx acc S hI => by
    obtain ⟨d, S2, e1, y, rfl, h2⟩ := hs x hx acc S hI
    obtain ⟨ρ1, S1, e2, e3⟩ := bind_ok e1
    exact ⟨ρ1, S1, y, S2, e2, e3, h2⟩
  rw [e1, bind_okE]
  exact hk ys S' h1 (by rw [h2, List.length_nil, Nat.zero_add])
theorem leaveE {n : Nat} {r : R Fl} {Q : D → Sto → Prop} (h : Nd r fun f S => match f with | .nx _ => Q (.p .non) (S.take n) | .rt d => Nd (tellD n d S) Q | _ => False) : Nd (leave n r) Q := by
  obtain ⟨f, S, rfl, q⟩ := h
  cases f with
  | nx ρ => exact .ok q
  | rt d => exact q
  | bk _ => exact q.elim
  | ct _ => exact q.elim
theorem tell_new {S G : Sto} {xs : List P} (h : G[0]? = some (.lst xs)) : tellD S.length (.ref S.length) (S ++ G) = .ok (.ref S.length) (S ++ [.lst xs]) := by
  have h2 : (S ++ G)[S.length]? = some (.lst xs) := by rw [List.getElem?_append_right (Nat.le_refl _), Nat.sub_self]; exact h
  simp [tellD, h2]
theorem tell_at {S G : Sto} {m : Nat} {xs : List P} (hm : S.length ≤ m) (h : (S ++ G)[m]? = some (.lst xs)) : tellD S.length (.ref m) (S ++ G) = .ok (.ref S.length) (S ++ [.lst xs]) := by
  simp [tellD, h, Nat.not_lt.mpr hm]
theorem tell_atD {S G : Sto} {m : Nat} {xs : List (Key × P)} (hm : S.length ≤ m) (h : (S ++ G)[m]? = some (.dic xs)) : tellD S.length (.ref m) (S ++ G) = .ok (.ref S.length) (S ++ [.dic xs]) := by
  simp [tellD, h, Nat.not_lt.mpr hm]
theorem frz_new {S : Sto} {xs : List P} : frz S.length (.ref S.length) (S ++ [.lst xs]) = .ok (.p (.ro xs)) S := by simp [frz]
theorem frz_newD {S : Sto} {xs : List (Key × P)} : frz S.length (.ref S.length) (S ++ [.dic xs]) = .ok (.p (.dic xs)) S := by simp [frz]
theorem seqN {A B : CS} {ρ : Ev} {S : Sto} {J : Ev → Sto → Prop} {Q : Fl → Sto → Prop} (h : Nd (A ρ S) fun f S' => ∃ ρ', f = .nx ρ' ∧ J ρ' S') (hk : ∀ ρ' S', J ρ' S' → Nd (B ρ' S') Q) : Nd (sSeq A B ρ S) Q := by
  obtain ⟨f, S', e, ρ', rfl, j⟩ := h
  show Nd ((A ρ S).bind _) Q
  rw [e]
  exact hk ρ' S' j
theorem tabN (ns : List Nat) (d : Nat) (hd : d < ns.length) (S : Sto) : gIx (.p (.ro (ns.map fun x : Nat => P.int (x : Int)))) (.p (.int d)) S = .ok (.p (.int ((ns[d] : Nat) : Int))) S :=
  vIxRo S (by omega) (by rw [Int.toNat_natCast, List.getElem?_map, List.getElem?_eq_getElem hd]; rfl)
theorem vIxRoN {xs : List P} {d : Nat} {x : P} (S : Sto) (h : xs[d]? = some x) : gIx (.p (.ro xs)) (.p (.int d)) S = .ok (.p x) S := vIxRo S (by omega) (by rw [Int.toNat_natCast]; exact h)
theorem vPopAt0 {n : Nat} {x : P} {xs : List P} {S : Sto} (hS : S[n]? = some (.lst (x :: xs))) : gPopAt (.ref n) [.p (.int 0)] S = .ok (.p x) (S.set n (.lst xs)) := by
  simp [gPopAt, onLst, hS, ixN]
theorem cut_take {α : Type} (a : List α) (k : Nat) : (a.drop (HT.sIx a.length 0 none)).take (HT.sIx a.length a.length (some (k : Int)) - HT.sIx a.length 0 none) = a.take k := by
  rcases Nat.le_total k a.length with h | h
  · exact cut_pre a k h
  · rw [HT.sIx_nat, HT.sIx_none, Nat.min_eq_right h, List.drop_zero, Nat.sub_zero, List.take_length, List.take_of_length_le h]
theorem vSlTake {d : D} {xs : List P} {k : Nat} (S : Sto) (hd : ∀ ys, d ≠ .p (.tup ys)) (hd2 : ∀ s, d ≠ .p (.str s)) (h : seqA d S = some xs) : gSl d none (some (k : Int)) S = .ok (.p (.ro (xs.take k))) S := by
  unfold gSl
  split
  · exact absurd rfl (hd _)
  · exact absurd rfl (hd2 _)
  · rw [h]
    show (R.ok (Cw.D.p (P.ro (cutP xs none (some (k : Int))))) S : R Cw.D) = _
    unfold cutP
    rw [cut_take xs k]
theorem vDivB (i j : Int) (S : Sto) (h : 0 < j) (h2 : j ≤ 1000000000000000000000000000000000000000000000000000000000000) : gDiv (.p (.int i)) (.p (.int j)) S = .ok (.p (.int (i / j))) S := by
  have : CDivW i j := wide_div (b := 200) h (by omega) (by omega) (by omega)
  simp [gDiv, gInt, this]
theorem vEqI (i j : Int) (S : Sto) : gEqB false (.p (.int i)) (.p (.int j)) S = .ok (.p (.bl (decide (i = j)))) S := by
  simp [gEqB, nowP, P.dep, P.eqv, P.data, PyData.eqv]
  by_cases h : i = j <;> simp [h]
theorem eqv_str (x z : Str) : P.eqv (.str x) (.str z) = decide (x = z) := by
  have : P.eqv (.str x) (.str z) = (x == z) := by simp [P.eqv, P.data, PyData.eqv]
  rw [this]
  by_cases h : x = z
  · simp [h]
  · simp [h]
theorem vEqS (x z : Str) (S : Sto) : gEqB false (.p (.str x)) (.p (.str z)) S = .ok (.p (.bl (decide (x = z)))) S := by
  simp only [gEqB, nowP, P.dep, Nat.zero_le, and_self, if_true, eqv_str, Bool.false_eq_true, if_false]
end Cw
set_option Elab.async false
set_option linter.all false
set_option maxRecDepth 100000
set_option maxHeartbeats 4000000
/-! Cw18: all(... in ...), dicts by their keys, == of what is like. -/
namespace Cw
open L2
open PySem hiding Run

theorem blsP_map {α : Type} (f : α → Bool) : ∀ xs : List α, blsP (xs.map fun x => P.bl (f x)) = some (xs.map f)
  | [] => rfl
  | x :: r => by rw [List.map_cons, blsP, blsP_map f r]; rfl
/-- all([z in y for z in fs]) -/
theorem all_in {it : CI} {j k : Nat} {ρ : Ev} {S : Sto} {y : D} {fs : List Str} (mem : Str → Bool) (hit : it ρ S = .ok (fs.map P.str, none) S) (hj : j < ρ.length) (hk : k ≠ j) (hy : ρ[k]? = some (some y)) (hl : fs.length ≤ 16777216)
    (hin : ∀ z ∈ fs, gInB false (.p (.str z)) y S = .ok (.p (.bl (mem z))) S) :
    c1 gAll (cCons (cRo (cComp it (gN j) cYes (c2 (gInB false) (cVar j) (cVar k)) [j])) cNil) ρ S = .ok (.p (.bl (fs.all mem))) S := by
  have hc : compL (gN j) cYes (c2 (gInB false) (cVar j) (cVar k)) none (fs.map P.str) (fs.map P.str) [] (wipeE ρ [j]) S = .ok ((fs.map P.str).map fun x => match x with | .str z => P.bl (mem z) | x => x) S := by
    rw [compL_map (fun x => match x with | .str z => P.bl (mem z) | x => x) (fs.map P.str) [] (by rw [List.length_map, List.length_nil]; omega)]
    · rfl
    · intro x hx
      obtain ⟨z, hz, rfl⟩ := List.mem_map.mp hx
      have e1 : cVar j ((wipeE ρ [j]).set j (some (.p (.str z)))) S = .ok (.p (.str z)) S := by
        simp [cVar, wipeE, List.getElem?_set, hj]
      have e2 : cVar k ((wipeE ρ [j]).set j (some (.p (.str z)))) S = .ok y S := by
        simp [cVar, wipeE, List.getElem?_set_ne (Ne.symm hk), hy]
      rw [xgN, bind_okE, x2, e1, bind_okE, e2, bind_okE]
      exact hin z hz
  rw [List.map_map] at hc
  have hb : blsP (fs.map fun z => P.bl (mem z)) = some (fs.map mem) := blsP_map mem fs
  simp only [x1, xCons, xRo, xComp, hit, bind_okE, hc, xNil]
  have := vAllRo S hb
  rw [List.all_map] at this
  exact this
/-! ### dicts -/
def KeyIs (kvs : List (Key × P)) (ks : List Str) : Prop := kvs.map (·.1) = ks.map .inr
theorem lookK_is {z : Str} : ∀ {kvs : List (Key × P)} {ks : List Str}, KeyIs kvs ks → (lookK kvs (.inr z)).isSome = decide (z ∈ ks)
  | [], [], _ => by simp [lookK]
  | kv :: r, k :: ks, h => by
    unfold KeyIs at h
    rw [List.map_cons, List.map_cons, List.cons.injEq] at h
    have ih := lookK_is (z := z) (kvs := r) (ks := ks) h.2
    unfold lookK at ih ⊢
    rw [List.find?_cons]
    by_cases e : kv.1 = (.inr z : Key)
    · rw [h.1] at e
      cases e
      simp [h.1]
    · have e2 : z ≠ k := fun q => e (by rw [h.1, q])
      simp only [e, decide_false, Bool.false_eq_true]
      rw [ih]
      simp [e2]
  | [], _ :: _, h => by cases h
  | _ :: _, [], h => by cases h
theorem KeyIs.len {kvs : List (Key × P)} {ks : List Str} (h : KeyIs kvs ks) : kvs.length = ks.length := by
  have := congrArg List.length h
  rw [List.length_map, List.length_map] at this
  exact this
theorem KeyIs.put {kvs : List (Key × P)} {ks : List Str} (h : KeyIs kvs ks) {z : Str} (hz : z ∉ ks) (v : P) : KeyIs (putP kvs (.inr z) v) (ks ++ [z]) := by
  have hn : ¬ kvs.any (fun kv => decide (kv.1 = (.inr z : Key))) = true := by
    intro q
    obtain ⟨kv, hkv, e⟩ := List.any_eq_true.mp q
    have e := of_decide_eq_true e
    have : kv.1 ∈ kvs.map (·.1) := List.mem_map_of_mem hkv
    rw [h, e] at this
    obtain ⟨w, hw, e2⟩ := List.mem_map.mp this
    cases e2
    exact hz hw
  unfold putP
  rw [if_neg hn]
  unfold KeyIs
  rw [List.map_append, List.map_append, h]
  rfl
theorem KeyIs.merge {kvs : List (Key × P)} {ks : List Str} (h : KeyIs kvs ks) : ∀ {more : List (Key × P)} {ms : List Str}, KeyIs more ms → ms.Nodup → (∀ z ∈ ms, z ∉ ks) → KeyIs (mergeP kvs more) (ks ++ ms)
  | [], [], _, _, _ => by rw [List.append_nil]; exact h
  | kv :: r, m :: ms, q, nd, hd => by
    unfold KeyIs at q
    rw [List.map_cons, List.map_cons, List.cons.injEq] at q
    have nd := List.nodup_cons.mp nd
    have h2 := h.put (hd m List.mem_cons_self) kv.2
    have e : mergeP kvs (kv :: r) = mergeP (putP kvs (.inr m) kv.2) r := by
      unfold mergeP
      rw [List.foldl_cons, q.1]
    rw [e]
    have := h2.merge (more := r) (ms := ms) q.2 nd.2 fun z hz => by
      rw [List.mem_append, List.mem_singleton, not_or]
      exact ⟨hd z (List.mem_cons_of_mem _ hz), fun e => nd.1 (e ▸ hz)⟩
    rw [List.append_assoc] at this
    exact this
  | [], _ :: _, h, _, _ => by cases h
  | _ :: _, [], h, _, _ => by cases h
theorem vSetD {n : Nat} {kvs : List (Key × P)} {z : Str} {y : P} {S : Sto} (hS : S[n]? = some (.dic kvs)) (h : kvs.length < 16777216) : gSet (.ref n) (.p (.str z)) (.p y) S = .ok () (S.set n (.dic (putP kvs (.inr z) y))) := by
  unfold gSet gSetL gSetD
  simp [hS, keyP, h]
theorem vUpdate {n : Nat} {kvs more : List (Key × P)} {S : Sto} (hS : S[n]? = some (.dic kvs)) (h : kvs.length + more.length ≤ 16777216) : gUpdate (.ref n) [.p (.dic more)] S = .ok (.p .non) (S.set n (.dic (mergeP kvs more))) := by
  simp [gUpdate, hS, dicL, unlike, h]
theorem vInKeys (neg : Bool) {z : Str} {y : D} {kvs : List (Key × P)} {ks : List Str} (S : Sto) (h : dicL y S = some kvs) (hk : KeyIs kvs ks) : gInB neg (.p (.str z)) y S = .ok (.p (.bl (if neg then !decide (z ∈ ks) else decide (z ∈ ks)))) S := by
  rw [vInDic neg S h, lookK_is hk]
theorem dic_ref {n : Nat} {kvs : List (Key × P)} {S : Sto} (h : S[n]? = some (.dic kvs)) : dicL (.ref n) S = some kvs := by simp [dicL, h]
/-! ### == of what is like -/
mutual
theorem eqv_self : ∀ x : P, x.dep ≤ 64 → P.eqv x x = true
  | .non, _ => rfl
  | .bl b, _ => by simp [P.eqv, P.data, PyData.eqv]
  | .int i, _ => by simp [P.eqv, P.data, PyData.eqv]
  | .str s, _ => by simp [P.eqv, P.data, PyData.eqv]
  | .tup xs, h => by
    simp only [P.dep] at h
    have := eqvs_self xs (by omega)
    simp only [P.eqv, P.data, PyData.eqv]
    exact this
  | .ro xs, h => by
    simp only [P.dep] at h
    have := eqvs_self xs (by omega)
    simp only [P.eqv, P.data, PyData.eqv]
    exact this
  | .scr xs, h => by
    simp only [P.dep] at h
    have := eqvs_self xs (by omega)
    simp only [P.eqv, P.data, PyData.eqv]
    exact this
  | .dic _, h => by simp only [P.dep] at h; omega
theorem eqvs_self : ∀ xs : List P, P.deps xs ≤ 64 → PyData.eqvAll (P.datas xs) (P.datas xs) = true
  | [], _ => rfl
  | x :: r, h => by
    simp only [P.deps] at h
    have a := eqv_self x (by omega)
    have b := eqvs_self r (by omega)
    unfold P.eqv at a
    simp only [P.datas, PyData.eqvAll, a, b, Bool.and_self]
end
theorem vNeSelf {x : P} (h : x.dep ≤ 64) (S : Sto) : gEqB true (.p x) (.p x) S = .ok (.p (.bl false)) S := by
  simp only [gEqB, nowP, h, and_self, if_true, eqv_self x h, Bool.not_true]
theorem vEqSelf {x : P} (h : x.dep ≤ 64) (S : Sto) : gEqB false (.p x) (.p x) S = .ok (.p (.bl true)) S := by
  simp only [gEqB, nowP, h, and_self, if_true, eqv_self x h, Bool.false_eq_true, if_false]
theorem vNeB (a b : Bool) (S : Sto) : gEqB true (.p (.bl a)) (.p (.bl b)) S = .ok (.p (.bl (!decide (a = b)))) S := by
  cases a <;> cases b <;> rfl
theorem vNeNil {xs : List P} (h : P.deps xs < 64) (S : Sto) : gEqB true (.p (.ro xs)) (.p (.ro [])) S = .ok (.p (.bl (!xs.isEmpty))) S := by
  have h1 : (P.ro xs).dep ≤ 64 := by simp only [P.dep]; omega
  have h2 : (P.ro []).dep ≤ 64 := by simp only [P.dep, P.deps]; omega
  simp only [gEqB, nowP, h1, h2, and_self, if_true]
  cases xs <;> simp [P.eqv, P.data, P.datas, PyData.eqv, PyData.eqvAll]
theorem deps_le {xs : List P} {k : Nat} (h : ∀ x ∈ xs, x.dep ≤ k) : P.deps xs ≤ k := by
  induction xs with
  | nil => simp [P.deps]
  | cons x r ih =>
    have a := h x List.mem_cons_self
    have b := ih fun y hy => h y (List.mem_cons_of_mem _ hy)
    simp only [P.deps]; omega
end Cw
set_option Elab.async false
set_option linter.all false
set_option maxRecDepth 100000
set_option maxHeartbeats 4000000
/-! Cw19: a loop over a dict's keys (the dict locked meanwhile), reversed, copies of dicts, list(dict), is True. -/
namespace Cw
open PySem PySem.Spec PyProof.Rows L2

/-! ### a dict that is locked -/
section
variable {K : PySem.W.Frag} {ι ι' : Lk} {H H' : Hp} {d : Addr} {od : Obj} {kws : List (Key × V)}
theorem rd_lock (hd : H d = some (.dK kws)) {a : Addr} {w : HO} (hw : ∀ o z, w ≠ .frz o z) (h : Rd H a w) : Rd (upd H d (.frz od (.dK kws))) a w := by
  by_cases e : a = d
  · subst e
    rcases h with h | ⟨o, h⟩
    · rw [hd] at h
      cases h
      exact .inr ⟨od, upd_same⟩
    · rw [hd] at h
      cases h
  · rcases h with h | ⟨o, h⟩
    · exact .inl (by rw [upd_ne e]; exact h)
    · exact .inr ⟨o, by rw [upd_ne e]; exact h⟩
theorem rd_unlock (hd : H d = some (.frz od (.dK kws))) {a : Addr} {w : HO} (hw : ∀ o z, w ≠ .frz o z) (h : Rd H a w) : Rd (upd H d (.dK kws)) a w := by
  by_cases e : a = d
  · subst e
    rcases h with h | ⟨o, h⟩
    · rw [hd] at h
      cases h
      exact absurd rfl (hw _ _)
    · rw [hd] at h
      cases h
      exact .inl upd_same
  · rcases h with h | ⟨o, h⟩
    · exact .inl (by rw [upd_ne e]; exact h)
    · exact .inr ⟨o, by rw [upd_ne e]; exact h⟩
/-- readings go over -/
structure Over (H H' : Hp) : Prop where
  tup : ∀ {a : Addr} {vs : List V} {o : Obj}, H a = some (.frz o (.tup vs)) → H' a = some (.frz o (.tup vs))
  lst : ∀ {a : Addr} {vs : List V}, Rd H a (.lst vs) → Rd H' a (.lst vs)
  dK : ∀ {a : Addr} {vs : List (Key × V)}, Rd H a (.dK vs) → Rd H' a (.dK vs)
theorem over_lock (hd : H d = some (.dK kws)) : Over H (upd H d (.frz od (.dK kws))) := ⟨fun {a vs o} h => by
  by_cases e : a = d
  · rw [e, hd] at h; cases h
  · rw [upd_ne e]; exact h, rd_lock hd (fun _ _ z => nomatch z), rd_lock hd (fun _ _ z => nomatch z)⟩
theorem over_unlock (hd : H d = some (.frz od (.dK kws))) : Over H (upd H d (.dK kws)) := ⟨fun {a vs o} h => by
  by_cases e : a = d
  · rw [e, hd] at h; cases h
  · rw [upd_ne e]; exact h, rd_unlock hd (fun _ _ z => nomatch z), rd_unlock hd (fun _ _ z => nomatch z)⟩
theorem Over.tupAt (o : Over H H') {a : Addr} {vs : List V} (h : TupAt K ι H a vs) : TupAt K ι H' a vs := h.imp_left fun ⟨⟨ob, d, q⟩, n⟩ => ⟨⟨ob, d, o.tup q⟩, n⟩
theorem Over.lstAt (o : Over H H') {a : Addr} {vs : List V} (h : LstAt K ι H a vs) : LstAt K ι H' a vs := h.imp_left fun q => ⟨o.lst q.1, q.2⟩
mutual
theorem RP.over (o : Over H H') : ∀ {v : V} {x : P}, RP K ι H v x → RP K ι H' v x
  | _, _, .non => .non
  | _, _, .bl b => .bl b
  | _, _, .int i => .int i
  | _, _, .str s => .str s
  | _, _, .tup h r => .tup (o.tupAt h) (RPs.over o r)
  | _, _, .ro h hn r => .ro (o.lst h) hn (RPs.over o r)
  | _, _, .scr h r => .scr (o.lstAt h) (RPs.over o r)
  | _, _, .dic h hn r => .dic (o.dK h) hn (RKs.over o r)
theorem RPs.over (o : Over H H') : ∀ {v : List V} {x : List P}, RPs K ι H v x → RPs K ι H' v x
  | _, _, .nil => .nil
  | _, _, .cons a r => .cons (RP.over o a) (RPs.over o r)
theorem RKs.over (o : Over H H') : ∀ {v : List (Key × V)} {x : List (Key × P)}, RKs K ι H v x → RKs K ι H' v x
  | _, _, .nil => .nil
  | _, _, .cons a r => .cons (RP.over o a) (RKs.over o r)
end
theorem RD.over (o : Over H H') {v : V} {x : D} (r : RD K ι H v x) : RD K ι H' v x := by
  cases r with
  | p r => exact .p (r.over o)
  | ref e h => exact .ref e h
theorem Wd.over {S : Sto} {w : HO} (o : Over H (upd H d w)) (hd : ¬ ι.has d) (wd : Wd K ι H S) : Wd K ι (upd H d w) S := by
  refine ⟨wd.len, wd.nd, fun n ob h => ?_, fun a ha => ⟨?_, (wd.hd a ha).2⟩⟩
  · have q := wd.ob n ob h
    have ne : ∀ {z : Option (Option Addr)} {a : Addr}, z = ι.ix[n]? → z = some (some a) → a ≠ d := fun {z a} e1 e2 e3 => by
      subst e3
      rw [e2] at e1
      exact hd (.inl (List.mem_of_getElem? e1.symm))
    generalize hz : ι.ix[n]? = z at q
    cases q with
    | lst e r => exact .lst (by rw [upd_ne (ne hz.symm rfl)]; exact e) (r.over o)
    | dic e r => exact .dic (by rw [upd_ne (ne hz.symm rfl)]; exact e) (r.over o)
    | gone => exact .gone
  · by_cases e : a = d
    · subst e; rw [upd_same]; exact fun z => nomatch z
    · rw [upd_ne e]; exact (wd.hd a ha).1
theorem Cf.over {S : Sto} {σ : L2.St} {ρ : Ev} {w : HO} (o : Over H (upd H d w)) (hd : ¬ ι.has d) (cf : Cf K ι H σ ρ S) : Cf K ι (upd H d w) σ ρ S :=
  ⟨cf.wd.over o hd, cf.len, fun i x h => let ⟨v, h1, h2⟩ := cf.sv i x h; ⟨v, h1, h2.over o⟩⟩
/-- what was done while it was locked -/
theorem Step.locked (hd : H d = some (.dK kws)) (hn : ¬ ι.has d) (st : Step ι (upd H d (.frz od (.dK kws))) ι' H') :
    H' d = some (.frz od (.dK kws)) ∧ ¬ ι'.has d ∧ Step ι H ι' (upd H' d (.dK kws)) := by
  have h1 : H' d = some (.frz od (.dK kws)) := st.keep d _ upd_same fun q => hn (.inl q)
  have hnew : ∀ a, some a ∈ ι'.ix → some a ∈ ι.ix ∨ H a = none := fun a ha => by
    rcases st.new a ha with q | q
    · exact .inl q
    · by_cases e : a = d
      · subst e; rw [upd_same] at q; cases q
      · rw [upd_ne e] at q; exact .inr q
  refine ⟨h1, fun q => ?_, st.hid, st.len, st.old, hnew, fun a o h ha => ?_, fun a h => ?_⟩
  · rcases q with q | q
    · rcases hnew d q with z | z
      · exact hn (.inl z)
      · rw [hd] at z; cases z
    · rw [st.hid] at q; exact hn (.inr q)
  · by_cases e : a = d
    · subst e; rw [upd_same, ← h, hd]
    · rw [upd_ne e]
      exact st.keep a o (by rw [upd_ne e]; exact h) ha
  · by_cases e : a = d
    · subst e; rw [upd_same] at h; cases h
    · rw [upd_ne e] at h
      have := st.there a h
      rw [upd_ne e] at this
      exact this
end
/-! ### keys -/
def keyU : Key → P
  | .inl i => .int i
  | .inr s => .str s
def keyOk : Key → Bool
  | .inl _ => true
  | .inr s => PyData.strOk s
def keysP (kvs : List (Key × P)) : List P := kvs.map fun kv => keyU kv.1
theorem keyU_rp {K : PySem.W.Frag} {ι : Lk} {H : Hp} {k : Key} (h : keyOk k = true) : RP K ι H (kV k) (keyU k) := by
  cases k with
  | inl i => exact .int i
  | inr s => exact .str h
theorem RKs.at {K : PySem.W.Frag} {ι : Lk} {H : Hp} : ∀ {ws : List (Key × V)} {xs : List (Key × P)} {i : Nat} {k : Key} {x : P}, RKs K ι H ws xs → xs[i]? = some (k, x) → ∃ v, ws[i]? = some (k, v) ∧ RP K ι H v x
  | _, _, 0, _, _, .cons r _, e => by cases e; exact ⟨_, rfl, r⟩
  | _, _, i + 1, _, _, .cons _ t, e => by rw [List.getElem?_cons_succ] at e ⊢; exact t.at e
  | _, _, _, _, _, .nil, e => by cases e
def cKeys (i : Nat) : CI := fun ρ S => match ρ[i]? with
  | some (some (.p (.dic kvs))) => if kvs.all (fun kv => keyOk kv.1) then .ok (keysP kvs, none) S else .no
  | _ => .no
theorem go_keys {K : PySem.W.Frag} {ι : Lk} {H : Hp} {d : Addr} {o : Obj} {kws : List (Key × V)} {kvs : List (Key × P)} (h : H d = some (.frz o (.dK kws))) (hn : ¬ ι.has d) (r : RKs K ι H kws kvs) (hk : kvs.all (fun kv => keyOk kv.1) = true) :
    Go K (Itk d o kws) ι H (keysP kvs) none := fun ι1 H1 S1 st wd _ => by
  have h1 := st.keep d _ h hn
  have r1 := RKs.monoH st r
  have hl := r1.length
  refine ⟨fun i x e => ?_, h1, by unfold keysP; rw [List.length_map]; exact Nat.le_of_eq hl⟩
  unfold keysP at e
  rw [List.getElem?_map] at e
  obtain ⟨⟨k, y⟩, e1, rfl⟩ := Option.map_eq_some_iff.mp e
  obtain ⟨v, hv, _⟩ := r1.at e1
  have hi : i < kws.length := by
    rcases Nat.lt_or_ge i kws.length with q | q
    · exact q
    · rw [List.getElem?_eq_none q] at hv; cases hv
  refine ⟨⟨h1, hi⟩, fun w H' y => ?_⟩
  obtain ⟨rfl, k2, v2, e2, rfl⟩ := y
  rw [hv] at e2
  cases e2
  exact ⟨.refl _ _, wd, keyU_rp (List.all_eq_true.mp hk _ (List.mem_of_getElem? e1))⟩
section
variable {X : Cx} {tg iter : Expr} {body : List Stmt} {it : CI} {is : List Nat} {g : CG} {cb : CS} {pos : Pos}
def cRev (c : CE) : CI := fun ρ S => (c ρ S).bind fun d S1 => match d with
  | .p (.tup xs) => .ok (xs.reverse, none) S1
  | .p (.ro xs) => .ok (xs.reverse, none) S1
  | .p (.scr xs) => .ok (xs.reverse, none) S1
  | .ref m => match S1[m]? with
    | some (.lst xs) => .ok (xs.reverse, some (m, xs)) S1
    | _ => .no
  | _ => .no
theorem rev_get {α : Type} {xs : List α} {i : Nat} (hi : i < xs.length) : xs.reverse[i]? = xs[xs.length - 1 - i]? := List.getElem?_reverse hi
theorem go_revL {K : PySem.W.Frag} {ι : Lk} {H : Hp} {a : Addr} {n : Nat} {xs : List P} {tr : Option (Nat × List P)} (h : ∀ ι1 H1 S1, StepH ι H ι1 H1 → Wd K ι1 H1 S1 → okT tr xs.reverse S1 = true → ∃ vs, SqL K H1 a vs ∧ RPs K ι1 H1 vs xs) (hn : xs.length = n) : Go K (Itv K a n) ι H xs.reverse tr := fun ι1 H1 S1 st wd ok => by
  obtain ⟨vs, h1, r1⟩ := h ι1 H1 S1 st wd ok
  subst hn
  refine ⟨fun i x e => ?_, by show xs.length ≤ xs.reverse.length; rw [List.length_reverse]; exact Nat.le_refl _⟩
  have hi : i < xs.length := by
    rcases Nat.lt_or_ge i xs.length with q | q
    · exact q
    · rw [List.getElem?_eq_none (by rw [List.length_reverse]; exact q)] at e; cases e
  rw [rev_get hi] at e
  obtain ⟨v, hv, rv⟩ := r1.get e
  refine ⟨⟨hi, vs, v, h1, hv⟩, fun w H' y => ?_⟩
  obtain ⟨e1, y⟩ := y
  subst e1
  have := y vs h1
  rw [hv] at this
  cases this
  exact ⟨.refl _ _, wd, rv⟩
theorem go_revT {K : PySem.W.Frag} {ι : Lk} {H : Hp} {a : Addr} {n : Nat} {vs : List V} {xs : List P} (h : TupAt K ι H a vs) (r : RPs K ι H vs xs) (hn : xs.length = n) : Go K (RT.ItvT K a n) ι H xs.reverse none := fun ι1 H1 S1 st wd _ => by
  have h1 := (h.monoH st).sq
  have r1 := r.monoH st
  subst hn
  refine ⟨fun i x e => ?_, by show xs.length ≤ xs.reverse.length; rw [List.length_reverse]; exact Nat.le_refl _⟩
  have hi : i < xs.length := by
    rcases Nat.lt_or_ge i xs.length with q | q
    · exact q
    · rw [List.getElem?_eq_none (by rw [List.length_reverse]; exact q)] at e; cases e
  rw [rev_get hi] at e
  obtain ⟨v, hv, rv⟩ := r1.get e
  refine ⟨⟨hi, vs, v, h1, hv⟩, fun w H' y => ?_⟩
  obtain ⟨e1, y⟩ := y
  subst e1
  have := y vs h1
  rw [hv] at this
  cases this
  exact ⟨.refl _ _, wd, rv⟩
theorem ri_rev {e : Expr} {ce : CE} {p : Pos} (hg : Gl X "reversed") (hm : X.mg "reversed" = none) (h : PE X e (RdE X.K ce)) (hs : starEach [e] X.env = (false, eval e X.env) :: starEach [] X.env := by rfl) : PI X tg (.Call (.Name "reversed" p) [e] [] pos) (RdI X.K (cRev ce)) :=
  (RT.pi_revA hg hm h hs).weak fun σ H Q ⟨ι, ρ, S, cf, xs, tr, S', e, k⟩ => by
  obtain ⟨d, S1, e1, e2⟩ := bind_ok e
  refine RdE.run cf e1 fun v ι1 H1 st1 cf1 r1 => ?_
  cases d with
  | p x =>
    cases x with
    | tup ys =>
      cases e2
      obtain ⟨a, vs, rfl, h1, q1⟩ := r1.tupD
      exact ⟨a, vs, rfl, .inr ⟨h1.sq, k _ ι1 H1 st1 cf1.wd (go_revT h1 q1 q1.length.symm)⟩⟩
    | ro ys =>
      cases e2
      cases r1 with
      | p r1 =>
        cases r1 with
        | @ro a vs _ h hn q1 => exact ⟨_, vs, rfl, .inl ⟨.inl h, k _ ι1 H1 st1 cf1.wd (go_revL (fun ι2 H2 S2 st2 _ _ => ⟨vs, .inl (st2.rd h hn).1, q1.monoH st2⟩) q1.length.symm)⟩⟩
    | scr ys =>
      cases e2
      cases r1 with
      | p r1 =>
        cases r1 with
        | @scr a vs _ h q1 => exact ⟨_, vs, rfl, .inl ⟨h.sq, k _ ι1 H1 st1 cf1.wd (go_revL (fun ι2 H2 S2 st2 _ _ => ⟨vs, (h.monoH st2).sq, q1.monoH st2⟩) q1.length.symm)⟩⟩
    | _ => cases e2
  | ref m =>
    simp only at e2
    split at e2
    · rename_i ys hy
      cases e2
      obtain ⟨a, vs, rfl, hix, h1, q1⟩ := cf1.wd.lst r1 hy
      refine ⟨a, vs, rfl, .inl ⟨.of h1, k _ ι1 H1 st1 cf1.wd (go_revL (fun ι2 H2 S2 st2 wd2 ok => ?_) q1.length.symm)⟩⟩
      have hS := okT_at ok
      have q := wd2.ob m _ hS
      rcases st2.old m _ hix with e | e
      · rw [e] at q
        cases q with
        | lst e1 r => exact ⟨_, .of e1, r⟩
      · rw [e] at q
        cases q
    · cases e2
def sForK (i : Nat) (g : CG) (b : CS) : CS := sFor (cKeys i) g b
theorem rs_forK {x : Str} {p : Pos} {i : Nat} (hp : PassesOwn (model X.prog X.w) X.A X.env X.xe) (hc : X.calm = true) (hv : PE X (.Name x p) (tVar i)) (hg : PG X tg (RdG X.K is g)) (hb : PSs X body (RdS X.K cb))
    (hs : ∀ y, foldedSetIterable (.Name x p) X.env y = pure y := by intro _; rfl) : PS X (.For tg (.Name x p) body [] pos) (RdS X.K (sForK i g cb)) := by
  have base := ps_for (pos := pos) hp hc (pi_keys hv) hg hb hs
  refine ⟨fun pins s σ H E I h => ?_⟩
  obtain ⟨ι, ρ, S, cf, f, S', e, k⟩ := h
  obtain ⟨⟨xs, tr⟩, S1, e1, e2⟩ := bind_ok e
  unfold cKeys at e1
  split at e1
  · rename_i kvs hi
    split at e1
    · rename_i hk
      cases e1
      obtain ⟨v, hσ, r⟩ := cf.sv i _ hi
      obtain ⟨d, kws, rfl, hd, q⟩ := cf.wd.dct r (d := .p (.dic kvs)) rfl
      have hn : ¬ ι.has d := by
        cases r with
        | p r => cases r with
          | dic _ hn _ => exact hn
      rcases hd with hd | ⟨o, hd⟩
      · refine (ps_lock base).run pins s σ H E I ⟨d, .dK kws, hd, trivial, fun od => ?_⟩
        have ov := over_lock (od := od) hd
        refine ⟨.ref d, hσ, d, od, rfl, .inl ⟨kws, upd_same, ?_⟩⟩
        refine for_go (cf.over ov hn) (go_keys upd_same hn (RKs.over ov q) hk) ⟨f, S', e2, ?_⟩
        cases f with
        | nx ρ' => exact fun σ' ι' H' st cf' => let ⟨a, b, c⟩ := st.locked hd hn; ⟨a, k σ' ι' _ c (cf'.over (over_unlock a) b)⟩
        | rt d => exact fun v ι' H' st wd r => let ⟨a, b, c⟩ := st.locked hd hn; ⟨a, k v ι' _ c (wd.over (over_unlock a) b) (r.over (over_unlock a))⟩
        | bk ρ' => exact fun σ' ι' H' st cf' => let ⟨a, b, c⟩ := st.locked hd hn; ⟨a, k σ' ι' _ c (cf'.over (over_unlock a) b)⟩
        | ct ρ' => exact fun σ' ι' H' st cf' => let ⟨a, b, c⟩ := st.locked hd hn; ⟨a, k σ' ι' _ c (cf'.over (over_unlock a) b)⟩
      · refine base.run pins s σ H E I ⟨.ref d, hσ, d, o, rfl, .inl ⟨kws, hd, for_go cf (go_keys hd hn q hk) ⟨f, S', e2, k⟩⟩⟩
    · cases e1
  · cases e1
end
end Cw
set_option Elab.async false
set_option linter.all false
set_option maxRecDepth 100000
set_option maxHeartbeats 4000000
/-! Cw20: is True, dict(d), list(d), zip, enumerate. -/
namespace Cw
open PySem PySem.Spec PyProof.Rows L2

section
variable {X : Cx} {a b e tg : Expr} {ca cb ce : CE} {p pos : Pos}
/-! ### is True -/
def gIsB (neg : Bool) : D → D → Sto → R D
  | .p (.bl x), .p (.bl y), S => .ok (.p (.bl (if neg then !decide (x = y) else decide (x = y)))) S
  | _, _, _ => .no
theorem isB_ways (neg : Bool) (x y : D) (S : Sto) (d : D) (S' : Sto) (e : gIsB neg x y S = .ok d S') : ∃ r, OpR X (compareOp (if neg then .IsNot else .Is)) r ∧ Lk2 X.K r (gIsB neg) x y S := by
  unfold gIsB at e
  split at e
  · rename_i x y _
    cases neg with
    | false =>
      refine ⟨_, op_is_bl, fun ι H v w d S' Q wd r1 r2 e k => ?_⟩
      cases e
      cases r1.blD; cases r2.blD
      exact ⟨_, _, rfl, rfl, k _ ι H (.refl _ _) wd (.p (.bl _))⟩
    | true =>
      refine ⟨_, op_isnot_bl, fun ι H v w d S' Q wd r1 r2 e k => ?_⟩
      cases e
      cases r1.blD; cases r2.blD
      exact ⟨_, _, rfl, rfl, k _ ι H (.refl _ _) wd (.p (.bl _))⟩
  · cases e
theorem re_isB (ha : PE X a (RdE X.K ca)) (hb : PE X b (RdE X.K cb)) : PE X (.Compare a [.Is] [b] pos) (RdE X.K (c2 (gIsB false) ca cb)) := re2 (cmp_ways (nomark _) (isB_ways false)).1 ha hb
theorem re_isntB (ha : PE X a (RdE X.K ca)) (hb : PE X b (RdE X.K cb)) : PE X (.Compare a [.IsNot] [b] pos) (RdE X.K (c2 (gIsB true) ca cb)) := re2 (cmp_ways (nomark _) (isB_ways true)).1 ha hb
theorem rt_isB (ha : PE X a (RdE X.K ca)) (hb : PE X b (RdE X.K cb)) : PT X (.Compare a [.Is] [b] pos) (RdT X.K (cT (c2 (gIsB false) ca cb))) := rt2 (cmp_ways (nomark _) (isB_ways false)).2 ha hb
theorem rt_isntB (ha : PE X a (RdE X.K ca)) (hb : PE X b (RdE X.K cb)) : PT X (.Compare a [.IsNot] [b] pos) (RdT X.K (cT (c2 (gIsB true) ca cb))) := rt2 (cmp_ways (nomark _) (isB_ways true)).2 ha hb
/-! ### dict(d) -/
def cDCopy (c : CE) : CD := fun ρ S => (c ρ S).bind fun d S1 => match dicL d S1 with
  | some kvs => .ok kvs S1
  | none => .no
theorem rd_copy {x : Str} (hg : Gl X x) (hm : X.mg x = none) (hv : bootBuiltins x = some (.type "dict")) (ha : PE X e (RdE X.K ca)) (hn : x ≠ "__name__" := by decide) (hdb : (x == ("__debug__" : Str)) = false := by decide)
    (he : starEach (e :: []) X.env = (false, eval e X.env) :: starEach [] X.env := by rfl) (hpl : (backTo pos (starEach [] X.env)).any (·.1) = false := by rfl) : PE X (.Call (.Name x p) [e] [] pos) (RdD X.K (cDCopy ca)) :=
  (pe_callTy call_dictD hg hm hv (pa_cons ha pa_nil he) hn hdb he hpl).weak fun σ H Q ⟨ι, ρ, S, cf, d, S', e, k⟩ => by
    obtain ⟨x, S1, e1, e2⟩ := bind_ok e
    refine RdE.run cf e1 fun v ι1 H1 st1 cf1 r1 => ?_
    split at e2
    · rename_i xs hx
      cases e2
      obtain ⟨a, vs, rfl, h1, q1⟩ := cf1.wd.dct r1 hx
      exact ⟨a, vs, rfl, h1, PostD.intro st1 cf1.wd q1 rfl k⟩
    · cases e2
/-! ### list(d) -/
theorem RKs.keys {K : PySem.W.Frag} {ι : Lk} {H : Hp} : ∀ {ws : List (Key × V)} {xs : List (Key × P)}, RKs K ι H ws xs → xs.all (fun kv => keyOk kv.1) = true → RPs K ι H (ws.map fun kv => kV kv.1) (keysP xs)
  | _, _, .nil, _ => .nil
  | _, _, .cons (k := k) r t, h => by
    rw [List.all_cons, Bool.and_eq_true] at h
    exact .cons (keyU_rp h.1) (t.keys h.2)
def nKeys (c : CE) : CN := fun ρ S => (c ρ S).bind fun d S1 => match dicL d S1 with
  | some kvs => if kvs.all (fun kv => keyOk kv.1) then .ok (keysP kvs) S1 else .no
  | none => .no
theorem rn_keys {x : Str} (hc : X.calm = true) (hg : Gl X x) (hm : X.mg x = none) (hv : bootBuiltins x = some (.type "list")) (ha : PE X e (RdE X.K ca)) (hn : x ≠ "__name__" := by decide) (hdb : (x == ("__debug__" : Str)) = false := by decide)
    (he : starEach (e :: []) X.env = (false, eval e X.env) :: starEach [] X.env := by rfl) (hpl : (backTo pos (starEach [] X.env)).any (·.1) = false := by rfl) : PE X (.Call (.Name x p) [e] [] pos) (RdN X.K (nKeys ca)) :=
  (pe_callTy (call_listD hc) hg hm hv (pa_cons ha pa_nil he) hn hdb he hpl).weak fun σ H Q ⟨ι, ρ, S, cf, d, S', e, k⟩ => by
    obtain ⟨x, S1, e1, e2⟩ := bind_ok e
    refine RdE.run cf e1 fun v ι1 H1 st1 cf1 r1 => ?_
    split at e2
    · rename_i kvs hx
      split at e2
      · rename_i hk
        cases e2
        obtain ⟨a, vs, rfl, h1, q1⟩ := cf1.wd.dct r1 hx
        exact ⟨a, vs, rfl, h1, PostN.intro st1 cf1.wd (q1.keys hk) rfl k⟩
      · cases e2
    · cases e2
/-! ### pairs on the way -/
theorem pair_new {K : PySem.W.Frag} {ι : Lk} {H : Hp} {S : Sto} {T : Addr} {vs : List V} {xs : List P} {o : Obj} (wd : Wd K ι H S) (hT : H T = none) (hd : o.dict = none) (r : RPs K ι H vs xs) : Step ι H ι (upd H T (.frz o (.tup vs))) ∧ Wd K ι (upd H T (.frz o (.tup vs))) S ∧ RP K ι (upd H T (.frz o (.tup vs))) (.ref T) (.tup xs) :=
  ⟨Step.new1 wd hT _, wd.new1 hT _, .tup (TupAt.new wd hT hd) (r.mono (Step.new1 wd hT _))⟩
/-- a tuple, a list that stands -/
def seqXP : D → Option (Bool × List P)
  | .p (.tup xs) => some (true, xs)
  | .p (.ro xs) => some (false, xs)
  | _ => none
def StX (t : Bool) (K : PySem.W.Frag) (ι : Lk) (H : Hp) (a : Addr) (vs : List V) : Prop := match t with
  | false => Rd H a (.lst vs) ∧ ¬ ι.has a
  | true => TupAt K ι H a vs
theorem StX.sq {t : Bool} {K : PySem.W.Frag} {ι : Lk} {H : Hp} {a : Addr} {vs : List V} (h : StX t K ι H a vs) : SqX t K H a vs := by
  cases t with
  | false => exact .inl h.1
  | true => exact TupAt.sq h
theorem StX.monoH {t : Bool} {K : PySem.W.Frag} {ι ι' : Lk} {H H' : Hp} {a : Addr} {vs : List V} (st : StepH ι H ι' H') (h : StX t K ι H a vs) : StX t K ι' H' a vs := by
  cases t with
  | false => exact st.rd h.1 h.2
  | true => exact TupAt.monoH st h
theorem seqXD {K : PySem.W.Frag} {ι : Lk} {H : Hp} {v : V} {d : D} {t : Bool} {xs : List P} (r : RD K ι H v d) (e : seqXP d = some (t, xs)) : ∃ a vs, v = .ref a ∧ StX t K ι H a vs ∧ RPs K ι H vs xs := by
  unfold seqXP at e
  split at e
  · cases e
    exact r.tupD
  · cases e
    cases r with
    | p r =>
      cases r with
      | ro h n q => exact ⟨_, _, rfl, ⟨h, n⟩, q⟩
  · cases e
def zipP (xs ys : List P) : List P := List.zipWith (fun x y => P.tup [x, y]) xs ys
def cZip (a b : CE) : CI := fun ρ S => (a ρ S).bind fun x S1 => (b ρ S1).bind fun y S2 => match seqXP x, seqXP y with
  | some (t, xs), some (u, ys) => if t = u then .ok (zipP xs ys, none) S2 else .no
  | _, _ => .no
theorem zip_at {xs ys : List P} {i : Nat} {z : P} (e : (zipP xs ys)[i]? = some z) : ∃ x y, xs[i]? = some x ∧ ys[i]? = some y ∧ z = .tup [x, y] := by
  unfold zipP at e
  rw [List.getElem?_zipWith] at e
  cases hx : xs[i]? with
  | none => rw [hx] at e; cases e
  | some x =>
    cases hy : ys[i]? with
    | none => rw [hx, hy] at e; cases e
    | some y =>
      rw [hx, hy] at e
      cases e
      exact ⟨x, y, rfl, rfl, rfl⟩
theorem zip_len (xs ys : List P) : (zipP xs ys).length = min xs.length ys.length := List.length_zipWith
theorem zip_okE {x y : D} {S S' : Sto} {z : List P × Option (Nat × List P)} (e : (match seqXP x, seqXP y with
  | some (t, xs), some (u, ys) => if t = u then .ok (zipP xs ys, none) S else .no
  | _, _ => .no : R (List P × Option (Nat × List P))) = .ok z S') : ∃ t xs ys, seqXP x = some (t, xs) ∧ seqXP y = some (t, ys) ∧ z = (zipP xs ys, none) ∧ S' = S := by
  split at e
  · split at e
    · rename_i h
      cases e
      subst h
      exact ⟨_, _, _, by assumption, by assumption, rfl, rfl⟩
    · cases e
  · cases e
theorem ri_zip {elts : List Expr} {kk : Nat} {tpos : Pos} (hg : Gl X "zip") (hm : X.mg "zip" = none) (ha : PE X a (RdE X.K ca)) (hb : PE X b (RdE X.K cb))
    (hs : starEach [a, b] X.env = (false, eval a X.env) :: starEach [b] X.env := by rfl) (hs2 : starEach (b :: []) X.env = (false, eval b X.env) :: starEach [] X.env := by rfl) (hpl : (backTo pos (starEach [b] X.env)).any (·.1) = false := by rfl) :
    PI X (.Tuple elts kk tpos) (.Call (.Name "zip" p) [a, b] [] pos) (RdI X.K (cZip ca cb)) := by
  have pa := pa_cons ha (pa_cons hb pa_nil hs2) hs
  refine (PI.orr (pi_zipX false hg hm pa hs hpl) (pi_zipX true hg hm pa hs hpl)).weak fun σ H Q ⟨ι, ρ, S, cf, xs, tr, S', e, k⟩ => ?_
  obtain ⟨x, S1, e1, e2⟩ := bind_ok e
  obtain ⟨y, S2, e3, e4⟩ := bind_ok e2
  obtain ⟨t, ps, qs, hx, hy, ez, rfl⟩ := zip_okE e4
  cases ez
  have key : iZipX t X.K (tCons (RdE X.K ca) (tCons (RdE X.K cb) tNil)) σ H Q := by
    refine RdE.run cf e1 fun v ι1 H1 st1 cf1 r1 => RdE.run cf1 e3 fun w ι2 H2 st2 cf2 r2 => ?_
    have r1 := r1.mono st2
    have st := st1.trans st2
    obtain ⟨a, vs, rfl, h1, q1⟩ := seqXD r1 hx
    obtain ⟨b, ws, rfl, h2, q2⟩ := seqXD r2 hy
    refine ⟨a, b, vs, ws, rfl, h1.sq, h2.sq, k _ ι2 H2 st cf2.wd fun ι3 H3 S3 st3 wd3 _ => ?_⟩
    have g1 := (h1.monoH st3).sq
    have g2 := (h2.monoH st3).sq
    have p1 := q1.monoH st3
    have p2 := q2.monoH st3
    refine ⟨fun i z e => ?_, ⟨vs, ws, g1, g2, ?_⟩⟩
    · obtain ⟨x, y, hx, hy, rfl⟩ := zip_at e
      obtain ⟨v, hv, rv⟩ := p1.get hx
      obtain ⟨w, hw, rw'⟩ := p2.get hy
      refine ⟨⟨vs, ws, v, w, g1, g2, hv, hw⟩, fun u H' ⟨T, o, v2, w2, eu, hT, hd, eH, y1, y2⟩ => ?_⟩
      subst eu eH
      have := y1 vs g1
      rw [hv] at this
      cases this
      have := y2 ws g2
      rw [hw] at this
      cases this
      exact pair_new wd3 hT hd (.cons rv (.cons rw' .nil))
    · rw [zip_len, p1.length, p2.length]; omega
  cases t with
  | false => exact .inl key
  | true => exact .inr key
end
end Cw
set_option Elab.async false
set_option linter.all false
set_option maxRecDepth 100000
set_option maxHeartbeats 4000000
/-! Cw21: loops over a list of the store; more that is reckoned with. -/
namespace Cw
open L2
open PySem hiding Run
theorem okT_self {m : Nat} {xs ys : List P} {S : Sto} (h : S[m]? = some (.lst ys)) : okT (some (m, ys)) xs S = true := by
  unfold okT
  simp only [h]
  exact beqs_rfl ys
theorem forT {α β : Type} {g : CG} {body : CS} {tr : Option (Nat × List P)} {xs0 : List P} {k : Fl → Sto → R β} {Q : β → Sto → Prop} (enc : α → P) (l : List α) (I : List α → Ev → Sto → Prop) (hok : ∀ pre ρ S, I pre ρ S → okT tr xs0 S = true) : ∀ (post pre : List α) (ρ : Ev) (S : Sto), pre ++ post = l → I pre ρ S →
    (∀ pre x post ρ S, l = pre ++ x :: post → I pre ρ S → Nd (turnF g body (enc x) ρ S) fun f S' => (∃ ρ', f = .nx ρ' ∧ I (pre ++ [x]) ρ' S') ∨ ∃ d, f = .rt d ∧ Nd (k f S') Q) →
    (∀ ρ S, I l ρ S → Nd (k (.nx ρ) S) Q) → Nd ((forL g body tr xs0 (post.map enc) ρ S).bind k) Q
  | [], pre, ρ, S, e, h, _, hk => by
    rw [List.append_nil] at e
    subst e
    rw [List.map_nil]
    unfold forL
    rw [if_pos (hok _ _ _ h)]
    exact hk ρ S h
  | x :: r, pre, ρ, S, e, h, hs, hk => by
    obtain ⟨f, S', e1, h1⟩ := hs pre x r ρ S e.symm h
    obtain ⟨ρ1, S1, e2, e3⟩ := bind_ok e1
    rw [List.map_cons]
    unfold forL
    rw [if_pos (hok _ _ _ h), e2, bind_okE, e3, bind_okE]
    rcases h1 with ⟨ρ', rfl, h2⟩ | ⟨d, rfl, h2⟩
    · exact forT enc l I hok r (pre ++ [x]) ρ' S' (by rw [List.append_assoc]; exact e) h2 hs hk
    · exact h2
theorem forT0 {α β : Type} {g : CG} {body : CS} {tr : Option (Nat × List P)} {xs0 : List P} {k : Fl → Sto → R β} {Q : β → Sto → Prop} {ρ : Ev} {S : Sto} {enc : α → P} {l : List α} (I : List α → Ev → Sto → Prop) (hok : ∀ pre ρ S, I pre ρ S → okT tr xs0 S = true) (h : I [] ρ S)
    (hs : ∀ pre x post ρ S, l = pre ++ x :: post → I pre ρ S → Nd (turnF g body (enc x) ρ S) fun f S' => (∃ ρ', f = .nx ρ' ∧ I (pre ++ [x]) ρ' S') ∨ ∃ d, f = .rt d ∧ Nd (k f S') Q)
    (hk : ∀ ρ S, I l ρ S → Nd (k (.nx ρ) S) Q) : Nd ((forL g body tr xs0 (l.map enc) ρ S).bind k) Q := forT enc l I hok l [] ρ S rfl h hs hk
@[simp] theorem xKeys (i : Nat) (ρ : Ev) (S : Sto) (kvs : List (Key × P)) (h : ρ[i]? = some (some (.p (.dic kvs)))) (hk : kvs.all (fun kv => keyOk kv.1) = true) : cKeys i ρ S = .ok (keysP kvs, none) S := by
  simp only [cKeys, h, hk, if_true]
theorem vRevRef {c : CE} {ρ : Ev} {S S1 : Sto} {m : Nat} {xs : List P} (h : c ρ S = .ok (.ref m) S1) (hS : S1[m]? = some (.lst xs)) : cRev c ρ S = .ok (xs.reverse, some (m, xs)) S1 := by
  simp only [cRev, h, bind_okE, hS]
@[simp] theorem vIntsSum (is : List Int) (S : Sto) : gSum [.p (.ro (is.map .int))] S = .ok (.p (.int is.sum)) S := by
  have h : ∀ is : List Int, intsP (is.map .int) = some is := fun is => by
    induction is with
    | nil => rfl
    | cons x r ih => rw [List.map_cons, intsP, ih]; rfl
  simp [gSum, gIntsOf, seqA, seqL, h]
theorem compT {α : Type} {g : CG} {e : CE} {xs0 : List P} {ρ : Ev} (enc : α → P) (l : List α) (hl : l.length ≤ 16777216) (I : List α → List P → Sto → Prop)
    (hs : ∀ pre x post acc S, l = pre ++ x :: post → I pre acc S → ∃ ρ1 S1 y S2, g (.p (enc x)) ρ S = .ok ρ1 S1 ∧ e ρ1 S1 = .ok (.p y) S2 ∧ I (pre ++ [x]) (acc ++ [y]) S2) : ∀ (post pre : List α) (acc : List P) (S : Sto), pre ++ post = l → acc.length = pre.length → I pre acc S →
    ∃ ys S', compL g cYes e none xs0 (post.map enc) acc ρ S = .ok ys S' ∧ I l ys S'
  | [], pre, acc, S, e1, _, h => by
    rw [List.append_nil] at e1
    subst e1
    exact ⟨acc, S, by simp [compL], h⟩
  | x :: r, pre, acc, S, e1, ha, h => by
    obtain ⟨ρ1, S1, y, S2, e2, e3, h2⟩ := hs pre x r acc S e1.symm h
    have hlt : acc.length < sizeLine := by
      rw [sizeLine_eq, ha]
      rw [← e1, List.length_append, List.length_cons] at hl
      omega
    obtain ⟨ys, S', e4, h4⟩ := compT (g := g) (e := e) (xs0 := xs0) (ρ := ρ) enc l hl I hs r (pre ++ [x]) (acc ++ [y]) S2 (by rw [List.append_assoc]; exact e1) (by rw [List.length_append, List.length_append, ha]; rfl) h2
    refine ⟨ys, S', ?_, h4⟩
    rw [List.map_cons]
    simp only [compL, okT, if_true, e2, bind_okE, xYes, e3, hlt, e4]
end Cw
set_option Elab.async false
set_option linter.all false
set_option maxRecDepth 100000
set_option maxHeartbeats 4000000
/-! Cw22: join, enumerate, dict(pairs). -/
namespace Cw
open PySem PySem.Spec PyProof.Rows L2

/-! ### s.join(xs) -/
theorem RPs.strs' {K : PySem.W.Frag} {ι : Lk} {H : Hp} : ∀ {vs : List V} {xs : List P} {ys : List Str}, RPs K ι H vs xs → strsP xs = some ys → vs = ys.map V.str
  | _, _, _, .nil, e => by cases e; rfl
  | _, _, _, .cons r t, e => by
    cases r with
    | str _ =>
      simp only [strsP, Option.map_eq_some_iff] at e
      obtain ⟨zs, h, rfl⟩ := e
      rw [t.strs' h]; rfl
    | _ => cases e
def gJoin : D → List D → Sto → R D := fun x ds S => match x, ds with
  | .p (.str a), [d] => match (itemsA d S).bind strsP with
    | some ys => if ((ys.map (·.length)).sum + ys.length * a.length ≤ 16777216) ∧ PyData.strOk (Txt.join a ys) = true then .ok (.p (.str (Txt.join a ys))) S else .no
    | none => .no
  | _, _ => .no
theorem gJoin_ok {x : D} {ds : List D} {S S' : Sto} {d : D} (e : gJoin x ds S = .ok d S') : ∃ a d0 ys, x = .p (.str a) ∧ ds = [d0] ∧ (itemsA d0 S).bind strsP = some ys ∧ (ys.map (·.length)).sum + ys.length * a.length ≤ 16777216 ∧ PyData.strOk (Txt.join a ys) = true ∧ d = .p (.str (Txt.join a ys)) ∧ S' = S := by
  unfold gJoin at e
  split at e
  · split at e
    · rename_i h
      split at e
      · rename_i hc
        cases e
        exact ⟨_, _, _, rfl, rfl, h, hc.1, hc.2, rfl, rfl⟩
      · cases e
    · cases e
  · cases e
theorem w_join {X : Cx} : WaysM X "str.join" gJoin := fun x ds S d S' e => by
  refine ⟨_, mt_join, fun ι H v vs d S' Q wd r1 r2 e k => ?_⟩
  obtain ⟨a, d0, ys, rfl, rfl, hy, hz, ho, rfl, rfl⟩ := gJoin_ok e
  obtain ⟨xs, hx, hs⟩ := Option.bind_eq_some_iff.mp hy
  obtain ⟨rfl, _⟩ := r1.strD
  obtain ⟨w, rfl, rw'⟩ := r2.one
  obtain ⟨p, us, rfl, h, q⟩ := wd.items rw' hx
  have := q.strs' hs
  subst this
  exact ⟨a, p, ys, rfl, rfl, h, hz, k _ ι H (.refl _ _) wd (.p (.str ho))⟩
/-! ### enumerate(xs) -/
def enumP (xs : List P) : List P := xs.zipIdx.map fun z => P.tup [.int (z.2 : Nat), z.1]
def cEnum (c : CE) : CI := fun ρ S => (c ρ S).bind fun d S1 => match seqXP d with
  | some (_, xs) => .ok (enumP xs, none) S1
  | _ => .no
theorem enum_at {xs : List P} {i : Nat} {z : P} (e : (enumP xs)[i]? = some z) : ∃ x, xs[i]? = some x ∧ z = .tup [.int (i : Nat), x] := by
  unfold enumP at e
  rw [List.getElem?_map, List.getElem?_zipIdx] at e
  cases hx : xs[i]? with
  | none => rw [hx] at e; cases e
  | some x =>
    rw [hx] at e
    simp at e
    exact ⟨x, rfl, e.symm⟩
section
variable {X : Cx} {e : Expr} {ce : CE} {p pos : Pos}
theorem ri_enum {elts : List Expr} {kk : Nat} {tpos : Pos} (hg : Gl X "enumerate") (hm : X.mg "enumerate" = none) (h : PE X e (RdE X.K ce)) (hs : starEach [e] X.env = [(false, eval e X.env)] := by rfl) (hs1 : starEach (e :: []) X.env = (false, eval e X.env) :: starEach [] X.env := by rfl) :
    PI X (.Tuple elts kk tpos) (.Call (.Name "enumerate" p) [e] [] pos) (RdI X.K (cEnum ce)) := by
  have pa := pa_cons h pa_nil hs1
  refine (PI.orr (pi_enumX false hg hm pa hs) (pi_enumX true hg hm pa hs)).weak fun σ H Q ⟨ι, ρ, S, cf, xs, tr, S', e, k⟩ => ?_
  obtain ⟨d, S1, e1, e2⟩ := bind_ok e
  have key : ∀ t ys, seqXP d = some (t, ys) → iEnumX t X.K (tCons (RdE X.K ce) tNil) σ H Q := fun t ys hd => by
    rw [hd] at e2
    cases e2
    refine RdE.run cf e1 fun v ι1 H1 st1 cf1 r1 => ?_
    obtain ⟨a, vs, rfl, h1, q1⟩ := seqXD r1 hd
    refine ⟨a, vs, rfl, h1.sq, k _ ι1 H1 st1 cf1.wd fun ι3 H3 S3 st3 wd3 _ => ?_⟩
    have g1 := (h1.monoH st3).sq
    have p1 := q1.monoH st3
    refine ⟨fun i z e => ?_, ⟨vs, g1, by unfold enumP; rw [List.length_map, List.length_zipIdx, p1.length]⟩⟩
    obtain ⟨x, hx, rfl⟩ := enum_at e
    obtain ⟨v, hv, rv⟩ := p1.get hx
    refine ⟨⟨vs, v, g1, hv⟩, fun u H' ⟨T, o, v2, eu, hT, hd, eH, y1⟩ => ?_⟩
    subst eu eH
    have := y1 vs g1
    rw [hv] at this
    cases this
    exact pair_new wd3 hT hd (.cons (.int _) (.cons rv .nil))
  cases hd : seqXP d with
  | none => rw [hd] at e2; cases e2
  | some z =>
    obtain ⟨t, ys⟩ := z
    cases t with
    | false => exact .inl (key _ _ hd)
    | true => exact .inr (key _ _ hd)
end
end Cw
set_option Elab.async false
set_option linter.all false
set_option maxRecDepth 100000
set_option maxHeartbeats 4000000
/-! Cw23: xs[a:c] = ys, c beyond the end or not. -/
namespace Cw
open PySem PySem.Spec PyProof.Rows L2

theorem cut_bounds {a c n : Nat} (h : a ≤ n) (hac : a ≤ c) : sliceBounds (some (a : Int)) (some (c : Int)) none n = ((a : Int), ((min c n : Nat) : Int), 1) := by
  have e1 : ¬ ((a : Int) < 0) := by omega
  have e2 : ¬ ((c : Int) < 0) := by omega
  simp only [sliceBounds, Option.getD_none, e1, e2, if_false, show (1 : Int) > 0 by decide, if_true]
  have h1 : max 0 (min (a : Int) (n : Int)) = (a : Int) := by omega
  have h2 : max 0 (min (c : Int) (n : Int)) = ((min c n : Nat) : Int) := by omega
  rw [h1, h2]
section
variable {prog : Program} {w : World} {A : Around} {E : Value → Shared → Prop} {s : Shared}
theorem put_cut {l b sl : Addr} {xs ys : Array Value} {n m : Nat} {vl vu : Value} {a c : Nat} {Q : Unit → Shared → Prop} (e : s.heap.get? l = some { cls := .type "list", data := .seq xs n }) (e2 : s.heap.get? b = some { cls := .type "list", data := .seq ys m }) (hne : l ≠ b)
    (hs : s.heap.IsSliceOf sl vl vu .none) (pl : IsPart vl (some (a : Int))) (pu : IsPart vu (some (c : Int))) (ha : a ≤ xs.size) (hac : a ≤ c) (hsz : xs.size + ys.size ≤ sizeLine)
    (h : Q () { s with heap := s.heap.update l (Obj.mapSeq fun zs => zs.extract 0 a ++ ys ++ zs.extract (min c xs.size) zs.size) }) : wpAny (model prog w) A (setItem (.ref l) (.ref sl) (.ref b)) Q E s := by
  obtain ⟨os, hos, hcs, hds⟩ := id hs
  have hT : s.TypeIs (.ref sl) "slice" := ⟨os, hos, hcs⟩
  have hl := PySem.IsL.isList e
  have hb := PySem.IsL.isList e2
  have hsame : Builtin.List.listSameRef (.ref l) (.ref b) = false := beq_eq_false_iff_ne.mpr hne
  have hmax : (max (a : Int) ((min c xs.size : Nat) : Int)).toNat = min c xs.size := by omega
  unfold setItem
  try with_reducible refine wpAny_holding ?_
  first | refine wpAny_bind (wpAny_pure ?_) | skip
  refine wpAny_bind (wpAny_sequenceKey hl.typeIs (by decide) (wpAny_bind (wpAny_callSpecial?_slot (name := Str.ofString "__setitem__") hl.typeIs slot_list_setitem (wpAny_call_entry slot_list_setitem hl.typeIs entry_list_setitem ?_ (args_list_setitem _ _ _)))))
  show wpAny _ _ (Builtin.List.listSubscript? (.ref sl) >>= _) _ _ s
  refine wpAny_bind ?_
  unfold Builtin.List.listSubscript?
  refine wpAny_bind (wpAny_specialOf hT slice_no_index ?_)
  simp only [Option.isNone_none, if_true]
  refine wpAny_pure ?_
  show wpAny _ _ (typeOf (.ref sl) >>= _) _ _ s
  refine wpAny_bind (wpAny_typeOf hT ?_)
  rw [if_neg (by decide), listSliceParts_eq]
  have nostep : ¬ ((rawPart none == rawInt 0) = true) := Bool.false_ne_true
  refine wpAny_bind (wpAny_bind (wpAny_field (x := .none) hos hds rfl (wpAny_bind (wpAny_listPart .none ?_))))
  rw [if_neg nostep]
  refine wpAny_bind (wpAny_field (x := vl) hos hds rfl (wpAny_bind (wpAny_listPart pl (wpAny_bind (wpAny_field (x := vu) hos hds rfl (wpAny_bind (wpAny_listPart pu (wpAny_pure ?_))))))))
  dsimp only
  rw [if_neg (by rw [hsame]; exact Bool.false_ne_true)]
  refine wpAny_bind ?_
  unfold Builtin.List.listAllItems Builtin.List.listItems
  refine wpAny_bind (wpAny_typeOf hb.typeIs ?_)
  rw [if_pos (by decide)]
  refine wpAny_bind (wpAny_seqItems e2 rfl (wpAny_pure (wpAny_bind (wpAny_bind (wpAny_seqItems e rfl (wpAny_pure ?_))))))
  have hsi := (sliceIndices_raw (some (a : Int)) (some (c : Int)) none xs.size (by simp)).trans (congrArg (pure : Int × Int × Int → Sem (Int × Int × Int)) (cut_bounds (c := c) ha hac))
  refine wpAny_bind (wpAny_of_eq hsi ?_)
  dsimp only
  rw [if_pos (by decide)]
  refine wpAny_bind (wpAny_rule ?_)
  rw [if_neg (by rw [notLongL hsz]; exact Bool.false_ne_true)]
  show wpAny _ _ (updateSeq l (fun zs => zs.extract 0 ((a : Int)).toNat ++ ys ++ zs.extract (max (a : Int) ((min c xs.size : Nat) : Int)).toNat zs.size) >>= _) _ _ s
  rw [hmax, Int.toNat_natCast]
  have hz2 : ((fun zs : Array Value => zs.extract 0 a ++ ys ++ zs.extract (min c xs.size) zs.size) xs).size ≤ sizeLine + 1 := by
    simp only [Array.size_append, Array.size_extract]; omega
  refine wpAny_bind (wpAny_updateSeq (hz := Nat.le_trans (Nat.le_add_right _ _) hsz) (_hz' := hz2) e rfl (wpAny_bind (wpAny_letGo ?_)))
  first
    | exact wpAny_bind (wpAny_pure (wpAny_pure ⟨.none, rfl, wpAny_pure h⟩))
    | exact wpAny_pure ⟨.none, rfl, wpAny_pure h⟩
end
section
variable {X : Cx} {o : Expr} {lo hi : Option Expr} {to : TE} {tl th : TO} {p2 pos : Pos}
def tCut (to : TE) (tl th : TO) : TG := fun v σ H Q => to σ H fun x H1 => tl σ H1 fun l H2 => th σ H2 fun u H3 => ∃ (a b : Addr) (xs ys : List V) (i j : Nat), x = .ref a ∧ v = .ref b ∧ a ≠ b ∧ l = some (i : Int) ∧ u = some (j : Int) ∧ H3 a = some (.lst xs) ∧ Rd H3 b (.lst ys) ∧
  i ≤ xs.length ∧ i ≤ j ∧ xs.length + ys.length ≤ sizeLine ∧ Q σ (upd H3 a (.lst (xs.take i ++ ys ++ xs.drop (min j xs.length))))
theorem pg_cut (ho : PE X o to) (hl : PO X lo tl) (hh : PO X hi th) : PG X (.Subscript o (.Slice lo hi none p2) pos) (tCut to tl th) := by
  refine ⟨fun pins s σ H v u Q I r h => ?_⟩
  rw [arm_assign_Subscript]
  refine wpAny_bind (wpAny_holding (thn (ho.run pins s σ H _ I h) fun ov s1 ⟨x, H1, I1, r1, q1⟩ => wpAny_bind (wpAny_holding (wpAny_Slice (thn (hl.run pins s1 σ H1 _ I1 q1) fun vl s2 ⟨l, H2, I2, pl, q2⟩ => thn (hh.run pins s2 σ H2 _ I2 q2) fun vu s3 ⟨w, H3, I3, pu, q3⟩ => ?_)))))
  rw [evalPart_none]
  refine wpAny_pure ?_
  obtain ⟨a, b, xs, ys, i, j, rfl, rfl, hne, rfl, rfl, hA, hB, hi1, hij, hz, q⟩ := q3
  cases r1
  cases r
  have I4 : Inv X pins σ H3 { s3 with heap := s3.heap.push { cls := .type "slice", data := .fields #[vl, vu, .none] } } := I3.kept (t' := s3.toks) fun b ob q => Heap.get?_push_of_some _ q
  obtain ⟨z1, its, n, rv, hl1, e1⟩ := I4.lstM hA
  obtain ⟨z2, its2, n2, rv2, e2⟩ : ys.length ≤ sizeLine ∧ ∃ (its : List Value) (n : Nat), Vals ys its ∧ Heap.get? _ b = some { cls := .type "list", data := .seq its.toArray n } := hB.ok I4.hok
  have hl2 := rv2.length
  refine wpAny_bind (wpAny_standAt (wpAny_bind (wpAny_holding (put_cut (a := i) (c := j) e1 e2 hne (Heap.IsSliceOf.new ..) pl pu (by rw [List.size_toArray]; omega) hij (by rw [List.size_toArray, List.size_toArray]; omega) ?_))))
  refine wpAny_release ⟨σ, _, I4.lset (its' := its.take i ++ its2 ++ its.drop (min j its.length)) (t' := s3.toks) hA e1 ?_ (Vals.append (Vals.append (rv.take _) rv2) ?_) ?_, q⟩
  · rw [List.size_toArray]
    exact splice_eq its its2 i (min j its.length)
  · rw [← hl1]
    exact rv.drop _
  · rw [List.length_append, List.length_append, List.length_take, List.length_drop]
    omega
def gCut (co : CE) (cl ch : CO) : CG := fun d ρ S => (co ρ S).bind fun x S1 => (cl ρ S1).bind fun l S2 => (ch ρ S2).bind fun h S3 => match x, d, l, h with
  | .ref n, .p (.ro ys), some i, some j => match S3[n]? with
    | some (.lst xs) => if 0 ≤ i ∧ i ≤ j ∧ i ≤ xs.length ∧ xs.length + ys.length ≤ sizeLine then .ok ρ (S3.set n (.lst (xs.take i.toNat ++ ys ++ xs.drop (min j.toNat xs.length)))) else .no
    | _ => .no
  | _, _, _, _ => .no
theorem rg_cut {co : CE} {cl ch : CO} (ho : PE X o (RdE X.K co)) (hl : PO X lo (RdO X.K cl)) (hh : PO X hi (RdO X.K ch)) : PG X (.Subscript o (.Slice lo hi none p2) pos) (RdG X.K [] (gCut co cl ch)) :=
  (pg_cut ho hl hh).weak fun v σ H Q ⟨ι, ρ, S, d, cf, r, ρ', S', e, k⟩ => by
    obtain ⟨x, S1, e1, e2⟩ := bind_ok e
    obtain ⟨l, S2, e3, e4⟩ := bind_ok e2
    obtain ⟨h, S3, e5, e6⟩ := bind_ok e4
    refine RdE.run cf e1 fun ov ι1 H1 st1 cf1 r1 => RdO.run cf1 e3 fun ι2 H2 st2 cf2 => RdO.run cf2 e5 fun ι3 H3 st3 cf3 => ?_
    have st := (st1.trans st2).trans st3
    split at e6
    · rename_i n ys i j
      split at e6
      · rename_i xs hx
        split at e6
        · rename_i hc
          cases e6
          obtain ⟨a, vs, rfl, hix, hA, q⟩ := cf3.wd.lst (r1.mono (st2.trans st3)) hx
          have r3 := r.mono st
          cases r3 with
          | p r3 =>
          cases r3 with
          | @ro b ws _ hB hn q2 =>
          have hmem := List.mem_of_getElem? hix
          have hl1 := q.length
          have hl2 := q2.length
          have hne : a ≠ b := fun e => hn (by subst e; exact .inl hmem)
          refine ⟨a, b, vs, ws, i.toNat, j.toNat, rfl, rfl, hne, by congr 1; omega, by congr 1; omega, hA, hB, by omega, by omega, by rw [hl1, hl2]; exact hc.2.2.2, ?_⟩
          have sw := Step.write (H := H3) (ι := ι3) hmem (o := .lst (vs.take i.toNat ++ ws ++ vs.drop (min j.toNat vs.length)))
          refine k σ ι3 _ (st.trans sw) (cf3.step sw (cf3.wd.write hix (.lst upd_same ?_))) rfl fun _ _ => rfl
          have := ((((q.take i.toNat).app q2).app (q.drop (min j.toNat vs.length)))).mono sw
          rw [hl1] at this ⊢
          exact this
        · cases e6
      · cases e6
    · cases e6
end
/-! ### xs.insert(i, y) -/
def gInsert : D → List D → Sto → R D := fun x ds S => onLst x S fun xs => match ds with
  | [.p (.int i), .p y] => if xs.length < sizeLine ∧ 0 ≤ i ∧ i < 2 ^ 63 then .ok (.p .non, xs.take i.toNat ++ [y] ++ xs.drop i.toNat) [] else .no
  | _ => .no
theorem w_insert {X : Cx} : WaysM X "list.insert" gInsert := fun x ds S d S' e => ⟨_, mt_insert, fun ι H v vs d S' Q wd r1 r2 e k => by
  obtain ⟨n, xs, ys, T, rfl, hx, hf, rfl⟩ := onLst_ok e
  split at hf
  · split at hf
    · rename_i i y hc
      cases hf
      obtain ⟨a, us, rfl, hix, h1, q⟩ := wd.lst r1 hx
      obtain ⟨w1, w2, rfl, ri, ry⟩ := r2.two
      have hm := List.mem_of_getElem? hix
      cases ri.intD
      cases ry with
      | p ry => exact ⟨a, us, _, w2, rfl, rfl, h1, by rw [q.length]; exact hc.1, hc.2.1, hc.2.2, k _ ι _ (Step.write hm) (wd.write hix (.lst upd_same ((((q.take _).app (.cons ry .nil)).app (q.drop _)).mono (Step.write hm)))) (.p .non)⟩
    · cases hf
  · cases hf⟩
/-! ### xs[::-1] -/
def nRev (ca : CE) : CN := fun ρ S => (ca ρ S).bind fun x S1 => match seqA x S1 with
  | some xs => .ok xs.reverse S1
  | none => .no
theorem rn_rev {X : Cx} {e : Expr} {ca : CE} {k : Nat} {p1 p2 p3 pos : Pos} (ha : PE X e (RdE X.K ca)) : PE X (.Subscript e (.Slice none none (some (.UnaryOp .USub (.Constant (.int 1) k p1) p2)) p3) pos) (RdN X.K (nRev ca)) :=
  (pe_revL ha).weak fun σ H Q ⟨ι, ρ, S, cf, d, S', e, k⟩ => by
    obtain ⟨x, S1, e1, e2⟩ := bind_ok e
    refine RdE.run cf e1 fun v ι1 H1 st1 cf1 r1 => ?_
    split at e2
    · rename_i xs hx
      cases e2
      obtain ⟨a, vs, rfl, h1, q1⟩ := cf1.wd.seqA r1 hx
      exact ⟨a, vs, rfl, h1, PostN.intro st1 cf1.wd q1.rev rfl k⟩
    · cases e2
end Cw
set_option Elab.async false
set_option linter.all false
set_option maxRecDepth 100000
set_option maxHeartbeats 4000000
/-! Cw24: dict(pairs), calls of what is told by values alone. -/
namespace Cw
open PySem PySem.Spec PyProof.Rows L2

theorem choose_list {α : Type} {n : Nat} {p : Nat → α → Prop} (h : ∀ j, j < n → ∃ x, p j x) : ∃ l : List α, l.length = n ∧ ∀ j x, l[j]? = some x → p j x := by
  induction n with
  | zero => exact ⟨[], rfl, fun j x e => by simp at e⟩
  | succ n ih =>
    obtain ⟨l, hl, hp⟩ := ih fun j hj => h j (Nat.lt_succ_of_lt hj)
    obtain ⟨x, hx⟩ := h n (Nat.lt_succ_self n)
    refine ⟨l ++ [x], by rw [List.length_append, hl]; rfl, fun j y e => ?_⟩
    rcases Nat.lt_or_ge j n with q | q
    · rw [List.getElem?_append_left (by omega)] at e; exact hp j y e
    · have hj := lt_of_get e
      rw [List.length_append, List.length_singleton] at hj
      have : j = n := by omega
      subst this
      rw [List.getElem?_append_right (by omega), hl, Nat.sub_self] at e
      cases e; exact hx
section
variable {X : Cx}
theorem plain_of {pins : List (Addr × Obj)} {σ : L2.St} {H : Hp} {s : Shared} {ι : Lk} {a : Addr} {vs : List V} (I : Inv X pins σ H s) (h : TupAt X.K ι H a vs) : ∃ its : List Value, Vals vs its ∧ PlainSeq "tuple" s.heap a its.toArray ∧ vs.length ≤ sizeLine := by
  rcases h with ⟨⟨o, hd, e⟩, _⟩ | ⟨o, its, n, h1, h2, h3, h4, h5, h6⟩
  · obtain ⟨ho, hz, its, r, o', ho', hc, n, hdt⟩ := I.hok a _ e
    rw [ho] at ho'; cases ho'
    exact ⟨its, r, ⟨o, n, ho, hc, hd, hdt⟩, hz⟩
  · refine ⟨its.toList, h6, ⟨o, n, I.kIn a o h1, h2, h3, by simpa using h4⟩, ?_⟩
    have := h6.length
    rw [this, Array.length_toList]; exact h5
/-- dict(t) of a tuple of pairs -/
theorem call_dictT (hcalm : X.calm = true) : CallR X (.type "dict") (fun xs H Q => ∃ (ι : Lk) (a : Addr) (ps : List Addr) (kvs : List (Key × V)), xs = [.ref a] ∧ TupAt X.K ι H a (ps.map V.ref) ∧ Paired (fun p kv => SqT X.K H p [kV kv.1, kv.2]) ps kvs ∧
    ∀ p, H p = none → Q (.ref p) (upd H p (.dK (mergeK [] kvs)))) := fun pins s σ H xs us Q I r q => by
  obtain ⟨ι, a, ps, kvs, rfl, hq, hp, q⟩ := q
  obtain ⟨u, rfl, rx⟩ := vals1 r
  cases rx
  obtain ⟨its, rv, pl, hz⟩ := plain_of I hq
  have ei := refs_at rv
  subst ei
  rw [List.length_map] at hz
  obtain ⟨prs, rel, hl, hpr⟩ := pairs_of I hp
  obtain ⟨vps, hvl, hv⟩ := choose_list (n := prs.length) (p := fun j (x : Value × Value) => ∃ q b, prs[j]? = some q ∧ ps[j]? = some b ∧ IsTup s.heap b #[x.1, x.2] ∧ x.2 = q.2 ∧ keyIs q.1 x.1 = true) fun j hj => by
    obtain ⟨b, u, h1, h2, h3⟩ := hpr j prs[j] (List.getElem?_eq_getElem hj)
    exact ⟨(u, prs[j].2), prs[j], b, List.getElem?_eq_getElem hj, h1, h2, rfl, h3⟩
  refine PySem.call_dict_pairs (knd := mixKind X.prog X.w) (kvs := prs) (PairArg.tuple a (ps.map Value.ref).toArray (fun j => ps.getD j 0) vps) (I.ok.hd hcalm) ⟨pl, ?_, fun j k v e => ?_⟩ ⟨hvl.symm, fun i key v e => ?_⟩ (by rw [hvl, hl]; exact hz) fun h' tk hd' k => ?_
  · rw [List.size_toArray, List.length_map, hvl, hl]
  · obtain ⟨q0, b, h1, h2, h3, h4, h5⟩ := hv j (k, v) e
    refine ⟨?_, .inl ?_⟩
    · rw [List.getElem?_toArray, List.getElem?_map, h2]; simp [h2]
    · simp only [List.getD_eq_getElem?_getD, h2, Option.getD_some]; exact h3
  · obtain ⟨q0, b, h1, h2, h3, h4, h5⟩ := hv i (key, v) e
    refine ⟨q0.1, ?_, h5⟩
    rw [h1]
    simp only at h4
    rw [h4]
  · have hm : (s.heap.objs.size == sysModules) = false := beq_eq_false_iff_ne.mpr (Nat.ne_of_gt I.big)
    have hlen : (mergeK [] kvs).length ≤ sizeLine := by
      refine Nat.le_trans (length_mergeK kvs []) ?_
      rw [List.length_nil, Nat.zero_add, rel.length, hl]
      exact hz
    exact ⟨.ref s.heap.objs.size, upd H s.heap.objs.size (.dK (mergeK [] kvs)), I.laid (t' := tk) (fun b o e => k b o (by simp) e) (Nat.le_refl _) (show ObjOk X.prog X.w _ _ _ (.dK (mergeK [] kvs)) from ⟨hlen, hm, merged [] prs, KV.merge rel .nil, hd'⟩), rfl, q _ (I.hok.fresh (Nat.le_refl _))⟩
end

/-! ### dict(pairs) -/
def pairsP : List P → Option (List (Key × P))
  | [] => some []
  | .tup [k, v] :: r => (keyP k).bind fun k => (pairsP r).map ((k, v) :: ·)
  | _ :: _ => none
theorem pairs_rel {K : PySem.W.Frag} {ι : Lk} {H : Hp} : ∀ {vs : List V} {xs : List P} {kvs : List (Key × P)}, RPs K ι H vs xs → pairsP xs = some kvs →
    ∃ (ps : List Addr) (kws : List (Key × V)), vs = ps.map V.ref ∧ Paired (fun p kv => SqT K H p [kV kv.1, kv.2]) ps kws ∧ RKs K ι H kws kvs
  | _, _, _, .nil, e => by cases e; exact ⟨[], [], rfl, .nil, .nil⟩
  | _, _, _, .cons r t, e => by
    unfold pairsP at e
    split at e
    · rename_i h; cases h
    · rename_i k v r' h
      cases h
      obtain ⟨ky, hk, e2⟩ := Option.bind_eq_some_iff.mp e
      obtain ⟨ms, hm, rfl⟩ := Option.map_eq_some_iff.mp e2
      obtain ⟨ps, kws, h1, h2, h3⟩ := pairs_rel t hm
      cases r with
      | tup h q =>
        cases q with
        | cons rk q =>
          cases q with
          | cons rv q =>
            cases q
            have := rk.key hk
            subst this
            exact ⟨_ :: ps, (ky, _) :: kws, by rw [h1]; rfl, .cons h.sq h2, .cons rv h3⟩
    · cases e
def cDPairs (c : CE) : CD := fun ρ S => (c ρ S).bind fun d S1 => match d with
  | .p (.tup xs) => match pairsP xs with
    | some kvs => .ok (mergeP [] kvs) S1
    | none => .no
  | d => match (seqL d S1).bind pairsP with
    | some kvs => .ok (mergeP [] kvs) S1
    | none => .no
section
variable {X : Cx} {e : Expr} {ca : CE} {p pos : Pos} {x : Str}
theorem rd_pairs (hc : X.calm = true) (hg : Gl X x) (hm : X.mg x = none) (hv : bootBuiltins x = some (.type "dict")) (ha : PE X e (RdE X.K ca)) (hn : x ≠ "__name__" := by decide) (hdb : (x == ("__debug__" : Str)) = false := by decide)
    (he : starEach (e :: []) X.env = (false, eval e X.env) :: starEach [] X.env := by rfl) (hpl : (backTo pos (starEach [] X.env)).any (·.1) = false := by rfl) : PE X (.Call (.Name x p) [e] [] pos) (RdD X.K (cDPairs ca)) := by
  have pa := pa_cons ha pa_nil he
  refine (PE.orr (pe_callTy (call_dictT hc) hg hm hv pa hn hdb he hpl) (pe_callTy (call_dictP hc) hg hm hv pa hn hdb he hpl)).weak fun σ H Q ⟨ι, ρ, S, cf, d, S', e, k⟩ => ?_
  obtain ⟨y, S1, e1, e2⟩ := bind_ok e
  split at e2
  · split at e2
    · rename_i kvs hk
      cases e2
      refine .inl (RdE.run cf e1 fun v ι1 H1 st1 cf1 r1 => ?_)
      obtain ⟨a, vs, rfl, h1, q1⟩ := r1.tupD
      obtain ⟨ps, kws, rfl, h2, h3⟩ := pairs_rel q1 hk
      exact ⟨ι1, a, ps, kws, rfl, h1, h2, PostD.intro st1 cf1.wd (RKs.merge h3 .nil) rfl k⟩
    · cases e2
  · split at e2
    · rename_i kvs hk
      cases e2
      obtain ⟨xs, hx, hk⟩ := Option.bind_eq_some_iff.mp hk
      refine .inr (RdE.run cf e1 fun v ι1 H1 st1 cf1 r1 => ?_)
      obtain ⟨a, vs, rfl, h1, q1⟩ := cf1.wd.seq r1 hx
      obtain ⟨ps, kws, rfl, h2, h3⟩ := pairs_rel q1 hk
      exact ⟨a, ps, kws, rfl, .inl h1, h2, PostD.intro st1 cf1.wd (RKs.merge h3 .nil) rfl k⟩
    · cases e2
end
/-! ### calls by values alone -/
/-- what is told, as a value -/
def valP (d : D) (S : Sto) : Option P := match d with
  | .p x => some x
  | .ref n => match S[n]? with
    | some (.lst xs) => some (.ro xs)
    | some (.dic xs) => some (.dic xs)
    | _ => none
def callP (run : Run) (i : Nat) (xs : List P) : Option P := match run i (xs.map D.p) [] with
  | .ok d S => valP d S
  | _ => none
def cCallP (run : Run) (i : Nat) (ca : CA) : CE := fun ρ S => (ca ρ S).bind fun ds S1 => match (allP ds).bind (callP run i) with
  | some x => .ok (.p x) S1
  | none => .no
theorem allP_map : ∀ {ds : List D} {xs : List P}, allP ds = some xs → ds = xs.map D.p
  | [], _, e => by cases e; rfl
  | .p x :: r, ys, e => by
    unfold allP at e
    split at e
    · rename_i zs h
      cases e
      rw [allP_map h]; rfl
    · cases e
  | .ref _ :: _, _, e => by cases e
/-- nothing of the store is known -/
def Lk.bare (ι : Lk) : Lk := ⟨[], ι.hid ++ ι.ix.filterMap id⟩
theorem bare_has {ι : Lk} {a : Addr} : ι.bare.has a ↔ ι.has a := by
  unfold Lk.has Lk.bare
  constructor
  · rintro (h | h)
    · cases h
    · rcases List.mem_append.mp h with q | q
      · exact .inr q
      · obtain ⟨x, hx, e⟩ := List.mem_filterMap.mp q
        have e : x = some a := e
        exact .inl (e ▸ hx)
  · rintro (h | h)
    · exact .inr (List.mem_append_right _ (List.mem_filterMap.mpr ⟨_, h, rfl⟩))
    · exact .inr (List.mem_append_left _ h)
section
variable {K : PySem.W.Frag} {ι ι' : Lk} {H H' : Hp} {S S' : Sto}
theorem Wd.bare (wd : Wd K ι H S) : Wd K ι.bare H [] := by
  refine ⟨rfl, fun n m a h => by simp [Lk.bare] at h, fun n o h => by simp at h, fun a ha => ⟨?_, fun z => by cases z⟩⟩
  rcases bare_has.mp (.inr ha) with q | q
  · exact wd.some_of q
  · exact (wd.hd a q).1
theorem Step.bare (st : Step ι.bare H ι' H') : Step ι H ι H' := ⟨rfl, Nat.le_refl _, fun _ _ h => .inl h, fun _ h => .inl h, fun a o h _ => st.keep a o h (fun z => by cases z), st.there⟩
theorem Step.bareHas (st : Step ι.bare H ι' H') {a : Addr} (h : ι.has a) : a ∈ ι'.hid := by
  rw [st.hid]
  exact (bare_has.mpr h).elim (fun q => by cases q) id
theorem Wd.backP (wd : Wd K ι H S) (st : Step ι.bare H ι' H') : Wd K ι H' S := wd.same st.bare fun a ha => by
  have h := wd.some_of ha
  cases e : H a with
  | none => exact absurd e h
  | some o => exact st.keep a o e fun z => by cases z
theorem val_ok {d : D} {v : V} {x : P} (st : Step ι.bare H ι' H') (wd : Wd K ι' H' S') (r : RD K ι' H' v d) (e : valP d S' = some x) : RD K ι H' v (.p x) := by
  have up : ∀ a, ι.has a → ι'.has a := fun a h => .inr (st.bareHas h)
  cases d with
  | p y =>
    cases e
    cases r with
    | p r => exact .p (r.has up)
  | ref n =>
    simp only [valP] at e
    split at e
    · rename_i xs hx
      cases e
      obtain ⟨a, vs, rfl, hix, h1, q⟩ := wd.lst r hx
      exact .p (.ro (.inl h1) (fun z => (wd.hd a (st.bareHas z)).2 (List.mem_of_getElem? hix)) (q.has up))
    · rename_i xs hx
      cases e
      obtain ⟨a, vs, rfl, hix, h1, q⟩ := wd.dict r hx
      exact .p (.dic (.of h1) (fun z => (wd.hd a (st.bareHas z)).2 (List.mem_of_getElem? hix)) (q.has up))
    · cases e
theorem RDs.bare : ∀ {vs : List V} {xs : List P}, RDs K ι H vs (xs.map D.p) → RDs K ι.bare H vs (xs.map D.p)
  | _, [], .nil => .nil
  | _, x :: r, .cons (.p h) t => .cons (.p (h.has fun a q => bare_has.mp q)) (RDs.bare t)
end
section
variable {X : Cx} {T : List Fd} {k : Nat} {x : Str} {p pos : Pos} {e : Expr} {es : List Expr} {ca : CA}
theorem re_callP (C : Ctx X T k) (i : Nat) {fd : Fd} (hi : T[i]? = some fd) (hx : fd.name = x) (hg : Gl X x) (ha : PA X (e :: es) (RdA X.K ca)) (hdb : (x == ("__debug__" : Str)) = false := by decide) (he : starEach (e :: es) X.env = (false, eval e X.env) :: starEach es X.env := by rfl) (hpl : (backTo pos (starEach es X.env)).any (·.1) = false := by rfl) :
    PE X (.Call (.Name x p) (e :: es) [] pos) (RdE X.K (cCallP (runT T k) i ca)) := by
  obtain ⟨f, d, ps, h1, h2, h3, h4⟩ := C.all i fd hi
  rw [hx] at h1
  refine (pe_call h4 C.room hg h1 h2 h3 .nil pass0 ha hdb he hpl).weak fun σ H Q ⟨ι, ρ, S, cf, d, S', e, k'⟩ => ?_
  obtain ⟨ds, S1, e1, e2⟩ := bind_ok e
  split at e2
  · rename_i y hy
    cases e2
    obtain ⟨xs, hxs, hc⟩ := Option.bind_eq_some_iff.mp hy
    have := allP_map hxs
    subst this
    refine RdA.run cf e1 fun vs ι1 H1 st1 cf1 r1 => ?_
    unfold callP at hc
    split at hc
    · rename_i d2 S2 hr
      refine ⟨ι1.bare, [], xs.map D.p, cf1.wd.bare, by rw [List.append_nil]; exact RDs.bare r1, d2, S2, hr, fun v ι' H' st wd r => ?_⟩
      exact k' v ι1 H' (st1.trans st.bare) (cf1.wd.backP st) (val_ok st wd r hc)
    · cases hc
  · cases e2
end
end Cw
set_option Elab.async false
set_option linter.all false
set_option maxRecDepth 100000
set_option maxHeartbeats 4000000
/-! Cw25: sorted of texts. -/
namespace Cw
open PySem PySem.Spec PyProof.Rows L2

def leS (a b : Str) : Prop := ltCps b.cps.toList a.cps.toList = false
theorem leS_iff {a b : Str} : leS a b ↔ a.cps.toList ≤ b.cps.toList := by
  unfold leS
  rw [ltCps_eq, decide_eq_false_iff_not]; rfl
theorem leS_trans {a b c : Str} (h1 : leS a b) (h2 : leS b c) : leS a c := by
  rw [leS_iff] at *
  exact List.le_trans h1 h2
theorem leS_total (a b : Str) : leS a b ∨ leS b a := by
  rw [leS_iff, leS_iff]
  exact List.le_total _ _
theorem leS_anti {a b : Str} (h1 : leS a b) (h2 : leS b a) : a = b := by
  rw [leS_iff] at *
  have : a.cps.toList = b.cps.toList := List.le_antisymm h1 h2
  cases a; cases b
  simp only [Str.mk.injEq]
  exact Array.toList_inj.mp this
def insS (x : Str) : List Str → List Str
  | [] => [x]
  | y :: r => if ltCps y.cps.toList x.cps.toList then y :: insS x r else x :: y :: r
def sortStr (xs : List Str) : List Str := xs.foldr insS []
theorem insS_perm (x : Str) : ∀ l, (insS x l).Perm (x :: l)
  | [] => .refl _
  | y :: r => by
    unfold insS
    split
    · exact ((insS_perm x r).cons y).trans (.swap ..)
    · exact .refl _
theorem insS_sorted (x : Str) : ∀ l, l.Pairwise leS → (insS x l).Pairwise leS
  | [], _ => by simp [insS]
  | y :: r, h => by
    rw [List.pairwise_cons] at h
    unfold insS
    split
    · rename_i hl
      rw [List.pairwise_cons]
      refine ⟨fun z hz => ?_, insS_sorted x r h.2⟩
      rcases List.mem_cons.mp ((insS_perm x r).mem_iff.mp hz) with rfl | q
      · rcases leS_total z y with q | q
        · unfold leS at q; rw [hl] at q; cases q
        · exact q
      · exact h.1 z q
    · rename_i hl
      have hx : leS x y := by unfold leS; exact Bool.not_eq_true _ ▸ hl
      rw [List.pairwise_cons, List.pairwise_cons]
      exact ⟨fun z hz => (List.mem_cons.mp hz).elim (fun e => e ▸ hx) fun q => leS_trans hx (h.1 z q), h⟩
theorem sortStr_perm : ∀ xs, (sortStr xs).Perm xs
  | [] => .refl _
  | x :: r => (insS_perm x _).trans ((sortStr_perm r).cons x)
theorem sortStr_sorted : ∀ xs, (sortStr xs).Pairwise leS
  | [] => .nil
  | x :: r => insS_sorted x _ (sortStr_sorted r)
theorem rising_pw : ∀ (r : List Str) (x : Str), risingS x r = true → (x :: r).Pairwise leS
  | [], x, _ => by simp
  | y :: r, x, h => by
    unfold risingS at h
    rw [Bool.and_eq_true, Bool.not_eq_true'] at h
    have ih := rising_pw r y h.2
    have hx : leS x y := h.1
    rw [List.pairwise_cons]
    refine ⟨fun z hz => ?_, ih⟩
    rcases List.mem_cons.mp hz with rfl | q
    · exact hx
    · exact leS_trans hx ((List.pairwise_cons.mp ih).1 z q)
theorem sorted_uniq {xs ys : List Str} (hp : ys.Perm xs) (hs : sortedS ys = true) : ys = sortStr xs := by
  have h1 : ys.Pairwise leS := by
    cases ys with
    | nil => exact .nil
    | cons y r => exact rising_pw r y hs
  exact List.Perm.eq_of_pairwise (fun a b _ _ h h' => leS_anti h h') h1 (sortStr_sorted xs) (hp.trans (sortStr_perm xs).symm)
/-- sorted(xs), texts -/
def nSortS (c : CE) : CN := fun ρ S => (c ρ S).bind fun d S1 => match (seqA d S1).bind strsP with
  | some ys => if ys.length < 64 then .ok ((sortStr ys).map .str) S1 else .no
  | none => .no
theorem RPs.strs_ok {K : PySem.W.Frag} {ι : Lk} {H : Hp} : ∀ {vs : List V} {xs : List P} {ys : List Str}, RPs K ι H vs xs → strsP xs = some ys → ∀ y ∈ ys, PyData.strOk y = true
  | _, _, _, .nil, e => by cases e; intro y hy; cases hy
  | _, _, _, .cons r t, e => by
    cases r with
    | str ho =>
      simp only [strsP, Option.map_eq_some_iff] at e
      obtain ⟨zs, h, rfl⟩ := e
      intro y hy
      rcases List.mem_cons.mp hy with rfl | q
      · exact ho
      · exact t.strs_ok h y q
    | _ => cases e
theorem RPs.of_strs {K : PySem.W.Frag} {ι : Lk} {H : Hp} : ∀ {ys : List Str}, (∀ y ∈ ys, PyData.strOk y = true) → RPs K ι H (ys.map V.str) (ys.map P.str)
  | [], _ => .nil
  | y :: r, h => .cons (.str (h y List.mem_cons_self)) (RPs.of_strs fun z hz => h z (List.mem_cons_of_mem _ hz))
section
variable {X : Cx} {e : Expr} {ca : CE} {p pos : Pos} {x : Str}
theorem rn_sortS (hg : Gl X x) (hm : X.mg x = none) (hv : bootBuiltins x = some (.builtin "sorted")) (ha : PE X e (RdE X.K ca)) (hn : x ≠ "__name__" := by decide) (hdb : (x == ("__debug__" : Str)) = false := by decide)
    (he : starEach (e :: []) X.env = (false, eval e X.env) :: starEach [] X.env := by rfl) (hpl : (backTo pos (starEach [] X.env)).any (·.1) = false := by rfl) : PE X (.Call (.Name x p) [e] [] pos) (RdN X.K (nSortS ca)) :=
  (pe_callB cr_sortedS hg hm hv (pa_cons ha pa_nil he) hn hdb he hpl).weak fun σ H Q ⟨ι, ρ, S, cf, d, S', e, k⟩ => by
    obtain ⟨y, S1, e1, e2⟩ := bind_ok e
    split at e2
    · rename_i ys hy
      split at e2
      · rename_i hl
        cases e2
        obtain ⟨xs, hx, hs⟩ := Option.bind_eq_some_iff.mp hy
        refine RdE.run cf e1 fun v ι1 H1 st1 cf1 r1 => ?_
        obtain ⟨a, us, rfl, h, q⟩ := cf1.wd.seqA r1 hx
        have hu := q.strs' hs
        subst hu
        refine ⟨a, ys, rfl, h, hl, fun zs p hp hz hH => ?_⟩
        have := sorted_uniq hp hz
        subst this
        have ok := q.strs_ok hs
        exact PostN.intro st1 cf1.wd (RPs.of_strs fun z hz => ok z ((sortStr_perm ys).mem_iff.mp hz)) rfl k p hH
      · cases e2
    · cases e2
theorem bt_sorted : bootBuiltins "sorted" = some (.builtin "sorted") := by decide +kernel
end
end Cw
set_option Elab.async false
set_option linter.all false
set_option maxRecDepth 100000
set_option maxHeartbeats 4000000
/-! Cw26: a call stands on its own small store: what its arguments name, and nothing else. -/
namespace Cw
open PySem PySem.Spec PyProof.Rows L2

def refsOf : List D → List Nat
  | [] => []
  | .p _ :: r => refsOf r
  | .ref n :: r => n :: (refsOf r).filter fun m => decide (m ≠ n)
def numOf (ns : List Nat) : D → D
  | .p x => .p x
  | .ref n => .ref (ns.idxOf n)
def getsOf (S : Sto) : List Nat → Option Sto
  | [] => some []
  | n :: r => match S[n]?, getsOf S r with
    | some o, some os => some (o :: os)
    | _, _ => none
def isGone : Ob → Bool
  | .gone => true
  | _ => false
def putsOf : List Nat → Sto → Sto → Option Sto
  | [], _, S => some S
  | n :: r, o :: os, S => if isGone o then none else putsOf r os (S.set n o)
  | _ :: _, [], _ => none
def backD (fz : Bool) (ns : List Nat) (d : D) (S2 S' : Sto) : R D := match d with
  | .p x => .ok (.p x) S'
  | .ref m => match ns[m]? with
    | some n => .ok (.ref n) S'
    | none => match S2[m]? with
      | some (.lst xs) => if fz then .ok (.p (.ro xs)) S' else .ok (.ref S'.length) (S' ++ [.lst xs])
      | some (.dic xs) => if fz then .ok (.p (.dic xs)) S' else .ok (.ref S'.length) (S' ++ [.dic xs])
      | _ => .no
def callV (fz : Bool) (run : Run) (i : Nat) (ds : List D) (S : Sto) : R D := match getsOf S (refsOf ds) with
  | some S0 => match run i (ds.map (numOf (refsOf ds))) S0 with
    | .ok d S2 => match putsOf (refsOf ds) S2 S with
      | some S' => backD fz (refsOf ds) d S2 S'
      | none => .no
    | _ => .no
  | none => .no
def cCallV (fz : Bool) (run : Run) (i : Nat) (ca : CA) : CE := fun ρ S => (ca ρ S).bind fun ds S1 => callV fz run i ds S1

theorem refs_nd : ∀ ds, (refsOf ds).Nodup
  | [] => .nil
  | .p _ :: r => refs_nd r
  | .ref n :: r => by
    unfold refsOf
    rw [List.nodup_cons]
    exact ⟨by simp, (refs_nd r).filter _⟩
theorem refs_mem {n : Nat} : ∀ {ds : List D}, D.ref n ∈ ds → n ∈ refsOf ds
  | .p x :: r, h => by
    rcases List.mem_cons.mp h with e | q
    · cases e
    · exact refs_mem (ds := r) q
  | .ref m :: r, h => by
    unfold refsOf
    rcases List.mem_cons.mp h with e | q
    · cases e; exact List.mem_cons_self
    · by_cases e : n = m
      · subst e; exact List.mem_cons_self
      · exact List.mem_cons_of_mem _ (List.mem_filter.mpr ⟨refs_mem q, by simpa using e⟩)
theorem gets_len {S S0 : Sto} : ∀ {ns : List Nat}, getsOf S ns = some S0 → S0.length = ns.length := by
  intro ns
  induction ns generalizing S0 with
  | nil => intro h; cases h; rfl
  | cons n r ih =>
    intro h
    unfold getsOf at h
    split at h
    · rename_i o os h1 h2
      cases h
      rw [List.length_cons, List.length_cons, ih h2]
    · cases h
theorem gets_at {S S0 : Sto} : ∀ {ns : List Nat} {j : Nat} {n : Nat}, getsOf S ns = some S0 → ns[j]? = some n → S0[j]? = S[n]? ∧ n < S.length := by
  intro ns
  induction ns generalizing S0 with
  | nil => intro j n _ h; simp at h
  | cons m r ih =>
    intro j n h hj
    unfold getsOf at h
    split at h
    · rename_i o os h1 h2
      cases h
      cases j with
      | zero =>
        simp at hj
        subst hj
        exact ⟨by rw [h1]; rfl, get_lt h1⟩
      | succ j =>
        simp at hj
        have := ih h2 hj
        exact ⟨by simpa using this.1, this.2⟩
    · cases h
/-- what stands behind the call -/
theorem puts_len {S' : Sto} : ∀ {ns : List Nat} {S2 S : Sto}, putsOf ns S2 S = some S' → S'.length = S.length := by
  intro ns
  induction ns with
  | nil => intro S2 S h; cases h; rfl
  | cons n r ih =>
    intro S2 S h
    cases S2 with
    | nil => cases h
    | cons o os =>
      unfold putsOf at h
      split at h
      · cases h
      · rw [ih h, List.length_set]
theorem puts_out {S' : Sto} {n : Nat} : ∀ {ns : List Nat} {S2 S : Sto}, putsOf ns S2 S = some S' → n ∉ ns → S'[n]? = S[n]? := by
  intro ns
  induction ns with
  | nil => intro S2 S h _; cases h; rfl
  | cons m r ih =>
    intro S2 S h hn
    cases S2 with
    | nil => cases h
    | cons o os =>
      unfold putsOf at h
      split at h
      · cases h
      · rw [List.mem_cons, not_or] at hn
        rw [ih h hn.2, List.getElem?_set_ne (Ne.symm hn.1)]
theorem puts_in {S' : Sto} {n : Nat} : ∀ {ns : List Nat} {S2 S : Sto} {j : Nat}, putsOf ns S2 S = some S' → ns.Nodup → ns[j]? = some n → n < S.length → ∃ o, S2[j]? = some o ∧ isGone o = false ∧ S'[n]? = some o := by
  intro ns
  induction ns with
  | nil => intro S2 S j _ _ h; simp at h
  | cons m r ih =>
    intro S2 S j h nd hj hl
    cases S2 with
    | nil => cases h
    | cons o os =>
      unfold putsOf at h
      split at h
      · cases h
      · rename_i hg
        rw [List.nodup_cons] at nd
        cases j with
        | zero =>
          simp at hj
          subst hj
          refine ⟨o, rfl, by simpa using hg, ?_⟩
          rw [puts_out h nd.1, List.getElem?_set_self hl]
        | succ j =>
          simp at hj
          obtain ⟨o', h1, h2, h3⟩ := ih h nd.2 hj (by rw [List.length_set]; exact hl)
          exact ⟨o', by simpa using h1, h2, h3⟩
section
variable {K : PySem.W.Frag} {ι ι' : Lk} {H H' : Hp} {S S' S0 S2 : Sto}
/-- the callee's own world -/
def Lk.small (ι : Lk) (ns : List Nat) : Lk := ⟨ns.map fun n => (ι.ix[n]?).getD none, ι.hid ++ ((List.range ι.ix.length).filter fun n => decide (n ∉ ns)).filterMap fun n => (ι.ix[n]?).getD none⟩
theorem small_at {ns : List Nat} {j n : Nat} (hj : ns[j]? = some n) (hn : n < ι.ix.length) : (ι.small ns).ix[j]? = ι.ix[n]? := by
  show (ns.map fun n => (ι.ix[n]?).getD none)[j]? = _
  rw [List.getElem?_map, hj, List.getElem?_eq_getElem hn]
  simp [List.getElem?_eq_getElem hn]
theorem small_hid {ns : List Nat} {a : Addr} : a ∈ (ι.small ns).hid ↔ a ∈ ι.hid ∨ ∃ n, n ∉ ns ∧ ι.ix[n]? = some (some a) := by
  show a ∈ ι.hid ++ _ ↔ _
  rw [List.mem_append, List.mem_filterMap]
  refine or_congr Iff.rfl ⟨fun ⟨n, hn, e⟩ => ?_, fun ⟨n, hn, e⟩ => ?_⟩
  · rw [List.mem_filter, List.mem_range, decide_eq_true_iff] at hn
    refine ⟨n, hn.2, ?_⟩
    rw [List.getElem?_eq_getElem hn.1] at e ⊢
    exact congrArg some e
  · refine ⟨n, ?_, by rw [e]; rfl⟩
    rw [List.mem_filter, List.mem_range, decide_eq_true_iff]
    exact ⟨lt_of_get e, hn⟩
theorem small_ix {ns : List Nat} {a : Addr} (h : some a ∈ (ι.small ns).ix) : ∃ (j n : Nat), ns[j]? = some n ∧ ι.ix[n]? = some (some a) := by
  obtain ⟨n, hn, e⟩ := List.mem_map.mp h
  obtain ⟨j, hj⟩ := List.mem_iff_getElem?.mp hn
  refine ⟨j, n, hj, ?_⟩
  cases h : ι.ix[n]? with
  | none => rw [h] at e; cases e
  | some o => rw [h] at e; exact congrArg some e
theorem small_has {ns : List Nat} {a : Addr} : (ι.small ns).has a ↔ ι.has a := by
  constructor
  · rintro (h | h)
    · obtain ⟨j, n, _, e⟩ := small_ix h
      exact .inl (List.mem_of_getElem? e)
    · rcases small_hid.mp h with q | ⟨n, _, e⟩
      · exact .inr q
      · exact .inl (List.mem_of_getElem? e)
  · rintro (h | h)
    · obtain ⟨n, e⟩ := List.mem_iff_getElem?.mp h
      by_cases hn : n ∈ ns
      · obtain ⟨j, hj⟩ := List.mem_iff_getElem?.mp hn
        refine .inl (List.mem_of_getElem? (i := j) ?_)
        rw [small_at hj (lt_of_get e)]; exact e
      · exact .inr (small_hid.mpr (.inr ⟨n, hn, e⟩))
    · exact .inr (small_hid.mpr (.inl h))
theorem Wd.small (wd : Wd K ι H S) {ns : List Nat} (nd : ns.Nodup) (hg : getsOf S ns = some S0) : Wd K (ι.small ns) H S0 := by
  have hlt : ∀ {j n : Nat}, ns[j]? = some n → n < ι.ix.length := fun hj => by rw [wd.len]; exact (gets_at hg hj).2
  refine ⟨?_, fun i j a hi hj => ?_, fun j o e => ?_, fun a ha => ⟨?_, fun z => ?_⟩⟩
  · show (ns.map _).length = _
    rw [List.length_map, gets_len hg]
  · have hi' := lt_of_get hi
    have hj' := lt_of_get hj
    have hi' : i < ns.length := by simpa [Lk.small] using hi'
    have hj' : j < ns.length := by simpa [Lk.small] using hj'
    have e1 := List.getElem?_eq_getElem hi'
    have e2 := List.getElem?_eq_getElem hj'
    rw [small_at e1 (hlt e1)] at hi
    rw [small_at e2 (hlt e2)] at hj
    have := wd.nd _ _ a hi hj
    exact (List.getElem_inj nd).mp this
  · have hj := lt_of_get e
    rw [gets_len hg] at hj
    have e1 := List.getElem?_eq_getElem hj
    rw [(gets_at hg e1).1] at e
    rw [small_at e1 (hlt e1)]
    exact (wd.ob _ o e).has fun a h => small_has.mp h
  · rcases small_hid.mp ha with q | ⟨n, _, e⟩
    · exact (wd.hd a q).1
    · exact wd.some_of (List.mem_of_getElem? e)
  · obtain ⟨j, n, hj, e⟩ := small_ix z
    rcases small_hid.mp ha with q | ⟨m, hm, e'⟩
    · exact (wd.hd a q).2 (List.mem_of_getElem? e)
    · have := wd.nd _ _ a e e'
      subst this
      exact hm (List.mem_of_getElem? hj)
theorem RDs.small {ns : List Nat} (wd : Wd K ι H S) : ∀ {vs : List V} {ds : List D}, (∀ n, D.ref n ∈ ds → n ∈ ns ∧ n < S.length) → RDs K ι H vs ds → RDs K (ι.small ns) H vs (ds.map (numOf ns))
  | _, _, _, .nil => .nil
  | _, _, h, .cons r t => by
    refine .cons ?_ (RDs.small wd (fun n hn => h n (List.mem_cons_of_mem _ hn)) t)
    cases r with
    | p r => exact .p (r.has fun a q => small_has.mp q)
    | ref e hv =>
      rename_i n o
      obtain ⟨hn, hl⟩ := h n List.mem_cons_self
      refine .ref (n := ns.idxOf n) (o := o) ?_ hv
      rw [small_at (n := n) ?_ (lt_of_get e)]
      · exact e
      · rw [List.getElem?_eq_getElem (List.idxOf_lt_length_of_mem hn), List.getElem_idxOf]
/-- behind the call -/
theorem small_idx (wd : Wd K ι H S) {ns : List Nat} (nd : ns.Nodup) (hg : getsOf S ns = some S0) (st : Step (ι.small ns) H ι' H') (wd' : Wd K ι' H' S2) (hp : putsOf ns S2 S = some S') (j n : Nat) (hj : ns[j]? = some n) : ι'.ix[j]? = ι.ix[n]? := by
  have hl := (gets_at hg hj).2
  have e1 : ι.ix[n]? = some (ι.ix[n]'(by rw [wd.len]; exact hl)) := List.getElem?_eq_getElem _
  obtain ⟨o, h1, h2, h3⟩ := puts_in hp nd hj hl
  rcases st.old j _ (by rw [small_at hj (by rw [wd.len]; exact hl), e1]) with q | q
  · rw [q, e1]
  · have := wd'.ob j o h1
    rw [q] at this
    cases this
    cases h2
theorem small_up {ns : List Nat} (st : Step (ι.small ns) H ι' H') (hix : ∀ (j n : Nat), ns[j]? = some n → ι'.ix[j]? = ι.ix[n]?) (a : Addr) (h : ι.has a) : ι'.has a := by
  rcases small_has (ns := ns) |>.mpr h with q | q
  · obtain ⟨j, n, hj, e⟩ := small_ix q
    exact .inl (List.mem_of_getElem? (i := j) (by rw [hix j n hj]; exact e))
  · exact .inr (by rw [st.hid]; exact q)
theorem small_st {ns : List Nat} (st : Step (ι.small ns) H ι' H') : Step ι H ι H' :=
  ⟨rfl, Nat.le_refl _, fun _ _ h => .inl h, fun _ h => .inl h, fun a o h hn => st.keep a o h (fun q => by obtain ⟨j, n, _, e⟩ := small_ix q; exact hn (List.mem_of_getElem? e)), st.there⟩
theorem small_obs (wd : Wd K ι H S) {ns : List Nat} (nd : ns.Nodup) (hg : getsOf S ns = some S0) (st : Step (ι.small ns) H ι' H') (wd' : Wd K ι' H' S2) (hp : putsOf ns S2 S = some S') {κ : Lk} (sH : StepH ι H κ H') (up : ∀ a, κ.has a → ι'.has a)
    (n : Nat) (o : Ob) (e : S'[n]? = some o) : ROb K κ H' ι.ix[n]? o := by
  by_cases hn : n ∈ ns
  · obtain ⟨j, hj⟩ := List.mem_iff_getElem?.mp hn
    obtain ⟨o', h1, h2, h3⟩ := puts_in hp nd hj (gets_at hg hj).2
    rw [e] at h3
    cases h3
    have := wd'.ob j o h1
    rw [small_idx wd nd hg st wd' hp j n hj] at this
    exact this.has up
  · rw [puts_out hp hn] at e
    have q := wd.ob n o e
    have hk : ∀ a u, ι.ix[n]? = some (some a) → H a = some u → H' a = some u := fun a u hz hu => st.keep a u hu fun z => by
      obtain ⟨j, m, hj, e2⟩ := small_ix z
      have := wd.nd _ _ a e2 hz
      subst this
      exact hn (List.mem_of_getElem? hj)
    generalize hz : ι.ix[n]? = z at q hk ⊢
    cases q with
    | lst e1 r => exact .lst (hk _ _ rfl e1) (r.monoH sH)
    | dic e1 r => exact .dic (hk _ _ rfl e1) (r.monoH sH)
    | gone => exact .gone
theorem back_ok (fz : Bool) (wd : Wd K ι H S) {ns : List Nat} {d d' : D} {v : V} {S3 : Sto} (nd : ns.Nodup) (hg : getsOf S ns = some S0) (st : Step (ι.small ns) H ι' H') (wd' : Wd K ι' H' S2) (hp : putsOf ns S2 S = some S') (r : RD K ι' H' v d) (e : backD fz ns d S2 S' = .ok d' S3) :
    ∃ κ, Step ι H κ H' ∧ Wd K κ H' S3 ∧ RD K κ H' v d' := by
  have hix := small_idx wd nd hg st wd' hp
  have hup := small_up st hix
  have sS := small_st st
  have hlen := puts_len hp
  have wι : Wd K ι H' S' := ⟨by rw [hlen]; exact wd.len, wd.nd, small_obs wd nd hg st wd' hp sS.h hup, fun a ha => ⟨fun z => (wd.hd a ha).1 (st.there a z), (wd.hd a ha).2⟩⟩
  unfold backD at e
  split at e
  · cases e
    cases r with
    | p r => exact ⟨ι, sS, wι, .p (r.has hup)⟩
  · rename_i m
    split at e
    · rename_i n hn
      cases e
      cases r with
      | ref h1 h2 => exact ⟨ι, sS, wι, .ref (by rw [← hix m n hn]; exact h1) h2⟩
    · rename_i hm
      have fresh : ∀ {a : Addr}, ι'.ix[m]? = some (some a) → ¬ ι.has a := fun {a} h z => by
        rcases small_has (ns := ns) |>.mpr z with q | q
        · obtain ⟨j, n, hj, e⟩ := small_ix q
          have e2 := hix j n hj
          rw [e] at e2
          have := wd'.nd _ _ a e2 h
          subst this
          rw [hm] at hj
          cases hj
        · exact (wd'.hd a (by rw [st.hid]; exact q)).2 (List.mem_of_getElem? h)
      have newer : ∀ {a : Addr}, ι'.ix[m]? = some (some a) → H a = none := fun {a} h => by
        rcases st.new a (List.mem_of_getElem? h) with q | q
        · obtain ⟨j, n, hj, e⟩ := small_ix q
          exact absurd (.inl (List.mem_of_getElem? e)) (fresh h)
        · exact q
      have addW : ∀ {a : Addr} {o : Ob}, ι'.ix[m]? = some (some a) → ROb K ι' H' (some (some a)) o → Step ι H (ι.add a) H' ∧ Wd K (ι.add a) H' (S' ++ [o]) ∧ RD K (ι.add a) H' (.ref a) (.ref S'.length) := fun {a o} hx ho => by
        have hna := fresh hx
        have hup2 : ∀ b, (ι.add a).has b → ι'.has b := fun b hb => by
          rcases has_hide (has_add hb) with q | q
          · exact hup b q
          · rw [q]; exact .inl (List.mem_of_getElem? hx)
        have s2 : Step ι H (ι.add a) H' := by
          refine ⟨rfl, ?_, fun n o h => .inl (ix_old h), fun b hb => ?_, sS.keep, sS.there⟩
          · show _ ≤ (ι.ix ++ [some a]).length
            rw [List.length_append]; exact Nat.le_add_right _ _
          · rcases List.mem_append.mp hb with q | q
            · exact .inl q
            · have : b = a := by simpa using q
              subst this
              exact .inr (newer hx)
        have e0 : (ι.add a).ix[S'.length]? = some (some a) := by
          show (ι.ix ++ [some a])[S'.length]? = _
          rw [← wι.len, List.getElem?_append_right (Nat.le_refl _), Nat.sub_self]; rfl
        refine ⟨s2, ⟨?_, fun i j b hi hj => ?_, fun i o' h => ?_, fun b hb => ⟨(wι.hd b hb).1, fun z => ?_⟩⟩, .ref e0 fun b hb => by cases hb; rfl⟩
        · show (ι.ix ++ [some a]).length = (S' ++ [o]).length
          rw [List.length_append, List.length_append, wι.len]
          rfl
        · rcases ix_new hi with q | ⟨q, e⟩ <;> rcases ix_new hj with z | ⟨z, e'⟩
          · exact wd.nd i j b q z
          · cases e'; exact absurd (.inl (List.mem_of_getElem? q)) hna
          · cases e; exact absurd (.inl (List.mem_of_getElem? z)) hna
          · omega
        · rcases Nat.lt_or_ge i S'.length with q | q
          · rw [List.getElem?_append_left q] at h
            have w := small_obs wd nd hg st wd' hp s2.h hup2 i o' h
            have e : (ι.add a).ix[i]? = ι.ix[i]? := by
              show (ι.ix ++ [some a])[i]? = _
              rw [List.getElem?_append_left (by rw [wι.len]; exact q)]
            rw [e]
            exact w
          · have hi := lt_of_get h
            rw [List.length_append, List.length_singleton] at hi
            have : i = S'.length := by omega
            subst this
            rw [List.getElem?_append_right (Nat.le_refl _), Nat.sub_self] at h
            cases h
            rw [e0]
            exact ho.has hup2
        · rcases List.mem_append.mp z with q | q
          · exact (wι.hd b hb).2 q
          · have : b = a := by simpa using q
            subst this
            exact hna (.inr hb)
      split at e
      · rename_i xs hx
        obtain ⟨a, vs, rfl, h1, h2, q⟩ := wd'.lst r hx
        split at e
        · cases e
          exact ⟨ι, sS, wι, .p (.ro (.inl h2) (fresh h1) (q.has hup))⟩
        · cases e
          exact ⟨_, addW h1 (.lst h2 q)⟩
      · rename_i xs hx
        obtain ⟨a, vs, rfl, h1, h2, q⟩ := wd'.dict r hx
        split at e
        · cases e
          exact ⟨ι, sS, wι, .p (.dic (.of h2) (fresh h1) (q.has hup))⟩
        · cases e
          exact ⟨_, addW h1 (.dic h2 q)⟩
      · cases e
end
section
variable {X : Cx} {T : List Fd} {k : Nat} {x : Str} {p pos : Pos} {e : Expr} {es : List Expr} {ca : CA}
theorem re_callV (fz : Bool) (C : Ctx X T k) (i : Nat) {fd : Fd} (hi : T[i]? = some fd) (hx : fd.name = x) (hg : Gl X x) (ha : PA X (e :: es) (RdA X.K ca)) (hdb : (x == ("__debug__" : Str)) = false := by decide) (he : starEach (e :: es) X.env = (false, eval e X.env) :: starEach es X.env := by rfl) (hpl : (backTo pos (starEach es X.env)).any (·.1) = false := by rfl) :
    PE X (.Call (.Name x p) (e :: es) [] pos) (RdE X.K (cCallV fz (runT T k) i ca)) := by
  obtain ⟨f, d, ps, h1, h2, h3, h4⟩ := C.all i fd hi
  rw [hx] at h1
  refine (pe_call h4 C.room hg h1 h2 h3 .nil pass0 ha hdb he hpl).weak fun σ H Q ⟨ι, ρ, S, cf, d, S', e, k'⟩ => ?_
  obtain ⟨ds, S1, e1, e2⟩ := bind_ok e
  unfold callV at e2
  split at e2
  · rename_i S0 hg
    split at e2
    · rename_i d2 S2 hr
      split at e2
      · rename_i S3 hp
        refine RdA.run cf e1 fun vs ι1 H1 st1 cf1 r1 => ?_
        have nd := refs_nd ds
        have rs := RDs.small (ns := refsOf ds) cf1.wd (fun n hn => ⟨refs_mem hn, by
          obtain ⟨j, hj⟩ := List.mem_iff_getElem?.mp (refs_mem hn)
          exact (gets_at hg hj).2⟩) r1
        refine ⟨ι1.small (refsOf ds), S0, ds.map (numOf (refsOf ds)), cf1.wd.small nd hg, by rw [List.append_nil]; exact rs, d2, S2, hr, fun v ι' H' st wd r => ?_⟩
        · obtain ⟨κ, s1, w1, r1'⟩ := back_ok fz cf1.wd nd hg st wd hp r e2
          exact k' v κ H' (st1.trans s1) w1 r1'
      · cases e2
    · cases e2
  · cases e2
end
end Cw
set_option Elab.async false
set_option linter.all false
set_option maxRecDepth 100000
set_option maxHeartbeats 4000000
/-! Cw27: reckoning with calls on small stores, dicts of pairs, enumerate, zip, sorted. -/
namespace Cw
open L2
open PySem hiding Run

@[simp] theorem xCallV (fz : Bool) (run : Run) (i : Nat) (ca : CA) (ρ : Ev) (S : Sto) : cCallV fz run i ca ρ S = (ca ρ S).bind fun ds S1 => callV fz run i ds S1 := id rfl
theorem refs_ps : ∀ xs : List P, refsOf (xs.map D.p) = []
  | [] => rfl
  | _ :: r => refs_ps r
theorem num_ps (ns : List Nat) : ∀ xs : List P, (xs.map D.p).map (numOf ns) = xs.map D.p
  | [] => rfl
  | _ :: r => by rw [List.map_cons, List.map_cons, num_ps ns r]; rfl
/-- a call by values alone -/
theorem callV0 (fz : Bool) {run : Run} {i : Nat} {xs : List P} {d : D} {S2 : Sto} (S : Sto) (h : run i (xs.map D.p) [] = .ok d S2) : callV fz run i (xs.map D.p) S = backD fz [] d S2 S := by
  unfold callV
  rw [refs_ps]
  simp only [getsOf, num_ps, h, putsOf]
theorem callV0p (fz : Bool) {run : Run} {i : Nat} {xs : List P} {x : P} {S2 : Sto} (S : Sto) (h : run i (xs.map D.p) [] = .ok (.p x) S2) : callV fz run i (xs.map D.p) S = .ok (.p x) S := callV0 fz S h
theorem callV0l {run : Run} {i m : Nat} {xs ys : List P} {S2 : Sto} (S : Sto) (h : run i (xs.map D.p) [] = .ok (.ref m) S2) (h2 : S2[m]? = some (.lst ys)) : callV true run i (xs.map D.p) S = .ok (.p (.ro ys)) S := by
  rw [callV0 true S h]; simp [backD, h2]
theorem callV0d {run : Run} {i m : Nat} {xs : List P} {ys : List (Key × P)} {S2 : Sto} (S : Sto) (h : run i (xs.map D.p) [] = .ok (.ref m) S2) (h2 : S2[m]? = some (.dic ys)) : callV true run i (xs.map D.p) S = .ok (.p (.dic ys)) S := by
  rw [callV0 true S h]; simp [backD, h2]
/-- one thing of the store -/
theorem callV1 (fz : Bool) {run : Run} {i n : Nat} {xs : List P} {S : Sto} {o o2 : Ob} {d : D} {S2 : Sto} (hS : S[n]? = some o) (h : run i (.ref 0 :: xs.map D.p) [o] = .ok d (o2 :: S2)) (hg : isGone o2 = false) :
    callV fz run i (.ref n :: xs.map D.p) S = backD fz [n] d (o2 :: S2) (S.set n o2) := by
  unfold callV
  have e : refsOf (.ref n :: xs.map D.p) = [n] := by unfold refsOf; rw [refs_ps]; rfl
  have e2 : (D.ref n :: xs.map D.p).map (numOf [n]) = .ref 0 :: xs.map D.p := by
    rw [List.map_cons, num_ps]; simp [numOf]
  rw [e, e2]
  simp only [getsOf, hS, h, putsOf, hg]
  rfl
theorem callV1p (fz : Bool) {run : Run} {i n : Nat} {xs : List P} {S : Sto} {o o2 : Ob} {x : P} {S2 : Sto} (hS : S[n]? = some o) (h : run i (.ref 0 :: xs.map D.p) [o] = .ok (.p x) (o2 :: S2)) (hg : isGone o2 = false) :
    callV fz run i (.ref n :: xs.map D.p) S = .ok (.p x) (S.set n o2) := callV1 fz hS h hg
theorem callV1l {run : Run} {i n m : Nat} {xs : List P} {S : Sto} {o o2 : Ob} {ys : List P} {S2 : Sto} (hS : S[n]? = some o) (h : run i (.ref 0 :: xs.map D.p) [o] = .ok (.ref (m + 1)) (o2 :: S2)) (h2 : S2[m]? = some (.lst ys)) (hg : isGone o2 = false) :
    callV true run i (.ref n :: xs.map D.p) S = .ok (.p (.ro ys)) (S.set n o2) := by
  rw [callV1 true hS h hg]; simp [backD, h2]
theorem callV1t {run : Run} {i n m : Nat} {xs : List P} {S : Sto} {o o2 : Ob} {ys : List P} {S2 : Sto} (hS : S[n]? = some o) (h : run i (.ref 0 :: xs.map D.p) [o] = .ok (.ref (m + 1)) (o2 :: S2)) (h2 : S2[m]? = some (.lst ys)) (hg : isGone o2 = false) :
    callV false run i (.ref n :: xs.map D.p) S = .ok (.ref S.length) (S.set n o2 ++ [.lst ys]) := by
  rw [callV1 false hS h hg]; simp [backD, h2]
@[simp] theorem xEnum (c : CE) (ρ : Ev) (S : Sto) : cEnum c ρ S = (c ρ S).bind fun d S1 => match seqXP d with | some (_, xs) => .ok (enumP xs, none) S1 | _ => .no := id rfl
@[simp] theorem xZip (a b : CE) (ρ : Ev) (S : Sto) : cZip a b ρ S = (a ρ S).bind fun x S1 => (b ρ S1).bind fun y S2 => match seqXP x, seqXP y with | some (t, xs), some (u, ys) => if t = u then .ok (zipP xs ys, none) S2 else .no | _, _ => .no := id rfl
@[simp] theorem xSeqT (xs : List P) : seqXP (.p (.tup xs)) = some (true, xs) := rfl
@[simp] theorem xSeqR (xs : List P) : seqXP (.p (.ro xs)) = some (false, xs) := rfl
@[simp] theorem xDPairsT (c : CE) (ρ : Ev) (S : Sto) : cDPairs c ρ S = (c ρ S).bind fun d S1 => match d with | .p (.tup xs) => (match pairsP xs with | some kvs => .ok (mergeP [] kvs) S1 | none => .no) | d => (match (seqL d S1).bind pairsP with | some kvs => .ok (mergeP [] kvs) S1 | none => .no) := id rfl
@[simp] theorem xSortS (c : CE) (ρ : Ev) (S : Sto) : nSortS c ρ S = (c ρ S).bind fun d S1 => match (seqA d S1).bind strsP with | some ys => if ys.length < 64 then .ok ((sortStr ys).map .str) S1 else .no | none => .no := id rfl
/-! ### a def of the table -/
/-- what is told, as a value: behind n things of the callers' -/
def toldN (n : Nat) (f : Fl) (S : Sto) : Option P := match f with
  | .nx _ => some .non
  | .rt (.p x) => some x
  | .rt (.ref m) => if m < n then none else match S[m]? with
    | some (.lst xs) => some (.ro xs)
    | some (.dic xs) => some (.dic xs)
    | _ => none
  | _ => none
theorem told_leave {n : Nat} {f : Fl} {S : Sto} {x : P} (h : toldN n f S = some x) (hn : n ≤ S.length) (ns : List Nat) (hns : ns.length = n) (S0 : Sto) : ∃ d S2, leave n (.ok f S) = .ok d S2 ∧ S2.take n = S.take n ∧ backD true ns d S2 S0 = .ok (.p x) S0 := by
  unfold toldN at h
  split at h
  · cases h; exact ⟨_, _, rfl, by rw [List.take_take, Nat.min_self], rfl⟩
  · cases h; exact ⟨_, _, rfl, by rw [List.take_take, Nat.min_self], rfl⟩
  · rename_i m
    split at h
    · cases h
    · rename_i hm
      have hlen : (S.take n).length = n := by rw [List.length_take]; omega
      have hno : ns[n]? = none := List.getElem?_eq_none (by omega)
      split at h
      · rename_i xs hx
        cases h
        refine ⟨.ref n, S.take n ++ [.lst xs], ?_, by rw [List.take_append_of_le_length (by omega), List.take_take, Nat.min_self], ?_⟩
        · rw [xleave_rt]; simp [tellD, hm, hx]
        · simp only [backD, hno]
          rw [List.getElem?_append_right (by omega), hlen, Nat.sub_self]; rfl
      · rename_i xs hx
        cases h
        refine ⟨.ref n, S.take n ++ [.dic xs], ?_, by rw [List.take_append_of_le_length (by omega), List.take_take, Nat.min_self], ?_⟩
        · rw [xleave_rt]; simp [tellD, hm, hx]
        · simp only [backD, hno]
          rw [List.getElem?_append_right (by omega), hlen, Nat.sub_self]; rfl
      · cases h
  · cases h
/-- a def that tells a value by values alone -/
def Tells (run : Run) (i : Nat) (xs : List P) (x : P) : Prop := ∀ S, callV true run i (xs.map D.p) S = .ok (.p x) S
theorem tells_of {T : List Fd} {k i : Nat} {fd : Fd} {xs : List P} {x : P} (h : T[i]? = some fd) (hl : xs.length = fd.ps.length)
    (hb : Nd (fd.B (runT T k) (startE fd.N.length (xs.map D.p)) []) fun f S' => toldN 0 f S' = some x) : Tells (runT T (k + 1)) i xs x := fun S => by
  obtain ⟨f, S', e, q⟩ := hb
  obtain ⟨d, S2, e2, _, e3⟩ := told_leave q (Nat.zero_le _) [] rfl S
  have er : runT T (k + 1) i (xs.map D.p) [] = .ok d S2 := by
    rw [runS h (by rw [List.length_map]; exact hl), e]; exact e2
  rw [callV0 true S er]
  have := e3
  cases d with
  | p y => exact this
  | ref m => simpa [backD] using this
/-- a def that draws from one thing of the store and tells a value -/
def Takes (ok : Ob → Prop) (run : Run) (i : Nat) (mk : D → List D) (Q : P → Prop) : Prop := ∀ (S : Sto) (n : Nat) (o : Ob), S[n]? = some o → ok o → ∃ x o', callV true run i (mk (.ref n)) S = .ok (.p x) (S.set n o') ∧ ok o' ∧ Q x
structure Mk1 (mk : D → List D) : Prop where
  refs : ∀ n, refsOf (mk (.ref n)) = [n]
  num : ∀ n, (mk (.ref n)).map (numOf [n]) = mk (.ref 0)
theorem callG {fz : Bool} {run : Run} {i : Nat} {ds ds0 : List D} {S S0 S2 S' : Sto} {d : D} {ns : List Nat} (hr : refsOf ds = ns) (hg : getsOf S ns = some S0) (hn : ds.map (numOf ns) = ds0) (e : run i ds0 S0 = .ok d S2) (hp : putsOf ns S2 S = some S') :
    callV fz run i ds S = backD fz ns d S2 S' := by
  unfold callV
  rw [hr, hg]
  simp only [hn, e, hp]
theorem takes_of {ok : Ob → Prop} {T : List Fd} {k i : Nat} {fd : Fd} {mk : D → List D} {Q : P → Prop} (hmk : Mk1 mk) (hok : ∀ o, ok o → isGone o = false) (h : T[i]? = some fd) (hl : (mk (.ref 0)).length = fd.ps.length)
    (hb : ∀ o, ok o → Nd (fd.B (runT T k) (startE fd.N.length (mk (.ref 0))) [o]) fun f S' => ∃ x o', toldN 1 f S' = some x ∧ S'[0]? = some o' ∧ ok o' ∧ Q x) : Takes ok (runT T (k + 1)) i mk Q := fun S n o hS ho => by
  obtain ⟨f, S', e, x, o', q, h0, ho', hx⟩ := hb o ho
  have hlen := get_lt h0
  obtain ⟨d, S2, e2, e4, e3⟩ := told_leave q (by omega) [n] rfl (S.set n o')
  have er : runT T (k + 1) i (mk (.ref 0)) [o] = .ok d S2 := by
    rw [runS h hl, e]; exact e2
  refine ⟨x, o', ?_, ho', hx⟩
  have hS2 : ∃ G, S2 = o' :: G := by
    cases S2 with
    | nil =>
      cases S' with
      | nil => cases h0
      | cons a r => simp at e4
    | cons a r =>
      cases S' with
      | nil => cases h0
      | cons b s =>
        simp at h0 e4
        exact ⟨r, by rw [e4, h0]⟩
  obtain ⟨G, rfl⟩ := hS2
  rw [callG (hmk.refs n) (S0 := [o]) (by simp [getsOf, hS]) (hmk.num n) er (S' := S.set n o') (by simp [putsOf, hok o' ho'])]
  exact e3
end Cw
set_option Elab.async false
set_option linter.all false
set_option maxRecDepth 100000
set_option maxHeartbeats 4000000
/-! Cw28: statement by statement. -/
namespace Cw
open L2
open PySem hiding Run

section
variable {A B : CS} {c : CE} {t : CT} {i : Nat} {d : D} {ρ : Ev} {S S' : Sto} {Q : Fl → Sto → Prop}
theorem asgE (e : c ρ S = .ok d S') (hk : Nd (B (ρ.set i (some d)) S') Q) : Nd (sSeq (sAsg c (gN i)) B ρ S) Q := by
  simp only [xSeq, xAsg, e, bind_okE, xgN]; exact hk
theorem asgN {J : D → Sto → Prop} (h : Nd (c ρ S) J) (hk : ∀ d S', J d S' → Nd (B (ρ.set i (some d)) S') Q) : Nd (sSeq (sAsg c (gN i)) B ρ S) Q := by
  obtain ⟨d, S', e, j⟩ := h
  exact asgE e (hk d S' j)
theorem asgG {g : CG} {ρ' : Ev} {S'' : Sto} (e : c ρ S = .ok d S') (e2 : g d ρ S' = .ok ρ' S'') (hk : Nd (B ρ' S'') Q) : Nd (sSeq (sAsg c g) B ρ S) Q := by
  simp only [xSeq, xAsg, e, bind_okE, e2]; exact hk
theorem dropE (e : c ρ S = .ok d S') (hk : Nd (B ρ S') Q) : Nd (sSeq (sDrop c) B ρ S) Q := by
  simp only [xSeq, xDrop, e, bind_okE]; exact hk
theorem retE (e : c ρ S = .ok d S') (q : Q (.rt d) S') : Nd (sRet c ρ S) Q := by
  simp only [xRet, e, bind_okE]; exact .ok q
theorem retN {J : D → Sto → Prop} (h : Nd (c ρ S) J) (hk : ∀ d S', J d S' → Q (.rt d) S') : Nd (sRet c ρ S) Q := by
  obtain ⟨d, S', e, j⟩ := h
  exact retE e (hk d S' j)
theorem ifT {A1 A2 : CS} (e : t ρ S = .ok true S') (h : Nd (A1 ρ S') Q) : Nd (sIf t A1 A2 ρ S) Q := by
  simp only [xSIf, e, bind_okE, if_true]; exact h
theorem ifF {A1 A2 : CS} (e : t ρ S = .ok false S') (h : Nd (A2 ρ S') Q) : Nd (sIf t A1 A2 ρ S) Q := by
  simp only [xSIf, e, bind_okE, Bool.false_eq_true, if_false]; exact h
/-- an if at the head of a block: its ways -/
theorem seqT {A1 A2 : CS} (e : t ρ S = .ok true S') (h : Nd (sSeq A1 B ρ S') Q) : Nd (sSeq (sIf t A1 A2) B ρ S) Q := by
  simp only [xSeq, xSIf, e, bind_okE, if_true] at h ⊢; exact h
theorem seqF {A1 A2 : CS} (e : t ρ S = .ok false S') (h : Nd (sSeq A2 B ρ S') Q) : Nd (sSeq (sIf t A1 A2) B ρ S) Q := by
  simp only [xSeq, xSIf, e, bind_okE, Bool.false_eq_true, if_false] at h ⊢; exact h
theorem seqNil (h : Nd (B ρ S) Q) : Nd (sSeq sNil B ρ S) Q := h
theorem seqRet (h : Nd (c ρ S) fun d S' => Q (.rt d) S') : Nd (sSeq (sRet c) B ρ S) Q := by
  obtain ⟨d, S', e, q⟩ := h
  simp only [xSeq, xRet, e, bind_okE]; exact .ok q
theorem seqRetE (e : c ρ S = .ok d S') (q : Q (.rt d) S') : Nd (sSeq (sRet c) B ρ S) Q := seqRet ⟨d, S', e, q⟩
theorem seqSeq {A1 A2 : CS} (h : Nd (sSeq A1 (sSeq A2 B) ρ S) Q) : Nd (sSeq (sSeq A1 A2) B ρ S) Q := by
  obtain ⟨f, S', e, q⟩ := h
  refine ⟨f, S', ?_, q⟩
  rw [← e]
  show ((A1 ρ S).bind _).bind _ = (A1 ρ S).bind _
  cases A1 ρ S with
  | ok a S => cases a <;> rfl
  | _ => rfl
/-- a loop at the head of a block -/
theorem forS {it : CI} {g : CG} {body : CS} {α : Type} {enc : α → P} {l : List α} (e : it ρ S = .ok (l.map enc, none) S') (I : List α → Ev → Sto → Prop) (h : I [] ρ S')
    (hs : ∀ pre x post ρ S, l = pre ++ x :: post → I pre ρ S → Nd (turnF g body (enc x) ρ S) fun f S' => (∃ ρ', f = .nx ρ' ∧ I (pre ++ [x]) ρ' S') ∨ ∃ d, f = .rt d ∧ Q (.rt d) S')
    (hk : ∀ ρ S, I l ρ S → Nd (B ρ S) Q) : Nd (sSeq (sFor it g body) B ρ S) Q := by
  simp only [xSeq, xFor, e, bind_okE]
  exact forE0 I h (fun pre x post ρ S e hI => (hs pre x post ρ S e hI).mono fun f S' q => q.imp_right fun ⟨d, e, q2⟩ => ⟨d, e, by subst e; exact .ok q2⟩) hk
theorem rngS {it : CI} {g : CG} {body : CS} {n : Nat} (e : it ρ S = .ok (rangeP 0 n, none) S') (I : Nat → Ev → Sto → Prop) (h : I 0 ρ S')
    (hs : ∀ j ρ S, j < n → I j ρ S → Nd (turnF g body (.int j) ρ S) fun f S' => (∃ ρ', f = .nx ρ' ∧ I (j + 1) ρ' S') ∨ ∃ d, f = .rt d ∧ Q (.rt d) S')
    (hk : ∀ ρ S, I n ρ S → Nd (B ρ S) Q) : Nd (sSeq (sFor it g body) B ρ S) Q := by
  simp only [xSeq, xFor, e, bind_okE]
  exact rangeE0 I h (fun j ρ S e hI => (hs j ρ S e hI).mono fun f S' q => q.imp_right fun ⟨d, e, q2⟩ => ⟨d, e, by subst e; exact .ok q2⟩) hk
end
theorem cRng1_nat {c : CE} {ρ : Ev} {S S' : Sto} {n : Nat} (e : c ρ S = .ok (.p (.int n)) S') (h : n ≤ 4611686018427387903) : cRng1 c ρ S = .ok (rangeP 0 n, none) S' := by
  simp only [xRng1, e, bind_okE, rngOk_nat n h, if_true, Int.toNat_natCast]
theorem bindN {α β : Type} {r : R α} {f : α → Sto → R β} {J : α → Sto → Prop} {Q : β → Sto → Prop} (h : Nd r J) (hk : ∀ a S, J a S → Nd (f a S) Q) : Nd (r.bind f) Q := h.bind hk
/-- a comprehension over a range, drawing on its way -/
theorem compR {g : CG} {e : CE} {vs : List Nat} {it : CI} {ρ : Ev} {S S' : Sto} {n : Nat} {Q : List P → Sto → Prop} (ei : it ρ S = .ok (rangeP 0 n, none) S') (I : List P → Sto → Prop) (h : I [] S') (hl : n ≤ 16777216)
    (hs : ∀ (j : Nat) acc S, j < n → acc.length = j → I acc S → Nd ((g (.p (.int j)) (wipeE ρ vs) S).bind fun ρ1 S1 => e ρ1 S1) fun d S2 => ∃ y, d = .p y ∧ I (acc ++ [y]) S2)
    (hk : ∀ ys S', I ys S' → ys.length = n → Q ys S') : Nd (cComp it g cYes e vs ρ S) Q := by
  simp only [xComp, ei, bind_okE]
  rw [← bind_pure (compL _ _ _ _ _ _ _ _ _)]
  have key : ∀ (m : Nat) (acc : List P) (S : Sto), acc.length + m = n → I acc S → ∃ ys S', compL g cYes e none (rangeP 0 n) ((List.range' acc.length m).map fun j : Nat => P.int (j : Int)) acc (wipeE ρ vs) S = .ok ys S' ∧ I ys S' ∧ ys.length = n := by
    intro m
    induction m with
    | zero => exact fun acc S hm hI => ⟨acc, S, by simp [compL], hI, by omega⟩
    | succ m ih =>
      intro acc S hm hI
      obtain ⟨d, S2, e1, y, rfl, h2⟩ := hs acc.length acc S (by omega) rfl hI
      obtain ⟨ρ1, S1, e2, e3⟩ := bind_ok e1
      obtain ⟨ys, S3, e4, h4⟩ := ih (acc ++ [y]) S2 (by rw [List.length_append, List.length_singleton]; omega) h2
      refine ⟨ys, S3, ?_, h4⟩
      rw [List.range'_succ, List.map_cons]
      have hlt : acc.length < sizeLine := by rw [sizeLine_val]; omega
      rw [List.length_append, List.length_singleton] at e4
      simp only [compL, okT, if_true, e2, bind_okE, xYes, e3, hlt, e4]
  obtain ⟨ys, S3, e1, h1, h2⟩ := key n [] S' (by simp) h
  have e0 : (rangeP 0 n) = (List.range' 0 n).map fun j : Nat => P.int (j : Int) := by
    unfold rangeP
    rw [List.range_eq_range']
    exact List.map_congr_left fun j _ => by rw [Int.zero_add]
  rw [List.length_nil] at e1
  rw [e0] at e1 ⊢
  rw [e1, bind_okE]
  exact .ok (hk ys S3 h1 h2)
end Cw
set_option Elab.async false
set_option linter.all false
set_option maxRecDepth 100000
set_option maxHeartbeats 4000000
/-! Cw29: comprehensions over what is told by a Lean list. -/
namespace Cw
open L2
open PySem hiding Run

theorem compF {α : Type} {g : CG} {t : CT} {e : CE} {xs0 : List P} {ρ : Ev} {S : Sto} (enc : α → P) (p : α → Bool) (f : α → P) : ∀ (l : List α) (acc : List P), acc.length + l.length ≤ 16777216 →
    (∀ a ∈ l, ∃ ρ1, g (.p (enc a)) ρ S = .ok ρ1 S ∧ t ρ1 S = .ok (p a) S ∧ (p a = true → e ρ1 S = .ok (.p (f a)) S)) → compL g t e none xs0 (l.map enc) acc ρ S = .ok (acc ++ (l.filter p).map f) S
  | [], acc, _, _ => by simp [compL]
  | a :: r, acc, hl, h => by
    obtain ⟨ρ1, e1, e2, e3⟩ := h a List.mem_cons_self
    rw [List.length_cons] at hl
    have hlt : acc.length < sizeLine := by rw [sizeLine_val]; omega
    rw [List.map_cons]
    cases hp : p a with
    | true =>
      have ih := compF (g := g) (t := t) (e := e) (xs0 := xs0) (ρ := ρ) (S := S) enc p f r (acc ++ [f a]) (by rw [List.length_append, List.length_singleton]; omega) fun y hy => h y (List.mem_cons_of_mem _ hy)
      simp only [compL, okT, if_true, e1, bind_okE, e2, hp, e3 hp, hlt, ih, List.filter_cons, List.map_cons, List.append_assoc, List.singleton_append]
    | false =>
      have ih := compF (g := g) (t := t) (e := e) (xs0 := xs0) (ρ := ρ) (S := S) enc p f r acc (by omega) fun y hy => h y (List.mem_cons_of_mem _ hy)
      simp only [compL, okT, if_true, e1, bind_okE, e2, hp, ih, List.filter_cons, Bool.false_eq_true, if_false]
theorem compM {α : Type} {g : CG} {e : CE} {xs0 : List P} {ρ : Ev} {S : Sto} (enc : α → P) (f : α → P) (l : List α) (hl : l.length ≤ 16777216) (h : ∀ a ∈ l, ∃ ρ1, g (.p (enc a)) ρ S = .ok ρ1 S ∧ e ρ1 S = .ok (.p (f a)) S) :
    compL g cYes e none xs0 (l.map enc) [] ρ S = .ok (l.map f) S := by
  have := compF (g := g) (t := cYes) (e := e) (xs0 := xs0) (ρ := ρ) (S := S) enc (fun _ => true) f l [] (by rw [List.length_nil]; omega) fun a ha => by
    obtain ⟨ρ1, e1, e2⟩ := h a ha
    exact ⟨ρ1, e1, rfl, fun _ => e2⟩
  rw [this, List.nil_append, List.filter_eq_self.mpr fun _ _ => rfl]
/-- [e for x in it if t] -/
theorem cmpF {α : Type} {it : CI} {g : CG} {t : CT} {e : CE} {vs : List Nat} {ρ : Ev} {S : Sto} {enc : α → P} {l : List α} (p : α → Bool) (f : α → P) (hi : it ρ S = .ok (l.map enc, none) S) (hl : l.length ≤ 16777216)
    (h : ∀ a ∈ l, ∃ ρ1, g (.p (enc a)) (wipeE ρ vs) S = .ok ρ1 S ∧ t ρ1 S = .ok (p a) S ∧ (p a = true → e ρ1 S = .ok (.p (f a)) S)) : cComp it g t e vs ρ S = .ok ((l.filter p).map f) S := by
  rw [xComp, hi, bind_okE]
  exact (compF enc p f l [] (by rw [List.length_nil]; omega) h).trans (by rw [List.nil_append])
theorem cmpM {α : Type} {it : CI} {g : CG} {e : CE} {vs : List Nat} {ρ : Ev} {S : Sto} {enc : α → P} {l : List α} (f : α → P) (hi : it ρ S = .ok (l.map enc, none) S) (hl : l.length ≤ 16777216)
    (h : ∀ a ∈ l, ∃ ρ1, g (.p (enc a)) (wipeE ρ vs) S = .ok ρ1 S ∧ e ρ1 S = .ok (.p (f a)) S) : cComp it g cYes e vs ρ S = .ok (l.map f) S := by
  rw [xComp, hi, bind_okE]
  exact compM enc f l hl h
/-- all([e for x in it]) -/
theorem allM {α : Type} {it : CI} {g : CG} {e : CE} {vs : List Nat} {ρ : Ev} {S : Sto} {enc : α → P} {l : List α} (q : α → Bool) (hi : it ρ S = .ok (l.map enc, none) S) (hl : l.length ≤ 16777216)
    (h : ∀ a ∈ l, ∃ ρ1, g (.p (enc a)) (wipeE ρ vs) S = .ok ρ1 S ∧ e ρ1 S = .ok (.p (.bl (q a))) S) : c1 gAll (cCons (cRo (cComp it g cYes e vs)) cNil) ρ S = .ok (.p (.bl (l.all q))) S := by
  simp only [x1, xCons, xNil, xRo, cmpM (fun a => P.bl (q a)) hi hl h, bind_okE]
  have hb : blsP (l.map fun a => P.bl (q a)) = some (l.map q) := blsP_map q l
  have := vAllRo S hb
  rw [List.all_map] at this
  exact this
theorem anyM {α : Type} {it : CI} {g : CG} {e : CE} {vs : List Nat} {ρ : Ev} {S : Sto} {enc : α → P} {l : List α} (q : α → Bool) (hi : it ρ S = .ok (l.map enc, none) S) (hl : l.length ≤ 16777216)
    (h : ∀ a ∈ l, ∃ ρ1, g (.p (enc a)) (wipeE ρ vs) S = .ok ρ1 S ∧ e ρ1 S = .ok (.p (.bl (q a))) S) : c1 gAny (cCons (cRo (cComp it g cYes e vs)) cNil) ρ S = .ok (.p (.bl (l.any q))) S := by
  simp only [x1, xCons, xNil, xRo, cmpM (fun a => P.bl (q a)) hi hl h, bind_okE]
  have hb : blsP (l.map fun a => P.bl (q a)) = some (l.map q) := blsP_map q l
  have : gAny [.p (.ro (l.map fun a => P.bl (q a)))] S = .ok (.p (.bl ((l.map q).any id))) S := by simp [gAny, gBls, seqA, seqL, hb]
  rw [List.any_map] at this
  exact this
/-- a comprehension that draws from what stands first -/
theorem cmpD {α : Type} {it : CI} {g : CG} {e : CE} {vs : List Nat} {ρ : Ev} {S S' : Sto} {enc : α → P} {l : List α} {Q : List P → Sto → Prop} (hi : it ρ S = .ok (l.map enc, none) S') (hl : l.length ≤ 16777216) (I : List α → List P → Sto → Prop) (h0 : I [] [] S')
    (hs : ∀ pre a post acc S, l = pre ++ a :: post → acc.length = pre.length → I pre acc S → Nd ((g (.p (enc a)) (wipeE ρ vs) S).bind fun ρ1 S1 => e ρ1 S1) fun d S2 => ∃ y, d = .p y ∧ I (pre ++ [a]) (acc ++ [y]) S2)
    (hk : ∀ ys S, ys.length = l.length → I l ys S → Q ys S) : Nd (cComp it g cYes e vs ρ S) Q := by
  rw [xComp, hi, bind_okE]
  have key : ∀ (post pre : List α) (acc : List P) (S : Sto), pre ++ post = l → acc.length = pre.length → I pre acc S → ∃ ys S2, compL g cYes e none (l.map enc) (post.map enc) acc (wipeE ρ vs) S = .ok ys S2 ∧ ys.length = l.length ∧ I l ys S2 := by
    intro post
    induction post with
    | nil =>
      intro pre acc S e1 ha hI
      rw [List.append_nil] at e1
      subst e1
      exact ⟨acc, S, by simp [compL], ha, hI⟩
    | cons a r ih =>
      intro pre acc S e1 ha hI
      obtain ⟨d, S2, e2, y, rfl, h2⟩ := hs pre a r acc S e1.symm ha hI
      obtain ⟨ρ1, S1, e3, e4⟩ := bind_ok e2
      obtain ⟨ys, S3, e5, h5⟩ := ih (pre ++ [a]) (acc ++ [y]) S2 (by rw [List.append_assoc]; exact e1) (by rw [List.length_append, List.length_append, ha]; rfl) h2
      have hlt : acc.length < sizeLine := by
        rw [sizeLine_val, ha]
        have := congrArg List.length e1
        rw [List.length_append, List.length_cons] at this
        omega
      refine ⟨ys, S3, ?_, h5⟩
      rw [List.map_cons]
      simp only [compL, okT, if_true, e3, bind_okE, xYes, e4, hlt, e5]
  obtain ⟨ys, S2, e1, h1, h2⟩ := key l [] [] S' rfl rfl h0
  rw [e1]
  exact .ok (hk ys S2 h1 h2)
/-! ### over a list of the store that stands still -/
theorem compFT {α : Type} {g : CG} {t : CT} {e : CE} {tr : Option (Nat × List P)} {xs0 : List P} {ρ : Ev} {S : Sto} (hok : okT tr xs0 S = true) (enc : α → P) (p : α → Bool) (f : α → P) : ∀ (l : List α) (acc : List P), acc.length + l.length ≤ 16777216 →
    (∀ a ∈ l, ∃ ρ1, g (.p (enc a)) ρ S = .ok ρ1 S ∧ t ρ1 S = .ok (p a) S ∧ (p a = true → e ρ1 S = .ok (.p (f a)) S)) → compL g t e tr xs0 (l.map enc) acc ρ S = .ok (acc ++ (l.filter p).map f) S
  | [], acc, _, _ => by simp [compL, hok]
  | a :: r, acc, hl, h => by
    obtain ⟨ρ1, e1, e2, e3⟩ := h a List.mem_cons_self
    rw [List.length_cons] at hl
    have hlt : acc.length < sizeLine := by rw [sizeLine_val]; omega
    rw [List.map_cons]
    cases hp : p a with
    | true =>
      have ih := compFT (g := g) (t := t) (e := e) (ρ := ρ) hok enc p f r (acc ++ [f a]) (by rw [List.length_append, List.length_singleton]; omega) fun y hy => h y (List.mem_cons_of_mem _ hy)
      simp only [compL, hok, if_true, e1, bind_okE, e2, hp, e3 hp, hlt, ih, List.filter_cons, List.map_cons, List.append_assoc, List.singleton_append]
    | false =>
      have ih := compFT (g := g) (t := t) (e := e) (ρ := ρ) hok enc p f r acc (by omega) fun y hy => h y (List.mem_cons_of_mem _ hy)
      simp only [compL, hok, if_true, e1, bind_okE, e2, hp, ih, List.filter_cons, Bool.false_eq_true, if_false]
theorem cmpFT {α : Type} {it : CI} {g : CG} {t : CT} {e : CE} {vs : List Nat} {ρ : Ev} {S : Sto} {n : Nat} {enc : α → P} {l : List α} (p : α → Bool) (f : α → P) (hi : it ρ S = .ok (l.map enc, some (n, l.map enc)) S) (hS : S[n]? = some (.lst (l.map enc))) (hl : l.length ≤ 16777216)
    (h : ∀ a ∈ l, ∃ ρ1, g (.p (enc a)) (wipeE ρ vs) S = .ok ρ1 S ∧ t ρ1 S = .ok (p a) S ∧ (p a = true → e ρ1 S = .ok (.p (f a)) S)) : cComp it g t e vs ρ S = .ok ((l.filter p).map f) S := by
  rw [xComp, hi, bind_okE]
  exact (compFT (okT_self hS) enc p f l [] (by rw [List.length_nil]; omega) h).trans (by rw [List.nil_append])
theorem cmpMT {α : Type} {it : CI} {g : CG} {e : CE} {vs : List Nat} {ρ : Ev} {S : Sto} {n : Nat} {enc : α → P} {l : List α} (f : α → P) (hi : it ρ S = .ok (l.map enc, some (n, l.map enc)) S) (hS : S[n]? = some (.lst (l.map enc))) (hl : l.length ≤ 16777216)
    (h : ∀ a ∈ l, ∃ ρ1, g (.p (enc a)) (wipeE ρ vs) S = .ok ρ1 S ∧ e ρ1 S = .ok (.p (f a)) S) : cComp it g cYes e vs ρ S = .ok (l.map f) S := by
  rw [cmpFT (fun _ => true) f hi hS hl fun a ha => by
    obtain ⟨ρ1, e1, e2⟩ := h a ha
    exact ⟨ρ1, e1, rfl, fun _ => e2⟩, List.filter_eq_self.mpr fun _ _ => rfl]
theorem allMT {α : Type} {it : CI} {g : CG} {e : CE} {vs : List Nat} {ρ : Ev} {S : Sto} {n : Nat} {enc : α → P} {l : List α} (q : α → Bool) (hi : it ρ S = .ok (l.map enc, some (n, l.map enc)) S) (hS : S[n]? = some (.lst (l.map enc))) (hl : l.length ≤ 16777216)
    (h : ∀ a ∈ l, ∃ ρ1, g (.p (enc a)) (wipeE ρ vs) S = .ok ρ1 S ∧ e ρ1 S = .ok (.p (.bl (q a))) S) : c1 gAll (cCons (cRo (cComp it g cYes e vs)) cNil) ρ S = .ok (.p (.bl (l.all q))) S := by
  simp only [x1, xCons, xNil, xRo, cmpMT (fun a => P.bl (q a)) hi hS hl h, bind_okE]
  have hb : blsP (l.map fun a => P.bl (q a)) = some (l.map q) := blsP_map q l
  have := vAllRo S hb
  rw [List.all_map] at this
  exact this
theorem forST {B : CS} {ρ : Ev} {S S' : Sto} {Q : Fl → Sto → Prop} {it : CI} {g : CG} {body : CS} {n : Nat} {α : Type} {enc : α → P} {l : List α} (e : it ρ S = .ok (l.map enc, some (n, l.map enc)) S') (I : List α → Ev → Sto → Prop) (hS : ∀ pre ρ S, I pre ρ S → S[n]? = some (.lst (l.map enc))) (h : I [] ρ S')
    (hs : ∀ pre x post ρ S, l = pre ++ x :: post → I pre ρ S → Nd (turnF g body (enc x) ρ S) fun f S' => (∃ ρ', f = .nx ρ' ∧ I (pre ++ [x]) ρ' S') ∨ ∃ d, f = .rt d ∧ Q (.rt d) S')
    (hk : ∀ ρ S, I l ρ S → Nd (B ρ S) Q) : Nd (sSeq (sFor it g body) B ρ S) Q := by
  simp only [xSeq, xFor, e, bind_okE]
  exact forT0 I (fun pre ρ S hI => okT_self (hS pre ρ S hI)) h (fun pre x post ρ S e hI => (hs pre x post ρ S e hI).mono fun f S' q => q.imp_right fun ⟨d, e, q2⟩ => ⟨d, e, by subst e; exact .ok q2⟩) hk
end Cw
set_option Elab.async false
set_option linter.all false
set_option maxRecDepth 100000
set_option maxHeartbeats 4000000
/-! Cw30: tuple * int, noughts and ones too. -/
namespace Cw
open PySem PySem.Spec PyProof.Rows L2

theorem tuple_mul1 (l : Addr) (items : Array Value) (n : Nat) (dd : Option Addr) (sl : Array (Option Value)) (u : Tok) :
    Meets (Builtin.«tuple.__mul__» ⟨[.ref l, .int 1 u], []⟩) (fun _ R s => s.heap.get? l = some { cls := .type "tuple", dict := dd, data := .seq items n, slots := sl } ∧ R (.ok (.ret (.ref l))) s) :=
  .of_wp fun prog w A R s h => by
    obtain ⟨hp, g, d, tk, os⟩ := s
    obtain ⟨hl, h⟩ := h
    have f1 := AutoSeq1.idx_int
    have c0 : (decide ((1 : Int) < -(2 ^ 63)) || decide ((1 : Int) ≥ 2 ^ 63)) = false := by decide
    have c1 : (items.isEmpty || (1 : Int) == 1) = true := by simp
    wp_walk using wpAny_loadPart' hl
    repeat (first
      | (refine wpAny_ite_false (decide_eq_false (by rw [c0]; exact Bool.false_ne_true)) ?_; wp_walk using wpAny_loadPart' hl)
      | (refine wpAny_ite_true (decide_eq_true (by rw [c1])) ?_; wp_walk using wpAny_loadPart' hl))
    exact ⟨_, rfl, h⟩
theorem tuple_mul0 (l : Addr) (items : Array Value) (n : Nat) (dd : Option Addr) (sl : Array (Option Value)) (x : Int) (u : Tok) (c0 : (decide (x < -(2 ^ 63)) || decide (x ≥ 2 ^ 63)) = false) (c1 : (items.isEmpty || x == 1) = false) (c2 : (decide (x ≤ 0) || items.isEmpty) = true) :
    Meets (Builtin.«tuple.__mul__» ⟨[.ref l, .int x u], []⟩) (fun _ R s => s.heap.get? l = some { cls := .type "tuple", dict := dd, data := .seq items n, slots := sl } ∧
      R (.ok (.ret (Value.ref s.heap.objs.size))) { s with heap := s.heap.push { cls := Value.type "tuple", data := Data.seq #[] }, toks := s.toks }) :=
  .of_wp fun prog w A R s h => by
    obtain ⟨hp, g, d, tk, os⟩ := s
    obtain ⟨hl, h⟩ := h
    have f1 := AutoSeq1.idx_int
    wp_walk using wpAny_loadPart' hl
    repeat (first
      | (refine wpAny_ite_false (decide_eq_false (by rw [c0]; exact Bool.false_ne_true)) ?_; wp_walk using wpAny_loadPart' hl)
      | (refine wpAny_ite_false (decide_eq_false (by rw [c1]; exact Bool.false_ne_true)) ?_; wp_walk using wpAny_loadPart' hl)
      | (refine wpAny_ite_true (decide_eq_true (by rw [c2])) ?_; wp_walk using wpAny_loadPart' hl))
    exact ⟨_, rfl, h⟩
def rRepM (K : PySem.W.Frag) : R2 := fun x y H Q => ∃ l k xs, x = .ref l ∧ y = .int k ∧ SqT K H l xs ∧ xs ≠ [] ∧ -1000 ≤ k ∧ k ≤ 1000 ∧ xs.length ≤ 1000 ∧ (k = 1 → Q (.ref l) H) ∧ (k ≠ 1 → newT H (List.replicate k.toNat xs).flatten Q)
section
variable {X : Cx}
theorem op_repM : OpR X (binaryOp .Mult) (rRepM X.K) := by
  intro pins s σ H x y v u Q I rx ry h
  obtain ⟨l, k, xs, rfl, rfl, hT, hne, h0, h1, hz, q1, qn⟩ := h
  cases rx
  obtain ⟨t, rfl⟩ := ry
  obtain ⟨its, r, ⟨⟨cls, dd, data, sl⟩, ho, hc, n, hd⟩, hs⟩ := I.tuple hT
  simp only at hc hd
  subst hc hd
  have hle : its.length = xs.length := r.length.symm
  have hn : its ≠ [] := fun e => hne (by
    rw [e] at hle
    exact List.eq_nil_of_length_eq_zero hle.symm)
  have hi : its.toArray.isEmpty = false := by
    cases its with
    | nil => exact absurd rfl hn
    | cons a b => rfl
  have hsz0 : its.toArray.size = xs.length := by rw [List.size_toArray, hle]
  have c0 : (decide (k < -(2 ^ 63)) || decide (k ≥ 2 ^ 63)) = false := by
    rw [decide_eq_false (by omega), decide_eq_false (by omega)] <;> rfl
  refine wpAny_binaryOp_repeat_ref (T := "tuple") (U := "int") (by decide) ⟨_, ho, rfl⟩ (fun s' => typeIs_int s' k t) noFill_tuple_mul F.fills_int_mul F.slot_int_rmul repeat_tuple F.slot_int_index.lookup
    (call_meets F.slot_int_rmul (typeIs_int s k t) F.entry_int_rmul (F.args_int_rmul_2 _ _) (int_rmul_tuple k t l its.toArray n dd sl)
      ⟨ho, rfl, ⟨_, ho, rfl⟩, ?_⟩)
  by_cases e1 : k = 1
  · subst e1
    exact call_meets F.slot_tuple_mul ⟨_, ho, rfl⟩ F.entry_tuple_mul (F.args_tuple_mul_2 _ _) (tuple_mul1 l its.toArray n dd sl t) ⟨ho, .ref l, H, I, rfl, q1 rfl⟩
  have c1 : (its.toArray.isEmpty || k == 1) = false := by
    rw [hi, Bool.false_or]
    exact beq_eq_false_iff_ne.mpr e1
  by_cases e2 : k ≤ 0
  · have c2 : (decide (k ≤ 0) || its.toArray.isEmpty) = true := by rw [decide_eq_true e2]; rfl
    refine call_meets F.slot_tuple_mul ⟨_, ho, rfl⟩ F.entry_tuple_mul (F.args_tuple_mul_2 _ _) (tuple_mul0 l its.toArray n dd sl k t c0 c1 c2) ⟨ho, ?_⟩
    have e := Heap.get?_push_size s.heap (o := { cls := .type "tuple", data := .seq #[] }) rfl
    have ek : (List.replicate k.toNat xs).flatten = [] := by rw [show k.toNat = 0 by omega]; rfl
    have qn := qn e1
    rw [ek] at qn
    exact fin_tup (xs := []) (its := []) (t' := s.toks) I (fun b o e => Heap.get?_push_of_some _ e) (Nat.le_refl _) (Nat.zero_le _) (show Vals [] [] from r.rep 0) e ⟨_, e, rfl, _, rfl⟩ rfl qn
  · have hm : ((its.toArray.size : Nat) : Int) * k ≤ 1000000 := by
      rw [hsz0]
      have a1 : ((xs.length : Nat) : Int) * k ≤ 1000 * k := Int.mul_le_mul_of_nonneg_right (by omega) (by omega)
      omega
    have flen : (List.replicate k.toNat its).flatten.length ≤ sizeLine := by
      rw [PyProof.Rows.lm_len_rep_flat, hle, sizeLine_eq]
      have a1 : k.toNat * xs.length ≤ 1000 * 1000 := Nat.mul_le_mul (by omega) hz
      omega
    have c2 : (decide (k ≤ 0) || its.toArray.isEmpty) = false := by
      rw [hi, Bool.or_false]
      exact decide_eq_false (by omega)
    have c4 : Builtin.Tuple.tupleTooMany (((its.toArray.size : Nat) : Int) * k) = false := by
      unfold Builtin.Tuple.tupleTooMany
      rw [sizeLine_eq]
      exact decide_eq_false (by omega)
    refine call_meets F.slot_tuple_mul ⟨_, ho, rfl⟩ F.entry_tuple_mul (F.args_tuple_mul_2 _ _) (tuple_mulW l its.toArray n dd sl k t c0 c1 c2 (by omega) c4 (by rw [size_rep, List.size_toArray]; exact flen)) ⟨ho, ?_⟩
    rw [size_rep]
    have e := Heap.get?_push_size s.heap (o := { cls := .type "tuple", data := .seq (List.replicate k.toNat its).flatten.toArray }) rfl
    exact fin_tup (t' := s.toks) I (fun b o e => Heap.get?_push_of_some _ e) (Nat.le_refl _) (by rw [PyProof.Rows.lm_len_rep_flat, sizeLine_eq]; have a1 : k.toNat * xs.length ≤ 1000 * 1000 := Nat.mul_le_mul (by omega) hz; omega) (r.rep k.toNat) e ⟨_, e, rfl, _, rfl⟩ rfl (qn e1)
end
def gMulT : D → D → Sto → R D
  | .p (.tup xs), .p (.int k), S => if xs ≠ [] ∧ -1000 ≤ k ∧ k ≤ 1000 ∧ xs.length ≤ 1000 then .ok (.p (.tup (List.replicate k.toNat xs).flatten)) S else .no
  | _, _, _ => .no
theorem mulT_ways {X : Cx} (x y : D) (S : Sto) (d : D) (S' : Sto) (e : gMulT x y S = .ok d S') : ∃ r, OpR X (binaryOp .Mult) r ∧ Lk2 X.K r gMulT x y S := by
  refine ⟨_, op_repM, fun ι H v w d S' Q wd r1 r2 e k => ?_⟩
  unfold gMulT at e
  split at e
  · rename_i xs i _
    split at e
    · rename_i hc
      cases e
      obtain ⟨a, vs, rfl, h1, q1⟩ := r1.tupD
      cases r2.intD
      obtain ⟨hne, h0, h2, h3⟩ := hc
      refine ⟨a, i, vs, rfl, rfl, h1.sq, fun z => hne (by subst z; cases q1; rfl), h0, h2, by rw [q1.length]; exact h3, fun z => ?_, fun _ p o hp hd => ?_⟩
      · subst z
        refine k _ ι H (.refl _ _) wd (.p (.tup h1 ?_))
        have : (List.replicate (1 : Int).toNat xs).flatten = xs := by simp
        rw [this]; exact q1
      · exact k _ ι _ (Step.new1 wd hp _) (wd.new1 hp _) (RD.newTup wd hp hd (q1.rep i.toNat))
    · cases e
  · cases e
theorem re_mulT {X : Cx} {a b : Expr} {ca cb : CE} {pos : Pos} (ha : PE X a (RdE X.K ca)) (hb : PE X b (RdE X.K cb)) : PE X (.BinOp a .Mult b pos) (RdE X.K (c2 gMulT ca cb)) := re2 (op_ways mulT_ways) ha hb
theorem vMulT {xs : List P} {k : Int} (S : Sto) (h : xs ≠ []) (h0 : -1000 ≤ k) (h1 : k ≤ 1000) (h2 : xs.length ≤ 1000) : gMulT (.p (.tup xs)) (.p (.int k)) S = .ok (.p (.tup (List.replicate k.toNat xs).flatten)) S := by
  show (if _ then R.ok (Cw.D.p _) S else R.no : R Cw.D) = _
  rw [if_pos ⟨h, h0, h1, h2⟩]
end Cw
set_option Elab.async false
set_option linter.all false
set_option maxRecDepth 100000
set_option maxHeartbeats 4000000
/-! what bodies do, over the places of the defs that they call -/
namespace Gs
open Cw L2
/-- part_at(value, spot): value=0 spot=1 make=2 i=3 -/
def b_part_at (run : Run) : CS :=
  (sSeq (sFor (cIt (cVar 1)) (gTp 2 (gsCons (gN 2) (gsCons (gN 3) gsNil)))
    (sSeq (sIf (cOr (cNot (cTru (cIsi "tuple" (cVar 0)))) (cT (c2 (gEqB true) (c2 gIx (cVar 0) (cP (.int 0))) (cVar 2))))
    (sRet (cP .non))
    sNil)
  (sAsg (c2 gIx (cVar 0) (c2 gAdd (cVar 3) (cP (.int 1)))) (gN 0))))
  (sRet (cVar 0)))
def f_part_at : Fd := ⟨"part_at", ["value", "spot"], ["value", "spot", "make", "i"], b_part_at⟩
/-- number_at(value, spot): value=0 spot=1 part=2 -/
def b_number_at (ipart_at : Nat) (run : Run) : CS :=
  (sSeq (sIf (cT (c2 (gIs false) (cVar 1) (cP .non)))
    (sRet (cP (.int 0)))
    sNil)
  (sSeq (sAsg (cCallV true run ipart_at (cCons (cVar 0) (cCons (cVar 1) cNil))) (gN 2))
  (sSeq (sIf (cTru (cIsi "tuple" (cVar 2)))
    (sRet (cP .non))
    sNil)
  (sRet (cVar 2)))))
def f_number_at (ipart_at : Nat) : Fd := ⟨"number_at", ["value", "spot"], ["value", "spot", "part"], b_number_at ipart_at⟩
/-- holds(value, test): value=0 test=1 part=2 here=3 there=4 -/
def b_holds (inumber_at ipart_at : Nat) (run : Run) : CS :=
  (sSeq (sIf (cT (c2 (gEqB false) (c2 gIx (cVar 1) (cP (.int 0))) (cP (.str "is"))))
    (sSeq (sAsg (cCallV true run ipart_at (cCons (cVar 0) (cCons (c2 gIx (cVar 1) (cP (.int 1))) cNil))) (gN 2))
  (sRet (cAndV (cIsi "tuple" (cVar 2)) (c2 (gEqB false) (c2 gIx (cVar 2) (cP (.int 0))) (c2 gIx (cVar 1) (cP (.int 2)))))))
    sNil)
  (sSeq (sAsg (cCallV true run inumber_at (cCons (cVar 0) (cCons (c2 gIx (cVar 1) (cP (.int 1))) cNil))) (gN 3))
  (sSeq (sAsg (cCallV true run inumber_at (cCons (cVar 0) (cCons (c2 gIx (cVar 1) (cP (.int 2))) cNil))) (gN 4))
  (sRet (cAndV (c2 (gIs true) (cVar 3) (cP .non)) (cAndV (c2 (gIs true) (cVar 4) (cP .non)) (c2 gLe (cVar 3) (c2 gAdd (cVar 4) (c2 gIx (cVar 1) (cP (.int 3)))))))))))
def f_holds (inumber_at ipart_at : Nat) : Fd := ⟨"holds", ["value", "test"], ["value", "test", "part", "here", "there"], b_holds inumber_at ipart_at⟩
/-- fits(value, line): value=0 line=1 test=2 -/
def b_fits (iholds : Nat) (run : Run) : CS :=
  (sRet (c1 gAll (cCons (cRo (cComp (cIt (c2 gIx (cVar 1) (cP (.int 0)))) (gN 2) cYes (cCallV true run iholds (cCons (cVar 0) (cCons (cVar 2) cNil))) [2])) cNil)))
def f_fits (iholds : Nat) : Fd := ⟨"fits", ["value", "line"], ["value", "line", "test"], b_fits iholds⟩
/-- contrary(test): test=0 -/
def b_contrary (run : Run) : CS :=
  (sRet (cTup (cCons (cP (.str "most")) (cCons (c2 gIx (cVar 0) (cP (.int 2))) (cCons (c2 gIx (cVar 0) (cP (.int 1))) (cCons (c2 gSub (cNeg (c2 gIx (cVar 0) (cP (.int 3)))) (cP (.int 1))) cNil))))))
def f_contrary : Fd := ⟨"contrary", ["test"], ["test"], b_contrary⟩
/-- _law_cell(script, k): script=0 k=1 -/
def b_law_cell (run : Run) : CS :=
  (sSeq (sIf (cT (c2 gLt (cVar 1) (c1 gLen (cCons (cVar 0) cNil))))
    (sRet (c2 gIx (cVar 0) (cVar 1)))
    sNil)
  (sRet (cP (.int 0))))
def f_law_cell : Fd := ⟨"_law_cell", ["script", "k"], ["script", "k"], b_law_cell⟩
/-- _law_next(pool, base): pool=0 base=1 digit=2 near=3 stir=4 -/
def b_law_next (run : Run) : CS :=
  (sSeq (sIf (cT (c2 gGt (c2 gIx (cVar 0) (cP (.int 0))) (cP (.int 0))))
    (sSeq (sAsg (c2 gMod (c2 gIx (cVar 0) (cP (.int 0))) (cVar 1)) (gN 2))
  (sSeq (sAsg (c2 gDiv (c2 gIx (cVar 0) (cP (.int 0))) (cVar 1)) (gAt (cVar 0) (cP (.int 0))))
  (sRet (cVar 2))))
    sNil)
  (sSeq (sAsg (c2 gAdd (c2 gIx (cVar 0) (cP (.int 2))) (cP (.int 1))) (gAt (cVar 0) (cP (.int 2))))
  (sSeq (sAsg (c2 gMod (c2 gAdd (c2 gIx (cVar 0) (cP (.int 1))) (c2 gMul (cP (.int 7919)) (c2 gIx (cVar 0) (cP (.int 2))))) (cP (.int 1000000007))) (gN 3))
  (sSeq (sAsg (c2 gMod (c2 gMul (c2 gAdd (cVar 3) (cP (.int 11))) (c2 gAdd (cVar 3) (cP (.int 48271)))) (cP (.int 998244353))) (gN 4))
  (sRet (c2 gMod (c2 gDiv (c2 gMod (c2 gMul (cVar 4) (cVar 4)) (cP (.int 2147483647))) (cP (.int 8))) (cVar 1)))))))
def f_law_next : Fd := ⟨"_law_next", ["pool", "base"], ["pool", "base", "digit", "near", "stir"], b_law_next⟩
/-- _law_names(pool, many): pool=0 many=1 letters=2 base=3 at=4 first=5 tails=6 found=7 k=8 name=9 -/
def b_law_names (i_law_next : Nat) (run : Run) : CS :=
  (sSeq (sAsg (cP (.str "abcdefghijklmnopqrstuvwxyz")) (gN 2))
  (sSeq (sAsg (cM "str" gJoin (cP (.str "")) (cCons (cRo (cComp (cRng1 (cCallV true run i_law_next (cCons (cVar 0) (cCons (cP (.int 7)) cNil)))) (gN 8) cYes (c2 gIx (cVar 2) (cCallV true run i_law_next (cCons (cVar 0) (cCons (cP (.int 26)) cNil)))) [8])) cNil)) (gN 3))
  (sSeq (sAsg (cCallV true run i_law_next (cCons (cVar 0) (cCons (c2 gAdd (c1 gLen (cCons (cVar 3) cNil)) (cP (.int 1))) cNil))) (gN 4))
  (sSeq (sAsg (cCallV true run i_law_next (cCons (cVar 0) (cCons (cP (.int 26)) cNil))) (gN 5))
  (sSeq (sAsg (cCallV true run i_law_next (cCons (cVar 0) (cCons (cP (.int 3)) cNil))) (gN 6))
  (sSeq (sAsg (cTr (cLst cNil)) (gN 7))
  (sSeq (sFor (cRng1 (cVar 1)) (gN 8)
    (sSeq (sAsg (c2 gAdd (c2 gAdd (cSl (cVar 3) cONone (cOSome (cVar 4))) (c2 gIx (cVar 2) (c2 gMod (c2 gAdd (cVar 5) (c2 gMul (cP (.int 5)) (cVar 8))) (cP (.int 26))))) (cSl (cVar 3) (cOSome (cVar 4)) cONone)) (gN 9))
  (sSeq (sIf (cAnd (cT (c2 (gEqB false) (cVar 6) (cP (.int 1)))) (cT (c2 (gEqB false) (c2 gMod (cVar 8) (cP (.int 2))) (cP (.int 1)))))
    (sAsg (c2 gAdd (cVar 9) (c2 gIx (cVar 2) (c2 gMod (c2 gAdd (cVar 5) (cVar 8)) (cP (.int 26))))) (gN 9))
    sNil)
  (sDrop (cM "list" gAppend (cVar 7) (cCons (cVar 9) cNil))))))
  (sRet (cVar 7)))))))))
def f_law_names (i_law_next : Nat) : Fd := ⟨"_law_names", ["pool", "many"], ["pool", "many", "letters", "base", "at", "first", "tails", "found", "k", "name"], b_law_names i_law_next⟩
/-- _law_book(pool): pool=0 many=1 kinds=2 makes=3 book=4 at=5 kind=6 count=7 some=8 k=9 wide=10 fields=11 name=12 place=13 -/
def b_law_book (i_law_next i_law_names : Nat) (run : Run) : CS :=
  (sSeq (sAsg (c2 gIx (cRo (cLst (cCons (cP (.int 1)) (cCons (cP (.int 2)) (cCons (cP (.int 2)) (cCons (cP (.int 3)) (cCons (cP (.int 3)) (cCons (cP (.int 4)) (cCons (cP (.int 4)) (cCons (cP (.int 6)) cNil)))))))))) (cCallV true run i_law_next (cCons (cVar 0) (cCons (cP (.int 8)) cNil)))) (gN 1))
  (sSeq (sAsg (cRo (cComp (cIt (cCallV true run i_law_names (cCons (cVar 0) (cCons (cVar 1) cNil)))) (gN 12) cYes (c2 gIx (cRo (cLst (cCons (cVar 12) (cCons (cP (.str "numb")) cNil)))) (c1 gIntOf (cCons (c2 (gEqB false) (cVar 12) (cP (.str "num"))) cNil))) [12])) (gN 2))
  (sSeq (sAsg (cCallV false run i_law_names (cCons (cVar 0) (cCons (cP (.int 26)) cNil))) (gN 3))
  (sSeq (sAsg (cTr (cLst cNil)) (gN 4))
  (sSeq (sFor (cEnum (cVar 2)) (gTp 2 (gsCons (gN 5) (gsCons (gN 6) gsNil)))
    (sSeq (sAsg (c1 gMin (cCons (c2 gIx (cRo (cLst (cCons (cP (.int 1)) (cCons (cP (.int 2)) (cCons (cP (.int 2)) (cCons (cP (.int 3)) (cCons (cP (.int 3)) (cCons (cP (.int 2)) (cCons (cP (.int 4)) (cCons (cP (.int 6)) cNil)))))))))) (cCallV true run i_law_next (cCons (cVar 0) (cCons (cP (.int 8)) cNil)))) (cCons (c2 gSub (c1 gLen (cCons (cVar 3) cNil)) (c2 gSub (c2 gSub (cVar 1) (cP (.int 1))) (cVar 5))) cNil))) (gN 7))
  (sSeq (sAsg (cTr (cLst cNil)) (gN 8))
  (sSeq (sFor (cRng1 (cVar 7)) (gN 9)
    (sSeq (sAsg (c1 gMin (cCons (c2 gIx (cRo (cLst (cCons (cP (.int 4)) (cCons (cP (.int 2)) cNil)))) (c1 gIntOf (cCons (c2 gGt (cVar 1) (cP (.int 3))) cNil))) (cCons (c2 gIx (cRo (cLst (cCons (cP (.int 0)) (cCons (cP (.int 0)) (cCons (cP (.int 1)) (cCons (cP (.int 1)) (cCons (cP (.int 2)) (cCons (cP (.int 2)) (cCons (cP (.int 3)) (cCons (cP (.int 4)) cNil)))))))))) (cCallV true run i_law_next (cCons (cVar 0) (cCons (cP (.int 8)) cNil)))) cNil))) (gN 10))
  (sSeq (sAsg (cRo (cComp (cRng1 (cVar 10)) (gN 13) cYes (c2 gIx (c2 gAdd (cVar 2) (cRo (cLst (cCons (cP (.str "num")) (cCons (cP (.str "num")) cNil))))) (cCallV true run i_law_next (cCons (cVar 0) (cCons (c2 gAdd (cVar 1) (cP (.int 2))) cNil)))) [13])) (gN 11))
  (sDrop (cM "list" gAppend (cVar 8) (cCons (cTup (cCons (cM "list" gPopAt (cVar 3) (cCons (cP (.int 0)) cNil)) (cCons (c1 gTuple (cCons (cVar 11) cNil)) cNil))) cNil))))))
  (sDrop (cM "list" gAppend (cVar 4) (cCons (cTup (cCons (cVar 6) (cCons (c1 gTuple (cCons (cVar 8) cNil)) cNil))) cNil)))))))
  (sRet (c1 gTuple (cCons (cVar 4) cNil))))))))
def f_law_book (i_law_next i_law_names : Nat) : Fd := ⟨"_law_book", ["pool"], ["pool", "many", "kinds", "makes", "book", "at", "kind", "count", "some", "k", "wide", "fields", "name", "place"], b_law_book i_law_next i_law_names⟩
/-- _law_plain(book): book=0 plain=1 turn=2 fresh=3 kind=4 makes=5 make=6 fields=7 field=8 -/
def b_law_plain (run : Run) : CS :=
  (sSeq (sAsg (cDt (cDisp [((cP (.str "num")), (cP (.int 0)))])) (gN 1))
  (sSeq (sFor (cRng1 (c1 gLen (cCons (cVar 0) cNil))) (gN 2)
    (sSeq (sAsg (cDt cDNew) (gN 3))
  (sSeq (sFor (cIt (cVar 0)) (gTp 2 (gsCons (gN 4) (gsCons (gN 5) gsNil)))
    (sFor (cIt (cVar 5)) (gTp 2 (gsCons (gN 6) (gsCons (gN 7) gsNil)))
    (sIf (cAnd (cT (c2 (gInB true) (cVar 4) (cVar 1))) (cAnd (cT (c2 (gInB true) (cVar 4) (cVar 3))) (cTru (c1 gAll (cCons (cRo (cComp (cIt (cVar 7)) (gN 8) cYes (c2 (gInB false) (cVar 8) (cVar 1)) [8])) cNil)))))
    (sAsg (c2 gAdd (cTup (cCons (cVar 6) cNil)) (c1 gTuple (cCons (cRo (cComp (cIt (cVar 7)) (gN 8) cYes (c2 gIx (cVar 1) (cVar 8)) [8])) cNil))) (gAt (cVar 3) (cVar 4)))
    sNil)))
  (sDrop (cM "dict" gUpdate (cVar 1) (cCons (cVar 3) cNil))))))
  (sRet (cVar 1))))
def f_law_plain : Fd := ⟨"_law_plain", ["book"], ["book", "plain", "turn", "fresh", "kind", "makes", "make", "fields", "field"], b_law_plain⟩
/-- _law_coming(book, plain, kind): book=0 plain=1 kind=2 make=3 field=4 -/
def b_law_coming (run : Run) : CS :=
  (sRet (cRo (cComp (cIt (cGet2 (cDo (cDPairs (cVar 0))) (cVar 2) (cTup cNil))) (gN 3) (cTru (c1 gAll (cCons (cRo (cComp (cIt (c2 gIx (cVar 3) (cP (.int 1)))) (gN 4) cYes (c2 (gInB false) (cVar 4) (cVar 1)) [4])) cNil))) (cVar 3) [3])))
def f_law_coming : Fd := ⟨"_law_coming", ["book", "plain", "kind"], ["book", "plain", "kind", "make", "field"], b_law_coming⟩
/-- _law_make_names(book): book=0 found=1 kind=2 makes=3 make=4 -/
def b_law_make_names (run : Run) : CS :=
  (sSeq (sAsg (cTr (cLst cNil)) (gN 1))
  (sSeq (sFor (cIt (cVar 0)) (gTp 2 (gsCons (gN 2) (gsCons (gN 3) gsNil)))
    (sDrop (cM "list" gExtend (cVar 1) (cCons (cRo (cComp (cIt (cVar 3)) (gN 4) cYes (c2 gIx (cVar 4) (cP (.int 0))) [4])) cNil))))
  (sRet (cVar 1))))
def f_law_make_names : Fd := ⟨"_law_make_names", ["book"], ["book", "found", "kind", "makes", "make"], b_law_make_names⟩
/-- _law_number(pool): pool=0 way=1 -/
def b_law_number (i_law_next : Nat) (run : Run) : CS :=
  (sSeq (sAsg (cCallV true run i_law_next (cCons (cVar 0) (cCons (cP (.int 6)) cNil))) (gN 1))
  (sSeq (sIf (cT (c2 gLt (cVar 1) (cP (.int 4))))
    (sRet (c2 gSub (cCallV true run i_law_next (cCons (cVar 0) (cCons (cP (.int 9)) cNil))) (cP (.int 4))))
    sNil)
  (sSeq (sIf (cT (c2 (gEqB false) (cVar 1) (cP (.int 4))))
    (sRet (c2 gSub (cCallV true run i_law_next (cCons (cVar 0) (cCons (cP (.int 2001)) cNil))) (cP (.int 1000))))
    sNil)
  (sRet (c2 gSub (cCallV true run i_law_next (cCons (cVar 0) (cCons (c2 gPow (cP (.int 10)) (cP (.int 30))) cNil))) (cCallV true run i_law_next (cCons (cVar 0) (cCons (c2 gPow (cP (.int 10)) (cP (.int 30))) cNil))))))))
def f_law_number (i_law_next : Nat) : Fd := ⟨"_law_number", ["pool"], ["pool", "way"], b_law_number i_law_next⟩
/-- _law_value(book, plain, kind, pool, deep): book=0 plain=1 kind=2 pool=3 deep=4 makes=5 make=6 fields=7 field=8 -/
def b_law_value (i_law_value i_law_next i_law_coming i_law_number : Nat) (run : Run) : CS :=
  (sSeq (sIf (cT (c2 (gEqB false) (cVar 2) (cP (.str "num"))))
    (sRet (cCallV true run i_law_number (cCons (cVar 3) cNil)))
    sNil)
  (sSeq (sIf (cT (c2 gLt (cVar 4) (cP (.int 1))))
    (sRet (c2 gIx (cVar 1) (cVar 2)))
    sNil)
  (sSeq (sAsg (cCallV true run i_law_coming (cCons (cVar 0) (cCons (cVar 1) (cCons (cVar 2) cNil)))) (gN 5))
  (sSeq (sAsg (c2 gIx (cVar 5) (cCallV true run i_law_next (cCons (cVar 3) (cCons (c1 gLen (cCons (cVar 5) cNil)) cNil)))) (gTp 2 (gsCons (gN 6) (gsCons (gN 7) gsNil))))
  (sRet (c2 gAdd (cTup (cCons (cVar 6) cNil)) (c1 gTuple (cCons (cRo (cComp (cIt (cVar 7)) (gN 8) cYes (cCallV true run i_law_value (cCons (cVar 0) (cCons (cVar 1) (cCons (cVar 8) (cCons (cVar 3) (cCons (c2 gSub (cVar 4) (cP (.int 1))) cNil)))))) [8])) cNil))))))))
def f_law_value (i_law_value i_law_next i_law_coming i_law_number : Nat) : Fd := ⟨"_law_value", ["book", "plain", "kind", "pool", "deep"], ["book", "plain", "kind", "pool", "deep", "makes", "make", "fields", "field"], b_law_value i_law_value i_law_next i_law_coming i_law_number⟩
/-- _law_pool(cell): cell=0 -/
def b_law_pool (run : Run) : CS :=
  (sRet (cTr (cLst (cCons (c1 gMax (cCons (cP (.int 0)) (cCons (c2 gSub (cVar 0) (c2 gPow (cP (.int 10)) (cP (.int 18)))) cNil))) (cCons (c2 gMod (cVar 0) (c2 gPow (cP (.int 10)) (cP (.int 18)))) (cCons (cP (.int 0)) cNil))))))
def f_law_pool : Fd := ⟨"_law_pool", ["cell"], ["cell"], b_law_pool⟩
/-- _law_spots(value, spot): value=0 spot=1 found=2 at=3 -/
def b_law_spots (i_law_spots : Nat) (run : Run) : CS :=
  (sSeq (sAsg (cTr (cLst (cCons (cTup (cCons (cVar 1) (cCons (cVar 0) cNil))) cNil))) (gN 2))
  (sSeq (sIf (cTru (cIsi "tuple" (cVar 0)))
    (sFor (cRng1 (c2 gSub (c1 gLen (cCons (cVar 0) cNil)) (cP (.int 1)))) (gN 3)
    (sDrop (cM "list" gExtend (cVar 2) (cCons (cCallV true run i_law_spots (cCons (c2 gIx (cVar 0) (c2 gAdd (cVar 3) (cP (.int 1)))) (cCons (c2 gAdd (cVar 1) (cTup (cCons (cTup (cCons (c2 gIx (cVar 0) (cP (.int 0))) (cCons (cVar 3) cNil))) cNil))) cNil))) cNil))))
    sNil)
  (sRet (cVar 2))))
def f_law_spots (i_law_spots : Nat) : Fd := ⟨"_law_spots", ["value", "spot"], ["value", "spot", "found", "at"], b_law_spots i_law_spots⟩
/-- _law_most_drawn(spots, pool): spots=0 pool=1 numbers=2 one=3 other=4 beside=5 pair=6 -/
def b_law_most_drawn (i_law_next : Nat) (run : Run) : CS :=
  (sSeq (sAsg (c2 gAdd (cRo (cLst (cCons (cTup (cCons (cP .non) (cCons (cP (.int 0)) cNil))) cNil))) (cRo (cComp (cIt (cVar 0)) (gN 6) (cTru (cIsi "int" (c2 gIx (cVar 6) (cP (.int 1))))) (cVar 6) [6]))) (gN 2))
  (sSeq (sAsg (c2 gIx (cVar 2) (cCallV true run i_law_next (cCons (cVar 1) (cCons (c1 gLen (cCons (cVar 2) cNil)) cNil)))) (gN 3))
  (sSeq (sAsg (c2 gIx (cVar 2) (cCallV true run i_law_next (cCons (cVar 1) (cCons (c1 gLen (cCons (cVar 2) cNil)) cNil)))) (gN 4))
  (sSeq (sIf (cAnd (cT (c2 (gIs false) (c2 gIx (cVar 3) (cP (.int 0))) (cP .non))) (cT (c2 (gIs false) (c2 gIx (cVar 4) (cP (.int 0))) (cP .non))))
    (sAsg (c2 gIx (cVar 2) (cNeg (cP (.int 1)))) (gN 3))
    sNil)
  (sSeq (sAsg (c2 gSub (cCallV true run i_law_next (cCons (cVar 1) (cCons (cP (.int 5)) cNil))) (cP (.int 2))) (gN 5))
  (sRet (cTup (cCons (cTup (cCons (cP (.str "most")) (cCons (c2 gIx (cVar 3) (cP (.int 0))) (cCons (c2 gIx (cVar 4) (cP (.int 0))) (cCons (c2 gAdd (c2 gSub (c2 gIx (cVar 3) (cP (.int 1))) (c2 gIx (cVar 4) (cP (.int 1)))) (cVar 5)) cNil))))) (cCons (c2 gGe (cVar 5) (cP (.int 0))) cNil)))))))))
def f_law_most_drawn (i_law_next : Nat) : Fd := ⟨"_law_most_drawn", ["spots", "pool"], ["spots", "pool", "numbers", "one", "other", "beside", "pair"], b_law_most_drawn i_law_next⟩
/-- _law_is_drawn(book, spots, pool): book=0 spots=1 pool=2 made=3 spot=4 part=5 names=6 name=7 pair=8 -/
def b_law_is_drawn (i_law_next i_law_make_names : Nat) (run : Run) : CS :=
  (sSeq (sAsg (cRo (cComp (cIt (cVar 1)) (gN 8) (cTru (cIsi "tuple" (c2 gIx (cVar 8) (cP (.int 1))))) (cVar 8) [8])) (gN 3))
  (sSeq (sAsg (c2 gIx (cVar 3) (cCallV true run i_law_next (cCons (cVar 2) (cCons (c1 gLen (cCons (cVar 3) cNil)) cNil)))) (gTp 2 (gsCons (gN 4) (gsCons (gN 5) gsNil))))
  (sSeq (sAsg (cCallV true run i_law_make_names (cCons (cVar 0) cNil)) (gN 6))
  (sSeq (sAsg (c2 gIx (cRo (cLst (cCons (c2 gIx (cVar 5) (cP (.int 0))) (cCons (c2 gIx (cVar 6) (cCallV true run i_law_next (cCons (cVar 2) (cCons (c1 gLen (cCons (cVar 6) cNil)) cNil)))) cNil)))) (cCallV true run i_law_next (cCons (cVar 2) (cCons (cP (.int 2)) cNil)))) (gN 7))
  (sRet (cTup (cCons (cTup (cCons (cP (.str "is")) (cCons (cVar 4) (cCons (cVar 7) cNil)))) (cCons (c2 (gEqB false) (cVar 7) (c2 gIx (cVar 5) (cP (.int 0)))) cNil))))))))
def f_law_is_drawn (i_law_next i_law_make_names : Nat) : Fd := ⟨"_law_is_drawn", ["book", "spots", "pool"], ["book", "spots", "pool", "made", "spot", "part", "names", "name", "pair"], b_law_is_drawn i_law_next i_law_make_names⟩
/-- _law_gone_spot(book, value): book=0 value=1 some=2 kind=3 makes=4 make=5 fields=6 spot=7 -/
def b_law_gone_spot (run : Run) : CS :=
  (sSeq (sAsg (cTr (cLst cNil)) (gN 2))
  (sSeq (sFor (cIt (cVar 0)) (gTp 2 (gsCons (gN 3) (gsCons (gN 4) gsNil)))
    (sDrop (cM "list" gExtend (cVar 2) (cCons (cRo (cComp (cIt (cVar 4)) (gTp 2 (gsCons (gN 5) (gsCons (gN 6) gsNil))) (cT (c2 gGt (c1 gLen (cCons (cVar 6) cNil)) (cP (.int 0)))) (cTup (cCons (cTup (cCons (cVar 5) (cCons (cP (.int 0)) cNil))) cNil)) [5, 6])) cNil))))
  (sRet (cRo (cComp (cIt (cVar 2)) (gN 7) (cOr (cNot (cTru (cIsi "tuple" (cVar 1)))) (cT (c2 (gEqB true) (c2 gIx (c2 gIx (cVar 7) (cP (.int 0))) (cP (.int 0))) (c2 gIx (cVar 1) (cP (.int 0)))))) (cVar 7) [7])))))
def f_law_gone_spot : Fd := ⟨"_law_gone_spot", ["book", "value"], ["book", "value", "some", "kind", "makes", "make", "fields", "spot"], b_law_gone_spot⟩
/-- _law_others_right(book, spots): book=0 spots=1 value=2 names=3 spot=4 part=5 test=6 -/
def b_law_others_right (iholds i_law_make_names : Nat) (run : Run) : CS :=
  (sSeq (sAsg (c2 gIx (c2 gIx (cVar 1) (cP (.int 0))) (cP (.int 1))) (gN 2))
  (sSeq (sAsg (cCallV true run i_law_make_names (cCons (cVar 0) cNil)) (gN 3))
  (sSeq (sFor (cIt (cSl (cVar 1) cONone (cOSome (cP (.int 8))))) (gTp 2 (gsCons (gN 4) (gsCons (gN 5) gsNil)))
    (sSeq (sAsg (cTup (cCons (cP (.str "is")) (cCons (cVar 4) (cCons (c2 gIx (cVar 3) (cP (.int 0))) cNil)))) (gN 6))
  (sSeq (sIf (cTru (cIsi "tuple" (cVar 5)))
    (sSeq (sAsg (cTup (cCons (cP (.str "most")) (cCons (cVar 4) (cCons (cP .non) (cCons (c2 gPow (cP (.int 10)) (cP (.int 40))) cNil))))) (gN 6))
  (sIf (cT (c2 (gIsB true) (cCallV true run iholds (cCons (cVar 2) (cCons (cTup (cCons (cP (.str "most")) (cCons (cP .non) (cCons (cVar 4) (cCons (c2 gPow (cP (.int 10)) (cP (.int 40))) cNil))))) cNil))) (cP (.bl false))))
    (sRet (cP (.bl false)))
    sNil))
    sNil)
  (sIf (cT (c2 (gIsB true) (cCallV true run iholds (cCons (cVar 2) (cCons (cVar 6) cNil))) (cP (.bl false))))
    (sRet (cP (.bl false)))
    sNil))))
  (sRet (cP (.bl true))))))
def f_law_others_right (iholds i_law_make_names : Nat) : Fd := ⟨"_law_others_right", ["book", "spots"], ["book", "spots", "value", "names", "spot", "part", "test"], b_law_others_right iholds i_law_make_names⟩
/-- _law_gone_right(book, value): book=0 value=1 spot=2 test=3 -/
def b_law_gone_right (i_law_gone_spot iholds ifits icontrary : Nat) (run : Run) : CS :=
  (sSeq (sFor (cIt (cCallV true run i_law_gone_spot (cCons (cVar 0) (cCons (cVar 1) cNil)))) (gN 2)
    (sSeq (sFor (cIt (cRo (cLst (cCons (cTup (cCons (cP (.str "most")) (cCons (cVar 2) (cCons (cP .non) (cCons (c2 gPow (cP (.int 10)) (cP (.int 40))) cNil))))) (cCons (cTup (cCons (cP (.str "most")) (cCons (cP .non) (cCons (cVar 2) (cCons (cNeg (c2 gPow (cP (.int 10)) (cP (.int 40)))) cNil))))) cNil))))) (gN 3)
    (sIf (cOr (cT (c2 (gIsB true) (cCallV true run iholds (cCons (cVar 1) (cCons (cVar 3) cNil))) (cP (.bl false)))) (cT (c2 (gIsB true) (cCallV true run iholds (cCons (cVar 1) (cCons (cCallV true run icontrary (cCons (cVar 3) cNil)) cNil))) (cP (.bl false)))))
    (sRet (cP (.bl false)))
    sNil))
  (sIf (cOr (cT (c2 (gIsB true) (cCallV true run iholds (cCons (cVar 1) (cCons (cTup (cCons (cP (.str "is")) (cCons (cVar 2) (cCons (c2 gIx (c2 gIx (cVar 2) (cP (.int 0))) (cP (.int 0))) cNil)))) cNil))) (cP (.bl false)))) (cTru (cCallV true run ifits (cCons (cVar 1) (cCons (cTup (cCons (cTup (cCons (cTup (cCons (cP (.str "is")) (cCons (cVar 2) (cCons (c2 gIx (c2 gIx (cVar 2) (cP (.int 0))) (cP (.int 0))) cNil)))) cNil)) (cCons (cTup cNil) cNil))) cNil)))))
    (sRet (cP (.bl false)))
    sNil)))
  (sRet (cP (.bl true))))
def f_law_gone_right (i_law_gone_spot iholds ifits icontrary : Nat) : Fd := ⟨"_law_gone_right", ["book", "value"], ["book", "value", "spot", "test"], b_law_gone_right i_law_gone_spot iholds ifits icontrary⟩
/-- first_made(makes, known): makes=0 known=1 make=2 fields=3 field=4 -/
def b_first_made (run : Run) : CS :=
  (sSeq (sFor (cIt (cVar 0)) (gTp 2 (gsCons (gN 2) (gsCons (gN 3) gsNil)))
    (sIf (cTru (c1 gAll (cCons (cRo (cComp (cIt (cVar 3)) (gN 4) cYes (c2 (gInB false) (cVar 4) (cVar 1)) [4])) cNil)))
    (sRet (c2 gAdd (cTup (cCons (cVar 2) cNil)) (c1 gTuple (cCons (cRo (cComp (cIt (cVar 3)) (gN 4) cYes (c2 gIx (cVar 1) (cVar 4)) [4])) cNil))))
    sNil))
  (sRet (cP .non)))
def f_first_made : Fd := ⟨"first_made", ["makes", "known"], ["makes", "known", "make", "fields", "field"], b_first_made⟩
/-- next_round(book, known): book=0 known=1 fresh=2 kind=3 makes=4 value=5 -/
def b_next_round (ifirst_made : Nat) (run : Run) : CS :=
  (sSeq (sAsg (cDt cDNew) (gN 2))
  (sSeq (sFor (cIt (cVar 0)) (gTp 2 (gsCons (gN 3) (gsCons (gN 4) gsNil)))
    (sSeq (sAsg (cCallV true run ifirst_made (cCons (cVar 4) (cCons (cVar 1) cNil))) (gN 5))
  (sIf (cAnd (cT (c2 (gInB true) (cVar 3) (cVar 1))) (cT (c2 (gIs true) (cVar 5) (cP .non))))
    (sAsg (cVar 5) (gAt (cVar 2) (cVar 3)))
    sNil)))
  (sRet (cVar 2))))
def f_next_round (ifirst_made : Nat) : Fd := ⟨"next_round", ["book", "known"], ["book", "known", "fresh", "kind", "makes", "value"], b_next_round ifirst_made⟩
/-- plain_values(book): book=0 known=1 fresh=2 -/
def b_plain_values (inext_round : Nat) (run : Run) : CS :=
  (sSeq (sAsg (cDt (cDisp [((cP (.str "num")), (cP (.int 0)))])) (gN 1))
  (sSeq (sAsg (cCallV true run inext_round (cCons (cVar 0) (cCons (cVar 1) cNil))) (gN 2))
  (sSeq (sWhile (cT (c2 gGt (c1 gLen (cCons (cVar 2) cNil)) (cP (.int 0))))
    (sSeq (sDrop (cM "dict" gUpdate (cVar 1) (cCons (cVar 2) cNil)))
  (sAsg (cCallV true run inext_round (cCons (cVar 0) (cCons (cVar 1) cNil))) (gN 2))))
  (sRet (cVar 1)))))
def f_plain_values (inext_round : Nat) : Fd := ⟨"plain_values", ["book"], ["book", "known", "fresh"], b_plain_values inext_round⟩
/-- all_makes(book, kind): book=0 kind=1 name=2 makes=3 -/
def b_all_makes (run : Run) : CS :=
  (sSeq (sFor (cIt (cVar 0)) (gTp 2 (gsCons (gN 2) (gsCons (gN 3) gsNil)))
    (sIf (cT (c2 (gEqB false) (cVar 2) (cVar 1)))
    (sRet (cVar 3))
    sNil))
  (sRet (cTup cNil)))
def f_all_makes : Fd := ⟨"all_makes", ["book", "kind"], ["book", "kind", "name", "makes"], b_all_makes⟩
/-- stretch_tests(spot, low, high): spot=0 low=1 high=2 tests=3 -/
def b_stretch_tests (run : Run) : CS :=
  (sSeq (sAsg (cTr (cLst cNil)) (gN 3))
  (sSeq (sIf (cT (c2 (gIs true) (cVar 1) (cP .non)))
    (sDrop (cM "list" gAppend (cVar 3) (cCons (cTup (cCons (cP (.str "most")) (cCons (cP .non) (cCons (cVar 0) (cCons (cNeg (cVar 1)) cNil))))) cNil)))
    sNil)
  (sSeq (sIf (cT (c2 (gIs true) (cVar 2) (cP .non)))
    (sDrop (cM "list" gAppend (cVar 3) (cCons (cTup (cCons (cP (.str "most")) (cCons (cVar 0) (cCons (cP .non) (cCons (cVar 2) cNil))))) cNil)))
    sNil)
  (sRet (c1 gTuple (cCons (cVar 3) cNil))))))
def f_stretch_tests : Fd := ⟨"stretch_tests", ["spot", "low", "high"], ["spot", "low", "high", "tests"], b_stretch_tests⟩
/-- joined(lines, more): lines=0 more=1 found=2 tests=3 held=4 others=5 behind=6 -/
def b_joined (run : Run) : CS :=
  (sSeq (sAsg (cTr (cLst cNil)) (gN 2))
  (sSeq (sFor (cIt (cVar 0)) (gTp 2 (gsCons (gN 3) (gsCons (gN 4) gsNil)))
    (sFor (cIt (cVar 1)) (gTp 2 (gsCons (gN 5) (gsCons (gN 6) gsNil)))
    (sDrop (cM "list" gAppend (cVar 2) (cCons (cTup (cCons (c2 gAdd (cVar 3) (cVar 5)) (cCons (c2 gAdd (cVar 4) (cVar 6)) cNil))) cNil)))))
  (sRet (cVar 2))))
def f_joined : Fd := ⟨"joined", ["lines", "more"], ["lines", "more", "found", "tests", "held", "others", "behind"], b_joined⟩
/-- coming_fields(book, known, kind): book=0 known=1 kind=2 found=3 make=4 fields=5 field=6 -/
def b_coming_fields (iall_makes : Nat) (run : Run) : CS :=
  (sSeq (sAsg (cDt cDNew) (gN 3))
  (sSeq (sFor (cIt (cCallV true run iall_makes (cCons (cVar 0) (cCons (cVar 2) cNil)))) (gTp 2 (gsCons (gN 4) (gsCons (gN 5) gsNil)))
    (sIf (cTru (c1 gAll (cCons (cRo (cComp (cIt (cVar 5)) (gN 6) cYes (c2 (gInB false) (cVar 6) (cVar 1)) [6])) cNil)))
    (sAsg (cVar 5) (gAt (cVar 3) (cVar 4)))
    sNil))
  (sRet (cVar 3))))
def f_coming_fields (iall_makes : Nat) : Fd := ⟨"coming_fields", ["book", "known", "kind"], ["book", "known", "kind", "found", "make", "fields", "field"], b_coming_fields iall_makes⟩
/-- make_lines(book, known, kind, shape, spot): book=0 known=1 kind=2 shape=3 spot=4 name=5 coming=6 parts=7 place=8 field=9 lines=10 part=11 -/
def b_make_lines (ijoined ilined icoming_fields : Nat) (run : Run) : CS :=
  (sSeq (sAsg (c2 gIx (cVar 3) (cP (.int 1))) (gN 5))
  (sSeq (sAsg (cCallV true run icoming_fields (cCons (cVar 0) (cCons (cVar 1) (cCons (cVar 2) cNil)))) (gN 6))
  (sSeq (sIf (cT (c2 (gInB true) (cVar 5) (cVar 6)))
    (sRet (cRo (cLst cNil)))
    sNil)
  (sSeq (sAsg (cTr (cLst cNil)) (gN 7))
  (sSeq (sFor (cEnum (c2 gIx (cVar 6) (cVar 5))) (gTp 2 (gsCons (gN 8) (gsCons (gN 9) gsNil)))
    (sDrop (cM "list" gAppend (cVar 7) (cCons (cCallV true run ilined (cCons (cVar 0) (cCons (cVar 1) (cCons (cVar 9) (cCons (c2 gIx (c2 gIx (cVar 3) (cP (.int 2))) (cVar 8)) (cCons (c2 gAdd (cVar 4) (cTup (cCons (cTup (cCons (cVar 5) (cCons (cVar 8) cNil))) cNil))) cNil)))))) cNil))))
  (sSeq (sIf (cT (c2 (gInB false) (cRo (cLst cNil)) (cVar 7)))
    (sRet (cRo (cLst cNil)))
    sNil)
  (sSeq (sAsg (cRo (cLst (cCons (cTup (cCons (cTup cNil) (cCons (cTup cNil) cNil))) cNil))) (gN 10))
  (sSeq (sIf (cT (c2 gGt (c1 gLen (cCons (cVar 6) cNil)) (cP (.int 1))))
    (sAsg (cRo (cLst (cCons (cTup (cCons (cTup (cCons (cTup (cCons (cP (.str "is")) (cCons (cVar 4) (cCons (cVar 5) cNil)))) cNil)) (cCons (cTup cNil) cNil))) cNil))) (gN 10))
    sNil)
  (sSeq (sFor (cIt (cVar 7)) (gN 11)
    (sAsg (cCallV true run ijoined (cCons (cVar 10) (cCons (cVar 11) cNil))) (gN 10)))
  (sRet (cVar 10)))))))))))
def f_make_lines (ijoined ilined icoming_fields : Nat) : Fd := ⟨"make_lines", ["book", "known", "kind", "shape", "spot"], ["book", "known", "kind", "shape", "spot", "name", "coming", "parts", "place", "field", "lines", "part"], b_make_lines ijoined ilined icoming_fields⟩
/-- lined(book, known, kind, shape, spot): book=0 known=1 kind=2 shape=3 spot=4 found=5 side=6 -/
def b_lined (ilined ijoined imake_lines istretch_tests : Nat) (run : Run) : CS :=
  (sSeq (sIf (cT (c2 (gEqB false) (c2 gIx (cVar 3) (cP (.int 0))) (cP (.str "any"))))
    (sRet (cRo (cLst (cCons (cTup (cCons (cTup cNil) (cCons (cTup cNil) cNil))) cNil))))
    sNil)
  (sSeq (sIf (cT (c2 (gEqB false) (c2 gIx (cVar 3) (cP (.int 0))) (cP (.str "num"))))
    (sRet (cRo (cLst (cCons (cTup (cCons (cCallV true run istretch_tests (cCons (cVar 4) (cCons (c2 gIx (cVar 3) (cP (.int 1))) (cCons (c2 gIx (cVar 3) (cP (.int 2))) cNil)))) (cCons (cTup cNil) cNil))) cNil))))
    sNil)
  (sSeq (sIf (cT (c2 (gEqB false) (c2 gIx (cVar 3) (cP (.int 0))) (cP (.str "make"))))
    (sRet (cCallV true run imake_lines (cCons (cVar 0) (cCons (cVar 1) (cCons (cVar 2) (cCons (cVar 3) (cCons (cVar 4) cNil)))))))
    sNil)
  (sSeq (sIf (cT (c2 (gEqB false) (c2 gIx (cVar 3) (cP (.int 0))) (cP (.str "held"))))
    (sRet (cCallV true run ijoined (cCons (cRo (cLst (cCons (cTup (cCons (cTup cNil) (cCons (cTup (cCons (cTup (cCons (c2 gIx (cVar 3) (cP (.int 1))) (cCons (cVar 4) cNil))) cNil)) cNil))) cNil))) (cCons (cCallV true run ilined (cCons (cVar 0) (cCons (cVar 1) (cCons (cVar 2) (cCons (c2 gIx (cVar 3) (cP (.int 2))) (cCons (cVar 4) cNil)))))) cNil))))
    sNil)
  (sSeq (sAsg (cTr (cLst cNil)) (gN 5))
  (sSeq (sFor (cIt (c2 gIx (cVar 3) (cP (.int 1)))) (gN 6)
    (sDrop (cM "list" gExtend (cVar 5) (cCons (cCallV true run ilined (cCons (cVar 0) (cCons (cVar 1) (cCons (cVar 2) (cCons (cVar 6) (cCons (cVar 4) cNil)))))) cNil))))
  (sRet (cVar 5))))))))
def f_lined (ilined ijoined imake_lines istretch_tests : Nat) : Fd := ⟨"lined", ["book", "known", "kind", "shape", "spot"], ["book", "known", "kind", "shape", "spot", "found", "side"], b_lined ilined ijoined imake_lines istretch_tests⟩
/-- lines_of(book, kind, shape, spot): book=0 kind=1 shape=2 spot=3 -/
def b_lines_of (iplain_values ilined : Nat) (run : Run) : CS :=
  (sRet (cCallV true run ilined (cCons (cVar 0) (cCons (cCallV true run iplain_values (cCons (cVar 0) cNil)) (cCons (cVar 1) (cCons (cVar 2) (cCons (cVar 3) cNil)))))))
def f_lines_of (iplain_values ilined : Nat) : Fd := ⟨"lines_of", ["book", "kind", "shape", "spot"], ["book", "kind", "shape", "spot"], b_lines_of iplain_values ilined⟩
/-- compared(left, sign, right, more): left=0 sign=1 right=2 more=3 tests=4 -/
def b_compared (run : Run) : CS :=
  (sSeq (sIf (cT (c2 (gEqB false) (cVar 1) (cP (.str "<"))))
    (sRet (cRo (cLst (cCons (cTup (cCons (cP (.str "most")) (cCons (cVar 0) (cCons (cVar 2) (cCons (c2 gSub (cVar 3) (cP (.int 1))) cNil))))) cNil))))
    sNil)
  (sSeq (sIf (cT (c2 (gEqB false) (cVar 1) (cP (.str ">"))))
    (sRet (cRo (cLst (cCons (cTup (cCons (cP (.str "most")) (cCons (cVar 2) (cCons (cVar 0) (cCons (c2 gSub (cNeg (cVar 3)) (cP (.int 1))) cNil))))) cNil))))
    sNil)
  (sSeq (sAsg (cTr (cLst cNil)) (gN 4))
  (sSeq (sIf (cT (c2 (gEqB true) (cVar 1) (cP (.str ">="))))
    (sDrop (cM "list" gAppend (cVar 4) (cCons (cTup (cCons (cP (.str "most")) (cCons (cVar 0) (cCons (cVar 2) (cCons (cVar 3) cNil))))) cNil)))
    sNil)
  (sSeq (sIf (cT (c2 (gEqB true) (cVar 1) (cP (.str "<="))))
    (sDrop (cM "list" gAppend (cVar 4) (cCons (cTup (cCons (cP (.str "most")) (cCons (cVar 2) (cCons (cVar 0) (cCons (cNeg (cVar 3)) cNil))))) cNil)))
    sNil)
  (sRet (cVar 4)))))))
def f_compared : Fd := ⟨"compared", ["left", "sign", "right", "more"], ["left", "sign", "right", "more", "tests"], b_compared⟩
/-- guard_tests(guard, line): guard=0 line=1 spots=2 tests=3 left=4 sign=5 right=6 -/
def b_guard_tests (icompared : Nat) (run : Run) : CS :=
  (sSeq (sAsg (cDo (cDPairs (c2 gIx (cVar 1) (cP (.int 1))))) (gN 2))
  (sSeq (sAsg (cTr (cLst cNil)) (gN 3))
  (sSeq (sFor (cIt (cVar 0)) (gTp 3 (gsCons (gN 4) (gsCons (gN 5) (gsCons (gN 6) gsNil))))
    (sIf (cT (c2 (gInB false) (cVar 6) (cVar 2)))
    (sDrop (cM "list" gExtend (cVar 3) (cCons (cCallV true run icompared (cCons (c2 gIx (cVar 2) (cVar 4)) (cCons (cVar 5) (cCons (c2 gIx (cVar 2) (cVar 6)) (cCons (cP (.int 0)) cNil))))) cNil)))
    (sDrop (cM "list" gExtend (cVar 3) (cCons (cCallV true run icompared (cCons (c2 gIx (cVar 2) (cVar 4)) (cCons (cVar 5) (cCons (cP .non) (cCons (cVar 6) cNil))))) cNil)))))
  (sRet (cVar 3)))))
def f_guard_tests (icompared : Nat) : Fd := ⟨"guard_tests", ["guard", "line"], ["guard", "line", "spots", "tests", "left", "sign", "right"], b_guard_tests icompared⟩
/-- refuse_row(cases, i): cases=0 i=1 -/
def b_refuse_row (run : Run) : CS :=
  (sIf (cOr (cT (c2 gLt (cVar 1) (cP (.int 0)))) (cT (c2 gGe (cVar 1) (c1 gLen (cCons (c2 gIx (cVar 0) (cP (.int 2))) cNil)))))
    sNever
    sNil)
def f_refuse_row : Fd := ⟨"refuse_row", ["cases", "i"], ["cases", "i"], b_refuse_row⟩
/-- row_lines(book, cases, i): book=0 cases=1 i=2 shape=3 guard=4 answer=5 lines=6 line=7 -/
def b_row_lines (iguard_tests ilines_of irefuse_row : Nat) (run : Run) : CS :=
  (sSeq (sDrop (cCallV true run irefuse_row (cCons (cVar 1) (cCons (cVar 2) cNil))))
  (sSeq (sAsg (c2 gIx (c2 gIx (cVar 1) (cP (.int 2))) (cVar 2)) (gTp 3 (gsCons (gN 3) (gsCons (gN 4) (gsCons (gN 5) gsNil)))))
  (sSeq (sAsg (cCallV true run ilines_of (cCons (cVar 0) (cCons (c2 gIx (cVar 1) (cP (.int 0))) (cCons (cVar 3) (cCons (cTup cNil) cNil))))) (gN 6))
  (sRet (cRo (cComp (cIt (cVar 6)) (gN 7) cYes (cTup (cCons (c2 gAdd (c2 gIx (cVar 7) (cP (.int 0))) (c1 gTuple (cCons (cCallV true run iguard_tests (cCons (cVar 4) (cCons (cVar 7) cNil))) cNil))) (cCons (c2 gIx (cVar 7) (cP (.int 1))) cNil))) [7]))))))
def f_row_lines (iguard_tests ilines_of irefuse_row : Nat) : Fd := ⟨"row_lines", ["book", "cases", "i"], ["book", "cases", "i", "shape", "guard", "answer", "lines", "line"], b_row_lines iguard_tests ilines_of irefuse_row⟩
/-- first_fitting(lines, value): lines=0 value=1 number=2 line=3 -/
def b_first_fitting (ifits : Nat) (run : Run) : CS :=
  (sSeq (sFor (cEnum (cVar 0)) (gTp 2 (gsCons (gN 2) (gsCons (gN 3) gsNil)))
    (sIf (cTru (cCallV true run ifits (cCons (cVar 1) (cCons (cVar 3) cNil))))
    (sRet (cVar 2))
    sNil))
  (sRet (cP .non)))
def f_first_fitting (ifits : Nat) : Fd := ⟨"first_fitting", ["lines", "value"], ["lines", "value", "number", "line"], b_first_fitting ifits⟩
/-- line_of(book, cases, i, value): book=0 cases=1 i=2 value=3 -/
def b_line_of (irow_lines ifirst_fitting : Nat) (run : Run) : CS :=
  (sRet (cCallV true run ifirst_fitting (cCons (cCallV true run irow_lines (cCons (cVar 0) (cCons (cVar 1) (cCons (cVar 2) cNil)))) (cCons (cVar 3) cNil))))
def f_line_of (irow_lines ifirst_fitting : Nat) : Fd := ⟨"line_of", ["book", "cases", "i", "value"], ["book", "cases", "i", "value"], b_line_of irow_lines ifirst_fitting⟩
/-- takes(book, cases, i, value): book=0 cases=1 i=2 value=3 -/
def b_takes (iline_of : Nat) (run : Run) : CS :=
  (sRet (c2 (gIs true) (cCallV true run iline_of (cCons (cVar 0) (cCons (cVar 1) (cCons (cVar 2) (cCons (cVar 3) cNil))))) (cP .non)))
def f_takes (iline_of : Nat) : Fd := ⟨"takes", ["book", "cases", "i", "value"], ["book", "cases", "i", "value"], b_takes iline_of⟩
/-- _law_free(book): book=0 taken=1 name=2 -/
def b_law_free (i_law_make_names : Nat) (run : Run) : CS :=
  (sSeq (sAsg (cCallV true run i_law_make_names (cCons (cVar 0) cNil)) (gN 1))
  (sRet (cTr (cComp (cIt (cRo (cLst (cCons (cP (.str "x")) (cCons (cP (.str "xa")) (cCons (cP (.str "ax")) (cCons (cP (.str "left")) (cCons (cP (.str "lefa")) (cCons (cP (.str "qqqqqqqq")) (cCons (cP (.str "num")) (cCons (cP (.str "if")) cNil))))))))))) (gN 2) (cT (c2 (gInB true) (cVar 2) (cVar 1))) (cVar 2) [2]))))
def f_law_free (i_law_make_names : Nat) : Fd := ⟨"_law_free", ["book"], ["book", "taken", "name"], b_law_free i_law_make_names⟩
/-- _law_stretch(pool): pool=0 low=1 high=2 way=3 -/
def b_law_stretch (i_law_next i_law_number : Nat) (run : Run) : CS :=
  (sSeq (sAsg (cCallV true run i_law_number (cCons (cVar 0) cNil)) (gN 1))
  (sSeq (sAsg (c2 gAdd (cVar 1) (c2 gIx (cRo (cLst (cCons (cP (.int 0)) (cCons (cP (.int 0)) (cCons (cP (.int 1)) (cCons (cP (.int 3)) (cCons (cP (.int 40)) (cCons (c2 gPow (cP (.int 10)) (cP (.int 29))) cNil)))))))) (cCallV true run i_law_next (cCons (cVar 0) (cCons (cP (.int 6)) cNil))))) (gN 2))
  (sSeq (sAsg (cCallV true run i_law_next (cCons (cVar 0) (cCons (cP (.int 6)) cNil))) (gN 3))
  (sRet (cTup (cCons (cP (.str "num")) (cCons (c2 gIx (cRo (cLst (cCons (cVar 1) (cCons (cP .non) cNil)))) (c1 gIntOf (cCons (c2 gLt (cVar 3) (cP (.int 2))) cNil))) (cCons (c2 gIx (cRo (cLst (cCons (cVar 2) (cCons (cP .non) cNil)))) (c1 gIntOf (cCons (c2 (gEqB false) (c2 gMod (cVar 3) (cP (.int 3))) (cP (.int 1))) cNil))) cNil))))))))
def f_law_stretch (i_law_next i_law_number : Nat) : Fd := ⟨"_law_stretch", ["pool"], ["pool", "low", "high", "way"], b_law_stretch i_law_next i_law_number⟩
/-- _law_shape(book, kind, pool, deep, room, names): book=0 kind=1 pool=2 deep=3 room=4 names=5 way=6 name=7 makes=8 make=9 fields=10 field=11 -/
def b_law_shape (i_law_shape i_law_next i_law_holding i_law_stretch i_law_either : Nat) (run : Run) : CS :=
  (sSeq (sAsg (cCallV true run i_law_next (cCons (cVar 2) (cCons (cP (.int 11)) cNil))) (gN 6))
  (sSeq (sIf (cOr (cT (c2 (gEqB false) (cVar 6) (cP (.int 0)))) (cT (c2 gLt (cVar 3) (cP (.int 1)))))
    (sRet (cTup (cCons (cP (.str "any")) cNil)))
    sNil)
  (sSeq (sIf (cAnd (cT (c2 gLt (cVar 6) (cP (.int 3)))) (cT (c2 gGt (c1 gLen (cCons (cVar 5) cNil)) (cP (.int 0)))))
    (sSeq (sAsg (cM "list" gPopAt (cVar 5) (cCons (cP (.int 0)) cNil)) (gN 7))
  (sRet (cTup (cCons (cP (.str "held")) (cCons (cVar 7) (cCons (cCallV true run i_law_shape (cCons (cVar 0) (cCons (cVar 1) (cCons (cVar 2) (cCons (c2 gSub (cVar 3) (cP (.int 1))) (cCons (cVar 4) (cCons (cVar 5) cNil))))))) cNil))))))
    sNil)
  (sSeq (sIf (cAnd (cT (c2 (gEqB false) (cVar 6) (cP (.int 3)))) (cT (c2 gGt (c2 gIx (cVar 4) (cP (.int 0))) (cP (.int 1)))))
    (sRet (cCallV true run i_law_either (cCons (cVar 0) (cCons (cVar 1) (cCons (cVar 2) (cCons (cVar 3) (cCons (cVar 4) (cCons (cVar 5) cNil))))))))
    sNil)
  (sSeq (sIf (cT (c2 (gEqB false) (cVar 1) (cP (.str "num"))))
    (sRet (cCallV true run i_law_stretch (cCons (cVar 2) cNil)))
    sNil)
  (sSeq (sAsg (c2 gIx (cDo (cDPairs (cVar 0))) (cVar 1)) (gN 8))
  (sSeq (sIf (cAnd (cT (c2 gGt (cVar 6) (cP (.int 8)))) (cAnd (cT (c2 gGt (c2 gIx (cVar 4) (cP (.int 0))) (cP (.int 1)))) (cAnd (cT (c2 gGt (c1 gLen (cCons (cVar 5) cNil)) (cP (.int 0)))) (cTru (c1 gAny (cCons (cRo (cComp (cIt (cVar 8)) (gN 9) cYes (c2 gGt (c1 gLen (cCons (c2 gIx (cVar 9) (cP (.int 1))) cNil)) (cP (.int 0))) [9])) cNil))))))
    (sRet (cCallV true run i_law_holding (cCons (cVar 8) (cCons (cVar 0) (cCons (cVar 2) (cCons (cVar 4) (cCons (cVar 5) cNil)))))))
    sNil)
  (sSeq (sAsg (c2 gIx (cVar 8) (cCallV true run i_law_next (cCons (cVar 2) (cCons (c1 gLen (cCons (cVar 8) cNil)) cNil)))) (gTp 2 (gsCons (gN 9) (gsCons (gN 10) gsNil))))
  (sRet (cTup (cCons (cP (.str "make")) (cCons (cVar 9) (cCons (c1 gTuple (cCons (cRo (cComp (cIt (cVar 10)) (gN 11) cYes (cCallV true run i_law_shape (cCons (cVar 0) (cCons (cVar 11) (cCons (cVar 2) (cCons (c2 gSub (cVar 3) (cP (.int 1))) (cCons (cVar 4) (cCons (cVar 5) cNil))))))) [11])) cNil)) cNil)))))))))))))
def f_law_shape (i_law_shape i_law_next i_law_holding i_law_stretch i_law_either : Nat) : Fd := ⟨"_law_shape", ["book", "kind", "pool", "deep", "room", "names"], ["book", "kind", "pool", "deep", "room", "names", "way", "name", "makes", "make", "fields", "field"], b_law_shape i_law_shape i_law_next i_law_holding i_law_stretch i_law_either⟩
/-- _law_either(book, kind, pool, deep, room, names): book=0 kind=1 pool=2 deep=3 room=4 names=5 many=6 held=7 sides=8 name=9 k=10 side=11 -/
def b_law_either (i_law_shape i_law_next : Nat) (run : Run) : CS :=
  (sSeq (sAsg (c2 gAdd (cP (.int 1)) (cCallV true run i_law_next (cCons (cVar 2) (cCons (c1 gMin (cCons (cP (.int 4)) (cCons (c2 gIx (cVar 4) (cP (.int 0))) cNil))) cNil)))) (gN 6))
  (sSeq (sAsg (c2 gDiv (c2 gIx (cVar 4) (cP (.int 0))) (cVar 6)) (gAt (cVar 4) (cP (.int 0))))
  (sSeq (sAsg (cTr (cLst cNil)) (gN 7))
  (sSeq (sIf (cAnd (cT (c2 gGt (c1 gLen (cCons (cVar 5) cNil)) (cP (.int 0)))) (cT (c2 (gEqB false) (cCallV true run i_law_next (cCons (cVar 2) (cCons (cP (.int 3)) cNil))) (cP (.int 0)))))
    (sDrop (cM "list" gAppend (cVar 7) (cCons (cM "list" gPopAt (cVar 5) (cCons (cP (.int 0)) cNil)) cNil)))
    sNil)
  (sSeq (sAsg (cRo (cComp (cRng1 (cVar 6)) (gN 10) cYes (cCallV true run i_law_shape (cCons (cVar 0) (cCons (cVar 1) (cCons (cVar 2) (cCons (c2 gSub (cVar 3) (cP (.int 1))) (cCons (cVar 4) (cCons (cTr (cLst cNil)) cNil))))))) [10])) (gN 8))
  (sSeq (sFor (cIt (cVar 7)) (gN 9)
    (sAsg (cRo (cComp (cIt (cVar 8)) (gN 11) cYes (cTup (cCons (cP (.str "held")) (cCons (cVar 9) (cCons (cVar 11) cNil)))) [11])) (gN 8)))
  (sRet (cTup (cCons (cP (.str "either")) (cCons (c1 gTuple (cCons (cVar 8) cNil)) cNil))))))))))
def f_law_either (i_law_shape i_law_next : Nat) : Fd := ⟨"_law_either", ["book", "kind", "pool", "deep", "room", "names"], ["book", "kind", "pool", "deep", "room", "names", "many", "held", "sides", "name", "k", "side"], b_law_either i_law_shape i_law_next⟩
/-- _law_like(book, plain, kind, shape, pool, deep): book=0 plain=1 kind=2 shape=3 pool=4 deep=5 side=6 some=7 coming=8 parts=9 field=10 part=11 end=12 -/
def b_law_like (i_law_like i_law_value i_law_coming i_law_next : Nat) (run : Run) : CS :=
  (sSeq (sIf (cT (c2 (gEqB false) (c2 gIx (cVar 3) (cP (.int 0))) (cP (.str "held"))))
    (sRet (cCallV true run i_law_like (cCons (cVar 0) (cCons (cVar 1) (cCons (cVar 2) (cCons (c2 gIx (cVar 3) (cP (.int 2))) (cCons (cVar 4) (cCons (cVar 5) cNil))))))))
    sNil)
  (sSeq (sIf (cT (c2 (gEqB false) (c2 gIx (cVar 3) (cP (.int 0))) (cP (.str "either"))))
    (sSeq (sAsg (c2 gIx (c2 gIx (cVar 3) (cP (.int 1))) (cCallV true run i_law_next (cCons (cVar 4) (cCons (c1 gLen (cCons (c2 gIx (cVar 3) (cP (.int 1))) cNil)) cNil)))) (gN 6))
  (sRet (cCallV true run i_law_like (cCons (cVar 0) (cCons (cVar 1) (cCons (cVar 2) (cCons (cVar 6) (cCons (cVar 4) (cCons (cVar 5) cNil)))))))))
    sNil)
  (sSeq (sIf (cT (c2 (gEqB false) (cCallV true run i_law_next (cCons (cVar 4) (cCons (cP (.int 12)) cNil))) (cP (.int 0))))
    (sRet (cCallV true run i_law_value (cCons (cVar 0) (cCons (cVar 1) (cCons (cVar 2) (cCons (cVar 4) (cCons (cVar 5) cNil)))))))
    sNil)
  (sSeq (sIf (cT (c2 (gEqB false) (c2 gIx (cVar 3) (cP (.int 0))) (cP (.str "num"))))
    (sSeq (sAsg (c2 gAdd (cRo (cComp (cIt (cSl (cVar 3) (cOSome (cP (.int 1))) cONone)) (gN 12) (cT (c2 (gIs true) (cVar 12) (cP .non))) (cVar 12) [12])) (cRo (cLst (cCons (cP (.int 0)) cNil)))) (gN 7))
  (sRet (c2 gSub (c2 gAdd (c2 gIx (cVar 7) (cCallV true run i_law_next (cCons (cVar 4) (cCons (c1 gLen (cCons (cVar 7) cNil)) cNil)))) (cCallV true run i_law_next (cCons (cVar 4) (cCons (cP (.int 3)) cNil)))) (cP (.int 1)))))
    sNil)
  (sSeq (sAsg (cDo (cDPairs (cCallV true run i_law_coming (cCons (cVar 0) (cCons (cVar 1) (cCons (cVar 2) cNil)))))) (gN 8))
  (sSeq (sIf (cOr (cT (c2 (gEqB true) (c2 gIx (cVar 3) (cP (.int 0))) (cP (.str "make")))) (cT (c2 (gInB true) (c2 gIx (cVar 3) (cP (.int 1))) (cVar 8))))
    (sRet (cCallV true run i_law_value (cCons (cVar 0) (cCons (cVar 1) (cCons (cVar 2) (cCons (cVar 4) (cCons (cVar 5) cNil)))))))
    sNil)
  (sSeq (sAsg (cTr (cLst cNil)) (gN 9))
  (sSeq (sFor (cZip (c2 gIx (cVar 8) (c2 gIx (cVar 3) (cP (.int 1)))) (c2 gIx (cVar 3) (cP (.int 2)))) (gTp 2 (gsCons (gN 10) (gsCons (gN 11) gsNil)))
    (sDrop (cM "list" gAppend (cVar 9) (cCons (cCallV true run i_law_like (cCons (cVar 0) (cCons (cVar 1) (cCons (cVar 10) (cCons (cVar 11) (cCons (cVar 4) (cCons (c2 gSub (cVar 5) (cP (.int 1))) cNil))))))) cNil))))
  (sRet (c2 gAdd (cTup (cCons (c2 gIx (cVar 3) (cP (.int 1))) cNil)) (c1 gTuple (cCons (cVar 9) cNil))))))))))))
def f_law_like (i_law_like i_law_value i_law_coming i_law_next : Nat) : Fd := ⟨"_law_like", ["book", "plain", "kind", "shape", "pool", "deep"], ["book", "plain", "kind", "shape", "pool", "deep", "side", "some", "coming", "parts", "field", "part", "end"], b_law_like i_law_like i_law_value i_law_coming i_law_next⟩
/-- _law_held(book, kind, shape): book=0 kind=1 shape=2 found=3 field=4 part=5 -/
def b_law_held (i_law_held : Nat) (run : Run) : CS :=
  (sSeq (sIf (cT (c2 (gEqB false) (c2 gIx (cVar 2) (cP (.int 0))) (cP (.str "held"))))
    (sRet (c2 gAdd (cRo (cLst (cCons (cTup (cCons (c2 gIx (cVar 2) (cP (.int 1))) (cCons (cVar 1) cNil))) cNil))) (cCallV true run i_law_held (cCons (cVar 0) (cCons (cVar 1) (cCons (c2 gIx (cVar 2) (cP (.int 2))) cNil))))))
    sNil)
  (sSeq (sIf (cT (c2 (gEqB false) (c2 gIx (cVar 2) (cP (.int 0))) (cP (.str "either"))))
    (sRet (cCallV true run i_law_held (cCons (cVar 0) (cCons (cVar 1) (cCons (c2 gIx (c2 gIx (cVar 2) (cP (.int 1))) (cP (.int 0))) cNil)))))
    sNil)
  (sSeq (sAsg (cTr (cLst cNil)) (gN 3))
  (sSeq (sIf (cT (c2 (gEqB false) (c2 gIx (cVar 2) (cP (.int 0))) (cP (.str "make"))))
    (sFor (cZip (c2 gIx (cDo (cDPairs (c2 gIx (cDo (cDPairs (cVar 0))) (cVar 1)))) (c2 gIx (cVar 2) (cP (.int 1)))) (c2 gIx (cVar 2) (cP (.int 2)))) (gTp 2 (gsCons (gN 4) (gsCons (gN 5) gsNil)))
    (sDrop (cM "list" gExtend (cVar 3) (cCons (cCallV true run i_law_held (cCons (cVar 0) (cCons (cVar 4) (cCons (cVar 5) cNil)))) cNil))))
    sNil)
  (sRet (cVar 3))))))
def f_law_held (i_law_held : Nat) : Fd := ⟨"_law_held", ["book", "kind", "shape"], ["book", "kind", "shape", "found", "field", "part"], b_law_held i_law_held⟩
/-- _law_said(value): value=0 part=1 -/
def b_law_said (i_law_said : Nat) (run : Run) : CS :=
  (sSeq (sIf (cTru (cIsi "int" (cVar 0)))
    (sRet (cTup (cCons (cP (.str "num")) (cCons (cVar 0) cNil))))
    sNil)
  (sRet (cTup (cCons (cP (.str "make")) (cCons (c2 gIx (cVar 0) (cP (.int 0))) (cCons (c1 gTuple (cCons (cRo (cComp (cIt (cSl (cVar 0) (cOSome (cP (.int 1))) cONone)) (gN 1) cYes (cCallV true run i_law_said (cCons (cVar 1) cNil)) [1])) cNil)) cNil))))))
def f_law_said (i_law_said : Nat) : Fd := ⟨"_law_said", ["value"], ["value", "part"], b_law_said i_law_said⟩
/-- _law_holding(makes, book, pool, room, names): makes=0 book=1 pool=2 room=3 names=4 some=5 make=6 fields=7 goal=8 name=9 many=10 sides=11 k=12 at=13 parts=14 one=15 field=16 -/
def b_law_holding (i_law_shape i_law_next : Nat) (run : Run) : CS :=
  (sSeq (sAsg (cTr (cLst cNil)) (gN 5))
  (sSeq (sFor (cIt (cVar 0)) (gTp 2 (gsCons (gN 6) (gsCons (gN 7) gsNil)))
    (sDrop (cM "list" gExtend (cVar 5) (cCons (cRo (cComp (cRng1 (c1 gLen (cCons (cVar 7) cNil))) (gN 13) cYes (cTup (cCons (cVar 6) (cCons (cVar 7) (cCons (cVar 13) cNil)))) [13])) cNil))))
  (sSeq (sAsg (c2 gIx (cVar 5) (cCallV true run i_law_next (cCons (cVar 2) (cCons (c1 gLen (cCons (cVar 5) cNil)) cNil)))) (gN 8))
  (sSeq (sAsg (cTr (cComp (cIt (cVar 5)) (gN 15) (cT (c2 (gEqB false) (c2 gIx (c2 gIx (cVar 15) (cP (.int 1))) (c2 gIx (cVar 15) (cP (.int 2)))) (c2 gIx (c2 gIx (cVar 8) (cP (.int 1))) (c2 gIx (cVar 8) (cP (.int 2)))))) (cVar 15) [15])) (gN 5))
  (sSeq (sAsg (cM "list" gPopAt (cVar 4) (cCons (cP (.int 0)) cNil)) (gN 9))
  (sSeq (sAsg (c1 gMin (cCons (c2 gIx (cVar 3) (cP (.int 0))) (cCons (c2 gAdd (cP (.int 2)) (cCallV true run i_law_next (cCons (cVar 2) (cCons (cP (.int 2)) cNil)))) cNil))) (gN 10))
  (sSeq (sAsg (c2 gDiv (c2 gIx (cVar 3) (cP (.int 0))) (cVar 10)) (gAt (cVar 3) (cP (.int 0))))
  (sSeq (sAsg (cTr (cLst cNil)) (gN 11))
  (sSeq (sFor (cRng1 (cVar 10)) (gN 12)
    (sSeq (sAsg (c2 gIx (cVar 5) (cCallV true run i_law_next (cCons (cVar 2) (cCons (c1 gLen (cCons (cVar 5) cNil)) cNil)))) (gTp 3 (gsCons (gN 6) (gsCons (gN 7) (gsCons (gN 13) gsNil)))))
  (sSeq (sAsg (cTr (cComp (cIt (cVar 7)) (gN 16) cYes (cCallV true run i_law_shape (cCons (cVar 1) (cCons (cVar 16) (cCons (cVar 2) (cCons (cP (.int 1)) (cCons (cVar 3) (cCons (cTr (cLst cNil)) cNil))))))) [16])) (gN 14))
  (sSeq (sAsg (cTup (cCons (cP (.str "held")) (cCons (cVar 9) (cCons (cTup (cCons (cP (.str "any")) cNil)) cNil)))) (gAt (cVar 14) (cVar 13)))
  (sDrop (cM "list" gAppend (cVar 11) (cCons (cTup (cCons (cP (.str "make")) (cCons (cVar 6) (cCons (c1 gTuple (cCons (cVar 14) cNil)) cNil)))) cNil)))))))
  (sRet (cTup (cCons (cP (.str "either")) (cCons (c1 gTuple (cCons (cVar 11) cNil)) cNil)))))))))))))
def f_law_holding (i_law_shape i_law_next : Nat) : Fd := ⟨"_law_holding", ["makes", "book", "pool", "room", "names"], ["makes", "book", "pool", "room", "names", "some", "make", "fields", "goal", "name", "many", "sides", "k", "at", "parts", "one", "field"], b_law_holding i_law_shape i_law_next⟩
/-- _law_six_rows(book, plain, kind, shape, pair): book=0 plain=1 kind=2 shape=3 pair=4 said=5 rows=6 sign=7 -/
def b_law_six_rows (i_law_said : Nat) (run : Run) : CS :=
  (sSeq (sAsg (cCallV true run i_law_said (cCons (c2 gIx (cVar 1) (cVar 2)) cNil)) (gN 5))
  (sSeq (sAsg (cTr (cLst (cCons (cTup (cCons (cVar 3) (cCons (cTup cNil) (cCons (cVar 5) cNil)))) cNil))) (gN 6))
  (sSeq (sFor (cIt (cRo (cLst (cCons (cP (.str "<")) (cCons (cP (.str "=")) (cCons (cP (.str ">")) (cCons (cP (.str "<=")) (cCons (cP (.str ">=")) cNil)))))))) (gN 7)
    (sDrop (cM "list" gAppend (cVar 6) (cCons (cTup (cCons (cVar 3) (cCons (cTup (cCons (cTup (cCons (c2 gIx (cVar 4) (cP (.int 0))) (cCons (cVar 7) (cCons (c2 gIx (cVar 4) (cP (.int 1))) cNil)))) cNil)) (cCons (cVar 5) cNil)))) cNil))))
  (sRet (cTup (cCons (cVar 2) (cCons (cVar 2) (cCons (c1 gTuple (cCons (cVar 6) cNil)) cNil))))))))
def f_law_six_rows (i_law_said : Nat) : Fd := ⟨"_law_six_rows", ["book", "plain", "kind", "shape", "pair"], ["book", "plain", "kind", "shape", "pair", "said", "rows", "sign"], b_law_six_rows i_law_said⟩
/-- _law_parts_right(book, cases, value): book=0 cases=1 value=2 heard=3 due=4 i=5 -/
def b_law_parts_right (itakes : Nat) (run : Run) : CS :=
  (sSeq (sAsg (cRo (cComp (cRng1 (cP (.int 6))) (gN 5) cYes (cCallV true run itakes (cCons (cVar 0) (cCons (cVar 1) (cCons (cVar 5) (cCons (cVar 2) cNil))))) [5])) (gN 3))
  (sSeq (sAsg (cTr (cLst (cCons (cRo (nRep (cLst (cCons (cP (.bl false)) cNil)) (cP (.int 6)))) cNil))) (gN 4))
  (sSeq (sIf (cTru (c2 gIx (cVar 3) (cP (.int 0))))
    (sSeq (sAsg (cTr (cLst (cCons (cRo (cLst (cCons (cP (.bl true)) (cCons (cP (.bl true)) (cCons (cP (.bl false)) (cCons (cP (.bl false)) (cCons (cP (.bl true)) (cCons (cP (.bl false)) cNil)))))))) (cCons (cRo (cLst (cCons (cP (.bl true)) (cCons (cP (.bl false)) (cCons (cP (.bl true)) (cCons (cP (.bl false)) (cCons (cP (.bl true)) (cCons (cP (.bl true)) cNil)))))))) cNil)))) (gN 4))
  (sDrop (cM "list" gAppend (cVar 4) (cCons (cRo (cLst (cCons (cP (.bl true)) (cCons (cP (.bl false)) (cCons (cP (.bl false)) (cCons (cP (.bl true)) (cCons (cP (.bl false)) (cCons (cP (.bl true)) cNil)))))))) cNil))))
    sNil)
  (sRet (c2 (gInB false) (cVar 3) (cVar 4))))))
def f_law_parts_right (itakes : Nat) : Fd := ⟨"_law_parts_right", ["book", "cases", "value"], ["book", "cases", "value", "heard", "due", "i"], b_law_parts_right itakes⟩
/-- _law_count(book, plain, kind, shape): book=0 plain=1 kind=2 shape=3 coming=4 many=5 field=6 part=7 side=8 -/
def b_law_count (i_law_count i_law_coming : Nat) (run : Run) : CS :=
  (sSeq (sIf (cOr (cT (c2 (gEqB false) (c2 gIx (cVar 3) (cP (.int 0))) (cP (.str "any")))) (cT (c2 (gEqB false) (c2 gIx (cVar 3) (cP (.int 0))) (cP (.str "num")))))
    (sRet (cP (.int 1)))
    sNil)
  (sSeq (sIf (cT (c2 (gEqB false) (c2 gIx (cVar 3) (cP (.int 0))) (cP (.str "held"))))
    (sRet (cCallV true run i_law_count (cCons (cVar 0) (cCons (cVar 1) (cCons (cVar 2) (cCons (c2 gIx (cVar 3) (cP (.int 2))) cNil))))))
    sNil)
  (sSeq (sIf (cT (c2 (gEqB false) (c2 gIx (cVar 3) (cP (.int 0))) (cP (.str "either"))))
    (sRet (c1 gSum (cCons (cRo (cComp (cIt (c2 gIx (cVar 3) (cP (.int 1)))) (gN 8) cYes (cCallV true run i_law_count (cCons (cVar 0) (cCons (cVar 1) (cCons (cVar 2) (cCons (cVar 8) cNil))))) [8])) cNil)))
    sNil)
  (sSeq (sAsg (cDo (cDPairs (cCallV true run i_law_coming (cCons (cVar 0) (cCons (cVar 1) (cCons (cVar 2) cNil)))))) (gN 4))
  (sSeq (sIf (cT (c2 (gInB true) (c2 gIx (cVar 3) (cP (.int 1))) (cVar 4)))
    (sRet (cP (.int 0)))
    sNil)
  (sSeq (sAsg (cP (.int 1)) (gN 5))
  (sSeq (sFor (cZip (c2 gIx (cVar 4) (c2 gIx (cVar 3) (cP (.int 1)))) (c2 gIx (cVar 3) (cP (.int 2)))) (gTp 2 (gsCons (gN 6) (gsCons (gN 7) gsNil)))
    (sAsg (c2 gMul (cVar 5) (cCallV true run i_law_count (cCons (cVar 0) (cCons (cVar 1) (cCons (cVar 6) (cCons (cVar 7) cNil)))))) (gN 5)))
  (sRet (cVar 5)))))))))
def f_law_count (i_law_count i_law_coming : Nat) : Fd := ⟨"_law_count", ["book", "plain", "kind", "shape"], ["book", "plain", "kind", "shape", "coming", "many", "field", "part", "side"], b_law_count i_law_count i_law_coming⟩
/-- _law_tries(book, plain, kind, shape, value, held): book=0 plain=1 kind=2 shape=3 value=4 held=5 low=6 high=7 found=8 side=9 at=10 field=11 more=12 one=13 -/
def b_law_tries (i_law_count i_law_tries : Nat) (run : Run) : CS :=
  (sSeq (sIf (cT (c2 (gEqB false) (c2 gIx (cVar 3) (cP (.int 0))) (cP (.str "any"))))
    (sRet (cRo (cLst (cCons (cVar 5) cNil))))
    sNil)
  (sSeq (sIf (cT (c2 (gEqB false) (c2 gIx (cVar 3) (cP (.int 0))) (cP (.str "num"))))
    (sSeq (sAsg (cSl (cVar 3) (cOSome (cP (.int 1))) cONone) (gTp 2 (gsCons (gN 6) (gsCons (gN 7) gsNil))))
  (sRet (cRo (cLst (cCons (c2 gIx (cRo (cLst (cCons (cP .non) (cCons (cVar 5) cNil)))) (c1 gIntOf (cCons (cAndV (cOrV (c2 (gIs false) (cVar 6) (cP .non)) (c2 gLe (cVar 6) (cVar 4))) (cOrV (c2 (gIs false) (cVar 7) (cP .non)) (c2 gLe (cVar 4) (cVar 7)))) cNil))) cNil)))))
    sNil)
  (sSeq (sIf (cT (c2 (gEqB false) (c2 gIx (cVar 3) (cP (.int 0))) (cP (.str "held"))))
    (sRet (cCallV true run i_law_tries (cCons (cVar 0) (cCons (cVar 1) (cCons (cVar 2) (cCons (c2 gIx (cVar 3) (cP (.int 2))) (cCons (cVar 4) (cCons (c2 gAdd (cVar 5) (cTup (cCons (cTup (cCons (c2 gIx (cVar 3) (cP (.int 1))) (cCons (cVar 4) cNil))) cNil))) cNil))))))))
    sNil)
  (sSeq (sAsg (cTr (cLst cNil)) (gN 8))
  (sSeq (sIf (cT (c2 (gEqB false) (c2 gIx (cVar 3) (cP (.int 0))) (cP (.str "either"))))
    (sSeq (sFor (cIt (c2 gIx (cVar 3) (cP (.int 1)))) (gN 9)
    (sDrop (cM "list" gExtend (cVar 8) (cCons (cCallV true run i_law_tries (cCons (cVar 0) (cCons (cVar 1) (cCons (cVar 2) (cCons (cVar 9) (cCons (cVar 4) (cCons (cVar 5) cNil))))))) cNil))))
  (sRet (cVar 8)))
    sNil)
  (sSeq (sIf (cT (c2 (gEqB true) (c2 gIx (cVar 4) (cP (.int 0))) (c2 gIx (cVar 3) (cP (.int 1)))))
    (sRet (cRo (nRep (cLst (cCons (cP .non) cNil)) (cCallV true run i_law_count (cCons (cVar 0) (cCons (cVar 1) (cCons (cVar 2) (cCons (cVar 3) cNil))))))))
    sNil)
  (sSeq (sDrop (cM "list" gAppend (cVar 8) (cCons (cVar 5) cNil)))
  (sSeq (sFor (cEnum (c2 gIx (cDo (cDPairs (c2 gIx (cDo (cDPairs (cVar 0))) (cVar 2)))) (c2 gIx (cVar 3) (cP (.int 1))))) (gTp 2 (gsCons (gN 10) (gsCons (gN 11) gsNil)))
    (sSeq (sAsg (cTr (cLst cNil)) (gN 12))
  (sSeq (sFor (cIt (cVar 8)) (gN 13)
    (sIf (cT (c2 (gIs false) (cVar 13) (cP .non)))
    (sDrop (cM "list" gExtend (cVar 12) (cCons (cRo (nRep (cLst (cCons (cP .non) cNil)) (cCallV true run i_law_count (cCons (cVar 0) (cCons (cVar 1) (cCons (cVar 11) (cCons (c2 gIx (c2 gIx (cVar 3) (cP (.int 2))) (cVar 10)) cNil))))))) cNil)))
    (sDrop (cM "list" gExtend (cVar 12) (cCons (cCallV true run i_law_tries (cCons (cVar 0) (cCons (cVar 1) (cCons (cVar 11) (cCons (c2 gIx (c2 gIx (cVar 3) (cP (.int 2))) (cVar 10)) (cCons (c2 gIx (cVar 4) (c2 gAdd (cVar 10) (cP (.int 1)))) (cCons (cVar 13) cNil))))))) cNil)))))
  (sAsg (cVar 12) (gN 8)))))
  (sRet (cVar 8))))))))))
def f_law_tries (i_law_count i_law_tries : Nat) : Fd := ⟨"_law_tries", ["book", "plain", "kind", "shape", "value", "held"], ["book", "plain", "kind", "shape", "value", "held", "low", "high", "found", "side", "at", "field", "more", "one"], b_law_tries i_law_count i_law_tries⟩
/-- _law_part(value, spot): value=0 spot=1 make=2 place=3 -/
def b_law_part (run : Run) : CS :=
  (sSeq (sFor (cIt (cVar 1)) (gTp 2 (gsCons (gN 2) (gsCons (gN 3) gsNil)))
    (sSeq (sIf (cOr (cNot (cTru (cIsi "tuple" (cVar 0)))) (cT (c2 (gEqB true) (c2 gIx (cVar 0) (cP (.int 0))) (cVar 2))))
    (sRet (cP .non))
    sNil)
  (sAsg (c2 gIx (cVar 0) (c2 gAdd (cVar 3) (cP (.int 1)))) (gN 0))))
  (sRet (cVar 0)))
def f_law_part : Fd := ⟨"_law_part", ["value", "spot"], ["value", "spot", "make", "place"], b_law_part⟩
/-- _law_drawn_shape(book, kind, pool): book=0 kind=1 pool=2 deep=3 room=4 -/
def b_law_drawn_shape (i_law_free i_law_shape i_law_next : Nat) (run : Run) : CS :=
  (sSeq (sAsg (c2 gAdd (cP (.int 1)) (cCallV true run i_law_next (cCons (cVar 2) (cCons (cP (.int 3)) cNil)))) (gN 3))
  (sSeq (sAsg (cTr (cLst (cCons (c2 gIx (cRo (cLst (cCons (cP (.int 1)) (cCons (cP (.int 2)) (cCons (cP (.int 6)) (cCons (cP (.int 24)) cNil)))))) (cCallV true run i_law_next (cCons (cVar 2) (cCons (cP (.int 4)) cNil)))) cNil))) (gN 4))
  (sRet (cCallV true run i_law_shape (cCons (cVar 0) (cCons (cVar 1) (cCons (cVar 2) (cCons (cVar 3) (cCons (cVar 4) (cCons (cCallV false run i_law_free (cCons (cVar 0) cNil)) cNil))))))))))
def f_law_drawn_shape (i_law_free i_law_shape i_law_next : Nat) : Fd := ⟨"_law_drawn_shape", ["book", "kind", "pool"], ["book", "kind", "pool", "deep", "room"], b_law_drawn_shape i_law_free i_law_shape i_law_next⟩
/-- _law_homes(book, kind): book=0 kind=1 found=2 home=3 makes=4 make=5 fields=6 at=7 -/
def b_law_homes (run : Run) : CS :=
  (sSeq (sAsg (cTr (cLst cNil)) (gN 2))
  (sSeq (sFor (cIt (cVar 0)) (gTp 2 (gsCons (gN 3) (gsCons (gN 4) gsNil)))
    (sFor (cIt (cVar 4)) (gTp 2 (gsCons (gN 5) (gsCons (gN 6) gsNil)))
    (sDrop (cM "list" gExtend (cVar 2) (cCons (cRo (cComp (cRng1 (c1 gLen (cCons (cVar 6) cNil))) (gN 7) (cT (c2 (gEqB false) (c2 gIx (cVar 6) (cVar 7)) (cVar 1))) (cTup (cCons (cVar 3) (cCons (cVar 5) (cCons (cVar 6) (cCons (cVar 7) cNil))))) [7])) cNil)))))
  (sRet (cVar 2))))
def f_law_homes : Fd := ⟨"_law_homes", ["book", "kind"], ["book", "kind", "found", "home", "makes", "make", "fields", "at"], b_law_homes⟩
/-- _law_placed(home, shape): home=0 shape=1 ones=2 -/
def b_law_placed (run : Run) : CS :=
  (sSeq (sAsg (cTup (cCons (cTup (cCons (cP (.str "any")) cNil)) cNil)) (gN 2))
  (sRet (cTup (cCons (cP (.str "make")) (cCons (c2 gIx (cVar 0) (cP (.int 1))) (cCons (c2 gAdd (c2 gAdd (c2 gMulT (cVar 2) (c2 gIx (cVar 0) (cP (.int 3)))) (cTup (cCons (cVar 1) cNil))) (c2 gMulT (cVar 2) (c2 gSub (c2 gSub (c1 gLen (cCons (c2 gIx (cVar 0) (cP (.int 2))) cNil)) (c2 gIx (cVar 0) (cP (.int 3)))) (cP (.int 1))))) cNil))))))
def f_law_placed : Fd := ⟨"_law_placed", ["home", "shape"], ["home", "shape", "ones"], b_law_placed⟩
/-- _law_spot_to(book, plain, kind, pool): book=0 plain=1 kind=2 pool=3 spot=4 turn=5 homes=6 home=7 -/
def b_law_spot_to (i_law_next i_law_homes i_law_coming : Nat) (run : Run) : CS :=
  (sSeq (sAsg (cTup cNil) (gN 4))
  (sSeq (sFor (cRng1 (cCallV true run i_law_next (cCons (cVar 3) (cCons (cP (.int 4)) cNil)))) (gN 5)
    (sSeq (sAsg (cRo (cComp (cIt (cCallV true run i_law_homes (cCons (cVar 0) (cCons (cVar 2) cNil)))) (gN 7) (cT (c2 (gInB false) (c2 gIx (cVar 7) (cP (.int 1))) (cDo (cDPairs (cCallV true run i_law_coming (cCons (cVar 0) (cCons (cVar 1) (cCons (c2 gIx (cVar 7) (cP (.int 0))) cNil)))))))) (cVar 7) [7])) (gN 6))
  (sIf (cT (c2 gGt (c1 gLen (cCons (cVar 6) cNil)) (cP (.int 0))))
    (sSeq (sAsg (c2 gIx (cVar 6) (cCallV true run i_law_next (cCons (cVar 3) (cCons (c1 gLen (cCons (cVar 6) cNil)) cNil)))) (gN 7))
  (sSeq (sAsg (c2 gAdd (cTup (cCons (cTup (cCons (c2 gIx (cVar 7) (cP (.int 1))) (cCons (c2 gIx (cVar 7) (cP (.int 3))) cNil))) cNil)) (cVar 4)) (gN 4))
  (sAsg (c2 gIx (cVar 7) (cP (.int 0))) (gN 2))))
    sNil)))
  (sRet (cVar 4))))
def f_law_spot_to (i_law_next i_law_homes i_law_coming : Nat) : Fd := ⟨"_law_spot_to", ["book", "plain", "kind", "pool"], ["book", "plain", "kind", "pool", "spot", "turn", "homes", "home"], b_law_spot_to i_law_next i_law_homes i_law_coming⟩
/-- _law_moved(spot, test): spot=0 test=1 ends=2 end=3 -/
def b_law_moved (run : Run) : CS :=
  (sSeq (sIf (cT (c2 (gEqB false) (c2 gIx (cVar 1) (cP (.int 0))) (cP (.str "is"))))
    (sRet (cTup (cCons (cP (.str "is")) (cCons (c2 gAdd (cVar 0) (c2 gIx (cVar 1) (cP (.int 1)))) (cCons (c2 gIx (cVar 1) (cP (.int 2))) cNil)))))
    sNil)
  (sSeq (sAsg (cTr (cLst cNil)) (gN 2))
  (sSeq (sFor (cIt (cSl (cVar 1) (cOSome (cP (.int 1))) (cOSome (cP (.int 3))))) (gN 3)
    (sSeq (sIf (cT (c2 (gIs true) (cVar 3) (cP .non)))
    (sAsg (c2 gAdd (cVar 0) (cVar 3)) (gN 3))
    sNil)
  (sDrop (cM "list" gAppend (cVar 2) (cCons (cVar 3) cNil)))))
  (sRet (cTup (cCons (cP (.str "most")) (cCons (c2 gIx (cVar 2) (cP (.int 0))) (cCons (c2 gIx (cVar 2) (cP (.int 1))) (cCons (c2 gIx (cVar 1) (cP (.int 3))) cNil)))))))))
def f_law_moved : Fd := ⟨"_law_moved", ["spot", "test"], ["spot", "test", "ends", "end"], b_law_moved⟩
/-- _law_ahead(spot, lines): spot=0 lines=1 found=2 tests=3 held=4 shifted=5 test=6 name=7 end=8 -/
def b_law_ahead (i_law_moved : Nat) (run : Run) : CS :=
  (sSeq (sAsg (cTr (cLst cNil)) (gN 2))
  (sSeq (sFor (cIt (cVar 1)) (gTp 2 (gsCons (gN 3) (gsCons (gN 4) gsNil)))
    (sSeq (sAsg (c1 gTuple (cCons (cRo (cComp (cIt (cVar 3)) (gN 6) cYes (cCallV true run i_law_moved (cCons (cVar 0) (cCons (cVar 6) cNil))) [6])) cNil)) (gN 5))
  (sDrop (cM "list" gAppend (cVar 2) (cCons (cTup (cCons (cVar 5) (cCons (c1 gTuple (cCons (cRo (cComp (cIt (cVar 4)) (gTp 2 (gsCons (gN 7) (gsCons (gN 8) gsNil))) cYes (cTup (cCons (cVar 7) (cCons (c2 gAdd (cVar 0) (cVar 8)) cNil))) [7, 8])) cNil)) cNil))) cNil)))))
  (sRet (cVar 2))))
def f_law_ahead (i_law_moved : Nat) : Fd := ⟨"_law_ahead", ["spot", "lines"], ["spot", "lines", "found", "tests", "held", "shifted", "test", "name", "end"], b_law_ahead i_law_moved⟩
/-- _law_either_right(book, kind, shape, base, pool): book=0 kind=1 shape=2 base=3 pool=4 other=5 more=6 -/
def b_law_either_right (ilines_of i_law_held i_law_shape : Nat) (run : Run) : CS :=
  (sSeq (sAsg (cCallV true run i_law_shape (cCons (cVar 0) (cCons (cVar 1) (cCons (cVar 4) (cCons (cP (.int 2)) (cCons (cTr (cLst (cCons (cP (.int 6)) cNil))) (cCons (cTr (cLst cNil)) cNil))))))) (gN 5))
  (sSeq (sAsg (cCallV true run ilines_of (cCons (cVar 0) (cCons (cVar 1) (cCons (cVar 5) (cCons (cTup cNil) cNil))))) (gN 6))
  (sSeq (sIf (cOr (cT (c2 (gEqB true) (cCallV true run i_law_held (cCons (cVar 0) (cCons (cVar 1) (cCons (cVar 2) cNil)))) (cRo (cLst cNil)))) (cT (c2 gGt (c2 gAdd (c1 gLen (cCons (cVar 3) cNil)) (c1 gLen (cCons (cVar 6) cNil))) (cP (.int 24)))))
    (sRet (cP (.bl true)))
    sNil)
  (sRet (c2 (gEqB false) (cCallV true run ilines_of (cCons (cVar 0) (cCons (cVar 1) (cCons (cTup (cCons (cP (.str "either")) (cCons (cTup (cCons (cVar 2) (cCons (cVar 5) cNil))) cNil))) (cCons (cTup cNil) cNil))))) (c2 gAdd (cVar 3) (cVar 6)))))))
def f_law_either_right (ilines_of i_law_held i_law_shape : Nat) : Fd := ⟨"_law_either_right", ["book", "kind", "shape", "base", "pool"], ["book", "kind", "shape", "base", "pool", "other", "more"], b_law_either_right ilines_of i_law_held i_law_shape⟩
/-- _law_make_right(book, plain, kind, shape, base, pool): book=0 plain=1 kind=2 shape=3 base=4 pool=5 homes=6 home=7 coming=8 due=9 tests=10 line=11 -/
def b_law_make_right (i_law_placed ilines_of i_law_ahead i_law_coming i_law_next i_law_homes : Nat) (run : Run) : CS :=
  (sSeq (sAsg (cCallV true run i_law_homes (cCons (cVar 0) (cCons (cVar 2) cNil))) (gN 6))
  (sSeq (sIf (cT (c2 (gEqB false) (cVar 6) (cRo (cLst cNil))))
    (sRet (cP (.bl true)))
    sNil)
  (sSeq (sAsg (c2 gIx (cVar 6) (cCallV true run i_law_next (cCons (cVar 5) (cCons (c1 gLen (cCons (cVar 6) cNil)) cNil)))) (gN 7))
  (sSeq (sAsg (cDo (cDPairs (cCallV true run i_law_coming (cCons (cVar 0) (cCons (cVar 1) (cCons (c2 gIx (cVar 7) (cP (.int 0))) cNil)))))) (gN 8))
  (sSeq (sAsg (cRo (cLst cNil)) (gN 9))
  (sSeq (sIf (cT (c2 (gInB false) (c2 gIx (cVar 7) (cP (.int 1))) (cVar 8)))
    (sSeq (sAsg (c2 gMulT (cTup (cCons (cTup (cCons (cP (.str "is")) (cCons (cTup cNil) (cCons (c2 gIx (cVar 7) (cP (.int 1))) cNil)))) cNil)) (c1 gIntOf (cCons (c2 gGt (c1 gLen (cCons (cVar 8) cNil)) (cP (.int 1))) cNil))) (gN 10))
  (sAsg (cRo (cComp (cIt (cCallV true run i_law_ahead (cCons (cTup (cCons (cTup (cCons (c2 gIx (cVar 7) (cP (.int 1))) (cCons (c2 gIx (cVar 7) (cP (.int 3))) cNil))) cNil)) (cCons (cVar 4) cNil)))) (gN 11) cYes (cTup (cCons (c2 gAdd (cVar 10) (c2 gIx (cVar 11) (cP (.int 0)))) (cCons (c2 gIx (cVar 11) (cP (.int 1))) cNil))) [11])) (gN 9)))
    sNil)
  (sRet (c2 (gEqB false) (cCallV true run ilines_of (cCons (cVar 0) (cCons (c2 gIx (cVar 7) (cP (.int 0))) (cCons (cCallV true run i_law_placed (cCons (cVar 7) (cCons (cVar 3) cNil))) (cCons (cTup cNil) cNil))))) (cVar 9)))))))))
def f_law_make_right (i_law_placed ilines_of i_law_ahead i_law_coming i_law_next i_law_homes : Nat) : Fd := ⟨"_law_make_right", ["book", "plain", "kind", "shape", "base", "pool"], ["book", "plain", "kind", "shape", "base", "pool", "homes", "home", "coming", "due", "tests", "line"], b_law_make_right i_law_placed ilines_of i_law_ahead i_law_coming i_law_next i_law_homes⟩
/-- answered(answer, parts): answer=0 parts=1 part=2 -/
def b_answered (ianswered : Nat) (run : Run) : CS :=
  (sSeq (sIf (cT (c2 (gEqB false) (c2 gIx (cVar 0) (cP (.int 0))) (cP (.str "num"))))
    (sRet (c2 gIx (cVar 0) (cP (.int 1))))
    sNil)
  (sSeq (sIf (cT (c2 (gEqB false) (c2 gIx (cVar 0) (cP (.int 0))) (cP (.str "held"))))
    (sRet (c2 gIx (cVar 1) (c2 gIx (cVar 0) (cP (.int 1)))))
    sNil)
  (sRet (c2 gAdd (cTup (cCons (c2 gIx (cVar 0) (cP (.int 1))) cNil)) (c1 gTuple (cCons (cRo (cComp (cIt (c2 gIx (cVar 0) (cP (.int 2)))) (gN 2) cYes (cCallV true run ianswered (cCons (cVar 2) (cCons (cVar 1) cNil))) [2])) cNil))))))
def f_answered (ianswered : Nat) : Fd := ⟨"answered", ["answer", "parts"], ["answer", "parts", "part"], b_answered ianswered⟩
/-- told(book, cases, value): book=0 cases=1 value=2 i=3 row=4 lines=5 number=6 parts=7 name=8 spot=9 -/
def b_told (ianswered ipart_at ifirst_fitting irow_lines : Nat) (run : Run) : CS :=
  (sSeq (sFor (cEnum (c2 gIx (cVar 1) (cP (.int 2)))) (gTp 2 (gsCons (gN 3) (gsCons (gN 4) gsNil)))
    (sSeq (sAsg (cCallV true run irow_lines (cCons (cVar 0) (cCons (cVar 1) (cCons (cVar 3) cNil)))) (gN 5))
  (sSeq (sAsg (cCallV true run ifirst_fitting (cCons (cVar 5) (cCons (cVar 2) cNil))) (gN 6))
  (sIf (cT (c2 (gIs true) (cVar 6) (cP .non)))
    (sSeq (sAsg (cDt cDNew) (gN 7))
  (sSeq (sFor (cIt (c2 gIx (c2 gIx (cVar 5) (cVar 6)) (cP (.int 1)))) (gTp 2 (gsCons (gN 8) (gsCons (gN 9) gsNil)))
    (sAsg (cCallV true run ipart_at (cCons (cVar 2) (cCons (cVar 9) cNil))) (gAt (cVar 7) (cVar 8))))
  (sRet (cTup (cCons (cVar 3) (cCons (cCallV true run ianswered (cCons (c2 gIx (cVar 4) (cP (.int 2))) (cCons (cVar 7) cNil))) cNil))))))
    sNil))))
  (sRet (cP .non)))
def f_told (ianswered ipart_at ifirst_fitting irow_lines : Nat) : Fd := ⟨"told", ["book", "cases", "value"], ["book", "cases", "value", "i", "row", "lines", "number", "parts", "name", "spot"], b_told ianswered ipart_at ifirst_fitting irow_lines⟩
/-- _law_guarded(guard, held): guard=0 held=1 known=2 one=3 sign=4 other=5 here=6 there=7 signs=8 -/
def b_law_guarded (run : Run) : CS :=
  (sSeq (sAsg (cDo (cDPairs (cVar 1))) (gN 2))
  (sSeq (sFor (cIt (cVar 0)) (gTp 3 (gsCons (gN 3) (gsCons (gN 4) (gsCons (gN 5) gsNil))))
    (sSeq (sAsg (c2 gIx (cVar 2) (cVar 3)) (gN 6))
  (sSeq (sAsg (cGet2 (cVar 2) (cVar 5) (cVar 5)) (gN 7))
  (sSeq (sAsg (cRo (cLst (cCons (cP (.str "<=")) (cCons (cP (.str "=")) (cCons (cP (.str ">=")) cNil))))) (gN 8))
  (sSeq (sIf (cT (c2 gLt (cVar 6) (cVar 7)))
    (sAsg (cRo (cLst (cCons (cP (.str "<")) (cCons (cP (.str "<=")) cNil)))) (gN 8))
    sNil)
  (sSeq (sIf (cT (c2 gGt (cVar 6) (cVar 7)))
    (sAsg (cRo (cLst (cCons (cP (.str ">")) (cCons (cP (.str ">=")) cNil)))) (gN 8))
    sNil)
  (sIf (cT (c2 (gInB true) (cVar 4) (cVar 8)))
    (sRet (cP (.bl false)))
    sNil)))))))
  (sRet (cP (.bl true)))))
def f_law_guarded : Fd := ⟨"_law_guarded", ["guard", "held"], ["guard", "held", "known", "one", "sign", "other", "here", "there", "signs"], b_law_guarded⟩
/-- _law_answer(book, plain, kind, held, pool, deep): book=0 plain=1 kind=2 held=3 pool=4 deep=5 names=6 makes=7 make=8 fields=9 name=10 at=11 field=12 -/
def b_law_answer (i_law_answer i_law_next i_law_coming i_law_said i_law_number : Nat) (run : Run) : CS :=
  (sSeq (sAsg (cRo (cComp (cIt (cVar 3)) (gTp 2 (gsCons (gN 10) (gsCons (gN 11) gsNil))) (cT (c2 (gEqB false) (cVar 11) (cVar 2))) (cVar 10) [10, 11])) (gN 6))
  (sSeq (sIf (cAnd (cT (c2 gGt (c1 gLen (cCons (cVar 6) cNil)) (cP (.int 0)))) (cT (c2 (gEqB false) (cCallV true run i_law_next (cCons (cVar 4) (cCons (cP (.int 2)) cNil))) (cP (.int 0)))))
    (sRet (cTup (cCons (cP (.str "held")) (cCons (c2 gIx (cVar 6) (cCallV true run i_law_next (cCons (cVar 4) (cCons (c1 gLen (cCons (cVar 6) cNil)) cNil)))) cNil))))
    sNil)
  (sSeq (sIf (cT (c2 (gEqB false) (cVar 2) (cP (.str "num"))))
    (sRet (cTup (cCons (cP (.str "num")) (cCons (cCallV true run i_law_number (cCons (cVar 4) cNil)) cNil))))
    sNil)
  (sSeq (sIf (cT (c2 gLt (cVar 5) (cP (.int 1))))
    (sRet (cCallV true run i_law_said (cCons (c2 gIx (cVar 1) (cVar 2)) cNil)))
    sNil)
  (sSeq (sAsg (cCallV true run i_law_coming (cCons (cVar 0) (cCons (cVar 1) (cCons (cVar 2) cNil)))) (gN 7))
  (sSeq (sAsg (c2 gIx (cVar 7) (cCallV true run i_law_next (cCons (cVar 4) (cCons (c1 gLen (cCons (cVar 7) cNil)) cNil)))) (gTp 2 (gsCons (gN 8) (gsCons (gN 9) gsNil))))
  (sRet (cTup (cCons (cP (.str "make")) (cCons (cVar 8) (cCons (c1 gTuple (cCons (cRo (cComp (cIt (cVar 9)) (gN 12) cYes (cCallV true run i_law_answer (cCons (cVar 0) (cCons (cVar 1) (cCons (cVar 12) (cCons (cVar 3) (cCons (cVar 4) (cCons (c2 gSub (cVar 5) (cP (.int 1))) cNil))))))) [12])) cNil)) cNil)))))))))))
def f_law_answer (i_law_answer i_law_next i_law_coming i_law_said i_law_number : Nat) : Fd := ⟨"_law_answer", ["book", "plain", "kind", "held", "pool", "deep"], ["book", "plain", "kind", "held", "pool", "deep", "names", "makes", "make", "fields", "name", "at", "field"], b_law_answer i_law_answer i_law_next i_law_coming i_law_said i_law_number⟩
/-- _law_guard(held, pool): held=0 pool=1 numbers=2 guard=3 k=4 one=5 other=6 name=7 at=8 -/
def b_law_guard (i_law_next i_law_number : Nat) (run : Run) : CS :=
  (sSeq (sAsg (cRo (cComp (cIt (cVar 0)) (gTp 2 (gsCons (gN 7) (gsCons (gN 8) gsNil))) (cT (c2 (gEqB false) (cVar 8) (cP (.str "num")))) (cVar 7) [7, 8])) (gN 2))
  (sSeq (sAsg (cTr (cLst cNil)) (gN 3))
  (sSeq (sIf (cT (c2 gGt (c1 gLen (cCons (cVar 2) cNil)) (cP (.int 0))))
    (sFor (cRng1 (c2 gIx (cRo (cLst (cCons (cP (.int 0)) (cCons (cP (.int 0)) (cCons (cP (.int 1)) (cCons (cP (.int 1)) (cCons (cP (.int 1)) (cCons (cP (.int 2)) (cCons (cP (.int 2)) (cCons (cP (.int 4)) cNil)))))))))) (cCallV true run i_law_next (cCons (cVar 1) (cCons (cP (.int 8)) cNil))))) (gN 4)
    (sSeq (sAsg (c2 gIx (cVar 2) (cCallV true run i_law_next (cCons (cVar 1) (cCons (c1 gLen (cCons (cVar 2) cNil)) cNil)))) (gN 5))
  (sSeq (sAsg (c2 gIx (cRo (cLst (cCons (cCallV true run i_law_number (cCons (cVar 1) cNil)) (cCons (c2 gIx (cVar 2) (cCallV true run i_law_next (cCons (cVar 1) (cCons (c1 gLen (cCons (cVar 2) cNil)) cNil)))) cNil)))) (cCallV true run i_law_next (cCons (cVar 1) (cCons (cP (.int 2)) cNil)))) (gN 6))
  (sDrop (cM "list" gAppend (cVar 3) (cCons (cTup (cCons (cVar 5) (cCons (c2 gIx (cRo (cLst (cCons (cP (.str "<")) (cCons (cP (.str "<=")) (cCons (cP (.str "=")) (cCons (cP (.str ">=")) (cCons (cP (.str ">")) cNil))))))) (cCallV true run i_law_next (cCons (cVar 1) (cCons (cP (.int 5)) cNil)))) (cCons (cVar 6) cNil)))) cNil))))))
    sNil)
  (sRet (c1 gTuple (cCons (cVar 3) cNil))))))
def f_law_guard (i_law_next i_law_number : Nat) : Fd := ⟨"_law_guard", ["held", "pool"], ["held", "pool", "numbers", "guard", "k", "one", "other", "name", "at"], b_law_guard i_law_next i_law_number⟩
/-- _law_row(book, plain, pair, pool): book=0 plain=1 pair=2 pool=3 shape=4 held=5 -/
def b_law_row (i_law_answer i_law_guard i_law_held i_law_drawn_shape : Nat) (run : Run) : CS :=
  (sSeq (sAsg (cCallV true run i_law_drawn_shape (cCons (cVar 0) (cCons (c2 gIx (cVar 2) (cP (.int 0))) (cCons (cVar 3) cNil)))) (gN 4))
  (sSeq (sAsg (cCallV true run i_law_held (cCons (cVar 0) (cCons (c2 gIx (cVar 2) (cP (.int 0))) (cCons (cVar 4) cNil)))) (gN 5))
  (sRet (cTup (cCons (cVar 4) (cCons (cCallV true run i_law_guard (cCons (cVar 5) (cCons (cVar 3) cNil))) (cCons (cCallV true run i_law_answer (cCons (cVar 0) (cCons (cVar 1) (cCons (c2 gIx (cVar 2) (cP (.int 1))) (cCons (cVar 5) (cCons (cVar 3) (cCons (cP (.int 2)) cNil))))))) cNil)))))))
def f_law_row (i_law_answer i_law_guard i_law_held i_law_drawn_shape : Nat) : Fd := ⟨"_law_row", ["book", "plain", "pair", "pool"], ["book", "plain", "pair", "pool", "shape", "held"], b_law_row i_law_answer i_law_guard i_law_held i_law_drawn_shape⟩
/-- _law_cases(book, plain, pool): book=0 plain=1 pool=2 kinds=3 pair=4 rows=5 k=6 -/
def b_law_cases (i_law_next i_law_row : Nat) (run : Run) : CS :=
  (sSeq (sAsg (cRo (nSortS (cRo (nKeys (cVar 1))))) (gN 3))
  (sSeq (sAsg (cTup (cCons (c2 gIx (cVar 3) (cCallV true run i_law_next (cCons (cVar 2) (cCons (c1 gLen (cCons (cVar 3) cNil)) cNil)))) (cCons (c2 gIx (cVar 3) (cCallV true run i_law_next (cCons (cVar 2) (cCons (c1 gLen (cCons (cVar 3) cNil)) cNil)))) cNil))) (gN 4))
  (sSeq (sAsg (cTr (cLst cNil)) (gN 5))
  (sSeq (sFor (cRng1 (c2 gIx (cRo (cLst (cCons (cP (.int 0)) (cCons (cP (.int 1)) (cCons (cP (.int 2)) (cCons (cP (.int 2)) (cCons (cP (.int 3)) (cCons (cP (.int 3)) (cCons (cP (.int 4)) (cCons (cP (.int 8)) cNil)))))))))) (cCallV true run i_law_next (cCons (cVar 2) (cCons (cP (.int 8)) cNil))))) (gN 6)
    (sDrop (cM "list" gAppend (cVar 5) (cCons (cCallV true run i_law_row (cCons (cVar 0) (cCons (cVar 1) (cCons (cVar 4) (cCons (cVar 2) cNil))))) cNil))))
  (sRet (c2 gAdd (cVar 4) (cTup (cCons (c1 gTuple (cCons (cVar 5) cNil)) cNil))))))))
def f_law_cases (i_law_next i_law_row : Nat) : Fd := ⟨"_law_cases", ["book", "plain", "pool"], ["book", "plain", "pool", "kinds", "pair", "rows", "k"], b_law_cases i_law_next i_law_row⟩
/-- _law_drawn_value(book, plain, cases, pool): book=0 plain=1 cases=2 pool=3 rows=4 shape=5 -/
def b_law_drawn_value (i_law_value i_law_next i_law_like : Nat) (run : Run) : CS :=
  (sSeq (sAsg (c2 gIx (cVar 2) (cP (.int 2))) (gN 4))
  (sSeq (sIf (cAnd (cT (c2 gGt (c1 gLen (cCons (cVar 4) cNil)) (cP (.int 0)))) (cT (c2 gGt (cCallV true run i_law_next (cCons (cVar 3) (cCons (cP (.int 8)) cNil))) (cP (.int 0)))))
    (sSeq (sAsg (c2 gIx (c2 gIx (cVar 4) (cCallV true run i_law_next (cCons (cVar 3) (cCons (c1 gLen (cCons (cVar 4) cNil)) cNil)))) (cP (.int 0))) (gN 5))
  (sRet (cCallV true run i_law_like (cCons (cVar 0) (cCons (cVar 1) (cCons (c2 gIx (cVar 2) (cP (.int 0))) (cCons (cVar 5) (cCons (cVar 3) (cCons (cP (.int 3)) cNil)))))))))
    sNil)
  (sRet (cCallV true run i_law_value (cCons (cVar 0) (cCons (cVar 1) (cCons (c2 gIx (cVar 2) (cP (.int 0))) (cCons (cVar 3) (cCons (cP (.int 3)) cNil)))))))))
def f_law_drawn_value (i_law_value i_law_next i_law_like : Nat) : Fd := ⟨"_law_drawn_value", ["book", "plain", "cases", "pool"], ["book", "plain", "cases", "pool", "rows", "shape"], b_law_drawn_value i_law_value i_law_next i_law_like⟩
/-- _law_made(answer, parts): answer=0 parts=1 part=2 -/
def b_law_made (i_law_made : Nat) (run : Run) : CS :=
  (sSeq (sIf (cT (c2 (gEqB false) (c2 gIx (cVar 0) (cP (.int 0))) (cP (.str "num"))))
    (sRet (c2 gIx (cVar 0) (cP (.int 1))))
    sNil)
  (sSeq (sIf (cT (c2 (gEqB false) (c2 gIx (cVar 0) (cP (.int 0))) (cP (.str "held"))))
    (sRet (c2 gIx (cVar 1) (c2 gIx (cVar 0) (cP (.int 1)))))
    sNil)
  (sRet (c2 gAdd (cTup (cCons (c2 gIx (cVar 0) (cP (.int 1))) cNil)) (c1 gTuple (cCons (cRo (cComp (cIt (c2 gIx (cVar 0) (cP (.int 2)))) (gN 2) cYes (cCallV true run i_law_made (cCons (cVar 2) (cCons (cVar 1) cNil))) [2])) cNil))))))
def f_law_made (i_law_made : Nat) : Fd := ⟨"_law_made", ["answer", "parts"], ["answer", "parts", "part"], b_law_made i_law_made⟩
/-- _law_due(book, plain, cases, value): book=0 plain=1 cases=2 value=3 i=4 row=5 held=6 -/
def b_law_due (i_law_tries i_law_guarded i_law_made : Nat) (run : Run) : CS :=
  (sSeq (sFor (cEnum (c2 gIx (cVar 2) (cP (.int 2)))) (gTp 2 (gsCons (gN 4) (gsCons (gN 5) gsNil)))
    (sFor (cIt (cCallV true run i_law_tries (cCons (cVar 0) (cCons (cVar 1) (cCons (c2 gIx (cVar 2) (cP (.int 0))) (cCons (c2 gIx (cVar 5) (cP (.int 0))) (cCons (cVar 3) (cCons (cTup cNil) cNil)))))))) (gN 6)
    (sIf (cAnd (cT (c2 (gIs true) (cVar 6) (cP .non))) (cTru (cCallV true run i_law_guarded (cCons (c2 gIx (cVar 5) (cP (.int 1))) (cCons (cVar 6) cNil)))))
    (sRet (cTup (cCons (cVar 4) (cCons (cCallV true run i_law_made (cCons (c2 gIx (cVar 5) (cP (.int 2))) (cCons (cDo (cDPairs (cVar 6))) cNil))) cNil))))
    sNil)))
  (sRet (cP .non)))
def f_law_due (i_law_tries i_law_guarded i_law_made : Nat) : Fd := ⟨"_law_due", ["book", "plain", "cases", "value"], ["book", "plain", "cases", "value", "i", "row", "held"], b_law_due i_law_tries i_law_guarded i_law_made⟩
/-- _law_renamed_shape(shape, names): shape=0 names=1 side=2 part=3 -/
def b_law_renamed_shape (i_law_renamed_shape : Nat) (run : Run) : CS :=
  (sSeq (sIf (cT (c2 (gEqB false) (c2 gIx (cVar 0) (cP (.int 0))) (cP (.str "held"))))
    (sRet (cTup (cCons (cP (.str "held")) (cCons (c2 gIx (cVar 1) (c2 gIx (cVar 0) (cP (.int 1)))) (cCons (cCallV true run i_law_renamed_shape (cCons (c2 gIx (cVar 0) (cP (.int 2))) (cCons (cVar 1) cNil))) cNil)))))
    sNil)
  (sSeq (sIf (cT (c2 (gEqB false) (c2 gIx (cVar 0) (cP (.int 0))) (cP (.str "either"))))
    (sRet (cTup (cCons (cP (.str "either")) (cCons (c1 gTuple (cCons (cRo (cComp (cIt (c2 gIx (cVar 0) (cP (.int 1)))) (gN 2) cYes (cCallV true run i_law_renamed_shape (cCons (cVar 2) (cCons (cVar 1) cNil))) [2])) cNil)) cNil))))
    sNil)
  (sSeq (sIf (cT (c2 (gEqB false) (c2 gIx (cVar 0) (cP (.int 0))) (cP (.str "make"))))
    (sRet (cTup (cCons (cP (.str "make")) (cCons (c2 gIx (cVar 0) (cP (.int 1))) (cCons (c1 gTuple (cCons (cRo (cComp (cIt (c2 gIx (cVar 0) (cP (.int 2)))) (gN 3) cYes (cCallV true run i_law_renamed_shape (cCons (cVar 3) (cCons (cVar 1) cNil))) [3])) cNil)) cNil)))))
    sNil)
  (sRet (cVar 0)))))
def f_law_renamed_shape (i_law_renamed_shape : Nat) : Fd := ⟨"_law_renamed_shape", ["shape", "names"], ["shape", "names", "side", "part"], b_law_renamed_shape i_law_renamed_shape⟩
/-- _law_renamed_answer(answer, names): answer=0 names=1 part=2 -/
def b_law_renamed_answer (i_law_renamed_answer : Nat) (run : Run) : CS :=
  (sSeq (sIf (cT (c2 (gEqB false) (c2 gIx (cVar 0) (cP (.int 0))) (cP (.str "held"))))
    (sRet (cTup (cCons (cP (.str "held")) (cCons (c2 gIx (cVar 1) (c2 gIx (cVar 0) (cP (.int 1)))) cNil))))
    sNil)
  (sSeq (sIf (cT (c2 (gEqB false) (c2 gIx (cVar 0) (cP (.int 0))) (cP (.str "make"))))
    (sRet (cTup (cCons (cP (.str "make")) (cCons (c2 gIx (cVar 0) (cP (.int 1))) (cCons (c1 gTuple (cCons (cRo (cComp (cIt (c2 gIx (cVar 0) (cP (.int 2)))) (gN 2) cYes (cCallV true run i_law_renamed_answer (cCons (cVar 2) (cCons (cVar 1) cNil))) [2])) cNil)) cNil)))))
    sNil)
  (sRet (cVar 0))))
def f_law_renamed_answer (i_law_renamed_answer : Nat) : Fd := ⟨"_law_renamed_answer", ["answer", "names"], ["answer", "names", "part"], b_law_renamed_answer i_law_renamed_answer⟩
/-- _law_renamed(book, cases): book=0 cases=1 taken=2 words=3 names=4 k=5 name=6 rows=7 shape=8 guard=9 answer=10 other=11 first=12 letter=13 word=14 one=15 sign=16 end=17 -/
def b_law_renamed (i_law_renamed_answer i_law_renamed_shape i_law_make_names : Nat) (run : Run) : CS :=
  (sSeq (sAsg (cCallV true run i_law_make_names (cCons (cVar 0) cNil)) (gN 2))
  (sSeq (sAsg (cRo (cComp (cIt (cP (.str "hgfedcba"))) (gN 13) cYes (c2 gAdd (cP (.str "hold")) (cVar 13)) [13])) (gN 3))
  (sSeq (sAsg (c2 gAdd (cVar 3) (cRo (cComp (cIt (cP (.str "hgfedcba"))) (gN 13) cYes (c2 gAdd (cP (.str "if")) (cVar 13)) [13]))) (gN 3))
  (sSeq (sAsg (cRo (cComp (cIt (cVar 3)) (gN 14) (cT (c2 (gInB true) (cVar 14) (cVar 2))) (cVar 14) [14])) (gN 3))
  (sSeq (sAsg (cDt cDNew) (gN 4))
  (sSeq (sFor (cEnum (cRo (cLst (cCons (cP (.str "x")) (cCons (cP (.str "xa")) (cCons (cP (.str "ax")) (cCons (cP (.str "left")) (cCons (cP (.str "lefa")) (cCons (cP (.str "qqqqqqqq")) (cCons (cP (.str "num")) (cCons (cP (.str "if")) cNil))))))))))) (gTp 2 (gsCons (gN 5) (gsCons (gN 6) gsNil)))
    (sAsg (c2 gIx (cVar 3) (cVar 5)) (gAt (cVar 4) (cVar 6))))
  (sSeq (sAsg (cTr (cLst cNil)) (gN 7))
  (sSeq (sFor (cIt (c2 gIx (cVar 1) (cP (.int 2)))) (gTp 3 (gsCons (gN 8) (gsCons (gN 9) (gsCons (gN 10) gsNil))))
    (sSeq (sAsg (c1 gTuple (cCons (cRo (cComp (cIt (cVar 9)) (gTp 3 (gsCons (gN 15) (gsCons (gN 16) (gsCons (gN 17) gsNil)))) cYes (cTup (cCons (c2 gIx (cVar 4) (cVar 15)) (cCons (cVar 16) (cCons (cGet2 (cVar 4) (cVar 17) (cVar 17)) cNil)))) [15, 16, 17])) cNil)) (gN 11))
  (sSeq (sAsg (cCallV true run i_law_renamed_shape (cCons (cVar 8) (cCons (cVar 4) cNil))) (gN 12))
  (sDrop (cM "list" gAppend (cVar 7) (cCons (cTup (cCons (cVar 12) (cCons (cVar 11) (cCons (cCallV true run i_law_renamed_answer (cCons (cVar 10) (cCons (cVar 4) cNil))) cNil)))) cNil))))))
  (sRet (c2 gAdd (cSl (cVar 1) cONone (cOSome (cP (.int 2)))) (cTup (cCons (c1 gTuple (cCons (cVar 7) cNil)) cNil))))))))))))
def f_law_renamed (i_law_renamed_answer i_law_renamed_shape i_law_make_names : Nat) : Fd := ⟨"_law_renamed", ["book", "cases"], ["book", "cases", "taken", "words", "names", "k", "name", "rows", "shape", "guard", "answer", "other", "first", "letter", "word", "one", "sign", "end"], b_law_renamed i_law_renamed_answer i_law_renamed_shape i_law_make_names⟩
/-- _law_parted(cases): cases=0 rows=1 row=2 side=3 -/
def b_law_parted (run : Run) : CS :=
  (sSeq (sAsg (cTr (cLst cNil)) (gN 1))
  (sSeq (sFor (cIt (c2 gIx (cVar 0) (cP (.int 2)))) (gN 2)
    (sIf (cT (c2 (gEqB false) (c2 gIx (c2 gIx (cVar 2) (cP (.int 0))) (cP (.int 0))) (cP (.str "either"))))
    (sDrop (cM "list" gExtend (cVar 1) (cCons (cRo (cComp (cIt (c2 gIx (c2 gIx (cVar 2) (cP (.int 0))) (cP (.int 1)))) (gN 3) cYes (cTup (cCons (cVar 3) (cCons (c2 gIx (cVar 2) (cP (.int 1))) (cCons (c2 gIx (cVar 2) (cP (.int 2))) cNil)))) [3])) cNil)))
    (sDrop (cM "list" gAppend (cVar 1) (cCons (cVar 2) cNil)))))
  (sSeq (sIf (cT (c2 gGt (c1 gLen (cCons (cVar 1) cNil)) (cP (.int 8))))
    (sRet (cVar 0))
    sNil)
  (sRet (c2 gAdd (cSl (cVar 0) cONone (cOSome (cP (.int 2)))) (cTup (cCons (c1 gTuple (cCons (cVar 1) cNil)) cNil)))))))
def f_law_parted : Fd := ⟨"_law_parted", ["cases"], ["cases", "rows", "row", "side"], b_law_parted⟩
/-- _law_answer_of(found): found=0 -/
def b_law_answer_of (run : Run) : CS :=
  (sSeq (sIf (cT (c2 (gIs false) (cVar 0) (cP .non)))
    (sRet (cP .non))
    sNil)
  (sRet (cTup (cCons (c2 gIx (cVar 0) (cP (.int 1))) cNil))))
def f_law_answer_of : Fd := ⟨"_law_answer_of", ["found"], ["found"], b_law_answer_of⟩
end Gs
set_option Elab.async false
set_option linter.all false
set_option maxRecDepth 100000
set_option maxHeartbeats 4000000
namespace Gs
open Cw L2
open PySem hiding Run

/-! ### draws -/
def Pool (o : Ob) : Prop := ∃ a b c : Int, o = .lst [.int a, .int b, .int c]
theorem Pool.live {o : Ob} (h : Pool o) : isGone o = false := by obtain ⟨a, b, c, rfl⟩ := h; rfl
/-- one draw -/
def NextOk (run : Run) (i : Nat) : Prop := ∀ (S : Sto) (n : Nat) (o : Ob) (base : Int), S[n]? = some o → Pool o → 0 < base → base ≤ 1000000000000000000000000000000000000000000000000000000000000 →
  ∃ (d : Nat) (o' : Ob), callV true run i [.ref n, .p (.int base)] S = .ok (.p (.int d)) (S.set n o') ∧ Pool o' ∧ (d : Int) < base
theorem body_next (run : Run) {base : Int} {o : Ob} (ho : Pool o) (h0 : 0 < base) (h1 : base ≤ 1000000000000000000000000000000000000000000000000000000000000) :
    Nd (b_law_next run [some (.ref 0), some (.p (.int base)), none, none, none] [o]) fun f S' => ∃ x o', toldN 1 f S' = some x ∧ S'[0]? = some o' ∧ Pool o' ∧ ∃ d : Nat, x = .int d ∧ (d : Int) < base := by
  obtain ⟨a, b, c, rfl⟩ := ho
  have dn : ∀ z : Int, ∃ d : Nat, z % base = d ∧ (d : Int) < base := fun z => ⟨(z % base).toNat, by have := Int.emod_nonneg z (show base ≠ 0 by omega); omega, by have := Int.emod_nonneg z (show base ≠ 0 by omega); have := Int.emod_lt_of_pos z h0; omega⟩
  have ix : ∀ (x y z : Int) (r : Sto) (j : Int) (w : P), 0 ≤ j → ([P.int x, .int y, .int z] : List P)[j.toNat]? = some w → gIx (.ref 0) (.p (.int j)) (.lst [.int x, .int y, .int z] :: r) = .ok (.p w) (.lst [.int x, .int y, .int z] :: r) := fun x y z r j w h0 h => vIxRef rfl h0 h
  have st : ∀ (x y z w : Int) (j : Int), 0 ≤ j → j < 3 → gSet (.ref 0) (.p (.int j)) (.p (.int w)) [.lst [.int x, .int y, .int z]] = .ok () [.lst ([P.int x, .int y, .int z].set j.toNat (.int w))] := fun x y z w j h0 h => vSetL (n := 0) rfl h0 (by simpa using h)
  by_cases h : 0 < a
  · obtain ⟨d, hd, hl⟩ := dn a
    have e1 := ix a b c [] 0 (.int a) (by omega) rfl
    have e2 := st a b c (a / base) 0 (by omega) (by omega)
    simp (disch := omega) only [b_law_next, xSeq, xSIf, xT, x2, xVar0, xVarS, xP, bind_okE, e1, vGt, h, decide_true, xbT, if_true, xAsg, vMod, xgN, List.set_cons_zero, List.set_cons_succ, vDivB, xgAt, e2, xRet, Int.toNat_zero, hd]
    exact .ok ⟨_, _, rfl, rfl, ⟨_, _, _, rfl⟩, d, rfl, hl⟩
  · have e1 := ix a b c [] 0 (.int a) (by omega) rfl
    have e2 := ix a b c [] 2 (.int c) (by omega) rfl
    have e3 := st a b c (c + 1) 2 (by omega) (by omega)
    have e4 := ix a b (c + 1) [] 1 (.int b) (by omega) rfl
    have e5 := ix a b (c + 1) [] 2 (.int (c + 1)) (by omega) rfl
    have t2 : (2 : Int).toNat = 2 := rfl
    simp (disch := omega) only [b_law_next, xSeq, xSIf, xT, x2, xVar0, xVarS, xP, bind_okE, e1, vGt, h, decide_false, Bool.false_eq_true, xbT, if_false, xSNil, xAsg, e2, vAdd, xgN, List.set_cons_zero, List.set_cons_succ, xgAt, e3, t2, e4, e5, vMulL, vMod, vMulR, vDiv, xRet]
    have m1 : ∀ z : Int, 0 ≤ z % 998244353 ∧ z % 998244353 < 998244353 := fun z => ⟨Int.emod_nonneg _ (by omega), Int.emod_lt_of_pos _ (by omega)⟩
    have m2 : ∀ z : Int, 0 ≤ z % 1000000007 ∧ z % 1000000007 < 1000000007 := fun z => ⟨Int.emod_nonneg _ (by omega), Int.emod_lt_of_pos _ (by omega)⟩
    generalize hn : (b + 7919 * (c + 1)) % 1000000007 = near
    have h2 := m2 (b + 7919 * (c + 1))
    rw [hn] at h2
    generalize hs : (near + 11) * (near + 48271) % 998244353 = stir
    have h3 := m1 ((near + 11) * (near + 48271))
    rw [hs] at h3
    obtain ⟨d, hd, hl⟩ := dn (stir * stir % 2147483647 / 8)
    simp (disch := omega) only [vMulL, bind_okE, vMod, vDiv, hd, hs]
    exact .ok ⟨_, _, rfl, rfl, ⟨_, _, _, rfl⟩, d, rfl, hl⟩
theorem mk_next (b : Int) : Mk1 fun d => [d, .p (.int b)] := ⟨fun n => rfl, fun n => by simp [numOf]⟩
theorem next_ok {T : List Fd} {k i : Nat} (h : T[i]? = some f_law_next) : NextOk (runT T (k + 1)) i := fun S n o base hS ho h0 h1 => by
  obtain ⟨x, o', e, ho', d, rfl, hd⟩ := takes_of (ok := Pool) (Q := fun x => ∃ d : Nat, x = .int d ∧ (d : Int) < base) (mk_next base) (fun _ h => h.live) h rfl (fun o ho => body_next (runT T k) ho h0 h1) S n o hS ho
  exact ⟨d, o', e, ho', hd⟩
/-- a pool of a cell -/
theorem body_pool (run : Run) (c : Int) : Nd (b_law_pool run [some (.p (.int c))] []) fun f S' => f = .rt (.ref 0) ∧ ∃ o, S' = [o] ∧ Pool o := by
  simp (disch := omega) only [b_law_pool, xRet, xTr, xLst, xCons, xNil, x1, x2, xP, xVar0, bind_okE, vPow, vSub, vMax, vMod, allP, List.length_cons, List.length_nil, sizeLine_val, Nat.reduceAdd, Nat.reduceLeDiff, if_true, List.nil_append]
  exact .ok ⟨rfl, _, rfl, _, _, _, rfl⟩
def PoolOk (run : Run) (i : Nat) : Prop := ∀ (S : Sto) (c : Int), ∃ o, callV false run i [.p (.int c)] S = .ok (.ref S.length) (S ++ [o]) ∧ Pool o
theorem pool_ok {T : List Fd} {k i : Nat} (h : T[i]? = some f_law_pool) : PoolOk (runT T (k + 1)) i := fun S c => by
  obtain ⟨f, S', e, rfl, o, rfl, ho⟩ := body_pool (runT T k) c
  obtain ⟨a, b, d, rfl⟩ := id ho
  refine ⟨_, ?_, ho⟩
  have er : runT T (k + 1) i [.p (.int c)] [] = .ok (.ref 0) [.lst [.int a, .int b, .int d]] := by
    rw [runS h rfl]
    have e : b_law_pool (runT T k) [some (.p (.int c))] [] = _ := e
    show leave 0 (b_law_pool (runT T k) [some (.p (.int c))] []) = _
    rw [e]; rfl
  have := callV0 false (xs := [.int c]) S er
  exact this
/-- the k-th number of a script, or nought -/
theorem body_cell (run : Run) (ns : List Int) (k : Nat) : Nd (b_law_cell run [some (.p (.scr (ns.map .int))), some (.p (.int k))] []) fun f S' => toldN 0 f S' = some (.int (ns.getD k 0)) := by
  simp only [b_law_cell, xSeq, xSIf, xT, x2, x1, xCons, xNil, xVar0, xVarS, bind_okE, vLenScr, List.length_map, vLt, Int.ofNat_lt, xbT]
  by_cases h : k < ns.length
  · have g0 := fun S => vIxScr (xs := ns.map .int) (i := (k : Int)) (x := .int ns[k]) S (by omega) (by rw [Int.toNat_natCast, List.getElem?_map, List.getElem?_eq_getElem h]; rfl)
    simp only [h, decide_true, if_true, xRet, x2, xVar0, xVarS, bind_okE, g0]
    exact .ok (by simp [toldN, h])
  · simp only [h, decide_false, Bool.false_eq_true, if_false, xSNil, xRet, xP, bind_okE]
    exact .ok (by simp [toldN, List.getElem?_eq_none (Nat.le_of_not_lt h)])
theorem cell_ok {T : List Fd} {k i : Nat} (h : T[i]? = some f_law_cell) (ns : List Int) (j : Nat) : Tells (runT T (k + 1)) i [.scr (ns.map .int), .int j] (.int (ns.getD j 0)) :=
  tells_of h rfl (body_cell (runT T k) ns j)
end Gs
set_option Elab.async false
set_option linter.all false
set_option maxRecDepth 100000
set_option maxHeartbeats 4000000
namespace Gs
open Cw L2
open PySem hiding Run

/-! ### words -/
def AZ : Str := "abcdefghijklmnopqrstuvwxyz"
theorem az_at : ∀ i : Fin 26, atI AZ.cps.toList ((i.val : Nat) : Int) = some (97 + i.val) := by decide +kernel
theorem az_len : AZ.length = 26 := by decide +kernel
theorem vAZ (x : Nat) (h : x < 26) (S : Sto) : gIx (.p (.str AZ)) (.p (.int (x : Int))) S = .ok (.p (.str (mkS [97 + x]))) S := by
  have h := az_at ⟨x, h⟩
  simp only [gIx, dicL, az_len, sizeLine_eq]
  simp only at h
  rw [h]; rfl
theorem nil_mk : ("" : Str) = mkS [] := by decide +kernel
def wordAt (pre suf : List Nat) (f : Nat) (t : Bool) (k : Nat) : List Nat := pre ++ [97 + (f + 5 * k) % 26] ++ suf ++ (if t && k % 2 == 1 then [97 + (f + k) % 26] else [])
/-- names as they are drawn -/
structure Named (ws : List Str) (m : Nat) (pre suf : List Nat) (f : Nat) (t : Bool) : Prop where
  eq : ws = (List.range m).map fun k => mkS (wordAt pre suf f t k)
  len : pre.length + suf.length ≤ 6
  az : ∀ c ∈ pre ++ suf, 97 ≤ c ∧ c ≤ 122
def NamesOk (run : Run) (i : Nat) : Prop := ∀ (m : Nat) (o : Ob), m ≤ 1000 → Pool o → ∃ ws o' pre suf f t, run i [.ref 0, .p (.int m)] [o] = .ok (.ref 1) [o', .lst (ws.map .str)] ∧ Pool o' ∧ Named ws m pre suf f t
theorem join_letters : ∀ l : List Nat, Txt.join (mkS []) (l.map fun c => mkS [c]) = mkS l := fun l => by
  rw [TL.join_eq]
  induction l with
  | nil => rfl
  | cons c r ih =>
    cases r with
    | nil => rfl
    | cons d s =>
      rw [List.map_cons, List.map_cons]
      rw [List.map_cons] at ih
      show mkS [c] ++ mkS [] ++ Str.join (mkS []) (mkS [d] :: s.map fun c => mkS [c]) = _
      rw [ih, mkS_app, mkS_app, List.append_nil]; rfl
theorem strs_letters : ∀ l : List Nat, strsP (l.map fun c => P.str (mkS [c])) = some (l.map fun c => mkS [c])
  | [] => rfl
  | c :: r => by rw [List.map_cons, strsP, strs_letters r]; rfl
theorem ok_mk {l : List Nat} (h : ∀ c ∈ l, 97 ≤ c ∧ c ≤ 122) : PyData.strOk (mkS l) = true := by
  unfold PyData.strOk
  rw [Array.all_eq_true_iff_forall_mem]
  intro c hc
  have hc : c ∈ l := by simpa [mkS] using hc
  have := h c hc
  exact decide_eq_true (by omega)
theorem NextOk.d {run : Run} {i n : Nat} {ca cb : CE} {ρ : Ev} {S : Sto} {o : Ob} {base : Int} (hn : NextOk run i) (hv : ca ρ S = .ok (.ref n) S) (hb : cb ρ S = .ok (.p (.int base)) S) (hS : S[n]? = some o) (ho : Pool o) (h0 : 0 < base) (h1 : base ≤ 1000000000000000000000000000000000000000000000000000000000000) :
    Nd (cCallV true run i (cCons ca (cCons cb cNil)) ρ S) fun d S' => ∃ (x : Nat) (o' : Ob), d = .p (.int x) ∧ S' = S.set n o' ∧ Pool o' ∧ (x : Int) < base := by
  obtain ⟨x, o', e, ho', hx⟩ := hn S n o base hS ho h0 h1
  simp only [xCallV, xCons, xNil, hv, hb, bind_okE, e]
  exact .ok ⟨x, o', rfl, rfl, ho', hx⟩
theorem vCatAt (a b : List Nat) (k : Nat) (S : Sto) (hl : a.length + b.length ≤ 16777216) (hk : k = a.length) : gSl (.p (.str (mkS (a ++ b)))) none (some (k : Int)) S = .ok (.p (.str (mkS a))) S ∧ gSl (.p (.str (mkS (a ++ b)))) (some (k : Int)) none S = .ok (.p (.str (mkS b))) S := by
  subst hk
  refine ⟨(vSlPreS S (by omega) (by rw [List.length_append]; omega) (by rw [List.length_append]; omega)).trans ?_, (vSlPostS S (by omega) (by rw [List.length_append]; omega) (by rw [List.length_append]; omega)).trans ?_⟩
  · rw [Int.toNat_natCast, List.take_left]
  · rw [Int.toNat_natCast, List.drop_left]
theorem body_names (run : Run) {i : Nat} (hn : NextOk run i) (m : Nat) (hm : m ≤ 1000) {o : Ob} (ho : Pool o) :
    Nd (b_law_names i run [some (.ref 0), some (.p (.int m)), none, none, none, none, none, none, none, none] [o]) fun f S' => f = .rt (.ref 1) ∧ ∃ ws o' pre suf f t, S' = [o', .lst (ws.map .str)] ∧ Pool o' ∧ Named ws m pre suf f t := by
  have hAZ : ("abcdefghijklmnopqrstuvwxyz" : Str) = AZ := rfl
  refine asgE (xP _ _ _) (asgN (J := fun d S' => ∃ (l : List Nat) (o' : Ob), d = .p (.str (mkS l)) ∧ S' = [o'] ∧ Pool o' ∧ l.length ≤ 6 ∧ ∀ c ∈ l, 97 ≤ c ∧ c ≤ 122) ?_ ?_)
  · rw [nil_mk, hAZ]
    simp only [xM, xP, bind_okE, isTy, beq_self_eq_true, if_true, xCons, xRo, bind_asc, xNil, List.set_cons_zero, List.set_cons_succ]
    obtain ⟨n, o1, e1, ho1, hn1⟩ := hn [o] 0 o 7 rfl ho (by omega) (by omega)
    refine bindN (compR (n := n) (S' := [o1]) (Q := fun ys S' => ∃ (l : List Nat) (o' : Ob), ys = l.map (fun c => P.str (mkS [c])) ∧ S' = [o'] ∧ Pool o' ∧ l.length = n ∧ ∀ c ∈ l, 97 ≤ c ∧ c ≤ 122) (cRng1_nat ?_ (by omega))
      (fun acc S => ∃ (l : List Nat) (o' : Ob), acc = l.map (fun c => P.str (mkS [c])) ∧ S = [o'] ∧ Pool o' ∧ ∀ c ∈ l, 97 ≤ c ∧ c ≤ 122) ⟨[], o1, rfl, rfl, ho1, by simp⟩ (by omega) ?_ ?_) ?_
    · simp only [xCallV, xCons, xVar0, xP, xNil, bind_okE, e1]; rfl
    · rintro j acc S hj ha ⟨l, o2, rfl, rfl, ho2, hl⟩
      obtain ⟨x, o3, e3, ho3, hx⟩ := hn [o2] 0 o2 26 rfl ho2 (by omega) (by omega)
      have hz := fun S => vAZ x (by omega) S
      simp only [xgN, bind_okE, x2, wipeE, List.set_cons_zero, List.set_cons_succ, xVar0, xVarS, xCallV, xCons, xNil, xP, e3, hz]
      exact .ok ⟨_, rfl, l ++ [97 + x], o3, by rw [List.map_append]; rfl, rfl, ho3, fun c hc => (List.mem_append.mp hc).elim (hl c) fun q => by rw [List.mem_singleton] at q; omega⟩
    · rintro ys S' ⟨l, o', rfl, rfl, ho', hl⟩ hlen
      exact ⟨l, o', rfl, rfl, ho', by rw [List.length_map] at hlen; exact hlen, hl⟩
    · rintro ys S' ⟨l, o', rfl, rfl, ho', hlen, hl⟩
      have hj : gJoin (.p (.str (mkS []))) [.p (.ro (l.map fun c => P.str (mkS [c])))] [o'] = .ok (.p (.str (mkS l))) [o'] := by
        have h1 : ((l.map fun c => mkS [c]).map fun s => s.length).sum = l.length := by
          clear hl hlen
          induction l with
          | nil => rfl
          | cons c r ih => rw [List.map_cons, List.map_cons, List.sum_cons, ih, mkS_len]; simp; omega
        simp only [gJoin, itemsA, seqA, seqL, Option.bind_some, strs_letters, join_letters, h1, List.length_map, mkS_len, List.length_nil, Nat.mul_zero, Nat.add_zero, ok_mk hl]
        rw [if_pos ⟨by omega, trivial⟩]
      simp only [bind_okE, hj]
      exact .ok ⟨l, o', rfl, rfl, ho', by omega, hl⟩
  rintro d S1 ⟨l, o1, rfl, rfl, ho1, hl, haz⟩
  simp only [List.set_cons_zero, List.set_cons_succ]
  refine asgN (hn.d (base := l.length + 1) rfl ?_ rfl ho1 (by omega) (by omega)) ?_
  · simp only [x2, x1, xCons, xNil, xVar0, xVarS, bind_okE, xP, gLen, mkS_len, sizeLine_val, show l.length ≤ 16777216 by omega, if_true, vAdd]
  rintro d S1 ⟨at_, o2, rfl, rfl, ho2, hat⟩
  simp only [List.set_cons_zero, List.set_cons_succ]
  refine asgN (hn.d (base := 26) rfl rfl rfl ho2 (by omega) (by omega)) ?_
  rintro d S1 ⟨f, o3, rfl, rfl, ho3, hf⟩
  simp only [List.set_cons_zero, List.set_cons_succ]
  refine asgN (hn.d (base := 3) rfl rfl rfl ho3 (by omega) (by omega)) ?_
  rintro d S1 ⟨tl, o4, rfl, rfl, ho4, htl⟩
  simp only [List.set_cons_zero, List.set_cons_succ]
  have hpre : (l.take at_).length = at_ := by rw [List.length_take]; omega
  refine asgE (d := .ref 1) (S' := [o4, .lst []]) rfl ?_
  simp only [List.set_cons_zero, List.set_cons_succ]
  refine rngS (n := m) (cRng1_nat rfl (by omega)) (fun k ρ S => ∃ v8 v9, ρ = [some (.ref 0), some (.p (.int m)), some (.p (.str AZ)), some (.p (.str (mkS l))), some (.p (.int at_)), some (.p (.int f)), some (.p (.int tl)), some (.ref 1), v8, v9] ∧ S = [o4, .lst (((List.range k).map fun k => mkS (wordAt (l.take at_) (l.drop at_) f (tl == 1) k)).map .str)]) ⟨_, _, rfl, rfl⟩ ?_ ?_
  · rintro k ρ S hk ⟨v8, v9, rfl, rfl⟩
    refine Nd.go ?_
    unfold turnF
    have hll : l.take at_ ++ l.drop at_ = l := List.take_append_drop at_ l
    have hlen : (l.take at_).length + (l.drop at_).length = l.length := by rw [← List.length_append, hll]
    have c1 := fun S => (vCatAt (l.take at_) (l.drop at_) at_ S (by omega) hpre.symm).1
    have c2' := fun S => (vCatAt (l.take at_) (l.drop at_) at_ S (by omega) hpre.symm).2
    rw [hll] at c1 c2'
    have m1 : ((f : Int) + 5 * (k : Int)) % 26 = (((f + 5 * k) % 26 : Nat) : Int) := by omega
    have m2 : ((f : Int) + (k : Int)) % 26 = (((f + k) % 26 : Nat) : Int) := by omega
    have m3 : (k : Int) % 2 = ((k % 2 : Nat) : Int) := by omega
    have z1 := fun S => vAZ ((f + 5 * k) % 26) (Nat.mod_lt _ (by omega)) S
    have z2 := fun S => vAZ ((f + k) % 26) (Nat.mod_lt _ (by omega)) S
    have a1 := fun S => vAddS (l.take at_) [97 + (f + 5 * k) % 26] S (by rw [List.length_singleton]; omega)
    have a2 := fun S => vAddS (l.take at_ ++ [97 + (f + 5 * k) % 26]) (l.drop at_) S (by rw [List.length_append, List.length_singleton]; omega)
    have a3 := fun S => vAddS (l.take at_ ++ [97 + (f + 5 * k) % 26] ++ l.drop at_) [97 + (f + k) % 26] S (by simp only [List.length_append, List.length_singleton]; omega)
    simp (disch := omega) only [xgN, bind_okE, xSeq, xAsg, x2, xSl, xONone, xOSome, xVar0, xVarS, xP, List.set_cons_zero, List.set_cons_succ, c1, c2', vMulL, vAdd, vMod, m1, z1, a1, a2, xSIf, xAnd, xT, vEqI, xbT, m3]
    have et : decide ((tl : Int) = 1) = (tl == 1) := by rw [Bool.eq_iff_iff, decide_eq_true_iff, beq_iff_eq]; omega
    have ek : decide (((k % 2 : Nat) : Int) = 1) = (k % 2 == 1) := by rw [Bool.eq_iff_iff, decide_eq_true_iff, beq_iff_eq]; omega
    have happ : ∀ w : List Nat, gAppend (.ref 1) [.p (.str (mkS w))] [o4, .lst (((List.range k).map fun k => mkS (wordAt (l.take at_) (l.drop at_) f (tl == 1) k)).map .str)] = .ok (.p .non) [o4, .lst (((List.range k).map fun k => mkS (wordAt (l.take at_) (l.drop at_) f (tl == 1) k)).map .str ++ [.str (mkS w)])] := fun w => by
      have := vAppend (n := 1) (y := .str (mkS w)) (S := [o4, .lst (((List.range k).map fun k => mkS (wordAt (l.take at_) (l.drop at_) f (tl == 1) k)).map .str)]) rfl (by rw [List.length_map, List.length_map, List.length_range, sizeLine_val]; omega)
      exact this
    have hty : ∀ xs, isTy "list" (.ref 1) [o4, .lst xs] = true := fun xs => by simp [isTy]
    have fin : ∀ w : List Nat, w = wordAt (l.take at_) (l.drop at_) f (tl == 1) k → ((List.range k).map fun k => mkS (wordAt (l.take at_) (l.drop at_) f (tl == 1) k)).map P.str ++ [.str (mkS w)] = ((List.range (k + 1)).map fun k => mkS (wordAt (l.take at_) (l.drop at_) f (tl == 1) k)).map P.str := fun w e => by
      rw [List.range_succ, List.map_append, List.map_append, e]; rfl
    rw [et]
    cases h1 : (tl == 1) with
    | false =>
      simp only [bind_okE, Bool.false_eq_true, if_false, xSNil, xDrop, xM, xVar0, xVarS, hty, if_true, xCons, xNil] at happ fin ⊢
      rw [h1] at happ fin
      simp only [happ, bind_okE]
      exact .ok ⟨_, rfl, _, _, rfl, by rw [fin _ (by simp [wordAt])]⟩
    | true =>
      rw [h1] at happ fin
      simp only [bind_okE, if_true, xT, x2, xVar0, xVarS, xP, vMod, m3, vEqI, xbT, ek, show (0:Int) < 2 by omega]
      cases h2 : (k % 2 == 1) with
      | false =>
        simp only [Bool.false_eq_true, if_false, bind_okE, xSNil, xDrop, xM, xVar0, xVarS, hty, if_true, xCons, xNil, happ]
        exact .ok ⟨_, rfl, _, _, rfl, by rw [fin _ (by simp [wordAt, h2])]⟩
      | true =>
        simp (disch := omega) only [if_true, bind_okE, xAsg, x2, xVar0, xVarS, vAdd, xP, vMod, m2, z2, a3, xgN, List.set_cons_zero, List.set_cons_succ, xDrop, xM, hty, xCons, xNil, happ]
        exact .ok ⟨_, rfl, _, _, rfl, by rw [fin _ (by simp [wordAt, h2])]⟩
  · rintro ρ S ⟨v8, v9, rfl, rfl⟩
    refine retE rfl ⟨rfl, _, o4, l.take at_, l.drop at_, f, tl == 1, rfl, ho4, rfl, ?_, ?_⟩
    · rw [← List.length_append, List.take_append_drop]; exact hl
    · rw [List.take_append_drop]; exact haz
theorem names_ok {T : List Fd} {k i j : Nat} (h : T[i]? = some (f_law_names j)) (hn : NextOk (runT T k) j) : NamesOk (runT T (k + 1)) i := fun m o hm ho => by
  obtain ⟨f, S', e, rfl, ws, o', pre, suf, f, t, rfl, ho', hw⟩ := body_names (runT T k) hn m hm ho
  refine ⟨ws, o', pre, suf, f, t, ?_, ho', hw⟩
  rw [runS h rfl]
  show leave 1 (b_law_names j (runT T k) _ [o]) = _
  rw [show startE (f_law_names j).N.length [D.ref 0, .p (.int m)] = [some (.ref 0), some (.p (.int m)), none, none, none, none, none, none, none, none] from rfl, e]
  rfl
end Gs
set_option Elab.async false
set_option linter.all false
set_option maxRecDepth 100000
set_option maxHeartbeats 4000000
namespace Gs
open Cw L2
open PySem hiding Run

/-! ### books -/
abbrev Mk := Str × List Str
abbrev Kd := Str × List Mk
def encM (m : Mk) : P := .tup [.str m.1, .tup (m.2.map .str)]
def encK (k : Kd) : P := .tup [.str k.1, .tup (k.2.map encM)]
def encB (b : List Kd) : P := .tup (b.map encK)
def num : Str := "num"
def nmsOf (b : List Kd) : List Str := b.flatMap fun k => k.2.map (·.1)
/-- a make, by the names of kinds -/
def MOk (ks : List Str) (m : Mk) : Prop := m.2.length ≤ 4 ∧ ∀ f ∈ m.2, f = num ∨ f ∈ ks
def KOk (ks : List Str) (k : Kd) : Prop := 1 ≤ k.2.length ∧ k.2.length ≤ 6 ∧ ∀ m ∈ k.2, MOk ks m
/-- what is known of a drawn book -/
structure BookOk (b : List Kd) : Prop where
  pos : 1 ≤ b.length
  len : b.length ≤ 6
  nd : (b.map (·.1)).Nodup
  nn : num ∉ b.map (·.1)
  sk : ∀ k ∈ b, PyData.strOk k.1 = true
  ok : ∀ k ∈ b, KOk (b.map (·.1)) k
  mn : (nmsOf b).Nodup
  lens : ∃ L, L ≤ 6 ∧ ∀ w ∈ nmsOf b, w.length = L + 1 ∨ w.length = L + 2

/-! ### what is picked -/
theorem pickRo {tbl : CE} {xs : List P} {ρ : Ev} {S : Sto} {n : Nat} {draw : CE} (ht : tbl ρ S = .ok (.p (.ro xs)) S) (hd : Nd (draw ρ S) fun d S' => ∃ (x : Nat) (o' : Ob), d = .p (.int x) ∧ S' = S.set n o' ∧ Pool o' ∧ (x : Int) < (xs.length : Nat)) :
    Nd (c2 gIx tbl draw ρ S) fun d S' => ∃ (x : P) (o' : Ob), x ∈ xs ∧ d = .p x ∧ S' = S.set n o' ∧ Pool o' := by
  obtain ⟨d, S', e, x, o', rfl, rfl, ho', hx⟩ := hd
  have hx : x < xs.length := by omega
  simp only [x2, ht, bind_okE, e, vIxRoN _ (List.getElem?_eq_getElem hx)]
  exact .ok ⟨_, o', List.getElem_mem hx, rfl, rfl, ho'⟩
theorem pickT {tbl : CE} {xs : List P} {ρ : Ev} {S : Sto} {n : Nat} {draw : CE} (ht : tbl ρ S = .ok (.p (.tup xs)) S) (hd : Nd (draw ρ S) fun d S' => ∃ (x : Nat) (o' : Ob), d = .p (.int x) ∧ S' = S.set n o' ∧ Pool o' ∧ (x : Int) < (xs.length : Nat)) :
    Nd (c2 gIx tbl draw ρ S) fun d S' => ∃ (x : P) (o' : Ob), x ∈ xs ∧ d = .p x ∧ S' = S.set n o' ∧ Pool o' := by
  obtain ⟨d, S', e, x, o', rfl, rfl, ho', hx⟩ := hd
  have hx : x < xs.length := by omega
  simp only [x2, ht, bind_okE, e, vIxT (xs := xs) (i := (x : Int)) (x := xs[x]) _ (by omega) (by rw [Int.toNat_natCast]; exact List.getElem?_eq_getElem hx)]
  exact .ok ⟨_, o', List.getElem_mem hx, rfl, rfl, ho'⟩
theorem enum_strs (ks : List Str) : enumP (ks.map .str) = ks.zipIdx.map fun z => P.tup [.int (z.2 : Nat), .str z.1] := by
  unfold enumP
  rw [List.zipIdx_map, List.map_map]; rfl
theorem zip_pre {α : Type} {ks : List α} {pre post : List (α × Nat)} {x : α × Nat} (h : ks.zipIdx = pre ++ x :: post) : x.2 = pre.length ∧ pre.length < ks.length ∧ ks[pre.length]? = some x.1 ∧ pre.map (·.1) = ks.take pre.length := by
  have e : ks.zipIdx[pre.length]? = some x := by rw [h, List.getElem?_append_right (Nat.le_refl _), Nat.sub_self]; rfl
  rw [List.getElem?_zipIdx] at e
  have hl : ks.zipIdx.length = pre.length + (post.length + 1) := by rw [h, List.length_append, List.length_cons]
  rw [List.length_zipIdx] at hl
  have hp : pre.map (·.1) = ks.take pre.length := by
    have := congrArg (List.map (·.1)) h
    rw [List.zipIdx_map_fst, List.map_append] at this
    rw [this, List.take_left' (by rw [List.length_map])]
  cases hk : ks[pre.length]? with
  | none => rw [hk] at e; cases e
  | some y =>
    rw [hk] at e
    simp at e
    subst e
    exact ⟨rfl, by omega, rfl, hp⟩
/-- where a list in the making stands -/
theorem at_new {a b c : Ob} {G : Sto} {o : Ob} : (a :: b :: c :: (G ++ [o]))[G.length + 3]? = some o := by
  show (a :: b :: c :: (G ++ [o]))[G.length + 1 + 1 + 1]? = some o
  simp
theorem set_new {a b c : Ob} {G : Sto} {o o' : Ob} : (a :: b :: c :: (G ++ [o])).set (G.length + 3) o' = a :: b :: c :: (G ++ [o']) := by
  show (a :: b :: c :: (G ++ [o])).set (G.length + 1 + 1 + 1) o' = _
  simp [List.set_append]
def BookRun (run : Run) (i : Nat) : Prop := ∀ (S : Sto) (n : Nat) (o : Ob), S[n]? = some o → Pool o → ∃ b o', callV true run i [.ref n] S = .ok (.p (encB b)) (S.set n o') ∧ Pool o' ∧ BookOk b
theorem kinds_comp (ws : List Str) (ρ : Ev) (S : Sto) (hρ : 12 < ρ.length) (hl : ws.length ≤ 1000) : Nd (compL (gN 12) cYes (c2 gIx (cRo (cLst (cCons (cVar 12) (cCons (cP (.str "numb")) cNil)))) (c1 gIntOf (cCons (c2 (gEqB false) (cVar 12) (cP (.str "num"))) cNil))) none (ws.map .str) (ws.map .str) [] (wipeE ρ [12]) S)
    fun ys S' => ys = (ws.map fun w => if w = num then ("numb" : Str) else w).map .str ∧ S' = S := by
  rw [compL_map (fun x => match x with | .str w => P.str (if w = num then ("numb" : Str) else w) | x => x) (ws.map .str) [] (by rw [List.length_map, List.length_nil]; omega)]
  · refine .ok ⟨?_, rfl⟩
    rw [List.nil_append, List.map_map, List.map_map]; rfl
  · intro x hx
    obtain ⟨w, _, rfl⟩ := List.mem_map.mp hx
    have e1 : ∀ S, cVar 12 ((wipeE ρ [12]).set 12 (some (.p (.str w)))) S = .ok (.p (.str w)) S := fun S => by
      simp [cVar, wipeE, List.getElem?_set, hρ]
    simp only [xgN, bind_okE, x2, xRo, xLst, xCons, xNil, e1, xP, allP, List.length_cons, List.length_nil, sizeLine_val, Nat.reduceAdd, Nat.reduceLeDiff, if_true, x1, vEqS]
    by_cases h : w = num
    · have h2 : w = ("num" : Str) := h
      rw [decide_eq_true h2, vIntB, bind_okE]
      simp only [if_true, h]
      rfl
    · have h2 : ¬ w = ("num" : Str) := h
      rw [decide_eq_false h2, vIntB, bind_okE]
      simp only [h, if_false, Bool.false_eq_true]
      rfl

/-! ### the names are unlike -/
theorem word_at (pre suf : List Nat) (f : Nat) (t : Bool) (k : Nat) : (wordAt pre suf f t k)[pre.length]? = some (97 + (f + 5 * k) % 26) := by
  unfold wordAt
  rw [List.append_assoc, List.append_assoc, List.getElem?_append_right (Nat.le_refl _), Nat.sub_self]; rfl
theorem word_len (pre suf : List Nat) (f : Nat) (t : Bool) (k : Nat) : (wordAt pre suf f t k).length = pre.length + suf.length + 1 ∨ (wordAt pre suf f t k).length = pre.length + suf.length + 2 := by
  unfold wordAt
  by_cases h : (t && k % 2 == 1) = true
  · rw [if_pos h]; simp only [List.length_append, List.length_singleton]; omega
  · rw [if_neg h]; simp only [List.length_append, List.length_singleton, List.length_nil]; omega
theorem word_pre {pre suf : List Nat} {f : Nat} {t : Bool} {i j : Nat} {r : List Nat} (hi : i < 26) (hj : j < 26) (h : wordAt pre suf f t j = wordAt pre suf f t i ++ r) : i = j := by
  have e1 := word_at pre suf f t i
  have e2 := word_at pre suf f t j
  have hl := word_len pre suf f t i
  rw [h, List.getElem?_append_left (by omega), e1] at e2
  have := Option.some.inj e2
  omega
theorem num_mk : num = mkS [110, 117, 109] := by decide +kernel
theorem numb_mk : ("numb" : Str) = mkS [110, 117, 109, 98] := by decide +kernel
theorem Named.nd {ws : List Str} {m : Nat} {pre suf : List Nat} {f : Nat} {t : Bool} (h : Named ws m pre suf f t) (hm : m ≤ 26) : ws.Nodup := by
  rw [h.eq, List.nodup_iff_pairwise_ne, List.pairwise_map]
  refine (List.nodup_iff_pairwise_ne.mp (List.nodup_range (n := m))).imp_of_mem fun {a b} ha hb hne e => hne ?_
  rw [List.mem_range] at ha hb
  exact word_pre (r := []) (by omega) (by omega) (by rw [List.append_nil]; exact (mkS_inj e).symm)
def kindOf (w : Str) : Str := if w = num then ("numb" : Str) else w
theorem Named.kinds {ws : List Str} {m : Nat} {pre suf : List Nat} {f : Nat} {t : Bool} (h : Named ws m pre suf f t) (hm : m ≤ 26) : (ws.map kindOf).Nodup ∧ num ∉ ws.map kindOf := by
  constructor
  · rw [h.eq, List.map_map, List.nodup_iff_pairwise_ne, List.pairwise_map]
    refine (List.nodup_iff_pairwise_ne.mp (List.nodup_range (n := m))).imp_of_mem fun {a b} ha hb hne e => hne ?_
    rw [List.mem_range] at ha hb
    simp only [Function.comp, kindOf] at e
    split at e
    · rename_i h1
      split at e
      · rename_i h2
        exact word_pre (r := []) (by omega) (by omega) (by rw [List.append_nil]; exact (mkS_inj (h1.trans h2.symm)).symm)
      · rw [numb_mk] at e
        rw [num_mk] at h1
        have e1 := mkS_inj h1
        have e2 := mkS_inj e
        exact word_pre (r := [98]) (by omega) (by omega) (by rw [e1, ← e2]; rfl)
    · split at e
      · rename_i h1 h2
        rw [numb_mk] at e
        rw [num_mk] at h2
        have e1 := mkS_inj h2
        have e2 := mkS_inj e
        exact (word_pre (r := [98]) (by omega) (by omega) (by rw [e1, e2]; rfl)).symm
      · exact word_pre (r := []) (by omega) (by omega) (by rw [List.append_nil]; exact (mkS_inj e).symm)
  · intro hq
    obtain ⟨w, _, e⟩ := List.mem_map.mp hq
    unfold kindOf at e
    split at e
    · rw [num_mk, numb_mk] at e
      have := mkS_inj e
      cases this
    · rename_i h; exact h e
theorem word_ok {ws : List Str} {m : Nat} {pre suf : List Nat} {f : Nat} {t : Bool} (h : Named ws m pre suf f t) : ∀ w ∈ ws.map kindOf, PyData.strOk w = true := by
  intro w hw
  obtain ⟨v, hv, rfl⟩ := List.mem_map.mp hw
  unfold kindOf
  split
  · decide +kernel
  · rw [h.eq] at hv
    obtain ⟨k, _, rfl⟩ := List.mem_map.mp hv
    refine ok_mk fun c hc => ?_
    unfold wordAt at hc
    rcases List.mem_append.mp hc with q | q
    · rcases List.mem_append.mp q with q | q
      · rcases List.mem_append.mp q with q | q
        · exact h.az c (List.mem_append_left _ q)
        · rw [List.mem_singleton] at q; omega
      · exact h.az c (List.mem_append_right _ q)
    · split at q
      · rw [List.mem_singleton] at q; omega
      · cases q
theorem Named.lens {ws : List Str} {m : Nat} {pre suf : List Nat} {f : Nat} {t : Bool} (h : Named ws m pre suf f t) : ∀ w ∈ ws, w.length = (pre.length + suf.length) + 1 ∨ w.length = (pre.length + suf.length) + 2 := by
  intro w hw
  rw [h.eq] at hw
  obtain ⟨k, _, rfl⟩ := List.mem_map.mp hw
  rw [mkS_len]
  exact word_len pre suf f t k
theorem Named.length {ws : List Str} {m : Nat} {pre suf : List Nat} {f : Nat} {t : Bool} (h : Named ws m pre suf f t) : ws.length = m := by rw [h.eq, List.length_map, List.length_range]
end Gs
set_option Elab.async false
set_option linter.all false
set_option maxRecDepth 100000
set_option maxHeartbeats 4000000
namespace Gs
open Cw L2
open PySem hiding Run

def tabA : List P := [.int 1, .int 2, .int 2, .int 3, .int 3, .int 4, .int 4, .int 6]
def tabB : List P := [.int 1, .int 2, .int 2, .int 3, .int 3, .int 2, .int 4, .int 6]
def tabC : List P := [.int 0, .int 0, .int 1, .int 1, .int 2, .int 2, .int 3, .int 4]
theorem tab_in {ns : List Nat} {x : P} (h : x ∈ ns.map fun n : Nat => P.int (n : Int)) : ∃ t : Nat, x = .int t ∧ t ∈ ns := by
  obtain ⟨n, hn, rfl⟩ := List.mem_map.mp h
  exact ⟨n, rfl, hn⟩
theorem tabA_in {x : P} (h : x ∈ tabA) : ∃ t : Nat, x = .int t ∧ 1 ≤ t ∧ t ≤ 6 := by
  obtain ⟨t, e, ht⟩ := tab_in (ns := [1, 2, 2, 3, 3, 4, 4, 6]) h
  exact ⟨t, e, by simp at ht; omega, by simp at ht; omega⟩
theorem tabB_in {x : P} (h : x ∈ tabB) : ∃ t : Nat, x = .int t ∧ 1 ≤ t ∧ t ≤ 6 := by
  obtain ⟨t, e, ht⟩ := tab_in (ns := [1, 2, 2, 3, 3, 2, 4, 6]) h
  exact ⟨t, e, by simp at ht; omega, by simp at ht; omega⟩
theorem tabC_in {x : P} (h : x ∈ tabC) : ∃ t : Nat, x = .int t ∧ t ≤ 4 := by
  obtain ⟨t, e, ht⟩ := tab_in (ns := [0, 0, 1, 1, 2, 2, 3, 4]) h
  exact ⟨t, e, by simp at ht; omega⟩
/-- drawn from a table at the pool that stands first -/
theorem NextOk.d0 {run : Run} {i : Nat} {ca cb : CE} {ρ : Ev} {S : Sto} {o : Ob} {base : Int} (hn : NextOk run i) (hv : ca ρ (o :: S) = .ok (.ref 0) (o :: S)) (hb : cb ρ (o :: S) = .ok (.p (.int base)) (o :: S)) (ho : Pool o) (h0 : 0 < base) (h1 : base ≤ 1000000000000000000000000000000000000000000000000000000000000) :
    Nd (cCallV true run i (cCons ca (cCons cb cNil)) ρ (o :: S)) fun d S' => ∃ (x : Nat) (o' : Ob), d = .p (.int x) ∧ S' = o' :: S ∧ Pool o' ∧ (x : Int) < base :=
  (hn.d hv hb rfl ho h0 h1).mono fun d S' ⟨x, o', e1, e2, h⟩ => ⟨x, o', e1, e2, h⟩
theorem pick0 {tbl : CE} {xs : List P} {ρ : Ev} {S : Sto} {o : Ob} {draw : CE} (ht : tbl ρ (o :: S) = .ok (.p (.ro xs)) (o :: S)) (hd : Nd (draw ρ (o :: S)) fun d S' => ∃ (x : Nat) (o' : Ob), d = .p (.int x) ∧ S' = o' :: S ∧ Pool o' ∧ (x : Int) < (xs.length : Nat)) :
    Nd (c2 gIx tbl draw ρ (o :: S)) fun d S' => ∃ (x : P) (o' : Ob), x ∈ xs ∧ d = .p x ∧ S' = o' :: S ∧ Pool o' :=
  (pickRo (n := 0) ht (hd.mono fun d S' ⟨x, o', e1, e2, h⟩ => ⟨x, o', e1, e2, h⟩)).mono fun d S' ⟨x, o', e0, e1, e2, h⟩ => ⟨x, o', e0, e1, e2, h⟩
/-- the least of two numbers, the first one drawn -/
theorem minD {ca cb : CE} {ρ : Ev} {S S' : Sto} {i j : Int} (ha : ca ρ S = .ok (.p (.int i)) S') (hb : cb ρ S' = .ok (.p (.int j)) S') : c1 gMin (cCons ca (cCons cb cNil)) ρ S = .ok (.p (.int (min i j))) S' := by
  simp only [x1, xCons, xNil, ha, hb, bind_okE, vMin]
theorem wide_of (many : Nat) (S : Sto) : gIx (.p (.ro [.int 4, .int 2])) (.p (.int (if decide ((3 : Int) < many) then 1 else 0))) S = .ok (.p (.int (if 3 < many then 2 else 4))) S := by
  by_cases h : 3 < many
  · have h2 : (3 : Int) < many := by omega
    simp only [h2, decide_true, if_true, h]
    exact vIxRo S (by omega) rfl
  · have h2 : ¬ (3 : Int) < many := by omega
    simp only [h2, decide_false, Bool.false_eq_true, if_false, h]
    exact vIxRo S (by omega) rfl
/-- the fields of one make -/
theorem fields_comp (run : Run) {i : Nat} (hn : NextOk run i) (ks : List Str) (many wide : Nat) (hmany : many = ks.length) (hk : ks.length ≤ 6) (hw : wide ≤ 4) (R : Sto) (vs : List (Option D)) (hvs : vs.length = 10) (h10 : vs[6]? = some (some (.p (.int wide)))) {o : Ob} (ho : Pool o) :
    Nd (cComp (cRng1 (cVar 10)) (gN 13) cYes (c2 gIx (c2 gAdd (cVar 2) (cRo (cLst (cCons (cP (.str "num")) (cCons (cP (.str "num")) cNil))))) (cCallV true run i (cCons (cVar 0) (cCons (c2 gAdd (cVar 1) (cP (.int 2))) cNil)))) [13]
      (some (.ref 0) :: some (.p (.int many)) :: some (.p (.ro (ks.map .str))) :: some (.ref 1) :: vs) (o :: R)) fun ys S' => ∃ (fs : List Str) (o' : Ob), ys = fs.map P.str ∧ S' = o' :: R ∧ Pool o' ∧ fs.length = wide ∧ ∀ f ∈ fs, f = num ∨ f ∈ ks := by
  have hw10 : ∀ S, cVar 10 (some (.ref 0) :: some (.p (.int many)) :: some (.p (.ro (ks.map .str))) :: some (.ref 1) :: vs) S = .ok (.p (.int wide)) S := fun S => by
    simp only [xVarS]
    simp [cVar, h10]
  refine compR (n := wide) (S' := o :: R) (cRng1_nat (hw10 _) (by omega)) (fun acc S => ∃ (fs : List Str) (o' : Ob), acc = fs.map P.str ∧ S = o' :: R ∧ Pool o' ∧ ∀ f ∈ fs, f = num ∨ f ∈ ks) ⟨[], o, rfl, rfl, ho, by simp⟩ (by omega) ?_ ?_
  · rintro j acc S hj ha ⟨fs, o1, rfl, rfl, ho1, hf⟩
    simp only [xgN, bind_okE]
    have hset : (wipeE (some (.ref 0) :: some (.p (.int many)) :: some (.p (.ro (ks.map .str))) :: some (.ref 1) :: vs) [13]).set 13 (some (.p (.int j))) = some (.ref 0) :: some (.p (.int many)) :: some (.p (.ro (ks.map .str))) :: some (.ref 1) :: ((vs.set 9 none).set 9 (some (.p (.int j)))) := by
      simp [wipeE, List.set_cons_succ]
    rw [hset]
    refine (pick0 (xs := ks.map .str ++ [.str num, .str num]) (by
        simp only [x2, xVar0, xVarS, bind_okE, xRo, xLst, xCons, xNil, xP, allP, List.length_cons, List.length_nil, sizeLine_val, Nat.reduceAdd, Nat.reduceLeDiff, if_true, gAdd, gCat, seqL, List.length_map]
        rw [if_pos (by omega)]; rfl) (hn.d0 (base := many + 2) rfl rfl ho1 (by omega) (by omega) |>.mono fun d S' ⟨x, o', e1, e2, h1, h2⟩ => ⟨x, o', e1, e2, h1, by rw [List.length_append, List.length_map]; simp; omega⟩)).mono ?_
    rintro d S' ⟨x, o', hx, rfl, rfl, ho'⟩
    rcases List.mem_append.mp hx with q | q
    · obtain ⟨w, hw, rfl⟩ := List.mem_map.mp q
      exact ⟨_, rfl, fs ++ [w], o', by rw [List.map_append]; rfl, rfl, ho', fun f hf' => (List.mem_append.mp hf').elim (hf f) fun z => by rw [List.mem_singleton] at z; subst z; exact .inr hw⟩
    · have : x = .str num := by simpa using q
      subst this
      exact ⟨_, rfl, fs ++ [num], o', by rw [List.map_append]; rfl, rfl, ho', fun f hf' => (List.mem_append.mp hf').elim (hf f) fun z => by rw [List.mem_singleton] at z; exact .inl z⟩
  · rintro ys S' ⟨fs, o', rfl, rfl, ho', hf⟩ hl
    exact ⟨fs, o', rfl, rfl, ho', by rw [List.length_map] at hl; exact hl, hf⟩
end Gs
set_option Elab.async false
set_option linter.all false
set_option maxRecDepth 100000
set_option maxHeartbeats 4000000
namespace Gs
open Cw L2
open PySem hiding Run

theorem turnE {g : CG} {body : CS} {x : P} {ρ ρ1 : Ev} {S S1 : Sto} {Q : Fl → Sto → Prop} (e : g (.p x) ρ S = .ok ρ1 S1) (h : Nd (body ρ1 S1) Q) : Nd (turnF g body x ρ S) Q := by
  unfold turnF; rw [e]; exact h
/-- one make more -/
theorem make_turn (run : Run) {i : Nat} (hn : NextOk run i) (ks : List Str) (hk : ks.length ≤ 6) (j : Nat) (w : Str) (mk : List Str) (bk : Ob) (G : Sto) (ms : List Mk) (hms : ms.length ≤ 6) {o : Ob} (ho : Pool o) (v5 v6 v7 v9 v10 v11 v12 v13 : Option D) :
    Nd (turnF (gN 9) (sSeq (sAsg (c1 gMin (cCons (c2 gIx (cRo (cLst (cCons (cP (.int 4)) (cCons (cP (.int 2)) cNil)))) (c1 gIntOf (cCons (c2 gGt (cVar 1) (cP (.int 3))) cNil))) (cCons (c2 gIx (cRo (cLst (cCons (cP (.int 0)) (cCons (cP (.int 0)) (cCons (cP (.int 1)) (cCons (cP (.int 1)) (cCons (cP (.int 2)) (cCons (cP (.int 2)) (cCons (cP (.int 3)) (cCons (cP (.int 4)) cNil)))))))))) (cCallV true run i (cCons (cVar 0) (cCons (cP (.int 8)) cNil)))) cNil))) (gN 10))
  (sSeq (sAsg (cRo (cComp (cRng1 (cVar 10)) (gN 13) cYes (c2 gIx (c2 gAdd (cVar 2) (cRo (cLst (cCons (cP (.str "num")) (cCons (cP (.str "num")) cNil))))) (cCallV true run i (cCons (cVar 0) (cCons (c2 gAdd (cVar 1) (cP (.int 2))) cNil)))) [13])) (gN 11))
  (sDrop (cM "list" gAppend (cVar 8) (cCons (cTup (cCons (cM "list" gPopAt (cVar 3) (cCons (cP (.int 0)) cNil)) (cCons (c1 gTuple (cCons (cVar 11) cNil)) cNil))) cNil))))) (.int j)
      [some (.ref 0), some (.p (.int ks.length)), some (.p (.ro (ks.map .str))), some (.ref 1), some (.ref 2), v5, v6, v7, some (.ref (G.length + 3)), v9, v10, v11, v12, v13] (o :: .lst ((w :: mk).map .str) :: bk :: (G ++ [.lst (ms.map encM)])))
    fun f S' => ∃ fs o' w10 w11, f = .nx [some (.ref 0), some (.p (.int ks.length)), some (.p (.ro (ks.map .str))), some (.ref 1), some (.ref 2), v5, v6, v7, some (.ref (G.length + 3)), some (.p (.int j)), w10, w11, v12, v13] ∧
      S' = o' :: .lst (mk.map .str) :: bk :: (G ++ [.lst ((ms ++ [(w, fs)]).map encM)]) ∧ Pool o' ∧ MOk ks (w, fs) := by
  refine turnE (xgN _ _ _ _) ?_
  simp only [List.set_cons_zero, List.set_cons_succ]
  refine asgN (J := fun d S' => ∃ (z : Nat) (o' : Ob), d = .p (.int z) ∧ z ≤ 4 ∧ Pool o' ∧ S' = o' :: .lst ((w :: mk).map .str) :: bk :: (G ++ [.lst (ms.map encM)])) ?_ ?_
  · obtain ⟨d, S', e, x, o', hx, rfl, rfl, ho'⟩ := pick0 (xs := tabC) (ρ := [some (.ref 0), some (.p (.int ks.length)), some (.p (.ro (ks.map .str))), some (.ref 1), some (.ref 2), v5, v6, v7, some (.ref (G.length + 3)), some (.p (.int j)), v10, v11, v12, v13]) (tbl := (cRo (cLst (cCons (cP (.int 0)) (cCons (cP (.int 0)) (cCons (cP (.int 1)) (cCons (cP (.int 1)) (cCons (cP (.int 2)) (cCons (cP (.int 2)) (cCons (cP (.int 3)) (cCons (cP (.int 4)) cNil))))))))))) rfl (hn.d0 (base := 8) (ca := cVar 0) (cb := cP (.int 8)) (S := .lst ((w :: mk).map .str) :: bk :: (G ++ [.lst (ms.map encM)])) rfl rfl ho (by omega) (by omega))
    obtain ⟨t, rfl, ht⟩ := tabC_in hx
    have hmin : ∀ a b : Nat, min (a : Int) (b : Int) = ((min a b : Nat) : Int) := fun a b => by omega
    have hlit : (if 3 < ks.length then (2 : Int) else 4) = ((if 3 < ks.length then 2 else 4 : Nat) : Int) := by split <;> rfl
    simp only [x1, xCons, xNil, x2, xRo, xLst, xP, allP, List.length_cons, List.length_nil, sizeLine_val, Nat.reduceAdd, Nat.reduceLeDiff, if_true, xVar0, xVarS, bind_okE, vGt, vIntB, wide_of]
    simp only [x2, xRo, xLst, xCons, xNil, xP, allP, List.length_cons, List.length_nil, sizeLine_val, Nat.reduceAdd, Nat.reduceLeDiff, if_true, xVar0, bind_okE] at e
    simp only [e, bind_okE, vMin, hlit, hmin]
    exact .ok ⟨_, o', rfl, by omega, ho', rfl⟩
  rintro d S1 ⟨z, o1, rfl, hz, ho1, rfl⟩
  simp only [List.set_cons_zero, List.set_cons_succ]
  refine asgN (J := fun d S' => ∃ (fs : List Str) (o' : Ob), d = .p (.ro (fs.map .str)) ∧ S' = o' :: .lst ((w :: mk).map .str) :: bk :: (G ++ [.lst (ms.map encM)]) ∧ Pool o' ∧ MOk ks (w, fs)) ?_ ?_
  · obtain ⟨ys, S', e, fs, o', rfl, rfl, ho', hl, hf⟩ := fields_comp run hn ks ks.length z rfl hk hz (.lst ((w :: mk).map .str) :: bk :: (G ++ [.lst (ms.map encM)])) [some (.ref 2), v5, v6, v7, some (.ref (G.length + 3)), some (.p (.int j)), some (.p (.int z)), v11, v12, v13] rfl rfl ho1
    rw [xRo, e, bind_okE]
    exact .ok ⟨fs, o', rfl, rfl, ho', (by show fs.length ≤ 4; omega), hf⟩
  rintro d S1 ⟨fs, o2, rfl, rfl, ho2, hok⟩
  simp only [List.set_cons_zero, List.set_cons_succ]
  have ty1 : ∀ xs, isTy "list" (.ref (G.length + 3)) (o2 :: .lst xs :: bk :: (G ++ [.lst (ms.map encM)])) = true := fun xs => by
    unfold isTy; simp only [at_new]; decide
  have ty2 : isTy "list" (.ref 1) (o2 :: .lst ((w :: mk).map .str) :: bk :: (G ++ [.lst (ms.map encM)])) = true := by simp [isTy]
  have pop : gPopAt (.ref 1) [.p (.int 0)] (o2 :: .lst ((w :: mk).map .str) :: bk :: (G ++ [.lst (ms.map encM)])) = .ok (.p (.str w)) (o2 :: .lst (mk.map .str) :: bk :: (G ++ [.lst (ms.map encM)])) := vPopAt0 (n := 1) (x := .str w) (xs := mk.map .str) rfl
  have app : gAppend (.ref (G.length + 3)) [.p (encM (w, fs))] (o2 :: .lst (mk.map .str) :: bk :: (G ++ [.lst (ms.map encM)])) = .ok (.p .non) (o2 :: .lst (mk.map .str) :: bk :: (G ++ [.lst ((ms ++ [(w, fs)]).map encM)])) := by
    rw [vAppend at_new (by rw [List.length_map, sizeLine_val]; omega), set_new, List.map_append]; rfl
  simp only [xDrop, xM, xVar0, xVarS, bind_okE, ty1, ty2, if_true, xCons, xNil, xTup, xP, pop, x1, vTupRo, allP, List.length_cons, List.length_nil, sizeLine_val, Nat.reduceAdd, Nat.reduceLeDiff]
  have e3 : (P.tup [.str w, .tup (fs.map .str)]) = encM (w, fs) := rfl
  rw [e3, app]
  exact .ok ⟨fs, o2, _, _, rfl, rfl, ho2, hok⟩

theorem nms_app (a b : List Kd) : nmsOf (a ++ b) = nmsOf a ++ nmsOf b := List.flatMap_append
theorem nms_one (k : Kd) : nmsOf [k] = k.2.map (·.1) := by simp [nmsOf]
/-- one kind more -/
theorem kind_turn (run : Run) {i : Nat} (hn : NextOk run i) (ks : List Str) (hk : ks.length ≤ 6) (at_ : Nat) (hat : at_ < ks.length) (kd : Str) (all mk : List Str) (bk : List Kd) (hall : nmsOf bk ++ mk = all) (hmk : ks.length - at_ ≤ mk.length) (hbk : bk.length ≤ 6) (G : Sto) {o : Ob} (ho : Pool o) (v5 v6 v7 v8 v9 v10 v11 v12 v13 : Option D) :
    Nd (turnF (gTp 2 (gsCons (gN 5) (gsCons (gN 6) gsNil)))
    (sSeq (sAsg (c1 gMin (cCons (c2 gIx (cRo (cLst (cCons (cP (.int 1)) (cCons (cP (.int 2)) (cCons (cP (.int 2)) (cCons (cP (.int 3)) (cCons (cP (.int 3)) (cCons (cP (.int 2)) (cCons (cP (.int 4)) (cCons (cP (.int 6)) cNil)))))))))) (cCallV true run i (cCons (cVar 0) (cCons (cP (.int 8)) cNil)))) (cCons (c2 gSub (c1 gLen (cCons (cVar 3) cNil)) (c2 gSub (c2 gSub (cVar 1) (cP (.int 1))) (cVar 5))) cNil))) (gN 7))
  (sSeq (sAsg (cTr (cLst cNil)) (gN 8))
  (sSeq (sFor (cRng1 (cVar 7)) (gN 9)
    (sSeq (sAsg (c1 gMin (cCons (c2 gIx (cRo (cLst (cCons (cP (.int 4)) (cCons (cP (.int 2)) cNil)))) (c1 gIntOf (cCons (c2 gGt (cVar 1) (cP (.int 3))) cNil))) (cCons (c2 gIx (cRo (cLst (cCons (cP (.int 0)) (cCons (cP (.int 0)) (cCons (cP (.int 1)) (cCons (cP (.int 1)) (cCons (cP (.int 2)) (cCons (cP (.int 2)) (cCons (cP (.int 3)) (cCons (cP (.int 4)) cNil)))))))))) (cCallV true run i (cCons (cVar 0) (cCons (cP (.int 8)) cNil)))) cNil))) (gN 10))
  (sSeq (sAsg (cRo (cComp (cRng1 (cVar 10)) (gN 13) cYes (c2 gIx (c2 gAdd (cVar 2) (cRo (cLst (cCons (cP (.str "num")) (cCons (cP (.str "num")) cNil))))) (cCallV true run i (cCons (cVar 0) (cCons (c2 gAdd (cVar 1) (cP (.int 2))) cNil)))) [13])) (gN 11))
  (sDrop (cM "list" gAppend (cVar 8) (cCons (cTup (cCons (cM "list" gPopAt (cVar 3) (cCons (cP (.int 0)) cNil)) (cCons (c1 gTuple (cCons (cVar 11) cNil)) cNil))) cNil))))))
  (sDrop (cM "list" gAppend (cVar 4) (cCons (cTup (cCons (cVar 6) (cCons (c1 gTuple (cCons (cVar 8) cNil)) cNil))) cNil)))))) (.tup [.int at_, .str kd])
      [some (.ref 0), some (.p (.int ks.length)), some (.p (.ro (ks.map .str))), some (.ref 1), some (.ref 2), v5, v6, v7, v8, v9, v10, v11, v12, v13] (o :: .lst (mk.map .str) :: .lst (bk.map encK) :: G))
    fun f S' => ∃ (o' : Ob) (mk' : List Str) (ms : List Mk) (g : Ob) (w5 w6 w7 w8 w9 w10 w11 : Option D), f = .nx [some (.ref 0), some (.p (.int ks.length)), some (.p (.ro (ks.map .str))), some (.ref 1), some (.ref 2), w5, w6, w7, w8, w9, w10, w11, v12, v13] ∧
      S' = o' :: .lst (mk'.map .str) :: .lst ((bk ++ [(kd, ms)]).map encK) :: (G ++ [g]) ∧ Pool o' ∧ KOk ks (kd, ms) ∧ nmsOf (bk ++ [(kd, ms)]) ++ mk' = all ∧ ks.length - (at_ + 1) ≤ mk'.length := by
  refine turnE (ρ1 := [some (.ref 0), some (.p (.int ks.length)), some (.p (.ro (ks.map .str))), some (.ref 1), some (.ref 2), some (.p (.int at_)), some (.p (.str kd)), v7, v8, v9, v10, v11, v12, v13]) rfl ?_
  refine asgN (J := fun d S' => ∃ (z : Nat) (o' : Ob), d = .p (.int z) ∧ 1 ≤ z ∧ z ≤ 6 ∧ ks.length - (at_ + 1) ≤ mk.length - z ∧ z ≤ mk.length ∧ Pool o' ∧ S' = o' :: .lst (mk.map .str) :: .lst (bk.map encK) :: G) ?_ ?_
  · obtain ⟨d, S', e, x, o', hx, rfl, rfl, ho'⟩ := pick0 (xs := tabB) (ρ := [some (.ref 0), some (.p (.int ks.length)), some (.p (.ro (ks.map .str))), some (.ref 1), some (.ref 2), some (.p (.int at_)), some (.p (.str kd)), v7, v8, v9, v10, v11, v12, v13]) (tbl := (cRo (cLst (cCons (cP (.int 1)) (cCons (cP (.int 2)) (cCons (cP (.int 2)) (cCons (cP (.int 3)) (cCons (cP (.int 3)) (cCons (cP (.int 2)) (cCons (cP (.int 4)) (cCons (cP (.int 6)) cNil))))))))))) rfl (hn.d0 (base := 8) (ca := cVar 0) (cb := cP (.int 8)) (S := .lst (mk.map .str) :: .lst (bk.map encK) :: G) rfl rfl ho (by omega) (by omega))
    obtain ⟨t, rfl, h1, h6⟩ := tabB_in hx
    have hlen : gLen [.ref 1] (o' :: .lst (mk.map .str) :: .lst (bk.map encK) :: G) = .ok (.p (.int (mk.length : Nat))) (o' :: .lst (mk.map .str) :: .lst (bk.map encK) :: G) := by
      rw [vLenRef (n := 1) (xs := mk.map .str) rfl, List.length_map]
    have hm := minD (i := (t : Int)) (j := (mk.length : Int) - ((ks.length : Int) - 1 - (at_ : Int))) e (cb := c2 gSub (c1 gLen (cCons (cVar 3) cNil)) (c2 gSub (c2 gSub (cVar 1) (cP (.int 1))) (cVar 5))) (by simp only [x2, x1, xCons, xNil, xVar0, xVarS, xP, bind_okE, hlen, vSub])
    rw [hm]
    refine .ok ⟨(min (t : Int) ((mk.length : Int) - ((ks.length : Int) - 1 - (at_ : Int)))).toNat, o', ?_, by omega, by omega, by omega, by omega, ho', rfl⟩
    have : (0 : Int) ≤ min (t : Int) ((mk.length : Int) - ((ks.length : Int) - 1 - (at_ : Int))) := by omega
    rw [Int.toNat_of_nonneg this]
  rintro d S1 ⟨z, o1, rfl, hz1, hz6, hz2, hz3, ho1, rfl⟩
  simp only [List.set_cons_zero, List.set_cons_succ]
  refine asgE (d := .ref (G.length + 3)) (S' := o1 :: .lst (mk.map .str) :: .lst (bk.map encK) :: (G ++ [.lst []])) rfl ?_
  simp only [List.set_cons_zero, List.set_cons_succ]
  refine rngS (n := z) (cRng1_nat rfl (by omega)) (fun j ρ S => ∃ (o' : Ob) (mk' : List Str) (ms : List Mk) (w9 w10 w11 : Option D), ρ = [some (.ref 0), some (.p (.int ks.length)), some (.p (.ro (ks.map .str))), some (.ref 1), some (.ref 2), some (.p (.int at_)), some (.p (.str kd)), some (.p (.int z)), some (.ref (G.length + 3)), w9, w10, w11, v12, v13] ∧
      S = o' :: .lst (mk'.map .str) :: .lst (bk.map encK) :: (G ++ [.lst (ms.map encM)]) ∧ Pool o' ∧ ms.length = j ∧ ms.map (·.1) ++ mk' = mk ∧ ∀ m ∈ ms, MOk ks m) ⟨o1, mk, [], _, _, _, rfl, rfl, ho1, rfl, rfl, by simp⟩ ?_ ?_
  · rintro j ρ S hj ⟨o', mk', ms, w9, w10, w11, rfl, rfl, ho', hl, hms, hok⟩
    have hlm : mk'.length + j = mk.length := by rw [← hms, List.length_append, List.length_map, hl]; omega
    cases mk' with
    | nil => simp at hlm; omega
    | cons w mk' =>
      refine Nd.go ((make_turn run hn ks hk j w mk' (.lst (bk.map encK)) G ms (by omega) ho' (some (.p (.int at_))) (some (.p (.str kd))) (some (.p (.int z))) w9 w10 w11 v12 v13).mono ?_)
      rintro f S' ⟨fs, o2, w10, w11, rfl, rfl, ho2, hm⟩
      refine ⟨_, rfl, o2, mk', ms ++ [(w, fs)], _, _, _, rfl, rfl, ho2, by rw [List.length_append, hl]; rfl, ?_, fun m hm' => (List.mem_append.mp hm').elim (hok m) fun q => by rw [List.mem_singleton] at q; rw [q]; exact hm⟩
      rw [← hms, List.map_append, List.append_assoc]; rfl
  · rintro ρ S ⟨o', mk', ms, w9, w10, w11, rfl, rfl, ho', hl, hms, hok⟩
    have ty : isTy "list" (.ref 2) (o' :: .lst (mk'.map .str) :: .lst (bk.map encK) :: (G ++ [.lst (ms.map encM)])) = true := by simp [isTy]
    have htu : gTuple [.ref (G.length + 3)] (o' :: .lst (mk'.map .str) :: .lst (bk.map encK) :: (G ++ [.lst (ms.map encM)])) = .ok (.p (.tup (ms.map encM))) (o' :: .lst (mk'.map .str) :: .lst (bk.map encK) :: (G ++ [.lst (ms.map encM)])) := vTupRef at_new
    have app : gAppend (.ref 2) [.p (encK (kd, ms))] (o' :: .lst (mk'.map .str) :: .lst (bk.map encK) :: (G ++ [.lst (ms.map encM)])) = .ok (.p .non) (o' :: .lst (mk'.map .str) :: .lst ((bk ++ [(kd, ms)]).map encK) :: (G ++ [.lst (ms.map encM)])) := by
      rw [vAppend (n := 2) (xs := bk.map encK) rfl (by rw [List.length_map, sizeLine_val]; omega), List.map_append]; rfl
    simp only [xDrop, xM, xVar0, xVarS, bind_okE, ty, if_true, xCons, xNil, xTup, x1, htu, allP, List.length_cons, List.length_nil, sizeLine_val, Nat.reduceAdd, Nat.reduceLeDiff]
    have e3 : (P.tup [.str kd, .tup (ms.map encM)]) = encK (kd, ms) := rfl
    rw [e3, app]
    have hlm : mk'.length + z = mk.length := by rw [← hms, List.length_append, List.length_map, hl]; omega
    refine .ok ⟨o', mk', ms, _, _, _, _, _, _, _, _, rfl, rfl, ho', ⟨by show 1 ≤ ms.length; omega, by show ms.length ≤ 6; omega, hok⟩, ?_, by omega⟩
    rw [nms_app, nms_one, List.append_assoc]
    show nmsOf bk ++ (ms.map (·.1) ++ mk') = all
    rw [hms, hall]
theorem body_book (run : Run) {i j : Nat} (hn : NextOk run i) (hw : NamesOk run j) {o : Ob} (ho : Pool o) :
    Nd (b_law_book i j run [some (.ref 0), none, none, none, none, none, none, none, none, none, none, none, none, none] [o]) fun f S' => ∃ x o', toldN 1 f S' = some x ∧ S'[0]? = some o' ∧ Pool o' ∧ ∃ b, x = encB b ∧ BookOk b := by
  refine asgN (pick0 (xs := tabA) rfl (hn.d0 (base := 8) rfl rfl ho (by omega) (by omega))) ?_
  rintro d S' ⟨x, o1, hx, rfl, rfl, ho1⟩
  obtain ⟨many, rfl, hm1, hm6⟩ := tabA_in hx
  simp only [List.set_cons_zero, List.set_cons_succ]
  obtain ⟨ws, o2, pre, suf, f, t, e2, ho2, hws⟩ := hw many o1 (by omega) ho1
  have c2' := callV1l (i := j) (n := 0) (m := 0) (xs := [.int many]) (S := [o1]) (ys := ws.map .str) rfl e2 rfl ho2.live
  have hwl := hws.length
  refine asgN (J := fun d S' => d = .p (.ro ((ws.map kindOf).map .str)) ∧ S' = [o2]) ?_ ?_
  · have ec : cIt (cCallV true run j (cCons (cVar 0) (cCons (cVar 1) cNil))) [some (.ref 0), some (.p (.int many)), none, none, none, none, none, none, none, none, none, none, none, none] [o1] = .ok (ws.map .str, none) [o2] := by
      simp only [xIt, xCallV, xCons, xNil, xVar0, xVarS, bind_okE]
      rw [show callV true run j [.ref 0, .p (.int many)] [o1] = _ from c2']
      rfl
    simp only [xRo, xComp, ec, bind_okE]
    exact bindN (kinds_comp ws _ _ (by simp) (by omega)) fun ys S' ⟨h1, h2⟩ => by subst h1 h2; exact .ok ⟨rfl, rfl⟩
  rintro d S' ⟨rfl, rfl⟩
  simp only [List.set_cons_zero, List.set_cons_succ]
  obtain ⟨all, o3, pre3, suf3, f3, t3, e3, ho3, hall⟩ := hw 26 o2 (by omega) ho2
  have c3 := callV1t (i := j) (n := 0) (m := 0) (xs := [.int (26 : Nat)]) (S := [o2]) (ys := all.map .str) rfl e3 rfl ho3.live
  refine asgE (d := .ref 1) (S' := [o3, .lst (all.map .str)]) (by
    simp only [xCallV, xCons, xNil, xVar0, xP, bind_okE]
    exact c3) ?_
  simp only [List.set_cons_zero, List.set_cons_succ]
  refine asgE (d := .ref 2) (S' := [o3, .lst (all.map .str), .lst []]) rfl ?_
  simp only [List.set_cons_zero, List.set_cons_succ]
  have hkl : (ws.map kindOf).length = many := by rw [List.length_map]; exact hwl
  have hks := hws.kinds (by omega)
  have hsk := word_ok hws
  have hall26 := hall.length
  generalize ws.map kindOf = ks at hkl hks hsk ⊢
  subst hkl
  refine forS (enc := fun z : Str × Nat => P.tup [.int (z.2 : Nat), .str z.1]) (l := ks.zipIdx) (by simp only [xEnum, xVar0, xVarS, bind_okE, xSeqR, enum_strs]; rfl) (fun pr ρ S => ∃ (o' : Ob) (mk' : List Str) (bk : List Kd) (G : Sto) (w5 w6 w7 w8 w9 w10 w11 w12 w13 : Option D),
      ρ = [some (.ref 0), some (.p (.int ks.length)), some (.p (.ro (ks.map .str))), some (.ref 1), some (.ref 2), w5, w6, w7, w8, w9, w10, w11, w12, w13] ∧ S = o' :: .lst (mk'.map .str) :: .lst (bk.map encK) :: G ∧ Pool o' ∧ bk.map (·.1) = pr.map (·.1) ∧ (∀ k ∈ bk, KOk ks k) ∧ nmsOf bk ++ mk' = all ∧ ks.length - pr.length ≤ mk'.length)
    ⟨o3, all, [], [], _, _, _, _, _, _, _, _, _, rfl, rfl, ho3, rfl, by simp, rfl, by rw [hall26]; omega⟩ ?_ ?_
  · rintro pr ⟨kd, n⟩ post ρ S hz ⟨o', mk', bk, G, w5, w6, w7, w8, w9, w10, w11, w12, w13, rfl, rfl, ho', hb1, hb2, hb3, hb4⟩
    obtain ⟨rfl, hlt, hat, hpr⟩ := zip_pre hz
    have hbl : bk.length = pr.length := by have := congrArg List.length hb1; simpa using this
    refine Nd.go ((kind_turn run hn ks hm6 pr.length hlt kd all mk' bk hb3 hb4 (by omega) G ho' w5 w6 w7 w8 w9 w10 w11 w12 w13).mono ?_)
    rintro f S' ⟨o2', mk2, ms, g, x5, x6, x7, x8, x9, x10, x11, rfl, rfl, ho2', hk1, hk2, hk3⟩
    refine ⟨_, rfl, o2', mk2, bk ++ [(kd, ms)], G ++ [g], _, _, _, _, _, _, _, _, _, rfl, rfl, ho2', ?_, ?_, hk2, ?_⟩
    · rw [List.map_append, List.map_append, hb1]; rfl
    · intro k hk
      rcases List.mem_append.mp hk with q | q
      · exact hb2 k q
      · rw [List.mem_singleton] at q; rw [q]; exact hk1
    · rw [List.length_append]; exact hk3
  · rintro ρ S ⟨o', mk', bk, G, w5, w6, w7, w8, w9, w10, w11, w12, w13, rfl, rfl, ho', hb1, hb2, hb3, hb4⟩
    have hmap : bk.map (·.1) = ks := by rw [hb1, List.zipIdx_map_fst]
    refine retE (d := .p (encB bk)) (S' := o' :: .lst (mk'.map .str) :: .lst (bk.map encK) :: G) (by
      simp only [x1, xCons, xNil, xVar0, xVarS, bind_okE]
      exact vTupRef (n := 2) rfl) ⟨encB bk, o', rfl, rfl, ho', bk, rfl, ?_⟩
    have hbl : bk.length = ks.length := by rw [← hmap, List.length_map]
    refine ⟨by omega, by omega, by rw [hmap]; exact hks.1, by rw [hmap]; exact hks.2, fun k hk => hsk _ (by rw [← hmap]; exact List.mem_map_of_mem hk), by rw [hmap]; exact hb2, ?_, ?_⟩
    · have := hall.nd (by omega)
      rw [← hb3] at this
      exact (List.nodup_append.mp this).1
    · refine ⟨pre3.length + suf3.length, hall.len, fun w hw => hall.lens w ?_⟩
      rw [← hb3]; exact List.mem_append_left _ hw
theorem book_ok {T : List Fd} {k i jn jw : Nat} (h : T[i]? = some (f_law_book jn jw)) (hn : NextOk (runT T k) jn) (hw : NamesOk (runT T k) jw) : BookRun (runT T (k + 1)) i := fun S n o hS ho => by
  obtain ⟨x, o', e, ho', b, rfl, hb⟩ := takes_of (ok := Pool) (mk := fun d => [d]) (Q := fun x => ∃ b, x = encB b ∧ BookOk b) ⟨fun n => rfl, fun n => by simp [numOf]⟩ (fun _ h => h.live) h rfl (fun o ho => body_book (runT T k) hn hw ho) S n o hS ho
  exact ⟨b, o', e, ho', hb⟩
end Gs
set_option Elab.async false
set_option linter.all false
set_option maxRecDepth 100000
set_option maxHeartbeats 4000000
namespace Gs
open Cw L2
open PySem hiding Run

/-! ### what is alive -/
inductive Alive (b : List Kd) : Str → Prop
  | base : Alive b num
  | made {k : Kd} {m : Mk} : k ∈ b → m ∈ k.2 → (∀ f ∈ m.2, Alive b f) → Alive b k.1
def gd (ks : List Str) (m : Mk) : Bool := m.2.all fun z => decide (z ∈ ks)
theorem gd_iff {ks : List Str} {m : Mk} : gd ks m = true ↔ ∀ f ∈ m.2, f ∈ ks := by simp [gd]
def Closed (b : List Kd) (ks : List Str) : Prop := num ∈ ks ∧ ∀ k ∈ b, ∀ m ∈ k.2, gd ks m = true → k.1 ∈ ks
theorem closed_alive {b : List Kd} {ks : List Str} (h : Closed b ks) {z : Str} (a : Alive b z) : z ∈ ks := by
  induction a with
  | base => exact h.1
  | made hk hm _ ih => exact h.2 _ hk _ hm (gd_iff.mpr ih)
open Classical in
noncomputable def al (b : List Kd) (z : Str) : Bool := decide (Alive b z)
theorem al_mem {b : List Kd} {ks : List Str} (h : ∀ z, z ∈ ks ↔ Alive b z) (z : Str) : decide (z ∈ ks) = al b z := by
  unfold al
  by_cases q : z ∈ ks
  · have := (h z).mp q; simp [q, this]
  · have : ¬ Alive b z := fun a => q ((h z).mpr a)
    simp [q, this]
def fk (b : List Kd) (ks : List Str) : List Str := (b.filter fun k => !decide (k.1 ∈ ks) && k.2.any (gd ks)).map (·.1)
theorem fk_mem {b : List Kd} {ks : List Str} {z : Str} : z ∈ fk b ks ↔ ∃ k ∈ b, k.1 = z ∧ z ∉ ks ∧ k.2.any (gd ks) = true := by
  unfold fk
  simp only [List.mem_map, List.mem_filter, Bool.and_eq_true, Bool.not_eq_true', decide_eq_false_iff_not]
  constructor
  · rintro ⟨k, ⟨hk, h1, h2⟩, rfl⟩; exact ⟨k, hk, rfl, h1, h2⟩
  · rintro ⟨k, hk, rfl, h1, h2⟩; exact ⟨k, ⟨hk, h1, h2⟩, rfl⟩
theorem fk_nd {b : List Kd} {ks : List Str} (h : (b.map (·.1)).Nodup) : (fk b ks).Nodup := (List.filter_sublist.map _).nodup h
theorem names_mem {b : List Kd} {k : Kd} (h : k ∈ b) : k.1 ∈ b.map (·.1) := List.mem_map_of_mem h
theorem fk_alive {b : List Kd} {ks : List Str} (h : ∀ z ∈ ks, Alive b z) : ∀ z ∈ fk b ks, Alive b z := fun z hz => by
  obtain ⟨k, hk, rfl, _, h2⟩ := fk_mem.mp hz
  obtain ⟨m, hm, g⟩ := List.any_eq_true.mp h2
  exact .made hk hm fun f hf => h f (gd_iff.mp g f hf)
theorem fk_closed {b : List Kd} {ks : List Str} (h0 : num ∈ ks) (h : fk b ks = []) : Closed b ks := by
  refine ⟨h0, fun k hk m hm g => Classical.byContradiction fun q => ?_⟩
  have : k.1 ∈ fk b ks := fk_mem.mpr ⟨k, hk, rfl, q, List.any_eq_true.mpr ⟨m, hm, g⟩⟩
  rw [h] at this
  cases this
def mkOf (b : List Kd) (z : Str) : List Mk := match b.find? fun k => decide (k.1 = z) with
  | some k => k.2
  | none => []
theorem mkOf_snoc {pre : List Kd} {k : Kd} {z : Str} (h : ∀ y ∈ pre, y.1 ≠ k.1) : mkOf (pre ++ [k]) z = if k.1 = z then k.2 else mkOf pre z := by
  unfold mkOf
  rw [List.find?_append]
  by_cases e : k.1 = z
  · rw [List.find?_eq_none.mpr fun y hy => by have := h y hy; rw [e] at this; simp [this]]
    simp [e]
  · simp only [e, if_false]
    cases h2 : pre.find? fun k => decide (k.1 = z) with
    | some _ => rfl
    | none => simp [e]
def valOf (kvs : List (Key × P)) (m : Mk) : P := .tup (.str m.1 :: m.2.map fun f => (lookK kvs (.inr f)).getD .non)
def madeOf (kvs : List (Key × P)) (ks : List Str) (ms : List Mk) : P := match ms.find? (gd ks) with
  | some m => valOf kvs m
  | none => .non
theorem made_isN {kvs : List (Key × P)} {ks : List Str} {ms : List Mk} : isN (.p (madeOf kvs ks ms)) = !(ms.any (gd ks)) := by
  unfold madeOf
  cases h : ms.find? (gd ks) with
  | some m =>
    have : ms.any (gd ks) = true := List.any_eq_true.mpr ⟨m, List.mem_of_find?_eq_some h, List.find?_some h⟩
    rw [this]; rfl
  | none =>
    have : ms.any (gd ks) = false := List.any_eq_false.mpr fun m hm => by have := List.find?_eq_none.mp h m hm; simpa using this
    rw [this]; rfl
theorem look_put {kvs : List (Key × P)} {ks : List Str} (h : KeyIs kvs ks) {z f : Str} (hz : z ∉ ks) (v : P) : lookK (putP kvs (.inr z) v) (.inr f) = if f = z then some v else lookK kvs (.inr f) := by
  have hn : ¬ kvs.any (fun kv => decide (kv.1 = (.inr z : Key))) = true := by
    intro q
    obtain ⟨kv, hkv, e⟩ := List.any_eq_true.mp q
    have e := of_decide_eq_true e
    have : kv.1 ∈ kvs.map (·.1) := List.mem_map_of_mem hkv
    rw [h, e] at this
    obtain ⟨w, hw, e2⟩ := List.mem_map.mp this
    cases e2
    exact hz hw
  unfold putP
  rw [if_neg hn]
  unfold lookK
  rw [List.find?_append]
  by_cases e : f = z
  · subst e
    have : kvs.find? (fun kv => decide (kv.1 = (.inr f : Key))) = none := List.find?_eq_none.mpr fun kv hkv q => hn (List.any_eq_true.mpr ⟨kv, hkv, q⟩)
    rw [this, if_pos rfl]
    simp
  · rw [if_neg e]
    cases hq : kvs.find? (fun kv => decide (kv.1 = (.inr f : Key))) with
    | some w => rfl
    | none =>
      have e2 : z ≠ f := fun q => e q.symm
      simp [e2]
theorem look_mem {kvs : List (Key × P)} {ks : List Str} (h : KeyIs kvs ks) {z : Str} (hz : z ∈ ks) : ∃ v, lookK kvs (.inr z) = some v := by
  have := lookK_is (z := z) h
  rw [decide_eq_true hz] at this
  exact Option.isSome_iff_exists.mp this
theorem look_in {kvs : List (Key × P)} {ks : List Str} (h : KeyIs kvs ks) {z : Str} {v : P} (hv : lookK kvs (.inr z) = some v) : z ∈ ks := by
  have := lookK_is (z := z) h
  rw [hv] at this
  exact of_decide_eq_true this.symm
/-- plain values, as far as they are known -/
structure PD (b : List Kd) (kvs : List (Key × P)) (ks : List Str) (n : Nat) : Prop where
  keys : KeyIs kvs ks
  nd : ks.Nodup
  nu : num ∈ ks
  sub : ∀ z ∈ ks, Alive b z ∧ z ∈ num :: b.map (·.1)
  zero : lookK kvs (.inr num) = some (.int 0)
  val : ∀ k ∈ b, k.1 ∈ ks → ∃ m ∈ k.2, gd ks m = true ∧ lookK kvs (.inr k.1) = some (valOf kvs m)
  dep : ∀ z v, lookK kvs (.inr z) = some v → v.dep ≤ n
theorem valOf_same {kvs kvs2 : List (Key × P)} {m : Mk} (h : ∀ f ∈ m.2, lookK kvs2 (.inr f) = lookK kvs (.inr f)) : valOf kvs2 m = valOf kvs m := by
  unfold valOf
  congr 2
  exact List.map_congr_left fun f hf => by rw [h f hf]
theorem valOf_dep {kvs : List (Key × P)} {ks : List Str} {m : Mk} {n : Nat} (hk : KeyIs kvs ks) (hg : gd ks m = true) (hd : ∀ z v, lookK kvs (.inr z) = some v → v.dep ≤ n) : (valOf kvs m).dep ≤ n + 1 := by
  have : P.deps (P.str m.1 :: m.2.map fun f => (lookK kvs (.inr f)).getD .non) ≤ n := deps_le fun x hx => by
    rcases List.mem_cons.mp hx with rfl | hx
    · simp [P.dep]
    · obtain ⟨f, hf, rfl⟩ := List.mem_map.mp hx
      obtain ⟨v, hv⟩ := look_mem hk (gd_iff.mp hg f hf)
      rw [hv]
      exact hd f v hv
  unfold valOf
  simp only [P.dep]
  omega
theorem kind_one {b : List Kd} (hb : BookOk b) {k k2 : Kd} (h : k ∈ b) (h2 : k2 ∈ b) (e : k.1 = k2.1) : k = k2 := by
  have nd := hb.nd
  obtain ⟨i, hi, rfl⟩ := List.mem_iff_getElem.mp h
  obtain ⟨j, hj, rfl⟩ := List.mem_iff_getElem.mp h2
  have hm : (b.map (·.1))[i]'(by rw [List.length_map]; exact hi) = (b.map (·.1))[j]'(by rw [List.length_map]; exact hj) := by rw [List.getElem_map, List.getElem_map]; exact e
  have := (List.getElem_inj nd).mp hm
  subst this
  rfl
/-- a round, and what it adds -/
theorem PD.round {b : List Kd} (hb : BookOk b) {ah kvs : List (Key × P)} {ks : List Str} {n : Nat} (p : PD b ah ks n) (hk : KeyIs kvs (ks ++ fk b ks)) (h0 : ∀ f ∈ ks, lookK kvs (.inr f) = lookK ah (.inr f))
    (h1 : ∀ k ∈ b, k.1 ∈ fk b ks → lookK kvs (.inr k.1) = some (madeOf ah ks k.2)) : PD b kvs (ks ++ fk b ks) (n + 1) := by
  have hdis : ∀ z ∈ fk b ks, z ∉ ks := fun z hz => by obtain ⟨k, _, rfl, h, _⟩ := fk_mem.mp hz; exact h
  have gdm : ∀ m, gd ks m = true → gd (ks ++ fk b ks) m = true := fun m h => gd_iff.mpr fun f hf => List.mem_append_left _ (gd_iff.mp h f hf)
  have vs : ∀ m, gd ks m = true → valOf kvs m = valOf ah m := fun m h => valOf_same fun f hf => h0 f (gd_iff.mp h f hf)
  have made : ∀ k ∈ b, k.1 ∈ fk b ks → ∃ m ∈ k.2, gd ks m = true ∧ madeOf ah ks k.2 = valOf ah m := fun k hk hf => by
    obtain ⟨k2, hk2, e, _, hany⟩ := fk_mem.mp hf
    have := kind_one hb hk2 hk e
    subst this
    unfold madeOf
    cases hq : k2.2.find? (gd ks) with
    | some m => exact ⟨m, List.mem_of_find?_eq_some hq, List.find?_some hq, rfl⟩
    | none =>
      obtain ⟨m, hm, g⟩ := List.any_eq_true.mp hany
      exact absurd g (List.find?_eq_none.mp hq m hm)
  refine ⟨hk, ?_, List.mem_append_left _ p.nu, fun z hz => ?_, by rw [h0 _ p.nu]; exact p.zero, fun k hkb hz => ?_, fun z v hv => ?_⟩
  · exact List.nodup_append.mpr ⟨p.nd, fk_nd hb.nd, fun a ha b hb e => hdis b hb (e ▸ ha)⟩
  · rcases List.mem_append.mp hz with q | q
    · exact p.sub z q
    · refine ⟨fk_alive (fun z hz => (p.sub z hz).1) z q, ?_⟩
      obtain ⟨k, hk, rfl, _⟩ := fk_mem.mp q
      exact List.mem_cons_of_mem _ (names_mem hk)
  · rcases List.mem_append.mp hz with q | q
    · obtain ⟨m, hm, g, e⟩ := p.val k hkb q
      exact ⟨m, hm, gdm m g, by rw [h0 _ q, e, vs m g]⟩
    · obtain ⟨m, hm, g, e⟩ := made k hkb q
      exact ⟨m, hm, gdm m g, by rw [h1 k hkb q, e, vs m g]⟩
  · rcases List.mem_append.mp (look_in hk hv) with q | q
    · rw [h0 z q] at hv
      exact Nat.le_succ_of_le (p.dep z v hv)
    · obtain ⟨k, hkb, rfl, _⟩ := fk_mem.mp q
      rw [h1 k hkb q] at hv
      cases hv
      obtain ⟨m, hm, g, e⟩ := made k hkb q
      rw [e]
      exact valOf_dep p.keys g p.dep

theorem mkOf_ok {b : List Kd} (hb : BookOk b) (z : Str) : (mkOf b z).length ≤ 6 ∧ ∀ m ∈ mkOf b z, m.2.length ≤ 4 := by
  unfold mkOf
  split
  · rename_i k h
    have := List.mem_of_find?_eq_some h
    exact ⟨(hb.ok k this).2.1, fun m hm => ((hb.ok k this).2.2 m hm).1⟩
  · simp
theorem mkOf_at {b : List Kd} (hb : BookOk b) {k : Kd} (hk : k ∈ b) : mkOf b k.1 = k.2 := by
  unfold mkOf
  cases h : b.find? fun y => decide (y.1 = k.1) with
  | none => exact absurd (List.find?_eq_none.mp h k hk) (by simp)
  | some y =>
    have h1 := List.mem_of_find?_eq_some h
    have h2 := List.find?_some h
    rw [kind_one hb h1 hk (of_decide_eq_true h2)]
theorem nodup_sub_len {α : Type} [DecidableEq α] : ∀ (l m : List α), l.Nodup → (∀ x ∈ l, x ∈ m) → l.length ≤ m.length
  | [], _, _, _ => Nat.zero_le _
  | x :: r, m, h, hs => by
    have hx := hs x List.mem_cons_self
    have h2 := nodup_sub_len r (m.erase x) (List.nodup_cons.mp h).2 fun y hy => by
      have hne : y ≠ x := fun e => (List.nodup_cons.mp h).1 (e ▸ hy)
      exact (List.mem_erase_of_ne hne).mpr (hs y (List.mem_cons_of_mem _ hy))
    rw [List.length_erase_of_mem hx] at h2
    have : 0 < m.length := List.length_pos_of_mem hx
    rw [List.length_cons]; omega
theorem nodup_full {α : Type} [DecidableEq α] {l m : List α} (hl : l.Nodup) (hs : ∀ x ∈ l, x ∈ m) (hm : m.length ≤ l.length) {y : α} (hy : y ∈ m) : y ∈ l := by
  refine Classical.byContradiction fun h => ?_
  have := nodup_sub_len (y :: l) m (List.nodup_cons.mpr ⟨h, hl⟩) fun x hx => by
    rcases List.mem_cons.mp hx with rfl | hx
    · exact hy
    · exact hs x hx
  rw [List.length_cons] at this
  omega
/-- put to a dict that hasn't the keys -/
theorem put_new {kvs : List (Key × P)} {ks : List Str} (h : KeyIs kvs ks) {z : Str} (hz : z ∉ ks) (v : P) : putP kvs (.inr z) v = kvs ++ [(.inr z, v)] := by
  unfold putP
  rw [if_neg]
  intro q
  obtain ⟨kv, hkv, e⟩ := List.any_eq_true.mp q
  have e := of_decide_eq_true e
  have : kv.1 ∈ kvs.map (·.1) := List.mem_map_of_mem hkv
  rw [h, e] at this
  obtain ⟨w, hw, e2⟩ := List.mem_map.mp this
  cases e2
  exact hz hw
theorem merge_new : ∀ {more kvs : List (Key × P)} {ks ms : List Str}, KeyIs kvs ks → KeyIs more ms → ms.Nodup → (∀ z ∈ ms, z ∉ ks) → mergeP kvs more = kvs ++ more
  | [], kvs, ks, ms, _, _, _, _ => (List.append_nil _).symm
  | kv :: r, kvs, ks, [], _, h, _, _ => by cases h
  | kv :: r, kvs, ks, m :: ms, hk, h, nd, hd => by
    unfold KeyIs at h
    rw [List.map_cons, List.map_cons, List.cons.injEq] at h
    have nd := List.nodup_cons.mp nd
    have e : mergeP kvs (kv :: r) = mergeP (putP kvs (.inr m) kv.2) r := by
      unfold mergeP; rw [List.foldl_cons, h.1]
    rw [e, put_new hk (hd m List.mem_cons_self)]
    have hk2 : KeyIs (kvs ++ [(.inr m, kv.2)]) (ks ++ [m]) := by unfold KeyIs at hk ⊢; rw [List.map_append, List.map_append, hk]; rfl
    rw [merge_new hk2 h.2 nd.2 (fun z hz => by rw [List.mem_append, List.mem_singleton, not_or]; exact ⟨hd z (List.mem_cons_of_mem _ hz), fun e => nd.1 (e ▸ hz)⟩), List.append_assoc]
    have : ((.inr m : Key), kv.2) = kv := by rw [← h.1]
    rw [this]; rfl
theorem look_app {a b : List (Key × P)} {z : Str} : lookK (a ++ b) (.inr z) = (lookK a (.inr z)).or (lookK b (.inr z)) := by
  unfold lookK
  rw [List.find?_append]
  cases a.find? fun kv => decide (kv.1 = (.inr z : Key)) <;> rfl
theorem look_none {kvs : List (Key × P)} {ks : List Str} (h : KeyIs kvs ks) {z : Str} (hz : z ∉ ks) : lookK kvs (.inr z) = none := by
  cases e : lookK kvs (.inr z) with
  | none => rfl
  | some v => exact absurd (look_in h e) hz
end Gs
set_option Elab.async false
set_option linter.all false
set_option maxRecDepth 100000
set_option maxHeartbeats 4000000
namespace Gs
open Cw L2
open PySem hiding Run

theorem var_at {ρ : Ev} {i : Nat} {d : D} (h : ρ[i]? = some (some d)) (S : Sto) : cVar i ρ S = .ok d S := by simp [cVar, h]
theorem it_at {ρ : Ev} {i : Nat} {xs : List P} (h : ρ[i]? = some (some (.p (.tup xs)))) (S : Sto) : cIt (cVar i) ρ S = .ok (xs, none) S := by simp [cVar, h]
/-- all([field in known for field in fields]) -/
theorem gd_E {j k f : Nat} {ρ : Ev} {S : Sto} {y : D} {kvs : List (Key × P)} {ks : List Str} {m : Mk} (hf : ρ[f]? = some (some (.p (.tup (m.2.map .str))))) (hj : j < ρ.length) (hk : k ≠ j) (hy : ρ[k]? = some (some y)) (hl : m.2.length ≤ 1000)
    (hd : dicL y S = some kvs) (hkey : KeyIs kvs ks) : c1 gAll (cCons (cRo (cComp (cIt (cVar f)) (gN j) cYes (c2 (gInB false) (cVar j) (cVar k)) [j])) cNil) ρ S = .ok (.p (.bl (gd ks m))) S :=
  all_in (fun z => decide (z ∈ ks)) (it_at hf S) hj hk hy (by omega) fun z _ => vInKeys false S hd hkey
/-- (make,) + tuple([known[field] for field in fields]) -/
theorem made_E {im f j k : Nat} {ρ : Ev} {S : Sto} {y : D} {kvs : List (Key × P)} {ks : List Str} {m : Mk} (hm : ρ[im]? = some (some (.p (.str m.1)))) (hf : ρ[f]? = some (some (.p (.tup (m.2.map .str))))) (hj : j < ρ.length) (hk : k ≠ j) (hy : ρ[k]? = some (some y)) (hl : m.2.length ≤ 1000)
    (hd : dicL y S = some kvs) (hkey : KeyIs kvs ks) (hg : gd ks m = true) :
    c2 gAdd (cTup (cCons (cVar im) cNil)) (c1 gTuple (cCons (cRo (cComp (cIt (cVar f)) (gN j) cYes (c2 gIx (cVar k) (cVar j)) [j])) cNil)) ρ S = .ok (.p (valOf kvs m)) S := by
  have hc : compL (gN j) cYes (c2 gIx (cVar k) (cVar j)) none (m.2.map P.str) (m.2.map P.str) [] (wipeE ρ [j]) S = .ok ((m.2.map P.str).map fun x => match x with | .str z => (lookK kvs (.inr z)).getD .non | x => x) S := by
    rw [compL_map (fun x => match x with | .str z => (lookK kvs (.inr z)).getD .non | x => x) _ [] (by rw [List.length_map, List.length_nil]; omega)]
    · rfl
    · intro x hx
      obtain ⟨z, hz, rfl⟩ := List.mem_map.mp hx
      obtain ⟨v, hv⟩ := look_mem hkey (gd_iff.mp hg z hz)
      have e1 : cVar j ((wipeE ρ [j]).set j (some (.p (.str z)))) S = .ok (.p (.str z)) S := by simp [cVar, wipeE, List.getElem?_set, hj]
      have e2 : cVar k ((wipeE ρ [j]).set j (some (.p (.str z)))) S = .ok y S := by simp [cVar, wipeE, List.getElem?_set_ne (Ne.symm hk), hy]
      rw [xgN, bind_okE, x2, e2, bind_okE, e1, bind_okE, vIxDic S hd hv]
      simp only [hv, Option.getD_some]
  rw [List.map_map] at hc
  simp only [x2, xTup, xCons, xNil, var_at hm, bind_okE, allP, List.length_cons, List.length_nil, sizeLine_val, Nat.reduceAdd, Nat.reduceLeDiff, if_true, x1, xRo, xComp, it_at hf, hc, vTupRo]
  show (if [P.str m.1].length + _ ≤ sizeLine then R.ok (Cw.D.p (P.tup ([P.str m.1] ++ _))) S else R.no : R Cw.D) = _
  rw [if_pos (by rw [sizeLine_val, List.length_map, List.length_singleton]; omega)]
  rfl
theorem at_new1 {a : Ob} {G : Sto} {o : Ob} : (a :: (G ++ [o]))[G.length + 1]? = some o := by
  show (a :: (G ++ [o]))[G.length + 1]? = some o
  simp
theorem set_new1 {a : Ob} {G : Sto} {o o' : Ob} : (a :: (G ++ [o])).set (G.length + 1) o' = a :: (G ++ [o']) := by
  simp [List.set_append]
/-- what is fresh after some kinds: -/
structure Fresh (b : List Kd) (ah : List (Key × P)) (ks : List Str) (fr : List (Key × P)) : Prop where
  keys : KeyIs fr (fk b ks)
  val : ∀ k ∈ b, k.1 ∈ fk b ks → lookK fr (.inr k.1) = some (madeOf ah ks k.2)
theorem made_snoc {ah : List (Key × P)} {ks : List Str} {pr : List Mk} {m : Mk} (h : pr.any (gd ks) = false) (hm : gd ks m = true) (post : List Mk) : madeOf ah ks (pr ++ m :: post) = valOf ah m := by
  unfold madeOf
  rw [List.find?_append, List.find?_eq_none.mpr fun y hy => by have := List.any_eq_false.mp h y hy; simpa using this]
  simp [hm]
theorem made_pre {ah : List (Key × P)} {ks : List Str} {pr post : List Mk} (h : pr.any (gd ks) = true) : madeOf ah ks (pr ++ post) = madeOf ah ks pr := by
  unfold madeOf
  rw [List.find?_append]
  cases e : pr.find? (gd ks) with
  | some m => rfl
  | none =>
    obtain ⟨m, hm, g⟩ := List.any_eq_true.mp h
    exact absurd g (List.find?_eq_none.mp e m hm)
theorem fk_snoc {b : List Kd} {ks : List Str} {k : Kd} : fk (b ++ [k]) ks = fk b ks ++ (if (!decide (k.1 ∈ ks) && k.2.any (gd ks)) = true then [k.1] else []) := by
  unfold fk
  rw [List.filter_append, List.map_append]
  by_cases h : (!decide (k.1 ∈ ks) && k.2.any (gd ks)) = true
  · rw [if_pos h, List.filter_cons, if_pos h]; rfl
  · rw [if_neg h, List.filter_cons, if_neg h]; rfl
/-- the makes of one kind -/
theorem plain_makes (b : List Kd) (hb : BookOk b) {pre : List Kd} {k : Kd} {post : List Kd} (hbk : b = pre ++ k :: post) (ah : List (Key × P)) (ks : List Str) (hk : KeyIs ah ks) (fr : List (Key × P)) (F : Fresh pre ah ks fr) (G : Sto) (v2 v5 v6 v7 v8 : Option D) :
    Nd (sFor (cIt (cVar 5)) (gTp 2 (gsCons (gN 6) (gsCons (gN 7) gsNil)))
    (sIf (cAnd (cT (c2 (gInB true) (cVar 4) (cVar 1))) (cAnd (cT (c2 (gInB true) (cVar 4) (cVar 3))) (cTru (c1 gAll (cCons (cRo (cComp (cIt (cVar 7)) (gN 8) cYes (c2 (gInB false) (cVar 8) (cVar 1)) [8])) cNil)))))
    (sAsg (c2 gAdd (cTup (cCons (cVar 6) cNil)) (c1 gTuple (cCons (cRo (cComp (cIt (cVar 7)) (gN 8) cYes (c2 gIx (cVar 1) (cVar 8)) [8])) cNil))) (gAt (cVar 3) (cVar 4)))
    sNil) [some (.p (encB b)), some (.ref 0), v2, some (.ref (G.length + 1)), some (.p (.str k.1)), some (.p (.tup (k.2.map encM))), v6, v7, v8] (.dic ah :: (G ++ [.dic fr])))
    fun f S' => ∃ fr' w6 w7 w8, f = .nx [some (.p (encB b)), some (.ref 0), v2, some (.ref (G.length + 1)), some (.p (.str k.1)), some (.p (.tup (k.2.map encM))), w6, w7, w8] ∧ S' = .dic ah :: (G ++ [.dic fr']) ∧ Fresh (pre ++ [k]) ah ks fr' := by
  have hkb : k ∈ b := by rw [hbk]; simp
  have hok := hb.ok k hkb
  have hnew : k.1 ∉ fk pre ks := fun q => by
    obtain ⟨k2, hk2, e2, _⟩ := fk_mem.mp q
    have nd := hb.nd
    rw [hbk, List.map_append, List.nodup_append] at nd
    exact nd.2.2 k2.1 (List.mem_map_of_mem hk2) k.1 (by simp) e2
  have hpl : pre.length < 6 := by have := hb.len; rw [hbk, List.length_append, List.length_cons] at this; omega
  have hfl : (fk pre ks).length ≤ 6 := by
    unfold fk; rw [List.length_map]
    have := List.length_filter_le (fun k : Kd => !decide (k.1 ∈ ks) && k.2.any (gd ks)) pre
    omega
  simp only [xFor, xIt, xVar0, xVarS, bind_okE, xIter_tup]
  refine forE1 (fun (pr : List Mk) ρ S' => ∃ fr' w6 w7 w8, ρ = [some (.p (encB b)), some (.ref 0), v2, some (.ref (G.length + 1)), some (.p (.str k.1)), some (.p (.tup (k.2.map encM))), w6, w7, w8] ∧ S' = .dic ah :: (G ++ [.dic fr']) ∧
    ((¬ (!decide (k.1 ∈ ks) && pr.any (gd ks)) = true ∧ fr' = fr) ∨ ((!decide (k.1 ∈ ks) && pr.any (gd ks)) = true ∧ fr' = putP fr (.inr k.1) (madeOf ah ks pr)))) ⟨fr, _, _, _, rfl, rfl, .inl ⟨by simp, rfl⟩⟩ ?_ ?_
  · rintro pr m pst ρ S' hms ⟨fr', w6, w7, w8, rfl, rfl, hfr⟩
    have hm : m ∈ k.2 := by rw [hms]; simp
    have h4 := (hok.2.2 m hm).1
    refine Nd.go (turnE (ρ1 := [some (.p (encB b)), some (.ref 0), v2, some (.ref (G.length + 1)), some (.p (.str k.1)), some (.p (.tup (k.2.map encM))), some (.p (.str m.1)), some (.p (.tup (m.2.map .str))), w8]) rfl ?_)
    have hd1 : dicL (.ref 0) (.dic ah :: (G ++ [.dic fr'])) = some ah := rfl
    have hd3 : dicL (.ref (G.length + 1)) (.dic ah :: (G ++ [.dic fr'])) = some fr' := dic_ref at_new1
    have i1 := vInKeys (z := k.1) true _ hd1 hk
    have g1 := gd_E (j := 8) (k := 1) (f := 7) (m := m) (ρ := [some (.p (encB b)), some (.ref 0), v2, some (.ref (G.length + 1)), some (.p (.str k.1)), some (.p (.tup (k.2.map encM))), some (.p (.str m.1)), some (.p (.tup (m.2.map .str))), w8]) rfl (by simp) (by omega) rfl (by omega) hd1 hk
    have keyS : ∀ fr' : List (Key × P), (¬ (!decide (k.1 ∈ ks) && pr.any (gd ks)) = true ∧ fr' = fr) → KeyIs fr' (fk pre ks) := fun fr' h => by rw [h.2]; exact F.keys
    by_cases h1 : k.1 ∈ ks
    · simp only [xSIf, xAnd, xT, x2, xVar0, xVarS, bind_okE, i1, if_true, xbT, h1, decide_true, Bool.not_true, Bool.false_eq_true, if_false, xSNil]
      refine .ok ⟨_, rfl, fr', _, _, _, rfl, rfl, .inl ?_⟩
      rcases hfr with q | q
      · exact ⟨by simp [h1], q.2⟩
      · exact absurd q.1 (by simp [h1])
    · by_cases h2 : pr.any (gd ks) = true
      · have hfr : fr' = putP fr (.inr k.1) (madeOf ah ks pr) := by
          rcases hfr with q | q
          · exact absurd (by simp [h1, h2]) q.1
          · exact q.2
        have hkey : KeyIs fr' (fk pre ks ++ [k.1]) := by rw [hfr]; exact F.keys.put hnew _
        have i3 := vInKeys (z := k.1) true _ hd3 hkey
        simp only [xSIf, xAnd, xT, x2, xVar0, xVarS, bind_okE, i1, i3, if_true, xbT, h1, decide_false, Bool.not_false, List.mem_append, List.mem_singleton, or_true, decide_true, Bool.not_true, Bool.false_eq_true, if_false, xSNil]
        refine .ok ⟨_, rfl, fr', _, _, _, rfl, rfl, .inr ⟨by simp [h1, h2], by rw [hfr, made_pre h2]⟩⟩
      · have h2 : pr.any (gd ks) = false := Bool.not_eq_true _ ▸ h2
        have hfr : fr' = fr := by
          rcases hfr with q | q
          · exact q.2
          · exact absurd q.1 (by simp [h2])
        subst hfr
        have i3 := vInKeys (z := k.1) true _ hd3 F.keys
        simp only [xSIf, xAnd, xT, x2, xVar0, xVarS, bind_okE, i1, i3, if_true, xbT, h1, decide_false, Bool.not_false, hnew, xTru, g1, truD]
        cases hg : gd ks m with
        | false =>
          simp only [Bool.false_eq_true, if_false, xSNil, bind_okE]
          refine .ok ⟨_, rfl, fr', _, _, _, rfl, rfl, .inl ⟨by simp [h2, hg], rfl⟩⟩
        | true =>
          have e1 := made_E (im := 6) (f := 7) (j := 8) (k := 1) (m := m) (ρ := [some (.p (encB b)), some (.ref 0), v2, some (.ref (G.length + 1)), some (.p (.str k.1)), some (.p (.tup (k.2.map encM))), some (.p (.str m.1)), some (.p (.tup (m.2.map .str))), w8]) rfl rfl (by simp) (by omega) rfl (by omega) hd1 hk hg
          have hset := vSetD (z := k.1) (y := valOf ah m) (S := .dic ah :: (G ++ [.dic fr'])) at_new1 (by rw [F.keys.len]; omega)
          rw [set_new1] at hset
          simp only [if_true, bind_okE, xAsg, e1, xgAt, xVar0, xVarS, hset]
          refine .ok ⟨_, rfl, _, _, _, _, rfl, rfl, .inr ⟨by simp [h1, hg], by rw [made_snoc h2 hg]⟩⟩
  · rintro ρ S' ⟨fr', w6, w7, w8, rfl, rfl, hfr⟩
    refine ⟨fr', _, _, _, rfl, rfl, ?_⟩
    rcases hfr with ⟨q, rfl⟩ | ⟨q, rfl⟩
    · have hf : fk (pre ++ [k]) ks = fk pre ks := by rw [fk_snoc, if_neg q, List.append_nil]
      refine ⟨by rw [hf]; exact F.keys, fun k2 hk2 h3 => ?_⟩
      rw [hf] at h3
      rcases List.mem_append.mp hk2 with z | z
      · exact F.val k2 z h3
      · rw [List.mem_singleton] at z; subst z; exact absurd h3 hnew
    · have hf : fk (pre ++ [k]) ks = fk pre ks ++ [k.1] := by rw [fk_snoc, if_pos q]
      refine ⟨by rw [hf]; exact F.keys.put hnew _, fun k2 hk2 h3 => ?_⟩
      rw [hf] at h3
      rw [look_put F.keys hnew]
      rcases List.mem_append.mp hk2 with z | z
      · have ne : k2.1 ≠ k.1 := by
          have nd := hb.nd
          rw [hbk, List.map_append, List.nodup_append] at nd
          exact nd.2.2 k2.1 (List.mem_map_of_mem z) k.1 (by simp)
        rw [if_neg ne]
        exact F.val k2 z ((List.mem_append.mp h3).elim id fun w => absurd (List.mem_singleton.mp w) ne)
      · rw [List.mem_singleton] at z; subst z; rw [if_pos rfl]
end Gs
set_option Elab.async false
set_option linter.all false
set_option maxRecDepth 100000
set_option maxHeartbeats 4000000
namespace Gs
open Cw L2
open PySem hiding Run

theorem pd0 {b : List Kd} (hb : BookOk b) : PD b [(.inr num, P.int 0)] [num] 0 := by
  have h0 : lookK [((.inr num : Key), P.int 0)] (.inr num) = some (.int 0) := by simp [lookK]
  have hz : ∀ z v, lookK [((.inr num : Key), P.int 0)] (.inr z) = some v → z = num ∧ v = .int 0 := fun z v hv => by
    have kz : KeyIs [((.inr num : Key), P.int 0)] [num] := rfl
    have h1 : z ∈ [num] := look_in kz hv
    rw [List.mem_singleton] at h1
    subst h1
    rw [h0] at hv
    cases hv
    exact ⟨rfl, rfl⟩
  refine ⟨rfl, by simp, by simp, fun z hz => ?_, h0, fun k hk hz => ?_, fun z v hv => ?_⟩
  · rw [List.mem_singleton] at hz; subst hz; exact ⟨.base, List.mem_cons_self⟩
  · rw [List.mem_singleton] at hz; exact absurd (hz ▸ List.mem_map_of_mem hk) hb.nn
  · obtain ⟨_, rfl⟩ := hz z v hv; simp [P.dep]
theorem disp0 (ρ : Ev) (S : Sto) : cDt (cDisp [((cP (.str ("num" : Str))), (cP (.int 0)))]) ρ S = .ok (.ref S.length) (S ++ [.dic [(.inr num, P.int 0)]]) := by
  simp [cDisp, cPairs, keyP, mergeP, putP, num]
theorem pd_len {b : List Kd} {kvs : List (Key × P)} {ks : List Str} {n : Nat} (p : PD b kvs ks n) : ks.length ≤ b.length + 1 := by
  have hlen := nodup_sub_len ks _ p.nd fun z hz => (p.sub z hz).2
  rwa [List.length_cons, List.length_map] at hlen
/-- a round goes on or all is known -/
theorem fk_grow {b : List Kd} {ks : List Str} {t : Nat} (h0 : num ∈ ks) (h : Closed b ks ∨ t + 1 ≤ ks.length) : Closed b (ks ++ fk b ks) ∨ t + 2 ≤ (ks ++ fk b ks).length := by
  cases e : fk b ks with
  | nil => rw [List.append_nil]; exact .inl (fk_closed h0 e)
  | cons z r =>
    rcases h with h | h
    · exfalso
      have hz : z ∈ fk b ks := by rw [e]; exact List.mem_cons_self
      obtain ⟨k, hk, rfl, hn, hany⟩ := fk_mem.mp hz
      obtain ⟨m, hm, g⟩ := List.any_eq_true.mp hany
      exact hn (h.2 k hk m hm g)
    · right
      rw [List.length_append, List.length_cons]; omega
theorem pd_alive {b : List Kd} {kvs : List (Key × P)} {ks : List Str} {n : Nat} (p : PD b kvs ks n) (h : Closed b ks ∨ b.length + 1 ≤ ks.length) (z : Str) : z ∈ ks ↔ Alive b z := by
  refine ⟨fun hz => (p.sub z hz).1, fun a => ?_⟩
  rcases h with h | h
  · exact closed_alive h a
  · have hz : z ∈ num :: b.map (·.1) := by
      cases a with
      | base => exact List.mem_cons_self
      | made hk _ _ => exact List.mem_cons_of_mem _ (names_mem hk)
    exact nodup_full p.nd (fun z hz => (p.sub z hz).2) (by rw [List.length_cons, List.length_map]; exact h) hz
theorem iter_book (b : List Kd) (S : Sto) : iterD (.p (encB b)) S = .ok (b.map encK, none) S := rfl
theorem body_plain (run : Run) (b : List Kd) (hb : BookOk b) : Nd (b_law_plain run [some (.p (encB b)), none, none, none, none, none, none, none, none] []) fun f S' =>
    ∃ kvs ks, toldN 0 f S' = some (.dic kvs) ∧ PD b kvs ks b.length ∧ ∀ z, z ∈ ks ↔ Alive b z := by
  have h6 := hb.len
  refine asgE (disp0 _ _) ?_
  simp only [List.set_cons_zero, List.set_cons_succ, List.length_nil, List.nil_append]
  refine rngS (n := b.length) (cRng1_nat (by
    simp only [x1, xCons, xNil, xVar0, bind_okE, encB, vLenTup, List.length_map]) (by omega)) (fun t ρ S => ∃ (kvs : List (Key × P)) (ks : List Str) (G : Sto) (v2 v3 v4 v5 v6 v7 v8 : Option D), ρ = [some (.p (encB b)), some (.ref 0), v2, v3, v4, v5, v6, v7, v8] ∧ S = .dic kvs :: G ∧ PD b kvs ks t ∧ (Closed b ks ∨ t + 1 ≤ ks.length))
    ⟨_, _, [], none, none, none, none, none, none, none, rfl, rfl, pd0 hb, .inr (by simp)⟩ ?_ ?_
  · rintro t ρ S ht ⟨ah, ks, G, v2, v3, v4, v5, v6, v7, v8, rfl, rfl, pd, hc⟩
    refine Nd.go (turnE (xgN _ _ _ _) ?_)
    simp only [List.set_cons_zero, List.set_cons_succ]
    refine asgE (d := .ref (G.length + 1)) (S' := .dic ah :: (G ++ [.dic []])) rfl ?_
    simp only [List.set_cons_zero, List.set_cons_succ]
    refine forS (enc := encK) (l := b) (S' := .dic ah :: (G ++ [.dic []])) rfl (fun pre ρ S => ∃ fr v4 v5 v6 v7 v8, ρ = [some (.p (encB b)), some (.ref 0), some (.p (.int t)), some (.ref (G.length + 1)), v4, v5, v6, v7, v8] ∧ S = .dic ah :: (G ++ [.dic fr]) ∧ Fresh pre ah ks fr)
      ⟨[], _, _, _, _, _, rfl, rfl, rfl, by simp⟩ ?_ ?_
    · rintro pre k post ρ S hbk ⟨fr, v4, v5, v6, v7, v8, rfl, rfl, F⟩
      refine Nd.go (turnE (ρ1 := [some (.p (encB b)), some (.ref 0), some (.p (.int t)), some (.ref (G.length + 1)), some (.p (.str k.1)), some (.p (.tup (k.2.map encM))), v6, v7, v8]) rfl ?_)
      refine (plain_makes b hb hbk ah ks pd.keys fr F G (some (.p (.int t))) none v6 v7 v8).mono ?_
      rintro f S' ⟨fr', w6, w7, w8, rfl, rfl, F'⟩
      exact ⟨_, rfl, fr', _, _, _, _, _, rfl, rfl, F'⟩
    · rintro ρ S ⟨fr, v4, v5, v6, v7, v8, rfl, rfl, F⟩
      have hdis : ∀ z ∈ fk b ks, z ∉ ks := fun z hz => by obtain ⟨k, _, rfl, h, _⟩ := fk_mem.mp hz; exact h
      have hm := merge_new pd.keys F.keys (fk_nd hb.nd) hdis
      have hl1 := pd.keys.len
      have hl2 := F.keys.len
      have hk1 := pd_len pd
      have hk2 : (fk b ks).length ≤ b.length := by
        unfold fk; rw [List.length_map]; exact List.length_filter_le _ _
      have hu : gUpdate (.ref 0) [.ref (G.length + 1)] (.dic ah :: (G ++ [.dic fr])) = .ok (.p .non) (.dic (ah ++ fr) :: (G ++ [.dic fr])) := by
        have e1 : dicL (.ref (G.length + 1)) (.dic ah :: (G ++ [.dic fr])) = some fr := dic_ref at_new1
        simp only [gUpdate, List.getElem?_cons_zero, e1, unlike, sizeLine_val, hm]
        rw [if_pos ⟨by omega, by simp⟩]
        rfl
      have ty : isTy "dict" (.ref 0) (.dic ah :: (G ++ [.dic fr])) = true := by simp [isTy]
      simp only [xDrop, xM, xVar0, xVarS, bind_okE, ty, if_true, xCons, xNil, hu]
      have hkey : KeyIs (ah ++ fr) (ks ++ fk b ks) := by
        have a1 := pd.keys; have a2 := F.keys
        unfold KeyIs at a1 a2 ⊢; rw [List.map_append, List.map_append, a1, a2]
      refine .ok ⟨_, rfl, ah ++ fr, ks ++ fk b ks, G ++ [.dic fr], _, _, _, _, _, _, _, rfl, rfl, pd.round hb hkey (fun f hf => ?_) (fun k hk hf => ?_), fk_grow pd.nu hc⟩
      · obtain ⟨v, hv⟩ := look_mem pd.keys hf
        rw [look_app, hv]; rfl
      · rw [look_app, look_none pd.keys (hdis _ hf), F.val k hk hf]; rfl
  · rintro ρ S ⟨kvs, ks, G, v2, v3, v4, v5, v6, v7, v8, rfl, rfl, pd, hc⟩
    exact retE rfl ⟨kvs, ks, rfl, pd, pd_alive pd hc⟩
/-- what is known of the plain values -/
structure Plain (b : List Kd) (kvs : List (Key × P)) (ks : List Str) : Prop where
  pd : PD b kvs ks b.length
  al : ∀ z, z ∈ ks ↔ Alive b z
def PlainRun (run : Run) (i : Nat) : Prop := ∀ b, BookOk b → ∃ kvs ks, Tells run i [encB b] (.dic kvs) ∧ Plain b kvs ks
theorem plain_ok {T : List Fd} {k i : Nat} (h : T[i]? = some f_law_plain) : PlainRun (runT T (k + 1)) i := fun b hb => by
  obtain ⟨f, S', e, kvs, ks, h1, h2, h3⟩ := body_plain (runT T k) b hb
  exact ⟨kvs, ks, tells_of h rfl ⟨f, S', e, h1⟩, h2, h3⟩
/-! ### the makes that come -/
def comeOf (b : List Kd) (ks : List Str) (z : Str) : List Mk := (mkOf b z).filter (gd ks)
theorem pairs_book (b : List Kd) : pairsP (b.map encK) = some (b.map fun k => (.inr k.1, .tup (k.2.map encM))) := by
  induction b with
  | nil => rfl
  | cons k r ih =>
    rw [List.map_cons, List.map_cons]
    show ((keyP (.str k.1)).bind fun ky => (pairsP (r.map encK)).map ((ky, P.tup (k.2.map encM)) :: ·)) = _
    rw [ih]; rfl
theorem dict_book {b : List Kd} (hb : BookOk b) : mergeP [] (b.map fun k => ((.inr k.1 : Key), P.tup (k.2.map encM))) = b.map fun k => (.inr k.1, .tup (k.2.map encM)) := by
  have := merge_new (more := b.map fun k => ((.inr k.1 : Key), P.tup (k.2.map encM))) (kvs := []) (ks := []) (ms := b.map (·.1)) rfl (by unfold KeyIs; rw [List.map_map, List.map_map]; rfl) hb.nd (by simp)
  rwa [List.nil_append] at this
theorem look_book (b : List Kd) (z : Str) : lookK (b.map fun k => ((.inr k.1 : Key), P.tup (k.2.map encM))) (.inr z) = (b.find? fun k => decide (k.1 = z)).map fun k => .tup (k.2.map encM) := by
  unfold lookK
  rw [List.find?_map]
  have e : ((fun kv : Key × P => decide (kv.1 = (.inr z : Key))) ∘ fun k : Kd => ((.inr k.1 : Key), P.tup (k.2.map encM))) = fun k => decide (k.1 = z) := by
    funext k
    simp only [Function.comp]
    by_cases h : k.1 = z
    · subst h; simp
    · have : ¬ ((.inr k.1 : Key) = .inr z) := fun q => h (by cases q; rfl)
      simp [h, this]
  rw [e]
  cases b.find? fun k => decide (k.1 = z) <;> rfl
theorem dictE {c : CE} {ρ : Ev} {S : Sto} {b : List Kd} (hb : BookOk b) (e : c ρ S = .ok (.p (encB b)) S) : cDo (cDPairs c) ρ S = .ok (.p (.dic (b.map fun k => (.inr k.1, .tup (k.2.map encM))))) S := by
  simp only [xDo, xDPairsT, e, bind_okE, encB, pairs_book, dict_book hb]
theorem getE {c : CE} {ρ : Ev} {S : Sto} {b : List Kd} (hb : BookOk b) (e : c ρ S = .ok (.p (encB b)) S) {cz : CE} {z : Str} (ez : cz ρ S = .ok (.p (.str z)) S) : cGet2 (cDo (cDPairs c)) cz (cTup cNil) ρ S = .ok (.p (.tup ((mkOf b z).map encM))) S := by
  unfold cGet2
  rw [dictE hb e, bind_okE]
  show ((cGet1.dicOk _ S).bind _) = _
  have hk : cGet1.dicOk (.p (.dic (b.map fun k => ((.inr k.1 : Key), P.tup (k.2.map encM))))) S = .ok () S := rfl
  rw [hk, bind_okE, ez, bind_okE]
  simp only [xTup, xNil, bind_okE, allP, List.length_nil, Nat.zero_le, if_true, gGet, dicL, keyP, look_book, mkOf]
  cases b.find? fun k => decide (k.1 = z) <;> rfl
end Gs
set_option Elab.async false
set_option linter.all false
set_option maxRecDepth 100000
set_option maxHeartbeats 4000000
namespace Gs
open Cw L2
open PySem hiding Run

/-! ### _law_coming, _law_make_names -/
theorem come_len {b : List Kd} (hb : BookOk b) {ks : List Str} {z : Str} {m : Mk} (h : m ∈ comeOf b ks z) : m.2.length ≤ 4 ∧ (∀ f ∈ m.2, f ∈ ks) ∧ m ∈ mkOf b z := by
  obtain ⟨h1, h2⟩ := List.mem_filter.mp h
  exact ⟨(mkOf_ok hb z).2 m h1, gd_iff.mp h2, h1⟩
theorem body_coming (run : Run) {b : List Kd} (hb : BookOk b) {kvs : List (Key × P)} {ks : List Str} (hk : KeyIs kvs ks) (z : Str) :
    Nd (b_law_coming run [some (.p (encB b)), some (.p (.dic kvs)), some (.p (.str z)), none, none] []) fun f S' => toldN 0 f S' = some (.ro ((comeOf b ks z).map encM)) := by
  have hi : cIt (cGet2 (cDo (cDPairs (cVar 0))) (cVar 2) (cTup cNil)) [some (.p (encB b)), some (.p (.dic kvs)), some (.p (.str z)), none, none] [] = .ok ((mkOf b z).map encM, none) [] := by
    rw [xIt, getE hb rfl rfl, bind_okE]; rfl
  refine retE (d := .p (.ro ((comeOf b ks z).map encM))) (S' := []) ?_ rfl
  rw [xRo, cmpF (gd ks) encM hi (by have := (mkOf_ok hb z).1; omega)]
  · rfl
  · intro m hm
    have h4 := (mkOf_ok hb z).2 m hm
    have e1 : gIx (.p (encM m)) (.p (.int 1)) [] = .ok (.p (.tup (m.2.map .str))) [] := vIxT [] (by omega) rfl
    refine ⟨_, rfl, ?_, fun _ => rfl⟩
    have e2 := all_in (it := cIt (c2 gIx (cVar 3) (cP (.int 1)))) (j := 4) (k := 1) (ρ := [some (.p (encB b)), some (.p (.dic kvs)), some (.p (.str z)), some (.p (encM m)), none]) (S := []) (y := .p (.dic kvs)) (fs := m.2) (fun w => decide (w ∈ ks)) (by
      simp only [xIt, x2, xVar0, xVarS, xP, bind_okE, e1]; rfl) (by simp) (by omega) rfl (by omega) fun w _ => vInKeys false [] rfl hk
    show cTru _ [some (.p (encB b)), some (.p (.dic kvs)), some (.p (.str z)), some (.p (encM m)), none] [] = _
    rw [xTru, e2]
    rfl
def ComeRun (run : Run) (i : Nat) : Prop := ∀ b kvs ks z, BookOk b → KeyIs kvs ks → Tells run i [encB b, .dic kvs, .str z] (.ro ((comeOf b ks z).map encM))
theorem come_ok {T : List Fd} {k i : Nat} (h : T[i]? = some f_law_coming) : ComeRun (runT T (k + 1)) i := fun b kvs ks z hb hk => tells_of h rfl (body_coming (runT T k) hb hk z)
theorem names_comp {i : Nat} {ms : List Mk} {ρ : Ev} {S : Sto} {j : Nat} (h : ρ[i]? = some (some (.p (.tup (ms.map encM))))) (hj : j < ρ.length) (hij : i ≠ j) (hl : ms.length ≤ 1000) :
    cRo (cComp (cIt (cVar i)) (gN j) cYes (c2 gIx (cVar j) (cP (.int 0))) [j]) ρ S = .ok (.p (.ro ((ms.map (·.1)).map .str))) S := by
  simp only [xRo, xComp, it_at h, bind_okE]
  rw [compM encM (fun m : Mk => P.str m.1) ms (by omega)]
  · rw [bind_okE, List.map_map]; rfl
  · intro m hm
    have e1 : ∀ S, cVar j ((wipeE ρ [j]).set j (some (.p (encM m)))) S = .ok (.p (encM m)) S := fun S => by simp [cVar, wipeE, List.getElem?_set, hj]
    have e2 : ∀ S, gIx (.p (encM m)) (.p (.int 0)) S = .ok (.p (.str m.1)) S := fun S => vIxT S (by omega) rfl
    exact ⟨_, rfl, by simp only [x2, e1, bind_okE, xP, e2]⟩
theorem nms_len {b : List Kd} (hb : BookOk b) : (nmsOf b).length ≤ 36 := by
  have key : ∀ l : List Kd, (∀ k ∈ l, k.2.length ≤ 6) → (nmsOf l).length ≤ 6 * l.length := by
    intro l
    induction l with
    | nil => intro _; simp [nmsOf]
    | cons k r ih =>
      intro h
      have a := h k List.mem_cons_self
      have b := ih fun x hx => h x (List.mem_cons_of_mem _ hx)
      have : nmsOf (k :: r) = k.2.map (·.1) ++ nmsOf r := by simp [nmsOf]
      rw [this, List.length_append, List.length_map, List.length_cons]; omega
  have := key b fun k hk => (hb.ok k hk).2.1
  have := hb.len
  omega
theorem body_make_names (run : Run) {b : List Kd} (hb : BookOk b) : Nd (b_law_make_names run [some (.p (encB b)), none, none, none, none] []) fun f S' => toldN 0 f S' = some (.ro ((nmsOf b).map .str)) := by
  refine asgE (d := .ref 0) (S' := [.lst []]) rfl ?_
  simp only [List.set_cons_zero, List.set_cons_succ]
  refine forS (enc := encK) (l := b) (S' := [.lst []]) rfl (fun pre ρ S => ∃ v2 v3 v4, ρ = [some (.p (encB b)), some (.ref 0), v2, v3, v4] ∧ S = [.lst ((nmsOf pre).map .str)]) ⟨_, _, _, rfl, rfl⟩ ?_ ?_
  · rintro pre k post ρ S hbk ⟨v2, v3, v4, rfl, rfl⟩
    have hkb : k ∈ b := by rw [hbk]; simp
    have h6 := (hb.ok k hkb).2.1
    refine Nd.go (turnE (ρ1 := [some (.p (encB b)), some (.ref 0), some (.p (.str k.1)), some (.p (.tup (k.2.map encM))), v4]) rfl ?_)
    have hl : (nmsOf pre).length ≤ 36 := by
      have h1 := nms_len hb
      have h2 : nmsOf b = nmsOf pre ++ nmsOf (k :: post) := by rw [hbk]; exact nms_app _ _
      rw [h2, List.length_append] at h1; omega
    have e1 := names_comp (i := 3) (j := 4) (ms := k.2) (ρ := [some (.p (encB b)), some (.ref 0), some (.p (.str k.1)), some (.p (.tup (k.2.map encM))), v4]) (S := [.lst ((nmsOf pre).map .str)]) rfl (by simp) (by omega) (by omega)
    have ty : isTy "list" (.ref 0) [.lst ((nmsOf pre).map .str)] = true := by simp [isTy]
    have ex : gExtend (.ref 0) [.p (.ro ((k.2.map (·.1)).map .str))] [.lst ((nmsOf pre).map .str)] = .ok (.p .non) [.lst ((nmsOf (pre ++ [k])).map .str)] := by
      simp only [gExtend, onLst, List.getElem?_cons_zero, itemsA, seqA, seqL, List.length_map, sizeLine_val]
      rw [if_pos (by first | omega | exact ⟨by omega, rfl⟩)]
      rw [nms_app, nms_one, List.map_append]; rfl
    simp only [xDrop, xM, xVar0, xVarS, bind_okE, ty, if_true, xCons, xNil, e1, ex]
    exact .ok ⟨_, rfl, _, _, _, rfl, rfl⟩
  · rintro ρ S ⟨v2, v3, v4, rfl, rfl⟩
    exact retE rfl rfl
theorem make_names_ok {T : List Fd} {k i : Nat} (h : T[i]? = some f_law_make_names) (b : List Kd) (hb : BookOk b) : Tells (runT T (k + 1)) i [encB b] (.ro ((nmsOf b).map .str)) := tells_of h rfl (body_make_names (runT T k) hb)
end Gs
set_option Elab.async false
set_option linter.all false
set_option maxRecDepth 100000
set_option maxHeartbeats 4000000
namespace Gs
open Cw L2
open PySem hiding Run

/-! ### numbers -/
theorem pow30 : ((10 : Int) ^ (30 : Int).toNat) = 1000000000000000000000000000000 := by decide +kernel
theorem body_number (run : Run) {i : Nat} (hn : NextOk run i) {o : Ob} (ho : Pool o) : Nd (b_law_number i run [some (.ref 0), none] [o]) fun f S' => ∃ x o', toldN 1 f S' = some x ∧ S'[0]? = some o' ∧ Pool o' ∧ ∃ j : Int, x = .int j := by
  refine asgN (hn.d0 (base := 6) (S := []) rfl rfl ho (by omega) (by omega)) ?_
  rintro d S' ⟨way, o1, rfl, rfl, ho1, hw⟩
  simp only [List.set_cons_zero, List.set_cons_succ]
  have sub : ∀ {c : CE} {base k : Int} {o : Ob} {v : Option D}, Pool o → c [some (.ref 0), v] [o] = .ok (.p (.int base)) [o] → 0 < base → base ≤ 1000000000000000000000000000000000000000000000000000000000000 →
      Nd (c2 gSub (cCallV true run i (cCons (cVar 0) (cCons c cNil))) (cP (.int k)) [some (.ref 0), v] [o]) fun d S' => ∃ x o', toldN 1 (.rt d) S' = some x ∧ S'[0]? = some o' ∧ Pool o' ∧ ∃ j : Int, x = .int j := fun {c base k o v} ho hc h0 h1 => by
    obtain ⟨d, S', e, x, o', rfl, rfl, ho', _⟩ := hn.d0 (ca := cVar 0) (S := []) rfl hc ho h0 h1
    simp only [x2, e, bind_okE, xP, vSub]
    exact .ok ⟨_, o', rfl, rfl, ho', _, rfl⟩
  by_cases h1 : (way : Int) < 4
  · refine seqT (S' := [o1]) (by simp only [xT, x2, xVar0, xVarS, xP, bind_okE, vLt, h1, decide_true, xbT]) (seqRet (sub ho1 rfl (by omega) (by omega)))
  · refine seqF (S' := [o1]) (by simp only [xT, x2, xVar0, xVarS, xP, bind_okE, vLt, h1, decide_false, xbT]) (seqNil ?_)
    by_cases h2 : (way : Int) = 4
    · refine seqT (S' := [o1]) (by simp only [xT, x2, xVar0, xVarS, xP, bind_okE, vEqI, h2, decide_true, xbT]) (seqRet (sub ho1 rfl (by omega) (by omega)))
    · refine seqF (S' := [o1]) (by simp only [xT, x2, xVar0, xVarS, xP, bind_okE, vEqI, h2, decide_false, xbT]) (seqNil ?_)
      have hp : ∀ (ρ : Ev) (S : Sto), c2 gPow (cP (.int 10)) (cP (.int 30)) ρ S = .ok (.p (.int 1000000000000000000000000000000)) S := fun ρ S => by
        simp (disch := omega) only [x2, xP, bind_okE, vPow, pow30]
      obtain ⟨d, S', e, x, o2, rfl, rfl, ho2, _⟩ := hn.d0 (ca := cVar 0) (ρ := [some (.ref 0), some (.p (.int way))]) (S := []) rfl (hp _ _) ho1 (by omega) (by omega)
      obtain ⟨d, S', e', y, o3, rfl, rfl, ho3, _⟩ := hn.d0 (ca := cVar 0) (ρ := [some (.ref 0), some (.p (.int way))]) (S := []) rfl (hp _ _) ho2 (by omega) (by omega)
      refine retE (d := .p (.int ((x : Int) - y))) (S' := [o3]) ?_ ⟨_, o3, rfl, rfl, ho3, _, rfl⟩
      rw [x2, e, bind_okE, e', bind_okE, vSub]
def NumRun (run : Run) (i : Nat) : Prop := Takes Pool run i (fun d => [d]) fun x => ∃ j : Int, x = .int j
theorem number_ok {T : List Fd} {k i jn : Nat} (h : T[i]? = some (f_law_number jn)) (hn : NextOk (runT T k) jn) : NumRun (runT T (k + 1)) i :=
  takes_of ⟨fun n => rfl, fun n => by simp [numOf]⟩ (fun _ h => h.live) h rfl fun o ho => body_number (runT T k) hn ho

/-! ### values -/
/-- item by item -/
inductive All2 {α β : Type} (R : α → β → Prop) : List α → List β → Prop
  | nil : All2 R [] []
  | cons {a : α} {b : β} {as : List α} {bs : List β} : R a b → All2 R as bs → All2 R (a :: as) (b :: bs)
theorem All2.length {α β : Type} {R : α → β → Prop} : ∀ {as : List α} {bs : List β}, All2 R as bs → as.length = bs.length
  | _, _, .nil => rfl
  | _, _, .cons _ t => congrArg (· + 1) t.length
theorem All2.imp {α β : Type} {R R' : α → β → Prop} (h : ∀ a b, R a b → R' a b) : ∀ {as : List α} {bs : List β}, All2 R as bs → All2 R' as bs
  | _, _, .nil => .nil
  | _, _, .cons r t => .cons (h _ _ r) (t.imp h)
theorem All2.mem {α β : Type} {R : α → β → Prop} : ∀ {as : List α} {bs : List β} {b : β}, All2 R as bs → b ∈ bs → ∃ a, a ∈ as ∧ R a b
  | _, _, _, .nil, h => by cases h
  | _, _, _, .cons r t, h => by
    rcases List.mem_cons.mp h with rfl | q
    · exact ⟨_, List.mem_cons_self, r⟩
    · obtain ⟨a, h1, h2⟩ := t.mem q
      exact ⟨a, List.mem_cons_of_mem _ h1, h2⟩
theorem All2.snoc {α β : Type} {R : α → β → Prop} {a : α} {b : β} (r : R a b) : ∀ {as : List α} {bs : List β}, All2 R as bs → All2 R (as ++ [a]) (bs ++ [b])
  | _, _, .nil => .cons r .nil
  | _, _, .cons q t => .cons q (t.snoc r)
theorem All2.get {α β : Type} {R : α → β → Prop} : ∀ {as : List α} {bs : List β} {i : Nat} {a : α}, All2 R as bs → as[i]? = some a → ∃ b, bs[i]? = some b ∧ R a b
  | _, _, _, _, .nil, h => by simp at h
  | _, _, 0, _, .cons r t, h => by simp at h; subst h; exact ⟨_, rfl, r⟩
  | _, _, i + 1, a, .cons r t, h => by
    obtain ⟨b, h1, h2⟩ := All2.get (i := i) (a := a) t (by simpa using h)
    exact ⟨b, by simpa using h1, h2⟩
theorem All2.get' {α β : Type} {R : α → β → Prop} : ∀ {as : List α} {bs : List β} {i : Nat} {b : β}, All2 R as bs → bs[i]? = some b → ∃ a, as[i]? = some a ∧ R a b
  | _, _, _, _, .nil, h => by simp at h
  | _, _, 0, _, .cons r t, h => by simp at h; subst h; exact ⟨_, rfl, r⟩
  | _, _, i + 1, a, .cons r t, h => by
    obtain ⟨b, h1, h2⟩ := All2.get' (i := i) (b := a) t (by simpa using h)
    exact ⟨b, by simpa using h1, h2⟩
theorem All2.of_map {α β : Type} {R : α → β → Prop} (f : α → β) : ∀ {as : List α}, (∀ a ∈ as, R a (f a)) → All2 R as (as.map f)
  | [], _ => .nil
  | a :: r, h => .cons (h a List.mem_cons_self) (All2.of_map f fun x hx => h x (List.mem_cons_of_mem _ hx))
abbrev Come := Str → List Mk
/-- a value of a kind, at most so deep -/
def VK (C : Come) : Nat → Str → P → Prop
  | 0, z, x => z = num ∧ ∃ i : Int, x = .int i
  | d + 1, z, x => (z = num ∧ ∃ i : Int, x = .int i) ∨ ∃ m ∈ C z, ∃ ys, x = .tup (.str m.1 :: ys) ∧ All2 (VK C d) m.2 ys
theorem VK.mono {C : Come} : ∀ {d e : Nat} {z : Str} {x : P}, d ≤ e → VK C d z x → VK C e z x
  | 0, 0, _, _, _, h => h
  | 0, e + 1, _, _, _, h => .inl h
  | d + 1, 0, _, _, h, _ => absurd h (Nat.not_succ_le_zero _)
  | d + 1, e + 1, z, x, h, v => v.imp id fun ⟨m, hm, ys, e1, a⟩ => ⟨m, hm, ys, e1, a.imp fun f y => VK.mono (Nat.le_of_succ_le_succ h)⟩
theorem deps_le_mem {xs : List P} {x : P} (h : x ∈ xs) : x.dep ≤ P.deps xs := by
  induction xs with
  | nil => cases h
  | cons y r ih =>
    simp only [P.deps]
    rcases List.mem_cons.mp h with rfl | q
    · omega
    · have := ih q; omega
theorem plain_VK {b : List Kd} (hb : BookOk b) {kvs : List (Key × P)} {ks : List Str} {n : Nat} (p : PD b kvs ks n) : ∀ (d : Nat) (z : Str) (v : P), lookK kvs (.inr z) = some v → v.dep ≤ d → VK (comeOf b ks) d z v
  | d, z, v, hv, hd => by
    have hz := look_in p.keys hv
    rcases List.mem_cons.mp (p.sub z hz).2 with rfl | q
    · rw [p.zero] at hv
      cases hv
      cases d with
      | zero => exact ⟨rfl, 0, rfl⟩
      | succ d => exact .inl ⟨rfl, 0, rfl⟩
    · obtain ⟨k, hk, rfl⟩ := List.mem_map.mp q
      obtain ⟨m, hm, hg, e⟩ := p.val k hk hz
      rw [e] at hv
      cases hv
      cases d with
      | zero => simp [valOf, P.dep] at hd
      | succ d =>
        refine .inr ⟨m, List.mem_filter.mpr ⟨by rw [mkOf_at hb hk]; exact hm, hg⟩, _, rfl, All2.of_map _ fun f hf => ?_⟩
        obtain ⟨w, hw⟩ := look_mem p.keys (gd_iff.mp hg f hf)
        rw [hw]
        refine plain_VK hb p d f w hw ?_
        have : w ∈ m.2.map fun f => (lookK kvs (.inr f)).getD .non := List.mem_map.mpr ⟨f, hf, by rw [hw]; rfl⟩
        have h1 := deps_le_mem this
        simp only [valOf, P.dep, P.deps] at hd
        omega
theorem Plain.VK {b : List Kd} (hb : BookOk b) {kvs : List (Key × P)} {ks : List Str} (p : Plain b kvs ks) {z : Str} (hz : z ∈ ks) : ∃ v, lookK kvs (.inr z) = some v ∧ VK (comeOf b ks) 6 z v := by
  obtain ⟨v, hv⟩ := look_mem p.pd.keys hz
  exact ⟨v, hv, plain_VK hb p.pd 6 z v hv (Nat.le_trans (p.pd.dep z v hv) hb.len)⟩
theorem come_nil {b : List Kd} (hb : BookOk b) (ks : List Str) : comeOf b ks num = [] := by
  unfold comeOf mkOf
  rw [List.find?_eq_none.mpr fun k hk => by
    have : k.1 ≠ num := fun e => hb.nn (e ▸ List.mem_map_of_mem hk)
    simpa using this]
  rfl
theorem come_pos {b : List Kd} (hb : BookOk b) {kvs : List (Key × P)} {ks : List Str} {n : Nat} (p : PD b kvs ks n) {z : Str} (hz : z ∈ ks) (hn : z ≠ num) : comeOf b ks z ≠ [] := by
  rcases List.mem_cons.mp (p.sub z hz).2 with rfl | q
  · exact absurd rfl hn
  · obtain ⟨k, hk, rfl⟩ := List.mem_map.mp q
    obtain ⟨m, hm, hg, _⟩ := p.val k hk hz
    have : m ∈ comeOf b ks k.1 := List.mem_filter.mpr ⟨by rw [mkOf_at hb hk]; exact hm, hg⟩
    intro h; rw [h] at this; cases this
def ValRun (run : Run) (i : Nat) (d : Nat) : Prop := ∀ b kvs ks z, BookOk b → Plain b kvs ks → z ∈ ks → Takes Pool run i (fun q => [.p (encB b), .p (.dic kvs), .p (.str z), q, .p (.int d)]) (VK (comeOf b ks) (d + 6) z)
theorem body_value (run : Run) {iv jn jc jm : Nat} (hn : NextOk run jn) (hc : ComeRun run jc) (hm : NumRun run jm) (d : Nat) (hv : ∀ d', d = d' + 1 → ValRun run iv d') {b : List Kd} {kvs : List (Key × P)} {ks : List Str} {z : Str} (hb : BookOk b) (hp : Plain b kvs ks) (hz : z ∈ ks) {o : Ob} (ho : Pool o) :
    Nd (b_law_value iv jn jc jm run [some (.p (encB b)), some (.p (.dic kvs)), some (.p (.str z)), some (.ref 0), some (.p (.int d)), none, none, none, none] [o]) fun f S' => ∃ x o', toldN 1 f S' = some x ∧ S'[0]? = some o' ∧ Pool o' ∧ VK (comeOf b ks) (d + 6) z x := by
  by_cases h1 : z = num
  · subst h1
    refine seqT (S' := [o]) (by simp only [xT, x2, xVar0, xVarS, xP, bind_okE, vEqS]; rfl) ?_
    obtain ⟨x, o', e, ho', j, rfl⟩ := hm [o] 0 o rfl ho
    refine seqRetE (d := .p (.int j)) (S' := [o']) ?_ ⟨_, o', rfl, rfl, ho', ?_⟩
    · simp only [xCallV, xCons, xNil, xVar0, xVarS, bind_okE, e]; rfl
    · exact .inl ⟨rfl, j, rfl⟩
  · have h1' : ¬ z = ("num" : Str) := h1
    refine seqF (S' := [o]) (by simp only [xT, x2, xVar0, xVarS, xP, bind_okE, vEqS, h1', decide_false, xbT]) (seqNil ?_)
    cases d with
    | zero =>
      refine seqT (S' := [o]) (by simp only [xT, x2, xVar0, xVarS, xP, bind_okE, vLt]; rfl) ?_
      obtain ⟨v, hv, hk⟩ := hp.VK hb hz
      refine seqRetE (d := .p v) (S' := [o]) ?_ ⟨v, o, rfl, rfl, ho, hk⟩
      simp only [x2, xVar0, xVarS, bind_okE]
      exact vIxDic _ rfl hv
    | succ d =>
      have h2 : ¬ ((d + 1 : Nat) : Int) < 1 := by omega
      refine seqF (S' := [o]) (by simp only [xT, x2, xVar0, xVarS, xP, bind_okE, vLt, h2, decide_false, xbT]) (seqNil ?_)
      have ec := hc b kvs ks z hb hp.pd.keys [o]
      refine asgE (d := .p (.ro ((comeOf b ks z).map encM))) (S' := [o]) (by simp only [xCallV, xCons, xNil, xVar0, xVarS, bind_okE]; exact ec) ?_
      simp only [List.set_cons_zero, List.set_cons_succ]
      have hne := come_pos hb hp.pd hz h1
      have hlen : (comeOf b ks z).length ≤ 6 := Nat.le_trans (List.length_filter_le _ _) (mkOf_ok hb z).1
      have hpos : 0 < (comeOf b ks z).length := List.length_pos_iff.mpr hne
      obtain ⟨dd, S', e, x, o1, hx, rfl, rfl, ho1⟩ := pick0 (tbl := cVar 5) (xs := (comeOf b ks z).map encM) (S := []) (ρ := [some (.p (encB b)), some (.p (.dic kvs)), some (.p (.str z)), some (.ref 0), some (.p (.int (d + 1 : Nat))), some (.p (.ro ((comeOf b ks z).map encM))), none, none, none]) rfl
        (hn.d0 (ca := cVar 3) (cb := c1 gLen (cCons (cVar 5) cNil)) (base := (comeOf b ks z).length) rfl (by simp only [x1, xCons, xNil, xVar0, xVarS, bind_okE, vLenRo, List.length_map]) ho (by omega) (by omega) |>.mono fun d S' ⟨x, o', e1, e2, h1, h2⟩ => ⟨x, o', e1, e2, h1, by rw [List.length_map]; exact h2⟩)
      obtain ⟨m, hm2, rfl⟩ := List.mem_map.mp hx
      obtain ⟨h4, hfs, _⟩ := come_len hb hm2
      refine asgG e (ρ' := [some (.p (encB b)), some (.p (.dic kvs)), some (.p (.str z)), some (.ref 0), some (.p (.int (d + 1 : Nat))), some (.p (.ro ((comeOf b ks z).map encM))), some (.p (.str m.1)), some (.p (.tup (m.2.map .str))), none]) (S'' := [o1]) rfl ?_
      have hvr := hv d rfl
      have hd1 : ((d + 1 : Nat) : Int) - 1 = (d : Nat) := by omega
      obtain ⟨ys, S', e2, ⟨o2, rfl, ho2, ha⟩, hly⟩ : Nd (cComp (cIt (cVar 7)) (gN 8) cYes (cCallV true run iv (cCons (cVar 0) (cCons (cVar 1) (cCons (cVar 8) (cCons (cVar 3) (cCons (c2 gSub (cVar 4) (cP (.int 1))) cNil)))))) [8] [some (.p (encB b)), some (.p (.dic kvs)), some (.p (.str z)), some (.ref 0), some (.p (.int (d + 1 : Nat))), some (.p (.ro ((comeOf b ks z).map encM))), some (.p (.str m.1)), some (.p (.tup (m.2.map .str))), none] [o1])
          fun ys S' => (∃ o2, S' = [o2] ∧ Pool o2 ∧ All2 (VK (comeOf b ks) (d + 6)) m.2 ys) ∧ ys.length = m.2.length := by
        refine cmpD (enc := P.str) (l := m.2) (S' := [o1]) rfl (by omega) (fun pre acc S => ∃ o2, S = [o2] ∧ Pool o2 ∧ All2 (VK (comeOf b ks) (d + 6)) pre acc) ⟨o1, rfl, ho1, .nil⟩ ?_ fun ys S hl ⟨o2, h⟩ => ⟨⟨o2, h⟩, hl⟩
        rintro pre f post acc S hl ha ⟨o2, rfl, ho2, hall⟩
        have hf : f ∈ ks := hfs f (by rw [hl]; simp)
        obtain ⟨x, o3, e3, ho3, hx⟩ := hvr b kvs ks f hb hp hf [o2] 0 o2 rfl ho2
        simp only [xgN, bind_okE, wipeE, List.set_cons_zero, List.set_cons_succ, xCallV, xCons, xNil, xVar0, xVarS, x2, xP, vSub, hd1, e3]
        exact .ok ⟨x, rfl, o3, rfl, ho3, hall.snoc hx⟩
      refine retE (d := .p (.tup (.str m.1 :: ys))) (S' := [o2]) ?_ ⟨_, o2, rfl, rfl, ho2, ?_⟩
      · have h5 : ys.length ≤ 4 := by omega
        simp only [x2, xTup, xCons, xNil, xVar0, xVarS, bind_okE, allP, List.length_cons, List.length_nil, sizeLine_val, Nat.reduceAdd, Nat.reduceLeDiff, if_true, x1, xRo, e2, vTupRo]
        show (if [P.str m.1].length + ys.length ≤ sizeLine then R.ok (Cw.D.p (P.tup ([P.str m.1] ++ ys))) [o2] else R.no : R Cw.D) = _
        rw [if_pos (by rw [sizeLine_val, List.length_singleton]; omega)]
        rfl
      · have : d + 1 + 6 = (d + 6) + 1 := by omega
        rw [this]
        exact .inr ⟨m, hm2, ys, rfl, ha⟩
theorem value_ok {T : List Fd} {i jn jc jm : Nat} (h : T[i]? = some (f_law_value i jn jc jm)) : ∀ (d k : Nat), d ≤ k → (∀ k', NextOk (runT T (k' + 1)) jn) → (∀ k', ComeRun (runT T (k' + 1)) jc) → (∀ k', NumRun (runT T (k' + 2)) jm) → ValRun (runT T (k + 3)) i d
  | d, k, hk, hn, hc, hm => fun b kvs ks z hb hp hz => by
    refine takes_of (mk := fun q => [.p (encB b), .p (.dic kvs), .p (.str z), q, .p (.int d)]) ⟨fun n => rfl, fun n => by simp [numOf]⟩ (fun _ h => h.live) h rfl fun o ho => body_value (runT T (k + 2)) (hn (k + 1)) (hc (k + 1)) (hm k) d (fun d' e => ?_) hb hp hz ho
    subst e
    cases k with
    | zero => omega
    | succ k => exact value_ok h d' k (by omega) hn hc hm
end Gs
set_option Elab.async false
set_option linter.all false
set_option maxRecDepth 100000
set_option maxHeartbeats 4000000
namespace Gs
open Cw L2
open PySem hiding Run

/-! ### spots -/
abbrev Spot := List (Str × Nat)
def encT (s : Str × Nat) : P := .tup [.str s.1, .int s.2]
def encS (s : Spot) : P := .tup (s.map encT)
/-- the part at a spot: None where the value hasn't it (nothing where a number is beyond) -/
def partX : P → Spot → Option P
  | v, [] => some v
  | .tup (.str n :: vs), (m, i) :: r => if n = m then (vs[i]?).bind fun w => partX w r else some .non
  | .int _, _ :: _ => some .non
  | _, _ :: _ => none
/-- a value by its form, at most so deep -/
def VF : Nat → P → Prop
  | 0, x => ∃ i : Int, x = .int i
  | d + 1, x => (∃ i : Int, x = .int i) ∨ ∃ n ys, x = .tup (.str n :: ys) ∧ ys.length ≤ 4 ∧ ∀ y ∈ ys, VF d y
theorem VK.vf {C : Come} (h4 : ∀ z, ∀ m ∈ C z, m.2.length ≤ 4) : ∀ {d : Nat} {z : Str} {x : P}, VK C d z x → VF d x
  | 0, _, _, ⟨_, i, e⟩ => ⟨i, e⟩
  | d + 1, _, _, .inl ⟨_, i, e⟩ => .inl ⟨i, e⟩
  | d + 1, z, _, .inr ⟨m, hm, ys, e, a⟩ => .inr ⟨m.1, ys, e, by rw [← a.length]; exact h4 z m hm, fun y hy => by
    obtain ⟨f, _, r⟩ := a.mem hy
    exact VK.vf h4 r⟩
theorem VF.int {d : Nat} (i : Int) : VF d (.int i) := by
  cases d with
  | zero => exact ⟨i, rfl⟩
  | succ d => exact .inl ⟨i, rfl⟩
theorem VF.mono {d e : Nat} {x : P} (h : d ≤ e) (v : VF d x) : VF e x := by
  induction d generalizing e x with
  | zero => obtain ⟨i, rfl⟩ := v; exact .int i
  | succ d ih =>
    rcases v with ⟨i, rfl⟩ | ⟨n, ys, rfl, h4, hy⟩
    · exact .int i
    · cases e with
      | zero => omega
      | succ e => exact .inr ⟨n, ys, rfl, h4, fun y hh => ih (by omega) (hy y hh)⟩
theorem VF.part {d : Nat} {v x : P} (h : VF d v) : ∀ {s : Spot}, partX v s = some x → x = .non ∨ VF d x := by
  intro s
  induction s generalizing v d with
  | nil => intro e; cases e; exact .inr h
  | cons q r ih =>
    obtain ⟨m, i⟩ := q
    intro e
    cases d with
    | zero => obtain ⟨j, rfl⟩ := h; cases e; exact .inl rfl
    | succ d =>
      rcases h with ⟨j, rfl⟩ | ⟨n, ys, rfl, h4, hy⟩
      · cases e; exact .inl rfl
      · unfold partX at e
        split at e
        · obtain ⟨w, hw, e⟩ := Option.bind_eq_some_iff.mp e
          exact (ih (hy w (List.mem_of_getElem? hw)) e).imp id (VF.mono (Nat.le_succ d))
        · cases e; exact .inl rfl
theorem isi_tup (xs : List P) (S : Sto) : ((tyN (.p (.tup xs)) S).bind fun t => kitB t "tuple") = some true := rfl
theorem isi_int (i : Int) (S : Sto) : ((tyN (.p (.int i)) S).bind fun t => kitB t "tuple") = some false := rfl
theorem isi_non (S : Sto) : ((tyN (.p .non) S).bind fun t => kitB t "tuple") = some false := rfl
theorem vIx0 (x : P) (xs : List P) (S : Sto) : gIx (.p (.tup (x :: xs))) (.p (.int 0)) S = .ok (.p x) S := vIxT S (by omega) rfl
theorem vNeS (x z : Str) (S : Sto) : gEqB true (.p (.str x)) (.p (.str z)) S = .ok (.p (.bl (!decide (x = z)))) S := by
  simp only [gEqB, nowP, P.dep, Nat.zero_le, and_self, if_true, eqv_str]
theorem vIxPart {n : Str} {vs : List P} {i : Nat} {w : P} (h : vs[i]? = some w) (S : Sto) : gIx (.p (.tup (.str n :: vs))) (.p (.int ((i : Int) + 1))) S = .ok (.p w) S :=
  vIxT S (by omega) (by rw [show ((i : Int) + 1).toNat = i + 1 by omega]; simpa using h)
theorem loop_part : ∀ (s : Spot) {v x : P} (s0 : P) (v2 v3 : Option D) (xs0 : List P), partX v s = some x →
    ((forL (gTp 2 (gsCons (gN 2) (gsCons (gN 3) gsNil))) (sSeq (sIf (cOr (cNot (cTru (cIsi "tuple" (cVar 0)))) (cT (c2 (gEqB true) (c2 gIx (cVar 0) (cP (.int 0))) (cVar 2))))
    (sRet (cP .non))
    sNil)
  (sAsg (c2 gIx (cVar 0) (c2 gAdd (cVar 3) (cP (.int 1)))) (gN 0))) none xs0 (s.map encT) [some (.p v), some (.p s0), v2, v3] []).bind fun f S1 => match f with | .nx ρ1 => sRet (cVar 0) ρ1 S1 | f => .ok f S1) = .ok (.rt (.p x)) [] := by
  intro s
  induction s with
  | nil => intro v x s0 v2 v3 xs0 e; cases e; rfl
  | cons q r ih =>
    intro v x s0 v2 v3 xs0 e
    obtain ⟨m, i⟩ := q
    rw [List.map_cons]
    have e0 : gTp 2 (gsCons (gN 2) (gsCons (gN 3) gsNil)) (.p (encT (m, i))) [some (.p v), some (.p s0), v2, v3] [] = .ok [some (.p v), some (.p s0), some (.p (.str m)), some (.p (.int i))] [] := rfl
    cases v with
    | int j =>
      cases e
      rw [forL_ret (d := .p .non) (S' := []) (by
        unfold turnF
        rw [e0]
        simp only [bind_okE, xSeq, xSIf, xOr, xNot, xTru, xIsi, xVar0, isi_int, truD, Bool.not_false, if_true, xRet, xP])]
      rfl
    | tup ys =>
      cases ys with
      | nil => cases e
      | cons y vs =>
        cases y with
        | str n =>
          unfold partX at e
          by_cases h : n = m
          · rw [if_pos h] at e
            obtain ⟨w, hw, e⟩ := Option.bind_eq_some_iff.mp e
            have e2 := vIxPart (n := n) hw []
            rw [forL_next (ρ' := [some (.p w), some (.p s0), some (.p (.str m)), some (.p (.int i))]) (S' := []) (by
              unfold turnF
              rw [e0]
              simp only [bind_okE, xSeq, xSIf, xOr, xNot, xTru, xIsi, xVar0, isi_tup, truD, Bool.not_true, Bool.false_eq_true, if_false, xT, x2, xP, vIx0, xVarS, vNeS, h, decide_true, xbT, xSNil, xAsg, vAdd, xgN, List.set_cons_zero]
              rw [show gIx (.p (.tup (.str m :: vs))) (.p (.int ((i : Int) + 1))) [] = .ok (.p w) [] from by rw [← h]; exact e2]
              rfl)]
            exact ih s0 _ _ xs0 e
          · rw [if_neg h] at e
            cases e
            rw [forL_ret (d := .p .non) (S' := []) (by
              unfold turnF
              rw [e0]
              simp only [bind_okE, xSeq, xSIf, xOr, xNot, xTru, xIsi, xVar0, isi_tup, truD, Bool.not_true, Bool.false_eq_true, if_false, xT, x2, xP, vIx0, xVarS, vNeS, h, decide_false, Bool.not_false, xbT, if_true, xRet])]
            rfl
        | _ => cases e
    | _ => cases e
def PartRun (run : Run) (i : Nat) : Prop := ∀ v s x, partX v s = some x → Tells run i [v, encS s] x
theorem part_ok {T : List Fd} {k i : Nat} (h : T[i]? = some f_part_at) : PartRun (runT T (k + 1)) i := fun v s x e => by
  refine tells_of h rfl ⟨.rt (.p x), [], ?_, rfl⟩
  exact loop_part s (encS s) none none (s.map encT) e
/-! ### numbers at spots -/
def encO : Option Spot → P
  | none => .non
  | some s => encS s
/-- the number at a spot; nothing told where the walk goes beyond -/
def numX (v : P) : Option Spot → Option (Option Int)
  | none => some (some 0)
  | some s => match partX v s with
    | some (.int i) => some (some i)
    | some .non => some none
    | some (.tup _) => some none
    | _ => none
def encI : Option Int → P
  | none => .non
  | some i => .int i
def NumAtRun (run : Run) (i : Nat) : Prop := ∀ v p x, numX v p = some x → Tells run i [v, encO p] (encI x)
theorem isN_encS (s : Spot) : isN (.p (encS s)) = false := rfl
theorem num_at_ok {T : List Fd} {k i ip : Nat} (h : T[i]? = some (f_number_at ip)) (hp : PartRun (runT T k) ip) : NumAtRun (runT T (k + 1)) i := fun v p x e => by
  refine tells_of h rfl ?_
  show Nd (b_number_at ip (runT T k) [some (.p v), some (.p (encO p)), none] []) _
  cases p with
  | none =>
    cases e
    exact seqT (S' := []) rfl (seqRetE rfl rfl)
  | some s =>
    refine seqF (S' := []) rfl (seqNil ?_)
    simp only [numX] at e
    have key : ∀ y, partX v s = some y → Nd (sSeq (sAsg (cCallV true (runT T k) ip (cCons (cVar 0) (cCons (cVar 1) cNil))) (gN 2)) (sSeq (sIf (cTru (cIsi "tuple" (cVar 2))) (sRet (cP .non)) sNil) (sRet (cVar 2))) [some (.p v), some (.p (encS s)), none] []) (fun f S' => f = .rt (.p (match y with | .tup _ => .non | y => y))) ∨ ∀ xs, y ≠ .tup xs ∧ y ≠ .non ∧ ∀ i, y ≠ .int i := fun y hy => by
      have ec := hp v s y hy []
      by_cases hq : (∃ xs, y = .tup xs) ∨ y = .non ∨ ∃ i, y = .int i
      · left
        refine asgE (d := .p y) (S' := []) (by simp only [xCallV, xCons, xNil, xVar0, xVarS, bind_okE]; exact ec) ?_
        rcases hq with ⟨xs, rfl⟩ | rfl | ⟨i, rfl⟩
        · exact seqT (S' := []) rfl (seqRetE rfl rfl)
        · exact seqF (S' := []) rfl (seqNil (retE rfl rfl))
        · exact seqF (S' := []) rfl (seqNil (retE rfl rfl))
      · right
        exact fun xs => ⟨fun e => hq (.inl ⟨xs, e⟩), fun e => hq (.inr (.inl e)), fun i e => hq (.inr (.inr ⟨i, e⟩))⟩
    split at e
    · rename_i j hy
      cases e
      rcases key _ hy with ⟨f, S', e, rfl⟩ | q
      · exact ⟨_, S', e, rfl⟩
      · exact absurd rfl ((q []).2.2 j)
    · rename_i hy
      cases e
      rcases key _ hy with ⟨f, S', e, rfl⟩ | q
      · exact ⟨_, S', e, rfl⟩
      · exact absurd rfl ((q []).2.1)
    · rename_i xs hy
      cases e
      rcases key _ hy with ⟨f, S', e, rfl⟩ | q
      · exact ⟨_, S', e, rfl⟩
      · exact absurd rfl ((q xs).1)
    · cases e
/-! ### tests -/
inductive Tst where
  | is (s : Spot) (m : Str) | most (p q : Option Spot) (d : Int)
def encTst : Tst → P
  | .is s m => .tup [.str ("is" : Str), encS s, .str m]
  | .most p q d => .tup [.str ("most" : Str), encO p, encO q, .int d]
def headIs (m : Str) : P → Bool
  | .tup (.str n :: _) => decide (n = m)
  | _ => false
def numLe : Option Int → Option Int → Int → Bool
  | some a, some b, d => decide (a ≤ b + d)
  | _, _, _ => false
def holdX (v : P) : Tst → Option Bool
  | .is s m => match partX v s with
    | some (.tup (.str n :: _)) => some (decide (n = m))
    | some (.int _) => some false
    | some .non => some false
    | _ => none
  | .most p q d => match numX v p, numX v q with
    | some a, some b => some (numLe a b d)
    | _, _ => none
def HoldRun (run : Run) (i : Nat) : Prop := ∀ v t b, holdX v t = some b → Tells run i [v, encTst t] (.bl b)
theorem most_is : decide (("most" : Str) = ("is" : Str)) = false := by decide +kernel
theorem hold_ok {T : List Fd} {k i ip jn : Nat} (h : T[i]? = some (f_holds jn ip)) (hp : PartRun (runT T k) ip) (hn : NumAtRun (runT T k) jn) : HoldRun (runT T (k + 1)) i := fun v t b e => by
  refine tells_of h rfl ?_
  show Nd (b_holds jn ip (runT T k) [some (.p v), some (.p (encTst t)), none, none, none] []) _
  cases t with
  | is s m =>
    refine seqT (S' := []) (by simp only [xT, x2, xVar0, xVarS, xP, bind_okE, encTst, vIx0, vEqS]; rfl) ?_
    have e1 : ∀ S, gIx (.p (encTst (.is s m))) (.p (.int 1)) S = .ok (.p (encS s)) S := fun S => vIxT S (by omega) rfl
    have e2 : ∀ S, gIx (.p (encTst (.is s m))) (.p (.int 2)) S = .ok (.p (.str m)) S := fun S => vIxT S (by omega) rfl
    have fin : ∀ y, partX v s = some y → (∀ z, Nd (cAndV (cIsi "tuple" (cVar 2)) (c2 (gEqB false) (c2 gIx (cVar 2) (cP (.int 0))) (c2 gIx (cVar 1) (cP (.int 2)))) [some (.p v), some (.p (encTst (.is s m))), some (.p y), none, none] []) (fun d S' => toldN 0 (.rt d) S' = some z) → Nd (sSeq (sSeq (sAsg (cCallV true (runT T k) ip (cCons (cVar 0) (cCons (c2 gIx (cVar 1) (cP (.int 1))) cNil))) (gN 2))
        (sRet (cAndV (cIsi "tuple" (cVar 2)) (c2 (gEqB false) (c2 gIx (cVar 2) (cP (.int 0))) (c2 gIx (cVar 1) (cP (.int 2)))))))
        (sSeq (sAsg (cCallV true (runT T k) jn (cCons (cVar 0) (cCons (c2 gIx (cVar 1) (cP (.int 1))) cNil))) (gN 3))
        (sSeq (sAsg (cCallV true (runT T k) jn (cCons (cVar 0) (cCons (c2 gIx (cVar 1) (cP (.int 2))) cNil))) (gN 4))
        (sRet (cAndV (c2 (gIs true) (cVar 3) (cP .non)) (cAndV (c2 (gIs true) (cVar 4) (cP .non)) (c2 gLe (cVar 3) (c2 gAdd (cVar 4) (c2 gIx (cVar 1) (cP (.int 3)))))))))) [some (.p v), some (.p (encTst (.is s m))), none, none, none] []) fun f S' => toldN 0 f S' = some z) := fun y hy z hz => by
      refine seqSeq (asgE (d := .p y) (S' := []) (by
        simp only [xCallV, xCons, xNil, xVar0, xVarS, bind_okE, x2, xP, e1]; exact hp v s y hy []) (seqRet hz))
    simp only [holdX] at e
    split at e
    · rename_i n xs hy
      cases e
      refine fin _ hy _ ?_
      simp only [xAndV, xIsi, xVar0, xVarS, bind_okE, isi_tup, xbT, if_true, x2, xP, vIx0, e2, vEqS]
      exact .ok rfl
    · rename_i j hy
      cases e
      refine fin _ hy _ ?_
      simp only [xAndV, xIsi, xVar0, xVarS, bind_okE, isi_int, xbT, Bool.false_eq_true, if_false]
      exact .ok rfl
    · rename_i hy
      cases e
      refine fin _ hy _ ?_
      simp only [xAndV, xIsi, xVar0, xVarS, bind_okE, isi_non, xbT, Bool.false_eq_true, if_false]
      exact .ok rfl
    · cases e
  | most p q d =>
    refine seqF (S' := []) (by simp only [xT, x2, xVar0, xVarS, xP, bind_okE, encTst, vIx0, vEqS, most_is, xbT]) (seqNil ?_)
    have e1 : ∀ S, gIx (.p (encTst (.most p q d))) (.p (.int 1)) S = .ok (.p (encO p)) S := fun S => vIxT S (by omega) rfl
    have e2 : ∀ S, gIx (.p (encTst (.most p q d))) (.p (.int 2)) S = .ok (.p (encO q)) S := fun S => vIxT S (by omega) rfl
    have e3 : ∀ S, gIx (.p (encTst (.most p q d))) (.p (.int 3)) S = .ok (.p (.int d)) S := fun S => vIxT S (by omega) rfl
    simp only [holdX] at e
    split at e
    · rename_i a b' ha hb
      cases e
      refine asgE (d := .p (encI a)) (S' := []) (by simp only [xCallV, xCons, xNil, xVar0, xVarS, bind_okE, x2, xP, e1]; exact hn v p a ha []) ?_
      refine asgE (d := .p (encI b')) (S' := []) (by simp only [List.set_cons_zero, List.set_cons_succ, xCallV, xCons, xNil, xVar0, xVarS, bind_okE, x2, xP, e2]; exact hn v q b' hb []) ?_
      simp only [List.set_cons_zero, List.set_cons_succ]
      refine retN (J := fun d S' => toldN 0 (.rt d) S' = some (.bl (numLe a b' _))) ?_ fun d S' h => h
      cases a with
      | none =>
        simp only [xAndV, x2, xVar0, xVarS, xP, bind_okE, encI, vIsnt, isN, Bool.not_true, xbT, Bool.false_eq_true, if_false]
        exact .ok rfl
      | some a =>
        cases b' with
        | none =>
          simp only [xAndV, x2, xVar0, xVarS, xP, bind_okE, encI, vIsnt, isN, Bool.not_true, Bool.not_false, if_true, xbT, Bool.false_eq_true, if_false]
          exact .ok rfl
        | some b' =>
          simp only [xAndV, x2, xVar0, xVarS, xP, bind_okE, encI, vIsnt, isN, Bool.not_false, if_true, xbT, e3, vAdd, vLe]
          exact .ok rfl
    · cases e
/-- a line: its tests, and what is held -/
def FitRun (run : Run) (i : Nat) : Prop := ∀ v (ts : List (Tst × Bool)) h, (∀ t ∈ ts, holdX v t.1 = some t.2) → ts.length ≤ 1000000 → Tells run i [v, .tup [.tup (ts.map fun t => encTst t.1), h]] (.bl (ts.all (·.2)))
theorem fit_ok {T : List Fd} {k i ih : Nat} (h : T[i]? = some (f_fits ih)) (hh : HoldRun (runT T k) ih) : FitRun (runT T (k + 1)) i := fun v ts hl ht hlen => by
  refine tells_of h rfl ?_
  show Nd (b_fits ih (runT T k) [some (.p v), some (.p (.tup [.tup (ts.map fun t => encTst t.1), hl])), none] []) _
  refine retE (d := .p (.bl (ts.all (·.2)))) (S' := []) ?_ rfl
  refine allM (enc := fun t : Tst × Bool => encTst t.1) (l := ts) (·.2) (by simp only [xIt, x2, xVar0, xVarS, xP, bind_okE, vIx0]; rfl) (by omega) fun t htt => ⟨_, rfl, ?_⟩
  have := hh v t.1 t.2 (ht t htt) []
  simp only [wipeE, List.set_cons_zero, List.set_cons_succ, xCallV, xCons, xNil, xVar0, xVarS, bind_okE]
  exact this
theorem contrary_ok {T : List Fd} {k i : Nat} (h : T[i]? = some f_contrary) (p q : Option Spot) (d : Int) : Tells (runT T (k + 1)) i [encTst (.most p q d)] (encTst (.most q p (-d - 1))) := by
  refine tells_of h rfl ?_
  show Nd (b_contrary (runT T k) [some (.p (encTst (.most p q d)))] []) _
  have e1 : ∀ S, gIx (.p (encTst (.most p q d))) (.p (.int 1)) S = .ok (.p (encO p)) S := fun S => vIxT S (by omega) rfl
  have e2 : ∀ S, gIx (.p (encTst (.most p q d))) (.p (.int 2)) S = .ok (.p (encO q)) S := fun S => vIxT S (by omega) rfl
  have e3 : ∀ S, gIx (.p (encTst (.most p q d))) (.p (.int 3)) S = .ok (.p (.int d)) S := fun S => vIxT S (by omega) rfl
  refine retE (d := .p (encTst (.most q p (-d - 1)))) (S' := []) ?_ rfl
  simp only [xTup, xCons, xNil, xP, x2, xVar0, bind_okE, e1, e2, xNeg, e3, vSub, allP, List.length_cons, List.length_nil, sizeLine_val, Nat.reduceAdd, Nat.reduceLeDiff, if_true]
  rfl
end Gs
set_option Elab.async false
set_option linter.all false
set_option maxRecDepth 100000
set_option maxHeartbeats 4000000
namespace Gs
open Cw L2
open PySem hiding Run

/-! ### shapes -/
inductive Shp
  | any
  | num (lo hi : Option Int)
  | make (n : Str) (ss : List Shp)
  | held (n : Str) (s : Shp)
  | either (ss : List Shp)
def encOI : Option Int → P
  | none => .non
  | some i => .int i
mutual
def encZ : Shp → P
  | .any => .tup [.str "any"]
  | .num lo hi => .tup [.str "num", encOI lo, encOI hi]
  | .make n ss => .tup [.str "make", .str n, .tup (encZs ss)]
  | .held n s => .tup [.str "held", .str n, encZ s]
  | .either ss => .tup [.str "either", .tup (encZs ss)]
def encZs : List Shp → List P
  | [] => []
  | s :: r => encZ s :: encZs r
end
theorem encZs_eq : ∀ ss : List Shp, encZs ss = ss.map encZ
  | [] => rfl
  | s :: r => by rw [encZs, encZs_eq r]; rfl
/-- parts for fields: what they hold, how many lines they have at most -/
inductive FmL (F : Str → List (Str × Str) → Nat → Shp → Prop) : List Str → List (Str × Str) → Nat → List Shp → Prop
  | nil : FmL F [] [] 1 []
  | cons {f : Str} {h1 h2 : List (Str × Str)} {u1 u2 : Nat} {s : Shp} {fs : List Str} {ss : List Shp} : F f h1 u1 s → FmL F fs h2 u2 ss → FmL F (f :: fs) (h1 ++ h2) (u1 * u2) (s :: ss)
theorem FmL.imp {F F' : Str → List (Str × Str) → Nat → Shp → Prop} (h : ∀ f hl u s, F f hl u s → F' f hl u s) : ∀ {fs hl u ss}, FmL F fs hl u ss → FmL F' fs hl u ss
  | _, _, _, _, .nil => .nil
  | _, _, _, _, .cons a t => .cons (h _ _ _ _ a) (t.imp h)
theorem FmL.snoc {F : Str → List (Str × Str) → Nat → Shp → Prop} {f : Str} {h1 : List (Str × Str)} {u1 : Nat} {s : Shp} (a : F f h1 u1 s) : ∀ {fs hl u ss}, FmL F fs hl u ss → FmL F (fs ++ [f]) (hl ++ h1) (u * u1) (ss ++ [s])
  | _, _, _, _, .nil => by
    have := FmL.cons a .nil
    rw [List.append_nil, Nat.mul_one] at this
    rw [Nat.one_mul]; exact this
  | _, _, _, _, .cons b t => by
    have := FmL.cons b (t.snoc a)
    rw [← List.append_assoc, ← Nat.mul_assoc] at this
    exact this
theorem FmL.length {F : Str → List (Str × Str) → Nat → Shp → Prop} : ∀ {fs hl u ss}, FmL F fs hl u ss → fs.length = ss.length
  | _, _, _, _, .nil => rfl
  | _, _, _, _, .cons _ t => congrArg (· + 1) t.length
/-- a shape of a kind, at most so deep: what it holds, how many lines it has at most -/
def Fm (b : List Kd) : Nat → Str → List (Str × Str) → Nat → Shp → Prop
  | 0, _, _, _, _ => False
  | d + 1, z, hl, u, s => match s with
    | .any => hl = [] ∧ u = 1
    | .num _ _ => z = num ∧ hl = [] ∧ u = 1
    | .held n s => ∃ h2, hl = (n, z) :: h2 ∧ Fm b d z h2 u s
    | .make n ss => ∃ fs, (n, fs) ∈ mkOf b z ∧ FmL (Fm b d) fs hl u ss
    | .either ss => ss ≠ [] ∧ ∃ us : List Nat, u = us.sum ∧ All2 (fun s w => Fm b d z hl w s) ss us
theorem All2.imp_mem {α β : Type} {R R' : α → β → Prop} : ∀ {as : List α} {bs : List β}, All2 R as bs → (∀ a b, a ∈ as → R a b → R' a b) → All2 R' as bs
  | _, _, .nil, _ => .nil
  | _, _, .cons r t, h => .cons (h _ _ List.mem_cons_self r) (t.imp_mem fun a b ha => h a b (List.mem_cons_of_mem _ ha))
theorem Fm.mono {b : List Kd} : ∀ {d e : Nat} {z : Str} {hl : List (Str × Str)} {u : Nat} {s : Shp}, d ≤ e → Fm b d z hl u s → Fm b e z hl u s
  | 0, _, _, _, _, _, _, h => h.elim
  | d + 1, 0, _, _, _, _, h, _ => absurd h (Nat.not_succ_le_zero _)
  | d + 1, e + 1, z, hl, u, s, h, v => by
    have h := Nat.le_of_succ_le_succ h
    cases s with
    | any => exact v
    | num lo hi => exact v
    | held n s => obtain ⟨h2, e1, w⟩ := v; exact ⟨h2, e1, Fm.mono h w⟩
    | make n ss => obtain ⟨fs, hm, w⟩ := v; exact ⟨fs, hm, w.imp fun _ _ _ _ => Fm.mono h⟩
    | either ss => obtain ⟨hne, us, e1, w⟩ := v; exact ⟨hne, us, e1, w.imp fun _ _ => Fm.mono h⟩
/-- drawn with so much room and these names -/
def Dr (b : List Kd) (z : Str) (d : Nat) (r : Nat) (ns : List Str) (s : Shp) (r' : Nat) (ns' : List Str) : Prop := ∃ hl u, Fm b d z hl u s ∧ 1 ≤ r' ∧ u * r' ≤ r ∧ hl.map (·.1) ++ ns' = ns
def Kn (b : List Kd) (z : Str) : Prop := z = num ∨ z ∈ b.map (·.1)
def rmO (r : Nat) : Ob := .lst [.int r]
def nmO (ns : List Str) : Ob := .lst (ns.map .str)
/-- how deep -/
def dmx (m : Bool) (d : Nat) : Nat := if m then d + 3 else d + 1

/-! ### a call with three things of the store -/
structure Mk3 (mk : D → D → D → List D) : Prop where
  refs : ∀ a b c : Nat, a ≠ b → a ≠ c → b ≠ c → refsOf (mk (.ref a) (.ref b) (.ref c)) = [a, b, c]
  num : ∀ a b c : Nat, a ≠ b → a ≠ c → b ≠ c → (mk (.ref a) (.ref b) (.ref c)).map (numOf [a, b, c]) = mk (.ref 0) (.ref 1) (.ref 2)
theorem take3 {S2 S' : Sto} {b1 b2 b3 : Ob} (h : S2.take 3 = S'.take 3) (h0 : S'[0]? = some b1) (h1 : S'[1]? = some b2) (h2 : S'[2]? = some b3) : ∃ G, S2 = b1 :: b2 :: b3 :: G := by
  have g : ∀ j, j < 3 → S2[j]? = S'[j]? := fun j hj => by
    have := congrArg (fun l => l[j]?) h
    simpa [List.getElem?_take, hj] using this
  have a0 := (g 0 (by omega)).trans h0
  have a1 := (g 1 (by omega)).trans h1
  have a2 := (g 2 (by omega)).trans h2
  match S2, a0, a1, a2 with
  | [], a0, _, _ => simp at a0
  | [_], _, a1, _ => simp at a1
  | [_, _], _, _, a2 => simp at a2
  | x :: y :: w :: G, a0, a1, a2 =>
    simp at a0 a1 a2
    exact ⟨G, by rw [a0, a1, a2]⟩
theorem call3 {T : List Fd} {k i : Nat} {fd : Fd} {mk : D → D → D → List D} (hmk : Mk3 mk) (h : T[i]? = some fd) (hl : (mk (.ref 0) (.ref 1) (.ref 2)).length = fd.ps.length) {a1 a2 a3 : Ob} {Q : P → Ob → Ob → Ob → Prop}
    (hb : Nd (fd.B (runT T k) (startE fd.N.length (mk (.ref 0) (.ref 1) (.ref 2))) [a1, a2, a3]) fun f S' => ∃ x b1 b2 b3, toldN 3 f S' = some x ∧ S'[0]? = some b1 ∧ S'[1]? = some b2 ∧ S'[2]? = some b3 ∧ isGone b1 = false ∧ isGone b2 = false ∧ isGone b3 = false ∧ Q x b1 b2 b3)
    {S : Sto} {n1 n2 n3 : Nat} (h12 : n1 ≠ n2) (h13 : n1 ≠ n3) (h23 : n2 ≠ n3) (g1 : S[n1]? = some a1) (g2 : S[n2]? = some a2) (g3 : S[n3]? = some a3) :
    ∃ x b1 b2 b3, callV true (runT T (k + 1)) i (mk (.ref n1) (.ref n2) (.ref n3)) S = .ok (.p x) (((S.set n1 b1).set n2 b2).set n3 b3) ∧ Q x b1 b2 b3 := by
  obtain ⟨f, S', e, x, b1, b2, b3, q, p1, p2, p3, l1, l2, l3, hx⟩ := hb
  have hlen := get_lt p3
  obtain ⟨d, S2, e2, e4, e3⟩ := told_leave q (by omega) [n1, n2, n3] rfl (((S.set n1 b1).set n2 b2).set n3 b3)
  have er : runT T (k + 1) i (mk (.ref 0) (.ref 1) (.ref 2)) [a1, a2, a3] = .ok d S2 := by
    rw [runS h hl, e]; exact e2
  obtain ⟨G, rfl⟩ := take3 e4 p1 p2 p3
  refine ⟨x, b1, b2, b3, ?_, hx⟩
  rw [callG (hmk.refs n1 n2 n3 h12 h13 h23) (S0 := [a1, a2, a3]) (by simp [getsOf, g1, g2, g3]) (hmk.num n1 n2 n3 h12 h13 h23) er (S' := ((S.set n1 b1).set n2 b2).set n3 b3) (by simp [putsOf, l1, l2, l3])]
  exact e3
theorem mk3_sh (x y w : P) : Mk3 fun a b c => [.p x, .p y, a, .p w, b, c] := ⟨fun a b c h1 h2 h3 => by simp [refsOf, h1, h2, h3, Ne.symm h1, Ne.symm h2, Ne.symm h3], fun a b c h1 h2 h3 => by
  have e1 : (a == b) = false := by simpa using h1
  have e2 : (a == c) = false := by simpa using h2
  have e3 : (b == c) = false := by simpa using h3
  simp [numOf, List.idxOf_cons, e1, e2, e3]⟩
theorem mk3_ho (x y : P) : Mk3 fun a b c => [.p x, .p y, a, b, c] := ⟨fun a b c h1 h2 h3 => by simp [refsOf, h1, h2, h3, Ne.symm h1, Ne.symm h2, Ne.symm h3], fun a b c h1 h2 h3 => by
  have e1 : (a == b) = false := by simpa using h1
  have e2 : (a == c) = false := by simpa using h2
  have e3 : (b == c) = false := by simpa using h3
  simp [numOf, List.idxOf_cons, e1, e2, e3]⟩
/-- what a call does that draws a shape -/
def Sh3 (b : List Kd) (z : Str) (dp : Nat) (ok : Nat → List Str → Prop) (run : Run) (i : Nat) (mk : D → D → D → List D) : Prop :=
  ∀ (S : Sto) (n1 n2 n3 : Nat) (o : Ob) (r : Nat) (ns : List Str), n1 ≠ n2 → n1 ≠ n3 → n2 ≠ n3 → S[n1]? = some o → Pool o → S[n2]? = some (rmO r) → S[n3]? = some (nmO ns) → 1 ≤ r → ns.length ≤ 1000 → ok r ns →
    ∃ s o' r' ns', callV true run i (mk (.ref n1) (.ref n2) (.ref n3)) S = .ok (.p (encZ s)) (((S.set n1 o').set n2 (rmO r')).set n3 (nmO ns')) ∧ Pool o' ∧ Dr b z dp r ns s r' ns'
/-- what the body of such a def does -/
def Bd3 (b : List Kd) (z : Str) (dp : Nat) (r : Nat) (ns : List Str) (f : Fl) (S' : Sto) : Prop := ∃ s o' r' ns' G, f = .rt (.p (encZ s)) ∧ S' = o' :: rmO r' :: nmO ns' :: G ∧ Pool o' ∧ Dr b z dp r ns s r' ns'
theorem sh3_of {T : List Fd} {k i : Nat} {fd : Fd} {mk : D → D → D → List D} (hmk : Mk3 mk) (h : T[i]? = some fd) (hl : (mk (.ref 0) (.ref 1) (.ref 2)).length = fd.ps.length) {b : List Kd} {z : Str} {dp : Nat} {ok : Nat → List Str → Prop}
    (hb : ∀ o r ns, Pool o → 1 ≤ r → ns.length ≤ 1000 → ok r ns → Nd (fd.B (runT T k) (startE fd.N.length (mk (.ref 0) (.ref 1) (.ref 2))) [o, rmO r, nmO ns]) (Bd3 b z dp r ns)) : Sh3 b z dp ok (runT T (k + 1)) i mk := by
  intro S n1 n2 n3 o r ns h12 h13 h23 g1 ho g2 g3 hr hn hok
  obtain ⟨x, b1, b2, b3, e, s, r', ns', rfl, e1, e2, e3, e4⟩ := call3 hmk h hl (Q := fun x b1 b2 b3 => ∃ s r' ns', x = encZ s ∧ Pool b1 ∧ b2 = rmO r' ∧ b3 = nmO ns' ∧ Dr b z dp r ns s r' ns') ((hb o r ns ho hr hn hok).mono (by
    rintro f S' ⟨s, o', r', ns', G, rfl, rfl, ho', hd⟩
    exact ⟨encZ s, o', rmO r', nmO ns', rfl, rfl, rfl, rfl, ho'.live, rfl, rfl, s, r', ns', rfl, ho', rfl, rfl, hd⟩)) h12 h13 h23 g1 g2 g3
  subst e2 e3
  exact ⟨s, b1, r', ns', e, e1, e4⟩
end Gs
set_option Elab.async false
set_option linter.all false
set_option maxRecDepth 100000
set_option maxHeartbeats 4000000
namespace Gs
open Cw L2
open PySem hiding Run

/-! ### stretches, free names -/
def StrRun (run : Run) (i : Nat) : Prop := Takes Pool run i (fun d => [d]) fun x => ∃ lo hi, x = encZ (.num lo hi)
theorem pow29 : ((10 : Int) ^ (29 : Int).toNat) = 100000000000000000000000000000 := by decide +kernel
theorem pickO (a : Int) (c : Bool) (S : Sto) : gIx (.p (.ro [.int a, .non])) (.p (.int (if c then 1 else 0))) S = .ok (.p (encOI (if c then none else some a))) S := by
  cases c
  · exact vIxRo S (by omega) rfl
  · exact vIxRo S (by omega) rfl
theorem body_stretch (run : Run) {jn jm : Nat} (hn : NextOk run jn) (hm : NumRun run jm) {o : Ob} (ho : Pool o) : Nd (b_law_stretch jn jm run [some (.ref 0), none, none, none] [o]) fun f S' => ∃ x o', toldN 1 f S' = some x ∧ S'[0]? = some o' ∧ Pool o' ∧ ∃ lo hi, x = encZ (.num lo hi) := by
  obtain ⟨x, o1, e1, ho1, lo, rfl⟩ := hm [o] 0 o rfl ho
  refine asgE (d := .p (.int lo)) (S' := [o1]) (by simp only [xCallV, xCons, xNil, xVar0, bind_okE]; exact e1) ?_
  simp only [List.set_cons_zero, List.set_cons_succ]
  obtain ⟨d, S', e2, y, o2, hy, rfl, rfl, ho2⟩ := pick0 (tbl := cRo (cLst (cCons (cP (.int 0)) (cCons (cP (.int 0)) (cCons (cP (.int 1)) (cCons (cP (.int 3)) (cCons (cP (.int 40)) (cCons (c2 gPow (cP (.int 10)) (cP (.int 29))) cNil)))))))) (xs := [.int 0, .int 0, .int 1, .int 3, .int 40, .int 100000000000000000000000000000]) (S := []) (ρ := [some (.ref 0), some (.p (.int lo)), none, none]) (o := o1)
    (by simp (disch := omega) only [xRo, xLst, xCons, xNil, xP, x2, bind_okE, vPow, pow29, allP, List.length_cons, List.length_nil, sizeLine_val, Nat.reduceAdd, Nat.reduceLeDiff, if_true]) (hn.d0 (ca := cVar 0) (cb := cP (.int 6)) (base := 6) rfl rfl ho1 (by omega) (by omega))
  obtain ⟨w, rfl⟩ : ∃ w : Int, y = .int w := by
    simp at hy
    rcases hy with h | h | h | h | h <;> exact ⟨_, h⟩
  refine asgE (d := .p (.int (lo + w))) (S' := [o2]) (by rw [x2, xVarS, xVar0, bind_okE, e2, bind_okE, vAdd]) ?_
  simp only [List.set_cons_zero, List.set_cons_succ]
  refine asgN (hn.d0 (base := 6) (S := []) rfl rfl ho2 (by omega) (by omega)) ?_
  rintro d S' ⟨way, o3, rfl, rfl, ho3, hw⟩
  simp only [List.set_cons_zero, List.set_cons_succ]
  refine retE (d := .p (encZ (.num (if decide ((way : Int) < 2) then none else some lo) (if decide ((way : Int) % 3 = 1) then none else some (lo + w))))) (S' := [o3]) ?_ ⟨_, o3, rfl, rfl, ho3, _, _, rfl⟩
  simp (disch := omega) only [xTup, xCons, xNil, xP, bind_okE, x2, xRo, xLst, xVar0, xVarS, x1, allP, List.length_cons, List.length_nil, sizeLine_val, Nat.reduceAdd, Nat.reduceLeDiff, if_true, vLt, vIntB, pickO, vMod, vEqI, encZ]
theorem stretch_ok {T : List Fd} {k i jn jm : Nat} (h : T[i]? = some (f_law_stretch jn jm)) (hn : NextOk (runT T k) jn) (hm : NumRun (runT T k) jm) : StrRun (runT T (k + 1)) i :=
  takes_of ⟨fun n => rfl, fun n => by simp [numOf]⟩ (fun _ h => h.live) h rfl fun o ho => body_stretch (runT T k) hn hm ho
def freeL : List Str := ["x", "xa", "ax", "left", "lefa", "qqqqqqqq", "num", "if"]
def freeOf (b : List Kd) : List Str := freeL.filter fun n => !decide (n ∈ nmsOf b)
theorem body_free (run : Run) {jm : Nat} {b : List Kd} (hm : Tells run jm [encB b] (.ro ((nmsOf b).map .str))) : Nd (b_law_free jm run [some (.p (encB b)), none, none] []) fun f S' => f = .rt (.ref 0) ∧ S' = [nmO (freeOf b)] := by
  have e1 := hm []
  refine asgE (d := .p (.ro ((nmsOf b).map .str))) (S' := []) (by simp only [xCallV, xCons, xNil, xVar0, bind_okE]; exact e1) ?_
  simp only [List.set_cons_zero, List.set_cons_succ]
  refine retE (d := .ref 0) (S' := [nmO (freeOf b)]) ?_ ⟨rfl, rfl⟩
  rw [xTr, cmpF (enc := P.str) (l := freeL) (fun n => !decide (n ∈ nmsOf b)) P.str (by
    simp only [xIt, xRo, xLst, xCons, xNil, xP, bind_okE, allP, List.length_cons, List.length_nil, sizeLine_val, Nat.reduceAdd, Nat.reduceLeDiff, if_true]; rfl) (by simp [freeL])]
  · rfl
  · intro n hn
    refine ⟨_, rfl, ?_, fun _ => rfl⟩
    simp only [xT, x2, wipeE, List.set_cons_zero, List.set_cons_succ, xVar0, xVarS, bind_okE, vInRo, if_true, xbT]
structure FreeRun (run : Run) (i : Nat) (b : List Kd) : Prop where
  tr : ∀ S, callV false run i [.p (encB b)] S = .ok (.ref S.length) (S ++ [nmO (freeOf b)])
  fz : ∀ S, callV true run i [.p (encB b)] S = .ok (.p (.ro ((freeOf b).map .str))) S
theorem free_ok {T : List Fd} {k i jm : Nat} (h : T[i]? = some (f_law_free jm)) {b : List Kd} (hm : Tells (runT T k) jm [encB b] (.ro ((nmsOf b).map .str))) : FreeRun (runT T (k + 1)) i b := by
  obtain ⟨f, S', e, rfl, rfl⟩ := body_free (runT T k) hm
  have er : runT T (k + 1) i ([encB b].map D.p) [] = .ok (.ref 0) [nmO (freeOf b)] := by
    rw [runS h rfl]
    show leave 0 (b_law_free jm (runT T k) [some (.p (encB b)), none, none] []) = _
    rw [e]; rfl
  exact ⟨fun S => callV0 false S er, fun S => callV0l S er rfl⟩
theorem free_len (b : List Kd) : (freeOf b).length ≤ 8 := List.length_filter_le _ _
end Gs
set_option Elab.async false
set_option linter.all false
set_option maxRecDepth 100000
set_option maxHeartbeats 4000000
namespace Gs
open Cw L2
open PySem hiding Run

/-! ### a shape drawn -/
def mkSh (b : List Kd) (z : Str) (d : Nat) : D → D → D → List D := fun a p q => [.p (encB b), .p (.str z), a, .p (.int d), p, q]
def ShM (b : List Kd) (m : Bool) (d : Nat) (run : Run) (i : Nat) : Prop := ∀ z, Kn b z → Sh3 b z (dmx m d) (fun _ ns => m = false → ns = []) run i (mkSh b z d)
def EiM (b : List Kd) (m : Bool) (d : Nat) (run : Run) (i : Nat) : Prop := ∀ z, Kn b z → Sh3 b z (dmx m d) (fun r ns => 1 < r ∧ (m = false → ns = [])) run i (mkSh b z d)
def HoM (b : List Kd) (run : Run) (i : Nat) : Prop := ∀ k ∈ b, Sh3 b k.1 4 (fun r ns => 1 < r ∧ ns ≠ [] ∧ (k.2.any fun m => decide (0 < m.2.length)) = true) run i fun a p q => [.p (.tup (k.2.map encM)), .p (encB b), a, p, q]
theorem dmx_succ (m : Bool) (d : Nat) : dmx m (d + 1) = dmx m d + 1 := by cases m <;> rfl
theorem dmx_pos (m : Bool) (d : Nat) : ∃ e, dmx m d = e + 1 := by cases m <;> exact ⟨_, rfl⟩
theorem find_at {b : List Kd} (hb : BookOk b) {k : Kd} (hk : k ∈ b) : (b.find? fun y => decide (y.1 = k.1)) = some k := by
  cases h : b.find? fun y => decide (y.1 = k.1) with
  | none => exact absurd (List.find?_eq_none.mp h k hk) (by simp)
  | some y =>
    have h1 := List.mem_of_find?_eq_some h
    have h2 := List.find?_some h
    rw [kind_one hb h1 hk (of_decide_eq_true h2)]
theorem vLenNm (a c : Ob) (ns : List Str) (G : Sto) : gLen [.ref 2] (a :: c :: nmO ns :: G) = .ok (.p (.int ns.length)) (a :: c :: nmO ns :: G) := by
  rw [vLenRef (xs := ns.map .str) rfl, List.length_map]
theorem vIxRm (a c : Ob) (r : Nat) (G : Sto) : gIx (.ref 1) (.p (.int 0)) (a :: rmO r :: c :: G) = .ok (.p (.int r)) (a :: rmO r :: c :: G) := vIxRef (xs := [.int r]) rfl (by omega) rfl
theorem tyNm (a c : Ob) (ns : List Str) (G : Sto) : isTy "list" (.ref 2) (a :: c :: nmO ns :: G) = true := by unfold isTy nmO; simp
theorem popNm (a c : Ob) (n : Str) (ns : List Str) (G : Sto) : gPopAt (.ref 2) [.p (.int 0)] (a :: c :: nmO (n :: ns) :: G) = .ok (.p (.str n)) (a :: c :: nmO ns :: G) := vPopAt0 (n := 2) (x := .str n) (xs := ns.map .str) rfl
theorem any_fields {ms : List Mk} (hl : ms.length ≤ 6) (h4 : ∀ m ∈ ms, m.2.length ≤ 4) {ρ : Ev} (hρ : 9 < ρ.length) (h : ρ[8]? = some (some (.p (.tup (ms.map encM))))) (S : Sto) :
    c1 gAny (cCons (cRo (cComp (cIt (cVar 8)) (gN 9) cYes (c2 gGt (c1 gLen (cCons (c2 gIx (cVar 9) (cP (.int 1))) cNil)) (cP (.int 0))) [9])) cNil) ρ S = .ok (.p (.bl (ms.any fun m => decide (0 < m.2.length)))) S := by
  refine anyM (enc := encM) (fun m : Mk => decide (0 < m.2.length)) (by rw [it_at h]) (by omega) fun m hm => ⟨_, rfl, ?_⟩
  have e1 : ∀ S, cVar 9 ((wipeE ρ [9]).set 9 (some (.p (encM m)))) S = .ok (.p (encM m)) S := fun S => by simp [cVar, wipeE, List.getElem?_set, hρ]
  have e2 : ∀ S, gIx (.p (encM m)) (.p (.int 1)) S = .ok (.p (.tup (m.2.map .str))) S := fun S => vIxT S (by omega) rfl
  simp only [x2, x1, xCons, xNil, e1, bind_okE, xP, e2, vLenTup, List.length_map, vGt]
  congr 3
  simp
theorem Dr.any (b : List Kd) (z : Str) (e r : Nat) (ns : List Str) (hr : 1 ≤ r) : Dr b z (e + 1) r ns .any r ns := ⟨[], 1, ⟨rfl, rfl⟩, hr, by omega, rfl⟩
theorem body_shape (run : Run) {ish jn jh js je : Nat} (hn : NextOk run jn) (hs : StrRun run js) {b : List Kd} (hb : BookOk b) (m : Bool) (d : Nat) (hsh : ∀ d', d = d' + 1 → ShM b m d' run ish) (hei : 1 ≤ d → EiM b m d run je) (hho : m = true → HoM b run jh)
    {z : Str} (hz : Kn b z) {o : Ob} (ho : Pool o) {r : Nat} {ns : List Str} (hr : 1 ≤ r) (hlen : ns.length ≤ 1000) (hm : m = false → ns = []) :
    Nd (b_law_shape ish jn jh js je run [some (.p (encB b)), some (.p (.str z)), some (.ref 0), some (.p (.int d)), some (.ref 1), some (.ref 2), none, none, none, none, none, none] [o, rmO r, nmO ns]) (Bd3 b z (dmx m d) r ns) := by
  refine asgN (hn.d0 (base := 11) (S := [rmO r, nmO ns]) rfl rfl ho (by omega) (by omega)) ?_
  rintro _ _ ⟨way, o1, rfl, rfl, ho1, hw⟩
  simp only [List.set_cons_zero, List.set_cons_succ]
  have hany : ∀ v : Option D, Nd (sSeq (sRet (cTup (cCons (cP (.str "any")) cNil))) sNil [] []) fun _ _ => True := fun _ => .ok trivial
  obtain ⟨e0, he0⟩ := dmx_pos m d
  have retAny : ∀ {B : CS} {ρ : Ev}, Nd (sSeq (sRet (cTup (cCons (cP (.str "any")) cNil))) B ρ [o1, rmO r, nmO ns]) (Bd3 b z (dmx m d) r ns) := seqRetE (d := .p (encZ .any)) (S' := [o1, rmO r, nmO ns]) (by
      simp only [xTup, xCons, xNil, xP, bind_okE, allP, List.length_cons, List.length_nil, sizeLine_val, Nat.reduceAdd, Nat.reduceLeDiff, if_true]; rfl) ⟨.any, o1, r, ns, [], rfl, rfl, ho1, he0 ▸ Dr.any b z e0 r ns hr⟩
  by_cases w0 : (way : Int) = 0
  · exact seqT (S' := [o1, rmO r, nmO ns]) (by simp only [xOr, xT, x2, xVar0, xVarS, xP, bind_okE, vEqI, w0, decide_true, xbT, if_true]) retAny
  by_cases d0 : (d : Int) < 1
  · exact seqT (S' := [o1, rmO r, nmO ns]) (by simp only [xOr, xT, x2, xVar0, xVarS, xP, bind_okE, vEqI, w0, decide_false, xbT, if_false, Bool.false_eq_true, vLt, d0, decide_true]) retAny
  refine seqF (S' := [o1, rmO r, nmO ns]) (by simp only [xOr, xT, x2, xVar0, xVarS, xP, bind_okE, vEqI, w0, decide_false, xbT, if_false, Bool.false_eq_true, vLt, d0]) (seqNil ?_)
  obtain ⟨d', rfl⟩ : ∃ d', d = d' + 1 := ⟨d - 1, by omega⟩
  have hd1 : ((d' + 1 : Nat) : Int) - 1 = (d' : Nat) := by omega
  have hsh := hsh d' rfl
  rw [dmx_succ]
  rw [dmx_succ] at he0 retAny
  by_cases w3 : (way : Int) < 3 ∧ ns ≠ []
  · obtain ⟨w3, hne⟩ := w3
    obtain ⟨n, rest, rfl⟩ := List.exists_cons_of_ne_nil hne
    have hm1 : m = true := by
      cases m with
      | true => rfl
      | false => exact absurd (hm rfl) (by simp)
    have hgt : (0 : Int) < ((n :: rest).length : Nat) := by rw [List.length_cons]; omega
    refine seqT (S' := [o1, rmO r, nmO (n :: rest)]) (by simp only [xAnd, xT, x2, x1, xCons, xNil, xVar0, xVarS, xP, bind_okE, vLt, w3, decide_true, xbT, if_true, vLenNm, vGt, hgt]) (seqSeq ?_)
    refine asgE (d := .p (.str n)) (S' := [o1, rmO r, nmO rest]) (by simp only [xM, xVar0, xVarS, bind_okE, tyNm, if_true, xCons, xNil, xP, popNm]) ?_
    simp only [List.set_cons_zero, List.set_cons_succ]
    obtain ⟨s, o2, r2, ns2, e2, ho2, hl, u, hf, h1, h2, h3⟩ := hsh z hz [o1, rmO r, nmO rest] 0 1 2 o1 r rest (by omega) (by omega) (by omega) rfl ho1 rfl rfl hr (by rw [List.length_cons] at hlen; omega) (fun h => by rw [hm1] at h; cases h)
    refine seqRetE (d := .p (encZ (.held n s))) (S' := [o2, rmO r2, nmO ns2]) ?_ ⟨.held n s, o2, r2, ns2, [], rfl, rfl, ho2, (n, z) :: hl, u, ⟨hl, rfl, hf⟩, h1, h2, by rw [List.map_cons, List.cons_append, h3]⟩
    unfold mkSh at e2
    simp only [xTup, xCons, xNil, xP, bind_okE, xVar0, xVarS, xCallV, x2, vSub, hd1, e2, allP, List.length_cons, List.length_nil, sizeLine_val, Nat.reduceAdd, Nat.reduceLeDiff, if_true, encZ]; rfl
  refine seqF (S' := [o1, rmO r, nmO ns]) (by
    by_cases q : (way : Int) < 3
    · have : ns = [] := Classical.byContradiction fun h => w3 ⟨q, h⟩
      subst this
      simp only [xAnd, xT, x2, x1, xCons, xNil, xVar0, xVarS, xP, bind_okE, vLt, q, decide_true, xbT, if_true, vLenNm, vGt]
      rfl
    · simp only [xAnd, xT, x2, x1, xCons, xNil, xVar0, xVarS, xP, bind_okE, vLt, q, decide_false, xbT, if_false, Bool.false_eq_true]) (seqNil ?_)
  by_cases w4 : (way : Int) = 3 ∧ 1 < (r : Int)
  · obtain ⟨w4, h1r⟩ := w4
    refine seqT (S' := [o1, rmO r, nmO ns]) (by simp only [xAnd, xT, x2, x1, xCons, xNil, xVar0, xVarS, xP, bind_okE, vEqI, w4, decide_true, xbT, if_true, vIxRm, vGt, h1r]) ?_
    obtain ⟨s, o2, r2, ns2, e2, ho2, hd⟩ := hei (by omega) z hz [o1, rmO r, nmO ns] 0 1 2 o1 r ns (by omega) (by omega) (by omega) rfl ho1 rfl rfl hr hlen ⟨by omega, hm⟩
    rw [dmx_succ] at hd
    refine seqRetE (d := .p (encZ s)) (S' := [o2, rmO r2, nmO ns2]) ?_ ⟨s, o2, r2, ns2, [], rfl, rfl, ho2, hd⟩
    unfold mkSh at e2
    simp only [xCallV, xCons, xNil, xVar0, xVarS, bind_okE, e2]; rfl
  refine seqF (S' := [o1, rmO r, nmO ns]) (by
    by_cases q : (way : Int) = 3
    · have : ¬ (1 : Int) < r := fun h => w4 ⟨q, h⟩
      simp only [xAnd, xT, x2, x1, xCons, xNil, xVar0, xVarS, xP, bind_okE, vEqI, q, decide_true, xbT, if_true, vIxRm, vGt, this, decide_false]
    · simp only [xAnd, xT, x2, x1, xCons, xNil, xVar0, xVarS, xP, bind_okE, vEqI, q, decide_false, xbT, if_false, Bool.false_eq_true]) (seqNil ?_)
  by_cases zn : z = num
  · subst zn
    refine seqT (S' := [o1, rmO r, nmO ns]) (by simp only [xT, x2, xVar0, xVarS, xP, bind_okE, vEqS]; rfl) ?_
    obtain ⟨x, o2, e2, ho2, lo, hi, rfl⟩ := hs [o1, rmO r, nmO ns] 0 o1 rfl ho1
    refine seqRetE (d := .p (encZ (.num lo hi))) (S' := [o2, rmO r, nmO ns]) ?_ ⟨_, o2, r, ns, [], rfl, rfl, ho2, [], 1, ⟨rfl, rfl, rfl⟩, hr, by omega, rfl⟩
    simp only [xCallV, xCons, xNil, xVar0, xVarS, bind_okE, e2]; rfl
  have zn' : ¬ z = ("num" : Str) := zn
  refine seqF (S' := [o1, rmO r, nmO ns]) (by simp only [xT, x2, xVar0, xVarS, xP, bind_okE, vEqS, zn', decide_false, xbT]) (seqNil ?_)
  obtain ⟨k, hk, rfl⟩ : ∃ k ∈ b, k.1 = z := by
    rcases hz with h | h
    · exact absurd h zn
    · obtain ⟨k, hk, e⟩ := List.mem_map.mp h; exact ⟨k, hk, e⟩
  obtain ⟨hp, h6, hmk⟩ := hb.ok k hk
  refine asgE (d := .p (.tup (k.2.map encM))) (S' := [o1, rmO r, nmO ns]) (by
    rw [x2, dictE hb rfl, bind_okE]
    simp only [xVar0, xVarS, bind_okE]
    exact vIxDic _ rfl (by rw [look_book, find_at hb hk]; rfl)) ?_
  simp only [List.set_cons_zero, List.set_cons_succ]
  have eany := fun S => any_fields (ms := k.2) h6 (fun m hm => (hmk m hm).1) (ρ := [some (.p (encB b)), some (.p (.str k.1)), some (.ref 0), some (.p (.int ((d' + 1 : Nat) : Int))), some (.ref 1), some (.ref 2), some (.p (.int way)), none, some (.p (.tup (k.2.map encM))), none, none, none]) (by simp) rfl S
  by_cases w8 : (8 : Int) < way ∧ (1 : Int) < r ∧ ns ≠ [] ∧ (k.2.any fun m => decide (0 < m.2.length)) = true
  · obtain ⟨a1, a2, a3, a4⟩ := w8
    have hm1 : m = true := by
      cases m with
      | true => rfl
      | false => exact absurd (hm rfl) a3
    subst hm1
    have hgt : (0 : Int) < (ns.length : Nat) := by have := List.length_pos_iff.mpr a3; omega
    refine seqT (S' := [o1, rmO r, nmO ns]) (by
      simp only [xAnd, xT, xTru, eany]
      simp only [x2, x1, xCons, xNil, xVar0, xVarS, xP, bind_okE, vGt, a1, a2, hgt, decide_true, xbT, if_true, vIxRm, vLenNm, a4]
      rfl) ?_
    obtain ⟨s, o2, r2, ns2, e2, ho2, hl, u, hf, q⟩ := hho rfl k hk [o1, rmO r, nmO ns] 0 1 2 o1 r ns (by omega) (by omega) (by omega) rfl ho1 rfl rfl hr hlen ⟨by omega, a3, a4⟩
    refine seqRetE (d := .p (encZ s)) (S' := [o2, rmO r2, nmO ns2]) ?_ ⟨s, o2, r2, ns2, [], rfl, rfl, ho2, hl, u, hf.mono (by rw [show dmx true d' = d' + 3 from rfl]; omega), q⟩
    simp only [xCallV, xCons, xNil, xVar0, xVarS, bind_okE, e2]; rfl
  refine seqF (S' := [o1, rmO r, nmO ns]) (by
    simp only [xAnd, xT, xTru, eany]
    simp only [x2, x1, xCons, xNil, xVar0, xVarS, xP, bind_okE, vGt, xbT]
    by_cases a1 : (8 : Int) < way
    · simp only [a1, decide_true, if_true, vIxRm, bind_okE, vGt, xbT]
      by_cases a2 : (1 : Int) < r
      · simp only [a2, decide_true, if_true, vLenNm, bind_okE, vGt, xbT]
        by_cases a3 : (0 : Int) < (ns.length : Nat)
        · simp only [a3, decide_true, if_true]
          cases a4 : k.2.any fun m => decide (0 < m.2.length) with
          | false => rfl
          | true => exact absurd ⟨a1, a2, List.length_pos_iff.mp (by omega), a4⟩ w8
        · simp only [a3, decide_false, Bool.false_eq_true, if_false]
      · simp only [a2, decide_false, Bool.false_eq_true, if_false]
    · simp only [a1, decide_false, Bool.false_eq_true, if_false]) (seqNil ?_)
  obtain ⟨_, _, e1, x, o2, hx, rfl, rfl, ho2⟩ := pickT (tbl := cVar 8) (n := 0) (xs := k.2.map encM) (S := [o1, rmO r, nmO ns]) (ρ := [some (.p (encB b)), some (.p (.str k.1)), some (.ref 0), some (.p (.int ((d' + 1 : Nat) : Int))), some (.ref 1), some (.ref 2), some (.p (.int way)), none, some (.p (.tup (k.2.map encM))), none, none, none]) rfl
    (hn.d0 (ca := cVar 2) (cb := c1 gLen (cCons (cVar 8) cNil)) (base := k.2.length) (S := [rmO r, nmO ns]) rfl (by simp only [x1, xCons, xNil, xVar0, xVarS, bind_okE, vLenTup, List.length_map]) ho1 (by omega) (by omega) |>.mono fun d S' ⟨x, o', e1, e2, h1, h2⟩ => ⟨x, o', e1, e2, h1, by rw [List.length_map]; exact h2⟩)
  obtain ⟨mk, hmk2, rfl⟩ := List.mem_map.mp hx
  obtain ⟨h4, hfs⟩ := hmk mk hmk2
  refine asgG e1 (ρ' := [some (.p (encB b)), some (.p (.str k.1)), some (.ref 0), some (.p (.int ((d' + 1 : Nat) : Int))), some (.ref 1), some (.ref 2), some (.p (.int way)), none, some (.p (.tup (k.2.map encM))), some (.p (.str mk.1)), some (.p (.tup (mk.2.map .str))), none]) (S'' := [o2, rmO r, nmO ns]) rfl ?_
  obtain ⟨ys, _, e2, ⟨o3, r3, ns3, hl, u, ss, rfl, rfl, ho3, hF, g1, g2, g3⟩, hly⟩ : Nd (cComp (cIt (cVar 10)) (gN 11) cYes (cCallV true run ish (cCons (cVar 0) (cCons (cVar 11) (cCons (cVar 2) (cCons (c2 gSub (cVar 3) (cP (.int 1))) (cCons (cVar 4) (cCons (cVar 5) cNil))))))) [11] [some (.p (encB b)), some (.p (.str k.1)), some (.ref 0), some (.p (.int ((d' + 1 : Nat) : Int))), some (.ref 1), some (.ref 2), some (.p (.int way)), none, some (.p (.tup (k.2.map encM))), some (.p (.str mk.1)), some (.p (.tup (mk.2.map .str))), none] [o2, rmO r, nmO ns])
      fun ys S' => (∃ o3 r3 ns3 hl u ss, ys = ss.map encZ ∧ S' = [o3, rmO r3, nmO ns3] ∧ Pool o3 ∧ FmL (Fm b (dmx m d')) mk.2 hl u ss ∧ 1 ≤ r3 ∧ u * r3 ≤ r ∧ hl.map (·.1) ++ ns3 = ns) ∧ ys.length = mk.2.length := by
    refine cmpD (enc := P.str) (l := mk.2) (S' := [o2, rmO r, nmO ns]) rfl (by omega) (fun pre acc S => ∃ o3 r3 ns3 hl u ss, acc = ss.map encZ ∧ S = [o3, rmO r3, nmO ns3] ∧ Pool o3 ∧ FmL (Fm b (dmx m d')) pre hl u ss ∧ 1 ≤ r3 ∧ u * r3 ≤ r ∧ hl.map (·.1) ++ ns3 = ns) ⟨o2, r, ns, [], 1, [], rfl, rfl, ho2, .nil, hr, by omega, rfl⟩ ?_ fun ys S hl h => ⟨h, hl⟩
    rintro pre f post acc S hl ha ⟨o3, r3, ns3, hl3, u, ss, rfl, rfl, ho3, hF, g1, g2, g3⟩
    have hf : Kn b f := hfs f (by rw [hl]; simp)
    have hns3 : ns3.length ≤ ns.length := by rw [← g3, List.length_append]; omega
    obtain ⟨s, o4, r4, ns4, e4, ho4, h1, u1, k1, k2, k3, k4⟩ := hsh f hf [o3, rmO r3, nmO ns3] 0 1 2 o3 r3 ns3 (by omega) (by omega) (by omega) rfl ho3 rfl rfl g1 (by omega) (fun h => by have := hm h; rw [← g3] at this; exact (List.append_eq_nil_iff.mp this).2)
    unfold mkSh at e4
    simp only [xgN, bind_okE, wipeE, List.set_cons_zero, List.set_cons_succ, xCallV, xCons, xNil, xVar0, xVarS, x2, xP, vSub, hd1, e4]
    refine .ok ⟨_, rfl, o4, r4, ns4, hl3 ++ h1, u * u1, ss ++ [s], by rw [List.map_append]; rfl, rfl, ho4, hF.snoc k1, k2, ?_, by rw [List.map_append, List.append_assoc, k4, g3]⟩
    calc u * u1 * r4 = u * (u1 * r4) := Nat.mul_assoc _ _ _
      _ ≤ u * r3 := Nat.mul_le_mul_left _ k3
      _ ≤ r := g2
  refine retE (d := .p (encZ (.make mk.1 ss))) (S' := [o3, rmO r3, nmO ns3]) ?_ ⟨.make mk.1 ss, o3, r3, ns3, [], rfl, rfl, ho3, hl, u, ⟨mk.2, by rw [mkOf_at hb hk]; exact hmk2, hF⟩, g1, g2, g3⟩
  simp only [xTup, xCons, xNil, xP, bind_okE, xVar0, xVarS, x1, xRo, e2, vTupRo, allP, List.length_cons, List.length_nil, sizeLine_val, Nat.reduceAdd, Nat.reduceLeDiff, if_true, encZ, encZs_eq]
end Gs
set_option Elab.async false
set_option linter.all false
set_option maxRecDepth 100000
set_option maxHeartbeats 4000000
namespace Gs
open Cw L2
open PySem hiding Run

/-! ### sides -/
theorem All2.sum_pos {α : Type} {R : α → Nat → Prop} : ∀ {as : List α} {us : List Nat}, All2 R as us → (∀ a u, R a u → 1 ≤ u) → as ≠ [] → 1 ≤ us.sum
  | _, _, .nil, _, h => absurd rfl h
  | _, _, .cons r t, h, _ => by have := h _ _ r; rw [List.sum_cons]; omega
theorem FmL.pos {F : Str → List (Str × Str) → Nat → Shp → Prop} (h : ∀ f hl u s, F f hl u s → 1 ≤ u) : ∀ {fs hl u ss}, FmL F fs hl u ss → 1 ≤ u
  | _, _, _, _, .nil => Nat.le_refl _
  | _, _, _, _, .cons a t => Nat.mul_pos (h _ _ _ _ a) (t.pos h)
theorem Fm.pos {b : List Kd} : ∀ {d : Nat} {z : Str} {hl : List (Str × Str)} {u : Nat} {s : Shp}, Fm b d z hl u s → 1 ≤ u
  | 0, _, _, _, _, h => h.elim
  | d + 1, z, hl, u, s, h => by
    cases s with
    | any => obtain ⟨_, rfl⟩ := h; exact Nat.le_refl _
    | num lo hi => obtain ⟨_, _, rfl⟩ := h; exact Nat.le_refl _
    | held n s => obtain ⟨_, _, w⟩ := h; exact w.pos
    | make n ss => obtain ⟨_, _, w⟩ := h; exact w.pos fun _ _ _ _ => Fm.pos
    | either ss => obtain ⟨hne, us, rfl, w⟩ := h; exact w.sum_pos (fun _ _ => Fm.pos) hne
theorem sum_le {c k : Nat} : ∀ us : List Nat, (∀ w ∈ us, w * c ≤ k) → us.sum * c ≤ us.length * k
  | [], _ => by simp
  | w :: r, h => by
    have a := h w List.mem_cons_self
    have b := sum_le r fun x hx => h x (List.mem_cons_of_mem _ hx)
    rw [List.sum_cons, List.length_cons, Nat.add_mul, Nat.succ_mul]; omega
theorem Dr.le {b : List Kd} {z : Str} {d r : Nat} {ns : List Str} {s : Shp} {r' : Nat} {ns' : List Str} (h : Dr b z d r ns s r' ns') : r' ≤ r := by
  obtain ⟨hl, u, hf, h1, h2, _⟩ := h
  have := hf.pos
  exact Nat.le_trans (Nat.le_mul_of_pos_left r' this) h2
/-- sides as far as they are drawn: each of them holds the same -/
structure Sides (F : Nat → Shp → Prop) (ss : List Shp) (us : List Nat) (r r1 : Nat) : Prop where
  all : All2 (fun s w => F w s) ss us
  pos : 1 ≤ r1
  le : r1 ≤ r
  few : ∀ w ∈ us, w * r1 ≤ r
theorem Sides.snoc {F : Nat → Shp → Prop} {ss : List Shp} {us : List Nat} {r r1 r2 u : Nat} {s : Shp} (h : Sides F ss us r r1) (hf : F u s) (h1 : 1 ≤ r2) (h2 : u * r2 ≤ r1) (hu : 1 ≤ u) : Sides F (ss ++ [s]) (us ++ [u]) r r2 := by
  have hle : r2 ≤ r1 := Nat.le_trans (Nat.le_mul_of_pos_left r2 hu) h2
  refine ⟨All2.snoc (R := fun s w => F w s) hf h.all, h1, Nat.le_trans hle h.le, fun w hw => ?_⟩
  rcases List.mem_append.mp hw with q | q
  · exact Nat.le_trans (Nat.mul_le_mul_left w hle) (h.few w q)
  · rw [List.mem_singleton] at q; subst q; exact Nat.le_trans h2 h.le
theorem Sides.either {b : List Kd} {d : Nat} {z : Str} {hl : List (Str × Str)} {ss : List Shp} {us : List Nat} {r1 r2 r many : Nat} {ns ns' : List Str} (h : Sides (fun w s => Fm b d z hl w s) ss us r1 r2) (hm : ss.length = many) (h0 : 1 ≤ many) (hr : many * r1 ≤ r) (hn : hl.map (·.1) ++ ns' = ns) : Dr b z (d + 1) r ns (.either ss) r2 ns' := by
  refine ⟨hl, us.sum, ⟨fun e => by rw [e] at hm; simp at hm; omega, us, rfl, h.all⟩, h.pos, ?_, hn⟩
  have := sum_le us h.few
  rw [← h.all.length, hm] at this
  exact Nat.le_trans this hr
def wrapN (hs : List Str) (ss : List Shp) : List Shp := hs.foldl (fun ss n => ss.map (Shp.held n)) ss
theorem wrap_len : ∀ (hs : List Str) (ss : List Shp), (wrapN hs ss).length = ss.length
  | [], _ => rfl
  | n :: r, ss => by
    show (wrapN r (ss.map (Shp.held n))).length = _
    rw [wrap_len r, List.length_map]
theorem All2.map_l {α β : Type} {R : α → β → Prop} {R' : α → β → Prop} (f : α → α) (h : ∀ a b, R a b → R' (f a) b) : ∀ {as : List α} {bs : List β}, All2 R as bs → All2 R' (as.map f) bs
  | _, _, .nil => .nil
  | _, _, .cons r t => .cons (h _ _ r) (t.map_l f h)
theorem body_either (run : Run) {ish jn : Nat} (hn : NextOk run jn) {b : List Kd} (hb : BookOk b) (m : Bool) (d : Nat) (hsh : ShM b false d run ish)
    {z : Str} (hz : Kn b z) {o : Ob} (ho : Pool o) {r : Nat} {ns : List Str} (hr : 1 < r) (hlen : ns.length ≤ 1000) (hm : m = false → ns = []) :
    Nd (b_law_either ish jn run [some (.p (encB b)), some (.p (.str z)), some (.ref 0), some (.p (.int (d + 1 : Nat))), some (.ref 1), some (.ref 2), none, none, none, none, none, none] [o, rmO r, nmO ns]) (Bd3 b z (dmx m (d + 1)) r ns) := by
  obtain ⟨_, _, e1, w, o1, rfl, rfl, ho1, hw⟩ := hn.d0 (ca := cVar 2) (cb := c1 gMin (cCons (cP (.int 4)) (cCons (c2 gIx (cVar 4) (cP (.int 0))) cNil))) (ρ := [some (.p (encB b)), some (.p (.str z)), some (.ref 0), some (.p (.int (d + 1 : Nat))), some (.ref 1), some (.ref 2), none, none, none, none, none, none]) (base := min 4 (r : Int)) (S := [rmO r, nmO ns]) rfl
    (minD (S := o :: [rmO r, nmO ns]) rfl (by simp only [x2, xVar0, xVarS, xP, bind_okE, vIxRm])) ho (by omega) (by omega)
  have hmany : 1 + (w : Int) = ((1 + w : Nat) : Int) := by omega
  refine asgE (d := .p (.int ((1 + w : Nat) : Int))) (S' := [o1, rmO r, nmO ns]) (by rw [x2, xP, bind_okE, e1, bind_okE, vAdd, hmany]) ?_
  simp only [List.set_cons_zero, List.set_cons_succ]
  generalize hM : 1 + w = many
  have hm1 : 1 ≤ many := by omega
  have hm4 : many ≤ 4 := by omega
  have hmr : many ≤ r := by omega
  have hdiv : ((r : Int) / (many : Int)) = ((r / many : Nat) : Int) := by omega
  refine asgG (d := .p (.int ((r / many : Nat) : Int))) (S' := [o1, rmO r, nmO ns]) (by simp (disch := omega) only [x2, xVar0, xVarS, xP, bind_okE, vIxRm, vDiv, hdiv])
    (ρ' := [some (.p (encB b)), some (.p (.str z)), some (.ref 0), some (.p (.int (d + 1 : Nat))), some (.ref 1), some (.ref 2), some (.p (.int many)), none, none, none, none, none]) (S'' := [o1, rmO (r / many), nmO ns]) (by
      have := vSetL (n := 1) (S := [o1, rmO r, nmO ns]) (xs := [.int r]) (i := 0) (y := .int ((r / many : Nat) : Int)) rfl (by omega) (by simp)
      simp only [xgAt, xVar0, xVarS, xP, bind_okE, this]; rfl) ?_
  generalize hR : r / many = r1
  have hr1 : 1 ≤ r1 := by
    rw [← hR]; exact (Nat.one_le_div_iff (by omega)).mpr hmr
  have hmul : many * r1 ≤ r := by rw [← hR]; exact Nat.mul_div_le r many
  refine asgE (d := .ref 3) (S' := [o1, rmO r1, nmO ns, nmO []]) rfl ?_
  simp only [List.set_cons_zero, List.set_cons_succ]
  -- what is held
  have rest : ∀ (o2 : Ob) (hs ns1 : List Str), Pool o2 → hs ++ ns1 = ns → hs.length ≤ 1 → Nd ((sSeq (sAsg (cRo (cComp (cRng1 (cVar 6)) (gN 10) cYes (cCallV true run ish (cCons (cVar 0) (cCons (cVar 1) (cCons (cVar 2) (cCons (c2 gSub (cVar 3) (cP (.int 1))) (cCons (cVar 4) (cCons (cTr (cLst cNil)) cNil))))))) [10])) (gN 8))
  (sSeq (sFor (cIt (cVar 7)) (gN 9)
    (sAsg (cRo (cComp (cIt (cVar 8)) (gN 11) cYes (cTup (cCons (cP (.str "held")) (cCons (cVar 9) (cCons (cVar 11) cNil)))) [11])) (gN 8)))
  (sRet (cTup (cCons (cP (.str "either")) (cCons (c1 gTuple (cCons (cVar 8) cNil)) cNil))))))
     [some (.p (encB b)), some (.p (.str z)), some (.ref 0), some (.p (.int (d + 1 : Nat))), some (.ref 1), some (.ref 2), some (.p (.int many)), some (.ref 3), none, none, none, none] [o2, rmO r1, nmO ns1, nmO hs]) (Bd3 b z (dmx m (d + 1)) r ns) := by
    intro o2 hs ns1 ho2 hns hh
    have hd1 : ((d + 1 : Nat) : Int) - 1 = (d : Nat) := by omega
    obtain ⟨ys, _, e2, ⟨ss, us, o3, r3, G, rfl, rfl, ho3, hS⟩, hly⟩ : Nd (cComp (cRng1 (cVar 6)) (gN 10) cYes (cCallV true run ish (cCons (cVar 0) (cCons (cVar 1) (cCons (cVar 2) (cCons (c2 gSub (cVar 3) (cP (.int 1))) (cCons (cVar 4) (cCons (cTr (cLst cNil)) cNil))))))) [10] [some (.p (encB b)), some (.p (.str z)), some (.ref 0), some (.p (.int (d + 1 : Nat))), some (.ref 1), some (.ref 2), some (.p (.int many)), some (.ref 3), none, none, none, none] [o2, rmO r1, nmO ns1, nmO hs])
       fun ys S' => (∃ ss us o3 r3 G, ys = ss.map encZ ∧ S' = o3 :: rmO r3 :: nmO ns1 :: nmO hs :: G ∧ Pool o3 ∧ Sides (fun w s => Fm b (dmx false d) z [] w s) ss us r1 r3) ∧ ys.length = many := by
      refine compR (n := many) (S' := [o2, rmO r1, nmO ns1, nmO hs]) (cRng1_nat rfl (by omega)) (fun acc S => ∃ ss us o3 r3 G, acc = ss.map encZ ∧ S = o3 :: rmO r3 :: nmO ns1 :: nmO hs :: G ∧ Pool o3 ∧ Sides (fun w s => Fm b (dmx false d) z [] w s) ss us r1 r3) ⟨[], [], o2, r1, [], rfl, rfl, ho2, .nil, hr1, Nat.le_refl _, by simp⟩ (by omega) ?_ fun ys S h hl => ⟨h, hl⟩
      rintro j acc S hj ha ⟨ss, us, o3, r3, G, rfl, rfl, ho3, hS⟩
      obtain ⟨s, o4, r4, ns4, e4, ho4, h1, u1, k1, k2, k3, k4⟩ := hsh z hz (o3 :: rmO r3 :: nmO ns1 :: nmO hs :: (G ++ [nmO []])) 0 1 (G.length + 4) o3 r3 [] (by omega) (by omega) (by omega) rfl ho3 rfl (by simp) hS.pos (by simp) (fun _ => rfl)
      have h1e : h1 = [] := List.map_eq_nil_iff.mp (List.append_eq_nil_iff.mp k4).1
      subst h1e
      unfold mkSh at e4
      have eS : ∀ x : Ob, (((o3 :: rmO r3 :: nmO ns1 :: nmO hs :: (G ++ [nmO []])).set 0 o4).set 1 (rmO r4)).set (G.length + 4) x = o4 :: rmO r4 :: nmO ns1 :: nmO hs :: (G ++ [x]) := fun x => by
        show o4 :: rmO r4 :: nmO ns1 :: nmO hs :: (G ++ [nmO []]).set G.length x = _
        simp [List.set_append]
      rw [eS] at e4
      have el : cTr (cLst cNil) [some (.p (encB b)), some (.p (.str z)), some (.ref 0), some (.p (.int (d + 1 : Nat))), some (.ref 1), some (.ref 2), some (.p (.int many)), some (.ref 3), none, none, some (.p (.int j)), none] (o3 :: rmO r3 :: nmO ns1 :: nmO hs :: G) = .ok (.ref (G.length + 4)) (o3 :: rmO r3 :: nmO ns1 :: nmO hs :: (G ++ [nmO []])) := rfl
      simp only [xgN, bind_okE, wipeE, List.set_cons_zero, List.set_cons_succ, xCallV, xCons, xNil, xVar0, xVarS, x2, xP, vSub, hd1, el, e4]
      exact .ok ⟨_, rfl, ss ++ [s], us ++ [u1], o4, r4, G ++ [nmO ns4], by rw [List.map_append]; rfl, rfl, ho4, hS.snoc k1 k2 k3 k1.pos⟩
    rw [List.length_map] at hly
    refine asgE (d := .p (.ro (ss.map encZ))) (S' := o3 :: rmO r3 :: nmO ns1 :: nmO hs :: G) (by rw [xRo, e2, bind_okE]) ?_
    simp only [List.set_cons_zero, List.set_cons_succ]
    refine forST (n := 3) (enc := P.str) (l := hs) (S' := o3 :: rmO r3 :: nmO ns1 :: nmO hs :: G) rfl (fun pre ρ S => ∃ v9 v10 v11, ρ = [some (.p (encB b)), some (.p (.str z)), some (.ref 0), some (.p (.int (d + 1 : Nat))), some (.ref 1), some (.ref 2), some (.p (.int many)), some (.ref 3), some (.p (.ro ((wrapN pre ss).map encZ))), v9, v10, v11] ∧ S = o3 :: rmO r3 :: nmO ns1 :: nmO hs :: G)
      (by rintro pre ρ S ⟨_, _, _, _, rfl⟩; rfl) ⟨_, _, _, rfl, rfl⟩ ?_ ?_
    · rintro pre n post ρ S hl ⟨v9, v10, v11, rfl, rfl⟩
      refine turnE rfl (Nd.go ?_)
      have e5 : cRo (cComp (cIt (cVar 8)) (gN 11) cYes (cTup (cCons (cP (.str "held")) (cCons (cVar 9) (cCons (cVar 11) cNil)))) [11]) [some (.p (encB b)), some (.p (.str z)), some (.ref 0), some (.p (.int (d + 1 : Nat))), some (.ref 1), some (.ref 2), some (.p (.int many)), some (.ref 3), some (.p (.ro ((wrapN pre ss).map encZ))), some (.p (.str n)), v10, v11] (o3 :: rmO r3 :: nmO ns1 :: nmO hs :: G) = .ok (.p (.ro ((wrapN (pre ++ [n]) ss).map encZ))) (o3 :: rmO r3 :: nmO ns1 :: nmO hs :: G) := by
        rw [xRo, cmpM (enc := encZ) (l := wrapN pre ss) (fun s => encZ (.held n s)) rfl (by rw [wrap_len]; omega) fun s hs => ⟨_, rfl, rfl⟩, bind_okE]
        unfold wrapN
        rw [List.foldl_append, List.foldl_cons, List.foldl_nil, List.map_map]; rfl
      simp only [xAsg, e5, bind_okE, xgN, List.set_cons_zero, List.set_cons_succ]
      exact .ok ⟨_, rfl, _, _, _, rfl, rfl⟩
    · rintro ρ S ⟨v9, v10, v11, rfl, rfl⟩
      refine retE (d := .p (encZ (.either (wrapN hs ss)))) (S' := o3 :: rmO r3 :: nmO ns1 :: nmO hs :: G) ?_ ⟨_, o3, r3, ns1, nmO hs :: G, rfl, rfl, ho3, ?_⟩
      · simp only [xTup, xCons, xNil, xP, bind_okE, xVar0, xVarS, x1, vTupRo, allP, List.length_cons, List.length_nil, sizeLine_val, Nat.reduceAdd, Nat.reduceLeDiff, if_true, encZ, encZs_eq]
      · match hs, hh, hns with
        | [], _, hns =>
          have : Sides (fun w s => Fm b (dmx m d) z [] w s) ss us r1 r3 := ⟨hS.all.imp fun s w h => h.mono (by cases m <;> simp [dmx]), hS.pos, hS.le, hS.few⟩
          rw [dmx_succ]
          exact this.either hly hm1 hmul hns
        | [n], _, hns =>
          have hmt : m = true := by
            cases m with
            | true => rfl
            | false => rw [hm rfl] at hns; cases hns
          subst hmt
          have : Sides (fun w s => Fm b (dmx true d) z [(n, z)] w s) (ss.map (Shp.held n)) us r1 r3 := ⟨hS.all.map_l (Shp.held n) fun s w h => ⟨[], rfl, h.mono (by simp [dmx])⟩, hS.pos, hS.le, hS.few⟩
          rw [dmx_succ]
          exact this.either (by rw [List.length_map]; exact hly) hm1 hmul hns
  by_cases hne : ns = []
  · subst hne
    refine seqF (S' := [o1, rmO r1, nmO [], nmO []]) (by
      simp only [xAnd, xT, x2, x1, xCons, xNil, xVar0, xVarS, xP, bind_okE, vLenNm, vGt]; rfl) (seqNil (rest o1 [] [] ho1 rfl (by simp)))
  · obtain ⟨n, ns1, rfl⟩ := List.exists_cons_of_ne_nil hne
    have hgt : (0 : Int) < ((n :: ns1).length : Nat) := by rw [List.length_cons]; omega
    obtain ⟨_, _, e5, v, o2, rfl, rfl, ho2, hv⟩ := hn.d0 (ca := cVar 2) (cb := cP (.int 3)) (ρ := [some (.p (encB b)), some (.p (.str z)), some (.ref 0), some (.p (.int (d + 1 : Nat))), some (.ref 1), some (.ref 2), some (.p (.int many)), some (.ref 3), none, none, none, none]) (base := 3) (S := [rmO r1, nmO (n :: ns1), nmO []]) rfl rfl ho1 (by omega) (by omega)
    have tst : cAnd (cT (c2 gGt (c1 gLen (cCons (cVar 5) cNil)) (cP (.int 0)))) (cT (c2 (gEqB false) (cCallV true run jn (cCons (cVar 2) (cCons (cP (.int 3)) cNil))) (cP (.int 0)))) [some (.p (encB b)), some (.p (.str z)), some (.ref 0), some (.p (.int (d + 1 : Nat))), some (.ref 1), some (.ref 2), some (.p (.int many)), some (.ref 3), none, none, none, none] [o1, rmO r1, nmO (n :: ns1), nmO []] = .ok (decide ((v : Int) = 0)) [o2, rmO r1, nmO (n :: ns1), nmO []] := by
      rw [xAnd, xT, x2, x1]
      simp only [xCons, xNil, xVar0, xVarS, xP, bind_okE, vLenNm, vGt, hgt, decide_true, xbT, if_true]
      rw [xT, x2, e5, bind_okE, xP, bind_okE, vEqI, xbT]
    by_cases v0 : (v : Int) = 0
    · rw [decide_eq_true v0] at tst
      refine seqT tst ?_
      refine dropE (d := .p .non) (S' := [o2, rmO r1, nmO ns1, nmO [n]]) ?_ (rest o2 [n] ns1 ho2 rfl (by simp))
      have ty3 : ∀ a b c : Ob, isTy "list" (.ref 3) [a, b, c, nmO []] = true := fun a b c => by unfold isTy nmO; simp
      have ap : gAppend (.ref 3) [.p (.str n)] [o2, rmO r1, nmO ns1, nmO []] = .ok (.p .non) [o2, rmO r1, nmO ns1, nmO [n]] := vAppend (n := 3) (xs := []) (S := [o2, rmO r1, nmO ns1, nmO []]) rfl (by rw [sizeLine_val]; simp)
      simp only [xM, xVar0, xVarS, bind_okE, ty3, if_true, xCons, xNil, tyNm, xP, popNm, ap]
    · rw [decide_eq_false v0] at tst
      exact seqF tst (seqNil (rest o2 [] (n :: ns1) ho2 rfl (by simp)))
end Gs
set_option Elab.async false
set_option linter.all false
set_option maxRecDepth 100000
set_option maxHeartbeats 4000000
namespace Gs
open Cw L2
open PySem hiding Run

/-! ### sides that hold one name each -/
abbrev Ho := Str × List Str × Nat
def encH (h : Ho) : P := .tup [.str h.1, .tup (h.2.1.map .str), .int h.2.2]
def somes (ms : List Mk) : List Ho := ms.flatMap fun m => (List.range m.2.length).map fun i => (m.1, m.2, i)
def kAt (h : Ho) : Str := h.2.1.getD h.2.2 num
theorem range_map (n : Nat) : rangeP 0 n = (List.range n).map fun j : Nat => P.int (j : Int) := by
  unfold rangeP
  exact List.map_congr_left fun j _ => by rw [Int.zero_add]
theorem somes_mem {ms : List Mk} {h : Ho} (hh : h ∈ somes ms) : (h.1, h.2.1) ∈ ms ∧ h.2.2 < h.2.1.length := by
  obtain ⟨m, hm, q⟩ := List.mem_flatMap.mp hh
  obtain ⟨i, hi, rfl⟩ := List.mem_map.mp q
  exact ⟨hm, List.mem_range.mp hi⟩
theorem somes_app (a c : List Mk) : somes (a ++ c) = somes a ++ somes c := by unfold somes; rw [List.flatMap_append]
theorem somes_len : ∀ {ms : List Mk}, (∀ m ∈ ms, m.2.length ≤ 4) → (somes ms).length ≤ 4 * ms.length
  | [], _ => by simp [somes]
  | m :: r, h => by
    have a := h m List.mem_cons_self
    have c := somes_len (ms := r) fun x hx => h x (List.mem_cons_of_mem _ hx)
    have : somes (m :: r) = ((List.range m.2.length).map fun i => (m.1, m.2, i)) ++ somes r := rfl
    rw [this, List.length_append, List.length_map, List.length_range, List.length_cons]; omega
theorem FmL.set {F : Str → List (Str × Str) → Nat → Shp → Prop} (hp : ∀ f hl u s, F f hl u s → 1 ≤ u) {f : Str} {h1 : List (Str × Str)} {s : Shp} (hf : F f h1 1 s) : ∀ {fs hl u ss} {i : Nat}, FmL F fs hl u ss → hl = [] → fs[i]? = some f → ∃ u', FmL F fs h1 u' (ss.set i s) ∧ u' ≤ u
  | _, _, _, _, i, .nil, _, h => by simp at h
  | _, _, _, _, 0, .cons (u1 := u1) (u2 := u2) a t, e, h => by
    obtain ⟨rfl, rfl⟩ := List.append_eq_nil_iff.mp e
    simp at h; subst h
    refine ⟨1 * u2, by have := FmL.cons hf t; rwa [List.append_nil] at this, ?_⟩
    rw [Nat.one_mul]
    exact Nat.le_mul_of_pos_left u2 (hp _ _ _ _ a)
  | _, _, _, _, i + 1, .cons (u1 := u1) a t, e, h => by
    obtain ⟨rfl, rfl⟩ := List.append_eq_nil_iff.mp e
    obtain ⟨u', t', hu⟩ := t.set hp hf (i := i) rfl (by simpa using h)
    exact ⟨u1 * u', .cons a t', Nat.mul_le_mul_left _ hu⟩
abbrev eH (k : Kd) (b : List Kd) (w5 w6 w7 w8 w9 w10 w11 w12 w13 w14 w15 w16 : Option D) : Ev :=
  [some (.p (.tup (k.2.map encM))), some (.p (encB b)), some (.ref 0), some (.ref 1), some (.ref 2), w5, w6, w7, w8, w9, w10, w11, w12, w13, w14, w15, w16]
theorem vIxH (h : Ho) (hi : h.2.2 < h.2.1.length) (S : Sto) : (gIx (.p (encH h)) (.p (.int 1)) S).bind (fun x S1 => (gIx (.p (encH h)) (.p (.int 2)) S1).bind fun y S2 => gIx x y S2) = .ok (.p (.str (kAt h))) S := by
  have e1 : gIx (.p (encH h)) (.p (.int 1)) S = .ok (.p (.tup (h.2.1.map .str))) S := vIxT S (by omega) rfl
  have e2 : gIx (.p (encH h)) (.p (.int 2)) S = .ok (.p (.int h.2.2)) S := vIxT S (by omega) rfl
  rw [e1, bind_okE, e2, bind_okE]
  exact vIxT S (by omega) (by rw [Int.toNat_natCast, List.getElem?_map, List.getElem?_eq_getElem hi]; simp [kAt, hi])
/-- drawn from a list of the store -/
theorem pickL {c : CE} {draw : CE} {ρ : Ev} {n : Nat} {l : List Ho} {o : Ob} {R : Sto} (hc : ∀ S, c ρ S = .ok (.ref (n + 1)) S) (hR : R[n]? = some (.lst (l.map encH))) (hd : Nd (draw ρ (o :: R)) fun d S' => ∃ (x : Nat) (o' : Ob), d = .p (.int x) ∧ S' = o' :: R ∧ Pool o' ∧ (x : Int) < (l.length : Nat)) :
    Nd (c2 gIx c draw ρ (o :: R)) fun d S' => ∃ (h : Ho) (o' : Ob), h ∈ l ∧ d = .p (encH h) ∧ S' = o' :: R ∧ Pool o' := by
  obtain ⟨_, _, e, x, o', rfl, rfl, ho', hx⟩ := hd
  have hx : x < l.length := by omega
  refine ⟨.p (encH l[x]), o' :: R, ?_, l[x], o', List.getElem_mem hx, rfl, rfl, ho'⟩
  rw [x2, hc, bind_okE, e, bind_okE]
  exact vIxRef (n := n + 1) (S := o' :: R) (xs := l.map encH) (i := (x : Int)) hR (by omega) (by rw [Int.toNat_natCast, List.getElem?_map, List.getElem?_eq_getElem hx]; rfl)
theorem body_holding (run : Run) {ish jn : Nat} (hn : NextOk run jn) {b : List Kd} (hb : BookOk b) (hsh : ShM b false 1 run ish)
    {k : Kd} (hk : k ∈ b) {o : Ob} (ho : Pool o) {r : Nat} {ns : List Str} (hr : 1 < r) (hlen : ns.length ≤ 1000) (hne : ns ≠ []) (hany : (k.2.any fun m => decide (0 < m.2.length)) = true) :
    Nd (b_law_holding ish jn run (eH k b none none none none none none none none none none none none) [o, rmO r, nmO ns]) (Bd3 b k.1 4 r ns) := by
  obtain ⟨hp, h6, hmk⟩ := hb.ok k hk
  have h24 : ∀ pre post, k.2 = pre ++ post → (somes pre).length ≤ 24 := fun pre post e => by
    have h := somes_len (ms := pre) fun m hm => (hmk m (by rw [e]; exact List.mem_append_left _ hm)).1
    have : pre.length ≤ 6 := by rw [e, List.length_append] at h6; omega
    omega
  obtain ⟨n, rest, rfl⟩ := List.exists_cons_of_ne_nil hne
  refine asgE (d := .ref 3) (S' := [o, rmO r, nmO (n :: rest), .lst []]) rfl ?_
  simp only [List.set_cons_zero, List.set_cons_succ]
  refine forS (enc := encM) (l := k.2) (S' := [o, rmO r, nmO (n :: rest), .lst []]) rfl (fun pre ρ S => ∃ w6 w7 w13, ρ = eH k b (some (.ref 3)) w6 w7 none none none none none w13 none none none ∧ S = [o, rmO r, nmO (n :: rest), .lst ((somes pre).map encH)]) ⟨_, _, _, rfl, rfl⟩ ?_ ?_
  · rintro pre m post ρ S hl ⟨w6, w7, w13, rfl, rfl⟩
    have h4 := (hmk m (by rw [hl]; simp)).1
    refine Nd.go (turnE (ρ1 := eH k b (some (.ref 3)) (some (.p (.str m.1))) (some (.p (.tup (m.2.map .str)))) none none none none none w13 none none none) rfl ?_)
    have e1 : cRo (cComp (cRng1 (c1 gLen (cCons (cVar 7) cNil))) (gN 13) cYes (cTup (cCons (cVar 6) (cCons (cVar 7) (cCons (cVar 13) cNil)))) [13]) (eH k b (some (.ref 3)) (some (.p (.str m.1))) (some (.p (.tup (m.2.map .str)))) none none none none none w13 none none none) [o, rmO r, nmO (n :: rest), .lst ((somes pre).map encH)] = .ok (.p (.ro ((somes [m]).map encH))) [o, rmO r, nmO (n :: rest), .lst ((somes pre).map encH)] := by
      rw [xRo, cmpM (enc := fun j : Nat => P.int (j : Int)) (l := List.range m.2.length) (fun i => encH (m.1, m.2, i)) (by
        rw [cRng1_nat (S' := [o, rmO r, nmO (n :: rest), .lst ((somes pre).map encH)]) (n := m.2.length) (by simp only [x1, xCons, xNil, xVar0, xVarS, bind_okE, vLenTup, List.length_map]) (by omega), range_map]) (by rw [List.length_range]; omega) fun i _ => ⟨_, rfl, rfl⟩, bind_okE]
      simp [somes]
    have hlen2 := h24 (pre ++ [m]) post (by rw [hl]; simp)
    rw [somes_app, List.length_append] at hlen2
    have ex : gExtend (.ref 3) [.p (.ro ((somes [m]).map encH))] [o, rmO r, nmO (n :: rest), .lst ((somes pre).map encH)] = .ok (.p .non) [o, rmO r, nmO (n :: rest), .lst ((somes (pre ++ [m])).map encH)] := by
      simp only [gExtend, onLst, List.getElem?_cons_succ, List.getElem?_cons_zero, itemsA, seqA, seqL, List.length_map, sizeLine_val]
      rw [if_pos (by first | omega | exact ⟨by omega, rfl⟩)]
      rw [somes_app, List.map_append]; rfl
    have ty : isTy "list" (.ref 3) [o, rmO r, nmO (n :: rest), .lst ((somes pre).map encH)] = true := by unfold isTy; simp
    simp only [xDrop, xM, xVar0, xVarS, bind_okE, ty, if_true, xCons, xNil, e1, ex]
    exact .ok ⟨_, rfl, _, _, _, rfl, rfl⟩
  rintro ρ S ⟨w6, w7, w13, rfl, rfl⟩
  have hs24 := h24 k.2 [] (by simp)
  have hpos : 0 < (somes k.2).length := by
    obtain ⟨m, hm, h0⟩ := List.any_eq_true.mp hany
    have : ((m.1, m.2, 0) : Ho) ∈ somes k.2 := List.mem_flatMap.mpr ⟨m, hm, List.mem_map.mpr ⟨0, List.mem_range.mpr (of_decide_eq_true h0), rfl⟩⟩
    exact List.length_pos_of_mem this
  obtain ⟨_, _, e2, g, o1, hg, rfl, rfl, ho1⟩ := pickL (n := 2) (c := cVar 5) (draw := cCallV true run jn (cCons (cVar 2) (cCons (c1 gLen (cCons (cVar 5) cNil)) cNil))) (l := somes k.2) (ρ := eH k b (some (.ref 3)) w6 w7 none none none none none w13 none none none) (o := o) (R := [rmO r, nmO (n :: rest), .lst ((somes k.2).map encH)]) (fun _ => rfl) rfl
    (hn.d0 (ca := cVar 2) (cb := c1 gLen (cCons (cVar 5) cNil)) (base := (somes k.2).length) rfl (by simp only [x1, xCons, xNil, xVar0, xVarS, bind_okE]; rw [vLenRef (n := 3) rfl, List.length_map]) ho (by omega) (by omega))
  refine asgE e2 ?_
  simp only [List.set_cons_zero, List.set_cons_succ]
  obtain ⟨hgm, hgi⟩ := somes_mem hg
  -- those of the same kind
  generalize hsl : (somes k.2).filter (fun h => decide (kAt h = kAt g)) = sl
  have hslm : ∀ h ∈ sl, h ∈ somes k.2 ∧ kAt h = kAt g := fun h hh => by
    rw [← hsl] at hh
    obtain ⟨a, c⟩ := List.mem_filter.mp hh
    exact ⟨a, of_decide_eq_true c⟩
  have hsl24 : sl.length ≤ 24 := by rw [← hsl]; exact Nat.le_trans (List.length_filter_le _ _) hs24
  have hslp : 0 < sl.length := by
    rw [← hsl]
    exact List.length_pos_of_mem (List.mem_filter.mpr ⟨hg, decide_eq_true rfl⟩)
  refine asgE (d := .ref 4) (S' := [o1, rmO r, nmO (n :: rest), .lst ((somes k.2).map encH), .lst (sl.map encH)]) (by
    rw [xTr, cmpFT (n := 3) (enc := encH) (l := somes k.2) (fun h => decide (kAt h = kAt g)) encH rfl rfl (by omega) fun h hh => ⟨_, rfl, by
      have e3 := vIxH h (somes_mem hh).2 [o1, rmO r, nmO (n :: rest), .lst ((somes k.2).map encH)]
      have e4 := vIxH g hgi [o1, rmO r, nmO (n :: rest), .lst ((somes k.2).map encH)]
      simp only [xT, x2, xP, wipeE, List.set_cons_zero, List.set_cons_succ, xVar0, xVarS, bind_okE] at e3 e4 ⊢
      rw [e3, bind_okE, e4, bind_okE, vEqS, xbT], fun _ => rfl⟩, bind_okE, hsl]
    rfl) ?_
  simp only [List.set_cons_zero, List.set_cons_succ]
  refine asgE (d := .p (.str n)) (S' := [o1, rmO r, nmO rest, .lst ((somes k.2).map encH), .lst (sl.map encH)]) (by simp only [xM, xVar0, xVarS, bind_okE, tyNm, if_true, xCons, xNil, xP, popNm]) ?_
  simp only [List.set_cons_zero, List.set_cons_succ]
  obtain ⟨_, _, e5, w, o2, rfl, rfl, ho2, hw⟩ := hn.d0 (ca := cVar 2) (cb := cP (.int 2)) (ρ := eH k b (some (.ref 4)) w6 w7 (some (.p (encH g))) (some (.p (.str n))) none none none w13 none none none) (base := 2) (S := [rmO r, nmO rest, .lst ((somes k.2).map encH), .lst (sl.map encH)]) rfl rfl ho1 (by omega) (by omega)
  have hmany : min (r : Int) (2 + (w : Int)) = ((min r (2 + w) : Nat) : Int) := by omega
  refine asgE (d := .p (.int ((min r (2 + w) : Nat) : Int))) (S' := [o2, rmO r, nmO rest, .lst ((somes k.2).map encH), .lst (sl.map encH)]) (by
    rw [x1, xCons, x2, xVarS, xVarS, xVarS, xVar0, bind_okE, xP, bind_okE, vIxRm, bind_okE, xCons, x2, xP, bind_okE, e5, bind_okE, vAdd, bind_okE, xNil, bind_okE, bind_okE, bind_okE, vMin, hmany]) ?_
  simp only [List.set_cons_zero, List.set_cons_succ]
  generalize hM : min r (2 + w) = many
  have hm1 : 1 ≤ many := by omega
  have hm4 : many ≤ 4 := by omega
  have hmr : many ≤ r := by omega
  have hdiv : ((r : Int) / (many : Int)) = ((r / many : Nat) : Int) := by omega
  refine asgG (d := .p (.int ((r / many : Nat) : Int))) (S' := [o2, rmO r, nmO rest, .lst ((somes k.2).map encH), .lst (sl.map encH)]) (by simp (disch := omega) only [x2, xVar0, xVarS, xP, bind_okE, vIxRm, vDiv, hdiv])
    (ρ' := eH k b (some (.ref 4)) w6 w7 (some (.p (encH g))) (some (.p (.str n))) (some (.p (.int many))) none none w13 none none none) (S'' := [o2, rmO (r / many), nmO rest, .lst ((somes k.2).map encH), .lst (sl.map encH)]) (by
      have := vSetL (n := 1) (S := [o2, rmO r, nmO rest, .lst ((somes k.2).map encH), .lst (sl.map encH)]) (xs := [.int r]) (i := 0) (y := .int ((r / many : Nat) : Int)) rfl (by omega) (by simp)
      simp only [xgAt, xVar0, xVarS, xP, bind_okE, this]; rfl) ?_
  generalize hR : r / many = r1
  have hr1 : 1 ≤ r1 := by
    rw [← hR]; exact (Nat.one_le_div_iff (by omega)).mpr hmr
  have hmul : many * r1 ≤ r := by rw [← hR]; exact Nat.mul_div_le r many
  generalize hso : Ob.lst ((somes k.2).map encH) = so
  refine asgE (d := .ref 5) (S' := [o2, rmO r1, nmO rest, so, .lst (sl.map encH), .lst []]) rfl ?_
  simp only [List.set_cons_zero, List.set_cons_succ]
  refine rngS (n := many) (S' := [o2, rmO r1, nmO rest, so, .lst (sl.map encH), .lst []]) (cRng1_nat rfl (by omega)) (fun t ρ S => ∃ ss us o3 r3 G w6 w7 w12 w13 w14 w16, ρ = eH k b (some (.ref 4)) w6 w7 (some (.p (encH g))) (some (.p (.str n))) (some (.p (.int many))) (some (.ref 5)) w12 w13 w14 none w16 ∧ S = o3 :: rmO r3 :: nmO rest :: so :: .lst (sl.map encH) :: .lst (ss.map encZ) :: G ∧ Pool o3 ∧ ss.length = t ∧ Sides (fun w s => Fm b 3 k.1 [(n, kAt g)] w s) ss us r1 r3)
    ⟨[], [], o2, r1, [], _, _, _, _, _, _, rfl, rfl, ho2, rfl, .nil, hr1, Nat.le_refl _, by simp⟩ ?_ ?_
  · rintro t ρ S ht ⟨ss, us, o3, r3, G, w6, w7, w12, w13, w14, w16, rfl, rfl, ho3, hss, hS⟩
    refine Nd.go (turnE rfl ?_)
    obtain ⟨_, _, e6, h, o4, hh, rfl, rfl, ho4⟩ := pickL (n := 3) (c := cVar 5) (draw := cCallV true run jn (cCons (cVar 2) (cCons (c1 gLen (cCons (cVar 5) cNil)) cNil))) (l := sl) (ρ := eH k b (some (.ref 4)) w6 w7 (some (.p (encH g))) (some (.p (.str n))) (some (.p (.int many))) (some (.ref 5)) (some (.p (.int t))) w13 w14 none w16) (o := o3) (R := rmO r3 :: nmO rest :: so :: .lst (sl.map encH) :: .lst (ss.map encZ) :: G) (fun _ => rfl) rfl
      (hn.d0 (ca := cVar 2) (cb := c1 gLen (cCons (cVar 5) cNil)) (base := sl.length) rfl (by simp only [x1, xCons, xNil, xVar0, xVarS, bind_okE]; rw [vLenRef (n := 4) rfl, List.length_map]) ho3 (by omega) (by omega))
    obtain ⟨hhs, hka⟩ := hslm h hh
    obtain ⟨hhm, hhi⟩ := somes_mem hhs
    obtain ⟨h4, hfs⟩ := hmk _ hhm
    have h4 : h.2.1.length ≤ 4 := h4
    refine asgG e6 (ρ' := eH k b (some (.ref 4)) (some (.p (.str h.1))) (some (.p (.tup (h.2.1.map .str)))) (some (.p (encH g))) (some (.p (.str n))) (some (.p (.int many))) (some (.ref 5)) (some (.p (.int t))) (some (.p (.int h.2.2))) w14 none w16) (S'' := o4 :: rmO r3 :: nmO rest :: so :: .lst (sl.map encH) :: .lst (ss.map encZ) :: G) rfl ?_
    obtain ⟨ys, _, e7, ⟨o5, r5, u, ps, G2, rfl, rfl, ho5, hF, g1, g2⟩, hly⟩ : Nd (cComp (cIt (cVar 7)) (gN 16) cYes (cCallV true run ish (cCons (cVar 1) (cCons (cVar 16) (cCons (cVar 2) (cCons (cP (.int 1)) (cCons (cVar 3) (cCons (cTr (cLst cNil)) cNil))))))) [16] (eH k b (some (.ref 4)) (some (.p (.str h.1))) (some (.p (.tup (h.2.1.map .str)))) (some (.p (encH g))) (some (.p (.str n))) (some (.p (.int many))) (some (.ref 5)) (some (.p (.int t))) (some (.p (.int h.2.2))) w14 none w16) (o4 :: rmO r3 :: nmO rest :: so :: .lst (sl.map encH) :: .lst (ss.map encZ) :: G))
        fun ys S' => (∃ o5 r5 u ps G2, ys = ps.map encZ ∧ S' = o5 :: rmO r5 :: nmO rest :: so :: .lst (sl.map encH) :: .lst (ss.map encZ) :: G2 ∧ Pool o5 ∧ FmL (Fm b 2) h.2.1 [] u ps ∧ 1 ≤ r5 ∧ u * r5 ≤ r3) ∧ ys.length = h.2.1.length := by
      refine cmpD (enc := P.str) (l := h.2.1) (S' := o4 :: rmO r3 :: nmO rest :: so :: .lst (sl.map encH) :: .lst (ss.map encZ) :: G) rfl (by omega) (fun pre acc S => ∃ o5 r5 u ps G2, acc = ps.map encZ ∧ S = o5 :: rmO r5 :: nmO rest :: so :: .lst (sl.map encH) :: .lst (ss.map encZ) :: G2 ∧ Pool o5 ∧ FmL (Fm b 2) pre [] u ps ∧ 1 ≤ r5 ∧ u * r5 ≤ r3) ⟨o4, r3, 1, [], G, rfl, rfl, ho4, .nil, hS.pos, by omega⟩ ?_ fun ys S hl h => ⟨h, hl⟩
      rintro pre f post acc S hl ha ⟨o5, r5, u, ps, G2, rfl, rfl, ho5, hF, g1, g2⟩
      have hf : Kn b f := hfs f (by show f ∈ h.2.1; rw [hl]; simp)
      obtain ⟨s, o6, r6, ns6, e8, ho6, h1, u1, k1, k2, k3, k4⟩ := hsh f hf (o5 :: rmO r5 :: nmO rest :: so :: .lst (sl.map encH) :: .lst (ss.map encZ) :: (G2 ++ [nmO []])) 0 1 (G2.length + 6) o5 r5 [] (by omega) (by omega) (by omega) rfl ho5 rfl (by simp) g1 (by simp) (fun _ => rfl)
      have h1e : h1 = [] := List.map_eq_nil_iff.mp (List.append_eq_nil_iff.mp k4).1
      subst h1e
      unfold mkSh at e8
      have eS : ∀ x : Ob, (((o5 :: rmO r5 :: nmO rest :: so :: .lst (sl.map encH) :: .lst (ss.map encZ) :: (G2 ++ [nmO []])).set 0 o6).set 1 (rmO r6)).set (G2.length + 6) x = o6 :: rmO r6 :: nmO rest :: so :: .lst (sl.map encH) :: .lst (ss.map encZ) :: (G2 ++ [x]) := fun x => by
        show o6 :: rmO r6 :: nmO rest :: so :: .lst (sl.map encH) :: .lst (ss.map encZ) :: (G2 ++ [nmO []]).set G2.length x = _
        simp [List.set_append]
      rw [eS, show ((1 : Nat) : Int) = (1 : Int) from rfl] at e8
      have el : cTr (cLst cNil) (eH k b (some (.ref 4)) (some (.p (.str h.1))) (some (.p (.tup (h.2.1.map .str)))) (some (.p (encH g))) (some (.p (.str n))) (some (.p (.int many))) (some (.ref 5)) (some (.p (.int t))) (some (.p (.int h.2.2))) w14 none (some (.p (.str f)))) (o5 :: rmO r5 :: nmO rest :: so :: .lst (sl.map encH) :: .lst (ss.map encZ) :: G2) = .ok (.ref (G2.length + 6)) (o5 :: rmO r5 :: nmO rest :: so :: .lst (sl.map encH) :: .lst (ss.map encZ) :: (G2 ++ [nmO []])) := rfl
      simp only [xgN, bind_okE, wipeE, List.set_cons_zero, List.set_cons_succ, xCallV, xCons, xNil, xVar0, xVarS, xP, el, e8]
      refine .ok ⟨_, rfl, o6, r6, u * u1, ps ++ [s], G2 ++ [nmO ns6], by rw [List.map_append]; rfl, rfl, ho6, hF.snoc k1, k2, ?_⟩
      calc u * u1 * r6 = u * (u1 * r6) := Nat.mul_assoc _ _ _
        _ ≤ u * r5 := Nat.mul_le_mul_left _ k3
        _ ≤ r3 := g2
    rw [List.length_map] at hly
    refine asgE (d := .ref (G2.length + 6)) (S' := o5 :: rmO r5 :: nmO rest :: so :: .lst (sl.map encH) :: .lst (ss.map encZ) :: (G2 ++ [.lst (ps.map encZ)])) (by rw [xTr, e7, bind_okE]; rfl) ?_
    simp only [List.set_cons_zero, List.set_cons_succ]
    refine asgG (d := .p (encZ (.held n .any))) (S' := o5 :: rmO r5 :: nmO rest :: so :: .lst (sl.map encH) :: .lst (ss.map encZ) :: (G2 ++ [.lst (ps.map encZ)])) rfl
      (ρ' := eH k b (some (.ref 4)) (some (.p (.str h.1))) (some (.p (.tup (h.2.1.map .str)))) (some (.p (encH g))) (some (.p (.str n))) (some (.p (.int many))) (some (.ref 5)) (some (.p (.int t))) (some (.p (.int h.2.2))) (some (.ref (G2.length + 6))) none w16) (S'' := o5 :: rmO r5 :: nmO rest :: so :: .lst (sl.map encH) :: .lst (ss.map encZ) :: (G2 ++ [.lst ((ps.set h.2.2 (.held n .any)).map encZ)])) (by
        have := vSetL (n := G2.length + 6) (S := o5 :: rmO r5 :: nmO rest :: so :: .lst (sl.map encH) :: .lst (ss.map encZ) :: (G2 ++ [.lst (ps.map encZ)])) (xs := ps.map encZ) (i := (h.2.2 : Int)) (y := encZ (.held n .any)) (by
          show (G2 ++ [.lst (ps.map encZ)])[G2.length]? = _
          simp) (by omega) (by rw [List.length_map]; omega)
        simp only [xgAt, xVar0, xVarS, bind_okE, this]
        show R.ok _ (o5 :: rmO r5 :: nmO rest :: so :: .lst (sl.map encH) :: .lst (ss.map encZ) :: (G2 ++ [Ob.lst (ps.map encZ)]).set G2.length _) = _
        rw [List.map_set, Int.toNat_natCast]
        simp [List.set_append]) ?_
    obtain ⟨u', hF', hu'⟩ := FmL.set (F := Fm b 2) (fun _ _ _ _ => Fm.pos) (f := kAt g) (h1 := [(n, kAt g)]) (s := .held n .any) ⟨[], rfl, rfl, rfl⟩ (i := h.2.2) hF rfl (by rw [← hka, List.getElem?_eq_getElem hhi]; simp [kAt, hhi])
    have tp : gTuple [.ref (G2.length + 6)] (o5 :: rmO r5 :: nmO rest :: so :: .lst (sl.map encH) :: .lst (ss.map encZ) :: (G2 ++ [.lst ((ps.set h.2.2 (.held n .any)).map encZ)])) = .ok (.p (.tup ((ps.set h.2.2 (.held n .any)).map encZ))) (o5 :: rmO r5 :: nmO rest :: so :: .lst (sl.map encH) :: .lst (ss.map encZ) :: (G2 ++ [.lst ((ps.set h.2.2 (.held n .any)).map encZ)])) := vTupRef (by
      show (G2 ++ [Ob.lst ((ps.set h.2.2 (.held n .any)).map encZ)])[G2.length]? = _
      simp)
    have ty5 : ∀ G3, isTy "list" (.ref 5) (o5 :: rmO r5 :: nmO rest :: so :: .lst (sl.map encH) :: .lst (ss.map encZ) :: G3) = true := fun G3 => by unfold isTy; simp
    have ap : ∀ G3, gAppend (.ref 5) [.p (encZ (.make h.1 (ps.set h.2.2 (.held n .any))))] (o5 :: rmO r5 :: nmO rest :: so :: .lst (sl.map encH) :: .lst (ss.map encZ) :: G3) = .ok (.p .non) (o5 :: rmO r5 :: nmO rest :: so :: .lst (sl.map encH) :: .lst ((ss ++ [Shp.make h.1 (ps.set h.2.2 (.held n .any))]).map encZ) :: G3) := fun G3 => by
      rw [vAppend (n := 5) rfl (by rw [List.length_map, sizeLine_val]; omega), List.map_append]; rfl
    have et : cTup (cCons (cP (.str "make")) (cCons (cVar 6) (cCons (c1 gTuple (cCons (cVar 14) cNil)) cNil))) (eH k b (some (.ref 4)) (some (.p (.str h.1))) (some (.p (.tup (h.2.1.map .str)))) (some (.p (encH g))) (some (.p (.str n))) (some (.p (.int many))) (some (.ref 5)) (some (.p (.int t))) (some (.p (.int h.2.2))) (some (.ref (G2.length + 6))) none w16) (o5 :: rmO r5 :: nmO rest :: so :: .lst (sl.map encH) :: .lst (ss.map encZ) :: (G2 ++ [.lst ((ps.set h.2.2 (.held n .any)).map encZ)])) = .ok (.p (encZ (.make h.1 (ps.set h.2.2 (.held n .any))))) (o5 :: rmO r5 :: nmO rest :: so :: .lst (sl.map encH) :: .lst (ss.map encZ) :: (G2 ++ [.lst ((ps.set h.2.2 (.held n .any)).map encZ)])) := by
      simp only [xTup, xCons, xNil, xP, bind_okE, xVar0, xVarS, x1, tp, allP, List.length_cons, List.length_nil, sizeLine_val, Nat.reduceAdd, Nat.reduceLeDiff, if_true, encZ, encZs_eq]
    simp only [xDrop, xM, xVar0, xVarS, bind_okE, ty5, if_true, xCons, xNil, et, ap]
    refine .ok ⟨_, rfl, ss ++ [Shp.make h.1 (ps.set h.2.2 (.held n .any))], us ++ [u'], o5, r5, _, _, _, _, _, _, _, rfl, rfl, ho5, by rw [List.length_append, hss]; rfl, ?_⟩
    have hFm : Fm b 3 k.1 [(n, kAt g)] u' (.make h.1 (ps.set h.2.2 (.held n .any))) := ⟨h.2.1, by rw [mkOf_at hb hk]; exact hhm, hF'⟩
    exact hS.snoc hFm g1 (Nat.le_trans (Nat.mul_le_mul_right _ hu') g2) hFm.pos
  · rintro ρ S ⟨ss, us, o3, r3, G, w6, w7, w12, w13, w14, w16, rfl, rfl, ho3, hss, hS⟩
    refine retE (d := .p (encZ (.either ss))) (S' := o3 :: rmO r3 :: nmO rest :: so :: .lst (sl.map encH) :: .lst (ss.map encZ) :: G) ?_ ⟨_, o3, r3, rest, _, rfl, rfl, ho3, hS.either hss hm1 hmul rfl⟩
    have tp : gTuple [.ref 5] (o3 :: rmO r3 :: nmO rest :: so :: .lst (sl.map encH) :: .lst (ss.map encZ) :: G) = .ok (.p (.tup (ss.map encZ))) (o3 :: rmO r3 :: nmO rest :: so :: .lst (sl.map encH) :: .lst (ss.map encZ) :: G) := vTupRef rfl
    simp only [xTup, xCons, xNil, xP, bind_okE, xVar0, xVarS, x1, tp, allP, List.length_cons, List.length_nil, sizeLine_val, Nat.reduceAdd, Nat.reduceLeDiff, if_true, encZ, encZs_eq]
end Gs
set_option Elab.async false
set_option linter.all false
set_option maxRecDepth 100000
set_option maxHeartbeats 4000000
namespace Gs
open Cw L2
open PySem hiding Run

section
variable {T : List Fd} {ish jn jh js je : Nat} {b : List Kd}
theorem sh0 (hb : BookOk b) (h : T[ish]? = some (f_law_shape ish jn jh js je)) (he : T[je]? = some (f_law_either ish jn)) (hN : ∀ k, NextOk (runT T (k + 1)) jn) (hS : ∀ k, StrRun (runT T (k + 3)) js) : ∀ d k, 2 * d + 3 ≤ k → ShM b false d (runT T (k + 1)) ish
  | 0, k, hk => fun z hz => by
    obtain ⟨k, rfl⟩ : ∃ k', k = k' + 3 := ⟨k - 3, by omega⟩
    exact sh3_of (mk3_sh (encB b) (.str z) (.int (0 : Nat))) h rfl fun o r ns ho hr hl hm => body_shape (runT T (k + 3)) (hN (k + 2)) (hS k) hb false 0 (fun d' e => by omega) (fun e => by omega) (fun e => by cases e) hz ho hr hl hm
  | d + 1, k, hk => fun z hz => by
    obtain ⟨k, rfl⟩ : ∃ k', k = k' + 3 := ⟨k - 3, by omega⟩
    exact sh3_of (mk3_sh (encB b) (.str z) (.int (d + 1 : Nat))) h rfl fun o r ns ho hr hl hm => body_shape (runT T (k + 3)) (hN (k + 2)) (hS k) hb false (d + 1) (fun d' e => by
        have : d' = d := by omega
        subst this
        exact sh0 hb h he hN hS d' (k + 2) (by omega)) (fun _ z hz => sh3_of (mk3_sh (encB b) (.str z) (.int (d + 1 : Nat))) he rfl fun o r ns ho hr hl hm => body_either (runT T (k + 2)) (hN (k + 1)) hb false d (sh0 hb h he hN hS d (k + 1) (by omega)) hz ho hm.1 hl hm.2) (fun e => by cases e) hz ho hr hl hm
theorem sh1 (hb : BookOk b) (h : T[ish]? = some (f_law_shape ish jn jh js je)) (he : T[je]? = some (f_law_either ish jn)) (hh : T[jh]? = some (f_law_holding ish jn)) (hN : ∀ k, NextOk (runT T (k + 1)) jn) (hS : ∀ k, StrRun (runT T (k + 3)) js) : ∀ d k, 2 * d + 7 ≤ k → ShM b true d (runT T (k + 1)) ish
  | d, k, hk => fun z hz => by
    obtain ⟨k, rfl⟩ : ∃ k', k = k' + 7 := ⟨k - 7, by omega⟩
    refine sh3_of (mk3_sh (encB b) (.str z) (.int (d : Nat))) h rfl fun o r ns ho hr hl hm => body_shape (runT T (k + 7)) (hN (k + 6)) (hS (k + 4)) hb true d (fun d' e => sh1 hb h he hh hN hS d' (k + 6) (by omega)) (fun e => ?_) (fun _ kk hkk => ?_) hz ho hr hl hm
    · obtain ⟨d', rfl⟩ : ∃ d', d = d' + 1 := ⟨d - 1, by omega⟩
      exact fun z hz => sh3_of (mk3_sh (encB b) (.str z) (.int (d' + 1 : Nat))) he rfl fun o r ns ho hr hl hm => body_either (runT T (k + 6)) (hN (k + 5)) hb true d' (sh0 hb h he hN hS d' (k + 5) (by omega)) hz ho hm.1 hl hm.2
    · exact sh3_of (mk3_ho (.tup (kk.2.map encM)) (encB b)) hh rfl fun o r ns ho hr hl hm => body_holding (runT T (k + 6)) (hN (k + 5)) hb (sh0 hb h he hN hS 1 (k + 5) (by omega)) hkk ho hm.1 hl hm.2.1 hm.2.2
end
/-- a drawn shape -/
structure ShpOk (b : List Kd) (z : Str) (s : Shp) (hl : List (Str × Str)) (u : Nat) : Prop where
  fm : Fm b 6 z hl u s
  few : u ≤ 24
  free : ∃ r, hl.map (·.1) ++ r = freeOf b
def DshRun (run : Run) (i : Nat) (b : List Kd) : Prop := ∀ z, Kn b z → Takes Pool run i (fun q => [.p (encB b), .p (.str z), q]) fun x => ∃ s hl u, x = encZ s ∧ ShpOk b z s hl u
theorem tabR_in {x : P} (h : x ∈ [P.int 1, .int 2, .int 6, .int 24]) : ∃ t : Nat, x = .int t ∧ 1 ≤ t ∧ t ≤ 24 := by
  simp at h
  rcases h with h | h | h | h
  · exact ⟨1, h, by omega, by omega⟩
  · exact ⟨2, h, by omega, by omega⟩
  · exact ⟨6, h, by omega, by omega⟩
  · exact ⟨24, h, by omega, by omega⟩
theorem Dr.shp {b : List Kd} {z : Str} {d r : Nat} {s : Shp} {r' : Nat} {ns' : List Str} (h : Dr b z d r (freeOf b) s r' ns') (hd : d ≤ 6) (hr : r ≤ 24) : ∃ hl u, u ≤ r ∧ ShpOk b z s hl u := by
  obtain ⟨hl, u, hf, h1, h2, h3⟩ := h
  have : u ≤ r := Nat.le_trans (Nat.le_mul_of_pos_right u h1) h2
  exact ⟨hl, u, this, hf.mono hd, by omega, ns', h3⟩
theorem body_drawn (run : Run) {ifr ish jn : Nat} {b : List Kd} (hn : NextOk run jn) (hf : FreeRun run ifr b) (hsh : ∀ d, d ≤ 3 → ShM b true d run ish) {z : Str} (hz : Kn b z) {o : Ob} (ho : Pool o) :
    Nd (b_law_drawn_shape ifr ish jn run [some (.p (encB b)), some (.p (.str z)), some (.ref 0), none, none] [o]) fun f S' => ∃ x o', toldN 1 f S' = some x ∧ S'[0]? = some o' ∧ Pool o' ∧ ∃ s hl u, x = encZ s ∧ ShpOk b z s hl u := by
  obtain ⟨_, _, e1, w, o1, rfl, rfl, ho1, hw⟩ := hn.d0 (ca := cVar 2) (cb := cP (.int 3)) (ρ := [some (.p (encB b)), some (.p (.str z)), some (.ref 0), none, none]) (base := 3) (S := []) rfl rfl ho (by omega) (by omega)
  have hd : 1 + (w : Int) = ((1 + w : Nat) : Int) := by omega
  refine asgE (d := .p (.int ((1 + w : Nat) : Int))) (S' := [o1]) (by rw [x2, xP, bind_okE, e1, bind_okE, vAdd, hd]) ?_
  simp only [List.set_cons_zero, List.set_cons_succ]
  obtain ⟨_, _, e2, x, o2, hx, rfl, rfl, ho2⟩ := pick0 (tbl := cRo (cLst (cCons (cP (.int 1)) (cCons (cP (.int 2)) (cCons (cP (.int 6)) (cCons (cP (.int 24)) cNil)))))) (xs := [.int 1, .int 2, .int 6, .int 24]) (S := []) (ρ := [some (.p (encB b)), some (.p (.str z)), some (.ref 0), some (.p (.int ((1 + w : Nat) : Int))), none]) (o := o1) rfl
    (hn.d0 (ca := cVar 2) (cb := cP (.int 4)) (base := 4) rfl rfl ho1 (by omega) (by omega))
  obtain ⟨r, rfl, hr1, hr2⟩ := tabR_in hx
  refine asgE (d := .ref 1) (S' := [o2, rmO r]) (by
    rw [xTr, xLst, xCons, e2, bind_okE, xNil]; rfl) ?_
  simp only [List.set_cons_zero, List.set_cons_succ]
  obtain ⟨s, o3, r3, ns3, e3, ho3, hdr⟩ := hsh (1 + w) (by omega) z hz [o2, rmO r, nmO (freeOf b)] 0 1 2 o2 r (freeOf b) (by omega) (by omega) (by omega) rfl ho2 rfl rfl hr1 (by have := free_len b; omega) (fun h => by cases h)
  obtain ⟨hl, u, _, hs⟩ := hdr.shp (by simp [dmx]; omega) hr2
  refine retE (d := .p (encZ s)) (S' := [o3, rmO r3, nmO ns3]) ?_ ⟨_, o3, rfl, rfl, ho3, s, hl, u, rfl, hs⟩
  have ef := hf.tr [o2, rmO r]
  unfold mkSh at e3
  simp only [xCallV, xCons, xNil, xVar0, xVarS, bind_okE, ef, List.length_cons, List.length_nil, List.cons_append, List.nil_append, Nat.reduceAdd, Nat.zero_add, e3]
  rfl
theorem drawn_ok {T : List Fd} {k i ifr ish jn : Nat} {b : List Kd} (h : T[i]? = some (f_law_drawn_shape ifr ish jn)) (hn : NextOk (runT T k) jn) (hf : FreeRun (runT T k) ifr b) (hsh : ∀ d, d ≤ 3 → ShM b true d (runT T k) ish) : DshRun (runT T (k + 1)) i b := fun z hz =>
  takes_of (mk := fun q => [.p (encB b), .p (.str z), q]) ⟨fun n => rfl, fun n => by simp [numOf]⟩ (fun _ h => h.live) h rfl fun o ho => body_drawn (runT T k) hn hf hsh hz ho
end Gs
set_option Elab.async false
set_option linter.all false
set_option maxRecDepth 100000
set_option maxHeartbeats 4000000
namespace Gs
open Cw L2
open PySem hiding Run

/-! ### plain_values of the program -/
def DicIs (kvs : List (Key × P)) (o : Ob) : Prop := o = .dic kvs
def FirstRun (run : Run) (i : Nat) : Prop := ∀ (ah : List (Key × P)) (ks : List Str) (ms : List Mk), KeyIs ah ks → ms.length ≤ 6 → (∀ m ∈ ms, m.2.length ≤ 4) → Takes (DicIs ah) run i (fun q => [.p (.tup (ms.map encM)), q]) fun x => x = madeOf ah ks ms
theorem body_first (run : Run) {ah : List (Key × P)} {ks : List Str} {ms : List Mk} (hk : KeyIs ah ks) (h6 : ms.length ≤ 6) (h4 : ∀ m ∈ ms, m.2.length ≤ 4) :
    Nd (b_first_made run [some (.p (.tup (ms.map encM))), some (.ref 0), none, none, none] [.dic ah]) fun f S' => ∃ x o', toldN 1 f S' = some x ∧ S'[0]? = some o' ∧ DicIs ah o' ∧ x = madeOf ah ks ms := by
  refine forS (enc := encM) (l := ms) (S' := [.dic ah]) rfl (fun pre ρ S => ∃ v2 v3 v4, ρ = [some (.p (.tup (ms.map encM))), some (.ref 0), v2, v3, v4] ∧ S = [.dic ah] ∧ pre.any (gd ks) = false) ⟨_, _, _, rfl, rfl, rfl⟩ ?_ ?_
  · rintro pre m post ρ S hl ⟨v2, v3, v4, rfl, rfl, hn⟩
    have hm : m ∈ ms := by rw [hl]; simp
    refine turnE (ρ1 := [some (.p (.tup (ms.map encM))), some (.ref 0), some (.p (.str m.1)), some (.p (.tup (m.2.map .str))), v4]) rfl ?_
    have g1 := gd_E (j := 4) (k := 1) (f := 3) (m := m) (ρ := [some (.p (.tup (ms.map encM))), some (.ref 0), some (.p (.str m.1)), some (.p (.tup (m.2.map .str))), v4]) (S := [.dic ah]) rfl (by simp) (by omega) rfl (by have := h4 m hm; omega) rfl hk
    cases hg : gd ks m with
    | true =>
      have e1 := made_E (im := 2) (f := 3) (j := 4) (k := 1) (m := m) (ρ := [some (.p (.tup (ms.map encM))), some (.ref 0), some (.p (.str m.1)), some (.p (.tup (m.2.map .str))), v4]) (S := [.dic ah]) rfl rfl (by simp) (by omega) rfl (by have := h4 m hm; omega) rfl hk hg
      refine ifT (S' := [.dic ah]) (by rw [xTru, g1, bind_okE, hg]; rfl) ?_
      refine retE e1 (.inr ⟨_, rfl, valOf ah m, _, rfl, rfl, rfl, ?_⟩)
      rw [hl, made_snoc hn hg]
    | false =>
      refine ifF (S' := [.dic ah]) (by rw [xTru, g1, bind_okE, hg]; rfl) ?_
      exact .ok (.inl ⟨_, rfl, _, _, _, rfl, rfl, by rw [List.any_append, hn]; simp [hg]⟩)
  · rintro ρ S ⟨v2, v3, v4, rfl, rfl, hn⟩
    refine retE (d := .p .non) (S' := [.dic ah]) rfl ⟨.non, _, rfl, rfl, rfl, ?_⟩
    unfold madeOf
    rw [List.find?_eq_none.mpr fun y hy => by have := List.any_eq_false.mp hn y hy; simpa using this]
theorem first_ok {T : List Fd} {k i : Nat} (h : T[i]? = some f_first_made) : FirstRun (runT T (k + 1)) i := fun ah ks ms hk h6 h4 =>
  takes_of ⟨fun n => rfl, fun n => by simp [numOf]⟩ (fun _ h => by rw [h]; rfl) h rfl fun o ho => by
    have ho : o = .dic ah := ho
    subst ho
    exact body_first (runT T k) hk h6 h4
def RoundRun (run : Run) (i : Nat) (b : List Kd) : Prop := ∀ (ah : List (Key × P)) (ks : List Str), KeyIs ah ks → Takes (DicIs ah) run i (fun q => [.p (encB b), q]) fun x => ∃ fr, x = .dic fr ∧ Fresh b ah ks fr
theorem body_round (run : Run) {i1 : Nat} {b : List Kd} (hb : BookOk b) (h1 : FirstRun run i1) {ah : List (Key × P)} {ks : List Str} (hk : KeyIs ah ks) :
    Nd (b_next_round i1 run [some (.p (encB b)), some (.ref 0), none, none, none, none] [.dic ah]) fun f S' => ∃ x o', toldN 1 f S' = some x ∧ S'[0]? = some o' ∧ DicIs ah o' ∧ ∃ fr, x = .dic fr ∧ Fresh b ah ks fr := by
  refine asgE (d := .ref 1) (S' := [.dic ah, .dic []]) rfl ?_
  simp only [List.set_cons_zero, List.set_cons_succ]
  refine forS (enc := encK) (l := b) (S' := [.dic ah, .dic []]) rfl (fun pre ρ S => ∃ fr v3 v4 v5, ρ = [some (.p (encB b)), some (.ref 0), some (.ref 1), v3, v4, v5] ∧ S = [.dic ah, .dic fr] ∧ Fresh pre ah ks fr) ⟨[], _, _, _, rfl, rfl, rfl, by simp⟩ ?_ ?_
  · rintro pre k post ρ S hl ⟨fr, v3, v4, v5, rfl, rfl, F⟩
    have hkb : k ∈ b := by rw [hl]; simp
    obtain ⟨hp, h6, hmk⟩ := hb.ok k hkb
    refine Nd.go (turnE (ρ1 := [some (.p (encB b)), some (.ref 0), some (.ref 1), some (.p (.str k.1)), some (.p (.tup (k.2.map encM))), v5]) rfl ?_)
    obtain ⟨x, o', e1, ho', rfl⟩ := h1 ah ks k.2 hk h6 (fun m hm => (hmk m hm).1) [.dic ah, .dic fr] 0 (.dic ah) rfl rfl
    have ho' : o' = .dic ah := ho'
    subst ho'
    refine asgE (d := .p (madeOf ah ks k.2)) (S' := [.dic ah, .dic fr]) (by simp only [xCallV, xCons, xNil, xVar0, xVarS, bind_okE]; exact e1) ?_
    simp only [List.set_cons_zero, List.set_cons_succ]
    have hnew : k.1 ∉ fk pre ks := fun q => by
      obtain ⟨k2, hk2, e2, _⟩ := fk_mem.mp q
      have nd := hb.nd
      rw [hl, List.map_append, List.nodup_append] at nd
      exact nd.2.2 k2.1 (List.mem_map_of_mem hk2) k.1 (by simp) e2
    have i1 := vInKeys (z := k.1) (y := .ref 0) true [.dic ah, .dic fr] rfl hk
    have mN := made_isN (kvs := ah) (ks := ks) (ms := k.2)
    have tst : cAnd (cT (c2 (gInB true) (cVar 3) (cVar 1))) (cT (c2 (gIs true) (cVar 5) (cP .non))) [some (.p (encB b)), some (.ref 0), some (.ref 1), some (.p (.str k.1)), some (.p (.tup (k.2.map encM))), some (.p (madeOf ah ks k.2))] [.dic ah, .dic fr] = .ok (!decide (k.1 ∈ ks) && k.2.any (gd ks)) [.dic ah, .dic fr] := by
      simp only [xAnd, xT, x2, xVar0, xVarS, bind_okE, i1, if_true, xbT]
      cases decide (k.1 ∈ ks) with
      | true => simp only [Bool.not_true, Bool.false_eq_true, if_false, Bool.false_and]
      | false => simp only [Bool.not_false, if_true, xP, bind_okE, vIsnt, mN, Bool.not_not, xbT, Bool.true_and]
    cases hq : !decide (k.1 ∈ ks) && k.2.any (gd ks) with
    | false =>
      rw [hq] at tst
      refine ifF tst (.ok ⟨_, rfl, fr, _, _, _, rfl, rfl, ?_⟩)
      have hf : fk (pre ++ [k]) ks = fk pre ks := by rw [fk_snoc, hq, if_neg Bool.false_ne_true, List.append_nil]
      refine ⟨by rw [hf]; exact F.keys, fun k2 hk2 h3 => ?_⟩
      rw [hf] at h3
      rcases List.mem_append.mp hk2 with z | z
      · exact F.val k2 z h3
      · rw [List.mem_singleton] at z; subst z; exact absurd h3 hnew
    | true =>
      rw [hq] at tst
      refine ifT tst ?_
      have hlen : fr.length < 16777216 := by
        rw [F.keys.len]
        unfold fk
        rw [List.length_map]
        have := List.length_filter_le (fun k : Kd => !decide (k.1 ∈ ks) && k.2.any (gd ks)) pre
        have h6 := hb.len
        rw [hl, List.length_append] at h6
        omega
      have hset := vSetD (n := 1) (z := k.1) (y := madeOf ah ks k.2) (S := [.dic ah, .dic fr]) rfl hlen
      simp only [xAsg, xVar0, xVarS, bind_okE, xgAt, hset]
      refine .ok ⟨_, rfl, _, _, _, _, rfl, rfl, ?_⟩
      have hf : fk (pre ++ [k]) ks = fk pre ks ++ [k.1] := by rw [fk_snoc, hq, if_pos rfl]
      refine ⟨by rw [hf]; exact F.keys.put hnew _, fun k2 hk2 h3 => ?_⟩
      rw [hf] at h3
      rw [look_put F.keys hnew]
      rcases List.mem_append.mp hk2 with z | z
      · have ne : k2.1 ≠ k.1 := by
          have nd := hb.nd
          rw [hl, List.map_append, List.nodup_append] at nd
          exact nd.2.2 k2.1 (List.mem_map_of_mem z) k.1 (by simp)
        rw [if_neg ne]
        exact F.val k2 z ((List.mem_append.mp h3).elim id fun w => absurd (List.mem_singleton.mp w) ne)
      · rw [List.mem_singleton] at z; subst z; rw [if_pos rfl]
  · rintro ρ S ⟨fr, v3, v4, v5, rfl, rfl, F⟩
    exact retE (d := .ref 1) (S' := [.dic ah, .dic fr]) rfl ⟨.dic fr, _, rfl, rfl, rfl, fr, rfl, F⟩
theorem round_ok {T : List Fd} {k i i1 : Nat} {b : List Kd} (hb : BookOk b) (h : T[i]? = some (f_next_round i1)) (h1 : FirstRun (runT T k) i1) : RoundRun (runT T (k + 1)) i b := fun ah ks hk =>
  takes_of ⟨fun n => rfl, fun n => by simp [numOf]⟩ (fun _ h => by rw [h]; rfl) h rfl fun o ho => by
    have ho : o = .dic ah := ho
    subst ho
    exact body_round (runT T k) hb h1 hk
theorem body_pv (run : Run) {i1 : Nat} {b : List Kd} (hb : BookOk b) (hr : RoundRun run i1 b) :
    Nd (b_plain_values i1 run [some (.p (encB b)), none, none] []) fun f S' => ∃ kvs ks, toldN 0 f S' = some (.dic kvs) ∧ KeyIs kvs ks ∧ ∀ z, z ∈ ks ↔ Alive b z := by
  have hrun : ∀ kvs ks v, KeyIs kvs ks → ∃ fr, cCallV true run i1 (cCons (cVar 0) (cCons (cVar 1) cNil)) [some (.p (encB b)), some (.ref 0), v] [.dic kvs] = .ok (.p (.dic fr)) [.dic kvs] ∧ KeyIs fr (fk b ks) := fun kvs ks v hk => by
    obtain ⟨x, o', e, ho', fr, rfl, F⟩ := hr kvs ks hk [.dic kvs] 0 (.dic kvs) rfl rfl
    have ho' : o' = .dic kvs := ho'
    subst ho'
    refine ⟨fr, ?_, F.keys⟩
    simp only [xCallV, xCons, xNil, xVar0, xVarS, bind_okE]; exact e
  let I : Nat → Ev → Sto → Prop := fun m ρ S' => ∃ kvs ks fr, ρ = [some (.p (encB b)), some (.ref 0), some (.p (.dic fr))] ∧ S' = [.dic kvs] ∧ KeyIs kvs ks ∧ KeyIs fr (fk b ks) ∧ ks.Nodup ∧ (∀ z ∈ ks, Alive b z ∧ z ∈ num :: b.map (·.1)) ∧ num ∈ ks ∧ b.length + 1 - ks.length ≤ m
  have step : ∀ m ρ S', I m ρ S' → (∃ S1, (cT (c2 gGt (c1 gLen (cCons (cVar 2) cNil)) (cP (.int 0)))) ρ S' = .ok false S1 ∧ (∃ kvs ks v, ρ = [some (.p (encB b)), some (.ref 0), v] ∧ S1 = [.dic kvs] ∧ KeyIs kvs ks ∧ ∀ z, z ∈ ks ↔ Alive b z)) ∨
      ∃ m' S1 ρ' S2, m = m' + 1 ∧ (cT (c2 gGt (c1 gLen (cCons (cVar 2) cNil)) (cP (.int 0)))) ρ S' = .ok true S1 ∧ (sSeq (sDrop (cM "dict" gUpdate (cVar 1) (cCons (cVar 2) cNil))) (sAsg (cCallV true run i1 (cCons (cVar 0) (cCons (cVar 1) cNil))) (gN 2))) ρ S1 = .ok (.nx ρ') S2 ∧ I m' ρ' S2 := by
    rintro m ρ S' ⟨kvs, ks, fr, rfl, rfl, hk, hf, nd, ha, h0, hm⟩
    by_cases h : fk b ks = []
    · left
      rw [h] at hf
      have hl : fr.length = 0 := hf.len
      refine ⟨[.dic kvs], ?_, kvs, ks, _, rfl, rfl, hk, fun z => ⟨fun q => (ha z q).1, closed_alive (fk_closed h0 h)⟩⟩
      simp [hl]
    · right
      have hl : fr.length = (fk b ks).length := hf.len
      have hp : 0 < (fk b ks).length := List.length_pos_iff.mpr h
      have nf := fk_nd (ks := ks) hb.nd
      have hsub : ∀ z ∈ fk b ks, z ∈ num :: b.map (·.1) := fun z hz => by
        obtain ⟨k, hk, rfl, _⟩ := fk_mem.mp hz
        exact List.mem_cons_of_mem _ (names_mem hk)
      have hdis : ∀ z ∈ fk b ks, z ∉ ks := fun z hz => by obtain ⟨k, _, rfl, h, _⟩ := fk_mem.mp hz; exact h
      have ndu : (ks ++ fk b ks).Nodup := List.nodup_append.mpr ⟨nd, nf, fun a ha b hb e => hdis b hb (e ▸ ha)⟩
      have hall : ∀ z ∈ ks ++ fk b ks, Alive b z ∧ z ∈ num :: b.map (·.1) := fun z hz => by
        rcases List.mem_append.mp hz with q | q
        · exact ha z q
        · exact ⟨fk_alive (fun z hz => (ha z hz).1) z q, hsub z q⟩
      have hlen := nodup_sub_len _ _ ndu fun z hz => (hall z hz).2
      rw [List.length_append, List.length_cons, List.length_map] at hlen
      have hm0 := merge_new hk hf nf hdis
      have hk2 : KeyIs (kvs ++ fr) (ks ++ fk b ks) := by
        unfold KeyIs at hk hf ⊢; rw [List.map_append, List.map_append, hk, hf]
      obtain ⟨fr2, e2, hf2⟩ := hrun _ _ (some (.p (.dic fr))) hk2
      have h6 := hb.len
      have hup := vUpdate (n := 0) (kvs := kvs) (more := fr) (S := [.dic kvs]) rfl (by rw [hk.len, hl]; omega)
      rw [hm0] at hup
      refine ⟨m - 1, [.dic kvs], _, [.dic (kvs ++ fr)], by omega, ?_, ?_, kvs ++ fr, ks ++ fk b ks, fr2, rfl, rfl, hk2, hf2, ndu, hall, List.mem_append_left _ h0, by rw [List.length_append]; omega⟩
      · have : (0 : Int) < (fr.length : Nat) := by omega
        simp [this]
        omega
      · have ty : isTy "dict" (.ref 0) [.dic kvs] = true := vTyD rfl
        have hup : gUpdate (.ref 0) [.p (.dic fr)] [.dic kvs] = .ok (.p .non) [.dic (kvs ++ fr)] := hup
        rw [xSeq, xDrop, xM, xVarS, xVar0, bind_okE, ty, if_pos rfl, xCons, xVarS, xVarS, xVar0, bind_okE, xNil, bind_okE, bind_okE, hup, bind_okE, bind_okE]
        dsimp only
        rw [xAsg, e2, bind_okE]
        rfl
  have k0 : KeyIs [(.inr ("num" : Str), P.int 0)] [num] := rfl
  obtain ⟨fr, e1, hf⟩ := hrun _ _ none k0
  obtain ⟨ρ', S', e, kvs, ks, v, rfl, rfl, hk, ha⟩ := while_ind I _ step bigW (b.length + 1) _ _ ⟨_, [num], fr, rfl, rfl, k0, hf, by simp, fun z hz => by rw [List.mem_singleton] at hz; subst hz; exact ⟨.base, List.mem_cons_self⟩, by simp, by omega⟩ (by have := hb.len; unfold bigW; omega)
  refine asgE (disp0 _ _) ?_
  simp only [List.set_cons_zero, List.set_cons_succ, List.length_nil, List.nil_append]
  refine asgE e1 ?_
  simp only [List.set_cons_zero, List.set_cons_succ]
  rw [xSeq]
  unfold sWhile
  rw [e, bind_okE]
  exact retE (d := .ref 0) (S' := [.dic kvs]) rfl ⟨kvs, ks, rfl, hk, ha⟩
def PvRun (run : Run) (i : Nat) (b : List Kd) : Prop := ∃ kvs ks, Tells run i [encB b] (.dic kvs) ∧ KeyIs kvs ks ∧ ∀ z, z ∈ ks ↔ Alive b z
theorem pv_ok {T : List Fd} {k i i1 : Nat} {b : List Kd} (hb : BookOk b) (h : T[i]? = some (f_plain_values i1)) (h1 : RoundRun (runT T k) i1 b) : PvRun (runT T (k + 1)) i b := by
  obtain ⟨f, S', e, kvs, ks, h1, h2, h3⟩ := body_pv (runT T k) hb h1
  exact ⟨kvs, ks, tells_of h rfl ⟨f, S', e, h1⟩, h2, h3⟩
theorem gd_eq {ks ks2 : List Str} (h : ∀ z, z ∈ ks ↔ z ∈ ks2) (m : Mk) : gd ks m = gd ks2 m := by
  rw [Bool.eq_iff_iff, gd_iff, gd_iff]
  exact ⟨fun a f hf => (h f).mp (a f hf), fun a f hf => (h f).mpr (a f hf)⟩
theorem come_eq {b : List Kd} {ks ks2 : List Str} (h : ∀ z, z ∈ ks ↔ z ∈ ks2) : comeOf b ks = comeOf b ks2 := by
  funext z
  unfold comeOf
  congr 1
  funext m
  exact gd_eq h m
/-! ### all_makes, coming_fields -/
theorem body_all (run : Run) (b : List Kd) (z : Str) : Nd (b_all_makes run [some (.p (encB b)), some (.p (.str z)), none, none] []) fun f S' => toldN 0 f S' = some (.tup ((mkOf b z).map encM)) := by
  refine forS (enc := encK) (l := b) (S' := []) rfl (fun pre ρ S => S = [] ∧ (∀ k ∈ pre, k.1 ≠ z) ∧ ∃ v2 v3, ρ = [some (.p (encB b)), some (.p (.str z)), v2, v3]) ⟨rfl, by simp, _, _, rfl⟩ ?_ ?_
  · rintro pre k post ρ S hl ⟨rfl, hpre, v2, v3, rfl⟩
    refine turnE (ρ1 := [some (.p (encB b)), some (.p (.str z)), some (.p (.str k.1)), some (.p (.tup (k.2.map encM)))]) rfl ?_
    by_cases h : k.1 = z
    · refine ifT (S' := []) (by simp only [xT, x2, xVar0, xVarS, bind_okE, vEqS, h, decide_true, xbT]) (retE (d := .p (.tup (k.2.map encM))) (S' := []) rfl (.inr ⟨_, rfl, ?_⟩))
      have : mkOf b z = k.2 := by
        unfold mkOf
        rw [hl, List.find?_append, List.find?_eq_none.mpr fun y hy => by simpa using hpre y hy]
        simp [h]
      rw [this]; rfl
    · refine ifF (S' := []) (by simp only [xT, x2, xVar0, xVarS, bind_okE, vEqS, h, decide_false, xbT]) (.ok (.inl ⟨_, rfl, rfl, fun y hy => ?_, _, _, rfl⟩))
      rcases List.mem_append.mp hy with q | q
      · exact hpre y q
      · rw [List.mem_singleton] at q; subst q; exact h
  · rintro ρ S ⟨rfl, hpre, v2, v3, rfl⟩
    refine retE (d := .p (.tup [])) (S' := []) rfl ?_
    have : mkOf b z = [] := by
      unfold mkOf
      rw [List.find?_eq_none.mpr fun y hy => by simpa using hpre y hy]
    rw [this]; rfl
theorem all_ok {T : List Fd} {k i : Nat} (h : T[i]? = some f_all_makes) (b : List Kd) (z : Str) : Tells (runT T (k + 1)) i [encB b, .str z] (.tup ((mkOf b z).map encM)) := tells_of h rfl (body_all (runT T k) b z)
def comD (ms : List Mk) : List (Key × P) := ms.map fun m => (.inr m.1, .tup (m.2.map .str))
theorem comD_keys (ms : List Mk) : KeyIs (comD ms) (ms.map (·.1)) := by unfold KeyIs comD; rw [List.map_map, List.map_map]; rfl
theorem look_comD {ms : List Mk} {n : Str} : lookK (comD ms) (.inr n) = (ms.find? fun m => decide (m.1 = n)).map fun m => .tup (m.2.map .str) := by
  induction ms with
  | nil => rfl
  | cons m r ih =>
    by_cases h : m.1 = n
    · simp [comD, lookK, List.find?_cons, h]
    · have h2 : ¬ ((.inr m.1 : Key) = .inr n) := fun q => h (by cases q; rfl)
      rw [List.find?_cons]
      simp only [h, decide_false]
      rw [← ih]
      simp [comD, lookK, List.find?_cons, h2, h]
theorem body_cfields (run : Run) {ia : Nat} {b : List Kd} (hb : BookOk b) {kvs : List (Key × P)} {ks : List Str} (hk : KeyIs kvs ks) {z : Str} (ha : Tells run ia [encB b, .str z] (.tup ((mkOf b z).map encM))) (hnd : ((mkOf b z).map (·.1)).Nodup) :
    Nd (b_coming_fields ia run [some (.p (encB b)), some (.p (.dic kvs)), some (.p (.str z)), none, none, none, none] []) fun f S' => toldN 0 f S' = some (.dic (comD (comeOf b ks z))) := by
  obtain ⟨h6, h4⟩ := mkOf_ok hb z
  refine asgE (d := .ref 0) (S' := [.dic []]) rfl ?_
  simp only [List.set_cons_zero, List.set_cons_succ]
  have e0 := ha [.dic []]
  refine forS (enc := encM) (l := mkOf b z) (S' := [.dic []]) (by
    simp only [xIt, xCallV, xCons, xNil, xVar0, xVarS, bind_okE]
    have e0 : callV true run ia [.p (encB b), .p (.str z)] [.dic []] = _ := e0
    rw [e0]; rfl) (fun pre ρ S => ∃ v4 v5 v6, ρ = [some (.p (encB b)), some (.p (.dic kvs)), some (.p (.str z)), some (.ref 0), v4, v5, v6] ∧ S = [.dic (comD (pre.filter (gd ks)))]) ⟨_, _, _, rfl, rfl⟩ ?_ ?_
  · rintro pre m post ρ S hl ⟨v4, v5, v6, rfl, rfl⟩
    have hm : m ∈ mkOf b z := by rw [hl]; simp
    refine Nd.go (turnE (ρ1 := [some (.p (encB b)), some (.p (.dic kvs)), some (.p (.str z)), some (.ref 0), some (.p (.str m.1)), some (.p (.tup (m.2.map .str))), v6]) rfl ?_)
    have g1 := gd_E (j := 6) (k := 1) (f := 5) (m := m) (ρ := [some (.p (encB b)), some (.p (.dic kvs)), some (.p (.str z)), some (.ref 0), some (.p (.str m.1)), some (.p (.tup (m.2.map .str))), v6]) (S := [.dic (comD (pre.filter (gd ks)))]) rfl (by simp) (by omega) rfl (by have := h4 m hm; omega) rfl hk
    cases hg : gd ks m with
    | true =>
      refine ifT (S' := [.dic (comD (pre.filter (gd ks)))]) (by rw [xTru, g1, bind_okE, hg]; rfl) ?_
      have hnew : m.1 ∉ (pre.filter (gd ks)).map (·.1) := fun q => by
        obtain ⟨m2, hm2, e2⟩ := List.mem_map.mp q
        have h2 := (List.mem_filter.mp hm2).1
        rw [hl, List.map_append, List.nodup_append] at hnd
        exact hnd.2.2 m2.1 (List.mem_map_of_mem h2) m.1 (by simp) e2
      have hlen : (comD (pre.filter (gd ks))).length < 16777216 := by
        unfold comD
        rw [List.length_map]
        have := List.length_filter_le (gd ks) pre
        rw [hl, List.length_append] at h6
        omega
      have hset := vSetD (n := 0) (z := m.1) (y := .tup (m.2.map .str)) (S := [.dic (comD (pre.filter (gd ks)))]) rfl hlen
      rw [put_new (comD_keys _) hnew] at hset
      simp only [xAsg, xVar0, xVarS, bind_okE, xgAt, hset]
      refine .ok ⟨_, rfl, _, _, _, rfl, ?_⟩
      rw [List.filter_append]
      simp [comD, hg]
    | false =>
      refine ifF (S' := [.dic (comD (pre.filter (gd ks)))]) (by rw [xTru, g1, bind_okE, hg]; rfl) (.ok ⟨_, rfl, _, _, _, rfl, ?_⟩)
      rw [List.filter_append]
      simp [hg]
  · rintro ρ S ⟨v4, v5, v6, rfl, rfl⟩
    exact retE (d := .ref 0) (S' := [.dic (comD (comeOf b ks z))]) rfl rfl
theorem mkOf_nd {b : List Kd} (hb : BookOk b) (z : Str) : ((mkOf b z).map (·.1)).Nodup := by
  unfold mkOf
  split
  · rename_i k h
    have hk := List.mem_of_find?_eq_some h
    obtain ⟨s, t, e⟩ := List.append_of_mem hk
    have h1 := hb.mn
    rw [e, nms_app, show k :: t = [k] ++ t from rfl, nms_app, nms_one] at h1
    exact (List.nodup_append.mp (List.nodup_append.mp h1).2.1).1
  · simp
theorem cfields_ok {T : List Fd} {k i ia : Nat} {b : List Kd} (hb : BookOk b) (h : T[i]? = some (f_coming_fields ia)) {z : Str} (ha : Tells (runT T k) ia [encB b, .str z] (.tup ((mkOf b z).map encM))) {kvs : List (Key × P)} {ks : List Str} (hk : KeyIs kvs ks) : Tells (runT T (k + 1)) i [encB b, .dic kvs, .str z] (.dic (comD (comeOf b ks z))) :=
  tells_of h rfl (body_cfields (runT T k) hb hk ha (mkOf_nd hb z))
end Gs
set_option Elab.async false
set_option linter.all false
set_option maxRecDepth 100000
set_option maxHeartbeats 4000000
namespace Gs
open Cw L2
open PySem hiding Run

theorem vAddT (xs ys : List P) (S : Sto) (h : xs.length + ys.length ≤ 16777216) : gAdd (.p (.tup xs)) (.p (.tup ys)) S = .ok (.p (.tup (xs ++ ys))) S := by
  show (if xs.length + ys.length ≤ sizeLine then R.ok (Cw.D.p (P.tup (xs ++ ys))) S else R.no : R Cw.D) = _
  rw [if_pos (by rw [sizeLine_val]; exact h)]
theorem vAddRo (xs ys : List P) (S : Sto) (h : xs.length + ys.length ≤ 16777216) : gAdd (.p (.ro xs)) (.p (.ro ys)) S = .ok (.p (.ro (xs ++ ys))) S := by
  show (if xs.length + ys.length ≤ sizeLine then R.ok (Cw.D.p (P.ro (xs ++ ys))) S else R.no : R Cw.D) = _
  rw [if_pos (by rw [sizeLine_val]; exact h)]
theorem vExtRo {n : Nat} {xs zs : List P} {S : Sto} (hS : S[n]? = some (.lst xs)) (h : xs.length + zs.length ≤ 16777216) : gExtend (.ref n) [.p (.ro zs)] S = .ok (.p .non) (S.set n (.lst (xs ++ zs))) := by
  simp only [gExtend, onLst, hS, seqL, sizeLine_val, h, if_true]
theorem dep_S (s : Spot) : (encS s).dep ≤ 2 := by
  have : P.deps (s.map encT) ≤ 1 := deps_le fun x hx => by
    obtain ⟨t, _, rfl⟩ := List.mem_map.mp hx
    simp [encT, P.dep, P.deps]
  simp only [encS, P.dep]; omega
theorem dep_O (p : Option Spot) : (encO p).dep ≤ 2 := by
  cases p with
  | none => simp [encO, P.dep]
  | some s => exact dep_S s
theorem dep_Tst (t : Tst) : (encTst t).dep ≤ 3 := by
  cases t with
  | is s m => have := dep_S s; simp only [encTst, P.dep, P.deps]; omega
  | most p q d => have a := dep_O p; have b := dep_O q; simp only [encTst, P.dep, P.deps]; omega
/-! ### lines -/
abbrev Line := List Tst × List (Str × Spot)
def encQ (z : Str × Spot) : P := .tup [.str z.1, encS z.2]
def encL (l : Line) : P := .tup [.tup (l.1.map encTst), .tup (l.2.map encQ)]
theorem dep_L (l : Line) : (encL l).dep ≤ 5 := by
  have h1 : P.deps (l.1.map encTst) ≤ 3 := deps_le fun x hx => by
    obtain ⟨t, _, rfl⟩ := List.mem_map.mp hx
    exact dep_Tst t
  have h2 : P.deps (l.2.map encQ) ≤ 3 := deps_le fun x hx => by
    obtain ⟨t, _, rfl⟩ := List.mem_map.mp hx
    have := dep_S t.2
    simp only [encQ, P.dep, P.deps]; omega
  simp only [encL, P.dep, P.deps]; omega
theorem dep_Ls (l : List Line) : P.deps (l.map encL) ≤ 5 := deps_le fun x hx => by
  obtain ⟨t, _, rfl⟩ := List.mem_map.mp hx
  exact dep_L t
def jn (a c : List Line) : List Line := a.flatMap fun x => c.map fun y => (x.1 ++ y.1, x.2 ++ y.2)
def stT (sp : Spot) (lo hi : Option Int) : List Tst :=
  (match lo with | none => [] | some i => [Tst.most none (some sp) (-i)]) ++ (match hi with | none => [] | some i => [Tst.most (some sp) none i])
def partL (F : Str → Shp → Spot → List Line) (n : Str) (sp : Spot) : Nat → List Str → List Shp → List (List Line)
  | i, f :: fs, s :: ss => F f s (sp ++ [(n, i)]) :: partL F n sp (i + 1) fs ss
  | _, _, _ => []
def st0 (C : Come) (z n : Str) (sp : Spot) : List Line := if 1 < (C z).length then [([.is sp n], [])] else [([], [])]
/-- the lines of a shape -/
def LN (C : Come) : Nat → Str → Shp → Spot → List Line
  | 0, _, _, _ => []
  | d + 1, z, s, sp => match s with
    | .any => [([], [])]
    | .num lo hi => [(stT sp lo hi, [])]
    | .held n s => jn [([], [(n, sp)])] (LN C d z s sp)
    | .either ss => ss.flatMap fun s => LN C d z s sp
    | .make n ss => match (C z).find? fun m => decide (m.1 = n) with
      | none => []
      | some m => (partL (LN C d) n sp 0 m.2 ss).foldl jn (st0 C z n sp)
def LB (k : Nat) (a : List Line) : Prop := ∀ x ∈ a, x.1.length ≤ k ∧ x.2.length ≤ k
def tb : Nat → Nat
  | 0 => 1
  | d + 1 => 4 * tb d + 2
theorem tb_s (d : Nat) : tb (d + 1) = 4 * tb d + 2 := rfl
theorem tb_le : ∀ {d e : Nat}, d ≤ e → tb d ≤ tb e
  | 0, 0, _ => Nat.le_refl _
  | 0, e + 1, _ => by unfold tb; omega
  | d + 1, 0, h => absurd h (Nat.not_succ_le_zero _)
  | d + 1, e + 1, h => by have := tb_le (Nat.le_of_succ_le_succ h); unfold tb; omega
theorem tb9 {d : Nat} (h : d ≤ 9) : tb d ≤ 500000 := Nat.le_trans (tb_le h) (by decide +kernel)
theorem LB.jn {a c : List Line} {k l : Nat} (h1 : LB k a) (h2 : LB l c) : LB (k + l) (jn a c) := fun x hx => by
  obtain ⟨p, hp, q⟩ := List.mem_flatMap.mp hx
  obtain ⟨y, hy, rfl⟩ := List.mem_map.mp q
  have a1 := h1 p hp
  have a2 := h2 y hy
  simp only [List.length_append]; omega
theorem LB.mono {a : List Line} {k l : Nat} (h : LB k a) (hl : k ≤ l) : LB l a := fun x hx => by have := h x hx; omega
theorem jn_len (a c : List Line) : (Gs.jn a c).length = a.length * c.length := by
  unfold Gs.jn
  induction a with
  | nil => simp
  | cons x r ih => rw [List.flatMap_cons, List.length_append, ih, List.length_map, List.length_cons, Nat.succ_mul, Nat.add_comm]
theorem jn_nil_r (a : List Line) : Gs.jn a [] = [] := List.eq_nil_of_length_eq_zero (by rw [jn_len]; rfl)
def prodL : List (List Line) → Nat
  | [] => 1
  | l :: r => l.length * prodL r
theorem prodL_app : ∀ (a c : List (List Line)), prodL (a ++ c) = prodL a * prodL c
  | [], c => by simp [prodL]
  | l :: r, c => by rw [List.cons_append, prodL, prodL, prodL_app r c, Nat.mul_assoc]
theorem fold_len : ∀ (L : List (List Line)) (a : List Line), (L.foldl Gs.jn a).length = a.length * prodL L
  | [], a => by simp [prodL]
  | l :: r, a => by rw [List.foldl_cons, fold_len r, jn_len, prodL, Nat.mul_assoc]
theorem prodL_pos : ∀ {L : List (List Line)}, (∀ l ∈ L, l ≠ []) → 1 ≤ prodL L
  | [], _ => Nat.le_refl _
  | l :: r, h => Nat.mul_pos (List.length_pos_iff.mpr (h l List.mem_cons_self)) (prodL_pos fun x hx => h x (List.mem_cons_of_mem _ hx))
theorem prodL_nil : ∀ {L : List (List Line)}, [] ∈ L → prodL L = 0
  | l :: r, h => by
    rcases List.mem_cons.mp h with rfl | q
    · simp [prodL]
    · rw [prodL, prodL_nil q, Nat.mul_zero]
theorem st0_len (C : Come) (z n : Str) (sp : Spot) : (st0 C z n sp).length = 1 := by unfold st0; split <;> rfl
theorem st0_lb (C : Come) (z n : Str) (sp : Spot) : LB 1 (st0 C z n sp) := fun x hx => by
  unfold st0 at hx
  split at hx <;> (rw [List.mem_singleton] at hx; subst hx; simp)
theorem fold_lb {k : Nat} : ∀ (L : List (List Line)) (a : List Line) (l : Nat), (∀ x ∈ L, LB k x) → LB l a → LB (l + L.length * k) (L.foldl Gs.jn a)
  | [], a, l, _, h => by simpa using h
  | x :: r, a, l, hL, h => by
    have := fold_lb r _ _ (fun y hy => hL y (List.mem_cons_of_mem _ hy)) (h.jn (hL x List.mem_cons_self))
    rw [List.foldl_cons]
    refine this.mono ?_
    rw [List.length_cons, Nat.succ_mul]; omega
theorem part_len (F : Str → Shp → Spot → List Line) (n : Str) (sp : Spot) : ∀ (i : Nat) (fs : List Str) (ss : List Shp), fs.length = ss.length → (partL F n sp i fs ss).length = fs.length
  | _, [], [], _ => rfl
  | _, [], _ :: _, h => by simp at h
  | _, _ :: _, [], h => by simp at h
  | i, f :: fs, s :: ss, h => congrArg (· + 1) (part_len F n sp (i + 1) fs ss (by simpa using h))
theorem part_at {F : Str → Shp → Spot → List Line} {n : Str} {sp : Spot} {f : Str} {s : Shp} : ∀ {k i : Nat} {fs : List Str} {ss : List Shp}, fs[k]? = some f → ss[k]? = some s → (partL F n sp i fs ss)[k]? = some (F f s (sp ++ [(n, i + k)]))
  | _, _, [], _, h, _ => by simp at h
  | _, _, _ :: _, [], _, h => by simp at h
  | 0, i, a :: fs, c :: ss, h1, h2 => by simp at h1 h2; subst h1 h2; rfl
  | k + 1, i, a :: fs, c :: ss, h1, h2 => by
    have := part_at (F := F) (n := n) (sp := sp) (k := k) (i := i + 1) (fs := fs) (ss := ss) (by simpa using h1) (by simpa using h2)
    rw [show i + (k + 1) = i + 1 + k by omega, ← this]; rfl
theorem part_mem {F : Str → Shp → Spot → List Line} {n : Str} {sp : Spot} : ∀ {i : Nat} {fs : List Str} {ss : List Shp} {l : List Line}, l ∈ partL F n sp i fs ss → ∃ f s t, l = F f s t
  | _, [], _, _, h => by unfold partL at h; cases h
  | _, _ :: _, [], _, h => by unfold partL at h; cases h
  | i, f :: fs, s :: ss, l, h => by
    unfold partL at h
    rcases List.mem_cons.mp h with rfl | q
    · exact ⟨_, _, _, rfl⟩
    · exact part_mem q
theorem LN_lb {C : Come} (hC : ∀ z, ∀ m ∈ C z, m.2.length ≤ 4) : ∀ (d : Nat) (z : Str) (s : Shp) (sp : Spot), LB (tb d) (LN C d z s sp)
  | 0, _, _, _ => fun x hx => by cases hx
  | d + 1, z, s, sp => by
    cases s with
    | any => intro x hx; unfold LN at hx; rw [List.mem_singleton] at hx; subst hx; simp
    | num lo hi =>
      intro x hx
      unfold LN at hx
      rw [List.mem_singleton] at hx; subst hx
      have : (stT sp lo hi).length ≤ 2 := by cases lo <;> cases hi <;> simp [stT]
      rw [tb_s]
      refine ⟨?_, by simp⟩
      show (stT sp lo hi).length ≤ _
      omega
    | held n s =>
      have h1 : LB 1 [(([] : List Tst), [(n, sp)])] := fun x hx => by rw [List.mem_singleton] at hx; subst hx; simp
      have := h1.jn (LN_lb hC d z s sp)
      exact this.mono (by rw [tb_s]; omega)
    | either ss =>
      intro x hx
      obtain ⟨s, _, h⟩ := List.mem_flatMap.mp hx
      exact (LN_lb hC d z s sp).mono (by rw [tb_s]; omega) x h
    | make n ss =>
      show LB _ (match (C z).find? fun m => decide (m.1 = n) with | none => [] | some m => (partL (LN C d) n sp 0 m.2 ss).foldl Gs.jn (st0 C z n sp))
      split
      · intro x hx; cases hx
      · rename_i m hm
        have h4 := hC z m (List.mem_of_find?_eq_some hm)
        refine (fold_lb (k := tb d) _ _ 1 (fun l hl => ?_) (st0_lb C z n sp)).mono ?_
        · obtain ⟨f, s, t, rfl⟩ := part_mem hl
          exact LN_lb hC d f s t
        · have hl : ∀ (i : Nat) (fs : List Str) (ss : List Shp), (partL (LN C d) n sp i fs ss).length ≤ fs.length := by
            intro i fs
            induction fs generalizing i with
            | nil => intro ss; simp [partL]
            | cons f fs ih =>
              intro ss
              cases ss with
              | nil => simp [partL]
              | cons s ss => have := ih (i + 1) ss; simp [partL]; exact this
          have h5 := hl 0 m.2 ss
          have h6 : (partL (LN C d) n sp 0 m.2 ss).length * tb d ≤ 4 * tb d := Nat.mul_le_mul_right _ (by omega)
          rw [tb_s]; omega
theorem come_find {b : List Kd} (hb : BookOk b) {ks : List Str} {z n : Str} {fs : List Str} (h : (n, fs) ∈ mkOf b z) {m : Mk} (hm : (comeOf b ks z).find? (fun m => decide (m.1 = n)) = some m) : m = (n, fs) := by
  have h1 := List.mem_of_find?_eq_some hm
  have h2 := List.find?_some hm
  have h2 : m.1 = n := of_decide_eq_true h2
  have h3 := (List.mem_filter.mp h1).1
  have nd := mkOf_nd hb z
  obtain ⟨i, hi, e1⟩ := List.mem_iff_getElem.mp h3
  obtain ⟨j, hj, e2⟩ := List.mem_iff_getElem.mp h
  have hij : ((mkOf b z).map (·.1))[i]'(by rw [List.length_map]; exact hi) = ((mkOf b z).map (·.1))[j]'(by rw [List.length_map]; exact hj) := by rw [List.getElem_map, List.getElem_map, e1, e2, h2]
  have := (List.getElem_inj nd).mp hij
  subst this
  rw [← e1, e2]
theorem part_prod {F : Str → Shp → Spot → List Line} {G : Str → List (Str × Str) → Nat → Shp → Prop} {n : Str} {sp : Spot} (h : ∀ f hl u s t, G f hl u s → (F f s t).length ≤ u) : ∀ {fs hl u ss} (i : Nat), FmL G fs hl u ss → prodL (partL F n sp i fs ss) ≤ u
  | _, _, _, _, i, .nil => Nat.le_refl _
  | _, _, _, _, i, .cons a t => Nat.mul_le_mul (h _ _ _ _ _ a) (part_prod h (i + 1) t)
theorem LN_len {b : List Kd} (hb : BookOk b) {ks : List Str} : ∀ {d : Nat} {z : Str} {hl : List (Str × Str)} {u : Nat} {s : Shp} (sp : Spot), Fm b d z hl u s → (LN (comeOf b ks) d z s sp).length ≤ u
  | 0, _, _, _, _, _, h => h.elim
  | d + 1, z, hl, u, s, sp, h => by
    cases s with
    | any => obtain ⟨_, rfl⟩ := h; exact Nat.le_refl _
    | num lo hi => obtain ⟨_, _, rfl⟩ := h; exact Nat.le_refl _
    | held n s =>
      obtain ⟨_, _, w⟩ := h
      show (Gs.jn _ _).length ≤ u
      rw [jn_len, List.length_singleton, Nat.one_mul]
      exact LN_len hb sp w
    | either ss =>
      obtain ⟨_, us, rfl, w⟩ := h
      show (ss.flatMap _).length ≤ _
      have key : ∀ {ss us}, All2 (fun s w => Fm b d z hl w s) ss us → (ss.flatMap fun s => LN (comeOf b ks) d z s sp).length ≤ us.sum := by
        intro ss us w
        induction w with
        | nil => exact Nat.le_refl _
        | cons r t ih =>
          rw [List.flatMap_cons, List.length_append, List.sum_cons]
          have := LN_len hb (ks := ks) sp r
          omega
      exact key w
    | make n ss =>
      obtain ⟨fs, hm, w⟩ := h
      show (match (comeOf b ks z).find? (fun m : Mk => decide (m.1 = n)) with | none => [] | some m => (partL (LN (comeOf b ks) d) n sp 0 m.2 ss).foldl Gs.jn (st0 (comeOf b ks) z n sp)).length ≤ u
      split
      · exact Nat.zero_le _
      · rename_i m hf
        have := come_find hb hm hf
        subst this
        rw [fold_len, st0_len, Nat.one_mul]
        exact part_prod (G := Fm b d) (fun f hl u s t => LN_len hb t) 0 w
end Gs
set_option Elab.async false
set_option linter.all false
set_option maxRecDepth 100000
set_option maxHeartbeats 4000000
namespace Gs
open Cw L2
open PySem hiding Run

def encLs (a : List Line) : P := .ro (a.map encL)
def StTRun (run : Run) (i : Nat) : Prop := ∀ sp lo hi, Tells run i [encS sp, encOI lo, encOI hi] (.tup ((stT sp lo hi).map encTst))
theorem body_stT (run : Run) (sp : Spot) (lo hi : Option Int) : Nd (b_stretch_tests run [some (.p (encS sp)), some (.p (encOI lo)), some (.p (encOI hi)), none] []) fun f S' => toldN 0 f S' = some (.tup ((stT sp lo hi).map encTst)) := by
  cases lo <;> cases hi <;> exact ⟨_, _, rfl, rfl⟩
theorem stT_ok {T : List Fd} {k i : Nat} (h : T[i]? = some f_stretch_tests) : StTRun (runT T (k + 1)) i := fun sp lo hi => tells_of h rfl (body_stT (runT T k) sp lo hi)
def JoinRun (run : Run) (i : Nat) : Prop := ∀ a c, a.length ≤ 1000 → c.length ≤ 1000 → LB 4000000 a → LB 4000000 c → Tells run i [encLs a, encLs c] (encLs (jn a c))
theorem jn_app (a a2 c : List Line) : jn (a ++ a2) c = jn a c ++ jn a2 c := by unfold jn; rw [List.flatMap_append]
theorem body_joined (run : Run) {a c : List Line} (ha : a.length ≤ 1000) (hc : c.length ≤ 1000) (la : LB 4000000 a) (lc : LB 4000000 c) :
    Nd (b_joined run [some (.p (encLs a)), some (.p (encLs c)), none, none, none, none, none] []) fun f S' => toldN 0 f S' = some (encLs (jn a c)) := by
  refine asgE (d := .ref 0) (S' := [.lst []]) rfl ?_
  simp only [List.set_cons_zero, List.set_cons_succ]
  refine forS (enc := encL) (l := a) (S' := [.lst []]) rfl (fun pre ρ S => ∃ v3 v4 v5 v6, ρ = [some (.p (encLs a)), some (.p (encLs c)), some (.ref 0), v3, v4, v5, v6] ∧ S = [.lst ((jn pre c).map encL)]) ⟨_, _, _, _, rfl, rfl⟩ ?_ ?_
  · rintro pre x post ρ S hl ⟨v3, v4, v5, v6, rfl, rfl⟩
    have hx : x ∈ a := by rw [hl]; simp
    have hpl : pre.length < 1000 := by rw [hl, List.length_append, List.length_cons] at ha; omega
    refine Nd.go (turnE (ρ1 := [some (.p (encLs a)), some (.p (encLs c)), some (.ref 0), some (.p (.tup (x.1.map encTst))), some (.p (.tup (x.2.map encQ))), v5, v6]) rfl ?_)
    rw [xFor, show cIt (cVar 1) [some (.p (encLs a)), some (.p (encLs c)), some (.ref 0), some (.p (.tup (x.1.map encTst))), some (.p (.tup (x.2.map encQ))), v5, v6] [.lst ((jn pre c).map encL)] = .ok (c.map encL, none) [.lst ((jn pre c).map encL)] from rfl, bind_okE]
    refine forE1 (fun (pr : List Line) ρ S => ∃ v5 v6, ρ = [some (.p (encLs a)), some (.p (encLs c)), some (.ref 0), some (.p (.tup (x.1.map encTst))), some (.p (.tup (x.2.map encQ))), v5, v6] ∧ S = [.lst ((jn pre c ++ jn [x] pr).map encL)]) ⟨_, _, rfl, by simp [jn]⟩ ?_ ?_
    · rintro pr y pst ρ S hl2 ⟨v5, v6, rfl, rfl⟩
      have hy : y ∈ c := by rw [hl2]; simp
      have hpr : pr.length ≤ 1000 := by rw [hl2, List.length_append] at hc; omega
      have bx := la x hx
      have bY := lc y hy
      refine Nd.go (turnE (ρ1 := [some (.p (encLs a)), some (.p (encLs c)), some (.ref 0), some (.p (.tup (x.1.map encTst))), some (.p (.tup (x.2.map encQ))), some (.p (.tup (y.1.map encTst))), some (.p (.tup (y.2.map encQ)))]) rfl ?_)
      have e1 := vAddT (x.1.map encTst) (y.1.map encTst) [.lst ((jn pre c ++ jn [x] pr).map encL)] (by rw [List.length_map, List.length_map]; omega)
      have e2 := vAddT (x.2.map encQ) (y.2.map encQ) [.lst ((jn pre c ++ jn [x] pr).map encL)] (by rw [List.length_map, List.length_map]; omega)
      rw [← List.map_append] at e1 e2
      have ty : isTy "list" (.ref 0) [.lst ((jn pre c ++ jn [x] pr).map encL)] = true := vTyL rfl
      have hll : ((jn pre c ++ jn [x] pr).map encL).length < sizeLine := by
        rw [List.length_map, List.length_append, jn_len, jn_len, sizeLine_val, List.length_singleton]
        have : pre.length * c.length ≤ 1000 * 1000 := Nat.mul_le_mul (by omega) hc
        omega
      have ap := vAppend (n := 0) (xs := (jn pre c ++ jn [x] pr).map encL) (y := encL (x.1 ++ y.1, x.2 ++ y.2)) (S := [.lst ((jn pre c ++ jn [x] pr).map encL)]) rfl hll
      have et : cTup (cCons (c2 gAdd (cVar 3) (cVar 5)) (cCons (c2 gAdd (cVar 4) (cVar 6)) cNil)) [some (.p (encLs a)), some (.p (encLs c)), some (.ref 0), some (.p (.tup (x.1.map encTst))), some (.p (.tup (x.2.map encQ))), some (.p (.tup (y.1.map encTst))), some (.p (.tup (y.2.map encQ)))] [.lst ((jn pre c ++ jn [x] pr).map encL)] = .ok (.p (encL (x.1 ++ y.1, x.2 ++ y.2))) [.lst ((jn pre c ++ jn [x] pr).map encL)] := by
        simp only [xTup, xCons, xNil, x2, xVar0, xVarS, bind_okE, e1, e2, allP, List.length_cons, List.length_nil, sizeLine_val, Nat.reduceAdd, Nat.reduceLeDiff, if_true]; rfl
      simp only [xDrop, xM, xVar0, xVarS, bind_okE, ty, if_true, xCons, xNil, et, ap, List.set_cons_zero]
      refine .ok ⟨_, rfl, _, _, rfl, ?_⟩
      have : jn [x] (pr ++ [y]) = jn [x] pr ++ [(x.1 ++ y.1, x.2 ++ y.2)] := by simp [jn]
      rw [this, ← List.append_assoc, List.map_append (l₁ := jn pre c ++ jn [x] pr)]; rfl
    · rintro ρ S ⟨v5, v6, rfl, rfl⟩
      exact ⟨_, rfl, _, _, _, _, rfl, by rw [jn_app]⟩
  · rintro ρ S ⟨v3, v4, v5, v6, rfl, rfl⟩
    exact retE (d := .ref 0) (S' := [.lst ((jn a c).map encL)]) rfl rfl
theorem join_ok {T : List Fd} {k i : Nat} (h : T[i]? = some f_joined) : JoinRun (runT T (k + 1)) i := fun a c ha hc la lc => tells_of h rfl (body_joined (runT T k) ha hc la lc)

/-! ### make_lines, lined -/
def LinedRun (b : List Kd) (kvs : List (Key × P)) (ks : List Str) (d : Nat) (run : Run) (i : Nat) : Prop := ∀ z hl u s sp, Fm b d z hl u s → u ≤ 1000 → sp.length + d ≤ 1000 → Tells run i [encB b, .dic kvs, .str z, encZ s, encS sp] (encLs (LN (comeOf b ks) d z s sp))
theorem inNil {n : Nat} {L : List (List Line)} {S : Sto} (hS : S[n]? = some (.lst (L.map encLs))) : gInB false (.p (.ro [])) (.ref n) S = .ok (.p (.bl (L.any List.isEmpty))) S := by
  have h1 : dicL (.ref n) S = none := by simp [dicL, hS]
  have h2 : itemsA (.ref n) S = some (L.map encLs) := by simp [itemsA, seqA, seqL, hS]
  have h3 : seqL (.ref n) S = some (L.map encLs) := by simp [seqL, hS]
  have h4 : P.deps (L.map encLs) < 64 := by
    have : P.deps (L.map encLs) ≤ 6 := deps_le fun x hx => by
      obtain ⟨l, _, rfl⟩ := List.mem_map.mp hx
      have := dep_Ls l
      simp only [encLs, P.dep]; omega
    omega
  have h5 : inList (.ro []) (L.map encLs) = L.any List.isEmpty := by
    unfold inList
    rw [List.any_map]
    congr 1
    funext l
    cases l <;> simp [encLs, P.eqv, P.data, P.datas, PyData.eqv, PyData.eqvAll]
  have h6 : (P.ro []).dep ≤ 64 := by simp [P.dep, P.deps]
  have h7 : flatP (.ro []) = false := rfl
  simp only [gInB, h1, sign1, h2, h7, Bool.false_and, Bool.false_eq_true, if_false, h3, h6, h4, and_self, if_true, h5]
theorem FmL.at {F : Str → List (Str × Str) → Nat → Shp → Prop} (hp : ∀ f hl u s, F f hl u s → 1 ≤ u) : ∀ {fs hl u ss} {k : Nat} {f : Str}, FmL F fs hl u ss → fs[k]? = some f → ∃ s h2 u2, ss[k]? = some s ∧ F f h2 u2 s ∧ u2 ≤ u
  | _, _, _, _, k, f, .nil, h => by simp at h
  | _, _, _, _, 0, f, .cons (u1 := u1) (u2 := u2) a t, h => by
    simp at h; subst h
    exact ⟨_, _, _, rfl, a, Nat.le_mul_of_pos_right u1 (t.pos hp)⟩
  | _, _, _, _, k + 1, f, .cons (u1 := u1) (u2 := u2) a t, h => by
    obtain ⟨s, h2, w, e, q, hw⟩ := t.at hp (k := k) (f := f) (by simpa using h)
    exact ⟨s, h2, w, by simpa using e, q, Nat.le_trans hw (Nat.le_mul_of_pos_left u2 (hp _ _ _ _ a))⟩
theorem body_make (run : Run) {ijn ili icf : Nat} {b : List Kd} (hb : BookOk b) {kvs : List (Key × P)} {ks : List Str} (d : Nat) (hd9 : d ≤ 9) (hj : JoinRun run ijn) {z : Str} (hcf : Tells run icf [encB b, .dic kvs, .str z] (.dic (comD (comeOf b ks z)))) (hli : LinedRun b kvs ks d run ili)
    {n : Str} {ss : List Shp} {hl : List (Str × Str)} {u : Nat} (hf : Fm b (d + 1) z hl u (.make n ss)) (hu : u ≤ 1000) {sp : Spot} (hsp : sp.length + (d + 1) ≤ 1000) :
    Nd (b_make_lines ijn ili icf run [some (.p (encB b)), some (.p (.dic kvs)), some (.p (.str z)), some (.p (encZ (.make n ss))), some (.p (encS sp)), none, none, none, none, none, none, none] []) fun f S' => toldN 0 f S' = some (encLs (LN (comeOf b ks) (d + 1) z (.make n ss) sp)) := by
  obtain ⟨fs, hm, w⟩ := hf
  have hC : ∀ z, ∀ m ∈ comeOf b ks z, m.2.length ≤ 4 := fun z m hm => (come_len hb hm).1
  have hfs4 : fs.length ≤ 4 := (mkOf_ok hb z).2 _ hm
  have hss : fs.length = ss.length := w.length
  generalize hV : (P.tup [.str "make", .str n, .tup (ss.map encZ)]) = V
  have hVe : encZ (.make n ss) = V := by rw [← hV, encZ, encZs_eq]
  rw [hVe]
  have ix1 : ∀ S, gIx (.p V) (.p (.int 1)) S = .ok (.p (.str n)) S := fun S => by rw [← hV]; exact vIxT S (by omega) rfl
  have ix2 : ∀ S, gIx (.p V) (.p (.int 2)) S = .ok (.p (.tup (ss.map encZ))) S := fun S => by rw [← hV]; exact vIxT S (by omega) rfl
  refine asgE (d := .p (.str n)) (S' := []) (by simp only [x2, xVar0, xVarS, xP, bind_okE, ix1]) ?_
  simp only [List.set_cons_zero, List.set_cons_succ]
  have ec := hcf []
  refine asgE (d := .p (.dic (comD (comeOf b ks z)))) (S' := []) (by simp only [xCallV, xCons, xNil, xVar0, xVarS, bind_okE]; exact ec) ?_
  simp only [List.set_cons_zero, List.set_cons_succ]
  have hin := vInKeys (z := n) (y := .p (.dic (comD (comeOf b ks z)))) true [] rfl (comD_keys _)
  have hLN : LN (comeOf b ks) (d + 1) z (.make n ss) sp = match (comeOf b ks z).find? (fun m : Mk => decide (m.1 = n)) with | none => [] | some m => (partL (LN (comeOf b ks) d) n sp 0 m.2 ss).foldl jn (st0 (comeOf b ks) z n sp) := rfl
  cases hfd : (comeOf b ks z).find? (fun m : Mk => decide (m.1 = n)) with
  | none =>
    have hno : n ∉ (comeOf b ks z).map (·.1) := fun q => by
      obtain ⟨m, hm, e⟩ := List.mem_map.mp q
      exact absurd (List.find?_eq_none.mp hfd m hm) (by simp [e])
    rw [hfd] at hLN
    refine seqT (S' := []) (by simp only [xT, x2, xVar0, xVarS, bind_okE, hin, if_true, hno, decide_false, Bool.not_false, xbT]) (seqRetE (d := .p (.ro [])) (S' := []) rfl ?_)
    rw [hLN]; rfl
  | some m =>
    have hme := come_find hb hm hfd
    subst hme
    have hyes : n ∈ (comeOf b ks z).map (·.1) := List.mem_map.mpr ⟨_, List.mem_of_find?_eq_some hfd, rfl⟩
    rw [hfd] at hLN
    refine seqF (S' := []) (by simp only [xT, x2, xVar0, xVarS, bind_okE, hin, if_true, hyes, decide_true, Bool.not_true, xbT]) (seqNil ?_)
    refine asgE (d := .ref 0) (S' := [.lst []]) rfl ?_
    simp only [List.set_cons_zero, List.set_cons_succ]
    generalize hPL : partL (LN (comeOf b ks) d) n sp 0 fs ss = PL
    have hPLl : PL.length = fs.length := by rw [← hPL]; exact part_len _ _ _ _ _ _ hss
    have hLN : LN (comeOf b ks) (d + 1) z (.make n ss) sp = PL.foldl jn (st0 (comeOf b ks) z n sp) := by rw [hLN]; dsimp only; rw [hPL]
    have hPLa : ∀ l ∈ PL, LB (tb d) l := fun l hl => by
      rw [← hPL] at hl
      obtain ⟨f, s, t, rfl⟩ := part_mem hl
      exact LN_lb hC d f s t
    have hix : ∀ S, gIx (.p (.dic (comD (comeOf b ks z)))) (.p (.str n)) S = .ok (.p (.tup (fs.map .str))) S := fun S => vIxDic S rfl (by rw [look_comD, hfd]; rfl)
    refine forS (enc := fun q : Str × Nat => P.tup [.int (q.2 : Nat), .str q.1]) (l := fs.zipIdx) (S' := [.lst []]) (by simp only [xEnum, x2, xVar0, xVarS, bind_okE, hix, xSeqT, enum_strs]) (fun pre ρ S => ∃ v8 v9, ρ = [some (.p (encB b)), some (.p (.dic kvs)), some (.p (.str z)), some (.p V), some (.p (encS sp)), some (.p (.str n)), some (.p (.dic (comD (comeOf b ks z)))), some (.ref 0), v8, v9, none, none] ∧ S = [.lst ((PL.take pre.length).map encLs)]) ⟨_, _, rfl, rfl⟩ ?_ ?_
    · rintro pre q post ρ S hl2 ⟨v8, v9, rfl, rfl⟩
      obtain ⟨hq2, hlt, hq1, _⟩ := zip_pre hl2
      obtain ⟨f, i⟩ := q
      simp only at hq2 hq1
      subst hq2
      obtain ⟨s, h2, u2, hs, hfm, hu2⟩ := w.at (fun _ _ _ _ => Fm.pos) hq1
      refine Nd.go (turnE (ρ1 := [some (.p (encB b)), some (.p (.dic kvs)), some (.p (.str z)), some (.p V), some (.p (encS sp)), some (.p (.str n)), some (.p (.dic (comD (comeOf b ks z)))), some (.ref 0), some (.p (.int pre.length)), some (.p (.str f)), none, none]) rfl ?_)
      have hsl := hli f h2 u2 s (sp ++ [(n, pre.length)]) hfm (by omega) (by rw [List.length_append, List.length_singleton]; omega) [.lst ((PL.take pre.length).map encLs)]
      have i3 : ∀ S, gIx (.p (.tup (ss.map encZ))) (.p (.int pre.length)) S = .ok (.p (encZ s)) S := fun S => vIxT S (by omega) (by rw [Int.toNat_natCast, List.getElem?_map, hs]; rfl)
      have ad : ∀ S, gAdd (.p (encS sp)) (.p (.tup [.tup [.str n, .int pre.length]])) S = .ok (.p (encS (sp ++ [(n, pre.length)]))) S := fun S => by
        unfold encS
        rw [vAddT _ _ _ (by rw [List.length_map, List.length_singleton]; omega), List.map_append]; rfl
      have ty : isTy "list" (.ref 0) [.lst ((PL.take pre.length).map encLs)] = true := vTyL rfl
      have ap := vAppend (n := 0) (xs := (PL.take pre.length).map encLs) (y := encLs (LN (comeOf b ks) d f s (sp ++ [(n, pre.length)]))) (S := [.lst ((PL.take pre.length).map encLs)]) rfl (by rw [List.length_map, List.length_take, sizeLine_val]; omega)
      have hsl : callV true run ili [.p (encB b), .p (.dic kvs), .p (.str f), .p (encZ s), .p (encS (sp ++ [(n, pre.length)]))] [.lst ((PL.take pre.length).map encLs)] = _ := hsl
      have ecall : cCallV true run ili (cCons (cVar 0) (cCons (cVar 1) (cCons (cVar 9) (cCons (c2 gIx (c2 gIx (cVar 3) (cP (.int 2))) (cVar 8)) (cCons (c2 gAdd (cVar 4) (cTup (cCons (cTup (cCons (cVar 5) (cCons (cVar 8) cNil))) cNil))) cNil))))) [some (.p (encB b)), some (.p (.dic kvs)), some (.p (.str z)), some (.p V), some (.p (encS sp)), some (.p (.str n)), some (.p (.dic (comD (comeOf b ks z)))), some (.ref 0), some (.p (.int pre.length)), some (.p (.str f)), none, none] [.lst ((PL.take pre.length).map encLs)] = .ok (.p (encLs (LN (comeOf b ks) d f s (sp ++ [(n, pre.length)])))) [.lst ((PL.take pre.length).map encLs)] := by
        simp only [xCallV, xCons, xNil, xVar0, xVarS, xP, x2, bind_okE, ix2, i3, xTup, allP, List.length_cons, List.length_nil, sizeLine_val, Nat.reduceAdd, Nat.reduceLeDiff, if_true, ad, hsl]
      simp only [xDrop, xM, xVar0, xVarS, bind_okE, ty, if_true, xCons, xNil, ecall, ap, List.set_cons_zero]
      refine .ok ⟨_, rfl, _, _, rfl, ?_⟩
      have hp := part_at (F := LN (comeOf b ks) d) (n := n) (sp := sp) (i := 0) hq1 hs
      rw [hPL, Nat.zero_add] at hp
      rw [List.length_append, List.length_singleton, List.take_add_one, hp, Option.toList_some, List.map_append]; rfl
    · rintro ρ S ⟨v8, v9, rfl, rfl⟩
      rw [List.length_zipIdx, List.take_of_length_le (by omega)]
      have hnil := inNil (n := 0) (L := PL) (S := [.lst (PL.map encLs)]) rfl
      by_cases hany : PL.any List.isEmpty = true
      · refine seqT (S' := [.lst (PL.map encLs)]) (by simp only [xT, x2, xRo, xLst, xCons, xNil, xVar0, xVarS, bind_okE, allP, List.length_nil, Nat.zero_le, if_true, hnil, hany, xbT]) (seqRetE (d := .p (.ro [])) (S' := [.lst (PL.map encLs)]) rfl ?_)
        obtain ⟨l, hl, he⟩ := List.any_eq_true.mp hany
        have he : l = [] := List.isEmpty_iff.mp he
        subst he
        have : PL.foldl jn (st0 (comeOf b ks) z n sp) = [] := List.eq_nil_of_length_eq_zero (by rw [fold_len, prodL_nil hl, Nat.mul_zero])
        rw [hLN, this]; rfl
      · have hany : PL.any List.isEmpty = false := Bool.not_eq_true _ ▸ hany
        have hne : ∀ l ∈ PL, l ≠ [] := fun l hl e => by
          have := List.any_eq_false.mp hany l hl
          rw [e] at this; exact this rfl
        refine seqF (S' := [.lst (PL.map encLs)]) (by simp only [xT, x2, xRo, xLst, xCons, xNil, xVar0, xVarS, bind_okE, allP, List.length_nil, Nat.zero_le, if_true, hnil, hany, xbT]) (seqNil ?_)
        refine asgE (d := .p (encLs [([], [])])) (S' := [.lst (PL.map encLs)]) rfl ?_
        simp only [List.set_cons_zero, List.set_cons_succ]
        have hprod : prodL PL ≤ u := by rw [← hPL]; exact part_prod (G := Fm b d) (fun f hl u s t => LN_len hb t) 0 w
        have rest : Nd (sSeq (sFor (cIt (cVar 7)) (gN 11)
    (sAsg (cCallV true run ijn (cCons (cVar 10) (cCons (cVar 11) cNil))) (gN 10)))
  (sRet (cVar 10)) [some (.p (encB b)), some (.p (.dic kvs)), some (.p (.str z)), some (.p V), some (.p (encS sp)), some (.p (.str n)), some (.p (.dic (comD (comeOf b ks z)))), some (.ref 0), v8, v9, some (.p (encLs (st0 (comeOf b ks) z n sp))), none] [.lst (PL.map encLs)]) fun f S' => toldN 0 f S' = some (encLs (LN (comeOf b ks) (d + 1) z (.make n ss) sp)) := by
          refine forST (n := 0) (enc := encLs) (l := PL) (S' := [.lst (PL.map encLs)]) rfl (fun pre ρ S => ∃ v11, ρ = [some (.p (encB b)), some (.p (.dic kvs)), some (.p (.str z)), some (.p V), some (.p (encS sp)), some (.p (.str n)), some (.p (.dic (comD (comeOf b ks z)))), some (.ref 0), v8, v9, some (.p (encLs (pre.foldl jn (st0 (comeOf b ks) z n sp)))), v11] ∧ S = [.lst (PL.map encLs)])
            (by rintro pre ρ S ⟨_, _, rfl⟩; rfl) ⟨_, rfl, rfl⟩ ?_ ?_
          · rintro pre l post ρ S hl3 ⟨v11, rfl, rfl⟩
            refine Nd.go (turnE rfl ?_)
            have hpre : (pre.foldl jn (st0 (comeOf b ks) z n sp)).length ≤ 1000 := by
              rw [fold_len, st0_len, Nat.one_mul]
              have h1 : prodL PL = prodL pre * prodL (l :: post) := by rw [hl3, prodL_app]
              have h2 : 1 ≤ prodL (l :: post) := prodL_pos fun x hx => hne x (by rw [hl3]; exact List.mem_append_right _ hx)
              have h3 : prodL pre ≤ prodL PL := by rw [h1]; exact Nat.le_mul_of_pos_right _ h2
              omega
            have hll : l.length ≤ 1000 := by
              have h1 : prodL PL = prodL pre * (l.length * prodL post) := by rw [hl3, prodL_app]; rfl
              have h2 : 1 ≤ prodL post := prodL_pos fun x hx => hne x (by rw [hl3]; exact List.mem_append_right _ (List.mem_cons_of_mem _ hx))
              have h3 : 1 ≤ prodL pre := prodL_pos fun x hx => hne x (by rw [hl3]; exact List.mem_append_left _ hx)
              have h4 : l.length ≤ prodL PL := by
                rw [h1]
                exact Nat.le_trans (Nat.le_mul_of_pos_right _ h2) (Nat.le_mul_of_pos_left _ h3)
              omega
            have htb := tb9 hd9
            have hpl : pre.length ≤ 4 := by
              have := congrArg List.length hl3
              rw [List.length_append, List.length_cons] at this; omega
            have hlb1 : LB 4000000 (pre.foldl jn (st0 (comeOf b ks) z n sp)) := (fold_lb (k := tb d) pre _ 1 (fun x hx => hPLa x (by rw [hl3]; exact List.mem_append_left _ hx)) (st0_lb _ _ _ _)).mono (by
              have : pre.length * tb d ≤ 4 * tb d := Nat.mul_le_mul_right _ hpl
              omega)
            have ej := hj _ l hpre hll hlb1 ((hPLa l (by rw [hl3]; simp)).mono (by omega)) [.lst (PL.map encLs)]
            have ej : callV true run ijn [.p (encLs (pre.foldl jn (st0 (comeOf b ks) z n sp))), .p (encLs l)] [.lst (PL.map encLs)] = _ := ej
            simp only [List.set_cons_zero, List.set_cons_succ, xAsg, xCallV, xCons, xNil, xVar0, xVarS, bind_okE, ej, xgN]
            exact .ok ⟨_, rfl, _, by rw [List.foldl_append]; rfl, rfl⟩
          · rintro ρ S ⟨v11, rfl, rfl⟩
            exact retE (d := .p (encLs (PL.foldl jn (st0 (comeOf b ks) z n sp)))) (S' := [.lst (PL.map encLs)]) rfl (by rw [hLN]; rfl)
        have hlenC : (comD (comeOf b ks z)).length = (comeOf b ks z).length := by unfold comD; rw [List.length_map]
        by_cases h1 : 1 < (comeOf b ks z).length
        · have h1' : (1 : Int) < ((comeOf b ks z).length : Nat) := by omega
          refine seqT (S' := [.lst (PL.map encLs)]) (by simp only [xT, x2, x1, xCons, xNil, xVar0, xVarS, xP, bind_okE, vLenDic, hlenC, vGt, h1', decide_true, xbT]) ?_
          refine asgE (d := .p (encLs (st0 (comeOf b ks) z n sp))) (S' := [.lst (PL.map encLs)]) (by unfold st0; rw [if_pos h1]; rfl) ?_
          simp only [List.set_cons_zero, List.set_cons_succ]
          exact rest
        · have h1' : ¬ (1 : Int) < ((comeOf b ks z).length : Nat) := by omega
          refine seqF (S' := [.lst (PL.map encLs)]) (by simp only [xT, x2, x1, xCons, xNil, xVar0, xVarS, xP, bind_okE, vLenDic, hlenC, vGt, h1', decide_false, xbT]) (seqNil ?_)
          have : st0 (comeOf b ks) z n sp = [([], [])] := by unfold st0; rw [if_neg h1]
          rw [this] at rest
          exact rest
end Gs
set_option Elab.async false
set_option linter.all false
set_option maxRecDepth 100000
set_option maxHeartbeats 4000000
namespace Gs
open Cw L2
open PySem hiding Run

def MakeLRun (b : List Kd) (kvs : List (Key × P)) (ks : List Str) (d : Nat) (run : Run) (i : Nat) : Prop := ∀ z n ss hl u sp, Fm b (d + 1) z hl u (.make n ss) → u ≤ 1000 → sp.length + (d + 1) ≤ 1000 → Tells run i [encB b, .dic kvs, .str z, encZ (.make n ss), encS sp] (encLs (LN (comeOf b ks) (d + 1) z (.make n ss) sp))
theorem neStr {a c : Str} (h : a ≠ c) : decide (a = c) = false := decide_eq_false h
theorem fm_sum_mem {b : List Kd} {d : Nat} {z : Str} {hl : List (Str × Str)} : ∀ {ss : List Shp} {us : List Nat}, All2 (fun s w => Fm b d z hl w s) ss us → ∀ s ∈ ss, ∃ w, Fm b d z hl w s ∧ w ≤ us.sum
  | _, _, .nil, s, h => by cases h
  | _, _, .cons r t, s, h => by
    rcases List.mem_cons.mp h with rfl | q
    · exact ⟨_, r, by rw [List.sum_cons]; omega⟩
    · obtain ⟨w, h1, h2⟩ := fm_sum_mem t s q
      exact ⟨w, h1, by rw [List.sum_cons]; omega⟩
theorem fm_sum_pre {b : List Kd} {ks : List Str} (hb : BookOk b) {d : Nat} {z : Str} {hl : List (Str × Str)} (sp : Spot) : ∀ {ss : List Shp} {us : List Nat}, All2 (fun s w => Fm b d z hl w s) ss us → (ss.flatMap fun s => LN (comeOf b ks) d z s sp).length ≤ us.sum
  | _, _, .nil => Nat.le_refl _
  | _, _, .cons r t => by
    rw [List.flatMap_cons, List.length_append, List.sum_cons]
    have a := LN_len hb (ks := ks) sp r
    have c := fm_sum_pre (ks := ks) hb sp t
    omega
section
variable {run : Run} {ili ijn imk ist : Nat} {b : List Kd} {kvs : List (Key × P)} {ks : List Str} {z : Str} {sp : Spot}
abbrev eL (b : List Kd) (kvs : List (Key × P)) (z : Str) (V : P) (sp : Spot) (w5 w6 : Option D) : Ev := [some (.p (encB b)), some (.p (.dic kvs)), some (.p (.str z)), some (.p V), some (.p (encS sp)), w5, w6]
theorem tag_t {V : P} {t u : Str} (h : ∀ S, gIx (.p V) (.p (.int 0)) S = .ok (.p (.str t)) S) (w5 w6 : Option D) (S : Sto) : cT (c2 (gEqB false) (c2 gIx (cVar 3) (cP (.int 0))) (cP (.str u))) (eL b kvs z V sp w5 w6) S = .ok (decide (t = u)) S := by
  simp only [xT, x2, xVar0, xVarS, xP, bind_okE, h, vEqS, xbT]
end
theorem body_lined (run : Run) {ili ijn imk ist : Nat} {b : List Kd} (hb : BookOk b) {kvs : List (Key × P)} {ks : List Str} (d : Nat) (hd9 : d ≤ 9) (hst : StTRun run ist) (hj : JoinRun run ijn) (hmk : MakeLRun b kvs ks d run imk) (hli : LinedRun b kvs ks d run ili)
    {z : Str} {hl : List (Str × Str)} {u : Nat} {s : Shp} (hf : Fm b (d + 1) z hl u s) (hu : u ≤ 1000) {sp : Spot} (hsp : sp.length + (d + 1) ≤ 1000) :
    Nd (b_lined ili ijn imk ist run (eL b kvs z (encZ s) sp none none) []) fun f S' => toldN 0 f S' = some (encLs (LN (comeOf b ks) (d + 1) z s sp)) := by
  have hC : ∀ z, ∀ m ∈ comeOf b ks z, m.2.length ≤ 4 := fun z m hm => (come_len hb hm).1
  have htb := tb9 hd9
  cases s with
  | any =>
    refine seqT (S' := []) ((tag_t (t := "any") (fun S => vIx0 _ _ S) none none []).trans (by rw [decide_eq_true rfl])) (seqRetE (d := .p (encLs [([], [])])) (S' := []) rfl rfl)
  | num lo hi =>
    have tg := fun u => tag_t (b := b) (kvs := kvs) (z := z) (sp := sp) (V := encZ (.num lo hi)) (t := "num") (u := u) (fun S => vIx0 _ _ S) none none []
    refine seqF (S' := []) ((tg "any").trans (by rw [neStr (by decide)])) (seqNil ?_)
    refine seqT (S' := []) ((tg "num").trans (by rw [decide_eq_true rfl])) ?_
    have e1 := hst sp lo hi []
    have e1 : callV true run ist [.p (encS sp), .p (encOI lo), .p (encOI hi)] [] = _ := e1
    refine seqRetE (d := .p (encLs [(stT sp lo hi, [])])) (S' := []) ?_ rfl
    have i1 : ∀ S, gIx (.p (encZ (.num lo hi))) (.p (.int 1)) S = .ok (.p (encOI lo)) S := fun S => vIxT S (by omega) rfl
    have i2 : ∀ S, gIx (.p (encZ (.num lo hi))) (.p (.int 2)) S = .ok (.p (encOI hi)) S := fun S => vIxT S (by omega) rfl
    simp only [xRo, xLst, xTup, xCallV, xCons, xNil, x2, xP, xVar0, xVarS, bind_okE, i1, i2, e1, allP, List.length_cons, List.length_nil, sizeLine_val, Nat.reduceAdd, Nat.reduceLeDiff, Nat.zero_le, if_true]
    rfl
  | make n ss =>
    have tg := fun u => tag_t (b := b) (kvs := kvs) (z := z) (sp := sp) (V := encZ (.make n ss)) (t := "make") (u := u) (fun S => vIx0 _ _ S) none none []
    refine seqF (S' := []) ((tg "any").trans (by rw [neStr (by decide)])) (seqNil ?_)
    refine seqF (S' := []) ((tg "num").trans (by rw [neStr (by decide)])) (seqNil ?_)
    refine seqT (S' := []) ((tg "make").trans (by rw [decide_eq_true rfl])) ?_
    have e1 := hmk z n ss hl u sp hf hu hsp []
    exact seqRetE (d := .p (encLs (LN (comeOf b ks) (d + 1) z (.make n ss) sp))) (S' := []) (by simp only [xCallV, xCons, xNil, xVar0, xVarS, bind_okE]; exact e1) rfl
  | held n s =>
    obtain ⟨h2, _, w⟩ := hf
    have tg := fun u => tag_t (b := b) (kvs := kvs) (z := z) (sp := sp) (V := encZ (.held n s)) (t := "held") (u := u) (fun S => vIx0 _ _ S) none none []
    refine seqF (S' := []) ((tg "any").trans (by rw [neStr (by decide)])) (seqNil ?_)
    refine seqF (S' := []) ((tg "num").trans (by rw [neStr (by decide)])) (seqNil ?_)
    refine seqF (S' := []) ((tg "make").trans (by rw [neStr (by decide)])) (seqNil ?_)
    refine seqT (S' := []) ((tg "held").trans (by rw [decide_eq_true rfl])) ?_
    have e1 := hli z h2 u s sp w hu (by omega) []
    have e1 : callV true run ili [.p (encB b), .p (.dic kvs), .p (.str z), .p (encZ s), .p (encS sp)] [] = _ := e1
    have h1 : LB 4000000 [(([] : List Tst), [(n, sp)])] := fun x hx => by rw [List.mem_singleton] at hx; subst hx; simp
    have e2 := hj [([], [(n, sp)])] (LN (comeOf b ks) d z s sp) (by simp) (Nat.le_trans (LN_len hb sp w) hu) h1 ((LN_lb hC d z s sp).mono (by omega)) []
    have e2 : callV true run ijn [.p (.ro [.tup [.tup [], .tup [.tup [.str n, encS sp]]]]), .p (encLs (LN (comeOf b ks) d z s sp))] [] = _ := e2
    refine seqRetE (d := .p (encLs (LN (comeOf b ks) (d + 1) z (.held n s) sp))) (S' := []) ?_ rfl
    have i1 : ∀ S, gIx (.p (encZ (.held n s))) (.p (.int 1)) S = .ok (.p (.str n)) S := fun S => vIxT S (by omega) rfl
    have i2 : ∀ S, gIx (.p (encZ (.held n s))) (.p (.int 2)) S = .ok (.p (encZ s)) S := fun S => vIxT S (by omega) rfl
    simp only [xRo, xLst, xTup, xCallV, xCons, xNil, x2, xP, xVar0, xVarS, bind_okE, i1, i2, e1, e2, allP, List.length_cons, List.length_nil, sizeLine_val, Nat.reduceAdd, Nat.reduceLeDiff, Nat.zero_le, if_true]
    rfl
  | either ss =>
    obtain ⟨_, us, rfl, w⟩ := hf
    have tg := fun u => tag_t (b := b) (kvs := kvs) (z := z) (sp := sp) (V := encZ (.either ss)) (t := "either") (u := u) (fun S => vIx0 _ _ S) none none []
    refine seqF (S' := []) ((tg "any").trans (by rw [neStr (by decide)])) (seqNil ?_)
    refine seqF (S' := []) ((tg "num").trans (by rw [neStr (by decide)])) (seqNil ?_)
    refine seqF (S' := []) ((tg "make").trans (by rw [neStr (by decide)])) (seqNil ?_)
    refine seqF (S' := []) ((tg "held").trans (by rw [neStr (by decide)])) (seqNil ?_)
    refine asgE (d := .ref 0) (S' := [.lst []]) rfl ?_
    simp only [List.set_cons_zero, List.set_cons_succ]
    have i1 : ∀ S, gIx (.p (encZ (.either ss))) (.p (.int 1)) S = .ok (.p (.tup (ss.map encZ))) S := fun S => vIxT S (by omega) (by simp [encZs_eq])
    have hlen := fm_sum_pre (ks := ks) hb sp w
    refine forS (enc := encZ) (l := ss) (S' := [.lst []]) (by simp only [xIt, x2, xVar0, xVarS, xP, bind_okE, i1]; rfl) (fun pre ρ S => ∃ v6, ρ = eL b kvs z (encZ (.either ss)) sp (some (.ref 0)) v6 ∧ S = [.lst ((pre.flatMap fun s => LN (comeOf b ks) d z s sp).map encL)]) ⟨_, rfl, rfl⟩ ?_ ?_
    · rintro pre s post ρ S hl2 ⟨v6, rfl, rfl⟩
      have hs : s ∈ ss := by rw [hl2]; simp
      obtain ⟨w1, hw, hw1⟩ := fm_sum_mem w s hs
      refine Nd.go (turnE rfl ?_)
      generalize hA : (pre.flatMap fun s => LN (comeOf b ks) d z s sp) = A
      have hAl : A.length + (LN (comeOf b ks) d z s sp).length ≤ us.sum := by
        have e : (ss.flatMap fun s => LN (comeOf b ks) d z s sp) = A ++ (LN (comeOf b ks) d z s sp ++ (post.flatMap fun s => LN (comeOf b ks) d z s sp)) := by
          rw [hl2, List.flatMap_append, List.flatMap_cons, hA]
        rw [e, List.length_append, List.length_append] at hlen
        omega
      have e1 := hli z hl w1 s sp hw (by omega) (by omega) [.lst (A.map encL)]
      have e1 : callV true run ili [.p (encB b), .p (.dic kvs), .p (.str z), .p (encZ s), .p (encS sp)] [.lst (A.map encL)] = .ok (.p (.ro ((LN (comeOf b ks) d z s sp).map encL))) [.lst (A.map encL)] := e1
      have ty : isTy "list" (.ref 0) [.lst (A.map encL)] = true := vTyL rfl
      have ex := vExtRo (n := 0) (xs := A.map encL) (zs := (LN (comeOf b ks) d z s sp).map encL) (S := [.lst (A.map encL)]) rfl (by rw [List.length_map, List.length_map]; omega)
      simp only [List.set_cons_zero, List.set_cons_succ, xDrop, xM, xVar0, xVarS, bind_okE, ty, if_true, xCallV, xCons, xNil, e1, ex]
      refine .ok ⟨_, rfl, _, rfl, ?_⟩
      rw [List.flatMap_append, hA, List.flatMap_cons, List.flatMap_nil, List.append_nil, List.map_append]
    · rintro ρ S ⟨v6, rfl, rfl⟩
      exact retE (d := .ref 0) (S' := [.lst ((ss.flatMap fun s => LN (comeOf b ks) d z s sp).map encL)]) rfl rfl
theorem lined_ok {T : List Fd} {ili ijn imk ist icf ia : Nat} {b : List Kd} (hb : BookOk b) {kvs : List (Key × P)} {ks : List Str} (hk : KeyIs kvs ks) (hl : T[ili]? = some (f_lined ili ijn imk ist)) (hm : T[imk]? = some (f_make_lines ijn ili icf)) (hcf : T[icf]? = some (f_coming_fields ia)) (ha : T[ia]? = some f_all_makes) (hj : T[ijn]? = some f_joined) (hs : T[ist]? = some f_stretch_tests) :
    ∀ d k, d ≤ 10 → 2 * d + 2 ≤ k → LinedRun b kvs ks d (runT T (k + 1)) ili
  | 0, _, _, _ => fun _ _ _ _ _ h => h.elim
  | d + 1, k, hd, hkk => fun z hlh u s sp hf hu hsp => by
    obtain ⟨k, rfl⟩ : ∃ k', k = k' + 4 := ⟨k - 4, by omega⟩
    refine tells_of hl rfl (body_lined (runT T (k + 4)) hb d (by omega) (stT_ok hs) (join_ok hj) (fun z n ss hl2 u sp hf hu hsp => ?_) (lined_ok hb hk hl hm hcf ha hj hs d (k + 3) (by omega) (by omega)) hf hu hsp)
    exact tells_of hm rfl (body_make (runT T (k + 3)) hb d (by omega) (join_ok hj) (cfields_ok hb hcf (all_ok ha b z) hk) (lined_ok hb hk hl hm hcf ha hj hs d (k + 2) (by omega) (by omega)) hf hu hsp)
def LnRun (b : List Kd) (ks : List Str) (run : Run) (i : Nat) : Prop := ∀ d z hl u s sp, d ≤ 10 → Fm b d z hl u s → u ≤ 1000 → sp.length + d ≤ 1000 → Tells run i [encB b, .str z, encZ s, encS sp] (encLs (LN (comeOf b ks) d z s sp))
theorem body_ln (run : Run) {ip ili : Nat} {b : List Kd} {kvs : List (Key × P)} (hp : Tells run ip [encB b] (.dic kvs)) {z : Str} {s : Shp} {sp : Spot} {L : List Line} (hl : Tells run ili [encB b, .dic kvs, .str z, encZ s, encS sp] (encLs L)) :
    Nd (b_lines_of ip ili run [some (.p (encB b)), some (.p (.str z)), some (.p (encZ s)), some (.p (encS sp))] []) fun f S' => toldN 0 f S' = some (encLs L) := by
  have e1 := hp []
  have e1 : callV true run ip [.p (encB b)] [] = _ := e1
  have e2 := hl []
  have e2 : callV true run ili [.p (encB b), .p (.dic kvs), .p (.str z), .p (encZ s), .p (encS sp)] [] = _ := e2
  exact retE (d := .p (encLs L)) (S' := []) (by simp only [xCallV, xCons, xNil, xVar0, xVarS, bind_okE, e1, e2]) rfl
theorem ln_ok {T : List Fd} {k i ip ili ijn imk ist icf ia : Nat} {b : List Kd} (hb : BookOk b) {kl : List Str} (hkl : ∀ z, z ∈ kl ↔ Alive b z) (hk : 23 ≤ k) (h : T[i]? = some (f_lines_of ip ili)) (hp : PvRun (runT T k) ip b) (hl : T[ili]? = some (f_lined ili ijn imk ist)) (hm : T[imk]? = some (f_make_lines ijn ili icf)) (hcf : T[icf]? = some (f_coming_fields ia)) (ha : T[ia]? = some f_all_makes) (hj : T[ijn]? = some f_joined) (hs : T[ist]? = some f_stretch_tests) :
    LnRun b kl (runT T (k + 1)) i := fun d z hlh u s sp hd hf hu hsp => by
  obtain ⟨kvs, ks, h1, h2, h3⟩ := hp
  obtain ⟨k, rfl⟩ : ∃ k', k = k' + 1 := ⟨k - 1, by omega⟩
  have := lined_ok hb h2 hl hm hcf ha hj hs d k hd (by omega) z hlh u s sp hf hu hsp
  rw [come_eq (b := b) (ks := ks) (ks2 := kl) fun z => (h3 z).trans (hkl z).symm] at this
  exact tells_of h rfl (body_ln (runT T (k + 1)) h1 this)
end Gs
set_option Elab.async false
set_option linter.all false
set_option maxRecDepth 100000
set_option maxHeartbeats 4000000
namespace Gs
open Cw L2
open PySem hiding Run

/-! ### lines moved -/
def mvT (sp : Spot) : Tst → Tst
  | .is s m => .is (sp ++ s) m
  | .most p q d => .most (p.map (sp ++ ·)) (q.map (sp ++ ·)) d
def mvL (sp : Spot) (l : Line) : Line := (l.1.map (mvT sp), l.2.map fun z => (z.1, sp ++ z.2))
theorem fm_congr {α β : Type} {f g : α → List β} : ∀ {l : List α}, (∀ x ∈ l, f x = g x) → l.flatMap f = l.flatMap g
  | [], _ => rfl
  | x :: r, h => by rw [List.flatMap_cons, List.flatMap_cons, h x List.mem_cons_self, fm_congr fun y hy => h y (List.mem_cons_of_mem _ hy)]
theorem jn_map (sp : Spot) (a c : List Line) : jn (a.map (mvL sp)) (c.map (mvL sp)) = (jn a c).map (mvL sp) := by
  unfold jn
  rw [List.flatMap_map, List.map_flatMap]
  refine fm_congr fun x _ => ?_
  rw [List.map_map, List.map_map]
  refine List.map_congr_left fun y _ => ?_
  simp [mvL]
theorem fold_map (sp : Spot) : ∀ (L : List (List Line)) (a : List Line), (L.map (List.map (mvL sp))).foldl jn (a.map (mvL sp)) = (L.foldl jn a).map (mvL sp)
  | [], _ => rfl
  | l :: r, a => by rw [List.map_cons, List.foldl_cons, List.foldl_cons, jn_map, fold_map sp r]
theorem part_shift {F : Str → Shp → Spot → List Line} {n : Str} {sp t : Spot} (h : ∀ f s t, F f s (sp ++ t) = (F f s t).map (mvL sp)) : ∀ (i : Nat) (fs : List Str) (ss : List Shp), partL F n (sp ++ t) i fs ss = (partL F n t i fs ss).map (List.map (mvL sp))
  | _, [], _ => by simp [partL]
  | _, _ :: _, [] => by simp [partL]
  | i, f :: fs, s :: ss => by
    rw [partL, partL, List.map_cons, part_shift h (i + 1) fs ss, List.append_assoc, h]
theorem LN_shift {C : Come} {sp : Spot} : ∀ (d : Nat) (z : Str) (s : Shp) (t : Spot), LN C d z s (sp ++ t) = (LN C d z s t).map (mvL sp)
  | 0, _, _, _ => rfl
  | d + 1, z, s, t => by
    cases s with
    | any => rfl
    | num lo hi => cases lo <;> cases hi <;> simp [LN, stT, mvL, mvT]
    | held n s =>
      show jn [([], [(n, sp ++ t)])] (LN C d z s (sp ++ t)) = (jn [([], [(n, t)])] (LN C d z s t)).map (mvL sp)
      rw [LN_shift d z s t, ← jn_map]; rfl
    | either ss =>
      show (ss.flatMap fun s => LN C d z s (sp ++ t)) = (ss.flatMap fun s => LN C d z s t).map (mvL sp)
      rw [List.map_flatMap]
      exact fm_congr fun s _ => LN_shift d z s t
    | make n ss =>
      show (match (C z).find? (fun m : Mk => decide (m.1 = n)) with | none => [] | some m => (partL (LN C d) n (sp ++ t) 0 m.2 ss).foldl jn (st0 C z n (sp ++ t))) = (match (C z).find? (fun m : Mk => decide (m.1 = n)) with | none => [] | some m => (partL (LN C d) n t 0 m.2 ss).foldl jn (st0 C z n t)).map (mvL sp)
      cases (C z).find? (fun m : Mk => decide (m.1 = n)) with
      | none => rfl
      | some m =>
        show (partL (LN C d) n (sp ++ t) 0 m.2 ss).foldl jn (st0 C z n (sp ++ t)) = ((partL (LN C d) n t 0 m.2 ss).foldl jn (st0 C z n t)).map (mvL sp)
        rw [part_shift (fun f s t => LN_shift d f s t), ← fold_map]
        congr 1
        unfold st0
        split <;> rfl
theorem LN_at {C : Come} (sp : Spot) (d : Nat) (z : Str) (s : Shp) : LN C d z s sp = (LN C d z s []).map (mvL sp) := by
  have := LN_shift (C := C) (sp := sp) d z s []
  rwa [List.append_nil] at this
/-! ### how long the spots are -/
def OS (k : Nat) (p : Option Spot) : Prop := ∀ s, p = some s → s.length ≤ k
def TS (k : Nat) : Tst → Prop
  | .is s _ => s.length ≤ k
  | .most p q _ => OS k p ∧ OS k q
def SB (k : Nat) (a : List Line) : Prop := ∀ x ∈ a, (∀ t ∈ x.1, TS k t) ∧ ∀ q ∈ x.2, q.2.length ≤ k
theorem OS.none (k : Nat) : OS k none := fun _ h => by cases h
theorem OS.some {k : Nat} {s : Spot} (h : s.length ≤ k) : OS k (some s) := fun _ e => by cases e; exact h
theorem TS.mono {k l : Nat} {t : Tst} (h : TS k t) (hl : k ≤ l) : TS l t := by
  cases t with
  | is s m => exact Nat.le_trans h hl
  | most p q d => exact ⟨fun s e => Nat.le_trans (h.1 s e) hl, fun s e => Nat.le_trans (h.2 s e) hl⟩
theorem SB.mono {k l : Nat} {a : List Line} (h : SB k a) (hl : k ≤ l) : SB l a := fun x hx => ⟨fun t ht => ((h x hx).1 t ht).mono hl, fun q hq => Nat.le_trans ((h x hx).2 q hq) hl⟩
theorem SB.jn {k : Nat} {a c : List Line} (h1 : SB k a) (h2 : SB k c) : SB k (jn a c) := fun x hx => by
  obtain ⟨p, hp, q⟩ := List.mem_flatMap.mp hx
  obtain ⟨y, hy, rfl⟩ := List.mem_map.mp q
  exact ⟨fun t ht => (List.mem_append.mp ht).elim ((h1 p hp).1 t) ((h2 y hy).1 t), fun t ht => (List.mem_append.mp ht).elim ((h1 p hp).2 t) ((h2 y hy).2 t)⟩
theorem SB.fold {k : Nat} : ∀ (L : List (List Line)) (a : List Line), (∀ x ∈ L, SB k x) → SB k a → SB k (L.foldl Gs.jn a)
  | [], _, _, h => h
  | x :: r, a, hL, h => SB.fold r _ (fun y hy => hL y (List.mem_cons_of_mem _ hy)) (h.jn (hL x List.mem_cons_self))
theorem part_sb {F : Str → Shp → Spot → List Line} {n : Str} {sp : Spot} {k : Nat} (h : ∀ f s t, t.length = sp.length + 1 → SB k (F f s t)) : ∀ (i : Nat) (fs : List Str) (ss : List Shp), ∀ l ∈ partL F n sp i fs ss, SB k l
  | _, [], _, l, hl => by simp [partL] at hl
  | _, _ :: _, [], l, hl => by simp [partL] at hl
  | i, f :: fs, s :: ss, l, hl => by
    rw [partL] at hl
    rcases List.mem_cons.mp hl with rfl | q
    · exact h f s _ (by rw [List.length_append, List.length_singleton])
    · exact part_sb h (i + 1) fs ss l q
theorem LN_sb {C : Come} : ∀ (d : Nat) (z : Str) (s : Shp) (sp : Spot), SB (sp.length + d) (LN C d z s sp)
  | 0, _, _, _ => fun x hx => by cases hx
  | d + 1, z, s, sp => by
    cases s with
    | any => intro x hx; unfold LN at hx; rw [List.mem_singleton] at hx; subst hx; simp
    | num lo hi =>
      intro x hx
      unfold LN at hx
      rw [List.mem_singleton] at hx; subst hx
      refine ⟨fun t ht => ?_, by simp⟩
      have hs : ∀ k, OS (sp.length + k) (some sp) := fun k => OS.some (by omega)
      rcases List.mem_append.mp ht with q | q
      · cases lo with
        | none => cases q
        | some i => rw [List.mem_singleton] at q; subst q; exact ⟨OS.none _, hs _⟩
      · cases hi with
        | none => cases q
        | some i => rw [List.mem_singleton] at q; subst q; exact ⟨hs _, OS.none _⟩
    | held n s =>
      have h1 : SB (sp.length + (d + 1)) [(([] : List Tst), [(n, sp)])] := fun x hx => by rw [List.mem_singleton] at hx; subst hx; simp
      exact h1.jn ((LN_sb d z s sp).mono (by omega))
    | either ss =>
      intro x hx
      obtain ⟨s, _, h⟩ := List.mem_flatMap.mp hx
      exact (LN_sb d z s sp).mono (by omega) x h
    | make n ss =>
      show SB _ (match (C z).find? (fun m : Mk => decide (m.1 = n)) with | none => [] | some m => (partL (LN C d) n sp 0 m.2 ss).foldl jn (st0 C z n sp))
      split
      · intro x hx; cases hx
      · refine SB.fold _ _ (part_sb (fun f s t ht => (LN_sb d f s t).mono (by omega)) _ _ _) fun x hx => ?_
        unfold st0 at hx
        split at hx <;> (rw [List.mem_singleton] at hx; subst hx)
        · refine ⟨fun t ht => ?_, by simp⟩
          rw [List.mem_singleton] at ht; subst ht
          show sp.length ≤ _
          omega
        · simp
/-! ### shapes put at a place -/
theorem FmL.app {F : Str → List (Str × Str) → Nat → Shp → Prop} {fs2 : List Str} {h2 : List (Str × Str)} {u2 : Nat} {ss2 : List Shp} (t2 : FmL F fs2 h2 u2 ss2) : ∀ {fs hl u ss}, FmL F fs hl u ss → FmL F (fs ++ fs2) (hl ++ h2) (u * u2) (ss ++ ss2)
  | _, _, _, _, .nil => by rw [Nat.one_mul]; exact t2
  | _, _, _, _, .cons a t => by
    have := FmL.cons a (FmL.app t2 t)
    rw [← List.append_assoc, ← Nat.mul_assoc] at this
    exact this
theorem FmL.anys {b : List Kd} {d : Nat} : ∀ fs : List Str, FmL (Fm b (d + 1)) fs [] 1 (List.replicate fs.length .any)
  | [] => .nil
  | f :: fs => by
    have : FmL (Fm b (d + 1)) (f :: fs) ([] ++ []) (1 * 1) (.any :: List.replicate fs.length .any) := .cons ⟨rfl, rfl⟩ (FmL.anys fs)
    exact this
def placeL (k n : Nat) (s : Shp) : List Shp := List.replicate k .any ++ [s] ++ List.replicate (n - k - 1) .any
theorem split_at {fs : List Str} {k : Nat} {z : Str} (h : fs[k]? = some z) : fs = fs.take k ++ [z] ++ fs.drop (k + 1) ∧ k < fs.length := by
  have hk : k < fs.length := by
    rcases Nat.lt_or_ge k fs.length with q | q
    · exact q
    · rw [List.getElem?_eq_none q] at h; cases h
  refine ⟨?_, hk⟩
  rw [List.getElem?_eq_getElem hk] at h
  have h := Option.some.inj h
  rw [← h]
  simp
theorem FmL.place {b : List Kd} {d : Nat} {fs : List Str} {k : Nat} {z : Str} {hl : List (Str × Str)} {u : Nat} {s : Shp} (h : fs[k]? = some z) (hf : Fm b (d + 1) z hl u s) : FmL (Fm b (d + 1)) fs hl u (placeL k fs.length s) := by
  obtain ⟨e, hk⟩ := split_at h
  have t1 := FmL.anys (b := b) (d := d) (fs.take k)
  have t2 := FmL.anys (b := b) (d := d) (fs.drop (k + 1))
  have t3 := FmL.app t2 (FmL.snoc hf t1)
  rw [List.length_take, List.length_drop, Nat.min_eq_left (by omega), List.nil_append, List.append_nil, Nat.one_mul, Nat.mul_one, show fs.length - (k + 1) = fs.length - k - 1 by omega, ← e] at t3
  exact t3
theorem part_app {F : Str → Shp → Spot → List Line} {n : Str} {sp : Spot} : ∀ (i : Nat) (fs : List Str) (ss : List Shp) (fs2 : List Str) (ss2 : List Shp), fs.length = ss.length → partL F n sp i (fs ++ fs2) (ss ++ ss2) = partL F n sp i fs ss ++ partL F n sp (i + fs.length) fs2 ss2
  | _, [], [], _, _, _ => by simp [partL]
  | _, [], _ :: _, _, _, h => by simp at h
  | _, _ :: _, [], _, _, h => by simp at h
  | i, f :: fs, s :: ss, fs2, ss2, h => by
    rw [List.cons_append, List.cons_append, partL, partL, part_app (i + 1) fs ss fs2 ss2 (by simpa using h), List.cons_append, List.length_cons, show i + 1 + fs.length = i + (fs.length + 1) by omega]
theorem part_anys {F : Str → Shp → Spot → List Line} {n : Str} {sp : Spot} (h : ∀ f t, F f .any t = [([], [])]) : ∀ (i : Nat) (fs : List Str), partL F n sp i fs (List.replicate fs.length .any) = List.replicate fs.length [([], [])]
  | _, [] => by simp [partL]
  | i, f :: fs => by
    rw [List.length_cons, List.replicate_succ, partL, h, part_anys h (i + 1) fs, List.replicate_succ]
theorem jn_one (a : List Line) : jn a [([], [])] = a := by
  unfold jn
  induction a with
  | nil => rfl
  | cons x r ih => rw [List.flatMap_cons, ih]; simp
theorem fold_one : ∀ (k : Nat) (a : List Line), (List.replicate k [(([] : List Tst), ([] : List (Str × Spot)))]).foldl jn a = a
  | 0, _ => rfl
  | k + 1, a => by rw [List.replicate_succ, List.foldl_cons, jn_one, fold_one k]
theorem fold_place {C : Come} {d : Nat} {n : Str} {sp : Spot} {fs : List Str} {k : Nat} {z : Str} (h : fs[k]? = some z) (s : Shp) (a : List Line) : (partL (LN C (d + 1)) n sp 0 fs (placeL k fs.length s)).foldl jn a = jn a (LN C (d + 1) z s (sp ++ [(n, k)])) := by
  obtain ⟨e, hk⟩ := split_at h
  have e1 : partL (LN C (d + 1)) n sp 0 fs (placeL k fs.length s) = partL (LN C (d + 1)) n sp 0 (fs.take k ++ [z] ++ fs.drop (k + 1)) (List.replicate (fs.take k).length .any ++ [s] ++ List.replicate (fs.drop (k + 1)).length .any) := by
    rw [← e, List.length_take, List.length_drop, Nat.min_eq_left (by omega), show fs.length - (k + 1) = fs.length - k - 1 by omega]; rfl
  rw [e1, part_app _ _ _ _ _ (by simp), part_app _ _ _ _ _ (by simp), part_anys (fun _ _ => rfl), part_anys (fun _ _ => rfl), List.foldl_append, List.foldl_append, fold_one, fold_one]
  have : 0 + (fs.take k).length = k := by rw [List.length_take]; omega
  rw [this]
  rfl
end Gs
set_option Elab.async false
set_option linter.all false
set_option maxRecDepth 100000
set_option maxHeartbeats 4000000
namespace Gs
open Cw L2
open PySem hiding Run

/-! ### homes -/
abbrev Hm := Str × Str × List Str × Nat
def encHm (h : Hm) : P := .tup [.str h.1, .str h.2.1, .tup (h.2.2.1.map .str), .int h.2.2.2]
def hmM (z y : Str) (m : Mk) : List Hm := ((List.range m.2.length).filter fun i => decide (m.2.getD i num = z)).map fun i => (y, m.1, m.2, i)
def hmK (z : Str) (k : Kd) : List Hm := k.2.flatMap (hmM z k.1)
def homesOf (b : List Kd) (z : Str) : List Hm := b.flatMap (hmK z)
theorem homes_mem {b : List Kd} {z : Str} {h : Hm} (hh : h ∈ homesOf b z) : ∃ k ∈ b, k.1 = h.1 ∧ (h.2.1, h.2.2.1) ∈ k.2 ∧ h.2.2.1[h.2.2.2]? = some z := by
  obtain ⟨k, hk, q⟩ := List.mem_flatMap.mp hh
  obtain ⟨m, hm, q⟩ := List.mem_flatMap.mp q
  obtain ⟨i, hi, rfl⟩ := List.mem_map.mp q
  obtain ⟨hi1, hi2⟩ := List.mem_filter.mp hi
  have hi1 := List.mem_range.mp hi1
  have hi2 := of_decide_eq_true hi2
  refine ⟨k, hk, rfl, hm, ?_⟩
  show m.2[i]? = some z
  rw [List.getElem?_eq_getElem hi1, ← hi2]
  simp [hi1]
theorem hmM_len {z y : Str} {m : Mk} (h : m.2.length ≤ 4) : (hmM z y m).length ≤ 4 := by
  unfold hmM
  rw [List.length_map]
  exact Nat.le_trans (List.length_filter_le _ _) (by rw [List.length_range]; exact h)
theorem hmK_len {z y : Str} : ∀ {ms : List Mk}, (∀ m ∈ ms, m.2.length ≤ 4) → (ms.flatMap (hmM z y)).length ≤ 4 * ms.length
  | [], _ => Nat.le_refl _
  | m :: r, h => by
    have a := hmM_len (z := z) (y := y) (h m List.mem_cons_self)
    have c := hmK_len (z := z) (y := y) (ms := r) fun x hx => h x (List.mem_cons_of_mem _ hx)
    rw [List.flatMap_cons, List.length_append, List.length_cons]; omega
theorem homes_len_aux {z : Str} : ∀ {b : List Kd}, (∀ k ∈ b, k.2.length ≤ 6 ∧ ∀ m ∈ k.2, m.2.length ≤ 4) → (homesOf b z).length ≤ 24 * b.length
  | [], _ => Nat.le_refl _
  | k :: r, h => by
    have h1 := h k List.mem_cons_self
    have a := hmK_len (z := z) (y := k.1) h1.2
    have c := homes_len_aux (z := z) (b := r) fun x hx => h x (List.mem_cons_of_mem _ hx)
    have : homesOf (k :: r) z = (k.2.flatMap (hmM z k.1)) ++ homesOf r z := rfl
    rw [this, List.length_append, List.length_cons]; omega
theorem homes_pre {b : List Kd} (hb : BookOk b) (z : Str) {pre post : List Kd} (e : b = pre ++ post) : (homesOf pre z).length ≤ 144 := by
  have := homes_len_aux (z := z) (b := pre) fun k hk => by
    have := hb.ok k (by rw [e]; exact List.mem_append_left _ hk)
    exact ⟨this.2.1, fun m hm => (this.2.2 m hm).1⟩
  have h6 := hb.len
  rw [e, List.length_append] at h6
  omega
def HomRun (b : List Kd) (run : Run) (i : Nat) : Prop := ∀ z, Tells run i [encB b, .str z] (.ro ((homesOf b z).map encHm))
theorem body_homes (run : Run) {b : List Kd} (hb : BookOk b) (z : Str) : Nd (b_law_homes run [some (.p (encB b)), some (.p (.str z)), none, none, none, none, none, none] []) fun f S' => toldN 0 f S' = some (.ro ((homesOf b z).map encHm)) := by
  refine asgE (d := .ref 0) (S' := [.lst []]) rfl ?_
  simp only [List.set_cons_zero, List.set_cons_succ]
  refine forS (enc := encK) (l := b) (S' := [.lst []]) rfl (fun pre ρ S => ∃ v3 v4 v5 v6 v7, ρ = [some (.p (encB b)), some (.p (.str z)), some (.ref 0), v3, v4, v5, v6, v7] ∧ S = [.lst ((homesOf pre z).map encHm)]) ⟨_, _, _, _, _, rfl, rfl⟩ ?_ ?_
  · rintro pre k post ρ S hl ⟨v3, v4, v5, v6, v7, rfl, rfl⟩
    have hkb : k ∈ b := by rw [hl]; simp
    obtain ⟨hp, h6, hmk⟩ := hb.ok k hkb
    have hpre := homes_pre hb z hl
    refine Nd.go (turnE (ρ1 := [some (.p (encB b)), some (.p (.str z)), some (.ref 0), some (.p (.str k.1)), some (.p (.tup (k.2.map encM))), v5, v6, v7]) rfl ?_)
    rw [xFor, show cIt (cVar 4) [some (.p (encB b)), some (.p (.str z)), some (.ref 0), some (.p (.str k.1)), some (.p (.tup (k.2.map encM))), v5, v6, v7] [.lst ((homesOf pre z).map encHm)] = .ok (k.2.map encM, none) [.lst ((homesOf pre z).map encHm)] from rfl, bind_okE]
    refine forE1 (fun (pr : List Mk) ρ S => ∃ v5 v6 v7, ρ = [some (.p (encB b)), some (.p (.str z)), some (.ref 0), some (.p (.str k.1)), some (.p (.tup (k.2.map encM))), v5, v6, v7] ∧ S = [.lst ((homesOf pre z ++ pr.flatMap (hmM z k.1)).map encHm)]) ⟨_, _, _, rfl, by simp⟩ ?_ ?_
    · rintro pr m pst ρ S hl2 ⟨v5, v6, v7, rfl, rfl⟩
      have hm : m ∈ k.2 := by rw [hl2]; simp
      have h4 := (hmk m hm).1
      refine Nd.go (turnE (ρ1 := [some (.p (encB b)), some (.p (.str z)), some (.ref 0), some (.p (.str k.1)), some (.p (.tup (k.2.map encM))), some (.p (.str m.1)), some (.p (.tup (m.2.map .str))), v7]) rfl ?_)
      generalize hA : homesOf pre z ++ pr.flatMap (hmM z k.1) = A
      have hAl : A.length ≤ 200 := by
        have := hmK_len (z := z) (y := k.1) (ms := pr) fun x hx => (hmk x (by rw [hl2]; exact List.mem_append_left _ hx)).1
        have : pr.length ≤ 6 := by rw [hl2, List.length_append] at h6; omega
        rw [← hA, List.length_append]; omega
      have e1 : cRo (cComp (cRng1 (c1 gLen (cCons (cVar 6) cNil))) (gN 7) (cT (c2 (gEqB false) (c2 gIx (cVar 6) (cVar 7)) (cVar 1))) (cTup (cCons (cVar 3) (cCons (cVar 5) (cCons (cVar 6) (cCons (cVar 7) cNil))))) [7]) [some (.p (encB b)), some (.p (.str z)), some (.ref 0), some (.p (.str k.1)), some (.p (.tup (k.2.map encM))), some (.p (.str m.1)), some (.p (.tup (m.2.map .str))), v7] [.lst (A.map encHm)] = .ok (.p (.ro ((hmM z k.1 m).map encHm))) [.lst (A.map encHm)] := by
        rw [xRo, cmpF (enc := fun j : Nat => P.int (j : Int)) (l := List.range m.2.length) (fun i => decide (m.2.getD i num = z)) (fun i => encHm (k.1, m.1, m.2, i)) (by
          rw [cRng1_nat (S' := [.lst (A.map encHm)]) (n := m.2.length) (by simp only [x1, xCons, xNil, xVar0, xVarS, bind_okE, vLenTup, List.length_map]) (by omega), range_map]) (by rw [List.length_range]; omega) fun i hi => ⟨_, rfl, by
            have hi := List.mem_range.mp hi
            have e2 : ∀ S, gIx (.p (.tup (m.2.map .str))) (.p (.int i)) S = .ok (.p (.str (m.2.getD i num))) S := fun S => vIxT S (by omega) (by rw [Int.toNat_natCast, List.getElem?_map, List.getElem?_eq_getElem hi]; simp [hi])
            simp only [wipeE, List.set_cons_zero, List.set_cons_succ, xT, x2, xVar0, xVarS, bind_okE, e2, vEqS, xbT], fun _ => rfl⟩, bind_okE]
        unfold hmM
        rw [List.map_map]; rfl
      have ty : isTy "list" (.ref 0) [.lst (A.map encHm)] = true := vTyL rfl
      have ex := vExtRo (n := 0) (xs := A.map encHm) (zs := (hmM z k.1 m).map encHm) (S := [.lst (A.map encHm)]) rfl (by
        have := hmM_len (z := z) (y := k.1) h4
        rw [List.length_map, List.length_map]; omega)
      simp only [xDrop, xM, xVar0, xVarS, bind_okE, ty, if_true, xCons, xNil, e1, ex, List.set_cons_zero]
      refine .ok ⟨_, rfl, _, _, _, rfl, ?_⟩
      rw [List.flatMap_append, ← List.append_assoc, hA, List.flatMap_cons, List.flatMap_nil, List.append_nil, List.map_append]
    · rintro ρ S ⟨v5, v6, v7, rfl, rfl⟩
      refine ⟨_, rfl, _, _, _, _, _, rfl, ?_⟩
      have : homesOf (pre ++ [k]) z = homesOf pre z ++ k.2.flatMap (hmM z k.1) := by
        unfold homesOf
        rw [List.flatMap_append, List.flatMap_cons, List.flatMap_nil, List.append_nil]; rfl
      rw [this]
  · rintro ρ S ⟨v3, v4, v5, v6, v7, rfl, rfl⟩
    exact retE (d := .ref 0) (S' := [.lst ((homesOf b z).map encHm)]) rfl rfl
theorem homes_ok {T : List Fd} {k i : Nat} {b : List Kd} (hb : BookOk b) (h : T[i]? = some f_law_homes) : HomRun b (runT T (k + 1)) i := fun z => tells_of h rfl (body_homes (runT T k) hb z)
/-! ### dicts of makes -/
theorem pairs_makes (ms : List Mk) : pairsP (ms.map encM) = some (comD ms) := by
  induction ms with
  | nil => rfl
  | cons m r ih =>
    rw [List.map_cons]
    show ((keyP (.str m.1)).bind fun ky => (pairsP (r.map encM)).map ((ky, P.tup (m.2.map .str)) :: ·)) = _
    rw [ih]; rfl
theorem dict_makes {ms : List Mk} (h : (ms.map (·.1)).Nodup) : mergeP [] (comD ms) = comD ms := by
  have := merge_new (more := comD ms) (kvs := []) (ks := []) (ms := ms.map (·.1)) rfl (comD_keys ms) h (by simp)
  rwa [List.nil_append] at this
theorem dictR {c : CE} {ρ : Ev} {S : Sto} {ms : List Mk} (h : (ms.map (·.1)).Nodup) (e : c ρ S = .ok (.p (.ro (ms.map encM))) S) : cDo (cDPairs c) ρ S = .ok (.p (.dic (comD ms))) S := by
  simp only [xDo, xDPairsT, e, bind_okE, seqL, Option.bind_some, pairs_makes, dict_makes h]
theorem dictT {c : CE} {ρ : Ev} {S : Sto} {ms : List Mk} (h : (ms.map (·.1)).Nodup) (e : c ρ S = .ok (.p (.tup (ms.map encM))) S) : cDo (cDPairs c) ρ S = .ok (.p (.dic (comD ms))) S := by
  simp only [xDo, xDPairsT, e, bind_okE, pairs_makes, dict_makes h]
theorem come_nd {b : List Kd} (hb : BookOk b) (ks : List Str) (z : Str) : ((comeOf b ks z).map (·.1)).Nodup := (List.filter_sublist.map _).nodup (mkOf_nd hb z)
/-! ### what a shape holds -/
def encPr (q : Str × Str) : P := .tup [.str q.1, .str q.2]
theorem zip_enc : ∀ (fs : List Str) (ss : List Shp), zipP (fs.map .str) (ss.map encZ) = (fs.zip ss).map fun q => P.tup [.str q.1, encZ q.2]
  | [], _ => rfl
  | _ :: _, [] => rfl
  | f :: fs, s :: ss => by
    have := zip_enc fs ss
    unfold zipP at this ⊢
    simp only [List.map_cons, List.zipWith_cons_cons, List.zip_cons_cons, List.map_cons] at this ⊢
    rw [this]
theorem FmL.zip {F : Str → List (Str × Str) → Nat → Shp → Prop} {q : Str × Shp} {r : List (Str × Shp)} : ∀ {fs hl u ss}, FmL F fs hl u ss → fs.zip ss = q :: r → ∃ h1 u1 fs2 h2 u2 ss2, F q.1 h1 u1 q.2 ∧ FmL F fs2 h2 u2 ss2 ∧ fs2.zip ss2 = r ∧ hl = h1 ++ h2
  | _, _, _, _, .nil, e => by cases e
  | _, _, _, _, .cons a t, e => by cases e; exact ⟨_, _, _, _, _, _, a, t, rfl, rfl⟩
def HeldRun (b : List Kd) (d : Nat) (run : Run) (i : Nat) : Prop := ∀ z hl u s, Fm b d z hl u s → hl.length ≤ 1000 → Tells run i [encB b, .str z, encZ s] (.ro (hl.map encPr))
theorem body_held (run : Run) {ih : Nat} {b : List Kd} (hb : BookOk b) (d : Nat) (hr : HeldRun b d run ih) {z : Str} {hl : List (Str × Str)} {u : Nat} {s : Shp} (hf : Fm b (d + 1) z hl u s) (hlen : hl.length ≤ 1000) :
    Nd (b_law_held ih run [some (.p (encB b)), some (.p (.str z)), some (.p (encZ s)), none, none, none] []) fun f S' => toldN 0 f S' = some (.ro (hl.map encPr)) := by
  have tg : ∀ {s : Shp} {t : Str}, (∀ S, gIx (.p (encZ s)) (.p (.int 0)) S = .ok (.p (.str t)) S) → ∀ (u : Str) (w3 w4 w5 : Option D) (S : Sto), cT (c2 (gEqB false) (c2 gIx (cVar 2) (cP (.int 0))) (cP (.str u))) [some (.p (encB b)), some (.p (.str z)), some (.p (encZ s)), w3, w4, w5] S = .ok (decide (t = u)) S := fun h u w3 w4 w5 S => by
    simp only [xT, x2, xVar0, xVarS, xP, bind_okE, h, vEqS, xbT]
  have plain : ∀ {s : Shp} {t : Str}, (∀ S, gIx (.p (encZ s)) (.p (.int 0)) S = .ok (.p (.str t)) S) → t ≠ "held" → t ≠ "either" → t ≠ "make" → hl = [] → Nd (b_law_held ih run [some (.p (encB b)), some (.p (.str z)), some (.p (encZ s)), none, none, none] []) fun f S' => toldN 0 f S' = some (.ro (hl.map encPr)) := fun h n1 n2 n3 e => by
    refine seqF (S' := []) ((tg h "held" none none none []).trans (by rw [decide_eq_false n1])) (seqNil ?_)
    refine seqF (S' := []) ((tg h "either" none none none []).trans (by rw [decide_eq_false n2])) (seqNil ?_)
    refine asgE (d := .ref 0) (S' := [.lst []]) rfl ?_
    simp only [List.set_cons_zero, List.set_cons_succ]
    refine seqF (S' := [.lst []]) ((tg h "make" _ _ _ _).trans (by rw [decide_eq_false n3])) (seqNil ?_)
    subst e
    exact retE (d := .ref 0) (S' := [.lst []]) rfl rfl
  cases s with
  | any => obtain ⟨e, _⟩ := hf; exact plain (t := "any") (fun S => vIx0 _ _ S) (by decide) (by decide) (by decide) e
  | num lo hi => obtain ⟨_, e, _⟩ := hf; exact plain (t := "num") (fun S => vIx0 _ _ S) (by decide) (by decide) (by decide) e
  | held n s =>
    obtain ⟨h2, rfl, w⟩ := hf
    refine seqT (S' := []) ((tg (s := .held n s) (t := "held") (fun S => vIx0 _ _ S) "held" none none none []).trans (by rw [decide_eq_true rfl])) ?_
    rw [List.length_cons] at hlen
    have e1 := hr z h2 u s w (by omega) []
    have e1 : callV true run ih [.p (encB b), .p (.str z), .p (encZ s)] [] = .ok (.p (.ro (h2.map encPr))) [] := e1
    have i1 : ∀ S, gIx (.p (encZ (.held n s))) (.p (.int 1)) S = .ok (.p (.str n)) S := fun S => vIxT S (by omega) rfl
    have i2 : ∀ S, gIx (.p (encZ (.held n s))) (.p (.int 2)) S = .ok (.p (encZ s)) S := fun S => vIxT S (by omega) rfl
    have ad := vAddRo [encPr (n, z)] (h2.map encPr) [] (by rw [List.length_map, List.length_singleton]; omega)
    refine seqRetE (d := .p (.ro (((n, z) :: h2).map encPr))) (S' := []) ?_ rfl
    simp only [x2, xRo, xLst, xTup, xCallV, xCons, xNil, xP, xVar0, xVarS, bind_okE, i1, i2, e1, allP, List.length_cons, List.length_nil, sizeLine_val, Nat.reduceAdd, Nat.reduceLeDiff, if_true]
    exact ad
  | either ss =>
    obtain ⟨hne, us, rfl, w⟩ := hf
    obtain ⟨s, rest, rfl⟩ := List.exists_cons_of_ne_nil hne
    refine seqF (S' := []) ((tg (s := .either (s :: rest)) (t := "either") (fun S => vIx0 _ _ S) "held" none none none []).trans (by rw [neStr (by decide)])) (seqNil ?_)
    refine seqT (S' := []) ((tg (s := .either (s :: rest)) (t := "either") (fun S => vIx0 _ _ S) "either" none none none []).trans (by rw [decide_eq_true rfl])) ?_
    obtain ⟨w1, hw, _⟩ := fm_sum_mem w s List.mem_cons_self
    have e1 := hr z hl w1 s hw hlen []
    have e1 : callV true run ih [.p (encB b), .p (.str z), .p (encZ s)] [] = .ok (.p (.ro (hl.map encPr))) [] := e1
    have i1 : ∀ S, gIx (.p (encZ (.either (s :: rest)))) (.p (.int 1)) S = .ok (.p (.tup (encZ s :: encZs rest))) S := fun S => vIxT S (by omega) rfl
    have i2 : ∀ S, gIx (.p (.tup (encZ s :: encZs rest))) (.p (.int 0)) S = .ok (.p (encZ s)) S := fun S => vIx0 _ _ S
    exact seqRetE (d := .p (.ro (hl.map encPr))) (S' := []) (by simp only [xCallV, xCons, xNil, x2, xP, xVar0, xVarS, bind_okE, i1, i2, e1]) rfl
  | make n ss =>
    obtain ⟨fs, hm, w⟩ := hf
    refine seqF (S' := []) ((tg (s := .make n ss) (t := "make") (fun S => vIx0 _ _ S) "held" none none none []).trans (by rw [neStr (by decide)])) (seqNil ?_)
    refine seqF (S' := []) ((tg (s := .make n ss) (t := "make") (fun S => vIx0 _ _ S) "either" none none none []).trans (by rw [neStr (by decide)])) (seqNil ?_)
    refine asgE (d := .ref 0) (S' := [.lst []]) rfl ?_
    simp only [List.set_cons_zero, List.set_cons_succ]
    refine seqT (S' := [.lst []]) ((tg (s := .make n ss) (t := "make") (fun S => vIx0 _ _ S) "make" (some (.ref 0)) none none [.lst []]).trans (by rw [decide_eq_true rfl])) ?_
    have hkd : ∃ k, (b.find? fun y => decide (y.1 = z)) = some k ∧ mkOf b z = k.2 := by
      unfold mkOf at hm ⊢
      cases e : b.find? fun y => decide (y.1 = z) with
      | none => rw [e] at hm; cases hm
      | some k => exact ⟨k, rfl, rfl⟩
    obtain ⟨k, hk1, hk2⟩ := hkd
    have eD : ∀ S, cDo (cDPairs (c2 gIx (cDo (cDPairs (cVar 0))) (cVar 1))) [some (.p (encB b)), some (.p (.str z)), some (.p (encZ (.make n ss))), some (.ref 0), none, none] S = .ok (.p (.dic (comD (mkOf b z)))) S := fun S => dictT (mkOf_nd hb z) (by
      rw [x2, dictE hb rfl, bind_okE, xVarS, xVar0, bind_okE]
      exact vIxDic _ rfl (by rw [look_book, hk1, hk2]; rfl))
    have hfd : (mkOf b z).find? (fun m => decide (m.1 = n)) = some (n, fs) := by
      cases e : (mkOf b z).find? fun m => decide (m.1 = n) with
      | none => exact absurd (List.find?_eq_none.mp e _ hm) (by simp)
      | some m =>
        have h1 := List.mem_of_find?_eq_some e
        have h2 := List.find?_some e
        have h2 : m.1 = n := of_decide_eq_true h2
        have nd := mkOf_nd hb z
        obtain ⟨i, hi, e1⟩ := List.mem_iff_getElem.mp h1
        obtain ⟨j, hj, e2⟩ := List.mem_iff_getElem.mp hm
        have hij : ((mkOf b z).map (·.1))[i]'(by rw [List.length_map]; exact hi) = ((mkOf b z).map (·.1))[j]'(by rw [List.length_map]; exact hj) := by rw [List.getElem_map, List.getElem_map, e1, e2, h2]
        have := (List.getElem_inj nd).mp hij
        subst this
        rw [← e1, e2]
    have i1 : ∀ S, gIx (.p (encZ (.make n ss))) (.p (.int 1)) S = .ok (.p (.str n)) S := fun S => vIxT S (by omega) rfl
    have i2 : ∀ S, gIx (.p (encZ (.make n ss))) (.p (.int 2)) S = .ok (.p (.tup (ss.map encZ))) S := fun S => vIxT S (by omega) (by simp [encZs_eq])
    have i3 : ∀ S, gIx (.p (.dic (comD (mkOf b z)))) (.p (.str n)) S = .ok (.p (.tup (fs.map .str))) S := fun S => vIxDic S rfl (by rw [look_comD, hfd]; rfl)
    refine forS (enc := fun q : Str × Shp => P.tup [.str q.1, encZ q.2]) (l := fs.zip ss) (S' := [.lst []]) (by
      rw [xZip, x2, eD, bind_okE, x2, xVarS, xVarS, xVar0, bind_okE, xP, bind_okE, i1, bind_okE, i3, bind_okE, x2, xVarS, xVarS, xVar0, bind_okE, xP, bind_okE, i2, bind_okE]
      simp only [xSeqT, if_true, zip_enc]) (fun pre ρ S => ∃ v4 v5 h1 h2 fs2 ss2 u2, ρ = [some (.p (encB b)), some (.p (.str z)), some (.p (encZ (.make n ss))), some (.ref 0), v4, v5] ∧ S = [.lst (h1.map encPr)] ∧ hl = h1 ++ h2 ∧ fs.zip ss = pre ++ fs2.zip ss2 ∧ FmL (Fm b d) fs2 h2 u2 ss2) ⟨_, _, [], hl, fs, ss, u, rfl, rfl, rfl, rfl, w⟩ ?_ ?_
    · rintro pre q post ρ S hl2 ⟨v4, v5, h1, h2, fs2, ss2, u2, rfl, rfl, rfl, hz, hw⟩
      rw [hl2] at hz
      have hz := (List.append_cancel_left hz).symm
      obtain ⟨h3, u3, fs4, h4, u4, ss4, a, t, e5, rfl⟩ := hw.zip hz
      refine Nd.go (turnE rfl ?_)
      rw [List.length_append, List.length_append] at hlen
      have e1 := hr q.1 h3 u3 q.2 a (by omega) [.lst (h1.map encPr)]
      have e1 : callV true run ih [.p (encB b), .p (.str q.1), .p (encZ q.2)] [.lst (h1.map encPr)] = .ok (.p (.ro (h3.map encPr))) [.lst (h1.map encPr)] := e1
      have ty : isTy "list" (.ref 0) [.lst (h1.map encPr)] = true := vTyL rfl
      have ex := vExtRo (n := 0) (xs := h1.map encPr) (zs := h3.map encPr) (S := [.lst (h1.map encPr)]) rfl (by rw [List.length_map, List.length_map]; omega)
      simp only [List.set_cons_zero, List.set_cons_succ, xDrop, xM, xVar0, xVarS, bind_okE, ty, if_true, xCallV, xCons, xNil, e1, ex]
      refine .ok ⟨_, rfl, _, _, h1 ++ h3, h4, fs4, ss4, u4, rfl, by rw [List.map_append], by rw [List.append_assoc], by rw [hl2, List.append_assoc, e5]; rfl, t⟩
    · rintro ρ S ⟨v4, v5, h1, h2, fs2, ss2, u2, rfl, rfl, rfl, hz, hw⟩
      have h0 : fs2.zip ss2 = [] := by
        have := congrArg List.length hz
        rw [List.length_append] at this
        exact List.eq_nil_of_length_eq_zero (by omega)
      have h2e : h2 = [] := by
        cases hw with
        | nil => rfl
        | cons a t => cases h0
      subst h2e
      rw [List.append_nil]
      exact retE (d := .ref 0) (S' := [.lst (h1.map encPr)]) rfl rfl
theorem held_ok {T : List Fd} {i : Nat} {b : List Kd} (hb : BookOk b) (h : T[i]? = some (f_law_held i)) : ∀ d k, d ≤ k → HeldRun b d (runT T (k + 1)) i
  | 0, _, _ => fun _ _ _ _ hf => hf.elim
  | d + 1, k, hk => fun z hl u s hf hlen => by
    obtain ⟨k, rfl⟩ : ∃ k', k = k' + 1 := ⟨k - 1, by omega⟩
    exact tells_of h rfl (body_held (runT T (k + 1)) hb d (held_ok hb h d k (by omega)) hf hlen)
end Gs
set_option Elab.async false
set_option linter.all false
set_option maxRecDepth 100000
set_option maxHeartbeats 4000000
namespace Gs
open Cw L2
open PySem hiding Run

/-! ### tests and lines moved -/
theorem vAddSp (a c : Spot) (S : Sto) (h : a.length + c.length ≤ 16777216) : gAdd (.p (encS a)) (.p (encS c)) S = .ok (.p (encS (a ++ c))) S := by
  unfold encS
  rw [vAddT _ _ _ (by rw [List.length_map, List.length_map]; exact h), List.map_append]
def encMv (sp : Spot) (o : Option Spot) : P := encO (o.map (sp ++ ·))
theorem encZ_make (n : Str) (L : List Shp) : encZ (.make n L) = .tup [.str "make", .str n, .tup (L.map encZ)] := by rw [encZ, encZs_eq]
def MovRun (run : Run) (i : Nat) : Prop := ∀ sp t, sp.length ≤ 1000 → TS 1000 t → Tells run i [encS sp, encTst t] (encTst (mvT sp t))
theorem body_moved (run : Run) {sp : Spot} {t : Tst} (hs : sp.length ≤ 1000) (ht : TS 1000 t) : Nd (b_law_moved run [some (.p (encS sp)), some (.p (encTst t)), none, none] []) fun f S' => toldN 0 f S' = some (encTst (mvT sp t)) := by
  cases t with
  | is s m =>
    have h : s.length ≤ 1000 := ht
    have i0 : ∀ S, gIx (.p (encTst (.is s m))) (.p (.int 0)) S = .ok (.p (.str "is")) S := fun S => vIx0 _ _ S
    have i1 : ∀ S, gIx (.p (encTst (.is s m))) (.p (.int 1)) S = .ok (.p (encS s)) S := fun S => vIxT S (by omega) rfl
    have i2 : ∀ S, gIx (.p (encTst (.is s m))) (.p (.int 2)) S = .ok (.p (.str m)) S := fun S => vIxT S (by omega) rfl
    refine seqT (S' := []) (by simp only [xT, x2, xVar0, xVarS, xP, bind_okE, i0, vEqS]; rfl) (seqRetE (d := .p (encTst (mvT sp (.is s m)))) (S' := []) ?_ rfl)
    simp only [xTup, xCons, xNil, x2, xVar0, xVarS, xP, bind_okE, i1, i2, vAddSp sp s [] (by omega), allP, List.length_cons, List.length_nil, sizeLine_val, Nat.reduceAdd, Nat.reduceLeDiff, if_true]
    rfl
  | most p q d =>
    have i0 : ∀ S, gIx (.p (encTst (.most p q d))) (.p (.int 0)) S = .ok (.p (.str "most")) S := fun S => vIx0 _ _ S
    have i3 : ∀ S, gIx (.p (encTst (.most p q d))) (.p (.int 3)) S = .ok (.p (.int d)) S := fun S => vIxT S (by omega) rfl
    refine seqF (S' := []) (by simp only [xT, x2, xVar0, xVarS, xP, bind_okE, i0, vEqS, neStr (show ("most" : Str) ≠ "is" by decide), xbT]) (seqNil ?_)
    refine asgE (d := .ref 0) (S' := [.lst []]) rfl ?_
    simp only [List.set_cons_zero, List.set_cons_succ]
    refine forS (enc := encO) (l := [p, q]) (S' := [.lst []]) rfl (fun pre ρ S => ∃ v3, ρ = [some (.p (encS sp)), some (.p (encTst (.most p q d))), some (.ref 0), v3] ∧ S = [.lst (pre.map (encMv sp))]) ⟨_, rfl, rfl⟩ ?_ ?_
    · rintro pre o post ρ S hl ⟨v3, rfl, rfl⟩
      have ho : o = p ∨ o = q := by
        have : o ∈ [p, q] := by rw [hl]; simp
        simpa using this
      have hlen : pre.length ≤ 2 := by
        have := congrArg List.length hl
        rw [List.length_append, List.length_cons] at this
        simp at this; omega
      have hb : OS 1000 o := ho.elim (fun e => e ▸ ht.1) (fun e => e ▸ ht.2)
      refine Nd.go (turnE rfl ?_)
      have fin : ∀ x : P, x = encMv sp o → Nd (sDrop (cM "list" gAppend (cVar 2) (cCons (cVar 3) cNil)) [some (.p (encS sp)), some (.p (encTst (.most p q d))), some (.ref 0), some (.p x)] [.lst (pre.map (encMv sp))]) fun f S' => ∃ ρ', f = .nx ρ' ∧ ∃ v3, ρ' = [some (.p (encS sp)), some (.p (encTst (.most p q d))), some (.ref 0), v3] ∧ S' = [.lst ((pre ++ [o]).map (encMv sp))] := fun x e => by
        have ty : isTy "list" (.ref 0) [.lst (pre.map (encMv sp))] = true := vTyL rfl
        have ap := vAppend (n := 0) (xs := pre.map (encMv sp)) (y := x) (S := [.lst (pre.map (encMv sp))]) rfl (by rw [List.length_map, sizeLine_val]; omega)
        simp only [xDrop, xM, xVar0, xVarS, bind_okE, ty, if_true, xCons, xNil, ap, List.set_cons_zero]
        exact .ok ⟨_, rfl, _, rfl, by rw [List.map_append, e]; rfl⟩
      cases o with
      | none => exact seqF (S' := [.lst (pre.map (encMv sp))]) rfl (seqNil (fin .non rfl))
      | some s =>
        have h := hb s rfl
        refine seqT (S' := [.lst (pre.map (encMv sp))]) rfl ?_
        simp only [List.set_cons_zero, List.set_cons_succ]
        refine asgE (d := .p (encS (sp ++ s))) (S' := [.lst (pre.map (encMv sp))]) ?_ (fin (encS (sp ++ s)) rfl)
        have := vAddSp sp s [.lst (pre.map (encMv sp))] (by omega)
        rw [x2]; exact this
    · rintro ρ S ⟨v3, rfl, rfl⟩
      refine retE (d := .p (encTst (mvT sp (.most p q d)))) (S' := [.lst ([p, q].map (encMv sp))]) ?_ rfl
      have j0 : gIx (.ref 0) (.p (.int 0)) [.lst ([p, q].map (encMv sp))] = .ok (.p (encMv sp p)) [.lst ([p, q].map (encMv sp))] := vIxRef rfl (by omega) rfl
      have j1 : gIx (.ref 0) (.p (.int 1)) [.lst ([p, q].map (encMv sp))] = .ok (.p (encMv sp q)) [.lst ([p, q].map (encMv sp))] := vIxRef rfl (by omega) rfl
      simp only [xTup, xCons, xNil, x2, xVar0, xVarS, xP, bind_okE, j0, j1, i3, allP, List.length_cons, List.length_nil, sizeLine_val, Nat.reduceAdd, Nat.reduceLeDiff, if_true]
      rfl
theorem moved_ok {T : List Fd} {k i : Nat} (h : T[i]? = some f_law_moved) : MovRun (runT T (k + 1)) i := fun sp t hs ht => tells_of h rfl (body_moved (runT T k) hs ht)
def AheRun (run : Run) (i : Nat) : Prop := ∀ sp a, sp.length ≤ 1000 → a.length ≤ 1000 → LB 4000000 a → SB 1000 a → Tells run i [encS sp, encLs a] (encLs (a.map (mvL sp)))
theorem body_ahead (run : Run) {im : Nat} (hm : MovRun run im) {sp : Spot} {a : List Line} (hs : sp.length ≤ 1000) (ha : a.length ≤ 1000) (lb : LB 4000000 a) (sb : SB 1000 a) :
    Nd (b_law_ahead im run [some (.p (encS sp)), some (.p (encLs a)), none, none, none, none, none, none, none] []) fun f S' => toldN 0 f S' = some (encLs (a.map (mvL sp))) := by
  refine asgE (d := .ref 0) (S' := [.lst []]) rfl ?_
  simp only [List.set_cons_zero, List.set_cons_succ]
  refine forS (enc := encL) (l := a) (S' := [.lst []]) rfl (fun pre ρ S => ∃ v3 v4 v5 v6 v7 v8, ρ = [some (.p (encS sp)), some (.p (encLs a)), some (.ref 0), v3, v4, v5, v6, v7, v8] ∧ S = [.lst ((pre.map (mvL sp)).map encL)]) ⟨_, _, _, _, _, _, rfl, rfl⟩ ?_ ?_
  · rintro pre x post ρ S hl ⟨v3, v4, v5, v6, v7, v8, rfl, rfl⟩
    have hx : x ∈ a := by rw [hl]; simp
    have hpl : pre.length ≤ 1000 := by rw [hl, List.length_append] at ha; omega
    have bx := lb x hx
    obtain ⟨s1, s2⟩ := sb x hx
    refine Nd.go (turnE (ρ1 := [some (.p (encS sp)), some (.p (encLs a)), some (.ref 0), some (.p (.tup (x.1.map encTst))), some (.p (.tup (x.2.map encQ))), v5, v6, v7, v8]) rfl ?_)
    have em1 : (x.1.map fun t => encTst (mvT sp t)) = (x.1.map (mvT sp)).map encTst := by rw [List.map_map]; rfl
    have em2 : (x.2.map fun z => encQ (z.1, sp ++ z.2)) = (x.2.map fun z => (z.1, sp ++ z.2)).map encQ := by rw [List.map_map]; rfl
    refine asgE (d := .p (.tup ((x.1.map (mvT sp)).map encTst))) (S' := [.lst ((pre.map (mvL sp)).map encL)]) (by
      rw [x1, xCons, xRo, cmpM (enc := encTst) (l := x.1) (fun t => encTst (mvT sp t)) rfl (by omega) fun t ht => ⟨_, rfl, by
        have e1 := hm sp t hs (s1 t ht) [.lst ((pre.map (mvL sp)).map encL)]
        simp only [wipeE, List.set_cons_zero, List.set_cons_succ, xCallV, xCons, xNil, xVar0, xVarS, bind_okE]
        exact e1⟩, bind_okE, bind_okE, xNil, bind_okE, bind_okE, vTupRo, em1]) ?_
    simp only [List.set_cons_zero, List.set_cons_succ]
    have e2 : cRo (cComp (cIt (cVar 4)) (gTp 2 (gsCons (gN 7) (gsCons (gN 8) gsNil))) cYes (cTup (cCons (cVar 7) (cCons (c2 gAdd (cVar 0) (cVar 8)) cNil))) [7, 8]) [some (.p (encS sp)), some (.p (encLs a)), some (.ref 0), some (.p (.tup (x.1.map encTst))), some (.p (.tup (x.2.map encQ))), some (.p (.tup ((x.1.map (mvT sp)).map encTst))), v6, v7, v8] [.lst ((pre.map (mvL sp)).map encL)] = .ok (.p (.ro ((x.2.map fun z => (z.1, sp ++ z.2)).map encQ))) [.lst ((pre.map (mvL sp)).map encL)] := by
      rw [xRo, cmpM (enc := encQ) (l := x.2) (fun z => encQ (z.1, sp ++ z.2)) rfl (by omega) fun z hz => ⟨_, rfl, by
        have e1 := vAddSp sp z.2 [.lst ((pre.map (mvL sp)).map encL)] (by have := s2 z hz; omega)
        simp only [wipeE, List.set_cons_zero, List.set_cons_succ, xTup, xCons, xNil, x2, xVar0, xVarS, bind_okE, e1, allP, List.length_cons, List.length_nil, sizeLine_val, Nat.reduceAdd, Nat.reduceLeDiff, if_true]
        rfl⟩, bind_okE, em2]
    have ty : isTy "list" (.ref 0) [.lst ((pre.map (mvL sp)).map encL)] = true := vTyL rfl
    have ap := vAppend (n := 0) (xs := (pre.map (mvL sp)).map encL) (y := encL (mvL sp x)) (S := [.lst ((pre.map (mvL sp)).map encL)]) rfl (by rw [List.length_map, List.length_map, sizeLine_val]; omega)
    have ap : gAppend (.ref 0) [.p (.tup [.tup ((x.1.map (mvT sp)).map encTst), .tup ((x.2.map fun z => (z.1, sp ++ z.2)).map encQ)])] [.lst ((pre.map (mvL sp)).map encL)] = _ := ap
    simp only [xDrop, xM, xVar0, xVarS, bind_okE, ty, if_true, xCons, xNil, xTup, x1, e2, vTupRo, allP, List.length_cons, List.length_nil, sizeLine_val, Nat.reduceAdd, Nat.reduceLeDiff, ap, List.set_cons_zero]
    exact .ok ⟨_, rfl, _, _, _, _, _, _, rfl, by rw [List.map_append, List.map_append]; rfl⟩
  · rintro ρ S ⟨v3, v4, v5, v6, v7, v8, rfl, rfl⟩
    exact retE (d := .ref 0) (S' := [.lst ((a.map (mvL sp)).map encL)]) rfl rfl
theorem ahead_ok {T : List Fd} {k i im : Nat} (h : T[i]? = some (f_law_ahead im)) (hm : MovRun (runT T k) im) : AheRun (runT T (k + 1)) i := fun sp a hs ha lb sb => tells_of h rfl (body_ahead (runT T k) hm hs ha lb sb)
/-! ### a spot to a kind -/
theorem vInCom (neg : Bool) {n : Str} {ms : List Mk} (S : Sto) : gInB neg (.p (.str n)) (.p (.dic (comD ms))) S = .ok (.p (.bl (if neg then !decide (n ∈ ms.map (·.1)) else decide (n ∈ ms.map (·.1))))) S := vInKeys neg S rfl (comD_keys ms)
def SpoRun (b : List Kd) (kvs : List (Key × P)) (run : Run) (i : Nat) : Prop := ∀ z, Takes Pool run i (fun q => [.p (encB b), .p (.dic kvs), .p (.str z), q]) fun x => ∃ sp : Spot, x = encS sp ∧ sp.length ≤ 3
theorem body_spot_to (run : Run) {jn ih ic : Nat} (hn : NextOk run jn) (hc : ComeRun run ic) {b : List Kd} (hb : BookOk b) (hh : HomRun b run ih) {kvs : List (Key × P)} {ks : List Str} (hk : KeyIs kvs ks) {z : Str} {o : Ob} (ho : Pool o) :
    Nd (b_law_spot_to jn ih ic run [some (.p (encB b)), some (.p (.dic kvs)), some (.p (.str z)), some (.ref 0), none, none, none, none] [o]) fun f S' => ∃ x o', toldN 1 f S' = some x ∧ S'[0]? = some o' ∧ Pool o' ∧ ∃ sp : Spot, x = encS sp ∧ sp.length ≤ 3 := by
  refine asgE (d := .p (encS [])) (S' := [o]) rfl ?_
  simp only [List.set_cons_zero, List.set_cons_succ]
  obtain ⟨_, _, e1, n, o1, rfl, rfl, ho1, hn4⟩ := hn.d0 (ca := cVar 3) (cb := cP (.int 4)) (ρ := [some (.p (encB b)), some (.p (.dic kvs)), some (.p (.str z)), some (.ref 0), some (.p (encS [])), none, none, none]) (base := 4) (S := []) rfl rfl ho (by omega) (by omega)
  refine rngS (n := n) (S' := [o1]) (cRng1_nat e1 (by omega)) (fun t ρ S => ∃ (z' : Str) (sp : Spot) (o' : Ob) (v5 v6 v7 : Option D), ρ = [some (.p (encB b)), some (.p (.dic kvs)), some (.p (.str z')), some (.ref 0), some (.p (encS sp)), v5, v6, v7] ∧ S = [o'] ∧ Pool o' ∧ sp.length ≤ t) ⟨z, [], o1, _, _, _, rfl, rfl, ho1, Nat.le_refl _⟩ ?_ ?_
  · rintro t ρ S ht ⟨z', sp, o', v5, v6, v7, rfl, rfl, ho', hsp⟩
    refine Nd.go (turnE rfl ?_)
    have eh := hh z' [o']
    have eh : callV true run ih [.p (encB b), .p (.str z')] [o'] = .ok (.p (.ro ((homesOf b z').map encHm))) [o'] := eh
    have hlen := homes_pre hb z' (pre := b) (post := []) (by simp)
    generalize hHL : (homesOf b z').filter (fun h => decide (h.2.1 ∈ (comeOf b ks h.1).map (·.1))) = HL
    have hHLl : HL.length ≤ 144 := by rw [← hHL]; exact Nat.le_trans (List.length_filter_le _ _) hlen
    refine asgE (d := .p (.ro (HL.map encHm))) (S' := [o']) (by
      rw [xRo, cmpF (enc := encHm) (l := homesOf b z') (fun h => decide (h.2.1 ∈ (comeOf b ks h.1).map (·.1))) encHm (by
        simp only [xIt, xCallV, xCons, xNil, List.set_cons_zero, List.set_cons_succ, xVar0, xVarS, bind_okE, eh]; rfl) (by omega) fun h hh => ⟨_, rfl, by
          have i1 : ∀ S, gIx (.p (encHm h)) (.p (.int 1)) S = .ok (.p (.str h.2.1)) S := fun S => vIxT S (by omega) rfl
          have i0 : ∀ S, gIx (.p (encHm h)) (.p (.int 0)) S = .ok (.p (.str h.1)) S := fun S => vIxT S (by omega) rfl
          have ec := hc b kvs ks h.1 hb hk [o']
          have ec : callV true run ic [.p (encB b), .p (.dic kvs), .p (.str h.1)] [o'] = _ := ec
          have eD := dictR (c := cCallV true run ic (cCons (cVar 0) (cCons (cVar 1) (cCons (c2 gIx (cVar 7) (cP (.int 0))) cNil)))) (ρ := [some (.p (encB b)), some (.p (.dic kvs)), some (.p (.str z')), some (.ref 0), some (.p (encS sp)), some (.p (.int t)), v6, some (.p (encHm h))]) (S := [o']) (come_nd hb ks h.1) (by
            simp only [xCallV, xCons, xNil, xVar0, xVarS, x2, xP, bind_okE, i0, ec])
          simp only [wipeE, List.set_cons_zero, List.set_cons_succ, xT]
          rw [x2, x2, xVarS, xVarS, xVarS, xVarS, xVarS, xVarS, xVarS, xVar0, bind_okE, xP, bind_okE, i1, bind_okE, eD, bind_okE, vInCom, xbT]; rfl, fun _ => rfl⟩, bind_okE, hHL]) ?_
    simp only [List.set_cons_zero, List.set_cons_succ]
    have lg : ∀ ρ' : Ev, (∃ a1 a2 a3 a4 a5 a6 r, ρ' = a1 :: a2 :: a3 :: a4 :: a5 :: a6 :: some (.p (.ro (HL.map encHm))) :: r) → ∀ S, c1 gLen (cCons (cVar 6) cNil) ρ' S = .ok (.p (.int HL.length)) S := by
      rintro ρ' ⟨_, _, _, _, _, _, _, rfl⟩ S
      simp only [x1, xCons, xNil, xVar0, xVarS, bind_okE, vLenRo, List.length_map]
    by_cases h0 : (0 : Int) < (HL.length : Nat)
    · refine ifT (S' := [o']) (by rw [xT, x2, lg _ ⟨_, _, _, _, _, _, _, rfl⟩, bind_okE, xP, bind_okE, vGt, decide_eq_true h0, xbT]) ?_
      obtain ⟨_, _, e2, x, o2, hx, rfl, rfl, ho2⟩ := pick0 (tbl := cVar 6) (xs := HL.map encHm) (S := []) (o := o') (ρ := [some (.p (encB b)), some (.p (.dic kvs)), some (.p (.str z')), some (.ref 0), some (.p (encS sp)), some (.p (.int t)), some (.p (.ro (HL.map encHm))), v7]) rfl
        (hn.d0 (ca := cVar 3) (cb := c1 gLen (cCons (cVar 6) cNil)) (base := HL.length) rfl (lg _ ⟨_, _, _, _, _, _, _, rfl⟩ _) ho' h0 (by omega) |>.mono fun d S' ⟨x, o', e1, e2, h1, h2⟩ => ⟨x, o', e1, e2, h1, by rw [List.length_map]; exact h2⟩)
      obtain ⟨h, hhm, rfl⟩ := List.mem_map.mp hx
      refine asgE e2 ?_
      simp only [List.set_cons_zero, List.set_cons_succ]
      have i1 : ∀ S, gIx (.p (encHm h)) (.p (.int 1)) S = .ok (.p (.str h.2.1)) S := fun S => vIxT S (by omega) rfl
      have i0 : ∀ S, gIx (.p (encHm h)) (.p (.int 0)) S = .ok (.p (.str h.1)) S := fun S => vIxT S (by omega) rfl
      have i3 : ∀ S, gIx (.p (encHm h)) (.p (.int 3)) S = .ok (.p (.int h.2.2.2)) S := fun S => vIxT S (by omega) rfl
      have ad := vAddSp [(h.2.1, h.2.2.2)] sp [o2] (by rw [List.length_singleton]; omega)
      have ad : gAdd (.p (.tup [.tup [.str h.2.1, .int h.2.2.2]])) (.p (encS sp)) [o2] = _ := ad
      refine asgE (d := .p (encS ((h.2.1, h.2.2.2) :: sp))) (S' := [o2]) (by
        simp only [x2, xTup, xCons, xNil, xVar0, xVarS, xP, bind_okE, i1, i3, allP, List.length_cons, List.length_nil, sizeLine_val, Nat.reduceAdd, Nat.reduceLeDiff, if_true, ad]; rfl) ?_
      simp only [List.set_cons_zero, List.set_cons_succ]
      simp only [xAsg, x2, xVar0, xVarS, xP, bind_okE, i0, xgN, List.set_cons_zero, List.set_cons_succ]
      exact .ok ⟨_, rfl, h.1, _, o2, _, _, _, rfl, rfl, ho2, by rw [List.length_cons]; omega⟩
    · refine ifF (S' := [o']) (by rw [xT, x2, lg _ ⟨_, _, _, _, _, _, _, rfl⟩, bind_okE, xP, bind_okE, vGt, decide_eq_false h0, xbT]) ?_
      exact .ok ⟨_, rfl, z', sp, o', _, _, _, rfl, rfl, ho', by omega⟩
  · rintro ρ S ⟨z', sp, o', v5, v6, v7, rfl, rfl, ho', hsp⟩
    exact retE (d := .p (encS sp)) (S' := [o']) rfl ⟨_, o', rfl, rfl, ho', sp, rfl, by omega⟩
theorem spot_to_ok {T : List Fd} {k i jn ih ic : Nat} (h : T[i]? = some (f_law_spot_to jn ih ic)) (hn : NextOk (runT T k) jn) (hc : ComeRun (runT T k) ic) {b : List Kd} (hb : BookOk b) (hh : HomRun b (runT T k) ih) {kvs : List (Key × P)} {ks : List Str} (hk : KeyIs kvs ks) : SpoRun b kvs (runT T (k + 1)) i := fun z =>
  takes_of (mk := fun q => [.p (encB b), .p (.dic kvs), .p (.str z), q]) ⟨fun n => rfl, fun n => by simp [numOf]⟩ (fun _ h => h.live) h rfl fun o ho => body_spot_to (runT T k) hn hc hb hh hk ho
/-! ### a shape put at a place -/
def PlaRun (run : Run) (i : Nat) : Prop := ∀ (h : Hm) (s : Shp), h.2.2.1.length ≤ 4 → h.2.2.2 < h.2.2.1.length → Tells run i [encHm h, encZ s] (encZ (.make h.2.1 (placeL h.2.2.2 h.2.2.1.length s)))
theorem body_placed (run : Run) {h : Hm} {s : Shp} (h4 : h.2.2.1.length ≤ 4) (hi : h.2.2.2 < h.2.2.1.length) : Nd (b_law_placed run [some (.p (encHm h)), some (.p (encZ s)), none] []) fun f S' => toldN 0 f S' = some (encZ (.make h.2.1 (placeL h.2.2.2 h.2.2.1.length s))) := by
  refine asgE (d := .p (.tup [encZ .any])) (S' := []) rfl ?_
  simp only [List.set_cons_zero, List.set_cons_succ]
  have i1 : ∀ S, gIx (.p (encHm h)) (.p (.int 1)) S = .ok (.p (.str h.2.1)) S := fun S => vIxT S (by omega) rfl
  have i2 : ∀ S, gIx (.p (encHm h)) (.p (.int 2)) S = .ok (.p (.tup (h.2.2.1.map .str))) S := fun S => vIxT S (by omega) rfl
  have i3 : ∀ S, gIx (.p (encHm h)) (.p (.int 3)) S = .ok (.p (.int h.2.2.2)) S := fun S => vIxT S (by omega) rfl
  have fl : ∀ n : Nat, (List.replicate n [encZ .any]).flatten = List.replicate n (encZ .any) := fun n => by simp
  have m1 := vMulT (xs := [encZ .any]) (k := (h.2.2.2 : Int)) [] (by simp) (by omega) (by omega) (by simp)
  rw [Int.toNat_natCast, fl] at m1
  have hsub : ((h.2.2.1.length : Nat) : Int) - (h.2.2.2 : Nat) - 1 = ((h.2.2.1.length - h.2.2.2 - 1 : Nat) : Int) := by omega
  have m2 := vMulT (xs := [encZ .any]) (k := ((h.2.2.1.length - h.2.2.2 - 1 : Nat) : Int)) [] (by simp) (by omega) (by omega) (by simp)
  rw [Int.toNat_natCast, fl] at m2
  have a1 := vAddT (List.replicate h.2.2.2 (encZ .any)) [encZ s] [] (by rw [List.length_replicate, List.length_singleton]; omega)
  have a2 := vAddT (List.replicate h.2.2.2 (encZ .any) ++ [encZ s]) (List.replicate (h.2.2.1.length - h.2.2.2 - 1) (encZ .any)) [] (by rw [List.length_append, List.length_replicate, List.length_replicate, List.length_singleton]; omega)
  refine retE (d := .p (encZ (.make h.2.1 (placeL h.2.2.2 h.2.2.1.length s)))) (S' := []) ?_ rfl
  simp only [xTup, xCons, xNil, x2, x1, xVar0, xVarS, xP, bind_okE, i1, i2, i3, vLenTup, List.length_map, vSub, hsub, m1, m2, a1, a2, allP, List.length_cons, List.length_nil, sizeLine_val, Nat.reduceAdd, Nat.reduceLeDiff, if_true]
  rw [encZ_make, placeL, List.map_append, List.map_append, List.map_replicate, List.map_replicate]; rfl
theorem placed_ok {T : List Fd} {k i : Nat} (h : T[i]? = some f_law_placed) : PlaRun (runT T (k + 1)) i := fun hm s h4 hi => tells_of h rfl (body_placed (runT T k) h4 hi)
end Gs
set_option Elab.async false
set_option linter.all false
set_option maxRecDepth 100000
set_option maxHeartbeats 4000000
namespace Gs
open Cw L2
open PySem hiding Run

/-! ### what every law of the family begins with -/
theorem at_p1 {G : Sto} {o : Ob} : (G ++ [o])[G.length]? = some o := by simp
theorem set_p1 {G : Sto} {o o' : Ob} : (G ++ [o]).set G.length o' = G ++ [o'] := by simp [List.set_append]
theorem cells_it {ns : List Int} (hl : ns.length ≤ 63) (r : Ev) (S : Sto) : cIt (c2 gAdd (cRo (cLst (cCons (cP (.int 0)) cNil))) (cSl (cVar 0) (cOSome (cP (.int 1))) cONone)) (some (.p (.scr (ns.map .int))) :: r) S = .ok ((0 :: ns.drop 1).map P.int, none) S := by
  have sl : ∀ S, gSl (.p (.scr (ns.map .int))) (some 1) none S = .ok (.p (.ro ((ns.drop 1).map .int))) S := fun S => by
    show (R.ok (Cw.D.p (P.ro (cutP (ns.map .int) (some 1) none))) S : R Cw.D) = _
    congr 3
    unfold cutP
    rcases Nat.lt_or_ge 0 ns.length with q | q
    · have := cut_post (ns.map P.int) 1 (by rw [List.length_map]; omega)
      rw [List.map_drop]; exact this
    · have : ns = [] := List.eq_nil_of_length_eq_zero (by omega)
      subst this; rfl
  simp only [xIt, x2, xRo, xLst, xCons, xNil, xP, xSl, xOSome, xONone, xVar0, bind_okE, allP, List.length_cons, List.length_nil, sizeLine_val, Nat.reduceAdd, Nat.reduceLeDiff, if_true, sl]
  rw [vAddRo _ _ _ (by rw [List.length_map, List.length_drop, List.length_singleton]; omega)]
  rfl
theorem keys_is {kvs : List (Key × P)} {ks : List Str} (h : KeyIs kvs ks) : keysP kvs = ks.map .str := by
  have : keysP kvs = (kvs.map (·.1)).map keyU := by rw [List.map_map]; rfl
  rw [this, h, List.map_map]; rfl
theorem keys_ok {kvs : List (Key × P)} {ks : List Str} (h : KeyIs kvs ks) (hk : ∀ z ∈ ks, PyData.strOk z = true) : kvs.all (fun kv => keyOk kv.1) = true := by
  rw [List.all_eq_true]
  intro kv hkv
  have : kv.1 ∈ kvs.map (·.1) := List.mem_map_of_mem hkv
  rw [h] at this
  obtain ⟨z, hz, e⟩ := List.mem_map.mp this
  rw [← e]
  exact hk z hz
theorem strs_map : ∀ ks : List Str, strsP (ks.map P.str) = some ks
  | [] => rfl
  | z :: r => by rw [List.map_cons, strsP, strs_map r]; rfl
theorem sortedE {b : List Kd} (hb : BookOk b) {kvs : List (Key × P)} {ks : List Str} (p : Plain b kvs ks) {ρ : Ev} {S : Sto} {j : Nat} (h : ρ[j]? = some (some (.p (.dic kvs)))) : cRo (nSortS (cRo (nKeys (cVar j)))) ρ S = .ok (.p (.ro ((sortStr ks).map .str))) S := by
  have hok : ∀ z ∈ ks, PyData.strOk z = true := fun z hz => by
    rcases List.mem_cons.mp (p.pd.sub z hz).2 with rfl | q
    · decide +kernel
    · obtain ⟨k, hk, rfl⟩ := List.mem_map.mp q; exact hb.sk k hk
  have hl := pd_len p.pd
  have h6 := hb.len
  have e1 : nKeys (cVar j) ρ S = .ok (ks.map .str) S := by
    unfold nKeys
    rw [var_at h, bind_okE]
    simp only [dicL, keys_ok p.pd.keys hok, if_true, keys_is p.pd.keys]
  rw [xRo, xSortS, xRo, e1]
  simp only [bind_okE, seqA, seqL, Option.bind_some, strs_map]
  rw [if_pos (by omega)]; rfl
theorem vEqB (a b : Bool) (S : Sto) : gEqB false (.p (.bl a)) (.p (.bl b)) S = .ok (.p (.bl (decide (a = b)))) S := by
  cases a <;> cases b <;> rfl
theorem Plain.kn {b : List Kd} {kvs : List (Key × P)} {ks : List Str} (p : Plain b kvs ks) {z : Str} (h : z ∈ ks) : Kn b z := List.mem_cons.mp (p.pd.sub z h).2
/-- ['num'] + [kind for kind, makes in book] -/
theorem kindsE {b : List Kd} (hb : BookOk b) {ρ : Ev} {S : Sto} {jb jk jm : Nat} (h : ρ[jb]? = some (some (.p (encB b)))) (hk : jk < ρ.length) (hm : jm < ρ.length) (hkm : jk ≠ jm) :
    c2 gAdd (cRo (cLst (cCons (cP (.str "num")) cNil))) (cRo (cComp (cIt (cVar jb)) (gTp 2 (gsCons (gN jk) (gsCons (gN jm) gsNil))) cYes (cVar jk) [jk, jm])) ρ S = .ok (.p (.ro ((num :: b.map (·.1)).map .str))) S := by
  have h6 := hb.len
  have e1 : cRo (cComp (cIt (cVar jb)) (gTp 2 (gsCons (gN jk) (gsCons (gN jm) gsNil))) cYes (cVar jk) [jk, jm]) ρ S = .ok (.p (.ro ((b.map (·.1)).map .str))) S := by
    rw [xRo, cmpM (enc := encK) (l := b) (fun k => P.str k.1) (by rw [it_at h]) (by omega) fun k _ => ⟨((wipeE ρ [jk, jm]).set jk (some (.p (.str k.1)))).set jm (some (.p (.tup (k.2.map encM)))), rfl, by
      refine var_at ?_ S
      have hl : jk < (wipeE ρ [jk, jm]).length := by simp [wipeE, hk]
      rw [List.getElem?_set_ne (Ne.symm hkm), List.getElem?_set_self hl]⟩, bind_okE, List.map_map]
    rfl
  have e2 : cRo (cLst (cCons (cP (.str "num")) cNil)) ρ S = .ok (.p (.ro [.str num])) S := rfl
  rw [x2, e2, bind_okE, e1, bind_okE, vAddRo _ _ _ (by rw [List.length_map, List.length_map, List.length_singleton]; omega)]
  rfl
theorem dep_P (l : List (Str × Str)) : P.deps (l.map encPr) ≤ 1 := deps_le fun x hx => by
  obtain ⟨t, _, rfl⟩ := List.mem_map.mp hx
  simp [encPr, P.dep, P.deps]
theorem dep_encLs (a : List Line) : (encLs a).dep ≤ 64 := by
  have := dep_Ls a
  simp only [encLs, P.dep]; omega
theorem vEqLs (a : List Line) (S : Sto) : gEqB false (.p (encLs a)) (.p (encLs a)) S = .ok (.p (.bl true)) S := vEqSelf (dep_encLs a) S
theorem vNeLs (a : List Line) (S : Sto) : gEqB true (.p (encLs a)) (.p (encLs a)) S = .ok (.p (.bl false)) S := vNeSelf (dep_encLs a) S
theorem vAddLs (a c : List Line) (S : Sto) (h : a.length + c.length ≤ 16777216) : gAdd (.p (encLs a)) (.p (encLs c)) S = .ok (.p (encLs (a ++ c))) S := by
  unfold encLs
  rw [vAddRo _ _ _ (by rw [List.length_map, List.length_map]; exact h), List.map_append]
theorem hl_len {b : List Kd} {z : Str} {s : Shp} {hl : List (Str × Str)} {u : Nat} (h : ShpOk b z s hl u) : hl.length ≤ 8 := by
  obtain ⟨r, e⟩ := h.free
  have := congrArg List.length e
  rw [List.length_append, List.length_map] at this
  have := free_len b
  omega
end Gs
set_option Elab.async false
set_option linter.all false
set_option maxRecDepth 100000
set_option maxHeartbeats 4000000
namespace K19
open Cw L2 Gs
open PySem hiding Run

section
variable {b : List Kd} {ks : List Str}
theorem hC (hb : BookOk b) : ∀ z, ∀ m ∈ comeOf b ks z, m.2.length ≤ 4 := fun z m hm => (come_len hb hm).1
theorem lb6 (hb : BookOk b) {d : Nat} (hd : d ≤ 9) (z : Str) (s : Shp) (sp : Spot) : LB 4000000 (LN (comeOf b ks) d z s sp) := (LN_lb (hC hb) d z s sp).mono (by have := tb9 hd; omega)
end
def EirRun (b : List Kd) (ks : List Str) (run : Run) (i : Nat) : Prop := ∀ z s hl u, Kn b z → Fm b 6 z hl u s → u ≤ 24 → hl.length ≤ 1000 → Takes Pool run i (fun q => [.p (encB b), .p (.str z), .p (encZ s), .p (encLs (LN (comeOf b ks) 6 z s [])), q]) fun x => x = .bl true
theorem body_eir (run : Run) {il ih ish : Nat} {b : List Kd} {ks : List Str} (hb : BookOk b) (hl : LnRun b ks run il) (hh : HeldRun b 6 run ih) (hsh : ShM b false 2 run ish) {z : Str} {s : Shp} {hls : List (Str × Str)} {u : Nat} (hz : Kn b z) (hf : Fm b 6 z hls u s) (hu : u ≤ 24) (hlen : hls.length ≤ 1000) {o : Ob} (ho : Pool o) :
    Nd (b_law_either_right il ih ish run [some (.p (encB b)), some (.p (.str z)), some (.p (encZ s)), some (.p (encLs (LN (comeOf b ks) 6 z s []))), some (.ref 0), none, none] [o]) fun f S' => ∃ x o', toldN 1 f S' = some x ∧ S'[0]? = some o' ∧ Pool o' ∧ x = .bl true := by
  obtain ⟨t, o1, r1, ns1, e1, ho1, h1, u1, hf1, k1, k2, k3⟩ := hsh z hz [o, rmO 6, nmO []] 0 1 2 o 6 [] (by omega) (by omega) (by omega) rfl ho rfl rfl (by omega) (by simp) (fun _ => rfl)
  have h1e : h1 = [] := List.map_eq_nil_iff.mp (List.append_eq_nil_iff.mp k3).1
  subst h1e
  have hu1 : u1 ≤ 6 := Nat.le_trans (Nat.le_mul_of_pos_right u1 k1) k2
  unfold mkSh at e1
  have e1 : callV true run ish [.p (encB b), .p (.str z), .ref 0, .p (.int 2), .ref 1, .ref 2] [o, rmO 6, nmO []] = .ok (.p (encZ t)) [o1, rmO r1, nmO ns1] := e1
  have n1 : ∀ ρ : Ev, cTr (cLst (cCons (cP (.int 6)) cNil)) ρ [o] = .ok (.ref 1) [o, rmO 6] := fun ρ => rfl
  have n2 : ∀ ρ : Ev, cTr (cLst cNil) ρ [o, rmO 6] = .ok (.ref 2) [o, rmO 6, nmO []] := fun ρ => rfl
  refine asgE (d := .p (encZ t)) (S' := [o1, rmO r1, nmO ns1]) (by
    simp only [xCallV, xCons, xNil, xVar0, xVarS, xP, bind_okE, n1, n2, e1]) ?_
  simp only [List.set_cons_zero, List.set_cons_succ]
  have hf6 : Fm b 6 z [] u1 t := hf1.mono (by simp [dmx])
  have el := hl 6 z [] u1 t [] (by omega) hf6 (by omega) (by simp) [o1, rmO r1, nmO ns1]
  have el : callV true run il [.p (encB b), .p (.str z), .p (encZ t), .p (.tup [])] [o1, rmO r1, nmO ns1] = .ok (.p (encLs (LN (comeOf b ks) 6 z t []))) [o1, rmO r1, nmO ns1] := el
  refine asgE (d := .p (encLs (LN (comeOf b ks) 6 z t []))) (S' := [o1, rmO r1, nmO ns1]) (by
    simp only [xCallV, xCons, xNil, xTup, xVar0, xVarS, bind_okE, allP, List.length_nil, Nat.zero_le, if_true, el]) ?_
  simp only [List.set_cons_zero, List.set_cons_succ]
  have L1 : (LN (comeOf b ks) 6 z s []).length ≤ 24 := Nat.le_trans (LN_len hb [] hf) hu
  have L2 : (LN (comeOf b ks) 6 z t []).length ≤ 6 := Nat.le_trans (LN_len hb [] hf6) hu1
  have eh := hh z hls u s hf hlen [o1, rmO r1, nmO ns1]
  have eh : callV true run ih [.p (encB b), .p (.str z), .p (encZ s)] [o1, rmO r1, nmO ns1] = .ok (.p (.ro (hls.map encPr))) [o1, rmO r1, nmO ns1] := eh
  have en := vNeNil (xs := hls.map encPr) (by have := dep_P hls; omega) [o1, rmO r1, nmO ns1]
  have tst : cOr (cT (c2 (gEqB true) (cCallV true run ih (cCons (cVar 0) (cCons (cVar 1) (cCons (cVar 2) cNil)))) (cRo (cLst cNil)))) (cT (c2 gGt (c2 gAdd (c1 gLen (cCons (cVar 3) cNil)) (c1 gLen (cCons (cVar 6) cNil))) (cP (.int 24)))) [some (.p (encB b)), some (.p (.str z)), some (.p (encZ s)), some (.p (encLs (LN (comeOf b ks) 6 z s []))), some (.ref 0), some (.p (encZ t)), some (.p (encLs (LN (comeOf b ks) 6 z t [])))] [o1, rmO r1, nmO ns1] =
      .ok (!(hls.map encPr).isEmpty || decide ((24 : Int) < ((LN (comeOf b ks) 6 z s []).length : Int) + ((LN (comeOf b ks) 6 z t []).length : Int))) [o1, rmO r1, nmO ns1] := by
    have lr : ∀ a : List Line, ∀ S, gLen [.p (encLs a)] S = .ok (.p (.int (a.length : Nat))) S := fun a S => by unfold encLs; rw [vLenRo, List.length_map]
    simp only [xOr, xT, x2, x1, xRo, xLst, xCallV, xCons, xNil, xVar0, xVarS, xP, bind_okE, eh, allP, List.length_nil, Nat.zero_le, if_true, en, xbT, lr, vAdd, vGt]
    cases (hls.map encPr).isEmpty <;> rfl
  cases hq : !(hls.map encPr).isEmpty || decide ((24 : Int) < ((LN (comeOf b ks) 6 z s []).length : Int) + ((LN (comeOf b ks) 6 z t []).length : Int)) with
  | true =>
    rw [hq] at tst
    exact seqT tst (seqRetE (d := .p (.bl true)) (S' := [o1, rmO r1, nmO ns1]) rfl ⟨_, o1, rfl, rfl, ho1, rfl⟩)
  | false =>
    rw [hq] at tst
    refine seqF tst (seqNil ?_)
    have hq := (Bool.or_eq_false_iff.mp hq).1
    have h0 : hls = [] := by
      have : (hls.map encPr).isEmpty = true := by simpa using hq
      simpa using List.isEmpty_iff.mp this
    subst h0
    have hfe : Fm b 7 z [] (u + (u1 + 0)) (.either [s, t]) := ⟨by simp, [u, u1], rfl, .cons hf (.cons hf6 .nil)⟩
    have e3 := hl 7 z [] _ (.either [s, t]) [] (by omega) hfe (by omega) (by simp) [o1, rmO r1, nmO ns1]
    have hLN : LN (comeOf b ks) 7 z (.either [s, t]) [] = LN (comeOf b ks) 6 z s [] ++ LN (comeOf b ks) 6 z t [] := by
      show ([s, t].flatMap fun s => LN (comeOf b ks) 6 z s []) = _
      simp
    rw [hLN] at e3
    have e3 : callV true run il [.p (encB b), .p (.str z), .p (.tup [.str "either", .tup [encZ s, encZ t]]), .p (.tup [])] [o1, rmO r1, nmO ns1] = .ok (.p (encLs (LN (comeOf b ks) 6 z s [] ++ LN (comeOf b ks) 6 z t []))) [o1, rmO r1, nmO ns1] := e3
    have ad := vAddLs (LN (comeOf b ks) 6 z s []) (LN (comeOf b ks) 6 z t []) [o1, rmO r1, nmO ns1] (by omega)
    refine retE (d := .p (.bl true)) (S' := [o1, rmO r1, nmO ns1]) ?_ ⟨_, o1, rfl, rfl, ho1, rfl⟩
    simp only [x2, xCallV, xCons, xNil, xTup, xP, xVar0, xVarS, bind_okE, allP, List.length_cons, List.length_nil, sizeLine_val, Nat.reduceAdd, Nat.reduceLeDiff, Nat.zero_le, if_true, e3, ad, vEqLs]
theorem eir_ok {T : List Fd} {k i il ih ish : Nat} {b : List Kd} {ks : List Str} (hb : BookOk b) (h : T[i]? = some (f_law_either_right il ih ish)) (hl : LnRun b ks (runT T k) il) (hh : HeldRun b 6 (runT T k) ih) (hsh : ShM b false 2 (runT T k) ish) : EirRun b ks (runT T (k + 1)) i := fun z s hls u hz hf hu hlen =>
  takes_of (mk := fun q => [.p (encB b), .p (.str z), .p (encZ s), .p (encLs (LN (comeOf b ks) 6 z s [])), q]) ⟨fun n => rfl, fun n => by simp [numOf]⟩ (fun _ h => h.live) h rfl fun o ho => body_eir (runT T k) hb hl hh hsh hz hf hu hlen ho
/-! ### put at a place -/
theorem jn_st0 (C : Come) (z n : Str) (L : List Line) : jn (st0 C z n []) L = L.map fun l => ((if 1 < (C z).length then [Tst.is [] n] else []) ++ l.1, l.2) := by
  unfold st0 jn
  split <;> simp
def MkrRun (b : List Kd) (kvs : List (Key × P)) (ks : List Str) (run : Run) (i : Nat) : Prop := ∀ z s hl u, Fm b 6 z hl u s → u ≤ 24 → Takes Pool run i (fun q => [.p (encB b), .p (.dic kvs), .p (.str z), .p (encZ s), .p (encLs (LN (comeOf b ks) 6 z s [])), q]) fun x => x = .bl true
theorem body_mkr (run : Run) {ip il ia ic jn ih : Nat} {b : List Kd} {kvs : List (Key × P)} {ks : List Str} (hb : BookOk b) (hk : KeyIs kvs ks) (hp : PlaRun run ip) (hl : LnRun b ks run il) (ha : AheRun run ia) (hc : ComeRun run ic) (hn : NextOk run jn) (hh : HomRun b run ih) {z : Str} {s : Shp} {hls : List (Str × Str)} {u : Nat} (hf : Fm b 6 z hls u s) (hu : u ≤ 24) {o : Ob} (ho : Pool o) :
    Nd (b_law_make_right ip il ia ic jn ih run [some (.p (encB b)), some (.p (.dic kvs)), some (.p (.str z)), some (.p (encZ s)), some (.p (encLs (LN (comeOf b ks) 6 z s []))), some (.ref 0), none, none, none, none, none, none] [o]) fun f S' => ∃ x o', toldN 1 f S' = some x ∧ S'[0]? = some o' ∧ Pool o' ∧ x = .bl true := by
  have eh := hh z [o]
  have eh : callV true run ih [.p (encB b), .p (.str z)] [o] = .ok (.p (.ro ((homesOf b z).map encHm))) [o] := eh
  refine asgE (d := .p (.ro ((homesOf b z).map encHm))) (S' := [o]) (by simp only [xCallV, xCons, xNil, xVar0, xVarS, bind_okE, eh]) ?_
  simp only [List.set_cons_zero, List.set_cons_succ]
  have hlen := homes_pre hb z (pre := b) (post := []) (by simp)
  have dH : P.deps ((homesOf b z).map encHm) < 64 := by
    have : P.deps ((homesOf b z).map encHm) ≤ 2 := deps_le fun x hx => by
      obtain ⟨t, _, rfl⟩ := List.mem_map.mp hx
      have : P.deps (t.2.2.1.map P.str) ≤ 0 := deps_le fun x hx => by
        obtain ⟨t, _, rfl⟩ := List.mem_map.mp hx
        simp [P.dep]
      simp only [encHm, P.dep, P.deps]; omega
    omega
  have en : gEqB false (.p (.ro ((homesOf b z).map encHm))) (.p (.ro [])) [o] = .ok (.p (.bl ((homesOf b z).map encHm).isEmpty)) [o] := by
    have h1 : (P.ro ((homesOf b z).map encHm)).dep ≤ 64 := by simp only [P.dep]; omega
    have h2 : (P.ro []).dep ≤ 64 := by simp only [P.dep, P.deps]; omega
    simp only [gEqB, nowP, h1, h2, and_self, if_true]
    cases (homesOf b z).map encHm <;> simp [P.eqv, P.data, P.datas, PyData.eqv, PyData.eqvAll]
  by_cases h0 : homesOf b z = []
  · refine seqT (S' := [o]) (by simp only [xT, x2, xRo, xLst, xNil, xVar0, xVarS, bind_okE, allP, List.length_nil, Nat.zero_le, if_true, en, xbT]; rw [h0]; rfl) (seqRetE (d := .p (.bl true)) (S' := [o]) rfl ⟨_, o, rfl, rfl, ho, rfl⟩)
  have hpos : 0 < (homesOf b z).length := List.length_pos_iff.mpr h0
  refine seqF (S' := [o]) (by
    simp only [xT, x2, xRo, xLst, xNil, xVar0, xVarS, bind_okE, allP, List.length_nil, Nat.zero_le, if_true, en, xbT]
    cases e : homesOf b z with
    | nil => exact absurd e h0
    | cons a r => rfl) (seqNil ?_)
  obtain ⟨_, _, e2, x, o2, hx, rfl, rfl, ho2⟩ := pick0 (tbl := cVar 6) (xs := (homesOf b z).map encHm) (S := []) (o := o) (ρ := [some (.p (encB b)), some (.p (.dic kvs)), some (.p (.str z)), some (.p (encZ s)), some (.p (encLs (LN (comeOf b ks) 6 z s []))), some (.ref 0), some (.p (.ro ((homesOf b z).map encHm))), none, none, none, none, none]) rfl
    (hn.d0 (ca := cVar 5) (cb := c1 gLen (cCons (cVar 6) cNil)) (base := (homesOf b z).length) rfl (by simp only [x1, xCons, xNil, xVar0, xVarS, bind_okE, vLenRo, List.length_map]) ho (by omega) (by omega) |>.mono fun d S' ⟨x, o', e1, e2, h1, h2⟩ => ⟨x, o', e1, e2, h1, by rw [List.length_map]; exact h2⟩)
  obtain ⟨h, hhm, rfl⟩ := List.mem_map.mp hx
  obtain ⟨k, hkb, hk1, hkm, hat⟩ := homes_mem hhm
  obtain ⟨hp1, hp6, hmk⟩ := hb.ok k hkb
  have h4 : h.2.2.1.length ≤ 4 := (hmk _ hkm).1
  have hlt := (split_at hat).2
  refine asgE e2 ?_
  simp only [List.set_cons_zero, List.set_cons_succ]
  have i0 : ∀ S, gIx (.p (encHm h)) (.p (.int 0)) S = .ok (.p (.str h.1)) S := fun S => vIxT S (by omega) rfl
  have i1 : ∀ S, gIx (.p (encHm h)) (.p (.int 1)) S = .ok (.p (.str h.2.1)) S := fun S => vIxT S (by omega) rfl
  have i3 : ∀ S, gIx (.p (encHm h)) (.p (.int 3)) S = .ok (.p (.int h.2.2.2)) S := fun S => vIxT S (by omega) rfl
  have ec := hc b kvs ks h.1 hb hk [o2]
  have ec : callV true run ic [.p (encB b), .p (.dic kvs), .p (.str h.1)] [o2] = .ok (.p (.ro ((comeOf b ks h.1).map encM))) [o2] := ec
  refine asgE (dictR (come_nd hb ks h.1) (by simp only [xCallV, xCons, xNil, x2, xP, xVar0, xVarS, bind_okE, i0, ec])) ?_
  simp only [List.set_cons_zero, List.set_cons_succ]
  refine asgE (d := .p (encLs [])) (S' := [o2]) rfl ?_
  simp only [List.set_cons_zero, List.set_cons_succ]
  -- what is due
  generalize hL : LN (comeOf b ks) 7 h.1 (.make h.2.1 (placeL h.2.2.2 h.2.2.1.length s)) [] = L
  have hmem : (h.2.1, h.2.2.1) ∈ mkOf b h.1 := by rw [← hk1, mkOf_at hb hkb]; exact hkm
  have hfm : Fm b 7 h.1 hls u (.make h.2.1 (placeL h.2.2.2 h.2.2.1.length s)) := ⟨h.2.2.1, hmem, FmL.place hat hf⟩
  have fin : ∀ w10 w11 : Option D, Nd (sRet (c2 (gEqB false) (cCallV true run il (cCons (cVar 0) (cCons (c2 gIx (cVar 7) (cP (.int 0))) (cCons (cCallV true run ip (cCons (cVar 7) (cCons (cVar 3) cNil))) (cCons (cTup cNil) cNil))))) (cVar 9)) [some (.p (encB b)), some (.p (.dic kvs)), some (.p (.str z)), some (.p (encZ s)), some (.p (encLs (LN (comeOf b ks) 6 z s []))), some (.ref 0), some (.p (.ro ((homesOf b z).map encHm))), some (.p (encHm h)), some (.p (.dic (comD (comeOf b ks h.1)))), some (.p (encLs L)), w10, w11] [o2]) fun f S' => ∃ x o', toldN 1 f S' = some x ∧ S'[0]? = some o' ∧ Pool o' ∧ x = .bl true := fun w10 w11 => by
    have ep := hp h s h4 hlt [o2]
    have ep : callV true run ip [.p (encHm h), .p (encZ s)] [o2] = _ := ep
    have el := hl 7 h.1 hls u _ [] (by omega) hfm (by omega) (by simp) [o2]
    rw [hL] at el
    have el : callV true run il [.p (encB b), .p (.str h.1), .p (encZ (.make h.2.1 (placeL h.2.2.2 h.2.2.1.length s))), .p (.tup [])] [o2] = .ok (.p (encLs L)) [o2] := el
    refine retE (d := .p (.bl true)) (S' := [o2]) ?_ ⟨_, o2, rfl, rfl, ho2, rfl⟩
    simp only [x2, xCallV, xCons, xNil, xTup, xP, xVar0, xVarS, bind_okE, i0, ep, allP, List.length_nil, Nat.zero_le, if_true, el, vEqLs]
  have hLN : L = match (comeOf b ks h.1).find? (fun m : Mk => decide (m.1 = h.2.1)) with | none => [] | some m => (partL (LN (comeOf b ks) 6) h.2.1 [] 0 m.2 (placeL h.2.2.2 h.2.2.1.length s)).foldl Gs.jn (st0 (comeOf b ks) h.1 h.2.1 []) := hL.symm
  cases hfd : (comeOf b ks h.1).find? (fun m : Mk => decide (m.1 = h.2.1)) with
  | none =>
    have hno : h.2.1 ∉ (comeOf b ks h.1).map (·.1) := fun q => by
      obtain ⟨m, hm, e⟩ := List.mem_map.mp q
      exact absurd (List.find?_eq_none.mp hfd m hm) (by simp [e])
    rw [hfd] at hLN
    have hLN : L = [] := hLN
    refine seqF (S' := [o2]) (by simp only [xT, x2, xVar0, xVarS, xP, bind_okE, i1, vInCom, Bool.false_eq_true, if_false, hno, decide_false, xbT]) (seqNil ?_)
    have := fin none none
    rw [hLN] at this
    exact this
  | some m =>
    have hme := come_find hb hmem hfd
    subst hme
    have hyes : h.2.1 ∈ (comeOf b ks h.1).map (·.1) := List.mem_map.mpr ⟨_, List.mem_of_find?_eq_some hfd, rfl⟩
    rw [hfd] at hLN
    have hLN : L = (partL (LN (comeOf b ks) 6) h.2.1 [] 0 h.2.2.1 (placeL h.2.2.2 h.2.2.1.length s)).foldl Gs.jn (st0 (comeOf b ks) h.1 h.2.1 []) := hLN
    rw [fold_place hat s, List.nil_append, jn_st0] at hLN
    generalize hTT : (if 1 < (comeOf b ks h.1).length then [Tst.is [] h.2.1] else []) = TT at hLN
    refine seqT (S' := [o2]) (by simp only [xT, x2, xVar0, xVarS, xP, bind_okE, i1, vInCom, Bool.false_eq_true, if_false, hyes, decide_true, xbT]) (seqSeq ?_)
    have hlenC : (comD (comeOf b ks h.1)).length = (comeOf b ks h.1).length := by unfold comD; rw [List.length_map]
    refine asgE (d := .p (.tup (TT.map encTst))) (S' := [o2]) (by
      have mt : ∀ c : Bool, gMulT (.p (.tup [encTst (.is [] h.2.1)])) (.p (.int (if c then 1 else 0))) [o2] = .ok (.p (.tup (if c then [encTst (.is [] h.2.1)] else []))) [o2] := fun c => by
        cases c
        · exact vMulT (k := 0) [o2] (by simp) (by omega) (by omega) (by simp)
        · exact vMulT (k := 1) [o2] (by simp) (by omega) (by omega) (by simp)
      have mt : ∀ c : Bool, gMulT (.p (.tup [.tup [.str ("is" : Str), .tup [], .str h.2.1]])) (.p (.int (if c then 1 else 0))) [o2] = .ok (.p (.tup (if c then [encTst (.is [] h.2.1)] else []))) [o2] := mt
      simp only [x2, x1, xTup, xCons, xNil, xP, xVar0, xVarS, bind_okE, i1, allP, List.length_cons, List.length_nil, sizeLine_val, Nat.reduceAdd, Nat.reduceLeDiff, Nat.zero_le, if_true, vLenDic, hlenC, vGt, vIntB, mt]
      rw [← hTT]
      by_cases q : 1 < (comeOf b ks h.1).length
      · have q2 : (1 : Int) < ((comeOf b ks h.1).length : Nat) := by omega
        rw [decide_eq_true q2, if_pos q]; rfl
      · have q2 : ¬ (1 : Int) < ((comeOf b ks h.1).length : Nat) := by omega
        rw [decide_eq_false q2, if_neg q]; rfl) ?_
    simp only [List.set_cons_zero, List.set_cons_succ]
    have L1 : (LN (comeOf b ks) 6 z s []).length ≤ 24 := Nat.le_trans (LN_len hb [] hf) hu
    have ea := ha [(h.2.1, h.2.2.2)] (LN (comeOf b ks) 6 z s []) (by simp) (by omega) (lb6 hb (by omega) _ _ _) ((LN_sb 6 z s []).mono (by simp)) [o2]
    rw [← LN_at] at ea
    generalize hA : LN (comeOf b ks) 6 z s [(h.2.1, h.2.2.2)] = A at ea hLN
    have hAl : A.length ≤ 24 := by rw [← hA]; exact Nat.le_trans (LN_len hb _ hf) hu
    have hAb : LB 4000000 A := by rw [← hA]; exact lb6 hb (by omega) _ _ _
    have ea : callV true run ia [.p (.tup [.tup [.str h.2.1, .int h.2.2.2]]), .p (encLs (LN (comeOf b ks) 6 z s []))] [o2] = .ok (.p (encLs A)) [o2] := ea
    have hTl : TT.length ≤ 1 := by rw [← hTT]; split <;> simp
    have em : (A.map fun l => encL (TT ++ l.1, l.2)) = L.map encL := by rw [hLN, List.map_map]; rfl
    have e9 : cRo (cComp (cIt (cCallV true run ia (cCons (cTup (cCons (cTup (cCons (c2 gIx (cVar 7) (cP (.int 1))) (cCons (c2 gIx (cVar 7) (cP (.int 3))) cNil))) cNil)) (cCons (cVar 4) cNil)))) (gN 11) cYes (cTup (cCons (c2 gAdd (cVar 10) (c2 gIx (cVar 11) (cP (.int 0)))) (cCons (c2 gIx (cVar 11) (cP (.int 1))) cNil))) [11])
        [some (.p (encB b)), some (.p (.dic kvs)), some (.p (.str z)), some (.p (encZ s)), some (.p (encLs (LN (comeOf b ks) 6 z s []))), some (.ref 0), some (.p (.ro ((homesOf b z).map encHm))), some (.p (encHm h)), some (.p (.dic (comD (comeOf b ks h.1)))), some (.p (encLs [])), some (.p (.tup (TT.map encTst))), none] [o2] = .ok (.p (encLs L)) [o2] := by
      rw [xRo, cmpM (enc := encL) (l := A) (fun l => encL (TT ++ l.1, l.2)) (by
        simp only [xIt, xCallV, xCons, xNil, xTup, x2, xP, xVar0, xVarS, bind_okE, i1, i3, allP, List.length_cons, List.length_nil, sizeLine_val, Nat.reduceAdd, Nat.reduceLeDiff, if_true, ea]; rfl) (by omega) fun l hlA => ⟨_, rfl, by
          have bl := hAb l hlA
          have j0 : ∀ S, gIx (.p (encL l)) (.p (.int 0)) S = .ok (.p (.tup (l.1.map encTst))) S := fun S => vIx0 _ _ S
          have j1 : ∀ S, gIx (.p (encL l)) (.p (.int 1)) S = .ok (.p (.tup (l.2.map encQ))) S := fun S => vIxT S (by omega) rfl
          have ad := vAddT (TT.map encTst) (l.1.map encTst) [o2] (by rw [List.length_map, List.length_map]; omega)
          rw [← List.map_append] at ad
          simp only [wipeE, List.set_cons_zero, List.set_cons_succ, xTup, xCons, xNil, x2, xP, xVar0, xVarS, bind_okE, j0, j1, ad, allP, List.length_cons, List.length_nil, sizeLine_val, Nat.reduceAdd, Nat.reduceLeDiff, if_true]
          rfl⟩, bind_okE, em]
      rfl
    refine asgE e9 ?_
    simp only [List.set_cons_zero, List.set_cons_succ]
    exact fin _ _
theorem mkr_ok {T : List Fd} {k i ip il ia ic jn ih : Nat} {b : List Kd} {kvs : List (Key × P)} {ks : List Str} (hb : BookOk b) (hk : KeyIs kvs ks) (h : T[i]? = some (f_law_make_right ip il ia ic jn ih)) (hp : PlaRun (runT T k) ip) (hl : LnRun b ks (runT T k) il) (ha : AheRun (runT T k) ia) (hc : ComeRun (runT T k) ic) (hn : NextOk (runT T k) jn) (hh : HomRun b (runT T k) ih) : MkrRun b kvs ks (runT T (k + 1)) i := fun z s hls u hf hu =>
  takes_of (mk := fun q => [.p (encB b), .p (.dic kvs), .p (.str z), .p (encZ s), .p (encLs (LN (comeOf b ks) 6 z s [])), q]) ⟨fun n => rfl, fun n => by simp [numOf]⟩ (fun _ h => h.live) h rfl fun o ho => body_mkr (runT T k) hb hk hp hl ha hc hn hh hf hu ho
end K19
set_option Elab.async false
set_option linter.all false
set_option maxRecDepth 100000
set_option maxHeartbeats 4000000
/-! what the bodies do -/
namespace K19
open Cw L2
/-- first_made(makes, known): makes=0 known=1 make=2 fields=3 field=4 -/
def b_first_made (run : Run) : CS :=
  (sSeq (sFor (cIt (cVar 0)) (gTp 2 (gsCons (gN 2) (gsCons (gN 3) gsNil)))
    (sIf (cTru (c1 gAll (cCons (cRo (cComp (cIt (cVar 3)) (gN 4) cYes (c2 (gInB false) (cVar 4) (cVar 1)) [4])) cNil)))
    (sRet (c2 gAdd (cTup (cCons (cVar 2) cNil)) (c1 gTuple (cCons (cRo (cComp (cIt (cVar 3)) (gN 4) cYes (c2 gIx (cVar 1) (cVar 4)) [4])) cNil))))
    sNil))
  (sRet (cP .non)))
/-- next_round(book, known): book=0 known=1 fresh=2 kind=3 makes=4 value=5 -/
def b_next_round (run : Run) : CS :=
  (sSeq (sAsg (cDt cDNew) (gN 2))
  (sSeq (sFor (cIt (cVar 0)) (gTp 2 (gsCons (gN 3) (gsCons (gN 4) gsNil)))
    (sSeq (sAsg (cCallV true run 0 (cCons (cVar 4) (cCons (cVar 1) cNil))) (gN 5))
  (sIf (cAnd (cT (c2 (gInB true) (cVar 3) (cVar 1))) (cT (c2 (gIs true) (cVar 5) (cP .non))))
    (sAsg (cVar 5) (gAt (cVar 2) (cVar 3)))
    sNil)))
  (sRet (cVar 2))))
/-- plain_values(book): book=0 known=1 fresh=2 -/
def b_plain_values (run : Run) : CS :=
  (sSeq (sAsg (cDt (cDisp [((cP (.str "num")), (cP (.int 0)))])) (gN 1))
  (sSeq (sAsg (cCallV true run 1 (cCons (cVar 0) (cCons (cVar 1) cNil))) (gN 2))
  (sSeq (sWhile (cT (c2 gGt (c1 gLen (cCons (cVar 2) cNil)) (cP (.int 0))))
    (sSeq (sDrop (cM "dict" gUpdate (cVar 1) (cCons (cVar 2) cNil)))
  (sAsg (cCallV true run 1 (cCons (cVar 0) (cCons (cVar 1) cNil))) (gN 2))))
  (sRet (cVar 1)))))
/-- all_makes(book, kind): book=0 kind=1 name=2 makes=3 -/
def b_all_makes (run : Run) : CS :=
  (sSeq (sFor (cIt (cVar 0)) (gTp 2 (gsCons (gN 2) (gsCons (gN 3) gsNil)))
    (sIf (cT (c2 (gEqB false) (cVar 2) (cVar 1)))
    (sRet (cVar 3))
    sNil))
  (sRet (cTup cNil)))
/-- stretch_tests(spot, low, high): spot=0 low=1 high=2 tests=3 -/
def b_stretch_tests (run : Run) : CS :=
  (sSeq (sAsg (cTr (cLst cNil)) (gN 3))
  (sSeq (sIf (cT (c2 (gIs true) (cVar 1) (cP .non)))
    (sDrop (cM "list" gAppend (cVar 3) (cCons (cTup (cCons (cP (.str "most")) (cCons (cP .non) (cCons (cVar 0) (cCons (cNeg (cVar 1)) cNil))))) cNil)))
    sNil)
  (sSeq (sIf (cT (c2 (gIs true) (cVar 2) (cP .non)))
    (sDrop (cM "list" gAppend (cVar 3) (cCons (cTup (cCons (cP (.str "most")) (cCons (cVar 0) (cCons (cP .non) (cCons (cVar 2) cNil))))) cNil)))
    sNil)
  (sRet (c1 gTuple (cCons (cVar 3) cNil))))))
/-- joined(lines, more): lines=0 more=1 found=2 tests=3 held=4 others=5 behind=6 -/
def b_joined (run : Run) : CS :=
  (sSeq (sAsg (cTr (cLst cNil)) (gN 2))
  (sSeq (sFor (cIt (cVar 0)) (gTp 2 (gsCons (gN 3) (gsCons (gN 4) gsNil)))
    (sFor (cIt (cVar 1)) (gTp 2 (gsCons (gN 5) (gsCons (gN 6) gsNil)))
    (sDrop (cM "list" gAppend (cVar 2) (cCons (cTup (cCons (c2 gAdd (cVar 3) (cVar 5)) (cCons (c2 gAdd (cVar 4) (cVar 6)) cNil))) cNil)))))
  (sRet (cVar 2))))
/-- coming_fields(book, known, kind): book=0 known=1 kind=2 found=3 make=4 fields=5 field=6 -/
def b_coming_fields (run : Run) : CS :=
  (sSeq (sAsg (cDt cDNew) (gN 3))
  (sSeq (sFor (cIt (cCallV true run 3 (cCons (cVar 0) (cCons (cVar 2) cNil)))) (gTp 2 (gsCons (gN 4) (gsCons (gN 5) gsNil)))
    (sIf (cTru (c1 gAll (cCons (cRo (cComp (cIt (cVar 5)) (gN 6) cYes (c2 (gInB false) (cVar 6) (cVar 1)) [6])) cNil)))
    (sAsg (cVar 5) (gAt (cVar 3) (cVar 4)))
    sNil))
  (sRet (cVar 3))))
/-- make_lines(book, known, kind, shape, spot): book=0 known=1 kind=2 shape=3 spot=4 name=5 coming=6 parts=7 place=8 field=9 lines=10 part=11 -/
def b_make_lines (run : Run) : CS :=
  (sSeq (sAsg (c2 gIx (cVar 3) (cP (.int 1))) (gN 5))
  (sSeq (sAsg (cCallV true run 6 (cCons (cVar 0) (cCons (cVar 1) (cCons (cVar 2) cNil)))) (gN 6))
  (sSeq (sIf (cT (c2 (gInB true) (cVar 5) (cVar 6)))
    (sRet (cRo (cLst cNil)))
    sNil)
  (sSeq (sAsg (cTr (cLst cNil)) (gN 7))
  (sSeq (sFor (cEnum (c2 gIx (cVar 6) (cVar 5))) (gTp 2 (gsCons (gN 8) (gsCons (gN 9) gsNil)))
    (sDrop (cM "list" gAppend (cVar 7) (cCons (cCallV true run 8 (cCons (cVar 0) (cCons (cVar 1) (cCons (cVar 9) (cCons (c2 gIx (c2 gIx (cVar 3) (cP (.int 2))) (cVar 8)) (cCons (c2 gAdd (cVar 4) (cTup (cCons (cTup (cCons (cVar 5) (cCons (cVar 8) cNil))) cNil))) cNil)))))) cNil))))
  (sSeq (sIf (cT (c2 (gInB false) (cRo (cLst cNil)) (cVar 7)))
    (sRet (cRo (cLst cNil)))
    sNil)
  (sSeq (sAsg (cRo (cLst (cCons (cTup (cCons (cTup cNil) (cCons (cTup cNil) cNil))) cNil))) (gN 10))
  (sSeq (sIf (cT (c2 gGt (c1 gLen (cCons (cVar 6) cNil)) (cP (.int 1))))
    (sAsg (cRo (cLst (cCons (cTup (cCons (cTup (cCons (cTup (cCons (cP (.str "is")) (cCons (cVar 4) (cCons (cVar 5) cNil)))) cNil)) (cCons (cTup cNil) cNil))) cNil))) (gN 10))
    sNil)
  (sSeq (sFor (cIt (cVar 7)) (gN 11)
    (sAsg (cCallV true run 5 (cCons (cVar 10) (cCons (cVar 11) cNil))) (gN 10)))
  (sRet (cVar 10)))))))))))
/-- lined(book, known, kind, shape, spot): book=0 known=1 kind=2 shape=3 spot=4 found=5 side=6 -/
def b_lined (run : Run) : CS :=
  (sSeq (sIf (cT (c2 (gEqB false) (c2 gIx (cVar 3) (cP (.int 0))) (cP (.str "any"))))
    (sRet (cRo (cLst (cCons (cTup (cCons (cTup cNil) (cCons (cTup cNil) cNil))) cNil))))
    sNil)
  (sSeq (sIf (cT (c2 (gEqB false) (c2 gIx (cVar 3) (cP (.int 0))) (cP (.str "num"))))
    (sRet (cRo (cLst (cCons (cTup (cCons (cCallV true run 4 (cCons (cVar 4) (cCons (c2 gIx (cVar 3) (cP (.int 1))) (cCons (c2 gIx (cVar 3) (cP (.int 2))) cNil)))) (cCons (cTup cNil) cNil))) cNil))))
    sNil)
  (sSeq (sIf (cT (c2 (gEqB false) (c2 gIx (cVar 3) (cP (.int 0))) (cP (.str "make"))))
    (sRet (cCallV true run 7 (cCons (cVar 0) (cCons (cVar 1) (cCons (cVar 2) (cCons (cVar 3) (cCons (cVar 4) cNil)))))))
    sNil)
  (sSeq (sIf (cT (c2 (gEqB false) (c2 gIx (cVar 3) (cP (.int 0))) (cP (.str "held"))))
    (sRet (cCallV true run 5 (cCons (cRo (cLst (cCons (cTup (cCons (cTup cNil) (cCons (cTup (cCons (cTup (cCons (c2 gIx (cVar 3) (cP (.int 1))) (cCons (cVar 4) cNil))) cNil)) cNil))) cNil))) (cCons (cCallV true run 8 (cCons (cVar 0) (cCons (cVar 1) (cCons (cVar 2) (cCons (c2 gIx (cVar 3) (cP (.int 2))) (cCons (cVar 4) cNil)))))) cNil))))
    sNil)
  (sSeq (sAsg (cTr (cLst cNil)) (gN 5))
  (sSeq (sFor (cIt (c2 gIx (cVar 3) (cP (.int 1)))) (gN 6)
    (sDrop (cM "list" gExtend (cVar 5) (cCons (cCallV true run 8 (cCons (cVar 0) (cCons (cVar 1) (cCons (cVar 2) (cCons (cVar 6) (cCons (cVar 4) cNil)))))) cNil))))
  (sRet (cVar 5))))))))
/-- lines_of(book, kind, shape, spot): book=0 kind=1 shape=2 spot=3 -/
def b_lines_of (run : Run) : CS :=
  (sRet (cCallV true run 8 (cCons (cVar 0) (cCons (cCallV true run 2 (cCons (cVar 0) cNil)) (cCons (cVar 1) (cCons (cVar 2) (cCons (cVar 3) cNil)))))))
/-- _law_cell(script, k): script=0 k=1 -/
def b_law_cell (run : Run) : CS :=
  (sSeq (sIf (cT (c2 gLt (cVar 1) (c1 gLen (cCons (cVar 0) cNil))))
    (sRet (c2 gIx (cVar 0) (cVar 1)))
    sNil)
  (sRet (cP (.int 0))))
/-- _law_next(pool, base): pool=0 base=1 digit=2 near=3 stir=4 -/
def b_law_next (run : Run) : CS :=
  (sSeq (sIf (cT (c2 gGt (c2 gIx (cVar 0) (cP (.int 0))) (cP (.int 0))))
    (sSeq (sAsg (c2 gMod (c2 gIx (cVar 0) (cP (.int 0))) (cVar 1)) (gN 2))
  (sSeq (sAsg (c2 gDiv (c2 gIx (cVar 0) (cP (.int 0))) (cVar 1)) (gAt (cVar 0) (cP (.int 0))))
  (sRet (cVar 2))))
    sNil)
  (sSeq (sAsg (c2 gAdd (c2 gIx (cVar 0) (cP (.int 2))) (cP (.int 1))) (gAt (cVar 0) (cP (.int 2))))
  (sSeq (sAsg (c2 gMod (c2 gAdd (c2 gIx (cVar 0) (cP (.int 1))) (c2 gMul (cP (.int 7919)) (c2 gIx (cVar 0) (cP (.int 2))))) (cP (.int 1000000007))) (gN 3))
  (sSeq (sAsg (c2 gMod (c2 gMul (c2 gAdd (cVar 3) (cP (.int 11))) (c2 gAdd (cVar 3) (cP (.int 48271)))) (cP (.int 998244353))) (gN 4))
  (sRet (c2 gMod (c2 gDiv (c2 gMod (c2 gMul (cVar 4) (cVar 4)) (cP (.int 2147483647))) (cP (.int 8))) (cVar 1)))))))
/-- _law_names(pool, many): pool=0 many=1 letters=2 base=3 at=4 first=5 tails=6 found=7 k=8 name=9 -/
def b_law_names (run : Run) : CS :=
  (sSeq (sAsg (cP (.str "abcdefghijklmnopqrstuvwxyz")) (gN 2))
  (sSeq (sAsg (cM "str" gJoin (cP (.str "")) (cCons (cRo (cComp (cRng1 (cCallV true run 11 (cCons (cVar 0) (cCons (cP (.int 7)) cNil)))) (gN 8) cYes (c2 gIx (cVar 2) (cCallV true run 11 (cCons (cVar 0) (cCons (cP (.int 26)) cNil)))) [8])) cNil)) (gN 3))
  (sSeq (sAsg (cCallV true run 11 (cCons (cVar 0) (cCons (c2 gAdd (c1 gLen (cCons (cVar 3) cNil)) (cP (.int 1))) cNil))) (gN 4))
  (sSeq (sAsg (cCallV true run 11 (cCons (cVar 0) (cCons (cP (.int 26)) cNil))) (gN 5))
  (sSeq (sAsg (cCallV true run 11 (cCons (cVar 0) (cCons (cP (.int 3)) cNil))) (gN 6))
  (sSeq (sAsg (cTr (cLst cNil)) (gN 7))
  (sSeq (sFor (cRng1 (cVar 1)) (gN 8)
    (sSeq (sAsg (c2 gAdd (c2 gAdd (cSl (cVar 3) cONone (cOSome (cVar 4))) (c2 gIx (cVar 2) (c2 gMod (c2 gAdd (cVar 5) (c2 gMul (cP (.int 5)) (cVar 8))) (cP (.int 26))))) (cSl (cVar 3) (cOSome (cVar 4)) cONone)) (gN 9))
  (sSeq (sIf (cAnd (cT (c2 (gEqB false) (cVar 6) (cP (.int 1)))) (cT (c2 (gEqB false) (c2 gMod (cVar 8) (cP (.int 2))) (cP (.int 1)))))
    (sAsg (c2 gAdd (cVar 9) (c2 gIx (cVar 2) (c2 gMod (c2 gAdd (cVar 5) (cVar 8)) (cP (.int 26))))) (gN 9))
    sNil)
  (sDrop (cM "list" gAppend (cVar 7) (cCons (cVar 9) cNil))))))
  (sRet (cVar 7)))))))))
/-- _law_book(pool): pool=0 many=1 kinds=2 makes=3 book=4 at=5 kind=6 count=7 some=8 k=9 wide=10 fields=11 name=12 place=13 -/
def b_law_book (run : Run) : CS :=
  (sSeq (sAsg (c2 gIx (cRo (cLst (cCons (cP (.int 1)) (cCons (cP (.int 2)) (cCons (cP (.int 2)) (cCons (cP (.int 3)) (cCons (cP (.int 3)) (cCons (cP (.int 4)) (cCons (cP (.int 4)) (cCons (cP (.int 6)) cNil)))))))))) (cCallV true run 11 (cCons (cVar 0) (cCons (cP (.int 8)) cNil)))) (gN 1))
  (sSeq (sAsg (cRo (cComp (cIt (cCallV true run 12 (cCons (cVar 0) (cCons (cVar 1) cNil)))) (gN 12) cYes (c2 gIx (cRo (cLst (cCons (cVar 12) (cCons (cP (.str "numb")) cNil)))) (c1 gIntOf (cCons (c2 (gEqB false) (cVar 12) (cP (.str "num"))) cNil))) [12])) (gN 2))
  (sSeq (sAsg (cCallV false run 12 (cCons (cVar 0) (cCons (cP (.int 26)) cNil))) (gN 3))
  (sSeq (sAsg (cTr (cLst cNil)) (gN 4))
  (sSeq (sFor (cEnum (cVar 2)) (gTp 2 (gsCons (gN 5) (gsCons (gN 6) gsNil)))
    (sSeq (sAsg (c1 gMin (cCons (c2 gIx (cRo (cLst (cCons (cP (.int 1)) (cCons (cP (.int 2)) (cCons (cP (.int 2)) (cCons (cP (.int 3)) (cCons (cP (.int 3)) (cCons (cP (.int 2)) (cCons (cP (.int 4)) (cCons (cP (.int 6)) cNil)))))))))) (cCallV true run 11 (cCons (cVar 0) (cCons (cP (.int 8)) cNil)))) (cCons (c2 gSub (c1 gLen (cCons (cVar 3) cNil)) (c2 gSub (c2 gSub (cVar 1) (cP (.int 1))) (cVar 5))) cNil))) (gN 7))
  (sSeq (sAsg (cTr (cLst cNil)) (gN 8))
  (sSeq (sFor (cRng1 (cVar 7)) (gN 9)
    (sSeq (sAsg (c1 gMin (cCons (c2 gIx (cRo (cLst (cCons (cP (.int 4)) (cCons (cP (.int 2)) cNil)))) (c1 gIntOf (cCons (c2 gGt (cVar 1) (cP (.int 3))) cNil))) (cCons (c2 gIx (cRo (cLst (cCons (cP (.int 0)) (cCons (cP (.int 0)) (cCons (cP (.int 1)) (cCons (cP (.int 1)) (cCons (cP (.int 2)) (cCons (cP (.int 2)) (cCons (cP (.int 3)) (cCons (cP (.int 4)) cNil)))))))))) (cCallV true run 11 (cCons (cVar 0) (cCons (cP (.int 8)) cNil)))) cNil))) (gN 10))
  (sSeq (sAsg (cRo (cComp (cRng1 (cVar 10)) (gN 13) cYes (c2 gIx (c2 gAdd (cVar 2) (cRo (cLst (cCons (cP (.str "num")) (cCons (cP (.str "num")) cNil))))) (cCallV true run 11 (cCons (cVar 0) (cCons (c2 gAdd (cVar 1) (cP (.int 2))) cNil)))) [13])) (gN 11))
  (sDrop (cM "list" gAppend (cVar 8) (cCons (cTup (cCons (cM "list" gPopAt (cVar 3) (cCons (cP (.int 0)) cNil)) (cCons (c1 gTuple (cCons (cVar 11) cNil)) cNil))) cNil))))))
  (sDrop (cM "list" gAppend (cVar 4) (cCons (cTup (cCons (cVar 6) (cCons (c1 gTuple (cCons (cVar 8) cNil)) cNil))) cNil)))))))
  (sRet (c1 gTuple (cCons (cVar 4) cNil))))))))
/-- _law_plain(book): book=0 plain=1 turn=2 fresh=3 kind=4 makes=5 make=6 fields=7 field=8 -/
def b_law_plain (run : Run) : CS :=
  (sSeq (sAsg (cDt (cDisp [((cP (.str "num")), (cP (.int 0)))])) (gN 1))
  (sSeq (sFor (cRng1 (c1 gLen (cCons (cVar 0) cNil))) (gN 2)
    (sSeq (sAsg (cDt cDNew) (gN 3))
  (sSeq (sFor (cIt (cVar 0)) (gTp 2 (gsCons (gN 4) (gsCons (gN 5) gsNil)))
    (sFor (cIt (cVar 5)) (gTp 2 (gsCons (gN 6) (gsCons (gN 7) gsNil)))
    (sIf (cAnd (cT (c2 (gInB true) (cVar 4) (cVar 1))) (cAnd (cT (c2 (gInB true) (cVar 4) (cVar 3))) (cTru (c1 gAll (cCons (cRo (cComp (cIt (cVar 7)) (gN 8) cYes (c2 (gInB false) (cVar 8) (cVar 1)) [8])) cNil)))))
    (sAsg (c2 gAdd (cTup (cCons (cVar 6) cNil)) (c1 gTuple (cCons (cRo (cComp (cIt (cVar 7)) (gN 8) cYes (c2 gIx (cVar 1) (cVar 8)) [8])) cNil))) (gAt (cVar 3) (cVar 4)))
    sNil)))
  (sDrop (cM "dict" gUpdate (cVar 1) (cCons (cVar 3) cNil))))))
  (sRet (cVar 1))))
/-- _law_coming(book, plain, kind): book=0 plain=1 kind=2 make=3 field=4 -/
def b_law_coming (run : Run) : CS :=
  (sRet (cRo (cComp (cIt (cGet2 (cDo (cDPairs (cVar 0))) (cVar 2) (cTup cNil))) (gN 3) (cTru (c1 gAll (cCons (cRo (cComp (cIt (c2 gIx (cVar 3) (cP (.int 1)))) (gN 4) cYes (c2 (gInB false) (cVar 4) (cVar 1)) [4])) cNil))) (cVar 3) [3])))
/-- _law_make_names(book): book=0 found=1 kind=2 makes=3 make=4 -/
def b_law_make_names (run : Run) : CS :=
  (sSeq (sAsg (cTr (cLst cNil)) (gN 1))
  (sSeq (sFor (cIt (cVar 0)) (gTp 2 (gsCons (gN 2) (gsCons (gN 3) gsNil)))
    (sDrop (cM "list" gExtend (cVar 1) (cCons (cRo (cComp (cIt (cVar 3)) (gN 4) cYes (c2 gIx (cVar 4) (cP (.int 0))) [4])) cNil))))
  (sRet (cVar 1))))
/-- _law_free(book): book=0 taken=1 name=2 -/
def b_law_free (run : Run) : CS :=
  (sSeq (sAsg (cCallV true run 16 (cCons (cVar 0) cNil)) (gN 1))
  (sRet (cTr (cComp (cIt (cRo (cLst (cCons (cP (.str "x")) (cCons (cP (.str "xa")) (cCons (cP (.str "ax")) (cCons (cP (.str "left")) (cCons (cP (.str "lefa")) (cCons (cP (.str "qqqqqqqq")) (cCons (cP (.str "num")) (cCons (cP (.str "if")) cNil))))))))))) (gN 2) (cT (c2 (gInB true) (cVar 2) (cVar 1))) (cVar 2) [2]))))
/-- _law_number(pool): pool=0 way=1 -/
def b_law_number (run : Run) : CS :=
  (sSeq (sAsg (cCallV true run 11 (cCons (cVar 0) (cCons (cP (.int 6)) cNil))) (gN 1))
  (sSeq (sIf (cT (c2 gLt (cVar 1) (cP (.int 4))))
    (sRet (c2 gSub (cCallV true run 11 (cCons (cVar 0) (cCons (cP (.int 9)) cNil))) (cP (.int 4))))
    sNil)
  (sSeq (sIf (cT (c2 (gEqB false) (cVar 1) (cP (.int 4))))
    (sRet (c2 gSub (cCallV true run 11 (cCons (cVar 0) (cCons (cP (.int 2001)) cNil))) (cP (.int 1000))))
    sNil)
  (sRet (c2 gSub (cCallV true run 11 (cCons (cVar 0) (cCons (c2 gPow (cP (.int 10)) (cP (.int 30))) cNil))) (cCallV true run 11 (cCons (cVar 0) (cCons (c2 gPow (cP (.int 10)) (cP (.int 30))) cNil))))))))
/-- _law_stretch(pool): pool=0 low=1 high=2 way=3 -/
def b_law_stretch (run : Run) : CS :=
  (sSeq (sAsg (cCallV true run 18 (cCons (cVar 0) cNil)) (gN 1))
  (sSeq (sAsg (c2 gAdd (cVar 1) (c2 gIx (cRo (cLst (cCons (cP (.int 0)) (cCons (cP (.int 0)) (cCons (cP (.int 1)) (cCons (cP (.int 3)) (cCons (cP (.int 40)) (cCons (c2 gPow (cP (.int 10)) (cP (.int 29))) cNil)))))))) (cCallV true run 11 (cCons (cVar 0) (cCons (cP (.int 6)) cNil))))) (gN 2))
  (sSeq (sAsg (cCallV true run 11 (cCons (cVar 0) (cCons (cP (.int 6)) cNil))) (gN 3))
  (sRet (cTup (cCons (cP (.str "num")) (cCons (c2 gIx (cRo (cLst (cCons (cVar 1) (cCons (cP .non) cNil)))) (c1 gIntOf (cCons (c2 gLt (cVar 3) (cP (.int 2))) cNil))) (cCons (c2 gIx (cRo (cLst (cCons (cVar 2) (cCons (cP .non) cNil)))) (c1 gIntOf (cCons (c2 (gEqB false) (c2 gMod (cVar 3) (cP (.int 3))) (cP (.int 1))) cNil))) cNil))))))))
/-- _law_shape(book, kind, pool, deep, room, names): book=0 kind=1 pool=2 deep=3 room=4 names=5 way=6 name=7 makes=8 make=9 fields=10 field=11 -/
def b_law_shape (run : Run) : CS :=
  (sSeq (sAsg (cCallV true run 11 (cCons (cVar 2) (cCons (cP (.int 11)) cNil))) (gN 6))
  (sSeq (sIf (cOr (cT (c2 (gEqB false) (cVar 6) (cP (.int 0)))) (cT (c2 gLt (cVar 3) (cP (.int 1)))))
    (sRet (cTup (cCons (cP (.str "any")) cNil)))
    sNil)
  (sSeq (sIf (cAnd (cT (c2 gLt (cVar 6) (cP (.int 3)))) (cT (c2 gGt (c1 gLen (cCons (cVar 5) cNil)) (cP (.int 0)))))
    (sSeq (sAsg (cM "list" gPopAt (cVar 5) (cCons (cP (.int 0)) cNil)) (gN 7))
  (sRet (cTup (cCons (cP (.str "held")) (cCons (cVar 7) (cCons (cCallV true run 20 (cCons (cVar 0) (cCons (cVar 1) (cCons (cVar 2) (cCons (c2 gSub (cVar 3) (cP (.int 1))) (cCons (cVar 4) (cCons (cVar 5) cNil))))))) cNil))))))
    sNil)
  (sSeq (sIf (cAnd (cT (c2 (gEqB false) (cVar 6) (cP (.int 3)))) (cT (c2 gGt (c2 gIx (cVar 4) (cP (.int 0))) (cP (.int 1)))))
    (sRet (cCallV true run 21 (cCons (cVar 0) (cCons (cVar 1) (cCons (cVar 2) (cCons (cVar 3) (cCons (cVar 4) (cCons (cVar 5) cNil))))))))
    sNil)
  (sSeq (sIf (cT (c2 (gEqB false) (cVar 1) (cP (.str "num"))))
    (sRet (cCallV true run 19 (cCons (cVar 2) cNil)))
    sNil)
  (sSeq (sAsg (c2 gIx (cDo (cDPairs (cVar 0))) (cVar 1)) (gN 8))
  (sSeq (sIf (cAnd (cT (c2 gGt (cVar 6) (cP (.int 8)))) (cAnd (cT (c2 gGt (c2 gIx (cVar 4) (cP (.int 0))) (cP (.int 1)))) (cAnd (cT (c2 gGt (c1 gLen (cCons (cVar 5) cNil)) (cP (.int 0)))) (cTru (c1 gAny (cCons (cRo (cComp (cIt (cVar 8)) (gN 9) cYes (c2 gGt (c1 gLen (cCons (c2 gIx (cVar 9) (cP (.int 1))) cNil)) (cP (.int 0))) [9])) cNil))))))
    (sRet (cCallV true run 28 (cCons (cVar 8) (cCons (cVar 0) (cCons (cVar 2) (cCons (cVar 4) (cCons (cVar 5) cNil)))))))
    sNil)
  (sSeq (sAsg (c2 gIx (cVar 8) (cCallV true run 11 (cCons (cVar 2) (cCons (c1 gLen (cCons (cVar 8) cNil)) cNil)))) (gTp 2 (gsCons (gN 9) (gsCons (gN 10) gsNil))))
  (sRet (cTup (cCons (cP (.str "make")) (cCons (cVar 9) (cCons (c1 gTuple (cCons (cRo (cComp (cIt (cVar 10)) (gN 11) cYes (cCallV true run 20 (cCons (cVar 0) (cCons (cVar 11) (cCons (cVar 2) (cCons (c2 gSub (cVar 3) (cP (.int 1))) (cCons (cVar 4) (cCons (cVar 5) cNil))))))) [11])) cNil)) cNil)))))))))))))
/-- _law_either(book, kind, pool, deep, room, names): book=0 kind=1 pool=2 deep=3 room=4 names=5 many=6 held=7 sides=8 name=9 k=10 side=11 -/
def b_law_either (run : Run) : CS :=
  (sSeq (sAsg (c2 gAdd (cP (.int 1)) (cCallV true run 11 (cCons (cVar 2) (cCons (c1 gMin (cCons (cP (.int 4)) (cCons (c2 gIx (cVar 4) (cP (.int 0))) cNil))) cNil)))) (gN 6))
  (sSeq (sAsg (c2 gDiv (c2 gIx (cVar 4) (cP (.int 0))) (cVar 6)) (gAt (cVar 4) (cP (.int 0))))
  (sSeq (sAsg (cTr (cLst cNil)) (gN 7))
  (sSeq (sIf (cAnd (cT (c2 gGt (c1 gLen (cCons (cVar 5) cNil)) (cP (.int 0)))) (cT (c2 (gEqB false) (cCallV true run 11 (cCons (cVar 2) (cCons (cP (.int 3)) cNil))) (cP (.int 0)))))
    (sDrop (cM "list" gAppend (cVar 7) (cCons (cM "list" gPopAt (cVar 5) (cCons (cP (.int 0)) cNil)) cNil)))
    sNil)
  (sSeq (sAsg (cRo (cComp (cRng1 (cVar 6)) (gN 10) cYes (cCallV true run 20 (cCons (cVar 0) (cCons (cVar 1) (cCons (cVar 2) (cCons (c2 gSub (cVar 3) (cP (.int 1))) (cCons (cVar 4) (cCons (cTr (cLst cNil)) cNil))))))) [10])) (gN 8))
  (sSeq (sFor (cIt (cVar 7)) (gN 9)
    (sAsg (cRo (cComp (cIt (cVar 8)) (gN 11) cYes (cTup (cCons (cP (.str "held")) (cCons (cVar 9) (cCons (cVar 11) cNil)))) [11])) (gN 8)))
  (sRet (cTup (cCons (cP (.str "either")) (cCons (c1 gTuple (cCons (cVar 8) cNil)) cNil))))))))))
/-- _law_held(book, kind, shape): book=0 kind=1 shape=2 found=3 field=4 part=5 -/
def b_law_held (run : Run) : CS :=
  (sSeq (sIf (cT (c2 (gEqB false) (c2 gIx (cVar 2) (cP (.int 0))) (cP (.str "held"))))
    (sRet (c2 gAdd (cRo (cLst (cCons (cTup (cCons (c2 gIx (cVar 2) (cP (.int 1))) (cCons (cVar 1) cNil))) cNil))) (cCallV true run 22 (cCons (cVar 0) (cCons (cVar 1) (cCons (c2 gIx (cVar 2) (cP (.int 2))) cNil))))))
    sNil)
  (sSeq (sIf (cT (c2 (gEqB false) (c2 gIx (cVar 2) (cP (.int 0))) (cP (.str "either"))))
    (sRet (cCallV true run 22 (cCons (cVar 0) (cCons (cVar 1) (cCons (c2 gIx (c2 gIx (cVar 2) (cP (.int 1))) (cP (.int 0))) cNil)))))
    sNil)
  (sSeq (sAsg (cTr (cLst cNil)) (gN 3))
  (sSeq (sIf (cT (c2 (gEqB false) (c2 gIx (cVar 2) (cP (.int 0))) (cP (.str "make"))))
    (sFor (cZip (c2 gIx (cDo (cDPairs (c2 gIx (cDo (cDPairs (cVar 0))) (cVar 1)))) (c2 gIx (cVar 2) (cP (.int 1)))) (c2 gIx (cVar 2) (cP (.int 2)))) (gTp 2 (gsCons (gN 4) (gsCons (gN 5) gsNil)))
    (sDrop (cM "list" gExtend (cVar 3) (cCons (cCallV true run 22 (cCons (cVar 0) (cCons (cVar 4) (cCons (cVar 5) cNil)))) cNil))))
    sNil)
  (sRet (cVar 3))))))
/-- _law_homes(book, kind): book=0 kind=1 found=2 home=3 makes=4 make=5 fields=6 at=7 -/
def b_law_homes (run : Run) : CS :=
  (sSeq (sAsg (cTr (cLst cNil)) (gN 2))
  (sSeq (sFor (cIt (cVar 0)) (gTp 2 (gsCons (gN 3) (gsCons (gN 4) gsNil)))
    (sFor (cIt (cVar 4)) (gTp 2 (gsCons (gN 5) (gsCons (gN 6) gsNil)))
    (sDrop (cM "list" gExtend (cVar 2) (cCons (cRo (cComp (cRng1 (c1 gLen (cCons (cVar 6) cNil))) (gN 7) (cT (c2 (gEqB false) (c2 gIx (cVar 6) (cVar 7)) (cVar 1))) (cTup (cCons (cVar 3) (cCons (cVar 5) (cCons (cVar 6) (cCons (cVar 7) cNil))))) [7])) cNil)))))
  (sRet (cVar 2))))
/-- _law_placed(home, shape): home=0 shape=1 ones=2 -/
def b_law_placed (run : Run) : CS :=
  (sSeq (sAsg (cTup (cCons (cTup (cCons (cP (.str "any")) cNil)) cNil)) (gN 2))
  (sRet (cTup (cCons (cP (.str "make")) (cCons (c2 gIx (cVar 0) (cP (.int 1))) (cCons (c2 gAdd (c2 gAdd (c2 gMulT (cVar 2) (c2 gIx (cVar 0) (cP (.int 3)))) (cTup (cCons (cVar 1) cNil))) (c2 gMulT (cVar 2) (c2 gSub (c2 gSub (c1 gLen (cCons (c2 gIx (cVar 0) (cP (.int 2))) cNil)) (c2 gIx (cVar 0) (cP (.int 3)))) (cP (.int 1))))) cNil))))))
/-- _law_drawn_shape(book, kind, pool): book=0 kind=1 pool=2 deep=3 room=4 -/
def b_law_drawn_shape (run : Run) : CS :=
  (sSeq (sAsg (c2 gAdd (cP (.int 1)) (cCallV true run 11 (cCons (cVar 2) (cCons (cP (.int 3)) cNil)))) (gN 3))
  (sSeq (sAsg (cTr (cLst (cCons (c2 gIx (cRo (cLst (cCons (cP (.int 1)) (cCons (cP (.int 2)) (cCons (cP (.int 6)) (cCons (cP (.int 24)) cNil)))))) (cCallV true run 11 (cCons (cVar 2) (cCons (cP (.int 4)) cNil)))) cNil))) (gN 4))
  (sRet (cCallV true run 20 (cCons (cVar 0) (cCons (cVar 1) (cCons (cVar 2) (cCons (cVar 3) (cCons (cVar 4) (cCons (cCallV false run 17 (cCons (cVar 0) cNil)) cNil))))))))))
/-- _law_spot_to(book, plain, kind, pool): book=0 plain=1 kind=2 pool=3 spot=4 turn=5 homes=6 home=7 -/
def b_law_spot_to (run : Run) : CS :=
  (sSeq (sAsg (cTup cNil) (gN 4))
  (sSeq (sFor (cRng1 (cCallV true run 11 (cCons (cVar 3) (cCons (cP (.int 4)) cNil)))) (gN 5)
    (sSeq (sAsg (cRo (cComp (cIt (cCallV true run 23 (cCons (cVar 0) (cCons (cVar 2) cNil)))) (gN 7) (cT (c2 (gInB false) (c2 gIx (cVar 7) (cP (.int 1))) (cDo (cDPairs (cCallV true run 15 (cCons (cVar 0) (cCons (cVar 1) (cCons (c2 gIx (cVar 7) (cP (.int 0))) cNil)))))))) (cVar 7) [7])) (gN 6))
  (sIf (cT (c2 gGt (c1 gLen (cCons (cVar 6) cNil)) (cP (.int 0))))
    (sSeq (sAsg (c2 gIx (cVar 6) (cCallV true run 11 (cCons (cVar 3) (cCons (c1 gLen (cCons (cVar 6) cNil)) cNil)))) (gN 7))
  (sSeq (sAsg (c2 gAdd (cTup (cCons (cTup (cCons (c2 gIx (cVar 7) (cP (.int 1))) (cCons (c2 gIx (cVar 7) (cP (.int 3))) cNil))) cNil)) (cVar 4)) (gN 4))
  (sAsg (c2 gIx (cVar 7) (cP (.int 0))) (gN 2))))
    sNil)))
  (sRet (cVar 4))))
/-- _law_pool(cell): cell=0 -/
def b_law_pool (run : Run) : CS :=
  (sRet (cTr (cLst (cCons (c1 gMax (cCons (cP (.int 0)) (cCons (c2 gSub (cVar 0) (c2 gPow (cP (.int 10)) (cP (.int 18)))) cNil))) (cCons (c2 gMod (cVar 0) (c2 gPow (cP (.int 10)) (cP (.int 18)))) (cCons (cP (.int 0)) cNil))))))
/-- _law_holding(makes, book, pool, room, names): makes=0 book=1 pool=2 room=3 names=4 some=5 make=6 fields=7 goal=8 name=9 many=10 sides=11 k=12 at=13 parts=14 one=15 field=16 -/
def b_law_holding (run : Run) : CS :=
  (sSeq (sAsg (cTr (cLst cNil)) (gN 5))
  (sSeq (sFor (cIt (cVar 0)) (gTp 2 (gsCons (gN 6) (gsCons (gN 7) gsNil)))
    (sDrop (cM "list" gExtend (cVar 5) (cCons (cRo (cComp (cRng1 (c1 gLen (cCons (cVar 7) cNil))) (gN 13) cYes (cTup (cCons (cVar 6) (cCons (cVar 7) (cCons (cVar 13) cNil)))) [13])) cNil))))
  (sSeq (sAsg (c2 gIx (cVar 5) (cCallV true run 11 (cCons (cVar 2) (cCons (c1 gLen (cCons (cVar 5) cNil)) cNil)))) (gN 8))
  (sSeq (sAsg (cTr (cComp (cIt (cVar 5)) (gN 15) (cT (c2 (gEqB false) (c2 gIx (c2 gIx (cVar 15) (cP (.int 1))) (c2 gIx (cVar 15) (cP (.int 2)))) (c2 gIx (c2 gIx (cVar 8) (cP (.int 1))) (c2 gIx (cVar 8) (cP (.int 2)))))) (cVar 15) [15])) (gN 5))
  (sSeq (sAsg (cM "list" gPopAt (cVar 4) (cCons (cP (.int 0)) cNil)) (gN 9))
  (sSeq (sAsg (c1 gMin (cCons (c2 gIx (cVar 3) (cP (.int 0))) (cCons (c2 gAdd (cP (.int 2)) (cCallV true run 11 (cCons (cVar 2) (cCons (cP (.int 2)) cNil)))) cNil))) (gN 10))
  (sSeq (sAsg (c2 gDiv (c2 gIx (cVar 3) (cP (.int 0))) (cVar 10)) (gAt (cVar 3) (cP (.int 0))))
  (sSeq (sAsg (cTr (cLst cNil)) (gN 11))
  (sSeq (sFor (cRng1 (cVar 10)) (gN 12)
    (sSeq (sAsg (c2 gIx (cVar 5) (cCallV true run 11 (cCons (cVar 2) (cCons (c1 gLen (cCons (cVar 5) cNil)) cNil)))) (gTp 3 (gsCons (gN 6) (gsCons (gN 7) (gsCons (gN 13) gsNil)))))
  (sSeq (sAsg (cTr (cComp (cIt (cVar 7)) (gN 16) cYes (cCallV true run 20 (cCons (cVar 1) (cCons (cVar 16) (cCons (cVar 2) (cCons (cP (.int 1)) (cCons (cVar 3) (cCons (cTr (cLst cNil)) cNil))))))) [16])) (gN 14))
  (sSeq (sAsg (cTup (cCons (cP (.str "held")) (cCons (cVar 9) (cCons (cTup (cCons (cP (.str "any")) cNil)) cNil)))) (gAt (cVar 14) (cVar 13)))
  (sDrop (cM "list" gAppend (cVar 11) (cCons (cTup (cCons (cP (.str "make")) (cCons (cVar 6) (cCons (c1 gTuple (cCons (cVar 14) cNil)) cNil)))) cNil)))))))
  (sRet (cTup (cCons (cP (.str "either")) (cCons (c1 gTuple (cCons (cVar 11) cNil)) cNil)))))))))))))
/-- _law_moved(spot, test): spot=0 test=1 ends=2 end=3 -/
def b_law_moved (run : Run) : CS :=
  (sSeq (sIf (cT (c2 (gEqB false) (c2 gIx (cVar 1) (cP (.int 0))) (cP (.str "is"))))
    (sRet (cTup (cCons (cP (.str "is")) (cCons (c2 gAdd (cVar 0) (c2 gIx (cVar 1) (cP (.int 1)))) (cCons (c2 gIx (cVar 1) (cP (.int 2))) cNil)))))
    sNil)
  (sSeq (sAsg (cTr (cLst cNil)) (gN 2))
  (sSeq (sFor (cIt (cSl (cVar 1) (cOSome (cP (.int 1))) (cOSome (cP (.int 3))))) (gN 3)
    (sSeq (sIf (cT (c2 (gIs true) (cVar 3) (cP .non)))
    (sAsg (c2 gAdd (cVar 0) (cVar 3)) (gN 3))
    sNil)
  (sDrop (cM "list" gAppend (cVar 2) (cCons (cVar 3) cNil)))))
  (sRet (cTup (cCons (cP (.str "most")) (cCons (c2 gIx (cVar 2) (cP (.int 0))) (cCons (c2 gIx (cVar 2) (cP (.int 1))) (cCons (c2 gIx (cVar 1) (cP (.int 3))) cNil)))))))))
/-- _law_ahead(spot, lines): spot=0 lines=1 found=2 tests=3 held=4 shifted=5 test=6 name=7 end=8 -/
def b_law_ahead (run : Run) : CS :=
  (sSeq (sAsg (cTr (cLst cNil)) (gN 2))
  (sSeq (sFor (cIt (cVar 1)) (gTp 2 (gsCons (gN 3) (gsCons (gN 4) gsNil)))
    (sSeq (sAsg (c1 gTuple (cCons (cRo (cComp (cIt (cVar 3)) (gN 6) cYes (cCallV true run 29 (cCons (cVar 0) (cCons (cVar 6) cNil))) [6])) cNil)) (gN 5))
  (sDrop (cM "list" gAppend (cVar 2) (cCons (cTup (cCons (cVar 5) (cCons (c1 gTuple (cCons (cRo (cComp (cIt (cVar 4)) (gTp 2 (gsCons (gN 7) (gsCons (gN 8) gsNil))) cYes (cTup (cCons (cVar 7) (cCons (c2 gAdd (cVar 0) (cVar 8)) cNil))) [7, 8])) cNil)) cNil))) cNil)))))
  (sRet (cVar 2))))
/-- _law_either_right(book, kind, shape, base, pool): book=0 kind=1 shape=2 base=3 pool=4 other=5 more=6 -/
def b_law_either_right (run : Run) : CS :=
  (sSeq (sAsg (cCallV true run 20 (cCons (cVar 0) (cCons (cVar 1) (cCons (cVar 4) (cCons (cP (.int 2)) (cCons (cTr (cLst (cCons (cP (.int 6)) cNil))) (cCons (cTr (cLst cNil)) cNil))))))) (gN 5))
  (sSeq (sAsg (cCallV true run 9 (cCons (cVar 0) (cCons (cVar 1) (cCons (cVar 5) (cCons (cTup cNil) cNil))))) (gN 6))
  (sSeq (sIf (cOr (cT (c2 (gEqB true) (cCallV true run 22 (cCons (cVar 0) (cCons (cVar 1) (cCons (cVar 2) cNil)))) (cRo (cLst cNil)))) (cT (c2 gGt (c2 gAdd (c1 gLen (cCons (cVar 3) cNil)) (c1 gLen (cCons (cVar 6) cNil))) (cP (.int 24)))))
    (sRet (cP (.bl true)))
    sNil)
  (sRet (c2 (gEqB false) (cCallV true run 9 (cCons (cVar 0) (cCons (cVar 1) (cCons (cTup (cCons (cP (.str "either")) (cCons (cTup (cCons (cVar 2) (cCons (cVar 5) cNil))) cNil))) (cCons (cTup cNil) cNil))))) (c2 gAdd (cVar 3) (cVar 6)))))))
/-- _law_make_right(book, plain, kind, shape, base, pool): book=0 plain=1 kind=2 shape=3 base=4 pool=5 homes=6 home=7 coming=8 due=9 tests=10 line=11 -/
def b_law_make_right (run : Run) : CS :=
  (sSeq (sAsg (cCallV true run 23 (cCons (cVar 0) (cCons (cVar 2) cNil))) (gN 6))
  (sSeq (sIf (cT (c2 (gEqB false) (cVar 6) (cRo (cLst cNil))))
    (sRet (cP (.bl true)))
    sNil)
  (sSeq (sAsg (c2 gIx (cVar 6) (cCallV true run 11 (cCons (cVar 5) (cCons (c1 gLen (cCons (cVar 6) cNil)) cNil)))) (gN 7))
  (sSeq (sAsg (cDo (cDPairs (cCallV true run 15 (cCons (cVar 0) (cCons (cVar 1) (cCons (c2 gIx (cVar 7) (cP (.int 0))) cNil)))))) (gN 8))
  (sSeq (sAsg (cRo (cLst cNil)) (gN 9))
  (sSeq (sIf (cT (c2 (gInB false) (c2 gIx (cVar 7) (cP (.int 1))) (cVar 8)))
    (sSeq (sAsg (c2 gMulT (cTup (cCons (cTup (cCons (cP (.str "is")) (cCons (cTup cNil) (cCons (c2 gIx (cVar 7) (cP (.int 1))) cNil)))) cNil)) (c1 gIntOf (cCons (c2 gGt (c1 gLen (cCons (cVar 8) cNil)) (cP (.int 1))) cNil))) (gN 10))
  (sAsg (cRo (cComp (cIt (cCallV true run 30 (cCons (cTup (cCons (cTup (cCons (c2 gIx (cVar 7) (cP (.int 1))) (cCons (c2 gIx (cVar 7) (cP (.int 3))) cNil))) cNil)) (cCons (cVar 4) cNil)))) (gN 11) cYes (cTup (cCons (c2 gAdd (cVar 10) (c2 gIx (cVar 11) (cP (.int 0)))) (cCons (c2 gIx (cVar 11) (cP (.int 1))) cNil))) [11])) (gN 9)))
    sNil)
  (sRet (c2 (gEqB false) (cCallV true run 9 (cCons (cVar 0) (cCons (c2 gIx (cVar 7) (cP (.int 0))) (cCons (cCallV true run 24 (cCons (cVar 7) (cCons (cVar 3) cNil))) (cCons (cTup cNil) cNil))))) (cVar 9)))))))))
/-- law(script): script=0 book=1 plain=2 kinds=3 cell=4 pool=5 kind=6 shape=7 spot=8 base=9 held=10 name=11 due=12 makes=13 where=14 tests=15 pairs=16 -/
def b_law (run : Run) : CS :=
  (sSeq (sAsg (cCallV true run 13 (cCons (cCallV false run 27 (cCons (cCallV true run 10 (cCons (cVar 0) (cCons (cP (.int 0)) cNil))) cNil)) cNil)) (gN 1))
  (sSeq (sAsg (cCallV true run 14 (cCons (cVar 1) cNil)) (gN 2))
  (sSeq (sAsg (c2 gAdd (cRo (cLst (cCons (cP (.str "num")) cNil))) (cRo (cComp (cIt (cVar 1)) (gTp 2 (gsCons (gN 6) (gsCons (gN 13) gsNil))) cYes (cVar 6) [6, 13]))) (gN 3))
  (sSeq (sFor (cIt (c2 gAdd (cRo (cLst (cCons (cP (.int 0)) cNil))) (cSl (cVar 0) (cOSome (cP (.int 1))) cONone))) (gN 4)
    (sSeq (sAsg (cCallV false run 27 (cCons (cVar 4) cNil)) (gN 5))
  (sSeq (sAsg (c2 gIx (cVar 3) (cCallV true run 11 (cCons (cVar 5) (cCons (c1 gLen (cCons (cVar 3) cNil)) cNil)))) (gN 6))
  (sSeq (sAsg (cCallV true run 25 (cCons (cVar 1) (cCons (cVar 6) (cCons (cVar 5) cNil)))) (gN 7))
  (sSeq (sAsg (cCallV true run 26 (cCons (cVar 1) (cCons (cVar 2) (cCons (cVar 6) (cCons (cVar 5) cNil))))) (gN 8))
  (sSeq (sAsg (cCallV true run 9 (cCons (cVar 1) (cCons (cVar 6) (cCons (cVar 7) (cCons (cTup cNil) cNil))))) (gN 9))
  (sSeq (sIf (cT (c2 (gEqB true) (cCallV true run 9 (cCons (cVar 1) (cCons (cVar 6) (cCons (cVar 7) (cCons (cVar 8) cNil))))) (cCallV true run 30 (cCons (cVar 8) (cCons (cVar 9) cNil)))))
    (sRet (cP (.bl false)))
    sNil)
  (sSeq (sAsg (cRo (cComp (cIt (cCallV true run 22 (cCons (cVar 1) (cCons (cVar 6) (cCons (cVar 7) cNil))))) (gTp 2 (gsCons (gN 11) (gsCons (gN 14) gsNil))) cYes (cVar 11) [11, 14])) (gN 10))
  (sSeq (sFor (cIt (cSl (cRo (cComp (cIt (cCallV true run 17 (cCons (cVar 1) cNil))) (gN 11) (cT (c2 (gInB true) (cVar 11) (cVar 10))) (cVar 11) [11])) cONone (cOSome (cP (.int 1))))) (gN 11)
    (sSeq (sAsg (cRo (cComp (cIt (cCallV true run 30 (cCons (cVar 8) (cCons (cVar 9) cNil)))) (gTp 2 (gsCons (gN 15) (gsCons (gN 16) gsNil))) cYes (cTup (cCons (cVar 15) (cCons (c2 gAdd (cTup (cCons (cTup (cCons (cVar 11) (cCons (cVar 8) cNil))) cNil)) (cVar 16)) cNil))) [15, 16])) (gN 12))
  (sIf (cT (c2 (gEqB true) (cCallV true run 9 (cCons (cVar 1) (cCons (cVar 6) (cCons (cTup (cCons (cP (.str "held")) (cCons (cVar 11) (cCons (cVar 7) cNil)))) (cCons (cVar 8) cNil))))) (cVar 12)))
    (sRet (cP (.bl false)))
    sNil)))
  (sSeq (sIf (cNot (cTru (cCallV true run 31 (cCons (cVar 1) (cCons (cVar 6) (cCons (cVar 7) (cCons (cVar 9) (cCons (cVar 5) cNil))))))))
    (sRet (cP (.bl false)))
    sNil)
  (sIf (cNot (cTru (cCallV true run 32 (cCons (cVar 1) (cCons (cVar 2) (cCons (cVar 6) (cCons (cVar 7) (cCons (cVar 9) (cCons (cVar 5) cNil)))))))))
    (sRet (cP (.bl false)))
    sNil)))))))))))
  (sRet (cP (.bl true)))))))
def f0 : Fd := ⟨"first_made", ["makes", "known"], ["makes", "known", "make", "fields", "field"], b_first_made⟩
def f1 : Fd := ⟨"next_round", ["book", "known"], ["book", "known", "fresh", "kind", "makes", "value"], b_next_round⟩
def f2 : Fd := ⟨"plain_values", ["book"], ["book", "known", "fresh"], b_plain_values⟩
def f3 : Fd := ⟨"all_makes", ["book", "kind"], ["book", "kind", "name", "makes"], b_all_makes⟩
def f4 : Fd := ⟨"stretch_tests", ["spot", "low", "high"], ["spot", "low", "high", "tests"], b_stretch_tests⟩
def f5 : Fd := ⟨"joined", ["lines", "more"], ["lines", "more", "found", "tests", "held", "others", "behind"], b_joined⟩
def f6 : Fd := ⟨"coming_fields", ["book", "known", "kind"], ["book", "known", "kind", "found", "make", "fields", "field"], b_coming_fields⟩
def f7 : Fd := ⟨"make_lines", ["book", "known", "kind", "shape", "spot"], ["book", "known", "kind", "shape", "spot", "name", "coming", "parts", "place", "field", "lines", "part"], b_make_lines⟩
def f8 : Fd := ⟨"lined", ["book", "known", "kind", "shape", "spot"], ["book", "known", "kind", "shape", "spot", "found", "side"], b_lined⟩
def f9 : Fd := ⟨"lines_of", ["book", "kind", "shape", "spot"], ["book", "kind", "shape", "spot"], b_lines_of⟩
def f10 : Fd := ⟨"_law_cell", ["script", "k"], ["script", "k"], b_law_cell⟩
def f11 : Fd := ⟨"_law_next", ["pool", "base"], ["pool", "base", "digit", "near", "stir"], b_law_next⟩
def f12 : Fd := ⟨"_law_names", ["pool", "many"], ["pool", "many", "letters", "base", "at", "first", "tails", "found", "k", "name"], b_law_names⟩
def f13 : Fd := ⟨"_law_book", ["pool"], ["pool", "many", "kinds", "makes", "book", "at", "kind", "count", "some", "k", "wide", "fields", "name", "place"], b_law_book⟩
def f14 : Fd := ⟨"_law_plain", ["book"], ["book", "plain", "turn", "fresh", "kind", "makes", "make", "fields", "field"], b_law_plain⟩
def f15 : Fd := ⟨"_law_coming", ["book", "plain", "kind"], ["book", "plain", "kind", "make", "field"], b_law_coming⟩
def f16 : Fd := ⟨"_law_make_names", ["book"], ["book", "found", "kind", "makes", "make"], b_law_make_names⟩
def f17 : Fd := ⟨"_law_free", ["book"], ["book", "taken", "name"], b_law_free⟩
def f18 : Fd := ⟨"_law_number", ["pool"], ["pool", "way"], b_law_number⟩
def f19 : Fd := ⟨"_law_stretch", ["pool"], ["pool", "low", "high", "way"], b_law_stretch⟩
def f20 : Fd := ⟨"_law_shape", ["book", "kind", "pool", "deep", "room", "names"], ["book", "kind", "pool", "deep", "room", "names", "way", "name", "makes", "make", "fields", "field"], b_law_shape⟩
def f21 : Fd := ⟨"_law_either", ["book", "kind", "pool", "deep", "room", "names"], ["book", "kind", "pool", "deep", "room", "names", "many", "held", "sides", "name", "k", "side"], b_law_either⟩
def f22 : Fd := ⟨"_law_held", ["book", "kind", "shape"], ["book", "kind", "shape", "found", "field", "part"], b_law_held⟩
def f23 : Fd := ⟨"_law_homes", ["book", "kind"], ["book", "kind", "found", "home", "makes", "make", "fields", "at"], b_law_homes⟩
def f24 : Fd := ⟨"_law_placed", ["home", "shape"], ["home", "shape", "ones"], b_law_placed⟩
def f25 : Fd := ⟨"_law_drawn_shape", ["book", "kind", "pool"], ["book", "kind", "pool", "deep", "room"], b_law_drawn_shape⟩
def f26 : Fd := ⟨"_law_spot_to", ["book", "plain", "kind", "pool"], ["book", "plain", "kind", "pool", "spot", "turn", "homes", "home"], b_law_spot_to⟩
def f27 : Fd := ⟨"_law_pool", ["cell"], ["cell"], b_law_pool⟩
def f28 : Fd := ⟨"_law_holding", ["makes", "book", "pool", "room", "names"], ["makes", "book", "pool", "room", "names", "some", "make", "fields", "goal", "name", "many", "sides", "k", "at", "parts", "one", "field"], b_law_holding⟩
def f29 : Fd := ⟨"_law_moved", ["spot", "test"], ["spot", "test", "ends", "end"], b_law_moved⟩
def f30 : Fd := ⟨"_law_ahead", ["spot", "lines"], ["spot", "lines", "found", "tests", "held", "shifted", "test", "name", "end"], b_law_ahead⟩
def f31 : Fd := ⟨"_law_either_right", ["book", "kind", "shape", "base", "pool"], ["book", "kind", "shape", "base", "pool", "other", "more"], b_law_either_right⟩
def f32 : Fd := ⟨"_law_make_right", ["book", "plain", "kind", "shape", "base", "pool"], ["book", "plain", "kind", "shape", "base", "pool", "homes", "home", "coming", "due", "tests", "line"], b_law_make_right⟩
def f33 : Fd := ⟨"law", ["script"], ["script", "book", "plain", "kinds", "cell", "pool", "kind", "shape", "spot", "base", "held", "name", "due", "makes", "where", "tests", "pairs"], b_law⟩
def T : List Fd := [f0, f1, f2, f3, f4, f5, f6, f7, f8, f9, f10, f11, f12, f13, f14, f15, f16, f17, f18, f19, f20, f21, f22, f23, f24, f25, f26, f27, f28, f29, f30, f31, f32, f33]
end K19
set_option Elab.async false
set_option linter.all false
set_option maxRecDepth 100000
set_option maxHeartbeats 4000000
namespace K19
open Cw L2 Gs
open PySem hiding Run

theorem hN (k : Nat) : NextOk (runT T (k + 1)) 11 := next_ok rfl
theorem hW (k : Nat) : NamesOk (runT T (k + 2)) 12 := names_ok rfl (hN k)
theorem hB (k : Nat) : BookRun (runT T (k + 3)) 13 := book_ok rfl (hN (k + 1)) (hW k)
theorem hPl (k : Nat) : PlainRun (runT T (k + 1)) 14 := plain_ok rfl
theorem hCo (k : Nat) : ComeRun (runT T (k + 1)) 15 := come_ok rfl
theorem hMn (k : Nat) (b : List Kd) (hb : BookOk b) : Tells (runT T (k + 1)) 16 [encB b] (.ro ((nmsOf b).map .str)) := make_names_ok rfl b hb
theorem hFr (k : Nat) {b : List Kd} (hb : BookOk b) : FreeRun (runT T (k + 2)) 17 b := free_ok rfl (hMn k b hb)
theorem hNu (k : Nat) : NumRun (runT T (k + 2)) 18 := number_ok rfl (hN k)
theorem hSt (k : Nat) : StrRun (runT T (k + 3)) 19 := stretch_ok rfl (hN (k + 1)) (hNu k)
theorem hS0 {b : List Kd} (hb : BookOk b) (d k : Nat) (h : 2 * d + 3 ≤ k) : ShM b false d (runT T (k + 1)) 20 := sh0 (jh := 28) hb rfl rfl hN hSt d k h
theorem hS1 {b : List Kd} (hb : BookOk b) (d k : Nat) (h : 2 * d + 7 ≤ k) : ShM b true d (runT T (k + 1)) 20 := sh1 hb rfl rfl rfl hN hSt d k h
theorem hHe {b : List Kd} (hb : BookOk b) (d k : Nat) (h : d ≤ k) : HeldRun b d (runT T (k + 1)) 22 := held_ok hb rfl d k h
theorem hHm {b : List Kd} (hb : BookOk b) (k : Nat) : HomRun b (runT T (k + 1)) 23 := homes_ok hb rfl
theorem hPa (k : Nat) : PlaRun (runT T (k + 1)) 24 := placed_ok rfl
theorem hDs {b : List Kd} (hb : BookOk b) (k : Nat) (h : 14 ≤ k) : DshRun (runT T (k + 1)) 25 b := by
  obtain ⟨k, rfl⟩ : ∃ k', k = k' + 2 := ⟨k - 2, by omega⟩
  exact drawn_ok rfl (hN (k + 1)) (hFr k hb) fun d hd => hS1 hb d (k + 1) (by omega)
theorem hSo {b : List Kd} (hb : BookOk b) {kvs : List (Key × P)} {ks : List Str} (hk : KeyIs kvs ks) (k : Nat) : SpoRun b kvs (runT T (k + 2)) 26 := spot_to_ok rfl (hN k) (hCo k) hb (hHm hb k) hk
theorem hPo (k : Nat) : PoolOk (runT T (k + 1)) 27 := pool_ok rfl
theorem hCe (k : Nat) (ns : List Int) (j : Nat) : Tells (runT T (k + 1)) 10 [.scr (ns.map .int), .int j] (.int (ns.getD j 0)) := cell_ok rfl ns j
theorem hMo (k : Nat) : MovRun (runT T (k + 1)) 29 := moved_ok rfl
theorem hAh (k : Nat) : AheRun (runT T (k + 2)) 30 := ahead_ok rfl (hMo k)
theorem hPv {b : List Kd} (hb : BookOk b) (k : Nat) : PvRun (runT T (k + 3)) 2 b := pv_ok hb rfl (round_ok hb rfl (first_ok rfl))
theorem hLn {b : List Kd} (hb : BookOk b) {ks : List Str} (hk : ∀ z, z ∈ ks ↔ Alive b z) (k : Nat) (h : 23 ≤ k) : LnRun b ks (runT T (k + 1)) 9 := by
  obtain ⟨k, rfl⟩ : ∃ k', k = k' + 3 := ⟨k - 3, by omega⟩
  exact ln_ok (ip := 2) (ili := 8) (ijn := 5) (imk := 7) (ist := 4) (icf := 6) (ia := 3) hb hk h rfl (hPv hb k) rfl rfl rfl rfl rfl rfl
theorem hEi {b : List Kd} (hb : BookOk b) {ks : List Str} (hk : ∀ z, z ∈ ks ↔ Alive b z) (k : Nat) (h : 24 ≤ k) : EirRun b ks (runT T (k + 1)) 31 := by
  obtain ⟨k, rfl⟩ : ∃ k', k = k' + 1 := ⟨k - 1, by omega⟩
  exact eir_ok hb rfl (hLn hb hk k (by omega)) (hHe hb 6 k (by omega)) (hS0 hb 2 k (by omega))
theorem hMk {b : List Kd} (hb : BookOk b) {kvs : List (Key × P)} {ks : List Str} (hkk : KeyIs kvs ks) (hk : ∀ z, z ∈ ks ↔ Alive b z) (k : Nat) (h : 25 ≤ k) : MkrRun b kvs ks (runT T (k + 1)) 32 := by
  obtain ⟨k, rfl⟩ : ∃ k', k = k' + 2 := ⟨k - 2, by omega⟩
  exact mkr_ok hb hkk rfl (hPa (k + 1)) (hLn hb hk (k + 1) (by omega)) (hAh k) (hCo (k + 1)) (hN (k + 1)) (hHm hb (k + 1))
abbrev eJ (ns : List Int) (b : List Kd) (kvs : List (Key × P)) (w4 w5 w6 w7 w8 w9 w10 w11 w12 w13 w14 w15 w16 : Option D) : Ev :=
  [some (.p (.scr (ns.map .int))), some (.p (encB b)), some (.p (.dic kvs)), some (.p (.ro ((num :: b.map (·.1)).map .str))), w4, w5, w6, w7, w8, w9, w10, w11, w12, w13, w14, w15, w16]
theorem vSl1 (xs : List P) (S : Sto) : gSl (.p (.ro xs)) none (some 1) S = .ok (.p (.ro (xs.take 1))) S := vSlTake (d := .p (.ro xs)) (xs := xs) (k := 1) S (fun _ h => by cases h) (fun _ h => by cases h) rfl
theorem pure (ns : List Int) (hl : ns.length ≤ 63) : runT T 40 33 [.p (.scr (ns.map .int))] [] = .ok (.p (.bl true)) [] := by
  suffices h : Nd (b_law (runT T 39) [some (.p (.scr (ns.map .int))), none, none, none, none, none, none, none, none, none, none, none, none, none, none, none, none] []) fun f _ => f = .rt (.p (.bl true)) by
    obtain ⟨f, S', e, rfl⟩ := h
    show leave 0 (b_law (runT T 39) [some (.p (.scr (ns.map .int))), none, none, none, none, none, none, none, none, none, none, none, none, none, none, none, none] []) = _
    rw [e]; rfl
  obtain ⟨o0, ep, ho0⟩ := hPo 38 [] (ns.getD 0 0)
  have ec : callV true (runT T 39) 10 [.p (.scr (ns.map .int)), .p (.int 0)] [] = .ok (.p (.int (ns.getD 0 0))) [] := hCe 38 ns 0 []
  obtain ⟨b, o1, eb, ho1, hb⟩ := hB 36 [o0] 0 o0 rfl ho0
  refine asgE (d := .p (encB b)) (S' := [o1]) (by
    simp only [xCallV, xCons, xNil, xVar0, xP, bind_okE, ec, ep]
    exact eb) ?_
  simp only [List.set_cons_zero, List.set_cons_succ]
  obtain ⟨kvs, ks, epl, hp⟩ := hPl 38 b hb
  refine asgE (d := .p (.dic kvs)) (S' := [o1]) (by simp only [xCallV, xCons, xNil, xVar0, xVarS, bind_okE]; exact epl [o1]) ?_
  simp only [List.set_cons_zero, List.set_cons_succ]
  refine asgE (kindsE hb rfl (by simp) (by simp) (by omega)) ?_
  simp only [List.set_cons_zero, List.set_cons_succ]
  have h6 := hb.len
  have hLN := hLn hb hp.al 38 (by omega)
  have hkl : (num :: b.map (·.1)).length ≤ 7 := by rw [List.length_cons, List.length_map]; omega
  refine forS (cells_it hl _ _) (fun _ ρ S => ∃ (w4 w5 w6 w7 w8 w9 w10 w11 w12 w13 w14 w15 w16 : Option D), ρ = eJ ns b kvs w4 w5 w6 w7 w8 w9 w10 w11 w12 w13 w14 w15 w16) ⟨_, _, _, _, _, _, _, _, _, _, _, _, _, rfl⟩ ?_ ?_
  · rintro pre c post ρ G hcl ⟨w4, w5, w6, w7, w8, w9, w10, w11, w12, w13, w14, w15, w16, rfl⟩
    refine Nd.go (turnE (xgN _ _ _ _) ?_)
    simp only [List.set_cons_zero, List.set_cons_succ]
    obtain ⟨p0, e0, hp0⟩ := hPo 38 G c
    refine asgE (d := .ref G.length) (S' := G ++ [p0]) (by simp only [xCallV, xCons, xNil, xVar0, xVarS, bind_okE]; exact e0) ?_
    simp only [List.set_cons_zero, List.set_cons_succ]
    obtain ⟨d, S', ek, x, p1, hx, rfl, rfl, hp1⟩ := pickRo (n := G.length) (tbl := cVar 3) (xs := (num :: b.map (·.1)).map .str) (S := G ++ [p0]) (ρ := eJ ns b kvs (some (.p (.int c))) (some (.ref G.length)) w6 w7 w8 w9 w10 w11 w12 w13 w14 w15 w16) rfl
      ((hN 38).d (n := G.length) (base := (((num :: b.map (·.1)).map P.str).length : Nat)) (ca := cVar 5) (cb := c1 gLen (cCons (cVar 3) cNil)) rfl rfl at_p1 hp0 (by rw [List.length_map, List.length_cons]; omega) (by rw [List.length_map]; omega))
    obtain ⟨z, hz, rfl⟩ := List.mem_map.mp hx
    have hz : Kn b z := List.mem_cons.mp hz
    rw [set_p1] at ek
    refine asgE ek ?_
    simp only [List.set_cons_zero, List.set_cons_succ]
    -- the shape, the spot
    obtain ⟨_, p2, ev, hp2, s, hls, u, rfl, hs⟩ := hDs hb 38 (by omega) z hz (G ++ [p1]) G.length p1 at_p1 hp1
    rw [set_p1] at ev
    refine asgE (d := .p (encZ s)) (S' := G ++ [p2]) (by simp only [xCallV, xCons, xNil, xVar0, xVarS, bind_okE]; exact ev) ?_
    simp only [List.set_cons_zero, List.set_cons_succ]
    obtain ⟨_, p3, ew, hp3, sp, rfl, hsp⟩ := hSo hb hp.pd.keys 37 z (G ++ [p2]) G.length p2 at_p1 hp2
    rw [set_p1] at ew
    refine asgE (d := .p (encS sp)) (S' := G ++ [p3]) (by simp only [xCallV, xCons, xNil, xVar0, xVarS, bind_okE]; exact ew) ?_
    simp only [List.set_cons_zero, List.set_cons_succ]
    -- the lines
    have hlen8 := hl_len hs
    have hu := hs.few
    have el : ∀ S, callV true (runT T 39) 9 [.p (encB b), .p (.str z), .p (encZ s), .p (.tup [])] S = .ok (.p (encLs (LN (comeOf b ks) 6 z s []))) S := hLN 6 z hls u s [] (by omega) hs.fm (by omega) (by simp)
    refine asgE (d := .p (encLs (LN (comeOf b ks) 6 z s []))) (S' := G ++ [p3]) (by simp only [xCallV, xCons, xNil, xTup, xVar0, xVarS, bind_okE, allP, List.length_nil, Nat.zero_le, if_true, el]) ?_
    simp only [List.set_cons_zero, List.set_cons_succ]
    have els : ∀ S, callV true (runT T 39) 9 [.p (encB b), .p (.str z), .p (encZ s), .p (encS sp)] S = .ok (.p (encLs (LN (comeOf b ks) 6 z s sp))) S := hLN 6 z hls u s sp (by omega) hs.fm (by omega) (by omega)
    have L1 : (LN (comeOf b ks) 6 z s []).length ≤ 24 := Nat.le_trans (LN_len hb [] hs.fm) hu
    have eah : ∀ S, callV true (runT T 39) 30 [.p (encS sp), .p (encLs (LN (comeOf b ks) 6 z s []))] S = .ok (.p (encLs (LN (comeOf b ks) 6 z s sp))) S := fun S => by
      have := hAh 37 sp (LN (comeOf b ks) 6 z s []) (by omega) (by omega) (lb6 hb (by omega) _ _ _) ((LN_sb 6 z s []).mono (by simp)) S
      rw [← LN_at] at this
      exact this
    refine seqF (S' := G ++ [p3]) (by simp only [xT, x2, xCallV, xCons, xNil, xVar0, xVarS, bind_okE, els, eah, vNeLs, xbT]) (seqNil ?_)
    -- what is held
    have ehe : ∀ S, callV true (runT T 39) 22 [.p (encB b), .p (.str z), .p (encZ s)] S = .ok (.p (.ro (hls.map encPr))) S := hHe hb 6 38 (by omega) z hls u s hs.fm (by omega)
    refine asgE (d := .p (.ro ((hls.map (·.1)).map .str))) (S' := G ++ [p3]) (by
      rw [xRo, cmpM (enc := encPr) (l := hls) (fun q => P.str q.1) (by simp only [xIt, xCallV, xCons, xNil, xVar0, xVarS, bind_okE, ehe]; rfl) (by omega) fun q _ => ⟨_, rfl, rfl⟩, bind_okE, List.map_map]
      rfl) ?_
    simp only [List.set_cons_zero, List.set_cons_succ]
    have efr : ∀ S, callV true (runT T 39) 17 [.p (encB b)] S = .ok (.p (.ro ((freeOf b).map .str))) S := (hFr 37 hb).fz
    have hfl := free_len b
    refine forS (enc := P.str) (l := ((freeOf b).filter fun n => !decide (n ∈ hls.map (·.1))).take 1) (S' := G ++ [p3]) (by
      rw [xIt, xSl, xRo, cmpF (enc := P.str) (l := freeOf b) (fun n => !decide (n ∈ hls.map (·.1))) P.str (by simp only [xIt, xCallV, xCons, xNil, xVar0, xVarS, bind_okE, efr]; rfl) (by omega) fun n _ => ⟨_, rfl, by
        simp only [wipeE, List.set_cons_zero, List.set_cons_succ, xT, x2, xVar0, xVarS, bind_okE, vInRo, if_true, xbT], fun _ => rfl⟩, bind_okE]
      simp only [bind_okE, xONone, xOSome, xP, vSl1]
      rw [← List.map_take]; rfl) (fun _ ρ S => S = G ++ [p3] ∧ ∃ (w11 w12 w13 w14 w15 w16 : Option D), ρ = eJ ns b kvs (some (.p (.int c))) (some (.ref G.length)) (some (.p (.str z))) (some (.p (encZ s))) (some (.p (encS sp))) (some (.p (encLs (LN (comeOf b ks) 6 z s [])))) (some (.p (.ro ((hls.map (·.1)).map .str)))) w11 w12 w13 w14 w15 w16) ⟨rfl, _, _, _, _, _, _, rfl⟩ ?_ ?_
    · rintro pre n post ρ S hl2 ⟨rfl, w11, w12, w13, w14, w15, w16, rfl⟩
      refine Nd.go (turnE (xgN _ _ _ _) ?_)
      simp only [List.set_cons_zero, List.set_cons_succ]
      have eH7 : ∀ S, callV true (runT T 39) 9 [.p (encB b), .p (.str z), .p (.tup [.str "held", .str n, encZ s]), .p (encS sp)] S = .ok (.p (encLs (LN (comeOf b ks) 7 z (.held n s) sp))) S := hLN 7 z ((n, z) :: hls) u (.held n s) sp (by omega) ⟨hls, rfl, hs.fm⟩ (by omega) (by omega)
      have hLe : LN (comeOf b ks) 7 z (.held n s) sp = (LN (comeOf b ks) 6 z s sp).map fun l => (l.1, (n, sp) :: l.2) := by
        show jn [([], [(n, sp)])] (LN (comeOf b ks) 6 z s sp) = _
        simp [jn]
      have hAb := lb6 (ks := ks) hb (d := 6) (by omega) z s sp
      have hAl : (LN (comeOf b ks) 6 z s sp).length ≤ 24 := Nat.le_trans (LN_len hb _ hs.fm) hu
      have em : ((LN (comeOf b ks) 6 z s sp).map fun l => encL (l.1, (n, sp) :: l.2)) = (LN (comeOf b ks) 7 z (.held n s) sp).map encL := by rw [hLe, List.map_map]; rfl
      refine asgE (d := .p (encLs (LN (comeOf b ks) 7 z (.held n s) sp))) (S' := G ++ [p3]) (by
        rw [xRo, cmpM (enc := encL) (l := LN (comeOf b ks) 6 z s sp) (fun l => encL (l.1, (n, sp) :: l.2)) (by simp only [xIt, xCallV, xCons, xNil, xVar0, xVarS, bind_okE, eah]; rfl) (by omega) fun l hlA => ⟨_, rfl, by
          have bl := hAb l hlA
          have ad := vAddT [encQ (n, sp)] (l.2.map encQ) (G ++ [p3]) (by rw [List.length_map, List.length_singleton]; omega)
          have ad : gAdd (.p (.tup [.tup [.str n, encS sp]])) (.p (.tup (l.2.map encQ))) (G ++ [p3]) = _ := ad
          simp only [wipeE, List.set_cons_zero, List.set_cons_succ, xTup, xCons, xNil, x2, xP, xVar0, xVarS, bind_okE, allP, List.length_cons, List.length_nil, sizeLine_val, Nat.reduceAdd, Nat.reduceLeDiff, if_true, ad]
          rfl⟩, bind_okE, em]
        rfl) ?_
      simp only [List.set_cons_zero, List.set_cons_succ]
      refine ifF (S' := G ++ [p3]) (by
        simp only [xT, x2, xCallV, xTup, xCons, xNil, xP, xVar0, xVarS, bind_okE, allP, List.length_cons, List.length_nil, sizeLine_val, Nat.reduceAdd, Nat.reduceLeDiff, if_true, eH7, vNeLs, xbT]) (.ok ⟨_, rfl, rfl, _, _, _, _, _, _, rfl⟩)
    rintro ρ S ⟨rfl, w11, w12, w13, w14, w15, w16, rfl⟩
    obtain ⟨_, p4, e4, hp4, rfl⟩ := hEi hb hp.al 38 (by omega) z s hls u hz hs.fm hu (by omega) (G ++ [p3]) G.length p3 at_p1 hp3
    rw [set_p1] at e4
    refine seqF (S' := G ++ [p4]) (by simp only [xNot, xTru, xCallV, xCons, xNil, xVar0, xVarS, bind_okE, e4]; rfl) (seqNil ?_)
    obtain ⟨_, p5, e5, hp5, rfl⟩ := hMk hb hp.pd.keys hp.al 38 (by omega) z s hls u hs.fm hu (G ++ [p4]) G.length p4 at_p1 hp4
    rw [set_p1] at e5
    refine ifF (S' := G ++ [p5]) (by simp only [xNot, xTru, xCallV, xCons, xNil, xVar0, xVarS, bind_okE, e5]; rfl) (.ok ⟨_, rfl, _, _, _, _, _, _, _, _, _, _, _, _, _, rfl⟩)
  · rintro ρ S ⟨w4, w5, w6, w7, w8, w9, w10, w11, w12, w13, w14, w15, w16, rfl⟩
    exact retE rfl rfl
end K19
set_option Elab.async false
set_option linter.all false
set_option maxRecDepth 100000
set_option maxHeartbeats 4000000
/-! the derivations, the end -/
namespace K19
open PySem PySem.Spec PyProof.Rows Cw L2
def top (i : Nat) : Stmt := PySem.Challenge.pw_courtwide_k19_whole_lines_put_together.main.body.getD i (.Pass ⟨0, 0, 0, 0⟩)
abbrev s0 : Stmt := top 2
abbrev s1 : Stmt := top 3
abbrev s2 : Stmt := top 4
abbrev s3 : Stmt := top 5
abbrev s4 : Stmt := top 7
abbrev s5 : Stmt := top 8
abbrev s6 : Stmt := top 9
abbrev s7 : Stmt := top 10
abbrev s8 : Stmt := top 11
abbrev s9 : Stmt := top 12
abbrev s10 : Stmt := top 14
abbrev s11 : Stmt := top 15
abbrev s12 : Stmt := top 16
abbrev s13 : Stmt := top 17
abbrev s14 : Stmt := top 18
abbrev s15 : Stmt := top 19
abbrev s16 : Stmt := top 20
abbrev s17 : Stmt := top 21
abbrev s18 : Stmt := top 22
abbrev s19 : Stmt := top 23
abbrev s20 : Stmt := top 24
abbrev s21 : Stmt := top 25
abbrev s22 : Stmt := top 26
abbrev s23 : Stmt := top 27
abbrev s24 : Stmt := top 28
abbrev s25 : Stmt := top 29
abbrev s26 : Stmt := top 30
abbrev s27 : Stmt := top 31
abbrev s28 : Stmt := top 32
abbrev s29 : Stmt := top 33
abbrev s30 : Stmt := top 34
abbrev s31 : Stmt := top 35
abbrev s32 : Stmt := top 36
abbrev s33 : Stmt := top 37
structure Gb (mg : Str → Option Value) : Prop where
  b_all : mg "all" = none
  b_tuple : mg "tuple" = none
  b_len : mg "len" = none
  b_enumerate : mg "enumerate" = none
  b_range : mg "range" = none
  b_int : mg "int" = none
  b_min : mg "min" = none
  b_dict : mg "dict" = none
  b_any : mg "any" = none
  b_zip : mg "zip" = none
  b_max : mg "max" = none
  c_NUM : ∃ t, mg "NUM" = some (.str "num" t)
section
variable {P : Program} {w : World} {K : PySem.W.Frag} {mg : Str → Option Value} {base : Heap} {f : Addr} {fd : FuncData}
theorem sc0 : FnScope f0.N f0.ps (defScope s0) := ⟨rfl, rfl, rfl, by decide +kernel, rfl, by decide +kernel, by decide +kernel⟩
theorem d0 (G : Gb mg) {k : Nat} {cdv : Value} {A : Around} {outer : List Env} {s : Shared} {H : Hp} {E : XK} (C : Ctx (cxOf CX0 P w K mg base f0.N "first_made" (defScope s0) f cdv A outer s H E).nox T k) :
    PSs (cxOf CX0 P w K mg base f0.N "first_made" (defScope s0) f cdv A outer s H E).nox (defBody s0) (RdS K (b_first_made (runT T k))) :=
  (by refine rs_cons (rs_for PassesOwn.never C.calm (ri_seq (re_var (pv 0))) (rg_tup C.calm (rgs_cons (rg_name (i := 2) sc0.nd rfl (by first | exact Or.inl rfl | exact Or.inr rfl)) (rgs_cons (rg_name (i := 3) sc0.nd rfl (by first | exact Or.inl rfl | exact Or.inr rfl)) rgs_nil))) (by exact rs_one (rs_if (rt_val (re_callB (w_all C.calm) rfl G.b_all bt_all (ra_cons (re_ro (rn_lc (own := [("field", 4)]) C.calm sc0.nd (ri_seq (re_var (pv 3))) (by kernel_rfl) (fun s0 H0 c0 cl0 fp0 => (rg_name (i := 4) sc0.nd rfl (by first | exact Or.inl rfl | exact Or.inr rfl))) (fun s0 H0 c0 cl0 fp0 => rts_nil) (fun s0 H0 c0 cl0 fp0 => (re_in (C.blk s0 H0 _ _ fp0).hu (re_var (pv 4)) (re_var (pv 1)))))) ra_nil))) (by exact rs_one (rs_ret (re_add (re_tup (ra_cons (re_var (pv 2)) ra_nil)) (re_callTy w_tuple rfl G.b_tuple bt_tuple (ra_cons (re_ro (rn_lc (own := [("field", 4)]) C.calm sc0.nd (ri_seq (re_var (pv 3))) (by kernel_rfl) (fun s0 H0 c0 cl0 fp0 => (rg_name (i := 4) sc0.nd rfl (by first | exact Or.inl rfl | exact Or.inr rfl))) (fun s0 H0 c0 cl0 fp0 => rts_nil) (fun s0 H0 c0 cl0 fp0 => (re_ix (C.blk s0 H0 _ _ fp0).hu (re_var (pv 1)) (re_var (pv 4)))))) ra_nil))))) rs_nil))) ?_; exact rs_one (rs_ret re_non))
theorem e0 (G : Gb mg) (F : Fun K "first_made" "first_made" s0 f fd) (hm : mg "first_made" = some (.ref f)) : Entry P w K mg base T 0 f0.name :=
  entry (D := f0) rfl F sc0 hm (fun _ _ _ _ _ _ us hl => match us, hl with | [_, _], _ => rfl) fun k cdv A outer s H E C => d0 G C
theorem sc1 : FnScope f1.N f1.ps (defScope s1) := ⟨rfl, rfl, rfl, by decide +kernel, rfl, by decide +kernel, by decide +kernel⟩
theorem d1 (G : Gb mg) {k : Nat} {cdv : Value} {A : Around} {outer : List Env} {s : Shared} {H : Hp} {E : XK} (C : Ctx (cxOf CX0 P w K mg base f1.N "next_round" (defScope s1) f cdv A outer s H E).nox T k) :
    PSs (cxOf CX0 P w K mg base f1.N "next_round" (defScope s1) f cdv A outer s H E).nox (defBody s1) (RdS K (b_next_round (runT T k))) :=
  (by refine rs_cons (rs_set (i := 2) sc1.nd rfl (by first | exact Or.inl rfl | exact Or.inr rfl) (re_dt rd_new)) ?_; refine rs_cons (rs_for PassesOwn.never C.calm (ri_seq (re_var (pv 0))) (rg_tup C.calm (rgs_cons (rg_name (i := 3) sc1.nd rfl (by first | exact Or.inl rfl | exact Or.inr rfl)) (rgs_cons (rg_name (i := 4) sc1.nd rfl (by first | exact Or.inl rfl | exact Or.inr rfl)) rgs_nil))) (by refine rs_cons (rs_set (i := 5) sc1.nd rfl (by first | exact Or.inl rfl | exact Or.inr rfl) (re_callV true C 0 rfl rfl rfl (ra_cons (re_var (pv 4)) (ra_cons (re_var (pv 1)) ra_nil)))) ?_; exact rs_one (rs_if (PW.pt (rw_and (rt_nin C.hu (re_var (pv 3)) (re_var (pv 1))) (rw_and1 (rt_isnt (re_var (pv 5)) re_non)))) (by exact rs_one (rs_asg (re_var (pv 5)) (rg_sub C.hu (re_var (pv 2)) (re_var (pv 3))))) rs_nil))) ?_; exact rs_one (rs_ret (re_var (pv 2))))
theorem e1 (G : Gb mg) (F : Fun K "next_round" "next_round" s1 f fd) (hm : mg "next_round" = some (.ref f)) : Entry P w K mg base T 1 f1.name :=
  entry (D := f1) rfl F sc1 hm (fun _ _ _ _ _ _ us hl => match us, hl with | [_, _], _ => rfl) fun k cdv A outer s H E C => d1 G C
theorem sc2 : FnScope f2.N f2.ps (defScope s2) := ⟨rfl, rfl, rfl, by decide +kernel, rfl, by decide +kernel, by decide +kernel⟩
theorem d2 (G : Gb mg) {k : Nat} {cdv : Value} {A : Around} {outer : List Env} {s : Shared} {H : Hp} {E : XK} (C : Ctx (cxOf CX0 P w K mg base f2.N "plain_values" (defScope s2) f cdv A outer s H E).nox T k) :
    PSs (cxOf CX0 P w K mg base f2.N "plain_values" (defScope s2) f cdv A outer s H E).nox (defBody s2) (RdS K (b_plain_values (runT T k))) :=
  (by refine rs_cons (rs_set (i := 1) sc2.nd rfl (by first | exact Or.inl rfl | exact Or.inr rfl) (re_dt (rd_disp (rpp_cons (re_gstr rfl G.c_NUM) re_int rpp_nil)))) ?_; refine rs_cons (rs_set (i := 2) sc2.nd rfl (by first | exact Or.inl rfl | exact Or.inr rfl) (re_callV true C 1 rfl rfl rfl (ra_cons (re_var (pv 0)) (ra_cons (re_var (pv 1)) ra_nil)))) ?_; refine rs_cons (rs_while PassesOwn.never (rt_gt (re_callB w_len rfl G.b_len bt_len (ra_cons (re_var (pv 2)) ra_nil)) re_int) (by refine rs_cons (rs_expr (re_m w_update PySem.F.plainAttrs_dict PySem.F.slot_dict_update PySem.F.type_dict_update (re_var (pv 1)) (ra_cons (re_var (pv 2)) ra_nil))) ?_; exact rs_one (rs_set (i := 2) sc2.nd rfl (by first | exact Or.inl rfl | exact Or.inr rfl) (re_callV true C 1 rfl rfl rfl (ra_cons (re_var (pv 0)) (ra_cons (re_var (pv 1)) ra_nil)))))) ?_; exact rs_one (rs_ret (re_var (pv 1))))
theorem e2 (G : Gb mg) (F : Fun K "plain_values" "plain_values" s2 f fd) (hm : mg "plain_values" = some (.ref f)) : Entry P w K mg base T 2 f2.name :=
  entry (D := f2) rfl F sc2 hm (fun _ _ _ _ _ _ us hl => match us, hl with | [_], _ => rfl) fun k cdv A outer s H E C => d2 G C
theorem sc3 : FnScope f3.N f3.ps (defScope s3) := ⟨rfl, rfl, rfl, by decide +kernel, rfl, by decide +kernel, by decide +kernel⟩
theorem d3 (G : Gb mg) {k : Nat} {cdv : Value} {A : Around} {outer : List Env} {s : Shared} {H : Hp} {E : XK} (C : Ctx (cxOf CX0 P w K mg base f3.N "all_makes" (defScope s3) f cdv A outer s H E).nox T k) :
    PSs (cxOf CX0 P w K mg base f3.N "all_makes" (defScope s3) f cdv A outer s H E).nox (defBody s3) (RdS K (b_all_makes (runT T k))) :=
  (by refine rs_cons (rs_for PassesOwn.never C.calm (ri_seq (re_var (pv 0))) (rg_tup C.calm (rgs_cons (rg_name (i := 2) sc3.nd rfl (by first | exact Or.inl rfl | exact Or.inr rfl)) (rgs_cons (rg_name (i := 3) sc3.nd rfl (by first | exact Or.inl rfl | exact Or.inr rfl)) rgs_nil))) (by exact rs_one (rs_if (rt_eq C.hu (re_var (pv 2)) (re_var (pv 1))) (by exact rs_one (rs_ret (re_var (pv 3)))) rs_nil))) ?_; exact rs_one (rs_ret (re_tup ra_nil)))
theorem e3 (G : Gb mg) (F : Fun K "all_makes" "all_makes" s3 f fd) (hm : mg "all_makes" = some (.ref f)) : Entry P w K mg base T 3 f3.name :=
  entry (D := f3) rfl F sc3 hm (fun _ _ _ _ _ _ us hl => match us, hl with | [_, _], _ => rfl) fun k cdv A outer s H E C => d3 G C
theorem sc4 : FnScope f4.N f4.ps (defScope s4) := ⟨rfl, rfl, rfl, by decide +kernel, rfl, by decide +kernel, by decide +kernel⟩
theorem d4 (G : Gb mg) {k : Nat} {cdv : Value} {A : Around} {outer : List Env} {s : Shared} {H : Hp} {E : XK} (C : Ctx (cxOf CX0 P w K mg base f4.N "stretch_tests" (defScope s4) f cdv A outer s H E).nox T k) :
    PSs (cxOf CX0 P w K mg base f4.N "stretch_tests" (defScope s4) f cdv A outer s H E).nox (defBody s4) (RdS K (b_stretch_tests (runT T k))) :=
  (by refine rs_cons (rs_set (i := 3) sc4.nd rfl (by first | exact Or.inl rfl | exact Or.inr rfl) (re_tr (rn_lst ra_nil))) ?_; refine rs_cons (rs_if (rt_isnt (re_var (pv 1)) re_non) (by exact rs_one (rs_expr (re_m w_append PySem.F.plainAttrs_list PySem.F.slot_list_append PySem.F.type_list_append (re_var (pv 3)) (ra_cons (re_tup (ra_cons re_str (ra_cons re_non (ra_cons (re_var (pv 0)) (ra_cons (re_neg (re_var (pv 1))) ra_nil))))) ra_nil)))) rs_nil) ?_; refine rs_cons (rs_if (rt_isnt (re_var (pv 2)) re_non) (by exact rs_one (rs_expr (re_m w_append PySem.F.plainAttrs_list PySem.F.slot_list_append PySem.F.type_list_append (re_var (pv 3)) (ra_cons (re_tup (ra_cons re_str (ra_cons (re_var (pv 0)) (ra_cons re_non (ra_cons (re_var (pv 2)) ra_nil))))) ra_nil)))) rs_nil) ?_; exact rs_one (rs_ret (re_callTy w_tuple rfl G.b_tuple bt_tuple (ra_cons (re_var (pv 3)) ra_nil))))
theorem e4 (G : Gb mg) (F : Fun K "stretch_tests" "stretch_tests" s4 f fd) (hm : mg "stretch_tests" = some (.ref f)) : Entry P w K mg base T 4 f4.name :=
  entry (D := f4) rfl F sc4 hm (fun _ _ _ _ _ _ us hl => match us, hl with | [_, _, _], _ => rfl) fun k cdv A outer s H E C => d4 G C
theorem sc5 : FnScope f5.N f5.ps (defScope s5) := ⟨rfl, rfl, rfl, by decide +kernel, rfl, by decide +kernel, by decide +kernel⟩
theorem d5 (G : Gb mg) {k : Nat} {cdv : Value} {A : Around} {outer : List Env} {s : Shared} {H : Hp} {E : XK} (C : Ctx (cxOf CX0 P w K mg base f5.N "joined" (defScope s5) f cdv A outer s H E).nox T k) :
    PSs (cxOf CX0 P w K mg base f5.N "joined" (defScope s5) f cdv A outer s H E).nox (defBody s5) (RdS K (b_joined (runT T k))) :=
  (by refine rs_cons (rs_set (i := 2) sc5.nd rfl (by first | exact Or.inl rfl | exact Or.inr rfl) (re_tr (rn_lst ra_nil))) ?_; refine rs_cons (rs_for PassesOwn.never C.calm (ri_seq (re_var (pv 0))) (rg_tup C.calm (rgs_cons (rg_name (i := 3) sc5.nd rfl (by first | exact Or.inl rfl | exact Or.inr rfl)) (rgs_cons (rg_name (i := 4) sc5.nd rfl (by first | exact Or.inl rfl | exact Or.inr rfl)) rgs_nil))) (by exact rs_one (rs_for PassesOwn.never C.calm (ri_seq (re_var (pv 1))) (rg_tup C.calm (rgs_cons (rg_name (i := 5) sc5.nd rfl (by first | exact Or.inl rfl | exact Or.inr rfl)) (rgs_cons (rg_name (i := 6) sc5.nd rfl (by first | exact Or.inl rfl | exact Or.inr rfl)) rgs_nil))) (by exact rs_one (rs_expr (re_m w_append PySem.F.plainAttrs_list PySem.F.slot_list_append PySem.F.type_list_append (re_var (pv 2)) (ra_cons (re_tup (ra_cons (re_add (re_var (pv 3)) (re_var (pv 5))) (ra_cons (re_add (re_var (pv 4)) (re_var (pv 6))) ra_nil))) ra_nil))))))) ?_; exact rs_one (rs_ret (re_var (pv 2))))
theorem e5 (G : Gb mg) (F : Fun K "joined" "joined" s5 f fd) (hm : mg "joined" = some (.ref f)) : Entry P w K mg base T 5 f5.name :=
  entry (D := f5) rfl F sc5 hm (fun _ _ _ _ _ _ us hl => match us, hl with | [_, _], _ => rfl) fun k cdv A outer s H E C => d5 G C
theorem sc6 : FnScope f6.N f6.ps (defScope s6) := ⟨rfl, rfl, rfl, by decide +kernel, rfl, by decide +kernel, by decide +kernel⟩
theorem d6 (G : Gb mg) {k : Nat} {cdv : Value} {A : Around} {outer : List Env} {s : Shared} {H : Hp} {E : XK} (C : Ctx (cxOf CX0 P w K mg base f6.N "coming_fields" (defScope s6) f cdv A outer s H E).nox T k) :
    PSs (cxOf CX0 P w K mg base f6.N "coming_fields" (defScope s6) f cdv A outer s H E).nox (defBody s6) (RdS K (b_coming_fields (runT T k))) :=
  (by refine rs_cons (rs_set (i := 3) sc6.nd rfl (by first | exact Or.inl rfl | exact Or.inr rfl) (re_dt rd_new)) ?_; refine rs_cons (rs_for PassesOwn.never C.calm (ri_seq (re_callV true C 3 rfl rfl rfl (ra_cons (re_var (pv 0)) (ra_cons (re_var (pv 2)) ra_nil)))) (rg_tup C.calm (rgs_cons (rg_name (i := 4) sc6.nd rfl (by first | exact Or.inl rfl | exact Or.inr rfl)) (rgs_cons (rg_name (i := 5) sc6.nd rfl (by first | exact Or.inl rfl | exact Or.inr rfl)) rgs_nil))) (by exact rs_one (rs_if (rt_val (re_callB (w_all C.calm) rfl G.b_all bt_all (ra_cons (re_ro (rn_lc (own := [("field", 6)]) C.calm sc6.nd (ri_seq (re_var (pv 5))) (by kernel_rfl) (fun s0 H0 c0 cl0 fp0 => (rg_name (i := 6) sc6.nd rfl (by first | exact Or.inl rfl | exact Or.inr rfl))) (fun s0 H0 c0 cl0 fp0 => rts_nil) (fun s0 H0 c0 cl0 fp0 => (re_in (C.blk s0 H0 _ _ fp0).hu (re_var (pv 6)) (re_var (pv 1)))))) ra_nil))) (by exact rs_one (rs_asg (re_var (pv 5)) (rg_sub C.hu (re_var (pv 3)) (re_var (pv 4))))) rs_nil))) ?_; exact rs_one (rs_ret (re_var (pv 3))))
theorem e6 (G : Gb mg) (F : Fun K "coming_fields" "coming_fields" s6 f fd) (hm : mg "coming_fields" = some (.ref f)) : Entry P w K mg base T 6 f6.name :=
  entry (D := f6) rfl F sc6 hm (fun _ _ _ _ _ _ us hl => match us, hl with | [_, _, _], _ => rfl) fun k cdv A outer s H E C => d6 G C
theorem sc7 : FnScope f7.N f7.ps (defScope s7) := ⟨rfl, rfl, rfl, by decide +kernel, rfl, by decide +kernel, by decide +kernel⟩
theorem d7 (G : Gb mg) {k : Nat} {cdv : Value} {A : Around} {outer : List Env} {s : Shared} {H : Hp} {E : XK} (C : Ctx (cxOf CX0 P w K mg base f7.N "make_lines" (defScope s7) f cdv A outer s H E).nox T k) :
    PSs (cxOf CX0 P w K mg base f7.N "make_lines" (defScope s7) f cdv A outer s H E).nox (defBody s7) (RdS K (b_make_lines (runT T k))) :=
  (by refine rs_cons (rs_set (i := 5) sc7.nd rfl (by first | exact Or.inl rfl | exact Or.inr rfl) (re_ix C.hu (re_var (pv 3)) re_int)) ?_; refine rs_cons (rs_set (i := 6) sc7.nd rfl (by first | exact Or.inl rfl | exact Or.inr rfl) (re_callV true C 6 rfl rfl rfl (ra_cons (re_var (pv 0)) (ra_cons (re_var (pv 1)) (ra_cons (re_var (pv 2)) ra_nil))))) ?_; refine rs_cons (rs_if (rt_nin C.hu (re_var (pv 5)) (re_var (pv 6))) (by exact rs_one (rs_ret (re_ro (rn_lst ra_nil)))) rs_nil) ?_; refine rs_cons (rs_set (i := 7) sc7.nd rfl (by first | exact Or.inl rfl | exact Or.inr rfl) (re_tr (rn_lst ra_nil))) ?_; refine rs_cons (rs_for PassesOwn.never C.calm (ri_enum rfl G.b_enumerate (re_ix C.hu (re_var (pv 6)) (re_var (pv 5)))) (rg_tup C.calm (rgs_cons (rg_name (i := 8) sc7.nd rfl (by first | exact Or.inl rfl | exact Or.inr rfl)) (rgs_cons (rg_name (i := 9) sc7.nd rfl (by first | exact Or.inl rfl | exact Or.inr rfl)) rgs_nil))) (by exact rs_one (rs_expr (re_m w_append PySem.F.plainAttrs_list PySem.F.slot_list_append PySem.F.type_list_append (re_var (pv 7)) (ra_cons (re_callV true C 8 rfl rfl rfl (ra_cons (re_var (pv 0)) (ra_cons (re_var (pv 1)) (ra_cons (re_var (pv 9)) (ra_cons (re_ix C.hu (re_ix C.hu (re_var (pv 3)) re_int) (re_var (pv 8))) (ra_cons (re_add (re_var (pv 4)) (re_tup (ra_cons (re_tup (ra_cons (re_var (pv 5)) (ra_cons (re_var (pv 8)) ra_nil))) ra_nil))) ra_nil)))))) ra_nil))))) ?_; refine rs_cons (rs_if (rt_in C.hu (re_ro (rn_lst ra_nil)) (re_var (pv 7))) (by exact rs_one (rs_ret (re_ro (rn_lst ra_nil)))) rs_nil) ?_; refine rs_cons (rs_set (i := 10) sc7.nd rfl (by first | exact Or.inl rfl | exact Or.inr rfl) (re_ro (rn_lst (ra_cons (re_tup (ra_cons (re_tup ra_nil) (ra_cons (re_tup ra_nil) ra_nil))) ra_nil)))) ?_; refine rs_cons (rs_if (rt_gt (re_callB w_len rfl G.b_len bt_len (ra_cons (re_var (pv 6)) ra_nil)) re_int) (by exact rs_one (rs_set (i := 10) sc7.nd rfl (by first | exact Or.inl rfl | exact Or.inr rfl) (re_ro (rn_lst (ra_cons (re_tup (ra_cons (re_tup (ra_cons (re_tup (ra_cons re_str (ra_cons (re_var (pv 4)) (ra_cons (re_var (pv 5)) ra_nil)))) ra_nil)) (ra_cons (re_tup ra_nil) ra_nil))) ra_nil))))) rs_nil) ?_; refine rs_cons (rs_for PassesOwn.never C.calm (ri_seq (re_var (pv 7))) (rg_name (i := 11) sc7.nd rfl (by first | exact Or.inl rfl | exact Or.inr rfl)) (by exact rs_one (rs_set (i := 10) sc7.nd rfl (by first | exact Or.inl rfl | exact Or.inr rfl) (re_callV true C 5 rfl rfl rfl (ra_cons (re_var (pv 10)) (ra_cons (re_var (pv 11)) ra_nil)))))) ?_; exact rs_one (rs_ret (re_var (pv 10))))
theorem e7 (G : Gb mg) (F : Fun K "make_lines" "make_lines" s7 f fd) (hm : mg "make_lines" = some (.ref f)) : Entry P w K mg base T 7 f7.name :=
  entry (D := f7) rfl F sc7 hm (fun _ _ _ _ _ _ us hl => match us, hl with | [_, _, _, _, _], _ => rfl) fun k cdv A outer s H E C => d7 G C
theorem sc8 : FnScope f8.N f8.ps (defScope s8) := ⟨rfl, rfl, rfl, by decide +kernel, rfl, by decide +kernel, by decide +kernel⟩
theorem d8 (G : Gb mg) {k : Nat} {cdv : Value} {A : Around} {outer : List Env} {s : Shared} {H : Hp} {E : XK} (C : Ctx (cxOf CX0 P w K mg base f8.N "lined" (defScope s8) f cdv A outer s H E).nox T k) :
    PSs (cxOf CX0 P w K mg base f8.N "lined" (defScope s8) f cdv A outer s H E).nox (defBody s8) (RdS K (b_lined (runT T k))) :=
  (by refine rs_cons (rs_if (rt_eq C.hu (re_ix C.hu (re_var (pv 3)) re_int) re_str) (by exact rs_one (rs_ret (re_ro (rn_lst (ra_cons (re_tup (ra_cons (re_tup ra_nil) (ra_cons (re_tup ra_nil) ra_nil))) ra_nil))))) rs_nil) ?_; refine rs_cons (rs_if (rt_eq C.hu (re_ix C.hu (re_var (pv 3)) re_int) re_str) (by exact rs_one (rs_ret (re_ro (rn_lst (ra_cons (re_tup (ra_cons (re_callV true C 4 rfl rfl rfl (ra_cons (re_var (pv 4)) (ra_cons (re_ix C.hu (re_var (pv 3)) re_int) (ra_cons (re_ix C.hu (re_var (pv 3)) re_int) ra_nil)))) (ra_cons (re_tup ra_nil) ra_nil))) ra_nil))))) rs_nil) ?_; refine rs_cons (rs_if (rt_eq C.hu (re_ix C.hu (re_var (pv 3)) re_int) re_str) (by exact rs_one (rs_ret (re_callV true C 7 rfl rfl rfl (ra_cons (re_var (pv 0)) (ra_cons (re_var (pv 1)) (ra_cons (re_var (pv 2)) (ra_cons (re_var (pv 3)) (ra_cons (re_var (pv 4)) ra_nil)))))))) rs_nil) ?_; refine rs_cons (rs_if (rt_eq C.hu (re_ix C.hu (re_var (pv 3)) re_int) re_str) (by exact rs_one (rs_ret (re_callV true C 5 rfl rfl rfl (ra_cons (re_ro (rn_lst (ra_cons (re_tup (ra_cons (re_tup ra_nil) (ra_cons (re_tup (ra_cons (re_tup (ra_cons (re_ix C.hu (re_var (pv 3)) re_int) (ra_cons (re_var (pv 4)) ra_nil))) ra_nil)) ra_nil))) ra_nil))) (ra_cons (re_callV true C 8 rfl rfl rfl (ra_cons (re_var (pv 0)) (ra_cons (re_var (pv 1)) (ra_cons (re_var (pv 2)) (ra_cons (re_ix C.hu (re_var (pv 3)) re_int) (ra_cons (re_var (pv 4)) ra_nil)))))) ra_nil))))) rs_nil) ?_; refine rs_cons (rs_set (i := 5) sc8.nd rfl (by first | exact Or.inl rfl | exact Or.inr rfl) (re_tr (rn_lst ra_nil))) ?_; refine rs_cons (rs_for PassesOwn.never C.calm (ri_seq (re_ix C.hu (re_var (pv 3)) re_int)) (rg_name (i := 6) sc8.nd rfl (by first | exact Or.inl rfl | exact Or.inr rfl)) (by exact rs_one (rs_expr (re_m w_extend PySem.F.plainAttrs_list PySem.F.slot_list_extend PySem.F.type_list_extend (re_var (pv 5)) (ra_cons (re_callV true C 8 rfl rfl rfl (ra_cons (re_var (pv 0)) (ra_cons (re_var (pv 1)) (ra_cons (re_var (pv 2)) (ra_cons (re_var (pv 6)) (ra_cons (re_var (pv 4)) ra_nil)))))) ra_nil))))) ?_; exact rs_one (rs_ret (re_var (pv 5))))
theorem e8 (G : Gb mg) (F : Fun K "lined" "lined" s8 f fd) (hm : mg "lined" = some (.ref f)) : Entry P w K mg base T 8 f8.name :=
  entry (D := f8) rfl F sc8 hm (fun _ _ _ _ _ _ us hl => match us, hl with | [_, _, _, _, _], _ => rfl) fun k cdv A outer s H E C => d8 G C
theorem sc9 : FnScope f9.N f9.ps (defScope s9) := ⟨rfl, rfl, rfl, by decide +kernel, rfl, by decide +kernel, by decide +kernel⟩
theorem d9 (G : Gb mg) {k : Nat} {cdv : Value} {A : Around} {outer : List Env} {s : Shared} {H : Hp} {E : XK} (C : Ctx (cxOf CX0 P w K mg base f9.N "lines_of" (defScope s9) f cdv A outer s H E).nox T k) :
    PSs (cxOf CX0 P w K mg base f9.N "lines_of" (defScope s9) f cdv A outer s H E).nox (defBody s9) (RdS K (b_lines_of (runT T k))) :=
  (by exact rs_one (rs_ret (re_callV true C 8 rfl rfl rfl (ra_cons (re_var (pv 0)) (ra_cons (re_callV true C 2 rfl rfl rfl (ra_cons (re_var (pv 0)) ra_nil)) (ra_cons (re_var (pv 1)) (ra_cons (re_var (pv 2)) (ra_cons (re_var (pv 3)) ra_nil))))))))
theorem e9 (G : Gb mg) (F : Fun K "lines_of" "lines_of" s9 f fd) (hm : mg "lines_of" = some (.ref f)) : Entry P w K mg base T 9 f9.name :=
  entry (D := f9) rfl F sc9 hm (fun _ _ _ _ _ _ us hl => match us, hl with | [_, _, _, _], _ => rfl) fun k cdv A outer s H E C => d9 G C
theorem sc10 : FnScope f10.N f10.ps (defScope s10) := ⟨rfl, rfl, rfl, by decide +kernel, rfl, by decide +kernel, by decide +kernel⟩
theorem d10 (G : Gb mg) {k : Nat} {cdv : Value} {A : Around} {outer : List Env} {s : Shared} {H : Hp} {E : XK} (C : Ctx (cxOf CX0 P w K mg base f10.N "_law_cell" (defScope s10) f cdv A outer s H E).nox T k) :
    PSs (cxOf CX0 P w K mg base f10.N "_law_cell" (defScope s10) f cdv A outer s H E).nox (defBody s10) (RdS K (b_law_cell (runT T k))) :=
  (by refine rs_cons (rs_if (rt_lt (re_var (pv 1)) (re_callB w_len rfl G.b_len bt_len (ra_cons (re_var (pv 0)) ra_nil))) (by exact rs_one (rs_ret (re_ix C.hu (re_var (pv 0)) (re_var (pv 1))))) rs_nil) ?_; exact rs_one (rs_ret re_int))
theorem e10 (G : Gb mg) (F : Fun K "_law_cell" "_law_cell" s10 f fd) (hm : mg "_law_cell" = some (.ref f)) : Entry P w K mg base T 10 f10.name :=
  entry (D := f10) rfl F sc10 hm (fun _ _ _ _ _ _ us hl => match us, hl with | [_, _], _ => rfl) fun k cdv A outer s H E C => d10 G C
theorem sc11 : FnScope f11.N f11.ps (defScope s11) := ⟨rfl, rfl, rfl, by decide +kernel, rfl, by decide +kernel, by decide +kernel⟩
theorem d11 (G : Gb mg) {k : Nat} {cdv : Value} {A : Around} {outer : List Env} {s : Shared} {H : Hp} {E : XK} (C : Ctx (cxOf CX0 P w K mg base f11.N "_law_next" (defScope s11) f cdv A outer s H E).nox T k) :
    PSs (cxOf CX0 P w K mg base f11.N "_law_next" (defScope s11) f cdv A outer s H E).nox (defBody s11) (RdS K (b_law_next (runT T k))) :=
  (by refine rs_cons (rs_if (rt_gt (re_ix C.hu (re_var (pv 0)) re_int) re_int) (by refine rs_cons (rs_set (i := 2) sc11.nd rfl (by first | exact Or.inl rfl | exact Or.inr rfl) (re_mod (re_ix C.hu (re_var (pv 0)) re_int) (re_var (pv 1)))) ?_; refine rs_cons (rs_asg (re_div (re_ix C.hu (re_var (pv 0)) re_int) (re_var (pv 1))) (rg_sub C.hu (re_var (pv 0)) re_int)) ?_; exact rs_one (rs_ret (re_var (pv 2)))) rs_nil) ?_; refine rs_cons (rs_asg (re_add (re_ix C.hu (re_var (pv 0)) re_int) re_int) (rg_sub C.hu (re_var (pv 0)) re_int)) ?_; refine rs_cons (rs_set (i := 3) sc11.nd rfl (by first | exact Or.inl rfl | exact Or.inr rfl) (re_mod (re_add (re_ix C.hu (re_var (pv 0)) re_int) (re_mul re_int (re_ix C.hu (re_var (pv 0)) re_int))) re_int)) ?_; refine rs_cons (rs_set (i := 4) sc11.nd rfl (by first | exact Or.inl rfl | exact Or.inr rfl) (re_mod (re_mul (re_add (re_var (pv 3)) re_int) (re_add (re_var (pv 3)) re_int)) re_int)) ?_; exact rs_one (rs_ret (re_mod (re_div (re_mod (re_mul (re_var (pv 4)) (re_var (pv 4))) re_int) re_int) (re_var (pv 1)))))
theorem e11 (G : Gb mg) (F : Fun K "_law_next" "_law_next" s11 f fd) (hm : mg "_law_next" = some (.ref f)) : Entry P w K mg base T 11 f11.name :=
  entry (D := f11) rfl F sc11 hm (fun _ _ _ _ _ _ us hl => match us, hl with | [_, _], _ => rfl) fun k cdv A outer s H E C => d11 G C
theorem sc12 : FnScope f12.N f12.ps (defScope s12) := ⟨rfl, rfl, rfl, by decide +kernel, rfl, by decide +kernel, by decide +kernel⟩
theorem d12 (G : Gb mg) {k : Nat} {cdv : Value} {A : Around} {outer : List Env} {s : Shared} {H : Hp} {E : XK} (C : Ctx (cxOf CX0 P w K mg base f12.N "_law_names" (defScope s12) f cdv A outer s H E).nox T k) :
    PSs (cxOf CX0 P w K mg base f12.N "_law_names" (defScope s12) f cdv A outer s H E).nox (defBody s12) (RdS K (b_law_names (runT T k))) :=
  (by refine rs_cons (rs_set (i := 2) sc12.nd rfl (by first | exact Or.inl rfl | exact Or.inr rfl) re_str) ?_; refine rs_cons (rs_set (i := 3) sc12.nd rfl (by first | exact Or.inl rfl | exact Or.inr rfl) (re_m w_join PySem.F.plainAttrs_str PySem.F.slot_str_join PySem.F.type_str_join re_str (ra_cons (re_ro (rn_lc (own := [("k", 8)]) C.calm sc12.nd (ri_range1 rfl G.b_range (re_callV true C 11 rfl rfl rfl (ra_cons (re_var (pv 0)) (ra_cons re_int ra_nil)))) (by kernel_rfl) (fun s0 H0 c0 cl0 fp0 => (rg_name (i := 8) sc12.nd rfl (by first | exact Or.inl rfl | exact Or.inr rfl))) (fun s0 H0 c0 cl0 fp0 => rts_nil) (fun s0 H0 c0 cl0 fp0 => (re_ix (C.blk s0 H0 _ _ fp0).hu (re_var (pv 2)) (re_callV true (C.blk s0 H0 _ _ fp0) 11 rfl rfl rfl (ra_cons (re_var (pv 0)) (ra_cons re_int ra_nil))))))) ra_nil))) ?_; refine rs_cons (rs_set (i := 4) sc12.nd rfl (by first | exact Or.inl rfl | exact Or.inr rfl) (re_callV true C 11 rfl rfl rfl (ra_cons (re_var (pv 0)) (ra_cons (re_add (re_callB w_len rfl G.b_len bt_len (ra_cons (re_var (pv 3)) ra_nil)) re_int) ra_nil)))) ?_; refine rs_cons (rs_set (i := 5) sc12.nd rfl (by first | exact Or.inl rfl | exact Or.inr rfl) (re_callV true C 11 rfl rfl rfl (ra_cons (re_var (pv 0)) (ra_cons re_int ra_nil)))) ?_; refine rs_cons (rs_set (i := 6) sc12.nd rfl (by first | exact Or.inl rfl | exact Or.inr rfl) (re_callV true C 11 rfl rfl rfl (ra_cons (re_var (pv 0)) (ra_cons re_int ra_nil)))) ?_; refine rs_cons (rs_set (i := 7) sc12.nd rfl (by first | exact Or.inl rfl | exact Or.inr rfl) (re_tr (rn_lst ra_nil))) ?_; refine rs_cons (rs_for PassesOwn.never C.calm (ri_range1 rfl G.b_range (re_var (pv 1))) (rg_name (i := 8) sc12.nd rfl (by first | exact Or.inl rfl | exact Or.inr rfl)) (by refine rs_cons (rs_set (i := 9) sc12.nd rfl (by first | exact Or.inl rfl | exact Or.inr rfl) (re_add (re_add (re_slice (re_var (pv 3)) ro_none (ro_some (re_var (pv 4)))) (re_ix C.hu (re_var (pv 2)) (re_mod (re_add (re_var (pv 5)) (re_mul re_int (re_var (pv 8)))) re_int))) (re_slice (re_var (pv 3)) (ro_some (re_var (pv 4))) ro_none))) ?_; refine rs_cons (rs_if (PW.pt (rw_and (rt_eq C.hu (re_var (pv 6)) re_int) (rw_and1 (rt_eq C.hu (re_mod (re_var (pv 8)) re_int) re_int)))) (by exact rs_one (rs_set (i := 9) sc12.nd rfl (by first | exact Or.inl rfl | exact Or.inr rfl) (re_add (re_var (pv 9)) (re_ix C.hu (re_var (pv 2)) (re_mod (re_add (re_var (pv 5)) (re_var (pv 8))) re_int))))) rs_nil) ?_; exact rs_one (rs_expr (re_m w_append PySem.F.plainAttrs_list PySem.F.slot_list_append PySem.F.type_list_append (re_var (pv 7)) (ra_cons (re_var (pv 9)) ra_nil))))) ?_; exact rs_one (rs_ret (re_var (pv 7))))
theorem e12 (G : Gb mg) (F : Fun K "_law_names" "_law_names" s12 f fd) (hm : mg "_law_names" = some (.ref f)) : Entry P w K mg base T 12 f12.name :=
  entry (D := f12) rfl F sc12 hm (fun _ _ _ _ _ _ us hl => match us, hl with | [_, _], _ => rfl) fun k cdv A outer s H E C => d12 G C
theorem sc13 : FnScope f13.N f13.ps (defScope s13) := ⟨rfl, rfl, rfl, by decide +kernel, rfl, by decide +kernel, by decide +kernel⟩
theorem d13 (G : Gb mg) {k : Nat} {cdv : Value} {A : Around} {outer : List Env} {s : Shared} {H : Hp} {E : XK} (C : Ctx (cxOf CX0 P w K mg base f13.N "_law_book" (defScope s13) f cdv A outer s H E).nox T k) :
    PSs (cxOf CX0 P w K mg base f13.N "_law_book" (defScope s13) f cdv A outer s H E).nox (defBody s13) (RdS K (b_law_book (runT T k))) :=
  (by refine rs_cons (rs_set (i := 1) sc13.nd rfl (by first | exact Or.inl rfl | exact Or.inr rfl) (re_ix C.hu (re_ro (rn_lst (ra_cons re_int (ra_cons re_int (ra_cons re_int (ra_cons re_int (ra_cons re_int (ra_cons re_int (ra_cons re_int (ra_cons re_int ra_nil)))))))))) (re_callV true C 11 rfl rfl rfl (ra_cons (re_var (pv 0)) (ra_cons re_int ra_nil))))) ?_; refine rs_cons (rs_set (i := 2) sc13.nd rfl (by first | exact Or.inl rfl | exact Or.inr rfl) (re_ro (rn_lc (own := [("name", 12)]) C.calm sc13.nd (ri_seq (re_callV true C 12 rfl rfl rfl (ra_cons (re_var (pv 0)) (ra_cons (re_var (pv 1)) ra_nil)))) (by kernel_rfl) (fun s0 H0 c0 cl0 fp0 => (rg_name (i := 12) sc13.nd rfl (by first | exact Or.inl rfl | exact Or.inr rfl))) (fun s0 H0 c0 cl0 fp0 => rts_nil) (fun s0 H0 c0 cl0 fp0 => (re_ix (C.blk s0 H0 _ _ fp0).hu (re_ro (rn_lst (ra_cons (re_var (pv 12)) (ra_cons re_str ra_nil)))) (re_callTy w_int rfl G.b_int bt_int (ra_cons (re_eq (C.blk s0 H0 _ _ fp0).hu (re_var (pv 12)) re_str) ra_nil))))))) ?_; refine rs_cons (rs_set (i := 3) sc13.nd rfl (by first | exact Or.inl rfl | exact Or.inr rfl) (re_callV false C 12 rfl rfl rfl (ra_cons (re_var (pv 0)) (ra_cons re_int ra_nil)))) ?_; refine rs_cons (rs_set (i := 4) sc13.nd rfl (by first | exact Or.inl rfl | exact Or.inr rfl) (re_tr (rn_lst ra_nil))) ?_; refine rs_cons (rs_for PassesOwn.never C.calm (ri_enum rfl G.b_enumerate (re_var (pv 2))) (rg_tup C.calm (rgs_cons (rg_name (i := 5) sc13.nd rfl (by first | exact Or.inl rfl | exact Or.inr rfl)) (rgs_cons (rg_name (i := 6) sc13.nd rfl (by first | exact Or.inl rfl | exact Or.inr rfl)) rgs_nil))) (by refine rs_cons (rs_set (i := 7) sc13.nd rfl (by first | exact Or.inl rfl | exact Or.inr rfl) (re_callB (w_min C.calm) rfl G.b_min bt_min (ra_cons (re_ix C.hu (re_ro (rn_lst (ra_cons re_int (ra_cons re_int (ra_cons re_int (ra_cons re_int (ra_cons re_int (ra_cons re_int (ra_cons re_int (ra_cons re_int ra_nil)))))))))) (re_callV true C 11 rfl rfl rfl (ra_cons (re_var (pv 0)) (ra_cons re_int ra_nil)))) (ra_cons (re_sub (re_callB w_len rfl G.b_len bt_len (ra_cons (re_var (pv 3)) ra_nil)) (re_sub (re_sub (re_var (pv 1)) re_int) (re_var (pv 5)))) ra_nil)))) ?_; refine rs_cons (rs_set (i := 8) sc13.nd rfl (by first | exact Or.inl rfl | exact Or.inr rfl) (re_tr (rn_lst ra_nil))) ?_; refine rs_cons (rs_for PassesOwn.never C.calm (ri_range1 rfl G.b_range (re_var (pv 7))) (rg_name (i := 9) sc13.nd rfl (by first | exact Or.inl rfl | exact Or.inr rfl)) (by refine rs_cons (rs_set (i := 10) sc13.nd rfl (by first | exact Or.inl rfl | exact Or.inr rfl) (re_callB (w_min C.calm) rfl G.b_min bt_min (ra_cons (re_ix C.hu (re_ro (rn_lst (ra_cons re_int (ra_cons re_int ra_nil)))) (re_callTy w_int rfl G.b_int bt_int (ra_cons (re_gt (re_var (pv 1)) re_int) ra_nil))) (ra_cons (re_ix C.hu (re_ro (rn_lst (ra_cons re_int (ra_cons re_int (ra_cons re_int (ra_cons re_int (ra_cons re_int (ra_cons re_int (ra_cons re_int (ra_cons re_int ra_nil)))))))))) (re_callV true C 11 rfl rfl rfl (ra_cons (re_var (pv 0)) (ra_cons re_int ra_nil)))) ra_nil)))) ?_; refine rs_cons (rs_setLc (i := 11) (own := [("place", 13)]) (fun _ _ _ => ro_rd) C.calm sc13.nd rfl rfl (sw_true rfl rfl rfl (by decide +kernel)) (ri_range1 rfl G.b_range (re_var (pv 10))) (by kernel_rfl) (fun s0 H0 c0 cl0 fp0 => (rg_name (i := 13) sc13.nd rfl (by first | exact Or.inl rfl | exact Or.inr rfl))) (fun s0 H0 c0 cl0 fp0 => rts_nil) (fun s0 H0 c0 cl0 fp0 => (re_ix (C.blk s0 H0 _ _ fp0).hu (re_add (re_var (pv 2)) (re_ro (rn_lst (ra_cons re_str (ra_cons re_str ra_nil))))) (re_callV true (C.blk s0 H0 _ _ fp0) 11 rfl rfl rfl (ra_cons (re_var (pv 0)) (ra_cons (re_add (re_var (pv 1)) re_int) ra_nil)))))) ?_; exact rs_one (rs_expr (re_m w_append PySem.F.plainAttrs_list PySem.F.slot_list_append PySem.F.type_list_append (re_var (pv 8)) (ra_cons (re_tup (ra_cons (re_m w_popAt PySem.F.plainAttrs_list PySem.F.slot_list_pop PySem.F.type_list_pop (re_var (pv 3)) (ra_cons re_int ra_nil)) (ra_cons (re_callTy w_tuple rfl G.b_tuple bt_tuple (ra_cons (re_var (pv 11)) ra_nil)) ra_nil))) ra_nil))))) ?_; exact rs_one (rs_expr (re_m w_append PySem.F.plainAttrs_list PySem.F.slot_list_append PySem.F.type_list_append (re_var (pv 4)) (ra_cons (re_tup (ra_cons (re_var (pv 6)) (ra_cons (re_callTy w_tuple rfl G.b_tuple bt_tuple (ra_cons (re_var (pv 8)) ra_nil)) ra_nil))) ra_nil))))) ?_; exact rs_one (rs_ret (re_callTy w_tuple rfl G.b_tuple bt_tuple (ra_cons (re_var (pv 4)) ra_nil))))
theorem e13 (G : Gb mg) (F : Fun K "_law_book" "_law_book" s13 f fd) (hm : mg "_law_book" = some (.ref f)) : Entry P w K mg base T 13 f13.name :=
  entry (D := f13) rfl F sc13 hm (fun _ _ _ _ _ _ us hl => match us, hl with | [_], _ => rfl) fun k cdv A outer s H E C => d13 G C
theorem sc14 : FnScope f14.N f14.ps (defScope s14) := ⟨rfl, rfl, rfl, by decide +kernel, rfl, by decide +kernel, by decide +kernel⟩
theorem d14 (G : Gb mg) {k : Nat} {cdv : Value} {A : Around} {outer : List Env} {s : Shared} {H : Hp} {E : XK} (C : Ctx (cxOf CX0 P w K mg base f14.N "_law_plain" (defScope s14) f cdv A outer s H E).nox T k) :
    PSs (cxOf CX0 P w K mg base f14.N "_law_plain" (defScope s14) f cdv A outer s H E).nox (defBody s14) (RdS K (b_law_plain (runT T k))) :=
  (by refine rs_cons (rs_set (i := 1) sc14.nd rfl (by first | exact Or.inl rfl | exact Or.inr rfl) (re_dt (rd_disp (rpp_cons re_str re_int rpp_nil)))) ?_; refine rs_cons (rs_for PassesOwn.never C.calm (ri_range1 rfl G.b_range (re_callB w_len rfl G.b_len bt_len (ra_cons (re_var (pv 0)) ra_nil))) (rg_name (i := 2) sc14.nd rfl (by first | exact Or.inl rfl | exact Or.inr rfl)) (by refine rs_cons (rs_set (i := 3) sc14.nd rfl (by first | exact Or.inl rfl | exact Or.inr rfl) (re_dt rd_new)) ?_; refine rs_cons (rs_for PassesOwn.never C.calm (ri_seq (re_var (pv 0))) (rg_tup C.calm (rgs_cons (rg_name (i := 4) sc14.nd rfl (by first | exact Or.inl rfl | exact Or.inr rfl)) (rgs_cons (rg_name (i := 5) sc14.nd rfl (by first | exact Or.inl rfl | exact Or.inr rfl)) rgs_nil))) (by exact rs_one (rs_for PassesOwn.never C.calm (ri_seq (re_var (pv 5))) (rg_tup C.calm (rgs_cons (rg_name (i := 6) sc14.nd rfl (by first | exact Or.inl rfl | exact Or.inr rfl)) (rgs_cons (rg_name (i := 7) sc14.nd rfl (by first | exact Or.inl rfl | exact Or.inr rfl)) rgs_nil))) (by exact rs_one (rs_if (PW.pt (rw_and (rt_nin C.hu (re_var (pv 4)) (re_var (pv 1))) (rw_and (rt_nin C.hu (re_var (pv 4)) (re_var (pv 3))) (rw_and1 (rt_val (re_callB (w_all C.calm) rfl G.b_all bt_all (ra_cons (re_ro (rn_lc (own := [("field", 8)]) C.calm sc14.nd (ri_seq (re_var (pv 7))) (by kernel_rfl) (fun s0 H0 c0 cl0 fp0 => (rg_name (i := 8) sc14.nd rfl (by first | exact Or.inl rfl | exact Or.inr rfl))) (fun s0 H0 c0 cl0 fp0 => rts_nil) (fun s0 H0 c0 cl0 fp0 => (re_in (C.blk s0 H0 _ _ fp0).hu (re_var (pv 8)) (re_var (pv 1)))))) ra_nil))))))) (by exact rs_one (rs_asg (re_add (re_tup (ra_cons (re_var (pv 6)) ra_nil)) (re_callTy w_tuple rfl G.b_tuple bt_tuple (ra_cons (re_ro (rn_lc (own := [("field", 8)]) C.calm sc14.nd (ri_seq (re_var (pv 7))) (by kernel_rfl) (fun s0 H0 c0 cl0 fp0 => (rg_name (i := 8) sc14.nd rfl (by first | exact Or.inl rfl | exact Or.inr rfl))) (fun s0 H0 c0 cl0 fp0 => rts_nil) (fun s0 H0 c0 cl0 fp0 => (re_ix (C.blk s0 H0 _ _ fp0).hu (re_var (pv 1)) (re_var (pv 8)))))) ra_nil))) (rg_sub C.hu (re_var (pv 3)) (re_var (pv 4))))) rs_nil))))) ?_; exact rs_one (rs_expr (re_m w_update PySem.F.plainAttrs_dict PySem.F.slot_dict_update PySem.F.type_dict_update (re_var (pv 1)) (ra_cons (re_var (pv 3)) ra_nil))))) ?_; exact rs_one (rs_ret (re_var (pv 1))))
theorem e14 (G : Gb mg) (F : Fun K "_law_plain" "_law_plain" s14 f fd) (hm : mg "_law_plain" = some (.ref f)) : Entry P w K mg base T 14 f14.name :=
  entry (D := f14) rfl F sc14 hm (fun _ _ _ _ _ _ us hl => match us, hl with | [_], _ => rfl) fun k cdv A outer s H E C => d14 G C
theorem sc15 : FnScope f15.N f15.ps (defScope s15) := ⟨rfl, rfl, rfl, by decide +kernel, rfl, by decide +kernel, by decide +kernel⟩
theorem d15 (G : Gb mg) {k : Nat} {cdv : Value} {A : Around} {outer : List Env} {s : Shared} {H : Hp} {E : XK} (C : Ctx (cxOf CX0 P w K mg base f15.N "_law_coming" (defScope s15) f cdv A outer s H E).nox T k) :
    PSs (cxOf CX0 P w K mg base f15.N "_law_coming" (defScope s15) f cdv A outer s H E).nox (defBody s15) (RdS K (b_law_coming (runT T k))) :=
  (by exact rs_one (rs_ret (re_ro (rn_lc (own := [("make", 3)]) C.calm sc15.nd (ri_seq (re_get2 C.hu (re_do (rd_pairs C.calm rfl G.b_dict bt_dict (re_var (pv 0)))) (re_var (pv 2)) (re_tup ra_nil))) (by kernel_rfl) (fun s0 H0 c0 cl0 fp0 => (rg_name (i := 3) sc15.nd rfl (by first | exact Or.inl rfl | exact Or.inr rfl))) (fun s0 H0 c0 cl0 fp0 => (rts_one (rt_val (re_callB (w_all (C.blk s0 H0 _ _ fp0).calm) rfl G.b_all bt_all (ra_cons (re_ro (rn_lc (own := [("field", 4)]) (C.blk s0 H0 _ _ fp0).calm sc15.nd (ri_seq (re_ix (C.blk s0 H0 _ _ fp0).hu (re_var (pv 3)) re_int)) (by kernel_rfl) (fun s1 H1 c1 cl1 fp1 => (rg_name (i := 4) sc15.nd rfl (by first | exact Or.inl rfl | exact Or.inr rfl))) (fun s1 H1 c1 cl1 fp1 => rts_nil) (fun s1 H1 c1 cl1 fp1 => (re_in ((C.blk s0 H0 _ _ fp0).blk s1 H1 _ _ fp1).hu (re_var (pv 4)) (re_var (pv 1)))))) ra_nil))))) (fun s0 H0 c0 cl0 fp0 => (re_var (pv 3)))))))
theorem e15 (G : Gb mg) (F : Fun K "_law_coming" "_law_coming" s15 f fd) (hm : mg "_law_coming" = some (.ref f)) : Entry P w K mg base T 15 f15.name :=
  entry (D := f15) rfl F sc15 hm (fun _ _ _ _ _ _ us hl => match us, hl with | [_, _, _], _ => rfl) fun k cdv A outer s H E C => d15 G C
theorem sc16 : FnScope f16.N f16.ps (defScope s16) := ⟨rfl, rfl, rfl, by decide +kernel, rfl, by decide +kernel, by decide +kernel⟩
theorem d16 (G : Gb mg) {k : Nat} {cdv : Value} {A : Around} {outer : List Env} {s : Shared} {H : Hp} {E : XK} (C : Ctx (cxOf CX0 P w K mg base f16.N "_law_make_names" (defScope s16) f cdv A outer s H E).nox T k) :
    PSs (cxOf CX0 P w K mg base f16.N "_law_make_names" (defScope s16) f cdv A outer s H E).nox (defBody s16) (RdS K (b_law_make_names (runT T k))) :=
  (by refine rs_cons (rs_set (i := 1) sc16.nd rfl (by first | exact Or.inl rfl | exact Or.inr rfl) (re_tr (rn_lst ra_nil))) ?_; refine rs_cons (rs_for PassesOwn.never C.calm (ri_seq (re_var (pv 0))) (rg_tup C.calm (rgs_cons (rg_name (i := 2) sc16.nd rfl (by first | exact Or.inl rfl | exact Or.inr rfl)) (rgs_cons (rg_name (i := 3) sc16.nd rfl (by first | exact Or.inl rfl | exact Or.inr rfl)) rgs_nil))) (by exact rs_one (rs_expr (re_m w_extend PySem.F.plainAttrs_list PySem.F.slot_list_extend PySem.F.type_list_extend (re_var (pv 1)) (ra_cons (re_ro (rn_lc (own := [("make", 4)]) C.calm sc16.nd (ri_seq (re_var (pv 3))) (by kernel_rfl) (fun s0 H0 c0 cl0 fp0 => (rg_name (i := 4) sc16.nd rfl (by first | exact Or.inl rfl | exact Or.inr rfl))) (fun s0 H0 c0 cl0 fp0 => rts_nil) (fun s0 H0 c0 cl0 fp0 => (re_ix (C.blk s0 H0 _ _ fp0).hu (re_var (pv 4)) re_int)))) ra_nil))))) ?_; exact rs_one (rs_ret (re_var (pv 1))))
theorem e16 (G : Gb mg) (F : Fun K "_law_make_names" "_law_make_names" s16 f fd) (hm : mg "_law_make_names" = some (.ref f)) : Entry P w K mg base T 16 f16.name :=
  entry (D := f16) rfl F sc16 hm (fun _ _ _ _ _ _ us hl => match us, hl with | [_], _ => rfl) fun k cdv A outer s H E C => d16 G C
theorem sc17 : FnScope f17.N f17.ps (defScope s17) := ⟨rfl, rfl, rfl, by decide +kernel, rfl, by decide +kernel, by decide +kernel⟩
theorem d17 (G : Gb mg) {k : Nat} {cdv : Value} {A : Around} {outer : List Env} {s : Shared} {H : Hp} {E : XK} (C : Ctx (cxOf CX0 P w K mg base f17.N "_law_free" (defScope s17) f cdv A outer s H E).nox T k) :
    PSs (cxOf CX0 P w K mg base f17.N "_law_free" (defScope s17) f cdv A outer s H E).nox (defBody s17) (RdS K (b_law_free (runT T k))) :=
  (by refine rs_cons (rs_set (i := 1) sc17.nd rfl (by first | exact Or.inl rfl | exact Or.inr rfl) (re_callV true C 16 rfl rfl rfl (ra_cons (re_var (pv 0)) ra_nil))) ?_; exact rs_one (rs_ret (re_tr (rn_lc (own := [("name", 2)]) C.calm sc17.nd (ri_seq (re_ro (rn_lst (ra_cons re_str (ra_cons re_str (ra_cons re_str (ra_cons re_str (ra_cons re_str (ra_cons re_str (ra_cons re_str (ra_cons re_str ra_nil))))))))))) (by kernel_rfl) (fun s0 H0 c0 cl0 fp0 => (rg_name (i := 2) sc17.nd rfl (by first | exact Or.inl rfl | exact Or.inr rfl))) (fun s0 H0 c0 cl0 fp0 => (rts_one (rt_nin (C.blk s0 H0 _ _ fp0).hu (re_var (pv 2)) (re_var (pv 1))))) (fun s0 H0 c0 cl0 fp0 => (re_var (pv 2)))))))
theorem e17 (G : Gb mg) (F : Fun K "_law_free" "_law_free" s17 f fd) (hm : mg "_law_free" = some (.ref f)) : Entry P w K mg base T 17 f17.name :=
  entry (D := f17) rfl F sc17 hm (fun _ _ _ _ _ _ us hl => match us, hl with | [_], _ => rfl) fun k cdv A outer s H E C => d17 G C
theorem sc18 : FnScope f18.N f18.ps (defScope s18) := ⟨rfl, rfl, rfl, by decide +kernel, rfl, by decide +kernel, by decide +kernel⟩
theorem d18 (G : Gb mg) {k : Nat} {cdv : Value} {A : Around} {outer : List Env} {s : Shared} {H : Hp} {E : XK} (C : Ctx (cxOf CX0 P w K mg base f18.N "_law_number" (defScope s18) f cdv A outer s H E).nox T k) :
    PSs (cxOf CX0 P w K mg base f18.N "_law_number" (defScope s18) f cdv A outer s H E).nox (defBody s18) (RdS K (b_law_number (runT T k))) :=
  (by refine rs_cons (rs_set (i := 1) sc18.nd rfl (by first | exact Or.inl rfl | exact Or.inr rfl) (re_callV true C 11 rfl rfl rfl (ra_cons (re_var (pv 0)) (ra_cons re_int ra_nil)))) ?_; refine rs_cons (rs_if (rt_lt (re_var (pv 1)) re_int) (by exact rs_one (rs_ret (re_sub (re_callV true C 11 rfl rfl rfl (ra_cons (re_var (pv 0)) (ra_cons re_int ra_nil))) re_int))) rs_nil) ?_; refine rs_cons (rs_if (rt_eq C.hu (re_var (pv 1)) re_int) (by exact rs_one (rs_ret (re_sub (re_callV true C 11 rfl rfl rfl (ra_cons (re_var (pv 0)) (ra_cons re_int ra_nil))) re_int))) rs_nil) ?_; exact rs_one (rs_ret (re_sub (re_callV true C 11 rfl rfl rfl (ra_cons (re_var (pv 0)) (ra_cons (re_pow re_int re_int) ra_nil))) (re_callV true C 11 rfl rfl rfl (ra_cons (re_var (pv 0)) (ra_cons (re_pow re_int re_int) ra_nil))))))
theorem e18 (G : Gb mg) (F : Fun K "_law_number" "_law_number" s18 f fd) (hm : mg "_law_number" = some (.ref f)) : Entry P w K mg base T 18 f18.name :=
  entry (D := f18) rfl F sc18 hm (fun _ _ _ _ _ _ us hl => match us, hl with | [_], _ => rfl) fun k cdv A outer s H E C => d18 G C
theorem sc19 : FnScope f19.N f19.ps (defScope s19) := ⟨rfl, rfl, rfl, by decide +kernel, rfl, by decide +kernel, by decide +kernel⟩
theorem d19 (G : Gb mg) {k : Nat} {cdv : Value} {A : Around} {outer : List Env} {s : Shared} {H : Hp} {E : XK} (C : Ctx (cxOf CX0 P w K mg base f19.N "_law_stretch" (defScope s19) f cdv A outer s H E).nox T k) :
    PSs (cxOf CX0 P w K mg base f19.N "_law_stretch" (defScope s19) f cdv A outer s H E).nox (defBody s19) (RdS K (b_law_stretch (runT T k))) :=
  (by refine rs_cons (rs_set (i := 1) sc19.nd rfl (by first | exact Or.inl rfl | exact Or.inr rfl) (re_callV true C 18 rfl rfl rfl (ra_cons (re_var (pv 0)) ra_nil))) ?_; refine rs_cons (rs_set (i := 2) sc19.nd rfl (by first | exact Or.inl rfl | exact Or.inr rfl) (re_add (re_var (pv 1)) (re_ix C.hu (re_ro (rn_lst (ra_cons re_int (ra_cons re_int (ra_cons re_int (ra_cons re_int (ra_cons re_int (ra_cons (re_pow re_int re_int) ra_nil)))))))) (re_callV true C 11 rfl rfl rfl (ra_cons (re_var (pv 0)) (ra_cons re_int ra_nil)))))) ?_; refine rs_cons (rs_set (i := 3) sc19.nd rfl (by first | exact Or.inl rfl | exact Or.inr rfl) (re_callV true C 11 rfl rfl rfl (ra_cons (re_var (pv 0)) (ra_cons re_int ra_nil)))) ?_; exact rs_one (rs_ret (re_tup (ra_cons re_str (ra_cons (re_ix C.hu (re_ro (rn_lst (ra_cons (re_var (pv 1)) (ra_cons re_non ra_nil)))) (re_callTy w_int rfl G.b_int bt_int (ra_cons (re_lt (re_var (pv 3)) re_int) ra_nil))) (ra_cons (re_ix C.hu (re_ro (rn_lst (ra_cons (re_var (pv 2)) (ra_cons re_non ra_nil)))) (re_callTy w_int rfl G.b_int bt_int (ra_cons (re_eq C.hu (re_mod (re_var (pv 3)) re_int) re_int) ra_nil))) ra_nil))))))
theorem e19 (G : Gb mg) (F : Fun K "_law_stretch" "_law_stretch" s19 f fd) (hm : mg "_law_stretch" = some (.ref f)) : Entry P w K mg base T 19 f19.name :=
  entry (D := f19) rfl F sc19 hm (fun _ _ _ _ _ _ us hl => match us, hl with | [_], _ => rfl) fun k cdv A outer s H E C => d19 G C
theorem sc20 : FnScope f20.N f20.ps (defScope s20) := ⟨rfl, rfl, rfl, by decide +kernel, rfl, by decide +kernel, by decide +kernel⟩
theorem d20 (G : Gb mg) {k : Nat} {cdv : Value} {A : Around} {outer : List Env} {s : Shared} {H : Hp} {E : XK} (C : Ctx (cxOf CX0 P w K mg base f20.N "_law_shape" (defScope s20) f cdv A outer s H E).nox T k) :
    PSs (cxOf CX0 P w K mg base f20.N "_law_shape" (defScope s20) f cdv A outer s H E).nox (defBody s20) (RdS K (b_law_shape (runT T k))) :=
  (by refine rs_cons (rs_set (i := 6) sc20.nd rfl (by first | exact Or.inl rfl | exact Or.inr rfl) (re_callV true C 11 rfl rfl rfl (ra_cons (re_var (pv 2)) (ra_cons re_int ra_nil)))) ?_; refine rs_cons (rs_if (PW.pt (rw_or (rt_eq C.hu (re_var (pv 6)) re_int) (rw_or1 (rt_lt (re_var (pv 3)) re_int)))) (by exact rs_one (rs_ret (re_tup (ra_cons re_str ra_nil)))) rs_nil) ?_; refine rs_cons (rs_if (PW.pt (rw_and (rt_lt (re_var (pv 6)) re_int) (rw_and1 (rt_gt (re_callB w_len rfl G.b_len bt_len (ra_cons (re_var (pv 5)) ra_nil)) re_int)))) (by refine rs_cons (rs_set (i := 7) sc20.nd rfl (by first | exact Or.inl rfl | exact Or.inr rfl) (re_m w_popAt PySem.F.plainAttrs_list PySem.F.slot_list_pop PySem.F.type_list_pop (re_var (pv 5)) (ra_cons re_int ra_nil))) ?_; exact rs_one (rs_ret (re_tup (ra_cons re_str (ra_cons (re_var (pv 7)) (ra_cons (re_callV true C 20 rfl rfl rfl (ra_cons (re_var (pv 0)) (ra_cons (re_var (pv 1)) (ra_cons (re_var (pv 2)) (ra_cons (re_sub (re_var (pv 3)) re_int) (ra_cons (re_var (pv 4)) (ra_cons (re_var (pv 5)) ra_nil))))))) ra_nil)))))) rs_nil) ?_; refine rs_cons (rs_if (PW.pt (rw_and (rt_eq C.hu (re_var (pv 6)) re_int) (rw_and1 (rt_gt (re_ix C.hu (re_var (pv 4)) re_int) re_int)))) (by exact rs_one (rs_ret (re_callV true C 21 rfl rfl rfl (ra_cons (re_var (pv 0)) (ra_cons (re_var (pv 1)) (ra_cons (re_var (pv 2)) (ra_cons (re_var (pv 3)) (ra_cons (re_var (pv 4)) (ra_cons (re_var (pv 5)) ra_nil))))))))) rs_nil) ?_; refine rs_cons (rs_if (rt_eq C.hu (re_var (pv 1)) re_str) (by exact rs_one (rs_ret (re_callV true C 19 rfl rfl rfl (ra_cons (re_var (pv 2)) ra_nil)))) rs_nil) ?_; refine rs_cons (rs_set (i := 8) sc20.nd rfl (by first | exact Or.inl rfl | exact Or.inr rfl) (re_ix C.hu (re_do (rd_pairs C.calm rfl G.b_dict bt_dict (re_var (pv 0)))) (re_var (pv 1)))) ?_; refine rs_cons (rs_if (PW.pt (rw_and (rt_gt (re_var (pv 6)) re_int) (rw_and (rt_gt (re_ix C.hu (re_var (pv 4)) re_int) re_int) (rw_and (rt_gt (re_callB w_len rfl G.b_len bt_len (ra_cons (re_var (pv 5)) ra_nil)) re_int) (rw_and1 (rt_val (re_callB (w_any C.calm) rfl G.b_any bt_any (ra_cons (re_ro (rn_lc (own := [("make", 9)]) C.calm sc20.nd (ri_seq (re_var (pv 8))) (by kernel_rfl) (fun s0 H0 c0 cl0 fp0 => (rg_name (i := 9) sc20.nd rfl (by first | exact Or.inl rfl | exact Or.inr rfl))) (fun s0 H0 c0 cl0 fp0 => rts_nil) (fun s0 H0 c0 cl0 fp0 => (re_gt (re_callB w_len rfl G.b_len bt_len (ra_cons (re_ix (C.blk s0 H0 _ _ fp0).hu (re_var (pv 9)) re_int) ra_nil)) re_int)))) ra_nil)))))))) (by exact rs_one (rs_ret (re_callV true C 28 rfl rfl rfl (ra_cons (re_var (pv 8)) (ra_cons (re_var (pv 0)) (ra_cons (re_var (pv 2)) (ra_cons (re_var (pv 4)) (ra_cons (re_var (pv 5)) ra_nil)))))))) rs_nil) ?_; refine rs_cons (rs_asg (re_ix C.hu (re_var (pv 8)) (re_callV true C 11 rfl rfl rfl (ra_cons (re_var (pv 2)) (ra_cons (re_callB w_len rfl G.b_len bt_len (ra_cons (re_var (pv 8)) ra_nil)) ra_nil)))) (rg_tup C.calm (rgs_cons (rg_name (i := 9) sc20.nd rfl (by first | exact Or.inl rfl | exact Or.inr rfl)) (rgs_cons (rg_name (i := 10) sc20.nd rfl (by first | exact Or.inl rfl | exact Or.inr rfl)) rgs_nil)))) ?_; exact rs_one (rs_ret (re_tup (ra_cons re_str (ra_cons (re_var (pv 9)) (ra_cons (re_callTy w_tuple rfl G.b_tuple bt_tuple (ra_cons (re_ro (rn_lc (own := [("field", 11)]) C.calm sc20.nd (ri_seq (re_var (pv 10))) (by kernel_rfl) (fun s0 H0 c0 cl0 fp0 => (rg_name (i := 11) sc20.nd rfl (by first | exact Or.inl rfl | exact Or.inr rfl))) (fun s0 H0 c0 cl0 fp0 => rts_nil) (fun s0 H0 c0 cl0 fp0 => (re_callV true (C.blk s0 H0 _ _ fp0) 20 rfl rfl rfl (ra_cons (re_var (pv 0)) (ra_cons (re_var (pv 11)) (ra_cons (re_var (pv 2)) (ra_cons (re_sub (re_var (pv 3)) re_int) (ra_cons (re_var (pv 4)) (ra_cons (re_var (pv 5)) ra_nil)))))))))) ra_nil)) ra_nil))))))
theorem e20 (G : Gb mg) (F : Fun K "_law_shape" "_law_shape" s20 f fd) (hm : mg "_law_shape" = some (.ref f)) : Entry P w K mg base T 20 f20.name :=
  entry (D := f20) rfl F sc20 hm (fun _ _ _ _ _ _ us hl => match us, hl with | [_, _, _, _, _, _], _ => rfl) fun k cdv A outer s H E C => d20 G C
theorem sc21 : FnScope f21.N f21.ps (defScope s21) := ⟨rfl, rfl, rfl, by decide +kernel, rfl, by decide +kernel, by decide +kernel⟩
theorem d21 (G : Gb mg) {k : Nat} {cdv : Value} {A : Around} {outer : List Env} {s : Shared} {H : Hp} {E : XK} (C : Ctx (cxOf CX0 P w K mg base f21.N "_law_either" (defScope s21) f cdv A outer s H E).nox T k) :
    PSs (cxOf CX0 P w K mg base f21.N "_law_either" (defScope s21) f cdv A outer s H E).nox (defBody s21) (RdS K (b_law_either (runT T k))) :=
  (by refine rs_cons (rs_set (i := 6) sc21.nd rfl (by first | exact Or.inl rfl | exact Or.inr rfl) (re_add re_int (re_callV true C 11 rfl rfl rfl (ra_cons (re_var (pv 2)) (ra_cons (re_callB (w_min C.calm) rfl G.b_min bt_min (ra_cons re_int (ra_cons (re_ix C.hu (re_var (pv 4)) re_int) ra_nil))) ra_nil))))) ?_; refine rs_cons (rs_asg (re_div (re_ix C.hu (re_var (pv 4)) re_int) (re_var (pv 6))) (rg_sub C.hu (re_var (pv 4)) re_int)) ?_; refine rs_cons (rs_set (i := 7) sc21.nd rfl (by first | exact Or.inl rfl | exact Or.inr rfl) (re_tr (rn_lst ra_nil))) ?_; refine rs_cons (rs_if (PW.pt (rw_and (rt_gt (re_callB w_len rfl G.b_len bt_len (ra_cons (re_var (pv 5)) ra_nil)) re_int) (rw_and1 (rt_eq C.hu (re_callV true C 11 rfl rfl rfl (ra_cons (re_var (pv 2)) (ra_cons re_int ra_nil))) re_int)))) (by exact rs_one (rs_expr (re_m w_append PySem.F.plainAttrs_list PySem.F.slot_list_append PySem.F.type_list_append (re_var (pv 7)) (ra_cons (re_m w_popAt PySem.F.plainAttrs_list PySem.F.slot_list_pop PySem.F.type_list_pop (re_var (pv 5)) (ra_cons re_int ra_nil)) ra_nil)))) rs_nil) ?_; refine rs_cons (rs_setLc (i := 8) (own := [("k", 10)]) (fun _ _ _ => ro_rd) C.calm sc21.nd rfl rfl (sw_true rfl rfl rfl (by decide +kernel)) (ri_range1 rfl G.b_range (re_var (pv 6))) (by kernel_rfl) (fun s0 H0 c0 cl0 fp0 => (rg_name (i := 10) sc21.nd rfl (by first | exact Or.inl rfl | exact Or.inr rfl))) (fun s0 H0 c0 cl0 fp0 => rts_nil) (fun s0 H0 c0 cl0 fp0 => (re_callV true (C.blk s0 H0 _ _ fp0) 20 rfl rfl rfl (ra_cons (re_var (pv 0)) (ra_cons (re_var (pv 1)) (ra_cons (re_var (pv 2)) (ra_cons (re_sub (re_var (pv 3)) re_int) (ra_cons (re_var (pv 4)) (ra_cons (re_tr (rn_lst ra_nil)) ra_nil))))))))) ?_; refine rs_cons (rs_for PassesOwn.never C.calm (ri_seq (re_var (pv 7))) (rg_name (i := 9) sc21.nd rfl (by first | exact Or.inl rfl | exact Or.inr rfl)) (by exact rs_one (rs_setLc (i := 8) (own := [("side", 11)]) (fun _ _ _ => ro_rd) C.calm sc21.nd rfl rfl (sw_true rfl rfl rfl (by decide +kernel)) (ri_seq (re_var (pv 8))) (by kernel_rfl) (fun s0 H0 c0 cl0 fp0 => (rg_name (i := 11) sc21.nd rfl (by first | exact Or.inl rfl | exact Or.inr rfl))) (fun s0 H0 c0 cl0 fp0 => rts_nil) (fun s0 H0 c0 cl0 fp0 => (re_tup (ra_cons re_str (ra_cons (re_var (pv 9)) (ra_cons (re_var (pv 11)) ra_nil)))))))) ?_; exact rs_one (rs_ret (re_tup (ra_cons re_str (ra_cons (re_callTy w_tuple rfl G.b_tuple bt_tuple (ra_cons (re_var (pv 8)) ra_nil)) ra_nil)))))
theorem e21 (G : Gb mg) (F : Fun K "_law_either" "_law_either" s21 f fd) (hm : mg "_law_either" = some (.ref f)) : Entry P w K mg base T 21 f21.name :=
  entry (D := f21) rfl F sc21 hm (fun _ _ _ _ _ _ us hl => match us, hl with | [_, _, _, _, _, _], _ => rfl) fun k cdv A outer s H E C => d21 G C
theorem sc22 : FnScope f22.N f22.ps (defScope s22) := ⟨rfl, rfl, rfl, by decide +kernel, rfl, by decide +kernel, by decide +kernel⟩
theorem d22 (G : Gb mg) {k : Nat} {cdv : Value} {A : Around} {outer : List Env} {s : Shared} {H : Hp} {E : XK} (C : Ctx (cxOf CX0 P w K mg base f22.N "_law_held" (defScope s22) f cdv A outer s H E).nox T k) :
    PSs (cxOf CX0 P w K mg base f22.N "_law_held" (defScope s22) f cdv A outer s H E).nox (defBody s22) (RdS K (b_law_held (runT T k))) :=
  (by refine rs_cons (rs_if (rt_eq C.hu (re_ix C.hu (re_var (pv 2)) re_int) re_str) (by exact rs_one (rs_ret (re_add (re_ro (rn_lst (ra_cons (re_tup (ra_cons (re_ix C.hu (re_var (pv 2)) re_int) (ra_cons (re_var (pv 1)) ra_nil))) ra_nil))) (re_callV true C 22 rfl rfl rfl (ra_cons (re_var (pv 0)) (ra_cons (re_var (pv 1)) (ra_cons (re_ix C.hu (re_var (pv 2)) re_int) ra_nil))))))) rs_nil) ?_; refine rs_cons (rs_if (rt_eq C.hu (re_ix C.hu (re_var (pv 2)) re_int) re_str) (by exact rs_one (rs_ret (re_callV true C 22 rfl rfl rfl (ra_cons (re_var (pv 0)) (ra_cons (re_var (pv 1)) (ra_cons (re_ix C.hu (re_ix C.hu (re_var (pv 2)) re_int) re_int) ra_nil)))))) rs_nil) ?_; refine rs_cons (rs_set (i := 3) sc22.nd rfl (by first | exact Or.inl rfl | exact Or.inr rfl) (re_tr (rn_lst ra_nil))) ?_; refine rs_cons (rs_if (rt_eq C.hu (re_ix C.hu (re_var (pv 2)) re_int) re_str) (by exact rs_one (rs_for PassesOwn.never C.calm (ri_zip rfl G.b_zip (re_ix C.hu (re_do (rd_pairs C.calm rfl G.b_dict bt_dict (re_ix C.hu (re_do (rd_pairs C.calm rfl G.b_dict bt_dict (re_var (pv 0)))) (re_var (pv 1))))) (re_ix C.hu (re_var (pv 2)) re_int)) (re_ix C.hu (re_var (pv 2)) re_int)) (rg_tup C.calm (rgs_cons (rg_name (i := 4) sc22.nd rfl (by first | exact Or.inl rfl | exact Or.inr rfl)) (rgs_cons (rg_name (i := 5) sc22.nd rfl (by first | exact Or.inl rfl | exact Or.inr rfl)) rgs_nil))) (by exact rs_one (rs_expr (re_m w_extend PySem.F.plainAttrs_list PySem.F.slot_list_extend PySem.F.type_list_extend (re_var (pv 3)) (ra_cons (re_callV true C 22 rfl rfl rfl (ra_cons (re_var (pv 0)) (ra_cons (re_var (pv 4)) (ra_cons (re_var (pv 5)) ra_nil)))) ra_nil)))))) rs_nil) ?_; exact rs_one (rs_ret (re_var (pv 3))))
theorem e22 (G : Gb mg) (F : Fun K "_law_held" "_law_held" s22 f fd) (hm : mg "_law_held" = some (.ref f)) : Entry P w K mg base T 22 f22.name :=
  entry (D := f22) rfl F sc22 hm (fun _ _ _ _ _ _ us hl => match us, hl with | [_, _, _], _ => rfl) fun k cdv A outer s H E C => d22 G C
theorem sc23 : FnScope f23.N f23.ps (defScope s23) := ⟨rfl, rfl, rfl, by decide +kernel, rfl, by decide +kernel, by decide +kernel⟩
theorem d23 (G : Gb mg) {k : Nat} {cdv : Value} {A : Around} {outer : List Env} {s : Shared} {H : Hp} {E : XK} (C : Ctx (cxOf CX0 P w K mg base f23.N "_law_homes" (defScope s23) f cdv A outer s H E).nox T k) :
    PSs (cxOf CX0 P w K mg base f23.N "_law_homes" (defScope s23) f cdv A outer s H E).nox (defBody s23) (RdS K (b_law_homes (runT T k))) :=
  (by refine rs_cons (rs_set (i := 2) sc23.nd rfl (by first | exact Or.inl rfl | exact Or.inr rfl) (re_tr (rn_lst ra_nil))) ?_; refine rs_cons (rs_for PassesOwn.never C.calm (ri_seq (re_var (pv 0))) (rg_tup C.calm (rgs_cons (rg_name (i := 3) sc23.nd rfl (by first | exact Or.inl rfl | exact Or.inr rfl)) (rgs_cons (rg_name (i := 4) sc23.nd rfl (by first | exact Or.inl rfl | exact Or.inr rfl)) rgs_nil))) (by exact rs_one (rs_for PassesOwn.never C.calm (ri_seq (re_var (pv 4))) (rg_tup C.calm (rgs_cons (rg_name (i := 5) sc23.nd rfl (by first | exact Or.inl rfl | exact Or.inr rfl)) (rgs_cons (rg_name (i := 6) sc23.nd rfl (by first | exact Or.inl rfl | exact Or.inr rfl)) rgs_nil))) (by exact rs_one (rs_expr (re_m w_extend PySem.F.plainAttrs_list PySem.F.slot_list_extend PySem.F.type_list_extend (re_var (pv 2)) (ra_cons (re_ro (rn_lc (own := [("at", 7)]) C.calm sc23.nd (ri_range1 rfl G.b_range (re_callB w_len rfl G.b_len bt_len (ra_cons (re_var (pv 6)) ra_nil))) (by kernel_rfl) (fun s0 H0 c0 cl0 fp0 => (rg_name (i := 7) sc23.nd rfl (by first | exact Or.inl rfl | exact Or.inr rfl))) (fun s0 H0 c0 cl0 fp0 => (rts_one (rt_eq (C.blk s0 H0 _ _ fp0).hu (re_ix (C.blk s0 H0 _ _ fp0).hu (re_var (pv 6)) (re_var (pv 7))) (re_var (pv 1))))) (fun s0 H0 c0 cl0 fp0 => (re_tup (ra_cons (re_var (pv 3)) (ra_cons (re_var (pv 5)) (ra_cons (re_var (pv 6)) (ra_cons (re_var (pv 7)) ra_nil)))))))) ra_nil))))))) ?_; exact rs_one (rs_ret (re_var (pv 2))))
theorem e23 (G : Gb mg) (F : Fun K "_law_homes" "_law_homes" s23 f fd) (hm : mg "_law_homes" = some (.ref f)) : Entry P w K mg base T 23 f23.name :=
  entry (D := f23) rfl F sc23 hm (fun _ _ _ _ _ _ us hl => match us, hl with | [_, _], _ => rfl) fun k cdv A outer s H E C => d23 G C
theorem sc24 : FnScope f24.N f24.ps (defScope s24) := ⟨rfl, rfl, rfl, by decide +kernel, rfl, by decide +kernel, by decide +kernel⟩
theorem d24 (G : Gb mg) {k : Nat} {cdv : Value} {A : Around} {outer : List Env} {s : Shared} {H : Hp} {E : XK} (C : Ctx (cxOf CX0 P w K mg base f24.N "_law_placed" (defScope s24) f cdv A outer s H E).nox T k) :
    PSs (cxOf CX0 P w K mg base f24.N "_law_placed" (defScope s24) f cdv A outer s H E).nox (defBody s24) (RdS K (b_law_placed (runT T k))) :=
  (by refine rs_cons (rs_set (i := 2) sc24.nd rfl (by first | exact Or.inl rfl | exact Or.inr rfl) (re_tup (ra_cons (re_tup (ra_cons re_str ra_nil)) ra_nil))) ?_; exact rs_one (rs_ret (re_tup (ra_cons re_str (ra_cons (re_ix C.hu (re_var (pv 0)) re_int) (ra_cons (re_add (re_add (re_mulT (re_var (pv 2)) (re_ix C.hu (re_var (pv 0)) re_int)) (re_tup (ra_cons (re_var (pv 1)) ra_nil))) (re_mulT (re_var (pv 2)) (re_sub (re_sub (re_callB w_len rfl G.b_len bt_len (ra_cons (re_ix C.hu (re_var (pv 0)) re_int) ra_nil)) (re_ix C.hu (re_var (pv 0)) re_int)) re_int))) ra_nil))))))
theorem e24 (G : Gb mg) (F : Fun K "_law_placed" "_law_placed" s24 f fd) (hm : mg "_law_placed" = some (.ref f)) : Entry P w K mg base T 24 f24.name :=
  entry (D := f24) rfl F sc24 hm (fun _ _ _ _ _ _ us hl => match us, hl with | [_, _], _ => rfl) fun k cdv A outer s H E C => d24 G C
theorem sc25 : FnScope f25.N f25.ps (defScope s25) := ⟨rfl, rfl, rfl, by decide +kernel, rfl, by decide +kernel, by decide +kernel⟩
theorem d25 (G : Gb mg) {k : Nat} {cdv : Value} {A : Around} {outer : List Env} {s : Shared} {H : Hp} {E : XK} (C : Ctx (cxOf CX0 P w K mg base f25.N "_law_drawn_shape" (defScope s25) f cdv A outer s H E).nox T k) :
    PSs (cxOf CX0 P w K mg base f25.N "_law_drawn_shape" (defScope s25) f cdv A outer s H E).nox (defBody s25) (RdS K (b_law_drawn_shape (runT T k))) :=
  (by refine rs_cons (rs_set (i := 3) sc25.nd rfl (by first | exact Or.inl rfl | exact Or.inr rfl) (re_add re_int (re_callV true C 11 rfl rfl rfl (ra_cons (re_var (pv 2)) (ra_cons re_int ra_nil))))) ?_; refine rs_cons (rs_set (i := 4) sc25.nd rfl (by first | exact Or.inl rfl | exact Or.inr rfl) (re_tr (rn_lst (ra_cons (re_ix C.hu (re_ro (rn_lst (ra_cons re_int (ra_cons re_int (ra_cons re_int (ra_cons re_int ra_nil)))))) (re_callV true C 11 rfl rfl rfl (ra_cons (re_var (pv 2)) (ra_cons re_int ra_nil)))) ra_nil)))) ?_; exact rs_one (rs_ret (re_callV true C 20 rfl rfl rfl (ra_cons (re_var (pv 0)) (ra_cons (re_var (pv 1)) (ra_cons (re_var (pv 2)) (ra_cons (re_var (pv 3)) (ra_cons (re_var (pv 4)) (ra_cons (re_callV false C 17 rfl rfl rfl (ra_cons (re_var (pv 0)) ra_nil)) ra_nil)))))))))
theorem e25 (G : Gb mg) (F : Fun K "_law_drawn_shape" "_law_drawn_shape" s25 f fd) (hm : mg "_law_drawn_shape" = some (.ref f)) : Entry P w K mg base T 25 f25.name :=
  entry (D := f25) rfl F sc25 hm (fun _ _ _ _ _ _ us hl => match us, hl with | [_, _, _], _ => rfl) fun k cdv A outer s H E C => d25 G C
theorem sc26 : FnScope f26.N f26.ps (defScope s26) := ⟨rfl, rfl, rfl, by decide +kernel, rfl, by decide +kernel, by decide +kernel⟩
theorem d26 (G : Gb mg) {k : Nat} {cdv : Value} {A : Around} {outer : List Env} {s : Shared} {H : Hp} {E : XK} (C : Ctx (cxOf CX0 P w K mg base f26.N "_law_spot_to" (defScope s26) f cdv A outer s H E).nox T k) :
    PSs (cxOf CX0 P w K mg base f26.N "_law_spot_to" (defScope s26) f cdv A outer s H E).nox (defBody s26) (RdS K (b_law_spot_to (runT T k))) :=
  (by refine rs_cons (rs_set (i := 4) sc26.nd rfl (by first | exact Or.inl rfl | exact Or.inr rfl) (re_tup ra_nil)) ?_; refine rs_cons (rs_for PassesOwn.never C.calm (ri_range1 rfl G.b_range (re_callV true C 11 rfl rfl rfl (ra_cons (re_var (pv 3)) (ra_cons re_int ra_nil)))) (rg_name (i := 5) sc26.nd rfl (by first | exact Or.inl rfl | exact Or.inr rfl)) (by refine rs_cons (rs_setLc (i := 6) (own := [("home", 7)]) (fun _ _ _ => ro_rd) C.calm sc26.nd rfl rfl (sw_true rfl rfl rfl (by decide +kernel)) (ri_seq (re_callV true C 23 rfl rfl rfl (ra_cons (re_var (pv 0)) (ra_cons (re_var (pv 2)) ra_nil)))) (by kernel_rfl) (fun s0 H0 c0 cl0 fp0 => (rg_name (i := 7) sc26.nd rfl (by first | exact Or.inl rfl | exact Or.inr rfl))) (fun s0 H0 c0 cl0 fp0 => (rts_one (rt_in (C.blk s0 H0 _ _ fp0).hu (re_ix (C.blk s0 H0 _ _ fp0).hu (re_var (pv 7)) re_int) (re_do (rd_pairs (C.blk s0 H0 _ _ fp0).calm rfl G.b_dict bt_dict (re_callV true (C.blk s0 H0 _ _ fp0) 15 rfl rfl rfl (ra_cons (re_var (pv 0)) (ra_cons (re_var (pv 1)) (ra_cons (re_ix (C.blk s0 H0 _ _ fp0).hu (re_var (pv 7)) re_int) ra_nil))))))))) (fun s0 H0 c0 cl0 fp0 => (re_var (pv 7)))) ?_; exact rs_one (rs_if (rt_gt (re_callB w_len rfl G.b_len bt_len (ra_cons (re_var (pv 6)) ra_nil)) re_int) (by refine rs_cons (rs_set (i := 7) sc26.nd rfl (by first | exact Or.inl rfl | exact Or.inr rfl) (re_ix C.hu (re_var (pv 6)) (re_callV true C 11 rfl rfl rfl (ra_cons (re_var (pv 3)) (ra_cons (re_callB w_len rfl G.b_len bt_len (ra_cons (re_var (pv 6)) ra_nil)) ra_nil))))) ?_; refine rs_cons (rs_set (i := 4) sc26.nd rfl (by first | exact Or.inl rfl | exact Or.inr rfl) (re_add (re_tup (ra_cons (re_tup (ra_cons (re_ix C.hu (re_var (pv 7)) re_int) (ra_cons (re_ix C.hu (re_var (pv 7)) re_int) ra_nil))) ra_nil)) (re_var (pv 4)))) ?_; exact rs_one (rs_set (i := 2) sc26.nd rfl (by first | exact Or.inl rfl | exact Or.inr rfl) (re_ix C.hu (re_var (pv 7)) re_int))) rs_nil))) ?_; exact rs_one (rs_ret (re_var (pv 4))))
theorem e26 (G : Gb mg) (F : Fun K "_law_spot_to" "_law_spot_to" s26 f fd) (hm : mg "_law_spot_to" = some (.ref f)) : Entry P w K mg base T 26 f26.name :=
  entry (D := f26) rfl F sc26 hm (fun _ _ _ _ _ _ us hl => match us, hl with | [_, _, _, _], _ => rfl) fun k cdv A outer s H E C => d26 G C
theorem sc27 : FnScope f27.N f27.ps (defScope s27) := ⟨rfl, rfl, rfl, by decide +kernel, rfl, by decide +kernel, by decide +kernel⟩
theorem d27 (G : Gb mg) {k : Nat} {cdv : Value} {A : Around} {outer : List Env} {s : Shared} {H : Hp} {E : XK} (C : Ctx (cxOf CX0 P w K mg base f27.N "_law_pool" (defScope s27) f cdv A outer s H E).nox T k) :
    PSs (cxOf CX0 P w K mg base f27.N "_law_pool" (defScope s27) f cdv A outer s H E).nox (defBody s27) (RdS K (b_law_pool (runT T k))) :=
  (by exact rs_one (rs_ret (re_tr (rn_lst (ra_cons (re_callB (w_max C.calm) rfl G.b_max bt_max (ra_cons re_int (ra_cons (re_sub (re_var (pv 0)) (re_pow re_int re_int)) ra_nil))) (ra_cons (re_mod (re_var (pv 0)) (re_pow re_int re_int)) (ra_cons re_int ra_nil)))))))
theorem e27 (G : Gb mg) (F : Fun K "_law_pool" "_law_pool" s27 f fd) (hm : mg "_law_pool" = some (.ref f)) : Entry P w K mg base T 27 f27.name :=
  entry (D := f27) rfl F sc27 hm (fun _ _ _ _ _ _ us hl => match us, hl with | [_], _ => rfl) fun k cdv A outer s H E C => d27 G C
theorem sc28 : FnScope f28.N f28.ps (defScope s28) := ⟨rfl, rfl, rfl, by decide +kernel, rfl, by decide +kernel, by decide +kernel⟩
theorem d28 (G : Gb mg) {k : Nat} {cdv : Value} {A : Around} {outer : List Env} {s : Shared} {H : Hp} {E : XK} (C : Ctx (cxOf CX0 P w K mg base f28.N "_law_holding" (defScope s28) f cdv A outer s H E).nox T k) :
    PSs (cxOf CX0 P w K mg base f28.N "_law_holding" (defScope s28) f cdv A outer s H E).nox (defBody s28) (RdS K (b_law_holding (runT T k))) :=
  (by refine rs_cons (rs_set (i := 5) sc28.nd rfl (by first | exact Or.inl rfl | exact Or.inr rfl) (re_tr (rn_lst ra_nil))) ?_; refine rs_cons (rs_for PassesOwn.never C.calm (ri_seq (re_var (pv 0))) (rg_tup C.calm (rgs_cons (rg_name (i := 6) sc28.nd rfl (by first | exact Or.inl rfl | exact Or.inr rfl)) (rgs_cons (rg_name (i := 7) sc28.nd rfl (by first | exact Or.inl rfl | exact Or.inr rfl)) rgs_nil))) (by exact rs_one (rs_expr (re_m w_extend PySem.F.plainAttrs_list PySem.F.slot_list_extend PySem.F.type_list_extend (re_var (pv 5)) (ra_cons (re_ro (rn_lc (own := [("at", 13)]) C.calm sc28.nd (ri_range1 rfl G.b_range (re_callB w_len rfl G.b_len bt_len (ra_cons (re_var (pv 7)) ra_nil))) (by kernel_rfl) (fun s0 H0 c0 cl0 fp0 => (rg_name (i := 13) sc28.nd rfl (by first | exact Or.inl rfl | exact Or.inr rfl))) (fun s0 H0 c0 cl0 fp0 => rts_nil) (fun s0 H0 c0 cl0 fp0 => (re_tup (ra_cons (re_var (pv 6)) (ra_cons (re_var (pv 7)) (ra_cons (re_var (pv 13)) ra_nil))))))) ra_nil))))) ?_; refine rs_cons (rs_set (i := 8) sc28.nd rfl (by first | exact Or.inl rfl | exact Or.inr rfl) (re_ix C.hu (re_var (pv 5)) (re_callV true C 11 rfl rfl rfl (ra_cons (re_var (pv 2)) (ra_cons (re_callB w_len rfl G.b_len bt_len (ra_cons (re_var (pv 5)) ra_nil)) ra_nil))))) ?_; refine rs_cons (rs_setLc (i := 5) (own := [("one", 15)]) (fun _ _ _ => tr_rd) C.calm sc28.nd rfl rfl (sw_true rfl rfl rfl (by decide +kernel)) (ri_seq (re_var (pv 5))) (by kernel_rfl) (fun s0 H0 c0 cl0 fp0 => (rg_name (i := 15) sc28.nd rfl (by first | exact Or.inl rfl | exact Or.inr rfl))) (fun s0 H0 c0 cl0 fp0 => (rts_one (rt_eq (C.blk s0 H0 _ _ fp0).hu (re_ix (C.blk s0 H0 _ _ fp0).hu (re_ix (C.blk s0 H0 _ _ fp0).hu (re_var (pv 15)) re_int) (re_ix (C.blk s0 H0 _ _ fp0).hu (re_var (pv 15)) re_int)) (re_ix (C.blk s0 H0 _ _ fp0).hu (re_ix (C.blk s0 H0 _ _ fp0).hu (re_var (pv 8)) re_int) (re_ix (C.blk s0 H0 _ _ fp0).hu (re_var (pv 8)) re_int))))) (fun s0 H0 c0 cl0 fp0 => (re_var (pv 15)))) ?_; refine rs_cons (rs_set (i := 9) sc28.nd rfl (by first | exact Or.inl rfl | exact Or.inr rfl) (re_m w_popAt PySem.F.plainAttrs_list PySem.F.slot_list_pop PySem.F.type_list_pop (re_var (pv 4)) (ra_cons re_int ra_nil))) ?_; refine rs_cons (rs_set (i := 10) sc28.nd rfl (by first | exact Or.inl rfl | exact Or.inr rfl) (re_callB (w_min C.calm) rfl G.b_min bt_min (ra_cons (re_ix C.hu (re_var (pv 3)) re_int) (ra_cons (re_add re_int (re_callV true C 11 rfl rfl rfl (ra_cons (re_var (pv 2)) (ra_cons re_int ra_nil)))) ra_nil)))) ?_; refine rs_cons (rs_asg (re_div (re_ix C.hu (re_var (pv 3)) re_int) (re_var (pv 10))) (rg_sub C.hu (re_var (pv 3)) re_int)) ?_; refine rs_cons (rs_set (i := 11) sc28.nd rfl (by first | exact Or.inl rfl | exact Or.inr rfl) (re_tr (rn_lst ra_nil))) ?_; refine rs_cons (rs_for PassesOwn.never C.calm (ri_range1 rfl G.b_range (re_var (pv 10))) (rg_name (i := 12) sc28.nd rfl (by first | exact Or.inl rfl | exact Or.inr rfl)) (by refine rs_cons (rs_asg (re_ix C.hu (re_var (pv 5)) (re_callV true C 11 rfl rfl rfl (ra_cons (re_var (pv 2)) (ra_cons (re_callB w_len rfl G.b_len bt_len (ra_cons (re_var (pv 5)) ra_nil)) ra_nil)))) (rg_tup C.calm (rgs_cons (rg_name (i := 6) sc28.nd rfl (by first | exact Or.inl rfl | exact Or.inr rfl)) (rgs_cons (rg_name (i := 7) sc28.nd rfl (by first | exact Or.inl rfl | exact Or.inr rfl)) (rgs_cons (rg_name (i := 13) sc28.nd rfl (by first | exact Or.inl rfl | exact Or.inr rfl)) rgs_nil))))) ?_; refine rs_cons (rs_setLc (i := 14) (own := [("field", 16)]) (fun _ _ _ => tr_rd) C.calm sc28.nd rfl rfl (sw_true rfl rfl rfl (by decide +kernel)) (ri_seq (re_var (pv 7))) (by kernel_rfl) (fun s0 H0 c0 cl0 fp0 => (rg_name (i := 16) sc28.nd rfl (by first | exact Or.inl rfl | exact Or.inr rfl))) (fun s0 H0 c0 cl0 fp0 => rts_nil) (fun s0 H0 c0 cl0 fp0 => (re_callV true (C.blk s0 H0 _ _ fp0) 20 rfl rfl rfl (ra_cons (re_var (pv 1)) (ra_cons (re_var (pv 16)) (ra_cons (re_var (pv 2)) (ra_cons re_int (ra_cons (re_var (pv 3)) (ra_cons (re_tr (rn_lst ra_nil)) ra_nil))))))))) ?_; refine rs_cons (rs_asg (re_tup (ra_cons re_str (ra_cons (re_var (pv 9)) (ra_cons (re_tup (ra_cons re_str ra_nil)) ra_nil)))) (rg_sub C.hu (re_var (pv 14)) (re_var (pv 13)))) ?_; exact rs_one (rs_expr (re_m w_append PySem.F.plainAttrs_list PySem.F.slot_list_append PySem.F.type_list_append (re_var (pv 11)) (ra_cons (re_tup (ra_cons re_str (ra_cons (re_var (pv 6)) (ra_cons (re_callTy w_tuple rfl G.b_tuple bt_tuple (ra_cons (re_var (pv 14)) ra_nil)) ra_nil)))) ra_nil))))) ?_; exact rs_one (rs_ret (re_tup (ra_cons re_str (ra_cons (re_callTy w_tuple rfl G.b_tuple bt_tuple (ra_cons (re_var (pv 11)) ra_nil)) ra_nil)))))
theorem e28 (G : Gb mg) (F : Fun K "_law_holding" "_law_holding" s28 f fd) (hm : mg "_law_holding" = some (.ref f)) : Entry P w K mg base T 28 f28.name :=
  entry (D := f28) rfl F sc28 hm (fun _ _ _ _ _ _ us hl => match us, hl with | [_, _, _, _, _], _ => rfl) fun k cdv A outer s H E C => d28 G C
theorem sc29 : FnScope f29.N f29.ps (defScope s29) := ⟨rfl, rfl, rfl, by decide +kernel, rfl, by decide +kernel, by decide +kernel⟩
theorem d29 (G : Gb mg) {k : Nat} {cdv : Value} {A : Around} {outer : List Env} {s : Shared} {H : Hp} {E : XK} (C : Ctx (cxOf CX0 P w K mg base f29.N "_law_moved" (defScope s29) f cdv A outer s H E).nox T k) :
    PSs (cxOf CX0 P w K mg base f29.N "_law_moved" (defScope s29) f cdv A outer s H E).nox (defBody s29) (RdS K (b_law_moved (runT T k))) :=
  (by refine rs_cons (rs_if (rt_eq C.hu (re_ix C.hu (re_var (pv 1)) re_int) re_str) (by exact rs_one (rs_ret (re_tup (ra_cons re_str (ra_cons (re_add (re_var (pv 0)) (re_ix C.hu (re_var (pv 1)) re_int)) (ra_cons (re_ix C.hu (re_var (pv 1)) re_int) ra_nil)))))) rs_nil) ?_; refine rs_cons (rs_set (i := 2) sc29.nd rfl (by first | exact Or.inl rfl | exact Or.inr rfl) (re_tr (rn_lst ra_nil))) ?_; refine rs_cons (rs_for PassesOwn.never C.calm (ri_seq (re_slice (re_var (pv 1)) (ro_some re_int) (ro_some re_int))) (rg_name (i := 3) sc29.nd rfl (by first | exact Or.inl rfl | exact Or.inr rfl)) (by refine rs_cons (rs_if (rt_isnt (re_var (pv 3)) re_non) (by exact rs_one (rs_set (i := 3) sc29.nd rfl (by first | exact Or.inl rfl | exact Or.inr rfl) (re_add (re_var (pv 0)) (re_var (pv 3))))) rs_nil) ?_; exact rs_one (rs_expr (re_m w_append PySem.F.plainAttrs_list PySem.F.slot_list_append PySem.F.type_list_append (re_var (pv 2)) (ra_cons (re_var (pv 3)) ra_nil))))) ?_; exact rs_one (rs_ret (re_tup (ra_cons re_str (ra_cons (re_ix C.hu (re_var (pv 2)) re_int) (ra_cons (re_ix C.hu (re_var (pv 2)) re_int) (ra_cons (re_ix C.hu (re_var (pv 1)) re_int) ra_nil)))))))
theorem e29 (G : Gb mg) (F : Fun K "_law_moved" "_law_moved" s29 f fd) (hm : mg "_law_moved" = some (.ref f)) : Entry P w K mg base T 29 f29.name :=
  entry (D := f29) rfl F sc29 hm (fun _ _ _ _ _ _ us hl => match us, hl with | [_, _], _ => rfl) fun k cdv A outer s H E C => d29 G C
theorem sc30 : FnScope f30.N f30.ps (defScope s30) := ⟨rfl, rfl, rfl, by decide +kernel, rfl, by decide +kernel, by decide +kernel⟩
theorem d30 (G : Gb mg) {k : Nat} {cdv : Value} {A : Around} {outer : List Env} {s : Shared} {H : Hp} {E : XK} (C : Ctx (cxOf CX0 P w K mg base f30.N "_law_ahead" (defScope s30) f cdv A outer s H E).nox T k) :
    PSs (cxOf CX0 P w K mg base f30.N "_law_ahead" (defScope s30) f cdv A outer s H E).nox (defBody s30) (RdS K (b_law_ahead (runT T k))) :=
  (by refine rs_cons (rs_set (i := 2) sc30.nd rfl (by first | exact Or.inl rfl | exact Or.inr rfl) (re_tr (rn_lst ra_nil))) ?_; refine rs_cons (rs_for PassesOwn.never C.calm (ri_seq (re_var (pv 1))) (rg_tup C.calm (rgs_cons (rg_name (i := 3) sc30.nd rfl (by first | exact Or.inl rfl | exact Or.inr rfl)) (rgs_cons (rg_name (i := 4) sc30.nd rfl (by first | exact Or.inl rfl | exact Or.inr rfl)) rgs_nil))) (by refine rs_cons (rs_set (i := 5) sc30.nd rfl (by first | exact Or.inl rfl | exact Or.inr rfl) (re_callTy w_tuple rfl G.b_tuple bt_tuple (ra_cons (re_ro (rn_lc (own := [("test", 6)]) C.calm sc30.nd (ri_seq (re_var (pv 3))) (by kernel_rfl) (fun s0 H0 c0 cl0 fp0 => (rg_name (i := 6) sc30.nd rfl (by first | exact Or.inl rfl | exact Or.inr rfl))) (fun s0 H0 c0 cl0 fp0 => rts_nil) (fun s0 H0 c0 cl0 fp0 => (re_callV true (C.blk s0 H0 _ _ fp0) 29 rfl rfl rfl (ra_cons (re_var (pv 0)) (ra_cons (re_var (pv 6)) ra_nil)))))) ra_nil))) ?_; exact rs_one (rs_expr (re_m w_append PySem.F.plainAttrs_list PySem.F.slot_list_append PySem.F.type_list_append (re_var (pv 2)) (ra_cons (re_tup (ra_cons (re_var (pv 5)) (ra_cons (re_callTy w_tuple rfl G.b_tuple bt_tuple (ra_cons (re_ro (rn_lc (own := [("name", 7), ("end", 8)]) C.calm sc30.nd (ri_seq (re_var (pv 4))) (by kernel_rfl) (fun s0 H0 c0 cl0 fp0 => (rg_tup (C.blk s0 H0 _ _ fp0).calm (rgs_cons (rg_name (i := 7) sc30.nd rfl (by first | exact Or.inl rfl | exact Or.inr rfl)) (rgs_cons (rg_name (i := 8) sc30.nd rfl (by first | exact Or.inl rfl | exact Or.inr rfl)) rgs_nil)))) (fun s0 H0 c0 cl0 fp0 => rts_nil) (fun s0 H0 c0 cl0 fp0 => (re_tup (ra_cons (re_var (pv 7)) (ra_cons (re_add (re_var (pv 0)) (re_var (pv 8))) ra_nil)))))) ra_nil)) ra_nil))) ra_nil))))) ?_; exact rs_one (rs_ret (re_var (pv 2))))
theorem e30 (G : Gb mg) (F : Fun K "_law_ahead" "_law_ahead" s30 f fd) (hm : mg "_law_ahead" = some (.ref f)) : Entry P w K mg base T 30 f30.name :=
  entry (D := f30) rfl F sc30 hm (fun _ _ _ _ _ _ us hl => match us, hl with | [_, _], _ => rfl) fun k cdv A outer s H E C => d30 G C
theorem sc31 : FnScope f31.N f31.ps (defScope s31) := ⟨rfl, rfl, rfl, by decide +kernel, rfl, by decide +kernel, by decide +kernel⟩
theorem d31 (G : Gb mg) {k : Nat} {cdv : Value} {A : Around} {outer : List Env} {s : Shared} {H : Hp} {E : XK} (C : Ctx (cxOf CX0 P w K mg base f31.N "_law_either_right" (defScope s31) f cdv A outer s H E).nox T k) :
    PSs (cxOf CX0 P w K mg base f31.N "_law_either_right" (defScope s31) f cdv A outer s H E).nox (defBody s31) (RdS K (b_law_either_right (runT T k))) :=
  (by refine rs_cons (rs_set (i := 5) sc31.nd rfl (by first | exact Or.inl rfl | exact Or.inr rfl) (re_callV true C 20 rfl rfl rfl (ra_cons (re_var (pv 0)) (ra_cons (re_var (pv 1)) (ra_cons (re_var (pv 4)) (ra_cons re_int (ra_cons (re_tr (rn_lst (ra_cons re_int ra_nil))) (ra_cons (re_tr (rn_lst ra_nil)) ra_nil)))))))) ?_; refine rs_cons (rs_set (i := 6) sc31.nd rfl (by first | exact Or.inl rfl | exact Or.inr rfl) (re_callV true C 9 rfl rfl rfl (ra_cons (re_var (pv 0)) (ra_cons (re_var (pv 1)) (ra_cons (re_var (pv 5)) (ra_cons (re_tup ra_nil) ra_nil)))))) ?_; refine rs_cons (rs_if (PW.pt (rw_or (rt_ne C.hu (re_callV true C 22 rfl rfl rfl (ra_cons (re_var (pv 0)) (ra_cons (re_var (pv 1)) (ra_cons (re_var (pv 2)) ra_nil)))) (re_ro (rn_lst ra_nil))) (rw_or1 (rt_gt (re_add (re_callB w_len rfl G.b_len bt_len (ra_cons (re_var (pv 3)) ra_nil)) (re_callB w_len rfl G.b_len bt_len (ra_cons (re_var (pv 6)) ra_nil))) re_int)))) (by exact rs_one (rs_ret re_bl)) rs_nil) ?_; exact rs_one (rs_ret (re_eq C.hu (re_callV true C 9 rfl rfl rfl (ra_cons (re_var (pv 0)) (ra_cons (re_var (pv 1)) (ra_cons (re_tup (ra_cons re_str (ra_cons (re_tup (ra_cons (re_var (pv 2)) (ra_cons (re_var (pv 5)) ra_nil))) ra_nil))) (ra_cons (re_tup ra_nil) ra_nil))))) (re_add (re_var (pv 3)) (re_var (pv 6))))))
theorem e31 (G : Gb mg) (F : Fun K "_law_either_right" "_law_either_right" s31 f fd) (hm : mg "_law_either_right" = some (.ref f)) : Entry P w K mg base T 31 f31.name :=
  entry (D := f31) rfl F sc31 hm (fun _ _ _ _ _ _ us hl => match us, hl with | [_, _, _, _, _], _ => rfl) fun k cdv A outer s H E C => d31 G C
theorem sc32 : FnScope f32.N f32.ps (defScope s32) := ⟨rfl, rfl, rfl, by decide +kernel, rfl, by decide +kernel, by decide +kernel⟩
theorem d32 (G : Gb mg) {k : Nat} {cdv : Value} {A : Around} {outer : List Env} {s : Shared} {H : Hp} {E : XK} (C : Ctx (cxOf CX0 P w K mg base f32.N "_law_make_right" (defScope s32) f cdv A outer s H E).nox T k) :
    PSs (cxOf CX0 P w K mg base f32.N "_law_make_right" (defScope s32) f cdv A outer s H E).nox (defBody s32) (RdS K (b_law_make_right (runT T k))) :=
  (by refine rs_cons (rs_set (i := 6) sc32.nd rfl (by first | exact Or.inl rfl | exact Or.inr rfl) (re_callV true C 23 rfl rfl rfl (ra_cons (re_var (pv 0)) (ra_cons (re_var (pv 2)) ra_nil)))) ?_; refine rs_cons (rs_if (rt_eq C.hu (re_var (pv 6)) (re_ro (rn_lst ra_nil))) (by exact rs_one (rs_ret re_bl)) rs_nil) ?_; refine rs_cons (rs_set (i := 7) sc32.nd rfl (by first | exact Or.inl rfl | exact Or.inr rfl) (re_ix C.hu (re_var (pv 6)) (re_callV true C 11 rfl rfl rfl (ra_cons (re_var (pv 5)) (ra_cons (re_callB w_len rfl G.b_len bt_len (ra_cons (re_var (pv 6)) ra_nil)) ra_nil))))) ?_; refine rs_cons (rs_set (i := 8) sc32.nd rfl (by first | exact Or.inl rfl | exact Or.inr rfl) (re_do (rd_pairs C.calm rfl G.b_dict bt_dict (re_callV true C 15 rfl rfl rfl (ra_cons (re_var (pv 0)) (ra_cons (re_var (pv 1)) (ra_cons (re_ix C.hu (re_var (pv 7)) re_int) ra_nil))))))) ?_; refine rs_cons (rs_set (i := 9) sc32.nd rfl (by first | exact Or.inl rfl | exact Or.inr rfl) (re_ro (rn_lst ra_nil))) ?_; refine rs_cons (rs_if (rt_in C.hu (re_ix C.hu (re_var (pv 7)) re_int) (re_var (pv 8))) (by refine rs_cons (rs_set (i := 10) sc32.nd rfl (by first | exact Or.inl rfl | exact Or.inr rfl) (re_mulT (re_tup (ra_cons (re_tup (ra_cons re_str (ra_cons (re_tup ra_nil) (ra_cons (re_ix C.hu (re_var (pv 7)) re_int) ra_nil)))) ra_nil)) (re_callTy w_int rfl G.b_int bt_int (ra_cons (re_gt (re_callB w_len rfl G.b_len bt_len (ra_cons (re_var (pv 8)) ra_nil)) re_int) ra_nil)))) ?_; exact rs_one (rs_setLc (i := 9) (own := [("line", 11)]) (fun _ _ _ => ro_rd) C.calm sc32.nd rfl rfl (sw_true rfl rfl rfl (by decide +kernel)) (ri_seq (re_callV true C 30 rfl rfl rfl (ra_cons (re_tup (ra_cons (re_tup (ra_cons (re_ix C.hu (re_var (pv 7)) re_int) (ra_cons (re_ix C.hu (re_var (pv 7)) re_int) ra_nil))) ra_nil)) (ra_cons (re_var (pv 4)) ra_nil)))) (by kernel_rfl) (fun s0 H0 c0 cl0 fp0 => (rg_name (i := 11) sc32.nd rfl (by first | exact Or.inl rfl | exact Or.inr rfl))) (fun s0 H0 c0 cl0 fp0 => rts_nil) (fun s0 H0 c0 cl0 fp0 => (re_tup (ra_cons (re_add (re_var (pv 10)) (re_ix (C.blk s0 H0 _ _ fp0).hu (re_var (pv 11)) re_int)) (ra_cons (re_ix (C.blk s0 H0 _ _ fp0).hu (re_var (pv 11)) re_int) ra_nil)))))) rs_nil) ?_; exact rs_one (rs_ret (re_eq C.hu (re_callV true C 9 rfl rfl rfl (ra_cons (re_var (pv 0)) (ra_cons (re_ix C.hu (re_var (pv 7)) re_int) (ra_cons (re_callV true C 24 rfl rfl rfl (ra_cons (re_var (pv 7)) (ra_cons (re_var (pv 3)) ra_nil))) (ra_cons (re_tup ra_nil) ra_nil))))) (re_var (pv 9)))))
theorem e32 (G : Gb mg) (F : Fun K "_law_make_right" "_law_make_right" s32 f fd) (hm : mg "_law_make_right" = some (.ref f)) : Entry P w K mg base T 32 f32.name :=
  entry (D := f32) rfl F sc32 hm (fun _ _ _ _ _ _ us hl => match us, hl with | [_, _, _, _, _, _], _ => rfl) fun k cdv A outer s H E C => d32 G C
theorem sc33 : FnScope f33.N f33.ps (defScope s33) := ⟨rfl, rfl, rfl, by decide +kernel, rfl, by decide +kernel, by decide +kernel⟩
theorem d33 (G : Gb mg) {k : Nat} {cdv : Value} {A : Around} {outer : List Env} {s : Shared} {H : Hp} {E : XK} (C : Ctx (cxOf CX0 P w K mg base f33.N "law" (defScope s33) f cdv A outer s H E).nox T k) :
    PSs (cxOf CX0 P w K mg base f33.N "law" (defScope s33) f cdv A outer s H E).nox (defBody s33) (RdS K (b_law (runT T k))) :=
  (by refine rs_cons (rs_set (i := 1) sc33.nd rfl (by first | exact Or.inl rfl | exact Or.inr rfl) (re_callV true C 13 rfl rfl rfl (ra_cons (re_callV false C 27 rfl rfl rfl (ra_cons (re_callV true C 10 rfl rfl rfl (ra_cons (re_var (pv 0)) (ra_cons re_int ra_nil))) ra_nil)) ra_nil))) ?_; refine rs_cons (rs_set (i := 2) sc33.nd rfl (by first | exact Or.inl rfl | exact Or.inr rfl) (re_callV true C 14 rfl rfl rfl (ra_cons (re_var (pv 1)) ra_nil))) ?_; refine rs_cons (rs_set (i := 3) sc33.nd rfl (by first | exact Or.inl rfl | exact Or.inr rfl) (re_add (re_ro (rn_lst (ra_cons re_str ra_nil))) (re_ro (rn_lc (own := [("kind", 6), ("makes", 13)]) C.calm sc33.nd (ri_seq (re_var (pv 1))) (by kernel_rfl) (fun s0 H0 c0 cl0 fp0 => (rg_tup (C.blk s0 H0 _ _ fp0).calm (rgs_cons (rg_name (i := 6) sc33.nd rfl (by first | exact Or.inl rfl | exact Or.inr rfl)) (rgs_cons (rg_name (i := 13) sc33.nd rfl (by first | exact Or.inl rfl | exact Or.inr rfl)) rgs_nil)))) (fun s0 H0 c0 cl0 fp0 => rts_nil) (fun s0 H0 c0 cl0 fp0 => (re_var (pv 6))))))) ?_; refine rs_cons (rs_for PassesOwn.never C.calm (ri_seq (re_add (re_ro (rn_lst (ra_cons re_int ra_nil))) (re_slice (re_var (pv 0)) (ro_some re_int) ro_none))) (rg_name (i := 4) sc33.nd rfl (by first | exact Or.inl rfl | exact Or.inr rfl)) (by refine rs_cons (rs_set (i := 5) sc33.nd rfl (by first | exact Or.inl rfl | exact Or.inr rfl) (re_callV false C 27 rfl rfl rfl (ra_cons (re_var (pv 4)) ra_nil))) ?_; refine rs_cons (rs_set (i := 6) sc33.nd rfl (by first | exact Or.inl rfl | exact Or.inr rfl) (re_ix C.hu (re_var (pv 3)) (re_callV true C 11 rfl rfl rfl (ra_cons (re_var (pv 5)) (ra_cons (re_callB w_len rfl G.b_len bt_len (ra_cons (re_var (pv 3)) ra_nil)) ra_nil))))) ?_; refine rs_cons (rs_set (i := 7) sc33.nd rfl (by first | exact Or.inl rfl | exact Or.inr rfl) (re_callV true C 25 rfl rfl rfl (ra_cons (re_var (pv 1)) (ra_cons (re_var (pv 6)) (ra_cons (re_var (pv 5)) ra_nil))))) ?_; refine rs_cons (rs_set (i := 8) sc33.nd rfl (by first | exact Or.inl rfl | exact Or.inr rfl) (re_callV true C 26 rfl rfl rfl (ra_cons (re_var (pv 1)) (ra_cons (re_var (pv 2)) (ra_cons (re_var (pv 6)) (ra_cons (re_var (pv 5)) ra_nil)))))) ?_; refine rs_cons (rs_set (i := 9) sc33.nd rfl (by first | exact Or.inl rfl | exact Or.inr rfl) (re_callV true C 9 rfl rfl rfl (ra_cons (re_var (pv 1)) (ra_cons (re_var (pv 6)) (ra_cons (re_var (pv 7)) (ra_cons (re_tup ra_nil) ra_nil)))))) ?_; refine rs_cons (rs_if (rt_ne C.hu (re_callV true C 9 rfl rfl rfl (ra_cons (re_var (pv 1)) (ra_cons (re_var (pv 6)) (ra_cons (re_var (pv 7)) (ra_cons (re_var (pv 8)) ra_nil))))) (re_callV true C 30 rfl rfl rfl (ra_cons (re_var (pv 8)) (ra_cons (re_var (pv 9)) ra_nil)))) (by exact rs_one (rs_ret re_bl)) rs_nil) ?_; refine rs_cons (rs_set (i := 10) sc33.nd rfl (by first | exact Or.inl rfl | exact Or.inr rfl) (re_ro (rn_lc (own := [("name", 11), ("where", 14)]) C.calm sc33.nd (ri_seq (re_callV true C 22 rfl rfl rfl (ra_cons (re_var (pv 1)) (ra_cons (re_var (pv 6)) (ra_cons (re_var (pv 7)) ra_nil))))) (by kernel_rfl) (fun s0 H0 c0 cl0 fp0 => (rg_tup (C.blk s0 H0 _ _ fp0).calm (rgs_cons (rg_name (i := 11) sc33.nd rfl (by first | exact Or.inl rfl | exact Or.inr rfl)) (rgs_cons (rg_name (i := 14) sc33.nd rfl (by first | exact Or.inl rfl | exact Or.inr rfl)) rgs_nil)))) (fun s0 H0 c0 cl0 fp0 => rts_nil) (fun s0 H0 c0 cl0 fp0 => (re_var (pv 11)))))) ?_; refine rs_cons (rs_for PassesOwn.never C.calm (ri_seq (re_slice (re_ro (rn_lc (own := [("name", 11)]) C.calm sc33.nd (ri_seq (re_callV true C 17 rfl rfl rfl (ra_cons (re_var (pv 1)) ra_nil))) (by kernel_rfl) (fun s0 H0 c0 cl0 fp0 => (rg_name (i := 11) sc33.nd rfl (by first | exact Or.inl rfl | exact Or.inr rfl))) (fun s0 H0 c0 cl0 fp0 => (rts_one (rt_nin (C.blk s0 H0 _ _ fp0).hu (re_var (pv 11)) (re_var (pv 10))))) (fun s0 H0 c0 cl0 fp0 => (re_var (pv 11))))) ro_none (ro_some re_int))) (rg_name (i := 11) sc33.nd rfl (by first | exact Or.inl rfl | exact Or.inr rfl)) (by refine rs_cons (rs_setLc (i := 12) (own := [("tests", 15), ("pairs", 16)]) (fun _ _ _ => ro_rd) C.calm sc33.nd rfl rfl (sw_true rfl rfl rfl (by decide +kernel)) (ri_seq (re_callV true C 30 rfl rfl rfl (ra_cons (re_var (pv 8)) (ra_cons (re_var (pv 9)) ra_nil)))) (by kernel_rfl) (fun s0 H0 c0 cl0 fp0 => (rg_tup (C.blk s0 H0 _ _ fp0).calm (rgs_cons (rg_name (i := 15) sc33.nd rfl (by first | exact Or.inl rfl | exact Or.inr rfl)) (rgs_cons (rg_name (i := 16) sc33.nd rfl (by first | exact Or.inl rfl | exact Or.inr rfl)) rgs_nil)))) (fun s0 H0 c0 cl0 fp0 => rts_nil) (fun s0 H0 c0 cl0 fp0 => (re_tup (ra_cons (re_var (pv 15)) (ra_cons (re_add (re_tup (ra_cons (re_tup (ra_cons (re_var (pv 11)) (ra_cons (re_var (pv 8)) ra_nil))) ra_nil)) (re_var (pv 16))) ra_nil))))) ?_; exact rs_one (rs_if (rt_ne C.hu (re_callV true C 9 rfl rfl rfl (ra_cons (re_var (pv 1)) (ra_cons (re_var (pv 6)) (ra_cons (re_tup (ra_cons re_str (ra_cons (re_var (pv 11)) (ra_cons (re_var (pv 7)) ra_nil)))) (ra_cons (re_var (pv 8)) ra_nil))))) (re_var (pv 12))) (by exact rs_one (rs_ret re_bl)) rs_nil))) ?_; refine rs_cons (rs_if (rt_not (rt_val (re_callV true C 31 rfl rfl rfl (ra_cons (re_var (pv 1)) (ra_cons (re_var (pv 6)) (ra_cons (re_var (pv 7)) (ra_cons (re_var (pv 9)) (ra_cons (re_var (pv 5)) ra_nil)))))))) (by exact rs_one (rs_ret re_bl)) rs_nil) ?_; exact rs_one (rs_if (rt_not (rt_val (re_callV true C 32 rfl rfl rfl (ra_cons (re_var (pv 1)) (ra_cons (re_var (pv 2)) (ra_cons (re_var (pv 6)) (ra_cons (re_var (pv 7)) (ra_cons (re_var (pv 9)) (ra_cons (re_var (pv 5)) ra_nil))))))))) (by exact rs_one (rs_ret re_bl)) rs_nil))) ?_; exact rs_one (rs_ret re_bl))
theorem e33 (G : Gb mg) (F : Fun K "law" "law" s33 f fd) (hm : mg "law" = some (.ref f)) : Entry P w K mg base T 33 f33.name :=
  entry (D := f33) rfl F sc33 hm (fun _ _ _ _ _ _ us hl => match us, hl with | [_], _ => rfl) fun k cdv A outer s H E C => d33 G C
end
theorem all_mk {l : PySem.W.OpenLaw} {w : World} {K : PySem.W.Frag} {h : Heap} {mg : Str → Option Value} {fa p0 p1 p2 p3 p4 p5 p6 p7 p8 p9 p10 p11 p12 p13 p14 p15 p16 p17 p18 p19 p20 p21 p22 p23 p24 p25 p26 p27 p28 p29 p30 p31 p32 p33 : Addr} (X : K.In h) (Gn : h.Ns mainGlobals mg) (hfa : mg "law" = some (.ref fa))
    {od0 an0 od1 an1 od2 an2 od3 an3 od4 an4 od5 an5 od6 an6 od7 an7 od8 an8 od9 an9 od10 an10 od11 an11 od12 an12 od13 an13 od14 an14 od15 an15 od16 an16 od17 an17 od18 an18 od19 an19 od20 an20 od21 an21 od22 an22 od23 an23 od24 an24 od25 an25 od26 an26 od27 an27 od28 an28 od29 an29 od30 an30 od31 an31 od32 an32 od33 an33 : Option Addr} {sl0 sl1 sl2 sl3 sl4 sl5 sl6 sl7 sl8 sl9 sl10 sl11 sl12 sl13 sl14 sl15 sl16 sl17 sl18 sl19 sl20 sl21 sl22 sl23 sl24 sl25 sl26 sl27 sl28 sl29 sl30 sl31 sl32 sl33 : Array (Option Value)} {oc0 kV0 dc0 pm0 cd0 ct0 oc1 kV1 dc1 pm1 cd1 ct1 oc2 kV2 dc2 pm2 cd2 ct2 oc3 kV3 dc3 pm3 cd3 ct3 oc4 kV4 dc4 pm4 cd4 ct4 oc5 kV5 dc5 pm5 cd5 ct5 oc6 kV6 dc6 pm6 cd6 ct6 oc7 kV7 dc7 pm7 cd7 ct7 oc8 kV8 dc8 pm8 cd8 ct8 oc9 kV9 dc9 pm9 cd9 ct9 oc10 kV10 dc10 pm10 cd10 ct10 oc11 kV11 dc11 pm11 cd11 ct11 oc12 kV12 dc12 pm12 cd12 ct12 oc13 kV13 dc13 pm13 cd13 ct13 oc14 kV14 dc14 pm14 cd14 ct14 oc15 kV15 dc15 pm15 cd15 ct15 oc16 kV16 dc16 pm16 cd16 ct16 oc17 kV17 dc17 pm17 cd17 ct17 oc18 kV18 dc18 pm18 cd18 ct18 oc19 kV19 dc19 pm19 cd19 ct19 oc20 kV20 dc20 pm20 cd20 ct20 oc21 kV21 dc21 pm21 cd21 ct21 oc22 kV22 dc22 pm22 cd22 ct22 oc23 kV23 dc23 pm23 cd23 ct23 oc24 kV24 dc24 pm24 cd24 ct24 oc25 kV25 dc25 pm25 cd25 ct25 oc26 kV26 dc26 pm26 cd26 ct26 oc27 kV27 dc27 pm27 cd27 ct27 oc28 kV28 dc28 pm28 cd28 ct28 oc29 kV29 dc29 pm29 cd29 ct29 oc30 kV30 dc30 pm30 cd30 ct30 oc31 kV31 dc31 pm31 cd31 ct31 oc32 kV32 dc32 pm32 cd32 ct32 oc33 kV33 dc33 pm33 cd33 ct33 : Value}
    (a0 : PySem.W.nsIn K mainGlobals "first_made" = some (some (.ref p0))) (l0 : K.lookup p0 = some ⟨oc0, od0, .func (PySem.W.fnOf "first_made" "first_made" (defArgs s0) (defBody s0) (defScope s0) .none kV0 dc0 pm0 an0 cd0 ct0), sl0⟩) (c0 : PySem.W.codeIn K cd0 "first_made" = true) (k0 : PySem.W.keepIn K (.ref p0) = true)
    (a1 : PySem.W.nsIn K mainGlobals "next_round" = some (some (.ref p1))) (l1 : K.lookup p1 = some ⟨oc1, od1, .func (PySem.W.fnOf "next_round" "next_round" (defArgs s1) (defBody s1) (defScope s1) .none kV1 dc1 pm1 an1 cd1 ct1), sl1⟩) (c1 : PySem.W.codeIn K cd1 "next_round" = true) (k1 : PySem.W.keepIn K (.ref p1) = true)
    (a2 : PySem.W.nsIn K mainGlobals "plain_values" = some (some (.ref p2))) (l2 : K.lookup p2 = some ⟨oc2, od2, .func (PySem.W.fnOf "plain_values" "plain_values" (defArgs s2) (defBody s2) (defScope s2) .none kV2 dc2 pm2 an2 cd2 ct2), sl2⟩) (c2 : PySem.W.codeIn K cd2 "plain_values" = true) (k2 : PySem.W.keepIn K (.ref p2) = true)
    (a3 : PySem.W.nsIn K mainGlobals "all_makes" = some (some (.ref p3))) (l3 : K.lookup p3 = some ⟨oc3, od3, .func (PySem.W.fnOf "all_makes" "all_makes" (defArgs s3) (defBody s3) (defScope s3) .none kV3 dc3 pm3 an3 cd3 ct3), sl3⟩) (c3 : PySem.W.codeIn K cd3 "all_makes" = true) (k3 : PySem.W.keepIn K (.ref p3) = true)
    (a4 : PySem.W.nsIn K mainGlobals "stretch_tests" = some (some (.ref p4))) (l4 : K.lookup p4 = some ⟨oc4, od4, .func (PySem.W.fnOf "stretch_tests" "stretch_tests" (defArgs s4) (defBody s4) (defScope s4) .none kV4 dc4 pm4 an4 cd4 ct4), sl4⟩) (c4 : PySem.W.codeIn K cd4 "stretch_tests" = true) (k4 : PySem.W.keepIn K (.ref p4) = true)
    (a5 : PySem.W.nsIn K mainGlobals "joined" = some (some (.ref p5))) (l5 : K.lookup p5 = some ⟨oc5, od5, .func (PySem.W.fnOf "joined" "joined" (defArgs s5) (defBody s5) (defScope s5) .none kV5 dc5 pm5 an5 cd5 ct5), sl5⟩) (c5 : PySem.W.codeIn K cd5 "joined" = true) (k5 : PySem.W.keepIn K (.ref p5) = true)
    (a6 : PySem.W.nsIn K mainGlobals "coming_fields" = some (some (.ref p6))) (l6 : K.lookup p6 = some ⟨oc6, od6, .func (PySem.W.fnOf "coming_fields" "coming_fields" (defArgs s6) (defBody s6) (defScope s6) .none kV6 dc6 pm6 an6 cd6 ct6), sl6⟩) (c6 : PySem.W.codeIn K cd6 "coming_fields" = true) (k6 : PySem.W.keepIn K (.ref p6) = true)
    (a7 : PySem.W.nsIn K mainGlobals "make_lines" = some (some (.ref p7))) (l7 : K.lookup p7 = some ⟨oc7, od7, .func (PySem.W.fnOf "make_lines" "make_lines" (defArgs s7) (defBody s7) (defScope s7) .none kV7 dc7 pm7 an7 cd7 ct7), sl7⟩) (c7 : PySem.W.codeIn K cd7 "make_lines" = true) (k7 : PySem.W.keepIn K (.ref p7) = true)
    (a8 : PySem.W.nsIn K mainGlobals "lined" = some (some (.ref p8))) (l8 : K.lookup p8 = some ⟨oc8, od8, .func (PySem.W.fnOf "lined" "lined" (defArgs s8) (defBody s8) (defScope s8) .none kV8 dc8 pm8 an8 cd8 ct8), sl8⟩) (c8 : PySem.W.codeIn K cd8 "lined" = true) (k8 : PySem.W.keepIn K (.ref p8) = true)
    (a9 : PySem.W.nsIn K mainGlobals "lines_of" = some (some (.ref p9))) (l9 : K.lookup p9 = some ⟨oc9, od9, .func (PySem.W.fnOf "lines_of" "lines_of" (defArgs s9) (defBody s9) (defScope s9) .none kV9 dc9 pm9 an9 cd9 ct9), sl9⟩) (c9 : PySem.W.codeIn K cd9 "lines_of" = true) (k9 : PySem.W.keepIn K (.ref p9) = true)
    (a10 : PySem.W.nsIn K mainGlobals "_law_cell" = some (some (.ref p10))) (l10 : K.lookup p10 = some ⟨oc10, od10, .func (PySem.W.fnOf "_law_cell" "_law_cell" (defArgs s10) (defBody s10) (defScope s10) .none kV10 dc10 pm10 an10 cd10 ct10), sl10⟩) (c10 : PySem.W.codeIn K cd10 "_law_cell" = true) (k10 : PySem.W.keepIn K (.ref p10) = true)
    (a11 : PySem.W.nsIn K mainGlobals "_law_next" = some (some (.ref p11))) (l11 : K.lookup p11 = some ⟨oc11, od11, .func (PySem.W.fnOf "_law_next" "_law_next" (defArgs s11) (defBody s11) (defScope s11) .none kV11 dc11 pm11 an11 cd11 ct11), sl11⟩) (c11 : PySem.W.codeIn K cd11 "_law_next" = true) (k11 : PySem.W.keepIn K (.ref p11) = true)
    (a12 : PySem.W.nsIn K mainGlobals "_law_names" = some (some (.ref p12))) (l12 : K.lookup p12 = some ⟨oc12, od12, .func (PySem.W.fnOf "_law_names" "_law_names" (defArgs s12) (defBody s12) (defScope s12) .none kV12 dc12 pm12 an12 cd12 ct12), sl12⟩) (c12 : PySem.W.codeIn K cd12 "_law_names" = true) (k12 : PySem.W.keepIn K (.ref p12) = true)
    (a13 : PySem.W.nsIn K mainGlobals "_law_book" = some (some (.ref p13))) (l13 : K.lookup p13 = some ⟨oc13, od13, .func (PySem.W.fnOf "_law_book" "_law_book" (defArgs s13) (defBody s13) (defScope s13) .none kV13 dc13 pm13 an13 cd13 ct13), sl13⟩) (c13 : PySem.W.codeIn K cd13 "_law_book" = true) (k13 : PySem.W.keepIn K (.ref p13) = true)
    (a14 : PySem.W.nsIn K mainGlobals "_law_plain" = some (some (.ref p14))) (l14 : K.lookup p14 = some ⟨oc14, od14, .func (PySem.W.fnOf "_law_plain" "_law_plain" (defArgs s14) (defBody s14) (defScope s14) .none kV14 dc14 pm14 an14 cd14 ct14), sl14⟩) (c14 : PySem.W.codeIn K cd14 "_law_plain" = true) (k14 : PySem.W.keepIn K (.ref p14) = true)
    (a15 : PySem.W.nsIn K mainGlobals "_law_coming" = some (some (.ref p15))) (l15 : K.lookup p15 = some ⟨oc15, od15, .func (PySem.W.fnOf "_law_coming" "_law_coming" (defArgs s15) (defBody s15) (defScope s15) .none kV15 dc15 pm15 an15 cd15 ct15), sl15⟩) (c15 : PySem.W.codeIn K cd15 "_law_coming" = true) (k15 : PySem.W.keepIn K (.ref p15) = true)
    (a16 : PySem.W.nsIn K mainGlobals "_law_make_names" = some (some (.ref p16))) (l16 : K.lookup p16 = some ⟨oc16, od16, .func (PySem.W.fnOf "_law_make_names" "_law_make_names" (defArgs s16) (defBody s16) (defScope s16) .none kV16 dc16 pm16 an16 cd16 ct16), sl16⟩) (c16 : PySem.W.codeIn K cd16 "_law_make_names" = true) (k16 : PySem.W.keepIn K (.ref p16) = true)
    (a17 : PySem.W.nsIn K mainGlobals "_law_free" = some (some (.ref p17))) (l17 : K.lookup p17 = some ⟨oc17, od17, .func (PySem.W.fnOf "_law_free" "_law_free" (defArgs s17) (defBody s17) (defScope s17) .none kV17 dc17 pm17 an17 cd17 ct17), sl17⟩) (c17 : PySem.W.codeIn K cd17 "_law_free" = true) (k17 : PySem.W.keepIn K (.ref p17) = true)
    (a18 : PySem.W.nsIn K mainGlobals "_law_number" = some (some (.ref p18))) (l18 : K.lookup p18 = some ⟨oc18, od18, .func (PySem.W.fnOf "_law_number" "_law_number" (defArgs s18) (defBody s18) (defScope s18) .none kV18 dc18 pm18 an18 cd18 ct18), sl18⟩) (c18 : PySem.W.codeIn K cd18 "_law_number" = true) (k18 : PySem.W.keepIn K (.ref p18) = true)
    (a19 : PySem.W.nsIn K mainGlobals "_law_stretch" = some (some (.ref p19))) (l19 : K.lookup p19 = some ⟨oc19, od19, .func (PySem.W.fnOf "_law_stretch" "_law_stretch" (defArgs s19) (defBody s19) (defScope s19) .none kV19 dc19 pm19 an19 cd19 ct19), sl19⟩) (c19 : PySem.W.codeIn K cd19 "_law_stretch" = true) (k19 : PySem.W.keepIn K (.ref p19) = true)
    (a20 : PySem.W.nsIn K mainGlobals "_law_shape" = some (some (.ref p20))) (l20 : K.lookup p20 = some ⟨oc20, od20, .func (PySem.W.fnOf "_law_shape" "_law_shape" (defArgs s20) (defBody s20) (defScope s20) .none kV20 dc20 pm20 an20 cd20 ct20), sl20⟩) (c20 : PySem.W.codeIn K cd20 "_law_shape" = true) (k20 : PySem.W.keepIn K (.ref p20) = true)
    (a21 : PySem.W.nsIn K mainGlobals "_law_either" = some (some (.ref p21))) (l21 : K.lookup p21 = some ⟨oc21, od21, .func (PySem.W.fnOf "_law_either" "_law_either" (defArgs s21) (defBody s21) (defScope s21) .none kV21 dc21 pm21 an21 cd21 ct21), sl21⟩) (c21 : PySem.W.codeIn K cd21 "_law_either" = true) (k21 : PySem.W.keepIn K (.ref p21) = true)
    (a22 : PySem.W.nsIn K mainGlobals "_law_held" = some (some (.ref p22))) (l22 : K.lookup p22 = some ⟨oc22, od22, .func (PySem.W.fnOf "_law_held" "_law_held" (defArgs s22) (defBody s22) (defScope s22) .none kV22 dc22 pm22 an22 cd22 ct22), sl22⟩) (c22 : PySem.W.codeIn K cd22 "_law_held" = true) (k22 : PySem.W.keepIn K (.ref p22) = true)
    (a23 : PySem.W.nsIn K mainGlobals "_law_homes" = some (some (.ref p23))) (l23 : K.lookup p23 = some ⟨oc23, od23, .func (PySem.W.fnOf "_law_homes" "_law_homes" (defArgs s23) (defBody s23) (defScope s23) .none kV23 dc23 pm23 an23 cd23 ct23), sl23⟩) (c23 : PySem.W.codeIn K cd23 "_law_homes" = true) (k23 : PySem.W.keepIn K (.ref p23) = true)
    (a24 : PySem.W.nsIn K mainGlobals "_law_placed" = some (some (.ref p24))) (l24 : K.lookup p24 = some ⟨oc24, od24, .func (PySem.W.fnOf "_law_placed" "_law_placed" (defArgs s24) (defBody s24) (defScope s24) .none kV24 dc24 pm24 an24 cd24 ct24), sl24⟩) (c24 : PySem.W.codeIn K cd24 "_law_placed" = true) (k24 : PySem.W.keepIn K (.ref p24) = true)
    (a25 : PySem.W.nsIn K mainGlobals "_law_drawn_shape" = some (some (.ref p25))) (l25 : K.lookup p25 = some ⟨oc25, od25, .func (PySem.W.fnOf "_law_drawn_shape" "_law_drawn_shape" (defArgs s25) (defBody s25) (defScope s25) .none kV25 dc25 pm25 an25 cd25 ct25), sl25⟩) (c25 : PySem.W.codeIn K cd25 "_law_drawn_shape" = true) (k25 : PySem.W.keepIn K (.ref p25) = true)
    (a26 : PySem.W.nsIn K mainGlobals "_law_spot_to" = some (some (.ref p26))) (l26 : K.lookup p26 = some ⟨oc26, od26, .func (PySem.W.fnOf "_law_spot_to" "_law_spot_to" (defArgs s26) (defBody s26) (defScope s26) .none kV26 dc26 pm26 an26 cd26 ct26), sl26⟩) (c26 : PySem.W.codeIn K cd26 "_law_spot_to" = true) (k26 : PySem.W.keepIn K (.ref p26) = true)
    (a27 : PySem.W.nsIn K mainGlobals "_law_pool" = some (some (.ref p27))) (l27 : K.lookup p27 = some ⟨oc27, od27, .func (PySem.W.fnOf "_law_pool" "_law_pool" (defArgs s27) (defBody s27) (defScope s27) .none kV27 dc27 pm27 an27 cd27 ct27), sl27⟩) (c27 : PySem.W.codeIn K cd27 "_law_pool" = true) (k27 : PySem.W.keepIn K (.ref p27) = true)
    (a28 : PySem.W.nsIn K mainGlobals "_law_holding" = some (some (.ref p28))) (l28 : K.lookup p28 = some ⟨oc28, od28, .func (PySem.W.fnOf "_law_holding" "_law_holding" (defArgs s28) (defBody s28) (defScope s28) .none kV28 dc28 pm28 an28 cd28 ct28), sl28⟩) (c28 : PySem.W.codeIn K cd28 "_law_holding" = true) (k28 : PySem.W.keepIn K (.ref p28) = true)
    (a29 : PySem.W.nsIn K mainGlobals "_law_moved" = some (some (.ref p29))) (l29 : K.lookup p29 = some ⟨oc29, od29, .func (PySem.W.fnOf "_law_moved" "_law_moved" (defArgs s29) (defBody s29) (defScope s29) .none kV29 dc29 pm29 an29 cd29 ct29), sl29⟩) (c29 : PySem.W.codeIn K cd29 "_law_moved" = true) (k29 : PySem.W.keepIn K (.ref p29) = true)
    (a30 : PySem.W.nsIn K mainGlobals "_law_ahead" = some (some (.ref p30))) (l30 : K.lookup p30 = some ⟨oc30, od30, .func (PySem.W.fnOf "_law_ahead" "_law_ahead" (defArgs s30) (defBody s30) (defScope s30) .none kV30 dc30 pm30 an30 cd30 ct30), sl30⟩) (c30 : PySem.W.codeIn K cd30 "_law_ahead" = true) (k30 : PySem.W.keepIn K (.ref p30) = true)
    (a31 : PySem.W.nsIn K mainGlobals "_law_either_right" = some (some (.ref p31))) (l31 : K.lookup p31 = some ⟨oc31, od31, .func (PySem.W.fnOf "_law_either_right" "_law_either_right" (defArgs s31) (defBody s31) (defScope s31) .none kV31 dc31 pm31 an31 cd31 ct31), sl31⟩) (c31 : PySem.W.codeIn K cd31 "_law_either_right" = true) (k31 : PySem.W.keepIn K (.ref p31) = true)
    (a32 : PySem.W.nsIn K mainGlobals "_law_make_right" = some (some (.ref p32))) (l32 : K.lookup p32 = some ⟨oc32, od32, .func (PySem.W.fnOf "_law_make_right" "_law_make_right" (defArgs s32) (defBody s32) (defScope s32) .none kV32 dc32 pm32 an32 cd32 ct32), sl32⟩) (c32 : PySem.W.codeIn K cd32 "_law_make_right" = true) (k32 : PySem.W.keepIn K (.ref p32) = true)
    (a33 : PySem.W.nsIn K mainGlobals "law" = some (some (.ref p33))) (l33 : K.lookup p33 = some ⟨oc33, od33, .func (PySem.W.fnOf "law" "law" (defArgs s33) (defBody s33) (defScope s33) .none kV33 dc33 pm33 an33 cd33 ct33), sl33⟩) (c33 : PySem.W.codeIn K cd33 "law" = true) (k33 : PySem.W.keepIn K (.ref p33) = true)
    (z0 : PySem.W.nsIn K mainGlobals "all" = some none)
    (z1 : PySem.W.nsIn K mainGlobals "tuple" = some none)
    (z2 : PySem.W.nsIn K mainGlobals "len" = some none)
    (z3 : PySem.W.nsIn K mainGlobals "enumerate" = some none)
    (z4 : PySem.W.nsIn K mainGlobals "range" = some none)
    (z5 : PySem.W.nsIn K mainGlobals "int" = some none)
    (z6 : PySem.W.nsIn K mainGlobals "min" = some none)
    (z7 : PySem.W.nsIn K mainGlobals "dict" = some none)
    (z8 : PySem.W.nsIn K mainGlobals "any" = some none)
    (z9 : PySem.W.nsIn K mainGlobals "zip" = some none)
    (z10 : PySem.W.nsIn K mainGlobals "max" = some none)
    {t0 : Tok} (y0 : PySem.W.nsIn K mainGlobals "NUM" = some (some (.str "num" t0)))
    (lv : Nat) : ∃ fd : FuncData, (∀ (s : Shared) (v : Value), BindsTo s fd ⟨[v], []⟩ [("script", v)]) ∧ ∀ base : Heap, K.In base → base.Ns mainGlobals mg → FnOk l.prog w K mg base CX0 (lv + 1) fa fd ["script"] (spT T K (lv + 1) 33) := by
  have e := hfa.symm.trans (PySem.W.mg_of X Gn a33)
  cases e
  have G : Gb mg := ⟨PySem.W.mg_none_of X Gn z0, PySem.W.mg_none_of X Gn z1, PySem.W.mg_none_of X Gn z2, PySem.W.mg_none_of X Gn z3, PySem.W.mg_none_of X Gn z4, PySem.W.mg_none_of X Gn z5, PySem.W.mg_none_of X Gn z6, PySem.W.mg_none_of X Gn z7, PySem.W.mg_none_of X Gn z8, PySem.W.mg_none_of X Gn z9, PySem.W.mg_none_of X Gn z10, ⟨_, PySem.W.mg_of X Gn y0⟩⟩
  refine ⟨PySem.W.fnOf "law" "law" (defArgs s33) (defBody s33) (defScope s33) .none kV33 dc33 pm33 an33 cd33 ct33, fun s v => .of_eq rfl, fun base _ _ => ?_⟩
  have en : ∀ i fd, T[i]? = some fd → Entry l.prog w K mg base T i fd.name := fun i fd h => match i, h with
    | 0, h => by obtain rfl : f0 = fd := Option.some.inj h; exact e0 G (fun_mk (st := s0) l0 c0 k0) (PySem.W.mg_of X Gn a0)
    | 1, h => by obtain rfl : f1 = fd := Option.some.inj h; exact e1 G (fun_mk (st := s1) l1 c1 k1) (PySem.W.mg_of X Gn a1)
    | 2, h => by obtain rfl : f2 = fd := Option.some.inj h; exact e2 G (fun_mk (st := s2) l2 c2 k2) (PySem.W.mg_of X Gn a2)
    | 3, h => by obtain rfl : f3 = fd := Option.some.inj h; exact e3 G (fun_mk (st := s3) l3 c3 k3) (PySem.W.mg_of X Gn a3)
    | 4, h => by obtain rfl : f4 = fd := Option.some.inj h; exact e4 G (fun_mk (st := s4) l4 c4 k4) (PySem.W.mg_of X Gn a4)
    | 5, h => by obtain rfl : f5 = fd := Option.some.inj h; exact e5 G (fun_mk (st := s5) l5 c5 k5) (PySem.W.mg_of X Gn a5)
    | 6, h => by obtain rfl : f6 = fd := Option.some.inj h; exact e6 G (fun_mk (st := s6) l6 c6 k6) (PySem.W.mg_of X Gn a6)
    | 7, h => by obtain rfl : f7 = fd := Option.some.inj h; exact e7 G (fun_mk (st := s7) l7 c7 k7) (PySem.W.mg_of X Gn a7)
    | 8, h => by obtain rfl : f8 = fd := Option.some.inj h; exact e8 G (fun_mk (st := s8) l8 c8 k8) (PySem.W.mg_of X Gn a8)
    | 9, h => by obtain rfl : f9 = fd := Option.some.inj h; exact e9 G (fun_mk (st := s9) l9 c9 k9) (PySem.W.mg_of X Gn a9)
    | 10, h => by obtain rfl : f10 = fd := Option.some.inj h; exact e10 G (fun_mk (st := s10) l10 c10 k10) (PySem.W.mg_of X Gn a10)
    | 11, h => by obtain rfl : f11 = fd := Option.some.inj h; exact e11 G (fun_mk (st := s11) l11 c11 k11) (PySem.W.mg_of X Gn a11)
    | 12, h => by obtain rfl : f12 = fd := Option.some.inj h; exact e12 G (fun_mk (st := s12) l12 c12 k12) (PySem.W.mg_of X Gn a12)
    | 13, h => by obtain rfl : f13 = fd := Option.some.inj h; exact e13 G (fun_mk (st := s13) l13 c13 k13) (PySem.W.mg_of X Gn a13)
    | 14, h => by obtain rfl : f14 = fd := Option.some.inj h; exact e14 G (fun_mk (st := s14) l14 c14 k14) (PySem.W.mg_of X Gn a14)
    | 15, h => by obtain rfl : f15 = fd := Option.some.inj h; exact e15 G (fun_mk (st := s15) l15 c15 k15) (PySem.W.mg_of X Gn a15)
    | 16, h => by obtain rfl : f16 = fd := Option.some.inj h; exact e16 G (fun_mk (st := s16) l16 c16 k16) (PySem.W.mg_of X Gn a16)
    | 17, h => by obtain rfl : f17 = fd := Option.some.inj h; exact e17 G (fun_mk (st := s17) l17 c17 k17) (PySem.W.mg_of X Gn a17)
    | 18, h => by obtain rfl : f18 = fd := Option.some.inj h; exact e18 G (fun_mk (st := s18) l18 c18 k18) (PySem.W.mg_of X Gn a18)
    | 19, h => by obtain rfl : f19 = fd := Option.some.inj h; exact e19 G (fun_mk (st := s19) l19 c19 k19) (PySem.W.mg_of X Gn a19)
    | 20, h => by obtain rfl : f20 = fd := Option.some.inj h; exact e20 G (fun_mk (st := s20) l20 c20 k20) (PySem.W.mg_of X Gn a20)
    | 21, h => by obtain rfl : f21 = fd := Option.some.inj h; exact e21 G (fun_mk (st := s21) l21 c21 k21) (PySem.W.mg_of X Gn a21)
    | 22, h => by obtain rfl : f22 = fd := Option.some.inj h; exact e22 G (fun_mk (st := s22) l22 c22 k22) (PySem.W.mg_of X Gn a22)
    | 23, h => by obtain rfl : f23 = fd := Option.some.inj h; exact e23 G (fun_mk (st := s23) l23 c23 k23) (PySem.W.mg_of X Gn a23)
    | 24, h => by obtain rfl : f24 = fd := Option.some.inj h; exact e24 G (fun_mk (st := s24) l24 c24 k24) (PySem.W.mg_of X Gn a24)
    | 25, h => by obtain rfl : f25 = fd := Option.some.inj h; exact e25 G (fun_mk (st := s25) l25 c25 k25) (PySem.W.mg_of X Gn a25)
    | 26, h => by obtain rfl : f26 = fd := Option.some.inj h; exact e26 G (fun_mk (st := s26) l26 c26 k26) (PySem.W.mg_of X Gn a26)
    | 27, h => by obtain rfl : f27 = fd := Option.some.inj h; exact e27 G (fun_mk (st := s27) l27 c27 k27) (PySem.W.mg_of X Gn a27)
    | 28, h => by obtain rfl : f28 = fd := Option.some.inj h; exact e28 G (fun_mk (st := s28) l28 c28 k28) (PySem.W.mg_of X Gn a28)
    | 29, h => by obtain rfl : f29 = fd := Option.some.inj h; exact e29 G (fun_mk (st := s29) l29 c29 k29) (PySem.W.mg_of X Gn a29)
    | 30, h => by obtain rfl : f30 = fd := Option.some.inj h; exact e30 G (fun_mk (st := s30) l30 c30 k30) (PySem.W.mg_of X Gn a30)
    | 31, h => by obtain rfl : f31 = fd := Option.some.inj h; exact e31 G (fun_mk (st := s31) l31 c31 k31) (PySem.W.mg_of X Gn a31)
    | 32, h => by obtain rfl : f32 = fd := Option.some.inj h; exact e32 G (fun_mk (st := s32) l32 c32 k32) (PySem.W.mg_of X Gn a32)
    | 33, h => by obtain rfl : f33 = fd := Option.some.inj h; exact e33 G (fun_mk (st := s33) l33 c33 k33) (PySem.W.mg_of X Gn a33)
    | n + 34, h => by cases h
  exact entry_fn (D := f33) rfl (fun_mk (st := s33) l33 c33 k33) sc33 (fun k cdv A outer s H E C => d33 G C) lv (tab_ok en lv)
end K19
set_option Elab.async false
open PySem PySem.W PyProof.Rows
set_option maxRecDepth 100000 in
set_option maxHeartbeats 0 in
theorem PySem.Challenge.cw_courtwide_k19_whole_lines_put_together_holds : PySem.Challenge.rw_courtwide_k19_whole_lines_put_together.Holds := by
  w_on; o_law; k_head; (case hw => w_witness2)
  k_fill
  refine Cw.law_walk (l := PySem.Challenge.rw_courtwide_k19_whole_lines_put_together) (39 + 1) ⟨rfl, by decide, by decide⟩ K19.pure rfl rfl (fun w h Y => PySem.W.kIn_of Y) ?F
  case F =>
    intro w mg fa h KX G hmg
    refine' K19.all_mk KX G hmg ?a0 ?l0 ?c0 ?k0 ?a1 ?l1 ?c1 ?k1 ?a2 ?l2 ?c2 ?k2 ?a3 ?l3 ?c3 ?k3 ?a4 ?l4 ?c4 ?k4 ?a5 ?l5 ?c5 ?k5 ?a6 ?l6 ?c6 ?k6 ?a7 ?l7 ?c7 ?k7 ?a8 ?l8 ?c8 ?k8 ?a9 ?l9 ?c9 ?k9 ?a10 ?l10 ?c10 ?k10 ?a11 ?l11 ?c11 ?k11 ?a12 ?l12 ?c12 ?k12 ?a13 ?l13 ?c13 ?k13 ?a14 ?l14 ?c14 ?k14 ?a15 ?l15 ?c15 ?k15 ?a16 ?l16 ?c16 ?k16 ?a17 ?l17 ?c17 ?k17 ?a18 ?l18 ?c18 ?k18 ?a19 ?l19 ?c19 ?k19 ?a20 ?l20 ?c20 ?k20 ?a21 ?l21 ?c21 ?k21 ?a22 ?l22 ?c22 ?k22 ?a23 ?l23 ?c23 ?k23 ?a24 ?l24 ?c24 ?k24 ?a25 ?l25 ?c25 ?k25 ?a26 ?l26 ?c26 ?k26 ?a27 ?l27 ?c27 ?k27 ?a28 ?l28 ?c28 ?k28 ?a29 ?l29 ?c29 ?k29 ?a30 ?l30 ?c30 ?k30 ?a31 ?l31 ?c31 ?k31 ?a32 ?l32 ?c32 ?k32 ?a33 ?l33 ?c33 ?k33 ?z0 ?z1 ?z2 ?z3 ?z4 ?z5 ?z6 ?z7 ?z8 ?z9 ?z10 ?y0 39
    (case a0 => k_is); (case l0 => k_is); (case c0 => k_is); (case k0 => k_is)
    (case a1 => k_is); (case l1 => k_is); (case c1 => k_is); (case k1 => k_is)
    (case a2 => k_is); (case l2 => k_is); (case c2 => k_is); (case k2 => k_is)
    (case a3 => k_is); (case l3 => k_is); (case c3 => k_is); (case k3 => k_is)
    (case a4 => k_is); (case l4 => k_is); (case c4 => k_is); (case k4 => k_is)
    (case a5 => k_is); (case l5 => k_is); (case c5 => k_is); (case k5 => k_is)
    (case a6 => k_is); (case l6 => k_is); (case c6 => k_is); (case k6 => k_is)
    (case a7 => k_is); (case l7 => k_is); (case c7 => k_is); (case k7 => k_is)
    (case a8 => k_is); (case l8 => k_is); (case c8 => k_is); (case k8 => k_is)
    (case a9 => k_is); (case l9 => k_is); (case c9 => k_is); (case k9 => k_is)
    (case a10 => k_is); (case l10 => k_is); (case c10 => k_is); (case k10 => k_is)
    (case a11 => k_is); (case l11 => k_is); (case c11 => k_is); (case k11 => k_is)
    (case a12 => k_is); (case l12 => k_is); (case c12 => k_is); (case k12 => k_is)
    (case a13 => k_is); (case l13 => k_is); (case c13 => k_is); (case k13 => k_is)
    (case a14 => k_is); (case l14 => k_is); (case c14 => k_is); (case k14 => k_is)
    (case a15 => k_is); (case l15 => k_is); (case c15 => k_is); (case k15 => k_is)
    (case a16 => k_is); (case l16 => k_is); (case c16 => k_is); (case k16 => k_is)
    (case a17 => k_is); (case l17 => k_is); (case c17 => k_is); (case k17 => k_is)
    (case a18 => k_is); (case l18 => k_is); (case c18 => k_is); (case k18 => k_is)
    (case a19 => k_is); (case l19 => k_is); (case c19 => k_is); (case k19 => k_is)
    (case a20 => k_is); (case l20 => k_is); (case c20 => k_is); (case k20 => k_is)
    (case a21 => k_is); (case l21 => k_is); (case c21 => k_is); (case k21 => k_is)
    (case a22 => k_is); (case l22 => k_is); (case c22 => k_is); (case k22 => k_is)
    (case a23 => k_is); (case l23 => k_is); (case c23 => k_is); (case k23 => k_is)
    (case a24 => k_is); (case l24 => k_is); (case c24 => k_is); (case k24 => k_is)
    (case a25 => k_is); (case l25 => k_is); (case c25 => k_is); (case k25 => k_is)
    (case a26 => k_is); (case l26 => k_is); (case c26 => k_is); (case k26 => k_is)
    (case a27 => k_is); (case l27 => k_is); (case c27 => k_is); (case k27 => k_is)
    (case a28 => k_is); (case l28 => k_is); (case c28 => k_is); (case k28 => k_is)
    (case a29 => k_is); (case l29 => k_is); (case c29 => k_is); (case k29 => k_is)
    (case a30 => k_is); (case l30 => k_is); (case c30 => k_is); (case k30 => k_is)
    (case a31 => k_is); (case l31 => k_is); (case c31 => k_is); (case k31 => k_is)
    (case a32 => k_is); (case l32 => k_is); (case c32 => k_is); (case k32 => k_is)
    (case a33 => k_is); (case l33 => k_is); (case c33 => k_is); (case k33 => k_is)
    (case z0 => k_is)
    (case z1 => k_is)
    (case z2 => k_is)
    (case z3 => k_is)
    (case z4 => k_is)
    (case z5 => k_is)
    (case z6 => k_is)
    (case z7 => k_is)
    (case z8 => k_is)
    (case z9 => k_is)
    (case z10 => k_is)
    (case y0 => k_is)
