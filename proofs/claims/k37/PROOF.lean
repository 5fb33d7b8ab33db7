import PyProof.Rows.All
import Wide.All
import OpenK.AllK
import Wide.FinOn
import HandS.ForMost
import HandS.IsInst
import HandS.Walk
import HandS.TupAny
import HandS.TupMul
import HandS.CallLocal
import HandS.Style
import HandS.Flow
import HandS.Conv
import HandS.SortInts
import HandS.Wide
import HandS.Strs
import KE.GoesMore
import HandS.ReCall
import HandS.More
import KE.KRevSl
import PySem.Challenge.RW_sheetspaces_k37_whole_what_is_what_it_is
set_option Elab.async false
set_option linter.all false
set_option maxRecDepth 100000
set_option maxHeartbeats 4000000
/-! semantic readings: the weakest readings of the syntax itself; no term is written -/
namespace Sp
open PySem L2

structure WE (X : Cx) (e : Expr) (σ : L2.St) (H : Hp) (Q : VK) : Prop where
  run : ∀ (pins : List (Addr × Obj)) (s : Shared), Inv X pins σ H s → wpAny (model X.prog X.w) X.A (eval e X.env) (EP X pins σ Q) X.xe s
structure WT (X : Cx) (e : Expr) (σ : L2.St) (H : Hp) (Q : Bool → Hp → Prop) : Prop where
  run : ∀ (pins : List (Addr × Obj)) (s : Shared), Inv X pins σ H s → wpAny (model X.prog X.w) X.A (isTrue e X.env (eval e X.env)) (TP X pins σ Q) X.xe s
structure WW (X : Cx) (e : Expr) (σ : L2.St) (H : Hp) (Q : Bool → Hp → Prop) : Prop where
  run : ∀ (wh : Sem Value) (pins : List (Addr × Obj)) (s : Shared), Inv X pins σ H s → wpAny (model X.prog X.w) X.A (isTrue e X.env wh) (TP X pins σ Q) X.xe s
structure WA (X : Cx) (es : List Expr) (σ : L2.St) (H : Hp) (Q : List V → Hp → Prop) : Prop where
  run : ∀ (pos : Pos) (pins : List (Addr × Obj)) (s : Shared), Inv X pins σ H s → wpAny (model X.prog X.w) X.A (spliced (backTo pos (starEach es X.env))) (AP X pins σ Q) X.xe s
structure WB (X : Cx) (sts : List Stmt) (D : Ends) (σ : L2.St) (H : Hp) : Prop where
  run : ∀ (pins : List (Addr × Obj)) (s : Shared), Inv X pins σ H s → wpAny (model X.prog X.w) X.A (execs sts X.env) (SP X pins D) X.xe s
theorem pe_w {X : Cx} {e : Expr} : PE X e (WE X e) := ⟨fun pins s _ _ _ I h => h.run pins s I⟩
theorem pt_w {X : Cx} {e : Expr} : PT X e (WT X e) := ⟨fun pins s _ _ _ I h => h.run pins s I⟩
theorem pw_w {X : Cx} {e : Expr} : PW X e (WW X e) := ⟨fun wh pins s _ _ _ I h => h.run wh pins s I⟩
theorem pa_w {X : Cx} {es : List Expr} : PA X es (WA X es) := ⟨fun pos pins s _ _ _ I h => h.run pos pins s I⟩
theorem pb_w {X : Cx} {sts : List Stmt} : PSs X sts (WB X sts) := ⟨fun pins s _ _ _ I h => h.run pins s I⟩

section
variable {X : Cx} {σ : L2.St} {H : Hp} {e a b c : Expr} {t : TE} {tt : TT} {pos : Pos}
theorem we_of {Q : VK} (h : PE X e t) (ht : t σ H Q) : WE X e σ H Q := ⟨fun pins s I => h.run pins s σ H Q I ht⟩
theorem wt_of {Q : Bool → Hp → Prop} (h : PT X e tt) (ht : tt σ H Q) : WT X e σ H Q := ⟨fun pins s I => h.run pins s σ H Q I ht⟩
theorem ww_of {Q : Bool → Hp → Prop} (h : PW X e tt) (ht : tt σ H Q) : WW X e σ H Q := ⟨fun wh pins s I => h.run wh pins s σ H Q I ht⟩
theorem wa_of {es : List Expr} {ta : TA} {Q : List V → Hp → Prop} (h : PA X es ta) (ht : ta σ H Q) : WA X es σ H Q := ⟨fun pos pins s I => h.run pos pins s σ H Q I ht⟩
theorem wb_of {sts : List Stmt} {ts : TS} {D : Ends} (h : PSs X sts ts) (ht : ts D σ H) : WB X sts D σ H := ⟨fun pins s I => h.run pins s σ H D I ht⟩
theorem WE.mono {Q Q' : VK} (h : WE X e σ H Q) (k : ∀ v H', Q v H' → Q' v H') : WE X e σ H Q' := ⟨fun pins s I =>
  thn (h.run pins s I) fun _ _ ⟨v, H', I', r, q⟩ => ⟨v, H', I', r, k v H' q⟩⟩

/-! ### arguments -/
theorem wa_nil {Q : List V → Hp → Prop} (h : Q [] H) : WA X [] σ H Q := wa_of pa_nil h
theorem wa_cons {es : List Expr} {Q : List V → Hp → Prop} (h : WE X e σ H fun x H1 => WA X es σ H1 fun xs H2 => Q (x :: xs) H2)
    (hs : starEach (e :: es) X.env = (false, eval e X.env) :: starEach es X.env) : WA X (e :: es) σ H Q := wa_of (pa_cons pe_w pa_w hs) h

/-! ### statements, by the first one -/
variable {D : Ends} {st : Stmt} {rest : List Stmt}
theorem wb_nil (h : D.nx σ H) : WB X [] D σ H := wb_of pss_nil h
theorem wb_ps {ts : TS} (p : PS X st ts) (h : ts { D with nx := WB X rest D } σ H) : WB X (st :: rest) D σ H := wb_of (pss_cons p pb_w) h
theorem wb_ret (h : WE X e σ H D.rt) : WB X (.Return (some e) pos :: rest) D σ H := wb_ps (ps_ret pe_w) h
theorem wb_if {ys ns : List Stmt} (h : WT X c σ H fun k H1 => if k = true then WB X ys { D with nx := WB X rest D } σ H1 else WB X ns { D with nx := WB X rest D } σ H1) :
    WB X (.If c ys ns pos :: rest) D σ H := wb_ps (ps_if pt_w pb_w pb_w) h
theorem wb_asg {tg : Expr} {g : TG} (p : PG X tg g) (h : WE X e σ H fun x H1 => g x σ H1 (WB X rest D)) (hs : swapsWithSole [tg] e pos.line X.env = pure false := by rfl) (hw : swappedStores [tg] e X.env = pure none := by rfl)
    (h1 : (assignEach [tg] X.env).map (fun z => z.2) = [assign tg X.env] := by rfl) : WB X (.Assign [tg] e pos :: rest) D σ H := wb_ps (ps_asg pe_w p hs hw h1) h
theorem wb_set (i : Nat) {x : Str} {pos' : Pos} (h : WE X e σ H fun v H1 => WB X rest D (σ.set i (some v)) H1) (hN : X.N.Nodup) (hi : X.N[i]? = some x := by rfl) (hx : Loc X.env.scope x := by first | exact .inl rfl | exact .inr rfl)
    (hs : swapsWith e (some (.Name x pos')) pos.line X.env = pure false := by rfl) (hf : X.fn x = true ∨ X.env.scope.names.lookup x = some .local := by first | exact .inl rfl | exact .inr rfl) :
    WB X (.Assign [.Name x pos'] e pos :: rest) D σ H := wb_ps (ps_set hN hi hx pe_w hs hf) h
theorem wb_expr (h : WE X e σ H fun _ H1 => WB X rest D σ H1) (hs : swapsWith e none pos.line X.env = pure false := by rfl) : WB X (.Expr e pos :: rest) D σ H := wb_ps (ps_expr pe_w hs) h
end
end Sp
/-! tuples made at run time, their objects kept in mind: no dict hangs on them (t.index wants that) -/
namespace Sp
open PySem L2 PySem.Spec PyProof.Rows
/-- a tuple that is read; one of four members is known to have no dict -/
def SqU (K : PySem.W.Frag) (H : Hp) (a : Addr) (xs : List V) : Prop := SqT K H a xs ∧ (xs.length = 4 → ∃ o, H a = some (.frz o (.tup xs)) ∧ o.dict = none)
theorem SqU.t {K : PySem.W.Frag} {H : Hp} {a : Addr} {xs : List V} (h : SqU K H a xs) : SqT K H a xs := h.1
theorem SqU.frz {K : PySem.W.Frag} {H : Hp} {a : Addr} {xs : List V} {o : Obj} (h : H a = some (.frz o (.tup xs))) (d : o.dict = none) : SqU K H a xs := ⟨.inl (.inr ⟨o, h⟩), fun _ => ⟨o, h, d⟩⟩
theorem SqU.two {K : PySem.W.Frag} {H : Hp} {a : Addr} {x y : V} (h : SqT K H a [x, y]) : SqU K H a [x, y] := ⟨h, fun z => by simp at z⟩
/-- what is laid -/
abbrev NewT (Q : VK) (H : Hp) (xs : List V) : Prop := ∀ p o, H p = none → o.dict = none → Q (.ref p) (upd H p (.frz o (.tup xs)))
section
variable {X : Cx} {pins : List (Addr × Obj)} {σ : L2.St} {H : Hp} {s : Shared} {its : List Value} {xs : List V} {Q : VK}
theorem newT (I : Inv X pins σ H s) (r : Vals xs its) (z : xs.length ≤ sizeLine) (q : NewT Q H xs) :
    EP X pins σ Q (.ref s.heap.objs.size) { s with heap := s.heap.push { cls := .type "tuple", data := .seq its.toArray } } := by
  have e : (s.heap.push { cls := .type "tuple", data := .seq its.toArray }).get? s.heap.objs.size = some { cls := .type "tuple", data := .seq its.toArray } := Heap.get?_push_size _ rfl
  have ok : ∀ H', ObjOk X.prog X.w H' (s.heap.push { cls := .type "tuple", data := .seq its.toArray }) s.heap.objs.size (.frz { cls := .type "tuple", data := .seq its.toArray } (.tup xs)) := fun H' => ⟨e, z, its, r, ⟨_, e, rfl, _, rfl⟩⟩
  have fr : H s.heap.objs.size = none := I.hok.fresh (Nat.le_refl _)
  exact ⟨.ref _, _, I.laid (t' := s.toks) (fun b ob q => Heap.get?_push_of_some _ q) (Nat.le_refl _) (ok _), rfl, q _ _ fr rfl⟩
end
section
variable {X : Cx} {es : List Expr} {t : TA} {pos : Pos}
def tTupF (t : TA) : TE := fun σ H Q => t σ H fun xs H1 => xs.length ≤ sizeLine ∧ NewT Q H1 xs
theorem pe_tupF {k : Nat} (h : PA X es t) : PE X (.Tuple es k pos) (tTupF t) := by
  refine ⟨fun pins s σ H Q I hq => wpAny_Tuple_spliced ?_⟩
  refine thn (h.run pos pins s σ H _ I hq) fun us s1 ⟨xs, H1, I1, r, z, q⟩ => ?_
  have z' : us.length ≤ sizeLine := by rw [← r.length]; exact z
  exact ⟨z', newT I1 r z q⟩
def rCatF (K : PySem.W.Frag) : R2 := fun x y H Q => ∃ a b xs ys, (x = .ref a ∧ y = .ref b) ∧ (SqT K H a xs ∧ SqT K H b ys) ∧ xs.length + ys.length ≤ sizeLine ∧
  ((xs = [] → Q (.ref b) H) ∧ (xs ≠ [] → ys = [] → Q (.ref a) H) ∧ (xs ≠ [] → ys ≠ [] → NewT Q H (xs ++ ys)))
theorem op_catF : OpR X (binaryOp .Add) (rCatF X.K) := by
  rintro pins s σ H x y v u Q I rx ry ⟨a, b, xs, ys, ⟨rfl, rfl⟩, ⟨ha, hb⟩, hz, q0, q1, q2⟩
  cases rx; cases ry
  obtain ⟨its, r1, p1, _⟩ := I.tuple ha
  obtain ⟨its2, r2, p2, _⟩ := I.tuple hb
  by_cases hx : xs = []
  · subst hx; cases r1
    exact cat_tup0 p1 p2 ⟨.ref b, H, I, rfl, q0 rfl⟩
  have n2 := r2.nil_iff
  have hl : its.length + its2.length ≤ sizeLine := by rw [← r1.length, ← r2.length]; exact hz
  refine HT.cat_tup p1 p2 (fun z => hx (r1.nil_iff.mp z)) (fun z => ⟨.ref a, H, I, rfl, q1 hx (n2.mp z)⟩) (fun z => ?_) hl
  exact newT I (r1.append r2) (by rw [List.length_append]; exact hz) (q2 hx fun w => z (n2.mpr w))
theorem call_tupF : CallR X (.type "tuple") (fun xs H Q => ∃ p ys, xs = [.ref p] ∧ SqL X.K H p ys ∧ NewT Q H ys) := by
  rintro pins s σ H xs us Q I r ⟨p, ys, rfl, hq, q⟩
  obtain ⟨u, rfl, rx⟩ := vals1 r
  cases rx
  obtain ⟨its, r', pl, hz⟩ := I.list hq
  have hlen := r'.length
  refine call_tuple_list pl.isList (fun h' kp => ?_) (by rw [List.size_toArray]; omega)
  exact newT (I.kept (t' := s.toks) kp) r' hz q
def rSlF (K : PySem.W.Frag) : V → Option Int → Option Int → Hp → VK → Prop := fun x lo hi H Q => ∃ a xs, x = .ref a ∧ SqT K H a xs ∧
  ((HT.sIx xs.length 0 lo = 0 ∧ HT.sIx xs.length xs.length hi = xs.length → Q (.ref a) H) ∧ (¬ (HT.sIx xs.length 0 lo = 0 ∧ HT.sIx xs.length xs.length hi = xs.length) → NewT Q H (cutV xs lo hi)))
theorem sl_tupF : SlR X (rSlF X.K) := by
  rintro pins s σ H x v vl vu lo hi sl Q I rx hs pl pu ⟨a, xs, rfl, hx, q1, q2⟩
  cases rx
  obtain ⟨its, r, ht, hz⟩ := I.tuple hx
  have hlen : xs.length = its.toArray.size := by rw [List.size_toArray]; exact r.length
  rw [hlen] at q1 q2
  refine ⟨"tuple", _, slot_tuple_getitem.lookup, ht.typeIs, ?_⟩
  by_cases hw : HT.sIx its.toArray.size 0 lo = 0 ∧ HT.sIx its.toArray.size its.toArray.size hi = its.toArray.size
  · exact getItem_tuple_whole ht hs pl pu hw ⟨.ref a, H, I, rfl, q1 hw⟩
  · refine HT.getItem_tuple_cut ht hs pl pu hw ?_ (by rw [← hlen]; exact hz)
    have rr := (r.drop (HT.sIx its.toArray.size 0 lo)).take (HT.sIx its.toArray.size its.toArray.size hi - HT.sIx its.toArray.size 0 lo)
    refine newT I rr ?_ ?_
    · have := cutV_length xs lo hi
      unfold cutV at this
      rw [hlen] at this
      exact Nat.le_trans this (by rw [← hlen]; exact hz)
    · have := q2 hw
      unfold cutV at this
      rw [hlen] at this
      exact this
/-- a tuple some times -/
def rRepF (K : PySem.W.Frag) : R2 := fun x y H Q => ∃ l k xs, (x = .ref l ∧ y = .int k) ∧ SqT K H l xs ∧ xs ≠ [] ∧ (2 ≤ k ∧ k ≤ 1000) ∧ xs.length ≤ 1000 ∧ NewT Q H (List.replicate k.toNat xs).flatten
theorem op_repF : OpR X (binaryOp .Mult) (rRepF X.K) := by
  rintro pins s σ H x y v u Q I rx ry ⟨l, k, xs, ⟨rfl, rfl⟩, hT, hne, ⟨h1, h2⟩, hz, q⟩
  cases rx
  obtain ⟨t, rfl⟩ := ry
  obtain ⟨its, r, ⟨⟨cls, dd, data, sl⟩, ho, hc, n, hd⟩, hs⟩ := I.tuple hT
  simp only at hc hd
  subst hc hd
  have hle := r.length
  have hi : its.toArray.isEmpty = false := by
    cases its with
    | nil => cases r; exact absurd rfl hne
    | cons a b => rfl
  have sz : its.toArray.size = xs.length := by rw [List.size_toArray, hle]
  have kk : k.toNat * xs.length ≤ 1000 * 1000 := Nat.mul_le_mul (by omega) hz
  have hm : ((its.toArray.size : Nat) : Int) * k ≤ 1000000 := by
    rw [sz]
    have := Int.mul_le_mul_of_nonneg_right (a := (xs.length : Int)) (b := 1000) (c := k) (by omega) (by omega)
    omega
  have fl : (List.replicate k.toNat its).flatten.length ≤ sizeLine := by rw [lm_len_rep_flat, ← hle, sizeLine_eq]; omega
  have fl2 : (List.replicate k.toNat xs).flatten.length ≤ sizeLine := by rw [lm_len_rep_flat, sizeLine_eq]; omega
  have c0 : (decide (k < -(2 ^ 63)) || decide (k ≥ 2 ^ 63)) = false := by
    simp only [Bool.or_eq_false_iff, decide_eq_false_iff_not]; omega
  have c1 : (its.toArray.isEmpty || k == 1) = false := by rw [hi]; exact beq_eq_false_iff_ne.mpr (by omega)
  have c2 : (decide (k ≤ 0) || its.toArray.isEmpty) = false := by rw [hi, Bool.or_false]; simp; omega
  have c4 : Builtin.Tuple.tupleTooMany (((its.toArray.size : Nat) : Int) * k) = false := by
    unfold Builtin.Tuple.tupleTooMany
    rw [sizeLine_eq]; exact decide_eq_false (by omega)
  refine wpAny_binaryOp_repeat_ref (T := "tuple") (U := "int") (by decide) ⟨_, ho, rfl⟩ (fun s' => typeIs_int s' k t) noFill_tuple_mul F.fills_int_mul F.slot_int_rmul repeat_tuple F.slot_int_index.lookup
    (call_meets F.slot_int_rmul (typeIs_int s k t) F.entry_int_rmul (F.args_int_rmul_2 _ _) (int_rmul_tuple k t l its.toArray n dd sl) ⟨ho, rfl, ⟨_, ho, rfl⟩, ?_⟩)
  refine call_meets F.slot_tuple_mul ⟨_, ho, rfl⟩ F.entry_tuple_mul (F.args_tuple_mul_2 _ _) (tuple_mulW l its.toArray n dd sl k t c0 c1 c2 (by omega) c4 (by rw [size_rep, List.size_toArray]; exact fl)) ⟨ho, ?_⟩
  rw [size_rep]
  exact newT I (r.rep k.toNat) fl2 q
end
end Sp
/-! data: what a value stands for in a heap; judgements that hand on data -/
namespace Sp
open PySem L2
abbrev Dt := PyData

end Sp
namespace L2
open PySem Sp
/-! ### heaps that keep -/
theorem SqT.kept {K : PySem.W.Frag} {H H' : Hp} (e : Same H H') {a : Addr} {xs : List V} (h : SqT K H a xs) : SqT K H' a xs := by
  rcases h with (h | ⟨o, h⟩) | h
  · exact .inl (.inl (e _ _ h))
  · exact .inl (.inr ⟨o, e _ _ h⟩)
  · exact .inr h
theorem SqU.kept {K : PySem.W.Frag} {H H' : Hp} (e : Same H H') {a : Addr} {xs : List V} (h : SqU K H a xs) : SqU K H' a xs := ⟨SqT.kept e h.1, fun z => by
  obtain ⟨o, h1, h2⟩ := h.2 z
  exact ⟨o, e _ _ h1, h2⟩⟩
mutual
/-- what a value stands for, its tuples as told -/
inductive Dc (K : PySem.W.Frag) (H : Hp) : V → Dt → Prop
  | non : Dc K H .non .none
  | bl (b : Bool) : Dc K H (.bl b) (.bool b)
  | int (i : Int) : Dc K H (.int i) (.int i)
  | str (x : Str) : Dc K H (.str x) (.str x)
  | lst {a : Addr} {xs : List V} {ds : List Dt} (h : SqL K H a xs) (t : DcAll K H xs ds) : Dc K H (.ref a) (.list ds)
  | tup {a : Addr} {xs : List V} {ds : List Dt} (h : SqU K H a xs) (t : DcAll K H xs ds) : Dc K H (.ref a) (.tuple ds)
inductive DcAll (K : PySem.W.Frag) (H : Hp) : List V → List Dt → Prop
  | nil : DcAll K H [] []
  | cons {v : V} {vs : List V} {d : Dt} {ds : List Dt} (h : Dc K H v d) (t : DcAll K H vs ds) : DcAll K H (v :: vs) (d :: ds)
end
mutual
theorem Dc.dp {K : PySem.W.Frag} {H : Hp} : ∀ {v : V} {d : Dt}, Dc K H v d → Dp K H v d
  | _, _, .non => .non
  | _, _, .bl b => .bl b
  | _, _, .int i => .int i
  | _, _, .str x => .str x
  | _, _, .lst h a => .lst h (DcAll.dp a)
  | _, _, .tup h a => .tup h.1 (DcAll.dp a)
theorem DcAll.dp {K : PySem.W.Frag} {H : Hp} : ∀ {vs : List V} {ds : List Dt}, DcAll K H vs ds → DpAll K H vs ds
  | _, _, .nil => .nil
  | _, _, .cons h t => .cons (Dc.dp h) (DcAll.dp t)
end
mutual
theorem Dc.kept {K : PySem.W.Frag} {H H' : Hp} (e : Same H H') : ∀ {v : V} {d : Dt}, Dc K H v d → Dc K H' v d
  | _, _, .non => .non
  | _, _, .bl b => .bl b
  | _, _, .int i => .int i
  | _, _, .str x => .str x
  | _, _, .lst h a => .lst (e.seq h) (DcAll.kept e a)
  | _, _, .tup h a => .tup (SqU.kept e h) (DcAll.kept e a)
theorem DcAll.kept {K : PySem.W.Frag} {H H' : Hp} (e : Same H H') : ∀ {vs : List V} {ds : List Dt}, DcAll K H vs ds → DcAll K H' vs ds
  | _, _, .nil => .nil
  | _, _, .cons h t => .cons (Dc.kept e h) (DcAll.kept e t)
end
theorem Same.new {H : Hp} {p : Addr} {o : HO} (h : H p = none) : Same H (upd H p o) := fun a u e => by
  rw [upd_ne (ne_of_none e h)]; exact e
theorem Same.mut {H H' : Hp} {p : Addr} {o : HO} (e : Same H H') (h : H p = none) : Same H (upd H' p o) := fun a u ha => by
  rw [upd_ne (ne_of_none ha h)]; exact e a u ha

/-! ### data without lists: it stands whatever happens to lists -/
mutual
def fz : Dt → Bool
  | .none | .bool _ | .int _ | .str _ => true
  | .tuple xs => fzA xs
  | .list _ | .dict _ => false
def fzA : List Dt → Bool
  | [] => true
  | x :: xs => fz x && fzA xs
end
/-- all tuples stand -/
structure TSame (K : PySem.W.Frag) (H H' : Hp) : Prop where
  t : ∀ b xs, SqT K H b xs → SqT K H' b xs
  f : ∀ b o xs, H b = some (.frz o (.tup xs)) → H' b = some (.frz o (.tup xs))
theorem TSame.u {K : PySem.W.Frag} {H H' : Hp} (e : TSame K H H') {b : Addr} {xs : List V} (h : SqU K H b xs) : SqU K H' b xs := ⟨e.t _ _ h.1, fun z => by
  obtain ⟨o, h1, h2⟩ := h.2 z
  exact ⟨o, e.f _ _ _ h1, h2⟩⟩
theorem TSame.refl {K : PySem.W.Frag} {H : Hp} : TSame K H H := ⟨fun _ _ h => h, fun _ _ _ h => h⟩
theorem TSame.trans {K : PySem.W.Frag} {H H1 H2 : Hp} (a : TSame K H H1) (b : TSame K H1 H2) : TSame K H H2 := ⟨fun x xs h => b.t x xs (a.t x xs h), fun x o xs h => b.f x o xs (a.f x o xs h)⟩
theorem Same.tup {K : PySem.W.Frag} {H H' : Hp} (e : Same H H') : TSame K H H' := ⟨fun _ _ h => SqT.kept e h, fun _ _ _ h => e _ _ h⟩
theorem TSame.lst {K : PySem.W.Frag} {H : Hp} {p : Addr} {xs : List V} {o : HO} (h : H p = some (.lst xs)) : TSame K H (upd H p o) := ⟨fun b ys q => by
  rcases q with (q | ⟨u, q⟩) | q
  · exact .inl (.inl (by rw [upd_ne (ne_of q h (by intro z; cases z))]; exact q))
  · exact .inl (.inr ⟨u, by rw [upd_ne (ne_of q h (by intro z; cases z))]; exact q⟩)
  · exact .inr q, fun b u ys q => by rw [upd_ne (ne_of q h (by intro z; cases z))]; exact q⟩
mutual
theorem Dc.fz {K : PySem.W.Frag} {H H' : Hp} (e : TSame K H H') : ∀ {v : V} {d : Dt}, Dc K H v d → L2.fz d = true → Dc K H' v d
  | _, _, .non, _ => .non
  | _, _, .bl b, _ => .bl b
  | _, _, .int i, _ => .int i
  | _, _, .str x, _ => .str x
  | _, _, .lst _ _, z => by simp [L2.fz] at z
  | _, _, .tup h a, z => .tup (e.u h) (DcAll.fz e a (by simpa [L2.fz] using z))
theorem DcAll.fz {K : PySem.W.Frag} {H H' : Hp} (e : TSame K H H') : ∀ {vs : List V} {ds : List Dt}, DcAll K H vs ds → fzA ds = true → DcAll K H' vs ds
  | _, _, .nil, _ => .nil
  | _, _, .cons h t, z => by
    have z' := Bool.and_eq_true_iff.mp (by simpa [L2.fzA] using z : (L2.fz _ && fzA _) = true)
    exact .cons (Dc.fz e h z'.1) (DcAll.fz e t z'.2)
end
theorem fzA_iff : ∀ {ds : List Dt}, fzA ds = true ↔ ∀ d ∈ ds, fz d = true
  | [] => by simp [fzA]
  | d :: ds => by simp [fzA, fzA_iff (ds := ds)]

section
variable {K : PySem.W.Frag} {H : Hp}
theorem DcAll.length : ∀ {vs : List V} {ds : List Dt}, DcAll K H vs ds → vs.length = ds.length
  | _, _, .nil => rfl
  | _, _, .cons _ t => by rw [List.length_cons, List.length_cons, DcAll.length t]
theorem DcAll.get : ∀ {vs : List V} {ds : List Dt} {i : Nat} {d : Dt}, DcAll K H vs ds → ds[i]? = some d → ∃ v, vs[i]? = some v ∧ Dc K H v d
  | _, _, _, _, .nil, e => by simp at e
  | _, _, 0, _, .cons h _, e => by simp at e; subst e; exact ⟨_, rfl, h⟩
  | _, _, i + 1, _, .cons _ t, e => by
    obtain ⟨v, h1, h2⟩ := DcAll.get (i := i) t (by simpa using e)
    exact ⟨v, by simpa using h1, h2⟩
theorem DcAll.got : ∀ {vs : List V} {ds : List Dt} {i : Nat} {v : V}, DcAll K H vs ds → vs[i]? = some v → ∃ d, ds[i]? = some d ∧ Dc K H v d
  | _, _, _, _, .nil, e => by simp at e
  | _, _, 0, _, .cons h _, e => by simp at e; subst e; exact ⟨_, rfl, h⟩
  | _, _, i + 1, _, .cons _ t, e => by
    obtain ⟨v, h1, h2⟩ := DcAll.got (i := i) t (by simpa using e)
    exact ⟨v, by simpa using h1, h2⟩
theorem DcAll.append : ∀ {vs ws : List V} {ds es : List Dt}, DcAll K H vs ds → DcAll K H ws es → DcAll K H (vs ++ ws) (ds ++ es)
  | _, _, _, _, .nil, q => q
  | _, _, _, _, .cons h t, q => .cons h (DcAll.append t q)
theorem DcAll.drop : ∀ {vs : List V} {ds : List Dt} (n : Nat), DcAll K H vs ds → DcAll K H (vs.drop n) (ds.drop n)
  | _, _, 0, h => h
  | _, _, n + 1, .nil => .nil
  | _, _, n + 1, .cons _ t => DcAll.drop n t
theorem DcAll.take : ∀ {vs : List V} {ds : List Dt} (n : Nat), DcAll K H vs ds → DcAll K H (vs.take n) (ds.take n)
  | _, _, 0, _ => .nil
  | _, _, n + 1, .nil => .nil
  | _, _, n + 1, .cons h t => .cons h (DcAll.take n t)
theorem DcAll.one {v : V} {d : Dt} (h : Dc K H v d) : DcAll K H [v] [d] := .cons h .nil
theorem DcAll.get1 {vs : List V} {d : Dt} (h : DcAll K H vs [d]) : ∃ v, vs = [v] ∧ Dc K H v d := by
  cases h with | cons h t => cases t; exact ⟨_, rfl, h⟩
theorem DcAll.get2 {vs : List V} {d e : Dt} (h : DcAll K H vs [d, e]) : ∃ v w, vs = [v, w] ∧ Dc K H v d ∧ Dc K H w e := by
  cases h with | cons h t => cases t with | cons h2 t => cases t; exact ⟨_, _, rfl, h, h2⟩
theorem DcAll.get3 {vs : List V} {d e f : Dt} (h : DcAll K H vs [d, e, f]) : ∃ u v w, vs = [u, v, w] ∧ Dc K H u d ∧ Dc K H v e ∧ Dc K H w f := by
  cases h with | cons h t => cases t with | cons h2 t => cases t with | cons h3 t => cases t; exact ⟨_, _, _, rfl, h, h2, h3⟩
theorem dp_ints : ∀ {vs : List V} {ns : List Int}, DcAll K H vs (ns.map PyData.int) → vs = ns.map V.int
  | _, [], h => by cases h; rfl
  | _, n :: ns, h => by
    cases h with | cons h t => cases h; rw [dp_ints t]; rfl
theorem ints_dp : ∀ {ns : List Int}, DcAll K H (ns.map V.int) (ns.map PyData.int)
  | [] => .nil
  | n :: ns => .cons (.int n) ints_dp
theorem dp_bools : ∀ {vs : List V} {ns : List Bool}, DcAll K H vs (ns.map PyData.bool) → vs = ns.map V.bl
  | _, [], h => by cases h; rfl
  | _, n :: ns, h => by
    cases h with | cons h t => cases h; rw [dp_bools t]; rfl
end

end L2
namespace Sp
open PySem L2
/-! ### judgements -/
section
variable (X : Cx)
def Pd (e : Expr) (σ : L2.St) (H : Hp) (d : Dt) : Prop := ∀ H1, Same H H1 → ∀ Q : VK, (∀ v H2, Same H1 H2 → Dc X.K H2 v d → Q v H2) → WE X e σ H1 Q
def Pt (e : Expr) (σ : L2.St) (H : Hp) (b : Bool) : Prop := ∀ H1, Same H H1 → ∀ Q : Bool → Hp → Prop, (∀ H2, Same H1 H2 → Q b H2) → WT X e σ H1 Q
def Pw (e : Expr) (σ : L2.St) (H : Hp) (b : Bool) : Prop := ∀ H1, Same H H1 → ∀ Q : Bool → Hp → Prop, (∀ H2, Same H1 H2 → Q b H2) → WW X e σ H1 Q
def Pa (es : List Expr) (σ : L2.St) (H : Hp) (ds : List Dt) : Prop := ∀ H1, Same H H1 → ∀ Q : List V → Hp → Prop, (∀ vs H2, Same H1 H2 → DcAll X.K H2 vs ds → Q vs H2) → WA X es σ H1 Q
end
/-- an operation on data -/
def RD (K : PySem.W.Frag) (r : R2) (da db d : Dt) (H : Hp) : Prop := ∀ H1 x y (Q : VK), Same H H1 → Dc K H1 x da → Dc K H1 y db → (∀ v H2, Same H1 H2 → Dc K H2 v d → Q v H2) → r x y H1 Q
def CD (K : PySem.W.Frag) (r : List V → Hp → VK → Prop) (ds : List Dt) (d : Dt) (H : Hp) : Prop := ∀ H1 xs (Q : VK), Same H H1 → DcAll K H1 xs ds → (∀ v H2, Same H1 H2 → Dc K H2 v d → Q v H2) → r xs H1 Q

section
variable {X : Cx} {σ : L2.St} {H H' : Hp} {e a b c : Expr} {pos : Pos} {d da db dc : Dt}
theorem Pd.mono (h : Pd X e σ H d) (k : Same H H') : Pd X e σ H' d := fun H1 s Q q => h H1 (k.trans s) Q q
theorem Pt.mono {k : Bool} (h : Pt X e σ H k) (s' : Same H H') : Pt X e σ H' k := fun H1 s Q q => h H1 (s'.trans s) Q q
theorem Pd.is (h : Pd X e σ H d) (k : d = da) : Pd X e σ H da := k ▸ h
theorem Pt.is {k k' : Bool} (h : Pt X e σ H k) (q : k = k') : Pt X e σ H k' := q ▸ h
theorem Pd.run (h : Pd X e σ H d) {Q : VK} (q : ∀ v H2, Same H H2 → Dc X.K H2 v d → Q v H2) : WE X e σ H Q := h H (Same.refl H) Q q
theorem Pt.run {k : Bool} (h : Pt X e σ H k) {Q : Bool → Hp → Prop} (q : ∀ H2, Same H H2 → Q k H2) : WT X e σ H Q := h H (Same.refl H) Q q
theorem pd_v (i : Nat) {x : Str} {v : V} (hs : σ[i]? = some (some v)) (hd : Dc X.K H v d) (hN : X.N[i]? = some x := by rfl) (hv : Vis X.env.scope x := by first | exact Or.inl rfl | exact Or.inr (Or.inl rfl) | exact Or.inr (Or.inr rfl)) (h1 : (x == ("__debug__" : Str)) = false := by decide)
    (h2 : (x == ("__classdict__" : Str)) = false := by decide) : Pd X (.Name x pos) σ H d := fun H1 s Q q => we_of (pv i hN hv h1 h2) ⟨v, hs, q v H1 (Same.refl _) (Dc.kept s hd)⟩
theorem pd_int {i : Int} {j : Nat} : Pd X (.Constant (.int i) j pos) σ H (.int i) := fun H1 s Q q => we_of pe_int (q _ H1 (Same.refl _) (.int i))
theorem pd_bool {i : Bool} {j : Nat} : Pd X (.Constant (.bool i) j pos) σ H (.bool i) := fun H1 s Q q => we_of pe_bl (q _ H1 (Same.refl _) (.bl i))
theorem pd_none {j : Nat} : Pd X (.Constant .none j pos) σ H .none := fun H1 s Q q => we_of pe_non (q _ H1 (Same.refl _) .non)
theorem pd_str {i : Str} {j : Nat} : Pd X (.Constant (.str i) j pos) σ H (.str i) := fun H1 s Q q => we_of pe_str (q _ H1 (Same.refl _) (.str i))
theorem pd_glob {x : Str} {v : V} {u : Value} (hm : X.mg x = some u) (r : RelV v u) (hd : Dc X.K H v d) (hg : Gl X x := by rfl) (h1 : (x == ("__debug__" : Str)) = false := by decide) : Pd X (.Name x pos) σ H d :=
  fun H1 s Q q => we_of (pe_glob hg hm r h1) (q v H1 (Same.refl _) (Dc.kept s hd))
theorem pa_n : Pa X [] σ H [] := fun H1 _ Q q => wa_nil (q [] H1 (Same.refl _) .nil)
theorem pa_c {es : List Expr} {ds : List Dt} (h : Pd X e σ H d) (t : Pa X es σ H ds) (hs : starEach (e :: es) X.env = (false, eval e X.env) :: starEach es X.env := by rfl) : Pa X (e :: es) σ H (d :: ds) := fun H1 s Q q =>
  wa_cons (h H1 s _ fun v H2 s2 dv => t H2 (s.trans s2) _ fun vs H3 s3 dvs => q (v :: vs) H3 (s2.trans s3) (.cons (Dc.kept s3 dv) dvs)) hs

theorem pd_bin {op : Operator} {r : R2} (ho : OpR X (binaryOp op) r) (ha : Pd X a σ H da) (hb : Pd X b σ H db) (hr : RD X.K r da db d H) : Pd X (.BinOp a op b pos) σ H d := fun H1 s Q q =>
  we_of (pe_op ho pe_w pe_w) (ha H1 s _ fun x H2 s2 dx => hb H2 (s.trans s2) _ fun y H3 s3 dy => hr H3 x y Q ((s.trans s2).trans s3) (Dc.kept s3 dx) dy fun v H4 s4 dv => q v H4 ((s2.trans s3).trans s4) dv)
theorem pd_neg {i : Int} (ha : Pd X a σ H (.int i)) : Pd X (.UnaryOp .USub a pos) σ H (.int (-i)) := fun H1 s Q q =>
  we_of (pe_un un_neg pe_w) (ha H1 s _ fun x H2 s2 dx => by
    cases dx
    exact ⟨i, rfl, q _ H2 s2 (.int _)⟩)
theorem pd_cmp {op : CmpOp} {r : R2} (ho : OpR X (compareOp op) r) (ha : Pd X a σ H da) (hb : Pd X b σ H db) (hr : RD X.K r da db d H) (hm : behindInMarks op b = false) : Pd X (.Compare a [op] [b] pos) σ H d := fun H1 s Q q =>
  we_of (pe_cmpR ho pe_w pe_w hm) (ha H1 s _ fun x H2 s2 dx => hb H2 (s.trans s2) _ fun y H3 s3 dy => hr H3 x y Q ((s.trans s2).trans s3) (Dc.kept s3 dx) dy fun v H4 s4 dv => q v H4 ((s2.trans s3).trans s4) dv)
theorem pt_cmpD {op : CmpOp} {r : R2} {k : Bool} (ho : OpR X (compareOp op) r) (ha : Pd X a σ H da) (hb : Pd X b σ H db) (hr : RD X.K r da db (.bool k) H) (hm : behindInMarks op b = false) : Pt X (.Compare a [op] [b] pos) σ H k := fun H1 s Q q =>
  wt_of (pt_cmpR ho pe_w pe_w hm) (ha H1 s _ fun x H2 s2 dx => hb H2 (s.trans s2) _ fun y H3 s3 dy => hr H3 x y _ ((s.trans s2).trans s3) (Dc.kept s3 dx) dy fun v H4 s4 dv => by
    cases dv
    exact ⟨k, rfl, q H4 ((s2.trans s3).trans s4)⟩)
end
end Sp
namespace Sp
open PySem L2
section
variable {X : Cx} {σ : L2.St} {H H' : Hp} {e a b c : Expr} {rest : List Expr} {pos p2 : Pos} {d da db dc : Dt}
/-! ### and, or, not, if -/
theorem pd_one {op : BoolOp} (h : Pd X a σ H d) : Pd X (.BoolOp op [a] pos) σ H d := fun H1 s Q q => we_of (pe_one pe_w) (h H1 s Q q)
theorem pd_and {k : Bool} (h : Pd X a σ H (.bool k)) (h1 : k = true → Pd X (.BoolOp .And (b :: rest) pos) σ H d) (h0 : k = false → d = .bool false) : Pd X (.BoolOp .And (a :: b :: rest) pos) σ H d := fun H1 s Q q =>
  we_of (pe_and pe_w pe_w) (h H1 s _ fun v H2 s2 dv => by
    cases dv
    refine ⟨k, rfl, ?_⟩
    cases k with
    | true => exact h1 rfl H2 (s.trans s2) Q fun w H3 s3 dw => q w H3 (s2.trans s3) dw
    | false => exact q _ H2 s2 (by rw [h0 rfl]; exact .bl false))
theorem pd_andb {k m : Bool} (h : Pd X a σ H (.bool k)) (h1 : k = true → Pd X (.BoolOp .And (b :: rest) pos) σ H (.bool m)) : Pd X (.BoolOp .And (a :: b :: rest) pos) σ H (.bool (k && m)) :=
  pd_and h (fun z => by subst z; simpa using h1 rfl) (fun z => by subst z; simp)
theorem pd_or {k : Bool} (h : Pd X a σ H (.bool k)) (h1 : k = false → Pd X (.BoolOp .Or (b :: rest) pos) σ H d) (h0 : k = true → d = .bool true) : Pd X (.BoolOp .Or (a :: b :: rest) pos) σ H d := fun H1 s Q q =>
  we_of (pe_or pe_w pe_w) (h H1 s _ fun v H2 s2 dv => by
    cases dv
    refine ⟨k, rfl, ?_⟩
    cases k with
    | false => exact h1 rfl H2 (s.trans s2) Q fun w H3 s3 dw => q w H3 (s2.trans s3) dw
    | true => exact q _ H2 s2 (by rw [h0 rfl]; exact .bl true))
theorem pd_orb {k m : Bool} (h : Pd X a σ H (.bool k)) (h1 : k = false → Pd X (.BoolOp .Or (b :: rest) pos) σ H (.bool m)) : Pd X (.BoolOp .Or (a :: b :: rest) pos) σ H (.bool (k || m)) :=
  pd_or h (fun z => by subst z; simpa using h1 rfl) (fun z => by subst z; simp)
theorem pd_not {k : Bool} (h : Pd X a σ H (.bool k)) : Pd X (.UnaryOp .Not a pos) σ H (.bool (!k)) := fun H1 s Q q =>
  we_of (pe_not pe_w) (h H1 s _ fun v H2 s2 dv => by
    cases dv
    exact ⟨k, rfl, q _ H2 s2 (.bl _)⟩)
theorem pd_if {k : Bool} (h : Pt X c σ H k) (h1 : k = true → Pd X a σ H d) (h0 : k = false → Pd X b σ H d) : Pd X (.IfExp c a b pos) σ H d := fun H1 s Q q =>
  we_of (pe_ifExp pt_w pe_w pe_w) (h H1 s _ fun H2 s2 => by
    cases k with
    | true => exact h1 rfl H2 (s.trans s2) Q fun w H3 s3 dw => q w H3 (s2.trans s3) dw
    | false => exact h0 rfl H2 (s.trans s2) Q fun w H3 s3 dw => q w H3 (s2.trans s3) dw)
/-- tests -/
theorem pw_t {k : Bool} (h : Pw X e σ H k) : Pt X e σ H k := fun H1 s Q q => wt_of (PW.pt pw_w) (h H1 s Q q)
theorem pw_a1 {k : Bool} (h : Pt X a σ H k) : Pw X (.BoolOp .And [a] pos) σ H k := fun H1 s Q q => ww_of (pw_and1 pt_w) (h H1 s Q q)
theorem pw_o1 {k : Bool} (h : Pt X a σ H k) : Pw X (.BoolOp .Or [a] pos) σ H k := fun H1 s Q q => ww_of (pw_or1 pt_w) (h H1 s Q q)
theorem pw_a {k m : Bool} (h : Pt X a σ H k) (h1 : k = true → Pw X (.BoolOp .And (b :: rest) pos) σ H m) : Pw X (.BoolOp .And (a :: b :: rest) pos) σ H (k && m) := fun H1 s Q q =>
  ww_of (pw_and pt_w pw_w) (h H1 s _ fun H2 s2 => by
    cases k with
    | true => exact h1 rfl H2 (s.trans s2) Q fun H3 s3 => q H3 (s2.trans s3)
    | false => exact q H2 s2)
theorem pw_o {k m : Bool} (h : Pt X a σ H k) (h1 : k = false → Pw X (.BoolOp .Or (b :: rest) pos) σ H m) : Pw X (.BoolOp .Or (a :: b :: rest) pos) σ H (k || m) := fun H1 s Q q =>
  ww_of (pw_or pt_w pw_w) (h H1 s _ fun H2 s2 => by
    cases k with
    | false => exact h1 rfl H2 (s.trans s2) Q fun H3 s3 => q H3 (s2.trans s3)
    | true => exact q H2 s2)
theorem pt_notD {k : Bool} (h : Pt X a σ H k) : Pt X (.UnaryOp .Not a pos) σ H (!k) := fun H1 s Q q => wt_of (pt_not pt_w) (h H1 s _ fun H2 s2 => q H2 s2)
/-- a value that is a bool, as a test -/
theorem pt_d {k : Bool} (h : Pd X e σ H (.bool k)) (he : ∀ wh, isTrue e X.env wh = (do let v ← wh; standAt e.pos; holding [v] (truthy v)) := by intro _; rfl) : Pt X e σ H k := fun H1 s Q q =>
  wt_of (pt_val pe_w he) (h H1 s _ fun v H2 s2 dv => by
    cases dv
    exact ⟨k, rfl, q H2 s2⟩)

/-! ### operators on ints -/
theorem rd_I0 {g : Int → Int → V} {f : Int → Int → Dt} {i j : Int} (h : ∀ Hx i j, Dc X.K Hx (g i j) (f i j)) : RD X.K (rI0 g) (.int i) (.int j) (f i j) H := fun H1 x y Q s dx dy q => by
  cases dx; cases dy
  exact ⟨i, j, rfl, rfl, q _ H1 (Same.refl _) (h _ i j)⟩
theorem rd_I {C : Int → Int → Prop} {g : Int → Int → V} {f : Int → Int → Dt} {i j : Int} (hc : C i j) (h : ∀ Hx i j, Dc X.K Hx (g i j) (f i j)) : RD X.K (rI C g) (.int i) (.int j) (f i j) H := fun H1 x y Q s dx dy q => by
  cases dx; cases dy
  exact ⟨i, j, rfl, rfl, hc, q _ H1 (Same.refl _) (h _ i j)⟩
theorem pd_add {i j : Int} (ha : Pd X a σ H (.int i)) (hb : Pd X b σ H (.int j)) : Pd X (.BinOp a .Add b pos) σ H (.int (i + j)) := pd_bin op_add ha hb (rd_I0 (f := fun i j => .int (i + j)) fun _ _ _ => .int _)
theorem pd_sub {i j : Int} (ha : Pd X a σ H (.int i)) (hb : Pd X b σ H (.int j)) : Pd X (.BinOp a .Sub b pos) σ H (.int (i - j)) := pd_bin op_sub ha hb (rd_I0 (f := fun i j => .int (i - j)) fun _ _ _ => .int _)
theorem pd_mul {i j : Int} (ha : Pd X a σ H (.int i)) (hb : Pd X b σ H (.int j)) (hc : CMul i j) : Pd X (.BinOp a .Mult b pos) σ H (.int (i * j)) := pd_bin op_mul ha hb (rd_I (f := fun i j => .int (i * j)) hc fun _ _ _ => .int _)
theorem pd_mod {i j : Int} (ha : Pd X a σ H (.int i)) (hb : Pd X b σ H (.int j)) (hc : 0 < j) : Pd X (.BinOp a .Mod b pos) σ H (.int (i % j)) := pd_bin op_mod ha hb (rd_I (f := fun i j => .int (i % j)) hc fun _ _ _ => .int _)
theorem pd_fdiv {i j : Int} (ha : Pd X a σ H (.int i)) (hb : Pd X b σ H (.int j)) (hc : CDiv i j) : Pd X (.BinOp a .FloorDiv b pos) σ H (.int (i / j)) := pd_bin op_fdiv ha hb (rd_I (f := fun i j => .int (i / j)) hc fun _ _ _ => .int _)
theorem pd_pow {i j : Int} (ha : Pd X a σ H (.int i)) (hb : Pd X b σ H (.int j)) (hc : CPow i j) : Pd X (.BinOp a .Pow b pos) σ H (.int (i ^ j.toNat)) := pd_bin op_pow ha hb (rd_I (f := fun i j => .int (i ^ j.toNat)) hc fun _ _ _ => .int _)
/-- comparisons of ints: value, test -/
theorem pd_lt {i j : Int} (ha : Pd X a σ H (.int i)) (hb : Pd X b σ H (.int j)) : Pd X (.Compare a [.Lt] [b] pos) σ H (.bool (decide (i < j))) := pd_cmp op_lt ha hb (rd_I0 (f := fun i j => .bool (decide (i < j))) fun _ _ _ => .bl _) (nobehind _ (by decide) (by decide))
theorem pd_le {i j : Int} (ha : Pd X a σ H (.int i)) (hb : Pd X b σ H (.int j)) : Pd X (.Compare a [.LtE] [b] pos) σ H (.bool (decide (i ≤ j))) := pd_cmp op_le ha hb (rd_I0 (f := fun i j => .bool (decide (i ≤ j))) fun _ _ _ => .bl _) (nobehind _ (by decide) (by decide))
theorem pd_gt {i j : Int} (ha : Pd X a σ H (.int i)) (hb : Pd X b σ H (.int j)) : Pd X (.Compare a [.Gt] [b] pos) σ H (.bool (decide (j < i))) := pd_cmp op_gt ha hb (rd_I0 (f := fun i j => .bool (decide (j < i))) fun _ _ _ => .bl _) (nobehind _ (by decide) (by decide))
theorem pd_ge {i j : Int} (ha : Pd X a σ H (.int i)) (hb : Pd X b σ H (.int j)) : Pd X (.Compare a [.GtE] [b] pos) σ H (.bool (decide (j ≤ i))) := pd_cmp op_ge ha hb (rd_I0 (f := fun i j => .bool (decide (j ≤ i))) fun _ _ _ => .bl _) (nobehind _ (by decide) (by decide))
theorem pt_lt {i j : Int} (ha : Pd X a σ H (.int i)) (hb : Pd X b σ H (.int j)) : Pt X (.Compare a [.Lt] [b] pos) σ H (decide (i < j)) := pt_cmpD op_lt ha hb (rd_I0 (f := fun i j => .bool (decide (i < j))) fun _ _ _ => .bl _) (nobehind _ (by decide) (by decide))
theorem pt_gt {i j : Int} (ha : Pd X a σ H (.int i)) (hb : Pd X b σ H (.int j)) : Pt X (.Compare a [.Gt] [b] pos) σ H (decide (j < i)) := pt_cmpD op_gt ha hb (rd_I0 (f := fun i j => .bool (decide (j < i))) fun _ _ _ => .bl _) (nobehind _ (by decide) (by decide))
/-- == and != of scalars -/
def scalD : Dt → V
  | .int i => .int i
  | .bool b => .bl b
  | .str s => .str s
  | _ => .non
theorem rd_eq {x y : Dt} {u v : V} (hx : ∀ Hx z, Dc X.K Hx z x → z = u) (hy : ∀ Hx z, Dc X.K Hx z y → z = v) (hs : scal u v = true) : RD X.K rEq x y (.bool (decide (u = v))) H := fun H1 z w Q s dx dy q => by
  rw [hx _ _ dx, hy _ _ dy]
  exact ⟨hs, q _ H1 (Same.refl _) (.bl _)⟩
theorem rd_ne {x y : Dt} {u v : V} (hx : ∀ Hx z, Dc X.K Hx z x → z = u) (hy : ∀ Hx z, Dc X.K Hx z y → z = v) (hs : scal u v = true) : RD X.K rNe x y (.bool (!decide (u = v))) H := fun H1 z w Q s dx dy q => by
  rw [hx _ _ dx, hy _ _ dy]
  exact ⟨hs, q _ H1 (Same.refl _) (.bl _)⟩
theorem dec_int {i j : Int} : decide (V.int i = V.int j) = decide (i = j) := by
  by_cases h : i = j
  · subst h; simp
  · rw [decide_eq_false h, decide_eq_false (fun q => h (by cases q; rfl))]
theorem dec_str {i j : Str} : decide (V.str i = V.str j) = decide (i = j) := by
  by_cases h : i = j
  · subst h; simp
  · rw [decide_eq_false h, decide_eq_false (fun q => h (by cases q; rfl))]
theorem dec_bl {i j : Bool} : decide (V.bl i = V.bl j) = (i == j) := by cases i <;> cases j <;> decide
theorem rd_eqI {i j : Int} : RD X.K rEq (.int i) (.int j) (.bool (decide (i = j))) H := by
  rw [← dec_int]; exact rd_eq (fun _ _ h => by cases h; rfl) (fun _ _ h => by cases h; rfl) rfl
theorem rd_neI {i j : Int} : RD X.K rNe (.int i) (.int j) (.bool (!decide (i = j))) H := by
  rw [← dec_int]; exact rd_ne (fun _ _ h => by cases h; rfl) (fun _ _ h => by cases h; rfl) rfl
theorem rd_eqS {i j : Str} : RD X.K rEq (.str i) (.str j) (.bool (decide (i = j))) H := by
  rw [← dec_str]; exact rd_eq (fun _ _ h => by cases h; rfl) (fun _ _ h => by cases h; rfl) rfl
theorem rd_neS {i j : Str} : RD X.K rNe (.str i) (.str j) (.bool (!decide (i = j))) H := by
  rw [← dec_str]; exact rd_ne (fun _ _ h => by cases h; rfl) (fun _ _ h => by cases h; rfl) rfl
theorem rd_eqB {i j : Bool} : RD X.K rEq (.bool i) (.bool j) (.bool (i == j)) H := by
  rw [← dec_bl]; exact rd_eq (fun _ _ h => by cases h; rfl) (fun _ _ h => by cases h; rfl) rfl
theorem rd_neB {i j : Bool} : RD X.K rNe (.bool i) (.bool j) (.bool (!(i == j))) H := by
  rw [← dec_bl]; exact rd_ne (fun _ _ h => by cases h; rfl) (fun _ _ h => by cases h; rfl) rfl
theorem pd_eqI {i j : Int} (ha : Pd X a σ H (.int i)) (hb : Pd X b σ H (.int j)) : Pd X (.Compare a [.Eq] [b] pos) σ H (.bool (decide (i = j))) := pd_cmp op_eq ha hb rd_eqI (nobehind _ (by decide) (by decide))
theorem pt_eqI {i j : Int} (ha : Pd X a σ H (.int i)) (hb : Pd X b σ H (.int j)) : Pt X (.Compare a [.Eq] [b] pos) σ H (decide (i = j)) := pt_cmpD op_eq ha hb rd_eqI (nobehind _ (by decide) (by decide))
theorem pd_neI {i j : Int} (ha : Pd X a σ H (.int i)) (hb : Pd X b σ H (.int j)) : Pd X (.Compare a [.NotEq] [b] pos) σ H (.bool (!decide (i = j))) := pd_cmp op_ne ha hb rd_neI (nobehind _ (by decide) (by decide))
theorem pt_neI {i j : Int} (ha : Pd X a σ H (.int i)) (hb : Pd X b σ H (.int j)) : Pt X (.Compare a [.NotEq] [b] pos) σ H (!decide (i = j)) := pt_cmpD op_ne ha hb rd_neI (nobehind _ (by decide) (by decide))
theorem pd_neS {i j : Str} (ha : Pd X a σ H (.str i)) (hb : Pd X b σ H (.str j)) : Pd X (.Compare a [.NotEq] [b] pos) σ H (.bool (!decide (i = j))) := pd_cmp op_ne ha hb rd_neS (nobehind _ (by decide) (by decide))
theorem pd_eqS {i j : Str} (ha : Pd X a σ H (.str i)) (hb : Pd X b σ H (.str j)) : Pd X (.Compare a [.Eq] [b] pos) σ H (.bool (decide (i = j))) := pd_cmp op_eq ha hb rd_eqS (nobehind _ (by decide) (by decide))
theorem pd_eqB {i j : Bool} (ha : Pd X a σ H (.bool i)) (hb : Pd X b σ H (.bool j)) : Pd X (.Compare a [.Eq] [b] pos) σ H (.bool (i == j)) := pd_cmp op_eq ha hb rd_eqB (nobehind _ (by decide) (by decide))
theorem pt_neB {i j : Bool} (ha : Pd X a σ H (.bool i)) (hb : Pd X b σ H (.bool j)) : Pt X (.Compare a [.NotEq] [b] pos) σ H (!(i == j)) := pt_cmpD op_ne ha hb rd_neB (nobehind _ (by decide) (by decide))
/-- == and != of data -/
theorem rd_eqD (sa : SeqAt.shaped da = true) (sb : SeqAt.shaped db = true) : RD X.K (rEqD X.K) da db (.bool (PyData.eqv da db)) H := fun H1 x y Q s dx dy q => ⟨da, db, dx.dp, dy.dp, sa, sb, q _ H1 (Same.refl _) (.bl _)⟩
theorem rd_neD (sa : SeqAt.shaped da = true) (sb : SeqAt.shaped db = true) : RD X.K (rNeD X.K) da db (.bool (!PyData.eqv da db)) H := fun H1 x y Q s dx dy q => ⟨da, db, dx.dp, dy.dp, sa, sb, q _ H1 (Same.refl _) (.bl _)⟩
theorem pd_eqD (hu : X.A.units + 64 < cLine) (ha : Pd X a σ H da) (hb : Pd X b σ H db) (sa : SeqAt.shaped da = true) (sb : SeqAt.shaped db = true) : Pd X (.Compare a [.Eq] [b] pos) σ H (.bool (PyData.eqv da db)) := pd_cmp (op_eqD hu) ha hb (rd_eqD sa sb) (nobehind _ (by decide) (by decide))
theorem pd_neD (hu : X.A.units + 64 < cLine) (ha : Pd X a σ H da) (hb : Pd X b σ H db) (sa : SeqAt.shaped da = true) (sb : SeqAt.shaped db = true) : Pd X (.Compare a [.NotEq] [b] pos) σ H (.bool (!PyData.eqv da db)) := pd_cmp (op_neD hu) ha hb (rd_neD sa sb) (nobehind _ (by decide) (by decide))
theorem pt_eqD (hu : X.A.units + 64 < cLine) (ha : Pd X a σ H da) (hb : Pd X b σ H db) (sa : SeqAt.shaped da = true) (sb : SeqAt.shaped db = true) : Pt X (.Compare a [.Eq] [b] pos) σ H (PyData.eqv da db) := pt_cmpD (op_eqD hu) ha hb (rd_eqD sa sb) (nobehind _ (by decide) (by decide))
theorem pt_neD (hu : X.A.units + 64 < cLine) (ha : Pd X a σ H da) (hb : Pd X b σ H db) (sa : SeqAt.shaped da = true) (sb : SeqAt.shaped db = true) : Pt X (.Compare a [.NotEq] [b] pos) σ H (!PyData.eqv da db) := pt_cmpD (op_neD hu) ha hb (rd_neD sa sb) (nobehind _ (by decide) (by decide))
/-- is None -/
def isNo : Dt → Bool | .none => true | _ => false
theorem _root_.L2.Dc.isNo {K : PySem.W.Frag} {v : V} (h : Dc K H v d) : decide (v = .non) = isNo d := by cases h <;> rfl
theorem pd_isN {k : Nat} (ha : Pd X a σ H da) : Pd X (.Compare a [.Is] [.Constant .none k p2] pos) σ H (.bool (isNo da)) := fun H1 s Q q =>
  we_of (pe_cmp (pc_isN pe_w)) (ha H1 s _ fun x H2 s2 dx => by
    show Q (.bl (decide (x = .non))) H2
    rw [Dc.isNo dx]; exact q _ H2 s2 (.bl _))
theorem pd_notN {k : Nat} (ha : Pd X a σ H da) : Pd X (.Compare a [.IsNot] [.Constant .none k p2] pos) σ H (.bool (!isNo da)) := fun H1 s Q q =>
  we_of (pe_cmp (pc_notN pe_w)) (ha H1 s _ fun x H2 s2 dx => by
    show Q (.bl (!decide (x = .non))) H2
    rw [Dc.isNo dx]; exact q _ H2 s2 (.bl _))
theorem pt_isN {k : Nat} (ha : Pd X a σ H da) : Pt X (.Compare a [.Is] [.Constant .none k p2] pos) σ H (isNo da) := fun H1 s Q q =>
  wt_of (pt_cmp (pc_isN pe_w)) (ha H1 s _ fun x H2 s2 dx => ⟨isNo da, by rw [← Dc.isNo dx], q H2 s2⟩)
theorem pt_notN {k : Nat} (ha : Pd X a σ H da) : Pt X (.Compare a [.IsNot] [.Constant .none k p2] pos) σ H (!isNo da) := fun H1 s Q q =>
  wt_of (pt_cmp (pc_notN pe_w)) (ha H1 s _ fun x H2 s2 dx => ⟨!isNo da, by rw [← Dc.isNo dx], q H2 s2⟩)
/-- a <= b < c of ints -/
theorem pd_chain {op op' : CmpOp} {f g : Int → Int → Bool} {i j k : Int} (ho : OpR X (compareOp op) (rI0 fun i j => .bl (f i j))) (ho' : OpR X (compareOp op') (rI0 fun i j => .bl (g i j))) (ha : Pd X a σ H (.int i)) (hb : Pd X b σ H (.int j))
    (hc : f i j = true → Pd X c σ H (.int k)) (hm : lastMarks [op, op'] [b, c] = false := by with_unfolding_all rfl) : Pd X (.Compare a [op, op'] [b, c] pos) σ H (.bool (f i j && g j k)) := fun H1 s Q q =>
  we_of (pe_chain ho ho' pe_w pe_w pe_w hm) (ha H1 s _ fun x H2 s2 dx => hb H2 (s.trans s2) _ fun y H3 s3 dy => by
    cases dx; cases dy
    refine ⟨i, j, rfl, rfl, f i j, rfl, ?_⟩
    cases hf : f i j with
    | true =>
      rw [hf, Bool.true_and] at q
      refine hc hf H3 ((s.trans s2).trans s3) _ fun z H4 s4 dz => ?_
      cases dz
      exact ⟨j, k, rfl, rfl, q _ H4 ((s2.trans s3).trans s4) (.bl _)⟩
    | false =>
      rw [hf, Bool.false_and] at q
      exact q _ H3 (s2.trans s3) (.bl _))
theorem pt_chainD {op op' : CmpOp} {f g : Int → Int → Bool} {i j k : Int} (ho : OpR X (compareOp op) (rI0 fun i j => .bl (f i j))) (ho' : OpR X (compareOp op') (rI0 fun i j => .bl (g i j))) (ha : Pd X a σ H (.int i)) (hb : Pd X b σ H (.int j))
    (hc : f i j = true → Pd X c σ H (.int k)) (hm : lastMarks [op, op'] [b, c] = false := by with_unfolding_all rfl) : Pt X (.Compare a [op, op'] [b, c] pos) σ H (f i j && g j k) := fun H1 s Q q =>
  wt_of (pt_chain ho ho' pe_w pe_w pe_w hm) (ha H1 s _ fun x H2 s2 dx => hb H2 (s.trans s2) _ fun y H3 s3 dy => by
    cases dx; cases dy
    refine ⟨i, j, rfl, rfl, f i j, rfl, ?_⟩
    cases hf : f i j with
    | true =>
      rw [hf, Bool.true_and] at q
      refine hc hf H3 ((s.trans s2).trans s3) _ fun z H4 s4 dz => ?_
      cases dz
      exact ⟨j, k, rfl, rfl, _, rfl, q H4 ((s2.trans s3).trans s4)⟩
    | false =>
      rw [hf, Bool.false_and] at q
      exact ⟨false, rfl, q H3 (s2.trans s3)⟩)
end
end Sp
namespace Sp
open PySem L2

/-! ### defs -/
def spR (K : PySem.W.Frag) (R : List Dt → Dt → Prop) : Sp := fun vs H Q _ => ∃ ds d, DcAll K H vs ds ∧ R ds d ∧ ∀ v H', Same H H' → Dc K H' v d → Q v H'
structure Ds (P : Program) (w : World) (K : PySem.W.Frag) (mg : Str → Option Value) (base : Heap) (k : Nat) (x : Str) (sp : Sp) : Prop where
  ex : ∃ (f : Addr) (fd : FuncData) (ps : List Str), mg x = some (.ref f) ∧ PySem.W.keepIn K (.ref f) = true ∧ Binds K fd ps [] ∧ FnOk P w K mg base CX0 k f fd ps sp
abbrev Df (P : Program) (w : World) (K : PySem.W.Frag) (mg : Str → Option Value) (base : Heap) (k : Nat) (x : Str) (R : List Dt → Dt → Prop) : Prop := Ds P w K mg base k x (spR K R)

section
variable {P : Program} {w : World} {K : PySem.W.Frag} {mg : Str → Option Value} {base : Heap}
/-- a def by its body -/
theorem fn_s {x qual : Str} {st : Stmt} {f : Addr} {fd : FuncData} {N ps : List Str} {k : Nat} {sp : Sp} (F : Fun K x qual st f fd) (S : FnScope N ps (defScope st)) (len : ∀ vs H Q E, sp vs H Q E → vs.length = ps.length)
    (body : ∀ (cdv : Value) (A : Around) (outer : List Env) (s : Shared) (H : Hp) (vs : List V) (Q : VK) (E : XK), Room k (A.deeper (PyProof.Rows.envOfC qual (defScope st) s.heap.objs.size f cdv)) → sp vs H Q E →
      WB (cxOf CX0 P w K mg base N qual (defScope st) f cdv A outer s H E).nox (defBody st) { nx := fun _ H' => Q .non H', rt := Q } (start N vs) H) : FnOk P w K mg base CX0 (k + 1) f fd ps sp :=
  F.ok S len fun cdv A outer s H vs Q E hr h => ⟨_, pb_w, body cdv A outer s H vs Q E hr h⟩
theorem fn_r {x qual : Str} {st : Stmt} {f : Addr} {fd : FuncData} {N ps : List Str} {k : Nat} {R : List Dt → Dt → Prop} (F : Fun K x qual st f fd) (S : FnScope N ps (defScope st)) (len : ∀ ds d, R ds d → ds.length = ps.length)
    (body : ∀ (cdv : Value) (A : Around) (outer : List Env) (s : Shared) (H : Hp) (vs : List V) (Q : VK) (E : XK) (ds : List Dt) (d : Dt), Room k (A.deeper (PyProof.Rows.envOfC qual (defScope st) s.heap.objs.size f cdv)) →
      DcAll K H vs ds → R ds d → (∀ v H', Same H H' → Dc K H' v d → Q v H') →
      WB (cxOf CX0 P w K mg base N qual (defScope st) f cdv A outer s H E).nox (defBody st) { nx := fun _ H' => Q .non H', rt := Q } (start N vs) H) : FnOk P w K mg base CX0 (k + 1) f fd ps (spR K R) :=
  fn_s F S (fun vs H Q E h => by obtain ⟨ds, d, hv, hr, _⟩ := h; rw [hv.length, len _ _ hr]) fun cdv A outer s H vs Q E hr h => by
    obtain ⟨ds, d, hv, hR, q⟩ := h
    exact body cdv A outer s H vs Q E ds d hr hv hR q
theorem ds_mk {x : Str} {f : Addr} {fd : FuncData} {ps : List Str} {k : Nat} {sp : Sp} (h : FnOk P w K mg base CX0 k f fd ps sp) (hm : mg x = some (.ref f)) (hk : PySem.W.keepIn K (.ref f) = true) (hb : Binds K fd ps []) : Ds P w K mg base k x sp := ⟨⟨f, fd, ps, hm, hk, hb, h⟩⟩
theorem Ds.up {x : Str} {k j : Nat} {sp : Sp} (h : Ds P w K mg base k x sp) (le : k ≤ j) : Ds P w K mg base j x sp := by
  obtain ⟨f, fd, ps, a, b, c, d⟩ := h.ex
  exact ⟨⟨f, fd, ps, a, b, c, d.mono le⟩⟩
theorem Ds.imp {x : Str} {k : Nat} {sp sp' : Sp} (h : Ds P w K mg base k x sp) (i : ∀ vs H Q E, sp' vs H Q E → sp vs H Q E) : Ds P w K mg base k x sp' := by
  obtain ⟨f, fd, ps, a, b, c, d⟩ := h.ex
  exact ⟨⟨f, fd, ps, a, b, c, d.imp i⟩⟩
end

section
variable {X : Cx} {σ : L2.St} {H H' : Hp} {e a b c : Expr} {es : List Expr} {pos p p2 : Pos} {d da db dc : Dt} {ds : List Dt} {x : Str}
theorem we_call {k j : Nat} {sp : Sp} {Q : VK} (F : Ds X.prog X.w X.K X.mg X.base k x sp) (hr : Room j X.A) (h : WA X (e :: es) σ H fun vs H1 => sp vs H1 Q E0) (hk : k ≤ j := by decide) (hg : Gl X x := by rfl)
    (hdb : (x == ("__debug__" : Str)) = false := by decide) (he : starEach (e :: es) X.env = (false, eval e X.env) :: starEach es X.env := by rfl) (hpl : (backTo pos (starEach es X.env)).any (fun z => z.1) = false := by rfl) : WE X (.Call (.Name x p) (e :: es) [] pos) σ H Q := by
  obtain ⟨f, fd, ps, hm, kp, hb, F⟩ := F.ex
  refine we_of (pe_call F (hr.mono hk) hg hm kp hb .nil pass0 pa_w hdb he hpl) ?_
  refine ⟨fun pos' pins s I => wpAny_mono (h.run pos' pins s I) (fun us s' ⟨vs, H', I', r, q⟩ => ⟨vs, H', I', r, ?_⟩) (fun _ _ z => z)⟩
  show sp (vs ++ []) H' Q E0
  rw [List.append_nil]
  exact q
theorem pd_call {k j : Nat} {R : List Dt → Dt → Prop} (F : Df X.prog X.w X.K X.mg X.base k x R) (hr : Room j X.A) (ha : Pa X (e :: es) σ H ds) (hR : R ds d) (hk : k ≤ j := by decide) (hg : Gl X x := by rfl)
    (hdb : (x == ("__debug__" : Str)) = false := by decide) (he : starEach (e :: es) X.env = (false, eval e X.env) :: starEach es X.env := by rfl) (hpl : (backTo pos (starEach es X.env)).any (fun z => z.1) = false := by rfl) : Pd X (.Call (.Name x p) (e :: es) [] pos) σ H d := fun H1 s Q q =>
  we_call F hr (ha H1 s _ fun vs H2 s2 dv => ⟨ds, d, dv, hR, fun v H3 s3 dw => q v H3 (s2.trans s3) dw⟩) hk hg hdb he hpl
theorem pd_cb {id : String} {r : List V → Hp → VK → Prop} (hc : CallR X (.builtin id) r) (hm : X.mg x = none) (ha : Pa X (e :: es) σ H ds) (hr : CD X.K r ds d H) (hv : bootBuiltins x = some (.builtin id) := by decide +kernel) (hg : Gl X x := by rfl) (hn : x ≠ "__name__" := by decide)
    (hdb : (x == ("__debug__" : Str)) = false := by decide) (he : starEach (e :: es) X.env = (false, eval e X.env) :: starEach es X.env := by rfl) (hpl : (backTo pos (starEach es X.env)).any (fun z => z.1) = false := by rfl) : Pd X (.Call (.Name x p) (e :: es) [] pos) σ H d := fun H1 s Q q =>
  we_of (pe_callB hc hg hm hv pa_w hn hdb he hpl) (ha H1 s _ fun vs H2 s2 dv => hr H2 vs Q (s.trans s2) dv fun v H3 s3 dw => q v H3 (s2.trans s3) dw)
theorem pd_ct {id : String} {r : List V → Hp → VK → Prop} (hc : CallR X (.type id) r) (hm : X.mg x = none) (ha : Pa X (e :: es) σ H ds) (hr : CD X.K r ds d H) (hv : bootBuiltins x = some (.type id) := by decide +kernel) (hg : Gl X x := by rfl) (hn : x ≠ "__name__" := by decide)
    (hdb : (x == ("__debug__" : Str)) = false := by decide) (he : starEach (e :: es) X.env = (false, eval e X.env) :: starEach es X.env := by rfl) (hpl : (backTo pos (starEach es X.env)).any (fun z => z.1) = false := by rfl) : Pd X (.Call (.Name x p) (e :: es) [] pos) σ H d := fun H1 s Q q =>
  we_of (pe_callTy hc hg hm hv pa_w hn hdb he hpl) (ha H1 s _ fun vs H2 s2 dv => hr H2 vs Q (s.trans s2) dv fun v H3 s3 dw => q v H3 (s2.trans s3) dw)

/-! ### isinstance -/
def tyN : Dt → String
  | .none => "NoneType" | .bool _ => "bool" | .int _ => "int" | .str _ => "str" | .list _ => "list" | .tuple _ => "tuple" | .dict _ => "dict"
theorem _root_.L2.Dc.ty {K : PySem.W.Frag} {v : V} (h : Dc K H v d) : TyX K H v (.type (tyN d)) := by
  cases h with
  | non => exact .base .non
  | bl b => exact .base (.bl b)
  | int i => exact .base (.int i)
  | str s => exact .base (.str s)
  | lst h _ =>
    rcases h with (h | ⟨o, h⟩) | ⟨o, _, _, h, c, _⟩
    · exact .base (.lst h)
    · exact .base (.frz h)
    · exact .kList h c
  | tup h _ =>
    rcases h.1 with (h | ⟨o, h⟩) | ⟨o, _, _, h, c, _⟩
    · exact .base (.tup h)
    · exact .fTuple h
    · exact .kTuple h c
def isIn (T : String) (d : Dt) : Bool := tyN d == T || (T == "int" && tyN d == "bool")
theorem kit_in {K : PySem.W.Frag} {T : String} (hT : T ∈ ["int", "bool", "str", "list", "tuple"]) : PySem.W.kitOne K (.type (tyN d)) (.type T) = some (isIn T d) := by
  apply kit_ty
  simp only [List.mem_cons, List.mem_singleton, List.not_mem_nil, or_false] at hT
  rcases hT with rfl | rfl | rfl | rfl | rfl <;> cases d <;> rfl
theorem pd_isi (T : String) {tn : Str} {q1 : Pos} (hm : X.mg "isinstance" = none) (hmT : X.mg tn = none) (ha : Pd X a σ H da) (hT : T ∈ ["int", "bool", "str", "list", "tuple"] := by decide) (hv : bootBuiltins tn = some (.type T) := by decide +kernel)
    (hg : Gl X "isinstance" := by rfl) (hgT : Gl X tn := by rfl) (hn : tn ≠ "__name__" := by decide) (hdb : (tn == ("__debug__" : Str)) = false := by decide) (he : starEach [a, .Name tn q1] X.env = (false, eval a X.env) :: starEach [.Name tn q1] X.env := by rfl) : Pd X (.Call (.Name "isinstance" p) [a, .Name tn q1] [] pos) σ H (.bool (isIn T da)) := fun H1 s Q q =>
  we_of (pe_callB call_isi hg hm PyProof.Rows.boot_isinstance (pa_cons pe_w (pa_cons (pe_bltn hgT hmT hv (show RelV (.ty T) (.type T) from rfl) hn hdb) pa_nil) he) (by decide) (by decide) he) (ha H1 s _ fun v H2 s2 dv =>
    ⟨v, .ty T, _, _, isIn T da, rfl, .ty T, Dc.ty dv, kit_in hT, q _ H2 s2 (.bl _)⟩)

/-! ### len, abs, all, tuple, list -/
theorem _root_.L2.Dc.tupleU {K : PySem.W.Frag} {v : V} (h : Dc K H v (.tuple ds)) : ∃ p xs, v = .ref p ∧ SqU K H p xs ∧ DcAll K H xs ds := by
  cases h with | tup h a => exact ⟨_, _, rfl, h, a⟩
theorem _root_.L2.Dc.tupleI {K : PySem.W.Frag} {v : V} (h : Dc K H v (.tuple ds)) : ∃ p xs, v = .ref p ∧ SqT K H p xs ∧ DcAll K H xs ds := by
  cases h with | tup h a => exact ⟨_, _, rfl, h.1, a⟩
theorem _root_.L2.Dc.listI {K : PySem.W.Frag} {v : V} (h : Dc K H v (.list ds)) : ∃ p xs, v = .ref p ∧ SqL K H p xs ∧ DcAll K H xs ds := by
  cases h with | lst h a => exact ⟨_, _, rfl, h, a⟩
theorem pd_lenT (hm : X.mg "len" = none) (ha : Pd X a σ H (.tuple ds)) (hg : Gl X "len" := by rfl) (he : starEach [a] X.env = (false, eval a X.env) :: starEach [] X.env := by rfl) : Pd X (.Call (.Name "len" p) [a] [] pos) σ H (.int (ds.length : Int)) :=
  pd_cb call_len_seq hm (pa_c ha pa_n he) (fun H1 xs Q s dv q => by
    obtain ⟨v, rfl, h⟩ := dv.get1
    obtain ⟨p, ys, rfl, hs, hd⟩ := Dc.tupleI h
    exact ⟨p, ys, rfl, .inr hs, q _ H1 (Same.refl _) (by rw [hd.length]; exact .int _)⟩) (by decide +kernel) hg (by decide) (by decide) he
theorem pd_lenL (hm : X.mg "len" = none) (ha : Pd X a σ H (.list ds)) (hg : Gl X "len" := by rfl) (he : starEach [a] X.env = (false, eval a X.env) :: starEach [] X.env := by rfl) : Pd X (.Call (.Name "len" p) [a] [] pos) σ H (.int (ds.length : Int)) :=
  pd_cb call_len_seq hm (pa_c ha pa_n he) (fun H1 xs Q s dv q => by
    obtain ⟨v, rfl, h⟩ := dv.get1
    obtain ⟨p, ys, rfl, hs, hd⟩ := Dc.listI h
    exact ⟨p, ys, rfl, .inl hs, q _ H1 (Same.refl _) (by rw [hd.length]; exact .int _)⟩) (by decide +kernel) hg (by decide) (by decide) he
theorem pd_abs {i : Int} (hm : X.mg "abs" = none) (ha : Pd X a σ H (.int i)) (hg : Gl X "abs" := by rfl) (he : starEach [a] X.env = (false, eval a X.env) :: starEach [] X.env := by rfl) : Pd X (.Call (.Name "abs" p) [a] [] pos) σ H (.int (if i < 0 then -i else i)) :=
  pd_cb call_abs hm (pa_c ha pa_n he) (fun H1 xs Q s dv q => by
    obtain ⟨v, rfl, h⟩ := dv.get1
    cases h
    exact ⟨i, rfl, q _ H1 (Same.refl _) (.int _)⟩) (by decide +kernel) hg (by decide) (by decide) he
theorem pd_all {bs : List Bool} (hc : X.calm = true) (hm : X.mg "all" = none) (ha : Pd X a σ H (.list (bs.map .bool))) (hg : Gl X "all" := by rfl) (he : starEach [a] X.env = (false, eval a X.env) :: starEach [] X.env := by rfl) : Pd X (.Call (.Name "all" p) [a] [] pos) σ H (.bool (bs.all id)) :=
  pd_cb (cr_all hc) hm (pa_c ha pa_n he) (fun H1 xs Q s dv q => by
    obtain ⟨v, rfl, h⟩ := dv.get1
    obtain ⟨p, ys, rfl, hs, hd⟩ := Dc.listI h
    rw [dp_bools hd] at hs
    exact ⟨p, bs, rfl, hs, q _ H1 (Same.refl _) (.bl _)⟩) (by decide +kernel) hg (by decide) (by decide) he
theorem pd_tupleL (hm : X.mg "tuple" = none) (ha : Pd X a σ H (.list ds)) (hg : Gl X "tuple" := by rfl) (he : starEach [a] X.env = (false, eval a X.env) :: starEach [] X.env := by rfl) : Pd X (.Call (.Name "tuple" p) [a] [] pos) σ H (.tuple ds) :=
  pd_ct call_tupF hm (pa_c ha pa_n he) (fun H1 xs Q s dv q => by
    obtain ⟨v, rfl, h⟩ := dv.get1
    obtain ⟨p, ys, rfl, hs, hd⟩ := Dc.listI h
    exact ⟨p, ys, rfl, hs, fun l o hl ho => q _ _ (Same.new hl) (.tup (SqU.frz upd_same ho) (DcAll.kept (Same.new hl) hd))⟩) (by decide +kernel) hg (by decide) (by decide) he
theorem pd_listT (hm : X.mg "list" = none) (ha : Pd X a σ H (.tuple ds)) (hg : Gl X "list" := by rfl) (he : starEach [a] X.env = (false, eval a X.env) :: starEach [] X.env := by rfl) : Pd X (.Call (.Name "list" p) [a] [] pos) σ H (.list ds) :=
  pd_ct call_list_of hm (pa_c ha pa_n he) (fun H1 xs Q s dv q => by
    obtain ⟨v, rfl, h⟩ := dv.get1
    obtain ⟨p, ys, rfl, hs, hd⟩ := Dc.tupleI h
    exact ⟨p, ys, rfl, .inr hs, fun l hl => q _ _ (Same.new hl) (.lst (SqL.of upd_same) (DcAll.kept (Same.new hl) hd))⟩) (by decide +kernel) hg (by decide) (by decide) he
theorem pd_listL (hm : X.mg "list" = none) (ha : Pd X a σ H (.list ds)) (hg : Gl X "list" := by rfl) (he : starEach [a] X.env = (false, eval a X.env) :: starEach [] X.env := by rfl) : Pd X (.Call (.Name "list" p) [a] [] pos) σ H (.list ds) :=
  pd_ct call_list_of hm (pa_c ha pa_n he) (fun H1 xs Q s dv q => by
    obtain ⟨v, rfl, h⟩ := dv.get1
    obtain ⟨p, ys, rfl, hs, hd⟩ := Dc.listI h
    exact ⟨p, ys, rfl, .inl hs, fun l hl => q _ _ (Same.new hl) (.lst (SqL.of upd_same) (DcAll.kept (Same.new hl) hd))⟩) (by decide +kernel) hg (by decide) (by decide) he
theorem pd_tup {k : Nat} (ha : Pa X es σ H ds) (hz : ds.length ≤ 100000 := by first | decide | simp) : Pd X (.Tuple es k pos) σ H (.tuple ds) := fun H1 s Q q =>
  we_of (pe_tupF pa_w) (ha H1 s _ fun vs H2 s2 dv => ⟨Nat.le_trans (by rw [dv.length]; exact hz) (by decide), fun l o hl ho => q _ _ (s2.trans (Same.new hl)) (.tup (SqU.frz upd_same ho) (DcAll.kept (Same.new hl) dv))⟩)
theorem pd_lst (ha : Pa X es σ H ds) (hz : ds.length ≤ 100000 := by first | decide | simp) : Pd X (.List es pos) σ H (.list ds) := fun H1 s Q q =>
  we_of (pe_lst pa_w) (ha H1 s _ fun vs H2 s2 dv => ⟨Nat.le_trans (by rw [dv.length]; exact hz) (by decide), fun l hl => q _ _ (s2.trans (Same.new hl)) (.lst (SqL.of upd_same) (DcAll.kept (Same.new hl) dv))⟩)

/-! ### items, slices -/
theorem _root_.L2.DcAll.at {K : PySem.W.Frag} {vs : List V} {i : Int} (h : DcAll K H vs ds) (hi : atI ds i = some d) : ∃ v, atI vs i = some v ∧ Dc K H v d := by
  unfold atI at hi ⊢
  rw [h.length]
  cases hx : ixN ds.length i with
  | none => rw [hx] at hi; cases hi
  | some j =>
    rw [hx] at hi
    exact h.get (i := j) hi
theorem pd_ixT {i : Int} (ha : Pd X a σ H (.tuple ds)) (hb : Pd X b σ H (.int i)) (hi : atI ds i = some d) (hs : PlainIx b := by intro _ _; rfl) : Pd X (.Subscript a b pos) σ H d := fun H1 s Q q =>
  we_of (pe_ix ix_tup pe_w pe_w hs) (ha H1 s _ fun x H2 s2 dx => hb H2 (s.trans s2) _ fun y H3 s3 dy => by
    cases dy
    obtain ⟨p, ys, rfl, ht, hd⟩ := Dc.tupleI (Dc.kept s3 dx)
    obtain ⟨v, h1, h2⟩ := hd.at hi
    exact ⟨p, ys, i, v, rfl, rfl, ht, h1, q v H3 (s2.trans s3) h2⟩)
theorem pd_ixL {i : Int} (ha : Pd X a σ H (.list ds)) (hb : Pd X b σ H (.int i)) (hi : atI ds i = some d) (hs : PlainIx b := by intro _ _; rfl) : Pd X (.Subscript a b pos) σ H d := fun H1 s Q q =>
  we_of (pe_ix ix_list pe_w pe_w hs) (ha H1 s _ fun x H2 s2 dx => hb H2 (s.trans s2) _ fun y H3 s3 dy => by
    cases dy
    obtain ⟨p, ys, rfl, ht, hd⟩ := Dc.listI (Dc.kept s3 dx)
    obtain ⟨v, h1, h2⟩ := hd.at hi
    exact ⟨p, ys, i, v, rfl, rfl, ht, h1, q v H3 (s2.trans s3) h2⟩)
/-- the part of a slice -/
def Po (X : Cx) (e : Option Expr) (σ : L2.St) (H : Hp) (o : Option Int) : Prop := ∃ t, PO X e t ∧ ∀ H1, Same H H1 → ∀ Q : Option Int → Hp → Prop, (∀ H2, Same H1 H2 → Q o H2) → t σ H1 Q
theorem po_n : Po X none σ H none := ⟨_, po_none, fun H1 _ Q q => q H1 (Same.refl _)⟩
theorem po_s {i : Int} (h : Pd X e σ H (.int i)) : Po X (some e) σ H (some i) := ⟨_, po_some pe_w, fun H1 s Q q => h H1 s _ fun v H2 s2 dv => by
  cases dv
  exact ⟨i, rfl, q H2 s2⟩⟩
def cutD {α : Type} (xs : List α) (lo hi : Option Int) : List α := (xs.drop (HT.sIx xs.length 0 lo)).take (HT.sIx xs.length xs.length hi - HT.sIx xs.length 0 lo)
theorem _root_.L2.DcAll.cut {K : PySem.W.Frag} {vs : List V} {lo hi : Option Int} (h : DcAll K H vs ds) : DcAll K H (cutV vs lo hi) (cutD ds lo hi) := by
  unfold cutV cutD
  rw [h.length]
  exact (h.drop _).take _
theorem cutD_whole {lo hi : Option Int} (h : HT.sIx ds.length 0 lo = 0 ∧ HT.sIx ds.length ds.length hi = ds.length) : cutD ds lo hi = ds := by
  unfold cutD
  rw [h.1, h.2]
  simp
theorem pd_slT {lo hi : Option Expr} {l h : Option Int} (ha : Pd X a σ H (.tuple ds)) (hl : Po X lo σ H l) (hh : Po X hi σ H h) : Pd X (.Subscript a (.Slice lo hi none p2) pos) σ H (.tuple (cutD ds l h)) := fun H1 s Q q => by
  obtain ⟨tl, pl, rl⟩ := hl
  obtain ⟨th, ph, rh⟩ := hh
  refine we_of (pe_slice sl_tupF pe_w pl ph) (ha H1 s _ fun x H2 s2 dx => rl H2 (s.trans s2) _ fun H3 s3 => rh H3 ((s.trans s2).trans s3) _ fun H4 s4 => ?_)
  obtain ⟨p, ys, rfl, ht, hd⟩ := Dc.tupleU (Dc.kept (s3.trans s4) dx)
  refine ⟨p, ys, rfl, ht.1, fun wh => ?_, fun _ r o hr ho => ?_⟩
  · refine q _ H4 ((s2.trans s3).trans s4) ?_
    rw [hd.length] at wh
    rw [cutD_whole wh]
    exact .tup ht hd
  · exact q _ _ (((s2.trans s3).trans s4).trans (Same.new hr)) (.tup (SqU.frz upd_same ho) (DcAll.kept (Same.new hr) hd.cut))
end
end Sp
namespace Sp
open PySem L2
section
variable {X : Cx} {σ : L2.St} {H H' : Hp} {e a b c : Expr} {es : List Expr} {pos p p2 : Pos} {d da db dc : Dt} {ds : List Dt} {x : Str} {D : Ends} {rest ys ns : List Stmt}
/-! ### statements on data -/
theorem wb_retD (h : Pd X e σ H d) (k : ∀ v H', Same H H' → Dc X.K H' v d → D.rt v H') : WB X (.Return (some e) pos :: rest) D σ H := wb_ret (h.run k)
/-- an if; where the answer is known, only that way is asked -/
theorem wb_ifD {k : Bool} (h : Pt X c σ H k) (h1 : k = true → ∀ H1, Same H H1 → WB X ys { D with nx := WB X rest D } σ H1) (h0 : k = false → ∀ H1, Same H H1 → WB X ns { D with nx := WB X rest D } σ H1) : WB X (.If c ys ns pos :: rest) D σ H :=
  wb_if (h.run fun H1 s => by
    cases k with
    | true => exact h1 rfl H1 s
    | false => exact h0 rfl H1 s)
/-- an if without else -/
theorem wb_whenD {k : Bool} (h : Pt X c σ H k) (h1 : k = true → ∀ H1, Same H H1 → WB X ys { D with nx := WB X rest D } σ H1) (h0 : k = false → ∀ H1, Same H H1 → WB X rest D σ H1) : WB X (.If c ys [] pos :: rest) D σ H :=
  wb_ifD h h1 fun z H1 s => wb_nil (h0 z H1 s)
theorem wb_setD (i : Nat) {y : Str} {pos' : Pos} (h : Pd X e σ H d) (k : ∀ v H1, Same H H1 → Dc X.K H1 v d → WB X rest D (σ.set i (some v)) H1) (hN : X.N.Nodup) (hi : X.N[i]? = some y := by rfl) (hx : Loc X.env.scope y := by first | exact .inl rfl | exact .inr rfl)
    (hs : swapsWith e (some (.Name y pos')) pos.line X.env = pure false := by rfl) (hf : X.fn y = true ∨ X.env.scope.names.lookup y = some .local := by first | exact .inl rfl | exact .inr rfl) :
    WB X (.Assign [.Name y pos'] e pos :: rest) D σ H := wb_set i (h.run k) hN hi hx hs hf

/-! ### list comprehensions over data -/
/-- the block's context -/
abbrev Bk (X : Cx) (s : Shared) (H : Hp) (scope : Scope) (C : Addr) (cl : List (Str × Addr)) (fp : List Addr) : Cx := X.blk s H scope (compEnvC scope cl C X.env) fp
def BE (X : Cx) (scope : Scope) (e : Expr) : TE := fun σ H Q => ∀ s H0 C cl fp, WE (Bk X s H0 scope C cl fp) e σ H Q
def BT (X : Cx) (scope : Scope) (e : Expr) : TT := fun σ H Q => ∀ s H0 C cl fp, WT (Bk X s H0 scope C cl fp) e σ H Q
theorem pe_be {scope : Scope} {s : Shared} {H0 : Hp} {C : Addr} {cl : List (Str × Addr)} {fp : List Addr} : PE (Bk X s H0 scope C cl fp) e (BE X scope e) := ⟨fun pins s' σ H Q I h => (h s H0 C cl fp).run pins s' I⟩
theorem pt_bt {scope : Scope} {s : Shared} {H0 : Hp} {C : Addr} {cl : List (Str × Addr)} {fp : List Addr} : PT (Bk X s H0 scope C cl fp) e (BT X scope e) := ⟨fun pins s' σ H Q I h => (h s H0 C cl fp).run pins s' I⟩
theorem wipe1 {j : Nat} {v : Option V} : wipe ((wipe σ [j]).set j v) [j] = wipe σ [j] := by
  show ((σ.set j none).set j v).set j none = σ.set j none
  rw [List.set_set, List.set_set]
/-- what is gathered: the list at Dl, what stood at the start -/
structure Gat (K : PySem.W.Frag) (H1 : Hp) (Dl : Addr) (n : Nat) (out : List Dt) (H' : Hp) : Prop where
  free : H1 Dl = none
  same : Same H1 H'
  acc : ∃ vs, H' Dl = some (.lst vs) ∧ DcAll K H' vs out ∧ vs.length ≤ n
theorem Gat.start {K : PySem.W.Frag} {Dl : Addr} (h : H Dl = none) : Gat K H Dl 0 [] (upd H Dl (.lst [])) := ⟨h, Same.new h, [], upd_same, .nil, Nat.le_refl _⟩
theorem Gat.skip {K : PySem.W.Frag} {Dl : Addr} {n : Nat} {out : List Dt} {H2 H3 : Hp} (g : Gat K H Dl n out H2) (s : Same H2 H3) : Gat K H Dl (n + 1) out H3 := by
  obtain ⟨f, s1, vs, h, dv, l⟩ := g
  exact ⟨f, s1.trans s, vs, s _ _ h, DcAll.kept s dv, Nat.le_succ_of_le l⟩
theorem Gat.push {K : PySem.W.Frag} {Dl : Addr} {n : Nat} {out : List Dt} {H2 H3 : Hp} {y : V} (g : Gat K H Dl n out H2) (s : Same H2 H3) (hf : fzA out = true) (fd : fz d = true) (dy : Dc K H3 y d) (hn : n < 1000000) :
    ∃ acc, H3 Dl = some (.lst acc) ∧ acc.length < sizeLine ∧ Gat K H Dl (n + 1) (out ++ [d]) (upd H3 Dl (.lst (acc ++ [y]))) := by
  obtain ⟨f, s1, vs, h, dv, l⟩ := g
  have h3 := s _ _ h
  refine ⟨vs, h3, Nat.lt_of_le_of_lt l (Nat.lt_of_lt_of_le hn (by decide)), f, (s1.trans s).mut f, vs ++ [y], upd_same, ?_, by rw [List.length_append]; exact Nat.succ_le_succ l⟩
  exact (DcAll.fz (TSame.lst h3) (DcAll.kept s dv) hf).append (.one (Dc.fz (TSame.lst h3) dy fd))
theorem fzA_append : ∀ {xs ys : List Dt}, fzA xs = true → fzA ys = true → fzA (xs ++ ys) = true
  | [], _, _, h => h
  | x :: xs, ys, h, h2 => by
    simp only [fzA, Bool.and_eq_true] at h
    simp only [List.cons_append, fzA, Bool.and_eq_true]
    exact ⟨h.1, fzA_append h.2 h2⟩

/-! ### what is walked -/
structure Src (K : PySem.W.Frag) (J : It) (H1 : Hp) (ds : List Dt) : Prop where
  go : ∀ i H', Same H1 H' → i < ds.length → J.go i H'
  stop : ∀ H', Same H1 H' → J.stop ds.length H'
  yld : ∀ i H' x H'', Same H1 H' → i < ds.length → J.yld i H' x H'' → Same H' H'' ∧ ∃ d, ds[i]? = some d ∧ Dc K H'' x d
def SrcE (X : Cx) (wi : TI) (σ : L2.St) (H : Hp) (ds : List Dt) : Prop := ∀ H1, Same H H1 → ∀ R : It → Hp → Prop, (∀ J H2, Same H1 H2 → Src X.K J H2 ds → R J H2) → wi σ H1 R
theorem src_tup {iter : Expr} (h : Pd X iter σ H (.tuple ds)) : SrcE X (iTup X.K (WE X iter)) σ H ds := fun H1 s R q => h H1 s _ fun v H2 s2 dv => by
  obtain ⟨a, xs, rfl, ht, hd⟩ := Dc.tupleI dv
  refine ⟨a, rfl, ⟨xs, ht⟩, q _ H2 s2 ⟨fun i H' s' hi => ?_, fun H' s' => ⟨xs, SqT.kept s' ht, by rw [hd.length]; exact Nat.le_refl _⟩, fun i H' x H'' s' hi y => ?_⟩⟩
  · exact ⟨xs, xs[i]'(by rw [hd.length]; exact hi), SqT.kept s' ht, by simp [hd.length, hi]⟩
  · obtain ⟨rfl, y⟩ := y
    obtain ⟨d, h1, h2⟩ := hd.got (y xs (SqT.kept s' ht))
    exact ⟨Same.refl _, d, h1, Dc.kept s' h2⟩
theorem src_list {iter : Expr} (h : Pd X iter σ H (.list ds)) : SrcE X (iList X.K (WE X iter)) σ H ds := fun H1 s R q => h H1 s _ fun v H2 s2 dv => by
  obtain ⟨a, xs, rfl, ht, hd⟩ := Dc.listI dv
  refine ⟨a, rfl, ⟨xs, ht⟩, q _ H2 s2 ⟨fun i H' s' hi => ?_, fun H' s' => ⟨xs, s'.seq ht, by rw [hd.length]; exact Nat.le_refl _⟩, fun i H' x H'' s' hi y => ?_⟩⟩
  · exact ⟨xs, xs[i]'(by rw [hd.length]; exact hi), s'.seq ht, by simp [hd.length, hi]⟩
  · obtain ⟨rfl, y⟩ := y
    obtain ⟨d, h1, h2⟩ := hd.got (y xs (s'.seq ht))
    exact ⟨Same.refl _, d, h1, Dc.kept s' h2⟩
def rngD (n : Nat) : List Dt := (List.range n).map fun (i : Nat) => PyData.int (i : Int)
theorem rngD_len {n : Nat} : (rngD n).length = n := by simp [rngD]
theorem rngD_get {n i : Nat} (h : i < n) : (rngD n)[i]? = some (.int (i : Int)) := by simp [rngD, h]
theorem src_range {n : Nat} (h : Pa X [a] σ H [.int (n : Int)]) (hn : n ≤ 100000) : SrcE X (iRng1 (WA X [a])) σ H (rngD n) := fun H1 s R q => h H1 s _ fun vs H2 s2 dv => by
  obtain ⟨v, rfl, dv'⟩ := dv.get1
  cases dv'
  refine ⟨(n : Int), rfl, by omega, by omega, q _ H2 s2 ⟨fun i H' s' hi => ?_, fun H' s' => ?_, fun i H' x H'' s' hi y => ?_⟩⟩
  · rw [rngD_len] at hi
    show i < (n : Int).toNat
    omega
  · show (n : Int).toNat ≤ (rngD n).length
    rw [rngD_len]; omega
  · rw [rngD_len] at hi
    obtain ⟨rfl, rfl⟩ := y
    exact ⟨Same.refl _, _, rngD_get hi, by rw [Int.zero_add]; exact .int _⟩
def enumD (ds : List Dt) : List Dt := ds.mapIdx fun i d => .tuple [.int (i : Int), d]
theorem enumD_len : (enumD ds).length = ds.length := by simp [enumD]
theorem enumD_get {i : Nat} : (enumD ds)[i]? = (ds[i]?).map fun d => .tuple [.int (i : Int), d] := by simp [enumD]
theorem src_enumL (h : Pa X [a] σ H [.list ds]) : SrcE X (iEnum X.K (WA X [a])) σ H (enumD ds) := fun H1 s R q => h H1 s _ fun vs H2 s2 dv => by
  obtain ⟨v, rfl, dv'⟩ := dv.get1
  obtain ⟨a, xs, rfl, ht, hd⟩ := Dc.listI dv'
  refine ⟨a, xs, rfl, ht, q _ H2 s2 ⟨fun i H' s' hi => ?_, fun H' s' => ⟨xs, s'.seq ht, by rw [hd.length, enumD_len]; exact Nat.le_refl _⟩, fun i H' x H'' s' hi y => ?_⟩⟩
  · rw [enumD_len] at hi
    exact ⟨xs, xs[i]'(by rw [hd.length]; exact hi), s'.seq ht, by simp [hd.length, hi]⟩
  · obtain ⟨T, y1, rfl, hT, rfl, y⟩ := y
    obtain ⟨d, h1, h2⟩ := hd.got (y xs (s'.seq ht))
    refine ⟨Same.new hT, _, by rw [enumD_get, h1]; rfl, .tup (SqU.two (SqT.of upd_same)) (.cons (.int _) (.one (Dc.kept (s'.trans (Same.new hT)) h2)))⟩
def zipD (ds es : List Dt) : List Dt := List.zipWith (fun d e => .tuple [d, e]) ds es
theorem src_zip {es : List Dt} (h : Pa X [a, b] σ H [.list ds, .list es]) : SrcE X (iZip X.K (WA X [a, b])) σ H (zipD ds es) := fun H1 s R q => h H1 s _ fun vs H2 s2 dv => by
  obtain ⟨v, w, rfl, dv, dw⟩ := dv.get2
  obtain ⟨a, xs, rfl, ht, hd⟩ := Dc.listI dv
  obtain ⟨b, ys, rfl, ht', hd'⟩ := Dc.listI dw
  refine ⟨a, b, xs, ys, rfl, ht, ht', q _ H2 s2 ⟨fun i H' s' hi => ?_, fun H' s' => ⟨xs, ys, s'.seq ht, s'.seq ht', ?_⟩, fun i H' x H'' s' hi y => ?_⟩⟩
  · simp only [zipD, List.length_zipWith] at hi
    exact ⟨xs, ys, xs[i]'(by rw [hd.length]; omega), ys[i]'(by rw [hd'.length]; omega), s'.seq ht, s'.seq ht', by simp, by simp⟩
  · simp only [zipD, List.length_zipWith]
    rw [hd.length, hd'.length]; omega
  · obtain ⟨T, y1, y2, rfl, hT, rfl, y, y'⟩ := y
    obtain ⟨d, h1, h2⟩ := hd.got (y xs (s'.seq ht))
    obtain ⟨d', h1', h2'⟩ := hd'.got (y' ys (s'.seq ht'))
    refine ⟨Same.new hT, .tuple [d, d'], by simp [zipD, List.getElem?_zipWith, h1, h1'], .tup (SqU.two (SqT.of upd_same)) (.cons (Dc.kept (s'.trans (Same.new hT)) h2) (.one (Dc.kept (s'.trans (Same.new hT)) h2')))⟩

/-! ### targets: what the slots are behind the store -/
def TgOk (K : PySem.W.Frag) (g : TG) (T : Dt → Hp → L2.St → L2.St → Prop) : Prop := ∀ x d σ H Q, Dc K H x d → (∀ σ', T d H σ σ' → Q σ' H) → g x σ H Q
def tName (K : PySem.W.Frag) (j : Nat) : Dt → Hp → L2.St → L2.St → Prop := fun d H σ σ' => ∃ v, Dc K H v d ∧ σ' = σ.set j (some v)
theorem tg_name {K : PySem.W.Frag} {j : Nat} : TgOk K (gName j) (tName K j) := fun x d σ H Q dx q => q _ ⟨x, dx, rfl⟩
def tPair (K : PySem.W.Frag) (i j : Nat) : Dt → Hp → L2.St → L2.St → Prop := fun d H σ σ' => ∃ d1 d2 v1 v2, d = .tuple [d1, d2] ∧ Dc K H v1 d1 ∧ Dc K H v2 d2 ∧ σ' = (σ.set i (some v1)).set j (some v2)
theorem tg_pair {K : PySem.W.Frag} {i j : Nat} : ∀ x d1 d2 (σ : L2.St) H Q, Dc K H x (.tuple [d1, d2]) → (∀ σ', tPair K i j (.tuple [d1, d2]) H σ σ' → Q σ' H) → gTup K 2 (gCons (gName i) (gCons (gName j) gNil)) x σ H Q := fun x d1 d2 σ H Q dx q => by
  obtain ⟨a, xs, rfl, ht, hd⟩ := Dc.tupleI dx
  obtain ⟨v1, v2, rfl, h1, h2⟩ := hd.get2
  exact ⟨a, _, rfl, ht, rfl, v1, [v2], rfl, v2, [], rfl, rfl, q _ ⟨d1, d2, v1, v2, rfl, h1, h2, rfl⟩⟩

/-! ### comprehensions -/
/-- a new list of data -/
def Pl (X : Cx) (e : Expr) (σ : L2.St) (H : Hp) (ds : List Dt) : Prop := ∀ H1, Same H H1 → ∀ Q : VK, (∀ l vs H2, Same H1 H2 → H1 l = none → H2 l = some (.lst vs) → DcAll X.K H2 vs ds → Q (.ref l) H2) → WE X e σ H1 Q
theorem Pl.pd (h : Pl X e σ H ds) : Pd X e σ H (.list ds) := fun H1 s Q q => h H1 s Q fun l vs H2 s2 _ hv dv => q _ H2 s2 (.lst (SqL.of hv) dv)
theorem Pl.run {Q : VK} (h : Pl X e σ H ds) (q : ∀ l vs H2, Same H H2 → H l = none → H2 l = some (.lst vs) → DcAll X.K H2 vs ds → Q (.ref l) H2) : WE X e σ H Q := h H (Same.refl _) Q q
theorem Pl.is {es : List Dt} (h : Pl X e σ H ds) (k : ds = es) : Pl X e σ H es := k ▸ h
theorem none_back' {l : Addr} (s : Same H H') (h : H' l = none) : H l = none := by
  cases hx : H l with
  | none => rfl
  | some u => rw [s _ _ hx] at h; cases h
theorem pl_lcG {own : List (Str × Nat)} {wi : TI} {g : TG} {tt : TT} {tg iter elt : Expr} {ifs : List Expr} {scope : Scope} {T : Dt → Hp → L2.St → L2.St → Prop} (f : Dt → Dt) (fl : Dt → Bool) (hc : X.calm = true) (hN : X.N.Nodup)
    (pi : PI X tg iter wi) (hi : SrcE X wi σ H ds) (hz : ds.length ≤ 100000) (ok : BlkOk X.N X.env.scope scope own)
    (pg : ∀ s H0 C cl fp, PG (Bk X s H0 scope C cl fp) tg g) (ht : ∀ (i : Nat) d x σ H Q, ds[i]? = some d → Dc X.K H x d → (∀ σ', T d H σ σ' → Q σ' H) → g x σ H Q) (hw : ∀ d H σ', T d H (wipe σ (own.map (fun z => z.2))) σ' → wipe σ' (own.map (fun z => z.2)) = wipe σ (own.map (fun z => z.2)))
    (pts : ∀ s H0 C cl fp, PTs (Bk X s H0 scope C cl fp) ifs tt) (htt : ∀ (i : Nat) d σ' H1, ds[i]? = some d → Same H H1 → T d H1 (wipe σ (own.map (fun z => z.2))) σ' → ∀ Q : Bool → Hp → Prop, (∀ H2, Same H1 H2 → Q (fl d) H2) → tt σ' H1 Q)
    (he : ∀ s H0 C cl fp (i : Nat) d σ' H1, ds[i]? = some d → fl d = true → Same H H1 → T d H1 (wipe σ (own.map (fun z => z.2))) σ' → ∃ H0', Same H0' H1 ∧ Pd (Bk X s H0 scope C cl fp) elt σ' H0' (f d)) (hf : ∀ d ∈ ds, fl d = true → fz (f d) = true)
    (hs : ∀ x, foldedSetIterable iter X.env x = pure x) : Pl X (.ListComp elt [⟨tg, iter, ifs, 0⟩] scope pos) σ H ((ds.filter fl).map f) := fun H0 s Q q =>
  we_of (pe_lc (own := own) hc hN pi ok pg pts (fun _ _ _ _ _ => pe_be) hs) (hi H0 s _ fun J H1 s1 src Dl hD => by
    refine ⟨fun i m H' => m = ds.length - i ∧ i ≤ ds.length ∧ Gat X.K H1 Dl i (((ds.take i).filter fl).map f) H', ⟨_, rfl, Nat.zero_le _, Gat.start hD⟩, ?_⟩
    rintro i m H' ⟨rfl, hi, g⟩
    by_cases hlt : i < ds.length
    · refine .inr ⟨src.go i H' g.same hlt, fun H'' => Gat X.K H1 Dl (i + 1) (((ds.take (i + 1)).filter fl).map f) H'', fun H'' g' => ⟨_, by omega, rfl, hlt, g'⟩, fun x H2 y => ?_⟩
      obtain ⟨s2, d, hd1, hd2⟩ := src.yld i H' x H2 g.same hlt y
      have sH2 : Same H H2 := ((s.trans s1).trans g.same).trans s2
      refine ht i d x _ H2 _ hd1 hd2 fun σ' hT => ⟨hw d H2 σ' hT, htt i d σ' H2 hd1 sH2 hT _ fun H3 s3 => ?_⟩
      have e1 : (ds.take (i + 1)).filter fl = (ds.take i).filter fl ++ [d].filter fl := by
        rw [List.take_add_one, hd1, List.filter_append]; rfl
      have hout : fzA (((ds.take i).filter fl).map f) = true := fzA_iff.mpr fun z hz => by
        obtain ⟨u, hu, rfl⟩ := List.mem_map.mp hz
        obtain ⟨hu1, hu2⟩ := List.mem_filter.mp hu
        exact hf u (List.mem_of_mem_take hu1) hu2
      cases hfl : fl d with
      | true =>
        show BE X scope elt σ' H3 _
        intro s' H0' C cl fp
        obtain ⟨H0'', sb, hp⟩ := he s' H0' C cl fp i d σ' H2 hd1 hfl sH2 hT
        refine hp H3 (sb.trans s3) _ fun w H4 s4 dw => ?_
        obtain ⟨acc, h1, h2, h3⟩ := g.push ((s2.trans s3).trans s4) hout (hf d (List.mem_of_getElem? hd1) hfl) dw (by omega)
        refine ⟨acc, h1, h2, ?_⟩
        rw [e1, List.filter_cons, if_pos hfl, List.map_append]
        exact h3
      | false =>
        show Gat X.K H1 Dl (i + 1) (((ds.take (i + 1)).filter fl).map f) H3
        rw [e1, List.filter_cons, if_neg (by rw [hfl]; decide)]
        show Gat X.K H1 Dl (i + 1) (((ds.take i).filter fl ++ []).map f) H3
        rw [List.append_nil]
        exact g.skip (s2.trans s3)
    · have e2 : i = ds.length := by omega
      subst e2
      rw [List.take_length] at g
      obtain ⟨_, s2, vs, h1, h2, _⟩ := g
      exact .inl ⟨src.stop H' ‹_›, q _ vs H' (s1.trans ‹_›) (none_back' s1 hD) h1 h2⟩)
theorem pd_lcG {own : List (Str × Nat)} {wi : TI} {g : TG} {tt : TT} {tg iter elt : Expr} {ifs : List Expr} {scope : Scope} {T : Dt → Hp → L2.St → L2.St → Prop} (f : Dt → Dt) (fl : Dt → Bool) (hc : X.calm = true) (hN : X.N.Nodup)
    (pi : PI X tg iter wi) (hi : SrcE X wi σ H ds) (hz : ds.length ≤ 100000) (ok : BlkOk X.N X.env.scope scope own)
    (pg : ∀ s H0 C cl fp, PG (Bk X s H0 scope C cl fp) tg g) (ht : ∀ (i : Nat) d x σ H Q, ds[i]? = some d → Dc X.K H x d → (∀ σ', T d H σ σ' → Q σ' H) → g x σ H Q) (hw : ∀ d H σ', T d H (wipe σ (own.map (fun z => z.2))) σ' → wipe σ' (own.map (fun z => z.2)) = wipe σ (own.map (fun z => z.2)))
    (pts : ∀ s H0 C cl fp, PTs (Bk X s H0 scope C cl fp) ifs tt) (htt : ∀ (i : Nat) d σ' H1, ds[i]? = some d → Same H H1 → T d H1 (wipe σ (own.map (fun z => z.2))) σ' → ∀ Q : Bool → Hp → Prop, (∀ H2, Same H1 H2 → Q (fl d) H2) → tt σ' H1 Q)
    (he : ∀ s H0 C cl fp (i : Nat) d σ' H1, ds[i]? = some d → fl d = true → Same H H1 → T d H1 (wipe σ (own.map (fun z => z.2))) σ' → ∃ H0', Same H0' H1 ∧ Pd (Bk X s H0 scope C cl fp) elt σ' H0' (f d)) (hf : ∀ d ∈ ds, fl d = true → fz (f d) = true)
    (hs : ∀ x, foldedSetIterable iter X.env x = pure x) : Pd X (.ListComp elt [⟨tg, iter, ifs, 0⟩] scope pos) σ H (.list ((ds.filter fl).map f)) :=
  Pl.pd (pl_lcG f fl hc hN pi hi hz ok pg ht hw pts htt he hf hs)
theorem wipe_name {K : PySem.W.Frag} {y : Str} {j : Nat} : ∀ d H (σ' : L2.St), tName K j d H (wipe σ ([(y, j)].map (fun z => z.2))) σ' → wipe σ' ([(y, j)].map (fun z => z.2)) = wipe σ ([(y, j)].map (fun z => z.2)) := fun d H σ' ⟨v, _, e⟩ => by
  rw [e]; exact wipe1
end
end Sp
namespace Sp
open PySem L2
section
variable {X : Cx} {σ : L2.St} {H H' : Hp} {e a b c : Expr} {es : List Expr} {pos p p2 : Pos} {d da db dc : Dt} {ds : List Dt} {x : Str} {D : Ends} {rest ys ns : List Stmt}
/-- [elt for y in ..], nothing asked -/
theorem pd_lcN (j : Nat) {y : Str} {py : Pos} {iter elt : Expr} {scope : Scope} {wi : TI} (f : Dt → Dt) (hc : X.calm = true) (hN : X.N.Nodup) (pi : PI X (.Name y py) iter wi) (hi : SrcE X wi σ H ds) (hz : ds.length ≤ 100000)
    (he : ∀ s H0 C cl fp (i : Nat) d v H1, ds[i]? = some d → Same H H1 → Dc X.K H1 v d → Pd (Bk X s H0 scope C cl fp) elt ((wipe σ [j]).set j (some v)) H1 (f d)) (hf : ∀ d ∈ ds, fz (f d) = true)
    (hj : X.N[j]? = some y := by rfl) (ok : BlkOk X.N X.env.scope scope [(y, j)] := by first | exact blkOk_by (by kernel_rfl) | exact blkOk_by (by rfl)) (hl : ∀ s H0 C cl fp, Loc (Bk X s H0 scope C cl fp).env.scope y := by intro _ _ _ _ _; first | exact .inl rfl | exact .inr rfl)
    (hfn : ∀ s H0 C cl fp, (Bk X s H0 scope C cl fp).fn y = true ∨ (Bk X s H0 scope C cl fp).env.scope.names.lookup y = some .local := by intro _ _ _ _ _; first | exact .inl rfl | exact .inr rfl)
    (hs : ∀ x, foldedSetIterable iter X.env x = pure x := by intro _; rfl) : Pd X (.ListComp elt [⟨.Name y py, iter, [], 0⟩] scope pos) σ H (.list (ds.map f)) := by
  have h := pd_lcG (own := [(y, j)]) (g := gName j) (tt := tYes) (ifs := []) (T := tName X.K j) (elt := elt) (scope := scope) (pos := pos) f (fun _ => true) hc hN pi hi hz ok (fun s H0 C cl fp => pg_name hN hj (hl s H0 C cl fp) (hfn s H0 C cl fp)) (fun i d x σ H Q _ dx q => tg_name x d σ H Q dx q) wipe_name
    (fun _ _ _ _ _ => pts_nil) (fun i d σ' H1 _ _ _ Q q => q H1 (Same.refl _)) (fun s H0 C cl fp i d σ' H1 hd _ sm hT => by
      obtain ⟨v, dv, rfl⟩ := hT
      exact ⟨H1, Same.refl _, he s H0 C cl fp i d v H1 hd sm dv⟩) (fun d hd _ => hf d hd) hs
  rw [List.filter_eq_self.mpr (fun _ _ => rfl)] at h
  exact h
/-- the same, the new list told -/
theorem pl_lcN (j : Nat) {y : Str} {py : Pos} {iter elt : Expr} {scope : Scope} {wi : TI} (f : Dt → Dt) (hc : X.calm = true) (hN : X.N.Nodup) (pi : PI X (.Name y py) iter wi) (hi : SrcE X wi σ H ds) (hz : ds.length ≤ 100000)
    (he : ∀ s H0 C cl fp (i : Nat) d v H1, ds[i]? = some d → Same H H1 → Dc X.K H1 v d → Pd (Bk X s H0 scope C cl fp) elt ((wipe σ [j]).set j (some v)) H1 (f d)) (hf : ∀ d ∈ ds, fz (f d) = true)
    (hj : X.N[j]? = some y := by rfl) (ok : BlkOk X.N X.env.scope scope [(y, j)] := by first | exact blkOk_by (by kernel_rfl) | exact blkOk_by (by rfl)) (hl : ∀ s H0 C cl fp, Loc (Bk X s H0 scope C cl fp).env.scope y := by intro _ _ _ _ _; first | exact .inl rfl | exact .inr rfl)
    (hfn : ∀ s H0 C cl fp, (Bk X s H0 scope C cl fp).fn y = true ∨ (Bk X s H0 scope C cl fp).env.scope.names.lookup y = some .local := by intro _ _ _ _ _; first | exact .inl rfl | exact .inr rfl)
    (hs : ∀ x, foldedSetIterable iter X.env x = pure x := by intro _; rfl) : Pl X (.ListComp elt [⟨.Name y py, iter, [], 0⟩] scope pos) σ H (ds.map f) := by
  have h := pl_lcG (own := [(y, j)]) (g := gName j) (tt := tYes) (ifs := []) (T := tName X.K j) (elt := elt) (scope := scope) (pos := pos) f (fun _ => true) hc hN pi hi hz ok (fun s H0 C cl fp => pg_name hN hj (hl s H0 C cl fp) (hfn s H0 C cl fp)) (fun i d x σ H Q _ dx q => tg_name x d σ H Q dx q) wipe_name
    (fun _ _ _ _ _ => pts_nil) (fun i d σ' H1 _ _ _ Q q => q H1 (Same.refl _)) (fun s H0 C cl fp i d σ' H1 hd _ sm hT => by
      obtain ⟨v, dv, rfl⟩ := hT
      exact ⟨H1, Same.refl _, he s H0 C cl fp i d v H1 hd sm dv⟩) (fun d hd _ => hf d hd) hs
  rw [List.filter_eq_self.mpr (fun _ _ => rfl)] at h
  exact h
/-- [elt for y in .. if c] -/
theorem pd_lcF (j : Nat) {y : Str} {py : Pos} {iter elt c : Expr} {scope : Scope} {wi : TI} (f : Dt → Dt) (fl : Dt → Bool) (hc : X.calm = true) (hN : X.N.Nodup) (pi : PI X (.Name y py) iter wi) (hi : SrcE X wi σ H ds) (hz : ds.length ≤ 100000)
    (ht : ∀ s H0 C cl fp (i : Nat) d v H1, ds[i]? = some d → Same H H1 → Dc X.K H1 v d → Pt (Bk X s H0 scope C cl fp) c ((wipe σ [j]).set j (some v)) H1 (fl d))
    (he : ∀ s H0 C cl fp (i : Nat) d v H1, ds[i]? = some d → fl d = true → Same H H1 → Dc X.K H1 v d → Pd (Bk X s H0 scope C cl fp) elt ((wipe σ [j]).set j (some v)) H1 (f d)) (hf : ∀ d ∈ ds, fl d = true → fz (f d) = true)
    (hj : X.N[j]? = some y := by rfl) (ok : BlkOk X.N X.env.scope scope [(y, j)] := by first | exact blkOk_by (by kernel_rfl) | exact blkOk_by (by rfl)) (hl : ∀ s H0 C cl fp, Loc (Bk X s H0 scope C cl fp).env.scope y := by intro _ _ _ _ _; first | exact .inl rfl | exact .inr rfl)
    (hfn : ∀ s H0 C cl fp, (Bk X s H0 scope C cl fp).fn y = true ∨ (Bk X s H0 scope C cl fp).env.scope.names.lookup y = some .local := by intro _ _ _ _ _; first | exact .inl rfl | exact .inr rfl)
    (hs : ∀ x, foldedSetIterable iter X.env x = pure x := by intro _; rfl) : Pd X (.ListComp elt [⟨.Name y py, iter, [c], 0⟩] scope pos) σ H (.list ((ds.filter fl).map f)) :=
  pd_lcG (own := [(y, j)]) (g := gName j) (tt := BT X scope c) (ifs := [c]) (T := tName X.K j) (elt := elt) (scope := scope) (pos := pos) f fl hc hN pi hi hz ok (fun s H0 C cl fp => pg_name hN hj (hl s H0 C cl fp) (hfn s H0 C cl fp)) (fun i d x σ H Q _ dx q => tg_name x d σ H Q dx q) wipe_name
    (fun _ _ _ _ _ => pts_one pt_bt) (fun i d σ' H1 hd sm hT Q q => by
      obtain ⟨v, dv, rfl⟩ := hT
      intro s H0 C cl fp
      exact ht s H0 C cl fp i d v H1 hd sm dv H1 (Same.refl _) Q q) (fun s H0 C cl fp i d σ' H1 hd hfl sm hT => by
      obtain ⟨v, dv, rfl⟩ := hT
      exact ⟨H1, Same.refl _, he s H0 C cl fp i d v H1 hd hfl sm dv⟩) hf hs

/-- the same, the new list told -/
theorem pl_lcF (j : Nat) {y : Str} {py : Pos} {iter elt c : Expr} {scope : Scope} {wi : TI} (f : Dt → Dt) (fl : Dt → Bool) (hc : X.calm = true) (hN : X.N.Nodup) (pi : PI X (.Name y py) iter wi) (hi : SrcE X wi σ H ds) (hz : ds.length ≤ 100000)
    (ht : ∀ s H0 C cl fp (i : Nat) d v H1, ds[i]? = some d → Same H H1 → Dc X.K H1 v d → Pt (Bk X s H0 scope C cl fp) c ((wipe σ [j]).set j (some v)) H1 (fl d))
    (he : ∀ s H0 C cl fp (i : Nat) d v H1, ds[i]? = some d → fl d = true → Same H H1 → Dc X.K H1 v d → Pd (Bk X s H0 scope C cl fp) elt ((wipe σ [j]).set j (some v)) H1 (f d)) (hf : ∀ d ∈ ds, fl d = true → fz (f d) = true)
    (hj : X.N[j]? = some y := by rfl) (ok : BlkOk X.N X.env.scope scope [(y, j)] := by first | exact blkOk_by (by kernel_rfl) | exact blkOk_by (by rfl)) (hl : ∀ s H0 C cl fp, Loc (Bk X s H0 scope C cl fp).env.scope y := by intro _ _ _ _ _; first | exact .inl rfl | exact .inr rfl)
    (hfn : ∀ s H0 C cl fp, (Bk X s H0 scope C cl fp).fn y = true ∨ (Bk X s H0 scope C cl fp).env.scope.names.lookup y = some .local := by intro _ _ _ _ _; first | exact .inl rfl | exact .inr rfl)
    (hs : ∀ x, foldedSetIterable iter X.env x = pure x := by intro _; rfl) : Pl X (.ListComp elt [⟨.Name y py, iter, [c], 0⟩] scope pos) σ H ((ds.filter fl).map f) :=
  pl_lcG (own := [(y, j)]) (g := gName j) (tt := BT X scope c) (ifs := [c]) (T := tName X.K j) (elt := elt) (scope := scope) (pos := pos) f fl hc hN pi hi hz ok (fun s H0 C cl fp => pg_name hN hj (hl s H0 C cl fp) (hfn s H0 C cl fp)) (fun i d x σ H Q _ dx q => tg_name x d σ H Q dx q) wipe_name
    (fun _ _ _ _ _ => pts_one pt_bt) (fun i d σ' H1 hd sm hT Q q => by
      obtain ⟨v, dv, rfl⟩ := hT
      intro s H0 C cl fp
      exact ht s H0 C cl fp i d v H1 hd sm dv H1 (Same.refl _) Q q) (fun s H0 C cl fp i d σ' H1 hd hfl sm hT => by
      obtain ⟨v, dv, rfl⟩ := hT
      exact ⟨H1, Same.refl _, he s H0 C cl fp i d v H1 hd hfl sm dv⟩) hf hs

/-! ### for loops that change no object: Pv by the turn, the slots, the heap -/
theorem wb_forS {wi : TI} {g : TG} {tg iter : Expr} {body : List Stmt} {T : Dt → Hp → L2.St → L2.St → Prop} (pi : PI X tg iter wi) (hi : SrcE X wi σ H ds) (pg : PG X tg g) (ht : ∀ (i : Nat) d x σ H Q, ds[i]? = some d → Dc X.K H x d → (∀ σ', T d H σ σ' → Q σ' H) → g x σ H Q)
    (Pv : Nat → L2.St → Prop) (h0 : Pv 0 σ) (hs : ∀ (i : Nat) d σ1 σ2 H1 H2, ds[i]? = some d → Pv i σ1 → Same H H1 → T d H1 σ1 σ2 → (∀ σ' H', Pv (i + 1) σ' → Same H1 H' → H2 σ' H') → WB X body { D with nx := H2, ct := H2, bk := WB X rest D } σ2 H1)
    (hd : ∀ σ1 H1, Pv ds.length σ1 → Same H H1 → WB X rest D σ1 H1)
    (hc : X.calm = true := by rfl) (hp : PassesOwn (model X.prog X.w) X.A X.env X.xe := by exact PassesOwn.never) (hf : ∀ x, foldedSetIterable iter X.env x = pure x := by intro _; rfl) : WB X (.For tg iter body [] pos :: rest) D σ H :=
  wb_ps (ps_for hp hc pi pg pb_w hf) (hi H (Same.refl _) _ fun J H1 s1 src => by
    refine ⟨fun i m σ' H' => m = ds.length - i ∧ i ≤ ds.length ∧ Pv i σ' ∧ Same H1 H', ⟨_, rfl, Nat.zero_le _, h0, Same.refl _⟩, ?_⟩
    rintro i m σ1 H2 ⟨rfl, hi, p, s2⟩
    by_cases hlt : i < ds.length
    · refine .inr ⟨src.go i H2 s2 hlt, fun σ' H' => Pv (i + 1) σ' ∧ Same H1 H', fun σ' H' q => ⟨_, by omega, rfl, hlt, q⟩, fun x H3 y => ?_⟩
      obtain ⟨s3, d, hd1, hd2⟩ := src.yld i H2 x H3 s2 hlt y
      refine ht i d x σ1 H3 _ hd1 hd2 fun σ2 hT => ?_
      exact hs i d σ1 σ2 H3 _ hd1 p ((s1.trans s2).trans s3) hT fun σ' H' q s4 => ⟨q, (s2.trans s3).trans s4⟩
    · have e2 : i = ds.length := by omega
      subst e2
      exact .inl ⟨src.stop H2 s2, hd σ1 H2 p (s1.trans s2)⟩)
/-- the pair of an enumerate, of a zip -/
theorem ht_pair {i j : Nat} (h : ∀ (n : Nat) d, ds[n]? = some d → ∃ d1 d2, d = .tuple [d1, d2]) : ∀ (n : Nat) d x (σ : L2.St) H Q, ds[n]? = some d → Dc X.K H x d → (∀ σ', tPair X.K i j d H σ σ' → Q σ' H) → gTup X.K 2 (gCons (gName i) (gCons (gName j) gNil)) x σ H Q := fun n d x σ H Q hd dx q => by
  obtain ⟨d1, d2, rfl⟩ := h n d hd
  exact tg_pair x d1 d2 σ H Q dx q
theorem enumD_pair : ∀ (n : Nat) d, (enumD ds)[n]? = some d → ∃ d1 d2, d = .tuple [d1, d2] := fun n d h => by
  rw [enumD_get] at h
  cases hx : ds[n]? with
  | none => rw [hx] at h; cases h
  | some u => rw [hx] at h; exact ⟨_, _, (Option.some.inj h).symm⟩
theorem enumD_at {n : Nat} {d : Dt} (h : (enumD ds)[n]? = some d) : ∃ u, ds[n]? = some u ∧ d = .tuple [.int (n : Int), u] := by
  rw [enumD_get] at h
  cases hx : ds[n]? with
  | none => rw [hx] at h; cases h
  | some u => rw [hx] at h; exact ⟨u, rfl, (Option.some.inj h).symm⟩
end
end Sp
namespace Sp
open PySem L2
def top (i : Nat) : Stmt := PySem.Challenge.pw_sheetspaces_k37_whole_what_is_what_it_is.main.body.getD i (.Pass ⟨0, 0, 0, 0⟩)
abbrev s_is_number : Stmt := top 3
abbrev n_is_number : List Str := ["thing"]
theorem sc_is_number : FnScope n_is_number ["thing"] (defScope s_is_number) := ⟨rfl, rfl, rfl, by decide +kernel, rfl, by decide +kernel, by decide +kernel⟩
abbrev s_is_within : Stmt := top 4
abbrev n_is_within : List Str := ["thing", "least", "most"]
theorem sc_is_within : FnScope n_is_within ["thing", "least", "most"] (defScope s_is_within) := ⟨rfl, rfl, rfl, by decide +kernel, rfl, by decide +kernel, by decide +kernel⟩
abbrev s_sure_within : Stmt := top 5
abbrev n_sure_within : List Str := ["thing", "least", "most"]
theorem sc_sure_within : FnScope n_sure_within ["thing", "least", "most"] (defScope s_sure_within) := ⟨rfl, rfl, rfl, by decide +kernel, rfl, by decide +kernel, by decide +kernel⟩
abbrev s_is_long : Stmt := top 6
abbrev n_is_long : List Str := ["thing", "length"]
theorem sc_is_long : FnScope n_is_long ["thing", "length"] (defScope s_is_long) := ⟨rfl, rfl, rfl, by decide +kernel, rfl, by decide +kernel, by decide +kernel⟩
abbrev s_are_numbers : Stmt := top 7
abbrev n_are_numbers : List Str := ["thing", "own"]
theorem sc_are_numbers : FnScope n_are_numbers ["thing"] (defScope s_are_numbers) := ⟨rfl, rfl, rfl, by decide +kernel, rfl, by decide +kernel, by decide +kernel⟩
abbrev s_is_turn_of : Stmt := top 8
abbrev n_is_turn_of : List Str := ["thing"]
theorem sc_is_turn_of : FnScope n_is_turn_of ["thing"] (defScope s_is_turn_of) := ⟨rfl, rfl, rfl, by decide +kernel, rfl, by decide +kernel, by decide +kernel⟩
abbrev s_turn_back : Stmt := top 9
abbrev n_turn_back : List Str := ["turn", "found", "place", "own"]
theorem sc_turn_back : FnScope n_turn_back ["turn"] (defScope s_turn_back) := ⟨rfl, rfl, rfl, by decide +kernel, rfl, by decide +kernel, by decide +kernel⟩
abbrev s_is_seam_like : Stmt := top 12
abbrev n_is_seam_like : List Str := ["thing"]
theorem sc_is_seam_like : FnScope n_is_seam_like ["thing"] (defScope s_is_seam_like) := ⟨rfl, rfl, rfl, by decide +kernel, rfl, by decide +kernel, by decide +kernel⟩
abbrev s_told_back : Stmt := top 13
abbrev n_told_back : List Str := ["thing", "block", "face", "seam", "far"]
theorem sc_told_back : FnScope n_told_back ["thing", "block", "face"] (defScope s_told_back) := ⟨rfl, rfl, rfl, by decide +kernel, rfl, by decide +kernel, by decide +kernel⟩
abbrev s_is_space_of : Stmt := top 14
abbrev n_is_space_of : List Str := ["thing", "block", "own", "face"]
theorem sc_is_space_of : FnScope n_is_space_of ["thing"] (defScope s_is_space_of) := ⟨rfl, rfl, rfl, by decide +kernel, rfl, by decide +kernel, by decide +kernel⟩
abbrev s_is_space : Stmt := top 15
abbrev n_is_space : List Str := ["thing"]
theorem sc_is_space : FnScope n_is_space ["thing"] (defScope s_is_space) := ⟨rfl, rfl, rfl, by decide +kernel, rfl, by decide +kernel, by decide +kernel⟩
abbrev s_is_side_like : Stmt := top 17
abbrev n_is_side_like : List Str := ["thing", "own"]
theorem sc_is_side_like : FnScope n_is_side_like ["thing"] (defScope s_is_side_like) := ⟨rfl, rfl, rfl, by decide +kernel, rfl, by decide +kernel, by decide +kernel⟩
abbrev s_is_surface_of : Stmt := top 18
abbrev n_is_surface_of : List Str := ["thing", "own", "face", "sides", "side"]
theorem sc_is_surface_of : FnScope n_is_surface_of ["thing"] (defScope s_is_surface_of) := ⟨rfl, rfl, rfl, by decide +kernel, rfl, by decide +kernel, by decide +kernel⟩
abbrev s_is_surface : Stmt := top 19
abbrev n_is_surface : List Str := ["thing"]
theorem sc_is_surface : FnScope n_is_surface ["thing"] (defScope s_is_surface) := ⟨rfl, rfl, rfl, by decide +kernel, rfl, by decide +kernel, by decide +kernel⟩
abbrev s_is_word_of : Stmt := top 21
abbrev n_is_word_of : List Str := ["many", "thing", "letter"]
theorem sc_is_word_of : FnScope n_is_word_of ["many", "thing"] (defScope s_is_word_of) := ⟨rfl, rfl, rfl, by decide +kernel, rfl, by decide +kernel, by decide +kernel⟩
abbrev s_is_given_of : Stmt := top 22
abbrev n_is_given_of : List Str := ["thing", "word"]
theorem sc_is_given_of : FnScope n_is_given_of ["thing"] (defScope s_is_given_of) := ⟨rfl, rfl, rfl, by decide +kernel, rfl, by decide +kernel, by decide +kernel⟩
abbrev s_is_given : Stmt := top 23
abbrev n_is_given : List Str := ["thing"]
theorem sc_is_given : FnScope n_is_given ["thing"] (defScope s_is_given) := ⟨rfl, rfl, rfl, by decide +kernel, rfl, by decide +kernel, by decide +kernel⟩
abbrev s_is_move_of : Stmt := top 26
abbrev n_is_move_of : List Str := ["thing", "own"]
theorem sc_is_move_of : FnScope n_is_move_of ["thing"] (defScope s_is_move_of) := ⟨rfl, rfl, rfl, by decide +kernel, rfl, by decide +kernel, by decide +kernel⟩
abbrev s_is_move : Stmt := top 27
abbrev n_is_move : List Str := ["thing"]
theorem sc_is_move : FnScope n_is_move ["thing"] (defScope s_is_move) := ⟨rfl, rfl, rfl, by decide +kernel, rfl, by decide +kernel, by decide +kernel⟩
abbrev s_is_shuffle_in : Stmt := top 30
abbrev n_is_shuffle_in : List Str := ["things", "thing"]
theorem sc_is_shuffle_in : FnScope n_is_shuffle_in ["things", "thing"] (defScope s_is_shuffle_in) := ⟨rfl, rfl, rfl, by decide +kernel, rfl, by decide +kernel, by decide +kernel⟩
abbrev s_sure_things : Stmt := top 31
abbrev n_sure_things : List Str := ["things"]
theorem sc_sure_things : FnScope n_sure_things ["things"] (defScope s_sure_things) := ⟨rfl, rfl, rfl, by decide +kernel, rfl, by decide +kernel, by decide +kernel⟩
abbrev s_is_shuffle : Stmt := top 32
abbrev n_is_shuffle : List Str := ["things", "thing"]
theorem sc_is_shuffle : FnScope n_is_shuffle ["things", "thing"] (defScope s_is_shuffle) := ⟨rfl, rfl, rfl, by decide +kernel, rfl, by decide +kernel, by decide +kernel⟩
abbrev s_is_table_of : Stmt := top 34
abbrev n_is_table_of : List Str := ["thing", "row"]
theorem sc_is_table_of : FnScope n_is_table_of ["thing"] (defScope s_is_table_of) := ⟨rfl, rfl, rfl, by decide +kernel, rfl, by decide +kernel, by decide +kernel⟩
abbrev s_is_table : Stmt := top 35
abbrev n_is_table : List Str := ["thing"]
theorem sc_is_table : FnScope n_is_table ["thing"] (defScope s_is_table) := ⟨rfl, rfl, rfl, by decide +kernel, rfl, by decide +kernel, by decide +kernel⟩
abbrev s_are_discs : Stmt := top 38
abbrev n_are_discs : List Str := ["thing", "own", "its"]
theorem sc_are_discs : FnScope n_are_discs ["thing"] (defScope s_are_discs) := ⟨rfl, rfl, rfl, by decide +kernel, rfl, by decide +kernel, by decide +kernel⟩
abbrev s__law_box : Stmt := top 40
abbrev n__law_box : List Str := ["script", "k", "bit_so"]
theorem sc__law_box : FnScope n__law_box ["script", "k"] (defScope s__law_box) := ⟨rfl, rfl, rfl, by decide +kernel, rfl, by decide +kernel, by decide +kernel⟩
abbrev s__law_take : Stmt := top 41
abbrev n__law_take : List Str := ["tin", "below_so", "drawn_so", "once_so", "wide_so", "twice_so"]
theorem sc__law_take : FnScope n__law_take ["tin", "below_so"] (defScope s__law_take) := ⟨rfl, rfl, rfl, by decide +kernel, rfl, by decide +kernel, by decide +kernel⟩
abbrev s__law_cells : Stmt := top 42
abbrev n__law_cells : List Str := ["script", "most_so", "cells_so", "k", "bit_so", "at_so"]
theorem sc__law_cells : FnScope n__law_cells ["script", "most_so"] (defScope s__law_cells) := ⟨rfl, rfl, rfl, by decide +kernel, rfl, by decide +kernel, by decide +kernel⟩
abbrev s__law_of : Stmt := top 43
abbrev n__law_of : List Str := ["tin", "goods_so"]
theorem sc__law_of : FnScope n__law_of ["tin", "goods_so"] (defScope s__law_of) := ⟨rfl, rfl, rfl, by decide +kernel, rfl, by decide +kernel, by decide +kernel⟩
abbrev s__law_pick : Stmt := top 44
abbrev n__law_pick : List Str := ["tin", "goods_so", "count_so", "pool_so", "found", "lap"]
theorem sc__law_pick : FnScope n__law_pick ["tin", "goods_so", "count_so"] (defScope s__law_pick) := ⟨rfl, rfl, rfl, by decide +kernel, rfl, by decide +kernel, by decide +kernel⟩
abbrev s__law_same : Stmt := top 45
abbrev n__law_same : List Str := ["got", "due", "mine", "its"]
theorem sc__law_same : FnScope n__law_same ["got", "due"] (defScope s__law_same) := ⟨rfl, rfl, rfl, by decide +kernel, rfl, by decide +kernel, by decide +kernel⟩
abbrev s__law_is_int : Stmt := top 46
abbrev n__law_is_int : List Str := ["k"]
theorem sc__law_is_int : FnScope n__law_is_int ["k"] (defScope s__law_is_int) := ⟨rfl, rfl, rfl, by decide +kernel, rfl, by decide +kernel, by decide +kernel⟩
abbrev s__law_flat : Stmt := top 47
abbrev n__law_flat : List Str := ["rows_so", "found", "own"]
theorem sc__law_flat : FnScope n__law_flat ["rows_so"] (defScope s__law_flat) := ⟨rfl, rfl, rfl, by decide +kernel, rfl, by decide +kernel, by decide +kernel⟩
abbrev s__law_turns : Stmt := top 48
abbrev n__law_turns : List Str := ["found", "lap", "later_so", "own", "its"]
theorem sc__law_turns : FnScope n__law_turns [] (defScope s__law_turns) := ⟨rfl, rfl, rfl, by decide +kernel, rfl, by decide +kernel, by decide +kernel⟩
abbrev s__law_undone : Stmt := top 49
abbrev n__law_undone : List Str := ["turn_so", "k"]
theorem sc__law_undone : FnScope n__law_undone ["turn_so"] (defScope s__law_undone) := ⟨rfl, rfl, rfl, by decide +kernel, rfl, by decide +kernel, by decide +kernel⟩
abbrev s__law_word : Stmt := top 50
abbrev n__law_word : List Str := ["tin", "many_so", "long_so", "lap"]
theorem sc__law_word : FnScope n__law_word ["tin", "many_so", "long_so"] (defScope s__law_word) := ⟨rfl, rfl, rfl, by decide +kernel, rfl, by decide +kernel, by decide +kernel⟩
abbrev s__law_loose : Stmt := top 51
abbrev n__law_loose : List Str := ["tin", "most_so", "many_so", "rows_so", "lefts_so", "k", "lap", "block_so", "face_so", "other_so", "goal_so", "turn_so", "own"]
theorem sc__law_loose : FnScope n__law_loose ["tin", "most_so"] (defScope s__law_loose) := ⟨rfl, rfl, rfl, by decide +kernel, rfl, by decide +kernel, by decide +kernel⟩
abbrev s__law_put : Stmt := top 52
abbrev n__law_put : List Str := ["row_so", "at_so", "bit_so"]
theorem sc__law_put : FnScope n__law_put ["row_so", "at_so", "bit_so"] (defScope s__law_put) := ⟨rfl, rfl, rfl, by decide +kernel, rfl, by decide +kernel, by decide +kernel⟩
abbrev s__law_as_table : Stmt := top 53
abbrev n__law_as_table : List Str := ["wide_so", "rows_so", "own"]
theorem sc__law_as_table : FnScope n__law_as_table ["wide_so", "rows_so"] (defScope s__law_as_table) := ⟨rfl, rfl, rfl, by decide +kernel, rfl, by decide +kernel, by decide +kernel⟩
abbrev s__law_some_table : Stmt := top 54
abbrev n__law_some_table : List Str := ["tin", "most_so", "wide_so", "many_so", "top_so", "rows_so", "k", "j", "x", "y", "a", "b"]
theorem sc__law_some_table : FnScope n__law_some_table ["tin", "most_so"] (defScope s__law_some_table) := ⟨rfl, rfl, rfl, by decide +kernel, rfl, by decide +kernel, by decide +kernel⟩
abbrev s__law_row : Stmt := top 55
abbrev n__law_row : List Str := ["thing_so", "x"]
theorem sc__law_row : FnScope n__law_row ["thing_so"] (defScope s__law_row) := ⟨rfl, rfl, rfl, by decide +kernel, rfl, by decide +kernel, by decide +kernel⟩
abbrev s__law_turn : Stmt := top 56
abbrev n__law_turn : List Str := ["thing_so"]
theorem sc__law_turn : FnScope n__law_turn ["thing_so"] (defScope s__law_turn) := ⟨rfl, rfl, rfl, by decide +kernel, rfl, by decide +kernel, by decide +kernel⟩
abbrev s__law_a_space : Stmt := top 57
abbrev n__law_a_space : List Str := ["thing_so", "own", "seams_so", "k", "f"]
theorem sc__law_a_space : FnScope n__law_a_space ["thing_so"] (defScope s__law_a_space) := ⟨rfl, rfl, rfl, by decide +kernel, rfl, by decide +kernel, by decide +kernel⟩
abbrev s__law_a_move : Stmt := top 58
abbrev n__law_a_move : List Str := ["thing_so", "longs_so", "x"]
theorem sc__law_a_move : FnScope n__law_a_move ["thing_so"] (defScope s__law_a_move) := ⟨rfl, rfl, rfl, by decide +kernel, rfl, by decide +kernel, by decide +kernel⟩
abbrev s__law_a_table : Stmt := top 59
abbrev n__law_a_table : List Str := ["thing_so", "own"]
theorem sc__law_a_table : FnScope n__law_a_table ["thing_so"] (defScope s__law_a_table) := ⟨rfl, rfl, rfl, by decide +kernel, rfl, by decide +kernel, by decide +kernel⟩
abbrev s__law_a_given : Stmt := top 60
abbrev n__law_a_given : List Str := ["thing_so", "own", "x"]
theorem sc__law_a_given : FnScope n__law_a_given ["thing_so"] (defScope s__law_a_given) := ⟨rfl, rfl, rfl, by decide +kernel, rfl, by decide +kernel, by decide +kernel⟩
abbrev s__law_some_discs : Stmt := top 61
abbrev n__law_some_discs : List Str := ["thing_so", "own", "x"]
theorem sc__law_some_discs : FnScope n__law_some_discs ["thing_so"] (defScope s__law_some_discs) := ⟨rfl, rfl, rfl, by decide +kernel, rfl, by decide +kernel, by decide +kernel⟩
abbrev s__law_a_surface : Stmt := top 62
abbrev n__law_a_surface : List Str := ["thing_so", "own", "f", "sides_so", "s"]
theorem sc__law_a_surface : FnScope n__law_a_surface ["thing_so"] (defScope s__law_a_surface) := ⟨rfl, rfl, rfl, by decide +kernel, rfl, by decide +kernel, by decide +kernel⟩
abbrev s__law_some_surface : Stmt := top 63
abbrev n__law_some_surface : List Str := ["tin", "rows_so", "k", "spots_so", "f", "own", "s", "line_so", "one", "two", "way_so"]
theorem sc__law_some_surface : FnScope n__law_some_surface ["tin"] (defScope s__law_some_surface) := ⟨rfl, rfl, rfl, by decide +kernel, rfl, by decide +kernel, by decide +kernel⟩
abbrev s__law_bent : Stmt := top 64
abbrev n__law_bent : List Str := ["tin", "matter", "k"]
theorem sc__law_bent : FnScope n__law_bent ["tin", "matter"] (defScope s__law_bent) := ⟨rfl, rfl, rfl, by decide +kernel, rfl, by decide +kernel, by decide +kernel⟩
abbrev s__law_lap_one : Stmt := top 65
abbrev n__law_lap_one : List Str := ["tin", "things_so", "shuffle_so", "moves_so", "many_so", "given_so", "lap", "discs_so", "k", "j", "goods_so", "door", "judge_so", "own", "bent_so", "odds_so", "its"]
theorem sc__law_lap_one : FnScope n__law_lap_one ["tin"] (defScope s__law_lap_one) := ⟨rfl, rfl, rfl, by decide +kernel, rfl, by decide +kernel, by decide +kernel⟩
abbrev s_law : Stmt := top 66
abbrev n_law : List Str := ["script", "tin", "lap"]
theorem sc_law : FnScope n_law ["script"] (defScope s_law) := ⟨rfl, rfl, rfl, by decide +kernel, rfl, by decide +kernel, by decide +kernel⟩
end Sp
/-! sorted(t), t a tuple of ints -/
namespace Sp
open PySem L2
section
open PyProof.Rows SrtO Srt
variable {prog : Program} {w : World} {A : Around} {E : Value → Shared → Prop} {s : Shared}
theorem sorted_of_tuple {t : Addr} {us : List Value} {ns : List Int} {Q : Value → Shared → Prop} (ht : IsTup s.heap t us.toArray) (hI : IntsAre us ns) (hz : us.length ≤ sizeLine)
    (h : ∀ (g1 g : Heap) (out : List Value) (ms : List Int) (n : Nat), (∀ b o, s.heap.get? b = some o → g1.get? b = some o) → (∀ b o, g1.get? b = some o → g.get? b = some o) → g.get? g1.objs.size = some (seqObj "list" out.toArray n) → IntsAre out ms → ms.Perm ns → ms.Pairwise (· ≤ ·) → Q (.ref g1.objs.size) { s with heap := g }) :
    wpAny (model prog w) A (call (.builtin "sorted") [.ref t]) Q E s := by
  obtain ⟨o, ho, hc, n, hd⟩ := ht
  refine Calls.call_function_entry kind_sorted plain_sorted entry_sorted (args_sorted1 _) ?_
  unfold Builtin.«sorted»
  refine wpAny_bind (m := checkCount "sorted" 1 1 _) (wpAny_pure ?_)
  refine wpAny_bind (wpAny_collect_seq t (.inr rfl) ho hc hd (fun g1 k1 => ?_) (by simpa using hz))
  refine wpAny_bind (wpAny_newList ?_ hz)
  have top : (g1.push (seqObj "list" us.toArray 0)).get? g1.objs.size = some (seqObj "list" us.toArray 0) := Heap.get?_push_size _ rfl
  refine wpAny_bind (wpAny_holding (wpAny_call_entry slot_list_sort ⟨_, top, rfl⟩ entry_list_sort (list_sort_ord swo_int top hz (fun h2 => ints_sortable hI h2) fun out hs hb => ⟨_, rfl, ?_⟩) (args_list_sort _)))
  obtain ⟨i1, i2, i3⟩ := ints_out hI hs hb
  obtain ⟨ep, at'⟩ := sortedHeap_at (vs := us) (out := out.toArray) top
  refine wpAny_pure ⟨_, rfl, h g1 _ out (out.map iv) ep k1 (fun b u hu => ?_) at' i1 i2 i3⟩
  have lt := Heap.lt_size hu
  rw [sortedHeap_old (Nat.ne_of_lt lt) (by rw [Heap.size_push]; exact Nat.lt_succ_of_lt lt)]
  exact Heap.get?_push_of_some _ hu
end
section
open PyProof.Rows
/-- sorted(t) -/
def rSortT (K : PySem.W.Frag) : List V → Hp → VK → Prop := fun vs H Q => ∃ (a : Addr) (ns : List Int), vs = [V.ref a] ∧ SqT K H a (ns.map V.int) ∧ ∀ (ms : List Int) (p : Addr), ms.Perm ns → ms.Pairwise (· ≤ ·) → H p = none → Q (.ref p) (upd H p (.lst (ms.map V.int)))
theorem cr_sortT {X : Cx} : CallR X (.builtin "sorted") (rSortT X.K) := by
  intro pins s σ H vs us Q I r h
  obtain ⟨a, ns, rfl, hs, q⟩ := h
  obtain ⟨its, rv, ht, hz⟩ := I.tuple hs
  rw [Vals.ref1 r]
  refine sorted_of_tuple ht rv.ints (by rw [← rv.length]; exact hz) fun g1 g out ms n k1 k2 at' i1 i2 i3 => ?_
  have I1 : Inv X pins σ H { s with heap := g1 } := I.kept (t' := s.toks) k1
  have hl : (ms.map V.int).length ≤ sizeLine := by
    rw [List.length_map, i2.length_eq]
    rw [List.length_map] at hz
    exact hz
  exact ⟨.ref g1.objs.size, upd H g1.objs.size (.lst (ms.map V.int)), I1.laid (t' := s.toks) k2 (Nat.le_refl _) ⟨hl, out, n, vals_of_ints i1, at'⟩, rfl, q ms _ i2 i3 (I1.hok.fresh (Nat.le_refl _))⟩
end
end Sp
/-! for a, b in enumerate(t), t a tuple -/
namespace Sp
open PySem L2
open Sem (wp)
set_option maxHeartbeats 4000000 in
theorem meets_enumT {u : Value} {ob : Obj} {G : Heap → Prop} (B : Begins u ob G) :
    Meets (Builtin.«enumerate.__new__» ⟨[.type "enumerate", u], []⟩) (fun _ R z => G z.heap ∧ R (.ok (.ret (.ref (z.heap.push ob).objs.size)))
      { z with heap := (z.heap.push ob).push { cls := .type "enumerate", data := .fields #[.none, .bool false, .ref z.heap.objs.size, rawInt 0, .none, .none] } }) :=
  .of_wp fun pr wo Ar Rr st hyp => by
    obtain ⟨h0, gg, dd, tt, oo⟩ := st
    obtain ⟨hG, fin⟩ := hyp
    have sub := sub_enumerate
    have it : ∀ {A1 : Around} {E1 : Value → Shared → Prop} {Q1 : Value → Shared → Prop}, Q1 (.ref h0.objs.size) ⟨h0.push ob, gg, dd, tt, oo⟩ → wpAny (model pr wo) A1 (pyIter u) Q1 E1 ⟨h0, gg, dd, tt, oo⟩ :=
      fun q => B.iter pr wo _ _ ⟨h0, gg, dd, tt, oo⟩ _ hG q
    wp_walk using it
    refine wpAny_stack_any fun _ => wpAny_pure ?_
    split
    · rename_i cc _ _ _ _ _
      cases (cc == Value.type "enumerate") <;> (wp_walk using it; exact ⟨_, rfl, fin⟩)
    · wp_walk using it
      exact ⟨_, rfl, fin⟩
section
variable {prog : Program} {w : World} {A : Around} {E : Value → Shared → Prop} {s : Shared}
theorem call_enumT {u : Value} {ob : Obj} {G : Heap → Prop} {Q : Value → Shared → Prop} (B : Begins u ob G) (hG : G s.heap)
    (k : ∀ g, IsEnum g (s.heap.objs.size + 1) s.heap.objs.size 0 .none → g.get? s.heap.objs.size = some ob → (∀ b o, s.heap.get? b = some o → g.get? b = some o) → Q (.ref (s.heap.objs.size + 1)) { s with heap := g }) :
    wpAny (model prog w) A (call (.type "enumerate") [u]) Q E s := by
  refine callType_new F.called_enumerate (by decide) (F.typeCall_enumerate_1 _) (F.newCall_enumerate_1 _) (fun _ => F.args_object_init_2 _ _) F.entry_enumerate_new (meets_enumT B) ⟨hG, ?_⟩
  have sz : (s.heap.push ob).objs.size = s.heap.objs.size + 1 := Heap.size_push ..
  show _ ∧ _
  rw [sz]
  have en : IsEnum ((s.heap.push ob).push { cls := .type "enumerate", data := .fields #[.none, .bool false, .ref s.heap.objs.size, rawInt 0, .none, .none] }) (s.heap.objs.size + 1) s.heap.objs.size 0 .none := by
    have z := Heap.get?_push_size (s.heap.push ob) (o := { cls := .type "enumerate", data := .fields #[.none, .bool false, .ref s.heap.objs.size, rawInt 0, .none, .none] }) rfl
    rw [sz] at z
    exact z
  exact ⟨⟨_, en, rfl⟩, k _ en (Heap.get?_push_of_some _ (Heap.get?_push_size _ B.free)) fun b o hb => Heap.get?_push_of_some _ (Heap.get?_push_of_some _ hb)⟩
end
/-- the tuple at a, each item in a new pair -/
def IteT (K : PySem.W.Frag) (a : Addr) : It where
  go i H := ∃ xs x, SqT K H a xs ∧ xs[i]? = some x
  yld i H v H' := ∃ T x, v = .ref T ∧ H T = none ∧ H' = upd H T (.tup [.int (i : Nat), x]) ∧ ∀ xs, SqT K H a xs → xs[i]? = some x
  stop i H := ∃ xs : List V, SqT K H a xs ∧ xs.length ≤ i
theorem tupApart {h : Heap} {a b : Addr} {its : Array Value} {ob : Obj} (ht : h.IsTuple a its) (hb : h.get? b = some ob) (hc : ob.cls ≠ .type "tuple") : a ≠ b := by
  rintro rfl
  obtain ⟨o, ho, hcl, _⟩ := ht
  rw [ho] at hb
  cases hb
  exact hc hcl
theorem turn_enumT {P : Program} {w : World} {K : PySem.W.Frag} {elts : List Expr} {kk : Nat} {tpos : Pos} (a e it : Addr) :
    Turn P w K (.Tuple elts kk tpos) (IteT K a) [e, it] e (fun i h => (∃ old, IsEnum h e it (i : Int) old) ∧ h.IsTupleIter it a i ∧ e ≠ it) where
  mem := List.mem_cons_self
  obj i h st b hb := by
    obtain ⟨⟨_, en⟩, ⟨o, ho, _, hd⟩, _⟩ := st
    rcases List.mem_cons.mp hb with rfl | hb
    · exact ⟨_, en, fun _ q => nomatch q⟩
    · rw [List.mem_singleton.mp hb]
      exact ⟨o, ho, fun _ q => by rw [hd] at q; cases q⟩
  keep i h h' st k := by
    obtain ⟨⟨old, en⟩, hi, ne⟩ := st
    exact ⟨⟨old, k e List.mem_cons_self _ en⟩, hi.at fun o q => k it (List.mem_cons_of_mem _ List.mem_cons_self) o q, ne⟩
  item X hP hw hK hc i pins s σ H E I hf st hg := by
    subst hP hw hK
    obtain ⟨⟨old, en⟩, hi, ne⟩ := st
    obtain ⟨xs, x, hq, hx⟩ := hg
    obtain ⟨its, rv, ht, _⟩ := I.tuple hq
    obtain ⟨u, hu, ru⟩ := rv.get hx
    have hlt : i < its.toArray.size := by simpa using (List.getElem?_eq_some_iff.mp hu).1
    have hne : a ≠ it := tupApart (h := s.heap) (its := its.toArray) ht hi.choose_spec.1 (by rw [hi.choose_spec.2.1]; intro z; exact absurd (Value.type.inj z) (by decide))
    have hne2 : a ≠ e := tupApart (h := s.heap) (its := its.toArray) ht en (by intro z; exact absurd (Value.type.inj z) (by decide))
    have le : e < s.heap.objs.size := Heap.lt_size en
    have li : it < s.heap.objs.size := Heap.lt_size hi.choose_spec.1
    refine wpAny_pyNext_enum_itemD (Draws.tuple (A := X.A.in1) (by exact I.ok.hd hc) it a hne its.toArray) en ⟨hi, ht⟩ hlt ne (by simp [ne, Ne.symm hne2]) fun y g tk hy ho st' hT hsz hk => ?_
    have ey : y = u := by
      have hu' : its.toArray[i]? = some u := by simpa using hu
      rw [hu'] at hy
      exact (Option.some.inj hy).symm
    subst ey
    refine ⟨_, rfl, wpAny_letOwnedTupleGo_enum (s := { s with heap := g, toks := tk + 1 }) ho fun g2 en2 sb => ?_⟩
    have hT2 : g2.get? s.heap.objs.size = some { cls := .type "tuple", data := .seq #[.int i tk, y] } := (sb.2 _ (Nat.ne_of_gt le)).trans hT
    have new : ObjOk X.prog X.w (upd H s.heap.objs.size (.tup [.int (i : Nat), x])) g2 s.heap.objs.size (.tup [.int (i : Nat), x]) :=
      ⟨(by decide : 2 ≤ sizeLine), [.int i tk, y], .cons ⟨_, rfl⟩ (.cons ru .nil), _, hT2, rfl, _, rfl⟩
    have I1 : Inv X pins σ (upd H s.heap.objs.size (.tup [.int (i : Nat), x])) { s with heap := g2, toks := tk + 1 } :=
      I.turnedNew (ch := [e, it]) (fun b ob nb q => (sb.2 b (fun z => nb (by simp [z]))).trans (hk b ob (fun z => nb (by simp [z])) (fun z => nb (by simp [z])) q)) hf (Nat.le_refl _) new
    refine ⟨.ref s.heap.objs.size, _, I1, rfl, ⟨_, x, rfl, I.hok.fresh (Nat.le_refl _), rfl, fun ys hy => by rw [I.tuple_inj hy hq]; exact hx⟩, ⟨⟨y, by
      have ec : ((i + 1 : Nat) : Int) = (i : Int) + 1 := by omega
      rw [ec]; exact en2⟩, st'.1.at fun o q => (sb.2 it (Ne.symm ne)).trans q, ne⟩, fun b hb => ?_⟩
    have lb : b < s.heap.objs.size := by
      rcases List.mem_cons.mp hb with rfl | hb
      · exact le
      · rw [List.mem_singleton.mp hb]; exact li
    rw [upd_ne (Nat.ne_of_lt lb)]
    exact (hf b hb).1
  done X hP hw hK hc i pins s σ H E I hf st hg := by
    subst hP hw hK
    obtain ⟨⟨old, en⟩, hi, ne⟩ := st
    obtain ⟨xs, hq, hx⟩ := hg
    obtain ⟨its, rv, ht, _⟩ := I.tuple hq
    obtain ⟨f0, f1, f2, f3, f4, f5⟩ := hf it (by simp)
    have hne : a ≠ it := tupApart (h := s.heap) (its := its.toArray) ht hi.choose_spec.1 (by rw [hi.choose_spec.2.1]; intro z; exact absurd (Value.type.inj z) (by decide))
    have hlen := rv.length
    have dr : Draws X.prog X.w X.A.in1 it [it, a] i (fun _ _ => False) (fun j h => h.IsTupleIter it a j ∧ h.IsTuple a its.toArray ∧ j = i) :=
      { live := fun _ _ z => ⟨_, z.1.choose_spec.1⟩
        frame := fun _ _ _ z k => ⟨z.1.at fun o q => k it (by simp) o q, z.2.1.at fun o q => k a (by simp) o q, z.2.2⟩
        item := fun j _ _ _ lt z => absurd z.2.2 (Nat.ne_of_lt lt)
        done := fun _ _ _ z k => wpAny_nextOf_tuple_end (by exact I.ok.hd hc) z.1 z.2.1 (by simp; omega) k }
    exact wpAny_pyNext_enum_endD dr en ⟨hi, ht, rfl⟩ fun g eb => ⟨rfl, I.turned (t' := s.toks) (fun b o nb q => eb b o nb q) f0 f1 f3 f4 f5⟩
  self A i s Q E st h := by
    obtain ⟨⟨_, en⟩, _⟩ := st
    exact wpAny_pyIter_enum en h
def iEnumT (K : PySem.W.Frag) (ta : TA) : TI := fun σ H R => ta σ H fun vs H1 => ∃ a xs, vs = [.ref a] ∧ SqT K H1 a xs ∧ R (IteT K a) H1
theorem pi_enumT {X : Cx} {e : Expr} {ta : TA} {p pos tpos : Pos} {elts : List Expr} {kk : Nat} (hm : X.mg "enumerate" = none) (ha : PA X [e] ta) (hg : Gl X "enumerate" := by rfl) (hs : starEach [e] X.env = [(false, eval e X.env)] := by rfl) :
    PI X (.Tuple elts kk tpos) (.Call (.Name "enumerate" p) [e] [] pos) (iEnumT X.K ta) := by
  refine ⟨fun pins s σ H R I h => PyProof.Rows.Call_ (ld_blt I hg hm PyProof.Rows.boot_enumerate (PyProof.Rows.callWith_type1 (thn (ha.run pos pins s σ H _ I h) fun us s1 ⟨vs, H1, I1, r1, q1⟩ => ?_) hs rfl))⟩
  obtain ⟨a, xs, rfl, hq, q⟩ := q1
  cases r1 with
  | cons r rr =>
    cases rr
    cases r
    obtain ⟨its, rv, ht, hz⟩ := I1.tuple hq
    refine call_enumT (begins_tuple a its.toArray) ht fun g en hit hk => wpAny_pyIter_enum en ?_
    have I2 : Inv X pins σ H1 { s1 with heap := g } := I1.kept (t' := s1.toks) hk
    refine ⟨s1.heap.objs.size + 1, [s1.heap.objs.size + 1, s1.heap.objs.size], _, _, H1, rfl, I2, turn_enumT a _ s1.heap.objs.size, ⟨⟨_, en⟩, ⟨_, hit, rfl, rfl⟩, Nat.succ_ne_self _⟩, fun b hb => ?_, q⟩
    have le : s1.heap.objs.size ≤ b := by
      rcases List.mem_cons.mp hb with z | z
      · rw [z]; exact Nat.le_succ _
      · rw [List.mem_singleton.mp z]; exact Nat.le_refl _
    exact I1.fpOk le (I1.hok.fresh le)
theorem src_enumT {X : Cx} {σ : L2.St} {H : Hp} {a : Expr} {ds : List Dt} (h : Pa X [a] σ H [.tuple ds]) : SrcE X (iEnumT X.K (WA X [a])) σ H (enumD ds) := fun H1 s R q => h H1 s _ fun vs H2 s2 dv => by
  obtain ⟨v, rfl, dv'⟩ := dv.get1
  obtain ⟨a, xs, rfl, ht, hd⟩ := Dc.tupleI dv'
  refine ⟨a, xs, rfl, ht, q _ H2 s2 ⟨fun i H' s' hi => ?_, fun H' s' => ⟨xs, SqT.kept s' ht, by rw [hd.length, enumD_len]; exact Nat.le_refl _⟩, fun i H' x H'' s' hi y => ?_⟩⟩
  · rw [enumD_len] at hi
    exact ⟨xs, xs[i]'(by rw [hd.length]; exact hi), SqT.kept s' ht, by simp [hd.length, hi]⟩
  · obtain ⟨T, y1, rfl, hT, rfl, y⟩ := y
    obtain ⟨d, h1, h2⟩ := hd.got (y xs (SqT.kept s' ht))
    exact ⟨Same.new hT, _, by rw [enumD_get, h1]; rfl, .tup (SqU.two (SqT.of upd_same)) (.cons (.int _) (.one (Dc.kept (s'.trans (Same.new hT)) h2)))⟩
end Sp
/-! the plain functions: what is a thing -/
namespace Sp
open PySem L2
mutual
/-- all rows within have at most a thousand members, no dicts -/
def sm : Dt → Bool
  | .none | .bool _ | .int _ => true
  | .str x => PyData.canLay0 (.str x)
  | .list xs | .tuple xs => decide (xs.length ≤ 1000) && smA xs
  | .dict _ => false
def smA : List Dt → Bool
  | [] => true
  | x :: xs => sm x && smA xs
end
theorem smA_iff : ∀ {ds : List Dt}, smA ds = true ↔ ∀ d ∈ ds, sm d = true
  | [] => by simp [smA]
  | d :: ds => by simp [smA, smA_iff (ds := ds)]
theorem sm_tuple {xs : List Dt} (h : sm (.tuple xs) = true) : xs.length ≤ 1000 ∧ ∀ d ∈ xs, sm d = true := by
  simp only [sm, Bool.and_eq_true, decide_eq_true_eq] at h
  exact ⟨h.1, smA_iff.mp h.2⟩
theorem sm_list {xs : List Dt} (h : sm (.list xs) = true) : xs.length ≤ 1000 ∧ ∀ d ∈ xs, sm d = true := by
  simp only [sm, Bool.and_eq_true, decide_eq_true_eq] at h
  exact ⟨h.1, smA_iff.mp h.2⟩
theorem sm_mk {xs : List Dt} (h : xs.length ≤ 1000) (h2 : ∀ d ∈ xs, sm d = true) : sm (.tuple xs) = true := by
  simp only [sm, Bool.and_eq_true, decide_eq_true_eq]
  exact ⟨h, smA_iff.mpr h2⟩
theorem isTup {d : Dt} (h : isIn "tuple" d = true) : ∃ xs, d = .tuple xs := by
  cases d <;> first | exact ⟨_, rfl⟩ | (simp [isIn, tyN] at h)
theorem isTup_no {d : Dt} (h : isIn "tuple" d = false) : ∀ xs, d ≠ .tuple xs := by
  intro xs e; subst e; simp [isIn, tyN] at h
def isNum : Dt → Bool | .int _ => true | _ => false
theorem isNum_eq {d : Dt} : (isIn "int" d && !isIn "bool" d) = isNum d := by cases d <;> rfl
theorem isNum_int {d : Dt} (h : isNum d = true) : ∃ i, d = .int i := by cases d <;> first | exact ⟨_, rfl⟩ | cases h
def within (d : Dt) (lo hi : Int) : Bool := match d with | .int i => decide (lo ≤ i) && decide (i ≤ hi) | _ => false
def isLong (d : Dt) (n : Int) : Bool := match d with | .tuple xs => decide ((xs.length : Int) = n) | _ => false
theorem isLong_tup {d : Dt} {n : Int} (h : isLong d n = true) : ∃ xs, d = .tuple xs ∧ (xs.length : Int) = n := by
  cases d <;> first | exact ⟨_, rfl, of_decide_eq_true h⟩ | cases h
def mem : Dt → List Dt | .tuple xs => xs | .list xs => xs | _ => []
def nth (d : Dt) (i : Nat) : Dt := (mem d).getD i .none
def intOf : Dt → Int | .int i => i | _ => 0
def areNums (d : Dt) : Bool := match d with | .tuple xs => xs.all isNum | _ => false
def numsOf (d : Dt) : List Int := (mem d).map intOf
theorem areNums_map {d : Dt} (h : areNums d = true) : d = .tuple ((numsOf d).map .int) := by
  cases d with
  | tuple xs =>
    have h' : ∀ x ∈ xs, isNum x = true := List.all_eq_true.mp h
    congr 1
    show xs = (xs.map intOf).map PyData.int
    rw [List.map_map]
    refine (List.map_id' xs).symm.trans (List.map_congr_left fun x hx => ?_)
    obtain ⟨i, rfl⟩ := isNum_int (h' x hx)
    rfl
  | _ => cases h
/-! ### sorted rows of ints -/
def srt (ns : List Int) : List Int := ns.mergeSort (fun a b => decide (a ≤ b))
theorem sorted_one : ∀ {xs ys : List Int}, xs.Perm ys → xs.Pairwise (· ≤ ·) → ys.Pairwise (· ≤ ·) → xs = ys
  | [], ys, p, _, _ => (List.Perm.nil_eq p)
  | x :: xs, [], p, _, _ => by have := p.length_eq; simp at this
  | x :: xs, y :: ys, p, hx, hy => by
    have hx' := List.pairwise_cons.mp hx
    have hy' := List.pairwise_cons.mp hy
    have e : x = y := by
      have h1 : y ∈ x :: xs := p.mem_iff.mpr List.mem_cons_self
      have h2 : x ∈ y :: ys := p.mem_iff.mp List.mem_cons_self
      have l1 : x ≤ y := by
        rcases List.mem_cons.mp h1 with h | h
        · rw [h]; exact Int.le_refl _
        · exact hx'.1 y h
      have l2 : y ≤ x := by
        rcases List.mem_cons.mp h2 with h | h
        · rw [h]; exact Int.le_refl _
        · exact hy'.1 x h
      omega
    subst e
    rw [sorted_one (List.Perm.cons_inv p) hx'.2 hy'.2]
theorem srt_perm {ns : List Int} : (srt ns).Perm ns := List.mergeSort_perm _ _
theorem srt_sorted {ns : List Int} : (srt ns).Pairwise (· ≤ ·) := by
  have h := List.pairwise_mergeSort (le := fun (a b : Int) => decide (a ≤ b)) (fun a b c h1 h2 => by simp at *; omega) (fun a b => by simp; omega) ns
  exact h.imp fun h => of_decide_eq_true h
theorem srt_eq {ns ms : List Int} (p : ms.Perm ns) (h : ms.Pairwise (· ≤ ·)) : ms = srt ns := sorted_one (p.trans srt_perm.symm) h srt_sorted
theorem eqvA_ints : ∀ {xs ys : List Int}, PyData.eqvAll (xs.map .int) (ys.map .int) = decide (xs = ys)
  | [], [] => by simp [PyData.eqvAll]
  | [], y :: ys => by simp [PyData.eqvAll]
  | x :: xs, [] => by simp [PyData.eqvAll]
  | x :: xs, y :: ys => by
    simp only [List.map_cons, PyData.eqvAll, PyData.eqv, eqvA_ints (xs := xs) (ys := ys)]
    by_cases h : x = y <;> simp [h]
theorem eqv_listI {xs ys : List Int} : PyData.eqv (.list (xs.map .int)) (.list (ys.map .int)) = decide (xs = ys) := by rw [PyData.eqv]; exact eqvA_ints
theorem eqv_tupI {xs ys : List Int} : PyData.eqv (.tuple (xs.map .int)) (.tuple (ys.map .int)) = decide (xs = ys) := by rw [PyData.eqv]; exact eqvA_ints
theorem lay_ints : ∀ {xs : List Int}, PyData.canLayAll0 (xs.map .int) = true ∧ PyData.depthAll (xs.map .int) = 0
  | [] => ⟨rfl, rfl⟩
  | x :: xs => by simp [PyData.canLayAll0, PyData.canLay0, PyData.depthAll, PyData.depth, lay_ints (xs := xs)]
theorem sh_listI {xs : List Int} : SeqAt.shaped (.list (xs.map .int)) = true := by simp [SeqAt.shaped, PyData.canLay0, PyData.depth, lay_ints]
theorem sh_tupI {xs : List Int} : SeqAt.shaped (.tuple (xs.map .int)) = true := by simp [SeqAt.shaped, PyData.canLay0, PyData.depth, lay_ints]
theorem sh_memA : ∀ {xs : List Dt} {d : Dt}, PyData.canLayAll0 xs = true → PyData.depthAll xs ≤ 64 → d ∈ xs → SeqAt.shaped d = true
  | x :: xs, d, h, h2, m => by
    simp only [PyData.canLayAll0, Bool.and_eq_true] at h
    simp only [PyData.depthAll] at h2
    rcases List.mem_cons.mp m with rfl | m
    · simp only [SeqAt.shaped, Bool.and_eq_true, decide_eq_true_eq]
      exact ⟨h.1, by omega⟩
    · exact sh_memA h.2 (by omega) m
theorem sh_tuple {xs : List Dt} {d : Dt} (h : SeqAt.shaped (.tuple xs) = true) (m : d ∈ xs) : SeqAt.shaped d = true := by
  have h1 := Bool.and_eq_true_iff.mp h
  have h2 : PyData.depthAll xs + 1 ≤ 64 := of_decide_eq_true h1.2
  exact sh_memA (by simpa [PyData.canLay0] using h1.1) (by omega) m
theorem sh_listM {xs : List Dt} {d : Dt} (h : SeqAt.shaped (.list xs) = true) (m : d ∈ xs) : SeqAt.shaped d = true := by
  have h1 := Bool.and_eq_true_iff.mp h
  have h2 : PyData.depthAll xs + 1 ≤ 64 := of_decide_eq_true h1.2
  exact sh_memA (by simpa [PyData.canLay0] using h1.1) (by omega) m
def isTurn (d : Dt) : Bool := areNums d && decide (srt (numsOf d) = [0, 1, 2, 3])
section
variable {X : Cx} {σ : L2.St} {H H' : Hp} {a : Expr} {pos p : Pos}
theorem pd_sortedT {ns : List Int} (hm : X.mg "sorted" = none) (ha : Pd X a σ H (.tuple (ns.map .int))) (hg : Gl X "sorted" := by rfl) (he : starEach [a] X.env = (false, eval a X.env) :: starEach [] X.env := by rfl) : Pd X (.Call (.Name "sorted" p) [a] [] pos) σ H (.list ((srt ns).map .int)) :=
  pd_cb cr_sortT hm (pa_c ha pa_n he) (fun H1 xs Q s dv q => by
    obtain ⟨v, rfl, h⟩ := dv.get1
    obtain ⟨p, ys, rfl, hs, hd⟩ := Dc.tupleI h
    rw [dp_ints hd] at hs
    exact ⟨p, ns, rfl, hs, fun ms l h1 h2 hl => by
      rw [srt_eq h1 h2]
      exact q _ _ (Same.new hl) (.lst (SqL.of upd_same) ints_dp)⟩) (by decide +kernel) hg (by decide) (by decide) he
end
end Sp
/-! loops that change lists: what is walked are tuples, or a range -/
namespace Sp
open PySem L2
structure SrcT (K : PySem.W.Frag) (J : It) (H1 : Hp) (ds : List Dt) : Prop where
  go : ∀ i H', TSame K H1 H' → i < ds.length → J.go i H'
  stop : ∀ H', TSame K H1 H' → J.stop ds.length H'
  yld : ∀ i H' x H'', TSame K H1 H' → i < ds.length → J.yld i H' x H'' → Same H' H'' ∧ ∃ d, ds[i]? = some d ∧ Dc K H'' x d
def SrcTE (X : Cx) (wi : TI) (σ : L2.St) (H : Hp) (ds : List Dt) : Prop := ∀ H1, Same H H1 → ∀ R : It → Hp → Prop, (∀ J H2, Same H1 H2 → SrcT X.K J H2 ds → R J H2) → wi σ H1 R
section
variable {X : Cx} {σ : L2.St} {H H' : Hp} {e a b c : Expr} {es : List Expr} {pos p p2 : Pos} {d da db dc : Dt} {ds : List Dt} {x : Str} {D : Ends} {rest ys ns : List Stmt}
theorem srcT_tup {iter : Expr} (h : Pd X iter σ H (.tuple ds)) (hf : fzA ds = true) : SrcTE X (iTup X.K (WE X iter)) σ H ds := fun H1 s R q => h H1 s _ fun v H2 s2 dv => by
  obtain ⟨a, xs, rfl, ht, hd⟩ := Dc.tupleI dv
  refine ⟨a, rfl, ⟨xs, ht⟩, q _ H2 s2 ⟨fun i H' s' hi => ?_, fun H' s' => ⟨xs, s'.t _ _ ht, by rw [hd.length]; exact Nat.le_refl _⟩, fun i H' x H'' s' hi y => ?_⟩⟩
  · exact ⟨xs, xs[i]'(by rw [hd.length]; exact hi), s'.t _ _ ht, by simp [hd.length, hi]⟩
  · obtain ⟨rfl, y⟩ := y
    obtain ⟨d, h1, h2⟩ := hd.got (y xs (s'.t _ _ ht))
    exact ⟨Same.refl _, d, h1, Dc.fz s' h2 (fzA_iff.mp hf d (List.mem_of_getElem? h1))⟩
theorem srcT_range {n : Nat} (h : Pa X [a] σ H [.int (n : Int)]) (hn : n ≤ 100000) : SrcTE X (iRng1 (WA X [a])) σ H (rngD n) := fun H1 s R q => h H1 s _ fun vs H2 s2 dv => by
  obtain ⟨v, rfl, dv'⟩ := dv.get1
  cases dv'
  refine ⟨(n : Int), rfl, by omega, by omega, q _ H2 s2 ⟨fun i H' s' hi => ?_, fun H' s' => ?_, fun i H' x H'' s' hi y => ?_⟩⟩
  · rw [rngD_len] at hi
    show i < (n : Int).toNat
    omega
  · show (n : Int).toNat ≤ (rngD n).length
    rw [rngD_len]; omega
  · rw [rngD_len] at hi
    obtain ⟨rfl, rfl⟩ := y
    exact ⟨Same.refl _, _, rngD_get hi, by rw [Int.zero_add]; exact .int _⟩
theorem srcT_enumT (h : Pa X [a] σ H [.tuple ds]) (hf : fzA ds = true) : SrcTE X (iEnumT X.K (WA X [a])) σ H (enumD ds) := fun H1 s R q => h H1 s _ fun vs H2 s2 dv => by
  obtain ⟨v, rfl, dv'⟩ := dv.get1
  obtain ⟨a, xs, rfl, ht, hd⟩ := Dc.tupleI dv'
  refine ⟨a, xs, rfl, ht, q _ H2 s2 ⟨fun i H' s' hi => ?_, fun H' s' => ⟨xs, s'.t _ _ ht, by rw [hd.length, enumD_len]; exact Nat.le_refl _⟩, fun i H' x H'' s' hi y => ?_⟩⟩
  · rw [enumD_len] at hi
    exact ⟨xs, xs[i]'(by rw [hd.length]; exact hi), s'.t _ _ ht, by simp [hd.length, hi]⟩
  · obtain ⟨T, y1, rfl, hT, rfl, y⟩ := y
    obtain ⟨d, h1, h2⟩ := hd.got (y xs (s'.t _ _ ht))
    exact ⟨Same.new hT, _, by rw [enumD_get, h1]; rfl, .tup (SqU.two (SqT.of upd_same)) (.cons (.int _) (.one (Dc.kept (Same.new hT) (Dc.fz s' h2 (fzA_iff.mp hf d (List.mem_of_getElem? h1))))))⟩
theorem wb_forT {wi : TI} {g : TG} {tg iter : Expr} {body : List Stmt} {T : Dt → Hp → L2.St → L2.St → Prop} (pi : PI X tg iter wi) (hi : SrcTE X wi σ H ds) (pg : PG X tg g) (ht : ∀ (i : Nat) d x σ H Q, ds[i]? = some d → Dc X.K H x d → (∀ σ', T d H σ σ' → Q σ' H) → g x σ H Q)
    (Pv : Nat → L2.St → Hp → Prop) (h0 : ∀ H1, Same H H1 → Pv 0 σ H1) (hs : ∀ (i : Nat) d σ1 σ2 H0 H1 H2, ds[i]? = some d → Pv i σ1 H0 → TSame X.K H H0 → Same H0 H1 → T d H1 σ1 σ2 → (∀ σ' H', Pv (i + 1) σ' H' → TSame X.K H1 H' → H2 σ' H') → WB X body { D with nx := H2, ct := H2, bk := WB X rest D } σ2 H1)
    (hd : ∀ σ1 H1, Pv ds.length σ1 H1 → TSame X.K H H1 → WB X rest D σ1 H1)
    (hc : X.calm = true := by rfl) (hp : PassesOwn (model X.prog X.w) X.A X.env X.xe := by exact PassesOwn.never) (hf : ∀ x, foldedSetIterable iter X.env x = pure x := by intro _; rfl) : WB X (.For tg iter body [] pos :: rest) D σ H :=
  wb_ps (ps_for hp hc pi pg pb_w hf) (hi H (Same.refl _) _ fun J H1 s1 src => by
    refine ⟨fun i m σ' H' => m = ds.length - i ∧ i ≤ ds.length ∧ Pv i σ' H' ∧ TSame X.K H1 H', ⟨_, rfl, Nat.zero_le _, h0 H1 s1, TSame.refl⟩, ?_⟩
    rintro i m σ1 H2 ⟨rfl, hi, p, s2⟩
    by_cases hlt : i < ds.length
    · refine .inr ⟨src.go i H2 s2 hlt, fun σ' H' => Pv (i + 1) σ' H' ∧ TSame X.K H1 H', fun σ' H' q => ⟨_, by omega, rfl, hlt, q⟩, fun x H3 y => ?_⟩
      obtain ⟨s3, d, hd1, hd2⟩ := src.yld i H2 x H3 s2 hlt y
      refine ht i d x σ1 H3 _ hd1 hd2 fun σ2 hT => ?_
      exact hs i d σ1 σ2 H2 H3 _ hd1 p ((Same.tup s1).trans s2) s3 hT fun σ' H' q s4 => ⟨q, (s2.trans (Same.tup s3)).trans s4⟩
    · have e2 : i = ds.length := by omega
      subst e2
      exact .inl ⟨src.stop H2 s2, hd σ1 H2 p ((Same.tup s1).trans s2)⟩)
end
end Sp
namespace Sp
open PySem L2
section
variable {X : Cx} {σ : L2.St} {H H' : Hp} {e o i : Expr} {pos p2 : Pos} {d da db dc : Dt} {ds : List Dt} {D : Ends} {rest : List Stmt}
/-- o[i] = e, by values -/
theorem wb_sub (h : WE X e σ H fun v H1 => WE X o σ H1 fun ov H2 => WE X i σ H2 fun iv H3 => ∃ l xs j, ov = .ref l ∧ H3 l = some (.lst xs) ∧ (∃ k, iv = .int k ∧ ixN xs.length k = some j) ∧ WB X rest D σ (upd H3 l (.lst (xs.set j v))))
    (pg : PG X (.Subscript o i p2) (gSub (WE X o) (WE X i) rSetL) := by exact pg_sub pe_w pe_w set_list)
    (hs : swapsWithSole [.Subscript o i p2] e pos.line X.env = pure false := by rfl) (hw : swappedStores [.Subscript o i p2] e X.env = pure none := by rfl) (h1 : (assignEach [.Subscript o i p2] X.env).map (fun z => z.2) = [assign (.Subscript o i p2) X.env] := by rfl) :
    WB X (.Assign [.Subscript o i p2] e pos :: rest) D σ H := wb_asg pg (WE.mono h fun v H1 h => WE.mono h fun ov H2 h => WE.mono h fun iv H3 h => by
  obtain ⟨l, xs, j, rfl, hl, ⟨k, rfl, hj⟩, q⟩ := h
  exact ⟨l, xs, k, j, rfl, rfl, hl, hj, q⟩) hs hw h1
theorem ixN_nat' {n j : Nat} (h : j < n) : ixN n (j : Int) = some j := by
  unfold ixN
  rw [if_pos (by omega), if_pos (by omega)]
  simp
end
end Sp
namespace Sp
open PySem L2
section
variable {X : Cx} {σ : L2.St} {H H' : Hp} {e a b c : Expr} {es : List Expr} {pos p p2 : Pos} {d da db dc : Dt} {ds es' : List Dt} {x : Str} {D : Ends} {rest ys ns : List Stmt}
/-! ### in a written row of ints -/
theorem inV_ints {i : Int} : ∀ {ns : List Int}, inV (.int i) (ns.map .int) = decide (i ∈ ns)
  | [] => rfl
  | n :: ns => by
    have ih := inV_ints (i := i) (ns := ns)
    unfold inV at ih ⊢
    rw [List.map_cons, List.any_cons, ih]
    have : eqV (.int n) (.int i) = decide (i = n) := by
      show (n == i) = _
      by_cases h : i = n
      · subst h; simp
      · simp [h, Ne.symm h]
    rw [this]
    by_cases h : i = n <;> simp [h]
theorem flat_ints : ∀ {ns : List Int}, (ns.map V.int).all flatV = true
  | [] => rfl
  | n :: ns => by rw [List.map_cons, List.all_cons, flat_ints]; rfl
theorem pd_inI {i : Int} {ns : List Int} (ha : Pd X a σ H (.int i)) (hb : Pd X b σ H (.tuple (ns.map .int))) (hm : behindInMarks .In b = false := by rfl) : Pd X (.Compare a [.In] [b] pos) σ H (.bool (decide (i ∈ ns))) :=
  pd_cmp op_in_seq ha hb (fun H1 x y Q s dx dy q => by
    cases dx
    obtain ⟨p, xs, rfl, ht, hd⟩ := Dc.tupleI dy
    have e := dp_ints hd
    subst e
    refine ⟨p, _, rfl, .inr ht, rfl, flat_ints, ?_⟩
    rw [if_neg (by decide), inV_ints]
    exact q _ H1 (Same.refl _) (.bl _)) hm
theorem pt_inI {i : Int} {ns : List Int} (ha : Pd X a σ H (.int i)) (hb : Pd X b σ H (.tuple (ns.map .int))) (hm : behindInMarks .In b = false := by rfl) : Pt X (.Compare a [.In] [b] pos) σ H (decide (i ∈ ns)) :=
  pt_cmpD op_in_seq ha hb (fun H1 x y Q s dx dy q => by
    cases dx
    obtain ⟨p, xs, rfl, ht, hd⟩ := Dc.tupleI dy
    have e := dp_ints hd
    subst e
    refine ⟨p, _, rfl, .inr ht, rfl, flat_ints, ?_⟩
    rw [if_neg (by decide), inV_ints]
    exact q _ H1 (Same.refl _) (.bl _)) hm
theorem pt_ninI {i : Int} {ns : List Int} (ha : Pd X a σ H (.int i)) (hb : Pd X b σ H (.tuple (ns.map .int))) (hm : behindInMarks .NotIn b = false := by rfl) : Pt X (.Compare a [.NotIn] [b] pos) σ H (!decide (i ∈ ns)) :=
  pt_cmpD op_notIn_seq ha hb (fun H1 x y Q s dx dy q => by
    cases dx
    obtain ⟨p, xs, rfl, ht, hd⟩ := Dc.tupleI dy
    have e := dp_ints hd
    subst e
    refine ⟨p, _, rfl, .inr ht, rfl, flat_ints, ?_⟩
    rw [if_pos rfl, inV_ints]
    exact q _ H1 (Same.refl _) (.bl _)) hm
/-! ### tuple + tuple -/
theorem pd_catT (ha : Pd X a σ H (.tuple ds)) (hb : Pd X b σ H (.tuple es')) (hz : ds.length + es'.length ≤ 100000) : Pd X (.BinOp a .Add b pos) σ H (.tuple (ds ++ es')) :=
  pd_bin op_catF ha hb fun H1 x y Q s dx dy q => by
    obtain ⟨p, xs, rfl, ht, hd⟩ := Dc.tupleU dx
    obtain ⟨p', xs', rfl, ht', hd'⟩ := Dc.tupleU dy
    refine ⟨p, p', xs, xs', ⟨rfl, rfl⟩, ⟨ht.1, ht'.1⟩, Nat.le_trans (by rw [hd.length, hd'.length]; exact hz) (by decide), fun e => ?_, fun _ e => ?_, fun _ _ l o hl ho => ?_⟩
    · subst e
      cases hd
      exact q _ H1 (Same.refl _) (.tup ht' hd')
    · subst e
      cases hd'
      rw [List.append_nil] at q
      exact q _ H1 (Same.refl _) (.tup ht hd)
    · exact q _ _ (Same.new hl) (.tup (SqU.frz upd_same ho) ((DcAll.kept (Same.new hl) hd).append (DcAll.kept (Same.new hl) hd')))
/-! ### list(range(n)) -/
theorem pd_listRg {i : Int} {q1 : Pos} (hc : X.calm = true) (hmr : X.mg "range" = none) (hm : X.mg "list" = none) (h : Pd X a σ H (.int i)) (h0 : 0 ≤ i) (h1 : i ≤ 100000) (hgr : Gl X "range" := by rfl) (hg : Gl X "list" := by rfl)
    (na1 : starEach [a] X.env = (false, eval a X.env) :: starEach [] X.env := by rfl) (na : starEach [.Call (.Name "range" p2) [a] [] q1] X.env = (false, eval (.Call (.Name "range" p2) [a] [] q1) X.env) :: starEach [] X.env := by rfl) :
    Pd X (.Call (.Name "list" p) [.Call (.Name "range" p2) [a] [] q1] [] pos) σ H (.list (rngD i.toNat)) := fun H1 s Q q =>
  we_of (pe_listRg hc hg hm (prg_1 hgr hmr pe_w na1) na) (h H1 s _ fun v H2 s2 dv => by
    cases dv
    refine ⟨i, rfl, RgOk.of_le (by omega) (by omega) (by omega) (by omega), fun l hl => q _ _ (s2.trans (Same.new hl)) (.lst (SqL.of upd_same) ?_)⟩
    have e : rgV 0 i = ((List.range i.toNat).map fun (k : Nat) => (k : Int)).map V.int := by
      simp [rgV]
    have e2 : rngD i.toNat = ((List.range i.toNat).map fun (k : Nat) => (k : Int)).map PyData.int := by
      simp [rngD]
    rw [e, e2]
    exact ints_dp)
/-! ### [y for y in row if c]: the members themselves -/
structure Gai (K : PySem.W.Frag) (H1 : Hp) (Dl : Addr) (n : Nat) (out : List Dt) (H' : Hp) : Prop where
  free : H1 Dl = none
  same : Same H1 H'
  acc : ∃ vs, H' Dl = some (.lst vs) ∧ DcAll K H1 vs out ∧ vs.length ≤ n
theorem Gai.start {K : PySem.W.Frag} {Dl : Addr} (h : H Dl = none) : Gai K H Dl 0 [] (upd H Dl (.lst [])) := ⟨h, Same.new h, [], upd_same, .nil, Nat.le_refl _⟩
theorem Gai.skip {K : PySem.W.Frag} {Dl : Addr} {n : Nat} {out : List Dt} {H2 H3 : Hp} (g : Gai K H Dl n out H2) (s : Same H2 H3) : Gai K H Dl (n + 1) out H3 := by
  obtain ⟨f, s1, vs, h, dv, l⟩ := g
  exact ⟨f, s1.trans s, vs, s _ _ h, dv, Nat.le_succ_of_le l⟩
theorem Gai.push {K : PySem.W.Frag} {Dl : Addr} {n : Nat} {out : List Dt} {H2 H3 : Hp} {y : V} (g : Gai K H Dl n out H2) (s : Same H2 H3) (dy : Dc K H y d) (hn : n < 1000000) :
    ∃ acc, H3 Dl = some (.lst acc) ∧ acc.length < sizeLine ∧ Gai K H Dl (n + 1) (out ++ [d]) (upd H3 Dl (.lst (acc ++ [y]))) := by
  obtain ⟨f, s1, vs, h, dv, l⟩ := g
  have h3 := s _ _ h
  exact ⟨vs, h3, Nat.lt_of_le_of_lt l (Nat.lt_of_lt_of_le hn (by decide)), f, (s1.trans s).mut f, vs ++ [y], upd_same, dv.append (.one dy), by rw [List.length_append]; exact Nat.succ_le_succ l⟩
/-- rows whose members stand from the start -/
structure Src0 (K : PySem.W.Frag) (J : It) (H1 : Hp) (ds : List Dt) : Prop where
  go : ∀ i H', Same H1 H' → i < ds.length → J.go i H'
  stop : ∀ H', Same H1 H' → J.stop ds.length H'
  yld : ∀ i H' x H'', Same H1 H' → i < ds.length → J.yld i H' x H'' → H'' = H' ∧ ∃ d, ds[i]? = some d ∧ Dc K H1 x d
def Src0E (X : Cx) (wi : TI) (σ : L2.St) (H : Hp) (ds : List Dt) : Prop := ∀ H1, Same H H1 → ∀ R : It → Hp → Prop, (∀ J H2, Same H1 H2 → Src0 X.K J H2 ds → R J H2) → wi σ H1 R
theorem src0_tup {iter : Expr} (h : Pd X iter σ H (.tuple ds)) : Src0E X (iTup X.K (WE X iter)) σ H ds := fun H1 s R q => h H1 s _ fun v H2 s2 dv => by
  obtain ⟨a, xs, rfl, ht, hd⟩ := Dc.tupleI dv
  refine ⟨a, rfl, ⟨xs, ht⟩, q _ H2 s2 ⟨fun i H' s' hi => ?_, fun H' s' => ⟨xs, SqT.kept s' ht, by rw [hd.length]; exact Nat.le_refl _⟩, fun i H' x H'' s' hi y => ?_⟩⟩
  · exact ⟨xs, xs[i]'(by rw [hd.length]; exact hi), SqT.kept s' ht, by simp [hd.length, hi]⟩
  · obtain ⟨rfl, y⟩ := y
    obtain ⟨d, h1, h2⟩ := hd.got (y xs (SqT.kept s' ht))
    exact ⟨rfl, d, h1, h2⟩
theorem pl_lcI (j : Nat) {y : Str} {py pz : Pos} {iter c : Expr} {scope : Scope} {wi : TI} (fl : Dt → Bool) (hc : X.calm = true) (hN : X.N.Nodup) (pi : PI X (.Name y py) iter wi) (hi : Src0E X wi σ H ds) (hz : ds.length ≤ 100000)
    (ht : ∀ s H0 C cl fp (i : Nat) d v H1, ds[i]? = some d → Same H H1 → Dc X.K H1 v d → Pt (Bk X s H0 scope C cl fp) c ((wipe σ [j]).set j (some v)) H1 (fl d))
    (hlen : j < σ.length)
    (hj : X.N[j]? = some y := by rfl) (ok : BlkOk X.N X.env.scope scope [(y, j)] := by first | exact blkOk_by (by kernel_rfl) | exact blkOk_by (by rfl)) (hl : ∀ s H0 C cl fp, Loc (Bk X s H0 scope C cl fp).env.scope y := by intro _ _ _ _ _; first | exact .inl rfl | exact .inr rfl)
    (hv : ∀ s H0 C cl fp, Vis (Bk X s H0 scope C cl fp).env.scope y := by intro _ _ _ _ _; first | exact Or.inl rfl | exact Or.inr (Or.inl rfl) | exact Or.inr (Or.inr rfl))
    (hfn : ∀ s H0 C cl fp, (Bk X s H0 scope C cl fp).fn y = true ∨ (Bk X s H0 scope C cl fp).env.scope.names.lookup y = some .local := by intro _ _ _ _ _; first | exact .inl rfl | exact .inr rfl)
    (h1 : (y == ("__debug__" : Str)) = false := by decide) (h2 : (y == ("__classdict__" : Str)) = false := by decide)
    (hs : ∀ x, foldedSetIterable iter X.env x = pure x := by intro _; rfl) : Pl X (.ListComp (.Name y pz) [⟨.Name y py, iter, [c], 0⟩] scope pos) σ H (ds.filter fl) := fun H0 s Q q =>
  we_of (pe_lc (own := [(y, j)]) (g := gName j) (tt := BT X scope c) (ifs := [c]) hc hN pi ok (fun s H0 C cl fp => pg_name hN hj (hl s H0 C cl fp) (hfn s H0 C cl fp)) (fun _ _ _ _ _ => pts_one pt_bt) (fun _ _ _ _ _ => pe_be) hs) (hi H0 s _ fun J H1 s1 src Dl hD => by
    refine ⟨fun i m H' => m = ds.length - i ∧ i ≤ ds.length ∧ Gai X.K H1 Dl i ((ds.take i).filter fl) H', ⟨_, rfl, Nat.zero_le _, Gai.start hD⟩, ?_⟩
    rintro i m H' ⟨rfl, hi, g⟩
    by_cases hlt : i < ds.length
    · refine .inr ⟨src.go i H' g.same hlt, fun H'' => Gai X.K H1 Dl (i + 1) ((ds.take (i + 1)).filter fl) H'', fun H'' g' => ⟨_, by omega, rfl, hlt, g'⟩, fun x H2 y => ?_⟩
      obtain ⟨rfl, d, hd1, hd2⟩ := src.yld i H' x H2 g.same hlt y
      have sH2 : Same H H2 := (s.trans s1).trans g.same
      refine ⟨wipe1, ?_⟩
      intro s' H0' C cl fp
      refine ht s' H0' C cl fp i d x H2 hd1 sH2 (Dc.kept g.same hd2) H2 (Same.refl _) _ fun H3 s3 => ?_
      have e1 : (ds.take (i + 1)).filter fl = (ds.take i).filter fl ++ [d].filter fl := by
        rw [List.take_add_one, hd1, List.filter_append]; rfl
      cases hfl : fl d with
      | true =>
        show BE X scope _ _ H3 _
        intro s' H0' C cl fp
        refine we_of (pv j hj (hv s' H0' C cl fp) h1 h2) ⟨x, ?_, ?_⟩
        · simp [wipe, hlen]
        obtain ⟨acc, h1, h2, h3⟩ := g.push (d := d) (y := x) s3 hd2 (by omega)
        refine ⟨acc, h1, h2, ?_⟩
        rw [e1, List.filter_cons, if_pos hfl]
        exact h3
      | false =>
        show Gai X.K H1 Dl (i + 1) ((ds.take (i + 1)).filter fl) H3
        rw [e1, List.filter_cons, if_neg (by rw [hfl]; decide)]
        show Gai X.K H1 Dl (i + 1) ((ds.take i).filter fl ++ []) H3
        rw [List.append_nil]
        exact g.skip s3
    · have e2 : i = ds.length := by omega
      subst e2
      rw [List.take_length] at g
      obtain ⟨_, s2, vs, h1, h2, _⟩ := g
      exact .inl ⟨src.stop H' ‹_›, q _ vs H' (s1.trans ‹_›) (none_back' s1 hD) h1 (DcAll.kept ‹_› h2)⟩)
theorem pd_lcI (j : Nat) {y : Str} {py pz : Pos} {iter c : Expr} {scope : Scope} {wi : TI} (fl : Dt → Bool) (hc : X.calm = true) (hN : X.N.Nodup) (pi : PI X (.Name y py) iter wi) (hi : Src0E X wi σ H ds) (hz : ds.length ≤ 100000)
    (ht : ∀ s H0 C cl fp (i : Nat) d v H1, ds[i]? = some d → Same H H1 → Dc X.K H1 v d → Pt (Bk X s H0 scope C cl fp) c ((wipe σ [j]).set j (some v)) H1 (fl d))
    (hlen : j < σ.length)
    (hj : X.N[j]? = some y := by rfl) (ok : BlkOk X.N X.env.scope scope [(y, j)] := by first | exact blkOk_by (by kernel_rfl) | exact blkOk_by (by rfl)) (hl : ∀ s H0 C cl fp, Loc (Bk X s H0 scope C cl fp).env.scope y := by intro _ _ _ _ _; first | exact .inl rfl | exact .inr rfl)
    (hv : ∀ s H0 C cl fp, Vis (Bk X s H0 scope C cl fp).env.scope y := by intro _ _ _ _ _; first | exact Or.inl rfl | exact Or.inr (Or.inl rfl) | exact Or.inr (Or.inr rfl))
    (hfn : ∀ s H0 C cl fp, (Bk X s H0 scope C cl fp).fn y = true ∨ (Bk X s H0 scope C cl fp).env.scope.names.lookup y = some .local := by intro _ _ _ _ _; first | exact .inl rfl | exact .inr rfl)
    (h1 : (y == ("__debug__" : Str)) = false := by decide) (h2 : (y == ("__classdict__" : Str)) = false := by decide)
    (hs : ∀ x, foldedSetIterable iter X.env x = pure x := by intro _; rfl) : Pd X (.ListComp (.Name y pz) [⟨.Name y py, iter, [c], 0⟩] scope pos) σ H (.list (ds.filter fl)) :=
  Pl.pd (pl_lcI j fl hc hN pi hi hz ht hlen hj ok hl hv hfn h1 h2 hs)
/-- [..] == [], [..] != [] -/
theorem eqv_nilL {xs : List Dt} : PyData.eqv (.list xs) (.list []) = xs.isEmpty := by
  cases xs <;> simp [PyData.eqv, PyData.eqvAll]
theorem eqv_nilT {xs : List Dt} : PyData.eqv (.tuple xs) (.tuple []) = xs.isEmpty := by
  cases xs <;> simp [PyData.eqv, PyData.eqvAll]
theorem sh_filter {xs : List Dt} {fl : Dt → Bool} (h : SeqAt.shaped (.tuple xs) = true) : SeqAt.shaped (.list (xs.filter fl)) = true := by
  have h1 := Bool.and_eq_true_iff.mp h
  have h2 : PyData.depthAll xs + 1 ≤ 64 := of_decide_eq_true h1.2
  have h3 : PyData.canLayAll0 xs = true := by simpa [PyData.canLay0] using h1.1
  have key : ∀ {ys : List Dt}, PyData.canLayAll0 ys = true → PyData.canLayAll0 (ys.filter fl) = true ∧ PyData.depthAll (ys.filter fl) ≤ PyData.depthAll ys := by
    intro ys
    induction ys with
    | nil => intro _; exact ⟨rfl, Nat.le_refl _⟩
    | cons y ys ih =>
      intro h
      simp only [PyData.canLayAll0, Bool.and_eq_true] at h
      obtain ⟨i1, i2⟩ := ih h.2
      rw [List.filter_cons]
      cases fl y with
      | true =>
        simp only [PyData.canLayAll0, PyData.depthAll, Bool.and_eq_true, if_true]
        exact ⟨⟨h.1, i1⟩, by omega⟩
      | false =>
        simp only [PyData.depthAll, Bool.false_eq_true, if_false]
        exact ⟨i1, by omega⟩
  obtain ⟨k1, k2⟩ := key h3
  exact Bool.and_eq_true_iff.mpr ⟨by simpa [PyData.canLay0] using k1, decide_eq_true (show PyData.depthAll (xs.filter fl) + 1 ≤ 64 from Nat.le_trans (Nat.succ_le_succ k2) h2)⟩
theorem sh_nilL : SeqAt.shaped (.list []) = true := by decide
theorem sh_nilT : SeqAt.shaped (.tuple []) = true := by decide
theorem filter_nil {xs : List Dt} {fl : Dt → Bool} : (xs.filter fl).isEmpty = xs.all fun x => !fl x := by
  induction xs with
  | nil => rfl
  | cons x xs ih =>
    rw [List.filter_cons, List.all_cons]
    cases fl x with
    | true => rfl
    | false => simpa using ih
end
end Sp
namespace Sp
open PySem L2
/-! two nested loops over the rows of a tuple of tuples: each place is seen, a bad one ends it -/
def okAll (bs : List Dt) (ok : Nat → Nat → Bool) : Bool := (List.range bs.length).all fun f => (List.range (mem (bs.getD f .none)).length).all fun s => ok f s
theorem okAll_false {bs : List Dt} {ok : Nat → Nat → Bool} {f s : Nat} (hf : f < bs.length) (hs : s < (mem (bs.getD f .none)).length) (h : ok f s = false) : okAll bs ok = false := by
  cases hx : okAll bs ok with
  | false => rfl
  | true =>
    have := List.all_eq_true.mp (List.all_eq_true.mp hx f (List.mem_range.mpr hf)) s (List.mem_range.mpr hs)
    rw [h] at this
    cases this
theorem okAll_true {bs : List Dt} {ok : Nat → Nat → Bool} (h : ∀ f s, f < bs.length → s < (mem (bs.getD f .none)).length → ok f s = true) : okAll bs ok = true :=
  List.all_eq_true.mpr fun f hf => List.all_eq_true.mpr fun s hs => h f s (List.mem_range.mp hf) (List.mem_range.mp hs)
theorem okAll_get {bs : List Dt} {ok : Nat → Nat → Bool} (h : okAll bs ok = true) {f s : Nat} (hf : f < bs.length) (hs : s < (mem (bs.getD f .none)).length) : ok f s = true :=
  List.all_eq_true.mp (List.all_eq_true.mp h f (List.mem_range.mpr hf)) s (List.mem_range.mpr hs)
section
variable {X : Cx} {H : Hp} {e1 e2 : Expr} {p1 p2 p3 p4 p5 p6 p7 p8 : Pos} {D : Ends} {rest body : List Stmt} {bs : List Dt} {n1 n2 : Str}
/-- the slots of a walk over places -/
structure Five (σ : L2.St) (v : V) (i j : Nat) (f s : Nat) (vs vo : V) : Prop where
  at0 : σ[0]? = some (some v)
  ati : σ[i]? = some (some (.int (f : Int)))
  atj : σ[j]? = some (some vs)
  at4 : σ[4]? = some (some (.int (s : Int)))
  at1 : σ[1]? = some (some vo)
theorem wb_grid {i j k1 k2 : Nat} {v : V} {o1 o2 o3 o4 : Option V} {es1 es2 : List Expr} (ok : Nat → Nat → Bool) (hij : (i = 2 ∧ j = 3) ∨ (i = 3 ∧ j = 2)) (hm : X.mg "enumerate" = none) (dv : Dc X.K H v (.tuple bs)) (hrows : ∀ b ∈ bs, isIn "tuple" b = true)
    (hx : X.N[0]? = some n1) (hy : X.N[j]? = some n2)
    (pg1 : PG X (.Tuple es1 k1 p1) (gTup X.K 2 (gCons (gName i) (gCons (gName j) gNil)))) (pg2 : PG X (.Tuple es2 k2 p2) (gTup X.K 2 (gCons (gName 4) (gCons (gName 1) gNil))))
    (hbody : ∀ (D' : Ends) f s σ1 H1 vs vo, D'.rt = D.rt → f < bs.length → s < (mem (bs.getD f .none)).length → (∀ f' s', f' < f → s' < (mem (bs.getD f' .none)).length → ok f' s' = true) → Same H H1 → σ1.length = 5 → Five σ1 v i j f s vs vo → Dc X.K H1 vs (bs.getD f .none) → Dc X.K H1 vo ((mem (bs.getD f .none)).getD s .none) →
      (ok f s = true → ∀ H', Same H1 H' → D'.nx σ1 H') → WB X body D' σ1 H1)
    (hdone : okAll bs ok = true → ∀ H1 o1 o2 o3 o4, Same H H1 → WB X rest D [some v, o1, o2, o3, o4] H1)
    (hc : X.calm = true := by rfl) (hp : PassesOwn (model X.prog X.w) X.A X.env X.xe := by exact PassesOwn.never)
    (hg : Gl X "enumerate" := by rfl) (hv1 : Vis X.env.scope n1 := by first | exact Or.inl rfl | exact Or.inr (Or.inl rfl) | exact Or.inr (Or.inr rfl)) (hv2 : Vis X.env.scope n2 := by first | exact Or.inl rfl | exact Or.inr (Or.inl rfl) | exact Or.inr (Or.inr rfl))
    (hd1 : (n1 == ("__debug__" : Str)) = false := by decide) (hd2 : (n1 == ("__classdict__" : Str)) = false := by decide) (hd3 : (n2 == ("__debug__" : Str)) = false := by decide) (hd4 : (n2 == ("__classdict__" : Str)) = false := by decide)
    (hs1 : starEach [.Name n1 p3] X.env = [(false, eval (.Name n1 p3) X.env)] := by rfl) (hs2 : starEach [.Name n2 p4] X.env = [(false, eval (.Name n2 p4) X.env)] := by rfl)
    (hf1 : ∀ x, foldedSetIterable (.Call (.Name "enumerate" p5) [.Name n1 p3] [] p6) X.env x = pure x := by intro _; rfl) (hf2 : ∀ x, foldedSetIterable (.Call (.Name "enumerate" p7) [.Name n2 p4] [] p8) X.env x = pure x := by intro _; rfl) {q1 q2 : Pos} :
    WB X (.For (.Tuple es1 k1 p1) (.Call (.Name "enumerate" p5) [.Name n1 p3] [] p6) [.For (.Tuple es2 k2 p2) (.Call (.Name "enumerate" p7) [.Name n2 p4] [] p8) body [] q2] [] q1 :: rest) D [some v, o1, o2, o3, o4] H := by
  refine wb_forS (T := tPair X.K i j) (pi_enumT hm pa_w hg hs1) (src_enumT (pa_c (pd_v 0 rfl dv hx hv1 hd1 hd2) pa_n hs1)) pg1 (ht_pair enumD_pair)
    (fun f σ' => (∃ o1 o2 o3 o4, σ' = [some v, o1, o2, o3, o4]) ∧ ∀ f' s', f' < f → s' < (mem (bs.getD f' .none)).length → ok f' s' = true) ⟨⟨_, _, _, _, rfl⟩, fun f' s' h => absurd h (Nat.not_lt_zero _)⟩ ?_ ?_ hc hp hf1
  · rintro f e σ1 σ2 H1 N he ⟨⟨o1, o2, o3, o4, rfl⟩, hprev⟩ s1 ⟨d1, d2, v1, vs, e2, dv1, dvs, rfl⟩ hN
    obtain ⟨u, hu, rfl⟩ := enumD_at he
    cases e2
    cases dv1
    have hf : f < bs.length := (List.getElem?_eq_some_iff.mp hu).1
    have eu : bs.getD f .none = d2 := by simp [List.getD, hu]
    obtain ⟨ss, rfl⟩ := isTup (hrows d2 (List.mem_of_getElem? hu))
    have hσ : ∃ a b c d, (([some v, o1, o2, o3, o4] : L2.St).set i (some (.int (f : Int)))).set j (some vs) = [some v, a, b, c, d] ∧ ([some v, a, b, c, d] : L2.St)[i]? = some (some (.int (f : Int))) ∧ ([some v, a, b, c, d] : L2.St)[j]? = some (some vs) := by
      rcases hij with ⟨rfl, rfl⟩ | ⟨rfl, rfl⟩ <;> exact ⟨_, _, _, _, rfl, rfl, rfl⟩
    obtain ⟨a, b, c, d, eσ, hai, haj⟩ := hσ
    rw [eσ]
    refine wb_forS (T := tPair X.K 4 1) (pi_enumT hm pa_w hg hs2) (src_enumT (pa_c (pd_v j haj dvs hy hv2 hd3 hd4) pa_n hs2)) pg2 (ht_pair enumD_pair)
      (fun s σ' => (∃ a b c d, σ' = [some v, a, b, c, d] ∧ ([some v, a, b, c, d] : L2.St)[i]? = some (some (.int (f : Int))) ∧ ([some v, a, b, c, d] : L2.St)[j]? = some (some vs)) ∧ ∀ s', s' < s → ok f s' = true) ⟨⟨_, _, _, _, rfl, hai, haj⟩, fun s' h => absurd h (Nat.not_lt_zero _)⟩ ?_ ?_ hc hp hf2
    · rintro s e σ1 σ2 H2 N2 he2 ⟨⟨a, b, c, d, rfl, hai, haj⟩, hp2⟩ s2 ⟨d1, d2, v2, vo, e3, dv2, dvo, rfl⟩ hN2
      obtain ⟨w, hw, rfl⟩ := enumD_at he2
      cases e3
      cases dv2
      have hs : s < ss.length := (List.getElem?_eq_some_iff.mp hw).1
      have ew : ss.getD s .none = d2 := by simp [List.getD, hw]
      have hσ2 : ∃ a' b' c' d', (([some v, a, b, c, d] : L2.St).set 4 (some (.int (s : Int)))).set 1 (some vo) = [some v, a', b', c', d'] ∧ ([some v, a', b', c', d'] : L2.St)[i]? = some (some (.int (f : Int))) ∧ ([some v, a', b', c', d'] : L2.St)[j]? = some (some vs) ∧ d' = some (.int (s : Int)) ∧ a' = some vo := by
        rcases hij with ⟨rfl, rfl⟩ | ⟨rfl, rfl⟩ <;> exact ⟨_, _, _, _, rfl, hai, haj, rfl, rfl⟩
      obtain ⟨a', b', c', d', eσ2, hai2, haj2, rfl, rfl⟩ := hσ2
      rw [eσ2]
      refine hbody _ f s _ H2 vs vo rfl hf (by rw [eu]; exact hs) hprev (s1.trans s2) rfl ⟨rfl, hai2, haj2, rfl, rfl⟩ (by rw [eu]; exact Dc.kept s2 dvs) (by rw [eu]; show Dc _ _ _ (ss.getD s .none); rw [ew]; exact dvo) fun ho H' s' => hN2 _ H' ⟨⟨_, _, _, _, rfl, hai2, haj2⟩, fun s'' h => ?_⟩ s'
      rcases Nat.lt_succ_iff_lt_or_eq.mp h with h | rfl
      · exact hp2 s'' h
      · exact ho
    · rintro σ1 H2 ⟨⟨a, b, c, d, rfl, hai, haj⟩, hp2⟩ s2
      refine wb_nil (hN _ H2 ⟨⟨_, _, _, _, rfl⟩, fun f' s' h hs' => ?_⟩ s2)
      rcases Nat.lt_succ_iff_lt_or_eq.mp h with h | rfl
      · exact hprev f' s' h hs'
      · rw [enumD_len] at hp2
        rw [eu] at hs'
        exact hp2 s' hs'
  · rintro σ1 H1 ⟨⟨o1, o2, o3, o4, rfl⟩, hall⟩ s1
    rw [enumD_len] at hall
    exact hdone (okAll_true fun f s hf hs => hall f s hf hs) H1 _ _ _ _ s1
end
end Sp
namespace Sp
open PySem L2
section
variable {X : Cx}
/-- t.index(k) of a row of ints that is at hand -/
def rIdxI (K : PySem.W.Frag) : V → List V → Hp → VK → Prop := fun x xs H Q => ∃ p, ∃ ns : List Int, ∃ k, (x = .ref p ∧ xs = [.int k]) ∧ SqT K H p (ns.map V.int) ∧ k ∈ ns ∧ Q (.int (ns.idxOf k : Nat)) H
theorem idx_not {ns : List Int} {k : Int} {m : Nat} (hm : m < ns.idxOf k) (hl : m < ns.length) : ns[m] ≠ k := by
  intro e
  have := List.not_of_lt_findIdx hm
  simp [e] at this
theorem mt_idxI : MtR X "tuple.index" (rIdxI X.K) := by
  rintro pins s σ H x xs v us Q I rx rs ⟨p, ns, k, ⟨rfl, rfl⟩, hq, hk, q⟩
  cases rx
  obtain ⟨u, rfl, t, rfl⟩ := vals1 rs
  obtain ⟨its, r, ⟨⟨cls, dd, dt, sl⟩, ho, hc, n, hd⟩, hz⟩ := I.tuple hq
  simp only at hc hd
  subst hc; subst hd
  have hl : ns.length = its.length := by have := r.length; rwa [List.length_map] at this
  have hj : ns.idxOf k < ns.length := List.idxOf_lt_length_iff.mpr hk
  have hj' : ns.idxOf k < its.toArray.size := by rw [List.size_toArray, ← hl]; exact hj
  have at' : ∀ (m : Nat) (hm : m < its.toArray.size) (hm' : m < ns.length), ∃ t', its.toArray[m] = Value.int ns[m] t' := fun m hm hm' => by
    obtain ⟨w, hw, t', hw'⟩ := r.get (i := m) (x := .int ns[m]) (by simp [hm'])
    exact ⟨t', by rw [← hw', ← (List.getElem?_eq_some_iff.mp hw).2]; simp⟩
  refine call_meets PySem.F.slot_tuple_index ⟨_, ho, rfl⟩ PySem.F.entry_tuple_index (PySem.F.args_tuple_index_2 _ _) (TI.tuple_indexAt p its.toArray n dd sl (.int k t) (eqU (.int k)) (ns.idxOf k) hj' ?_ ?_)
    ⟨ho, fun w hw => mem_eqAt (x := .int k) ⟨t, rfl⟩ rfl r flat_ints w (by simpa using hw), ⟨.int (ns.idxOf k : Nat), H, I.tok _, ⟨_, rfl⟩, q⟩⟩
  · obtain ⟨t', h⟩ := at' _ hj' hj
    rw [h]
    show (ns[ns.idxOf k] == k) = true
    rw [List.getElem_idxOf hj]
    exact beq_self_eq_true k
  · intro m hm hmj
    have hm' : m < ns.length := by omega
    obtain ⟨t', h⟩ := at' m hm hm'
    rw [h]
    exact beq_eq_false_iff_ne.mpr (idx_not hmj hm')
/-- a tuple without a dict -/
def tyFour (K : PySem.W.Frag) (x : V) (H : Hp) : Prop := ∃ p xs o, x = .ref p ∧ H p = some (.frz o (.tup xs)) ∧ o.dict = none
theorem ty_four : TyOk X "tuple" (tyFour X.K) := by
  rintro pins σ H s x v I r ⟨p, xs, o, rfl, h, hd⟩
  cases r
  obtain ⟨h1, _, its, _, o', h2, h3, _⟩ := I.hok p _ h
  rw [h1] at h2
  cases h2
  refine ⟨⟨o, h1, h3⟩, fun a e => ?_⟩
  cases e
  exact ⟨o, h1, hd⟩
end
section
variable {X : Cx} {σ : L2.St} {H H' : Hp} {o e : Expr} {ap cp pos : Pos} {ns : List Int} {k : Int} {D : Ends} {rest : List Stmt}
theorem pd_index (ha : Pd X o σ H (.tuple (ns.map .int))) (h4 : ns.length = 4) (hb : Pd X e σ H (.int k)) (hk : k ∈ ns)
    (hbase : attributeBase o "index" X.env (eval o X.env) = eval o X.env := by rfl)
    (hfew : ((backTo cp (starEach [e] X.env)).all (fun x => !x.1) && (backToKw cp (keywordEach [] X.env)).all (fun x => x.1.isSome) && decide (([e] : List Expr).length + ([] : List Keyword).length + (if ([] : List Keyword).isEmpty then 0 else 1) < 30)) = true := by rfl)
    (hline : (ap.endLine == cp.line) = true := by rfl) (hs : starEach [e] X.env = (false, eval e X.env) :: starEach [] X.env := by rfl) (hpl : (backTo cp (starEach [] X.env)).any (fun z => z.1) = false := by rfl) :
    Pd X (.Call (.Attribute o "index" ap) [e] [] cp) σ H (.int (ns.idxOf k : Nat)) := fun H1 s Q q =>
  we_of (pe_mG ty_four PySem.F.plainAttrs_tuple PySem.F.slot_tuple_index PySem.F.type_tuple_index mt_idxI pe_w (pa_cons pe_w pa_nil hs) hbase hfew hline hs hpl) (ha H1 s _ fun x H2 s2 dx => by
    obtain ⟨p, xs, rfl, hu, hd⟩ := Dc.tupleU dx
    have e := dp_ints hd
    subst e
    obtain ⟨o, ho, hn⟩ := hu.2 (by rw [List.length_map]; exact h4)
    refine ⟨⟨p, _, o, rfl, ho, hn⟩, hb H2 (s.trans s2) _ fun y H3 s3 dy => ?_⟩
    cases dy
    exact ⟨p, ns, k, ⟨rfl, rfl⟩, SqT.kept s3 hu.1, hk, q _ H3 (s2.trans s3) (.int _)⟩)
/-- l.extend(e), l a list that is changed -/
theorem wb_extend (h : WE X o σ H fun x H1 => ∃ l, x = .ref l ∧ (∃ xs, H1 l = some (.lst xs)) ∧ WE X e σ H1 fun y H2 => ∃ b xs zs, y = .ref b ∧ (H2 l = some (.lst xs) ∧ H2 b = some (.lst zs)) ∧ xs.length + zs.length ≤ 100000 ∧ WB X rest D σ (upd H2 l (.lst (xs ++ zs))))
    (hbase : attributeBase o "extend" X.env (eval o X.env) = eval o X.env := by rfl)
    (hfew : ((backTo cp (starEach [e] X.env)).all (fun x => !x.1) && (backToKw cp (keywordEach [] X.env)).all (fun x => x.1.isSome) && decide (([e] : List Expr).length + ([] : List Keyword).length + (if ([] : List Keyword).isEmpty then 0 else 1) < 30)) = true := by rfl)
    (hline : (ap.endLine == cp.line) = true := by rfl) (hs : starEach [e] X.env = (false, eval e X.env) :: starEach [] X.env := by rfl) (hpl : (backTo cp (starEach [] X.env)).any (fun z => z.1) = false := by rfl)
    (hsw : swapsWith (.Call (.Attribute o "extend" ap) [e] [] cp) none pos.line X.env = pure false := by rfl) : WB X (.Expr (.Call (.Attribute o "extend" ap) [e] [] cp) pos :: rest) D σ H :=
  wb_expr (we_of (pe_bm PySem.F.plainAttrs_list PySem.F.slot_list_extend PySem.F.type_list_extend mt_extend pe_w (pa_cons pe_w pa_nil hs) hbase hfew hline hs hpl) (WE.mono h fun x H1 h => by
    obtain ⟨l, rfl, ⟨xs, hl⟩, h⟩ := h
    refine ⟨.inl ⟨rfl, xs, .inl (.inl hl)⟩, WE.mono h fun y H2 h => ?_⟩
    obtain ⟨b, xs, zs, rfl, ⟨h1, h2⟩, hz, q⟩ := h
    exact ⟨l, b, xs, zs, rfl, rfl, h1, h2, Nat.le_trans hz (by decide), q⟩)) hsw
/-- l.append(e) -/
theorem wb_append (h : WE X o σ H fun x H1 => ∃ l, x = .ref l ∧ (∃ xs, H1 l = some (.lst xs)) ∧ WE X e σ H1 fun y H2 => ∃ xs, H2 l = some (.lst xs) ∧ xs.length < 100000 ∧ WB X rest D σ (upd H2 l (.lst (xs ++ [y]))))
    (hbase : attributeBase o "append" X.env (eval o X.env) = eval o X.env := by rfl)
    (hfew : ((backTo cp (starEach [e] X.env)).all (fun x => !x.1) && (backToKw cp (keywordEach [] X.env)).all (fun x => x.1.isSome) && decide (([e] : List Expr).length + ([] : List Keyword).length + (if ([] : List Keyword).isEmpty then 0 else 1) < 30)) = true := by rfl)
    (hline : (ap.endLine == cp.line) = true := by rfl) (hs : starEach [e] X.env = (false, eval e X.env) :: starEach [] X.env := by rfl) (hpl : (backTo cp (starEach [] X.env)).any (fun z => z.1) = false := by rfl)
    (hsw : swapsWith (.Call (.Attribute o "append" ap) [e] [] cp) none pos.line X.env = pure false := by rfl) : WB X (.Expr (.Call (.Attribute o "append" ap) [e] [] cp) pos :: rest) D σ H :=
  wb_expr (we_of (pe_bm PySem.F.plainAttrs_list PySem.F.slot_list_append PySem.F.type_list_append mt_append pe_w (pa_cons pe_w pa_nil hs) hbase hfew hline hs hpl) (WE.mono h fun x H1 h => by
    obtain ⟨l, rfl, ⟨xs, hl⟩, h⟩ := h
    refine ⟨.inl ⟨rfl, xs, .inl (.inl hl)⟩, WE.mono h fun y H2 h => ?_⟩
    obtain ⟨xs, h1, hz, q⟩ := h
    exact ⟨l, xs, y, rfl, rfl, h1, Nat.lt_trans hz (by decide), q⟩)) hsw
/-- l.pop(e) -/
theorem we_pop {Q : VK} (h : WE X o σ H fun x H1 => ∃ l, x = .ref l ∧ (∃ xs, H1 l = some (.lst xs)) ∧ WE X e σ H1 fun y H2 => ∃ (xs : List V) (i : Nat) (z : V), H2 l = some (.lst xs) ∧ (y = .int (i : Int) ∧ i < 100000 ∧ xs[i]? = some z) ∧ Q z (upd H2 l (.lst (xs.eraseIdx i))))
    (hbase : attributeBase o "pop" X.env (eval o X.env) = eval o X.env := by rfl)
    (hfew : ((backTo cp (starEach [e] X.env)).all (fun x => !x.1) && (backToKw cp (keywordEach [] X.env)).all (fun x => x.1.isSome) && decide (([e] : List Expr).length + ([] : List Keyword).length + (if ([] : List Keyword).isEmpty then 0 else 1) < 30)) = true := by rfl)
    (hline : (ap.endLine == cp.line) = true := by rfl) (hs : starEach [e] X.env = (false, eval e X.env) :: starEach [] X.env := by rfl) (hpl : (backTo cp (starEach [] X.env)).any (fun z => z.1) = false := by rfl) : WE X (.Call (.Attribute o "pop" ap) [e] [] cp) σ H Q :=
  we_of (pe_bm PySem.F.plainAttrs_list PySem.F.slot_list_pop PySem.F.type_list_pop mt_popAt pe_w (pa_cons pe_w pa_nil hs) hbase hfew hline hs hpl) (WE.mono h fun x H1 h => by
    obtain ⟨l, rfl, ⟨xs, hl⟩, h⟩ := h
    refine ⟨.inl ⟨rfl, xs, .inl (.inl hl)⟩, WE.mono h fun y H2 h => ?_⟩
    obtain ⟨xs, i, z, h1, ⟨rfl, hi, hz⟩, q⟩ := h
    have hlt : i < xs.length := (List.getElem?_eq_some_iff.mp hz).1
    refine ⟨l, xs, i, i, z, rfl, rfl, h1, by omega, by omega, ?_, hz, q⟩
    unfold seqIndex?
    simp
    omega)
end
/-! ### loops over a list that stands from H0 on, while others change -/
section
variable {X : Cx} {σ : L2.St} {H H0 : Hp} {iter tg : Expr} {body rest : List Stmt} {pos p : Pos} {ds : List Dt} {D : Ends} {x : Str}
/-- what is walked stands from H0 on: n turns, the i-th one gives what Y says -/
structure Src1 (J : It) (H0 : Hp) (n : Nat) (Y : Nat → V → Prop) : Prop where
  go : ∀ i H', Same H0 H' → i < n → J.go i H'
  stop : ∀ H', Same H0 H' → J.stop n H'
  yld : ∀ i H' x H'', Same H0 H' → i < n → J.yld i H' x H'' → H'' = H' ∧ Y i x
def SrcB (X : Cx) (wi : TI) (σ : L2.St) (H0 : Hp) (n : Nat) (Y : Nat → V → Prop) : Prop := ∀ H1, Same H0 H1 → ∀ R : It → Hp → Prop, (∀ J, Src1 J H0 n Y → R J H1) → wi σ H1 R
theorem srcB_list (i : Nat) {a : Addr} {xs : List V} (hs : σ[i]? = some (some (.ref a))) (ht : SqL X.K H0 a xs) (hN : X.N[i]? = some x := by rfl) (hv : Vis X.env.scope x := by first | exact Or.inl rfl | exact Or.inr (Or.inl rfl) | exact Or.inr (Or.inr rfl)) (h1 : (x == ("__debug__" : Str)) = false := by decide)
    (h2 : (x == ("__classdict__" : Str)) = false := by decide) : SrcB X (iList X.K (WE X (.Name x p))) σ H0 xs.length (fun i y => xs[i]? = some y) := fun H1 s R q => we_of (pv i hN hv h1 h2) ⟨.ref a, hs, by
  refine ⟨a, rfl, ⟨xs, s.seq ht⟩, q _ ⟨fun i H' s' hi => ?_, fun H' s' => ⟨xs, s'.seq ht, Nat.le_refl _⟩, fun i H' x H'' s' hi y => ?_⟩⟩
  · exact ⟨xs, xs[i], s'.seq ht, by simp [hi]⟩
  · obtain ⟨rfl, y⟩ := y
    exact ⟨rfl, y xs (s'.seq ht)⟩⟩
theorem wb_forH {wi : TI} {g : TG} {n : Nat} {Y : Nat → V → Prop} {T : Nat → V → L2.St → L2.St → Prop} (pi : PI X tg iter wi) (hi : SrcB X wi σ H0 n Y) (pg : PG X tg g) (ht : ∀ (i : Nat) x σ H Q, Y i x → (∀ σ', T i x σ σ' → Q σ' H) → g x σ H Q)
    (Pv : Nat → L2.St → Hp → Prop) (hsame : ∀ i σ H, Pv i σ H → Same H0 H) (h0 : Pv 0 σ H) (hs : ∀ (i : Nat) x σ1 σ2 H1 N, i < n → Y i x → Pv i σ1 H1 → T i x σ1 σ2 → (∀ σ' H', Pv (i + 1) σ' H' → N σ' H') → WB X body { D with nx := N, ct := N, bk := WB X rest D } σ2 H1)
    (hd : ∀ σ1 H1, Pv n σ1 H1 → WB X rest D σ1 H1)
    (hc : X.calm = true := by rfl) (hp : PassesOwn (model X.prog X.w) X.A X.env X.xe := by exact PassesOwn.never) (hf : ∀ x, foldedSetIterable iter X.env x = pure x := by intro _; rfl) : WB X (.For tg iter body [] pos :: rest) D σ H :=
  wb_ps (ps_for hp hc pi pg pb_w hf) (hi H (hsame _ _ _ h0) _ fun J src => by
    refine ⟨fun i m σ' H' => m = n - i ∧ i ≤ n ∧ Pv i σ' H', ⟨_, rfl, Nat.zero_le _, h0⟩, ?_⟩
    rintro i m σ1 H2 ⟨rfl, hi, p⟩
    by_cases hlt : i < n
    · refine .inr ⟨src.go i H2 (hsame _ _ _ p) hlt, fun σ' H' => Pv (i + 1) σ' H', fun σ' H' q => ⟨_, by omega, rfl, hlt, q⟩, fun x H3 y => ?_⟩
      obtain ⟨rfl, hy⟩ := src.yld i H2 x H3 (hsame _ _ _ p) hlt y
      exact ht i x σ1 H3 _ hy fun σ2 hT => hs i x σ1 σ2 H3 _ hlt hy p hT fun σ' H' q => q
    · have e2 : i = n := by omega
      subst e2
      exact .inl ⟨src.stop H2 (hsame _ _ _ p), hd σ1 H2 p⟩)
/-- one name as the target -/
def tSet (j : Nat) : Nat → V → L2.St → L2.St → Prop := fun _ x σ σ' => σ' = σ.set j (some x)
theorem ht_set {j : Nat} {Y : Nat → V → Prop} : ∀ (i : Nat) x (σ : L2.St) (H : Hp) Q, Y i x → (∀ σ', tSet j i x σ σ' → Q σ' H) → gName j x σ H Q := fun _ _ _ _ _ _ q => q _ rfl
end
end Sp
namespace Sp
open PySem L2
/-! ### a place left out -/
def hide (a : Addr) (H : Hp) : Hp := fun b => if b = a then none else H b
theorem hide_same {a : Addr} {H : Hp} : Same (hide a H) H := fun b u e => by
  unfold hide at e
  split at e
  · cases e
  · exact e
theorem hide_mono {a : Addr} {H H' : Hp} (s : Same H H') : Same (hide a H) (hide a H') := fun b u e => by
  unfold hide at e ⊢
  split at e
  · cases e
  · rename_i h; rw [if_neg h]; exact s _ _ e
theorem hide_of {a : Addr} {H H' : Hp} (s : Same H H') (h : H a = none) : Same H (hide a H') := fun b u e => by
  unfold hide
  rw [if_neg (by rintro rfl; rw [h] at e; cases e)]
  exact s _ _ e
theorem hide_upd {a : Addr} {H : Hp} {o : HO} : hide a (upd H a o) = hide a H := by
  funext b
  unfold hide
  split
  · rfl
  · rename_i h; exact upd_ne h
theorem hide_ne {a b : Addr} {H : Hp} (h : b ≠ a) : hide a H b = H b := by unfold hide; rw [if_neg h]
theorem hide_t {K : PySem.W.Frag} {a : Addr} {H : Hp} {xs : List V} (h : H a = some (.lst xs)) : TSame K H (hide a H) := ⟨fun b ys q => by
  rcases q with (q | ⟨u, q⟩) | q
  · exact .inl (.inl (by rw [hide_ne (ne_of q h (by intro z; cases z))]; exact q))
  · exact .inl (.inr ⟨u, by rw [hide_ne (ne_of q h (by intro z; cases z))]; exact q⟩)
  · exact .inr q, fun b u ys q => by rw [hide_ne (ne_of q h (by intro z; cases z))]; exact q⟩
/-- rows that are lists, their members data -/
inductive Rws (K : PySem.W.Frag) (H G : Hp) (a : Addr) : List Addr → List (List Dt) → Prop
  | nil : Rws K H G a [] []
  | cons {p : Addr} {ps : List Addr} {ds : List Dt} {dss : List (List Dt)} (n : p ≠ a) (vs : List V) (h : H p = some (.lst vs)) (d : DcAll K G vs ds) (t : Rws K H G a ps dss) : Rws K H G a (p :: ps) (ds :: dss)
theorem Rws.mono {K : PySem.W.Frag} {H H' G G' : Hp} {a : Addr} : ∀ {ps : List Addr} {dss : List (List Dt)}, Rws K H G a ps dss → (∀ p, p ≠ a → ∀ u, H p = some u → H' p = some u) → Same G G' → Rws K H' G' a ps dss
  | _, _, .nil, _, _ => .nil
  | _, _, .cons n vs h d t, f, g => .cons n vs (f _ n _ h) (DcAll.kept g d) (Rws.mono t f g)
theorem Rws.snoc {K : PySem.W.Frag} {H G : Hp} {a p : Addr} {vs : List V} {ds : List Dt} : ∀ {ps : List Addr} {dss : List (List Dt)}, Rws K H G a ps dss → p ≠ a → H p = some (.lst vs) → DcAll K G vs ds → Rws K H G a (ps ++ [p]) (dss ++ [ds])
  | _, _, .nil, n, h, d => .cons n vs h d .nil
  | _, _, .cons n' vs' h' d' t, n, h, d => .cons n' vs' h' d' (Rws.snoc t n h d)
section
variable {X : Cx} {σ : L2.St} {H H' : Hp} {e a b c : Expr} {es : List Expr} {pos p p2 : Pos} {d da db dc : Dt} {ds : List Dt} {x : Str}
/-! ### a list of new lists -/
structure Gal (K : PySem.W.Frag) (H1 : Hp) (Dl : Addr) (n : Nat) (dss : List (List Dt)) (H' : Hp) : Prop where
  free : H1 Dl = none
  same : Same H1 H'
  acc : ∃ ps : List Addr, H' Dl = some (.lst (ps.map V.ref)) ∧ Rws K H' (hide Dl H') Dl ps dss ∧ ps.length ≤ n
theorem we_lcL {own : List (Str × Nat)} {wi : TI} {g : TG} {tg iter elt : Expr} {scope : Scope} {T : Dt → Hp → L2.St → L2.St → Prop} (f : Dt → List Dt) {Q : VK} (hc : X.calm = true) (hN : X.N.Nodup)
    (pi : PI X tg iter wi) (hi : SrcE X wi σ H ds) (hz : ds.length ≤ 100000) (ok : BlkOk X.N X.env.scope scope own)
    (pg : ∀ s H0 C cl fp, PG (Bk X s H0 scope C cl fp) tg g) (ht : ∀ (i : Nat) d x σ H Q, ds[i]? = some d → Dc X.K H x d → (∀ σ', T d H σ σ' → Q σ' H) → g x σ H Q) (hw : ∀ d H σ', T d H (wipe σ (own.map (fun z => z.2))) σ' → wipe σ' (own.map (fun z => z.2)) = wipe σ (own.map (fun z => z.2)))
    (he : ∀ s H0 C cl fp (i : Nat) d σ' H0' H1 Dl acc, ds[i]? = some d → Same H H0' → H0' Dl = none → Same H0' H1 → H1 Dl = some (.lst acc) → T d H1 (wipe σ (own.map (fun z => z.2))) σ' → ∀ Q : VK, (∀ p vs H3, Same H1 H3 → p ≠ Dl → H3 p = some (.lst vs) → DcAll X.K (hide Dl H3) vs (f d) → Q (.ref p) H3) → WE (Bk X s H0 scope C cl fp) elt σ' H1 Q)
    (q : ∀ l ps H', Same H H' → H' l = some (.lst (ps.map V.ref)) → Rws X.K H' H' l ps (ds.map f) → Q (.ref l) H')
    (hs : ∀ x, foldedSetIterable iter X.env x = pure x := by intro _; rfl) : WE X (.ListComp elt [⟨tg, iter, [], 0⟩] scope pos) σ H Q :=
  we_of (pe_lc (own := own) hc hN pi ok pg (fun _ _ _ _ _ => pts_nil) (fun _ _ _ _ _ => pe_be) hs) (hi H (Same.refl _) _ fun J H1 s1 src Dl hD => by
    refine ⟨fun i m H' => m = ds.length - i ∧ i ≤ ds.length ∧ Gal X.K H1 Dl i ((ds.take i).map f) H', ⟨_, rfl, Nat.zero_le _, hD, Same.new hD, [], upd_same, .nil, Nat.le_refl _⟩, ?_⟩
    rintro i m H' ⟨rfl, hi, g⟩
    obtain ⟨ps, h1, h2, h3⟩ := g.acc
    by_cases hlt : i < ds.length
    · refine .inr ⟨src.go i H' g.same hlt, fun H'' => Gal X.K H1 Dl (i + 1) ((ds.take (i + 1)).map f) H'', fun H'' g' => ⟨_, by omega, rfl, hlt, g'⟩, fun x H2 y => ?_⟩
      obtain ⟨s2, d, hd1, hd2⟩ := src.yld i H' x H2 g.same hlt y
      refine ht i d x _ H2 _ hd1 hd2 fun σ' hT => ⟨hw d H2 σ' hT, ?_⟩
      show BE X scope elt σ' H2 _
      intro s' H0' C cl fp
      refine he s' H0' C cl fp i d σ' H1 H2 Dl _ hd1 s1 hD (g.same.trans s2) (s2 _ _ h1) hT _ fun p vs H3 s3 hp hv dv => ?_
      have s13 := s2.trans s3
      refine ⟨ps.map V.ref, s13 _ _ h1, by rw [List.length_map]; exact Nat.lt_of_le_of_lt h3 (Nat.lt_of_lt_of_le (by omega : i < 1000000) (by decide)), hD, (g.same.trans s13).mut hD, ps ++ [p], ?_, ?_, ?_⟩
      · rw [upd_same, List.map_append]; rfl
      · have e1 : (ds.take (i + 1)).map f = (ds.take i).map f ++ [f d] := by
          rw [List.take_add_one, hd1, List.map_append]; rfl
        rw [e1, hide_upd]
        refine Rws.snoc (Rws.mono h2 (fun p' hn u hu => ?_) (hide_mono s13)) hp (by rw [upd_ne hp]; exact hv) dv
        rw [upd_ne hn]
        exact s13 _ _ hu
      · rw [List.length_append]; exact Nat.succ_le_succ h3
    · have e2 : i = ds.length := by omega
      subst e2
      rw [List.take_length] at h2
      exact .inl ⟨src.stop H' g.same, q Dl ps H' (s1.trans g.same) h1 (Rws.mono h2 (fun _ _ _ h => h) hide_same)⟩)
/-- the same, the members standing from the start -/
theorem we_lcL0 {own : List (Str × Nat)} {wi : TI} {g : TG} {tg iter elt : Expr} {scope : Scope} {T : Dt → Hp → L2.St → L2.St → Prop} (f : Dt → List Dt) {Q : VK} (hc : X.calm = true) (hN : X.N.Nodup)
    (pi : PI X tg iter wi) (hi : Src0E X wi σ H ds) (hz : ds.length ≤ 100000) (ok : BlkOk X.N X.env.scope scope own)
    (pg : ∀ s H0 C cl fp, PG (Bk X s H0 scope C cl fp) tg g) (ht : ∀ (i : Nat) d x σ H Hx Q, ds[i]? = some d → Dc X.K Hx x d → (∀ σ', T d Hx σ σ' → Q σ' H) → g x σ H Q) (hw : ∀ d H σ', T d H (wipe σ (own.map (fun z => z.2))) σ' → wipe σ' (own.map (fun z => z.2)) = wipe σ (own.map (fun z => z.2)))
    (he : ∀ s H0 C cl fp (i : Nat) d σ' H0' H1 Dl acc, ds[i]? = some d → Same H H0' → H0' Dl = none → Same H0' H1 → H1 Dl = some (.lst acc) → T d H0' (wipe σ (own.map (fun z => z.2))) σ' → ∀ Q : VK, (∀ p vs H3, Same H1 H3 → p ≠ Dl → H3 p = some (.lst vs) → DcAll X.K (hide Dl H3) vs (f d) → Q (.ref p) H3) → WE (Bk X s H0 scope C cl fp) elt σ' H1 Q)
    (q : ∀ l ps H', Same H H' → H' l = some (.lst (ps.map V.ref)) → Rws X.K H' H' l ps (ds.map f) → Q (.ref l) H')
    (hs : ∀ x, foldedSetIterable iter X.env x = pure x := by intro _; rfl) : WE X (.ListComp elt [⟨tg, iter, [], 0⟩] scope pos) σ H Q :=
  we_of (pe_lc (own := own) hc hN pi ok pg (fun _ _ _ _ _ => pts_nil) (fun _ _ _ _ _ => pe_be) hs) (hi H (Same.refl _) _ fun J H1 s1 src Dl hD => by
    refine ⟨fun i m H' => m = ds.length - i ∧ i ≤ ds.length ∧ Gal X.K H1 Dl i ((ds.take i).map f) H', ⟨_, rfl, Nat.zero_le _, hD, Same.new hD, [], upd_same, .nil, Nat.le_refl _⟩, ?_⟩
    rintro i m H' ⟨rfl, hi, g⟩
    obtain ⟨ps, h1, h2, h3⟩ := g.acc
    by_cases hlt : i < ds.length
    · refine .inr ⟨src.go i H' g.same hlt, fun H'' => Gal X.K H1 Dl (i + 1) ((ds.take (i + 1)).map f) H'', fun H'' g' => ⟨_, by omega, rfl, hlt, g'⟩, fun x H2 y => ?_⟩
      obtain ⟨rfl, d, hd1, hd2⟩ := src.yld i H' x H2 g.same hlt y
      refine ht i d x _ H2 H1 _ hd1 hd2 fun σ' hT => ⟨hw d H1 σ' hT, ?_⟩
      show BE X scope elt σ' H2 _
      intro s' H0' C cl fp
      refine he s' H0' C cl fp i d σ' H1 H2 Dl _ hd1 s1 hD g.same h1 hT _ fun p vs H3 s3 hp hv dv => ?_
      refine ⟨ps.map V.ref, s3 _ _ h1, by rw [List.length_map]; exact Nat.lt_of_le_of_lt h3 (Nat.lt_of_lt_of_le (by omega : i < 1000000) (by decide)), hD, (g.same.trans s3).mut hD, ps ++ [p], ?_, ?_, ?_⟩
      · rw [upd_same, List.map_append]; rfl
      · have e1 : (ds.take (i + 1)).map f = (ds.take i).map f ++ [f d] := by
          rw [List.take_add_one, hd1, List.map_append]; rfl
        rw [e1, hide_upd]
        refine Rws.snoc (Rws.mono h2 (fun p' hn u hu => ?_) (hide_mono s3)) hp (by rw [upd_ne hp]; exact hv) dv
        rw [upd_ne hn]
        exact s3 _ _ hu
      · rw [List.length_append]; exact Nat.succ_le_succ h3
    · have e2 : i = ds.length := by omega
      subst e2
      rw [List.take_length] at h2
      exact .inl ⟨src.stop H' g.same, q Dl ps H' (s1.trans g.same) h1 (Rws.mono h2 (fun _ _ _ h => h) hide_same)⟩)
/-! ### isinstance of two types -/
theorem pd_isi2 (T1 T2 : String) {n1 n2 : Str} {k : Nat} {q1 q2 q3 : Pos} (hm : X.mg "isinstance" = none) (hm1 : X.mg n1 = none) (hm2 : X.mg n2 = none) (ha : Pd X a σ H da) (hT1 : T1 ∈ ["int", "bool", "str", "list", "tuple"] := by decide) (hT2 : T2 ∈ ["int", "bool", "str", "list", "tuple"] := by decide)
    (hv1 : bootBuiltins n1 = some (.type T1) := by decide +kernel) (hv2 : bootBuiltins n2 = some (.type T2) := by decide +kernel) (hg : Gl X "isinstance" := by rfl) (hg1 : Gl X n1 := by rfl) (hg2 : Gl X n2 := by rfl) (hn1 : n1 ≠ "__name__" := by decide) (hn2 : n2 ≠ "__name__" := by decide)
    (hdb1 : (n1 == ("__debug__" : Str)) = false := by decide) (hdb2 : (n2 == ("__debug__" : Str)) = false := by decide) (he : starEach [a, .Tuple [.Name n1 q1, .Name n2 q2] k q3] X.env = (false, eval a X.env) :: starEach [.Tuple [.Name n1 q1, .Name n2 q2] k q3] X.env := by rfl) :
    Pd X (.Call (.Name "isinstance" p) [a, .Tuple [.Name n1 q1, .Name n2 q2] k q3] [] pos) σ H (.bool (isIn T1 da || isIn T2 da)) := fun H1 s Q q =>
  we_of (pe_callB call_isiT hg hm PyProof.Rows.boot_isinstance (pa_cons pe_w (pa_cons (pe_tup (pa_cons (pe_bltn hg1 hm1 hv1 (show RelV (.ty T1) (.type T1) from rfl) hn1 hdb1) (pa_cons (pe_bltn hg2 hm2 hv2 (show RelV (.ty T2) (.type T2) from rfl) hn2 hdb2) pa_nil rfl) rfl)) pa_nil rfl) he) (by decide) (by decide) he) (ha H1 s _ fun v H2 s2 dv => by
    refine ⟨(by decide : 2 ≤ sizeLine), fun l hl => ⟨v, l, [.ty T1, .ty T2], .type (tyN da), [.type T1, .type T2], isIn T1 da || isIn T2 da, rfl, upd_same, .cons (.ty T1) (.cons (.ty T2) .nil), Dc.ty (Dc.kept (Same.new hl) dv), ?_, q _ _ (s2.trans (Same.new hl)) (.bl _)⟩⟩
    refine kitAny_cons (kit_in hT1) (fun h => ?_) (fun h => by rw [h, Bool.true_or])
    rw [h, Bool.false_or]
    refine kitAny_cons (b := isIn T2 da) (kit_in hT2) (fun h => ?_) (fun h => h)
    rw [h]
    exact kitAny_nil)
/-! ### a pair as the target -/
theorem wipe2 {i j : Nat} {u v : Option V} : wipe (((wipe σ [i, j]).set i u).set j v) [i, j] = wipe σ [i, j] := by
  show (((((σ.set j none).set i none).set i u).set j v).set j none).set i none = (σ.set j none).set i none
  by_cases h : i = j
  · subst h
    simp [List.set_set]
  · apply List.ext_getElem?
    intro n
    simp only [List.getElem?_set, List.length_set]
    by_cases h1 : i = n <;> by_cases h2 : j = n <;> simp [h1, h2]
theorem wipe_pair {K : PySem.W.Frag} {y z : Str} {i j : Nat} : ∀ d H (σ' : L2.St), tPair K i j d H (wipe σ ([(y, i), (z, j)].map (fun z => z.2))) σ' → wipe σ' ([(y, i), (z, j)].map (fun z => z.2)) = wipe σ ([(y, i), (z, j)].map (fun z => z.2)) := fun d H σ' ⟨_, _, v1, v2, _, _, _, e⟩ => by
  rw [e]; exact wipe2
theorem pd_lcP (i j : Nat) {y z : Str} {py pz pt : Pos} {k : Nat} {iter elt : Expr} {scope : Scope} {wi : TI} (f : Dt → Dt) (hc : X.calm = true) (hN : X.N.Nodup) (pi : PI X (.Tuple [.Name y py, .Name z pz] k pt) iter wi) (hi : SrcE X wi σ H ds) (hz : ds.length ≤ 100000)
    (hp : ∀ (n : Nat) d, ds[n]? = some d → ∃ d1 d2, d = .tuple [d1, d2])
    (pg : ∀ s H0 C cl fp, PG (Bk X s H0 scope C cl fp) (.Tuple [.Name y py, .Name z pz] k pt) (gTup X.K 2 (gCons (gName i) (gCons (gName j) gNil))))
    (he : ∀ s H0 C cl fp (n : Nat) d1 d2 v1 v2 H1, ds[n]? = some (.tuple [d1, d2]) → Same H H1 → Dc X.K H1 v1 d1 → Dc X.K H1 v2 d2 → Pd (Bk X s H0 scope C cl fp) elt (((wipe σ [i, j]).set i (some v1)).set j (some v2)) H1 (f (.tuple [d1, d2]))) (hf : ∀ d ∈ ds, fz (f d) = true)
    (ok : BlkOk X.N X.env.scope scope [(y, i), (z, j)] := by first | exact blkOk_by (by kernel_rfl) | exact blkOk_by (by rfl))
    (hs : ∀ x, foldedSetIterable iter X.env x = pure x := by intro _; rfl) : Pd X (.ListComp elt [⟨.Tuple [.Name y py, .Name z pz] k pt, iter, [], 0⟩] scope pos) σ H (.list (ds.map f)) := by
  have h := pd_lcG (own := [(y, i), (z, j)]) (tt := tYes) (ifs := []) (T := tPair X.K i j) (elt := elt) (scope := scope) (pos := pos) f (fun _ => true) hc hN pi hi hz ok pg (ht_pair hp) wipe_pair
    (fun _ _ _ _ _ => pts_nil) (fun i d σ' H1 _ _ _ Q q => q H1 (Same.refl _)) (fun s H0 C cl fp n d σ' H1 hd _ sm hT => by
      obtain ⟨d1, d2, v1, v2, rfl, dv1, dv2, rfl⟩ := hT
      exact ⟨H1, Same.refl _, he s H0 C cl fp n d1 d2 v1 v2 H1 hd sm dv1 dv2⟩) (fun d hd _ => hf d hd) hs
  rw [List.filter_eq_self.mpr (fun _ _ => rfl)] at h
  exact h
end
end Sp
namespace Sp
open PySem L2
/-- what the module's names hold -/
structure Tx (mg : Str → Option Value) : Prop where
  isinstance : mg "isinstance" = none
  int : mg "int" = none
  bool : mg "bool" = none
  tuple : mg "tuple" = none
  list : mg "list" = none
  str : mg "str" = none
  len : mg "len" = none
  all : mg "all" = none
  sorted : mg "sorted" = none
  abs : mg "abs" = none
  range : mg "range" = none
  enumerate : mg "enumerate" = none
  min : mg "min" = none
  zip : mg "zip" = none
  most : ∃ t, mg "MOST" = some (.int 40 t)
  things : ∃ t, mg "MOST_THINGS" = some (.int 7 t)
  greatest : ∃ t, mg "GREATEST" = some (.int 1000000 t)
abbrev R1 (g : Dt → Dt → Prop) : List Dt → Dt → Prop := fun ds d => ∃ t, ds = [t] ∧ g t d
theorem R1.len {g : Dt → Dt → Prop} {ds : List Dt} {d : Dt} (h : R1 g ds d) : ds.length = 1 := by
  obtain ⟨t, rfl, _⟩ := h; rfl
abbrev R2D (g : Dt → Dt → Dt → Prop) : List Dt → Dt → Prop := fun ds d => ∃ t u, ds = [t, u] ∧ g t u d
theorem R2D.len {g : Dt → Dt → Dt → Prop} {ds : List Dt} {d : Dt} (h : R2D g ds d) : ds.length = 2 := by
  obtain ⟨t, u, rfl, _⟩ := h; rfl
abbrev R3D (g : Dt → Dt → Dt → Dt → Prop) : List Dt → Dt → Prop := fun ds d => ∃ t u v, ds = [t, u, v] ∧ g t u v d
theorem R3D.len {g : Dt → Dt → Dt → Dt → Prop} {ds : List Dt} {d : Dt} (h : R3D g ds d) : ds.length = 3 := by
  obtain ⟨t, u, v, rfl, _⟩ := h; rfl
theorem at0 {x : Dt} {xs : List Dt} : atI (x :: xs) 0 = some x := by
  have := atI_nat (xs := x :: xs) (j := 0) (v := x) rfl
  simpa using this
theorem at1 {x y : Dt} {xs : List Dt} : atI (x :: y :: xs) 1 = some y := by
  have := atI_nat (xs := x :: y :: xs) (j := 1) (v := y) rfl
  simpa using this
theorem at2 {x y z : Dt} {xs : List Dt} : atI (x :: y :: z :: xs) 2 = some z := by
  have := atI_nat (xs := x :: y :: z :: xs) (j := 2) (v := z) rfl
  simpa using this
theorem atN {xs : List Dt} {i : Int} (h0 : 0 ≤ i) (h1 : i < xs.length) : atI xs i = some (xs.getD i.toNat .none) := by
  have e : (i.toNat : Int) = i := by omega
  have := atI_nat (xs := xs) (j := i.toNat) (v := xs.getD i.toNat .none) (by
    have : i.toNat < xs.length := by omega
    simp [List.getD, this])
  rwa [e] at this
theorem len2 {xs : List Dt} (h : (xs.length : Int) = 2) : ∃ x y, xs = [x, y] := by
  match xs, h with
  | [x, y], _ => exact ⟨x, y, rfl⟩
  | [], h => simp at h
  | [_], h => simp at h
  | _ :: _ :: _ :: _, h => simp at h; omega
theorem len3 {xs : List Dt} (h : (xs.length : Int) = 3) : ∃ x y z, xs = [x, y, z] := by
  match xs, h with
  | [x, y, z], _ => exact ⟨x, y, z, rfl⟩
  | [], h => simp at h
  | [_], h => simp at h
  | [_, _], h => simp at h
  | _ :: _ :: _ :: _ :: _, h => simp at h; omega
section
variable {P : Program} {w : World} {K : PySem.W.Frag} {mg : Str → Option Value} {base : Heap} {f : Addr} {fd : FuncData}
/-- is_number -/
abbrev R_is_number := R1 fun t d => d = .bool (isNum t)
theorem ok_is_number (F : Fun K "is_number" "is_number" s_is_number f fd) (T : Tx mg) : FnOk P w K mg base CX0 1 f fd ["thing"] (spR K R_is_number) := by
  refine fn_r F sc_is_number (fun _ _ h => h.len) fun cdv A outer s H vs Q E ds d hr hv hR q => ?_
  obtain ⟨t, rfl, rfl⟩ := hR
  obtain ⟨v, rfl, dv⟩ := hv.get1
  refine wb_retD (d := .bool (isNum t)) ?_ q
  rw [← isNum_eq]
  exact pd_andb (pd_isi "int" T.isinstance T.int (pd_v 0 rfl dv)) fun _ => pd_one (pd_not (pd_isi "bool" T.isinstance T.bool (pd_v 0 rfl dv)))
/-- is_within -/
abbrev R_is_within := R3D fun t u v d => ∃ lo hi, u = .int lo ∧ v = .int hi ∧ d = .bool (within t lo hi)
theorem ok_is_within (F : Fun K "is_within" "is_within" s_is_within f fd) (F1 : Df P w K mg base 1 "is_number" R_is_number) : FnOk P w K mg base CX0 2 f fd ["thing", "least", "most"] (spR K R_is_within) := by
  refine fn_r F sc_is_within (fun _ _ h => h.len) fun cdv A outer s H vs Q E ds d hr hv hR q => ?_
  obtain ⟨t, u, v, rfl, lo, hi, rfl, rfl, rfl⟩ := hR
  obtain ⟨a, b, c, rfl, da, db, dc⟩ := hv.get3
  refine wb_retD (d := .bool (within t lo hi)) (Pd.is (pd_and (k := isNum t) (d := .bool (within t lo hi)) (pd_call F1 hr (pa_c (pd_v 0 rfl da) pa_n) ⟨t, rfl, rfl⟩) (fun h => ?_) (fun h => ?_)) rfl) q
  · obtain ⟨i, rfl⟩ := isNum_int h
    exact pd_one (pd_chain (f := fun i j => decide (i ≤ j)) (g := fun i j => decide (i ≤ j)) op_le op_le (pd_v 1 rfl db) (pd_v 0 rfl da) fun _ => pd_v 2 rfl dc)
  · cases t <;> first | rfl | cases h
/-- sure_within -/
abbrev R_sure_within := R3D fun t u v d => ∃ lo hi, u = .int lo ∧ v = .int hi ∧ within t lo hi = true ∧ d = t
theorem ok_sure_within (F : Fun K "sure_within" "sure_within" s_sure_within f fd) (F1 : Df P w K mg base 2 "is_within" R_is_within) : FnOk P w K mg base CX0 3 f fd ["thing", "least", "most"] (spR K R_sure_within) := by
  refine fn_r F sc_sure_within (fun _ _ h => h.len) fun cdv A outer s H vs Q E ds d hr hv hR q => ?_
  obtain ⟨t, u, v, rfl, lo, hi, rfl, rfl, hw, rfl⟩ := hR
  obtain ⟨a, b, c, rfl, da, db, dc⟩ := hv.get3
  refine wb_whenD (k := !within d lo hi) (pt_notD (pt_d (pd_call F1 hr (pa_c (pd_v 0 rfl da) (pa_c (pd_v 1 rfl db) (pa_c (pd_v 2 rfl dc) pa_n))) ⟨_, _, _, rfl, lo, hi, rfl, rfl, rfl⟩))) (fun h => ?_) fun _ H1 s1 => ?_
  · rw [hw] at h; cases h
  · exact wb_retD (pd_v 0 rfl (Dc.kept s1 da)) fun v H2 s2 dv => q v H2 (s1.trans s2) dv
/-- is_long -/
abbrev R_is_long := R2D fun t u d => ∃ n, u = .int n ∧ d = .bool (isLong t n)
theorem ok_is_long (F : Fun K "is_long" "is_long" s_is_long f fd) (T : Tx mg) : FnOk P w K mg base CX0 1 f fd ["thing", "length"] (spR K R_is_long) := by
  refine fn_r F sc_is_long (fun _ _ h => h.len) fun cdv A outer s H vs Q E ds d hr hv hR q => ?_
  obtain ⟨t, u, rfl, n, rfl, rfl⟩ := hR
  obtain ⟨a, b, rfl, da, db⟩ := hv.get2
  refine wb_retD (pd_and (pd_isi "tuple" T.isinstance T.tuple (pd_v 0 rfl da)) (fun h => ?_) fun h => ?_) q
  · obtain ⟨xs, rfl⟩ := isTup h
    exact pd_one (pd_eqI (pd_lenT T.len (pd_v 0 rfl da)) (pd_v 1 rfl db))
  · cases t <;> first | rfl | (exact absurd rfl (isTup_no h _))
/-- are_numbers -/
abbrev R_are_numbers := R1 fun t d => sm t = true ∧ d = .bool (areNums t)
theorem ok_are_numbers (F : Fun K "are_numbers" "are_numbers" s_are_numbers f fd) (T : Tx mg) (F1 : Df P w K mg base 1 "is_number" R_is_number) : FnOk P w K mg base CX0 2 f fd ["thing"] (spR K R_are_numbers) := by
  refine fn_r F sc_are_numbers (fun _ _ h => h.len) fun cdv A outer s H vs Q E ds d hr hv hR q => ?_
  obtain ⟨t, rfl, hs, rfl⟩ := hR
  obtain ⟨v, rfl, dv⟩ := hv.get1
  refine wb_retD (pd_and (pd_isi "tuple" T.isinstance T.tuple (pd_v 0 rfl dv)) (fun h => ?_) fun h => ?_) q
  · obtain ⟨xs, rfl⟩ := isTup h
    have hz := (sm_tuple hs).1
    refine pd_one ((pd_all (bs := xs.map isNum) rfl T.all (Pd.is (pd_lcN 1 (fun d => .bool (isNum d)) rfl sc_are_numbers.nd (pi_tup pe_w) (src_tup (pd_v 0 rfl dv)) (by omega) (fun s H0 C cl fp i d v H1 hd sm dv => ?_) fun _ _ => rfl) (by simp))).is ?_)
    · exact pd_call F1 hr (pa_c (pd_v 1 rfl dv) pa_n) ⟨d, rfl, rfl⟩
    · simp [areNums, List.all_map]
  · cases t <;> first | rfl | (exact absurd rfl (isTup_no h _))
/-- is_turn_of -/
abbrev R_is_turn_of := R1 fun t d => sm t = true ∧ d = .bool (isTurn t)
theorem ok_is_turn_of (F : Fun K "is_turn_of" "is_turn_of" s_is_turn_of f fd) (T : Tx mg) (F1 : Df P w K mg base 2 "are_numbers" R_are_numbers) : FnOk P w K mg base CX0 3 f fd ["thing"] (spR K R_is_turn_of) := by
  refine fn_r F sc_is_turn_of (fun _ _ h => h.len) fun cdv A outer s H vs Q E ds d hr hv hR q => ?_
  obtain ⟨t, rfl, hs, rfl⟩ := hR
  obtain ⟨v, rfl, dv⟩ := hv.get1
  refine wb_retD (pd_and (k := areNums t) (pd_call F1 hr (pa_c (pd_v 0 rfl dv) pa_n) ⟨t, rfl, hs, rfl⟩) (fun h => ?_) fun h => ?_) q
  · have e := areNums_map h
    refine pd_one ((pd_eqD hr.units (pd_sortedT (ns := numsOf t) T.sorted (pd_v 0 rfl (e ▸ dv))) (pd_lst (pa_c pd_int (pa_c pd_int (pa_c pd_int (pa_c pd_int pa_n))))) sh_listI (sh_listI (xs := [0, 1, 2, 3]))).is ?_)
    rw [show ([PyData.int 0, .int 1, .int 2, .int 3] : List Dt) = ([0, 1, 2, 3] : List Int).map .int from rfl, eqv_listI]
    simp [isTurn, h]
  · simp [isTurn, h]
end
end Sp
namespace Sp
open PySem L2
/-! ### turns undone -/
def curT (ns : List Int) (k : Nat) : List Int := (List.range k).foldl (fun acc i => acc.set (ns.getD i 0).toNat (i : Int)) [0, 0, 0, 0]
theorem curT_len {ns : List Int} {k : Nat} : (curT ns k).length = 4 := by
  induction k with
  | zero => rfl
  | succ k ih => simp [curT, List.range_succ, List.foldl_append] at *; exact ih
theorem curT_succ {ns : List Int} {k : Nat} : curT ns (k + 1) = (curT ns k).set (ns.getD k 0).toNat (k : Int) := by simp [curT, List.range_succ, List.foldl_append]
def inv (ns : List Int) : List Int := (List.range 4).map fun (k : Nat) => ((ns.idxOf (k : Int) : Nat) : Int)
theorem turn_four {ns : List Int} (h : srt ns = [0, 1, 2, 3]) : ∃ a b c d : Fin 4, ns = [(a.val : Int), b.val, c.val, d.val] ∧ [a, b, c, d].Nodup := by
  have p : ns.Perm [0, 1, 2, 3] := h ▸ srt_perm.symm
  have hl := p.length_eq
  match ns, hl with
  | [a, b, c, d], _ =>
    have hm : ∀ x ∈ [a, b, c, d], 0 ≤ x ∧ x < 4 := fun x hx => by
      have := p.mem_iff.mp hx
      simp at this
      omega
    have ha := hm a (by simp); have hb := hm b (by simp); have hc := hm c (by simp); have hd := hm d (by simp)
    have nd : [a, b, c, d].Nodup := p.nodup_iff.mpr (by decide)
    refine ⟨⟨a.toNat, by omega⟩, ⟨b.toNat, by omega⟩, ⟨c.toNat, by omega⟩, ⟨d.toNat, by omega⟩, ?_, ?_⟩
    · simp; omega
    · simp at nd ⊢
      omega
theorem inv_all : ∀ a b c d : Fin 4, [a, b, c, d].Nodup → curT [(a.val : Int), b.val, c.val, d.val] 4 = inv [(a.val : Int), b.val, c.val, d.val] := by decide +kernel
theorem curT_inv {ns : List Int} (h : srt ns = [0, 1, 2, 3]) : curT ns 4 = inv ns := by
  obtain ⟨a, b, c, d, rfl, nd⟩ := turn_four h
  exact inv_all a b c d nd
theorem turn_len {ns : List Int} (h : srt ns = [0, 1, 2, 3]) : ns.length = 4 := by
  have := (srt_perm (ns := ns)).length_eq
  rw [h] at this
  simpa using this.symm
theorem turn_in {ns : List Int} (h : srt ns = [0, 1, 2, 3]) {x : Int} (hx : x ∈ ns) : 0 ≤ x ∧ x < 4 := by
  have := (srt_perm (ns := ns)).mem_iff.mpr hx
  rw [h] at this
  simp at this
  omega
theorem isTurn_nums {d : Dt} (h : isTurn d = true) : d = .tuple ((numsOf d).map .int) ∧ srt (numsOf d) = [0, 1, 2, 3] := by
  have h' := Bool.and_eq_true_iff.mp h
  exact ⟨areNums_map h'.1, of_decide_eq_true h'.2⟩
theorem fz_ints {ns : List Int} : fzA (ns.map .int) = true := fzA_iff.mpr fun d hd => by
  obtain ⟨i, _, rfl⟩ := List.mem_map.mp hd; rfl
section
variable {P : Program} {w : World} {K : PySem.W.Frag} {mg : Str → Option Value} {base : Heap} {f : Addr} {fd : FuncData}
/-- turn_back -/
abbrev R_turn_back := R1 fun t d => ∃ ns, t = .tuple (ns.map .int) ∧ srt ns = [0, 1, 2, 3] ∧ d = .tuple ((inv ns).map .int)
theorem ok_turn_back (F : Fun K "turn_back" "turn_back" s_turn_back f fd) (T : Tx mg) : FnOk P w K mg base CX0 1 f fd ["turn"] (spR K R_turn_back) := by
  refine fn_r F sc_turn_back (fun _ _ h => h.len) fun cdv A outer s H vs Q E ds d hr hv hR q => ?_
  obtain ⟨t, rfl, ns, rfl, ht, rfl⟩ := hR
  obtain ⟨v, rfl, dv⟩ := hv.get1
  refine wb_set 1 (we_of (pe_lst (pa_cons pe_int (pa_cons pe_int (pa_cons pe_int (pa_cons pe_int pa_nil))))) ⟨(by decide : 4 ≤ sizeLine), fun p hp => ?_⟩) sc_turn_back.nd
  have dv1 := Dc.kept (Same.new (o := .lst [.int 0, .int 0, .int 0, .int 0]) hp) dv
  refine wb_forT (ds := enumD (ns.map .int)) (T := tPair K 2 3) (pi_enumT T.enumerate pa_w) (srcT_enumT (pa_c (pd_v 0 rfl dv1) pa_n) fz_ints)
    (pg_tup rfl (pgs_cons (pg_name (i := 2) sc_turn_back.nd rfl (Or.inl rfl)) (pgs_cons (pg_name (i := 3) sc_turn_back.nd rfl (Or.inl rfl)) pgs_nil))) (ht_pair enumD_pair)
    (fun k σ' H' => ∃ o1 o2, σ' = [some v, some (.ref p), o1, o2] ∧ H' p = some (.lst ((curT ns k).map V.int)) ∧ Same H H') (fun H1 s1 => ⟨none, none, rfl, s1 _ _ upd_same, (Same.new hp).trans s1⟩) ?_ ?_
  · rintro i e σ1 σ2 H0 H1 N he ⟨o1, o2, rfl, hp0, s0⟩ ts s1 ⟨d1, d2, v1, v2, e2, dv1, dv2, rfl⟩ hN
    obtain ⟨u, hu, rfl⟩ := enumD_at he
    cases e2
    obtain ⟨x, hx, rfl⟩ : ∃ x, ns[i]? = some x ∧ d2 = .int x := by
      rw [List.getElem?_map] at hu
      cases hx : ns[i]? with
      | none => rw [hx] at hu; cases hu
      | some x => rw [hx] at hu; exact ⟨x, rfl, (Option.some.inj hu).symm⟩
    cases dv1
    cases dv2
    have hb := turn_in ht (List.mem_of_getElem? hx)
    have hp1 := s1 _ _ hp0
    have ec : (x.toNat : Int) = x := by omega
    have eg : ns.getD i 0 = x := by simp [List.getD, hx]
    refine wb_sub (we_of (pv 2) ⟨_, rfl, we_of (pv 1) ⟨_, rfl, we_of (pv 3) ⟨_, rfl, p, _, x.toNat, rfl, hp1, ⟨x, rfl, ?_⟩, wb_nil (hN _ _ ⟨_, _, rfl, ?_, ?_⟩ ?_)⟩⟩⟩)
    · rw [List.length_map, curT_len, ← ec]
      exact ixN_nat' (by omega)
    · rw [upd_same, curT_succ, eg, List.map_set]
    · exact (s0.trans s1).mut hp
    · exact TSame.lst hp1
  · rintro σ1 H1 ⟨o1, o2, rfl, hp1, s1⟩ ts
    have hl : (enumD (ns.map PyData.int)).length = 4 := by rw [enumD_len, List.length_map, turn_len ht]
    rw [hl, curT_inv ht] at hp1
    exact wb_retD (pd_tupleL T.tuple (pd_v 1 rfl (.lst (SqL.of hp1) ints_dp))) fun v H2 s2 dv => q v H2 (s1.trans s2) dv
end
end Sp
namespace Sp
open PySem L2
def isSeamLike (t : Dt) : Bool := isNo t || (isLong t 2 && (isNum (nth t 0) && isTurn (nth t 1)))
def toldBack (bs : List Dt) (k f : Nat) : Bool :=
  isNo (nth (bs.getD k .none) f) || ((decide (0 ≤ intOf (nth (nth (bs.getD k .none) f) 0)) && decide (intOf (nth (nth (bs.getD k .none) f) 0) < bs.length)) &&
    (!decide ([intOf (nth (nth (bs.getD k .none) f) 0), (numsOf (nth (nth (bs.getD k .none) f) 1)).getD f 0] = [(k : Int), (f : Int)]) &&
      PyData.eqv (nth (bs.getD (intOf (nth (nth (bs.getD k .none) f) 0)).toNat .none) ((numsOf (nth (nth (bs.getD k .none) f) 1)).getD f 0).toNat) (.tuple [.int (k : Int), .tuple ((inv (numsOf (nth (nth (bs.getD k .none) f) 1))).map .int)])))
def isSpace (t : Dt) : Bool := match t with
  | .tuple bs => (decide (1 ≤ (bs.length : Int)) && decide ((bs.length : Int) ≤ 40)) && (bs.all (fun b => isLong b 4 && (mem b).all isSeamLike) && (List.range bs.length).all fun k => (List.range 4).all fun f => toldBack bs k f)
  | _ => false
theorem nth_tup {xs : List Dt} {i : Nat} : nth (.tuple xs) i = xs.getD i .none := rfl
theorem getD_mem {xs : List Dt} {i : Nat} (h : i < xs.length) : xs.getD i .none ∈ xs := by
  simp [List.getD, h]
theorem getD_some {xs : List Dt} {i : Nat} (h : i < xs.length) : xs[i]? = some (xs.getD i .none) := by
  simp [List.getD, h]
theorem atGet {xs : List Dt} {i : Nat} (h : i < xs.length) : atI xs (i : Int) = some (xs.getD i .none) := atI_nat (getD_some h)
theorem long_len {d : Dt} {n : Nat} (h : isLong d n = true) : (mem d).length = n ∧ d = .tuple (mem d) := by
  obtain ⟨xs, rfl, e⟩ := isLong_tup h
  exact ⟨by simp only [mem]; omega, rfl⟩
theorem sm_nth {d : Dt} {i : Nat} (h : sm d = true) : sm (nth d i) = true := by
  unfold nth
  by_cases hi : i < (mem d).length
  · have m := getD_mem hi
    cases d with
    | tuple xs => exact (sm_tuple h).2 _ m
    | list xs => exact (sm_list h).2 _ m
    | _ => simp [mem] at hi
  · simp [List.getD, hi]; rfl
theorem sh_nth {d : Dt} {i : Nat} (h : SeqAt.shaped d = true) : SeqAt.shaped (nth d i) = true := by
  unfold nth
  by_cases hi : i < (mem d).length
  · have m := getD_mem hi
    cases d with
    | tuple xs => exact sh_tuple h m
    | list xs => exact sh_listM h m
    | _ => simp [mem] at hi
  · simp [List.getD, hi]; rfl
section
variable {P : Program} {w : World} {K : PySem.W.Frag} {mg : Str → Option Value} {base : Heap} {f : Addr} {fd : FuncData}
/-- is_seam_like -/
abbrev R_is_seam_like := R1 fun t d => sm t = true ∧ d = .bool (isSeamLike t)
theorem ok_is_seam_like (F : Fun K "is_seam_like" "is_seam_like" s_is_seam_like f fd) (F1 : Df P w K mg base 1 "is_number" R_is_number) (F2 : Df P w K mg base 1 "is_long" R_is_long) (F3 : Df P w K mg base 3 "is_turn_of" R_is_turn_of) : FnOk P w K mg base CX0 4 f fd ["thing"] (spR K R_is_seam_like) := by
  refine fn_r F sc_is_seam_like (fun _ _ h => h.len) fun cdv A outer s H vs Q E ds d hr hv hR q => ?_
  obtain ⟨t, rfl, hs, rfl⟩ := hR
  obtain ⟨v, rfl, dv⟩ := hv.get1
  refine wb_retD (pd_orb (pd_isN (pd_v 0 rfl dv)) fun _ => pd_one (pd_andb (pd_call F2 hr (pa_c (pd_v 0 rfl dv) (pa_c pd_int pa_n)) ⟨t, _, rfl, 2, rfl, rfl⟩) fun hl => ?_)) q
  obtain ⟨xs, rfl, e⟩ := isLong_tup hl
  obtain ⟨x, y, rfl⟩ := len2 e
  have hsm := sm_tuple hs
  exact pd_andb (pd_call F1 hr (pa_c (pd_ixT (pd_v 0 rfl dv) pd_int at0) pa_n) ⟨x, rfl, rfl⟩) fun _ => pd_one (pd_call F3 hr (pa_c (pd_ixT (pd_v 0 rfl dv) pd_int at1) pa_n) ⟨y, rfl, hsm.2 y (by simp), rfl⟩)
/-- what told_back asks of the rows -/
def Rows (bs : List Dt) : Prop := ∀ b ∈ bs, isLong b 4 = true ∧ ∀ s ∈ mem b, isSeamLike s = true
theorem seam_shape {s : Dt} (h : isSeamLike s = true) (h2 : isNo s = false) : ∃ n ns, s = .tuple [.int n, .tuple (ns.map .int)] ∧ srt ns = [0, 1, 2, 3] := by
  simp only [isSeamLike, h2, Bool.false_or, Bool.and_eq_true] at h
  obtain ⟨h1, h3, h4⟩ := h
  obtain ⟨xs, rfl, e⟩ := isLong_tup h1
  obtain ⟨x, y, rfl⟩ := len2 e
  obtain ⟨n, rfl⟩ := isNum_int h3
  obtain ⟨e1, e2⟩ := isTurn_nums h4
  exact ⟨n, _, by rw [← e1]; rfl, e2⟩
abbrev R_told_back := R3D fun t u v d => ∃ bs k g, t = .tuple bs ∧ u = .int (k : Nat) ∧ v = .int (g : Nat) ∧ Rows bs ∧ SeqAt.shaped t = true ∧ k < bs.length ∧ g < 4 ∧ d = .bool (toldBack bs k g)
theorem ok_told_back (F : Fun K "told_back" "told_back" s_told_back f fd) (T : Tx mg) (F1 : Df P w K mg base 1 "turn_back" R_turn_back) : FnOk P w K mg base CX0 2 f fd ["thing", "block", "face"] (spR K R_told_back) := by
  refine fn_r F sc_told_back (fun _ _ h => h.len) fun cdv A outer s H vs Q E ds d hr hv hR q => ?_
  obtain ⟨t, u, v, rfl, bs, k, g, rfl, rfl, rfl, hrows, hsh, hk, hg, rfl⟩ := hR
  obtain ⟨a, b, c, rfl, da, db, dc⟩ := hv.get3
  have hb := hrows _ (getD_mem hk)
  obtain ⟨hl, e⟩ := long_len hb.1
  have hg' : g < (mem (bs.getD k .none)).length := by rw [hl]; exact hg
  have hseam : isSeamLike (nth (bs.getD k .none) g) = true := hb.2 _ (getD_mem hg')
  refine wb_setD 3 (d := nth (bs.getD k .none) g) (pd_ixT (ds := mem (bs.getD k .none)) (Pd.is (pd_ixT (pd_v 0 rfl da) (pd_v 1 rfl db) (atGet hk)) e) (pd_v 2 rfl dc) (atGet hg')) (fun vs H1 s1 ds => ?_) sc_told_back.nd
  refine wb_whenD (pt_isN (pd_v 3 rfl ds)) (fun h H2 s2 => ?_) fun h H2 s2 => ?_
  · refine wb_retD (d := .bool true) pd_bool fun v H3 s3 dv => q v H3 ((s1.trans s2).trans s3) (by rw [toldBack, h, Bool.true_or]; exact dv)
  obtain ⟨n, ns, es, ht⟩ := seam_shape hseam h
  rw [es] at ds
  have s12 := s1.trans s2
  have dsk := Dc.kept s2 ds
  have dak := Dc.kept s12 da
  have dbk := Dc.kept s12 db
  have dck := Dc.kept s12 dc
  have e0 : intOf (nth (nth (bs.getD k .none) g) 0) = n := by rw [es]; rfl
  have e1 : numsOf (nth (nth (bs.getD k .none) g) 1) = ns := by
    rw [es]
    show (ns.map PyData.int).map intOf = ns
    rw [List.map_map]
    exact List.map_id'' (fun _ => rfl) ns
  have et : toldBack bs k g = ((decide (0 ≤ n) && decide (n < bs.length)) && (!decide ([n, ns.getD g 0] = [(k : Int), (g : Int)]) && PyData.eqv (nth (bs.getD n.toNat .none) (ns.getD g 0).toNat) (.tuple [.int (k : Int), .tuple ((inv ns).map .int)]))) := by
    rw [toldBack, h, Bool.false_or, e0, e1]
  rw [et] at q
  refine wb_whenD (k := !(decide (0 ≤ n) && decide (n < bs.length))) (pt_notD (pt_chainD (f := fun i j => decide (i ≤ j)) (g := fun i j => decide (i < j)) op_le op_lt pd_int (pd_ixT (pd_v 3 rfl dsk) pd_int at0) fun _ => pd_lenT T.len (pd_v 0 rfl dak))) (fun h3 H3 s3 => ?_) fun h3 H3 s3 => ?_
  · refine wb_retD (d := .bool false) pd_bool fun v H4 s4 dv => q v H4 ((s12.trans s3).trans s4) ?_
    have : (decide (0 ≤ n) && decide (n < bs.length)) = false := (Bool.not_eq_true' _).mp h3
    rw [this, Bool.false_and]
    exact dv
  have h3' : (decide (0 ≤ n) && decide (n < bs.length)) = true := (Bool.not_eq_false' _).mp h3
  rw [h3', Bool.true_and] at q
  obtain ⟨hn0, hn1⟩ := Bool.and_eq_true_iff.mp h3'
  have hn0 := of_decide_eq_true hn0
  have hn1 := of_decide_eq_true hn1
  have hgn : g < (ns.map PyData.int).length := by rw [List.length_map, turn_len ht]; exact hg
  have eg : (ns.map PyData.int).getD g .none = .int (ns.getD g 0) := by
    have : g < ns.length := by rw [turn_len ht]; exact hg
    simp [List.getD, this]
  have hfar : 0 ≤ ns.getD g 0 ∧ ns.getD g 0 < 4 := turn_in ht (by
    have : g < ns.length := by rw [turn_len ht]; exact hg
    simp [List.getD, this])
  refine wb_setD 4 (d := .int (ns.getD g 0)) (pd_ixT (pd_ixT (pd_v 3 rfl (Dc.kept s3 dsk)) pd_int at1) (pd_v 2 rfl (Dc.kept s3 dck)) (by rw [atGet hgn, eg])) (fun vf H4 s4 df => ?_) sc_told_back.nd
  have s34 := s3.trans s4
  have da5 := Dc.kept s34 dak
  have db5 := Dc.kept s34 dbk
  have dc5 := Dc.kept s34 dck
  have ds5 := Dc.kept s34 dsk
  have hn2 : n.toNat < bs.length := by omega
  have en : (n.toNat : Int) = n := by omega
  have hbn := hrows _ (getD_mem hn2)
  obtain ⟨hln, en2⟩ := long_len (n := 4) hbn.1
  have hf2 : (ns.getD g 0).toNat < (mem (bs.getD n.toNat .none)).length := by rw [hln]; omega
  have ef : ((ns.getD g 0).toNat : Int) = ns.getD g 0 := by omega
  refine wb_retD (pd_andb ((pd_neD hr.units (pd_tup (pa_c (pd_ixT (pd_v 3 rfl ds5) pd_int at0) (pa_c (pd_v 4 rfl df) pa_n))) (pd_tup (pa_c (pd_v 1 rfl db5) (pa_c (pd_v 2 rfl dc5) pa_n))) (sh_tupI (xs := [n, ns.getD g 0])) (sh_tupI (xs := [(k : Int), (g : Int)]))).is (by rw [show PyData.eqv (.tuple [.int n, .int (ns.getD g 0)]) (.tuple [.int (k : Int), .int (g : Int)]) = decide ([n, ns.getD g 0] = [(k : Int), (g : Int)]) from eqv_tupI (xs := [n, ns.getD g 0]) (ys := [(k : Int), (g : Int)])]))
    fun _ => pd_one (pd_eqD hr.units (pd_ixT (ds := mem (bs.getD n.toNat .none)) (Pd.is (pd_ixT (pd_v 0 rfl da5) (pd_ixT (pd_v 3 rfl ds5) pd_int at0) (by have := atGet hn2; rw [en] at this; exact this)) en2) (pd_v 4 rfl df) (by have := atGet hf2; rw [ef] at this; exact this))
      (pd_tup (pa_c (pd_v 1 rfl db5) (pa_c (pd_call F1 hr (pa_c (pd_ixT (pd_v 3 rfl ds5) pd_int at1) pa_n) ⟨_, rfl, ns, rfl, ht, rfl⟩) pa_n))) (sh_nth (sh_tuple hsh (getD_mem hn2))) ?_)) fun v H5 s5 dv => q v H5 ((s12.trans s34).trans s5) dv
  simp [SeqAt.shaped, PyData.canLay0, PyData.canLayAll0, PyData.depth, PyData.depthAll, lay_ints]
end
end Sp
namespace Sp
open PySem L2
theorem rngD_at {n i : Nat} {d : Dt} (h : (rngD n)[i]? = some d) : i < n ∧ d = .int (i : Int) := by
  have hi : i < n := by
    have := (List.getElem?_eq_some_iff.mp h).1
    rwa [rngD_len] at this
  rw [rngD_get hi] at h
  exact ⟨hi, (Option.some.inj h).symm⟩
theorem map_bools {α : Type} {xs : List α} {p : α → Bool} : (xs.map p).all id = xs.all p := by simp [List.all_map]
theorem rngD_map {n : Nat} {g : Dt → Dt} {p : Nat → Bool} (h : ∀ i, i < n → g (.int (i : Int)) = .bool (p i)) : (rngD n).map g = ((List.range n).map p).map .bool := by
  rw [rngD, List.map_map, List.map_map]
  refine List.map_congr_left fun i hi => ?_
  exact h i (List.mem_range.mp hi)
section
variable {P : Program} {w : World} {K : PySem.W.Frag} {mg : Str → Option Value} {base : Heap} {f : Addr} {fd : FuncData}
abbrev R_is_space_of := R1 fun t d => sm t = true ∧ SeqAt.shaped t = true ∧ d = .bool (isSpace t)
theorem ok_is_space_of (F : Fun K "is_space_of" "is_space_of" s_is_space_of f fd) (T : Tx mg) (F1 : Df P w K mg base 1 "is_long" R_is_long) (F2 : Df P w K mg base 4 "is_seam_like" R_is_seam_like) (F3 : Df P w K mg base 2 "told_back" R_told_back) : FnOk P w K mg base CX0 5 f fd ["thing"] (spR K R_is_space_of) := by
  refine fn_r F sc_is_space_of (fun _ _ h => h.len) fun cdv A outer s H vs Q E ds d hr hv hR q => ?_
  obtain ⟨t, rfl, hs, hsh, rfl⟩ := hR
  obtain ⟨v, rfl, dv⟩ := hv.get1
  obtain ⟨tm, hm⟩ := T.most
  refine wb_whenD (k := (!isIn "tuple" t) || !(decide (1 ≤ ((mem t).length : Int)) && decide (((mem t).length : Int) ≤ 40))) (pw_t (pw_o (pt_notD (pt_d (pd_isi "tuple" T.isinstance T.tuple (pd_v 0 rfl dv)))) fun h => pw_o1 ?_)) (fun h H1 s1 => ?_) fun h H1 s1 => ?_
  · obtain ⟨xs, rfl⟩ := isTup ((Bool.not_eq_false' _).mp h)
    exact pt_notD (pt_chainD (f := fun i j => decide (i ≤ j)) (g := fun i j => decide (i ≤ j)) op_le op_le pd_int (pd_lenT T.len (pd_v 0 rfl dv)) fun _ => pd_glob (v := .int 40) hm ⟨_, rfl⟩ (.int 40))
  · refine wb_retD (d := .bool false) pd_bool fun v H2 s2 dv => q v H2 (s1.trans s2) ?_
    have : isSpace t = false := by
      cases t with
      | tuple bs =>
        rw [show (!isIn "tuple" (.tuple bs)) = false from rfl, Bool.false_or] at h
        have h' := (Bool.not_eq_true' _).mp h
        show (_ && _) = false
        rw [show (decide (1 ≤ (bs.length : Int)) && decide ((bs.length : Int) ≤ 40)) = false from h', Bool.false_and]
      | _ => rfl
    rw [this]
    exact dv
  obtain ⟨h1, h2⟩ := Bool.or_eq_false_iff.mp h
  obtain ⟨bs, rfl⟩ := isTup ((Bool.not_eq_false' _).mp h1)
  have h2 := (Bool.not_eq_false' _).mp h2
  have dv1 := Dc.kept s1 dv
  have hz := (sm_tuple hs).1
  have hsm := (sm_tuple hs).2
  have ek : isSpace (.tuple bs) = (bs.all (fun b => isLong b 4 && (mem b).all isSeamLike) && (List.range bs.length).all fun k => (List.range 4).all fun f => toldBack bs k f) := by
    rw [isSpace, show (decide (1 ≤ (bs.length : Int)) && decide ((bs.length : Int) ≤ 40)) = true from h2, Bool.true_and]
  rw [ek] at q
  refine wb_whenD (k := !bs.all (fun b => isLong b 4 && (mem b).all isSeamLike)) (pt_notD (pt_d (Pd.is (pd_all (bs := bs.map fun b => isLong b 4 && (mem b).all isSeamLike) rfl T.all (Pd.is
    (pd_lcN 1 (fun b => .bool (isLong b 4 && (mem b).all isSeamLike)) rfl sc_is_space_of.nd (pi_tup pe_w) (src_tup (pd_v 0 rfl dv1)) (by omega) (fun s' H0 C cl fp i b u H2 hb sm2 du => ?_) fun _ _ => rfl) (by simp))) (by rw [map_bools])))) (fun h3 H2 s2 => ?_) fun h3 H2 s2 => ?_
  · have hbs := hsm b (List.mem_of_getElem? hb)
    refine pd_andb (pd_call F1 hr (pa_c (pd_v 1 rfl du) (pa_c pd_int pa_n)) ⟨b, _, rfl, 4, rfl, rfl⟩) fun hl => pd_one ?_
    obtain ⟨xs, rfl, _⟩ := isLong_tup hl
    exact Pd.is (pd_all (bs := xs.map isSeamLike) rfl T.all (Pd.is
      (pd_lcN 2 (fun x => .bool (isSeamLike x)) rfl sc_is_space_of.nd (pi_tup pe_w) (src_tup (pd_v 1 rfl du)) (by have := (sm_tuple hbs).1; omega) (fun s' H0 C cl fp i x u2 H3 hx sm3 du2 => pd_call F2 hr (pa_c (pd_v 2 rfl du2) pa_n) ⟨x, rfl, (sm_tuple hbs).2 x (List.mem_of_getElem? hx), rfl⟩) fun _ _ => rfl) (by simp))) (by rw [map_bools]; rfl)
  · refine wb_retD (d := .bool false) pd_bool fun v H3 s3 dv => q v H3 ((s1.trans s2).trans s3) ?_
    rw [(Bool.not_eq_true' _).mp h3, Bool.false_and]
    exact dv
  have h3 := (Bool.not_eq_false' _).mp h3
  rw [h3, Bool.true_and] at q
  have hrows : Rows bs := fun b hb => by
    have := List.all_eq_true.mp h3 b hb
    obtain ⟨e1, e2⟩ := Bool.and_eq_true_iff.mp this
    exact ⟨e1, List.all_eq_true.mp e2⟩
  have dv2 := Dc.kept s2 dv1
  refine wb_retD (Pd.is (pd_all (bs := (List.range bs.length).map fun k => (List.range 4).all fun f => toldBack bs k f) rfl T.all (Pd.is
    (pd_lcN (ds := rngD bs.length) 1 (fun d => .bool ((List.range 4).all fun f => toldBack bs (intOf d).toNat f)) rfl sc_is_space_of.nd (pi_range1 rfl T.range pa_w) (src_range (pa_c (pd_lenT T.len (pd_v 0 rfl dv2)) pa_n) (by omega)) (by rw [rngD_len]; omega) (fun s' H0 C cl fp i b u H3 hb sm3 du => ?_) fun _ _ => rfl) (congrArg PyData.list (rngD_map fun i hi => by simp [intOf])))) (by rw [map_bools])) fun v H3 s3 dv => q v H3 ((s1.trans s2).trans s3) dv
  obtain ⟨hi, rfl⟩ := rngD_at hb
  have dv3 := Dc.kept sm3 dv2
  refine Pd.is (pd_all (bs := (List.range 4).map fun f => toldBack bs i f) rfl T.all (Pd.is
    (pd_lcN (ds := rngD 4) 3 (fun d => .bool (toldBack bs i (intOf d).toNat)) rfl sc_is_space_of.nd (pi_range1 rfl T.range pa_w) (src_range (pa_c pd_int pa_n) (by omega)) (by rw [rngD_len]; omega) (fun s' H0 C cl fp i2 b2 u2 H4 hb2 sm4 du2 => ?_) fun _ _ => rfl) (congrArg PyData.list (rngD_map fun i2 hi2 => by simp [intOf])))) (by rw [map_bools]; simp [intOf])
  obtain ⟨hi2, rfl⟩ := rngD_at hb2
  exact pd_call F3 hr (pa_c (pd_v 0 rfl (Dc.kept sm4 dv3)) (pa_c (pd_v 1 rfl (Dc.kept sm4 du)) (pa_c (pd_v 3 rfl du2) pa_n))) ⟨_, _, _, rfl, bs, i, i2, rfl, rfl, rfl, hrows, hsh, hi, hi2, by simp [intOf]⟩
abbrev R_is_space := R1 fun t d => sm t = true ∧ SeqAt.shaped t = true ∧ d = .bool (isSpace t)
theorem ok_is_space (F : Fun K "is_space" "is_space" s_is_space f fd) (F1 : Df P w K mg base 5 "is_space_of" R_is_space_of) : FnOk P w K mg base CX0 6 f fd ["thing"] (spR K R_is_space) := by
  refine fn_r F sc_is_space (fun _ _ h => h.len) fun cdv A outer s H vs Q E ds d hr hv hR q => ?_
  obtain ⟨t, rfl, h⟩ := hR
  obtain ⟨v, rfl, dv⟩ := hv.get1
  exact wb_retD (pd_call F1 hr (pa_c (pd_v 0 rfl dv) pa_n) ⟨t, rfl, h⟩) q
end
end Sp
namespace Sp
open PySem L2
/-! ### surfaces -/
def isSide (t : Dt) : Bool := isNo t || (isLong t 3 && (areNums t && decide (intOf (nth t 2) ∈ [(1 : Int), -1])))
/-- what the place asks, its side being one -/
def surfOk (bs : List Dt) (f s : Nat) (own : Dt) : Bool :=
  isNo own || ((within (nth own 0) 0 ((bs.length : Int) - 1) && within (nth own 1) 0 (((mem (bs.getD (intOf (nth own 0)).toNat .none)).length : Int) - 1)) &&
    (!decide ([intOf (nth own 0), intOf (nth own 1)] = [(f : Int), (s : Int)]) && PyData.eqv (nth (bs.getD (intOf (nth own 0)).toNat .none) (intOf (nth own 1)).toNat) (.tuple [.int (f : Int), .int (s : Int), .int (intOf (nth own 2))])))
def sideAt (bs : List Dt) (f s : Nat) : Bool := isSide (nth (bs.getD f .none) s) && surfOk bs f s (nth (bs.getD f .none) s)
def isSurface (t : Dt) : Bool := match t with
  | .tuple bs => bs.all (fun b => isIn "tuple" b && decide ((2 : Int) < (mem b).length)) && okAll bs (sideAt bs)
  | _ => false
theorem isNum_nums {xs : List Dt} (h : xs.all isNum = true) {d : Dt} (hd : d ∈ xs) : isNum d = true := List.all_eq_true.mp h d hd
theorem side_shape {d : Dt} (h : isSide d = true) (h2 : isNo d = false) : ∃ a b c, d = .tuple [.int a, .int b, .int c] ∧ c ∈ [(1 : Int), -1] := by
  simp only [isSide, h2, Bool.false_or, Bool.and_eq_true] at h
  obtain ⟨h1, h3, h4⟩ := h
  obtain ⟨xs, rfl, e⟩ := isLong_tup h1
  obtain ⟨x, y, z, rfl⟩ := len3 e
  obtain ⟨a, rfl⟩ := isNum_int (isNum_nums h3 (d := x) (by simp))
  obtain ⟨b, rfl⟩ := isNum_int (isNum_nums h3 (d := y) (by simp))
  obtain ⟨c, rfl⟩ := isNum_int (isNum_nums h3 (d := z) (by simp))
  exact ⟨a, b, c, rfl, of_decide_eq_true h4⟩
section
variable {P : Program} {w : World} {K : PySem.W.Frag} {mg : Str → Option Value} {base : Heap} {f : Addr} {fd : FuncData}
abbrev R_is_side_like := R1 fun t d => sm t = true ∧ d = .bool (isSide t)
theorem pd_signs {X : Cx} {σ : L2.St} {H : Hp} {p1 p2 p3 p4 : Pos} {k k1 k2 : Nat} : Pd X (.Tuple [.Constant (.int 1) k1 p1, .UnaryOp .USub (.Constant (.int 1) k2 p2) p3] k p4) σ H (.tuple (([1, -1] : List Int).map .int)) :=
  pd_tup (pa_c pd_int (pa_c (pd_neg pd_int) pa_n))
theorem ok_is_side_like (F : Fun K "is_side_like" "is_side_like" s_is_side_like f fd) (T : Tx mg) (F1 : Df P w K mg base 1 "is_long" R_is_long) (F2 : Df P w K mg base 1 "is_number" R_is_number) : FnOk P w K mg base CX0 2 f fd ["thing"] (spR K R_is_side_like) := by
  refine fn_r F sc_is_side_like (fun _ _ h => h.len) fun cdv A outer s H vs Q E ds d hr hv hR q => ?_
  obtain ⟨t, rfl, hs, rfl⟩ := hR
  obtain ⟨v, rfl, dv⟩ := hv.get1
  refine wb_whenD (pt_isN (pd_v 0 rfl dv)) (fun h H1 s1 => ?_) fun h H1 s1 => ?_
  · refine wb_retD (d := .bool true) pd_bool fun v H2 s2 dv => q v H2 (s1.trans s2) (by rw [isSide, h, Bool.true_or]; exact dv)
  have dv1 := Dc.kept s1 dv
  rw [isSide, h, Bool.false_or] at q
  refine wb_retD (pd_andb (pd_call F1 hr (pa_c (pd_v 0 rfl dv1) (pa_c pd_int pa_n)) ⟨t, _, rfl, 3, rfl, rfl⟩) fun hl => pd_andb ?_ fun hn => pd_one ?_) fun v H2 s2 dv => q v H2 (s1.trans s2) dv
  · obtain ⟨xs, rfl, _⟩ := isLong_tup hl
    have hz := (sm_tuple hs).1
    refine Pd.is (pd_all (bs := xs.map isNum) rfl T.all (Pd.is (pd_lcN 1 (fun d => .bool (isNum d)) rfl sc_is_side_like.nd (pi_tup pe_w) (src_tup (pd_v 0 rfl dv1)) (by omega) (fun s H0 C cl fp i d v H2 hd sm2 dv2 => ?_) fun _ _ => rfl) (by simp))) (by simp [areNums, List.all_map])
    exact pd_call F2 hr (pa_c (pd_v 1 rfl dv2) pa_n) ⟨d, rfl, rfl⟩
  · obtain ⟨xs, rfl, e⟩ := isLong_tup hl
    obtain ⟨x, y, z, rfl⟩ := len3 e
    obtain ⟨c, rfl⟩ := isNum_int (isNum_nums hn (d := z) (by simp))
    exact pd_inI (pd_ixT (pd_v 0 rfl dv1) pd_int at2) pd_signs
theorem sh_three {a b c : Int} : SeqAt.shaped (.tuple [.int a, .int b, .int c]) = true := sh_tupI (xs := [a, b, c])
theorem sm_len {d : Dt} (h : sm d = true) : (mem d).length ≤ 1000 := by
  cases d with
  | tuple xs => exact (sm_tuple h).1
  | list xs => exact (sm_list h).1
  | _ => exact Nat.zero_le _
theorem cut2 {x y z : Dt} : cutD [x, y, z] none (some 2) = [x, y] := rfl
theorem cutN {xs : List Dt} {n : Nat} : cutD xs none (some (n : Int)) = xs.take n := by
  unfold cutD
  have h : HT.sIx xs.length xs.length (some (n : Int)) = min n xs.length := by
    simp only [HT.sIx]
    rw [if_neg (by omega)]
    simp
  have h0 : HT.sIx xs.length 0 none = 0 := rfl
  rw [h, h0]
  simp
abbrev R_is_surface_of := R1 fun t d => sm t = true ∧ SeqAt.shaped t = true ∧ d = .bool (isSurface t)
theorem within_true {d : Dt} {lo hi : Int} (h : within d lo hi = true) : ∃ i, d = .int i ∧ lo ≤ i ∧ i ≤ hi := by
  cases d with
  | int i =>
    have h' := Bool.and_eq_true_iff.mp h
    exact ⟨i, rfl, of_decide_eq_true h'.1, of_decide_eq_true h'.2⟩
  | _ => cases h
theorem atI_n {xs : List Dt} {i : Int} (h0 : 0 ≤ i) (h1 : i < xs.length) : atI xs i = some (xs.getD i.toNat .none) := atN h0 h1
theorem ok_is_surface_of (F : Fun K "is_surface_of" "is_surface_of" s_is_surface_of f fd) (T : Tx mg) (F1 : Df P w K mg base 2 "is_side_like" R_is_side_like) (F2 : Df P w K mg base 2 "is_within" R_is_within) : FnOk P w K mg base CX0 3 f fd ["thing"] (spR K R_is_surface_of) := by
  refine fn_r F sc_is_surface_of (fun _ _ h => h.len) fun cdv A outer s H vs Q E ds d hr hv hR q => ?_
  obtain ⟨t, rfl, hs, hsh, rfl⟩ := hR
  obtain ⟨v, rfl, dv⟩ := hv.get1
  refine wb_whenD (k := (!isIn "tuple" t) || !((mem t).all (fun b => isIn "tuple" b && decide ((2 : Int) < (mem b).length)))) (pw_t (pw_o (pt_notD (pt_d (pd_isi "tuple" T.isinstance T.tuple (pd_v 0 rfl dv)))) fun h => pw_o1 ?_)) (fun h H1 s1 => ?_) fun h H1 s1 => ?_
  · obtain ⟨xs, rfl⟩ := isTup ((Bool.not_eq_false' _).mp h)
    have hz := (sm_tuple hs).1
    refine pt_notD (pt_d (Pd.is (pd_all (bs := xs.map fun b => isIn "tuple" b && decide ((2 : Int) < (mem b).length)) rfl T.all (Pd.is (pd_lcN 1 (fun b => .bool (isIn "tuple" b && decide ((2 : Int) < (mem b).length))) rfl sc_is_surface_of.nd (pi_tup pe_w) (src_tup (pd_v 0 rfl dv)) (by omega) (fun s H0 C cl fp i d v H2 hd sm2 dv2 => ?_) fun _ _ => rfl) (by simp))) (by rw [map_bools]; rfl)))
    refine pd_andb (pd_isi "tuple" T.isinstance T.tuple (pd_v 1 rfl dv2)) fun hl => pd_one ?_
    obtain ⟨ys, rfl⟩ := isTup hl
    exact pd_gt (pd_lenT T.len (pd_v 1 rfl dv2)) pd_int
  · refine wb_retD (d := .bool false) pd_bool fun v H2 s2 dv => q v H2 (s1.trans s2) ?_
    have : isSurface t = false := by
      cases t with
      | tuple bs =>
        rw [show (!isIn "tuple" (.tuple bs)) = false from rfl, Bool.false_or] at h
        have h' := (Bool.not_eq_true' _).mp h
        show (_ && _) = false
        rw [show bs.all (fun b => isIn "tuple" b && decide ((2 : Int) < (mem b).length)) = false from h', Bool.false_and]
      | _ => rfl
    rw [this]
    exact dv
  obtain ⟨h1, h2⟩ := Bool.or_eq_false_iff.mp h
  obtain ⟨bs, rfl⟩ := isTup ((Bool.not_eq_false' _).mp h1)
  have h2 : bs.all (fun b => isIn "tuple" b && decide ((2 : Int) < (mem b).length)) = true := (Bool.not_eq_false' _).mp h2
  have dv1 := Dc.kept s1 dv
  have hsm := (sm_tuple hs).2
  have hrow : ∀ b ∈ bs, isIn "tuple" b = true := fun b hb => (Bool.and_eq_true_iff.mp (List.all_eq_true.mp h2 b hb)).1
  rw [show isSurface (.tuple bs) = okAll bs (sideAt bs) by rw [isSurface, h2, Bool.true_and]] at q
  refine wb_grid (i := 2) (j := 3) (sideAt bs) (.inl ⟨rfl, rfl⟩) T.enumerate dv1 hrow rfl rfl
    (pg_tup rfl (pgs_cons (pg_name (i := 2) sc_is_surface_of.nd rfl (Or.inl rfl)) (pgs_cons (pg_name (i := 3) sc_is_surface_of.nd rfl (Or.inl rfl)) pgs_nil)))
    (pg_tup rfl (pgs_cons (pg_name (i := 4) sc_is_surface_of.nd rfl (Or.inl rfl)) (pgs_cons (pg_name (i := 1) sc_is_surface_of.nd rfl (Or.inl rfl)) pgs_nil))) ?_ ?_
  · intro D' g r σ1 H2 vs vo hrt hg hr' hprev s2 hl5 five dvs dvo hok
    have hb : bs.getD g .none ∈ bs := getD_mem hg
    have hown : sm (nth (bs.getD g .none) r) = true := sm_nth (hsm _ hb)
    have dvo : Dc _ H2 vo (nth (bs.getD g .none) r) := dvo
    have s12 := s1.trans s2
    have no : ∀ {H3 : Hp}, Same H2 H3 → sideAt bs g r = false → ∀ v H4, Same H3 H4 → Dc K H4 v (.bool false) → D'.rt v H4 := fun {H3} s3 hbad v H4 s4 dv => by
      rw [hrt]
      exact q v H4 ((s12.trans s3).trans s4) (by rw [okAll_false hg hr' hbad]; exact dv)
    generalize hown' : nth (bs.getD g .none) r = own at *
    have eAt : sideAt bs g r = (isSide own && surfOk bs g r own) := by rw [sideAt, hown']
    rw [eAt] at hok no
    refine wb_whenD (k := !isSide own) (pt_notD (pt_d (pd_call F1 hr (pa_c (pd_v 1 five.at1 dvo) pa_n) ⟨own, rfl, hown, rfl⟩))) (fun h3 H3 s3 => ?_) fun h3 H3 s3 => ?_
    · refine wb_retD (d := .bool false) pd_bool (no s3 ?_)
      rw [(Bool.not_eq_true' _).mp h3, Bool.false_and]
    have h3 := (Bool.not_eq_false' _).mp h3
    rw [h3, Bool.true_and] at hok no
    have dvo3 := Dc.kept s3 dvo
    refine wb_whenD (k := !isNo own) (pt_notN (pd_v 1 five.at1 dvo3)) (fun h4 H4 s4 => ?_) fun h4 H4 s4 => ?_
    · have h4 := (Bool.not_eq_true' _).mp h4
      obtain ⟨a, b, c, rfl, hc⟩ := side_shape h3 h4
      have s34 := s3.trans s4
      have dv4 := Dc.kept (s2.trans s34) dv1
      have dvo4 := Dc.kept s34 dvo
      have eS : surfOk bs g r (.tuple [.int a, .int b, .int c]) = ((within (.int a) 0 ((bs.length : Int) - 1) && within (.int b) 0 (((mem (bs.getD a.toNat .none)).length : Int) - 1)) &&
        (!decide ([a, b] = [(g : Int), (r : Int)]) && PyData.eqv (nth (bs.getD a.toNat .none) b.toNat) (.tuple [.int (g : Int), .int (r : Int), .int c]))) := rfl
      rw [eS] at hok no
      refine wb_whenD (k := !within (.int a) 0 ((bs.length : Int) - 1) || !within (.int b) 0 (((mem (bs.getD a.toNat .none)).length : Int) - 1)) (pw_t (pw_o
        (pt_notD (pt_d (pd_call F2 hr (pa_c (pd_ixT (pd_v 1 five.at1 dvo4) pd_int at0) (pa_c pd_int (pa_c (pd_sub (pd_lenT T.len (pd_v 0 five.at0 dv4)) pd_int) pa_n))) ⟨_, _, _, rfl, 0, (bs.length : Int) - 1, rfl, rfl, rfl⟩))) fun hw => pw_o1 ?_)) (fun h5 H5 s5 => ?_) fun h5 H5 s5 => ?_
      · obtain ⟨i, e, ha0, ha1⟩ := within_true ((Bool.not_eq_false' _).mp hw)
        cases e
        have ham : bs.getD a.toNat .none ∈ bs := getD_mem (by omega)
        obtain ⟨ys, ey⟩ := isTup (hrow _ ham)
        refine pt_notD (pt_d (pd_call F2 hr (pa_c (pd_ixT (pd_v 1 five.at1 dvo4) pd_int at1) (pa_c pd_int (pa_c (pd_sub (pd_lenT (ds := mem (bs.getD a.toNat .none)) T.len (Pd.is (pd_ixT (pd_v 0 five.at0 dv4) (pd_ixT (pd_v 1 five.at1 dvo4) pd_int at0) (atI_n ha0 (by omega))) (by rw [ey]; rfl))) pd_int) pa_n))) ⟨_, _, _, rfl, 0, _, rfl, rfl, rfl⟩))
      · refine wb_retD (d := .bool false) pd_bool (no (s34.trans s5) ?_)
        rcases (Bool.or_eq_true _ _).mp h5 with h | h
        · rw [(Bool.not_eq_true' _).mp h, Bool.false_and, Bool.false_and]
        · rw [(Bool.not_eq_true' _).mp h, Bool.and_false, Bool.false_and]
      obtain ⟨h51, h52⟩ := Bool.or_eq_false_iff.mp h5
      have h51 := (Bool.not_eq_false' _).mp h51
      have h52 := (Bool.not_eq_false' _).mp h52
      rw [h51, h52, Bool.true_and, Bool.true_and] at hok no
      obtain ⟨i, e, ha0, ha1⟩ := within_true h51
      cases e
      obtain ⟨i, e, hb0, hb1⟩ := within_true h52
      cases e
      have ham : bs.getD a.toNat .none ∈ bs := getD_mem (by omega)
      obtain ⟨ys, ey⟩ := isTup (hrow _ ham)
      have s35 := s34.trans s5
      have dv5 := Dc.kept s5 dv4
      have dvo5 := Dc.kept s5 dvo4
      refine wb_whenD (k := decide ([a, b] = [(g : Int), (r : Int)]) || !PyData.eqv (nth (bs.getD a.toNat .none) b.toNat) (.tuple [.int (g : Int), .int (r : Int), .int c])) (pw_t (pw_o
        ((pt_eqD hr.units (Pd.is (pd_slT (pd_v 1 five.at1 dvo5) po_n (po_s (i := 2) pd_int)) (congrArg PyData.tuple cut2)) (pd_tup (pa_c (pd_v 2 five.ati (.int _)) (pa_c (pd_v 4 five.at4 (.int _)) pa_n))) (sh_tupI (xs := [a, b])) (sh_tupI (xs := [(g : Int), (r : Int)]))).is ?_) fun hw => pw_o1 ?_)) (fun h6 H6 s6 => ?_) fun h6 H6 s6 => ?_
      · exact eqv_tupI (xs := [a, b]) (ys := [(g : Int), (r : Int)])
      · have hbl : b < (mem (bs.getD a.toNat .none)).length := by omega
        exact pt_neD hr.units (pd_ixT (ds := mem (bs.getD a.toNat .none)) (Pd.is (pd_ixT (pd_v 0 five.at0 dv5) (pd_ixT (pd_v 1 five.at1 dvo5) pd_int at0) (atI_n ha0 (by omega))) (by rw [ey]; rfl)) (pd_ixT (pd_v 1 five.at1 dvo5) pd_int at1) (atI_n hb0 hbl))
          (pd_tup (pa_c (pd_v 2 five.ati (.int _)) (pa_c (pd_v 4 five.at4 (.int _)) (pa_c (pd_ixT (pd_v 1 five.at1 dvo5) pd_int at2) pa_n)))) (sh_nth (sh_tuple hsh ham)) sh_three
      · refine wb_retD (d := .bool false) pd_bool (no (s35.trans s6) ?_)
        rcases (Bool.or_eq_true _ _).mp h6 with h | h
        · rw [h, Bool.not_true, Bool.false_and]
        · rw [(Bool.not_eq_true' _).mp h, Bool.and_false]
      obtain ⟨h61, h62⟩ := Bool.or_eq_false_iff.mp h6
      have h62 := (Bool.not_eq_false' _).mp h62
      exact wb_nil (wb_nil (hok (by rw [h61, h62]; rfl) H6 (s35.trans s6)))
    · have h4 := (Bool.not_eq_false' _).mp h4
      exact wb_nil (hok (by rw [surfOk, h4, Bool.true_or]) H4 (s3.trans s4))
  · intro ho H2 o1 o2 o3 o4 s2
    exact wb_retD (d := .bool true) pd_bool fun v H3 s3 dv => q v H3 ((s1.trans s2).trans s3) (by rw [ho]; exact dv)
abbrev R_is_surface := R1 fun t d => sm t = true ∧ SeqAt.shaped t = true ∧ d = .bool (isSurface t)
theorem ok_is_surface (F : Fun K "is_surface" "is_surface" s_is_surface f fd) (F1 : Df P w K mg base 3 "is_surface_of" R_is_surface_of) : FnOk P w K mg base CX0 4 f fd ["thing"] (spR K R_is_surface) := by
  refine fn_r F sc_is_surface (fun _ _ h => h.len) fun cdv A outer s H vs Q E ds d hr hv hR q => ?_
  obtain ⟨t, rfl, h⟩ := hR
  obtain ⟨v, rfl, dv⟩ := hv.get1
  exact wb_retD (pd_call F1 hr (pa_c (pd_v 0 rfl dv) pa_n) ⟨t, rfl, h⟩) q
end
end Sp
namespace Sp
open PySem L2
def absI (i : Int) : Int := if i < 0 then -i else i
def isWord (many : Int) (t : Dt) : Bool := areNums t && (mem t).all fun d => decide (1 ≤ absI (intOf d)) && decide (absI (intOf d) ≤ many)
def isGiven (t : Dt) : Bool := isLong t 2 && (isNum (nth t 0) && (!decide (intOf (nth t 0) < 0) && (isIn "tuple" (nth t 1) && (mem (nth t 1)).all (isWord (intOf (nth t 0))))))
def isTable (t : Dt) : Bool := isLong t 2 && (isNum (nth t 0) && (!decide (intOf (nth t 0) < 0) && (isIn "tuple" (nth t 1) && (mem (nth t 1)).all fun r => areNums r && decide (((mem r).length : Int) = intOf (nth t 0)))))
def isDiscs (t : Dt) : Bool := match t with
  | .tuple bs => (decide (1 ≤ (bs.length : Int)) && decide ((bs.length : Int) ≤ 40)) && (bs.all (fun b => isLong b 7) && bs.all fun b => (mem b).all fun x => within x 0 1000000)
  | _ => false
def isShuf (n : Nat) (t : Dt) : Bool := areNums t && decide (srt (numsOf t) = (List.range n).map fun (i : Nat) => (i : Int))
def moveLen (k : Str) : Option Int := if k = "split" then some 2 else if k = "merge" then some 3 else if k = "cross" then some 3 else if k = "uncross" then some 4 else none
def isMove (t : Dt) : Bool := match t with
  | .tuple (.str k :: x :: xs) => match moveLen k with
    | some n => decide (((xs.length : Int) + 1 + 1) = n) && (within x 0 39 && (xs.all (fun y => within y 0 3) && (!decide (k = "uncross") || decide (intOf (xs.getD 0 .none) < intOf (xs.getD 1 .none)))))
    | none => false
  | _ => false
theorem areNums_mem {t : Dt} (h : areNums t = true) {d : Dt} (hd : d ∈ mem t) : isNum d = true := by
  cases t with
  | tuple xs => exact isNum_nums h hd
  | _ => cases h
theorem areNums_tup {t : Dt} (h : areNums t = true) : ∃ xs, t = .tuple xs := by
  cases t with
  | tuple xs => exact ⟨xs, rfl⟩
  | _ => cases h
theorem rngD_nums {n : Nat} : rngD n = ((List.range n).map fun (i : Nat) => (i : Int)).map PyData.int := by
  rw [rngD, List.map_map]; rfl
theorem isShuf_of {n : Nat} {t : Dt} : isShuf n t = (areNums t && PyData.eqv (.list ((srt (numsOf t)).map .int)) (.list (rngD n))) := by
  rw [isShuf, rngD_nums, eqv_listI]
section
variable {P : Program} {w : World} {K : PySem.W.Frag} {mg : Str → Option Value} {base : Heap} {f : Addr} {fd : FuncData}
abbrev R_is_word_of := R2D fun u t d => ∃ many, u = .int many ∧ sm t = true ∧ d = .bool (isWord many t)
theorem ok_is_word_of (F : Fun K "is_word_of" "is_word_of" s_is_word_of f fd) (T : Tx mg) (F1 : Df P w K mg base 2 "are_numbers" R_are_numbers) : FnOk P w K mg base CX0 3 f fd ["many", "thing"] (spR K R_is_word_of) := by
  refine fn_r F sc_is_word_of (fun _ _ h => h.len) fun cdv A outer s H vs Q E ds d hr hv hR q => ?_
  obtain ⟨u, t, rfl, many, rfl, hs, rfl⟩ := hR
  obtain ⟨vu, v, rfl, du, dv⟩ := hv.get2
  refine wb_retD (pd_andb (pd_call F1 hr (pa_c (pd_v 1 rfl dv) pa_n) ⟨t, rfl, hs, rfl⟩) fun hn => pd_one ?_) q
  obtain ⟨xs, rfl⟩ := areNums_tup hn
  have hz := (sm_tuple hs).1
  refine Pd.is (pd_all (bs := xs.map fun d => decide (1 ≤ absI (intOf d)) && decide (absI (intOf d) ≤ many)) rfl T.all (Pd.is (pd_lcN 2 (fun d => .bool (decide (1 ≤ absI (intOf d)) && decide (absI (intOf d) ≤ many))) rfl sc_is_word_of.nd (pi_tup pe_w) (src_tup (pd_v 1 rfl dv)) (by omega) (fun s H0 C cl fp i d v H2 hd sm2 dv2 => ?_) fun _ _ => rfl) (by simp))) (by rw [map_bools]; rfl)
  obtain ⟨n, rfl⟩ := isNum_int (isNum_nums hn (List.mem_of_getElem? hd))
  exact pd_chain (f := fun i j => decide (i ≤ j)) (g := fun i j => decide (i ≤ j)) op_le op_le pd_int (pd_abs T.abs (pd_v 2 rfl dv2)) fun _ => pd_v 0 rfl (Dc.kept sm2 du)
/-- what givens and tables ask first -/
theorem pair_shape {t : Dt} (h : (!isLong t 2 || (!isNum (nth t 0) || (decide (intOf (nth t 0) < 0) || !isIn "tuple" (nth t 1)))) = false) : ∃ n xs, t = .tuple [.int n, .tuple xs] ∧ decide (n < 0) = false := by
  obtain ⟨h1, h2⟩ := Bool.or_eq_false_iff.mp h
  obtain ⟨h2, h3⟩ := Bool.or_eq_false_iff.mp h2
  obtain ⟨h3, h4⟩ := Bool.or_eq_false_iff.mp h3
  obtain ⟨xs, rfl, e⟩ := isLong_tup ((Bool.not_eq_false' _).mp h1)
  obtain ⟨x, y, rfl⟩ := len2 e
  obtain ⟨n, rfl⟩ := isNum_int (d := x) ((Bool.not_eq_false' _).mp h2)
  obtain ⟨ys, rfl⟩ := isTup (d := y) ((Bool.not_eq_false' _).mp h4)
  exact ⟨n, ys, rfl, h3⟩
theorem pair_no {t : Dt} {g : Bool} (h : (!isLong t 2 || (!isNum (nth t 0) || (decide (intOf (nth t 0) < 0) || !isIn "tuple" (nth t 1)))) = true) : (isLong t 2 && (isNum (nth t 0) && (!decide (intOf (nth t 0) < 0) && (isIn "tuple" (nth t 1) && g)))) = false := by
  cases h1 : isLong t 2 <;> cases h2 : isNum (nth t 0) <;> cases h3 : decide (intOf (nth t 0) < 0) <;> cases h4 : isIn "tuple" (nth t 1) <;> simp_all
abbrev R_is_given_of := R1 fun t d => sm t = true ∧ d = .bool (isGiven t)
theorem ok_is_given_of (F : Fun K "is_given_of" "is_given_of" s_is_given_of f fd) (T : Tx mg) (F1 : Df P w K mg base 1 "is_long" R_is_long) (F2 : Df P w K mg base 1 "is_number" R_is_number) (F3 : Df P w K mg base 3 "is_word_of" R_is_word_of) : FnOk P w K mg base CX0 4 f fd ["thing"] (spR K R_is_given_of) := by
  refine fn_r F sc_is_given_of (fun _ _ h => h.len) fun cdv A outer s H vs Q E ds d hr hv hR q => ?_
  obtain ⟨t, rfl, hs, rfl⟩ := hR
  obtain ⟨v, rfl, dv⟩ := hv.get1
  refine wb_whenD (k := !isLong t 2 || (!isNum (nth t 0) || (decide (intOf (nth t 0) < 0) || !isIn "tuple" (nth t 1)))) (pw_t (pw_o (pt_notD (pt_d (pd_call F1 hr (pa_c (pd_v 0 rfl dv) (pa_c pd_int pa_n)) ⟨t, _, rfl, 2, rfl, rfl⟩))) fun h1 => pw_o ?_ fun h2 => pw_o ?_ fun h3 => pw_o1 ?_)) (fun h H1 s1 => ?_) fun h H1 s1 => ?_
  · obtain ⟨xs, rfl, e⟩ := isLong_tup ((Bool.not_eq_false' _).mp h1)
    obtain ⟨x, y, rfl⟩ := len2 e
    exact pt_notD (pt_d (pd_call F2 hr (pa_c (pd_ixT (pd_v 0 rfl dv) pd_int at0) pa_n) ⟨x, rfl, rfl⟩))
  · obtain ⟨xs, rfl, e⟩ := isLong_tup ((Bool.not_eq_false' _).mp h1)
    obtain ⟨x, y, rfl⟩ := len2 e
    obtain ⟨n, rfl⟩ := isNum_int (d := x) ((Bool.not_eq_false' _).mp h2)
    exact pt_lt (pd_ixT (pd_v 0 rfl dv) pd_int at0) pd_int
  · obtain ⟨xs, rfl, e⟩ := isLong_tup ((Bool.not_eq_false' _).mp h1)
    obtain ⟨x, y, rfl⟩ := len2 e
    exact pt_notD (pt_d (pd_isi "tuple" T.isinstance T.tuple (pd_ixT (pd_v 0 rfl dv) pd_int at1)))
  · exact wb_retD (d := .bool false) pd_bool fun v H2 s2 dv => q v H2 (s1.trans s2) (by rw [isGiven, pair_no h]; exact dv)
  obtain ⟨n, xs, rfl, hn⟩ := pair_shape h
  have dv1 := Dc.kept s1 dv
  have hsm := (sm_tuple hs).2 (.tuple xs) (by simp)
  have hz := (sm_tuple hsm).1
  rw [show isGiven (.tuple [.int n, .tuple xs]) = xs.all (isWord n) by
    show (true && (true && (!decide (n < 0) && (true && xs.all (isWord n))))) = _
    rw [hn]; simp] at q
  refine wb_retD (Pd.is (pd_all (bs := xs.map (isWord n)) rfl T.all (Pd.is (pd_lcN 1 (fun d => .bool (isWord n d)) rfl sc_is_given_of.nd (pi_tup pe_w) (src_tup (pd_ixT (pd_v 0 rfl dv1) pd_int at1)) (by omega) (fun s H0 C cl fp i d v H2 hd sm2 dv2 => ?_) fun _ _ => rfl) (by simp))) (by rw [map_bools])) fun v H2 s2 dv => q v H2 (s1.trans s2) dv
  exact pd_call F3 hr (pa_c (pd_ixT (pd_v 0 rfl (Dc.kept sm2 dv1)) pd_int at0) (pa_c (pd_v 1 rfl dv2) pa_n)) ⟨_, d, rfl, n, rfl, (sm_tuple hsm).2 d (List.mem_of_getElem? hd), rfl⟩
abbrev R_is_given := R1 fun t d => sm t = true ∧ d = .bool (isGiven t)
theorem ok_is_given (F : Fun K "is_given" "is_given" s_is_given f fd) (F1 : Df P w K mg base 4 "is_given_of" R_is_given_of) : FnOk P w K mg base CX0 5 f fd ["thing"] (spR K R_is_given) := by
  refine fn_r F sc_is_given (fun _ _ h => h.len) fun cdv A outer s H vs Q E ds d hr hv hR q => ?_
  obtain ⟨t, rfl, h⟩ := hR
  obtain ⟨v, rfl, dv⟩ := hv.get1
  exact wb_retD (pd_call F1 hr (pa_c (pd_v 0 rfl dv) pa_n) ⟨t, rfl, h⟩) q
abbrev R_is_table_of := R1 fun t d => sm t = true ∧ d = .bool (isTable t)
theorem ok_is_table_of (F : Fun K "is_table_of" "is_table_of" s_is_table_of f fd) (T : Tx mg) (F1 : Df P w K mg base 1 "is_long" R_is_long) (F2 : Df P w K mg base 1 "is_number" R_is_number) (F3 : Df P w K mg base 2 "are_numbers" R_are_numbers) : FnOk P w K mg base CX0 3 f fd ["thing"] (spR K R_is_table_of) := by
  refine fn_r F sc_is_table_of (fun _ _ h => h.len) fun cdv A outer s H vs Q E ds d hr hv hR q => ?_
  obtain ⟨t, rfl, hs, rfl⟩ := hR
  obtain ⟨v, rfl, dv⟩ := hv.get1
  refine wb_whenD (k := !isLong t 2 || (!isNum (nth t 0) || (decide (intOf (nth t 0) < 0) || !isIn "tuple" (nth t 1)))) (pw_t (pw_o (pt_notD (pt_d (pd_call F1 hr (pa_c (pd_v 0 rfl dv) (pa_c pd_int pa_n)) ⟨t, _, rfl, 2, rfl, rfl⟩))) fun h1 => pw_o ?_ fun h2 => pw_o ?_ fun h3 => pw_o1 ?_)) (fun h H1 s1 => ?_) fun h H1 s1 => ?_
  · obtain ⟨xs, rfl, e⟩ := isLong_tup ((Bool.not_eq_false' _).mp h1)
    obtain ⟨x, y, rfl⟩ := len2 e
    exact pt_notD (pt_d (pd_call F2 hr (pa_c (pd_ixT (pd_v 0 rfl dv) pd_int at0) pa_n) ⟨x, rfl, rfl⟩))
  · obtain ⟨xs, rfl, e⟩ := isLong_tup ((Bool.not_eq_false' _).mp h1)
    obtain ⟨x, y, rfl⟩ := len2 e
    obtain ⟨n, rfl⟩ := isNum_int (d := x) ((Bool.not_eq_false' _).mp h2)
    exact pt_lt (pd_ixT (pd_v 0 rfl dv) pd_int at0) pd_int
  · obtain ⟨xs, rfl, e⟩ := isLong_tup ((Bool.not_eq_false' _).mp h1)
    obtain ⟨x, y, rfl⟩ := len2 e
    exact pt_notD (pt_d (pd_isi "tuple" T.isinstance T.tuple (pd_ixT (pd_v 0 rfl dv) pd_int at1)))
  · exact wb_retD (d := .bool false) pd_bool fun v H2 s2 dv => q v H2 (s1.trans s2) (by rw [isTable, pair_no h]; exact dv)
  obtain ⟨n, xs, rfl, hn⟩ := pair_shape h
  have dv1 := Dc.kept s1 dv
  have hsm := (sm_tuple hs).2 (.tuple xs) (by simp)
  have hz := (sm_tuple hsm).1
  rw [show isTable (.tuple [.int n, .tuple xs]) = xs.all (fun r => areNums r && decide (((mem r).length : Int) = n)) by
    show (true && (true && (!decide (n < 0) && (true && xs.all _)))) = _
    rw [hn]; simp; rfl] at q
  refine wb_retD (Pd.is (pd_all (bs := xs.map fun r => areNums r && decide (((mem r).length : Int) = n)) rfl T.all (Pd.is (pd_lcN 1 (fun r => .bool (areNums r && decide (((mem r).length : Int) = n))) rfl sc_is_table_of.nd (pi_tup pe_w) (src_tup (pd_ixT (pd_v 0 rfl dv1) pd_int at1)) (by omega) (fun s H0 C cl fp i d v H2 hd sm2 dv2 => ?_) fun _ _ => rfl) (by simp))) (by rw [map_bools])) fun v H2 s2 dv => q v H2 (s1.trans s2) dv
  refine pd_andb (pd_call F3 hr (pa_c (pd_v 1 rfl dv2) pa_n) ⟨d, rfl, (sm_tuple hsm).2 d (List.mem_of_getElem? hd), rfl⟩) fun ha => pd_one ?_
  obtain ⟨ys, rfl⟩ := areNums_tup ha
  exact pd_eqI (pd_lenT T.len (pd_v 1 rfl dv2)) (pd_ixT (pd_v 0 rfl (Dc.kept sm2 dv1)) pd_int at0)
abbrev R_is_table := R1 fun t d => sm t = true ∧ d = .bool (isTable t)
theorem ok_is_table (F : Fun K "is_table" "is_table" s_is_table f fd) (F1 : Df P w K mg base 3 "is_table_of" R_is_table_of) : FnOk P w K mg base CX0 4 f fd ["thing"] (spR K R_is_table) := by
  refine fn_r F sc_is_table (fun _ _ h => h.len) fun cdv A outer s H vs Q E ds d hr hv hR q => ?_
  obtain ⟨t, rfl, h⟩ := hR
  obtain ⟨v, rfl, dv⟩ := hv.get1
  exact wb_retD (pd_call F1 hr (pa_c (pd_v 0 rfl dv) pa_n) ⟨t, rfl, h⟩) q
abbrev R_are_discs := R1 fun t d => sm t = true ∧ d = .bool (isDiscs t)
theorem ok_are_discs (F : Fun K "are_discs" "are_discs" s_are_discs f fd) (T : Tx mg) (F1 : Df P w K mg base 1 "is_long" R_is_long) (F2 : Df P w K mg base 2 "is_within" R_is_within) : FnOk P w K mg base CX0 3 f fd ["thing"] (spR K R_are_discs) := by
  refine fn_r F sc_are_discs (fun _ _ h => h.len) fun cdv A outer s H vs Q E ds d hr hv hR q => ?_
  obtain ⟨t, rfl, hs, rfl⟩ := hR
  obtain ⟨v, rfl, dv⟩ := hv.get1
  refine wb_whenD (k := (!isIn "tuple" t) || (!(decide (1 ≤ ((mem t).length : Int)) && decide (((mem t).length : Int) ≤ 40)) || !((mem t).all fun b => isLong b 7))) (pw_t (pw_o (pt_notD (pt_d (pd_isi "tuple" T.isinstance T.tuple (pd_v 0 rfl dv)))) fun h => pw_o ?_ fun h2 => pw_o1 ?_)) (fun h H1 s1 => ?_) fun h H1 s1 => ?_
  · obtain ⟨xs, rfl⟩ := isTup ((Bool.not_eq_false' _).mp h)
    exact pt_notD (pt_chainD (f := fun i j => decide (i ≤ j)) (g := fun i j => decide (i ≤ j)) op_le op_le pd_int (pd_lenT T.len (pd_v 0 rfl dv)) fun _ => pd_int)
  · obtain ⟨xs, rfl⟩ := isTup ((Bool.not_eq_false' _).mp h)
    have hz := (sm_tuple hs).1
    refine pt_notD (pt_d (Pd.is (pd_all (bs := xs.map fun b => isLong b 7) rfl T.all (Pd.is (pd_lcN 1 (fun b => .bool (isLong b 7)) rfl sc_are_discs.nd (pi_tup pe_w) (src_tup (pd_v 0 rfl dv)) (by omega) (fun s H0 C cl fp i d v H2 hd sm2 dv2 => ?_) fun _ _ => rfl) (by simp))) (by rw [map_bools]; rfl)))
    exact pd_call F1 hr (pa_c (pd_v 1 rfl dv2) (pa_c pd_int pa_n)) ⟨d, _, rfl, 7, rfl, rfl⟩
  · refine wb_retD (d := .bool false) pd_bool fun v H2 s2 dv => q v H2 (s1.trans s2) ?_
    have : isDiscs t = false := by
      cases t with
      | tuple bs =>
        rw [show (!isIn "tuple" (.tuple bs)) = false from rfl, Bool.false_or] at h
        show (_ && _) = false
        rcases (Bool.or_eq_true _ _).mp h with h | h
        · rw [show (decide (1 ≤ (bs.length : Int)) && decide ((bs.length : Int) ≤ 40)) = false from (Bool.not_eq_true' _).mp h, Bool.false_and]
        · rw [show (bs.all fun b => isLong b 7) = false from (Bool.not_eq_true' _).mp h, Bool.false_and, Bool.and_false]
      | _ => rfl
    rw [this]
    exact dv
  obtain ⟨h1, h2⟩ := Bool.or_eq_false_iff.mp h
  obtain ⟨h2, h3⟩ := Bool.or_eq_false_iff.mp h2
  obtain ⟨bs, rfl⟩ := isTup ((Bool.not_eq_false' _).mp h1)
  have h2 : (decide (1 ≤ (bs.length : Int)) && decide ((bs.length : Int) ≤ 40)) = true := (Bool.not_eq_false' _).mp h2
  have h3 : (bs.all fun b => isLong b 7) = true := (Bool.not_eq_false' _).mp h3
  have dv1 := Dc.kept s1 dv
  have hz := (sm_tuple hs).1
  obtain ⟨tm, hm⟩ := T.greatest
  rw [show isDiscs (.tuple bs) = bs.all (fun b => (mem b).all fun x => within x 0 1000000) by rw [isDiscs, h2, h3, Bool.true_and, Bool.true_and]] at q
  refine wb_retD (Pd.is (pd_all (bs := bs.map fun b => (mem b).all fun x => within x 0 1000000) rfl T.all (Pd.is (pd_lcN 1 (fun b => .bool ((mem b).all fun x => within x 0 1000000)) rfl sc_are_discs.nd (pi_tup pe_w) (src_tup (pd_v 0 rfl dv1)) (by omega) (fun s H0 C cl fp i d v H2 hd sm2 dv2 => ?_) fun _ _ => rfl) (by simp))) (by rw [map_bools])) fun v H2 s2 dv => q v H2 (s1.trans s2) dv
  have hd' := List.mem_of_getElem? hd
  obtain ⟨ys, rfl, _⟩ := isLong_tup (List.all_eq_true.mp h3 d hd')
  have hsy := sm_tuple ((sm_tuple hs).2 _ hd')
  refine Pd.is (pd_all (bs := ys.map fun x => within x 0 1000000) rfl T.all (Pd.is (pd_lcN 2 (fun x => .bool (within x 0 1000000)) rfl sc_are_discs.nd (pi_tup pe_w) (src_tup (pd_v 1 rfl dv2)) (by omega) (fun s H0 C cl fp i d v H3 hd sm3 dv3 => ?_) fun _ _ => rfl) (by simp))) (by rw [map_bools]; rfl)
  exact pd_call F2 hr (pa_c (pd_v 2 rfl dv3) (pa_c pd_int (pa_c (pd_glob (v := .int 1000000) hm ⟨_, rfl⟩ (.int 1000000)) pa_n))) ⟨d, _, _, rfl, 0, 1000000, rfl, rfl, rfl⟩
abbrev R_is_shuffle_in := R2D fun u t d => ∃ n : Nat, u = .int (n : Int) ∧ n ≤ 1000 ∧ sm t = true ∧ d = .bool (isShuf n t)
theorem ok_is_shuffle_in (F : Fun K "is_shuffle_in" "is_shuffle_in" s_is_shuffle_in f fd) (T : Tx mg) (F1 : Df P w K mg base 2 "are_numbers" R_are_numbers) : FnOk P w K mg base CX0 3 f fd ["things", "thing"] (spR K R_is_shuffle_in) := by
  refine fn_r F sc_is_shuffle_in (fun _ _ h => h.len) fun cdv A outer s H vs Q E ds d hr hv hR q => ?_
  obtain ⟨u, t, rfl, n, rfl, hn, hs, rfl⟩ := hR
  obtain ⟨vu, v, rfl, du, dv⟩ := hv.get2
  rw [isShuf_of] at q
  refine wb_retD (pd_andb (pd_call F1 hr (pa_c (pd_v 1 rfl dv) pa_n) ⟨t, rfl, hs, rfl⟩) fun ha => pd_one ?_) q
  rw [areNums_map ha] at dv
  exact pd_eqD hr.units (pd_sortedT T.sorted (pd_v 1 rfl dv)) (Pd.is (pd_listRg rfl T.range T.list (pd_v 0 rfl du) (by omega) (by omega)) (by simp)) sh_listI (by rw [rngD_nums]; exact sh_listI)
abbrev R_sure_things := R1 fun t d => ∃ n : Int, 2 ≤ n ∧ n ≤ 7 ∧ t = .int n ∧ d = .int n
theorem ok_sure_things (F : Fun K "sure_things" "sure_things" s_sure_things f fd) (T : Tx mg) (F1 : Df P w K mg base 3 "sure_within" R_sure_within) : FnOk P w K mg base CX0 4 f fd ["things"] (spR K R_sure_things) := by
  refine fn_r F sc_sure_things (fun _ _ h => h.len) fun cdv A outer s H vs Q E ds d hr hv hR q => ?_
  obtain ⟨t, rfl, n, h2, h7, rfl, rfl⟩ := hR
  obtain ⟨v, rfl, dv⟩ := hv.get1
  obtain ⟨tm, hm⟩ := T.things
  exact wb_retD (pd_call F1 hr (pa_c (pd_v 0 rfl dv) (pa_c pd_int (pa_c (pd_glob (v := .int 7) hm ⟨_, rfl⟩ (.int 7)) pa_n))) ⟨_, _, _, rfl, 2, 7, rfl, rfl, by simp [within, h2, h7], rfl⟩) q
abbrev R_is_shuffle := R2D fun u t d => ∃ n : Nat, u = .int (n : Int) ∧ 2 ≤ n ∧ n ≤ 7 ∧ sm t = true ∧ d = .bool (isShuf n t)
theorem ok_is_shuffle (F : Fun K "is_shuffle" "is_shuffle" s_is_shuffle f fd) (F1 : Df P w K mg base 4 "sure_things" R_sure_things) (F2 : Df P w K mg base 3 "is_shuffle_in" R_is_shuffle_in) : FnOk P w K mg base CX0 5 f fd ["things", "thing"] (spR K R_is_shuffle) := by
  refine fn_r F sc_is_shuffle (fun _ _ h => h.len) fun cdv A outer s H vs Q E ds d hr hv hR q => ?_
  obtain ⟨u, t, rfl, n, rfl, h2, h7, hs, rfl⟩ := hR
  obtain ⟨vu, v, rfl, du, dv⟩ := hv.get2
  exact wb_retD (pd_call F2 hr (pa_c (pd_call F1 hr (pa_c (pd_v 0 rfl du) pa_n) ⟨_, rfl, n, by omega, by omega, rfl, rfl⟩) (pa_c (pd_v 1 rfl dv) pa_n)) ⟨_, _, rfl, n, rfl, by omega, hs, rfl⟩) q
end
end Sp
namespace Sp
open PySem L2
/-- the module's dict of lengths -/
structure Lens (K : PySem.W.Frag) (w : World) (mg : Str → Option Value) : Prop where
  at_ : ∃ d es n, mg "LENGTHS" = some (.ref d) ∧ KDict K w d es n ∧ ∀ z, ∃ r, PySem.W.nsIn K d z = some r ∧ ((moveLen z = none ∧ r = none) ∨ ∃ n t, moveLen z = some n ∧ r = some (.int n t))
section
variable {X : Cx} {σ : L2.St} {H : Hp} {a : Expr} {p pos : Pos} {z : Str}
theorem pt_ninLens (L : Lens X.K X.w X.mg) (ha : Pd X a σ H (.str z)) (hg : Gl X "LENGTHS" := by rfl) (hm : behindInMarks .NotIn (.Name "LENGTHS" p) = false := by rfl) : Pt X (.Compare a [.NotIn] [.Name "LENGTHS" p] pos) σ H (!(moveLen z).isSome) := fun H1 s Q q => by
  obtain ⟨d, es, n, h1, D, h2⟩ := L.at_
  obtain ⟨r, h3, h4⟩ := h2 z
  have e : (!r.isSome) = !(moveLen z).isSome := by
    rcases h4 with ⟨e1, e2⟩ | ⟨n, t, e1, e2⟩ <;> rw [e1, e2] <;> rfl
  refine wt_of (pt_cmpR (op_notIn_kd D) pe_w (pe_glob (v := .ref d) hg h1 rfl) hm) (ha H1 s _ fun v H2 s2 dv => ?_)
  cases dv
  exact ⟨z, r, rfl, rfl, h3, _, rfl, by rw [e]; exact q H2 s2⟩
theorem pd_lens {m : Int} (L : Lens X.K X.w X.mg) (ha : Pd X a σ H (.str z)) (hz : moveLen z = some m) (hg : Gl X "LENGTHS" := by rfl) (hs : PlainIx a := by intro _ _; rfl) : Pd X (.Subscript (.Name "LENGTHS" p) a pos) σ H (.int m) := fun H1 s Q q => by
  obtain ⟨d, es, n, h1, D, h2⟩ := L.at_
  obtain ⟨r, h3, h4⟩ := h2 z
  obtain ⟨t, rfl⟩ : ∃ t, r = some (.int m t) := by
    rcases h4 with ⟨e1, e2⟩ | ⟨n, t, e1, e2⟩
    · rw [hz] at e1; cases e1
    · rw [hz] at e1; cases e1; exact ⟨t, e2⟩
  refine we_of (pe_ix ix_kdict (pe_glob (v := .ref d) hg h1 rfl) pe_w hs) (ha H1 s _ fun v H2 s2 dv => ?_)
  cases dv
  exact ⟨d, z, .int m, rfl, rfl, ⟨es, n, _, D.at_, D.lit, h3, ⟨t, rfl⟩⟩, q _ H2 s2 (.int _)⟩
end
theorem cutF {xs : List Dt} {n : Nat} : cutD xs (some (n : Int)) none = xs.drop n := by
  unfold cutD
  have h : HT.sIx xs.length 0 (some (n : Int)) = min n xs.length := by
    simp only [HT.sIx]
    rw [if_neg (by omega)]
    simp
  have h0 : HT.sIx xs.length xs.length none = xs.length := rfl
  rw [h, h0]
  by_cases hx : n ≤ xs.length
  · rw [Nat.min_eq_left hx, List.take_of_length_le (by rw [List.length_drop]; exact Nat.le_refl _)]
  · rw [Nat.min_eq_right (by omega)]
    simp
    omega
theorem isStr {d : Dt} (h : isIn "str" d = true) : ∃ s, d = .str s := by
  cases d <;> first | exact ⟨_, rfl⟩ | (simp [isIn, tyN] at h)
theorem moveLen_two {k : Str} {n : Int} (h : moveLen k = some n) : 2 ≤ n ∧ n ≤ 4 := by
  unfold moveLen at h
  repeat' split at h
  all_goals first | (cases h; decide) | cases h
theorem moveLen_unc {n : Int} (h : moveLen "uncross" = some n) : n = 4 := by
  rw [show moveLen "uncross" = some 4 by decide] at h
  exact (Option.some.inj h).symm
section
variable {P : Program} {w : World} {K : PySem.W.Frag} {mg : Str → Option Value} {base : Heap} {f : Addr} {fd : FuncData}
/-- what moves ask first -/
def moveHead (t : Dt) : Bool := !isIn "tuple" t || (decide (((mem t).length : Int) < 2) || (!isIn "str" (nth t 0) || !(moveLen (match nth t 0 with | .str k => k | _ => "")).isSome))
theorem moveHead_no {t : Dt} (h : moveHead t = true) : isMove t = false := by
  match t with
  | .tuple [] => rfl
  | .tuple [.str k] => rfl
  | .tuple (.str k :: x :: xs) =>
    have h' : (false || (decide (((xs.length + 1 + 1 : Nat) : Int) < 2) || (false || !(moveLen k).isSome))) = true := h
    rw [show decide (((xs.length + 1 + 1 : Nat) : Int) < 2) = false from decide_eq_false (by omega)] at h'
    cases hk : moveLen k with
    | none => simp only [isMove, hk]
    | some n => rw [hk] at h'; cases h'
  | .tuple (.int _ :: _) | .tuple (.bool _ :: _) | .tuple (.none :: _) | .tuple (.list _ :: _) | .tuple (.tuple _ :: _) | .tuple (.dict _ :: _) => rfl
  | .int _ | .bool _ | .none | .list _ | .str _ | .dict _ => rfl
theorem moveHead_yes {t : Dt} (h : moveHead t = false) : ∃ k x xs n, t = .tuple (.str k :: x :: xs) ∧ moveLen k = some n := by
  obtain ⟨h1, h2⟩ := Bool.or_eq_false_iff.mp h
  obtain ⟨h2, h3⟩ := Bool.or_eq_false_iff.mp h2
  obtain ⟨h3, h4⟩ := Bool.or_eq_false_iff.mp h3
  obtain ⟨xs, rfl⟩ := isTup ((Bool.not_eq_false' _).mp h1)
  match xs, h2 with
  | [], h2 => simp [mem] at h2
  | [x], h2 => simp [mem] at h2
  | x :: y :: xs, _ =>
    obtain ⟨k, rfl⟩ := isStr (d := x) ((Bool.not_eq_false' _).mp h3)
    have h5 : (moveLen k).isSome = true := (Bool.not_eq_false' _).mp h4
    obtain ⟨n, hn⟩ := Option.isSome_iff_exists.mp h5
    exact ⟨k, y, xs, n, rfl, hn⟩
abbrev R_is_move_of := R1 fun t d => sm t = true ∧ d = .bool (isMove t)
theorem ok_is_move_of (F : Fun K "is_move_of" "is_move_of" s_is_move_of f fd) (T : Tx mg) (L : Lens K w mg) (F1 : Df P w K mg base 1 "is_long" R_is_long) (F2 : Df P w K mg base 2 "is_within" R_is_within) : FnOk P w K mg base CX0 3 f fd ["thing"] (spR K R_is_move_of) := by
  refine fn_r F sc_is_move_of (fun _ _ h => h.len) fun cdv A outer s H vs Q E ds d hr hv hR q => ?_
  obtain ⟨t, rfl, hs, rfl⟩ := hR
  obtain ⟨v, rfl, dv⟩ := hv.get1
  refine wb_whenD (k := moveHead t) (pw_t (pw_o (pt_notD (pt_d (pd_isi "tuple" T.isinstance T.tuple (pd_v 0 rfl dv)))) fun h1 => pw_o ?_ fun h2 => pw_o ?_ fun h3 => pw_o1 ?_)) (fun h H1 s1 => ?_) fun h H1 s1 => ?_
  · obtain ⟨xs, rfl⟩ := isTup ((Bool.not_eq_false' _).mp h1)
    exact pt_lt (pd_lenT T.len (pd_v 0 rfl dv)) pd_int
  · obtain ⟨xs, rfl⟩ := isTup ((Bool.not_eq_false' _).mp h1)
    match xs, h2 with
    | [], h2 => simp [mem] at h2
    | x :: xs, _ => exact pt_notD (pt_d (pd_isi "str" T.isinstance T.str (pd_ixT (pd_v 0 rfl dv) pd_int at0)))
  · obtain ⟨xs, rfl⟩ := isTup ((Bool.not_eq_false' _).mp h1)
    match xs, h2, h3 with
    | [], h2, _ => simp [mem] at h2
    | x :: xs, _, h3 =>
      obtain ⟨k, rfl⟩ := isStr (d := x) ((Bool.not_eq_false' _).mp h3)
      exact pt_ninLens L (pd_ixT (pd_v 0 rfl dv) pd_int at0)
  · exact wb_retD (d := .bool false) pd_bool fun v H2 s2 dv => q v H2 (s1.trans s2) (by rw [moveHead_no h]; exact dv)
  obtain ⟨k, x, xs, n, rfl, hk⟩ := moveHead_yes h
  have dv1 := Dc.kept s1 dv
  have hz := (sm_tuple hs).1
  rw [show isMove (.tuple (.str k :: x :: xs)) = (decide (((xs.length : Int) + 1 + 1) = n) && (within x 0 39 && (xs.all (fun y => within y 0 3) && (!decide (k = "uncross") || decide (intOf (xs.getD 0 .none) < intOf (xs.getD 1 .none)))))) by simp only [isMove, hk]] at q
  obtain ⟨tm, hm⟩ := T.most
  have el : isLong (.tuple (.str k :: x :: xs)) n = decide (((xs.length : Int) + 1 + 1) = n) := by simp only [isLong, List.length_cons]; congr 1
  refine wb_whenD (k := !isLong (.tuple (.str k :: x :: xs)) n || !within x 0 39) (pw_t (pw_o (pt_notD (pt_d (pd_call F1 hr (pa_c (pd_v 0 rfl dv1) (pa_c (pd_lens L (pd_ixT (pd_v 0 rfl dv1) pd_int at0) hk) pa_n)) ⟨_, _, rfl, n, rfl, rfl⟩))) fun h1 => pw_o1
    (pt_notD (pt_d (pd_call F2 hr (pa_c (pd_ixT (pd_v 0 rfl dv1) pd_int at1) (pa_c pd_int (pa_c (pd_sub (pd_glob (v := .int 40) hm ⟨_, rfl⟩ (.int 40)) pd_int) pa_n))) ⟨_, _, _, rfl, 0, 39, rfl, rfl, rfl⟩))))) (fun h1 H2 s2 => ?_) fun h1 H2 s2 => ?_
  · refine wb_retD (d := .bool false) pd_bool fun v H3 s3 dv => q v H3 ((s1.trans s2).trans s3) ?_
    rcases (Bool.or_eq_true _ _).mp h1 with h | h
    · rw [← el, (Bool.not_eq_true' _).mp h, Bool.false_and]; exact dv
    · rw [(Bool.not_eq_true' _).mp h, Bool.false_and, Bool.and_false]; exact dv
  obtain ⟨h2, h3⟩ := Bool.or_eq_false_iff.mp h1
  have h2 := (Bool.not_eq_false' _).mp h2
  have h3 := (Bool.not_eq_false' _).mp h3
  rw [← el, h2, h3, Bool.true_and, Bool.true_and] at q
  have dv2 := Dc.kept s2 dv1
  have ln : ((xs.length : Int) + 1 + 1) = n := by rw [el] at h2; exact of_decide_eq_true h2
  refine wb_whenD (k := !xs.all (fun y => within y 0 3)) (pt_notD (pt_d (Pd.is (pd_all (bs := xs.map fun y => within y 0 3) rfl T.all (Pd.is
    (pd_lcN (ds := xs) 1 (fun y => .bool (within y 0 3)) rfl sc_is_move_of.nd (pi_tup pe_w) (src_tup (Pd.is (pd_slT (pd_v 0 rfl dv2) (po_s (i := 2) pd_int) po_n) (congrArg PyData.tuple (cutF (n := 2))))) (by simp only [List.length_cons] at hz; omega) (fun s' H0 C cl fp i b u H3 hb sm3 du => ?_) fun _ _ => rfl) (by simp))) (by rw [map_bools])))) (fun h4 H3 s3 => ?_) fun h4 H3 s3 => ?_
  · exact pd_call F2 hr (pa_c (pd_v 1 rfl du) (pa_c pd_int (pa_c pd_int pa_n))) ⟨b, _, _, rfl, 0, 3, rfl, rfl, rfl⟩
  · refine wb_retD (d := .bool false) pd_bool fun v H4 s4 dv => q v H4 (((s1.trans s2).trans s3).trans s4) ?_
    rw [(Bool.not_eq_true' _).mp h4, Bool.false_and]; exact dv
  have h4 := (Bool.not_eq_false' _).mp h4
  rw [h4, Bool.true_and] at q
  have dv3 := Dc.kept s3 dv2
  refine wb_retD (pd_orb (pd_neS (pd_ixT (pd_v 0 rfl dv3) pd_int at0) pd_str) fun hu => pd_one ?_) fun v H4 s4 dv => q v H4 (((s1.trans s2).trans s3).trans s4) dv
  have hu := of_decide_eq_true ((Bool.not_eq_false' _).mp hu)
  subst hu
  have e4 := moveLen_unc hk
  subst e4
  match xs, ln, h4 with
  | [a, b], _, h4 =>
    obtain ⟨i, rfl, _⟩ := within_true (List.all_eq_true.mp h4 a (by simp))
    obtain ⟨j, rfl, _⟩ := within_true (List.all_eq_true.mp h4 b (by simp))
    exact pd_lt (pd_ixT (pd_v 0 rfl dv3) pd_int at2) (pd_ixT (pd_v 0 rfl dv3) pd_int (by
      have := atI_nat (xs := [PyData.str "uncross", x, .int i, .int j]) (j := 3) (v := .int j) rfl
      exact this))
  | [], ln, _ => simp at ln
  | [_], ln, _ => simp at ln
  | _ :: _ :: _ :: _, ln, _ => simp at ln; omega
abbrev R_is_move := R1 fun t d => sm t = true ∧ d = .bool (isMove t)
theorem ok_is_move (F : Fun K "is_move" "is_move" s_is_move f fd) (F1 : Df P w K mg base 3 "is_move_of" R_is_move_of) : FnOk P w K mg base CX0 4 f fd ["thing"] (spR K R_is_move) := by
  refine fn_r F sc_is_move (fun _ _ h => h.len) fun cdv A outer s H vs Q E ds d hr hv hR q => ?_
  obtain ⟨t, rfl, h⟩ := hR
  obtain ⟨v, rfl, dv⟩ := hv.get1
  exact wb_retD (pd_call F1 hr (pa_c (pd_v 0 rfl dv) pa_n) ⟨t, rfl, h⟩) q
end
end Sp
namespace Sp
open PySem L2
section
variable {P : Program} {w : World} {K : PySem.W.Frag} {mg : Str → Option Value} {base : Heap} {f : Addr} {fd : FuncData}
/-! ### the law's own words -/
abbrev R_law_is_int := R1 fun t d => d = .bool (isNum t)
theorem ok_law_is_int (F : Fun K "_law_is_int" "_law_is_int" s__law_is_int f fd) (T : Tx mg) : FnOk P w K mg base CX0 1 f fd ["k"] (spR K R_law_is_int) := by
  refine fn_r F sc__law_is_int (fun _ _ h => h.len) fun cdv A outer s H vs Q E ds d hr hv hR q => ?_
  obtain ⟨t, rfl, rfl⟩ := hR
  obtain ⟨v, rfl, dv⟩ := hv.get1
  refine wb_retD (d := .bool (isNum t)) ?_ q
  rw [← isNum_eq]
  exact pd_andb (pd_isi "int" T.isinstance T.int (pd_v 0 rfl dv)) fun _ => pd_one (pd_not (pd_isi "bool" T.isinstance T.bool (pd_v 0 rfl dv)))
abbrev R_law_row := R1 fun t d => sm t = true ∧ SeqAt.shaped t = true ∧ d = .bool (areNums t)
theorem ok_law_row (F : Fun K "_law_row" "_law_row" s__law_row f fd) (T : Tx mg) (F1 : Df P w K mg base 1 "_law_is_int" R_law_is_int) : FnOk P w K mg base CX0 2 f fd ["thing_so"] (spR K R_law_row) := by
  refine fn_r F sc__law_row (fun _ _ h => h.len) fun cdv A outer s H vs Q E ds d hr hv hR q => ?_
  obtain ⟨t, rfl, hs, hsh, rfl⟩ := hR
  obtain ⟨v, rfl, dv⟩ := hv.get1
  refine wb_retD (pd_and (pd_isi "tuple" T.isinstance T.tuple (pd_v 0 rfl dv)) (fun h => ?_) fun h => ?_) q
  · obtain ⟨xs, rfl⟩ := isTup h
    have hz := (sm_tuple hs).1
    refine pd_one (Pd.is (pd_eqD hr.units (pd_lcI 1 (fun d => !isNum d) rfl sc__law_row.nd (pi_tup pe_w) (src0_tup (pd_v 0 rfl dv)) (by omega) (fun s H0 C cl fp i d v H1 hd sm dv => ?_) (Nat.lt_of_lt_of_eq (by decide : 1 < 2) rfl)) (pd_lst pa_n) (sh_filter hsh) sh_nilL) ?_)
    · exact pt_notD (pt_d (pd_call F1 hr (pa_c (pd_v 1 rfl dv) pa_n) ⟨d, rfl, rfl⟩))
    · rw [eqv_nilL, filter_nil]
      simp [areNums]
  · cases t <;> first | rfl | (exact absurd rfl (isTup_no h _))
abbrev R_law_turn := R1 fun t d => sm t = true ∧ SeqAt.shaped t = true ∧ d = .bool (isTurn t)
theorem ok_law_turn (F : Fun K "_law_turn" "_law_turn" s__law_turn f fd) (T : Tx mg) (F1 : Df P w K mg base 2 "_law_row" R_law_row) : FnOk P w K mg base CX0 3 f fd ["thing_so"] (spR K R_law_turn) := by
  refine fn_r F sc__law_turn (fun _ _ h => h.len) fun cdv A outer s H vs Q E ds d hr hv hR q => ?_
  obtain ⟨t, rfl, hs, hsh, rfl⟩ := hR
  obtain ⟨v, rfl, dv⟩ := hv.get1
  refine wb_retD (pd_andb (k := areNums t) (m := decide (srt (numsOf t) = [0, 1, 2, 3])) (pd_call F1 hr (pa_c (pd_v 0 rfl dv) pa_n) ⟨t, rfl, hs, hsh, rfl⟩) fun h => ?_) q
  have e := areNums_map h
  exact pd_one ((pd_eqD hr.units (pd_sortedT (ns := numsOf t) T.sorted (pd_v 0 rfl (e ▸ dv))) (pd_lst (pa_c pd_int (pa_c pd_int (pa_c pd_int (pa_c pd_int pa_n))))) sh_listI (sh_listI (xs := [0, 1, 2, 3]))).is (congrArg PyData.bool (eqv_listI (xs := srt (numsOf t)) (ys := [0, 1, 2, 3]))))
theorem ok_law_undone (F : Fun K "_law_undone" "_law_undone" s__law_undone f fd) (T : Tx mg) : FnOk P w K mg base CX0 1 f fd ["turn_so"] (spR K R_turn_back) := by
  refine fn_r F sc__law_undone (fun _ _ h => h.len) fun cdv A outer s H vs Q E ds d hr hv hR q => ?_
  obtain ⟨t, rfl, ns, rfl, ht, rfl⟩ := hR
  obtain ⟨v, rfl, dv⟩ := hv.get1
  refine wb_retD (pd_tupleL T.tuple (Pd.is (pd_lcN (ds := rngD 4) 1 (fun d => .int (ns.idxOf (intOf d) : Nat)) rfl sc__law_undone.nd (pi_range1 rfl T.range pa_w) (src_range (pa_c pd_int pa_n) (by omega)) (by rw [rngD_len]; omega) (fun s' H0 C cl fp i b u H3 hb sm3 du => ?_) fun _ _ => rfl) ?_)) q
  · obtain ⟨hi, rfl⟩ := rngD_at hb
    exact pd_index (pd_v 0 rfl (Dc.kept sm3 dv)) (turn_len ht) (pd_v 1 rfl du) ((srt_perm (ns := ns)).mem_iff.mp (by rw [ht]; simp [intOf]; omega))
  · rw [rngD, inv, List.map_map, List.map_map]
    rfl
/-- flat: rows that are lists -/
def sp_flat (K : PySem.W.Frag) : Sp := fun vs H Q _ => ∃ l ps dss, vs = [.ref l] ∧ H l = some (.lst (ps.map V.ref)) ∧ Rws K H H l ps dss ∧ dss.flatten.length ≤ 100000 ∧ ∀ v H', Same H H' → Dc K H' v (.list dss.flatten) → Q v H'
theorem Rws.len {H G : Hp} {a : Addr} : ∀ {ps : List Addr} {dss : List (List Dt)}, Rws K H G a ps dss → ps.length = dss.length
  | _, _, .nil => rfl
  | _, _, .cons _ _ _ _ t => by rw [List.length_cons, List.length_cons, Rws.len t]
theorem Rws.get {H G : Hp} {a : Addr} : ∀ {ps : List Addr} {dss : List (List Dt)} {i : Nat} {p : Addr}, Rws K H G a ps dss → ps[i]? = some p → ∃ ds vs, dss[i]? = some ds ∧ H p = some (.lst vs) ∧ DcAll K G vs ds
  | _, _, _, _, .nil, h => by simp at h
  | _, _, 0, _, .cons n vs h d t, e => by cases e; exact ⟨_, vs, rfl, h, d⟩
  | _, _, i + 1, p, .cons n vs h d t, e => by
    obtain ⟨ds, vs, h1, h2⟩ := Rws.get (i := i) (p := p) t (by simpa using e)
    exact ⟨ds, vs, by simpa using h1, h2⟩
theorem Rws.dc {H : Hp} {a : Addr} : ∀ {ps : List Addr} {dss : List (List Dt)}, Rws K H H a ps dss → DcAll K H (ps.map V.ref) (dss.map .list)
  | _, _, .nil => .nil
  | _, _, .cons n vs h d t => .cons (.lst (SqL.of h) d) (Rws.dc t)
theorem flat_take {dss : List (List Dt)} {i : Nat} {ds : List Dt} (h : dss[i]? = some ds) : (dss.take (i + 1)).flatten = (dss.take i).flatten ++ ds := by
  rw [List.take_add_one, h, List.flatten_append]; simp
theorem flat_le {dss : List (List Dt)} {i : Nat} : (dss.take i).flatten.length ≤ dss.flatten.length := by
  conv => rhs; rw [← List.take_append_drop i dss, List.flatten_append, List.length_append]
  omega
theorem ok_law_flat (F : Fun K "_law_flat" "_law_flat" s__law_flat f fd) : FnOk P w K mg base CX0 1 f fd ["rows_so"] (sp_flat K) := by
  refine fn_s F sc__law_flat (fun vs H Q E h => by obtain ⟨_, _, _, rfl, _⟩ := h; rfl) fun cdv A outer s H vs Q E hr h => ?_
  obtain ⟨l, ps, dss, rfl, hl, hrw, hz, q⟩ := h
  refine wb_set 1 (we_of (pe_lst pa_nil) ⟨(by decide : 0 ≤ sizeLine), fun p hp => ?_⟩) sc__law_flat.nd
  refine wb_forH (H0 := H) (T := tSet 2) (pi_list pe_w) (srcB_list 0 rfl (SqL.of hl)) (pg_name (i := 2) sc__law_flat.nd rfl (Or.inl rfl)) ht_set
    (fun i σ' H' => ∃ o, σ' = [some (.ref l), some (.ref p), o] ∧ Same H H' ∧ ∃ vs, H' p = some (.lst vs) ∧ DcAll K H vs (dss.take i).flatten) ?_ ?_ ?_ ?_
  · rintro i σ H' ⟨_, _, s, _⟩; exact s
  · exact ⟨none, rfl, Same.new hp, [], upd_same, .nil⟩
  · rintro i x σ1 σ2 H1 N hi hx ⟨o, rfl, s1, vs, h1, dv⟩ rfl hN
    have hx' : (ps.map V.ref)[i]? = some x := hx
    obtain ⟨a, ha, rfl⟩ : ∃ a, ps[i]? = some a ∧ x = .ref a := by
      rw [List.getElem?_map] at hx'
      cases ha : ps[i]? with
      | none => rw [ha] at hx'; cases hx'
      | some a => rw [ha] at hx'; exact ⟨a, rfl, (Option.some.inj hx').symm⟩
    obtain ⟨zs, us, h2, h3, du⟩ := Rws.get hrw ha
    have hlen : vs.length + us.length ≤ 100000 := by
      rw [dv.length, du.length, ← List.length_append, ← flat_take h2]
      exact Nat.le_trans flat_le hz
    refine wb_extend (we_of (pv 1) ⟨_, rfl, p, rfl, ⟨_, h1⟩, we_of (pv 2) ⟨_, rfl, a, vs, us, rfl, ⟨h1, s1 _ _ h3⟩, hlen, wb_nil (hN _ _ ⟨_, rfl, s1.mut hp, _, upd_same, ?_⟩)⟩⟩)
    rw [flat_take h2]
    exact dv.append du
  · rintro σ1 H1 ⟨o, rfl, s1, vs, h1, dv⟩
    refine wb_ret (we_of (pv 1) ⟨_, rfl, q _ _ s1 (.lst (SqL.of h1) (DcAll.kept s1 ?_))⟩)
    rw [List.length_map, hrw.len, List.take_length] at dv
    exact dv
end
end Sp
namespace Sp
open PySem L2
section
variable {P : Program} {w : World} {K : PySem.W.Frag} {mg : Str → Option Value} {base : Heap} {f : Addr} {fd : FuncData}
/-! ### same -/
abbrev R_same0 := R2D fun t u d => ∃ a b : Bool, t = .bool a ∧ u = .bool b ∧ d = .bool (a == b)
theorem ok_same0 (F : Fun K "_law_same" "_law_same" s__law_same f fd) (T : Tx mg) : FnOk P w K mg base CX0 1 f fd ["got", "due"] (spR K R_same0) := by
  refine fn_r F sc__law_same (fun _ _ h => h.len) fun cdv A outer s H vs Q E ds d hr hv hR q => ?_
  obtain ⟨t, u, rfl, a, b, rfl, rfl, rfl⟩ := hR
  obtain ⟨v, y, rfl, dv, du⟩ := hv.get2
  refine wb_whenD (k := false) (Pt.is (pt_d (pd_isi2 "list" "tuple" T.isinstance T.list T.tuple (pd_v 1 rfl du))) rfl) (fun h => by cases h) fun _ H1 s1 => ?_
  refine wb_whenD (k := false) (Pt.is (pt_isN (pd_v 1 rfl (Dc.kept s1 du))) rfl) (fun h => by cases h) fun _ H2 s2 => ?_
  have s12 := s1.trans s2
  refine wb_whenD (k := true) (Pt.is (pt_d (pd_isi2 "bool" "str" T.isinstance T.bool T.str (pd_v 1 rfl (Dc.kept s12 du)))) rfl) (fun _ H3 s3 => ?_) (fun h => by cases h)
  have s13 := s12.trans s3
  have du3 := Dc.kept s13 du
  have dv3 := Dc.kept s13 dv
  refine wb_retD (d := .bool (true && (true && (a == b)))) (Pd.is (pd_andb (pd_eqB (pd_isi "bool" T.isinstance T.bool (pd_v 0 rfl dv3)) (pd_isi "bool" T.isinstance T.bool (pd_v 1 rfl du3))) fun _ => pd_andb (pd_eqB (pd_isi "str" T.isinstance T.str (pd_v 0 rfl dv3)) (pd_isi "str" T.isinstance T.str (pd_v 1 rfl du3))) fun _ => pd_one (pd_eqB (pd_v 0 rfl dv3) (pd_v 1 rfl du3))) ?_) fun v H4 s4 dv => q v H4 (s13.trans s4) ?_
  · cases a <;> cases b <;> rfl
  · rw [show (true && (true && (a == b))) = (a == b) by simp] at dv
    exact dv
abbrev R_same1 := R2D fun t u d => ∃ as bs : List Bool, t = .list (as.map .bool) ∧ u = .list (bs.map .bool) ∧ as.length = bs.length ∧ bs.length ≤ 1000 ∧ d = .bool (decide (as = bs))
theorem zip_bools : ∀ {as bs : List Bool} {n : Nat} {d1 d2 : Dt}, (zipD (as.map .bool) (bs.map .bool))[n]? = some (.tuple [d1, d2]) → ∃ a b, d1 = .bool a ∧ d2 = .bool b
  | [], _, _, _, _, h => by simp [zipD] at h
  | _ :: _, [], _, _, _, h => by simp [zipD] at h
  | a :: as, b :: bs, 0, d1, d2, h => by simp [zipD] at h; exact ⟨a, b, h.1.symm, h.2.symm⟩
  | a :: as, b :: bs, n + 1, d1, d2, h => zip_bools (as := as) (bs := bs) (n := n) (by simpa [zipD] using h)
theorem zip_pair {ds es : List Dt} : ∀ (n : Nat) d, (zipD ds es)[n]? = some d → ∃ d1 d2, d = .tuple [d1, d2] := fun n d h => by
  rw [zipD, List.getElem?_zipWith] at h
  cases h1 : ds[n]? <;> cases h2 : es[n]? <;> simp [h1, h2] at h
  exact ⟨_, _, h.symm⟩
def eqPair : Dt → Dt | .tuple [.bool a, .bool b] => .bool (a == b) | _ => .none
theorem zip_eqs : ∀ {as bs : List Bool}, as.length = bs.length → ∃ cs : List Bool, (zipD (as.map .bool) (bs.map .bool)).map eqPair = cs.map .bool ∧ cs.all id = decide (as = bs)
  | [], [], _ => ⟨[], rfl, rfl⟩
  | [], _ :: _, h => by simp at h
  | _ :: _, [], h => by simp at h
  | a :: as, b :: bs, h => by
    obtain ⟨cs, h1, h2⟩ := zip_eqs (as := as) (bs := bs) (by simpa using h)
    refine ⟨(a == b) :: cs, by simp only [zipD, List.map_cons, List.zipWith_cons_cons] at h1 ⊢; rw [h1]; rfl, ?_⟩
    rw [List.all_cons, h2]
    cases a <;> cases b <;> simp
theorem fz_eqPair {d : Dt} : fz (eqPair d) = true := by
  unfold eqPair
  split <;> rfl
theorem ok_same1 (F : Fun K "_law_same" "_law_same" s__law_same f fd) (T : Tx mg) (F1 : Df P w K mg base 1 "_law_same" R_same0) : FnOk P w K mg base CX0 2 f fd ["got", "due"] (spR K R_same1) := by
  refine fn_r F sc__law_same (fun _ _ h => h.len) fun cdv A outer s H vs Q E ds d hr hv hR q => ?_
  obtain ⟨t, u, rfl, as, bs, rfl, rfl, hl, hz, rfl⟩ := hR
  obtain ⟨v, y, rfl, dv, du⟩ := hv.get2
  refine wb_whenD (k := true) (Pt.is (pt_d (pd_isi2 "list" "tuple" T.isinstance T.list T.tuple (pd_v 1 rfl du))) rfl) (fun _ H1 s1 => ?_) (fun h => by cases h)
  have dv1 := Dc.kept s1 dv
  have du1 := Dc.kept s1 du
  refine wb_whenD (k := false) (Pt.is (pw_t (pw_o (pt_neB (pd_isi "list" T.isinstance T.list (pd_v 0 rfl dv1)) (pd_isi "list" T.isinstance T.list (pd_v 1 rfl du1))) fun _ => pw_o1 (pt_neB (pd_isi "tuple" T.isinstance T.tuple (pd_v 0 rfl dv1)) (pd_isi "tuple" T.isinstance T.tuple (pd_v 1 rfl du1))))) rfl) (fun h => by cases h) fun _ H2 s2 => ?_
  have s12 := s1.trans s2
  have dv2 := Dc.kept s12 dv
  have du2 := Dc.kept s12 du
  obtain ⟨cs, e1, e2⟩ := zip_eqs hl
  refine wb_retD (d := .bool (decide (as = bs))) (Pd.is (pd_andb (pd_eqI (pd_lenL T.len (pd_v 0 rfl dv2)) (pd_lenL T.len (pd_v 1 rfl du2))) fun _ => pd_one (pd_all (bs := cs) rfl T.all (Pd.is (pd_lcP 2 3 eqPair rfl sc__law_same.nd (pi_zip rfl T.zip pa_w) (src_zip (pa_c (pd_v 0 rfl dv2) (pa_c (pd_v 1 rfl du2) pa_n))) ?_ zip_pair
    (fun _ _ _ _ _ => pg_tup rfl (pgs_cons (pg_name (i := 2) sc__law_same.nd rfl (Or.inl rfl)) (pgs_cons (pg_name (i := 3) sc__law_same.nd rfl (Or.inl rfl)) pgs_nil))) (fun s H0 C cl fp n d1 d2 v1 v2 H1 hd sm dv1 dv2 => ?_) fun _ _ => fz_eqPair) (congrArg PyData.list e1)))) ?_) fun v H3 s3 dv => q v H3 (s12.trans s3) dv
  · simp [zipD]; omega
  · obtain ⟨a, b, rfl, rfl⟩ := zip_bools hd
    exact pd_call F1 hr (pa_c (pd_v 2 rfl dv1) (pa_c (pd_v 3 rfl dv2) pa_n)) ⟨_, _, rfl, a, b, rfl, rfl, rfl⟩
  · rw [e2]; simp [hl]
end
end Sp
namespace Sp
open PySem L2
theorem isLong_is {t : Dt} {n : Int} : isLong t n = (isIn "tuple" t && decide (((mem t).length : Int) = n)) := by
  cases t <;> rfl
theorem sh_member {xs : List Dt} {d : Dt} {i : Nat} (h : SeqAt.shaped (.tuple xs) = true) (m : xs[i]? = some d) : SeqAt.shaped d = true := sh_tuple h (List.mem_of_getElem? m)
/-- a written row's first questions, as the law asks them -/
def pairAsk (t : Dt) : Bool := !isIn "tuple" t || (!decide (((mem t).length : Int) = 2) || (!isNum (nth t 0) || (decide (intOf (nth t 0) < 0) || !isIn "tuple" (nth t 1))))
theorem pairAsk_is {t : Dt} : pairAsk t = (!isLong t 2 || (!isNum (nth t 0) || (decide (intOf (nth t 0) < 0) || !isIn "tuple" (nth t 1)))) := by
  rw [isLong_is, Bool.not_and, Bool.or_assoc]; rfl
section
variable {P : Program} {w : World} {K : PySem.W.Frag} {mg : Str → Option Value} {base : Heap} {f : Addr} {fd : FuncData}
section
variable {X : Cx} {σ : L2.St} {H : Hp} {p p1 p2 p3 p4 p5 p6 p7 p8 q1 q2 q3 q4 q5 q6 q7 q8 r1 r2 r3 r4 r5 r6 : Pos} {k1 k2 k3 k4 : Nat} {x : Str} {v : V} {t : Dt} {j : Nat}
theorem pw_pairAsk (T : Tx X.mg) (F1 : Df X.prog X.w X.K X.mg X.base 1 "_law_is_int" R_law_is_int) (hr : Room j X.A) (hj : 1 ≤ j) (h : ∀ pos, Pd X (.Name x pos) σ H t) (g1 : Gl X "isinstance" := by rfl) (g2 : Gl X "tuple" := by rfl) (g3 : Gl X "len" := by rfl) (g4 : Gl X "_law_is_int" := by rfl)
    (s1 : starEach [.Name x p1, .Name "tuple" p2] X.env = (false, eval (.Name x p1) X.env) :: starEach [.Name "tuple" p2] X.env := by rfl) (s2 : starEach [.Name x p5] X.env = (false, eval (.Name x p5) X.env) :: starEach [] X.env := by rfl)
    (s3 : starEach [.Subscript (.Name x p8) (.Constant (.int 0) k2 q1) q2] X.env = (false, eval (.Subscript (.Name x p8) (.Constant (.int 0) k2 q1) q2) X.env) :: starEach [] X.env := by rfl)
    (s4 : starEach [.Subscript (.Name x r1) (.Constant (.int 1) k4 r2) r3, .Name "tuple" r4] X.env = (false, eval (.Subscript (.Name x r1) (.Constant (.int 1) k4 r2) r3) X.env) :: starEach [.Name "tuple" r4] X.env := by rfl) {a1 a2 a3 a4 a5 a6 a7 a8 a9 b1 b2 b3 b4 b5 b6 b7 : Pos} {k5 : Nat} :
    Pt X (.BoolOp .Or [.UnaryOp .Not (.Call (.Name "isinstance" a1) [.Name x p1, .Name "tuple" p2] [] a2) a3, .Compare (.Call (.Name "len" a4) [.Name x p5] [] a5) [.NotEq] [.Constant (.int 2) k1 a6] a7,
      .UnaryOp .Not (.Call (.Name "_law_is_int" a8) [.Subscript (.Name x p8) (.Constant (.int 0) k2 q1) q2] [] a9) b1, .Compare (.Subscript (.Name x q3) (.Constant (.int 0) k3 q4) q5) [.Lt] [.Constant (.int 0) k5 b2] b3,
      .UnaryOp .Not (.Call (.Name "isinstance" b4) [.Subscript (.Name x r1) (.Constant (.int 1) k4 r2) r3, .Name "tuple" r4] [] b5) b6] b7) σ H (pairAsk t) := by
  have two : ∀ {t : Dt}, (!isIn "tuple" t) = false → (!decide (((mem t).length : Int) = 2)) = false → ∃ x y, t = .tuple [x, y] := fun {t} h1 h2 => by
    obtain ⟨xs, rfl⟩ := isTup ((Bool.not_eq_false' _).mp h1)
    obtain ⟨x, y, rfl⟩ := len2 (of_decide_eq_true ((Bool.not_eq_false' _).mp h2))
    exact ⟨x, y, rfl⟩
  refine pw_t (pw_o (pt_notD (pt_d (pd_isi "tuple" T.isinstance T.tuple (h _) (hg := g1) (hgT := g2) (he := s1)))) fun h1 => pw_o ?_ fun h2 => pw_o ?_ fun h3 => pw_o ?_ fun h4 => pw_o1 ?_)
  · obtain ⟨xs, rfl⟩ := isTup ((Bool.not_eq_false' _).mp h1)
    exact pt_neI (pd_lenT T.len (h _) g3 s2) pd_int
  · obtain ⟨x, y, rfl⟩ := two h1 h2
    exact pt_notD (pt_d (pd_call F1 hr (pa_c (pd_ixT (h _) pd_int at0) pa_n s3) ⟨x, rfl, rfl⟩ hj g4 (by decide) s3))
  · obtain ⟨x, y, rfl⟩ := two h1 h2
    obtain ⟨n, rfl⟩ := isNum_int (d := x) ((Bool.not_eq_false' _).mp h3)
    exact pt_lt (pd_ixT (h _) pd_int at0) pd_int
  · obtain ⟨x, y, rfl⟩ := two h1 h2
    exact pt_notD (pt_d (pd_isi "tuple" T.isinstance T.tuple (pd_ixT (h _) pd_int at1) (hg := g1) (hgT := g2) (he := s4)))
end
abbrev R_law_a_table := R1 fun t d => sm t = true ∧ SeqAt.shaped t = true ∧ d = .bool (isTable t)
theorem ok_law_a_table (F : Fun K "_law_a_table" "_law_a_table" s__law_a_table f fd) (T : Tx mg) (F1 : Df P w K mg base 1 "_law_is_int" R_law_is_int) (F2 : Df P w K mg base 2 "_law_row" R_law_row) : FnOk P w K mg base CX0 3 f fd ["thing_so"] (spR K R_law_a_table) := by
  refine fn_r F sc__law_a_table (fun _ _ h => h.len) fun cdv A outer s H vs Q E ds d hr hv hR q => ?_
  obtain ⟨t, rfl, hs, hsh, rfl⟩ := hR
  obtain ⟨v, rfl, dv⟩ := hv.get1
  refine wb_whenD (k := pairAsk t) (pw_pairAsk T F1 hr (by decide) fun _ => pd_v 0 rfl dv) (fun h H1 s1 => ?_) fun h H1 s1 => ?_
  · exact wb_retD (d := .bool false) pd_bool fun v H2 s2 dv => q v H2 (s1.trans s2) (by rw [isTable, pair_no (pairAsk_is ▸ h)]; exact dv)
  obtain ⟨n, xs, rfl, hn⟩ := pair_shape (pairAsk_is ▸ h)
  have dv1 := Dc.kept s1 dv
  have hsm := (sm_tuple hs).2 (.tuple xs) (by simp)
  have hsh' : SeqAt.shaped (.tuple xs) = true := sh_tuple hsh (by simp)
  have hz := (sm_tuple hsm).1
  rw [show isTable (.tuple [.int n, .tuple xs]) = xs.all (fun r => areNums r && decide (((mem r).length : Int) = n)) by
    show (true && (true && (!decide (n < 0) && (true && xs.all _)))) = _
    rw [hn]; simp; rfl] at q
  refine wb_retD (d := .bool (xs.all (fun r => areNums r && decide (((mem r).length : Int) = n)))) (Pd.is (pd_eqD hr.units (pd_lcI (ds := xs) 1 (fun r => !areNums r || !decide (((mem r).length : Int) = n)) rfl sc__law_a_table.nd (pi_tup pe_w) (src0_tup (pd_ixT (pd_v 0 rfl dv1) pd_int at1)) (by omega) (fun s H0 C cl fp i d v H2 hd sm2 dv2 => ?_) (Nat.lt_of_lt_of_eq (by decide : 1 < 2) rfl)) (pd_lst pa_n) (sh_filter hsh') sh_nilL) ?_) fun v H2 s2 dv => q v H2 (s1.trans s2) dv
  · refine pw_t (pw_o (pt_notD (pt_d (pd_call F2 hr (pa_c (pd_v 1 rfl dv2) pa_n) ⟨d, rfl, (sm_tuple hsm).2 d (List.mem_of_getElem? hd), sh_member hsh' hd, rfl⟩))) fun ha => pw_o1 ?_)
    obtain ⟨ys, rfl⟩ := areNums_tup ((Bool.not_eq_false' _).mp ha)
    exact pt_neI (pd_lenT T.len (pd_v 1 rfl dv2)) (pd_ixT (pd_v 0 rfl (Dc.kept sm2 dv1)) pd_int at0)
  · rw [eqv_nilL, filter_nil]
    simp
abbrev R_law_a_given := R1 fun t d => sm t = true ∧ SeqAt.shaped t = true ∧ d = .bool (isGiven t)
theorem ints_of {xs : List Dt} (h : areNums (.tuple xs) = true) : ∃ ns : List Int, xs = ns.map .int := by
  have := areNums_map h
  injection this with e
  exact ⟨_, e⟩
theorem sh_ints {xs : List Int} {fl : Dt → Bool} : SeqAt.shaped (.list ((xs.map PyData.int).filter fl)) = true := sh_filter sh_tupI
theorem ok_law_a_given (F : Fun K "_law_a_given" "_law_a_given" s__law_a_given f fd) (T : Tx mg) (F1 : Df P w K mg base 1 "_law_is_int" R_law_is_int) (F2 : Df P w K mg base 2 "_law_row" R_law_row) : FnOk P w K mg base CX0 3 f fd ["thing_so"] (spR K R_law_a_given) := by
  refine fn_r F sc__law_a_given (fun _ _ h => h.len) fun cdv A outer s H vs Q E ds d hr hv hR q => ?_
  obtain ⟨t, rfl, hs, hsh, rfl⟩ := hR
  obtain ⟨v, rfl, dv⟩ := hv.get1
  refine wb_whenD (k := pairAsk t) (pw_pairAsk T F1 hr (by decide) fun _ => pd_v 0 rfl dv) (fun h H1 s1 => ?_) fun h H1 s1 => ?_
  · exact wb_retD (d := .bool false) pd_bool fun v H2 s2 dv => q v H2 (s1.trans s2) (by rw [isGiven, pair_no (pairAsk_is ▸ h)]; exact dv)
  obtain ⟨n, xs, rfl, hn⟩ := pair_shape (pairAsk_is ▸ h)
  have dv1 := Dc.kept s1 dv
  have hsm := (sm_tuple hs).2 (.tuple xs) (by simp)
  have hsh' : SeqAt.shaped (.tuple xs) = true := sh_tuple hsh (by simp)
  have hz := (sm_tuple hsm).1
  rw [show isGiven (.tuple [.int n, .tuple xs]) = xs.all (isWord n) by
    show (true && (true && (!decide (n < 0) && (true && xs.all (isWord n))))) = _
    rw [hn]; simp] at q
  refine wb_retD (d := .bool (xs.all (isWord n))) (Pd.is (pd_eqD hr.units (pd_lcI (ds := xs) 1 (fun r => !areNums r || !((mem r).all fun d => decide (1 ≤ absI (intOf d)) && decide (absI (intOf d) ≤ n))) rfl sc__law_a_given.nd (pi_tup pe_w) (src0_tup (pd_ixT (pd_v 0 rfl dv1) pd_int at1)) (by omega) (fun s H0 C cl fp i d v H2 hd sm2 dv2 => ?_) (Nat.lt_of_lt_of_eq (by decide : 1 < 3) rfl)) (pd_lst pa_n) (sh_filter hsh') sh_nilL) ?_) fun v H2 s2 dv => q v H2 (s1.trans s2) dv
  · refine pw_t (pw_o (pt_notD (pt_d (pd_call F2 hr (pa_c (pd_v 1 rfl dv2) pa_n) ⟨d, rfl, (sm_tuple hsm).2 d (List.mem_of_getElem? hd), sh_member hsh' hd, rfl⟩))) fun ha => pw_o1 ?_)
    have ha := (Bool.not_eq_false' _).mp ha
    obtain ⟨ys, rfl⟩ := areNums_tup ha
    obtain ⟨ns, rfl⟩ := ints_of ha
    have hz2 := (sm_tuple ((sm_tuple hsm).2 _ (List.mem_of_getElem? hd))).1
    refine Pt.is (pt_neD hr.units (pd_lcI (ds := ns.map .int) 2 (fun d => !(decide (1 ≤ absI (intOf d)) && decide (absI (intOf d) ≤ n))) rfl sc__law_a_given.nd (pi_tup pe_w) (src0_tup (pd_v 1 rfl dv2)) (by omega) (fun s H0 C cl fp i d v H3 hd3 sm3 dv3 => ?_) (Nat.lt_of_lt_of_eq (by decide : 2 < 3) rfl)) (pd_lst pa_n) sh_ints sh_nilL) ?_
    · obtain ⟨m, rfl⟩ := isNum_int (isNum_nums ha (List.mem_of_getElem? hd3))
      exact pt_notD (pt_chainD (f := fun i j => decide (i ≤ j)) (g := fun i j => decide (i ≤ j)) op_le op_le pd_int (pd_abs T.abs (pd_v 2 rfl dv3)) fun _ => pd_ixT (pd_v 0 rfl (Dc.kept (sm2.trans sm3) dv1)) pd_int at0)
    · rw [eqv_nilL, filter_nil]
      simp [mem]
  · rw [eqv_nilL, filter_nil]
    simp only [Bool.not_or, Bool.not_not]
    rfl
abbrev R_law_some_discs := R1 fun t d => sm t = true ∧ SeqAt.shaped t = true ∧ d = .bool (isDiscs t)
theorem within_all {b : Dt} : (isLong b 7 && (mem b).all fun x => within x 0 1000000) = (areNums b && (decide (((mem b).length : Int) = 7) && (mem b).all fun x => decide (0 ≤ intOf x) && decide (intOf x ≤ 1000000))) := by
  cases b with
  | tuple xs =>
    show (decide ((xs.length : Int) = 7) && xs.all fun x => within x 0 1000000) = (xs.all isNum && (decide ((xs.length : Int) = 7) && xs.all fun x => decide (0 ≤ intOf x) && decide (intOf x ≤ 1000000)))
    have key : (xs.all fun x => within x 0 1000000) = (xs.all isNum && xs.all fun x => decide (0 ≤ intOf x) && decide (intOf x ≤ 1000000)) := by
      induction xs with
      | nil => rfl
      | cons x xs ih =>
        simp only [List.all_cons]
        rw [ih]
        generalize xs.all isNum = A
        generalize (xs.all fun x => decide (0 ≤ intOf x) && decide (intOf x ≤ 1000000)) = B
        cases x <;> cases A <;> cases B <;> first | rfl | (simp [within, isNum, intOf]; done) | (simp [within, isNum, intOf]; rfl)
    rw [key]
    cases decide ((xs.length : Int) = 7) <;> cases xs.all isNum <;> rfl
  | _ => rfl
theorem all_and {α : Type} {xs : List α} {p q : α → Bool} : (xs.all p && xs.all q) = xs.all fun x => p x && q x := by
  induction xs with
  | nil => rfl
  | cons x xs ih => simp only [List.all_cons]; rw [← ih]; cases p x <;> cases q x <;> simp
theorem ok_law_some_discs (F : Fun K "_law_some_discs" "_law_some_discs" s__law_some_discs f fd) (T : Tx mg) (F2 : Df P w K mg base 2 "_law_row" R_law_row) : FnOk P w K mg base CX0 3 f fd ["thing_so"] (spR K R_law_some_discs) := by
  refine fn_r F sc__law_some_discs (fun _ _ h => h.len) fun cdv A outer s H vs Q E ds d hr hv hR q => ?_
  obtain ⟨t, rfl, hs, hsh, rfl⟩ := hR
  obtain ⟨v, rfl, dv⟩ := hv.get1
  refine wb_whenD (k := (!isIn "tuple" t) || !(decide (1 ≤ ((mem t).length : Int)) && decide (((mem t).length : Int) ≤ 40))) (pw_t (pw_o (pt_notD (pt_d (pd_isi "tuple" T.isinstance T.tuple (pd_v 0 rfl dv)))) fun h => pw_o1 ?_)) (fun h H1 s1 => ?_) fun h H1 s1 => ?_
  · obtain ⟨xs, rfl⟩ := isTup ((Bool.not_eq_false' _).mp h)
    exact pt_notD (pt_chainD (f := fun i j => decide (i ≤ j)) (g := fun i j => decide (i ≤ j)) op_le op_le pd_int (pd_lenT T.len (pd_v 0 rfl dv)) fun _ => pd_int)
  · refine wb_retD (d := .bool false) pd_bool fun v H2 s2 dv => q v H2 (s1.trans s2) ?_
    have : isDiscs t = false := by
      cases t with
      | tuple bs =>
        rw [show (!isIn "tuple" (.tuple bs)) = false from rfl, Bool.false_or] at h
        show (_ && _) = false
        rw [show (decide (1 ≤ (bs.length : Int)) && decide ((bs.length : Int) ≤ 40)) = false from (Bool.not_eq_true' _).mp h, Bool.false_and]
      | _ => rfl
    rw [this]
    exact dv
  obtain ⟨h1, h2⟩ := Bool.or_eq_false_iff.mp h
  obtain ⟨bs, rfl⟩ := isTup ((Bool.not_eq_false' _).mp h1)
  have h2 : (decide (1 ≤ (bs.length : Int)) && decide ((bs.length : Int) ≤ 40)) = true := (Bool.not_eq_false' _).mp h2
  have dv1 := Dc.kept s1 dv
  have hz := (sm_tuple hs).1
  rw [show isDiscs (.tuple bs) = bs.all (fun b => areNums b && (decide (((mem b).length : Int) = 7) && (mem b).all fun x => decide (0 ≤ intOf x) && decide (intOf x ≤ 1000000))) by
    rw [isDiscs, h2, Bool.true_and, all_and]
    exact congrArg _ (funext fun b => within_all)] at q
  refine wb_retD (d := .bool (bs.all (fun b => areNums b && (decide (((mem b).length : Int) = 7) && (mem b).all fun x => decide (0 ≤ intOf x) && decide (intOf x ≤ 1000000))))) (Pd.is (pd_eqD hr.units (pd_lcI (ds := bs) 1 (fun b => !areNums b || (!decide (((mem b).length : Int) = 7) || !((mem b).all fun x => decide (0 ≤ intOf x) && decide (intOf x ≤ 1000000)))) rfl sc__law_some_discs.nd (pi_tup pe_w) (src0_tup (pd_v 0 rfl dv1)) (by omega) (fun s H0 C cl fp i d v H2 hd sm2 dv2 => ?_) (Nat.lt_of_lt_of_eq (by decide : 1 < 3) rfl)) (pd_lst pa_n) (sh_filter hsh) sh_nilL) ?_) fun v H2 s2 dv => q v H2 (s1.trans s2) dv
  · have hd' := (sm_tuple hs).2 d (List.mem_of_getElem? hd)
    refine pw_t (pw_o (pt_notD (pt_d (pd_call F2 hr (pa_c (pd_v 1 rfl dv2) pa_n) ⟨d, rfl, hd', sh_member hsh hd, rfl⟩))) fun ha => pw_o ?_ fun hl => pw_o1 ?_)
    · obtain ⟨ys, rfl⟩ := areNums_tup ((Bool.not_eq_false' _).mp ha)
      exact pt_neI (pd_lenT T.len (pd_v 1 rfl dv2)) pd_int
    have ha := (Bool.not_eq_false' _).mp ha
    obtain ⟨ys, rfl⟩ := areNums_tup ha
    obtain ⟨ns, rfl⟩ := ints_of ha
    have hz2 := (sm_tuple hd').1
    refine Pt.is (pt_neD hr.units (pd_lcI (ds := ns.map .int) 2 (fun x => !(decide (0 ≤ intOf x) && decide (intOf x ≤ 1000000))) rfl sc__law_some_discs.nd (pi_tup pe_w) (src0_tup (pd_v 1 rfl dv2)) (by omega) (fun s H0 C cl fp i d v H3 hd3 sm3 dv3 => ?_) (Nat.lt_of_lt_of_eq (by decide : 2 < 3) rfl)) (pd_lst pa_n) sh_ints sh_nilL) ?_
    · obtain ⟨m, rfl⟩ := isNum_int (isNum_nums ha (List.mem_of_getElem? hd3))
      exact pt_notD (pt_chainD (f := fun i j => decide (i ≤ j)) (g := fun i j => decide (i ≤ j)) op_le op_le pd_int (pd_v 2 rfl dv3) fun _ => pd_pow pd_int pd_int (by unfold CPow; decide))
    · rw [eqv_nilL, filter_nil]
      simp [mem]
  · rw [eqv_nilL, filter_nil]
    simp only [Bool.not_or, Bool.not_not]
end
end Sp
namespace Sp
open PySem L2
/-! ### surfaces, as the law judges them -/
def lawSide (bs : List Dt) (f s : Nat) (own : Dt) : Bool :=
  isNo own || ((areNums own && (decide (((mem own).length : Int) = 3) && (decide (intOf (nth own 2) ∈ [(1 : Int), -1]) && ((decide (0 ≤ intOf (nth own 0)) && decide (intOf (nth own 0) < (bs.length : Int))) && (decide (0 ≤ intOf (nth own 1)) && decide (intOf (nth own 1) < ((mem (bs.getD (intOf (nth own 0)).toNat .none)).length : Int))))))) &&
    (!decide ([intOf (nth own 0), intOf (nth own 1)] = [(f : Int), (s : Int)]) && (PyData.eqv (nth (bs.getD (intOf (nth own 0)).toNat .none) (intOf (nth own 1)).toNat) (.tuple [.int (f : Int), .int (s : Int), .int (intOf (nth own 2))]) && areNums (nth (bs.getD (intOf (nth own 0)).toNat .none) (intOf (nth own 1)).toNat))))
theorem lawSide_shape {d : Dt} (h1 : areNums d = true) (h2 : decide (((mem d).length : Int) = 3) = true) : ∃ a b c, d = .tuple [.int a, .int b, .int c] := by
  obtain ⟨xs, rfl⟩ := areNums_tup h1
  obtain ⟨x, y, z, rfl⟩ := len3 (of_decide_eq_true h2)
  obtain ⟨a, rfl⟩ := isNum_int (isNum_nums h1 (d := x) (by simp))
  obtain ⟨b, rfl⟩ := isNum_int (isNum_nums h1 (d := y) (by simp))
  obtain ⟨c, rfl⟩ := isNum_int (isNum_nums h1 (d := z) (by simp))
  exact ⟨a, b, c, rfl⟩
theorem isSide_three {a b c : Int} : isSide (.tuple [.int a, .int b, .int c]) = decide (c ∈ [(1 : Int), -1]) := by
  show (false || (decide (((3 : Nat) : Int) = 3) && (true && decide (c ∈ [(1 : Int), -1])))) = _
  simp
theorem within_int {i lo hi : Int} : within (.int i) lo hi = (decide (lo ≤ i) && decide (i ≤ hi)) := rfl
theorem side_three {bs : List Dt} {f s : Nat} {a b c : Int} : (isSide (.tuple [.int a, .int b, .int c]) && surfOk bs f s (.tuple [.int a, .int b, .int c])) = true ↔ (c ∈ [(1 : Int), -1] ∧ (0 ≤ a ∧ a < bs.length) ∧ (0 ≤ b ∧ b < (mem (bs.getD a.toNat .none)).length) ∧ [a, b] ≠ [(f : Int), (s : Int)] ∧
    PyData.eqv (nth (bs.getD a.toNat .none) b.toNat) (.tuple [.int (f : Int), .int (s : Int), .int c]) = true) := by
  rw [isSide_three, show surfOk bs f s (.tuple [.int a, .int b, .int c]) = ((within (.int a) 0 ((bs.length : Int) - 1) && within (.int b) 0 (((mem (bs.getD a.toNat .none)).length : Int) - 1)) &&
        (!decide ([a, b] = [(f : Int), (s : Int)]) && PyData.eqv (nth (bs.getD a.toNat .none) b.toNat) (.tuple [.int (f : Int), .int (s : Int), .int c]))) from rfl, within_int, within_int]
  simp only [Bool.and_eq_true, decide_eq_true_eq, Bool.not_eq_true', decide_eq_false_iff_not]
  constructor
  · rintro ⟨h1, ⟨⟨h2, h3⟩, h4, h5⟩, h6, h7⟩; exact ⟨h1, ⟨h2, by omega⟩, ⟨h4, by omega⟩, h6, h7⟩
  · rintro ⟨h1, ⟨h2, h3⟩, ⟨h4, h5⟩, h6, h7⟩; exact ⟨h1, ⟨⟨h2, by omega⟩, h4, by omega⟩, h6, h7⟩
theorem law_three {bs : List Dt} {f s : Nat} {a b c : Int} : lawSide bs f s (.tuple [.int a, .int b, .int c]) = true ↔ (c ∈ [(1 : Int), -1] ∧ (0 ≤ a ∧ a < bs.length) ∧ (0 ≤ b ∧ b < (mem (bs.getD a.toNat .none)).length) ∧ [a, b] ≠ [(f : Int), (s : Int)] ∧
    PyData.eqv (nth (bs.getD a.toNat .none) b.toNat) (.tuple [.int (f : Int), .int (s : Int), .int c]) = true ∧ areNums (nth (bs.getD a.toNat .none) b.toNat) = true) := by
  rw [show lawSide bs f s (.tuple [.int a, .int b, .int c]) = ((true && (decide (((3 : Nat) : Int) = 3) && (decide (c ∈ [(1 : Int), -1]) && ((decide (0 ≤ a) && decide (a < (bs.length : Int))) && (decide (0 ≤ b) && decide (b < ((mem (bs.getD a.toNat .none)).length : Int))))))) &&
        (!decide ([a, b] = [(f : Int), (s : Int)]) && (PyData.eqv (nth (bs.getD a.toNat .none) b.toNat) (.tuple [.int (f : Int), .int (s : Int), .int c]) && areNums (nth (bs.getD a.toNat .none) b.toNat)))) from rfl]
  simp only [Bool.and_eq_true, decide_eq_true_eq, Bool.not_eq_true', decide_eq_false_iff_not, Bool.true_and]
  constructor
  · rintro ⟨⟨_, h1, h2, h3⟩, h4, h5, h6⟩; exact ⟨h1, h2, h3, h4, h5, h6⟩
  · rintro ⟨h1, h2, h3, h4, h5, h6⟩; exact ⟨⟨by decide, h1, h2, h3⟩, h4, h5, h6⟩
theorem eqv_no {d : Dt} {xs : List Dt} (h : PyData.eqv d (.tuple xs) = true) : isNo d = false := by
  cases d <;> first | rfl | (simp [PyData.eqv] at h)
theorem okAll_surf {bs : List Dt} (hrow : ∀ b ∈ bs, isIn "tuple" b = true) : okAll bs (sideAt bs) = okAll bs fun f s => lawSide bs f s (nth (bs.getD f .none) s) := by
  rw [Bool.eq_iff_iff]
  constructor
  · intro h
    refine okAll_true fun f s hf hs => ?_
    have hfs := okAll_get h hf hs
    have h' := Bool.and_eq_true_iff.mp hfs
    cases hn : isNo (nth (bs.getD f .none) s) with
    | true => rw [lawSide, hn, Bool.true_or]
    | false =>
      obtain ⟨a, b, c, e, hc⟩ := side_shape h'.1 hn
      rw [sideAt, e] at hfs
      obtain ⟨g1, ⟨g2, g3⟩, ⟨g4, g5⟩, g6, g7⟩ := side_three.mp hfs
      rw [e]
      refine law_three.mpr ⟨g1, ⟨g2, g3⟩, ⟨g4, g5⟩, g6, g7, ?_⟩
      have hp := (Bool.and_eq_true_iff.mp (okAll_get h (f := a.toNat) (s := b.toNat) (by omega) (by omega))).1
      obtain ⟨a', b', c', e', _⟩ := side_shape hp (eqv_no g7)
      rw [e']
      rfl
  · intro h
    refine okAll_true fun f s hf hs => ?_
    have hfs := okAll_get h hf hs
    rw [sideAt]
    cases hn : isNo (nth (bs.getD f .none) s) with
    | true => rw [isSide, surfOk, hn]; rfl
    | false =>
      have h' := hfs
      rw [lawSide, hn, Bool.false_or, Bool.and_eq_true, Bool.and_eq_true, Bool.and_eq_true] at h'
      obtain ⟨a, b, c, e⟩ := lawSide_shape h'.1.1 h'.1.2.1
      rw [e] at hfs ⊢
      obtain ⟨g1, g2, g3, g4, g5, _⟩ := law_three.mp hfs
      exact side_three.mpr ⟨g1, g2, g3, g4, g5⟩
section
variable {P : Program} {w : World} {K : PySem.W.Frag} {mg : Str → Option Value} {base : Heap} {f : Addr} {fd : FuncData}
abbrev R_law_a_surface := R1 fun t d => sm t = true ∧ SeqAt.shaped t = true ∧ d = .bool (isSurface t)
theorem ok_law_a_surface (F : Fun K "_law_a_surface" "_law_a_surface" s__law_a_surface f fd) (T : Tx mg) (F2 : Df P w K mg base 2 "_law_row" R_law_row) : FnOk P w K mg base CX0 3 f fd ["thing_so"] (spR K R_law_a_surface) := by
  refine fn_r F sc__law_a_surface (fun _ _ h => h.len) fun cdv A outer s H vs Q E ds d hr hv hR q => ?_
  obtain ⟨t, rfl, hs, hsh, rfl⟩ := hR
  obtain ⟨v, rfl, dv⟩ := hv.get1
  have hfl : ∀ b : Dt, (!(!isIn "tuple" b || decide (((mem b).length : Int) < 3))) = (isIn "tuple" b && decide ((2 : Int) < (mem b).length)) := fun b => by
    rw [Bool.not_or, Bool.not_not, ← decide_not]
    congr 1
    exact decide_eq_decide.mpr ⟨fun h => by omega, fun h => by omega⟩
  refine wb_whenD (k := (!isIn "tuple" t) || !((mem t).all (fun b => isIn "tuple" b && decide ((2 : Int) < (mem b).length)))) (pw_t (pw_o (pt_notD (pt_d (pd_isi "tuple" T.isinstance T.tuple (pd_v 0 rfl dv)))) fun h => pw_o1 ?_)) (fun h H1 s1 => ?_) fun h H1 s1 => ?_
  · obtain ⟨xs, rfl⟩ := isTup ((Bool.not_eq_false' _).mp h)
    have hz := (sm_tuple hs).1
    refine Pt.is (pt_neD hr.units (pd_lcI (ds := xs) 1 (fun b => !isIn "tuple" b || decide (((mem b).length : Int) < 3)) rfl sc__law_a_surface.nd (pi_tup pe_w) (src0_tup (pd_v 0 rfl dv)) (by omega) (fun s H0 C cl fp i d v H2 hd sm2 dv2 => ?_) (Nat.lt_of_lt_of_eq (by decide : 1 < 5) rfl)) (pd_lst pa_n) (sh_filter hsh) sh_nilL) ?_
    · refine pw_t (pw_o (pt_notD (pt_d (pd_isi "tuple" T.isinstance T.tuple (pd_v 1 rfl dv2)))) fun ha => pw_o1 ?_)
      obtain ⟨ys, rfl⟩ := isTup ((Bool.not_eq_false' _).mp ha)
      exact pt_lt (pd_lenT T.len (pd_v 1 rfl dv2)) pd_int
    · rw [eqv_nilL, filter_nil]
      exact congrArg (fun g => !(List.all xs g)) (funext hfl)
  · refine wb_retD (d := .bool false) pd_bool fun v H2 s2 dv => q v H2 (s1.trans s2) ?_
    have : isSurface t = false := by
      cases t with
      | tuple bs =>
        rw [show (!isIn "tuple" (.tuple bs)) = false from rfl, Bool.false_or] at h
        have h' := (Bool.not_eq_true' _).mp h
        show (_ && _) = false
        rw [show bs.all (fun b => isIn "tuple" b && decide ((2 : Int) < (mem b).length)) = false from h', Bool.false_and]
      | _ => rfl
    rw [this]
    exact dv
  obtain ⟨h1, h2⟩ := Bool.or_eq_false_iff.mp h
  obtain ⟨bs, rfl⟩ := isTup ((Bool.not_eq_false' _).mp h1)
  have h2 : bs.all (fun b => isIn "tuple" b && decide ((2 : Int) < (mem b).length)) = true := (Bool.not_eq_false' _).mp h2
  have dv1 := Dc.kept s1 dv
  have hsm := (sm_tuple hs).2
  have hrow : ∀ b ∈ bs, isIn "tuple" b = true := fun b hb => (Bool.and_eq_true_iff.mp (List.all_eq_true.mp h2 b hb)).1
  rw [show isSurface (.tuple bs) = okAll bs fun f s => lawSide bs f s (nth (bs.getD f .none) s) by rw [isSurface, h2, Bool.true_and, okAll_surf hrow]] at q
  refine wb_grid (i := 2) (j := 3) (fun f s => lawSide bs f s (nth (bs.getD f .none) s)) (.inl ⟨rfl, rfl⟩) T.enumerate dv1 hrow rfl rfl
    (pg_tup rfl (pgs_cons (pg_name (i := 2) sc__law_a_surface.nd rfl (Or.inl rfl)) (pgs_cons (pg_name (i := 3) sc__law_a_surface.nd rfl (Or.inl rfl)) pgs_nil)))
    (pg_tup rfl (pgs_cons (pg_name (i := 4) sc__law_a_surface.nd rfl (Or.inl rfl)) (pgs_cons (pg_name (i := 1) sc__law_a_surface.nd rfl (Or.inl rfl)) pgs_nil))) ?_ ?_
  · intro D' g r σ1 H2 vs vo hrt hg hr' hprev s2 hl5 five dvs dvo hok
    have hb : bs.getD g .none ∈ bs := getD_mem hg
    have hown : sm (nth (bs.getD g .none) r) = true := sm_nth (hsm _ hb)
    have hosh : SeqAt.shaped (nth (bs.getD g .none) r) = true := sh_nth (sh_tuple hsh hb)
    have dvo : Dc _ H2 vo (nth (bs.getD g .none) r) := dvo
    have s12 := s1.trans s2
    have no : ∀ {H3 : Hp}, Same H2 H3 → lawSide bs g r (nth (bs.getD g .none) r) = false → ∀ v H4, Same H3 H4 → Dc K H4 v (.bool false) → D'.rt v H4 := fun {H3} s3 hbad v H4 s4 dv => by
      rw [hrt]
      exact q v H4 ((s12.trans s3).trans s4) (by rw [okAll_false (ok := fun f s => lawSide bs f s (nth (bs.getD f .none) s)) hg hr' hbad]; exact dv)
    have hok : lawSide bs g r (nth (bs.getD g .none) r) = true → ∀ H', Same H2 H' → D'.nx σ1 H' := hok
    generalize hown' : nth (bs.getD g .none) r = own at *
    refine wb_whenD (k := !isNo own) (pt_notN (pd_v 1 five.at1 dvo)) (fun h4 H4 s4 => ?_) fun h4 H4 s4 => ?_
    · have h4 := (Bool.not_eq_true' _).mp h4
      have dv4 := Dc.kept (s2.trans s4) dv1
      have dvo4 := Dc.kept s4 dvo
      let A1 : Bool := decide (0 ≤ intOf (nth own 0)) && decide (intOf (nth own 0) < (bs.length : Int))
      let A2 : Bool := decide (0 ≤ intOf (nth own 1)) && decide (intOf (nth own 1) < ((mem (bs.getD (intOf (nth own 0)).toNat .none)).length : Int))
      refine wb_whenD (k := !areNums own || (!decide (((mem own).length : Int) = 3) || (!decide (intOf (nth own 2) ∈ [(1 : Int), -1]) || (!A1 || !A2)))) (pw_t (pw_o
        (pt_notD (pt_d (pd_call F2 hr (pa_c (pd_v 1 five.at1 dvo4) pa_n) ⟨_, rfl, hown, hosh, rfl⟩))) fun g1 => pw_o ?_ fun g2 => pw_o ?_ fun g3 => pw_o ?_ fun g4 => pw_o1 ?_)) (fun h5 H5 s5 => ?_) fun h5 H5 s5 => ?_
      · obtain ⟨xs, rfl⟩ := areNums_tup ((Bool.not_eq_false' _).mp g1)
        exact pt_neI (pd_lenT T.len (pd_v 1 five.at1 dvo4)) pd_int
      · obtain ⟨a, b, c, rfl⟩ := lawSide_shape ((Bool.not_eq_false' _).mp g1) ((Bool.not_eq_false' _).mp g2)
        exact pt_ninI (pd_ixT (pd_v 1 five.at1 dvo4) pd_int at2) pd_signs
      · obtain ⟨a, b, c, rfl⟩ := lawSide_shape ((Bool.not_eq_false' _).mp g1) ((Bool.not_eq_false' _).mp g2)
        exact pt_notD (pt_chainD (f := fun i j => decide (i ≤ j)) (g := fun i j => decide (i < j)) op_le op_lt pd_int (pd_ixT (pd_v 1 five.at1 dvo4) pd_int at0) fun _ => pd_lenT T.len (pd_v 0 five.at0 dv4))
      · obtain ⟨a, b, c, rfl⟩ := lawSide_shape ((Bool.not_eq_false' _).mp g1) ((Bool.not_eq_false' _).mp g2)
        obtain ⟨ha0, ha1⟩ := Bool.and_eq_true_iff.mp ((Bool.not_eq_false' _).mp g4)
        have ha0 : 0 ≤ a := of_decide_eq_true ha0
        have ha1 : a < (bs.length : Int) := of_decide_eq_true ha1
        have ham : bs.getD a.toNat .none ∈ bs := getD_mem (by omega)
        obtain ⟨ys, ey⟩ := isTup (hrow _ ham)
        exact pt_notD (pt_chainD (f := fun i j => decide (i ≤ j)) (g := fun i j => decide (i < j)) op_le op_lt pd_int (pd_ixT (pd_v 1 five.at1 dvo4) pd_int at1) fun _ => pd_lenT (ds := mem (bs.getD a.toNat .none)) T.len (Pd.is (pd_ixT (pd_v 0 five.at0 dv4) (pd_ixT (pd_v 1 five.at1 dvo4) pd_int at0) (atI_n ha0 (by omega))) (by rw [ey]; rfl)))
      · refine wb_retD (d := .bool false) pd_bool (no (s4.trans s5) ?_)
        rw [lawSide, h4, Bool.false_or]
        have : (areNums own && (decide (((mem own).length : Int) = 3) && (decide (intOf (nth own 2) ∈ [(1 : Int), -1]) && (A1 && A2)))) = false := by
          have := h5
          generalize areNums own = B1 at this ⊢
          generalize decide (((mem own).length : Int) = 3) = B2 at this ⊢
          generalize decide (intOf (nth own 2) ∈ [(1 : Int), -1]) = B3 at this ⊢
          generalize A1 = B4 at this ⊢
          generalize A2 = B5 at this ⊢
          cases B1 <;> cases B2 <;> cases B3 <;> cases B4 <;> cases B5 <;> first | rfl | cases this
        exact (congrArg (fun z => z && _) this).trans (Bool.false_and _)
      obtain ⟨g1, g2⟩ := Bool.or_eq_false_iff.mp h5
      obtain ⟨g2, g3⟩ := Bool.or_eq_false_iff.mp g2
      obtain ⟨g3, g4⟩ := Bool.or_eq_false_iff.mp g3
      obtain ⟨g4, g5⟩ := Bool.or_eq_false_iff.mp g4
      obtain ⟨a, b, c, rfl⟩ := lawSide_shape ((Bool.not_eq_false' _).mp g1) ((Bool.not_eq_false' _).mp g2)
      obtain ⟨ha0, ha1⟩ := Bool.and_eq_true_iff.mp ((Bool.not_eq_false' _).mp g4)
      obtain ⟨hb0, hb1⟩ := Bool.and_eq_true_iff.mp ((Bool.not_eq_false' _).mp g5)
      have ha0 : 0 ≤ a := of_decide_eq_true ha0
      have ha1 : a < (bs.length : Int) := of_decide_eq_true ha1
      have hb0 : 0 ≤ b := of_decide_eq_true hb0
      have hb1 : b < ((mem (bs.getD a.toNat .none)).length : Int) := of_decide_eq_true hb1
      have hc : c ∈ [(1 : Int), -1] := of_decide_eq_true ((Bool.not_eq_false' _).mp g3)
      have ham : bs.getD a.toNat .none ∈ bs := getD_mem (by omega)
      obtain ⟨ys, ey⟩ := isTup (hrow _ ham)
      have s45 := s4.trans s5
      have dv5 := Dc.kept s5 dv4
      have dvo5 := Dc.kept s5 dvo4
      have part : ∀ {p1 p2 p3 p4 p5 p6 p7 p8 p9 : Pos} {k1 k2 : Nat}, Pd (cxOf CX0 P w K mg base n__law_a_surface "_law_a_surface" (defScope s__law_a_surface) f cdv A outer s H E).nox (.Subscript (.Subscript (.Name "thing_so" p1) (.Subscript (.Name "own" p2) (.Constant (.int 0) k1 p3) p4) p5) (.Subscript (.Name "own" p6) (.Constant (.int 1) k2 p7) p8) p9) σ1 H5 (nth (bs.getD a.toNat .none) b.toNat) :=
        pd_ixT (ds := mem (bs.getD a.toNat .none)) (Pd.is (pd_ixT (pd_v 0 five.at0 dv5) (pd_ixT (pd_v 1 five.at1 dvo5) pd_int at0) (atI_n ha0 (by omega))) (by rw [ey]; rfl)) (pd_ixT (pd_v 1 five.at1 dvo5) pd_int at1) (atI_n hb0 hb1)
      refine wb_whenD (k := decide ([a, b] = [(g : Int), (r : Int)]) || (!PyData.eqv (nth (bs.getD a.toNat .none) b.toNat) (.tuple [.int (g : Int), .int (r : Int), .int c]) || !areNums (nth (bs.getD a.toNat .none) b.toNat))) (pw_t (pw_o
        ((pt_eqD hr.units (Pd.is (pd_slT (pd_v 1 five.at1 dvo5) po_n (po_s (i := 2) pd_int)) (congrArg PyData.tuple cut2)) (pd_tup (pa_c (pd_v 2 five.ati (.int _)) (pa_c (pd_v 4 five.at4 (.int _)) pa_n))) (sh_tupI (xs := [a, b])) (sh_tupI (xs := [(g : Int), (r : Int)]))).is ?_) fun hw => pw_o ?_ fun hw2 => pw_o1 ?_)) (fun h6 H6 s6 => ?_) fun h6 H6 s6 => ?_
      · exact eqv_tupI (xs := [a, b]) (ys := [(g : Int), (r : Int)])
      · exact pt_neD hr.units part (pd_tup (pa_c (pd_v 2 five.ati (.int _)) (pa_c (pd_v 4 five.at4 (.int _)) (pa_c (pd_ixT (pd_v 1 five.at1 dvo5) pd_int at2) pa_n)))) (sh_nth (sh_tuple hsh ham)) sh_three
      · exact pt_notD (pt_d (pd_call F2 hr (pa_c part pa_n) ⟨_, rfl, sm_nth (hsm _ ham), sh_nth (sh_tuple hsh ham), rfl⟩))
      · refine wb_retD (d := .bool false) pd_bool (no (s45.trans s6) ?_)
        cases hx : lawSide bs g r (.tuple [.int a, .int b, .int c]) with
        | false => rfl
        | true =>
          obtain ⟨_, _, _, x1, x2, x3⟩ := law_three.mp hx
          rw [x2, x3, decide_eq_false x1] at h6
          cases h6
      obtain ⟨h61, h62⟩ := Bool.or_eq_false_iff.mp h6
      obtain ⟨h62, h63⟩ := Bool.or_eq_false_iff.mp h62
      exact wb_nil (wb_nil (hok (law_three.mpr ⟨hc, ⟨ha0, ha1⟩, ⟨hb0, hb1⟩, of_decide_eq_false h61, (Bool.not_eq_false' _).mp h62, (Bool.not_eq_false' _).mp h63⟩) H6 (s45.trans s6)))
    · have h4 := (Bool.not_eq_false' _).mp h4
      exact wb_nil (hok (by rw [lawSide, h4, Bool.true_or]) H4 s4)
  · intro ho H2 o1 o2 o3 o4 s2
    exact wb_retD (d := .bool true) pd_bool fun v H3 s3 dv => q v H3 ((s1.trans s2).trans s3) (by rw [ho]; exact dv)
end
end Sp
namespace Sp
open PySem L2
/-! ### spaces, as the law judges them -/
def lawSeam (n : Nat) (own : Dt) : Bool := isNo own || (isIn "tuple" own && (decide (((mem own).length : Int) = 2) && (isNum (nth own 0) && ((decide (0 ≤ intOf (nth own 0)) && decide (intOf (nth own 0) < (n : Int))) && isTurn (nth own 1)))))
def lawTold (bs : List Dt) (k f : Nat) (own : Dt) : Bool := isNo own || (!decide ([intOf (nth own 0), (numsOf (nth own 1)).getD f 0] = [(k : Int), (f : Int)]) &&
  PyData.eqv (nth (bs.getD (intOf (nth own 0)).toNat .none) ((numsOf (nth own 1)).getD f 0).toNat) (.tuple [.int (k : Int), .tuple ((inv (numsOf (nth own 1))).map .int)]))
theorem lawTold_is {bs : List Dt} {k f : Nat} {own : Dt} {m : Int} {ns : List Int} (h0 : isNo own = false) (h1 : intOf (nth own 0) = m) (h2 : numsOf (nth own 1) = ns) : lawTold bs k f own =
    (!decide ([m, ns.getD f 0] = [(k : Int), (f : Int)]) && PyData.eqv (nth (bs.getD m.toNat .none) (ns.getD f 0).toNat) (.tuple [.int (k : Int), .tuple ((inv ns).map .int)])) := by
  subst h1; subst h2
  rw [lawTold, h0, Bool.false_or]
theorem seam_of {n : Nat} {d : Dt} (h : lawSeam n d = true) (h2 : isNo d = false) : ∃ m ns, d = .tuple [.int m, .tuple (ns.map .int)] ∧ srt ns = [0, 1, 2, 3] ∧ 0 ≤ m ∧ m < n := by
  rw [lawSeam, h2, Bool.false_or, Bool.and_eq_true, Bool.and_eq_true, Bool.and_eq_true, Bool.and_eq_true, Bool.and_eq_true] at h
  obtain ⟨h1, h3, h4, ⟨h5, h6⟩, h7⟩ := h
  obtain ⟨xs, rfl⟩ := isTup h1
  obtain ⟨x, y, rfl⟩ := len2 (of_decide_eq_true h3)
  obtain ⟨m, rfl⟩ := isNum_int (d := x) h4
  obtain ⟨e1, e2⟩ := isTurn_nums (d := y) h7
  exact ⟨m, _, by rw [← e1], e2, of_decide_eq_true h5, of_decide_eq_true h6⟩
theorem like_told {bs : List Dt} {k f : Nat} {d : Dt} (e : nth (bs.getD k .none) f = d) : (isSeamLike d && toldBack bs k f) = (lawSeam bs.length d && lawTold bs k f d) := by
  unfold toldBack
  rw [e, isSeamLike, lawSeam, lawTold, isLong_is]
  cases isNo d with
  | true => simp
  | false =>
    rw [Bool.false_or, Bool.false_or, Bool.false_or, Bool.false_or]
    generalize isIn "tuple" d = B1
    generalize decide (((mem d).length : Int) = 2) = B2
    generalize isNum (nth d 0) = B3
    generalize isTurn (nth d 1) = B4
    generalize decide (0 ≤ intOf (nth d 0)) = B5
    generalize decide (intOf (nth d 0) < (bs.length : Int)) = B6
    cases B1 <;> cases B2 <;> cases B3 <;> cases B4 <;> cases B5 <;> cases B6 <;> first | rfl | simp
def lawSpace (bs : List Dt) : Bool := bs.all (fun b => isLong b 4) && ((bs.map mem).flatten.all (lawSeam bs.length) && okAll bs fun k f => lawTold bs k f (nth (bs.getD k .none) f))
theorem okAll_and {bs : List Dt} {p q : Nat → Nat → Bool} : (okAll bs p && okAll bs q) = okAll bs fun k f => p k f && q k f := by
  unfold okAll
  rw [all_and]
  exact congrArg _ (funext fun k => all_and)
theorem range_all {xs : List Dt} {p : Dt → Bool} : (List.range xs.length).all (fun i => p (xs.getD i .none)) = xs.all p := by
  rw [Bool.eq_iff_iff, List.all_eq_true, List.all_eq_true]
  constructor
  · intro h x hx
    obtain ⟨i, hi, e⟩ := List.getElem_of_mem hx
    have := h i (List.mem_range.mpr hi)
    simpa [List.getD, hi, e] using this
  · intro h i hi
    exact h _ (getD_mem (List.mem_range.mp hi))
theorem okAll_each {bs : List Dt} {p : Dt → Bool} : okAll bs (fun k f => p (nth (bs.getD k .none) f)) = bs.all fun b => (mem b).all p := by
  unfold okAll
  rw [← range_all (xs := bs) (p := fun b => (mem b).all p)]
  exact congrArg _ (funext fun k => range_all)
theorem flat_all {bs : List Dt} {p : Dt → Bool} : (bs.map mem).flatten.all p = bs.all fun b => (mem b).all p := by
  induction bs with
  | nil => rfl
  | cons b bs ih => rw [List.map_cons, List.flatten_cons, List.all_append, List.all_cons, ih]
theorem isSpace_law {bs : List Dt} : (bs.all (fun b => isLong b 4 && (mem b).all isSeamLike) && (List.range bs.length).all fun k => (List.range 4).all fun f => toldBack bs k f) = lawSpace bs := by
  rw [lawSpace, ← all_and, Bool.and_assoc]
  cases h : bs.all fun b => isLong b 4 with
  | false => rfl
  | true =>
    rw [Bool.true_and, Bool.true_and, flat_all, ← okAll_each, ← okAll_each, okAll_and]
    have e : ((List.range bs.length).all fun k => (List.range 4).all fun f => toldBack bs k f) = okAll bs fun k f => toldBack bs k f := by
      rw [okAll, Bool.eq_iff_iff, List.all_eq_true, List.all_eq_true]
      have key : ∀ k ∈ List.range bs.length, ((List.range 4).all fun f => toldBack bs k f) = ((List.range (mem (bs.getD k .none)).length).all fun f => toldBack bs k f) := fun k hk => by
        rw [(long_len (n := 4) (List.all_eq_true.mp h _ (getD_mem (List.mem_range.mp hk)))).1]
      exact ⟨fun g k hk => by rw [← key k hk]; exact g k hk, fun g k hk => by rw [key k hk]; exact g k hk⟩
    rw [e, okAll_and]
    exact congrArg _ (funext fun k => funext fun f => like_told rfl)
section
variable {P : Program} {w : World} {K : PySem.W.Frag} {mg : Str → Option Value} {base : Heap} {f : Addr} {fd : FuncData}
abbrev R_law_a_space := R1 fun t d => sm t = true ∧ SeqAt.shaped t = true ∧ d = .bool (isSpace t)
theorem ok_law_a_space (F : Fun K "_law_a_space" "_law_a_space" s__law_a_space f fd) (T : Tx mg) (F1 : Df P w K mg base 1 "_law_is_int" R_law_is_int) (F2 : Df P w K mg base 3 "_law_turn" R_law_turn) (F3 : Df P w K mg base 1 "_law_undone" R_turn_back) (F4 : Ds P w K mg base 1 "_law_flat" (sp_flat K)) : FnOk P w K mg base CX0 4 f fd ["thing_so"] (spR K R_law_a_space) := by
  refine fn_r F sc__law_a_space (fun _ _ h => h.len) fun cdv A outer s H vs Q E ds d hr hv hR q => ?_
  obtain ⟨t, rfl, hs, hsh, rfl⟩ := hR
  obtain ⟨v, rfl, dv⟩ := hv.get1
  refine wb_whenD (k := (!isIn "tuple" t) || (!(decide (1 ≤ ((mem t).length : Int)) && decide (((mem t).length : Int) ≤ 40)) || !((mem t).all fun b => isLong b 4))) (pw_t (pw_o (pt_notD (pt_d (pd_isi "tuple" T.isinstance T.tuple (pd_v 0 rfl dv)))) fun h => pw_o ?_ fun h2 => pw_o1 ?_)) (fun h H1 s1 => ?_) fun h H1 s1 => ?_
  · obtain ⟨xs, rfl⟩ := isTup ((Bool.not_eq_false' _).mp h)
    exact pt_notD (pt_chainD (f := fun i j => decide (i ≤ j)) (g := fun i j => decide (i ≤ j)) op_le op_le pd_int (pd_lenT T.len (pd_v 0 rfl dv)) fun _ => pd_int)
  · obtain ⟨xs, rfl⟩ := isTup ((Bool.not_eq_false' _).mp h)
    have hz := (sm_tuple hs).1
    refine Pt.is (pt_neD hr.units (pd_lcI (ds := xs) 1 (fun b => !isIn "tuple" b || !decide (((mem b).length : Int) = 4)) rfl sc__law_a_space.nd (pi_tup pe_w) (src0_tup (pd_v 0 rfl dv)) (by omega) (fun s H0 C cl fp i d v H2 hd sm2 dv2 => ?_) (Nat.lt_of_lt_of_eq (by decide : 1 < 5) rfl)) (pd_lst pa_n) (sh_filter hsh) sh_nilL) ?_
    · refine pw_t (pw_o (pt_notD (pt_d (pd_isi "tuple" T.isinstance T.tuple (pd_v 1 rfl dv2)))) fun ha => pw_o1 ?_)
      obtain ⟨ys, rfl⟩ := isTup ((Bool.not_eq_false' _).mp ha)
      exact pt_neI (pd_lenT T.len (pd_v 1 rfl dv2)) pd_int
    · rw [eqv_nilL, filter_nil]
      exact congrArg (fun g => !(List.all xs g)) (funext fun b => by rw [isLong_is, Bool.not_or, Bool.not_not, Bool.not_not])
  · refine wb_retD (d := .bool false) pd_bool fun v H2 s2 dv => q v H2 (s1.trans s2) ?_
    have : isSpace t = false := by
      cases t with
      | tuple bs =>
        rw [show (!isIn "tuple" (.tuple bs)) = false from rfl, Bool.false_or] at h
        show (_ && _) = false
        rw [isSpace_law, lawSpace]
        rcases (Bool.or_eq_true _ _).mp h with h | h
        · rw [show (decide (1 ≤ (bs.length : Int)) && decide ((bs.length : Int) ≤ 40)) = false from (Bool.not_eq_true' _).mp h, Bool.false_and]
        · rw [show (bs.all fun b => isLong b 4) = false from (Bool.not_eq_true' _).mp h, Bool.false_and, Bool.and_false]
      | _ => rfl
    rw [this]
    exact dv
  obtain ⟨h1, h2⟩ := Bool.or_eq_false_iff.mp h
  obtain ⟨h2, h3⟩ := Bool.or_eq_false_iff.mp h2
  obtain ⟨bs, rfl⟩ := isTup ((Bool.not_eq_false' _).mp h1)
  have h2 : (decide (1 ≤ (bs.length : Int)) && decide ((bs.length : Int) ≤ 40)) = true := (Bool.not_eq_false' _).mp h2
  have h3 : (bs.all fun b => isLong b 4) = true := (Bool.not_eq_false' _).mp h3
  have hlen : bs.length ≤ 40 := by
    have := of_decide_eq_true (Bool.and_eq_true_iff.mp h2).2
    omega
  have hrow : ∀ b ∈ bs, isIn "tuple" b = true := fun b hb => by
    have := List.all_eq_true.mp h3 b hb
    rw [isLong_is] at this
    exact (Bool.and_eq_true_iff.mp this).1
  have hfour : ∀ b ∈ bs, (mem b).length = 4 := fun b hb => (long_len (n := 4) (List.all_eq_true.mp h3 b hb)).1
  have dv1 := Dc.kept s1 dv
  have hsm := (sm_tuple hs).2
  rw [show isSpace (.tuple bs) = ((bs.map mem).flatten.all (lawSeam bs.length) && okAll bs fun k f => lawTold bs k f (nth (bs.getD k .none) f)) by
    rw [isSpace, h2, Bool.true_and, isSpace_law, lawSpace, h3, Bool.true_and]] at q
  have hfl : (bs.map mem).flatten.length ≤ 100000 := by
    have : ∀ cs : List Dt, (∀ b ∈ cs, (mem b).length = 4) → (cs.map mem).flatten.length = 4 * cs.length := by
      intro cs
      induction cs with
      | nil => intro _; rfl
      | cons c cs ih =>
        intro hc
        rw [List.map_cons, List.flatten_cons, List.length_append, hc c (by simp), ih fun b hb => hc b (by simp [hb]), List.length_cons]
        omega
    rw [this bs hfour]
    omega
  refine wb_forS (ds := (bs.map mem).flatten) (T := tName K 1) (pi_list pe_w) (src_list (fun H1' s' Q' q' => ?_)) (pg_name (i := 1) sc__law_a_space.nd rfl (Or.inl rfl)) (fun i d x σ H Q _ dx q => tg_name x d σ H Q dx q)
    (fun i σ' => (∃ o1 o2 o3 o4, σ' = [some v, o1, o2, o3, o4]) ∧ ∀ i' d, i' < i → (bs.map mem).flatten[i']? = some d → lawSeam bs.length d = true) ⟨⟨_, _, _, _, rfl⟩, fun i' d h => absurd h (Nat.not_lt_zero _)⟩ ?_ ?_
  · refine we_call F4 hr (wa_cons (we_lcL0 (own := [("seams_so", 2)]) (g := gName 2) (T := tName K 2) (ds := bs) mem rfl sc__law_a_space.nd (pi_tup pe_w) (src0_tup (pd_v 0 rfl (Dc.kept s' dv1))) (by omega) (by first | exact blkOk_by (by kernel_rfl) | exact blkOk_by (by rfl)) (fun s H0 C cl fp => pg_name (i := 2) sc__law_a_space.nd rfl (Or.inl rfl)) (fun i d x σ H Hx Q _ dx q => q _ ⟨x, dx, rfl⟩) wipe_name ?_ ?_) rfl)
    · rintro s0 H0 C cl fp i d σ' H0' H2 Dl acc hd sa hDl sb hacc ⟨x, dx, rfl⟩ Q2 q2
      obtain ⟨ys, rfl⟩ := isTup (hrow d (List.mem_of_getElem? hd))
      obtain ⟨a, xs, rfl, ht, hdx⟩ := Dc.tupleI dx
      refine we_of (pe_callTy call_list_of rfl T.list (by decide +kernel) (pa_cons (pv 2) pa_nil) (by decide) (by decide)) ⟨_, rfl, a, xs, rfl, .inr (SqT.kept sb ht), fun l hl => ?_⟩
      have hne : l ≠ Dl := by rintro rfl; rw [hl] at hacc; cases hacc
      exact q2 l xs _ (Same.new hl) hne upd_same (DcAll.kept (hide_of (sb.trans (Same.new hl)) hDl) hdx)
    · intro l ps H' s2 hl hrw
      exact wa_nil ⟨l, ps, bs.map mem, rfl, hl, hrw, hfl, fun v' H'' s3 dv' => q' v' H'' (s2.trans s3) dv'⟩
  · rintro i d σ1 σ2 H2 N hd ⟨⟨o1, o2, o3, o4, rfl⟩, hprev⟩ s2 ⟨x, dx, rfl⟩ hN
    have hmem := List.mem_of_getElem? hd
    obtain ⟨b, hb, hd2⟩ : ∃ b ∈ bs, d ∈ mem b := by
      obtain ⟨l, hl, hd2⟩ := List.mem_flatten.mp hmem
      obtain ⟨b, hb, rfl⟩ := List.mem_map.mp hl
      exact ⟨b, hb, hd2⟩
    obtain ⟨ys, rfl⟩ := isTup (hrow b hb)
    have hsd : sm d = true := (sm_tuple (hsm _ hb)).2 d hd2
    have hshd : SeqAt.shaped d = true := sh_tuple (sh_tuple hsh hb) hd2
    have dv2 := Dc.kept s2 dv1
    have two : ∀ {d : Dt}, (!isIn "tuple" d) = false → (!decide (((mem d).length : Int) = 2)) = false → ∃ x y, d = .tuple [x, y] := fun {t} h1 h2 => by
      obtain ⟨xs, rfl⟩ := isTup ((Bool.not_eq_false' _).mp h1)
      obtain ⟨x, y, rfl⟩ := len2 (of_decide_eq_true ((Bool.not_eq_false' _).mp h2))
      exact ⟨x, y, rfl⟩
    refine wb_whenD (k := !lawSeam bs.length d) (Pt.is (pw_t (pw_a (k := !isNo d) (m := !isIn "tuple" d || (!decide (((mem d).length : Int) = 2) || (!isNum (nth d 0) || (!(decide (0 ≤ intOf (nth d 0)) && decide (intOf (nth d 0) < (bs.length : Int))) || !isTurn (nth d 1)))))
      (pt_notN (pd_v 1 rfl dx)) fun hno => pw_a1 (pw_t (pw_o (pt_notD (pt_d (pd_isi "tuple" T.isinstance T.tuple (pd_v 1 rfl dx)))) fun g1 => pw_o ?_ fun g2 => pw_o ?_ fun g3 => pw_o ?_ fun g4 => pw_o1 ?_)))) ?_) (fun h4 H3 s3 => ?_) fun h4 H3 s3 => ?_
    · obtain ⟨zs, rfl⟩ := isTup ((Bool.not_eq_false' _).mp g1)
      exact pt_neI (pd_lenT T.len (pd_v 1 rfl dx)) pd_int
    · obtain ⟨x, y, rfl⟩ := two g1 g2
      exact pt_notD (pt_d (pd_call F1 hr (pa_c (pd_ixT (pd_v 1 rfl dx) pd_int at0) pa_n) ⟨x, rfl, rfl⟩))
    · obtain ⟨x, y, rfl⟩ := two g1 g2
      obtain ⟨n, rfl⟩ := isNum_int (d := x) ((Bool.not_eq_false' _).mp g3)
      exact pt_notD (pt_chainD (f := fun i j => decide (i ≤ j)) (g := fun i j => decide (i < j)) op_le op_lt pd_int (pd_ixT (pd_v 1 rfl dx) pd_int at0) fun _ => pd_lenT T.len (pd_v 0 rfl dv2))
    · obtain ⟨x, y, rfl⟩ := two g1 g2
      exact pt_notD (pt_d (pd_call F2 hr (pa_c (pd_ixT (pd_v 1 rfl dx) pd_int at1) pa_n) ⟨y, rfl, (sm_tuple hsd).2 y (by simp), sh_tuple hshd (by simp), rfl⟩))
    · rw [lawSeam]
      cases isNo d <;> simp only [Bool.not_or, Bool.not_and, Bool.not_true, Bool.not_false, Bool.false_and, Bool.true_and, Bool.false_or, Bool.true_or]
    · refine wb_retD (d := .bool false) pd_bool fun v H4 s4 dv => q v H4 (((s1.trans s2).trans s3).trans s4) ?_
      have : (bs.map mem).flatten.all (lawSeam bs.length) = false := by
        cases hx : (bs.map mem).flatten.all (lawSeam bs.length) with
        | false => rfl
        | true =>
          rw [List.all_eq_true.mp hx d hmem] at h4
          cases h4
      rw [this, Bool.false_and]
      exact dv
    · refine wb_nil (hN _ _ ⟨⟨_, _, _, _, rfl⟩, fun i' d' h' hd' => ?_⟩ s3)
      rcases Nat.lt_succ_iff_lt_or_eq.mp h' with h' | rfl
      · exact hprev i' d' h' hd'
      · rw [hd] at hd'
        cases hd'
        exact (Bool.not_eq_false' _).mp h4
  · rintro σ1 H2 ⟨⟨o1, o2, o3, o4, rfl⟩, hall⟩ s2
    have hseams : (bs.map mem).flatten.all (lawSeam bs.length) = true := List.all_eq_true.mpr fun d hd => by
      obtain ⟨i, hi, e⟩ := List.getElem_of_mem hd
      exact hall i d hi (by rw [← e]; simp [hi])
    rw [hseams, Bool.true_and] at q
    have dv2 := Dc.kept s2 dv1
    have hseam : ∀ b ∈ bs, ∀ d ∈ mem b, lawSeam bs.length d = true := fun b hb d hd => List.all_eq_true.mp hseams d (List.mem_flatten.mpr ⟨mem b, List.mem_map.mpr ⟨b, hb, rfl⟩, hd⟩)
    have s02 := s1.trans s2
    refine wb_grid (i := 3) (j := 2) (fun k f => lawTold bs k f (nth (bs.getD k .none) f)) (.inr ⟨rfl, rfl⟩) T.enumerate dv2 hrow rfl rfl
      (pg_tup rfl (pgs_cons (pg_name (i := 3) sc__law_a_space.nd rfl (Or.inl rfl)) (pgs_cons (pg_name (i := 2) sc__law_a_space.nd rfl (Or.inl rfl)) pgs_nil)))
      (pg_tup rfl (pgs_cons (pg_name (i := 4) sc__law_a_space.nd rfl (Or.inl rfl)) (pgs_cons (pg_name (i := 1) sc__law_a_space.nd rfl (Or.inl rfl)) pgs_nil))) ?_ ?_
    · intro D' k r σ1 H3 vs vo hrt hk hr' hprev s3 hl5 five dvs dvo hok
      have hb : bs.getD k .none ∈ bs := getD_mem hk
      have hmem : nth (bs.getD k .none) r ∈ mem (bs.getD k .none) := getD_mem hr'
      have hr4 : r < 4 := by rw [hfour _ hb] at hr'; exact hr'
      have hown := hseam _ hb _ hmem
      have dvo : Dc _ H3 vo (nth (bs.getD k .none) r) := dvo
      have s03 := s02.trans s3
      have hok : lawTold bs k r (nth (bs.getD k .none) r) = true → ∀ H', Same H3 H' → D'.nx σ1 H' := hok
      have no : ∀ {H4 : Hp}, Same H3 H4 → lawTold bs k r (nth (bs.getD k .none) r) = false → ∀ v H5, Same H4 H5 → Dc K H5 v (.bool false) → D'.rt v H5 := fun {H4} s4 hbad v H5 s5 dv => by
        rw [hrt]
        exact q v H5 ((s03.trans s4).trans s5) (by rw [okAll_false (ok := fun k f => lawTold bs k f (nth (bs.getD k .none) f)) hk hr' hbad]; exact dv)
      generalize nth (bs.getD k .none) r = own at *
      cases hno : isNo own with
      | true =>
        refine wb_whenD (k := false) (Pt.is (pw_t (pw_a (m := true) (pt_notN (pd_v 1 five.at1 dvo)) fun h => by rw [hno] at h; cases h)) (by rw [hno]; rfl)) (fun h => by cases h) fun _ H4 s4 => ?_
        exact wb_nil (hok (by rw [lawTold, hno, Bool.true_or]) H4 s4)
      | false =>
        obtain ⟨m, ns, rfl, ht, hm0, hm1⟩ := seam_of hown hno
        have hnl := turn_len ht
        have e1 : numsOf (.tuple (ns.map PyData.int)) = ns := by
          show (ns.map PyData.int).map intOf = ns
          rw [List.map_map]
          exact List.map_id'' (fun _ => rfl) ns
        have hgn : r < (ns.map PyData.int).length := by rw [List.length_map, hnl]; exact hr4
        have hfar : 0 ≤ ns.getD r 0 ∧ ns.getD r 0 < 4 := turn_in ht (by
          have : r < ns.length := by rw [hnl]; exact hr4
          simp [List.getD, this])
        have eg : (ns.map PyData.int).getD r .none = .int (ns.getD r 0) := by
          have : r < ns.length := by rw [hnl]; exact hr4
          simp [List.getD, this]
        have et : lawTold bs k r (.tuple [.int m, .tuple (ns.map .int)]) = (!decide ([m, ns.getD r 0] = [(k : Int), (r : Int)]) && PyData.eqv (nth (bs.getD m.toNat .none) (ns.getD r 0).toNat) (.tuple [.int (k : Int), .tuple ((inv ns).map .int)])) := lawTold_is hno rfl e1
        rw [et] at hok no
        have ham : bs.getD m.toNat .none ∈ bs := getD_mem (by omega)
        obtain ⟨ys, ey⟩ := isTup (hrow _ ham)
        have hy4 := hfour _ ham
        have far : ∀ {p1 p2 p3 p4 p5 : Pos} {k1 : Nat}, Pd (cxOf CX0 P w K mg base n__law_a_space "_law_a_space" (defScope s__law_a_space) f cdv A outer s H E).nox (.Subscript (.Subscript (.Name "own" p1) (.Constant (.int 1) k1 p2) p3) (.Name "f" p4) p5) σ1 H3 (.int (ns.getD r 0)) :=
          pd_ixT (pd_ixT (pd_v 1 five.at1 dvo) pd_int at1) (pd_v 4 five.at4 (.int _)) (by rw [atGet hgn, eg])
        have dv3 := Dc.kept s3 dv2
        have zero : ∀ {p1 p2 p3 : Pos} {k1 : Nat}, Pd (cxOf CX0 P w K mg base n__law_a_space "_law_a_space" (defScope s__law_a_space) f cdv A outer s H E).nox (.Subscript (.Name "own" p1) (.Constant (.int 0) k1 p2) p3) σ1 H3 (.int m) := pd_ixT (pd_v 1 five.at1 dvo) pd_int at0
        have kk : ∀ {B : Bool}, B = (!isNo (.tuple [.int m, .tuple (ns.map PyData.int)]) && B) := fun {B} => by rw [hno]; rfl
        refine wb_whenD (k := decide ([m, ns.getD r 0] = [(k : Int), (r : Int)]) || !PyData.eqv (nth (bs.getD m.toNat .none) (ns.getD r 0).toNat) (.tuple [.int (k : Int), .tuple ((inv ns).map .int)])) (Pt.is (pw_t (pw_a (m := decide ([m, ns.getD r 0] = [(k : Int), (r : Int)]) || !PyData.eqv (nth (bs.getD m.toNat .none) (ns.getD r 0).toNat) (.tuple [.int (k : Int), .tuple ((inv ns).map .int)])) (pt_notN (pd_v 1 five.at1 dvo)) fun _ => pw_a1 (pw_t (pw_o
          (Pt.is (pt_eqD hr.units (pd_tup (pa_c zero (pa_c far pa_n))) (pd_tup (pa_c (pd_v 3 five.ati (.int _)) (pa_c (pd_v 4 five.at4 (.int _)) pa_n))) (sh_tupI (xs := [m, ns.getD r 0])) (sh_tupI (xs := [(k : Int), (r : Int)]))) ?_) fun hw => pw_o1 ?_)))) kk.symm) (fun h6 H6 s6 => ?_) fun h6 H6 s6 => ?_
        · exact eqv_tupI (xs := [m, ns.getD r 0]) (ys := [(k : Int), (r : Int)])
        · have hf2 : (ns.getD r 0).toNat < (mem (bs.getD m.toNat .none)).length := by rw [hy4]; omega
          refine pt_neD hr.units (pd_ixT (ds := mem (bs.getD m.toNat .none)) (Pd.is (pd_ixT (pd_v 0 five.at0 dv3) zero (atI_n hm0 (by omega))) (by rw [ey]; rfl)) far (atI_n hfar.1 (by omega)))
            (pd_tup (pa_c (pd_v 3 five.ati (.int _)) (pa_c (pd_call F3 hr (pa_c (pd_ixT (pd_v 1 five.at1 dvo) pd_int at1) pa_n) ⟨_, rfl, ns, rfl, ht, rfl⟩) pa_n))) (sh_nth (sh_tuple hsh ham)) ?_
          simp [SeqAt.shaped, PyData.canLay0, PyData.canLayAll0, PyData.depth, PyData.depthAll, lay_ints]
        · refine wb_retD (d := .bool false) pd_bool (no s6 ?_)
          rcases (Bool.or_eq_true _ _).mp h6 with h | h
          · rw [h, Bool.not_true, Bool.false_and]
          · rw [(Bool.not_eq_true' _).mp h, Bool.and_false]
        · obtain ⟨h61, h62⟩ := Bool.or_eq_false_iff.mp h6
          exact wb_nil (hok (by rw [h61, (Bool.not_eq_false' _).mp h62]; rfl) H6 s6)
    · intro ho H3 o1 o2 o3 o4 s3
      exact wb_retD (d := .bool true) pd_bool fun v H4 s4 dv => q v H4 ((s02.trans s3).trans s4) (by rw [ho]; exact dv)
end
end Sp
namespace Sp
open PySem L2
/-! ### moves, as the law judges them -/
def lens : List (L2.Key × V) := [(.inr "split", .int 2), (.inr "merge", .int 3), (.inr "cross", .int 3), (.inr "uncross", .int 4)]
theorem lens_at {z : Str} : valV lens (.inr z : L2.Key) = (moveLen z).map V.int := by
  have e : ∀ a : Str, decide ((Sum.inr a : L2.Key) = Sum.inr z) = decide (z = a) := fun a => decide_eq_decide.mpr ⟨fun h => by injection h with h; exact h.symm, fun h => by rw [h]⟩
  simp only [valV, lens, List.find?, e, moveLen]
  by_cases h1 : z = "split"
  · rw [decide_eq_true h1, if_pos h1]; rfl
  rw [decide_eq_false h1, if_neg h1]
  by_cases h2 : z = "merge"
  · rw [decide_eq_true h2, if_pos h2]; rfl
  rw [decide_eq_false h2, if_neg h2]
  by_cases h3 : z = "cross"
  · rw [decide_eq_true h3, if_pos h3]; rfl
  rw [decide_eq_false h3, if_neg h3]
  by_cases h4 : z = "uncross"
  · rw [decide_eq_true h4, if_pos h4]; rfl
  rw [decide_eq_false h4, if_neg h4]; rfl
section
variable {X : Cx} {σ : L2.St} {H H0 : Hp} {a : Expr} {p pos : Pos} {z : Str} {x : Str} {D : Addr}
theorem pt_ninD (i : Nat) (hu : X.A.units + 64 < cLine) (ha : Pd X a σ H (.str z)) (hs : σ[i]? = some (some (.ref D))) (hd : H D = some (.dK lens)) (hN : X.N[i]? = some x := by rfl) (hv : Vis X.env.scope x := by first | exact Or.inl rfl | exact Or.inr (Or.inl rfl) | exact Or.inr (Or.inr rfl)) (h1 : (x == ("__debug__" : Str)) = false := by decide)
    (h2 : (x == ("__classdict__" : Str)) = false := by decide) (hm : behindInMarks .NotIn (.Name x p) = false := by rfl) : Pt X (.Compare a [.NotIn] [.Name x p] pos) σ H (!(moveLen z).isSome) := fun H1 s Q q =>
  wt_of (pt_cmp (pc_dnotin (by omega) pe_w (pv i hN hv h1 h2)) hm) (ha H1 s _ fun v H2 s2 dv => by
    cases dv
    refine ⟨.ref D, hs, D, _, rfl, DGet.k (k := .inr z) (s2 _ _ (s _ _ hd)), !(moveLen z).isSome, ?_, q H2 s2⟩
    rw [lens_at]
    cases moveLen z <;> rfl)
theorem pd_lensD (i : Nat) {m : Int} (hu : X.A.units + 64 < cLine) (ha : Pd X a σ H (.str z)) (hz : moveLen z = some m) (hs : σ[i]? = some (some (.ref D))) (hd : H D = some (.dK lens)) (hsl : NoSl a := by intro _ _; rfl) (hN : X.N[i]? = some x := by rfl) (hv : Vis X.env.scope x := by first | exact Or.inl rfl | exact Or.inr (Or.inl rfl) | exact Or.inr (Or.inr rfl)) (h1 : (x == ("__debug__" : Str)) = false := by decide)
    (h2 : (x == ("__classdict__" : Str)) = false := by decide) : Pd X (.Subscript (.Name x p) a pos) σ H (.int m) := fun H1 s Q q =>
  we_of (pe_dget (by omega) (pv i hN hv h1 h2) pe_w hsl) ⟨.ref D, hs, ha H1 s _ fun v H2 s2 dv => by
    cases dv
    have g := DGet.k (k := .inr z) (s2 _ _ (s _ _ hd))
    rw [lens_at, hz] at g
    exact ⟨D, .int m, rfl, g, q _ H2 s2 (.int _)⟩⟩
end
/-- what the law asks of a move first -/
def lawMove1 (t : Dt) : Bool := !isIn "tuple" t || ((mem t).isEmpty || (!isIn "str" (nth t 0) || !areNums (.tuple ((mem t).drop 1))))
theorem lawMove1_yes {t : Dt} (h : lawMove1 t = false) : ∃ k ns, t = .tuple (.str k :: (ns : List Int).map .int) := by
  obtain ⟨h1, h2⟩ := Bool.or_eq_false_iff.mp h
  obtain ⟨h2, h3⟩ := Bool.or_eq_false_iff.mp h2
  obtain ⟨h3, h4⟩ := Bool.or_eq_false_iff.mp h3
  obtain ⟨xs, rfl⟩ := isTup ((Bool.not_eq_false' _).mp h1)
  cases xs with
  | nil => cases h2
  | cons x xs =>
    obtain ⟨k, rfl⟩ := isStr (d := x) ((Bool.not_eq_false' _).mp h3)
    obtain ⟨ns, e⟩ := ints_of (xs := xs) ((Bool.not_eq_false' _).mp h4)
    exact ⟨k, ns, by rw [e]⟩
theorem within_num {d : Dt} {lo hi : Int} (h : within d lo hi = true) : isNum d = true := by
  obtain ⟨i, rfl, _⟩ := within_true h; rfl
theorem lawMove1_no {t : Dt} (h : lawMove1 t = true) : isMove t = false := by
  cases hx : isMove t with
  | false => rfl
  | true =>
    match t, hx with
    | .tuple (.str k :: x :: xs), hx =>
      cases hk : moveLen k with
      | none => simp only [isMove, hk] at hx; cases hx
      | some n =>
        simp only [isMove, hk, Bool.and_eq_true] at hx
        obtain ⟨_, h1, h2, _⟩ := hx
        have : areNums (.tuple (x :: xs)) = true := by
          show ((x :: xs).all isNum) = true
          rw [List.all_cons, within_num h1, Bool.true_and]
          exact List.all_eq_true.mpr fun d hd => within_num (List.all_eq_true.mp h2 d hd)
        have h' : (false || (false || (false || !areNums (.tuple (x :: xs))))) = true := h
        rw [this] at h'
        cases h'
theorem isMove_nums {k : Str} {ns : List Int} {n : Int} (hk : moveLen k = some n) : isMove (.tuple (.str k :: ns.map .int)) = (decide (((ns.length : Int) + 1) = n) && ((decide (0 ≤ ns.getD 0 0) && decide (ns.getD 0 0 ≤ 39)) && ((ns.drop 1).all (fun y => decide (0 ≤ y) && decide (y ≤ 3)) && (!decide (k = "uncross") || decide (ns.getD 1 0 < ns.getD 2 0))))) := by
  have h2 := moveLen_two hk
  match ns with
  | [] =>
    rw [show isMove (.tuple (.str k :: ([] : List Int).map .int)) = false from rfl, decide_eq_false (by simp; omega), Bool.false_and]
  | x :: xs =>
    simp only [List.map_cons, isMove, hk]
    have e1 : ((xs.map PyData.int).length : Int) = xs.length := by simp
    have e2 : (xs.map PyData.int).all (fun y => within y 0 3) = xs.all fun y => decide (0 ≤ y) && decide (y ≤ 3) := by rw [List.all_map]; rfl
    rw [e1, e2]
    have e3 : ∀ i, intOf ((xs.map PyData.int).getD i .none) = xs.getD i 0 := fun i => by
      simp only [List.getD, List.getElem?_map]
      cases xs[i]? <;> rfl
    rw [e3, e3]
    rfl
section
variable {P : Program} {w : World} {K : PySem.W.Frag} {mg : Str → Option Value} {base : Heap} {f : Addr} {fd : FuncData}
abbrev R_law_a_move := R1 fun t d => sm t = true ∧ SeqAt.shaped t = true ∧ d = .bool (isMove t)
theorem intAt {s : Str} {ns : List Int} {i : Nat} (h : i < ns.length) : atI (PyData.str s :: ns.map PyData.int) ((i : Int) + 1) = some (.int (ns.getD i 0)) := by
  have := atI_nat (xs := PyData.str s :: ns.map PyData.int) (j := i + 1) (v := .int (ns.getD i 0)) (by simp [List.getD, h])
  simpa using this
theorem all_ints {ns : List Int} {p : Int → Bool} : ((ns.map PyData.int).all fun d => p (intOf d)) = ns.all p := by rw [List.all_map]; rfl
theorem ok_law_a_move (F : Fun K "_law_a_move" "_law_a_move" s__law_a_move f fd) (T : Tx mg) (F2 : Df P w K mg base 2 "_law_row" R_law_row) : FnOk P w K mg base CX0 3 f fd ["thing_so"] (spR K R_law_a_move) := by
  refine fn_r F sc__law_a_move (fun _ _ h => h.len) fun cdv A outer s H vs Q E ds d hr hv hR q => ?_
  obtain ⟨t, rfl, hs, hsh, rfl⟩ := hR
  obtain ⟨v, rfl, dv⟩ := hv.get1
  refine wb_whenD (k := lawMove1 t) (pw_t (pw_o (pt_notD (pt_d (pd_isi "tuple" T.isinstance T.tuple (pd_v 0 rfl dv)))) fun h1 => pw_o ?_ fun h2 => pw_o ?_ fun h3 => pw_o1 ?_)) (fun h H1 s1 => ?_) fun h H1 s1 => ?_
  · obtain ⟨xs, rfl⟩ := isTup ((Bool.not_eq_false' _).mp h1)
    exact Pt.is (pt_eqD hr.units (pd_v 0 rfl dv) (pd_tup pa_n) hsh sh_nilT) eqv_nilT
  · obtain ⟨xs, rfl⟩ := isTup ((Bool.not_eq_false' _).mp h1)
    match xs, h2 with
    | [], h2 => cases h2
    | x :: xs, _ => exact pt_notD (pt_d (pd_isi "str" T.isinstance T.str (pd_ixT (pd_v 0 rfl dv) pd_int at0)))
  · obtain ⟨xs, rfl⟩ := isTup ((Bool.not_eq_false' _).mp h1)
    have hd : ∀ d ∈ xs.drop 1, d ∈ xs := fun d hd => List.mem_of_mem_drop hd
    have h0 := sm_tuple hs
    refine pt_notD (pt_d (pd_call F2 hr (pa_c (Pd.is (pd_slT (pd_v 0 rfl dv) (po_s (i := 1) pd_int) po_n) (congrArg PyData.tuple (cutF (n := 1)))) pa_n) ⟨_, rfl, sm_mk (Nat.le_trans (by simp) h0.1) fun d h => h0.2 d (hd d h), ?_, rfl⟩))
    have k1 := Bool.and_eq_true_iff.mp hsh
    have k2 : PyData.depthAll xs + 1 ≤ 64 := of_decide_eq_true k1.2
    have k3 : PyData.canLayAll0 xs = true := by simpa [PyData.canLay0] using k1.1
    cases xs with
    | nil => exact sh_nilT
    | cons x xs =>
      simp only [PyData.canLayAll0, Bool.and_eq_true] at k3
      simp only [PyData.depthAll] at k2
      exact Bool.and_eq_true_iff.mpr ⟨by simpa [PyData.canLay0] using k3.2, decide_eq_true (show PyData.depthAll xs + 1 ≤ 64 by omega)⟩
  · exact wb_retD (d := .bool false) pd_bool fun v H2 s2 dv => q v H2 (s1.trans s2) (by rw [lawMove1_no h]; exact dv)
  obtain ⟨k, ns, rfl⟩ := lawMove1_yes h
  have dv1 := Dc.kept s1 dv
  have hz := (sm_tuple hs).1
  simp only [List.length_cons, List.length_map] at hz
  refine wb_set 1 (we_of (pe_disp (pps_cons pe_str pe_int (pps_cons pe_str pe_int (pps_cons pe_str pe_int (pps_cons pe_str pe_int pps_nil)))) (by rfl) (by rfl) (by decide) (by decide)) fun D hD => ⟨upd_same, lens, rfl, (by decide), ?_⟩) sc__law_a_move.nd
  have e : mergeK [] lens = lens := by rfl
  rw [e]
  have hDl : upd (upd H1 D (.dK [])) D (.dK lens) D = some (.dK lens) := upd_same
  have sD : Same H1 (upd (upd H1 D (.dK [])) D (.dK lens)) := (Same.new hD).mut hD
  generalize upd (upd H1 D (.dK [])) D (.dK lens) = H2 at hDl sD
  have dv2 := Dc.kept sD dv1
  have s02 := s1.trans sD
  cases hk : moveLen k with
  | none =>
    refine wb_whenD (k := true) (Pt.is (pw_t (pw_o (m := false) (pt_ninD 1 hr.units (pd_ixT (pd_v 0 rfl dv2) pd_int at0) rfl hDl) fun h => by rw [hk] at h; cases h)) (by rw [hk]; rfl)) (fun _ H3 s3 => ?_) fun h => by cases h
    refine wb_retD (d := .bool false) pd_bool fun v H4 s4 dv => q v H4 ((s02.trans s3).trans s4) ?_
    have : isMove (.tuple (.str k :: ns.map .int)) = false := by
      cases ns with
      | nil => rfl
      | cons x xs => simp only [List.map_cons, isMove, hk]
    rw [this]
    exact dv
  | some n =>
    rw [isMove_nums hk] at q
    have hn2 := moveLen_two hk
    let B1 := decide (((ns.length : Int) + 1) = n)
    let B2 := decide (0 ≤ ns.getD 0 0) && decide (ns.getD 0 0 ≤ 39)
    let B3 := (ns.drop 1).all (fun y => decide (0 ≤ y) && decide (y ≤ 3))
    have el : (((PyData.str k :: ns.map PyData.int).length : Nat) : Int) = (ns.length : Int) + 1 := by simp
    refine wb_whenD (k := !B1 || (!B2 || !B3)) (Pt.is (pw_t (pw_o (pt_ninD 1 hr.units (pd_ixT (pd_v 0 rfl dv2) pd_int at0) rfl hDl) fun _ => pw_o (k := !B1) ?_ fun g1 => pw_o (k := !B2) ?_ fun g2 => pw_o1 (k := !B3) ?_)) (by rw [hk]; rfl)) (fun h6 H3 s3 => ?_) fun h6 H3 s3 => ?_
    · exact Pt.is (pt_neI (pd_lenT T.len (pd_v 0 rfl dv2)) (pd_lensD 1 hr.units (pd_ixT (pd_v 0 rfl dv2) pd_int at0) hk rfl hDl)) (by rw [el])
    · have g1 := of_decide_eq_true ((Bool.not_eq_false' _).mp g1)
      exact pt_notD (pt_chainD (f := fun i j => decide (i ≤ j)) (g := fun i j => decide (i ≤ j)) op_le op_le pd_int (pd_ixT (pd_v 0 rfl dv2) pd_int (intAt (i := 0) (by omega))) fun _ => pd_int)
    · have e2 : (PyData.str k :: ns.map PyData.int).drop 2 = (ns.drop 1).map PyData.int := by rw [List.drop_succ_cons, ← List.map_drop]
      refine Pt.is (pt_neD hr.units (pd_lcI (ds := (ns.drop 1).map .int) 2 (fun x => !(decide (0 ≤ intOf x) && decide (intOf x ≤ 3))) rfl sc__law_a_move.nd (pi_tup pe_w) (src0_tup (Pd.is (pd_slT (pd_v 0 rfl dv2) (po_s (i := 2) pd_int) po_n) (congrArg PyData.tuple ((cutF (n := 2)).trans e2)))) (by simp; omega) (fun s H0 C cl fp i d v H3 hd3 sm3 dv3 => ?_) (Nat.lt_of_lt_of_eq (by decide : 2 < 3) rfl)) (pd_lst pa_n) sh_ints sh_nilL) ?_
      · obtain ⟨m, rfl⟩ : ∃ m, d = .int m := by
          obtain ⟨m, _, e⟩ := List.mem_map.mp (List.mem_of_getElem? hd3)
          exact ⟨m, e.symm⟩
        exact pt_notD (pt_chainD (f := fun i j => decide (i ≤ j)) (g := fun i j => decide (i ≤ j)) op_le op_le pd_int (pd_v 2 rfl dv3) fun _ => pd_int)
      · rw [eqv_nilL, filter_nil]
        simp only [Bool.not_not]
        rw [all_ints (p := fun y => decide (0 ≤ y) && decide (y ≤ 3))]
    · refine wb_retD (d := .bool false) pd_bool fun v H4 s4 dv => q v H4 ((s02.trans s3).trans s4) ?_
      have : (B1 && (B2 && (B3 && (!decide (k = "uncross") || decide (ns.getD 1 0 < ns.getD 2 0))))) = false := by
        generalize B1 = b1 at h6 ⊢
        generalize B2 = b2 at h6 ⊢
        generalize B3 = b3 at h6 ⊢
        cases b1 <;> cases b2 <;> cases b3 <;> first | rfl | cases h6
      exact this ▸ dv
    · obtain ⟨g1, g2⟩ := Bool.or_eq_false_iff.mp h6
      obtain ⟨g2, g3⟩ := Bool.or_eq_false_iff.mp g2
      have g1 : B1 = true := (Bool.not_eq_false' _).mp g1
      have g2 : B2 = true := (Bool.not_eq_false' _).mp g2
      have g3 : B3 = true := (Bool.not_eq_false' _).mp g3
      have dv3 := Dc.kept s3 dv2
      have q' : ∀ v H', Same H H' → Dc K H' v (.bool (!decide (k = "uncross") || decide (ns.getD 1 0 < ns.getD 2 0))) → Q v H' := fun v H' s' dv => q v H' s' (by
        show Dc K H' v (.bool (B1 && (B2 && (B3 && _))))
        rw [g1, g2, g3]
        exact dv)
      refine wb_retD (pd_orb (pd_neS (pd_ixT (pd_v 0 rfl dv3) pd_int at0) pd_str) fun hu => pd_one ?_) fun v H4 s4 dv => q' v H4 ((s02.trans s3).trans s4) dv
      have hu := of_decide_eq_true ((Bool.not_eq_false' _).mp hu)
      subst hu
      have e4 := moveLen_unc hk
      subst e4
      have g1 : ((ns.length : Int) + 1) = 4 := of_decide_eq_true g1
      exact pd_lt (pd_ixT (pd_v 0 rfl dv3) pd_int (intAt (i := 1) (by omega))) (pd_ixT (pd_v 0 rfl dv3) pd_int (intAt (i := 2) (by omega)))
end
end Sp
/-! slices with a step: xs[a::2] of a list, t[::-1] of a tuple -/
namespace Sp
open PySem L2 PySem.Spec PyProof.Rows
theorem fm_congr {α β : Type} {f g : α → Option β} : ∀ {xs : List α}, (∀ x ∈ xs, f x = g x) → xs.filterMap f = xs.filterMap g
  | [], _ => rfl
  | x :: xs, h => by
    rw [List.filterMap_cons, List.filterMap_cons, h x (by simp), fm_congr (xs := xs) fun y hy => h y (by simp [hy])]
/-- the places of a slice, picked -/
def pickL {α : Type} (is : List Nat) (xs : List α) : List α := is.filterMap (xs[·]?)
theorem vals_pick {xs : List V} {its : List Value} (r : Vals xs its) : ∀ is : List Nat, Vals (pickL is xs) (pickL is its)
  | [] => .nil
  | i :: is => by
    have ih := vals_pick r is
    have hl := r.length
    unfold pickL at ih ⊢
    by_cases h : i < xs.length
    · obtain ⟨u, hu, ru⟩ := r.get (List.getElem?_eq_getElem h)
      rw [List.filterMap_cons_some (List.getElem?_eq_getElem h), List.filterMap_cons_some hu]
      exact .cons ru ih
    · rw [List.filterMap_cons_none (by simp; omega), List.filterMap_cons_none (by simp; omega)]
      exact ih
theorem dc_pick {K : PySem.W.Frag} {H : Hp} {xs : List V} {ds : List Dt} (r : DcAll K H xs ds) : ∀ is : List Nat, DcAll K H (pickL is xs) (pickL is ds)
  | [] => .nil
  | i :: is => by
    have ih := dc_pick r is
    have hl := r.length
    unfold pickL at ih ⊢
    by_cases h : i < ds.length
    · obtain ⟨u, hu, ru⟩ := r.get (List.getElem?_eq_getElem h)
      rw [List.filterMap_cons_some (List.getElem?_eq_getElem h), List.filterMap_cons_some hu]
      exact .cons ru ih
    · rw [List.filterMap_cons_none (by simp; omega), List.filterMap_cons_none (by simp; omega)]
      exact ih
theorem pick_len {α : Type} {is : List Nat} {xs : List α} : (pickL is xs).length ≤ is.length := List.length_filterMap_le _ _
/-- the places of lo::2 -/
def stepAt (n : Nat) (lo : Option Int) : List Nat := sliceRange (sliceBounds lo none (some 2) n).1 (sliceBounds lo none (some 2) n).2.1 (sliceBounds lo none (some 2) n).2.2
theorem stepAt_len {n : Nat} {lo : Option Int} : (stepAt n lo).length ≤ n := by
  unfold stepAt
  refine sliceRange_length_le _ _ _ n (fun _ => ?_) (fun h => absurd (show (2 : Int) > 0 by decide) h)
  refine ⟨?_, ?_⟩
  · unfold sliceBounds
    cases lo with
    | none => simp
    | some v => simp; omega
  · unfold sliceBounds
    simp
section
variable {X : Cx} {e : Expr} {te : TE} {k : Nat} {p1 p2 p3 pos : Pos}
def tStep (K : PySem.W.Frag) (te : TE) (tl : TO) : TE := fun σ H Q => te σ H fun x H1 => tl σ H1 fun l H2 => ∃ a xs, x = .ref a ∧ SqL K H2 a xs ∧ ∀ p, H2 p = none → Q (.ref p) (upd H2 p (.lst (pickL (stepAt xs.length l) xs)))
theorem pe_step {lo : Option Expr} {tl : TO} (he : PE X e te) (hl : PO X lo tl) : PE X (.Subscript e (.Slice lo none (some (.Constant (.int 2) k p1)) p3) pos) (tStep X.K te tl) := by
  refine ⟨fun pins s σ H Q I h => Subscript_ (thn (he.run pins s σ H _ I h) fun v s1 ⟨x, H1, I1, r1, q1⟩ => ?_)⟩
  have hst : PO X (some (.Constant (.int 2) k p1)) (tPart (tC (.int 2))) := po_some pe_int
  refine wpAny_Slice (thn (hl.run pins s1 σ H1 _ I1 q1) fun vl s2 ⟨l, H2, I2, pl, q2⟩ => ?_)
  obtain ⟨a, xs, ex, hx, q⟩ := q2
  subst ex; cases r1
  refine thn (po_none.run pins s2 σ H2 (fun o H3 => o = none ∧ H3 = H2) I2 ⟨rfl, rfl⟩) fun vu s3 ⟨u, H3, I3, pu, eu, e3⟩ => ?_
  subst eu e3
  refine thn (hst.run pins s3 σ H3 (fun o H4 => o = some 2 ∧ H4 = H3) I3 ⟨2, rfl, rfl, rfl⟩) fun vs s4 ⟨o, H4, I4, ps, eo, e4⟩ => ?_
  subst eo e4
  have I5 : Inv X pins σ H4 { s4 with heap := s4.heap.push { cls := .type "slice", data := .fields #[vl, vu, vs] } } := I4.kept (t' := s4.toks) fun b ob q => Heap.get?_push_of_some _ q
  obtain ⟨its, r, ht, hz⟩ := I5.list hx
  have hlen := r.length
  have hsz : its.toArray.size ≤ sizeLine := by rw [List.size_toArray]; omega
  refine tail_any (ops := [.ref a, .ref s4.heap.objs.size]) ht.isList.typeIs PySem.slot_list_getitem.lookup (wpAny_getItem_list_slice ht.isList (Heap.IsSliceOf.new _ vl vu vs) pl pu ps (by decide) ?_ hsz) (by with_unfolding_all rfl)
  have ep : slicePick its.toArray l none (some 2) = (pickL (stepAt xs.length l) its).toArray := by
    unfold slicePick pickL stepAt
    rw [List.size_toArray, hlen]
    congr 1
    exact fm_congr fun i _ => by simp
  rw [ep]
  refine ⟨.ref _, _, I5.laid (t' := s4.toks) (o := .lst (pickL (stepAt xs.length l) xs)) (fun b ob q => Heap.get?_push_of_some _ q) (Nat.le_refl _) ?_, rfl, q _ (I5.hok.fresh (Nat.le_refl _))⟩
  exact ⟨Nat.le_trans pick_len (Nat.le_trans stepAt_len hz), _, 0, vals_pick r _, Heap.get?_push_size _ rfl⟩
theorem applied_rev {prog : Program} {w : World} {A : Around} {E : Value → Shared → Prop} {s : Shared} {sl : Addr} {vs : Value} {n : Nat} {Q : Int × Int × Nat → Shared → Prop} (hs : s.heap.IsSliceOf sl .none .none vs) (ps : IsPart vs (some (-1)))
    (h : Q ((n : Int) - 1, -1, n) s) : wpAny (model prog w) A (Builtin.Slice.sliceApplied (.ref sl) (pure (n : Int))) Q E s := by
  obtain ⟨os, hos, hcs, hds⟩ := id hs
  unfold Builtin.Slice.sliceApplied Builtin.Slice.sliceFields
  refine wpAny_bind (wpAny_bind (wpAny_field hos hds (x := .none) rfl (wpAny_bind (wpAny_field hos hds (x := .none) rfl (wpAny_bind (wpAny_field hos hds (x := vs) rfl (wpAny_pure ?_)))))))
  refine wpAny_bind (HT.slicePart_ ps ?_)
  show wpAny _ _ (if ((-1 : Int) == 0) = true then _ else _) _ _ s
  rw [if_neg (by decide)]
  refine wpAny_bind (HT.slicePart_ .none (wpAny_bind (HT.slicePart_ .none (wpAny_bind (wpAny_pure ?_)))))
  have e1 : Builtin.Slice.sliceAdjust none none (-1) (n : Int) = ((n : Int) - 1, -1) := by
    unfold Builtin.Slice.sliceAdjust; simp
  show wpAny _ _ (match Builtin.Slice.sliceAdjust none none (-1) (n : Int) with | (lo, hi) => pure (lo, (-1 : Int), Builtin.Slice.slicePlaces lo hi (-1))) _ _ s
  rw [e1]
  have e2 : Builtin.Slice.slicePlaces ((n : Int) - 1) (-1) (-1) = n := by
    unfold Builtin.Slice.slicePlaces
    rw [if_neg (by decide)]
    split <;> simp <;> omega
  show wpAny _ _ (pure ((n : Int) - 1, (-1 : Int), Builtin.Slice.slicePlaces ((n : Int) - 1) (-1) (-1))) _ _ s
  rw [e2]
  exact wpAny_pure h
theorem rev_pick (xs : List Value) : ((List.range xs.length).filterMap fun (m : Nat) => xs.toArray[(((xs.length : Int) - 1) + (m : Int) * (-1)).toNat]?) = xs.reverse := by
  have e : ((List.range xs.length).filterMap fun (m : Nat) => xs.toArray[(((xs.length : Int) - 1) + (m : Int) * (-1)).toNat]?) = (List.range xs.length).filterMap fun m => xs.reverse[m]? := by
    refine fm_congr fun m hm => ?_
    have hm := List.mem_range.mp hm
    rw [List.getElem?_toArray, List.getElem?_reverse hm]
    congr 1
    omega
  rw [e]
  have := PySem.W.krv_all xs.reverse.toArray
  simpa using this
theorem getItem_rev {prog : Program} {w : World} {A : Around} {E : Value → Shared → Prop} {s : Shared} {t sl : Addr} {its : List Value} {vs : Value} {Q : Value → Shared → Prop} (ht : IsTup s.heap t its.toArray) (hs : s.heap.IsSliceOf sl .none .none vs) (ps : IsPart vs (some (-1)))
    (h : Q (.ref s.heap.objs.size) { s with heap := s.heap.push { cls := .type "tuple", data := .seq its.reverse.toArray } }) (hsz : its.length ≤ sizeLine) : wpAny (model prog w) A (getItem (.ref t) (.ref sl)) Q E s := by
  have htake : sizeOk (.seq its.reverse.toArray) := by
    show its.reverse.toArray.size ≤ sizeLine
    rw [List.size_toArray, List.length_reverse]; exact hsz
  obtain ⟨os, hos, hcs, hds⟩ := id hs
  have hTs : s.TypeIs (.ref sl) "slice" := ⟨os, hos, hcs⟩
  unfold getItem
  try with_reducible refine wpAny_holding ?_
  first | refine wpAny_bind (wpAny_pure ?_) | skip
  refine wpAny_bind (wpAny_sequenceKey ht.typeIs (by decide) (wpAny_bind (wpAny_callSpecial?_slot (name := Str.ofString "__getitem__") ht.typeIs slot_tuple_getitem (wpAny_call_entry slot_tuple_getitem ht.typeIs entry_tuple_getitem ?_ (args_tuple_getitem _ _)))))
  show wpAny _ _ (Builtin.Tuple.tupleItemsOf (.ref t) >>= _) _ _ s
  refine wpAny_bind (tupleItemsOf_ ht (wpAny_bind (wpAny_typeOf hTs ?_)))
  rw [if_pos (by decide)]
  refine wpAny_bind (applied_rev hs ps ?_)
  show wpAny _ _ (if ((((its.toArray.size : Nat) : Int) - 1) == 0 && (-1 : Int) == 1 && its.toArray.size == its.toArray.size) = true then _ else _) _ _ s
  rw [if_neg (by simp), List.size_toArray, rev_pick]
  first
    | exact wpAny_bind (m := Builtin.Tuple.tupleExact _) (wpAny_newObj_type (wpAny_pure ⟨_, rfl, wpAny_pure h⟩) htake)
    | exact wpAny_bind (m := Builtin.Tuple.tupleExact _) (wpAny_newObj_type (wpAny_bind (wpAny_pure (wpAny_pure ⟨_, rfl, wpAny_pure h⟩))) htake)
    | exact wpAny_bind (wpAny_bind (m := Builtin.Tuple.tupleExact _) (wpAny_newObj_type (wpAny_pure (wpAny_pure ⟨_, rfl, wpAny_pure h⟩)) htake))
    | exact wpAny_bind (wpAny_bind (m := Builtin.Tuple.tupleExact _) (wpAny_newObj_type (wpAny_pure ⟨_, rfl, wpAny_pure h⟩) htake))
def tRevT (K : PySem.W.Frag) (te : TE) : TE := fun σ H Q => te σ H fun x H1 => ∃ a xs, x = .ref a ∧ SqT K H1 a xs ∧ NewT Q H1 xs.reverse
theorem pe_revT (he : PE X e te) : PE X (.Subscript e (.Slice none none (some (.UnaryOp .USub (.Constant (.int 1) k p1) p2)) p3) pos) (tRevT X.K te) := by
  refine ⟨fun pins s σ H Q I h => Subscript_ (thn (he.run pins s σ H _ I h) fun v s1 ⟨x, H1, I1, r1, q1⟩ => ?_)⟩
  obtain ⟨a, xs, ex, hx, q⟩ := q1
  subst ex; cases r1
  have hst : PO X (some (.UnaryOp .USub (.Constant (.int 1) k p1) p2)) (tPart (tUn (rU fun i => .int (-i)) (tC (.int 1)))) := po_some (pe_un un_neg pe_int)
  refine wpAny_Slice (thn (po_none.run pins s1 σ H1 (fun o H2 => o = none ∧ H2 = H1) I1 ⟨rfl, rfl⟩) fun vl s2 ⟨l, H2, I2, pl, el, e2⟩ => ?_)
  subst el e2; cases pl
  refine thn (po_none.run pins s2 σ H2 (fun o H3 => o = none ∧ H3 = H2) I2 ⟨rfl, rfl⟩) fun vu s3 ⟨u, H3, I3, pu, eu, e3⟩ => ?_
  subst eu e3; cases pu
  refine thn (hst.run pins s3 σ H3 (fun o H4 => o = some (-1) ∧ H4 = H3) I3 ⟨1, rfl, -1, rfl, rfl, rfl⟩) fun vs s4 ⟨o, H4, I4, ps, eo, e4⟩ => ?_
  subst eo e4
  have I5 : Inv X pins σ H4 { s4 with heap := s4.heap.push { cls := .type "slice", data := .fields #[.none, .none, vs] } } := I4.kept (t' := s4.toks) fun b ob q => Heap.get?_push_of_some _ q
  obtain ⟨its, r, ht, hz⟩ := I5.tuple hx
  have hlen := r.length
  refine tail_any (ops := [.ref a, .ref s4.heap.objs.size]) ht.typeIs slot_tuple_getitem.lookup (getItem_rev ht (Heap.IsSliceOf.new _ .none .none vs) ps ?_ (by omega)) (by with_unfolding_all rfl)
  exact newT I5 r.reverse (by rw [List.length_reverse]; exact hz) q
end
end Sp
/-! draws: the row of three at a -/
namespace Sp
open PySem L2
structure Tin (a : Addr) (m : Nat) (H : Hp) : Prop where
  ex : ∃ g l c : Int, H a = some (.lst [.int g, .int l, .int c]) ∧ 0 ≤ c ∧ c ≤ m
def Dr (a : Addr) (H H' : Hp) : Prop := Same (hide a H) H'
theorem hide_hide {a : Addr} {H : Hp} : hide a (hide a H) = hide a H := by
  funext b
  unfold hide
  split <;> simp_all
theorem Dr.refl {a : Addr} {H : Hp} : Dr a H H := hide_same
theorem Dr.same {a : Addr} {H H' : Hp} (s : Same H H') : Dr a H H' := hide_same.trans s
theorem Dr.h {a : Addr} {H H' : Hp} (d : Dr a H H') : Same (hide a H) (hide a H') := by
  have := hide_mono (a := a) d
  rwa [hide_hide] at this
theorem Dr.trans {a : Addr} {H H1 H2 : Hp} (d : Dr a H H1) (e : Dr a H1 H2) : Dr a H H2 := d.h.trans e
theorem Dr.of {a b : Addr} {H H' : Hp} {o : HO} (d : Dr a H H') (h : H b = some o) (n : b ≠ a) : H' b = some o := d b o (by rw [hide_ne n]; exact h)
theorem Dr.upd {a : Addr} {H : Hp} {o : HO} : Dr a H (upd H a o) := fun b u e => by
  unfold hide at e
  split at e
  · cases e
  · rename_i h; rw [upd_ne h]; exact e
theorem Tin.same {a : Addr} {m : Nat} {H H' : Hp} (t : Tin a m H) (s : Same H H') : Tin a m H' := by
  obtain ⟨g, l, c, h, r⟩ := t.ex
  exact ⟨g, l, c, s _ _ h, r⟩
theorem Tin.le {a : Addr} {m n : Nat} {H : Hp} (t : Tin a m H) (h : m ≤ n) : Tin a n H := by
  obtain ⟨g, l, c, h1, h2, h3⟩ := t.ex
  exact ⟨g, l, c, h1, h2, by omega⟩
theorem Tin.lst {a : Addr} {m : Nat} {H : Hp} (t : Tin a m H) : ∃ xs, H a = some (.lst xs) := by
  obtain ⟨g, l, c, h1, _⟩ := t.ex
  exact ⟨_, h1⟩
theorem Tin.ne {a b : Addr} {m : Nat} {H : Hp} (t : Tin a m H) (h : H b = none) : b ≠ a := by
  rintro rfl
  obtain ⟨xs, h1⟩ := t.lst
  rw [h] at h1; cases h1
/-- tuples stand when draws are made -/
theorem Dr.t {K : PySem.W.Frag} {a : Addr} {m : Nat} {H H' : Hp} (d : Dr a H H') (t : Tin a m H) : TSame K H H' := by
  obtain ⟨xs, h⟩ := t.lst
  exact (hide_t h).trans (Same.tup d)
theorem Dr.ne_none {a b : Addr} {H H' : Hp} (d : Dr a H H') (h : H' b = none) (n : b ≠ a) : H b = none := by
  cases hx : H b with
  | none => rfl
  | some o => rw [d.of hx n] at h; cases h
section
variable {X : Cx} {σ : L2.St} {H H' : Hp} {e a b c o i : Expr} {es : List Expr} {pos p p2 : Pos} {d da db dc : Dt} {ds : List Dt} {x : Str} {D : Ends} {rest body : List Stmt} {tg iter : Expr}
theorem pd_int1 {i : Int} (hm : X.mg "int" = none) (ha : Pd X a σ H (.int i)) (hg : Gl X "int" := by rfl) (he : starEach [a] X.env = (false, eval a X.env) :: starEach [] X.env := by rfl) : Pd X (.Call (.Name "int" p) [a] [] pos) σ H (.int i) :=
  pd_ct call_int1 hm (pa_c ha pa_n he) (fun H1 xs Q s dv q => by
    obtain ⟨v, rfl, h⟩ := dv.get1
    cases h
    exact .inl ⟨i, rfl, q _ H1 (Same.refl _) (.int _)⟩) (by decide +kernel) hg (by decide) (by decide) he
theorem pd_intB {k : Bool} (hm : X.mg "int" = none) (ha : Pd X a σ H (.bool k)) (hg : Gl X "int" := by rfl) (he : starEach [a] X.env = (false, eval a X.env) :: starEach [] X.env := by rfl) : Pd X (.Call (.Name "int" p) [a] [] pos) σ H (.int (if k then 1 else 0)) :=
  pd_ct call_int1 hm (pa_c ha pa_n he) (fun H1 xs Q s dv q => by
    obtain ⟨v, rfl, h⟩ := dv.get1
    cases h
    exact .inr ⟨k, rfl, q _ H1 (Same.refl _) (.int _)⟩) (by decide +kernel) hg (by decide) (by decide) he
theorem pd_min2 {i j : Int} (hc : X.calm = true) (hm : X.mg "min" = none) (ha : Pd X a σ H (.int i)) (hb : Pd X b σ H (.int j)) (hg : Gl X "min" := by rfl) (he : starEach [a, b] X.env = (false, eval a X.env) :: starEach [b] X.env := by rfl) (he2 : starEach [b] X.env = (false, eval b X.env) :: starEach [] X.env := by rfl)
    (hpl : (backTo pos (starEach [b] X.env)).any (fun z => z.1) = false := by rfl) : Pd X (.Call (.Name "min" p) [a, b] [] pos) σ H (.int (if j < i then j else i)) :=
  pd_cb (call_min2 hc) hm (pa_c ha (pa_c hb pa_n he2) he) (fun H1 xs Q s dv q => by
    obtain ⟨v, u, rfl, h, h2⟩ := dv.get2
    cases h; cases h2
    exact ⟨i, j, rfl, q _ H1 (Same.refl _) (.int _)⟩) (by decide +kernel) hg (by decide) (by decide) he hpl
/-! ### loops, whatever they change -/
structure Src2 (J : It) (B : Hp → Prop) (n : Nat) (Y : Nat → V → Hp → Prop) : Prop where
  go : ∀ i H', B H' → i < n → J.go i H'
  stop : ∀ H', B H' → J.stop n H'
  yld : ∀ i H' x H'', B H' → i < n → J.yld i H' x H'' → Same H' H'' ∧ Y i x H''
/-- what is walked is told first, then the loop -/
def Mono (wi : TI) : Prop := ∀ {σ : L2.St} {H : Hp} {Q Q' : It → Hp → Prop}, wi σ H Q → (∀ J H', Q J H' → Q' J H') → wi σ H Q'
theorem WA.mono {Q Q' : List V → Hp → Prop} (h : WA X es σ H Q) (k : ∀ v H', Q v H' → Q' v H') : WA X es σ H Q' := ⟨fun pos pins s I =>
  thn (h.run pos pins s I) fun _ _ ⟨v, H', I', r, q⟩ => ⟨v, H', I', r, k v H' q⟩⟩
theorem mono_rng : Mono (iRng1 (WA X es)) := fun h k => WA.mono h fun _ _ ⟨j, e, a, b, q⟩ => ⟨j, e, a, b, k _ _ q⟩
theorem mono_list : Mono (iList X.K (WE X e)) := fun h k => WE.mono h fun _ _ ⟨a, e, b, q⟩ => ⟨a, e, b, k _ _ q⟩
theorem mono_enum : Mono (iEnum X.K (WA X es)) := fun h k => WA.mono h fun _ _ ⟨a, xs, e, b, q⟩ => ⟨a, xs, e, b, k _ _ q⟩
theorem mono_zip : Mono (iZip X.K (WA X es)) := fun h k => WA.mono h fun _ _ ⟨a, b, xs, ys, e, h1, h2, q⟩ => ⟨a, b, xs, ys, e, h1, h2, k _ _ q⟩
theorem src2_rng {n : Nat} : Src2 (Itr 0 n) (fun _ => True) n (fun i x _ => x = .int (i : Int)) where
  go i H' _ h := h
  stop H' _ := Nat.le_refl n
  yld i H' x H'' _ _ y := by
    obtain ⟨rfl, rfl⟩ := y
    exact ⟨Same.refl _, by rw [Int.zero_add]⟩
theorem src2_list {K : PySem.W.Frag} {a : Addr} {us : List V} : Src2 (Itl K a) (fun H' => SqL K H' a us) us.length (fun i x _ => us[i]? = some x) where
  go i H' h hi := ⟨us, us[i], h, by simp [hi]⟩
  stop H' h := ⟨us, h, Nat.le_refl _⟩
  yld i H' x H'' h hi y := by
    obtain ⟨rfl, y⟩ := y
    exact ⟨Same.refl _, y us h⟩
theorem src2_enum {K : PySem.W.Frag} {a : Addr} {us : List V} : Src2 (Ite K a) (fun H' => SqL K H' a us) us.length (fun i x H'' => ∃ T y, x = .ref T ∧ H'' T = some (.tup [.int (i : Int), y]) ∧ us[i]? = some y) where
  go i H' h hi := ⟨us, us[i], h, by simp [hi]⟩
  stop H' h := ⟨us, h, Nat.le_refl _⟩
  yld i H' x H'' h hi y := by
    obtain ⟨T, y1, rfl, hT, rfl, y⟩ := y
    exact ⟨Same.new hT, T, y1, rfl, upd_same, y us h⟩
/-- the loop behind its row -/
def Loop (X : Cx) (g : TG) (body rest : List Stmt) (D : Ends) (σ : L2.St) (J : It) (H1 : Hp) : Prop := ∃ (n : Nat) (B : Hp → Prop) (Y : Nat → V → Hp → Prop) (T : Nat → V → Hp → L2.St → L2.St → Prop) (Pv : Nat → L2.St → Hp → Prop), Src2 J B n Y ∧ Pv 0 σ H1 ∧
  (∀ (i : Nat) x σ H Q, Y i x H → (∀ σ', T i x H σ σ' → Q σ' H) → g x σ H Q) ∧ (∀ i σ' H', Pv i σ' H' → B H') ∧
  (∀ (i : Nat) x σ1 σ2 H1 H2 N, i < n → Pv i σ1 H1 → Same H1 H2 → Y i x H2 → T i x H2 σ1 σ2 → (∀ σ' H', Pv (i + 1) σ' H' → N σ' H') → WB X body { D with nx := N, ct := N, bk := WB X rest D } σ2 H2) ∧
  (∀ σ1 H1, Pv n σ1 H1 → WB X rest D σ1 H1)
theorem wb_forG {wi : TI} {g : TG} (pi : PI X tg iter wi) (pg : PG X tg g) (mono : Mono wi) (h : wi σ H (Loop X g body rest D σ))
    (hc : X.calm = true := by rfl) (hp : PassesOwn (model X.prog X.w) X.A X.env X.xe := by exact PassesOwn.never) (hf : ∀ x, foldedSetIterable iter X.env x = pure x := by intro _; rfl) : WB X (.For tg iter body [] pos :: rest) D σ H :=
  wb_ps (ps_for hp hc pi pg pb_w hf) (mono h fun J H1 ⟨n, B, Y, T, Pv, src, p0, ht, hb, hs, hd⟩ => by
    refine ⟨fun i m σ' H' => m = n - i ∧ i ≤ n ∧ Pv i σ' H', ⟨_, rfl, Nat.zero_le _, p0⟩, ?_⟩
    rintro i m σ1 H2 ⟨rfl, hi, p⟩
    by_cases hlt : i < n
    · refine .inr ⟨src.go i H2 (hb _ _ _ p) hlt, fun σ' H' => Pv (i + 1) σ' H', fun σ' H' q => ⟨_, by omega, rfl, hlt, q⟩, fun x H3 y => ?_⟩
      obtain ⟨s3, hy⟩ := src.yld i H2 x H3 (hb _ _ _ p) hlt y
      exact ht i x σ1 H3 _ hy fun σ2 hT => hs i x σ1 σ2 H2 H3 _ hlt p s3 hy hT fun σ' H' q => q
    · have e2 : i = n := by omega
      subst e2
      exact .inl ⟨src.stop H2 (hb _ _ _ p), hd σ1 H2 p⟩)
def sSet (j : Nat) : Nat → V → Hp → L2.St → L2.St → Prop := fun _ x _ σ σ' => σ' = σ.set j (some x)
theorem hs_set {j : Nat} {Y : Nat → V → Hp → Prop} : ∀ (i : Nat) x (σ : L2.St) (H : Hp) Q, Y i x H → (∀ σ', sSet j i x H σ σ' → Q σ' H) → gName j x σ H Q := fun _ _ _ _ _ _ q => q _ rfl
end
section
variable {P : Program} {w : World} {K : PySem.W.Frag} {mg : Str → Option Value} {base : Heap} {f : Addr} {fd : FuncData}
/-- a draw -/
def sp_take : Sp := fun vs H Q _ => ∃ a n m, vs = [.ref a, .int (n : Nat)] ∧ (0 < n ∧ n < 1073741824) ∧ Tin a m H ∧ m < 2 ^ 60 ∧ ∀ (r : Nat) H', r < n → Dr a H H' → Tin a (m + 1) H' → Q (.int (r : Int)) H'
theorem at3 {x y z : V} : ([x, y, z] : List V)[2]? = some z := rfl
theorem ok_law_take (F : Fun K "_law_take" "_law_take" s__law_take f fd) (T : Tx mg) : FnOk P w K mg base CX0 1 f fd ["tin", "below_so"] sp_take := by
  refine fn_s F sc__law_take (fun vs H Q E h => by obtain ⟨_, _, _, rfl, _⟩ := h; rfl) fun cdv A outer s H vs Q E hr h => ?_
  obtain ⟨a, n, m, rfl, ⟨hn0, hn1⟩, ht, hm, q⟩ := h
  obtain ⟨g, l, c, hl, hc0, hc1⟩ := ht.ex
  have dt : ∀ {H' : Hp} {g l c : Int}, H' a = some (.lst [.int g, .int l, .int c]) → Dc K H' (.ref a) (.list [.int g, .int l, .int c]) := fun h => .lst (SqL.of h) (.cons (.int _) (.cons (.int _) (.one (.int _))))
  have md : ∀ {i : Int}, ∃ r : Nat, i % (n : Int) = r ∧ r < n := fun {i} => by
    have h1 := Int.emod_nonneg i (show (n : Int) ≠ 0 by omega)
    have h2 := Int.emod_lt_of_pos i (show 0 < (n : Int) by omega)
    exact ⟨(i % n).toNat, by omega, by omega⟩
  refine wb_whenD (k := decide (0 < g)) (pt_gt (pd_ixL (pd_v 0 rfl (dt hl)) pd_int at0) pd_int) (fun _ H1 s1 => ?_) fun _ H1 s1 => ?_
  · have hl1 := s1 _ _ hl
    obtain ⟨r, er, hrn⟩ := md (i := g)
    refine wb_setD 2 (d := .int (r : Int)) (Pd.is (pd_mod (pd_int1 T.int (pd_ixL (pd_v 0 rfl (dt hl1)) pd_int at0)) (pd_v 1 rfl (.int _)) (by omega)) (by rw [er])) (fun v H2 s2 dv => ?_) sc__law_take.nd
    cases dv
    have hl2 := s2 _ _ hl1
    refine wb_sub ((pd_fdiv (pd_ixL (pd_v 0 rfl (dt hl2)) pd_int at0) (pd_v 1 rfl (.int _)) ⟨by omega, by omega⟩).run fun v H3 s3 dv => ?_)
    cases dv
    have hl3 := s3 _ _ hl2
    refine we_of (pv 0) ⟨_, rfl, we_of pe_int ⟨a, _, 0, rfl, hl3, ⟨0, rfl, rfl⟩, wb_ret (we_of (pv 2) ⟨_, rfl, ?_⟩)⟩⟩
    refine q r _ hrn (((Dr.same s1).trans ((Dr.same s2).trans (Dr.same s3))).trans Dr.upd) ⟨_, l, c, upd_same, hc0, by omega⟩
  · have hl1 := s1 _ _ hl
    refine wb_sub ((pd_add (pd_ixL (pd_v 0 rfl (dt hl1)) pd_int at2) pd_int).run fun v H2 s2 dv => ?_)
    cases dv
    have hl2 := s2 _ _ hl1
    refine we_of (pv 0) ⟨_, rfl, we_of pe_int ⟨a, _, 2, rfl, hl2, ⟨2, rfl, rfl⟩, ?_⟩⟩
    have hl3 : upd H2 a (.lst [.int g, .int l, .int (c + 1)]) a = some (.lst [.int g, .int l, .int (c + 1)]) := upd_same
    have d3 : Dr a H (upd H2 a (.lst [.int g, .int l, .int (c + 1)])) := (Dr.same (s1.trans s2)).trans Dr.upd
    show WB _ _ _ _ (upd H2 a (.lst [.int g, .int l, .int (c + 1)]))
    generalize upd H2 a (.lst [.int g, .int l, .int (c + 1)]) = H3 at hl3 d3
    refine wb_setD 3 (pd_mod (pd_int1 T.int (pd_mul (pd_add (pd_ixL (pd_v 0 rfl (dt hl3)) pd_int at1) (pd_mul pd_int (pd_ixL (pd_v 0 rfl (dt hl3)) pd_int at2) (.inl ⟨by decide, by decide⟩))) (pd_add pd_int (pd_ixL (pd_v 0 rfl (dt hl3)) pd_int at2)) (.inr ⟨by omega, by omega⟩))) pd_int (by decide)) (fun v1 H4 s4 dv1 => ?_) sc__law_take.nd
    have hl4 := s4 _ _ hl3
    refine wb_setD 4 (pd_add (pd_mod (pd_int1 T.int (pd_v 3 rfl dv1)) pd_int (by decide)) pd_int) (fun v2 H5 s5 dv2 => ?_) sc__law_take.nd
    have hl5 := s5 _ _ hl4
    refine wb_setD 5 (pd_mod (pd_int1 T.int (pd_mul (pd_add (pd_add (pd_v 3 rfl (Dc.kept s5 dv1)) (pd_ixL (pd_v 0 rfl (dt hl5)) pd_int at2)) (pd_fdiv (pd_ixL (pd_v 0 rfl (dt hl5)) pd_int at1) pd_int ⟨by decide, by decide⟩)) (pd_v 4 rfl dv2) (.inr ?_))) pd_int (by decide)) (fun v3 H6 s6 dv3 => ?_) sc__law_take.nd
    · constructor <;> omega
    have s56 := s5.trans s6
    refine wb_ret ((pd_mod (pd_int1 T.int (pd_fdiv (pd_mod (pd_int1 T.int (pd_add (pd_mul (pd_v 5 rfl dv3) pd_int (.inr ⟨by decide, by decide⟩)) (pd_v 3 rfl (Dc.kept s56 dv1)))) pd_int (by decide)) pd_int ⟨by decide, by decide⟩)) (pd_v 1 rfl (.int (n : Int))) (by omega)).run fun v H7 s7 dv => ?_)
    cases dv
    obtain ⟨r, er, hrn⟩ := md (i := _)
    rw [er]
    exact q r _ hrn (d3.trans (Dr.same ((s4.trans s56).trans s7))) ⟨g, l, c + 1, s7 _ _ (s6 _ _ hl5), by omega, by omega⟩
end
end Sp
namespace Sp
open PySem L2
/-- draws are left -/
abbrev lim : Nat := 2 ^ 60
section
variable {X : Cx} {σ : L2.St} {H H' : Hp} {e a b c o elt : Expr} {es : List Expr} {pos p p2 p3 : Pos} {d da db dc : Dt} {ds : List Dt} {x t : Str} {j : Nat}
/-- _law_take(tin, e) -/
theorem we_take (i : Nat) {A : Addr} {Q : VK} (F : Ds X.prog X.w X.K X.mg X.base 1 "_law_take" sp_take) (hr : Room j X.A) (hs : σ[i]? = some (some (.ref A)))
    (h : WE X e σ H fun v H1 => ∃ n m : Nat, v = .int (n : Int) ∧ (0 < n ∧ n < 1073741824) ∧ Tin A m H1 ∧ m < lim ∧ ∀ (r : Nat) H', r < n → Dr A H1 H' → Tin A (m + 1) H' → Q (.int (r : Int)) H')
    (hk : 1 ≤ j := by decide) (hN : X.N[i]? = some t := by rfl) (hv : Vis X.env.scope t := by first | exact Or.inl rfl | exact Or.inr (Or.inl rfl) | exact Or.inr (Or.inr rfl)) (hg : Gl X "_law_take" := by rfl) (h1 : (t == ("__debug__" : Str)) = false := by decide)
    (h2 : (t == ("__classdict__" : Str)) = false := by decide) (he : starEach [.Name t p2, e] X.env = (false, eval (.Name t p2) X.env) :: starEach [e] X.env := by rfl) (he2 : starEach [e] X.env = (false, eval e X.env) :: starEach [] X.env := by rfl) (hpl : (backTo pos (starEach [e] X.env)).any (fun z => z.1) = false := by rfl) :
    WE X (.Call (.Name "_law_take" p) [.Name t p2, e] [] pos) σ H Q :=
  we_call F hr (wa_cons (we_of (pv i hN hv h1 h2) ⟨_, hs, wa_cons (WE.mono h fun v H1 ⟨n, m, ev, hn, ht, hm, q⟩ => by
    subst ev
    exact wa_nil ⟨A, n, m, rfl, hn, ht, hm, q⟩) he2⟩) he) hk hg (by decide) he hpl
/-! ### a list of written items, the new list told -/
theorem we_lstF {Q : VK} (h : Pa X es σ H ds) (hz : ds.length ≤ 100000) (q : ∀ l vs H', Same H H' → H l = none → H' l = some (.lst vs) → DcAll X.K H' vs ds → Q (.ref l) H') : WE X (.List es pos) σ H Q :=
  we_of (pe_lst pa_w) (h H (Same.refl _) _ fun vs H1 s1 dv => ⟨Nat.le_trans (by rw [dv.length]; exact hz) (by decide), fun l hl => q l vs _ (s1.trans (Same.new hl)) (by
    cases hx : H l with
    | none => rfl
    | some u => rw [s1 _ _ hx] at hl; cases hl) upd_same (DcAll.kept (Same.new hl) dv)⟩)
theorem none_back {l : Addr} (s : Same H H') (h : H' l = none) : H l = none := by
  cases hx : H l with
  | none => rfl
  | some u => rw [s _ _ hx] at h; cases h
/-! ### a list of drawn data: [elt for y in range(..)] -/
theorem we_lcD (i : Nat) {y : Str} {py : Pos} {scope : Scope} {Q : VK} (hc : X.calm = true) (hN : X.N.Nodup) (pi : PI X (.Name y py) (.Call (.Name "range" p) [e] [] p2) (iRng1 (WA X [e])))
    (h : WE X e σ H fun v H1 => ∃ (n A m c : Nat) (Pr : Dt → Prop), v = .int (n : Int) ∧ n ≤ 10000 ∧ Tin A m H1 ∧
      (∀ s H0 C cl fp (k : Nat) H2, k < n → Dr A H1 H2 → Tin A (m + c * k) H2 → ∀ Q : VK, (∀ d v H3, Dr A H2 H3 → Tin A (m + c * (k + 1)) H3 → Dc X.K H3 v d → fz d = true → Pr d → Q v H3) → WE (Bk X s H0 scope C cl fp) elt ((wipe σ [i]).set i (some (.int (k : Int)))) H2 Q) ∧
      (∀ l ds vs H', Dr A H1 H' → Tin A (m + c * n) H' → H1 l = none → l ≠ A → H' l = some (.lst vs) → DcAll X.K H' vs ds → fzA ds = true → ds.length = n → (∀ d ∈ ds, Pr d) → Q (.ref l) H'))
    (he1 : starEach [e] X.env = (false, eval e X.env) :: starEach [] X.env := by rfl)
    (hj : X.N[i]? = some y := by rfl) (ok : BlkOk X.N X.env.scope scope [(y, i)] := by first | exact blkOk_by (by kernel_rfl) | exact blkOk_by (by rfl)) (hl : ∀ s H0 C cl fp, Loc (Bk X s H0 scope C cl fp).env.scope y := by intro _ _ _ _ _; first | exact .inl rfl | exact .inr rfl)
    (hfn : ∀ s H0 C cl fp, (Bk X s H0 scope C cl fp).fn y = true ∨ (Bk X s H0 scope C cl fp).env.scope.names.lookup y = some .local := by intro _ _ _ _ _; first | exact .inl rfl | exact .inr rfl)
    (hs : ∀ x, foldedSetIterable (.Call (.Name "range" p) [e] [] p2) X.env x = pure x := by intro _; rfl) : WE X (.ListComp elt [⟨.Name y py, .Call (.Name "range" p) [e] [] p2, [], 0⟩] scope pos) σ H Q :=
  we_of (pe_lc (own := [(y, i)]) (g := gName i) (tt := tYes) hc hN pi ok (fun s H0 C cl fp => pg_name hN hj (hl s H0 C cl fp) (hfn s H0 C cl fp)) (fun _ _ _ _ _ => pts_nil) (fun _ _ _ _ _ => pe_be) hs) (wa_cons (WE.mono h fun v H1 ⟨n, A, m, c, Pr, ev, hn, ht, he, q⟩ => wa_nil (by
    subst ev
    refine ⟨(n : Int), rfl, by omega, by omega, fun Dl hD => ?_⟩
    have hDA : Dl ≠ A := ht.ne hD
    refine ⟨fun k r H' => r = n - k ∧ k ≤ n ∧ Dr A H1 H' ∧ Tin A (m + c * k) H' ∧ ∃ ds vs, H' Dl = some (.lst vs) ∧ DcAll X.K H' vs ds ∧ fzA ds = true ∧ ds.length = k ∧ ∀ d ∈ ds, Pr d,
      ⟨_, rfl, Nat.zero_le _, Dr.same (Same.new hD), ht.same (Same.new hD), [], [], upd_same, .nil, rfl, rfl, fun _ h => by cases h⟩, ?_⟩
    rintro k r H' ⟨rfl, hk, dr, tk, ds, vs, h1, h2, h3, h4, h5⟩
    by_cases hlt : k < n
    · refine .inr ⟨by show k < (n : Int).toNat; omega, fun H'' => Dr A H1 H'' ∧ Tin A (m + c * (k + 1)) H'' ∧ ∃ ds vs, H'' Dl = some (.lst vs) ∧ DcAll X.K H'' vs ds ∧ fzA ds = true ∧ ds.length = k + 1 ∧ ∀ d ∈ ds, Pr d, fun H'' g' => ⟨_, by omega, rfl, hlt, g'⟩, fun x H2 yy => ?_⟩
      obtain ⟨rfl, rfl⟩ := yy
      refine ⟨wipe1, ?_⟩
      show BE X scope elt _ H2 _
      intro s' H0' C cl fp
      have ek : (0 : Int) + (k : Int) = k := by omega
      rw [ek]
      refine he s' H0' C cl fp k H2 hlt dr tk _ fun d v H3 d3 t3 dv fd pd => ?_
      have ts := d3.t (K := X.K) tk
      have hL := d3.of h1 hDA
      have tl := TSame.lst (K := X.K) (o := .lst (vs ++ [v])) hL
      refine ⟨vs, hL, ?_, Same.mut (dr.trans d3) (by rw [hide_ne hDA]; exact hD), ?_, ds ++ [d], vs ++ [v], upd_same, ?_, fzA_append h3 (by simp [fzA, fd]), by simp [h4], ?_⟩
      · have e := h2.length
        have hz : n < sizeLine := Nat.lt_of_le_of_lt hn (by decide)
        omega
      · obtain ⟨g, l, c', hl, hr⟩ := t3.ex
        exact ⟨g, l, c', by rw [upd_ne (Ne.symm hDA)]; exact hl, hr⟩
      · exact (DcAll.fz (ts.trans tl) h2 h3).append (.one (Dc.fz tl dv fd))
      · intro z hz
        rcases List.mem_append.mp hz with hz | hz
        · exact h5 z hz
        · cases hz with
          | head => exact pd
          | tail _ h => cases h
    · have e2 : k = n := by omega
      subst e2
      refine .inl ⟨by show (k : Int).toNat ≤ k; omega, q Dl ds vs H' dr tk hD hDA h1 h2 h3 h4 h5⟩)) he1)
/-! ### rows of values that are lists of their own -/
structure RowsAt (a : Addr) (H : Hp) (l : Addr) (ps : List Addr) (rows : List (List V)) : Prop where
  lst : H l = some (.lst (ps.map V.ref))
  nd : ps.Nodup
  nl : l ∉ ps
  na : a ∉ ps
  la : l ≠ a
  len : ps.length = rows.length
  row : ∀ (k : Nat) p r, ps[k]? = some p → rows[k]? = some r → H p = some (.lst r)
theorem RowsAt.dr {a l : Addr} {ps : List Addr} {rows : List (List V)} (r : RowsAt a H l ps rows) (d : Dr a H H') : RowsAt a H' l ps rows where
  lst := d.of r.lst r.la
  nd := r.nd
  nl := r.nl
  na := r.na
  la := r.la
  len := r.len
  row k p w h1 h2 := d.of (r.row k p w h1 h2) (by rintro rfl; exact r.na (List.mem_of_getElem? h1))
theorem RowsAt.set {a l p : Addr} {ps : List Addr} {rows : List (List V)} {k : Nat} {w : List V} (r : RowsAt a H l ps rows) (h : ps[k]? = some p) : RowsAt a (upd H p (.lst w)) l ps (rows.set k w) where
  lst := by
    have : l ≠ p := by rintro rfl; exact r.nl (List.mem_of_getElem? h)
    rw [upd_ne this]; exact r.lst
  nd := r.nd
  nl := r.nl
  na := r.na
  la := r.la
  len := by rw [List.length_set]; exact r.len
  row i q u h1 h2 := by
    by_cases e : i = k
    · subst e
      rw [h] at h1
      cases h1
      have hk : i < rows.length := by rw [← r.len]; exact (List.getElem?_eq_some_iff.mp h).1
      rw [List.getElem?_set_self hk] at h2
      cases h2
      exact upd_same
    · rw [List.getElem?_set_ne (Ne.symm e)] at h2
      have : q ≠ p := by
        rintro rfl
        have h3 := (List.getElem?_eq_some_iff.mp h1)
        have h4 := (List.getElem?_eq_some_iff.mp h)
        exact e ((List.getElem_inj r.nd).mp (h3.2.trans h4.2.symm))
      rw [upd_ne this]
      exact r.row i q u h1 h2
theorem RowsAt.get {a l : Addr} {ps : List Addr} {rows : List (List V)} {k : Nat} (r : RowsAt a H l ps rows) (h : k < rows.length) : ∃ p, ps[k]? = some p ∧ H p = some (.lst (rows.getD k [])) := by
  have hk : k < ps.length := by rw [r.len]; exact h
  refine ⟨ps[k], List.getElem?_eq_getElem hk, r.row k _ _ (List.getElem?_eq_getElem hk) ?_⟩
  simp [List.getD, h]
theorem rd_lcR (i : Nat) {y : Str} {py : Pos} {scope : Scope} {Q : VK} (hc : X.calm = true) (hN : X.N.Nodup) (pi : PI X (.Name y py) (.Call (.Name "range" p) [e] [] p2) (iRng1 (WA X [e])))
    (h : WE X e σ H fun v H1 => ∃ (n A m c : Nat) (Pr : List V → Prop), v = .int (n : Int) ∧ n ≤ 10000 ∧ Tin A m H1 ∧
      (∀ s H0 C cl fp (k : Nat) H2, k < n → Dr A H1 H2 → Tin A (m + c * k) H2 → ∀ Q : VK, (∀ p vs H3, Dr A H2 H3 → Tin A (m + c * (k + 1)) H3 → H2 p = none → H3 p = some (.lst vs) → Pr vs → Q (.ref p) H3) → WE (Bk X s H0 scope C cl fp) elt ((wipe σ [i]).set i (some (.int (k : Int)))) H2 Q) ∧
      (∀ l ps rows H', Dr A H1 H' → Tin A (m + c * n) H' → H1 l = none → (∀ p ∈ ps, H1 p = none) → RowsAt A H' l ps rows → rows.length = n → (∀ r ∈ rows, Pr r) → Q (.ref l) H'))
    (he1 : starEach [e] X.env = (false, eval e X.env) :: starEach [] X.env := by rfl)
    (hj : X.N[i]? = some y := by rfl) (ok : BlkOk X.N X.env.scope scope [(y, i)] := by first | exact blkOk_by (by kernel_rfl) | exact blkOk_by (by rfl)) (hl : ∀ s H0 C cl fp, Loc (Bk X s H0 scope C cl fp).env.scope y := by intro _ _ _ _ _; first | exact .inl rfl | exact .inr rfl)
    (hfn : ∀ s H0 C cl fp, (Bk X s H0 scope C cl fp).fn y = true ∨ (Bk X s H0 scope C cl fp).env.scope.names.lookup y = some .local := by intro _ _ _ _ _; first | exact .inl rfl | exact .inr rfl)
    (hs : ∀ x, foldedSetIterable (.Call (.Name "range" p) [e] [] p2) X.env x = pure x := by intro _; rfl) : tLc (iRng1 (WA X [e])) (gName i) tYes (BE X scope elt) [i] σ H Q :=
  wa_cons (WE.mono h fun v H1 ⟨n, A, m, c, Pr, ev, hn, ht, he, q⟩ => wa_nil (by
    subst ev
    refine ⟨(n : Int), rfl, by omega, by omega, fun Dl hD => ?_⟩
    have hDA : Dl ≠ A := ht.ne hD
    refine ⟨fun k r H' => r = n - k ∧ k ≤ n ∧ Dr A H1 H' ∧ Tin A (m + c * k) H' ∧ ∃ ps rows, (∀ p ∈ ps, H1 p = none) ∧ RowsAt A H' Dl ps rows ∧ rows.length = k ∧ ∀ r ∈ rows, Pr r,
      ⟨_, rfl, Nat.zero_le _, Dr.same (Same.new hD), ht.same (Same.new hD), [], [], (fun _ h => by cases h), ⟨upd_same, List.nodup_nil, by simp, by simp, hDA, rfl, fun _ _ _ h => by simp at h⟩, rfl, fun _ h => by cases h⟩, ?_⟩
    rintro k r H' ⟨rfl, hk, dr, tk, ps, rows, hfr, ra, h4, h5⟩
    by_cases hlt : k < n
    · refine .inr ⟨by show k < (n : Int).toNat; omega, fun H'' => Dr A H1 H'' ∧ Tin A (m + c * (k + 1)) H'' ∧ ∃ ps rows, (∀ p ∈ ps, H1 p = none) ∧ RowsAt A H'' Dl ps rows ∧ rows.length = k + 1 ∧ ∀ r ∈ rows, Pr r, fun H'' g' => ⟨_, by omega, rfl, hlt, g'⟩, fun x H2 yy => ?_⟩
      obtain ⟨rfl, rfl⟩ := yy
      refine ⟨wipe1, ?_⟩
      show BE X scope elt _ H2 _
      intro s' H0' C cl fp
      have ek : (0 : Int) + (k : Int) = k := by omega
      rw [ek]
      refine he s' H0' C cl fp k H2 hlt dr tk _ fun p vs H3 d3 t3 hp hv pv => ?_
      have hpA : p ≠ A := tk.ne hp
      have hpD : p ≠ Dl := by rintro rfl; rw [ra.lst] at hp; cases hp
      have hpp : p ∉ ps := fun hm => by
        obtain ⟨q, hq, e⟩ := List.getElem_of_mem hm
        have hq' : q < rows.length := by rw [← ra.len]; exact hq
        have := ra.row q p rows[q] (by rw [← e]; exact List.getElem?_eq_getElem hq) (List.getElem?_eq_getElem hq')
        rw [hp] at this; cases this
      have hp1 : H1 p = none := dr.ne_none hp hpA
      have ra3 := ra.dr d3
      have hlen := ra.len
      refine ⟨ps.map V.ref, ra3.lst, ?_, Same.mut (dr.trans d3) (by rw [hide_ne hDA]; exact hD), ?_, ps ++ [p], rows ++ [vs], ?_, ⟨?_, ?_, ?_, ?_, hDA, by simp [hlen], ?_⟩, by simp [h4], ?_⟩
      · have hz : n < sizeLine := Nat.lt_of_le_of_lt hn (by decide)
        rw [List.length_map]
        omega
      · obtain ⟨g, l, c', hl, hr⟩ := t3.ex
        exact ⟨g, l, c', by rw [upd_ne (Ne.symm hDA)]; exact hl, hr⟩
      · intro z hz
        rcases List.mem_append.mp hz with hz | hz
        · exact hfr z hz
        · cases hz with
          | head => exact hp1
          | tail _ h => cases h
      · rw [upd_same, List.map_append]; rfl
      · exact List.nodup_append.mpr ⟨ra.nd, by simp, fun a ha b hb e => by
          cases hb with
          | head => exact hpp (e ▸ ha)
          | tail _ h => cases h⟩
      · simp only [List.mem_append, List.mem_singleton, not_or]
        exact ⟨ra.nl, Ne.symm hpD⟩
      · simp only [List.mem_append, List.mem_singleton, not_or]
        exact ⟨ra.na, Ne.symm hpA⟩
      · intro q z w h1 h2
        have hne : z ≠ Dl := by
          rcases List.mem_append.mp (List.mem_of_getElem? h1) with hz | hz
          · rintro rfl; exact ra.nl hz
          · cases hz with
            | head => exact hpD
            | tail _ h => cases h
        rw [upd_ne hne]
        by_cases hq : q < ps.length
        · rw [List.getElem?_append_left hq] at h1
          rw [List.getElem?_append_left (by rw [← hlen]; exact hq)] at h2
          exact ra3.row q z w h1 h2
        · rw [List.getElem?_append_right (by omega)] at h1
          rw [List.getElem?_append_right (by omega)] at h2
          rw [← hlen] at h2
          match hx : q - ps.length with
          | 0 =>
            rw [hx] at h1 h2
            cases h1; cases h2
            exact hv
          | r + 1 => rw [hx] at h1; simp at h1
      · intro z hz
        rcases List.mem_append.mp hz with hz | hz
        · exact h5 z hz
        · cases hz with
          | head => exact pv
          | tail _ h => cases h
    · have e2 : k = n := by omega
      subst e2
      exact .inl ⟨by show (k : Int).toNat ≤ k; omega, q Dl ps rows H' dr tk hD hfr ra h4 h5⟩)) he1
theorem we_lcR (i : Nat) {y : Str} {py : Pos} {scope : Scope} {Q : VK} (hc : X.calm = true) (hN : X.N.Nodup) (pi : PI X (.Name y py) (.Call (.Name "range" p) [e] [] p2) (iRng1 (WA X [e])))
    (h : WE X e σ H fun v H1 => ∃ (n A m c : Nat) (Pr : List V → Prop), v = .int (n : Int) ∧ n ≤ 10000 ∧ Tin A m H1 ∧
      (∀ s H0 C cl fp (k : Nat) H2, k < n → Dr A H1 H2 → Tin A (m + c * k) H2 → ∀ Q : VK, (∀ p vs H3, Dr A H2 H3 → Tin A (m + c * (k + 1)) H3 → H2 p = none → H3 p = some (.lst vs) → Pr vs → Q (.ref p) H3) → WE (Bk X s H0 scope C cl fp) elt ((wipe σ [i]).set i (some (.int (k : Int)))) H2 Q) ∧
      (∀ l ps rows H', Dr A H1 H' → Tin A (m + c * n) H' → H1 l = none → (∀ p ∈ ps, H1 p = none) → RowsAt A H' l ps rows → rows.length = n → (∀ r ∈ rows, Pr r) → Q (.ref l) H'))
    (he1 : starEach [e] X.env = (false, eval e X.env) :: starEach [] X.env := by rfl)
    (hj : X.N[i]? = some y := by rfl) (ok : BlkOk X.N X.env.scope scope [(y, i)] := by first | exact blkOk_by (by kernel_rfl) | exact blkOk_by (by rfl)) (hl : ∀ s H0 C cl fp, Loc (Bk X s H0 scope C cl fp).env.scope y := by intro _ _ _ _ _; first | exact .inl rfl | exact .inr rfl)
    (hfn : ∀ s H0 C cl fp, (Bk X s H0 scope C cl fp).fn y = true ∨ (Bk X s H0 scope C cl fp).env.scope.names.lookup y = some .local := by intro _ _ _ _ _; first | exact .inl rfl | exact .inr rfl)
    (hs : ∀ x, foldedSetIterable (.Call (.Name "range" p) [e] [] p2) X.env x = pure x := by intro _; rfl) : WE X (.ListComp elt [⟨.Name y py, .Call (.Name "range" p) [e] [] p2, [], 0⟩] scope pos) σ H Q :=
  we_of (pe_lc (own := [(y, i)]) (g := gName i) (tt := tYes) hc hN pi ok (fun s H0 C cl fp => pg_name hN hj (hl s H0 C cl fp) (hfn s H0 C cl fp)) (fun _ _ _ _ _ => pts_nil) (fun _ _ _ _ _ => pe_be) hs) (rd_lcR i hc hN pi h he1 hj ok hl hfn hs)
/-- name = [rows of values] -/
theorem wb_setR (i k : Nat) {y z : Str} {py pz : Pos} {scope : Scope} {D : Ends} {rest : List Stmt} {spos : Pos} (hc : X.calm = true) (hN : X.N.Nodup) (pi : PI X (.Name y py) (.Call (.Name "range" p) [e] [] p2) (iRng1 (WA X [e])))
    (h : WE X e σ H fun v H1 => ∃ (n A m c : Nat) (Pr : List V → Prop), v = .int (n : Int) ∧ n ≤ 10000 ∧ Tin A m H1 ∧
      (∀ s H0 C cl fp (k : Nat) H2, k < n → Dr A H1 H2 → Tin A (m + c * k) H2 → ∀ Q : VK, (∀ p vs H3, Dr A H2 H3 → Tin A (m + c * (k + 1)) H3 → H2 p = none → H3 p = some (.lst vs) → Pr vs → Q (.ref p) H3) → WE (Bk X s H0 scope C cl fp) elt ((wipe σ [i]).set i (some (.int (k : Int)))) H2 Q) ∧
      (∀ l ps rows H', Dr A H1 H' → Tin A (m + c * n) H' → H1 l = none → (∀ p ∈ ps, H1 p = none) → RowsAt A H' l ps rows → rows.length = n → (∀ r ∈ rows, Pr r) → WB X rest D (σ.set k (some (.ref l))) H'))
    (he1 : starEach [e] X.env = (false, eval e X.env) :: starEach [] X.env := by rfl) (hk : X.N[k]? = some z := by rfl) (hz : X.env.scope.names.lookup z = some .local := by rfl)
    (hsw : swapsWith (.ListComp elt [⟨.Name y py, .Call (.Name "range" p) [e] [] p2, [], 0⟩] scope pos) (some (.Name z pz)) spos.line X.env = pure true := by rfl)
    (hj : X.N[i]? = some y := by rfl) (ok : BlkOk X.N X.env.scope scope [(y, i)] := by first | exact blkOk_by (by kernel_rfl) | exact blkOk_by (by rfl)) (hl : ∀ s H0 C cl fp, Loc (Bk X s H0 scope C cl fp).env.scope y := by intro _ _ _ _ _; first | exact .inl rfl | exact .inr rfl)
    (hfn : ∀ s H0 C cl fp, (Bk X s H0 scope C cl fp).fn y = true ∨ (Bk X s H0 scope C cl fp).env.scope.names.lookup y = some .local := by intro _ _ _ _ _; first | exact .inl rfl | exact .inr rfl)
    (hs : ∀ x, foldedSetIterable (.Call (.Name "range" p) [e] [] p2) X.env x = pure x := by intro _; rfl) : WB X (.Assign [.Name z pz] (.ListComp elt [⟨.Name y py, .Call (.Name "range" p) [e] [] p2, [], 0⟩] scope pos) spos :: rest) D σ H :=
  wb_ps (ps_setLc (own := [(y, i)]) (g := gName i) (tt := tYes) hc hN hk hz hsw pi ok (fun s H0 C cl fp => pg_name hN hj (hl s H0 C cl fp) (hfn s H0 C cl fp)) (fun _ _ _ _ _ => pts_nil) (fun _ _ _ _ _ => pe_be) hs)
    (rd_lcR (Q := fun v H1 => WB X rest D (σ.set k (some v)) H1) i hc hN pi h he1 hj ok hl hfn hs)
end
section
variable {P : Program} {w : World} {K : PySem.W.Frag} {mg : Str → Option Value} {base : Heap} {f : Addr} {fd : FuncData}
/-- one of a list -/
def sp_of (K : PySem.W.Frag) : Sp := fun vs H Q _ => ∃ a l us m, vs = [.ref a, .ref l] ∧ l ≠ a ∧ Tin a m H ∧ m < lim ∧ H l = some (.lst us) ∧ (0 < us.length ∧ us.length ≤ 10000) ∧ ∀ (i : Nat) y H', us[i]? = some y → Dr a H H' → Tin a (m + 1) H' → Q y H'
theorem ok_law_of (F : Fun K "_law_of" "_law_of" s__law_of f fd) (T : Tx mg) (F1 : Ds P w K mg base 1 "_law_take" sp_take) : FnOk P w K mg base CX0 2 f fd ["tin", "goods_so"] (sp_of K) := by
  refine fn_s F sc__law_of (fun vs H Q E h => by obtain ⟨_, _, _, _, rfl, _⟩ := h; rfl) fun cdv A outer s H vs Q E hr h => ?_
  obtain ⟨a, l, us, m, rfl, hla, ht, hm, hl, ⟨h0, h1⟩, q⟩ := h
  refine wb_ret (we_of (pe_ix ix_list (pv 1) pe_w (fun _ _ => rfl)) ⟨_, rfl, ?_⟩)
  refine we_take 0 F1 hr rfl (we_of (pe_callB call_len_seq rfl T.len (by decide +kernel) (pa_cons (pv 1) pa_nil) (by decide) (by decide)) ⟨_, rfl, l, us, rfl, .inl (SqL.of hl), ?_⟩)
  refine ⟨us.length, m, rfl, ⟨h0, by omega⟩, ht, hm, fun r H' hr' dr tr => ?_⟩
  exact ⟨l, us, (r : Int), us[r], rfl, rfl, SqL.of (dr.of hl hla), atI_nat (List.getElem?_eq_getElem hr'), q r _ H' (List.getElem?_eq_getElem hr') dr tr⟩
end
end Sp
namespace Sp
open PySem L2
theorem perm_erase {α : Type} : ∀ {xs : List α} {i : Nat} {z : α}, xs[i]? = some z → (z :: xs.eraseIdx i).Perm xs
  | [], _, _, h => by simp at h
  | x :: xs, 0, z, h => by cases h; exact List.Perm.refl _
  | x :: xs, i + 1, z, h => by
    have := perm_erase (xs := xs) (i := i) (z := z) (by simpa using h)
    rw [List.eraseIdx_cons_succ]
    exact (List.Perm.swap x z _).trans (List.Perm.cons x this)
theorem len_erase' {α : Type} {xs : List α} {i : Nat} {z : α} (h : xs[i]? = some z) : (xs.eraseIdx i).length + 1 = xs.length := by
  have := (perm_erase h).length_eq
  simpa using this
section
variable {X : Cx} {σ : L2.St} {H : Hp} {e1 e2 : Expr} {es : List Expr} {pos p1 p2 : Pos} {D : Ends} {rest : List Stmt} {k1 k2 : Nat} {K : PySem.W.Frag}
/-- a, b = e1, e2 of local names -/
theorem wb_two (i j : Nat) {x y : Str} {px py pt : Pos} {kt : Nat} (h : WE X e1 σ H fun u H1 => WE X e2 σ H1 fun v H2 => WB X rest D ((σ.set i (some u)).set j (some v)) H2) (hc : X.calm = true) (hN : X.N.Nodup)
    (hi : X.N[i]? = some x := by rfl) (hj : X.N[j]? = some y := by rfl) (hij : i ≠ j := by decide) (hx : X.env.scope.names.lookup x = some .local := by rfl) (hy : X.env.scope.names.lookup y = some .local := by rfl)
    (hw : swappedStores [.Tuple [.Name x px, .Name y py] kt pt] (.Tuple [e1, e2] k2 p2) X.env = pure (some [x, y]) := by rfl) (hs : swapsWithSole [.Tuple [.Name x px, .Name y py] kt pt] (.Tuple [e1, e2] k2 p2) pos.line X.env = pure false := by rfl)
    (s1 : starEach [e1, e2] X.env = (false, eval e1 X.env) :: starEach [e2] X.env := by rfl) (s2 : starEach [e2] X.env = (false, eval e2 X.env) :: starEach [] X.env := by rfl) : WB X (.Assign [.Tuple [.Name x px, .Name y py] kt pt] (.Tuple [e1, e2] k2 p2) pos :: rest) D σ H :=
  wb_ps (ps_par hc hN hi hj hij hx hy (pa_cons pe_w (pa_cons pe_w pa_nil s2) s1) hw hs) (WE.mono h fun u H1 h => WE.mono h fun v H2 h => ⟨u, v, rfl, h⟩)
end
section
variable {P : Program} {w : World} {K : PySem.W.Frag} {mg : Str → Option Value} {base : Heap} {f : Addr} {fd : FuncData}
/-- some of a list, each once -/
def sp_pick (K : PySem.W.Frag) : Sp := fun vs H Q _ => ∃ a l us m, ∃ c : Nat, vs = [.ref a, .ref l, .int (c : Int)] ∧ l ≠ a ∧ Tin a m H ∧ m + c < lim ∧ H l = some (.lst us) ∧ us.length ≤ 10000 ∧
  ∀ l' us' rest H', Dr a H H' → Tin a (m + c) H' → H l' = none → H' l' = some (.lst us') → (us' ++ rest).Perm us → us'.length = min c us.length → Q (.ref l') H'
theorem ok_law_pick (F : Fun K "_law_pick" "_law_pick" s__law_pick f fd) (T : Tx mg) (F1 : Ds P w K mg base 1 "_law_take" sp_take) : FnOk P w K mg base CX0 2 f fd ["tin", "goods_so", "count_so"] (sp_pick K) := by
  refine fn_s F sc__law_pick (fun vs H Q E h => by obtain ⟨_, _, _, _, _, rfl, _⟩ := h; rfl) fun cdv A outer s H vs Q E hr h => ?_
  obtain ⟨a, l, us, m, c, rfl, hla, ht, hm, hl, hz, q⟩ := h
  refine wb_two 3 4 (we_of (pe_callTy call_list_of rfl T.list (by decide +kernel) (pa_cons (pv 1) pa_nil) (by decide) (by decide)) ⟨_, rfl, l, us, rfl, .inl (SqL.of hl), fun p hp => we_of (pe_lst pa_nil) ⟨(by decide : 0 ≤ sizeLine), fun r hr' => ?_⟩⟩) rfl sc__law_pick.nd
  have hpa : p ≠ a := ht.ne hp
  have hrp : r ≠ p := by rintro rfl; rw [upd_same] at hr'; cases hr'
  have hr0 : H r = none := by rwa [upd_ne hrp] at hr'
  have hra : r ≠ a := ht.ne hr0
  have s3 : Same H (upd (upd H p (.lst us)) r (.lst [])) := (Same.new hp).trans (Same.new hr')
  have hp3 : upd (upd H p (.lst us)) r (.lst []) p = some (.lst us) := Same.new hr' _ _ upd_same
  have hr3 : upd (upd H p (.lst us)) r (.lst []) r = some (.lst []) := upd_same
  generalize upd (upd H p (.lst us)) r (.lst []) = H3 at s3 hp3 hr3
  have t3 := ht.same s3
  refine wb_forG (pi_range1 rfl T.range pa_w) (pg_name (i := 5) sc__law_pick.nd rfl (Or.inl rfl)) mono_rng ?_
  refine wa_cons (Pd.run (pd_min2 (i := (c : Int)) (j := (us.length : Int)) rfl T.min (pd_int1 T.int (pd_v 2 rfl (.int _))) (fun H1 s1 Q1 q1 => ?_)) fun v H4 s4 dv => wa_nil ?_) rfl
  · exact we_of (pe_callB call_len_seq rfl T.len (by decide +kernel) (pa_cons (pv 3) pa_nil) (by decide) (by decide)) ⟨_, rfl, p, us, rfl, .inl (SqL.of (s1 _ _ hp3)), q1 _ _ (Same.refl _) (.int _)⟩
  cases dv
  have en : (if ((us.length : Int)) < (c : Int) then (us.length : Int) else c) = ((min c us.length : Nat) : Int) := by split <;> omega
  rw [en]
  refine ⟨_, rfl, by omega, by omega, min c us.length, fun _ => True, fun i x _ => x = .int (i : Int), sSet 5, fun i σ' H' => (∃ o, σ' = [some (.ref a), some (.ref l), some (.int (c : Int)), some (.ref p), some (.ref r), o]) ∧ Dr a H H' ∧ Tin a (m + i) H' ∧ ∃ fn po, H' r = some (.lst fn) ∧ H' p = some (.lst po) ∧ (fn ++ po).Perm us ∧ fn.length = i, src2_rng, ?_, hs_set, fun _ _ _ _ => trivial, ?_, ?_⟩
  · exact ⟨⟨none, rfl⟩, Dr.same (s3.trans s4), t3.same s4, [], us, s4 _ _ hr3, s4 _ _ hp3, List.Perm.refl _, rfl⟩
  · rintro i x σ1 σ2 H1 H2 N hi ⟨⟨o, rfl⟩, dr, ti, fn, po, h1, h2, hperm, hlen⟩ s2 rfl rfl hN
    have hpl : i + po.length = us.length := by
      have := hperm.length_eq
      rw [List.length_append, hlen] at this
      exact this
    have h1' := s2 _ _ h1
    have h2' := s2 _ _ h2
    refine wb_append (we_of (pv 4) ⟨_, rfl, r, rfl, ⟨_, h1'⟩, we_pop (we_of (pv 3) ⟨_, rfl, p, rfl, ⟨_, h2'⟩, ?_⟩)⟩)
    refine we_take 0 F1 hr rfl (we_of (pe_callB call_len_seq rfl T.len (by decide +kernel) (pa_cons (pv 3) pa_nil) (by decide) (by decide)) ⟨_, rfl, p, po, rfl, .inl (SqL.of h2'), ?_⟩)
    refine ⟨po.length, m + i, rfl, ⟨by omega, by omega⟩, ti.same s2, by omega, fun k H4 hk d4 t4 => ?_⟩
    refine ⟨po, k, po[k], d4.of h2' hpa, ⟨rfl, by omega, List.getElem?_eq_getElem hk⟩, fn, ?_, by omega, wb_nil (hN _ _ ⟨⟨_, rfl⟩, ?_, ?_, fn ++ [po[k]], po.eraseIdx k, upd_same, ?_, ?_, by simp [hlen]⟩)⟩
    · rw [upd_ne hrp]; exact d4.of h1' hra
    · exact Same.mut (Same.mut ((dr.trans (Dr.same s2)).trans d4) (by rw [hide_ne hpa]; exact hp)) (by rw [hide_ne hra]; exact hr0)
    · obtain ⟨g, l', c', hl', hr'⟩ := t4.ex
      refine ⟨g, l', c', ?_, hr'.1, by omega⟩
      rw [upd_ne (Ne.symm hra), upd_ne (Ne.symm hpa)]; exact hl'
    · rw [upd_ne (Ne.symm hrp), upd_same]
    · have e := perm_erase (List.getElem?_eq_getElem hk)
      rw [List.append_assoc]
      exact (List.Perm.append_left fn e).trans hperm
  · rintro σ1 H1 ⟨⟨o, rfl⟩, dr, ti, fn, po, h1, h2, hperm, hlen⟩
    exact wb_ret (we_of (pv 4) ⟨_, rfl, q r fn po H1 dr (ti.le (by omega)) hr0 h1 hperm hlen⟩)
/-- a word -/
def sp_word (K : PySem.W.Frag) : Sp := fun vs H Q _ => ∃ a m, ∃ many long : Nat, vs = [.ref a, .int (many : Int), .int (long : Int)] ∧ (0 < many ∧ many ≤ 1000 ∧ long ≤ 1000) ∧ Tin a m H ∧ m + 2 * long + 1 < lim ∧
  ∀ (ns : List Int) v H', Dr a H H' → Tin a (m + 2 * long + 1) H' → Dc K H' v (.tuple (ns.map .int)) → ns.length ≤ long → (∀ i ∈ ns, 1 ≤ absI i ∧ absI i ≤ many) → Q v H'
theorem nums_ex {Pr : Int → Prop} : ∀ {ds : List Dt}, (∀ d ∈ ds, ∃ i, d = .int i ∧ Pr i) → ∃ ns : List Int, ds = ns.map .int ∧ ∀ i ∈ ns, Pr i
  | [], _ => ⟨[], rfl, fun _ h => by cases h⟩
  | d :: ds, h => by
    obtain ⟨i, rfl, hi⟩ := h d (by simp)
    obtain ⟨ns, rfl, hn⟩ := nums_ex (ds := ds) fun d hd => h d (by simp [hd])
    exact ⟨i :: ns, rfl, fun j hj => by
      rcases List.mem_cons.mp hj with rfl | hj
      · exact hi
      · exact hn j hj⟩
theorem we_tupF {X : Cx} {σ : L2.St} {H : Hp} {e : Expr} {p pos : Pos} {Q : VK} (hm : X.mg "tuple" = none) (h : WE X e σ H fun v H1 => ∃ l vs ds, v = .ref l ∧ H1 l = some (.lst vs) ∧ DcAll X.K H1 vs ds ∧ ∀ u H2, Same H1 H2 → Dc X.K H2 u (.tuple ds) → Q u H2)
    (hg : Gl X "tuple" := by rfl) (he : starEach [e] X.env = (false, eval e X.env) :: starEach [] X.env := by rfl) : WE X (.Call (.Name "tuple" p) [e] [] pos) σ H Q :=
  we_of (pe_callTy call_tupF hg hm (by decide +kernel) (pa_cons pe_w pa_nil he) (by decide) (by decide) he) (WE.mono h fun v H1 ⟨l, vs, ds, ev, hl, hd, q⟩ => by
    subst ev
    exact ⟨l, vs, rfl, SqL.of hl, fun p o hp ho => q _ _ (Same.new hp) (.tup (SqU.frz upd_same ho) (DcAll.kept (Same.new hp) hd))⟩)
theorem ok_law_word (F : Fun K "_law_word" "_law_word" s__law_word f fd) (T : Tx mg) (F1 : Ds P w K mg base 1 "_law_take" sp_take) (F2 : Ds P w K mg base 2 "_law_of" (sp_of K)) : FnOk P w K mg base CX0 3 f fd ["tin", "many_so", "long_so"] (sp_word K) := by
  refine fn_s F sc__law_word (fun vs H Q E h => by obtain ⟨_, _, _, _, rfl, _⟩ := h; rfl) fun cdv A outer s H vs Q E hr h => ?_
  obtain ⟨a, m, many, long, rfl, ⟨h0, h1, h2⟩, ht, hm, q⟩ := h
  refine wb_ret (we_tupF T.tuple (we_lcD 3 rfl sc__law_word.nd (pi_range1 rfl T.range pa_w) ?_))
  refine we_take 0 F1 hr rfl (Pd.run (pd_add (pd_v 2 rfl (.int (long : Int))) pd_int) fun v H1 s1 dv => ?_)
  cases dv
  refine ⟨long + 1, m, by rfl, ⟨by omega, by omega⟩, ht.same s1, by omega, fun n H2 hn d2 t2 => ?_⟩
  refine ⟨n, a, m + 1, 2, fun d => ∃ i, d = .int i ∧ (1 ≤ absI i ∧ absI i ≤ many), rfl, by omega, t2, ?_, ?_⟩
  · intro s' H0 C cl fp k H3 hk d3 t3 Q3 q3
    refine we_of (pe_op op_mul (pe_op op_add pe_int pe_w) pe_w) ?_
    refine we_take 0 F1 hr rfl (we_of (pv 1) ⟨_, rfl, many, m + 1 + 2 * k, rfl, ⟨h0, by omega⟩, t3, by omega, fun r H4 hr4 d4 t4 => ?_⟩)
    refine ⟨1, (r : Int), rfl, rfl, ?_⟩
    refine we_call F2 hr (wa_cons (we_of (pv 0) ⟨_, rfl, wa_cons (we_lstF (pa_c pd_int (pa_c (pd_neg pd_int) pa_n)) (by decide) fun l vs H5 s5 hl hv dv => wa_nil ?_) rfl⟩) rfl)
    have ev : vs = [.int 1, .int (-1)] := dp_ints (ns := [1, -1]) dv
    subst ev
    refine ⟨a, l, _, m + 1 + 2 * k + 1, rfl, t4.ne hl, t4.same s5, by omega, hv, ⟨by decide, by decide⟩, fun i y H6 hy d6 t6 => ?_⟩
    obtain ⟨y', rfl, hy'⟩ : ∃ j : Int, y = .int j ∧ (j = 1 ∨ j = -1) := by
      match i, hy with
      | 0, hy => cases hy; exact ⟨_, rfl, .inl rfl⟩
      | 1, hy => cases hy; exact ⟨_, rfl, .inr rfl⟩
      | i + 2, hy => simp at hy
    refine ⟨_, y', rfl, rfl, ?_, q3 (.int ((1 + (r : Int)) * y')) _ _ ((d4.trans (Dr.same s5)).trans d6) (by have := t6; rwa [show m + 1 + 2 * k + 1 + 1 = m + 1 + 2 * (k + 1) by omega] at this) (.int _) rfl ⟨_, rfl, ?_⟩⟩
    · rcases hy' with rfl | rfl <;> exact .inr ⟨by decide, by decide⟩
    · unfold absI
      rcases hy' with rfl | rfl <;> split <;> omega
  · intro l ds vs H3 d3 t3 hl hla hv dv _ hlen hall
    obtain ⟨ns, rfl, hn⟩ := nums_ex hall
    refine ⟨l, vs, _, rfl, hv, dv, fun u H4 s4 du => q ns u H4 (((Dr.same s1).trans d2).trans (d3.trans (Dr.same s4))) ((t3.same s4).le (by omega)) du (by rw [List.length_map] at hlen; omega) hn⟩
end
end Sp
namespace Sp
open PySem L2
section
variable {P : Program} {w : World} {K : PySem.W.Frag} {mg : Str → Option Value} {base : Heap} {f : Addr} {fd : FuncData}
theorem two_range (B : Bool) : -(2 ^ 64) < (if B = true then (1 : Int) else 0) ∧ (if B = true then (1 : Int) else 0) < 2 ^ 64 := by cases B <;> decide
/-- the row of draws -/
def sp_box : Sp := fun vs H Q _ => ∃ l, ∃ ns : List Int, vs = [.ref l, .int 0] ∧ H l = some (.lst (ns.map V.int)) ∧ ns.length ≤ 1000 ∧ ∀ b H', Same H H' → H b = none → Tin b 0 H' → Q (.ref b) H'
theorem ok_law_box (F : Fun K "_law_box" "_law_box" s__law_box f fd) (T : Tx mg) : FnOk P w K mg base CX0 1 f fd ["script", "k"] sp_box := by
  refine fn_s F sc__law_box (fun vs H Q E h => by obtain ⟨_, _, rfl, _⟩ := h; rfl) fun cdv A outer s H vs Q E hr h => ?_
  obtain ⟨l, ns, rfl, hl, hz, q⟩ := h
  have dl : ∀ {H' : Hp}, Same H H' → Dc K H' (.ref l) (.list (ns.map .int)) := fun s => .lst (SqL.of (s _ _ hl)) ints_dp
  refine wb_setD 2 (d := .int (if 0 < ns.length then ns.getD 0 0 else 0)) (pd_if (k := decide ((0 : Int) < ((ns.map PyData.int).length : Int))) (pt_lt (pd_v 1 rfl (.int 0)) (pd_lenL T.len (pd_v 0 rfl (dl (Same.refl _))))) (fun h => ?_) fun h => ?_) (fun v H1 s1 dv => ?_) sc__law_box.nd
  · have h := of_decide_eq_true h
    rw [List.length_map] at h
    have h' : 0 < ns.length := by omega
    refine pd_ixL (i := 0) (pd_v 0 rfl (dl (Same.refl _))) (pd_v 1 rfl (.int 0)) ?_
    rw [if_pos h']
    have := atI_nat (xs := ns.map PyData.int) (j := 0) (v := .int (ns.getD 0 0)) (by simp [List.getD, h'])
    simpa using this
  · have h := of_decide_eq_false h
    rw [List.length_map] at h
    rw [if_neg (by omega)]
    exact pd_int
  generalize (if 0 < ns.length then ns.getD 0 0 else 0) = b at dv
  refine wb_ret (we_lstF (pa_c (pd_mul (pd_abs T.abs (pd_v 2 rfl dv)) (pd_intB T.int (pd_ge (pd_abs T.abs (pd_v 2 rfl dv)) (pd_pow pd_int pd_int (by unfold CPow; decide)))) (.inr ?_)) (pa_c (pd_add (pd_add (pd_mod (pd_int1 T.int (pd_v 2 rfl dv)) pd_int (by decide)) (pd_mul pd_int (pd_v 1 rfl (.int 0)) (.inl ⟨by decide, by decide⟩))) pd_int) (pa_c pd_int pa_n))) (by simp) fun p vs H2 s2 hp hv dv2 => ?_)
  · exact two_range _
  · obtain ⟨x, y, z, rfl, d1, d2, d3⟩ := dv2.get3
    cases d1; cases d2; cases d3
    exact q p H2 (s1.trans s2) (none_back s1 hp) ⟨_, _, 0, hv, by omega, by omega⟩
/-- the first number with the later ones added -/
def sp_cells (K : PySem.W.Frag) : Sp := fun vs H Q _ => ∃ l, ∃ ns : List Int, vs = [.ref l, .int 1] ∧ SqL K H l (ns.map V.int) ∧ ns.length ≤ 1000 ∧ ∀ b (ms : List Int) H', Same H H' → H b = none → H' b = some (.lst (ms.map V.int)) → ms.length ≤ 1000 → Q (.ref b) H'
theorem cut_len {α : Type} {xs : List α} {lo hi : Option Int} : (cutD xs lo hi).length ≤ xs.length := by
  unfold cutD
  rw [List.length_take, List.length_drop]
  omega
theorem cut_ints {ns : List Int} {lo hi : Option Int} : cutV (ns.map V.int) lo hi = (cutD ns lo hi).map V.int := by
  unfold cutV cutD
  rw [List.length_map, ← List.map_drop, ← List.map_take]
theorem set_ints {ns : List Int} {i : Nat} {x : Int} : (ns.map V.int).set i (.int x) = (ns.set i x).map V.int := by rw [List.map_set]
theorem we_slL {X : Cx} {σ : L2.St} {H : Hp} {a : Expr} {lo hi : Option Expr} {pos p2 : Pos} {l h : Option Int} {Q : VK} (hl : Po X lo σ H l) (hh : Po X hi σ H h) (ho : WE X a σ H fun x H1 => Same H H1 ∧ ∃ p xs, x = .ref p ∧ SqL X.K H1 p xs ∧ ∀ H2, Same H1 H2 → ∀ q, H2 q = none → Q (.ref q) (upd H2 q (.lst (cutV xs l h)))) :
    WE X (.Subscript a (.Slice lo hi none p2) pos) σ H Q := by
  obtain ⟨tl, pl, rl⟩ := hl
  obtain ⟨th, ph, rh⟩ := hh
  refine we_of (pe_slice sl_list pe_w pl ph) (WE.mono ho fun x H1 ⟨s1, p, xs, ex, hx, q⟩ => rl H1 s1 _ fun H2 s2 => rh H2 (s1.trans s2) _ fun H3 s3 => ?_)
  subst ex
  exact ⟨p, xs, rfl, (s2.trans s3).seq hx, q H3 (s2.trans s3)⟩
theorem ok_law_cells (F : Fun K "_law_cells" "_law_cells" s__law_cells f fd) (T : Tx mg) : FnOk P w K mg base CX0 1 f fd ["script", "most_so"] (sp_cells K) := by
  refine fn_s F sc__law_cells (fun vs H Q E h => by obtain ⟨_, _, rfl, _⟩ := h; rfl) fun cdv A outer s H vs Q E hr h => ?_
  obtain ⟨l, ns, rfl, hl, hz, q⟩ := h
  have main : ∀ (b : Addr) (ms : List Int) H1, Same H H1 → H b = none → H1 b = some (.lst (ms.map V.int)) → 0 < ms.length → ms.length ≤ 1000 →
      WB (cxOf CX0 P w K mg base n__law_cells "_law_cells" (defScope s__law_cells) f cdv A outer s H E).nox ((defBody s__law_cells).drop 1) { nx := fun _ H' => Q .non H', rt := Q } [some (.ref l), some (.int 1), some (.ref b), none, none, none] H1 := by
    intro b ms H1 s1 hb hb1 hm0 hm1
    refine wb_forG (pi_enum rfl T.enumerate pa_w) (pg_tup rfl (pgs_cons (pg_name (i := 3) sc__law_cells.nd rfl (Or.inl rfl)) (pgs_cons (pg_name (i := 4) sc__law_cells.nd rfl (Or.inl rfl)) pgs_nil))) mono_enum ?_
    refine wa_cons (we_slL (l := some 1) (h := some 63) (po_s (pd_v 1 rfl (.int 1))) (po_s pd_int) (we_of (pv 0) ⟨_, rfl, Same.refl _, l, _, rfl, s1.seq hl, fun H2 s2 c hc => wa_nil ?_⟩)) rfl
    rw [cut_ints]
    have hcb : c ≠ b := by rintro rfl; rw [s2 _ _ hb1] at hc; cases hc
    have hlen : (cutD ns (some 1) (some 63)).length ≤ 1000 := Nat.le_trans cut_len hz
    generalize cutD ns (some 1) (some 63) = zs at hlen
    refine ⟨c, _, rfl, SqL.of upd_same, _, _, _, (fun i x H σ σ' => ∃ z, zs[i]? = some z ∧ σ' = (σ.set 3 (some (.int (i : Int)))).set 4 (some (.int z))), fun i σ' H' => (∃ o1 o2 o3, σ' = [some (.ref l), some (.int 1), some (.ref b), o1, o2, o3]) ∧ Same H H' ∧ H' c = some (.lst (zs.map V.int)) ∧ ∃ us : List Int, H' b = some (.lst (us.map V.int)) ∧ us.length = ms.length, src2_enum (us := zs.map V.int), ?_, ?_, ?_, ?_, ?_⟩
    · exact ⟨⟨_, _, _, rfl⟩, (s1.trans s2).trans (Same.new hc), upd_same, ms, Same.new hc _ _ (s2 _ _ hb1), rfl⟩
    · rintro i x σ H' Q' ⟨t, y, rfl, ht, hy⟩ q'
      rw [List.getElem?_map] at hy
      cases hz : zs[i]? with
      | none => rw [hz] at hy; cases hy
      | some z =>
        rw [hz] at hy
        cases hy
        exact ⟨t, _, rfl, SqT.of ht, rfl, _, [_], rfl, _, [], rfl, rfl, q' _ ⟨z, hz, rfl⟩⟩
    · rintro i σ' H' ⟨_, _, h, _⟩
      exact SqL.of h
    · rintro i x σ1 σ2 H3 H4 N hi ⟨⟨o1, o2, o3, rfl⟩, s3, hc3, us, hu, hul⟩ s4 _ ⟨z, hz, rfl⟩ hN
      have hi' : i < 1000 := by rw [List.length_map] at hi; omega
      refine wb_setD 5 (d := .int 0) (Pd.is (pd_mod (pd_int1 T.int (pd_v 3 rfl (.int (i : Int)))) (pd_v 1 rfl (.int 1)) (by decide)) (by rw [Int.emod_one])) (fun v H5 s5 dv => ?_) sc__law_cells.nd
      cases dv
      have s45 := s4.trans s5
      have hu5 := s45 _ _ hu
      obtain ⟨u0, us', rfl⟩ : ∃ u0 us', us = u0 :: us' := by
        cases us with
        | nil => simp at hul; omega
        | cons u0 us' => exact ⟨u0, us', rfl⟩
      refine wb_sub (Pd.run (pd_add (pd_ixL (i := 0) (pd_v 2 rfl (.lst (SqL.of hu5) (ints_dp (ns := u0 :: us')))) (pd_v 5 rfl (.int 0)) at0) (pd_mul (pd_v 4 rfl (.int z)) (pd_add (pd_v 3 rfl (.int (i : Int))) pd_int) (.inr ⟨by omega, by omega⟩))) fun v H6 s6 dv => ?_)
      cases dv
      have hu6 := s6 _ _ hu5
      refine we_of (pv 2) ⟨_, rfl, we_of (pv 5) ⟨_, rfl, b, _, 0, rfl, hu6, ⟨0, rfl, ixN_nat' (j := 0) (by simp)⟩, wb_nil (hN _ _ ⟨⟨_, _, _, rfl⟩, Same.mut (s3.trans (s45.trans s6)) hb, ?_, _ :: us', upd_same, by simpa using hul⟩)⟩⟩
      rw [upd_ne hcb]
      exact s6 _ _ (s45 _ _ hc3)
    · rintro σ1 H3 ⟨⟨o1, o2, o3, rfl⟩, s3, hc3, us, hu, hul⟩
      exact wb_ret (we_of (pv 2) ⟨_, rfl, q b us H3 s3 hb hu (by omega)⟩)
  refine wb_set 2 (we_of (pe_orT pe_w pe_w) ?_) sc__law_cells.nd
  refine we_of (pe_callTy call_list_of rfl T.list (by decide +kernel) (pa_cons pe_w pa_nil) (by decide) (by decide)) ?_
  refine we_slL (l := none) (h := some 1) po_n (po_s (pd_v 1 rfl (.int 1))) (we_of (pv 0) ⟨_, rfl, Same.refl _, l, _, rfl, hl, fun H2 s2 c hc => ?_⟩)
  rw [cut_ints]
  refine ⟨c, _, rfl, .inl (SqL.of upd_same), fun b hb => ⟨!((cutD ns none (some 1)).map V.int).isEmpty, .inl ⟨_, SqL.of upd_same, rfl⟩, ?_⟩⟩
  have sb := (s2.trans (Same.new (o := .lst ((cutD ns none (some 1)).map V.int)) hc)).trans (Same.new (o := .lst ((cutD ns none (some 1)).map V.int)) hb)
  have hb0 := none_back (s2.trans (Same.new (o := .lst ((cutD ns none (some 1)).map V.int)) hc)) hb
  have hlen : (cutD ns none (some 1)).length ≤ 1000 := Nat.le_trans cut_len hz
  by_cases he : (cutD ns none (some 1)) = []
  · rw [he] at sb ⊢
    rw [if_neg (by decide)]
    refine we_of (pe_one pe_w) (we_lstF (pa_c pd_int pa_n) (by decide) fun p vs H3 s3 hp hv dv => ?_)
    have ev : vs = [.int 0] := dp_ints (ns := [0]) dv
    subst ev
    exact main p [0] H3 (sb.trans s3) (none_back sb hp) hv (by decide) (by decide)
  · have h0 : 0 < (cutD ns none (some 1)).length := List.length_pos_iff.mpr he
    rw [if_pos (by cases hx : cutD ns none (some 1) with
      | nil => exact absurd hx he
      | cons x xs => rfl)]
    exact main b _ _ sb hb0 upd_same h0 hlen
end
end Sp
namespace Sp
open PySem L2
/-! ### all turns -/
def tI (ns : List Int) : Dt := .tuple (ns.map .int)
def nextT (o : List Int) : List (List Int) := (([0, 1, 2, 3] : List Int).filter fun i => !decide (i ∈ o)).map fun i => o ++ [i]
def TL : Nat → List (List Int)
  | 0 => [[]]
  | n + 1 => ((TL n).map nextT).flatten
theorem fz_tI {ns : List Int} : fz (tI ns) = true := fz_ints
theorem fz_tIs {xs : List (List Int)} : fzA (xs.map tI) = true := fzA_iff.mpr fun d hd => by
  obtain ⟨ns, _, rfl⟩ := List.mem_map.mp hd; exact fz_tI
theorem TL_perm : (TL 4).all (fun o => ([0, 1, 2, 3] : List Int).isPerm o) = true := by decide +kernel
theorem TL_all {o : List Int} (h : o ∈ TL 4) : srt o = [0, 1, 2, 3] := (srt_eq (List.isPerm_iff.mp (List.all_eq_true.mp TL_perm o h)) (by decide)).symm
theorem TL_some : ∀ f g : Fin 4, ((TL 4).filter fun o => decide (o.getD f.val 0 = (g.val : Int))).length ≠ 0 := by decide +kernel
theorem TL_len : ∀ i, i ≤ 4 → (TL i).length ≤ 24 := by decide +kernel
theorem TL_short : ∀ i, i ≤ 4 → (TL i).all (fun o => decide (o.length ≤ 4)) = true := by decide +kernel
section
variable {P : Program} {w : World} {K : PySem.W.Frag} {mg : Str → Option Value} {base : Heap} {f : Addr} {fd : FuncData}
/-- a call without arguments -/
theorem we_call0 {X : Cx} {σ : L2.St} {H : Hp} {x : Str} {p pos : Pos} {k j : Nat} {sp : Sp} {Q : VK} (F : Ds X.prog X.w X.K X.mg X.base k x sp) (hr : Room j X.A) (h : sp [] H Q E0) (hk : k ≤ j := by decide) (hg : Gl X x := by rfl) (hdb : (x == ("__debug__" : Str)) = false := by decide) : WE X (.Call (.Name x p) [] [] pos) σ H Q := by
  obtain ⟨f, fd, ps, hm, kp, hb, F⟩ := F.ex
  exact we_of (pe_call0 F (hr.mono hk) hg hm kp hb .nil pass0 hdb) h
def sp_turns (K : PySem.W.Frag) : Sp := fun vs H Q _ => vs = [] ∧ ∀ l us H', Same H H' → H l = none → H' l = some (.lst us) → DcAll K H' us ((TL 4).map tI) → Q (.ref l) H'
theorem take_flat {xs : List (List Int)} {j : Nat} {o : List Int} (h : xs[j]? = some o) : ((xs.take (j + 1)).map nextT).flatten = ((xs.take j).map nextT).flatten ++ nextT o := by
  rw [List.take_add_one, h, List.map_append, List.flatten_append]; simp
theorem next_len {o : List Int} : (nextT o).length ≤ 4 := by
  unfold nextT
  rw [List.length_map]
  exact List.length_filter_le _ _
theorem flat_len {xs : List (List Int)} : ((xs.map nextT).flatten).length ≤ 4 * xs.length := by
  induction xs with
  | nil => simp
  | cons x xs ih =>
    rw [List.map_cons, List.flatten_cons, List.length_append, List.length_cons]
    have := next_len (o := x)
    omega
theorem ok_law_turns (F : Fun K "_law_turns" "_law_turns" s__law_turns f fd) (T : Tx mg) : FnOk P w K mg base CX0 1 f fd [] (sp_turns K) := by
  refine fn_s F sc__law_turns (fun vs H Q E h => by obtain ⟨rfl, _⟩ := h; rfl) fun cdv A outer s H vs Q E hr h => ?_
  obtain ⟨rfl, q⟩ := h
  refine wb_set 0 (we_lstF (pa_c (pd_tup pa_n) pa_n) (by decide) fun p vs0 H1 s1 hp hv0 dv0 => ?_) sc__law_turns.nd
  refine wb_forG (pi_range1 rfl T.range pa_w) (pg_name (i := 1) sc__law_turns.nd rfl (Or.inl rfl)) mono_rng ?_
  refine wa_cons (we_of pe_int (wa_nil ⟨_, rfl, by decide, by decide, 4, fun _ => True, fun i x _ => x = .int (i : Int), sSet 1, fun i σ' H' => ∃ o1 o2 o3 o4 p vs, σ' = [some (.ref p), o1, o2, o3, o4] ∧ H p = none ∧ H' p = some (.lst vs) ∧ DcAll K H' vs ((TL i).map tI) ∧ Same H H',
    src2_rng, ?_, hs_set, fun _ _ _ _ => trivial, ?_, ?_⟩)) rfl
  · exact ⟨_, _, _, _, p, vs0, rfl, hp, hv0, dv0, s1⟩
  · rintro i x σ1 σ2 H2 H3 N hi ⟨o1, o2, o3, o4, p, vs, rfl, hp, hv, dv, s2⟩ s3 rfl rfl hN
    refine wb_set 2 (we_lstF pa_n (by decide) fun r us H4 s4 hr4 hu du => ?_) sc__law_turns.nd
    cases du
    have hr0 : H r = none := none_back (s2.trans s3) hr4
    have s34 := s3.trans s4
    have hpr : p ≠ r := by rintro rfl; rw [s3 _ _ hv] at hr4; cases hr4
    have hTl := TL_len i (by omega)
    have hvl : vs.length = (TL i).length := by rw [dv.length, List.length_map]
    refine wb_forG (pi_list pe_w) (pg_name (i := 3) sc__law_turns.nd rfl (by first | exact Or.inl rfl | exact Or.inr rfl)) mono_list ?_
    refine we_of (pv 0) ⟨_, rfl, p, rfl, ⟨vs, SqL.of (s34 _ _ hv)⟩, vs.length, fun H' => SqL K H' p vs, _, sSet 3, fun j σ' H' => (∃ o3 o4, σ' = [some (.ref p), some (.int (i : Int)), some (.ref r), o3, o4]) ∧ Same H H' ∧ H' p = some (.lst vs) ∧ DcAll K H' vs ((TL i).map tI) ∧ ∃ us, H' r = some (.lst us) ∧ DcAll K H' us ((((TL i).take j).map nextT).flatten.map tI),
      src2_list (us := vs), ?_, hs_set, ?_, ?_, ?_⟩
    · exact ⟨⟨_, _, rfl⟩, s2.trans s34, s34 _ _ hv, DcAll.kept s34 dv, [], hu, .nil⟩
    · rintro j σ' H' ⟨_, _, h, _⟩
      exact SqL.of h
    · rintro j x σ1 σ2 H5 H6 N2 hj ⟨⟨o3, o4, rfl⟩, s5, hv5, dv5, us, hu5, du5⟩ s6 hx rfl hN2
      have hj' : j < (TL i).length := by rw [← hvl]; exact hj
      obtain ⟨d, hd, dx⟩ := dv5.got hx
      have hd' : d = tI ((TL i)[j]) := by
        rw [List.getElem?_map, List.getElem?_eq_getElem hj'] at hd
        exact (Option.some.inj hd).symm
      subst hd'
      have ho : (TL i)[j]? = some ((TL i)[j]) := List.getElem?_eq_getElem hj'
      have hsh : ((TL i)[j]).length ≤ 4 := of_decide_eq_true (List.all_eq_true.mp (TL_short i (by omega)) _ (List.getElem_mem hj'))
      generalize (TL i)[j] = o at dx ho hsh
      have dx6 := Dc.kept s6 dx
      refine wb_extend (we_of (pv 2) ⟨_, rfl, r, rfl, ⟨us, s6 _ _ hu5⟩, Pl.run (Pl.is (pl_lcF (ds := rngD 4) 4 (fun d => tI (o ++ [intOf d])) (fun d => !decide (intOf d ∈ o)) rfl sc__law_turns.nd (pi_range1 rfl T.range pa_w) (src_range (pa_c pd_int pa_n) (by omega)) (by rw [rngD_len]; omega)
        (fun s' H0 C cl fp n b u H7 hb sm7 du => ?_) (fun s' H0 C cl fp n b u H7 hb _ sm7 du => ?_) fun _ _ _ => fz_tI) (es := (nextT o).map tI) ?_) fun b zs H7 s7 hb hz dz => ⟨b, us, zs, rfl, ⟨s7 _ _ (s6 _ _ hu5), hz⟩, ?_, wb_nil (hN2 _ _ ⟨⟨_, _, rfl⟩, ?_, ?_, ?_, us ++ zs, upd_same, ?_⟩)⟩⟩)
      · obtain ⟨_, rfl⟩ := rngD_at hb
        exact pt_ninI (pd_v 4 rfl du) (pd_v 3 rfl (Dc.kept sm7 dx6))
      · obtain ⟨_, rfl⟩ := rngD_at hb
        refine Pd.is (pd_catT (es' := [.int (n : Int)]) (pd_v 3 rfl (Dc.kept sm7 dx6)) (pd_tup (pa_c (pd_v 4 rfl du) pa_n)) (by simp; omega)) ?_
        show PyData.tuple (o.map .int ++ [.int (n : Int)]) = .tuple ((o ++ [(n : Int)]).map .int)
        rw [List.map_append]
        rfl
      · rw [rngD_nums, List.filter_map, List.map_map, nextT, List.map_map]
        rfl
      · have e1 := du5.length
        have e2 := dz.length
        rw [List.length_map] at e1 e2
        have l1 := next_len (o := o)
        have l2 := flat_len (xs := (TL i).take j)
        have l3 : ((TL i).take j).length ≤ 24 := by rw [List.length_take]; omega
        omega
      · exact Same.mut (s5.trans (s6.trans s7)) hr0
      · rw [upd_ne hpr]; exact s7 _ _ (s6 _ _ hv5)
      · exact DcAll.fz (TSame.lst (s7 _ _ (s6 _ _ hu5))) (DcAll.kept (s6.trans s7) dv5) fz_tIs
      · rw [take_flat ho, List.map_append]
        have tl := TSame.lst (K := K) (o := .lst (us ++ zs)) (s7 _ _ (s6 _ _ hu5))
        exact (DcAll.fz tl (DcAll.kept (s6.trans s7) du5) fz_tIs).append (DcAll.fz tl dz fz_tIs)
    · rintro σ1 H5 ⟨⟨o3, o4, rfl⟩, s5, hv5, dv5, us, hu5, du5⟩
      refine wb_set 0 (we_of (pv 2) ⟨_, rfl, ?_⟩) sc__law_turns.nd
      refine wb_nil (hN _ _ ⟨_, _, _, _, r, us, rfl, hr0, hu5, ?_, s5⟩)
      rw [hvl, List.take_length] at du5
      exact du5
  · rintro σ1 H2 ⟨o1, o2, o3, o4, p, vs, rfl, hp, hv, dv, s2⟩
    exact wb_ret (we_of (pv 0) ⟨_, rfl, q p vs H2 s2 hp hv dv⟩)
end
end Sp
namespace Sp
open PySem L2
/-! ### a partial matching of places, as a space -/
abbrev Cell := Option (Nat × List Int)
def cellD : Cell → Dt
  | none => .none
  | some (o, ns) => .tuple [.int (o : Int), tI ns]
def rowD (g : Nat → Nat → Cell) (k : Nat) : List Dt := (List.range 4).map fun f => cellD (g k f)
def spaceD (many : Nat) (g : Nat → Nat → Cell) : Dt := .tuple ((List.range many).map fun k => .tuple (rowD g k))
theorem fz_cell {c : Cell} : fz (cellD c) = true := by
  cases c with
  | none => rfl
  | some c => obtain ⟨o, ns⟩ := c; simp [cellD, fz, fzA, fz_tI]
theorem inv_inv_all : ∀ a b c d : Fin 4, [a, b, c, d].Nodup → inv (inv [(a.val : Int), b.val, c.val, d.val]) = [(a.val : Int), b.val, c.val, d.val] := by decide +kernel
theorem inv_perm_all : ∀ a b c d : Fin 4, [a, b, c, d].Nodup → ([0, 1, 2, 3] : List Int).isPerm (inv [(a.val : Int), b.val, c.val, d.val]) = true := by decide +kernel
theorem inv_at_all : ∀ a b c d : Fin 4, [a, b, c, d].Nodup → ∀ f : Fin 4, (inv [(a.val : Int), b.val, c.val, d.val]).getD (([(a.val : Int), b.val, c.val, d.val] : List Int).getD f.val 0).toNat 0 = (f.val : Int) := by decide +kernel
theorem inv_inv {ns : List Int} (h : srt ns = [0, 1, 2, 3]) : inv (inv ns) = ns := by
  obtain ⟨a, b, c, d, rfl, nd⟩ := turn_four h
  exact inv_inv_all a b c d nd
theorem inv_turn {ns : List Int} (h : srt ns = [0, 1, 2, 3]) : srt (inv ns) = [0, 1, 2, 3] := by
  obtain ⟨a, b, c, d, rfl, nd⟩ := turn_four h
  exact (srt_eq (List.isPerm_iff.mp (inv_perm_all a b c d nd)) (by decide)).symm
theorem inv_at {ns : List Int} {f t : Nat} (h : srt ns = [0, 1, 2, 3]) (hf : f < 4) (e : ns.getD f 0 = (t : Int)) : (inv ns).getD t 0 = (f : Int) := by
  obtain ⟨a, b, c, d, rfl, nd⟩ := turn_four h
  have := inv_at_all a b c d nd ⟨f, hf⟩
  rw [show ([(a.val : Int), b.val, c.val, d.val] : List Int).getD f 0 = (t : Int) from e] at this
  simpa using this
/-- what a matching keeps -/
structure LInv (many : Nat) (ls : List (Nat × Nat)) (g : Nat → Nat → Cell) : Prop where
  nd : ls.Nodup
  left : ∀ p ∈ ls, p.1 < many ∧ p.2 < 4 ∧ g p.1 p.2 = none
  seam : ∀ k f o ns, k < many → f < 4 → g k f = some (o, ns) → o < many ∧ srt ns = [0, 1, 2, 3] ∧ ∃ t : Nat, t < 4 ∧ ns.getD f 0 = (t : Int) ∧ (o, t) ≠ (k, f) ∧ g o t = some (k, inv ns)
def put (g : Nat → Nat → Cell) (b f : Nat) (c : Cell) : Nat → Nat → Cell := fun k h => if (k, h) = (b, f) then c else g k h
theorem LInv.put {many : Nat} {ls ls' : List (Nat × Nat)} {g : Nat → Nat → Cell} {b f o t : Nat} {ns : List Int} (L : LInv many ls g) (hp : ((b, f) :: (o, t) :: ls').Perm ls) (ht : srt ns = [0, 1, 2, 3]) (e : ns.getD f 0 = (t : Int)) :
    LInv many ls' (put (put g b f (some (o, ns))) o t (some (b, inv ns))) := by
  have nd := hp.nodup_iff.mpr L.nd
  obtain ⟨n1, n2⟩ := List.nodup_cons.mp nd
  obtain ⟨n2, n3⟩ := List.nodup_cons.mp n2
  have hbf := L.left (b, f) (hp.mem_iff.mp (by simp))
  have hot := L.left (o, t) (hp.mem_iff.mp (by simp))
  have hne : (b, f) ≠ (o, t) := fun z => n1 (by rw [z]; simp)
  refine ⟨n3, fun p hp' => ?_, fun k h o' ns' hk hh hg => ?_⟩
  · have := L.left p (hp.mem_iff.mp (by simp [hp']))
    refine ⟨this.1, this.2.1, ?_⟩
    have h1 : (p.1, p.2) ≠ (o, t) := fun z => n2 (by rw [← z]; exact hp')
    have h2 : (p.1, p.2) ≠ (b, f) := fun z => n1 (by rw [← z]; exact List.mem_cons_of_mem _ hp')
    unfold Sp.put
    rw [if_neg h1, if_neg h2]
    exact this.2.2
  · by_cases h1 : (k, h) = (o, t)
    · cases h1
      simp only [Sp.put, if_true] at hg
      cases hg
      refine ⟨hbf.1, inv_turn ht, f, hbf.2.1, inv_at ht hbf.2.1 e, hne, ?_⟩
      unfold Sp.put
      rw [if_neg hne, if_pos rfl, inv_inv ht]
    by_cases h2 : (k, h) = (b, f)
    · cases h2
      unfold Sp.put at hg
      rw [if_neg h1, if_pos rfl] at hg
      cases hg
      refine ⟨hot.1, ht, t, hot.2.1, e, hne.symm, ?_⟩
      unfold Sp.put
      rw [if_pos rfl]
    · unfold Sp.put at hg
      rw [if_neg h1, if_neg h2] at hg
      obtain ⟨a1, a2, t', a3, a4, a5, a6⟩ := L.seam k h o' ns' hk hh hg
      refine ⟨a1, a2, t', a3, a4, a5, ?_⟩
      have q1 : (o', t') ≠ (o, t) := fun z => by cases z; rw [hot.2.2] at a6; cases a6
      have q2 : (o', t') ≠ (b, f) := fun z => by cases z; rw [hbf.2.2] at a6; cases a6
      unfold Sp.put
      rw [if_neg q1, if_neg q2]
      exact a6
theorem numsOf_tI {ns : List Int} : numsOf (tI ns) = ns := by
  show (ns.map PyData.int).map intOf = ns
  rw [List.map_map]
  exact List.map_id'' (fun _ => rfl) ns
theorem isTurn_tI {ns : List Int} (h : srt ns = [0, 1, 2, 3]) : isTurn (tI ns) = true := by
  rw [isTurn, numsOf_tI, h]
  show ((ns.map PyData.int).all isNum && _) = true
  rw [Bool.and_eq_true]
  exact ⟨List.all_eq_true.mpr fun d hd => by obtain ⟨i, _, rfl⟩ := List.mem_map.mp hd; rfl, by decide⟩
theorem space_row {many k : Nat} {g : Nat → Nat → Cell} (hk : k < many) : ((List.range many).map fun k => PyData.tuple (rowD g k)).getD k .none = .tuple (rowD g k) := by
  simp [List.getD, hk]
theorem row_at {k f : Nat} {g : Nat → Nat → Cell} (hf : f < 4) : nth (.tuple (rowD g k)) f = cellD (g k f) := by
  simp [nth, mem, rowD, List.getD, hf]
theorem isSpace_of {many : Nat} {ls : List (Nat × Nat)} {g : Nat → Nat → Cell} (L : LInv many ls g) (h1 : 1 ≤ many) (h2 : many ≤ 40) : isSpace (spaceD many g) = true := by
  have len : ((List.range many).map fun k => PyData.tuple (rowD g k)).length = many := by simp
  unfold spaceD isSpace
  refine Bool.and_eq_true_iff.mpr ⟨?_, Bool.and_eq_true_iff.mpr ⟨?_, ?_⟩⟩
  · rw [len]
    exact Bool.and_eq_true_iff.mpr ⟨decide_eq_true (by omega), decide_eq_true (by omega)⟩
  · refine List.all_eq_true.mpr fun b hb => ?_
    obtain ⟨k, hk, rfl⟩ := List.mem_map.mp hb
    have hk := List.mem_range.mp hk
    rw [Bool.and_eq_true]
    refine ⟨by simp [isLong, rowD], List.all_eq_true.mpr fun s hs => ?_⟩
    obtain ⟨f, hf, rfl⟩ := List.mem_map.mp (show s ∈ rowD g k from hs)
    have hf := List.mem_range.mp hf
    cases hc : g k f with
    | none => rfl
    | some c =>
      obtain ⟨o, ns⟩ := c
      have := (L.seam k f o ns hk hf hc).2.1
      show (false || (decide (((2 : Nat) : Int) = 2) && (true && isTurn (tI ns)))) = true
      rw [isTurn_tI this]
      rfl
  · rw [len]
    refine List.all_eq_true.mpr fun k hk => List.all_eq_true.mpr fun f hf => ?_
    have hk := List.mem_range.mp hk
    have hf := List.mem_range.mp hf
    unfold toldBack
    rw [space_row hk, row_at hf, len]
    cases hc : g k f with
    | none => rfl
    | some c =>
      obtain ⟨o, ns⟩ := c
      obtain ⟨a1, a2, t, a3, a4, a5, a6⟩ := L.seam k f o ns hk hf hc
      show (false || ((decide ((0 : Int) ≤ (o : Int)) && decide ((o : Int) < (many : Int))) && (!decide ([(o : Int), (numsOf (tI ns)).getD f 0] = [(k : Int), (f : Int)]) &&
        PyData.eqv (nth (((List.range many).map fun k => PyData.tuple (rowD g k)).getD (o : Int).toNat .none) ((numsOf (tI ns)).getD f 0).toNat) (.tuple [.int (k : Int), .tuple ((inv (numsOf (tI ns))).map .int)])))) = true
      rw [numsOf_tI, a4, Int.toNat_natCast, Int.toNat_natCast, space_row a1, row_at a3, a6]
      have e1 : decide ((0 : Int) ≤ (o : Int)) = true := decide_eq_true (by omega)
      have e2 : decide ((o : Int) < (many : Int)) = true := decide_eq_true (by omega)
      have e3 : decide ([(o : Int), (t : Int)] = [(k : Int), (f : Int)]) = false := decide_eq_false fun z => a5 (by
        simp only [List.cons.injEq, and_true] at z
        have z1 : o = k := by omega
        have z2 : t = f := by omega
        rw [z1, z2])
      rw [e1, e2, e3]
      show PyData.eqv (.tuple [.int (k : Int), .tuple ((inv ns).map .int)]) (.tuple [.int (k : Int), .tuple ((inv ns).map .int)]) = true
      simp [PyData.eqv, PyData.eqvAll, eqvA_ints]
/-! ### data that are bent -/
mutual
def nc : Dt → Bool
  | .none => true
  | .int i => decide (i.natAbs ≤ 1000000)
  | .str x => x == "split" || x == "merge" || x == "cross" || x == "uncross"
  | .tuple xs => decide (xs.length ≤ 100) && ncA xs
  | .bool _ | .list _ | .dict _ => false
def ncA : List Dt → Bool
  | [] => true
  | x :: xs => nc x && ncA xs
end
theorem ncA_iff : ∀ {ds : List Dt}, ncA ds = true ↔ ∀ d ∈ ds, nc d = true
  | [] => by simp [ncA]
  | d :: ds => by simp [ncA, ncA_iff (ds := ds)]
theorem nc_tup {xs : List Dt} (h1 : xs.length ≤ 100) (h2 : ∀ d ∈ xs, nc d = true) : nc (.tuple xs) = true := by
  simp only [nc, Bool.and_eq_true, decide_eq_true_eq]
  exact ⟨h1, ncA_iff.mpr h2⟩
def Nice (n : Nat) (d : Dt) : Prop := nc d = true ∧ PyData.depth d ≤ n
theorem depthAll_le {ds : List Dt} {n : Nat} (h : ∀ d ∈ ds, PyData.depth d ≤ n) : PyData.depthAll ds ≤ n := by
  induction ds with
  | nil => exact Nat.zero_le _
  | cons d ds ih =>
    simp only [PyData.depthAll]
    have := h d (by simp)
    have := ih fun d hd => h d (by simp [hd])
    omega
theorem nice_tup {xs : List Dt} {n : Nat} (h1 : xs.length ≤ 100) (h2 : ∀ d ∈ xs, Nice n d) : Nice (n + 1) (.tuple xs) := by
  refine ⟨nc_tup h1 fun d hd => (h2 d hd).1, ?_⟩
  have := depthAll_le fun d hd => (h2 d hd).2
  simp only [PyData.depth]
  omega
theorem nice_int {i : Int} {n : Nat} (h : i.natAbs ≤ 1000000) : Nice n (.int i) := ⟨decide_eq_true h, Nat.zero_le _⟩
theorem nice_ints {ns : List Int} {n : Nat} (h1 : ns.length ≤ 100) (h2 : ∀ i ∈ ns, i.natAbs ≤ 1000000) : Nice (n + 1) (tI ns) := nice_tup (by simpa using h1) fun d hd => by
  obtain ⟨i, hi, rfl⟩ := List.mem_map.mp hd
  exact nice_int (h2 i hi)
theorem nice_up {d : Dt} {n m : Nat} (h : Nice n d) (le : n ≤ m) : Nice m d := ⟨h.1, Nat.le_trans h.2 le⟩
theorem nice_space {many : Nat} {ls : List (Nat × Nat)} {g : Nat → Nat → Cell} (L : LInv many ls g) (h2 : many ≤ 40) : Nice 4 (spaceD many g) := by
  refine nice_tup (by simp; omega) fun d hd => ?_
  obtain ⟨k, hk, rfl⟩ := List.mem_map.mp hd
  have hk := List.mem_range.mp hk
  refine nice_tup (by simp [rowD]) fun d hd => ?_
  obtain ⟨f, hf, rfl⟩ := List.mem_map.mp hd
  have hf := List.mem_range.mp hf
  cases hc : g k f with
  | none => exact ⟨rfl, Nat.zero_le _⟩
  | some c =>
    obtain ⟨o, ns⟩ := c
    obtain ⟨a1, a2, _⟩ := L.seam k f o ns hk hf hc
    refine nice_tup (by simp) fun d hd => ?_
    simp only [List.mem_cons, List.not_mem_nil, or_false] at hd
    rcases hd with rfl | rfl
    · exact nice_int (by omega)
    · exact nice_ints (by rw [turn_len a2]; omega) fun i hi => by have := turn_in a2 hi; omega
end Sp
namespace Sp
open PySem L2
theorem src0_list {X : Cx} {σ : L2.St} {H : Hp} {ds : List Dt} {iter : Expr} (h : Pd X iter σ H (.list ds)) : Src0E X (iList X.K (WE X iter)) σ H ds := fun H1 s R q => h H1 s _ fun v H2 s2 dv => by
  obtain ⟨a, xs, rfl, ht, hd⟩ := Dc.listI dv
  refine ⟨a, rfl, ⟨xs, ht⟩, q _ H2 s2 ⟨fun i H' s' hi => ?_, fun H' s' => ⟨xs, s'.seq ht, by rw [hd.length]; exact Nat.le_refl _⟩, fun i H' x H'' s' hi y => ?_⟩⟩
  · exact ⟨xs, xs[i]'(by rw [hd.length]; exact hi), s'.seq ht, by simp [hd.length, hi]⟩
  · obtain ⟨rfl, y⟩ := y
    obtain ⟨d, h1, h2⟩ := hd.got (y xs (s'.seq ht))
    exact ⟨rfl, d, h1, h2⟩
/-- rows at their places, the cells as data -/
structure Grid (K : PySem.W.Frag) (a : Addr) (H : Hp) (l : Addr) (ps : List Addr) (n w : Nat) (g : Nat → Nat → Dt) : Prop where
  ex : ∃ rows, RowsAt a H l ps rows ∧ rows.length = n ∧ ∀ k, k < n → (rows.getD k []).length = w ∧ ∀ f, f < w → ∃ v, (rows.getD k [])[f]? = some v ∧ Dc K H v (g k f)
section
variable {K : PySem.W.Frag} {a l : Addr} {H H' : Hp} {ps : List Addr} {n w : Nat} {g : Nat → Nat → Dt} {m : Nat}
theorem Grid.dr (G : Grid K a H l ps n w g) (hf : ∀ k f, fz (g k f) = true) (d : Dr a H H') (t : Tin a m H) : Grid K a H' l ps n w g := by
  obtain ⟨rows, r, h1, h2⟩ := G.ex
  refine ⟨rows, r.dr d, h1, fun k hk => ⟨(h2 k hk).1, fun f hf' => ?_⟩⟩
  obtain ⟨v, h3, h4⟩ := (h2 k hk).2 f hf'
  exact ⟨v, h3, Dc.fz (d.t t) h4 (hf k f)⟩
theorem Grid.row (G : Grid K a H l ps n w g) {k : Nat} (hk : k < n) : ∃ p r, ps[k]? = some p ∧ H p = some (.lst r) ∧ r.length = w := by
  obtain ⟨rows, r, h1, h2⟩ := G.ex
  obtain ⟨p, h3, h4⟩ := r.get (k := k) (by omega)
  exact ⟨p, _, h3, h4, (h2 k hk).1⟩
theorem Grid.lst (G : Grid K a H l ps n w g) : H l = some (.lst (ps.map V.ref)) ∧ ps.length = n ∧ l ∉ ps ∧ a ∉ ps ∧ l ≠ a := by
  obtain ⟨rows, r, h1, h2⟩ := G.ex
  exact ⟨r.lst, by rw [r.len, h1], r.nl, r.na, r.la⟩
theorem Grid.set (G : Grid K a H l ps n w g) (hf : ∀ k f, fz (g k f) = true) {k f : Nat} (hk : k < n) (hfw : f < w) {p : Addr} {r : List V} (hp : ps[k]? = some p) (hr : H p = some (.lst r)) {v : V} {d : Dt} (dv : Dc K H v d) (fd : fz d = true) :
    Grid K a (upd H p (.lst (r.set f v))) l ps n w (fun k' f' => if (k', f') = (k, f) then d else g k' f') := by
  obtain ⟨rows, ra, h1, h2⟩ := G.ex
  have er : rows.getD k [] = r := by
    obtain ⟨p', h3, h4⟩ := ra.get (k := k) (by omega)
    rw [hp] at h3
    cases h3
    rw [hr] at h4
    injection h4 with h4
    injection h4 with h4
    exact h4.symm
  have ts := TSame.lst (K := K) (o := .lst (r.set f v)) hr
  refine ⟨rows.set k (r.set f v), ra.set hp, by rw [List.length_set]; exact h1, fun k' hk' => ?_⟩
  by_cases e : k' = k
  · subst e
    have e2 : (rows.set k' (r.set f v)).getD k' [] = r.set f v := by simp [List.getD, h1, hk]
    rw [e2, List.length_set]
    have h3 := h2 k' hk
    rw [er] at h3
    refine ⟨h3.1, fun f' hf' => ?_⟩
    by_cases e3 : f' = f
    · subst e3
      rw [if_pos rfl]
      exact ⟨v, List.getElem?_set_self (by rw [h3.1]; exact hf'), Dc.fz ts dv fd⟩
    · rw [if_neg (by simp [e3]), List.getElem?_set_ne (Ne.symm e3)]
      obtain ⟨u, h5, h6⟩ := h3.2 f' hf'
      exact ⟨u, h5, Dc.fz ts h6 (hf _ _)⟩
  · have e2 : (rows.set k (r.set f v)).getD k' [] = rows.getD k' [] := by simp [List.getD, List.getElem?_set_ne (Ne.symm e)]
    rw [e2]
    have h3 := h2 k' hk'
    refine ⟨h3.1, fun f' hf' => ?_⟩
    rw [if_neg (by simp [e])]
    obtain ⟨u, h5, h6⟩ := h3.2 f' hf'
    exact ⟨u, h5, Dc.fz ts h6 (hf _ _)⟩
theorem dcAll_of {vs : List V} {ds : List Dt} (hl : vs.length = ds.length) (h : ∀ (i : Nat) v d, vs[i]? = some v → ds[i]? = some d → Dc K H v d) : DcAll K H vs ds := by
  induction vs generalizing ds with
  | nil => cases ds with
    | nil => exact .nil
    | cons d ds => simp at hl
  | cons v vs ih => cases ds with
    | nil => simp at hl
    | cons d ds => exact .cons (h 0 v d rfl rfl) (ih (by simpa using hl) fun i v d h1 h2 => h (i + 1) v d (by simpa using h1) (by simpa using h2))
theorem Grid.dc (G : Grid K a H l ps n w g) : Dc K H (.ref l) (.list ((List.range n).map fun k => .list ((List.range w).map fun f => g k f))) := by
  obtain ⟨rows, r, h1, h2⟩ := G.ex
  have hlp := r.len
  refine .lst (SqL.of r.lst) (dcAll_of (by simp [hlp, h1]) fun k v d hv hd => ?_)
  have hk : k < n := by
    have := (List.getElem?_eq_some_iff.mp hd).1
    simpa using this
  obtain ⟨p, h3, h4⟩ := r.get (k := k) (by omega)
  have ev : v = .ref p := by
    rw [List.getElem?_map, h3] at hv
    exact (Option.some.inj hv).symm
  have ed : d = .list ((List.range w).map fun f => g k f) := by
    rw [List.getElem?_map, List.getElem?_range hk] at hd
    exact (Option.some.inj hd).symm
  subst ev; subst ed
  obtain ⟨h5, h6⟩ := h2 k hk
  refine .lst (SqL.of h4) (dcAll_of (by rw [h5]; simp) fun f v d hv hd => ?_)
  have hf : f < w := by
    have := (List.getElem?_eq_some_iff.mp hd).1
    simpa using this
  obtain ⟨u, h7, h8⟩ := h6 f hf
  rw [hv] at h7
  cases h7
  have ed : d = g k f := by
    rw [List.getElem?_map, List.getElem?_range hf] at hd
    exact (Option.some.inj hd).symm
  subst ed
  exact h8
end
def gridOf (g : Nat → Nat → Cell) : Nat → Nat → Dt := fun k f => cellD (g k f)
theorem grid_put {g : Nat → Nat → Cell} {k f : Nat} {c : Cell} : (fun k' f' => if (k', f') = (k, f) then cellD c else gridOf g k' f') = gridOf (put g k f c) := by
  funext k' f'
  unfold gridOf put
  split <;> rfl
def placeD (p : Nat × Nat) : Dt := .tuple [.int (p.1 : Int), .int (p.2 : Int)]
theorem fz_places {ls : List (Nat × Nat)} : fzA (ls.map placeD) = true := fzA_iff.mpr fun d hd => by
  obtain ⟨p, _, rfl⟩ := List.mem_map.mp hd; rfl
def places (n : Nat) : List (Nat × Nat) := (List.range (4 * n)).map fun k => (k / 4, k % 4)
theorem LInv.start {n : Nat} : LInv n (places n) (fun _ _ => none) where
  nd := by
    unfold places List.Nodup
    rw [List.pairwise_map]
    refine List.Pairwise.imp (fun {a b} h e => h ?_) (List.nodup_range (n := 4 * n))
    simp only [Prod.mk.injEq] at e
    omega
  left p hp := by
    obtain ⟨k, hk, rfl⟩ := List.mem_map.mp hp
    have := List.mem_range.mp hk
    exact ⟨by show k / 4 < n; omega, Nat.mod_lt _ (by decide), rfl⟩
  seam k f o ns _ _ h := by cases h
end Sp
namespace Sp
open PySem L2
theorem RowsAt.keep {a l : Addr} {H H' : Hp} {ps : List Addr} {rows : List (List V)} (r : RowsAt a H l ps rows) (k : ∀ c o, c = l ∨ c ∈ ps → H c = some o → H' c = some o) : RowsAt a H' l ps rows where
  lst := k _ _ (.inl rfl) r.lst
  nd := r.nd
  nl := r.nl
  na := r.na
  la := r.la
  len := r.len
  row i p w h1 h2 := k _ _ (.inr (List.mem_of_getElem? h1)) (r.row i p w h1 h2)
theorem Grid.keep {K : PySem.W.Frag} {a l : Addr} {H H' : Hp} {ps : List Addr} {n w : Nat} {g : Nat → Nat → Dt} (G : Grid K a H l ps n w g) (hf : ∀ k f, fz (g k f) = true) (k : ∀ c o, c = l ∨ c ∈ ps → H c = some o → H' c = some o) (t : TSame K H H') : Grid K a H' l ps n w g := by
  obtain ⟨rows, r, h1, h2⟩ := G.ex
  refine ⟨rows, r.keep k, h1, fun k hk => ⟨(h2 k hk).1, fun f hf' => ?_⟩⟩
  obtain ⟨v, h3, h4⟩ := (h2 k hk).2 f hf'
  exact ⟨v, h3, Dc.fz t h4 (hf k f)⟩
theorem eraseIdx_map {α β : Type} (f : α → β) : ∀ (xs : List α) (i : Nat), (xs.map f).eraseIdx i = (xs.eraseIdx i).map f
  | [], _ => rfl
  | _ :: _, 0 => rfl
  | x :: xs, i + 1 => by rw [List.map_cons, List.eraseIdx_cons_succ, List.eraseIdx_cons_succ, List.map_cons, eraseIdx_map f xs i]
theorem dcAll_erase {K : PySem.W.Frag} {H : Hp} : ∀ {vs : List V} {ds : List Dt} (i : Nat), DcAll K H vs ds → DcAll K H (vs.eraseIdx i) (ds.eraseIdx i)
  | _, _, _, .nil => .nil
  | _, _, 0, .cons h t => t
  | _, _, i + 1, .cons h t => .cons h (dcAll_erase i t)
/-- a place popped -/
theorem we_popL {X : Cx} {σ : L2.St} {H : Hp} {a L : Addr} {m j : Nat} {vs : List V} {ls : List (Nat × Nat)} {Q : VK} {p1 p2 p3 p4 p5 p6 p7 p8 p9 : Pos} {x t : Str} (il it : Nat) (F : Ds X.prog X.w X.K X.mg X.base 1 "_law_take" sp_take) (hr : Room j X.A) (T : Tx X.mg) (hsL : σ[il]? = some (some (.ref L))) (hst : σ[it]? = some (some (.ref a)))
    (ht : Tin a m H) (hm : m < lim) (hv : H L = some (.lst vs)) (dv : DcAll X.K H vs (ls.map placeD)) (h0 : 0 < ls.length) (h1 : ls.length ≤ 1000) (hLa : L ≠ a)
    (q : ∀ b f rest vs' v H', ((b, f) :: rest).Perm ls → (∀ c o, c ≠ a → c ≠ L → H c = some o → H' c = some o) → TSame X.K H H' → Tin a (m + 1) H' → H' L = some (.lst vs') → DcAll X.K H' vs' (rest.map placeD) → Dc X.K H' v (placeD (b, f)) → Q v H')
    (hk : 1 ≤ j := by decide) (hN : X.N[il]? = some x := by rfl) (hN2 : X.N[it]? = some t := by rfl) (hvL : Vis X.env.scope x := by first | exact Or.inl rfl | exact Or.inr (Or.inl rfl) | exact Or.inr (Or.inr rfl)) (hvt : Vis X.env.scope t := by first | exact Or.inl rfl | exact Or.inr (Or.inl rfl) | exact Or.inr (Or.inr rfl)) (hgl : Gl X "len" := by rfl) (hgt : Gl X "_law_take" := by rfl)
    (hd1 : (x == ("__debug__" : Str)) = false := by decide) (hd2 : (x == ("__classdict__" : Str)) = false := by decide) (hd3 : (t == ("__debug__" : Str)) = false := by decide) (hd4 : (t == ("__classdict__" : Str)) = false := by decide)
    (hbase : attributeBase (.Name x p1) "pop" X.env (eval (.Name x p1) X.env) = eval (.Name x p1) X.env := by rfl)
    (hfew : ((backTo p9 (starEach [.Call (.Name "_law_take" p2) [.Name t p3, .Call (.Name "len" p4) [.Name x p5] [] p6] [] p7] X.env)).all (fun x => !x.1) && (backToKw p9 (keywordEach [] X.env)).all (fun x => x.1.isSome) && decide (([.Call (.Name "_law_take" p2) [.Name t p3, .Call (.Name "len" p4) [.Name x p5] [] p6] [] p7] : List Expr).length + ([] : List Keyword).length + (if ([] : List Keyword).isEmpty then 0 else 1) < 30)) = true := by rfl)
    (hline : (p8.endLine == p9.line) = true := by rfl) (hs : starEach [.Call (.Name "_law_take" p2) [.Name t p3, .Call (.Name "len" p4) [.Name x p5] [] p6] [] p7] X.env = (false, eval (.Call (.Name "_law_take" p2) [.Name t p3, .Call (.Name "len" p4) [.Name x p5] [] p6] [] p7) X.env) :: starEach [] X.env := by rfl)
    (he1 : starEach [.Name t p3, .Call (.Name "len" p4) [.Name x p5] [] p6] X.env = (false, eval (.Name t p3) X.env) :: starEach [.Call (.Name "len" p4) [.Name x p5] [] p6] X.env := by rfl) (he2 : starEach [.Call (.Name "len" p4) [.Name x p5] [] p6] X.env = (false, eval (.Call (.Name "len" p4) [.Name x p5] [] p6) X.env) :: starEach [] X.env := by rfl)
    (he3 : starEach [.Name x p5] X.env = (false, eval (.Name x p5) X.env) :: starEach [] X.env := by rfl) (hpl : (backTo p7 (starEach [.Call (.Name "len" p4) [.Name x p5] [] p6] X.env)).any (fun z => z.1) = false := by rfl) :
    WE X (.Call (.Attribute (.Name x p1) "pop" p8) [.Call (.Name "_law_take" p2) [.Name t p3, .Call (.Name "len" p4) [.Name x p5] [] p6] [] p7] [] p9) σ H Q := by
  refine we_pop (we_of (pv il hN hvL hd1 hd2) ⟨_, hsL, L, rfl, ⟨vs, hv⟩, we_take it F hr hst (we_of (pe_callB call_len_seq hgl T.len (by decide +kernel) (pa_cons (pv il hN hvL hd1 hd2) pa_nil he3) (by decide) (by decide) he3) ⟨_, hsL, L, vs, rfl, .inl (SqL.of hv), ?_⟩) hk hN2 hvt hgt hd3 hd4 he1 he2 hpl⟩) hbase hfew hline hs (by rfl)
  have hl : vs.length = ls.length := by rw [dv.length, List.length_map]
  refine ⟨vs.length, m, rfl, ⟨by omega, by omega⟩, ht, hm, fun r H' hr' d' t' => ?_⟩
  have hv' := d'.of hv hLa
  have hrl : r < ls.length := by omega
  refine ⟨vs, r, vs[r], hv', ⟨rfl, by omega, List.getElem?_eq_getElem hr'⟩, ?_⟩
  have tsl := TSame.lst (K := X.K) (o := .lst (vs.eraseIdx r)) hv'
  have ts := (d'.t (K := X.K) ht).trans tsl
  have hp := perm_erase (List.getElem?_eq_getElem hrl)
  refine q ls[r].1 ls[r].2 (ls.eraseIdx r) (vs.eraseIdx r) _ _ hp (fun c o h1 h2 h3 => ?_) ts ?_ upd_same ?_ ?_
  · rw [upd_ne h2]; exact d'.of h3 h1
  · obtain ⟨g, l', c', hl', hr'⟩ := t'.ex
    exact ⟨g, l', c', by rw [upd_ne (Ne.symm hLa)]; exact hl', hr'⟩
  · rw [← eraseIdx_map]
    exact dcAll_erase r (DcAll.fz ts dv fz_places)
  · obtain ⟨d, hd1, hd2⟩ := dv.got (List.getElem?_eq_getElem hr')
    rw [List.getElem?_map, List.getElem?_eq_getElem hrl] at hd1
    cases hd1
    exact Dc.fz ts hd2 rfl
section
variable {P : Program} {w : World} {K : PySem.W.Frag} {mg : Str → Option Value} {base : Heap} {f : Addr} {fd : FuncData}
/-- a drawn thing that its judge takes -/
def sp_loose (K : PySem.W.Frag) : Sp := fun vs H Q _ => ∃ a m, vs = [.ref a, .int 3] ∧ Tin a m H ∧ m + 100 < lim ∧ ∀ d v H', Dr a H H' → Tin a (m + 100) H' → Dc K H' v d → fz d = true → isSpace d = true → Nice 4 d → Q v H'
theorem ok_law_loose (F : Fun K "_law_loose" "_law_loose" s__law_loose f fd) (T : Tx mg) (F1 : Ds P w K mg base 1 "_law_take" sp_take) (F2 : Ds P w K mg base 2 "_law_of" (sp_of K)) (F3 : Ds P w K mg base 1 "_law_turns" (sp_turns K)) (F4 : Df P w K mg base 1 "_law_undone" R_turn_back) :
    FnOk P w K mg base CX0 3 f fd ["tin", "most_so"] (sp_loose K) := by
  refine fn_s F sc__law_loose (fun vs H Q E h => by obtain ⟨_, _, rfl, _⟩ := h; rfl) fun cdv A outer s H vs Q E hr h => ?_
  obtain ⟨a, m, rfl, ht, hm, q⟩ := h
  have hm : m + 100 < 1152921504606846976 := hm
  -- many
  refine wb_set 2 (we_of (pe_op op_add pe_int pe_w) ?_) sc__law_loose.nd
  refine we_take 0 F1 hr rfl (we_of (pv 1) ⟨_, rfl, 3, m, rfl, ⟨by decide, by decide⟩, ht, by omega, fun r H1 hr1 d1 t1 => ?_⟩)
  refine ⟨1, (r : Int), rfl, rfl, ?_⟩
  obtain ⟨n, en, hn1, hn3⟩ : ∃ n : Nat, (1 : Int) + r = (n : Int) ∧ 1 ≤ n ∧ n ≤ 3 := ⟨r + 1, by omega, by omega, by omega⟩
  change WB _ _ _ (List.set _ 2 (some (V.int ((1 : Int) + (r : Int))))) _
  rw [en]
  -- rows, lefts
  refine wb_two 3 4 (we_lcR 5 rfl sc__law_loose.nd (pi_range1 rfl T.range pa_w) (we_of (pv 2) ⟨_, rfl, n, a, m + 1, 0, fun vs => vs = [.non, .non, .non, .non], rfl, by omega, t1, ?_, ?_⟩)) rfl sc__law_loose.nd
  · intro s' H0 C cl fp k H3 hk d3 t3 Q3 q3
    refine we_of (pe_op op_rep pe_w pe_int) (we_lstF (pa_c pd_none pa_n) (by decide) fun l vs H4 s4 hl hv dv => ?_)
    obtain ⟨v, rfl, hv1⟩ := dv.get1
    cases hv1
    refine ⟨l, 4, _, rfl, rfl, hv, by decide, by decide, by decide, fun p hp => ?_⟩
    exact q3 p _ _ ((Dr.same s4).trans (Dr.same (Same.new hp))) ((t3.same s4).same (Same.new hp)) (none_back s4 hp) upd_same rfl
  intro R ps rows H2 d2 t2 hR0 hps0 ra hrl hrows
  refine Pl.run (pl_lcN (ds := rngD (4 * n)) 5 (fun d => placeD ((intOf d).toNat / 4, (intOf d).toNat % 4)) rfl sc__law_loose.nd (pi_range1 rfl T.range pa_w) (src_range (pa_c (Pd.is (pd_mul pd_int (pd_v 2 rfl (.int (n : Int))) (.inl ⟨by decide, by decide⟩)) (by congr 1)) pa_n) (by omega)) (by rw [rngD_len]; omega) (fun s' H0 C cl fp i b u H3 hb sm3 du => ?_) fun _ _ => rfl) fun L us H3 s3 hL hu du => ?_
  · obtain ⟨hi, rfl⟩ := rngD_at hb
    have e1 : (i : Int) / 4 = ((i / 4 : Nat) : Int) := by omega
    have e2 : (i : Int) % 4 = ((i % 4 : Nat) : Int) := by omega
    refine Pd.is (pd_tup (pa_c (pd_fdiv (pd_v 5 rfl du) pd_int ⟨by decide, by decide⟩) (pa_c (pd_mod (pd_v 5 rfl du) pd_int (by decide)) pa_n))) ?_
    rw [e1, e2]
    rfl
  have epl : (rngD (4 * n)).map (fun d => placeD ((intOf d).toNat / 4, (intOf d).toNat % 4)) = (places n).map placeD := by
    rw [rngD, places, List.map_map, List.map_map]
    refine List.map_congr_left fun k _ => ?_
    simp [intOf, Function.comp]
  rw [epl] at du
  have t3 := t2.same s3
  have hLa : L ≠ a := t2.ne hL
  have hLp : L ∉ ps := fun hm => by
    obtain ⟨q', hq, e⟩ := List.getElem_of_mem hm
    have hq' : q' < rows.length := by rw [← ra.len]; exact hq
    have := ra.row q' L rows[q'] (by rw [← e]; exact List.getElem?_eq_getElem hq) (List.getElem?_eq_getElem hq')
    rw [hL] at this; cases this
  have hLR : L ≠ R := by rintro rfl; rw [ra.lst] at hL; cases hL
  have hL0 : H L = none := (d1.trans d2).ne_none hL hLa
  have hps : ∀ p ∈ ps, H p = none := fun p hp => d1.ne_none (hps0 p hp) (by rintro rfl; exact ra.na hp)
  have g0 : Grid K a H3 R ps n 4 (gridOf fun _ _ => none) := by
    have ra3 := ra.dr (Dr.same s3)
    refine ⟨rows, ra3, hrl, fun k hk => ?_⟩
    have e : rows.getD k [] = [.non, .non, .non, .non] := hrows _ (by
      have hk' : k < rows.length := by omega
      simp [List.getD, hk'])
    rw [e]
    refine ⟨rfl, fun f' hf' => ⟨.non, ?_, .non⟩⟩
    match f', hf' with
    | 0, _ => rfl
    | 1, _ => rfl
    | 2, _ => rfl
    | 3, _ => rfl
  -- laps
  refine wb_forG (pi_range1 rfl T.range pa_w) (pg_name (i := 6) sc__law_loose.nd rfl (Or.inl rfl)) mono_rng ?_
  refine wa_cons (we_take 0 F1 hr rfl (Pd.run (pd_add (pd_mul pd_int (pd_v 2 rfl (.int (n : Int))) (.inl ⟨by decide, by decide⟩)) pd_int) fun v H4 s4 dv => ?_)) rfl
  cases dv
  refine ⟨2 * n + 1, m + 1 + 0 * n, by congr 1, ⟨by omega, by omega⟩, t3.same s4, by omega, fun laps H5 hlaps d5 t5 => wa_nil ?_⟩
  have d05 : Dr a H H5 := ((d1.trans d2).trans (Dr.same (s3.trans s4))).trans d5
  have t5 : Tin a (m + 2) H5 := t5.le (by omega)
  refine ⟨_, rfl, by omega, by omega, laps, fun _ => True, fun i x _ => x = .int (i : Int), sSet 6, fun i σ' H' => (∃ o5 o6 o7 o8 o9 o10 o11 o12, σ' = [some (.ref a), some (.int 3), some (.int (n : Int)), some (.ref R), some (.ref L), o5, o6, o7, o8, o9, o10, o11, o12]) ∧ Dr a H H' ∧ Tin a (m + 2 + 3 * i) H' ∧
    ∃ g ls vs, Grid K a H' R ps n 4 (gridOf g) ∧ LInv n ls g ∧ H' L = some (.lst vs) ∧ DcAll K H' vs (ls.map placeD) ∧ ls.length + 2 * i = 4 * n, src2_rng, ?_, hs_set, fun _ _ _ _ => trivial, ?_, ?_⟩
  · refine ⟨⟨_, _, _, _, _, _, _, _, rfl⟩, d05, t5, fun _ _ => none, places n, us, (g0.dr (fun _ _ => fz_cell) (Dr.same s4) t3).dr (fun _ _ => fz_cell) d5 (t3.same s4), LInv.start, d5.of (s4 _ _ hu) hLa, ?_, by simp [places]⟩
    exact DcAll.fz (d5.t (t3.same s4)) (DcAll.kept s4 du) fz_places
  · rintro i x σ1 σ2 H6 H7 N hi ⟨⟨o5, o6, o7, o8, o9, o10, o11, o12, rfl⟩, d6, t6, g, ls, vs, G, LI, hv, dv, hlen⟩ s7 rfl rfl hN
    obtain ⟨_, hpsl, hRp, hap, hRa⟩ := G.lst
    have G7 := G.dr (fun _ _ => fz_cell) (Dr.same s7) t6
    have t7 := t6.same s7
    have dv7 := DcAll.kept s7 dv
    have hv7 := s7 _ _ hv
    have d7 := d6.trans (Dr.same s7)
    refine wb_asg (pg_tup rfl (pgs_cons (pg_name (i := 7) sc__law_loose.nd rfl (by first | exact Or.inl rfl | exact Or.inr rfl)) (pgs_cons (pg_name (i := 8) sc__law_loose.nd rfl (by first | exact Or.inl rfl | exact Or.inr rfl)) pgs_nil)))
      (we_popL 4 0 F1 hr T rfl rfl t7 (by show _ < 1152921504606846976; omega) hv7 dv7 (by omega) (by omega) hLa fun b fa rest vs1 v H8 hp8 k8 ts8 t8 hv8 dv8 dp8 => ?_)
    obtain ⟨A8, xs8, rfl, hT8, hx8⟩ := Dc.tupleI dp8
    obtain ⟨vb, vf, rfl, db, df⟩ := hx8.get2
    cases db; cases df
    refine ⟨A8, _, rfl, hT8, rfl, _, [_], rfl, _, [], rfl, rfl, ?_⟩
    have hl8 := hp8.length_eq
    simp only [List.length_cons] at hl8
    refine wb_asg (pg_tup rfl (pgs_cons (pg_name (i := 9) sc__law_loose.nd rfl (by first | exact Or.inl rfl | exact Or.inr rfl)) (pgs_cons (pg_name (i := 10) sc__law_loose.nd rfl (by first | exact Or.inl rfl | exact Or.inr rfl)) pgs_nil)))
      (we_popL 4 0 F1 hr T rfl rfl t8 (by show _ < 1152921504606846976; omega) hv8 dv8 (by omega) (by omega) hLa fun o go rest2 vs2 v H9 hp9 k9 ts9 t9 hv9 dv9 dp9 => ?_)
    obtain ⟨A9, xs9, rfl, hT9, hx9⟩ := Dc.tupleI dp9
    obtain ⟨vo, vg, rfl, do_, dg⟩ := hx9.get2
    cases do_; cases dg
    refine ⟨A9, _, rfl, hT9, rfl, _, [_], rfl, _, [], rfl, rfl, ?_⟩
    have hl9 := hp9.length_eq
    simp only [List.length_cons] at hl9
    have hperm : ((b, fa) :: (o, go) :: rest2).Perm ls := (List.Perm.cons _ hp9).trans hp8
    have hb := LI.left (b, fa) (hperm.mem_iff.mp (by simp))
    have hog := LI.left (o, go) (hperm.mem_iff.mp (by simp))
    have kp : ∀ (c : Addr) (_ : HO), c = R ∨ c ∈ ps → c ≠ a ∧ c ≠ L := fun c _ hc => by
      rcases hc with rfl | hc
      · exact ⟨hRa, fun e => hLR e.symm⟩
      · exact ⟨fun e => hap (e ▸ hc), fun e => hLp (e ▸ hc)⟩
    have G9 : Grid K a H9 R ps n 4 (gridOf g) := G7.keep (fun _ _ => fz_cell) (fun c ob hc h => k9 c ob (kp c ob hc).1 (kp c ob hc).2 (k8 c ob (kp c ob hc).1 (kp c ob hc).2 h)) (ts8.trans ts9)
    have d9 : Dr a H H9 := fun c ob hc => by
      have hca : c ≠ a := by rintro rfl; simp [hide] at hc
      have hcL : c ≠ L := by rintro rfl; rw [hide_ne hca, hL0] at hc; cases hc
      exact k9 c ob hca hcL (k8 c ob hca hcL (d7 c ob hc))
    -- the turn
    refine wb_set 11 (we_call F2 hr (wa_cons (we_of (pv 0) ⟨_, rfl, wa_cons (Pl.run (pl_lcI 12 (ds := (TL 4).map tI) (fun d => decide ((numsOf d).getD fa 0 = (go : Int))) rfl sc__law_loose.nd (pi_list pe_w)
      (src0_list fun H1 s Q q => we_call0 F3 hr ⟨rfl, fun l us H' s' _ hv dv => q _ H' s' (.lst (SqL.of hv) dv)⟩) (by decide) (fun s H0 C cl fp i d v H10 hd sm dd => ?_) (Nat.lt_of_lt_of_eq (by decide : 12 < 13) rfl)) fun l us H10 s10 hl10 hus dus => wa_nil ?_) rfl⟩) rfl)) sc__law_loose.nd
    · obtain ⟨ns, hns, rfl⟩ := List.mem_map.mp (List.mem_of_getElem? hd)
      have hn4 := turn_len (TL_all hns)
      rw [numsOf_tI]
      refine pt_eqI (pd_ixT (pd_v 12 rfl dd) (pd_v 8 rfl (.int (fa : Int))) ?_) (pd_v 10 rfl (.int (go : Int)))
      have hf4 : fa < ns.length := by rw [hn4]; exact hb.2.1
      exact atI_nat (xs := ns.map PyData.int) (j := fa) (v := .int (ns.getD fa 0)) (by simp [List.getD, hf4])
    have hfil : (((TL 4).map tI).filter fun d => decide ((numsOf d).getD fa 0 = (go : Int))) = ((TL 4).filter fun ns => decide (ns.getD fa 0 = (go : Int))).map tI := by
      rw [List.filter_map]
      congr 2
      funext ns
      simp only [Function.comp, numsOf_tI]
    rw [hfil] at dus
    have hlen10 := dus.length
    rw [List.length_map] at hlen10
    have hne := TL_some ⟨fa, hb.2.1⟩ ⟨go, hog.2.1⟩
    have hle : ((TL 4).filter fun ns => decide (ns.getD fa 0 = (go : Int))).length ≤ (TL 4).length := List.length_filter_le _ _
    have h24 := TL_len 4 (by decide)
    have t10 := t9.same s10
    refine ⟨a, l, us, _, rfl, t9.ne hl10, t10, by show _ < 1152921504606846976; omega, hus, ⟨by rw [hlen10]; exact Nat.pos_of_ne_zero hne, by omega⟩, fun ix y H11 hy d11 t11 => ?_⟩
    obtain ⟨d, hd, dy⟩ := dus.got hy
    obtain ⟨ns, hns, rfl⟩ := List.mem_map.mp (List.mem_of_getElem? hd)
    obtain ⟨hns1, hns2⟩ := List.mem_filter.mp hns
    have hturn := TL_all hns1
    have hat : ns.getD fa 0 = (go : Int) := of_decide_eq_true hns2
    have dy11 : Dc K H11 y (tI ns) := Dc.fz (d11.t t10) dy fz_tI
    have G11 := (G9.dr (fun _ _ => fz_cell) (Dr.same s10) t9).dr (fun _ _ => fz_cell) d11 t10
    have hv11 := d11.of (s10 _ _ hv9) hLa
    have dv11 := DcAll.fz (d11.t (K := K) t10) (DcAll.kept s10 dv9) fz_places
    have d11' : Dr a H H11 := d9.trans ((Dr.same s10).trans d11)
    have fc : ∀ (g : Nat → Nat → Cell) k f, fz (gridOf g k f) = true := fun _ _ _ => fz_cell
    -- the first side
    refine wb_sub (Pd.run (pd_tup (pa_c (pd_v 9 rfl (.int (o : Int))) (pa_c (pd_v 11 rfl dy11) pa_n))) fun v1 H12 s12 dv1 => ?_)
    have G12 := G11.dr (fc g) (Dr.same s12) t11
    obtain ⟨pb, rb, hpb, hrb, hrbl⟩ := G12.row hb.1
    have hR12 := G12.lst
    refine we_of (pe_ix ix_list (pv 3) (pv 7) (fun _ _ => rfl)) ⟨_, rfl, _, rfl, R, ps.map V.ref, (b : Int), .ref pb, rfl, rfl, SqL.of hR12.1, atI_nat (by rw [List.getElem?_map, hpb]; rfl), we_of (pv 8) ⟨_, rfl, pb, rb, fa, rfl, hrb, ⟨(fa : Int), rfl, ixN_nat' (by rw [hrbl]; exact hb.2.1)⟩, ?_⟩⟩
    have G13 := G12.set (fc g) hb.1 hb.2.1 hpb hrb dv1 (d := cellD (some (o, ns))) fz_cell
    rw [grid_put] at G13
    have ts13 := TSame.lst (K := K) (o := .lst (rb.set fa v1)) hrb
    have hpbm : pb ∈ ps := List.mem_of_getElem? hpb
    have hpba : pb ≠ a := fun e => hap (e ▸ hpbm)
    have hpbL : pb ≠ L := fun e => hLp (e ▸ hpbm)
    have t13 : Tin a (m + 2 + 3 * i + 1 + 1 + 1) (upd H12 pb (.lst (rb.set fa v1))) := by
      obtain ⟨g', l', c', hl', hr'⟩ := (t11.same s12).ex
      exact ⟨g', l', c', by rw [upd_ne (Ne.symm hpba)]; exact hl', hr'⟩
    have d13 : Dr a H (upd H12 pb (.lst (rb.set fa v1))) := Same.mut (d11'.trans (Dr.same s12)) (by rw [hide_ne hpba]; exact hps _ hpbm)
    have hv13 : upd H12 pb (.lst (rb.set fa v1)) L = some (.lst vs2) := by rw [upd_ne (Ne.symm hpbL)]; exact s12 _ _ hv11
    have dv13 := DcAll.fz ts13 (DcAll.kept s12 dv11) fz_places
    have dy13 := Dc.fz ts13 (Dc.kept s12 dy11) fz_tI
    generalize upd H12 pb (.lst (rb.set fa v1)) = H13 at G13 ts13 t13 d13 hv13 dv13 dy13
    -- the other side
    refine wb_sub (Pd.run (pd_tup (pa_c (pd_v 7 rfl (.int (b : Int))) (pa_c (pd_call F4 hr (pa_c (pd_v 11 rfl dy13) pa_n) ⟨_, rfl, ns, rfl, hturn, rfl⟩) pa_n))) fun v2 H14 s14 dv2 => ?_)
    have G14 := G13.dr (fc _) (Dr.same s14) t13
    obtain ⟨po, ro, hpo, hro, hrol⟩ := G14.row hog.1
    have hR14 := G14.lst
    refine we_of (pe_ix ix_list (pv 3) (pv 9) (fun _ _ => rfl)) ⟨_, rfl, _, rfl, R, ps.map V.ref, (o : Int), .ref po, rfl, rfl, SqL.of hR14.1, atI_nat (by rw [List.getElem?_map, hpo]; rfl), we_of (pv 10) ⟨_, rfl, po, ro, go, rfl, hro, ⟨(go : Int), rfl, ixN_nat' (by rw [hrol]; exact hog.2.1)⟩, ?_⟩⟩
    have G15 := G14.set (fc _) hog.1 hog.2.1 hpo hro dv2 (d := cellD (some (b, inv ns))) fz_cell
    rw [grid_put] at G15
    have ts15 := TSame.lst (K := K) (o := .lst (ro.set go v2)) hro
    have hpom : po ∈ ps := List.mem_of_getElem? hpo
    have hpoa : po ≠ a := fun e => hap (e ▸ hpom)
    have hpoL : po ≠ L := fun e => hLp (e ▸ hpom)
    refine wb_nil (hN _ _ ⟨⟨_, _, _, _, _, _, _, _, rfl⟩, Same.mut (d13.trans (Dr.same s14)) (by rw [hide_ne hpoa]; exact hps _ hpom), ?_, _, rest2, vs2, G15, LI.put hperm hturn hat, by rw [upd_ne (Ne.symm hpoL)]; exact s14 _ _ hv13, DcAll.fz ts15 (DcAll.kept s14 dv13) fz_places, by omega⟩)
    obtain ⟨g', l', c', hl', hr'⟩ := (t13.same s14).ex
    exact ⟨g', l', c', by rw [upd_ne (Ne.symm hpoa)]; exact hl', hr'.1, by omega⟩
  · rintro σ1 H6 ⟨⟨o5, o6, o7, o8, o9, o10, o11, o12, rfl⟩, d6, t6, g, ls, vs, G, LI, hv, dv, hlen⟩
    refine wb_ret (Pd.run (pd_tupleL T.tuple (Pd.is (pd_lcN 12 (fun d => .tuple (mem d)) rfl sc__law_loose.nd (pi_list pe_w) (src_list (pd_v 3 rfl G.dc)) (by simp; omega) (fun s' H0 C cl fp i b u H7 hb sm7 du => ?_) fun b hb => ?_) ?_)) fun v H7 s7 dv7 => q (spaceD n g) v H7 (d6.trans (Dr.same s7)) ((t6.same s7).le (by omega)) dv7 ?_ (isSpace_of LI hn1 (by omega)) (nice_space LI (by omega)))
    · obtain ⟨k, hk, rfl⟩ := List.mem_map.mp (List.mem_of_getElem? hb)
      exact pd_tupleL T.tuple (pd_v 12 rfl du)
    · obtain ⟨k, hk, rfl⟩ := List.mem_map.mp hb
      refine fzA_iff.mpr fun d hd => ?_
      obtain ⟨f', _, rfl⟩ := List.mem_map.mp (show d ∈ (List.range 4).map fun f => gridOf g k f from hd)
      exact fz_cell
    · rw [List.map_map]; rfl
    · refine fzA_iff.mpr fun d hd => ?_
      obtain ⟨k, _, rfl⟩ := List.mem_map.mp hd
      refine fzA_iff.mpr fun d hd => ?_
      obtain ⟨f', _, rfl⟩ := List.mem_map.mp (show d ∈ (List.range 4).map fun f => cellD (g k f) from hd)
      exact fz_cell
end
end Sp
namespace Sp
open PySem L2
section
variable {X : Cx} {σ : L2.St} {H H' : Hp} {e a b c : Expr} {es : List Expr} {pos p p2 : Pos} {d da db dc : Dt} {ds : List Dt} {x : Str}
/-- a pair as the target, the new list told -/
theorem pl_lcP (i j : Nat) {y z : Str} {py pz pt : Pos} {k : Nat} {iter elt : Expr} {scope : Scope} {wi : TI} (f : Dt → Dt) (hc : X.calm = true) (hN : X.N.Nodup) (pi : PI X (.Tuple [.Name y py, .Name z pz] k pt) iter wi) (hi : SrcE X wi σ H ds) (hz : ds.length ≤ 100000)
    (hp : ∀ (n : Nat) d, ds[n]? = some d → ∃ d1 d2, d = .tuple [d1, d2])
    (pg : ∀ s H0 C cl fp, PG (Bk X s H0 scope C cl fp) (.Tuple [.Name y py, .Name z pz] k pt) (gTup X.K 2 (gCons (gName i) (gCons (gName j) gNil))))
    (he : ∀ s H0 C cl fp (n : Nat) d1 d2 v1 v2 H1, ds[n]? = some (.tuple [d1, d2]) → Same H H1 → Dc X.K H1 v1 d1 → Dc X.K H1 v2 d2 → Pd (Bk X s H0 scope C cl fp) elt (((wipe σ [i, j]).set i (some v1)).set j (some v2)) H1 (f (.tuple [d1, d2]))) (hf : ∀ d ∈ ds, fz (f d) = true)
    (ok : BlkOk X.N X.env.scope scope [(y, i), (z, j)] := by first | exact blkOk_by (by kernel_rfl) | exact blkOk_by (by rfl))
    (hs : ∀ x, foldedSetIterable iter X.env x = pure x := by intro _; rfl) : Pl X (.ListComp elt [⟨.Tuple [.Name y py, .Name z pz] k pt, iter, [], 0⟩] scope pos) σ H (ds.map f) := by
  have h := pl_lcG (own := [(y, i), (z, j)]) (tt := tYes) (ifs := []) (T := tPair X.K i j) (elt := elt) (scope := scope) (pos := pos) f (fun _ => true) hc hN pi hi hz ok pg (ht_pair hp) wipe_pair
    (fun _ _ _ _ _ => pts_nil) (fun i d σ' H1 _ _ _ Q q => q H1 (Same.refl _)) (fun s H0 C cl fp n d σ' H1 hd _ sm hT => by
      obtain ⟨d1, d2, v1, v2, rfl, dv1, dv2, rfl⟩ := hT
      exact ⟨H1, Same.refl _, he s H0 C cl fp n d1 d2 v1 v2 H1 hd sm dv1 dv2⟩) (fun d hd _ => hf d hd) hs
  rw [List.filter_eq_self.mpr (fun _ _ => rfl)] at h
  exact h
end
section
variable {X : Cx} {σ : L2.St} {H : Hp} {e1 e2 e3 : Expr} {pos p2 : Pos} {D : Ends} {rest : List Stmt} {k2 : Nat}
/-- a, b, c = e1, e2, e3: the tuple is made -/
theorem wb_three (i j l : Nat) {tg : Expr} (h : WE X e1 σ H fun u H1 => WE X e2 σ H1 fun v H2 => WE X e3 σ H2 fun t H3 => ∀ p, H3 p = none → WB X rest D (((σ.set i (some u)).set j (some v)).set l (some t)) (upd H3 p (.tup [u, v, t])))
    (pg : PG X tg (gTup X.K 3 (gCons (gName i) (gCons (gName j) (gCons (gName l) gNil))))) (hs : swapsWithSole [tg] (.Tuple [e1, e2, e3] k2 p2) pos.line X.env = pure false := by rfl) (hw : swappedStores [tg] (.Tuple [e1, e2, e3] k2 p2) X.env = pure none := by rfl)
    (h1 : (assignEach [tg] X.env).map (fun z => z.2) = [assign tg X.env] := by rfl) (s1 : starEach [e1, e2, e3] X.env = (false, eval e1 X.env) :: starEach [e2, e3] X.env := by rfl) (s2 : starEach [e2, e3] X.env = (false, eval e2 X.env) :: starEach [e3] X.env := by rfl) (s3 : starEach [e3] X.env = (false, eval e3 X.env) :: starEach [] X.env := by rfl) :
    WB X (.Assign [tg] (.Tuple [e1, e2, e3] k2 p2) pos :: rest) D σ H :=
  wb_asg pg (we_of (pe_tup (pa_cons pe_w (pa_cons pe_w (pa_cons pe_w pa_nil s3) s2) s1)) (WE.mono h fun u H1 h => WE.mono h fun v H2 h => WE.mono h fun t H3 h => ⟨(by decide : 3 ≤ sizeLine), fun p hp => ⟨p, _, rfl, SqT.of upd_same, rfl, u, [v, t], rfl, v, [t], rfl, t, [], rfl, rfl, h p hp⟩⟩)) hs hw h1
/-- a, b = e1, e2: the pair is made -/
theorem wb_twoT (i j : Nat) {tg : Expr} (h : WE X e1 σ H fun u H1 => WE X e2 σ H1 fun v H2 => ∀ p, H2 p = none → WB X rest D ((σ.set i (some u)).set j (some v)) (upd H2 p (.tup [u, v])))
    (pg : PG X tg (gTup X.K 2 (gCons (gName i) (gCons (gName j) gNil)))) (hs : swapsWithSole [tg] (.Tuple [e1, e2] k2 p2) pos.line X.env = pure false := by rfl) (hw : swappedStores [tg] (.Tuple [e1, e2] k2 p2) X.env = pure none := by rfl)
    (h1 : (assignEach [tg] X.env).map (fun z => z.2) = [assign tg X.env] := by rfl) (s1 : starEach [e1, e2] X.env = (false, eval e1 X.env) :: starEach [e2] X.env := by rfl) (s2 : starEach [e2] X.env = (false, eval e2 X.env) :: starEach [] X.env := by rfl) :
    WB X (.Assign [tg] (.Tuple [e1, e2] k2 p2) pos :: rest) D σ H :=
  wb_asg pg (we_of (pe_tup (pa_cons pe_w (pa_cons pe_w pa_nil s2) s1)) (WE.mono h fun u H1 h => WE.mono h fun v H2 h => ⟨(by decide : 2 ≤ sizeLine), fun p hp => ⟨p, _, rfl, SqT.of upd_same, rfl, u, [v], rfl, v, [], rfl, rfl, h p hp⟩⟩)) hs hw h1
/-- call == n, call > n as tests, the call drawing -/
theorem wt_eqD {n : Int} {k : Nat} {p3 : Pos} {R : Bool → Hp → Prop} (h : WE X e1 σ H fun v H1 => ∃ r : Int, v = .int r ∧ R (decide (r = n)) H1) : WT X (.Compare e1 [.Eq] [.Constant (.int n) k p3] pos) σ H R :=
  wt_of (pt_cmpR op_eq pe_w pe_int (nobehind _ (by decide) (by decide))) (WE.mono h fun v H1 ⟨r, ev, q⟩ => by
    subst ev
    exact ⟨rfl, _, by rw [dec_int], q⟩)
theorem wt_gtD {n : Int} {k : Nat} {p3 : Pos} {R : Bool → Hp → Prop} (h : WE X e1 σ H fun v H1 => ∃ r : Int, v = .int r ∧ R (decide (n < r)) H1) : WT X (.Compare e1 [.Gt] [.Constant (.int n) k p3] pos) σ H R :=
  wt_of (pt_cmpR op_gt pe_w pe_int (nobehind _ (by decide) (by decide))) (WE.mono h fun v H1 ⟨r, ev, q⟩ => by
    subst ev
    exact ⟨r, n, rfl, rfl, _, rfl, q⟩)
theorem wt_and2 {a b : Expr} {R : Bool → Hp → Prop} (h : WT X a σ H fun k H1 => if k = true then WT X b σ H1 R else R false H1) : WT X (.BoolOp .And [a, b] pos) σ H R := wt_of (PW.pt (pw_and pt_w (pw_and1 pt_w))) h
theorem wt_and3 {a b c : Expr} {R : Bool → Hp → Prop} (h : WT X a σ H fun k H1 => if k = true then (WT X b σ H1 fun k H2 => if k = true then WT X c σ H2 R else R false H2) else R false H1) : WT X (.BoolOp .And [a, b, c] pos) σ H R := wt_of (PW.pt (pw_and pt_w (pw_and pt_w (pw_and1 pt_w)))) h
end
section
variable {P : Program} {w : World} {K : PySem.W.Frag} {mg : Str → Option Value} {base : Heap} {f : Addr} {fd : FuncData}
abbrev R_as_table := R2D fun t u d => ∃ (n : Int) (rows : List (List Int)), t = .int n ∧ u = .list (rows.map fun r => .list (r.map .int)) ∧ rows.length ≤ 1000 ∧ d = .tuple [.int n, .tuple (rows.map tI)]
theorem ok_law_as_table (F : Fun K "_law_as_table" "_law_as_table" s__law_as_table f fd) (T : Tx mg) : FnOk P w K mg base CX0 1 f fd ["wide_so", "rows_so"] (spR K R_as_table) := by
  refine fn_r F sc__law_as_table (fun _ _ h => h.len) fun cdv A outer s H vs Q E ds d hr hv hR q => ?_
  obtain ⟨t, u, rfl, n, rows, rfl, rfl, hz, rfl⟩ := hR
  obtain ⟨a, b, rfl, da, db⟩ := hv.get2
  refine wb_retD (pd_tup (pa_c (pd_v 0 rfl da) (pa_c (pd_tupleL T.tuple (Pd.is (pd_lcN 2 (fun d => .tuple (mem d)) rfl sc__law_as_table.nd (pi_list pe_w) (src_list (pd_v 1 rfl db)) (by simp; omega) (fun s' H0 C cl fp i b u H7 hb sm7 du => ?_) fun b hb => ?_) ?_)) pa_n))) q
  · obtain ⟨r, _, rfl⟩ := List.mem_map.mp (List.mem_of_getElem? hb)
    exact pd_tupleL T.tuple (pd_v 2 rfl du)
  · obtain ⟨r, _, rfl⟩ := List.mem_map.mp hb
    exact fz_ints
  · rw [List.map_map]; rfl
def sp_some_table (K : PySem.W.Frag) : Sp := fun vs H Q _ => ∃ a m, vs = [.ref a, .int 3] ∧ Tin a m H ∧ m + 100 < lim ∧ ∀ d v H', Dr a H H' → Tin a (m + 100) H' → Dc K H' v d → fz d = true → isTable d = true → Nice 4 d → Q v H'
theorem zip_ints : ∀ {xs ys : List Int} {n : Nat} {d1 d2 : Dt}, (zipD (xs.map .int) (ys.map .int))[n]? = some (.tuple [d1, d2]) → ∃ a b : Int, d1 = .int a ∧ d2 = .int b
  | [], _, _, _, _, h => by simp [zipD] at h
  | _ :: _, [], _, _, _, h => by simp [zipD] at h
  | x :: xs, y :: ys, 0, d1, d2, h => by simp [zipD] at h; exact ⟨x, y, h.1.symm, h.2.symm⟩
  | x :: xs, y :: ys, n + 1, d1, d2, h => zip_ints (xs := xs) (ys := ys) (n := n) (by simpa [zipD] using h)
theorem zip_map {g : Int → Int → Int} {ff : Dt → Dt} (hf : ∀ a b, ff (.tuple [.int a, .int b]) = .int (g a b)) : ∀ {xs ys : List Int}, (zipD (xs.map .int) (ys.map .int)).map ff = (List.zipWith g xs ys).map .int
  | [], _ => by simp [zipD]
  | _ :: _, [] => by simp [zipD]
  | x :: xs, y :: ys => by
    have ih := zip_map (g := g) (ff := ff) hf (xs := xs) (ys := ys)
    simp only [zipD, List.map_cons, List.zipWith_cons_cons] at ih ⊢
    rw [ih, hf]
theorem zip_mem {g : Int → Int → Int} : ∀ {xs ys : List Int} {z : Int}, z ∈ List.zipWith g xs ys → ∃ a ∈ xs, ∃ b ∈ ys, z = g a b
  | [], _, _, h => by simp at h
  | _ :: _, [], _, h => by simp at h
  | x :: xs, y :: ys, z, h => by
    rw [List.zipWith_cons_cons] at h
    rcases List.mem_cons.mp h with rfl | h
    · exact ⟨x, by simp, y, by simp, rfl⟩
    · obtain ⟨a, ha, b, hb, e⟩ := zip_mem h
      exact ⟨a, by simp [ha], b, by simp [hb], e⟩
theorem ixN_last {n : Nat} (h : 1 ≤ n) : ixN n (-1) = some (n - 1) := by
  unfold ixN
  rw [if_neg (by omega), if_pos (by omega)]
  congr 1
  omega
def mixD (g : Int → Int → Int) : Dt → Dt | .tuple [.int a, .int b] => .int (g a b) | _ => .none
theorem fz_mix {g : Int → Int → Int} {d : Dt} : fz (mixD g d) = true := by
  unfold mixD
  split <;> rfl
/-- rows of ints, each so long -/
def IntRows (w : Nat) (rows : List (List Int)) : Prop := ∀ r ∈ rows, r.length = w ∧ ∀ i ∈ r, i.natAbs ≤ 1000
theorem table_ok {w : Nat} {rows : List (List Int)} (h : IntRows w rows) (h1 : rows.length ≤ 4) (h2 : w ≤ 4) : fz (.tuple [.int (w : Int), .tuple (rows.map tI)]) = true ∧ isTable (.tuple [.int (w : Int), .tuple (rows.map tI)]) = true ∧ Nice 4 (.tuple [.int (w : Int), .tuple (rows.map tI)]) := by
  refine ⟨?_, ?_, ?_⟩
  · simp [fz, fzA, fz_tIs]
  · show (true && (true && (!decide ((w : Int) < 0) && (true && (rows.map tI).all fun r => areNums r && decide (((mem r).length : Int) = (w : Int)))))) = true
    rw [decide_eq_false (by omega)]
    simp only [Bool.not_false, Bool.true_and]
    refine List.all_eq_true.mpr fun d hd => ?_
    obtain ⟨r, hr, rfl⟩ := List.mem_map.mp hd
    rw [Bool.and_eq_true]
    exact ⟨List.all_eq_true.mpr fun d hd => by obtain ⟨i, _, rfl⟩ := List.mem_map.mp (show d ∈ r.map PyData.int from hd); rfl, decide_eq_true (by show ((r.map PyData.int).length : Int) = w; rw [List.length_map, (h r hr).1])⟩
  · refine nice_tup (by simp) fun d hd => ?_
    simp only [List.mem_cons, List.not_mem_nil, or_false] at hd
    rcases hd with rfl | rfl
    · exact nice_int (by omega)
    · refine nice_tup (by simp; omega) fun d hd => ?_
      obtain ⟨r, hr, rfl⟩ := List.mem_map.mp hd
      exact nice_up (nice_ints (n := 0) (by rw [(h r hr).1]; omega) fun i hi => by have := (h r hr).2 i hi; omega) (by decide)
/-- rows of values that are ints -/
theorem rows_ints {w : Nat} : ∀ {rows : List (List V)}, (∀ r ∈ rows, ∃ ns : List Int, r = ns.map V.int ∧ ns.length = w ∧ ∀ i ∈ ns, i.natAbs ≤ 100) → ∃ nss : List (List Int), rows = nss.map (fun ns => ns.map V.int) ∧ nss.length = rows.length ∧ ∀ ns ∈ nss, ns.length = w ∧ ∀ i ∈ ns, i.natAbs ≤ 100
  | [], _ => ⟨[], rfl, rfl, fun _ h => by cases h⟩
  | r :: rows, h => by
    obtain ⟨ns, rfl, h1, h2⟩ := h r (by simp)
    obtain ⟨nss, rfl, h3, h4⟩ := rows_ints (rows := rows) fun r hr => h r (by simp [hr])
    refine ⟨ns :: nss, rfl, by simp, fun ns' h' => ?_⟩
    rcases List.mem_cons.mp h' with rfl | h'
    · exact ⟨h1, h2⟩
    · exact h4 _ h'
theorem ok_law_some_table (F : Fun K "_law_some_table" "_law_some_table" s__law_some_table f fd) (T : Tx mg) (F1 : Ds P w K mg base 1 "_law_take" sp_take) (F2 : Ds P w K mg base 2 "_law_of" (sp_of K)) (F3 : Df P w K mg base 1 "_law_as_table" R_as_table) :
    FnOk P w K mg base CX0 3 f fd ["tin", "most_so"] (sp_some_table K) := by
  refine fn_s F sc__law_some_table (fun vs H Q E h => by obtain ⟨_, _, rfl, _⟩ := h; rfl) fun cdv A outer s H vs Q E hr h => ?_
  obtain ⟨a, m, rfl, ht, hm, q⟩ := h
  have hm : m + 100 < 1152921504606846976 := hm
  refine wb_three 2 3 4 ?_ (pg_tup rfl (pgs_cons (pg_name (i := 2) sc__law_some_table.nd rfl (by first | exact Or.inl rfl | exact Or.inr rfl)) (pgs_cons (pg_name (i := 3) sc__law_some_table.nd rfl (by first | exact Or.inl rfl | exact Or.inr rfl)) (pgs_cons (pg_name (i := 4) sc__law_some_table.nd rfl (by first | exact Or.inl rfl | exact Or.inr rfl)) pgs_nil))))
  refine we_take 0 F1 hr rfl (Pd.run (pd_add (pd_v 1 rfl (.int 3)) pd_int) fun v H1 s1 dv => ?_)
  cases dv
  refine ⟨4, m, rfl, ⟨by decide, by decide⟩, ht.same s1, by show _ < 1152921504606846976; omega, fun wide H2 hw d2 t2 => ?_⟩
  refine we_take 0 F1 hr rfl (Pd.run (pd_add (pd_v 1 rfl (.int 3)) pd_int) fun v H3 s3 dv => ?_)
  cases dv
  refine ⟨4, m + 1, rfl, ⟨by decide, by decide⟩, t2.same s3, by show _ < 1152921504606846976; omega, fun many H4 hmy d4 t4 => ?_⟩
  refine we_call F2 hr (wa_cons (we_of (pv 0) ⟨_, rfl, wa_cons (we_lstF (pa_c pd_int (pa_c pd_int (pa_c pd_int (pa_c pd_int pa_n)))) (by decide) fun l us H5 s5 hl hu du => wa_nil ?_) rfl⟩) rfl)
  have eu : us = [.int 2, .int 4, .int 9, .int 31] := dp_ints (ns := [2, 4, 9, 31]) du
  subst eu
  refine ⟨a, l, _, m + 2, rfl, t4.ne hl, t4.same s5, by show _ < 1152921504606846976; omega, hu, ⟨by decide, by decide⟩, fun ix y H6 hy d6 t6 => ?_⟩
  obtain ⟨top, rfl, ht1, ht2⟩ : ∃ top : Nat, y = .int (top : Int) ∧ 1 ≤ top ∧ top ≤ 31 := by
    match ix, hy with
    | 0, hy => cases hy; exact ⟨2, rfl, by decide, by decide⟩
    | 1, hy => cases hy; exact ⟨4, rfl, by decide, by decide⟩
    | 2, hy => cases hy; exact ⟨9, rfl, by decide, by decide⟩
    | 3, hy => cases hy; exact ⟨31, rfl, by decide, by decide⟩
    | ix + 4, hy => simp at hy
  intro tp htp
  have d06 : Dr a H (upd H6 tp (.tup [.int (wide : Int), .int (many : Int), .int (top : Int)])) := ((((Dr.same s1).trans d2).trans ((Dr.same s3).trans d4)).trans ((Dr.same s5).trans d6)).trans (Dr.same (Same.new htp))
  have t6 := t6.same (Same.new (o := .tup [.int (wide : Int), .int (many : Int), .int (top : Int)]) htp)
  generalize upd H6 tp (.tup [.int (wide : Int), .int (many : Int), .int (top : Int)]) = H6 at d06 t6
  -- rows
  refine wb_setR 6 5 rfl sc__law_some_table.nd (pi_range1 rfl T.range pa_w) (we_of (pv 3) ⟨_, rfl, many, a, m + 3, 3, fun vs => ∃ ns : List Int, vs = ns.map V.int ∧ ns.length = wide ∧ ∀ i ∈ ns, i.natAbs ≤ 100, rfl, by omega, t6, ?_, ?_⟩)
  · intro s' H0 C cl fp k H7 hk d7 t7 Q7 q7
    refine we_lcD 7 rfl sc__law_some_table.nd (pi_range1 rfl T.range pa_w) (we_of (pv 2) ⟨_, rfl, wide, a, m + 3 + 3 * k, 1, fun d => ∃ i : Int, d = .int i ∧ i.natAbs ≤ 100, rfl, by omega, t7, ?_, ?_⟩)
    · intro s2 H02 C2 cl2 fp2 k2 H8 hk2 d8 t8 Q8 q8
      refine we_of (pe_op op_sub pe_w (pv 4)) ?_
      refine we_take 0 F1 hr rfl (Pd.run (pd_add (pd_mul pd_int (pd_v 4 rfl (.int (top : Int))) (.inl ⟨by decide, by decide⟩)) pd_int) fun v H9 s9 dv => ?_)
      cases dv
      refine ⟨2 * top + 1, m + 3 + 3 * k + 1 * k2, by congr 1, ⟨by omega, by omega⟩, t8.same s9, by show _ < 1152921504606846976; omega, fun r H10 hr10 d10 t10 => ?_⟩
      exact ⟨_, rfl, (r : Int), (top : Int), rfl, rfl, q8 (.int ((r : Int) - top)) _ _ ((Dr.same s9).trans d10) (t10.le (by omega)) (.int _) rfl ⟨_, rfl, by omega⟩⟩
    · intro l2 ds2 vs2 H8 d8 t8 hl2 _ hv2 dv2 _ hlen2 hall2
      obtain ⟨ns, rfl, hn⟩ := nums_ex hall2
      exact q7 l2 vs2 H8 d8 (t8.le (by omega)) hl2 hv2 ⟨ns, dp_ints dv2, by rw [List.length_map] at hlen2; exact hlen2, hn⟩
  intro R ps rows H7 d7 t7 hR0 hps0 ra hrl hrows
  obtain ⟨nss, rfl, hnl, hns⟩ := rows_ints hrows
  rw [hrl] at hnl
  have hRH : H R = none := d06.ne_none hR0 ra.la
  have d07 := d06.trans d7
  have t7' : Tin a (m + 20) H7 := t7.le (by omega)
  have hpl : ps.length = many := by rw [ra.len, hrl]
  have rowDc : ∀ {H' : Hp}, (∀ p ∈ ps, H7 p = H' p) → ∀ k, k < many → ∃ p, ps[k]? = some p ∧ Dc K H' (.ref p) (.list ((nss.getD k []).map .int)) := fun {H'} hsame k hk => by
    have hk' : k < ps.length := by omega
    refine ⟨ps[k], List.getElem?_eq_getElem hk', ?_⟩
    have h1 := ra.row k ps[k] ((nss.getD k []).map V.int) (List.getElem?_eq_getElem hk') (by
      have : k < nss.length := by omega
      simp [List.getD, this])
    rw [hsame _ (List.getElem_mem hk')] at h1
    exact .lst (SqL.of h1) ints_dp
  have allDc : Dc K H7 (.ref R) (.list (nss.map fun r => .list (r.map .int))) := by
    refine .lst (SqL.of ra.lst) (dcAll_of (by simp [hpl, hnl]) fun k v d hv hd => ?_)
    have hk : k < many := by
      have := (List.getElem?_eq_some_iff.mp hd).1
      simp at this; omega
    obtain ⟨p, h1, h2⟩ := rowDc (H' := H7) (fun _ _ => rfl) k hk
    rw [List.getElem?_map, h1] at hv
    have hk' : k < nss.length := by omega
    rw [List.getElem?_map, List.getElem?_eq_getElem hk'] at hd
    cases hv; cases hd
    have e : nss.getD k [] = nss[k] := by simp [List.getD, hk']
    rw [← e]; exact h2
  -- the end, whatever the rows
  have fin : ∀ (σ' : L2.St) (H' : Hp) (nss' : List (List Int)) m', σ'[2]? = some (some (.int (wide : Int))) → σ'[5]? = some (some (.ref R)) → Dr a H H' → Tin a m' H' → m' ≤ m + 100 → Dc K H' (.ref R) (.list (nss'.map fun r => .list (r.map .int))) → nss'.length ≤ 4 → IntRows wide nss' →
      WB (cxOf CX0 P w K mg base n__law_some_table "_law_some_table" (defScope s__law_some_table) f cdv A outer s H E).nox [(defBody s__law_some_table).getD 3 (.Pass ⟨0, 0, 0, 0⟩)] { nx := fun _ H' => Q .non H', rt := Q } σ' H' := by
    intro σ' H' nss' m' hs2 hs5 dr tr hm' dc hl hir
    obtain ⟨o1, o2, o3⟩ := table_ok hir hl (by omega)
    exact wb_ret (Pd.run (pd_call F3 hr (pa_c (pd_v 2 hs2 (.int (wide : Int))) (pa_c (pd_v 5 hs5 dc) pa_n)) ⟨_, _, rfl, _, nss', rfl, rfl, by omega, rfl⟩) fun v H8 s8 dv => q _ v H8 (dr.trans (Dr.same s8)) ((tr.same s8).le hm') dv o1 o2 o3)
  have base : IntRows wide nss := fun r hr' => ⟨(hns r hr').1, fun i hi => by have := (hns r hr').2 i hi; omega⟩
  have bs : ∀ {H' : Hp}, Same H7 H' → Dc K H' (.ref R) (.list (nss.map fun r => .list (r.map .int))) := fun s => Dc.kept s allDc
  refine wb_if (wt_and2 (Pt.run (pt_gt (pd_v 3 rfl (.int (many : Int))) pd_int) fun H8 s8 => ?_))
  have plain : ∀ (H' : Hp) m', Same H7 H' ∨ True → Dr a H7 H' → Tin a m' H' → m' ≤ m + 60 → Dc K H' (.ref R) (.list (nss.map fun r => .list (r.map .int))) → Dr a H H' := fun H' m' _ d _ _ _ => d07.trans d
  cases hgt : decide ((1 : Int) < (many : Int)) with
  | false =>
    rw [if_neg (by decide)]
    rw [if_neg (by decide)]
    exact wb_nil (fin _ H8 nss _ rfl rfl (d07.trans (Dr.same s8)) (t7'.same s8) (by omega) (bs s8) (by omega) base)
  | true =>
    rw [if_pos rfl]
    have hmany : 2 ≤ many := by have := of_decide_eq_true hgt; omega
    refine wt_eqD ?_
    refine we_take 0 F1 hr rfl (we_of pe_int ?_)
    refine ⟨3, m + 20, rfl, ⟨by decide, by decide⟩, t7'.same s8, by show _ < 1152921504606846976; omega, fun r9 H9 hr9 d9 t9 => ⟨(r9 : Int), rfl, ?_⟩⟩
    have d79 : Dr a H7 H9 := (Dr.same s8).trans d9
    have ra9 := ra.dr d79
    have dc9 : Dc K H9 (.ref R) (.list (nss.map fun r => .list (r.map .int))) := by
      refine .lst (SqL.of ra9.lst) (dcAll_of (by simp [hpl, hnl]) fun k v d hv hd => ?_)
      have hk : k < many := by
        have := (List.getElem?_eq_some_iff.mp hd).1
        simp at this; omega
      have hk' : k < nss.length := by omega
      have hk2 : k < ps.length := by omega
      rw [List.getElem?_map, List.getElem?_eq_getElem hk2] at hv
      rw [List.getElem?_map, List.getElem?_eq_getElem hk'] at hd
      cases hv; cases hd
      exact .lst (SqL.of (ra9.row k _ _ (List.getElem?_eq_getElem hk2) (by rw [List.getElem?_map, List.getElem?_eq_getElem hk']; rfl))) ints_dp
    cases hz : decide ((r9 : Int) = 0) with
    | false =>
      rw [if_neg (by decide)]
      exact wb_nil (fin _ H9 nss _ rfl rfl (d07.trans d79) t9 (by omega) dc9 (by omega) base)
    | true =>
      rw [if_pos rfl]
      refine wb_twoT 8 9 ?_ (pg_tup rfl (pgs_cons (pg_name (i := 8) sc__law_some_table.nd rfl (by first | exact Or.inl rfl | exact Or.inr rfl)) (pgs_cons (pg_name (i := 9) sc__law_some_table.nd rfl (by first | exact Or.inl rfl | exact Or.inr rfl)) pgs_nil)))
      refine we_of (pe_op op_sub pe_w pe_int) ?_
      refine we_take 0 F1 hr rfl (we_of pe_int ⟨5, m + 20 + 1, rfl, ⟨by decide, by decide⟩, t9, by show _ < 1152921504606846976; omega, fun rx H10 hrx d10 t10 => ?_⟩)
      refine ⟨(rx : Int), 2, rfl, rfl, ?_⟩
      refine we_call F2 hr (wa_cons (we_of (pv 0) ⟨_, rfl, wa_cons (we_lstF (pa_c pd_int (pa_c pd_int (pa_c pd_int pa_n))) (by decide) fun l us H11 s11 hl hu du => wa_nil ?_) rfl⟩) rfl)
      have eu : us = [.int 1, .int 2, .int 3] := dp_ints (ns := [1, 2, 3]) du
      subst eu
      refine ⟨a, l, _, m + 22, rfl, t10.ne hl, t10.same s11, by show _ < 1152921504606846976; omega, hu, ⟨by decide, by decide⟩, fun ix y H12 hy d12 t12 => ?_⟩
      obtain ⟨yy, rfl, hy1, hy2⟩ : ∃ yy : Nat, y = .int (yy : Int) ∧ 1 ≤ yy ∧ yy ≤ 3 := by
        match ix, hy with
        | 0, hy => cases hy; exact ⟨1, rfl, by decide, by decide⟩
        | 1, hy => cases hy; exact ⟨2, rfl, by decide, by decide⟩
        | 2, hy => cases hy; exact ⟨3, rfl, by decide, by decide⟩
        | ix + 3, hy => simp at hy
      intro tp htp
      have d7b : Dr a H7 (upd H12 tp (.tup [.int ((rx : Int) - 2), .int (yy : Int)])) := ((d79.trans d10).trans ((Dr.same s11).trans d12)).trans (Dr.same (Same.new htp))
      have t13 := t12.same (Same.new (o := .tup [.int ((rx : Int) - 2), .int (yy : Int)]) htp)
      show WB _ _ _ _ (upd H12 tp (.tup [.int ((rx : Int) - 2), .int (yy : Int)]))
      generalize upd H12 tp (.tup [.int ((rx : Int) - 2), .int (yy : Int)]) = H13 at d7b t13
      have ra13 := ra.dr d7b
      have row13 : ∀ k, k < many → ∃ p, ps[k]? = some p ∧ Dc K H13 (.ref p) (.list ((nss.getD k []).map .int)) := fun k hk => by
        have hk' : k < nss.length := by omega
        have hk2 : k < ps.length := by omega
        refine ⟨ps[k], List.getElem?_eq_getElem hk2, .lst (SqL.of (ra13.row k _ _ (List.getElem?_eq_getElem hk2) (by rw [List.getElem?_map, List.getElem?_eq_getElem hk']; rfl))) ?_⟩
        have e : nss.getD k [] = nss[k] := by simp [List.getD, hk']
        rw [e]; exact ints_dp
      have dc13 : Dc K H13 (.ref R) (.list (nss.map fun r => .list (r.map .int))) := by
        refine .lst (SqL.of ra13.lst) (dcAll_of (by simp [hpl, hnl]) fun k v d hv hd => ?_)
        have hk : k < many := by
          have := (List.getElem?_eq_some_iff.mp hd).1
          simp at this; omega
        obtain ⟨p, h1, h2⟩ := row13 k hk
        have hk' : k < nss.length := by omega
        rw [List.getElem?_map, h1] at hv
        rw [List.getElem?_map, List.getElem?_eq_getElem hk'] at hd
        cases hv; cases hd
        have e : nss.getD k [] = nss[k] := by simp [List.getD, hk']
        rw [← e]; exact h2
      obtain ⟨n0, n1, nt, enss⟩ : ∃ n0 n1 nt, nss = n0 :: n1 :: nt := by
        match nss, hnl with
        | [], hnl => simp at hnl; omega
        | [_], hnl => simp at hnl; omega
        | n0 :: n1 :: nt, _ => exact ⟨n0, n1, nt, rfl⟩
      have b0 := hns n0 (by rw [enss]; simp)
      have b1 := hns n1 (by rw [enss]; simp)
      let gg : Int → Int → Int := fun x y => ((rx : Int) - 2) * x + (if (2 : Int) < (many : Int) then (yy : Int) * y else 0)
      have hRH13 : H13 R = some (.lst (ps.map V.ref)) := ra13.lst
      refine wb_sub (Pl.run (Pl.is (pl_lcP 10 11 (mixD gg) rfl sc__law_some_table.nd (pi_zip rfl T.zip pa_w) (src_zip (ds := n0.map .int) (es := n1.map .int) (pa_c (pd_ixL (pd_v 5 rfl dc13) pd_int (by rw [enss]; exact at0)) (pa_c (pd_ixL (pd_v 5 rfl dc13) pd_int (by rw [enss]; exact at1)) pa_n))) (by simp [zipD]; omega) zip_pair
        (fun _ _ _ _ _ => pg_tup rfl (pgs_cons (pg_name (i := 10) sc__law_some_table.nd rfl (by first | exact Or.inl rfl | exact Or.inr rfl)) (pgs_cons (pg_name (i := 11) sc__law_some_table.nd rfl (by first | exact Or.inl rfl | exact Or.inr rfl)) pgs_nil))) (fun s' H0 C cl fp n d1 d2 v1 v2 H15 hd sm15 dv1 dv2 => ?_) fun _ _ => fz_mix) (zip_map (g := gg) fun _ _ => rfl)) fun l us H14 s14 hl hu du => ?_)
      · obtain ⟨aa, bb, rfl, rfl⟩ := zip_ints hd
        refine pd_add (pd_mul (pd_v 8 rfl (.int ((rx : Int) - 2))) (pd_v 10 rfl dv1) (.inl ⟨by omega, by omega⟩)) (pd_if (k := decide ((2 : Int) < (many : Int))) (pt_gt (pd_v 3 rfl (.int (many : Int))) pd_int) (fun h => ?_) fun h => ?_)
        · rw [if_pos (of_decide_eq_true h)]
          exact pd_mul (pd_v 9 rfl (.int (yy : Int))) (pd_v 11 rfl dv2) (.inl ⟨by omega, by omega⟩)
        · rw [if_neg (of_decide_eq_false h)]
          exact pd_int
      have hlR : l ≠ R := by rintro rfl; rw [hRH13] at hl; cases hl
      have hR14 := s14 _ _ hRH13
      refine we_of (pv 5) ⟨_, rfl, Pd.run (pd_neg pd_int) fun v H15 s15 dv15 => ?_⟩
      cases dv15
      have hR15 := s15 _ _ hR14
      refine ⟨R, ps.map V.ref, many - 1, rfl, hR15, ⟨-1, rfl, by rw [List.length_map, hpl]; exact ixN_last (by omega)⟩, wb_nil ?_⟩
      have s135 := s14.trans s15
      have ra15 := ra13.dr (Dr.same s135)
      refine fin _ _ (nss.set (many - 1) (List.zipWith gg n0 n1)) (m + 50) rfl rfl (Same.mut (d07.trans (d7b.trans (Dr.same s135))) (by rw [hide_ne ra.la]; exact hRH)) ?_ (by omega) ?_ (by rw [List.length_set]; omega) ?_
      · obtain ⟨g', l', c', hl', hr'⟩ := (t13.same s135).ex
        exact ⟨g', l', c', by rw [upd_ne (Ne.symm ra.la)]; exact hl', hr'.1, by omega⟩
      · refine .lst (SqL.of upd_same) (dcAll_of (by simp [hpl, hnl]) fun k v d hv hd => ?_)
        have hk : k < many := by
          have := (List.getElem?_eq_some_iff.mp hd).1
          simp at this; omega
        have hk' : k < nss.length := by omega
        have hk2 : k < ps.length := by omega
        rw [List.getElem?_map] at hd
        by_cases e : k = many - 1
        · subst e
          rw [List.getElem?_set_self (by simp; omega)] at hv
          rw [List.getElem?_set_self (by omega)] at hd
          cases hv; cases hd
          have hu15 := s15 _ _ hu
          rw [dp_ints du] at hu15
          exact .lst (SqL.of (by rw [upd_ne hlR]; exact hu15)) ints_dp
        · rw [List.getElem?_set_ne (Ne.symm e), List.getElem?_map, List.getElem?_eq_getElem hk2] at hv
          rw [List.getElem?_set_ne (Ne.symm e), List.getElem?_eq_getElem hk'] at hd
          cases hv; cases hd
          have hpR : ps[k] ≠ R := fun e => ra.nl (e ▸ List.getElem_mem hk2)
          exact .lst (SqL.of (by rw [upd_ne hpR]; exact ra15.row k _ _ (List.getElem?_eq_getElem hk2) (by rw [List.getElem?_map, List.getElem?_eq_getElem hk']; rfl))) ints_dp
      · intro r hr'
        rcases List.mem_or_eq_of_mem_set hr' with hr' | rfl
        · exact base r hr'
        · refine ⟨by rw [List.length_zipWith, b0.1, b1.1]; omega, fun z hz => ?_⟩
          obtain ⟨x, hx, y, hy, rfl⟩ := zip_mem hz
          have hx' := b0.2 x hx
          have hy' := b1.2 y hy
          show (((rx : Int) - 2) * x + (if (2 : Int) < (many : Int) then (yy : Int) * y else 0)).natAbs ≤ 1000
          have h1 : (((rx : Int) - 2) * x).natAbs ≤ 200 := by
            rw [Int.natAbs_mul]
            exact Nat.le_trans (Nat.mul_le_mul (show ((rx : Int) - 2).natAbs ≤ 2 by omega) hx') (by decide)
          have h2 : (if (2 : Int) < (many : Int) then (yy : Int) * y else 0).natAbs ≤ 300 := by
            split
            · rw [Int.natAbs_mul]
              exact Nat.le_trans (Nat.mul_le_mul (show ((yy : Int)).natAbs ≤ 3 by omega) hy') (by decide)
            · decide
          omega
end
end Sp
namespace Sp
open PySem L2
/-- rows at their places, each of its own length -/
structure Grd (K : PySem.W.Frag) (a : Addr) (H : Hp) (l : Addr) (ps : List Addr) (n : Nat) (w : Nat → Nat) (g : Nat → Nat → Dt) : Prop where
  ex : ∃ rows, RowsAt a H l ps rows ∧ rows.length = n ∧ ∀ k, k < n → (rows.getD k []).length = w k ∧ ∀ f, f < w k → ∃ v, (rows.getD k [])[f]? = some v ∧ Dc K H v (g k f)
section
variable {K : PySem.W.Frag} {a l : Addr} {H H' : Hp} {ps : List Addr} {n : Nat} {w : Nat → Nat} {g : Nat → Nat → Dt} {m : Nat}
theorem Grd.dr (G : Grd K a H l ps n w g) (hf : ∀ k f, fz (g k f) = true) (d : Dr a H H') (t : Tin a m H) : Grd K a H' l ps n w g := by
  obtain ⟨rows, r, h1, h2⟩ := G.ex
  refine ⟨rows, r.dr d, h1, fun k hk => ⟨(h2 k hk).1, fun f hf' => ?_⟩⟩
  obtain ⟨v, h3, h4⟩ := (h2 k hk).2 f hf'
  exact ⟨v, h3, Dc.fz (d.t t) h4 (hf k f)⟩
theorem Grd.row (G : Grd K a H l ps n w g) {k : Nat} (hk : k < n) : ∃ p r, ps[k]? = some p ∧ H p = some (.lst r) ∧ r.length = w k := by
  obtain ⟨rows, r, h1, h2⟩ := G.ex
  obtain ⟨p, h3, h4⟩ := r.get (k := k) (by omega)
  exact ⟨p, _, h3, h4, (h2 k hk).1⟩
theorem Grd.lst (G : Grd K a H l ps n w g) : H l = some (.lst (ps.map V.ref)) ∧ ps.length = n ∧ l ∉ ps ∧ a ∉ ps ∧ l ≠ a := by
  obtain ⟨rows, r, h1, h2⟩ := G.ex
  exact ⟨r.lst, by rw [r.len, h1], r.nl, r.na, r.la⟩
theorem Grd.set (G : Grd K a H l ps n w g) (hf : ∀ k f, fz (g k f) = true) {k f : Nat} (hk : k < n) (hfw : f < w k) {p : Addr} {r : List V} (hp : ps[k]? = some p) (hr : H p = some (.lst r)) {v : V} {d : Dt} (dv : Dc K H v d) (fd : fz d = true) :
    Grd K a (upd H p (.lst (r.set f v))) l ps n w (fun k' f' => if (k', f') = (k, f) then d else g k' f') := by
  obtain ⟨rows, ra, h1, h2⟩ := G.ex
  have er : rows.getD k [] = r := by
    obtain ⟨p', h3, h4⟩ := ra.get (k := k) (by omega)
    rw [hp] at h3
    cases h3
    rw [hr] at h4
    injection h4 with h4
    injection h4 with h4
    exact h4.symm
  have ts := TSame.lst (K := K) (o := .lst (r.set f v)) hr
  refine ⟨rows.set k (r.set f v), ra.set hp, by rw [List.length_set]; exact h1, fun k' hk' => ?_⟩
  by_cases e : k' = k
  · subst e
    have e2 : (rows.set k' (r.set f v)).getD k' [] = r.set f v := by simp [List.getD, h1, hk]
    rw [e2, List.length_set]
    have h3 := h2 k' hk
    rw [er] at h3
    refine ⟨h3.1, fun f' hf' => ?_⟩
    by_cases e3 : f' = f
    · subst e3
      rw [if_pos rfl]
      exact ⟨v, List.getElem?_set_self (by rw [h3.1]; exact hf'), Dc.fz ts dv fd⟩
    · rw [if_neg (by simp [e3]), List.getElem?_set_ne (Ne.symm e3)]
      obtain ⟨u, h5, h6⟩ := h3.2 f' hf'
      exact ⟨u, h5, Dc.fz ts h6 (hf _ _)⟩
  · have e2 : (rows.set k (r.set f v)).getD k' [] = rows.getD k' [] := by simp [List.getD, List.getElem?_set_ne (Ne.symm e)]
    rw [e2]
    have h3 := h2 k' hk'
    refine ⟨h3.1, fun f' hf' => ?_⟩
    rw [if_neg (by simp [e])]
    obtain ⟨u, h5, h6⟩ := h3.2 f' hf'
    exact ⟨u, h5, Dc.fz ts h6 (hf _ _)⟩
theorem Grd.dc (G : Grd K a H l ps n w g) : Dc K H (.ref l) (.list ((List.range n).map fun k => .list ((List.range (w k)).map fun f => g k f))) := by
  obtain ⟨rows, r, h1, h2⟩ := G.ex
  have hlp := r.len
  refine .lst (SqL.of r.lst) (dcAll_of (by simp [hlp, h1]) fun k v d hv hd => ?_)
  have hk : k < n := by
    have := (List.getElem?_eq_some_iff.mp hd).1
    simpa using this
  obtain ⟨p, h3, h4⟩ := r.get (k := k) (by omega)
  have ev : v = .ref p := by
    rw [List.getElem?_map, h3] at hv
    exact (Option.some.inj hv).symm
  have ed : d = .list ((List.range (w k)).map fun f => g k f) := by
    rw [List.getElem?_map, List.getElem?_range hk] at hd
    exact (Option.some.inj hd).symm
  subst ev; subst ed
  obtain ⟨h5, h6⟩ := h2 k hk
  refine .lst (SqL.of h4) (dcAll_of (by rw [h5]; simp) fun f v d hv hd => ?_)
  have hf : f < w k := by
    have := (List.getElem?_eq_some_iff.mp hd).1
    simpa using this
  obtain ⟨u, h7, h8⟩ := h6 f hf
  rw [hv] at h7
  cases h7
  have ed : d = g k f := by
    rw [List.getElem?_map, List.getElem?_range hf] at hd
    exact (Option.some.inj hd).symm
  subst ed
  exact h8
end
theorem Grd.keep {K : PySem.W.Frag} {a l : Addr} {H H' : Hp} {ps : List Addr} {n : Nat} {w : Nat → Nat} {g : Nat → Nat → Dt} (G : Grd K a H l ps n w g) (hf : ∀ k f, fz (g k f) = true) (k : ∀ c o, c = l ∨ c ∈ ps → H c = some o → H' c = some o) (t : TSame K H H') : Grd K a H' l ps n w g := by
  obtain ⟨rows, r, h1, h2⟩ := G.ex
  refine ⟨rows, r.keep k, h1, fun k hk => ⟨(h2 k hk).1, fun f hf' => ?_⟩⟩
  obtain ⟨v, h3, h4⟩ := (h2 k hk).2 f hf'
  exact ⟨v, h3, Dc.fz t h4 (hf k f)⟩
/-! ### a partial matching of sides -/
abbrev Sid := Option (Nat × Nat × Int)
def sideD : Sid → Dt
  | none => .none
  | some (a, b, c) => .tuple [.int (a : Int), .int (b : Int), .int c]
def srowD (w : Nat → Nat) (g : Nat → Nat → Sid) (k : Nat) : List Dt := (List.range (w k)).map fun f => sideD (g k f)
def surfD (n : Nat) (w : Nat → Nat) (g : Nat → Nat → Sid) : Dt := .tuple ((List.range n).map fun k => .tuple (srowD w g k))
theorem fz_side {c : Sid} : fz (sideD c) = true := by
  cases c with
  | none => rfl
  | some c => obtain ⟨a, b, c⟩ := c; rfl
structure SInv (n : Nat) (w : Nat → Nat) (ls : List (Nat × Nat)) (g : Nat → Nat → Sid) : Prop where
  nd : ls.Nodup
  left : ∀ p ∈ ls, p.1 < n ∧ p.2 < w p.1 ∧ g p.1 p.2 = none
  side : ∀ f s a b c, f < n → s < w f → g f s = some (a, b, c) → (a < n ∧ b < w a ∧ (c = 1 ∨ c = -1)) ∧ (a, b) ≠ (f, s) ∧ g a b = some (f, s, c)
def putS (g : Nat → Nat → Sid) (b f : Nat) (c : Sid) : Nat → Nat → Sid := fun k h => if (k, h) = (b, f) then c else g k h
theorem SInv.put {n : Nat} {w : Nat → Nat} {ls : List (Nat × Nat)} {g : Nat → Nat → Sid} {b f o t : Nat} {c : Int} (L : SInv n w ((b, f) :: (o, t) :: ls) g) (hc : c = 1 ∨ c = -1) : SInv n w ls (putS (putS g b f (some (o, t, c))) o t (some (b, f, c))) := by
  obtain ⟨n1, n2⟩ := List.nodup_cons.mp L.nd
  obtain ⟨n2, n3⟩ := List.nodup_cons.mp n2
  have hbf := L.left (b, f) (by simp)
  have hot := L.left (o, t) (by simp)
  have hne : (b, f) ≠ (o, t) := fun z => n1 (by rw [z]; simp)
  refine ⟨n3, fun p hp' => ?_, fun k h a1 b1 c1 hk hh hg => ?_⟩
  · have := L.left p (by simp [hp'])
    refine ⟨this.1, this.2.1, ?_⟩
    have h1 : (p.1, p.2) ≠ (o, t) := fun z => n2 (by rw [← z]; exact hp')
    have h2 : (p.1, p.2) ≠ (b, f) := fun z => n1 (by rw [← z]; exact List.mem_cons_of_mem _ hp')
    unfold putS
    rw [if_neg h1, if_neg h2]
    exact this.2.2
  · by_cases h1 : (k, h) = (o, t)
    · cases h1
      simp only [putS, if_true] at hg
      cases hg
      refine ⟨⟨hbf.1, hbf.2.1, hc⟩, hne, ?_⟩
      unfold putS
      rw [if_neg hne, if_pos rfl]
    by_cases h2 : (k, h) = (b, f)
    · cases h2
      unfold putS at hg
      rw [if_neg h1, if_pos rfl] at hg
      cases hg
      refine ⟨⟨hot.1, hot.2.1, hc⟩, hne.symm, ?_⟩
      unfold putS
      rw [if_pos rfl]
    · unfold putS at hg
      rw [if_neg h1, if_neg h2] at hg
      obtain ⟨a2, a3, a4⟩ := L.side k h a1 b1 c1 hk hh hg
      refine ⟨a2, a3, ?_⟩
      have q1 : (a1, b1) ≠ (o, t) := fun z => by cases z; rw [hot.2.2] at a4; cases a4
      have q2 : (a1, b1) ≠ (b, f) := fun z => by cases z; rw [hbf.2.2] at a4; cases a4
      unfold putS
      rw [if_neg q1, if_neg q2]
      exact a4
theorem surf_row {n k : Nat} {w : Nat → Nat} {g : Nat → Nat → Sid} (hk : k < n) : ((List.range n).map fun k => PyData.tuple (srowD w g k)).getD k .none = .tuple (srowD w g k) := by
  simp [List.getD, hk]
theorem srow_at {k f : Nat} {w : Nat → Nat} {g : Nat → Nat → Sid} (hf : f < w k) : nth (.tuple (srowD w g k)) f = sideD (g k f) := by
  simp [nth, mem, srowD, List.getD, hf]
theorem isSurface_of {n : Nat} {w : Nat → Nat} {ls : List (Nat × Nat)} {g : Nat → Nat → Sid} (L : SInv n w ls g) (hw : ∀ k, k < n → 3 ≤ w k) : isSurface (surfD n w g) = true := by
  have len : ((List.range n).map fun k => PyData.tuple (srowD w g k)).length = n := by simp
  unfold surfD isSurface
  refine Bool.and_eq_true_iff.mpr ⟨?_, ?_⟩
  · refine List.all_eq_true.mpr fun b hb => ?_
    obtain ⟨k, hk, rfl⟩ := List.mem_map.mp hb
    have := hw k (List.mem_range.mp hk)
    rw [Bool.and_eq_true]
    refine ⟨rfl, decide_eq_true ?_⟩
    show (2 : Int) < ((srowD w g k).length : Int)
    simp [srowD]; omega
  · refine okAll_true fun f s hf hs => ?_
    rw [len] at hf
    rw [surf_row hf] at hs
    have hs : s < w f := by simpa [mem, srowD] using hs
    unfold sideAt
    rw [surf_row hf, srow_at hs]
    cases hc : g f s with
    | none => rfl
    | some c =>
      obtain ⟨a, b, c⟩ := c
      obtain ⟨⟨a1, a2, a3⟩, a4, a5⟩ := L.side f s a b c hf hs hc
      refine side_three.mpr ⟨by rcases a3 with rfl | rfl <;> simp, ⟨by omega, by rw [len]; omega⟩, ⟨by omega, ?_⟩, fun z => a4 ?_, ?_⟩
      · rw [Int.toNat_natCast, surf_row a1]
        show (b : Int) < ((srowD w g a).length : Int)
        simp [srowD]; exact a2
      · simp only [List.cons.injEq, and_true] at z
        have z1 : a = f := by omega
        have z2 : b = s := by omega
        rw [z1, z2]
      · rw [Int.toNat_natCast, Int.toNat_natCast, surf_row a1, srow_at a2, a5]
        show PyData.eqv (.tuple [.int (f : Int), .int (s : Int), .int c]) (.tuple [.int (f : Int), .int (s : Int), .int c]) = true
        simp [PyData.eqv, PyData.eqvAll]
theorem nice_surf {n : Nat} {w : Nat → Nat} {ls : List (Nat × Nat)} {g : Nat → Nat → Sid} (L : SInv n w ls g) (hn : n ≤ 40) (hw : ∀ k, k < n → w k ≤ 40) : Nice 4 (surfD n w g) := by
  refine nice_tup (n := 3) (by simp; omega) fun d hd => ?_
  obtain ⟨k, hk, rfl⟩ := List.mem_map.mp hd
  have hk := List.mem_range.mp hk
  have := hw k hk
  refine nice_tup (n := 2) (by simp [srowD]; omega) fun d hd => ?_
  obtain ⟨f, hf, rfl⟩ := List.mem_map.mp hd
  have hf := List.mem_range.mp hf
  cases hc : g k f with
  | none => exact ⟨rfl, Nat.zero_le _⟩
  | some c =>
    obtain ⟨a, b, c⟩ := c
    obtain ⟨⟨a1, a2, a3⟩, _⟩ := L.side k f a b c hk hf hc
    have := hw a a1
    refine nice_tup (n := 1) (by simp) fun d hd => ?_
    simp only [List.mem_cons, List.not_mem_nil, or_false] at hd
    rcases hd with rfl | rfl | rfl
    · exact nice_int (by omega)
    · exact nice_int (by omega)
    · exact nice_int (by omega)
def gridS (g : Nat → Nat → Sid) : Nat → Nat → Dt := fun k f => sideD (g k f)
theorem gridS_put {g : Nat → Nat → Sid} {k f : Nat} {c : Sid} : (fun k' f' => if (k', f') = (k, f) then sideD c else gridS g k' f') = gridS (putS g k f c) := by
  funext k' f'
  unfold gridS putS
  split <;> rfl
/-- every second one -/
theorem evens_at {n : Nat} : stepAt n none = (List.range ((n + 1) / 2)).map fun k => 2 * k := by
  unfold stepAt sliceBounds sliceRange
  simp only [Option.getD_some]
  by_cases h : 0 < n
  · have e : (((n : Int) - 0 + 2 - 1) / 2).toNat = (n + 1) / 2 := by omega
    simp only [show (2 : Int) > 0 by decide, if_true, show (0 : Int) < (n : Int) by omega, e]
    refine List.map_congr_left fun k _ => ?_
    omega
  · have : n = 0 := by omega
    subst this
    simp
theorem odds_at {n : Nat} (h : 1 ≤ n) : stepAt n (some 1) = (List.range (n / 2)).map fun k => 1 + 2 * k := by
  unfold stepAt sliceBounds sliceRange
  simp only [Option.getD_some]
  have e0 : max 0 (min (if (1 : Int) < 0 then 1 + (n : Int) else 1) (n : Int)) = 1 := by
    rw [if_neg (by decide)]; omega
  simp only [show (2 : Int) > 0 by decide, if_true, e0]
  by_cases h2 : (1 : Int) < (n : Int)
  · have e : (((n : Int) - 1 + 2 - 1) / 2).toNat = n / 2 := by omega
    simp only [h2, if_true, e]
    refine List.map_congr_left fun k _ => ?_
    omega
  · have : n = 1 := by omega
    subst this
    simp
end Sp
namespace Sp
open PySem L2
theorem src2_zip {K : PySem.W.Frag} {a b : Addr} {us ws : List V} (h : us.length = ws.length) : Src2 (Itz K a b) (fun H' => SqL K H' a us ∧ SqL K H' b ws) us.length (fun i x H'' => ∃ T y z, x = .ref T ∧ H'' T = some (.tup [y, z]) ∧ us[i]? = some y ∧ ws[i]? = some z) where
  go i H' hh hi := ⟨us, ws, us[i], ws[i]'(by omega), hh.1, hh.2, by simp, by simp⟩
  stop H' hh := ⟨us, ws, hh.1, hh.2, .inl (Nat.le_refl _)⟩
  yld i H' x H'' hh hi y := by
    obtain ⟨T, y1, y2, rfl, hT, rfl, y, y'⟩ := y
    exact ⟨Same.new hT, T, y1, y2, rfl, upd_same, y us hh.1, y' ws hh.2⟩
section
variable {P : Program} {w : World} {K : PySem.W.Frag} {mg : Str → Option Value} {base : Heap} {f : Addr} {fd : FuncData}
/-- flat, the new list told -/
def sp_flat2 (K : PySem.W.Frag) : Sp := fun vs H Q _ => ∃ l ps dss, vs = [.ref l] ∧ H l = some (.lst (ps.map V.ref)) ∧ Rws K H H l ps dss ∧ dss.flatten.length ≤ 100000 ∧ ∀ b us H', Same H H' → H b = none → H' b = some (.lst us) → DcAll K H' us dss.flatten → Q (.ref b) H'
theorem ok_law_flat2 (F : Fun K "_law_flat" "_law_flat" s__law_flat f fd) : FnOk P w K mg base CX0 1 f fd ["rows_so"] (sp_flat2 K) := by
  refine fn_s F sc__law_flat (fun vs H Q E h => by obtain ⟨_, _, _, rfl, _⟩ := h; rfl) fun cdv A outer s H vs Q E hr h => ?_
  obtain ⟨l, ps, dss, rfl, hl, hrw, hz, q⟩ := h
  refine wb_set 1 (we_of (pe_lst pa_nil) ⟨(by decide : 0 ≤ sizeLine), fun p hp => ?_⟩) sc__law_flat.nd
  refine wb_forH (H0 := H) (T := tSet 2) (pi_list pe_w) (srcB_list 0 rfl (SqL.of hl)) (pg_name (i := 2) sc__law_flat.nd rfl (Or.inl rfl)) ht_set
    (fun i σ' H' => ∃ o, σ' = [some (.ref l), some (.ref p), o] ∧ Same H H' ∧ ∃ vs, H' p = some (.lst vs) ∧ DcAll K H vs (dss.take i).flatten) ?_ ?_ ?_ ?_
  · rintro i σ H' ⟨_, _, s, _⟩; exact s
  · exact ⟨none, rfl, Same.new hp, [], upd_same, .nil⟩
  · rintro i x σ1 σ2 H1 N hi hx ⟨o, rfl, s1, vs, h1, dv⟩ rfl hN
    have hx' : (ps.map V.ref)[i]? = some x := hx
    obtain ⟨a, ha, rfl⟩ : ∃ a, ps[i]? = some a ∧ x = .ref a := by
      rw [List.getElem?_map] at hx'
      cases ha : ps[i]? with
      | none => rw [ha] at hx'; cases hx'
      | some a => rw [ha] at hx'; exact ⟨a, rfl, (Option.some.inj hx').symm⟩
    obtain ⟨zs, us, h2, h3, du⟩ := Rws.get hrw ha
    have hlen : vs.length + us.length ≤ 100000 := by
      rw [dv.length, du.length, ← List.length_append, ← flat_take h2]
      exact Nat.le_trans flat_le hz
    refine wb_extend (we_of (pv 1) ⟨_, rfl, p, rfl, ⟨_, h1⟩, we_of (pv 2) ⟨_, rfl, a, vs, us, rfl, ⟨h1, s1 _ _ h3⟩, hlen, wb_nil (hN _ _ ⟨_, rfl, s1.mut hp, _, upd_same, ?_⟩)⟩⟩)
    rw [flat_take h2]
    exact dv.append du
  · rintro σ1 H1 ⟨o, rfl, s1, vs, h1, dv⟩
    rw [List.length_map, hrw.len, List.take_length] at dv
    exact wb_ret (we_of (pv 1) ⟨_, rfl, q _ _ _ s1 hp h1 (DcAll.kept s1 dv)⟩)
def sp_some_surface (K : PySem.W.Frag) : Sp := fun vs H Q _ => ∃ a m, vs = [.ref a] ∧ Tin a m H ∧ m + 200 < lim ∧ ∀ d v H', Dr a H H' → Tin a (m + 200) H' → Dc K H' v d → fz d = true → isSurface d = true → Nice 4 d → Q v H'
def spots (n : Nat) (w : Nat → Nat) : List (Nat × Nat) := ((List.range n).map fun k => (List.range (w k)).map fun s => (k, s)).flatten
theorem spots_mem {n : Nat} {w : Nat → Nat} {p : Nat × Nat} (h : p ∈ spots n w) : p.1 < n ∧ p.2 < w p.1 := by
  obtain ⟨l, hl, hp⟩ := List.mem_flatten.mp h
  obtain ⟨k, hk, rfl⟩ := List.mem_map.mp hl
  obtain ⟨s, hs, rfl⟩ := List.mem_map.mp hp
  exact ⟨List.mem_range.mp hk, List.mem_range.mp hs⟩
theorem spots_nd {n : Nat} {w : Nat → Nat} : (spots n w).Nodup := by
  unfold spots List.Nodup
  rw [List.pairwise_flatten]
  refine ⟨fun l hl => ?_, ?_⟩
  · obtain ⟨k, hk, rfl⟩ := List.mem_map.mp hl
    rw [List.pairwise_map]
    exact List.Pairwise.imp (fun {a b} h e => h (by simpa using e)) (List.nodup_range (n := w k))
  · rw [List.pairwise_map]
    refine List.Pairwise.imp (fun {a b} h x hx y hy e => ?_) (List.nodup_range (n := n))
    obtain ⟨s, _, rfl⟩ := List.mem_map.mp hx
    obtain ⟨t, _, rfl⟩ := List.mem_map.mp hy
    exact h (by simpa using congrArg Prod.fst e)
theorem spots_len {n : Nat} {w : Nat → Nat} (hn : n ≤ 4) (hw : ∀ k, k < n → w k ≤ 5) : (spots n w).length ≤ 20 := by
  have : ∀ m, m ≤ n → ((List.range m).map fun k => (List.range (w k)).map fun s => (k, s)).flatten.length ≤ 5 * m := by
    intro m
    induction m with
    | zero => intro _; simp
    | succ m ih =>
      intro hm
      rw [List.range_succ, List.map_append, List.flatten_append, List.length_append]
      have := ih (by omega)
      have := hw m (by omega)
      simp
      simp at *
      omega
  have := this n (Nat.le_refl _)
  unfold spots
  omega
def rowSpots : Dt → List Dt | .tuple [.int f, .list xs] => (rngD xs.length).map fun d => .tuple [.int f, d] | _ => []
end
end Sp
namespace Sp
open PySem L2
theorem dc_perm {K : PySem.W.Frag} {H : Hp} {vs' vs : List V} (p : vs'.Perm vs) : ∀ {xs : List (Nat × Nat)}, DcAll K H vs (xs.map placeD) → ∃ xs' : List (Nat × Nat), xs'.Perm xs ∧ DcAll K H vs' (xs'.map placeD) := by
  induction p with
  | nil => intro xs h; exact ⟨xs, List.Perm.refl _, h⟩
  | cons x _ ih =>
    intro xs h
    cases xs with
    | nil => cases h
    | cons y ys =>
      cases h with
      | cons h t =>
        obtain ⟨xs', h1, h2⟩ := ih t
        exact ⟨y :: xs', List.Perm.cons y h1, .cons h h2⟩
  | swap x y l =>
    intro xs h
    match xs, h with
    | p :: q :: r, .cons h1 (.cons h2 t) => exact ⟨q :: p :: r, List.Perm.swap p q r, .cons h2 (.cons h1 t)⟩
  | trans _ _ ih1 ih2 =>
    intro xs h
    obtain ⟨xs1, h1, h2⟩ := ih2 h
    obtain ⟨xs2, h3, h4⟩ := ih1 h2
    exact ⟨xs2, h3.trans h1, h4⟩
theorem pick_get {α : Type} {xs : List α} : ∀ {is : List Nat}, (∀ i ∈ is, i < xs.length) → (pickL is xs).length = is.length ∧ ∀ (k i : Nat), is[k]? = some i → (pickL is xs)[k]? = xs[i]?
  | [], _ => ⟨rfl, fun k i h => by simp at h⟩
  | j :: is, h => by
    obtain ⟨h1, h2⟩ := pick_get (xs := xs) (is := is) fun i hi => h i (by simp [hi])
    have hj := h j (by simp)
    unfold pickL at h1 h2 ⊢
    rw [List.filterMap_cons_some (List.getElem?_eq_getElem hj)]
    refine ⟨by simp [h1], fun k i hk => ?_⟩
    cases k with
    | zero => cases hk; rw [List.getElem?_eq_getElem hj]; rfl
    | succ k => simpa using h2 k i (by simpa using hk)
theorem evens_get {α : Type} {xs : List α} {c : Nat} (h : xs.length = 2 * c) : (pickL (stepAt xs.length none) xs).length = c ∧ ∀ k, k < c → (pickL (stepAt xs.length none) xs)[k]? = xs[2 * k]? := by
  rw [evens_at, h, show (2 * c + 1) / 2 = c by omega]
  obtain ⟨h1, h2⟩ := pick_get (xs := xs) (is := (List.range c).map fun k => 2 * k) fun i hi => by
    obtain ⟨k, hk, rfl⟩ := List.mem_map.mp hi
    have := List.mem_range.mp hk
    omega
  exact ⟨by simpa using h1, fun k hk => h2 k (2 * k) (by simp [hk])⟩
theorem odds_get {α : Type} {xs : List α} {c : Nat} (h : xs.length = 2 * c) : (pickL (stepAt xs.length (some 1)) xs).length = c ∧ ∀ k, k < c → (pickL (stepAt xs.length (some 1)) xs)[k]? = xs[1 + 2 * k]? := by
  by_cases h0 : c = 0
  · subst h0
    have : (pickL (stepAt xs.length (some 1)) xs).length ≤ 0 := Nat.le_trans pick_len (Nat.le_trans stepAt_len (by omega))
    exact ⟨by omega, fun k hk => absurd hk (Nat.not_lt_zero _)⟩
  rw [odds_at (by omega), h, show (2 * c) / 2 = c by omega]
  obtain ⟨h1, h2⟩ := pick_get (xs := xs) (is := (List.range c).map fun k => 1 + 2 * k) fun i hi => by
    obtain ⟨k, hk, rfl⟩ := List.mem_map.mp hi
    have := List.mem_range.mp hk
    omega
  exact ⟨by simpa using h1, fun k hk => h2 k (1 + 2 * k) (by simp [hk])⟩
theorem enum_range {n : Nat} {g : Nat → Dt} : enumD ((List.range n).map g) = (List.range n).map fun (k : Nat) => PyData.tuple [.int (k : Int), g k] := by
  apply List.ext_getElem?
  intro k
  rw [enumD_get]
  by_cases h : k < n
  · simp [h]
  · simp [h]
theorem spots_of {n : Nat} {ws : Nat → Nat} {g : Nat → Nat → Dt} : ((enumD ((List.range n).map fun k => PyData.list ((List.range (ws k)).map fun f => g k f))).map rowSpots).flatten = (spots n ws).map placeD := by
  rw [enum_range, List.map_map, spots, List.map_flatten, List.map_map]
  congr 1
  refine List.map_congr_left fun k _ => ?_
  show (rngD ((List.range (ws k)).map fun f => g k f).length).map (fun d => PyData.tuple [.int (k : Int), d]) = _
  rw [List.length_map, List.length_range, rngD, List.map_map]
  simp only [Function.comp, List.map_map]
  rfl
section
variable {P : Program} {w : World} {K : PySem.W.Frag} {mg : Str → Option Value} {base : Heap} {f : Addr} {fd : FuncData}
theorem ok_law_some_surface (F : Fun K "_law_some_surface" "_law_some_surface" s__law_some_surface f fd) (T : Tx mg) (F1 : Ds P w K mg base 1 "_law_take" sp_take) (F2 : Ds P w K mg base 2 "_law_of" (sp_of K)) (F3 : Ds P w K mg base 1 "_law_flat" (sp_flat2 K)) (F4 : Ds P w K mg base 2 "_law_pick" (sp_pick K)) :
    FnOk P w K mg base CX0 3 f fd ["tin"] (sp_some_surface K) := by
  refine fn_s F sc__law_some_surface (fun vs H Q E h => by obtain ⟨_, _, rfl, _⟩ := h; rfl) fun cdv A outer s H vs Q E hr h => ?_
  obtain ⟨a, m, rfl, ht, hm, q⟩ := h
  have hm : m + 200 < 1152921504606846976 := hm
  -- rows
  refine wb_setR 2 1 rfl sc__law_some_surface.nd (pi_range1 rfl T.range pa_w) (we_take 0 F1 hr rfl (we_of pe_int ⟨4, m, rfl, ⟨by decide, by decide⟩, ht, by show _ < 1152921504606846976; omega, fun n H1 hn d1 t1 =>
    ⟨n, a, m + 1, 1, fun vs => ∃ k, 3 ≤ k ∧ k ≤ 5 ∧ vs = List.replicate k V.non, rfl, by omega, t1, ?_, ?_⟩⟩))
  · intro s' H0 C cl fp k H3 hk d3 t3 Q3 q3
    refine we_of (pe_op op_rep pe_w pe_w) (we_lstF (pa_c pd_none pa_n) (by decide) fun l vs H4 s4 hl hv dv => ?_)
    obtain ⟨v, rfl, hv1⟩ := dv.get1
    cases hv1
    refine we_of (pe_op op_add pe_int pe_w) ?_
    refine we_take 0 F1 hr rfl (we_of pe_int ⟨3, m + 1 + 1 * k, rfl, ⟨by decide, by decide⟩, t3.same s4, by show _ < 1152921504606846976; omega, fun r H5 hr5 d5 t5 => ?_⟩)
    have hla : l ≠ a := t3.ne hl
    refine ⟨3, (r : Int), rfl, rfl, l, 3 + (r : Int), [.non], rfl, rfl, d5.of hv hla, by omega, by omega, ?_, fun p hp => ?_⟩
    · have e : ((3 : Int) + r).toNat = 3 + r := by omega
      rw [e]
      show 1 * (3 + r) ≤ sizeLine
      exact Nat.le_trans (show 1 * (3 + r) ≤ 6 by omega) (by decide)
    · have e : ((3 : Int) + r).toNat = 3 + r := by omega
      have hpa : p ≠ a := t5.ne hp
      refine q3 p _ _ (((Dr.same s4).trans d5).trans (Dr.same (Same.new hp))) ((t5.same (Same.new hp)).le (by omega)) (none_back s4 (d5.ne_none hp hpa)) upd_same ⟨3 + r, by omega, by omega, ?_⟩
      rw [e]
      simp
  intro R ps rows H2 d2 t2 hR0 hps0 ra hrl hrows
  have hRa : R ≠ a := ra.la
  have hR : H R = none := d1.ne_none hR0 hRa
  have hps : ∀ p ∈ ps, H p = none := fun p hp => d1.ne_none (hps0 p hp) (by rintro rfl; exact ra.na hp)
  have d02 := d1.trans d2
  have hrow : ∀ k, k < n → ∃ j, 3 ≤ j ∧ j ≤ 5 ∧ rows.getD k [] = List.replicate j V.non := fun k hk => hrows _ (by
    have hk' : k < rows.length := by omega
    simp [List.getD, hk'])
  obtain ⟨ws, hws⟩ : ∃ ws : Nat → Nat, ∀ k, ws k = (rows.getD k []).length := ⟨fun k => (rows.getD k []).length, fun _ => rfl⟩
  have hw : ∀ k, k < n → 3 ≤ ws k ∧ ws k ≤ 5 := fun k hk => by
    obtain ⟨j, h1, h2, e⟩ := hrow k hk
    rw [hws, e, List.length_replicate]
    exact ⟨h1, h2⟩
  have fs : ∀ (g : Nat → Nat → Sid) k f, fz (gridS g k f) = true := fun _ _ _ => fz_side
  have G2 : Grd K a H2 R ps n ws (gridS fun _ _ => none) := by
    refine ⟨rows, ra, hrl, fun k hk => ⟨(hws k).symm, fun f' hf' => ⟨.non, ?_, .non⟩⟩⟩
    obtain ⟨j, h1, h2, e⟩ := hrow k hk
    rw [hws, e, List.length_replicate] at hf'
    rw [e]
    simp [hf']
  have t2 : Tin a (m + 10) H2 := t2.le (by omega)
  -- spots
  refine wb_set 3 (we_call F3 hr (wa_cons (we_lcL (own := [("f", 4), ("own", 5)]) (g := gTup K 2 (gCons (gName 4) (gCons (gName 5) gNil))) (T := tPair K 4 5) rowSpots rfl sc__law_some_surface.nd (pi_enum rfl T.enumerate pa_w) (src_enumL (pa_c (pd_v 1 rfl G2.dc) pa_n)) (by rw [enumD_len]; simp; omega) (by first | exact blkOk_by (by kernel_rfl) | exact blkOk_by (by rfl))
    (fun s H0 C cl fp => pg_tup rfl (pgs_cons (pg_name (i := 4) sc__law_some_surface.nd rfl (by first | exact Or.inl rfl | exact Or.inr rfl)) (pgs_cons (pg_name (i := 5) sc__law_some_surface.nd rfl (by first | exact Or.inl rfl | exact Or.inr rfl)) pgs_nil))) (ht_pair enumD_pair) wipe_pair ?_ ?_) rfl)) sc__law_some_surface.nd
  · rintro s0 H0 C cl fp i d σ' H0' H3 Dl acc hd sa hDl sb hacc ⟨d1', d2', v1, v2, rfl, dv1, dv2, rfl⟩ Q3 q3
    obtain ⟨u, hu, e⟩ := enumD_at hd
    cases e
    cases dv1
    have hi : i < n := by
      have := (List.getElem?_eq_some_iff.mp hu).1
      simpa using this
    rw [List.getElem?_map, List.getElem?_range hi] at hu
    cases hu
    refine Pl.run (Pl.is (pl_lcN (ds := rngD (ws i)) 6 (fun d => .tuple [.int (i : Int), d]) rfl sc__law_some_surface.nd (pi_range1 rfl T.range pa_w) (src_range (pa_c (Pd.is (pd_lenL T.len (pd_v 5 rfl dv2)) (by simp)) pa_n) (by have := hw i hi; omega)) (by rw [rngD_len]; have := hw i hi; omega) (fun s' H02 C2 cl2 fp2 j b u H4 hb sm4 du => ?_) fun b hb => ?_) ?_) fun l vs H4 s4 hl hv dv => q3 l vs H4 s4 (by rintro rfl; rw [hl] at hacc; cases hacc) hv (DcAll.fz (hide_t (s4 _ _ hacc)) dv ?_)
    · obtain ⟨_, rfl⟩ := rngD_at hb
      exact pd_tup (pa_c (pd_v 4 rfl (.int (i : Int))) (pa_c (pd_v 6 rfl du) pa_n))
    · obtain ⟨j, _, rfl⟩ := List.mem_map.mp hb
      rfl
    · show ((rngD (ws i)).map fun d => PyData.tuple [.int (i : Int), d]) = (rngD ((List.range (ws i)).map fun f => gridS (fun _ _ => none) i f).length).map fun d => PyData.tuple [.int (i : Int), d]
      rw [List.length_map, List.length_range]
    · refine fzA_iff.mpr fun d hd => ?_
      obtain ⟨b, hb, rfl⟩ := List.mem_map.mp (show d ∈ (rngD _).map fun d => PyData.tuple [.int (i : Int), d] from hd)
      obtain ⟨j, _, rfl⟩ := List.mem_map.mp hb
      rfl
  intro l0 ps0 H3 s3 hl0 hrw0
  have esp : ((enumD ((List.range n).map fun k => PyData.list ((List.range (ws k)).map fun f => gridS (fun _ _ => none) k f))).map rowSpots).flatten = (spots n ws).map placeD := by
    exact spots_of
  refine wa_nil ⟨l0, ps0, _, rfl, hl0, hrw0, ?_, fun b us H4 s4 hb hus dus => ?_⟩
  · rw [esp, List.length_map]
    have := spots_len (n := n) (w := ws) (by omega) (fun k hk => (hw k hk).2)
    omega
  rw [esp] at dus
  have hsl := spots_len (n := n) (w := ws) (by omega) (fun k hk => (hw k hk).2)
  have hul : us.length = (spots n ws).length := by rw [dus.length, List.length_map]
  have s34 := s3.trans s4
  have t4 := t2.same s34
  have hba : b ≠ a := (t2.same s3).ne hb
  -- the line
  refine wb_set 7 (we_call F4 hr (wa_cons (we_of (pv 0) ⟨_, rfl, wa_cons (we_of (pv 3) ⟨_, rfl, wa_cons (we_of (pe_op op_mul pe_int pe_w) ?_) rfl⟩) rfl⟩) rfl)) sc__law_some_surface.nd
  refine we_take 0 F1 hr rfl (Pd.run (pd_add (pd_fdiv (Pd.is (pd_lenL (ds := (spots n ws).map placeD) T.len (pd_v 3 rfl (.lst (SqL.of hus) dus))) (by rw [List.length_map])) pd_int ⟨by decide, by decide⟩) pd_int) fun v H5 s5 dv => ?_)
  cases dv
  refine ⟨(spots n ws).length / 2 + 1, m + 10, by congr 1, ⟨by omega, by omega⟩, t4.same s5, by show _ < 1152921504606846976; omega, fun c H6 hc d6 t6 => ?_⟩
  refine ⟨2, (c : Int), rfl, rfl, .inl ⟨by decide, by decide⟩, wa_nil ?_⟩
  refine ⟨a, b, us, m + 11, 2 * c, by rfl, hba, t6, by show _ < 1152921504606846976; omega, d6.of (s5 _ _ hus) hba, by omega, fun L lv rest H7 d7 t7 hL hlv hperm hlen => ?_⟩
  have hcl : 2 * c ≤ (spots n ws).length := by omega
  have hlen : lv.length = 2 * c := by rw [hlen, hul]; omega
  have t7 : Tin a (m + 60) H7 := t7.le (by omega)
  have d57 : Dr a H4 H7 := ((Dr.same s5).trans d6).trans d7
  have d07 : Dr a H H7 := (d02.trans (Dr.same s34)).trans d57
  have dus7 : DcAll K H7 us ((spots n ws).map placeD) := DcAll.fz (d57.t (K := K) t4) dus fz_places
  obtain ⟨xs', hx1, hx2⟩ := dc_perm hperm dus7
  have hxl : (lv ++ rest).length = xs'.length := by rw [hx2.length, List.length_map]
  obtain ⟨line, hline⟩ : ∃ line, line = xs'.take (2 * c) := ⟨_, rfl⟩
  have hll : line.length = 2 * c := by
    rw [hline, List.length_take]
    rw [List.length_append] at hxl
    omega
  have dline : DcAll K H7 lv (line.map placeD) := by
    have := hx2.take (2 * c)
    rw [List.take_left' hlen, ← List.map_take, ← hline] at this
    exact this
  have hnd : line.Nodup := by
    rw [hline]
    exact ((hx1.nodup_iff).mpr spots_nd).sublist (List.take_sublist _ _)
  have hmem : ∀ p ∈ line, p ∈ spots n ws := fun p hp => hx1.mem_iff.mp (List.mem_of_mem_take (hline ▸ hp))
  have G7 : Grd K a H7 R ps n ws (gridS fun _ _ => none) := (G2.dr (fs _) (Dr.same s34) t2).dr (fs _) d57 t4
  have hLa : L ≠ a := t6.ne hL
  obtain ⟨hRl, hpl, hRp, hap, _⟩ := G2.lst
  have hb4 : ∀ c ob, H2 c = some ob → c ≠ a → H7 c = some ob := fun c ob h hc => d57.of (s34 _ _ h) hc
  -- the pairs
  refine wb_forG (pi_zip rfl T.zip pa_w) (pg_tup rfl (pgs_cons (pg_name (i := 8) sc__law_some_surface.nd rfl (by first | exact Or.inl rfl | exact Or.inr rfl)) (pgs_cons (pg_name (i := 9) sc__law_some_surface.nd rfl (by first | exact Or.inl rfl | exact Or.inr rfl)) pgs_nil))) mono_zip ?_
  refine wa_cons (we_of (pe_step (pv 7) po_none) ⟨_, rfl, L, lv, rfl, SqL.of hlv, fun E1 hE1 => wa_cons (we_of (pe_step (pv 7) (po_some pe_int)) ⟨_, rfl, 1, rfl, L, lv, rfl, SqL.of (Same.new hE1 _ _ hlv), fun O1 hO1 => wa_nil ?_⟩) rfl⟩) rfl
  obtain ⟨he1, he2⟩ := evens_get hlen
  obtain ⟨ho1, ho2⟩ := odds_get hlen
  generalize pickL (stepAt lv.length none) lv = ev at he1 he2 hO1
  generalize pickL (stepAt lv.length (some 1)) lv = od at ho1 ho2
  have hO7 : upd H7 E1 (.lst ev) O1 = none := hO1
  have hOE : O1 ≠ E1 := by rintro rfl; rw [upd_same] at hO7; cases hO7
  have hpsome : ∀ p ∈ ps, ∃ r, H7 p = some (.lst r) := fun p hp => by
    obtain ⟨k, hk, e⟩ := List.getElem_of_mem hp
    obtain ⟨p', r, h1, h2, _⟩ := G7.row (k := k) (by omega)
    rw [List.getElem?_eq_getElem hk] at h1
    cases h1
    exact ⟨r, by rw [← e]; exact h2⟩
  have sEO : Same H7 (upd (upd H7 E1 (.lst ev)) O1 (.lst od)) := (Same.new hE1).trans (Same.new hO7)
  have hE8 : upd (upd H7 E1 (.lst ev)) O1 (.lst od) E1 = some (.lst ev) := by rw [upd_ne (Ne.symm hOE)]; exact upd_same
  have hO8 : upd (upd H7 E1 (.lst ev)) O1 (.lst od) O1 = some (.lst od) := upd_same
  have hpE : ∀ p ∈ ps, E1 ≠ p := fun p hp e => by obtain ⟨r, h⟩ := hpsome p hp; rw [← e, hE1] at h; cases h
  have hpO : ∀ p ∈ ps, O1 ≠ p := fun p hp e => by obtain ⟨r, h⟩ := hpsome p hp; rw [← e] at h; rw [Same.new hE1 _ _ h] at hO7; cases hO7
  have hEa : E1 ≠ a := t7.ne hE1
  have hOa : O1 ≠ a := (t7.same (Same.new (o := .lst ev) hE1)).ne hO7
  generalize upd (upd H7 E1 (.lst ev)) O1 (.lst od) = H8 at sEO hE8 hO8
  refine ⟨E1, O1, ev, od, rfl, SqL.of hE8, SqL.of hO8, _, _, _, (fun i x H σ σ' => ∃ y z, ev[i]? = some y ∧ od[i]? = some z ∧ σ' = (σ.set 8 (some y)).set 9 (some z)), fun i σ' H' => (∃ o2 o3 o4 o5 o6 o7 o8 o9 o10, σ' = [some (.ref a), some (.ref R), o2, o3, o4, o5, o6, o7, o8, o9, o10]) ∧ Dr a H H' ∧ Tin a (m + 60 + i) H' ∧ (H' E1 = some (.lst ev) ∧ H' O1 = some (.lst od)) ∧ DcAll K H' lv (line.map placeD) ∧
    ∃ g, Grd K a H' R ps n ws (gridS g) ∧ SInv n ws (line.drop (2 * i)) g, src2_zip (us := ev) (ws := od) (by omega), ?_, ?_, ?_, ?_, ?_⟩
  · refine ⟨⟨_, _, _, _, _, _, _, _, _, rfl⟩, d07.trans (Dr.same sEO), t7.same sEO, ⟨hE8, hO8⟩, DcAll.kept sEO dline, _, G7.dr (fs _) (Dr.same sEO) t7, hnd, fun p hp => ?_, fun _ _ _ _ _ _ _ h => by cases h⟩
    have := spots_mem (hmem p hp)
    exact ⟨this.1, this.2, rfl⟩
  · rintro i x σ H' Q' ⟨tp, y, z, rfl, htp, hy, hz⟩ q'
    exact ⟨tp, _, rfl, SqT.of htp, rfl, _, [_], rfl, _, [], rfl, rfl, q' _ ⟨y, z, hy, hz, rfl⟩⟩
  · rintro i σ' H' ⟨_, _, _, ⟨h1, h2⟩, _⟩
    exact ⟨SqL.of h1, SqL.of h2⟩
  · rintro i x σ1 σ2 H9 H10 N hi ⟨⟨o2, o3, o4, o5, o6, o7, o8, o9, o10, rfl⟩, d9, t9, ⟨hE9, hO9⟩, dl9, g, G9, S9⟩ s10 _ ⟨y, z, hy, hz, rfl⟩ hN
    have hic : i < c := by omega
    rw [he2 i hic] at hy
    rw [ho2 i hic] at hz
    have hi1 : 2 * i < line.length := by omega
    have hi2 : 2 * i + 1 < line.length := by omega
    obtain ⟨dy, hdy, cy⟩ := dl9.got hy
    obtain ⟨dz, hdz, cz⟩ := dl9.got hz
    rw [List.getElem?_map, List.getElem?_eq_getElem hi1] at hdy
    rw [show 1 + 2 * i = 2 * i + 1 by omega, List.getElem?_map, List.getElem?_eq_getElem hi2] at hdz
    cases hdy; cases hdz
    have edrop : line.drop (2 * i) = line[2 * i] :: line[2 * i + 1] :: line.drop (2 * (i + 1)) := by
      rw [show 2 * (i + 1) = 2 * i + 1 + 1 by omega, List.drop_eq_getElem_cons hi1, List.drop_eq_getElem_cons hi2]
    rw [edrop] at S9
    generalize line[2 * i] = p1 at cy S9
    generalize line[2 * i + 1] = p2 at cz S9
    obtain ⟨f1, s1'⟩ := p1
    obtain ⟨f2, s2'⟩ := p2
    have h1in := S9.left (f1, s1') (by simp)
    have h2in := S9.left (f2, s2') (by simp)
    -- the way
    refine wb_set 10 (we_call F2 hr (wa_cons (we_of (pv 0) ⟨_, rfl, wa_cons (we_lstF (pa_c pd_int (pa_c (pd_neg pd_int) pa_n)) (by decide) fun l vs H11 s11 hl hv dv => wa_nil ?_) rfl⟩) rfl)) sc__law_some_surface.nd
    have evs : vs = [.int 1, .int (-1)] := dp_ints (ns := [1, -1]) dv
    subst evs
    have t10 := t9.same s10
    have t11 := t10.same s11
    refine ⟨a, l, _, m + 60 + i, rfl, t10.ne hl, t11, by show _ < 1152921504606846976; omega, hv, ⟨by decide, by decide⟩, fun ix yv H12 hyv d12 t12 => ?_⟩
    obtain ⟨wy, rfl, hwy⟩ : ∃ j : Int, yv = .int j ∧ (j = 1 ∨ j = -1) := by
      match ix, hyv with
      | 0, hyv => cases hyv; exact ⟨_, rfl, .inl rfl⟩
      | 1, hyv => cases hyv; exact ⟨_, rfl, .inr rfl⟩
      | ix + 2, hyv => simp at hyv
    have d912 : Dr a H9 H12 := (Dr.same (s10.trans s11)).trans d12
    have ts912 : TSame K H9 H12 := d912.t t9
    have cy12 : Dc K H12 y (placeD (f1, s1')) := Dc.fz ts912 cy rfl
    have cz12 : Dc K H12 z (placeD (f2, s2')) := Dc.fz ts912 cz rfl
    have G12 := G9.dr (fs g) d912 t9
    have dl12 := DcAll.fz ts912 dl9 fz_places
    have hE12 := d912.of hE9 hEa
    have hO12 := d912.of hO9 hOa
    refine wb_asg (pg_tup rfl (pgs_cons (pg_sub pe_w pe_w set_list) (pgs_cons (pg_sub pe_w pe_w set_list) pgs_nil))) (we_of (pe_tup (pa_cons pe_w (pa_cons pe_w pa_nil))) ?_)
    refine Pd.run (pd_catT (ds := [.int (f2 : Int), .int (s2' : Int)]) (es' := [.int wy]) (pd_v 9 rfl cz12) (pd_tup (pa_c (pd_v 10 rfl (.int wy)) pa_n)) (by simp)) fun v1 H13 s13 dv1 => ?_
    refine Pd.run (pd_catT (ds := [.int (f1 : Int), .int (s1' : Int)]) (es' := [.int wy]) (pd_v 8 rfl (Dc.kept s13 cy12)) (pd_tup (pa_c (pd_v 10 rfl (.int wy)) pa_n)) (by simp)) fun v2 H14 s14 dv2 => ?_
    refine ⟨(by decide : 2 ≤ sizeLine), fun tp htp => ⟨tp, _, rfl, SqT.of upd_same, rfl, v1, [v2], rfl, ?_⟩⟩
    have s125 : Same H12 (upd H14 tp (.tup [v1, v2])) := (s13.trans s14).trans (Same.new htp)
    have dv1' := Dc.kept (s14.trans (Same.new (o := .tup [v1, v2]) htp)) dv1
    have dv2' := Dc.kept (Same.new (o := .tup [v1, v2]) htp) dv2
    generalize upd H14 tp (.tup [v1, v2]) = H15 at s125 dv1' dv2'
    have t15 := t12.same s125
    have G15 := G12.dr (fs g) (Dr.same s125) t12
    -- the first cell
    obtain ⟨pb, rb, hpb, hrb, hrbl⟩ := G15.row h1in.1
    refine we_of (pe_ix ix_list (pv 1) pe_w (fun _ _ => rfl)) ⟨_, rfl, Pd.run (pd_ixT (pd_v 8 rfl (Dc.kept s125 cy12)) pd_int at0) fun vi H16 s16 dvi => ?_⟩
    cases dvi
    have G16 := G15.dr (fs g) (Dr.same s16) t15
    refine ⟨R, ps.map V.ref, (f1 : Int), .ref pb, rfl, rfl, SqL.of G16.lst.1, atI_nat (by rw [List.getElem?_map, hpb]; rfl), Pd.run (pd_ixT (pd_v 8 rfl (Dc.kept (s125.trans s16) cy12)) pd_int at1) fun vj H17 s17 dvj => ?_⟩
    cases dvj
    have s157 := s16.trans s17
    have G17 := G15.dr (fs g) (Dr.same s157) t15
    have hrb17 := s157 _ _ hrb
    refine ⟨pb, rb, (s1' : Int), s1', rfl, rfl, hrb17, ixN_nat' (by rw [hrbl]; exact h1in.2.1), v2, [], rfl, ?_⟩
    have G18 := G17.set (fs g) h1in.1 h1in.2.1 hpb hrb17 (Dc.kept s157 dv1') (d := sideD (some (f2, s2', wy))) fz_side
    rw [gridS_put] at G18
    have ts18 := TSame.lst (K := K) (o := .lst (rb.set s1' v1)) hrb17
    have hpbm : pb ∈ ps := List.mem_of_getElem? hpb
    have hpba : pb ≠ a := fun e => hap (e ▸ hpbm)
    have t17 := t15.same s157
    have d17 : Dr a H H17 := (d9.trans d912).trans (Dr.same (s125.trans s157))
    have d18 : Dr a H (upd H17 pb (.lst (rb.set s1' v1))) := Same.mut d17 (by rw [hide_ne hpba]; exact hps _ hpbm)
    have t18 : Tin a (m + 60 + i + 1) (upd H17 pb (.lst (rb.set s1' v1))) := by
      obtain ⟨g', l', c', hl', hr'⟩ := t17.ex
      exact ⟨g', l', c', by rw [upd_ne (Ne.symm hpba)]; exact hl', hr'⟩
    have cz18 : Dc K (upd H17 pb (.lst (rb.set s1' v1))) z (placeD (f2, s2')) := Dc.fz ts18 (Dc.kept (s125.trans s157) cz12) rfl
    have dv218 : Dc K (upd H17 pb (.lst (rb.set s1' v1))) v2 (sideD (some (f1, s1', wy))) := Dc.fz ts18 (Dc.kept s157 dv2') fz_side
    have dl18 := DcAll.fz ts18 (DcAll.kept (s125.trans s157) dl12) fz_places
    have hE18 : upd H17 pb (.lst (rb.set s1' v1)) E1 = some (.lst ev) := by rw [upd_ne (hpE _ hpbm)]; exact (s125.trans s157) _ _ hE12
    have hO18 : upd H17 pb (.lst (rb.set s1' v1)) O1 = some (.lst od) := by rw [upd_ne (hpO _ hpbm)]; exact (s125.trans s157) _ _ hO12
    generalize upd H17 pb (.lst (rb.set s1' v1)) = H18 at G18 d18 t18 cz18 dv218 dl18 hE18 hO18
    -- the other cell
    obtain ⟨po, ro, hpo, hro, hrol⟩ := G18.row h2in.1
    refine we_of (pe_ix ix_list (pv 1) pe_w (fun _ _ => rfl)) ⟨_, rfl, Pd.run (pd_ixT (pd_v 9 rfl cz18) pd_int at0) fun vi H19 s19 dvi => ?_⟩
    cases dvi
    have G19 := G18.dr (fs _) (Dr.same s19) t18
    refine ⟨R, ps.map V.ref, (f2 : Int), .ref po, rfl, rfl, SqL.of G19.lst.1, atI_nat (by rw [List.getElem?_map, hpo]; rfl), Pd.run (pd_ixT (pd_v 9 rfl (Dc.kept s19 cz18)) pd_int at1) fun vj H20 s20 dvj => ?_⟩
    cases dvj
    have s820 := s19.trans s20
    have G20 := G18.dr (fs _) (Dr.same s820) t18
    have hro20 := s820 _ _ hro
    have hpom : po ∈ ps := List.mem_of_getElem? hpo
    have hpoa : po ≠ a := fun e => hap (e ▸ hpom)
    have G21 := G20.set (fs _) h2in.1 h2in.2.1 hpo hro20 (Dc.kept s820 dv218) (d := sideD (some (f1, s1', wy))) fz_side
    rw [gridS_put] at G21
    have ts21 := TSame.lst (K := K) (o := .lst (ro.set s2' v2)) hro20
    refine ⟨po, ro, (s2' : Int), s2', rfl, rfl, hro20, ixN_nat' (by rw [hrol]; exact h2in.2.1), rfl, wb_nil (hN _ _ ⟨⟨_, _, _, _, _, _, _, _, _, rfl⟩, Same.mut (d18.trans (Dr.same s820)) (by rw [hide_ne hpoa]; exact hps _ hpom), ?_, ⟨by rw [upd_ne (hpE _ hpom)]; exact s820 _ _ hE18, by rw [upd_ne (hpO _ hpom)]; exact s820 _ _ hO18⟩, DcAll.fz ts21 (DcAll.kept s820 dl18) fz_places, _, G21, S9.put hwy⟩)⟩
    obtain ⟨g', l', c', hl', hr'⟩ := (t18.same s820).ex
    exact ⟨g', l', c', by rw [upd_ne (Ne.symm hpoa)]; exact hl', hr'.1, by omega⟩
  · rintro σ1 H9 ⟨⟨o2, o3, o4, o5, o6, o7, o8, o9, o10, rfl⟩, d9, t9, _, dl9, g, G9, S9⟩
    refine wb_ret (Pd.run (pd_tupleL T.tuple (Pd.is (pd_lcN 5 (fun d => .tuple (mem d)) rfl sc__law_some_surface.nd (pi_list pe_w) (src_list (pd_v 1 rfl G9.dc)) (by simp; omega) (fun s' H0 C cl fp i b u H7 hb sm7 du => ?_) fun b hb => ?_) ?_)) fun v H10 s10 dv => q (surfD n ws g) v H10 (d9.trans (Dr.same s10)) ((t9.same s10).le (by omega)) dv ?_ (isSurface_of S9 fun k hk => (hw k hk).1) (nice_surf S9 (by omega) fun k hk => by have := (hw k hk).2; omega))
    · obtain ⟨k, hk, rfl⟩ := List.mem_map.mp (List.mem_of_getElem? hb)
      exact pd_tupleL T.tuple (pd_v 5 rfl du)
    · obtain ⟨k, hk, rfl⟩ := List.mem_map.mp hb
      refine fzA_iff.mpr fun d hd => ?_
      obtain ⟨f', _, rfl⟩ := List.mem_map.mp (show d ∈ (List.range (ws k)).map fun f => gridS g k f from hd)
      exact fz_side
    · rw [List.map_map]; rfl
    · refine fzA_iff.mpr fun d hd => ?_
      obtain ⟨k, _, rfl⟩ := List.mem_map.mp hd
      refine fzA_iff.mpr fun d hd => ?_
      obtain ⟨f', _, rfl⟩ := List.mem_map.mp (show d ∈ (List.range (ws k)).map fun f => sideD (g k f) from hd)
      exact fz_side
end
end Sp
namespace Sp
open PySem L2
/-- what bent gives -/
def Good (n : Nat) (d : Dt) : Prop := sm d = true ∧ PyData.canLay0 d = true ∧ PyData.depth d ≤ n
theorem Good.sh {n : Nat} {d : Dt} (h : Good n d) (hn : n ≤ 64) : SeqAt.shaped d = true := Bool.and_eq_true_iff.mpr ⟨h.2.1, decide_eq_true (Nat.le_trans h.2.2 hn)⟩
theorem Good.up {n m : Nat} {d : Dt} (h : Good n d) (hn : n ≤ m) : Good m d := ⟨h.1, h.2.1, Nat.le_trans h.2.2 hn⟩
theorem layAll_iff {ds : List Dt} : PyData.canLayAll0 ds = true ↔ ∀ d ∈ ds, PyData.canLay0 d = true := by
  induction ds with
  | nil => simp [PyData.canLayAll0]
  | cons d ds ih => simp [PyData.canLayAll0, ih]
theorem good_tup {n : Nat} {xs : List Dt} (h1 : xs.length ≤ 1000) (h : ∀ d ∈ xs, Good n d) : Good (n + 1) (.tuple xs) := by
  refine ⟨sm_mk h1 fun d hd => (h d hd).1, by simp only [PyData.canLay0]; exact layAll_iff.mpr fun d hd => (h d hd).2.1, ?_⟩
  have := depthAll_le fun d hd => (h d hd).2.2
  simp only [PyData.depth]
  omega
theorem good_lst {n : Nat} {xs : List Dt} (h1 : xs.length ≤ 1000) (h : ∀ d ∈ xs, Good n d) : Good (n + 1) (.list xs) := by
  have g := good_tup h1 h
  refine ⟨?_, ?_, ?_⟩
  · have := g.1; simpa [sm] using this
  · have := g.2.1; simpa [PyData.canLay0] using this
  · have := g.2.2; simpa [PyData.depth] using this
theorem good_int {i : Int} {n : Nat} : Good n (.int i) := ⟨rfl, rfl, Nat.zero_le _⟩
theorem good_none {n : Nat} : Good n .none := ⟨rfl, rfl, Nat.zero_le _⟩
theorem good_bool {b : Bool} {n : Nat} : Good n (.bool b) := ⟨rfl, rfl, Nat.zero_le _⟩
theorem good_str {x : Str} {n : Nat} (h : PyData.strOk x = true) : Good n (.str x) := ⟨by simpa [sm, PyData.canLay0] using h, by simpa [PyData.canLay0] using h, Nat.zero_le _⟩
theorem words_ok {x : Str} (h : nc (.str x) = true) : x = "split" ∨ x = "merge" ∨ x = "cross" ∨ x = "uncross" := by
  simp only [nc, Bool.or_eq_true, beq_iff_eq] at h
  rcases h with ((h | h) | h) | h
  · exact .inl h
  · exact .inr (.inl h)
  · exact .inr (.inr (.inl h))
  · exact .inr (.inr (.inr h))
theorem nc_tupI {xs : List Dt} (h : nc (.tuple xs) = true) : xs.length ≤ 100 ∧ ∀ d ∈ xs, nc d = true := by
  simp only [nc, Bool.and_eq_true, decide_eq_true_eq] at h
  exact ⟨h.1, ncA_iff.mp h.2⟩
theorem nice_mem {n : Nat} {xs : List Dt} (h : Nice (n + 1) (.tuple xs)) {d : Dt} (hd : d ∈ xs) : Nice n d := by
  refine ⟨(nc_tupI h.1).2 d hd, ?_⟩
  have h2 := h.2
  simp only [PyData.depth] at h2
  have : ∀ ds : List Dt, d ∈ ds → PyData.depth d ≤ PyData.depthAll ds := by
    intro ds
    induction ds with
    | nil => intro h; cases h
    | cons e ds ih =>
      intro h
      simp only [PyData.depthAll]
      rcases List.mem_cons.mp h with rfl | h
      · omega
      · have := ih h; omega
  have := this xs hd
  omega
theorem strOk_of (s : String) : PyData.strOk (Str.ofString s) = true := by
  rw [Str.ofString_eq_toList]
  show ((s.toList.map Char.toNat).toArray.all fun n => decide (n < 0x110000)) = true
  rw [List.all_toArray, List.all_eq_true]
  intro n hn
  obtain ⟨c, _, rfl⟩ := List.mem_map.mp hn
  have h : c.toNat < 0xd800 ∨ (0xdfff < c.toNat ∧ c.toNat < 0x110000) := c.valid
  exact decide_eq_true (by omega)
theorem nice_good : ∀ {n : Nat} {d : Dt}, Nice n d → Good n d
  | n, .none, _ => good_none
  | n, .int i, _ => good_int
  | n, .bool b, h => by have := h.1; simp [nc] at this
  | n, .list xs, h => by have := h.1; simp [nc] at this
  | n, .dict xs, h => by have := h.1; simp [nc] at this
  | n, .str x, h => good_str (by rcases words_ok h.1 with rfl | rfl | rfl | rfl <;> exact strOk_of _)
  | 0, .tuple xs, h => by have := h.2; simp [PyData.depth] at this
  | n + 1, .tuple xs, h => good_tup (by have := (nc_tupI h.1).1; omega) fun d hd => nice_good (nice_mem h hd)
section
variable {P : Program} {w : World} {K : PySem.W.Frag} {mg : Str → Option Value} {base : Heap} {f : Addr} {fd : FuncData}
abbrev R_put := R3D fun t u v d => ∃ (xs : List Dt) (k : Nat), t = .tuple xs ∧ u = .int (k : Int) ∧ xs.length ≤ 1000 ∧ d = .tuple ((xs.take k ++ [v]) ++ xs.drop (k + 1))
theorem ok_law_put (F : Fun K "_law_put" "_law_put" s__law_put f fd) : FnOk P w K mg base CX0 1 f fd ["row_so", "at_so", "bit_so"] (spR K R_put) := by
  refine fn_r F sc__law_put (fun _ _ h => h.len) fun cdv A outer s H vs Q E ds d hr hv hR q => ?_
  obtain ⟨t, u, v, rfl, xs, k, rfl, rfl, hz, rfl⟩ := hR
  obtain ⟨a, b, c, rfl, da, db, dc⟩ := hv.get3
  refine wb_retD (pd_catT (pd_catT (Pd.is (pd_slT (pd_v 0 rfl da) po_n (po_s (pd_v 1 rfl db))) (congrArg PyData.tuple cutN)) (pd_tup (pa_c (pd_v 2 rfl dc) pa_n)) ?_) (Pd.is (pd_slT (pd_v 0 rfl da) (po_s (Pd.is (pd_add (pd_v 1 rfl db) pd_int) (show PyData.int ((k : Int) + 1) = .int ((k + 1 : Nat) : Int) from rfl))) po_n) (congrArg PyData.tuple cutF)) ?_) q
  · rw [List.length_take]; simp; omega
  · rw [List.length_append, List.length_take, List.length_drop]; simp; omega
def sp_bent (K : PySem.W.Frag) (n : Nat) : Sp := fun vs H Q _ => ∃ a v m d, vs = [.ref a, v] ∧ Tin a m H ∧ m + 3 * (n + 1) < lim ∧ Dc K H v d ∧ fz d = true ∧ Nice n d ∧ ∀ d' y H', Dr a H H' → Tin a (m + 3 * (n + 1)) H' → Dc K H' y d' → Good (n + 3) d' → Q y H'
theorem pd_addS {X : Cx} {σ : L2.St} {H : Hp} {a b : Expr} {pos : Pos} {i j : Str} (ha : Pd X a σ H (.str i)) (hb : Pd X b σ H (.str j)) (hz : i.length + j.length ≤ sizeLine) : Pd X (.BinOp a .Add b pos) σ H (.str (i ++ j)) :=
  pd_bin op_add_str ha hb fun H1 x y Q s dx dy q => by
    cases dx; cases dy
    exact ⟨i, j, rfl, rfl, hz, q _ H1 (Same.refl _) (.str _)⟩
theorem pd_strI {X : Cx} {σ : L2.St} {H : Hp} {a : Expr} {p pos : Pos} {i : Int} (hm : X.mg "str" = none) (ha : Pd X a σ H (.int i)) (hz : i.natAbs.log2 < 1920) (hg : Gl X "str" := by rfl) (he : starEach [a] X.env = (false, eval a X.env) :: starEach [] X.env := by rfl) : Pd X (.Call (.Name "str" p) [a] [] pos) σ H (.str (toString i)) :=
  pd_ct call_str_int hm (pa_c ha pa_n he) (fun H1 xs Q s dv q => by
    obtain ⟨v, rfl, h⟩ := dv.get1
    cases h
    exact ⟨i, rfl, hz, q _ H1 (Same.refl _) (.str _)⟩) (by decide +kernel) hg (by decide) (by decide) he
theorem pd_revT {X : Cx} {σ : L2.St} {H : Hp} {a : Expr} {k : Nat} {p1 p2 p3 pos : Pos} {ds : List Dt} (ha : Pd X a σ H (.tuple ds)) : Pd X (.Subscript a (.Slice none none (some (.UnaryOp .USub (.Constant (.int 1) k p1) p2)) p3) pos) σ H (.tuple ds.reverse) := fun H1 s Q q =>
  we_of (pe_revT pe_w) (ha H1 s _ fun x H2 s2 dx => by
    obtain ⟨p, ys, rfl, ht, hd⟩ := Dc.tupleI dx
    refine ⟨p, ys, rfl, ht, fun l o hl ho => q _ _ (s2.trans (Same.new hl)) (.tup (SqU.frz upd_same ho) (DcAll.kept (Same.new hl) ?_))⟩
    have : ∀ {vs : List V} {ds : List Dt}, DcAll X.K H2 vs ds → DcAll X.K H2 vs.reverse ds.reverse := by
      intro vs
      induction vs with
      | nil => intro ds h; cases h; exact .nil
      | cons v vs ih =>
        intro ds h
        cases h with
        | cons h t => rw [List.reverse_cons, List.reverse_cons]; exact (ih t).append (.one h)
    exact this hd)
theorem word_s {x : Str} (h : nc (.str x) = true) : PyData.strOk (x ++ ("s" : Str)) = true ∧ x.length + ("s" : Str).length ≤ sizeLine := by
  rcases words_ok h with rfl | rfl | rfl | rfl
  · exact ⟨by decide +kernel, by decide +kernel⟩
  · exact ⟨by decide +kernel, by decide +kernel⟩
  · exact ⟨by decide +kernel, by decide +kernel⟩
  · exact ⟨by decide +kernel, by decide +kernel⟩
/-- one of a written list of data without lists -/
theorem we_ofF {X : Cx} {σ : L2.St} {H : Hp} {es : List Expr} {p p2 p3 pos : Pos} {ds : List Dt} {a : Addr} {m j : Nat} {t : Str} {Q : VK} (i : Nat) (F : Ds X.prog X.w X.K X.mg X.base 2 "_law_of" (sp_of X.K)) (hr : Room j X.A) (hs : σ[i]? = some (some (.ref a))) (ht : Tin a m H) (hm : m < lim) (h : Pa X es σ H ds) (h0 : 0 < ds.length ∧ ds.length ≤ 100) (hf : fzA ds = true)
    (q : ∀ d y H', d ∈ ds → Dr a H H' → Tin a (m + 1) H' → Dc X.K H' y d → Q y H') (hk : 2 ≤ j := by decide) (hN : X.N[i]? = some t := by rfl) (hv : Vis X.env.scope t := by first | exact Or.inl rfl | exact Or.inr (Or.inl rfl) | exact Or.inr (Or.inr rfl)) (hg : Gl X "_law_of" := by rfl) (h1 : (t == ("__debug__" : Str)) = false := by decide)
    (h2 : (t == ("__classdict__" : Str)) = false := by decide) (he : starEach [.Name t p2, .List es p3] X.env = (false, eval (.Name t p2) X.env) :: starEach [.List es p3] X.env := by rfl) (he2 : starEach [.List es p3] X.env = (false, eval (.List es p3) X.env) :: starEach [] X.env := by rfl) (hpl : (backTo pos (starEach [.List es p3] X.env)).any (fun z => z.1) = false := by rfl) :
    WE X (.Call (.Name "_law_of" p) [.Name t p2, .List es p3] [] pos) σ H Q :=
  we_call F hr (wa_cons (we_of (pv i hN hv h1 h2) ⟨_, hs, wa_cons (we_lstF h (by omega) fun l vs H1 s1 hl hv dv => wa_nil (by
    have t1 := ht.same s1
    have hlen := dv.length
    refine ⟨a, l, vs, m, rfl, ht.ne hl, t1, hm, hv, ⟨by omega, by omega⟩, fun ix y H2 hy d2 t2 => ?_⟩
    obtain ⟨d, hd, dy⟩ := dv.got hy
    have hm := List.mem_of_getElem? hd
    exact q d y H2 hm ((Dr.same s1).trans d2) t2 (Dc.fz (d2.t t1) dy (fzA_iff.mp hf d hm)))) he2⟩) he) hk hg (by decide) he hpl
theorem cut_m1 {xs : List Dt} : cutD xs none (some (-1)) = xs.take (xs.length - 1) := by
  unfold cutD
  have h : HT.sIx xs.length xs.length (some (-1)) = xs.length - 1 := by
    simp only [HT.sIx]
    rw [if_pos (by decide)]
    omega
  rw [h, show HT.sIx xs.length 0 none = 0 from rfl]
  simp
theorem cut_last {xs : List Dt} : cutD xs (some (-1)) none = xs.drop (xs.length - 1) := by
  unfold cutD
  have h : HT.sIx xs.length 0 (some (-1)) = xs.length - 1 := by
    simp only [HT.sIx]
    rw [if_pos (by decide)]
    omega
  rw [h, show HT.sIx xs.length xs.length none = xs.length from rfl]
  exact List.take_of_length_le (by rw [List.length_drop]; exact Nat.le_refl _)
end
end Sp
namespace Sp
open PySem L2
section
variable {P : Program} {w : World} {K : PySem.W.Frag} {mg : Str → Option Value} {base : Heap} {f : Addr} {fd : FuncData}
theorem Pa.run {X : Cx} {es : List Expr} {σ : L2.St} {H : Hp} {ds : List Dt} {Q : List V → Hp → Prop} (h : Pa X es σ H ds) (q : ∀ vs H2, Same H H2 → DcAll X.K H2 vs ds → Q vs H2) : WA X es σ H Q := h H (Same.refl _) Q q
theorem good_put {n : Nat} {xs : List Dt} {k : Nat} {v : Dt} (h1 : xs.length ≤ 100) (h : ∀ d ∈ xs, Good n d) (hv : Good n v) : Good (n + 1) (.tuple ((xs.take k ++ [v]) ++ xs.drop (k + 1))) := by
  refine good_tup (by simp; omega) fun d hd => ?_
  rcases List.mem_append.mp hd with hd | hd
  · rcases List.mem_append.mp hd with hd | hd
    · exact h d (List.mem_of_mem_take hd)
    · cases hd with
      | head => exact hv
      | tail _ h => cases h
  · exact h d (List.mem_of_mem_drop hd)
theorem ok_law_bent (n : Nat) (hn : n ≤ 50) (F : Fun K "_law_bent" "_law_bent" s__law_bent f fd) (T : Tx mg) (F1 : Ds P w K mg base 1 "_law_take" sp_take) (F2 : Ds P w K mg base 2 "_law_of" (sp_of K)) (F3 : Df P w K mg base 1 "_law_put" R_put) (Fr : ∀ k, n = k + 1 → Ds P w K mg base (k + 3) "_law_bent" (sp_bent K k)) :
    FnOk P w K mg base CX0 (n + 3) f fd ["tin", "matter"] (sp_bent K n) := by
  refine fn_s F sc__law_bent (fun vs H Q E h => by obtain ⟨_, _, _, _, rfl, _⟩ := h; rfl) fun cdv A outer s H vs Q E hr h => ?_
  obtain ⟨a, v, m, d, rfl, ht, hm, dv, fd', nd, q⟩ := h
  have hm : m + 3 * (n + 1) < 1152921504606846976 := hm
  have hng := nice_good nd
  refine wb_if (wt_and3 (Pt.run (pt_d (pd_isi "tuple" T.isinstance T.tuple (pd_v 1 rfl dv))) fun H1 s1 => ?_))
  -- behind the first if
  have rest : ∀ H1 m1, Dr a H H1 → Dc K H1 v d → Tin a m1 H1 → m1 + 1 ≤ m + 3 * (n + 1) → WB (cxOf CX0 P w K mg base n__law_bent "_law_bent" (defScope s__law_bent) f cdv A outer s H E).nox ((defBody s__law_bent).drop 1) { nx := fun _ H' => Q .non H', rt := Q } [some (.ref a), some v, none] H1 := by
    intro H1 m1 d1 dv1 t1 hm1
    have hm1' : m1 < lim := by show m1 < 1152921504606846976; omega
    have fin : ∀ {ds : List Dt} {es : List Expr} {p1 p2 p3 p4 p5 : Pos} {H2 : Hp} {m2}, Dr a H H2 → Tin a m2 H2 → m2 + 1 ≤ m + 3 * (n + 1) → Pa (cxOf CX0 P w K mg base n__law_bent "_law_bent" (defScope s__law_bent) f cdv A outer s H E).nox es [some (.ref a), some v, none] H2 ds → (0 < ds.length ∧ ds.length ≤ 100) → fzA ds = true → (∀ d ∈ ds, Good (n + 3) d) →
        (starEach [.Name "tin" p2, .List es p3] (cxOf CX0 P w K mg base n__law_bent "_law_bent" (defScope s__law_bent) f cdv A outer s H E).nox.env = (false, eval (.Name "tin" p2) (cxOf CX0 P w K mg base n__law_bent "_law_bent" (defScope s__law_bent) f cdv A outer s H E).nox.env) :: starEach [.List es p3] (cxOf CX0 P w K mg base n__law_bent "_law_bent" (defScope s__law_bent) f cdv A outer s H E).nox.env) →
        (starEach [.List es p3] (cxOf CX0 P w K mg base n__law_bent "_law_bent" (defScope s__law_bent) f cdv A outer s H E).nox.env = (false, eval (.List es p3) (cxOf CX0 P w K mg base n__law_bent "_law_bent" (defScope s__law_bent) f cdv A outer s H E).nox.env) :: starEach [] (cxOf CX0 P w K mg base n__law_bent "_law_bent" (defScope s__law_bent) f cdv A outer s H E).nox.env) →
        ((backTo p4 (starEach [.List es p3] (cxOf CX0 P w K mg base n__law_bent "_law_bent" (defScope s__law_bent) f cdv A outer s H E).nox.env)).any (fun z => z.1) = false) →
        WE (cxOf CX0 P w K mg base n__law_bent "_law_bent" (defScope s__law_bent) f cdv A outer s H E).nox (.Call (.Name "_law_of" p1) [.Name "tin" p2, .List es p3] [] p4) [some (.ref a), some v, none] H2 Q := by
      intro ds es p1 p2 p3 p4 p5 H2 m2 d2 t2 hm2 hpa hl hf hg e1 e2 e3
      exact we_ofF 0 F2 hr rfl t2 (by show m2 < 1152921504606846976; omega) hpa hl hf (fun d' y H' hd dr tr dy => q d' y H' (d2.trans dr) (tr.le hm2) dy (hg d' hd)) (by omega) rfl (Or.inl rfl) rfl (by decide) (by decide) e1 e2 e3
    have g3 : ∀ {d : Dt}, Good n d → Good (n + 3) d := fun h => h.up (by omega)
    refine wb_whenD (k := isIn "tuple" d) (pt_d (pd_isi "tuple" T.isinstance T.tuple (pd_v 1 rfl dv1))) (fun hi H2 s2 => ?_) fun hi H2 s2 => ?_
    · obtain ⟨xs, rfl⟩ := isTup hi
      have hxs := nc_tupI nd.1
      have hn0 : ∃ n', n = n' + 1 := by
        cases n with
        | zero => have := nd.2; simp [PyData.depth] at this
        | succ n' => exact ⟨n', rfl⟩
      obtain ⟨n', rfl⟩ := hn0
      have gm : ∀ d ∈ xs, Good n' d := fun d hd => nice_good (nice_mem nd hd)
      have fx : ∀ d ∈ xs, fz d = true := fzA_iff.mp fd'
      have dv2 := Dc.kept s2 dv1
      have t2 := t1.same s2
      obtain ⟨a0, ys, ev, hT, hys⟩ := Dc.tupleI dv2
      subst ev
      refine wb_ret (we_call F2 hr (wa_cons (we_of (pv 0) ⟨_, rfl, wa_cons (we_of (pe_lst (pa_cons pe_w pa_w)) ?_) rfl⟩) rfl) (by omega))
      refine we_of (pe_callTy call_list_of rfl T.list (by decide +kernel) (pa_cons (pv 1) pa_nil) (by decide) (by decide)) ⟨_, rfl, a0, ys, rfl, .inr hT, fun l hl => ?_⟩
      have hla : l ≠ a := t2.ne hl
      have s3 : Same H2 (upd H2 l (.lst ys)) := Same.new hl
      have hl3 : upd H2 l (.lst ys) l = some (.lst ys) := upd_same
      have dv3 := Dc.kept s3 dv2
      generalize upd H2 l (.lst ys) = H3 at s3 hl3 dv3
      refine Pa.run (ds := [.tuple (xs.take (xs.length - 1)), .tuple (xs ++ [.int 0]), .tuple (xs ++ xs.drop (xs.length - 1)), .tuple xs.reverse, .tuple [], .none]) (
        pa_c (Pd.is (pd_slT (pd_v 1 rfl dv3) po_n (po_s (pd_neg pd_int))) (congrArg PyData.tuple cut_m1)) (pa_c (pd_catT (pd_v 1 rfl dv3) (pd_tup (pa_c pd_int pa_n)) (by simp; omega)) (pa_c (pd_catT (pd_v 1 rfl dv3) (Pd.is (pd_slT (pd_v 1 rfl dv3) (po_s (pd_neg pd_int)) po_n) (congrArg PyData.tuple cut_last)) (by rw [List.length_drop]; omega))
          (pa_c (pd_revT (pd_v 1 rfl dv3)) (pa_c (pd_tup pa_n) (pa_c pd_none pa_n)))))) fun us H4 s4 du => ⟨Nat.le_trans (by rw [List.length_cons, du.length]; exact Nat.le_refl 7) (show 7 ≤ sizeLine by decide), fun p hp => wa_nil ?_⟩
      have s24 := s3.trans s4
      have t5 : Tin a m1 (upd H4 p (.lst (.ref l :: us))) := (t2.same s24).same (Same.new hp)
      have hpa' : p ≠ a := (t2.same s24).ne hp
      have du5 := DcAll.kept (Same.new (o := .lst (.ref l :: us)) hp) du
      have hl5 : upd H4 p (.lst (.ref l :: us)) l = some (.lst ys) := Same.new hp _ _ (s4 _ _ hl3)
      have s25 := s24.trans (Same.new (o := .lst (.ref l :: us)) hp)
      refine ⟨a, p, .ref l :: us, m1, rfl, hpa', t5, hm1', upd_same, ⟨by simp, by rw [List.length_cons, du.length]; exact (show (7 : Nat) ≤ 10000 by decide)⟩, fun ix y H6 hy d6 t6 => ?_⟩
      have dall : Dr a H H6 := (d1.trans (Dr.same (s2.trans s25))).trans d6
      have ts6 := d6.t (K := K) t5
      cases ix with
      | zero =>
        cases hy
        refine q (.list xs) _ H6 dall (t6.le hm1) (.lst (SqL.of (d6.of hl5 hla)) (DcAll.fz ts6 (DcAll.kept s25 hys) fd')) (g3 (good_lst (by omega) gm))
      | succ ix =>
        obtain ⟨d', hd', dy⟩ := du5.got (by simpa using hy)
        have hmem := List.mem_of_getElem? hd'
        have both : fz d' = true ∧ Good (n' + 1 + 3) d' := by
          simp only [List.mem_cons, List.not_mem_nil, or_false] at hmem
          rcases hmem with rfl | rfl | rfl | rfl | rfl | rfl
          · exact ⟨fzA_iff.mpr fun d hd => fx d (List.mem_of_mem_take hd), g3 (good_tup (by rw [List.length_take]; omega) fun d hd => gm d (List.mem_of_mem_take hd))⟩
          · refine ⟨fzA_append fd' rfl, g3 (good_tup (by simp; omega) fun d hd => ?_)⟩
            rcases List.mem_append.mp hd with hd | hd
            · exact gm d hd
            · cases hd with
              | head => exact good_int
              | tail _ h => cases h
          · refine ⟨fzA_append fd' (fzA_iff.mpr fun d hd => fx d (List.mem_of_mem_drop hd)), g3 (good_tup (by rw [List.length_append, List.length_drop]; omega) fun d hd => ?_)⟩
            rcases List.mem_append.mp hd with hd | hd
            · exact gm d hd
            · exact gm d (List.mem_of_mem_drop hd)
          · exact ⟨fzA_iff.mpr fun d hd => fx d (List.mem_reverse.mp hd), g3 (good_tup (by rw [List.length_reverse]; omega) fun d hd => gm d (List.mem_reverse.mp hd))⟩
          · exact ⟨rfl, (good_tup (n := 0) (by simp) fun d hd => by cases hd).up (by omega)⟩
          · exact ⟨rfl, good_none⟩
        exact q d' y H6 dall (t6.le hm1) (Dc.fz ts6 dy both.1) both.2
    have dv2 := Dc.kept s2 dv1
    have d2 := d1.trans (Dr.same s2)
    have t2 := t1.same s2
    refine wb_whenD (k := isIn "str" d) (pt_d (pd_isi "str" T.isinstance T.str (pd_v 1 rfl dv2))) (fun hs H3 s3 => ?_) fun hs H3 s3 => ?_
    · obtain ⟨x, rfl⟩ := isStr hs
      have hws := word_s nd.1
      refine wb_ret (fin (p5 := ⟨0, 0, 0, 0⟩) (d2.trans (Dr.same s3)) (t2.same s3) hm1 (pa_c (pd_addS (pd_v 1 rfl (Dc.kept s3 dv2)) pd_str hws.2) (pa_c pd_str (pa_c pd_none (pa_c pd_int (pa_c pd_str pa_n))))) (by simp) rfl (fun d hd => ?_) rfl rfl rfl)
      simp only [List.mem_cons, List.not_mem_nil, or_false] at hd
      rcases hd with rfl | rfl | rfl | rfl | rfl
      · exact good_str hws.1
      · exact good_str (strOk_of _)
      · exact good_none
      · exact good_int
      · exact good_str (strOk_of _)
    have dv3 := Dc.kept s3 dv2
    have d3 := d2.trans (Dr.same s3)
    have t3 := t2.same s3
    refine wb_whenD (k := isNo d) (pt_isN (pd_v 1 rfl dv3)) (fun hno H4 s4 => ?_) fun hno H4 s4 => ?_
    · refine wb_ret (fin (p5 := ⟨0, 0, 0, 0⟩) (d3.trans (Dr.same s4)) (t3.same s4) hm1 (pa_c pd_int (pa_c (pd_tup pa_n) (pa_c pd_bool (pa_c (pd_tup (pa_c pd_int (pa_c (pd_tup (pa_c pd_int (pa_c pd_int (pa_c pd_int (pa_c pd_int pa_n))))) pa_n))) (pa_c (pd_tup (pa_c pd_int (pa_c pd_int (pa_c pd_int pa_n)))) pa_n))))) (by simp) rfl (fun d hd => ?_) rfl rfl rfl)
      simp only [List.mem_cons, List.not_mem_nil, or_false] at hd
      rcases hd with rfl | rfl | rfl | rfl | rfl
      · exact good_int
      · exact Good.up (n := 3) ⟨by decide, by decide, by decide⟩ (by omega)
      · exact good_bool
      · exact Good.up (n := 3) ⟨by decide, by decide, by decide⟩ (by omega)
      · exact Good.up (n := 3) ⟨by decide, by decide, by decide⟩ (by omega)
    have dv4 := Dc.kept s4 dv3
    have d4 := d3.trans (Dr.same s4)
    have t4 := t3.same s4
    obtain ⟨i, rfl⟩ : ∃ i, d = .int i := by
      cases d with
      | int i => exact ⟨i, rfl⟩
      | none => cases hno
      | str x => cases hs
      | tuple xs => cases hi
      | bool b => have := nd.1; simp [nc] at this
      | list xs => have := nd.1; simp [nc] at this
      | dict xs => have := nd.1; simp [nc] at this
    have hib : i.natAbs ≤ 1000000 := of_decide_eq_true nd.1
    have hlog : i.natAbs.log2 < 1920 := by
      by_cases h0 : i.natAbs = 0
      · rw [h0]; decide
      · exact (Nat.log2_lt h0).mpr (Nat.lt_of_le_of_lt hib (Nat.lt_of_lt_of_le (show 1000000 < 2 ^ 20 by decide) (Nat.pow_le_pow_right (by decide) (by decide))))
    refine wb_ret (fin (p5 := ⟨0, 0, 0, 0⟩) d4 t4 hm1 (pa_c (pd_add (pd_v 1 rfl dv4) pd_int) (pa_c (pd_sub (pd_v 1 rfl dv4) pd_int) (pa_c (pd_sub pd_int (pd_v 1 rfl dv4)) (pa_c (pd_eqI (pd_v 1 rfl dv4) pd_int) (pa_c (pd_strI T.str (pd_v 1 rfl dv4) hlog) (pa_c pd_none (pa_c (pd_pow pd_int pd_int (by unfold CPow; decide)) (pa_c (pd_tup (pa_c (pd_v 1 rfl dv4) pa_n)) (pa_c pd_int (pa_c pd_int pa_n)))))))))) (by simp) rfl (fun d hd => ?_) rfl rfl rfl)
    simp only [List.mem_cons, List.not_mem_nil, or_false] at hd
    rcases hd with rfl | rfl | rfl | rfl | rfl | rfl | rfl | rfl | rfl | rfl
    · exact good_int
    · exact good_int
    · exact good_int
    · exact good_bool
    · exact good_str (strOk_of _)
    · exact good_none
    · exact good_int
    · exact Good.up (n := 0 + 1) (good_tup (by simp) fun d hd => by
        cases hd with
        | head => exact good_int
        | tail _ h => cases h) (by omega)
    · exact good_int
    · exact good_int
  cases hi : isIn "tuple" d with
  | false =>
    rw [if_neg (by decide), if_neg (by decide)]
    exact wb_nil (rest H1 m (Dr.same s1) (Dc.kept s1 dv) (ht.same s1) (by omega))
  | true =>
    rw [if_pos rfl]
    obtain ⟨xs, rfl⟩ := isTup hi
    have hxs := (nc_tupI nd.1).1
    refine Pt.run (pt_neD hr.units (pd_v 1 rfl (Dc.kept s1 dv)) (pd_tup pa_n) (hng.sh (by omega)) sh_nilT) fun H2 s2 => ?_
    have s12 := s1.trans s2
    rw [eqv_nilT]
    cases he : xs.isEmpty with
    | true =>
      rw [if_neg (by decide), if_neg (by decide)]
      exact wb_nil (rest H2 m (Dr.same s12) (Dc.kept s12 dv) (ht.same s12) (by omega))
    | false =>
      rw [if_pos (by decide)]
      have hlen : 0 < xs.length := by
        cases xs with
        | nil => cases he
        | cons x xs => simp
      refine wt_gtD (we_take 0 F1 hr rfl (we_of pe_int ⟨4, m, rfl, ⟨by decide, by decide⟩, ht.same s12, by show m < 1152921504606846976; omega, fun r H3 hr3 d3 t3 => ⟨(r : Int), rfl, ?_⟩⟩) (by omega))
      have d03 : Dr a H H3 := (Dr.same s12).trans d3
      have dv3 : Dc K H3 v (.tuple xs) := Dc.fz (d3.t (ht.same s12)) (Dc.kept s12 dv) fd'
      cases hg : decide ((0 : Int) < (r : Int)) with
      | false =>
        rw [if_neg (by decide)]
        exact wb_nil (rest H3 (m + 1) d03 dv3 t3 (by omega))
      | true =>
        rw [if_pos rfl]
        -- a member is bent
        refine wb_set 2 (we_take 0 F1 hr rfl (Pd.run (pd_lenT T.len (pd_v 1 rfl dv3)) fun vl H4 s4 dl => ?_) (by omega)) sc__law_bent.nd
        cases dl
        refine ⟨xs.length, m + 1, rfl, ⟨hlen, by omega⟩, t3.same s4, by show m + 1 < 1152921504606846976; omega, fun k H5 hk d5 t5 => ?_⟩
        have dv5 : Dc K H5 v (.tuple xs) := Dc.fz (d5.t (t3.same s4)) (Dc.kept s4 dv3) fd'
        have d05 := d03.trans ((Dr.same s4).trans d5)
        obtain ⟨n', rfl⟩ : ∃ n', n = n' + 1 := by
          cases n with
          | zero => have := nd.2; simp [PyData.depth] at this
          | succ n' => exact ⟨n', rfl⟩
        have hkm := getD_mem (xs := xs) hk
        refine wb_ret (we_call F3 hr (wa_cons (we_of (pv 1) ⟨_, rfl, wa_cons (we_of (pv 2) ⟨_, rfl, wa_cons (we_call (Fr n' rfl) hr (wa_cons (we_of (pv 0) ⟨_, rfl, wa_cons (Pd.run (pd_ixT (pd_v 1 rfl dv5) (pd_v 2 rfl (.int (k : Int))) (atGet hk)) fun vm H6 s6 dm => wa_nil ?_) rfl⟩) rfl) (by omega)) rfl⟩) rfl⟩) rfl) (by omega))
        refine ⟨a, vm, m + 2, _, rfl, t5.same s6, by show m + 2 + 3 * (n' + 1) < 1152921504606846976; omega, dm, fzA_iff.mp fd' _ hkm, nice_mem nd hkm, fun d' y H7 d7 t7 dy gd => ?_⟩
        have dv7 : Dc K H7 v (.tuple xs) := Dc.fz (d7.t (t5.same s6)) (Dc.kept s6 dv5) fd'
        refine wa_nil ⟨[.tuple xs, .int (k : Int), d'], _, .cons dv7 (.cons (.int _) (.one dy)), ⟨_, _, _, rfl, xs, k, rfl, rfl, by omega, rfl⟩, fun z H8 s8 dz => ?_⟩
        exact q _ z H8 (d05.trans ((Dr.same s6).trans (d7.trans (Dr.same s8)))) ((t7.same s8).le (by omega)) dz (good_put hxs (fun d hd => (nice_good (nice_mem nd hd)).up (by omega)) gd)
end
end Sp
namespace Sp
open PySem L2
theorem dc_rep {K : PySem.W.Frag} {H : Hp} {vs : List V} {ds : List Dt} (h : DcAll K H vs ds) : ∀ k : Nat, DcAll K H (List.replicate k vs).flatten (List.replicate k ds).flatten
  | 0 => .nil
  | k + 1 => by
    rw [List.replicate_succ, List.replicate_succ, List.flatten_cons, List.flatten_cons]
    exact h.append (dc_rep h k)
theorem pd_repT {X : Cx} {σ : L2.St} {H : Hp} {a b : Expr} {pos : Pos} {ds : List Dt} {k : Int} (ha : Pd X a σ H (.tuple ds)) (hb : Pd X b σ H (.int k)) (hne : ds ≠ []) (h2 : 2 ≤ k) (h3 : k ≤ 1000) (hz : ds.length ≤ 1000) : Pd X (.BinOp a .Mult b pos) σ H (.tuple (List.replicate k.toNat ds).flatten) :=
  pd_bin op_repF ha hb fun H1 x y Q s dx dy q => by
    cases dy
    obtain ⟨p, xs, rfl, ht, hd⟩ := Dc.tupleI dx
    have hl := hd.length
    exact ⟨p, k, xs, ⟨rfl, rfl⟩, ht, (fun e => hne (by rw [e] at hl; exact List.eq_nil_of_length_eq_zero hl.symm)), ⟨h2, h3⟩, by omega, fun l o hl ho => q _ _ (Same.new hl) (.tup (SqU.frz upd_same ho) (DcAll.kept (Same.new hl) (dc_rep hd k.toNat)))⟩
/-- a def that answers a question about data -/
structure Door (P : Program) (w : World) (K : PySem.W.Frag) (mg : Str → Option Value) (base : Heap) (k : Nat) (f : Addr) (g : Dt → Bool) : Prop where
  ex : ∃ fd ps, PySem.W.keepIn K (.ref f) = true ∧ Binds K fd ps [] ∧ FnOk P w K mg base CX0 k f fd ps (spR K (R1 fun t d => sm t = true ∧ SeqAt.shaped t = true ∧ d = .bool (g t)))
theorem door_of {P : Program} {w : World} {K : PySem.W.Frag} {mg : Str → Option Value} {base : Heap} {k : Nat} {x : Str} {g : Dt → Bool} {R : List Dt → Dt → Prop} (h : Df P w K mg base k x R) (hR : ∀ t, sm t = true → SeqAt.shaped t = true → R [t] (.bool (g t))) : ∃ f, mg x = some (.ref f) ∧ Door P w K mg base k f g := by
  obtain ⟨f, fd, ps, h1, h2, h3, h4⟩ := h.ex
  refine ⟨f, h1, ⟨fd, ps, h2, h3, h4.imp fun vs H Q E ⟨ds, d, hv, ⟨t, e1, a, b, e2⟩, q⟩ => ?_⟩⟩
  subst e1; subst e2
  exact ⟨[t], _, hv, hR t a b, q⟩
/-- the call of a local name that holds such a def -/
theorem pd_door {X : Cx} {σ : L2.St} {H : Hp} {e : Expr} {p pos : Pos} {x : Str} {k j : Nat} {f : Addr} {g : Dt → Bool} {t : Dt} (i : Nat) (D : Door X.prog X.w X.K X.mg X.base k f g) (hr : Room j X.A) (hk : k ≤ j) (hs : σ[i]? = some (some (.ref f))) (ha : Pd X e σ H t) (h1 : sm t = true) (h2 : SeqAt.shaped t = true)
    (hN : X.N[i]? = some x := by rfl) (hv : Vis X.env.scope x := by first | exact Or.inl rfl | exact Or.inr (Or.inl rfl) | exact Or.inr (Or.inr rfl)) (hdb : (x == ("__debug__" : Str)) = false := by decide) (hcd : (x == ("__classdict__" : Str)) = false := by decide)
    (he : starEach [e] X.env = (false, eval e X.env) :: starEach [] X.env := by rfl) (hpl : (backTo pos (starEach [] X.env)).any (fun z => z.1) = false := by rfl) : Pd X (.Call (.Name x p) [e] [] pos) σ H (.bool (g t)) := fun H1 s Q q => by
  obtain ⟨fd, ps, h3, h4, h5⟩ := D.ex
  refine we_of (pe_callL h5 (hr.mono hk) hN hv h3 h4 .nil pass0 (pa_cons pe_w pa_nil he) hdb hcd he hpl) ⟨hs, ha H1 s _ fun v H2 s2 dv => ?_⟩
  exact ⟨[t], .bool (g t), .one dv, ⟨t, rfl, h1, h2, rfl⟩, fun u H3 s3 du => q u H3 (s2.trans s3) du⟩
end Sp
namespace Sp
open PySem L2
/-- is not True, of a bool -/
theorem pt_notTrue {X : Cx} {σ : L2.St} {H : Hp} {a : Expr} {k : Bool} {j : Nat} {p2 pos : Pos} (ha : Pd X a σ H (.bool k)) : Pt X (.Compare a [.IsNot] [.Constant (.bool true) j p2] pos) σ H (!k) :=
  pt_cmpD op_notBl ha pd_bool (fun H1 x y Q s dx dy q => by
    cases dx; cases dy
    exact ⟨k, true, rfl, rfl, q _ H1 (Same.refl _) (by cases k <;> exact .bl _)⟩) (nobehind _ (by decide) (by decide))
end Sp
namespace Sp
open PySem L2
/-- own data with their judge's yes -/
structure Own (g : Dt → Bool) (d : Dt) : Prop where
  fz : fz d = true
  nice : Nice 7 d
  yes : g d = true
theorem Own.good {g : Dt → Bool} {d : Dt} (h : Own g d) : sm d = true ∧ SeqAt.shaped d = true := ⟨(nice_good h.nice).1, (nice_good h.nice).sh (by decide)⟩
def movesD : List Dt := [.tuple [.str "split", .int 39], .tuple [.str "merge", .int 0, .int 3], .tuple [.str "cross", .int 39, .int 0], .tuple [.str "uncross", .int 1, .int 0, .int 3]]
theorem moves_own : ∀ d ∈ movesD, Own isMove d := by
  intro d hd
  simp only [movesD, List.mem_cons, List.not_mem_nil, or_false] at hd
  rcases hd with rfl | rfl | rfl | rfl <;> exact ⟨by decide +kernel, ⟨by decide +kernel, by decide +kernel⟩, by decide +kernel⟩
theorem absI_le {i : Int} {n : Nat} (h : absI i ≤ n) : i.natAbs ≤ n := by
  unfold absI at h
  split at h <;> omega
theorem given_own {many : Nat} {ws : List (List Int)} (hm : many ≤ 10) (h1 : ws.length ≤ 10) (h : ∀ ns ∈ ws, ns.length ≤ 10 ∧ ∀ i ∈ ns, 1 ≤ absI i ∧ absI i ≤ many) : Own isGiven (.tuple [.int (many : Int), .tuple (ws.map tI)]) := by
  refine ⟨by simp [L2.fz, fzA, fz_tIs], ?_, ?_⟩
  · refine nice_tup (n := 6) (by simp) fun d hd => ?_
    simp only [List.mem_cons, List.not_mem_nil, or_false] at hd
    rcases hd with rfl | rfl
    · exact nice_int (by omega)
    · refine nice_tup (n := 5) (by simp; omega) fun d hd => ?_
      obtain ⟨ns, hns, rfl⟩ := List.mem_map.mp hd
      exact nice_up (nice_ints (n := 0) (by have := (h ns hns).1; omega) fun i hi => by have := absI_le ((h ns hns).2 i hi).2; omega) (by decide)
  · show (true && (true && (!decide ((many : Int) < 0) && (true && (ws.map tI).all (isWord (many : Int)))))) = true
    rw [decide_eq_false (by omega)]
    simp only [Bool.not_false, Bool.true_and]
    refine List.all_eq_true.mpr fun d hd => ?_
    obtain ⟨ns, hns, rfl⟩ := List.mem_map.mp hd
    rw [isWord, Bool.and_eq_true]
    refine ⟨List.all_eq_true.mpr fun d hd => by obtain ⟨i, _, rfl⟩ := List.mem_map.mp (show d ∈ ns.map PyData.int from hd); rfl, List.all_eq_true.mpr fun d hd => ?_⟩
    obtain ⟨i, hi, rfl⟩ := List.mem_map.mp (show d ∈ ns.map PyData.int from hd)
    have := (h ns hns).2 i hi
    exact Bool.and_eq_true_iff.mpr ⟨decide_eq_true this.1, decide_eq_true this.2⟩
theorem discs_own {rows : List (List Int)} (h1 : 1 ≤ rows.length) (h2 : rows.length ≤ 10) (h : ∀ ns ∈ rows, ns.length = 7 ∧ ∀ i ∈ ns, 0 ≤ i ∧ i ≤ 1000000) : Own isDiscs (.tuple (rows.map tI)) := by
  refine ⟨fz_tIs, ?_, ?_⟩
  · refine nice_tup (n := 6) (by simp; omega) fun d hd => ?_
    obtain ⟨ns, hns, rfl⟩ := List.mem_map.mp hd
    exact nice_up (nice_ints (n := 0) (by have := (h ns hns).1; omega) fun i hi => by have := (h ns hns).2 i hi; omega) (by decide)
  · refine Bool.and_eq_true_iff.mpr ⟨Bool.and_eq_true_iff.mpr ⟨decide_eq_true (by simp; omega), decide_eq_true (by simp; omega)⟩, Bool.and_eq_true_iff.mpr ⟨List.all_eq_true.mpr fun d hd => ?_, List.all_eq_true.mpr fun d hd => ?_⟩⟩
    · obtain ⟨ns, hns, rfl⟩ := List.mem_map.mp hd
      show decide (((ns.map PyData.int).length : Int) = 7) = true
      rw [List.length_map, (h ns hns).1]
      rfl
    · obtain ⟨ns, hns, rfl⟩ := List.mem_map.mp hd
      refine List.all_eq_true.mpr fun d hd => ?_
      obtain ⟨i, hi, rfl⟩ := List.mem_map.mp (show d ∈ ns.map PyData.int from hd)
      have := (h ns hns).2 i hi
      exact Bool.and_eq_true_iff.mpr ⟨decide_eq_true this.1, decide_eq_true this.2⟩
end Sp
namespace Sp
open PySem L2
section
variable {P : Program} {w : World} {K : PySem.W.Frag} {mg : Str → Option Value} {base : Heap} {f : Addr} {fd : FuncData}
/-- the statements of a for -/
def bodyOf : Stmt → List Stmt
  | .For _ _ b _ _ => b
  | _ => []
abbrev lapSt (i : Nat) : Stmt := (defBody s__law_lap_one).getD i (.Pass ⟨0, 0, 0, 0⟩)
/-- a door and its judge say the same of own and of eight bent ones -/
theorem wb_goods {cdv : Value} {A : Around} {outer : List Env} {s : Shared} {H0 H : Hp} {E : XK} {D : Ends} {σ : L2.St} {a f1 f2 : Addr} {g : Dt → Bool} {v : V} {d : Dt} {m k1 k2 : Nat} (T : Tx mg) (hr : Room 15 (A.deeper (PyProof.Rows.envOfC "_law_lap_one" (defScope s__law_lap_one) s.heap.objs.size f cdv)))
    (Fs : Df P w K mg base 1 "_law_same" R_same0) (Fb : Ds P w K mg base 10 "_law_bent" (sp_bent K 7)) (D1 : Door P w K mg base k1 f1 g) (D2 : Door P w K mg base k2 f2 g) (hk1 : k1 ≤ 15) (hk2 : k2 ≤ 15)
    (hl : σ.length = 17) (h0 : σ[0]? = some (some (.ref a))) (h11 : σ[11]? = some (some (.ref f1))) (h12 : σ[12]? = some (some (.ref f2))) (h13 : σ[13]? = some (some v)) (ht : Tin a m H) (hm : m + 300 < lim) (dv : Dc K H v d) (own : Own g d)
    (hn : ∀ σ' H', (∀ i, i ≠ 6 → i ≠ 14 → σ'[i]? = σ[i]?) → σ'.length = 17 → Dr a H H' → Tin a (m + 240) H' → D.nx σ' H') :
    WB (cxOf CX0 P w K mg base n__law_lap_one "_law_lap_one" (defScope s__law_lap_one) f cdv A outer s H0 E).nox (bodyOf (lapSt 7)) D σ H := by
  have hm : m + 300 < 1152921504606846976 := hm
  refine wb_whenD (k := !g d || !g d) (pw_t (pw_o (pt_notTrue (pd_door 12 D2 hr hk2 h12 (pd_v 13 h13 dv) own.good.1 own.good.2)) fun _ => pw_o1 (pt_notTrue (pd_door 11 D1 hr hk1 h11 (pd_v 13 h13 dv) own.good.1 own.good.2)))) (fun h => by rw [own.yes] at h; cases h) fun _ H1 s1 => ?_
  refine wb_forG (pi_range1 rfl T.range pa_w) (pg_name (i := 6) sc__law_lap_one.nd rfl (Or.inl rfl)) mono_rng ?_
  refine wa_cons (we_of pe_int (wa_nil ⟨_, rfl, by decide, by decide, 8, fun _ => True, fun i x _ => x = .int (i : Int), sSet 6, fun i σ' H' => (∀ i, i ≠ 6 → i ≠ 14 → σ'[i]? = σ[i]?) ∧ σ'.length = 17 ∧ Dr a H H' ∧ Tin a (m + 24 * i) H',
    src2_rng, ?_, hs_set, fun _ _ _ _ => trivial, ?_, ?_⟩)) rfl
  · exact ⟨fun _ _ _ => rfl, hl, Dr.same s1, ht.same s1⟩
  · rintro i x σ1 σ2 H2 H3 N hi ⟨e1, l1, d2, t2⟩ s3 rfl rfl hN
    have at' : ∀ i', i' ≠ 6 → i' ≠ 14 → (σ1.set 6 (some (.int (i : Int))))[i']? = σ[i']? := fun i' h6 h14 => by
      rw [List.getElem?_set_ne (Ne.symm h6)]; exact e1 i' h6 h14
    have t3 := t2.same s3
    have dv3 : Dc K H3 v d := Dc.fz ((d2.trans (Dr.same s3)).t ht) dv own.fz
    refine wb_set 14 (we_call Fb hr (wa_cons (we_of (pv 0) ⟨_, (at' 0 (by decide) (by decide)).trans h0, wa_cons (we_of (pv 13) ⟨_, (at' 13 (by decide) (by decide)).trans h13, wa_nil ?_⟩) rfl⟩) rfl)) sc__law_lap_one.nd
    refine ⟨a, v, m + 24 * i, d, rfl, t3, by show m + 24 * i + 3 * (7 + 1) < 1152921504606846976; omega, dv3, own.fz, own.nice, fun b y H4 d4 t4 dy gb => ?_⟩
    have at2 : ∀ i', i' ≠ 6 → i' ≠ 14 → ((σ1.set 6 (some (.int (i : Int)))).set 14 (some y))[i']? = σ[i']? := fun i' h6 h14 => by
      rw [List.getElem?_set_ne (Ne.symm h14)]; exact at' i' h6 h14
    have at14 : ((σ1.set 6 (some (.int (i : Int)))).set 14 (some y))[14]? = some (some y) := List.getElem?_set_self (by rw [List.length_set, l1]; decide)
    refine wb_whenD (k := !(g b == g b)) (pt_notD (pt_d (pd_call Fs hr (pa_c (pd_door 11 D1 hr hk1 ((at2 11 (by decide) (by decide)).trans h11) (pd_v 14 at14 dy) gb.1 (gb.sh (by decide))) (pa_c (pd_door 12 D2 hr hk2 ((at2 12 (by decide) (by decide)).trans h12) (pd_v 14 at14 dy) gb.1 (gb.sh (by decide))) pa_n)) ⟨_, _, rfl, g b, g b, rfl, rfl, rfl⟩))) (fun h => by simp at h) fun _ H5 s5 => ?_
    exact wb_nil (hN _ _ ⟨at2, by rw [List.length_set, List.length_set, l1], (d2.trans (Dr.same s3)).trans (d4.trans (Dr.same s5)), (t4.same s5).le (by omega)⟩)
  · rintro σ1 H2 ⟨e1, l1, d2, t2⟩
    exact wb_nil (hn σ1 H2 e1 l1 d2 (t2.le (by omega)))
end
end Sp
namespace Sp
open PySem L2
section
variable {P : Program} {w : World} {K : PySem.W.Frag} {mg : Str → Option Value} {base : Heap} {f : Addr} {fd : FuncData}
/-- the three things that are drawn whole -/
structure Draws3 (P : Program) (w : World) (K : PySem.W.Frag) (mg : Str → Option Value) (base : Heap) : Prop where
  take : Ds P w K mg base 1 "_law_take" sp_take
  of : Ds P w K mg base 2 "_law_of" (sp_of K)
  pick : Ds P w K mg base 2 "_law_pick" (sp_pick K)
  word : Ds P w K mg base 3 "_law_word" (sp_word K)
  loose : Ds P w K mg base 3 "_law_loose" (sp_loose K)
  table : Ds P w K mg base 3 "_law_some_table" (sp_some_table K)
  surface : Ds P w K mg base 3 "_law_some_surface" (sp_some_surface K)
  bent : Ds P w K mg base 10 "_law_bent" (sp_bent K 7)
  same0 : Df P w K mg base 1 "_law_same" R_same0
  same1 : Df P w K mg base 2 "_law_same" R_same1
  row : Df P w K mg base 2 "_law_row" R_law_row
  shuffle : Df P w K mg base 5 "is_shuffle" R_is_shuffle
/-- the doors and their judges, by name -/
structure Doors (P : Program) (w : World) (K : PySem.W.Frag) (mg : Str → Option Value) (base : Heap) : Prop where
  space : ∃ a b, mg "is_space" = some (.ref a) ∧ mg "_law_a_space" = some (.ref b) ∧ Door P w K mg base 15 a isSpace ∧ Door P w K mg base 15 b isSpace
  move : ∃ a b, mg "is_move" = some (.ref a) ∧ mg "_law_a_move" = some (.ref b) ∧ Door P w K mg base 15 a isMove ∧ Door P w K mg base 15 b isMove
  table : ∃ a b, mg "is_table" = some (.ref a) ∧ mg "_law_a_table" = some (.ref b) ∧ Door P w K mg base 15 a isTable ∧ Door P w K mg base 15 b isTable
  given : ∃ a b, mg "is_given" = some (.ref a) ∧ mg "_law_a_given" = some (.ref b) ∧ Door P w K mg base 15 a isGiven ∧ Door P w K mg base 15 b isGiven
  discs : ∃ a b, mg "are_discs" = some (.ref a) ∧ mg "_law_some_discs" = some (.ref b) ∧ Door P w K mg base 15 a isDiscs ∧ Door P w K mg base 15 b isDiscs
  surface : ∃ a b, mg "is_surface" = some (.ref a) ∧ mg "_law_a_surface" = some (.ref b) ∧ Door P w K mg base 15 a isSurface ∧ Door P w K mg base 15 b isSurface
def sp_lap : Sp := fun vs H Q _ => ∃ a m, vs = [.ref a] ∧ Tin a m H ∧ m + 5000 < lim ∧ ∀ H', Dr a H H' → Tin a (m + 5000) H' → Q (.bl true) H'
theorem shuf_perm {n : Nat} {ns : List Int} (h : ns.Perm ((List.range n).map fun (i : Nat) => (i : Int))) : isShuf n (tI ns) = true := by
  refine Bool.and_eq_true_iff.mpr ⟨List.all_eq_true.mpr fun d hd => by obtain ⟨i, _, rfl⟩ := List.mem_map.mp (show d ∈ ns.map PyData.int from hd); rfl, decide_eq_true ?_⟩
  rw [numsOf_tI]
  refine (srt_eq h.symm ?_).symm
  rw [List.pairwise_map]
  exact List.Pairwise.imp (fun {a b} (h : a < b) => by omega) List.pairwise_lt_range
end
end Sp
namespace Sp
open PySem L2
section
variable {P : Program} {w : World} {K : PySem.W.Frag} {mg : Str → Option Value} {base : Heap} {f : Addr} {fd : FuncData}
theorem perm_ints {us vs : List V} (p : us.Perm vs) : ∀ {is : List Int}, vs = is.map V.int → ∃ ns : List Int, us = ns.map V.int ∧ ns.Perm is := by
  induction p with
  | nil => intro is h; exact ⟨is, h, List.Perm.refl _⟩
  | cons x _ ih =>
    intro is h
    cases is with
    | nil => cases h
    | cons i is =>
      obtain ⟨h1, h2⟩ := List.cons.inj h
      obtain ⟨ns, e, hp⟩ := ih h2
      exact ⟨i :: ns, by rw [h1, e]; rfl, List.Perm.cons i hp⟩
  | swap x y l =>
    intro is h
    match is, h with
    | i :: j :: r, h =>
      obtain ⟨h1, h2⟩ := List.cons.inj h
      obtain ⟨h2, h3⟩ := List.cons.inj h2
      exact ⟨j :: i :: r, by rw [h1, h2, h3]; rfl, List.Perm.swap i j r⟩
  | trans _ _ ih1 ih2 =>
    intro is h
    obtain ⟨n1, e1, p1⟩ := ih2 h
    obtain ⟨n2, e2, p2⟩ := ih1 e1
    exact ⟨n2, e2, p2.trans p1⟩
theorem rng_ints {n : Nat} : rngD n = ((List.range n).map fun (i : Nat) => (i : Int)).map PyData.int := rngD_nums
theorem words_ex {Pr : List Int → Prop} : ∀ {ds : List Dt}, (∀ d ∈ ds, ∃ ns : List Int, d = tI ns ∧ Pr ns) → ∃ nss : List (List Int), ds = nss.map tI ∧ ∀ ns ∈ nss, Pr ns
  | [], _ => ⟨[], rfl, fun _ h => by cases h⟩
  | d :: ds, h => by
    obtain ⟨ns, rfl, hn⟩ := h d (by simp)
    obtain ⟨nss, rfl, hs⟩ := words_ex (ds := ds) fun d hd => h d (by simp [hd])
    exact ⟨ns :: nss, rfl, fun x hx => by
      rcases List.mem_cons.mp hx with rfl | hx
      · exact hn
      · exact hs x hx⟩
end
end Sp
namespace Sp
open PySem L2
section
variable {P : Program} {w : World} {K : PySem.W.Frag} {mg : Str → Option Value} {base : Heap} {f : Addr} {fd : FuncData}
/-- a row of a door, its judge and own data -/
def GoodAt (P : Program) (w : World) (K : PySem.W.Frag) (mg : Str → Option Value) (base : Heap) (H : Hp) (x : V) : Prop :=
  ∃ (p f1 f2 : Addr) (v : V) (d : Dt) (g : Dt → Bool), x = .ref p ∧ SqT K H p [.ref f1, .ref f2, v] ∧ Door P w K mg base 15 f1 g ∧ Door P w K mg base 15 f2 g ∧ Dc K H v d ∧ Own g d
theorem GoodAt.t {H H' : Hp} {x : V} (h : GoodAt P w K mg base H x) (t : TSame K H H') : GoodAt P w K mg base H' x := by
  obtain ⟨p, f1, f2, v, d, g, e, hs, a, b, dv, o⟩ := h
  exact ⟨p, f1, f2, v, d, g, e, t.t _ _ hs, a, b, Dc.fz t dv o.fz, o⟩
structure Goods (P : Program) (w : World) (K : PySem.W.Frag) (mg : Str → Option Value) (base : Heap) (H : Hp) (G : Addr) (us : List V) : Prop where
  lst : H G = some (.lst us)
  len : us.length = 6
  all : ∀ x ∈ us, GoodAt P w K mg base H x
theorem Goods.dr {a G : Addr} {m : Nat} {us : List V} {H H' : Hp} (h : Goods P w K mg base H G us) (d : Dr a H H') (t : Tin a m H) (n : G ≠ a) : Goods P w K mg base H' G us :=
  ⟨d.of h.lst n, h.len, fun x hx => (h.all x hx).t (d.t t)⟩
theorem src2_goods {G : Addr} {us : List V} : Src2 (Itl K G) (fun H' => Goods P w K mg base H' G us) us.length (fun i x H'' => GoodAt P w K mg base H'' x) where
  go i H' h hi := src2_list.go i H' (SqL.of h.lst) hi
  stop H' h := src2_list.stop H' (SqL.of h.lst)
  yld i H' x H'' h hi y := by
    obtain ⟨s, e⟩ := src2_list.yld i H' x H'' (SqL.of h.lst) hi y
    exact ⟨s, (h.all x (List.mem_of_getElem? e)).t (Same.tup s)⟩
/-- the target of both loops over the goods -/
def tGood (P : Program) (w : World) (K : PySem.W.Frag) (mg : Str → Option Value) (base : Heap) : Nat → V → Hp → L2.St → L2.St → Prop := fun _ _ H σ σ' =>
  ∃ (f1 f2 : Addr) (v : V) (d : Dt) (g : Dt → Bool), Door P w K mg base 15 f1 g ∧ Door P w K mg base 15 f2 g ∧ Dc K H v d ∧ Own g d ∧ σ' = ((σ.set 11 (some (.ref f1))).set 12 (some (.ref f2))).set 13 (some v)
theorem ht_good (i : Nat) (x : V) (σ : L2.St) (H : Hp) (Q : L2.St → Hp → Prop) (h : GoodAt P w K mg base H x) (q : ∀ σ', tGood P w K mg base i x H σ σ' → Q σ' H) : gTup K 3 (gCons (gName 11) (gCons (gName 12) (gCons (gName 13) gNil))) x σ H Q := by
  obtain ⟨p, f1, f2, v, d, g, rfl, hs, a, b, dv, o⟩ := h
  exact ⟨p, _, rfl, hs, rfl, _, [_, _], rfl, _, [_], rfl, _, [], rfl, rfl, q _ ⟨f1, f2, v, d, g, a, b, dv, o, rfl⟩⟩
/-- what is held through the lap -/
structure LapSt (K : PySem.W.Frag) (σ : L2.St) (H : Hp) (a : Addr) (m n : Nat) (ns : List Int) : Prop where
  len : σ.length = 17
  s0 : σ[0]? = some (some (.ref a))
  s1 : σ[1]? = some (some (.int (n : Int)))
  s2 : ∃ v, σ[2]? = some (some v) ∧ Dc K H v (tI ns)
  tin : Tin a m H
  n2 : 2 ≤ n ∧ n ≤ 7
  perm : ns.Perm ((List.range n).map fun (i : Nat) => (i : Int))
theorem LapSt.dr {σ σ' : L2.St} {H H' : Hp} {a : Addr} {m m' n : Nat} {ns : List Int} (h : LapSt K σ H a m n ns) (d : Dr a H H') (t : Tin a m' H') (hl : σ'.length = 17) (e : ∀ i, i ≤ 2 → σ'[i]? = σ[i]?) : LapSt K σ' H' a m' n ns := by
  obtain ⟨v, h2, dv⟩ := h.s2
  exact ⟨hl, by rw [e 0 (by decide)]; exact h.s0, by rw [e 1 (by decide)]; exact h.s1, ⟨v, by rw [e 2 (by decide)]; exact h2, Dc.fz (d.t h.tin) dv fz_tI⟩, t, h.n2, h.perm⟩
theorem LapSt.same {σ : L2.St} {H H' : Hp} {a : Addr} {m n : Nat} {ns : List Int} (h : LapSt K σ H a m n ns) (s : Same H H') : LapSt K σ H' a m n ns := h.dr (Dr.same s) (h.tin.same s) h.len fun _ _ => rfl
theorem shuf_own {n : Nat} {ns : List Int} (h2 : n ≤ 7) (h : ns.Perm ((List.range n).map fun (i : Nat) => (i : Int))) : Nice 7 (tI ns) ∧ Good 7 (tI ns) := by
  have hn : Nice 7 (tI ns) := by
    refine nice_up (nice_ints (n := 0) (by rw [h.length_eq]; simp; omega) fun i hi => ?_) (by decide)
    obtain ⟨k, hk, rfl⟩ := List.mem_map.mp (h.mem_iff.mp hi)
    have := List.mem_range.mp hk
    omega
  exact ⟨hn, nice_good hn⟩
section
variable {cdv : Value} {A : Around} {outer : List Env} {s : Shared} {H0 H : Hp} {E : XK} {Q : VK} {σ : L2.St} {a : Addr} {m n : Nat} {ns : List Int} {D : Ends}
/-- return _law_same(is_shuffle(things_so, shuffle_so), True) -/
theorem wb_lap11 (T : Tx mg) (Ws : Draws3 P w K mg base) (hr : Room 15 (A.deeper (PyProof.Rows.envOfC "_law_lap_one" (defScope s__law_lap_one) s.heap.objs.size f cdv))) (L : LapSt K σ H a m n ns) (q : ∀ H', Same H H' → D.rt (.bl true) H') :
    WB (cxOf CX0 P w K mg base n__law_lap_one "_law_lap_one" (defScope s__law_lap_one) f cdv A outer s H0 E).nox ((defBody s__law_lap_one).drop 11) D σ H := by
  obtain ⟨v, h2, dv⟩ := L.s2
  have gs := (shuf_own L.n2.2 L.perm).2
  refine wb_ret (Pd.run (Pd.is (pd_call Ws.same0 hr (pa_c (pd_call Ws.shuffle hr (pa_c (pd_v 1 L.s1 (.int (n : Int))) (pa_c (pd_v 2 h2 dv) pa_n)) ⟨_, _, rfl, n, rfl, L.n2.1, L.n2.2, gs.1, rfl⟩) (pa_c pd_bool pa_n)) ⟨_, _, rfl, _, true, rfl, rfl, rfl⟩) (congrArg PyData.bool (show (isShuf n (tI ns) == true) = true by rw [shuf_perm L.perm]; rfl))) fun v H1 s1 dv1 => ?_)
  cases dv1
  exact q H1 s1
/-- the odds -/
def oddsD : List Dt := [.none, .bool true, .int 0, .str "split", .tuple [], .tuple [], .tuple [.tuple []], .list [], .list [.list []], .tuple [.none], .str "", .tuple [.int 0, .tuple []], .tuple [.int 1, .tuple [.tuple [.int 1]]],
  .tuple [.tuple (List.replicate 7 (.int 0))], .tuple [.tuple (List.replicate 4 .none)], .tuple [.tuple (List.replicate 3 .none)]]
theorem odds_ok : ∀ d ∈ oddsD, sm d = true ∧ SeqAt.shaped d = true := by
  intro d hd
  simp only [oddsD, List.mem_cons, List.not_mem_nil, or_false] at hd
  rcases hd with rfl | rfl | rfl | rfl | rfl | rfl | rfl | rfl | rfl | rfl | rfl | rfl | rfl | rfl | rfl | rfl <;> exact ⟨by decide +kernel, by decide +kernel⟩
theorem bools_map {g : Dt → Bool} {ds : List Dt} : ds.map (fun d => PyData.bool (g d)) = (ds.map g).map PyData.bool := by rw [List.map_map]; rfl
/-- odds_so = [..]; for door, judge_so, own in goods_so: .. -/
theorem wb_lap9 (T : Tx mg) (Ws : Draws3 P w K mg base) (hr : Room 15 (A.deeper (PyProof.Rows.envOfC "_law_lap_one" (defScope s__law_lap_one) s.heap.objs.size f cdv))) (L : LapSt K σ H a m n ns) {G : Addr} {us : List V} (h10 : σ[10]? = some (some (.ref G))) (Gs : Goods P w K mg base H G us) (hG : G ≠ a) (q : ∀ H', Same H H' → D.rt (.bl true) H') :
    WB (cxOf CX0 P w K mg base n__law_lap_one "_law_lap_one" (defScope s__law_lap_one) f cdv A outer s H0 E).nox ((defBody s__law_lap_one).drop 9) D σ H := by
  refine wb_setD 15 (d := .list oddsD) (pd_lst (pa_c pd_none (pa_c pd_bool (pa_c pd_int (pa_c pd_str (pa_c (pd_tup pa_n) (pa_c (pd_tup pa_n) (pa_c (pd_tup (pa_c (pd_tup pa_n) pa_n)) (pa_c (pd_lst pa_n) (pa_c (pd_lst (pa_c (pd_lst pa_n) pa_n)) (pa_c (pd_tup (pa_c pd_none pa_n)) (pa_c pd_str
    (pa_c (pd_tup (pa_c pd_int (pa_c (pd_tup pa_n) pa_n))) (pa_c (pd_tup (pa_c pd_int (pa_c (pd_tup (pa_c (pd_tup (pa_c pd_int pa_n)) pa_n)) pa_n))) (pa_c (pd_tup (pa_c (pd_repT (pd_tup (pa_c pd_int pa_n)) pd_int (by simp) (by decide) (by decide) (by simp)) pa_n)) (pa_c (pd_tup (pa_c (pd_repT (pd_tup (pa_c pd_none pa_n)) pd_int (by simp) (by decide) (by decide) (by simp)) pa_n)) (pa_c (pd_tup (pa_c (pd_repT (pd_tup (pa_c pd_none pa_n)) pd_int (by simp) (by decide) (by decide) (by simp)) pa_n)) pa_n)))))))))))))))) (by decide)) (fun vo H1 s1 dvo => ?_) (by exact sc__law_lap_one.nd)
  have h10' : (σ.set 15 (some vo))[10]? = some (some (.ref G)) := by rw [List.getElem?_set_ne (by decide)]; exact h10
  have h15' : (σ.set 15 (some vo))[15]? = some (some vo) := List.getElem?_set_self (by rw [L.len]; decide)
  have L1 : LapSt K (σ.set 15 (some vo)) H1 a m n ns := L.dr (Dr.same s1) (L.tin.same s1) (by rw [List.length_set, L.len]) fun i hi => List.getElem?_set_ne (by omega)
  have G1 := Gs.dr (Dr.same s1) L.tin hG
  refine wb_forG (pi_list pe_w) (pg_tup rfl (pgs_cons (pg_name (i := 11) (by exact sc__law_lap_one.nd) rfl (by first | exact Or.inl rfl | exact Or.inr rfl)) (pgs_cons (pg_name (i := 12) (by exact sc__law_lap_one.nd) rfl (by first | exact Or.inl rfl | exact Or.inr rfl)) (pgs_cons (pg_name (i := 13) (by exact sc__law_lap_one.nd) rfl (by first | exact Or.inl rfl | exact Or.inr rfl)) pgs_nil)))) mono_list ?_
  refine we_of (pv 10) ⟨_, h10', G, rfl, ⟨_, SqL.of G1.lst⟩, us.length, (fun H' => Goods P w K mg base H' G us), (fun i x H'' => GoodAt P w K mg base H'' x), tGood P w K mg base, fun i σ' H' => LapSt K σ' H' a m n ns ∧ σ'[10]? = some (some (.ref G)) ∧ σ'[15]? = some (some vo) ∧ Same H1 H', src2_goods, ⟨L1, h10', h15', Same.refl _⟩, ht_good, ?_, ?_, ?_⟩
  · rintro i σ' H' ⟨L', _, _, s'⟩
    exact G1.dr (Dr.same s') L1.tin hG
  · rintro i x σ1 σ2 H2 H3 N hi ⟨L2, h10'', h15'', s2⟩ s3 _ ⟨f1, f2, v, d, g, D1, D2, dv, own, rfl⟩ hN
    have hl : (((σ1.set 11 (some (V.ref f1))).set 12 (some (V.ref f2))).set 13 (some v)).length = 17 := by rw [List.length_set, List.length_set, List.length_set, L2.len]
    have e : ∀ j, j ≠ 11 → j ≠ 12 → j ≠ 13 → (((σ1.set 11 (some (V.ref f1))).set 12 (some (V.ref f2))).set 13 (some v))[j]? = σ1[j]? := fun j h1 h2 h3 => by
      rw [List.getElem?_set_ne (Ne.symm h3), List.getElem?_set_ne (Ne.symm h2), List.getElem?_set_ne (Ne.symm h1)]
    have e11 : (((σ1.set 11 (some (V.ref f1))).set 12 (some (V.ref f2))).set 13 (some v))[11]? = some (some (.ref f1)) := by
      rw [List.getElem?_set_ne (by decide), List.getElem?_set_ne (by decide)]; exact List.getElem?_set_self (by rw [L2.len]; decide)
    have e12 : (((σ1.set 11 (some (V.ref f1))).set 12 (some (V.ref f2))).set 13 (some v))[12]? = some (some (.ref f2)) := by
      rw [List.getElem?_set_ne (by decide)]; exact List.getElem?_set_self (by rw [List.length_set, L2.len]; decide)
    generalize ((σ1.set 11 (some (V.ref f1))).set 12 (some (V.ref f2))).set 13 (some v) = σ3 at hl e e11 e12
    have dvo3 := Dc.kept (s2.trans s3) dvo
    have w11 : ∀ u : V, ((wipe σ3 [16]).set 16 (some u))[11]? = σ3[11]? := fun u => by
      show ((σ3.set 16 none).set 16 (some u))[11]? = σ3[11]?
      rw [List.getElem?_set_ne (by decide), List.getElem?_set_ne (by decide)]
    have w12 : ∀ u : V, ((wipe σ3 [16]).set 16 (some u))[12]? = σ3[12]? := fun u => by
      show ((σ3.set 16 none).set 16 (some u))[12]? = σ3[12]?
      rw [List.getElem?_set_ne (by decide), List.getElem?_set_ne (by decide)]
    have w16 : ∀ u : V, ((wipe σ3 [16]).set 16 (some u))[16]? = some (some u) := fun u => List.getElem?_set_self (by rw [wipe_length, hl]; decide)
    refine wb_whenD (k := !decide (oddsD.map g = oddsD.map g)) (pt_notD (pt_d (pd_call Ws.same1 hr (pa_c (Pd.is (pd_lcN 16 (fun d => .bool (g d)) rfl (by exact sc__law_lap_one.nd) (pi_list pe_w) (src_list (pd_v 15 ((e 15 (by decide) (by decide) (by decide)).trans h15'') dvo3)) (by decide) (fun s' H0' C cl fp i b u H' hb sm du => ?_) (fun _ _ => rfl)) (congrArg PyData.list bools_map))
      (pa_c (Pd.is (pd_lcN 16 (fun d => .bool (g d)) rfl (by exact sc__law_lap_one.nd) (pi_list pe_w) (src_list (pd_v 15 ((e 15 (by decide) (by decide) (by decide)).trans h15'') dvo3)) (by decide) (fun s' H0' C cl fp i b u H' hb sm du => ?_) (fun _ _ => rfl)) (congrArg PyData.list bools_map)) pa_n)) ⟨_, _, rfl, _, _, rfl, rfl, rfl, by rw [List.length_map]; decide, rfl⟩))) (fun h => by simp at h) fun _ H5 s5 => ?_
    · have ok := odds_ok b (List.mem_of_getElem? hb)
      exact pd_door 11 D1 hr (by decide) ((w11 u).trans e11) (pd_v 16 (w16 u) du) ok.1 ok.2
    · have ok := odds_ok b (List.mem_of_getElem? hb)
      exact pd_door 12 D2 hr (by decide) ((w12 u).trans e12) (pd_v 16 (w16 u) du) ok.1 ok.2
    · exact wb_nil (hN _ _ ⟨L2.dr (Dr.same (s3.trans s5)) (L2.tin.same (s3.trans s5)) hl fun i hi => e i (by omega) (by omega) (by omega), (e 10 (by decide) (by decide) (by decide)).trans h10'', (e 15 (by decide) (by decide) (by decide)).trans h15'', s2.trans (s3.trans s5)⟩)
  · rintro σ1 H2 ⟨L2, _, _, s2⟩
    exact wb_lap11 T Ws hr L2 fun H' s' => q H' (s1.trans (s2.trans s'))
end
end
end Sp
namespace Sp
open PySem L2
section
variable {P : Program} {w : World} {K : PySem.W.Frag} {mg : Str → Option Value} {base : Heap} {f : Addr} {fd : FuncData}
variable {cdv : Value} {A : Around} {outer : List Env} {s : Shared} {H0 H : Hp} {E : XK} {Q : VK} {σ : L2.St} {a : Addr} {m n : Nat} {ns : List Int} {D : Ends}
/-- for lap in range(6): bent shuffles -/
theorem wb_lap8 (T : Tx mg) (Ws : Draws3 P w K mg base) (hr : Room 15 (A.deeper (PyProof.Rows.envOfC "_law_lap_one" (defScope s__law_lap_one) s.heap.objs.size f cdv))) (L : LapSt K σ H a m n ns) (hm : m + 300 < lim) {G : Addr} {us : List V} (h10 : σ[10]? = some (some (.ref G))) (Gs : Goods P w K mg base H G us) (hG : G ≠ a) (q : ∀ H', Dr a H H' → Tin a (m + 150) H' → D.rt (.bl true) H') :
    WB (cxOf CX0 P w K mg base n__law_lap_one "_law_lap_one" (defScope s__law_lap_one) f cdv A outer s H0 E).nox ((defBody s__law_lap_one).drop 8) D σ H := by
  have hm : m + 300 < 1152921504606846976 := hm
  refine wb_forG (pi_range1 rfl T.range pa_w) (pg_name (i := 6) (by exact sc__law_lap_one.nd) rfl (Or.inl rfl)) mono_rng ?_
  refine wa_cons (we_of pe_int (wa_nil ⟨_, rfl, by decide, by decide, 6, fun _ => True, fun i x _ => x = .int (i : Int), sSet 6, fun i σ' H' => LapSt K σ' H' a (m + 24 * i) n ns ∧ σ'[10]? = some (some (.ref G)) ∧ Dr a H H',
    src2_rng, ⟨L, h10, Dr.refl⟩, hs_set, fun _ _ _ _ => trivial, ?_, ?_⟩)) rfl
  · rintro i x σ1 σ2 H2 H3 N hi ⟨L2, e10, d2⟩ s3 rfl rfl hN
    have L3 : LapSt K (σ1.set 6 (some (.int (i : Int)))) H3 a (m + 24 * i) n ns := L2.dr (Dr.same s3) (L2.tin.same s3) (by rw [List.length_set, L2.len]) fun j hj => List.getElem?_set_ne (by omega)
    have e10' : (σ1.set 6 (some (V.int (i : Int))))[10]? = some (some (.ref G)) := by rw [List.getElem?_set_ne (by decide)]; exact e10
    generalize σ1.set 6 (some (V.int (i : Int))) = σ2 at L3 e10'
    obtain ⟨v, h2, dv⟩ := L3.s2
    refine wb_set 14 (we_call Ws.bent hr (wa_cons (we_of (pv 0) ⟨_, L3.s0, wa_cons (we_of (pv 2) ⟨_, h2, wa_nil ?_⟩) rfl⟩) rfl)) (by exact sc__law_lap_one.nd)
    refine ⟨a, v, m + 24 * i, tI ns, rfl, L3.tin, by show m + 24 * i + 3 * (7 + 1) < 1152921504606846976; omega, dv, fz_tI, (shuf_own L3.n2.2 L3.perm).1, fun b y H4 d4 t4 dy gb => ?_⟩
    have L4 : LapSt K (σ2.set 14 (some y)) H4 a (m + 24 * i + 3 * (7 + 1)) n ns := L3.dr d4 t4 (by rw [List.length_set, L3.len]) fun j hj => List.getElem?_set_ne (by omega)
    have e10'' : (σ2.set 14 (some y))[10]? = some (some (.ref G)) := by rw [List.getElem?_set_ne (by decide)]; exact e10'
    have at14 : (σ2.set 14 (some y))[14]? = some (some y) := List.getElem?_set_self (by rw [L3.len]; decide)
    refine wb_whenD (k := !(isShuf n b == isShuf n b)) (pt_notD (pt_d (pd_call Ws.same0 hr (pa_c (pd_call Ws.shuffle hr (pa_c (pd_v 1 L4.s1 (.int (n : Int))) (pa_c (pd_v 14 at14 dy) pa_n)) ⟨_, _, rfl, n, rfl, L4.n2.1, L4.n2.2, gb.1, rfl⟩) (pa_c (Pd.is (pd_andb (pd_call Ws.row hr (pa_c (pd_v 14 at14 dy) pa_n) ⟨b, rfl, gb.1, gb.sh (by decide), rfl⟩) fun ha => pd_one ?_) (congrArg PyData.bool (isShuf_of (n := n) (t := b)).symm)) pa_n)) ⟨_, _, rfl, isShuf n b, isShuf n b, rfl, rfl, rfl⟩))) (fun h => by simp at h) fun _ H5 s5 => ?_
    · rw [areNums_map ha] at dy
      have hn7 := L4.n2.2
      exact pd_eqD hr.units (pd_sortedT T.sorted (pd_v 14 at14 dy)) (Pd.is (pd_listRg rfl T.range T.list (pd_v 1 L4.s1 (.int (n : Int))) (by omega) (by omega)) (by simp)) sh_listI (by rw [rngD_nums]; exact sh_listI)
    · have L5 := L4.same s5
      exact wb_nil (hN _ _ ⟨L5.dr Dr.refl (L5.tin.le (by omega)) L5.len fun _ _ => rfl, e10'', (d2.trans (Dr.same s3)).trans (d4.trans (Dr.same s5))⟩)
  · rintro σ1 H2 ⟨L2, e10, d2⟩
    exact wb_lap9 T Ws hr L2 e10 (Gs.dr d2 L.tin hG) hG fun H' s' => q H' (d2.trans (Dr.same s')) ((L2.tin.same s').le (by omega))
/-- for door, judge_so, own in goods_so: the bent ones -/
theorem wb_lap7 (T : Tx mg) (Ws : Draws3 P w K mg base) (hr : Room 15 (A.deeper (PyProof.Rows.envOfC "_law_lap_one" (defScope s__law_lap_one) s.heap.objs.size f cdv))) (L : LapSt K σ H a m n ns) (hm : m + 2000 < lim) {G : Addr} {us : List V} (h10 : σ[10]? = some (some (.ref G))) (Gs : Goods P w K mg base H G us) (hG : G ≠ a) (q : ∀ H', Dr a H H' → Tin a (m + 1600) H' → D.rt (.bl true) H') :
    WB (cxOf CX0 P w K mg base n__law_lap_one "_law_lap_one" (defScope s__law_lap_one) f cdv A outer s H0 E).nox ((defBody s__law_lap_one).drop 7) D σ H := by
  have hm : m + 2000 < 1152921504606846976 := hm
  refine wb_forG (pi_list pe_w) (pg_tup rfl (pgs_cons (pg_name (i := 11) (by exact sc__law_lap_one.nd) rfl (by first | exact Or.inl rfl | exact Or.inr rfl)) (pgs_cons (pg_name (i := 12) (by exact sc__law_lap_one.nd) rfl (by first | exact Or.inl rfl | exact Or.inr rfl)) (pgs_cons (pg_name (i := 13) (by exact sc__law_lap_one.nd) rfl (by first | exact Or.inl rfl | exact Or.inr rfl)) pgs_nil)))) mono_list ?_
  refine we_of (pv 10) ⟨_, h10, G, rfl, ⟨_, SqL.of Gs.lst⟩, us.length, (fun H' => Goods P w K mg base H' G us), (fun i x H'' => GoodAt P w K mg base H'' x), tGood P w K mg base, fun i σ' H' => LapSt K σ' H' a (m + 240 * i) n ns ∧ σ'[10]? = some (some (.ref G)) ∧ Dr a H H', src2_goods, ⟨L, h10, Dr.refl⟩, ht_good, ?_, ?_, ?_⟩
  · rintro i σ' H' ⟨L', _, d'⟩
    exact Gs.dr d' L.tin hG
  · rintro i x σ1 σ2 H2 H3 N hi ⟨L2, h10'', d2⟩ s3 _ ⟨f1, f2, v, d, g, D1, D2, dv, own, rfl⟩ hN
    have hi6 : i < 6 := by rw [← Gs.len]; exact hi
    have hl : (((σ1.set 11 (some (V.ref f1))).set 12 (some (V.ref f2))).set 13 (some v)).length = 17 := by rw [List.length_set, List.length_set, List.length_set, L2.len]
    have e : ∀ j, j ≠ 11 → j ≠ 12 → j ≠ 13 → (((σ1.set 11 (some (V.ref f1))).set 12 (some (V.ref f2))).set 13 (some v))[j]? = σ1[j]? := fun j h1 h2 h3 => by
      rw [List.getElem?_set_ne (Ne.symm h3), List.getElem?_set_ne (Ne.symm h2), List.getElem?_set_ne (Ne.symm h1)]
    have e11 : (((σ1.set 11 (some (V.ref f1))).set 12 (some (V.ref f2))).set 13 (some v))[11]? = some (some (.ref f1)) := by
      rw [List.getElem?_set_ne (by decide), List.getElem?_set_ne (by decide)]; exact List.getElem?_set_self (by rw [L2.len]; decide)
    have e12 : (((σ1.set 11 (some (V.ref f1))).set 12 (some (V.ref f2))).set 13 (some v))[12]? = some (some (.ref f2)) := by
      rw [List.getElem?_set_ne (by decide)]; exact List.getElem?_set_self (by rw [List.length_set, L2.len]; decide)
    have e13 : (((σ1.set 11 (some (V.ref f1))).set 12 (some (V.ref f2))).set 13 (some v))[13]? = some (some v) := List.getElem?_set_self (by rw [List.length_set, List.length_set, L2.len]; decide)
    generalize ((σ1.set 11 (some (V.ref f1))).set 12 (some (V.ref f2))).set 13 (some v) = σ3 at hl e e11 e12 e13
    have L3 : LapSt K σ3 H3 a (m + 240 * i) n ns := L2.dr (Dr.same s3) (L2.tin.same s3) hl fun j hj => e j (by omega) (by omega) (by omega)
    refine wb_goods T hr Ws.same0 Ws.bent D1 D2 (by decide) (by decide) hl L3.s0 e11 e12 e13 L3.tin (by show m + 240 * i + 300 < 1152921504606846976; omega) dv own fun σ' H' e' l' d' t' => ?_
    refine hN σ' H' ⟨L3.dr d' (t'.le (by omega)) l' fun j hj => e' j (by omega) (by omega), ?_, (d2.trans (Dr.same s3)).trans d'⟩
    rw [e' 10 (by decide) (by decide), e 10 (by decide) (by decide) (by decide)]
    exact h10''
  · rintro σ1 H2 ⟨L2, h10'', d2⟩
    have e6 := Gs.len
    rw [e6] at L2
    exact wb_lap8 T Ws hr L2 (by show m + 240 * 6 + 300 < 1152921504606846976; omega) h10'' (Gs.dr d2 L.tin hG) hG fun H' d' t' => q H' (d2.trans d') (t'.le (by omega))
end
end Sp
namespace Sp
open PySem L2
section
variable {P : Program} {w : World} {K : PySem.W.Frag} {mg : Str → Option Value} {base : Heap} {f : Addr} {fd : FuncData}
theorem Own.le {g : Dt → Bool} {d : Dt} {k : Nat} (hf : L2.fz d = true) (hn : Nice k d) (hk : k ≤ 7) (h : g d = true) : Own g d := ⟨hf, nice_up hn hk, h⟩
/-- (door, judge, own) -/
theorem we_good {X : Cx} {σ : L2.St} {H : Hp} {x y : Str} {p1 p2 pos : Pos} {k : Nat} {own : Expr} {a : Addr} {m : Nat} {g : Dt → Bool} {Q : VK} (ht : Tin a m H)
    (D : ∃ u v, X.mg x = some (.ref u) ∧ X.mg y = some (.ref v) ∧ Door X.prog X.w X.K X.mg X.base 15 u g ∧ Door X.prog X.w X.K X.mg X.base 15 v g)
    (h : WE X own σ H fun v H1 => ∃ d m1, Dr a H H1 ∧ Tin a m1 H1 ∧ Dc X.K H1 v d ∧ Own g d ∧ ∀ p H2, Dr a H H2 → Tin a m1 H2 → GoodAt X.prog X.w X.K X.mg X.base H2 (.ref p) → Q (.ref p) H2)
    (hg1 : Gl X x := by rfl) (hg2 : Gl X y := by rfl) (hd1 : (x == ("__debug__" : Str)) = false := by decide) (hd2 : (y == ("__debug__" : Str)) = false := by decide)
    (he1 : starEach [.Name x p1, .Name y p2, own] X.env = (false, eval (.Name x p1) X.env) :: starEach [.Name y p2, own] X.env := by rfl) (he2 : starEach [.Name y p2, own] X.env = (false, eval (.Name y p2) X.env) :: starEach [own] X.env := by rfl) (he3 : starEach [own] X.env = (false, eval own X.env) :: starEach [] X.env := by rfl) :
    WE X (.Tuple [.Name x p1, .Name y p2, own] k pos) σ H Q := by
  obtain ⟨u, v, hx, hy, D1, D2⟩ := D
  refine we_of (pe_tup (pa_cons (pe_glob hg1 hx (show RelV (.ref u) (.ref u) from rfl) hd1) (pa_cons (pe_glob hg2 hy (show RelV (.ref v) (.ref v) from rfl) hd2) (pa_cons pe_w pa_nil he3) he2) he1)) (WE.mono h fun z H1 ⟨d, m1, d1, t1, dz, o, q⟩ => ⟨(by decide : 3 ≤ sizeLine), fun p hp => ?_⟩)
  exact q p _ (d1.trans (Dr.same (Same.new hp))) (t1.same (Same.new hp)) ⟨p, u, v, z, d, g, rfl, SqT.of upd_same, D1, D2, Dc.kept (Same.new hp) dz, o⟩
variable {cdv : Value} {A : Around} {outer : List Env} {s : Shared} {H0 H : Hp} {E : XK} {Q : VK} {σ : L2.St} {a : Addr} {m n : Nat} {ns : List Int} {D : Ends}
/-- goods_so = [..] -/
theorem wb_lap6 (T : Tx mg) (Ws : Draws3 P w K mg base) (Do : Doors P w K mg base) (hr : Room 15 (A.deeper (PyProof.Rows.envOfC "_law_lap_one" (defScope s__law_lap_one) s.heap.objs.size f cdv))) (L : LapSt K σ H a m n ns) (hm : m + 3000 < lim)
    {vm vg vd : V} {dm dg dd : Dt} (h3 : σ[3]? = some (some vm)) (h5 : σ[5]? = some (some vg)) (h7 : σ[7]? = some (some vd)) (dvm : Dc K H vm dm) (dvg : Dc K H vg dg) (dvd : Dc K H vd dd) (om : Own isMove dm) (og : Own isGiven dg) (od : Own isDiscs dd) (q : ∀ H', Dr a H H' → Tin a (m + 2500) H' → D.rt (.bl true) H') :
    WB (cxOf CX0 P w K mg base n__law_lap_one "_law_lap_one" (defScope s__law_lap_one) f cdv A outer s H0 E).nox ((defBody s__law_lap_one).drop 6) D σ H := by
  have hm : m + 3000 < 1152921504606846976 := hm
  have lt : ∀ k, k ≤ 3000 → m + k < lim := fun k hk => by show m + k < 1152921504606846976; omega
  refine wb_set 10 (we_of (pe_lst pa_w) (wa_cons (we_good L.tin Do.space ?_) rfl)) (by exact sc__law_lap_one.nd)
  refine we_call Ws.loose hr (wa_cons (we_of (pv 0) ⟨_, L.s0, wa_cons (we_of pe_int (wa_nil ?_)) rfl⟩) rfl)
  refine ⟨a, m, rfl, L.tin, lt 100 (by decide), fun ds vs H1 d1 t1 dvs fs gs ns' => ⟨ds, _, d1, t1, dvs, Own.le fs ns' (by decide) gs, fun p1 H2 d2 t2 g1 => ?_⟩⟩
  have dvm2 := Dc.fz (d2.t L.tin) dvm om.fz
  refine wa_cons (we_good t2 Do.move (we_of (pv 3) ⟨_, h3, dm, _, Dr.refl, t2, dvm2, om, fun p2 H3 d3 t3 g2 => ?_⟩)) rfl
  refine wa_cons (we_good t3 Do.table ?_) rfl
  refine we_call Ws.table hr (wa_cons (we_of (pv 0) ⟨_, L.s0, wa_cons (we_of pe_int (wa_nil ?_)) rfl⟩) rfl)
  refine ⟨a, m + 100, rfl, t3, lt 200 (by decide), fun dt vt H4 d4 t4 dvt ft gt nt => ⟨dt, _, d4, t4, dvt, Own.le ft nt (by decide) gt, fun p3 H5 d5 t5 g3 => ?_⟩⟩
  have d05 := (d2.trans d3).trans d5
  have dvg5 := Dc.fz (d05.t L.tin) dvg og.fz
  refine wa_cons (we_good t5 Do.given (we_of (pv 5) ⟨_, h5, dg, _, Dr.refl, t5, dvg5, og, fun p4 H6 d6 t6 g4 => ?_⟩)) rfl
  have dvd6 := Dc.fz ((d05.trans d6).t L.tin) dvd od.fz
  refine wa_cons (we_good t6 Do.discs (we_of (pv 7) ⟨_, h7, dd, _, Dr.refl, t6, dvd6, od, fun p5 H7 d7 t7 g5 => ?_⟩)) rfl
  refine wa_cons (we_good t7 Do.surface ?_) rfl
  refine we_call Ws.surface hr (wa_cons (we_of (pv 0) ⟨_, L.s0, wa_nil ?_⟩) rfl)
  refine ⟨a, m + 100 + 100, rfl, t7, lt 400 (by decide), fun du vu H8 d8 t8 dvu fu gu nu => ⟨du, _, d8, t8, dvu, Own.le fu nu (by decide) gu, fun p6 H9 d9 t9 g6 => wa_nil ⟨(by decide : 6 ≤ sizeLine), fun G hG => ?_⟩⟩⟩
  have hGa : G ≠ a := t9.ne hG
  have d09 := ((d05.trans d6).trans d7).trans d9
  have sG : Same H9 (upd H9 G (.lst [.ref p1, .ref p2, .ref p3, .ref p4, .ref p5, .ref p6])) := Same.new hG
  have Gs : Goods P w K mg base (upd H9 G (.lst [.ref p1, .ref p2, .ref p3, .ref p4, .ref p5, .ref p6])) G [.ref p1, .ref p2, .ref p3, .ref p4, .ref p5, .ref p6] := by
    refine ⟨upd_same, rfl, fun x hx => ?_⟩
    have e9 := (Same.tup (K := K) sG)
    have e7 := (d9.t (K := K) t7).trans e9
    have e6 := (d7.t (K := K) t6).trans e7
    have e5 := (d6.t (K := K) t5).trans e6
    have e3 := (d5.t (K := K) t3).trans e5
    have e2 := (d3.t (K := K) t2).trans e3
    simp only [List.mem_cons, List.not_mem_nil, or_false] at hx
    rcases hx with rfl | rfl | rfl | rfl | rfl | rfl
    · exact g1.t e2
    · exact g2.t e3
    · exact g3.t e5
    · exact g4.t e6
    · exact g5.t e7
    · exact g6.t e9
  have L9 : LapSt K (σ.set 10 (some (.ref G))) (upd H9 G (.lst [.ref p1, .ref p2, .ref p3, .ref p4, .ref p5, .ref p6])) a (m + 100 + 100 + 200) n ns := L.dr (d09.trans (Dr.same sG)) (t9.same sG) (by rw [List.length_set, L.len]) fun i hi => List.getElem?_set_ne (by omega)
  exact wb_lap7 T Ws hr L9 (by show m + 100 + 100 + 200 + 2000 < 1152921504606846976; omega) (List.getElem?_set_self (by rw [L.len]; decide)) Gs hGa fun H' d' t' => q H' ((d09.trans (Dr.same sG)).trans d') (t'.le (by omega))
/-- discs_so = .. -/
theorem wb_lap5 (T : Tx mg) (Ws : Draws3 P w K mg base) (Do : Doors P w K mg base) (hr : Room 15 (A.deeper (PyProof.Rows.envOfC "_law_lap_one" (defScope s__law_lap_one) s.heap.objs.size f cdv))) (L : LapSt K σ H a m n ns) (hm : m + 3200 < lim)
    {vm vg : V} {dm dg : Dt} (h3 : σ[3]? = some (some vm)) (h5 : σ[5]? = some (some vg)) (dvm : Dc K H vm dm) (dvg : Dc K H vg dg) (om : Own isMove dm) (og : Own isGiven dg) (q : ∀ H', Dr a H H' → Tin a (m + 2600) H' → D.rt (.bl true) H') :
    WB (cxOf CX0 P w K mg base n__law_lap_one "_law_lap_one" (defScope s__law_lap_one) f cdv A outer s H0 E).nox ((defBody s__law_lap_one).drop 5) D σ H := by
  have hm : m + 3200 < 1152921504606846976 := hm
  have lt : ∀ k, k ≤ 3200 → m + k < lim := fun k hk => by show m + k < 1152921504606846976; omega
  have w8 : ∀ (u : V), ((wipe σ [8]).set 8 (some u))[0]? = σ[0]? := fun u => by
    show ((σ.set 8 none).set 8 (some u))[0]? = σ[0]?
    rw [List.getElem?_set_ne (by decide), List.getElem?_set_ne (by decide)]
  have w9 : ∀ (τ : L2.St) (u : V), ((wipe τ [9]).set 9 (some u))[0]? = τ[0]? := fun τ u => by
    show ((τ.set 9 none).set 9 (some u))[0]? = τ[0]?
    rw [List.getElem?_set_ne (by decide), List.getElem?_set_ne (by decide)]
  refine wb_set 7 (we_tupF T.tuple (we_lcD 8 rfl (by exact sc__law_lap_one.nd) (pi_range1 rfl T.range pa_w) (we_of (pe_op op_add pe_int pe_w) ?_))) (by exact sc__law_lap_one.nd)
  refine we_take 0 Ws.take hr L.s0 (we_of pe_int ⟨3, m, rfl, ⟨by decide, by decide⟩, L.tin, lt 0 (by decide), fun r H1 hr1 d1 t1 => ⟨1, (r : Int), rfl, rfl, ?_⟩⟩)
  refine ⟨1 + r, a, m + 1, 8, fun d => ∃ ns : List Int, d = tI ns ∧ (ns.length = 7 ∧ ∀ i ∈ ns, 0 ≤ i ∧ i ≤ 1000000), by congr 1, by omega, t1, ?_, ?_⟩
  · intro s' H0' C cl fp k H2 hk d2 t2 Q2 q2
    refine we_tupF T.tuple (we_lcD 9 rfl (by exact sc__law_lap_one.nd) (pi_range1 rfl T.range pa_w) (we_of pe_int ⟨7, a, m + 1 + 8 * k, 1, fun d => ∃ i : Int, d = .int i ∧ (0 ≤ i ∧ i ≤ 1000000), rfl, by decide, t2, ?_, ?_⟩))
    · intro s2 H02 C2 cl2 fp2 k2 H3 hk2 d3 t3 Q3 q3
      refine we_ofF (ds := [.int 0, .int 1, .int 1000000]) 0 Ws.of hr ((w9 _ _).trans ((w8 _).trans L.s0)) t3 (by show _ < 1152921504606846976; omega) (pa_c pd_int (pa_c pd_int (pa_c (pd_pow pd_int pd_int (by unfold CPow; decide)) pa_n))) (by decide) (by decide) fun d y H4 hd d4 t4 dy => ?_
      simp only [List.mem_cons, List.not_mem_nil, or_false] at hd
      refine q3 d y H4 d4 (t4.le (by omega)) dy (by rcases hd with rfl | rfl | rfl <;> rfl) ?_
      rcases hd with rfl | rfl | rfl
      · exact ⟨0, rfl, by decide⟩
      · exact ⟨1, rfl, by decide⟩
      · exact ⟨1000000, rfl, by decide⟩
    · intro l ds vs H3 d3 t3 hl hla hv dv hf hlen hall
      obtain ⟨is, rfl, his⟩ := nums_ex hall
      refine ⟨l, vs, _, rfl, hv, dv, fun u H4 s4 du => ?_⟩
      exact q2 (tI is) u H4 (d3.trans (Dr.same s4)) ((t3.same s4).le (by omega)) du fz_tI ⟨is, rfl, by rw [List.length_map] at hlen; exact hlen, his⟩
  · intro l ds vs H2 d2 t2 hl hla hv dv hf hlen hall
    obtain ⟨rows, rfl, hrows⟩ := words_ex hall
    rw [List.length_map] at hlen
    refine ⟨l, vs, _, rfl, hv, dv, fun u H3 s3 du => ?_⟩
    have d3 := (d1.trans d2).trans (Dr.same s3)
    have t3 : Tin a (m + 25) H3 := (t2.same s3).le (by omega)
    refine wb_lap6 T Ws Do hr (L.dr d3 t3 (by rw [List.length_set, L.len]) fun i hi => List.getElem?_set_ne (by omega)) (by show m + 25 + 3000 < 1152921504606846976; omega) (by rw [List.getElem?_set_ne (by decide)]; exact h3) (by rw [List.getElem?_set_ne (by decide)]; exact h5) (List.getElem?_set_self (by rw [L.len]; decide))
      (Dc.fz (d3.t L.tin) dvm om.fz) (Dc.fz (d3.t L.tin) dvg og.fz) du om og (discs_own (by omega) (by omega) hrows) fun H' d' t' => q H' (d3.trans d') (t'.le (by omega))
end
end Sp
namespace Sp
open PySem L2
section
variable {P : Program} {w : World} {K : PySem.W.Frag} {mg : Str → Option Value} {base : Heap} {f : Addr} {fd : FuncData}
theorem ok_law_lap_one (F : Fun K "_law_lap_one" "_law_lap_one" s__law_lap_one f fd) (T : Tx mg) (Ws : Draws3 P w K mg base) (Do : Doors P w K mg base) : FnOk P w K mg base CX0 16 f fd ["tin"] sp_lap := by
  refine fn_s F sc__law_lap_one (fun vs H Q E h => by obtain ⟨_, _, rfl, _⟩ := h; rfl) fun cdv A outer s H vs Q E hr h => ?_
  obtain ⟨a, m, rfl, ht, hm, q⟩ := h
  have hm : m + 5000 < 1152921504606846976 := hm
  -- things
  refine wb_set 1 (we_of (pe_op op_add pe_int pe_w) ?_) (by exact sc__law_lap_one.nd)
  refine we_take 0 Ws.take hr rfl (we_of pe_int ⟨6, m, rfl, ⟨by decide, by decide⟩, ht, by show m < 1152921504606846976; omega, fun r1 H1 hr1 d1 t1 => ?_⟩)
  refine ⟨2, (r1 : Int), rfl, rfl, ?_⟩
  obtain ⟨n, en, hn2, hn7⟩ : ∃ n : Nat, (2 : Int) + r1 = (n : Int) ∧ 2 ≤ n ∧ n ≤ 7 := ⟨2 + r1, by omega, by omega, by omega⟩
  change WB _ _ _ (List.set _ 1 (some (V.int ((2 : Int) + (r1 : Int))))) _
  rw [en]
  -- shuffle
  refine wb_set 2 (we_tupF T.tuple (we_call Ws.pick hr (wa_cons (we_of (pv 0) ⟨_, rfl, wa_cons ?_ rfl⟩) rfl))) (by exact sc__law_lap_one.nd)
  refine we_of (pe_listRg rfl rfl T.list (prg_1 rfl T.range pe_w)) (we_of (pv 1) ⟨_, rfl, (n : Int), rfl, RgOk.of_le (by omega) (by omega) (by omega) (by omega), fun l hl => wa_cons (we_of (pv 1) ⟨_, rfl, wa_nil ?_⟩) rfl⟩)
  have hla : l ≠ a := t1.ne hl
  have s2 : Same H1 (upd H1 l (.lst (rgV 0 (n : Int)))) := Same.new hl
  have e2 : rgV 0 (n : Int) = ((List.range n).map fun (i : Nat) => (i : Int)).map V.int := by simp [rgV]
  have hl2 : upd H1 l (.lst (rgV 0 (n : Int))) l = some (.lst (rgV 0 (n : Int))) := upd_same
  generalize upd H1 l (.lst (rgV 0 (n : Int))) = H2 at s2 hl2
  refine ⟨a, l, _, m + 1, n, rfl, hla, t1.same s2, by show _ < 1152921504606846976; omega, hl2, by rw [rgV_length]; omega, fun l3 us rest H3 d3 t3 hl3 hv3 hperm hlen => ?_⟩
  have hul : us.length = n := by rw [hlen, rgV_length]; omega
  have hrest : rest = [] := by
    have := hperm.length_eq
    rw [List.length_append, hul, rgV_length] at this
    exact List.eq_nil_of_length_eq_zero (by omega)
  rw [hrest, List.append_nil, e2] at hperm
  obtain ⟨ns, ens, hpn⟩ : ∃ ns : List Int, us = ns.map V.int ∧ ns.Perm ((List.range n).map fun (i : Nat) => (i : Int)) := by
    exact perm_ints hperm rfl
  subst ens
  refine ⟨l3, _, ns.map .int, rfl, hv3, ints_dp, fun vsh H4 s4 dsh => ?_⟩
  have dsh : Dc K H4 vsh (tI ns) := dsh
  have d04 : Dr a H H4 := (d1.trans (Dr.same s2)).trans (d3.trans (Dr.same s4))
  have t4 : Tin a (m + 10) H4 := (t3.same s4).le (by omega)
  -- moves
  refine wb_set 3 (we_ofF (ds := movesD) 0 Ws.of hr rfl t4 (by show m + 10 < 1152921504606846976; omega)
    (pa_c (pd_tup (pa_c pd_str (pa_c pd_int pa_n))) (pa_c (pd_tup (pa_c pd_str (pa_c pd_int (pa_c pd_int pa_n)))) (pa_c (pd_tup (pa_c pd_str (pa_c pd_int (pa_c pd_int pa_n)))) (pa_c (pd_tup (pa_c pd_str (pa_c pd_int (pa_c pd_int (pa_c pd_int pa_n))))) pa_n))))
    (by decide) (by decide +kernel) fun dm vm H5 hdm d5 t5 dvm => ?_) (by exact sc__law_lap_one.nd)
  have om := moves_own dm hdm
  have d05 := d04.trans d5
  have dsh5 : Dc K H5 vsh (tI ns) := Dc.fz (d5.t t4) dsh fz_tI
  -- many
  refine wb_set 4 (we_take 0 Ws.take hr rfl (we_of pe_int ⟨4, m + 11, rfl, ⟨by decide, by decide⟩, t5, by show m + 11 < 1152921504606846976; omega, fun many H6 hmy d6 t6 => ?_⟩)) (by exact sc__law_lap_one.nd)
  have d06 := d05.trans d6
  have dsh6 : Dc K H6 vsh (tI ns) := Dc.fz (d6.t t5) dsh5 fz_tI
  have dvm6 : Dc K H6 vm dm := Dc.fz (d6.t t5) dvm om.fz
  -- given
  have hgiven : ∀ (Q1 : VK), (∀ dg vg H7, Own isGiven dg → Dr a H6 H7 → Tin a (m + 60) H7 → Dc K H7 vg dg → Q1 vg H7) → WE (cxOf CX0 P w K mg base n__law_lap_one "_law_lap_one" (defScope s__law_lap_one) f cdv A outer s H E).nox (match lapSt 4 with | .Assign _ e _ => e | _ => .Constant .none 0 ⟨0, 0, 0, 0⟩)
      [some (.ref a), some (.int (n : Int)), some vsh, some vm, some (.int (many : Int)), none, none, none, none, none, none, none, none, none, none, none, none] H6 Q1 := by
    intro Q1 q1
    refine we_of (pe_tupF (pa_cons (pv 4) (pa_cons pe_w pa_nil))) ⟨_, rfl, we_tupF T.tuple (we_of (pe_ifExp pt_w pe_w pe_w) (Pt.run (pt_gt (pd_v 4 rfl (.int (many : Int))) pd_int) fun H7 s7 => ?_))⟩
    have fin : ∀ (ws : List (List Int)) (l : Addr) (us : List V) H8, Dr a H6 H8 → Tin a (m + 60) H8 → H8 l = some (.lst us) → DcAll K H8 us (ws.map tI) → ws.length ≤ 10 → (∀ ns ∈ ws, ns.length ≤ 10 ∧ ∀ i ∈ ns, 1 ≤ absI i ∧ absI i ≤ many) →
        ∃ l' us' ds, V.ref l = .ref l' ∧ H8 l' = some (.lst us') ∧ DcAll K H8 us' ds ∧ ∀ u H9, Same H8 H9 → Dc K H9 u (.tuple ds) → (2 ≤ sizeLine ∧ NewT Q1 H9 [.int (many : Int), u]) := fun ws l us H8 d8 t8 hl hd h1 h2 => by
      refine ⟨l, us, ws.map tI, rfl, hl, hd, fun u H9 s9 du => ⟨by decide, fun p o hp ho => q1 _ _ _ (given_own (by omega) h1 h2) (d8.trans (Dr.same (s9.trans (Same.new hp)))) (t8.same (s9.trans (Same.new hp))) (.tup (SqU.two (.inl (.inr ⟨o, upd_same⟩))) (.cons (.int _) (.one (Dc.kept (Same.new hp) du))))⟩⟩
    cases hgt : decide ((0 : Int) < (many : Int)) with
    | false =>
      rw [if_neg (by decide)]
      exact we_lstF (pa_c (pd_tup pa_n) pa_n) (by decide) fun l us H8 s8 _ hu du => fin [[]] l us H8 (Dr.same (s7.trans s8)) (((t6.same s7).same s8).le (by omega)) hu du (by decide) fun ns hns => by
        cases hns with
        | head => exact ⟨by decide, fun _ h => by cases h⟩
        | tail _ h => cases h
    | true =>
      rw [if_pos rfl]
      have hmany : 1 ≤ many := by have := of_decide_eq_true hgt; omega
      refine we_lcD 6 rfl (by exact sc__law_lap_one.nd) (pi_range1 rfl T.range pa_w) ?_
      refine we_take 0 Ws.take hr rfl (we_of pe_int ⟨3, m + 12, rfl, ⟨by decide, by decide⟩, t6.same s7, by show m + 12 < 1152921504606846976; omega, fun nl H8 hnl d8 t8 => ?_⟩)
      refine ⟨nl, a, m + 13, 9, fun d => ∃ ns : List Int, d = tI ns ∧ (ns.length ≤ 10 ∧ ∀ i ∈ ns, 1 ≤ absI i ∧ absI i ≤ many), rfl, by omega, t8, ?_, ?_⟩
      · intro s' H0 C cl fp k H9 hk d9 t9 Q9 q9
        refine we_call Ws.word hr (wa_cons (we_of (pv 0) ⟨_, rfl, wa_cons (we_of (pv 4) ⟨_, rfl, wa_cons (we_of pe_int (wa_nil ?_)) rfl⟩) rfl⟩) rfl)
        refine ⟨a, m + 13 + 9 * k, many, 4, rfl, ⟨by omega, by omega, by decide⟩, t9, by show _ < 1152921504606846976; omega, fun ns v H10 d10 t10 dv hl hall => ?_⟩
        exact q9 (tI ns) v H10 d10 (t10.le (by omega)) dv fz_tI ⟨ns, rfl, by omega, hall⟩
      · intro l ds vs H9 d9 t9 hl hla hv dv hf hlen hall
        obtain ⟨ws, rfl, hws⟩ := words_ex hall
        exact fin ws l vs H9 ((Dr.same s7).trans (d8.trans d9)) (t9.le (by omega)) hv dv (by rw [List.length_map] at hlen; omega) hws
  refine wb_set 5 (hgiven _ fun dg vg H7 og d7 t7 dvg => ?_) (by exact sc__law_lap_one.nd)
  have d07 := d06.trans d7
  have dsh7 : Dc K H7 vsh (tI ns) := Dc.fz (d7.t t6) dsh6 fz_tI
  have dvm7 : Dc K H7 vm dm := Dc.fz (d7.t t6) dvm6 om.fz
  exact wb_lap5 T Ws Do hr (a := a) (m := m + 60) (n := n) (ns := ns) ⟨rfl, rfl, rfl, ⟨vsh, rfl, dsh7⟩, t7, ⟨hn2, hn7⟩, hpn⟩ (by show m + 60 + 3200 < 1152921504606846976; omega) rfl rfl dvm7 dvg om og fun H' d' t' => q H' (d07.trans d') (t'.le (by omega))
end
end Sp
namespace Sp
open PySem L2
section
variable {P : Program} {w : World} {K : PySem.W.Frag} {mg : Str → Option Value} {base : Heap} {f : Addr} {fd : FuncData}
def sp_law (K : PySem.W.Frag) : Sp := fun vs H Q _ => ∃ (a : Addr) (ns : List Int), vs = [.ref a] ∧ SqL K H a (ns.map V.int) ∧ ns.length ≤ 63 ∧ ∀ H', Q (.bl true) H'
theorem ok_law (F : Fun K "law" "law" s_law f fd) (T : Tx mg) (Bx : Ds P w K mg base 1 "_law_box" sp_box) (Cl : Ds P w K mg base 1 "_law_cells" (sp_cells K)) (Lp : Ds P w K mg base 16 "_law_lap_one" sp_lap) (Sm : Df P w K mg base 2 "_law_same" R_same1)
    (Ft : Df P w K mg base 4 "is_table" R_is_table) (Fs : Df P w K mg base 6 "is_space" R_is_space) (Fd : Df P w K mg base 3 "are_discs" R_are_discs) (Fg : Df P w K mg base 5 "is_given" R_is_given) (Fm : Df P w K mg base 4 "is_move" R_is_move) : FnOk P w K mg base CX0 17 f fd ["script"] (sp_law K) := by
  refine fn_s F sc_law (fun vs H Q E h => by obtain ⟨_, _, rfl, _⟩ := h; rfl) fun cdv A outer s H vs Q E hr h => ?_
  obtain ⟨a, ns, rfl, hS, hlen, q⟩ := h
  refine wb_set 1 (we_call Bx hr (wa_cons (we_call Cl hr (wa_cons (we_of (pv 0) ⟨_, rfl, wa_cons (we_of pe_int (wa_nil ⟨a, ns, rfl, hS, by omega, fun b ms H1 s1 hb hb1 hm => wa_cons (we_of pe_int (wa_nil ⟨b, ms, rfl, hb1, hm, fun t H2 s2 ht tt => ?_⟩)) rfl⟩)) rfl⟩) rfl)) rfl)) (by exact sc_law.nd)
  refine wb_forG (pi_range1 rfl T.range pa_w) (pg_name (i := 2) (by exact sc_law.nd) rfl (Or.inl rfl)) mono_rng ?_
  refine wa_cons (we_of pe_int (wa_nil ⟨_, rfl, by decide, by decide, 5, fun _ => True, fun i x _ => x = .int (i : Int), sSet 2, fun i σ' H' => (∃ o, σ' = [some (.ref a), some (.ref t), o]) ∧ Tin t (5000 * i) H',
    src2_rng, ⟨⟨_, rfl⟩, tt⟩, hs_set, fun _ _ _ _ => trivial, ?_, ?_⟩)) rfl
  · rintro i x σ1 σ2 H3 H4 N hi ⟨⟨o, rfl⟩, t3⟩ s4 rfl rfl hN
    refine wb_if (wt_of (pt_not pt_w) (wt_of (pt_val pe_w (by intro _; rfl)) (we_call Lp hr (wa_cons (we_of (pv 1) ⟨_, rfl, wa_nil ⟨t, 5000 * i, rfl, t3.same s4, by show _ < 1152921504606846976; omega, fun H' d' t' => ⟨true, rfl, ?_⟩⟩⟩) rfl))))
    show (if (!true) = true then _ else _)
    rw [if_neg (by decide)]
    exact wb_nil (wb_nil (hN _ _ ⟨⟨_, rfl⟩, t'.le (by omega)⟩))
  · rintro σ1 H3 ⟨⟨o, rfl⟩, t3⟩
    refine wb_ret (Pd.run (d := .bool true) (Pd.is (pd_call Sm hr (pa_c (pd_lst
      (pa_c (Pd.is (pd_call Ft hr (pa_c (pd_tup (pa_c pd_int (pa_c (pd_tup (pa_c (pd_tup (pa_c (pd_pow pd_int pd_int (by unfold CPow; decide)) pa_n)) pa_n)) pa_n))) pa_n) ⟨_, rfl, by decide +kernel, rfl⟩) (congrArg PyData.bool (show _ = true by decide +kernel)))
      (pa_c (Pd.is (pd_call Fs hr (pa_c (pd_repT (pd_tup (pa_c (pd_repT (pd_tup (pa_c pd_none pa_n)) pd_int (by simp) (by decide) (by decide) (by simp)) pa_n)) pd_int (by simp) (by decide) (by decide) (by simp)) pa_n) ⟨_, rfl, by decide +kernel, by decide +kernel, rfl⟩) (congrArg PyData.bool (show _ = false by decide +kernel)))
      (pa_c (Pd.is (pd_call Fd hr (pa_c (pd_repT (pd_tup (pa_c (pd_repT (pd_tup (pa_c pd_int pa_n)) pd_int (by simp) (by decide) (by decide) (by simp)) pa_n)) pd_int (by simp) (by decide) (by decide) (by simp)) pa_n) ⟨_, rfl, by decide +kernel, rfl⟩) (congrArg PyData.bool (show _ = true by decide +kernel)))
      (pa_c (Pd.is (pd_call Fg hr (pa_c (pd_tup (pa_c pd_int (pa_c (pd_tup (pa_c (pd_tup pa_n) pa_n)) pa_n))) pa_n) ⟨_, rfl, by decide +kernel, rfl⟩) (congrArg PyData.bool (show _ = true by decide +kernel)))
      (pa_c (Pd.is (pd_call Ft hr (pa_c (pd_tup (pa_c pd_int (pa_c (pd_repT (pd_tup (pa_c (pd_repT (pd_tup (pa_c pd_int pa_n)) pd_int (by simp) (by decide) (by decide) (by simp)) pa_n)) pd_int (by simp) (by decide) (by decide) (by simp)) pa_n))) pa_n) ⟨_, rfl, by decide +kernel, rfl⟩) (congrArg PyData.bool (show _ = true by decide +kernel)))
      (pa_c (Pd.is (pd_call Fm hr (pa_c (pd_tup (pa_c pd_str (pa_c (pd_pow pd_int pd_int (by unfold CPow; decide)) pa_n))) pa_n) ⟨_, rfl, by decide +kernel, rfl⟩) (congrArg PyData.bool (show _ = false by decide +kernel)))
      pa_n))))))) (pa_c (pd_lst (pa_c pd_bool (pa_c pd_bool (pa_c pd_bool (pa_c pd_bool (pa_c pd_bool (pa_c pd_bool pa_n))))))) pa_n))
      ⟨_, _, rfl, [true, false, true, true, true, false], [true, false, true, true, true, false], rfl, rfl, rfl, by decide, rfl⟩) (congrArg PyData.bool (by decide))) fun v H4 s4 dv => ?_)
    cases dv
    exact q _
end
end Sp
namespace Sp
open PySem L2
/-- where a def stands behind the top -/
def DefAt (K : PySem.W.Frag) (x : Str) (st : Stmt) : Prop := ∃ (f : Addr) (oc : Value) (od an : Option Addr) (sl : Array (Option Value)) (kV doc pm cd ct : Value), PySem.W.nsIn K mainGlobals x = some (some (.ref f)) ∧
  K.lookup f = some ⟨oc, od, .func (PySem.W.fnOf x x (defArgs st) (defBody st) (defScope st) .none kV doc pm an cd ct), sl⟩ ∧ PySem.W.codeIn K cd x = true ∧ PySem.W.keepIn K (.ref f) = true
theorem def_at {K : PySem.W.Frag} {x : Str} {st : Stmt} {f : Addr} {oc : Value} {od an : Option Addr} {sl : Array (Option Value)} {kV doc pm cd ct : Value} (a : PySem.W.nsIn K mainGlobals x = some (some (.ref f)))
    (l : K.lookup f = some ⟨oc, od, .func (PySem.W.fnOf x x (defArgs st) (defBody st) (defScope st) .none kV doc pm an cd ct), sl⟩) (c : PySem.W.codeIn K cd x = true) (k : PySem.W.keepIn K (.ref f) = true) : DefAt K x st :=
  ⟨f, oc, od, an, sl, kV, doc, pm, cd, ct, a, l, c, k⟩
theorem DefAt.fn {K : PySem.W.Frag} {x : Str} {st : Stmt} {h : Heap} {mg : Str → Option Value} (X : K.In h) (G : h.Ns mainGlobals mg) (d : DefAt K x st) : ∃ f fd, mg x = some (.ref f) ∧ Fun K x x st f fd := by
  obtain ⟨f, oc, od, an, sl, kV, doc, pm, cd, ct, a, l, c, k⟩ := d
  exact ⟨f, _, PySem.W.mg_of X G a, fun_mk l c k⟩
theorem moveLen_none {z : Str} (h : z ∉ (["split", "merge", "cross", "uncross"] : List Str)) : moveLen z = none := by
  simp only [List.mem_cons, List.not_mem_nil, or_false, not_or] at h
  unfold moveLen
  rw [if_neg h.1, if_neg h.2.1, if_neg h.2.2.1, if_neg h.2.2.2]
theorem keys_none {z : Str} : ∀ {l : List DictEntry} {ks : List Str}, (∀ e ∈ l, ∃ x t, e.key = .str x t ∧ x ∈ ks) → z ∉ ks → l.find? (fun e => e.key.isStr z) = none ∧ l.any (fun e => e.refKey) = false
  | [], _, _, _ => ⟨rfl, rfl⟩
  | e :: r, ks, h, hz => by
    obtain ⟨i1, i2⟩ := keys_none (l := r) (ks := ks) (fun e he => h e (List.mem_cons_of_mem _ he)) hz
    obtain ⟨x, t, hx, hk⟩ := h e List.mem_cons_self
    have h1 : e.key.isStr z = false := by
      rw [hx]
      show (x == z) = false
      exact beq_eq_false_iff_ne.mpr fun q => hz (q ▸ hk)
    have h2 : e.refKey = false := by
      unfold DictEntry.refKey
      rw [hx]
    refine ⟨?_, ?_⟩
    · rw [List.find?_cons_of_neg (by rw [h1]; decide)]
      exact i1
    · rw [List.any_cons, i2, h2]
      rfl
/-- the module's dict -/
theorem lens_of {K : PySem.W.Frag} {w : World} {h : Heap} {mg : Str → Option Value} {d : Addr} {es : Array DictEntry} {n : Nat} {t1 t2 t3 t4 : Value} (X : K.In h) (G : h.Ns mainGlobals mg) (a : PySem.W.nsIn K mainGlobals "LENGTHS" = some (some (.ref d))) (l : K.lookup d = some ⟨.type "dict", none, .dict es n, #[]⟩)
    (lit : PySem.W.KeysLit w.params es.toList) (low : (d == sysModules) = false) (ks : ∀ e ∈ es.toList, ∃ x t, e.key = .str x t ∧ x ∈ (["split", "merge", "cross", "uncross"] : List Str))
    (v1 : PySem.W.nsIn K d "split" = some (some t1)) (v2 : PySem.W.nsIn K d "merge" = some (some t2)) (v3 : PySem.W.nsIn K d "cross" = some (some t3)) (v4 : PySem.W.nsIn K d "uncross" = some (some t4))
    (r1 : ∃ t, t1 = .int 2 t) (r2 : ∃ t, t2 = .int 3 t) (r3 : ∃ t, t3 = .int 3 t) (r4 : ∃ t, t4 = .int 4 t) : Lens K w mg := by
  refine ⟨⟨d, es, n, PySem.W.mg_of X G a, ⟨l, lit, low⟩, fun z => ?_⟩⟩
  by_cases hz : z ∈ (["split", "merge", "cross", "uncross"] : List Str)
  · simp only [List.mem_cons, List.not_mem_nil, or_false] at hz
    rcases hz with rfl | rfl | rfl | rfl
    · obtain ⟨t, rfl⟩ := r1; exact ⟨_, v1, .inr ⟨2, t, by decide +kernel, rfl⟩⟩
    · obtain ⟨t, rfl⟩ := r2; exact ⟨_, v2, .inr ⟨3, t, by decide +kernel, rfl⟩⟩
    · obtain ⟨t, rfl⟩ := r3; exact ⟨_, v3, .inr ⟨3, t, by decide +kernel, rfl⟩⟩
    · obtain ⟨t, rfl⟩ := r4; exact ⟨_, v4, .inr ⟨4, t, by decide +kernel, rfl⟩⟩
  · obtain ⟨i1, i2⟩ := keys_none (z := z) ks hz
    refine ⟨none, ?_, .inl ⟨moveLen_none hz, rfl⟩⟩
    unfold PySem.W.nsIn
    rw [l]
    show (match es.toList.find? (fun e => e.key.isStr z) with
      | some e => some (some e.val)
      | none => if es.toList.any (fun e => e.refKey) then none else some none) = some none
    rw [i1]
    show (if es.toList.any (fun e => e.refKey) then none else some none) = some none
    rw [i2]
    rfl
theorem facts {P : Program} {w : World} {K : PySem.W.Frag} {h : Heap} {mg : Str → Option Value} {f : Addr} (X : K.In h) (G : h.Ns mainGlobals mg) (hfa : mg "law" = some (.ref f)) (T : Tx mg) (L : Lens K w mg)
    (d_is_number : DefAt K "is_number" s_is_number)
    (d_is_within : DefAt K "is_within" s_is_within)
    (d_sure_within : DefAt K "sure_within" s_sure_within)
    (d_is_long : DefAt K "is_long" s_is_long)
    (d_are_numbers : DefAt K "are_numbers" s_are_numbers)
    (d_is_turn_of : DefAt K "is_turn_of" s_is_turn_of)
    (d_turn_back : DefAt K "turn_back" s_turn_back)
    (d_is_seam_like : DefAt K "is_seam_like" s_is_seam_like)
    (d_told_back : DefAt K "told_back" s_told_back)
    (d_is_space_of : DefAt K "is_space_of" s_is_space_of)
    (d_is_space : DefAt K "is_space" s_is_space)
    (d_is_side_like : DefAt K "is_side_like" s_is_side_like)
    (d_is_surface_of : DefAt K "is_surface_of" s_is_surface_of)
    (d_is_surface : DefAt K "is_surface" s_is_surface)
    (d_is_word_of : DefAt K "is_word_of" s_is_word_of)
    (d_is_given_of : DefAt K "is_given_of" s_is_given_of)
    (d_is_given : DefAt K "is_given" s_is_given)
    (d_is_move_of : DefAt K "is_move_of" s_is_move_of)
    (d_is_move : DefAt K "is_move" s_is_move)
    (d_is_shuffle_in : DefAt K "is_shuffle_in" s_is_shuffle_in)
    (d_sure_things : DefAt K "sure_things" s_sure_things)
    (d_is_shuffle : DefAt K "is_shuffle" s_is_shuffle)
    (d_is_table_of : DefAt K "is_table_of" s_is_table_of)
    (d_is_table : DefAt K "is_table" s_is_table)
    (d_are_discs : DefAt K "are_discs" s_are_discs)
    (d__law_box : DefAt K "_law_box" s__law_box)
    (d__law_take : DefAt K "_law_take" s__law_take)
    (d__law_cells : DefAt K "_law_cells" s__law_cells)
    (d__law_of : DefAt K "_law_of" s__law_of)
    (d__law_pick : DefAt K "_law_pick" s__law_pick)
    (d__law_same : DefAt K "_law_same" s__law_same)
    (d__law_is_int : DefAt K "_law_is_int" s__law_is_int)
    (d__law_flat : DefAt K "_law_flat" s__law_flat)
    (d__law_turns : DefAt K "_law_turns" s__law_turns)
    (d__law_undone : DefAt K "_law_undone" s__law_undone)
    (d__law_word : DefAt K "_law_word" s__law_word)
    (d__law_loose : DefAt K "_law_loose" s__law_loose)
    (d__law_put : DefAt K "_law_put" s__law_put)
    (d__law_as_table : DefAt K "_law_as_table" s__law_as_table)
    (d__law_some_table : DefAt K "_law_some_table" s__law_some_table)
    (d__law_row : DefAt K "_law_row" s__law_row)
    (d__law_turn : DefAt K "_law_turn" s__law_turn)
    (d__law_a_space : DefAt K "_law_a_space" s__law_a_space)
    (d__law_a_move : DefAt K "_law_a_move" s__law_a_move)
    (d__law_a_table : DefAt K "_law_a_table" s__law_a_table)
    (d__law_a_given : DefAt K "_law_a_given" s__law_a_given)
    (d__law_some_discs : DefAt K "_law_some_discs" s__law_some_discs)
    (d__law_a_surface : DefAt K "_law_a_surface" s__law_a_surface)
    (d__law_some_surface : DefAt K "_law_some_surface" s__law_some_surface)
    (d__law_bent : DefAt K "_law_bent" s__law_bent)
    (d__law_lap_one : DefAt K "_law_lap_one" s__law_lap_one)
    (d_law : DefAt K "law" s_law)
    : ∃ fd : FuncData, (∀ (s : Shared) (v : Value), BindsTo s fd ⟨[v], []⟩ [("script", v)]) ∧ ∀ base : Heap, K.In base → base.Ns mainGlobals mg → FnOk P w K mg base CX0 17 f fd ["script"] (sp_law K) := by
  obtain ⟨f_is_number, fd_is_number, g_is_number, F_is_number⟩ := d_is_number.fn X G
  obtain ⟨f_is_within, fd_is_within, g_is_within, F_is_within⟩ := d_is_within.fn X G
  obtain ⟨f_sure_within, fd_sure_within, g_sure_within, F_sure_within⟩ := d_sure_within.fn X G
  obtain ⟨f_is_long, fd_is_long, g_is_long, F_is_long⟩ := d_is_long.fn X G
  obtain ⟨f_are_numbers, fd_are_numbers, g_are_numbers, F_are_numbers⟩ := d_are_numbers.fn X G
  obtain ⟨f_is_turn_of, fd_is_turn_of, g_is_turn_of, F_is_turn_of⟩ := d_is_turn_of.fn X G
  obtain ⟨f_turn_back, fd_turn_back, g_turn_back, F_turn_back⟩ := d_turn_back.fn X G
  obtain ⟨f_is_seam_like, fd_is_seam_like, g_is_seam_like, F_is_seam_like⟩ := d_is_seam_like.fn X G
  obtain ⟨f_told_back, fd_told_back, g_told_back, F_told_back⟩ := d_told_back.fn X G
  obtain ⟨f_is_space_of, fd_is_space_of, g_is_space_of, F_is_space_of⟩ := d_is_space_of.fn X G
  obtain ⟨f_is_space, fd_is_space, g_is_space, F_is_space⟩ := d_is_space.fn X G
  obtain ⟨f_is_side_like, fd_is_side_like, g_is_side_like, F_is_side_like⟩ := d_is_side_like.fn X G
  obtain ⟨f_is_surface_of, fd_is_surface_of, g_is_surface_of, F_is_surface_of⟩ := d_is_surface_of.fn X G
  obtain ⟨f_is_surface, fd_is_surface, g_is_surface, F_is_surface⟩ := d_is_surface.fn X G
  obtain ⟨f_is_word_of, fd_is_word_of, g_is_word_of, F_is_word_of⟩ := d_is_word_of.fn X G
  obtain ⟨f_is_given_of, fd_is_given_of, g_is_given_of, F_is_given_of⟩ := d_is_given_of.fn X G
  obtain ⟨f_is_given, fd_is_given, g_is_given, F_is_given⟩ := d_is_given.fn X G
  obtain ⟨f_is_move_of, fd_is_move_of, g_is_move_of, F_is_move_of⟩ := d_is_move_of.fn X G
  obtain ⟨f_is_move, fd_is_move, g_is_move, F_is_move⟩ := d_is_move.fn X G
  obtain ⟨f_is_shuffle_in, fd_is_shuffle_in, g_is_shuffle_in, F_is_shuffle_in⟩ := d_is_shuffle_in.fn X G
  obtain ⟨f_sure_things, fd_sure_things, g_sure_things, F_sure_things⟩ := d_sure_things.fn X G
  obtain ⟨f_is_shuffle, fd_is_shuffle, g_is_shuffle, F_is_shuffle⟩ := d_is_shuffle.fn X G
  obtain ⟨f_is_table_of, fd_is_table_of, g_is_table_of, F_is_table_of⟩ := d_is_table_of.fn X G
  obtain ⟨f_is_table, fd_is_table, g_is_table, F_is_table⟩ := d_is_table.fn X G
  obtain ⟨f_are_discs, fd_are_discs, g_are_discs, F_are_discs⟩ := d_are_discs.fn X G
  obtain ⟨f__law_box, fd__law_box, g__law_box, F__law_box⟩ := d__law_box.fn X G
  obtain ⟨f__law_take, fd__law_take, g__law_take, F__law_take⟩ := d__law_take.fn X G
  obtain ⟨f__law_cells, fd__law_cells, g__law_cells, F__law_cells⟩ := d__law_cells.fn X G
  obtain ⟨f__law_of, fd__law_of, g__law_of, F__law_of⟩ := d__law_of.fn X G
  obtain ⟨f__law_pick, fd__law_pick, g__law_pick, F__law_pick⟩ := d__law_pick.fn X G
  obtain ⟨f__law_same, fd__law_same, g__law_same, F__law_same⟩ := d__law_same.fn X G
  obtain ⟨f__law_is_int, fd__law_is_int, g__law_is_int, F__law_is_int⟩ := d__law_is_int.fn X G
  obtain ⟨f__law_flat, fd__law_flat, g__law_flat, F__law_flat⟩ := d__law_flat.fn X G
  obtain ⟨f__law_turns, fd__law_turns, g__law_turns, F__law_turns⟩ := d__law_turns.fn X G
  obtain ⟨f__law_undone, fd__law_undone, g__law_undone, F__law_undone⟩ := d__law_undone.fn X G
  obtain ⟨f__law_word, fd__law_word, g__law_word, F__law_word⟩ := d__law_word.fn X G
  obtain ⟨f__law_loose, fd__law_loose, g__law_loose, F__law_loose⟩ := d__law_loose.fn X G
  obtain ⟨f__law_put, fd__law_put, g__law_put, F__law_put⟩ := d__law_put.fn X G
  obtain ⟨f__law_as_table, fd__law_as_table, g__law_as_table, F__law_as_table⟩ := d__law_as_table.fn X G
  obtain ⟨f__law_some_table, fd__law_some_table, g__law_some_table, F__law_some_table⟩ := d__law_some_table.fn X G
  obtain ⟨f__law_row, fd__law_row, g__law_row, F__law_row⟩ := d__law_row.fn X G
  obtain ⟨f__law_turn, fd__law_turn, g__law_turn, F__law_turn⟩ := d__law_turn.fn X G
  obtain ⟨f__law_a_space, fd__law_a_space, g__law_a_space, F__law_a_space⟩ := d__law_a_space.fn X G
  obtain ⟨f__law_a_move, fd__law_a_move, g__law_a_move, F__law_a_move⟩ := d__law_a_move.fn X G
  obtain ⟨f__law_a_table, fd__law_a_table, g__law_a_table, F__law_a_table⟩ := d__law_a_table.fn X G
  obtain ⟨f__law_a_given, fd__law_a_given, g__law_a_given, F__law_a_given⟩ := d__law_a_given.fn X G
  obtain ⟨f__law_some_discs, fd__law_some_discs, g__law_some_discs, F__law_some_discs⟩ := d__law_some_discs.fn X G
  obtain ⟨f__law_a_surface, fd__law_a_surface, g__law_a_surface, F__law_a_surface⟩ := d__law_a_surface.fn X G
  obtain ⟨f__law_some_surface, fd__law_some_surface, g__law_some_surface, F__law_some_surface⟩ := d__law_some_surface.fn X G
  obtain ⟨f__law_bent, fd__law_bent, g__law_bent, F__law_bent⟩ := d__law_bent.fn X G
  obtain ⟨f__law_lap_one, fd__law_lap_one, g__law_lap_one, F__law_lap_one⟩ := d__law_lap_one.fn X G
  obtain ⟨f', oc, od, an, sl, kV, doc, pm, cd, ct, a, l, c, k⟩ := d_law
  have e := hfa.symm.trans (PySem.W.mg_of X G a)
  cases e
  refine ⟨PySem.W.fnOf "law" "law" (defArgs s_law) (defBody s_law) (defScope s_law) .none kV doc pm an cd ct, fun s v => .of_eq rfl, fun base _ _ => ?_⟩
  have F_law : Fun K "law" "law" s_law f _ := fun_mk l c k
  have D_is_number : Ds P w K mg base 1 "is_number" (spR K R_is_number) := ds_mk (ok_is_number F_is_number T) g_is_number F_is_number.kp (F_is_number.binds (ps := ["thing"]) fun _ _ _ _ _ _ us hl => match us, hl with | [_], _ => rfl)
  have D_is_within : Ds P w K mg base 2 "is_within" (spR K R_is_within) := ds_mk (ok_is_within F_is_within D_is_number) g_is_within F_is_within.kp (F_is_within.binds (ps := ["thing", "least", "most"]) fun _ _ _ _ _ _ us hl => match us, hl with | [_, _, _], _ => rfl)
  have D_sure_within : Ds P w K mg base 3 "sure_within" (spR K R_sure_within) := ds_mk (ok_sure_within F_sure_within D_is_within) g_sure_within F_sure_within.kp (F_sure_within.binds (ps := ["thing", "least", "most"]) fun _ _ _ _ _ _ us hl => match us, hl with | [_, _, _], _ => rfl)
  have D_is_long : Ds P w K mg base 1 "is_long" (spR K R_is_long) := ds_mk (ok_is_long F_is_long T) g_is_long F_is_long.kp (F_is_long.binds (ps := ["thing", "length"]) fun _ _ _ _ _ _ us hl => match us, hl with | [_, _], _ => rfl)
  have D_are_numbers : Ds P w K mg base 2 "are_numbers" (spR K R_are_numbers) := ds_mk (ok_are_numbers F_are_numbers T D_is_number) g_are_numbers F_are_numbers.kp (F_are_numbers.binds (ps := ["thing"]) fun _ _ _ _ _ _ us hl => match us, hl with | [_], _ => rfl)
  have D_is_turn_of : Ds P w K mg base 3 "is_turn_of" (spR K R_is_turn_of) := ds_mk (ok_is_turn_of F_is_turn_of T D_are_numbers) g_is_turn_of F_is_turn_of.kp (F_is_turn_of.binds (ps := ["thing"]) fun _ _ _ _ _ _ us hl => match us, hl with | [_], _ => rfl)
  have D_turn_back : Ds P w K mg base 1 "turn_back" (spR K R_turn_back) := ds_mk (ok_turn_back F_turn_back T) g_turn_back F_turn_back.kp (F_turn_back.binds (ps := ["turn"]) fun _ _ _ _ _ _ us hl => match us, hl with | [_], _ => rfl)
  have D_is_seam_like : Ds P w K mg base 4 "is_seam_like" (spR K R_is_seam_like) := ds_mk (ok_is_seam_like F_is_seam_like D_is_number D_is_long D_is_turn_of) g_is_seam_like F_is_seam_like.kp (F_is_seam_like.binds (ps := ["thing"]) fun _ _ _ _ _ _ us hl => match us, hl with | [_], _ => rfl)
  have D_told_back : Ds P w K mg base 2 "told_back" (spR K R_told_back) := ds_mk (ok_told_back F_told_back T D_turn_back) g_told_back F_told_back.kp (F_told_back.binds (ps := ["thing", "block", "face"]) fun _ _ _ _ _ _ us hl => match us, hl with | [_, _, _], _ => rfl)
  have D_is_space_of : Ds P w K mg base 5 "is_space_of" (spR K R_is_space_of) := ds_mk (ok_is_space_of F_is_space_of T D_is_long D_is_seam_like D_told_back) g_is_space_of F_is_space_of.kp (F_is_space_of.binds (ps := ["thing"]) fun _ _ _ _ _ _ us hl => match us, hl with | [_], _ => rfl)
  have D_is_space : Ds P w K mg base 6 "is_space" (spR K R_is_space) := ds_mk (ok_is_space F_is_space D_is_space_of) g_is_space F_is_space.kp (F_is_space.binds (ps := ["thing"]) fun _ _ _ _ _ _ us hl => match us, hl with | [_], _ => rfl)
  have D_is_side_like : Ds P w K mg base 2 "is_side_like" (spR K R_is_side_like) := ds_mk (ok_is_side_like F_is_side_like T D_is_long D_is_number) g_is_side_like F_is_side_like.kp (F_is_side_like.binds (ps := ["thing"]) fun _ _ _ _ _ _ us hl => match us, hl with | [_], _ => rfl)
  have D_is_surface_of : Ds P w K mg base 3 "is_surface_of" (spR K R_is_surface_of) := ds_mk (ok_is_surface_of F_is_surface_of T D_is_side_like D_is_within) g_is_surface_of F_is_surface_of.kp (F_is_surface_of.binds (ps := ["thing"]) fun _ _ _ _ _ _ us hl => match us, hl with | [_], _ => rfl)
  have D_is_surface : Ds P w K mg base 4 "is_surface" (spR K R_is_surface) := ds_mk (ok_is_surface F_is_surface D_is_surface_of) g_is_surface F_is_surface.kp (F_is_surface.binds (ps := ["thing"]) fun _ _ _ _ _ _ us hl => match us, hl with | [_], _ => rfl)
  have D_is_word_of : Ds P w K mg base 3 "is_word_of" (spR K R_is_word_of) := ds_mk (ok_is_word_of F_is_word_of T D_are_numbers) g_is_word_of F_is_word_of.kp (F_is_word_of.binds (ps := ["many", "thing"]) fun _ _ _ _ _ _ us hl => match us, hl with | [_, _], _ => rfl)
  have D_is_given_of : Ds P w K mg base 4 "is_given_of" (spR K R_is_given_of) := ds_mk (ok_is_given_of F_is_given_of T D_is_long D_is_number D_is_word_of) g_is_given_of F_is_given_of.kp (F_is_given_of.binds (ps := ["thing"]) fun _ _ _ _ _ _ us hl => match us, hl with | [_], _ => rfl)
  have D_is_given : Ds P w K mg base 5 "is_given" (spR K R_is_given) := ds_mk (ok_is_given F_is_given D_is_given_of) g_is_given F_is_given.kp (F_is_given.binds (ps := ["thing"]) fun _ _ _ _ _ _ us hl => match us, hl with | [_], _ => rfl)
  have D_is_table_of : Ds P w K mg base 3 "is_table_of" (spR K R_is_table_of) := ds_mk (ok_is_table_of F_is_table_of T D_is_long D_is_number D_are_numbers) g_is_table_of F_is_table_of.kp (F_is_table_of.binds (ps := ["thing"]) fun _ _ _ _ _ _ us hl => match us, hl with | [_], _ => rfl)
  have D_is_table : Ds P w K mg base 4 "is_table" (spR K R_is_table) := ds_mk (ok_is_table F_is_table D_is_table_of) g_is_table F_is_table.kp (F_is_table.binds (ps := ["thing"]) fun _ _ _ _ _ _ us hl => match us, hl with | [_], _ => rfl)
  have D_are_discs : Ds P w K mg base 3 "are_discs" (spR K R_are_discs) := ds_mk (ok_are_discs F_are_discs T D_is_long D_is_within) g_are_discs F_are_discs.kp (F_are_discs.binds (ps := ["thing"]) fun _ _ _ _ _ _ us hl => match us, hl with | [_], _ => rfl)
  have D_is_shuffle_in : Ds P w K mg base 3 "is_shuffle_in" (spR K R_is_shuffle_in) := ds_mk (ok_is_shuffle_in F_is_shuffle_in T D_are_numbers) g_is_shuffle_in F_is_shuffle_in.kp (F_is_shuffle_in.binds (ps := ["things", "thing"]) fun _ _ _ _ _ _ us hl => match us, hl with | [_, _], _ => rfl)
  have D_sure_things : Ds P w K mg base 4 "sure_things" (spR K R_sure_things) := ds_mk (ok_sure_things F_sure_things T D_sure_within) g_sure_things F_sure_things.kp (F_sure_things.binds (ps := ["things"]) fun _ _ _ _ _ _ us hl => match us, hl with | [_], _ => rfl)
  have D_is_shuffle : Ds P w K mg base 5 "is_shuffle" (spR K R_is_shuffle) := ds_mk (ok_is_shuffle F_is_shuffle D_sure_things D_is_shuffle_in) g_is_shuffle F_is_shuffle.kp (F_is_shuffle.binds (ps := ["things", "thing"]) fun _ _ _ _ _ _ us hl => match us, hl with | [_, _], _ => rfl)
  have D_is_move_of : Ds P w K mg base 3 "is_move_of" (spR K R_is_move_of) := ds_mk (ok_is_move_of F_is_move_of T L D_is_long D_is_within) g_is_move_of F_is_move_of.kp (F_is_move_of.binds (ps := ["thing"]) fun _ _ _ _ _ _ us hl => match us, hl with | [_], _ => rfl)
  have D_is_move : Ds P w K mg base 4 "is_move" (spR K R_is_move) := ds_mk (ok_is_move F_is_move D_is_move_of) g_is_move F_is_move.kp (F_is_move.binds (ps := ["thing"]) fun _ _ _ _ _ _ us hl => match us, hl with | [_], _ => rfl)
  have D_law_is_int : Ds P w K mg base 1 "_law_is_int" (spR K R_law_is_int) := ds_mk (ok_law_is_int F__law_is_int T) g__law_is_int F__law_is_int.kp (F__law_is_int.binds (ps := ["k"]) fun _ _ _ _ _ _ us hl => match us, hl with | [_], _ => rfl)
  have D_law_row : Ds P w K mg base 2 "_law_row" (spR K R_law_row) := ds_mk (ok_law_row F__law_row T D_law_is_int) g__law_row F__law_row.kp (F__law_row.binds (ps := ["thing_so"]) fun _ _ _ _ _ _ us hl => match us, hl with | [_], _ => rfl)
  have D_law_turn : Ds P w K mg base 3 "_law_turn" (spR K R_law_turn) := ds_mk (ok_law_turn F__law_turn T D_law_row) g__law_turn F__law_turn.kp (F__law_turn.binds (ps := ["thing_so"]) fun _ _ _ _ _ _ us hl => match us, hl with | [_], _ => rfl)
  have D_law_undone : Ds P w K mg base 1 "_law_undone" (spR K R_turn_back) := ds_mk (ok_law_undone F__law_undone T) g__law_undone F__law_undone.kp (F__law_undone.binds (ps := ["turn_so"]) fun _ _ _ _ _ _ us hl => match us, hl with | [_], _ => rfl)
  have D_law_flat : Ds P w K mg base 1 "_law_flat" (sp_flat K) := ds_mk (ok_law_flat F__law_flat) g__law_flat F__law_flat.kp (F__law_flat.binds (ps := ["rows_so"]) fun _ _ _ _ _ _ us hl => match us, hl with | [_], _ => rfl)
  have D_same0 : Ds P w K mg base 1 "_law_same" (spR K R_same0) := ds_mk (ok_same0 F__law_same T) g__law_same F__law_same.kp (F__law_same.binds (ps := ["got", "due"]) fun _ _ _ _ _ _ us hl => match us, hl with | [_, _], _ => rfl)
  have D_same1 : Ds P w K mg base 2 "_law_same" (spR K R_same1) := ds_mk (ok_same1 F__law_same T D_same0) g__law_same F__law_same.kp (F__law_same.binds (ps := ["got", "due"]) fun _ _ _ _ _ _ us hl => match us, hl with | [_, _], _ => rfl)
  have D_law_a_table : Ds P w K mg base 3 "_law_a_table" (spR K R_law_a_table) := ds_mk (ok_law_a_table F__law_a_table T D_law_is_int D_law_row) g__law_a_table F__law_a_table.kp (F__law_a_table.binds (ps := ["thing_so"]) fun _ _ _ _ _ _ us hl => match us, hl with | [_], _ => rfl)
  have D_law_a_given : Ds P w K mg base 3 "_law_a_given" (spR K R_law_a_given) := ds_mk (ok_law_a_given F__law_a_given T D_law_is_int D_law_row) g__law_a_given F__law_a_given.kp (F__law_a_given.binds (ps := ["thing_so"]) fun _ _ _ _ _ _ us hl => match us, hl with | [_], _ => rfl)
  have D_law_some_discs : Ds P w K mg base 3 "_law_some_discs" (spR K R_law_some_discs) := ds_mk (ok_law_some_discs F__law_some_discs T D_law_row) g__law_some_discs F__law_some_discs.kp (F__law_some_discs.binds (ps := ["thing_so"]) fun _ _ _ _ _ _ us hl => match us, hl with | [_], _ => rfl)
  have D_law_a_surface : Ds P w K mg base 3 "_law_a_surface" (spR K R_law_a_surface) := ds_mk (ok_law_a_surface F__law_a_surface T D_law_row) g__law_a_surface F__law_a_surface.kp (F__law_a_surface.binds (ps := ["thing_so"]) fun _ _ _ _ _ _ us hl => match us, hl with | [_], _ => rfl)
  have D_law_a_space : Ds P w K mg base 4 "_law_a_space" (spR K R_law_a_space) := ds_mk (ok_law_a_space F__law_a_space T D_law_is_int D_law_turn D_law_undone D_law_flat) g__law_a_space F__law_a_space.kp (F__law_a_space.binds (ps := ["thing_so"]) fun _ _ _ _ _ _ us hl => match us, hl with | [_], _ => rfl)
  have D_law_a_move : Ds P w K mg base 3 "_law_a_move" (spR K R_law_a_move) := ds_mk (ok_law_a_move F__law_a_move T D_law_row) g__law_a_move F__law_a_move.kp (F__law_a_move.binds (ps := ["thing_so"]) fun _ _ _ _ _ _ us hl => match us, hl with | [_], _ => rfl)
  have D_law_take : Ds P w K mg base 1 "_law_take" (sp_take) := ds_mk (ok_law_take F__law_take T) g__law_take F__law_take.kp (F__law_take.binds (ps := ["tin", "below_so"]) fun _ _ _ _ _ _ us hl => match us, hl with | [_, _], _ => rfl)
  have D_law_of : Ds P w K mg base 2 "_law_of" (sp_of K) := ds_mk (ok_law_of F__law_of T D_law_take) g__law_of F__law_of.kp (F__law_of.binds (ps := ["tin", "goods_so"]) fun _ _ _ _ _ _ us hl => match us, hl with | [_, _], _ => rfl)
  have D_law_pick : Ds P w K mg base 2 "_law_pick" (sp_pick K) := ds_mk (ok_law_pick F__law_pick T D_law_take) g__law_pick F__law_pick.kp (F__law_pick.binds (ps := ["tin", "goods_so", "count_so"]) fun _ _ _ _ _ _ us hl => match us, hl with | [_, _, _], _ => rfl)
  have D_law_word : Ds P w K mg base 3 "_law_word" (sp_word K) := ds_mk (ok_law_word F__law_word T D_law_take D_law_of) g__law_word F__law_word.kp (F__law_word.binds (ps := ["tin", "many_so", "long_so"]) fun _ _ _ _ _ _ us hl => match us, hl with | [_, _, _], _ => rfl)
  have D_law_box : Ds P w K mg base 1 "_law_box" (sp_box) := ds_mk (ok_law_box F__law_box T) g__law_box F__law_box.kp (F__law_box.binds (ps := ["script", "k"]) fun _ _ _ _ _ _ us hl => match us, hl with | [_, _], _ => rfl)
  have D_law_cells : Ds P w K mg base 1 "_law_cells" (sp_cells K) := ds_mk (ok_law_cells F__law_cells T) g__law_cells F__law_cells.kp (F__law_cells.binds (ps := ["script", "most_so"]) fun _ _ _ _ _ _ us hl => match us, hl with | [_, _], _ => rfl)
  have D_law_turns : Ds P w K mg base 1 "_law_turns" (sp_turns K) := ds_mk (ok_law_turns F__law_turns T) g__law_turns F__law_turns.kp (F__law_turns.binds (ps := []) fun _ _ _ _ _ _ us hl => match us, hl with | [], _ => rfl)
  have D_law_loose : Ds P w K mg base 3 "_law_loose" (sp_loose K) := ds_mk (ok_law_loose F__law_loose T D_law_take D_law_of D_law_turns D_law_undone) g__law_loose F__law_loose.kp (F__law_loose.binds (ps := ["tin", "most_so"]) fun _ _ _ _ _ _ us hl => match us, hl with | [_, _], _ => rfl)
  have D_law_as_table : Ds P w K mg base 1 "_law_as_table" (spR K R_as_table) := ds_mk (ok_law_as_table F__law_as_table T) g__law_as_table F__law_as_table.kp (F__law_as_table.binds (ps := ["wide_so", "rows_so"]) fun _ _ _ _ _ _ us hl => match us, hl with | [_, _], _ => rfl)
  have D_law_some_table : Ds P w K mg base 3 "_law_some_table" (sp_some_table K) := ds_mk (ok_law_some_table F__law_some_table T D_law_take D_law_of D_law_as_table) g__law_some_table F__law_some_table.kp (F__law_some_table.binds (ps := ["tin", "most_so"]) fun _ _ _ _ _ _ us hl => match us, hl with | [_, _], _ => rfl)
  have D_law_flat2 : Ds P w K mg base 1 "_law_flat" (sp_flat2 K) := ds_mk (ok_law_flat2 F__law_flat) g__law_flat F__law_flat.kp (F__law_flat.binds (ps := ["rows_so"]) fun _ _ _ _ _ _ us hl => match us, hl with | [_], _ => rfl)
  have D_law_some_surface : Ds P w K mg base 3 "_law_some_surface" (sp_some_surface K) := ds_mk (ok_law_some_surface F__law_some_surface T D_law_take D_law_of D_law_flat2 D_law_pick) g__law_some_surface F__law_some_surface.kp (F__law_some_surface.binds (ps := ["tin"]) fun _ _ _ _ _ _ us hl => match us, hl with | [_], _ => rfl)
  have D_law_put : Ds P w K mg base 1 "_law_put" (spR K R_put) := ds_mk (ok_law_put F__law_put) g__law_put F__law_put.kp (F__law_put.binds (ps := ["row_so", "at_so", "bit_so"]) fun _ _ _ _ _ _ us hl => match us, hl with | [_, _, _], _ => rfl)
  have B : ∀ n, n ≤ 50 → Ds P w K mg base (n + 3) "_law_bent" (sp_bent K n) := by
    intro n
    induction n with
    | zero => exact fun h => ds_mk (ok_law_bent 0 h F__law_bent T D_law_take D_law_of D_law_put fun k hk => by omega) g__law_bent F__law_bent.kp (F__law_bent.binds (ps := ["tin", "matter"]) fun _ _ _ _ _ _ us hl => match us, hl with | [_, _], _ => rfl)
    | succ n ih => exact fun h => ds_mk (ok_law_bent (n + 1) h F__law_bent T D_law_take D_law_of D_law_put fun k hk => by
        have e : n = k := by omega
        subst e
        exact ih (by omega)) g__law_bent F__law_bent.kp (F__law_bent.binds (ps := ["tin", "matter"]) fun _ _ _ _ _ _ us hl => match us, hl with | [_, _], _ => rfl)
  have Ws : Draws3 P w K mg base := ⟨D_law_take, D_law_of, D_law_pick, D_law_word, D_law_loose, D_law_some_table, D_law_some_surface, B 7 (by decide), D_same0, D_same1, D_law_row, D_is_shuffle⟩
  obtain ⟨u_space, mu_space, Du_space⟩ := door_of (D_is_space.up (by decide : _ ≤ 15)) (fun t h1 h2 => ⟨t, rfl, h1, h2, rfl⟩)
  obtain ⟨v_space, mv_space, Dv_space⟩ := door_of (D_law_a_space.up (by decide : _ ≤ 15)) (fun t h1 h2 => ⟨t, rfl, h1, h2, rfl⟩)
  obtain ⟨u_move, mu_move, Du_move⟩ := door_of (D_is_move.up (by decide : _ ≤ 15)) (fun t h1 h2 => ⟨t, rfl, h1, rfl⟩)
  obtain ⟨v_move, mv_move, Dv_move⟩ := door_of (D_law_a_move.up (by decide : _ ≤ 15)) (fun t h1 h2 => ⟨t, rfl, h1, h2, rfl⟩)
  obtain ⟨u_table, mu_table, Du_table⟩ := door_of (D_is_table.up (by decide : _ ≤ 15)) (fun t h1 h2 => ⟨t, rfl, h1, rfl⟩)
  obtain ⟨v_table, mv_table, Dv_table⟩ := door_of (D_law_a_table.up (by decide : _ ≤ 15)) (fun t h1 h2 => ⟨t, rfl, h1, h2, rfl⟩)
  obtain ⟨u_given, mu_given, Du_given⟩ := door_of (D_is_given.up (by decide : _ ≤ 15)) (fun t h1 h2 => ⟨t, rfl, h1, rfl⟩)
  obtain ⟨v_given, mv_given, Dv_given⟩ := door_of (D_law_a_given.up (by decide : _ ≤ 15)) (fun t h1 h2 => ⟨t, rfl, h1, h2, rfl⟩)
  obtain ⟨u_discs, mu_discs, Du_discs⟩ := door_of (D_are_discs.up (by decide : _ ≤ 15)) (fun t h1 h2 => ⟨t, rfl, h1, rfl⟩)
  obtain ⟨v_discs, mv_discs, Dv_discs⟩ := door_of (D_law_some_discs.up (by decide : _ ≤ 15)) (fun t h1 h2 => ⟨t, rfl, h1, h2, rfl⟩)
  obtain ⟨u_surface, mu_surface, Du_surface⟩ := door_of (D_is_surface.up (by decide : _ ≤ 15)) (fun t h1 h2 => ⟨t, rfl, h1, h2, rfl⟩)
  obtain ⟨v_surface, mv_surface, Dv_surface⟩ := door_of (D_law_a_surface.up (by decide : _ ≤ 15)) (fun t h1 h2 => ⟨t, rfl, h1, h2, rfl⟩)
  have Do : Doors P w K mg base := ⟨⟨u_space, v_space, mu_space, mv_space, Du_space, Dv_space⟩, ⟨u_move, v_move, mu_move, mv_move, Du_move, Dv_move⟩, ⟨u_table, v_table, mu_table, mv_table, Du_table, Dv_table⟩, ⟨u_given, v_given, mu_given, mv_given, Du_given, Dv_given⟩, ⟨u_discs, v_discs, mu_discs, mv_discs, Du_discs, Dv_discs⟩, ⟨u_surface, v_surface, mu_surface, mv_surface, Du_surface, Dv_surface⟩⟩
  have D_law_lap_one : Ds P w K mg base 16 "_law_lap_one" (sp_lap) := ds_mk (ok_law_lap_one F__law_lap_one T Ws Do) g__law_lap_one F__law_lap_one.kp (F__law_lap_one.binds (ps := ["tin"]) fun _ _ _ _ _ _ us hl => match us, hl with | [_], _ => rfl)
  exact ok_law F_law T D_law_box D_law_cells D_law_lap_one D_same1 D_is_table D_is_space D_are_discs D_is_given D_is_move
end Sp
namespace Sp
open PySem L2
theorem keys4 {e1 e2 e3 e4 : DictEntry} {k1 k2 k3 k4 : Str} (h1 : ∃ t, e1.key = .str k1 t) (h2 : ∃ t, e2.key = .str k2 t) (h3 : ∃ t, e3.key = .str k3 t) (h4 : ∃ t, e4.key = .str k4 t) : ∀ e ∈ [e1, e2, e3, e4], ∃ x t, e.key = .str x t ∧ x ∈ [k1, k2, k3, k4] := by
  intro e he
  obtain ⟨t1, h1⟩ := h1
  obtain ⟨t2, h2⟩ := h2
  obtain ⟨t3, h3⟩ := h3
  obtain ⟨t4, h4⟩ := h4
  simp only [List.mem_cons, List.not_mem_nil, or_false] at he
  rcases he with rfl | rfl | rfl | rfl
  · exact ⟨k1, t1, h1, by simp⟩
  · exact ⟨k2, t2, h2, by simp⟩
  · exact ⟨k3, t3, h3, by simp⟩
  · exact ⟨k4, t4, h4, by simp⟩
theorem tx_of {K : PySem.W.Frag} {h : Heap} {mg : Str → Option Value} (X : K.In h) (G : h.Ns mainGlobals mg) (z_isinstance : PySem.W.nsIn K mainGlobals "isinstance" = some none) (z_int : PySem.W.nsIn K mainGlobals "int" = some none) (z_bool : PySem.W.nsIn K mainGlobals "bool" = some none) (z_tuple : PySem.W.nsIn K mainGlobals "tuple" = some none) (z_list : PySem.W.nsIn K mainGlobals "list" = some none) (z_str : PySem.W.nsIn K mainGlobals "str" = some none) (z_len : PySem.W.nsIn K mainGlobals "len" = some none) (z_all : PySem.W.nsIn K mainGlobals "all" = some none) (z_sorted : PySem.W.nsIn K mainGlobals "sorted" = some none) (z_abs : PySem.W.nsIn K mainGlobals "abs" = some none) (z_range : PySem.W.nsIn K mainGlobals "range" = some none) (z_enumerate : PySem.W.nsIn K mainGlobals "enumerate" = some none) (z_min : PySem.W.nsIn K mainGlobals "min" = some none) (z_zip : PySem.W.nsIn K mainGlobals "zip" = some none)
    {t1 t2 : Value} (m1 : PySem.W.nsIn K mainGlobals "MOST" = some (some t1)) (e1 : ∃ t, t1 = .int 40 t) (m2 : PySem.W.nsIn K mainGlobals "MOST_THINGS" = some (some t2)) (e2 : ∃ t, t2 = .int 7 t) {t3 : Value} (m3 : PySem.W.nsIn K mainGlobals "GREATEST" = some (some t3)) (e3 : ∃ t, t3 = .int 1000000 t) : Tx mg := by
  obtain ⟨u1, rfl⟩ := e1
  obtain ⟨u2, rfl⟩ := e2
  obtain ⟨u3, rfl⟩ := e3
  exact ⟨PySem.W.mg_none_of X G z_isinstance, PySem.W.mg_none_of X G z_int, PySem.W.mg_none_of X G z_bool, PySem.W.mg_none_of X G z_tuple, PySem.W.mg_none_of X G z_list, PySem.W.mg_none_of X G z_str, PySem.W.mg_none_of X G z_len, PySem.W.mg_none_of X G z_all, PySem.W.mg_none_of X G z_sorted, PySem.W.mg_none_of X G z_abs, PySem.W.mg_none_of X G z_range, PySem.W.mg_none_of X G z_enumerate, PySem.W.mg_none_of X G z_min, PySem.W.mg_none_of X G z_zip, ⟨u1, PySem.W.mg_of X G m1⟩, ⟨u2, PySem.W.mg_of X G m2⟩, ⟨u3, PySem.W.mg_of X G m3⟩⟩
theorem walk37 {l : PySem.W.OpenLaw} {q : Program} {loose : List Str} {XP : (Str → Option Value) → Heap → Prop} {YP : World → Heap → Prop} {d : DefRec} {K : Params → PySem.W.Frag} (hn : l.most = some 63) (hdf : d.params.defaults = [])
    (hY : ∀ (w : World) (h : Heap), YP w h → (K w.params).In h)
    (F : ∀ (w : World) (mg : Str → Option Value) (fa : Addr) (h : Heap), (K w.params).In h → h.Ns mainGlobals mg → mg d.name = some (.ref fa) →
      ∃ fd : FuncData, (∀ (s : Shared) (u : Value), BindsTo s fd ⟨[u], []⟩ [("script", u)]) ∧ ∀ base : Heap, (K w.params).In base → base.Ns mainGlobals mg → FnOk l.prog w (K w.params) mg base CX0 17 fa fd ["script"] (sp_law (K w.params))) :
    PySem.W.WalkO q loose XP YP l.row.toRowW d [] (fun f vs => PySem.call f vs) :=
  L2.walk_of (n := 63) (k := 17) (x := "script") (CX := fun _ => CX0) (sp := fun w => sp_law (K w.params)) hn (by decide) hdf ⟨rfl, by decide, by decide⟩ hY F (fun _ _ a ns hl _ hS => ⟨a, ns, rfl, hS, hl, fun _ => rfl⟩) fun _ _ _ _ _ z => z
end Sp
open PySem PySem.W PyProof.Rows in
set_option maxRecDepth 100000 in
set_option maxHeartbeats 0 in
theorem PySem.Challenge.cw_sheetspaces_k37_whole_what_is_what_it_is_holds : PySem.Challenge.rw_sheetspaces_k37_whole_what_is_what_it_is.Holds := by
  w_on; o_law; k_head; (case hw => w_witness2)
  k_fill
  refine Sp.walk37 (l := PySem.Challenge.rw_sheetspaces_k37_whole_what_is_what_it_is) rfl rfl (fun w h Y => PySem.W.kIn_of Y) ?F
  case F =>
    intro w mg fa h KX G hmg
    refine' Sp.facts KX G hmg ?T ?L ?d_is_number ?d_is_within ?d_sure_within ?d_is_long ?d_are_numbers ?d_is_turn_of ?d_turn_back ?d_is_seam_like ?d_told_back ?d_is_space_of ?d_is_space ?d_is_side_like ?d_is_surface_of ?d_is_surface ?d_is_word_of ?d_is_given_of ?d_is_given ?d_is_move_of ?d_is_move ?d_is_shuffle_in ?d_sure_things ?d_is_shuffle ?d_is_table_of ?d_is_table ?d_are_discs ?d__law_box ?d__law_take ?d__law_cells ?d__law_of ?d__law_pick ?d__law_same ?d__law_is_int ?d__law_flat ?d__law_turns ?d__law_undone ?d__law_word ?d__law_loose ?d__law_put ?d__law_as_table ?d__law_some_table ?d__law_row ?d__law_turn ?d__law_a_space ?d__law_a_move ?d__law_a_table ?d__law_a_given ?d__law_some_discs ?d__law_a_surface ?d__law_some_surface ?d__law_bent ?d__law_lap_one ?d_law
    case T =>
      refine' Sp.tx_of KX G ?z_isinstance ?z_int ?z_bool ?z_tuple ?z_list ?z_str ?z_len ?z_all ?z_sorted ?z_abs ?z_range ?z_enumerate ?z_min ?z_zip ?m1 ?e1 ?m2 ?e2 ?m3 ?e3
      (case z_isinstance => k_is)
      (case z_int => k_is)
      (case z_bool => k_is)
      (case z_tuple => k_is)
      (case z_list => k_is)
      (case z_str => k_is)
      (case z_len => k_is)
      (case z_all => k_is)
      (case z_sorted => k_is)
      (case z_abs => k_is)
      (case z_range => k_is)
      (case z_enumerate => k_is)
      (case z_min => k_is)
      (case z_zip => k_is)
      (case m1 => k_is)
      (case e1 => exact ⟨_, rfl⟩)
      (case m2 => k_is)
      (case e2 => exact ⟨_, rfl⟩)
      (case m3 => k_is)
      (case e3 => exact ⟨_, rfl⟩)
    case L =>
      refine' Sp.lens_of KX G ?a ?l ?lit ?low ?ks ?v1 ?v2 ?v3 ?v4 ?r1 ?r2 ?r3 ?r4
      (case a => k_is)
      (case l => k_is)
      (case lit => exact ⟨⟨_, _, rfl, rfl⟩, ⟨_, _, rfl, rfl⟩, ⟨_, _, rfl, rfl⟩, ⟨_, _, rfl, rfl⟩, trivial⟩)
      (case low => decide +kernel)
      (case ks => exact Sp.keys4 ⟨_, rfl⟩ ⟨_, rfl⟩ ⟨_, rfl⟩ ⟨_, rfl⟩)
      (case v1 => k_is)
      (case v2 => k_is)
      (case v3 => k_is)
      (case v4 => k_is)
      (case r1 => exact ⟨_, rfl⟩)
      (case r2 => exact ⟨_, rfl⟩)
      (case r3 => exact ⟨_, rfl⟩)
      (case r4 => exact ⟨_, rfl⟩)
    (case d_is_number => (refine' Sp.def_at ?a ?l ?c ?k; (case a => k_is); (case l => k_is); (case c => k_is); (case k => k_is)))
    (case d_is_within => (refine' Sp.def_at ?a ?l ?c ?k; (case a => k_is); (case l => k_is); (case c => k_is); (case k => k_is)))
    (case d_sure_within => (refine' Sp.def_at ?a ?l ?c ?k; (case a => k_is); (case l => k_is); (case c => k_is); (case k => k_is)))
    (case d_is_long => (refine' Sp.def_at ?a ?l ?c ?k; (case a => k_is); (case l => k_is); (case c => k_is); (case k => k_is)))
    (case d_are_numbers => (refine' Sp.def_at ?a ?l ?c ?k; (case a => k_is); (case l => k_is); (case c => k_is); (case k => k_is)))
    (case d_is_turn_of => (refine' Sp.def_at ?a ?l ?c ?k; (case a => k_is); (case l => k_is); (case c => k_is); (case k => k_is)))
    (case d_turn_back => (refine' Sp.def_at ?a ?l ?c ?k; (case a => k_is); (case l => k_is); (case c => k_is); (case k => k_is)))
    (case d_is_seam_like => (refine' Sp.def_at ?a ?l ?c ?k; (case a => k_is); (case l => k_is); (case c => k_is); (case k => k_is)))
    (case d_told_back => (refine' Sp.def_at ?a ?l ?c ?k; (case a => k_is); (case l => k_is); (case c => k_is); (case k => k_is)))
    (case d_is_space_of => (refine' Sp.def_at ?a ?l ?c ?k; (case a => k_is); (case l => k_is); (case c => k_is); (case k => k_is)))
    (case d_is_space => (refine' Sp.def_at ?a ?l ?c ?k; (case a => k_is); (case l => k_is); (case c => k_is); (case k => k_is)))
    (case d_is_side_like => (refine' Sp.def_at ?a ?l ?c ?k; (case a => k_is); (case l => k_is); (case c => k_is); (case k => k_is)))
    (case d_is_surface_of => (refine' Sp.def_at ?a ?l ?c ?k; (case a => k_is); (case l => k_is); (case c => k_is); (case k => k_is)))
    (case d_is_surface => (refine' Sp.def_at ?a ?l ?c ?k; (case a => k_is); (case l => k_is); (case c => k_is); (case k => k_is)))
    (case d_is_word_of => (refine' Sp.def_at ?a ?l ?c ?k; (case a => k_is); (case l => k_is); (case c => k_is); (case k => k_is)))
    (case d_is_given_of => (refine' Sp.def_at ?a ?l ?c ?k; (case a => k_is); (case l => k_is); (case c => k_is); (case k => k_is)))
    (case d_is_given => (refine' Sp.def_at ?a ?l ?c ?k; (case a => k_is); (case l => k_is); (case c => k_is); (case k => k_is)))
    (case d_is_move_of => (refine' Sp.def_at ?a ?l ?c ?k; (case a => k_is); (case l => k_is); (case c => k_is); (case k => k_is)))
    (case d_is_move => (refine' Sp.def_at ?a ?l ?c ?k; (case a => k_is); (case l => k_is); (case c => k_is); (case k => k_is)))
    (case d_is_shuffle_in => (refine' Sp.def_at ?a ?l ?c ?k; (case a => k_is); (case l => k_is); (case c => k_is); (case k => k_is)))
    (case d_sure_things => (refine' Sp.def_at ?a ?l ?c ?k; (case a => k_is); (case l => k_is); (case c => k_is); (case k => k_is)))
    (case d_is_shuffle => (refine' Sp.def_at ?a ?l ?c ?k; (case a => k_is); (case l => k_is); (case c => k_is); (case k => k_is)))
    (case d_is_table_of => (refine' Sp.def_at ?a ?l ?c ?k; (case a => k_is); (case l => k_is); (case c => k_is); (case k => k_is)))
    (case d_is_table => (refine' Sp.def_at ?a ?l ?c ?k; (case a => k_is); (case l => k_is); (case c => k_is); (case k => k_is)))
    (case d_are_discs => (refine' Sp.def_at ?a ?l ?c ?k; (case a => k_is); (case l => k_is); (case c => k_is); (case k => k_is)))
    (case d__law_box => (refine' Sp.def_at ?a ?l ?c ?k; (case a => k_is); (case l => k_is); (case c => k_is); (case k => k_is)))
    (case d__law_take => (refine' Sp.def_at ?a ?l ?c ?k; (case a => k_is); (case l => k_is); (case c => k_is); (case k => k_is)))
    (case d__law_cells => (refine' Sp.def_at ?a ?l ?c ?k; (case a => k_is); (case l => k_is); (case c => k_is); (case k => k_is)))
    (case d__law_of => (refine' Sp.def_at ?a ?l ?c ?k; (case a => k_is); (case l => k_is); (case c => k_is); (case k => k_is)))
    (case d__law_pick => (refine' Sp.def_at ?a ?l ?c ?k; (case a => k_is); (case l => k_is); (case c => k_is); (case k => k_is)))
    (case d__law_same => (refine' Sp.def_at ?a ?l ?c ?k; (case a => k_is); (case l => k_is); (case c => k_is); (case k => k_is)))
    (case d__law_is_int => (refine' Sp.def_at ?a ?l ?c ?k; (case a => k_is); (case l => k_is); (case c => k_is); (case k => k_is)))
    (case d__law_flat => (refine' Sp.def_at ?a ?l ?c ?k; (case a => k_is); (case l => k_is); (case c => k_is); (case k => k_is)))
    (case d__law_turns => (refine' Sp.def_at ?a ?l ?c ?k; (case a => k_is); (case l => k_is); (case c => k_is); (case k => k_is)))
    (case d__law_undone => (refine' Sp.def_at ?a ?l ?c ?k; (case a => k_is); (case l => k_is); (case c => k_is); (case k => k_is)))
    (case d__law_word => (refine' Sp.def_at ?a ?l ?c ?k; (case a => k_is); (case l => k_is); (case c => k_is); (case k => k_is)))
    (case d__law_loose => (refine' Sp.def_at ?a ?l ?c ?k; (case a => k_is); (case l => k_is); (case c => k_is); (case k => k_is)))
    (case d__law_put => (refine' Sp.def_at ?a ?l ?c ?k; (case a => k_is); (case l => k_is); (case c => k_is); (case k => k_is)))
    (case d__law_as_table => (refine' Sp.def_at ?a ?l ?c ?k; (case a => k_is); (case l => k_is); (case c => k_is); (case k => k_is)))
    (case d__law_some_table => (refine' Sp.def_at ?a ?l ?c ?k; (case a => k_is); (case l => k_is); (case c => k_is); (case k => k_is)))
    (case d__law_row => (refine' Sp.def_at ?a ?l ?c ?k; (case a => k_is); (case l => k_is); (case c => k_is); (case k => k_is)))
    (case d__law_turn => (refine' Sp.def_at ?a ?l ?c ?k; (case a => k_is); (case l => k_is); (case c => k_is); (case k => k_is)))
    (case d__law_a_space => (refine' Sp.def_at ?a ?l ?c ?k; (case a => k_is); (case l => k_is); (case c => k_is); (case k => k_is)))
    (case d__law_a_move => (refine' Sp.def_at ?a ?l ?c ?k; (case a => k_is); (case l => k_is); (case c => k_is); (case k => k_is)))
    (case d__law_a_table => (refine' Sp.def_at ?a ?l ?c ?k; (case a => k_is); (case l => k_is); (case c => k_is); (case k => k_is)))
    (case d__law_a_given => (refine' Sp.def_at ?a ?l ?c ?k; (case a => k_is); (case l => k_is); (case c => k_is); (case k => k_is)))
    (case d__law_some_discs => (refine' Sp.def_at ?a ?l ?c ?k; (case a => k_is); (case l => k_is); (case c => k_is); (case k => k_is)))
    (case d__law_a_surface => (refine' Sp.def_at ?a ?l ?c ?k; (case a => k_is); (case l => k_is); (case c => k_is); (case k => k_is)))
    (case d__law_some_surface => (refine' Sp.def_at ?a ?l ?c ?k; (case a => k_is); (case l => k_is); (case c => k_is); (case k => k_is)))
    (case d__law_bent => (refine' Sp.def_at ?a ?l ?c ?k; (case a => k_is); (case l => k_is); (case c => k_is); (case k => k_is)))
    (case d__law_lap_one => (refine' Sp.def_at ?a ?l ?c ?k; (case a => k_is); (case l => k_is); (case c => k_is); (case k => k_is)))
    (case d_law => (refine' Sp.def_at ?a ?l ?c ?k; (case a => k_is); (case l => k_is); (case c => k_is); (case k => k_is)))
