import PyProof.Rows.All
import Wide.All
import OpenK.AllK
import Wide.FinOn
import KE.KStateDown
import HandS.ForMost
import HandS.Defaults
import HandS.Head0
import HandS.Head1
import HandS.Head2
import HandS.HeadEnd
import HandS.HeadHook1
import HandS.HeadHook2
import HandS.EndBits
import PySem.Challenge.RW_secondknock_k20_whole_the_least_change_o
import HandS.TupAny
import HandS.IsInst
import HandS.Conv
import HandS.Flow
import HandS.Style
import HandS.TupSets
import HandS.Zip
import HandS.Walk
import KE.GoesEnum
import KE.SortData
import KE.KeyNested
import KE.KDictKeyed
import HandS.DictTup
import KE.KDictItemsList
import KE.KDictSum
import HandS.ExcValue
import HandS.WideBits
set_option Elab.async false
set_option linter.all false
set_option maxRecDepth 100000
set_option maxHeartbeats 0
/-! The head: the defs by places, the facts by names, the top's run. -/
namespace SK
open PySem PySem.Spec PyProof.Rows L2
def top (i : Nat) : Stmt := PySem.Challenge.pw_secondknock_k20_whole_the_least_change_o.main.body.getD i (.Pass ⟨0, 0, 0, 0⟩)

def defAt (x : Str) (i : Nat) : He.DefD := ⟨(x, none), x, x, defArgs (top i), defBody (top i), defScope (top i), [], []⟩
def fns0 : List He.DefD := [defAt "tupled" 8, defAt "set_of" 9, defAt "earlier" 10, defAt "later" 11, defAt "added" 12, defAt "row_at" 15, defAt "value_at" 16, defAt "is_over" 17, defAt "least_of" 18, defAt "knock_form" 19, defAt "after" 20, defAt "joined" 21, defAt "either" 22, defAt "both" 23, defAt "without" 24, defAt "begins_of" 25]
def fns1 : List He.DefD := [defAt "late_by" 26, defAt "rises" 28, defAt "rising" 37, defAt "sure_zone" 38, defAt "sure_line" 39, defAt "sure_out" 40, defAt "form_of_zone" 41, defAt "form_of_line" 42, defAt "form_of_out" 43, defAt "is_prompt" 44, defAt "on_within" 45, defAt "shorter" 46, defAt "least_shorter" 47, defAt "_law_box" 49, defAt "_law_take" 50, defAt "_law_cells" 51]
def fns2 : List He.DefD := [defAt "_law_of" 52, defAt "_law_pick" 53, defAt "_law_lists" 54, defAt "_law_same" 55, defAt "_law_hall" 56, defAt "_law_inn" 57, defAt "_law_spots" 58, defAt "_law_feelers" 59, defAt "_law_kth" 60, defAt "_law_hours" 61, defAt "_law_line_hour" 62, defAt "_law_outs" 63, defAt "_law_loop" 64, defAt "_law_wires" 65, defAt "_law_zone" 66, defAt "_law_line" 67]
def fns3 : List He.DefD := [defAt "_law_abode" 68, defAt "_law_begun" 69, defAt "_law_put_at" 70, defAt "_law_meet_rows" 71, defAt "_law_zone_rows" 72, defAt "_law_fire_of" 73, defAt "_law_zone_fires" 74, defAt "_law_out_at" 75, defAt "_law_behind" 76, defAt "_law_rise" 77, defAt "_law_hand_right" 78, defAt "_law_is_so" 79, defAt "_law_least_less" 80, defAt "_law_right" 81, defAt "law" 82]
def fns : List He.DefD := fns0 ++ fns1 ++ fns2 ++ fns3
def fas0 : List He.Fa := [.glo "tupled", .glo "set_of", .glo "earlier", .glo "later", .glo "added", .glo "row_at", .glo "value_at", .glo "is_over", .glo "least_of", .glo "knock_form", .glo "after", .glo "joined", .glo "either", .glo "both", .glo "without", .glo "begins_of"]
def fas1 : List He.Fa := [.glo "late_by", .glo "rises", .glo "rising", .glo "sure_zone", .glo "sure_line", .glo "sure_out", .glo "form_of_zone", .glo "form_of_line", .glo "form_of_out", .glo "is_prompt", .glo "on_within", .glo "shorter", .glo "least_shorter", .glo "_law_box", .glo "_law_take", .glo "_law_cells"]
def fas2 : List He.Fa := [.glo "_law_of", .glo "_law_pick", .glo "_law_lists", .glo "_law_same", .glo "_law_hall", .glo "_law_inn", .glo "_law_spots", .glo "_law_feelers", .glo "_law_kth", .glo "_law_hours", .glo "_law_line_hour", .glo "_law_outs", .glo "_law_loop", .glo "_law_wires", .glo "_law_zone", .glo "_law_line"]
def fas3 : List He.Fa := [.glo "_law_abode", .glo "_law_begun", .glo "_law_put_at", .glo "_law_meet_rows", .glo "_law_zone_rows", .glo "_law_fire_of", .glo "_law_zone_fires", .glo "_law_out_at", .glo "_law_behind", .glo "_law_rise", .glo "_law_hand_right", .glo "_law_is_so", .glo "_law_least_less", .glo "_law_right", .glo "law"]
def fasB : List He.Fa := [.free "tuple", .free "isinstance", .free "list", .free "sorted", .free "set", .free "min", .free "max", .free "dict", .free "all", .free "any", .free "enumerate", .free "len", .free "range", .free "int", .free "abs", .free "zip", .free "bool", .free "str"]
def fasI : List He.Fa := [.int "MOST_ROWS" 400, .int "ZONES" 1, .int "LINES" 2, .int "OUTS" 3, .int "WHEN" 1, .int "ASKED" 2, .int "WAIT" 3, .int "OUT" 5]
def fas : List He.Fa := fas0 ++ fas1 ++ fas2 ++ fas3 ++ fasB ++ fasI
def loose0 : List PySem.Str := ["NoZone", "NoLine", "NoOut", "CanNot", "TooMany", "Unfit", "MOST_ROWS", "ZONES", "LINES", "OUTS", "WHEN", "ASKED", "WAIT", "OUT", "tupled", "set_of", "earlier", "later", "added", "row_at", "value_at", "is_over", "least_of", "knock_form"]
def loose1 : List PySem.Str := ["after", "joined", "either", "both", "without", "begins_of", "late_by", "rises", "rising", "sure_zone", "sure_line", "sure_out", "form_of_zone", "form_of_line", "form_of_out", "is_prompt", "on_within", "shorter", "least_shorter", "_law_box", "_law_take", "_law_cells", "_law_of", "_law_pick"]
def loose2 : List PySem.Str := ["_law_lists", "_law_same", "_law_hall", "_law_inn", "_law_spots", "_law_feelers", "_law_kth", "_law_hours", "_law_line_hour", "_law_outs", "_law_loop", "_law_wires", "_law_zone", "_law_line", "_law_abode", "_law_begun", "_law_put_at", "_law_meet_rows", "_law_zone_rows", "_law_fire_of", "_law_zone_fires", "_law_out_at", "_law_behind", "_law_rise"]
def loose3 : List PySem.Str := ["_law_hand_right", "_law_is_so", "_law_least_less", "_law_right"]
def loose : List PySem.Str := loose0 ++ loose1 ++ loose2 ++ loose3
abbrev R : PySem.W.OpenRow := PySem.W.OpenLaw.row PySem.Challenge.rw_secondknock_k20_whole_the_least_change_o
abbrev hk : PySem.W.Hook := He.hookD 4 fas fns
def ob (s : PySem.W.SharedT) : He.AlD := He.obsDG 4 fas fns (HandSHeadRun.getT s)
theorem ob_eq (s : PySem.W.SharedT) : ob s = hk.obs s.abs := He.obsDG_eq (HandSHeadRun.getT_eq s)
theorem run (w : World) : HandSHeadRun.RunEq R (PySem.W.view R.prog [82]) hk ob 6000 loose w := by
  intro os
  kernel_rfl
end SK
set_option maxHeartbeats 1000000
/-! Tuples of two kinds: told by what they hold, or by their very object too. -/
namespace SK
open PySem PySem.Spec PyProof.Rows L2
/-- the tuple at a; with its object, if b -/
def TupAt (H : Hp) (a : Addr) (xs : List V) : Bool → Prop
  | false => H a = some (.tup xs)
  | true => ∃ o : Obj, o.dict = none ∧ H a = some (.frz o (.tup xs))
theorem TupAt.mono {H H' : Hp} (s : Same H H') {a : Addr} {xs : List V} : ∀ {b : Bool}, TupAt H a xs b → TupAt H' a xs b
  | false, h => s _ _ h
  | true, ⟨o, h1, h2⟩ => ⟨o, h1, s _ _ h2⟩
theorem TupAt.sq {K : PySem.W.Frag} {H : Hp} {a : Addr} {xs : List V} : ∀ {b : Bool}, TupAt H a xs b → SqT K H a xs
  | false, h => .inl (.inl h)
  | true, ⟨o, _, h⟩ => .inl (.inr ⟨o, h⟩)
/-- a new tuple, of either kind -/
def NewT (H : Hp) (xs : List V) (Q : VK) : Prop := (∀ p, H p = none → Q (.ref p) (upd H p (.tup xs))) ∨ ∀ p (o : Obj), H p = none → o.dict = none → Q (.ref p) (upd H p (.frz o (.tup xs)))
theorem newT {H : Hp} {xs : List V} {Q : VK} (b : Bool) (h : ∀ p u, H p = none → TupAt (upd H p u) p xs b → Q (.ref p) (upd H p u)) : NewT H xs Q := by
  cases b with
  | false => exact .inl fun p hp => h p _ hp upd_same
  | true => exact .inr fun p o hp ho => h p _ hp ⟨o, ho, upd_same⟩
section
variable {X : Cx} {pins : List (Addr × Obj)} {σ : L2.St} {H : Hp} {s : Shared} {Q : VK} {xs : List V} {its : List Value}
theorem NewT.go {s1 : Shared} (q : NewT H xs Q) (I : Inv X pins σ H s1) (z : xs.length ≤ sizeLine) (r : Vals xs its) :
    ∃ x H', Inv X pins σ H' { s1 with heap := s1.heap.push { cls := .type "tuple", data := .seq its.toArray } } ∧ RelV x (.ref s1.heap.objs.size) ∧ Q x H' := by
  have hf : H s1.heap.objs.size = none := I.hok.fresh (Nat.le_refl _)
  rcases q with q | q
  · exact ⟨.ref s1.heap.objs.size, upd H s1.heap.objs.size (.tup xs), I.laid (t' := s1.toks) (fun b u e => Heap.get?_push_of_some _ e) (Nat.le_refl _) ⟨z, its, r, ⟨_, Heap.get?_push_size _ rfl, rfl, _, rfl⟩⟩, rfl, q _ hf⟩
  · exact ⟨.ref s1.heap.objs.size, upd H s1.heap.objs.size (.frz { cls := .type "tuple", data := .seq its.toArray } (.tup xs)), I.laid (t' := s1.toks) (fun b u e => Heap.get?_push_of_some _ e) (Nat.le_refl _) ⟨Heap.get?_push_size _ rfl, z, its, r, ⟨_, Heap.get?_push_size _ rfl, rfl, _, rfl⟩⟩, rfl, q _ _ hf rfl⟩
def tTupN (ta : TA) : TE := fun σ H Q => ta σ H fun vs H1 => vs.length ≤ sizeLine ∧ NewT H1 vs Q
theorem pe_tupN {es : List Expr} {t : TA} {k : Nat} {pos : Pos} (h : PA X es t) : PE X (.Tuple es k pos) (tTupN t) := by
  refine ⟨fun pins s σ H Q I hq => ?_⟩
  refine wpAny_Tuple_spliced (thn (h.run pos pins s σ H _ I hq) fun us s1 ⟨xs, H1, I1, r, z, q⟩ => ⟨by rw [← r.length]; exact z, ?_⟩)
  exact q.go I1 z r
def rCatN (K : PySem.W.Frag) : R2 := fun x y H Q => ∃ a b xs ys, x = .ref a ∧ y = .ref b ∧ SqT K H a xs ∧ SqT K H b ys ∧ xs.length + ys.length ≤ sizeLine ∧
  (xs = [] → Q (.ref b) H) ∧ (ys = [] → xs ≠ [] → Q (.ref a) H) ∧ (xs ≠ [] → ys ≠ [] → NewT H (xs ++ ys) Q)
theorem op_catN : OpR X (binaryOp .Add) (rCatN X.K) := by
  intro pins s σ H x y v u Q I rx ry h
  obtain ⟨a, b, xs, ys, rfl, rfl, ha, hb, hz, q0, q1, q2⟩ := h
  cases rx
  cases ry
  obtain ⟨its, r1, p1, _⟩ := I.tuple ha
  obtain ⟨its2, r2, p2, _⟩ := I.tuple hb
  by_cases hx : xs = []
  · subst hx
    cases r1
    exact cat_tup0 p1 p2 ⟨.ref b, H, I, rfl, q0 rfl⟩
  · refine HT.cat_tup p1 p2 (fun z => hx (r1.nil_iff.mp z)) (fun z => ⟨.ref a, H, I, rfl, q1 (r2.nil_iff.mp z) hx⟩) (fun z => ?_) (by rw [← r1.length, ← r2.length]; exact hz)
    have g := (q2 hx fun w => z (r2.nil_iff.mpr w)).go (its := its ++ its2) I (by rw [List.length_append]; exact hz) (r1.append r2)
    exact g
def rSlN (K : PySem.W.Frag) : V → Option Int → Option Int → Hp → VK → Prop := fun x lo hi H Q => ∃ a xs, x = .ref a ∧ SqT K H a xs ∧
  (HT.sIx xs.length 0 lo = 0 ∧ HT.sIx xs.length xs.length hi = xs.length → Q (.ref a) H) ∧ (¬ (HT.sIx xs.length 0 lo = 0 ∧ HT.sIx xs.length xs.length hi = xs.length) → NewT H (cutV xs lo hi) Q)
theorem sl_tupN : SlR X (rSlN X.K) := by
  intro pins s σ H x v vl vu lo hi sl Q I rx hs pl pu h
  obtain ⟨a, xs, rfl, hx, q1, q2⟩ := h
  cases rx
  obtain ⟨its, r, ht, hz⟩ := I.tuple hx
  have hlen : its.toArray.size = xs.length := by rw [List.size_toArray]; exact r.length.symm
  refine ⟨"tuple", _, PyProof.Rows.slot_tuple_getitem.lookup, ht.typeIs, ?_⟩
  by_cases hw : HT.sIx xs.length 0 lo = 0 ∧ HT.sIx xs.length xs.length hi = xs.length
  · exact getItem_tuple_whole ht hs pl pu (by rw [hlen]; exact hw) ⟨.ref a, H, I, rfl, q1 hw⟩
  · refine HT.getItem_tuple_cut ht hs pl pu (by rw [hlen]; exact hw) ?_ (by rw [hlen]; exact hz)
    rw [hlen]
    exact (q2 hw).go I (Nat.le_trans (cutV_length xs lo hi) hz) ((r.drop (HT.sIx xs.length 0 lo)).take (HT.sIx xs.length xs.length hi - HT.sIx xs.length 0 lo))
theorem call_tupleN : CallR X (.type "tuple") (fun xs H Q => ∃ p ys, xs = [.ref p] ∧ ((SqL X.K H p ys ∧ NewT H ys Q) ∨ (SqT X.K H p ys ∧ Q (.ref p) H))) := by
  intro pins s σ H xs us Q I r h
  obtain ⟨p, ys, rfl, h⟩ := h
  obtain ⟨u, rfl, rx⟩ := vals1 r
  cases rx
  rcases h with ⟨hq, q⟩ | ⟨hq, q⟩
  · obtain ⟨its, r', pl, hz⟩ := I.list hq
    have hlen := r'.length
    refine call_tuple_list pl.isList (fun h' kp => ?_) (by simp only [List.size_toArray] <;> omega)
    have I1 : Inv X pins σ H { s with heap := h' } := I.kept (t' := s.toks) kp
    exact q.go I1 hz r'
  · obtain ⟨its, r', pl, hz⟩ := I.tuple hq
    exact call_tuple_same pl ⟨.ref p, H, I, rfl, q⟩
end
end SK
set_option maxHeartbeats 1000000
/-! Readings by data: what an expression, a statement makes of the data in the slots, heap left to itself. -/
namespace SK
open PySem PySem.Spec PyProof.Rows L2

/-! ### data in the abstract heap -/
def kD : Key → PyData
  | .inl i => .int i
  | .inr x => .str x
/-- a row of pairs whose first is a tuple: such tuples are told with their objects -/
def isPair : PyData → Bool
  | .tuple [.tuple _, _] => true
  | _ => false
def rowish (ds : List PyData) : Bool := ds.all isPair
mutual
inductive Dv (H : Hp) : V → PyData → Prop
  | non : Dv H .non .none
  | bl (b : Bool) : Dv H (.bl b) (.bool b)
  | int (i : Int) : Dv H (.int i) (.int i)
  | str (x : Str) : Dv H (.str x) (.str x)
  | lst {a : Addr} {xs : List V} {ds : List PyData} : H a = some (.lst xs) → DvA H xs ds → Dv H (.ref a) (.list ds)
  | tup {a : Addr} {xs : List V} {ds : List PyData} : TupAt H a xs (rowish ds) → DvA H xs ds → Dv H (.ref a) (.tuple ds)
  | dic {a : Addr} {kvs : List (List Key × V)} {es : List (PyData × PyData)} : H a = some (.dT kvs) → DvE H kvs es → Dv H (.ref a) (.dict es)
inductive DvA (H : Hp) : List V → List PyData → Prop
  | nil : DvA H [] []
  | cons {v : V} {d : PyData} {vs : List V} {ds : List PyData} : Dv H v d → DvA H vs ds → DvA H (v :: vs) (d :: ds)
inductive DvE (H : Hp) : List (List Key × V) → List (PyData × PyData) → Prop
  | nil : DvE H [] []
  | cons {k : List Key} {v : V} {d : PyData} {kvs : List (List Key × V)} {es : List (PyData × PyData)} : Dv H v d → DvE H kvs es → DvE H ((k, v) :: kvs) ((.tuple (k.map kD), d) :: es)
end
mutual
theorem Dv.mono {H H' : Hp} (s : Same H H') : ∀ {v : V} {d : PyData}, Dv H v d → Dv H' v d
  | _, _, .non => .non
  | _, _, .bl b => .bl b
  | _, _, .int i => .int i
  | _, _, .str x => .str x
  | _, _, .lst e h => .lst (s _ _ e) (DvA.mono s h)
  | _, _, .tup e h => .tup (e.mono s) (DvA.mono s h)
  | _, _, .dic e h => .dic (s _ _ e) (DvE.mono s h)
theorem DvA.mono {H H' : Hp} (s : Same H H') : ∀ {vs : List V} {ds : List PyData}, DvA H vs ds → DvA H' vs ds
  | _, _, .nil => .nil
  | _, _, .cons h t => .cons (Dv.mono s h) (DvA.mono s t)
theorem DvE.mono {H H' : Hp} (s : Same H H') : ∀ {kvs : List (List Key × V)} {es : List (PyData × PyData)}, DvE H kvs es → DvE H' kvs es
  | _, _, .nil => .nil
  | _, _, .cons h t => .cons (Dv.mono s h) (DvE.mono s t)
end
theorem DvA.length {H : Hp} : ∀ {vs : List V} {ds : List PyData}, DvA H vs ds → vs.length = ds.length
  | _, _, .nil => rfl
  | _, _, .cons _ t => congrArg Nat.succ (DvA.length t)
theorem DvA.get {H : Hp} : ∀ {vs : List V} {ds : List PyData} {i : Nat} {d : PyData}, DvA H vs ds → ds[i]? = some d → ∃ v, vs[i]? = some v ∧ Dv H v d
  | _, _, _, _, .nil, e => by simp at e
  | _, _, 0, _, .cons h _, e => by simp at e; subst e; exact ⟨_, rfl, h⟩
  | _, _, i + 1, _, .cons _ t, e => by
    obtain ⟨v, h1, h2⟩ := DvA.get (i := i) t (by simpa using e)
    exact ⟨v, by simpa using h1, h2⟩
theorem DvA.getV {H : Hp} : ∀ {vs : List V} {ds : List PyData} {i : Nat} {v : V}, DvA H vs ds → vs[i]? = some v → ∃ d, ds[i]? = some d ∧ Dv H v d
  | _, _, _, _, .nil, e => by simp at e
  | _, _, 0, _, .cons h _, e => by simp at e; subst e; exact ⟨_, rfl, h⟩
  | _, _, i + 1, _, .cons _ t, e => by
    obtain ⟨d, h1, h2⟩ := DvA.getV (i := i) t (by simpa using e)
    exact ⟨d, by simpa using h1, h2⟩
theorem DvA.append {H : Hp} : ∀ {vs ws : List V} {ds es : List PyData}, DvA H vs ds → DvA H ws es → DvA H (vs ++ ws) (ds ++ es)
  | _, _, _, _, .nil, t => t
  | _, _, _, _, .cons h r, t => .cons h (DvA.append r t)
theorem DvA.take {H : Hp} : ∀ {vs : List V} {ds : List PyData} (n : Nat), DvA H vs ds → DvA H (vs.take n) (ds.take n)
  | _, _, 0, _ => .nil
  | _, _, _ + 1, .nil => .nil
  | _, _, n + 1, .cons h t => .cons h (DvA.take n t)
theorem DvA.drop {H : Hp} : ∀ {vs : List V} {ds : List PyData} (n : Nat), DvA H vs ds → DvA H (vs.drop n) (ds.drop n)
  | _, _, 0, h => h
  | _, _, _ + 1, .nil => .nil
  | _, _, n + 1, .cons _ t => DvA.drop n t
theorem DvA.one {H : Hp} {v : V} {d : PyData} (h : Dv H v d) : DvA H [v] [d] := .cons h .nil

/-! ### the heap grows; a part of it is looked at alone -/
def isT : HO → Bool
  | .tup _ => true
  | _ => false
/-- a thing that is no tuple stands at a -/
def Live (H : Hp) (a : Addr) : Prop := ∃ u, H a = some u ∧ isT u = false
theorem Live.up {H H' : Hp} {a : Addr} (h : Live H a) (s : Same H H') : Live H' a := let ⟨u, h1, h2⟩ := h; ⟨u, s _ _ h1, h2⟩
theorem Live.ne {H : Hp} {a : Addr} (h : Live H a) : H a ≠ none := fun z => by obtain ⟨u, h1, _⟩ := h; rw [h1] at z; cases z
structure At (B B' H H' : Hp) : Prop where
  b : Same B B'
  i : Same B' H'
  o : Same H H'
  ap : ∀ a : Addr, B a = none → Live H a → B' a = none
theorem At.refl {B H : Hp} (s : Same B H) : At B B H H := ⟨Same.refl B, s, Same.refl H, fun _ h _ => h⟩
theorem At.trans {B B1 B2 H H1 H2 : Hp} (x : At B B1 H H1) (y : At B1 B2 H1 H2) : At B B2 H H2 :=
  ⟨x.b.trans y.b, y.i, x.o.trans y.o, fun a h1 h2 => y.ap a (x.ap a h1 h2) (h2.up x.o)⟩
theorem same_new {H : Hp} {p : Addr} (h : H p = none) (o : HO) : Same H (upd H p o) := fun b u q => by rw [upd_ne (ne_of_none q h)]; exact q
theorem At.new {B H : Hp} (s : Same B H) {p : Addr} (h : H p = none) (o : HO) : At B (upd B p o) H (upd H p o) where
  b := same_new (s.free h) o
  i := fun a u q => by
    by_cases e : a = p
    · subst e; rw [upd_same] at q ⊢; exact q
    · rw [upd_ne e] at q ⊢; exact s a u q
  o := same_new h o
  ap := fun a h1 h2 => by
    have e : a ≠ p := fun z => h2.ne (by rw [z]; exact h)
    rw [upd_ne e]
    exact h1
theorem TupAt.alone {B H : Hp} {p : Addr} {u : HO} {xs : List V} : ∀ {b : Bool}, TupAt (upd H p u) p xs b → TupAt (upd B p u) p xs b
  | false, h => by
    have e : (L2.upd H p u) p = some (.tup xs) := h
    rw [upd_same] at e
    show (L2.upd B p u) p = some (.tup xs)
    rw [upd_same]; exact e
  | true, ⟨o, h1, h2⟩ => ⟨o, h1, by rw [upd_same] at h2 ⊢; exact h2⟩
theorem At.newTup {B B1 H H1 : Hp} (a1 : At B B1 H H1) {vs : List V} {ds : List PyData} {Q : VK} {p : Addr} {u : HO} (k : At B (upd B1 p u) H (upd H1 p u) → Dv (upd B1 p u) (.ref p) (.tuple ds) → Q (.ref p) (upd H1 p u)) (hp : H1 p = none) (ht : TupAt (upd H1 p u) p vs (rowish ds)) (dvs : DvA B1 vs ds) : Q (.ref p) (upd H1 p u) := by
  have a2 := At.new a1.i hp u
  exact k (a1.trans a2) (.tup ht.alone (dvs.mono a2.b))
theorem Same.upd {B H : Hp} (s : Same B H) {p : Addr} (h : B p = none) (o : HO) : Same B (L2.upd H p o) := fun b u q => by
  rw [upd_ne (ne_of_none q h)]
  exact s b u q

/-! ### the slots -/
abbrev Rho := List (Option PyData)
def rd (ρ : Rho) (i : Nat) : Option PyData := (ρ[i]?).join
structure En (B : Hp) (σ : L2.St) (ρ : Rho) : Prop where
  len : σ.length = ρ.length
  at_ : ∀ (i : Nat) (d : PyData), ρ[i]? = some (some d) → ∃ v, σ[i]? = some (some v) ∧ Dv B v d
theorem En.mono {B B' : Hp} {σ : L2.St} {ρ : Rho} (e : En B σ ρ) (s : Same B B') : En B' σ ρ := ⟨e.len, fun i d h => by
  obtain ⟨v, h1, h2⟩ := e.at_ i d h
  exact ⟨v, h1, h2.mono s⟩⟩
theorem En.set {B : Hp} {σ : L2.St} {ρ : Rho} (e : En B σ ρ) (i : Nat) {v : V} {d : PyData} (h : Dv B v d) : En B (σ.set i (some v)) (ρ.set i (some d)) := by
  refine ⟨by rw [List.length_set, List.length_set]; exact e.len, fun j c q => ?_⟩
  by_cases hj : i = j
  · subst hj
    by_cases hl : i < ρ.length
    · rw [List.getElem?_set_self hl] at q
      cases q
      exact ⟨v, List.getElem?_set_self (by rw [e.len]; exact hl), h⟩
    · rw [List.getElem?_eq_none (by rw [List.length_set]; omega)] at q
      cases q
  · rw [List.getElem?_set_ne hj] at q
    obtain ⟨u, h1, h2⟩ := e.at_ j c q
    exact ⟨u, by rw [List.getElem?_set_ne hj]; exact h1, h2⟩
theorem En.rd {B : Hp} {σ : L2.St} {ρ : Rho} (e : En B σ ρ) {i : Nat} {d : PyData} (h : rd ρ i = some d) : ∃ v, σ[i]? = some (some v) ∧ Dv B v d := by
  refine e.at_ i d ?_
  unfold SK.rd at h
  cases q : ρ[i]? with
  | none => rw [q] at h; cases h
  | some o => rw [q] at h; exact congrArg some h
def wipeR (ρ : Rho) : List Nat → Rho
  | [] => ρ
  | v :: vs => (wipeR ρ vs).set v none
theorem wipeR_length (ρ : Rho) : ∀ vs : List Nat, (wipeR ρ vs).length = ρ.length
  | [] => rfl
  | v :: vs => by unfold wipeR; rw [List.length_set, wipeR_length ρ vs]
theorem wipeR_some {ρ : Rho} {i : Nat} {d : PyData} : ∀ {vs : List Nat}, (wipeR ρ vs)[i]? = some (some d) → ρ[i]? = some (some d) ∧ i ∉ vs
  | [], h => ⟨h, by simp⟩
  | v :: vs, h => by
    unfold wipeR at h
    by_cases hi : v = i
    · subst hi
      by_cases hv : v < (wipeR ρ vs).length
      · rw [List.getElem?_set_self hv] at h; cases h
      · rw [List.getElem?_eq_none (by rw [List.length_set]; omega)] at h; cases h
    · rw [List.getElem?_set_ne hi] at h
      obtain ⟨h1, h2⟩ := wipeR_some h
      exact ⟨h1, fun m => by rcases List.mem_cons.mp m with q | q; exact hi q.symm; exact h2 q⟩
theorem En.wipe {B : Hp} {σ : L2.St} {ρ : Rho} (e : En B σ ρ) (vs : List Nat) : En B (L2.wipe σ vs) (wipeR ρ vs) := by
  refine ⟨by rw [wipe_length, wipeR_length]; exact e.len, fun i d q => ?_⟩
  obtain ⟨h1, h2⟩ := wipeR_some q
  obtain ⟨v, h3, h4⟩ := e.at_ i d h1
  exact ⟨v, by rw [wipe_out h2]; exact h3, h4⟩
/-- σ' is σ but at some slots -/
def But (is : List Nat) (σ σ' : L2.St) : Prop := σ'.length = σ.length ∧ ∀ i : Nat, i ∉ is → σ'[i]? = σ[i]?
theorem But.refl (is : List Nat) (σ : L2.St) : But is σ σ := ⟨rfl, fun _ _ => rfl⟩
theorem But.set (σ : L2.St) (i : Nat) (x : Option V) : But [i] σ (σ.set i x) := ⟨List.length_set, fun j hj => by
  rw [List.getElem?_set_ne (fun e => hj (by rw [e]; exact List.mem_singleton.mpr rfl))]⟩
theorem But.trans {is js : List Nat} {a b c : L2.St} (x : But is a b) (y : But js b c) : But (is ++ js) a c :=
  ⟨y.1.trans x.1, fun i h => (y.2 i fun m => h (List.mem_append_right _ m)).trans (x.2 i fun m => h (List.mem_append_left _ m))⟩
theorem wipe_in {σ : L2.St} {i : Nat} : ∀ {vs : List Nat}, i ∈ vs → i < σ.length → (wipe σ vs)[i]? = some none
  | v :: vs, h, hl => by
    unfold wipe
    by_cases e : v = i
    · subst e
      exact List.getElem?_set_self (by rw [wipe_length]; exact hl)
    · rw [List.getElem?_set_ne e]
      rcases List.mem_cons.mp h with q | q
      · exact absurd q.symm e
      · exact wipe_in q hl
theorem But.wipe {is vs : List Nat} {σ σ' : L2.St} (x : But is σ σ') (h : ∀ i ∈ is, i ∈ vs) : wipe σ' vs = wipe σ vs := by
  refine List.ext_getElem? fun i => ?_
  by_cases hm : i ∈ vs
  · by_cases hl : i < σ.length
    · rw [wipe_in hm hl, wipe_in hm (by rw [x.1]; exact hl)]
    · rw [List.getElem?_eq_none (by rw [wipe_length, x.1]; omega), List.getElem?_eq_none (by rw [wipe_length]; omega)]
  · rw [wipe_out hm, wipe_out hm]
    exact x.2 i fun m => hm (h i m)

/-! ### the readings -/
abbrev DE := Rho → Option PyData
def tG (e : DE) : TE := fun σ H Q => ∃ B ρ d, Same B H ∧ En B σ ρ ∧ e ρ = some d ∧ ∀ v B' H', At B B' H H' → Dv B' v d → Q v H'
def tGT (e : DE) : TT := fun σ H Q => ∃ B ρ b, Same B H ∧ En B σ ρ ∧ e ρ = some (.bool b) ∧ ∀ B' H', At B B' H H' → Q b H'
abbrev DA := Rho → Option (List PyData)
def tGA (e : DA) : TA := fun σ H Q => ∃ B ρ ds, Same B H ∧ En B σ ρ ∧ e ρ = some ds ∧ ∀ vs B' H', At B B' H H' → DvA B' vs ds → Q vs H'
structure WalkD (J : It) (B : Hp) (xs : List PyData) : Prop where
  len : xs.length ≤ 1000
  go : ∀ i H, i < xs.length → Same B H → J.go i H
  stop : ∀ H, Same B H → J.stop xs.length H
  yld : ∀ i B1 H x H' d, Same B B1 → Same B1 H → J.yld i H x H' → xs[i]? = some d → ∃ B2, At B1 B2 H H' ∧ Dv B2 x d
def tGI (e : DA) : TI := fun σ H R => ∃ B ρ xs, Same B H ∧ En B σ ρ ∧ e ρ = some xs ∧ ∀ J B' H', At B B' H H' → WalkD J B' xs → R J H'
abbrev DG := Rho → PyData → Option Rho
def tGG (e : DG) (is : List Nat) : TG := fun v σ H K => ∃ B ρ d ρ', Same B H ∧ En B σ ρ ∧ Dv B v d ∧ e ρ d = some ρ' ∧ ∀ σ', En B σ' ρ' → But is σ σ' → K σ' H
inductive Out where
  | nx (ρ : Rho)
  | rt (d : PyData)
abbrev DS := Rho → Option Out
def tGS (e : DS) : TS := fun D σ H => ∃ B ρ o, Same B H ∧ En B σ ρ ∧ e ρ = some o ∧
  (∀ ρ', o = .nx ρ' → ∀ σ' B' H', At B B' H H' → En B' σ' ρ' → D.nx σ' H') ∧ (∀ d, o = .rt d → ∀ v B' H', At B B' H H' → Dv B' v d → D.rt v H')
structure GE (X : Cx) (e : Expr) (d : DE) : Prop where
  pe : PE X e (tG d)
structure GT (X : Cx) (e : Expr) (d : DE) : Prop where
  pt : PT X e (tGT d)
structure GW (X : Cx) (e : Expr) (d : DE) : Prop where
  pw : PW X e (tGT d)
structure GA (X : Cx) (es : List Expr) (d : DA) : Prop where
  pa : PA X es (tGA d)
  n : ∀ ρ ds, d ρ = some ds → ds.length = es.length
structure GI (X : Cx) (tg e : Expr) (d : DA) : Prop where
  pi : PI X tg e (tGI d)
structure GG (X : Cx) (tg : Expr) (d : DG) (is : List Nat) : Prop where
  pg : PG X tg (tGG d is)
structure GS (X : Cx) (s : Stmt) (d : DS) : Prop where
  ps : PS X s (tGS d)
structure GB (X : Cx) (s : List Stmt) (d : DS) : Prop where
  pss : PSs X s (tGS d)
theorem PE.imp {X : Cx} {e : Expr} {t t' : TE} (h : PE X e t) (f : ∀ σ H Q, t' σ H Q → t σ H Q) : PE X e t' := ⟨fun pins s σ H Q I w => h.run pins s σ H Q I (f σ H Q w)⟩
theorem PT.imp {X : Cx} {e : Expr} {t t' : TT} (h : PT X e t) (f : ∀ σ H Q, t' σ H Q → t σ H Q) : PT X e t' := ⟨fun pins s σ H Q I w => h.run pins s σ H Q I (f σ H Q w)⟩
theorem PW.imp {X : Cx} {e : Expr} {t t' : TT} (h : PW X e t) (f : ∀ σ H Q, t' σ H Q → t σ H Q) : PW X e t' := ⟨fun wh pins s σ H Q I w => h.run wh pins s σ H Q I (f σ H Q w)⟩
theorem PA.imp {X : Cx} {e : List Expr} {t t' : TA} (h : PA X e t) (f : ∀ σ H Q, t' σ H Q → t σ H Q) : PA X e t' := ⟨fun pos pins s σ H Q I w => h.run pos pins s σ H Q I (f σ H Q w)⟩
theorem PI.imp {X : Cx} {tg e : Expr} {t t' : TI} (h : PI X tg e t) (f : ∀ σ H R, t' σ H R → t σ H R) : PI X tg e t' := ⟨fun pins s σ H R I w => h.run pins s σ H R I (f σ H R w)⟩
theorem PG.imp {X : Cx} {tg : Expr} {t t' : TG} (h : PG X tg t) (f : ∀ v σ H Q, t' v σ H Q → t v σ H Q) : PG X tg t' := ⟨fun pins s σ H v u Q I r w => h.run pins s σ H v u Q I r (f v σ H Q w)⟩
theorem PS.imp {X : Cx} {e : Stmt} {t t' : TS} (h : PS X e t) (f : ∀ D σ H, t' D σ H → t D σ H) : PS X e t' := ⟨fun pins s σ H D I w => h.run pins s σ H D I (f D σ H w)⟩
theorem PSs.imp {X : Cx} {e : List Stmt} {t t' : TS} (h : PSs X e t) (f : ∀ D σ H, t' D σ H → t D σ H) : PSs X e t' := ⟨fun pins s σ H D I w => h.run pins s σ H D I (f D σ H w)⟩
theorem PI.or {X : Cx} {tg e : Expr} {t u : TI} (h : PI X tg e t) (k : PI X tg e u) : PI X tg e (fun σ H R => t σ H R ∨ u σ H R) := ⟨fun pins s σ H R I w => by
  rcases w with w | w
  · exact h.run pins s σ H R I w
  · exact k.run pins s σ H R I w⟩

section
variable {X : Cx} {a b c : Expr} {da db dc : DE} {pos : Pos}

/-! ### names, constants -/
def dVar (i : Nat) : DE := fun ρ => rd ρ i
def dC (d : PyData) : DE := fun _ => some d
theorem ge_var (i : Nat) {e : Expr} (h : PE X e (tVar i)) : GE X e (dVar i) := ⟨PE.imp h fun σ H Q ⟨B, ρ, d, s, en, e, k⟩ => by
  obtain ⟨v, h1, h2⟩ := en.rd e
  exact ⟨v, h1, k v B H (At.refl s) h2⟩⟩
theorem ge_c {e : Expr} {v : V} {d : PyData} (h : PE X e (tC v)) (r : ∀ B, Dv B v d) : GE X e (dC d) := ⟨PE.imp h fun σ H Q ⟨B, ρ, d', s, en, e, k⟩ => by
  cases e
  exact k v B H (At.refl s) (r B)⟩
theorem ge_int {i j p} : GE X (.Constant (.int i) j p) (dC (.int i)) := ge_c pe_int fun _ => .int i
theorem ge_str {x j p} : GE X (.Constant (.str x) j p) (dC (.str x)) := ge_c pe_str fun _ => .str x
theorem ge_bl {x j p} : GE X (.Constant (.bool x) j p) (dC (.bool x)) := ge_c pe_bl fun _ => .bl x
theorem ge_non {j p} : GE X (.Constant .none j p) (dC .none) := ge_c pe_non fun _ => .non
theorem ge_gint {x : Str} {i : Int} {p : Pos} (hg : Gl X x) (hm : ∃ t, X.mg x = some (.int i t)) (hd : (x == ("__debug__" : Str)) = false := by decide) : GE X (.Name x p) (dC (.int i)) := by
  obtain ⟨t, hm⟩ := hm
  exact ge_c (v := .int i) (pe_glob hg hm ⟨t, rfl⟩ hd) fun _ => .int i

/-! ### operators by data -/
def Rel2 (r : R2) (f : PyData → PyData → Option PyData) : Prop :=
  ∀ x y d e z B H Q, Same B H → Dv B x d → Dv B y e → f d e = some z → (∀ v B' H', At B B' H H' → Dv B' v z → Q v H') → r x y H Q
def dOp (f : PyData → PyData → Option PyData) (da db : DE) : DE := fun ρ => (da ρ).bind fun x => (db ρ).bind fun y => f x y
theorem tG_op {r : R2} {f : PyData → PyData → Option PyData} (hr : Rel2 r f) {σ : L2.St} {H : Hp} {Q : VK} (h : tG (dOp f da db) σ H Q) : tOp r (tG da) (tG db) σ H Q := by
  obtain ⟨B, ρ, d, s, en, e, k⟩ := h
  obtain ⟨x, ex, e2⟩ := Option.bind_eq_some_iff.mp e
  obtain ⟨y, ey, e3⟩ := Option.bind_eq_some_iff.mp e2
  refine ⟨B, ρ, x, s, en, ex, fun v B1 H1 a1 dv => ?_⟩
  refine ⟨B1, ρ, y, a1.i, en.mono a1.b, ey, fun w B2 H2 a2 dw => ?_⟩
  exact hr v w x y d B2 H2 Q a2.i (dv.mono a2.b) dw e3 fun u B3 H3 a3 du => k u B3 H3 ((a1.trans a2).trans a3) du
theorem ge_op {op : Operator} {r : R2} {f : PyData → PyData → Option PyData} (ho : OpR X (binaryOp op) r) (hr : Rel2 r f) (ha : GE X a da) (hb : GE X b db) : GE X (.BinOp a op b pos) (dOp f da db) :=
  ⟨PE.imp (pe_op ho ha.pe hb.pe) fun _ _ _ h => tG_op hr h⟩
theorem ge_cmp {op : CmpOp} {r : R2} {f : PyData → PyData → Option PyData} (ho : OpR X (compareOp op) r) (hr : Rel2 r f) (ha : GE X a da) (hb : GE X b db) (hm : behindInMarks op b = false) : GE X (.Compare a [op] [b] pos) (dOp f da db) :=
  ⟨PE.imp (pe_cmpR ho ha.pe hb.pe hm) fun _ _ _ h => tG_op hr h⟩
/-- a reading of a value as that of a test -/
theorem tGT_tG {σ : L2.St} {H : Hp} {Q : Bool → Hp → Prop} (h : tGT da σ H Q) : tG da σ H fun x H' => ∃ k, x = .bl k ∧ Q k H' := by
  obtain ⟨B, ρ, b, s, en, e, k⟩ := h
  refine ⟨B, ρ, .bool b, s, en, e, fun v B' H' a d => ?_⟩
  cases d
  exact ⟨b, rfl, k B' H' a⟩
theorem gt_cmp {op : CmpOp} {r : R2} {f : PyData → PyData → Option PyData} (ho : OpR X (compareOp op) r) (hr : Rel2 r f) (ha : GE X a da) (hb : GE X b db) (hm : behindInMarks op b = false) : GT X (.Compare a [op] [b] pos) (dOp f da db) :=
  ⟨PT.imp (pt_cmpR ho ha.pe hb.pe hm) fun _ _ _ h => tG_op hr (tGT_tG h)⟩
theorem gt_val (ha : GE X a da) (he : ∀ whole, isTrue a X.env whole = (do let v ← whole; standAt a.pos; holding [v] (truthy v)) := by intro _; rfl) : GT X a da :=
  ⟨PT.imp (pt_val ha.pe he) fun _ _ _ h => tGT_tG h⟩
def bI (f : Int → Int → PyData) : PyData → PyData → Option PyData
  | .int i, .int j => some (f i j)
  | _, _ => none
theorem rel_I0 {g : Int → Int → V} {f : Int → Int → PyData} (h : ∀ i j B, Dv B (g i j) (f i j)) : Rel2 (rI0 g) (bI f) := by
  intro x y d e z B H Q s hx hy hf k
  cases hx <;> cases hy <;> first | (cases hf; exact ⟨_, _, rfl, rfl, k _ B H (At.refl s) (h _ _ B)⟩) | exact nomatch hf
theorem ge_add (ha : GE X a da) (hb : GE X b db) : GE X (.BinOp a .Add b pos) (dOp (bI fun i j => .int (i + j)) da db) := ge_op op_add (rel_I0 fun _ _ _ => .int _) ha hb
theorem ge_sub (ha : GE X a da) (hb : GE X b db) : GE X (.BinOp a .Sub b pos) (dOp (bI fun i j => .int (i - j)) da db) := ge_op op_sub (rel_I0 fun _ _ _ => .int _) ha hb
theorem ge_lt (ha : GE X a da) (hb : GE X b db) : GE X (.Compare a [.Lt] [b] pos) (dOp (bI fun i j => .bool (decide (i < j))) da db) := ge_cmp op_lt (rel_I0 fun _ _ _ => .bl _) ha hb (nomark _)
theorem ge_le (ha : GE X a da) (hb : GE X b db) : GE X (.Compare a [.LtE] [b] pos) (dOp (bI fun i j => .bool (decide (i ≤ j))) da db) := ge_cmp op_le (rel_I0 fun _ _ _ => .bl _) ha hb (nomark _)
theorem ge_gt (ha : GE X a da) (hb : GE X b db) : GE X (.Compare a [.Gt] [b] pos) (dOp (bI fun i j => .bool (decide (j < i))) da db) := ge_cmp op_gt (rel_I0 fun _ _ _ => .bl _) ha hb (nomark _)
theorem ge_ge (ha : GE X a da) (hb : GE X b db) : GE X (.Compare a [.GtE] [b] pos) (dOp (bI fun i j => .bool (decide (j ≤ i))) da db) := ge_cmp op_ge (rel_I0 fun _ _ _ => .bl _) ha hb (nomark _)
theorem gt_lt (ha : GE X a da) (hb : GE X b db) : GT X (.Compare a [.Lt] [b] pos) (dOp (bI fun i j => .bool (decide (i < j))) da db) := gt_cmp op_lt (rel_I0 fun _ _ _ => .bl _) ha hb (nomark _)
theorem gt_le (ha : GE X a da) (hb : GE X b db) : GT X (.Compare a [.LtE] [b] pos) (dOp (bI fun i j => .bool (decide (i ≤ j))) da db) := gt_cmp op_le (rel_I0 fun _ _ _ => .bl _) ha hb (nomark _)
theorem gt_gt (ha : GE X a da) (hb : GE X b db) : GT X (.Compare a [.Gt] [b] pos) (dOp (bI fun i j => .bool (decide (j < i))) da db) := gt_cmp op_gt (rel_I0 fun _ _ _ => .bl _) ha hb (nomark _)
theorem gt_ge (ha : GE X a da) (hb : GE X b db) : GT X (.Compare a [.GtE] [b] pos) (dOp (bI fun i j => .bool (decide (j ≤ i))) da db) := gt_cmp op_ge (rel_I0 fun _ _ _ => .bl _) ha hb (nomark _)

/-! ### is None -/
def isN : PyData → Bool
  | .none => true
  | _ => false
theorem Dv.isN {B : Hp} {v : V} {d : PyData} (h : Dv B v d) : decide (v = .non) = isN d := by
  cases h <;> rfl
def bIsN : PyData → PyData → Option PyData
  | x, .none => some (.bool (isN x))
  | _, _ => none
def bNotN : PyData → PyData → Option PyData
  | x, .none => some (.bool (!isN x))
  | _, _ => none
theorem rel_isN : Rel2 (fun x y H Q => y = .non ∧ Q (.bl (decide (x = .non))) H) bIsN := by
  intro x y d e z B H Q s hx hy hf k
  cases hy with
  | non =>
    cases hf
    refine ⟨rfl, ?_⟩
    rw [hx.isN]
    exact k _ B H (At.refl s) (.bl _)
  | _ => exact nomatch hf
theorem rel_notN : Rel2 (fun x y H Q => y = .non ∧ Q (.bl (!decide (x = .non))) H) bNotN := by
  intro x y d e z B H Q s hx hy hf k
  cases hy with
  | non =>
    cases hf
    refine ⟨rfl, ?_⟩
    rw [hx.isN]
    exact k _ B H (At.refl s) (.bl _)
  | _ => exact nomatch hf
theorem ge_isN (ha : GE X a da) (hb : GE X b db) : GE X (.Compare a [.Is] [b] pos) (dOp bIsN da db) := ge_cmp op_isN rel_isN ha hb (nomark _)
theorem ge_notN (ha : GE X a da) (hb : GE X b db) : GE X (.Compare a [.IsNot] [b] pos) (dOp bNotN da db) := ge_cmp op_notN rel_notN ha hb (nomark _)
theorem gt_isN (ha : GE X a da) (hb : GE X b db) : GT X (.Compare a [.Is] [b] pos) (dOp bIsN da db) := gt_cmp op_isN rel_isN ha hb (nomark _)
theorem gt_notN (ha : GE X a da) (hb : GE X b db) : GT X (.Compare a [.IsNot] [b] pos) (dOp bNotN da db) := gt_cmp op_notN rel_notN ha hb (nomark _)

/-! ### and, or, not, if -/
def dAnd (da db : DE) : DE := fun ρ => (da ρ).bind fun x => match x with
  | .bool true => db ρ
  | .bool false => some (.bool false)
  | _ => none
def dOr (da db : DE) : DE := fun ρ => (da ρ).bind fun x => match x with
  | .bool true => some (.bool true)
  | .bool false => db ρ
  | _ => none
def dNot (da : DE) : DE := fun ρ => (da ρ).bind fun x => match x with
  | .bool c => some (.bool (!c))
  | _ => none
def dIf (dc da db : DE) : DE := fun ρ => (dc ρ).bind fun x => match x with
  | .bool true => da ρ
  | .bool false => db ρ
  | _ => none
variable {rest : List Expr}
theorem ge_one {op} (ha : GE X a da) : GE X (.BoolOp op [a] pos) da := ⟨pe_one ha.pe⟩
theorem ge_and (ha : GE X a da) (hb : GE X (.BoolOp .And (b :: rest) pos) db) : GE X (.BoolOp .And (a :: b :: rest) pos) (dAnd da db) := ⟨PE.imp (pe_and ha.pe hb.pe) fun σ H Q ⟨B, ρ, d, s, en, e, k⟩ => by
  obtain ⟨x, ex, e2⟩ := Option.bind_eq_some_iff.mp e
  refine ⟨B, ρ, x, s, en, ex, fun v B1 H1 a1 dv => ?_⟩
  cases dv with
  | bl c =>
    cases c with
    | true => exact ⟨true, rfl, B1, ρ, d, a1.i, en.mono a1.b, e2, fun u B2 H2 a2 du => k u B2 H2 (a1.trans a2) du⟩
    | false => cases e2; exact ⟨false, rfl, k _ B1 H1 a1 (.bl false)⟩
  | _ => exact nomatch e2⟩
theorem ge_or (ha : GE X a da) (hb : GE X (.BoolOp .Or (b :: rest) pos) db) : GE X (.BoolOp .Or (a :: b :: rest) pos) (dOr da db) := ⟨PE.imp (pe_or ha.pe hb.pe) fun σ H Q ⟨B, ρ, d, s, en, e, k⟩ => by
  obtain ⟨x, ex, e2⟩ := Option.bind_eq_some_iff.mp e
  refine ⟨B, ρ, x, s, en, ex, fun v B1 H1 a1 dv => ?_⟩
  cases dv with
  | bl c =>
    cases c with
    | false => exact ⟨false, rfl, B1, ρ, d, a1.i, en.mono a1.b, e2, fun u B2 H2 a2 du => k u B2 H2 (a1.trans a2) du⟩
    | true => cases e2; exact ⟨true, rfl, k _ B1 H1 a1 (.bl true)⟩
  | _ => exact nomatch e2⟩
theorem ge_not (ha : GE X a da) : GE X (.UnaryOp .Not a pos) (dNot da) := ⟨PE.imp (pe_not ha.pe) fun σ H Q ⟨B, ρ, d, s, en, e, k⟩ => by
  obtain ⟨x, ex, e2⟩ := Option.bind_eq_some_iff.mp e
  refine ⟨B, ρ, x, s, en, ex, fun v B1 H1 a1 dv => ?_⟩
  cases dv with
  | bl c => cases e2; exact ⟨c, rfl, k _ B1 H1 a1 (.bl _)⟩
  | _ => exact nomatch e2⟩
theorem gw_and1 (ha : GT X a da) : GW X (.BoolOp .And [a] pos) da := ⟨pw_and1 ha.pt⟩
theorem gw_or1 (ha : GT X a da) : GW X (.BoolOp .Or [a] pos) da := ⟨pw_or1 ha.pt⟩
theorem gw_and (ha : GT X a da) (hb : GW X (.BoolOp .And (b :: rest) pos) db) : GW X (.BoolOp .And (a :: b :: rest) pos) (dAnd da db) := ⟨PW.imp (pw_and ha.pt hb.pw) fun σ H Q ⟨B, ρ, d, s, en, e, k⟩ => by
  obtain ⟨x, ex, e2⟩ := Option.bind_eq_some_iff.mp e
  cases x with
  | bool c =>
    refine ⟨B, ρ, c, s, en, ex, fun B1 H1 a1 => ?_⟩
    cases c with
    | true => exact ⟨B1, ρ, d, a1.i, en.mono a1.b, e2, fun B2 H2 a2 => k B2 H2 (a1.trans a2)⟩
    | false => cases e2; exact k B1 H1 a1
  | _ => exact nomatch e2⟩
theorem gw_or (ha : GT X a da) (hb : GW X (.BoolOp .Or (b :: rest) pos) db) : GW X (.BoolOp .Or (a :: b :: rest) pos) (dOr da db) := ⟨PW.imp (pw_or ha.pt hb.pw) fun σ H Q ⟨B, ρ, d, s, en, e, k⟩ => by
  obtain ⟨x, ex, e2⟩ := Option.bind_eq_some_iff.mp e
  cases x with
  | bool c =>
    refine ⟨B, ρ, c, s, en, ex, fun B1 H1 a1 => ?_⟩
    cases c with
    | false => exact ⟨B1, ρ, d, a1.i, en.mono a1.b, e2, fun B2 H2 a2 => k B2 H2 (a1.trans a2)⟩
    | true => cases e2; exact k B1 H1 a1
  | _ => exact nomatch e2⟩
theorem gt_w (h : GW X a da) : GT X a da := ⟨h.pw.pt⟩
theorem gt_not (ha : GT X a da) : GT X (.UnaryOp .Not a pos) (dNot da) := ⟨PT.imp (pt_not ha.pt) fun σ H Q ⟨B, ρ, d, s, en, e, k⟩ => by
  obtain ⟨x, ex, e2⟩ := Option.bind_eq_some_iff.mp e
  cases x with
  | bool c => cases e2; exact ⟨B, ρ, c, s, en, ex, fun B1 H1 a1 => k B1 H1 a1⟩
  | _ => exact nomatch e2⟩
theorem ge_ifExp (hc : GT X c dc) (ha : GE X a da) (hb : GE X b db) : GE X (.IfExp c a b pos) (dIf dc da db) := ⟨PE.imp (pe_ifExp hc.pt ha.pe hb.pe) fun σ H Q ⟨B, ρ, d, s, en, e, k⟩ => by
  obtain ⟨x, ex, e2⟩ := Option.bind_eq_some_iff.mp e
  cases x with
  | bool c =>
    refine ⟨B, ρ, c, s, en, ex, fun B1 H1 a1 => ?_⟩
    cases c with
    | true => exact ⟨B1, ρ, d, a1.i, en.mono a1.b, e2, fun v B2 H2 a2 dv => k v B2 H2 (a1.trans a2) dv⟩
    | false => exact ⟨B1, ρ, d, a1.i, en.mono a1.b, e2, fun v B2 H2 a2 dv => k v B2 H2 (a1.trans a2) dv⟩
  | _ => exact nomatch e2⟩
/-- a op b op' c -/
def dChain (f g : PyData → PyData → Option PyData) (da db dc : DE) : DE := fun ρ => (da ρ).bind fun x => (db ρ).bind fun y => (f x y).bind fun z => match z with
  | .bool true => (dc ρ).bind fun w => g y w
  | .bool false => some (.bool false)
  | _ => none
theorem tG_chain {r r' : R2} {f g : PyData → PyData → Option PyData} (hr : Rel2 r f) (hr' : Rel2 r' g) {σ : L2.St} {H : Hp} {Q : VK} (h : tG (dChain f g da db dc) σ H Q) : tChain r r' (tG da) (tG db) (tG dc) σ H Q := by
  obtain ⟨B, ρ, d, s, en, e, k⟩ := h
  obtain ⟨x, ex, e1⟩ := Option.bind_eq_some_iff.mp e
  obtain ⟨y, ey, e2⟩ := Option.bind_eq_some_iff.mp e1
  obtain ⟨z, ez, e3⟩ := Option.bind_eq_some_iff.mp e2
  refine ⟨B, ρ, x, s, en, ex, fun v B1 H1 a1 dv => ⟨B1, ρ, y, a1.i, en.mono a1.b, ey, fun w B2 H2 a2 dw => ?_⟩⟩
  refine hr v w x y z B2 H2 _ a2.i (dv.mono a2.b) dw ez fun u B3 H3 a3 du => ?_
  cases du with
  | bl q =>
    cases q with
    | true =>
      obtain ⟨t, et, e4⟩ := Option.bind_eq_some_iff.mp e3
      refine ⟨true, rfl, ?_⟩
      show tG dc σ H3 _
      exact ⟨B3, ρ, t, a3.i, en.mono ((a1.b.trans a2.b).trans a3.b), et, fun u2 B4 H4 a4 du2 =>
        hr' w u2 y t d B4 H4 Q a4.i (dw.mono (a3.b.trans a4.b)) du2 e4 fun u3 B5 H5 a5 du3 => k u3 B5 H5 ((((a1.trans a2).trans a3).trans a4).trans a5) du3⟩
    | false =>
      cases e3
      exact ⟨false, rfl, k _ B3 H3 ((a1.trans a2).trans a3) (.bl false)⟩
  | _ => exact nomatch e3
theorem ge_chain {op op' : CmpOp} {r r' : R2} {f g : PyData → PyData → Option PyData} (ho : OpR X (compareOp op) r) (ho' : OpR X (compareOp op') r') (hr : Rel2 r f) (hr' : Rel2 r' g) (ha : GE X a da) (hb : GE X b db) (hc : GE X c dc)
    (hm : lastMarks [op, op'] [b, c] = false := by with_unfolding_all rfl) : GE X (.Compare a [op, op'] [b, c] pos) (dChain f g da db dc) := ⟨PE.imp (pe_chain ho ho' ha.pe hb.pe hc.pe hm) fun _ _ _ h => tG_chain hr hr' h⟩
theorem gt_chain {op op' : CmpOp} {r r' : R2} {f g : PyData → PyData → Option PyData} (ho : OpR X (compareOp op) r) (ho' : OpR X (compareOp op') r') (hr : Rel2 r f) (hr' : Rel2 r' g) (ha : GE X a da) (hb : GE X b db) (hc : GE X c dc)
    (hm : lastMarks [op, op'] [b, c] = false := by with_unfolding_all rfl) : GT X (.Compare a [op, op'] [b, c] pos) (dChain f g da db dc) := ⟨PT.imp (pt_chain ho ho' ha.pe hb.pe hc.pe hm) fun _ _ _ h => tG_chain hr hr' (tGT_tG h)⟩

/-! ### argument lists, displays -/
variable {es : List Expr} {des : DA}
def dNil : DA := fun _ => some []
def dCons (da : DE) (r : DA) : DA := fun ρ => (da ρ).bind fun x => (r ρ).bind fun xs => some (x :: xs)
theorem ga_nil : GA X [] dNil := ⟨PA.imp pa_nil fun σ H Q ⟨B, ρ, d, s, en, e, k⟩ => by
  cases e
  exact k [] B H (At.refl s) .nil, fun ρ ds e => by cases e; rfl⟩
theorem ga_cons (ha : GE X a da) (hr : GA X es des) (hs : starEach (a :: es) X.env = (false, eval a X.env) :: starEach es X.env := by rfl) : GA X (a :: es) (dCons da des) := ⟨PA.imp (pa_cons ha.pe hr.pa hs) fun σ H Q ⟨B, ρ, d, s, en, e, k⟩ => by
  obtain ⟨x, ex, e2⟩ := Option.bind_eq_some_iff.mp e
  obtain ⟨xs, exs, e3⟩ := Option.bind_eq_some_iff.mp e2
  cases e3
  refine ⟨B, ρ, x, s, en, ex, fun v B1 H1 a1 dv => ⟨B1, ρ, xs, a1.i, en.mono a1.b, exs, fun vs B2 H2 a2 dvs => ?_⟩⟩
  exact k (v :: vs) B2 H2 (a1.trans a2) (.cons (dv.mono a2.b) dvs), fun ρ ds e => by
    obtain ⟨x, ex, e2⟩ := Option.bind_eq_some_iff.mp e
    obtain ⟨xs, exs, e3⟩ := Option.bind_eq_some_iff.mp e2
    cases e3
    rw [List.length_cons, List.length_cons, hr.n ρ xs exs]⟩
def dTup (d : DA) : DE := fun ρ => (d ρ).map .tuple
def dLst (d : DA) : DE := fun ρ => (d ρ).map .list
theorem le_line {n : Nat} (h : n ≤ 1000) : n ≤ sizeLine := Nat.le_of_lt (small1000 h)
theorem ge_tup {k : Nat} {p : Pos} (h : GA X es des) (hl : es.length ≤ 1000 := by decide) : GE X (.Tuple es k p) (dTup des) := ⟨PE.imp (pe_tupN h.pa) fun σ H Q ⟨B, ρ, d, s, en, e, k⟩ => by
  obtain ⟨ds, e1, e2⟩ := Option.map_eq_some_iff.mp e
  subst e2
  refine ⟨B, ρ, ds, s, en, e1, fun vs B1 H1 a1 dvs => ⟨by rw [dvs.length, h.n ρ ds e1]; exact le_line hl, newT (rowish ds) fun p u hp ht => ?_⟩⟩
  exact a1.newTup (k _ _ _) hp ht dvs⟩
theorem ge_lst {p : Pos} (h : GA X es des) (hl : es.length ≤ 1000 := by decide) : GE X (.List es p) (dLst des) := ⟨PE.imp (pe_lst h.pa) fun σ H Q ⟨B, ρ, d, s, en, e, k⟩ => by
  obtain ⟨ds, e1, e2⟩ := Option.map_eq_some_iff.mp e
  subst e2
  refine ⟨B, ρ, ds, s, en, e1, fun vs B1 H1 a1 dvs => ⟨by rw [dvs.length, h.n ρ ds e1]; exact le_line hl, fun p hp => ?_⟩⟩
  have a2 := At.new a1.i hp (.lst vs)
  exact k (.ref p) _ _ (a1.trans a2) (.lst upd_same (dvs.mono a2.b))⟩

/-! ### calls -/
/-- a def that makes of data data -/
def spD (n : Nat) (m : List PyData → Option PyData) : Sp := fun vs H Q _ => ∃ B ds d, Same B H ∧ DvA B vs ds ∧ m ds = some d ∧ vs.length = n ∧ ∀ v B' H', At B B' H H' → Dv B' v d → Q v H'
def dCall (n : Nat) (m : List PyData → Option PyData) (d : DA) : DE := fun ρ => (d ρ).bind fun xs => if xs.length = n then m xs else none
theorem ge_call {CX : CXT} {k : Nat} {f : Addr} {fd : FuncData} {ps : List Str} {x : Str} {p : Pos} {n : Nat} {m : List PyData → Option PyData} {E : XK} (F : FnOk X.prog X.w X.K X.mg X.base CX k f fd ps (spD n m)) (hr : Room k X.A) (hg : Gl X x)
    (hm : X.mg x = some (.ref f)) (hk : PySem.W.keepIn X.K (.ref f) = true) (hb : Binds X.K fd ps []) (hx : Passes CX X E) (ha : GA X (a :: es) des) (hdb : (x == ("__debug__" : Str)) = false := by decide)
    (he : starEach (a :: es) X.env = (false, eval a X.env) :: starEach es X.env := by rfl) (hpl : (backTo pos (starEach es X.env)).any (·.1) = false := by rfl) : GE X (.Call (.Name x p) (a :: es) [] pos) (dCall n m des) :=
  ⟨PE.imp (pe_call F hr hg hm hk hb .nil hx ha.pa hdb he hpl) fun σ H Q ⟨B, ρ, d, s, en, e, k⟩ => by
    obtain ⟨xs, ex, e2⟩ := Option.bind_eq_some_iff.mp e
    by_cases hn : xs.length = n
    · rw [if_pos hn] at e2
      refine ⟨B, ρ, xs, s, en, ex, fun vs B1 H1 a1 dvs => ⟨B1, xs, d, a1.i, by rw [List.append_nil]; exact dvs, e2, by rw [List.append_nil, dvs.length]; exact hn, fun v B2 H2 a2 dv => k v B2 H2 (a1.trans a2) dv⟩⟩
    · rw [if_neg hn] at e2
      cases e2⟩
theorem ge_call0 {CX : CXT} {k : Nat} {f : Addr} {fd : FuncData} {ps : List Str} {x : Str} {p : Pos} {m : List PyData → Option PyData} {E : XK} (F : FnOk X.prog X.w X.K X.mg X.base CX k f fd ps (spD 0 m)) (hr : Room k X.A) (hg : Gl X x)
    (hm : X.mg x = some (.ref f)) (hk : PySem.W.keepIn X.K (.ref f) = true) (hb : Binds X.K fd ps []) (hx : Passes CX X E) (hdb : (x == ("__debug__" : Str)) = false := by decide) : GE X (.Call (.Name x p) [] [] pos) (fun _ => m []) :=
  ⟨PE.imp (pe_call0 F hr hg hm hk hb .nil hx hdb) fun σ H Q ⟨B, ρ, d, s, en, e, k⟩ => ⟨B, [], d, s, .nil, e, rfl, k⟩⟩
/-- a built-in by data -/
def RelC (r : List V → Hp → VK → Prop) (m : List PyData → Option PyData) : Prop :=
  ∀ vs ds z B H Q, Same B H → DvA B vs ds → m ds = some z → (∀ v B' H', At B B' H H' → Dv B' v z → Q v H') → r vs H Q
def dBlt (m : List PyData → Option PyData) (d : DA) : DE := fun ρ => (d ρ).bind m
theorem tG_cb {r : List V → Hp → VK → Prop} {m : List PyData → Option PyData} (hr : RelC r m) {σ : L2.St} {H : Hp} {Q : VK} (h : tG (dBlt m des) σ H Q) : tCB r (tGA des) σ H Q := by
  obtain ⟨B, ρ, d, s, en, e, k⟩ := h
  obtain ⟨xs, ex, e2⟩ := Option.bind_eq_some_iff.mp e
  exact ⟨B, ρ, xs, s, en, ex, fun vs B1 H1 a1 dvs => hr vs xs d B1 H1 Q a1.i dvs e2 fun v B2 H2 a2 dv => k v B2 H2 (a1.trans a2) dv⟩
theorem ge_blt {id : String} {x : Str} {p : Pos} {r : List V → Hp → VK → Prop} {m : List PyData → Option PyData} (hc : CallR X (.builtin id) r) (hr : RelC r m) (hg : Gl X x) (hm : X.mg x = none) (hv : bootBuiltins x = some (.builtin id)) (ha : GA X (a :: es) des)
    (hn : x ≠ "__name__" := by decide) (hdb : (x == ("__debug__" : Str)) = false := by decide) (he : starEach (a :: es) X.env = (false, eval a X.env) :: starEach es X.env := by rfl) (hpl : (backTo pos (starEach es X.env)).any (·.1) = false := by rfl) :
    GE X (.Call (.Name x p) (a :: es) [] pos) (dBlt m des) := ⟨PE.imp (pe_callB hc hg hm hv ha.pa hn hdb he hpl) fun _ _ _ h => tG_cb hr h⟩
theorem ge_bty {T : String} {x : Str} {p : Pos} {r : List V → Hp → VK → Prop} {m : List PyData → Option PyData} (hc : CallR X (.type T) r) (hr : RelC r m) (hg : Gl X x) (hm : X.mg x = none) (hv : bootBuiltins x = some (.type T)) (ha : GA X (a :: es) des)
    (hn : x ≠ "__name__" := by decide) (hdb : (x == ("__debug__" : Str)) = false := by decide) (he : starEach (a :: es) X.env = (false, eval a X.env) :: starEach es X.env := by rfl) (hpl : (backTo pos (starEach es X.env)).any (·.1) = false := by rfl) :
    GE X (.Call (.Name x p) (a :: es) [] pos) (dBlt m des) := ⟨PE.imp (pe_callTy hc hg hm hv ha.pa hn hdb he hpl) fun _ _ _ h => tG_cb hr h⟩
end
end SK
set_option maxHeartbeats 1000000
/-! Statements, targets, walks, comprehensions by data. -/
namespace SK
open PySem PySem.Spec PyProof.Rows L2
section
variable {X : Cx} {a b c : Expr} {da db dc : DE} {pos : Pos} {st : Stmt} {rest : List Stmt} {s u : DS}

/-! ### blocks -/
def dSeq (s u : DS) : DS := fun ρ => (s ρ).bind fun o => match o with
  | .nx ρ' => u ρ'
  | .rt d => some (.rt d)
def dNext : DS := fun ρ => some (.nx ρ)
def dRet (d : DE) : DS := fun ρ => (d ρ).map .rt
def dIfS (c : DE) (s u : DS) : DS := fun ρ => (c ρ).bind fun x => match x with
  | .bool true => s ρ
  | .bool false => u ρ
  | _ => none
def dNever : DS := fun _ => none
theorem gb_nil : GB X [] dNext := ⟨PSs.imp pss_nil fun D σ H ⟨B, ρ, o, s, en, e, k, _⟩ => by
  cases e
  exact k ρ rfl σ B H (At.refl s) en⟩
theorem gb_cons (h : GS X st s) (r : GB X rest u) : GB X (st :: rest) (dSeq s u) := ⟨PSs.imp (pss_cons h.ps r.pss) fun D σ H ⟨B, ρ, o, sm, en, e, k, k2⟩ => by
  obtain ⟨o1, e1, e2⟩ := Option.bind_eq_some_iff.mp e
  refine ⟨B, ρ, o1, sm, en, e1, fun ρ' q σ' B' H' a en' => ?_, fun d q v B' H' a dv => ?_⟩
  · subst q
    exact ⟨B', ρ', o, a.i, en', e2, fun ρ2 q σ2 B2 H2 a2 en2 => k ρ2 q σ2 B2 H2 (a.trans a2) en2, fun d q v B2 H2 a2 dv => k2 d q v B2 H2 (a.trans a2) dv⟩
  · subst q
    cases e2
    exact k2 d rfl v B' H' a dv⟩
theorem gb_one (h : GS X st s) : GB X [st] s := ⟨pss_one h.ps⟩
theorem gs_ret (h : GE X a da) : GS X (.Return (some a) pos) (dRet da) := ⟨PS.imp (ps_ret h.pe) fun D σ H ⟨B, ρ, o, sm, en, e, k, k2⟩ => by
  obtain ⟨d, e1, e2⟩ := Option.map_eq_some_iff.mp e
  subst e2
  exact ⟨B, ρ, d, sm, en, e1, fun v B' H' a dv => k2 d rfl v B' H' a dv⟩⟩
theorem gs_if {sa sb : List Stmt} (hc : GT X c dc) (ha : GB X sa s) (hb : GB X sb u) : GS X (.If c sa sb pos) (dIfS dc s u) := ⟨PS.imp (ps_if hc.pt ha.pss hb.pss) fun D σ H ⟨B, ρ, o, sm, en, e, k, k2⟩ => by
  obtain ⟨x, e1, e2⟩ := Option.bind_eq_some_iff.mp e
  cases x with
  | bool y =>
    refine ⟨B, ρ, y, sm, en, e1, fun B' H' a => ?_⟩
    cases y with
    | true => exact ⟨B', ρ, o, a.i, en.mono a.b, e2, fun ρ2 q σ2 B2 H2 a2 en2 => k ρ2 q σ2 B2 H2 (a.trans a2) en2, fun d q v B2 H2 a2 dv => k2 d q v B2 H2 (a.trans a2) dv⟩
    | false => exact ⟨B', ρ, o, a.i, en.mono a.b, e2, fun ρ2 q σ2 B2 H2 a2 en2 => k ρ2 q σ2 B2 H2 (a.trans a2) en2, fun d q v B2 H2 a2 dv => k2 d q v B2 H2 (a.trans a2) dv⟩
  | _ => exact nomatch e2⟩
theorem gs_never : GS X st dNever := ⟨PS.imp ps_never fun D σ H ⟨B, ρ, o, sm, en, e, k, k2⟩ => by cases e⟩
/-- an expression whose value is dropped -/
def dDrop (d : DE) : DS := fun ρ => (d ρ).map fun _ => .nx ρ
theorem gs_expr (h : GE X a da) (hs : swapsWith a none pos.line X.env = pure false := by rfl) : GS X (.Expr a pos) (dDrop da) := ⟨PS.imp (ps_expr h.pe hs) fun D σ H ⟨B, ρ, o, sm, en, e, k, k2⟩ => by
  obtain ⟨d, e1, e2⟩ := Option.map_eq_some_iff.mp e
  subst e2
  exact ⟨B, ρ, d, sm, en, e1, fun v B' H' a _ => k ρ rfl σ B' H' a (en.mono a.b)⟩⟩

/-! ### targets -/
def bName (i : Nat) : DG := fun ρ d => some (ρ.set i (some d))
def bTup (bs : List DG) : DG := fun ρ d => match d with
  | .tuple ds => bAll bs ρ ds
  | _ => none
where bAll : List DG → Rho → List PyData → Option Rho
  | [], ρ, [] => some ρ
  | g :: gs, ρ, d :: ds => (g ρ d).bind fun ρ' => bAll gs ρ' ds
  | _, _, _ => none
theorem gg_name {i : Nat} {x : Str} {p : Pos} (h : PG X (.Name x p) (gName i)) : GG X (.Name x p) (bName i) [i] := ⟨PG.imp h fun v σ H K ⟨B, ρ, d, ρ', sm, en, dv, e, k⟩ => by
  cases e
  exact k _ (en.set i dv) (But.set σ i _)⟩
def tGGs (bs : List DG) (is : List Nat) : TGs := fun vs σ H K => ∃ B ρ ds ρ', Same B H ∧ En B σ ρ ∧ DvA B vs ds ∧ bTup.bAll bs ρ ds = some ρ' ∧ ∀ σ', En B σ' ρ' → But is σ σ' → K σ' H
structure GGs (X : Cx) (ts : List Expr) (bs : List DG) (is : List Nat) : Prop where
  pgs : PGs X ts (tGGs bs is)
theorem PGs.imp {X : Cx} {ts : List Expr} {t t' : TGs} (h : PGs X ts t) (f : ∀ v σ H Q, t' v σ H Q → t v σ H Q) : PGs X ts t' := ⟨fun pins s σ H vs us Q I r w => h.run pins s σ H vs us Q I r (f vs σ H Q w)⟩
theorem ggs_nil : GGs X [] [] [] := ⟨PGs.imp pgs_nil fun vs σ H K ⟨B, ρ, ds, ρ', sm, en, dv, e, k⟩ => by
  cases dv with
  | nil => cases e; exact ⟨rfl, k σ en (But.refl _ σ)⟩
  | cons => exact nomatch e⟩
theorem ggs_cons {t : Expr} {ts : List Expr} {g : DG} {gs : List DG} {is js : List Nat} (h : GG X t g is) (r : GGs X ts gs js) (hs : (assignEach (t :: ts) X.env).map (·.2) = assign t X.env :: (assignEach ts X.env).map (·.2) := by rfl) : GGs X (t :: ts) (g :: gs) (is ++ js) :=
  ⟨PGs.imp (pgs_cons h.pg r.pgs hs) fun vs σ H K ⟨B, ρ, ds, ρ', sm, en, dv, e, k⟩ => by
    cases dv with
    | nil => exact nomatch e
    | @cons v d vs ds h1 t1 =>
      obtain ⟨ρ1, e1, e2⟩ := Option.bind_eq_some_iff.mp (show (g ρ d).bind (fun ρ' => bTup.bAll gs ρ' ds) = some ρ' from e)
      exact ⟨v, vs, rfl, B, ρ, d, ρ1, sm, en, h1, e1, fun σ1 en1 b1 => ⟨B, ρ1, ds, ρ', sm, en1, t1, e2, fun σ2 en2 b2 => k σ2 en2 (b1.trans b2)⟩⟩⟩
theorem bAll_len : ∀ {bs : List DG} {ρ : Rho} {ds : List PyData} {ρ' : Rho}, bTup.bAll bs ρ ds = some ρ' → ds.length = bs.length
  | [], _, [], _, _ => rfl
  | [], _, _ :: _, _, e => nomatch e
  | _ :: _, _, [], _, e => nomatch e
  | g :: gs, ρ, d :: ds, ρ', e => by
    obtain ⟨ρ1, e1, e2⟩ := Option.bind_eq_some_iff.mp (show (g ρ d).bind (fun ρ' => bTup.bAll gs ρ' ds) = some ρ' from e)
    rw [List.length_cons, List.length_cons, bAll_len e2]
theorem gg_tup {ts : List Expr} {k : Nat} {bs : List DG} {is : List Nat} (hc : X.calm = true) (h : GGs X ts bs is) (hn : (assignEach ts X.env).length = bs.length := by rfl) (hst : (assignEach ts X.env).findIdx? (·.1) = none := by rfl) : GG X (.Tuple ts k pos) (bTup bs) is :=
  ⟨PG.imp (pg_tup hc h.pgs hn hst) fun v σ H K ⟨B, ρ, d, ρ', sm, en, dv, e, k⟩ => by
    cases dv with
    | @tup a xs ds h1 h2 => exact ⟨a, xs, rfl, (h1.mono sm).sq, h2.length.trans (bAll_len (show bTup.bAll bs ρ ds = some ρ' from e)), B, ρ, ds, ρ', sm, en, h2, e, k⟩
    | _ => exact nomatch e⟩

/-! ### stores -/
def dAsg (d : DE) (g : DG) : DS := fun ρ => (d ρ).bind fun x => (g ρ x).map .nx
theorem tGS_asg {g : DG} {is : List Nat} {D : Ends} {σ : L2.St} {H : Hp} (h : tGS (dAsg da g) D σ H) : tAsg (tG da) (tGG g is) D σ H := by
  obtain ⟨B, ρ, o, sm, en, e, k, k2⟩ := h
  obtain ⟨d, e1, e2⟩ := Option.bind_eq_some_iff.mp e
  obtain ⟨ρ1, e3, e4⟩ := Option.map_eq_some_iff.mp e2
  subst e4
  exact ⟨B, ρ, d, sm, en, e1, fun v B1 H1 a1 dv => ⟨B1, ρ, d, ρ1, a1.i, en.mono a1.b, dv, e3, fun σ' en' _ => k ρ1 rfl σ' B1 H1 a1 en'⟩⟩
theorem tGG_name {i : Nat} {v : V} {σ : L2.St} {H : Hp} {K : L2.St → Hp → Prop} (h : tGG (bName i) [i] v σ H K) : gName i v σ H K := by
  obtain ⟨B, ρ, d, ρ', sm, en, dv, e, k⟩ := h
  cases e
  exact k _ (en.set i dv) (But.set σ i _)
theorem gs_set {i : Nat} {x : Str} {p : Pos} (h : PS X (.Assign [.Name x p] a pos) (tAsg (tG da) (gName i))) : GS X (.Assign [.Name x p] a pos) (dAsg da (bName i)) := ⟨PS.imp h fun D σ H w => by
  obtain ⟨B, ρ, d, sm, en, e, k⟩ := tGS_asg (is := [i]) w
  exact ⟨B, ρ, d, sm, en, e, fun v B1 H1 a1 dv => tGG_name (k v B1 H1 a1 dv)⟩⟩
theorem gs_asg {tg : Expr} {g : DG} {is : List Nat} (he : GE X a da) (hg : GG X tg g is) (hs : swapsWithSole [tg] a pos.line X.env = pure false := by rfl) (hw : swappedStores [tg] a X.env = pure none := by rfl)
    (h1 : (assignEach [tg] X.env).map (·.2) = [assign tg X.env] := by rfl) : GS X (.Assign [tg] a pos) (dAsg da g) := ⟨PS.imp (ps_asg he.pe hg.pg hs hw h1) fun _ _ _ h => tGS_asg h⟩
/-- a, b = x, y, plain local names -/
def dPar (i j : Nat) (d : DA) : DS := fun ρ => (d ρ).bind fun xs => match xs with
  | [x, y] => some (.nx ((ρ.set i (some x)).set j (some y)))
  | _ => none
theorem gs_par {i j : Nat} {x y : Str} {d : DA} {px py pt : Pos} {kt k2 pt2} (hc : X.calm = true) (hN : X.N.Nodup) (hi : X.N[i]? = some x) (hj : X.N[j]? = some y) (hij : i ≠ j) (hx : X.env.scope.names.lookup x = some .local) (hy : X.env.scope.names.lookup y = some .local)
    (ha : GA X [a, b] d) (hw : swappedStores [.Tuple [.Name x px, .Name y py] kt pt] (.Tuple [a, b] k2 pt2) X.env = pure (some [x, y])) (hs : swapsWithSole [.Tuple [.Name x px, .Name y py] kt pt] (.Tuple [a, b] k2 pt2) pos.line X.env = pure false := by rfl) :
    GS X (.Assign [.Tuple [.Name x px, .Name y py] kt pt] (.Tuple [a, b] k2 pt2) pos) (dPar i j d) := ⟨PS.imp (ps_par hc hN hi hj hij hx hy ha.pa hw hs) fun D σ H ⟨B, ρ, o, sm, en, e, k, k2⟩ => by
  obtain ⟨xs, e1, e2⟩ := Option.bind_eq_some_iff.mp e
  refine ⟨B, ρ, xs, sm, en, e1, fun vs B1 H1 a1 dvs => ?_⟩
  match xs, dvs, e2 with
  | [d1, d2], .cons h1 (.cons h2 .nil), e2 =>
    cases e2
    exact ⟨_, _, rfl, k _ rfl _ B1 H1 a1 (((en.mono a1.b).set i h1).set j h2)⟩⟩

/-! ### walks -/
def seqOf : PyData → Option (List PyData)
  | .list xs => if xs.length ≤ 1000 then some xs else none
  | .tuple xs => if xs.length ≤ 1000 then some xs else none
  | _ => none
def iSeq (d : DE) : DA := fun ρ => (d ρ).bind seqOf
theorem walkD_list {K : PySem.W.Frag} {B : Hp} {p : Addr} {xs : List V} {ds : List PyData} (h : B p = some (.lst xs)) (r : DvA B xs ds) (hl : ds.length ≤ 1000) : WalkD (Itl K p) B ds where
  len := hl
  go := fun i H hi s => by
    obtain ⟨v, h1, _⟩ := r.get (List.getElem?_eq_getElem hi)
    exact ⟨xs, v, SqL.of (s _ _ h), h1⟩
  stop := fun H s => ⟨xs, SqL.of (s _ _ h), Nat.le_of_eq r.length⟩
  yld := fun i B1 H x H' d s1 s2 y e => by
    obtain ⟨e1, e2⟩ := y
    subst e1
    have q := e2 xs (SqL.of (s2 _ _ (s1 _ _ h)))
    obtain ⟨v, h1, h2⟩ := r.get e
    rw [q] at h1
    cases h1
    exact ⟨B1, At.refl s2, h2.mono s1⟩
theorem walkD_tup {K : PySem.W.Frag} {B : Hp} {p : Addr} {xs : List V} {ds : List PyData} {b : Bool} (h : TupAt B p xs b) (r : DvA B xs ds) (hl : ds.length ≤ 1000) : WalkD (Itt K p) B ds where
  len := hl
  go := fun i H hi s => by
    obtain ⟨v, h1, _⟩ := r.get (List.getElem?_eq_getElem hi)
    exact ⟨xs, v, (h.mono s).sq, h1⟩
  stop := fun H s => ⟨xs, (h.mono s).sq, Nat.le_of_eq r.length⟩
  yld := fun i B1 H x H' d s1 s2 y e => by
    obtain ⟨e1, e2⟩ := y
    subst e1
    have q := e2 xs (((h.mono s1).mono s2).sq)
    obtain ⟨v, h1, h2⟩ := r.get e
    rw [q] at h1
    cases h1
    exact ⟨B1, At.refl s2, h2.mono s1⟩
theorem gi_seq {tg : Expr} (h : GE X a da) : GI X tg a (iSeq da) := ⟨PI.imp (PI.or (pi_list h.pe) (pi_tup h.pe)) fun σ H R ⟨B, ρ, xs, sm, en, e, k⟩ => by
  obtain ⟨d, e1, e2⟩ := Option.bind_eq_some_iff.mp e
  cases d with
  | list ds =>
    by_cases hl : ds.length ≤ 1000
    · obtain rfl : ds = xs := by
        have q : (if ds.length ≤ 1000 then some ds else none) = some xs := e2
        rw [if_pos hl] at q
        exact Option.some.inj q
      refine .inl ⟨B, ρ, _, sm, en, e1, fun v B1 H1 a1 dv => ?_⟩
      cases dv with
      | lst h1 h2 => exact ⟨_, rfl, ⟨_, SqL.of (a1.i _ _ h1)⟩, k _ B1 H1 a1 (walkD_list h1 h2 hl)⟩
    · have q : (if ds.length ≤ 1000 then some ds else none) = some xs := e2
      rw [if_neg hl] at q
      cases q
  | tuple ds =>
    by_cases hl : ds.length ≤ 1000
    · obtain rfl : ds = xs := by
        have q : (if ds.length ≤ 1000 then some ds else none) = some xs := e2
        rw [if_pos hl] at q
        exact Option.some.inj q
      refine .inr ⟨B, ρ, _, sm, en, e1, fun v B1 H1 a1 dv => ?_⟩
      cases dv with
      | tup h1 h2 => exact ⟨_, rfl, ⟨_, (h1.mono a1.i).sq⟩, k _ B1 H1 a1 (walkD_tup h1 h2 hl)⟩
    · have q : (if ds.length ≤ 1000 then some ds else none) = some xs := e2
      rw [if_neg hl] at q
      cases q
  | _ => exact nomatch e2⟩
def upTo (n : Nat) : List PyData := (List.range n).map fun i => .int (i : Nat)
theorem upTo_length (n : Nat) : (upTo n).length = n := by unfold upTo; rw [List.length_map, List.length_range]
def iRange (d : DA) : DA := fun ρ => (d ρ).bind fun xs => match xs with
  | [.int n] => if n ≤ 1000 ∧ -1000 ≤ n then some (upTo n.toNat) else none
  | _ => none
theorem walkD_range {B : Hp} {n : Nat} (hn : n ≤ 1000) : WalkD (Itr 0 n) B (upTo n) where
  len := by rw [upTo_length]; exact hn
  go := fun i H hi s => by rw [upTo_length] at hi; exact hi
  stop := fun H s => by rw [upTo_length]; exact Nat.le_refl _
  yld := fun i B1 H x H' d s1 s2 y e => by
    obtain ⟨e1, e2⟩ := y
    subst e1 e2
    refine ⟨B1, At.refl s2, ?_⟩
    unfold upTo at e
    rw [List.getElem?_map] at e
    obtain ⟨j, e3, e4⟩ := Option.map_eq_some_iff.mp e
    have e5 : j = i := by
      obtain ⟨hl, e6⟩ := List.getElem?_eq_some_iff.mp e3
      rw [← e6, List.getElem_range]
    subst e5 e4
    rw [Int.zero_add]
    exact .int _
theorem gi_range {tg : Expr} {p : Pos} {d : DA} (hg : Gl X "range") (hm : X.mg "range" = none) (ha : GA X [a] d) (hs : starEach [a] X.env = [(false, eval a X.env)] := by rfl) : GI X tg (.Call (.Name "range" p) [a] [] pos) (iRange d) :=
  ⟨PI.imp (pi_range1 hg hm ha.pa hs) fun σ H R ⟨B, ρ, xs, sm, en, e, k⟩ => by
    obtain ⟨ds, e1, e2⟩ := Option.bind_eq_some_iff.mp e
    refine ⟨B, ρ, ds, sm, en, e1, fun vs B1 H1 a1 dvs => ?_⟩
    match ds, dvs, e2 with
    | [.int n], .cons (.int _) .nil, e2 =>
      by_cases hn : n ≤ 1000 ∧ -1000 ≤ n
      · have q : (if n ≤ 1000 ∧ -1000 ≤ n then some (upTo n.toNat) else none) = some xs := e2
        rw [if_pos hn] at q
        cases q
        exact ⟨n, rfl, by omega, by omega, k _ B1 H1 a1 (walkD_range (by omega))⟩
      · have q : (if n ≤ 1000 ∧ -1000 ≤ n then some (upTo n.toNat) else none) = some xs := e2
        rw [if_neg hn] at q
        cases q⟩

/-! ### for -/
def forL (g : DG) (body : DS) : List PyData → DS
  | [], ρ => some (.nx ρ)
  | x :: xs, ρ => (g ρ x).bind fun ρ1 => (body ρ1).bind fun o => match o with
    | .nx ρ2 => forL g body xs ρ2
    | .rt d => some (.rt d)
def dFor (it : DA) (g : DG) (body : DS) : DS := fun ρ => (it ρ).bind fun xs => forL g body xs ρ
theorem gs_for {tg it : Expr} {body : List Stmt} {di : DA} {g : DG} {is : List Nat} (hp : PassesOwn (model X.prog X.w) X.A X.env X.xe) (hc : X.calm = true) (hi : GI X tg it di) (hg : GG X tg g is) (hb : GB X body s) (hs : ∀ x, foldedSetIterable it X.env x = pure x := by intro _; rfl) :
    GS X (.For tg it body [] pos) (dFor di g s) := ⟨PS.imp (ps_for hp hc hi.pi hg.pg hb.pss hs) fun D σ H ⟨B, ρ, o, sm, en, e, k, k2⟩ => by
  obtain ⟨xs, e1, e2⟩ := Option.bind_eq_some_iff.mp e
  refine ⟨B, ρ, xs, sm, en, e1, fun J B1 H1 a1 w => ?_⟩
  refine ⟨fun i m σ' H' => m = xs.length - i ∧ i ≤ xs.length ∧ ∃ B2 ρ2, At B1 B2 H1 H' ∧ En B2 σ' ρ2 ∧ forL g s (xs.drop i) ρ2 = some o, ⟨xs.length, by omega, Nat.zero_le _, B1, ρ, At.refl a1.i, en.mono a1.b, e2⟩, ?_⟩
  rintro i m σ' H' ⟨rfl, hi, B2, ρ2, a2, en2, e3⟩
  by_cases hlt : i < xs.length
  · rw [List.drop_eq_getElem_cons hlt] at e3
    obtain ⟨ρ3, e4, e5⟩ := Option.bind_eq_some_iff.mp (show (g ρ2 xs[i]).bind (fun ρ1 => (s ρ1).bind fun o => match o with | .nx ρ2 => forL g s (xs.drop (i + 1)) ρ2 | .rt d => some (.rt d)) = some o from e3)
    obtain ⟨o1, e6, e7⟩ := Option.bind_eq_some_iff.mp e5
    refine .inr ⟨w.go i H' hlt (a2.b.trans a2.i), fun σ3 H3 => ∃ B3 ρ4, At B1 B3 H1 H3 ∧ En B3 σ3 ρ4 ∧ forL g s (xs.drop (i + 1)) ρ4 = some o, fun σ3 H3 ⟨B3, ρ4, a3, en3, e8⟩ => ⟨xs.length - (i + 1), by omega, rfl, hlt, B3, ρ4, a3, en3, e8⟩, fun x H3 y => ?_⟩
    obtain ⟨B3, a3, dx⟩ := w.yld i B2 H' x H3 xs[i] a2.b a2.i y (List.getElem?_eq_getElem hlt)
    refine ⟨B3, ρ2, xs[i], ρ3, a3.i, en2.mono a3.b, dx, e4, fun σ4 en4 _ => ?_⟩
    refine ⟨B3, ρ3, o1, a3.i, en4, e6, fun ρ5 q σ5 B5 H5 a5 en5 => ?_, fun d q v B5 H5 a5 dv => ?_⟩
    · subst q
      exact ⟨B5, ρ5, (a2.trans a3).trans a5, en5, e7⟩
    · subst q
      cases e7
      exact k2 d rfl v B5 H5 (((a1.trans a2).trans a3).trans a5) dv
  · have ei : i = xs.length := by omega
    subst ei
    rw [List.drop_length] at e3
    cases e3
    exact .inl ⟨w.stop H' (a2.b.trans a2.i), k ρ2 rfl σ' B2 H' (a1.trans a2) en2⟩⟩

/-! ### comprehensions -/
def lcL (g : DG) (c : DE) (e : DE) (ρ : Rho) : List PyData → Option (List PyData)
  | [] => some []
  | x :: xs => (g ρ x).bind fun ρ1 => (c ρ1).bind fun t => match t with
    | .bool true => (e ρ1).bind fun y => (lcL g c e ρ xs).bind fun ys => some (y :: ys)
    | .bool false => lcL g c e ρ xs
    | _ => none
def dYes : DE := fun _ => some (.bool true)
def dLc (vs : List Nat) (it : DA) (g : DG) (c e : DE) : DE := fun ρ => (it ρ).bind fun xs => (lcL g c e (wipeR ρ vs) xs).map .list
structure GTs (X : Cx) (ifs : List Expr) (d : DE) : Prop where
  pts : PTs X ifs (tGT d)
theorem PTs.imp {X : Cx} {e : List Expr} {t t' : TT} (h : PTs X e t) (f : ∀ σ H Q, t' σ H Q → t σ H Q) : PTs X e t' := ⟨fun pins s σ H Q I w => h.run pins s σ H Q I (f σ H Q w)⟩
theorem gts_nil : GTs X [] dYes := ⟨PTs.imp pts_nil fun σ H Q ⟨B, ρ, b, sm, en, e, k⟩ => by
  cases e
  exact k B H (At.refl sm)⟩
theorem gts_one (h : GT X a da) : GTs X [a] da := ⟨pts_one h.pt⟩
/-- the list that grows at p, what is laid besides -/
theorem At.grow {B1 B2 B3 H1 H H' : Hp} {p : Addr} (x : At B1 B2 H1 H) (y : At B2 B3 H H') (hp : H1 p = none) (hp2 : B2 p = none) (hp3 : Live H p) (o : HO) : At B1 B3 H1 (upd H' p o) ∧ B3 p = none := by
  have h3 : B3 p = none := y.ap p hp2 hp3
  refine ⟨⟨x.b.trans y.b, Same.upd y.i h3 o, Same.upd (x.o.trans y.o) hp o, fun a h1 h2 => ?_⟩, h3⟩
  exact y.ap a (x.ap a h1 h2) (h2.up x.o)
/-- the list is done -/
theorem At.close {B1 B2 H1 H : Hp} {p : Addr} {xs : List V} (x : At B1 B2 H1 H) (hp : H1 p = none) (hp2 : B2 p = none) (hH : H p = some (.lst xs)) : At B1 (upd B2 p (.lst xs)) H1 H where
  b := x.b.trans (same_new hp2 _)
  i := fun a u q => by
    by_cases e : a = p
    · subst e; rw [upd_same] at q; rw [hH]; exact q
    · rw [upd_ne e] at q; exact x.i a u q
  o := x.o
  ap := fun a h1 h2 => by
    have e : a ≠ p := fun z => h2.ne (by rw [z]; exact hp)
    rw [upd_ne e]
    exact x.ap a h1 h2
theorem tG_lc {vs : List Nat} {di : DA} {g : DG} {is : List Nat} {dt de : DE} (his : ∀ i ∈ is, i ∈ vs) {σ : L2.St} {H : Hp} {Q : VK} (h : tG (dLc vs di g dt de) σ H Q) : tLc (tGI di) (tGG g is) (tGT dt) (tG de) vs σ H Q := by
  obtain ⟨B, ρ, d, sm, en, e, k⟩ := h
  obtain ⟨xs, e1, e2⟩ := Option.bind_eq_some_iff.mp e
  obtain ⟨ys, e3, e4⟩ := Option.map_eq_some_iff.mp e2
  subst e4
  refine ⟨B, ρ, xs, sm, en, e1, fun J B1 H1 a1 w p hp => ?_⟩
  refine ⟨fun i m H' => m = xs.length - i ∧ i ≤ xs.length ∧ ∃ B2 av ad r, At B1 B2 H1 H' ∧ B2 p = none ∧ H' p = some (.lst av) ∧ DvA B2 av ad ∧ ad.length ≤ i ∧ lcL g dt de (wipeR ρ vs) (xs.drop i) = some r ∧ ys = ad ++ r,
    ⟨xs.length, by omega, Nat.zero_le _, B1, [], [], ys, ⟨Same.refl _, Same.upd a1.i (a1.i.free hp) _, Same.upd (Same.refl _) hp _, fun a h _ => h⟩, a1.i.free hp, upd_same, .nil, Nat.zero_le _, e3, rfl⟩, ?_⟩
  rintro i m H' ⟨rfl, hi, B2, av, ad, r, a2, b2, h2, dv2, hl2, e5, e6⟩
  by_cases hlt : i < xs.length
  · rw [List.drop_eq_getElem_cons hlt] at e5
    obtain ⟨ρ3, e7, e8⟩ := Option.bind_eq_some_iff.mp (show (g (wipeR ρ vs) xs[i]).bind (fun ρ1 => (dt ρ1).bind fun t => match t with
      | .bool true => (de ρ1).bind fun y => (lcL g dt de (wipeR ρ vs) (xs.drop (i + 1))).bind fun ys => some (y :: ys)
      | .bool false => lcL g dt de (wipeR ρ vs) (xs.drop (i + 1))
      | _ => none) = some r from e5)
    obtain ⟨t, e9, e10⟩ := Option.bind_eq_some_iff.mp e8
    refine .inr ⟨w.go i H' hlt (a2.b.trans a2.i), fun H3 => ∃ B3 av ad r, At B1 B3 H1 H3 ∧ B3 p = none ∧ H3 p = some (.lst av) ∧ DvA B3 av ad ∧ ad.length ≤ i + 1 ∧ lcL g dt de (wipeR ρ vs) (xs.drop (i + 1)) = some r ∧ ys = ad ++ r,
      fun H3 q => ⟨xs.length - (i + 1), by omega, rfl, hlt, q⟩, fun x H3 y => ?_⟩
    obtain ⟨B3, a3, dx⟩ := w.yld i B2 H' x H3 xs[i] a2.b a2.i y (List.getElem?_eq_getElem hlt)
    refine ⟨B3, wipeR ρ vs, xs[i], ρ3, a3.i, ((en.mono a1.b).mono (a2.b.trans a3.b)).wipe vs, dx, e7, fun σ4 en4 bt => ⟨?_, ?_⟩⟩
    · rw [bt.wipe his]
      refine But.wipe (is := vs) ⟨wipe_length σ vs, fun j hj => wipe_out hj⟩ fun _ z => z
    · cases t with
      | bool tb =>
        refine ⟨B3, ρ3, tb, a3.i, en4, e9, fun B4 H4 a4 => ?_⟩
        have hne : Live H' p := ⟨_, h2, rfl⟩
        cases tb with
        | true =>
          obtain ⟨y0, e11, e12⟩ := Option.bind_eq_some_iff.mp e10
          obtain ⟨r2, e13, e14⟩ := Option.bind_eq_some_iff.mp e12
          cases e14
          show tG de σ4 H4 _
          refine ⟨B4, ρ3, y0, a4.i, en4.mono a4.b, e11, fun v B5 H5 a5 dv => ?_⟩
          have a35 := (a3.trans a4).trans a5
          refine ⟨av, a35.o _ _ h2, by rw [dv2.length]; exact small1000 (by have := w.len; omega), ?_⟩
          obtain ⟨g1, g2⟩ := At.grow a2 a35 hp b2 hne (.lst (av ++ [v]))
          exact ⟨B5, av ++ [v], ad ++ [y0], r2, g1, g2, upd_same, (dv2.mono a35.b).append (.one dv), by rw [List.length_append, List.length_singleton]; omega, e13, by rw [e6, List.append_assoc]; rfl⟩
        | false =>
          have a34 := a3.trans a4
          have h4 := a34.o _ _ h2
          show ∃ B3 av ad r, _
          refine ⟨B4, av, ad, r, a2.trans a34, a34.ap p b2 hne, h4, dv2.mono a34.b, Nat.le_succ_of_le hl2, e10, e6⟩
      | _ => exact nomatch e10
  · have ei : i = xs.length := by omega
    subst ei
    rw [List.drop_length] at e5
    cases e5
    rw [List.append_nil] at e6
    subst e6
    have a5 := At.close a2 hp b2 h2
    refine .inl ⟨w.stop H' (a2.b.trans a2.i), k (.ref p) _ H' (a1.trans a5) (.lst upd_same (dv2.mono (same_new b2 _)))⟩
theorem ge_lc {elt tg it : Expr} {ifs : List Expr} {scope : Scope} {own : List (Str × Nat)} {di : DA} {g : DG} {is : List Nat} {dt de : DE} (hc : X.calm = true) (hN : X.N.Nodup) (hi : GI X tg it di) (ok : BlkOk X.N X.env.scope scope own)
    (hg : ∀ (s : Shared) (H : Hp) (C : Addr) (cl : List (Str × Addr)) (fp : List Addr), GG (X.blk s H scope (compEnvC scope cl C X.env) fp) tg g is) (ht : ∀ (s : Shared) (H : Hp) (C : Addr) (cl : List (Str × Addr)) (fp : List Addr), GTs (X.blk s H scope (compEnvC scope cl C X.env) fp) ifs dt)
    (he : ∀ (s : Shared) (H : Hp) (C : Addr) (cl : List (Str × Addr)) (fp : List Addr), GE (X.blk s H scope (compEnvC scope cl C X.env) fp) elt de) (his : ∀ i ∈ is, i ∈ own.map (·.2) := by decide) (hs : ∀ x, foldedSetIterable it X.env x = pure x := by intro _; rfl) :
    GE X (.ListComp elt [⟨tg, it, ifs, 0⟩] scope pos) (dLc (own.map (·.2)) di g dt de) :=
  ⟨PE.imp (pe_lc hc hN hi.pi ok (fun s H C cl fp => (hg s H C cl fp).pg) (fun s H C cl fp => (ht s H C cl fp).pts) (fun s H C cl fp => (he s H C cl fp).pe) hs) fun _ _ _ h => tG_lc his h⟩
/-- y = [..] on one line, y a plain local -/
theorem gs_setLc {i : Nat} {y : Str} {py : Pos} {elt tg it : Expr} {ifs : List Expr} {scope : Scope} {own : List (Str × Nat)} {spos : Pos} {di : DA} {g : DG} {is : List Nat} {dt de : DE} (hc : X.calm = true) (hN : X.N.Nodup) (hy : X.N[i]? = some y) (hyl : X.env.scope.names.lookup y = some .local)
    (hsw : swapsWith (.ListComp elt [⟨tg, it, ifs, 0⟩] scope pos) (some (.Name y py)) spos.line X.env = pure true) (hi : GI X tg it di) (ok : BlkOk X.N X.env.scope scope own)
    (hg : ∀ (s : Shared) (H : Hp) (C : Addr) (cl : List (Str × Addr)) (fp : List Addr), GG (X.blk s H scope (compEnvC scope cl C X.env) fp) tg g is) (ht : ∀ (s : Shared) (H : Hp) (C : Addr) (cl : List (Str × Addr)) (fp : List Addr), GTs (X.blk s H scope (compEnvC scope cl C X.env) fp) ifs dt)
    (he : ∀ (s : Shared) (H : Hp) (C : Addr) (cl : List (Str × Addr)) (fp : List Addr), GE (X.blk s H scope (compEnvC scope cl C X.env) fp) elt de) (his : ∀ i ∈ is, i ∈ own.map (·.2) := by decide) (hs : ∀ x, foldedSetIterable it X.env x = pure x := by intro _; rfl) :
    GS X (.Assign [.Name y py] (.ListComp elt [⟨tg, it, ifs, 0⟩] scope pos) spos) (dAsg (dLc (own.map (·.2)) di g dt de) (bName i)) :=
  gs_set (PS.imp (ps_setLc hc hN hy hyl hsw hi.pi ok (fun s H C cl fp => (hg s H C cl fp).pg) (fun s H C cl fp => (ht s H C cl fp).pts) (fun s H C cl fp => (he s H C cl fp).pe) hs) fun D σ H ⟨B, ρ, d, sm, en, e, k⟩ => tG_lc his ⟨B, ρ, d, sm, en, e, k⟩)
end
end SK
set_option maxHeartbeats 1000000
/-! Sequences, built-ins by data. -/
namespace SK
open PySem PySem.Spec PyProof.Rows L2
section
variable {X : Cx} {a b c : Expr} {da db dc : DE} {pos : Pos} {es : List Expr} {des : DA}

/-! ### data as the layer has them -/
mutual
theorem Dv.dp {K : PySem.W.Frag} {B : Hp} : ∀ {v : V} {d : PyData}, Dv B v d → d.canLay0 = true → Dp K B v d
  | _, _, .non, _ => .non
  | _, _, .bl b, _ => .bl b
  | _, _, .int i, _ => .int i
  | _, _, .str x, _ => .str x
  | _, _, .lst e h, q => .lst (SqL.of e) (DvA.dp h (by simpa [PyData.canLay0] using q))
  | _, _, .tup e h, q => .tup e.sq (DvA.dp h (by simpa [PyData.canLay0] using q))
  | _, _, .dic e h, q => by simp [PyData.canLay0] at q
theorem DvA.dp {K : PySem.W.Frag} {B : Hp} : ∀ {vs : List V} {ds : List PyData}, DvA B vs ds → PyData.canLayAll0 ds = true → DpAll K B vs ds
  | _, _, .nil, _ => .nil
  | _, _, .cons h t, q => by
    simp only [PyData.canLayAll0, Bool.and_eq_true] at q
    exact .cons (Dv.dp h q.1) (DvA.dp t q.2)
end
theorem shaped_lay {d : PyData} (h : SeqAt.shaped d = true) : d.canLay0 = true := SeqAt.canLay_of_shaped h

/-! ### ==, !=, in a tuple -/
def bEq (d e : PyData) : Option PyData := if SeqAt.shaped d = true ∧ SeqAt.shaped e = true then some (.bool (PyData.eqv d e)) else none
def bNe (d e : PyData) : Option PyData := if SeqAt.shaped d = true ∧ SeqAt.shaped e = true then some (.bool (!PyData.eqv d e)) else none
theorem rel_eq {K : PySem.W.Frag} : Rel2 (rEqD K) bEq := by
  intro x y d e z B H Q s hx hy hf k
  by_cases h : SeqAt.shaped d = true ∧ SeqAt.shaped e = true
  · rw [bEq, if_pos h] at hf
    cases hf
    exact ⟨d, e, (hx.mono s).dp (shaped_lay h.1), (hy.mono s).dp (shaped_lay h.2), h.1, h.2, k _ B H (At.refl s) (.bl _)⟩
  · rw [bEq, if_neg h] at hf
    cases hf
theorem rel_ne {K : PySem.W.Frag} : Rel2 (rNeD K) bNe := by
  intro x y d e z B H Q s hx hy hf k
  by_cases h : SeqAt.shaped d = true ∧ SeqAt.shaped e = true
  · rw [bNe, if_pos h] at hf
    cases hf
    exact ⟨d, e, (hx.mono s).dp (shaped_lay h.1), (hy.mono s).dp (shaped_lay h.2), h.1, h.2, k _ B H (At.refl s) (.bl _)⟩
  · rw [bNe, if_neg h] at hf
    cases hf
theorem ge_eq (hu : X.A.units + 64 < cLine) (ha : GE X a da) (hb : GE X b db) : GE X (.Compare a [.Eq] [b] pos) (dOp bEq da db) := ge_cmp (op_eqD hu) rel_eq ha hb (nomark _)
theorem ge_ne (hu : X.A.units + 64 < cLine) (ha : GE X a da) (hb : GE X b db) : GE X (.Compare a [.NotEq] [b] pos) (dOp bNe da db) := ge_cmp (op_neD hu) rel_ne ha hb (nomark _)
theorem gt_eq (hu : X.A.units + 64 < cLine) (ha : GE X a da) (hb : GE X b db) : GT X (.Compare a [.Eq] [b] pos) (dOp bEq da db) := gt_cmp (op_eqD hu) rel_eq ha hb (nomark _)
theorem gt_ne (hu : X.A.units + 64 < cLine) (ha : GE X a da) (hb : GE X b db) : GT X (.Compare a [.NotEq] [b] pos) (dOp bNe da db) := gt_cmp (op_neD hu) rel_ne ha hb (nomark _)
def rInTp (K : PySem.W.Frag) : R2 := fun x y H Q => ∃ d ds, Dp K H x d ∧ Dp K H y (.tuple ds) ∧ SeqAt.shaped d = true ∧ SeqAt.shaped (.tuple ds) = true ∧ Q (.bl (ds.any fun z => PyData.eqv z d)) H
theorem op_inTp (hu : X.A.units + 65 < cLine) : OpR X (compareOp .In) (rInTp X.K) := by
  intro pins s σ H x y v u Q I rx ry ⟨d, ds, hd, he, sd, se, q⟩
  obtain ⟨as, r1⟩ := Dp.reads I d x v hd rx
  obtain ⟨bs, r2⟩ := Dp.reads I (.tuple ds) y u he ry
  refine SeqAt.in_tuple_reads r2 r1 (SeqAt.canLay_of_shaped se) (SeqAt.canLay_of_shaped sd) ?_ ⟨.bl _, H, I, rfl, q⟩
  exact room_in_shaped sd hu
def bInTp (d e : PyData) : Option PyData := match e with
  | .tuple ds => if SeqAt.shaped d = true ∧ SeqAt.shaped (.tuple ds) = true then some (.bool (ds.any fun z => PyData.eqv z d)) else none
  | _ => none
theorem rel_inTp {K : PySem.W.Frag} : Rel2 (rInTp K) bInTp := by
  intro x y d e z B H Q s hx hy hf k
  cases e with
  | tuple ds =>
    by_cases h : SeqAt.shaped d = true ∧ SeqAt.shaped (.tuple ds) = true
    · have q : (if SeqAt.shaped d = true ∧ SeqAt.shaped (.tuple ds) = true then some (PyData.bool (ds.any fun z => PyData.eqv z d)) else none) = some z := hf
      rw [if_pos h] at q
      cases q
      exact ⟨d, ds, (hx.mono s).dp (shaped_lay h.1), (hy.mono s).dp (shaped_lay h.2), h.1, h.2, k _ B H (At.refl s) (.bl _)⟩
    · have q : (if SeqAt.shaped d = true ∧ SeqAt.shaped (.tuple ds) = true then some (PyData.bool (ds.any fun z => PyData.eqv z d)) else none) = some z := hf
      rw [if_neg h] at q
      cases q
  | _ => exact nomatch hf
theorem ge_inTp (hu : X.A.units + 65 < cLine) (ha : GE X a da) (hb : GE X b db) (hm : behindInMarks .In b = false := by rfl) : GE X (.Compare a [.In] [b] pos) (dOp bInTp da db) := ge_cmp (op_inTp hu) rel_inTp ha hb hm

/-! ### items, slices -/
def bIx : PyData → PyData → Option PyData
  | .list ds, .int i => atI ds i
  | .tuple ds, .int i => atI ds i
  | _, _ => none
theorem DvA.atI {B : Hp} {vs : List V} {ds : List PyData} {i : Int} {d : PyData} (h : DvA B vs ds) (e : L2.atI ds i = some d) : ∃ v, L2.atI vs i = some v ∧ Dv B v d := by
  unfold L2.atI at e ⊢
  obtain ⟨j, e1, e2⟩ := Option.bind_eq_some_iff.mp e
  obtain ⟨v, h1, h2⟩ := h.get e2
  rw [h.length, e1]
  exact ⟨v, h1, h2⟩
theorem rel_ix {K : PySem.W.Frag} : Rel2 (rIx K) bIx := by
  intro x y d e z B H Q s hx hy hf k
  cases hx with
  | @lst p xs ds h1 h2 =>
    cases hy with
    | int i =>
      obtain ⟨v, q1, q2⟩ := h2.atI hf
      exact .inl ⟨p, xs, i, v, rfl, rfl, SqL.of (s _ _ h1), q1, k v B H (At.refl s) q2⟩
    | _ => exact nomatch hf
  | @tup p xs ds h1 h2 =>
    cases hy with
    | int i =>
      obtain ⟨v, q1, q2⟩ := h2.atI hf
      exact .inr (.inl ⟨p, xs, i, v, rfl, rfl, (h1.mono s).sq, q1, k v B H (At.refl s) q2⟩)
    | _ => exact nomatch hf
  | _ => exact nomatch hf
theorem ge_ix (ha : GE X a da) (hb : GE X b db) (hs : PlainIx b := by exact fun _ _ => rfl) : GE X (.Subscript a b pos) (dOp bIx da db) := ⟨PE.imp (pe_ix ix_seq ha.pe hb.pe hs) fun _ _ _ h => tG_op rel_ix h⟩
abbrev DO := Rho → Option (Option Int)
def tGO (d : DO) : TO := fun σ H Q => ∃ B ρ o, Same B H ∧ En B σ ρ ∧ d ρ = some o ∧ ∀ B' H', At B B' H H' → Q o H'
structure GO (X : Cx) (e : Option Expr) (d : DO) : Prop where
  po : PO X e (tGO d)
theorem PO.imp {X : Cx} {e : Option Expr} {t t' : TO} (h : PO X e t) (f : ∀ σ H Q, t' σ H Q → t σ H Q) : PO X e t' := ⟨fun pins s σ H Q I w => h.run pins s σ H Q I (f σ H Q w)⟩
def oNone : DO := fun _ => some none
def oSome (d : DE) : DO := fun ρ => (d ρ).bind fun x => match x with
  | .int i => some (some i)
  | _ => none
theorem go_none : GO X none oNone := ⟨PO.imp po_none fun σ H Q ⟨B, ρ, o, s, en, e, k⟩ => by
  cases e
  exact k B H (At.refl s)⟩
theorem go_some (h : GE X a da) : GO X (some a) (oSome da) := ⟨PO.imp (po_some h.pe) fun σ H Q ⟨B, ρ, o, s, en, e, k⟩ => by
  obtain ⟨x, e1, e2⟩ := Option.bind_eq_some_iff.mp e
  cases x with
  | int i =>
    cases e2
    refine ⟨B, ρ, _, s, en, e1, fun v B1 H1 a1 dv => ?_⟩
    cases dv
    exact ⟨i, rfl, k B1 H1 a1⟩
  | _ => exact nomatch e2⟩
def cutD (xs : List PyData) (lo hi : Option Int) : List PyData := (xs.drop (HT.sIx xs.length 0 lo)).take (HT.sIx xs.length xs.length hi - HT.sIx xs.length 0 lo)
theorem DvA.cut {B : Hp} {vs : List V} {ds : List PyData} (h : DvA B vs ds) (lo hi : Option Int) : DvA B (cutV vs lo hi) (cutD ds lo hi) := by
  unfold cutV cutD
  rw [h.length]
  exact (h.drop _).take _
theorem cut_whole {xs : List PyData} {lo hi : Option Int} (h : HT.sIx xs.length 0 lo = 0 ∧ HT.sIx xs.length xs.length hi = xs.length) : cutD xs lo hi = xs := by
  unfold cutD
  rw [h.1, h.2, List.drop_zero, Nat.sub_zero, List.take_length]
def bSl (d : PyData) (lo hi : Option Int) : Option PyData := match d with
  | .list xs => some (.list (cutD xs lo hi))
  | .tuple xs => some (.tuple (cutD xs lo hi))
  | _ => none
def dSl (d : DE) (lo hi : DO) : DE := fun ρ => (d ρ).bind fun x => (lo ρ).bind fun l => (hi ρ).bind fun h => bSl x l h
theorem ge_sl {lo hi : Option Expr} {dl dh : DO} {p2 : Pos} (h : GE X a da) (hl : GO X lo dl) (hh : GO X hi dh) : GE X (.Subscript a (.Slice lo hi none p2) pos) (dSl da dl dh) :=
  ⟨PE.imp (pe_slice (SlR.or sl_list sl_tupN) h.pe hl.po hh.po) fun σ H Q ⟨B, ρ, z, s, en, e, k⟩ => by
    obtain ⟨x, e1, e2⟩ := Option.bind_eq_some_iff.mp e
    obtain ⟨l, e3, e4⟩ := Option.bind_eq_some_iff.mp e2
    obtain ⟨r, e5, e6⟩ := Option.bind_eq_some_iff.mp e4
    refine ⟨B, ρ, x, s, en, e1, fun v B1 H1 a1 dv => ⟨B1, ρ, l, a1.i, en.mono a1.b, e3, fun B2 H2 a2 => ⟨B2, ρ, r, a2.i, en.mono (a1.b.trans a2.b), e5, fun B3 H3 a3 => ?_⟩⟩⟩
    have dv3 := dv.mono (a2.b.trans a3.b)
    have aa := (a1.trans a2).trans a3
    cases dv3 with
    | @lst p xs ds h1 h2 =>
      cases e6
      refine .inl ⟨p, xs, rfl, SqL.of (a3.i _ _ h1), fun q hq => ?_⟩
      have a4 := At.new a3.i hq (.lst (cutV xs l r))
      exact k _ _ _ (aa.trans a4) (.lst upd_same ((h2.cut l r).mono a4.b))
    | @tup p xs ds h1 h2 =>
      cases e6
      refine .inr ⟨p, xs, rfl, (h1.mono a3.i).sq, fun w => ?_, fun _ => newT (rowish (cutD ds l r)) fun q u hq ht => ?_⟩
      · rw [h2.length] at w
        rw [cut_whole w] at k
        exact k _ _ _ aa (.tup h1 h2)
      · exact aa.newTup (k _ _ _) hq ht (h2.cut l r)
    | _ => exact nomatch e6⟩

/-! ### + of ints, tuples, lists -/
def bPlus : PyData → PyData → Option PyData
  | .int i, .int j => some (.int (i + j))
  | .tuple xs, .tuple ys => if xs.length + ys.length ≤ 1000 then some (.tuple (xs ++ ys)) else none
  | .list xs, .list ys => if xs.length + ys.length ≤ 1000 then some (.list (xs ++ ys)) else none
  | _, _ => none
theorem rel_plus {K : PySem.W.Frag} : Rel2 (fun x y H Q => rI0 (fun i j => .int (i + j)) x y H Q ∨ rCatN K x y H Q ∨ rCat x y H Q) bPlus := by
  intro x y d e z B H Q s hx hy hf k
  cases hx with
  | int i =>
    cases hy with
    | int j => cases hf; exact .inl ⟨i, j, rfl, rfl, k _ B H (At.refl s) (.int _)⟩
    | _ => exact nomatch hf
  | @tup p xs ds h1 h2 =>
    cases hy with
    | @tup q ys es h3 h4 =>
      by_cases hl : ds.length + es.length ≤ 1000
      · have g : (if ds.length + es.length ≤ 1000 then some (PyData.tuple (ds ++ es)) else none) = some z := hf
        rw [if_pos hl] at g
        cases g
        refine .inr (.inl ⟨p, q, xs, ys, rfl, rfl, (h1.mono s).sq, (h3.mono s).sq, by rw [h2.length, h4.length]; exact le_line hl, fun z => ?_, fun z _ => ?_, fun _ _ => newT (rowish (ds ++ es)) fun t u hp ht => ?_⟩)
        · subst z
          cases h2
          exact k _ B H (At.refl s) (.tup h3 h4)
        · subst z
          cases h4
          rw [List.append_nil] at k
          exact k _ B H (At.refl s) (.tup h1 h2)
        · exact (At.refl s).newTup (k _ _ _) hp ht (h2.append h4)
      · have g : (if ds.length + es.length ≤ 1000 then some (PyData.tuple (ds ++ es)) else none) = some z := hf
        rw [if_neg hl] at g
        cases g
    | _ => exact nomatch hf
  | @lst p xs ds h1 h2 =>
    cases hy with
    | @lst q ys es h3 h4 =>
      by_cases hl : ds.length + es.length ≤ 1000
      · have g : (if ds.length + es.length ≤ 1000 then some (PyData.list (ds ++ es)) else none) = some z := hf
        rw [if_pos hl] at g
        cases g
        refine .inr (.inr ⟨p, q, xs, ys, rfl, rfl, s _ _ h1, s _ _ h3, by rw [h2.length, h4.length]; exact le_line hl, fun t ht => ?_⟩)
        have a4 := At.new s ht (.lst (xs ++ ys))
        exact k _ _ _ a4 (.lst upd_same ((h2.append h4).mono a4.b))
      · have g : (if ds.length + es.length ≤ 1000 then some (PyData.list (ds ++ es)) else none) = some z := hf
        rw [if_neg hl] at g
        cases g
    | _ => exact nomatch hf
  | _ => cases hy <;> exact nomatch hf
theorem ge_plus (ha : GE X a da) (hb : GE X b db) : GE X (.BinOp a .Add b pos) (dOp bPlus da db) := ge_op (OpR.or op_add (OpR.or op_catN op_cat)) rel_plus ha hb

/-! ### built-ins of one or two arguments -/
def mLen : List PyData → Option PyData
  | [.list xs] => some (.int xs.length)
  | [.tuple xs] => some (.int xs.length)
  | _ => none
theorem rel_len {K : PySem.W.Frag} : RelC (fun xs H Q => ∃ p ys, xs = [.ref p] ∧ (SqL K H p ys ∨ SqT K H p ys) ∧ Q (.int ys.length) H) mLen := by
  intro vs ds z B H Q s h hm k
  match ds, h, hm with
  | [.list xs], .cons (.lst h1 h2) .nil, hm => cases hm; exact ⟨_, _, rfl, .inl (SqL.of (s _ _ h1)), by rw [h2.length]; exact k _ B H (At.refl s) (.int _)⟩
  | [.tuple xs], .cons (.tup h1 h2) .nil, hm => cases hm; exact ⟨_, _, rfl, .inr (h1.mono s).sq, by rw [h2.length]; exact k _ B H (At.refl s) (.int _)⟩
def mTuple : List PyData → Option PyData
  | [.list xs] => some (.tuple xs)
  | [.tuple xs] => some (.tuple xs)
  | _ => none
theorem rel_tuple {K : PySem.W.Frag} : RelC (fun xs H Q => ∃ p ys, xs = [.ref p] ∧ ((SqL K H p ys ∧ NewT H ys Q) ∨ (SqT K H p ys ∧ Q (.ref p) H))) mTuple := by
  intro vs ds z B H Q s h hm k
  match ds, h, hm with
  | [.list xs], .cons (.lst (xs := ys) h1 h2) .nil, hm =>
    cases hm
    exact ⟨_, _, rfl, .inl ⟨SqL.of (s _ _ h1), newT (rowish xs) fun l u hl ht => (At.refl s).newTup (k _ _ _) hl ht h2⟩⟩
  | [.tuple xs], .cons (.tup h1 h2) .nil, hm => cases hm; exact ⟨_, _, rfl, .inr ⟨(h1.mono s).sq, k _ B H (At.refl s) (.tup h1 h2)⟩⟩
def mList : List PyData → Option PyData
  | [.list xs] => some (.list xs)
  | [.tuple xs] => some (.list xs)
  | _ => none
theorem rel_list {K : PySem.W.Frag} : RelC (fun xs H Q => ∃ p ys, xs = [.ref p] ∧ (SqL K H p ys ∨ SqT K H p ys) ∧ ∀ l, H l = none → Q (.ref l) (upd H l (.lst ys))) mList := by
  intro vs ds z B H Q s h hm k
  match ds, h, hm with
  | [.list xs], .cons (.lst (xs := ys) h1 h2) .nil, hm =>
    cases hm
    refine ⟨_, _, rfl, .inl (SqL.of (s _ _ h1)), fun l hl => ?_⟩
    have a4 := At.new s hl (.lst ys)
    exact k _ _ _ a4 (.lst upd_same (h2.mono a4.b))
  | [.tuple xs], .cons (.tup (xs := ys) h1 h2) .nil, hm =>
    cases hm
    refine ⟨_, _, rfl, .inr (h1.mono s).sq, fun l hl => ?_⟩
    have a4 := At.new s hl (.lst ys)
    exact k _ _ _ a4 (.lst upd_same (h2.mono a4.b))
/-- a list of truth values -/
def bls : List PyData → Option (List Bool)
  | [] => some []
  | .bool b :: r => (bls r).map (b :: ·)
  | _ => none
theorem DvA.bls {B : Hp} : ∀ {vs : List V} {ds : List PyData} {bs : List Bool}, DvA B vs ds → bls ds = some bs → vs = bs.map V.bl
  | _, [], _, .nil, e => by cases e; rfl
  | _, .bool b :: r, _, .cons (.bl _) t, e => by
    obtain ⟨bs, e1, e2⟩ := Option.map_eq_some_iff.mp e
    rw [← e2, DvA.bls t e1] <;> rfl
  | _, .none :: _, _, _, e | _, .int _ :: _, _, _, e | _, .str _ :: _, _, _, e | _, .list _ :: _, _, _, e | _, .tuple _ :: _, _, _, e | _, .dict _ :: _, _, _, e => nomatch e
def mAny : List PyData → Option PyData
  | [.list xs] => (bls xs).map fun bs => .bool (bs.any id)
  | _ => none
def mAll : List PyData → Option PyData
  | [.list xs] => (bls xs).map fun bs => .bool (bs.all id)
  | _ => none
theorem rel_any {K : PySem.W.Frag} : RelC (rAny K) mAny := by
  intro vs ds z B H Q s h hm k
  match ds, h, hm with
  | [.list xs], .cons (.lst h1 h2) .nil, hm =>
    obtain ⟨bs, e1, e2⟩ := Option.map_eq_some_iff.mp hm
    subst e2
    have e := h2.bls e1
    subst e
    exact ⟨_, bs, rfl, SqL.of (s _ _ h1), k _ B H (At.refl s) (.bl _)⟩
theorem rel_all {K : PySem.W.Frag} : RelC (rAll K) mAll := by
  intro vs ds z B H Q s h hm k
  match ds, h, hm with
  | [.list xs], .cons (.lst h1 h2) .nil, hm =>
    obtain ⟨bs, e1, e2⟩ := Option.map_eq_some_iff.mp hm
    subst e2
    have e := h2.bls e1
    subst e
    exact ⟨_, bs, rfl, SqL.of (s _ _ h1), k _ B H (At.refl s) (.bl _)⟩
/-- a list of ints -/
def ins : List PyData → Option (List Int)
  | [] => some []
  | .int b :: r => (ins r).map (b :: ·)
  | _ => none
theorem DvA.ins {B : Hp} : ∀ {vs : List V} {ds : List PyData} {bs : List Int}, DvA B vs ds → ins ds = some bs → vs = bs.map V.int
  | _, [], _, .nil, e => by cases e; rfl
  | _, .int b :: r, _, .cons (.int _) t, e => by
    obtain ⟨bs, e1, e2⟩ := Option.map_eq_some_iff.mp e
    rw [← e2, DvA.ins t e1] <;> rfl
  | _, .none :: _, _, _, e | _, .bool _ :: _, _, _, e | _, .str _ :: _, _, _, e | _, .list _ :: _, _, _, e | _, .tuple _ :: _, _, _, e | _, .dict _ :: _, _, _, e => nomatch e
theorem ins_map : ∀ ns : List Int, ins (ns.map .int) = some ns
  | [] => rfl
  | n :: ns => by
    show (ins (ns.map .int)).map (n :: ·) = _
    rw [ins_map ns] <;> rfl
theorem bls_map : ∀ ns : List Bool, bls (ns.map .bool) = some ns
  | [] => rfl
  | n :: ns => by
    show (bls (ns.map .bool)).map (n :: ·) = _
    rw [bls_map ns] <;> rfl
def maxL : Int → List Int → Int
  | m, [] => m
  | m, x :: r => maxL (max m x) r
theorem maxL_le : ∀ (r : List Int) (m : Int), m ≤ maxL m r ∧ ∀ y ∈ r, y ≤ maxL m r
  | [], m => ⟨Int.le_refl _, fun _ h => nomatch h⟩
  | x :: r, m => by
    obtain ⟨h1, h2⟩ := maxL_le r (max m x)
    refine ⟨Int.le_trans (Int.le_max_left m x) h1, fun y hy => ?_⟩
    rcases List.mem_cons.mp hy with e | hy
    · subst e; exact Int.le_trans (Int.le_max_right m y) h1
    · exact h2 y hy
theorem maxL_mem : ∀ (r : List Int) (m : Int), maxL m r = m ∨ maxL m r ∈ r
  | [], m => .inl rfl
  | x :: r, m => by
    show maxL (max m x) r = m ∨ maxL (max m x) r ∈ x :: r
    rcases maxL_mem r (max m x) with e | e
    · rw [e]
      rcases Int.le_total m x with h | h
      · rw [Int.max_eq_right h]; exact .inr List.mem_cons_self
      · rw [Int.max_eq_left h]; exact .inl rfl
    · exact .inr (List.mem_cons_of_mem _ e)
def mMax : List PyData → Option PyData
  | [.list xs] => (ins xs).bind fun ns => match ns with
    | [] => none
    | n :: r => some (.int (maxL n r))
  | [.int i, .int j] => some (.int (max i j))
  | _ => none
theorem rel_max {K : PySem.W.Frag} : RelC (fun xs H Q => rMax K xs H Q ∨ ∃ i j, xs = [.int i, .int j] ∧ Q (.int (if j > i then j else i)) H) mMax := by
  intro vs ds z B H Q s h hm k
  match ds, h, hm with
  | [.list xs], .cons (.lst h1 h2) .nil, hm =>
    obtain ⟨ns, e1, e2⟩ := Option.bind_eq_some_iff.mp hm
    have e := h2.ins e1
    subst e
    match ns, e2 with
    | n :: r, e2 =>
      cases e2
      refine .inl ⟨_, n :: r, rfl, SqL.of (s _ _ h1), Nat.succ_pos _, fun m hm hle => ?_⟩
      obtain ⟨q1, q2⟩ := maxL_le r n
      have e3 : m = maxL n r := by
        refine Int.le_antisymm ?_ (hle _ ?_)
        · rcases List.mem_cons.mp hm with e | e
          · rw [e]; exact q1
          · exact q2 m e
        · rcases maxL_mem r n with e | e
          · rw [e]; exact List.mem_cons_self
          · exact List.mem_cons_of_mem _ e
      rw [e3]
      exact k _ B H (At.refl s) (.int _)
  | [.int i, .int j], .cons (.int _) (.cons (.int _) .nil), hm =>
    cases hm
    refine .inr ⟨i, j, rfl, ?_⟩
    have e : (if j > i then j else i) = max i j := by
      rw [Int.max_def]
      split <;> split <;> omega
    rw [e]
    exact k _ B H (At.refl s) (.int _)
def mMin : List PyData → Option PyData
  | [.int i, .int j] => some (.int (min i j))
  | _ => none
theorem rel_min : RelC (fun xs H Q => ∃ i j, xs = [.int i, .int j] ∧ Q (.int (if j < i then j else i)) H) mMin := by
  intro vs ds z B H Q s h hm k
  match ds, h, hm with
  | [.int i, .int j], .cons (.int _) (.cons (.int _) .nil), hm =>
    cases hm
    refine ⟨i, j, rfl, ?_⟩
    have e : (if j < i then j else i) = min i j := by
      rw [Int.min_def]
      split <;> split <;> omega
    rw [e]
    exact k _ B H (At.refl s) (.int _)
/-- int(x): an int, a truth value -/
def mInt : List PyData → Option PyData
  | [.int i] => some (.int i)
  | [.bool k] => some (.int (if k then 1 else 0))
  | _ => none
theorem rel_int : RelC (fun xs H Q => (∃ i, xs = [.int i] ∧ Q (.int i) H) ∨ ∃ k, xs = [.bl k] ∧ Q (.int (if k then 1 else 0)) H) mInt := by
  intro vs ds z B H Q s h hm k
  match ds, h, hm with
  | [.int i], .cons (.int _) .nil, hm => cases hm; exact .inl ⟨i, rfl, k _ B H (At.refl s) (.int _)⟩
  | [.bool i], .cons (.bl _) .nil, hm => cases hm; exact .inr ⟨i, rfl, k _ B H (At.refl s) (.int _)⟩
/-- list(range(n)) -/
def dRgL (d : DE) : DE := fun ρ => (d ρ).bind fun x => match x with
  | .int n => if n ≤ 1000 ∧ 0 ≤ n then some (.list (upTo n.toNat)) else none
  | _ => none
theorem DvA.upTo (B : Hp) (n : Nat) : DvA B ((List.range n).map fun i => V.int (0 + (i : Nat))) (upTo n) := by
  have key : ∀ l : List Nat, DvA B (l.map fun i => V.int (0 + (i : Nat))) (l.map fun i => PyData.int (i : Nat)) := by
    intro l
    induction l with
    | nil => exact .nil
    | cons x r ih =>
      refine .cons ?_ ih
      show Dv B (V.int (0 + (x : Int))) (PyData.int (x : Int))
      rw [Int.zero_add]
      exact .int _
  exact key (List.range n)
theorem ge_rgL {p p2 q : Pos} (hc : X.calm = true) (hg : Gl X "list") (hm : X.mg "list" = none) (hg2 : Gl X "range") (hm2 : X.mg "range" = none) (ha : GE X a da) (na : starEach [a] X.env = (false, eval a X.env) :: starEach [] X.env := by rfl)
    (na2 : starEach [.Call (.Name "range" p2) [a] [] q] X.env = (false, eval (.Call (.Name "range" p2) [a] [] q) X.env) :: starEach [] X.env := by rfl) : GE X (.Call (.Name "list" p) [.Call (.Name "range" p2) [a] [] q] [] pos) (dRgL da) :=
  ⟨PE.imp (pe_listRg hc hg hm (prg_1 hg2 hm2 ha.pe na) na2) fun σ H Q ⟨B, ρ, z, s, en, e, k⟩ => by
    obtain ⟨x, e1, e2⟩ := Option.bind_eq_some_iff.mp e
    cases x with
    | int n =>
      by_cases hn : n ≤ 1000 ∧ 0 ≤ n
      · have g : (if n ≤ 1000 ∧ 0 ≤ n then some (PyData.list (SK.upTo n.toNat)) else none) = some z := e2
        rw [if_pos hn] at g
        cases g
        refine ⟨B, ρ, _, s, en, e1, fun v B1 H1 a1 dv => ?_⟩
        cases dv
        refine ⟨n, rfl, RgOk.of_le (by omega) (by omega) (by omega) (by omega), fun l hl => ?_⟩
        have a4 := At.new a1.i hl (.lst (rgV 0 n))
        have e5 : rgV 0 n = (List.range n.toNat).map fun i => V.int (0 + (i : Nat)) := by
          unfold rgV
          rw [Int.sub_zero]
        refine k _ _ _ (a1.trans a4) (.lst upd_same ?_)
        rw [e5]
        exact DvA.upTo _ _
      · have g : (if n ≤ 1000 ∧ 0 ≤ n then some (PyData.list (SK.upTo n.toNat)) else none) = some z := e2
        rw [if_neg hn] at g
        cases g
    | _ => exact nomatch e2⟩

/-! ### isinstance -/
def tyD : PyData → String
  | .none => "NoneType"
  | .bool _ => "bool"
  | .int _ => "int"
  | .str _ => "str"
  | .list _ => "list"
  | .tuple _ => "tuple"
  | .dict _ => "dict"
theorem TupAt.ty {K : PySem.W.Frag} {H : Hp} {a : Addr} {xs : List V} : ∀ {b : Bool}, TupAt H a xs b → TyX K H (.ref a) (.type "tuple")
  | false, h => .base (.tup h)
  | true, ⟨o, _, h⟩ => .fTuple h
theorem Dv.ty {K : PySem.W.Frag} {B : Hp} {v : V} {d : PyData} (h : Dv B v d) : TyX K B v (.type (tyD d)) := by
  cases h with
  | non => exact .base .non
  | bl b => exact .base (.bl b)
  | int i => exact .base (.int i)
  | str x => exact .base (.str x)
  | lst e _ => exact .base (.lst e)
  | tup e _ => exact e.ty
  | dic e _ => exact .base (.dT e)
def isOf (T : String) (d : PyData) : Bool := tyD d == T || (T == "int" && tyD d == "bool")
theorem kit_isOf {K : PySem.W.Frag} {T : String} (hT : T ∈ ["list", "tuple", "int", "bool", "str"]) (d : PyData) : PySem.W.kitOne K (.type (tyD d)) (.type T) = some (isOf T d) := by
  have key : ∀ T ∈ ["list", "tuple", "int", "bool", "str"], ∀ S ∈ ["NoneType", "bool", "int", "str", "list", "tuple", "dict"], kitB S T = some (S == T || (T == "int" && S == "bool")) := by decide +kernel
  refine kit_ty (key T hT (tyD d) ?_)
  cases d <;> simp [tyD]
def dIsi (T : String) (d : DE) : DE := fun ρ => (d ρ).map fun x => .bool (isOf T x)
theorem ge_isi {T : String} {t : Expr} {p : Pos} (hT : T ∈ ["list", "tuple", "int", "bool", "str"]) (hg : Gl X "isinstance") (hm : X.mg "isinstance" = none) (ha : GE X a da) (ht : PE X t (tC (.ty T))) (h1 : starEach [a, t] X.env = (false, eval a X.env) :: starEach [t] X.env := by rfl)
    (h2 : starEach [t] X.env = (false, eval t X.env) :: starEach [] X.env := by rfl) (hpl : (backTo pos (starEach [t] X.env)).any (·.1) = false := by rfl) : GE X (.Call (.Name "isinstance" p) [a, t] [] pos) (dIsi T da) :=
  ⟨PE.imp (pe_callB call_isi hg hm (by decide +kernel) (pa_cons ha.pe (pa_cons ht pa_nil h2) h1) (by decide) (by decide) h1 hpl) fun σ H Q ⟨B, ρ, z, s, en, e, k⟩ => by
    obtain ⟨x, e1, e2⟩ := Option.map_eq_some_iff.mp e
    subst e2
    exact ⟨B, ρ, x, s, en, e1, fun v B1 H1 a1 dv => ⟨v, .ty T, _, _, _, rfl, .ty T, (dv.mono a1.i).ty, kit_isOf hT x, k _ B1 H1 a1 (.bl _)⟩⟩⟩
def dIsi2 (T U : String) (d : DE) : DE := fun ρ => (d ρ).map fun x => .bool (isOf T x || isOf U x)
theorem ge_isi2 {T U : String} {t u : Expr} {p q : Pos} {kk : Nat} (hT : T ∈ ["list", "tuple", "int", "bool", "str"]) (hU : U ∈ ["list", "tuple", "int", "bool", "str"]) (hg : Gl X "isinstance") (hm : X.mg "isinstance" = none) (ha : GE X a da) (ht : PE X t (tC (.ty T))) (hu : PE X u (tC (.ty U)))
    (h1 : starEach [a, .Tuple [t, u] kk q] X.env = (false, eval a X.env) :: starEach [.Tuple [t, u] kk q] X.env := by rfl) (h2 : starEach [.Tuple [t, u] kk q] X.env = (false, eval (.Tuple [t, u] kk q) X.env) :: starEach [] X.env := by rfl)
    (h3 : starEach [t, u] X.env = (false, eval t X.env) :: starEach [u] X.env := by rfl) (h4 : starEach [u] X.env = (false, eval u X.env) :: starEach [] X.env := by rfl)
    (hpl : (backTo pos (starEach [.Tuple [t, u] kk q] X.env)).any (·.1) = false := by rfl) : GE X (.Call (.Name "isinstance" p) [a, .Tuple [t, u] kk q] [] pos) (dIsi2 T U da) :=
  ⟨PE.imp (pe_callB call_isiT hg hm (by decide +kernel) (pa_cons ha.pe (pa_cons (pe_tup (pa_cons ht (pa_cons hu pa_nil h4) h3)) pa_nil h2) h1) (by decide) (by decide) h1 hpl) fun σ H Q ⟨B, ρ, z, s, en, e, k⟩ => by
    obtain ⟨x, e1, e2⟩ := Option.map_eq_some_iff.mp e
    subst e2
    refine ⟨B, ρ, x, s, en, e1, fun v B1 H1 a1 dv => ⟨by show 2 ≤ sizeLine; decide, fun tp htp => ?_⟩⟩
    have a4 := At.new a1.i htp (.tup [.ty T, .ty U])
    refine ⟨v, tp, _, _, [.type T, .type U], _, rfl, upd_same, .cons (.ty T) (.cons (.ty U) .nil), (dv.mono (a4.b.trans a4.i)).ty, ?_, k _ _ _ (a1.trans a4) (.bl (isOf T x || isOf U x))⟩
    refine kitAny_cons (kit_isOf hT x) (fun h => ?_) (fun h => by rw [h]; rfl)
    rw [h, Bool.false_or]
    exact kitAny_cons (kit_isOf hU x) (fun h => by rw [h]; exact kitAny_nil) (fun h => h)⟩
end
end SK
set_option maxHeartbeats 1000000
/-! enumerate of a tuple or a list, zip of two lists, comprehensions of two clauses, by data. -/
namespace SK
open PySem PySem.Spec PyProof.Rows L2

/-! ### enumerate(t), t a tuple -/
section
set_option maxHeartbeats 2000000 in
theorem enumNew {v : Value} {o : Obj} {G : Heap → Prop} (B : Begins v o G) :
    Meets (Builtin.«enumerate.__new__» ⟨[.type "enumerate", v], []⟩) (fun _ R s => G s.heap ∧
      R (.ok (.ret (.ref (s.heap.push o).objs.size))) { s with heap := (s.heap.push o).push { cls := .type "enumerate", data := .fields #[.none, .bool false, .ref s.heap.objs.size, rawInt 0, .none, .none] } }) :=
  .of_wp fun prog w A R s hh => by
    obtain ⟨hp, gs, dr, tk, os⟩ := s
    obtain ⟨g1, hR⟩ := hh
    have isE := sub_enumerate
    have it1 : ∀ {A' : Around} {E Q : Value → Shared → Prop}, Q (.ref hp.objs.size) ⟨hp.push o, gs, dr, tk, os⟩ → wpAny (model prog w) A' (pyIter v) Q E ⟨hp, gs, dr, tk, os⟩ :=
      fun q => B.iter prog w _ _ ⟨hp, gs, dr, tk, os⟩ _ g1 q
    wp_walk using it1
    refine wpAny_stack_any fun st => wpAny_pure ?_
    split
    · rename_i cv _ _ _ _ _
      cases (cv == Value.type "enumerate")
      · wp_walk using it1
        exact ⟨_, rfl, hR⟩
      · wp_walk using it1
        exact ⟨_, rfl, hR⟩
    · wp_walk using it1
      exact ⟨_, rfl, hR⟩
variable {prog : Program} {w : World} {A : Around} {E : Value → Shared → Prop} {s : Shared}
theorem enumCall {v : Value} {o : Obj} {G : Heap → Prop} {Q : Value → Shared → Prop} (B : Begins v o G) (g1 : G s.heap)
    (k : ∀ h', IsEnum h' (s.heap.objs.size + 1) s.heap.objs.size 0 .none → h'.get? s.heap.objs.size = some o → (∀ b u, s.heap.get? b = some u → h'.get? b = some u) → Q (.ref (s.heap.objs.size + 1)) { s with heap := h' }) :
    wpAny (model prog w) A (call (.type "enumerate") [v]) Q E s := by
  refine callType_new F.called_enumerate (by decide) (F.typeCall_enumerate_1 _) (F.newCall_enumerate_1 _) (fun obj => F.args_object_init_2 obj _) F.entry_enumerate_new (enumNew B) ⟨g1, ?_⟩
  have z1 : (s.heap.push o).objs.size = s.heap.objs.size + 1 := Heap.size_push ..
  show _ ∧ _
  rw [z1]
  have ie : IsEnum ((s.heap.push o).push { cls := .type "enumerate", data := .fields #[.none, .bool false, .ref s.heap.objs.size, rawInt 0, .none, .none] }) (s.heap.objs.size + 1) s.heap.objs.size 0 .none := by
    have q := Heap.get?_push_size (s.heap.push o) (o := { cls := .type "enumerate", data := .fields #[.none, .bool false, .ref s.heap.objs.size, rawInt 0, .none, .none] }) rfl
    rw [z1] at q
    exact q
  exact ⟨⟨_, ie, rfl⟩, k _ ie (Heap.get?_push_of_some _ (Heap.get?_push_size _ B.free)) fun b u x => Heap.get?_push_of_some _ (Heap.get?_push_of_some _ x)⟩
end
/-- the tuple at a, its items with their numbers in new pairs -/
def Itet (K : PySem.W.Frag) (a : Addr) : It :=
  ⟨fun i H => ∃ xs x, SqT K H a xs ∧ xs[i]? = some x, fun i H v H' => ∃ T x, v = .ref T ∧ H T = none ∧ H' = upd H T (.tup [.int i, x]) ∧ ∀ xs, SqT K H a xs → xs[i]? = some x, fun i H => ∃ xs, SqT K H a xs ∧ xs.length ≤ i⟩
theorem enumTurn {P : Program} {w : World} {K : PySem.W.Frag} {ts : List Expr} {kk : Nat} {tp : Pos} (a e it : Addr) :
    Turn P w K (.Tuple ts kk tp) (Itet K a) [e, it] e (fun i h => (∃ old, IsEnum h e it ((i : Nat) : Int) old) ∧ h.IsTupleIter it a i ∧ e ≠ it ∧ it ≠ a ∧ e ≠ a) where
  mem := by simp
  obj := fun i h st b hb => by
    obtain ⟨⟨old, ie⟩, ⟨o, ho, hc, hd⟩, _⟩ := st
    rcases (show b = e ∨ b = it by simpa using hb) with z | z
    · subst z; exact ⟨_, ie, fun v q => nomatch q⟩
    · subst z; exact ⟨o, ho, fun v q => by rw [hd] at q; cases q⟩
  keep := fun i h h' st k => by
    obtain ⟨⟨old, ie⟩, hi, n1, n2, n3⟩ := st
    exact ⟨⟨old, k e (by simp) _ ie⟩, hi.at fun o q => k it (by simp) o q, n1, n2, n3⟩
  item := by
    intro X hP hw hK hc i pins s σ H E I hf st hg
    subst hP hw hK
    obtain ⟨⟨old, ie⟩, hit, n1, n2, n3⟩ := st
    obtain ⟨xs, x, hq, hx⟩ := hg
    obtain ⟨its, rv, p, hz⟩ := I.tuple hq
    obtain ⟨u, hu, ru⟩ := rv.get hx
    have le : e < s.heap.objs.size := Heap.lt_size ie
    have li : it < s.heap.objs.size := by obtain ⟨_, q, _⟩ := hit; exact Heap.lt_size q
    have hu2 : i < its.toArray.size := by
      have q := (List.getElem?_eq_some_iff.mp hu).1
      simpa using q
    have hT0 : s.heap.IsTuple a its.toArray := p
    have D := Draws.tuple (prog := X.prog) (w := X.w) (A := X.A.in1) (I.ok.hd hc) it a (Ne.symm n2) its.toArray
    refine wpAny_pyNext_enum_itemD D ie ⟨hit, hT0⟩ hu2 n1 (by simp [n1, n3]) fun y h' tk py io st' hT hsz hk => ?_
    have ey : y = u := by
      have q : its.toArray[i]? = some y := py
      have q2 : its[i]? = some y := by simpa using q
      rw [hu] at q2
      exact (Option.some.inj q2).symm
    subst ey
    refine ⟨_, rfl, wpAny_letOwnedTupleGo_enum (s := { s with heap := h', toks := tk + 1 }) io fun h'' ie' sb => ?_⟩
    have hT2 : h''.get? s.heap.objs.size = some { cls := .type "tuple", data := .seq #[.int i tk, y] } := (sb.2 _ (Nat.ne_of_gt le)).trans hT
    have new : ObjOk X.prog X.w (upd H s.heap.objs.size (.tup [.int (i : Nat), x])) h'' s.heap.objs.size (.tup [.int (i : Nat), x]) :=
      ⟨by show 2 ≤ sizeLine; decide, [.int i tk, y], .cons ⟨_, rfl⟩ (.cons ru .nil), ⟨_, hT2, rfl, _, rfl⟩⟩
    have I1 : Inv X pins σ (upd H s.heap.objs.size (.tup [.int (i : Nat), x])) { s with heap := h'', toks := tk + 1 } :=
      I.turnedNew (ch := [e, it]) (fun b ob hb q => (sb.2 b (fun z => hb (by simp [z]))).trans (hk b ob (fun z => hb (by simp [z])) (fun z => hb (by simp [z])) q)) hf (Nat.le_refl _) new
    refine ⟨.ref s.heap.objs.size, _, I1, rfl, ⟨_, x, rfl, I.hok.fresh (Nat.le_refl _), rfl, fun ys hy => by rw [I.tuple_inj hy hq]; exact hx⟩, ⟨⟨y, ?_⟩, st'.1.at fun o q => (sb.2 it (Ne.symm n1)).trans q, n1, n2, n3⟩, fun b hb => ?_⟩
    · have e1 : ((i + 1 : Nat) : Int) = (i : Int) + 1 := by omega
      rw [e1]; exact ie'
    · have lb : b < s.heap.objs.size := by
        rcases (show b = e ∨ b = it by simpa using hb) with z | z
        · rw [z]; exact le
        · rw [z]; exact li
      rw [upd_ne (Nat.ne_of_lt lb)]
      exact (hf b hb).1
  done := by
    intro X hP hw hK hc i pins s σ H E I hf st hg
    subst hP hw hK
    obtain ⟨⟨old, ie⟩, hit, n1, n2, n3⟩ := st
    obtain ⟨xs, hq, hx⟩ := hg
    obtain ⟨its, rv, p, hz⟩ := I.tuple hq
    obtain ⟨f0, f1, f2, f3, f4, f5⟩ := hf it (by simp)
    have hl := rv.length
    have hn : its.toArray[i]? = none := by simp; omega
    have key : wpAny (model X.prog X.w) X.A.in1 (Builtin.SmallTypes.nextOf (.ref it)) (fun _ _ => False) (fun er s' => ∃ h' e', s' = { s with heap := h' } ∧ er = .ref e' ∧ Heap.ExtBut it s.heap h' ∧ (∃ o, h'.get? e' = some o ∧ o.cls = .type "StopIteration")) s :=
      wpAny_nextOf_tuple_end (I.ok.hd hc) hit (show s.heap.IsTuple a its.toArray from p) hn fun h' e' x1 x2 => ⟨h', e', rfl, rfl, x1, x2⟩
    have hT : s.TypeIs (.ref e) "enumerate" := ⟨_, ie, rfl⟩
    unfold pyNext
    refine wpAny_bind (wpAny_attempt (wpAny_callSpecial?_slot (name := Str.ofString "__next__") hT F.slot_enumerate_next (wpAny_call_entry F.slot_enumerate_next hT F.entry_enumerate_next ?_ (F.args_enumerate_next_1 _))))
    show wpAny _ _ (field (.ref e) 2 >>= _) _ _ _
    refine wpAny_bind (wpAny_field ie rfl (x := .ref it) rfl ?_)
    refine wpAny_bind (wpAny_mono key (fun _ _ z => z.elim) fun er s' hs => ?_)
    obtain ⟨h', e', rfl, rfl, x1, o, ho, hc'⟩ := hs
    refine wpAny_bind (wpAny_isInstance (T := "StopIteration") (b := true) ⟨o, ho, hc'⟩ isSubtype_stop ?_)
    exact wpAny_pure ⟨rfl, I.turned (t' := s.toks) (fun b o hb q => x1 b o hb q) f0 f1 f3 f4 f5⟩
  self := fun A i s Q E st h => let ⟨⟨_, ie⟩, _⟩ := st; wpAny_pyIter_enum ie h
end SK
set_option maxHeartbeats 1000000
namespace SK
open PySem PySem.Spec PyProof.Rows L2
section
variable {X : Cx} {a b c : Expr} {da db dc : DE} {pos : Pos}
/-- the items with their numbers -/
def numb : Nat → List PyData → List PyData
  | _, [] => []
  | n, x :: xs => .tuple [.int n, x] :: numb (n + 1) xs
theorem numb_length : ∀ (xs : List PyData) (n : Nat), (numb n xs).length = xs.length
  | [], _ => rfl
  | _ :: xs, n => congrArg Nat.succ (numb_length xs (n + 1))
theorem numb_get : ∀ (xs : List PyData) (n i : Nat) (d : PyData), (numb n xs)[i]? = some d → ∃ x, xs[i]? = some x ∧ d = .tuple [.int ((n + i : Nat) : Int), x]
  | [], n, i, d, h => by simp [numb] at h
  | x :: xs, n, 0, d, h => by
    have e : PyData.tuple [.int n, x] = d := Option.some.inj h
    exact ⟨x, rfl, e.symm⟩
  | x :: xs, n, i + 1, d, h => by
    obtain ⟨y, h1, h2⟩ := numb_get xs (n + 1) i d h
    exact ⟨y, h1, by rw [h2, show n + 1 + i = n + (i + 1) by omega]⟩
def iEnumD (d : DE) : DA := fun ρ => (d ρ).bind fun x => (seqOf x).map (numb 0)
theorem walkD_enumT {K : PySem.W.Frag} {B : Hp} {p : Addr} {xs : List V} {ds : List PyData} {b : Bool} (h : TupAt B p xs b) (r : DvA B xs ds) (hl : ds.length ≤ 1000) : WalkD (Itet K p) B (numb 0 ds) where
  len := by rw [numb_length]; exact hl
  go := fun i H hi s => by
    rw [numb_length] at hi
    obtain ⟨v, h1, _⟩ := r.get (List.getElem?_eq_getElem hi)
    exact ⟨xs, v, (h.mono s).sq, h1⟩
  stop := fun H s => ⟨xs, (h.mono s).sq, by rw [numb_length]; exact Nat.le_of_eq r.length⟩
  yld := fun i B1 H x H' d s1 s2 y e => by
    obtain ⟨T, z, rfl, hT, rfl, hz⟩ := y
    obtain ⟨w, e1, e2⟩ := numb_get ds 0 i d e
    have q := hz xs (((h.mono s1).mono s2).sq)
    obtain ⟨v, h1, h2⟩ := r.get e1
    rw [q] at h1
    cases h1
    have a4 := At.new s2 hT (.tup [.int (i : Nat), z])
    refine ⟨_, a4, ?_⟩
    subst e2
    rw [Nat.zero_add]
    exact .tup (show TupAt _ _ _ false from upd_same) (.cons (.int _) (.cons ((h2.mono s1).mono a4.b) .nil))
theorem walkD_enumL {K : PySem.W.Frag} {B : Hp} {p : Addr} {xs : List V} {ds : List PyData} (h : B p = some (.lst xs)) (r : DvA B xs ds) (hl : ds.length ≤ 1000) : WalkD (Ite K p) B (numb 0 ds) where
  len := by rw [numb_length]; exact hl
  go := fun i H hi s => by
    rw [numb_length] at hi
    obtain ⟨v, h1, _⟩ := r.get (List.getElem?_eq_getElem hi)
    exact ⟨xs, v, SqL.of (s _ _ h), h1⟩
  stop := fun H s => ⟨xs, SqL.of (s _ _ h), by rw [numb_length]; exact Nat.le_of_eq r.length⟩
  yld := fun i B1 H x H' d s1 s2 y e => by
    obtain ⟨T, z, rfl, hT, rfl, hz⟩ := y
    obtain ⟨w, e1, e2⟩ := numb_get ds 0 i d e
    have q := hz xs (SqL.of (s2 _ _ (s1 _ _ h)))
    obtain ⟨v, h1, h2⟩ := r.get e1
    rw [q] at h1
    cases h1
    have a4 := At.new s2 hT (.tup [.int (i : Nat), z])
    refine ⟨_, a4, ?_⟩
    subst e2
    rw [Nat.zero_add]
    exact .tup (show TupAt _ _ _ false from upd_same) (.cons (.int _) (.cons ((h2.mono s1).mono a4.b) .nil))
def iEnumT (K : PySem.W.Frag) (ta : TA) : TI := fun σ H R => ta σ H fun vs H1 => ∃ a xs, vs = [.ref a] ∧ SqT K H1 a xs ∧ R (Itet K a) H1
theorem pi_enumT {e : Expr} {ta : TA} {p pos tpos : Pos} {elts : List Expr} {kk : Nat} (hg : Gl X "enumerate") (hm : X.mg "enumerate" = none) (ha : PA X [e] ta) (hs : starEach [e] X.env = [(false, eval e X.env)] := by rfl) :
    PI X (.Tuple elts kk tpos) (.Call (.Name "enumerate" p) [e] [] pos) (iEnumT X.K ta) := ⟨fun pins s σ H R I h => by
  refine Call_ (ld_blt I hg hm boot_enumerate (PyProof.Rows.callWith_type1 (thn (ha.run pos pins s σ H _ I h) fun us s1 ⟨vs, H1, I1, r1, a, xs, ex, hq, q⟩ => ?_) hs rfl))
  subst ex
  cases r1 with
  | cons r rr =>
    cases rr
    cases r
    obtain ⟨its, rv, p', hz⟩ := I1.tuple hq
    have hT0 : s1.heap.IsTuple a its.toArray := p'
    refine enumCall (begins_tuple a its.toArray) hT0 fun h' ie hit hk => wpAny_pyIter_enum ie ?_
    have al : a < s1.heap.objs.size := by obtain ⟨o, ho, _⟩ := hT0; exact Heap.lt_size ho
    have I2 : Inv X pins σ H1 { s1 with heap := h' } := I1.kept (t' := s1.toks) hk
    refine ⟨s1.heap.objs.size + 1, [s1.heap.objs.size + 1, s1.heap.objs.size], _, _, H1, rfl, I2, enumTurn a (s1.heap.objs.size + 1) s1.heap.objs.size, ⟨⟨.none, ie⟩, ⟨_, hit, rfl, rfl⟩, Nat.succ_ne_self _, Nat.ne_of_gt al, Nat.ne_of_gt (Nat.lt_succ_of_lt al)⟩, fun b hb => ?_, q⟩
    have hle : s1.heap.objs.size ≤ b := by
      rcases (show b = s1.heap.objs.size + 1 ∨ b = s1.heap.objs.size by simpa using hb) with z | z
      · rw [z]; exact Nat.le_succ _
      · rw [z]; exact Nat.le_refl _
    exact I1.fpOk hle (I1.hok.fresh hle)⟩
theorem seqOf_some {d : PyData} {xs : List PyData} (h : seqOf d = some xs) : xs.length ≤ 1000 ∧ (d = .list xs ∨ d = .tuple xs) := by
  cases d with
  | list ds =>
    have q : (if ds.length ≤ 1000 then some ds else none) = some xs := h
    by_cases hl : ds.length ≤ 1000
    · rw [if_pos hl] at q; cases q; exact ⟨hl, .inl rfl⟩
    · rw [if_neg hl] at q; cases q
  | tuple ds =>
    have q : (if ds.length ≤ 1000 then some ds else none) = some xs := h
    by_cases hl : ds.length ≤ 1000
    · rw [if_pos hl] at q; cases q; exact ⟨hl, .inr rfl⟩
    · rw [if_neg hl] at q; cases q
  | _ => exact nomatch h
theorem gi_enum {ts : List Expr} {kk : Nat} {tp p : Pos} (hg : Gl X "enumerate") (hm : X.mg "enumerate" = none) (ha : GE X a da) (hs : starEach [a] X.env = [(false, eval a X.env)] := by rfl) : GI X (.Tuple ts kk tp) (.Call (.Name "enumerate" p) [a] [] pos) (iEnumD da) :=
  ⟨PI.imp (PI.or (pi_enum hg hm (pa_cons ha.pe pa_nil hs) hs) (pi_enumT hg hm (pa_cons ha.pe pa_nil hs) hs)) fun σ H R ⟨B, ρ, xs, sm, en, e, k⟩ => by
    obtain ⟨d, e1, e2⟩ := Option.bind_eq_some_iff.mp e
    obtain ⟨ys, e3, e4⟩ := Option.map_eq_some_iff.mp e2
    subst e4
    obtain ⟨hl, q | q⟩ := seqOf_some e3
    · subst q
      refine .inl ⟨B, ρ, _, sm, en, e1, fun v B1 H1 a1 dv => ?_⟩
      cases dv with
      | lst h1 h2 => exact ⟨_, _, rfl, SqL.of (a1.i _ _ h1), k _ B1 H1 a1 (walkD_enumL h1 h2 hl)⟩
    · subst q
      refine .inr ⟨B, ρ, _, sm, en, e1, fun v B1 H1 a1 dv => ?_⟩
      cases dv with
      | tup h1 h2 => exact ⟨_, _, rfl, (h1.mono a1.i).sq, k _ B1 H1 a1 (walkD_enumT h1 h2 hl)⟩⟩
/-- two lists, item by item -/
def zipD : List PyData → List PyData → List PyData
  | x :: xs, y :: ys => .tuple [x, y] :: zipD xs ys
  | _, _ => []
theorem zipD_length : ∀ xs ys : List PyData, (zipD xs ys).length = min xs.length ys.length
  | x :: xs, y :: ys => by
    show (zipD xs ys).length + 1 = _
    rw [zipD_length xs ys, List.length_cons, List.length_cons]
    omega
  | [], _ => by rw [List.length_nil, Nat.zero_min] <;> rfl
  | _ :: _, [] => by rw [List.length_nil, Nat.min_zero] <;> rfl
theorem zipD_get : ∀ (xs ys : List PyData) (i : Nat) (d : PyData), (zipD xs ys)[i]? = some d → ∃ x y, xs[i]? = some x ∧ ys[i]? = some y ∧ d = .tuple [x, y]
  | x :: xs, y :: ys, 0, d, h => by
    have e : PyData.tuple [x, y] = d := Option.some.inj h
    exact ⟨x, y, rfl, rfl, e.symm⟩
  | x :: xs, y :: ys, i + 1, d, h => zipD_get xs ys i d h
  | [], _, i, d, h => by simp [zipD] at h
  | _ :: _, [], i, d, h => by simp [zipD] at h
def iZipD (da db : DE) : DA := fun ρ => (da ρ).bind fun x => (db ρ).bind fun y => match x, y with
  | .list xs, .list ys => if (xs.length ≤ 1000 ∧ ys.length ≤ 1000) ∧ xs.all (fun x => !isPair x) = true then some (zipD xs ys) else none
  | .tuple xs, .tuple ys => if (xs.length ≤ 1000 ∧ ys.length ≤ 1000) ∧ xs.all (fun x => !isPair x) = true then some (zipD xs ys) else none
  | _, _ => none
theorem walkD_zipL {K : PySem.W.Frag} {B : Hp} {p q : Addr} {xs ys : List V} {ds es : List PyData} (h : B p = some (.lst xs)) (r : DvA B xs ds) (h' : B q = some (.lst ys)) (r' : DvA B ys es) (hl : ds.length ≤ 1000) (hl' : es.length ≤ 1000) (hp : ds.all (fun x => !isPair x) = true) : WalkD (Itz K p q) B (zipD ds es) where
  len := by rw [zipD_length]; omega
  go := fun i H hi s => by
    rw [zipD_length] at hi
    obtain ⟨v, h1, _⟩ := r.get (List.getElem?_eq_getElem (show i < ds.length by omega))
    obtain ⟨u, h2, _⟩ := r'.get (List.getElem?_eq_getElem (show i < es.length by omega))
    exact ⟨xs, ys, v, u, SqL.of (s _ _ h), SqL.of (s _ _ h'), h1, h2⟩
  stop := fun H s => ⟨xs, ys, SqL.of (s _ _ h), SqL.of (s _ _ h'), by rw [zipD_length, r.length, r'.length]; omega⟩
  yld := fun i B1 H x H' d s1 s2 y e => by
    obtain ⟨T, z, u, rfl, hT, rfl, hz, hu⟩ := y
    obtain ⟨d1, d2, e1, e2, e3⟩ := zipD_get ds es i d e
    have q1 := hz xs (SqL.of (s2 _ _ (s1 _ _ h)))
    have q2 := hu ys (SqL.of (s2 _ _ (s1 _ _ h')))
    obtain ⟨v, h1, h2⟩ := r.get e1
    rw [q1] at h1
    cases h1
    obtain ⟨v', h3, h4⟩ := r'.get e2
    rw [q2] at h3
    cases h3
    have a4 := At.new s2 hT (.tup [z, u])
    refine ⟨_, a4, ?_⟩
    subst e3
    have np : rowish [d1, d2] = false := by
      have := List.all_eq_true.mp hp d1 (List.mem_of_getElem? e1)
      rw [rowish, List.all_cons, show isPair d1 = false by simpa using this] <;> rfl
    exact .tup (by rw [np]; exact upd_same) (.cons ((h2.mono s1).mono a4.b) (.cons ((h4.mono s1).mono a4.b) .nil))
theorem walkD_zipT {K : PySem.W.Frag} {B : Hp} {p q : Addr} {xs ys : List V} {ds es : List PyData} {b b' : Bool} (h : TupAt B p xs b) (r : DvA B xs ds) (h' : TupAt B q ys b') (r' : DvA B ys es) (hl : ds.length ≤ 1000) (hl' : es.length ≤ 1000) (hp : ds.all (fun x => !isPair x) = true) : WalkD (RZ.ItzT K p q) B (zipD ds es) where
  len := by rw [zipD_length]; omega
  go := fun i H hi s => by
    rw [zipD_length] at hi
    obtain ⟨v, h1, _⟩ := r.get (List.getElem?_eq_getElem (show i < ds.length by omega))
    obtain ⟨u, h2, _⟩ := r'.get (List.getElem?_eq_getElem (show i < es.length by omega))
    exact ⟨xs, ys, v, u, (h.mono s).sq, (h'.mono s).sq, h1, h2⟩
  stop := fun H s => ⟨xs, ys, (h.mono s).sq, (h'.mono s).sq, by rw [zipD_length, r.length, r'.length]; omega⟩
  yld := fun i B1 H x H' d s1 s2 y e => by
    obtain ⟨T, z, u, rfl, hT, rfl, hz, hu⟩ := y
    obtain ⟨d1, d2, e1, e2, e3⟩ := zipD_get ds es i d e
    have q1 := hz xs (((h.mono s1).mono s2).sq)
    have q2 := hu ys (((h'.mono s1).mono s2).sq)
    obtain ⟨v, h1, h2⟩ := r.get e1
    rw [q1] at h1
    cases h1
    obtain ⟨v', h3, h4⟩ := r'.get e2
    rw [q2] at h3
    cases h3
    have a4 := At.new s2 hT (.tup [z, u])
    refine ⟨_, a4, ?_⟩
    subst e3
    have np : rowish [d1, d2] = false := by
      have := List.all_eq_true.mp hp d1 (List.mem_of_getElem? e1)
      rw [rowish, List.all_cons, show isPair d1 = false by simpa using this] <;> rfl
    exact .tup (by rw [np]; exact upd_same) (.cons ((h2.mono s1).mono a4.b) (.cons ((h4.mono s1).mono a4.b) .nil))
theorem gi_zip {ts : List Expr} {kk : Nat} {tp p : Pos} (hg : Gl X "zip") (hm : X.mg "zip" = none) (ha : GE X a da) (hb : GE X b db) (hs : starEach [a, b] X.env = (false, eval a X.env) :: starEach [b] X.env := by rfl) (hs2 : starEach [b] X.env = (false, eval b X.env) :: starEach [] X.env := by rfl)
    (hpl : (backTo pos (starEach [b] X.env)).any (·.1) = false := by rfl) : GI X (.Tuple ts kk tp) (.Call (.Name "zip" p) [a, b] [] pos) (iZipD da db) :=
  ⟨PI.imp (RZ.pi_zipA hg hm (pa_cons ha.pe (pa_cons hb.pe pa_nil hs2) hs) hs hpl) fun σ H R ⟨B, ρ, xs, sm, en, e, k⟩ => by
    obtain ⟨d, e1, e2⟩ := Option.bind_eq_some_iff.mp e
    obtain ⟨f, e3, e4⟩ := Option.bind_eq_some_iff.mp e2
    refine ⟨B, ρ, d, sm, en, e1, fun v B1 H1 a1 dv => ⟨B1, ρ, f, a1.i, en.mono a1.b, e3, fun w B2 H2 a2 dw => ?_⟩⟩
    have dv2 := dv.mono a2.b
    have aa := a1.trans a2
    cases dv2 with
    | @lst p1 vs ds h1 h2 =>
      cases dw with
      | @lst p2 us es h3 h4 =>
        by_cases hl : (ds.length ≤ 1000 ∧ es.length ≤ 1000) ∧ ds.all (fun x => !isPair x) = true
        · have q : (if (ds.length ≤ 1000 ∧ es.length ≤ 1000) ∧ ds.all (fun x => !isPair x) = true then some (zipD ds es) else none) = some xs := e4
          rw [if_pos hl] at q
          cases q
          exact ⟨p1, p2, vs, us, rfl, .inl ⟨SqL.of (a2.i _ _ h1), SqL.of (a2.i _ _ h3), k _ B2 H2 aa (walkD_zipL h1 h2 h3 h4 hl.1.1 hl.1.2 hl.2)⟩⟩
        · have q : (if (ds.length ≤ 1000 ∧ es.length ≤ 1000) ∧ ds.all (fun x => !isPair x) = true then some (zipD ds es) else none) = some xs := e4
          rw [if_neg hl] at q
          cases q
      | _ => exact nomatch e4
    | @tup p1 vs ds h1 h2 =>
      cases dw with
      | @tup p2 us es h3 h4 =>
        by_cases hl : (ds.length ≤ 1000 ∧ es.length ≤ 1000) ∧ ds.all (fun x => !isPair x) = true
        · have q : (if (ds.length ≤ 1000 ∧ es.length ≤ 1000) ∧ ds.all (fun x => !isPair x) = true then some (zipD ds es) else none) = some xs := e4
          rw [if_pos hl] at q
          cases q
          exact ⟨p1, p2, vs, us, rfl, .inr ⟨(h1.mono a2.i).sq, (h3.mono a2.i).sq, k _ B2 H2 aa (walkD_zipT h1 h2 h3 h4 hl.1.1 hl.1.2 hl.2)⟩⟩
        · have q : (if (ds.length ≤ 1000 ∧ es.length ≤ 1000) ∧ ds.all (fun x => !isPair x) = true then some (zipD ds es) else none) = some xs := e4
          rw [if_neg hl] at q
          cases q
      | _ => exact nomatch e4
    | _ => cases dw <;> exact nomatch e4⟩

/-! ### comprehensions of two clauses -/
/-- one turn of the outer clause: all of the inner ones -/
def lc2L (g : DG) (c : DE) (it1 : DA) (vs1 : List Nat) (g1 : DG) (c1 e : DE) (ρ : Rho) : List PyData → Option (List PyData)
  | [] => some []
  | x :: xs => (g ρ x).bind fun ρ1 => (c ρ1).bind fun t => match t with
    | .bool true => (it1 ρ1).bind fun ys => (lcL g1 c1 e (wipeR ρ1 vs1) ys).bind fun zs => if zs.length ≤ 1000 then (lc2L g c it1 vs1 g1 c1 e ρ xs).bind fun r => some (zs ++ r) else none
    | .bool false => lc2L g c it1 vs1 g1 c1 e ρ xs
    | _ => none
def dLc2 (vs : List Nat) (it : DA) (g : DG) (c : DE) (it1 : DA) (vs1 : List Nat) (g1 : DG) (c1 e : DE) : DE := fun ρ => (it ρ).bind fun xs => (lc2L g c it1 vs1 g1 c1 e (wipeR ρ vs) xs).map .list
theorem lcL_length {g : DG} {c e : DE} {ρ : Rho} : ∀ {xs zs : List PyData}, lcL g c e ρ xs = some zs → zs.length ≤ xs.length
  | [], zs, h => by cases h; exact Nat.le_refl _
  | x :: xs, zs, h => by
    obtain ⟨ρ1, e1, e2⟩ := Option.bind_eq_some_iff.mp h
    obtain ⟨t, e3, e4⟩ := Option.bind_eq_some_iff.mp e2
    match t, e4 with
    | .bool true, e4 =>
      obtain ⟨y, e5, e6⟩ := Option.bind_eq_some_iff.mp e4
      obtain ⟨ys, e7, e8⟩ := Option.bind_eq_some_iff.mp e6
      cases e8
      exact Nat.succ_le_succ (lcL_length e7)
    | .bool false, e4 => exact Nat.le_succ_of_le (lcL_length (show lcL g c e ρ xs = some zs from e4))
theorem tG_lc2 {vs vs1 : List Nat} {di di1 : DA} {g g1 : DG} {is is1 : List Nat} {dt dt1 de : DE} (his : ∀ i ∈ is, i ∈ vs) (his1 : ∀ i ∈ is1, i ∈ vs1) {σ : L2.St} {H : Hp} {Q : VK} (h : tG (dLc2 vs di g dt di1 vs1 g1 dt1 de) σ H Q) :
    tLc2 (tGI di) (tGG g is) (tGT dt) (tGI di1) (tGG g1 is1) (tGT dt1) (tG de) vs vs1 σ H Q := by
  obtain ⟨B, ρ, d, sm, en, e, k⟩ := h
  obtain ⟨xs, e1, e2⟩ := Option.bind_eq_some_iff.mp e
  obtain ⟨ys, e3, e4⟩ := Option.map_eq_some_iff.mp e2
  subst e4
  refine ⟨B, ρ, xs, sm, en, e1, fun J B1 H1 a1 w p hp => ?_⟩
  refine ⟨fun i m H' => m = xs.length - i ∧ i ≤ xs.length ∧ ∃ B2 av ad r, At B1 B2 H1 H' ∧ B2 p = none ∧ H' p = some (.lst av) ∧ DvA B2 av ad ∧ ad.length ≤ i * 1000 ∧ lc2L g dt di1 vs1 g1 dt1 de (wipeR ρ vs) (xs.drop i) = some r ∧ ys = ad ++ r,
    ⟨xs.length, by omega, Nat.zero_le _, B1, [], [], ys, ⟨Same.refl _, Same.upd a1.i (a1.i.free hp) _, Same.upd (Same.refl _) hp _, fun a h _ => h⟩, a1.i.free hp, upd_same, .nil, Nat.zero_le _, e3, rfl⟩, ?_⟩
  rintro i m H' ⟨rfl, hi, B2, av, ad, r, a2, b2, h2, dv2, hl2, e5, e6⟩
  have wl := w.len
  by_cases hlt : i < xs.length
  · rw [List.drop_eq_getElem_cons hlt] at e5
    obtain ⟨ρ3, e7, e8⟩ := Option.bind_eq_some_iff.mp (show (g (wipeR ρ vs) xs[i]).bind (fun ρ1 => (dt ρ1).bind fun t => match t with
      | .bool true => (di1 ρ1).bind fun ys => (lcL g1 dt1 de (wipeR ρ1 vs1) ys).bind fun zs => if zs.length ≤ 1000 then (lc2L g dt di1 vs1 g1 dt1 de (wipeR ρ vs) (xs.drop (i + 1))).bind fun r => some (zs ++ r) else none
      | .bool false => lc2L g dt di1 vs1 g1 dt1 de (wipeR ρ vs) (xs.drop (i + 1))
      | _ => none) = some r from e5)
    obtain ⟨t, e9, e10⟩ := Option.bind_eq_some_iff.mp e8
    refine .inr ⟨w.go i H' hlt (a2.b.trans a2.i), fun H3 => ∃ B3 av ad r, At B1 B3 H1 H3 ∧ B3 p = none ∧ H3 p = some (.lst av) ∧ DvA B3 av ad ∧ ad.length ≤ (i + 1) * 1000 ∧ lc2L g dt di1 vs1 g1 dt1 de (wipeR ρ vs) (xs.drop (i + 1)) = some r ∧ ys = ad ++ r,
      fun H3 q => ⟨xs.length - (i + 1), by omega, rfl, hlt, q⟩, fun x H3 y => ?_⟩
    obtain ⟨B3, a3, dx⟩ := w.yld i B2 H' x H3 xs[i] a2.b a2.i y (List.getElem?_eq_getElem hlt)
    refine ⟨B3, wipeR ρ vs, xs[i], ρ3, a3.i, ((en.mono a1.b).mono (a2.b.trans a3.b)).wipe vs, dx, e7, fun σ4 en4 bt => ⟨?_, ?_⟩⟩
    · rw [bt.wipe his]
      refine But.wipe (is := vs) ⟨wipe_length σ vs, fun j hj => wipe_out hj⟩ fun _ z => z
    · cases t with
      | bool tb =>
        refine ⟨B3, ρ3, tb, a3.i, en4, e9, fun B4 H4 a4 => ?_⟩
        have hne : Live H' p := ⟨_, h2, rfl⟩
        have a34 := a3.trans a4
        have b4 : B4 p = none := a34.ap p b2 hne
        cases tb with
        | true =>
          obtain ⟨ys1, e11, e12⟩ := Option.bind_eq_some_iff.mp e10
          obtain ⟨zs, e13, e14⟩ := Option.bind_eq_some_iff.mp e12
          by_cases hzl : zs.length ≤ 1000
          · rw [if_pos hzl] at e14
            obtain ⟨r2, e15, e16⟩ := Option.bind_eq_some_iff.mp e14
            cases e16
            show tGI di1 σ4 H4 _
            refine ⟨B4, ρ3, ys1, a4.i, en4.mono a4.b, e11, fun J1 B5 H5 a5 w1 => ?_⟩
            have wl1 := w1.len
            have a35 := a34.trans a5
            have b5 : B5 p = none := a35.ap p b2 hne
            have s15 : At B1 B5 H1 H5 := a2.trans a35
            refine ⟨fun j m H' => m = ys1.length - j ∧ j ≤ ys1.length ∧ ∃ B6 av' ad' r', At B1 B6 H1 H' ∧ Same B5 B6 ∧ B6 p = none ∧ H' p = some (.lst av') ∧ DvA B6 av' (ad ++ ad') ∧ ad'.length ≤ j ∧ lcL g1 dt1 de (wipeR ρ3 vs1) (ys1.drop j) = some r' ∧ zs = ad' ++ r',
              ⟨ys1.length, by omega, Nat.zero_le _, B5, av, [], zs, s15, Same.refl _, b5, a35.o _ _ h2, by rw [List.append_nil]; exact dv2.mono a35.b, Nat.zero_le _, e13, rfl⟩, ?_⟩
            rintro j m' H6 ⟨rfl, hj, B6, av', ad', r', a6, s56, b6, h6, dv6, hl6, e17, e18⟩
            have hne6 : Live H6 p := ⟨_, h6, rfl⟩
            by_cases hlj : j < ys1.length
            · rw [List.drop_eq_getElem_cons hlj] at e17
              obtain ⟨ρ7, e19, e20⟩ := Option.bind_eq_some_iff.mp (show (g1 (wipeR ρ3 vs1) ys1[j]).bind (fun ρ1 => (dt1 ρ1).bind fun t => match t with
                | .bool true => (de ρ1).bind fun y => (lcL g1 dt1 de (wipeR ρ3 vs1) (ys1.drop (j + 1))).bind fun ys => some (y :: ys)
                | .bool false => lcL g1 dt1 de (wipeR ρ3 vs1) (ys1.drop (j + 1))
                | _ => none) = some r' from e17)
              obtain ⟨t1, e21, e22⟩ := Option.bind_eq_some_iff.mp e20
              refine .inr ⟨w1.go j H6 hlj (s56.trans a6.i), fun H7 => ∃ B7 av' ad' r', At B1 B7 H1 H7 ∧ Same B5 B7 ∧ B7 p = none ∧ H7 p = some (.lst av') ∧ DvA B7 av' (ad ++ ad') ∧ ad'.length ≤ j + 1 ∧ lcL g1 dt1 de (wipeR ρ3 vs1) (ys1.drop (j + 1)) = some r' ∧ zs = ad' ++ r',
                fun H7 q => ⟨ys1.length - (j + 1), by omega, rfl, hlj, q⟩, fun x1 H7 y1 => ?_⟩
              obtain ⟨B7, a7, dx1⟩ := w1.yld j B6 H6 x1 H7 ys1[j] s56 a6.i y1 (List.getElem?_eq_getElem hlj)
              refine ⟨B7, wipeR ρ3 vs1, ys1[j], ρ7, a7.i, (en4.mono ((a4.b.trans a5.b).trans (s56.trans a7.b))).wipe vs1, dx1, e19, fun σ8 en8 bt8 => ⟨?_, ?_⟩⟩
              · rw [bt8.wipe his1]
                refine But.wipe (is := vs1) ⟨wipe_length σ4 vs1, fun j hj => wipe_out hj⟩ fun _ z => z
              · cases t1 with
                | bool tb1 =>
                  refine ⟨B7, ρ7, tb1, a7.i, en8, e21, fun B8 H8 a8 => ?_⟩
                  cases tb1 with
                  | true =>
                    obtain ⟨y0, e23, e24⟩ := Option.bind_eq_some_iff.mp e22
                    obtain ⟨r3, e25, e26⟩ := Option.bind_eq_some_iff.mp e24
                    cases e26
                    show tG de σ8 H8 _
                    refine ⟨B8, ρ7, y0, a8.i, en8.mono a8.b, e23, fun v B9 H9 a9 dv => ?_⟩
                    have a79 := (a7.trans a8).trans a9
                    refine ⟨av', a79.o _ _ h6, ?_, ?_⟩
                    · have q := dv6.length
                      rw [List.length_append] at q
                      have hb : i * 1000 ≤ 1000 * 1000 := Nat.mul_le_mul_right _ (by omega)
                      exact Nat.lt_of_lt_of_le (show av'.length < 1002000 by omega) (by decide)
                    · obtain ⟨g2, g3⟩ := At.grow a6 a79 hp b6 hne6 (.lst (av' ++ [v]))
                      exact ⟨B9, av' ++ [v], ad' ++ [y0], r3, g2, s56.trans a79.b, g3, upd_same, by rw [← List.append_assoc]; exact (dv6.mono a79.b).append (.one dv), by rw [List.length_append, List.length_singleton]; omega, e25, by rw [e18, List.append_assoc]; rfl⟩
                  | false =>
                    have a78 := a7.trans a8
                    show ∃ B7 av' ad' r', _
                    exact ⟨B8, av', ad', r', a6.trans a78, s56.trans a78.b, a78.ap p b6 hne6, a78.o _ _ h6, dv6.mono a78.b, Nat.le_succ_of_le hl6, e22, e18⟩
                | _ => exact nomatch e22
            · have ej : j = ys1.length := by omega
              subst ej
              rw [List.drop_length] at e17
              cases e17
              rw [List.append_nil] at e18
              subst e18
              refine .inl ⟨w1.stop H6 (s56.trans a6.i), B6, av', ad ++ zs, r2, a6, b6, h6, dv6, ?_, e15, by rw [e6, List.append_assoc]⟩
              rw [List.length_append]
              omega
          · rw [if_neg hzl] at e14
            cases e14
        | false =>
          show ∃ B3 av ad r, _
          exact ⟨B4, av, ad, r, a2.trans a34, b4, a34.o _ _ h2, dv2.mono a34.b, by omega, e10, e6⟩
      | _ => exact nomatch e10
  · have ei : i = xs.length := by omega
    subst ei
    rw [List.drop_length] at e5
    cases e5
    rw [List.append_nil] at e6
    subst e6
    have a5 := At.close a2 hp b2 h2
    refine .inl ⟨w.stop H' (a2.b.trans a2.i), k (.ref p) _ H' (a1.trans a5) (.lst upd_same (dv2.mono (same_new b2 _)))⟩
theorem ge_lc2 {elt tg it tg1 it1 : Expr} {ifs ifs1 : List Expr} {scope : Scope} {own : List (Str × Nat)} {vs1 : List Nat} {di di1 : DA} {g g1 : DG} {is is1 : List Nat} {dt dt1 de : DE} (hc : X.calm = true) (hN : X.N.Nodup) (hi : GI X tg it di) (ok : BlkOk X.N X.env.scope scope own)
    (hv : ∀ i ∈ vs1, i ∈ own.map (·.2)) (hg : ∀ (s : Shared) (H : Hp) (C : Addr) (cl : List (Str × Addr)) (fp : List Addr), GG (X.blk s H scope (compEnvC scope cl C X.env) fp) tg g is) (ht : ∀ (s : Shared) (H : Hp) (C : Addr) (cl : List (Str × Addr)) (fp : List Addr), GTs (X.blk s H scope (compEnvC scope cl C X.env) fp) ifs dt)
    (hi1 : ∀ (s : Shared) (H : Hp) (C : Addr) (cl : List (Str × Addr)) (fp : List Addr), GI (X.blk s H scope (compEnvC scope cl C X.env) fp) tg1 it1 di1)
    (hg1 : ∀ (s : Shared) (H : Hp) (C : Addr) (cl : List (Str × Addr)) (fp : List Addr), GG (X.blk s H scope (compEnvC scope cl C X.env) fp) tg1 g1 is1) (ht1 : ∀ (s : Shared) (H : Hp) (C : Addr) (cl : List (Str × Addr)) (fp : List Addr), GTs (X.blk s H scope (compEnvC scope cl C X.env) fp) ifs1 dt1)
    (he : ∀ (s : Shared) (H : Hp) (C : Addr) (cl : List (Str × Addr)) (fp : List Addr), GE (X.blk s H scope (compEnvC scope cl C X.env) fp) elt de) (his : ∀ i ∈ is, i ∈ own.map (·.2) := by decide) (his1 : ∀ i ∈ is1, i ∈ vs1 := by decide) (hs : ∀ x, foldedSetIterable it X.env x = pure x := by intro _; rfl) (hs1 : ∀ env x, foldedSetIterable it1 env x = pure x := by intro _ _; rfl) :
    GE X (.ListComp elt [⟨tg, it, ifs, 0⟩, ⟨tg1, it1, ifs1, 0⟩] scope pos) (dLc2 (own.map (·.2)) di g dt di1 vs1 g1 dt1 de) :=
  ⟨PE.imp (pe_lc2 hc hN hi.pi ok hv (fun s H C cl fp => (hg s H C cl fp).pg) (fun s H C cl fp => (ht s H C cl fp).pts) (fun s H C cl fp => (hi1 s H C cl fp).pi) (fun s H C cl fp => (hg1 s H C cl fp).pg) (fun s H C cl fp => (ht1 s H C cl fp).pts) (fun s H C cl fp => (he s H C cl fp).pe) hs hs1) fun _ _ _ h => tG_lc2 his his1 h⟩
end
end SK
set_option maxHeartbeats 1000000
/-! sorted of data. -/
namespace SK
open PySem PySem.Spec PyProof.Rows L2
/-- what can be sorted -/
def SortOk (ds : List PyData) : Prop := PySem.W.AllAlike ds ∧ PySem.W.Sortable ds ∧ ds.length ≤ 1000 ∧ ∀ d ∈ ds, d.depth ≤ 40 ∧ d.canLay0 = true
abbrev leD : PyData → PyData → Bool := PySem.W.dataLe false id
def rSortD (K : PySem.W.Frag) : List V → Hp → VK → Prop := fun vs H Q => ∃ (a : Addr) (bs : List (V × PyData)), vs = [.ref a] ∧ SqL K H a (bs.map Prod.fst) ∧ (∀ p ∈ bs, Dp K H p.1 p.2) ∧ SortOk (bs.map Prod.snd) ∧
  ∀ p, H p = none → Q (.ref p) (upd H p (.lst ((bs.mergeSort (PySem.W.dataLe false Prod.snd)).map Prod.fst)))
theorem each_vals : ∀ {bs : List (V × PyData)} {us : List Value}, Vals (bs.map Prod.fst) us → PySem.W.EachIs (fun u (b : V × PyData) => RelV b.1 u) us bs
  | [], _, .nil => .nil
  | _ :: _, _, .cons r t => .cons r (each_vals t)
theorem vals_each : ∀ {bs : List (V × PyData)} {us : List Value}, PySem.W.EachIs (fun u (b : V × PyData) => RelV b.1 u) us bs → Vals (bs.map Prod.fst) us
  | [], _, .nil => .nil
  | _ :: _, _, .cons r t => .cons r (vals_each t)
theorem each_reads {X : Cx} {pins : List (Addr × Obj)} {σ : L2.St} {H : Hp} {s : Shared} (I : Inv X pins σ H s) : ∀ {bs : List (V × PyData)} {us : List Value}, (∀ p ∈ bs, Dp X.K H p.1 p.2) → Vals (bs.map Prod.fst) us →
    PySem.W.EachIs (fun u (b : V × PyData) => ∃ as, Reads s.heap u b.2 as) us bs
  | [], _, _, .nil => .nil
  | b :: bs, _, h, .cons r t => .cons (Dp.reads I b.2 b.1 _ (h b List.mem_cons_self) r) (each_reads I (fun p hp => h p (List.mem_cons_of_mem _ hp)) t)
theorem cr_sortD {X : Cx} (hu : X.A.units + 64 < cLine) : CallR X (.builtin "sorted") (rSortD X.K) := by
  intro pins s σ H vs us Q I r ⟨a, bs, ev, hs, hd, so, q⟩
  subst ev
  obtain ⟨its, rv, hl, hz⟩ := I.list hs
  rw [Vals.ref1 r]
  obtain ⟨s1, s2, s3, s4⟩ := so
  have hbl : bs.length ≤ sizeLine := by
    rw [List.length_map] at hz
    exact hz
  refine PySem.W.sorted_data (enc := Prod.snd) hl.isList (each_vals rv) (each_reads I hd rv) s1 s2 hbl (fun b hb => ?_) fun out h1 h2 => ?_
  · have := (s4 b.2 (List.mem_map.mpr ⟨b, hb, rfl⟩)).1
    omega
  · obtain ⟨ep, he'⟩ := sortedAll_at s.heap its out.toArray
    have hlen : ((bs.mergeSort (PySem.W.dataLe false Prod.snd)).map Prod.fst).length ≤ sizeLine := by
      rw [List.length_map, List.length_mergeSort]
      exact hbl
    exact ⟨.ref _, upd H (s.heap.objs.size + 1) (.lst ((bs.mergeSort (PySem.W.dataLe false Prod.snd)).map Prod.fst)), I.laid (t' := s.toks) (fun _ _ => sortedAll_old) (Nat.le_succ _) ⟨hlen, out, ep, vals_each h2, he'⟩, rfl, q _ (I.hok.fresh (Nat.le_succ _))⟩
open Classical in
noncomputable def mSorted : List PyData → Option PyData
  | [.list ds] => if SortOk ds then some (.list (ds.mergeSort leD)) else none
  | _ => none
theorem mSorted_ok {ds : List PyData} (h : SortOk ds) : mSorted [.list ds] = some (.list (ds.mergeSort leD)) := if_pos h
theorem DvA.zip {B : Hp} : ∀ {vs : List V} {ds : List PyData}, DvA B vs ds → (vs.zip ds).map Prod.fst = vs ∧ (vs.zip ds).map Prod.snd = ds ∧ ∀ p ∈ vs.zip ds, Dv B p.1 p.2
  | _, _, .nil => ⟨rfl, rfl, fun _ h => nomatch h⟩
  | _, _, .cons h t => by
    obtain ⟨h1, h2, h3⟩ := DvA.zip t
    refine ⟨by rw [List.zip_cons_cons, List.map_cons, h1], by rw [List.zip_cons_cons, List.map_cons, h2], fun p hp => ?_⟩
    rw [List.zip_cons_cons] at hp
    rcases List.mem_cons.mp hp with e | hp
    · rw [e]; exact h
    · exact h3 p hp
theorem DvA.ofAll {B : Hp} : ∀ (bs : List (V × PyData)), (∀ p ∈ bs, Dv B p.1 p.2) → DvA B (bs.map Prod.fst) (bs.map Prod.snd)
  | [], _ => .nil
  | b :: bs, h => .cons (h b List.mem_cons_self) (DvA.ofAll bs fun p hp => h p (List.mem_cons_of_mem _ hp))
theorem sort_snd (bs : List (V × PyData)) : (bs.mergeSort (PySem.W.dataLe false Prod.snd)).map Prod.snd = (bs.map Prod.snd).mergeSort leD :=
  PySem.W.sort_maps Prod.snd fun _ _ _ _ => rfl
theorem rel_sorted {K : PySem.W.Frag} : RelC (rSortD K) mSorted := by
  intro vs ds z B H Q s h hm k
  match ds, h, hm with
  | [.list xs], .cons (.lst (xs := ws) h1 h2) .nil, hm =>
    by_cases ok : SortOk xs
    · rw [mSorted_ok ok] at hm
      cases hm
      obtain ⟨z1, z2, z3⟩ := h2.zip
      refine ⟨_, ws.zip xs, rfl, by rw [z1]; exact SqL.of (s _ _ h1), fun p hp => ((z3 p hp).mono s).dp (ok.2.2.2 p.2 (by rw [← z2]; exact List.mem_map.mpr ⟨p, hp, rfl⟩)).2, by rw [z2]; exact ok, fun p hp => ?_⟩
      have a4 := At.new s hp (.lst (((ws.zip xs).mergeSort (PySem.W.dataLe false Prod.snd)).map Prod.fst))
      refine k _ _ _ a4 (.lst upd_same ?_)
      have key := DvA.ofAll (B := B) ((ws.zip xs).mergeSort (PySem.W.dataLe false Prod.snd)) fun p hp => z3 p (List.mem_mergeSort.mp hp)
      rw [sort_snd, z2] at key
      exact key.mono a4.b
    · have e : mSorted [.list xs] = none := if_neg ok
      rw [e] at hm
      cases hm
end SK
set_option maxHeartbeats 1000000
/-! Sets of nested tuples of ints. -/
namespace SK
open PySem PySem.Spec PyProof.Rows L2
/-! ### the keys -/
mutual
def pl : NestedKey → Bool
  | .num _ => true
  | .tup ks => plA ks
  | .none => false
  | .text _ => false
def plA : List NestedKey → Bool
  | [] => true
  | k :: ks => pl k && plA ks
end
structure IsN (h : Heap) (k : NestedKey) (a : Addr) : Prop where
  at_ : NestedIs h k (.ref a)
  pn : pl k = true
  dp : k.depth ≤ 7
theorem IsN.inj {h : Heap} {a : Addr} {x y : NestedKey} (hx : IsN h x a) (hy : IsN h y a) : x = y := NestedIs.inj _ _ _ hx.at_ hy.at_
theorem IsN.grow {h h' : Heap} {k : NestedKey} {b : Addr} (x : IsN h k b) (hk : ∀ c o, h.get? c = some o → h'.get? c = some o) : IsN h' k b := ⟨NestedIs.at (fun a o _ _ e _ => hk a o e) k _ x.at_, x.pn, x.dp⟩
/-- the set's own object is no tuple -/
theorem IsN.beside {h h' : Heap} {k : NestedKey} {a b : Addr} {o : Obj} {es : Array (Int × Value)} {ep : Nat} {t : SetTable} (x : IsN h k b) (ho : h.get? a = some o) (hd : o.data = .set es ep t) (hs : Heap.SameBut a h h') : IsN h' k b :=
  ⟨NestedIs.at (fun c u vs n e d => (hs.2 c fun z => by rw [z, ho] at e; cases e; rw [hd] at d; cases d).trans e) k _ x.at_, x.pn, x.dp⟩
section
variable {P : Program} {w : World} {A : Around} {E : Value → Shared → Prop} {s : Shared}
def NoC (P : Program) (w : World) (n : Nat) (s : Shared) (v : Value) : Prop := ∀ (A : Around) (E : Value → Shared → Prop) (Q : Bool → Shared → Prop), Q false s → wpAny (model P w) A (ofAClassStatement n v) Q E s
def ByV (P : Program) (w : World) (n : Nat) (s : Shared) (v : Value) : Prop := ∀ (A : Around) (E : Value → Shared → Prop) (Q : Bool → Shared → Prop), Q true s → wpAny (model P w) A (hashByValue n v) Q E s
theorem NoC.tup {n : Nat} {b : Addr} {o : Obj} {vs : Array Value} {m : Nat} (ho : s.heap.get? b = some o) (hc : o.cls = .type "tuple") (hd : o.data = .seq vs m) (hq : ∀ v ∈ vs.toList, NoC P w n s v) : NoC P w (n + 1) s (.ref b) := fun A E Q h => by
  have hT : s.TypeIs (.ref b) "tuple" := ⟨o, ho, hc⟩
  unfold ofAClassStatement
  refine wpAny_bind (wpAny_typeOf hT ?_)
  dsimp only
  have e : (("tuple" : String) == "tuple") = true := by decide
  simp only [e, if_true, Bool.not_true, Bool.false_eq_true, if_false]
  try refine wpAny_bind (wpAny_pure ?_)
  try simp only [Bool.not_true, Bool.false_eq_true, if_false]
  show wpAny _ _ (seqItems? (.ref b) >>= _) _ _ s
  refine wpAny_bind (wpAny_seqItems ho hd ?_)
  dsimp only
  refine wpAny_bind ?_
  show wpAny _ _ (forIn vs _ _) _ _ s
  rw [← Array.forIn_toList]
  refine wpAny_forIn_list _ (fun rest r s' => r.1 = none ∧ s' = s ∧ ∀ v ∈ rest, NoC P w n s v) _ ?_ ?_ _ _ ⟨rfl, rfl, hq⟩
  · rintro v rest r s' ⟨hr, rfl, hall⟩
    refine wpAny_bind (hall v List.mem_cons_self _ _ _ ?_)
    simp only [Bool.false_eq_true, if_false]
    exact wpAny_pure ⟨rfl, rfl, fun u hu' => hall u (List.mem_cons_of_mem _ hu')⟩
  · rintro ⟨r1, r2⟩ s' ⟨hr, rfl, _⟩
    simp only at hr
    subst hr
    exact wpAny_pure h
theorem ByV.tup {n : Nat} {b : Addr} {o : Obj} {vs : Array Value} {m : Nat} (ho : s.heap.get? b = some o) (hc : o.cls = .type "tuple") (hd : o.data = .seq vs m) (hq : ∀ v ∈ vs.toList, ByV P w n s v) : ByV P w (n + 1) s (.ref b) := fun A E Q h => by
  have hT : s.TypeIs (.ref b) "tuple" := ⟨o, ho, hc⟩
  unfold hashByValue
  refine wpAny_bind (wpAny_specialOf hT F.slot_tuple_hash.lookup ?_)
  show wpAny _ _ (seqItems? (.ref b) >>= _) _ _ s
  refine wpAny_bind (wpAny_seqItems ho hd ?_)
  refine wpAny_bind ?_
  show wpAny _ _ (forIn vs _ _) _ _ s
  rw [← Array.forIn_toList]
  refine wpAny_forIn_list _ (fun rest r s' => r.1 = none ∧ s' = s ∧ ∀ v ∈ rest, ByV P w n s v) _ ?_ ?_ _ _ ⟨rfl, rfl, hq⟩
  · rintro v rest r s' ⟨hr, rfl, hall⟩
    refine wpAny_bind (hall v List.mem_cons_self _ _ _ ?_)
    simp only [Bool.not_true, Bool.false_eq_true, if_false]
    exact wpAny_pure ⟨rfl, rfl, fun u hu' => hall u (List.mem_cons_of_mem _ hu')⟩
  · rintro ⟨r1, r2⟩ s' ⟨hr, rfl, _⟩
    simp only at hr
    subst hr
    exact wpAny_pure h
mutual
theorem noC_key : ∀ (k : NestedKey) (v : Value) (n : Nat) (s : Shared), NestedIs s.heap k v → k.depth ≤ n → NoC P w n s v
  | .none, _, n, s, x, _ => by cases x; cases n <;> exact fun A E Q h => wpAny_pure h
  | .num i, _, n, s, x, _ => by cases x <;> cases n <;> exact fun A E Q h => wpAny_pure h
  | .text y, _, n, s, x, _ => by cases x; cases n <;> exact fun A E Q h => wpAny_pure h
  | .tup ks, _, n, s, x, hn => by
    cases x with
    | tup hg hc hd hk =>
      simp only [NestedKey.depth] at hn
      cases n with
      | zero => omega
      | succ n => exact .tup hg hc hd (noC_keys ks _ n s hk (by omega))
theorem noC_keys : ∀ (ks : List NestedKey) (vs : List Value) (n : Nat) (s : Shared), NestedAll s.heap ks vs → NestedKey.depthAll ks ≤ n → ∀ v ∈ vs, NoC P w n s v
  | [], _, n, s, x, _, v, hv => by cases x; cases hv
  | k :: ks, _, n, s, x, hn, v, hv => by
    cases x with
    | cons x1 x2 =>
      simp only [NestedKey.depthAll] at hn
      rcases List.mem_cons.mp hv with e | hv
      · rw [e]; exact noC_key k _ n s x1 (by omega)
      · exact noC_keys ks _ n s x2 (by omega) v hv
end
mutual
theorem byV_key : ∀ (k : NestedKey) (v : Value) (n : Nat) (s : Shared), NestedIs s.heap k v → pl k = true → k.depth ≤ n → ByV P w n s v
  | .none, _, n, s, x, q, _ => nomatch q
  | .num i, _, n, s, x, _, _ => by cases x <;> cases n <;> exact fun A E Q h => wpAny_pure h
  | .text y, _, n, s, x, q, _ => nomatch q
  | .tup ks, _, n, s, x, q, hn => by
    cases x with
    | tup hg hc hd hk =>
      simp only [NestedKey.depth] at hn
      cases n with
      | zero => omega
      | succ n => exact .tup hg hc hd (byV_keys ks _ n s hk q (by omega))
theorem byV_keys : ∀ (ks : List NestedKey) (vs : List Value) (n : Nat) (s : Shared), NestedAll s.heap ks vs → plA ks = true → NestedKey.depthAll ks ≤ n → ∀ v ∈ vs, ByV P w n s v
  | [], _, n, s, x, _, _, v, hv => by cases x; cases hv
  | k :: ks, _, n, s, x, q, hn, v, hv => by
    cases x with
    | cons x1 x2 =>
      simp only [NestedKey.depthAll] at hn
      simp only [plA, Bool.and_eq_true] at q
      rcases List.mem_cons.mp hv with e | hv
      · rw [e]; exact byV_key k _ n s x1 q.1 (by omega)
      · exact byV_keys ks _ n s x2 q.2 (by omega) v hv
end
theorem IsN.eqBool {x y : NestedKey} {a b : Addr} {Q : Bool → Shared → Prop} (hu : A.units + 8 < cLine) (hx : IsN s.heap x a) (hy : IsN s.heap y b) (h : Q (decide (x = y)) s) : wpAny (model P w) A (PySem.eqBool (.ref a) (.ref b)) Q E s :=
  eqAt_key x y A s _ _ hx.at_ hy.at_ (by have := hx.dp; omega) _ _ _ _ (by rw [← NestedKey.decide_eq]; exact h)
/-- a search among such keys shows nothing -/
theorem IsN.unseen {k : NestedKey} {b : Addr} {Q : Bool → Shared → Prop} (hk : IsN s.heap k b) {ys : List Value} (hy : ∀ y ∈ ys, ∃ k' c, y = Value.ref c ∧ IsN s.heap k' c) (h : Q false s) :
    wpAny (model P w) A (searchCouldBeSeen (.ref b) ys) Q E s := by
  unfold searchCouldBeSeen
  refine wpAny_bind ?_
  refine wpAny_forIn_list _ (fun rest r s' => r.1 = none ∧ s' = s ∧ ∀ y ∈ rest, ∃ k' c, y = Value.ref c ∧ IsN s.heap k' c) _ ?_ ?_ _ _ ⟨rfl, rfl, hy⟩
  · rintro v rest r s' ⟨hr, rfl, hall⟩
    obtain ⟨k', c, rfl, hc⟩ := hall v List.mem_cons_self
    have more : ∀ y ∈ rest, ∃ k' c, y = Value.ref c ∧ IsN s'.heap k' c := fun u hu' => hall u (List.mem_cons_of_mem _ hu')
    dsimp only
    by_cases hv : (b == c || (carriedByValue (.ref b) && carriedByValue (.ref c))) = true
    · exact wp_if_pos hv (wpAny_pure ⟨rfl, rfl, more⟩)
    · refine wp_if_neg hv ?_
      refine wpAny_bind (quiet_key k _ 8 s' hk.at_ (Nat.le_succ_of_le hk.dp) A E _ ?_)
      simp only [Bool.not_true, Bool.false_eq_true, if_false]
      refine wpAny_bind (quiet_key k' _ 8 s' hc.at_ (Nat.le_succ_of_le hc.dp) A E _ ?_)
      simp only [Bool.not_true, Bool.false_eq_true, if_false]
      refine wpAny_bind (noC_key k _ 8 s' hk.at_ (Nat.le_succ_of_le hk.dp) A E _ ?_)
      simp only [Bool.false_eq_true, if_false]
      refine wpAny_bind (noC_key k' _ 8 s' hc.at_ (Nat.le_succ_of_le hc.dp) A E _ ?_)
      simp only [Bool.false_eq_true, if_false]
      exact wpAny_pure ⟨rfl, rfl, more⟩
  · rintro ⟨r1, r2⟩ s' ⟨hr, rfl, _⟩
    simp only at hr
    subst hr
    exact wpAny_pure h

/-! ### the set's object -/
abbrev AK := Addr × NestedKey
def rowsN (w : World) (L : List AK) : List (Int × Value) := L.map fun p => (p.2.hash w, Value.ref p.1)
structure SetB (w : World) (h : Heap) (a : Addr) (L : List AK) (es : Array (Int × Value)) (ep : Nat) (t : SetTable) : Prop where
  ob : ∃ o, h.get? a = some o ∧ o.ExactSet ∧ o.data = .set es ep t
  rows : es.toList = rowsN w L
  tab : TabOk t (L.map fun p => p.2.hash w)
  nd : (L.map (·.2)).Nodup
  plain : t.plain = true
  led : w.params.followText "set-order" = true ∨ t.led = true
  room : L.length * 5 < t.mask * 3
  few : L.length < 64
def KeysN (h : Heap) (L : List AK) : Prop := ∀ p ∈ L, IsN h p.2 p.1
theorem rowsN_length (w : World) (L : List AK) : (rowsN w L).length = L.length := by unfold rowsN; rw [List.length_map]
theorem rowsN_get {w : World} {L : List AK} {es : Array (Int × Value)} (h : es.toList = rowsN w L) {i : Nat} {p : AK} (e : L[i]? = some p) : es[i]? = some (p.2.hash w, Value.ref p.1) := by
  rw [← Array.getElem?_toList, h]
  unfold rowsN
  rw [List.getElem?_map, e] <;> rfl
variable {a : Addr} {L : List AK} {es : Array (Int × Value)} {ep : Nat} {t : SetTable}
theorem SetB.size (R : SetB w s.heap a L es ep t) : es.size = L.length := by
  have h := congrArg List.length R.rows
  rwa [Array.length_toList, rowsN_length] at h
theorem fits_of {t : SetTable} {n : Nat} (hs : t.place.size = n) (hd : t.dummies = #[]) (hl : n ≤ t.mask) : t.fits n = true := by
  unfold SetTable.fits SetTable.fill
  rw [hd, Bool.and_eq_true, beq_iff_eq, decide_eq_true_eq]
  exact ⟨hs, by show t.place.size + 0 ≤ t.mask; omega⟩
theorem SetB.fits (R : SetB w s.heap a L es ep t) : t.fits es.size = true := by
  have h1 := R.tab.sz
  rw [List.length_map] at h1
  have h2 := R.size
  have h3 := R.room
  exact fits_of (by omega) R.tab.dm (by omega)
theorem SetB.move {h h' : Heap} (R : SetB w h a L es ep t) (k : ∀ o, h.get? a = some o → h'.get? a = some o) : SetB w h' a L es ep t := by
  obtain ⟨o, ho, r⟩ := R.ob
  exact ⟨⟨o, k o ho, r⟩, R.rows, R.tab, R.nd, R.plain, R.led, R.room, R.few⟩
theorem not_gave {t : SetTable} (h : MaskOk t.mask) : ¬ t.gaveWay = true := by
  unfold SetTable.gaveWay
  rw [mask_odd h]
  decide

/-- the search from the c-th step of its way on -/
theorem findFrom (R : SetB w s.heap a L es ep t) (hL : KeysN s.heap L) {x : Addr} {k : NestedKey} (hx : IsN s.heap k x) (hu : A.units + 8 < cLine) {K : Nat} (hKf : K < 10 * SetTable.turns t.mask)
    (hK : way t.mask (k.hash w) K ∉ t.place.toList) (hKb : ∀ c, c < K → way t.mask (k.hash w) c ∈ t.place.toList) {Q : SetFound → Shared → Prop}
    (hin : k ∈ L.map (·.2) → Q (.there none) s) (hout : k ∉ L.map (·.2) → Q (.free (way t.mask (k.hash w) K) false) s) {p0 : SetTable.Probe} (hp0 : p0 = runAt t.mask (SetTable.bits (k.hash w) % (t.mask + 1)) (SetTable.bits (k.hash w))) :
    ∀ (f c : Nat) (stand : Option SetTable.Probe), stand.getD (t.probeStart (k.hash w)) = nth t.mask p0 c → c ≤ K → K - c < f →
      (∀ (i : Nat) p, L[i]? = some p → p.2 = k → ∃ c', c ≤ c' ∧ c' < K ∧ t.place.toList[i]? = some (way t.mask (k.hash w) c')) →
      wpAny (model P w) A (setSearchFrom a (.ref x) (k.hash w) true f stand) Q E s := by
  have wayE : ∀ c, (nth t.mask p0 c).j = way t.mask (k.hash w) c := fun c => by rw [hp0] <;> rfl
  have dmy : ∀ c, (nth t.mask p0 c).dummy = none := by
    have key : ∀ (n : Nat) (p : SetTable.Probe), p.dummy = none → (nth t.mask p n).dummy = none := by
      intro n
      induction n with
      | zero => intro p h; exact h
      | succ n ih =>
        intro p h
        refine ih (adv t.mask p) ?_
        unfold adv
        split <;> exact h
    exact fun c => key c _ (by rw [hp0]; rfl)
  have hashAt : ∀ (i : Nat) p, L[i]? = some p → (fun i => (es[i]?.map (·.1)).getD 0) i = p.2.hash w := fun i p hp => by
    show (es[i]?.map (·.1)).getD 0 = _
    rw [rowsN_get R.rows hp] <;> rfl
  obtain ⟨o, ho, hex, hd⟩ := R.ob
  intro f
  induction f with
  | zero => intro c stand _ _ hf _; exact absurd hf (Nat.not_lt_zero _)
  | succ f ih =>
    intro c stand hst hc hf hre
    rw [setSearchFrom_succ]
    refine wpAny_bind (wpAny_setState_of ho hd R.fits ?_)
    dsimp only
    refine wp_if_neg (not_gave R.tab.mok) ?_
    try refine wpAny_bind (wpAny_pure ?_)
    have stp : ∀ q, nth t.mask (nth t.mask p0 c) q = nth t.mask p0 (c + q) := fun q => (nth_add t.mask c _ q).symm
    have e1 : ∀ q, (nth t.mask (nth t.mask p0 c) q).j = way t.mask (k.hash w) (c + q) := fun q => by rw [stp, wayE]
    have spec := go_spec t R.tab.ris R.tab.dm (fun i => (es[i]?.map (·.1)).getD 0) (k.hash w) (10 * SetTable.turns t.mask) (K - c) _ (dmy c) (by omega)
      (fun q hq => by rw [e1]; exact hKb (c + q) (by omega)) (by rw [e1, show c + (K - c) = K by omega]; exact hK)
    rcases spec with ⟨q, i, hq, hi, hh, hno, hpr⟩ | ⟨hno, hpr⟩
    · have hpr' : t.probe (fun i => (es[i]?.map (·.1)).getD 0) (k.hash w) (stand.getD (t.probeStart (k.hash w))) = some (.candidate (way t.mask (k.hash w) (c + q)) i (nth t.mask p0 (c + (q + 1)))) := by
        rw [hst, ← e1, ← stp]
        exact hpr
      rw [hpr']
      dsimp only
      rw [e1] at hi
      have hil : i < L.length := by
        have h1 := (List.getElem?_eq_some_iff.mp hi).1
        have h2 := R.tab.sz
        rw [List.length_map] at h2
        rw [Array.length_toList] at h1
        omega
      obtain ⟨p, hp⟩ : ∃ p, L[i]? = some p := ⟨_, List.getElem?_eq_getElem hil⟩
      have hmem : p ∈ L := List.mem_of_getElem? hp
      have hsl : t.slot (way t.mask (k.hash w) (c + q)) = .live i := slot_live R.tab.ris hi
      have tail : wpAny (model P w) A (searchRest a (.ref x) (k.hash w) true f es t (way t.mask (k.hash w) (c + q)) i (nth t.mask p0 (c + (q + 1)))) Q E s := by
        unfold searchRest
        rw [rowsN_get R.rows hp]
        dsimp only
        refine wpAny_bind (wpAny_holding (IsN.eqBool hu (hL p hmem) hx ?_))
        refine wpAny_bind (wpAny_setState_of ho hd R.fits ?_)
        dsimp only
        by_cases hkk : p.2 = k
        · refine wp_if_pos (by simp [hkk]) ?_
          exact wpAny_pure (hin (List.mem_map.mpr ⟨p, hmem, hkk⟩))
        · refine wp_if_neg (by simp [hkk]) ?_
          try refine wpAny_bind (wpAny_pure ?_)
          rw [sameMem]
          dsimp only
          simp only [if_true, hsl, rowsN_get R.rows hp]
          refine wpAny_bind (wpAny_isSame_ref_self (wpAny_bind (wpAny_pure ?_)))
          simp only [if_true]
          refine wp_if_neg (by simp [hkk]) ?_
          refine ih (c + (q + 1)) _ rfl (by omega) (by omega) fun i0 r0 h0 hk0 => ?_
          obtain ⟨c', a1, a2, a3⟩ := hre i0 r0 h0 hk0
          refine ⟨c', ?_, a2, a3⟩
          rcases Nat.lt_trichotomy c' (c + q) with z | z | z
          · exact absurd ((hashAt i0 r0 h0).trans (by rw [hk0])) (hno (c' - c) i0 (by omega) (by rw [e1, show c + (c' - c) = c' by omega]; exact a3))
          · exfalso
            rw [z] at a3
            have s0 := slot_live R.tab.ris a3
            rw [hsl] at s0
            injection s0 with s0
            rw [← s0, hp] at h0
            exact hkk ((congrArg Prod.snd (Option.some.inj h0)).trans hk0)
          · omega
      by_cases hl : t.led = true
      · refine wp_if_neg (by simp [hl]) ?_
        try refine wpAny_bind (wpAny_pure ?_)
        exact tail
      · refine wp_if_pos (by simp [hl]) ?_
        refine wpAny_bind (hx.unseen (fun y hy => ?_) ?_)
        · obtain ⟨e, he, ee⟩ := List.mem_map.mp hy
          have he1 : e ∈ es ∧ e.1 = k.hash w := by simpa using he
          have he2 : e ∈ rowsN w L := by rw [← R.rows]; simpa using he1.1
          obtain ⟨p2, hp2, e2⟩ := List.mem_map.mp he2
          exact ⟨p2.2, p2.1, by rw [← ee, ← e2], hL p2 hp2⟩
        · refine wp_if_neg (by decide) ?_
          try refine wpAny_bind (wpAny_pure ?_)
          exact tail
    · have hpr' : t.probe (fun i => (es[i]?.map (·.1)).getD 0) (k.hash w) (stand.getD (t.probeStart (k.hash w))) = some (.empty (way t.mask (k.hash w) K) none) := by
        have e2 : way t.mask (k.hash w) K = (nth t.mask (nth t.mask p0 c) (K - c)).j := by
          rw [e1, show c + (K - c) = K by omega]
        rw [hst, e2]
        exact hpr
      rw [hpr']
      dsimp only
      refine wpAny_pure (hout fun hm => ?_)
      obtain ⟨r0, h0, hk0⟩ := List.mem_map.mp hm
      obtain ⟨i0, hi0, e0⟩ := List.getElem_of_mem h0
      have h00 : L[i0]? = some r0 := by rw [List.getElem?_eq_getElem hi0, e0]
      obtain ⟨c', a1, a2, a3⟩ := hre i0 r0 h00 hk0
      exact hno (c' - c) i0 (by omega) (by rw [e1, show c + (c' - c) = c' by omega]; exact a3) ((hashAt i0 r0 h00).trans (by rw [hk0]))
theorem SetB.search (R : SetB w s.heap a L es ep t) (hL : KeysN s.heap L) {x : Addr} {k : NestedKey} (hx : IsN s.heap k x) (hu : A.units + 8 < cLine) {Q : SetFound → Shared → Prop}
    (hin : k ∈ L.map (·.2) → Q (.there none) s)
    (hout : ∀ K, k ∉ L.map (·.2) → way t.mask (k.hash w) K ∉ t.place.toList → (∀ c, c < K → way t.mask (k.hash w) c ∈ t.place.toList) → Q (.free (way t.mask (k.hash w) K) false) s) :
    wpAny (model P w) A (setSearch a (.ref x) (k.hash w) true) Q E s := by
  have hroom := R.room
  obtain ⟨K, hKf, hK, hKb⟩ := R.tab.first (by rw [List.length_map]; omega) (k.hash w)
  have hbig : K < 100000 := by
    have : 10 * SetTable.turns t.mask ≤ 1420 := by
      unfold SetTable.turns
      rcases R.tab.mok with e | e | e <;> omega
    omega
  unfold setSearch
  refine findFrom R hL hx hu hKf hK hKb hin (fun hn => hout K hn hK hKb) rfl 100000 0 none rfl (Nat.zero_le _) (by omega) fun i p hp hk => ?_
  have hi : (L.map fun p => p.2.hash w)[i]? = some (k.hash w) := by rw [List.getElem?_map, hp, ← hk] <;> rfl
  have hil : i < t.place.toList.length := by
    have h1 := (List.getElem?_eq_some_iff.mp hp).1
    have h2 := R.tab.sz
    rw [List.length_map] at h2
    rw [Array.length_toList]
    omega
  obtain ⟨c, hc, e⟩ := R.tab.before hK hi (List.getElem?_eq_getElem hil)
  exact ⟨c, Nat.zero_le _, hc, by rw [List.getElem?_eq_getElem hil, e]⟩
end
end SK
set_option maxHeartbeats 1000000
namespace SK
open PySem PySem.Spec PyProof.Rows L2
section
variable {P : Program} {w : World} {A : Around} {E : Value → Shared → Prop} {s : Shared} {a : Addr} {L : List AK} {es : Array (Int × Value)} {ep : Nat} {t : SetTable}
/-- rows by an order of the places -/
theorem rows_by (L : List AK) (es : Array (Int × Value)) (order : Array Nat) (hr : es.toList = rowsN w L) (hp : order.toList.Perm (List.range L.length)) :
    ∃ L2, (order.filterMap (es[·]?)).toList = rowsN w L2 ∧ L2.Perm L ∧ (L2.map fun p => p.2.hash w) = order.toList.map fun i => (es.map (·.1)).getD i 0 := by
  refine ⟨order.toList.filterMap (L[·]?), ?_, ?_, ?_⟩
  · have key : ∀ l : List Nat, (∀ i ∈ l, i < L.length) → l.filterMap (es[·]?) = rowsN w (l.filterMap (L[·]?)) := by
      intro l
      induction l with
      | nil => intro _; rfl
      | cons i l ih =>
        intro hl
        have e := List.getElem?_eq_getElem (hl i List.mem_cons_self)
        rw [List.filterMap_cons_some (rowsN_get hr e), List.filterMap_cons_some e, ih fun j hj => hl j (List.mem_cons_of_mem _ hj)] <;> rfl
    have := key order.toList fun i hi => List.mem_range.mp (hp.mem_iff.mp hi)
    first | (rw [Array.toList_filterMap]; exact this) | simpa using this
  · have h1 := hp.filterMap (L[·]?)
    have h2 : ∀ n, n ≤ L.length → (List.range n).filterMap (L[·]?) = L.take n := by
      intro n
      induction n with
      | zero => intro _; rfl
      | succ n ih =>
        intro hn
        have hlt : n < L.length := hn
        rw [List.range_succ, List.filterMap_append, ih (Nat.le_of_lt hlt), List.take_succ, List.getElem?_eq_getElem hlt]
        rw [List.filterMap_cons_some (List.getElem?_eq_getElem hlt)] <;> rfl
    rw [h2 L.length (Nat.le_refl _), List.take_length] at h1
    exact h1
  · have key : ∀ l : List Nat, (∀ i ∈ l, i < L.length) → (l.filterMap (L[·]?)).map (fun p => p.2.hash w) = l.map fun i => (es.map (·.1)).getD i 0 := by
      intro l
      induction l with
      | nil => intro _; rfl
      | cons i l ih =>
        intro hl
        have e := List.getElem?_eq_getElem (hl i List.mem_cons_self)
        have e4 : (es.map (·.1)).getD i 0 = (L[i]'(hl i List.mem_cons_self)).2.hash w := by
          have e5 : (es.map (·.1))[i]? = some ((L[i]'(hl i List.mem_cons_self)).2.hash w) := by rw [Array.getElem?_map, rowsN_get hr e] <;> rfl
          simp [Array.getD_eq_getD_getElem?, e5]
        rw [List.filterMap_cons_some e, List.map_cons, List.map_cons, ih fun j hj => hl j (List.mem_cons_of_mem _ hj), e4]
    exact key order.toList fun i hi => List.mem_range.mp (hp.mem_iff.mp hi)

/-- the table laid anew -/
theorem relayN {o : Obj} (ho : s.heap.get? a = some o) (hex : o.ExactSet) (hd : o.data = .set es ep t) (hrows : es.toList = rowsN w L) (hfits : t.fits es.size = true)
    (nd : (L.map (·.2)).Nodup) (pl : t.plain = true) (ld : w.params.followText "set-order" = true ∨ t.led = true) (few : L.length < 64) {wanted M : Nat}
    (hw : SetTable.sizeAbove wanted - 1 = M) (hM : MaskOk M) (hw2 : SetTable.sizeAbove wanted ≤ 128) (hn : L.length * 5 < M * 3) {Q : Unit → Shared → Prop}
    (hQ : ∀ h' L' es' ep' t', Heap.SameBut a s.heap h' → SetB w h' a L' es' ep' t' → L'.Perm L → Q () { s with heap := h' }) : wpAny (model P w) A (setRelay a wanted) Q E s := by
  have hsl : es.size = L.length := by
    have h := congrArg List.length hrows
    rwa [Array.length_toList, rowsN_length] at h
  obtain ⟨t', order, e, hp, T, em, el, ep', ed⟩ := relaid_ok t (hs := es.map (·.1)) (wanted := wanted) hw hM (by rw [Array.size_map, hsl]; omega)
  rw [Array.size_map, hsl] at hp
  obtain ⟨L2, r1, r2, r3⟩ := rows_by L es order hrows hp
  rw [← r3] at T
  have hs2 : (order.filterMap (es[·]?)).size = es.size := by
    have h := congrArg List.length r1
    rw [Array.length_toList, rowsN_length, r2.length_eq] at h
    rw [h, hsl]
  rw [setRelay_eq]
  refine wpAny_bind (wpAny_setState_of ho hd hfits ?_)
  dsimp only
  refine wp_if_neg (by rw [sizeLine_eq]; omega) ?_
  try refine wpAny_bind (wpAny_pure ?_)
  rw [e]
  dsimp only
  refine wpAny_bind (wp_if_neg (by rw [hs2]; simp) ?_)
  try refine wpAny_bind (wpAny_pure ?_)
  refine wpAny_pure ?_
  dsimp only
  refine wpAny_storeSet_of ho hd ?_ (by rw [hs2, hsl, sizeLine_eq]; omega)
  refine hQ _ L2 (order.filterMap (es[·]?)) (ep + 1) t' (Heap.SameBut.update ..) ⟨⟨_, store_at ho hd, ⟨hex.1, hex.2.1, hex.2.2⟩, rfl⟩, r1, T, (r2.map (·.2)).nodup_iff.mpr nd, by rw [ep']; exact pl, by rw [el]; exact ld, ?_, by rw [r2.length_eq]; exact few⟩ r2
  rw [r2.length_eq, em]
  exact hn

/-- adding a key -/
theorem addN (R : SetB w s.heap a L es ep t) (hL : KeysN s.heap L) {x : Addr} {k : NestedKey} (hx : IsN s.heap k x) (hu : A.units + 8 < cLine) (hfew : L.length + 1 < 64) {Q : Bool → Shared → Prop}
    (hQ : ∀ b h' L' es' ep' t', Heap.SameBut a s.heap h' → SetB w h' a L' es' ep' t' → (k ∈ L.map (·.2) ∧ L' = L ∨ k ∉ L.map (·.2) ∧ L'.Perm ((x, k) :: L)) → Q b { s with heap := h' }) :
    wpAny (model P w) A (setAddHashed a (.ref x) (k.hash w)) Q E s := by
  obtain ⟨o, ho, hex, hd⟩ := R.ob
  have hsl := R.size
  have hroom := R.room
  unfold setAddHashed
  refine wpAny_holding ?_
  rw [show (100000 : Nat) = 99999 + 1 from rfl, setAddHashedIn_succ]
  refine wpAny_bind (wpAny_setState_of ho hd R.fits ?_)
  dsimp only
  refine wp_if_neg (by simp [byScan, Value.scannable]) ?_
  try refine wpAny_bind (wpAny_pure ?_)
  refine wpAny_bind (R.search hL hx hu (fun hm => ?_) fun K hm hK hb => ?_)
  · dsimp only
    exact wpAny_pure (hQ false s.heap L es ep t (Heap.SameBut.refl a s.heap) R (.inl ⟨hm, rfl⟩))
  dsimp only
  refine wpAny_bind (wpAny_setState_of ho hd R.fits ?_)
  dsimp only
  obtain ⟨q1, q2, q3, q4, q5, q6, q7, q8, q9⟩ := R.tab.put hK hb
  have hp1 : (t.put (way t.mask (k.hash w) K)).1.plain = true := by rw [q6]; exact R.plain
  generalize hpt : t.put (way t.mask (k.hash w) K) = pt at q1 q3 q4 q5 q6 q7 q8 q9 hp1 ⊢
  obtain ⟨t1, p⟩ := pt
  dsimp only at q1 q3 q4 q5 q6 q7 q8 q9 hp1 ⊢
  subst q1
  generalize hpp : SetTable.below t.place (way t.mask (k.hash w) K) = p at q2 q3 ⊢
  have bv : ByV P w 8 s (.ref x) := byV_key k _ 8 s hx.at_ hx.pn (Nat.le_succ_of_le hx.dp)
  first
    | (refine wpAny_bind ?_; refine wp_if_pos hp1 ?_; refine bv _ _ _ ?_)
    | refine wp_if_pos hp1 (wpAny_bind (bv _ _ _ ?_))
  simp only [if_true]
  obtain ⟨L1, hL1⟩ : ∃ L1, L1 = L.take p ++ (x, k) :: L.drop p := ⟨_, rfl⟩
  have pm : L1.Perm ((x, k) :: L) := by rw [hL1]; exact put_perm L p (x, k)
  have hlen : L1.length = L.length + 1 := pm.length_eq
  have hhs : (L.map fun p => p.2.hash w).take p ++ k.hash w :: (L.map fun p => p.2.hash w).drop p = L1.map fun p => p.2.hash w := by
    rw [hL1, List.map_append, List.map_cons, List.map_take, List.map_drop]
  rw [hhs] at q3
  obtain ⟨es1, hes1⟩ : ∃ e, e = SetTable.insertAt es p (k.hash w, Value.ref x) := ⟨_, rfl⟩
  have hin : es1.toList = rowsN w L1 := by
    rw [hes1, SetTable.toList_insertAt, R.rows, hL1]
    unfold rowsN
    rw [List.map_append, List.map_cons, List.map_take, List.map_drop]
  have nd1 : (L1.map (·.2)).Nodup := (pm.map (·.2)).nodup_iff.mpr (List.nodup_cons.mpr ⟨hm, R.nd⟩)
  have hes : es1.size = L.length + 1 := by
    have h := congrArg List.length hin
    rwa [Array.length_toList, rowsN_length, hlen] at h
  rw [← hes1]
  clear hes1 hL1 hhs
  refine wpAny_bind (wpAny_storeSet_of ho hd ?_ (by rw [hes, sizeLine_eq]; omega))
  have sb : Heap.SameBut a s.heap (s.heap.update a (Obj.putSet es1 t1)) := Heap.SameBut.update ..
  have ho1 := store_at (es' := es1) (t' := t1) ho hd
  generalize s.heap.update a (Obj.putSet es1 t1) = h1 at sb ho1 ⊢
  have ld1 : w.params.followText "set-order" = true ∨ t1.led = true := by rw [q5]; exact R.led
  by_cases hf : t1.tooFull = true
  · first
      | (refine wpAny_bind ?_; refine wp_if_pos (by simp [hf]) ?_)
      | (refine wp_if_pos (by simp [hf]) ?_; refine wpAny_bind ?_)
    have hfull : (L.length + 1) * 5 ≥ t1.mask * 3 := by
      have h := hf
      unfold SetTable.tooFull at h
      rwa [decide_eq_true_eq, q9, List.length_map] at h
    rw [hsl]
    have hsz1 : t1.place.size = es1.size := by
      have h := q3.sz
      rw [List.length_map, hlen] at h
      rw [h, hes]
    have two : (t.mask = 7 ∧ L.length = 4) ∨ (t.mask = 31 ∧ L.length = 18) := by
      rcases R.tab.mok with e | e | e <;> rw [q4, e] at hfull <;> rw [e] at hroom <;> omega
    have go : ∀ M, SetTable.sizeAbove (SetTable.grown (L.length + 1)) - 1 = M → MaskOk M → SetTable.sizeAbove (SetTable.grown (L.length + 1)) ≤ 128 → (L.length + 1) * 5 < M * 3 →
        wpAny (model P w) A (setRelay a (SetTable.grown (L.length + 1))) (fun _ s' => wpAny (model P w) A (pure true) Q E s') E { s with heap := h1 } := fun M h1' h2' h3' h4' =>
      relayN (s := { s with heap := h1 }) ho1 ⟨hex.1, hex.2.1, hex.2.2⟩ rfl hin (fits_of hsz1 q3.dm (by rw [hes, q4]; omega)) nd1 hp1 ld1 (by rw [hlen]; exact hfew) h1' h2' h3' (by rw [hlen]; exact h4')
        fun h2 L2 es2 ep2 t2 sb2 R2 pm2 => wpAny_pure (hQ true h2 L2 es2 ep2 t2 (sb.trans sb2) R2 (.inr ⟨hm, pm2.trans pm⟩))
    rcases two with ⟨_, e2⟩ | ⟨_, e2⟩
    · refine go 31 (by rw [e2, size_20]) (.inr (.inl rfl)) (by rw [e2, size_20]; decide) (by omega)
    · refine go 127 (by rw [e2, size_76]) (.inr (.inr rfl)) (by rw [e2, size_76]; decide) (by omega)
  · first
      | refine wp_if_neg (by simp [hf]) ?_
      | (refine wpAny_bind ?_; refine wp_if_neg (by simp [hf]) ?_; refine wpAny_pure ?_)
    refine wpAny_pure (hQ true h1 L1 es1 (ep + 1) t1 sb ⟨⟨_, ho1, ⟨hex.1, hex.2.1, hex.2.2⟩, rfl⟩, hin, q3, nd1, hp1, ld1, ?_, by rw [hlen]; exact hfew⟩ (.inr ⟨hm, pm⟩))
    have h := hf
    unfold SetTable.tooFull at h
    rw [decide_eq_true_eq, q9, List.length_map] at h
    rw [hlen]
    omega

/-! ### set.update's loop -/
/-- of the first i items the set has all, and nothing else -/
structure Has (ks : List AK) (i : Nat) (L : List AK) : Prop where
  sub : ∀ p ∈ L, p ∈ ks
  all : ∀ p ∈ ks.take i, p.2 ∈ L.map (·.2)
  len : L.length ≤ i
theorem Has.next {ks L L' : List AK} {i : Nat} {x : AK} (g : Has ks i L) (h : ks[i]? = some x) (c : x.2 ∈ L.map (·.2) ∧ L' = L ∨ x.2 ∉ L.map (·.2) ∧ L'.Perm (x :: L)) : Has ks (i + 1) L' := by
  have tk : ks.take (i + 1) = ks.take i ++ [x] := by rw [List.take_succ, h] <;> rfl
  rcases c with ⟨c, rfl⟩ | ⟨_, pm⟩
  · refine ⟨g.sub, fun p hp => ?_, Nat.le_succ_of_le g.len⟩
    rw [tk] at hp
    rcases List.mem_append.mp hp with z | z
    · exact g.all p z
    · rw [List.mem_singleton.mp z]; exact c
  · refine ⟨fun p hp => ?_, fun p hp => ?_, ?_⟩
    · rcases List.mem_cons.mp (pm.mem_iff.mp hp) with e | z
      · rw [e]; exact List.mem_of_getElem? h
      · exact g.sub p z
    · rw [(pm.map (·.2)).mem_iff, List.map_cons]
      rw [tk] at hp
      rcases List.mem_append.mp hp with z | z
      · exact List.mem_cons_of_mem _ (g.all p z)
      · rw [List.mem_singleton.mp z]; exact List.mem_cons_self
    · rw [pm.length_eq, List.length_cons]
      exact Nat.succ_le_succ g.len
theorem setB_fresh {h : Heap} {a : Addr} (ho : h.get? a = some { cls := .type "set", dict := none, data := .set #[] 0 (.fresh 0 0 (!w.params.followText "set-order")) }) : SetB w h a [] #[] 0 (.fresh 0 0 (!w.params.followText "set-order")) :=
  ⟨⟨_, ho, ⟨rfl, rfl, rfl⟩, rfl⟩, rfl, ⟨List.Pairwise.nil, rfl, rfl, .inl rfl, fun x hx => (nomatch hx), fun i h j hi => (by simp at hi)⟩, List.nodup_nil, rfl, by
    show _ ∨ (!w.params.followText "set-order") = true
    cases w.params.followText "set-order"
    · exact .inr rfl
    · exact .inl rfl, by show 0 * 5 < 7 * 3; decide, by show 0 < 64; decide⟩
theorem loopN {I : Addr} {fp wr : List Addr} {G : Array GenState → Array GenState → Prop} {n : Nat} {Pv : Nat → Value → Prop} {St : Nat → Shared → Prop} {R : Result → Shared → Prop}
    (W : WalksS P w A.in1 I fp wr G n Pv St) (S : Addr) (hSf : S ∉ fp) (ks : List AK) (hn : n = ks.length) (hfew : ks.length < 64) (hval : ∀ i v, Pv i v → ∃ p, ks[i]? = some p ∧ v = .ref p.1)
    (h0 : Heap) (hk : KeysN h0 ks) (hS0 : h0.get? S = none) (hw0 : ∀ b ∈ wr, h0.get? b = none) (hu : A.in1.units + 8 < cLine) :
    ∀ (k i : Nat) (s : Shared), n - i = k → i ≤ n → St i s → (∀ b o, h0.get? b = some o → s.heap.get? b = some o) → (∃ L es ep t, SetB w s.heap S L es ep t ∧ Has ks i L) →
      (∀ s' L es ep t, Moved (S :: wr) G s s' → SetB w s'.heap S L es ep t → Has ks n L → (∀ b o, h0.get? b = some o → s'.heap.get? b = some o) → R (.ok (.ret .none)) s') →
      codeAny (model P w) A (.builtin "set.update.loop" ⟨[.ref S, .ref I], []⟩) R s := by
  have hSw : S ∉ wr := fun h => hSf (W.sub _ h)
  have hsub : ∀ b ∈ wr, b ∈ S :: wr := fun b hb => List.mem_cons_of_mem _ hb
  have stay : ∀ {s s' : Shared}, Moved wr G s s' → (∀ b o, h0.get? b = some o → s.heap.get? b = some o) → ∀ b o, h0.get? b = some o → s'.heap.get? b = some o := fun hm hkp b o e =>
    hm.heap b o (fun hb => by rw [hw0 b hb] at e; cases e) (hkp b o e)
  intro k
  induction k with
  | zero =>
    intro i s hk' hi hst hkp ⟨L, es, ep, t, hS, g⟩ hR
    obtain rfl : i = n := by omega
    refine codeAny_builtin F.entry_set_update_loop ?_
    rw [Around.under_plainId F.plain_set_update_loop _]
    show wpAny _ A.in1 (pyNext (.ref I) >>= _) _ _ s
    refine wpAny_bind (W.done s _ _ hst fun s' hm => ?_)
    show wpAny _ A.in1 (ret Value.none) _ _ s'
    exact wpAny_pure (hR s' L es ep t (hm.mono hsub) (hS.move fun o e => hm.heap S o hSw e) g (stay hm hkp))
  | succ k ih =>
    intro i s hk' hi hst hkp ⟨L, es, ep, t, hS, g⟩ hR
    have hlt : i < n := by omega
    refine codeAny_builtin F.entry_set_update_loop ?_
    rw [Around.under_plainId F.plain_set_update_loop _]
    show wpAny _ A.in1 (pyNext (.ref I) >>= _) _ _ s
    refine wpAny_bind (W.item i s _ _ hlt hst fun v s' hP hst' hm => ?_)
    obtain ⟨p, hp, rfl⟩ := hval i v hP
    have hkp' := stay hm hkp
    have hS' : SetB w s'.heap S L es ep t := hS.move fun o e => hm.heap S o hSw e
    have keys : KeysN s'.heap L := fun q hq => (hk q (g.sub q hq)).grow hkp'
    have hx : IsN s'.heap p.2 p.1 := (hk p (List.mem_of_getElem? hp)).grow hkp'
    show wpAny _ A.in1 (holding [Value.ref p.1] (setAdd S (.ref p.1)) >>= _) _ _ s'
    refine wpAny_bind (wpAny_holding ?_)
    unfold setAdd
    refine wpAny_holding ?_
    refine wpAny_bind (pyHash_key p.2 _ _ _ _ hx.at_ (by have := hx.dp; omega) ?_)
    refine addN (s := { s' with toks := s'.toks + p.2.draws }) hS' keys hx hu (by have := g.len; omega) fun b h' L' es' ep' t' hsb hS2 c => ?_
    have hkp2 : ∀ b o, h0.get? b = some o → h'.get? b = some o := fun b o e => (hsb.2 b (fun z => by rw [z, hS0] at e; cases e)).trans (hkp' b o e)
    refine wpAny_pure ⟨plainId_quiet F.plain_set_update_loop _, ih (i + 1) _ (by omega) hlt (W.frame _ s' _ _ hst' (Nat.le_add_right _ _) fun b hb o e => ?_) hkp2 ⟨L', es', ep', t', hS2, g.next hp c⟩ fun s'' L2 es2 ep2 t2 hm'' hS'' g'' hkp'' => ?_⟩
    · rw [hsb.2 b (fun h : b = S => hSf (by rw [← h]; exact hb))]; exact e
    · refine hR s'' L2 es2 ep2 t2 (Moved.trans W.gtrans ((hm.mono hsub).then_heap (Nat.le_add_right _ _) fun b o hb e => ?_) hm'') hS'' g'' hkp''
      rw [hsb.2 b (fun h : b = S => hb (by rw [h]; exact List.mem_cons_self))]; exact e
end
end SK
set_option maxHeartbeats 1000000
/-! set(xs) of keys, for lists and for tuples. -/
namespace SK
open PySem PySem.Spec PyProof.Rows L2
abbrev newSet (w : World) : Obj := { cls := .type "set", dict := none, data := .set #[] 0 (.fresh 0 0 (!w.params.followText "set-order")) }
section
variable {P : Program} {w : World} {A : Around} {E : Value → Shared → Prop} {s : Shared}
set_option maxHeartbeats 3200000 in
theorem call_setN_list {l : Addr} {items : Array Value} (ks : List AK) {Q : Value → Shared → Prop} (hh : A.handled = none) (hl : s.heap.IsList l items) (hit : items.toList = ks.map fun p => Value.ref p.1)
    (hk : KeysN s.heap ks) (hfew : ks.length < 64) (hu : A.units + 16 < cLine)
    (h : ∀ (h' : Heap) (tk : Nat) L es ep t, SetB w h' s.heap.objs.size L es ep t → Has ks ks.length L → (∀ b o, s.heap.get? b = some o → h'.get? b = some o) → Q (.ref s.heap.objs.size) { s with heap := h', toks := tk }) :
    wpAny (model P w) A (call (.type "set") [.ref l]) Q E s := by
  have hisz : items.size = ks.length := by
    have q := congrArg List.length hit
    rwa [Array.length_toList, List.length_map] at q
  obtain ⟨c, tl, hmro⟩ := F.called_set.mro
  have hmade := F.called_set.made
  have hsub := F.called_set.sub
  refine wpAny_call (codeAny_of_tree ?_)
  show wpAny _ _ (callAny (.type "set") _) _ _ _
  refine wpAny_pure ⟨Code.quiet_builtin _ (by decide +kernel), codeAny_builtin F.entry_type_call ?_⟩
  rw [Around.under_plain (weight_type_call_type "set" [.ref l] []) rfl]
  have h1 := F.called_set.notType
  have h2 := F.called_set.canCreate
  have hct := F.typeCall_set_1 (.ref l)
  repeat (any_goals (first | assumption | wp_step))
  refine codeAny_mono (code_set_led1 (.ref l) (E := E) (Q₁ := fun obj s₁ => obj = .ref s.heap.objs.size ∧ s₁ = { s with heap := s.heap.push (newSet w) }) ⟨rfl, rfl⟩) fun r s₁ hr => ?_
  cases r with
  | error e => exact hr
  | ok fl =>
    cases fl with
    | ret obj =>
      obtain ⟨rfl, rfl⟩ := hr
      have hS : (s.heap.push (newSet w)).get? s.heap.objs.size = some (newSet w) := Heap.get?_push_size _ rfl
      have hT : Shared.TypeIs { s with heap := s.heap.push (newSet w) } (.ref s.heap.objs.size) "set" := ⟨_, hS, rfl⟩
      have hli := F.called_set.init.lookup
      have hbi := F.called_set.init.bind (.ref s.heap.objs.size)
      repeat (any_goals (first | assumption | wp_step))
      refine codeAny_mono (codeAny_call_builtin (R := wants (fun r s₂ => r = .none ∧ ∃ h' tk L es ep t, s₂ = { s with heap := h', toks := tk } ∧ SetB w h' s.heap.objs.size L es ep t ∧ Has ks ks.length L ∧
          (∀ b o, s.heap.get? b = some o → h'.get? b = some o)) E) F.called_set.init.plain F.entry_set_init (check_set_init_1 hT ?_)) fun r₂ s₂ hr₂ => ?_
      · obtain ⟨ol, hol, hcl, nl, hdl⟩ := hl
        obtain ⟨ocls, odict, odata, oslots⟩ := ol
        simp only at hcl hdl
        subst hcl; subst hdl
        have hol' : (s.heap.push (newSet w)).get? l = some { cls := .type "list", dict := odict, data := .seq items nl, slots := oslots } := Heap.get?_push_of_some _ hol
        have hsls := F.sub_list_set
        have hslf := F.sub_list_frozenset
        have hne : (Value.type "list" == Value.type "dict") = false := by decide
        have hl1 : (s.heap.push (newSet w)).IsList l items := ⟨_, hol', rfl, nl, rfl⟩
        unfold Builtin.«set.__init__» noKeywords Builtin.Frozenset.updateFrom
        generalize hPI : pyIter = PI
        wp_walk
        subst hPI
        refine wpAny_pyIter_list hl1 ?_
        refine wpAny_bind (wpAny_runValue ?_)
        have hlS : l < s.heap.objs.size := Heap.lt_size hol
        have hh3 : A.in1.in1.in1.handled = none := by simp [hh]
        have hneI : l ≠ (s.heap.push (newSet w)).objs.size := by
          rw [Heap.size_push]; exact Nat.ne_of_lt (Nat.lt_succ_of_lt hlS)
        have hSf : s.heap.objs.size ∉ [(s.heap.push (newSet w)).objs.size, l] := by
          rw [Heap.size_push]; simp only [List.mem_cons, List.mem_singleton, List.not_mem_nil, or_false, not_or]
          exact ⟨Nat.ne_of_lt (Nat.lt_succ_self _), Nat.ne_of_gt hlS⟩
        have hval : ∀ (i : Nat) (v : Value), items[i]? = some v → ∃ p, ks[i]? = some p ∧ v = .ref p.1 := fun i v hv => by
          have q : (ks.map fun p => Value.ref p.1)[i]? = some v := by rw [← hit, Array.getElem?_toList]; exact hv
          rw [List.getElem?_map] at q
          obtain ⟨p, h1, h2⟩ := Option.map_eq_some_iff.mp q
          exact ⟨p, h1, h2.symm⟩
        have none_of : ∀ b, s.heap.objs.size ≤ b → s.heap.get? b = none := fun b hb => by
          cases q : s.heap.get? b with
          | none => rfl
          | some o => exact absurd (Nat.lt_of_lt_of_le (Heap.lt_size q) hb) (Nat.lt_irrefl _)
        refine loopN ((Walks.list hh3 _ l hneI items).toS) s.heap.objs.size
          hSf ks hisz hfew hval s.heap hk (none_of _ (Nat.le_refl _)) (fun b hb => none_of b (by
            rw [List.mem_singleton.mp hb, Heap.size_push]
            exact Nat.le_succ _)) (by simp only [Around.in1_units]; omega) (items.size - 0) 0 _ (by omega) (Nat.zero_le _)
          ⟨⟨_, Heap.get?_push_size _ rfl, rfl, rfl⟩, (hl1.push _)⟩ (fun b o e => Heap.get?_push_of_some _ (Heap.get?_push_of_some _ e)) ?hS0 ?hR
        case hS0 => exact ⟨[], #[], 0, _, setB_fresh (Heap.get?_push_of_some _ hS), ⟨fun p hp => (nomatch hp), fun p hp => (by simp at hp), Nat.le_refl _⟩⟩
        case hR =>
          intro s' L es ep t hm hS' g' hkp
          obtain ⟨h', g2, d', tk', os'⟩ := s'
          have eg : g2 = s.gens := hm.gens
          have ed : d' = s.drawn := hm.drawn
          have eo : os' = s.os := hm.os
          subst eg; subst ed; subst eo
          show wpAny _ _ _ _ _ _
          refine wpAny_pure ?_
          show wpAny _ _ (ret Value.none) _ _ _
          rw [hisz] at g'
          exact wpAny_pure ⟨rfl, h', tk', L, es, ep, t, rfl, hS', g', hkp⟩
      · cases r₂ with
        | error e => exact hr₂
        | ok fl₂ =>
          cases fl₂ with
          | ret r =>
            obtain ⟨rfl, h', tk, L, es, ep, t, rfl, hS', g', hk'⟩ := hr₂
            repeat (any_goals (first | assumption | wp_step))
            exact h _ _ _ _ _ _ hS' g' hk'
          | _ => exact hr₂.elim
    | _ => exact hr.elim

set_option maxHeartbeats 3200000 in
theorem call_setN_tuple {l : Addr} {items : Array Value} (ks : List AK) {Q : Value → Shared → Prop} (hh : A.handled = none) (hl : s.heap.IsTuple l items) (hit : items.toList = ks.map fun p => Value.ref p.1)
    (hk : KeysN s.heap ks) (hfew : ks.length < 64) (hu : A.units + 16 < cLine)
    (h : ∀ (h' : Heap) (tk : Nat) L es ep t, SetB w h' s.heap.objs.size L es ep t → Has ks ks.length L → (∀ b o, s.heap.get? b = some o → h'.get? b = some o) → Q (.ref s.heap.objs.size) { s with heap := h', toks := tk }) :
    wpAny (model P w) A (call (.type "set") [.ref l]) Q E s := by
  have hisz : items.size = ks.length := by
    have q := congrArg List.length hit
    rwa [Array.length_toList, List.length_map] at q
  obtain ⟨c, tl, hmro⟩ := F.called_set.mro
  have hmade := F.called_set.made
  have hsub := F.called_set.sub
  refine wpAny_call (codeAny_of_tree ?_)
  show wpAny _ _ (callAny (.type "set") _) _ _ _
  refine wpAny_pure ⟨Code.quiet_builtin _ (by decide +kernel), codeAny_builtin F.entry_type_call ?_⟩
  rw [Around.under_plain (weight_type_call_type "set" [.ref l] []) rfl]
  have h1 := F.called_set.notType
  have h2 := F.called_set.canCreate
  have hct := F.typeCall_set_1 (.ref l)
  repeat (any_goals (first | assumption | wp_step))
  refine codeAny_mono (code_set_led1 (.ref l) (E := E) (Q₁ := fun obj s₁ => obj = .ref s.heap.objs.size ∧ s₁ = { s with heap := s.heap.push (newSet w) }) ⟨rfl, rfl⟩) fun r s₁ hr => ?_
  cases r with
  | error e => exact hr
  | ok fl =>
    cases fl with
    | ret obj =>
      obtain ⟨rfl, rfl⟩ := hr
      have hS : (s.heap.push (newSet w)).get? s.heap.objs.size = some (newSet w) := Heap.get?_push_size _ rfl
      have hT : Shared.TypeIs { s with heap := s.heap.push (newSet w) } (.ref s.heap.objs.size) "set" := ⟨_, hS, rfl⟩
      have hli := F.called_set.init.lookup
      have hbi := F.called_set.init.bind (.ref s.heap.objs.size)
      repeat (any_goals (first | assumption | wp_step))
      refine codeAny_mono (codeAny_call_builtin (R := wants (fun r s₂ => r = .none ∧ ∃ h' tk L es ep t, s₂ = { s with heap := h', toks := tk } ∧ SetB w h' s.heap.objs.size L es ep t ∧ Has ks ks.length L ∧
          (∀ b o, s.heap.get? b = some o → h'.get? b = some o)) E) F.called_set.init.plain F.entry_set_init (check_set_init_1 hT ?_)) fun r₂ s₂ hr₂ => ?_
      · obtain ⟨ol, hol, hcl, nl, hdl⟩ := hl
        obtain ⟨ocls, odict, odata, oslots⟩ := ol
        simp only at hcl hdl
        subst hcl; subst hdl
        have hol' : (s.heap.push (newSet w)).get? l = some { cls := .type "tuple", dict := odict, data := .seq items nl, slots := oslots } := Heap.get?_push_of_some _ hol
        have hsls := F.sub_tuple_set
        have hslf := F.sub_tuple_frozenset
        have hne : (Value.type "tuple" == Value.type "dict") = false := by decide
        have hl1 : (s.heap.push (newSet w)).IsTuple l items := ⟨_, hol', rfl, nl, rfl⟩
        unfold Builtin.«set.__init__» noKeywords Builtin.Frozenset.updateFrom
        generalize hPI : pyIter = PI
        wp_walk
        subst hPI
        refine wpAny_pyIter_tuple hl1 ?_
        refine wpAny_bind (wpAny_runValue ?_)
        have hlS : l < s.heap.objs.size := Heap.lt_size hol
        have hh3 : A.in1.in1.in1.handled = none := by simp [hh]
        have hneI : l ≠ (s.heap.push (newSet w)).objs.size := by
          rw [Heap.size_push]; exact Nat.ne_of_lt (Nat.lt_succ_of_lt hlS)
        have hSf : s.heap.objs.size ∉ [(s.heap.push (newSet w)).objs.size, l] := by
          rw [Heap.size_push]; simp only [List.mem_cons, List.mem_singleton, List.not_mem_nil, or_false, not_or]
          exact ⟨Nat.ne_of_lt (Nat.lt_succ_self _), Nat.ne_of_gt hlS⟩
        have hval : ∀ (i : Nat) (v : Value), items[i]? = some v → ∃ p, ks[i]? = some p ∧ v = .ref p.1 := fun i v hv => by
          have q : (ks.map fun p => Value.ref p.1)[i]? = some v := by rw [← hit, Array.getElem?_toList]; exact hv
          rw [List.getElem?_map] at q
          obtain ⟨p, h1, h2⟩ := Option.map_eq_some_iff.mp q
          exact ⟨p, h1, h2.symm⟩
        have none_of : ∀ b, s.heap.objs.size ≤ b → s.heap.get? b = none := fun b hb => by
          cases q : s.heap.get? b with
          | none => rfl
          | some o => exact absurd (Nat.lt_of_lt_of_le (Heap.lt_size q) hb) (Nat.lt_irrefl _)
        refine loopN ((Walks.tuple hh3 _ l hneI items).toS) s.heap.objs.size
          hSf ks hisz hfew hval s.heap hk (none_of _ (Nat.le_refl _)) (fun b hb => none_of b (by
            rw [List.mem_singleton.mp hb, Heap.size_push]
            exact Nat.le_succ _)) (by simp only [Around.in1_units]; omega) (items.size - 0) 0 _ (by omega) (Nat.zero_le _)
          ⟨⟨_, Heap.get?_push_size _ rfl, rfl, rfl⟩, (hl1.push _)⟩ (fun b o e => Heap.get?_push_of_some _ (Heap.get?_push_of_some _ e)) ?hS0 ?hR
        case hS0 => exact ⟨[], #[], 0, _, setB_fresh (Heap.get?_push_of_some _ hS), ⟨fun p hp => (nomatch hp), fun p hp => (by simp at hp), Nat.le_refl _⟩⟩
        case hR =>
          intro s' L es ep t hm hS' g' hkp
          obtain ⟨h', g2, d', tk', os'⟩ := s'
          have eg : g2 = s.gens := hm.gens
          have ed : d' = s.drawn := hm.drawn
          have eo : os' = s.os := hm.os
          subst eg; subst ed; subst eo
          show wpAny _ _ _ _ _ _
          refine wpAny_pure ?_
          show wpAny _ _ (ret Value.none) _ _ _
          rw [hisz] at g'
          exact wpAny_pure ⟨rfl, h', tk', L, es, ep, t, rfl, hS', g', hkp⟩
      · cases r₂ with
        | error e => exact hr₂
        | ok fl₂ =>
          cases fl₂ with
          | ret r =>
            obtain ⟨rfl, h', tk, L, es, ep, t, rfl, hS', g', hk'⟩ := hr₂
            repeat (any_goals (first | assumption | wp_step))
            exact h _ _ _ _ _ _ hS' g' hk'
          | _ => exact hr₂.elim
    | _ => exact hr.elim
end
end SK
set_option maxHeartbeats 1000000
/-! sorted(set(xs)) by data. -/
namespace SK
open PySem PySem.Spec PyProof.Rows L2
/-! ### key data -/
mutual
def kOk : PyData → Bool
  | .int _ => true
  | .tuple xs => kOkA xs
  | .none => false
  | .bool _ => false
  | .str _ => false
  | .list _ => false
  | .dict _ => false
def kOkA : List PyData → Bool
  | [] => true
  | x :: xs => kOk x && kOkA xs
end
mutual
def toN : PyData → NestedKey
  | .int i => .num i
  | .tuple xs => .tup (toNs xs)
  | .none => .none
  | .bool _ => .none
  | .str _ => .none
  | .list _ => .none
  | .dict _ => .none
def toNs : List PyData → List NestedKey
  | [] => []
  | x :: xs => toN x :: toNs xs
end
mutual
theorem toN_data : ∀ d : PyData, kOk d = true → (toN d).data = d
  | .int i, _ => rfl
  | .tuple xs, h => by rw [toN, NestedKey.data, toNs_data xs h]
  | .none, h | .bool _, h | .str _, h | .list _, h | .dict _, h => nomatch h
theorem toNs_data : ∀ ds : List PyData, kOkA ds = true → NestedKey.datas (toNs ds) = ds
  | [], _ => rfl
  | x :: xs, h => by
    simp only [kOkA, Bool.and_eq_true] at h
    rw [toNs, NestedKey.datas, toN_data x h.1, toNs_data xs h.2]
end
mutual
theorem toN_pl : ∀ d : PyData, kOk d = true → pl (toN d) = true
  | .int i, _ => rfl
  | .tuple xs, h => toNs_pl xs h
  | .none, h | .bool _, h | .str _, h | .list _, h | .dict _, h => nomatch h
theorem toNs_pl : ∀ ds : List PyData, kOkA ds = true → plA (toNs ds) = true
  | [], _ => rfl
  | x :: xs, h => by
    simp only [kOkA, Bool.and_eq_true] at h
    rw [toNs, plA, toN_pl x h.1, toNs_pl xs h.2] <;> rfl
end
mutual
theorem data_toN : ∀ k : NestedKey, pl k = true → toN k.data = k ∧ kOk k.data = true
  | .num i, _ => ⟨rfl, rfl⟩
  | .tup ks, h => by
    obtain ⟨h1, h2⟩ := datas_toN ks h
    exact ⟨by rw [NestedKey.data, toN, h1], h2⟩
  | .none, h | .text _, h => nomatch h
theorem datas_toN : ∀ ks : List NestedKey, plA ks = true → toNs (NestedKey.datas ks) = ks ∧ kOkA (NestedKey.datas ks) = true
  | [], _ => ⟨rfl, rfl⟩
  | k :: ks, h => by
    simp only [plA, Bool.and_eq_true] at h
    obtain ⟨h1, h2⟩ := data_toN k h.1
    obtain ⟨h3, h4⟩ := datas_toN ks h.2
    exact ⟨by rw [NestedKey.datas, toNs, h1, h3], by rw [NestedKey.datas, kOkA, h2, h4] <;> rfl⟩
end
mutual
theorem eqv_key : ∀ d e : PyData, kOk d = true → kOk e = true → PyData.eqv d e = true → d = e
  | .int i, e, _, h2, h => by
    cases e with
    | int j => simp only [PyData.eqv, decide_eq_true_eq] at h; simpa using h
    | tuple ys => simp [PyData.eqv] at h
    | _ => exact nomatch h2
  | .tuple xs, e, h1, h2, h => by
    cases e with
    | int j => simp [PyData.eqv] at h
    | tuple ys => rw [PyData.eqv] at h; rw [eqv_keys xs ys h1 h2 h]
    | _ => exact nomatch h2
  | .none, _, h1, _, _ | .bool _, _, h1, _, _ | .str _, _, h1, _, _ | .list _, _, h1, _, _ | .dict _, _, h1, _, _ => nomatch h1
theorem eqv_keys : ∀ ds es : List PyData, kOkA ds = true → kOkA es = true → PyData.eqvAll ds es = true → ds = es
  | [], [], _, _, _ => rfl
  | [], _ :: _, _, _, h => by simp [PyData.eqvAll] at h
  | _ :: _, [], _, _, h => by simp [PyData.eqvAll] at h
  | d :: ds, e :: es, h1, h2, h => by
    simp only [kOkA, Bool.and_eq_true] at h1 h2
    simp only [PyData.eqvAll, Bool.and_eq_true] at h
    rw [eqv_key d e h1.1 h2.1 h.1, eqv_keys ds es h1.2 h2.2 h.2]
end
mutual
theorem reads_key {h : Heap} : ∀ (d : PyData) (v : Value) (as : List Addr), kOk d = true → Reads h v d as → as = [] ∧ NestedIs h (toN d) v
  | .int i, _, _, _, r => by cases r with | int _ t => exact ⟨rfl, .int _ _⟩
  | .tuple xs, _, _, k, r => by
    cases r with
    | tuple h1 h2 h3 h4 =>
      obtain ⟨e, q⟩ := reads_keys xs _ _ k h4
      exact ⟨e, .tup h1 h2 h3 q⟩
  | .none, _, _, h1, _ | .bool _, _, _, h1, _ | .str _, _, _, h1, _ | .list _, _, _, h1, _ | .dict _, _, _, h1, _ => nomatch h1
theorem reads_keys {h : Heap} : ∀ (ds : List PyData) (vs : List Value) (as : List Addr), kOkA ds = true → ReadsAll h vs ds as → as = [] ∧ NestedAll h (toNs ds) vs
  | [], _, _, _, r => by cases r; exact ⟨rfl, .nil⟩
  | d :: ds, _, _, k, r => by
    simp only [kOkA, Bool.and_eq_true] at k
    cases r with
    | cons r1 r2 =>
      obtain ⟨e1, q1⟩ := reads_key d _ _ k.1 r1
      obtain ⟨e2, q2⟩ := reads_keys ds _ _ k.2 r2
      exact ⟨by rw [e1, e2] <;> rfl, .cons q1 q2⟩
end

/-! ### the order of data -/
theorem leD_antisymm {a b : PyData} (ha : kOk a = true) (hb : kOk b = true) (al : PySem.W.alike a b = true) (h1 : leD a b = true) (h2 : leD b a = true) : a = b := by
  have e1 : leD a b = !PySem.W.dataLt b a := rfl
  have e2 : leD b a = !PySem.W.dataLt a b := rfl
  rw [e1] at h1
  rw [e2] at h2
  have f1 : lexLt itemOrd (PySem.W.keyToks b) (PySem.W.keyToks a) = false := by simpa [PySem.W.dataLt] using h1
  have f2 : lexLt itemOrd (PySem.W.keyToks a) (PySem.W.keyToks b) = false := by simpa [PySem.W.dataLt] using h2
  have te := lex_total _ _ f2 f1
  cases q : PyData.eqv a b with
  | true => exact eqv_key a b ha hb q
  | false =>
    have key := (PySem.W.toks_eqv a b al).2 q [] [.inl 0]
    rw [te, List.append_nil] at key
    rw [lex_irrefl] at key
    have : ∀ l : List (Int ⊕ List Nat), lexLt itemOrd l (l ++ [.inl 0]) = true := by
      intro l
      have e := PySem.W.lex_pre l [] [.inl 0]
      rw [List.append_nil] at e
      rw [e] <;> rfl
    rw [this] at key
    cases key
theorem leD_sorted (ds : List PyData) : (ds.mergeSort leD).Pairwise fun a b => leD a b = true := PySem.W.sort_pairwise (PySem.W.sortLe_total (listOrd itemOrd) false fun b : PyData => PySem.W.keyToks b) ds
theorem sorted_unique {ds es fs : List PyData} (hk : ∀ d ∈ ds, kOk d = true) (al : PySem.W.AllAlike ds) (p1 : es.Perm ds) (p2 : fs.Perm ds) (s1 : es.Pairwise fun a b => leD a b = true) (s2 : fs.Pairwise fun a b => leD a b = true) : es = fs :=
  List.Perm.eq_of_pairwise (le := fun a b => leD a b = true) (fun a b ha hb h1 h2 => leD_antisymm (hk a (p1.mem_iff.mp ha)) (hk b (p2.mem_iff.mp hb)) (al a (p1.mem_iff.mp ha) b (p2.mem_iff.mp hb)) h1 h2) s1 s2 (p1.trans p2.symm)
theorem SortOk.sub {ds es : List PyData} (h : SortOk ds) (hs : ∀ d ∈ es, d ∈ ds) (hl : es.length ≤ 1000) : SortOk es := by
  obtain ⟨h1, h2, h3, h4⟩ := h
  refine ⟨fun d hd e he => h1 d (hs d hd) e (hs e he), ?_, hl, fun d hd => h4 d (hs d hd)⟩
  rcases h2 with h2 | h2
  · exact .inl fun d hd => h2 d (hs d hd)
  · exact .inr fun d hd => h2 d (hs d hd)

/-! ### sorted of a set -/
section
variable {P : Program} {w : World} {A : Around} {E : Value → Shared → Prop} {s : Shared} {a : Addr} {L : List AK} {es : Array (Int × Value)} {ep : Nat} {t : SetTable}
abbrev dK (p : AK) : PyData := p.2.data
theorem sorted_setN {Q : Value → Shared → Prop} (R : SetB w s.heap a L es ep t) (hh : A.handled = none) (hL : ∀ p ∈ L, ∃ as, Reads s.heap (.ref p.1) p.2.data as) (hk : ∀ p ∈ L, kOk p.2.data = true) (so : SortOk (L.map dK)) (hu : A.units + 64 < cLine)
    (hQ : ∀ s' p (out : Array Value) (c : Nat) (L' : List AK), (∀ b o, s.heap.get? b = some o → s'.heap.get? b = some o) → s'.gens = s.gens → s'.os = s.os → s.heap.objs.size ≤ p →
      s'.heap.get? p = some (seqObj "list" out c) → out.toList = L'.map (fun q => Value.ref q.1) → L'.Perm L → (L'.map dK).Pairwise (fun a b => leD a b = true) → Q (.ref p) s') :
    wpAny (model P w) A (call (.builtin "sorted") [.ref a]) Q E s := by
  obtain ⟨o, ho, hex, hd⟩ := R.ob
  have hsz := R.size
  have hfew := R.few
  refine Calls.call_function_entry kind_sorted plain_sorted entry_sorted (args_sorted1 _) ?_
  unfold Builtin.«sorted»
  refine wpAny_bind (m := checkCount "sorted" 1 1 _) (wpAny_pure ?_)
  refine wpAny_bind (collect_set (A := A.in1) hh ⟨o, ho, hex.1, hd⟩ R.fits (by unfold scanBound; omega) R.tab.ris R.led fun s1 vs k1 hz g1 o1 pm => ?_)
  have hes : es.toList.map (·.2) = L.map fun q => Value.ref q.1 := by
    rw [R.rows]
    unfold rowsN
    rw [List.map_map] <;> rfl
  rw [hes] at pm
  -- the values are rows' addresses, in an order of their own
  obtain ⟨L1, e1, pL⟩ : ∃ L1 : List AK, vs = L1.map (fun q => Value.ref q.1) ∧ L1.Perm L := by
    have key : ∀ (vs us : List Value), vs.Perm us → ∀ L : List AK, us = L.map (fun q => Value.ref q.1) → ∃ L1 : List AK, vs = L1.map (fun q => Value.ref q.1) ∧ L1.Perm L := by
      intro vs us hp
      induction hp with
      | nil => intro L e; exact ⟨[], rfl, by cases L with | nil => exact .nil | cons => exact nomatch e⟩
      | cons x _ ih =>
        intro L e
        cases L with
        | nil => exact nomatch e
        | cons q L =>
          rw [List.map_cons] at e
          injection e with e1 e2
          obtain ⟨L1, h1, h2⟩ := ih L e2
          exact ⟨q :: L1, by rw [List.map_cons, h1, e1], h2.cons q⟩
      | swap x y l =>
        intro L e
        match L, e with
        | q :: r :: L, e =>
          rw [List.map_cons, List.map_cons] at e
          injection e with e1 e2
          injection e2 with e2 e3
          exact ⟨r :: q :: L, by rw [List.map_cons, List.map_cons, e1, e2, e3], .swap q r L⟩
      | trans _ _ ih1 ih2 =>
        intro L e
        obtain ⟨L2, h1, h2⟩ := ih2 L e
        obtain ⟨L1, h3, h4⟩ := ih1 L2 h1
        exact ⟨L1, h3, h4.trans h2⟩
    exact key vs _ pm L rfl
  have hvl : vs.length < 64 := by rw [e1, List.length_map, pL.length_eq]; exact hfew
  refine wpAny_bind (wpAny_newList ?_ (by rw [sizeLine_eq]; omega))
  have hoL : (s1.heap.push (seqObj "list" vs.toArray 0)).get? s1.heap.objs.size = some (seqObj "list" vs.toArray 0) := Heap.get?_push_size _ rfl
  have er : ∀ (L1 : List AK), (∀ q ∈ L1, q ∈ L) → PySem.W.EachIs (fun v (b : AK) => ∃ as, Reads (s1.heap.push (seqObj "list" vs.toArray 0)) v (dK b) as ∧ s1.heap.objs.size ∉ as) (L1.map fun q => Value.ref q.1) L1 := by
    intro L1
    induction L1 with
    | nil => intro _; exact .nil
    | cons q L1 ih =>
      intro hs
      refine .cons ?_ (ih fun r hr => hs r (List.mem_cons_of_mem _ hr))
      have hq := hs q List.mem_cons_self
      obtain ⟨as, r⟩ := hL q hq
      obtain ⟨ea, _⟩ := reads_key _ _ _ (hk q hq) r
      subst ea
      exact ⟨[], PyProof.Rows.Reads.keeps (fun b u e => Heap.get?_push_of_some _ (k1 b u e)) r, fun z => nomatch z⟩
  have ev : ∀ L1 : List AK, PySem.W.EachIs (fun v (b : AK) => v = Value.ref b.1) (L1.map fun q => Value.ref q.1) L1 := by
    intro L1
    induction L1 with
    | nil => exact .nil
    | cons q L1 ih => exact .cons rfl ih
  have so1 : SortOk (L1.map dK) := so.sub (fun d hd => (pL.map dK).mem_iff.mp hd) (by rw [List.length_map, pL.length_eq]; omega)
  have hsub : ∀ q ∈ L1, q ∈ L := fun q hq => pL.mem_iff.mp hq
  have hlen1 : L1.length < 64 := by rw [pL.length_eq]; exact hfew
  subst e1
  refine wpAny_bind (wpAny_holding (PySem.W.list_sort_data (s := { s1 with heap := s1.heap.push (seqObj "list" (L1.map fun q => Value.ref q.1).toArray 0) }) (R := fun v (b : AK) => v = Value.ref b.1) (enc := dK) hoL (ev L1) (er L1 hsub) so1.1 so1.2.1 (by rw [sizeLine_eq]; omega) (fun b hb => ?_) fun out a1 a2 => ?_))
  · have := (so1.2.2.2 _ (List.mem_map.mpr ⟨b, hb, rfl⟩)).1
    simp only [Around.in1_units]
    omega
  obtain ⟨c, hc⟩ := sortedHeap_at (vs := L1.map fun q => Value.ref q.1) (out := out.toArray) hoL
  have ro : ∀ {vs : List Value} {L2 : List AK}, PySem.W.EachIs (fun v (b : AK) => v = Value.ref b.1) vs L2 → vs = L2.map fun q => Value.ref q.1 := by
    intro vs L2 h
    induction h with
    | nil => rfl
    | cons h _ ih => rw [h, ih] <;> rfl
  refine wpAny_pure ⟨_, rfl, hQ _ s1.heap.objs.size out.toArray c (L1.mergeSort (PySem.W.dataLe false dK)) (fun b u e => ?_) g1 o1 hz hc (ro a2) ((List.mergeSort_perm _ _).trans pL) ?_⟩
  · have q := k1 b u e
    have hlt := Heap.lt_size q
    show (sortedHeap (s1.heap.push (seqObj "list" (L1.map fun q => Value.ref q.1).toArray 0)) s1.heap.objs.size (L1.map fun q => Value.ref q.1) out.toArray).get? b = some u
    rw [sortedHeap_old (Nat.ne_of_lt hlt) (by rw [size_push']; exact Nat.lt_succ_of_lt hlt)]
    exact Heap.get?_push_of_some _ q
  · rw [show (L1.mergeSort (PySem.W.dataLe false dK)).map dK = (L1.map dK).mergeSort leD from PySem.W.sort_maps dK fun _ _ _ _ => rfl]
    exact leD_sorted _
end
end SK
set_option maxHeartbeats 1000000
/-! sorted(set(xs)): the expression. -/
namespace SK
open PySem PySem.Spec PyProof.Rows L2
def SetNO (w : World) (a : Addr) (L : List AK) : HO := .ext fun h => ∃ es ep t, SetB w h a L es ep t
theorem setNO_new {P : Program} {w : World} {H : Hp} {h : Heap} {a : Addr} {L : List AK} {es : Array (Int × Value)} {ep : Nat} {t : SetTable} (R : SetB w h a L es ep t) : ObjOk P w H h a (SetNO w a L) := by
  have ⟨o, ho, _⟩ := R.ob
  exact ⟨⟨es, ep, t, R⟩, ⟨o, ho⟩, fun h1 h2 ⟨es', ep', t', R'⟩ k => ⟨es', ep', t', R'.move k⟩⟩
section
variable {X : Cx}
theorem refs_vals : ∀ {ks : List AK} {us : List Value}, Vals (ks.map fun p => V.ref p.1) us → us = ks.map fun p => Value.ref p.1
  | [], _, .nil => rfl
  | p :: ks, _, .cons r t => by
    cases r
    rw [refs_vals t] <;> rfl
theorem vals_refs : ∀ ks : List AK, Vals (ks.map fun p => V.ref p.1) (ks.map fun p => Value.ref p.1)
  | [] => .nil
  | _ :: ks => .cons rfl (vals_refs ks)
def rSetN (K : PySem.W.Frag) (w : World) : List V → Hp → VK → Prop := fun xs H Q => ∃ (l : Addr) (ks : List AK), xs = [V.ref l] ∧ (SqL K H l (ks.map fun p => V.ref p.1) ∨ SqT K H l (ks.map fun p => V.ref p.1)) ∧
  (∀ p ∈ ks, Dp K H (.ref p.1) p.2.data ∧ kOk p.2.data = true ∧ toN p.2.data = p.2 ∧ p.2.depth ≤ 7) ∧ ks.length < 64 ∧
  ∀ a L, H a = none → (∀ p ∈ L, p ∈ ks) → (∀ p ∈ ks, p.2 ∈ L.map (·.2)) → (L.map (·.2)).Nodup → Q (.ref a) (upd H a (SetNO w a L))
theorem Inv.isN {pins : List (Addr × Obj)} {σ : L2.St} {H : Hp} {s : Shared} {k : NestedKey} {b : Addr} (I : Inv X pins σ H s) (h : Dp X.K H (.ref b) k.data) (h2 : kOk k.data = true) (h3 : toN k.data = k) (h4 : k.depth ≤ 7) : IsN s.heap k b := by
  obtain ⟨as, r⟩ := Dp.reads I _ _ _ h rfl
  have q := (reads_key _ _ _ h2 r).2
  rw [h3] at q
  refine ⟨q, ?_, h4⟩
  have := toN_pl _ h2
  rwa [h3] at this
theorem cr_setN (hc : X.calm = true) (hu : X.A.units + 64 < cLine) : CallR X (.type "set") (rSetN X.K X.w) := by
  intro pins s σ H xs us Q I r h
  obtain ⟨l, ks, rfl, hl, hk, hf, q⟩ := h
  rw [Vals.ref1 r]
  have hn : H s.heap.objs.size = none := I.hok.fresh (Nat.le_refl _)
  have keys : KeysN s.heap ks := fun p hp => Inv.isN I (hk p hp).1 (hk p hp).2.1 (hk p hp).2.2.1 (hk p hp).2.2.2
  have fin : ∀ (h' : Heap) (tk : Nat) L es ep t, SetB X.w h' s.heap.objs.size L es ep t → Has ks ks.length L → (∀ b o, s.heap.get? b = some o → h'.get? b = some o) →
      ∃ y H', Inv X pins σ H' { s with heap := h', toks := tk } ∧ RelV y (.ref s.heap.objs.size) ∧ Q y H' := fun h' tk L es ep t R g k =>
    ⟨.ref s.heap.objs.size, upd H s.heap.objs.size (SetNO X.w s.heap.objs.size L), I.laid (t' := tk) k (Nat.le_refl _) (setNO_new R), rfl, q _ L hn g.sub (fun p hp => g.all p (by rw [List.take_length]; exact hp)) R.nd⟩
  rcases hl with hl | hl
  · obtain ⟨its, rv, pl, hz⟩ := I.list hl
    exact call_setN_list (P := X.prog) (w := X.w) ks (I.ok.hd hc) pl.isList (by simpa using refs_vals rv) keys hf (by omega) fin
  · obtain ⟨its, rv, pl, hz⟩ := I.tuple hl
    exact call_setN_tuple (P := X.prog) (w := X.w) ks (I.ok.hd hc) pl (by simpa using refs_vals rv) keys hf (by omega) fin
def rSortedN (K : PySem.W.Frag) (w : World) : List V → Hp → VK → Prop := fun vs H Q => ∃ (a : Addr) (L : List AK), vs = [V.ref a] ∧ H a = some (SetNO w a L) ∧ (∀ p ∈ L, Dp K H (.ref p.1) p.2.data ∧ kOk p.2.data = true) ∧ SortOk (L.map dK) ∧
  ∀ (L' : List AK) (p : Addr), L'.Perm L → (L'.map dK).Pairwise (fun a b => leD a b = true) → H p = none → Q (.ref p) (upd H p (.lst (L'.map fun q => V.ref q.1)))
theorem cr_sortedN (hc : X.calm = true) (hu : X.A.units + 64 < cLine) : CallR X (.builtin "sorted") (rSortedN X.K X.w) := by
  intro pins s σ H vs us Q I r h
  obtain ⟨a, L, rfl, ha, hk, so, q⟩ := h
  obtain ⟨es, ep, t, R⟩ : ∃ es ep t, SetB X.w s.heap a L es ep t := (I.hok a _ ha).1
  rw [Vals.ref1 r]
  refine sorted_setN R (I.ok.hd hc) (fun p hp => Dp.reads I _ _ _ (hk p hp).1 rfl) (fun p hp => (hk p hp).2) so hu fun s' p out c L' k g o hp hg hout pm pw => ?_
  have hfew : L'.length < 64 := by rw [pm.length_eq]; exact R.few
  have hlen : (L'.map fun q => V.ref q.1).length ≤ sizeLine := by rw [List.length_map, sizeLine_eq]; omega
  have hn : H p = none := I.hok.fresh hp
  have hv : Vals (L'.map fun q => V.ref q.1) out.toList := by rw [hout]; exact vals_refs L'
  have J : Inv X pins σ (upd H p (.lst (L'.map fun q => V.ref q.1))) { s with heap := s'.heap, gens := s'.gens, drawn := s'.drawn, toks := s'.toks } :=
    I.call (ch := []) (Un.laid k hp hn) (I.hok.laid k hp ⟨hlen, out.toList, c, hv, hg⟩) (by rw [g]; exact I.bare) (fun _ z => nomatch z)
  have e : s' = { s with heap := s'.heap, gens := s'.gens, drawn := s'.drawn, toks := s'.toks } := by
    cases s'
    cases s
    cases o
    rfl
  rw [e]
  exact ⟨.ref p, _, J, rfl, q L' p pm pw hn⟩

/-! ### by data -/
def SetOk (ds : List PyData) : Prop := (∀ d ∈ ds, kOk d = true ∧ (∃ xs, d = .tuple xs) ∧ (toN d).depth ≤ 7) ∧ SortOk ds ∧ ds.length < 64
def ddD : List PyData → List NestedKey
  | [] => []
  | d :: ds => if toN d ∈ ddD ds then ddD ds else toN d :: ddD ds
theorem ddD_mem {k : NestedKey} : ∀ {ds : List PyData}, k ∈ ddD ds ↔ ∃ d ∈ ds, toN d = k
  | [] => ⟨fun h => (nomatch h), fun ⟨_, h, _⟩ => nomatch h⟩
  | d :: ds => by
    have ih := ddD_mem (k := k) (ds := ds)
    unfold ddD
    by_cases c : toN d ∈ ddD ds
    · rw [if_pos c, ih]
      constructor
      · rintro ⟨e, h1, h2⟩; exact ⟨e, List.mem_cons_of_mem _ h1, h2⟩
      · rintro ⟨e, h1, h2⟩
        rcases List.mem_cons.mp h1 with z | z
        · subst z; rw [h2] at c; exact ih.mp c
        · exact ⟨e, z, h2⟩
    · rw [if_neg c, List.mem_cons, ih]
      constructor
      · rintro (e | ⟨e, h1, h2⟩)
        · exact ⟨d, List.mem_cons_self, e.symm⟩
        · exact ⟨e, List.mem_cons_of_mem _ h1, h2⟩
      · rintro ⟨e, h1, h2⟩
        rcases List.mem_cons.mp h1 with z | z
        · subst z; exact .inl h2.symm
        · exact .inr ⟨e, z, h2⟩
theorem ddD_nodup : ∀ ds : List PyData, (ddD ds).Nodup
  | [] => List.nodup_nil
  | d :: ds => by
    unfold ddD
    by_cases c : toN d ∈ ddD ds
    · rw [if_pos c]; exact ddD_nodup ds
    · rw [if_neg c]; exact List.nodup_cons.mpr ⟨c, ddD_nodup ds⟩
theorem ddD_len : ∀ ds : List PyData, (ddD ds).length ≤ ds.length
  | [] => Nat.le_refl _
  | d :: ds => by
    unfold ddD
    have := ddD_len ds
    by_cases c : toN d ∈ ddD ds
    · rw [if_pos c, List.length_cons]; omega
    · rw [if_neg c, List.length_cons, List.length_cons]; omega
/-- what sorted(set(ds)) is -/
def ssD (ds : List PyData) : List PyData := ((ddD ds).map NestedKey.data).mergeSort leD
theorem ssD_mem {ds : List PyData} (h : ∀ d ∈ ds, kOk d = true) {d : PyData} : d ∈ ssD ds ↔ d ∈ ds := by
  unfold ssD
  rw [List.mem_mergeSort, List.mem_map]
  constructor
  · rintro ⟨k, h1, rfl⟩
    obtain ⟨e, h2, h3⟩ := ddD_mem.mp h1
    rw [← h3, toN_data e (h e h2)]; exact h2
  · exact fun hd => ⟨toN d, ddD_mem.mpr ⟨d, hd, rfl⟩, toN_data d (h d hd)⟩
theorem ssD_len (ds : List PyData) : (ssD ds).length ≤ ds.length := by
  unfold ssD
  rw [List.length_mergeSort, List.length_map]
  exact ddD_len ds
open Classical in
noncomputable def mSS : List PyData → Option PyData
  | [.list ds] => if SetOk ds then some (.list (ssD ds)) else none
  | [.tuple ds] => if SetOk ds then some (.list (ssD ds)) else none
  | _ => none
theorem mSS_ok {ds : List PyData} {z : PyData} {x : PyData} (hx : x = .list ds ∨ x = .tuple ds) (h : mSS [x] = some z) : SetOk ds ∧ z = .list (ssD ds) := by
  classical
  rcases hx with rfl | rfl <;> (
    have e3 : (if SetOk ds then some (PyData.list (ssD ds)) else none) = some z := by simpa [mSS] using h
    by_cases so : SetOk ds
    · rw [if_pos so] at e3; exact ⟨so, (Option.some.inj e3).symm⟩
    · rw [if_neg so] at e3; cases e3)
theorem mSS_of {ds : List PyData} {x : PyData} (hx : x = .list ds ∨ x = .tuple ds) (h : SetOk ds) : mSS [x] = some (.list (ssD ds)) := by
  classical
  rcases hx with rfl | rfl <;> exact if_pos h
theorem nodup_sub_len {α : Type} [DecidableEq α] : ∀ {l m : List α}, l.Nodup → (∀ x ∈ l, x ∈ m) → l.length ≤ m.length
  | [], _, _, _ => Nat.zero_le _
  | x :: l, m, hn, hs => by
    obtain ⟨h1, h2⟩ := List.nodup_cons.mp hn
    have hx := hs x List.mem_cons_self
    have := nodup_sub_len (m := m.erase x) h2 fun y hy => (List.mem_erase_of_ne (fun e => h1 (by rw [← e]; exact hy))).mpr (hs y (List.mem_cons_of_mem _ hy))
    rw [List.length_erase_of_mem hx] at this
    have : 0 < m.length := List.length_pos_of_mem hx
    rw [List.length_cons]
    omega
theorem DvA.keysOf {B : Hp} : ∀ {vs : List V} {ds : List PyData}, DvA B vs ds → (∀ d ∈ ds, kOk d = true ∧ ∃ xs, d = .tuple xs) → ∃ ks : List AK, vs = ks.map (fun p => V.ref p.1) ∧ ks.map (·.2) = ds.map toN ∧ (∀ p ∈ ks, Dv B (.ref p.1) p.2.data) ∧ ds = ks.map dK
  | _, _, .nil, _ => ⟨[], rfl, rfl, fun p hp => (nomatch hp), rfl⟩
  | _, _, .cons (v := v) (d := d) h t, hk => by
    obtain ⟨ks, h1, h2, h3, h4⟩ := DvA.keysOf t fun e he => hk e (List.mem_cons_of_mem _ he)
    obtain ⟨k1, xs, e⟩ := hk d List.mem_cons_self
    have e2 := toN_data d k1
    subst e
    cases h with
    | @tup b ws _ q1 q2 =>
      refine ⟨(b, toN (.tuple xs)) :: ks, by rw [List.map_cons, h1], by rw [List.map_cons, List.map_cons, h2], fun p hp => ?_, by rw [List.map_cons, ← h4]; exact congrArg (· :: _) e2.symm⟩
      rcases List.mem_cons.mp hp with z | z
      · rw [z]
        show Dv B (.ref b) (toN (.tuple xs)).data
        rw [e2]
        exact .tup q1 q2
      · exact h3 p z
theorem DvA.refs {B : Hp} : ∀ (ks : List AK), (∀ p ∈ ks, Dv B (.ref p.1) p.2.data) → DvA B (ks.map fun p => V.ref p.1) (ks.map dK)
  | [], _ => .nil
  | p :: ks, h => .cons (h p List.mem_cons_self) (DvA.refs ks fun q hq => h q (List.mem_cons_of_mem _ hq))
variable {a : Expr} {da : DE} {pos : Pos}
noncomputable def dSortSet (d : DE) : DE := fun ρ => (d ρ).bind fun x => mSS [x]
theorem ge_sortset {p p2 q : Pos} (hc : X.calm = true) (hu : X.A.units + 64 < cLine) (hg : Gl X "sorted") (hm : X.mg "sorted" = none) (hg2 : Gl X "set") (hm2 : X.mg "set" = none) (ha : GE X a da) (na : starEach [a] X.env = (false, eval a X.env) :: starEach [] X.env := by rfl)
    (na2 : starEach [.Call (.Name "set" p2) [a] [] q] X.env = (false, eval (.Call (.Name "set" p2) [a] [] q) X.env) :: starEach [] X.env := by rfl)
    (hpl : (backTo q (starEach ([] : List Expr) X.env)).any (·.1) = false := by rfl) (hpl2 : (backTo pos (starEach ([] : List Expr) X.env)).any (·.1) = false := by rfl) :
    GE X (.Call (.Name "sorted" p) [.Call (.Name "set" p2) [a] [] q] [] pos) (dSortSet da) :=
  ⟨PE.imp (pe_callB (cr_sortedN hc hu) hg hm (by decide +kernel) (pa_cons (pe_callTy (cr_setN hc hu) hg2 hm2 (by decide +kernel) (pa_cons ha.pe pa_nil na) (by decide) (by decide) na hpl) pa_nil na2) (by decide) (by decide) na2 hpl2) fun σ H Q ⟨B, ρ, z, s, en, e, k⟩ => by
    obtain ⟨x, e1, e2⟩ := Option.bind_eq_some_iff.mp e
    refine ⟨B, ρ, x, s, en, e1, fun v B1 H1 a1 dv => ?_⟩
    -- both kinds alike
    have main : ∀ (l : Addr) (xs : List V) (ds : List PyData), SetOk ds → DvA B1 xs ds → (SqL X.K H1 l xs ∨ SqT X.K H1 l xs) → z = .list (ssD ds) → rSetN X.K X.w [.ref l] H1 fun u H2 => rSortedN X.K X.w [u] H2 Q := by
      intro l xs ds so dvs hl ez
      obtain ⟨ks, k1, k2, k3, k4⟩ := dvs.keysOf fun d hd => ⟨(so.1 d hd).1, (so.1 d hd).2.1⟩
      subst k1
      have kk : ∀ p ∈ ks, p.2.data ∈ ds ∧ p.2 = toN p.2.data := fun p hp => by
        have h1 : dK p ∈ ds := by rw [k4]; exact List.mem_map.mpr ⟨p, hp, rfl⟩
        refine ⟨h1, ?_⟩
        have : p.2 ∈ ds.map toN := by rw [← k2]; exact List.mem_map.mpr ⟨p, hp, rfl⟩
        obtain ⟨d, hd, ed⟩ := List.mem_map.mp this
        rw [← ed, toN_data d (so.1 d hd).1]
      have dp1 : ∀ p ∈ ks, ∀ H2, Same B1 H2 → Dp X.K H2 (.ref p.1) p.2.data := fun p hp H2 s2 => ((k3 p hp).mono s2).dp (so.2.1.2.2.2 _ (kk p hp).1).2
      refine ⟨l, ks, rfl, hl, fun p hp => ⟨dp1 p hp H1 a1.i, (so.1 _ (kk p hp).1).1, (kk p hp).2.symm, ?_⟩, ?_, ?_⟩
      · have := (so.1 _ (kk p hp).1).2.2
        rwa [← (kk p hp).2] at this
      · have := congrArg List.length k4
        rw [List.length_map] at this
        rw [← this]; exact so.2.2
      · intro a2 L hn hsub hall hnd
        have sm : Same B1 (upd H1 a2 (SetNO X.w a2 L)) := Same.upd a1.i (a1.i.free hn) _
        have hLd : ∀ d ∈ L.map dK, d ∈ ds := fun d hd => by
          obtain ⟨p, hp, rfl⟩ := List.mem_map.mp hd
          exact (kk p (hsub p hp)).1
        have hLl : (L.map dK).length < 64 := by
          rw [List.length_map]
          have : L.length ≤ ds.length := by
            have h1 : (L.map (·.2)).length ≤ (ddD ds).length := nodup_sub_len hnd fun k hk => by
              obtain ⟨p, hp, rfl⟩ := List.mem_map.mp hk
              exact ddD_mem.mpr ⟨p.2.data, (kk p (hsub p hp)).1, (kk p (hsub p hp)).2.symm⟩
            rw [List.length_map] at h1
            exact Nat.le_trans h1 (ddD_len ds)
          have := so.2.2
          omega
        refine ⟨a2, L, rfl, upd_same, fun p hp => ⟨dp1 p (hsub p hp) _ sm, (so.1 _ (kk p (hsub p hp)).1).1⟩, so.2.1.sub hLd (by omega), fun L' r pm pw hr => ?_⟩
        have a3 := At.new sm hr (.lst (L'.map fun q => V.ref q.1))
        have a2b : At B1 B1 H1 (upd H1 a2 (SetNO X.w a2 L)) := ⟨Same.refl _, sm, same_new hn _, fun _ h _ => h⟩
        have dsub : ∀ p ∈ L', p ∈ ks := fun p hp => hsub p (pm.mem_iff.mp hp)
        have dv2 := DvA.refs (B := B1) L' fun p hp => k3 p (dsub p hp)
        have eq : L'.map dK = ssD ds := by
          have nd2 : ((ddD ds).map NestedKey.data).Perm (L.map dK) := by
            have pk : (ddD ds).Perm (L.map (·.2)) := by
              refine (List.perm_ext_iff_of_nodup (ddD_nodup ds) hnd).mpr fun k => ?_
              rw [ddD_mem]
              constructor
              · rintro ⟨d, hd, rfl⟩
                rw [k4] at hd
                obtain ⟨p, hp, rfl⟩ := List.mem_map.mp hd
                have e7 : toN (dK p) = p.2 := (kk p hp).2.symm
                rw [e7]; exact hall p hp
              · intro hk
                obtain ⟨p, hp, rfl⟩ := List.mem_map.mp hk
                exact ⟨p.2.data, (kk p (hsub p hp)).1, (kk p (hsub p hp)).2.symm⟩
            have := pk.map NestedKey.data
            rwa [List.map_map] at this
          exact sorted_unique (ds := L.map dK) (fun d hd => (so.1 d (hLd d hd)).1) (fun d hd e he => so.2.1.1 d (hLd d hd) e (hLd e he)) (pm.map dK) ((List.mergeSort_perm _ _).trans nd2) pw (leD_sorted _)
        rw [ez] at k
        rw [← eq] at k
        exact k _ _ _ ((a1.trans a2b).trans a3) (.lst upd_same (dv2.mono a3.b))
    match x, dv, e2 with
    | .list ds, .lst h1 h2, e2 =>
      obtain ⟨so, ez⟩ := mSS_ok (.inl rfl) e2
      exact main _ _ ds so h2 (.inl (SqL.of (a1.i _ _ h1))) ez
    | .tuple ds, .tup h1 h2, e2 =>
      obtain ⟨so, ez⟩ := mSS_ok (.inr rfl) e2
      exact main _ _ ds so h2 (.inr (h1.mono a1.i).sq) ez⟩
end
end SK
set_option maxHeartbeats 1000000
/-! Dicts with tuple keys, by data. -/
namespace SK
open PySem PySem.Spec PyProof.Rows L2
def unKs : List PyData → Option (List Key)
  | [] => some []
  | .int i :: r => (unKs r).map (Sum.inl i :: ·)
  | .str x :: r => (unKs r).map (Sum.inr x :: ·)
  | _ :: _ => none
/-- the key that the datum is -/
def unKey : PyData → Option (List Key)
  | .tuple (x :: r) => unKs (x :: r)
  | _ => none
def keyD (k : List Key) : PyData := .tuple (k.map kD)
theorem unKs_kD : ∀ k : List Key, unKs (k.map kD) = some k
  | [] => rfl
  | .inl i :: k => by
    show (unKs (k.map kD)).map (Sum.inl i :: ·) = _
    rw [unKs_kD k] <;> rfl
  | .inr x :: k => by
    show (unKs (k.map kD)).map (Sum.inr x :: ·) = _
    rw [unKs_kD k] <;> rfl
theorem unKs_eq : ∀ {ds : List PyData} {k : List Key}, unKs ds = some k → ds = k.map kD
  | [], _, e => by cases e; rfl
  | .int i :: r, _, e => by
    obtain ⟨k, e1, rfl⟩ := Option.map_eq_some_iff.mp (show (unKs r).map (Sum.inl i :: ·) = some _ from e)
    rw [unKs_eq e1] <;> rfl
  | .str x :: r, _, e => by
    obtain ⟨k, e1, rfl⟩ := Option.map_eq_some_iff.mp (show (unKs r).map (Sum.inr x :: ·) = some _ from e)
    rw [unKs_eq e1] <;> rfl
  | .none :: _, _, e | .bool _ :: _, _, e | .list _ :: _, _, e | .tuple _ :: _, _, e | .dict _ :: _, _, e => nomatch e
theorem unKey_eq {d : PyData} {k : List Key} (h : unKey d = some k) : d = keyD k ∧ k ≠ [] := by
  cases d with
  | tuple ds =>
    cases ds with
    | nil => exact nomatch h
    | cons x r =>
      have e := unKs_eq (show unKs (x :: r) = some k from h)
      refine ⟨congrArg PyData.tuple e, fun z => ?_⟩
      rw [z] at e
      exact nomatch e
  | _ => exact nomatch h
theorem unKey_keyD {k : List Key} (h : k ≠ []) : unKey (keyD k) = some k := by
  cases k with
  | nil => exact absurd rfl h
  | cons x r => exact unKs_kD (x :: r)
theorem kV_dv {H : Hp} {v : V} {x : Key} (h : Dv H v (kD x)) : v = kV x := by
  cases x with
  | inl i => cases h; rfl
  | inr y => cases h; rfl
theorem kVs_dv {H : Hp} : ∀ {k : List Key} {vs : List V}, DvA H vs (k.map kD) → vs = k.map kV
  | [], _, .nil => rfl
  | x :: k, _, .cons h t => by rw [kV_dv h, kVs_dv t] <;> rfl
theorem dv_kVs (H : Hp) : ∀ k : List Key, DvA H (k.map kV) (k.map kD)
  | [] => .nil
  | .inl i :: k => .cons (.int i) (dv_kVs H k)
  | .inr x :: k => .cons (.str x) (dv_kVs H k)
theorem not_row {k : List Key} (h : k ≠ []) : rowish (k.map kD) = false := by
  cases k with
  | nil => exact absurd rfl h
  | cons x r =>
    cases x <;> rfl
theorem Dv.key {B : Hp} {v : V} {d : PyData} {k : List Key} (h : Dv B v d) (e : unKey d = some k) : ∃ b, v = .ref b ∧ B b = some (.tup (k.map kV)) := by
  obtain ⟨e1, e2⟩ := unKey_eq e
  subst e1
  cases h with
  | @tup a xs _ h1 h2 =>
    rw [not_row e2] at h1
    have h3 : B a = some (.tup xs) := h1
    exact ⟨a, rfl, by rw [h3, kVs_dv h2]⟩

/-! ### what a dict holds -/
def getE (es : List (PyData × PyData)) (k : List Key) : Option PyData := (es.find? fun e => decide (unKey e.1 = some k)).map (·.2)
def putE (es : List (PyData × PyData)) (k : List Key) (d : PyData) : List (PyData × PyData) :=
  if (es.any fun e => decide (unKey e.1 = some k)) = true then es.map (fun e => if unKey e.1 = some k then (e.1, d) else e) else es ++ [(keyD k, d)]
inductive DvO (H : Hp) : Option V → Option PyData → Prop
  | none : DvO H none none
  | some {v d} : Dv H v d → DvO H (some v) (some d)
theorem DvO.isSome {H : Hp} {o : Option V} {g : Option PyData} (h : DvO H o g) : o.isSome = g.isSome := by cases h <;> rfl
theorem DvO.getD {H : Hp} {o : Option V} {g : Option PyData} (h : DvO H o g) {v : V} {d : PyData} (h2 : Dv H v d) : Dv H (o.getD v) (g.getD d) := by
  cases h with
  | none => exact h2
  | some h => exact h
theorem unKey_iff {k k' : List Key} (h : k ≠ []) : unKey (keyD k') = some k ↔ k' = k := by
  constructor
  · intro e
    have e1 := (unKey_eq e).1
    have e2 : k'.map kD = k.map kD := by injection e1
    have := congrArg unKs e2
    rw [unKs_kD, unKs_kD] at this
    exact Option.some.inj this
  · intro e; rw [e]; exact unKey_keyD h
theorem DvE.get {H : Hp} {k : List Key} (hk : k ≠ []) : ∀ {kvs : List (List Key × V)} {es : List (PyData × PyData)}, DvE H kvs es → DvO H (valV kvs k) (getE es k)
  | _, _, .nil => .none
  | _, _, .cons (k := k') (v := v) (d := d) (kvs := kvs) (es := es) h t => by
    unfold valV getE
    rw [List.find?_cons, List.find?_cons]
    by_cases e : k' = k
    · have e2 : unKey (.tuple (k'.map kD)) = some k := (unKey_iff hk).mpr e
      simp only [e, e2, decide_true]
      have e3 : unKey (.tuple (k.map kD)) = some k := by rw [← e2, e]
      simp only [e3, decide_true]
      exact .some h
    · have e2 : ¬ unKey (.tuple (k'.map kD)) = some k := fun z => e ((unKey_iff hk).mp z)
      simp only [e, e2, decide_false]
      exact DvE.get hk t
theorem DvE.any {H : Hp} {k : List Key} (hk : k ≠ []) : ∀ {kvs : List (List Key × V)} {es : List (PyData × PyData)}, DvE H kvs es → (kvs.any fun kv => decide (kv.1 = k)) = (es.any fun e => decide (unKey e.1 = some k))
  | _, _, .nil => rfl
  | _, _, .cons (k := k') h t => by
    rw [List.any_cons, List.any_cons, DvE.any hk t]
    have : decide (k' = k) = decide (unKey (.tuple (k'.map kD)) = some k) := by
      rw [decide_eq_decide]
      exact (unKey_iff (k' := k') hk).symm
    rw [this]
theorem DvE.repl {H : Hp} {k : List Key} (hk : k ≠ []) {v : V} {d : PyData} (hv : Dv H v d) : ∀ {kvs : List (List Key × V)} {es : List (PyData × PyData)}, DvE H kvs es →
    DvE H (kvs.map fun kv => if kv.1 = k then (kv.1, v) else kv) (es.map fun e => if unKey e.1 = some k then (e.1, d) else e)
  | _, _, .nil => .nil
  | _, _, .cons (k := k') h t => by
    rw [List.map_cons, List.map_cons]
    by_cases e : k' = k
    · have e2 : unKey (.tuple (k'.map kD)) = some k := (unKey_iff hk).mpr e
      rw [if_pos e, if_pos e2]
      exact .cons hv (DvE.repl hk hv t)
    · have e2 : ¬ unKey (.tuple (k'.map kD)) = some k := fun z => e ((unKey_iff hk).mp z)
      rw [if_neg e, if_neg e2]
      exact .cons h (DvE.repl hk hv t)
theorem DvE.snoc {H : Hp} {k : List Key} {v : V} {d : PyData} (hv : Dv H v d) : ∀ {kvs : List (List Key × V)} {es : List (PyData × PyData)}, DvE H kvs es → DvE H (kvs ++ [(k, v)]) (es ++ [(keyD k, d)])
  | _, _, .nil => .cons hv .nil
  | _, _, .cons h t => .cons h (DvE.snoc hv t)
theorem DvE.put {H : Hp} {k : List Key} (hk : k ≠ []) {v : V} {d : PyData} (hv : Dv H v d) {kvs : List (List Key × V)} {es : List (PyData × PyData)} (h : DvE H kvs es) : DvE H (putK kvs k v) (putE es k d) := by
  unfold putK putE
  rw [h.any hk]
  by_cases c : (es.any fun e => decide (unKey e.1 = some k)) = true
  · rw [if_pos c, if_pos c]; exact h.repl hk hv
  · rw [if_neg c, if_neg c]; exact h.snoc hv
theorem DvE.length {H : Hp} : ∀ {kvs : List (List Key × V)} {es : List (PyData × PyData)}, DvE H kvs es → kvs.length = es.length
  | _, _, .nil => rfl
  | _, _, .cons _ t => congrArg Nat.succ (DvE.length t)

/-! ### in, [], get -/
section
variable {X : Cx} {a b c : Expr} {da db dc : DE} {pos : Pos}
def bInD (y x : PyData) : Option PyData := match x with
  | .dict es => (unKey y).map fun k => .bool (getE es k).isSome
  | _ => none
def bIxD (x y : PyData) : Option PyData := match x with
  | .dict es => (unKey y).bind fun k => getE es k
  | _ => none
theorem Dv.dget {B H : Hp} {x y : V} {es : List (PyData × PyData)} {d : PyData} {k : List Key} (s : Same B H) (hx : Dv B x (.dict es)) (hy : Dv B y d) (e : unKey d = some k) : ∃ a o, x = .ref a ∧ IsD H a ∧ DGet H a y o ∧ DvO B o (getE es k) := by
  obtain ⟨b, rfl, hb⟩ := hy.key e
  cases hx with
  | @dic a kvs _ h1 h2 => exact ⟨a, _, rfl, .inr ⟨kvs, .inl (s _ _ h1)⟩, DGet.t (s _ _ h1) (s _ _ hb), h2.get (unKey_eq e).2⟩
theorem gt_inD (hu : X.A.units + 1 < cLine) (ha : GE X a da) (hb : GE X b db) (hm : behindInMarks .In b = false := by rfl) : GE X (.Compare a [.In] [b] pos) (dOp bInD da db) := ⟨PE.imp (pe_cmp (pc_din hu ha.pe hb.pe) hm) fun σ H Q ⟨B, ρ, d, s, en, e, k⟩ => by
  obtain ⟨y, ey, e2⟩ := Option.bind_eq_some_iff.mp e
  obtain ⟨x, ex, e3⟩ := Option.bind_eq_some_iff.mp e2
  refine ⟨B, ρ, y, s, en, ey, fun v B1 H1 a1 dv => ⟨B1, ρ, x, a1.i, en.mono a1.b, ex, fun w B2 H2 a2 dw => ?_⟩⟩
  cases x with
  | dict es =>
    obtain ⟨ky, e4, e5⟩ := Option.map_eq_some_iff.mp (show (unKey y).map (fun k => PyData.bool (getE es k).isSome) = some d from e3)
    obtain ⟨a0, o, r1, _, r3, r4⟩ := Dv.dget a2.i dw (dv.mono a2.b) e4
    refine ⟨a0, o, r1, r3, ?_⟩
    have : o.isSome = (getE es ky).isSome := r4.isSome
    rw [this]
    rw [← e5] at k
    exact k _ B2 H2 (a1.trans a2) (.bl _)
  | _ => exact nomatch e3⟩
theorem ge_ixD (hu : X.A.units + 1 < cLine) (ha : GE X a da) (hb : GE X b db) (hs : NoSl b := by exact fun _ _ => rfl) : GE X (.Subscript a b pos) (dOp bIxD da db) := ⟨PE.imp (pe_dget hu ha.pe hb.pe hs) fun σ H Q ⟨B, ρ, d, s, en, e, k⟩ => by
  obtain ⟨x, ex, e2⟩ := Option.bind_eq_some_iff.mp e
  obtain ⟨y, ey, e3⟩ := Option.bind_eq_some_iff.mp e2
  refine ⟨B, ρ, x, s, en, ex, fun v B1 H1 a1 dv => ⟨B1, ρ, y, a1.i, en.mono a1.b, ey, fun w B2 H2 a2 dw => ?_⟩⟩
  cases x with
  | dict es =>
    obtain ⟨ky, e4, e5⟩ := Option.bind_eq_some_iff.mp (show (unKey y).bind (fun k => getE es k) = some d from e3)
    obtain ⟨a0, o, r1, _, r3, r4⟩ := Dv.dget a2.i (dv.mono a2.b) dw e4
    rw [e5] at r4
    cases r4 with
    | some h => exact ⟨a0, _, r1, r3, k _ B2 H2 (a1.trans a2) h⟩
  | _ => exact nomatch e3⟩
def dGet1 (da db : DE) : DE := fun ρ => (da ρ).bind fun x => (db ρ).bind fun y => match x with
  | .dict es => (unKey y).map fun k => (getE es k).getD .none
  | _ => none
def dGet2 (da db dc : DE) : DE := fun ρ => (da ρ).bind fun x => (db ρ).bind fun y => (dc ρ).bind fun z => match x with
  | .dict es => (unKey y).map fun k => (getE es k).getD z
  | _ => none
theorem dict_isD {B H : Hp} {x : V} {es : List (PyData × PyData)} (s : Same B H) (h : Dv B x (.dict es)) : ∃ a, x = .ref a ∧ IsD H a := by
  cases h with
  | dic h1 _ => exact ⟨_, rfl, .inr ⟨_, .inl (s _ _ h1)⟩⟩
theorem ge_get1 {ap : Pos} (hu : X.A.units + 1 < cLine) (ha : GE X a da) (hb : GE X b db) (m : M1 X a "get" ap b pos) : GE X (.Call (.Attribute a "get" ap) [b] [] pos) (dGet1 da db) := ⟨PE.imp (pe_dget1 hu ha.pe hb.pe m) fun σ H Q ⟨B, ρ, d, s, en, e, k⟩ => by
  obtain ⟨x, ex, e2⟩ := Option.bind_eq_some_iff.mp e
  obtain ⟨y, ey, e3⟩ := Option.bind_eq_some_iff.mp e2
  refine ⟨B, ρ, x, s, en, ex, fun v B1 H1 a1 dv => ?_⟩
  cases x with
  | dict es =>
    obtain ⟨ky, e4, e5⟩ := Option.map_eq_some_iff.mp (show (unKey y).map (fun k => (getE es k).getD .none) = some d from e3)
    obtain ⟨a0, r1, r2⟩ := dict_isD a1.i dv
    refine ⟨a0, r1, r2, B1, ρ, y, a1.i, en.mono a1.b, ey, fun w B2 H2 a2 dw => ?_⟩
    obtain ⟨a9, o, q1, _, q3, q4⟩ := Dv.dget a2.i (dv.mono a2.b) dw e4
    rw [r1] at q1
    injection q1 with q1
    subst q1
    refine ⟨o, q3, ?_⟩
    rw [← e5] at k
    refine k _ B2 H2 (a1.trans a2) ?_
    exact q4.getD .non
  | _ => exact nomatch e3⟩
theorem ge_get2 {ap : Pos} (hu : X.A.units + 1 < cLine) (ha : GE X a da) (hb : GE X b db) (hc : GE X c dc) (m : M2 X a "get" ap b c pos) : GE X (.Call (.Attribute a "get" ap) [b, c] [] pos) (dGet2 da db dc) := ⟨PE.imp (pe_dget2 hu ha.pe hb.pe hc.pe m) fun σ H Q ⟨B, ρ, d, s, en, e, k⟩ => by
  obtain ⟨x, ex, e2⟩ := Option.bind_eq_some_iff.mp e
  obtain ⟨y, ey, e3⟩ := Option.bind_eq_some_iff.mp e2
  obtain ⟨z, ez, e6⟩ := Option.bind_eq_some_iff.mp e3
  refine ⟨B, ρ, x, s, en, ex, fun v B1 H1 a1 dv => ?_⟩
  cases x with
  | dict es =>
    obtain ⟨ky, e4, e5⟩ := Option.map_eq_some_iff.mp (show (unKey y).map (fun k => (getE es k).getD z) = some d from e6)
    obtain ⟨a0, r1, r2⟩ := dict_isD a1.i dv
    refine ⟨a0, r1, r2, B1, ρ, y, a1.i, en.mono a1.b, ey, fun w B2 H2 a2 dw => ⟨B2, ρ, z, a2.i, en.mono (a1.b.trans a2.b), ez, fun u B3 H3 a3 du => ?_⟩⟩
    obtain ⟨a9, o, q1, _, q3, q4⟩ := Dv.dget a3.i (dv.mono (a2.b.trans a3.b)) (dw.mono a3.b) e4
    rw [r1] at q1
    injection q1 with q1
    subst q1
    refine ⟨o, q3, ?_⟩
    rw [← e5] at k
    refine k _ B3 H3 ((a1.trans a2).trans a3) ?_
    exact q4.getD du
  | _ => exact nomatch e6⟩
end

/-! ### dict(row) -/
def mergeT (kvs more : List (List Key × V)) : List (List Key × V) := more.foldl (fun acc p => putK acc p.1 p.2) kvs
theorem mergeT_length : ∀ more kvs : List (List Key × V), (mergeT kvs more).length ≤ kvs.length + more.length
  | [], kvs => Nat.le_refl _
  | p :: more, kvs => by
    have h1 := mergeT_length more (putK kvs p.1 p.2)
    have h2 := length_putK kvs p.1 p.2
    show (mergeT (putK kvs p.1 p.2) more).length ≤ _
    rw [List.length_cons]
    omega
theorem KT.merge {H : Hp} {more : List (List Key × V)} {ps : List (List Key × Addr × Value)} (m : KT H more ps) : ∀ {kvs : List (List Key × V)} {xs : List (List Key × Addr × Value)}, KT H kvs xs → KT H (mergeT kvs more) (storedAllH xs ps) := by
  induction m with
  | nil => intro kvs xs r; exact r
  | @cons p q ps qs h t ih =>
    intro kvs xs r
    obtain ⟨h1, h2, h3⟩ := h
    have e := KT.put r p.1 h2 h3
    refine ih (kvs := putK kvs p.1 p.2) (xs := storedH xs q.1 q.2.1 q.2.2) ?_
    rw [← h1]
    exact e
section
variable {X : Cx}
def rDictT (K : PySem.W.Frag) : List V → Hp → VK → Prop := fun xs H Q => ∃ (a : Addr) (o : Obj) (ps : List Addr) (kvs : List (List Key × Addr × V)), xs = [.ref a] ∧ H a = some (.frz o (.tup (ps.map V.ref))) ∧ o.dict = none ∧
  Paired (fun p (kv : List Key × Addr × V) => SqT K H p [.ref kv.2.1, kv.2.2] ∧ H kv.2.1 = some (.tup (kv.1.map kV))) ps kvs ∧ ∀ p, H p = none → Q (.ref p) (upd H p (.dT (mergeT [] (kvs.map fun kv => (kv.1, kv.2.2)))))
theorem pairsT {pins : List (Addr × Obj)} {σ : L2.St} {H : Hp} {s : Shared} (I : Inv X pins σ H s) : ∀ {ps : List Addr} {kvs : List (List Key × Addr × V)}, Paired (fun p (kv : List Key × Addr × V) => SqT X.K H p [.ref kv.2.1, kv.2.2] ∧ H kv.2.1 = some (.tup (kv.1.map kV))) ps kvs →
    ∃ prs : List (List Key × Addr × Value), KT H (kvs.map fun kv => (kv.1, kv.2.2)) prs ∧ prs.length = ps.length ∧ ∀ (j : Nat) (q : List Key × Addr × Value), prs[j]? = some q → ∃ b, ps[j]? = some b ∧ s.heap.IsTuple b #[.ref q.2.1, q.2.2] ∧ H q.2.1 = some (.tup (q.1.map kV))
  | _, _, .nil => ⟨[], .nil, rfl, fun j q e => by simp at e⟩
  | _, _, .cons (a := p) (b := kv) h t => by
    obtain ⟨prs, r, hl, hp⟩ := pairsT I t
    obtain ⟨its, rv, ht, _⟩ := I.tuple h.1
    obtain ⟨u, y, ei, ru, ry⟩ := vals2 rv
    subst ei
    obtain rfl : u = Value.ref kv.2.1 := ru
    refine ⟨(kv.1, kv.2.1, y) :: prs, .cons ⟨rfl, h.2, ry⟩ r, by rw [List.length_cons, List.length_cons, hl], fun j q e => ?_⟩
    cases j with
    | zero =>
      have e' : (kv.1, kv.2.1, y) = q := Option.some.inj e
      subst e'
      exact ⟨p, rfl, ht, h.2⟩
    | succ j =>
      obtain ⟨b, e1, e2, e3⟩ := hp j q (by simpa using e)
      exact ⟨b, by simpa using e1, e2, e3⟩
theorem call_dictT (hc : X.calm = true) (hu : X.A.units + 64 < cLine) : CallR X (.type "dict") (rDictT X.K) := by
  intro pins s σ H xs us Q I r ⟨a, o, ps, kvs, ex, ha, hd, hp, q⟩
  subst ex
  rw [Vals.ref1 r]
  obtain ⟨ho, hz, its, rv, o2, ho2, hcl, n, hdat⟩ := (show ObjOk X.prog X.w H s.heap a (.frz o (.tup (ps.map V.ref))) from I.hok a _ ha)
  rw [ho] at ho2
  cases ho2
  have ei := refs_at rv
  subst ei
  obtain ⟨prs, rel, hl, hpr⟩ := pairsT I hp
  have hkl : kvs.length = ps.length := by rw [← hl, ← Paired.length rel, List.length_map]
  have hzp : ps.length ≤ sizeLine := by rwa [List.length_map] at hz
  -- the pairs' tuples
  have P := PairArg.tuple (prog := X.prog) (w := X.w) a (ps.map Value.ref).toArray (fun j => ps.getD j 0) (prs.map fun q => (Value.ref q.2.1, q.2.2))
  have ok : PlainSeq "tuple" s.heap a (ps.map Value.ref).toArray ∧ PairItems s.heap (ps.map Value.ref).toArray (fun j => ps.getD j 0) (prs.map fun q => (Value.ref q.2.1, q.2.2)) := by
    refine ⟨⟨o, n, ho, hcl, hd, hdat⟩, by simp [hl], fun j k v e => ?_⟩
    rw [List.getElem?_map] at e
    obtain ⟨q9, e1, e2⟩ := Option.map_eq_some_iff.mp e
    obtain ⟨b, b1, b2, b3⟩ := hpr j q9 e1
    have eb : ps.getD j 0 = b := by rw [List.getD_eq_getElem?_getD, b1] <;> rfl
    injection e2 with e2 e3
    subst e2 e3
    refine ⟨?_, ?_⟩
    · show (ps.map Value.ref).toArray[j]? = some (.ref (ps.getD j 0))
      rw [eb]
      simp [b1]
    · show PairAt s.heap (ps.getD j 0) _ _
      rw [eb]
      exact .inl b2
  have keys : ∀ x ∈ prs, (tupleKind (mixKind X.prog X.w)).is s.heap x.1 x.2.1 := fun x hx => by
    obtain ⟨j, hj, e⟩ := List.getElem_of_mem hx
    obtain ⟨b, _, _, b3⟩ := hpr j x (by rw [List.getElem?_eq_getElem hj, e])
    exact key_of I.hok b3
  refine call_dict_pairsH (knd := tupleKind (mixKind X.prog X.w)) (ps := prs) P (I.ok.hd hc) ?_ ok ?_ ?_ (by rw [List.length_map, hl]; exact hzp) fun h' tk hd' k => ?_
  · show X.A.in1.in1.units < cLine
    simp only [Around.in1_units]
    omega
  · refine ⟨by rw [List.length_map], fun i key v e => ?_⟩
    have e' : (prs.map fun q => (Value.ref q.2.1, q.2.2))[i]? = some (key, v) := e
    rw [List.getElem?_map] at e'
    obtain ⟨q9, e1, e2⟩ := Option.map_eq_some_iff.mp e'
    injection e2 with e2 e3
    subst e2 e3
    exact ⟨q9.1, q9.2.1, e1, rfl⟩
  · exact fun h' hk x hx => tupleKind_stays.stays (fun b ob vs m e _ => hk b ob (Nat.ne_of_lt (Heap.lt_size e)) (fun z => nomatch z) e) (keys x hx)
  · have hn : H s.heap.objs.size = none := I.hok.fresh (Nat.le_refl _)
    have hm : (s.heap.objs.size == sysModules) = false := beq_eq_false_iff_ne.mpr (Nat.ne_of_gt I.big)
    have hlen : (mergeT [] (kvs.map fun kv => (kv.1, kv.2.2))).length ≤ sizeLine := by
      refine Nat.le_trans (mergeT_length _ _) ?_
      rw [List.length_nil, List.length_map, Nat.zero_add, hkl]
      exact hzp
    obtain ⟨o9, es, ep, c1, c2, c3, c4, c5, c6⟩ := hd'
    refine ⟨.ref s.heap.objs.size, upd H s.heap.objs.size (.dT (mergeT [] (kvs.map fun kv => (kv.1, kv.2.2)))), I.laid (t' := tk) (fun b u e => k b u (fun z => nomatch z) e) (Nat.le_refl _) ?_, rfl, q _ hn⟩
    refine ⟨hlen, hm, storedAllH [] prs, ?_, o9, es, ep, c1, c2, c3, c4, c6⟩
    exact KT.keeps (KT.merge rel .nil) fun b ys e => by rw [upd_ne (ne_of_none e hn)]; exact e
/-- the pairs of a row, all with keys -/
def unRow : List PyData → Option (List (List Key × PyData))
  | [] => some []
  | .tuple [x, y] :: r => (unKey x).bind fun k => (unRow r).map ((k, y) :: ·)
  | _ => none
def mergeE (es : List (PyData × PyData)) (ps : List (List Key × PyData)) : List (PyData × PyData) := ps.foldl (fun acc p => putE acc p.1 p.2) es
def mDict : List PyData → Option PyData
  | [.tuple ds] => if ds.length ≤ 1000 then (unRow ds).map fun ps => .dict (mergeE [] ps) else none
  | _ => none
theorem unRow_rowish : ∀ {ds : List PyData} {ps : List (List Key × PyData)}, unRow ds = some ps → rowish ds = true
  | [], _, _ => rfl
  | .tuple [x, y] :: r, _, e => by
    obtain ⟨k, e1, e2⟩ := Option.bind_eq_some_iff.mp (show (unKey x).bind (fun k => (unRow r).map ((k, y) :: ·)) = some _ from e)
    obtain ⟨ps, e3, _⟩ := Option.map_eq_some_iff.mp e2
    have := unRow_rowish e3
    obtain ⟨e4, _⟩ := unKey_eq e1
    subst e4
    exact this
  | .tuple [] :: _, _, e | .tuple [_] :: _, _, e | .tuple (_ :: _ :: _ :: _) :: _, _, e | .none :: _, _, e | .bool _ :: _, _, e | .int _ :: _, _, e | .str _ :: _, _, e | .list _ :: _, _, e | .dict _ :: _, _, e => nomatch e
theorem DvA.row {K : PySem.W.Frag} {B H : Hp} (s : Same B H) : ∀ {vs : List V} {ds : List PyData} {ps : List (List Key × PyData)}, DvA B vs ds → unRow ds = some ps →
    ∃ (as : List Addr) (kvs : List (List Key × Addr × V)), vs = as.map V.ref ∧ Paired (fun p (kv : List Key × Addr × V) => SqT K H p [.ref kv.2.1, kv.2.2] ∧ H kv.2.1 = some (.tup (kv.1.map kV))) as kvs ∧
      Paired (fun (kv : List Key × Addr × V) (p : List Key × PyData) => kv.1 = p.1 ∧ p.1 ≠ [] ∧ Dv B kv.2.2 p.2) kvs ps
  | _, [], _, .nil, e => by cases e; exact ⟨[], [], rfl, .nil, .nil⟩
  | _, .tuple [x, y] :: r, _, .cons (.tup h1 h2) t, e => by
    obtain ⟨k, e1, e2⟩ := Option.bind_eq_some_iff.mp (show (unKey x).bind (fun k => (unRow r).map ((k, y) :: ·)) = some _ from e)
    obtain ⟨ps, e3, e4⟩ := Option.map_eq_some_iff.mp e2
    subst e4
    obtain ⟨as, kvs, r1, r2, r3⟩ := DvA.row s t e3
    cases h2 with
    | @cons u _ us _ hx h3 =>
      cases h3 with
      | @cons u' _ us' _ hy h4 =>
        cases h4
        obtain ⟨b, e5, hb⟩ := hx.key e1
        subst e5
        exact ⟨_ :: as, (k, b, u') :: kvs, by rw [List.map_cons, r1], .cons ⟨(h1.mono s).sq, s _ _ hb⟩ r2, .cons ⟨rfl, (unKey_eq e1).2, hy⟩ r3⟩
  | _, .tuple [] :: _, _, .cons _ _, e | _, .tuple [_] :: _, _, .cons _ _, e | _, .tuple (_ :: _ :: _ :: _) :: _, _, .cons _ _, e | _, .none :: _, _, .cons _ _, e | _, .bool _ :: _, _, .cons _ _, e | _, .int _ :: _, _, .cons _ _, e | _, .str _ :: _, _, .cons _ _, e | _, .list _ :: _, _, .cons _ _, e | _, .dict _ :: _, _, .cons _ _, e => nomatch e
theorem DvE.merge {B : Hp} {kvs : List (List Key × Addr × V)} {ps : List (List Key × PyData)} (m : Paired (fun (kv : List Key × Addr × V) (p : List Key × PyData) => kv.1 = p.1 ∧ p.1 ≠ [] ∧ Dv B kv.2.2 p.2) kvs ps) :
    ∀ {acc : List (List Key × V)} {es : List (PyData × PyData)}, DvE B acc es → DvE B (mergeT acc (kvs.map fun kv => (kv.1, kv.2.2))) (mergeE es ps) := by
  induction m with
  | nil => intro acc es h; exact h
  | @cons p q ps qs h t ih =>
    intro acc es r
    obtain ⟨r1, r2, r3⟩ := h
    refine ih (acc := putK acc p.1 p.2.2) (es := putE es q.1 q.2) ?_
    rw [r1]
    exact r.put r2 r3
theorem rel_dict {K : PySem.W.Frag} : RelC (rDictT K) mDict := by
  intro vs ds z B H Q s h hm k
  match ds, h, hm with
  | [.tuple xs], .cons (.tup (a := a) (xs := ws) h1 h2) .nil, hm =>
    by_cases hl : xs.length ≤ 1000
    · have e : (if xs.length ≤ 1000 then (unRow xs).map fun ps => PyData.dict (mergeE [] ps) else none) = some z := hm
      rw [if_pos hl] at e
      obtain ⟨ps, e1, e2⟩ := Option.map_eq_some_iff.mp e
      subst e2
      obtain ⟨as, kvs, r1, r2, r3⟩ := h2.row (K := K) s e1
      rw [unRow_rowish e1] at h1
      obtain ⟨o, o1, o2⟩ := h1
      subst r1
      refine ⟨a, o, as, kvs, rfl, s _ _ o2, o1, r2, fun p hp => ?_⟩
      have a4 := At.new s hp (.dT (mergeT [] (kvs.map fun kv => (kv.1, kv.2.2))))
      exact k _ _ _ a4 (.dic upd_same ((DvE.merge r3 .nil).mono a4.b))
    · have e : (if xs.length ≤ 1000 then (unRow xs).map fun ps => PyData.dict (mergeE [] ps) else none) = some z := hm
      rw [if_neg hl] at e
      cases e
end
end SK
set_option maxHeartbeats 1000000
/-! Defs by data. -/
namespace SK
open PySem PySem.Spec PyProof.Rows L2
structure Md (K : PySem.W.Frag) (mg : Str → Option Value) : Prop where
  ex : ∃ h, K.In h ∧ h.Ns mainGlobals mg
  c : He.SaysD fas fns K
section
variable {P : Program} {w : World} {K : PySem.W.Frag} {mg : Str → Option Value} {base : Heap}
theorem Md.glo (M : Md K mg) (i : Nat) {x : Str} (h : fas[i]? = some (.glo x) := by rfl) : mg x = some (.ref (He.ga K x)) := let ⟨_, X, G⟩ := M.ex; He.glo_ok X G (M.c.fact i h)
theorem Md.free (M : Md K mg) (i : Nat) {x : Str} (h : fas[i]? = some (.free x) := by rfl) : mg x = none := let ⟨_, X, G⟩ := M.ex; He.free_ok X G (M.c.fact i h)
theorem Md.int (M : Md K mg) (i : Nat) {x : Str} {n : Int} (h : fas[i]? = some (.int x n) := by rfl) : ∃ t, mg x = some (.int n t) := let ⟨_, X, G⟩ := M.ex; He.int_ok X G (M.c.fact i h)
/-- a def of the text keeps a promise -/
structure CalD (P : Program) (w : World) (K : PySem.W.Frag) (mg : Str → Option Value) (base : Heap) (k : Nat) (x : Str) (ps : List Str) (sp : Sp) : Prop where
  ex : ∃ f fd, FnOk P w K mg base CX0 k f fd ps sp ∧ mg x = some (.ref f) ∧ PySem.W.keepIn K (.ref f) = true ∧ Binds K fd ps []
theorem CalD.mono {j k : Nat} {x : Str} {ps : List Str} {sp : Sp} (C : CalD P w K mg base j x ps sp) (h : j ≤ k) : CalD P w K mg base k x ps sp := by
  obtain ⟨f, fd, F, r⟩ := C.ex
  exact ⟨f, fd, F.mono h, r⟩
theorem CalD.imp {k : Nat} {x : Str} {ps : List Str} {sp sp' : Sp} (C : CalD P w K mg base k x ps sp) (h : ∀ vs H Q E, sp' vs H Q E → sp vs H Q E) : CalD P w K mg base k x ps sp' := by
  obtain ⟨f, fd, F, r⟩ := C.ex
  exact ⟨f, fd, F.imp h, r⟩
/-- the context of a def's body -/
abbrev cxD (P : Program) (w : World) (K : PySem.W.Frag) (mg : Str → Option Value) (base : Heap) (N : List Str) (x : Str) (scope : Scope) (f : Addr) (cdv : Value) (A : Around) (outer : List Env) (s : Shared) (H : Hp) (E : XK) : Cx :=
  (cxOf CX0 P w K mg base N x scope f cdv A outer s H E).nox
theorem CalD.of {x : Str} {i k : Nat} {N ps : List Str} {sp : Sp} (M : Md K mg) (j : Nat) (S : FnScope N ps (defScope (top i))) (len : ∀ vs H Q E, sp vs H Q E → vs.length = ps.length)
    (hb : ∀ (kV doc pm : Value) (an : Option Addr) (cdv ct : Value) (us : List Value), us.length = ps.length → bindArgs (PySem.W.fnOf x x (defArgs (top i)) (defBody (top i)) (defScope (top i)) .none kV doc pm an cdv ct) ⟨us, []⟩ = pure (ps.zip us))
    (hbody : ∀ (f : Addr) (cdv : Value) (A : Around) (outer : List Env) (s : Shared) (H : Hp) (vs : List V) (Q : VK) (E : XK), Room k (A.deeper (envOfC x (defScope (top i)) s.heap.objs.size f cdv)) → sp vs H Q E →
      ∃ t, PSs (cxD P w K mg base N x (defScope (top i)) f cdv A outer s H E) (defBody (top i)) t ∧ t { nx := fun _ H' => Q .non H', rt := Q } (L2.start N vs) H) (hi : fns[j]? = some (defAt x i) := by rfl) (hg : fas[j]? = some (.glo x) := by rfl) : CalD P w K mg base (k + 1) x ps sp := by
  obtain ⟨fd, F⟩ := M.c.def_ j (d := defAt x i) hi
  have e := M.glo j (x := x) hg
  exact ⟨_, fd, F.ok S len fun cdv A outer s H vs Q E hr h => by
    obtain ⟨t, h1, h2⟩ := hbody _ cdv A outer s H vs Q E hr h
    exact ⟨t, PSs.nox h1, h2⟩, e, F.kp, FunD.bindsN F hb⟩
/-- the slots at the entry -/
def rho0 (n : Nat) (ds : List PyData) : Rho := ds.map some ++ List.replicate (n - ds.length) none
theorem en_start {B : Hp} {N : List Str} {vs : List V} {ds : List PyData} (h : DvA B vs ds) : En B (L2.start N vs) (rho0 N.length ds) := by
  refine ⟨by unfold L2.start rho0; rw [List.length_append, List.length_append, List.length_map, List.length_map, List.length_replicate, List.length_replicate, h.length], fun i d e => ?_⟩
  unfold rho0 at e
  unfold L2.start
  by_cases hi : i < ds.length
  · rw [List.getElem?_append_left (by rw [List.length_map]; exact hi), List.getElem?_map] at e
    obtain ⟨d', e1, e2⟩ := Option.map_eq_some_iff.mp e
    cases e2
    obtain ⟨v, e3, e4⟩ := h.get e1
    exact ⟨v, by rw [List.getElem?_append_left (by rw [List.length_map, h.length]; exact hi), List.getElem?_map, e3] <;> rfl, e4⟩
  · rw [List.getElem?_append_right (by rw [List.length_map]; omega), List.getElem?_replicate] at e
    split at e
    · cases e
    · cases e
def endD : Out → Option PyData
  | .rt d => some d
  | .nx _ => some .none
/-- what a def makes of its arguments' data -/
def mOf (N n : Nat) (s : DS) (ds : List PyData) : Option PyData := if ds.length = n then (s (rho0 N ds)).bind endD else none
theorem mOf_eq {N n : Nat} {s : DS} {ds : List PyData} (h : ds.length = n) : mOf N n s ds = (s (rho0 N ds)).bind endD := if_pos h
theorem CalD.data {x : Str} {i k : Nat} {N ps : List Str} {s : DS} (M : Md K mg) (j : Nat) (S : FnScope N ps (defScope (top i)))
    (hb : ∀ (kV doc pm : Value) (an : Option Addr) (cdv ct : Value) (us : List Value), us.length = ps.length → bindArgs (PySem.W.fnOf x x (defArgs (top i)) (defBody (top i)) (defScope (top i)) .none kV doc pm an cdv ct) ⟨us, []⟩ = pure (ps.zip us))
    (hbody : ∀ (f : Addr) (cdv : Value) (A : Around) (outer : List Env) (s0 : Shared) (H : Hp) (E : XK), Room k (A.deeper (envOfC x (defScope (top i)) s0.heap.objs.size f cdv)) →
      GB (cxD P w K mg base N x (defScope (top i)) f cdv A outer s0 H E) (defBody (top i)) s) (hi : fns[j]? = some (defAt x i) := by rfl) (hg : fas[j]? = some (.glo x) := by rfl) : CalD P w K mg base (k + 1) x ps (spD ps.length (mOf N.length ps.length s)) :=
  CalD.of M j S (fun vs H Q E ⟨_, _, _, _, _, _, h, _⟩ => h) hb (fun f cdv A outer s0 H vs Q E hr ⟨B, ds, d, sm, dv, e, hl, q⟩ => by
    refine ⟨_, (hbody f cdv A outer s0 H E hr).pss, ?_⟩
    have hl2 : ds.length = ps.length := by rw [← dv.length]; exact hl
    rw [mOf_eq hl2] at e
    obtain ⟨o, e1, e2⟩ := Option.bind_eq_some_iff.mp e
    refine ⟨B, _, o, sm, en_start dv, e1, fun ρ' eo σ' B' H' a _ => ?_, fun d' eo v B' H' a dv' => ?_⟩
    · subst eo; cases e2; exact q .non B' H' a .non
    · subst eo; cases e2; exact q v B' H' a dv') hi hg
end
section
variable {X : Cx} {a : Expr} {es : List Expr} {des : DA} {pos p : Pos}
theorem ge_cal {j k : Nat} {x : Str} {ps : List Str} {n : Nat} {m : List PyData → Option PyData} (C : CalD X.prog X.w X.K X.mg X.base j x ps (spD n m)) (hr : Room k X.A) (hjk : j ≤ k) (ha : GA X (a :: es) des) (hg : Gl X x := by rfl)
    (hdb : (x == ("__debug__" : Str)) = false := by decide) (he : starEach (a :: es) X.env = (false, eval a X.env) :: starEach es X.env := by rfl) (hpl : (backTo pos (starEach es X.env)).any (·.1) = false := by rfl) :
    GE X (.Call (.Name x p) (a :: es) [] pos) (dCall n m des) := by
  obtain ⟨f, fd, F, hm, hk, hb⟩ := C.ex
  exact ge_call F (hr.mono hjk) hg hm hk hb pass0 ha hdb he hpl
theorem ge_cal0 {j k : Nat} {x : Str} {ps : List Str} {m : List PyData → Option PyData} (C : CalD X.prog X.w X.K X.mg X.base j x ps (spD 0 m)) (hr : Room k X.A) (hjk : j ≤ k) (hg : Gl X x := by rfl)
    (hdb : (x == ("__debug__" : Str)) = false := by decide) : GE X (.Call (.Name x p) [] [] pos) (fun _ => m []) := by
  obtain ⟨f, fd, F, hm, hk, hb⟩ := C.ex
  exact ge_call0 F (hr.mono hjk) hg hm hk hb (E := E0) pass0 hdb
end
end SK
set_option maxHeartbeats 1000000
/-! The built-ins as the text calls them. -/
namespace SK
open PySem PySem.Spec PyProof.Rows L2
section
variable {X : Cx} {a b : Expr} {da db : DE} {pos p : Pos}
/-- what a derivation asks of its context -/
structure Okx (X : Cx) (k : Nat) : Prop where
  m : Md X.K X.mg
  r : Room k X.A
  c : X.calm = true
theorem Okx.hu {k : Nat} (o : Okx X k) : X.A.units + 65 < cLine := by have := o.r.un; omega
variable {k : Nat}
abbrev d1 (m : List PyData → Option PyData) (d : DE) : DE := dBlt m (dCons d dNil)
abbrev d2 (m : List PyData → Option PyData) (d e : DE) : DE := dBlt m (dCons d (dCons e dNil))
theorem b_len (o : Okx X k) (ha : GE X a da) (hg : Gl X "len" := by rfl) (he : starEach [a] X.env = (false, eval a X.env) :: starEach [] X.env := by rfl) (hpl : (backTo pos (starEach [] X.env)).any (·.1) = false := by rfl) : GE X (.Call (.Name "len" p) [a] [] pos) (d1 mLen da) :=
  ge_blt call_len_seq rel_len hg (o.m.free 74) (by decide +kernel) (ga_cons ha ga_nil he) (by decide) (by decide) he hpl
theorem b_tuple (o : Okx X k) (ha : GE X a da) (hg : Gl X "tuple" := by rfl) (he : starEach [a] X.env = (false, eval a X.env) :: starEach [] X.env := by rfl) (hpl : (backTo pos (starEach [] X.env)).any (·.1) = false := by rfl) : GE X (.Call (.Name "tuple" p) [a] [] pos) (d1 mTuple da) :=
  ge_bty call_tupleN rel_tuple hg (o.m.free 63) (by decide +kernel) (ga_cons ha ga_nil he) (by decide) (by decide) he hpl
theorem b_list (o : Okx X k) (ha : GE X a da) (hg : Gl X "list" := by rfl) (he : starEach [a] X.env = (false, eval a X.env) :: starEach [] X.env := by rfl) (hpl : (backTo pos (starEach [] X.env)).any (·.1) = false := by rfl) : GE X (.Call (.Name "list" p) [a] [] pos) (d1 mList da) :=
  ge_bty call_list_of rel_list hg (o.m.free 65) (by decide +kernel) (ga_cons ha ga_nil he) (by decide) (by decide) he hpl
theorem b_any (o : Okx X k) (ha : GE X a da) (hg : Gl X "any" := by rfl) (he : starEach [a] X.env = (false, eval a X.env) :: starEach [] X.env := by rfl) (hpl : (backTo pos (starEach [] X.env)).any (·.1) = false := by rfl) : GE X (.Call (.Name "any" p) [a] [] pos) (d1 mAny da) :=
  ge_blt (cr_any o.c) rel_any hg (o.m.free 72) (by decide +kernel) (ga_cons ha ga_nil he) (by decide) (by decide) he hpl
theorem b_all (o : Okx X k) (ha : GE X a da) (hg : Gl X "all" := by rfl) (he : starEach [a] X.env = (false, eval a X.env) :: starEach [] X.env := by rfl) (hpl : (backTo pos (starEach [] X.env)).any (·.1) = false := by rfl) : GE X (.Call (.Name "all" p) [a] [] pos) (d1 mAll da) :=
  ge_blt (cr_all o.c) rel_all hg (o.m.free 71) (by decide +kernel) (ga_cons ha ga_nil he) (by decide) (by decide) he hpl
theorem b_max1 (o : Okx X k) (ha : GE X a da) (hg : Gl X "max" := by rfl) (he : starEach [a] X.env = (false, eval a X.env) :: starEach [] X.env := by rfl) (hpl : (backTo pos (starEach [] X.env)).any (·.1) = false := by rfl) : GE X (.Call (.Name "max" p) [a] [] pos) (d1 mMax da) :=
  ge_blt (CallR.or (cr_max o.c) (call_max2 o.c)) rel_max hg (o.m.free 69) (by decide +kernel) (ga_cons ha ga_nil he) (by decide) (by decide) he hpl
theorem b_max2 (o : Okx X k) (ha : GE X a da) (hb : GE X b db) (hg : Gl X "max" := by rfl) (he : starEach [a, b] X.env = (false, eval a X.env) :: starEach [b] X.env := by rfl) (he2 : starEach [b] X.env = (false, eval b X.env) :: starEach [] X.env := by rfl) (hpl : (backTo pos (starEach [b] X.env)).any (·.1) = false := by rfl) : GE X (.Call (.Name "max" p) [a, b] [] pos) (d2 mMax da db) :=
  ge_blt (CallR.or (cr_max o.c) (call_max2 o.c)) rel_max hg (o.m.free 69) (by decide +kernel) (ga_cons ha (ga_cons hb ga_nil he2) he) (by decide) (by decide) he hpl
theorem b_min2 (o : Okx X k) (ha : GE X a da) (hb : GE X b db) (hg : Gl X "min" := by rfl) (he : starEach [a, b] X.env = (false, eval a X.env) :: starEach [b] X.env := by rfl) (he2 : starEach [b] X.env = (false, eval b X.env) :: starEach [] X.env := by rfl) (hpl : (backTo pos (starEach [b] X.env)).any (·.1) = false := by rfl) : GE X (.Call (.Name "min" p) [a, b] [] pos) (d2 mMin da db) :=
  ge_blt (call_min2 o.c) rel_min hg (o.m.free 68) (by decide +kernel) (ga_cons ha (ga_cons hb ga_nil he2) he) (by decide) (by decide) he hpl
theorem b_dict (o : Okx X k) (ha : GE X a da) (hg : Gl X "dict" := by rfl) (he : starEach [a] X.env = (false, eval a X.env) :: starEach [] X.env := by rfl) (hpl : (backTo pos (starEach [] X.env)).any (·.1) = false := by rfl) : GE X (.Call (.Name "dict" p) [a] [] pos) (d1 mDict da) :=
  ge_bty (call_dictT o.c (by have := o.hu; omega)) rel_dict hg (o.m.free 70) (by decide +kernel) (ga_cons ha ga_nil he) (by decide) (by decide) he hpl
theorem b_int (o : Okx X k) (ha : GE X a da) (hg : Gl X "int" := by rfl) (he : starEach [a] X.env = (false, eval a X.env) :: starEach [] X.env := by rfl) (hpl : (backTo pos (starEach [] X.env)).any (·.1) = false := by rfl) : GE X (.Call (.Name "int" p) [a] [] pos) (d1 mInt da) :=
  ge_bty call_int1 rel_int hg (o.m.free 76) (by decide +kernel) (ga_cons ha ga_nil he) (by decide) (by decide) he hpl
theorem b_sorted (o : Okx X k) (ha : GE X a da) (hg : Gl X "sorted" := by rfl) (he : starEach [a] X.env = (false, eval a X.env) :: starEach [] X.env := by rfl) (hpl : (backTo pos (starEach [] X.env)).any (·.1) = false := by rfl) : GE X (.Call (.Name "sorted" p) [a] [] pos) (d1 mSorted da) :=
  ge_blt (cr_sortD (by have := o.hu; omega)) rel_sorted hg (o.m.free 66) (by decide +kernel) (ga_cons ha ga_nil he) (by decide) (by decide) he hpl
theorem b_sortset {p2 q : Pos} (o : Okx X k) (ha : GE X a da) (hg : Gl X "sorted" := by rfl) (hg2 : Gl X "set" := by rfl) (na : starEach [a] X.env = (false, eval a X.env) :: starEach [] X.env := by rfl)
    (na2 : starEach [.Call (.Name "set" p2) [a] [] q] X.env = (false, eval (.Call (.Name "set" p2) [a] [] q) X.env) :: starEach [] X.env := by rfl)
    (hpl : (backTo q (starEach ([] : List Expr) X.env)).any (·.1) = false := by rfl) (hpl2 : (backTo pos (starEach ([] : List Expr) X.env)).any (·.1) = false := by rfl) :
    GE X (.Call (.Name "sorted" p) [.Call (.Name "set" p2) [a] [] q] [] pos) (dSortSet da) := ge_sortset o.c (by have := o.hu; omega) hg (o.m.free 66) hg2 (o.m.free 67) ha na na2 hpl hpl2
theorem b_rgL {p2 q : Pos} (o : Okx X k) (ha : GE X a da) (hg : Gl X "list" := by rfl) (hg2 : Gl X "range" := by rfl) (na : starEach [a] X.env = (false, eval a X.env) :: starEach [] X.env := by rfl)
    (na2 : starEach [.Call (.Name "range" p2) [a] [] q] X.env = (false, eval (.Call (.Name "range" p2) [a] [] q) X.env) :: starEach [] X.env := by rfl) : GE X (.Call (.Name "list" p) [.Call (.Name "range" p2) [a] [] q] [] pos) (dRgL da) :=
  ge_rgL o.c hg (o.m.free 65) hg2 (o.m.free 75) ha na na2
theorem ty_tuple (o : Okx X k) (hg : Gl X "tuple" := by rfl) : PE X (.Name "tuple" p) (tC (.ty "tuple")) := pe_bltn hg (o.m.free 63) (u := .type "tuple") (by decide +kernel) rfl
theorem ty_list (o : Okx X k) (hg : Gl X "list" := by rfl) : PE X (.Name "list" p) (tC (.ty "list")) := pe_bltn hg (o.m.free 65) (u := .type "list") (by decide +kernel) rfl
theorem ty_int (o : Okx X k) (hg : Gl X "int" := by rfl) : PE X (.Name "int" p) (tC (.ty "int")) := pe_bltn hg (o.m.free 76) (u := .type "int") (by decide +kernel) rfl
theorem ty_bool (o : Okx X k) (hg : Gl X "bool" := by rfl) : PE X (.Name "bool" p) (tC (.ty "bool")) := pe_bltn hg (o.m.free 79) (u := .type "bool") (by decide +kernel) rfl
theorem ty_str (o : Okx X k) (hg : Gl X "str" := by rfl) : PE X (.Name "str" p) (tC (.ty "str")) := pe_bltn hg (o.m.free 80) (u := .type "str") (by decide +kernel) rfl
theorem b_isi {T : String} {t : Expr} (o : Okx X k) (ha : GE X a da) (ht : PE X t (tC (.ty T))) (hT : T ∈ ["list", "tuple", "int", "bool", "str"] := by decide) (hg : Gl X "isinstance" := by rfl) (h1 : starEach [a, t] X.env = (false, eval a X.env) :: starEach [t] X.env := by rfl)
    (h2 : starEach [t] X.env = (false, eval t X.env) :: starEach [] X.env := by rfl) (hpl : (backTo pos (starEach [t] X.env)).any (·.1) = false := by rfl) : GE X (.Call (.Name "isinstance" p) [a, t] [] pos) (dIsi T da) := ge_isi hT hg (o.m.free 64) ha ht h1 h2 hpl
theorem b_isi2 {T U : String} {t u : Expr} {q : Pos} {kk : Nat} (o : Okx X k) (ha : GE X a da) (ht : PE X t (tC (.ty T))) (hu : PE X u (tC (.ty U))) (hT : T ∈ ["list", "tuple", "int", "bool", "str"] := by decide) (hU : U ∈ ["list", "tuple", "int", "bool", "str"] := by decide) (hg : Gl X "isinstance" := by rfl)
    (h1 : starEach [a, .Tuple [t, u] kk q] X.env = (false, eval a X.env) :: starEach [.Tuple [t, u] kk q] X.env := by rfl) (h2 : starEach [.Tuple [t, u] kk q] X.env = (false, eval (.Tuple [t, u] kk q) X.env) :: starEach [] X.env := by rfl)
    (h3 : starEach [t, u] X.env = (false, eval t X.env) :: starEach [u] X.env := by rfl) (h4 : starEach [u] X.env = (false, eval u X.env) :: starEach [] X.env := by rfl)
    (hpl : (backTo pos (starEach [.Tuple [t, u] kk q] X.env)).any (·.1) = false := by rfl) : GE X (.Call (.Name "isinstance" p) [a, .Tuple [t, u] kk q] [] pos) (dIsi2 T U da) := ge_isi2 hT hU hg (o.m.free 64) ha ht hu h1 h2 h3 h4 hpl
theorem c_eq (o : Okx X k) (ha : GE X a da) (hb : GE X b db) : GE X (.Compare a [.Eq] [b] pos) (dOp bEq da db) := ge_eq (by have := o.hu; omega) ha hb
theorem c_ne (o : Okx X k) (ha : GE X a da) (hb : GE X b db) : GE X (.Compare a [.NotEq] [b] pos) (dOp bNe da db) := ge_ne (by have := o.hu; omega) ha hb
theorem t_eq (o : Okx X k) (ha : GE X a da) (hb : GE X b db) : GT X (.Compare a [.Eq] [b] pos) (dOp bEq da db) := gt_eq (by have := o.hu; omega) ha hb
theorem t_ne (o : Okx X k) (ha : GE X a da) (hb : GE X b db) : GT X (.Compare a [.NotEq] [b] pos) (dOp bNe da db) := gt_ne (by have := o.hu; omega) ha hb
theorem c_inTp (o : Okx X k) (ha : GE X a da) (hb : GE X b db) (hm : behindInMarks .In b = false := by rfl) : GE X (.Compare a [.In] [b] pos) (dOp bInTp da db) := ge_inTp o.hu ha hb hm
theorem c_inD (o : Okx X k) (ha : GE X a da) (hb : GE X b db) (hm : behindInMarks .In b = false := by rfl) : GE X (.Compare a [.In] [b] pos) (dOp bInD da db) := gt_inD (by have := o.hu; omega) ha hb hm
theorem e_ixD (o : Okx X k) (ha : GE X a da) (hb : GE X b db) (hs : NoSl b := by exact fun _ _ => rfl) : GE X (.Subscript a b pos) (dOp bIxD da db) := ge_ixD (by have := o.hu; omega) ha hb hs
theorem e_get1 {ap : Pos} (o : Okx X k) (ha : GE X a da) (hb : GE X b db) (m : M1 X a "get" ap b pos := by exact ⟨rfl, rfl, rfl, rfl⟩) : GE X (.Call (.Attribute a "get" ap) [b] [] pos) (dGet1 da db) := ge_get1 (by have := o.hu; omega) ha hb m
theorem e_get2 {c : Expr} {dc : DE} {ap : Pos} (o : Okx X k) (ha : GE X a da) (hb : GE X b db) (hc : GE X c dc) (m : M2 X a "get" ap b c pos := by exact ⟨rfl, rfl, rfl, rfl⟩) : GE X (.Call (.Attribute a "get" ap) [b, c] [] pos) (dGet2 da db dc) := ge_get2 (by have := o.hu; omega) ha hb hc m
theorem g_int {x : Str} {i : Int} (h : ∃ t, X.mg x = some (.int i t)) (hg : Gl X x := by rfl) (hd : (x == ("__debug__" : Str)) = false := by decide) : GE X (.Name x p) (dC (.int i)) := ge_gint hg h hd
/-- walks -/
theorem i_enum {ts : List Expr} {kk : Nat} {tp : Pos} (o : Okx X k) (ha : GE X a da) (hg : Gl X "enumerate" := by rfl) (hs : starEach [a] X.env = [(false, eval a X.env)] := by rfl) : GI X (.Tuple ts kk tp) (.Call (.Name "enumerate" p) [a] [] pos) (iEnumD da) := gi_enum hg (o.m.free 73) ha hs
theorem i_zip {ts : List Expr} {kk : Nat} {tp : Pos} (o : Okx X k) (ha : GE X a da) (hb : GE X b db) (hg : Gl X "zip" := by rfl) (hs : starEach [a, b] X.env = (false, eval a X.env) :: starEach [b] X.env := by rfl) (hs2 : starEach [b] X.env = (false, eval b X.env) :: starEach [] X.env := by rfl)
    (hpl : (backTo pos (starEach [b] X.env)).any (·.1) = false := by rfl) : GI X (.Tuple ts kk tp) (.Call (.Name "zip" p) [a, b] [] pos) (iZipD da db) := gi_zip hg (o.m.free 78) ha hb hs hs2 hpl
theorem i_range {tg : Expr} (o : Okx X k) (ha : GE X a da) (hg : Gl X "range" := by rfl) (hs : starEach [a] X.env = [(false, eval a X.env)] := by rfl) : GI X tg (.Call (.Name "range" p) [a] [] pos) (iRange (dCons da dNil)) := gi_range hg (o.m.free 75) (ga_cons ha ga_nil hs) hs
end
end SK
namespace SK
open PySem PySem.Spec PyProof.Rows L2
abbrev bLt : PyData → PyData → Option PyData := bI fun i j => .bool (decide (i < j))
abbrev bLe : PyData → PyData → Option PyData := bI fun i j => .bool (decide (i ≤ j))
abbrev bGt : PyData → PyData → Option PyData := bI fun i j => .bool (decide (j < i))
abbrev bGe : PyData → PyData → Option PyData := bI fun i j => .bool (decide (j ≤ i))
abbrev bSub : PyData → PyData → Option PyData := bI fun i j => .int (i - j)
theorem rel_lt : Rel2 (rI0 fun i j => .bl (decide (i < j))) bLt := rel_I0 fun _ _ _ => .bl _
theorem rel_le : Rel2 (rI0 fun i j => .bl (decide (i ≤ j))) bLe := rel_I0 fun _ _ _ => .bl _
def dCall0 (m : List PyData → Option PyData) : DE := fun _ => m []
theorem Okx.blk {X : Cx} {k : Nat} (o : Okx X k) {s : Shared} {H : Hp} {scope : Scope} {env : Env} {fp : List Addr} : Okx (X.blk s H scope env fp) k := ⟨o.m, o.r, o.c⟩
end SK
set_option maxHeartbeats 4000000
namespace SK
open PySem PySem.Spec PyProof.Rows L2
section
variable {P : Program} {w : World} {K : PySem.W.Frag} {mg : Str → Option Value} {base : Heap}
theorem sc_tupled : FnScope ["value", "own"] ["value"] (defScope (top 8)) := ⟨rfl, rfl, rfl, by decide +kernel, rfl, by decide +kernel, by decide +kernel⟩
noncomputable def s_tupled (r : List PyData → Option PyData) : DS := dRet (dIf (dIsi2 "list" "tuple" (dVar 0)) (d1 mTuple (dLc [1] (iSeq (dVar 0)) (bName 1) dYes (dCall 1 r (dCons (dVar 1) dNil)))) (dVar 0))
noncomputable def mR_tupled : Nat → List PyData → Option PyData
  | 0 => fun _ => none
  | D + 1 => mOf 2 1 (s_tupled (mR_tupled D))
theorem okR_tupled (M : Md K mg) : ∀ D : Nat, CalD P w K mg base (D + 1) "tupled" ["value"] (spD 1 (mR_tupled D))
  | 0 => CalD.of (k := 0) (N := ["value", "own"]) M 0 sc_tupled (fun vs H Q E ⟨_, _, _, _, _, _, h, _⟩ => h) (fun _ _ _ _ _ _ us hl => match us, hl with | [_], _ => rfl) fun f cdv A outer s0 H vs Q E hr ⟨_, _, _, _, _, e, _, _⟩ => nomatch e
  | D + 1 => by
    have C : CalD P w K mg base (D + 1) "tupled" ["value"] (spD 1 (mR_tupled D)) := okR_tupled M D
    refine CalD.data (k := D + 1) (N := ["value", "own"]) M 0 sc_tupled (fun _ _ _ _ _ _ us hl => match us, hl with | [_], _ => rfl) fun f cdv A outer s0 H E hr => ?_
    have o : Okx (cxD P w K mg base ["value", "own"] "tupled" (defScope (top 8)) f cdv A outer s0 H E) (D + 1) := ⟨M, hr, rfl⟩
    have nd := sc_tupled.nd
    exact gb_one (gs_ret (ge_ifExp (gt_val (b_isi2 o (ge_var 0 (pv 0)) (ty_list o) (ty_tuple o))) (b_tuple o (ge_lc (own := [("own", 1)]) rfl nd (gi_seq (ge_var 0 (pv 0))) (blkOk_by (by kernel_rfl)) (fun _ _ _ _ _ => gg_name (i := 1) (pg_name nd rfl (Or.inl rfl))) (fun _ _ _ _ _ => gts_nil) (fun _ _ _ _ _ => ge_cal (C) o.blk.r (Nat.le_refl _) (ga_cons (ge_var 1 (pv 1)) ga_nil)))) (ge_var 0 (pv 0))))
noncomputable def m_tupled : List PyData → Option PyData := mR_tupled 10
theorem ok_tupled (M : Md K mg) : CalD P w K mg base 11 "tupled" ["value"] (spD 1 m_tupled) := okR_tupled M 10
theorem sc_set_of : FnScope ["row"] ["row"] (defScope (top 9)) := ⟨rfl, rfl, rfl, by decide +kernel, rfl, by decide +kernel, by decide +kernel⟩
noncomputable def s_set_of : DS := dRet (d1 mTuple (dSortSet (dVar 0)))
noncomputable def m_set_of : List PyData → Option PyData := mOf 1 1 s_set_of
theorem ok_set_of (M : Md K mg) : CalD P w K mg base 1 "set_of" ["row"] (spD 1 m_set_of) := by
  refine CalD.data (k := 0) (N := ["row"]) M 1 sc_set_of (fun _ _ _ _ _ _ us hl => match us, hl with | [_], _ => rfl) fun f cdv A outer s0 H E hr => ?_
  have o : Okx (cxD P w K mg base ["row"] "set_of" (defScope (top 9)) f cdv A outer s0 H E) 0 := ⟨M, hr, rfl⟩
  have nd := sc_set_of.nd
  exact gb_one (gs_ret (b_tuple o (b_sortset o (ge_var 0 (pv 0)))))
theorem sc_earlier : FnScope ["one", "other"] ["one", "other"] (defScope (top 10)) := ⟨rfl, rfl, rfl, by decide +kernel, rfl, by decide +kernel, by decide +kernel⟩
noncomputable def s_earlier : DS := dSeq (dIfS (dOr (dOp bIsN (dVar 0) (dC .none)) (dOp bIsN (dVar 1) (dC .none))) (dRet (dIf (dOp bIsN (dVar 1) (dC .none)) (dVar 0) (dVar 1))) dNext) (dRet (d2 mMin (dVar 0) (dVar 1)))
noncomputable def m_earlier : List PyData → Option PyData := mOf 2 2 s_earlier
theorem ok_earlier (M : Md K mg) : CalD P w K mg base 1 "earlier" ["one", "other"] (spD 2 m_earlier) := by
  refine CalD.data (k := 0) (N := ["one", "other"]) M 2 sc_earlier (fun _ _ _ _ _ _ us hl => match us, hl with | [_, _], _ => rfl) fun f cdv A outer s0 H E hr => ?_
  have o : Okx (cxD P w K mg base ["one", "other"] "earlier" (defScope (top 10)) f cdv A outer s0 H E) 0 := ⟨M, hr, rfl⟩
  have nd := sc_earlier.nd
  exact gb_cons (gs_if (gt_w (gw_or (gt_isN (ge_var 0 (pv 0)) ge_non) (gw_or1 (gt_isN (ge_var 1 (pv 1)) ge_non)))) (gb_one (gs_ret (ge_ifExp (gt_isN (ge_var 1 (pv 1)) ge_non) (ge_var 0 (pv 0)) (ge_var 1 (pv 1))))) gb_nil) (gb_one (gs_ret (b_min2 o (ge_var 0 (pv 0)) (ge_var 1 (pv 1)))))
theorem sc_later : FnScope ["one", "other"] ["one", "other"] (defScope (top 11)) := ⟨rfl, rfl, rfl, by decide +kernel, rfl, by decide +kernel, by decide +kernel⟩
noncomputable def s_later : DS := dRet (dIf (dOr (dOp bIsN (dVar 0) (dC .none)) (dOp bIsN (dVar 1) (dC .none))) (dC .none) (d2 mMax (dVar 0) (dVar 1)))
noncomputable def m_later : List PyData → Option PyData := mOf 2 2 s_later
theorem ok_later (M : Md K mg) : CalD P w K mg base 1 "later" ["one", "other"] (spD 2 m_later) := by
  refine CalD.data (k := 0) (N := ["one", "other"]) M 3 sc_later (fun _ _ _ _ _ _ us hl => match us, hl with | [_, _], _ => rfl) fun f cdv A outer s0 H E hr => ?_
  have o : Okx (cxD P w K mg base ["one", "other"] "later" (defScope (top 11)) f cdv A outer s0 H E) 0 := ⟨M, hr, rfl⟩
  have nd := sc_later.nd
  exact gb_one (gs_ret (ge_ifExp (gt_w (gw_or (gt_isN (ge_var 0 (pv 0)) ge_non) (gw_or1 (gt_isN (ge_var 1 (pv 1)) ge_non)))) ge_non (b_max2 o (ge_var 0 (pv 0)) (ge_var 1 (pv 1)))))
theorem sc_added : FnScope ["tick", "plus"] ["tick", "plus"] (defScope (top 12)) := ⟨rfl, rfl, rfl, by decide +kernel, rfl, by decide +kernel, by decide +kernel⟩
noncomputable def s_added : DS := dRet (dIf (dOp bIsN (dVar 0) (dC .none)) (dC .none) (dOp bPlus (dVar 0) (dVar 1)))
noncomputable def m_added : List PyData → Option PyData := mOf 2 2 s_added
theorem ok_added (M : Md K mg) : CalD P w K mg base 1 "added" ["tick", "plus"] (spD 2 m_added) := by
  refine CalD.data (k := 0) (N := ["tick", "plus"]) M 4 sc_added (fun _ _ _ _ _ _ us hl => match us, hl with | [_, _], _ => rfl) fun f cdv A outer s0 H E hr => ?_
  have o : Okx (cxD P w K mg base ["tick", "plus"] "added" (defScope (top 12)) f cdv A outer s0 H E) 0 := ⟨M, hr, rfl⟩
  have nd := sc_added.nd
  exact gb_one (gs_ret (ge_ifExp (gt_isN (ge_var 0 (pv 0)) ge_non) ge_non (ge_plus (ge_var 0 (pv 0)) (ge_var 1 (pv 1)))))
theorem sc_row_at : FnScope ["row", "ticks", "found", "spot", "plus"] ["row", "ticks"] (defScope (top 15)) := ⟨rfl, rfl, rfl, by decide +kernel, rfl, by decide +kernel, by decide +kernel⟩
noncomputable def s_row_at : DS := dSeq (dAsg (dC (.int 0)) (bName 2)) (dSeq (dFor (iSeq (dVar 0)) (bTup [bName 3, bName 4]) (dAsg (dCall 2 m_later (dCons (dVar 2) (dCons (dCall 2 m_added (dCons (dGet2 (dVar 1) (dVar 3) (dC .none)) (dCons (dVar 4) dNil))) dNil))) (bName 2))) (dRet (dVar 2)))
noncomputable def m_row_at : List PyData → Option PyData := mOf 5 2 s_row_at
theorem ok_row_at (M : Md K mg) : CalD P w K mg base 2 "row_at" ["row", "ticks"] (spD 2 m_row_at) := by
  refine CalD.data (k := 1) (N := ["row", "ticks", "found", "spot", "plus"]) M 5 sc_row_at (fun _ _ _ _ _ _ us hl => match us, hl with | [_, _], _ => rfl) fun f cdv A outer s0 H E hr => ?_
  have o : Okx (cxD P w K mg base ["row", "ticks", "found", "spot", "plus"] "row_at" (defScope (top 15)) f cdv A outer s0 H E) 1 := ⟨M, hr, rfl⟩
  have nd := sc_row_at.nd
  exact gb_cons (gs_set (ps_set (i := 2) nd rfl (Or.inl rfl) ge_int.pe)) (gb_cons (gs_for PassesOwn.never rfl (gi_seq (ge_var 0 (pv 0))) (gg_tup rfl (ggs_cons (gg_name (i := 3) (pg_name nd rfl (Or.inl rfl))) (ggs_cons (gg_name (i := 4) (pg_name nd rfl (Or.inl rfl))) ggs_nil))) (gb_one (gs_set (ps_set (i := 2) nd rfl (Or.inl rfl) (ge_cal (ok_later M) o.r (by decide) (ga_cons (ge_var 2 (pv 2)) (ga_cons (ge_cal (ok_added M) o.r (by decide) (ga_cons (e_get2 o (ge_var 1 (pv 1)) (ge_var 3 (pv 3)) ge_non) (ga_cons (ge_var 4 (pv 4)) ga_nil))) ga_nil))).pe)))) (gb_one (gs_ret (ge_var 2 (pv 2)))))
theorem sc_value_at : FnScope ["form", "ticks", "found", "row"] ["form", "ticks"] (defScope (top 16)) := ⟨rfl, rfl, rfl, by decide +kernel, rfl, by decide +kernel, by decide +kernel⟩
noncomputable def s_value_at : DS := dSeq (dAsg (dC .none) (bName 2)) (dSeq (dFor (iSeq (dVar 0)) (bName 3) (dAsg (dCall 2 m_earlier (dCons (dVar 2) (dCons (dCall 2 m_row_at (dCons (dVar 3) (dCons (dVar 1) dNil))) dNil))) (bName 2))) (dRet (dVar 2)))
noncomputable def m_value_at : List PyData → Option PyData := mOf 4 2 s_value_at
theorem ok_value_at (M : Md K mg) : CalD P w K mg base 3 "value_at" ["form", "ticks"] (spD 2 m_value_at) := by
  refine CalD.data (k := 2) (N := ["form", "ticks", "found", "row"]) M 6 sc_value_at (fun _ _ _ _ _ _ us hl => match us, hl with | [_, _], _ => rfl) fun f cdv A outer s0 H E hr => ?_
  have o : Okx (cxD P w K mg base ["form", "ticks", "found", "row"] "value_at" (defScope (top 16)) f cdv A outer s0 H E) 2 := ⟨M, hr, rfl⟩
  have nd := sc_value_at.nd
  exact gb_cons (gs_set (ps_set (i := 2) nd rfl (Or.inl rfl) ge_non.pe)) (gb_cons (gs_for PassesOwn.never rfl (gi_seq (ge_var 0 (pv 0))) (gg_name (i := 3) (pg_name nd rfl (Or.inl rfl))) (gb_one (gs_set (ps_set (i := 2) nd rfl (Or.inl rfl) (ge_cal (ok_earlier M) o.r (by decide) (ga_cons (ge_var 2 (pv 2)) (ga_cons (ge_cal (ok_row_at M) o.r (by decide) (ga_cons (ge_var 3 (pv 3)) (ga_cons (ge_var 1 (pv 1)) ga_nil))) ga_nil))).pe)))) (gb_one (gs_ret (ge_var 2 (pv 2)))))
theorem sc_is_over : FnScope ["row", "other", "plus", "spot", "number"] ["row", "other"] (defScope (top 17)) := ⟨rfl, rfl, rfl, by decide +kernel, rfl, by decide +kernel, by decide +kernel⟩
noncomputable def s_is_over : DS := dSeq (dAsg (d1 mDict (dVar 0)) (bName 2)) (dRet (d1 mAll (dLc [3, 4] (iSeq (dVar 1)) (bTup [bName 3, bName 4]) dYes (dAnd (dOp bInD (dVar 3) (dVar 2)) (dOp bGe (dOp bIxD (dVar 2) (dVar 3)) (dVar 4))))))
noncomputable def m_is_over : List PyData → Option PyData := mOf 5 2 s_is_over
theorem ok_is_over (M : Md K mg) : CalD P w K mg base 1 "is_over" ["row", "other"] (spD 2 m_is_over) := by
  refine CalD.data (k := 0) (N := ["row", "other", "plus", "spot", "number"]) M 7 sc_is_over (fun _ _ _ _ _ _ us hl => match us, hl with | [_, _], _ => rfl) fun f cdv A outer s0 H E hr => ?_
  have o : Okx (cxD P w K mg base ["row", "other", "plus", "spot", "number"] "is_over" (defScope (top 17)) f cdv A outer s0 H E) 0 := ⟨M, hr, rfl⟩
  have nd := sc_is_over.nd
  exact gb_cons (gs_set (ps_set (i := 2) nd rfl (Or.inr rfl) (b_dict o (ge_var 0 (pv 0))).pe)) (gb_one (gs_ret (b_all o (ge_lc (own := [("spot", 3), ("number", 4)]) rfl nd (gi_seq (ge_var 1 (pv 1))) (blkOk_by (by kernel_rfl)) (fun _ _ _ _ _ => gg_tup rfl (ggs_cons (gg_name (i := 3) (pg_name nd rfl (Or.inl rfl))) (ggs_cons (gg_name (i := 4) (pg_name nd rfl (Or.inl rfl))) ggs_nil))) (fun _ _ _ _ _ => gts_nil) (fun _ _ _ _ _ => ge_and (c_inD o.blk (ge_var 3 (pv 3)) (ge_var 2 (pv 2))) (ge_one (ge_ge (e_ixD o.blk (ge_var 2 (pv 2)) (ge_var 3 (pv 3))) (ge_var 4 (pv 4)))))))))
theorem sc_least_of : FnScope ["rows", "own", "row", "other"] ["rows"] (defScope (top 18)) := ⟨rfl, rfl, rfl, by decide +kernel, rfl, by decide +kernel, by decide +kernel⟩
noncomputable def s_least_of : DS := dSeq (dAsg (dCall 1 m_set_of (dCons (dVar 0) dNil)) (bName 1)) (dRet (d1 mTuple (dLc [2] (iSeq (dVar 1)) (bName 2) (dNot (d1 mAny (dLc [3] (iSeq (dVar 1)) (bName 3) dYes (dAnd (dOp bNe (dVar 2) (dVar 3)) (dCall 2 m_is_over (dCons (dVar 2) (dCons (dVar 3) dNil))))))) (dVar 2))))
noncomputable def m_least_of : List PyData → Option PyData := mOf 4 1 s_least_of
theorem ok_least_of (M : Md K mg) : CalD P w K mg base 2 "least_of" ["rows"] (spD 1 m_least_of) := by
  refine CalD.data (k := 1) (N := ["rows", "own", "row", "other"]) M 8 sc_least_of (fun _ _ _ _ _ _ us hl => match us, hl with | [_], _ => rfl) fun f cdv A outer s0 H E hr => ?_
  have o : Okx (cxD P w K mg base ["rows", "own", "row", "other"] "least_of" (defScope (top 18)) f cdv A outer s0 H E) 1 := ⟨M, hr, rfl⟩
  have nd := sc_least_of.nd
  exact gb_cons (gs_set (ps_set (i := 1) nd rfl (Or.inr rfl) (ge_cal (ok_set_of M) o.r (by decide) (ga_cons (ge_var 0 (pv 0)) ga_nil)).pe)) (gb_one (gs_ret (b_tuple o (ge_lc (own := [("row", 2)]) rfl nd (gi_seq (ge_var 1 (pv 1))) (blkOk_by (by kernel_rfl)) (fun _ _ _ _ _ => gg_name (i := 2) (pg_name nd rfl (Or.inr rfl))) (fun _ _ _ _ _ => gts_one (gt_not (gt_val (b_any o.blk (ge_lc (own := [("other", 3)]) rfl nd (gi_seq (ge_var 1 (pv 1))) (blkOk_by (by kernel_rfl)) (fun _ _ _ _ _ => gg_name (i := 3) (pg_name nd rfl (Or.inl rfl))) (fun _ _ _ _ _ => gts_nil) (fun _ _ _ _ _ => ge_and (c_ne o.blk.blk (ge_var 2 (pv 2)) (ge_var 3 (pv 3))) (ge_one (ge_cal (ok_is_over M) o.blk.blk.r (by decide) (ga_cons (ge_var 2 (pv 2)) (ga_cons (ge_var 3 (pv 3)) ga_nil)))))))))) (fun _ _ _ _ _ => ge_var 2 (pv 2))))))
theorem sc_knock_form : FnScope ["spots", "number", "own", "spot", "place", "one", "other"] ["spots", "number"] (defScope (top 19)) := ⟨rfl, rfl, rfl, by decide +kernel, rfl, by decide +kernel, by decide +kernel⟩
noncomputable def s_knock_form : DS := dSeq (dAsg (dCall 1 m_tupled (dCons (dVar 0) dNil)) (bName 2)) (dSeq (dIfS (dOp bEq (dVar 1) (dC (.int 1))) (dRet (d1 mTuple (dLc [3] (iSeq (dVar 2)) (bName 3) dYes (dTup (dCons (dTup (dCons (dVar 3) (dCons (dC (.int 0)) dNil))) dNil))))) dNext) (dRet (dCall 1 m_set_of (dCons (dLc2 [4, 5, 6] (iEnumD (dVar 2)) (bTup [bName 4, bName 5]) dYes (iSeq (dSl (dVar 2) (oSome (dOp bPlus (dVar 4) (dC (.int 1)))) oNone)) [6] (bName 6) dYes (dTup (dCons (dTup (dCons (dVar 5) (dCons (dC (.int 0)) dNil))) (dCons (dTup (dCons (dVar 6) (dCons (dC (.int 0)) dNil))) dNil)))) dNil))))
noncomputable def m_knock_form : List PyData → Option PyData := mOf 7 2 s_knock_form
theorem ok_knock_form (M : Md K mg) : CalD P w K mg base 12 "knock_form" ["spots", "number"] (spD 2 m_knock_form) := by
  refine CalD.data (k := 11) (N := ["spots", "number", "own", "spot", "place", "one", "other"]) M 9 sc_knock_form (fun _ _ _ _ _ _ us hl => match us, hl with | [_, _], _ => rfl) fun f cdv A outer s0 H E hr => ?_
  have o : Okx (cxD P w K mg base ["spots", "number", "own", "spot", "place", "one", "other"] "knock_form" (defScope (top 19)) f cdv A outer s0 H E) 11 := ⟨M, hr, rfl⟩
  have nd := sc_knock_form.nd
  exact gb_cons (gs_set (ps_set (i := 2) nd rfl (Or.inr rfl) (ge_cal (ok_tupled M) o.r (by decide) (ga_cons (ge_var 0 (pv 0)) ga_nil)).pe)) (gb_cons (gs_if (t_eq o (ge_var 1 (pv 1)) ge_int) (gb_one (gs_ret (b_tuple o (ge_lc (own := [("spot", 3)]) rfl nd (gi_seq (ge_var 2 (pv 2))) (blkOk_by (by kernel_rfl)) (fun _ _ _ _ _ => gg_name (i := 3) (pg_name nd rfl (Or.inl rfl))) (fun _ _ _ _ _ => gts_nil) (fun _ _ _ _ _ => ge_tup (ga_cons (ge_tup (ga_cons (ge_var 3 (pv 3)) (ga_cons ge_int ga_nil))) ga_nil)))))) gb_nil) (gb_one (gs_ret (ge_cal (ok_set_of M) o.r (by decide) (ga_cons (ge_lc2 (own := [("place", 4), ("one", 5), ("other", 6)]) (vs1 := [6]) rfl nd (i_enum o (ge_var 2 (pv 2))) (blkOk_by (by kernel_rfl)) (by decide) (fun _ _ _ _ _ => gg_tup rfl (ggs_cons (gg_name (i := 4) (pg_name nd rfl (Or.inl rfl))) (ggs_cons (gg_name (i := 5) (pg_name nd rfl (Or.inl rfl))) ggs_nil))) (fun _ _ _ _ _ => gts_nil) (fun _ _ _ _ _ => gi_seq (ge_sl (ge_var 2 (pv 2)) (go_some (ge_plus (ge_var 4 (pv 4)) ge_int)) go_none)) (fun _ _ _ _ _ => gg_name (i := 6) (pg_name nd rfl (Or.inl rfl))) (fun _ _ _ _ _ => gts_nil) (fun _ _ _ _ _ => ge_tup (ga_cons (ge_tup (ga_cons (ge_var 5 (pv 5)) (ga_cons ge_int ga_nil))) (ga_cons (ge_tup (ga_cons (ge_var 6 (pv 6)) (ga_cons ge_int ga_nil))) ga_nil)))) ga_nil)))))
theorem sc_after : FnScope ["form", "plus", "row", "spot", "number"] ["form", "plus"] (defScope (top 20)) := ⟨rfl, rfl, rfl, by decide +kernel, rfl, by decide +kernel, by decide +kernel⟩
noncomputable def s_after : DS := dRet (d1 mTuple (dLc [2] (iSeq (dCall 1 m_tupled (dCons (dVar 0) dNil))) (bName 2) dYes (d1 mTuple (dLc [3, 4] (iSeq (dVar 2)) (bTup [bName 3, bName 4]) dYes (dTup (dCons (dVar 3) (dCons (dOp bPlus (dVar 4) (dVar 1)) dNil)))))))
noncomputable def m_after : List PyData → Option PyData := mOf 5 2 s_after
theorem ok_after (M : Md K mg) : CalD P w K mg base 12 "after" ["form", "plus"] (spD 2 m_after) := by
  refine CalD.data (k := 11) (N := ["form", "plus", "row", "spot", "number"]) M 10 sc_after (fun _ _ _ _ _ _ us hl => match us, hl with | [_, _], _ => rfl) fun f cdv A outer s0 H E hr => ?_
  have o : Okx (cxD P w K mg base ["form", "plus", "row", "spot", "number"] "after" (defScope (top 20)) f cdv A outer s0 H E) 11 := ⟨M, hr, rfl⟩
  have nd := sc_after.nd
  exact gb_one (gs_ret (b_tuple o (ge_lc (own := [("row", 2)]) rfl nd (gi_seq (ge_cal (ok_tupled M) o.r (by decide) (ga_cons (ge_var 0 (pv 0)) ga_nil))) (blkOk_by (by kernel_rfl)) (fun _ _ _ _ _ => gg_name (i := 2) (pg_name nd rfl (Or.inl rfl))) (fun _ _ _ _ _ => gts_nil) (fun _ _ _ _ _ => b_tuple o.blk (ge_lc (own := [("spot", 3), ("number", 4)]) rfl nd (gi_seq (ge_var 2 (pv 2))) (blkOk_by (by kernel_rfl)) (fun _ _ _ _ _ => gg_tup rfl (ggs_cons (gg_name (i := 3) (pg_name nd rfl (Or.inl rfl))) (ggs_cons (gg_name (i := 4) (pg_name nd rfl (Or.inl rfl))) ggs_nil))) (fun _ _ _ _ _ => gts_nil) (fun _ _ _ _ _ => ge_tup (ga_cons (ge_var 3 (pv 3)) (ga_cons (ge_plus (ge_var 4 (pv 4)) (ge_var 1 (pv 1))) ga_nil))))))))
end
end SK
set_option maxHeartbeats 4000000
namespace SK
open PySem PySem.Spec PyProof.Rows L2
section
variable {P : Program} {w : World} {K : PySem.W.Frag} {mg : Str → Option Value} {base : Heap}
theorem sc_either : FnScope ["form", "other", "one", "two"] ["form", "other"] (defScope (top 22)) := ⟨rfl, rfl, rfl, by decide +kernel, rfl, by decide +kernel, by decide +kernel⟩
noncomputable def s_either : DS := dSeq (dPar 2 3 (dCons (dCall 1 m_tupled (dCons (dVar 0) dNil)) (dCons (dCall 1 m_tupled (dCons (dVar 1) dNil)) dNil))) (dSeq (dIfS (dOp bGt (dOp bPlus (d1 mLen (dVar 2)) (d1 mLen (dVar 3))) (dC (.int 400))) dNever dNext) (dRet (dCall 1 m_least_of (dCons (dOp bPlus (dVar 2) (dVar 3)) dNil))))
noncomputable def m_either : List PyData → Option PyData := mOf 4 2 s_either
theorem ok_either (M : Md K mg) : CalD P w K mg base 12 "either" ["form", "other"] (spD 2 m_either) := by
  refine CalD.data (k := 11) (N := ["form", "other", "one", "two"]) M 12 sc_either (fun _ _ _ _ _ _ us hl => match us, hl with | [_, _], _ => rfl) fun f cdv A outer s0 H E hr => ?_
  have o : Okx (cxD P w K mg base ["form", "other", "one", "two"] "either" (defScope (top 22)) f cdv A outer s0 H E) 11 := ⟨M, hr, rfl⟩
  have nd := sc_either.nd
  exact gb_cons (gs_par (i := 2) (j := 3) rfl nd rfl rfl (by decide) rfl rfl (ga_cons (ge_cal (ok_tupled M) o.r (by decide) (ga_cons (ge_var 0 (pv 0)) ga_nil)) (ga_cons (ge_cal (ok_tupled M) o.r (by decide) (ga_cons (ge_var 1 (pv 1)) ga_nil)) ga_nil)) rfl) (gb_cons (gs_if (gt_gt (ge_plus (b_len o (ge_var 2 (pv 2))) (b_len o (ge_var 3 (pv 3)))) (g_int (o.m.int 81))) (gb_one gs_never) gb_nil) (gb_one (gs_ret (ge_cal (ok_least_of M) o.r (by decide) (ga_cons (ge_plus (ge_var 2 (pv 2)) (ge_var 3 (pv 3))) ga_nil)))))
theorem sc_without : FnScope ["form", "spots", "lost", "row", "spot", "_"] ["form", "spots"] (defScope (top 24)) := ⟨rfl, rfl, rfl, by decide +kernel, rfl, by decide +kernel, by decide +kernel⟩
noncomputable def s_without : DS := dSeq (dAsg (dCall 1 m_tupled (dCons (dVar 1) dNil)) (bName 2)) (dRet (d1 mTuple (dLc [3] (iSeq (dCall 1 m_tupled (dCons (dVar 0) dNil))) (bName 3) (dNot (d1 mAny (dLc [4, 5] (iSeq (dVar 3)) (bTup [bName 4, bName 5]) dYes (dOp bInTp (dVar 4) (dVar 2))))) (dVar 3))))
noncomputable def m_without : List PyData → Option PyData := mOf 6 2 s_without
theorem ok_without (M : Md K mg) : CalD P w K mg base 12 "without" ["form", "spots"] (spD 2 m_without) := by
  refine CalD.data (k := 11) (N := ["form", "spots", "lost", "row", "spot", "_"]) M 14 sc_without (fun _ _ _ _ _ _ us hl => match us, hl with | [_, _], _ => rfl) fun f cdv A outer s0 H E hr => ?_
  have o : Okx (cxD P w K mg base ["form", "spots", "lost", "row", "spot", "_"] "without" (defScope (top 24)) f cdv A outer s0 H E) 11 := ⟨M, hr, rfl⟩
  have nd := sc_without.nd
  exact gb_cons (gs_set (ps_set (i := 2) nd rfl (Or.inr rfl) (ge_cal (ok_tupled M) o.r (by decide) (ga_cons (ge_var 1 (pv 1)) ga_nil)).pe)) (gb_one (gs_ret (b_tuple o (ge_lc (own := [("row", 3)]) rfl nd (gi_seq (ge_cal (ok_tupled M) o.r (by decide) (ga_cons (ge_var 0 (pv 0)) ga_nil))) (blkOk_by (by kernel_rfl)) (fun _ _ _ _ _ => gg_name (i := 3) (pg_name nd rfl (Or.inl rfl))) (fun _ _ _ _ _ => gts_one (gt_not (gt_val (b_any o.blk (ge_lc (own := [("spot", 4), ("_", 5)]) rfl nd (gi_seq (ge_var 3 (pv 3))) (blkOk_by (by kernel_rfl)) (fun _ _ _ _ _ => gg_tup rfl (ggs_cons (gg_name (i := 4) (pg_name nd rfl (Or.inl rfl))) (ggs_cons (gg_name (i := 5) (pg_name nd rfl (Or.inl rfl))) ggs_nil))) (fun _ _ _ _ _ => gts_nil) (fun _ _ _ _ _ => c_inTp o.blk.blk (ge_var 4 (pv 4)) (ge_var 2 (pv 2)))))))) (fun _ _ _ _ _ => ge_var 3 (pv 3))))))
theorem sc_begins_of : FnScope ["row", "most", "_", "plus", "spot"] ["row"] (defScope (top 25)) := ⟨rfl, rfl, rfl, by decide +kernel, rfl, by decide +kernel, by decide +kernel⟩
noncomputable def s_begins_of : DS := dSeq (dAsg (d1 mMax (dLc [2, 3] (iSeq (dVar 0)) (bTup [bName 2, bName 3]) dYes (dVar 3))) (bName 1)) (dRet (d1 mTuple (dLc [4, 3] (iSeq (dVar 0)) (bTup [bName 4, bName 3]) dYes (dTup (dCons (dVar 4) (dCons (dOp bSub (dVar 1) (dVar 3)) dNil))))))
noncomputable def m_begins_of : List PyData → Option PyData := mOf 5 1 s_begins_of
theorem ok_begins_of (M : Md K mg) : CalD P w K mg base 1 "begins_of" ["row"] (spD 1 m_begins_of) := by
  refine CalD.data (k := 0) (N := ["row", "most", "_", "plus", "spot"]) M 15 sc_begins_of (fun _ _ _ _ _ _ us hl => match us, hl with | [_], _ => rfl) fun f cdv A outer s0 H E hr => ?_
  have o : Okx (cxD P w K mg base ["row", "most", "_", "plus", "spot"] "begins_of" (defScope (top 25)) f cdv A outer s0 H E) 0 := ⟨M, hr, rfl⟩
  have nd := sc_begins_of.nd
  exact gb_cons (gs_set (ps_set (i := 1) nd rfl (Or.inr rfl) (b_max1 o (ge_lc (own := [("_", 2), ("plus", 3)]) rfl nd (gi_seq (ge_var 0 (pv 0))) (blkOk_by (by kernel_rfl)) (fun _ _ _ _ _ => gg_tup rfl (ggs_cons (gg_name (i := 2) (pg_name nd rfl (Or.inl rfl))) (ggs_cons (gg_name (i := 3) (pg_name nd rfl (Or.inl rfl))) ggs_nil))) (fun _ _ _ _ _ => gts_nil) (fun _ _ _ _ _ => ge_var 3 (pv 3)))).pe)) (gb_one (gs_ret (b_tuple o (ge_lc (own := [("spot", 4), ("plus", 3)]) rfl nd (gi_seq (ge_var 0 (pv 0))) (blkOk_by (by kernel_rfl)) (fun _ _ _ _ _ => gg_tup rfl (ggs_cons (gg_name (i := 4) (pg_name nd rfl (Or.inl rfl))) (ggs_cons (gg_name (i := 3) (pg_name nd rfl (Or.inl rfl))) ggs_nil))) (fun _ _ _ _ _ => gts_nil) (fun _ _ _ _ _ => ge_tup (ga_cons (ge_var 4 (pv 4)) (ga_cons (ge_sub (ge_var 1 (pv 1)) (ge_var 3 (pv 3))) ga_nil)))))))
theorem sc_late_by : FnScope ["form", "other", "own", "found", "row", "begins", "ticks", "value", "more"] ["form", "other"] (defScope (top 26)) := ⟨rfl, rfl, rfl, by decide +kernel, rfl, by decide +kernel, by decide +kernel⟩
noncomputable def s_late_by : DS := dSeq (dPar 2 3 (dCons (dCall 1 m_tupled (dCons (dVar 0) dNil)) (dCons (dC .none) dNil))) (dSeq (dIfS (dOp bEq (d1 mLen (dVar 1)) (dC (.int 0))) dNever dNext) (dSeq (dFor (iSeq (dCall 1 m_tupled (dCons (dVar 1) dNil))) (bName 4) (dSeq (dAsg (dCall 1 m_begins_of (dCons (dVar 4) dNil)) (bName 5)) (dSeq (dAsg (d1 mDict (dVar 5)) (bName 6)) (dSeq (dAsg (dCall 2 m_value_at (dCons (dVar 2) (dCons (dVar 6) dNil))) (bName 7)) (dSeq (dIfS (dOp bIsN (dVar 7) (dC .none)) (dRet (dC .none)) dNext) (dSeq (dAsg (dOp bSub (dVar 7) (dCall 2 m_row_at (dCons (dVar 4) (dCons (dVar 6) dNil)))) (bName 8)) (dAsg (dIf (dOp bIsN (dVar 3) (dC .none)) (dVar 8) (d2 mMax (dVar 3) (dVar 8))) (bName 3)))))))) (dRet (dVar 3))))
noncomputable def m_late_by : List PyData → Option PyData := mOf 9 2 s_late_by
theorem ok_late_by (M : Md K mg) : CalD P w K mg base 12 "late_by" ["form", "other"] (spD 2 m_late_by) := by
  refine CalD.data (k := 11) (N := ["form", "other", "own", "found", "row", "begins", "ticks", "value", "more"]) M 16 sc_late_by (fun _ _ _ _ _ _ us hl => match us, hl with | [_, _], _ => rfl) fun f cdv A outer s0 H E hr => ?_
  have o : Okx (cxD P w K mg base ["form", "other", "own", "found", "row", "begins", "ticks", "value", "more"] "late_by" (defScope (top 26)) f cdv A outer s0 H E) 11 := ⟨M, hr, rfl⟩
  have nd := sc_late_by.nd
  exact gb_cons (gs_par (i := 2) (j := 3) rfl nd rfl rfl (by decide) rfl rfl (ga_cons (ge_cal (ok_tupled M) o.r (by decide) (ga_cons (ge_var 0 (pv 0)) ga_nil)) (ga_cons ge_non ga_nil)) rfl) (gb_cons (gs_if (t_eq o (b_len o (ge_var 1 (pv 1))) ge_int) (gb_one gs_never) gb_nil) (gb_cons (gs_for PassesOwn.never rfl (gi_seq (ge_cal (ok_tupled M) o.r (by decide) (ga_cons (ge_var 1 (pv 1)) ga_nil))) (gg_name (i := 4) (pg_name nd rfl (Or.inl rfl))) (gb_cons (gs_set (ps_set (i := 5) nd rfl (Or.inl rfl) (ge_cal (ok_begins_of M) o.r (by decide) (ga_cons (ge_var 4 (pv 4)) ga_nil)).pe)) (gb_cons (gs_set (ps_set (i := 6) nd rfl (Or.inl rfl) (b_dict o (ge_var 5 (pv 5))).pe)) (gb_cons (gs_set (ps_set (i := 7) nd rfl (Or.inl rfl) (ge_cal (ok_value_at M) o.r (by decide) (ga_cons (ge_var 2 (pv 2)) (ga_cons (ge_var 6 (pv 6)) ga_nil))).pe)) (gb_cons (gs_if (gt_isN (ge_var 7 (pv 7)) ge_non) (gb_one (gs_ret ge_non)) gb_nil) (gb_cons (gs_set (ps_set (i := 8) nd rfl (Or.inl rfl) (ge_sub (ge_var 7 (pv 7)) (ge_cal (ok_row_at M) o.r (by decide) (ga_cons (ge_var 4 (pv 4)) (ga_cons (ge_var 6 (pv 6)) ga_nil)))).pe)) (gb_one (gs_set (ps_set (i := 3) nd rfl (Or.inl rfl) (ge_ifExp (gt_isN (ge_var 3 (pv 3)) ge_non) (ge_var 8 (pv 8)) (b_max2 o (ge_var 3 (pv 3)) (ge_var 8 (pv 8)))).pe))))))))) (gb_one (gs_ret (ge_var 3 (pv 3))))))
theorem sc_rises : FnScope ["house", "own", "zone", "line"] ["house"] (defScope (top 28)) := ⟨rfl, rfl, rfl, by decide +kernel, rfl, by decide +kernel, by decide +kernel⟩
noncomputable def s_rises : DS := dSeq (dAsg (dCall 1 m_tupled (dCons (dVar 0) dNil)) (bName 1)) (dRet (dAnd (d1 mAll (dLc [2] (iSeq (dOp bIx (dVar 1) (dC (.int 1)))) (bName 2) dYes (dOp bIsN (dOp bIx (dVar 2) (dC (.int 2))) (dC .none)))) (d1 mAll (dLc [3] (iSeq (dOp bIx (dVar 1) (dC (.int 2)))) (bName 3) dYes (dOp bEq (dOp bIx (dVar 3) (dC (.int 4))) (dTup dNil))))))
noncomputable def m_rises : List PyData → Option PyData := mOf 4 1 s_rises
theorem ok_rises (M : Md K mg) : CalD P w K mg base 12 "rises" ["house"] (spD 1 m_rises) := by
  refine CalD.data (k := 11) (N := ["house", "own", "zone", "line"]) M 17 sc_rises (fun _ _ _ _ _ _ us hl => match us, hl with | [_], _ => rfl) fun f cdv A outer s0 H E hr => ?_
  have o : Okx (cxD P w K mg base ["house", "own", "zone", "line"] "rises" (defScope (top 28)) f cdv A outer s0 H E) 11 := ⟨M, hr, rfl⟩
  have nd := sc_rises.nd
  exact gb_cons (gs_set (ps_set (i := 1) nd rfl (Or.inl rfl) (ge_cal (ok_tupled M) o.r (by decide) (ga_cons (ge_var 0 (pv 0)) ga_nil)).pe)) (gb_one (gs_ret (ge_and (b_all o (ge_lc (own := [("zone", 2)]) rfl nd (gi_seq (ge_ix (ge_var 1 (pv 1)) ge_int)) (blkOk_by (by kernel_rfl)) (fun _ _ _ _ _ => gg_name (i := 2) (pg_name nd rfl (Or.inl rfl))) (fun _ _ _ _ _ => gts_nil) (fun _ _ _ _ _ => ge_isN (ge_ix (ge_var 2 (pv 2)) ge_int) ge_non))) (ge_one (b_all o (ge_lc (own := [("line", 3)]) rfl nd (gi_seq (ge_ix (ge_var 1 (pv 1)) ge_int)) (blkOk_by (by kernel_rfl)) (fun _ _ _ _ _ => gg_name (i := 3) (pg_name nd rfl (Or.inl rfl))) (fun _ _ _ _ _ => gts_nil) (fun _ _ _ _ _ => c_eq o.blk (ge_ix (ge_var 3 (pv 3)) ge_int) (ge_tup ga_nil))))))))
theorem sc_rising : FnScope ["house", "own"] ["house"] (defScope (top 37)) := ⟨rfl, rfl, rfl, by decide +kernel, rfl, by decide +kernel, by decide +kernel⟩
noncomputable def s_rising : DS := dSeq (dAsg (dCall 1 m_tupled (dCons (dVar 0) dNil)) (bName 1)) (dSeq (dIfS (dNot (dCall 1 m_rises (dCons (dVar 1) dNil))) dNever dNext) (dRet (dVar 1)))
noncomputable def m_rising : List PyData → Option PyData := mOf 2 1 s_rising
theorem ok_rising (M : Md K mg) : CalD P w K mg base 13 "rising" ["house"] (spD 1 m_rising) := by
  refine CalD.data (k := 12) (N := ["house", "own"]) M 18 sc_rising (fun _ _ _ _ _ _ us hl => match us, hl with | [_], _ => rfl) fun f cdv A outer s0 H E hr => ?_
  have o : Okx (cxD P w K mg base ["house", "own"] "rising" (defScope (top 37)) f cdv A outer s0 H E) 12 := ⟨M, hr, rfl⟩
  have nd := sc_rising.nd
  exact gb_cons (gs_set (ps_set (i := 1) nd rfl (Or.inl rfl) (ge_cal (ok_tupled M) o.r (by decide) (ga_cons (ge_var 0 (pv 0)) ga_nil)).pe)) (gb_cons (gs_if (gt_not (gt_val (ge_cal (ok_rises M) o.r (by decide) (ga_cons (ge_var 1 (pv 1)) ga_nil)))) (gb_one gs_never) gb_nil) (gb_one (gs_ret (ge_var 1 (pv 1)))))
theorem sc_sure_zone : FnScope ["house", "zone"] ["house", "zone"] (defScope (top 38)) := ⟨rfl, rfl, rfl, by decide +kernel, rfl, by decide +kernel, by decide +kernel⟩
noncomputable def s_sure_zone : DS := dIfS (dNot (dChain bLe bLt (dC (.int 0)) (dVar 1) (d1 mLen (dOp bIx (dVar 0) (dC (.int 1)))))) dNever dNext
noncomputable def m_sure_zone : List PyData → Option PyData := mOf 2 2 s_sure_zone
theorem ok_sure_zone (M : Md K mg) : CalD P w K mg base 1 "sure_zone" ["house", "zone"] (spD 2 m_sure_zone) := by
  refine CalD.data (k := 0) (N := ["house", "zone"]) M 19 sc_sure_zone (fun _ _ _ _ _ _ us hl => match us, hl with | [_, _], _ => rfl) fun f cdv A outer s0 H E hr => ?_
  have o : Okx (cxD P w K mg base ["house", "zone"] "sure_zone" (defScope (top 38)) f cdv A outer s0 H E) 0 := ⟨M, hr, rfl⟩
  have nd := sc_sure_zone.nd
  exact gb_one (gs_if (gt_not (gt_chain op_le op_lt rel_le rel_lt ge_int (ge_var 1 (pv 1)) (b_len o (ge_ix (ge_var 0 (pv 0)) (g_int (o.m.int 82)))))) (gb_one gs_never) gb_nil)
theorem sc_sure_line : FnScope ["house", "line"] ["house", "line"] (defScope (top 39)) := ⟨rfl, rfl, rfl, by decide +kernel, rfl, by decide +kernel, by decide +kernel⟩
noncomputable def s_sure_line : DS := dIfS (dNot (dChain bLe bLt (dC (.int 0)) (dVar 1) (d1 mLen (dOp bIx (dVar 0) (dC (.int 2)))))) dNever dNext
noncomputable def m_sure_line : List PyData → Option PyData := mOf 2 2 s_sure_line
theorem ok_sure_line (M : Md K mg) : CalD P w K mg base 1 "sure_line" ["house", "line"] (spD 2 m_sure_line) := by
  refine CalD.data (k := 0) (N := ["house", "line"]) M 20 sc_sure_line (fun _ _ _ _ _ _ us hl => match us, hl with | [_, _], _ => rfl) fun f cdv A outer s0 H E hr => ?_
  have o : Okx (cxD P w K mg base ["house", "line"] "sure_line" (defScope (top 39)) f cdv A outer s0 H E) 0 := ⟨M, hr, rfl⟩
  have nd := sc_sure_line.nd
  exact gb_one (gs_if (gt_not (gt_chain op_le op_lt rel_le rel_lt ge_int (ge_var 1 (pv 1)) (b_len o (ge_ix (ge_var 0 (pv 0)) (g_int (o.m.int 83)))))) (gb_one gs_never) gb_nil)
theorem sc_sure_out : FnScope ["house", "out"] ["house", "out"] (defScope (top 40)) := ⟨rfl, rfl, rfl, by decide +kernel, rfl, by decide +kernel, by decide +kernel⟩
noncomputable def s_sure_out : DS := dIfS (dNot (dChain bLe bLt (dC (.int 0)) (dVar 1) (d1 mLen (dOp bIx (dVar 0) (dC (.int 3)))))) dNever dNext
noncomputable def m_sure_out : List PyData → Option PyData := mOf 2 2 s_sure_out
theorem ok_sure_out (M : Md K mg) : CalD P w K mg base 1 "sure_out" ["house", "out"] (spD 2 m_sure_out) := by
  refine CalD.data (k := 0) (N := ["house", "out"]) M 21 sc_sure_out (fun _ _ _ _ _ _ us hl => match us, hl with | [_, _], _ => rfl) fun f cdv A outer s0 H E hr => ?_
  have o : Okx (cxD P w K mg base ["house", "out"] "sure_out" (defScope (top 40)) f cdv A outer s0 H E) 0 := ⟨M, hr, rfl⟩
  have nd := sc_sure_out.nd
  exact gb_one (gs_if (gt_not (gt_chain op_le op_lt rel_le rel_lt ge_int (ge_var 1 (pv 1)) (b_len o (ge_ix (ge_var 0 (pv 0)) (g_int (o.m.int 84)))))) (gb_one gs_never) gb_nil)
theorem sc_form_of_zone : FnScope ["house", "number", "lost", "spots", "knocks", "_"] ["house", "number", "lost"] (defScope (top 41)) := ⟨rfl, rfl, rfl, by decide +kernel, rfl, by decide +kernel, by decide +kernel⟩
noncomputable def s_form_of_zone : DS := dSeq (dAsg (dOp bIx (dOp bIx (dVar 0) (dC (.int 1))) (dVar 1)) (bTup [bName 3, bName 4, bName 5])) (dRet (dCall 2 m_without (dCons (dCall 2 m_knock_form (dCons (dVar 3) (dCons (dVar 4) dNil))) (dCons (dVar 2) dNil))))
noncomputable def m_form_of_zone : List PyData → Option PyData := mOf 6 3 s_form_of_zone
theorem ok_form_of_zone (M : Md K mg) : CalD P w K mg base 13 "form_of_zone" ["house", "number", "lost"] (spD 3 m_form_of_zone) := by
  refine CalD.data (k := 12) (N := ["house", "number", "lost", "spots", "knocks", "_"]) M 22 sc_form_of_zone (fun _ _ _ _ _ _ us hl => match us, hl with | [_, _, _], _ => rfl) fun f cdv A outer s0 H E hr => ?_
  have o : Okx (cxD P w K mg base ["house", "number", "lost", "spots", "knocks", "_"] "form_of_zone" (defScope (top 41)) f cdv A outer s0 H E) 12 := ⟨M, hr, rfl⟩
  have nd := sc_form_of_zone.nd
  exact gb_cons (gs_asg (ge_ix (ge_ix (ge_var 0 (pv 0)) (g_int (o.m.int 82))) (ge_var 1 (pv 1))) (gg_tup rfl (ggs_cons (gg_name (i := 3) (pg_name nd rfl (Or.inl rfl))) (ggs_cons (gg_name (i := 4) (pg_name nd rfl (Or.inl rfl))) (ggs_cons (gg_name (i := 5) (pg_name nd rfl (Or.inl rfl))) ggs_nil))))) (gb_one (gs_ret (ge_cal (ok_without M) o.r (by decide) (ga_cons (ge_cal (ok_knock_form M) o.r (by decide) (ga_cons (ge_var 3 (pv 3)) (ga_cons (ge_var 4 (pv 4)) ga_nil))) (ga_cons (ge_var 2 (pv 2)) ga_nil)))))
theorem sc_shorter : FnScope ["lines", "line", "less", "old"] ["lines", "line", "less"] (defScope (top 46)) := ⟨rfl, rfl, rfl, by decide +kernel, rfl, by decide +kernel, by decide +kernel⟩
noncomputable def s_shorter : DS := dSeq (dAsg (dOp bIx (dVar 0) (dVar 1)) (bName 3)) (dRet (dOp bPlus (dOp bPlus (dSl (dVar 0) oNone (oSome (dVar 1))) (dTup (dCons (dOp bPlus (dOp bPlus (dSl (dVar 3) oNone (oSome (dC (.int 3)))) (dTup (dCons (dOp bSub (dOp bIx (dVar 3) (dC (.int 3))) (dVar 2)) dNil))) (dSl (dVar 3) (oSome (dOp bPlus (dC (.int 3)) (dC (.int 1)))) oNone)) dNil))) (dSl (dVar 0) (oSome (dOp bPlus (dVar 1) (dC (.int 1)))) oNone)))
noncomputable def m_shorter : List PyData → Option PyData := mOf 4 3 s_shorter
theorem ok_shorter (M : Md K mg) : CalD P w K mg base 1 "shorter" ["lines", "line", "less"] (spD 3 m_shorter) := by
  refine CalD.data (k := 0) (N := ["lines", "line", "less", "old"]) M 27 sc_shorter (fun _ _ _ _ _ _ us hl => match us, hl with | [_, _, _], _ => rfl) fun f cdv A outer s0 H E hr => ?_
  have o : Okx (cxD P w K mg base ["lines", "line", "less", "old"] "shorter" (defScope (top 46)) f cdv A outer s0 H E) 0 := ⟨M, hr, rfl⟩
  have nd := sc_shorter.nd
  exact gb_cons (gs_set (ps_set (i := 3) nd rfl (Or.inl rfl) (ge_ix (ge_var 0 (pv 0)) (ge_var 1 (pv 1))).pe)) (gb_one (gs_ret (ge_plus (ge_plus (ge_sl (ge_var 0 (pv 0)) go_none (go_some (ge_var 1 (pv 1)))) (ge_tup (ga_cons (ge_plus (ge_plus (ge_sl (ge_var 3 (pv 3)) go_none (go_some (g_int (o.m.int 87)))) (ge_tup (ga_cons (ge_sub (ge_ix (ge_var 3 (pv 3)) (g_int (o.m.int 87))) (ge_var 2 (pv 2))) ga_nil))) (ge_sl (ge_var 3 (pv 3)) (go_some (ge_plus (g_int (o.m.int 87)) ge_int)) go_none)) ga_nil))) (ge_sl (ge_var 0 (pv 0)) (go_some (ge_plus (ge_var 1 (pv 1)) ge_int)) go_none))))
end
end SK
set_option maxHeartbeats 4000000
namespace SK
open PySem PySem.Spec PyProof.Rows L2
section
variable {P : Program} {w : World} {K : PySem.W.Frag} {mg : Str → Option Value} {base : Heap}
theorem sc_law_lists : FnScope ["_law_matter", "_law_bit"] ["_law_matter"] (defScope (top 54)) := ⟨rfl, rfl, rfl, by decide +kernel, rfl, by decide +kernel, by decide +kernel⟩
noncomputable def s_law_lists (r : List PyData → Option PyData) : DS := dRet (dIf (dIsi2 "list" "tuple" (dVar 0)) (dLc [1] (iSeq (dVar 0)) (bName 1) dYes (dCall 1 r (dCons (dVar 1) dNil))) (dVar 0))
noncomputable def mR_law_lists : Nat → List PyData → Option PyData
  | 0 => fun _ => none
  | D + 1 => mOf 2 1 (s_law_lists (mR_law_lists D))
theorem okR_law_lists (M : Md K mg) : ∀ D : Nat, CalD P w K mg base (D + 1) "_law_lists" ["_law_matter"] (spD 1 (mR_law_lists D))
  | 0 => CalD.of (k := 0) (N := ["_law_matter", "_law_bit"]) M 34 sc_law_lists (fun vs H Q E ⟨_, _, _, _, _, _, h, _⟩ => h) (fun _ _ _ _ _ _ us hl => match us, hl with | [_], _ => rfl) fun f cdv A outer s0 H vs Q E hr ⟨_, _, _, _, _, e, _, _⟩ => nomatch e
  | D + 1 => by
    have C : CalD P w K mg base (D + 1) "_law_lists" ["_law_matter"] (spD 1 (mR_law_lists D)) := okR_law_lists M D
    refine CalD.data (k := D + 1) (N := ["_law_matter", "_law_bit"]) M 34 sc_law_lists (fun _ _ _ _ _ _ us hl => match us, hl with | [_], _ => rfl) fun f cdv A outer s0 H E hr => ?_
    have o : Okx (cxD P w K mg base ["_law_matter", "_law_bit"] "_law_lists" (defScope (top 54)) f cdv A outer s0 H E) (D + 1) := ⟨M, hr, rfl⟩
    have nd := sc_law_lists.nd
    exact gb_one (gs_ret (ge_ifExp (gt_val (b_isi2 o (ge_var 0 (pv 0)) (ty_list o) (ty_tuple o))) (ge_lc (own := [("_law_bit", 1)]) rfl nd (gi_seq (ge_var 0 (pv 0))) (blkOk_by (by kernel_rfl)) (fun _ _ _ _ _ => gg_name (i := 1) (pg_name nd rfl (Or.inl rfl))) (fun _ _ _ _ _ => gts_nil) (fun _ _ _ _ _ => ge_cal (C) o.blk.r (Nat.le_refl _) (ga_cons (ge_var 1 (pv 1)) ga_nil))) (ge_var 0 (pv 0))))
noncomputable def m_law_lists : List PyData → Option PyData := mR_law_lists 10
theorem ok_law_lists (M : Md K mg) : CalD P w K mg base 11 "_law_lists" ["_law_matter"] (spD 1 m_law_lists) := okR_law_lists M 10
theorem sc_law_same : FnScope ["_law_got", "_law_due", "_law_mine", "_law_its"] ["_law_got", "_law_due"] (defScope (top 55)) := ⟨rfl, rfl, rfl, by decide +kernel, rfl, by decide +kernel, by decide +kernel⟩
noncomputable def s_law_same (r : List PyData → Option PyData) : DS := dSeq (dIfS (dIsi2 "list" "tuple" (dVar 1)) (dSeq (dIfS (dOr (dOp bNe (dIsi "list" (dVar 0)) (dIsi "list" (dVar 1))) (dOp bNe (dIsi "tuple" (dVar 0)) (dIsi "tuple" (dVar 1)))) (dRet (dC (.bool false))) dNext) (dRet (dAnd (dOp bEq (d1 mLen (dVar 0)) (d1 mLen (dVar 1))) (d1 mAll (dLc [2, 3] (iZipD (dVar 0) (dVar 1)) (bTup [bName 2, bName 3]) dYes (dCall 2 r (dCons (dVar 2) (dCons (dVar 3) dNil)))))))) dNext) (dSeq (dIfS (dOr (dOp bIsN (dVar 1) (dC .none)) (dIsi2 "bool" "str" (dVar 1))) (dRet (dAnd (dOp bEq (dVar 0) (dVar 1)) (dAnd (dOp bEq (dIsi "bool" (dVar 0)) (dIsi "bool" (dVar 1))) (dOp bEq (dOp bIsN (dVar 0) (dC .none)) (dOp bIsN (dVar 1) (dC .none)))))) dNext) (dRet (dAnd (dIsi "int" (dVar 0)) (dAnd (dNot (dIsi "bool" (dVar 0))) (dOp bEq (dVar 0) (dVar 1))))))
noncomputable def mR_law_same : Nat → List PyData → Option PyData
  | 0 => fun _ => none
  | D + 1 => mOf 4 2 (s_law_same (mR_law_same D))
theorem okR_law_same (M : Md K mg) : ∀ D : Nat, CalD P w K mg base (D + 1) "_law_same" ["_law_got", "_law_due"] (spD 2 (mR_law_same D))
  | 0 => CalD.of (k := 0) (N := ["_law_got", "_law_due", "_law_mine", "_law_its"]) M 35 sc_law_same (fun vs H Q E ⟨_, _, _, _, _, _, h, _⟩ => h) (fun _ _ _ _ _ _ us hl => match us, hl with | [_, _], _ => rfl) fun f cdv A outer s0 H vs Q E hr ⟨_, _, _, _, _, e, _, _⟩ => nomatch e
  | D + 1 => by
    have C : CalD P w K mg base (D + 1) "_law_same" ["_law_got", "_law_due"] (spD 2 (mR_law_same D)) := okR_law_same M D
    refine CalD.data (k := D + 1) (N := ["_law_got", "_law_due", "_law_mine", "_law_its"]) M 35 sc_law_same (fun _ _ _ _ _ _ us hl => match us, hl with | [_, _], _ => rfl) fun f cdv A outer s0 H E hr => ?_
    have o : Okx (cxD P w K mg base ["_law_got", "_law_due", "_law_mine", "_law_its"] "_law_same" (defScope (top 55)) f cdv A outer s0 H E) (D + 1) := ⟨M, hr, rfl⟩
    have nd := sc_law_same.nd
    exact gb_cons (gs_if (gt_val (b_isi2 o (ge_var 1 (pv 1)) (ty_list o) (ty_tuple o))) (gb_cons (gs_if (gt_w (gw_or (t_ne o (b_isi o (ge_var 0 (pv 0)) (ty_list o)) (b_isi o (ge_var 1 (pv 1)) (ty_list o))) (gw_or1 (t_ne o (b_isi o (ge_var 0 (pv 0)) (ty_tuple o)) (b_isi o (ge_var 1 (pv 1)) (ty_tuple o)))))) (gb_one (gs_ret ge_bl)) gb_nil) (gb_one (gs_ret (ge_and (c_eq o (b_len o (ge_var 0 (pv 0))) (b_len o (ge_var 1 (pv 1)))) (ge_one (b_all o (ge_lc (own := [("_law_mine", 2), ("_law_its", 3)]) rfl nd (i_zip o (ge_var 0 (pv 0)) (ge_var 1 (pv 1))) (blkOk_by (by kernel_rfl)) (fun _ _ _ _ _ => gg_tup rfl (ggs_cons (gg_name (i := 2) (pg_name nd rfl (Or.inl rfl))) (ggs_cons (gg_name (i := 3) (pg_name nd rfl (Or.inl rfl))) ggs_nil))) (fun _ _ _ _ _ => gts_nil) (fun _ _ _ _ _ => ge_cal (C) o.blk.r (Nat.le_refl _) (ga_cons (ge_var 2 (pv 2)) (ga_cons (ge_var 3 (pv 3)) ga_nil)))))))))) gb_nil) (gb_cons (gs_if (gt_w (gw_or (gt_isN (ge_var 1 (pv 1)) ge_non) (gw_or1 (gt_val (b_isi2 o (ge_var 1 (pv 1)) (ty_bool o) (ty_str o)))))) (gb_one (gs_ret (ge_and (c_eq o (ge_var 0 (pv 0)) (ge_var 1 (pv 1))) (ge_and (c_eq o (b_isi o (ge_var 0 (pv 0)) (ty_bool o)) (b_isi o (ge_var 1 (pv 1)) (ty_bool o))) (ge_one (c_eq o (ge_isN (ge_var 0 (pv 0)) ge_non) (ge_isN (ge_var 1 (pv 1)) ge_non))))))) gb_nil) (gb_one (gs_ret (ge_and (b_isi o (ge_var 0 (pv 0)) (ty_int o)) (ge_and (ge_not (b_isi o (ge_var 0 (pv 0)) (ty_bool o))) (ge_one (c_eq o (ge_var 0 (pv 0)) (ge_var 1 (pv 1)))))))))
noncomputable def m_law_same : List PyData → Option PyData := mR_law_same 10
theorem ok_law_same (M : Md K mg) : CalD P w K mg base 11 "_law_same" ["_law_got", "_law_due"] (spD 2 m_law_same) := okR_law_same M 10
theorem sc_law_hall : FnScope [] [] (defScope (top 56)) := ⟨rfl, rfl, rfl, by decide +kernel, rfl, by decide +kernel, by decide +kernel⟩
noncomputable def s_law_hall : DS := dRet (dTup (dCons (dC (.int 0)) (dCons (dTup (dCons (dTup (dCons (dC (.str "feel")) (dCons (dC (.int 0)) dNil))) (dCons (dTup (dCons (dC (.str "cut")) dNil)) (dCons (dTup (dCons (dC (.str "feel")) (dCons (dC (.int 1)) dNil))) (dCons (dTup (dCons (dC (.str "feel")) (dCons (dC (.int 2)) dNil))) (dCons (dTup (dCons (dC (.str "bell")) (dCons (dC (.int 0)) dNil))) (dCons (dTup (dCons (dC (.str "cut")) dNil)) (dCons (dTup (dCons (dC (.str "feel")) (dCons (dC (.int 0)) dNil))) dNil)))))))) dNil)))
noncomputable def m_law_hall : List PyData → Option PyData := mOf 0 0 s_law_hall
theorem ok_law_hall (M : Md K mg) : CalD P w K mg base 1 "_law_hall" [] (spD 0 m_law_hall) := by
  refine CalD.data (k := 0) (N := []) M 36 sc_law_hall (fun _ _ _ _ _ _ us hl => match us, hl with | [], _ => rfl) fun f cdv A outer s0 H E hr => ?_
  have o : Okx (cxD P w K mg base [] "_law_hall" (defScope (top 56)) f cdv A outer s0 H E) 0 := ⟨M, hr, rfl⟩
  have nd := sc_law_hall.nd
  exact gb_one (gs_ret (ge_tup (ga_cons ge_int (ga_cons (ge_tup (ga_cons (ge_tup (ga_cons ge_str (ga_cons ge_int ga_nil))) (ga_cons (ge_tup (ga_cons ge_str ga_nil)) (ga_cons (ge_tup (ga_cons ge_str (ga_cons ge_int ga_nil))) (ga_cons (ge_tup (ga_cons ge_str (ga_cons ge_int ga_nil))) (ga_cons (ge_tup (ga_cons ge_str (ga_cons ge_int ga_nil))) (ga_cons (ge_tup (ga_cons ge_str ga_nil)) (ga_cons (ge_tup (ga_cons ge_str (ga_cons ge_int ga_nil))) ga_nil)))))))) ga_nil))))
theorem sc_law_inn : FnScope ["_law_zones_so"] [] (defScope (top 57)) := ⟨rfl, rfl, rfl, by decide +kernel, rfl, by decide +kernel, by decide +kernel⟩
noncomputable def s_law_inn : DS := dSeq (dAsg (dTup (dCons (dTup (dCons (dTup (dCons (dTup (dCons (dC (.int 0)) (dCons (dC (.int 0)) dNil))) (dCons (dTup (dCons (dC (.int 0)) (dCons (dC (.int 2)) dNil))) dNil))) (dCons (dC (.int 1)) (dCons (dC .none) dNil)))) (dCons (dTup (dCons (dTup (dCons (dTup (dCons (dC (.int 0)) (dCons (dC (.int 2)) dNil))) (dCons (dTup (dCons (dC (.int 0)) (dCons (dC (.int 3)) dNil))) (dCons (dTup (dCons (dC (.int 0)) (dCons (dC (.int 6)) dNil))) dNil)))) (dCons (dC (.int 2)) (dCons (dC .none) dNil)))) dNil))) (bName 0)) (dRet (dTup (dCons (dTup (dCons (dCall0 m_law_hall) dNil)) (dCons (dVar 0) (dCons (dTup (dCons (dTup (dCons (dC (.int 0)) (dCons (dC (.str "any")) (dCons (dTup (dCons (dC (.int 0)) dNil)) (dCons (dC (.int 3)) (dCons (dTup dNil) (dCons (dC (.int 0)) (dCons (dC (.int 4)) (dCons (dC (.int 0)) dNil))))))))) (dCons (dTup (dCons (dC (.int 0)) (dCons (dC (.str "all")) (dCons (dTup (dCons (dC (.int 0)) (dCons (dC (.int 1)) dNil))) (dCons (dC (.int 2)) (dCons (dTup dNil) (dCons (dC (.int 1)) (dCons (dC (.int 0)) (dCons (dC (.int 0)) dNil))))))))) dNil))) (dCons (dTup (dCons (dC (.str "bell")) (dCons (dC (.str "door")) dNil))) (dCons (dC (.int 1)) dNil)))))))
noncomputable def m_law_inn : List PyData → Option PyData := mOf 1 0 s_law_inn
theorem ok_law_inn (M : Md K mg) : CalD P w K mg base 2 "_law_inn" [] (spD 0 m_law_inn) := by
  refine CalD.data (k := 1) (N := ["_law_zones_so"]) M 37 sc_law_inn (fun _ _ _ _ _ _ us hl => match us, hl with | [], _ => rfl) fun f cdv A outer s0 H E hr => ?_
  have o : Okx (cxD P w K mg base ["_law_zones_so"] "_law_inn" (defScope (top 57)) f cdv A outer s0 H E) 1 := ⟨M, hr, rfl⟩
  have nd := sc_law_inn.nd
  exact gb_cons (gs_set (ps_set (i := 0) nd rfl (Or.inl rfl) (ge_tup (ga_cons (ge_tup (ga_cons (ge_tup (ga_cons (ge_tup (ga_cons ge_int (ga_cons ge_int ga_nil))) (ga_cons (ge_tup (ga_cons ge_int (ga_cons ge_int ga_nil))) ga_nil))) (ga_cons ge_int (ga_cons ge_non ga_nil)))) (ga_cons (ge_tup (ga_cons (ge_tup (ga_cons (ge_tup (ga_cons ge_int (ga_cons ge_int ga_nil))) (ga_cons (ge_tup (ga_cons ge_int (ga_cons ge_int ga_nil))) (ga_cons (ge_tup (ga_cons ge_int (ga_cons ge_int ga_nil))) ga_nil)))) (ga_cons ge_int (ga_cons ge_non ga_nil)))) ga_nil))).pe)) (gb_one (gs_ret (ge_tup (ga_cons (ge_tup (ga_cons (ge_cal0 (ok_law_hall M) o.r (by decide)) ga_nil)) (ga_cons (ge_var 0 (pv 0)) (ga_cons (ge_tup (ga_cons (ge_tup (ga_cons ge_int (ga_cons ge_str (ga_cons (ge_tup (ga_cons ge_int ga_nil)) (ga_cons ge_int (ga_cons (ge_tup ga_nil) (ga_cons ge_int (ga_cons ge_int (ga_cons ge_int ga_nil))))))))) (ga_cons (ge_tup (ga_cons ge_int (ga_cons ge_str (ga_cons (ge_tup (ga_cons ge_int (ga_cons ge_int ga_nil))) (ga_cons ge_int (ga_cons (ge_tup ga_nil) (ga_cons ge_int (ga_cons ge_int (ga_cons ge_int ga_nil))))))))) ga_nil))) (ga_cons (ge_tup (ga_cons ge_str (ga_cons ge_str ga_nil))) (ga_cons ge_int ga_nil))))))))
theorem sc_law_spots : FnScope ["_law_wires_so", "_law_found", "_law_n", "_law_loop_so", "_law_k", "_law_own"] ["_law_wires_so"] (defScope (top 58)) := ⟨rfl, rfl, rfl, by decide +kernel, rfl, by decide +kernel, by decide +kernel⟩
noncomputable def s_law_spots : DS := dSeq (dAsg (dLst dNil) (bName 1)) (dSeq (dFor (iEnumD (dVar 0)) (bTup [bName 2, bName 3]) (dAsg (dOp bPlus (dVar 1) (dLc [4, 5] (iEnumD (dOp bIx (dVar 3) (dC (.int 1)))) (bTup [bName 4, bName 5]) (dOp bNe (dVar 5) (dTup (dCons (dC (.str "cut")) dNil))) (dTup (dCons (dVar 2) (dCons (dVar 4) dNil))))) (bName 1))) (dRet (dVar 1)))
noncomputable def m_law_spots : List PyData → Option PyData := mOf 6 1 s_law_spots
theorem ok_law_spots (M : Md K mg) : CalD P w K mg base 1 "_law_spots" ["_law_wires_so"] (spD 1 m_law_spots) := by
  refine CalD.data (k := 0) (N := ["_law_wires_so", "_law_found", "_law_n", "_law_loop_so", "_law_k", "_law_own"]) M 38 sc_law_spots (fun _ _ _ _ _ _ us hl => match us, hl with | [_], _ => rfl) fun f cdv A outer s0 H E hr => ?_
  have o : Okx (cxD P w K mg base ["_law_wires_so", "_law_found", "_law_n", "_law_loop_so", "_law_k", "_law_own"] "_law_spots" (defScope (top 58)) f cdv A outer s0 H E) 0 := ⟨M, hr, rfl⟩
  have nd := sc_law_spots.nd
  exact gb_cons (gs_set (ps_set (i := 1) nd rfl (Or.inl rfl) (ge_lst ga_nil).pe)) (gb_cons (gs_for PassesOwn.never rfl (i_enum o (ge_var 0 (pv 0))) (gg_tup rfl (ggs_cons (gg_name (i := 2) (pg_name nd rfl (Or.inr rfl))) (ggs_cons (gg_name (i := 3) (pg_name nd rfl (Or.inl rfl))) ggs_nil))) (gb_one (gs_set (ps_set (i := 1) nd rfl (Or.inl rfl) (ge_plus (ge_var 1 (pv 1)) (ge_lc (own := [("_law_k", 4), ("_law_own", 5)]) rfl nd (i_enum o (ge_ix (ge_var 3 (pv 3)) ge_int)) (blkOk_by (by kernel_rfl)) (fun _ _ _ _ _ => gg_tup rfl (ggs_cons (gg_name (i := 4) (pg_name nd rfl (Or.inl rfl))) (ggs_cons (gg_name (i := 5) (pg_name nd rfl (Or.inl rfl))) ggs_nil))) (fun _ _ _ _ _ => gts_one (t_ne o.blk (ge_var 5 (pv 5)) (ge_tup (ga_cons ge_str ga_nil)))) (fun _ _ _ _ _ => ge_tup (ga_cons (ge_var 2 (pv 2)) (ga_cons (ge_var 4 (pv 4)) ga_nil))))).pe)))) (gb_one (gs_ret (ge_var 1 (pv 1)))))
theorem sc_law_feelers : FnScope ["_law_wires_so", "_law_own"] ["_law_wires_so"] (defScope (top 59)) := ⟨rfl, rfl, rfl, by decide +kernel, rfl, by decide +kernel, by decide +kernel⟩
noncomputable def s_law_feelers : DS := dRet (dLc [1] (iSeq (dCall 1 m_law_spots (dCons (dVar 0) dNil))) (bName 1) (dOp bEq (dOp bIx (dOp bIx (dOp bIx (dOp bIx (dVar 0) (dOp bIx (dVar 1) (dC (.int 0)))) (dC (.int 1))) (dOp bIx (dVar 1) (dC (.int 1)))) (dC (.int 0))) (dC (.str "feel"))) (dVar 1))
noncomputable def m_law_feelers : List PyData → Option PyData := mOf 2 1 s_law_feelers
theorem ok_law_feelers (M : Md K mg) : CalD P w K mg base 2 "_law_feelers" ["_law_wires_so"] (spD 1 m_law_feelers) := by
  refine CalD.data (k := 1) (N := ["_law_wires_so", "_law_own"]) M 39 sc_law_feelers (fun _ _ _ _ _ _ us hl => match us, hl with | [_], _ => rfl) fun f cdv A outer s0 H E hr => ?_
  have o : Okx (cxD P w K mg base ["_law_wires_so", "_law_own"] "_law_feelers" (defScope (top 59)) f cdv A outer s0 H E) 1 := ⟨M, hr, rfl⟩
  have nd := sc_law_feelers.nd
  exact gb_one (gs_ret (ge_lc (own := [("_law_own", 1)]) rfl nd (gi_seq (ge_cal (ok_law_spots M) o.r (by decide) (ga_cons (ge_var 0 (pv 0)) ga_nil))) (blkOk_by (by kernel_rfl)) (fun _ _ _ _ _ => gg_name (i := 1) (pg_name nd rfl (Or.inl rfl))) (fun _ _ _ _ _ => gts_one (t_eq o.blk (ge_ix (ge_ix (ge_ix (ge_ix (ge_var 0 (pv 0)) (ge_ix (ge_var 1 (pv 1)) ge_int)) ge_int) (ge_ix (ge_var 1 (pv 1)) ge_int)) ge_int) ge_str)) (fun _ _ _ _ _ => ge_var 1 (pv 1))))
theorem sc_law_kth : FnScope ["_law_numbers_so", "_law_k", "_law_own", "_law_n"] ["_law_numbers_so", "_law_k"] (defScope (top 60)) := ⟨rfl, rfl, rfl, by decide +kernel, rfl, by decide +kernel, by decide +kernel⟩
noncomputable def s_law_kth : DS := dSeq (dAsg (d1 mSorted (dLc [3] (iSeq (dVar 0)) (bName 3) (dOp bNotN (dVar 3) (dC .none)) (dVar 3))) (bName 2)) (dRet (dIf (dOp bGe (d1 mLen (dVar 2)) (dVar 1)) (dOp bIx (dVar 2) (dOp bSub (dVar 1) (dC (.int 1)))) (dC .none)))
noncomputable def m_law_kth : List PyData → Option PyData := mOf 4 2 s_law_kth
theorem ok_law_kth (M : Md K mg) : CalD P w K mg base 1 "_law_kth" ["_law_numbers_so", "_law_k"] (spD 2 m_law_kth) := by
  refine CalD.data (k := 0) (N := ["_law_numbers_so", "_law_k", "_law_own", "_law_n"]) M 40 sc_law_kth (fun _ _ _ _ _ _ us hl => match us, hl with | [_, _], _ => rfl) fun f cdv A outer s0 H E hr => ?_
  have o : Okx (cxD P w K mg base ["_law_numbers_so", "_law_k", "_law_own", "_law_n"] "_law_kth" (defScope (top 60)) f cdv A outer s0 H E) 0 := ⟨M, hr, rfl⟩
  have nd := sc_law_kth.nd
  exact gb_cons (gs_set (ps_set (i := 2) nd rfl (Or.inl rfl) (b_sorted o (ge_lc (own := [("_law_n", 3)]) rfl nd (gi_seq (ge_var 0 (pv 0))) (blkOk_by (by kernel_rfl)) (fun _ _ _ _ _ => gg_name (i := 3) (pg_name nd rfl (Or.inl rfl))) (fun _ _ _ _ _ => gts_one (gt_notN (ge_var 3 (pv 3)) ge_non)) (fun _ _ _ _ _ => ge_var 3 (pv 3)))).pe)) (gb_one (gs_ret (ge_ifExp (gt_ge (b_len o (ge_var 2 (pv 2))) (ge_var 1 (pv 1))) (ge_ix (ge_var 2 (pv 2)) (ge_sub (ge_var 1 (pv 1)) ge_int)) ge_non)))
theorem sc_law_line_hour : FnScope ["_law_line_so", "_law_hours_so", "_law_own", "_law_begin_so", "_law_end_so", "_law_z"] ["_law_line_so", "_law_hours_so"] (defScope (top 62)) := ⟨rfl, rfl, rfl, by decide +kernel, rfl, by decide +kernel, by decide +kernel⟩
noncomputable def s_law_line_hour : DS := dSeq (dAsg (dLc [5] (iSeq (dOp bIx (dVar 0) (dC (.int 2)))) (bName 5) dYes (dOp bIx (dVar 1) (dVar 5))) (bName 2)) (dSeq (dAsg (dCall 2 m_law_kth (dCons (dVar 2) (dCons (dIf (dOp bEq (dOp bIx (dVar 0) (dC (.int 1))) (dC (.str "any"))) (dC (.int 1)) (d1 mLen (dVar 2))) dNil))) (bName 3)) (dSeq (dIfS (dOp bIsN (dVar 3) (dC .none)) (dRet (dTup (dCons (dC .none) (dCons (dC .none) (dCons (dC (.bool false)) dNil))))) dNext) (dSeq (dAsg (dOp bPlus (dVar 3) (dOp bIx (dVar 0) (dC (.int 3)))) (bName 4)) (dRet (dTup (dCons (dVar 3) (dCons (dVar 4) (dCons (dOp bNe (dLc [5] (iSeq (dOp bIx (dVar 0) (dC (.int 4)))) (bName 5) (dAnd (dOp bNotN (dOp bIx (dVar 1) (dVar 5)) (dC .none)) (dOp bLe (dOp bIx (dVar 1) (dVar 5)) (dVar 4))) (dVar 5)) (dLst dNil)) dNil))))))))
noncomputable def m_law_line_hour : List PyData → Option PyData := mOf 6 2 s_law_line_hour
theorem ok_law_line_hour (M : Md K mg) : CalD P w K mg base 2 "_law_line_hour" ["_law_line_so", "_law_hours_so"] (spD 2 m_law_line_hour) := by
  refine CalD.data (k := 1) (N := ["_law_line_so", "_law_hours_so", "_law_own", "_law_begin_so", "_law_end_so", "_law_z"]) M 42 sc_law_line_hour (fun _ _ _ _ _ _ us hl => match us, hl with | [_, _], _ => rfl) fun f cdv A outer s0 H E hr => ?_
  have o : Okx (cxD P w K mg base ["_law_line_so", "_law_hours_so", "_law_own", "_law_begin_so", "_law_end_so", "_law_z"] "_law_line_hour" (defScope (top 62)) f cdv A outer s0 H E) 1 := ⟨M, hr, rfl⟩
  have nd := sc_law_line_hour.nd
  exact gb_cons (gs_setLc (i := 2) (own := [("_law_z", 5)]) rfl nd rfl rfl rfl (gi_seq (ge_ix (ge_var 0 (pv 0)) ge_int)) (blkOk_by (by kernel_rfl)) (fun _ _ _ _ _ => gg_name (i := 5) (pg_name nd rfl (Or.inl rfl))) (fun _ _ _ _ _ => gts_nil) (fun _ _ _ _ _ => ge_ix (ge_var 1 (pv 1)) (ge_var 5 (pv 5)))) (gb_cons (gs_set (ps_set (i := 3) nd rfl (Or.inl rfl) (ge_cal (ok_law_kth M) o.r (by decide) (ga_cons (ge_var 2 (pv 2)) (ga_cons (ge_ifExp (t_eq o (ge_ix (ge_var 0 (pv 0)) ge_int) ge_str) ge_int (b_len o (ge_var 2 (pv 2)))) ga_nil))).pe)) (gb_cons (gs_if (gt_isN (ge_var 3 (pv 3)) ge_non) (gb_one (gs_ret (ge_tup (ga_cons ge_non (ga_cons ge_non (ga_cons ge_bl ga_nil)))))) gb_nil) (gb_cons (gs_set (ps_set (i := 4) nd rfl (Or.inr rfl) (ge_plus (ge_var 3 (pv 3)) (ge_ix (ge_var 0 (pv 0)) ge_int)).pe)) (gb_one (gs_ret (ge_tup (ga_cons (ge_var 3 (pv 3)) (ga_cons (ge_var 4 (pv 4)) (ga_cons (c_ne o (ge_lc (own := [("_law_z", 5)]) rfl nd (gi_seq (ge_ix (ge_var 0 (pv 0)) ge_int)) (blkOk_by (by kernel_rfl)) (fun _ _ _ _ _ => gg_name (i := 5) (pg_name nd rfl (Or.inl rfl))) (fun _ _ _ _ _ => gts_one (gt_w (gw_and (gt_notN (ge_ix (ge_var 1 (pv 1)) (ge_var 5 (pv 5))) ge_non) (gw_and1 (gt_le (ge_ix (ge_var 1 (pv 1)) (ge_var 5 (pv 5))) (ge_var 4 (pv 4))))))) (fun _ _ _ _ _ => ge_var 5 (pv 5))) (ge_lst ga_nil)) ga_nil)))))))))
theorem sc_law_put_at : FnScope ["_law_row_so", "_law_place_so", "_law_bit_so"] ["_law_row_so", "_law_place_so", "_law_bit_so"] (defScope (top 70)) := ⟨rfl, rfl, rfl, by decide +kernel, rfl, by decide +kernel, by decide +kernel⟩
noncomputable def s_law_put_at : DS := dRet (dOp bPlus (dOp bPlus (dSl (dVar 0) oNone (oSome (dVar 1))) (dTup (dCons (dVar 2) dNil))) (dSl (dVar 0) (oSome (dOp bPlus (dVar 1) (dC (.int 1)))) oNone))
noncomputable def m_law_put_at : List PyData → Option PyData := mOf 3 3 s_law_put_at
theorem ok_law_put_at (M : Md K mg) : CalD P w K mg base 1 "_law_put_at" ["_law_row_so", "_law_place_so", "_law_bit_so"] (spD 3 m_law_put_at) := by
  refine CalD.data (k := 0) (N := ["_law_row_so", "_law_place_so", "_law_bit_so"]) M 50 sc_law_put_at (fun _ _ _ _ _ _ us hl => match us, hl with | [_, _, _], _ => rfl) fun f cdv A outer s0 H E hr => ?_
  have o : Okx (cxD P w K mg base ["_law_row_so", "_law_place_so", "_law_bit_so"] "_law_put_at" (defScope (top 70)) f cdv A outer s0 H E) 0 := ⟨M, hr, rfl⟩
  have nd := sc_law_put_at.nd
  exact gb_one (gs_ret (ge_plus (ge_plus (ge_sl (ge_var 0 (pv 0)) go_none (go_some (ge_var 1 (pv 1)))) (ge_tup (ga_cons (ge_var 2 (pv 2)) ga_nil))) (ge_sl (ge_var 0 (pv 0)) (go_some (ge_plus (ge_var 1 (pv 1)) ge_int)) go_none)))
theorem sc_law_fire_of : FnScope ["_law_row_so", "_law_most_so", "_law_own"] ["_law_row_so"] (defScope (top 73)) := ⟨rfl, rfl, rfl, by decide +kernel, rfl, by decide +kernel, by decide +kernel⟩
noncomputable def s_law_fire_of : DS := dSeq (dAsg (d1 mMax (dLc [2] (iSeq (dVar 0)) (bName 2) dYes (dOp bIx (dVar 2) (dC (.int 1))))) (bName 1)) (dRet (d1 mTuple (dLc [2] (iSeq (dVar 0)) (bName 2) dYes (dTup (dCons (dOp bIx (dVar 2) (dC (.int 0))) (dCons (dOp bSub (dVar 1) (dOp bIx (dVar 2) (dC (.int 1)))) dNil))))))
noncomputable def m_law_fire_of : List PyData → Option PyData := mOf 3 1 s_law_fire_of
theorem ok_law_fire_of (M : Md K mg) : CalD P w K mg base 1 "_law_fire_of" ["_law_row_so"] (spD 1 m_law_fire_of) := by
  refine CalD.data (k := 0) (N := ["_law_row_so", "_law_most_so", "_law_own"]) M 53 sc_law_fire_of (fun _ _ _ _ _ _ us hl => match us, hl with | [_], _ => rfl) fun f cdv A outer s0 H E hr => ?_
  have o : Okx (cxD P w K mg base ["_law_row_so", "_law_most_so", "_law_own"] "_law_fire_of" (defScope (top 73)) f cdv A outer s0 H E) 0 := ⟨M, hr, rfl⟩
  have nd := sc_law_fire_of.nd
  exact gb_cons (gs_set (ps_set (i := 1) nd rfl (Or.inr rfl) (b_max1 o (ge_lc (own := [("_law_own", 2)]) rfl nd (gi_seq (ge_var 0 (pv 0))) (blkOk_by (by kernel_rfl)) (fun _ _ _ _ _ => gg_name (i := 2) (pg_name nd rfl (Or.inl rfl))) (fun _ _ _ _ _ => gts_nil) (fun _ _ _ _ _ => ge_ix (ge_var 2 (pv 2)) ge_int))).pe)) (gb_one (gs_ret (b_tuple o (ge_lc (own := [("_law_own", 2)]) rfl nd (gi_seq (ge_var 0 (pv 0))) (blkOk_by (by kernel_rfl)) (fun _ _ _ _ _ => gg_name (i := 2) (pg_name nd rfl (Or.inl rfl))) (fun _ _ _ _ _ => gts_nil) (fun _ _ _ _ _ => ge_tup (ga_cons (ge_ix (ge_var 2 (pv 2)) ge_int) (ga_cons (ge_sub (ge_var 1 (pv 1)) (ge_ix (ge_var 2 (pv 2)) ge_int)) ga_nil)))))))
end
end SK
set_option maxHeartbeats 1000000
/-! Blocks that own one list or dict and change it. -/
namespace SK
open PySem PySem.Spec PyProof.Rows L2
/-! ### pure statements that tell which slots they write -/
def tGSk (s : DS) (is : List Nat) : TS := fun D σ H => ∃ B ρ o, Same B H ∧ En B σ ρ ∧ s ρ = some o ∧
  (∀ ρ', o = .nx ρ' → ∀ σ' B' H', At B B' H H' → En B' σ' ρ' → But is σ σ' → D.nx σ' H') ∧ (∀ d, o = .rt d → ∀ v B' H', At B B' H H' → Dv B' v d → D.rt v H')
structure GSk (X : Cx) (st : Stmt) (s : DS) (is : List Nat) : Prop where
  ps : PS X st (tGSk s is)
theorem GSk.gs {X : Cx} {st : Stmt} {s : DS} {is : List Nat} (h : GSk X st s is) : GS X st s := ⟨PS.imp h.ps fun D σ H ⟨B, ρ, o, a, b, c, d, e⟩ => ⟨B, ρ, o, a, b, c, fun ρ' q σ' B' H' x y _ => d ρ' q σ' B' H' x y, e⟩⟩
section
variable {X : Cx} {a b c : Expr} {da db dc : DE} {pos : Pos} {st : Stmt} {rest : List Stmt} {s u : DS} {is js : List Nat}
theorem k_ret (h : GE X a da) : GSk X (.Return (some a) pos) (dRet da) [] := ⟨PS.imp (ps_ret h.pe) fun D σ H ⟨B, ρ, o, sm, en, e, k, k2⟩ => by
  obtain ⟨d, e1, e2⟩ := Option.map_eq_some_iff.mp e
  subst e2
  exact ⟨B, ρ, d, sm, en, e1, fun v B' H' a dv => k2 d rfl v B' H' a dv⟩⟩
theorem k_set {i : Nat} {x : Str} {p : Pos} (h : PS X (.Assign [.Name x p] a pos) (tAsg (tG da) (gName i))) : GSk X (.Assign [.Name x p] a pos) (dAsg da (bName i)) [i] := ⟨PS.imp h fun D σ H ⟨B, ρ, o, sm, en, e, k, k2⟩ => by
  obtain ⟨d, e1, e2⟩ := Option.bind_eq_some_iff.mp e
  obtain ⟨ρ1, e3, e4⟩ := Option.map_eq_some_iff.mp e2
  subst e4
  cases e3
  exact ⟨B, ρ, d, sm, en, e1, fun v B1 H1 a1 dv => k _ rfl _ B1 H1 a1 ((en.mono a1.b).set i dv) (But.set σ i _)⟩⟩
theorem k_asg {tg : Expr} {g : DG} (he : GE X a da) (hg : GG X tg g is) (hs : swapsWithSole [tg] a pos.line X.env = pure false := by rfl) (hw : swappedStores [tg] a X.env = pure none := by rfl)
    (h1 : (assignEach [tg] X.env).map (·.2) = [assign tg X.env] := by rfl) : GSk X (.Assign [tg] a pos) (dAsg da g) is := ⟨PS.imp (ps_asg he.pe hg.pg hs hw h1) fun D σ H ⟨B, ρ, o, sm, en, e, k, k2⟩ => by
  obtain ⟨d, e1, e2⟩ := Option.bind_eq_some_iff.mp e
  obtain ⟨ρ1, e3, e4⟩ := Option.map_eq_some_iff.mp e2
  subst e4
  exact ⟨B, ρ, d, sm, en, e1, fun v B1 H1 a1 dv => ⟨B1, ρ, d, ρ1, a1.i, en.mono a1.b, dv, e3, fun σ' en' bt => k ρ1 rfl σ' B1 H1 a1 en' bt⟩⟩⟩
theorem k_par {i j : Nat} {x y : Str} {d : DA} {px py pt : Pos} {kt k2 pt2} (hc : X.calm = true) (hN : X.N.Nodup) (hi : X.N[i]? = some x) (hj : X.N[j]? = some y) (hij : i ≠ j) (hx : X.env.scope.names.lookup x = some .local) (hy : X.env.scope.names.lookup y = some .local)
    (ha : GA X [a, b] d) (hw : swappedStores [.Tuple [.Name x px, .Name y py] kt pt] (.Tuple [a, b] k2 pt2) X.env = pure (some [x, y])) (hs : swapsWithSole [.Tuple [.Name x px, .Name y py] kt pt] (.Tuple [a, b] k2 pt2) pos.line X.env = pure false := by rfl) :
    GSk X (.Assign [.Tuple [.Name x px, .Name y py] kt pt] (.Tuple [a, b] k2 pt2) pos) (dPar i j d) ([i] ++ [j]) := ⟨PS.imp (ps_par hc hN hi hj hij hx hy ha.pa hw hs) fun D σ H ⟨B, ρ, o, sm, en, e, k, k2⟩ => by
  obtain ⟨xs, e1, e2⟩ := Option.bind_eq_some_iff.mp e
  refine ⟨B, ρ, xs, sm, en, e1, fun vs B1 H1 a1 dvs => ?_⟩
  match xs, dvs, e2 with
  | [d1, d2], .cons h1 (.cons h2 .nil), e2 =>
    cases e2
    exact ⟨_, _, rfl, k _ rfl _ B1 H1 a1 (((en.mono a1.b).set i h1).set j h2) ((But.set σ i _).trans (But.set _ j _))⟩⟩
theorem k_setLc {i : Nat} {y : Str} {py : Pos} {elt tg it : Expr} {ifs : List Expr} {scope : Scope} {own : List (Str × Nat)} {spos : Pos} {di : DA} {g : DG} {dt de : DE} (hc : X.calm = true) (hN : X.N.Nodup) (hy : X.N[i]? = some y) (hyl : X.env.scope.names.lookup y = some .local)
    (hsw : swapsWith (.ListComp elt [⟨tg, it, ifs, 0⟩] scope pos) (some (.Name y py)) spos.line X.env = pure true) (hi : GI X tg it di) (ok : BlkOk X.N X.env.scope scope own)
    (hg : ∀ (s : Shared) (H : Hp) (C : Addr) (cl : List (Str × Addr)) (fp : List Addr), GG (X.blk s H scope (compEnvC scope cl C X.env) fp) tg g is) (ht : ∀ (s : Shared) (H : Hp) (C : Addr) (cl : List (Str × Addr)) (fp : List Addr), GTs (X.blk s H scope (compEnvC scope cl C X.env) fp) ifs dt)
    (he : ∀ (s : Shared) (H : Hp) (C : Addr) (cl : List (Str × Addr)) (fp : List Addr), GE (X.blk s H scope (compEnvC scope cl C X.env) fp) elt de) (his : ∀ i ∈ is, i ∈ own.map (·.2) := by decide) (hs : ∀ x, foldedSetIterable it X.env x = pure x := by intro _; rfl) :
    GSk X (.Assign [.Name y py] (.ListComp elt [⟨tg, it, ifs, 0⟩] scope pos) spos) (dAsg (dLc (own.map (·.2)) di g dt de) (bName i)) [i] :=
  k_set (PS.imp (ps_setLc hc hN hy hyl hsw hi.pi ok (fun s H C cl fp => (hg s H C cl fp).pg) (fun s H C cl fp => (ht s H C cl fp).pts) (fun s H C cl fp => (he s H C cl fp).pe) hs) fun D σ H ⟨B, ρ, d, sm, en, e, k⟩ => tG_lc his ⟨B, ρ, d, sm, en, e, k⟩)
end

/-! ### the owned object -/
structure AtP (p : Addr) (B B' H H' : Hp) : Prop where
  b : Same B B'
  i : Same B' H'
  o : ∀ (a : Addr) (u : HO), a ≠ p → H a = some u → H' a = some u
  np : B' p = none
  hp : Live H' p
  ap : ∀ a : Addr, B a = none → Live H a → B' a = none
theorem AtP.refl {p : Addr} {B H : Hp} (s : Same B H) (h1 : B p = none) (h2 : Live H p) : AtP p B B H H := ⟨Same.refl B, s, fun _ _ _ e => e, h1, h2, fun _ h _ => h⟩
theorem AtP.trans {p : Addr} {B B1 B2 H H1 H2 : Hp} (x : AtP p B B1 H H1) (y : AtP p B1 B2 H1 H2) : AtP p B B2 H H2 :=
  ⟨x.b.trans y.b, y.i, fun a u n e => y.o a u n (x.o a u n e), y.np, y.hp, fun a h1 h2 => y.ap a (x.ap a h1 h2) (by
    by_cases n : a = p
    · rw [n]; exact x.hp
    · obtain ⟨u, h3, h4⟩ := h2
      exact ⟨u, x.o a u n h3, h4⟩)⟩
theorem At.toP {p : Addr} {B B' H H' : Hp} (x : At B B' H H') (h1 : B p = none) (h2 : Live H p) : AtP p B B' H H' := ⟨x.b, x.i, fun a u _ e => x.o a u e, x.ap p h1 h2, h2.up x.o, x.ap⟩
theorem AtP.write {p : Addr} {B B' H H' : Hp} (x : AtP p B B' H H') (u : HO) (hu : isT u = false := by rfl) : AtP p B B' H (upd H' p u) :=
  ⟨x.b, Same.upd x.i x.np u, fun a v n e => by rw [upd_ne n]; exact x.o a v n e, x.np, ⟨u, upd_same, hu⟩, x.ap⟩
/-- the owned object let go: it is data from now on -/
theorem AtP.close {p : Addr} {B0 B B' H0 H H' : Hp} (y : At B0 B H0 H) (x : AtP p B B' H H') (hp : H0 p = none) (hb : B p = none) {u : HO} (hu : H' p = some u) : At B0 (upd B' p u) H0 H' where
  b := fun a v e => by
    have n : a ≠ p := fun z => by rw [z] at e; rw [y.b p v e] at hb; cases hb
    rw [upd_ne n]; exact x.b a v (y.b a v e)
  i := fun a v e => by
    by_cases n : a = p
    · rw [n, upd_same] at e; rw [n, hu]; exact e
    · rw [upd_ne n] at e; exact x.i a v e
  o := fun a v e => x.o a v (fun z => by rw [z, hp] at e; cases e) (y.o a v e)
  ap := fun a h1 h2 => by
    have n : a ≠ p := fun z => h2.ne (by rw [z]; exact hp)
    rw [upd_ne n]
    exact x.ap a (y.ap a h1 h2) (h2.up y.o)
def OwnU (B : Hp) : HO → PyData → Prop
  | .lst vs, .list ds => DvA B vs ds
  | .dT kvs, .dict es => DvE B kvs es
  | _, _ => False
theorem OwnU.mono {B B' : Hp} (s : Same B B') {u : HO} {c : PyData} (h : OwnU B u c) : OwnU B' u c := by
  unfold OwnU at h ⊢
  split at h
  · exact DvA.mono s h
  · exact DvE.mono s h
  · exact h.elim
theorem OwnU.dv {B : Hp} {p : Addr} {u : HO} {c : PyData} (h : OwnU B u c) (hp : B p = none) : Dv (upd B p u) (.ref p) c := by
  have s : Same B (upd B p u) := same_new hp u
  unfold OwnU at h
  split at h
  · exact .lst upd_same (DvA.mono s h)
  · exact .dic upd_same (DvE.mono s h)
  · exact h.elim
structure Ow (i : Nat) (B H : Hp) (σ : L2.St) (ρ : Rho) (p : Addr) (c : PyData) : Prop where
  en : En B σ (ρ.set i none)
  at_ : ρ[i]? = some (some c)
  sl : σ[i]? = some (some (.ref p))
  bp : B p = none
  ow : ∃ u, H p = some u ∧ OwnU B u c
theorem OwnU.isT {B : Hp} {u : HO} {c : PyData} (h : OwnU B u c) : isT u = false := by
  unfold OwnU at h
  split at h
  · rfl
  · rfl
  · exact h.elim
theorem Ow.hp {i : Nat} {B H : Hp} {σ : L2.St} {ρ : Rho} {p : Addr} {c : PyData} (w : Ow i B H σ ρ p c) : Live H p := by
  obtain ⟨u, h, h2⟩ := w.ow
  exact ⟨u, h, h2.isT⟩
theorem Ow.len {i : Nat} {B H : Hp} {σ : L2.St} {ρ : Rho} {p : Addr} {c : PyData} (w : Ow i B H σ ρ p c) : i < σ.length := (List.getElem?_eq_some_iff.mp w.sl).1
/-- the heaps grow -/
theorem Ow.move {i : Nat} {B H B' H' : Hp} {σ : L2.St} {ρ : Rho} {p : Addr} {c : PyData} (w : Ow i B H σ ρ p c) (a : At B B' H H') : Ow i B' H' σ ρ p c := by
  obtain ⟨u, h1, h2⟩ := w.ow
  exact ⟨w.en.mono a.b, w.at_, w.sl, a.ap p w.bp w.hp, u, a.o p u h1, h2.mono a.b⟩
theorem En.clear {B : Hp} {σ : L2.St} {ρ : Rho} (e : En B σ ρ) (i : Nat) (x : Option PyData) : En B σ ((ρ.set i x).set i none) := by
  refine ⟨by rw [List.length_set, List.length_set]; exact e.len, fun j d h => ?_⟩
  by_cases n : i = j
  · subst n
    by_cases hi : i < (ρ.set i x).length
    · rw [List.getElem?_set_self hi] at h; cases h
    · rw [List.getElem?_eq_none (by rw [List.length_set]; omega)] at h; cases h
  · rw [List.getElem?_set_ne n, List.getElem?_set_ne n] at h
    exact e.at_ j d h
/-- other slots written -/
theorem Ow.slots {i : Nat} {B H : Hp} {σ σ' : L2.St} {ρ ρ' : Rho} {p : Addr} {c : PyData} {is : List Nat} (w : Ow i B H σ ρ p c) (en : En B σ' ρ') (bt : But is σ σ') (hi : i ∉ is) : Ow i B H σ' (ρ'.set i (some c)) p c :=
  ⟨en.clear i _, List.getElem?_set_self (by rw [← en.len, bt.1]; exact w.len), (bt.2 i hi).trans w.sl, w.bp, w.ow⟩
def tOw (i : Nat) (f : DS) (is : List Nat) : TS := fun D σ H => ∃ B ρ o p c, Same B H ∧ Ow i B H σ ρ p c ∧ f ρ = some o ∧
  (∀ ρ', o = .nx ρ' → ∀ σ' B' H' c', AtP p B B' H H' → Ow i B' H' σ' ρ' p c' → But is σ σ' → D.nx σ' H') ∧ (∀ d, o = .rt d → ∀ v B' H', AtP p B B' H H' → Dv B' v d → D.rt v H')
structure GOs (X : Cx) (i : Nat) (st : Stmt) (f : DS) (is : List Nat) : Prop where
  ps : PS X st (tOw i f is)
structure GOb (X : Cx) (i : Nat) (sts : List Stmt) (f : DS) (is : List Nat) : Prop where
  pss : PSs X sts (tOw i f is)
section
variable {X : Cx} {i : Nat} {a b c : Expr} {da db dc : DE} {pos : Pos} {st : Stmt} {rest : List Stmt} {s u f g : DS} {is js : List Nat}
theorem o_nil : GOb X i [] dNext [] := ⟨PSs.imp pss_nil fun D σ H ⟨B, ρ, o, p, c, sm, w, e, k, _⟩ => by
  cases e
  exact k ρ rfl σ B H c (AtP.refl sm w.bp w.hp) w (But.refl _ σ)⟩
theorem o_one (h : GOs X i st f is) : GOb X i [st] f is := ⟨pss_one h.ps⟩
theorem o_cons (h : GOs X i st f is) (r : GOb X i rest g js) : GOb X i (st :: rest) (dSeq f g) (is ++ js) := ⟨PSs.imp (pss_cons h.ps r.pss) fun D σ H ⟨B, ρ, o, p, c, sm, w, e, k, k2⟩ => by
  obtain ⟨o1, e1, e2⟩ := Option.bind_eq_some_iff.mp e
  refine ⟨B, ρ, o1, p, c, sm, w, e1, fun ρ' q σ' B' H' c' a w' bt => ?_, fun d q v B' H' a dv => ?_⟩
  · subst q
    exact ⟨B', ρ', o, p, c', a.i, w', e2, fun ρ2 q σ2 B2 H2 c2 a2 w2 bt2 => k ρ2 q σ2 B2 H2 c2 (a.trans a2) w2 (bt.trans bt2), fun d q v B2 H2 a2 dv => k2 d q v B2 H2 (a.trans a2) dv⟩
  · subst q
    cases e2
    exact k2 d rfl v B' H' a dv⟩
def dPure (i : Nat) (s : DS) : DS := fun ρ => (s (ρ.set i none)).bind fun o => (ρ[i]?).join.bind fun x => match o with
  | .nx ρ' => some (.nx (ρ'.set i (some x)))
  | .rt d => some (.rt d)
theorem dPure_at {ρ : Rho} {x : PyData} {o : Out} (h : ρ[i]? = some (some x)) (e : dPure i s ρ = some o) : ∃ o1, s (ρ.set i none) = some o1 ∧ ((∃ ρ', o1 = .nx ρ' ∧ o = .nx (ρ'.set i (some x))) ∨ ∃ d, o1 = .rt d ∧ o = .rt d) := by
  obtain ⟨o1, e1, e2⟩ := Option.bind_eq_some_iff.mp e
  rw [h] at e2
  refine ⟨o1, e1, ?_⟩
  cases o1 with
  | nx ρ' => cases e2; exact .inl ⟨ρ', rfl, rfl⟩
  | rt d => cases e2; exact .inr ⟨d, rfl, rfl⟩
theorem o_pure (h : GSk X st s is) (hi : i ∉ is := by decide) : GOs X i st (dPure i s) is := ⟨PS.imp h.ps fun D σ H ⟨B, ρ, o, p, c, sm, w, e, k, k2⟩ => by
  obtain ⟨o1, e1, e2⟩ := dPure_at w.at_ e
  refine ⟨B, ρ.set i none, o1, sm, w.en, e1, fun ρ' q σ' B' H' a en' bt => ?_, fun d q v B' H' a dv => ?_⟩
  · subst q
    rcases e2 with ⟨ρ2, e3, e4⟩ | ⟨d, e3, _⟩
    · cases e3
      exact k _ e4 σ' B' H' c (a.toP w.bp w.hp) ((w.move a).slots en' bt hi) bt
    · cases e3
  · subst q
    rcases e2 with ⟨ρ2, e3, _⟩ | ⟨d, e3, e4⟩
    · cases e3
    · cases e3
      exact k2 _ e4 v B' H' (a.toP w.bp w.hp) dv⟩
def dIfO (i : Nat) (c : DE) (f g : DS) : DS := fun ρ => (c (ρ.set i none)).bind fun x => match x with
  | .bool true => f ρ
  | .bool false => g ρ
  | _ => none
theorem o_if {sa sb : List Stmt} (hc : GT X c dc) (ha : GOb X i sa f is) (hb : GOb X i sb g js) : GOs X i (.If c sa sb pos) (dIfO i dc f g) (is ++ js) := ⟨PS.imp (ps_if hc.pt ha.pss hb.pss) fun D σ H ⟨B, ρ, o, p, c, sm, w, e, k, k2⟩ => by
  obtain ⟨x, e1, e2⟩ := Option.bind_eq_some_iff.mp e
  cases x with
  | bool y =>
    refine ⟨B, ρ.set i none, y, sm, w.en, e1, fun B' H' a => ?_⟩
    have ap := a.toP w.bp w.hp
    cases y with
    | true => exact ⟨B', ρ, o, p, c, a.i, w.move a, e2, fun ρ2 q σ2 B2 H2 c2 a2 w2 bt => k ρ2 q σ2 B2 H2 c2 (ap.trans a2) w2 ⟨bt.1, fun j hj => bt.2 j fun z => hj (List.mem_append_left _ z)⟩, fun d q v B2 H2 a2 dv => k2 d q v B2 H2 (ap.trans a2) dv⟩
    | false => exact ⟨B', ρ, o, p, c, a.i, w.move a, e2, fun ρ2 q σ2 B2 H2 c2 a2 w2 bt => k ρ2 q σ2 B2 H2 c2 (ap.trans a2) w2 ⟨bt.1, fun j hj => bt.2 j fun z => hj (List.mem_append_right _ z)⟩, fun d q v B2 H2 a2 dv => k2 d q v B2 H2 (ap.trans a2) dv⟩
  | _ => exact nomatch e2⟩
/-- x.append(e) -/
def dApp (i : Nat) (d : DE) : DS := fun ρ => (d (ρ.set i none)).bind fun y => match (ρ[i]?).join with
  | some (.list ds) => if ds.length < 1000 then some (.nx (ρ.set i (some (.list (ds ++ [y]))))) else none
  | _ => none
theorem o_app {x : Str} {p q : Pos} (hN : X.N[i]? = some x) (hv : Vis X.env.scope x) (ha : GE X a da) (hdb : (x == ("__debug__" : Str)) = false := by decide) (hcd : (x == ("__classdict__" : Str)) = false := by decide)
    (hbase : attributeBase (.Name x p) "append" X.env (eval (.Name x p) X.env) = eval (.Name x p) X.env := by rfl)
    (hfew : ((backTo pos (starEach [a] X.env)).all (fun x => !x.1) && (backToKw pos (keywordEach [] X.env)).all (fun x => x.1.isSome)
      && decide (([a] : List Expr).length + ([] : List Keyword).length + (if ([] : List Keyword).isEmpty then 0 else 1) < 30)) = true := by rfl)
    (hline : (q.endLine == pos.line) = true := by rfl) (hs : starEach [a] X.env = (false, eval a X.env) :: starEach [] X.env := by rfl) (hplain : (backTo pos (starEach ([] : List Expr) X.env)).any (·.1) = false := by rfl) {epos : Pos}
    (hsw : swapsWith (.Call (.Attribute (.Name x p) "append" q) [a] [] pos) none epos.line X.env = pure false := by rfl) :
    GOs X i (.Expr (.Call (.Attribute (.Name x p) "append" q) [a] [] pos) epos) (dApp i da) [] :=
  ⟨PS.imp (ps_expr (pe_bm PySem.F.plainAttrs_list PySem.F.slot_list_append PySem.F.type_list_append mt_append (pv i hN hv hdb hcd) (pa_cons ha.pe pa_nil hs) hbase hfew hline hs hplain) hsw) fun D σ H ⟨B, ρ, o, p, c, sm, w, e, k, k2⟩ => by
    obtain ⟨y, e1, e2⟩ := Option.bind_eq_some_iff.mp e
    rw [w.at_] at e2
    cases c with
    | list ds =>
      have e3 : (if ds.length < 1000 then some (Out.nx (ρ.set i (some (.list (ds ++ [y]))))) else none) = some o := e2
      by_cases hl : ds.length < 1000
      · rw [if_pos hl] at e3
        cases e3
        obtain ⟨u, h1, h2⟩ := w.ow
        cases u with
        | lst vs =>
          refine ⟨.ref p, w.sl, .inl ⟨rfl, vs, .inl (.inl h1)⟩, B, ρ.set i none, y, sm, w.en, e1, fun v B' H' a dv => ?_⟩
          have dvs : DvA B vs ds := h2
          refine ⟨p, vs, v, rfl, rfl, a.o _ _ h1, by rw [dvs.length]; exact small1000 (Nat.le_of_lt hl), ?_⟩
          have w2 := w.move a
          have ap := (a.toP w.bp w.hp).write (.lst (vs ++ [v]))
          refine k _ rfl σ B' _ (.list (ds ++ [y])) ap ⟨?_, ?_, w.sl, w2.bp, _, upd_same, ?_⟩ (But.refl _ σ)
          · rw [List.set_set]; exact w2.en
          · rw [List.getElem?_set_self (by have := w.en.len; rw [List.length_set] at this; rw [← this]; exact w.len)]
          · exact (dvs.mono a.b).append (.one dv)
        | _ => exact h2.elim
      · rw [if_neg hl] at e3
        cases e3
    | _ => exact nomatch e2⟩
/-- x[e] = v, x a dict, v a number that may be read off it -/
def dPut (i : Nat) (dk dv : DE) : DS := fun ρ => (dv ρ).bind fun y => match y with
  | .int n => (dk (ρ.set i none)).bind fun z => (unKey z).bind fun k => match (ρ[i]?).join with
    | some (.dict es) => if es.length < 1000 then some (.nx (ρ.set i (some (.dict (putE es k (.int n)))))) else none
    | _ => none
  | _ => none
theorem o_put {x : Str} {p q : Pos} (hu : X.A.units + 1 < cLine) (hN : X.N[i]? = some x) (hv : Vis X.env.scope x) (ha : GE X a da) (hb : GE X b db) (hs : swapsWith b (some (.Subscript (.Name x p) a q)) pos.line X.env = pure false := by rfl) (hdb : (x == ("__debug__" : Str)) = false := by decide) (hcd : (x == ("__classdict__" : Str)) = false := by decide) :
    GOs X i (.Assign [.Subscript (.Name x p) a q] b pos) (dPut i da db) [] := ⟨PS.imp (ps_dput hu (pv i hN hv hdb hcd) ha.pe hb.pe hs) fun D σ H ⟨B, ρ, o, p, c, sm, w, e, k, k2⟩ => by
  obtain ⟨y, e1, e2⟩ := Option.bind_eq_some_iff.mp e
  cases y with
  | int n =>
    obtain ⟨z, e3, e4⟩ := Option.bind_eq_some_iff.mp (show (da (ρ.set i none)).bind _ = some o from e2)
    obtain ⟨ky, e5, e6⟩ := Option.bind_eq_some_iff.mp e4
    rw [w.at_] at e6
    cases c with
    | dict es =>
      have e7 : (if es.length < 1000 then some (Out.nx (ρ.set i (some (.dict (putE es ky (.int n)))))) else none) = some o := e6
      by_cases hl : es.length < 1000
      · rw [if_pos hl] at e7
        cases e7
        obtain ⟨u, h1, h2⟩ := w.ow
        cases u with
        | dT kvs =>
          have dvs : DvE B kvs es := h2
          -- read the value over the part with the owned dict
          have dvp : Dv (upd B p (.dT kvs)) (.ref p) (.dict es) := OwnU.dv (u := .dT kvs) h2 w.bp
          have s2 : Same (upd B p (.dT kvs)) H := fun a v e => by
            by_cases n : a = p
            · rw [n, upd_same] at e; rw [n, h1]; exact e
            · rw [upd_ne n] at e; exact sm a v e
          have en2 : En (upd B p (.dT kvs)) σ ρ := by
            have h := (w.en.mono (same_new w.bp (.dT kvs))).set i dvp
            rw [List.set_set] at h
            have hσ : σ.set i (some (.ref p)) = σ := by
              refine List.ext_getElem? fun j => ?_
              by_cases n : i = j
              · subst n; rw [List.getElem?_set_self w.len]; exact w.sl.symm
              · rw [List.getElem?_set_ne n]
            have hρ : ρ.set i (some (.dict es)) = ρ := by
              refine List.ext_getElem? fun j => ?_
              by_cases n : i = j
              · subst n
                rw [List.getElem?_set_self (List.getElem?_eq_some_iff.mp w.at_).1]; exact w.at_.symm
              · rw [List.getElem?_set_ne n]
            rw [hσ, hρ] at h
            exact h
          refine ⟨upd B p (.dT kvs), ρ, .int n, s2, en2, e1, fun v B1 H1 a1 dv => ?_⟩
          cases dv
          have sB1 : Same B H1 := sm.trans a1.o
          refine ⟨.ref p, w.sl, B, ρ.set i none, z, sB1, w.en, e3, fun v B2 H2 a2 dz => ?_⟩
          obtain ⟨b0, rfl, hb0⟩ := dz.key e5
          have hp2 : H2 p = some (.dT kvs) := a2.o _ _ (a1.o _ _ h1)
          refine ⟨p, _, rfl, .inr ⟨kvs, ky, b0, hp2, rfl, a2.i _ _ hb0, by rw [dvs.length]; exact small1000 (Nat.le_of_lt hl), rfl⟩, ?_⟩
          have hp1 : Live H1 p := ⟨_, a1.o _ _ h1, rfl⟩
          have np2 : B2 p = none := a2.ap p w.bp hp1
          have ap : AtP p B B2 H H2 := ⟨a2.b, a2.i, fun a v _ e => a2.o a v (a1.o a v e), np2, ⟨_, hp2, rfl⟩, fun a h3 h4 => a2.ap a h3 (h4.up a1.o)⟩
          refine k _ rfl σ B2 _ (.dict (putE es ky (.int n))) (ap.write _) ⟨?_, ?_, w.sl, np2, _, upd_same, ?_⟩ (But.refl _ σ)
          · rw [List.set_set]; exact w.en.mono a2.b
          · rw [List.getElem?_set_self (List.getElem?_eq_some_iff.mp w.at_).1]
          · exact (dvs.mono a2.b).put (unKey_eq e5).2 (.int n)
        | _ => exact h2.elim
      · rw [if_neg hl] at e7
        cases e7
    | _ => exact nomatch e6
  | _ => exact nomatch e2⟩
/-- for over the owned one -/
def gO (i : Nat) (g : DG) : DG := fun ρ x => (ρ[i]?).join.bind fun y => (g (ρ.set i none) x).map fun ρ' => ρ'.set i (some y)
def dForO (i : Nat) (it : DA) (g : DG) (body : DS) : DS := fun ρ => (it (ρ.set i none)).bind fun xs => forL (gO i g) body xs ρ
theorem o_for {tg it : Expr} {body : List Stmt} {di : DA} {g : DG} (hp : PassesOwn (model X.prog X.w) X.A X.env X.xe) (hc : X.calm = true) (hi : GI X tg it di) (hg : GG X tg g is) (hb : GOb X i body f js) (hii : i ∉ is := by decide) (hs : ∀ x, foldedSetIterable it X.env x = pure x := by intro _; rfl) :
    GOs X i (.For tg it body [] pos) (dForO i di g f) (is ++ js) := ⟨PS.imp (ps_for hp hc hi.pi hg.pg hb.pss hs) fun D σ H ⟨B, ρ, o, p, c, sm, w, e, k, k2⟩ => by
  obtain ⟨xs, e1, e2⟩ := Option.bind_eq_some_iff.mp e
  refine ⟨B, ρ.set i none, xs, sm, w.en, e1, fun J B1 H1 a1 wk => ?_⟩
  have ap1 := a1.toP w.bp w.hp
  refine ⟨fun n m σ' H' => m = xs.length - n ∧ n ≤ xs.length ∧ ∃ B2 ρ2 c2, AtP p B1 B2 H1 H' ∧ Ow i B2 H' σ' ρ2 p c2 ∧ But (is ++ js) σ σ' ∧ forL (gO i g) f (xs.drop n) ρ2 = some o,
    ⟨xs.length, by omega, Nat.zero_le _, B1, ρ, c, AtP.refl a1.i ap1.np ap1.hp, w.move a1, But.refl _ σ, e2⟩, ?_⟩
  rintro n m σ' H' ⟨rfl, hn, B2, ρ2, c2, a2, w2, bt2, e3⟩
  by_cases hlt : n < xs.length
  · rw [List.drop_eq_getElem_cons hlt] at e3
    obtain ⟨ρ3, e4, e5⟩ := Option.bind_eq_some_iff.mp (show (gO i g ρ2 xs[n]).bind (fun ρ1 => (f ρ1).bind fun o => match o with | .nx ρ2 => forL (gO i g) f (xs.drop (n + 1)) ρ2 | .rt d => some (.rt d)) = some o from e3)
    obtain ⟨o1, e6, e7⟩ := Option.bind_eq_some_iff.mp e5
    obtain ⟨y, ey, e8⟩ := Option.bind_eq_some_iff.mp e4
    rw [w2.at_] at ey
    cases ey
    obtain ⟨ρ4, e9, e10⟩ := Option.map_eq_some_iff.mp e8
    subst e10
    refine .inr ⟨wk.go n H' hlt (a2.b.trans a2.i), fun σ3 H3 => ∃ B3 ρ4 c3, AtP p B1 B3 H1 H3 ∧ Ow i B3 H3 σ3 ρ4 p c3 ∧ But (is ++ js) σ σ3 ∧ forL (gO i g) f (xs.drop (n + 1)) ρ4 = some o, fun σ3 H3 ⟨B3, ρ4, c3, a3, w3, bt3, e8⟩ => ⟨xs.length - (n + 1), by omega, rfl, hlt, B3, ρ4, c3, a3, w3, bt3, e8⟩, fun x H3 yl => ?_⟩
    obtain ⟨B3, a3, dx⟩ := wk.yld n B2 H' x H3 xs[n] a2.b a2.i yl (List.getElem?_eq_getElem hlt)
    have w3 := w2.move a3
    have ap3 := a2.trans (a3.toP w2.bp w2.hp)
    refine ⟨B3, ρ2.set i none, xs[n], ρ4, a3.i, w3.en, dx, e9, fun σ4 en4 bt4 => ?_⟩
    have w4 := w3.slots en4 bt4 hii
    refine ⟨B3, _, o1, p, _, a3.i, w4, e6, fun ρ5 q σ5 B5 H5 c5 a5 w5 bt5 => ?_, fun d q v B5 H5 a5 dv => ?_⟩
    · subst q
      exact ⟨B5, ρ5, c5, ap3.trans a5, w5, ⟨bt5.1.trans (bt4.1.trans bt2.1), fun j hj => (bt5.2 j fun z => hj (List.mem_append_right _ z)).trans ((bt4.2 j fun z => hj (List.mem_append_left _ z)).trans (bt2.2 j hj))⟩, e7⟩
    · subst q
      cases e7
      exact k2 d rfl v B5 H5 ((ap1.trans ap3).trans a5) dv
  · have en : n = xs.length := by omega
    subst en
    rw [List.drop_length] at e3
    cases e3
    exact .inl ⟨wk.stop H' (a2.b.trans a2.i), k ρ2 rfl σ' B2 H' c2 (ap1.trans a2) w2 bt2⟩⟩
theorem o_ret (h : GE X a da) : GOs X i (.Return (some a) pos) (dPure i (dRet da)) [] := o_pure (k_ret h) (by simp)

/-! ### taking and letting go -/
/-- two statements: an own object is made and stored, then a statement that owns it -/
structure GP (X : Cx) (st1 st2 : Stmt) (s : DS) (is : List Nat) : Prop where
  ex : ∃ t1 t2, PS X st1 t1 ∧ PS X st2 t2 ∧ ∀ D σ H, tGSk s is D σ H → t1 { D with nx := t2 D } σ H
theorem gb_pair {st1 st2 : Stmt} (h : GP X st1 st2 s is) (r : GB X rest u) : GB X (st1 :: st2 :: rest) (dSeq s u) := by
  obtain ⟨t1, t2, p1, p2, hh⟩ := h.ex
  exact ⟨PSs.imp (pss_cons p1 (pss_cons p2 r.pss)) fun D σ H ⟨B, ρ, o, sm, en, e, k, k2⟩ => by
    obtain ⟨o1, e1, e2⟩ := Option.bind_eq_some_iff.mp e
    refine hh { D with nx := tGS u D } σ H ⟨B, ρ, o1, sm, en, e1, fun ρ' q σ' B' H' a en' _ => ?_, fun d q v B' H' a dv => ?_⟩
    · subst q
      exact ⟨B', ρ', o, a.i, en', e2, fun ρ2 q σ2 B2 H2 a2 en2 => k ρ2 q σ2 B2 H2 (a.trans a2) en2, fun d q v B2 H2 a2 dv => k2 d q v B2 H2 (a.trans a2) dv⟩
    · subst q
      cases e2
      exact k2 d rfl v B' H' a dv⟩
theorem o_pair {st1 st2 : Stmt} (h : GP X st1 st2 s is) (r : GOb X i rest g js) (hi : i ∉ is := by decide) : GOb X i (st1 :: st2 :: rest) (dSeq (dPure i s) g) (is ++ js) := by
  obtain ⟨t1, t2, p1, p2, hh⟩ := h.ex
  exact ⟨PSs.imp (pss_cons p1 (pss_cons p2 r.pss)) fun D σ H ⟨B, ρ, o, p, c, sm, w, e, k, k2⟩ => by
    obtain ⟨o1, e1, e2⟩ := Option.bind_eq_some_iff.mp e
    obtain ⟨o3, e3, e4⟩ := dPure_at w.at_ e1
    refine hh { D with nx := tOw i g js D } σ H ⟨B, ρ.set i none, o3, sm, w.en, e3, fun ρ' q σ' B' H' a en' bt => ?_, fun d q v B' H' a dv => ?_⟩
    · subst q
      rcases e4 with ⟨ρ2, e5, e6⟩ | ⟨d, e5, _⟩
      · cases e5
        subst e6
        have ap := a.toP w.bp w.hp
        exact ⟨B', _, o, p, c, a.i, (w.move a).slots en' bt hi, e2, fun ρ2 q σ2 B2 H2 c2 a2 w2 bt2 => k ρ2 q σ2 B2 H2 c2 (ap.trans a2) w2 (bt.trans bt2), fun d q v B2 H2 a2 dv => k2 d q v B2 H2 (ap.trans a2) dv⟩
      · cases e5
    · subst q
      rcases e4 with ⟨ρ2, e5, _⟩ | ⟨d', e5, e6⟩
      · cases e5
      · cases e5
        subst e6
        cases e2
        exact k2 _ rfl v B' H' (a.toP w.bp w.hp) dv⟩
/-- the state behind the store, owned -/
theorem own_start {B H : Hp} {σ : L2.St} {ρ : Rho} (sm : Same B H) (en : En B σ ρ) (hi : i < σ.length) {p : Addr} (hp : H p = none) {u : HO} {c : PyData} (ow : OwnU B u c) : Same B (upd H p u) ∧ Ow i B (upd H p u) (σ.set i (some (.ref p))) (ρ.set i (some c)) p c := by
  have bp : B p = none := sm.free hp
  refine ⟨Same.upd sm bp u, ⟨?_, List.getElem?_set_self (by rw [← en.len]; exact hi), List.getElem?_set_self hi, bp, u, upd_same, ow⟩⟩
  have e := en.clear i (some c)
  refine ⟨by rw [List.length_set]; exact e.len, fun j d q => ?_⟩
  obtain ⟨v, h1, h2⟩ := e.at_ j d q
  refine ⟨v, ?_, h2⟩
  by_cases n : i = j
  · subst n
    by_cases hl : i < (ρ.set i (some c)).length
    · rw [List.getElem?_set_self hl] at q; cases q
    · rw [List.getElem?_eq_none (by rw [List.length_set]; omega)] at q; cases q
  · rw [List.getElem?_set_ne n]; exact h1
theorem Ow.en_all {B H : Hp} {σ : L2.St} {ρ : Rho} {p : Addr} {c : PyData} (w : Ow i B H σ ρ p c) {u : HO} (ow : OwnU B u c) : En (upd B p u) σ ρ := by
  have h := (w.en.mono (same_new w.bp u)).set i (ow.dv w.bp)
  rw [List.set_set] at h
  have hσ : σ.set i (some (.ref p)) = σ := by
    refine List.ext_getElem? fun j => ?_
    by_cases n : i = j
    · subst n; rw [List.getElem?_set_self w.len]; exact w.sl.symm
    · rw [List.getElem?_set_ne n]
  have hρ : ρ.set i (some c) = ρ := by
    refine List.ext_getElem? fun j => ?_
    by_cases n : i = j
    · subst n
      rw [List.getElem?_set_self (List.getElem?_eq_some_iff.mp w.at_).1]; exact w.at_.symm
    · rw [List.getElem?_set_ne n]
  rw [hσ, hρ] at h
  exact h
/-- the part behind the making, for both kinds -/
theorem own_go {st2 : Stmt} {D : Ends} {σ : L2.St} {B0 B H0 H : Hp} {ρ : Rho} {o : Out} {u : HO} {c : PyData} {p : Addr} (y : At B0 B H0 H) (en : En B σ ρ) (hi : i < σ.length) (hp : H p = none) (ow : OwnU B u c) (hf : f (ρ.set i (some c)) = some o)
    (k : ∀ ρ', o = .nx ρ' → ∀ σ' B' H', At B0 B' H0 H' → En B' σ' ρ' → But ([i] ++ is) σ σ' → D.nx σ' H') (k2 : ∀ d, o = .rt d → ∀ v B' H', At B0 B' H0 H' → Dv B' v d → D.rt v H') : tOw i f is D (σ.set i (some (.ref p))) (upd H p u) := by
  obtain ⟨s1, w⟩ := own_start y.i en hi hp ow
  have bp : B p = none := w.bp
  have h0p : H0 p = none := y.o.free hp
  have y2 : At B0 B H0 (upd H p u) := ⟨y.b, s1, fun a v e => by rw [upd_ne (ne_of_none (y.o a v e) hp)]; exact y.o a v e, y.ap⟩
  refine ⟨B, _, o, p, c, s1, w, hf, fun ρ' q σ' B' H' c' a w' bt => ?_, fun d q v B' H' a dv => ?_⟩
  · obtain ⟨u', h1, h2⟩ := w'.ow
    exact k ρ' q σ' _ H' (AtP.close y2 a h0p bp h1) (w'.en_all h2) ((But.set σ i _).trans bt)
  · obtain ⟨u', q2, _⟩ := a.hp
    exact k2 d q v _ H' (AtP.close y2 a h0p bp q2) (dv.mono (same_new a.np u'))
def dOwn (i : Nat) (m : Rho → Option PyData) (f : DS) : DS := fun ρ => (m ρ).bind fun c => if i < ρ.length then f (ρ.set i (some c)) else none
theorem gp_list {st2 : Stmt} {x : Str} {p q : Pos} (hN : X.N.Nodup) (hx : X.N[i]? = some x) (hl : Loc X.env.scope x) (h2 : GOs X i st2 f is) (hs : swapsWith (.List [] q) (some (.Name x p)) pos.line X.env = pure false := by rfl) (hf : X.fn x = true ∨ X.env.scope.names.lookup x = some .local := by first | exact .inl rfl | exact .inr rfl | assumption) :
    GP X (.Assign [.Name x p] (.List [] q) pos) st2 (dOwn i (fun _ => some (.list [])) f) ([i] ++ is) :=
  ⟨_, _, ps_set hN hx hl (pe_lst pa_nil) hs hf, h2.ps, fun D σ H ⟨B, ρ, o, sm, en, e, k, k2⟩ => by
    obtain ⟨c, e1, e2⟩ := Option.bind_eq_some_iff.mp e
    cases e1
    by_cases hi : i < ρ.length
    · rw [if_pos hi] at e2
      refine ⟨Nat.zero_le _, fun p hp => ?_⟩
      exact own_go (st2 := st2) (At.refl sm) en (by rw [en.len]; exact hi) hp (u := .lst []) (c := .list []) .nil e2 k k2
    · rw [if_neg hi] at e2; cases e2⟩
theorem gp_dict {st2 : Stmt} {x : Str} {p q r : Pos} (hc : X.calm = true) (hu : X.A.units + 64 < cLine) (hg : Gl X "dict") (hm : X.mg "dict" = none) (ha : GE X a da) (hN : X.N.Nodup) (hx : X.N[i]? = some x) (hl : Loc X.env.scope x) (h2 : GOs X i st2 f is) (he : starEach [a] X.env = (false, eval a X.env) :: starEach [] X.env := by rfl) (hpl : (backTo q (starEach ([] : List Expr) X.env)).any (·.1) = false := by rfl)
    (hs : swapsWith (.Call (.Name "dict" r) [a] [] q) (some (.Name x p)) pos.line X.env = pure false := by rfl) (hf : X.fn x = true ∨ X.env.scope.names.lookup x = some .local := by first | exact .inl rfl | exact .inr rfl | assumption) :
    GP X (.Assign [.Name x p] (.Call (.Name "dict" r) [a] [] q) pos) st2 (dOwn i (d1 mDict da) f) ([i] ++ is) :=
  ⟨_, _, ps_set hN hx hl (pe_callTy (call_dictT hc hu) hg hm (by decide +kernel) (pa_cons ha.pe pa_nil he) (by decide) (by decide) he hpl) hs hf, h2.ps, fun D σ H ⟨B, ρ, o, sm, en, e, k, k2⟩ => by
    obtain ⟨c, e1, e2⟩ := Option.bind_eq_some_iff.mp e
    by_cases hi : i < ρ.length
    · rw [if_pos hi] at e2
      obtain ⟨xs, e3, e4⟩ := Option.bind_eq_some_iff.mp e1
      obtain ⟨y, e5, e6⟩ := Option.bind_eq_some_iff.mp e3
      cases e6
      refine ⟨B, ρ, y, sm, en, e5, fun v B1 H1 a1 dv => ?_⟩
      match y, dv, e4 with
      | .tuple ds, .tup (a := a0) (xs := ws) h3 h4, e4 =>
        by_cases hl : ds.length ≤ 1000
        · have e7 : (if ds.length ≤ 1000 then (unRow ds).map fun ps => PyData.dict (mergeE [] ps) else none) = some c := e4
          rw [if_pos hl] at e7
          obtain ⟨ps, e8, e9⟩ := Option.map_eq_some_iff.mp e7
          subst e9
          obtain ⟨as, kvs, r1, r2, r3⟩ := h4.row (K := X.K) a1.i e8
          rw [unRow_rowish e8] at h3
          obtain ⟨ob, o1, o2⟩ := h3
          subst r1
          refine ⟨a0, ob, as, kvs, rfl, a1.i _ _ o2, o1, r2, fun p hp => ?_⟩
          exact own_go (st2 := st2) a1 (en.mono a1.b) (by rw [en.len]; exact hi) hp (u := .dT _) (c := .dict _) (DvE.merge r3 .nil) e2 k k2
        · have e7 : (if ds.length ≤ 1000 then (unRow ds).map fun ps => PyData.dict (mergeE [] ps) else none) = some c := e4
          rw [if_neg hl] at e7
          cases e7
    · rw [if_neg hi] at e2; cases e2⟩
end
end SK
set_option maxHeartbeats 1000000
/-! list(d.items()), sorted(d), d a dict with tuple keys. -/
namespace SK
open PySem PySem.Spec PyProof.Rows L2
/-! ### many things laid at once -/
def updM (H : Hp) : List (Addr × HO) → Hp
  | [] => H
  | p :: l => upd (updM H l) p.1 p.2
theorem updM_out {H : Hp} {b : Addr} : ∀ {l : List (Addr × HO)}, (∀ p ∈ l, p.1 ≠ b) → updM H l b = H b
  | [], _ => rfl
  | p :: l, h => by
    unfold updM
    rw [upd_ne (fun e => h p List.mem_cons_self e.symm)]
    exact updM_out fun q hq => h q (List.mem_cons_of_mem _ hq)
theorem updM_in {H : Hp} {b : Addr} {o : HO} : ∀ {l : List (Addr × HO)}, updM H l b = some o → (∃ p ∈ l, p.1 = b ∧ p.2 = o) ∨ ((∀ p ∈ l, p.1 ≠ b) ∧ H b = some o)
  | [], h => .inr ⟨fun p hp => (nomatch hp), h⟩
  | p :: l, h => by
    unfold updM at h
    by_cases e : b = p.1
    · rw [e, upd_same] at h; exact .inl ⟨p, List.mem_cons_self, e.symm, Option.some.inj h⟩
    · rw [upd_ne e] at h
      rcases updM_in h with ⟨q, hq, r⟩ | ⟨h1, h2⟩
      · exact .inl ⟨q, List.mem_cons_of_mem _ hq, r⟩
      · exact .inr ⟨fun q hq => (List.mem_cons.mp hq).elim (fun z => by rw [z]; exact fun z => e z.symm) (h1 q), h2⟩
/-- the entry of a list without doubles -/
theorem updM_at {H : Hp} : ∀ {l : List (Addr × HO)}, (l.map (·.1)).Nodup → ∀ p ∈ l, updM H l p.1 = some p.2
  | q :: l, hn, p, hp => by
    rw [List.map_cons, List.nodup_cons] at hn
    unfold updM
    rcases List.mem_cons.mp hp with e | hp
    · rw [e, upd_same]
    · rw [upd_ne (fun e => hn.1 (by rw [← e]; exact List.mem_map.mpr ⟨p, hp, rfl⟩))]
      exact updM_at hn.2 p hp
theorem none_M {H : Hp} {l : List (Addr × HO)} (h : ∀ p ∈ l, H p.1 = none) {b : Addr} {u : HO} (e : H b = some u) : ∀ p ∈ l, p.1 ≠ b := fun p hp z => by
  rw [← z, h p hp] at e; cases e
theorem At.newM {B H : Hp} (s : Same B H) (l : List (Addr × HO)) (h : ∀ p ∈ l, H p.1 = none) : At B (updM B l) H (updM H l) where
  b := fun a u e => by rw [updM_out (none_M h (s _ _ e))]; exact e
  i := fun a u e => by
    have key : ∀ l' : List (Addr × HO), (∀ p ∈ l', p ∈ l) → updM B l' a = some u → updM H l' a = some u := by
      intro l'
      induction l' with
      | nil => intro _ e; exact s a u e
      | cons p l' ih =>
        intro hs e
        unfold updM at e ⊢
        by_cases n : a = p.1
        · rw [n, upd_same] at e ⊢; exact e
        · rw [upd_ne n] at e ⊢; exact ih (fun q hq => hs q (List.mem_cons_of_mem _ hq)) e
    exact key l (fun _ h => h) e
  o := fun a u e => by rw [updM_out (none_M h e)]; exact e
  ap := fun a h1 h2 => by
    have : ∀ p ∈ l, p.1 ≠ a := fun p hp z => h2.ne (by rw [← z]; exact h p hp)
    rw [updM_out this]; exact h1
theorem laidM {X : Cx} {pins : List (Addr × Obj)} {σ : L2.St} {H : Hp} {s : Shared} {h' : Heap} {t' : Nat} (I : Inv X pins σ H s) (k : ∀ b u, s.heap.get? b = some u → h'.get? b = some u) (l : List (Addr × HO)) (hl : ∀ p ∈ l, s.heap.objs.size ≤ p.1)
    (new : ∀ p ∈ l, ObjOk X.prog X.w (updM H l) h' p.1 p.2) : Inv X pins σ (updM H l) { s with heap := h', toks := t' } := by
  have hn : ∀ p ∈ l, H p.1 = none := fun p hp => I.hok.fresh (hl p hp)
  refine I.un ⟨fun b u q _ _ _ => k b u q, fun b u q _ _ _ => ⟨u.slots, k b u q⟩, fun b u q n _ => ?_, fun b u q _ => ⟨u, k b u q⟩, fun b xs q => ?_, fun b u xs q => ?_, fun b ps q => ⟨#[], ?_⟩⟩ ?_
  · rw [updM_out (fun p hp e => Nat.lt_irrefl _ (Nat.lt_of_lt_of_le (Heap.lt_size q) (by rw [← e]; exact hl p hp)))]
    exact n
  · rw [updM_out (none_M hn q)]; exact q
  · rw [updM_out (none_M hn q)]; exact q
  · rw [updM_out (none_M hn q), q]; simp
  · intro b u e
    rcases updM_in e with ⟨p, hp, rfl, rfl⟩ | ⟨h1, h2⟩
    · exact new p hp
    · exact (I.hok b u h2).stay (fun c v _ q => k c v q) (fun c q => by rw [updM_out (none_M hn q)]; exact q) fun c xs q => by rw [updM_out (none_M hn q)]; exact q

/-! ### list(d.items()) -/
/-- the pairs, laid at as -/
def pairsAt : List Addr → List (List Key × V) → List Addr → List (Addr × HO)
  | a :: as, kv :: kvs, b :: bs => (a, .tup [.ref b, kv.2]) :: pairsAt as kvs bs
  | _, _, _ => []
theorem pairsAt_fst : ∀ {as : List Addr} {kvs : List (List Key × V)} {bs : List Addr}, as.length = kvs.length → bs.length = kvs.length → (pairsAt as kvs bs).map (·.1) = as
  | [], [], [], _, _ => rfl
  | a :: as, kv :: kvs, b :: bs, h1, h2 => by
    rw [pairsAt, List.map_cons, pairsAt_fst (Nat.succ.inj h1) (Nat.succ.inj h2)]
  | [], _ :: _, _, h, _ => nomatch h
  | _ :: _, [], _, h, _ => nomatch h
  | _, [], _ :: _, _, h => nomatch h
  | _, _ :: _, [], _, h => nomatch h
def rListItems : List V → Hp → VK → Prop := fun xs H Q => ∃ (v a : Addr) (kvs : List (List Key × V)), xs = [.ref v] ∧ H v = some (DX.itemsO v a) ∧ H a = some (.dT kvs) ∧
  ∀ (p : Addr) (as bs : List Addr), as.length = kvs.length → bs.length = kvs.length → (p :: as).Nodup → (∀ q ∈ p :: as, H q = none) → IsKeys H kvs bs → Q (.ref p) (updM H ((p, .lst (as.map V.ref)) :: pairsAt as kvs bs))
theorem cr_listItems {X : Cx} (hc : X.calm = true) : CallR X (.type "list") rListItems := by
  intro pins s σ H xs us Q I r h
  obtain ⟨v, a, kvs, rfl, hv, ha, q⟩ := h
  rw [Vals.ref1 r]
  obtain ⟨z, hm, ks, pr, o, es, ep, ho, hx, hdt, he, hn⟩ := (show ObjOk X.prog X.w H s.heap a (.dT kvs) from I.hok a _ ha)
  have iv : s.heap.IsItemsView v a := (I.hok v _ hv).1
  have l1 : es.size = ks.length := size_of_entries he
  have l2 : kvs.length = ks.length := Paired.length pr
  refine PySem.W.dil_call (I.ok.hd hc) iv ⟨o, ho, hx, hdt⟩ (by omega) fun h' tk acc c as k hl hal hG hacc => ?_
  have hlow : ∀ q ∈ s.heap.objs.size :: as, s.heap.objs.size ≤ q := fun q hq => (List.mem_cons.mp hq).elim (fun e => by rw [e]; exact Nat.le_refl _) fun hq => Nat.le_of_lt (hG.above q hq)
  have fresh : ∀ q ∈ s.heap.objs.size :: as, H q = none := fun q hq => I.hok.fresh (hlow q hq)
  have ndas : as.Nodup := hG.rise.imp fun h => Nat.ne_of_lt h
  have nd : (s.heap.objs.size :: as).Nodup := List.nodup_cons.mpr ⟨fun hm => Nat.lt_irrefl _ (hG.above _ hm), ndas⟩
  have hbl : (ks.map fun x => x.2.1).length = kvs.length := by rw [List.length_map, l2]
  have hasl : as.length = kvs.length := by rw [hal, l1, l2]
  have fst : ((s.heap.objs.size, HO.lst (as.map V.ref)) :: pairsAt as kvs (ks.map fun x => x.2.1)).map (·.1) = s.heap.objs.size :: as := by rw [List.map_cons, pairsAt_fst hasl hbl]
  have hz : (as.map V.ref).length ≤ sizeLine := by rw [List.length_map, hasl]; exact z
  have low : ∀ p ∈ (s.heap.objs.size, HO.lst (as.map V.ref)) :: pairsAt as kvs (ks.map fun x => x.2.1), s.heap.objs.size ≤ p.1 := fun p hp => hlow p.1 (by rw [← fst]; exact List.mem_map.mpr ⟨p, hp, rfl⟩)
  -- each pair's object
  have prs : ∀ (as : List Addr) (kvs : List (List Key × V)) (ks : List (List Key × Addr × Value)) (i0 : Nat), KT H kvs ks → (∀ (j : Nat) (a : Addr), as[j]? = some a → ∃ hj : i0 + j < es.size, h'.get? a = some { cls := .type "tuple", data := .seq #[es[i0 + j].key, es[i0 + j].val] }) →
      (∀ (j : Nat) x, ks[j]? = some x → es[i0 + j]? = some (entryOfKey (tupleKind (mixKind X.prog X.w)) x)) → ∀ p ∈ pairsAt as kvs (ks.map fun x => x.2.1), ObjOk X.prog X.w (updM H ((s.heap.objs.size, .lst (as.map V.ref)) :: pairsAt as kvs (ks.map fun x => x.2.1))) h' p.1 p.2 := by
    intro as
    have gen : ∀ (as : List Addr) (kvs : List (List Key × V)) (ks : List (List Key × Addr × Value)) (i0 : Nat), KT H kvs ks → (∀ (j : Nat) (a : Addr), as[j]? = some a → ∃ hj : i0 + j < es.size, h'.get? a = some { cls := .type "tuple", data := .seq #[es[i0 + j].key, es[i0 + j].val] }) →
        (∀ (j : Nat) x, ks[j]? = some x → es[i0 + j]? = some (entryOfKey (tupleKind (mixKind X.prog X.w)) x)) → ∀ p ∈ pairsAt as kvs (ks.map fun x => x.2.1), ∃ b y u, p.2 = .tup [.ref b, y] ∧ RelV y u ∧ h'.get? p.1 = some { cls := .type "tuple", data := .seq #[.ref b, u] } := by
      intro as
      induction as with
      | nil => intro kvs ks i0 _ _ _ p hp; cases kvs <;> exact nomatch hp
      | cons a as ih =>
        intro kvs ks i0 kt h1 h2 p hp
        cases kt with
        | nil => exact nomatch hp
        | @cons kv x kvs ks h t =>
          have hp' : p ∈ (a, HO.tup [.ref x.2.1, kv.2]) :: pairsAt as kvs (ks.map fun x => x.2.1) := hp
          rcases List.mem_cons.mp hp' with e | hp'
          · obtain ⟨hj, g⟩ := h1 0 a rfl
            have e2 := h2 0 x rfl
            rw [Nat.add_zero] at e2
            have hj' : i0 < es.size := by simpa using hj
            rw [Array.getElem?_eq_getElem hj'] at e2
            have e3 := Option.some.inj e2
            refine ⟨x.2.1, kv.2, x.2.2, by rw [e], h.2.2, ?_⟩
            rw [e]
            simp only [Nat.add_zero] at g
            rw [e3] at g
            exact g
          · refine ih kvs ks (i0 + 1) t (fun j b hb => ?_) (fun j y hy => ?_) p hp'
            · have := h1 (j + 1) b (by simpa using hb)
              rw [show i0 + 1 + j = i0 + (j + 1) by omega]
              exact this
            · have := h2 (j + 1) y (by simpa using hy)
              rw [show i0 + 1 + j = i0 + (j + 1) by omega]
              exact this
    intro kvs ks i0 kt h1 h2 p hp
    obtain ⟨b, y, u, e1, e2, e3⟩ := gen as kvs ks i0 kt h1 h2 p hp
    rw [e1]
    exact ⟨by show 2 ≤ sizeLine; decide, [.ref b, u], .cons rfl (.cons e2 .nil), _, e3, rfl, _, rfl⟩
  have J : Inv X pins σ (updM H ((s.heap.objs.size, .lst (as.map V.ref)) :: pairsAt as kvs (ks.map fun x => x.2.1))) { s with heap := h', toks := tk } := by
    refine laidM I k _ low fun p hp => ?_
    rcases List.mem_cons.mp hp with e | hp
    · rw [e]
      refine ⟨hz, acc.toList, c, ?_, by rw [Array.toArray_toList]; exact hl⟩
      rw [hacc]
      exact L2.vals_refs as
    · refine prs as kvs ks 0 pr (fun j b hb => ?_) (fun j y hy => ?_) p hp
      · obtain ⟨hj, g⟩ := hG.pairs j b hb
        refine ⟨by rw [Nat.zero_add]; exact hj, ?_⟩
        simp only [Nat.zero_add]
        exact g
      · rw [Nat.zero_add, entry_at he j, hy] <;> rfl
  exact ⟨.ref s.heap.objs.size, _, J, rfl, q _ as (ks.map fun x => x.2.1) hasl hbl nd fresh (isKeys_of pr)⟩
/-- some tuples of the heap brought into the part that is looked at -/
noncomputable def addT (B H : Hp) (bs : List Addr) : Hp := open Classical in fun a => if a ∈ bs then H a else B a
theorem At.addT {B H : Hp} (s : Same B H) {bs : List Addr} (h : ∀ b ∈ bs, ∃ xs, H b = some (.tup xs)) : At B (SK.addT B H bs) H H where
  b := fun a u e => by
    unfold SK.addT
    by_cases m : a ∈ bs
    · rw [if_pos m]; exact s a u e
    · rw [if_neg m]; exact e
  i := fun a u e => by
    unfold SK.addT at e
    by_cases m : a ∈ bs
    · rw [if_pos m] at e; exact e
    · rw [if_neg m] at e; exact s a u e
  o := Same.refl H
  ap := fun a h1 ⟨u, h2, h3⟩ => by
    unfold SK.addT
    by_cases m : a ∈ bs
    · obtain ⟨xs, e⟩ := h a m
      rw [h2] at e; cases e; cases h3
    · rw [if_neg m]; exact h1
theorem isKeys_tup {H : Hp} {kvs : List (List Key × V)} {bs : List Addr} (h : IsKeys H kvs bs) : ∀ b ∈ bs, ∃ xs, H b = some (.tup xs) := by
  unfold IsKeys at h
  induction h with
  | nil => exact fun b hb => nomatch hb
  | cons h t ih =>
    intro b hb
    rcases List.mem_cons.mp hb with e | hb
    · rw [e]; exact ⟨_, h⟩
    · exact ih b hb
theorem isKeys_in {B H : Hp} {kvs : List (List Key × V)} {bs : List Addr} (h : IsKeys H kvs bs) : IsKeys (addT B H bs) kvs bs := by
  have key : ∀ (cs : List Addr), (∀ c ∈ bs, c ∈ cs) → IsKeys (addT B H cs) kvs bs := by
    unfold IsKeys at h ⊢
    induction h with
    | nil => exact fun cs _ => .nil
    | cons h t ih =>
      intro cs hs
      refine .cons ?_ (ih cs fun c hc => hs c (List.mem_cons_of_mem _ hc))
      unfold addT
      rw [if_pos (hs _ List.mem_cons_self)]
      exact h
  exact key bs fun _ h => h
theorem IsKeys.mono {H H' : Hp} (s : Same H H') {kvs : List (List Key × V)} {bs : List Addr} (h : IsKeys H kvs bs) : IsKeys H' kvs bs := Paired.mapP h fun _ _ e => s _ _ e
/-- the entries as pairs -/
def pairsD : List (PyData × PyData) → List PyData
  | [] => []
  | e :: es => .tuple [e.1, e.2] :: pairsD es
def keysOkE : List (PyData × PyData) → Bool
  | [] => true
  | e :: es => (unKey e.1).isSome && keysOkE es
def dItems (d : DE) : DE := fun ρ => (d ρ).bind fun x => match x with
  | .dict es => if keysOkE es = true then some (.list (pairsD es)) else none
  | _ => none
theorem dv_pairs {B : Hp} : ∀ {as : List Addr} {kvs : List (List Key × V)} {bs : List Addr} {es : List (PyData × PyData)} {H2 : Hp}, DvE B kvs es → keysOkE es = true → as.length = kvs.length → bs.length = kvs.length → Paired (fun (p : List Key × V) b => H2 b = some (.tup (p.1.map kV))) kvs bs →
    Same B H2 → (∀ p ∈ pairsAt as kvs bs, H2 p.1 = some p.2) → DvA H2 (as.map V.ref) (pairsD es)
  | [], [], [], _, _, .nil, _, _, _, _, _, _ => .nil
  | a :: as, (k, v) :: kvs, b :: bs, _, H2, .cons (d := d) (es := es) h t, hk, h1, h2, .cons hb hbs, s, hp => by
    have hk' : ((unKey (keyD k)).isSome && keysOkE es) = true := hk
    rw [Bool.and_eq_true] at hk'
    obtain ⟨k', ek⟩ := Option.isSome_iff_exists.mp hk'.1
    obtain ⟨ek1, ek2⟩ := unKey_eq ek
    have kne : k ≠ [] := fun z => by rw [z] at ek; exact nomatch ek
    have nr : rowish [keyD k, d] = false := by
      cases k with
      | nil => exact absurd rfl kne
      | cons x r => cases x <;> rfl
    refine .cons ?_ (dv_pairs t hk'.2 (Nat.succ.inj h1) (Nat.succ.inj h2) hbs s fun p hpm => hp p (List.mem_cons_of_mem _ hpm))
    refine Dv.tup (xs := [.ref b, v]) ?_ (.cons ?_ (.cons (h.mono s) .nil))
    · show TupAt H2 a [.ref b, v] (rowish [keyD k, d])
      rw [nr]
      exact hp (a, .tup [.ref b, v]) List.mem_cons_self
    · refine Dv.tup (xs := k.map kV) ?_ (dv_kVs H2 k)
      rw [not_row kne]
      exact hb
  | [], _ :: _, _, _, _, _, _, h, _, _, _, _ => nomatch h
  | _ :: _, [], _, _, _, _, _, h, _, _, _, _ => nomatch h
section
variable {X : Cx} {a : Expr} {da : DE} {pos : Pos}
theorem ge_items {k : Nat} {p ap q : Pos} (o : Okx X k) (ha : GE X a da) (hg : Gl X "list" := by rfl) (hbase : attributeBase a "items" X.env (eval a X.env) = eval a X.env := by rfl) (hline : (ap.endLine == q.line) = true := by rfl)
    (na : starEach [.Call (.Attribute a "items" ap) [] [] q] X.env = (false, eval (.Call (.Attribute a "items" ap) [] [] q) X.env) :: starEach [] X.env := by rfl) (hpl : (backTo pos (starEach ([] : List Expr) X.env)).any (·.1) = false := by rfl) :
    GE X (.Call (.Name "list" p) [.Call (.Attribute a "items" ap) [] [] q] [] pos) (dItems da) :=
  ⟨PE.imp (pe_callTy (cr_listItems o.c) hg (o.m.free 65) (by decide +kernel) (pa_cons (pe_bm0 PySem.F.plainAttrs_dict PySem.F.slot_dict_items PySem.F.type_dict_items DX.mt_itemsT ha.pe hbase hline) pa_nil na) (by decide) (by decide) na hpl) fun σ H Q ⟨B, ρ, z, s, en, e, k⟩ => by
    obtain ⟨x, e1, e2⟩ := Option.bind_eq_some_iff.mp e
    refine ⟨B, ρ, x, s, en, e1, fun v B1 H1 a1 dv => ?_⟩
    match x, dv, e2 with
    | .dict es, .dic (a := a0) (kvs := kvs) h1 h2, e2 =>
      have e3 : (if keysOkE es = true then some (PyData.list (pairsD es)) else none) = some z := e2
      by_cases hk : keysOkE es = true
      · rw [if_pos hk] at e3
        cases e3
        have h1' := a1.i _ _ h1
        refine ⟨.inr (.inr (.inl ⟨rfl, .inr ⟨kvs, h1'⟩⟩)), a0, kvs, rfl, rfl, h1', fun w hw => ?_⟩
        have a2 := At.new a1.i hw (DX.itemsO w a0)
        have a2' : At B1 B1 H1 (upd H1 w (DX.itemsO w a0)) := ⟨Same.refl _, Same.upd a1.i (a1.i.free hw) _, a2.o, fun _ h _ => h⟩
        refine ⟨w, a0, kvs, rfl, upd_same, by rw [upd_ne (ne_of_none h1' hw)]; exact h1', fun p as bs l1 l2 nd fr hks => ?_⟩
        have fst : ((p, HO.lst (as.map V.ref)) :: pairsAt as kvs bs).map (·.1) = p :: as := by rw [List.map_cons, pairsAt_fst l1 l2]
        have fr2 : ∀ q ∈ (p, HO.lst (as.map V.ref)) :: pairsAt as kvs bs, (upd H1 w (DX.itemsO w a0)) q.1 = none := fun q hq => fr q.1 (by rw [← fst]; exact List.mem_map.mpr ⟨q, hq, rfl⟩)
        have aT := At.addT a2'.i (isKeys_tup hks)
        have a3 := At.newM aT.i _ fr2
        have dvs := h2.mono (aT.b.trans a3.b)
        have key := dv_pairs (B := _) dvs hk l1 l2 ((IsKeys.mono a3.b (isKeys_in (B := B1) hks))) (Same.refl _) fun q hq => ?_
        · refine k _ _ _ (((a1.trans a2').trans aT).trans a3) (.lst (xs := as.map V.ref) ?_ key)
          exact updM_at (by rw [fst]; exact nd) (p, .lst (as.map V.ref)) List.mem_cons_self
        · exact updM_at (by rw [fst]; exact nd) q (List.mem_cons_of_mem _ hq)
      · rw [if_neg hk] at e3; cases e3⟩
end
end SK
set_option maxHeartbeats 1000000
/-! sorted(d), d a dict with tuple keys. -/
namespace SK
open PySem PySem.Spec PyProof.Rows L2
abbrev AD := Addr × PyData
section
variable {P : Program} {w : World} {A : Around} {E : Value → Shared → Prop} {s : Shared}
theorem sorted_dictT {d : Addr} {es : Array DictEntry} {ep : Nat} {L : List AD} {Q : Value → Shared → Prop} (lo : (d == sysModules) = false) (hm : s.heap.DictRaw d es ep) (hn : es.size ≤ 1000) (hes : es.toList.map (·.key) = L.map fun q => Value.ref q.1) (hh : A.handled = none)
    (hL : ∀ p ∈ L, ∃ as, Reads s.heap (.ref p.1) p.2 as) (hk : ∀ p ∈ L, kOk p.2 = true) (so : SortOk (L.map (·.2))) (hu : A.units + 64 < cLine)
    (hQ : ∀ (h1 h' : Heap) (tk : Nat) (out : Array Value) (c : Nat) (L' : List AD), (∀ b o, s.heap.get? b = some o → h1.get? b = some o) → (∀ b o, s.heap.get? b = some o → h'.get? b = some o) →
      h'.get? h1.objs.size = some (seqObj "list" out c) → out.toList = L'.map (fun q => Value.ref q.1) → L'.Perm L → (L'.map (·.2)).Pairwise (fun a b => leD a b = true) → Q (.ref h1.objs.size) { s with heap := h', toks := tk }) :
    wpAny (model P w) A (call (.builtin "sorted") [.ref d]) Q E s := by
  refine Calls.call_function_entry kind_sorted plain_sorted entry_sorted (args_sorted1 _) ?_
  unfold Builtin.«sorted»
  refine wpAny_bind (m := checkCount "sorted" 1 1 _) (wpAny_pure ?_)
  have hl : L.length = es.size := by
    have := congrArg List.length hes
    rw [List.length_map, List.length_map, Array.length_toList] at this
    exact this.symm
  have hn2 : es.size ≤ sizeLine := le_line hn
  refine wpAny_bind (PySem.W.kdu_collect (A := A.in1) (KdlSrc.rawDict (es := es) (ep := ep) lo) hh hm hn2 fun h1 tk acc k1 it => ?_)
  have hacc : acc.toList = L.map fun q => Value.ref q.1 := by
    rw [← hes]
    apply List.ext_getElem?
    intro j
    rw [List.getElem?_map, Array.getElem?_toList, Array.getElem?_toList]
    cases hj : acc[j]? with
    | none =>
      have h1 := Array.getElem?_eq_none_iff.mp hj
      rw [Array.getElem?_eq_none (by have := it.1; omega)] <;> rfl
    | some v =>
      obtain ⟨hi, hv⟩ := it.2 j v hj
      rw [Array.getElem?_eq_getElem hi, hv] <;> rfl
  have hvl : acc.toList.length = L.length := by rw [hacc, List.length_map]
  refine wpAny_bind (wpAny_newList ?_ (by rw [hvl, hl]; exact hn2))
  generalize acc.toList = vs at hacc hvl ⊢
  have hoL : (h1.push (seqObj "list" vs.toArray 0)).get? h1.objs.size = some (seqObj "list" vs.toArray 0) := Heap.get?_push_size _ rfl
  have er : ∀ (L1 : List AD), (∀ q ∈ L1, q ∈ L) → PySem.W.EachIs (fun v (b : AD) => ∃ as, Reads (h1.push (seqObj "list" vs.toArray 0)) v b.2 as ∧ h1.objs.size ∉ as) (L1.map fun q => Value.ref q.1) L1 := by
    intro L1
    induction L1 with
    | nil => intro _; exact .nil
    | cons q L1 ih =>
      intro hs
      refine .cons ?_ (ih fun r hr => hs r (List.mem_cons_of_mem _ hr))
      have hq := hs q List.mem_cons_self
      obtain ⟨as, r⟩ := hL q hq
      obtain ⟨ea, _⟩ := reads_key _ _ _ (hk q hq) r
      subst ea
      exact ⟨[], PyProof.Rows.Reads.keeps (fun b u e => Heap.get?_push_of_some _ (k1 b u e)) r, fun z => nomatch z⟩
  have ev : ∀ L1 : List AD, PySem.W.EachIs (fun v (b : AD) => v = Value.ref b.1) (L1.map fun q => Value.ref q.1) L1 := by
    intro L1
    induction L1 with
    | nil => exact .nil
    | cons q L1 ih => exact .cons rfl ih
  subst hacc
  refine wpAny_bind (wpAny_holding (PySem.W.list_sort_data (s := { s with heap := h1.push (seqObj "list" (L.map fun q => Value.ref q.1).toArray 0), toks := tk }) (R := fun v (b : AD) => v = Value.ref b.1) (enc := Prod.snd) hoL (ev L) (er L fun _ h => h) so.1 so.2.1 (by rw [hl]; exact hn2) (fun b hb => ?_) fun out a1 a2 => ?_))
  · have := (so.2.2.2 _ (List.mem_map.mpr ⟨b, hb, rfl⟩)).1
    simp only [Around.in1_units]
    omega
  obtain ⟨c, hc⟩ := sortedHeap_at (vs := L.map fun q => Value.ref q.1) (out := out.toArray) hoL
  have ro : ∀ {vs : List Value} {L2 : List AD}, PySem.W.EachIs (fun v (b : AD) => v = Value.ref b.1) vs L2 → vs = L2.map fun q => Value.ref q.1 := by
    intro vs L2 h
    induction h with
    | nil => rfl
    | cons h _ ih => rw [h, ih] <;> rfl
  refine wpAny_pure ⟨_, rfl, hQ h1 _ tk out.toArray c (L.mergeSort (PySem.W.dataLe false Prod.snd)) k1 (fun b u e => ?_) hc (ro a2) (List.mergeSort_perm _ _) ?_⟩
  · have q := k1 b u e
    have hlt := Heap.lt_size q
    show (sortedHeap (h1.push (seqObj "list" (L.map fun q => Value.ref q.1).toArray 0)) h1.objs.size (L.map fun q => Value.ref q.1) out.toArray).get? b = some u
    rw [sortedHeap_old (Nat.ne_of_lt hlt) (by rw [size_push']; exact Nat.lt_succ_of_lt hlt)]
    exact Heap.get?_push_of_some _ q
  · rw [show (L.mergeSort (PySem.W.dataLe false Prod.snd)).map (·.2) = (L.map Prod.snd).mergeSort leD from PySem.W.sort_maps Prod.snd fun _ _ _ _ => rfl]
    exact leD_sorted _
end
section
variable {X : Cx}
def rSortDT (K : PySem.W.Frag) : List V → Hp → VK → Prop := fun vs H Q => ∃ (a : Addr) (kvs : List (List Key × V)), vs = [.ref a] ∧ H a = some (.dT kvs) ∧ kvs.length ≤ 1000 ∧ SortOk (kvs.map fun kv => keyD kv.1) ∧ (∀ kv ∈ kvs, kOk (keyD kv.1) = true ∧ kv.1 ≠ []) ∧
  ∀ (bs : List Addr) (L' : List AD) (p : Addr), IsKeys H kvs bs → L'.Perm (bs.zip (kvs.map fun kv => keyD kv.1)) → (L'.map (·.2)).Pairwise (fun a b => leD a b = true) → H p = none → Q (.ref p) (upd H p (.lst (L'.map fun q => V.ref q.1)))
theorem ad_vals : ∀ ks : List AD, Vals (ks.map fun p => V.ref p.1) (ks.map fun p => Value.ref p.1)
  | [] => .nil
  | _ :: ks => .cons rfl (ad_vals ks)
theorem dp_key {K : PySem.W.Frag} {H : Hp} {b : Addr} {k : List Key} (h : H b = some (.tup (k.map kV))) : Dp K H (.ref b) (keyD k) := by
  have key : ∀ k : List Key, DpAll K H (k.map kV) (k.map kD) := by
    intro k
    induction k with
    | nil => exact .nil
    | cons x r ih => cases x with
      | inl i => exact .cons (.int i) ih
      | inr y => exact .cons (.str y) ih
  exact .tup (.inl (.inl h)) (key k)
theorem cr_sortDT (hc : X.calm = true) (hu : X.A.units + 64 < cLine) : CallR X (.builtin "sorted") (rSortDT X.K) := by
  intro pins s σ H vs us Q I r h
  obtain ⟨a, kvs, rfl, ha, hn, so, hk, q⟩ := h
  rw [Vals.ref1 r]
  obtain ⟨z, hm, ks, pr, o, es, ep, ho, hx, hdt, he, hnd⟩ := (show ObjOk X.prog X.w H s.heap a (.dT kvs) from I.hok a _ ha)
  have l1 : es.size = ks.length := size_of_entries he
  have l2 : kvs.length = ks.length := Paired.length pr
  have hks := isKeys_of pr
  -- keys and addresses
  have hzip : (((ks.map fun x => x.2.1).zip (kvs.map fun kv => keyD kv.1)).map (·.1)) = ks.map fun x => x.2.1 := by
    rw [List.map_fst_zip]; rw [List.length_map, List.length_map, l2]; exact Nat.le_refl _
  have hzip2 : (((ks.map fun x => x.2.1).zip (kvs.map fun kv => keyD kv.1)).map (·.2)) = kvs.map fun kv => keyD kv.1 := by
    rw [List.map_snd_zip]; rw [List.length_map, List.length_map, l2]; exact Nat.le_refl _
  have mem : ∀ p ∈ (ks.map fun x => x.2.1).zip (kvs.map fun kv => keyD kv.1), ∃ kv ∈ kvs, p.2 = keyD kv.1 ∧ H p.1 = some (.tup (kv.1.map kV)) := by
    have gen : ∀ {kvs : List (List Key × V)} {bs : List Addr}, IsKeys H kvs bs → ∀ p ∈ bs.zip (kvs.map fun kv => keyD kv.1), ∃ kv ∈ kvs, p.2 = keyD kv.1 ∧ H p.1 = some (.tup (kv.1.map kV)) := by
      intro kvs bs hh
      unfold IsKeys at hh
      induction hh with
      | nil => intro p hp; exact nomatch hp
      | cons h t ih =>
        intro p hp
        rw [List.map_cons, List.zip_cons_cons] at hp
        rcases List.mem_cons.mp hp with e | hp
        · rw [e]; exact ⟨_, List.mem_cons_self, rfl, h⟩
        · obtain ⟨kv, h1, h2⟩ := ih p hp
          exact ⟨kv, List.mem_cons_of_mem _ h1, h2⟩
    exact gen hks
  refine sorted_dictT (P := X.prog) (w := X.w) (L := (ks.map fun x => x.2.1).zip (kvs.map fun kv => keyD kv.1)) hm ⟨o, ho, hx, hdt⟩ (by omega) ?_ (I.ok.hd hc) (fun p hp => ?_) (fun p hp => ?_) ?_ hu fun h1 h' tk out c L' k1 k2 hp hout pm pw => ?_
  · rw [show (fun q : AD => Value.ref q.1) = Value.ref ∘ (fun q : AD => q.1) from rfl, ← List.map_map, hzip, he, List.map_map, List.map_map]
    rfl
  · obtain ⟨kv, _, e, hb⟩ := mem p hp
    rw [e]
    exact Dp.reads I _ _ _ (dp_key hb) rfl
  · obtain ⟨kv, h1, e, _⟩ := mem p hp
    rw [e]; exact (hk kv h1).1
  · rw [hzip2]; exact so
  · have hn1 : s.heap.get? h1.objs.size = none := by
      cases e : s.heap.get? h1.objs.size with
      | none => rfl
      | some u => exact absurd (Heap.lt_size (k1 _ _ e)) (Nat.lt_irrefl _)
    have hn2 : H h1.objs.size = none := (I.hok.kept k1).fresh (Nat.le_refl _)
    have hlen : (L'.map fun q => V.ref q.1).length ≤ sizeLine := by
      rw [List.length_map, pm.length_eq, List.length_zip, List.length_map, List.length_map]
      exact le_line (by omega)
    have J : Inv X pins σ (upd H h1.objs.size (.lst (L'.map fun q => V.ref q.1))) { s with heap := h', toks := tk } :=
      I.laidN k2 hn1 hn2 ⟨hlen, out.toList, c, by rw [hout]; exact ad_vals L', hp⟩
    exact ⟨.ref h1.objs.size, _, J, rfl, q _ L' _ hks pm pw hn2⟩
/-! ### by data -/
def SortKeys (es : List (PyData × PyData)) : Prop := es.length ≤ 1000 ∧ SortOk (es.map (·.1)) ∧ ∀ e ∈ es, kOk e.1 = true ∧ (unKey e.1).isSome = true
open Classical in
noncomputable def dSortD (d : DE) : DE := fun ρ => (d ρ).bind fun x => match x with
  | .dict es => if SortKeys es then some (.list ((es.map (·.1)).mergeSort leD)) else none
  | _ => none
theorem DvE.keys {H : Hp} : ∀ {kvs : List (List Key × V)} {es : List (PyData × PyData)}, DvE H kvs es → es.map (·.1) = kvs.map fun kv => keyD kv.1
  | _, _, .nil => rfl
  | _, _, .cons _ t => by rw [List.map_cons, List.map_cons, DvE.keys t] <;> rfl
variable {a : Expr} {da : DE} {pos : Pos}
theorem ge_sortD {k : Nat} {p : Pos} (o : Okx X k) (ha : GE X a da) (hg : Gl X "sorted" := by rfl) (he : starEach [a] X.env = (false, eval a X.env) :: starEach [] X.env := by rfl) (hpl : (backTo pos (starEach ([] : List Expr) X.env)).any (·.1) = false := by rfl) :
    GE X (.Call (.Name "sorted" p) [a] [] pos) (dSortD da) := ⟨PE.imp (pe_callB (cr_sortDT o.c (by have := o.hu; omega)) hg (o.m.free 66) (by decide +kernel) (pa_cons ha.pe pa_nil he) (by decide) (by decide) he hpl) fun σ H Q ⟨B, ρ, z, s, en, e, k⟩ => by
    obtain ⟨x, e1, e2⟩ := Option.bind_eq_some_iff.mp e
    refine ⟨B, ρ, x, s, en, e1, fun v B1 H1 a1 dv => ?_⟩
    match x, dv, e2 with
    | .dict es, .dic (a := a0) (kvs := kvs) h1 h2, e2 =>
      by_cases so : SortKeys es
      · obtain rfl : PyData.list ((es.map (·.1)).mergeSort leD) = z := by
          classical
          have e3 : (if SortKeys es then some (PyData.list ((es.map (·.1)).mergeSort leD)) else none) = some z := by simpa using e2
          rw [if_pos so] at e3
          exact Option.some.inj e3
        have ek := h2.keys
        have kk : ∀ kv ∈ kvs, kOk (keyD kv.1) = true ∧ kv.1 ≠ [] := fun kv hkv => by
          have : keyD kv.1 ∈ es.map (·.1) := by rw [ek]; exact List.mem_map.mpr ⟨kv, hkv, rfl⟩
          obtain ⟨e9, h9, h10⟩ := List.mem_map.mp this
          have := so.2.2 e9 h9
          rw [h10] at this
          refine ⟨this.1, fun z => ?_⟩
          rw [z] at this
          exact nomatch this.2
        refine ⟨a0, kvs, rfl, a1.i _ _ h1, by rw [h2.length]; exact so.1, by rw [← ek]; exact so.2.1, kk, fun bs L' p hks pm pw hp => ?_⟩
        have aT := At.addT a1.i (isKeys_tup hks)
        have a3 := At.new aT.i hp (.lst (L'.map fun q => V.ref q.1))
        have lbs : bs.length = kvs.length := (Paired.length hks).symm
        have eq : L'.map (·.2) = (es.map (·.1)).mergeSort leD := by
          have pm2 : (L'.map (·.2)).Perm (es.map (·.1)) := by
            have := pm.map (·.2)
            rw [List.map_snd_zip (by rw [List.length_map, lbs]; exact Nat.le_refl _), ← ek] at this
            exact this
          exact sorted_unique (ds := es.map (·.1)) (fun d hd => by
            obtain ⟨e9, h9, h10⟩ := List.mem_map.mp hd
            rw [← h10]; exact (so.2.2 e9 h9).1) so.2.1.1 pm2 (List.mergeSort_perm _ _) pw (leD_sorted _)
        have each : ∀ p ∈ L', Dv (addT B1 H1 bs) (.ref p.1) p.2 := by
          have hks2 := isKeys_in (B := B1) hks
          have gen : ∀ {kvs : List (List Key × V)} {bs : List Addr}, IsKeys (addT B1 H1 bs) kvs bs → (∀ kv ∈ kvs, kv.1 ≠ []) → True := fun _ _ => trivial
          have gen2 : ∀ (G : Hp) {kvs : List (List Key × V)} {bs : List Addr}, IsKeys G kvs bs → (∀ kv ∈ kvs, kv.1 ≠ []) → ∀ p ∈ bs.zip (kvs.map fun kv => keyD kv.1), Dv G (.ref p.1) p.2 := by
            intro G kvs bs hh
            unfold IsKeys at hh
            induction hh with
            | nil => intro _ p hp; exact nomatch hp
            | @cons kv b kvs bs h t ih =>
              intro hne p hp
              rw [List.map_cons, List.zip_cons_cons] at hp
              rcases List.mem_cons.mp hp with e | hp
              · rw [e]
                refine Dv.tup (xs := kv.1.map kV) ?_ (dv_kVs G kv.1)
                rw [not_row (hne kv List.mem_cons_self)]
                exact h
              · exact ih (fun kv h => hne kv (List.mem_cons_of_mem _ h)) p hp
          exact fun p hp => gen2 _ hks2 (fun kv h => (kk kv h).2) p (pm.mem_iff.mp hp)
        have dvs : ∀ L1 : List AD, (∀ p ∈ L1, Dv (addT B1 H1 bs) (.ref p.1) p.2) → DvA (addT B1 H1 bs) (L1.map fun q => V.ref q.1) (L1.map (·.2)) := by
          intro L1
          induction L1 with
          | nil => intro _; exact .nil
          | cons q L1 ih => exact fun h => .cons (h q List.mem_cons_self) (ih fun p hp => h p (List.mem_cons_of_mem _ hp))
        rw [← eq] at k
        exact k _ _ _ ((a1.trans aT).trans a3) (.lst upd_same ((dvs L' each).mono a3.b))
      · exfalso
        classical
        have e3 : (if SortKeys es then some (PyData.list ((es.map (·.1)).mergeSort leD)) else none) = some z := by simpa using e2
        rw [if_neg so] at e3
        cases e3⟩
end
end SK
set_option maxHeartbeats 1000000
namespace SK
open PySem PySem.Spec PyProof.Rows L2
def bMul : PyData → PyData → Option PyData
  | .int i, .int j => if (0 ≤ i ∧ i ≤ 1000) ∧ 0 ≤ j then some (.int (i * j)) else none
  | _, _ => none
theorem rel_mul : Rel2 (fun x y H Q => ∃ n m : Nat, x = .int (n : Int) ∧ y = .int (m : Int) ∧ n ≤ 4294967296 ∧ Q (.int ((n * m : Nat) : Int)) H) bMul := by
  intro x y d e z B H Q s hx hy hf k
  cases hx with
  | int i =>
    cases hy with
    | int j =>
      by_cases h : (0 ≤ i ∧ i ≤ 1000) ∧ 0 ≤ j
      · have g : (if (0 ≤ i ∧ i ≤ 1000) ∧ 0 ≤ j then some (PyData.int (i * j)) else none) = some z := hf
        rw [if_pos h] at g
        cases g
        obtain ⟨n, rfl⟩ := Int.eq_ofNat_of_zero_le h.1.1
        obtain ⟨m, rfl⟩ := Int.eq_ofNat_of_zero_le h.2
        refine ⟨n, m, rfl, rfl, by omega, ?_⟩
        rw [Int.natCast_mul]
        exact k _ B H (At.refl s) (.int _)
      · have g : (if (0 ≤ i ∧ i ≤ 1000) ∧ 0 ≤ j then some (PyData.int (i * j)) else none) = some z := hf
        rw [if_neg h] at g
        cases g
    | _ => exact nomatch hf
  | _ => cases hy <;> exact nomatch hf
theorem e_mul {X : Cx} {k : Nat} {a b : Expr} {da db : DE} {pos : Pos} (o : Okx X k) (ha : GE X a da) (hb : GE X b db) : GE X (.BinOp a .Mult b pos) (dOp bMul da db) := ge_op op_mulN rel_mul ha hb
end SK
set_option maxHeartbeats 4000000
namespace SK
open PySem PySem.Spec PyProof.Rows L2
section
variable {P : Program} {w : World} {K : PySem.W.Frag} {mg : Str → Option Value} {base : Heap}
theorem sc_joined : FnScope ["row", "other", "found", "spot", "plus"] ["row", "other"] (defScope (top 21)) := ⟨rfl, rfl, rfl, by decide +kernel, rfl, by decide +kernel, by decide +kernel⟩
noncomputable def s_joined : DS := dSeq (dOwn 2 (d1 mDict (dVar 0)) (dForO 2 (iSeq (dVar 1)) (bTup [bName 3, bName 4]) (dPut 2 (dVar 3) (d2 mMax (dVar 4) (dGet2 (dVar 2) (dVar 3) (dC (.int 0))))))) (dRet (d1 mTuple (d1 mSorted (dItems (dVar 2)))))
noncomputable def m_joined : List PyData → Option PyData := mOf 5 2 s_joined
theorem ok_joined (M : Md K mg) : CalD P w K mg base 1 "joined" ["row", "other"] (spD 2 m_joined) := by
  refine CalD.data (k := 0) (N := ["row", "other", "found", "spot", "plus"]) M 11 sc_joined (fun _ _ _ _ _ _ us hl => match us, hl with | [_, _], _ => rfl) fun f cdv A outer s0 H E hr => ?_
  have o : Okx (cxD P w K mg base ["row", "other", "found", "spot", "plus"] "joined" (defScope (top 21)) f cdv A outer s0 H E) 0 := ⟨M, hr, rfl⟩
  have nd := sc_joined.nd
  exact gb_pair (gp_dict (i := 2) o.c (by have := o.hu; omega) rfl (o.m.free 70) (ge_var 0 (pv 0)) nd rfl (Or.inl rfl) (o_for PassesOwn.never rfl (gi_seq (ge_var 1 (pv 1))) (gg_tup rfl (ggs_cons (gg_name (i := 3) (pg_name nd rfl (Or.inl rfl))) (ggs_cons (gg_name (i := 4) (pg_name nd rfl (Or.inl rfl))) ggs_nil))) (o_one (o_put (i := 2) (by have := o.hu; omega) rfl (Or.inl rfl) (ge_var 3 (pv 3)) (b_max2 o (ge_var 4 (pv 4)) (e_get2 o (ge_var 2 (pv 2)) (ge_var 3 (pv 3)) ge_int)))))) (gb_one (gs_ret (b_tuple o (b_sorted o (ge_items o (ge_var 2 (pv 2)))))))
theorem sc_both : FnScope ["form", "other", "one", "two", "row", "more"] ["form", "other"] (defScope (top 23)) := ⟨rfl, rfl, rfl, by decide +kernel, rfl, by decide +kernel, by decide +kernel⟩
noncomputable def s_both : DS := dSeq (dAsg (dTup (dCons (dCall 1 m_tupled (dCons (dVar 0) dNil)) (dCons (dCall 1 m_tupled (dCons (dVar 1) dNil)) dNil))) (bTup [bName 2, bName 3])) (dSeq (dIfS (dOp bGt (dOp bMul (d1 mLen (dVar 2)) (d1 mLen (dVar 3))) (dC (.int 400))) dNever dNext) (dRet (dCall 1 m_least_of (dCons (dLc2 [4, 5] (iSeq (dVar 2)) (bName 4) dYes (iSeq (dVar 3)) [5] (bName 5) dYes (dCall 2 m_joined (dCons (dVar 4) (dCons (dVar 5) dNil)))) dNil))))
noncomputable def m_both : List PyData → Option PyData := mOf 6 2 s_both
theorem ok_both (M : Md K mg) : CalD P w K mg base 12 "both" ["form", "other"] (spD 2 m_both) := by
  refine CalD.data (k := 11) (N := ["form", "other", "one", "two", "row", "more"]) M 13 sc_both (fun _ _ _ _ _ _ us hl => match us, hl with | [_, _], _ => rfl) fun f cdv A outer s0 H E hr => ?_
  have o : Okx (cxD P w K mg base ["form", "other", "one", "two", "row", "more"] "both" (defScope (top 23)) f cdv A outer s0 H E) 11 := ⟨M, hr, rfl⟩
  have nd := sc_both.nd
  exact gb_cons (gs_asg (ge_tup (ga_cons (ge_cal (ok_tupled M) o.r (by decide) (ga_cons (ge_var 0 (pv 0)) ga_nil)) (ga_cons (ge_cal (ok_tupled M) o.r (by decide) (ga_cons (ge_var 1 (pv 1)) ga_nil)) ga_nil))) (gg_tup rfl (ggs_cons (gg_name (i := 2) (pg_name nd rfl (Or.inl rfl))) (ggs_cons (gg_name (i := 3) (pg_name nd rfl (Or.inr rfl))) ggs_nil)))) (gb_cons (gs_if (gt_gt (e_mul o (b_len o (ge_var 2 (pv 2))) (b_len o (ge_var 3 (pv 3)))) (g_int (o.m.int 81))) (gb_one gs_never) gb_nil) (gb_one (gs_ret (ge_cal (ok_least_of M) o.r (by decide) (ga_cons (ge_lc2 (own := [("row", 4), ("more", 5)]) (vs1 := [5]) rfl nd (gi_seq (ge_var 2 (pv 2))) (blkOk_by (by kernel_rfl)) (by decide) (fun _ _ _ _ _ => gg_name (i := 4) (pg_name nd rfl (Or.inl rfl))) (fun _ _ _ _ _ => gts_nil) (fun _ _ _ _ _ => gi_seq (ge_var 3 (pv 3))) (fun _ _ _ _ _ => gg_name (i := 5) (pg_name nd rfl (Or.inl rfl))) (fun _ _ _ _ _ => gts_nil) (fun _ _ _ _ _ => ge_cal (ok_joined M) o.blk.r (by decide) (ga_cons (ge_var 4 (pv 4)) (ga_cons (ge_var 5 (pv 5)) ga_nil)))) ga_nil)))))
theorem sc_form_of_line : FnScope ["house", "line", "lost", "forms", "found", "form", "number"] ["house", "line", "lost"] (defScope (top 42)) := ⟨rfl, rfl, rfl, by decide +kernel, rfl, by decide +kernel, by decide +kernel⟩
noncomputable def s_form_of_line : DS := dSeq (dAsg (dLc [6] (iSeq (dOp bIx (dVar 1) (dC (.int 2)))) (bName 6) dYes (dCall 3 m_form_of_zone (dCons (dVar 0) (dCons (dVar 6) (dCons (dVar 2) dNil))))) (bName 3)) (dSeq (dAsg (dOp bIx (dVar 3) (dC (.int 0))) (bName 4)) (dSeq (dFor (iSeq (dSl (dVar 3) (oSome (dC (.int 1))) oNone)) (bName 5) (dAsg (dIf (dOp bEq (dOp bIx (dVar 1) (dC (.int 1))) (dC (.str "any"))) (dCall 2 m_either (dCons (dVar 4) (dCons (dVar 5) dNil))) (dCall 2 m_both (dCons (dVar 4) (dCons (dVar 5) dNil)))) (bName 4))) (dRet (dCall 2 m_after (dCons (dVar 4) (dCons (dOp bIx (dVar 1) (dC (.int 3))) dNil))))))
noncomputable def m_form_of_line : List PyData → Option PyData := mOf 7 3 s_form_of_line
theorem ok_form_of_line (M : Md K mg) : CalD P w K mg base 14 "form_of_line" ["house", "line", "lost"] (spD 3 m_form_of_line) := by
  refine CalD.data (k := 13) (N := ["house", "line", "lost", "forms", "found", "form", "number"]) M 23 sc_form_of_line (fun _ _ _ _ _ _ us hl => match us, hl with | [_, _, _], _ => rfl) fun f cdv A outer s0 H E hr => ?_
  have o : Okx (cxD P w K mg base ["house", "line", "lost", "forms", "found", "form", "number"] "form_of_line" (defScope (top 42)) f cdv A outer s0 H E) 13 := ⟨M, hr, rfl⟩
  have nd := sc_form_of_line.nd
  exact gb_cons (gs_setLc (i := 3) (own := [("number", 6)]) rfl nd rfl rfl rfl (gi_seq (ge_ix (ge_var 1 (pv 1)) (g_int (o.m.int 86)))) (blkOk_by (by kernel_rfl)) (fun _ _ _ _ _ => gg_name (i := 6) (pg_name nd rfl (Or.inl rfl))) (fun _ _ _ _ _ => gts_nil) (fun _ _ _ _ _ => ge_cal (ok_form_of_zone M) o.blk.r (by decide) (ga_cons (ge_var 0 (pv 0)) (ga_cons (ge_var 6 (pv 6)) (ga_cons (ge_var 2 (pv 2)) ga_nil))))) (gb_cons (gs_set (ps_set (i := 4) nd rfl (Or.inl rfl) (ge_ix (ge_var 3 (pv 3)) ge_int).pe)) (gb_cons (gs_for PassesOwn.never rfl (gi_seq (ge_sl (ge_var 3 (pv 3)) (go_some ge_int) go_none)) (gg_name (i := 5) (pg_name nd rfl (Or.inl rfl))) (gb_one (gs_set (ps_set (i := 4) nd rfl (Or.inl rfl) (ge_ifExp (t_eq o (ge_ix (ge_var 1 (pv 1)) (g_int (o.m.int 85))) ge_str) (ge_cal (ok_either M) o.r (by decide) (ga_cons (ge_var 4 (pv 4)) (ga_cons (ge_var 5 (pv 5)) ga_nil))) (ge_cal (ok_both M) o.r (by decide) (ga_cons (ge_var 4 (pv 4)) (ga_cons (ge_var 5 (pv 5)) ga_nil)))).pe)))) (gb_one (gs_ret (ge_cal (ok_after M) o.r (by decide) (ga_cons (ge_var 4 (pv 4)) (ga_cons (ge_ix (ge_var 1 (pv 1)) (g_int (o.m.int 87))) ga_nil)))))))
theorem sc_form_of_out : FnScope ["house", "lines", "out", "lost", "found", "line"] ["house", "lines", "out", "lost"] (defScope (top 43)) := ⟨rfl, rfl, rfl, by decide +kernel, rfl, by decide +kernel, by decide +kernel⟩
noncomputable def s_form_of_out : DS := dSeq (dAsg (dTup dNil) (bName 4)) (dSeq (dFor (iSeq (dVar 1)) (bName 5) (dIfS (dOp bEq (dOp bIx (dVar 5) (dC (.int 5))) (dVar 2)) (dAsg (dCall 2 m_either (dCons (dVar 4) (dCons (dCall 3 m_form_of_line (dCons (dVar 0) (dCons (dVar 5) (dCons (dVar 3) dNil)))) dNil))) (bName 4)) dNext)) (dRet (dVar 4)))
noncomputable def m_form_of_out : List PyData → Option PyData := mOf 6 4 s_form_of_out
theorem ok_form_of_out (M : Md K mg) : CalD P w K mg base 15 "form_of_out" ["house", "lines", "out", "lost"] (spD 4 m_form_of_out) := by
  refine CalD.data (k := 14) (N := ["house", "lines", "out", "lost", "found", "line"]) M 24 sc_form_of_out (fun _ _ _ _ _ _ us hl => match us, hl with | [_, _, _, _], _ => rfl) fun f cdv A outer s0 H E hr => ?_
  have o : Okx (cxD P w K mg base ["house", "lines", "out", "lost", "found", "line"] "form_of_out" (defScope (top 43)) f cdv A outer s0 H E) 14 := ⟨M, hr, rfl⟩
  have nd := sc_form_of_out.nd
  exact gb_cons (gs_set (ps_set (i := 4) nd rfl (Or.inl rfl) (ge_tup ga_nil).pe)) (gb_cons (gs_for PassesOwn.never rfl (gi_seq (ge_var 1 (pv 1))) (gg_name (i := 5) (pg_name nd rfl (Or.inl rfl))) (gb_one (gs_if (t_eq o (ge_ix (ge_var 5 (pv 5)) (g_int (o.m.int 88))) (ge_var 2 (pv 2))) (gb_one (gs_set (ps_set (i := 4) nd rfl (Or.inl rfl) (ge_cal (ok_either M) o.r (by decide) (ga_cons (ge_var 4 (pv 4)) (ga_cons (ge_cal (ok_form_of_line M) o.r (by decide) (ga_cons (ge_var 0 (pv 0)) (ga_cons (ge_var 5 (pv 5)) (ga_cons (ge_var 3 (pv 3)) ga_nil)))) ga_nil))).pe))) gb_nil))) (gb_one (gs_ret (ge_var 4 (pv 4)))))
theorem sc_is_prompt : FnScope ["house", "lines", "out", "zone", "many", "more"] ["house", "lines", "out", "zone", "many"] (defScope (top 44)) := ⟨rfl, rfl, rfl, by decide +kernel, rfl, by decide +kernel, by decide +kernel⟩
noncomputable def s_is_prompt : DS := dSeq (dAsg (dCall 2 m_late_by (dCons (dCall 4 m_form_of_out (dCons (dVar 0) (dCons (dVar 1) (dCons (dVar 2) (dCons (dTup dNil) dNil))))) (dCons (dCall 3 m_form_of_zone (dCons (dVar 0) (dCons (dVar 3) (dCons (dTup dNil) dNil)))) dNil))) (bName 5)) (dRet (dAnd (dOp bNotN (dVar 5) (dC .none)) (dOp bLe (dVar 5) (dVar 4))))
noncomputable def m_is_prompt : List PyData → Option PyData := mOf 6 5 s_is_prompt
theorem ok_is_prompt (M : Md K mg) : CalD P w K mg base 16 "is_prompt" ["house", "lines", "out", "zone", "many"] (spD 5 m_is_prompt) := by
  refine CalD.data (k := 15) (N := ["house", "lines", "out", "zone", "many", "more"]) M 25 sc_is_prompt (fun _ _ _ _ _ _ us hl => match us, hl with | [_, _, _, _, _], _ => rfl) fun f cdv A outer s0 H E hr => ?_
  have o : Okx (cxD P w K mg base ["house", "lines", "out", "zone", "many", "more"] "is_prompt" (defScope (top 44)) f cdv A outer s0 H E) 15 := ⟨M, hr, rfl⟩
  have nd := sc_is_prompt.nd
  exact gb_cons (gs_set (ps_set (i := 5) nd rfl (Or.inl rfl) (ge_cal (ok_late_by M) o.r (by decide) (ga_cons (ge_cal (ok_form_of_out M) o.r (by decide) (ga_cons (ge_var 0 (pv 0)) (ga_cons (ge_var 1 (pv 1)) (ga_cons (ge_var 2 (pv 2)) (ga_cons (ge_tup ga_nil) ga_nil))))) (ga_cons (ge_cal (ok_form_of_zone M) o.r (by decide) (ga_cons (ge_var 0 (pv 0)) (ga_cons (ge_var 3 (pv 3)) (ga_cons (ge_tup ga_nil) ga_nil)))) ga_nil))).pe)) (gb_one (gs_ret (ge_and (ge_notN (ge_var 5 (pv 5)) ge_non) (ge_one (ge_le (ge_var 5 (pv 5)) (ge_var 4 (pv 4)))))))
theorem sc_on_within : FnScope ["house", "out", "zone", "many", "own"] ["house", "out", "zone", "many"] (defScope (top 45)) := ⟨rfl, rfl, rfl, by decide +kernel, rfl, by decide +kernel, by decide +kernel⟩
noncomputable def s_on_within : DS := dSeq (dAsg (dCall 1 m_rising (dCons (dVar 0) dNil)) (bName 4)) (dSeq (dDrop (dCall 2 m_sure_zone (dCons (dVar 4) (dCons (dVar 2) dNil)))) (dSeq (dDrop (dCall 2 m_sure_out (dCons (dVar 4) (dCons (dVar 1) dNil)))) (dRet (dCall 5 m_is_prompt (dCons (dVar 4) (dCons (dOp bIx (dVar 4) (dC (.int 2))) (dCons (dVar 1) (dCons (dVar 2) (dCons (dVar 3) dNil)))))))))
noncomputable def m_on_within : List PyData → Option PyData := mOf 5 4 s_on_within
theorem ok_on_within (M : Md K mg) : CalD P w K mg base 17 "on_within" ["house", "out", "zone", "many"] (spD 4 m_on_within) := by
  refine CalD.data (k := 16) (N := ["house", "out", "zone", "many", "own"]) M 26 sc_on_within (fun _ _ _ _ _ _ us hl => match us, hl with | [_, _, _, _], _ => rfl) fun f cdv A outer s0 H E hr => ?_
  have o : Okx (cxD P w K mg base ["house", "out", "zone", "many", "own"] "on_within" (defScope (top 45)) f cdv A outer s0 H E) 16 := ⟨M, hr, rfl⟩
  have nd := sc_on_within.nd
  exact gb_cons (gs_set (ps_set (i := 4) nd rfl (Or.inl rfl) (ge_cal (ok_rising M) o.r (by decide) (ga_cons (ge_var 0 (pv 0)) ga_nil)).pe)) (gb_cons (gs_expr (ge_cal (ok_sure_zone M) o.r (by decide) (ga_cons (ge_var 4 (pv 4)) (ga_cons (ge_var 2 (pv 2)) ga_nil)))) (gb_cons (gs_expr (ge_cal (ok_sure_out M) o.r (by decide) (ga_cons (ge_var 4 (pv 4)) (ga_cons (ge_var 1 (pv 1)) ga_nil)))) (gb_one (gs_ret (ge_cal (ok_is_prompt M) o.r (by decide) (ga_cons (ge_var 4 (pv 4)) (ga_cons (ge_ix (ge_var 4 (pv 4)) (g_int (o.m.int 83))) (ga_cons (ge_var 1 (pv 1)) (ga_cons (ge_var 2 (pv 2)) (ga_cons (ge_var 3 (pv 3)) ga_nil))))))))))
theorem sc_least_shorter : FnScope ["house", "line", "out", "zone", "many", "own", "less"] ["house", "line", "out", "zone", "many"] (defScope (top 47)) := ⟨rfl, rfl, rfl, by decide +kernel, rfl, by decide +kernel, by decide +kernel⟩
noncomputable def s_least_shorter : DS := dSeq (dAsg (dCall 1 m_rising (dCons (dVar 0) dNil)) (bName 5)) (dSeq (dDrop (dCall 2 m_sure_zone (dCons (dVar 5) (dCons (dVar 3) dNil)))) (dSeq (dDrop (dCall 2 m_sure_line (dCons (dVar 5) (dCons (dVar 1) dNil)))) (dSeq (dDrop (dCall 2 m_sure_out (dCons (dVar 5) (dCons (dVar 2) dNil)))) (dSeq (dFor (iSeq (dRgL (dOp bPlus (dOp bIx (dOp bIx (dOp bIx (dVar 5) (dC (.int 2))) (dVar 1)) (dC (.int 3))) (dC (.int 1))))) (bName 6) (dIfS (dCall 5 m_is_prompt (dCons (dVar 5) (dCons (dCall 3 m_shorter (dCons (dOp bIx (dVar 5) (dC (.int 2))) (dCons (dVar 1) (dCons (dVar 6) dNil)))) (dCons (dVar 2) (dCons (dVar 3) (dCons (dVar 4) dNil)))))) (dRet (dVar 6)) dNext)) (dRet (dC .none))))))
noncomputable def m_least_shorter : List PyData → Option PyData := mOf 7 5 s_least_shorter
theorem ok_least_shorter (M : Md K mg) : CalD P w K mg base 17 "least_shorter" ["house", "line", "out", "zone", "many"] (spD 5 m_least_shorter) := by
  refine CalD.data (k := 16) (N := ["house", "line", "out", "zone", "many", "own", "less"]) M 28 sc_least_shorter (fun _ _ _ _ _ _ us hl => match us, hl with | [_, _, _, _, _], _ => rfl) fun f cdv A outer s0 H E hr => ?_
  have o : Okx (cxD P w K mg base ["house", "line", "out", "zone", "many", "own", "less"] "least_shorter" (defScope (top 47)) f cdv A outer s0 H E) 16 := ⟨M, hr, rfl⟩
  have nd := sc_least_shorter.nd
  exact gb_cons (gs_set (ps_set (i := 5) nd rfl (Or.inl rfl) (ge_cal (ok_rising M) o.r (by decide) (ga_cons (ge_var 0 (pv 0)) ga_nil)).pe)) (gb_cons (gs_expr (ge_cal (ok_sure_zone M) o.r (by decide) (ga_cons (ge_var 5 (pv 5)) (ga_cons (ge_var 3 (pv 3)) ga_nil)))) (gb_cons (gs_expr (ge_cal (ok_sure_line M) o.r (by decide) (ga_cons (ge_var 5 (pv 5)) (ga_cons (ge_var 1 (pv 1)) ga_nil)))) (gb_cons (gs_expr (ge_cal (ok_sure_out M) o.r (by decide) (ga_cons (ge_var 5 (pv 5)) (ga_cons (ge_var 2 (pv 2)) ga_nil)))) (gb_cons (gs_for PassesOwn.never rfl (gi_seq (b_rgL o (ge_plus (ge_ix (ge_ix (ge_ix (ge_var 5 (pv 5)) (g_int (o.m.int 83))) (ge_var 1 (pv 1))) (g_int (o.m.int 87))) ge_int))) (gg_name (i := 6) (pg_name nd rfl (Or.inl rfl))) (gb_one (gs_if (gt_val (ge_cal (ok_is_prompt M) o.r (by decide) (ga_cons (ge_var 5 (pv 5)) (ga_cons (ge_cal (ok_shorter M) o.r (by decide) (ga_cons (ge_ix (ge_var 5 (pv 5)) (g_int (o.m.int 83))) (ga_cons (ge_var 1 (pv 1)) (ga_cons (ge_var 6 (pv 6)) ga_nil)))) (ga_cons (ge_var 2 (pv 2)) (ga_cons (ge_var 3 (pv 3)) (ga_cons (ge_var 4 (pv 4)) ga_nil))))))) (gb_one (gs_ret (ge_var 6 (pv 6)))) gb_nil))) (gb_one (gs_ret ge_non))))))
theorem sc_law_hours : FnScope ["_law_abode_so", "_law_begun_so", "_law_own", "_law_found", "_law_spots_so", "_law_knocks_so", "_law_stay_so", "_law_its"] ["_law_abode_so", "_law_begun_so"] (defScope (top 61)) := ⟨rfl, rfl, rfl, by decide +kernel, rfl, by decide +kernel, by decide +kernel⟩
noncomputable def s_law_hours : DS := dSeq (dAsg (d1 mDict (dVar 1)) (bName 2)) (dSeq (dOwn 3 (fun _ => some (.list [])) (dForO 3 (iSeq (dOp bIx (dVar 0) (dC (.int 1)))) (bTup [bName 4, bName 5, bName 6]) (dApp 3 (dCall 2 m_law_kth (dCons (dLc [7] (iSeq (dVar 4)) (bName 7) dYes (dGet1 (dVar 2) (dVar 7))) (dCons (dVar 5) dNil)))))) (dRet (d1 mTuple (dVar 3))))
noncomputable def m_law_hours : List PyData → Option PyData := mOf 8 2 s_law_hours
theorem ok_law_hours (M : Md K mg) : CalD P w K mg base 2 "_law_hours" ["_law_abode_so", "_law_begun_so"] (spD 2 m_law_hours) := by
  refine CalD.data (k := 1) (N := ["_law_abode_so", "_law_begun_so", "_law_own", "_law_found", "_law_spots_so", "_law_knocks_so", "_law_stay_so", "_law_its"]) M 41 sc_law_hours (fun _ _ _ _ _ _ us hl => match us, hl with | [_, _], _ => rfl) fun f cdv A outer s0 H E hr => ?_
  have o : Okx (cxD P w K mg base ["_law_abode_so", "_law_begun_so", "_law_own", "_law_found", "_law_spots_so", "_law_knocks_so", "_law_stay_so", "_law_its"] "_law_hours" (defScope (top 61)) f cdv A outer s0 H E) 1 := ⟨M, hr, rfl⟩
  have nd := sc_law_hours.nd
  exact gb_cons (gs_set (ps_set (i := 2) nd rfl (Or.inr rfl) (b_dict o (ge_var 1 (pv 1))).pe)) (gb_pair (gp_list (i := 3) nd rfl (Or.inl rfl) (o_for PassesOwn.never rfl (gi_seq (ge_ix (ge_var 0 (pv 0)) ge_int)) (gg_tup rfl (ggs_cons (gg_name (i := 4) (pg_name nd rfl (Or.inl rfl))) (ggs_cons (gg_name (i := 5) (pg_name nd rfl (Or.inl rfl))) (ggs_cons (gg_name (i := 6) (pg_name nd rfl (Or.inl rfl))) ggs_nil)))) (o_one (o_app (i := 3) rfl (Or.inl rfl) (ge_cal (ok_law_kth M) o.r (by decide) (ga_cons (ge_lc (own := [("_law_its", 7)]) rfl nd (gi_seq (ge_var 4 (pv 4))) (blkOk_by (by kernel_rfl)) (fun _ _ _ _ _ => gg_name (i := 7) (pg_name nd rfl (Or.inl rfl))) (fun _ _ _ _ _ => gts_nil) (fun _ _ _ _ _ => e_get1 o.blk (ge_var 2 (pv 2)) (ge_var 7 (pv 7)))) (ga_cons (ge_var 5 (pv 5)) ga_nil))))))) (gb_one (gs_ret (b_tuple o (ge_var 3 (pv 3))))))
theorem sc_law_outs : FnScope ["_law_abode_so", "_law_hours_so", "_law_found", "_law_k", "_law_rows_so", "_law_own"] ["_law_abode_so", "_law_hours_so"] (defScope (top 63)) := ⟨rfl, rfl, rfl, by decide +kernel, rfl, by decide +kernel, by decide +kernel⟩
noncomputable def s_law_outs : DS := dSeq (dOwn 2 (fun _ => some (.list [])) (dForO 2 (iRange (dCons (d1 mLen (dOp bIx (dVar 0) (dC (.int 3)))) dNil)) (bName 3) (dSeq (dPure 2 (dAsg (dLc [5] (iSeq (dOp bIx (dVar 0) (dC (.int 2)))) (bName 5) (dOp bEq (dOp bIx (dVar 5) (dC (.int 5))) (dVar 3)) (dCall 2 m_law_line_hour (dCons (dVar 5) (dCons (dVar 1) dNil)))) (bName 4))) (dApp 2 (dCall 2 m_law_kth (dCons (dLc [5] (iSeq (dVar 4)) (bName 5) (dNot (dOp bIx (dVar 5) (dC (.int 2)))) (dOp bIx (dVar 5) (dC (.int 1)))) (dCons (dC (.int 1)) dNil))))))) (dRet (d1 mTuple (dVar 2)))
noncomputable def m_law_outs : List PyData → Option PyData := mOf 6 2 s_law_outs
theorem ok_law_outs (M : Md K mg) : CalD P w K mg base 3 "_law_outs" ["_law_abode_so", "_law_hours_so"] (spD 2 m_law_outs) := by
  refine CalD.data (k := 2) (N := ["_law_abode_so", "_law_hours_so", "_law_found", "_law_k", "_law_rows_so", "_law_own"]) M 43 sc_law_outs (fun _ _ _ _ _ _ us hl => match us, hl with | [_, _], _ => rfl) fun f cdv A outer s0 H E hr => ?_
  have o : Okx (cxD P w K mg base ["_law_abode_so", "_law_hours_so", "_law_found", "_law_k", "_law_rows_so", "_law_own"] "_law_outs" (defScope (top 63)) f cdv A outer s0 H E) 2 := ⟨M, hr, rfl⟩
  have nd := sc_law_outs.nd
  exact gb_pair (gp_list (i := 2) nd rfl (Or.inl rfl) (o_for PassesOwn.never rfl (i_range o (b_len o (ge_ix (ge_var 0 (pv 0)) ge_int))) (gg_name (i := 3) (pg_name nd rfl (Or.inr rfl))) (o_cons (o_pure (k_setLc (i := 4) (own := [("_law_own", 5)]) rfl nd rfl rfl rfl (gi_seq (ge_ix (ge_var 0 (pv 0)) ge_int)) (blkOk_by (by kernel_rfl)) (fun _ _ _ _ _ => gg_name (i := 5) (pg_name nd rfl (Or.inl rfl))) (fun _ _ _ _ _ => gts_one (t_eq o.blk (ge_ix (ge_var 5 (pv 5)) ge_int) (ge_var 3 (pv 3)))) (fun _ _ _ _ _ => ge_cal (ok_law_line_hour M) o.blk.r (by decide) (ga_cons (ge_var 5 (pv 5)) (ga_cons (ge_var 1 (pv 1)) ga_nil))))) (o_one (o_app (i := 2) rfl (Or.inl rfl) (ge_cal (ok_law_kth M) o.r (by decide) (ga_cons (ge_lc (own := [("_law_own", 5)]) rfl nd (gi_seq (ge_var 4 (pv 4))) (blkOk_by (by kernel_rfl)) (fun _ _ _ _ _ => gg_name (i := 5) (pg_name nd rfl (Or.inl rfl))) (fun _ _ _ _ _ => gts_one (gt_not (gt_val (ge_ix (ge_var 5 (pv 5)) ge_int)))) (fun _ _ _ _ _ => ge_ix (ge_var 5 (pv 5)) ge_int)) (ga_cons ge_int ga_nil)))))))) (gb_one (gs_ret (b_tuple o (ge_var 2 (pv 2)))))
theorem sc_law_meet_rows : FnScope ["_law_one_so", "_law_two_so", "_law_found", "_law_row_so", "_law_its", "_law_plus_so", "_law_own", "_law_spot_so"] ["_law_one_so", "_law_two_so"] (defScope (top 71)) := ⟨rfl, rfl, rfl, by decide +kernel, rfl, by decide +kernel, by decide +kernel⟩
noncomputable def s_law_meet_rows : DS := dSeq (dOwn 2 (fun _ => some (.list [])) (dForO 2 (iSeq (dVar 0)) (bName 3) (dForO 2 (iSeq (dVar 1)) (bName 4) (dSeq (dPure 2 (dOwn 5 (d1 mDict (dVar 3)) (dForO 5 (iSeq (dVar 4)) (bName 6) (dPut 5 (dOp bIx (dVar 6) (dC (.int 0))) (d2 mMax (dOp bIx (dVar 6) (dC (.int 1))) (dGet2 (dVar 5) (dOp bIx (dVar 6) (dC (.int 0))) (dC (.int 0)))))))) (dApp 2 (d1 mTuple (dLc [7] (iSeq (dSortD (dVar 5))) (bName 7) dYes (dTup (dCons (dVar 7) (dCons (dOp bIxD (dVar 5) (dVar 7)) dNil)))))))))) (dRet (dVar 2))
noncomputable def m_law_meet_rows : List PyData → Option PyData := mOf 8 2 s_law_meet_rows
theorem ok_law_meet_rows (M : Md K mg) : CalD P w K mg base 1 "_law_meet_rows" ["_law_one_so", "_law_two_so"] (spD 2 m_law_meet_rows) := by
  refine CalD.data (k := 0) (N := ["_law_one_so", "_law_two_so", "_law_found", "_law_row_so", "_law_its", "_law_plus_so", "_law_own", "_law_spot_so"]) M 51 sc_law_meet_rows (fun _ _ _ _ _ _ us hl => match us, hl with | [_, _], _ => rfl) fun f cdv A outer s0 H E hr => ?_
  have o : Okx (cxD P w K mg base ["_law_one_so", "_law_two_so", "_law_found", "_law_row_so", "_law_its", "_law_plus_so", "_law_own", "_law_spot_so"] "_law_meet_rows" (defScope (top 71)) f cdv A outer s0 H E) 0 := ⟨M, hr, rfl⟩
  have nd := sc_law_meet_rows.nd
  exact gb_pair (gp_list (i := 2) nd rfl (Or.inl rfl) (o_for PassesOwn.never rfl (gi_seq (ge_var 0 (pv 0))) (gg_name (i := 3) (pg_name nd rfl (Or.inl rfl))) (o_one (o_for PassesOwn.never rfl (gi_seq (ge_var 1 (pv 1))) (gg_name (i := 4) (pg_name nd rfl (Or.inl rfl))) (o_pair (i := 2) (gp_dict (i := 5) o.c (by have := o.hu; omega) rfl (o.m.free 70) (ge_var 3 (pv 3)) nd rfl (Or.inr rfl) (o_for PassesOwn.never rfl (gi_seq (ge_var 4 (pv 4))) (gg_name (i := 6) (pg_name nd rfl (Or.inl rfl))) (o_one (o_put (i := 5) (by have := o.hu; omega) rfl (Or.inr (Or.inl rfl)) (ge_ix (ge_var 6 (pv 6)) ge_int) (b_max2 o (ge_ix (ge_var 6 (pv 6)) ge_int) (e_get2 o (ge_var 5 (pv 5)) (ge_ix (ge_var 6 (pv 6)) ge_int) ge_int)))))) (o_one (o_app (i := 2) rfl (Or.inl rfl) (b_tuple o (ge_lc (own := [("_law_spot_so", 7)]) rfl nd (gi_seq (ge_sortD o (ge_var 5 (pv 5)))) (blkOk_by (by kernel_rfl)) (fun _ _ _ _ _ => gg_name (i := 7) (pg_name nd rfl (Or.inl rfl))) (fun _ _ _ _ _ => gts_nil) (fun _ _ _ _ _ => ge_tup (ga_cons (ge_var 7 (pv 7)) (ga_cons (e_ixD o.blk (ge_var 5 (pv 5)) (ge_var 7 (pv 7))) ga_nil)))))))))))) (gb_one (gs_ret (ge_var 2 (pv 2))))
theorem sc_law_zone_rows : FnScope ["_law_zone_so", "_law_one_so", "_law_own", "_law_row_so"] ["_law_zone_so"] (defScope (top 72)) := ⟨rfl, rfl, rfl, by decide +kernel, rfl, by decide +kernel, by decide +kernel⟩
noncomputable def s_law_zone_rows : DS := dSeq (dAsg (dLc [2] (iSeq (dOp bIx (dVar 0) (dC (.int 0)))) (bName 2) dYes (dTup (dCons (dTup (dCons (dVar 2) (dCons (dC (.int 0)) dNil))) dNil))) (bName 1)) (dSeq (dIfS (dOp bEq (dOp bIx (dVar 0) (dC (.int 1))) (dC (.int 1))) (dRet (dVar 1)) dNext) (dRet (dLc [3] (iSeq (dCall 2 m_law_meet_rows (dCons (dVar 1) (dCons (dVar 1) dNil)))) (bName 3) (dOp bEq (d1 mLen (dVar 3)) (dC (.int 2))) (dVar 3))))
noncomputable def m_law_zone_rows : List PyData → Option PyData := mOf 4 1 s_law_zone_rows
theorem ok_law_zone_rows (M : Md K mg) : CalD P w K mg base 2 "_law_zone_rows" ["_law_zone_so"] (spD 1 m_law_zone_rows) := by
  refine CalD.data (k := 1) (N := ["_law_zone_so", "_law_one_so", "_law_own", "_law_row_so"]) M 52 sc_law_zone_rows (fun _ _ _ _ _ _ us hl => match us, hl with | [_], _ => rfl) fun f cdv A outer s0 H E hr => ?_
  have o : Okx (cxD P w K mg base ["_law_zone_so", "_law_one_so", "_law_own", "_law_row_so"] "_law_zone_rows" (defScope (top 72)) f cdv A outer s0 H E) 1 := ⟨M, hr, rfl⟩
  have nd := sc_law_zone_rows.nd
  exact gb_cons (gs_setLc (i := 1) (own := [("_law_own", 2)]) rfl nd rfl rfl rfl (gi_seq (ge_ix (ge_var 0 (pv 0)) ge_int)) (blkOk_by (by kernel_rfl)) (fun _ _ _ _ _ => gg_name (i := 2) (pg_name nd rfl (Or.inl rfl))) (fun _ _ _ _ _ => gts_nil) (fun _ _ _ _ _ => ge_tup (ga_cons (ge_tup (ga_cons (ge_var 2 (pv 2)) (ga_cons ge_int ga_nil))) ga_nil))) (gb_cons (gs_if (t_eq o (ge_ix (ge_var 0 (pv 0)) ge_int) ge_int) (gb_one (gs_ret (ge_var 1 (pv 1)))) gb_nil) (gb_one (gs_ret (ge_lc (own := [("_law_row_so", 3)]) rfl nd (gi_seq (ge_cal (ok_law_meet_rows M) o.r (by decide) (ga_cons (ge_var 1 (pv 1)) (ga_cons (ge_var 1 (pv 1)) ga_nil)))) (blkOk_by (by kernel_rfl)) (fun _ _ _ _ _ => gg_name (i := 3) (pg_name nd rfl (Or.inl rfl))) (fun _ _ _ _ _ => gts_one (t_eq o.blk (b_len o.blk (ge_var 3 (pv 3))) ge_int)) (fun _ _ _ _ _ => ge_var 3 (pv 3))))))
theorem sc_law_zone_fires : FnScope ["_law_abode_so", "_law_z", "_law_row_so"] ["_law_abode_so", "_law_z"] (defScope (top 74)) := ⟨rfl, rfl, rfl, by decide +kernel, rfl, by decide +kernel, by decide +kernel⟩
noncomputable def s_law_zone_fires : DS := dRet (dSortSet (dLc [2] (iSeq (dCall 1 m_law_zone_rows (dCons (dOp bIx (dOp bIx (dVar 0) (dC (.int 1))) (dVar 1)) dNil))) (bName 2) dYes (dCall 1 m_law_fire_of (dCons (dVar 2) dNil))))
noncomputable def m_law_zone_fires : List PyData → Option PyData := mOf 3 2 s_law_zone_fires
theorem ok_law_zone_fires (M : Md K mg) : CalD P w K mg base 3 "_law_zone_fires" ["_law_abode_so", "_law_z"] (spD 2 m_law_zone_fires) := by
  refine CalD.data (k := 2) (N := ["_law_abode_so", "_law_z", "_law_row_so"]) M 54 sc_law_zone_fires (fun _ _ _ _ _ _ us hl => match us, hl with | [_, _], _ => rfl) fun f cdv A outer s0 H E hr => ?_
  have o : Okx (cxD P w K mg base ["_law_abode_so", "_law_z", "_law_row_so"] "_law_zone_fires" (defScope (top 74)) f cdv A outer s0 H E) 2 := ⟨M, hr, rfl⟩
  have nd := sc_law_zone_fires.nd
  exact gb_one (gs_ret (b_sortset o (ge_lc (own := [("_law_row_so", 2)]) rfl nd (gi_seq (ge_cal (ok_law_zone_rows M) o.r (by decide) (ga_cons (ge_ix (ge_ix (ge_var 0 (pv 0)) ge_int) (ge_var 1 (pv 1))) ga_nil))) (blkOk_by (by kernel_rfl)) (fun _ _ _ _ _ => gg_name (i := 2) (pg_name nd rfl (Or.inl rfl))) (fun _ _ _ _ _ => gts_nil) (fun _ _ _ _ _ => ge_cal (ok_law_fire_of M) o.blk.r (by decide) (ga_cons (ge_var 2 (pv 2)) ga_nil)))))
theorem sc_law_out_at : FnScope ["_law_abode_so", "_law_begun_so", "_law_k"] ["_law_abode_so", "_law_begun_so", "_law_k"] (defScope (top 75)) := ⟨rfl, rfl, rfl, by decide +kernel, rfl, by decide +kernel, by decide +kernel⟩
noncomputable def s_law_out_at : DS := dRet (dOp bIx (dCall 2 m_law_outs (dCons (dVar 0) (dCons (dCall 2 m_law_hours (dCons (dVar 0) (dCons (dVar 1) dNil))) dNil))) (dVar 2))
noncomputable def m_law_out_at : List PyData → Option PyData := mOf 3 3 s_law_out_at
theorem ok_law_out_at (M : Md K mg) : CalD P w K mg base 4 "_law_out_at" ["_law_abode_so", "_law_begun_so", "_law_k"] (spD 3 m_law_out_at) := by
  refine CalD.data (k := 3) (N := ["_law_abode_so", "_law_begun_so", "_law_k"]) M 55 sc_law_out_at (fun _ _ _ _ _ _ us hl => match us, hl with | [_, _, _], _ => rfl) fun f cdv A outer s0 H E hr => ?_
  have o : Okx (cxD P w K mg base ["_law_abode_so", "_law_begun_so", "_law_k"] "_law_out_at" (defScope (top 75)) f cdv A outer s0 H E) 3 := ⟨M, hr, rfl⟩
  have nd := sc_law_out_at.nd
  exact gb_one (gs_ret (ge_ix (ge_cal (ok_law_outs M) o.r (by decide) (ga_cons (ge_var 0 (pv 0)) (ga_cons (ge_cal (ok_law_hours M) o.r (by decide) (ga_cons (ge_var 0 (pv 0)) (ga_cons (ge_var 1 (pv 1)) ga_nil))) ga_nil))) (ge_var 2 (pv 2))))
theorem sc_law_behind : FnScope ["_law_abode_so", "_law_k", "_law_z", "_law_found", "_law_begun_so", "_law_near", "_law_far"] ["_law_abode_so", "_law_k", "_law_z"] (defScope (top 76)) := ⟨rfl, rfl, rfl, by decide +kernel, rfl, by decide +kernel, by decide +kernel⟩
noncomputable def s_law_behind : DS := dSeq (dOwn 3 (fun _ => some (.list [])) (dForO 3 (iSeq (dCall 2 m_law_zone_fires (dCons (dVar 0) (dCons (dVar 2) dNil)))) (bName 4) (dSeq (dPure 3 (dPar 5 6 (dCons (dOp bIx (dCall 2 m_law_hours (dCons (dVar 0) (dCons (dVar 4) dNil))) (dVar 2)) (dCons (dCall 3 m_law_out_at (dCons (dVar 0) (dCons (dVar 4) (dCons (dVar 1) dNil)))) dNil)))) (dSeq (dIfO 3 (dOp bIsN (dVar 6) (dC .none)) (dPure 3 (dRet (dC .none))) dNext) (dApp 3 (dOp bSub (dVar 6) (dVar 5))))))) (dRet (d1 mMax (dVar 3)))
noncomputable def m_law_behind : List PyData → Option PyData := mOf 7 3 s_law_behind
theorem ok_law_behind (M : Md K mg) : CalD P w K mg base 5 "_law_behind" ["_law_abode_so", "_law_k", "_law_z"] (spD 3 m_law_behind) := by
  refine CalD.data (k := 4) (N := ["_law_abode_so", "_law_k", "_law_z", "_law_found", "_law_begun_so", "_law_near", "_law_far"]) M 56 sc_law_behind (fun _ _ _ _ _ _ us hl => match us, hl with | [_, _, _], _ => rfl) fun f cdv A outer s0 H E hr => ?_
  have o : Okx (cxD P w K mg base ["_law_abode_so", "_law_k", "_law_z", "_law_found", "_law_begun_so", "_law_near", "_law_far"] "_law_behind" (defScope (top 76)) f cdv A outer s0 H E) 4 := ⟨M, hr, rfl⟩
  have nd := sc_law_behind.nd
  exact gb_pair (gp_list (i := 3) nd rfl (Or.inl rfl) (o_for PassesOwn.never rfl (gi_seq (ge_cal (ok_law_zone_fires M) o.r (by decide) (ga_cons (ge_var 0 (pv 0)) (ga_cons (ge_var 2 (pv 2)) ga_nil)))) (gg_name (i := 4) (pg_name nd rfl (Or.inl rfl))) (o_cons (o_pure (k_par (i := 5) (j := 6) rfl nd rfl rfl (by decide) rfl rfl (ga_cons (ge_ix (ge_cal (ok_law_hours M) o.r (by decide) (ga_cons (ge_var 0 (pv 0)) (ga_cons (ge_var 4 (pv 4)) ga_nil))) (ge_var 2 (pv 2))) (ga_cons (ge_cal (ok_law_out_at M) o.r (by decide) (ga_cons (ge_var 0 (pv 0)) (ga_cons (ge_var 4 (pv 4)) (ga_cons (ge_var 1 (pv 1)) ga_nil)))) ga_nil)) rfl)) (o_cons (o_if (gt_isN (ge_var 6 (pv 6)) ge_non) (o_one (o_ret ge_non)) o_nil) (o_one (o_app (i := 3) rfl (Or.inl rfl) (ge_sub (ge_var 6 (pv 6)) (ge_var 5 (pv 5))))))))) (gb_one (gs_ret (b_max1 o (ge_var 3 (pv 3)))))
theorem sc_law_hand_right : FnScope ["_law_inn_here", "_law_got"] [] (defScope (top 78)) := ⟨rfl, rfl, rfl, by decide +kernel, rfl, by decide +kernel, by decide +kernel⟩
noncomputable def s_law_hand_right : DS := dSeq (dAsg (dCall0 m_law_inn) (bName 0)) (dSeq (dAsg (dLst (dCons (dCall 4 m_on_within (dCons (dVar 0) (dCons (dC (.int 0)) (dCons (dC (.int 0)) (dCons (dC (.int 3)) dNil))))) (dCons (dCall 4 m_on_within (dCons (dVar 0) (dCons (dC (.int 0)) (dCons (dC (.int 0)) (dCons (dC (.int 2)) dNil))))) (dCons (dCall 4 m_on_within (dCons (dVar 0) (dCons (dC (.int 1)) (dCons (dC (.int 1)) (dCons (dC (.int 9)) dNil))))) dNil)))) (bName 1)) (dSeq (dAsg (dOp bPlus (dVar 1) (dLst (dCons (dCall 5 m_least_shorter (dCons (dVar 0) (dCons (dC (.int 0)) (dCons (dC (.int 0)) (dCons (dC (.int 0)) (dCons (dC (.int 1)) dNil)))))) (dCons (dCall 5 m_least_shorter (dCons (dVar 0) (dCons (dC (.int 0)) (dCons (dC (.int 0)) (dCons (dC (.int 0)) (dCons (dC (.int 3)) dNil)))))) (dCons (dCall 5 m_least_shorter (dCons (dVar 0) (dCons (dC (.int 1)) (dCons (dC (.int 0)) (dCons (dC (.int 0)) (dCons (dC (.int 1)) dNil)))))) dNil))))) (bName 1)) (dRet (dCall 2 m_law_same (dCons (dVar 1) (dCons (dLst (dCons (dC (.bool true)) (dCons (dC (.bool false)) (dCons (dC (.bool false)) (dCons (dC (.int 2)) (dCons (dC (.int 0)) (dCons (dC .none) dNil))))))) dNil))))))
noncomputable def m_law_hand_right : List PyData → Option PyData := mOf 2 0 s_law_hand_right
theorem ok_law_hand_right (M : Md K mg) : CalD P w K mg base 18 "_law_hand_right" [] (spD 0 m_law_hand_right) := by
  refine CalD.data (k := 17) (N := ["_law_inn_here", "_law_got"]) M 58 sc_law_hand_right (fun _ _ _ _ _ _ us hl => match us, hl with | [], _ => rfl) fun f cdv A outer s0 H E hr => ?_
  have o : Okx (cxD P w K mg base ["_law_inn_here", "_law_got"] "_law_hand_right" (defScope (top 78)) f cdv A outer s0 H E) 17 := ⟨M, hr, rfl⟩
  have nd := sc_law_hand_right.nd
  exact gb_cons (gs_set (ps_set (i := 0) nd rfl (Or.inl rfl) (ge_cal0 (ok_law_inn M) o.r (by decide)).pe)) (gb_cons (gs_set (ps_set (i := 1) nd rfl (Or.inl rfl) (ge_lst (ga_cons (ge_cal (ok_on_within M) o.r (by decide) (ga_cons (ge_var 0 (pv 0)) (ga_cons ge_int (ga_cons ge_int (ga_cons ge_int ga_nil))))) (ga_cons (ge_cal (ok_on_within M) o.r (by decide) (ga_cons (ge_var 0 (pv 0)) (ga_cons ge_int (ga_cons ge_int (ga_cons ge_int ga_nil))))) (ga_cons (ge_cal (ok_on_within M) o.r (by decide) (ga_cons (ge_var 0 (pv 0)) (ga_cons ge_int (ga_cons ge_int (ga_cons ge_int ga_nil))))) ga_nil)))).pe)) (gb_cons (gs_set (ps_set (i := 1) nd rfl (Or.inl rfl) (ge_plus (ge_var 1 (pv 1)) (ge_lst (ga_cons (ge_cal (ok_least_shorter M) o.r (by decide) (ga_cons (ge_var 0 (pv 0)) (ga_cons ge_int (ga_cons ge_int (ga_cons ge_int (ga_cons ge_int ga_nil)))))) (ga_cons (ge_cal (ok_least_shorter M) o.r (by decide) (ga_cons (ge_var 0 (pv 0)) (ga_cons ge_int (ga_cons ge_int (ga_cons ge_int (ga_cons ge_int ga_nil)))))) (ga_cons (ge_cal (ok_least_shorter M) o.r (by decide) (ga_cons (ge_var 0 (pv 0)) (ga_cons ge_int (ga_cons ge_int (ga_cons ge_int (ga_cons ge_int ga_nil)))))) ga_nil))))).pe)) (gb_one (gs_ret (ge_cal (ok_law_same M) o.r (by decide) (ga_cons (ge_var 1 (pv 1)) (ga_cons (ge_lst (ga_cons ge_bl (ga_cons ge_bl (ga_cons ge_bl (ga_cons ge_int (ga_cons ge_int (ga_cons ge_non ga_nil))))))) ga_nil)))))))
theorem sc_law_is_so : FnScope ["_law_abode_so", "_law_k", "_law_z", "_law_most_so", "_law_found"] ["_law_abode_so", "_law_k", "_law_z", "_law_most_so"] (defScope (top 79)) := ⟨rfl, rfl, rfl, by decide +kernel, rfl, by decide +kernel, by decide +kernel⟩
noncomputable def s_law_is_so : DS := dSeq (dAsg (dCall 3 m_law_behind (dCons (dVar 0) (dCons (dVar 1) (dCons (dVar 2) dNil)))) (bName 4)) (dRet (dAnd (dOp bNotN (dVar 4) (dC .none)) (dOp bLe (dVar 4) (dVar 3))))
noncomputable def m_law_is_so : List PyData → Option PyData := mOf 5 4 s_law_is_so
theorem ok_law_is_so (M : Md K mg) : CalD P w K mg base 6 "_law_is_so" ["_law_abode_so", "_law_k", "_law_z", "_law_most_so"] (spD 4 m_law_is_so) := by
  refine CalD.data (k := 5) (N := ["_law_abode_so", "_law_k", "_law_z", "_law_most_so", "_law_found"]) M 59 sc_law_is_so (fun _ _ _ _ _ _ us hl => match us, hl with | [_, _, _, _], _ => rfl) fun f cdv A outer s0 H E hr => ?_
  have o : Okx (cxD P w K mg base ["_law_abode_so", "_law_k", "_law_z", "_law_most_so", "_law_found"] "_law_is_so" (defScope (top 79)) f cdv A outer s0 H E) 5 := ⟨M, hr, rfl⟩
  have nd := sc_law_is_so.nd
  exact gb_cons (gs_set (ps_set (i := 4) nd rfl (Or.inl rfl) (ge_cal (ok_law_behind M) o.r (by decide) (ga_cons (ge_var 0 (pv 0)) (ga_cons (ge_var 1 (pv 1)) (ga_cons (ge_var 2 (pv 2)) ga_nil)))).pe)) (gb_one (gs_ret (ge_and (ge_notN (ge_var 4 (pv 4)) ge_non) (ge_one (ge_le (ge_var 4 (pv 4)) (ge_var 3 (pv 3)))))))
theorem sc_law_least_less : FnScope ["_law_abode_so", "_law_n", "_law_k", "_law_z", "_law_most_so", "_law_line_so", "_law_less_so", "_law_its"] ["_law_abode_so", "_law_n", "_law_k", "_law_z", "_law_most_so"] (defScope (top 80)) := ⟨rfl, rfl, rfl, by decide +kernel, rfl, by decide +kernel, by decide +kernel⟩
noncomputable def s_law_least_less : DS := dSeq (dAsg (dOp bIx (dOp bIx (dVar 0) (dC (.int 2))) (dVar 1)) (bName 5)) (dSeq (dFor (iRange (dCons (dOp bPlus (dOp bIx (dVar 5) (dC (.int 3))) (dC (.int 1))) dNil)) (bName 6) (dSeq (dAsg (dCall 3 m_law_put_at (dCons (dOp bIx (dVar 0) (dC (.int 2))) (dCons (dVar 1) (dCons (dCall 3 m_law_put_at (dCons (dVar 5) (dCons (dC (.int 3)) (dCons (dOp bSub (dOp bIx (dVar 5) (dC (.int 3))) (dVar 6)) dNil)))) dNil)))) (bName 7)) (dIfS (dCall 4 m_law_is_so (dCons (dCall 3 m_law_put_at (dCons (dVar 0) (dCons (dC (.int 2)) (dCons (dVar 7) dNil)))) (dCons (dVar 2) (dCons (dVar 3) (dCons (dVar 4) dNil))))) (dRet (dVar 6)) dNext))) (dRet (dC .none)))
noncomputable def m_law_least_less : List PyData → Option PyData := mOf 8 5 s_law_least_less
theorem ok_law_least_less (M : Md K mg) : CalD P w K mg base 7 "_law_least_less" ["_law_abode_so", "_law_n", "_law_k", "_law_z", "_law_most_so"] (spD 5 m_law_least_less) := by
  refine CalD.data (k := 6) (N := ["_law_abode_so", "_law_n", "_law_k", "_law_z", "_law_most_so", "_law_line_so", "_law_less_so", "_law_its"]) M 60 sc_law_least_less (fun _ _ _ _ _ _ us hl => match us, hl with | [_, _, _, _, _], _ => rfl) fun f cdv A outer s0 H E hr => ?_
  have o : Okx (cxD P w K mg base ["_law_abode_so", "_law_n", "_law_k", "_law_z", "_law_most_so", "_law_line_so", "_law_less_so", "_law_its"] "_law_least_less" (defScope (top 80)) f cdv A outer s0 H E) 6 := ⟨M, hr, rfl⟩
  have nd := sc_law_least_less.nd
  exact gb_cons (gs_set (ps_set (i := 5) nd rfl (Or.inl rfl) (ge_ix (ge_ix (ge_var 0 (pv 0)) ge_int) (ge_var 1 (pv 1))).pe)) (gb_cons (gs_for PassesOwn.never rfl (i_range o (ge_plus (ge_ix (ge_var 5 (pv 5)) ge_int) ge_int)) (gg_name (i := 6) (pg_name nd rfl (Or.inl rfl))) (gb_cons (gs_set (ps_set (i := 7) nd rfl (Or.inl rfl) (ge_cal (ok_law_put_at M) o.r (by decide) (ga_cons (ge_ix (ge_var 0 (pv 0)) ge_int) (ga_cons (ge_var 1 (pv 1)) (ga_cons (ge_cal (ok_law_put_at M) o.r (by decide) (ga_cons (ge_var 5 (pv 5)) (ga_cons ge_int (ga_cons (ge_sub (ge_ix (ge_var 5 (pv 5)) ge_int) (ge_var 6 (pv 6))) ga_nil)))) ga_nil)))).pe)) (gb_one (gs_if (gt_val (ge_cal (ok_law_is_so M) o.r (by decide) (ga_cons (ge_cal (ok_law_put_at M) o.r (by decide) (ga_cons (ge_var 0 (pv 0)) (ga_cons ge_int (ga_cons (ge_var 7 (pv 7)) ga_nil)))) (ga_cons (ge_var 2 (pv 2)) (ga_cons (ge_var 3 (pv 3)) (ga_cons (ge_var 4 (pv 4)) ga_nil)))))) (gb_one (gs_ret (ge_var 6 (pv 6)))) gb_nil)))) (gb_one (gs_ret ge_non)))
end
end SK
set_option maxHeartbeats 1000000
/-! Expressions that change owned objects: state-passing readings. -/
namespace SK
open PySem PySem.Spec PyProof.Rows L2
abbrev Own := List (Nat × Addr)
theorem wipeR_out {ρ : Rho} {i : Nat} : ∀ {vs : List Nat}, i ∉ vs → (wipeR ρ vs)[i]? = ρ[i]?
  | [], _ => rfl
  | v :: vs, h => by
    unfold wipeR
    rw [List.getElem?_set_ne (fun e => h (by rw [e]; exact List.mem_cons_self))]
    exact wipeR_out fun m => h (List.mem_cons_of_mem _ m)
theorem wipeR_in {ρ : Rho} {i : Nat} : ∀ {vs : List Nat} {d : PyData}, i ∈ vs → ¬ (wipeR ρ vs)[i]? = some (some d) := fun {vs d} h e => (wipeR_some e).2 h
structure OwS (o : Own) (B H : Hp) (σ : L2.St) (ρ : Rho) : Prop where
  en : En B σ (wipeR ρ (o.map (·.1)))
  each : ∀ p ∈ o, ∃ c u, ρ[p.1]? = some (some c) ∧ σ[p.1]? = some (some (.ref p.2)) ∧ B p.2 = none ∧ H p.2 = some u ∧ OwnU B u c
  nd : (o.map (·.2)).Nodup
structure AtO (o : Own) (B B' H H' : Hp) : Prop where
  b : Same B B'
  i : Same B' H'
  oo : ∀ (a : Addr) (u : HO), (∀ p ∈ o, p.2 ≠ a) → H a = some u → H' a = some u
  lv : ∀ p ∈ o, Live H' p.2
  ap : ∀ a : Addr, B a = none → Live H a → B' a = none
section
variable {o : Own} {B B' B2 H H' H2 : Hp} {σ : L2.St} {ρ ρ' : Rho}
theorem OwS.live (w : OwS o B H σ ρ) : ∀ p ∈ o, Live H p.2 := fun p hp => by
  obtain ⟨c, u, _, _, _, h, k⟩ := w.each p hp
  exact ⟨u, h, k.isT⟩
theorem OwS.nob (w : OwS o B H σ ρ) : ∀ p ∈ o, B p.2 = none := fun p hp => by
  obtain ⟨c, u, _, _, h, _⟩ := w.each p hp
  exact h
theorem OwS.move (w : OwS o B H σ ρ) (a : At B B' H H') : OwS o B' H' σ ρ := ⟨w.en.mono a.b, fun p hp => by
  obtain ⟨c, u, h1, h2, h3, h4, h5⟩ := w.each p hp
  exact ⟨c, u, h1, h2, a.ap _ h3 ⟨u, h4, h5.isT⟩, a.o _ _ h4, h5.mono a.b⟩, w.nd⟩
theorem AtO.refl (s : Same B H) (w : OwS o B H σ ρ) : AtO o B B H H := ⟨Same.refl B, s, fun _ _ _ e => e, w.live, fun _ h _ => h⟩
theorem AtO.trans (x : AtO o B B' H H') (y : AtO o B' B2 H' H2) : AtO o B B2 H H2 :=
  ⟨x.b.trans y.b, y.i, fun a u n e => y.oo a u n (x.oo a u n e), y.lv, fun a h1 h2 => y.ap a (x.ap a h1 h2) (by
    by_cases n : ∃ p ∈ o, p.2 = a
    · obtain ⟨p, hp, e⟩ := n
      rw [← e]; exact x.lv p hp
    · obtain ⟨u, h3, h4⟩ := h2
      exact ⟨u, x.oo a u (fun p hp e => n ⟨p, hp, e⟩) h3, h4⟩)⟩
theorem At.toO (x : At B B' H H') (w : OwS o B H σ ρ) : AtO o B B' H H' := ⟨x.b, x.i, fun a u _ e => x.o a u e, fun p hp => (w.live p hp).up x.o, x.ap⟩
/-- everything owned told as data -/
theorem OwS.all (s : Same B H) (w : OwS o B H σ ρ) : Same (addT B H (o.map (·.2))) H ∧ En (addT B H (o.map (·.2))) σ ρ := by
  have sB : Same B (addT B H (o.map (·.2))) := fun a u e => by
    unfold addT
    by_cases m : a ∈ o.map (·.2)
    · rw [if_pos m]; exact s a u e
    · rw [if_neg m]; exact e
  refine ⟨fun a u e => ?_, ?_, fun i d e => ?_⟩
  · unfold addT at e
    by_cases m : a ∈ o.map (·.2)
    · rw [if_pos m] at e; exact e
    · rw [if_neg m] at e; exact s a u e
  · rw [w.en.len, wipeR_length]
  · by_cases m : i ∈ o.map (·.1)
    · obtain ⟨p, hp, rfl⟩ := List.mem_map.mp m
      obtain ⟨c, u, h1, h2, h3, h4, h5⟩ := w.each p hp
      rw [h1] at e
      cases e
      refine ⟨_, h2, ?_⟩
      have hm : addT B H (o.map (·.2)) p.2 = some u := by
        unfold addT
        rw [if_pos (List.mem_map.mpr ⟨p, hp, rfl⟩)]; exact h4
      have h6 := h5.mono sB
      unfold OwnU at h6
      split at h6
      · exact .lst hm h6
      · exact .dic hm h6
      · exact h6.elim
    · rw [← wipeR_out (ρ := ρ) m] at e
      obtain ⟨v, h1, h2⟩ := w.en.at_ i d e
      exact ⟨v, h1, h2.mono sB⟩
end
abbrev DX := Rho → Option (PyData × Rho)
abbrev DXA := Rho → Option (List PyData × Rho)
def tX (s : List Nat) (d : DX) : TE := fun σ H Q => ∃ o B ρ r ρ', o.map (·.1) = s ∧ Same B H ∧ OwS o B H σ ρ ∧ d ρ = some (r, ρ') ∧ ∀ v B' H', AtO o B B' H H' → OwS o B' H' σ ρ' → Dv B' v r → Q v H'
def tXT (s : List Nat) (d : DX) : TT := fun σ H Q => ∃ o B ρ b ρ', o.map (·.1) = s ∧ Same B H ∧ OwS o B H σ ρ ∧ d ρ = some (.bool b, ρ') ∧ ∀ B' H', AtO o B B' H H' → OwS o B' H' σ ρ' → Q b H'
def tXA (s : List Nat) (d : DXA) : TA := fun σ H Q => ∃ o B ρ r ρ', o.map (·.1) = s ∧ Same B H ∧ OwS o B H σ ρ ∧ d ρ = some (r, ρ') ∧ ∀ vs B' H', AtO o B B' H H' → OwS o B' H' σ ρ' → DvA B' vs r → Q vs H'
structure NX (X : Cx) (e : Expr) (s : List Nat) (d : DX) : Prop where
  pe : PE X e (tX s d)
structure NT (X : Cx) (e : Expr) (s : List Nat) (d : DX) : Prop where
  pt : PT X e (tXT s d)
structure NW (X : Cx) (e : Expr) (s : List Nat) (d : DX) : Prop where
  pw : PW X e (tXT s d)
structure NA (X : Cx) (es : List Expr) (s : List Nat) (d : DXA) : Prop where
  pa : PA X es (tXA s d)
  n : ∀ ρ r ρ', d ρ = some (r, ρ') → r.length = es.length
section
variable {X : Cx} {s : List Nat} {a b c : Expr} {da db dc : DX} {de : DE} {es : List Expr} {des : DXA} {pos : Pos}
def xLift (s : List Nat) (d : DE) : DX := fun ρ => (d (wipeR ρ s)).map fun r => (r, ρ)
theorem x_lift (h : GE X a de) : NX X a s (xLift s de) := ⟨PE.imp h.pe fun σ H Q ⟨o, B, ρ, r, ρ', es, sm, w, e, k⟩ => by
  obtain ⟨r1, e1, e2⟩ := Option.map_eq_some_iff.mp e
  cases e2
  subst es
  exact ⟨B, _, r, sm, w.en, e1, fun v B' H' at_ dv => k v B' H' (at_.toO w) (w.move at_) dv⟩⟩
theorem t_lift (h : GT X a de) : NT X a s (xLift s de) := ⟨PT.imp h.pt fun σ H Q ⟨o, B, ρ, r, ρ', es, sm, w, e, k⟩ => by
  obtain ⟨r1, e1, e2⟩ := Option.map_eq_some_iff.mp e
  injection e2 with e2 e3
  subst es e2 e3
  exact ⟨B, _, r, sm, w.en, e1, fun B' H' at_ => k B' H' (at_.toO w) (w.move at_)⟩⟩
/-- a value that needs no heap -/
def atom : PyData → Bool
  | .none => true
  | .bool _ => true
  | .int _ => true
  | .str _ => true
  | _ => false
theorem Dv.atom {B B' : Hp} {v : V} {d : PyData} (h : Dv B v d) (a : SK.atom d = true) : Dv B' v d := by
  cases h with
  | non => exact .non
  | bl b => exact .bl b
  | int i => exact .int i
  | str x => exact .str x
  | _ => cases a
def xAtom (d : DE) : DX := fun ρ => (d ρ).bind fun r => if atom r = true then some (r, ρ) else none
/-- the owned part read for a value without heap -/
theorem atO_atom {o : Own} {B B' H H' : Hp} {σ : L2.St} {ρ : Rho} (sm : Same B H) (w : OwS o B H σ ρ) (x : At (addT B H (o.map (·.2))) B' H H') : At B B H H' :=
  ⟨Same.refl B, sm.trans x.o, x.o, fun _ h _ => h⟩
theorem x_atom (h : GE X a de) : NX X a s (xAtom de) := ⟨PE.imp h.pe fun σ H Q ⟨o, B, ρ, r, ρ', es, sm, w, e, k⟩ => by
  obtain ⟨r1, e1, e2⟩ := Option.bind_eq_some_iff.mp e
  by_cases ha : atom r1 = true
  · rw [if_pos ha] at e2
    cases e2
    obtain ⟨s1, en1⟩ := w.all sm
    refine ⟨_, ρ, r, s1, en1, e1, fun v B' H' at_ dv => ?_⟩
    have a2 := atO_atom sm w at_
    exact k v B H' (a2.toO w) (w.move a2) (dv.atom ha)
  · rw [if_neg ha] at e2; cases e2⟩
def xAtomT (d : DE) : DX := fun ρ => (d ρ).bind fun r => match r with
  | .bool b => some (.bool b, ρ)
  | _ => none
theorem t_atom (h : GT X a de) : NT X a s (xAtomT de) := ⟨PT.imp h.pt fun σ H Q ⟨o, B, ρ, r, ρ', es, sm, w, e, k⟩ => by
  obtain ⟨r1, e1, e2⟩ := Option.bind_eq_some_iff.mp e
  cases r1 with
  | bool b =>
    injection e2 with e2
    injection e2 with e2 e3
    injection e2 with e2
    subst e2 e3
    obtain ⟨s1, en1⟩ := w.all sm
    refine ⟨_, ρ, b, s1, en1, e1, fun B' H' at_ => ?_⟩
    have a2 := atO_atom sm w at_
    exact k B H' (a2.toO w) (w.move a2)
  | _ => exact nomatch e2⟩
/-! ### operators -/
def xOp (f : PyData → PyData → Option PyData) (da db : DX) : DX := fun ρ => (da ρ).bind fun p => (db p.2).bind fun q => (f p.1 q.1).map fun z => (z, q.2)
theorem tX_op {r : R2} {f : PyData → PyData → Option PyData} (hr : Rel2 r f) {σ : L2.St} {H : Hp} {Q : VK} (h : tX s (xOp f da db) σ H Q) : tOp r (tX s da) (tX s db) σ H Q := by
  obtain ⟨o, B, ρ, z, ρ', es, sm, w, e, k⟩ := h
  obtain ⟨⟨x, ρ1⟩, e1, e2⟩ := Option.bind_eq_some_iff.mp e
  obtain ⟨⟨y, ρ2⟩, e3, e4⟩ := Option.bind_eq_some_iff.mp e2
  obtain ⟨z', e5, e6⟩ := Option.map_eq_some_iff.mp e4
  cases e6
  refine ⟨o, B, ρ, x, ρ1, es, sm, w, e1, fun v B1 H1 a1 w1 dv => ⟨o, B1, ρ1, y, ρ2, es, a1.i, w1, e3, fun u B2 H2 a2 w2 du => ?_⟩⟩
  exact hr v u x y z B2 H2 Q a2.i (dv.mono a2.b) du e5 fun t B3 H3 a3 dt => k t B3 H3 ((a1.trans a2).trans (a3.toO w2)) (w2.move a3) dt
theorem x_op {op : Operator} {r : R2} {f : PyData → PyData → Option PyData} (ho : OpR X (binaryOp op) r) (hr : Rel2 r f) (ha : NX X a s da) (hb : NX X b s db) : NX X (.BinOp a op b pos) s (xOp f da db) := ⟨PE.imp (pe_op ho ha.pe hb.pe) fun _ _ _ h => tX_op hr h⟩
theorem tXT_tX {σ : L2.St} {H : Hp} {Q : Bool → Hp → Prop} (h : tXT s da σ H Q) : tX s da σ H fun x H' => ∃ k, x = .bl k ∧ Q k H' := by
  obtain ⟨o, B, ρ, b, ρ', es, sm, w, e, k⟩ := h
  refine ⟨o, B, ρ, .bool b, ρ', es, sm, w, e, fun v B' H' a1 w1 dv => ?_⟩
  cases dv
  exact ⟨b, rfl, k B' H' a1 w1⟩
theorem x_cmp {op : CmpOp} {r : R2} {f : PyData → PyData → Option PyData} (ho : OpR X (compareOp op) r) (hr : Rel2 r f) (ha : NX X a s da) (hb : NX X b s db) (hm : behindInMarks op b = false) : NX X (.Compare a [op] [b] pos) s (xOp f da db) := ⟨PE.imp (pe_cmpR ho ha.pe hb.pe hm) fun _ _ _ h => tX_op hr h⟩
theorem t_cmp {op : CmpOp} {r : R2} {f : PyData → PyData → Option PyData} (ho : OpR X (compareOp op) r) (hr : Rel2 r f) (ha : NX X a s da) (hb : NX X b s db) (hm : behindInMarks op b = false) : NT X (.Compare a [op] [b] pos) s (xOp f da db) := ⟨PT.imp (pt_cmpR ho ha.pe hb.pe hm) fun _ _ _ h => tX_op hr (tXT_tX h)⟩
def xAnd (da db : DX) : DX := fun ρ => (da ρ).bind fun p => match p.1 with
  | .bool true => db p.2
  | .bool false => some (.bool false, p.2)
  | _ => none
def xOr (da db : DX) : DX := fun ρ => (da ρ).bind fun p => match p.1 with
  | .bool true => some (.bool true, p.2)
  | .bool false => db p.2
  | _ => none
variable {rest : List Expr}
theorem w_and1 (ha : NT X a s da) : NW X (.BoolOp .And [a] pos) s da := ⟨pw_and1 ha.pt⟩
theorem w_or1 (ha : NT X a s da) : NW X (.BoolOp .Or [a] pos) s da := ⟨pw_or1 ha.pt⟩
theorem w_and (ha : NT X a s da) (hb : NW X (.BoolOp .And (b :: rest) pos) s db) : NW X (.BoolOp .And (a :: b :: rest) pos) s (xAnd da db) := ⟨PW.imp (pw_and ha.pt hb.pw) fun σ H Q ⟨o, B, ρ, d, ρ', es, sm, w, e, k⟩ => by
  obtain ⟨⟨x, ρ1⟩, e1, e2⟩ := Option.bind_eq_some_iff.mp e
  cases x with
  | bool c =>
    refine ⟨o, B, ρ, c, ρ1, es, sm, w, e1, fun B1 H1 a1 w1 => ?_⟩
    cases c with
    | true => exact ⟨o, B1, ρ1, d, ρ', es, a1.i, w1, e2, fun B2 H2 a2 w2 => k B2 H2 (a1.trans a2) w2⟩
    | false => cases e2; exact k B1 H1 a1 w1
  | _ => exact nomatch e2⟩
theorem w_or (ha : NT X a s da) (hb : NW X (.BoolOp .Or (b :: rest) pos) s db) : NW X (.BoolOp .Or (a :: b :: rest) pos) s (xOr da db) := ⟨PW.imp (pw_or ha.pt hb.pw) fun σ H Q ⟨o, B, ρ, d, ρ', es, sm, w, e, k⟩ => by
  obtain ⟨⟨x, ρ1⟩, e1, e2⟩ := Option.bind_eq_some_iff.mp e
  cases x with
  | bool c =>
    refine ⟨o, B, ρ, c, ρ1, es, sm, w, e1, fun B1 H1 a1 w1 => ?_⟩
    cases c with
    | false => exact ⟨o, B1, ρ1, d, ρ', es, a1.i, w1, e2, fun B2 H2 a2 w2 => k B2 H2 (a1.trans a2) w2⟩
    | true => cases e2; exact k B1 H1 a1 w1
  | _ => exact nomatch e2⟩
theorem t_w (h : NW X a s da) : NT X a s da := ⟨h.pw.pt⟩
def xIf (dc da db : DX) : DX := fun ρ => (dc ρ).bind fun p => match p.1 with
  | .bool true => da p.2
  | .bool false => db p.2
  | _ => none
theorem x_ifExp (hc : NT X c s dc) (ha : NX X a s da) (hb : NX X b s db) : NX X (.IfExp c a b pos) s (xIf dc da db) := ⟨PE.imp (pe_ifExp hc.pt ha.pe hb.pe) fun σ H Q ⟨o, B, ρ, d, ρ', es, sm, w, e, k⟩ => by
  obtain ⟨⟨x, ρ1⟩, e1, e2⟩ := Option.bind_eq_some_iff.mp e
  cases x with
  | bool c =>
    refine ⟨o, B, ρ, c, ρ1, es, sm, w, e1, fun B1 H1 a1 w1 => ?_⟩
    cases c with
    | true => exact ⟨o, B1, ρ1, d, ρ', es, a1.i, w1, e2, fun v B2 H2 a2 w2 dv => k v B2 H2 (a1.trans a2) w2 dv⟩
    | false => exact ⟨o, B1, ρ1, d, ρ', es, a1.i, w1, e2, fun v B2 H2 a2 w2 dv => k v B2 H2 (a1.trans a2) w2 dv⟩
  | _ => exact nomatch e2⟩
/-! ### arguments, displays, calls -/
def xNil : DXA := fun ρ => some ([], ρ)
def xCons (da : DX) (r : DXA) : DXA := fun ρ => (da ρ).bind fun p => (r p.2).bind fun q => some (p.1 :: q.1, q.2)
theorem na_nil : NA X [] s xNil := ⟨PA.imp pa_nil fun σ H Q ⟨o, B, ρ, d, ρ', es, sm, w, e, k⟩ => by
  cases e
  exact k [] B H (AtO.refl sm w) w .nil, fun ρ r ρ' e => by cases e; rfl⟩
theorem na_cons (ha : NX X a s da) (hr : NA X es s des) (hs : starEach (a :: es) X.env = (false, eval a X.env) :: starEach es X.env := by rfl) : NA X (a :: es) s (xCons da des) := ⟨PA.imp (pa_cons ha.pe hr.pa hs) fun σ H Q ⟨o, B, ρ, d, ρ', es, sm, w, e, k⟩ => by
  obtain ⟨⟨x, ρ1⟩, e1, e2⟩ := Option.bind_eq_some_iff.mp e
  obtain ⟨⟨xs, ρ2⟩, e3, e4⟩ := Option.bind_eq_some_iff.mp e2
  cases e4
  refine ⟨o, B, ρ, x, ρ1, es, sm, w, e1, fun v B1 H1 a1 w1 dv => ⟨o, B1, ρ1, xs, ρ2, es, a1.i, w1, e3, fun vs B2 H2 a2 w2 dvs => ?_⟩⟩
  exact k (v :: vs) B2 H2 (a1.trans a2) w2 (.cons (dv.mono a2.b) dvs), fun ρ r ρ' e => by
  obtain ⟨⟨x, ρ1⟩, e1, e2⟩ := Option.bind_eq_some_iff.mp e
  obtain ⟨⟨xs, ρ2⟩, e3, e4⟩ := Option.bind_eq_some_iff.mp e2
  cases e4
  rw [List.length_cons, List.length_cons, hr.n _ _ _ e3]⟩
def xMap (f : List PyData → Option PyData) (d : DXA) : DX := fun ρ => (d ρ).bind fun p => (f p.1).map fun z => (z, p.2)
theorem x_tup {k : Nat} {p : Pos} (h : NA X es s des) (hl : es.length ≤ 1000 := by decide) : NX X (.Tuple es k p) s (xMap (fun ds => some (.tuple ds)) des) := ⟨PE.imp (pe_tupN h.pa) fun σ H Q ⟨o, B, ρ, d, ρ', es, sm, w, e, k⟩ => by
  obtain ⟨⟨ds, ρ1⟩, e1, e2⟩ := Option.bind_eq_some_iff.mp e
  cases e2
  refine ⟨o, B, ρ, ds, _, es, sm, w, e1, fun vs B1 H1 a1 w1 dvs => ⟨by rw [dvs.length, h.n _ _ _ e1]; exact le_line hl, newT (rowish ds) fun p u hp ht => ?_⟩⟩
  have a2 := At.new a1.i hp u
  exact k _ _ _ (a1.trans (a2.toO w1)) (w1.move a2) (.tup ht.alone (dvs.mono a2.b))⟩
theorem x_lst {p : Pos} (h : NA X es s des) (hl : es.length ≤ 1000 := by decide) : NX X (.List es p) s (xMap (fun ds => some (.list ds)) des) := ⟨PE.imp (pe_lst h.pa) fun σ H Q ⟨o, B, ρ, d, ρ', es, sm, w, e, k⟩ => by
  obtain ⟨⟨ds, ρ1⟩, e1, e2⟩ := Option.bind_eq_some_iff.mp e
  cases e2
  refine ⟨o, B, ρ, ds, _, es, sm, w, e1, fun vs B1 H1 a1 w1 dvs => ⟨by rw [dvs.length, h.n _ _ _ e1]; exact le_line hl, fun p hp => ?_⟩⟩
  have a2 := At.new a1.i hp (.lst vs)
  exact k _ _ _ (a1.trans (a2.toO w1)) (w1.move a2) (.lst upd_same (dvs.mono a2.b))⟩
theorem tX_cb {r : List V → Hp → VK → Prop} {m : List PyData → Option PyData} (hr : RelC r m) {σ : L2.St} {H : Hp} {Q : VK} (h : tX s (xMap m des) σ H Q) : tCB r (tXA s des) σ H Q := by
  obtain ⟨o, B, ρ, d, ρ', es, sm, w, e, k⟩ := h
  obtain ⟨⟨xs, ρ1⟩, e1, e2⟩ := Option.bind_eq_some_iff.mp e
  obtain ⟨z, e3, e4⟩ := Option.map_eq_some_iff.mp e2
  cases e4
  exact ⟨o, B, ρ, xs, _, es, sm, w, e1, fun vs B1 H1 a1 w1 dvs => hr vs xs d B1 H1 Q a1.i dvs e3 fun v B2 H2 a2 dv => k v B2 H2 (a1.trans (a2.toO w1)) (w1.move a2) dv⟩
theorem x_blt {id : String} {x : Str} {p : Pos} {r : List V → Hp → VK → Prop} {m : List PyData → Option PyData} (hc : CallR X (.builtin id) r) (hr : RelC r m) (hg : Gl X x) (hm : X.mg x = none) (hv : bootBuiltins x = some (.builtin id)) (ha : NA X (a :: es) s des)
    (hn : x ≠ "__name__" := by decide) (hdb : (x == ("__debug__" : Str)) = false := by decide) (he : starEach (a :: es) X.env = (false, eval a X.env) :: starEach es X.env := by rfl) (hpl : (backTo pos (starEach es X.env)).any (·.1) = false := by rfl) :
    NX X (.Call (.Name x p) (a :: es) [] pos) s (xMap m des) := ⟨PE.imp (pe_callB hc hg hm hv ha.pa hn hdb he hpl) fun _ _ _ h => tX_cb hr h⟩
theorem x_bty {T : String} {x : Str} {p : Pos} {r : List V → Hp → VK → Prop} {m : List PyData → Option PyData} (hc : CallR X (.type T) r) (hr : RelC r m) (hg : Gl X x) (hm : X.mg x = none) (hv : bootBuiltins x = some (.type T)) (ha : NA X (a :: es) s des)
    (hn : x ≠ "__name__" := by decide) (hdb : (x == ("__debug__" : Str)) = false := by decide) (he : starEach (a :: es) X.env = (false, eval a X.env) :: starEach es X.env := by rfl) (hpl : (backTo pos (starEach es X.env)).any (·.1) = false := by rfl) :
    NX X (.Call (.Name x p) (a :: es) [] pos) s (xMap m des) := ⟨PE.imp (pe_callTy hc hg hm hv ha.pa hn hdb he hpl) fun _ _ _ h => tX_cb hr h⟩
/-- a def without draws called with drawn arguments -/
def xCall (n : Nat) (m : List PyData → Option PyData) (d : DXA) : DX := xMap (fun xs => if xs.length = n then m xs else none) d
theorem x_cal {j k : Nat} {x : Str} {ps : List Str} {n : Nat} {m : List PyData → Option PyData} {p : Pos} (C : CalD X.prog X.w X.K X.mg X.base j x ps (spD n m)) (hr : Room k X.A) (hjk : j ≤ k) (ha : NA X (a :: es) s des) (hg : Gl X x := by rfl)
    (hdb : (x == ("__debug__" : Str)) = false := by decide) (he : starEach (a :: es) X.env = (false, eval a X.env) :: starEach es X.env := by rfl) (hpl : (backTo pos (starEach es X.env)).any (·.1) = false := by rfl) :
    NX X (.Call (.Name x p) (a :: es) [] pos) s (xCall n m des) := by
  obtain ⟨f, fd, F, hm, hk, hb⟩ := C.ex
  refine ⟨PE.imp (pe_call (F.mono hjk) hr hg hm hk hb .nil (E := E0) pass0 ha.pa hdb he hpl) fun σ H Q ⟨o, B, ρ, d, ρ', es, sm, w, e, k⟩ => ?_⟩
  obtain ⟨⟨xs, ρ1⟩, e1, e2⟩ := Option.bind_eq_some_iff.mp e
  obtain ⟨z, e3, e4⟩ := Option.map_eq_some_iff.mp e2
  cases e4
  by_cases hn : xs.length = n
  · have e5 : (if xs.length = n then m xs else none) = some d := e3
    rw [if_pos hn] at e5
    refine ⟨o, B, ρ, xs, _, es, sm, w, e1, fun vs B1 H1 a1 w1 dvs => ⟨B1, xs, d, a1.i, by rw [List.append_nil]; exact dvs, e5, by rw [List.append_nil, dvs.length]; exact hn, fun v B2 H2 a2 dv => k v B2 H2 (a1.trans (a2.toO w1)) (w1.move a2) dv⟩⟩
  · have e5 : (if xs.length = n then m xs else none) = some d := e3
    rw [if_neg hn] at e5
    cases e5
/-! ### items, slices -/
theorem x_ix (ha : NX X a s da) (hb : NX X b s db) (hs : PlainIx b := by exact fun _ _ => rfl) : NX X (.Subscript a b pos) s (xOp bIx da db) := ⟨PE.imp (pe_ix ix_seq ha.pe hb.pe hs) fun _ _ _ h => tX_op rel_ix h⟩
/-- a[:e] -/
def bUp (x y : PyData) : Option PyData := match y with
  | .int i => bSl x none (some i)
  | _ => none
theorem x_slUp {p2 : Pos} (ha : NX X a s da) (hb : NX X b s db) : NX X (.Subscript a (.Slice none (some b) none p2) pos) s (xOp bUp da db) :=
  ⟨PE.imp (pe_slice (SlR.or sl_list sl_tupN) ha.pe po_none (po_some hb.pe)) fun σ H Q ⟨o, B, ρ, z, ρ', es, sm, w, e, k⟩ => by
    obtain ⟨⟨x, ρ1⟩, e1, e2⟩ := Option.bind_eq_some_iff.mp e
    obtain ⟨⟨y, ρ2⟩, e3, e4⟩ := Option.bind_eq_some_iff.mp e2
    obtain ⟨z', e5, e6⟩ := Option.map_eq_some_iff.mp e4
    cases e6
    refine ⟨o, B, ρ, x, ρ1, es, sm, w, e1, fun v B1 H1 a1 w1 dv => ⟨o, B1, ρ1, y, ρ2, es, a1.i, w1, e3, fun u B2 H2 a2 w2 du => ?_⟩⟩
    cases y with
    | int i =>
      cases du
      refine ⟨i, rfl, ?_⟩
      have dv2 := dv.mono a2.b
      have aa := a1.trans a2
      cases dv2 with
      | @lst p xs ds h1 h2 =>
        cases e5
        refine .inl ⟨p, xs, rfl, SqL.of (a2.i _ _ h1), fun q hq => ?_⟩
        have a4 := At.new a2.i hq (.lst (cutV xs none (some i)))
        exact k _ _ _ (aa.trans (a4.toO w2)) (w2.move a4) (.lst upd_same ((h2.cut none (some i)).mono a4.b))
      | @tup p xs ds h1 h2 =>
        cases e5
        refine .inr ⟨p, xs, rfl, (h1.mono a2.i).sq, fun hw => ?_, fun _ => newT (rowish (cutD ds none (some i))) fun q u hq ht => ?_⟩
        · rw [h2.length] at hw
          rw [cut_whole hw] at k
          exact k _ _ _ aa w2 (.tup h1 h2)
        · have a4 := At.new a2.i hq u
          exact k _ _ _ (aa.trans (a4.toO w2)) (w2.move a4) (.tup ht.alone ((h2.cut none (some i)).mono a4.b))
      | _ => exact nomatch e5
    | _ => exact nomatch e5⟩
/-! ### a def that draws -/
/-- its first argument is owned: m makes of its content and the other arguments the result and the content behind -/
def spX (n : Nat) (m : List PyData → Option (PyData × PyData)) : Sp := fun vs H Q _ => ∃ B T u us c ds r c', vs = .ref T :: us ∧ Same B H ∧ B T = none ∧ H T = some u ∧ OwnU B u c ∧ DvA B us ds ∧ m (c :: ds) = some (r, c') ∧ vs.length = n ∧
  ∀ v B' H' u', AtO [(0, T)] B B' H H' → Dv B' v r → B' T = none → H' T = some u' → OwnU B' u' c' → Q v H'
def setAt (ρ : Rho) (i : Nat) (c : PyData) : Rho := ρ.set i (some c)
def xDraw (t n : Nat) (m : List PyData → Option (PyData × PyData)) (d : DXA) : DX := fun ρ => (d ρ).bind fun p => if p.1.length + 1 = n then (p.2[t]?).join.bind fun c => (m (c :: p.1)).map fun z => (z.1, p.2.set t (some z.2)) else none
theorem OwS.put {o : Own} {B H B' H' : Hp} {σ : L2.St} {ρ : Rho} (w : OwS o B H σ ρ) {t : Nat} {T : Addr} (ht : (t, T) ∈ o) (nd : (o.map (·.1)).Nodup) (at_ : AtO [(0, T)] B B' H H') {u : HO} {c : PyData} (h1 : B' T = none) (h2 : H' T = some u) (h3 : OwnU B' u c) :
    AtO o B B' H H' ∧ OwS o B' H' σ (ρ.set t (some c)) := by
  have oth : ∀ p ∈ o, p.1 ≠ t → p.2 ≠ T := fun p hp hn e => by
    apply hn
    have key : ∀ (l : Own), (l.map (·.2)).Nodup → (t, T) ∈ l → p ∈ l → p.1 = t := by
      intro l
      induction l with
      | nil => intro _ h; exact nomatch h
      | cons q l ih =>
        intro hd m1 m2
        rw [List.map_cons, List.nodup_cons] at hd
        rcases List.mem_cons.mp m1 with z1 | z1 <;> rcases List.mem_cons.mp m2 with z2 | z2
        · rw [z2, ← z1]
        · exact absurd (List.mem_map.mpr ⟨p, z2, by rw [e, ← z1]⟩) hd.1
        · exact absurd (List.mem_map.mpr ⟨(t, T), z1, by rw [← z2, e]⟩) hd.1
        · exact ih hd.2 z1 z2
    exact key o w.nd ht hp
  have keep : ∀ p ∈ o, p.1 ≠ t → ∀ v, H p.2 = some v → H' p.2 = some v := fun p hp hn v e => at_.oo _ _ (fun q hq => by
    rw [List.mem_singleton.mp hq]; exact fun z => oth p hp hn z.symm) e
  have hlen : t < ρ.length := by
    obtain ⟨c0, u0, e, _⟩ := w.each _ ht
    exact (List.getElem?_eq_some_iff.mp e).1
  have lv : ∀ p ∈ o, Live H' p.2 := fun p hp => by
    by_cases hn : p.1 = t
    · have : p = (t, T) := by
        have key : ∀ (l : Own), (l.map (·.1)).Nodup → (t, T) ∈ l → p ∈ l → p = (t, T) := by
          intro l
          induction l with
          | nil => intro _ h; exact nomatch h
          | cons q l ih =>
            intro hd m1 m2
            rw [List.map_cons, List.nodup_cons] at hd
            rcases List.mem_cons.mp m1 with z1 | z1 <;> rcases List.mem_cons.mp m2 with z2 | z2
            · rw [z2, ← z1]
            · exact absurd (List.mem_map.mpr ⟨p, z2, by rw [hn, ← z1]⟩) hd.1
            · exact absurd (List.mem_map.mpr ⟨(t, T), z1, by rw [← z2, hn]⟩) hd.1
            · exact ih hd.2 z1 z2
        exact key o nd ht hp
      rw [this]; exact ⟨u, h2, h3.isT⟩
    · obtain ⟨c0, u0, _, _, _, e1, e2⟩ := w.each p hp
      exact ⟨u0, keep p hp hn u0 e1, e2.isT⟩
  refine ⟨⟨at_.b, at_.i, fun a v hn e => at_.oo a v (fun q hq => by rw [List.mem_singleton.mp hq]; exact hn (t, T) ht) e, lv, at_.ap⟩, ?_, fun p hp => ?_, w.nd⟩
  · -- the data slots
    have e := w.en.mono at_.b
    refine ⟨by rw [e.len, wipeR_length, wipeR_length, List.length_set], fun i d q => ?_⟩
    obtain ⟨q1, q2⟩ := wipeR_some q
    have hi : i ≠ t := fun z => q2 (by rw [z]; exact List.mem_map.mpr ⟨_, ht, rfl⟩)
    rw [List.getElem?_set_ne (Ne.symm hi)] at q1
    exact e.at_ i d (by rw [wipeR_out q2]; exact q1)
  · by_cases hn : p.1 = t
    · obtain ⟨c0, u0, e1, e2, e3, e4, e5⟩ := w.each p hp
      have hT : p.2 = T := by
        have key : ∀ (l : Own), (l.map (·.1)).Nodup → (t, T) ∈ l → p ∈ l → p.2 = T := by
          intro l
          induction l with
          | nil => intro _ h; exact nomatch h
          | cons q l ih =>
            intro hd m1 m2
            rw [List.map_cons, List.nodup_cons] at hd
            rcases List.mem_cons.mp m1 with z1 | z1 <;> rcases List.mem_cons.mp m2 with z2 | z2
            · rw [z2, ← z1]
            · exact absurd (List.mem_map.mpr ⟨p, z2, by rw [hn, ← z1]⟩) hd.1
            · exact absurd (List.mem_map.mpr ⟨(t, T), z1, by rw [← z2, hn]⟩) hd.1
            · exact ih hd.2 z1 z2
        exact key o nd ht hp
      refine ⟨c, u, ?_, e2, by rw [hT]; exact h1, by rw [hT]; exact h2, h3⟩
      rw [hn, List.getElem?_set_self hlen]
    · obtain ⟨c0, u0, e1, e2, e3, e4, e5⟩ := w.each p hp
      exact ⟨c0, u0, by rw [List.getElem?_set_ne (Ne.symm hn)]; exact e1, e2, at_.ap _ e3 ⟨u0, e4, e5.isT⟩, keep p hp hn u0 e4, e5.mono at_.b⟩
end
end SK
set_option maxHeartbeats 1000000
/-! Drawing calls, walks and comprehensions. -/
namespace SK
open PySem PySem.Spec PyProof.Rows L2
/-- ρ' with the owned slots' contents of ρ -/
def putS : List Nat → Rho → Rho → Rho
  | [], ρ', _ => ρ'
  | i :: s, ρ', ρ => (putS s ρ' ρ).set i (ρ[i]?).join
theorem putS_len : ∀ (s : List Nat) (ρ' ρ : Rho), (putS s ρ' ρ).length = ρ'.length
  | [], _, _ => rfl
  | i :: s, ρ', ρ => by unfold putS; rw [List.length_set, putS_len s]
theorem putS_out {ρ' ρ : Rho} {j : Nat} : ∀ {s : List Nat}, j ∉ s → (putS s ρ' ρ)[j]? = ρ'[j]?
  | [], _ => rfl
  | i :: s, h => by
    unfold putS
    rw [List.getElem?_set_ne (fun e => h (by rw [e]; exact List.mem_cons_self))]
    exact putS_out fun m => h (List.mem_cons_of_mem _ m)
theorem putS_in {ρ' ρ : Rho} {j : Nat} (hl : j < ρ'.length) : ∀ {s : List Nat}, j ∈ s → (putS s ρ' ρ)[j]? = some (ρ[j]?).join
  | i :: s, h => by
    unfold putS
    by_cases e : i = j
    · subst e
      rw [List.getElem?_set_self (by rw [putS_len]; exact hl)]
    · rw [List.getElem?_set_ne e]
      exact putS_in hl ((List.mem_cons.mp h).resolve_left fun z => e z.symm)
theorem En.wiped {B : Hp} {σ : L2.St} {ρ ρ' : Rho} {s : List Nat} (e : En B σ ρ') (hl : ρ.length = ρ'.length) (h : ∀ i, i ∉ s → ρ[i]? = ρ'[i]?) : En B σ (wipeR ρ s) := by
  refine ⟨by rw [e.len, wipeR_length, hl], fun i d q => ?_⟩
  obtain ⟨q1, q2⟩ := wipeR_some q
  exact e.at_ i d (by rw [← h i q2]; exact q1)
theorem OwS.slots {o : Own} {B H : Hp} {σ σ' : L2.St} {ρ ρ' : Rho} {s : List Nat} (w : OwS o B H σ ρ) (hs : o.map (·.1) = s) (en : En B σ' ρ') (h : ∀ i ∈ s, σ'[i]? = σ[i]?) : OwS o B H σ' (putS s ρ' ρ) := by
  subst hs
  refine ⟨En.wiped en (putS_len _ _ _) fun i hi => putS_out hi, fun p hp => ?_, w.nd⟩
  obtain ⟨c, u, h1, h2, h3, h4, h5⟩ := w.each p hp
  have hm : p.1 ∈ o.map (·.1) := List.mem_map.mpr ⟨p, hp, rfl⟩
  have e2 := (h p.1 hm).trans h2
  refine ⟨c, u, ?_, e2, h3, h4, h5⟩
  rw [putS_in (by rw [← en.len]; exact (List.getElem?_eq_some_iff.mp e2).1) hm, h1] <;> rfl
section
variable {X : Cx} {s : List Nat} {a b c : Expr} {da db dc : DX} {de : DE} {es : List Expr} {des : DXA} {pos : Pos}
theorem x_draw {t j k n : Nat} {x y : Str} {ps : List Str} {m : List PyData → Option (PyData × PyData)} {p q : Pos} (C : CalD X.prog X.w X.K X.mg X.base j x ps (spX n m)) (hr : Room k X.A) (hjk : j ≤ k) (hN : X.N[t]? = some y) (hv : Vis X.env.scope y) (ha : NA X es s des) (ht : t ∈ s := by decide) (hnd : s.Nodup := by decide) (hg : Gl X x := by rfl)
    (hdb : (x == ("__debug__" : Str)) = false := by decide) (hd2 : (y == ("__debug__" : Str)) = false := by decide) (hcd : (y == ("__classdict__" : Str)) = false := by decide) (he : starEach (.Name y q :: es) X.env = (false, eval (.Name y q) X.env) :: starEach es X.env := by rfl) (hpl : (backTo pos (starEach es X.env)).any (·.1) = false := by rfl) :
    NX X (.Call (.Name x p) (.Name y q :: es) [] pos) s (xDraw t n m des) := by
  obtain ⟨f, fd, F, hm, hk, hb⟩ := C.ex
  refine ⟨PE.imp (pe_call (F.mono hjk) hr hg hm hk hb .nil (E := E0) pass0 (pa_cons (pv t hN hv hd2 hcd) ha.pa he) hdb he hpl) fun σ H Q ⟨o, B, ρ, r, ρ', es, sm, w, e, k⟩ => ?_⟩
  obtain ⟨⟨xs, ρ1⟩, e1, e2⟩ := Option.bind_eq_some_iff.mp e
  by_cases hn : xs.length + 1 = n
  · have e3 : (ρ1[t]?).join.bind (fun c => (m (c :: xs)).map fun z => (z.1, ρ1.set t (some z.2))) = some (r, ρ') := by
      have : (if xs.length + 1 = n then (ρ1[t]?).join.bind (fun c => (m (c :: xs)).map fun z => (z.1, ρ1.set t (some z.2))) else none) = some (r, ρ') := e2
      rwa [if_pos hn] at this
    obtain ⟨c, e4, e5⟩ := Option.bind_eq_some_iff.mp e3
    obtain ⟨⟨r1, c1⟩, e6, e7⟩ := Option.map_eq_some_iff.mp e5
    cases e7
    subst es
    obtain ⟨⟨t', T⟩, hp, et⟩ := List.mem_map.mp ht
    have et : t' = t := et
    subst et
    obtain ⟨c0, u0, _, h2, _⟩ := w.each _ hp
    refine ⟨.ref T, h2, o, B, ρ, xs, ρ1, rfl, sm, w, e1, fun vs B1 H1 a1 w1 dvs => ?_⟩
    obtain ⟨c', u, g1, g2, g3, g4, g5⟩ := w1.each _ hp
    have g1' : ρ1[t']? = some (some c') := g1
    rw [g1'] at e4
    cases e4
    refine ⟨B1, T, u, vs, c, xs, r1, c1, by rw [List.append_nil], a1.i, g3, g4, g5, dvs, e6, by rw [List.append_nil, List.length_cons, dvs.length]; exact hn, fun v B' H' u' at_ dv h1 h2 h3 => ?_⟩
    obtain ⟨a2, w2⟩ := w1.put hp hnd at_ h1 h2 h3
    exact k v B' H' (a1.trans a2) w2 dv
  · have : (if xs.length + 1 = n then (ρ1[t]?).join.bind (fun c => (m (c :: xs)).map fun z => (z.1, ρ1.set t (some z.2))) else none) = some (r, ρ') := e2
    rw [if_neg hn] at this
    cases this
/-! ### walks -/
def tXI (s : List Nat) (d : DXA) : TI := fun σ H R => ∃ o B ρ xs ρ', o.map (·.1) = s ∧ Same B H ∧ OwS o B H σ ρ ∧ d ρ = some (xs, ρ') ∧ ∀ J B' H', AtO o B B' H H' → OwS o B' H' σ ρ' → WalkD J B' xs → R J H'
structure NI (X : Cx) (tg e : Expr) (s : List Nat) (d : DXA) : Prop where
  pi : PI X tg e (tXI s d)
def xiLift (s : List Nat) (d : DA) : DXA := fun ρ => (d (wipeR ρ s)).map fun r => (r, ρ)
theorem ni_lift {tg : Expr} {di : DA} (h : GI X tg a di) : NI X tg a s (xiLift s di) := ⟨PI.imp h.pi fun σ H R ⟨o, B, ρ, r, ρ', es, sm, w, e, k⟩ => by
  obtain ⟨r1, e1, e2⟩ := Option.map_eq_some_iff.mp e
  cases e2
  subst es
  exact ⟨B, _, r, sm, w.en, e1, fun J B' H' at_ wk => k J B' H' (at_.toO w) (w.move at_) wk⟩⟩
/-- range of a drawn number -/
def xiRange (d : DX) : DXA := fun ρ => (d ρ).bind fun p => match p.1 with
  | .int n => if n ≤ 1000 ∧ -1000 ≤ n then some (upTo n.toNat, p.2) else none
  | _ => none
theorem ni_range {tg : Expr} {p : Pos} {k : Nat} (o : Okx X k) (ha : NX X a s da) (hg : Gl X "range" := by rfl) (hs : starEach [a] X.env = [(false, eval a X.env)] := by rfl) : NI X tg (.Call (.Name "range" p) [a] [] pos) s (xiRange da) :=
  ⟨PI.imp (pi_range1 hg (o.m.free 75) (na_cons ha na_nil hs).pa hs) fun σ H R ⟨o, B, ρ, xs, ρ', es, sm, w, e, k⟩ => by
    obtain ⟨⟨y, ρ1⟩, e1, e2⟩ := Option.bind_eq_some_iff.mp e
    cases y with
    | int n =>
      have e3 : (if n ≤ 1000 ∧ -1000 ≤ n then some (upTo n.toNat, ρ1) else none) = some (xs, ρ') := e2
      by_cases hn : n ≤ 1000 ∧ -1000 ≤ n
      · rw [if_pos hn] at e3
        cases e3
        refine ⟨o, B, ρ, [.int n], ρ', es, sm, w, by unfold xCons xNil; rw [e1] <;> rfl, fun vs B1 H1 a1 w1 dvs => ?_⟩
        match vs, dvs with
        | [_], .cons (.int _) .nil => exact ⟨n, rfl, by omega, by omega, k _ B1 H1 a1 w1 (walkD_range (by omega))⟩
      · rw [if_neg hn] at e3; cases e3
    | _ => exact nomatch e2⟩
/-! ### comprehensions -/
def gX (s : List Nat) (g : DG) : DG := fun ρ x => (g (wipeR ρ s) x).map fun ρ' => putS s ρ' ρ
def lcX (g : DG) (e : DX) (s vs : List Nat) : Rho → List PyData → Option (List PyData × Rho)
  | ρ, [] => some ([], ρ)
  | ρ, x :: xs => (gX s g (wipeR ρ vs) x).bind fun ρ1 => (e ρ1).bind fun p => (lcX g e s vs (putS s ρ p.2) xs).bind fun q => some (p.1 :: q.1, q.2)
def xLc (vs s : List Nat) (it : DXA) (g : DG) (e : DX) : DX := fun ρ => (it ρ).bind fun p => (lcX g e s vs p.2 p.1).map fun q => (.list q.1, q.2)
theorem tX_lc {vs : List Nat} {di : DXA} {g : DG} {is : List Nat} {de : DX} (his : ∀ i ∈ is, i ∈ vs) (hsv : ∀ i ∈ s, i ∉ vs) {σ : L2.St} {H : Hp} {Q : VK} (h : tX s (xLc vs s di g de) σ H Q) : tLc (tXI s di) (tGG g is) (tGT dYes) (tX s de) vs σ H Q := by
  obtain ⟨o, B, ρ, d, ρ', es, sm, w, e, k⟩ := h
  obtain ⟨⟨xs, ρ0⟩, e1, e2⟩ := Option.bind_eq_some_iff.mp e
  obtain ⟨⟨ys, ρe⟩, e3, e4⟩ := Option.map_eq_some_iff.mp e2
  cases e4
  refine ⟨o, B, ρ, xs, ρ0, es, sm, w, e1, fun J B1 H1 a1 w1 wk p hp => ?_⟩
  have hB1p : B1 p = none := a1.i.free hp
  have np : ∀ q ∈ o, q.2 ≠ p := fun q hq e => by
    obtain ⟨c, u, _, _, _, h4, _⟩ := w1.each q hq
    rw [e, hp] at h4; cases h4
  have w1p : ∀ o' : HO, OwS o B1 (upd H1 p o') σ ρ0 := fun o' => ⟨w1.en, fun q hq => by
    obtain ⟨c, u, h1, h2, h3, h4, h5⟩ := w1.each q hq
    exact ⟨c, u, h1, h2, h3, by rw [upd_ne (np q hq)]; exact h4, h5⟩, w1.nd⟩
  refine ⟨fun i m H' => m = xs.length - i ∧ i ≤ xs.length ∧ ∃ B2 ρ2 av ad r, AtO o B1 B2 H1 H' ∧ OwS o B2 H' σ ρ2 ∧ B2 p = none ∧ H' p = some (.lst av) ∧ DvA B2 av ad ∧ ad.length ≤ i ∧ lcX g de s vs ρ2 (xs.drop i) = some (r, ρe) ∧ ys = ad ++ r,
    ⟨xs.length, by omega, Nat.zero_le _, B1, ρ0, [], [], ys, ⟨Same.refl _, Same.upd a1.i hB1p _, fun a u _ e => by rw [upd_ne (ne_of_none e hp)]; exact e, (w1p _).live, fun a h _ => h⟩, w1p _, hB1p, upd_same, .nil, Nat.zero_le _, e3, rfl⟩, ?_⟩
  rintro i m H' ⟨rfl, hi, B2, ρ2, av, ad, r, a2, w2, b2, h2, dv2, hl2, e5, e6⟩
  by_cases hlt : i < xs.length
  · rw [List.drop_eq_getElem_cons hlt] at e5
    obtain ⟨ρ3, e7, e8⟩ := Option.bind_eq_some_iff.mp (show (gX s g (wipeR ρ2 vs) xs[i]).bind (fun ρ1 => (de ρ1).bind fun p => (lcX g de s vs (putS s ρ2 p.2) (xs.drop (i + 1))).bind fun q => some (p.1 :: q.1, q.2)) = some (r, ρe) from e5)
    obtain ⟨⟨y0, ρ5⟩, e9, e10⟩ := Option.bind_eq_some_iff.mp e8
    obtain ⟨⟨r2, ρ9⟩, e11, e12⟩ := Option.bind_eq_some_iff.mp e10
    obtain ⟨er, eρ⟩ : y0 :: r2 = r ∧ ρ9 = ρe := Prod.mk.inj (Option.some.inj e12)
    subst er
    rw [eρ] at e11
    obtain ⟨ρ4, e13, e14⟩ := Option.map_eq_some_iff.mp e7
    subst e14
    refine .inr ⟨wk.go i H' hlt (a2.b.trans a2.i), fun H3 => ∃ B3 ρ2 av ad r, AtO o B1 B3 H1 H3 ∧ OwS o B3 H3 σ ρ2 ∧ B3 p = none ∧ H3 p = some (.lst av) ∧ DvA B3 av ad ∧ ad.length ≤ i + 1 ∧ lcX g de s vs ρ2 (xs.drop (i + 1)) = some (r, ρe) ∧ ys = ad ++ r,
      fun H3 q => ⟨xs.length - (i + 1), by omega, rfl, hlt, q⟩, fun x H3 y => ?_⟩
    obtain ⟨B3, a3, dx⟩ := wk.yld i B2 H' x H3 xs[i] a2.b a2.i y (List.getElem?_eq_getElem hlt)
    have w3 := w2.move a3
    have enw : En B3 (wipe σ vs) (wipeR (wipeR ρ2 vs) s) := by
      have h := w3.en.wipe vs
      rw [es] at h
      refine ⟨by rw [h.len, wipeR_length, wipeR_length, wipeR_length, wipeR_length], fun j d q => ?_⟩
      obtain ⟨q1, q2⟩ := wipeR_some q
      obtain ⟨q3, q4⟩ := wipeR_some q1
      refine h.at_ j d ?_
      rw [wipeR_out q4, wipeR_out q2]; exact q3
    refine ⟨B3, wipeR (wipeR ρ2 vs) s, xs[i], ρ4, a3.i, enw, dx, e13, fun σ4 en4 bt => ⟨?_, ?_⟩⟩
    · rw [bt.wipe his]
      refine But.wipe (is := vs) ⟨wipe_length σ vs, fun j hj => wipe_out hj⟩ fun _ z => z
    · have same4 : ∀ j ∈ s, σ4[j]? = σ[j]? := fun j hj => (bt.2 j fun z => hsv j hj (his j z)).trans (wipe_out (hsv j hj))
      have w4' : OwS o B3 H3 σ4 (putS s ρ4 ρ2) := w3.slots es en4 same4
      have w4 : OwS o B3 H3 σ4 (putS s ρ4 (wipeR ρ2 vs)) := by
        have e : putS s ρ4 (wipeR ρ2 vs) = putS s ρ4 ρ2 := by
          have key : ∀ s' : List Nat, (∀ j ∈ s', j ∉ vs) → putS s' ρ4 (wipeR ρ2 vs) = putS s' ρ4 ρ2 := by
            intro s'
            induction s' with
            | nil => intro _; rfl
            | cons j s' ih =>
              intro hs
              unfold putS
              rw [ih fun j hj => hs j (List.mem_cons_of_mem _ hj), wipeR_out (hs j List.mem_cons_self)]
          exact key s hsv
        rw [e]; exact w4'
      refine ⟨B3, ρ4, true, a3.i, en4, rfl, fun B4 H4 a4 => ?_⟩
      show tX s de σ4 H4 _
      refine ⟨o, B4, _, y0, ρ5, es, a4.i, w4.move a4, e9, fun v B5 H5 a5 w5 dv => ?_⟩
      have hp3 : H3 p = some (.lst av) := a3.o _ _ h2
      have hp4 : H4 p = some (.lst av) := a4.o _ _ hp3
      have hp5 : H5 p = some (.lst av) := a5.oo _ _ np hp4
      have b4 : B4 p = none := a4.ap p (a3.ap p b2 ⟨_, h2, rfl⟩) ⟨_, hp3, rfl⟩
      have b5 : B5 p = none := a5.ap p b4 ⟨_, hp4, rfl⟩
      refine ⟨av, hp5, by rw [dv2.length]; exact small1000 (by have := wk.len; omega), ?_⟩
      have a25 : AtO o B2 B5 H' H5 := (a3.toO w2).trans (((a4.toO w4)).trans a5)
      have a15 : AtO o B1 B5 H1 H5 := a2.trans a25
      -- back to the slots of the outside
      have en5 : En B5 σ (wipeR ρ2 s) := by
        have h := w2.en.mono a25.b
        rw [es] at h
        exact h
      have w5' : OwS o B5 H5 σ (putS s ρ2 ρ5) := by
        have h := w5.slots es en5 fun j hj => (same4 j hj).symm
        have e : putS s (wipeR ρ2 s) ρ5 = putS s ρ2 ρ5 := by
          refine List.ext_getElem? fun j => ?_
          by_cases hj : j ∈ s
          · by_cases hl : j < ρ2.length
            · rw [putS_in (by rw [wipeR_length]; exact hl) hj, putS_in hl hj]
            · rw [List.getElem?_eq_none (by rw [putS_len, wipeR_length]; omega), List.getElem?_eq_none (by rw [putS_len]; omega)]
          · rw [putS_out hj, putS_out hj, wipeR_out hj]
        rw [e] at h; exact h
      refine ⟨B5, putS s ρ2 ρ5, av ++ [v], ad ++ [y0], r2, ⟨a15.b, Same.upd a15.i b5 _, fun a u hn e => by rw [upd_ne (ne_of_none e hp)]; exact a15.oo a u hn e, fun q hq => ?_, a15.ap⟩, ⟨w5'.en, fun q hq => ?_, w5'.nd⟩, b5, upd_same, (dv2.mono a25.b).append (.one dv), by rw [List.length_append, List.length_singleton]; omega, e11, by rw [e6, List.append_assoc]; rfl⟩
      · obtain ⟨u, h3, h4⟩ := a15.lv q hq
        exact ⟨u, by rw [upd_ne (np q hq)]; exact h3, h4⟩
      · obtain ⟨c, u, q1, q2, q3, q4, q5⟩ := w5'.each q hq
        exact ⟨c, u, q1, q2, q3, by rw [upd_ne (np q hq)]; exact q4, q5⟩
  · have ei : i = xs.length := by omega
    subst ei
    rw [List.drop_length] at e5
    cases e5
    rw [List.append_nil] at e6
    subst e6
    refine .inl ⟨wk.stop H' (a2.b.trans a2.i), ?_⟩
    have sB : Same B2 (upd B2 p (.lst av)) := same_new b2 _
    have sI : Same (upd B2 p (.lst av)) H' := fun a u q => by
      by_cases e : a = p
      · rw [e, upd_same] at q; rw [e, h2]; exact q
      · rw [upd_ne e] at q; exact a2.i a u q
    have a2c : AtO o B1 (upd B2 p (.lst av)) H1 H' := ⟨a2.b.trans sB, sI, a2.oo, a2.lv, fun a h1 h3 => by
      have e : a ≠ p := fun z => h3.ne (by rw [z]; exact hp)
      rw [upd_ne e]; exact a2.ap a h1 h3⟩
    refine k (.ref p) _ H' (a1.trans a2c) ⟨w2.en.mono sB, fun q hq => ?_, w2.nd⟩ (.lst upd_same (dv2.mono sB))
    obtain ⟨c, u, q1, q2, q3, q4, q5⟩ := w2.each q hq
    exact ⟨c, u, q1, q2, by rw [upd_ne (np q hq)]; exact q3, q4, q5.mono sB⟩
theorem x_lc {elt tg it : Expr} {scope : Scope} {own : List (Str × Nat)} {di : DXA} {g : DG} {is : List Nat} {de : DX} (hc : X.calm = true) (hN : X.N.Nodup) (hi : NI X tg it s di) (ok : BlkOk X.N X.env.scope scope own)
    (hg : ∀ (s : Shared) (H : Hp) (C : Addr) (cl : List (Str × Addr)) (fp : List Addr), GG (X.blk s H scope (compEnvC scope cl C X.env) fp) tg g is)
    (he : ∀ (s' : Shared) (H : Hp) (C : Addr) (cl : List (Str × Addr)) (fp : List Addr), NX (X.blk s' H scope (compEnvC scope cl C X.env) fp) elt s de) (his : ∀ i ∈ is, i ∈ own.map (·.2) := by decide) (hsv : ∀ i ∈ s, i ∉ own.map (·.2) := by decide) (hs : ∀ x, foldedSetIterable it X.env x = pure x := by intro _; rfl) :
    NX X (.ListComp elt [⟨tg, it, [], 0⟩] scope pos) s (xLc (own.map (·.2)) s di g de) :=
  ⟨PE.imp (pe_lc hc hN hi.pi ok (fun s H C cl fp => (hg s H C cl fp).pg) (fun s H C cl fp => gts_nil.pts) (fun s H C cl fp => (he s H C cl fp).pe) hs) fun _ _ _ h => tX_lc his hsv h⟩
end
end SK
set_option maxHeartbeats 1000000
/-! Statements over owned objects. -/
namespace SK
open PySem PySem.Spec PyProof.Rows L2
inductive OutX where
  | nx (ρ : Rho)
  | rt (d : PyData) (ρ : Rho)
abbrev DSX := Rho → Option OutX
def RootAt (R : Own) (B H : Hp) (ρ : Rho) : Prop := ∀ p ∈ R, ∃ c u, ρ[p.1]? = some (some c) ∧ B p.2 = none ∧ H p.2 = some u ∧ OwnU B u c
def tXS (root loc : List Nat) (d : DSX) : TS := fun D σ H => ∃ R l B0 H0 B ρ out, R.map (·.1) = root ∧ l.map (·.1) = loc ∧ AtO R B0 B H0 H ∧ (∀ p ∈ l, H0 p.2 = none) ∧ OwS (R ++ l) B H σ ρ ∧ d ρ = some out ∧
  (∀ ρ', out = .nx ρ' → ∀ σ' B' H', Same B B' → AtO R B0 B' H0 H' → OwS (R ++ l) B' H' σ' ρ' → D.nx σ' H') ∧
  (∀ r ρ', out = .rt r ρ' → ∀ v B' H', AtO R B0 B' H0 H' → Dv B' v r → RootAt R B' H' ρ' → D.rt v H')
structure NS (X : Cx) (st : Stmt) (root loc : List Nat) (d : DSX) : Prop where
  ps : PS X st (tXS root loc d)
structure NB (X : Cx) (sts : List Stmt) (root loc : List Nat) (d : DSX) : Prop where
  pss : PSs X sts (tXS root loc d)
theorem AtO.anchor {R l : Own} {B0 B B' H0 H H' : Hp} (x : AtO R B0 B H0 H) (y : AtO (R ++ l) B B' H H') (h : ∀ p ∈ l, H0 p.2 = none) : AtO R B0 B' H0 H' where
  b := x.b.trans y.b
  i := y.i
  oo := fun a u hn e => y.oo a u (fun p hp z => by
    rcases List.mem_append.mp hp with m | m
    · exact hn p m z
    · rw [← z, h p m] at e; cases e) (x.oo a u hn e)
  lv := fun p hp => y.lv p (List.mem_append_left _ hp)
  ap := fun a h1 h2 => y.ap a (x.ap a h1 h2) (by
    by_cases n : ∃ p ∈ R, p.2 = a
    · obtain ⟨p, hp, e⟩ := n
      rw [← e]; exact x.lv p hp
    · obtain ⟨u, h3, h4⟩ := h2
      exact ⟨u, x.oo a u (fun p hp e => n ⟨p, hp, e⟩) h3, h4⟩)
theorem OwS.root {R l : Own} {B H : Hp} {σ : L2.St} {ρ : Rho} (w : OwS (R ++ l) B H σ ρ) : RootAt R B H ρ := fun p hp => by
  obtain ⟨c, u, h1, _, h3, h4, h5⟩ := w.each p (List.mem_append_left _ hp)
  exact ⟨c, u, h1, h3, h4, h5⟩
theorem own_fst {R l : Own} {root loc : List Nat} (h1 : R.map (·.1) = root) (h2 : l.map (·.1) = loc) : (R ++ l).map (·.1) = root ++ loc := by rw [List.map_append, h1, h2]
/-- a slot that is not owned is set -/
theorem OwS.setv {o : Own} {B H : Hp} {σ : L2.St} {ρ : Rho} (w : OwS o B H σ ρ) {i : Nat} (hi : i ∉ o.map (·.1)) {v : V} {r : PyData} (dv : Dv B v r) : OwS o B H (σ.set i (some v)) (ρ.set i (some r)) := by
  have h := (w.en.set i dv)
  refine ⟨⟨by rw [h.len, List.length_set, wipeR_length, wipeR_length, List.length_set], fun j d q => ?_⟩, fun p hp => ?_, w.nd⟩
  · obtain ⟨q1, q2⟩ := wipeR_some q
    refine h.at_ j d ?_
    by_cases e : i = j
    · subst e
      have hl : i < ρ.length := by
        by_cases hl : i < ρ.length
        · exact hl
        · rw [List.getElem?_eq_none (by rw [List.length_set]; omega)] at q1; cases q1
      rw [List.getElem?_set_self hl] at q1
      rw [List.getElem?_set_self (by rw [wipeR_length]; exact hl)]; exact q1
    · rw [List.getElem?_set_ne e] at q1 ⊢
      rw [wipeR_out q2]; exact q1
  · obtain ⟨c, u, h1, h2, h3, h4, h5⟩ := w.each p hp
    have e : i ≠ p.1 := fun z => hi (by rw [z]; exact List.mem_map.mpr ⟨p, hp, rfl⟩)
    exact ⟨c, u, by rw [List.getElem?_set_ne e]; exact h1, by rw [List.getElem?_set_ne e]; exact h2, h3, h4, h5⟩
section
variable {X : Cx} {root loc : List Nat} {a b c : Expr} {da db dc : DX} {de : DE} {es : List Expr} {des : DXA} {pos : Pos} {st : Stmt} {rest : List Stmt} {s u : DSX}
def xSeq (s u : DSX) : DSX := fun ρ => (s ρ).bind fun o => match o with
  | .nx ρ' => u ρ'
  | .rt d ρ' => some (.rt d ρ')
def xNext : DSX := fun ρ => some (.nx ρ)
theorem b_nil : NB X [] root loc xNext := ⟨PSs.imp pss_nil fun D σ H ⟨R, l, B0, H0, B, ρ, out, h1, h2, at_, fr, w, e, k, _⟩ => by
  cases e
  exact k ρ rfl σ B H (Same.refl _) at_ w⟩
theorem b_one (h : NS X st root loc s) : NB X [st] root loc s := ⟨pss_one h.ps⟩
theorem b_cons (h : NS X st root loc s) (r : NB X rest root loc u) : NB X (st :: rest) root loc (xSeq s u) := ⟨PSs.imp (pss_cons h.ps r.pss) fun D σ H ⟨R, l, B0, H0, B, ρ, out, h1, h2, at_, fr, w, e, k, k2⟩ => by
  obtain ⟨o1, e1, e2⟩ := Option.bind_eq_some_iff.mp e
  refine ⟨R, l, B0, H0, B, ρ, o1, h1, h2, at_, fr, w, e1, fun ρ' q σ' B' H' sb a' w' => ?_, fun r ρ' q v B' H' a' dv rt => ?_⟩
  · subst q
    exact ⟨R, l, B0, H0, B', ρ', out, h1, h2, a', fr, w', e2, fun ρ2 q2 σ2 B2 H2 s2 => k ρ2 q2 σ2 B2 H2 (sb.trans s2), k2⟩
  · subst q
    cases e2
    exact k2 r ρ' rfl v B' H' a' dv rt⟩
def xsLift (s : List Nat) (d : DS) : DSX := fun ρ => (d (wipeR ρ s)).map fun o => match o with
  | .nx ρ' => .nx (putS s ρ' ρ)
  | .rt d => .rt d ρ
theorem s_lift {d : DS} {is : List Nat} (h : GSk X st d is) (hi : ∀ i ∈ root ++ loc, i ∉ is := by decide) : NS X st root loc (xsLift (root ++ loc) d) := ⟨PS.imp h.ps fun D σ H ⟨R, l, B0, H0, B, ρ, out, h1, h2, at_, fr, w, e, k, k2⟩ => by
  obtain ⟨o1, e1, e2⟩ := Option.map_eq_some_iff.mp e
  have hs := own_fst h1 h2
  refine ⟨B, _, o1, at_.i, w.en, by rw [hs]; exact e1, fun ρ' q σ' B' H' a' en' bt => ?_, fun r q v B' H' a' dv => ?_⟩
  · subst q
    subst e2
    refine k _ rfl σ' B' H' a'.b (at_.anchor (a'.toO w) fr) ?_
    exact (w.move a').slots hs en' fun i hi' => bt.2 i (hi i hi')
  · subst q
    subst e2
    exact k2 r ρ rfl v B' H' (at_.anchor (a'.toO w) fr) dv (w.move a').root⟩
theorem tX_of {d : DX} {R l : Own} {B0 H0 B : Hp} {ρ : Rho} {σ : L2.St} {H : Hp} {Q : VK} {r : PyData} {ρ' : Rho} (h1 : R.map (·.1) = root) (h2 : l.map (·.1) = loc) (at_ : AtO R B0 B H0 H) (fr : ∀ p ∈ l, H0 p.2 = none) (w : OwS (R ++ l) B H σ ρ) (e : d ρ = some (r, ρ'))
    (k : ∀ v B' H', Same B B' → AtO R B0 B' H0 H' → OwS (R ++ l) B' H' σ ρ' → Dv B' v r → Q v H') : tX (root ++ loc) d σ H Q :=
  ⟨R ++ l, B, ρ, r, ρ', own_fst h1 h2, at_.i, w, e, fun v B' H' a' w' dv => k v B' H' a'.b (at_.anchor a' fr) w' dv⟩
def xSet (i : Nat) (d : DX) : DSX := fun ρ => (d ρ).map fun p => .nx (p.2.set i (some p.1))
theorem s_set {i : Nat} {x : Str} {p : Pos} (h : PS X (.Assign [.Name x p] a pos) (tAsg (tX (root ++ loc) da) (gName i))) (hi : i ∉ root ++ loc := by decide) : NS X (.Assign [.Name x p] a pos) root loc (xSet i da) := ⟨PS.imp h fun D σ H ⟨R, l, B0, H0, B, ρ, out, h1, h2, at_, fr, w, e, k, k2⟩ => by
  obtain ⟨⟨r, ρ1⟩, e1, e2⟩ := Option.map_eq_some_iff.mp e
  subst e2
  exact tX_of h1 h2 at_ fr w e1 fun v B' H' sb a' w' dv => k _ rfl _ B' H' sb a' (w'.setv (by rw [own_fst h1 h2]; exact hi) dv)⟩
def xRet (d : DX) : DSX := fun ρ => (d ρ).map fun p => .rt p.1 p.2
theorem s_ret (h : NX X a (root ++ loc) da) : NS X (.Return (some a) pos) root loc (xRet da) := ⟨PS.imp (ps_ret h.pe) fun D σ H ⟨R, l, B0, H0, B, ρ, out, h1, h2, at_, fr, w, e, k, k2⟩ => by
  obtain ⟨⟨r, ρ1⟩, e1, e2⟩ := Option.map_eq_some_iff.mp e
  subst e2
  exact tX_of h1 h2 at_ fr w e1 fun v B' H' _ a' w' dv => k2 r ρ1 rfl v B' H' a' dv w'.root⟩
def xIfS (c : DX) (s u : DSX) : DSX := fun ρ => (c ρ).bind fun p => match p.1 with
  | .bool true => s p.2
  | .bool false => u p.2
  | _ => none
theorem s_if {sa sb : List Stmt} (hc : NT X c (root ++ loc) dc) (ha : NB X sa root loc s) (hb : NB X sb root loc u) : NS X (.If c sa sb pos) root loc (xIfS dc s u) := ⟨PS.imp (ps_if hc.pt ha.pss hb.pss) fun D σ H ⟨R, l, B0, H0, B, ρ, out, h1, h2, at_, fr, w, e, k, k2⟩ => by
  obtain ⟨⟨x, ρ1⟩, e1, e2⟩ := Option.bind_eq_some_iff.mp e
  cases x with
  | bool y =>
    refine ⟨R ++ l, B, ρ, y, ρ1, own_fst h1 h2, at_.i, w, e1, fun B' H' a' w' => ?_⟩
    cases y with
    | true => exact ⟨R, l, B0, H0, B', ρ1, out, h1, h2, at_.anchor a' fr, fr, w', e2, fun ρ2 q2 σ2 B2 H2 s2 => k ρ2 q2 σ2 B2 H2 (a'.b.trans s2), k2⟩
    | false => exact ⟨R, l, B0, H0, B', ρ1, out, h1, h2, at_.anchor a' fr, fr, w', e2, fun ρ2 q2 σ2 B2 H2 s2 => k ρ2 q2 σ2 B2 H2 (a'.b.trans s2), k2⟩
  | _ => exact nomatch e2⟩
def forX (s : List Nat) (g : DG) (body : DSX) : List PyData → DSX
  | [], ρ => some (.nx ρ)
  | x :: xs, ρ => (gX s g ρ x).bind fun ρ1 => (body ρ1).bind fun o => match o with
    | .nx ρ2 => forX s g body xs ρ2
    | .rt d ρ2 => some (.rt d ρ2)
def xFor (s : List Nat) (it : DXA) (g : DG) (body : DSX) : DSX := fun ρ => (it ρ).bind fun p => forX s g body p.1 p.2
theorem s_for {tg it : Expr} {body : List Stmt} {di : DXA} {g : DG} {is : List Nat} (hp : PassesOwn (model X.prog X.w) X.A X.env X.xe) (hc : X.calm = true) (hi : NI X tg it (root ++ loc) di) (hg : GG X tg g is) (hb : NB X body root loc s) (hii : ∀ i ∈ root ++ loc, i ∉ is := by decide) (hs : ∀ x, foldedSetIterable it X.env x = pure x := by intro _; rfl) :
    NS X (.For tg it body [] pos) root loc (xFor (root ++ loc) di g s) := ⟨PS.imp (ps_for hp hc hi.pi hg.pg hb.pss hs) fun D σ H ⟨R, l, B0, H0, B, ρ, out, h1, h2, at_, fr, w, e, k, k2⟩ => by
  obtain ⟨⟨xs, ρ1⟩, e1, e2⟩ := Option.bind_eq_some_iff.mp e
  have hsl := own_fst h1 h2
  refine ⟨R ++ l, B, ρ, xs, ρ1, hsl, at_.i, w, e1, fun J B1 H1 a1 w1 wk => ?_⟩
  refine ⟨fun n m σ' H' => m = xs.length - n ∧ n ≤ xs.length ∧ ∃ B2 ρ2, Same B1 B2 ∧ AtO R B0 B2 H0 H' ∧ OwS (R ++ l) B2 H' σ' ρ2 ∧ forX (root ++ loc) g s (xs.drop n) ρ2 = some out,
    ⟨xs.length, by omega, Nat.zero_le _, B1, ρ1, Same.refl _, at_.anchor a1 fr, w1, e2⟩, ?_⟩
  rintro n m σ' H' ⟨rfl, hn, B2, ρ2, s2, a2, w2, e3⟩
  by_cases hlt : n < xs.length
  · rw [List.drop_eq_getElem_cons hlt] at e3
    obtain ⟨ρ3, e4, e5⟩ := Option.bind_eq_some_iff.mp (show (gX (root ++ loc) g ρ2 xs[n]).bind (fun ρ1 => (s ρ1).bind fun o => match o with | .nx ρ2 => forX (root ++ loc) g s (xs.drop (n + 1)) ρ2 | .rt d ρ2 => some (.rt d ρ2)) = some out from e3)
    obtain ⟨o1, e6, e7⟩ := Option.bind_eq_some_iff.mp e5
    obtain ⟨ρ4, e9, e10⟩ := Option.map_eq_some_iff.mp e4
    subst e10
    refine .inr ⟨wk.go n H' hlt (s2.trans a2.i), fun σ3 H3 => ∃ B3 ρ4, Same B1 B3 ∧ AtO R B0 B3 H0 H3 ∧ OwS (R ++ l) B3 H3 σ3 ρ4 ∧ forX (root ++ loc) g s (xs.drop (n + 1)) ρ4 = some out, fun σ3 H3 ⟨B3, ρ4, s3, a3, w3, e8⟩ => ⟨xs.length - (n + 1), by omega, rfl, hlt, B3, ρ4, s3, a3, w3, e8⟩, fun x H3 yl => ?_⟩
    obtain ⟨B3, a3, dx⟩ := wk.yld n B2 H' x H3 xs[n] s2 a2.i yl (List.getElem?_eq_getElem hlt)
    have w3 := w2.move a3
    have at3 := a2.anchor (a3.toO w2) fr
    refine ⟨B3, wipeR ρ2 (root ++ loc), xs[n], ρ4, a3.i, by rw [← hsl]; exact w3.en, dx, e9, fun σ4 en4 bt4 => ?_⟩
    have w4 : OwS (R ++ l) B3 H3 σ4 (putS (root ++ loc) ρ4 ρ2) := w3.slots hsl en4 fun i hi' => bt4.2 i (hii i hi')
    -- the walked part stays in the looked-at part
    refine ⟨R, l, B0, H0, B3, _, o1, h1, h2, at3, fr, w4, e6, fun ρ5 q σ5 B5 H5 sb a5 w5 => ?_, fun r ρ5 q v B5 H5 a5 dv rt => ?_⟩
    · subst q
      exact ⟨B5, ρ5, (s2.trans a3.b).trans sb, a5, w5, e7⟩
    · subst q
      cases e7
      exact k2 r ρ5 rfl v B5 H5 a5 dv rt
  · have en : n = xs.length := by omega
    subst en
    rw [List.drop_length] at e3
    cases e3
    exact .inl ⟨wk.stop H' (s2.trans a2.i), k ρ2 rfl σ' B2 H' (a1.b.trans s2) a2 w2⟩⟩
end
end SK
set_option maxHeartbeats 1000000
/-! Owned objects: changing, taking, letting go; defs over an owned first argument. -/
namespace SK
open PySem PySem.Spec PyProof.Rows L2
theorem nodup_mid {α : Type} {a : α} {l m : List α} : (l ++ a :: m).Nodup ↔ (a :: (l ++ m)).Nodup := List.perm_middle.nodup_iff
/-- an owned object's content changed in place -/
theorem OwS.write {o : Own} {B H : Hp} {σ : L2.St} {ρ : Rho} (w : OwS o B H σ ρ) (s : Same B H) {t : Nat} {T : Addr} (ht : (t, T) ∈ o) (nd : (o.map (·.1)).Nodup) {u : HO} {c : PyData} (h : OwnU B u c) : AtO o B B H (upd H T u) ∧ OwS o B (upd H T u) σ (ρ.set t (some c)) := by
  have bT := w.nob _ ht
  refine w.put ht nd ⟨Same.refl B, Same.upd s bT u, fun a v hn e => by rw [upd_ne (fun z => hn (0, T) (List.mem_singleton.mpr rfl) z.symm)]; exact e, fun p hp => by rw [List.mem_singleton.mp hp]; exact ⟨u, upd_same, h.isT⟩, fun _ h _ => h⟩ bT upd_same h
theorem own_mem {o : Own} {s : List Nat} (hs : o.map (·.1) = s) {t : Nat} (ht : t ∈ s) : ∃ T, (t, T) ∈ o := by
  subst hs
  obtain ⟨⟨t', T⟩, hp, e⟩ := List.mem_map.mp ht
  have e : t' = t := e
  subst e
  exact ⟨T, hp⟩
section
variable {X : Cx} {s : List Nat} {root loc : List Nat} {a b c : Expr} {da db dc : DX} {de : DE} {es : List Expr} {des : DXA} {pos : Pos} {st : Stmt} {rest : List Stmt}
/-- what is owned in slot j is a list -/
def lstAt (ρ : Rho) (j : Nat) : Option (List PyData) := match (ρ[j]?).join with
  | some (.list ds) => some ds
  | _ => none
theorem lstAt_own {o : Own} {B H : Hp} {σ : L2.St} {ρ : Rho} (w : OwS o B H σ ρ) {j : Nat} {T : Addr} (hT : (j, T) ∈ o) {ds : List PyData} (e : lstAt ρ j = some ds) : ∃ vs, σ[j]? = some (some (.ref T)) ∧ H T = some (.lst vs) ∧ DvA B vs ds := by
  obtain ⟨c, u, g1, g2, g3, g4, g5⟩ := w.each _ hT
  have g1' : ρ[j]? = some (some c) := g1
  unfold lstAt at e
  rw [g1'] at e
  cases c with
  | list es =>
    have e2 : some es = some ds := e
    cases e2
    cases u with
    | lst vs => exact ⟨vs, g2, g4, g5⟩
    | _ => exact g5.elim
  | _ => exact nomatch e
/-- x.append(e) -/
def xApp (j : Nat) (d : DX) : DSX := fun ρ => (lstAt ρ j).bind fun _ => (d ρ).bind fun p => (lstAt p.2 j).bind fun ds => if ds.length < 1000 then some (.nx (p.2.set j (some (.list (ds ++ [p.1]))))) else none
theorem s_app {j : Nat} {x : Str} {p q : Pos} (hN : X.N[j]? = some x) (hv : Vis X.env.scope x) (ha : NX X a (root ++ loc) da) (hj : j ∈ root ++ loc := by decide) (hnd : (root ++ loc).Nodup := by decide) (hdb : (x == ("__debug__" : Str)) = false := by decide) (hcd : (x == ("__classdict__" : Str)) = false := by decide)
    (hbase : attributeBase (.Name x p) "append" X.env (eval (.Name x p) X.env) = eval (.Name x p) X.env := by rfl)
    (hfew : ((backTo pos (starEach [a] X.env)).all (fun x => !x.1) && (backToKw pos (keywordEach [] X.env)).all (fun x => x.1.isSome)
      && decide (([a] : List Expr).length + ([] : List Keyword).length + (if ([] : List Keyword).isEmpty then 0 else 1) < 30)) = true := by rfl)
    (hline : (q.endLine == pos.line) = true := by rfl) (hs : starEach [a] X.env = (false, eval a X.env) :: starEach [] X.env := by rfl) (hplain : (backTo pos (starEach ([] : List Expr) X.env)).any (·.1) = false := by rfl) {epos : Pos}
    (hsw : swapsWith (.Call (.Attribute (.Name x p) "append" q) [a] [] pos) none epos.line X.env = pure false := by rfl) :
    NS X (.Expr (.Call (.Attribute (.Name x p) "append" q) [a] [] pos) epos) root loc (xApp j da) :=
  ⟨PS.imp (ps_expr (pe_bm PySem.F.plainAttrs_list PySem.F.slot_list_append PySem.F.type_list_append mt_append (pv j hN hv hdb hcd) (pa_cons ha.pe pa_nil hs) hbase hfew hline hs hplain) hsw) fun D σ H ⟨R, l, B0, H0, B, ρ, out, h1, h2, at_, fr, w, e, k, k2⟩ => by
    obtain ⟨ds0, e0, e1⟩ := Option.bind_eq_some_iff.mp e
    obtain ⟨⟨y, ρ1⟩, e2, e3⟩ := Option.bind_eq_some_iff.mp e1
    obtain ⟨ds, e4, e5⟩ := Option.bind_eq_some_iff.mp e3
    have hsl := own_fst h1 h2
    obtain ⟨T, hT⟩ := own_mem hsl hj
    obtain ⟨vs0, g1, g2, _⟩ := lstAt_own w hT e0
    refine ⟨.ref T, g1, .inl ⟨rfl, vs0, .inl (.inl g2)⟩, ?_⟩
    refine tX_of h1 h2 at_ fr w e2 fun v B' H' sb a' w' dv => ?_
    obtain ⟨vs, _, g3, g4⟩ := lstAt_own w' hT e4
    have e6 : (if ds.length < 1000 then some (OutX.nx (ρ1.set j (some (.list (ds ++ [y]))))) else none) = some out := e5
    by_cases hl : ds.length < 1000
    · rw [if_pos hl] at e6
      cases e6
      refine ⟨T, vs, v, rfl, rfl, g3, by rw [g4.length]; exact small1000 (Nat.le_of_lt hl), ?_⟩
      obtain ⟨a3, w3⟩ := w'.write a'.i hT (by rw [hsl]; exact hnd) (u := .lst (vs ++ [v])) (c := .list (ds ++ [y])) (g4.append (.one dv))
      exact k _ rfl σ B' _ sb (a'.anchor a3 fr) w3
    · rw [if_neg hl] at e6; cases e6⟩
/-- x[i] = e -/
def xStore (j : Nat) (di : DX) (d : DX) : DSX := fun ρ => (d ρ).bind fun p => (di p.2).bind fun q => match q.1 with
  | .int i => (lstAt q.2 j).bind fun ds => (ixN ds.length i).map fun n => .nx (q.2.set j (some (.list (ds.set n p.1))))
  | _ => none
theorem DvA.set {B : Hp} {v : V} {d : PyData} (hv : Dv B v d) : ∀ {vs : List V} {ds : List PyData} (n : Nat), DvA B vs ds → DvA B (vs.set n v) (ds.set n d)
  | _, _, _, .nil => .nil
  | _, _, 0, .cons _ t => .cons hv t
  | _, _, n + 1, .cons h t => .cons h (DvA.set hv n t)
theorem s_store {j : Nat} {x : Str} {p q : Pos} {ix : Expr} {di : DX} (hN : X.N[j]? = some x) (hv : Vis X.env.scope x) (hi : NX X ix (root ++ loc) di) (ha : NX X a (root ++ loc) da) (hj : j ∈ root ++ loc := by decide) (hnd : (root ++ loc).Nodup := by decide) (hdb : (x == ("__debug__" : Str)) = false := by decide) (hcd : (x == ("__classdict__" : Str)) = false := by decide)
    (hs : swapsWithSole [.Subscript (.Name x p) ix q] a pos.line X.env = pure false := by rfl) (hw : swappedStores [.Subscript (.Name x p) ix q] a X.env = pure none := by rfl)
    (h1 : (assignEach [.Subscript (.Name x p) ix q] X.env).map (·.2) = [assign (.Subscript (.Name x p) ix q) X.env] := by rfl)
    (ht : ∀ v, assign (.Subscript (.Name x p) ix q) X.env v = (do
      let ov ← holding [v] (eval (.Name x p) X.env)
      let iv ← holding [v, ov] (eval ix X.env)
      standAt q
      holding [v, ov, iv] (setItem ov iv v)
      release [v, ov, iv] []) := by intro _; rfl) : NS X (.Assign [.Subscript (.Name x p) ix q] a pos) root loc (xStore j di da) :=
  ⟨PS.imp (ps_asg ha.pe (pg_sub (pv j hN hv hdb hcd) hi.pe set_list ht) hs hw h1) fun D σ H ⟨R, l, B0, H0, B, ρ, out, h1, h2, at_, fr, w, e, k, k2⟩ => by
    obtain ⟨⟨y, ρ1⟩, e1, e2⟩ := Option.bind_eq_some_iff.mp e
    obtain ⟨⟨z, ρ2⟩, e3, e4⟩ := Option.bind_eq_some_iff.mp e2
    cases z with
    | int i =>
      obtain ⟨ds, e5, e6⟩ := Option.bind_eq_some_iff.mp (show (lstAt ρ2 j).bind (fun ds => (ixN ds.length i).map fun n => OutX.nx (ρ2.set j (some (.list (ds.set n y))))) = some out from e4)
      obtain ⟨n, e7, e8⟩ := Option.map_eq_some_iff.mp e6
      subst e8
      have hsl := own_fst h1 h2
      obtain ⟨T, hT⟩ := own_mem hsl hj
      refine tX_of h1 h2 at_ fr w e1 fun v B1 H1 s1 a1 w1 dv => ?_
      obtain ⟨c, u, _, g2, _⟩ := w1.each _ hT
      refine ⟨.ref T, g2, ?_⟩
      refine tX_of h1 h2 a1 fr w1 e3 fun iv B2 H2 s2 a2 w2 di' => ?_
      cases di'
      obtain ⟨vs, _, g3, g4⟩ := lstAt_own w2 hT e5
      refine ⟨T, vs, i, n, rfl, rfl, g3, by rw [g4.length]; exact e7, ?_⟩
      obtain ⟨a3, w3⟩ := w2.write a2.i hT (by rw [hsl]; exact hnd) (u := .lst (vs.set n v)) (c := .list (ds.set n y)) (DvA.set (dv.mono s2) n g4)
      exact k _ rfl σ B2 _ (s1.trans s2) (a2.anchor a3 fr) w3
    | _ => exact nomatch e4⟩
/-- x.pop(i) -/
def xPop (j : Nat) (d : DX) : DX := fun ρ => (lstAt ρ j).bind fun _ => (d ρ).bind fun p => match p.1 with
  | .int i => (lstAt p.2 j).bind fun ds => if 0 ≤ i ∧ i < ds.length ∧ ds.length ≤ 1000 then ds[i.toNat]?.map fun y => (y, p.2.set j (some (.list (ds.eraseIdx i.toNat)))) else none
  | _ => none
theorem DvA.erase {B : Hp} : ∀ {vs : List V} {ds : List PyData} (n : Nat), DvA B vs ds → DvA B (vs.eraseIdx n) (ds.eraseIdx n)
  | _, _, _, .nil => .nil
  | _, _, 0, .cons _ t => t
  | _, _, n + 1, .cons h t => .cons h (DvA.erase n t)
theorem x_pop {j : Nat} {x : Str} {p q : Pos} (hN : X.N[j]? = some x) (hv : Vis X.env.scope x) (ha : NX X a s da) (hj : j ∈ s := by decide) (hnd : s.Nodup := by decide) (hdb : (x == ("__debug__" : Str)) = false := by decide) (hcd : (x == ("__classdict__" : Str)) = false := by decide)
    (hbase : attributeBase (.Name x p) "pop" X.env (eval (.Name x p) X.env) = eval (.Name x p) X.env := by rfl)
    (hfew : ((backTo pos (starEach [a] X.env)).all (fun x => !x.1) && (backToKw pos (keywordEach [] X.env)).all (fun x => x.1.isSome)
      && decide (([a] : List Expr).length + ([] : List Keyword).length + (if ([] : List Keyword).isEmpty then 0 else 1) < 30)) = true := by rfl)
    (hline : (q.endLine == pos.line) = true := by rfl) (hs : starEach [a] X.env = (false, eval a X.env) :: starEach [] X.env := by rfl) (hplain : (backTo pos (starEach ([] : List Expr) X.env)).any (·.1) = false := by rfl) :
    NX X (.Call (.Attribute (.Name x p) "pop" q) [a] [] pos) s (xPop j da) :=
  ⟨PE.imp (pe_bm PySem.F.plainAttrs_list PySem.F.slot_list_pop PySem.F.type_list_pop mt_popAt (pv j hN hv hdb hcd) (pa_cons ha.pe pa_nil hs) hbase hfew hline hs hplain) fun σ H Q ⟨o, B, ρ, r, ρ', es, sm, w, e, k⟩ => by
    obtain ⟨ds0, e0, e1⟩ := Option.bind_eq_some_iff.mp e
    obtain ⟨⟨y, ρ1⟩, e2, e3⟩ := Option.bind_eq_some_iff.mp e1
    obtain ⟨T, hT⟩ := own_mem es hj
    obtain ⟨vs0, g1, g2, _⟩ := lstAt_own w hT e0
    refine ⟨.ref T, g1, .inl ⟨rfl, vs0, .inl (.inl g2)⟩, ?_⟩
    cases y with
    | int i =>
      obtain ⟨ds, e4, e5⟩ := Option.bind_eq_some_iff.mp (show (lstAt ρ1 j).bind (fun ds => if 0 ≤ i ∧ i < ds.length ∧ ds.length ≤ 1000 then ds[i.toNat]?.map (fun y => (y, ρ1.set j (some (.list (ds.eraseIdx i.toNat))))) else none) = some (r, ρ') from e3)
      by_cases hi : 0 ≤ i ∧ i < ds.length ∧ ds.length ≤ 1000
      · rw [if_pos hi] at e5
        obtain ⟨y0, e6, e7⟩ := Option.map_eq_some_iff.mp e5
        cases e7
        refine ⟨o, B, ρ, .int i, ρ1, es, sm, w, e2, fun v B1 H1 a1 w1 dv => ?_⟩
        cases dv
        obtain ⟨vs, _, g3, g4⟩ := lstAt_own w1 hT e4
        obtain ⟨v0, q1, q2⟩ := g4.get e6
        have hl := g4.length
        refine ⟨T, vs, i, i.toNat, v0, rfl, rfl, g3, by omega, by omega, ?_, q1, ?_⟩
        · rw [seqIndex_of hi.1 (by rw [hl]; exact hi.2.1)]
        · obtain ⟨a3, w3⟩ := w1.write a1.i hT (by rw [es]; exact hnd) (u := .lst (vs.eraseIdx i.toNat)) (c := .list (ds.eraseIdx i.toNat)) (DvA.erase _ g4)
          exact k v0 B1 _ (a1.trans a3) w3 q2
      · rw [if_neg hi] at e5; cases e5
    | _ => exact nomatch e3⟩
/-- a, b, c = x, y, z, plain names -/
def xPar3 (i j l : Nat) (d : DXA) : DSX := fun ρ => (d ρ).bind fun p => match p.1 with
  | [x, y, z] => some (.nx (((p.2.set i (some x)).set j (some y)).set l (some z)))
  | _ => none
theorem s_par3 {i j m : Nat} {x y z : Str} {px py pz pt : Pos} {kt k2 pt2} (hc : X.calm = true) (hN : X.N.Nodup) (hi : X.N[i]? = some x) (hj : X.N[j]? = some y) (hl : X.N[m]? = some z) (hij : i ≠ j) (hil : i ≠ m) (hjl : j ≠ m)
    (hx : X.env.scope.names.lookup x = some .local) (hy : X.env.scope.names.lookup y = some .local) (hz : X.env.scope.names.lookup z = some .local) (ha : NA X [a, b, c] (root ++ loc) des)
    (hw : swappedStores [.Tuple [.Name x px, .Name y py, .Name z pz] kt pt] (.Tuple [a, b, c] k2 pt2) X.env = pure (some [x, y, z])) (hii : i ∉ root ++ loc := by decide) (hjj : j ∉ root ++ loc := by decide) (hmm : m ∉ root ++ loc := by decide)
    (hs : swapsWithSole [.Tuple [.Name x px, .Name y py, .Name z pz] kt pt] (.Tuple [a, b, c] k2 pt2) pos.line X.env = pure false := by rfl) :
    NS X (.Assign [.Tuple [.Name x px, .Name y py, .Name z pz] kt pt] (.Tuple [a, b, c] k2 pt2) pos) root loc (xPar3 i j m des) := ⟨PS.imp (ps_par3 hc hN hi hj hl hij hil hjl hx hy hz ha.pa hw hs) fun D σ H ⟨R, l, B0, H0, B, ρ, out, h1, h2, at_, fr, w, e, k, k2⟩ => by
  obtain ⟨⟨xs, ρ1⟩, e1, e2⟩ := Option.bind_eq_some_iff.mp e
  have hsl := own_fst h1 h2
  refine ⟨R ++ l, B, ρ, xs, ρ1, hsl, at_.i, w, e1, fun vs B1 H1 a1 w1 dvs => ?_⟩
  match xs, dvs, e2 with
  | [d1, d2, d3], .cons g1 (.cons g2 (.cons g3 .nil)), e2 =>
    cases e2
    exact ⟨_, _, _, rfl, k _ rfl _ B1 H1 a1.b (at_.anchor a1 fr) (((w1.setv (by rw [hsl]; exact hii) g1).setv (by rw [hsl]; exact hjj) g2).setv (by rw [hsl]; exact hmm) g3)⟩⟩
/-! ### taking a list into ownership -/
/-- an expression that makes a new list -/
def tXF (s : List Nat) (d : DXA) : TE := fun σ H Q => ∃ o B ρ r ρ', o.map (·.1) = s ∧ Same B H ∧ OwS o B H σ ρ ∧ d ρ = some (r, ρ') ∧ ∀ vs B' H' p, AtO o B B' H H' → OwS o B' H' σ ρ' → H' p = none → DvA B' vs r → Q (.ref p) (upd H' p (.lst vs))
structure NF (X : Cx) (e : Expr) (s : List Nat) (d : DXA) : Prop where
  pe : PE X e (tXF s d)
theorem f_lst {p : Pos} (h : NA X es s des) (hl : es.length ≤ 1000 := by decide) : NF X (.List es p) s des := ⟨PE.imp (pe_lst h.pa) fun σ H Q ⟨o, B, ρ, d, ρ', es, sm, w, e, k⟩ =>
  ⟨o, B, ρ, d, ρ', es, sm, w, e, fun vs B1 H1 a1 w1 dvs => ⟨by rw [dvs.length, h.n _ _ _ e]; exact le_line hl, fun p hp => k vs B1 H1 p a1 w1 hp dvs⟩⟩⟩
def xSeqOf (d : DX) : DXA := fun ρ => (d ρ).bind fun p => (seqOf p.1).map fun xs => (xs, p.2)
theorem f_list {k : Nat} {p : Pos} (o : Okx X k) (ha : NX X a s da) (hg : Gl X "list" := by rfl) (he : starEach [a] X.env = (false, eval a X.env) :: starEach [] X.env := by rfl) (hpl : (backTo pos (starEach [] X.env)).any (·.1) = false := by rfl) : NF X (.Call (.Name "list" p) [a] [] pos) s (xSeqOf da) :=
  ⟨PE.imp (pe_callTy call_list_of hg (o.m.free 65) (by decide +kernel) (pa_cons ha.pe pa_nil he) (by decide) (by decide) he hpl) fun σ H Q ⟨o, B, ρ, d, ρ', es, sm, w, e, k⟩ => by
    obtain ⟨⟨x, ρ1⟩, e1, e2⟩ := Option.bind_eq_some_iff.mp e
    obtain ⟨xs, e3, e4⟩ := Option.map_eq_some_iff.mp e2
    cases e4
    refine ⟨o, B, ρ, x, _, es, sm, w, e1, fun v B1 H1 a1 w1 dv => ?_⟩
    obtain ⟨_, e5 | e5⟩ := seqOf_some e3
    · subst e5
      cases dv with
      | lst h1 h2 => exact ⟨_, _, rfl, .inl (SqL.of (a1.i _ _ h1)), fun l hl => k _ B1 H1 l a1 w1 hl h2⟩
    · subst e5
      cases dv with
      | tup h1 h2 => exact ⟨_, _, rfl, .inr (h1.mono a1.i).sq, fun l hl => k _ B1 H1 l a1 w1 hl h2⟩⟩
/-- list(range(e)) is taken as data; a new list, else another -/
theorem OwS.add {o : Own} {B H : Hp} {σ : L2.St} {ρ : Rho} (w : OwS o B H σ ρ) (s : Same B H) {j : Nat} (hj : j ∉ o.map (·.1)) (hl : j < σ.length) {p : Addr} (hp : H p = none) {vs : List V} {ds : List PyData} (dv : DvA B vs ds) :
    OwS ((j, p) :: o) B (upd H p (.lst vs)) (σ.set j (some (.ref p))) (ρ.set j (some (.list ds))) := by
  have np : ∀ q ∈ o, q.2 ≠ p := fun q hq e => by
    obtain ⟨c, u, _, _, _, h4, _⟩ := w.each q hq
    rw [e, hp] at h4; cases h4
  have hlr : j < ρ.length := by rw [← wipeR_length ρ (o.map (·.1)), ← w.en.len]; exact hl
  refine ⟨⟨by rw [List.length_set, wipeR_length, List.length_set, w.en.len, wipeR_length], fun i d q => ?_⟩, fun q hq => ?_, by rw [List.map_cons]; exact List.nodup_cons.mpr ⟨fun m => by
    obtain ⟨q, hq, e⟩ := List.mem_map.mp m
    exact np q hq e, w.nd⟩⟩
  · obtain ⟨q1, q2⟩ := wipeR_some q
    have hji : j ≠ i := fun z => q2 (by rw [← z]; exact List.mem_cons_self)
    rw [List.getElem?_set_ne hji] at q1
    obtain ⟨v, h1, h2⟩ := w.en.at_ i d (by rw [wipeR_out fun m => q2 (List.mem_cons_of_mem _ m)]; exact q1)
    exact ⟨v, by rw [List.getElem?_set_ne hji]; exact h1, h2⟩
  · rcases List.mem_cons.mp hq with e | hq
    · rw [e]
      exact ⟨_, _, List.getElem?_set_self hlr, List.getElem?_set_self hl, s.free hp, upd_same, dv⟩
    · obtain ⟨c, u, h1, h2, h3, h4, h5⟩ := w.each q hq
      have hn : j ≠ q.1 := fun z => hj (by rw [z]; exact List.mem_map.mpr ⟨q, hq, rfl⟩)
      exact ⟨c, u, by rw [List.getElem?_set_ne hn]; exact h1, by rw [List.getElem?_set_ne hn]; exact h2, h3, by rw [upd_ne (np q hq)]; exact h4, h5⟩
/-- one owned thing let go: it is data -/
theorem OwS.drop {R l : Own} {j : Nat} {p : Addr} {B0 H0 B H : Hp} {σ : L2.St} {ρ : Rho} (at_ : AtO R B0 B H0 H) (fr : H0 p = none) (w : OwS (R ++ (j, p) :: l) B H σ ρ) (nd : ((R ++ (j, p) :: l).map (·.1)).Nodup) : ∃ B', Same B B' ∧ AtO R B0 B' H0 H ∧ OwS (R ++ l) B' H σ ρ := by
  have hm : (j, p) ∈ R ++ (j, p) :: l := List.mem_append_right _ List.mem_cons_self
  obtain ⟨c, u, h1, h2, h3, h4, h5⟩ := w.each _ hm
  have sB : Same B (upd B p u) := same_new h3 u
  have sub : ∀ q ∈ R ++ l, q ∈ R ++ (j, p) :: l := fun q hq => by
    rcases List.mem_append.mp hq with m | m
    · exact List.mem_append_left _ m
    · exact List.mem_append_right _ (List.mem_cons_of_mem _ m)
  have ndA : ((R ++ (j, p) :: l).map (·.2)).Nodup := w.nd
  rw [List.map_append, List.map_cons] at ndA nd
  have ne2 : ∀ q ∈ R ++ l, q.2 ≠ p := fun q hq e => by
    have h := nodup_mid.mp ndA
    rw [List.nodup_cons] at h
    exact h.1 (by rw [← e, ← List.map_append]; exact List.mem_map.mpr ⟨q, hq, rfl⟩)
  have ne1 : j ∉ (R ++ l).map (·.1) := by
    have h := nodup_mid.mp nd
    rw [List.nodup_cons] at h
    rw [List.map_append]; exact h.1
  have sI : Same (upd B p u) H := fun a v e => by
    by_cases n : a = p
    · rw [n, upd_same] at e; rw [n, h4]; exact e
    · rw [upd_ne n] at e; exact at_.i a v e
  refine ⟨upd B p u, sB, ⟨at_.b.trans sB, sI, at_.oo, at_.lv, fun a g1 g2 => ?_⟩, ⟨by rw [w.en.len, wipeR_length, wipeR_length], fun i d q => ?_⟩, fun q hq => ?_, ?_⟩
  · have n : a ≠ p := fun z => g2.ne (by rw [z]; exact fr)
    rw [upd_ne n]; exact at_.ap a g1 g2
  · obtain ⟨q1, q2⟩ := wipeR_some q
    by_cases e : i = j
    · subst e
      have h1' : ρ[i]? = some (some c) := h1
      rw [h1'] at q1
      cases q1
      exact ⟨_, h2, h5.dv h3⟩
    · obtain ⟨v, g1, g2⟩ := w.en.at_ i d (by
        rw [wipeR_out (fun m => ?_)]; exact q1
        rw [List.map_append, List.map_cons] at m
        rcases List.mem_append.mp m with m | m
        · exact q2 (by rw [List.map_append]; exact List.mem_append_left _ m)
        · rcases List.mem_cons.mp m with m | m
          · exact e m
          · exact q2 (by rw [List.map_append]; exact List.mem_append_right _ m))
      exact ⟨v, g1, g2.mono sB⟩
  · obtain ⟨c', u', g1, g2, g3, g4, g5⟩ := w.each q (sub q hq)
    exact ⟨c', u', g1, g2, by rw [upd_ne (ne2 q hq)]; exact g3, g4, g5.mono sB⟩
  · rw [List.map_append]
    exact (List.nodup_cons.mp (nodup_mid.mp ndA)).2
def xAcq (j : Nat) (d : DXA) (r : DSX) : DSX := fun ρ => (d ρ).bind fun p => if j < p.2.length then r (p.2.set j (some (.list p.1))) else none
theorem b_acq {j : Nat} {x : Str} {p : Pos} {r : DSX} (hN : X.N.Nodup) (hx : X.N[j]? = some x) (hl : Loc X.env.scope x) (hf1 : NF X a (root ++ loc) des) (hr : NB X rest root (j :: loc) r) (hnd : (root ++ j :: loc).Nodup := by decide)
    (hs : swapsWith a (some (.Name x p)) pos.line X.env = pure false := by rfl) (hf : X.fn x = true ∨ X.env.scope.names.lookup x = some .local := by first | exact .inl rfl | exact .inr rfl | assumption) :
    NB X (.Assign [.Name x p] a pos :: rest) root loc (xAcq j des r) := ⟨PSs.imp (pss_cons (ps_set hN hx hl hf1.pe hs hf) hr.pss) fun D σ H ⟨R, l, B0, H0, B, ρ, out, h1, h2, at_, fr, w, e, k, k2⟩ => by
  obtain ⟨⟨ds, ρ1⟩, e1, e2⟩ := Option.bind_eq_some_iff.mp e
  have hsl := own_fst h1 h2
  by_cases hj : j < ρ1.length
  · have e3 : r (ρ1.set j (some (.list ds))) = some out := by
      have : (if j < ρ1.length then r (ρ1.set j (some (.list ds))) else none) = some out := e2
      rwa [if_pos hj] at this
    refine ⟨R ++ l, B, ρ, ds, ρ1, hsl, at_.i, w, e1, fun vs B1 H1 p a1 w1 hp dvs => ?_⟩
    have jn : j ∉ (R ++ l).map (·.1) := by
      rw [hsl]
      exact (List.nodup_cons.mp (nodup_mid.mp hnd)).1
    have hσ : j < σ.length := by rw [w1.en.len, wipeR_length]; exact hj
    have at1 := at_.anchor a1 fr
    have h0p : H0 p = none := by
      cases q : H0 p with
      | none => rfl
      | some u =>
        exfalso
        by_cases n : ∃ q ∈ R, q.2 = p
        · obtain ⟨q, hq, e⟩ := n
          exact (at1.lv q hq).ne (by rw [e]; exact hp)
        · have := at1.oo p u (fun q hq e => n ⟨q, hq, e⟩) q
          rw [hp] at this; cases this
    have w2 := w1.add a1.i jn hσ hp dvs
    have npR : ∀ q ∈ R, q.2 ≠ p := fun q hq e => (at1.lv q hq).ne (by rw [e]; exact hp)
    have at2 : AtO R B0 B1 H0 (upd H1 p (.lst vs)) := ⟨at1.b, Same.upd a1.i (a1.i.free hp) _, fun a u hn e => by
      have e9 := at1.oo a u hn e
      rw [upd_ne (ne_of_none e9 hp)]; exact e9, fun q hq => by
      obtain ⟨u, q1, q2⟩ := at1.lv q hq
      exact ⟨u, by rw [upd_ne (npR q hq)]; exact q1, q2⟩, at1.ap⟩
    -- the order of the owned ones
    have w3 : OwS (R ++ (j, p) :: l) B1 (upd H1 p (.lst vs)) (σ.set j (some (.ref p))) (ρ1.set j (some (.list ds))) := by
      refine ⟨⟨by rw [w2.en.len, wipeR_length, wipeR_length], fun i d q => ?_⟩, fun q hq => w2.each q ?_, ?_⟩
      · obtain ⟨q1, q2⟩ := wipeR_some q
        refine w2.en.at_ i d ?_
        rw [wipeR_out fun m => q2 ?_]; exact q1
        rw [List.map_cons, List.map_append] at m
        rw [List.map_append, List.map_cons]
        rcases List.mem_cons.mp m with m | m
        · rw [m]; exact List.mem_append_right _ List.mem_cons_self
        · rcases List.mem_append.mp m with m | m
          · exact List.mem_append_left _ m
          · exact List.mem_append_right _ (List.mem_cons_of_mem _ m)
      · rcases List.mem_append.mp hq with m | m
        · exact List.mem_cons_of_mem _ (List.mem_append_left _ m)
        · rcases List.mem_cons.mp m with m | m
          · rw [m]; exact List.mem_cons_self
          · exact List.mem_cons_of_mem _ (List.mem_append_right _ m)
      · have := w2.nd
        rw [List.map_cons, List.map_append] at this
        rw [List.map_append, List.map_cons]
        exact nodup_mid.mpr this
    refine ⟨R, (j, p) :: l, B0, H0, B1, _, out, h1, by rw [List.map_cons, h2], at2, fun q hq => ?_, w3, e3, fun ρ' q σ' B' H' sb a' w' => ?_, k2⟩
    · rcases List.mem_cons.mp hq with e | hq
      · rw [e]; exact h0p
      · exact fr q hq
    · obtain ⟨B2, s2, a2, w4⟩ := OwS.drop a' h0p w' (by rw [List.map_append, List.map_cons, h1, h2]; exact hnd)
      exact k ρ' q σ' B2 H' ((a1.b.trans sb).trans s2) a2 w4
  · have : (if j < ρ1.length then r (ρ1.set j (some (.list ds))) else none) = some out := e2
    rw [if_neg hj] at this; cases this⟩
/-- a return that reads what was owned -/
def onlyRt (d : DSX) : DSX := fun ρ => (d ρ).bind fun o => match o with
  | .rt r ρ' => some (.rt r ρ')
  | .nx _ => none
theorem s_drop {j : Nat} {d : DSX} (h : NS X st root loc d) (hnd : (root ++ j :: loc).Nodup := by decide) : NS X st root (j :: loc) (onlyRt d) := ⟨PS.imp h.ps fun D σ H ⟨R, l, B0, H0, B, ρ, out, h1, h2, at_, fr, w, e, k, k2⟩ => by
  obtain ⟨o1, e1, e2⟩ := Option.bind_eq_some_iff.mp e
  match l, h2, fr, w with
  | (j', p) :: l, h2, fr, w =>
    rw [List.map_cons] at h2
    injection h2 with h2 h3
    have ej : j' = j := h2
    subst ej
    obtain ⟨B2, s2, a2, w2⟩ := OwS.drop at_ (fr _ List.mem_cons_self) w (by rw [List.map_append, List.map_cons, h1, h3]; exact hnd)
    refine ⟨R, l, B0, H0, B2, ρ, o1, h1, h3, a2, fun q hq => fr q (List.mem_cons_of_mem _ hq), w2, e1, fun ρ' q => ?_, fun r ρ' q => ?_⟩
    · subst q; exact nomatch e2
    · subst q
      cases e2
      exact k2 r ρ' rfl⟩
end
/-! ### the def -/
section
variable {P : Program} {w : World} {K : PySem.W.Frag} {mg : Str → Option Value} {base : Heap}
def endX : OutX → Option (PyData × PyData)
  | .rt d ρ => (ρ[0]?).join.map fun c => (d, c)
  | .nx ρ => (ρ[0]?).join.map fun c => (.none, c)
def mX (N n : Nat) (s : DSX) (ds : List PyData) : Option (PyData × PyData) := if ds.length = n then (s (rho0 N ds)).bind endX else none
theorem CalD.tin {x : Str} {i k : Nat} {N ps : List Str} {s : DSX} (M : Md K mg) (j : Nat) (S : FnScope N ps (defScope (top i)))
    (hb : ∀ (kV doc pm : Value) (an : Option Addr) (cdv ct : Value) (us : List Value), us.length = ps.length → bindArgs (PySem.W.fnOf x x (defArgs (top i)) (defBody (top i)) (defScope (top i)) .none kV doc pm an cdv ct) ⟨us, []⟩ = pure (ps.zip us))
    (hbody : ∀ (f : Addr) (cdv : Value) (A : Around) (outer : List Env) (s0 : Shared) (H : Hp) (E : XK), Room k (A.deeper (envOfC x (defScope (top i)) s0.heap.objs.size f cdv)) →
      NB (cxD P w K mg base N x (defScope (top i)) f cdv A outer s0 H E) (defBody (top i)) [0] [] s) (hi : fns[j]? = some (defAt x i) := by rfl) (hg : fas[j]? = some (.glo x) := by rfl) : CalD P w K mg base (k + 1) x ps (spX ps.length (mX N.length ps.length s)) :=
  CalD.of M j S (fun vs H Q E ⟨_, _, _, _, _, _, _, _, _, _, _, _, _, _, _, h, _⟩ => h) hb (fun f cdv A outer s0 H vs Q E hr ⟨B, T, u, us, c, ds, r, c', ev, sm, hT, hu, ow, dv, e, hl, q⟩ => by
    refine ⟨_, (hbody f cdv A outer s0 H E hr).pss, ?_⟩
    subst ev
    have hl2 : (c :: ds).length = ps.length := by rw [List.length_cons, ← dv.length]; exact hl
    unfold mX at e
    rw [if_pos hl2] at e
    obtain ⟨o, e1, e2⟩ := Option.bind_eq_some_iff.mp e
    have en0 := en_start (N := N) (dv)
    have w0 : OwS [(0, T)] B H (L2.start N (.ref T :: us)) (rho0 N.length (c :: ds)) := by
      refine ⟨⟨?_, fun i d q => ?_⟩, fun p hp => ?_, by simp⟩
      · rw [wipeR_length]
        unfold L2.start rho0
        simp only [List.length_append, List.length_map, List.length_replicate, List.length_cons, dv.length]
      · obtain ⟨q1, q2⟩ := wipeR_some q
        cases i with
        | zero => exact absurd (by simp) q2
        | succ i =>
          have q3 : (ds.map some ++ List.replicate (N.length - (ds.length + 1)) none)[i]? = some (some d) := by
            have : (some c :: (ds.map some ++ List.replicate (N.length - (ds.length + 1)) none))[i + 1]? = some (some d) := q1
            simpa using this
          by_cases hi : i < ds.length
          · rw [List.getElem?_append_left (by rw [List.length_map]; exact hi), List.getElem?_map] at q3
            obtain ⟨d', e3, e4⟩ := Option.map_eq_some_iff.mp q3
            cases e4
            obtain ⟨v, e5, e6⟩ := dv.get e3
            refine ⟨v, ?_, e6⟩
            show (some (V.ref T) :: (us.map some ++ List.replicate (N.length - (us.length + 1)) none))[i + 1]? = some (some v)
            rw [List.getElem?_cons_succ, List.getElem?_append_left (by rw [List.length_map, dv.length]; exact hi), List.getElem?_map, e5] <;> rfl
          · rw [List.getElem?_append_right (by rw [List.length_map]; omega), List.getElem?_replicate] at q3
            split at q3 <;> cases q3
      · rw [List.mem_singleton.mp hp]
        exact ⟨c, u, rfl, rfl, hT, hu, ow⟩
    have at0 : AtO [(0, T)] B B H H := AtO.refl sm w0
    have fin : ∀ (ρ' : Rho) (B' H' : Hp) (v : V) (rr : PyData), AtO [(0, T)] B B' H H' → Dv B' v rr → RootAt [(0, T)] B' H' ρ' → (ρ'[0]?).join.map (fun c => (rr, c)) = some (r, c') → Q v H' := fun ρ' B' H' v rr a dv' rt e3 => by
      obtain ⟨c1, u1, g1, g2, g3, g4⟩ := rt (0, T) (by simp)
      have g1' : ρ'[0]? = some (some c1) := g1
      rw [g1'] at e3
      cases e3
      exact q v B' H' u1 a dv' g2 g3 g4
    refine ⟨[(0, T)], [], B, H, B, _, o, rfl, rfl, at0, (fun p hp => nomatch hp), w0, e1, fun ρ' eo σ' B' H' sb a w' => ?_, fun rr ρ' eo v B' H' a dv' rt => ?_⟩
    · subst eo
      exact fin ρ' B' H' .non .none a .non (OwS.root (l := []) w') e2
    · subst eo
      exact fin ρ' B' H' v rr a dv' rt e2) hi hg
end
end SK
set_option maxHeartbeats 1000000
/-! Arithmetic, wrappers, two lists taken at once. -/
namespace SK
open PySem PySem.Spec PyProof.Rows L2
def bC (C : Int → Int → Bool) (f : Int → Int → Int) : PyData → PyData → Option PyData
  | .int i, .int j => if C i j = true then some (.int (f i j)) else none
  | _, _ => none
theorem rel_C {C : Int → Int → Prop} {c : Int → Int → Bool} {f : Int → Int → Int} (h : ∀ i j, c i j = true → C i j) : Rel2 (rI C fun i j => .int (f i j)) (bC c f) := by
  intro x y d e z B H Q s hx hy hf k
  cases hx with
  | int i =>
    cases hy with
    | int j =>
      have g : (if c i j = true then some (PyData.int (f i j)) else none) = some z := hf
      by_cases hc : c i j = true
      · rw [if_pos hc] at g
        cases g
        exact ⟨i, j, rfl, rfl, h i j hc, k _ B H (At.refl s) (.int _)⟩
      · rw [if_neg hc] at g; cases g
    | _ => exact nomatch hf
  | _ => cases hy <;> exact nomatch hf
def cMul (i j : Int) : Bool := (decide (-(2 ^ 64) < i) && decide (i < 2 ^ 64)) || (decide (-(2 ^ 64) < j) && decide (j < 2 ^ 64))
def cMod (i j : Int) : Bool := decide (j ≠ 0)
def cDiv (i j : Int) : Bool := decide (j ≠ 0) && decide (j.natAbs < 1073741824)
def cPow (i j : Int) : Bool := decide (0 ≤ j) && (decide (j ≤ 1000000) && decide (i.natAbs < 2 ^ 64))
abbrev bMulG := bC cMul fun i j => i * j
abbrev bModG := bC cMod fun i j => i.fmod j
abbrev bDivG := bC cDiv fun i j => i.fdiv j
abbrev bPowG := bC cPow fun i j => i ^ j.toNat
section
variable {X : Cx} {a b : Expr} {da db : DE} {pos p : Pos} {k : Nat}
theorem e_mulG (ha : GE X a da) (hb : GE X b db) : GE X (.BinOp a .Mult b pos) (dOp bMulG da db) := ge_op op_mul (rel_C fun i j h => by
  unfold cMul at h
  simp only [Bool.or_eq_true, Bool.and_eq_true, decide_eq_true_eq] at h
  exact h) ha hb
theorem e_modG (ha : GE X a da) (hb : GE X b db) : GE X (.BinOp a .Mod b pos) (dOp bModG da db) := ge_op op_modN (rel_C fun i j h => by
  unfold cMod at h
  simpa using h) ha hb
theorem e_divG (ha : GE X a da) (hb : GE X b db) : GE X (.BinOp a .FloorDiv b pos) (dOp bDivG da db) := ge_op op_fdivN (rel_C fun i j h => by
  unfold cDiv at h
  simp only [Bool.and_eq_true, decide_eq_true_eq] at h
  exact h) ha hb
theorem e_powG (ha : GE X a da) (hb : GE X b db) : GE X (.BinOp a .Pow b pos) (dOp bPowG da db) := ge_op op_pow (rel_C fun i j h => by
  unfold cPow at h
  simp only [Bool.and_eq_true, decide_eq_true_eq] at h
  exact ⟨h.1, h.2.1, h.2.2⟩) ha hb
def mAbs : List PyData → Option PyData
  | [.int i] => some (.int (if i < 0 then -i else i))
  | _ => none
theorem rel_abs : RelC (fun xs H Q => ∃ i, xs = [.int i] ∧ Q (.int (if i < 0 then -i else i)) H) mAbs := by
  intro vs ds z B H Q s h hm k
  match ds, h, hm with
  | [.int i], .cons (.int _) .nil, hm => cases hm; exact ⟨i, rfl, k _ B H (At.refl s) (.int _)⟩
theorem b_abs (o : Okx X k) (ha : GE X a da) (hg : Gl X "abs" := by rfl) (he : starEach [a] X.env = (false, eval a X.env) :: starEach [] X.env := by rfl) (hpl : (backTo pos (starEach [] X.env)).any (·.1) = false := by rfl) : GE X (.Call (.Name "abs" p) [a] [] pos) (d1 mAbs da) :=
  ge_blt call_abs rel_abs hg (o.m.free 77) (by decide +kernel) (ga_cons ha ga_nil he) (by decide) (by decide) he hpl
end
section
variable {X : Cx} {s : List Nat} {a b : Expr} {da db : DX} {pos p : Pos} {k : Nat}
abbrev x1 (m : List PyData → Option PyData) (d : DX) : DX := xMap m (xCons d xNil)
theorem xb_tuple (o : Okx X k) (ha : NX X a s da) (hg : Gl X "tuple" := by rfl) (he : starEach [a] X.env = (false, eval a X.env) :: starEach [] X.env := by rfl) (hpl : (backTo pos (starEach [] X.env)).any (·.1) = false := by rfl) : NX X (.Call (.Name "tuple" p) [a] [] pos) s (x1 mTuple da) :=
  x_bty call_tupleN rel_tuple hg (o.m.free 63) (by decide +kernel) (na_cons ha na_nil he) (by decide) (by decide) he hpl
theorem xb_int (o : Okx X k) (ha : NX X a s da) (hg : Gl X "int" := by rfl) (he : starEach [a] X.env = (false, eval a X.env) :: starEach [] X.env := by rfl) (hpl : (backTo pos (starEach [] X.env)).any (·.1) = false := by rfl) : NX X (.Call (.Name "int" p) [a] [] pos) s (x1 mInt da) :=
  x_bty call_int1 rel_int hg (o.m.free 76) (by decide +kernel) (na_cons ha na_nil he) (by decide) (by decide) he hpl
theorem xb_sorted (o : Okx X k) (ha : NX X a s da) (hg : Gl X "sorted" := by rfl) (he : starEach [a] X.env = (false, eval a X.env) :: starEach [] X.env := by rfl) (hpl : (backTo pos (starEach [] X.env)).any (·.1) = false := by rfl) : NX X (.Call (.Name "sorted" p) [a] [] pos) s (x1 mSorted da) :=
  x_blt (cr_sortD (by have := o.hu; omega)) rel_sorted hg (o.m.free 66) (by decide +kernel) (na_cons ha na_nil he) (by decide) (by decide) he hpl
theorem x_plus (ha : NX X a s da) (hb : NX X b s db) : NX X (.BinOp a .Add b pos) s (xOp bPlus da db) := x_op (OpR.or op_add (OpR.or op_catN op_cat)) rel_plus ha hb
theorem x_sub (ha : NX X a s da) (hb : NX X b s db) : NX X (.BinOp a .Sub b pos) s (xOp bSub da db) := x_op op_sub (rel_I0 fun _ _ _ => .int _) ha hb
theorem xc_eq (o : Okx X k) (ha : NX X a s da) (hb : NX X b s db) : NX X (.Compare a [.Eq] [b] pos) s (xOp bEq da db) := x_cmp (op_eqD (by have := o.hu; omega)) rel_eq ha hb (nomark _)
theorem xt_eq (o : Okx X k) (ha : NX X a s da) (hb : NX X b s db) : NT X (.Compare a [.Eq] [b] pos) s (xOp bEq da db) := t_cmp (op_eqD (by have := o.hu; omega)) rel_eq ha hb (nomark _)
theorem xc_gt (ha : NX X a s da) (hb : NX X b s db) : NX X (.Compare a [.Gt] [b] pos) s (xOp bGt da db) := x_cmp op_gt (rel_I0 fun _ _ _ => .bl _) ha hb (nomark _)
theorem xt_gt (ha : NX X a s da) (hb : NX X b s db) : NT X (.Compare a [.Gt] [b] pos) s (xOp bGt da db) := t_cmp op_gt (rel_I0 fun _ _ _ => .bl _) ha hb (nomark _)
/-! ### a, b = list(e), [] -/
variable {root loc : List Nat} {rest : List Stmt}
theorem acq_go {R l : Own} {B0 H0 B1 H1 : Hp} {σ : L2.St} {ρ1 : Rho} {j : Nat} {p : Addr} {vs : List V} {ds : List PyData} (h1 : R.map (·.1) = root) (h2 : l.map (·.1) = loc) (at1 : AtO R B0 B1 H0 H1) (fr : ∀ p ∈ l, H0 p.2 = none) (w1 : OwS (R ++ l) B1 H1 σ ρ1) (hnd : (root ++ j :: loc).Nodup) (hj : j < ρ1.length) (hp : H1 p = none) (dvs : DvA B1 vs ds) :
    AtO R B0 B1 H0 (upd H1 p (.lst vs)) ∧ (∀ q ∈ (j, p) :: l, H0 q.2 = none) ∧ OwS (R ++ (j, p) :: l) B1 (upd H1 p (.lst vs)) (σ.set j (some (.ref p))) (ρ1.set j (some (.list ds))) := by
  have hsl := own_fst h1 h2
  have jn : j ∉ (R ++ l).map (·.1) := by
    rw [hsl]
    exact (List.nodup_cons.mp (nodup_mid.mp hnd)).1
  have hσ : j < σ.length := by rw [w1.en.len, wipeR_length]; exact hj
  have h0p : H0 p = none := by
    cases q : H0 p with
    | none => rfl
    | some u =>
      exfalso
      by_cases n : ∃ q ∈ R, q.2 = p
      · obtain ⟨q, hq, e⟩ := n
        exact (at1.lv q hq).ne (by rw [e]; exact hp)
      · have := at1.oo p u (fun q hq e => n ⟨q, hq, e⟩) q
        rw [hp] at this; cases this
  have w2 := w1.add at1.i jn hσ hp dvs
  have npR : ∀ q ∈ R, q.2 ≠ p := fun q hq e => (at1.lv q hq).ne (by rw [e]; exact hp)
  refine ⟨⟨at1.b, Same.upd at1.i (at1.i.free hp) _, fun a u hn e => by
    have e9 := at1.oo a u hn e
    rw [upd_ne (ne_of_none e9 hp)]; exact e9, fun q hq => by
    obtain ⟨u, q1, q2⟩ := at1.lv q hq
    exact ⟨u, by rw [upd_ne (npR q hq)]; exact q1, q2⟩, at1.ap⟩, fun q hq => ?_, ⟨⟨by rw [w2.en.len, wipeR_length, wipeR_length], fun i d q => ?_⟩, fun q hq => w2.each q ?_, ?_⟩⟩
  · rcases List.mem_cons.mp hq with e | hq
    · rw [e]; exact h0p
    · exact fr q hq
  · obtain ⟨q1, q2⟩ := wipeR_some q
    refine w2.en.at_ i d ?_
    rw [wipeR_out fun m => q2 ?_]; exact q1
    rw [List.map_cons, List.map_append] at m
    rw [List.map_append, List.map_cons]
    rcases List.mem_cons.mp m with m | m
    · rw [m]; exact List.mem_append_right _ List.mem_cons_self
    · rcases List.mem_append.mp m with m | m
      · exact List.mem_append_left _ m
      · exact List.mem_append_right _ (List.mem_cons_of_mem _ m)
  · rcases List.mem_append.mp hq with m | m
    · exact List.mem_cons_of_mem _ (List.mem_append_left _ m)
    · rcases List.mem_cons.mp m with m | m
      · rw [m]; exact List.mem_cons_self
      · exact List.mem_cons_of_mem _ (List.mem_append_right _ m)
  · have := w2.nd
    rw [List.map_cons, List.map_append] at this
    rw [List.map_append, List.map_cons]
    exact nodup_mid.mpr this
def xAcq2 (i j : Nat) (d : DXA) (r : DSX) : DSX := fun ρ => (d ρ).bind fun p => if i < p.2.length ∧ j < p.2.length then r ((p.2.set i (some (.list p.1))).set j (some (.list []))) else none
theorem b_acq2 {i j : Nat} {x y : Str} {q : Pos} {px py pt : Pos} {kt k2 pt2} {des : DXA} {r : DSX} (hc : X.calm = true) (hN : X.N.Nodup) (hi : X.N[i]? = some x) (hj : X.N[j]? = some y) (hij : i ≠ j) (hx : X.env.scope.names.lookup x = some .local) (hy : X.env.scope.names.lookup y = some .local)
    (hf1 : NF X a (root ++ loc) des) (hr : NB X rest root (j :: i :: loc) r) (hs1 : starEach [a, .List [] q] X.env = (false, eval a X.env) :: starEach [.List [] q] X.env) (hs2 : starEach [.List [] q] X.env = (false, eval (.List [] q) X.env) :: starEach [] X.env)
    (hw : swappedStores [.Tuple [.Name x px, .Name y py] kt pt] (.Tuple [a, .List [] q] k2 pt2) X.env = pure (some [x, y])) (hnd : (root ++ i :: loc).Nodup := by decide) (hnd2 : (root ++ j :: i :: loc).Nodup := by decide) (hs : swapsWithSole [.Tuple [.Name x px, .Name y py] kt pt] (.Tuple [a, .List [] q] k2 pt2) pos.line X.env = pure false := by rfl) :
    NB X (.Assign [.Tuple [.Name x px, .Name y py] kt pt] (.Tuple [a, .List [] q] k2 pt2) pos :: rest) root loc (xAcq2 i j des r) :=
  ⟨PSs.imp (pss_cons (ps_par hc hN hi hj hij hx hy (pa_cons hf1.pe (pa_cons (pe_lst pa_nil) pa_nil hs2) hs1) hw hs) hr.pss) fun D σ H ⟨R, l, B0, H0, B, ρ, out, h1, h2, at_, fr, w, e, k, k2⟩ => by
    obtain ⟨⟨ds, ρ1⟩, e1, e2⟩ := Option.bind_eq_some_iff.mp e
    have hsl := own_fst h1 h2
    by_cases hij2 : i < ρ1.length ∧ j < ρ1.length
    · have e3 : r ((ρ1.set i (some (.list ds))).set j (some (.list []))) = some out := by
        have : (if i < ρ1.length ∧ j < ρ1.length then r ((ρ1.set i (some (.list ds))).set j (some (.list []))) else none) = some out := e2
        rwa [if_pos hij2] at this
      refine ⟨R ++ l, B, ρ, ds, ρ1, hsl, at_.i, w, e1, fun vs B1 H1 p a1 w1 hp dvs => ?_⟩
      have at1 := at_.anchor a1 fr
      obtain ⟨at2, fr2, w2⟩ := acq_go h1 h2 at1 fr w1 hnd hij2.1 hp dvs
      refine ⟨Nat.zero_le _, fun p2 hp2 => ?_⟩
      obtain ⟨at3, fr3, w3⟩ := acq_go (vs := []) (ds := []) h1 (by rw [List.map_cons, h2]) at2 fr2 w2 hnd2 (by rw [List.length_set]; exact hij2.2) hp2 .nil
      refine ⟨_, _, rfl, R, (j, p2) :: (i, p) :: l, B0, H0, B1, _, out, h1, by rw [List.map_cons, List.map_cons, h2], at3, fr3, w3, e3, fun ρ' q σ' B' H' sb a' w' => ?_, k2⟩
      obtain ⟨B2, s2, a2, w4⟩ := OwS.drop a' (fr3 _ List.mem_cons_self) w' (by rw [List.map_append, List.map_cons, List.map_cons, h1, h2]; exact hnd2)
      obtain ⟨B3, s3, a3, w5⟩ := OwS.drop a2 (fr2 _ List.mem_cons_self) w4 (by rw [List.map_append, List.map_cons, h1, h2]; exact hnd)
      exact k ρ' q σ' B3 H' (((a1.b.trans sb).trans s2).trans s3) a3 w5
    · have : (if i < ρ1.length ∧ j < ρ1.length then r ((ρ1.set i (some (.list ds))).set j (some (.list []))) else none) = some out := e2
      rw [if_neg hij2] at this; cases this⟩
end
end SK
set_option maxHeartbeats 4000000
namespace SK
open PySem PySem.Spec PyProof.Rows L2
section
variable {P : Program} {w : World} {K : PySem.W.Frag} {mg : Str → Option Value} {base : Heap}
theorem sc_law_take : FnScope ["_law_tin", "_law_below_so", "_law_drawn", "_law_once_so", "_law_wide_so", "_law_twice_so"] ["_law_tin", "_law_below_so"] (defScope (top 50)) := ⟨rfl, rfl, rfl, by decide +kernel, rfl, by decide +kernel, by decide +kernel⟩
noncomputable def s_law_take : DSX := xSeq (xIfS (xAtomT (dOp bGt (dOp bIx (dVar 0) (dC (.int 0))) (dC (.int 0)))) (xSeq (xSet 2 (xAtom (dOp bModG (d1 mInt (dOp bIx (dVar 0) (dC (.int 0)))) (dVar 1)))) (xSeq (xStore 0 (xLift [0] (dC (.int 0))) (xAtom (dOp bDivG (dOp bIx (dVar 0) (dC (.int 0))) (dVar 1)))) (xRet (xLift [0] (dVar 2))))) xNext) (xSeq (xStore 0 (xLift [0] (dC (.int 2))) (xAtom (dOp bPlus (dOp bIx (dVar 0) (dC (.int 2))) (dC (.int 1))))) (xSeq (xSet 3 (xAtom (dOp bModG (d1 mInt (dOp bMulG (dOp bPlus (dOp bIx (dVar 0) (dC (.int 1))) (dOp bMulG (dC (.int 48271)) (dOp bIx (dVar 0) (dC (.int 2))))) (dOp bPlus (dC (.int 39373)) (dOp bIx (dVar 0) (dC (.int 2)))))) (dC (.int 2147483647))))) (xSeq (xsLift [0] (dAsg (dOp bPlus (dOp bModG (d1 mInt (dVar 3)) (dC (.int 40009))) (dC (.int 7))) (bName 4))) (xSeq (xSet 5 (xAtom (dOp bModG (d1 mInt (dOp bMulG (dOp bPlus (dOp bPlus (dVar 3) (dOp bIx (dVar 0) (dC (.int 2)))) (dOp bDivG (dOp bIx (dVar 0) (dC (.int 1))) (dC (.int 1000003)))) (dVar 4))) (dC (.int 2147483629))))) (xRet (xLift [0] (dOp bModG (d1 mInt (dOp bDivG (dOp bModG (d1 mInt (dOp bPlus (dOp bMulG (dVar 5) (dC (.int 48271))) (dVar 3))) (dC (.int 2147483587))) (dC (.int 64)))) (dVar 1))))))))
noncomputable def m_law_take : List PyData → Option (PyData × PyData) := mX 6 2 s_law_take
theorem ok_law_take (M : Md K mg) : CalD P w K mg base 1 "_law_take" ["_law_tin", "_law_below_so"] (spX 2 m_law_take) := by
  refine CalD.tin (k := 0) (N := ["_law_tin", "_law_below_so", "_law_drawn", "_law_once_so", "_law_wide_so", "_law_twice_so"]) M 30 sc_law_take (fun _ _ _ _ _ _ us hl => match us, hl with | [_, _], _ => rfl) fun f cdv A outer s0 H E hr => ?_
  have o : Okx (cxD P w K mg base ["_law_tin", "_law_below_so", "_law_drawn", "_law_once_so", "_law_wide_so", "_law_twice_so"] "_law_take" (defScope (top 50)) f cdv A outer s0 H E) 0 := ⟨M, hr, rfl⟩
  have nd := sc_law_take.nd
  exact b_cons (s_if (t_atom (gt_gt (ge_ix (ge_var 0 (pv 0)) ge_int) ge_int)) (b_cons (s_set (ps_set (i := 2) nd rfl (Or.inl rfl) (x_atom (e_modG (b_int o (ge_ix (ge_var 0 (pv 0)) ge_int)) (ge_var 1 (pv 1)))).pe)) (b_cons (s_store (j := 0) rfl (Or.inl rfl) (x_lift ge_int) (x_atom (e_divG (ge_ix (ge_var 0 (pv 0)) ge_int) (ge_var 1 (pv 1))))) (b_one (s_ret (x_lift (ge_var 2 (pv 2))))))) b_nil) (b_cons (s_store (j := 0) rfl (Or.inl rfl) (x_lift ge_int) (x_atom (ge_plus (ge_ix (ge_var 0 (pv 0)) ge_int) ge_int))) (b_cons (s_set (ps_set (i := 3) nd rfl (Or.inl rfl) (x_atom (e_modG (b_int o (e_mulG (ge_plus (ge_ix (ge_var 0 (pv 0)) ge_int) (e_mulG ge_int (ge_ix (ge_var 0 (pv 0)) ge_int))) (ge_plus ge_int (ge_ix (ge_var 0 (pv 0)) ge_int)))) ge_int)).pe)) (b_cons (s_lift (k_set (ps_set (i := 4) nd rfl (Or.inl rfl) (ge_plus (e_modG (b_int o (ge_var 3 (pv 3))) ge_int) ge_int).pe))) (b_cons (s_set (ps_set (i := 5) nd rfl (Or.inl rfl) (x_atom (e_modG (b_int o (e_mulG (ge_plus (ge_plus (ge_var 3 (pv 3)) (ge_ix (ge_var 0 (pv 0)) ge_int)) (e_divG (ge_ix (ge_var 0 (pv 0)) ge_int) ge_int)) (ge_var 4 (pv 4)))) ge_int)).pe)) (b_one (s_ret (x_lift (e_modG (b_int o (e_divG (e_modG (b_int o (ge_plus (e_mulG (ge_var 5 (pv 5)) ge_int) (ge_var 3 (pv 3)))) ge_int) ge_int)) (ge_var 1 (pv 1))))))))))
theorem sc_law_of : FnScope ["_law_tin", "_law_goods_so"] ["_law_tin", "_law_goods_so"] (defScope (top 52)) := ⟨rfl, rfl, rfl, by decide +kernel, rfl, by decide +kernel, by decide +kernel⟩
noncomputable def s_law_of : DSX := xRet (xOp bIx (xLift [0] (dVar 1)) (xDraw 0 2 m_law_take (xCons (xLift [0] (d1 mLen (dVar 1))) xNil)))
noncomputable def m_law_of : List PyData → Option (PyData × PyData) := mX 2 2 s_law_of
theorem ok_law_of (M : Md K mg) : CalD P w K mg base 2 "_law_of" ["_law_tin", "_law_goods_so"] (spX 2 m_law_of) := by
  refine CalD.tin (k := 1) (N := ["_law_tin", "_law_goods_so"]) M 32 sc_law_of (fun _ _ _ _ _ _ us hl => match us, hl with | [_, _], _ => rfl) fun f cdv A outer s0 H E hr => ?_
  have o : Okx (cxD P w K mg base ["_law_tin", "_law_goods_so"] "_law_of" (defScope (top 52)) f cdv A outer s0 H E) 1 := ⟨M, hr, rfl⟩
  have nd := sc_law_of.nd
  exact b_one (s_ret (x_ix (x_lift (ge_var 1 (pv 1))) (x_draw (t := 0) (ok_law_take M) o.r (by decide) rfl (by first | exact Or.inl rfl | exact Or.inr (Or.inl rfl) | exact Or.inr (Or.inr rfl)) (na_cons (x_lift (b_len o (ge_var 1 (pv 1)))) na_nil))))
theorem sc_law_pick : FnScope ["_law_tin", "_law_goods_so", "_law_count_so", "_law_pool_so", "_law_found", "_law_lap"] ["_law_tin", "_law_goods_so", "_law_count_so"] (defScope (top 53)) := ⟨rfl, rfl, rfl, by decide +kernel, rfl, by decide +kernel, by decide +kernel⟩
noncomputable def s_law_pick : DSX := xAcq2 3 4 (xSeqOf (xLift [0] (dVar 1))) (xSeq (xFor [0, 4, 3] (xiRange (xAtom (d2 mMin (d1 mInt (dVar 2)) (d1 mLen (dVar 3))))) (bName 5) (xApp 4 (xPop 3 (xDraw 0 2 m_law_take (xCons (xAtom (d1 mLen (dVar 3))) xNil))))) (onlyRt (onlyRt (xRet (xLift [0] (dVar 4))))))
noncomputable def m_law_pick : List PyData → Option (PyData × PyData) := mX 6 3 s_law_pick
theorem ok_law_pick (M : Md K mg) : CalD P w K mg base 2 "_law_pick" ["_law_tin", "_law_goods_so", "_law_count_so"] (spX 3 m_law_pick) := by
  refine CalD.tin (k := 1) (N := ["_law_tin", "_law_goods_so", "_law_count_so", "_law_pool_so", "_law_found", "_law_lap"]) M 33 sc_law_pick (fun _ _ _ _ _ _ us hl => match us, hl with | [_, _, _], _ => rfl) fun f cdv A outer s0 H E hr => ?_
  have o : Okx (cxD P w K mg base ["_law_tin", "_law_goods_so", "_law_count_so", "_law_pool_so", "_law_found", "_law_lap"] "_law_pick" (defScope (top 53)) f cdv A outer s0 H E) 1 := ⟨M, hr, rfl⟩
  have nd := sc_law_pick.nd
  exact b_acq2 (i := 3) (j := 4) rfl nd rfl rfl (by decide) rfl rfl (f_list o (x_lift (ge_var 1 (pv 1)))) (b_cons (s_for PassesOwn.never rfl (ni_range o (x_atom (b_min2 o (b_int o (ge_var 2 (pv 2))) (b_len o (ge_var 3 (pv 3)))))) (gg_name (i := 5) (pg_name nd rfl (Or.inl rfl))) (b_one (s_app (j := 4) rfl (Or.inl rfl) (x_pop (j := 3) rfl (Or.inl rfl) (x_draw (t := 0) (ok_law_take M) o.r (by decide) rfl (by first | exact Or.inl rfl | exact Or.inr (Or.inl rfl) | exact Or.inr (Or.inr rfl)) (na_cons (x_atom (b_len o (ge_var 3 (pv 3)))) na_nil)))))) (b_one (s_drop (s_drop (s_ret (x_lift (ge_var 4 (pv 4)))))))) rfl rfl rfl
theorem sc_law_loop : FnScope ["_law_tin", "_law_panel_so", "_law_feelers_so", "_law_rest_so", "_law_pool_so", "_law_k"] ["_law_tin", "_law_panel_so", "_law_feelers_so"] (defScope (top 64)) := ⟨rfl, rfl, rfl, by decide +kernel, rfl, by decide +kernel, by decide +kernel⟩
noncomputable def s_law_loop : DSX := xSeq (xSet 3 (xOp bUp (xLift [0] (dLst (dCons (dTup (dCons (dC (.str "cut")) dNil)) (dCons (dTup (dCons (dC (.str "bell")) (dCons (dC (.int 0)) dNil))) (dCons (dTup (dCons (dC (.str "cut")) dNil)) dNil))))) (xOp bPlus (xLift [0] (dC (.int 1))) (xDraw 0 2 m_law_take (xCons (xLift [0] (dC (.int 3))) xNil))))) (xSeq (xSet 4 (xOp bPlus (xLc [5] [0] (xiLift [0] (iRange (dCons (dVar 2) dNil))) (bName 5) (xMap (fun ds => some (.tuple ds)) (xCons (xLift [0] (dC (.str "feel"))) (xCons (xDraw 0 2 m_law_take (xCons (xLift [0] (dC (.int 4))) xNil)) xNil)))) (xLift [0] (dVar 3)))) (xRet (xMap (fun ds => some (.tuple ds)) (xCons (xLift [0] (dVar 1)) (xCons (x1 mTuple (xDraw 0 3 m_law_pick (xCons (xLift [0] (dVar 4)) (xCons (xLift [0] (d1 mLen (dVar 4))) xNil)))) xNil)))))
noncomputable def m_law_loop : List PyData → Option (PyData × PyData) := mX 6 3 s_law_loop
theorem ok_law_loop (M : Md K mg) : CalD P w K mg base 3 "_law_loop" ["_law_tin", "_law_panel_so", "_law_feelers_so"] (spX 3 m_law_loop) := by
  refine CalD.tin (k := 2) (N := ["_law_tin", "_law_panel_so", "_law_feelers_so", "_law_rest_so", "_law_pool_so", "_law_k"]) M 44 sc_law_loop (fun _ _ _ _ _ _ us hl => match us, hl with | [_, _, _], _ => rfl) fun f cdv A outer s0 H E hr => ?_
  have o : Okx (cxD P w K mg base ["_law_tin", "_law_panel_so", "_law_feelers_so", "_law_rest_so", "_law_pool_so", "_law_k"] "_law_loop" (defScope (top 64)) f cdv A outer s0 H E) 2 := ⟨M, hr, rfl⟩
  have nd := sc_law_loop.nd
  exact b_cons (s_set (ps_set (i := 3) nd rfl (Or.inl rfl) (x_slUp (x_lift (ge_lst (ga_cons (ge_tup (ga_cons ge_str ga_nil)) (ga_cons (ge_tup (ga_cons ge_str (ga_cons ge_int ga_nil))) (ga_cons (ge_tup (ga_cons ge_str ga_nil)) ga_nil))))) (x_plus (x_lift ge_int) (x_draw (t := 0) (ok_law_take M) o.r (by decide) rfl (by first | exact Or.inl rfl | exact Or.inr (Or.inl rfl) | exact Or.inr (Or.inr rfl)) (na_cons (x_lift ge_int) na_nil)))).pe)) (b_cons (s_set (ps_set (i := 4) nd rfl (Or.inl rfl) (x_plus (x_lc (own := [("_law_k", 5)]) rfl nd (ni_lift (i_range o (ge_var 2 (pv 2)))) (blkOk_by (by kernel_rfl)) (fun _ _ _ _ _ => gg_name (i := 5) (pg_name nd rfl (Or.inl rfl))) (fun _ _ _ _ _ => x_tup (na_cons (x_lift ge_str) (na_cons (x_draw (t := 0) (ok_law_take M) o.blk.r (by decide) rfl (by first | exact Or.inl rfl | exact Or.inr (Or.inl rfl) | exact Or.inr (Or.inr rfl)) (na_cons (x_lift ge_int) na_nil)) na_nil)))) (x_lift (ge_var 3 (pv 3)))).pe)) (b_one (s_ret (x_tup (na_cons (x_lift (ge_var 1 (pv 1))) (na_cons (xb_tuple o (x_draw (t := 0) (ok_law_pick M) o.r (by decide) rfl (by first | exact Or.inl rfl | exact Or.inr (Or.inl rfl) | exact Or.inr (Or.inr rfl)) (na_cons (x_lift (ge_var 4 (pv 4))) (na_cons (x_lift (b_len o (ge_var 4 (pv 4)))) na_nil)))) na_nil))))))
theorem sc_law_wires : FnScope ["_law_tin", "_law_panels_so"] ["_law_tin", "_law_panels_so"] (defScope (top 65)) := ⟨rfl, rfl, rfl, by decide +kernel, rfl, by decide +kernel, by decide +kernel⟩
noncomputable def s_law_wires : DSX := xSeq (xIfS (xAnd (xLift [0] (dOp bEq (dVar 1) (dC (.int 1)))) (xOp bEq (xDraw 0 2 m_law_take (xCons (xLift [0] (dC (.int 2))) xNil)) (xLift [0] (dC (.int 0))))) (xRet (xMap (fun ds => some (.tuple ds)) (xCons (xDraw 0 3 m_law_loop (xCons (xLift [0] (dC (.int 0))) (xCons (xOp bPlus (xLift [0] (dC (.int 3))) (xDraw 0 2 m_law_take (xCons (xLift [0] (dC (.int 2))) xNil))) xNil))) xNil))) xNext) (xRet (xMap (fun ds => some (.tuple ds)) (xCons (xDraw 0 3 m_law_loop (xCons (xLift [0] (dC (.int 0))) (xCons (xOp bPlus (xLift [0] (dC (.int 2))) (xDraw 0 2 m_law_take (xCons (xLift [0] (dC (.int 2))) xNil))) xNil))) (xCons (xDraw 0 3 m_law_loop (xCons (xLift [0] (dOp bSub (dVar 1) (dC (.int 1)))) (xCons (xLift [0] (dC (.int 2))) xNil))) xNil))))
noncomputable def m_law_wires : List PyData → Option (PyData × PyData) := mX 2 2 s_law_wires
theorem ok_law_wires (M : Md K mg) : CalD P w K mg base 4 "_law_wires" ["_law_tin", "_law_panels_so"] (spX 2 m_law_wires) := by
  refine CalD.tin (k := 3) (N := ["_law_tin", "_law_panels_so"]) M 45 sc_law_wires (fun _ _ _ _ _ _ us hl => match us, hl with | [_, _], _ => rfl) fun f cdv A outer s0 H E hr => ?_
  have o : Okx (cxD P w K mg base ["_law_tin", "_law_panels_so"] "_law_wires" (defScope (top 65)) f cdv A outer s0 H E) 3 := ⟨M, hr, rfl⟩
  have nd := sc_law_wires.nd
  exact b_cons (s_if (t_w (w_and (t_lift (t_eq o (ge_var 1 (pv 1)) ge_int)) (w_and1 (xt_eq o (x_draw (t := 0) (ok_law_take M) o.r (by decide) rfl (by first | exact Or.inl rfl | exact Or.inr (Or.inl rfl) | exact Or.inr (Or.inr rfl)) (na_cons (x_lift ge_int) na_nil)) (x_lift ge_int))))) (b_one (s_ret (x_tup (na_cons (x_draw (t := 0) (ok_law_loop M) o.r (by decide) rfl (by first | exact Or.inl rfl | exact Or.inr (Or.inl rfl) | exact Or.inr (Or.inr rfl)) (na_cons (x_lift ge_int) (na_cons (x_plus (x_lift ge_int) (x_draw (t := 0) (ok_law_take M) o.r (by decide) rfl (by first | exact Or.inl rfl | exact Or.inr (Or.inl rfl) | exact Or.inr (Or.inr rfl)) (na_cons (x_lift ge_int) na_nil))) na_nil))) na_nil)))) b_nil) (b_one (s_ret (x_tup (na_cons (x_draw (t := 0) (ok_law_loop M) o.r (by decide) rfl (by first | exact Or.inl rfl | exact Or.inr (Or.inl rfl) | exact Or.inr (Or.inr rfl)) (na_cons (x_lift ge_int) (na_cons (x_plus (x_lift ge_int) (x_draw (t := 0) (ok_law_take M) o.r (by decide) rfl (by first | exact Or.inl rfl | exact Or.inr (Or.inl rfl) | exact Or.inr (Or.inr rfl)) (na_cons (x_lift ge_int) na_nil))) na_nil))) (na_cons (x_draw (t := 0) (ok_law_loop M) o.r (by decide) rfl (by first | exact Or.inl rfl | exact Or.inr (Or.inl rfl) | exact Or.inr (Or.inr rfl)) (na_cons (x_lift (ge_sub (ge_var 1 (pv 1)) ge_int)) (na_cons (x_lift ge_int) na_nil))) na_nil)))))
theorem sc_law_zone : FnScope ["_law_tin", "_law_wires_so", "_law_panel_so", "_law_stays", "_law_goods_so", "_law_spots_so", "_law_stay_so", "_law_own"] ["_law_tin", "_law_wires_so", "_law_panel_so", "_law_stays"] (defScope (top 66)) := ⟨rfl, rfl, rfl, by decide +kernel, rfl, by decide +kernel, by decide +kernel⟩
noncomputable def s_law_zone : DSX := xSeq (xsLift [0] (dAsg (dLc [7] (iSeq (dCall 1 m_law_feelers (dCons (dVar 1) dNil))) (bName 7) (dOp bEq (dOp bIx (dOp bIx (dVar 1) (dOp bIx (dVar 7) (dC (.int 0)))) (dC (.int 0))) (dVar 2)) (dVar 7)) (bName 4))) (xSeq (xSet 5 (x1 mTuple (x1 mSorted (xDraw 0 3 m_law_pick (xCons (xLift [0] (dVar 4)) (xCons (xOp bPlus (xLift [0] (dC (.int 2))) (xDraw 0 2 m_law_take (xCons (xLift [0] (dC (.int 2))) xNil))) xNil)))))) (xSeq (xSet 6 (xIf (xOr (xLift [0] (dNot (dVar 3))) (xOp bEq (xDraw 0 2 m_law_take (xCons (xLift [0] (dC (.int 2))) xNil)) (xLift [0] (dC (.int 0))))) (xLift [0] (dC .none)) (xDraw 0 2 m_law_take (xCons (xLift [0] (dC (.int 4))) xNil)))) (xRet (xMap (fun ds => some (.tuple ds)) (xCons (xLift [0] (dVar 5)) (xCons (xOp bPlus (xLift [0] (dC (.int 1))) (xDraw 0 2 m_law_take (xCons (xLift [0] (d2 mMin (dC (.int 2)) (d1 mLen (dVar 5)))) xNil))) (xCons (xLift [0] (dVar 6)) xNil)))))))
noncomputable def m_law_zone : List PyData → Option (PyData × PyData) := mX 8 4 s_law_zone
theorem ok_law_zone (M : Md K mg) : CalD P w K mg base 3 "_law_zone" ["_law_tin", "_law_wires_so", "_law_panel_so", "_law_stays"] (spX 4 m_law_zone) := by
  refine CalD.tin (k := 2) (N := ["_law_tin", "_law_wires_so", "_law_panel_so", "_law_stays", "_law_goods_so", "_law_spots_so", "_law_stay_so", "_law_own"]) M 46 sc_law_zone (fun _ _ _ _ _ _ us hl => match us, hl with | [_, _, _, _], _ => rfl) fun f cdv A outer s0 H E hr => ?_
  have o : Okx (cxD P w K mg base ["_law_tin", "_law_wires_so", "_law_panel_so", "_law_stays", "_law_goods_so", "_law_spots_so", "_law_stay_so", "_law_own"] "_law_zone" (defScope (top 66)) f cdv A outer s0 H E) 2 := ⟨M, hr, rfl⟩
  have nd := sc_law_zone.nd
  exact b_cons (s_lift (k_setLc (i := 4) (own := [("_law_own", 7)]) rfl nd rfl rfl rfl (gi_seq (ge_cal (ok_law_feelers M) o.r (by decide) (ga_cons (ge_var 1 (pv 1)) ga_nil))) (blkOk_by (by kernel_rfl)) (fun _ _ _ _ _ => gg_name (i := 7) (pg_name nd rfl (Or.inl rfl))) (fun _ _ _ _ _ => gts_one (t_eq o.blk (ge_ix (ge_ix (ge_var 1 (pv 1)) (ge_ix (ge_var 7 (pv 7)) ge_int)) ge_int) (ge_var 2 (pv 2)))) (fun _ _ _ _ _ => ge_var 7 (pv 7)))) (b_cons (s_set (ps_set (i := 5) nd rfl (Or.inl rfl) (xb_tuple o (xb_sorted o (x_draw (t := 0) (ok_law_pick M) o.r (by decide) rfl (by first | exact Or.inl rfl | exact Or.inr (Or.inl rfl) | exact Or.inr (Or.inr rfl)) (na_cons (x_lift (ge_var 4 (pv 4))) (na_cons (x_plus (x_lift ge_int) (x_draw (t := 0) (ok_law_take M) o.r (by decide) rfl (by first | exact Or.inl rfl | exact Or.inr (Or.inl rfl) | exact Or.inr (Or.inr rfl)) (na_cons (x_lift ge_int) na_nil))) na_nil))))).pe)) (b_cons (s_set (ps_set (i := 6) nd rfl (Or.inl rfl) (x_ifExp (t_w (w_or (t_lift (gt_not (gt_val (ge_var 3 (pv 3))))) (w_or1 (xt_eq o (x_draw (t := 0) (ok_law_take M) o.r (by decide) rfl (by first | exact Or.inl rfl | exact Or.inr (Or.inl rfl) | exact Or.inr (Or.inr rfl)) (na_cons (x_lift ge_int) na_nil)) (x_lift ge_int))))) (x_lift ge_non) (x_draw (t := 0) (ok_law_take M) o.r (by decide) rfl (by first | exact Or.inl rfl | exact Or.inr (Or.inl rfl) | exact Or.inr (Or.inr rfl)) (na_cons (x_lift ge_int) na_nil))).pe)) (b_one (s_ret (x_tup (na_cons (x_lift (ge_var 5 (pv 5))) (na_cons (x_plus (x_lift ge_int) (x_draw (t := 0) (ok_law_take M) o.r (by decide) rfl (by first | exact Or.inl rfl | exact Or.inr (Or.inl rfl) | exact Or.inr (Or.inr rfl)) (na_cons (x_lift (b_min2 o ge_int (b_len o (ge_var 5 (pv 5))))) na_nil))) (na_cons (x_lift (ge_var 6 (pv 6))) na_nil))))))))
theorem sc_law_line : FnScope ["_law_tin", "_law_panels_so", "_law_zones_so", "_law_bars", "_law_own", "_law_bar_so"] ["_law_tin", "_law_panels_so", "_law_zones_so", "_law_bars"] (defScope (top 67)) := ⟨rfl, rfl, rfl, by decide +kernel, rfl, by decide +kernel, by decide +kernel⟩
noncomputable def s_law_line : DSX := xSeq (xSet 4 (x1 mTuple (x1 mSorted (xDraw 0 3 m_law_pick (xCons (xLift [0] (dRgL (dVar 2))) (xCons (xOp bPlus (xLift [0] (dC (.int 1))) (xDraw 0 2 m_law_take (xCons (xLift [0] (dC (.int 2))) xNil))) xNil)))))) (xSeq (xsLift [0] (dAsg (dTup dNil) (bName 5))) (xSeq (xIfS (xAnd (xLift [0] (dVar 3)) (xOp bEq (xDraw 0 2 m_law_take (xCons (xLift [0] (dC (.int 2))) xNil)) (xLift [0] (dC (.int 0))))) (xSet 5 (xMap (fun ds => some (.tuple ds)) (xCons (xDraw 0 2 m_law_take (xCons (xLift [0] (dVar 2)) xNil)) xNil))) xNext) (xRet (xMap (fun ds => some (.tuple ds)) (xCons (xDraw 0 2 m_law_take (xCons (xLift [0] (dVar 1)) xNil)) (xCons (xDraw 0 2 m_law_of (xCons (xLift [0] (dLst (dCons (dC (.str "any")) (dCons (dC (.str "all")) dNil)))) xNil)) (xCons (xLift [0] (dVar 4)) (xCons (xDraw 0 2 m_law_of (xCons (xLift [0] (dLst (dCons (dC (.int 0)) (dCons (dC (.int 1)) (dCons (dC (.int 2)) (dCons (dC (.int 3)) (dCons (dC (.int 4)) dNil))))))) xNil)) (xCons (xLift [0] (dVar 5)) (xCons (xDraw 0 2 m_law_take (xCons (xLift [0] (dC (.int 2))) xNil)) (xCons (xDraw 0 2 m_law_of (xCons (xLift [0] (dLst (dCons (dC (.int 0)) (dCons (dC (.int 2)) (dCons (dC (.int 3)) dNil))))) xNil)) (xCons (xDraw 0 2 m_law_take (xCons (xLift [0] (dC (.int 2))) xNil)) xNil))))))))))))
noncomputable def m_law_line : List PyData → Option (PyData × PyData) := mX 6 4 s_law_line
theorem ok_law_line (M : Md K mg) : CalD P w K mg base 3 "_law_line" ["_law_tin", "_law_panels_so", "_law_zones_so", "_law_bars"] (spX 4 m_law_line) := by
  refine CalD.tin (k := 2) (N := ["_law_tin", "_law_panels_so", "_law_zones_so", "_law_bars", "_law_own", "_law_bar_so"]) M 47 sc_law_line (fun _ _ _ _ _ _ us hl => match us, hl with | [_, _, _, _], _ => rfl) fun f cdv A outer s0 H E hr => ?_
  have o : Okx (cxD P w K mg base ["_law_tin", "_law_panels_so", "_law_zones_so", "_law_bars", "_law_own", "_law_bar_so"] "_law_line" (defScope (top 67)) f cdv A outer s0 H E) 2 := ⟨M, hr, rfl⟩
  have nd := sc_law_line.nd
  exact b_cons (s_set (ps_set (i := 4) nd rfl (Or.inl rfl) (xb_tuple o (xb_sorted o (x_draw (t := 0) (ok_law_pick M) o.r (by decide) rfl (by first | exact Or.inl rfl | exact Or.inr (Or.inl rfl) | exact Or.inr (Or.inr rfl)) (na_cons (x_lift (b_rgL o (ge_var 2 (pv 2)))) (na_cons (x_plus (x_lift ge_int) (x_draw (t := 0) (ok_law_take M) o.r (by decide) rfl (by first | exact Or.inl rfl | exact Or.inr (Or.inl rfl) | exact Or.inr (Or.inr rfl)) (na_cons (x_lift ge_int) na_nil))) na_nil))))).pe)) (b_cons (s_lift (k_set (ps_set (i := 5) nd rfl (Or.inl rfl) (ge_tup ga_nil).pe))) (b_cons (s_if (t_w (w_and (t_lift (gt_val (ge_var 3 (pv 3)))) (w_and1 (xt_eq o (x_draw (t := 0) (ok_law_take M) o.r (by decide) rfl (by first | exact Or.inl rfl | exact Or.inr (Or.inl rfl) | exact Or.inr (Or.inr rfl)) (na_cons (x_lift ge_int) na_nil)) (x_lift ge_int))))) (b_one (s_set (ps_set (i := 5) nd rfl (Or.inl rfl) (x_tup (na_cons (x_draw (t := 0) (ok_law_take M) o.r (by decide) rfl (by first | exact Or.inl rfl | exact Or.inr (Or.inl rfl) | exact Or.inr (Or.inr rfl)) (na_cons (x_lift (ge_var 2 (pv 2))) na_nil)) na_nil)).pe))) b_nil) (b_one (s_ret (x_tup (na_cons (x_draw (t := 0) (ok_law_take M) o.r (by decide) rfl (by first | exact Or.inl rfl | exact Or.inr (Or.inl rfl) | exact Or.inr (Or.inr rfl)) (na_cons (x_lift (ge_var 1 (pv 1))) na_nil)) (na_cons (x_draw (t := 0) (ok_law_of M) o.r (by decide) rfl (by first | exact Or.inl rfl | exact Or.inr (Or.inl rfl) | exact Or.inr (Or.inr rfl)) (na_cons (x_lift (ge_lst (ga_cons ge_str (ga_cons ge_str ga_nil)))) na_nil)) (na_cons (x_lift (ge_var 4 (pv 4))) (na_cons (x_draw (t := 0) (ok_law_of M) o.r (by decide) rfl (by first | exact Or.inl rfl | exact Or.inr (Or.inl rfl) | exact Or.inr (Or.inr rfl)) (na_cons (x_lift (ge_lst (ga_cons ge_int (ga_cons ge_int (ga_cons ge_int (ga_cons ge_int (ga_cons ge_int ga_nil))))))) na_nil)) (na_cons (x_lift (ge_var 5 (pv 5))) (na_cons (x_draw (t := 0) (ok_law_take M) o.r (by decide) rfl (by first | exact Or.inl rfl | exact Or.inr (Or.inl rfl) | exact Or.inr (Or.inr rfl)) (na_cons (x_lift ge_int) na_nil)) (na_cons (x_draw (t := 0) (ok_law_of M) o.r (by decide) rfl (by first | exact Or.inl rfl | exact Or.inr (Or.inl rfl) | exact Or.inr (Or.inr rfl)) (na_cons (x_lift (ge_lst (ga_cons ge_int (ga_cons ge_int (ga_cons ge_int ga_nil))))) na_nil)) (na_cons (x_draw (t := 0) (ok_law_take M) o.r (by decide) rfl (by first | exact Or.inl rfl | exact Or.inr (Or.inl rfl) | exact Or.inr (Or.inr rfl)) (na_cons (x_lift ge_int) na_nil)) na_nil)))))))))))))
theorem sc_law_abode : FnScope ["_law_tin", "_law_panels_so", "_law_stays", "_law_bars", "_law_wires_so", "_law_many_so", "_law_zones_so", "_law_lines_so", "_law_k"] ["_law_tin", "_law_panels_so", "_law_stays", "_law_bars"] (defScope (top 68)) := ⟨rfl, rfl, rfl, by decide +kernel, rfl, by decide +kernel, by decide +kernel⟩
noncomputable def s_law_abode : DSX := xSeq (xSet 4 (xDraw 0 2 m_law_wires (xCons (xLift [0] (dVar 1)) xNil))) (xSeq (xSet 5 (xOp bPlus (xLift [0] (dC (.int 2))) (x1 mInt (xOp bEq (xDraw 0 2 m_law_take (xCons (xLift [0] (dC (.int 4))) xNil)) (xLift [0] (dC (.int 0))))))) (xSeq (xSet 6 (x1 mTuple (xLc [8] [0] (xiLift [0] (iRange (dCons (dVar 5) dNil))) (bName 8) (xDraw 0 4 m_law_zone (xCons (xLift [0] (dVar 4)) (xCons (xLift [0] (dOp bModG (d1 mInt (dVar 8)) (dVar 1))) (xCons (xLift [0] (dVar 2)) xNil))))))) (xSeq (xSet 7 (x1 mTuple (xLc [8] [0] (xiRange (xOp bPlus (xLift [0] (dC (.int 2))) (xDraw 0 2 m_law_take (xCons (xLift [0] (dC (.int 2))) xNil)))) (bName 8) (xDraw 0 4 m_law_line (xCons (xLift [0] (dVar 1)) (xCons (xLift [0] (dVar 5)) (xCons (xLift [0] (dVar 3)) xNil))))))) (xRet (xLift [0] (dTup (dCons (dVar 4) (dCons (dVar 6) (dCons (dVar 7) (dCons (dTup (dCons (dC (.str "bell")) (dCons (dC (.str "door")) dNil))) (dCons (dVar 1) dNil)))))))))))
noncomputable def m_law_abode : List PyData → Option (PyData × PyData) := mX 9 4 s_law_abode
theorem ok_law_abode (M : Md K mg) : CalD P w K mg base 5 "_law_abode" ["_law_tin", "_law_panels_so", "_law_stays", "_law_bars"] (spX 4 m_law_abode) := by
  refine CalD.tin (k := 4) (N := ["_law_tin", "_law_panels_so", "_law_stays", "_law_bars", "_law_wires_so", "_law_many_so", "_law_zones_so", "_law_lines_so", "_law_k"]) M 48 sc_law_abode (fun _ _ _ _ _ _ us hl => match us, hl with | [_, _, _, _], _ => rfl) fun f cdv A outer s0 H E hr => ?_
  have o : Okx (cxD P w K mg base ["_law_tin", "_law_panels_so", "_law_stays", "_law_bars", "_law_wires_so", "_law_many_so", "_law_zones_so", "_law_lines_so", "_law_k"] "_law_abode" (defScope (top 68)) f cdv A outer s0 H E) 4 := ⟨M, hr, rfl⟩
  have nd := sc_law_abode.nd
  exact b_cons (s_set (ps_set (i := 4) nd rfl (Or.inr rfl) (x_draw (t := 0) (ok_law_wires M) o.r (by decide) rfl (by first | exact Or.inl rfl | exact Or.inr (Or.inl rfl) | exact Or.inr (Or.inr rfl)) (na_cons (x_lift (ge_var 1 (pv 1))) na_nil)).pe)) (b_cons (s_set (ps_set (i := 5) nd rfl (Or.inr rfl) (x_plus (x_lift ge_int) (xb_int o (xc_eq o (x_draw (t := 0) (ok_law_take M) o.r (by decide) rfl (by first | exact Or.inl rfl | exact Or.inr (Or.inl rfl) | exact Or.inr (Or.inr rfl)) (na_cons (x_lift ge_int) na_nil)) (x_lift ge_int)))).pe)) (b_cons (s_set (ps_set (i := 6) nd rfl (Or.inl rfl) (xb_tuple o (x_lc (own := [("_law_k", 8)]) rfl nd (ni_lift (i_range o (ge_var 5 (pv 5)))) (blkOk_by (by kernel_rfl)) (fun _ _ _ _ _ => gg_name (i := 8) (pg_name nd rfl (Or.inl rfl))) (fun _ _ _ _ _ => x_draw (t := 0) (ok_law_zone M) o.blk.r (by decide) rfl (by first | exact Or.inl rfl | exact Or.inr (Or.inl rfl) | exact Or.inr (Or.inr rfl)) (na_cons (x_lift (ge_var 4 (pv 4))) (na_cons (x_lift (e_modG (b_int o.blk (ge_var 8 (pv 8))) (ge_var 1 (pv 1)))) (na_cons (x_lift (ge_var 2 (pv 2))) na_nil)))))).pe)) (b_cons (s_set (ps_set (i := 7) nd rfl (Or.inl rfl) (xb_tuple o (x_lc (own := [("_law_k", 8)]) rfl nd (ni_range o (x_plus (x_lift ge_int) (x_draw (t := 0) (ok_law_take M) o.r (by decide) rfl (by first | exact Or.inl rfl | exact Or.inr (Or.inl rfl) | exact Or.inr (Or.inr rfl)) (na_cons (x_lift ge_int) na_nil)))) (blkOk_by (by kernel_rfl)) (fun _ _ _ _ _ => gg_name (i := 8) (pg_name nd rfl (Or.inl rfl))) (fun _ _ _ _ _ => x_draw (t := 0) (ok_law_line M) o.blk.r (by decide) rfl (by first | exact Or.inl rfl | exact Or.inr (Or.inl rfl) | exact Or.inr (Or.inr rfl)) (na_cons (x_lift (ge_var 1 (pv 1))) (na_cons (x_lift (ge_var 5 (pv 5))) (na_cons (x_lift (ge_var 3 (pv 3))) na_nil)))))).pe)) (b_one (s_ret (x_lift (ge_tup (ga_cons (ge_var 4 (pv 4)) (ga_cons (ge_var 6 (pv 6)) (ga_cons (ge_var 7 (pv 7)) (ga_cons (ge_tup (ga_cons ge_str (ga_cons ge_str ga_nil))) (ga_cons (ge_var 1 (pv 1)) ga_nil))))))))))))
theorem sc_law_begun : FnScope ["_law_tin", "_law_wires_so", "_law_last_so", "_law_goods_so", "_law_own", "_law_spot_so"] ["_law_tin", "_law_wires_so", "_law_last_so"] (defScope (top 69)) := ⟨rfl, rfl, rfl, by decide +kernel, rfl, by decide +kernel, by decide +kernel⟩
noncomputable def s_law_begun : DSX := xSeq (xsLift [0] (dAsg (dCall 1 m_law_feelers (dCons (dVar 1) dNil)) (bName 3))) (xSeq (xSet 4 (xDraw 0 3 m_law_pick (xCons (xLift [0] (dVar 3)) (xCons (xOp bSub (xLift [0] (d1 mLen (dVar 3))) (xDraw 0 2 m_law_take (xCons (xLift [0] (dC (.int 2))) xNil))) xNil)))) (xRet (x1 mTuple (x1 mSorted (xLc [5] [0] (xiLift [0] (iSeq (dVar 4))) (bName 5) (xMap (fun ds => some (.tuple ds)) (xCons (xLift [0] (dVar 5)) (xCons (xDraw 0 2 m_law_take (xCons (xLift [0] (dOp bPlus (dVar 2) (dC (.int 1)))) xNil)) xNil))))))))
noncomputable def m_law_begun : List PyData → Option (PyData × PyData) := mX 6 3 s_law_begun
theorem ok_law_begun (M : Md K mg) : CalD P w K mg base 3 "_law_begun" ["_law_tin", "_law_wires_so", "_law_last_so"] (spX 3 m_law_begun) := by
  refine CalD.tin (k := 2) (N := ["_law_tin", "_law_wires_so", "_law_last_so", "_law_goods_so", "_law_own", "_law_spot_so"]) M 49 sc_law_begun (fun _ _ _ _ _ _ us hl => match us, hl with | [_, _, _], _ => rfl) fun f cdv A outer s0 H E hr => ?_
  have o : Okx (cxD P w K mg base ["_law_tin", "_law_wires_so", "_law_last_so", "_law_goods_so", "_law_own", "_law_spot_so"] "_law_begun" (defScope (top 69)) f cdv A outer s0 H E) 2 := ⟨M, hr, rfl⟩
  have nd := sc_law_begun.nd
  exact b_cons (s_lift (k_set (ps_set (i := 3) nd rfl (Or.inl rfl) (ge_cal (ok_law_feelers M) o.r (by decide) (ga_cons (ge_var 1 (pv 1)) ga_nil)).pe))) (b_cons (s_set (ps_set (i := 4) nd rfl (Or.inl rfl) (x_draw (t := 0) (ok_law_pick M) o.r (by decide) rfl (by first | exact Or.inl rfl | exact Or.inr (Or.inl rfl) | exact Or.inr (Or.inr rfl)) (na_cons (x_lift (ge_var 3 (pv 3))) (na_cons (x_sub (x_lift (b_len o (ge_var 3 (pv 3)))) (x_draw (t := 0) (ok_law_take M) o.r (by decide) rfl (by first | exact Or.inl rfl | exact Or.inr (Or.inl rfl) | exact Or.inr (Or.inr rfl)) (na_cons (x_lift ge_int) na_nil))) na_nil))).pe)) (b_one (s_ret (xb_tuple o (xb_sorted o (x_lc (own := [("_law_spot_so", 5)]) rfl nd (ni_lift (gi_seq (ge_var 4 (pv 4)))) (blkOk_by (by kernel_rfl)) (fun _ _ _ _ _ => gg_name (i := 5) (pg_name nd rfl (Or.inl rfl))) (fun _ _ _ _ _ => x_tup (na_cons (x_lift (ge_var 5 (pv 5))) (na_cons (x_draw (t := 0) (ok_law_take M) o.blk.r (by decide) rfl (by first | exact Or.inl rfl | exact Or.inr (Or.inl rfl) | exact Or.inr (Or.inr rfl)) (na_cons (x_lift (ge_plus (ge_var 2 (pv 2)) ge_int)) na_nil)) na_nil)))))))))
end
end SK
set_option maxHeartbeats 4000000
namespace SK
open PySem PySem.Spec PyProof.Rows L2
section
variable {P : Program} {w : World} {K : PySem.W.Frag} {mg : Str → Option Value} {base : Heap}
theorem sc_law_rise : FnScope ["_law_tin", "_law_panels_so", "_law_abode_so", "_law_goods_so", "_law_first_so", "_law_second_so", "_law_zones_so", "_law_lines_so", "_law_lap", "_law_own"] ["_law_tin", "_law_panels_so"] (defScope (top 77)) := ⟨rfl, rfl, rfl, by decide +kernel, rfl, by decide +kernel, by decide +kernel⟩
noncomputable def s_law_rise : DSX := xSeq (xSet 2 (xDraw 0 4 m_law_abode (xCons (xLift [0] (dVar 1)) (xCons (xLift [0] (dC (.bool false))) (xCons (xLift [0] (dC (.bool false))) xNil))))) (xSeq (xIfS (xOp bEq (xDraw 0 2 m_law_take (xCons (xLift [0] (dC (.int 4))) xNil)) (xLift [0] (dC (.int 0)))) (xRet (xLift [0] (dVar 2))) xNext) (xSeq (xsLift [0] (dAsg (dLc [9] (iSeq (dCall 1 m_law_feelers (dCons (dOp bIx (dVar 2) (dC (.int 0))) dNil))) (bName 9) (dOp bEq (dOp bIx (dOp bIx (dOp bIx (dVar 2) (dC (.int 0))) (dOp bIx (dVar 9) (dC (.int 0)))) (dC (.int 0))) (dC (.int 0))) (dVar 9)) (bName 3))) (xSeq (xSet 4 (x1 mTuple (x1 mSorted (xDraw 0 3 m_law_pick (xCons (xLift [0] (dVar 3)) (xCons (xOp bPlus (xLift [0] (dC (.int 2))) (xDraw 0 2 m_law_take (xCons (xLift [0] (dC (.int 2))) xNil))) xNil)))))) (xSeq (xSet 5 (x1 mTuple (x1 mSorted (xDraw 0 3 m_law_pick (xCons (xLift [0] (dVar 4)) (xCons (xOp bPlus (xLift [0] (dC (.int 1))) (xDraw 0 2 m_law_take (xCons (xLift [0] (dC (.int 2))) xNil))) xNil)))))) (xSeq (xsLift [0] (dAsg (dOp bPlus (dTup (dCons (dTup (dCons (dVar 4) (dCons (dC (.int 2)) (dCons (dC .none) dNil)))) (dCons (dTup (dCons (dVar 5) (dCons (dC (.int 1)) (dCons (dC .none) dNil)))) dNil))) (dSl (dOp bIx (dVar 2) (dC (.int 1))) (oSome (dC (.int 1))) (oSome (dC (.int 2))))) (bName 6))) (xAcq 7 (xCons (xMap (fun ds => some (.tuple ds)) (xCons (xLift [0] (dC (.int 0))) (xCons (xLift [0] (dC (.str "any"))) (xCons (xLift [0] (dTup (dCons (dC (.int 0)) dNil))) (xCons (xDraw 0 2 m_law_take (xCons (xLift [0] (dC (.int 2))) xNil)) (xCons (xLift [0] (dTup dNil)) (xCons (xLift [0] (dC (.int 0))) (xCons (xLift [0] (dC (.int 0))) (xCons (xLift [0] (dC (.int 0))) xNil))))))))) xNil) (xSeq (xApp 7 (xMap (fun ds => some (.tuple ds)) (xCons (xDraw 0 2 m_law_take (xCons (xLift [0, 7] (dVar 1)) xNil)) (xCons (xLift [0, 7] (dC (.str "any"))) (xCons (xLift [0, 7] (dTup (dCons (dC (.int 1)) dNil))) (xCons (xOp bPlus (xLift [0, 7] (dC (.int 1))) (xDraw 0 2 m_law_take (xCons (xLift [0, 7] (dC (.int 4))) xNil))) (xCons (xLift [0, 7] (dTup dNil)) (xCons (xLift [0, 7] (dC (.int 0))) (xCons (xLift [0, 7] (dC (.int 0))) (xCons (xLift [0, 7] (dC (.int 0))) xNil)))))))))) (xSeq (xFor [0, 7] (xiRange (xOp bPlus (xLift [0, 7] (dC (.int 1))) (xDraw 0 2 m_law_take (xCons (xLift [0, 7] (dC (.int 2))) xNil)))) (bName 8) (xApp 7 (xCall 3 m_law_put_at (xCons (xDraw 0 4 m_law_line (xCons (xLift [0, 7] (dVar 1)) (xCons (xLift [0, 7] (dC (.int 3))) (xCons (xLift [0, 7] (dC (.bool false))) xNil)))) (xCons (xLift [0, 7] (dC (.int 5))) (xCons (x1 mInt (xOp bGt (xDraw 0 2 m_law_take (xCons (xLift [0, 7] (dC (.int 4))) xNil)) (xLift [0, 7] (dC (.int 0))))) xNil)))))) (onlyRt (xRet (xLift [0] (dTup (dCons (dOp bIx (dVar 2) (dC (.int 0))) (dCons (dVar 6) (dCons (d1 mTuple (dSl (dVar 7) oNone (oSome (dC (.int 3))))) (dCons (dTup (dCons (dC (.str "bell")) (dCons (dC (.str "door")) dNil))) (dCons (dVar 1) dNil)))))))))))))))))
noncomputable def m_law_rise : List PyData → Option (PyData × PyData) := mX 10 2 s_law_rise
theorem ok_law_rise (M : Md K mg) : CalD P w K mg base 6 "_law_rise" ["_law_tin", "_law_panels_so"] (spX 2 m_law_rise) := by
  refine CalD.tin (k := 5) (N := ["_law_tin", "_law_panels_so", "_law_abode_so", "_law_goods_so", "_law_first_so", "_law_second_so", "_law_zones_so", "_law_lines_so", "_law_lap", "_law_own"]) M 57 sc_law_rise (fun _ _ _ _ _ _ us hl => match us, hl with | [_, _], _ => rfl) fun f cdv A outer s0 H E hr => ?_
  have o : Okx (cxD P w K mg base ["_law_tin", "_law_panels_so", "_law_abode_so", "_law_goods_so", "_law_first_so", "_law_second_so", "_law_zones_so", "_law_lines_so", "_law_lap", "_law_own"] "_law_rise" (defScope (top 77)) f cdv A outer s0 H E) 5 := ⟨M, hr, rfl⟩
  have nd := sc_law_rise.nd
  exact b_cons (s_set (ps_set (i := 2) nd rfl (Or.inr rfl) (x_draw (t := 0) (ok_law_abode M) o.r (by decide) rfl (by first | exact Or.inl rfl | exact Or.inr (Or.inl rfl) | exact Or.inr (Or.inr rfl)) (na_cons (x_lift (ge_var 1 (pv 1))) (na_cons (x_lift ge_bl) (na_cons (x_lift ge_bl) na_nil)))).pe)) (b_cons (s_if (xt_eq o (x_draw (t := 0) (ok_law_take M) o.r (by decide) rfl (by first | exact Or.inl rfl | exact Or.inr (Or.inl rfl) | exact Or.inr (Or.inr rfl)) (na_cons (x_lift ge_int) na_nil)) (x_lift ge_int)) (b_one (s_ret (x_lift (ge_var 2 (pv 2))))) b_nil) (b_cons (s_lift (k_setLc (i := 3) (own := [("_law_own", 9)]) rfl nd rfl rfl rfl (gi_seq (ge_cal (ok_law_feelers M) o.r (by decide) (ga_cons (ge_ix (ge_var 2 (pv 2)) ge_int) ga_nil))) (blkOk_by (by kernel_rfl)) (fun _ _ _ _ _ => gg_name (i := 9) (pg_name nd rfl (Or.inl rfl))) (fun _ _ _ _ _ => gts_one (t_eq o.blk (ge_ix (ge_ix (ge_ix (ge_var 2 (pv 2)) ge_int) (ge_ix (ge_var 9 (pv 9)) ge_int)) ge_int) ge_int)) (fun _ _ _ _ _ => ge_var 9 (pv 9)))) (b_cons (s_set (ps_set (i := 4) nd rfl (Or.inl rfl) (xb_tuple o (xb_sorted o (x_draw (t := 0) (ok_law_pick M) o.r (by decide) rfl (by first | exact Or.inl rfl | exact Or.inr (Or.inl rfl) | exact Or.inr (Or.inr rfl)) (na_cons (x_lift (ge_var 3 (pv 3))) (na_cons (x_plus (x_lift ge_int) (x_draw (t := 0) (ok_law_take M) o.r (by decide) rfl (by first | exact Or.inl rfl | exact Or.inr (Or.inl rfl) | exact Or.inr (Or.inr rfl)) (na_cons (x_lift ge_int) na_nil))) na_nil))))).pe)) (b_cons (s_set (ps_set (i := 5) nd rfl (Or.inl rfl) (xb_tuple o (xb_sorted o (x_draw (t := 0) (ok_law_pick M) o.r (by decide) rfl (by first | exact Or.inl rfl | exact Or.inr (Or.inl rfl) | exact Or.inr (Or.inr rfl)) (na_cons (x_lift (ge_var 4 (pv 4))) (na_cons (x_plus (x_lift ge_int) (x_draw (t := 0) (ok_law_take M) o.r (by decide) rfl (by first | exact Or.inl rfl | exact Or.inr (Or.inl rfl) | exact Or.inr (Or.inr rfl)) (na_cons (x_lift ge_int) na_nil))) na_nil))))).pe)) (b_cons (s_lift (k_set (ps_set (i := 6) nd rfl (Or.inl rfl) (ge_plus (ge_tup (ga_cons (ge_tup (ga_cons (ge_var 4 (pv 4)) (ga_cons ge_int (ga_cons ge_non ga_nil)))) (ga_cons (ge_tup (ga_cons (ge_var 5 (pv 5)) (ga_cons ge_int (ga_cons ge_non ga_nil)))) ga_nil))) (ge_sl (ge_ix (ge_var 2 (pv 2)) ge_int) (go_some ge_int) (go_some ge_int))).pe))) (b_acq (j := 7) nd rfl (Or.inl rfl) (f_lst (na_cons (x_tup (na_cons (x_lift ge_int) (na_cons (x_lift ge_str) (na_cons (x_lift (ge_tup (ga_cons ge_int ga_nil))) (na_cons (x_draw (t := 0) (ok_law_take M) o.r (by decide) rfl (by first | exact Or.inl rfl | exact Or.inr (Or.inl rfl) | exact Or.inr (Or.inr rfl)) (na_cons (x_lift ge_int) na_nil)) (na_cons (x_lift (ge_tup ga_nil)) (na_cons (x_lift ge_int) (na_cons (x_lift ge_int) (na_cons (x_lift ge_int) na_nil))))))))) na_nil)) (b_cons (s_app (j := 7) rfl (Or.inl rfl) (x_tup (na_cons (x_draw (t := 0) (ok_law_take M) o.r (by decide) rfl (by first | exact Or.inl rfl | exact Or.inr (Or.inl rfl) | exact Or.inr (Or.inr rfl)) (na_cons (x_lift (ge_var 1 (pv 1))) na_nil)) (na_cons (x_lift ge_str) (na_cons (x_lift (ge_tup (ga_cons ge_int ga_nil))) (na_cons (x_plus (x_lift ge_int) (x_draw (t := 0) (ok_law_take M) o.r (by decide) rfl (by first | exact Or.inl rfl | exact Or.inr (Or.inl rfl) | exact Or.inr (Or.inr rfl)) (na_cons (x_lift ge_int) na_nil))) (na_cons (x_lift (ge_tup ga_nil)) (na_cons (x_lift ge_int) (na_cons (x_lift ge_int) (na_cons (x_lift ge_int) na_nil)))))))))) (b_cons (s_for PassesOwn.never rfl (ni_range o (x_plus (x_lift ge_int) (x_draw (t := 0) (ok_law_take M) o.r (by decide) rfl (by first | exact Or.inl rfl | exact Or.inr (Or.inl rfl) | exact Or.inr (Or.inr rfl)) (na_cons (x_lift ge_int) na_nil)))) (gg_name (i := 8) (pg_name nd rfl (Or.inl rfl))) (b_one (s_app (j := 7) rfl (Or.inl rfl) (x_cal (ok_law_put_at M) o.r (by decide) (na_cons (x_draw (t := 0) (ok_law_line M) o.r (by decide) rfl (by first | exact Or.inl rfl | exact Or.inr (Or.inl rfl) | exact Or.inr (Or.inr rfl)) (na_cons (x_lift (ge_var 1 (pv 1))) (na_cons (x_lift ge_int) (na_cons (x_lift ge_bl) na_nil)))) (na_cons (x_lift ge_int) (na_cons (xb_int o (xc_gt (x_draw (t := 0) (ok_law_take M) o.r (by decide) rfl (by first | exact Or.inl rfl | exact Or.inr (Or.inl rfl) | exact Or.inr (Or.inr rfl)) (na_cons (x_lift ge_int) na_nil)) (x_lift ge_int))) na_nil))))))) (b_one (s_drop (s_ret (x_lift (ge_tup (ga_cons (ge_ix (ge_var 2 (pv 2)) ge_int) (ga_cons (ge_var 6 (pv 6)) (ga_cons (b_tuple o (ge_sl (ge_var 7 (pv 7)) go_none (go_some ge_int))) (ga_cons (ge_tup (ga_cons ge_str (ga_cons ge_str ga_nil))) (ga_cons (ge_var 1 (pv 1)) ga_nil))))))))))))))))))
theorem sc_law_right : FnScope ["_law_tin", "_law_abode_so", "_law_lap", "_law_n", "_law_z", "_law_most_so", "_law_k", "_law_so", "_law_got", "_law_again_so", "_law_begun_so", "_law_one_so", "_law_two_so"] ["_law_tin"] (defScope (top 81)) := ⟨rfl, rfl, rfl, by decide +kernel, rfl, by decide +kernel, by decide +kernel⟩
noncomputable def s_law_right : DSX := xSeq (xSet 1 (xDraw 0 2 m_law_rise (xCons (xOp bPlus (xLift [0] (dC (.int 1))) (xDraw 0 2 m_law_take (xCons (xLift [0] (dC (.int 2))) xNil))) xNil))) (xSeq (xFor [0] (xiLift [0] (iRange (dCons (dC (.int 4)) dNil))) (bName 2) (xSeq (xPar3 3 4 5 (xCons (xDraw 0 2 m_law_take (xCons (xLift [0] (d1 mLen (dOp bIx (dVar 1) (dC (.int 2))))) xNil)) (xCons (xDraw 0 2 m_law_take (xCons (xLift [0] (d1 mLen (dOp bIx (dVar 1) (dC (.int 1))))) xNil)) (xCons (xDraw 0 2 m_law_take (xCons (xLift [0] (dC (.int 5))) xNil)) xNil)))) (xSeq (xsLift [0] (dAsg (dOp bIx (dOp bIx (dOp bIx (dVar 1) (dC (.int 2))) (dVar 3)) (dC (.int 5))) (bName 6))) (xSeq (xIfS (xOp bGt (xDraw 0 2 m_law_take (xCons (xLift [0] (dC (.int 3))) xNil)) (xLift [0] (dC (.int 0)))) (xsLift [0] (dAsg (dOp bIx (dOp bIx (dOp bIx (dOp bIx (dVar 1) (dC (.int 2))) (dVar 3)) (dC (.int 2))) (dC (.int 0))) (bName 4))) xNext) (xSeq (xsLift [0] (dAsg (dCall 4 m_on_within (dCons (dCall 1 m_law_lists (dCons (dVar 1) dNil)) (dCons (dVar 6) (dCons (dVar 4) (dCons (dVar 5) dNil))))) (bName 7))) (xSeq (xsLift [0] (dAsg (dLst (dCons (dVar 7) (dCons (dCall 5 m_least_shorter (dCons (dVar 1) (dCons (dVar 3) (dCons (dVar 6) (dCons (dVar 4) (dCons (dVar 5) dNil)))))) dNil))) (bName 8))) (xSeq (xIfS (xLift [0] (dNot (dCall 2 m_law_same (dCons (dVar 8) (dCons (dLst (dCons (dCall 4 m_law_is_so (dCons (dVar 1) (dCons (dVar 6) (dCons (dVar 4) (dCons (dVar 5) dNil))))) (dCons (dCall 5 m_law_least_less (dCons (dVar 1) (dCons (dVar 3) (dCons (dVar 6) (dCons (dVar 4) (dCons (dVar 5) dNil)))))) dNil))) dNil))))) (xRet (xLift [0] (dC (.bool false)))) xNext) (xFor [0] (xiLift [0] (iRange (dCons (dC (.int 4)) dNil))) (bName 9) (xSeq (xSet 10 (xDraw 0 3 m_law_begun (xCons (xLift [0] (dOp bIx (dVar 1) (dC (.int 0)))) (xCons (xLift [0] (dC (.int 6))) xNil)))) (xSeq (xsLift [0] (dPar 11 12 (dCons (dOp bIx (dCall 2 m_law_hours (dCons (dVar 1) (dCons (dVar 10) dNil))) (dVar 4)) (dCons (dCall 3 m_law_out_at (dCons (dVar 1) (dCons (dVar 10) (dCons (dVar 6) dNil)))) dNil)))) (xIfS (xLift [0] (dAnd (dVar 7) (dAnd (dOp bNotN (dVar 11) (dC .none)) (dOr (dOp bIsN (dVar 12) (dC .none)) (dOp bGt (dVar 12) (dOp bPlus (dVar 11) (dVar 5))))))) (xRet (xLift [0] (dC (.bool false)))) xNext))))))))))) (xRet (xLift [0] (dC (.bool true)))))
noncomputable def m_law_right : List PyData → Option (PyData × PyData) := mX 13 1 s_law_right
theorem ok_law_right (M : Md K mg) : CalD P w K mg base 18 "_law_right" ["_law_tin"] (spX 1 m_law_right) := by
  refine CalD.tin (k := 17) (N := ["_law_tin", "_law_abode_so", "_law_lap", "_law_n", "_law_z", "_law_most_so", "_law_k", "_law_so", "_law_got", "_law_again_so", "_law_begun_so", "_law_one_so", "_law_two_so"]) M 61 sc_law_right (fun _ _ _ _ _ _ us hl => match us, hl with | [_], _ => rfl) fun f cdv A outer s0 H E hr => ?_
  have o : Okx (cxD P w K mg base ["_law_tin", "_law_abode_so", "_law_lap", "_law_n", "_law_z", "_law_most_so", "_law_k", "_law_so", "_law_got", "_law_again_so", "_law_begun_so", "_law_one_so", "_law_two_so"] "_law_right" (defScope (top 81)) f cdv A outer s0 H E) 17 := ⟨M, hr, rfl⟩
  have nd := sc_law_right.nd
  exact b_cons (s_set (ps_set (i := 1) nd rfl (Or.inl rfl) (x_draw (t := 0) (ok_law_rise M) o.r (by decide) rfl (by first | exact Or.inl rfl | exact Or.inr (Or.inl rfl) | exact Or.inr (Or.inr rfl)) (na_cons (x_plus (x_lift ge_int) (x_draw (t := 0) (ok_law_take M) o.r (by decide) rfl (by first | exact Or.inl rfl | exact Or.inr (Or.inl rfl) | exact Or.inr (Or.inr rfl)) (na_cons (x_lift ge_int) na_nil))) na_nil)).pe)) (b_cons (s_for PassesOwn.never rfl (ni_lift (i_range o ge_int)) (gg_name (i := 2) (pg_name nd rfl (Or.inl rfl))) (b_cons (s_par3 (i := 3) (j := 4) (m := 5) rfl nd rfl rfl rfl (by decide) (by decide) (by decide) rfl rfl rfl (na_cons (x_draw (t := 0) (ok_law_take M) o.r (by decide) rfl (by first | exact Or.inl rfl | exact Or.inr (Or.inl rfl) | exact Or.inr (Or.inr rfl)) (na_cons (x_lift (b_len o (ge_ix (ge_var 1 (pv 1)) ge_int))) na_nil)) (na_cons (x_draw (t := 0) (ok_law_take M) o.r (by decide) rfl (by first | exact Or.inl rfl | exact Or.inr (Or.inl rfl) | exact Or.inr (Or.inr rfl)) (na_cons (x_lift (b_len o (ge_ix (ge_var 1 (pv 1)) ge_int))) na_nil)) (na_cons (x_draw (t := 0) (ok_law_take M) o.r (by decide) rfl (by first | exact Or.inl rfl | exact Or.inr (Or.inl rfl) | exact Or.inr (Or.inr rfl)) (na_cons (x_lift ge_int) na_nil)) na_nil))) rfl) (b_cons (s_lift (k_set (ps_set (i := 6) nd rfl (Or.inl rfl) (ge_ix (ge_ix (ge_ix (ge_var 1 (pv 1)) ge_int) (ge_var 3 (pv 3))) ge_int).pe))) (b_cons (s_if (xt_gt (x_draw (t := 0) (ok_law_take M) o.r (by decide) rfl (by first | exact Or.inl rfl | exact Or.inr (Or.inl rfl) | exact Or.inr (Or.inr rfl)) (na_cons (x_lift ge_int) na_nil)) (x_lift ge_int)) (b_one (s_lift (k_set (ps_set (i := 4) nd rfl (Or.inl rfl) (ge_ix (ge_ix (ge_ix (ge_ix (ge_var 1 (pv 1)) ge_int) (ge_var 3 (pv 3))) ge_int) ge_int).pe)))) b_nil) (b_cons (s_lift (k_set (ps_set (i := 7) nd rfl (Or.inl rfl) (ge_cal (ok_on_within M) o.r (by decide) (ga_cons (ge_cal (ok_law_lists M) o.r (by decide) (ga_cons (ge_var 1 (pv 1)) ga_nil)) (ga_cons (ge_var 6 (pv 6)) (ga_cons (ge_var 4 (pv 4)) (ga_cons (ge_var 5 (pv 5)) ga_nil))))).pe))) (b_cons (s_lift (k_set (ps_set (i := 8) nd rfl (Or.inl rfl) (ge_lst (ga_cons (ge_var 7 (pv 7)) (ga_cons (ge_cal (ok_least_shorter M) o.r (by decide) (ga_cons (ge_var 1 (pv 1)) (ga_cons (ge_var 3 (pv 3)) (ga_cons (ge_var 6 (pv 6)) (ga_cons (ge_var 4 (pv 4)) (ga_cons (ge_var 5 (pv 5)) ga_nil)))))) ga_nil))).pe))) (b_cons (s_if (t_lift (gt_not (gt_val (ge_cal (ok_law_same M) o.r (by decide) (ga_cons (ge_var 8 (pv 8)) (ga_cons (ge_lst (ga_cons (ge_cal (ok_law_is_so M) o.r (by decide) (ga_cons (ge_var 1 (pv 1)) (ga_cons (ge_var 6 (pv 6)) (ga_cons (ge_var 4 (pv 4)) (ga_cons (ge_var 5 (pv 5)) ga_nil))))) (ga_cons (ge_cal (ok_law_least_less M) o.r (by decide) (ga_cons (ge_var 1 (pv 1)) (ga_cons (ge_var 3 (pv 3)) (ga_cons (ge_var 6 (pv 6)) (ga_cons (ge_var 4 (pv 4)) (ga_cons (ge_var 5 (pv 5)) ga_nil)))))) ga_nil))) ga_nil)))))) (b_one (s_ret (x_lift ge_bl))) b_nil) (b_one (s_for PassesOwn.never rfl (ni_lift (i_range o ge_int)) (gg_name (i := 9) (pg_name nd rfl (Or.inl rfl))) (b_cons (s_set (ps_set (i := 10) nd rfl (Or.inl rfl) (x_draw (t := 0) (ok_law_begun M) o.r (by decide) rfl (by first | exact Or.inl rfl | exact Or.inr (Or.inl rfl) | exact Or.inr (Or.inr rfl)) (na_cons (x_lift (ge_ix (ge_var 1 (pv 1)) ge_int)) (na_cons (x_lift ge_int) na_nil))).pe)) (b_cons (s_lift (k_par (i := 11) (j := 12) rfl nd rfl rfl (by decide) rfl rfl (ga_cons (ge_ix (ge_cal (ok_law_hours M) o.r (by decide) (ga_cons (ge_var 1 (pv 1)) (ga_cons (ge_var 10 (pv 10)) ga_nil))) (ge_var 4 (pv 4))) (ga_cons (ge_cal (ok_law_out_at M) o.r (by decide) (ga_cons (ge_var 1 (pv 1)) (ga_cons (ge_var 10 (pv 10)) (ga_cons (ge_var 6 (pv 6)) ga_nil)))) ga_nil)) rfl)) (b_one (s_if (t_lift (gt_w (gw_and (gt_val (ge_var 7 (pv 7))) (gw_and (gt_notN (ge_var 11 (pv 11)) ge_non) (gw_and1 (gt_w (gw_or (gt_isN (ge_var 12 (pv 12)) ge_non) (gw_or1 (gt_gt (ge_var 12 (pv 12)) (ge_plus (ge_var 11 (pv 11)) (ge_var 5 (pv 5)))))))))))) (b_one (s_ret (x_lift ge_bl))) b_nil))))))))))))) (b_one (s_ret (x_lift ge_bl))))
end
end SK
set_option maxHeartbeats 4000000
/-! cells, box, law. -/
namespace SK
open PySem PySem.Spec PyProof.Rows L2
section
variable {P : Program} {w : World} {K : PySem.W.Frag} {mg : Str → Option Value} {base : Heap}
abbrev Ncells : List Str := ["_law_script", "_law_most_so", "_law_cells_so", "_law_k", "_law_cell", "_law_at_so"]
theorem sc_cells : FnScope Ncells ["_law_script", "_law_most_so"] (defScope (top 51)) := ⟨rfl, rfl, rfl, by decide +kernel, rfl, by decide +kernel, by decide +kernel⟩
def spCells (K : PySem.W.Frag) : Sp := fun vs H Q _ => ∃ (a : Addr) (ns : List Int), vs = [.ref a, .int 1] ∧ SqL K H a (ns.map V.int) ∧ ns.length ≤ 1000 ∧ ∀ (p : Addr) (z : Int) (H' : Hp), Same H H' → H' p = some (.lst [.int z]) → Q (.ref p) H'
abbrev rMulC : R2 := rI CMul fun i j => .int (i * j)
abbrev rModC : R2 := rI (fun _ j => j ≠ 0) fun i j => .int (i.fmod j)
abbrev rAddC : R2 := rI0 fun i j => .int (i + j)
abbrev rInt1 : List V → Hp → VK → Prop := fun xs H Q => (∃ i, xs = [.int i] ∧ Q (.int i) H) ∨ ∃ k, xs = [.bl k] ∧ Q (.int (if k then 1 else 0)) H
abbrev rListO (K : PySem.W.Frag) : List V → Hp → VK → Prop := fun xs H Q => ∃ p ys, xs = [.ref p] ∧ (SqL K H p ys ∨ SqT K H p ys) ∧ ∀ l, H l = none → Q (.ref l) (upd H l (.lst ys))
def t_cells (K : PySem.W.Frag) : TS :=
  tSeq (tAsg (tOrT K (tCB (rListO K) (tCons (tSl (rSlL K) (tVar 0) (fun σ H Q => Q none H) (fun σ H Q => tVar 1 σ H fun x H1 => ∃ i, x = .int i ∧ Q (some i) H1)) tNil)) (tLst (tCons (tC (.int 0)) tNil))) (gName 2))
  (tSeq (tFor (iEnum K (tCons (tSl (rSlL K) (tVar 0) (fun σ H Q => tVar 1 σ H fun x H1 => ∃ i, x = .int i ∧ Q (some i) H1) (fun σ H Q => tC (.int 63) σ H fun x H1 => ∃ i, x = .int i ∧ Q (some i) H1)) tNil)) (gTup K 2 (gCons (gName 3) (gCons (gName 4) gNil)))
    (tSeq (tAsg (tOp rModC (tCB rInt1 (tCons (tVar 3) tNil)) (tVar 1)) (gName 5))
      (tAsg (tOp rAddC (tOp (rIxL K) (tVar 2) (tVar 5)) (tOp rMulC (tVar 4) (tOp rAddC (tVar 3) (tC (.int 2))))) (gSub (tVar 2) (tVar 5) rSetL))))
  (tRet (tVar 2)))
theorem pss_cells (M : Md K mg) {f : Addr} {cdv : Value} {A : Around} {outer : List Env} {s0 : Shared} {H : Hp} {E : XK} : PSs (cxD P w K mg base Ncells "_law_cells" (defScope (top 51)) f cdv A outer s0 H E) (defBody (top 51)) (t_cells K) := by
  have nd := sc_cells.nd
  refine pss_cons (ps_set (i := 2) nd rfl (Or.inl rfl) (pe_orT (pe_callTy call_list_of rfl (M.free 65) (by decide +kernel) (pa_cons (pe_slice sl_list (pv 0) po_none (po_some (pv 1))) pa_nil)) (pe_one (pe_lst (pa_cons pe_int pa_nil)))))
    (pss_cons (ps_for PassesOwn.never rfl (pi_enum rfl (M.free 73) (pa_cons (pe_slice sl_list (pv 0) (po_some (pv 1)) (po_some pe_int)) pa_nil)) (pg_tup rfl (pgs_cons (pg_name (i := 3) nd rfl (Or.inl rfl)) (pgs_cons (pg_name (i := 4) nd rfl (Or.inl rfl)) pgs_nil)))
      (pss_cons (ps_set (i := 5) nd rfl (Or.inl rfl) (pe_op op_modN (pe_callTy call_int1 rfl (M.free 76) (by decide +kernel) (pa_cons (pv 3) pa_nil)) (pv 1)))
        (pss_one (ps_asg (pe_op op_add (pe_ix ix_list (pv 2) (pv 5) (fun _ _ => rfl)) (pe_op op_mul (pv 4) (pe_op op_add (pv 3) pe_int))) (pg_sub (pv 2) (pv 5) set_list)))) (by intro _; rfl))
    (pss_one (ps_ret (pv 2))))
theorem SqL_same {K : PySem.W.Frag} {H H' : Hp} (s : Same H H') {a : Addr} {xs : List V} (h : SqL K H a xs) : SqL K H' a xs := by
  rcases h with h | h
  · rcases h with h | ⟨o, h⟩
    · exact .inl (.inl (s _ _ h))
    · exact .inl (.inr ⟨o, s _ _ h⟩)
  · exact .inr h
theorem cut_ints (ns : List Int) (lo hi : Option Int) : ∃ ms : List Int, cutV (ns.map V.int) lo hi = ms.map V.int ∧ ms.length ≤ ns.length := by
  refine ⟨(ns.drop (HT.sIx (ns.map V.int).length 0 lo)).take (HT.sIx (ns.map V.int).length (ns.map V.int).length hi - HT.sIx (ns.map V.int).length 0 lo), ?_, ?_⟩
  · unfold cutV
    rw [List.map_take, List.map_drop]
  · rw [List.length_take, List.length_drop]; omega
theorem cut_one (ns : List Int) : cutV (ns.map V.int) none (some 1) = [] ∨ ∃ z, cutV (ns.map V.int) none (some 1) = [V.int z] := by
  cases ns with
  | nil => exact .inl rfl
  | cons n ns =>
    refine .inr ⟨n, ?_⟩
    unfold cutV HT.sIx
    simp only [List.map_cons, List.length_cons, List.drop_zero]
    have e : ∀ m : Nat, (if (1 : Int) < 0 then ((1 : Int) + ((m + 1 : Nat) : Int)).toNat else min (1 : Int).toNat (m + 1)) = 1 := fun m => by
      rw [if_neg (by omega)]
      show min 1 (m + 1) = 1
      omega
    first
      | (simp; done)
      | (rw [show ∀ m : Nat, (1 : Nat) = 1 from fun _ => rfl]; simp)
theorem read_cells {K : PySem.W.Frag} (vs : List V) (H : Hp) (Q : VK) (E : XK) (h : spCells K vs H Q E) : t_cells K { nx := fun _ H' => Q .non H', rt := Q } (L2.start Ncells vs) H := by
  obtain ⟨a, ns, rfl, hS, hn, hQ⟩ := h
  -- the second part
  have part2 : ∀ (H' : Hp) (l : Addr) (z : Int), Same H H' → H l = none → H' l = some (.lst [.int z]) →
      tSeq (tFor (iEnum K (tCons (tSl (rSlL K) (tVar 0) (fun σ H Q => tVar 1 σ H fun x H1 => ∃ i, x = .int i ∧ Q (some i) H1) (fun σ H Q => tC (.int 63) σ H fun x H1 => ∃ i, x = .int i ∧ Q (some i) H1)) tNil)) (gTup K 2 (gCons (gName 3) (gCons (gName 4) gNil)))
        (tSeq (tAsg (tOp rModC (tCB rInt1 (tCons (tVar 3) tNil)) (tVar 1)) (gName 5))
          (tAsg (tOp rAddC (tOp (rIxL K) (tVar 2) (tVar 5)) (tOp rMulC (tVar 4) (tOp rAddC (tVar 3) (tC (.int 2))))) (gSub (tVar 2) (tVar 5) rSetL))))
        (tRet (tVar 2)) { nx := fun _ H' => Q .non H', rt := Q } [some (.ref a), some (.int 1), some (.ref l), none, none, none] H' := by
    intro H' l z sm hl0 hl
    obtain ⟨ms, e1, e2⟩ := cut_ints ns (some 1) (some 63)
    refine ⟨.ref a, rfl, .int 1, rfl, 1, rfl, 63, rfl, a, ns.map V.int, rfl, SqL_same sm hS, fun p hp => ?_⟩
    refine ⟨p, _, rfl, SqL.of upd_same, ?_⟩
    rw [e1]
    have lp : l ≠ p := fun e => by rw [e, hp] at hl; cases hl
    have hp0 : H p = none := by
      cases q : H p with
      | none => rfl
      | some u => rw [sm _ _ q] at hp; cases hp
    refine ⟨fun i m σ1 H1 => m = ms.length - i ∧ i ≤ ms.length ∧ ∃ z u3 u4 u5, Same H H1 ∧ H1 p = some (.lst (ms.map V.int)) ∧ H1 l = some (.lst [.int z]) ∧ σ1 = [some (.ref a), some (.int 1), some (.ref l), u3, u4, u5],
      ⟨ms.length, by omega, Nat.zero_le _, z, none, none, none, sm.trans (same_new hp _), upd_same, by rw [upd_ne lp]; exact hl, rfl⟩, ?_⟩
    rintro i m σ1 H1 ⟨rfl, hi, z1, u3, u4, u5, s1, h1, h2, rfl⟩
    by_cases hlt : i < ms.length
    · refine .inr ⟨⟨_, _, SqL.of h1, by rw [List.getElem?_map, List.getElem?_eq_getElem hlt] <;> rfl⟩, fun σ3 H3 => ∃ z u3 u4 u5, Same H H3 ∧ H3 p = some (.lst (ms.map V.int)) ∧ H3 l = some (.lst [.int z]) ∧ σ3 = [some (.ref a), some (.int 1), some (.ref l), u3, u4, u5],
        fun σ3 H3 q => ⟨ms.length - (i + 1), by omega, rfl, hlt, q⟩, fun x H3 y => ?_⟩
      obtain ⟨T, v, rfl, hT, rfl, hv⟩ := y
      have ev := hv _ (SqL.of h1)
      rw [List.getElem?_map, List.getElem?_eq_getElem hlt] at ev
      obtain rfl : V.int ms[i] = v := Option.some.inj ev
      have pT : p ≠ T := fun e => by rw [e, hT] at h1; cases h1
      have lT : l ≠ T := fun e => by rw [e, hT] at h2; cases h2
      refine ⟨T, _, rfl, SqT.of upd_same, rfl, _, _, rfl, _, _, rfl, rfl, ?_⟩
      -- at = int(k) % most
      have e0 : ((i : Nat) : Int).fmod 1 = 0 := by rw [Int.fmod_one]
      refine ⟨.int (i : Nat), rfl, .inl ⟨(i : Nat), rfl, .int 1, rfl, (i : Nat), 1, rfl, rfl, (show (1 : Int) ≠ 0 by decide), ?_⟩⟩
      -- the new number
      refine ⟨.ref l, rfl, .int (((i : Nat) : Int).fmod 1), rfl, l, [.int z1], ((i : Nat) : Int).fmod 1, .int z1, rfl, rfl, SqL.of (by rw [upd_ne lT]; exact h2), by rw [e0] <;> rfl, ?_⟩
      have hsm : ((i : Nat) : Int) + 2 < 2 ^ 64 := by
        have : i < 1000 := by omega
        omega
      refine ⟨.int ms[i], rfl, .int (i : Nat), rfl, (i : Nat), 2, rfl, rfl, ms[i], (i : Nat) + 2, rfl, rfl, .inr ⟨by omega, hsm⟩, z1, ms[i] * ((i : Nat) + 2), rfl, rfl, ?_⟩
      refine ⟨.ref l, rfl, .int (((i : Nat) : Int).fmod 1), rfl, l, [.int z1], ((i : Nat) : Int).fmod 1, 0, rfl, rfl, by rw [upd_ne lT]; exact h2, by rw [e0] <;> rfl, ?_⟩
      refine ⟨z1 + ms[i] * ((i : Nat) + 2), _, _, _, fun b u q => ?_, ?_, upd_same, rfl⟩
      · have nl : b ≠ l := fun e => by rw [e, hl0] at q; cases q
        have nT : b ≠ T := fun e => by rw [e] at q; rw [s1 _ _ q] at hT; cases hT
        rw [upd_ne nl, upd_ne nT]; exact s1 _ _ q
      · rw [upd_ne (Ne.symm lp), upd_ne pT]; exact h1
    · have ei : i = ms.length := by omega
      subst ei
      refine .inl ⟨⟨_, SqL.of h1, by rw [List.length_map]; exact Nat.le_refl _⟩, ?_⟩
      exact ⟨.ref l, rfl, hQ l z1 H1 s1 h2⟩
  refine ⟨.ref a, rfl, .int 1, rfl, 1, rfl, a, ns.map V.int, rfl, hS, fun p hp => ?_⟩
  refine ⟨p, _, rfl, .inl (SqL.of upd_same), fun l hl => ?_⟩
  have s1 : Same H (upd H p (.lst (cutV (ns.map V.int) none (some 1)))) := same_new hp _
  have hl0 : H l = none := by
    cases q : H l with
    | none => rfl
    | some u => rw [s1 _ _ q] at hl; cases hl
  refine ⟨_, .inl ⟨_, SqL.of upd_same, rfl⟩, ?_⟩
  rcases cut_one ns with e | ⟨z, e⟩
  · rw [e] at hl s1 ⊢
    have s2 : Same H (upd (upd H p (.lst [])) l (.lst [])) := s1.trans (same_new hl _)
    rw [if_neg (by simp)]
    refine ⟨by show 1 ≤ sizeLine; decide, fun q hq => ?_⟩
    have hq0 : H q = none := by
      cases r : H q with
      | none => rfl
      | some u => rw [s2 _ _ r] at hq; cases hq
    exact part2 _ q 0 (s2.trans (same_new hq _)) hq0 upd_same
  · rw [e] at hl s1 ⊢
    rw [if_pos (by simp)]
    exact part2 _ l z (s1.trans (same_new hl _)) hl0 upd_same
end
end SK
set_option maxHeartbeats 4000000
/-! cells, box, law: the defs. -/
namespace SK
open PySem PySem.Spec PyProof.Rows L2
section
variable {P : Program} {w : World} {K : PySem.W.Frag} {mg : Str → Option Value} {base : Heap}
theorem ok_cells (M : Md K mg) : CalD P w K mg base 1 "_law_cells" ["_law_script", "_law_most_so"] (spCells K) := by
  refine CalD.of (k := 0) (N := Ncells) M 31 sc_cells (fun vs H Q E ⟨_, _, e, _⟩ => by rw [e] <;> rfl) (fun _ _ _ _ _ _ us hl => match us, hl with | [_, _], _ => rfl) fun f cdv A outer s0 H vs Q E hr h => ?_
  exact ⟨_, pss_cells M, read_cells vs H Q E h⟩
def spBox : Sp := fun vs H Q _ => ∃ (p : Addr) (z : Int), vs = [.ref p, .int 0] ∧ H p = some (.lst [.int z]) ∧ ∀ (x y : Int) (q : Addr) (H' : Hp), 0 ≤ x → 0 ≤ y → y < 2 ^ 62 → Same H H' → H' q = none → Q (.ref q) (upd H' q (.lst [.int x, .int y, .int 0]))
theorem sc_law_box : FnScope ["_law_script", "_law_k", "_law_cell"] ["_law_script", "_law_k"] (defScope (top 49)) := ⟨rfl, rfl, rfl, by decide +kernel, rfl, by decide +kernel, by decide +kernel⟩
def s_box1 : DS := dAsg (dIf (dOp bLt (dVar 1) (d1 mLen (dVar 0))) (dOp bIx (dVar 0) (dVar 1)) (dC (.int 0))) (bName 2)
def s_box2 : DA := dCons (dOp bMulG (d1 mAbs (dVar 2)) (d1 mInt (dOp bGe (d1 mAbs (dVar 2)) (dOp bPowG (dC (.int 10)) (dC (.int 18)))))) (dCons (dOp bPlus (dOp bPlus (dOp bModG (d1 mInt (dVar 2)) (dC (.int 2305843009213693951))) (dOp bMulG (dC (.int 39373)) (dVar 1))) (dC (.int 3162020))) (dCons (dC (.int 0)) dNil))
theorem box_data (z : Int) : ∃ x y : Int, 0 ≤ x ∧ 0 ≤ y ∧ y < 2 ^ 62 ∧ (s_box1 (rho0 3 [.list [.int z], .int 0])).bind (fun o => match o with | .nx ρ => s_box2 ρ | .rt _ => none) = some [.int x, .int y, .int 0] := by
  have e1 : s_box1 (rho0 3 [.list [.int z], .int 0]) = some (.nx [some (.list [.int z]), some (.int 0), some (.int z)]) := rfl
  have hm : (0 : Int) ≤ z.fmod 2305843009213693951 ∧ z.fmod 2305843009213693951 < 2305843009213693951 := by
    rw [Int.fmod_eq_emod_of_nonneg z (by omega)]
    omega
  have cm : ∀ (a : Int) (b : Bool), cMul a (if b = true then 1 else 0) = true := fun a b => by
    unfold cMul
    cases b <;> simp
  have cm2 : cMul 39373 0 = true := by decide
  obtain ⟨a, ha⟩ : ∃ a : Int, a = if z < 0 then -z else z := ⟨_, rfl⟩
  have ha0 : 0 ≤ a := by rw [ha]; split <;> omega
  refine ⟨a * (if decide ((10 : Int) ^ 18 ≤ a) = true then 1 else 0), z.fmod 2305843009213693951 + 39373 * 0 + 3162020, ?_, by omega, by omega, ?_⟩
  · refine Int.mul_nonneg ha0 ?_
    split <;> omega
  · rw [e1]
    show s_box2 [some (.list [.int z]), some (.int 0), some (.int z)] = _
    generalize hρ : ([some (.list [.int z]), some (.int 0), some (.int z)] : Rho) = ρ
    have hA : d1 mAbs (dVar 2) ρ = some (.int a) := by rw [← hρ, ha] <;> rfl
    have hP : dOp bPowG (dC (.int 10)) (dC (.int 18)) ρ = some (.int ((10 : Int) ^ 18)) := rfl
    have hG : d1 mInt (dOp bGe (d1 mAbs (dVar 2)) (dOp bPowG (dC (.int 10)) (dC (.int 18)))) ρ = some (.int (if decide ((10 : Int) ^ 18 ≤ a) = true then 1 else 0)) := by
      have hB : dOp bGe (d1 mAbs (dVar 2)) (dOp bPowG (dC (.int 10)) (dC (.int 18))) ρ = some (.bool (decide ((10 : Int) ^ 18 ≤ a))) := by
        show ((d1 mAbs (dVar 2) ρ).bind fun x => ((dOp bPowG (dC (.int 10)) (dC (.int 18))) ρ).bind fun y => bGe x y) = _
        rw [hA, hP] <;> rfl
      show ((dCons (dOp bGe (d1 mAbs (dVar 2)) (dOp bPowG (dC (.int 10)) (dC (.int 18)))) dNil ρ).bind mInt) = _
      unfold dCons
      rw [hB] <;> rfl
    have h1 : dOp bMulG (d1 mAbs (dVar 2)) (d1 mInt (dOp bGe (d1 mAbs (dVar 2)) (dOp bPowG (dC (.int 10)) (dC (.int 18))))) ρ = some (.int (a * (if decide ((10 : Int) ^ 18 ≤ a) = true then 1 else 0))) := by
      show ((d1 mAbs (dVar 2) ρ).bind fun x => ((d1 mInt (dOp bGe (d1 mAbs (dVar 2)) (dOp bPowG (dC (.int 10)) (dC (.int 18))))) ρ).bind fun y => bMulG x y) = _
      rw [hA, hG]
      show bMulG (.int a) (.int _) = _
      unfold bMulG bC
      exact if_pos (cm a _)
    have h2 : dOp bPlus (dOp bPlus (dOp bModG (d1 mInt (dVar 2)) (dC (.int 2305843009213693951))) (dOp bMulG (dC (.int 39373)) (dVar 1))) (dC (.int 3162020)) ρ = some (.int (z.fmod 2305843009213693951 + 39373 * 0 + 3162020)) := by
      rw [← hρ] <;> rfl
    unfold s_box2 dCons
    rw [h1]
    show (Option.bind _ _) = _
    rw [h2] <;> rfl
theorem ok_box (M : Md K mg) : CalD P w K mg base 1 "_law_box" ["_law_script", "_law_k"] spBox := by
  refine CalD.of (k := 0) (N := ["_law_script", "_law_k", "_law_cell"]) M 29 sc_law_box (fun vs H Q E ⟨_, _, e, _⟩ => by rw [e] <;> rfl) (fun _ _ _ _ _ _ us hl => match us, hl with | [_, _], _ => rfl) fun f cdv A outer s0 H vs Q E hr h => ?_
  have o : Okx (cxD P w K mg base ["_law_script", "_law_k", "_law_cell"] "_law_box" (defScope (top 49)) f cdv A outer s0 H E) 0 := ⟨M, hr, rfl⟩
  have nd := sc_law_box.nd
  have g1 : GS (cxD P w K mg base ["_law_script", "_law_k", "_law_cell"] "_law_box" (defScope (top 49)) f cdv A outer s0 H E) ((defBody (top 49)).getD 0 (.Pass ⟨0, 0, 0, 0⟩)) s_box1 :=
    gs_set (ps_set (i := 2) nd rfl (Or.inl rfl) (ge_ifExp (gt_lt (ge_var 1 (pv 1)) (b_len o (ge_var 0 (pv 0)))) (ge_ix (ge_var 0 (pv 0)) (ge_var 1 (pv 1))) ge_int).pe)
  refine ⟨tSeq (tGS s_box1) (tRet (tLst (tGA s_box2))), pss_cons g1.ps (pss_one (ps_ret (pe_lst (ga_cons (e_mulG (b_abs o (ge_var 2 (pv 2))) (b_int o (ge_ge (b_abs o (ge_var 2 (pv 2))) (e_powG ge_int ge_int)))) (ga_cons (ge_plus (ge_plus (e_modG (b_int o (ge_var 2 (pv 2))) ge_int) (e_mulG ge_int (ge_var 1 (pv 1)))) ge_int) (ga_cons ge_int ga_nil))).pa))), ?_⟩
  obtain ⟨p, z, rfl, hp, hQ⟩ := h
  obtain ⟨x, y, hx, hy, hy2, e⟩ := box_data z
  obtain ⟨o1, e1, e2⟩ := Option.bind_eq_some_iff.mp e
  have dv : DvA H [V.ref p, V.int 0] [.list [.int z], .int 0] := .cons (.lst hp (.cons (.int z) .nil)) (.cons (.int 0) .nil)
  refine ⟨H, _, o1, Same.refl H, en_start (N := ["_law_script", "_law_k", "_law_cell"]) dv, e1, fun ρ' eo σ' B' H' a en' => ?_, fun d eo => ?_⟩
  · subst eo
    refine ⟨B', ρ', _, a.i, en', e2, fun vs B2 H2 a2 dvs => ⟨by rw [dvs.length]; show 3 ≤ sizeLine; decide, fun q hq => ?_⟩⟩
    match vs, dvs with
    | [_, _, _], .cons (.int _) (.cons (.int _) (.cons (.int _) .nil)) => exact hQ x y q H2 hx hy hy2 (a.o.trans a2.o) hq
  · subst eo; exact nomatch e2
def spLaw (K : PySem.W.Frag) : Sp := fun vs H Q _ => ∃ (a : Addr) (ns : List Int), vs = [.ref a] ∧ SqL K H a (ns.map V.int) ∧ ns.length ≤ 1000 ∧ ∀ H', Q (.bl true) H'
/-- the plain law -/
def Plain : Prop := m_law_hand_right [] = some (.bool true) ∧ ∀ x y : Int, 0 ≤ x → 0 ≤ y → y < 2 ^ 62 → ∃ c', m_law_right [.list [.int x, .int y, .int 0]] = some (.bool true, c')
theorem sc_law : FnScope ["_law_script"] ["_law_script"] (defScope (top 82)) := ⟨rfl, rfl, rfl, by decide +kernel, rfl, by decide +kernel, by decide +kernel⟩
theorem fn_law (hPl : Plain) (M : Md K mg) {f : Addr} {fd : FuncData} (F : FunD K "law" "law" (defArgs (top 82)) (defBody (top 82)) (defScope (top 82)) [] [] f fd) : FnOk P w K mg base CX0 30 f fd ["_law_script"] (spLaw K) := by
  refine F.ok (k := 29) (N := ["_law_script"]) sc_law (fun vs H Q E ⟨_, _, e, _⟩ => by rw [e] <;> rfl) fun cdv A outer s0 H vs Q E hr h => ?_
  have o : Okx (cxD P w K mg base ["_law_script"] "law" (defScope (top 82)) f cdv A outer s0 H E) 29 := ⟨M, hr, rfl⟩
  obtain ⟨f1, fd1, F1, m1, k1, b1⟩ := (ok_cells (P := P) (w := w) (base := base) M).ex
  obtain ⟨f2, fd2, F2, m2, k2, b2⟩ := (ok_box (P := P) (w := w) (base := base) M).ex
  obtain ⟨f3, fd3, F3, m3, k3, b3⟩ := (ok_law_right (P := P) (w := w) (base := base) M).ex
  refine ⟨_, PSs.nox (pss_one (ps_ret (pe_and (ge_cal0 (ok_law_hand_right M) o.r (by decide)).pe (pe_one (pe_call (F3.mono (by decide)) o.r rfl m3 k3 b3 .nil (E := E0) pass0 (pa_cons (pe_call (F2.mono (by decide)) o.r rfl m2 k2 b2 .nil (E := E0) pass0 (pa_cons (pe_call (F1.mono (by decide)) o.r rfl m1 k1 b1 .nil (E := E0) pass0 (pa_cons (pv 0) (pa_cons pe_int pa_nil))) (pa_cons pe_int pa_nil))) pa_nil)))))), ?_⟩
  obtain ⟨a, ns, rfl, hS, hn, hQ⟩ := h
  refine ⟨fun _ => none, [none], .bool true, fun b u q => (nomatch q), ⟨rfl, fun i d q => ?_⟩, hPl.1, fun v B' H' at_ dv => ?_⟩
  · match i, q with
    | 0, q => exact nomatch q
    | i + 1, q => simp at q
  · cases dv
    refine ⟨true, rfl, ?_⟩
    refine ⟨.ref a, rfl, a, ns, rfl, SqL_same at_.o hS, hn, fun p z H1 s1 hp => ?_⟩
    refine ⟨p, z, rfl, hp, fun x y q H2 hx hy hy2 s2 hq => ?_⟩
    obtain ⟨c', e⟩ := hPl.2 x y hx hy hy2
    refine ⟨fun _ => none, q, .lst [.int x, .int y, .int 0], [], .list [.int x, .int y, .int 0], [], .bool true, c', rfl, fun b u q => (nomatch q), rfl, upd_same, .cons (.int x) (.cons (.int y) (.cons (.int 0) .nil)), .nil, e, rfl, fun v B' H3 u' at3 dv _ _ _ => ?_⟩
    cases dv
    exact hQ H3
end
end SK
set_option maxHeartbeats 2000000
/-! The plain law: data of the program. -/
namespace SK
open PySem PySem.Spec PyProof.Rows L2
/-! ### typed data -/
abbrev Sp2 := Int × Int
abbrev Rw := List (Sp2 × Int)
def eS (s : Sp2) : PyData := .tuple [.int s.1, .int s.2]
def eP (p : Sp2 × Int) : PyData := .tuple [eS p.1, .int p.2]
def eR (r : Rw) : PyData := .tuple (r.map eP)
def eF (F : List Rw) : PyData := .tuple (F.map eR)
def eO : Option Int → PyData
  | none => .none
  | some i => .int i
def kS (s : Sp2) : List Key := [.inl s.1, .inl s.2]
theorem unKey_eS (s : Sp2) : unKey (eS s) = some (kS s) := rfl
theorem kS_inj {s t : Sp2} (h : kS s = kS t) : s = t := by
  cases s; cases t
  simp only [kS, List.cons.injEq, Sum.inl.injEq, and_true] at h
  rw [h.1, h.2]
/-! ### comprehensions, walks -/
theorem lcL_map {α : Type} {g : DG} {c e : DE} {ρ : Rho} {ex : α → PyData} {f : α → PyData} {t : α → Bool} (xs : List α) (h : ∀ x ∈ xs, ∃ ρ1, g ρ (ex x) = some ρ1 ∧ c ρ1 = some (.bool (t x)) ∧ (t x = true → e ρ1 = some (f x))) :
    lcL g c e ρ (xs.map ex) = some ((xs.filter t).map f) := by
  induction xs with
  | nil => rfl
  | cons x xs ih =>
    obtain ⟨ρ1, h1, h2, h3⟩ := h x List.mem_cons_self
    have ih := ih fun y hy => h y (List.mem_cons_of_mem _ hy)
    rw [List.map_cons]
    show (g ρ (ex x)).bind _ = _
    rw [h1]
    show (c ρ1).bind _ = _
    rw [h2]
    show (match PyData.bool (t x) with | .bool true => (e ρ1).bind fun y => (lcL g c e ρ (xs.map ex)).bind fun ys => some (y :: ys) | .bool false => lcL g c e ρ (xs.map ex) | _ => none) = _
    cases ht : t x with
    | true =>
      show ((e ρ1).bind fun y => (lcL g c e ρ (xs.map ex)).bind fun ys => some (y :: ys)) = _
      rw [h3 ht, ih, List.filter_cons_of_pos ht] <;> rfl
    | false =>
      show lcL g c e ρ (xs.map ex) = _
      rw [ih, List.filter_cons_of_neg (by simp [ht])]
/-- without a test -/
theorem lcL_all {α : Type} {g : DG} {e : DE} {ρ : Rho} {ex : α → PyData} {f : α → PyData} (xs : List α) (h : ∀ x ∈ xs, ∃ ρ1, g ρ (ex x) = some ρ1 ∧ e ρ1 = some (f x)) : lcL g dYes e ρ (xs.map ex) = some (xs.map f) := by
  have := lcL_map (t := fun _ => true) (c := dYes) (g := g) (e := e) (ρ := ρ) (ex := ex) (f := f) xs fun x hx => by
    obtain ⟨ρ1, h1, h2⟩ := h x hx
    exact ⟨ρ1, h1, rfl, fun _ => h2⟩
  rw [this, List.filter_eq_self.mpr fun _ _ => rfl]
theorem dLc_of {vs : List Nat} {it : DA} {g : DG} {c e : DE} {ρ : Rho} {xs ys : List PyData} (h1 : it ρ = some xs) (h2 : lcL g c e (wipeR ρ vs) xs = some ys) : dLc vs it g c e ρ = some (.list ys) := by
  unfold dLc
  rw [h1]
  show (lcL g c e (wipeR ρ vs) xs).map _ = _
  rw [h2] <;> rfl
theorem iSeq_tup {d : DE} {ρ : Rho} {xs : List PyData} (h : d ρ = some (.tuple xs)) (hl : xs.length ≤ 1000) : iSeq d ρ = some xs := by
  unfold iSeq
  rw [h]
  exact if_pos hl
theorem iSeq_lst {d : DE} {ρ : Rho} {xs : List PyData} (h : d ρ = some (.list xs)) (hl : xs.length ≤ 1000) : iSeq d ρ = some xs := by
  unfold iSeq
  rw [h]
  exact if_pos hl
theorem mTuple_l (xs : List PyData) : mTuple [.list xs] = some (.tuple xs) := rfl
theorem d1_of {m : List PyData → Option PyData} {d : DE} {ρ : Rho} {x : PyData} (h : d ρ = some x) : d1 m d ρ = m [x] := by
  show ((dCons d dNil ρ).bind m) = _
  unfold dCons
  rw [h] <;> rfl
theorem d2_of {m : List PyData → Option PyData} {d e : DE} {ρ : Rho} {x y : PyData} (h : d ρ = some x) (h2 : e ρ = some y) : d2 m d e ρ = m [x, y] := by
  show ((dCons d (dCons e dNil) ρ).bind m) = _
  unfold dCons
  rw [h, h2] <;> rfl
theorem dCall1_of {m : List PyData → Option PyData} {d : DE} {ρ : Rho} {x : PyData} (h : d ρ = some x) : dCall 1 m (dCons d dNil) ρ = m [x] := by
  unfold dCall dCons
  rw [h] <;> rfl
theorem dCall2_of {m : List PyData → Option PyData} {d e : DE} {ρ : Rho} {x y : PyData} (h : d ρ = some x) (h2 : e ρ = some y) : dCall 2 m (dCons d (dCons e dNil)) ρ = m [x, y] := by
  unfold dCall dCons
  rw [h, h2] <;> rfl
theorem dCall3_of {m : List PyData → Option PyData} {d e f : DE} {ρ : Rho} {x y z : PyData} (h : d ρ = some x) (h2 : e ρ = some y) (h3 : f ρ = some z) : dCall 3 m (dCons d (dCons e (dCons f dNil))) ρ = m [x, y, z] := by
  unfold dCall dCons
  rw [h, h2, h3] <;> rfl
theorem dOp_of {f : PyData → PyData → Option PyData} {d e : DE} {ρ : Rho} {x y : PyData} (h : d ρ = some x) (h2 : e ρ = some y) : dOp f d e ρ = f x y := by
  unfold dOp
  rw [h, h2] <;> rfl
theorem dRet_of {d : DE} {ρ : Rho} {x : PyData} (h : d ρ = some x) : dRet d ρ = some (.rt x) := by
  unfold dRet
  rw [h] <;> rfl
theorem dAsg_of {d : DE} {ρ : Rho} {x : PyData} {i : Nat} (h : d ρ = some x) : dAsg d (bName i) ρ = some (.nx (ρ.set i (some x))) := by
  unfold dAsg
  rw [h] <;> rfl
theorem dSeq_nx {s u : DS} {ρ ρ' : Rho} (h : s ρ = some (.nx ρ')) : dSeq s u ρ = u ρ' := by
  unfold dSeq
  rw [h] <;> rfl
theorem dSeq_rt {s u : DS} {ρ : Rho} {d : PyData} (h : s ρ = some (.rt d)) : dSeq s u ρ = some (.rt d) := by
  unfold dSeq
  rw [h] <;> rfl
theorem dIfS_t {c : DE} {s u : DS} {ρ : Rho} (h : c ρ = some (.bool true)) : dIfS c s u ρ = s ρ := by
  unfold dIfS
  rw [h] <;> rfl
theorem dIfS_f {c : DE} {s u : DS} {ρ : Rho} (h : c ρ = some (.bool false)) : dIfS c s u ρ = u ρ := by
  unfold dIfS
  rw [h] <;> rfl
theorem dIf_t {c a b : DE} {ρ : Rho} (h : c ρ = some (.bool true)) : dIf c a b ρ = a ρ := by
  unfold dIf
  rw [h] <;> rfl
theorem dIf_f {c a b : DE} {ρ : Rho} (h : c ρ = some (.bool false)) : dIf c a b ρ = b ρ := by
  unfold dIf
  rw [h] <;> rfl
/-- a walk of the for -/
theorem forL_fold {α β : Type} {g : DG} {body : DS} {ex : α → PyData} {st : β → Rho} {f : β → α → β} (xs : List α) (b : β) (h : ∀ b, ∀ x ∈ xs, ∃ ρ1, g (st b) (ex x) = some ρ1 ∧ body ρ1 = some (.nx (st (f b x)))) : forL g body (xs.map ex) (st b) = some (.nx (st (xs.foldl f b))) := by
  induction xs generalizing b with
  | nil => rfl
  | cons x xs ih =>
    obtain ⟨ρ1, h1, h2⟩ := h b x List.mem_cons_self
    rw [List.map_cons, List.foldl_cons]
    show (g (st b) (ex x)).bind _ = _
    rw [h1]
    show (body ρ1).bind _ = _
    rw [h2]
    exact ih (f b x) fun b y hy => h b y (List.mem_cons_of_mem _ hy)
/-! ### tupled -/
mutual
def tupD : PyData → PyData
  | .list xs => .tuple (tupDs xs)
  | .tuple xs => .tuple (tupDs xs)
  | .none => .none
  | .bool b => .bool b
  | .int i => .int i
  | .str x => .str x
  | .dict es => .dict es
def tupDs : List PyData → List PyData
  | [] => []
  | x :: xs => tupD x :: tupDs xs
end
mutual
def fitsT : Nat → PyData → Bool
  | 0, .list _ => false
  | 0, .tuple _ => false
  | n + 1, .list xs => decide (xs.length ≤ 1000) && fitsTs n xs
  | n + 1, .tuple xs => decide (xs.length ≤ 1000) && fitsTs n xs
  | _, .none => true
  | _, .bool _ => true
  | _, .int _ => true
  | _, .str _ => true
  | _, .dict _ => true
def fitsTs : Nat → List PyData → Bool
  | _, [] => true
  | n, x :: xs => fitsT n x && fitsTs n xs
end
theorem fitsTs_all : ∀ (n : Nat) (xs : List PyData), fitsTs n xs = true → ∀ x ∈ xs, fitsT n x = true
  | _, [], _, x, h => nomatch h
  | n, y :: ys, h, x, hx => by
    rw [fitsTs, Bool.and_eq_true] at h
    rcases List.mem_cons.mp hx with e | hx
    · rw [e]; exact h.1
    · exact fitsTs_all n ys h.2 x hx
theorem tupDs_map : ∀ xs : List PyData, tupDs xs = xs.map tupD
  | [] => rfl
  | x :: xs => by rw [tupDs, tupDs_map xs, List.map_cons]
theorem mR_tupled_eq : ∀ (n : Nat) (d : PyData), fitsT n d = true → mR_tupled (n + 1) [d] = some (tupD d)
  | n, .none, _ => rfl
  | n, .bool b, _ => rfl
  | n, .int i, _ => rfl
  | n, .str x, _ => rfl
  | n, .dict es, _ => by rw [tupD] <;> rfl
  | 0, .list _, h => by simp [fitsT] at h
  | 0, .tuple _, h => by simp [fitsT] at h
  | n + 1, .list xs, h => by
    rw [fitsT, Bool.and_eq_true, decide_eq_true_eq] at h
    have e : lcL (bName 1) dYes (dCall 1 (mR_tupled (n + 1)) (dCons (dVar 1) dNil)) (wipeR (rho0 2 [.list xs]) [1]) xs = some (xs.map tupD) := by
      have := lcL_all (g := bName 1) (e := dCall 1 (mR_tupled (n + 1)) (dCons (dVar 1) dNil)) (ρ := wipeR (rho0 2 [.list xs]) [1]) (ex := id) (f := tupD) xs fun x hx => ⟨[some (.list xs), some x], rfl, by
        rw [dCall1_of (x := x) rfl]
        exact mR_tupled_eq n x (fitsTs_all n xs h.2 x hx)⟩
      rwa [List.map_id] at this
    have e2 := dLc_of (vs := [1]) (it := iSeq (dVar 0)) (ρ := rho0 2 [.list xs]) (iSeq_lst rfl h.1) e
    show ((dRet (dIf (dIsi2 "list" "tuple" (dVar 0)) (d1 mTuple (dLc [1] (iSeq (dVar 0)) (bName 1) dYes (dCall 1 (mR_tupled (n + 1)) (dCons (dVar 1) dNil)))) (dVar 0))) (rho0 2 [.list xs])).bind endD = _
    rw [dRet_of (x := .tuple (xs.map tupD)) (by rw [dIf_t rfl, d1_of e2] <;> rfl), tupD, tupDs_map] <;> rfl
  | n + 1, .tuple xs, h => by
    rw [fitsT, Bool.and_eq_true, decide_eq_true_eq] at h
    have e : lcL (bName 1) dYes (dCall 1 (mR_tupled (n + 1)) (dCons (dVar 1) dNil)) (wipeR (rho0 2 [.tuple xs]) [1]) xs = some (xs.map tupD) := by
      have := lcL_all (g := bName 1) (e := dCall 1 (mR_tupled (n + 1)) (dCons (dVar 1) dNil)) (ρ := wipeR (rho0 2 [.tuple xs]) [1]) (ex := id) (f := tupD) xs fun x hx => ⟨[some (.tuple xs), some x], rfl, by
        rw [dCall1_of (x := x) rfl]
        exact mR_tupled_eq n x (fitsTs_all n xs h.2 x hx)⟩
      rwa [List.map_id] at this
    have e2 := dLc_of (vs := [1]) (it := iSeq (dVar 0)) (ρ := rho0 2 [.tuple xs]) (iSeq_tup rfl h.1) e
    show ((dRet (dIf (dIsi2 "list" "tuple" (dVar 0)) (d1 mTuple (dLc [1] (iSeq (dVar 0)) (bName 1) dYes (dCall 1 (mR_tupled (n + 1)) (dCons (dVar 1) dNil)))) (dVar 0))) (rho0 2 [.tuple xs])).bind endD = _
    rw [dRet_of (x := .tuple (xs.map tupD)) (by rw [dIf_t rfl, d1_of e2] <;> rfl), tupD, tupDs_map] <;> rfl
theorem m_tupled_eq {d : PyData} (h : fitsT 9 d = true) : m_tupled [d] = some (tupD d) := mR_tupled_eq 9 d h
end SK
set_option maxHeartbeats 2000000
/-! The plain law: begins, rows, values. -/
namespace SK
open PySem PySem.Spec PyProof.Rows L2
/-! ### dicts of ticks -/
def look (b : Rw) (s : Sp2) : Option Int := (b.find? fun p => decide (p.1 = s)).map (·.2)
def eEnt (p : Sp2 × Int) : PyData × PyData := (eS p.1, .int p.2)
def eDict (b : Rw) : PyData := .dict (b.map eEnt)
theorem unKey_iffS (s t : Sp2) : (unKey (eS s) = some (kS t)) ↔ s = t := by
  rw [unKey_eS]
  constructor
  · intro h; exact kS_inj (Option.some.inj h)
  · intro h; rw [h]
theorem getE_ent (b : Rw) (s : Sp2) : getE (b.map eEnt) (kS s) = (look b s).map .int := by
  induction b with
  | nil => rfl
  | cons p b ih =>
    unfold getE look
    rw [List.map_cons, List.find?_cons, List.find?_cons]
    by_cases h : p.1 = s
    · have h2 : unKey (eEnt p).1 = some (kS s) := (unKey_iffS p.1 s).mpr h
      simp only [h2, h, decide_true]
      rfl
    · have h2 : ¬ unKey (eEnt p).1 = some (kS s) := fun z => h ((unKey_iffS p.1 s).mp z)
      simp only [h2, h, decide_false]
      exact ih
theorem unRow_enc : ∀ b : Rw, unRow (b.map eP) = some (b.map fun p => (kS p.1, .int p.2))
  | [] => rfl
  | p :: b => by
    rw [List.map_cons, List.map_cons]
    show (unKey (eS p.1)).bind (fun k => (unRow (b.map eP)).map ((k, .int p.2) :: ·)) = _
    rw [unKey_eS, unRow_enc b] <;> rfl
theorem putE_new {es : List (PyData × PyData)} {s : Sp2} {d : PyData} (h : getE es (kS s) = none) : putE es (kS s) d = es ++ [(eS s, d)] := by
  unfold putE
  have : (es.any fun e => decide (unKey e.1 = some (kS s))) = false := by
    rw [List.any_eq_false]
    intro e he z
    unfold getE at h
    have := List.find?_eq_none.mp (Option.map_eq_none_iff.mp h) e he
    exact this z
  rw [this] <;> rfl
theorem look_none {b : Rw} {s : Sp2} : look b s = none ↔ ∀ p ∈ b, p.1 ≠ s := by
  unfold look
  rw [Option.map_eq_none_iff, List.find?_eq_none]
  simp
theorem look_mem {b : Rw} {s : Sp2} {t : Int} (h : look b s = some t) : (s, t) ∈ b := by
  obtain ⟨p, h1, h2⟩ := Option.map_eq_some_iff.mp h
  have h3 := List.mem_of_find?_eq_some h1
  have h4 := List.find?_some h1
  simp only [decide_eq_true_eq] at h4
  rw [← h4, ← h2]; exact h3
theorem look_of {b : Rw} (hn : (b.map (·.1)).Nodup) {p : Sp2 × Int} (hp : p ∈ b) : look b p.1 = some p.2 := by
  induction b with
  | nil => exact nomatch hp
  | cons q b ih =>
    rw [List.map_cons, List.nodup_cons] at hn
    unfold look
    rw [List.find?_cons]
    rcases List.mem_cons.mp hp with e | hp
    · rw [e]; simp
    · have hq : ¬ q.1 = p.1 := fun z => hn.1 (by rw [z]; exact List.mem_map.mpr ⟨p, hp, rfl⟩)
      simp only [hq, decide_false]
      exact ih hn.2 hp
theorem mergeE_enc : ∀ (b acc : Rw), ((acc ++ b).map (·.1)).Nodup → mergeE (acc.map eEnt) (b.map fun p => (kS p.1, .int p.2)) = (acc ++ b).map eEnt
  | [], acc, _ => by rw [List.append_nil] <;> rfl
  | p :: b, acc, hn => by
    rw [List.map_cons]
    show mergeE (putE (acc.map eEnt) (kS p.1) (.int p.2)) (b.map fun p => (kS p.1, .int p.2)) = _
    have h : getE (acc.map eEnt) (kS p.1) = none := by
      rw [getE_ent]
      have : look acc p.1 = none := look_none.mpr fun q hq e => by
        rw [List.map_append, List.map_cons] at hn
        have := List.nodup_append.mp hn
        exact this.2.2 q.1 (List.mem_map.mpr ⟨q, hq, rfl⟩) p.1 List.mem_cons_self e
      rw [this] <;> rfl
    rw [putE_new h]
    have e : acc.map eEnt ++ [(eS p.1, PyData.int p.2)] = (acc ++ [p]).map eEnt := by rw [List.map_append] <;> rfl
    rw [e, mergeE_enc b (acc ++ [p]) (by rw [List.append_assoc]; exact hn), List.append_assoc] <;> rfl
theorem mDict_enc {b : Rw} (hn : (b.map (·.1)).Nodup) (hl : b.length ≤ 1000) : mDict [eR b] = some (eDict b) := by
  show (if (b.map eP).length ≤ 1000 then (unRow (b.map eP)).map fun ps => PyData.dict (mergeE [] ps) else none) = _
  rw [List.length_map, if_pos hl, unRow_enc]
  have := mergeE_enc b [] (by simpa using hn)
  simp only [List.map_nil, List.nil_append] at this
  show some (PyData.dict (mergeE [] (b.map fun p => (kS p.1, .int p.2)))) = _
  rw [this] <;> rfl
/-! ### options of ticks -/
def omin : Option Int → Option Int → Option Int
  | none, b => b
  | some a, none => some a
  | some a, some b => some (min a b)
def omax : Option Int → Option Int → Option Int
  | some a, some b => some (max a b)
  | _, _ => none
def oadd (a : Option Int) (p : Int) : Option Int := a.map (· + p)
theorem m_earlier_eq (a b : Option Int) : m_earlier [eO a, eO b] = some (eO (omin a b)) := by
  cases a <;> cases b <;> rfl
theorem m_later_eq (a b : Option Int) : m_later [eO a, eO b] = some (eO (omax a b)) := by
  cases a <;> cases b <;> rfl
theorem m_added_eq (a : Option Int) (p : Int) : m_added [eO a, .int p] = some (eO (oadd a p)) := by
  cases a <;> rfl
/-! ### row_at, value_at -/
def rowVal (b : Rw) (r : Rw) : Option Int := r.foldl (fun acc p => omax acc (oadd (look b p.1) p.2)) (some 0)
def valF (b : Rw) (F : List Rw) : Option Int := F.foldl (fun acc r => omin acc (rowVal b r)) none
theorem m_row_at_eq {b r : Rw} (hl : r.length ≤ 1000) : m_row_at [eR r, eDict b] = some (eO (rowVal b r)) := by
  have key : ∀ (r' : List (Sp2 × Int)) (acc : Option Int) (u v : Option PyData), ∃ u' v', forL (bTup [bName 3, bName 4]) (dAsg (dCall 2 m_later (dCons (dVar 2) (dCons (dCall 2 m_added (dCons (dGet2 (dVar 1) (dVar 3) (dC .none)) (dCons (dVar 4) dNil))) dNil))) (bName 2)) (r'.map eP) [some (eR r), some (eDict b), some (eO acc), u, v] =
      some (.nx [some (eR r), some (eDict b), some (eO (r'.foldl (fun acc p => omax acc (oadd (look b p.1) p.2)) acc)), u', v']) := by
    intro r'
    induction r' with
    | nil => intro acc u v; exact ⟨u, v, rfl⟩
    | cons p r' ih =>
      intro acc u v
      obtain ⟨u', v', e⟩ := ih (omax acc (oadd (look b p.1) p.2)) (some (eS p.1)) (some (.int p.2))
      refine ⟨u', v', ?_⟩
      rw [List.map_cons, List.foldl_cons]
      show ((dAsg (dCall 2 m_later (dCons (dVar 2) (dCons (dCall 2 m_added (dCons (dGet2 (dVar 1) (dVar 3) (dC .none)) (dCons (dVar 4) dNil))) dNil))) (bName 2)) [some (eR r), some (eDict b), some (eO acc), some (eS p.1), some (.int p.2)]).bind _ = _
      have h1 : dGet2 (dVar 1) (dVar 3) (dC .none) [some (eR r), some (eDict b), some (eO acc), some (eS p.1), some (.int p.2)] = some (eO (look b p.1)) := by
        show some ((getE (b.map eEnt) (kS p.1)).getD .none) = _
        rw [getE_ent]
        cases look b p.1 <;> rfl
      have h2 : dCall 2 m_added (dCons (dGet2 (dVar 1) (dVar 3) (dC .none)) (dCons (dVar 4) dNil)) [some (eR r), some (eDict b), some (eO acc), some (eS p.1), some (.int p.2)] = some (eO (oadd (look b p.1) p.2)) := by
        rw [dCall2_of h1 (y := .int p.2) rfl, m_added_eq]
      rw [dAsg_of (x := eO (omax acc (oadd (look b p.1) p.2))) (by rw [dCall2_of (x := eO acc) rfl h2, m_later_eq])]
      exact e
  obtain ⟨u', v', e⟩ := key r (some 0) none none
  show ((dSeq (dAsg (dC (.int 0)) (bName 2)) (dSeq (dFor (iSeq (dVar 0)) (bTup [bName 3, bName 4]) (dAsg (dCall 2 m_later (dCons (dVar 2) (dCons (dCall 2 m_added (dCons (dGet2 (dVar 1) (dVar 3) (dC .none)) (dCons (dVar 4) dNil))) dNil))) (bName 2))) (dRet (dVar 2)))) (rho0 5 [eR r, eDict b])).bind endD = _
  rw [dSeq_nx (dAsg_of rfl)]
  have e2 : dFor (iSeq (dVar 0)) (bTup [bName 3, bName 4]) (dAsg (dCall 2 m_later (dCons (dVar 2) (dCons (dCall 2 m_added (dCons (dGet2 (dVar 1) (dVar 3) (dC .none)) (dCons (dVar 4) dNil))) dNil))) (bName 2)) ((rho0 5 [eR r, eDict b]).set 2 (some (.int 0))) = some (.nx [some (eR r), some (eDict b), some (eO (rowVal b r)), u', v']) := by
    unfold dFor
    rw [iSeq_tup (xs := r.map eP) rfl (by rw [List.length_map]; exact hl)]
    exact e
  rw [dSeq_nx e2] <;> rfl
theorem m_value_at_eq {b : Rw} {F : List Rw} (hF : F.length ≤ 1000) (hl : ∀ r ∈ F, r.length ≤ 1000) : m_value_at [eF F, eDict b] = some (eO (valF b F)) := by
  have key : ∀ (F' : List Rw) (acc : Option Int) (u : Option PyData), (∀ r ∈ F', r.length ≤ 1000) → ∃ u', forL (bName 3) (dAsg (dCall 2 m_earlier (dCons (dVar 2) (dCons (dCall 2 m_row_at (dCons (dVar 3) (dCons (dVar 1) dNil))) dNil))) (bName 2)) (F'.map eR) [some (eF F), some (eDict b), some (eO acc), u] =
      some (.nx [some (eF F), some (eDict b), some (eO (F'.foldl (fun acc r => omin acc (rowVal b r)) acc)), u']) := by
    intro F'
    induction F' with
    | nil => intro acc u _; exact ⟨u, rfl⟩
    | cons r F' ih =>
      intro acc u hl
      obtain ⟨u', e⟩ := ih (omin acc (rowVal b r)) (some (eR r)) fun s hs => hl s (List.mem_cons_of_mem _ hs)
      refine ⟨u', ?_⟩
      rw [List.map_cons, List.foldl_cons]
      show ((dAsg (dCall 2 m_earlier (dCons (dVar 2) (dCons (dCall 2 m_row_at (dCons (dVar 3) (dCons (dVar 1) dNil))) dNil))) (bName 2)) [some (eF F), some (eDict b), some (eO acc), some (eR r)]).bind _ = _
      have h1 : dCall 2 m_row_at (dCons (dVar 3) (dCons (dVar 1) dNil)) [some (eF F), some (eDict b), some (eO acc), some (eR r)] = some (eO (rowVal b r)) := by
        rw [dCall2_of (x := eR r) (y := eDict b) rfl rfl, m_row_at_eq (hl r List.mem_cons_self)]
      rw [dAsg_of (x := eO (omin acc (rowVal b r))) (by rw [dCall2_of (x := eO acc) rfl h1, m_earlier_eq])]
      exact e
  obtain ⟨u', e⟩ := key F none none hl
  show ((dSeq (dAsg (dC .none) (bName 2)) (dSeq (dFor (iSeq (dVar 0)) (bName 3) (dAsg (dCall 2 m_earlier (dCons (dVar 2) (dCons (dCall 2 m_row_at (dCons (dVar 3) (dCons (dVar 1) dNil))) dNil))) (bName 2))) (dRet (dVar 2)))) (rho0 4 [eF F, eDict b])).bind endD = _
  rw [dSeq_nx (dAsg_of rfl)]
  have e2 : dFor (iSeq (dVar 0)) (bName 3) (dAsg (dCall 2 m_earlier (dCons (dVar 2) (dCons (dCall 2 m_row_at (dCons (dVar 3) (dCons (dVar 1) dNil))) dNil))) (bName 2)) ((rho0 4 [eF F, eDict b]).set 2 (some .none)) = some (.nx [some (eF F), some (eDict b), some (eO (valF b F)), u']) := by
    unfold dFor
    rw [iSeq_tup (xs := F.map eR) rfl (by rw [List.length_map]; exact hF)]
    exact e
  rw [dSeq_nx e2] <;> rfl
/-! ### thresholds -/
/-- all of the row has begun by v -/
def RowBy (b : Sp2 → Option Int) (r : Rw) (v : Int) : Prop := ∀ p ∈ r, ∃ t, b p.1 = some t ∧ t + p.2 ≤ v
def FireBy (b : Sp2 → Option Int) (F : List Rw) (v : Int) : Prop := ∃ r ∈ F, RowBy b r v
/-- a value told by thresholds -/
def Thr (o : Option Int) (p : Int → Prop) : Prop := match o with
  | none => ∀ v, 0 ≤ v → ¬ p v
  | some x => 0 ≤ x ∧ ∀ v, 0 ≤ v → (p v ↔ x ≤ v)
theorem Thr.unique {o o' : Option Int} {p : Int → Prop} (h : Thr o p) (h' : Thr o' p) : o = o' := by
  cases o with
  | none =>
    cases o' with
    | none => rfl
    | some x => exact absurd ((h'.2 x h'.1).mpr (Int.le_refl x)) (h x h'.1)
  | some x =>
    cases o' with
    | none => exact absurd ((h.2 x h.1).mpr (Int.le_refl x)) (h' x h.1)
    | some y =>
      have h1 := (h.2 y h'.1).mp ((h'.2 y h'.1).mpr (Int.le_refl y))
      have h2 := (h'.2 x h.1).mp ((h.2 x h.1).mpr (Int.le_refl x))
      rw [show x = y by omega]
theorem Thr.congr {o : Option Int} {p q : Int → Prop} (h : Thr o p) (e : ∀ v, 0 ≤ v → (p v ↔ q v)) : Thr o q := by
  cases o with
  | none => exact fun v hv z => h v hv ((e v hv).mpr z)
  | some x => exact ⟨h.1, fun v hv => (e v hv).symm.trans (h.2 v hv)⟩
theorem Thr.omin {o o' : Option Int} {p q : Int → Prop} (h : Thr o p) (h' : Thr o' q) : Thr (omin o o') fun v => p v ∨ q v := by
  cases o with
  | none =>
    have : SK.omin none o' = o' := rfl
    rw [this]
    exact h'.congr fun v hv => ⟨.inr, fun z => z.resolve_left (h v hv)⟩
  | some x =>
    cases o' with
    | none => exact Thr.congr (o := some x) h fun v hv => ⟨.inl, fun z => z.resolve_right (h' v hv)⟩
    | some y => exact ⟨by have := h.1; have := h'.1; omega, fun v hv => by show (p v ∨ q v) ↔ _; rw [h.2 v hv, h'.2 v hv]; omega⟩
theorem Thr.omax {o o' : Option Int} {p q : Int → Prop} (h : Thr o p) (h' : Thr o' q) : Thr (omax o o') fun v => p v ∧ q v := by
  cases o with
  | none => exact fun v hv z => h v hv z.1
  | some x =>
    cases o' with
    | none => exact fun v hv z => h' v hv z.2
    | some y => exact ⟨by have := h.1; have := h'.1; omega, fun v hv => by show (p v ∧ q v) ↔ _; rw [h.2 v hv, h'.2 v hv]; omega⟩
theorem rowVal_by {b r : Rw} (hb : ∀ p ∈ b, 0 ≤ p.2) (hr : ∀ p ∈ r, 0 ≤ p.2) : Thr (rowVal b r) (RowBy (look b) r) := by
  have key : ∀ (r' : Rw) (acc : Option Int) (P : Int → Prop), Thr acc P → (∀ p ∈ r', 0 ≤ p.2) → Thr (r'.foldl (fun acc p => SK.omax acc (oadd (look b p.1) p.2)) acc) fun v => P v ∧ RowBy (look b) r' v := by
    intro r'
    induction r' with
    | nil => exact fun acc P h _ => h.congr fun v _ => ⟨fun z => ⟨z, fun p hp => nomatch hp⟩, fun z => z.1⟩
    | cons p r' ih =>
      intro acc P h hr
      rw [List.foldl_cons]
      have h1 : Thr (oadd (look b p.1) p.2) fun v => ∃ t, look b p.1 = some t ∧ t + p.2 ≤ v := by
        cases e : look b p.1 with
        | none => exact fun v _ ⟨t, z, _⟩ => nomatch z
        | some t =>
          refine ⟨?_, fun v _ => ⟨fun ⟨t', z, h⟩ => by cases z; exact h, fun h => ⟨t, rfl, h⟩⟩⟩
          have h2 := hb _ (look_mem e)
          have h3 := hr p List.mem_cons_self
          show 0 ≤ t + p.2
          have h2 : 0 ≤ t := h2
          omega
      refine (ih _ _ (h.omax h1) fun q hq => hr q (List.mem_cons_of_mem _ hq)).congr fun v _ => ⟨fun z => ⟨z.1.1, fun q hq => ?_⟩, fun z => ⟨⟨z.1, z.2 p List.mem_cons_self⟩, fun q hq => z.2 q (List.mem_cons_of_mem _ hq)⟩⟩
      rcases List.mem_cons.mp hq with e | hq
      · rw [e]; exact z.1.2
      · exact z.2 q hq
  exact (key r (some 0) (fun _ => True) ⟨Int.le_refl 0, fun v hv => ⟨fun _ => hv, fun _ => trivial⟩⟩ hr).congr fun v _ => ⟨fun z => z.2, fun z => ⟨trivial, z⟩⟩
theorem valF_by {b : Rw} {F : List Rw} (hb : ∀ p ∈ b, 0 ≤ p.2) (hr : ∀ r ∈ F, ∀ p ∈ r, 0 ≤ p.2) : Thr (valF b F) (FireBy (look b) F) := by
  have key : ∀ (F' : List Rw) (acc : Option Int) (P : Int → Prop), Thr acc P → (∀ r ∈ F', ∀ p ∈ r, 0 ≤ p.2) → Thr (F'.foldl (fun acc r => SK.omin acc (rowVal b r)) acc) fun v => P v ∨ FireBy (look b) F' v := by
    intro F'
    induction F' with
    | nil => exact fun acc P h _ => h.congr fun v _ => ⟨.inl, fun z => z.resolve_right fun ⟨r, hr, _⟩ => nomatch hr⟩
    | cons r F' ih =>
      intro acc P h hr
      rw [List.foldl_cons]
      refine (ih _ _ (h.omin (rowVal_by hb (hr r List.mem_cons_self))) fun q hq => hr q (List.mem_cons_of_mem _ hq)).congr fun v _ => ⟨fun z => ?_, fun z => ?_⟩
      · rcases z with (z | z) | ⟨q, hq, z⟩
        · exact .inl z
        · exact .inr ⟨r, List.mem_cons_self, z⟩
        · exact .inr ⟨q, List.mem_cons_of_mem _ hq, z⟩
      · rcases z with z | ⟨q, hq, z⟩
        · exact .inl (.inl z)
        · rcases List.mem_cons.mp hq with e | hq
          · rw [e] at z; exact .inl (.inr z)
          · exact .inr ⟨q, hq, z⟩
  exact (key F none (fun _ => False) (fun v _ z => z) hr).congr fun v _ => ⟨fun z => z.resolve_left id, .inr⟩
end SK
set_option maxHeartbeats 2000000
/-! The plain law: canonical rows, the least of rows. -/
namespace SK
open PySem PySem.Spec PyProof.Rows L2
def ltS (s t : Sp2) : Prop := s.1 < t.1 ∨ (s.1 = t.1 ∧ s.2 < t.2)
theorem ltS.ne {s t : Sp2} (h : ltS s t) : s ≠ t := fun e => by
  rw [e] at h
  rcases h with h | ⟨_, h⟩ <;> omega
theorem ltS.trans {s t u : Sp2} (h : ltS s t) (k : ltS t u) : ltS s u := by
  unfold ltS at *
  omega
theorem ltS.asymm {s t : Sp2} (h : ltS s t) (k : ltS t s) : False := by
  unfold ltS at *
  omega
theorem ltS.tri (s t : Sp2) : ltS s t ∨ s = t ∨ ltS t s := by
  unfold ltS
  rcases s with ⟨a, b⟩
  rcases t with ⟨c, d⟩
  simp only [Prod.mk.injEq]
  omega
structure Can (r : Rw) : Prop where
  so : (r.map (·.1)).Pairwise ltS
  nn : ∀ p ∈ r, 0 ≤ p.2
  ne : r ≠ []
  len : r.length ≤ 60
theorem Can.nodup {r : Rw} (h : Can r) : (r.map (·.1)).Nodup := h.so.imp ltS.ne
theorem eR_inj {r s : Rw} (h : eR r = eR s) : r = s := by
  have h2 : r.map eP = s.map eP := by injection h
  have inj : ∀ p q : Sp2 × Int, eP p = eP q → p = q := fun p q e => by
    obtain ⟨⟨a, b⟩, c⟩ := p
    obtain ⟨⟨a', b'⟩, c'⟩ := q
    simp only [eP, eS, PyData.tuple.injEq, List.cons.injEq, PyData.int.injEq, and_true] at e
    obtain ⟨⟨h1, h2⟩, h3⟩ := e
    rw [h1, h2, h3]
  have key : ∀ r s : Rw, r.map eP = s.map eP → r = s := by
    intro r
    induction r with
    | nil => intro s h; cases s with
      | nil => rfl
      | cons => exact nomatch h
    | cons p r ih =>
      intro s h
      cases s with
      | nil => exact nomatch h
      | cons q s =>
        rw [List.map_cons, List.map_cons] at h
        injection h with h1 h2
        rw [inj p q h1, ih s h2]
  exact key r s h2
/-! ### what the kit asks of rows -/
theorem kOk_eP (p : Sp2 × Int) : kOk (eP p) = true := rfl
theorem kOkA_map : ∀ r : Rw, kOkA (r.map eP) = true
  | [] => rfl
  | p :: r => by rw [List.map_cons, kOkA, kOk_eP, kOkA_map r] <;> rfl
theorem kOk_eR (r : Rw) : kOk (eR r) = true := kOkA_map r
theorem depth_eP (p : Sp2 × Int) : (toN (eP p)).depth = 2 := rfl
theorem depthA_map : ∀ r : Rw, NestedKey.depthAll (toNs (r.map eP)) ≤ 2
  | [] => by show 0 ≤ 2; omega
  | p :: r => by
    rw [List.map_cons, toNs, NestedKey.depthAll, depth_eP]
    have := depthA_map r
    omega
theorem depth_eR (r : Rw) : (toN (eR r)).depth ≤ 7 := by
  have := depthA_map r
  show NestedKey.depthAll (toNs (r.map eP)) + 1 ≤ 7
  omega
theorem dep_map : ∀ r : Rw, PyData.depthAll (r.map eP) ≤ 2
  | [] => by simp [PyData.depthAll]
  | p :: r => by
    have := dep_map r
    have e : PyData.depth (eP p) = 2 := by simp [eP, eS, PyData.depth, PyData.depthAll]
    rw [List.map_cons, PyData.depthAll, e]
    omega
theorem dep_eR (r : Rw) : (eR r).depth ≤ 3 := by
  have := dep_map r
  unfold eR
  rw [PyData.depth]
  omega
theorem lay_map : ∀ r : Rw, PyData.canLayAll0 (r.map eP) = true
  | [] => rfl
  | p :: r => by rw [List.map_cons, PyData.canLayAll0, lay_map r] <;> rfl
theorem lay_eR (r : Rw) : (eR r).canLay0 = true := lay_map r
theorem shaped_eR (r : Rw) : SeqAt.shaped (eR r) = true := by
  unfold SeqAt.shaped
  rw [lay_eR r, Bool.true_and, decide_eq_true_eq]
  have := dep_eR r
  omega
theorem alikeA_map : ∀ r s : Rw, PySem.W.alikeAll (r.map eP) (s.map eP) = true
  | [], _ => rfl
  | _ :: _, [] => rfl
  | p :: r, q :: s => by rw [List.map_cons, List.map_cons, PySem.W.alikeAll, alikeA_map r s] <;> rfl
theorem alike_eR (r s : Rw) : PySem.W.alike (eR r) (eR s) = true := alikeA_map r s
theorem sortOk_rows {F : List Rw} (hl : F.length ≤ 1000) (hn : ∀ r ∈ F, r ≠ []) : SortOk (F.map eR) := by
  refine ⟨fun d hd e he => ?_, .inl fun d hd => ?_, by rw [List.length_map]; exact hl, fun d hd => ?_⟩
  · obtain ⟨r, _, rfl⟩ := List.mem_map.mp hd
    obtain ⟨s, _, rfl⟩ := List.mem_map.mp he
    exact alike_eR r s
  · obtain ⟨r, hr, rfl⟩ := List.mem_map.mp hd
    cases r with
    | nil => exact absurd rfl (hn _ hr)
    | cons p r => exact ⟨eP p, r.map eP, rfl⟩
  · obtain ⟨r, _, rfl⟩ := List.mem_map.mp hd
    have := dep_eR r
    exact ⟨by omega, lay_eR r⟩
theorem setOk_rows {F : List Rw} (hl : F.length < 64) (hn : ∀ r ∈ F, r ≠ []) : SetOk (F.map eR) := by
  refine ⟨fun d hd => ?_, sortOk_rows (by omega) hn, by rw [List.length_map]; exact hl⟩
  obtain ⟨r, _, rfl⟩ := List.mem_map.mp hd
  exact ⟨kOk_eR r, ⟨_, rfl⟩, depth_eR r⟩
theorem lift_map {α : Type} {f : α → PyData} : ∀ {ds : List PyData} {P : α → Prop}, (∀ d ∈ ds, ∃ r, P r ∧ d = f r) → ∃ G : List α, ds = G.map f ∧ ∀ r ∈ G, P r
  | [], _, _ => ⟨[], rfl, fun r hr => nomatch hr⟩
  | d :: ds, P, h => by
    obtain ⟨r, h1, h2⟩ := h d List.mem_cons_self
    obtain ⟨G, h3, h4⟩ := lift_map (ds := ds) (P := P) fun e he => h e (List.mem_cons_of_mem _ he)
    refine ⟨r :: G, by rw [List.map_cons, h2, h3], fun s hs => ?_⟩
    rcases List.mem_cons.mp hs with e | hs
    · rw [e]; exact h1
    · exact h4 s hs
/-- sorted(set(rows)) -/
theorem ss_rows (F : List Rw) : ∃ G : List Rw, ssD (F.map eR) = G.map eR ∧ (∀ r, r ∈ G ↔ r ∈ F) ∧ G.length ≤ F.length := by
  have kk : ∀ d ∈ F.map eR, kOk d = true := fun d hd => by
    obtain ⟨r, _, rfl⟩ := List.mem_map.mp hd
    exact kOk_eR r
  obtain ⟨G, h1, h2⟩ := lift_map (f := eR) (ds := ssD (F.map eR)) (P := fun r => r ∈ F) fun d hd => by
    obtain ⟨r, h1, h2⟩ := List.mem_map.mp ((ssD_mem kk).mp hd)
    exact ⟨r, h1, h2.symm⟩
  refine ⟨G, h1, fun r => ⟨h2 r, fun hr => ?_⟩, ?_⟩
  · have : eR r ∈ ssD (F.map eR) := (ssD_mem kk).mpr (List.mem_map.mpr ⟨r, hr, rfl⟩)
    rw [h1] at this
    obtain ⟨s, h3, h4⟩ := List.mem_map.mp this
    rw [← eR_inj h4]; exact h3
  · have := ssD_len (F.map eR)
    rw [h1, List.length_map, List.length_map] at this
    exact this
theorem m_set_of_eq {F : List Rw} {x : PyData} (hx : x = .list (F.map eR) ∨ x = .tuple (F.map eR)) (hl : F.length < 64) (hn : ∀ r ∈ F, r ≠ []) : m_set_of [x] = some (.tuple (ssD (F.map eR))) := by
  show ((dRet (d1 mTuple (dSortSet (dVar 0)))) (rho0 1 [x])).bind endD = _
  have e : dSortSet (dVar 0) (rho0 1 [x]) = some (.list (ssD (F.map eR))) := by
    show ((some x).bind fun x => mSS [x]) = _
    exact mSS_of hx (setOk_rows hl hn)
  rw [dRet_of (d1_of e)] <;> rfl
/-! ### is_over -/
def isOver (r s : Rw) : Bool := s.all fun p => match look r p.1 with
  | some q => decide (p.2 ≤ q)
  | none => false
theorem isOver_iff {r s : Rw} : isOver r s = true ↔ ∀ p ∈ s, ∃ q, look r p.1 = some q ∧ p.2 ≤ q := by
  unfold isOver
  rw [List.all_eq_true]
  constructor
  · intro h p hp
    have := h p hp
    cases e : look r p.1 with
    | none => rw [e] at this; cases this
    | some q => rw [e] at this; exact ⟨q, rfl, by simpa using this⟩
  · intro h p hp
    obtain ⟨q, e, h2⟩ := h p hp
    rw [e]
    simpa using h2
theorem mAll_map (bs : List Bool) : mAll [.list (bs.map .bool)] = some (.bool (bs.all id)) := by
  show (bls (bs.map .bool)).map (fun bs => PyData.bool (bs.all id)) = _
  rw [bls_map] <;> rfl
theorem mAny_map (bs : List Bool) : mAny [.list (bs.map .bool)] = some (.bool (bs.any id)) := by
  show (bls (bs.map .bool)).map (fun bs => PyData.bool (bs.any id)) = _
  rw [bls_map] <;> rfl
theorem m_is_over_eq {r s : Rw} (hn : (r.map (·.1)).Nodup) (hr : r.length ≤ 1000) (hs : s.length ≤ 1000) : m_is_over [eR r, eR s] = some (.bool (isOver r s)) := by
  show ((dSeq (dAsg (d1 mDict (dVar 0)) (bName 2)) (dRet (d1 mAll (dLc [3, 4] (iSeq (dVar 1)) (bTup [bName 3, bName 4]) dYes (dAnd (dOp bInD (dVar 3) (dVar 2)) (dOp bGe (dOp bIxD (dVar 2) (dVar 3)) (dVar 4))))))) (rho0 5 [eR r, eR s])).bind endD = _
  have e1 : d1 mDict (dVar 0) (rho0 5 [eR r, eR s]) = some (eDict r) := by
    rw [d1_of (x := eR r) rfl, mDict_enc hn hr]
  rw [dSeq_nx (dAsg_of e1)]
  have e2 : lcL (bTup [bName 3, bName 4]) dYes (dAnd (dOp bInD (dVar 3) (dVar 2)) (dOp bGe (dOp bIxD (dVar 2) (dVar 3)) (dVar 4))) (wipeR ((rho0 5 [eR r, eR s]).set 2 (some (eDict r))) [3, 4]) (s.map eP) =
      some (s.map fun p => .bool (match look r p.1 with | some q => decide (p.2 ≤ q) | none => false)) := by
    refine lcL_all (ex := eP) s fun p hp => ⟨[some (eR r), some (eR s), some (eDict r), some (eS p.1), some (.int p.2)], rfl, ?_⟩
    have h1 : dOp bInD (dVar 3) (dVar 2) [some (eR r), some (eR s), some (eDict r), some (eS p.1), some (.int p.2)] = some (.bool (look r p.1).isSome) := by
      show some (PyData.bool (getE (r.map eEnt) (kS p.1)).isSome) = _
      rw [getE_ent, Option.isSome_map]
    have h2 : dOp bIxD (dVar 2) (dVar 3) [some (eR r), some (eR s), some (eDict r), some (eS p.1), some (.int p.2)] = (look r p.1).map .int := by
      show getE (r.map eEnt) (kS p.1) = _
      rw [getE_ent]
    unfold dAnd
    rw [h1]
    cases e : look r p.1 with
    | none => rfl
    | some q =>
      rw [e] at h2
      show dOp bGe (dOp bIxD (dVar 2) (dVar 3)) (dVar 4) _ = _
      rw [dOp_of h2 (y := .int p.2) rfl] <;> rfl
  have e3 := dLc_of (vs := [3, 4]) (it := iSeq (dVar 1)) (ρ := (rho0 5 [eR r, eR s]).set 2 (some (eDict r))) (xs := s.map eP) (iSeq_tup rfl (by rw [List.length_map]; exact hs)) e2
  have e4 : d1 mAll (dLc [3, 4] (iSeq (dVar 1)) (bTup [bName 3, bName 4]) dYes (dAnd (dOp bInD (dVar 3) (dVar 2)) (dOp bGe (dOp bIxD (dVar 2) (dVar 3)) (dVar 4)))) ((rho0 5 [eR r, eR s]).set 2 (some (eDict r))) = some (.bool (isOver r s)) := by
    rw [d1_of e3]
    have : (s.map fun p => PyData.bool (match look r p.1 with | some q => decide (p.2 ≤ q) | none => false)) = (s.map fun p => match look r p.1 with | some q => decide (p.2 ≤ q) | none => false).map .bool := by
      rw [List.map_map] <;> rfl
    rw [this, mAll_map, List.all_map] <;> rfl
  rw [dRet_of e4] <;> rfl
/-! ### the least of rows -/
def leastOf (G : List Rw) : List Rw := G.filter fun r => !G.any fun s => decide (r ≠ s) && isOver r s
theorem eqv_eR (r s : Rw) : PyData.eqv (eR r) (eR s) = decide (r = s) := by
  by_cases h : r = s
  · subst h
    rw [decide_eq_true rfl]
    have key : ∀ r : Rw, PyData.eqvAll (r.map eP) (r.map eP) = true := by
      intro r
      induction r with
      | nil => simp [PyData.eqvAll]
      | cons p r ih =>
        rw [List.map_cons, PyData.eqvAll, ih, Bool.and_true]
        simp [eP, eS, PyData.eqv, PyData.eqvAll]
    show PyData.eqv (.tuple _) (.tuple _) = true
    rw [PyData.eqv]; exact key r
  · rw [decide_eq_false h]
    cases e : PyData.eqv (eR r) (eR s) with
    | false => rfl
    | true => exact absurd (eR_inj (eqv_key _ _ (kOk_eR r) (kOk_eR s) e)) h
theorem m_least_of_eq {F : List Rw} {x : PyData} (hx : x = .list (F.map eR) ∨ x = .tuple (F.map eR)) (hl : F.length < 64) (hc : ∀ r ∈ F, Can r) : ∃ G : List Rw, (∀ r, r ∈ G ↔ r ∈ F) ∧ G.length ≤ F.length ∧ m_least_of [x] = some (eF (leastOf G)) := by
  obtain ⟨G, g1, g2, g3⟩ := ss_rows F
  have hcG : ∀ r ∈ G, Can r := fun r hr => hc r ((g2 r).mp hr)
  refine ⟨G, g2, g3, ?_⟩
  show ((dSeq (dAsg (dCall 1 m_set_of (dCons (dVar 0) dNil)) (bName 1)) (dRet (d1 mTuple (dLc [2] (iSeq (dVar 1)) (bName 2) (dNot (d1 mAny (dLc [3] (iSeq (dVar 1)) (bName 3) dYes (dAnd (dOp bNe (dVar 2) (dVar 3)) (dCall 2 m_is_over (dCons (dVar 2) (dCons (dVar 3) dNil))))))) (dVar 2))))) (rho0 4 [x])).bind endD = _
  have e1 : dCall 1 m_set_of (dCons (dVar 0) dNil) (rho0 4 [x]) = some (eF G) := by
    rw [dCall1_of (x := x) rfl, m_set_of_eq hx hl (fun r hr => (hc r hr).ne), g1] <;> rfl
  rw [dSeq_nx (dAsg_of e1)]
  have lenG : (G.map eR).length ≤ 1000 := by rw [List.length_map]; omega
  have inner : ∀ r ∈ G, dLc [3] (iSeq (dVar 1)) (bName 3) dYes (dAnd (dOp bNe (dVar 2) (dVar 3)) (dCall 2 m_is_over (dCons (dVar 2) (dCons (dVar 3) dNil)))) [some x, some (eF G), some (eR r), none] = some (.list (G.map fun s => .bool (decide (r ≠ s) && isOver r s))) := fun r hr => by
    refine dLc_of (xs := G.map eR) (iSeq_tup rfl lenG) ?_
    refine lcL_all (ex := eR) G fun s hs => ⟨[some x, some (eF G), some (eR r), some (eR s)], rfl, ?_⟩
    have h1 : dOp bNe (dVar 2) (dVar 3) [some x, some (eF G), some (eR r), some (eR s)] = some (.bool (decide (r ≠ s))) := by
      show bNe (eR r) (eR s) = _
      unfold bNe
      rw [if_pos ⟨shaped_eR r, shaped_eR s⟩, eqv_eR]
      simp
    have h2 : dCall 2 m_is_over (dCons (dVar 2) (dCons (dVar 3) dNil)) [some x, some (eF G), some (eR r), some (eR s)] = some (.bool (isOver r s)) := by
      rw [dCall2_of (x := eR r) (y := eR s) rfl rfl]
      exact m_is_over_eq (hcG r hr).nodup (by have := (hcG r hr).len; omega) (by have := (hcG s hs).len; omega)
    unfold dAnd
    rw [h1]
    cases decide (r ≠ s) with
    | true => exact h2
    | false => rfl
  have e2 : lcL (bName 2) (dNot (d1 mAny (dLc [3] (iSeq (dVar 1)) (bName 3) dYes (dAnd (dOp bNe (dVar 2) (dVar 3)) (dCall 2 m_is_over (dCons (dVar 2) (dCons (dVar 3) dNil))))))) (dVar 2) (wipeR ((rho0 4 [x]).set 1 (some (eF G))) [2]) (G.map eR) = some ((leastOf G).map eR) := by
    refine lcL_map (ex := eR) (f := eR) (t := fun r => !G.any fun s => decide (r ≠ s) && isOver r s) G fun r hr => ⟨[some x, some (eF G), some (eR r), none], rfl, ?_, fun _ => rfl⟩
    have h3 : d1 mAny (dLc [3] (iSeq (dVar 1)) (bName 3) dYes (dAnd (dOp bNe (dVar 2) (dVar 3)) (dCall 2 m_is_over (dCons (dVar 2) (dCons (dVar 3) dNil))))) [some x, some (eF G), some (eR r), none] = some (.bool (G.any fun s => decide (r ≠ s) && isOver r s)) := by
      rw [d1_of (inner r hr)]
      have : (G.map fun s => PyData.bool (decide (r ≠ s) && isOver r s)) = (G.map fun s => decide (r ≠ s) && isOver r s).map .bool := by rw [List.map_map] <;> rfl
      rw [this, mAny_map, List.any_map] <;> rfl
    unfold dNot
    rw [h3] <;> rfl
  have e3 := dLc_of (vs := [2]) (it := iSeq (dVar 1)) (ρ := (rho0 4 [x]).set 1 (some (eF G))) (xs := G.map eR) (iSeq_tup rfl lenG) e2
  rw [dRet_of (d1_of e3)] <;> rfl
/-! ### what the least keep -/
def mu : Rw → Nat
  | [] => 0
  | p :: r => (p.2 + 1).toNat + mu r
theorem mu_le : ∀ (r s : Rw), (r.map (·.1)).Pairwise ltS → (s.map (·.1)).Pairwise ltS → (∀ p ∈ r, 0 ≤ p.2) → (∀ p ∈ s, 0 ≤ p.2) → (∀ p ∈ s, ∃ q ∈ r, q.1 = p.1 ∧ p.2 ≤ q.2) → mu s ≤ mu r ∧ (mu s = mu r → s = r)
  | [], s, _, _, _, _, h => by
    cases s with
    | nil => exact ⟨Nat.le_refl _, fun _ => rfl⟩
    | cons p s => obtain ⟨q, hq, _⟩ := h p List.mem_cons_self; exact nomatch hq
  | q :: r, [], _, _, hr, _, _ => by
    have := hr q List.mem_cons_self
    refine ⟨Nat.zero_le _, fun e => ?_⟩
    have e : 0 = (q.2 + 1).toNat + mu r := e
    omega
  | q :: r, p :: s, h1, h2, h3, h4, h => by
    rw [List.map_cons, List.pairwise_cons] at h1 h2
    have hq := h3 q List.mem_cons_self
    have hp := h4 p List.mem_cons_self
    by_cases e : p.1 = q.1
    · have rest : ∀ p' ∈ s, ∃ q' ∈ r, q'.1 = p'.1 ∧ p'.2 ≤ q'.2 := fun p' hp' => by
        obtain ⟨q', h5, h6, h7⟩ := h p' (List.mem_cons_of_mem _ hp')
        rcases List.mem_cons.mp h5 with z | z
        · exfalso
          have := h2.1 p'.1 (List.mem_map.mpr ⟨p', hp', rfl⟩)
          rw [z] at h6
          exact this.ne (e.trans h6)
        · exact ⟨q', z, h6, h7⟩
      obtain ⟨i1, i2⟩ := mu_le r s h1.2 h2.2 (fun x hx => h3 x (List.mem_cons_of_mem _ hx)) (fun x hx => h4 x (List.mem_cons_of_mem _ hx)) rest
      have hpq : p.2 ≤ q.2 := by
        obtain ⟨q', h5, h6, h7⟩ := h p List.mem_cons_self
        rcases List.mem_cons.mp h5 with z | z
        · rw [z] at h7; exact h7
        · exfalso
          have := h1.1 q'.1 (List.mem_map.mpr ⟨q', z, rfl⟩)
          exact this.ne (by rw [h6, e])
      refine ⟨?_, fun z => ?_⟩
      · show (p.2 + 1).toNat + mu s ≤ (q.2 + 1).toNat + mu r
        omega
      · have z : (p.2 + 1).toNat + mu s = (q.2 + 1).toNat + mu r := z
        have e2 : p.2 = q.2 := by omega
        rw [i2 (by omega), show p = q from Prod.ext e e2]
    · have all : ∀ p' ∈ p :: s, ∃ q' ∈ r, q'.1 = p'.1 ∧ p'.2 ≤ q'.2 := fun p' hp' => by
        obtain ⟨q', h5, h6, h7⟩ := h p' hp'
        rcases List.mem_cons.mp h5 with z | z
        · exfalso
          rw [z] at h6
          rcases List.mem_cons.mp hp' with y | y
          · rw [y] at h6; exact e h6.symm
          · have k1 := h2.1 p'.1 (List.mem_map.mpr ⟨p', y, rfl⟩)
            obtain ⟨q2, k2, k3, _⟩ := h p List.mem_cons_self
            rcases List.mem_cons.mp k2 with w | w
            · rw [w] at k3; exact e k3.symm
            · have k4 := h1.1 q2.1 (List.mem_map.mpr ⟨q2, w, rfl⟩)
              rw [k3, h6] at k4
              exact k1.asymm k4
        · exact ⟨q', z, h6, h7⟩
      obtain ⟨i1, i2⟩ := mu_le r (p :: s) h1.2 (by rw [List.map_cons, List.pairwise_cons]; exact h2) (fun x hx => h3 x (List.mem_cons_of_mem _ hx)) h4 all
      refine ⟨?_, fun z => ?_⟩
      · show _ ≤ (q.2 + 1).toNat + mu r
        omega
      · have z : mu (p :: s) = (q.2 + 1).toNat + mu r := z
        omega
theorem isOver_mu {r s : Rw} (hr : Can r) (hs : Can s) (h : isOver r s = true) (ne : r ≠ s) : mu s < mu r := by
  obtain ⟨h1, h2⟩ := mu_le r s hr.so hs.so hr.nn hs.nn fun p hp => by
    obtain ⟨q, e, h2⟩ := isOver_iff.mp h p hp
    exact ⟨(p.1, q), look_mem e, rfl, h2⟩
  rcases Nat.lt_or_ge (mu s) (mu r) with c | c
  · exact c
  · exact absurd (h2 (Nat.le_antisymm h1 c)).symm ne
theorem isOver_refl {r : Rw} (hr : Can r) : isOver r r = true := isOver_iff.mpr fun p hp => ⟨p.2, look_of hr.nodup hp, Int.le_refl _⟩
theorem isOver_trans {r s t : Rw} (h : isOver r s = true) (k : isOver s t = true) : isOver r t = true := isOver_iff.mpr fun p hp => by
  obtain ⟨q, e1, h1⟩ := isOver_iff.mp k p hp
  obtain ⟨q2, e2, h2⟩ := isOver_iff.mp h _ (look_mem e1)
  exact ⟨q2, e2, by have h2 : q ≤ q2 := h2; omega⟩
theorem leastOf_below {G : List Rw} (hc : ∀ r ∈ G, Can r) : ∀ (n : Nat) (r : Rw), mu r ≤ n → r ∈ G → ∃ g ∈ leastOf G, isOver r g = true := by
  intro n
  induction n with
  | zero =>
    intro r hn hr
    exfalso
    have := (hc r hr)
    cases r with
    | nil => exact this.ne rfl
    | cons p r =>
      have h := this.nn p List.mem_cons_self
      have hn : (p.2 + 1).toNat + mu r ≤ 0 := hn
      omega
  | succ n ih =>
    intro r hn hr
    cases e : G.any fun s => decide (r ≠ s) && isOver r s with
    | false => exact ⟨r, List.mem_filter.mpr ⟨hr, by rw [e] <;> rfl⟩, isOver_refl (hc r hr)⟩
    | true =>
      obtain ⟨s, hs, h⟩ := List.any_eq_true.mp e
      rw [Bool.and_eq_true, decide_eq_true_eq] at h
      have hm := isOver_mu (hc r hr) (hc s hs) h.2 h.1
      obtain ⟨g, hg, h2⟩ := ih s (by omega) hs
      exact ⟨g, hg, isOver_trans h.2 h2⟩
theorem rowBy_over {b : Sp2 → Option Int} {r s : Rw} {v : Int} (h : isOver r s = true) (k : RowBy b r v) : RowBy b s v := fun p hp => by
  obtain ⟨q, e, h2⟩ := isOver_iff.mp h p hp
  obtain ⟨t, h3, h4⟩ := k _ (look_mem e)
  exact ⟨t, h3, by have h4 : t + q ≤ v := h4; omega⟩
theorem fire_least {b : Sp2 → Option Int} {G F : List Rw} {v : Int} (hc : ∀ r ∈ F, Can r) (hG : ∀ r, r ∈ G ↔ r ∈ F) : FireBy b (leastOf G) v ↔ FireBy b F v := by
  constructor
  · rintro ⟨r, hr, h⟩
    exact ⟨r, (hG r).mp (List.mem_filter.mp hr).1, h⟩
  · rintro ⟨r, hr, h⟩
    obtain ⟨g, hg, h2⟩ := leastOf_below (fun s hs => hc s ((hG s).mp hs)) (mu r) r (Nat.le_refl _) ((hG r).mpr hr)
    exact ⟨g, hg, rowBy_over h2 h⟩
theorem least_can {G F : List Rw} (hc : ∀ r ∈ F, Can r) (hG : ∀ r, r ∈ G ↔ r ∈ F) : ∀ r ∈ leastOf G, Can r := fun r hr => hc r ((hG r).mp (List.mem_filter.mp hr).1)
theorem least_len (G : List Rw) : (leastOf G).length ≤ G.length := List.length_filter_le _ _
end SK
set_option maxHeartbeats 2000000
/-! The plain law: joining rows; either, both, after. -/
namespace SK
open PySem PySem.Spec PyProof.Rows L2
/-! ### tupled of forms -/
theorem fitsT_int (n : Nat) (i : Int) : fitsT n (.int i) = true := by
  cases n <;> rw [fitsT]
theorem fitsT_bool (n : Nat) (i : Bool) : fitsT n (.bool i) = true := by
  cases n <;> rw [fitsT]
theorem fitsT_none (n : Nat) : fitsT n .none = true := by
  cases n <;> rw [fitsT]
theorem fitsT_tup {n : Nat} {xs : List PyData} (h : xs.length ≤ 1000) (h2 : fitsTs n xs = true) : fitsT (n + 1) (.tuple xs) = true := by
  rw [fitsT, h2, Bool.and_true, decide_eq_true_eq]
  exact h
theorem fitsT_lst {n : Nat} {xs : List PyData} (h : xs.length ≤ 1000) (h2 : fitsTs n xs = true) : fitsT (n + 1) (.list xs) = true := by
  rw [fitsT, h2, Bool.and_true, decide_eq_true_eq]
  exact h
theorem fitsTs_nil (n : Nat) : fitsTs n [] = true := by rw [fitsTs]
theorem fitsTs_cons {n : Nat} {x : PyData} {xs : List PyData} (h : fitsT n x = true) (h2 : fitsTs n xs = true) : fitsTs n (x :: xs) = true := by
  rw [fitsTs, h, h2] <;> rfl
theorem fits_eP (n : Nat) (p : Sp2 × Int) : fitsT (n + 2) (eP p) = true :=
  fitsT_tup (Nat.le_of_ble_eq_true rfl) (fitsTs_cons (fitsT_tup (Nat.le_of_ble_eq_true rfl) (fitsTs_cons (fitsT_int _ _) (fitsTs_cons (fitsT_int _ _) (fitsTs_nil _)))) (fitsTs_cons (fitsT_int _ _) (fitsTs_nil _)))
theorem fitsTs_map {α : Type} {f : α → PyData} {n : Nat} (h : ∀ x, fitsT n (f x) = true) : ∀ xs : List α, fitsTs n (xs.map f) = true
  | [] => by simp [fitsTs]
  | x :: xs => by rw [List.map_cons, fitsTs, h x, fitsTs_map h xs] <;> rfl
theorem fitsTs_mapM {α : Type} {f : α → PyData} {n : Nat} : ∀ xs : List α, (∀ x ∈ xs, fitsT n (f x) = true) → fitsTs n (xs.map f) = true
  | [], _ => by simp [fitsTs]
  | x :: xs, h => by rw [List.map_cons, fitsTs, h x List.mem_cons_self, fitsTs_mapM xs fun y hy => h y (List.mem_cons_of_mem _ hy)] <;> rfl
theorem fits_eR (n : Nat) {r : Rw} (h : r.length ≤ 1000) : fitsT (n + 3) (eR r) = true := by
  unfold eR
  rw [fitsT, fitsTs_map (fits_eP n), List.length_map, Bool.and_true, decide_eq_true_eq]
  exact h
theorem fits_eF (n : Nat) {F : List Rw} (h : F.length ≤ 1000) (hr : ∀ r ∈ F, r.length ≤ 1000) : fitsT (n + 4) (eF F) = true := by
  unfold eF
  rw [fitsT, fitsTs_mapM F (fun r h => fits_eR n (hr r h)), List.length_map, Bool.and_true, decide_eq_true_eq]
  exact h
theorem tup_eP (p : Sp2 × Int) : tupD (eP p) = eP p := rfl
theorem tupDs_id {α : Type} {f : α → PyData} (h : ∀ x, tupD (f x) = f x) (xs : List α) : tupDs (xs.map f) = xs.map f := by
  rw [tupDs_map, List.map_map]
  exact List.map_congr_left fun x _ => h x
theorem tup_eR (r : Rw) : tupD (eR r) = eR r := by
  unfold eR
  rw [tupD, tupDs_id tup_eP]
theorem tup_eF (F : List Rw) : tupD (eF F) = eF F := by
  unfold eF
  rw [tupD, tupDs_id tup_eR]
theorem m_tupled_eF {F : List Rw} (h : F.length ≤ 1000) (hr : ∀ r ∈ F, r.length ≤ 1000) : m_tupled [eF F] = some (eF F) := by
  rw [m_tupled_eq (fits_eF 5 h hr), tup_eF]
/-! ### joined -/
def putT (d : Rw) (s : Sp2) (v : Int) : Rw := if (d.any fun p => decide (p.1 = s)) = true then d.map (fun p => if p.1 = s then (p.1, v) else p) else d ++ [(s, v)]
theorem putE_enc (d : Rw) (s : Sp2) (v : Int) : putE (d.map eEnt) (kS s) (.int v) = (putT d s v).map eEnt := by
  have ha : ((d.map eEnt).any fun e => decide (unKey e.1 = some (kS s))) = (d.any fun p => decide (p.1 = s)) := by
    rw [List.any_map]
    congr 1
    funext p
    show decide (unKey (eS p.1) = some (kS s)) = decide (p.1 = s)
    rw [decide_eq_decide]
    exact unKey_iffS p.1 s
  unfold putE putT
  rw [ha]
  by_cases c : (d.any fun p => decide (p.1 = s)) = true
  · rw [if_pos c, if_pos c, List.map_map, List.map_map]
    refine List.map_congr_left fun p _ => ?_
    show (if unKey (eS p.1) = some (kS s) then (eS p.1, PyData.int v) else eEnt p) = eEnt (if p.1 = s then (p.1, v) else p)
    by_cases e : p.1 = s
    · rw [if_pos e, if_pos ((unKey_iffS p.1 s).mpr e)] <;> rfl
    · rw [if_neg e, if_neg fun z => e ((unKey_iffS p.1 s).mp z)]
  · rw [if_neg c, if_neg c, List.map_append] <;> rfl
def joinT (r s : Rw) : Rw := s.foldl (fun d p => putT d p.1 (max p.2 ((look d p.1).getD 0))) r
theorem putT_keys (d : Rw) (s : Sp2) (v : Int) (hn : (d.map (·.1)).Nodup) : ((putT d s v).map (·.1)).Nodup ∧ (putT d s v).length ≤ d.length + 1 := by
  unfold putT
  by_cases c : (d.any fun p => decide (p.1 = s)) = true
  · rw [if_pos c, List.map_map, List.length_map]
    have : (d.map ((·.1) ∘ fun p => if p.1 = s then (p.1, v) else p)) = d.map (·.1) := List.map_congr_left fun p _ => by
      show (if p.1 = s then (p.1, v) else p).1 = p.1
      split <;> rfl
    rw [this]
    exact ⟨hn, by omega⟩
  · rw [if_neg c, List.map_append, List.length_append]
    refine ⟨List.nodup_append.mpr ⟨hn, by simp, fun a ha b hb e => ?_⟩, Nat.le_refl _⟩
    obtain ⟨p, hp, rfl⟩ := List.mem_map.mp ha
    have hb : b = s := by simpa using hb
    exact c (List.any_eq_true.mpr ⟨p, hp, by rw [e, hb]; simp⟩)
theorem putT_rowBy {b : Sp2 → Option Int} {d : Rw} {s : Sp2} {q v : Int} (hn : (d.map (·.1)).Nodup) (hd : ∀ p ∈ d, 0 ≤ p.2) (hq : 0 ≤ q) :
    RowBy b (putT d s (max q ((look d s).getD 0))) v ↔ RowBy b d v ∧ ∃ t, b s = some t ∧ t + q ≤ v := by
  unfold putT
  by_cases c : (d.any fun p => decide (p.1 = s)) = true
  · rw [if_pos c]
    obtain ⟨p0, hp0, e0⟩ := List.any_eq_true.mp c
    have e0 : p0.1 = s := by simpa using e0
    have lk : look d s = some p0.2 := by rw [← e0]; exact look_of hn hp0
    rw [lk]
    constructor
    · intro h
      have h0 := h (p0.1, max q p0.2) (List.mem_map.mpr ⟨p0, hp0, by rw [if_pos e0] <;> rfl⟩)
      obtain ⟨t, h1, h2⟩ := h0
      have h1 : b p0.1 = some t := h1
      have h2 : t + max q p0.2 ≤ v := h2
      refine ⟨fun p hp => ?_, t, by rw [← e0]; exact h1, by omega⟩
      by_cases e : p.1 = s
      · have : p.2 = p0.2 := by
          have h3 := look_of hn hp
          rw [e, lk] at h3
          exact (Option.some.inj h3).symm
        exact ⟨t, by rw [e, ← e0]; exact h1, by omega⟩
      · obtain ⟨t', h3, h4⟩ := h p (List.mem_map.mpr ⟨p, hp, if_neg e⟩)
        exact ⟨t', h3, h4⟩
    · rintro ⟨h, t, h1, h2⟩ p' hp'
      obtain ⟨p, hp, rfl⟩ := List.mem_map.mp hp'
      by_cases e : p.1 = s
      · rw [if_pos e]
        obtain ⟨t', h3, h4⟩ := h p0 hp0
        rw [e0, h1] at h3
        cases h3
        exact ⟨t, by rw [e]; exact h1, by show t + max q p0.2 ≤ v; omega⟩
      · rw [if_neg e]; exact h p hp
  · rw [if_neg c]
    have lk : look d s = none := look_none.mpr fun p hp e => c (List.any_eq_true.mpr ⟨p, hp, by simpa using e⟩)
    rw [lk]
    have hm : max q ((none : Option Int).getD 0) = q := by show max q 0 = q; omega
    rw [hm]
    constructor
    · intro h
      refine ⟨fun p hp => h p (List.mem_append_left _ hp), ?_⟩
      obtain ⟨t, h1, h2⟩ := h (s, q) (List.mem_append_right _ List.mem_cons_self)
      exact ⟨t, h1, h2⟩
    · rintro ⟨h, t, h1, h2⟩ p hp
      rcases List.mem_append.mp hp with z | z
      · exact h p z
      · rw [List.mem_singleton.mp z]; exact ⟨t, h1, h2⟩
theorem putT_nn {d : Rw} {s : Sp2} {v : Int} (hd : ∀ p ∈ d, 0 ≤ p.2) (hv : 0 ≤ v) : ∀ p ∈ putT d s v, 0 ≤ p.2 := by
  intro p hp
  unfold putT at hp
  split at hp
  · obtain ⟨p', hp', rfl⟩ := List.mem_map.mp hp
    by_cases e : p'.1 = s
    · rw [if_pos e]; exact hv
    · rw [if_neg e]; exact hd _ hp'
  · rcases List.mem_append.mp hp with z | z
    · exact hd p z
    · rw [List.mem_singleton.mp z]; exact hv
theorem joinT_spec : ∀ (s r : Rw), (r.map (·.1)).Nodup → (∀ p ∈ r, 0 ≤ p.2) → (∀ p ∈ s, 0 ≤ p.2) →
    ((joinT r s).map (·.1)).Nodup ∧ (∀ p ∈ joinT r s, 0 ≤ p.2) ∧ (joinT r s).length ≤ r.length + s.length ∧ r.length ≤ (joinT r s).length ∧ ∀ (b : Sp2 → Option Int) (v : Int), RowBy b (joinT r s) v ↔ RowBy b r v ∧ RowBy b s v
  | [], r, h1, h2, _ => ⟨h1, h2, by show r.length ≤ r.length + 0; omega, Nat.le_refl _, fun b v => ⟨fun z => ⟨z, fun p hp => nomatch hp⟩, fun z => z.1⟩⟩
  | p :: s, r, h1, h2, h3 => by
    have hp := h3 p List.mem_cons_self
    obtain ⟨k1, k2⟩ := putT_keys r p.1 (max p.2 ((look r p.1).getD 0)) h1
    have k3 : ∀ q ∈ putT r p.1 (max p.2 ((look r p.1).getD 0)), 0 ≤ q.2 := putT_nn h2 (by omega)
    obtain ⟨i1, i2, i3, i5, i4⟩ := joinT_spec s _ k1 k3 fun q hq => h3 q (List.mem_cons_of_mem _ hq)
    have k4 : r.length ≤ (putT r p.1 (max p.2 ((look r p.1).getD 0))).length := by
      unfold putT
      split
      · rw [List.length_map]; exact Nat.le_refl _
      · rw [List.length_append]; omega
    refine ⟨i1, i2, ?_, Nat.le_trans k4 i5, fun b v => (i4 b v).trans ?_⟩
    · have i3 : (joinT r (p :: s)).length ≤ _ := i3
      rw [List.length_cons]
      omega
    · rw [putT_rowBy h1 h2 hp]
      constructor
      · rintro ⟨⟨a1, a2⟩, a3⟩
        refine ⟨a1, fun q hq => ?_⟩
        rcases List.mem_cons.mp hq with e | hq
        · rw [e]; exact a2
        · exact a3 q hq
      · rintro ⟨a1, a2⟩
        exact ⟨⟨a1, a2 p List.mem_cons_self⟩, fun q hq => a2 q (List.mem_cons_of_mem _ hq)⟩
/-! ### sorted by spots -/
theorem leD_spots {p q : Sp2 × Int} (h : leD (eP p) (eP q) = true) (ne : p.1 ≠ q.1) : ltS p.1 q.1 := by
  have e1 : leD (eP p) (eP q) = !PySem.W.dataLt (eP q) (eP p) := rfl
  have al : PySem.W.alike (eS q.1) (eS p.1) = true := rfl
  have e2 : PySem.W.dataLt (eP q) (eP p) = if PyData.eqv (eS q.1) (eS p.1) = true then (if PyData.eqv (.int q.2) (.int p.2) = true then false else PySem.W.dataLt (.int q.2) (.int p.2)) else PySem.W.dataLt (eS q.1) (eS p.1) := PySem.W.dataLt_pair al rfl
  have ne2 : ¬ PyData.eqv (eS q.1) (eS p.1) = true := fun z => by
    have := eqv_key (eS q.1) (eS p.1) rfl rfl z
    obtain ⟨⟨a, b⟩, c⟩ := p
    obtain ⟨⟨a', b'⟩, c'⟩ := q
    simp only [eS, PyData.tuple.injEq, List.cons.injEq, PyData.int.injEq, and_true] at this
    exact ne (by show (a, b) = (a', b'); rw [this.1, this.2])
  have e3 : PySem.W.dataLt (eS q.1) (eS p.1) = decide (q.1.1 < p.1.1 ∨ (q.1.1 = p.1.1 ∧ q.1.2 < p.1.2)) := PySem.W.dataLt_ii _ _ _ _
  rw [e1, e2, if_neg ne2, e3] at h
  have h2 : ¬ ltS q.1 p.1 := by
    intro z
    have : decide (q.1.1 < p.1.1 ∨ (q.1.1 = p.1.1 ∧ q.1.2 < p.1.2)) = true := decide_eq_true z
    rw [this] at h
    cases h
  rcases ltS.tri p.1 q.1 with z | z | z
  · exact z
  · exact absurd z ne
  · exact absurd z h2
theorem sortOk_pairs {d : Rw} (hl : d.length ≤ 1000) : SortOk (d.map eP) := by
  refine ⟨fun x hx y hy => ?_, .inl fun x hx => ?_, by rw [List.length_map]; exact hl, fun x hx => ?_⟩
  · obtain ⟨p, _, rfl⟩ := List.mem_map.mp hx
    obtain ⟨q, _, rfl⟩ := List.mem_map.mp hy
    rfl
  · obtain ⟨p, _, rfl⟩ := List.mem_map.mp hx
    exact ⟨eS p.1, [.int p.2], rfl⟩
  · obtain ⟨p, _, rfl⟩ := List.mem_map.mp hx
    refine ⟨?_, rfl⟩
    have e : PyData.depth (eP p) = 2 := by simp [eP, eS, PyData.depth, PyData.depthAll]
    omega
theorem sort_pairs {d : Rw} (hn : (d.map (·.1)).Nodup) : ∃ d' : Rw, (d.map eP).mergeSort leD = d'.map eP ∧ d'.Perm d ∧ (d'.map (·.1)).Pairwise ltS := by
  have e : (d.mergeSort (PySem.W.dataLe false eP)).map eP = (d.map eP).mergeSort leD := PySem.W.sort_maps eP fun _ _ _ _ => rfl
  have pm : (d.mergeSort (PySem.W.dataLe false eP)).Perm d := List.mergeSort_perm _ _
  refine ⟨_, e.symm, pm, ?_⟩
  have so := leD_sorted (d.map eP)
  rw [← e, List.pairwise_map] at so
  have nd : ((d.mergeSort (PySem.W.dataLe false eP)).map (·.1)).Nodup := (pm.map (·.1)).nodup_iff.mpr hn
  rw [List.pairwise_map]
  have nd2 : (d.mergeSort (PySem.W.dataLe false eP)).Pairwise fun p q => p.1 ≠ q.1 := List.pairwise_map.mp nd
  exact (so.and nd2).imp fun h => leD_spots h.1 h.2
theorem rowBy_perm {b : Sp2 → Option Int} {r s : Rw} {v : Int} (h : r.Perm s) : RowBy b r v ↔ RowBy b s v := ⟨fun k p hp => k p (h.mem_iff.mpr hp), fun k p hp => k p (h.mem_iff.mp hp)⟩
theorem pairsD_enc : ∀ d : Rw, pairsD (d.map eEnt) = d.map eP
  | [] => rfl
  | p :: d => by rw [List.map_cons, List.map_cons, pairsD, pairsD_enc d] <;> rfl
theorem keysOk_enc : ∀ d : Rw, keysOkE (d.map eEnt) = true
  | [] => rfl
  | p :: d => by rw [List.map_cons, keysOkE, keysOk_enc d] <;> rfl
theorem m_joined_eq {r s : Rw} (hr : Can r) (hs : Can s) (hl : r.length + s.length ≤ 60) : ∃ j, m_joined [eR r, eR s] = some (eR j) ∧ Can j ∧ j.length ≤ r.length + s.length ∧ ∀ b v, RowBy b j v ↔ RowBy b r v ∧ RowBy b s v := by
  obtain ⟨j1, j2, j3, j5, j4⟩ := joinT_spec s r hr.nodup hr.nn hs.nn
  obtain ⟨d', s1, s2, s3⟩ := sort_pairs j1
  refine ⟨d', ?_, ⟨s3, fun p hp => j2 p (s2.mem_iff.mp hp), fun e => ?_, by rw [s2.length_eq]; omega⟩, by rw [s2.length_eq]; exact j3, fun b v => (rowBy_perm s2).trans (j4 b v)⟩
  · -- the walk
    have key : ∀ (s' d : Rw) (u v : Option PyData), d.length + s'.length ≤ 900 → ∃ u' v', forL (gO 2 (bTup [bName 3, bName 4])) (dPut 2 (dVar 3) (d2 mMax (dVar 4) (dGet2 (dVar 2) (dVar 3) (dC (.int 0))))) (s'.map eP) [some (eR r), some (eR s), some (eDict d), u, v] =
        some (.nx [some (eR r), some (eR s), some (eDict (joinT d s')), u', v']) := by
      intro s'
      induction s' with
      | nil => intro d u v _; exact ⟨u, v, rfl⟩
      | cons p s' ih =>
        intro d u v hl
        rw [List.length_cons] at hl
        have hk : (putT d p.1 (max p.2 ((look d p.1).getD 0))).length ≤ d.length + 1 := by
          unfold putT
          split
          · rw [List.length_map]; omega
          · rw [List.length_append]; exact Nat.le_refl _
        obtain ⟨u', v', e⟩ := ih (putT d p.1 (max p.2 ((look d p.1).getD 0))) (some (eS p.1)) (some (.int p.2)) (by omega)
        refine ⟨u', v', ?_⟩
        rw [List.map_cons]
        show ((dPut 2 (dVar 3) (d2 mMax (dVar 4) (dGet2 (dVar 2) (dVar 3) (dC (.int 0))))) [some (eR r), some (eR s), some (eDict d), some (eS p.1), some (.int p.2)]).bind _ = _
        have h1 : dGet2 (dVar 2) (dVar 3) (dC (.int 0)) [some (eR r), some (eR s), some (eDict d), some (eS p.1), some (.int p.2)] = some (.int ((look d p.1).getD 0)) := by
          show some ((getE (d.map eEnt) (kS p.1)).getD (.int 0)) = _
          rw [getE_ent]
          cases look d p.1 <;> rfl
        have h2 : d2 mMax (dVar 4) (dGet2 (dVar 2) (dVar 3) (dC (.int 0))) [some (eR r), some (eR s), some (eDict d), some (eS p.1), some (.int p.2)] = some (.int (max p.2 ((look d p.1).getD 0))) := by
          rw [d2_of (x := .int p.2) rfl h1] <;> rfl
        have h3 : dPut 2 (dVar 3) (d2 mMax (dVar 4) (dGet2 (dVar 2) (dVar 3) (dC (.int 0)))) [some (eR r), some (eR s), some (eDict d), some (eS p.1), some (.int p.2)] =
            some (.nx [some (eR r), some (eR s), some (eDict (putT d p.1 (max p.2 ((look d p.1).getD 0)))), some (eS p.1), some (.int p.2)]) := by
          unfold dPut
          rw [h2]
          show (if (d.map eEnt).length < 1000 then some (Out.nx [some (eR r), some (eR s), some (.dict (putE (d.map eEnt) (kS p.1) (.int (max p.2 ((look d p.1).getD 0))))), some (eS p.1), some (.int p.2)]) else none) = _
          rw [if_pos (by rw [List.length_map]; omega), putE_enc] <;> rfl
        rw [h3]
        exact e
    obtain ⟨u', v', e⟩ := key s r none none (by omega)
    show ((dSeq (dOwn 2 (d1 mDict (dVar 0)) (dForO 2 (iSeq (dVar 1)) (bTup [bName 3, bName 4]) (dPut 2 (dVar 3) (d2 mMax (dVar 4) (dGet2 (dVar 2) (dVar 3) (dC (.int 0))))))) (dRet (d1 mTuple (d1 mSorted (dItems (dVar 2)))))) (rho0 5 [eR r, eR s])).bind endD = _
    have e1 : d1 mDict (dVar 0) (rho0 5 [eR r, eR s]) = some (eDict r) := by
      rw [d1_of (x := eR r) rfl, mDict_enc hr.nodup (by omega)]
    have e2 : dOwn 2 (d1 mDict (dVar 0)) (dForO 2 (iSeq (dVar 1)) (bTup [bName 3, bName 4]) (dPut 2 (dVar 3) (d2 mMax (dVar 4) (dGet2 (dVar 2) (dVar 3) (dC (.int 0)))))) (rho0 5 [eR r, eR s]) = some (.nx [some (eR r), some (eR s), some (eDict (joinT r s)), u', v']) := by
      unfold dOwn
      rw [e1]
      show (dForO 2 (iSeq (dVar 1)) (bTup [bName 3, bName 4]) (dPut 2 (dVar 3) (d2 mMax (dVar 4) (dGet2 (dVar 2) (dVar 3) (dC (.int 0)))))) [some (eR r), some (eR s), some (eDict r), none, none] = _
      unfold dForO
      rw [iSeq_tup (xs := s.map eP) rfl (by rw [List.length_map]; omega)]
      exact e
    rw [dSeq_nx e2]
    have e3 : dItems (dVar 2) [some (eR r), some (eR s), some (eDict (joinT r s)), u', v'] = some (.list ((joinT r s).map eP)) := by
      show (if keysOkE ((joinT r s).map eEnt) = true then some (PyData.list (pairsD ((joinT r s).map eEnt))) else none) = _
      rw [if_pos (keysOk_enc _), pairsD_enc]
    have e4 : d1 mSorted (dItems (dVar 2)) [some (eR r), some (eR s), some (eDict (joinT r s)), u', v'] = some (.list (d'.map eP)) := by
      rw [d1_of e3, mSorted_ok (sortOk_pairs (by omega)), s1]
    rw [dRet_of (d1_of e4)] <;> rfl
  · have h := s2.length_eq
    rw [e] at h
    have := hr.ne
    cases r with
    | nil => exact this rfl
    | cons p r =>
      rw [List.length_cons] at j5
      rw [List.length_nil] at h
      omega
end SK
set_option maxHeartbeats 2000000
/-! The plain law: either, both, after, without. -/
namespace SK
open PySem PySem.Spec PyProof.Rows L2
theorem Can.le {r : Rw} (h : Can r) : r.length ≤ 1000 := Nat.le_trans h.len (by decide)
theorem tupd_call {F : List Rw} (h : F.length ≤ 1000) (hc : ∀ r ∈ F, Can r) {i : Nat} {ρ : Rho} (hv : dVar i ρ = some (eF F)) : dCall 1 m_tupled (dCons (dVar i) dNil) ρ = some (eF F) := by
  rw [dCall1_of hv, m_tupled_eF h fun r hr => (hc r hr).le]
theorem cons_of {d : DE} {r : DA} {ρ : Rho} {x : PyData} {xs : List PyData} (h : d ρ = some x) (h2 : r ρ = some xs) : dCons d r ρ = some (x :: xs) := by
  unfold dCons
  rw [h, h2] <;> rfl
theorem nil_of (ρ : Rho) : dNil ρ = some [] := rfl
theorem dTup_of {d : DA} {ρ : Rho} {xs : List PyData} (h : d ρ = some xs) : dTup d ρ = some (.tuple xs) := by
  unfold dTup
  rw [h] <;> rfl
theorem dLst_of {d : DA} {ρ : Rho} {xs : List PyData} (h : d ρ = some xs) : dLst d ρ = some (.list xs) := by
  unfold dLst
  rw [h] <;> rfl
theorem dPar_of {i j : Nat} {d : DA} {ρ : Rho} {x y : PyData} (h : d ρ = some [x, y]) : dPar i j d ρ = some (.nx ((ρ.set i (some x)).set j (some y))) := by
  unfold dPar
  rw [h] <;> rfl
/-- a form: canonical rows, not too many -/
structure Fm (n : Nat) (F : List Rw) : Prop where
  len : F.length ≤ n
  can : ∀ r ∈ F, Can r
theorem mLen_tup (xs : List PyData) : mLen [.tuple xs] = some (.int xs.length) := rfl
theorem m_either_eq {F G : List Rw} {n m : Nat} (hF : Fm n F) (hG : Fm m G) (hl : n + m ≤ 60) : ∃ E, m_either [eF F, eF G] = some (eF E) ∧ Fm (n + m) E ∧ ∀ b v, FireBy b E v ↔ FireBy b F v ∨ FireBy b G v := by
  have hF1 := hF.len
  have hG1 := hG.len
  have hc : ∀ r ∈ F ++ G, Can r := fun r hr => (List.mem_append.mp hr).elim (hF.can r) (hG.can r)
  have hlen : (F ++ G).length = F.length + G.length := List.length_append
  obtain ⟨E, e1, e2, e3⟩ := m_least_of_eq (x := eF (F ++ G)) (.inr rfl) (by omega) hc
  refine ⟨leastOf E, ?_, ⟨Nat.le_trans (least_len E) (by omega), least_can hc e1⟩, fun b v => (fire_least hc e1).trans ?_⟩
  · have t1 : dCall 1 m_tupled (dCons (dVar 0) dNil) (rho0 4 [eF F, eF G]) = some (eF F) := tupd_call (by omega) hF.can rfl
    have t2 : dCall 1 m_tupled (dCons (dVar 1) dNil) (rho0 4 [eF F, eF G]) = some (eF G) := tupd_call (by omega) hG.can rfl
    show (s_either (rho0 4 [eF F, eF G])).bind endD = _
    unfold s_either
    have p1 : dPar 2 3 (dCons (dCall 1 m_tupled (dCons (dVar 0) dNil)) (dCons (dCall 1 m_tupled (dCons (dVar 1) dNil)) dNil)) (rho0 4 [eF F, eF G]) = some (.nx [some (eF F), some (eF G), some (eF F), some (eF G)]) := dPar_of (cons_of t1 (cons_of t2 (nil_of _)))
    rw [dSeq_nx p1]
    have c1 : dOp bGt (dOp bPlus (d1 mLen (dVar 2)) (d1 mLen (dVar 3))) (dC (.int 400)) [some (eF F), some (eF G), some (eF F), some (eF G)] = some (.bool false) := by
      have l1 : d1 mLen (dVar 2) [some (eF F), some (eF G), some (eF F), some (eF G)] = some (.int F.length) := by
        rw [d1_of (x := eF F) rfl]
        show some (PyData.int ((F.map eR).length : Nat)) = _
        rw [List.length_map]
      have l2 : d1 mLen (dVar 3) [some (eF F), some (eF G), some (eF F), some (eF G)] = some (.int G.length) := by
        rw [d1_of (x := eF G) rfl]
        show some (PyData.int ((G.map eR).length : Nat)) = _
        rw [List.length_map]
      rw [dOp_of (dOp_of l1 l2) (y := .int 400) rfl]
      show some (PyData.bool (decide ((400 : Int) < (F.length : Int) + (G.length : Int)))) = _
      rw [decide_eq_false (by omega)]
    have c2 : dIfS (dOp bGt (dOp bPlus (d1 mLen (dVar 2)) (d1 mLen (dVar 3))) (dC (.int 400))) dNever dNext [some (eF F), some (eF G), some (eF F), some (eF G)] = some (.nx [some (eF F), some (eF G), some (eF F), some (eF G)]) := by
      rw [dIfS_f c1] <;> rfl
    rw [dSeq_nx c2]
    have c3 : dOp bPlus (dVar 2) (dVar 3) [some (eF F), some (eF G), some (eF F), some (eF G)] = some (eF (F ++ G)) := by
      have k : dOp bPlus (dVar 2) (dVar 3) [some (eF F), some (eF G), some (eF F), some (eF G)] = if (F.map eR).length + (G.map eR).length ≤ 1000 then some (PyData.tuple (F.map eR ++ G.map eR)) else none := rfl
      rw [k, if_pos (by rw [List.length_map, List.length_map]; omega)]
      unfold eF
      rw [List.map_append]
    rw [dRet_of (by rw [dCall1_of c3, e3])] <;> rfl
  · constructor
    · rintro ⟨r, hr, h⟩
      rcases List.mem_append.mp hr with z | z
      · exact .inl ⟨r, z, h⟩
      · exact .inr ⟨r, z, h⟩
    · rintro (⟨r, hr, h⟩ | ⟨r, hr, h⟩)
      · exact ⟨r, List.mem_append_left _ hr, h⟩
      · exact ⟨r, List.mem_append_right _ hr, h⟩
/-! ### both -/
theorem both_list {G : List Rw} (r : Rw) (hr : Can r) (hG : ∀ s ∈ G, Can s) (hl : ∀ s ∈ G, r.length + s.length ≤ 60) (ρ : Rho) (h4 : dVar 4 ρ = some (eR r)) (hx : ∀ s, dVar 4 (ρ.set 5 (some (eR s))) = some (eR r) ∧ dVar 5 (ρ.set 5 (some (eR s))) = some (eR s)) :
    ∃ J : List Rw, lcL (bName 5) dYes (dCall 2 m_joined (dCons (dVar 4) (dCons (dVar 5) dNil))) ρ (G.map eR) = some (J.map eR) ∧ J.length = G.length ∧ (∀ j ∈ J, Can j ∧ ∃ s ∈ G, j.length ≤ r.length + s.length) ∧ ∀ b v, FireBy b J v ↔ RowBy b r v ∧ FireBy b G v := by
  induction G with
  | nil => exact ⟨[], rfl, rfl, fun j hj => (nomatch hj), fun b v => ⟨fun ⟨j, hj, _⟩ => (nomatch hj), fun ⟨_, j, hj, _⟩ => (nomatch hj)⟩⟩
  | cons s G ih =>
    obtain ⟨J, j1, j2, j3, j4⟩ := ih (fun t ht => hG t (List.mem_cons_of_mem _ ht)) fun t ht => hl t (List.mem_cons_of_mem _ ht)
    obtain ⟨j, k1, k2, k3, k4⟩ := m_joined_eq hr (hG s List.mem_cons_self) (hl s List.mem_cons_self)
    refine ⟨j :: J, ?_, by rw [List.length_cons, List.length_cons, j2], ?_, fun b v => ⟨?_, ?_⟩⟩
    · rw [List.map_cons, List.map_cons]
      show ((dCall 2 m_joined (dCons (dVar 4) (dCons (dVar 5) dNil)) (ρ.set 5 (some (eR s)))).bind fun y => (lcL (bName 5) dYes (dCall 2 m_joined (dCons (dVar 4) (dCons (dVar 5) dNil))) ρ (G.map eR)).bind fun ys => some (y :: ys)) = _
      rw [dCall2_of (hx s).1 (hx s).2, k1, j1] <;> rfl
    · intro j' hj'
      rcases List.mem_cons.mp hj' with e | z
      · rw [e]; exact ⟨k2, s, List.mem_cons_self, k3⟩
      · obtain ⟨a, t, ht, a2⟩ := j3 j' z
        exact ⟨a, t, List.mem_cons_of_mem _ ht, a2⟩
    · rintro ⟨j', hj', h⟩
      rcases List.mem_cons.mp hj' with e | z
      · rw [e] at h
        have := (k4 b v).mp h
        exact ⟨this.1, s, List.mem_cons_self, this.2⟩
      · have := (j4 b v).mp ⟨j', z, h⟩
        obtain ⟨a, t, ht, a2⟩ := this
        exact ⟨a, t, List.mem_cons_of_mem _ ht, a2⟩
    · rintro ⟨a, t, ht, a2⟩
      rcases List.mem_cons.mp ht with e | z
      · rw [e] at a2
        exact ⟨j, List.mem_cons_self, (k4 b v).mpr ⟨a, a2⟩⟩
      · obtain ⟨j', hj', h⟩ := (j4 b v).mpr ⟨a, t, z, a2⟩
        exact ⟨j', List.mem_cons_of_mem _ hj', h⟩
theorem m_both_eq {F G : List Rw} {n m p q : Nat} (hF : Fm n F) (hG : Fm m G) (hp : ∀ r ∈ F, r.length ≤ p) (hq : ∀ r ∈ G, r.length ≤ q) (hl : n * m ≤ 60) (hm : m ≤ 60) (hn : n ≤ 60) (hpq : p + q ≤ 60) : ∃ E, m_both [eF F, eF G] = some (eF E) ∧ Fm (n * m) E ∧ (∀ r ∈ E, r.length ≤ p + q) ∧ ∀ b v, FireBy b E v ↔ FireBy b F v ∧ FireBy b G v := by
  have hF1 := hF.len
  have hG1 := hG.len
  have hmul : F.length * G.length ≤ n * m := Nat.mul_le_mul hF1 hG1
  have lists : ∃ J : List Rw, lc2L (bName 4) dYes (iSeq (dVar 3)) [5] (bName 5) dYes (dCall 2 m_joined (dCons (dVar 4) (dCons (dVar 5) dNil))) [some (eF F), some (eF G), some (eF F), some (eF G), none, none] (F.map eR) = some (J.map eR) ∧ J.length = F.length * G.length ∧ (∀ j ∈ J, Can j ∧ j.length ≤ p + q) ∧ ∀ b v, FireBy b J v ↔ FireBy b F v ∧ FireBy b G v := by
    have key : ∀ F' : List Rw, (∀ r ∈ F', Can r ∧ r.length ≤ p) → ∃ J : List Rw, lc2L (bName 4) dYes (iSeq (dVar 3)) [5] (bName 5) dYes (dCall 2 m_joined (dCons (dVar 4) (dCons (dVar 5) dNil))) [some (eF F), some (eF G), some (eF F), some (eF G), none, none] (F'.map eR) = some (J.map eR) ∧ J.length = F'.length * G.length ∧ (∀ j ∈ J, Can j ∧ j.length ≤ p + q) ∧ ∀ b v, FireBy b J v ↔ FireBy b F' v ∧ FireBy b G v := by
      intro F'
      induction F' with
      | nil => exact fun _ => ⟨[], rfl, (Nat.zero_mul _).symm, fun j hj => (nomatch hj), fun b v => ⟨fun ⟨j, hj, _⟩ => (nomatch hj), fun ⟨⟨j, hj, _⟩, _⟩ => (nomatch hj)⟩⟩
      | cons r F' ih =>
        intro hc
        obtain ⟨J, j1, j2, j3, j4⟩ := ih fun r hr => hc r (List.mem_cons_of_mem _ hr)
        obtain ⟨hr, hrp⟩ := hc r List.mem_cons_self
        obtain ⟨I, i1, i2, i3, i4⟩ := both_list (G := G) r hr hG.can (fun s hs => by have := hq s hs; omega) [some (eF F), some (eF G), some (eF F), some (eF G), some (eR r), none] rfl (fun s => ⟨rfl, rfl⟩)
        refine ⟨I ++ J, ?_, by rw [List.length_append, i2, j2, List.length_cons, Nat.succ_mul, Nat.add_comm], ?_, fun b v => ⟨?_, ?_⟩⟩
        · rw [List.map_cons, List.map_append]
          show ((iSeq (dVar 3) [some (eF F), some (eF G), some (eF F), some (eF G), some (eR r), none]).bind fun ys => (lcL (bName 5) dYes (dCall 2 m_joined (dCons (dVar 4) (dCons (dVar 5) dNil))) [some (eF F), some (eF G), some (eF F), some (eF G), some (eR r), none] ys).bind fun zs => if zs.length ≤ 1000 then (lc2L (bName 4) dYes (iSeq (dVar 3)) [5] (bName 5) dYes (dCall 2 m_joined (dCons (dVar 4) (dCons (dVar 5) dNil))) [some (eF F), some (eF G), some (eF F), some (eF G), none, none] (F'.map eR)).bind fun r => some (zs ++ r) else none) = _
          rw [iSeq_tup (xs := G.map eR) rfl (by rw [List.length_map]; omega)]
          show ((lcL (bName 5) dYes (dCall 2 m_joined (dCons (dVar 4) (dCons (dVar 5) dNil))) [some (eF F), some (eF G), some (eF F), some (eF G), some (eR r), none] (G.map eR)).bind fun zs => if zs.length ≤ 1000 then (lc2L (bName 4) dYes (iSeq (dVar 3)) [5] (bName 5) dYes (dCall 2 m_joined (dCons (dVar 4) (dCons (dVar 5) dNil))) [some (eF F), some (eF G), some (eF F), some (eF G), none, none] (F'.map eR)).bind fun r => some (zs ++ r) else none) = _
          rw [i1]
          show (if (I.map eR).length ≤ 1000 then (lc2L (bName 4) dYes (iSeq (dVar 3)) [5] (bName 5) dYes (dCall 2 m_joined (dCons (dVar 4) (dCons (dVar 5) dNil))) [some (eF F), some (eF G), some (eF F), some (eF G), none, none] (F'.map eR)).bind fun r => some (I.map eR ++ r) else none) = _
          rw [if_pos (by rw [List.length_map]; omega), j1] <;> rfl
        · intro j hj
          rcases List.mem_append.mp hj with z | z
          · obtain ⟨a, s, hs, a2⟩ := i3 j z
            have := hq s hs
            exact ⟨a, by omega⟩
          · exact j3 j z
        · rintro ⟨j, hj, h⟩
          rcases List.mem_append.mp hj with z | z
          · have := (i4 b v).mp ⟨j, z, h⟩
            exact ⟨⟨r, List.mem_cons_self, this.1⟩, this.2⟩
          · obtain ⟨⟨r', hr', a⟩, a2⟩ := (j4 b v).mp ⟨j, z, h⟩
            exact ⟨⟨r', List.mem_cons_of_mem _ hr', a⟩, a2⟩
        · rintro ⟨⟨r', hr', a⟩, a2⟩
          rcases List.mem_cons.mp hr' with e | z
          · rw [e] at a
            obtain ⟨j, hj, h⟩ := (i4 b v).mpr ⟨a, a2⟩
            exact ⟨j, List.mem_append_left _ hj, h⟩
          · obtain ⟨j, hj, h⟩ := (j4 b v).mpr ⟨⟨r', z, a⟩, a2⟩
            exact ⟨j, List.mem_append_right _ hj, h⟩
    exact key F fun r hr => ⟨hF.can r hr, hp r hr⟩
  obtain ⟨J, j1, j2, j3, j4⟩ := lists
  have hc : ∀ j ∈ J, Can j := fun j hj => (j3 j hj).1
  obtain ⟨E, e1, e2, e3⟩ := m_least_of_eq (x := .list (J.map eR)) (.inl rfl) (by omega) hc
  refine ⟨leastOf E, ?_, ⟨Nat.le_trans (least_len E) (by omega), least_can hc e1⟩, fun r hr => ?_, fun b v => (fire_least hc e1).trans (j4 b v)⟩
  · have t1 : dCall 1 m_tupled (dCons (dVar 0) dNil) (rho0 6 [eF F, eF G]) = some (eF F) := tupd_call (by omega) hF.can rfl
    have t2 : dCall 1 m_tupled (dCons (dVar 1) dNil) (rho0 6 [eF F, eF G]) = some (eF G) := tupd_call (by omega) hG.can rfl
    show (s_both (rho0 6 [eF F, eF G])).bind endD = _
    unfold s_both
    have p1 : dAsg (dTup (dCons (dCall 1 m_tupled (dCons (dVar 0) dNil)) (dCons (dCall 1 m_tupled (dCons (dVar 1) dNil)) dNil))) (bTup [bName 2, bName 3]) (rho0 6 [eF F, eF G]) = some (.nx [some (eF F), some (eF G), some (eF F), some (eF G), none, none]) := by
      have q1 : dTup (dCons (dCall 1 m_tupled (dCons (dVar 0) dNil)) (dCons (dCall 1 m_tupled (dCons (dVar 1) dNil)) dNil)) (rho0 6 [eF F, eF G]) = some (.tuple [eF F, eF G]) := dTup_of (cons_of t1 (cons_of t2 (nil_of _)))
      unfold dAsg
      rw [q1] <;> rfl
    rw [dSeq_nx p1]
    have c1 : dOp bGt (dOp bMul (d1 mLen (dVar 2)) (d1 mLen (dVar 3))) (dC (.int 400)) [some (eF F), some (eF G), some (eF F), some (eF G), none, none] = some (.bool false) := by
      have l1 : d1 mLen (dVar 2) [some (eF F), some (eF G), some (eF F), some (eF G), none, none] = some (.int F.length) := by
        rw [d1_of (x := eF F) rfl]
        show some (PyData.int ((F.map eR).length : Nat)) = _
        rw [List.length_map]
      have l2 : d1 mLen (dVar 3) [some (eF F), some (eF G), some (eF F), some (eF G), none, none] = some (.int G.length) := by
        rw [d1_of (x := eF G) rfl]
        show some (PyData.int ((G.map eR).length : Nat)) = _
        rw [List.length_map]
      have l3 : dOp bMul (d1 mLen (dVar 2)) (d1 mLen (dVar 3)) [some (eF F), some (eF G), some (eF F), some (eF G), none, none] = some (.int ((F.length * G.length : Nat) : Int)) := by
        rw [dOp_of l1 l2, Int.natCast_mul]
        exact if_pos ⟨⟨by omega, by omega⟩, by omega⟩
      rw [dOp_of l3 (y := .int 400) rfl]
      show some (PyData.bool (decide ((400 : Int) < ((F.length * G.length : Nat) : Int)))) = _
      rw [decide_eq_false (by omega)]
    have c2 : dIfS (dOp bGt (dOp bMul (d1 mLen (dVar 2)) (d1 mLen (dVar 3))) (dC (.int 400))) dNever dNext [some (eF F), some (eF G), some (eF F), some (eF G), none, none] = some (.nx [some (eF F), some (eF G), some (eF F), some (eF G), none, none]) := by
      rw [dIfS_f c1] <;> rfl
    rw [dSeq_nx c2]
    have c3 : dLc2 [4, 5] (iSeq (dVar 2)) (bName 4) dYes (iSeq (dVar 3)) [5] (bName 5) dYes (dCall 2 m_joined (dCons (dVar 4) (dCons (dVar 5) dNil))) [some (eF F), some (eF G), some (eF F), some (eF G), none, none] = some (.list (J.map eR)) := by
      unfold dLc2
      rw [iSeq_tup (xs := F.map eR) rfl (by rw [List.length_map]; omega)]
      show (lc2L (bName 4) dYes (iSeq (dVar 3)) [5] (bName 5) dYes (dCall 2 m_joined (dCons (dVar 4) (dCons (dVar 5) dNil))) [some (eF F), some (eF G), some (eF F), some (eF G), none, none] (F.map eR)).map PyData.list = _
      rw [j1] <;> rfl
    rw [dRet_of (by rw [dCall1_of c3, e3])] <;> rfl
  · exact (j3 r ((e1 r).mp (List.mem_filter.mp hr).1)).2
end SK
set_option maxHeartbeats 2000000
/-! The plain law: after, without, the knocks. -/
namespace SK
open PySem PySem.Spec PyProof.Rows L2
/-! ### after -/
def aftT (F : List Rw) (w : Int) : List Rw := F.map fun r => r.map fun p => (p.1, p.2 + w)
theorem m_after_eq {F : List Rw} {n : Nat} (hF : Fm n F) (hn : n ≤ 60) (w : Int) : m_after [eF F, .int w] = some (eF (aftT F w)) := by
  have h1 := hF.len
  have t1 : dCall 1 m_tupled (dCons (dVar 0) dNil) (rho0 5 [eF F, .int w]) = some (eF F) := tupd_call (by omega) hF.can rfl
  show (s_after (rho0 5 [eF F, .int w])).bind endD = _
  unfold s_after
  have e1 : dLc [2] (iSeq (dCall 1 m_tupled (dCons (dVar 0) dNil))) (bName 2) dYes (d1 mTuple (dLc [3, 4] (iSeq (dVar 2)) (bTup [bName 3, bName 4]) dYes (dTup (dCons (dVar 3) (dCons (dOp bPlus (dVar 4) (dVar 1)) dNil))))) (rho0 5 [eF F, .int w]) = some (.list (F.map fun r => eR (r.map fun p => (p.1, p.2 + w)))) := by
    refine dLc_of (iSeq_tup (xs := F.map eR) t1 (by rw [List.length_map]; omega)) ?_
    refine lcL_all (ex := eR) F fun r hr => ⟨[some (eF F), some (.int w), some (eR r), none, none], rfl, ?_⟩
    have e2 : dLc [3, 4] (iSeq (dVar 2)) (bTup [bName 3, bName 4]) dYes (dTup (dCons (dVar 3) (dCons (dOp bPlus (dVar 4) (dVar 1)) dNil))) [some (eF F), some (.int w), some (eR r), none, none] = some (.list (r.map fun p => eP (p.1, p.2 + w))) := by
      refine dLc_of (iSeq_tup (xs := r.map eP) rfl (by rw [List.length_map]; exact (hF.can r hr).le)) ?_
      exact lcL_all (ex := eP) r fun p hp => ⟨[some (eF F), some (.int w), some (eR r), some (eS p.1), some (.int p.2)], rfl, rfl⟩
    rw [d1_of e2]
    show some (PyData.tuple _) = some (PyData.tuple _)
    rw [List.map_map] <;> rfl
  rw [dRet_of (d1_of e1)]
  show some (PyData.tuple _) = some (PyData.tuple _)
  unfold aftT
  rw [List.map_map] <;> rfl
theorem aft_fm {F : List Rw} {n : Nat} (hF : Fm n F) {w : Int} (hw : 0 ≤ w) : Fm n (aftT F w) := by
  refine ⟨by unfold aftT; rw [List.length_map]; exact hF.len, fun r hr => ?_⟩
  obtain ⟨r, h, rfl⟩ := List.mem_map.mp hr
  have c := hF.can r h
  refine ⟨?_, fun p hp => ?_, fun e => c.ne (List.map_eq_nil_iff.mp e), by rw [List.length_map]; exact c.len⟩
  · rw [List.map_map]; exact c.so
  · obtain ⟨p0, hp0, rfl⟩ := List.mem_map.mp hp
    have := c.nn p0 hp0
    show 0 ≤ p0.2 + w
    omega
theorem aft_by {F : List Rw} {w v : Int} {b : Sp2 → Option Int} : FireBy b (aftT F w) v ↔ FireBy b F (v - w) := by
  constructor
  · rintro ⟨r0, hr0, h⟩
    obtain ⟨r, hr, rfl⟩ := List.mem_map.mp hr0
    refine ⟨r, hr, fun p hp => ?_⟩
    obtain ⟨t, h1, h2⟩ := h (p.1, p.2 + w) (List.mem_map.mpr ⟨p, hp, rfl⟩)
    exact ⟨t, h1, by have h2 : t + (p.2 + w) ≤ v := h2; omega⟩
  · rintro ⟨r, hr, h⟩
    refine ⟨_, List.mem_map.mpr ⟨r, hr, rfl⟩, fun q hq => ?_⟩
    obtain ⟨p, hp, rfl⟩ := List.mem_map.mp hq
    obtain ⟨t, h1, h2⟩ := h p hp
    exact ⟨t, h1, by show t + (p.2 + w) ≤ v; omega⟩
/-! ### without -/
theorem m_without_eq {F : List Rw} {n : Nat} (hF : Fm n F) (hn : n ≤ 60) : m_without [eF F, .tuple []] = some (eF F) := by
  have h1 := hF.len
  show (s_without (rho0 6 [eF F, .tuple []])).bind endD = _
  unfold s_without
  have a1 : dAsg (dCall 1 m_tupled (dCons (dVar 1) dNil)) (bName 2) (rho0 6 [eF F, .tuple []]) = some (.nx [some (eF F), some (.tuple []), some (.tuple []), none, none, none]) :=
    dAsg_of (i := 2) (x := .tuple []) (by rw [dCall1_of (x := .tuple []) rfl, m_tupled_eq (fitsT_tup (Nat.zero_le _) (fitsTs_nil _)), tupD, tupDs])
  rw [dSeq_nx a1]
  have t1 : dCall 1 m_tupled (dCons (dVar 0) dNil) [some (eF F), some (.tuple []), some (.tuple []), none, none, none] = some (eF F) := tupd_call (by omega) hF.can rfl
  have e1 : dLc [3] (iSeq (dCall 1 m_tupled (dCons (dVar 0) dNil))) (bName 3) (dNot (d1 mAny (dLc [4, 5] (iSeq (dVar 3)) (bTup [bName 4, bName 5]) dYes (dOp bInTp (dVar 4) (dVar 2))))) (dVar 3) [some (eF F), some (.tuple []), some (.tuple []), none, none, none] = some (.list (F.map eR)) := by
    refine dLc_of (iSeq_tup (xs := F.map eR) t1 (by rw [List.length_map]; omega)) ?_
    have := lcL_map (ex := eR) (f := eR) (t := fun _ => true) (g := bName 3) (c := dNot (d1 mAny (dLc [4, 5] (iSeq (dVar 3)) (bTup [bName 4, bName 5]) dYes (dOp bInTp (dVar 4) (dVar 2))))) (e := dVar 3) (ρ := wipeR [some (eF F), some (.tuple []), some (.tuple []), none, none, none] [3]) F fun r hr => by
      refine ⟨[some (eF F), some (.tuple []), some (.tuple []), some (eR r), none, none], rfl, ?_, fun _ => rfl⟩
      have e2 : dLc [4, 5] (iSeq (dVar 3)) (bTup [bName 4, bName 5]) dYes (dOp bInTp (dVar 4) (dVar 2)) [some (eF F), some (.tuple []), some (.tuple []), some (eR r), none, none] = some (.list (r.map fun _ => .bool false)) := by
        refine dLc_of (iSeq_tup (xs := r.map eP) rfl (by rw [List.length_map]; exact (hF.can r hr).le)) ?_
        refine lcL_all (ex := eP) r fun p hp => ⟨[some (eF F), some (.tuple []), some (.tuple []), some (eR r), some (eS p.1), some (.int p.2)], rfl, ?_⟩
        rw [dOp_of (x := eS p.1) (y := .tuple []) rfl rfl]
        have sh : SeqAt.shaped (eS p.1) = true := by
          have d1 : (eS p.1).depth = 1 := by simp [eS, PyData.depth, PyData.depthAll]
          unfold SeqAt.shaped
          rw [show (eS p.1).canLay0 = true from rfl, Bool.true_and, decide_eq_true_eq, d1]
          omega
        have sh2 : SeqAt.shaped (.tuple []) = true := by
          have d1 : (PyData.tuple []).depth = 1 := by simp [PyData.depth, PyData.depthAll]
          unfold SeqAt.shaped
          rw [show (PyData.tuple []).canLay0 = true from rfl, Bool.true_and, decide_eq_true_eq, d1]
          omega
        show (if SeqAt.shaped (eS p.1) = true ∧ SeqAt.shaped (.tuple []) = true then some (PyData.bool false) else none) = _
        rw [if_pos (And.intro sh sh2)]
      have e3 : d1 mAny (dLc [4, 5] (iSeq (dVar 3)) (bTup [bName 4, bName 5]) dYes (dOp bInTp (dVar 4) (dVar 2))) [some (eF F), some (.tuple []), some (.tuple []), some (eR r), none, none] = some (.bool false) := by
        rw [d1_of e2]
        have q : (r.map fun _ => PyData.bool false) = (r.map fun _ => false).map .bool := by rw [List.map_map] <;> rfl
        rw [q, mAny_map, List.any_map]
        have : (r.any (id ∘ fun _ => false)) = false := by
          rw [List.any_eq_false]
          intro _ _ h
          exact nomatch h
        rw [this]
      unfold dNot
      rw [e3] <;> rfl
    rw [List.filter_eq_self.mpr fun _ _ => rfl] at this
    exact this
  rw [dRet_of (d1_of e1)] <;> rfl
/-! ### knock_form -/
def one (s : Sp2) : Rw := [(s, 0)]
def two (s t : Sp2) : Rw := [(s, 0), (t, 0)]
def pairsL : List Sp2 → List Rw
  | [] => []
  | s :: ss => ss.map (two s) ++ pairsL ss
def rowsOf (sp : List Sp2) (kn : Int) : List Rw := if kn = 1 then sp.map one else pairsL sp
structure SpOk (sp : List Sp2) : Prop where
  so : sp.Pairwise ltS
  lo : 1 ≤ sp.length
  hi : sp.length ≤ 3
theorem fits_spots (n : Nat) {sp : List Sp2} (h : sp.length ≤ 1000) : fitsT (n + 2) (.tuple (sp.map eS)) = true :=
  fitsT_tup (by rw [List.length_map]; exact h) (fitsTs_map (fun s => fitsT_tup (Nat.le_of_ble_eq_true rfl) (fitsTs_cons (fitsT_int _ _) (fitsTs_cons (fitsT_int _ _) (fitsTs_nil _)))) sp)
theorem tup_spots (sp : List Sp2) : tupD (.tuple (sp.map eS)) = .tuple (sp.map eS) := by
  rw [tupD, tupDs_id fun s => rfl]
theorem m_tupled_spots {sp : List Sp2} (h : sp.length ≤ 1000) : m_tupled [.tuple (sp.map eS)] = some (.tuple (sp.map eS)) := by
  rw [m_tupled_eq (fits_spots 7 h), tup_spots]
theorem can_one (s : Sp2) : Can (one s) := ⟨List.pairwise_singleton _ _, fun p hp => by rw [List.mem_singleton.mp hp]; exact Int.le_refl 0, (fun e => nomatch e), Nat.le_of_ble_eq_true rfl⟩
theorem can_two {s t : Sp2} (h : ltS s t) : Can (two s t) := by
  refine ⟨?_, fun p hp => ?_, (fun e => nomatch e), Nat.le_of_ble_eq_true rfl⟩
  · show [s, t].Pairwise ltS
    rw [List.pairwise_cons]
    exact ⟨fun x hx => by rw [List.mem_singleton.mp hx]; exact h, List.pairwise_singleton _ _⟩
  · rcases List.mem_cons.mp hp with e | hp
    · rw [e]; exact Int.le_refl 0
    · rw [List.mem_singleton.mp hp]; exact Int.le_refl 0
theorem pairsL_mem : ∀ {sp : List Sp2}, sp.Pairwise ltS → ∀ r, r ∈ pairsL sp ↔ ∃ s ∈ sp, ∃ t ∈ sp, ltS s t ∧ r = two s t
  | [], _, r => ⟨fun h => (nomatch h), fun ⟨s, h, _⟩ => (nomatch h)⟩
  | s :: ss, so, r => by
    rw [List.pairwise_cons] at so
    constructor
    · intro h
      rcases List.mem_append.mp h with h | h
      · obtain ⟨t, ht, rfl⟩ := List.mem_map.mp h
        exact ⟨s, List.mem_cons_self, t, List.mem_cons_of_mem _ ht, so.1 t ht, rfl⟩
      · obtain ⟨a, ha, b, hb, h1, h2⟩ := (pairsL_mem so.2 r).mp h
        exact ⟨a, List.mem_cons_of_mem _ ha, b, List.mem_cons_of_mem _ hb, h1, h2⟩
    · rintro ⟨a, ha, b, hb, h1, rfl⟩
      rcases List.mem_cons.mp ha with ea | ha
      · rcases List.mem_cons.mp hb with eb | hb
        · rw [ea, eb] at h1
          exact absurd rfl h1.ne
        · rw [ea]
          exact List.mem_append_left _ (List.mem_map.mpr ⟨b, hb, rfl⟩)
      · rcases List.mem_cons.mp hb with eb | hb
        · rw [eb] at h1
          exact (h1.asymm (so.1 a ha)).elim
        · exact List.mem_append_right _ ((pairsL_mem so.2 _).mpr ⟨a, ha, b, hb, h1, rfl⟩)
theorem pairsL_len : ∀ {sp : List Sp2}, sp.length ≤ 3 → (pairsL sp).length ≤ 3
  | [], _ => Nat.zero_le _
  | [_], _ => Nat.le_of_ble_eq_true rfl
  | [_, _], _ => Nat.le_of_ble_eq_true rfl
  | [_, _, _], _ => Nat.le_of_ble_eq_true rfl
  | _ :: _ :: _ :: _ :: _, h => by simp only [List.length_cons] at h; omega
theorem m_knock_one {sp : List Sp2} (h : sp.length ≤ 1000) : m_knock_form [.tuple (sp.map eS), .int 1] = some (eF (sp.map one)) := by
  show (s_knock_form (rho0 7 [.tuple (sp.map eS), .int 1])).bind endD = _
  unfold s_knock_form
  have a1 : dAsg (dCall 1 m_tupled (dCons (dVar 0) dNil)) (bName 2) (rho0 7 [.tuple (sp.map eS), .int 1]) = some (.nx [some (.tuple (sp.map eS)), some (.int 1), some (.tuple (sp.map eS)), none, none, none, none]) :=
    dAsg_of (i := 2) (by rw [dCall1_of (x := .tuple (sp.map eS)) rfl, m_tupled_spots h])
  rw [dSeq_nx a1]
  have c1 : dOp bEq (dVar 1) (dC (.int 1)) [some (.tuple (sp.map eS)), some (.int 1), some (.tuple (sp.map eS)), none, none, none, none] = some (.bool true) := by
    rw [dOp_of (x := .int 1) (y := .int 1) rfl rfl]
    exact if_pos ⟨rfl, rfl⟩
  have e1 : dLc [3] (iSeq (dVar 2)) (bName 3) dYes (dTup (dCons (dTup (dCons (dVar 3) (dCons (dC (.int 0)) dNil))) dNil)) [some (.tuple (sp.map eS)), some (.int 1), some (.tuple (sp.map eS)), none, none, none, none] = some (.list (sp.map fun s => eR (one s))) :=
    dLc_of (iSeq_tup (xs := sp.map eS) rfl (by rw [List.length_map]; exact h)) (lcL_all (ex := eS) sp fun s hs => ⟨[some (.tuple (sp.map eS)), some (.int 1), some (.tuple (sp.map eS)), some (eS s), none, none, none], rfl, rfl⟩)
  rw [dSeq_rt (by rw [dIfS_t c1, dRet_of (d1_of e1)] <;> rfl)]
  show some (PyData.tuple _) = some (PyData.tuple _)
  rw [List.map_map] <;> rfl
theorem knock_lc2 : ∀ {sp : List Sp2}, sp.length ≤ 3 → dLc2 [4, 5, 6] (iEnumD (dVar 2)) (bTup [bName 4, bName 5]) dYes (iSeq (dSl (dVar 2) (oSome (dOp bPlus (dVar 4) (dC (.int 1)))) oNone)) [6] (bName 6) dYes (dTup (dCons (dTup (dCons (dVar 5) (dCons (dC (.int 0)) dNil))) (dCons (dTup (dCons (dVar 6) (dCons (dC (.int 0)) dNil))) dNil))) [some (.tuple (sp.map eS)), some (.int 2), some (.tuple (sp.map eS)), none, none, none, none] = some (.list ((pairsL sp).map eR))
  | [], _ => rfl
  | [_], _ => rfl
  | [_, _], _ => rfl
  | [_, _, _], _ => rfl
  | _ :: _ :: _ :: _ :: _, h => by simp only [List.length_cons] at h; omega
theorem m_knock_two {sp : List Sp2} (h : SpOk sp) : ∃ G : List Rw, m_knock_form [.tuple (sp.map eS), .int 2] = some (eF G) ∧ (∀ r, r ∈ G ↔ r ∈ pairsL sp) ∧ G.length ≤ 3 := by
  have hl := h.hi
  have hp := pairsL_len h.hi
  obtain ⟨G, g1, g2, g3⟩ := ss_rows (pairsL sp)
  refine ⟨G, ?_, g2, by omega⟩
  show (s_knock_form (rho0 7 [.tuple (sp.map eS), .int 2])).bind endD = _
  unfold s_knock_form
  have a1 : dAsg (dCall 1 m_tupled (dCons (dVar 0) dNil)) (bName 2) (rho0 7 [.tuple (sp.map eS), .int 2]) = some (.nx [some (.tuple (sp.map eS)), some (.int 2), some (.tuple (sp.map eS)), none, none, none, none]) :=
    dAsg_of (i := 2) (by rw [dCall1_of (x := .tuple (sp.map eS)) rfl, m_tupled_spots (by omega)])
  rw [dSeq_nx a1]
  have c1 : dOp bEq (dVar 1) (dC (.int 1)) [some (.tuple (sp.map eS)), some (.int 2), some (.tuple (sp.map eS)), none, none, none, none] = some (.bool false) := by
    rw [dOp_of (x := .int 2) (y := .int 1) rfl rfl]
    exact if_pos ⟨rfl, rfl⟩
  rw [dSeq_nx (ρ' := [some (.tuple (sp.map eS)), some (.int 2), some (.tuple (sp.map eS)), none, none, none, none]) (by rw [dIfS_f c1] <;> rfl)]
  have e2 : m_set_of [.list ((pairsL sp).map eR)] = some (eF G) := by
    rw [m_set_of_eq (.inl rfl) (by omega) (fun r hr => by
      obtain ⟨s, _, t, _, _, rfl⟩ := (pairsL_mem h.so r).mp hr
      exact fun e => nomatch e), g1] <;> rfl
  rw [dRet_of (by rw [dCall1_of (knock_lc2 h.hi), e2])] <;> rfl
end SK
set_option maxHeartbeats 2000000
/-! The plain law: houses; forms of zones, lines, outs. -/
namespace SK
open PySem PySem.Spec PyProof.Rows L2
structure Zn where
  sp : List Sp2
  kn : Int
structure Ln where
  ho : Int
  an : Bool
  zs : List Nat
  wait : Int
  out : Nat
  a : Int
  b : Int
structure Hs where
  wi : PyData
  zs : List Zn
  ls : List Ln
  pan : Int
def eZ (z : Zn) : PyData := .tuple [.tuple (z.sp.map eS), .int z.kn, .none]
def eI (i : Nat) : PyData := .int (i : Int)
def eL (l : Ln) : PyData := .tuple [.int l.ho, .str (if l.an then "any" else "all"), .tuple (l.zs.map eI), .int l.wait, .tuple [], .int l.out, .int l.a, .int l.b]
def eN : PyData := .tuple [.str "bell", .str "door"]
def eLs (ls : List Ln) : PyData := .tuple (ls.map eL)
def eH (h : Hs) : PyData := .tuple [h.wi, .tuple (h.zs.map eZ), eLs h.ls, eN, .int h.pan]
structure ZOk (z : Zn) : Prop where
  sp : SpOk z.sp
  kn : z.kn = 1 ∨ (z.kn = 2 ∧ 2 ≤ z.sp.length)
structure LOk (n : Nat) (l : Ln) : Prop where
  lo : 1 ≤ l.zs.length
  hi : l.zs.length ≤ 2
  zs : ∀ i ∈ l.zs, i < n
  w0 : 0 ≤ l.wait
  w1 : l.wait ≤ 20
  out : l.out ≤ 1
structure HOk (h : Hs) : Prop where
  z0 : 1 ≤ h.zs.length
  z1 : h.zs.length ≤ 5
  zs : ∀ z ∈ h.zs, ZOk z
  l1 : h.ls.length ≤ 5
  ls : ∀ l ∈ h.ls, LOk h.zs.length l
/-! ### places -/
theorem atI_nat {α : Type} {xs : List α} {i : Nat} {x : α} (h : xs[i]? = some x) : atI xs (i : Int) = some x := by
  have hi : i < xs.length := by
    rcases Nat.lt_or_ge i xs.length with c | c
    · exact c
    · rw [List.getElem?_eq_none c] at h; exact nomatch h
  unfold atI ixN
  rw [if_pos (by omega), if_pos (by omega)]
  show xs[((i : Int)).toNat]? = _
  rw [Int.toNat_natCast, h]
theorem bIx_map {α : Type} {f : α → PyData} {xs : List α} {i : Nat} {x : α} (h : xs[i]? = some x) : bIx (.tuple (xs.map f)) (.int (i : Int)) = some (f x) := by
  show atI (xs.map f) (i : Int) = _
  exact atI_nat (by rw [List.getElem?_map, h] <;> rfl)
/-! ### zones -/
theorem m_form_of_zone_eq {h : Hs} {i : Nat} {z : Zn} (hz : h.zs[i]? = some z) (ok : ZOk z) : ∃ F, m_form_of_zone [eH h, .int (i : Int), .tuple []] = some (eF F) ∧ Fm 3 F ∧ ∀ r, r ∈ F ↔ r ∈ rowsOf z.sp z.kn := by
  have hk : ∃ F, m_knock_form [.tuple (z.sp.map eS), .int z.kn] = some (eF F) ∧ Fm 3 F ∧ ∀ r, r ∈ F ↔ r ∈ rowsOf z.sp z.kn := by
    rcases ok.kn with k | ⟨k, k2⟩
    · rw [k]
      refine ⟨z.sp.map one, m_knock_one (by have := ok.sp.hi; omega), ⟨by rw [List.length_map]; exact ok.sp.hi, fun r hr => ?_⟩, fun r => Iff.rfl⟩
      obtain ⟨s, _, rfl⟩ := List.mem_map.mp hr
      exact can_one s
    · rw [k]
      obtain ⟨G, g1, g2, g3⟩ := m_knock_two ok.sp
      refine ⟨G, g1, ⟨g3, fun r hr => ?_⟩, fun r => g2 r⟩
      obtain ⟨s, _, t, _, h1, rfl⟩ := (pairsL_mem ok.sp.so r).mp ((g2 r).mp hr)
      exact can_two h1
  obtain ⟨F, f1, f2, f3⟩ := hk
  refine ⟨F, ?_, f2, f3⟩
  show (s_form_of_zone (rho0 6 [eH h, .int (i : Int), .tuple []])).bind endD = _
  unfold s_form_of_zone
  have a0 : dOp bIx (dOp bIx (dVar 0) (dC (.int 1))) (dVar 1) (rho0 6 [eH h, .int (i : Int), .tuple []]) = some (eZ z) := by
    rw [dOp_of (x := .tuple (h.zs.map eZ)) (y := .int (i : Int)) rfl rfl, bIx_map hz]
  have a1 : dAsg (dOp bIx (dOp bIx (dVar 0) (dC (.int 1))) (dVar 1)) (bTup [bName 3, bName 4, bName 5]) (rho0 6 [eH h, .int (i : Int), .tuple []]) = some (.nx [some (eH h), some (.int (i : Int)), some (.tuple []), some (.tuple (z.sp.map eS)), some (.int z.kn), some .none]) := by
    unfold dAsg
    rw [a0] <;> rfl
  rw [dSeq_nx a1]
  have a2 : dCall 2 m_knock_form (dCons (dVar 3) (dCons (dVar 4) dNil)) [some (eH h), some (.int (i : Int)), some (.tuple []), some (.tuple (z.sp.map eS)), some (.int z.kn), some .none] = some (eF F) := by
    rw [dCall2_of (x := .tuple (z.sp.map eS)) (y := .int z.kn) rfl rfl, f1]
  rw [dRet_of (by rw [dCall2_of a2 (y := .tuple []) rfl, m_without_eq f2 (by decide)])] <;> rfl
def ZoneBy (b : Sp2 → Option Int) (z : Zn) (v : Int) : Prop := FireBy b (rowsOf z.sp z.kn) v
theorem rowsOf_len {z : Zn} (ok : ZOk z) : ∀ r ∈ rowsOf z.sp z.kn, r.length ≤ 2 := by
  intro r hr
  unfold rowsOf at hr
  split at hr
  · obtain ⟨s, _, rfl⟩ := List.mem_map.mp hr
    exact Nat.le_of_ble_eq_true rfl
  · obtain ⟨s, _, t, _, h1, rfl⟩ := (pairsL_mem ok.sp.so r).mp hr
    exact Nat.le_of_ble_eq_true rfl
theorem fire_same {b : Sp2 → Option Int} {F G : List Rw} {v : Int} (h : ∀ r, r ∈ F ↔ r ∈ G) : FireBy b F v ↔ FireBy b G v :=
  ⟨fun ⟨r, hr, k⟩ => ⟨r, (h r).mp hr, k⟩, fun ⟨r, hr, k⟩ => ⟨r, (h r).mpr hr, k⟩⟩
/-! ### lines -/
def AskBy (b : Sp2 → Option Int) (zs : List Zn) (i : Nat) (v : Int) : Prop := ∃ z, zs[i]? = some z ∧ ZoneBy b z v
def LineBy (b : Sp2 → Option Int) (zs : List Zn) (l : Ln) (v : Int) : Prop := if l.an = true then ∃ i ∈ l.zs, AskBy b zs i (v - l.wait) else ∀ i ∈ l.zs, AskBy b zs i (v - l.wait)
def OutBy (b : Sp2 → Option Int) (zs : List Zn) (ls : List Ln) (k : Nat) (v : Int) : Prop := ∃ l ∈ ls, l.out = k ∧ LineBy b zs l v
theorem isAny (b : Bool) : bEq (.str (if b then "any" else "all")) (.str "any") = some (.bool b) := by
  have s1 : SeqAt.shaped (.str "any") = true := by decide +kernel
  have s2 : SeqAt.shaped (.str "all") = true := by decide +kernel
  have q1 : PyData.eqv (.str "any") (.str "any") = true := by decide +kernel
  have q2 : PyData.eqv (.str "all") (.str "any") = false := by decide +kernel
  unfold bEq
  cases b with
  | true =>
    show (if SeqAt.shaped (.str "any") = true ∧ SeqAt.shaped (.str "any") = true then some (PyData.bool (PyData.eqv (.str "any") (.str "any"))) else none) = _
    rw [if_pos (And.intro s1 s1), q1]
  | false =>
    show (if SeqAt.shaped (.str "all") = true ∧ SeqAt.shaped (.str "any") = true then some (PyData.bool (PyData.eqv (.str "all") (.str "any"))) else none) = _
    rw [if_pos (And.intro s2 s1), q2]
theorem ask_form {h : Hs} (ok : HOk h) {i : Nat} (hi : i < h.zs.length) : ∃ F, m_form_of_zone [eH h, .int (i : Int), .tuple []] = some (eF F) ∧ Fm 3 F ∧ (∀ r ∈ F, r.length ≤ 2) ∧ ∀ b v, FireBy b F v ↔ AskBy b h.zs i v := by
  have hz : h.zs[i]? = some h.zs[i] := List.getElem?_eq_getElem hi
  have hm := ok.zs _ (List.getElem_mem hi)
  obtain ⟨F, f1, f2, f3⟩ := m_form_of_zone_eq hz hm
  exact ⟨F, f1, f2, fun r hr => rowsOf_len hm r ((f3 r).mp hr), fun b v => (fire_same f3).trans ⟨fun k => ⟨_, hz, k⟩, fun ⟨z, e, k⟩ => by rw [hz] at e; cases e; exact k⟩⟩
theorem m_form_of_line_eq {h : Hs} (ok : HOk h) {l : Ln} (hl : LOk h.zs.length l) : ∃ F, m_form_of_line [eH h, eL l, .tuple []] = some (eF F) ∧ Fm 9 F ∧ ∀ b v, FireBy b F v ↔ LineBy b h.zs l v := by
  have fin : ∀ (F : List Rw) (u w : Option PyData) (lst : PyData), Fm 9 F → (∀ b v, FireBy b F v ↔ if l.an = true then ∃ i ∈ l.zs, AskBy b h.zs i v else ∀ i ∈ l.zs, AskBy b h.zs i v) →
      ((dSeq (dAsg (dLc [6] (iSeq (dOp bIx (dVar 1) (dC (.int 2)))) (bName 6) dYes (dCall 3 m_form_of_zone (dCons (dVar 0) (dCons (dVar 6) (dCons (dVar 2) dNil))))) (bName 3)) (dSeq (dAsg (dOp bIx (dVar 3) (dC (.int 0))) (bName 4)) (dFor (iSeq (dSl (dVar 3) (oSome (dC (.int 1))) oNone)) (bName 5) (dAsg (dIf (dOp bEq (dOp bIx (dVar 1) (dC (.int 1))) (dC (.str "any"))) (dCall 2 m_either (dCons (dVar 4) (dCons (dVar 5) dNil))) (dCall 2 m_both (dCons (dVar 4) (dCons (dVar 5) dNil)))) (bName 4)))))
        (rho0 7 [eH h, eL l, .tuple []]) = some (.nx [some (eH h), some (eL l), some (.tuple []), some lst, some (eF F), u, w])) →
      ∃ F, m_form_of_line [eH h, eL l, .tuple []] = some (eF F) ∧ Fm 9 F ∧ ∀ b v, FireBy b F v ↔ LineBy b h.zs l v := by
    intro F u w lst f1 f2 f3
    refine ⟨aftT F l.wait, ?_, aft_fm f1 hl.w0, fun b v => aft_by.trans (f2 b (v - l.wait))⟩
    show (s_form_of_line (rho0 7 [eH h, eL l, .tuple []])).bind endD = _
    unfold s_form_of_line
    have assoc : ∀ (s t u' r : DS) (ρ ρ' : Rho), dSeq s (dSeq t u') ρ = some (.nx ρ') → dSeq s (dSeq t (dSeq u' r)) ρ = r ρ' := by
      intro s t u' r ρ ρ' e
      obtain ⟨o1, e1, e2⟩ := Option.bind_eq_some_iff.mp e
      cases o1 with
      | rt d => exact nomatch e2
      | nx ρ1 =>
        rw [dSeq_nx e1]
        have e2 : dSeq t u' ρ1 = some (.nx ρ') := e2
        obtain ⟨o2, e3, e4⟩ := Option.bind_eq_some_iff.mp e2
        cases o2 with
        | rt d => exact nomatch e4
        | nx ρ2 =>
          rw [dSeq_nx e3, dSeq_nx e4]
    rw [assoc _ _ _ _ _ _ f3]
    rw [dRet_of (by rw [dCall2_of (x := eF F) (y := .int l.wait) rfl rfl, m_after_eq f1 (by decide)])] <;> rfl
  have lo := hl.lo
  have hi := hl.hi
  have hzs := hl.zs
  match e : l.zs, lo, hi with
  | [i], _, _ =>
    rw [e] at hzs
    obtain ⟨F, f1, f2, f3, f4⟩ := ask_form ok (hzs i List.mem_cons_self)
    refine fin F none none (.list [eF F]) ⟨Nat.le_trans f2.len (by decide), f2.can⟩ (fun b v => (f4 b v).trans ?_) ?_
    · rw [e]
      split
      · exact ⟨fun k => ⟨i, List.mem_cons_self, k⟩, fun ⟨j, hj, k⟩ => by rw [List.mem_singleton.mp hj] at k; exact k⟩
      · exact ⟨fun k j hj => by rw [List.mem_singleton.mp hj]; exact k, fun k => k i List.mem_cons_self⟩
    · have q1 : dLc [6] (iSeq (dOp bIx (dVar 1) (dC (.int 2)))) (bName 6) dYes (dCall 3 m_form_of_zone (dCons (dVar 0) (dCons (dVar 6) (dCons (dVar 2) dNil)))) (rho0 7 [eH h, eL l, .tuple []]) = some (.list [eF F]) := by
        refine dLc_of (iSeq_tup (xs := [.int (i : Int)]) ?_ (Nat.le_of_ble_eq_true rfl)) ?_
        · show some (PyData.tuple (l.zs.map eI)) = _
          rw [e] <;> rfl
        · show ((dCall 3 m_form_of_zone (dCons (dVar 0) (dCons (dVar 6) (dCons (dVar 2) dNil))) [some (eH h), some (eL l), some (.tuple []), none, none, none, some (.int (i : Int))]).bind fun y => some [y]) = _
          rw [dCall3_of (x := eH h) (y := .int (i : Int)) (z := .tuple []) rfl rfl rfl, f1] <;> rfl
      rw [dSeq_nx (dAsg_of q1)] <;> rfl
  | [i, j], _, _ =>
    rw [e] at hzs
    obtain ⟨F, f1, f2, f3, f4⟩ := ask_form ok (hzs i List.mem_cons_self)
    obtain ⟨G, g1, g2, g3, g4⟩ := ask_form ok (hzs j (List.mem_cons_of_mem _ List.mem_cons_self))
    have q1 : dLc [6] (iSeq (dOp bIx (dVar 1) (dC (.int 2)))) (bName 6) dYes (dCall 3 m_form_of_zone (dCons (dVar 0) (dCons (dVar 6) (dCons (dVar 2) dNil)))) (rho0 7 [eH h, eL l, .tuple []]) = some (.list [eF F, eF G]) := by
      refine dLc_of (iSeq_tup (xs := [.int (i : Int), .int (j : Int)]) ?_ (Nat.le_of_ble_eq_true rfl)) ?_
      · show some (PyData.tuple (l.zs.map eI)) = _
        rw [e] <;> rfl
      · show ((dCall 3 m_form_of_zone (dCons (dVar 0) (dCons (dVar 6) (dCons (dVar 2) dNil))) [some (eH h), some (eL l), some (.tuple []), none, none, none, some (.int (i : Int))]).bind fun y => ((dCall 3 m_form_of_zone (dCons (dVar 0) (dCons (dVar 6) (dCons (dVar 2) dNil))) [some (eH h), some (eL l), some (.tuple []), none, none, none, some (.int (j : Int))]).bind fun y => some [y]).bind fun ys => some (y :: ys)) = _
        rw [dCall3_of (x := eH h) (y := .int (i : Int)) (z := .tuple []) rfl rfl rfl, f1, dCall3_of (x := eH h) (y := .int (j : Int)) (z := .tuple []) rfl rfl rfl, g1] <;> rfl
    have q2 : ∀ E : List Rw, (dIf (dOp bEq (dOp bIx (dVar 1) (dC (.int 1))) (dC (.str "any"))) (dCall 2 m_either (dCons (dVar 4) (dCons (dVar 5) dNil))) (dCall 2 m_both (dCons (dVar 4) (dCons (dVar 5) dNil)))) [some (eH h), some (eL l), some (.tuple []), some (.list [eF F, eF G]), some (eF F), some (eF G), none] = some (eF E) →
        (dSeq (dAsg (dLc [6] (iSeq (dOp bIx (dVar 1) (dC (.int 2)))) (bName 6) dYes (dCall 3 m_form_of_zone (dCons (dVar 0) (dCons (dVar 6) (dCons (dVar 2) dNil))))) (bName 3)) (dSeq (dAsg (dOp bIx (dVar 3) (dC (.int 0))) (bName 4)) (dFor (iSeq (dSl (dVar 3) (oSome (dC (.int 1))) oNone)) (bName 5) (dAsg (dIf (dOp bEq (dOp bIx (dVar 1) (dC (.int 1))) (dC (.str "any"))) (dCall 2 m_either (dCons (dVar 4) (dCons (dVar 5) dNil))) (dCall 2 m_both (dCons (dVar 4) (dCons (dVar 5) dNil)))) (bName 4)))))
        (rho0 7 [eH h, eL l, .tuple []]) = some (.nx [some (eH h), some (eL l), some (.tuple []), some (.list [eF F, eF G]), some (eF E), some (eF G), none]) := by
      intro E hE
      rw [dSeq_nx (dAsg_of q1)]
      rw [dSeq_nx (ρ' := [some (eH h), some (eL l), some (.tuple []), some (.list [eF F, eF G]), some (eF F), none, none]) rfl]
      show ((dAsg (dIf (dOp bEq (dOp bIx (dVar 1) (dC (.int 1))) (dC (.str "any"))) (dCall 2 m_either (dCons (dVar 4) (dCons (dVar 5) dNil))) (dCall 2 m_both (dCons (dVar 4) (dCons (dVar 5) dNil)))) (bName 4) [some (eH h), some (eL l), some (.tuple []), some (.list [eF F, eF G]), some (eF F), some (eF G), none]).bind _) = _
      rw [dAsg_of hE] <;> rfl
    have c1 : dOp bEq (dOp bIx (dVar 1) (dC (.int 1))) (dC (.str "any")) [some (eH h), some (eL l), some (.tuple []), some (.list [eF F, eF G]), some (eF F), some (eF G), none] = some (.bool l.an) := by
      rw [dOp_of (x := .str (if l.an then "any" else "all")) (y := .str "any") rfl rfl, isAny]
    cases ea : l.an with
    | true =>
      obtain ⟨E, e1, e2, e3⟩ := m_either_eq f2 g2 (by decide)
      refine fin E (some (eF G)) none (.list [eF F, eF G]) ⟨Nat.le_trans e2.len (by decide), e2.can⟩ (fun b v => (e3 b v).trans ?_) (q2 E ?_)
      · rw [e, if_pos ea, f4, g4]
        constructor
        · rintro (k | k)
          · exact ⟨i, List.mem_cons_self, k⟩
          · exact ⟨j, List.mem_cons_of_mem _ List.mem_cons_self, k⟩
        · rintro ⟨m, hm, k⟩
          rcases List.mem_cons.mp hm with z | hm
          · rw [z] at k; exact .inl k
          · rw [List.mem_singleton.mp hm] at k; exact .inr k
      · rw [dIf_t (by rw [c1, ea]), dCall2_of (x := eF F) (y := eF G) rfl rfl, e1]
    | false =>
      obtain ⟨E, e1, e2, e4, e3⟩ := m_both_eq f2 g2 f3 g3 (by decide) (by decide) (by decide) (by decide)
      refine fin E (some (eF G)) none (.list [eF F, eF G]) ⟨e2.len, e2.can⟩ (fun b v => (e3 b v).trans ?_) (q2 E ?_)
      · rw [e, if_neg (by rw [ea]; exact Bool.false_ne_true), f4, g4]
        constructor
        · rintro ⟨k1, k2⟩ m hm
          rcases List.mem_cons.mp hm with z | hm
          · rw [z]; exact k1
          · rw [List.mem_singleton.mp hm]; exact k2
        · intro k
          exact ⟨k i List.mem_cons_self, k j (List.mem_cons_of_mem _ List.mem_cons_self)⟩
      · rw [dIf_f (by rw [c1, ea]), dCall2_of (x := eF F) (y := eF G) rfl rfl, e1]
  | [], lo, _ => exact absurd lo (by decide)
  | _ :: _ :: _ :: _, _, hi => simp only [List.length_cons] at hi; omega
/-! ### outs -/
theorem m_form_of_out_eq {h : Hs} (ok : HOk h) {ls : List Ln} (hls : ∀ l ∈ ls, LOk h.zs.length l) (hlen : ls.length ≤ 5) (k : Nat) (hk : k ≤ 1) : ∃ F, m_form_of_out [eH h, eLs ls, .int (k : Int), .tuple []] = some (eF F) ∧ Fm 45 F ∧ ∀ b v, FireBy b F v ↔ OutBy b h.zs ls k v := by
  have key : ∀ (ls' : List Ln) (F : List Rw) (n : Nat) (u : Option PyData), (∀ l ∈ ls', LOk h.zs.length l) → Fm n F → n + 9 * ls'.length ≤ 45 →
      ∃ G u', forL (bName 5) (dIfS (dOp bEq (dOp bIx (dVar 5) (dC (.int 5))) (dVar 2)) (dAsg (dCall 2 m_either (dCons (dVar 4) (dCons (dCall 3 m_form_of_line (dCons (dVar 0) (dCons (dVar 5) (dCons (dVar 3) dNil)))) dNil))) (bName 4)) dNext) (ls'.map eL) [some (eH h), some (eLs ls), some (.int (k : Int)), some (.tuple []), some (eF F), u] =
        some (.nx [some (eH h), some (eLs ls), some (.int (k : Int)), some (.tuple []), some (eF G), u']) ∧ Fm 45 G ∧ ∀ b v, FireBy b G v ↔ FireBy b F v ∨ OutBy b h.zs ls' k v := by
    intro ls'
    induction ls' with
    | nil =>
      intro F n u _ hF hn
      exact ⟨F, u, rfl, ⟨Nat.le_trans hF.len (by omega), hF.can⟩, fun b v => ⟨.inl, fun z => z.resolve_right fun ⟨l, hl, _⟩ => (nomatch hl)⟩⟩
    | cons l ls' ih =>
      intro F n u hls hF hn
      rw [List.length_cons] at hn
      have hl := hls l List.mem_cons_self
      have rest := fun x hx => hls x (List.mem_cons_of_mem _ hx)
      have ho := hl.out
      have c1 : dOp bEq (dOp bIx (dVar 5) (dC (.int 5))) (dVar 2) [some (eH h), some (eLs ls), some (.int (k : Int)), some (.tuple []), some (eF F), some (eL l)] = some (.bool (decide (l.out = k))) := by
        rw [dOp_of (x := .int (l.out : Int)) (y := .int (k : Int)) rfl rfl]
        have : l.out = 0 ∨ l.out = 1 := by omega
        have : k = 0 ∨ k = 1 := by omega
        rcases ‹l.out = 0 ∨ l.out = 1› with a | a <;> rcases ‹k = 0 ∨ k = 1› with b | b <;> rw [a, b] <;> exact if_pos ⟨rfl, rfl⟩
      by_cases c : l.out = k
      · obtain ⟨G, g1, g2, g3⟩ := m_form_of_line_eq ok hl
        obtain ⟨E, e1, e2, e3⟩ := m_either_eq hF g2 (by omega)
        obtain ⟨R, u', r1, r2, r3⟩ := ih E (n + 9) (some (eL l)) rest e2 (by omega)
        refine ⟨R, u', ?_, r2, fun b v => (r3 b v).trans ?_⟩
        · rw [List.map_cons]
          have s1 : (dIfS (dOp bEq (dOp bIx (dVar 5) (dC (.int 5))) (dVar 2)) (dAsg (dCall 2 m_either (dCons (dVar 4) (dCons (dCall 3 m_form_of_line (dCons (dVar 0) (dCons (dVar 5) (dCons (dVar 3) dNil)))) dNil))) (bName 4)) dNext) [some (eH h), some (eLs ls), some (.int (k : Int)), some (.tuple []), some (eF F), some (eL l)] = some (.nx [some (eH h), some (eLs ls), some (.int (k : Int)), some (.tuple []), some (eF E), some (eL l)]) := by
            rw [dIfS_t (by rw [c1, decide_eq_true c])]
            have t1 : dCall 3 m_form_of_line (dCons (dVar 0) (dCons (dVar 5) (dCons (dVar 3) dNil))) [some (eH h), some (eLs ls), some (.int (k : Int)), some (.tuple []), some (eF F), some (eL l)] = some (eF G) := by
              rw [dCall3_of (x := eH h) (y := eL l) (z := .tuple []) rfl rfl rfl, g1]
            rw [dAsg_of (by rw [dCall2_of (x := eF F) rfl t1, e1])] <;> rfl
          show ((dIfS (dOp bEq (dOp bIx (dVar 5) (dC (.int 5))) (dVar 2)) (dAsg (dCall 2 m_either (dCons (dVar 4) (dCons (dCall 3 m_form_of_line (dCons (dVar 0) (dCons (dVar 5) (dCons (dVar 3) dNil)))) dNil))) (bName 4)) dNext) [some (eH h), some (eLs ls), some (.int (k : Int)), some (.tuple []), some (eF F), some (eL l)]).bind _ = _
          rw [s1]
          exact r1
        · rw [e3, g3]
          constructor
          · rintro ((z | z) | ⟨m, hm, z⟩)
            · exact .inl z
            · exact .inr ⟨l, List.mem_cons_self, c, z⟩
            · exact .inr ⟨m, List.mem_cons_of_mem _ hm, z⟩
          · rintro (z | ⟨m, hm, z1, z⟩)
            · exact .inl (.inl z)
            · rcases List.mem_cons.mp hm with y | hm
              · rw [y] at z; exact .inl (.inr z)
              · exact .inr ⟨m, hm, z1, z⟩
      · obtain ⟨R, u', r1, r2, r3⟩ := ih F n (some (eL l)) rest hF (by omega)
        refine ⟨R, u', ?_, r2, fun b v => (r3 b v).trans ?_⟩
        · rw [List.map_cons]
          show ((dIfS (dOp bEq (dOp bIx (dVar 5) (dC (.int 5))) (dVar 2)) (dAsg (dCall 2 m_either (dCons (dVar 4) (dCons (dCall 3 m_form_of_line (dCons (dVar 0) (dCons (dVar 5) (dCons (dVar 3) dNil)))) dNil))) (bName 4)) dNext) [some (eH h), some (eLs ls), some (.int (k : Int)), some (.tuple []), some (eF F), some (eL l)]).bind _ = _
          rw [dIfS_f (by rw [c1, decide_eq_false c])]
          exact r1
        · constructor
          · rintro (z | ⟨m, hm, z⟩)
            · exact .inl z
            · exact .inr ⟨m, List.mem_cons_of_mem _ hm, z⟩
          · rintro (z | ⟨m, hm, z1, z⟩)
            · exact .inl z
            · rcases List.mem_cons.mp hm with y | hm
              · rw [y] at z1; exact absurd z1 c
              · exact .inr ⟨m, hm, z1, z⟩
  obtain ⟨G, u', g1, g2, g3⟩ := key ls [] 0 none hls ⟨Nat.le_refl _, fun r hr => (nomatch hr)⟩ (by omega)
  refine ⟨G, ?_, g2, fun b v => (g3 b v).trans ⟨fun z => z.resolve_left fun ⟨r, hr, _⟩ => (nomatch hr), .inr⟩⟩
  show (s_form_of_out (rho0 6 [eH h, eLs ls, .int (k : Int), .tuple []])).bind endD = _
  unfold s_form_of_out
  rw [dSeq_nx (ρ' := [some (eH h), some (eLs ls), some (.int (k : Int)), some (.tuple []), some (eF []), none]) rfl]
  have e1 : dFor (iSeq (dVar 1)) (bName 5) (dIfS (dOp bEq (dOp bIx (dVar 5) (dC (.int 5))) (dVar 2)) (dAsg (dCall 2 m_either (dCons (dVar 4) (dCons (dCall 3 m_form_of_line (dCons (dVar 0) (dCons (dVar 5) (dCons (dVar 3) dNil)))) dNil))) (bName 4)) dNext) [some (eH h), some (eLs ls), some (.int (k : Int)), some (.tuple []), some (eF []), none] = some (.nx [some (eH h), some (eLs ls), some (.int (k : Int)), some (.tuple []), some (eF G), u']) := by
    unfold dFor
    rw [iSeq_tup (xs := ls.map eL) rfl (by rw [List.length_map]; omega)]
    exact g1
  rw [dSeq_nx e1] <;> rfl
end SK
set_option maxHeartbeats 2000000
/-! The plain law: the ticks of outs; late_by. -/
namespace SK
open PySem PySem.Spec PyProof.Rows L2
/-! ### ticks of zones, lines, outs -/
def hourT (b : Rw) (z : Zn) : Option Int := valF b (rowsOf z.sp z.kn)
def askT (b : Rw) (zs : List Zn) (i : Nat) : Option Int := match zs[i]? with
  | some z => hourT b z
  | none => none
def lineT (b : Rw) (zs : List Zn) (l : Ln) : Option Int := oadd (if l.an = true then l.zs.foldl (fun a i => omin a (askT b zs i)) none else l.zs.foldl (fun a i => omax a (askT b zs i)) (some 0)) l.wait
def outT (b : Rw) (zs : List Zn) (ls : List Ln) (k : Nat) : Option Int := ls.foldl (fun a l => if l.out = k then omin a (lineT b zs l) else a) none
theorem rowsOf_mem {z : Zn} (ok : ZOk z) : ∀ r ∈ rowsOf z.sp z.kn, Can r ∧ ∀ p ∈ r, p.2 = 0 := by
  intro r hr
  unfold rowsOf at hr
  split at hr
  · obtain ⟨s, _, rfl⟩ := List.mem_map.mp hr
    exact ⟨can_one s, fun p hp => by rw [List.mem_singleton.mp hp]⟩
  · obtain ⟨s, _, t, _, h1, rfl⟩ := (pairsL_mem ok.sp.so r).mp hr
    refine ⟨can_two h1, fun p hp => ?_⟩
    rcases List.mem_cons.mp hp with e | hp
    · rw [e]
    · rw [List.mem_singleton.mp hp]
structure BOk (b : Rw) : Prop where
  nn : ∀ p ∈ b, 0 ≤ p.2
theorem hour_thr {b : Rw} (hb : BOk b) {z : Zn} (ok : ZOk z) : Thr (hourT b z) (ZoneBy (look b) z) :=
  valF_by hb.nn fun r hr p hp => by rw [(rowsOf_mem ok r hr).2 p hp]; exact Int.le_refl 0
theorem zone_neg {b : Rw} (hb : BOk b) {z : Zn} (ok : ZOk z) {v : Int} (h : ZoneBy (look b) z v) : 0 ≤ v := by
  obtain ⟨r, hr, k⟩ := h
  obtain ⟨c, c0⟩ := rowsOf_mem ok r hr
  cases r with
  | nil => exact absurd rfl c.ne
  | cons p r =>
    obtain ⟨t, h1, h2⟩ := k p List.mem_cons_self
    have h3 := hb.nn _ (look_mem h1)
    have h3 : 0 ≤ t := h3
    rw [c0 p List.mem_cons_self] at h2
    omega
theorem ask_thr {b : Rw} (hb : BOk b) {zs : List Zn} (ok : ∀ z ∈ zs, ZOk z) (i : Nat) : Thr (askT b zs i) (AskBy (look b) zs i) := by
  unfold askT
  cases e : zs[i]? with
  | none => exact fun v _ ⟨z, e2, _⟩ => by rw [e] at e2; exact nomatch e2
  | some z =>
    have hz : z ∈ zs := List.mem_of_getElem? e
    exact (hour_thr hb (ok z hz)).congr fun v _ => ⟨fun k => ⟨z, e, k⟩, fun ⟨z', e2, k⟩ => by rw [e] at e2; cases e2; exact k⟩
theorem ask_neg {b : Rw} (hb : BOk b) {zs : List Zn} (ok : ∀ z ∈ zs, ZOk z) {i : Nat} {v : Int} (h : AskBy (look b) zs i v) : 0 ≤ v := by
  obtain ⟨z, e, k⟩ := h
  exact zone_neg hb (ok z (List.mem_of_getElem? e)) k
theorem thr_add {o : Option Int} {p : Int → Prop} {w : Int} (h : Thr o p) (hw : 0 ≤ w) (hn : ∀ v, p v → 0 ≤ v) : Thr (oadd o w) fun v => p (v - w) := by
  cases o with
  | none => exact fun v _ z => h (v - w) (hn _ z) z
  | some x =>
    have h0 := h.1
    refine ⟨by show 0 ≤ x + w; omega, fun v hv => ?_⟩
    show p (v - w) ↔ x + w ≤ v
    rcases Int.lt_or_le (v - w) 0 with c | c
    · exact ⟨fun z => by have := hn _ z; omega, fun z => by omega⟩
    · rw [h.2 (v - w) c]; omega
theorem fold_or {α : Type} {f : α → Option Int} {p : α → Int → Prop} : ∀ (xs : List α) (acc : Option Int) (P : Int → Prop), Thr acc P → (∀ x ∈ xs, Thr (f x) (p x)) → Thr (xs.foldl (fun a x => omin a (f x)) acc) fun v => P v ∨ ∃ x ∈ xs, p x v
  | [], acc, P, h, _ => h.congr fun v _ => ⟨.inl, fun z => z.resolve_right fun ⟨x, hx, _⟩ => (nomatch hx)⟩
  | x :: xs, acc, P, h, hx => by
    rw [List.foldl_cons]
    refine (fold_or xs _ _ (h.omin (hx x List.mem_cons_self)) fun y hy => hx y (List.mem_cons_of_mem _ hy)).congr fun v _ => ⟨fun z => ?_, fun z => ?_⟩
    · rcases z with (z | z) | ⟨y, hy, z⟩
      · exact .inl z
      · exact .inr ⟨x, List.mem_cons_self, z⟩
      · exact .inr ⟨y, List.mem_cons_of_mem _ hy, z⟩
    · rcases z with z | ⟨y, hy, z⟩
      · exact .inl (.inl z)
      · rcases List.mem_cons.mp hy with e | hy
        · rw [e] at z; exact .inl (.inr z)
        · exact .inr ⟨y, hy, z⟩
theorem fold_and {α : Type} {f : α → Option Int} {p : α → Int → Prop} : ∀ (xs : List α) (acc : Option Int) (P : Int → Prop), Thr acc P → (∀ x ∈ xs, Thr (f x) (p x)) → Thr (xs.foldl (fun a x => omax a (f x)) acc) fun v => P v ∧ ∀ x ∈ xs, p x v
  | [], acc, P, h, _ => h.congr fun v _ => ⟨fun z => ⟨z, fun x hx => (nomatch hx)⟩, fun z => z.1⟩
  | x :: xs, acc, P, h, hx => by
    rw [List.foldl_cons]
    refine (fold_and xs _ _ (h.omax (hx x List.mem_cons_self)) fun y hy => hx y (List.mem_cons_of_mem _ hy)).congr fun v _ => ⟨fun z => ⟨z.1.1, fun y hy => ?_⟩, fun z => ⟨⟨z.1, z.2 x List.mem_cons_self⟩, fun y hy => z.2 y (List.mem_cons_of_mem _ hy)⟩⟩
    rcases List.mem_cons.mp hy with e | hy
    · rw [e]; exact z.1.2
    · exact z.2 y hy
theorem thr_none : Thr none fun _ => False := fun v _ z => z
theorem thr_zero : Thr (some 0) fun _ => True := ⟨Int.le_refl 0, fun v hv => ⟨fun _ => hv, fun _ => trivial⟩⟩
theorem line_thr {b : Rw} (hb : BOk b) {zs : List Zn} (ok : ∀ z ∈ zs, ZOk z) {l : Ln} {n : Nat} (hl : LOk n l) : Thr (lineT b zs l) (LineBy (look b) zs l) := by
  unfold lineT LineBy
  cases e : l.an with
  | true =>
    rw [if_pos rfl]
    refine (thr_add (fold_or l.zs none _ thr_none fun i _ => ask_thr hb ok i) hl.w0 fun v z => ?_).congr fun v _ => ?_
    · rcases z with z | ⟨i, _, z⟩
      · exact z.elim
      · exact ask_neg hb ok z
    · rw [if_pos rfl]
      exact ⟨fun z => z.resolve_left id, .inr⟩
  | false =>
    rw [if_neg Bool.false_ne_true]
    refine (thr_add (fold_and l.zs (some 0) _ thr_zero fun i _ => ask_thr hb ok i) hl.w0 fun v z => ?_).congr fun v _ => ?_
    · have lo := hl.lo
      cases ez : l.zs with
      | nil => rw [ez] at lo; exact absurd lo (by decide)
      | cons i is => exact ask_neg hb ok (z.2 i (by rw [ez]; exact List.mem_cons_self))
    · rw [if_neg Bool.false_ne_true]
      exact ⟨fun z => z.2, fun z => ⟨trivial, z⟩⟩
theorem out_thr {b : Rw} (hb : BOk b) {zs : List Zn} (ok : ∀ z ∈ zs, ZOk z) {ls : List Ln} {n : Nat} (hl : ∀ l ∈ ls, LOk n l) (k : Nat) : Thr (outT b zs ls k) (OutBy (look b) zs ls k) := by
  have key : ∀ (ls : List Ln) (acc : Option Int) (P : Int → Prop), Thr acc P → (∀ l ∈ ls, LOk n l) → Thr (ls.foldl (fun a l => if l.out = k then omin a (lineT b zs l) else a) acc) fun v => P v ∨ OutBy (look b) zs ls k v := by
    intro ls
    induction ls with
    | nil => exact fun acc P h _ => h.congr fun v _ => ⟨.inl, fun z => z.resolve_right fun ⟨x, hx, _⟩ => (nomatch hx)⟩
    | cons l ls ih =>
      intro acc P h hl
      rw [List.foldl_cons]
      have rest := fun x hx => hl x (List.mem_cons_of_mem _ hx)
      by_cases c : l.out = k
      · rw [if_pos c]
        refine (ih _ _ (h.omin (line_thr hb ok (hl l List.mem_cons_self))) rest).congr fun v _ => ⟨fun z => ?_, fun z => ?_⟩
        · rcases z with (z | z) | ⟨y, hy, z⟩
          · exact .inl z
          · exact .inr ⟨l, List.mem_cons_self, c, z⟩
          · exact .inr ⟨y, List.mem_cons_of_mem _ hy, z⟩
        · rcases z with z | ⟨y, hy, z1, z⟩
          · exact .inl (.inl z)
          · rcases List.mem_cons.mp hy with e | hy
            · rw [e] at z; exact .inl (.inr z)
            · exact .inr ⟨y, hy, z1, z⟩
      · rw [if_neg c]
        refine (ih _ _ h rest).congr fun v _ => ⟨fun z => ?_, fun z => ?_⟩
        · rcases z with z | ⟨y, hy, z⟩
          · exact .inl z
          · exact .inr ⟨y, List.mem_cons_of_mem _ hy, z⟩
        · rcases z with z | ⟨y, hy, z1, z⟩
          · exact .inl z
          · rcases List.mem_cons.mp hy with e | hy
            · rw [e] at z1; exact absurd z1 c
            · exact .inr ⟨y, hy, z1, z⟩
  exact (key ls none _ thr_none hl).congr fun v _ => ⟨fun z => z.resolve_left id, .inr⟩
/-! ### the greatest of rows -/
def acc1 (acc : Option Int) (x : Int) : Int := match acc with
  | none => x
  | some a => max a x
def behT (f : Rw → Option Int) : Option Int → List Rw → Option Int
  | acc, [] => acc
  | acc, r :: rs => match f r with
    | none => none
    | some x => behT f (some (acc1 acc x)) rs
def IsBeh (f : Rw → Option Int) (G : List Rw) (o : Option Int) : Prop := match o with
  | none => ∃ r ∈ G, f r = none
  | some m => (∀ r ∈ G, ∃ x, f r = some x ∧ x ≤ m) ∧ ∃ r ∈ G, f r = some m
theorem IsBeh.unique {f g : Rw → Option Int} {G G' : List Rw} {o o' : Option Int} (hG : ∀ r, r ∈ G ↔ r ∈ G') (hf : ∀ r ∈ G, f r = g r) (h : IsBeh f G o) (h' : IsBeh g G' o') : o = o' := by
  cases o with
  | none =>
    obtain ⟨r, hr, e⟩ := h
    cases o' with
    | none => rfl
    | some m =>
      obtain ⟨x, e2, _⟩ := h'.1 r ((hG r).mp hr)
      rw [← hf r hr, e] at e2
      exact nomatch e2
  | some m =>
    cases o' with
    | none =>
      obtain ⟨r, hr, e⟩ := h'
      obtain ⟨x, e2, _⟩ := h.1 r ((hG r).mpr hr)
      rw [hf r ((hG r).mpr hr), e] at e2
      exact nomatch e2
    | some m' =>
      obtain ⟨r, hr, e⟩ := h.2
      obtain ⟨r', hr', e'⟩ := h'.2
      obtain ⟨x, e2, l1⟩ := h'.1 r ((hG r).mp hr)
      obtain ⟨x', e2', l2⟩ := h.1 r' ((hG r').mpr hr')
      rw [← hf r hr, e] at e2
      cases e2
      rw [hf r' ((hG r').mpr hr'), e'] at e2'
      cases e2'
      rw [show m = m' by omega]
theorem behT_some (f : Rw → Option Int) : ∀ (G : List Rw) (a : Int), match behT f (some a) G with
    | none => ∃ r ∈ G, f r = none
    | some m => a ≤ m ∧ (∀ r ∈ G, ∃ x, f r = some x ∧ x ≤ m) ∧ (m = a ∨ ∃ r ∈ G, f r = some m)
  | [], a => ⟨Int.le_refl a, fun r hr => (nomatch hr), .inl rfl⟩
  | r :: G, a => by
    cases e : f r with
    | none =>
      have : behT f (some a) (r :: G) = none := by unfold behT; rw [e]
      rw [this]
      exact ⟨r, List.mem_cons_self, e⟩
    | some x =>
      have : behT f (some a) (r :: G) = behT f (some (max a x)) G := by
        show (match f r with | none => none | some x => behT f (some (max a x)) G) = _
        rw [e]
      rw [this]
      have ih := behT_some f G (max a x)
      cases eb : behT f (some (max a x)) G with
      | none =>
        rw [eb] at ih
        obtain ⟨s, hs, k⟩ := ih
        exact ⟨s, List.mem_cons_of_mem _ hs, k⟩
      | some m =>
        rw [eb] at ih
        obtain ⟨i1, i2, i3⟩ := ih
        refine ⟨by omega, fun s hs => ?_, ?_⟩
        · rcases List.mem_cons.mp hs with z | hs
          · rw [z]; exact ⟨x, e, by omega⟩
          · exact i2 s hs
        · rcases i3 with i3 | ⟨s, hs, i3⟩
          · by_cases c : a ≤ x
            · exact .inr ⟨r, List.mem_cons_self, by rw [e]; congr 1; omega⟩
            · exact .inl (by omega)
          · exact .inr ⟨s, List.mem_cons_of_mem _ hs, i3⟩
theorem behT_is (f : Rw → Option Int) {G : List Rw} (hG : G ≠ []) : IsBeh f G (behT f none G) := by
  cases G with
  | nil => exact absurd rfl hG
  | cons r G =>
    cases e : f r with
    | none =>
      have : behT f none (r :: G) = none := by unfold behT; rw [e]
      rw [this]
      exact ⟨r, List.mem_cons_self, e⟩
    | some x =>
      have : behT f none (r :: G) = behT f (some x) G := by
        show (match f r with | none => none | some x => behT f (some x) G) = _
        rw [e]
      rw [this]
      have ih := behT_some f G x
      cases eb : behT f (some x) G with
      | none =>
        rw [eb] at ih
        obtain ⟨s, hs, k⟩ := ih
        exact ⟨s, List.mem_cons_of_mem _ hs, k⟩
      | some m =>
        rw [eb] at ih
        obtain ⟨i1, i2, i3⟩ := ih
        refine ⟨fun s hs => ?_, ?_⟩
        · rcases List.mem_cons.mp hs with z | hs
          · rw [z]; exact ⟨x, e, i1⟩
          · exact i2 s hs
        · rcases i3 with i3 | ⟨s, hs, i3⟩
          · exact ⟨r, List.mem_cons_self, by rw [i3, e]⟩
          · exact ⟨s, List.mem_cons_of_mem _ hs, i3⟩
/-! ### begins_of, late_by -/
structure Zr (r : Rw) : Prop where
  can : Can r
  z : ∀ p ∈ r, p.2 = 0
theorem ins_mapF {α : Type} {f : α → Int} : ∀ xs : List α, ins (xs.map fun x => .int (f x)) = some (xs.map f)
  | [] => rfl
  | x :: xs => by
    rw [List.map_cons, List.map_cons]
    show (ins (xs.map fun x => .int (f x))).map (f x :: ·) = _
    rw [ins_mapF xs] <;> rfl
theorem maxL_zero : ∀ (xs : List Int), (∀ x ∈ xs, x = 0) → maxL 0 xs = 0
  | [], _ => rfl
  | x :: xs, h => by
    show maxL (max 0 x) xs = 0
    rw [h x List.mem_cons_self]
    exact maxL_zero xs fun y hy => h y (List.mem_cons_of_mem _ hy)
theorem mMax_zero {r : Rw} (h : Zr r) : mMax [.list (r.map fun p => .int p.2)] = some (.int 0) := by
  show (ins (r.map fun p => .int p.2)).bind _ = _
  rw [ins_mapF]
  cases r with
  | nil => exact absurd rfl h.can.ne
  | cons p r =>
    show some (PyData.int (maxL p.2 (r.map (·.2)))) = _
    rw [h.z p List.mem_cons_self, maxL_zero]
    intro x hx
    obtain ⟨q, hq, rfl⟩ := List.mem_map.mp hx
    exact h.z q (List.mem_cons_of_mem _ hq)
theorem m_begins_of_eq {r : Rw} (h : Zr r) : m_begins_of [eR r] = some (eR r) := by
  show (s_begins_of (rho0 5 [eR r])).bind endD = _
  unfold s_begins_of
  have l : (r.map eP).length ≤ 1000 := by rw [List.length_map]; exact h.can.le
  have a1 : dLc [2, 3] (iSeq (dVar 0)) (bTup [bName 2, bName 3]) dYes (dVar 3) (rho0 5 [eR r]) = some (.list (r.map fun p => .int p.2)) :=
    dLc_of (iSeq_tup (xs := r.map eP) rfl l) (lcL_all (ex := eP) r fun p hp => ⟨[some (eR r), none, some (eS p.1), some (.int p.2), none], rfl, rfl⟩)
  rw [dSeq_nx (dAsg_of (by rw [d1_of a1, mMax_zero h]))]
  have a2 : dLc [4, 3] (iSeq (dVar 0)) (bTup [bName 4, bName 3]) dYes (dTup (dCons (dVar 4) (dCons (dOp bSub (dVar 1) (dVar 3)) dNil))) ((rho0 5 [eR r]).set 1 (some (.int 0))) = some (.list (r.map eP)) :=
    dLc_of (iSeq_tup (xs := r.map eP) rfl l) (lcL_all (ex := eP) r fun p hp => ⟨[some (eR r), some (.int 0), none, some (.int p.2), some (eS p.1)], rfl, by
      have hz := h.z p hp
      have : dTup (dCons (dVar 4) (dCons (dOp bSub (dVar 1) (dVar 3)) dNil)) [some (eR r), some (.int 0), none, some (.int p.2), some (eS p.1)] = some (.tuple [eS p.1, .int (0 - p.2)]) := rfl
      rw [this, hz]
      unfold eP
      rw [hz] <;> rfl⟩)
  rw [dRet_of (d1_of a2)] <;> rfl
theorem rowVal_self {r : Rw} (h : Zr r) : rowVal r r = some 0 := by
  have t := rowVal_by (b := r) (r := r) h.can.nn h.can.nn
  refine t.unique (o' := some 0) ⟨Int.le_refl 0, fun v hv => ⟨fun _ => hv, fun _ p hp => ⟨p.2, look_of h.can.nodup hp, ?_⟩⟩⟩
  rw [h.z p hp]
  omega
theorem m_late_by_eq {F G : List Rw} {n m : Nat} (hF : Fm n F) (hn : n ≤ 60) (hG : Fm m G) (hm : m ≤ 60) (hz : ∀ r ∈ G, Zr r) (hne : G ≠ []) : m_late_by [eF F, eF G] = some (eO (behT (fun r => valF r F) none G)) := by
  have hF1 := hF.len
  have hG1 := hG.len
  show (s_late_by (rho0 9 [eF F, eF G])).bind endD = _
  unfold s_late_by
  have t1 : dCall 1 m_tupled (dCons (dVar 0) dNil) (rho0 9 [eF F, eF G]) = some (eF F) := tupd_call (by omega) hF.can rfl
  rw [dSeq_nx (dPar_of (cons_of t1 (cons_of (x := .none) rfl (nil_of _))))]
  have c1 : dOp bEq (d1 mLen (dVar 1)) (dC (.int 0)) [some (eF F), some (eF G), some (eF F), some .none, none, none, none, none, none] = some (.bool false) := by
    have l1 : d1 mLen (dVar 1) [some (eF F), some (eF G), some (eF F), some .none, none, none, none, none, none] = some (.int G.length) := by
      rw [d1_of (x := eF G) rfl]
      show some (PyData.int ((G.map eR).length : Nat)) = _
      rw [List.length_map]
    rw [dOp_of l1 (y := .int 0) rfl]
    show some (PyData.bool (decide ((G.length : Int) = 0))) = _
    have : G.length ≠ 0 := fun e => hne (List.eq_nil_of_length_eq_zero e)
    rw [decide_eq_false (by omega)]
  rw [dSeq_nx (ρ' := [some (eF F), some (eF G), some (eF F), some .none, none, none, none, none, none]) (by
    show dIfS _ _ _ [some (eF F), some (eF G), some (eF F), some .none, none, none, none, none, none] = _
    rw [dIfS_f c1] <;> rfl)]
  have key : ∀ (G' : List Rw) (acc : Option Int) (u4 u5 u6 u7 u8 : Option PyData), (∀ r ∈ G', Zr r) →
      (forL (bName 4) (dSeq (dAsg (dCall 1 m_begins_of (dCons (dVar 4) dNil)) (bName 5)) (dSeq (dAsg (d1 mDict (dVar 5)) (bName 6)) (dSeq (dAsg (dCall 2 m_value_at (dCons (dVar 2) (dCons (dVar 6) dNil))) (bName 7)) (dSeq (dIfS (dOp bIsN (dVar 7) (dC .none)) (dRet (dC .none)) dNext) (dSeq (dAsg (dOp bSub (dVar 7) (dCall 2 m_row_at (dCons (dVar 4) (dCons (dVar 6) dNil)))) (bName 8)) (dAsg (dIf (dOp bIsN (dVar 3) (dC .none)) (dVar 8) (d2 mMax (dVar 3) (dVar 8))) (bName 3))))))) (G'.map eR) [some (eF F), some (eF G), some (eF F), some (eO acc), u4, u5, u6, u7, u8] = some (.rt .none) ∧ behT (fun r => valF r F) acc G' = none) ∨
      ∃ v4 v5 v6 v7 v8, forL (bName 4) (dSeq (dAsg (dCall 1 m_begins_of (dCons (dVar 4) dNil)) (bName 5)) (dSeq (dAsg (d1 mDict (dVar 5)) (bName 6)) (dSeq (dAsg (dCall 2 m_value_at (dCons (dVar 2) (dCons (dVar 6) dNil))) (bName 7)) (dSeq (dIfS (dOp bIsN (dVar 7) (dC .none)) (dRet (dC .none)) dNext) (dSeq (dAsg (dOp bSub (dVar 7) (dCall 2 m_row_at (dCons (dVar 4) (dCons (dVar 6) dNil)))) (bName 8)) (dAsg (dIf (dOp bIsN (dVar 3) (dC .none)) (dVar 8) (d2 mMax (dVar 3) (dVar 8))) (bName 3))))))) (G'.map eR) [some (eF F), some (eF G), some (eF F), some (eO acc), u4, u5, u6, u7, u8] =
        some (.nx [some (eF F), some (eF G), some (eF F), some (eO (behT (fun r => valF r F) acc G')), v4, v5, v6, v7, v8]) := by
    intro G'
    induction G' with
    | nil => exact fun acc u4 u5 u6 u7 u8 _ => .inr ⟨u4, u5, u6, u7, u8, rfl⟩
    | cons r G' ih =>
      intro acc u4 u5 u6 u7 u8 hz
      have zr := hz r List.mem_cons_self
      have rest := fun s hs => hz s (List.mem_cons_of_mem _ hs)
      rw [List.map_cons]
      have b1 : dAsg (dCall 1 m_begins_of (dCons (dVar 4) dNil)) (bName 5) [some (eF F), some (eF G), some (eF F), some (eO acc), some (eR r), u5, u6, u7, u8] = some (.nx [some (eF F), some (eF G), some (eF F), some (eO acc), some (eR r), some (eR r), u6, u7, u8]) := by
        rw [dAsg_of (by rw [dCall1_of (x := eR r) rfl, m_begins_of_eq zr])] <;> rfl
      have b2 : dAsg (d1 mDict (dVar 5)) (bName 6) [some (eF F), some (eF G), some (eF F), some (eO acc), some (eR r), some (eR r), u6, u7, u8] = some (.nx [some (eF F), some (eF G), some (eF F), some (eO acc), some (eR r), some (eR r), some (eDict r), u7, u8]) := by
        rw [dAsg_of (by rw [d1_of (x := eR r) rfl, mDict_enc zr.can.nodup zr.can.le])] <;> rfl
      have b3 : dAsg (dCall 2 m_value_at (dCons (dVar 2) (dCons (dVar 6) dNil))) (bName 7) [some (eF F), some (eF G), some (eF F), some (eO acc), some (eR r), some (eR r), some (eDict r), u7, u8] = some (.nx [some (eF F), some (eF G), some (eF F), some (eO acc), some (eR r), some (eR r), some (eDict r), some (eO (valF r F)), u8]) := by
        rw [dAsg_of (by rw [dCall2_of (x := eF F) (y := eDict r) rfl rfl, m_value_at_eq (by omega) fun s hs => (hF.can s hs).le])] <;> rfl
      cases e : valF r F with
      | none =>
        left
        constructor
        · show ((dSeq _ _ [some (eF F), some (eF G), some (eF F), some (eO acc), some (eR r), u5, u6, u7, u8]).bind _) = _
          rw [dSeq_nx b1, dSeq_nx b2, dSeq_nx b3, e] <;> rfl
        · show (match valF r F with | none => none | some x => behT _ _ G') = none
          rw [e]
      | some x =>
        have b4 : dAsg (dOp bSub (dVar 7) (dCall 2 m_row_at (dCons (dVar 4) (dCons (dVar 6) dNil)))) (bName 8) [some (eF F), some (eF G), some (eF F), some (eO acc), some (eR r), some (eR r), some (eDict r), some (.int x), u8] = some (.nx [some (eF F), some (eF G), some (eF F), some (eO acc), some (eR r), some (eR r), some (eDict r), some (.int x), some (.int x)]) := by
          have r0 : dCall 2 m_row_at (dCons (dVar 4) (dCons (dVar 6) dNil)) [some (eF F), some (eF G), some (eF F), some (eO acc), some (eR r), some (eR r), some (eDict r), some (.int x), u8] = some (.int 0) := by
            rw [dCall2_of (x := eR r) (y := eDict r) rfl rfl, m_row_at_eq zr.can.le, rowVal_self zr] <;> rfl
          have r1 : dOp bSub (dVar 7) (dCall 2 m_row_at (dCons (dVar 4) (dCons (dVar 6) dNil))) [some (eF F), some (eF G), some (eF F), some (eO acc), some (eR r), some (eR r), some (eDict r), some (.int x), u8] = some (.int x) := by
            rw [dOp_of (x := .int x) rfl r0]
            show some (PyData.int (x - 0)) = _
            rw [Int.sub_zero]
          rw [dAsg_of r1] <;> rfl
        have b5 : dAsg (dIf (dOp bIsN (dVar 3) (dC .none)) (dVar 8) (d2 mMax (dVar 3) (dVar 8))) (bName 3) [some (eF F), some (eF G), some (eF F), some (eO acc), some (eR r), some (eR r), some (eDict r), some (.int x), some (.int x)] = some (.nx [some (eF F), some (eF G), some (eF F), some (eO (some (acc1 acc x))), some (eR r), some (eR r), some (eDict r), some (.int x), some (.int x)]) := by
          cases acc <;> rfl
        have step : (dSeq (dAsg (dCall 1 m_begins_of (dCons (dVar 4) dNil)) (bName 5)) (dSeq (dAsg (d1 mDict (dVar 5)) (bName 6)) (dSeq (dAsg (dCall 2 m_value_at (dCons (dVar 2) (dCons (dVar 6) dNil))) (bName 7)) (dSeq (dIfS (dOp bIsN (dVar 7) (dC .none)) (dRet (dC .none)) dNext) (dSeq (dAsg (dOp bSub (dVar 7) (dCall 2 m_row_at (dCons (dVar 4) (dCons (dVar 6) dNil)))) (bName 8)) (dAsg (dIf (dOp bIsN (dVar 3) (dC .none)) (dVar 8) (d2 mMax (dVar 3) (dVar 8))) (bName 3))))))) [some (eF F), some (eF G), some (eF F), some (eO acc), some (eR r), u5, u6, u7, u8] = some (.nx [some (eF F), some (eF G), some (eF F), some (eO (some (acc1 acc x))), some (eR r), some (eR r), some (eDict r), some (.int x), some (.int x)]) := by
          rw [dSeq_nx b1, dSeq_nx b2, dSeq_nx b3, e]
          rw [dSeq_nx (ρ' := [some (eF F), some (eF G), some (eF F), some (eO acc), some (eR r), some (eR r), some (eDict r), some (.int x), u8]) rfl]
          rw [dSeq_nx b4, b5]
        have bt : behT (fun r => valF r F) acc (r :: G') = behT (fun r => valF r F) (some (acc1 acc x)) G' := by
          show (match valF r F with | none => none | some x => behT (fun r => valF r F) (some (acc1 acc x)) G') = _
          rw [e]
        rw [bt]
        show ((((dSeq _ _ [some (eF F), some (eF G), some (eF F), some (eO acc), some (eR r), u5, u6, u7, u8]).bind _) = _) ∧ _) ∨ ∃ v4 v5 v6 v7 v8, ((dSeq _ _ [some (eF F), some (eF G), some (eF F), some (eO acc), some (eR r), u5, u6, u7, u8]).bind _) = _
        rw [step]
        exact ih (acc1 acc x) (some (eR r)) (some (eR r)) (some (eDict r)) (some (.int x)) (some (.int x)) rest
  have t2 : dCall 1 m_tupled (dCons (dVar 1) dNil) [some (eF F), some (eF G), some (eF F), some .none, none, none, none, none, none] = some (eF G) := tupd_call (by omega) hG.can rfl
  have it := iSeq_tup (xs := G.map eR) t2 (by rw [List.length_map]; omega)
  rcases key G none none none none none none hz with ⟨k1, k2⟩ | ⟨v4, v5, v6, v7, v8, k1⟩
  · rw [dSeq_rt (by
      unfold dFor
      rw [it]
      exact k1), k2] <;> rfl
  · rw [dSeq_nx (by
      unfold dFor
      rw [it]
      exact k1)] <;> rfl
end SK
set_option maxHeartbeats 2000000
/-! The plain law: on_within, least_shorter. -/
namespace SK
open PySem PySem.Spec PyProof.Rows L2
theorem dCallN_of {n : Nat} {m : List PyData → Option PyData} {d : DA} {ρ : Rho} {xs : List PyData} (h : d ρ = some xs) (hl : xs.length = n) : dCall n m d ρ = m xs := by
  unfold dCall
  rw [h]
  exact if_pos hl
/-! ### is_prompt -/
def behindT (zs : List Zn) (ls : List Ln) (k : Nat) (z : Zn) : Option Int := behT (fun r => outT r zs ls k) none (rowsOf z.sp z.kn)
def promptT (o : Option Int) (many : Int) : Bool := match o with
  | none => false
  | some m => decide (m ≤ many)
theorem rows_ne {z : Zn} (ok : ZOk z) : rowsOf z.sp z.kn ≠ [] := by
  have lo := ok.sp.lo
  unfold rowsOf
  rcases ok.kn with k | ⟨k, k2⟩
  · rw [if_pos k]
    cases e : z.sp with
    | nil => rw [e] at lo; exact absurd lo (by decide)
    | cons s ss => exact fun h => nomatch h
  · rw [if_neg (by rw [k]; decide)]
    match e : z.sp, k2 with
    | [], k2 => exact absurd k2 (by decide)
    | [_], k2 => exact absurd k2 (Nat.not_succ_le_self 1)
    | _ :: _ :: _, _ => exact fun h => nomatch h
theorem m_is_prompt_eq {h : Hs} (ok : HOk h) {ls : List Ln} (hls : ∀ l ∈ ls, LOk h.zs.length l) (hlen : ls.length ≤ 5) {k : Nat} (hk : k ≤ 1) {i : Nat} {z : Zn} (hz : h.zs[i]? = some z) (many : Int) :
    m_is_prompt [eH h, eLs ls, .int (k : Int), .int (i : Int), .int many] = some (.bool (promptT (behindT h.zs ls k z) many)) := by
  have zok := ok.zs z (List.mem_of_getElem? hz)
  obtain ⟨F, f1, f2, f3⟩ := m_form_of_out_eq ok hls hlen k hk
  obtain ⟨G, g1, g2, g3⟩ := m_form_of_zone_eq hz zok
  have zr : ∀ r ∈ G, Zr r := fun r hr => ⟨(rowsOf_mem zok r ((g3 r).mp hr)).1, (rowsOf_mem zok r ((g3 r).mp hr)).2⟩
  have gne : G ≠ [] := fun e => by
    have := rows_ne zok
    cases er : rowsOf z.sp z.kn with
    | nil => exact this er
    | cons r rs =>
      have hm := (g3 r).mpr (by rw [er]; exact List.mem_cons_self)
      rw [e] at hm
      exact nomatch hm
  have late : behT (fun r => valF r F) none G = behindT h.zs ls k z := by
    refine IsBeh.unique g3 (fun r hr => ?_) (behT_is _ gne) (behT_is _ (rows_ne zok))
    have bo : BOk r := ⟨(zr r hr).can.nn⟩
    have t1 := valF_by (b := r) (F := F) bo.nn fun s hs => (f2.can s hs).nn
    have t2 := out_thr bo ok.zs hls k
    exact (t1.congr fun v _ => f3 (look r) v).unique t2
  show (s_is_prompt (rho0 6 [eH h, eLs ls, .int (k : Int), .int (i : Int), .int many])).bind endD = _
  unfold s_is_prompt
  have e1 : dCall 4 m_form_of_out (dCons (dVar 0) (dCons (dVar 1) (dCons (dVar 2) (dCons (dTup dNil) dNil)))) (rho0 6 [eH h, eLs ls, .int (k : Int), .int (i : Int), .int many]) = some (eF F) := f1
  have e2 : dCall 3 m_form_of_zone (dCons (dVar 0) (dCons (dVar 3) (dCons (dTup dNil) dNil))) (rho0 6 [eH h, eLs ls, .int (k : Int), .int (i : Int), .int many]) = some (eF G) := g1
  have e3 : dCall 2 m_late_by (dCons (dCall 4 m_form_of_out (dCons (dVar 0) (dCons (dVar 1) (dCons (dVar 2) (dCons (dTup dNil) dNil))))) (dCons (dCall 3 m_form_of_zone (dCons (dVar 0) (dCons (dVar 3) (dCons (dTup dNil) dNil)))) dNil)) (rho0 6 [eH h, eLs ls, .int (k : Int), .int (i : Int), .int many]) = some (eO (behindT h.zs ls k z)) := by
    rw [dCall2_of e1 e2, m_late_by_eq f2 (by decide) g2 (by decide) zr gne, late]
  rw [dSeq_nx (dAsg_of e3)]
  cases behindT h.zs ls k z <;> rfl
/-! ### rising -/
structure WOk (h : Hs) : Prop where
  t : m_tupled [eH h] = some (eH h)
theorem m_rises_eq {h : Hs} (w : WOk h) (ok : HOk h) : m_rises [eH h] = some (.bool true) := by
  have h1 := ok.z1
  have h2 := ok.l1
  show (s_rises (rho0 4 [eH h])).bind endD = _
  unfold s_rises
  have a1 : dAsg (dCall 1 m_tupled (dCons (dVar 0) dNil)) (bName 1) (rho0 4 [eH h]) = some (.nx [some (eH h), some (eH h), none, none]) := by
    rw [dAsg_of (by rw [dCall1_of (x := eH h) rfl, w.t])] <;> rfl
  rw [dSeq_nx a1]
  have all_true : ∀ {α : Type} (xs : List α), mAll [.list (xs.map fun _ => .bool true)] = some (.bool true) := fun xs => by
    have q : (xs.map fun _ => PyData.bool true) = (xs.map fun _ => true).map .bool := by rw [List.map_map] <;> rfl
    rw [q, mAll_map, List.all_map]
    have : (xs.all (id ∘ fun _ => true)) = true := List.all_eq_true.mpr fun _ _ => rfl
    rw [this]
  have l1 : dLc [2] (iSeq (dOp bIx (dVar 1) (dC (.int 1)))) (bName 2) dYes (dOp bIsN (dOp bIx (dVar 2) (dC (.int 2))) (dC .none)) [some (eH h), some (eH h), none, none] = some (.list (h.zs.map fun _ => .bool true)) :=
    dLc_of (iSeq_tup (xs := h.zs.map eZ) rfl (by rw [List.length_map]; omega)) (lcL_all (ex := eZ) h.zs fun z hz => ⟨[some (eH h), some (eH h), some (eZ z), none], rfl, rfl⟩)
  have l2 : dLc [3] (iSeq (dOp bIx (dVar 1) (dC (.int 2)))) (bName 3) dYes (dOp bEq (dOp bIx (dVar 3) (dC (.int 4))) (dTup dNil)) [some (eH h), some (eH h), none, none] = some (.list (h.ls.map fun _ => .bool true)) := by
    refine dLc_of (iSeq_tup (xs := h.ls.map eL) rfl (by rw [List.length_map]; omega)) (lcL_all (ex := eL) h.ls fun l hl => ⟨[some (eH h), some (eH h), none, some (eL l)], rfl, ?_⟩)
    rw [dOp_of (x := .tuple []) (y := .tuple []) rfl rfl]
    have s1 : SeqAt.shaped (.tuple []) = true := by decide +kernel
    have q1 : PyData.eqv (.tuple []) (.tuple []) = true := by decide +kernel
    unfold bEq
    rw [if_pos (And.intro s1 s1), q1]
  have e1 : dAnd (d1 mAll (dLc [2] (iSeq (dOp bIx (dVar 1) (dC (.int 1)))) (bName 2) dYes (dOp bIsN (dOp bIx (dVar 2) (dC (.int 2))) (dC .none)))) (d1 mAll (dLc [3] (iSeq (dOp bIx (dVar 1) (dC (.int 2)))) (bName 3) dYes (dOp bEq (dOp bIx (dVar 3) (dC (.int 4))) (dTup dNil)))) [some (eH h), some (eH h), none, none] = some (.bool true) := by
    have k1 : d1 mAll (dLc [2] (iSeq (dOp bIx (dVar 1) (dC (.int 1)))) (bName 2) dYes (dOp bIsN (dOp bIx (dVar 2) (dC (.int 2))) (dC .none))) [some (eH h), some (eH h), none, none] = some (.bool true) := by
      rw [d1_of l1, all_true]
    have k2 : d1 mAll (dLc [3] (iSeq (dOp bIx (dVar 1) (dC (.int 2)))) (bName 3) dYes (dOp bEq (dOp bIx (dVar 3) (dC (.int 4))) (dTup dNil))) [some (eH h), some (eH h), none, none] = some (.bool true) := by
      rw [d1_of l2, all_true]
    unfold dAnd
    rw [k1]
    exact k2
  rw [dRet_of e1] <;> rfl
theorem m_rising_eq {h : Hs} (w : WOk h) (ok : HOk h) {x : PyData} (hx : m_tupled [x] = some (eH h)) : m_rising [x] = some (eH h) := by
  show (s_rising (rho0 2 [x])).bind endD = _
  unfold s_rising
  have a1 : dAsg (dCall 1 m_tupled (dCons (dVar 0) dNil)) (bName 1) (rho0 2 [x]) = some (.nx [some x, some (eH h)]) := by
    rw [dAsg_of (by rw [dCall1_of (x := x) rfl, hx])] <;> rfl
  rw [dSeq_nx a1]
  have c1 : dNot (dCall 1 m_rises (dCons (dVar 1) dNil)) [some x, some (eH h)] = some (.bool false) := by
    have : dCall 1 m_rises (dCons (dVar 1) dNil) [some x, some (eH h)] = some (.bool true) := by
      rw [dCall1_of (x := eH h) rfl, m_rises_eq w ok]
    unfold dNot
    rw [this] <;> rfl
  rw [dSeq_nx (ρ' := [some x, some (eH h)]) (by rw [dIfS_f c1] <;> rfl)] <;> rfl
theorem sure_of {x : Nat} {n : Nat} (h : x < n) : (match PyData.bool (decide ((0 : Int) ≤ (x : Int))) with
    | .bool true => some (PyData.bool (decide ((x : Int) < (n : Int))))
    | .bool false => some (.bool false)
    | _ => none) = some (.bool true) := by
  rw [decide_eq_true (by omega : (0 : Int) ≤ (x : Int))]
  show some (PyData.bool (decide ((x : Int) < (n : Int)))) = _
  rw [decide_eq_true (by omega : (x : Int) < (n : Int))]
theorem m_sure_zone_eq {h : Hs} {i : Nat} (hi : i < h.zs.length) : m_sure_zone [eH h, .int (i : Int)] = some .none := by
  show (s_sure_zone (rho0 2 [eH h, .int (i : Int)])).bind endD = _
  have c : dChain bLe bLt (dC (.int 0)) (dVar 1) (d1 mLen (dOp bIx (dVar 0) (dC (.int 1)))) (rho0 2 [eH h, .int (i : Int)]) = some (.bool true) := by
    refine Eq.trans ?_ (sure_of (n := (h.zs.map eZ).length) (by rw [List.length_map]; exact hi))
    rfl
  have c1 : dNot (dChain bLe bLt (dC (.int 0)) (dVar 1) (d1 mLen (dOp bIx (dVar 0) (dC (.int 1))))) (rho0 2 [eH h, .int (i : Int)]) = some (.bool false) := by
    unfold dNot
    rw [c] <;> rfl
  unfold s_sure_zone
  rw [dIfS_f c1] <;> rfl
theorem m_sure_line_eq {h : Hs} {i : Nat} (hi : i < h.ls.length) : m_sure_line [eH h, .int (i : Int)] = some .none := by
  show (s_sure_line (rho0 2 [eH h, .int (i : Int)])).bind endD = _
  have c : dChain bLe bLt (dC (.int 0)) (dVar 1) (d1 mLen (dOp bIx (dVar 0) (dC (.int 2)))) (rho0 2 [eH h, .int (i : Int)]) = some (.bool true) := by
    refine Eq.trans ?_ (sure_of (n := (h.ls.map eL).length) (by rw [List.length_map]; exact hi))
    rfl
  have c1 : dNot (dChain bLe bLt (dC (.int 0)) (dVar 1) (d1 mLen (dOp bIx (dVar 0) (dC (.int 2))))) (rho0 2 [eH h, .int (i : Int)]) = some (.bool false) := by
    unfold dNot
    rw [c] <;> rfl
  unfold s_sure_line
  rw [dIfS_f c1] <;> rfl
theorem m_sure_out_eq {h : Hs} {i : Nat} (hi : i ≤ 1) : m_sure_out [eH h, .int (i : Int)] = some .none := by
  show (s_sure_out (rho0 2 [eH h, .int (i : Int)])).bind endD = _
  have c : dChain bLe bLt (dC (.int 0)) (dVar 1) (d1 mLen (dOp bIx (dVar 0) (dC (.int 3)))) (rho0 2 [eH h, .int (i : Int)]) = some (.bool true) := by
    refine Eq.trans ?_ (sure_of (x := i) (n := 2) (by omega))
    rfl
  have c1 : dNot (dChain bLe bLt (dC (.int 0)) (dVar 1) (d1 mLen (dOp bIx (dVar 0) (dC (.int 3))))) (rho0 2 [eH h, .int (i : Int)]) = some (.bool false) := by
    unfold dNot
    rw [c] <;> rfl
  unfold s_sure_out
  rw [dIfS_f c1] <;> rfl
theorem dDrop_of {d : DE} {ρ : Rho} {x : PyData} (h : d ρ = some x) : dDrop d ρ = some (.nx ρ) := by
  unfold dDrop
  rw [h] <;> rfl
theorem at_lt {α : Type} {xs : List α} {i : Nat} {x : α} (h : xs[i]? = some x) : i < xs.length := by
  rcases Nat.lt_or_ge i xs.length with c | c
  · exact c
  · rw [List.getElem?_eq_none c] at h; exact nomatch h
theorem m_on_within_eq {h : Hs} (w : WOk h) (ok : HOk h) {x : PyData} (hx : m_tupled [x] = some (eH h)) {k : Nat} (hk : k ≤ 1) {i : Nat} {z : Zn} (hz : h.zs[i]? = some z) (many : Int) :
    m_on_within [x, .int (k : Int), .int (i : Int), .int many] = some (.bool (promptT (behindT h.zs h.ls k z) many)) := by
  show (s_on_within (rho0 5 [x, .int (k : Int), .int (i : Int), .int many])).bind endD = _
  unfold s_on_within
  have a1 : dAsg (dCall 1 m_rising (dCons (dVar 0) dNil)) (bName 4) (rho0 5 [x, .int (k : Int), .int (i : Int), .int many]) = some (.nx [some x, some (.int (k : Int)), some (.int (i : Int)), some (.int many), some (eH h)]) := by
    rw [dAsg_of (by rw [dCall1_of (x := x) rfl, m_rising_eq w ok hx])] <;> rfl
  rw [dSeq_nx a1]
  rw [dSeq_nx (dDrop_of (by rw [dCall2_of (x := eH h) (y := .int (i : Int)) rfl rfl, m_sure_zone_eq (at_lt hz)]))]
  rw [dSeq_nx (dDrop_of (by rw [dCall2_of (x := eH h) (y := .int (k : Int)) rfl rfl, m_sure_out_eq hk]))]
  have e1 : dCall 5 m_is_prompt (dCons (dVar 4) (dCons (dOp bIx (dVar 4) (dC (.int 2))) (dCons (dVar 1) (dCons (dVar 2) (dCons (dVar 3) dNil))))) [some x, some (.int (k : Int)), some (.int (i : Int)), some (.int many), some (eH h)] = some (.bool (promptT (behindT h.zs h.ls k z) many)) :=
    m_is_prompt_eq ok ok.ls ok.l1 hk hz many
  rw [dRet_of e1] <;> rfl
/-! ### shorter -/
def lessL (l : Ln) (d : Int) : Ln := { l with wait := l.wait - d }
def shortT (ls : List Ln) (n : Nat) (d : Int) : List Ln := match ls[n]? with
  | some l => ls.take n ++ [lessL l d] ++ ls.drop (n + 1)
  | none => ls
theorem cut_to (xs : List PyData) {n : Nat} (h : n ≤ xs.length) : cutD xs none (some (n : Int)) = xs.take n := by
  unfold cutD
  rw [HT.sIx_none, HT.sIx_nat, List.drop_zero, Nat.min_eq_left h, Nat.sub_zero]
theorem cut_from (xs : List PyData) {n : Nat} (h : n ≤ xs.length) : cutD xs (some (n : Int)) none = xs.drop n := by
  unfold cutD
  rw [HT.sIx_none, HT.sIx_nat, Nat.min_eq_left h]
  exact List.take_of_length_le (by rw [List.length_drop]; omega)
theorem bPlus_tup {xs ys : List PyData} (h : xs.length + ys.length ≤ 1000) : bPlus (.tuple xs) (.tuple ys) = some (.tuple (xs ++ ys)) := if_pos h
theorem m_shorter_eq {ls : List Ln} {n : Nat} {l : Ln} (hl : ls[n]? = some l) (hlen : ls.length ≤ 5) (d : Int) : m_shorter [eLs ls, .int (n : Int), .int d] = some (eLs (shortT ls n d)) := by
  have hn := at_lt hl
  show (s_shorter (rho0 4 [eLs ls, .int (n : Int), .int d])).bind endD = _
  unfold s_shorter
  have a1 : dAsg (dOp bIx (dVar 0) (dVar 1)) (bName 3) (rho0 4 [eLs ls, .int (n : Int), .int d]) = some (.nx [some (eLs ls), some (.int (n : Int)), some (.int d), some (eL l)]) := by
    rw [dAsg_of (x := eL l) (by rw [dOp_of (x := eLs ls) (y := .int (n : Int)) rfl rfl]; exact bIx_map hl)] <;> rfl
  rw [dSeq_nx a1]
  have len : (ls.map eL).length = ls.length := List.length_map _
  have s1 : dSl (dVar 0) oNone (oSome (dVar 1)) [some (eLs ls), some (.int (n : Int)), some (.int d), some (eL l)] = some (.tuple ((ls.take n).map eL)) := by
    show some (PyData.tuple (cutD (ls.map eL) none (some (n : Int)))) = _
    rw [cut_to _ (by omega), List.map_take]
  have s2 : dSl (dVar 0) (oSome (dOp bPlus (dVar 1) (dC (.int 1)))) oNone [some (eLs ls), some (.int (n : Int)), some (.int d), some (eL l)] = some (.tuple ((ls.drop (n + 1)).map eL)) := by
    show some (PyData.tuple (cutD (ls.map eL) (some ((n + 1 : Nat) : Int)) none)) = _
    rw [cut_from _ (by omega), List.map_drop]
  have s3 : dOp bPlus (dOp bPlus (dSl (dVar 3) oNone (oSome (dC (.int 3)))) (dTup (dCons (dOp bSub (dOp bIx (dVar 3) (dC (.int 3))) (dVar 2)) dNil))) (dSl (dVar 3) (oSome (dOp bPlus (dC (.int 3)) (dC (.int 1)))) oNone) [some (eLs ls), some (.int (n : Int)), some (.int d), some (eL l)] = some (eL (lessL l d)) := rfl
  have s4 : dOp bPlus (dSl (dVar 0) oNone (oSome (dVar 1))) (dTup (dCons (dOp bPlus (dOp bPlus (dSl (dVar 3) oNone (oSome (dC (.int 3)))) (dTup (dCons (dOp bSub (dOp bIx (dVar 3) (dC (.int 3))) (dVar 2)) dNil))) (dSl (dVar 3) (oSome (dOp bPlus (dC (.int 3)) (dC (.int 1)))) oNone)) dNil)) [some (eLs ls), some (.int (n : Int)), some (.int d), some (eL l)] = some (.tuple ((ls.take n ++ [lessL l d]).map eL)) := by
    rw [dOp_of s1 (dTup_of (cons_of s3 (nil_of _))), bPlus_tup (by rw [List.length_map, List.length_take, List.length_singleton]; omega), List.map_append] <;> rfl
  rw [dRet_of (by rw [dOp_of s4 s2, bPlus_tup (by rw [List.length_map, List.length_map, List.length_append, List.length_take, List.length_singleton, List.length_drop]; omega)])]
  unfold eLs shortT
  rw [hl, ← List.map_append] <;> rfl
theorem short_mem {ls : List Ln} {n : Nat} {l : Ln} (hl : ls[n]? = some l) {m : Nat} (ok : ∀ l ∈ ls, LOk m l) {d : Int} (h0 : 0 ≤ d) (h1 : d ≤ l.wait) : (∀ x ∈ shortT ls n d, LOk m x) ∧ (shortT ls n d).length = ls.length := by
  have hn := at_lt hl
  unfold shortT
  rw [hl]
  constructor
  · intro x hx
    rcases List.mem_append.mp hx with hx | hx
    · rcases List.mem_append.mp hx with hx | hx
      · exact ok x (List.mem_of_mem_take hx)
      · rw [List.mem_singleton.mp hx]
        have k := ok l (List.mem_of_getElem? hl)
        have k1 := k.w1
        exact ⟨k.lo, k.hi, k.zs, by show 0 ≤ l.wait - d; omega, by show l.wait - d ≤ 20; omega, k.out⟩
    · exact ok x (List.mem_of_mem_drop hx)
  · show (ls.take n ++ [lessL l d] ++ ls.drop (n + 1)).length = _
    rw [List.length_append, List.length_append, List.length_take, List.length_singleton, List.length_drop]
    omega
/-! ### the least -/
def leastT (p : Nat → Bool) : List Nat → Option Int
  | [] => none
  | d :: ds => if p d = true then some (d : Int) else leastT p ds
theorem m_least_shorter_eq {h : Hs} (w : WOk h) (ok : HOk h) {x : PyData} (hx : m_tupled [x] = some (eH h)) {n : Nat} {l : Ln} (hl : h.ls[n]? = some l) {k : Nat} (hk : k ≤ 1) {i : Nat} {z : Zn} (hz : h.zs[i]? = some z) (many : Int) :
    m_least_shorter [x, .int (n : Int), .int (k : Int), .int (i : Int), .int many] = some (eO (leastT (fun d => promptT (behindT h.zs (shortT h.ls n (d : Int)) k z) many) (List.range (l.wait + 1).toNat))) := by
  have lok := ok.ls l (List.mem_of_getElem? hl)
  have w0 := lok.w0
  have w1 := lok.w1
  have hl1 := ok.l1
  show (s_least_shorter (rho0 7 [x, .int (n : Int), .int (k : Int), .int (i : Int), .int many])).bind endD = _
  unfold s_least_shorter
  have a1 : dAsg (dCall 1 m_rising (dCons (dVar 0) dNil)) (bName 5) (rho0 7 [x, .int (n : Int), .int (k : Int), .int (i : Int), .int many]) = some (.nx [some x, some (.int (n : Int)), some (.int (k : Int)), some (.int (i : Int)), some (.int many), some (eH h), none]) := by
    rw [dAsg_of (by rw [dCall1_of (x := x) rfl, m_rising_eq w ok hx])] <;> rfl
  rw [dSeq_nx a1]
  rw [dSeq_nx (dDrop_of (by rw [dCall2_of (x := eH h) (y := .int (i : Int)) rfl rfl, m_sure_zone_eq (at_lt hz)]))]
  rw [dSeq_nx (dDrop_of (by rw [dCall2_of (x := eH h) (y := .int (n : Int)) rfl rfl, m_sure_line_eq (at_lt hl)]))]
  rw [dSeq_nx (dDrop_of (by rw [dCall2_of (x := eH h) (y := .int (k : Int)) rfl rfl, m_sure_out_eq hk]))]
  have key : ∀ (ds : List Nat) (u : Option PyData), (∀ d ∈ ds, (d : Int) ≤ l.wait) →
      (∃ d : Int, forL (bName 6) (dIfS (dCall 5 m_is_prompt (dCons (dVar 5) (dCons (dCall 3 m_shorter (dCons (dOp bIx (dVar 5) (dC (.int 2))) (dCons (dVar 1) (dCons (dVar 6) dNil)))) (dCons (dVar 2) (dCons (dVar 3) (dCons (dVar 4) dNil)))))) (dRet (dVar 6)) dNext) (ds.map eI) [some x, some (.int (n : Int)), some (.int (k : Int)), some (.int (i : Int)), some (.int many), some (eH h), u] = some (.rt (.int d)) ∧ leastT (fun d => promptT (behindT h.zs (shortT h.ls n (d : Int)) k z) many) ds = some d) ∨
      ∃ u', forL (bName 6) (dIfS (dCall 5 m_is_prompt (dCons (dVar 5) (dCons (dCall 3 m_shorter (dCons (dOp bIx (dVar 5) (dC (.int 2))) (dCons (dVar 1) (dCons (dVar 6) dNil)))) (dCons (dVar 2) (dCons (dVar 3) (dCons (dVar 4) dNil)))))) (dRet (dVar 6)) dNext) (ds.map eI) [some x, some (.int (n : Int)), some (.int (k : Int)), some (.int (i : Int)), some (.int many), some (eH h), u] = some (.nx [some x, some (.int (n : Int)), some (.int (k : Int)), some (.int (i : Int)), some (.int many), some (eH h), u']) ∧ leastT (fun d => promptT (behindT h.zs (shortT h.ls n (d : Int)) k z) many) ds = none := by
    intro ds
    induction ds with
    | nil => exact fun u _ => .inr ⟨u, rfl, rfl⟩
    | cons d ds ih =>
      intro u hd
      have hd1 := hd d List.mem_cons_self
      obtain ⟨sm, sl⟩ := short_mem hl ok.ls (d := (d : Int)) (by omega) hd1
      have e1 : dCall 3 m_shorter (dCons (dOp bIx (dVar 5) (dC (.int 2))) (dCons (dVar 1) (dCons (dVar 6) dNil))) [some x, some (.int (n : Int)), some (.int (k : Int)), some (.int (i : Int)), some (.int many), some (eH h), some (eI d)] = some (eLs (shortT h.ls n (d : Int))) := by
        rw [dCall3_of (x := eLs h.ls) (y := .int (n : Int)) (z := .int (d : Int)) rfl rfl rfl, m_shorter_eq hl hl1]
      have e2 : dCall 5 m_is_prompt (dCons (dVar 5) (dCons (dCall 3 m_shorter (dCons (dOp bIx (dVar 5) (dC (.int 2))) (dCons (dVar 1) (dCons (dVar 6) dNil)))) (dCons (dVar 2) (dCons (dVar 3) (dCons (dVar 4) dNil))))) [some x, some (.int (n : Int)), some (.int (k : Int)), some (.int (i : Int)), some (.int many), some (eH h), some (eI d)] = some (.bool (promptT (behindT h.zs (shortT h.ls n (d : Int)) k z) many)) := by
        have e4 : dCons (dVar 2) (dCons (dVar 3) (dCons (dVar 4) dNil)) [some x, some (.int (n : Int)), some (.int (k : Int)), some (.int (i : Int)), some (.int many), some (eH h), some (eI d)] = some [.int (k : Int), .int (i : Int), .int many] := rfl
        have e5 : dVar 5 [some x, some (.int (n : Int)), some (.int (k : Int)), some (.int (i : Int)), some (.int many), some (eH h), some (eI d)] = some (eH h) := rfl
        refine (dCallN_of (n := 5) (cons_of e5 (cons_of e1 e4)) rfl).trans ?_
        exact m_is_prompt_eq ok sm (by omega) hk hz many
      rw [List.map_cons]
      cases ep : promptT (behindT h.zs (shortT h.ls n (d : Int)) k z) many with
      | true =>
        left
        refine ⟨(d : Int), ?_, if_pos ep⟩
        show ((dIfS _ _ _ [some x, some (.int (n : Int)), some (.int (k : Int)), some (.int (i : Int)), some (.int many), some (eH h), some (eI d)]).bind _) = _
        rw [dIfS_t (by rw [e2, ep])] <;> rfl
      | false =>
        have l0 : leastT (fun d => promptT (behindT h.zs (shortT h.ls n (d : Int)) k z) many) (d :: ds) = leastT (fun d => promptT (behindT h.zs (shortT h.ls n (d : Int)) k z) many) ds := if_neg (fun e => Bool.false_ne_true (ep.symm.trans e))
        rw [l0]
        show (∃ d' : Int, ((dIfS _ _ _ [some x, some (.int (n : Int)), some (.int (k : Int)), some (.int (i : Int)), some (.int many), some (eH h), some (eI d)]).bind _) = _ ∧ _) ∨ ∃ u', ((dIfS _ _ _ [some x, some (.int (n : Int)), some (.int (k : Int)), some (.int (i : Int)), some (.int many), some (eH h), some (eI d)]).bind _) = _ ∧ _
        rw [dIfS_f (by rw [e2, ep])]
        exact ih (some (eI d)) fun y hy => hd y (List.mem_cons_of_mem _ hy)
  have it : iSeq (dRgL (dOp bPlus (dOp bIx (dOp bIx (dOp bIx (dVar 5) (dC (.int 2))) (dVar 1)) (dC (.int 3))) (dC (.int 1)))) [some x, some (.int (n : Int)), some (.int (k : Int)), some (.int (i : Int)), some (.int many), some (eH h), none] = some ((List.range (l.wait + 1).toNat).map eI) := by
    have q1 : dOp bIx (dOp bIx (dVar 5) (dC (.int 2))) (dVar 1) [some x, some (.int (n : Int)), some (.int (k : Int)), some (.int (i : Int)), some (.int many), some (eH h), none] = some (eL l) := by
      rw [dOp_of (x := eLs h.ls) (y := .int (n : Int)) rfl rfl]
      exact bIx_map hl
    have q2 : dOp bPlus (dOp bIx (dOp bIx (dOp bIx (dVar 5) (dC (.int 2))) (dVar 1)) (dC (.int 3))) (dC (.int 1)) [some x, some (.int (n : Int)), some (.int (k : Int)), some (.int (i : Int)), some (.int many), some (eH h), none] = some (.int (l.wait + 1)) := by
      rw [dOp_of (x := .int l.wait) (y := .int 1) (by rw [dOp_of q1 (y := .int 3) rfl] <;> rfl) rfl] <;> rfl
    have q3 : dRgL (dOp bPlus (dOp bIx (dOp bIx (dOp bIx (dVar 5) (dC (.int 2))) (dVar 1)) (dC (.int 3))) (dC (.int 1))) [some x, some (.int (n : Int)), some (.int (k : Int)), some (.int (i : Int)), some (.int many), some (eH h), none] = some (.list ((List.range (l.wait + 1).toNat).map eI)) := by
      unfold dRgL
      rw [q2]
      exact if_pos ⟨by omega, by omega⟩
    exact iSeq_lst q3 (by rw [List.length_map, List.length_range]; omega)
  rcases key (List.range (l.wait + 1).toNat) none (fun d hd => by have := List.mem_range.mp hd; omega) with ⟨d, k1, k2⟩ | ⟨u', k1, k2⟩
  · rw [dSeq_rt (by
      unfold dFor
      rw [show iSeq (dRgL (dOp bPlus (dOp bIx (dOp bIx (dOp bIx (dVar 5) (dC (.int 2))) (dVar 1)) (dC (.int 3))) (dC (.int 1)))) _ = _ from it]
      exact k1), k2] <;> rfl
  · rw [dSeq_nx (by
      unfold dFor
      rw [show iSeq (dRgL (dOp bPlus (dOp bIx (dOp bIx (dOp bIx (dVar 5) (dC (.int 2))) (dVar 1)) (dC (.int 3))) (dC (.int 1)))) _ = _ from it]
      exact k1), k2] <;> rfl
end SK
set_option maxHeartbeats 2000000
/-! The plain law: the law's own ticks. -/
namespace SK
open PySem PySem.Spec PyProof.Rows L2
/-! ### kth -/
def byO (v : Int) : Option Int → Bool
  | some t => decide (t ≤ v)
  | none => false
def nums (xs : List (Option Int)) : List Int := xs.filterMap id
theorem nums_count (v : Int) : ∀ xs : List (Option Int), (nums xs).countP (fun t => decide (t ≤ v)) = xs.countP (byO v)
  | [] => rfl
  | none :: xs => by
    have e : nums (none :: xs) = nums xs := rfl
    rw [e, nums_count v xs, List.countP_cons]
    rfl
  | some t :: xs => by
    have e : nums (some t :: xs) = t :: nums xs := rfl
    rw [e, List.countP_cons, List.countP_cons, nums_count v xs]
    rfl
theorem count_zero {v a : Int} : ∀ s : List Int, (∀ y ∈ s, a ≤ y) → ¬ a ≤ v → s.countP (fun t => decide (t ≤ v)) = 0
  | s, h, c => List.countP_eq_zero.mpr fun y hy => by
    have := h y hy
    rw [decide_eq_true_eq]
    omega
theorem sorted_kth : ∀ (s : List Int), s.Pairwise (· ≤ ·) → ∀ (j : Nat) (x : Int), s[j]? = some x → ∀ v, j + 1 ≤ s.countP (fun t => decide (t ≤ v)) ↔ x ≤ v
  | [], _, j, x, h, v => by rw [List.getElem?_nil] at h; exact nomatch h
  | a :: s, so, j, x, h, v => by
    rw [List.pairwise_cons] at so
    rw [List.countP_cons]
    by_cases c : a ≤ v
    · rw [if_pos (decide_eq_true c)]
      cases j with
      | zero =>
        rw [List.getElem?_cons_zero] at h
        cases h
        exact ⟨fun _ => c, fun _ => by omega⟩
      | succ j =>
        rw [List.getElem?_cons_succ] at h
        rw [← sorted_kth s so.2 j x h v]
        omega
    · rw [if_neg (by rw [decide_eq_true_eq]; exact c), count_zero s so.1 c]
      have hx : a ≤ x := by
        cases j with
        | zero => rw [List.getElem?_cons_zero] at h; cases h; exact Int.le_refl _
        | succ j => rw [List.getElem?_cons_succ] at h; exact so.1 x (List.mem_of_getElem? h)
      exact ⟨fun z => by omega, fun z => by omega⟩
theorem sortOk_ints {ns : List Int} (hl : ns.length ≤ 1000) : SortOk (ns.map .int) := by
  refine ⟨fun x hx y hy => ?_, .inr fun x hx => ?_, by rw [List.length_map]; exact hl, fun x hx => ?_⟩
  · obtain ⟨p, _, rfl⟩ := List.mem_map.mp hx
    obtain ⟨q, _, rfl⟩ := List.mem_map.mp hy
    rfl
  · obtain ⟨p, _, rfl⟩ := List.mem_map.mp hx
    exact ⟨fun e => (nomatch e), fun xs e => (nomatch e)⟩
  · obtain ⟨p, _, rfl⟩ := List.mem_map.mp hx
    refine ⟨?_, rfl⟩
    have e : PyData.depth (.int p) = 0 := by simp [PyData.depth]
    omega
theorem sort_ints (ns : List Int) : ∃ s : List Int, (ns.map PyData.int).mergeSort leD = s.map .int ∧ s.Perm ns ∧ s.Pairwise (· ≤ ·) := by
  have e : (ns.mergeSort (PySem.W.dataLe false PyData.int)).map PyData.int = (ns.map PyData.int).mergeSort leD := PySem.W.sort_maps PyData.int fun _ _ _ _ => rfl
  refine ⟨_, e.symm, List.mergeSort_perm _ _, ?_⟩
  have so := leD_sorted (ns.map PyData.int)
  rw [← e, List.pairwise_map] at so
  refine so.imp fun {a b} h => ?_
  have e1 : leD (.int a) (.int b) = !PySem.W.dataLt (.int b) (.int a) := rfl
  rw [e1, PySem.W.dataLt_int] at h
  simp only [Bool.not_eq_true', decide_eq_false_iff_not] at h
  omega
theorem kth_list (xs : List (Option Int)) (ρ : Rho) (hρ : ∀ x, dVar 3 (ρ.set 3 (some x)) = some x) : lcL (bName 3) (dOp bNotN (dVar 3) (dC .none)) (dVar 3) ρ (xs.map eO) = some ((nums xs).map .int) := by
  induction xs with
  | nil => rfl
  | cons o xs ih =>
    rw [List.map_cons]
    have c : dOp bNotN (dVar 3) (dC .none) (ρ.set 3 (some (eO o))) = some (.bool (!isN (eO o))) := by
      rw [dOp_of (hρ _) (y := .none) rfl] <;> rfl
    show ((dOp bNotN (dVar 3) (dC .none) (ρ.set 3 (some (eO o)))).bind _) = _
    rw [c]
    cases o with
    | none =>
      show lcL (bName 3) (dOp bNotN (dVar 3) (dC .none)) (dVar 3) ρ (xs.map eO) = _
      rw [ih] <;> rfl
    | some t =>
      show ((dVar 3 (ρ.set 3 (some (.int t)))).bind fun y => (lcL (bName 3) (dOp bNotN (dVar 3) (dC .none)) (dVar 3) ρ (xs.map eO)).bind fun ys => some (y :: ys)) = _
      rw [hρ, ih] <;> rfl
theorem nums_len (xs : List (Option Int)) : (nums xs).length ≤ xs.length := List.length_filterMap_le _ _
theorem nums_mem {xs : List (Option Int)} {t : Int} (h : t ∈ nums xs) : some t ∈ xs := by
  obtain ⟨o, ho, e⟩ := List.mem_filterMap.mp h
  have e : o = some t := e
  rw [← e]; exact ho
theorem m_law_kth_eq {xs : List (Option Int)} (hl : xs.length ≤ 1000) (h0 : ∀ t, some t ∈ xs → 0 ≤ t) {k : Nat} (hk : 1 ≤ k) : ∃ o, m_law_kth [.list (xs.map eO), .int (k : Int)] = some (eO o) ∧ Thr o fun v => k ≤ xs.countP (byO v) := by
  obtain ⟨s, s1, s2, s3⟩ := sort_ints (nums xs)
  have slen := s2.length_eq
  have hn := nums_len xs
  have count : ∀ v, s.countP (fun t => decide (t ≤ v)) = xs.countP (byO v) := fun v => (s2.countP_eq _).trans (nums_count v xs)
  refine ⟨s[k - 1]?, ?_, ?_⟩
  · show (s_law_kth (rho0 4 [.list (xs.map eO), .int (k : Int)])).bind endD = _
    unfold s_law_kth
    have a1 : dLc [3] (iSeq (dVar 0)) (bName 3) (dOp bNotN (dVar 3) (dC .none)) (dVar 3) (rho0 4 [.list (xs.map eO), .int (k : Int)]) = some (.list ((nums xs).map .int)) :=
      dLc_of (iSeq_lst (xs := xs.map eO) rfl (by rw [List.length_map]; exact hl)) (kth_list xs _ fun x => rfl)
    have a2 : dAsg (d1 mSorted (dLc [3] (iSeq (dVar 0)) (bName 3) (dOp bNotN (dVar 3) (dC .none)) (dVar 3))) (bName 2) (rho0 4 [.list (xs.map eO), .int (k : Int)]) = some (.nx [some (.list (xs.map eO)), some (.int (k : Int)), some (.list (s.map .int)), none]) := by
      rw [dAsg_of (by rw [d1_of a1, mSorted_ok (sortOk_ints (by omega)), s1])] <;> rfl
    rw [dSeq_nx a2]
    have l1 : d1 mLen (dVar 2) [some (.list (xs.map eO)), some (.int (k : Int)), some (.list (s.map .int)), none] = some (.int s.length) := by
      rw [d1_of (x := .list (s.map .int)) rfl]
      show some (PyData.int ((s.map PyData.int).length : Nat)) = _
      rw [List.length_map]
    have c1 : dOp bGe (d1 mLen (dVar 2)) (dVar 1) [some (.list (xs.map eO)), some (.int (k : Int)), some (.list (s.map .int)), none] = some (.bool (decide ((k : Int) ≤ (s.length : Int)))) := by
      rw [dOp_of l1 (y := .int (k : Int)) rfl] <;> rfl
    rcases Nat.lt_or_ge (k - 1) s.length with c | c
    · have c2 : dOp bIx (dVar 2) (dOp bSub (dVar 1) (dC (.int 1))) [some (.list (xs.map eO)), some (.int (k : Int)), some (.list (s.map .int)), none] = some (.int s[k - 1]) := by
        have : dOp bSub (dVar 1) (dC (.int 1)) [some (.list (xs.map eO)), some (.int (k : Int)), some (.list (s.map .int)), none] = some (.int ((k - 1 : Nat) : Int)) := by
          show some (PyData.int ((k : Int) - 1)) = _
          congr 2
          omega
        rw [dOp_of (x := .list (s.map .int)) rfl this]
        exact atI_nat (by rw [List.getElem?_map, List.getElem?_eq_getElem c] <;> rfl)
      rw [dRet_of (by rw [dIf_t (by rw [c1, decide_eq_true (by omega)]), c2]), List.getElem?_eq_getElem c] <;> rfl
    · rw [dRet_of (x := .none) (by rw [dIf_f (by rw [c1, decide_eq_false (by omega)])] <;> rfl), List.getElem?_eq_none c] <;> rfl
  · cases e : s[k - 1]? with
    | none =>
      have c : s.length ≤ k - 1 := List.getElem?_eq_none_iff.mp e
      intro v _ z
      have q := List.countP_le_length (p := fun t => decide (t ≤ v)) (l := s)
      rw [count v] at q
      omega
    | some x =>
      have hm : x ∈ nums xs := s2.mem_iff.mp (List.mem_of_getElem? e)
      refine ⟨h0 x (nums_mem hm), fun v _ => ?_⟩
      have := sorted_kth s s3 (k - 1) x e v
      rw [count v, show k - 1 + 1 = k by omega] at this
      exact this
/-! ### what the counts say -/
theorem count_one {α : Type} {p : α → Bool} {xs : List α} : 1 ≤ xs.countP p ↔ ∃ x ∈ xs, p x = true := by
  rw [Nat.succ_le_iff, List.countP_pos_iff]
theorem count_all {α : Type} {p : α → Bool} {xs : List α} : xs.length ≤ xs.countP p ↔ ∀ x ∈ xs, p x = true := by
  have := List.countP_le_length (p := p) (l := xs)
  rw [← List.countP_eq_length]
  omega
theorem count_two {p : Sp2 → Bool} : ∀ {sp : List Sp2}, sp.Pairwise ltS → (2 ≤ sp.countP p ↔ ∃ s ∈ sp, ∃ t ∈ sp, ltS s t ∧ p s = true ∧ p t = true)
  | [], _ => ⟨fun h => (nomatch h), fun ⟨s, h, _⟩ => (nomatch h)⟩
  | s :: ss, so => by
    rw [List.pairwise_cons] at so
    have ih := count_two (p := p) so.2
    rw [List.countP_cons]
    constructor
    · intro h
      by_cases c : p s = true
      · rw [if_pos c] at h
        obtain ⟨t, ht, k⟩ := count_one.mp (by omega : 1 ≤ ss.countP p)
        exact ⟨s, List.mem_cons_self, t, List.mem_cons_of_mem _ ht, so.1 t ht, c, k⟩
      · rw [if_neg c] at h
        obtain ⟨a, ha, b, hb, k⟩ := ih.mp h
        exact ⟨a, List.mem_cons_of_mem _ ha, b, List.mem_cons_of_mem _ hb, k⟩
    · rintro ⟨a, ha, b, hb, k1, k2, k3⟩
      rcases List.mem_cons.mp ha with ea | ha
      · rcases List.mem_cons.mp hb with eb | hb
        · rw [ea, eb] at k1; exact absurd rfl k1.ne
        · rw [ea] at k2
          rw [if_pos k2]
          have := count_one.mpr ⟨b, hb, k3⟩
          omega
      · rcases List.mem_cons.mp hb with eb | hb
        · rw [eb] at k1; exact (k1.asymm (so.1 a ha)).elim
        · have := ih.mpr ⟨a, ha, b, hb, k1, k2, k3⟩
          omega
theorem byO_iff {b : Sp2 → Option Int} {s : Sp2} {v : Int} : byO v (b s) = true ↔ ∃ t, b s = some t ∧ t ≤ v := by
  cases e : b s with
  | none => exact ⟨fun h => (nomatch h), fun ⟨t, h, _⟩ => (nomatch h)⟩
  | some t =>
    show decide (t ≤ v) = true ↔ _
    rw [decide_eq_true_eq]
    exact ⟨fun h => ⟨t, rfl, h⟩, fun ⟨t', h, h2⟩ => by cases h; exact h2⟩
theorem zone_count {b : Sp2 → Option Int} {z : Zn} (ok : ZOk z) {v : Int} : (z.kn.toNat ≤ (z.sp.map b).countP (byO v)) ↔ ZoneBy b z v := by
  rw [List.countP_map]
  unfold ZoneBy rowsOf
  rcases ok.kn with k | ⟨k, k2⟩
  · rw [k, if_pos rfl]
    show 1 ≤ _ ↔ _
    rw [count_one]
    constructor
    · rintro ⟨s, hs, h⟩
      refine ⟨one s, List.mem_map.mpr ⟨s, hs, rfl⟩, fun p hp => ?_⟩
      rw [List.mem_singleton.mp hp]
      obtain ⟨t, h1, h2⟩ := byO_iff.mp h
      exact ⟨t, h1, by show t + 0 ≤ v; omega⟩
    · rintro ⟨r, hr, h⟩
      obtain ⟨s, hs, rfl⟩ := List.mem_map.mp hr
      obtain ⟨t, h1, h2⟩ := h (s, 0) List.mem_cons_self
      exact ⟨s, hs, byO_iff.mpr ⟨t, h1, by have h2 : t + 0 ≤ v := h2; omega⟩⟩
  · rw [k, if_neg (by decide)]
    show 2 ≤ _ ↔ _
    rw [count_two ok.sp.so]
    constructor
    · rintro ⟨s, hs, t, ht, h, h1, h2⟩
      refine ⟨two s t, (pairsL_mem ok.sp.so _).mpr ⟨s, hs, t, ht, h, rfl⟩, fun p hp => ?_⟩
      rcases List.mem_cons.mp hp with e | hp
      · rw [e]
        obtain ⟨x, h3, h4⟩ := byO_iff.mp h1
        exact ⟨x, h3, by show x + 0 ≤ v; omega⟩
      · rw [List.mem_singleton.mp hp]
        obtain ⟨x, h3, h4⟩ := byO_iff.mp h2
        exact ⟨x, h3, by show x + 0 ≤ v; omega⟩
    · rintro ⟨r, hr, h⟩
      obtain ⟨s, hs, t, ht, hlt, rfl⟩ := (pairsL_mem ok.sp.so _).mp hr
      obtain ⟨x, h1, h2⟩ := h (s, 0) List.mem_cons_self
      obtain ⟨y, h3, h4⟩ := h (t, 0) (List.mem_cons_of_mem _ List.mem_cons_self)
      exact ⟨s, hs, t, ht, hlt, byO_iff.mpr ⟨x, h1, by have h2 : x + 0 ≤ v := h2; omega⟩, byO_iff.mpr ⟨y, h3, by have h4 : y + 0 ≤ v := h4; omega⟩⟩
theorem kth_hour {b : Rw} (hb : BOk b) {z : Zn} (ok : ZOk z) : m_law_kth [.list ((z.sp.map (look b)).map eO), .int z.kn] = some (eO (hourT b z)) := by
  have hi := ok.sp.hi
  have kn : z.kn = (z.kn.toNat : Int) ∧ 1 ≤ z.kn.toNat := by rcases ok.kn with k | ⟨k, _⟩ <;> rw [k] <;> exact ⟨rfl, by decide⟩
  obtain ⟨o, h1, h2⟩ := m_law_kth_eq (xs := z.sp.map (look b)) (by rw [List.length_map]; omega) (fun t ht => by
    obtain ⟨s, _, e⟩ := List.mem_map.mp ht
    exact hb.nn _ (look_mem e)) kn.2
  rw [kn.1, h1]
  rw [(h2.congr fun v _ => zone_count ok).unique (hour_thr hb ok)]
end SK
set_option maxHeartbeats 2000000
/-! The plain law: the law's hours and outs. -/
namespace SK
open PySem PySem.Spec PyProof.Rows L2
structure BN (b : Rw) : Prop where
  nn : ∀ p ∈ b, 0 ≤ p.2
  nd : (b.map (·.1)).Nodup
  len : b.length ≤ 1000
theorem BN.ok {b : Rw} (h : BN b) : BOk b := ⟨h.nn⟩
def hoursT (b : Rw) (zs : List Zn) : List (Option Int) := zs.map (hourT b)
def eHo (xs : List (Option Int)) : PyData := .tuple (xs.map eO)
theorem getE_look (b : Rw) (s : Sp2) : (getE (b.map eEnt) (kS s)).getD .none = eO (look b s) := by
  rw [getE_ent]
  cases look b s <;> rfl
theorem dApp_of {i : Nat} {d : DE} {ρ : Rho} {y : PyData} {ds : List PyData} (h : d (ρ.set i none) = some y) (hi : (ρ[i]?).join = some (.list ds)) (hl : ds.length < 1000) : dApp i d ρ = some (.nx (ρ.set i (some (.list (ds ++ [y]))))) := by
  unfold dApp
  rw [h, hi]
  exact if_pos hl
theorem m_law_hours_eq {h : Hs} (ok : HOk h) {b : Rw} (hb : BN b) : m_law_hours [eH h, eR b] = some (eHo (hoursT b h.zs)) := by
  have hz1 := ok.z1
  have key : ∀ (zs' : List Zn) (ds : List PyData) (u4 u5 u6 : Option PyData), (∀ z ∈ zs', ZOk z) → ds.length + zs'.length ≤ 900 →
      ∃ v4 v5 v6, forL (gO 3 (bTup [bName 4, bName 5, bName 6])) (dApp 3 (dCall 2 m_law_kth (dCons (dLc [7] (iSeq (dVar 4)) (bName 7) dYes (dGet1 (dVar 2) (dVar 7))) (dCons (dVar 5) dNil)))) (zs'.map eZ) [some (eH h), some (eR b), some (eDict b), some (.list ds), u4, u5, u6, none] =
        some (.nx [some (eH h), some (eR b), some (eDict b), some (.list (ds ++ (hoursT b zs').map eO)), v4, v5, v6, none]) := by
    intro zs'
    induction zs' with
    | nil => exact fun ds u4 u5 u6 _ _ => ⟨u4, u5, u6, by show _ = some (Out.nx [_, _, _, some (.list (ds ++ [])), _, _, _, _]); rw [List.append_nil] <;> rfl⟩
    | cons z zs' ih =>
      intro ds u4 u5 u6 hz hl
      rw [List.length_cons] at hl
      have zok := hz z List.mem_cons_self
      have zhi := zok.sp.hi
      obtain ⟨v4, v5, v6, e⟩ := ih (ds ++ [eO (hourT b z)]) (some (.tuple (z.sp.map eS))) (some (.int z.kn)) (some .none) (fun y hy => hz y (List.mem_cons_of_mem _ hy)) (by rw [List.length_append, List.length_singleton]; omega)
      refine ⟨v4, v5, v6, ?_⟩
      rw [List.map_cons]
      have g1 : dLc [7] (iSeq (dVar 4)) (bName 7) dYes (dGet1 (dVar 2) (dVar 7)) [some (eH h), some (eR b), some (eDict b), none, some (.tuple (z.sp.map eS)), some (.int z.kn), some .none, none] = some (.list (z.sp.map fun s => eO (look b s))) := by
        refine dLc_of (iSeq_tup (xs := z.sp.map eS) rfl (by rw [List.length_map]; omega)) (lcL_all (ex := eS) z.sp fun s hs => ⟨[some (eH h), some (eR b), some (eDict b), none, some (.tuple (z.sp.map eS)), some (.int z.kn), some .none, some (eS s)], rfl, ?_⟩)
        show some ((getE (b.map eEnt) (kS s)).getD .none) = _
        rw [getE_look]
      have g2 : dCall 2 m_law_kth (dCons (dLc [7] (iSeq (dVar 4)) (bName 7) dYes (dGet1 (dVar 2) (dVar 7))) (dCons (dVar 5) dNil)) ([some (eH h), some (eR b), some (eDict b), some (.list ds), some (.tuple (z.sp.map eS)), some (.int z.kn), some .none, none].set 3 none) = some (eO (hourT b z)) := by
        rw [dCall2_of (ρ := [some (eH h), some (eR b), some (eDict b), some (.list ds), some (.tuple (z.sp.map eS)), some (.int z.kn), some .none, none].set 3 none) g1 (y := .int z.kn) rfl]
        have := kth_hour hb.ok zok
        rw [List.map_map] at this
        exact this
      have g3 := dApp_of (ρ := [some (eH h), some (eR b), some (eDict b), some (.list ds), some (.tuple (z.sp.map eS)), some (.int z.kn), some .none, none]) (i := 3) g2 rfl (by omega)
      show ((dApp 3 _ [some (eH h), some (eR b), some (eDict b), some (.list ds), some (.tuple (z.sp.map eS)), some (.int z.kn), some .none, none]).bind _) = _
      rw [g3]
      refine Eq.trans e ?_
      have : ds ++ [eO (hourT b z)] ++ (hoursT b zs').map eO = ds ++ (hoursT b (z :: zs')).map eO := by
        rw [List.append_assoc] <;> rfl
      rw [this]
  obtain ⟨v4, v5, v6, e⟩ := key h.zs [] none none none ok.zs (by rw [List.length_nil]; omega)
  show (s_law_hours (rho0 8 [eH h, eR b])).bind endD = _
  unfold s_law_hours
  have a1 : dAsg (d1 mDict (dVar 1)) (bName 2) (rho0 8 [eH h, eR b]) = some (.nx [some (eH h), some (eR b), some (eDict b), none, none, none, none, none]) := by
    rw [dAsg_of (by rw [d1_of (x := eR b) rfl, mDict_enc hb.nd hb.len])] <;> rfl
  rw [dSeq_nx a1]
  have a2 : dOwn 3 (fun _ => some (.list [])) (dForO 3 (iSeq (dOp bIx (dVar 0) (dC (.int 1)))) (bTup [bName 4, bName 5, bName 6]) (dApp 3 (dCall 2 m_law_kth (dCons (dLc [7] (iSeq (dVar 4)) (bName 7) dYes (dGet1 (dVar 2) (dVar 7))) (dCons (dVar 5) dNil))))) [some (eH h), some (eR b), some (eDict b), none, none, none, none, none] = some (.nx [some (eH h), some (eR b), some (eDict b), some (.list ([] ++ (hoursT b h.zs).map eO)), v4, v5, v6, none]) := by
    show (dForO 3 _ _ _ [some (eH h), some (eR b), some (eDict b), some (.list []), none, none, none, none]) = _
    unfold dForO
    rw [show iSeq (dOp bIx (dVar 0) (dC (.int 1))) ([some (eH h), some (eR b), some (eDict b), some (.list []), none, none, none, none].set 3 none) = some (h.zs.map eZ) from iSeq_tup rfl (by rw [List.length_map]; omega)]
    exact e
  rw [dSeq_nx a2] <;> rfl
/-! ### line_hour -/
theorem thr_byO {o : Option Int} {p : Int → Prop} (h : Thr o p) {v : Int} (hv : 0 ≤ v) : byO v o = true ↔ p v := by
  cases o with
  | none => exact ⟨fun z => (nomatch z), fun z => absurd z (h v hv)⟩
  | some x =>
    show decide (x ≤ v) = true ↔ _
    rw [decide_eq_true_eq, h.2 v hv]
def begT (b : Rw) (zs : List Zn) (l : Ln) : Option Int := if l.an = true then l.zs.foldl (fun a i => omin a (askT b zs i)) none else l.zs.foldl (fun a i => omax a (askT b zs i)) (some 0)
theorem line_beg (b : Rw) (zs : List Zn) (l : Ln) : lineT b zs l = oadd (begT b zs l) l.wait := rfl
theorem thr_nn {o : Option Int} {p : Int → Prop} (h : Thr o p) {t : Int} (e : o = some t) : 0 ≤ t := by
  rw [e] at h
  exact h.1
theorem kth_beg {b : Rw} (hb : BOk b) {zs : List Zn} (ok : ∀ z ∈ zs, ZOk z) {l : Ln} {n : Nat} (hl : LOk n l) : m_law_kth [.list ((l.zs.map (askT b zs)).map eO), .int (if l.an = true then 1 else (l.zs.length : Int))] = some (eO (begT b zs l)) := by
  have lo := hl.lo
  have hi := hl.hi
  have nn : ∀ t, some t ∈ l.zs.map (askT b zs) → 0 ≤ t := fun t ht => by
    obtain ⟨i, _, e⟩ := List.mem_map.mp ht
    exact thr_nn (ask_thr hb ok i) e
  unfold begT
  cases ea : l.an with
  | true =>
    rw [if_pos rfl, if_pos rfl]
    obtain ⟨o, h1, h2⟩ := m_law_kth_eq (xs := l.zs.map (askT b zs)) (by rw [List.length_map]; omega) nn (Nat.le_refl 1)
    refine h1.trans ?_
    rw [(h2.congr fun v hv => ?_).unique (fold_or l.zs none _ thr_none fun i _ => ask_thr hb ok i)]
    rw [List.countP_map, count_one]
    exact ⟨fun ⟨i, hi, k⟩ => .inr ⟨i, hi, (thr_byO (ask_thr hb ok i) hv).mp k⟩, fun z => by
      obtain ⟨i, hi, k⟩ := z.resolve_left id
      exact ⟨i, hi, (thr_byO (ask_thr hb ok i) hv).mpr k⟩⟩
  | false =>
    rw [if_neg Bool.false_ne_true, if_neg Bool.false_ne_true]
    obtain ⟨o, h1, h2⟩ := m_law_kth_eq (xs := l.zs.map (askT b zs)) (k := l.zs.length) (by rw [List.length_map]; omega) nn lo
    refine h1.trans ?_
    rw [(h2.congr fun v hv => ?_).unique (fold_and l.zs (some 0) _ thr_zero fun i _ => ask_thr hb ok i)]
    rw [List.countP_map, count_all]
    exact ⟨fun k => ⟨trivial, fun i hi => (thr_byO (ask_thr hb ok i) hv).mp (k i hi)⟩, fun z i hi => (thr_byO (ask_thr hb ok i) hv).mpr (z.2 i hi)⟩
theorem hours_at {b : Rw} {zs : List Zn} {i : Nat} (hi : i < zs.length) : bIx (eHo (hoursT b zs)) (.int (i : Int)) = some (eO (askT b zs i)) := by
  have h1 : (hoursT b zs)[i]? = some (askT b zs i) := by
    unfold hoursT askT
    rw [List.getElem?_map, List.getElem?_eq_getElem hi] <;> rfl
  exact bIx_map h1
theorem m_law_line_hour_eq {b : Rw} (hb : BOk b) {zs : List Zn} (ok : ∀ z ∈ zs, ZOk z) {l : Ln} (hl : LOk zs.length l) : m_law_line_hour [eL l, eHo (hoursT b zs)] = some (.tuple [eO (begT b zs l), eO (lineT b zs l), .bool false]) := by
  have hi := hl.hi
  show (s_law_line_hour (rho0 6 [eL l, eHo (hoursT b zs)])).bind endD = _
  unfold s_law_line_hour
  have a1 : dAsg (dLc [5] (iSeq (dOp bIx (dVar 0) (dC (.int 2)))) (bName 5) dYes (dOp bIx (dVar 1) (dVar 5))) (bName 2) (rho0 6 [eL l, eHo (hoursT b zs)]) = some (.nx [some (eL l), some (eHo (hoursT b zs)), some (.list ((l.zs.map (askT b zs)).map eO)), none, none, none]) := by
    have q : dLc [5] (iSeq (dOp bIx (dVar 0) (dC (.int 2)))) (bName 5) dYes (dOp bIx (dVar 1) (dVar 5)) (rho0 6 [eL l, eHo (hoursT b zs)]) = some (.list (l.zs.map fun i => eO (askT b zs i))) := by
      refine dLc_of (iSeq_tup (xs := l.zs.map eI) rfl (by rw [List.length_map]; omega)) (lcL_all (ex := eI) l.zs fun i hi => ⟨[some (eL l), some (eHo (hoursT b zs)), none, none, none, some (eI i)], rfl, ?_⟩)
      rw [dOp_of (x := eHo (hoursT b zs)) (y := .int (i : Int)) rfl rfl]
      exact hours_at (hl.zs i hi)
    rw [List.map_map, dAsg_of q] <;> rfl
  rw [dSeq_nx a1]
  have k1 : dIf (dOp bEq (dOp bIx (dVar 0) (dC (.int 1))) (dC (.str "any"))) (dC (.int 1)) (d1 mLen (dVar 2)) [some (eL l), some (eHo (hoursT b zs)), some (.list ((l.zs.map (askT b zs)).map eO)), none, none, none] = some (.int (if l.an = true then 1 else (l.zs.length : Int))) := by
    have c1 : dOp bEq (dOp bIx (dVar 0) (dC (.int 1))) (dC (.str "any")) [some (eL l), some (eHo (hoursT b zs)), some (.list ((l.zs.map (askT b zs)).map eO)), none, none, none] = some (.bool l.an) := by
      rw [dOp_of (x := .str (if l.an then "any" else "all")) (y := .str "any") rfl rfl, isAny]
    cases ea : l.an with
    | true => rw [dIf_t (by rw [c1, ea]), if_pos rfl] <;> rfl
    | false =>
      rw [dIf_f (by rw [c1, ea]), if_neg Bool.false_ne_true, d1_of (x := .list ((l.zs.map (askT b zs)).map eO)) rfl]
      show some (PyData.int ((((l.zs.map (askT b zs)).map eO).length : Nat) : Int)) = _
      rw [List.length_map, List.length_map]
  rw [dSeq_nx (dAsg_of (by rw [dCall2_of (x := .list ((l.zs.map (askT b zs)).map eO)) rfl k1, kth_beg hb ok hl]))]
  rw [line_beg]
  cases begT b zs l with
  | none => rfl
  | some t =>
    rw [dSeq_nx (ρ' := [some (eL l), some (eHo (hoursT b zs)), some (.list ((l.zs.map (askT b zs)).map eO)), some (.int t), none, none]) rfl]
    rw [dSeq_nx (ρ' := [some (eL l), some (eHo (hoursT b zs)), some (.list ((l.zs.map (askT b zs)).map eO)), some (.int t), some (.int (t + l.wait)), none]) rfl]
    have c2 : dOp bNe (dLc [5] (iSeq (dOp bIx (dVar 0) (dC (.int 4)))) (bName 5) (dAnd (dOp bNotN (dOp bIx (dVar 1) (dVar 5)) (dC .none)) (dOp bLe (dOp bIx (dVar 1) (dVar 5)) (dVar 4))) (dVar 5)) (dLst dNil) [some (eL l), some (eHo (hoursT b zs)), some (.list ((l.zs.map (askT b zs)).map eO)), some (.int t), some (.int (t + l.wait)), none] = some (.bool false) := by
      rw [dOp_of (x := .list []) (y := .list []) rfl rfl]
      have s1 : SeqAt.shaped (.list []) = true := by decide +kernel
      have q1 : PyData.eqv (.list []) (.list []) = true := by decide +kernel
      unfold bNe
      rw [if_pos (And.intro s1 s1), q1] <;> rfl
    rw [dRet_of (dTup_of (cons_of (x := .int t) rfl (cons_of (x := .int (t + l.wait)) rfl (cons_of c2 (nil_of _)))))] <;> rfl
/-! ### outs -/
theorem kth_out {b : Rw} (hb : BOk b) {zs : List Zn} (ok : ∀ z ∈ zs, ZOk z) {ls : List Ln} {n : Nat} (hl : ∀ l ∈ ls, LOk n l) (hlen : ls.length ≤ 5) (k : Nat) : m_law_kth [.list (((ls.filter fun l => decide (l.out = k)).map (lineT b zs)).map eO), .int 1] = some (eO (outT b zs ls k)) := by
  have flen := List.length_filter_le (fun l : Ln => decide (l.out = k)) ls
  have fm : ∀ l, l ∈ (ls.filter fun l => decide (l.out = k)) ↔ l ∈ ls ∧ l.out = k := fun l => by rw [List.mem_filter, decide_eq_true_eq]
  obtain ⟨o, h1, h2⟩ := m_law_kth_eq (xs := (ls.filter fun l => decide (l.out = k)).map (lineT b zs)) (k := 1) (by rw [List.length_map]; omega) (fun t ht => by
    obtain ⟨l, h, e⟩ := List.mem_map.mp ht
    exact thr_nn (line_thr hb ok (hl l ((fm l).mp h).1)) e) (Nat.le_refl 1)
  refine h1.trans ?_
  rw [(h2.congr fun v hv => ?_).unique (out_thr hb ok hl k)]
  rw [List.countP_map, count_one]
  constructor
  · rintro ⟨l, h, z⟩
    exact ⟨l, ((fm l).mp h).1, ((fm l).mp h).2, (thr_byO (line_thr hb ok (hl l ((fm l).mp h).1)) hv).mp z⟩
  · rintro ⟨l, h, e, z⟩
    exact ⟨l, (fm l).mpr ⟨h, e⟩, (thr_byO (line_thr hb ok (hl l h)) hv).mpr z⟩
theorem m_law_outs_eq {h : Hs} (ok : HOk h) {b : Rw} (hb : BOk b) : m_law_outs [eH h, eHo (hoursT b h.zs)] = some (.tuple [eO (outT b h.zs h.ls 0), eO (outT b h.zs h.ls 1)]) := by
  have hl1 := ok.l1
  let row := fun l : Ln => PyData.tuple [eO (begT b h.zs l), eO (lineT b h.zs l), .bool false]
  have turn : ∀ (k : Nat) (ds : List PyData) (u4 : Option PyData), k ≤ 1 → ds.length ≤ 5 → ∃ v4, (dSeq (dPure 2 (dAsg (dLc [5] (iSeq (dOp bIx (dVar 0) (dC (.int 2)))) (bName 5) (dOp bEq (dOp bIx (dVar 5) (dC (.int 5))) (dVar 3)) (dCall 2 m_law_line_hour (dCons (dVar 5) (dCons (dVar 1) dNil)))) (bName 4))) (dApp 2 (dCall 2 m_law_kth (dCons (dLc [5] (iSeq (dVar 4)) (bName 5) (dNot (dOp bIx (dVar 5) (dC (.int 2)))) (dOp bIx (dVar 5) (dC (.int 1)))) (dCons (dC (.int 1)) dNil)))))
      [some (eH h), some (eHo (hoursT b h.zs)), some (.list ds), some (.int (k : Int)), u4, none] = some (.nx [some (eH h), some (eHo (hoursT b h.zs)), some (.list (ds ++ [eO (outT b h.zs h.ls k)])), some (.int (k : Int)), v4, none]) := by
    intro k ds u4 hk hd
    have flen := List.length_filter_le (fun l : Ln => decide (l.out = k)) h.ls
    refine ⟨some (.list ((h.ls.filter fun l => decide (l.out = k)).map row)), ?_⟩
    have r1 : dLc [5] (iSeq (dOp bIx (dVar 0) (dC (.int 2)))) (bName 5) (dOp bEq (dOp bIx (dVar 5) (dC (.int 5))) (dVar 3)) (dCall 2 m_law_line_hour (dCons (dVar 5) (dCons (dVar 1) dNil))) [some (eH h), some (eHo (hoursT b h.zs)), none, some (.int (k : Int)), u4, none] = some (.list ((h.ls.filter fun l => decide (l.out = k)).map row)) := by
      refine dLc_of (iSeq_tup (xs := h.ls.map eL) rfl (by rw [List.length_map]; omega)) (lcL_map (ex := eL) (t := fun l => decide (l.out = k)) h.ls fun l hl => ⟨[some (eH h), some (eHo (hoursT b h.zs)), none, some (.int (k : Int)), u4, some (eL l)], rfl, ?_, fun _ => ?_⟩)
      · have ho := (ok.ls l hl).out
        rw [dOp_of (x := .int (l.out : Int)) (y := .int (k : Int)) rfl rfl]
        have : l.out = 0 ∨ l.out = 1 := by omega
        have : k = 0 ∨ k = 1 := by omega
        rcases ‹l.out = 0 ∨ l.out = 1› with a | a <;> rcases ‹k = 0 ∨ k = 1› with b | b <;> rw [a, b] <;> exact if_pos ⟨rfl, rfl⟩
      · rw [dCall2_of (x := eL l) (y := eHo (hoursT b h.zs)) rfl rfl, m_law_line_hour_eq hb ok.zs (ok.ls l hl)]
    have r2 : dPure 2 (dAsg (dLc [5] (iSeq (dOp bIx (dVar 0) (dC (.int 2)))) (bName 5) (dOp bEq (dOp bIx (dVar 5) (dC (.int 5))) (dVar 3)) (dCall 2 m_law_line_hour (dCons (dVar 5) (dCons (dVar 1) dNil)))) (bName 4)) [some (eH h), some (eHo (hoursT b h.zs)), some (.list ds), some (.int (k : Int)), u4, none] = some (.nx [some (eH h), some (eHo (hoursT b h.zs)), some (.list ds), some (.int (k : Int)), some (.list ((h.ls.filter fun l => decide (l.out = k)).map row)), none]) := by
      show ((dAsg _ (bName 4) [some (eH h), some (eHo (hoursT b h.zs)), none, some (.int (k : Int)), u4, none]).bind _) = _
      rw [dAsg_of r1] <;> rfl
    rw [dSeq_nx r2]
    have r3 : dLc [5] (iSeq (dVar 4)) (bName 5) (dNot (dOp bIx (dVar 5) (dC (.int 2)))) (dOp bIx (dVar 5) (dC (.int 1))) [some (eH h), some (eHo (hoursT b h.zs)), none, some (.int (k : Int)), some (.list ((h.ls.filter fun l => decide (l.out = k)).map row)), none] = some (.list (((h.ls.filter fun l => decide (l.out = k)).map (lineT b h.zs)).map eO)) := by
      refine dLc_of (iSeq_lst (xs := (h.ls.filter fun l => decide (l.out = k)).map row) rfl (by rw [List.length_map]; omega)) ?_
      have := lcL_map (ex := row) (t := fun _ => true) (f := fun l => eO (lineT b h.zs l)) (g := bName 5) (c := dNot (dOp bIx (dVar 5) (dC (.int 2)))) (e := dOp bIx (dVar 5) (dC (.int 1))) (ρ := wipeR [some (eH h), some (eHo (hoursT b h.zs)), none, some (.int (k : Int)), some (.list ((h.ls.filter fun l => decide (l.out = k)).map row)), none] [5]) (h.ls.filter fun l => decide (l.out = k)) fun l hl => ⟨[some (eH h), some (eHo (hoursT b h.zs)), none, some (.int (k : Int)), some (.list ((h.ls.filter fun l => decide (l.out = k)).map row)), some (row l)], rfl, rfl, fun _ => rfl⟩
      rw [List.filter_eq_self.mpr fun _ _ => rfl] at this
      rw [this, List.map_map] <;> rfl
    have r4 : dCall 2 m_law_kth (dCons (dLc [5] (iSeq (dVar 4)) (bName 5) (dNot (dOp bIx (dVar 5) (dC (.int 2)))) (dOp bIx (dVar 5) (dC (.int 1)))) (dCons (dC (.int 1)) dNil)) ([some (eH h), some (eHo (hoursT b h.zs)), some (.list ds), some (.int (k : Int)), some (.list ((h.ls.filter fun l => decide (l.out = k)).map row)), none].set 2 none) = some (eO (outT b h.zs h.ls k)) := by
      rw [dCall2_of (ρ := [some (eH h), some (eHo (hoursT b h.zs)), some (.list ds), some (.int (k : Int)), some (.list ((h.ls.filter fun l => decide (l.out = k)).map row)), none].set 2 none) r3 (y := .int 1) rfl]
      exact kth_out hb ok.zs ok.ls hl1 k
    exact dApp_of (i := 2) r4 rfl (by omega)
  obtain ⟨v0, e0⟩ := turn 0 [] none (by decide) (Nat.zero_le _)
  obtain ⟨v1, e1⟩ := turn 1 [eO (outT b h.zs h.ls 0)] v0 (by decide) (Nat.le_of_ble_eq_true rfl)
  show (s_law_outs (rho0 6 [eH h, eHo (hoursT b h.zs)])).bind endD = _
  unfold s_law_outs
  have a2 : dOwn 2 (fun _ => some (.list [])) (dForO 2 (iRange (dCons (d1 mLen (dOp bIx (dVar 0) (dC (.int 3)))) dNil)) (bName 3) (dSeq (dPure 2 (dAsg (dLc [5] (iSeq (dOp bIx (dVar 0) (dC (.int 2)))) (bName 5) (dOp bEq (dOp bIx (dVar 5) (dC (.int 5))) (dVar 3)) (dCall 2 m_law_line_hour (dCons (dVar 5) (dCons (dVar 1) dNil)))) (bName 4))) (dApp 2 (dCall 2 m_law_kth (dCons (dLc [5] (iSeq (dVar 4)) (bName 5) (dNot (dOp bIx (dVar 5) (dC (.int 2)))) (dOp bIx (dVar 5) (dC (.int 1)))) (dCons (dC (.int 1)) dNil)))))) (rho0 6 [eH h, eHo (hoursT b h.zs)]) = some (.nx [some (eH h), some (eHo (hoursT b h.zs)), some (.list [eO (outT b h.zs h.ls 0), eO (outT b h.zs h.ls 1)]), some (.int 1), v1, none]) := by
    show ((dSeq _ _ [some (eH h), some (eHo (hoursT b h.zs)), some (.list []), some (.int ((0 : Nat) : Int)), none, none]).bind _) = _
    rw [e0]
    show ((dSeq _ _ [some (eH h), some (eHo (hoursT b h.zs)), some (.list [eO (outT b h.zs h.ls 0)]), some (.int ((1 : Nat) : Int)), v0, none]).bind _) = _
    rw [e1] <;> rfl
  rw [dSeq_nx a2] <;> rfl
theorem m_law_out_at_eq {h : Hs} (ok : HOk h) {b : Rw} (hb : BN b) {k : Nat} (hk : k ≤ 1) : m_law_out_at [eH h, eR b, .int (k : Int)] = some (eO (outT b h.zs h.ls k)) := by
  show (s_law_out_at (rho0 3 [eH h, eR b, .int (k : Int)])).bind endD = _
  unfold s_law_out_at
  have e1 : dCall 2 m_law_hours (dCons (dVar 0) (dCons (dVar 1) dNil)) (rho0 3 [eH h, eR b, .int (k : Int)]) = some (eHo (hoursT b h.zs)) := by
    rw [dCall2_of (x := eH h) (y := eR b) rfl rfl, m_law_hours_eq ok hb]
  have e2 : dCall 2 m_law_outs (dCons (dVar 0) (dCons (dCall 2 m_law_hours (dCons (dVar 0) (dCons (dVar 1) dNil))) dNil)) (rho0 3 [eH h, eR b, .int (k : Int)]) = some (.tuple [eO (outT b h.zs h.ls 0), eO (outT b h.zs h.ls 1)]) := by
    rw [dCall2_of (x := eH h) rfl e1, m_law_outs_eq ok hb.ok]
  have e3 : dOp bIx (dCall 2 m_law_outs (dCons (dVar 0) (dCons (dCall 2 m_law_hours (dCons (dVar 0) (dCons (dVar 1) dNil))) dNil))) (dVar 2) (rho0 3 [eH h, eR b, .int (k : Int)]) = some (eO (outT b h.zs h.ls k)) := by
    rw [dOp_of e2 (y := .int (k : Int)) rfl]
    have : k = 0 ∨ k = 1 := by omega
    rcases this with e | e <;> rw [e] <;> rfl
  rw [dRet_of e3] <;> rfl
end SK
set_option maxHeartbeats 2000000
/-! The plain law: the law's rows of a zone. -/
namespace SK
open PySem PySem.Spec PyProof.Rows L2
/-! ### sorted spots -/
theorem leD_spot {p q : Sp2} (h : leD (eS p) (eS q) = true) (ne : p ≠ q) : ltS p q := by
  have e1 : leD (eS p) (eS q) = !PySem.W.dataLt (eS q) (eS p) := rfl
  have e3 : PySem.W.dataLt (eS q) (eS p) = decide (q.1 < p.1 ∨ (q.1 = p.1 ∧ q.2 < p.2)) := PySem.W.dataLt_ii _ _ _ _
  rw [e1, e3] at h
  rcases ltS.tri p q with z | z | z
  · exact z
  · exact absurd z ne
  · have : decide (q.1 < p.1 ∨ (q.1 = p.1 ∧ q.2 < p.2)) = true := decide_eq_true z
    rw [this] at h
    cases h
theorem sortOk_spots {sp : List Sp2} (hl : sp.length ≤ 1000) : SortOk (sp.map eS) := by
  refine ⟨fun x hx y hy => ?_, .inl fun x hx => ?_, by rw [List.length_map]; exact hl, fun x hx => ?_⟩
  · obtain ⟨p, _, rfl⟩ := List.mem_map.mp hx
    obtain ⟨q, _, rfl⟩ := List.mem_map.mp hy
    rfl
  · obtain ⟨p, _, rfl⟩ := List.mem_map.mp hx
    exact ⟨.int p.1, [.int p.2], rfl⟩
  · obtain ⟨p, _, rfl⟩ := List.mem_map.mp hx
    refine ⟨?_, rfl⟩
    have e : PyData.depth (eS p) = 1 := by simp [eS, PyData.depth, PyData.depthAll]
    omega
theorem sort_spots {sp : List Sp2} (hn : sp.Nodup) : ∃ sp' : List Sp2, (sp.map eS).mergeSort leD = sp'.map eS ∧ sp'.Perm sp ∧ sp'.Pairwise ltS := by
  have e : (sp.mergeSort (PySem.W.dataLe false eS)).map eS = (sp.map eS).mergeSort leD := PySem.W.sort_maps eS fun _ _ _ _ => rfl
  have pm : (sp.mergeSort (PySem.W.dataLe false eS)).Perm sp := List.mergeSort_perm _ _
  refine ⟨_, e.symm, pm, ?_⟩
  have so := leD_sorted (sp.map eS)
  rw [← e, List.pairwise_map] at so
  have nd : (sp.mergeSort (PySem.W.dataLe false eS)).Nodup := pm.nodup_iff.mpr hn
  exact (so.and nd).imp fun h => leD_spot h.1 h.2
theorem sorted_eq {a b : List Sp2} (h : a.Perm b) (ha : a.Pairwise ltS) (hb : b.Pairwise ltS) : a = b :=
  h.eq_of_pairwise (fun _ _ _ _ h1 h2 => (h1.asymm h2).elim) ha hb
instance (s t : Sp2) : Decidable (ltS s t) := inferInstanceAs (Decidable (_ ∨ _))
def meetT (s t : Sp2) : Rw := if s = t then one s else if ltS s t then two s t else two t s
def meetK (s t : Sp2) : List Sp2 := if s = t then [s] else [s, t]
theorem join_one (s t : Sp2) : putT (one s) t (max 0 ((look (one s) t).getD 0)) = (meetK s t).map fun x => (x, 0) := by
  unfold putT meetK one look
  by_cases c : s = t
  · subst c
    simp
  · simp [c]
theorem meet_sort (s t : Sp2) : ∃ ks : List Sp2, ((meetK s t).map eS).mergeSort leD = ks.map eS ∧ (ks.map fun x => ((x, 0) : Sp2 × Int)) = meetT s t ∧ (∀ k ∈ ks, k ∈ meetK s t) := by
  have nd : (meetK s t).Nodup := by
    unfold meetK
    by_cases c : s = t
    · rw [if_pos c]; exact List.pairwise_singleton _ _
    · rw [if_neg c, List.nodup_cons]; exact ⟨fun h => c (List.mem_singleton.mp h), List.pairwise_singleton _ _⟩
  obtain ⟨ks, k1, k2, k3⟩ := sort_spots nd
  refine ⟨ks, k1, ?_, fun k hk => k2.mem_iff.mp hk⟩
  unfold meetT
  by_cases c : s = t
  · rw [if_pos c]
    have : ks = [s] := sorted_eq (k2.trans (by unfold meetK; rw [if_pos c])) k3 (List.pairwise_singleton _ _)
    rw [this] <;> rfl
  · rw [if_neg c]
    have e : meetK s t = [s, t] := if_neg c
    rw [e] at k2
    by_cases l : ltS s t
    · rw [if_pos l]
      have : ks = [s, t] := sorted_eq k2 k3 (by rw [List.pairwise_cons]; exact ⟨fun x hx => by rw [List.mem_singleton.mp hx]; exact l, List.pairwise_singleton _ _⟩)
      rw [this] <;> rfl
    · rw [if_neg l]
      have l2 : ltS t s := by
        rcases ltS.tri s t with z | z | z
        · exact absurd z l
        · exact absurd z c
        · exact z
      have : ks = [t, s] := sorted_eq (k2.trans (List.Perm.swap t s [])) k3 (by rw [List.pairwise_cons]; exact ⟨fun x hx => by rw [List.mem_singleton.mp hx]; exact l2, List.pairwise_singleton _ _⟩)
      rw [this] <;> rfl
end SK
set_option maxHeartbeats 2000000
/-! The plain law: meet_rows, zone_rows. -/
namespace SK
open PySem PySem.Spec PyProof.Rows L2
noncomputable def meetB : DS := dSeq (dPure 2 (dOwn 5 (d1 mDict (dVar 3)) (dForO 5 (iSeq (dVar 4)) (bName 6) (dPut 5 (dOp bIx (dVar 6) (dC (.int 0))) (d2 mMax (dOp bIx (dVar 6) (dC (.int 1))) (dGet2 (dVar 5) (dOp bIx (dVar 6) (dC (.int 0))) (dC (.int 0)))))))) (dApp 2 (d1 mTuple (dLc [7] (iSeq (dSortD (dVar 5))) (bName 7) dYes (dTup (dCons (dVar 7) (dCons (dOp bIxD (dVar 5) (dVar 7)) dNil))))))
theorem sortKeys_of {ks : List Sp2} (hl : ks.length ≤ 1000) : SortKeys ((ks.map fun x => ((x, 0) : Sp2 × Int)).map eEnt) := by
  refine ⟨by rw [List.length_map, List.length_map]; exact hl, ?_, fun e he => ?_⟩
  · have : ((ks.map fun x => ((x, 0) : Sp2 × Int)).map eEnt).map (·.1) = ks.map eS := by
      rw [List.map_map, List.map_map] <;> rfl
    rw [this]
    exact sortOk_spots hl
  · obtain ⟨p, _, rfl⟩ := List.mem_map.mp he
    exact ⟨rfl, rfl⟩
theorem look_zero {ks : List Sp2} {k : Sp2} (h : k ∈ ks) : look (ks.map fun x => ((x, 0) : Sp2 × Int)) k = some 0 := by
  cases e : look (ks.map fun x => ((x, 0) : Sp2 × Int)) k with
  | none => exact absurd rfl (look_none.mp e (k, 0) (List.mem_map.mpr ⟨k, h, rfl⟩))
  | some t =>
    obtain ⟨x, _, e2⟩ := List.mem_map.mp (look_mem e)
    cases e2
    rfl
theorem meet_turn (A B : PyData) (s t : Sp2) (ds : List PyData) (u5 u6 : Option PyData) (hd : ds.length < 1000) : ∃ v5 v6, meetB [some A, some B, some (.list ds), some (eR (one s)), some (eR (one t)), u5, u6, none] = some (.nx [some A, some B, some (.list (ds ++ [eR (meetT s t)])), some (eR (one s)), some (eR (one t)), v5, v6, none]) := by
  refine ⟨some (eDict ((meetK s t).map fun x => (x, 0))), some (eP (t, 0)), ?_⟩
  have klen : (meetK s t).length ≤ 2 := by unfold meetK; split <;> exact Nat.le_of_ble_eq_true rfl
  obtain ⟨ks, k1, k2, k3⟩ := meet_sort s t
  have ksl : ks.length ≤ 2 := by
    have := congrArg List.length k1
    rw [List.length_mergeSort, List.length_map, List.length_map] at this
    omega
  have b1 : (dPure 2 (dOwn 5 (d1 mDict (dVar 3)) (dForO 5 (iSeq (dVar 4)) (bName 6) (dPut 5 (dOp bIx (dVar 6) (dC (.int 0))) (d2 mMax (dOp bIx (dVar 6) (dC (.int 1))) (dGet2 (dVar 5) (dOp bIx (dVar 6) (dC (.int 0))) (dC (.int 0)))))))) [some A, some B, some (.list ds), some (eR (one s)), some (eR (one t)), u5, u6, none] = some (.nx [some A, some B, some (.list ds), some (eR (one s)), some (eR (one t)), some (eDict ((meetK s t).map fun x => (x, 0))), some (eP (t, 0)), none]) := by
    have d1' : d1 mDict (dVar 3) [some A, some B, none, some (eR (one s)), some (eR (one t)), u5, u6, none] = some (eDict (one s)) := by
      rw [d1_of (x := eR (one s)) rfl, mDict_enc (can_one s).nodup (can_one s).le]
    have h1 : dGet2 (dVar 5) (dOp bIx (dVar 6) (dC (.int 0))) (dC (.int 0)) [some A, some B, none, some (eR (one s)), some (eR (one t)), some (eDict (one s)), some (eP (t, 0)), none] = some (.int ((look (one s) t).getD 0)) := by
      show some ((getE ((one s).map eEnt) (kS t)).getD (.int 0)) = _
      rw [getE_ent]
      cases look (one s) t <;> rfl
    have h2 : d2 mMax (dOp bIx (dVar 6) (dC (.int 1))) (dGet2 (dVar 5) (dOp bIx (dVar 6) (dC (.int 0))) (dC (.int 0))) [some A, some B, none, some (eR (one s)), some (eR (one t)), some (eDict (one s)), some (eP (t, 0)), none] = some (.int (max 0 ((look (one s) t).getD 0))) := by
      rw [d2_of (x := .int 0) rfl h1] <;> rfl
    have h3 : dPut 5 (dOp bIx (dVar 6) (dC (.int 0))) (d2 mMax (dOp bIx (dVar 6) (dC (.int 1))) (dGet2 (dVar 5) (dOp bIx (dVar 6) (dC (.int 0))) (dC (.int 0)))) [some A, some B, none, some (eR (one s)), some (eR (one t)), some (eDict (one s)), some (eP (t, 0)), none] = some (.nx [some A, some B, none, some (eR (one s)), some (eR (one t)), some (eDict ((meetK s t).map fun x => (x, 0))), some (eP (t, 0)), none]) := by
      unfold dPut
      rw [h2]
      show some (Out.nx [some A, some B, none, some (eR (one s)), some (eR (one t)), some (.dict (putE ((one s).map eEnt) (kS t) (.int (max 0 ((look (one s) t).getD 0))))), some (eP (t, 0)), none]) = _
      rw [putE_enc, join_one] <;> rfl
    have h4 : (dOwn 5 (d1 mDict (dVar 3)) (dForO 5 (iSeq (dVar 4)) (bName 6) (dPut 5 (dOp bIx (dVar 6) (dC (.int 0))) (d2 mMax (dOp bIx (dVar 6) (dC (.int 1))) (dGet2 (dVar 5) (dOp bIx (dVar 6) (dC (.int 0))) (dC (.int 0))))))) [some A, some B, none, some (eR (one s)), some (eR (one t)), u5, u6, none] = some (.nx [some A, some B, none, some (eR (one s)), some (eR (one t)), some (eDict ((meetK s t).map fun x => (x, 0))), some (eP (t, 0)), none]) := by
      unfold dOwn
      rw [d1']
      show ((dPut 5 (dOp bIx (dVar 6) (dC (.int 0))) (d2 mMax (dOp bIx (dVar 6) (dC (.int 1))) (dGet2 (dVar 5) (dOp bIx (dVar 6) (dC (.int 0))) (dC (.int 0)))) [some A, some B, none, some (eR (one s)), some (eR (one t)), some (eDict (one s)), some (eP (t, 0)), none]).bind _) = _
      rw [h3] <;> rfl
    unfold dPure
    rw [show (dOwn 5 (d1 mDict (dVar 3)) (dForO 5 (iSeq (dVar 4)) (bName 6) (dPut 5 (dOp bIx (dVar 6) (dC (.int 0))) (d2 mMax (dOp bIx (dVar 6) (dC (.int 1))) (dGet2 (dVar 5) (dOp bIx (dVar 6) (dC (.int 0))) (dC (.int 0))))))) ([some A, some B, some (.list ds), some (eR (one s)), some (eR (one t)), u5, u6, none].set 2 none) = _ from h4] <;> rfl
  have b2 : d1 mTuple (dLc [7] (iSeq (dSortD (dVar 5))) (bName 7) dYes (dTup (dCons (dVar 7) (dCons (dOp bIxD (dVar 5) (dVar 7)) dNil)))) ([some A, some B, some (.list ds), some (eR (one s)), some (eR (one t)), some (eDict ((meetK s t).map fun x => (x, 0))), some (eP (t, 0)), none].set 2 none) = some (eR (meetT s t)) := by
    have c1 : dSortD (dVar 5) [some A, some B, none, some (eR (one s)), some (eR (one t)), some (eDict ((meetK s t).map fun x => (x, 0))), some (eP (t, 0)), none] = some (.list (ks.map eS)) := by
      have hk := sortKeys_of (ks := meetK s t) (by omega)
      classical
      unfold dSortD
      show (if SortKeys (((meetK s t).map fun x => ((x, 0) : Sp2 × Int)).map eEnt) then some (PyData.list (((((meetK s t).map fun x => ((x, 0) : Sp2 × Int)).map eEnt).map (·.1)).mergeSort leD)) else none) = _
      rw [if_pos hk]
      have : (((meetK s t).map fun x => ((x, 0) : Sp2 × Int)).map eEnt).map (·.1) = (meetK s t).map eS := by
        rw [List.map_map, List.map_map] <;> rfl
      rw [this, k1]
    have c2 : dLc [7] (iSeq (dSortD (dVar 5))) (bName 7) dYes (dTup (dCons (dVar 7) (dCons (dOp bIxD (dVar 5) (dVar 7)) dNil))) [some A, some B, none, some (eR (one s)), some (eR (one t)), some (eDict ((meetK s t).map fun x => (x, 0))), some (eP (t, 0)), none] = some (.list (ks.map fun k => eP (k, 0))) := by
      refine dLc_of (iSeq_lst (xs := ks.map eS) c1 (by rw [List.length_map]; omega)) (lcL_all (ex := eS) ks fun k hk => ⟨[some A, some B, none, some (eR (one s)), some (eR (one t)), some (eDict ((meetK s t).map fun x => (x, 0))), some (eP (t, 0)), some (eS k)], rfl, ?_⟩)
      have c3 : dOp bIxD (dVar 5) (dVar 7) [some A, some B, none, some (eR (one s)), some (eR (one t)), some (eDict ((meetK s t).map fun x => (x, 0))), some (eP (t, 0)), some (eS k)] = some (.int 0) := by
        show getE (((meetK s t).map fun x => ((x, 0) : Sp2 × Int)).map eEnt) (kS k) = _
        rw [getE_ent, look_zero (k3 k hk)] <;> rfl
      exact dTup_of (cons_of (x := eS k) rfl (cons_of c3 (nil_of _)))
    rw [show d1 mTuple (dLc [7] (iSeq (dSortD (dVar 5))) (bName 7) dYes (dTup (dCons (dVar 7) (dCons (dOp bIxD (dVar 5) (dVar 7)) dNil)))) ([some A, some B, some (.list ds), some (eR (one s)), some (eR (one t)), some (eDict ((meetK s t).map fun x => (x, 0))), some (eP (t, 0)), none].set 2 none) = _ from d1_of c2]
    show some (PyData.tuple _) = _
    rw [← k2]
    unfold eR
    rw [List.map_map] <;> rfl
  unfold meetB
  rw [dSeq_nx b1]
  exact dApp_of b2 rfl hd
theorem m_law_meet_rows_eq {sp : List Sp2} (hl : sp.length ≤ 3) : m_law_meet_rows [.list ((sp.map one).map eR), .list ((sp.map one).map eR)] = some (.list ((sp.flatMap fun s => sp.map fun t => meetT s t).map eR)) := by
  have inner : ∀ (s : Sp2) (ts : List Sp2) (ds : List PyData) (u4 u5 u6 : Option PyData), ds.length + ts.length ≤ 900 → ∃ v4 v5 v6, forL (gO 2 (bName 4)) meetB ((ts.map one).map eR) [some (.list ((sp.map one).map eR)), some (.list ((sp.map one).map eR)), some (.list ds), some (eR (one s)), u4, u5, u6, none] =
      some (.nx [some (.list ((sp.map one).map eR)), some (.list ((sp.map one).map eR)), some (.list (ds ++ (ts.map fun t => meetT s t).map eR)), some (eR (one s)), v4, v5, v6, none]) := by
    intro s ts
    induction ts with
    | nil => exact fun ds u4 u5 u6 _ => ⟨u4, u5, u6, by show _ = some (Out.nx [_, _, some (.list (ds ++ [])), _, _, _, _, _]); rw [List.append_nil] <;> rfl⟩
    | cons t ts ih =>
      intro ds u4 u5 u6 hd
      rw [List.length_cons] at hd
      obtain ⟨w5, w6, e1⟩ := meet_turn (.list ((sp.map one).map eR)) (.list ((sp.map one).map eR)) s t ds u5 u6 (by omega)
      obtain ⟨v4, v5, v6, e2⟩ := ih (ds ++ [eR (meetT s t)]) (some (eR (one t))) w5 w6 (by rw [List.length_append, List.length_singleton]; omega)
      refine ⟨v4, v5, v6, ?_⟩
      rw [List.map_cons, List.map_cons]
      show ((meetB [some (.list ((sp.map one).map eR)), some (.list ((sp.map one).map eR)), some (.list ds), some (eR (one s)), some (eR (one t)), u5, u6, none]).bind _) = _
      rw [e1]
      refine Eq.trans e2 ?_
      rw [List.append_assoc] <;> rfl
  have outer : ∀ (ss : List Sp2) (ds : List PyData) (u3 u4 u5 u6 : Option PyData), ds.length + 3 * ss.length ≤ 800 → ∃ v3 v4 v5 v6, forL (gO 2 (bName 3)) (dForO 2 (iSeq (dVar 1)) (bName 4) meetB) ((ss.map one).map eR) [some (.list ((sp.map one).map eR)), some (.list ((sp.map one).map eR)), some (.list ds), u3, u4, u5, u6, none] =
      some (.nx [some (.list ((sp.map one).map eR)), some (.list ((sp.map one).map eR)), some (.list (ds ++ (ss.flatMap fun s => sp.map fun t => meetT s t).map eR)), v3, v4, v5, v6, none]) := by
    intro ss
    induction ss with
    | nil => exact fun ds u3 u4 u5 u6 _ => ⟨u3, u4, u5, u6, by show _ = some (Out.nx [_, _, some (.list (ds ++ [])), _, _, _, _, _]); rw [List.append_nil] <;> rfl⟩
    | cons s ss ih =>
      intro ds u3 u4 u5 u6 hd
      rw [List.length_cons] at hd
      obtain ⟨w4, w5, w6, e1⟩ := inner s sp ds u4 u5 u6 (by omega)
      obtain ⟨v3, v4, v5, v6, e2⟩ := ih (ds ++ (sp.map fun t => meetT s t).map eR) (some (eR (one s))) w4 w5 w6 (by rw [List.length_append, List.length_map, List.length_map]; omega)
      refine ⟨v3, v4, v5, v6, ?_⟩
      rw [List.map_cons, List.map_cons]
      show ((dForO 2 (iSeq (dVar 1)) (bName 4) meetB [some (.list ((sp.map one).map eR)), some (.list ((sp.map one).map eR)), some (.list ds), some (eR (one s)), u4, u5, u6, none]).bind _) = _
      unfold dForO
      rw [show iSeq (dVar 1) ([some (.list ((sp.map one).map eR)), some (.list ((sp.map one).map eR)), some (.list ds), some (eR (one s)), u4, u5, u6, none].set 2 none) = some ((sp.map one).map eR) from iSeq_lst rfl (by rw [List.length_map, List.length_map]; omega)]
      show ((forL (gO 2 (bName 4)) meetB ((sp.map one).map eR) [some (.list ((sp.map one).map eR)), some (.list ((sp.map one).map eR)), some (.list ds), some (eR (one s)), u4, u5, u6, none]).bind _) = _
      rw [e1]
      refine Eq.trans e2 ?_
      rw [List.append_assoc, ← List.map_append, List.flatMap_cons] <;> rfl
  obtain ⟨v3, v4, v5, v6, e⟩ := outer sp [] none none none none (by rw [List.length_nil]; omega)
  show (s_law_meet_rows (rho0 8 [.list ((sp.map one).map eR), .list ((sp.map one).map eR)])).bind endD = _
  have a1 : dOwn 2 (fun _ => some (.list [])) (dForO 2 (iSeq (dVar 0)) (bName 3) (dForO 2 (iSeq (dVar 1)) (bName 4) meetB)) (rho0 8 [.list ((sp.map one).map eR), .list ((sp.map one).map eR)]) = some (.nx [some (.list ((sp.map one).map eR)), some (.list ((sp.map one).map eR)), some (.list ([] ++ (sp.flatMap fun s => sp.map fun t => meetT s t).map eR)), v3, v4, v5, v6, none]) := by
    show (dForO 2 (iSeq (dVar 0)) (bName 3) (dForO 2 (iSeq (dVar 1)) (bName 4) meetB) [some (.list ((sp.map one).map eR)), some (.list ((sp.map one).map eR)), some (.list []), none, none, none, none, none]) = _
    unfold dForO
    rw [show iSeq (dVar 0) ([some (.list ((sp.map one).map eR)), some (.list ((sp.map one).map eR)), some (.list []), none, none, none, none, none].set 2 none) = some ((sp.map one).map eR) from iSeq_lst rfl (by rw [List.length_map, List.length_map]; omega)]
    exact e
  show (dSeq (dOwn 2 (fun _ => some (.list [])) (dForO 2 (iSeq (dVar 0)) (bName 3) (dForO 2 (iSeq (dVar 1)) (bName 4) meetB))) (dRet (dVar 2)) (rho0 8 [.list ((sp.map one).map eR), .list ((sp.map one).map eR)])).bind endD = _
  rw [dSeq_nx a1] <;> rfl
end SK
set_option maxHeartbeats 2000000
/-! The plain law: zone_rows, zone_fires, behind, is_so. -/
namespace SK
open PySem PySem.Spec PyProof.Rows L2
theorem kn_eq {z : Zn} (ok : ZOk z) (d : Int) (hd : d = 1 ∨ d = 2) : bEq (.int z.kn) (.int d) = some (.bool (decide (z.kn = d))) := by
  rcases ok.kn with k | ⟨k, _⟩ <;> rcases hd with e | e <;> rw [k, e] <;> exact if_pos ⟨rfl, rfl⟩
theorem m_law_zone_rows_eq {z : Zn} (ok : ZOk z) : ∃ R : List Rw, m_law_zone_rows [eZ z] = some (.list (R.map eR)) ∧ R.length ≤ 9 ∧ ∀ r, r ∈ R ↔ r ∈ rowsOf z.sp z.kn := by
  have hi := ok.sp.hi
  have a1 : dAsg (dLc [2] (iSeq (dOp bIx (dVar 0) (dC (.int 0)))) (bName 2) dYes (dTup (dCons (dTup (dCons (dVar 2) (dCons (dC (.int 0)) dNil))) dNil))) (bName 1) (rho0 4 [eZ z]) = some (.nx [some (eZ z), some (.list ((z.sp.map one).map eR)), none, none]) := by
    have q : dLc [2] (iSeq (dOp bIx (dVar 0) (dC (.int 0)))) (bName 2) dYes (dTup (dCons (dTup (dCons (dVar 2) (dCons (dC (.int 0)) dNil))) dNil)) (rho0 4 [eZ z]) = some (.list (z.sp.map fun s => eR (one s))) :=
      dLc_of (iSeq_tup (xs := z.sp.map eS) rfl (by rw [List.length_map]; omega)) (lcL_all (ex := eS) z.sp fun s hs => ⟨[some (eZ z), none, some (eS s), none], rfl, rfl⟩)
    rw [dAsg_of q, List.map_map] <;> rfl
  have c1 : dOp bEq (dOp bIx (dVar 0) (dC (.int 1))) (dC (.int 1)) [some (eZ z), some (.list ((z.sp.map one).map eR)), none, none] = some (.bool (decide (z.kn = 1))) := by
    rw [dOp_of (x := .int z.kn) (y := .int 1) rfl rfl, kn_eq ok 1 (.inl rfl)]
  by_cases k : z.kn = 1
  · refine ⟨z.sp.map one, ?_, by rw [List.length_map]; omega, fun r => by unfold rowsOf; rw [if_pos k]⟩
    show (s_law_zone_rows (rho0 4 [eZ z])).bind endD = _
    unfold s_law_zone_rows
    rw [dSeq_nx a1, dSeq_rt (d := .list ((z.sp.map one).map eR)) (by rw [dIfS_t (by rw [c1, decide_eq_true k])] <;> rfl)] <;> rfl
  · refine ⟨(z.sp.flatMap fun s => z.sp.map fun t => meetT s t).filter fun r => decide (r.length = 2), ?_, ?_, fun r => ?_⟩
    · show (s_law_zone_rows (rho0 4 [eZ z])).bind endD = _
      unfold s_law_zone_rows
      rw [dSeq_nx a1, dSeq_nx (ρ' := [some (eZ z), some (.list ((z.sp.map one).map eR)), none, none]) (by rw [dIfS_f (by rw [c1, decide_eq_false k])] <;> rfl)]
      have m1 : dCall 2 m_law_meet_rows (dCons (dVar 1) (dCons (dVar 1) dNil)) [some (eZ z), some (.list ((z.sp.map one).map eR)), none, none] = some (.list ((z.sp.flatMap fun s => z.sp.map fun t => meetT s t).map eR)) := by
        rw [dCall2_of (x := .list ((z.sp.map one).map eR)) (y := .list ((z.sp.map one).map eR)) rfl rfl, m_law_meet_rows_eq hi]
      have len9 : (z.sp.flatMap fun s => z.sp.map fun t => meetT s t).length ≤ 9 := by
        match z.sp, hi with
        | [], _ => exact Nat.zero_le _
        | [_], _ => exact Nat.le_of_ble_eq_true rfl
        | [_, _], _ => exact Nat.le_of_ble_eq_true rfl
        | [_, _, _], _ => exact Nat.le_of_ble_eq_true rfl
        | _ :: _ :: _ :: _ :: _, h => simp only [List.length_cons] at h; omega
      have m2 : dLc [3] (iSeq (dCall 2 m_law_meet_rows (dCons (dVar 1) (dCons (dVar 1) dNil)))) (bName 3) (dOp bEq (d1 mLen (dVar 3)) (dC (.int 2))) (dVar 3) [some (eZ z), some (.list ((z.sp.map one).map eR)), none, none] = some (.list (((z.sp.flatMap fun s => z.sp.map fun t => meetT s t).filter fun r => decide (r.length = 2)).map eR)) := by
        refine dLc_of (iSeq_lst m1 (by rw [List.length_map]; omega)) (lcL_map (ex := eR) (f := eR) (t := fun r => decide (r.length = 2)) _ fun r hr => ⟨[some (eZ z), some (.list ((z.sp.map one).map eR)), none, some (eR r)], rfl, ?_, fun _ => rfl⟩)
        have l1 : d1 mLen (dVar 3) [some (eZ z), some (.list ((z.sp.map one).map eR)), none, some (eR r)] = some (.int r.length) := by
          rw [d1_of (x := eR r) rfl]
          show some (PyData.int ((r.map eP).length : Nat)) = _
          rw [List.length_map]
        rw [dOp_of l1 (y := .int 2) rfl]
        show some (PyData.bool (decide ((r.length : Int) = 2))) = _
        congr 2
        rw [decide_eq_decide]
        omega
      rw [dRet_of m2] <;> rfl
    · refine Nat.le_trans (List.length_filter_le _ _) ?_
      match z.sp, hi with
      | [], _ => exact Nat.zero_le _
      | [_], _ => exact Nat.le_of_ble_eq_true rfl
      | [_, _], _ => exact Nat.le_of_ble_eq_true rfl
      | [_, _, _], _ => exact Nat.le_of_ble_eq_true rfl
      | _ :: _ :: _ :: _ :: _, h => simp only [List.length_cons] at h; omega
    · unfold rowsOf
      rw [if_neg k, List.mem_filter, decide_eq_true_eq, pairsL_mem ok.sp.so]
      constructor
      · rintro ⟨h, h2⟩
        obtain ⟨s, hs, h⟩ := List.mem_flatMap.mp h
        obtain ⟨t, ht, rfl⟩ := List.mem_map.mp h
        unfold meetT at h2 ⊢
        by_cases c : s = t
        · rw [if_pos c] at h2; exact absurd h2 (by show ¬ (1 = 2); decide)
        · rw [if_neg c]
          by_cases l : ltS s t
          · rw [if_pos l]; exact ⟨s, hs, t, ht, l, rfl⟩
          · rw [if_neg l]
            rcases ltS.tri s t with w | w | w
            · exact absurd w l
            · exact absurd w c
            · exact ⟨t, ht, s, hs, w, rfl⟩
      · rintro ⟨s, hs, t, ht, l, rfl⟩
        refine ⟨List.mem_flatMap.mpr ⟨s, hs, List.mem_map.mpr ⟨t, ht, ?_⟩⟩, rfl⟩
        unfold meetT
        rw [if_neg l.ne, if_pos l]
theorem m_law_fire_of_eq {r : Rw} (h : Zr r) : m_law_fire_of [eR r] = some (eR r) := by
  have l : (r.map eP).length ≤ 1000 := by rw [List.length_map]; exact h.can.le
  show (s_law_fire_of (rho0 3 [eR r])).bind endD = _
  unfold s_law_fire_of
  have a1 : dLc [2] (iSeq (dVar 0)) (bName 2) dYes (dOp bIx (dVar 2) (dC (.int 1))) (rho0 3 [eR r]) = some (.list (r.map fun p => .int p.2)) :=
    dLc_of (iSeq_tup (xs := r.map eP) rfl l) (lcL_all (ex := eP) r fun p hp => ⟨[some (eR r), none, some (eP p)], rfl, rfl⟩)
  rw [dSeq_nx (dAsg_of (by rw [d1_of a1, mMax_zero h]))]
  have a2 : dLc [2] (iSeq (dVar 0)) (bName 2) dYes (dTup (dCons (dOp bIx (dVar 2) (dC (.int 0))) (dCons (dOp bSub (dVar 1) (dOp bIx (dVar 2) (dC (.int 1)))) dNil))) ((rho0 3 [eR r]).set 1 (some (.int 0))) = some (.list (r.map eP)) :=
    dLc_of (iSeq_tup (xs := r.map eP) rfl l) (lcL_all (ex := eP) r fun p hp => ⟨[some (eR r), some (.int 0), some (eP p)], rfl, by
      have hz := h.z p hp
      have : dTup (dCons (dOp bIx (dVar 2) (dC (.int 0))) (dCons (dOp bSub (dVar 1) (dOp bIx (dVar 2) (dC (.int 1)))) dNil)) [some (eR r), some (.int 0), some (eP p)] = some (.tuple [eS p.1, .int (0 - p.2)]) := rfl
      rw [this, hz]
      unfold eP
      rw [hz] <;> rfl⟩)
  rw [dRet_of (d1_of a2)] <;> rfl
theorem m_law_zone_fires_eq {h : Hs} {i : Nat} {z : Zn} (hz : h.zs[i]? = some z) (ok : ZOk z) : ∃ G : List Rw, m_law_zone_fires [eH h, .int (i : Int)] = some (.list (G.map eR)) ∧ G.length ≤ 9 ∧ ∀ r, r ∈ G ↔ r ∈ rowsOf z.sp z.kn := by
  obtain ⟨R, r1, r2, r3⟩ := m_law_zone_rows_eq ok
  have zr : ∀ r ∈ R, Zr r := fun r hr => ⟨(rowsOf_mem ok r ((r3 r).mp hr)).1, (rowsOf_mem ok r ((r3 r).mp hr)).2⟩
  obtain ⟨G, g1, g2, g3⟩ := ss_rows R
  refine ⟨G, ?_, by omega, fun r => (g2 r).trans (r3 r)⟩
  show (s_law_zone_fires (rho0 3 [eH h, .int (i : Int)])).bind endD = _
  unfold s_law_zone_fires
  have e0 : dOp bIx (dOp bIx (dVar 0) (dC (.int 1))) (dVar 1) (rho0 3 [eH h, .int (i : Int)]) = some (eZ z) := by
    rw [dOp_of (x := .tuple (h.zs.map eZ)) (y := .int (i : Int)) rfl rfl, bIx_map hz]
  have e1 : dCall 1 m_law_zone_rows (dCons (dOp bIx (dOp bIx (dVar 0) (dC (.int 1))) (dVar 1)) dNil) (rho0 3 [eH h, .int (i : Int)]) = some (.list (R.map eR)) := by
    rw [dCall1_of e0, r1]
  have e2 : dLc [2] (iSeq (dCall 1 m_law_zone_rows (dCons (dOp bIx (dOp bIx (dVar 0) (dC (.int 1))) (dVar 1)) dNil))) (bName 2) dYes (dCall 1 m_law_fire_of (dCons (dVar 2) dNil)) (rho0 3 [eH h, .int (i : Int)]) = some (.list (R.map eR)) :=
    dLc_of (iSeq_lst e1 (by rw [List.length_map]; omega)) (lcL_all (ex := eR) R fun r hr => ⟨[some (eH h), some (.int (i : Int)), some (eR r)], rfl, by rw [dCall1_of (x := eR r) rfl, m_law_fire_of_eq (zr r hr)]⟩)
  have e3 : dSortSet (dLc [2] (iSeq (dCall 1 m_law_zone_rows (dCons (dOp bIx (dOp bIx (dVar 0) (dC (.int 1))) (dVar 1)) dNil))) (bName 2) dYes (dCall 1 m_law_fire_of (dCons (dVar 2) dNil))) (rho0 3 [eH h, .int (i : Int)]) = some (.list (G.map eR)) := by
    show ((dLc _ _ _ _ _ (rho0 3 [eH h, .int (i : Int)])).bind fun x => mSS [x]) = _
    rw [e2]
    show mSS [.list (R.map eR)] = _
    rw [mSS_of (.inl rfl) (setOk_rows (by omega) fun r hr => (zr r hr).can.ne), g1]
  rw [dRet_of e3] <;> rfl
end SK
set_option maxHeartbeats 2000000
/-! The plain law: behind, is_so. -/
namespace SK
open PySem PySem.Spec PyProof.Rows L2
def accOf : List Int → Option Int
  | [] => none
  | n :: r => some (maxL n r)
theorem maxL_snoc : ∀ (r : List Int) (n x : Int), maxL n (r ++ [x]) = max (maxL n r) x
  | [], n, x => rfl
  | y :: r, n, x => maxL_snoc r (max n y) x
theorem accOf_snoc (xs : List Int) (x : Int) : accOf (xs ++ [x]) = some (acc1 (accOf xs) x) := by
  cases xs with
  | nil => rfl
  | cons n r => exact congrArg some (maxL_snoc r n x)
theorem mMax_acc {xs : List Int} (h : xs ≠ []) : mMax [.list (xs.map .int)] = some (eO (accOf xs)) := by
  show (ins (xs.map .int)).bind _ = _
  have := ins_mapF (f := fun x : Int => x) xs
  rw [List.map_id'] at this
  rw [show ins (xs.map .int) = some xs from this]
  cases xs with
  | nil => exact absurd rfl h
  | cons n r => rfl
theorem row_bn {z : Zn} (ok : ZOk z) {r : Rw} (hr : r ∈ rowsOf z.sp z.kn) : BN r := ⟨(rowsOf_mem ok r hr).1.nn, (rowsOf_mem ok r hr).1.nodup, (rowsOf_mem ok r hr).1.le⟩
theorem hour_self {z : Zn} (ok : ZOk z) {r : Rw} (hr : r ∈ rowsOf z.sp z.kn) : hourT r z = some 0 := by
  have b := row_bn ok hr
  refine (hour_thr b.ok ok).unique (o' := some 0) ⟨Int.le_refl 0, fun v hv => ⟨fun _ => hv, fun _ => ⟨r, hr, fun p hp => ⟨p.2, look_of b.nd hp, ?_⟩⟩⟩⟩
  rw [(rowsOf_mem ok r hr).2 p hp]
  omega
theorem m_law_behind_eq {h : Hs} (ok : HOk h) {k : Nat} (hk : k ≤ 1) {i : Nat} {z : Zn} (hz : h.zs[i]? = some z) : m_law_behind [eH h, .int (k : Int), .int (i : Int)] = some (eO (behindT h.zs h.ls k z)) := by
  have zok := ok.zs z (List.mem_of_getElem? hz)
  obtain ⟨G, g1, g2, g3⟩ := m_law_zone_fires_eq hz zok
  have gne : G ≠ [] := fun e => by
    have := rows_ne zok
    cases er : rowsOf z.sp z.kn with
    | nil => exact this er
    | cons r rs =>
      have hm := (g3 r).mpr (by rw [er]; exact List.mem_cons_self)
      rw [e] at hm
      exact nomatch hm
  let body : DS := dSeq (dPure 3 (dPar 5 6 (dCons (dOp bIx (dCall 2 m_law_hours (dCons (dVar 0) (dCons (dVar 4) dNil))) (dVar 2)) (dCons (dCall 3 m_law_out_at (dCons (dVar 0) (dCons (dVar 4) (dCons (dVar 1) dNil)))) dNil)))) (dSeq (dIfO 3 (dOp bIsN (dVar 6) (dC .none)) (dPure 3 (dRet (dC .none))) dNext) (dApp 3 (dOp bSub (dVar 6) (dVar 5))))
  have key : ∀ (G' : List Rw) (xs : List Int) (u4 u5 u6 : Option PyData), (∀ r ∈ G', r ∈ rowsOf z.sp z.kn) → xs.length + G'.length ≤ 900 →
      (forL (gO 3 (bName 4)) body (G'.map eR) [some (eH h), some (.int (k : Int)), some (.int (i : Int)), some (.list (xs.map .int)), u4, u5, u6] = some (.rt .none) ∧ behT (fun r => outT r h.zs h.ls k) (accOf xs) G' = none) ∨
      ∃ ys v4 v5 v6, forL (gO 3 (bName 4)) body (G'.map eR) [some (eH h), some (.int (k : Int)), some (.int (i : Int)), some (.list (xs.map .int)), u4, u5, u6] = some (.nx [some (eH h), some (.int (k : Int)), some (.int (i : Int)), some (.list (ys.map .int)), v4, v5, v6]) ∧
        behT (fun r => outT r h.zs h.ls k) (accOf xs) G' = accOf ys ∧ ys.length = xs.length + G'.length := by
    intro G'
    induction G' with
    | nil => exact fun xs u4 u5 u6 _ _ => .inr ⟨xs, u4, u5, u6, rfl, rfl, rfl⟩
    | cons r G' ih =>
      intro xs u4 u5 u6 hm hl
      rw [List.length_cons] at hl
      have hr := hm r List.mem_cons_self
      have rest := fun s hs => hm s (List.mem_cons_of_mem _ hs)
      have b := row_bn zok hr
      have e1 : dOp bIx (dCall 2 m_law_hours (dCons (dVar 0) (dCons (dVar 4) dNil))) (dVar 2) [some (eH h), some (.int (k : Int)), some (.int (i : Int)), none, some (eR r), u5, u6] = some (.int 0) := by
        have q : dCall 2 m_law_hours (dCons (dVar 0) (dCons (dVar 4) dNil)) [some (eH h), some (.int (k : Int)), some (.int (i : Int)), none, some (eR r), u5, u6] = some (eHo (hoursT r h.zs)) := by
          rw [dCall2_of (x := eH h) (y := eR r) rfl rfl, m_law_hours_eq ok b]
        rw [dOp_of q (y := .int (i : Int)) rfl, hours_at (at_lt hz)]
        unfold askT
        rw [hz]
        show some (eO (hourT r z)) = _
        rw [hour_self zok hr] <;> rfl
      have e2 : dCall 3 m_law_out_at (dCons (dVar 0) (dCons (dVar 4) (dCons (dVar 1) dNil))) [some (eH h), some (.int (k : Int)), some (.int (i : Int)), none, some (eR r), u5, u6] = some (eO (outT r h.zs h.ls k)) := by
        rw [dCall3_of (x := eH h) (y := eR r) (z := .int (k : Int)) rfl rfl rfl, m_law_out_at_eq ok b hk]
      have s1 : dPure 3 (dPar 5 6 (dCons (dOp bIx (dCall 2 m_law_hours (dCons (dVar 0) (dCons (dVar 4) dNil))) (dVar 2)) (dCons (dCall 3 m_law_out_at (dCons (dVar 0) (dCons (dVar 4) (dCons (dVar 1) dNil)))) dNil))) [some (eH h), some (.int (k : Int)), some (.int (i : Int)), some (.list (xs.map .int)), some (eR r), u5, u6] = some (.nx [some (eH h), some (.int (k : Int)), some (.int (i : Int)), some (.list (xs.map .int)), some (eR r), some (.int 0), some (eO (outT r h.zs h.ls k))]) := by
        show ((dPar 5 6 _ [some (eH h), some (.int (k : Int)), some (.int (i : Int)), none, some (eR r), u5, u6]).bind _) = _
        rw [dPar_of (cons_of e1 (cons_of e2 (nil_of _)))] <;> rfl
      rw [List.map_cons]
      cases eo : outT r h.zs h.ls k with
      | none =>
        left
        constructor
        · show ((dSeq _ _ [some (eH h), some (.int (k : Int)), some (.int (i : Int)), some (.list (xs.map .int)), some (eR r), u5, u6]).bind _) = _
          rw [dSeq_nx s1, eo] <;> rfl
        · show (match outT r h.zs h.ls k with | none => none | some x => behT _ _ G') = none
          rw [eo]
      | some x =>
        have bt : behT (fun r => outT r h.zs h.ls k) (accOf xs) (r :: G') = behT (fun r => outT r h.zs h.ls k) (accOf (xs ++ [x])) G' := by
          show (match outT r h.zs h.ls k with | none => none | some x => behT (fun r => outT r h.zs h.ls k) (some (acc1 (accOf xs) x)) G') = _
          rw [eo, accOf_snoc]
        have step : body [some (eH h), some (.int (k : Int)), some (.int (i : Int)), some (.list (xs.map .int)), some (eR r), u5, u6] = some (.nx [some (eH h), some (.int (k : Int)), some (.int (i : Int)), some (.list ((xs ++ [x]).map .int)), some (eR r), some (.int 0), some (.int x)]) := by
          show dSeq _ _ [some (eH h), some (.int (k : Int)), some (.int (i : Int)), some (.list (xs.map .int)), some (eR r), u5, u6] = _
          rw [dSeq_nx s1, eo]
          rw [dSeq_nx (ρ' := [some (eH h), some (.int (k : Int)), some (.int (i : Int)), some (.list (xs.map .int)), some (eR r), some (.int 0), some (.int x)]) rfl]
          have q : dOp bSub (dVar 6) (dVar 5) ([some (eH h), some (.int (k : Int)), some (.int (i : Int)), some (.list (xs.map .int)), some (eR r), some (.int 0), some (.int x)].set 3 none) = some (.int x) := by
            show some (PyData.int (x - 0)) = _
            rw [Int.sub_zero]
          rw [dApp_of (i := 3) q rfl (by rw [List.length_map]; omega), List.map_append] <;> rfl
        rw [bt]
        rcases ih (xs ++ [x]) (some (eR r)) (some (.int 0)) (some (.int x)) rest (by rw [List.length_append, List.length_singleton]; omega) with ⟨i1, i2⟩ | ⟨ys, v4, v5, v6, i1, i2, i3⟩
        · left
          refine ⟨?_, i2⟩
          show ((body [some (eH h), some (.int (k : Int)), some (.int (i : Int)), some (.list (xs.map .int)), some (eR r), u5, u6]).bind _) = _
          rw [step]
          exact i1
        · right
          refine ⟨ys, v4, v5, v6, ?_, i2, by rw [i3, List.length_append, List.length_singleton, List.length_cons]; omega⟩
          show ((body [some (eH h), some (.int (k : Int)), some (.int (i : Int)), some (.list (xs.map .int)), some (eR r), u5, u6]).bind _) = _
          rw [step]
          exact i1
  have late : behT (fun r => outT r h.zs h.ls k) none G = behindT h.zs h.ls k z :=
    IsBeh.unique g3 (fun r hr => rfl) (behT_is _ gne) (behT_is _ (rows_ne zok))
  have it : iSeq (dCall 2 m_law_zone_fires (dCons (dVar 0) (dCons (dVar 2) dNil))) [some (eH h), some (.int (k : Int)), some (.int (i : Int)), none, none, none, none] = some (G.map eR) :=
    iSeq_lst (by rw [dCall2_of (x := eH h) (y := .int (i : Int)) rfl rfl, g1]) (by rw [List.length_map]; omega)
  have own : ∀ o, forL (gO 3 (bName 4)) body (G.map eR) [some (eH h), some (.int (k : Int)), some (.int (i : Int)), some (.list []), none, none, none] = some o →
      dOwn 3 (fun _ => some (.list [])) (dForO 3 (iSeq (dCall 2 m_law_zone_fires (dCons (dVar 0) (dCons (dVar 2) dNil)))) (bName 4) body) (rho0 7 [eH h, .int (k : Int), .int (i : Int)]) = some o := by
    intro o e
    show dForO 3 (iSeq (dCall 2 m_law_zone_fires (dCons (dVar 0) (dCons (dVar 2) dNil)))) (bName 4) body [some (eH h), some (.int (k : Int)), some (.int (i : Int)), some (.list []), none, none, none] = _
    unfold dForO
    rw [show iSeq (dCall 2 m_law_zone_fires (dCons (dVar 0) (dCons (dVar 2) dNil))) ([some (eH h), some (.int (k : Int)), some (.int (i : Int)), some (.list []), none, none, none].set 3 none) = _ from it]
    exact e
  show (dSeq (dOwn 3 (fun _ => some (.list [])) (dForO 3 (iSeq (dCall 2 m_law_zone_fires (dCons (dVar 0) (dCons (dVar 2) dNil)))) (bName 4) body)) (dRet (d1 mMax (dVar 3))) (rho0 7 [eH h, .int (k : Int), .int (i : Int)])).bind endD = _
  rcases key G [] none none none (fun r hr => (g3 r).mp hr) (by rw [List.length_nil]; omega) with ⟨k1, k2⟩ | ⟨ys, v4, v5, v6, k1, k2, k3⟩
  · rw [dSeq_rt (own _ k1), ← late]
    rw [show behT (fun r => outT r h.zs h.ls k) none G = none from k2] <;> rfl
  · have yne : ys ≠ [] := fun e => by
      rw [e] at k3
      have : G.length ≠ 0 := fun e => gne (List.eq_nil_of_length_eq_zero e)
      simp only [List.length_nil] at k3
      omega
    rw [dSeq_nx (own _ k1), dRet_of (by rw [d1_of (x := .list (ys.map .int)) rfl, mMax_acc yne]), ← late]
    rw [show behT (fun r => outT r h.zs h.ls k) none G = accOf ys from k2] <;> rfl
theorem m_law_is_so_eq {h : Hs} (ok : HOk h) {k : Nat} (hk : k ≤ 1) {i : Nat} {z : Zn} (hz : h.zs[i]? = some z) (many : Int) : m_law_is_so [eH h, .int (k : Int), .int (i : Int), .int many] = some (.bool (promptT (behindT h.zs h.ls k z) many)) := by
  show (s_law_is_so (rho0 5 [eH h, .int (k : Int), .int (i : Int), .int many])).bind endD = _
  unfold s_law_is_so
  rw [dSeq_nx (dAsg_of (by rw [dCall3_of (x := eH h) (y := .int (k : Int)) (z := .int (i : Int)) rfl rfl rfl, m_law_behind_eq ok hk hz]))]
  cases behindT h.zs h.ls k z <;> rfl
end SK
set_option maxHeartbeats 2000000
/-! The plain law: put_at, least_less. -/
namespace SK
open PySem PySem.Spec PyProof.Rows L2
theorem m_law_put_at_eq {xs : List PyData} {n : Nat} (hn : n < xs.length) (hl : xs.length ≤ 900) (b : PyData) : m_law_put_at [.tuple xs, .int (n : Int), b] = some (.tuple (xs.take n ++ [b] ++ xs.drop (n + 1))) := by
  show (s_law_put_at (rho0 3 [.tuple xs, .int (n : Int), b])).bind endD = _
  unfold s_law_put_at
  have s1 : dSl (dVar 0) oNone (oSome (dVar 1)) (rho0 3 [.tuple xs, .int (n : Int), b]) = some (.tuple (xs.take n)) := by
    show some (PyData.tuple (cutD xs none (some (n : Int)))) = _
    rw [cut_to _ (by omega)]
  have s2 : dSl (dVar 0) (oSome (dOp bPlus (dVar 1) (dC (.int 1)))) oNone (rho0 3 [.tuple xs, .int (n : Int), b]) = some (.tuple (xs.drop (n + 1))) := by
    show some (PyData.tuple (cutD xs (some ((n + 1 : Nat) : Int)) none)) = _
    rw [cut_from _ (by omega)]
  have s3 : dOp bPlus (dSl (dVar 0) oNone (oSome (dVar 1))) (dTup (dCons (dVar 2) dNil)) (rho0 3 [.tuple xs, .int (n : Int), b]) = some (.tuple (xs.take n ++ [b])) := by
    rw [dOp_of s1 (y := .tuple [b]) rfl, bPlus_tup (by rw [List.length_take, List.length_singleton]; omega)]
  rw [dRet_of (by rw [dOp_of s3 s2, bPlus_tup (by rw [List.length_append, List.length_take, List.length_singleton, List.length_drop]; omega)])] <;> rfl
theorem put_wait (l : Ln) (d : Int) : m_law_put_at [eL l, .int 3, .int (l.wait - d)] = some (eL (lessL l d)) :=
  m_law_put_at_eq (n := 3) (by show 3 < 8; omega) (by show 8 ≤ 900; omega) _
theorem put_line {ls : List Ln} {n : Nat} {l : Ln} (hl : ls[n]? = some l) (hlen : ls.length ≤ 5) (d : Int) : m_law_put_at [eLs ls, .int (n : Int), eL (lessL l d)] = some (eLs (shortT ls n d)) := by
  have hn := at_lt hl
  refine (m_law_put_at_eq (n := n) (by rw [List.length_map]; exact hn) (by rw [List.length_map]; omega) _).trans ?_
  unfold eLs shortT
  rw [hl, ← List.map_take, ← List.map_drop]
  show _ = some (PyData.tuple ((ls.take n ++ [lessL l d] ++ ls.drop (n + 1)).map eL))
  rw [List.map_append, List.map_append] <;> rfl
theorem put_house (h : Hs) (ls : List Ln) : m_law_put_at [eH h, .int 2, eLs ls] = some (eH { h with ls := ls }) :=
  m_law_put_at_eq (n := 2) (by show 2 < 5; omega) (by show 5 ≤ 900; omega) _
theorem m_law_least_less_eq {h : Hs} (ok : HOk h) {n : Nat} {l : Ln} (hl : h.ls[n]? = some l) {k : Nat} (hk : k ≤ 1) {i : Nat} {z : Zn} (hz : h.zs[i]? = some z) (many : Int) :
    m_law_least_less [eH h, .int (n : Int), .int (k : Int), .int (i : Int), .int many] = some (eO (leastT (fun d => promptT (behindT h.zs (shortT h.ls n (d : Int)) k z) many) (List.range (l.wait + 1).toNat))) := by
  have lok := ok.ls l (List.mem_of_getElem? hl)
  have w0 := lok.w0
  have w1 := lok.w1
  have hl1 := ok.l1
  let body : DS := dSeq (dAsg (dCall 3 m_law_put_at (dCons (dOp bIx (dVar 0) (dC (.int 2))) (dCons (dVar 1) (dCons (dCall 3 m_law_put_at (dCons (dVar 5) (dCons (dC (.int 3)) (dCons (dOp bSub (dOp bIx (dVar 5) (dC (.int 3))) (dVar 6)) dNil)))) dNil)))) (bName 7)) (dIfS (dCall 4 m_law_is_so (dCons (dCall 3 m_law_put_at (dCons (dVar 0) (dCons (dC (.int 2)) (dCons (dVar 7) dNil)))) (dCons (dVar 2) (dCons (dVar 3) (dCons (dVar 4) dNil))))) (dRet (dVar 6)) dNext)
  let st := fun (u v : Option PyData) => [some (eH h), some (.int (n : Int)), some (.int (k : Int)), some (.int (i : Int)), some (.int many), some (eL l), u, v]
  have key : ∀ (ds : List Nat) (u v : Option PyData), (∀ d ∈ ds, (d : Int) ≤ l.wait) →
      (∃ d : Int, forL (bName 6) body (ds.map eI) (st u v) = some (.rt (.int d)) ∧ leastT (fun d => promptT (behindT h.zs (shortT h.ls n (d : Int)) k z) many) ds = some d) ∨
      ∃ u' v', forL (bName 6) body (ds.map eI) (st u v) = some (.nx (st u' v')) ∧ leastT (fun d => promptT (behindT h.zs (shortT h.ls n (d : Int)) k z) many) ds = none := by
    intro ds
    induction ds with
    | nil => exact fun u v _ => .inr ⟨u, v, rfl, rfl⟩
    | cons d ds ih =>
      intro u v hd
      have hd1 := hd d List.mem_cons_self
      obtain ⟨sm, sl⟩ := short_mem hl ok.ls (d := (d : Int)) (by omega) hd1
      have ok2 : HOk { h with ls := shortT h.ls n (d : Int) } := ⟨ok.z0, ok.z1, ok.zs, by show (shortT h.ls n (d : Int)).length ≤ 5; omega, sm⟩
      have e0 : dCall 3 m_law_put_at (dCons (dVar 5) (dCons (dC (.int 3)) (dCons (dOp bSub (dOp bIx (dVar 5) (dC (.int 3))) (dVar 6)) dNil))) (st (some (eI d)) v) = some (eL (lessL l (d : Int))) := by
        rw [dCall3_of (x := eL l) (y := .int 3) (z := .int (l.wait - (d : Int))) rfl rfl rfl, put_wait]
      have e1 : dCall 3 m_law_put_at (dCons (dOp bIx (dVar 0) (dC (.int 2))) (dCons (dVar 1) (dCons (dCall 3 m_law_put_at (dCons (dVar 5) (dCons (dC (.int 3)) (dCons (dOp bSub (dOp bIx (dVar 5) (dC (.int 3))) (dVar 6)) dNil)))) dNil))) (st (some (eI d)) v) = some (eLs (shortT h.ls n (d : Int))) := by
        rw [dCall3_of (x := eLs h.ls) (y := .int (n : Int)) rfl rfl e0, put_line hl hl1]
      have e2 : dCall 3 m_law_put_at (dCons (dVar 0) (dCons (dC (.int 2)) (dCons (dVar 7) dNil))) (st (some (eI d)) (some (eLs (shortT h.ls n (d : Int))))) = some (eH { h with ls := shortT h.ls n (d : Int) }) := by
        rw [dCall3_of (x := eH h) (y := .int 2) (z := eLs (shortT h.ls n (d : Int))) rfl rfl rfl, put_house]
      have e3 : dCall 4 m_law_is_so (dCons (dCall 3 m_law_put_at (dCons (dVar 0) (dCons (dC (.int 2)) (dCons (dVar 7) dNil)))) (dCons (dVar 2) (dCons (dVar 3) (dCons (dVar 4) dNil)))) (st (some (eI d)) (some (eLs (shortT h.ls n (d : Int))))) = some (.bool (promptT (behindT h.zs (shortT h.ls n (d : Int)) k z) many)) := by
        have e4 : dCons (dVar 2) (dCons (dVar 3) (dCons (dVar 4) dNil)) (st (some (eI d)) (some (eLs (shortT h.ls n (d : Int))))) = some [.int (k : Int), .int (i : Int), .int many] := rfl
        refine (dCallN_of (n := 4) (cons_of e2 e4) rfl).trans ?_
        exact m_law_is_so_eq ok2 hk hz many
      have s1 : dAsg (dCall 3 m_law_put_at (dCons (dOp bIx (dVar 0) (dC (.int 2))) (dCons (dVar 1) (dCons (dCall 3 m_law_put_at (dCons (dVar 5) (dCons (dC (.int 3)) (dCons (dOp bSub (dOp bIx (dVar 5) (dC (.int 3))) (dVar 6)) dNil)))) dNil)))) (bName 7) (st (some (eI d)) v) = some (.nx (st (some (eI d)) (some (eLs (shortT h.ls n (d : Int)))))) := by
        rw [dAsg_of e1] <;> rfl
      rw [List.map_cons]
      cases ep : promptT (behindT h.zs (shortT h.ls n (d : Int)) k z) many with
      | true =>
        left
        refine ⟨(d : Int), ?_, if_pos ep⟩
        show ((body (st (some (eI d)) v)).bind _) = _
        show ((dSeq _ _ (st (some (eI d)) v)).bind _) = _
        rw [dSeq_nx s1, dIfS_t (by rw [e3, ep])] <;> rfl
      | false =>
        have l0 : leastT (fun d => promptT (behindT h.zs (shortT h.ls n (d : Int)) k z) many) (d :: ds) = leastT (fun d => promptT (behindT h.zs (shortT h.ls n (d : Int)) k z) many) ds := if_neg (fun e => Bool.false_ne_true (ep.symm.trans e))
        rw [l0]
        have bd : body (st (some (eI d)) v) = some (.nx (st (some (eI d)) (some (eLs (shortT h.ls n (d : Int)))))) := by
          show dSeq _ _ (st (some (eI d)) v) = _
          rw [dSeq_nx s1, dIfS_f (by rw [e3, ep])] <;> rfl
        show (∃ d' : Int, ((body (st (some (eI d)) v)).bind _) = _ ∧ _) ∨ ∃ u' v', ((body (st (some (eI d)) v)).bind _) = _ ∧ _
        rw [bd]
        exact ih (some (eI d)) _ fun y hy => hd y (List.mem_cons_of_mem _ hy)
  have q1 : dOp bIx (dOp bIx (dVar 0) (dC (.int 2))) (dVar 1) (rho0 8 [eH h, .int (n : Int), .int (k : Int), .int (i : Int), .int many]) = some (eL l) := by
    rw [dOp_of (x := eLs h.ls) (y := .int (n : Int)) rfl rfl]
    exact bIx_map hl
  have a1 : dAsg (dOp bIx (dOp bIx (dVar 0) (dC (.int 2))) (dVar 1)) (bName 5) (rho0 8 [eH h, .int (n : Int), .int (k : Int), .int (i : Int), .int many]) = some (.nx (st none none)) := by
    rw [dAsg_of q1] <;> rfl
  have it : iRange (dCons (dOp bPlus (dOp bIx (dVar 5) (dC (.int 3))) (dC (.int 1))) dNil) (st none none) = some ((List.range (l.wait + 1).toNat).map eI) := by
    have q2 : dOp bPlus (dOp bIx (dVar 5) (dC (.int 3))) (dC (.int 1)) (st none none) = some (.int (l.wait + 1)) := rfl
    unfold iRange
    rw [cons_of q2 (nil_of _)]
    exact if_pos ⟨by omega, by omega⟩
  show (dSeq (dAsg (dOp bIx (dOp bIx (dVar 0) (dC (.int 2))) (dVar 1)) (bName 5)) (dSeq (dFor (iRange (dCons (dOp bPlus (dOp bIx (dVar 5) (dC (.int 3))) (dC (.int 1))) dNil)) (bName 6) body) (dRet (dC .none))) (rho0 8 [eH h, .int (n : Int), .int (k : Int), .int (i : Int), .int many])).bind endD = _
  rw [dSeq_nx a1]
  rcases key (List.range (l.wait + 1).toNat) none none (fun d hd => by have := List.mem_range.mp hd; omega) with ⟨d, k1, k2⟩ | ⟨u', v', k1, k2⟩
  · rw [dSeq_rt (by
      unfold dFor
      rw [it]
      exact k1), k2] <;> rfl
  · rw [dSeq_nx (by
      unfold dFor
      rw [it]
      exact k1), k2] <;> rfl
end SK
set_option maxHeartbeats 2000000
/-! The plain law: lists, same. -/
namespace SK
open PySem PySem.Spec PyProof.Rows L2
mutual
def lstD : PyData → PyData
  | .list xs => .list (lstDs xs)
  | .tuple xs => .list (lstDs xs)
  | .none => .none
  | .bool b => .bool b
  | .int i => .int i
  | .str x => .str x
  | .dict es => .dict es
def lstDs : List PyData → List PyData
  | [] => []
  | x :: xs => lstD x :: lstDs xs
end
theorem lstDs_map : ∀ xs : List PyData, lstDs xs = xs.map lstD
  | [] => rfl
  | x :: xs => by rw [lstDs, lstDs_map xs, List.map_cons]
theorem lstDs_len (xs : List PyData) : (lstDs xs).length = xs.length := by rw [lstDs_map, List.length_map]
mutual
theorem tup_lst : ∀ d : PyData, tupD (lstD d) = tupD d
  | .list xs => by rw [lstD, tupD, tupD, tup_lsts xs]
  | .tuple xs => by rw [lstD, tupD, tupD, tup_lsts xs]
  | .none => by rw [lstD]
  | .bool b => by rw [lstD]
  | .int i => by rw [lstD]
  | .str x => by rw [lstD]
  | .dict es => by rw [lstD]
theorem tup_lsts : ∀ xs : List PyData, tupDs (lstDs xs) = tupDs xs
  | [] => by rw [lstDs]
  | x :: xs => by rw [lstDs, tupDs, tupDs, tup_lst x, tup_lsts xs]
end
mutual
theorem fits_lst : ∀ (n : Nat) (d : PyData), fitsT n (lstD d) = fitsT n d
  | 0, .list xs => by rw [lstD, fitsT, fitsT]
  | 0, .tuple xs => by rw [lstD, fitsT, fitsT]
  | n + 1, .list xs => by rw [lstD, fitsT, fitsT, fits_lsts n xs, lstDs_len]
  | n + 1, .tuple xs => by rw [lstD, fitsT, fitsT, fits_lsts n xs, lstDs_len]
  | _, .none => by rw [lstD]
  | _, .bool b => by rw [lstD]
  | _, .int i => by rw [lstD]
  | _, .str x => by rw [lstD]
  | _, .dict es => by rw [lstD]
theorem fits_lsts : ∀ (n : Nat) (xs : List PyData), fitsTs n (lstDs xs) = fitsTs n xs
  | n, [] => by rw [lstDs]
  | n, x :: xs => by rw [lstDs, fitsTs, fitsTs, fits_lst n x, fits_lsts n xs]
end
theorem mR_lists_eq : ∀ (n : Nat) (d : PyData), fitsT n d = true → mR_law_lists (n + 1) [d] = some (lstD d)
  | n, .none, _ => rfl
  | n, .bool b, _ => rfl
  | n, .int i, _ => rfl
  | n, .str x, _ => rfl
  | n, .dict es, _ => by rw [lstD] <;> rfl
  | 0, .list _, h => by simp [fitsT] at h
  | 0, .tuple _, h => by simp [fitsT] at h
  | n + 1, .list xs, h => by
    rw [fitsT, Bool.and_eq_true, decide_eq_true_eq] at h
    have e : lcL (bName 1) dYes (dCall 1 (mR_law_lists (n + 1)) (dCons (dVar 1) dNil)) (wipeR (rho0 2 [.list xs]) [1]) xs = some (xs.map lstD) := by
      have := lcL_all (g := bName 1) (e := dCall 1 (mR_law_lists (n + 1)) (dCons (dVar 1) dNil)) (ρ := wipeR (rho0 2 [.list xs]) [1]) (ex := id) (f := lstD) xs fun x hx => ⟨[some (.list xs), some x], rfl, by
        rw [dCall1_of (x := x) rfl]
        exact mR_lists_eq n x (fitsTs_all n xs h.2 x hx)⟩
      rwa [List.map_id] at this
    have e2 := dLc_of (vs := [1]) (it := iSeq (dVar 0)) (ρ := rho0 2 [.list xs]) (iSeq_lst rfl h.1) e
    show ((dRet (dIf (dIsi2 "list" "tuple" (dVar 0)) (dLc [1] (iSeq (dVar 0)) (bName 1) dYes (dCall 1 (mR_law_lists (n + 1)) (dCons (dVar 1) dNil))) (dVar 0))) (rho0 2 [.list xs])).bind endD = _
    rw [dRet_of (x := .list (xs.map lstD)) (by rw [dIf_t rfl, e2]), lstD, lstDs_map] <;> rfl
  | n + 1, .tuple xs, h => by
    rw [fitsT, Bool.and_eq_true, decide_eq_true_eq] at h
    have e : lcL (bName 1) dYes (dCall 1 (mR_law_lists (n + 1)) (dCons (dVar 1) dNil)) (wipeR (rho0 2 [.tuple xs]) [1]) xs = some (xs.map lstD) := by
      have := lcL_all (g := bName 1) (e := dCall 1 (mR_law_lists (n + 1)) (dCons (dVar 1) dNil)) (ρ := wipeR (rho0 2 [.tuple xs]) [1]) (ex := id) (f := lstD) xs fun x hx => ⟨[some (.tuple xs), some x], rfl, by
        rw [dCall1_of (x := x) rfl]
        exact mR_lists_eq n x (fitsTs_all n xs h.2 x hx)⟩
      rwa [List.map_id] at this
    have e2 := dLc_of (vs := [1]) (it := iSeq (dVar 0)) (ρ := rho0 2 [.tuple xs]) (iSeq_tup rfl h.1) e
    show ((dRet (dIf (dIsi2 "list" "tuple" (dVar 0)) (dLc [1] (iSeq (dVar 0)) (bName 1) dYes (dCall 1 (mR_law_lists (n + 1)) (dCons (dVar 1) dNil))) (dVar 0))) (rho0 2 [.tuple xs])).bind endD = _
    rw [dRet_of (x := .list (xs.map lstD)) (by rw [dIf_t rfl, e2]), lstD, lstDs_map] <;> rfl
theorem m_law_lists_eq {d : PyData} (h : fitsT 9 d = true) : m_law_lists [d] = some (lstD d) := mR_lists_eq 9 d h
/-! ### same -/
def atomB : PyData → Bool
  | .none => true
  | .bool _ => true
  | .int _ => true
  | _ => false
theorem shaped_atom {d : PyData} (h : atomB d = true) : SeqAt.shaped d = true := by
  cases d with
  | none => rfl
  | bool b => rfl
  | int i => rfl
  | _ => exact nomatch h
theorem same_atom (n : Nat) (d : PyData) (h : atomB d = true) : mR_law_same (n + 1) [d, d] = some (.bool true) := by
  cases d with
  | none => rfl
  | bool b => cases b <;> rfl
  | int i =>
    have q : bEq (.int i) (.int i) = some (.bool true) := by
      unfold bEq
      rw [if_pos ⟨rfl, rfl⟩]
      show some (PyData.bool (PyData.eqv (.int i) (.int i))) = _
      have : PyData.eqv (.int i) (.int i) = true := by simp [PyData.eqv]
      rw [this]
    show ((s_law_same (mR_law_same n)) (rho0 4 [.int i, .int i])).bind endD = _
    unfold s_law_same
    rw [dSeq_nx (ρ' := rho0 4 [.int i, .int i]) rfl, dSeq_nx (ρ' := rho0 4 [.int i, .int i]) rfl]
    have c : dAnd (dIsi "int" (dVar 0)) (dAnd (dNot (dIsi "bool" (dVar 0))) (dOp bEq (dVar 0) (dVar 1))) (rho0 4 [.int i, .int i]) = some (.bool true) := by
      show dOp bEq (dVar 0) (dVar 1) (rho0 4 [.int i, .int i]) = _
      rw [dOp_of (x := .int i) (y := .int i) rfl rfl, q]
    rw [dRet_of c] <;> rfl
  | _ => exact nomatch h
theorem zipD_self {g : DG} {e : DE} {ρ : Rho} : ∀ xs : List PyData, True := fun _ => trivial
end SK
set_option maxHeartbeats 2000000
/-! The plain law: same of lists, drawn begins are sound, the inn. -/
namespace SK
open PySem PySem.Spec PyProof.Rows L2
/-! ### same -/
theorem mAll_trues (n : Nat) : mAll [.list (List.replicate n (.bool true))] = some (.bool true) := by
  have e : List.replicate n (PyData.bool true) = (List.replicate n true).map .bool := by rw [List.map_replicate]
  rw [e, mAll_map]
  have : (List.replicate n true).all id = true := by
    rw [List.all_eq_true]
    intro x hx
    rw [(List.mem_replicate.mp hx).2] <;> rfl
  rw [this]
theorem same_rows (n : Nat) (ρ : Rho) (hρ : ∃ a b, ρ = [some a, some b, none, none]) : ∀ xs : List PyData, xs.all atomB = true → lcL (bTup [bName 2, bName 3]) dYes (dCall 2 (mR_law_same (n + 1)) (dCons (dVar 2) (dCons (dVar 3) dNil))) ρ (zipD xs xs) = some (List.replicate xs.length (.bool true))
  | [], _ => rfl
  | x :: xs, h => by
    rw [List.all_cons, Bool.and_eq_true] at h
    obtain ⟨a, b, rfl⟩ := hρ
    have ih := same_rows n _ ⟨a, b, rfl⟩ xs h.2
    have e : dCall 2 (mR_law_same (n + 1)) (dCons (dVar 2) (dCons (dVar 3) dNil)) [some a, some b, some x, some x] = some (.bool true) := by
      rw [dCall2_of (x := x) (y := x) rfl rfl, same_atom n x h.1]
    show ((dCall 2 (mR_law_same (n + 1)) (dCons (dVar 2) (dCons (dVar 3) dNil)) [some a, some b, some x, some x]).bind fun y => (lcL _ _ _ _ (zipD xs xs)).bind fun ys => some (y :: ys)) = _
    rw [e, ih] <;> rfl
theorem m_law_same_eq {xs : List PyData} (hl : xs.length ≤ 1000) (h : xs.all atomB = true) : m_law_same [.list xs, .list xs] = some (.bool true) := by
  show ((s_law_same (mR_law_same 9)) (rho0 4 [.list xs, .list xs])).bind endD = _
  unfold s_law_same
  have c1 : dIsi2 "list" "tuple" (dVar 1) (rho0 4 [.list xs, .list xs]) = some (.bool true) := rfl
  have np : xs.all (fun x => !isPair x) = true := by
    rw [List.all_eq_true] at h ⊢
    intro x hx
    have := h x hx
    cases x with
    | none => rfl
    | bool b => rfl
    | int i => rfl
    | _ => exact nomatch this
  have z : iZipD (dVar 0) (dVar 1) (rho0 4 [.list xs, .list xs]) = some (zipD xs xs) := by
    show (if (xs.length ≤ 1000 ∧ xs.length ≤ 1000) ∧ xs.all (fun x => !isPair x) = true then some (zipD xs xs) else none) = _
    rw [if_pos ⟨⟨hl, hl⟩, np⟩]
  have l1 : dLc [2, 3] (iZipD (dVar 0) (dVar 1)) (bTup [bName 2, bName 3]) dYes (dCall 2 (mR_law_same 9) (dCons (dVar 2) (dCons (dVar 3) dNil))) (rho0 4 [.list xs, .list xs]) = some (.list (List.replicate xs.length (.bool true))) :=
    dLc_of z (same_rows 8 _ ⟨_, _, rfl⟩ xs h)
  have l2 : dOp bEq (d1 mLen (dVar 0)) (d1 mLen (dVar 1)) (rho0 4 [.list xs, .list xs]) = some (.bool true) := by
    rw [dOp_of (x := .int xs.length) (y := .int xs.length) rfl rfl]
    have q : bEq (.int xs.length) (.int xs.length) = some (.bool (decide ((xs.length : Int) = xs.length))) := rfl
    rw [q, decide_eq_true rfl]
  have a1 : dAnd (dOp bEq (d1 mLen (dVar 0)) (d1 mLen (dVar 1))) (d1 mAll (dLc [2, 3] (iZipD (dVar 0) (dVar 1)) (bTup [bName 2, bName 3]) dYes (dCall 2 (mR_law_same 9) (dCons (dVar 2) (dCons (dVar 3) dNil))))) (rho0 4 [.list xs, .list xs]) = some (.bool true) := by
    unfold dAnd
    rw [l2]
    show d1 mAll _ _ = _
    rw [d1_of l1, mAll_trues]
  have b1 : (dSeq (dIfS (dOr (dOp bNe (dIsi "list" (dVar 0)) (dIsi "list" (dVar 1))) (dOp bNe (dIsi "tuple" (dVar 0)) (dIsi "tuple" (dVar 1)))) (dRet (dC (.bool false))) dNext) (dRet (dAnd (dOp bEq (d1 mLen (dVar 0)) (d1 mLen (dVar 1))) (d1 mAll (dLc [2, 3] (iZipD (dVar 0) (dVar 1)) (bTup [bName 2, bName 3]) dYes (dCall 2 (mR_law_same 9) (dCons (dVar 2) (dCons (dVar 3) dNil)))))))) (rho0 4 [.list xs, .list xs]) = some (.rt (.bool true)) := by
    rw [dSeq_nx (ρ' := rho0 4 [.list xs, .list xs]) (by
      rw [dIfS_f (by rfl)] <;> rfl)]
    rw [dRet_of a1]
  rw [dSeq_rt (by rw [dIfS_t c1]; exact b1)] <;> rfl
/-! ### drawn begins -/
theorem row_shift {b c : Sp2 → Option Int} {d : Int} (h : ∀ s t, c s = some t → ∃ u, b s = some u ∧ u ≤ t + d) {r : Rw} {v : Int} (k : RowBy c r v) : RowBy b r (v + d) := fun p hp => by
  obtain ⟨t, e, l⟩ := k p hp
  obtain ⟨u, e2, l2⟩ := h _ _ e
  exact ⟨u, e2, by omega⟩
theorem zone_shift {b c : Sp2 → Option Int} {d : Int} (h : ∀ s t, c s = some t → ∃ u, b s = some u ∧ u ≤ t + d) {z : Zn} {v : Int} (k : ZoneBy c z v) : ZoneBy b z (v + d) := by
  obtain ⟨r, hr, k⟩ := k
  exact ⟨r, hr, row_shift h k⟩
theorem ask_shift {b c : Sp2 → Option Int} {d : Int} (h : ∀ s t, c s = some t → ∃ u, b s = some u ∧ u ≤ t + d) {zs : List Zn} {i : Nat} {v : Int} (k : AskBy c zs i v) : AskBy b zs i (v + d) := by
  obtain ⟨z, hz, k⟩ := k
  exact ⟨z, hz, zone_shift h k⟩
theorem line_shift {b c : Sp2 → Option Int} {d : Int} (h : ∀ s t, c s = some t → ∃ u, b s = some u ∧ u ≤ t + d) {zs : List Zn} {l : Ln} {v : Int} (k : LineBy c zs l v) : LineBy b zs l (v + d) := by
  have e : v + d - l.wait = v - l.wait + d := by omega
  unfold LineBy at k ⊢
  rw [e]
  by_cases c : l.an = true
  · rw [if_pos c] at k ⊢
    obtain ⟨i, hi, k⟩ := k
    exact ⟨i, hi, ask_shift h k⟩
  · rw [if_neg c] at k ⊢
    exact fun i hi => ask_shift h (k i hi)
theorem out_shift {b c : Sp2 → Option Int} {d : Int} (h : ∀ s t, c s = some t → ∃ u, b s = some u ∧ u ≤ t + d) {zs : List Zn} {ls : List Ln} {k : Nat} {v : Int} (q : OutBy c zs ls k v) : OutBy b zs ls k (v + d) := by
  obtain ⟨l, hl, e, q⟩ := q
  exact ⟨l, hl, e, line_shift h q⟩
theorem Thr.at_ {o : Option Int} {p : Int → Prop} {m : Int} (h : Thr o p) (e : o = some m) : p m := by
  rw [e] at h
  exact (h.2 m h.1).mpr (Int.le_refl m)
theorem Thr.le {o : Option Int} {p : Int → Prop} {v : Int} (h : Thr o p) (hv : 0 ≤ v) (k : p v) : ∃ m, o = some m ∧ m ≤ v := by
  cases o with
  | none => exact (h v hv k).elim
  | some m => exact ⟨m, rfl, (h.2 v hv).mp k⟩
theorem sound {h : Hs} (ok : HOk h) {b : Rw} (hb : BN b) {k : Nat} {z : Zn} (zok : ZOk z) {many one : Int} (hp : promptT (behindT h.zs h.ls k z) many = true) (h1 : hourT b z = some one) : ∃ two, outT b h.zs h.ls k = some two ∧ two ≤ one + many := by
  have ib := behT_is (fun r => outT r h.zs h.ls k) (rows_ne zok)
  have eb : behT (fun r => outT r h.zs h.ls k) none (rowsOf z.sp z.kn) = behindT h.zs h.ls k z := rfl
  rw [eb] at ib
  cases e : behindT h.zs h.ls k z with
  | none => rw [e] at hp; exact nomatch hp
  | some m =>
    rw [e] at hp ib
    have hm : m ≤ many := of_decide_eq_true hp
    have t1 := hour_thr hb.ok zok
    have n1 := thr_nn t1 h1
    obtain ⟨r, hr, k1⟩ := t1.at_ h1
    obtain ⟨x, e2, l2⟩ := ib.1 r hr
    have hbr := row_bn zok hr
    have t2 := out_thr hbr.ok ok.zs ok.ls k
    have n2 := thr_nn t2 e2
    have k2 := t2.at_ e2
    have key : ∀ s t, look r s = some t → ∃ u, look b s = some u ∧ u ≤ t + one := fun s t q => by
      have mem := look_mem q
      obtain ⟨u, e3, l3⟩ := k1 _ mem
      have z0 := (rowsOf_mem zok r hr).2 _ mem
      have e3 : look b s = some u := e3
      have l3 : u + t ≤ one := l3
      have z0 : t = 0 := z0
      exact ⟨u, e3, by omega⟩
    have k3 := out_shift key k2
    obtain ⟨two, e4, l4⟩ := (out_thr hb.ok ok.zs ok.ls k).le (by omega) k3
    exact ⟨two, e4, by omega⟩
/-! ### the inn -/
def innW : PyData := .tuple [.tuple [.int 0, .tuple [.tuple [.str "feel", .int 0], .tuple [.str "cut"], .tuple [.str "feel", .int 1], .tuple [.str "feel", .int 2], .tuple [.str "bell", .int 0], .tuple [.str "cut"], .tuple [.str "feel", .int 0]]]]
def innZ0 : Zn := ⟨[(0, 0), (0, 2)], 1⟩
def innZ1 : Zn := ⟨[(0, 2), (0, 3), (0, 6)], 2⟩
def innL0 : Ln := ⟨0, true, [0], 3, 0, 4, 0⟩
def innL1 : Ln := ⟨0, false, [0, 1], 2, 1, 0, 0⟩
def innH : Hs := ⟨innW, [innZ0, innZ1], [innL0, innL1], 1⟩
theorem m_law_inn_eq : m_law_inn [] = some (eH innH) := rfl
theorem inn_w : m_tupled [eH innH] = some (eH innH) := by
  rw [m_tupled_eq (by rfl)] <;> rfl
theorem inn_ok : HOk innH := by
  refine ⟨by decide, by decide, fun z hz => ?_, by decide, fun l hl => ?_⟩
  · rcases List.mem_cons.mp hz with e | hz
    · rw [e]; exact ⟨⟨by decide, by decide, by decide⟩, .inl rfl⟩
    · rw [List.mem_singleton.mp hz]; exact ⟨⟨by decide, by decide, by decide⟩, .inr ⟨rfl, by decide⟩⟩
  · rcases List.mem_cons.mp hl with e | hl
    · rw [e]; exact ⟨by decide, by decide, by decide, by decide, by decide, by decide⟩
    · rw [List.mem_singleton.mp hl]; exact ⟨by decide, by decide, by decide, by decide, by decide, by decide⟩
theorem hand_right : m_law_hand_right [] = some (.bool true) := by
  have w : WOk innH := ⟨inn_w⟩
  have o1 : m_on_within [eH innH, .int 0, .int 0, .int 3] = some (.bool true) := m_on_within_eq w inn_ok inn_w (k := 0) (by decide) (i := 0) (z := innZ0) rfl 3
  have o2 : m_on_within [eH innH, .int 0, .int 0, .int 2] = some (.bool false) := m_on_within_eq w inn_ok inn_w (k := 0) (by decide) (i := 0) (z := innZ0) rfl 2
  have o3 : m_on_within [eH innH, .int 1, .int 1, .int 9] = some (.bool false) := m_on_within_eq w inn_ok inn_w (k := 1) (by decide) (i := 1) (z := innZ1) rfl 9
  have o4 : m_least_shorter [eH innH, .int 0, .int 0, .int 0, .int 1] = some (.int 2) := m_least_shorter_eq w inn_ok inn_w (n := 0) (l := innL0) rfl (k := 0) (by decide) (i := 0) (z := innZ0) rfl 1
  have o5 : m_least_shorter [eH innH, .int 0, .int 0, .int 0, .int 3] = some (.int 0) := m_least_shorter_eq w inn_ok inn_w (n := 0) (l := innL0) rfl (k := 0) (by decide) (i := 0) (z := innZ0) rfl 3
  have o6 : m_least_shorter [eH innH, .int 1, .int 0, .int 0, .int 1] = some .none := m_least_shorter_eq w inn_ok inn_w (n := 1) (l := innL1) rfl (k := 0) (by decide) (i := 0) (z := innZ0) rfl 1
  show (s_law_hand_right (rho0 2 [])).bind endD = _
  unfold s_law_hand_right
  have a1 : dAsg (dCall0 m_law_inn) (bName 0) (rho0 2 []) = some (.nx [some (eH innH), none]) := by
    rw [dAsg_of (x := eH innH) m_law_inn_eq] <;> rfl
  rw [dSeq_nx a1]
  have a2 : dAsg (dLst (dCons (dCall 4 m_on_within (dCons (dVar 0) (dCons (dC (.int 0)) (dCons (dC (.int 0)) (dCons (dC (.int 3)) dNil))))) (dCons (dCall 4 m_on_within (dCons (dVar 0) (dCons (dC (.int 0)) (dCons (dC (.int 0)) (dCons (dC (.int 2)) dNil))))) (dCons (dCall 4 m_on_within (dCons (dVar 0) (dCons (dC (.int 1)) (dCons (dC (.int 1)) (dCons (dC (.int 9)) dNil))))) dNil)))) (bName 1) [some (eH innH), none] = some (.nx [some (eH innH), some (.list [.bool true, .bool false, .bool false])]) := by
    rw [dAsg_of (x := .list [.bool true, .bool false, .bool false]) (dLst_of (cons_of (by rw [dCallN_of (n := 4) (xs := [eH innH, .int 0, .int 0, .int 3]) rfl rfl, o1]) (cons_of (by rw [dCallN_of (n := 4) (xs := [eH innH, .int 0, .int 0, .int 2]) rfl rfl, o2]) (cons_of (by rw [dCallN_of (n := 4) (xs := [eH innH, .int 1, .int 1, .int 9]) rfl rfl, o3]) (nil_of _)))))] <;> rfl
  rw [dSeq_nx a2]
  have a3 : dLst (dCons (dCall 5 m_least_shorter (dCons (dVar 0) (dCons (dC (.int 0)) (dCons (dC (.int 0)) (dCons (dC (.int 0)) (dCons (dC (.int 1)) dNil)))))) (dCons (dCall 5 m_least_shorter (dCons (dVar 0) (dCons (dC (.int 0)) (dCons (dC (.int 0)) (dCons (dC (.int 0)) (dCons (dC (.int 3)) dNil)))))) (dCons (dCall 5 m_least_shorter (dCons (dVar 0) (dCons (dC (.int 1)) (dCons (dC (.int 0)) (dCons (dC (.int 0)) (dCons (dC (.int 1)) dNil)))))) dNil))) [some (eH innH), some (.list [.bool true, .bool false, .bool false])] = some (.list [.int 2, .int 0, .none]) :=
    dLst_of (cons_of (by rw [dCallN_of (n := 5) (xs := [eH innH, .int 0, .int 0, .int 0, .int 1]) rfl rfl, o4]) (cons_of (by rw [dCallN_of (n := 5) (xs := [eH innH, .int 0, .int 0, .int 0, .int 3]) rfl rfl, o5]) (cons_of (by rw [dCallN_of (n := 5) (xs := [eH innH, .int 1, .int 0, .int 0, .int 1]) rfl rfl, o6]) (nil_of _))))
  rw [dSeq_nx (dAsg_of (x := .list [.bool true, .bool false, .bool false, .int 2, .int 0, .none]) (by rw [dOp_of (x := .list [.bool true, .bool false, .bool false]) rfl a3] <;> rfl))]
  rw [dRet_of (x := .bool true) (by rw [dCall2_of (x := .list [.bool true, .bool false, .bool false, .int 2, .int 0, .none]) (y := .list [.bool true, .bool false, .bool false, .int 2, .int 0, .none]) rfl rfl, m_law_same_eq (by decide) rfl])] <;> rfl
end SK
set_option maxHeartbeats 2000000
/-! The plain law: what a drawing block ends in; take, of. -/
namespace SK
open PySem PySem.Spec PyProof.Rows L2
def XP (d : DX) (ρ : Rho) (Q : PyData → Rho → Prop) : Prop := ∃ r ρ', d ρ = some (r, ρ') ∧ Q r ρ'
def AP (d : DXA) (ρ : Rho) (Q : List PyData → Rho → Prop) : Prop := ∃ r ρ', d ρ = some (r, ρ') ∧ Q r ρ'
def SP (s : DSX) (ρ : Rho) (Q : OutX → Prop) : Prop := ∃ o, s ρ = some o ∧ Q o
theorem xp_lift {s : List Nat} {d : DE} {ρ : Rho} {Q : PyData → Rho → Prop} {r : PyData} (h : d (wipeR ρ s) = some r) (k : Q r ρ) : XP (xLift s d) ρ Q := ⟨r, ρ, by unfold xLift; rw [h] <;> rfl, k⟩
theorem xp_atom {d : DE} {ρ : Rho} {Q : PyData → Rho → Prop} {r : PyData} (h : d ρ = some r) (ha : atom r = true) (k : Q r ρ) : XP (xAtom d) ρ Q := ⟨r, ρ, by
  unfold xAtom
  rw [h]
  exact if_pos ha, k⟩
theorem xp_atomT {d : DE} {ρ : Rho} {Q : PyData → Rho → Prop} {b : Bool} (h : d ρ = some (.bool b)) (k : Q (.bool b) ρ) : XP (xAtomT d) ρ Q := ⟨.bool b, ρ, by
  unfold xAtomT
  rw [h] <;> rfl, k⟩
theorem xp_op {f : PyData → PyData → Option PyData} {a b : DX} {ρ : Rho} {Q : PyData → Rho → Prop} (h : XP a ρ fun x ρ1 => XP b ρ1 fun y ρ2 => ∃ z, f x y = some z ∧ Q z ρ2) : XP (xOp f a b) ρ Q := by
  obtain ⟨x, ρ1, e1, y, ρ2, e2, z, e3, k⟩ := h
  refine ⟨z, ρ2, ?_, k⟩
  unfold xOp
  rw [e1]
  show (b ρ1).bind _ = _
  rw [e2]
  show (f x y).map _ = _
  rw [e3] <;> rfl
theorem xp_map {f : List PyData → Option PyData} {a : DXA} {ρ : Rho} {Q : PyData → Rho → Prop} (h : AP a ρ fun xs ρ1 => ∃ z, f xs = some z ∧ Q z ρ1) : XP (xMap f a) ρ Q := by
  obtain ⟨xs, ρ1, e1, z, e3, k⟩ := h
  refine ⟨z, ρ1, ?_, k⟩
  unfold xMap
  rw [e1]
  show (f xs).map _ = _
  rw [e3] <;> rfl
theorem ap_nil {ρ : Rho} {Q : List PyData → Rho → Prop} (k : Q [] ρ) : AP xNil ρ Q := ⟨[], ρ, rfl, k⟩
theorem ap_cons {a : DX} {r : DXA} {ρ : Rho} {Q : List PyData → Rho → Prop} (h : XP a ρ fun x ρ1 => AP r ρ1 fun xs ρ2 => Q (x :: xs) ρ2) : AP (xCons a r) ρ Q := by
  obtain ⟨x, ρ1, e1, xs, ρ2, e2, k⟩ := h
  refine ⟨x :: xs, ρ2, ?_, k⟩
  unfold xCons
  rw [e1]
  show (r ρ1).bind _ = _
  rw [e2] <;> rfl
theorem ap_one {a : DX} {ρ : Rho} {Q : List PyData → Rho → Prop} (h : XP a ρ fun x ρ1 => Q [x] ρ1) : AP (xCons a xNil) ρ Q := by
  obtain ⟨x, ρ1, e1, k⟩ := h
  exact ap_cons ⟨x, ρ1, e1, ap_nil k⟩
theorem xp_if {c a b : DX} {ρ : Rho} {Q : PyData → Rho → Prop} (h : XP c ρ fun x ρ1 => ∃ v, x = .bool v ∧ (v = true → XP a ρ1 Q) ∧ (v = false → XP b ρ1 Q)) : XP (xIf c a b) ρ Q := by
  obtain ⟨x, ρ1, e1, v, rfl, k1, k2⟩ := h
  cases v with
  | true =>
    obtain ⟨r, ρ2, e2, k⟩ := k1 rfl
    refine ⟨r, ρ2, ?_, k⟩
    unfold xIf
    rw [e1]
    exact e2
  | false =>
    obtain ⟨r, ρ2, e2, k⟩ := k2 rfl
    refine ⟨r, ρ2, ?_, k⟩
    unfold xIf
    rw [e1]
    exact e2
theorem xp_and {a b : DX} {ρ : Rho} {Q : PyData → Rho → Prop} (h : XP a ρ fun x ρ1 => ∃ v, x = .bool v ∧ (v = true → XP b ρ1 Q) ∧ (v = false → Q (.bool false) ρ1)) : XP (xAnd a b) ρ Q := by
  obtain ⟨x, ρ1, e1, v, rfl, k1, k2⟩ := h
  cases v with
  | true =>
    obtain ⟨r, ρ2, e2, k⟩ := k1 rfl
    refine ⟨r, ρ2, ?_, k⟩
    unfold xAnd
    rw [e1]
    exact e2
  | false =>
    refine ⟨_, ρ1, ?_, k2 rfl⟩
    unfold xAnd
    rw [e1] <;> rfl
theorem xp_or {a b : DX} {ρ : Rho} {Q : PyData → Rho → Prop} (h : XP a ρ fun x ρ1 => ∃ v, x = .bool v ∧ (v = true → Q (.bool true) ρ1) ∧ (v = false → XP b ρ1 Q)) : XP (xOr a b) ρ Q := by
  obtain ⟨x, ρ1, e1, v, rfl, k1, k2⟩ := h
  cases v with
  | true =>
    refine ⟨_, ρ1, ?_, k1 rfl⟩
    unfold xOr
    rw [e1] <;> rfl
  | false =>
    obtain ⟨r, ρ2, e2, k⟩ := k2 rfl
    refine ⟨r, ρ2, ?_, k⟩
    unfold xOr
    rw [e1]
    exact e2
/-! ### statements -/
@[reducible] def afterS (u : DSX) (Q : OutX → Prop) : OutX → Prop
  | .nx ρ => SP u ρ Q
  | .rt d ρ => Q (.rt d ρ)
theorem sp_seq {s u : DSX} {ρ : Rho} {Q : OutX → Prop} (h : SP s ρ (afterS u Q)) : SP (xSeq s u) ρ Q := by
  obtain ⟨o, e1, k⟩ := h
  cases o with
  | nx ρ1 =>
    obtain ⟨o2, e2, k⟩ := k
    refine ⟨o2, ?_, k⟩
    unfold xSeq
    rw [e1]
    exact e2
  | rt d ρ1 =>
    refine ⟨_, ?_, k⟩
    unfold xSeq
    rw [e1] <;> rfl
theorem sp_next {ρ : Rho} {Q : OutX → Prop} (k : Q (.nx ρ)) : SP xNext ρ Q := ⟨_, rfl, k⟩
theorem sp_set {i : Nat} {d : DX} {ρ : Rho} {Q : OutX → Prop} (h : XP d ρ fun r ρ1 => Q (.nx (ρ1.set i (some r)))) : SP (xSet i d) ρ Q := by
  obtain ⟨r, ρ1, e1, k⟩ := h
  refine ⟨_, ?_, k⟩
  unfold xSet
  rw [e1] <;> rfl
theorem sp_ret {d : DX} {ρ : Rho} {Q : OutX → Prop} (h : XP d ρ fun r ρ1 => Q (.rt r ρ1)) : SP (xRet d) ρ Q := by
  obtain ⟨r, ρ1, e1, k⟩ := h
  refine ⟨_, ?_, k⟩
  unfold xRet
  rw [e1] <;> rfl
theorem sp_ifS {c : DX} {s u : DSX} {ρ : Rho} {Q : OutX → Prop} (h : XP c ρ fun x ρ1 => ∃ v, x = .bool v ∧ (v = true → SP s ρ1 Q) ∧ (v = false → SP u ρ1 Q)) : SP (xIfS c s u) ρ Q := by
  obtain ⟨x, ρ1, e1, v, rfl, k1, k2⟩ := h
  cases v with
  | true =>
    obtain ⟨o, e2, k⟩ := k1 rfl
    refine ⟨o, ?_, k⟩
    unfold xIfS
    rw [e1]
    exact e2
  | false =>
    obtain ⟨o, e2, k⟩ := k2 rfl
    refine ⟨o, ?_, k⟩
    unfold xIfS
    rw [e1]
    exact e2
theorem sp_lift {s : List Nat} {d : DS} {ρ ρ' : Rho} {Q : OutX → Prop} (h : d (wipeR ρ s) = some (.nx ρ')) (k : Q (.nx (putS s ρ' ρ))) : SP (xsLift s d) ρ Q := ⟨_, by
  unfold xsLift
  rw [h] <;> rfl, k⟩
theorem sp_store {j : Nat} {di d : DX} {ρ : Rho} {Q : OutX → Prop} (h : XP d ρ fun r ρ1 => XP di ρ1 fun x ρ2 => ∃ i ds n, x = .int i ∧ lstAt ρ2 j = some ds ∧ ixN ds.length i = some n ∧ Q (.nx (ρ2.set j (some (.list (ds.set n r)))))) : SP (xStore j di d) ρ Q := by
  obtain ⟨r, ρ1, e1, x, ρ2, e2, i, ds, n, rfl, e3, e4, k⟩ := h
  refine ⟨_, ?_, k⟩
  unfold xStore
  rw [e1]
  show (di ρ1).bind _ = _
  rw [e2]
  show (lstAt ρ2 j).bind _ = _
  rw [e3]
  show (ixN ds.length i).map _ = _
  rw [e4] <;> rfl
theorem sp_app {j : Nat} {d : DX} {ρ : Rho} {Q : OutX → Prop} {ds0 : List PyData} (h0 : lstAt ρ j = some ds0) (h : XP d ρ fun r ρ1 => ∃ ds, lstAt ρ1 j = some ds ∧ ds.length < 1000 ∧ Q (.nx (ρ1.set j (some (.list (ds ++ [r])))))) : SP (xApp j d) ρ Q := by
  obtain ⟨r, ρ1, e1, ds, e2, e3, k⟩ := h
  refine ⟨_, ?_, k⟩
  unfold xApp
  rw [h0]
  show (d ρ).bind _ = _
  rw [e1]
  show (lstAt ρ1 j).bind _ = _
  rw [e2]
  exact if_pos e3
theorem ap_lift {s : List Nat} {d : DA} {ρ : Rho} {Q : List PyData → Rho → Prop} {r : List PyData} (h : d (wipeR ρ s) = some r) (k : Q r ρ) : AP (xiLift s d) ρ Q := ⟨r, ρ, by unfold xiLift; rw [h] <;> rfl, k⟩
theorem ap_range {d : DX} {ρ : Rho} {Q : List PyData → Rho → Prop} (h : XP d ρ fun r ρ1 => ∃ n : Nat, r = .int n ∧ n ≤ 1000 ∧ Q (upTo n) ρ1) : AP (xiRange d) ρ Q := by
  obtain ⟨r, ρ1, e1, n, rfl, e2, k⟩ := h
  refine ⟨_, ρ1, ?_, k⟩
  unfold xiRange
  rw [e1]
  show (if (n : Int) ≤ 1000 ∧ -1000 ≤ (n : Int) then some (upTo (n : Int).toNat, ρ1) else none) = _
  rw [if_pos ⟨by omega, by omega⟩, Int.toNat_natCast]
theorem ap_seqOf {d : DX} {ρ : Rho} {Q : List PyData → Rho → Prop} (h : XP d ρ fun r ρ1 => ∃ xs, seqOf r = some xs ∧ Q xs ρ1) : AP (xSeqOf d) ρ Q := by
  obtain ⟨r, ρ1, e1, xs, e2, k⟩ := h
  refine ⟨xs, ρ1, ?_, k⟩
  unfold xSeqOf
  rw [e1]
  show (seqOf r).map _ = _
  rw [e2] <;> rfl
theorem sp_acq {j : Nat} {d : DXA} {r : DSX} {ρ : Rho} {Q : OutX → Prop} (h : AP d ρ fun xs ρ1 => j < ρ1.length ∧ SP r (ρ1.set j (some (.list xs))) Q) : SP (xAcq j d r) ρ Q := by
  obtain ⟨xs, ρ1, e1, hj, o, e2, k⟩ := h
  refine ⟨o, ?_, k⟩
  unfold xAcq
  rw [e1]
  show (if j < ρ1.length then _ else none) = _
  rw [if_pos hj]
  exact e2
theorem sp_acq2 {i j : Nat} {d : DXA} {r : DSX} {ρ : Rho} {Q : OutX → Prop} (h : AP d ρ fun xs ρ1 => (i < ρ1.length ∧ j < ρ1.length) ∧ SP r ((ρ1.set i (some (.list xs))).set j (some (.list []))) Q) : SP (xAcq2 i j d r) ρ Q := by
  obtain ⟨xs, ρ1, e1, hj, o, e2, k⟩ := h
  refine ⟨o, ?_, k⟩
  unfold xAcq2
  rw [e1]
  show (if i < ρ1.length ∧ j < ρ1.length then _ else none) = _
  rw [if_pos hj]
  exact e2
theorem sp_only {d : DSX} {ρ : Rho} {Q : OutX → Prop} (h : SP d ρ fun o => ∃ r ρ1, o = .rt r ρ1 ∧ Q (.rt r ρ1)) : SP (onlyRt d) ρ Q := by
  obtain ⟨o, e1, r, ρ1, rfl, k⟩ := h
  refine ⟨_, ?_, k⟩
  unfold onlyRt
  rw [e1] <;> rfl
/-- a loop that is never left -/
theorem forX_inv {s : List Nat} {g : DG} {body : DSX} (I : Nat → Rho → Prop) : ∀ (xs : List PyData) (i : Nat) (ρ : Rho), I i ρ → (∀ j x ρ, xs[j]? = some x → I (i + j) ρ → ∃ ρ1, gX s g ρ x = some ρ1 ∧ SP body ρ1 fun o => ∃ ρ2, o = .nx ρ2 ∧ I (i + j + 1) ρ2) →
    ∃ ρ', forX s g body xs ρ = some (.nx ρ') ∧ I (i + xs.length) ρ'
  | [], i, ρ, h, _ => ⟨ρ, rfl, h⟩
  | x :: xs, i, ρ, h, k => by
    obtain ⟨ρ1, e1, o, e2, ρ2, rfl, h2⟩ := k 0 x ρ rfl h
    obtain ⟨ρ', e3, h3⟩ := forX_inv I xs (i + 1) ρ2 h2 fun j y ρ3 hj hi => by
      have e : i + 1 + j = i + (j + 1) := by omega
      have := k (j + 1) y ρ3 (by rw [List.getElem?_cons_succ]; exact hj) (by rw [← e]; exact hi)
      rw [e]
      exact this
    refine ⟨ρ', ?_, by rw [List.length_cons, show i + (xs.length + 1) = i + 1 + xs.length by omega]; exact h3⟩
    show (gX s g ρ x).bind _ = _
    rw [e1]
    show (body ρ1).bind _ = _
    rw [e2]
    exact e3
theorem sp_for {s : List Nat} {it : DXA} {g : DG} {body : DSX} {ρ : Rho} {Q : OutX → Prop} (h : AP it ρ fun xs ρ1 => ∃ I : Nat → Rho → Prop, I 0 ρ1 ∧ (∀ j x ρ, xs[j]? = some x → I j ρ → ∃ ρ1, gX s g ρ x = some ρ1 ∧ SP body ρ1 fun o => ∃ ρ2, o = .nx ρ2 ∧ I (j + 1) ρ2) ∧ ∀ ρ2, I xs.length ρ2 → Q (.nx ρ2)) : SP (xFor s it g body) ρ Q := by
  obtain ⟨xs, ρ1, e1, I, h0, h1, h2⟩ := h
  obtain ⟨ρ', e2, h3⟩ := forX_inv (s := s) (g := g) (body := body) I xs 0 ρ1 h0 (fun j x ρ hj hi => by
    rw [Nat.zero_add] at hi ⊢
    exact h1 j x ρ hj hi)
  rw [Nat.zero_add] at h3
  refine ⟨_, ?_, h2 ρ' h3⟩
  unfold xFor
  rw [e1]
  exact e2
/-- a comprehension that draws -/
theorem lcX_inv {s vs : List Nat} {g : DG} {e : DX} (I : List PyData → Rho → Prop) (xs0 : List PyData) (k : ∀ x ds ρ, xs0[ds.length]? = some x → I ds ρ → ∃ ρ1, gX s g (wipeR ρ vs) x = some ρ1 ∧ XP e ρ1 fun y ρ2 => I (ds ++ [y]) (putS s ρ ρ2)) : ∀ (xs : List PyData) (ds : List PyData) (ρ : Rho), xs0.drop ds.length = xs → I ds ρ →
    ∃ ys ρ', lcX g e s vs ρ xs = some (ys, ρ') ∧ I (ds ++ ys) ρ' ∧ ys.length = xs.length
  | [], ds, ρ, _, h => ⟨[], ρ, rfl, by rw [List.append_nil]; exact h, rfl⟩
  | x :: xs, ds, ρ, hx, h => by
    have h0 : xs0[ds.length]? = some x := by
      have : (xs0.drop ds.length)[0]? = some x := by rw [hx] <;> rfl
      rwa [List.getElem?_drop, Nat.add_zero] at this
    obtain ⟨ρ1, e1, y, ρ2, e2, h2⟩ := k x ds ρ h0 h
    have hd : xs0.drop (ds ++ [y]).length = xs := by
      have hl : (ds ++ [y]).length = ds.length + 1 := by rw [List.length_append] <;> rfl
      rw [hl, ← List.drop_drop, hx] <;> rfl
    obtain ⟨ys, ρ', e3, h3, h4⟩ := lcX_inv I xs0 k xs (ds ++ [y]) (putS s ρ ρ2) hd h2
    refine ⟨y :: ys, ρ', ?_, by rw [List.append_assoc] at h3; exact h3, by rw [List.length_cons, h4, List.length_cons]⟩
    show (gX s g (wipeR ρ vs) x).bind _ = _
    rw [e1]
    show (e ρ1).bind _ = _
    rw [e2]
    show (lcX g e s vs (putS s ρ ρ2) xs).bind _ = _
    rw [e3] <;> rfl
theorem xp_lc {s vs : List Nat} {it : DXA} {g : DG} {e : DX} {ρ : Rho} {Q : PyData → Rho → Prop} (h : AP it ρ fun xs ρ1 => ∃ I : List PyData → Rho → Prop, I [] ρ1 ∧ (∀ x ds ρ, xs[ds.length]? = some x → I ds ρ → ∃ ρ1, gX s g (wipeR ρ vs) x = some ρ1 ∧ XP e ρ1 fun y ρ2 => I (ds ++ [y]) (putS s ρ ρ2)) ∧ ∀ ys ρ2, ys.length = xs.length → I ys ρ2 → Q (.list ys) ρ2) : XP (xLc vs s it g e) ρ Q := by
  obtain ⟨xs, ρ1, e1, I, h0, h1, h2⟩ := h
  obtain ⟨ys, ρ', e2, h3, h4⟩ := lcX_inv (s := s) (vs := vs) (g := g) (e := e) I xs h1 xs [] ρ1 rfl h0
  rw [List.nil_append] at h3
  refine ⟨_, ρ', ?_, h2 ys ρ' h4 h3⟩
  unfold xLc
  rw [e1]
  show (lcX g e s vs ρ1 xs).map _ = _
  rw [e2] <;> rfl
/-! ### draws -/
def Gd (n : Nat) (t : PyData) : Prop := ∃ x y c : Int, t = .list [.int x, .int y, .int c] ∧ 0 ≤ c ∧ c ≤ n
theorem Gd.mono {n m : Nat} {t : PyData} (h : Gd n t) (l : n ≤ m) : Gd m t := by
  obtain ⟨x, y, c, e, h0, h1⟩ := h
  exact ⟨x, y, c, e, h0, by omega⟩
/-- m draws with the arguments `as`, and at most K laps of the tin -/
def DrS (m : List PyData → Option (PyData × PyData)) (K : Nat) (as : List PyData) (P : PyData → Prop) : Prop := ∀ (n : Nat) (t : PyData), Gd n t → n + K ≤ 1000000 → ∃ r t', m (t :: as) = some (r, t') ∧ Gd (n + K) t' ∧ P r
theorem xp_draw {k : Nat} {m : List PyData → Option (PyData × PyData)} {d : DXA} {ρ : Rho} {Q : PyData → Rho → Prop} (h : AP d ρ fun xs ρ1 => ∃ (n K : Nat) (t : PyData) (rest : Rho) (P : PyData → Prop), ρ1 = some t :: rest ∧ xs.length + 1 = k ∧ Gd n t ∧ n + K ≤ 1000000 ∧ DrS m K xs P ∧ ∀ r t', P r → Gd (n + K) t' → Q r (some t' :: rest)) : XP (xDraw 0 k m d) ρ Q := by
  obtain ⟨xs, ρ1, e1, n, K, t, rest, P, rfl, hk, hg, hn, hd, q⟩ := h
  obtain ⟨r, t', e2, hg2, hP⟩ := hd n t hg hn
  refine ⟨r, some t' :: rest, ?_, q r t' hP hg2⟩
  unfold xDraw
  rw [e1]
  show (if xs.length + 1 = k then _ else none) = _
  rw [if_pos hk]
  show ((m (t :: xs)).map _) = _
  rw [e2] <;> rfl
/-- from a block to its draw -/
theorem drs_of {N k K : Nat} {s : DSX} {as : List PyData} {P : PyData → Prop} (hl : as.length + 1 = k) (h : ∀ n t, Gd n t → n + K ≤ 1000000 → SP s (rho0 N (t :: as)) fun o => ∃ r t' rest, o = .rt r (some t' :: rest) ∧ Gd (n + K) t' ∧ P r) : DrS (mX N k s) K as P := by
  intro n t hg hn
  obtain ⟨o, e1, r, t', rest, rfl, h1, h2⟩ := h n t hg hn
  refine ⟨r, t', ?_, h1, h2⟩
  unfold mX
  rw [if_pos (by rw [List.length_cons]; exact hl), e1] <;> rfl
/-- a small number -/
def Lt (b : Nat) (r : PyData) : Prop := ∃ v : Nat, r = .int v ∧ v < b
theorem fmod_lt (a : Int) {b : Nat} (hb : 0 < b) : ∃ v : Nat, a.fmod b = (v : Int) ∧ v < b := by
  rw [Int.fmod_eq_emod_of_nonneg a (by omega)]
  have h1 := Int.emod_nonneg a (show (b : Int) ≠ 0 by omega)
  have h2 := Int.emod_lt_of_pos a (show (0 : Int) < b by omega)
  obtain ⟨v, hv⟩ := Int.eq_ofNat_of_zero_le h1
  exact ⟨v, hv, by omega⟩
theorem bMod_of {i j : Int} (h : j ≠ 0) : bModG (.int i) (.int j) = some (.int (i.fmod j)) := by
  unfold bModG bC
  exact if_pos (decide_eq_true h)
theorem bDiv_of {i j : Int} (h : j ≠ 0) (h2 : j.natAbs < 1073741824) : bDivG (.int i) (.int j) = some (.int (i.fdiv j)) := by
  unfold bDivG bC
  refine if_pos ?_
  unfold cDiv
  rw [decide_eq_true h, decide_eq_true h2] <;> rfl
theorem bMul_r {i j : Int} (h : -(2 ^ 64) < j) (h2 : j < 2 ^ 64) : bMulG (.int i) (.int j) = some (.int (i * j)) := by
  unfold bMulG bC
  refine if_pos ?_
  unfold cMul
  rw [decide_eq_true h, decide_eq_true h2, Bool.and_self, Bool.or_true]
theorem bMul_l {i j : Int} (h : -(2 ^ 64) < i) (h2 : i < 2 ^ 64) : bMulG (.int i) (.int j) = some (.int (i * j)) := by
  unfold bMulG bC
  refine if_pos ?_
  unfold cMul
  rw [decide_eq_true h, decide_eq_true h2, Bool.and_self, Bool.true_or]
theorem take_ok {b : Nat} (hb : 0 < b) (hb2 : b < 1000000) : DrS m_law_take 1 [.int (b : Int)] (Lt b) := by
  refine drs_of rfl fun n t ⟨x, y, c, et, h0, h1⟩ hn => ?_
  subst et
  have b0 : (b : Int) ≠ 0 := by omega
  show SP s_law_take [some (.list [.int x, .int y, .int c]), some (.int (b : Int)), none, none, none, none] _
  unfold s_law_take
  refine sp_seq (sp_ifS (xp_atomT (b := decide (0 < x)) rfl ⟨_, rfl, fun hx => ?_, fun hx => sp_next ?_⟩))
  · obtain ⟨v, hv, hlt⟩ := fmod_lt x hb
    refine sp_seq (sp_set (xp_atom (r := .int (x.fmod b)) ?_ rfl ?_))
    · rw [dOp_of (x := .int x) (y := .int (b : Int)) rfl rfl, bMod_of b0]
    · refine sp_seq (sp_store (xp_atom (r := .int (x.fdiv b)) ?_ rfl (xp_lift (r := .int 0) rfl ⟨0, [.int x, .int y, .int c], 0, rfl, rfl, rfl, ?_⟩)))
      · rw [dOp_of (x := .int x) (y := .int (b : Int)) rfl rfl, bDiv_of b0 (by omega)]
      · refine sp_ret (xp_lift (r := .int (x.fmod b)) rfl ?_)
        exact ⟨_, .list [.int (x.fdiv b), .int y, .int c], _, rfl, ⟨_, _, _, rfl, h0, by omega⟩, v, by rw [hv], hlt⟩
  · refine sp_seq (sp_store (xp_atom (r := .int (c + 1)) rfl rfl (xp_lift (r := .int 2) rfl ⟨2, [.int x, .int y, .int c], 2, rfl, rfl, rfl, ?_⟩)))
    generalize hc : c + 1 = c1
    have c0 : 0 ≤ c1 := by omega
    have cn : c1 ≤ n + 1 := by omega
    show SP _ [some (.list [.int x, .int y, .int c1]), some (.int (b : Int)), none, none, none, none] _
    refine sp_seq (sp_set (xp_atom (r := .int (((y + 48271 * c1) * (39373 + c1)).fmod 2147483647)) ?_ rfl ?_))
    · have m1 : dOp bMulG (dC (.int 48271)) (dOp bIx (dVar 0) (dC (.int 2))) [some (.list [.int x, .int y, .int c1]), some (.int (b : Int)), none, none, none, none] = some (.int (48271 * c1)) := by
        rw [dOp_of (x := .int 48271) (y := .int c1) rfl rfl, bMul_l (by decide) (by decide)]
      have m2 : dOp bPlus (dOp bIx (dVar 0) (dC (.int 1))) (dOp bMulG (dC (.int 48271)) (dOp bIx (dVar 0) (dC (.int 2)))) [some (.list [.int x, .int y, .int c1]), some (.int (b : Int)), none, none, none, none] = some (.int (y + 48271 * c1)) := by
        rw [dOp_of (x := .int y) rfl m1] <;> rfl
      have m3 : dOp bMulG (dOp bPlus (dOp bIx (dVar 0) (dC (.int 1))) (dOp bMulG (dC (.int 48271)) (dOp bIx (dVar 0) (dC (.int 2))))) (dOp bPlus (dC (.int 39373)) (dOp bIx (dVar 0) (dC (.int 2)))) [some (.list [.int x, .int y, .int c1]), some (.int (b : Int)), none, none, none, none] = some (.int ((y + 48271 * c1) * (39373 + c1))) := by
        rw [dOp_of (x := .int (y + 48271 * c1)) (y := .int (39373 + c1)) m2 rfl, bMul_r (by omega) (by omega)]
      have m4 : d1 mInt (dOp bMulG (dOp bPlus (dOp bIx (dVar 0) (dC (.int 1))) (dOp bMulG (dC (.int 48271)) (dOp bIx (dVar 0) (dC (.int 2))))) (dOp bPlus (dC (.int 39373)) (dOp bIx (dVar 0) (dC (.int 2))))) [some (.list [.int x, .int y, .int c1]), some (.int (b : Int)), none, none, none, none] = some (.int ((y + 48271 * c1) * (39373 + c1))) := by
        rw [d1_of m3] <;> rfl
      rw [dOp_of (x := .int ((y + 48271 * c1) * (39373 + c1))) (y := .int 2147483647) m4 rfl, bMod_of (by decide)]
    · generalize ((y + 48271 * c1) * (39373 + c1)).fmod 2147483647 = o1
      show SP _ [some (.list [.int x, .int y, .int c1]), some (.int (b : Int)), none, some (.int o1), none, none] _
      obtain ⟨w, hw, hw2⟩ := fmod_lt o1 (b := 40009) (by decide)
      have hw : o1.fmod 40009 = (w : Int) := hw
      refine sp_seq (sp_lift (ρ' := [none, some (.int (b : Int)), none, some (.int o1), some (.int ((w : Int) + 7)), none]) ?_ ?_)
      · have m1 : dOp bModG (d1 mInt (dVar 3)) (dC (.int 40009)) [none, some (.int (b : Int)), none, some (.int o1), none, none] = some (.int (w : Int)) := by
          rw [dOp_of (x := .int o1) (y := .int 40009) rfl rfl, bMod_of (by decide), hw]
        show dAsg _ _ [none, some (.int (b : Int)), none, some (.int o1), none, none] = _
        rw [dAsg_of (x := .int ((w : Int) + 7)) (by rw [dOp_of (x := .int (w : Int)) (y := .int 7) m1 rfl] <;> rfl)] <;> rfl
      · show SP _ [some (.list [.int x, .int y, .int c1]), some (.int (b : Int)), none, some (.int o1), some (.int ((w : Int) + 7)), none] _
        refine sp_seq (sp_set (xp_atom (r := .int (((o1 + c1 + y.fdiv 1000003) * ((w : Int) + 7)).fmod 2147483629)) ?_ rfl ?_))
        · have m1 : dOp bDivG (dOp bIx (dVar 0) (dC (.int 1))) (dC (.int 1000003)) [some (.list [.int x, .int y, .int c1]), some (.int (b : Int)), none, some (.int o1), some (.int ((w : Int) + 7)), none] = some (.int (y.fdiv 1000003)) := by
            rw [dOp_of (x := .int y) (y := .int 1000003) rfl rfl, bDiv_of (by decide) (by decide)]
          have m2 : dOp bPlus (dOp bPlus (dVar 3) (dOp bIx (dVar 0) (dC (.int 2)))) (dOp bDivG (dOp bIx (dVar 0) (dC (.int 1))) (dC (.int 1000003))) [some (.list [.int x, .int y, .int c1]), some (.int (b : Int)), none, some (.int o1), some (.int ((w : Int) + 7)), none] = some (.int (o1 + c1 + y.fdiv 1000003)) := by
            rw [dOp_of (x := .int (o1 + c1)) rfl m1] <;> rfl
          have m3 : dOp bMulG (dOp bPlus (dOp bPlus (dVar 3) (dOp bIx (dVar 0) (dC (.int 2)))) (dOp bDivG (dOp bIx (dVar 0) (dC (.int 1))) (dC (.int 1000003)))) (dVar 4) [some (.list [.int x, .int y, .int c1]), some (.int (b : Int)), none, some (.int o1), some (.int ((w : Int) + 7)), none] = some (.int ((o1 + c1 + y.fdiv 1000003) * ((w : Int) + 7))) := by
            rw [dOp_of (x := .int (o1 + c1 + y.fdiv 1000003)) (y := .int ((w : Int) + 7)) m2 rfl, bMul_r (by omega) (by omega)]
          have m4 : d1 mInt (dOp bMulG (dOp bPlus (dOp bPlus (dVar 3) (dOp bIx (dVar 0) (dC (.int 2)))) (dOp bDivG (dOp bIx (dVar 0) (dC (.int 1))) (dC (.int 1000003)))) (dVar 4)) [some (.list [.int x, .int y, .int c1]), some (.int (b : Int)), none, some (.int o1), some (.int ((w : Int) + 7)), none] = some (.int ((o1 + c1 + y.fdiv 1000003) * ((w : Int) + 7))) := by
            rw [d1_of m3] <;> rfl
          rw [dOp_of (x := .int ((o1 + c1 + y.fdiv 1000003) * ((w : Int) + 7))) (y := .int 2147483629) m4 rfl, bMod_of (by decide)]
        · generalize ((o1 + c1 + y.fdiv 1000003) * ((w : Int) + 7)).fmod 2147483629 = o2
          show SP _ [some (.list [.int x, .int y, .int c1]), some (.int (b : Int)), none, some (.int o1), some (.int ((w : Int) + 7)), some (.int o2)] _
          obtain ⟨v, hv, hlt⟩ := fmod_lt (((o2 * 48271 + o1).fmod 2147483587).fdiv 64) hb
          refine sp_ret (xp_lift (r := .int (v : Int)) ?_ ?_)
          · show dOp bModG (d1 mInt (dOp bDivG (dOp bModG (d1 mInt (dOp bPlus (dOp bMulG (dVar 5) (dC (.int 48271))) (dVar 3))) (dC (.int 2147483587))) (dC (.int 64)))) (dVar 1) [none, some (.int (b : Int)), none, some (.int o1), some (.int ((w : Int) + 7)), some (.int o2)] = _
            have m1 : dOp bMulG (dVar 5) (dC (.int 48271)) [none, some (.int (b : Int)), none, some (.int o1), some (.int ((w : Int) + 7)), some (.int o2)] = some (.int (o2 * 48271)) := by
              rw [dOp_of (x := .int o2) (y := .int 48271) rfl rfl, bMul_r (by decide) (by decide)]
            have m2 : d1 mInt (dOp bPlus (dOp bMulG (dVar 5) (dC (.int 48271))) (dVar 3)) [none, some (.int (b : Int)), none, some (.int o1), some (.int ((w : Int) + 7)), some (.int o2)] = some (.int (o2 * 48271 + o1)) := by
              rw [d1_of (x := .int (o2 * 48271 + o1)) (by rw [dOp_of (x := .int (o2 * 48271)) (y := .int o1) m1 rfl] <;> rfl)] <;> rfl
            have m3 : dOp bModG (d1 mInt (dOp bPlus (dOp bMulG (dVar 5) (dC (.int 48271))) (dVar 3))) (dC (.int 2147483587)) [none, some (.int (b : Int)), none, some (.int o1), some (.int ((w : Int) + 7)), some (.int o2)] = some (.int ((o2 * 48271 + o1).fmod 2147483587)) := by
              rw [dOp_of (x := .int (o2 * 48271 + o1)) (y := .int 2147483587) m2 rfl, bMod_of (by decide)]
            have m4 : d1 mInt (dOp bDivG (dOp bModG (d1 mInt (dOp bPlus (dOp bMulG (dVar 5) (dC (.int 48271))) (dVar 3))) (dC (.int 2147483587))) (dC (.int 64))) [none, some (.int (b : Int)), none, some (.int o1), some (.int ((w : Int) + 7)), some (.int o2)] = some (.int (((o2 * 48271 + o1).fmod 2147483587).fdiv 64)) := by
              rw [d1_of (x := .int (((o2 * 48271 + o1).fmod 2147483587).fdiv 64)) (by rw [dOp_of (x := .int ((o2 * 48271 + o1).fmod 2147483587)) (y := .int 64) m3 rfl, bDiv_of (by decide) (by decide)])] <;> rfl
            rw [dOp_of (x := .int (((o2 * 48271 + o1).fmod 2147483587).fdiv 64)) (y := .int (b : Int)) m4 rfl, bMod_of b0, hv]
          · exact ⟨_, .list [.int x, .int y, .int c1], _, rfl, ⟨_, _, _, rfl, c0, by omega⟩, v, rfl, hlt⟩
/-- take used as an expression -/
theorem xp_take {b n : Nat} {t : PyData} {rest : Rho} {d : DXA} {Q : PyData → Rho → Prop} (hg : Gd n t) (hn : n + 1 ≤ 1000000) (hb : 0 < b) (hb2 : b < 1000000) (h : d (some t :: rest) = some ([.int (b : Int)], some t :: rest)) (k : ∀ (v : Nat) (t' : PyData), v < b → Gd (n + 1) t' → Q (.int (v : Int)) (some t' :: rest)) : XP (xDraw 0 2 m_law_take d) (some t :: rest) Q :=
  xp_draw ⟨_, _, h, n, 1, t, rest, Lt b, rfl, rfl, hg, hn, take_ok hb hb2, fun r t' ⟨v, e, hv⟩ g => by rw [e]; exact k v t' hv g⟩
end SK
set_option maxHeartbeats 2000000
/-! The plain law: of, pick. -/
namespace SK
open PySem PySem.Spec PyProof.Rows L2
theorem DrS.imp {m : List PyData → Option (PyData × PyData)} {K K' : Nat} {as : List PyData} {P P' : PyData → Prop} (h : DrS m K as P) (hK : K ≤ K') (k : ∀ r, P r → P' r) : DrS m K' as P' := fun n t hg hn => by
  obtain ⟨r, t', e, g, p⟩ := h n t hg (by omega)
  exact ⟨r, t', e, g.mono (by omega), k r p⟩
theorem len_list {ρ : Rho} {d : DE} {xs : List PyData} (h : d ρ = some (.list xs)) : d1 mLen d ρ = some (.int xs.length) := by
  rw [d1_of h] <;> rfl
theorem len_tup {ρ : Rho} {d : DE} {xs : List PyData} (h : d ρ = some (.tuple xs)) : d1 mLen d ρ = some (.int xs.length) := by
  rw [d1_of h] <;> rfl
theorem xCons_lift {s : List Nat} {d : DE} {ρ : Rho} {r : PyData} (h : d (wipeR ρ s) = some r) : xCons (xLift s d) xNil ρ = some ([r], ρ) := by
  unfold xCons xLift
  rw [h] <;> rfl
theorem xCons_atom {d : DE} {ρ : Rho} {r : PyData} (h : d ρ = some r) (ha : atom r = true) : xCons (xAtom d) xNil ρ = some ([r], ρ) := by
  unfold xCons xAtom
  rw [h]
  show (Option.bind (if atom r = true then some (r, ρ) else none) _) = _
  rw [if_pos ha] <;> rfl
theorem of_ok {xs : List PyData} (h0 : 0 < xs.length) (hl : xs.length < 1000000) : DrS m_law_of 1 [.list xs] fun r => r ∈ xs := by
  refine drs_of rfl fun n t hg hn => ?_
  show SP s_law_of [some t, some (.list xs)] _
  unfold s_law_of
  refine sp_ret (xp_op (xp_lift (r := .list xs) rfl (xp_take hg hn h0 hl (xCons_lift (len_list rfl)) fun v t' hv g => ?_)))
  have hx : xs[v]? = some xs[v] := List.getElem?_eq_getElem hv
  exact ⟨xs[v], atI_nat hx, xs[v], t', _, rfl, g, List.getElem_mem hv⟩
theorem erase_perm : ∀ (xs : List PyData) (v : Nat) (x : PyData), xs[v]? = some x → (x :: xs.eraseIdx v).Perm xs
  | [], v, x, h => by rw [List.getElem?_nil] at h; exact nomatch h
  | y :: xs, 0, x, h => by
    rw [List.getElem?_cons_zero] at h
    cases h
    exact List.Perm.refl _
  | y :: xs, v + 1, x, h => by
    rw [List.getElem?_cons_succ] at h
    show (x :: y :: xs.eraseIdx v).Perm (y :: xs)
    exact (List.Perm.swap y x _).trans ((erase_perm xs v x h).cons y)
/-- what is picked, and what is left -/
def PickP (xs : List PyData) (c : Nat) (r : PyData) : Prop := ∃ ys rest, r = .list ys ∧ (ys ++ rest).Perm xs ∧ ys.length = min c xs.length
theorem pick_ok {x : PyData} {xs : List PyData} (hx : x = .list xs ∨ x = .tuple xs) (hl : xs.length ≤ 900) (c : Nat) : DrS m_law_pick 900 [x, .int (c : Int)] (PickP xs c) := by
  refine drs_of rfl fun n t hg hn => ?_
  show SP s_law_pick [some t, some x, some (.int (c : Int)), none, none, none] _
  unfold s_law_pick
  have hs : seqOf x = some xs := by
    rcases hx with e | e <;> rw [e]
    · exact if_pos (by omega)
    · exact if_pos (by omega)
  refine sp_acq2 (ap_seqOf (xp_lift (r := x) rfl ⟨xs, hs, ⟨Nat.le_of_ble_eq_true rfl, Nat.le_of_ble_eq_true rfl⟩, ?_⟩))
  show SP _ [some t, some x, some (.int (c : Int)), some (.list xs), some (.list []), none] _
  have q : d2 mMin (d1 mInt (dVar 2)) (d1 mLen (dVar 3)) [some t, some x, some (.int (c : Int)), some (.list xs), some (.list []), none] = some (.int ((min c xs.length : Nat) : Int)) := by
    rw [d2_of (x := .int (c : Int)) (y := .int (xs.length : Int)) rfl rfl]
    show some (PyData.int (min (c : Int) (xs.length : Int))) = _
    congr 2
    omega
  refine sp_seq (sp_for (ap_range (xp_atom q rfl ⟨min c xs.length, rfl, by omega, fun j ρ => ∃ (t : PyData) (pool found : List PyData) (u : Option PyData), ρ = [some t, some x, some (.int (c : Int)), some (.list pool), some (.list found), u] ∧ Gd (n + j) t ∧ (found ++ pool).Perm xs ∧ found.length = j, ?_, ?_, ?_⟩)))
  · exact ⟨t, xs, [], none, rfl, hg, List.Perm.refl _, rfl⟩
  · rintro j y ρ hj ⟨t, pool, found, u, rfl, g, pm, fl⟩
    have hjl : j < min c xs.length := by
      have := at_lt hj
      rwa [upTo_length] at this
    have lp := pm.length_eq
    rw [List.length_append] at lp
    have p0 : 0 < pool.length := by omega
    have p1 : pool.length < 1000000 := by omega
    refine ⟨[some t, some x, some (.int (c : Int)), some (.list pool), some (.list found), some y], rfl, ?_⟩
    obtain ⟨r, t', e1, g', v, rfl, hv⟩ := take_ok p0 p1 (n + j) t g (by omega)
    have hy : pool[v]? = some pool[v] := List.getElem?_eq_getElem hv
    have e2 : xDraw 0 2 m_law_take (xCons (xAtom (d1 mLen (dVar 3))) xNil) [some t, some x, some (.int (c : Int)), some (.list pool), some (.list found), some y] = some (.int (v : Int), [some t', some x, some (.int (c : Int)), some (.list pool), some (.list found), some y]) := by
      unfold xDraw
      rw [xCons_atom (r := .int pool.length) (len_list rfl) rfl]
      show ((m_law_take [t, .int (pool.length : Int)]).map _) = _
      rw [e1] <;> rfl
    refine sp_app (ds0 := found) rfl ⟨pool[v], [some t', some x, some (.int (c : Int)), some (.list (pool.eraseIdx v)), some (.list found), some y], ?_, found, rfl, by omega, ?_⟩
    · unfold xPop
      show (xDraw 0 2 m_law_take (xCons (xAtom (d1 mLen (dVar 3))) xNil) [some t, some x, some (.int (c : Int)), some (.list pool), some (.list found), some y]).bind _ = _
      rw [e2]
      show (if 0 ≤ (v : Int) ∧ (v : Int) < pool.length ∧ pool.length ≤ 1000 then _ else none) = _
      rw [if_pos ⟨by omega, by omega, by omega⟩]
      show (pool[((v : Int)).toNat]?).map _ = _
      rw [Int.toNat_natCast, hy] <;> rfl
    · refine ⟨_, rfl, t', pool.eraseIdx v, found ++ [pool[v]], some y, rfl, g', ?_, by rw [List.length_append, fl] <;> rfl⟩
      refine List.Perm.trans ?_ pm
      rw [List.append_assoc]
      refine List.Perm.append_left _ ?_
      show (pool[v] :: pool.eraseIdx v).Perm pool
      exact erase_perm pool v pool[v] hy
  · rintro ρ ⟨t, pool, found, u, rfl, g, pm, fl⟩
    rw [upTo_length] at g fl
    refine sp_only (sp_only (sp_ret (xp_lift (r := .list found) rfl ⟨_, _, rfl, _, _, rfl, _, _, _, rfl, g.mono (by omega), found, pool, rfl, pm, fl⟩)))
end SK
set_option maxHeartbeats 2000000
/-! The plain law: wires, spots, feelers. -/
namespace SK
open PySem PySem.Spec PyProof.Rows L2
inductive It where
  | feel (n : Fin 4)
  | cut
  | bell
def eIt : It → PyData
  | .feel n => .tuple [.str "feel", .int (n.val : Int)]
  | .cut => .tuple [.str "cut"]
  | .bell => .tuple [.str "bell", .int 0]
structure Lp where
  pa : Int
  its : List It
def eLp (l : Lp) : PyData := .tuple [.int l.pa, .tuple (l.its.map eIt)]
def eW (W : List Lp) : PyData := .tuple (W.map eLp)
def isCut : It → Bool
  | .cut => true
  | _ => false
def isFeel : It → Bool
  | .feel _ => true
  | _ => false
theorem shaped_it (i : It) : SeqAt.shaped (eIt i) = true := by
  cases i with
  | feel n => exact (by decide +kernel : ∀ n : Fin 4, SeqAt.shaped (eIt (.feel n)) = true) n
  | cut => decide +kernel
  | bell => decide +kernel
theorem ne_cut (i : It) : bNe (eIt i) (.tuple [.str "cut"]) = some (.bool (!isCut i)) := by
  have e : PyData.eqv (eIt i) (.tuple [.str "cut"]) = isCut i := by
    cases i with
    | feel n => exact (by decide +kernel : ∀ n : Fin 4, PyData.eqv (eIt (.feel n)) (.tuple [.str "cut"]) = isCut (.feel n)) n
    | cut => decide +kernel
    | bell => decide +kernel
  unfold bNe
  rw [if_pos ⟨shaped_it i, shaped_it .cut⟩, e]
theorem is_feel {i : It} (h : isCut i = false) : ∃ x, bIx (eIt i) (.int 0) = some x ∧ bEq x (.str "feel") = some (.bool (isFeel i)) := by
  have s1 : SeqAt.shaped (.str "feel") = true := by decide +kernel
  have s2 : SeqAt.shaped (.str "bell") = true := by decide +kernel
  have q1 : PyData.eqv (.str "feel") (.str "feel") = true := by decide +kernel
  have q2 : PyData.eqv (.str "bell") (.str "feel") = false := by decide +kernel
  cases i with
  | feel n =>
    refine ⟨.str "feel", rfl, ?_⟩
    unfold bEq
    rw [if_pos ⟨s1, s1⟩, q1] <;> rfl
  | cut => exact nomatch h
  | bell =>
    refine ⟨.str "bell", rfl, ?_⟩
    unfold bEq
    rw [if_pos ⟨s2, s1⟩, q2] <;> rfl
/-! ### spots -/
def spotsL (n : Nat) : Nat → List It → List Sp2
  | _, [] => []
  | k, i :: is => if isCut i = true then spotsL n (k + 1) is else ((n : Int), (k : Int)) :: spotsL n (k + 1) is
def spotsT : Nat → List Lp → List Sp2
  | _, [] => []
  | n, l :: W => spotsL n 0 l.its ++ spotsT (n + 1) W
theorem spotsL_mem {n : Nat} {s : Sp2} : ∀ {is : List It} {k : Nat}, s ∈ spotsL n k is ↔ ∃ j i, is[j]? = some i ∧ isCut i = false ∧ s = ((n : Int), ((k + j : Nat) : Int))
  | [], k => ⟨fun h => (nomatch h), fun ⟨j, i, h, _⟩ => by rw [List.getElem?_nil] at h; exact nomatch h⟩
  | i :: is, k => by
    have ih := spotsL_mem (n := n) (s := s) (is := is) (k := k + 1)
    have tail : s ∈ spotsL n (k + 1) is → ∃ j i', (i :: is)[j]? = some i' ∧ isCut i' = false ∧ s = ((n : Int), ((k + j : Nat) : Int)) := fun h => by
      obtain ⟨j, i', e, c, q⟩ := ih.mp h
      exact ⟨j + 1, i', by rw [List.getElem?_cons_succ]; exact e, c, by rw [q, show k + 1 + j = k + (j + 1) by omega]⟩
    have back : ∀ j i', is[j]? = some i' → isCut i' = false → s = ((n : Int), ((k + (j + 1) : Nat) : Int)) → s ∈ spotsL n (k + 1) is := fun j i' e c q => ih.mpr ⟨j, i', e, c, by rw [q, show k + 1 + j = k + (j + 1) by omega]⟩
    unfold spotsL
    cases c : isCut i with
    | true =>
      rw [if_pos rfl]
      refine ⟨tail, fun ⟨j, i', e, c', q⟩ => ?_⟩
      cases j with
      | zero =>
        rw [List.getElem?_cons_zero] at e
        cases e
        rw [c] at c'; cases c'
      | succ j => exact back j i' (by rw [List.getElem?_cons_succ] at e; exact e) c' q
    | false =>
      rw [if_neg Bool.false_ne_true]
      constructor
      · intro h
        rcases List.mem_cons.mp h with h | h
        · exact ⟨0, i, rfl, c, h⟩
        · exact tail h
      · rintro ⟨j, i', e, c', q⟩
        cases j with
        | zero => rw [q]; exact List.mem_cons_self
        | succ j => exact List.mem_cons_of_mem _ (back j i' (by rw [List.getElem?_cons_succ] at e; exact e) c' q)
theorem spotsT_mem {s : Sp2} : ∀ {W : List Lp} {n : Nat}, s ∈ spotsT n W ↔ ∃ (m : Nat) (l : Lp) (j : Nat) (i : It), W[m]? = some l ∧ l.its[j]? = some i ∧ isCut i = false ∧ s = (((n + m : Nat) : Int), (j : Int))
  | [], n => ⟨fun h => (nomatch h), fun ⟨m, l, j, i, h, _⟩ => by rw [List.getElem?_nil] at h; exact nomatch h⟩
  | l :: W, n => by
    have ih := spotsT_mem (s := s) (W := W) (n := n + 1)
    unfold spotsT
    rw [List.mem_append, spotsL_mem, ih]
    constructor
    · rintro (⟨j, i, e, c, q⟩ | ⟨m, l', j, i, e1, e2, c, q⟩)
      · exact ⟨0, l, j, i, rfl, e, c, by rw [q, Nat.zero_add] <;> rfl⟩
      · exact ⟨m + 1, l', j, i, by rw [List.getElem?_cons_succ]; exact e1, e2, c, by rw [q, show n + 1 + m = n + (m + 1) by omega]⟩
    · rintro ⟨m, l', j, i, e1, e2, c, q⟩
      cases m with
      | zero =>
        rw [List.getElem?_cons_zero] at e1
        cases e1
        exact .inl ⟨j, i, e2, c, by rw [q, Nat.zero_add] <;> rfl⟩
      | succ m => exact .inr ⟨m, l', j, i, by rw [List.getElem?_cons_succ] at e1; exact e1, e2, c, by rw [q, show n + 1 + m = n + (m + 1) by omega]⟩
theorem spotsL_so (n : Nat) : ∀ (is : List It) (k : Nat), (spotsL n k is).Pairwise ltS
  | [], _ => .nil
  | i :: is, k => by
    unfold spotsL
    split
    · exact spotsL_so n is (k + 1)
    · refine List.pairwise_cons.mpr ⟨fun s hs => ?_, spotsL_so n is (k + 1)⟩
      obtain ⟨j, i', _, _, rfl⟩ := spotsL_mem.mp hs
      refine .inr ⟨rfl, ?_⟩
      show (k : Int) < ((k + 1 + j : Nat) : Int)
      omega
theorem spotsT_so : ∀ (W : List Lp) (n : Nat), (spotsT n W).Pairwise ltS
  | [], _ => .nil
  | l :: W, n => by
    unfold spotsT
    refine List.pairwise_append.mpr ⟨spotsL_so n _ _, spotsT_so W (n + 1), fun a ha b hb => ?_⟩
    obtain ⟨j, i', _, _, rfl⟩ := spotsL_mem.mp ha
    obtain ⟨m, l', j', i'', _, _, _, rfl⟩ := spotsT_mem.mp hb
    refine .inl ?_
    show (n : Int) < ((n + 1 + m : Nat) : Int)
    omega
theorem spotsL_len (n : Nat) : ∀ (is : List It) (k : Nat), (spotsL n k is).length ≤ is.length
  | [], _ => Nat.le_refl _
  | i :: is, k => by
    have := spotsL_len n is (k + 1)
    unfold spotsL
    split
    · rw [List.length_cons]; omega
    · rw [List.length_cons, List.length_cons]; omega
structure WOk0 (W : List Lp) : Prop where
  len : W.length ≤ 2
  its : ∀ l ∈ W, l.its.length ≤ 10
theorem spotsT_len : ∀ (W : List Lp) (n : Nat), (∀ l ∈ W, l.its.length ≤ 10) → (spotsT n W).length ≤ 10 * W.length
  | [], _, _ => Nat.zero_le _
  | l :: W, n, h => by
    have h1 := spotsL_len n l.its 0
    have h2 := h l List.mem_cons_self
    have h3 := spotsT_len W (n + 1) fun x hx => h x (List.mem_cons_of_mem _ hx)
    unfold spotsT
    rw [List.length_append, List.length_cons]
    omega
theorem row_spots (ρ : Rho) (A x F : PyData) (n : Nat) (hρ : ρ = [some A, some F, some (.int (n : Int)), some x, none, none]) : ∀ (is : List It) (k : Nat),
    lcL (bTup [bName 4, bName 5]) (dOp bNe (dVar 5) (dTup (dCons (dC (.str "cut")) dNil))) (dTup (dCons (dVar 2) (dCons (dVar 4) dNil))) ρ (numb k (is.map eIt)) = some ((spotsL n k is).map eS)
  | [], _ => rfl
  | i :: is, k => by
    have ih := row_spots ρ A x F n hρ is (k + 1)
    have c : dOp bNe (dVar 5) (dTup (dCons (dC (.str "cut")) dNil)) [some A, some F, some (.int (n : Int)), some x, some (.int (k : Int)), some (eIt i)] = some (.bool (!isCut i)) := by
      rw [dOp_of (x := eIt i) (y := .tuple [.str "cut"]) rfl rfl, ne_cut]
    unfold spotsL
    subst hρ
    have st : lcL (bTup [bName 4, bName 5]) (dOp bNe (dVar 5) (dTup (dCons (dC (.str "cut")) dNil))) (dTup (dCons (dVar 2) (dCons (dVar 4) dNil))) [some A, some F, some (.int (n : Int)), some x, none, none] (numb k ((i :: is).map eIt)) =
        (dOp bNe (dVar 5) (dTup (dCons (dC (.str "cut")) dNil)) [some A, some F, some (.int (n : Int)), some x, some (.int (k : Int)), some (eIt i)]).bind fun c => match c with
          | .bool true => some (eS ((n : Int), (k : Int))) |>.bind fun y => (lcL (bTup [bName 4, bName 5]) (dOp bNe (dVar 5) (dTup (dCons (dC (.str "cut")) dNil))) (dTup (dCons (dVar 2) (dCons (dVar 4) dNil))) [some A, some F, some (.int (n : Int)), some x, none, none] (numb (k + 1) (is.map eIt))).bind fun ys => some (y :: ys)
          | .bool false => lcL (bTup [bName 4, bName 5]) (dOp bNe (dVar 5) (dTup (dCons (dC (.str "cut")) dNil))) (dTup (dCons (dVar 2) (dCons (dVar 4) dNil))) [some A, some F, some (.int (n : Int)), some x, none, none] (numb (k + 1) (is.map eIt))
          | _ => none := rfl
    rw [st, c, ih]
    cases isCut i <;> rfl
theorem m_law_spots_eq {W : List Lp} (w : WOk0 W) : m_law_spots [eW W] = some (.list ((spotsT 0 W).map eS)) := by
  show (s_law_spots (rho0 6 [eW W])).bind endD = _
  unfold s_law_spots
  rw [dSeq_nx (ρ' := [some (eW W), some (.list []), none, none, none, none]) rfl]
  have key : ∀ (W' : List Lp) (n : Nat) (acc : List Sp2) (u v : Option PyData), (∀ l ∈ W', l.its.length ≤ 10) → acc.length + 10 * W'.length ≤ 1000 →
      ∃ u' v', forL (bTup [bName 2, bName 3]) (dAsg (dOp bPlus (dVar 1) (dLc [4, 5] (iEnumD (dOp bIx (dVar 3) (dC (.int 1)))) (bTup [bName 4, bName 5]) (dOp bNe (dVar 5) (dTup (dCons (dC (.str "cut")) dNil))) (dTup (dCons (dVar 2) (dCons (dVar 4) dNil))))) (bName 1)) (numb n (W'.map eLp)) [some (eW W), some (.list (acc.map eS)), u, v, none, none] = some (.nx [some (eW W), some (.list ((acc ++ spotsT n W').map eS)), u', v', none, none]) := by
    intro W'
    induction W' with
    | nil => exact fun n acc u v _ _ => ⟨u, v, by unfold spotsT; rw [List.append_nil] <;> rfl⟩
    | cons l W' ih =>
      intro n acc u v hw hl
      have l10 := hw l List.mem_cons_self
      have sl := spotsL_len n l.its 0
      rw [List.length_cons] at hl
      have e1 : dLc [4, 5] (iEnumD (dOp bIx (dVar 3) (dC (.int 1)))) (bTup [bName 4, bName 5]) (dOp bNe (dVar 5) (dTup (dCons (dC (.str "cut")) dNil))) (dTup (dCons (dVar 2) (dCons (dVar 4) dNil))) [some (eW W), some (.list (acc.map eS)), some (.int (n : Int)), some (eLp l), none, none] = some (.list ((spotsL n 0 l.its).map eS)) := by
        refine dLc_of (xs := numb 0 (l.its.map eIt)) ?_ (row_spots _ (eW W) (eLp l) (.list (acc.map eS)) n rfl l.its 0)
        show (seqOf (.tuple (l.its.map eIt))).map (numb 0) = _
        have : seqOf (.tuple (l.its.map eIt)) = some (l.its.map eIt) := if_pos (by rw [List.length_map]; omega)
        rw [this] <;> rfl
      have e2 : dAsg (dOp bPlus (dVar 1) (dLc [4, 5] (iEnumD (dOp bIx (dVar 3) (dC (.int 1)))) (bTup [bName 4, bName 5]) (dOp bNe (dVar 5) (dTup (dCons (dC (.str "cut")) dNil))) (dTup (dCons (dVar 2) (dCons (dVar 4) dNil))))) (bName 1) [some (eW W), some (.list (acc.map eS)), some (.int (n : Int)), some (eLp l), none, none] = some (.nx [some (eW W), some (.list ((acc ++ spotsL n 0 l.its).map eS)), some (.int (n : Int)), some (eLp l), none, none]) := by
        rw [dAsg_of (x := .list ((acc ++ spotsL n 0 l.its).map eS)) (by
          rw [dOp_of (x := .list (acc.map eS)) rfl e1]
          show (if (acc.map eS).length + ((spotsL n 0 l.its).map eS).length ≤ 1000 then some (PyData.list (acc.map eS ++ (spotsL n 0 l.its).map eS)) else none) = _
          rw [if_pos (by rw [List.length_map, List.length_map]; omega), List.map_append])] <;> rfl
      obtain ⟨u', v', ih⟩ := ih (n + 1) (acc ++ spotsL n 0 l.its) (some (.int (n : Int))) (some (eLp l)) (fun x hx => hw x (List.mem_cons_of_mem _ hx)) (by rw [List.length_append]; omega)
      refine ⟨u', v', ?_⟩
      show ((dAsg (dOp bPlus (dVar 1) (dLc [4, 5] (iEnumD (dOp bIx (dVar 3) (dC (.int 1)))) (bTup [bName 4, bName 5]) (dOp bNe (dVar 5) (dTup (dCons (dC (.str "cut")) dNil))) (dTup (dCons (dVar 2) (dCons (dVar 4) dNil))))) (bName 1) [some (eW W), some (.list (acc.map eS)), some (.int (n : Int)), some (eLp l), none, none]).bind _) = _
      rw [e2]
      show forL _ _ (numb (n + 1) (W'.map eLp)) [some (eW W), some (.list ((acc ++ spotsL n 0 l.its).map eS)), some (.int (n : Int)), some (eLp l), none, none] = _
      rw [ih, List.append_assoc] <;> rfl
  obtain ⟨u', v', e⟩ := key W 0 [] none none w.its (by have := w.len; rw [List.length_nil]; omega)
  have it : iEnumD (dVar 0) [some (eW W), some (.list []), none, none, none, none] = some (numb 0 (W.map eLp)) := by
    show (seqOf (.tuple (W.map eLp))).map (numb 0) = _
    have : seqOf (.tuple (W.map eLp)) = some (W.map eLp) := if_pos (by have := w.len; rw [List.length_map]; omega)
    rw [this] <;> rfl
  rw [dSeq_nx (by
    unfold dFor
    rw [it]
    exact e)]
  rw [List.nil_append] <;> rfl
/-! ### feelers -/
def itAt (W : List Lp) (s : Sp2) : Option It := (W[s.1.toNat]?).bind fun l => l.its[s.2.toNat]?
def feelAt (W : List Lp) (s : Sp2) : Bool := match itAt W s with
  | some i => isFeel i
  | none => false
def paAt (W : List Lp) (s : Sp2) : Int := match W[s.1.toNat]? with
  | some l => l.pa
  | none => 0
def feelT (W : List Lp) : List Sp2 := (spotsT 0 W).filter (feelAt W)
theorem m_law_feelers_eq {W : List Lp} (w : WOk0 W) : m_law_feelers [eW W] = some (.list ((feelT W).map eS)) := by
  show (s_law_feelers (rho0 2 [eW W])).bind endD = _
  unfold s_law_feelers
  have sl := spotsT_len W 0 w.its
  have wl := w.len
  have t1 : dCall 1 m_law_spots (dCons (dVar 0) dNil) (rho0 2 [eW W]) = some (.list ((spotsT 0 W).map eS)) := by
    rw [dCall1_of (x := eW W) rfl, m_law_spots_eq w]
  have e1 := dLc_of (vs := [1]) (iSeq_lst (xs := (spotsT 0 W).map eS) t1 (by rw [List.length_map]; omega)) (lcL_map (ex := eS) (f := eS) (t := feelAt W) (g := bName 1) (c := dOp bEq (dOp bIx (dOp bIx (dOp bIx (dOp bIx (dVar 0) (dOp bIx (dVar 1) (dC (.int 0)))) (dC (.int 1))) (dOp bIx (dVar 1) (dC (.int 1)))) (dC (.int 0))) (dC (.str "feel"))) (e := dVar 1) (ρ := wipeR (rho0 2 [eW W]) [1]) (spotsT 0 W) fun s hs => by
    refine ⟨[some (eW W), some (eS s)], rfl, ?_, fun _ => rfl⟩
    obtain ⟨m, l, j, i, e1, e2, c, q⟩ := spotsT_mem.mp hs
    rw [Nat.zero_add] at q
    subst q
    obtain ⟨x, f1, f2⟩ := is_feel c
    have a1 : dOp bIx (dVar 0) (dOp bIx (dVar 1) (dC (.int 0))) [some (eW W), some (eS ((m : Int), (j : Int)))] = some (eLp l) := by
      rw [dOp_of (x := eW W) (y := .int (m : Int)) rfl rfl]
      exact bIx_map e1
    have a2 : dOp bIx (dOp bIx (dVar 0) (dOp bIx (dVar 1) (dC (.int 0)))) (dC (.int 1)) [some (eW W), some (eS ((m : Int), (j : Int)))] = some (.tuple (l.its.map eIt)) := by
      rw [dOp_of (x := eLp l) (y := .int 1) a1 rfl] <;> rfl
    have a3 : dOp bIx (dOp bIx (dOp bIx (dVar 0) (dOp bIx (dVar 1) (dC (.int 0)))) (dC (.int 1))) (dOp bIx (dVar 1) (dC (.int 1))) [some (eW W), some (eS ((m : Int), (j : Int)))] = some (eIt i) := by
      rw [dOp_of (x := .tuple (l.its.map eIt)) (y := .int (j : Int)) a2 rfl]
      exact bIx_map e2
    have a4 : dOp bIx (dOp bIx (dOp bIx (dOp bIx (dVar 0) (dOp bIx (dVar 1) (dC (.int 0)))) (dC (.int 1))) (dOp bIx (dVar 1) (dC (.int 1)))) (dC (.int 0)) [some (eW W), some (eS ((m : Int), (j : Int)))] = some x := by
      rw [dOp_of (x := eIt i) (y := .int 0) a3 rfl, f1]
    have fa : feelAt W ((m : Int), (j : Int)) = isFeel i := by
      unfold feelAt itAt
      show (match (W[((m : Int)).toNat]?).bind (fun l => l.its[((j : Int)).toNat]?) with | some i => isFeel i | none => false) = _
      rw [Int.toNat_natCast, Int.toNat_natCast, e1]
      show (match l.its[j]? with | some i => isFeel i | none => false) = _
      rw [e2]
    rw [dOp_of (x := x) (y := .str "feel") a4 rfl, f2, fa])
  rw [dRet_of e1] <;> rfl
theorem feelT_so (W : List Lp) : (feelT W).Pairwise ltS := (spotsT_so W 0).filter _
theorem feelT_len {W : List Lp} (w : WOk0 W) : (feelT W).length ≤ 20 := by
  have h1 : (feelT W).length ≤ (spotsT 0 W).length := List.length_filter_le _ _
  have h2 := spotsT_len W 0 w.its
  have h3 := w.len
  omega
theorem feelT_at {W : List Lp} {s : Sp2} (h : s ∈ feelT W) : ∃ (m : Nat) (l : Lp), W[m]? = some l ∧ s.1 = (m : Int) ∧ paAt W s = l.pa := by
  obtain ⟨m, l, j, i, e1, e2, c, q⟩ := spotsT_mem.mp (List.mem_filter.mp h).1
  rw [Nat.zero_add] at q
  subst q
  refine ⟨m, l, e1, rfl, ?_⟩
  unfold paAt
  show (match W[((m : Int)).toNat]? with | some l => l.pa | none => 0) = _
  rw [Int.toNat_natCast, e1]
/-- the feelers of a panel -/
def goodsT (W : List Lp) (p : Int) : List Sp2 := (feelT W).filter fun s => decide (paAt W s = p)
theorem goods_so (W : List Lp) (p : Int) : (goodsT W p).Pairwise ltS := (feelT_so W).filter _
theorem goods_len {W : List Lp} (w : WOk0 W) (p : Int) : (goodsT W p).length ≤ 20 := Nat.le_trans (List.length_filter_le _ _) (feelT_len w)
theorem two_of_count {α : Type} {p : α → Bool} : ∀ {xs : List α}, 2 ≤ xs.countP p → ∃ (i j : Nat) (x y : α), i < j ∧ xs[i]? = some x ∧ xs[j]? = some y ∧ p x = true ∧ p y = true
  | [], h => by
    rw [List.countP_nil] at h
    omega
  | x :: xs, h => by
    rw [List.countP_cons] at h
    cases c : p x with
    | true =>
      rw [c, if_pos rfl] at h
      obtain ⟨y, hy, py⟩ := List.countP_pos_iff.mp (show 0 < xs.countP p by omega)
      obtain ⟨j, hj⟩ := List.getElem?_of_mem hy
      exact ⟨0, j + 1, x, y, Nat.zero_lt_succ _, rfl, by rw [List.getElem?_cons_succ]; exact hj, c, py⟩
    | false =>
      rw [c, if_neg Bool.false_ne_true] at h
      obtain ⟨i, j, a, b, l, e1, e2, p1, p2⟩ := two_of_count (xs := xs) h
      exact ⟨i + 1, j + 1, a, b, Nat.succ_lt_succ l, by rw [List.getElem?_cons_succ]; exact e1, by rw [List.getElem?_cons_succ]; exact e2, p1, p2⟩
theorem two_mem {α : Type} {xs : List α} {a b : α} (ha : a ∈ xs) (hb : b ∈ xs) (ne : a ≠ b) : 2 ≤ xs.length := by
  match xs, ha, hb with
  | [x], ha, hb =>
    rw [List.mem_singleton.mp ha, List.mem_singleton.mp hb] at ne
    exact absurd rfl ne
  | _ :: _ :: _, _, _ => rw [List.length_cons, List.length_cons]; omega
theorem goods_two {W : List Lp} {l : Lp} (hl : l ∈ W) (h2 : 2 ≤ l.its.countP isFeel) : 2 ≤ (goodsT W l.pa).length := by
  obtain ⟨m, hm⟩ := List.getElem?_of_mem hl
  obtain ⟨i, j, x, y, lt, e1, e2, p1, p2⟩ := two_of_count h2
  have mem : ∀ (k : Nat) (x : It), l.its[k]? = some x → isFeel x = true → ((m : Int), (k : Int)) ∈ goodsT W l.pa := fun k x e p => by
    refine List.mem_filter.mpr ⟨List.mem_filter.mpr ⟨spotsT_mem.mpr ⟨m, l, k, x, hm, e, ?_, by rw [Nat.zero_add]⟩, ?_⟩, ?_⟩
    · cases x with
      | feel n => rfl
      | cut => cases p
      | bell => rfl
    · unfold feelAt itAt
      show (match (W[((m : Int)).toNat]?).bind (fun l => l.its[((k : Int)).toNat]?) with | some i => isFeel i | none => false) = _
      rw [Int.toNat_natCast, Int.toNat_natCast, hm]
      show (match l.its[k]? with | some i => isFeel i | none => false) = _
      rw [e]
      exact p
    · refine decide_eq_true ?_
      unfold paAt
      show (match W[((m : Int)).toNat]? with | some l => l.pa | none => 0) = _
      rw [Int.toNat_natCast, hm]
  refine two_mem (mem i x e1 p1) (mem j y e2 p2) fun e => ?_
  injection e with e1 e2
  omega
end SK
set_option maxHeartbeats 2000000
/-! The plain law: loops, wires. -/
namespace SK
open PySem PySem.Spec PyProof.Rows L2
theorem perm_map_inv {α β : Type} {f : α → β} {l ys : List β} (h : l.Perm ys) : ∀ xs : List α, l = xs.map f → ∃ zs : List α, ys = zs.map f ∧ zs.Perm xs := by
  induction h with
  | nil => exact fun xs e => ⟨xs, e, List.Perm.refl _⟩
  | cons x h ih =>
    intro xs e
    cases xs with
    | nil => cases e
    | cons a as =>
      rw [List.map_cons] at e
      injection e with e1 e2
      obtain ⟨zs, h1, h2⟩ := ih as e2
      exact ⟨a :: zs, by rw [List.map_cons, e1, h1], h2.cons a⟩
  | swap x y l =>
    intro xs e
    match xs, e with
    | a :: b :: as, e =>
      rw [List.map_cons, List.map_cons] at e
      injection e with e1 e2
      injection e2 with e2 e3
      exact ⟨b :: a :: as, by rw [List.map_cons, List.map_cons, e1, e2, e3], List.Perm.swap a b as⟩
  | trans h1 h2 ih1 ih2 =>
    intro xs e
    obtain ⟨zs, h3, h4⟩ := ih1 xs e
    obtain ⟨us, h5, h6⟩ := ih2 zs h3
    exact ⟨us, h5, h6.trans h4⟩
theorem pick_typed {α : Type} {f : α → PyData} {xs : List α} {c : Nat} {r : PyData} (h : PickP (xs.map f) c r) : ∃ zs rest : List α, r = .list (zs.map f) ∧ (zs ++ rest).Perm xs ∧ zs.length = min c xs.length := by
  obtain ⟨ys, rest, e, pm, yl⟩ := h
  obtain ⟨us, e1, p1⟩ := perm_map_inv pm.symm xs rfl
  obtain ⟨zs, rs, rfl, e2, e3⟩ := List.map_eq_append_iff.mp e1.symm
  refine ⟨zs, rs, by rw [e, e2], p1, ?_⟩
  rw [List.length_map] at yl
  rw [← yl, ← e2, List.length_map]
theorem bEq_int (i j : Int) : bEq (.int i) (.int j) = some (.bool (decide (i = j))) := rfl
def LoopP (p : Int) (m : Nat) (r : PyData) : Prop := ∃ l : Lp, r = eLp l ∧ l.pa = p ∧ m ≤ l.its.countP isFeel ∧ l.its.length ≤ m + 3
theorem upTo_at {m j : Nat} {x : PyData} (h : (upTo m)[j]? = some x) : j < m ∧ x = .int (j : Int) := by
  have hj := at_lt h
  rw [upTo_length] at hj
  refine ⟨hj, ?_⟩
  unfold upTo at h
  rw [List.getElem?_map, List.getElem?_range hj] at h
  cases h <;> rfl
theorem loop_ok (p : Int) {m : Nat} (hm : m ≤ 6) : DrS m_law_loop 1000 [.int p, .int (m : Int)] (LoopP p m) := by
  refine drs_of rfl fun n t hg hn => ?_
  show SP s_law_loop [some t, some (.int p), some (.int (m : Int)), none, none, none] _
  unfold s_law_loop
  refine sp_seq (sp_set (xp_op (xp_lift (r := .list ([It.cut, It.bell, It.cut].map eIt)) rfl (xp_op (xp_lift (r := .int 1) rfl (xp_take (b := 3) hg (by omega) (by decide) (by decide) (xCons_lift rfl) fun v t1 hv g1 => ?_))))))
  obtain ⟨rs, hr, hrl⟩ : ∃ rs : List It, bUp (.list ([It.cut, It.bell, It.cut].map eIt)) (.int (1 + (v : Int))) = some (.list (rs.map eIt)) ∧ rs.length ≤ 3 := by
    match v, hv with
    | 0, _ => exact ⟨[.cut], rfl, by decide⟩
    | 1, _ => exact ⟨[.cut, .bell], rfl, by decide⟩
    | 2, _ => exact ⟨[.cut, .bell, .cut], rfl, by decide⟩
  refine ⟨.int (1 + (v : Int)), rfl, .list (rs.map eIt), hr, ?_⟩
  show SP _ [some t1, some (.int p), some (.int (m : Int)), some (.list (rs.map eIt)), none, none] _
  have ir : iRange (dCons (dVar 2) dNil) [none, some (.int p), some (.int (m : Int)), some (.list (rs.map eIt)), none, none] = some (upTo m) := by
    show (if (m : Int) ≤ 1000 ∧ -1000 ≤ (m : Int) then some (upTo (m : Int).toNat) else none) = _
    rw [if_pos ⟨by omega, by omega⟩, Int.toNat_natCast]
  refine sp_seq (sp_set (xp_op (xp_lc (ap_lift (r := upTo m) ir ⟨fun ds ρ => ∃ (t : PyData) (is : List It), ρ = [some t, some (.int p), some (.int (m : Int)), some (.list (rs.map eIt)), none, none] ∧ Gd (n + 1 + ds.length) t ∧ ds = is.map eIt ∧ is.countP isFeel = is.length, ?_, ?_, ?_⟩))))
  · exact ⟨t1, [], rfl, g1, rfl, rfl⟩
  · rintro x ds ρ hj ⟨t2, is, rfl, g2, rfl, ic⟩
    obtain ⟨hjl, rfl⟩ := upTo_at hj
    refine ⟨[some t2, some (.int p), some (.int (m : Int)), some (.list (rs.map eIt)), none, some (.int ((is.map eIt).length : Nat))], rfl, ?_⟩
    refine xp_map (ap_cons (xp_lift (r := .str "feel") rfl (ap_one (xp_take (b := 4) g2 (by omega) (by decide) (by decide) (xCons_lift rfl) fun v t3 hv g3 => ?_))))
    refine ⟨eIt (.feel ⟨v, hv⟩), rfl, t3, is ++ [.feel ⟨v, hv⟩], rfl, by rw [List.length_append]; exact g3, by rw [List.map_append] <;> rfl, ?_⟩
    rw [List.countP_append, List.length_append, ic] <;> rfl
  · rintro ys ρ hl ⟨t2, is, rfl, g2, rfl, ic⟩
    rw [upTo_length, List.length_map] at hl
    rw [List.length_map, hl] at g2
    refine xp_lift (r := .list (rs.map eIt)) rfl ⟨.list ((is ++ rs).map eIt), ?_, ?_⟩
    · show (if (is.map eIt).length + (rs.map eIt).length ≤ 1000 then some (PyData.list (is.map eIt ++ rs.map eIt)) else none) = _
      rw [if_pos (by rw [List.length_map, List.length_map]; omega), List.map_append]
    · show SP _ [some t2, some (.int p), some (.int (m : Int)), some (.list (rs.map eIt)), some (.list ((is ++ rs).map eIt)), none] _
      have lp : (is ++ rs).length ≤ m + 3 := by rw [List.length_append]; omega
      refine sp_ret (xp_map (ap_cons (xp_lift (r := .int p) rfl (ap_one (xp_map (ap_one (xp_draw (ap_cons (xp_lift (r := .list ((is ++ rs).map eIt)) rfl (ap_one (xp_lift (r := .int ((is ++ rs).length : Nat)) (by
        show d1 mLen (dVar 4) [none, some (.int p), some (.int (m : Int)), some (.list (rs.map eIt)), some (.list ((is ++ rs).map eIt)), none] = _
        rw [len_list (xs := (is ++ rs).map eIt) rfl, List.length_map]) ⟨_, _, _, _, _, rfl, rfl, g2, by omega, pick_ok (.inl rfl) (by rw [List.length_map]; omega) _, fun r t3 hP g3 => ?_⟩)))))))))))
      obtain ⟨zs, rest, rfl, pm, zl⟩ := pick_typed hP
      rw [Nat.min_self] at zl
      have r0 : rest = [] := by
        have := pm.length_eq
        rw [List.length_append, zl] at this
        exact List.eq_nil_of_length_eq_zero (by omega)
      rw [r0, List.append_nil] at pm
      refine ⟨.tuple (zs.map eIt), rfl, eLp ⟨p, zs⟩, rfl, _, _, _, rfl, g3.mono (by omega), ⟨p, zs⟩, rfl, rfl, ?_, ?_⟩
      · show m ≤ zs.countP isFeel
        rw [pm.countP_eq, List.countP_append, ic, hl]
        omega
      · show zs.length ≤ m + 3
        rw [zl]
        exact lp
structure WtOk (W : List Lp) (pan : Nat) : Prop where
  w : WOk0 W
  fe : ∀ p : Nat, p < pan → ∃ l ∈ W, l.pa = (p : Int) ∧ 2 ≤ l.its.countP isFeel
def WiresP (pan : Nat) (r : PyData) : Prop := ∃ W, r = eW W ∧ WtOk W pan
theorem wires_ok {pan : Nat} (h1 : 1 ≤ pan) (h2 : pan ≤ 2) : DrS m_law_wires 5000 [.int (pan : Int)] (WiresP pan) := by
  refine drs_of rfl fun n t hg hn => ?_
  show SP s_law_wires [some t, some (.int (pan : Int))] _
  unfold s_law_wires
  have two : ∀ (t2 : PyData), Gd (n + 1) t2 → SP (xRet (xMap (fun ds => some (.tuple ds)) (xCons (xDraw 0 3 m_law_loop (xCons (xLift [0] (dC (.int 0))) (xCons (xOp bPlus (xLift [0] (dC (.int 2))) (xDraw 0 2 m_law_take (xCons (xLift [0] (dC (.int 2))) xNil))) xNil))) (xCons (xDraw 0 3 m_law_loop (xCons (xLift [0] (dOp bSub (dVar 1) (dC (.int 1)))) (xCons (xLift [0] (dC (.int 2))) xNil))) xNil)))) [some t2, some (.int (pan : Int))] fun o => ∃ r t' rest, o = .rt r (some t' :: rest) ∧ Gd (n + 5000) t' ∧ WiresP pan r := by
    intro t2 g2
    refine sp_ret (xp_map (ap_cons (xp_draw (ap_cons (xp_lift (r := .int 0) rfl (ap_one (xp_op (xp_lift (r := .int 2) rfl (xp_take (b := 2) g2 (by omega) (by decide) (by decide) (xCons_lift rfl) fun v t3 hv g3 => ⟨.int ((2 + v : Nat) : Int), rfl, _, _, _, _, _, rfl, rfl, g3, by omega, loop_ok 0 (m := 2 + v) (by omega), fun r t4 hP g4 => ?_⟩)))))))))
    refine ap_one (xp_draw (ap_cons (xp_lift (r := .int ((pan : Int) - 1)) rfl (ap_one (xp_lift (r := .int 2) rfl ⟨_, _, _, _, _, rfl, rfl, g4, by omega, loop_ok ((pan : Int) - 1) (m := 2) (by omega), fun r' t5 hP' g5 => ?_⟩)))))
    obtain ⟨l, rfl, a1, a2, a3⟩ := hP
    obtain ⟨l', rfl, b1, b2, b3⟩ := hP'
    refine ⟨eW [l, l'], rfl, _, _, _, rfl, g5.mono (by omega), [l, l'], rfl, ⟨Nat.le_of_ble_eq_true rfl, fun x hx => ?_⟩, fun p hp => ?_⟩
    · rcases List.mem_cons.mp hx with e | hx
      · rw [e]; omega
      · rw [List.mem_singleton.mp hx]; omega
    · by_cases c : p = 0
      · exact ⟨l, List.mem_cons_self, by rw [a1, c] <;> rfl, by omega⟩
      · exact ⟨l', List.mem_cons_of_mem _ List.mem_cons_self, by rw [b1]; omega, b2⟩
  refine sp_seq (sp_ifS (xp_and (xp_lift (r := .bool (decide ((pan : Int) = 1))) rfl ⟨_, rfl, fun c => ?_, fun c => ⟨false, rfl, (fun q => nomatch q), fun _ => sp_next (two t (hg.mono (by omega)))⟩⟩)))
  have p1 : pan = 1 := by have := of_decide_eq_true c; omega
  refine xp_op (xp_take (b := 2) hg (by omega) (by decide) (by decide) (xCons_lift rfl) fun v t1 hv g1 => xp_lift (r := .int 0) rfl ⟨.bool (decide ((v : Int) = 0)), rfl, _, rfl, fun c0 => ?_, fun c0 => sp_next (two t1 g1)⟩)
  refine sp_ret (xp_map (ap_one (xp_draw (ap_cons (xp_lift (r := .int 0) rfl (ap_one (xp_op (xp_lift (r := .int 3) rfl (xp_take (b := 2) g1 (by omega) (by decide) (by decide) (xCons_lift rfl) fun u t3 hu g3 => ⟨.int ((3 + u : Nat) : Int), rfl, _, _, _, _, _, rfl, rfl, g3, by omega, loop_ok 0 (m := 3 + u) (by omega), fun r t4 hP g4 => ?_⟩)))))))))
  obtain ⟨l, rfl, a1, a2, a3⟩ := hP
  refine ⟨eW [l], rfl, _, _, _, rfl, g4.mono (by omega), [l], rfl, ⟨Nat.le_of_ble_eq_true rfl, fun x hx => ?_⟩, fun p hp => ?_⟩
  · rw [List.mem_singleton.mp hx]; omega
  · exact ⟨l, List.mem_cons_self, by rw [a1]; omega, by omega⟩
end SK
set_option maxHeartbeats 2000000
/-! The plain law: drawn zones, lines. -/
namespace SK
open PySem PySem.Spec PyProof.Rows L2
theorem goods_lc {W : List Lp} (w : WOk0 W) {p : Int} {dw dp : DE} {v : Nat} {ρ : Rho} {ex : PyData → Rho} (h0 : dw ρ = some (eW W)) (hb : ∀ s, bName v (wipeR ρ [v]) s = some (ex s)) (h1 : ∀ s, dw (ex s) = some (eW W)) (h2 : ∀ s, dp (ex s) = some (.int p)) (h3 : ∀ s, dVar v (ex s) = some s) :
    dLc [v] (iSeq (dCall 1 m_law_feelers (dCons dw dNil))) (bName v) (dOp bEq (dOp bIx (dOp bIx dw (dOp bIx (dVar v) (dC (.int 0)))) (dC (.int 0))) dp) (dVar v) ρ = some (.list ((goodsT W p).map eS)) := by
  have fl := feelT_len w
  have t1 : dCall 1 m_law_feelers (dCons dw dNil) ρ = some (.list ((feelT W).map eS)) := by
    rw [dCall1_of h0, m_law_feelers_eq w]
  refine dLc_of (iSeq_lst t1 (by rw [List.length_map]; omega)) (lcL_map (ex := eS) (f := eS) (t := fun s => decide (paAt W s = p)) (feelT W) fun s hs => ⟨ex (eS s), hb _, ?_, fun _ => h3 _⟩)
  obtain ⟨m, l, e1, e2, e3⟩ := feelT_at hs
  have a1 : dOp bIx (dVar v) (dC (.int 0)) (ex (eS s)) = some (.int (m : Int)) := by
    rw [dOp_of (x := eS s) (y := .int 0) (h3 _) rfl]
    show some (PyData.int s.1) = _
    rw [e2]
  have a2 : dOp bIx dw (dOp bIx (dVar v) (dC (.int 0))) (ex (eS s)) = some (eLp l) := by
    rw [dOp_of (x := eW W) (y := .int (m : Int)) (h1 _) a1]
    exact bIx_map e1
  have a3 : dOp bIx (dOp bIx dw (dOp bIx (dVar v) (dC (.int 0)))) (dC (.int 0)) (ex (eS s)) = some (.int l.pa) := by
    rw [dOp_of (x := eLp l) (y := .int 0) a2 rfl] <;> rfl
  rw [dOp_of (x := .int l.pa) (y := .int p) a3 (h2 _), bEq_int, e3]
theorem WtOk.two {W : List Lp} {pan : Nat} (w : WtOk W pan) {p : Nat} (hp : p < pan) : 2 ≤ (goodsT W (p : Int)).length := by
  obtain ⟨l, hl, e, h2⟩ := w.fe p hp
  rw [← e]
  exact goods_two hl h2
/-- spots picked and sorted -/
theorem pick_spots {gs : List Sp2} (so : gs.Pairwise ltS) {c : Nat} {r : PyData} (hl : gs.length ≤ 900) (h : PickP (gs.map eS) c r) : ∃ sp : List Sp2, mSorted [r] = some (.list (sp.map eS)) ∧ sp.Pairwise ltS ∧ sp.length = min c gs.length := by
  obtain ⟨zs, rest, rfl, pm, zl⟩ := pick_typed h
  have nd : (zs ++ rest).Nodup := pm.nodup_iff.mpr (so.imp ltS.ne)
  have nz : zs.Nodup := (List.nodup_append.mp nd).1
  obtain ⟨sp, e1, p1, s1⟩ := sort_spots nz
  refine ⟨sp, ?_, s1, by rw [p1.length_eq, zl]⟩
  rw [mSorted_ok (sortOk_spots (by omega)), e1]
def ZoneP (r : PyData) : Prop := ∃ z, r = eZ z ∧ ZOk z
theorem zone_ok {W : List Lp} {pan p : Nat} (w : WtOk W pan) (hp : p < pan) : DrS m_law_zone 1000 [eW W, .int (p : Int), .bool false] ZoneP := by
  refine drs_of rfl fun n t hg hn => ?_
  show SP s_law_zone [some t, some (eW W), some (.int (p : Int)), some (.bool false), none, none, none, none] _
  unfold s_law_zone
  have gl := goods_len w.w (p : Int)
  have g2 := w.two hp
  refine sp_seq (sp_lift (ρ' := [none, some (eW W), some (.int (p : Int)), some (.bool false), some (.list ((goodsT W (p : Int)).map eS)), none, none, none]) ?_ ?_)
  · show dAsg _ _ [none, some (eW W), some (.int (p : Int)), some (.bool false), none, none, none, none] = _
    rw [dAsg_of (goods_lc w.w (p := (p : Int)) (ex := fun s => [none, some (eW W), some (.int (p : Int)), some (.bool false), none, none, none, some s]) rfl (fun _ => rfl) (fun _ => rfl) (fun _ => rfl) (fun _ => rfl))] <;> rfl
  show SP _ [some t, some (eW W), some (.int (p : Int)), some (.bool false), some (.list ((goodsT W (p : Int)).map eS)), none, none, none] _
  refine sp_seq (sp_set (xp_map (ap_one (xp_map (ap_one (xp_draw (ap_cons (xp_lift (r := .list ((goodsT W (p : Int)).map eS)) rfl (ap_one (xp_op (xp_lift (r := .int 2) rfl (xp_take (b := 2) hg (by omega) (by decide) (by decide) (xCons_lift rfl) fun v t1 hv g1 => ⟨.int ((2 + v : Nat) : Int), rfl, _, _, _, _, _, rfl, rfl, g1, by omega, pick_ok (.inl rfl) (by rw [List.length_map]; omega) (2 + v), fun r t2 hP g3 => ?_⟩))))))))))))
  obtain ⟨sp, e1, so, sl⟩ := pick_spots (goods_so W p) (by omega) hP
  refine ⟨_, e1, .tuple (sp.map eS), rfl, ?_⟩
  show SP _ [some t2, some (eW W), some (.int (p : Int)), some (.bool false), some (.list ((goodsT W (p : Int)).map eS)), some (.tuple (sp.map eS)), none, none] _
  refine sp_seq (sp_set (xp_if (xp_or (xp_lift (r := .bool true) rfl ⟨true, rfl, fun _ => ⟨true, rfl, fun _ => xp_lift (r := .none) rfl ?_, fun q => nomatch q⟩, fun q => nomatch q⟩))))
  show SP _ [some t2, some (eW W), some (.int (p : Int)), some (.bool false), some (.list ((goodsT W (p : Int)).map eS)), some (.tuple (sp.map eS)), some .none, none] _
  have lm : d2 mMin (dC (.int 2)) (d1 mLen (dVar 5)) [none, some (eW W), some (.int (p : Int)), some (.bool false), some (.list ((goodsT W (p : Int)).map eS)), some (.tuple (sp.map eS)), some .none, none] = some (.int ((2 : Nat) : Int)) := by
    rw [d2_of (x := .int 2) (y := .int (sp.length : Nat)) rfl (by rw [len_tup (xs := sp.map eS) rfl, List.length_map])]
    show some (PyData.int (min 2 (sp.length : Int))) = _
    congr 2
    omega
  refine sp_ret (xp_map (ap_cons (xp_lift (r := .tuple (sp.map eS)) rfl (ap_cons (xp_op (xp_lift (r := .int 1) rfl (xp_take (b := 2) g3 (by omega) (by decide) (by decide) (xCons_lift lm) fun u t4 hu g4 => ⟨.int ((1 + u : Nat) : Int), rfl, ?_⟩)))))))
  refine ap_one (xp_lift (r := .none) rfl ?_)
  refine ⟨eZ ⟨sp, ((1 + u : Nat) : Int)⟩, rfl, _, _, _, rfl, g4.mono (by omega), ⟨sp, ((1 + u : Nat) : Int)⟩, rfl, ⟨so, by show 1 ≤ sp.length; omega, by show sp.length ≤ 3; omega⟩, ?_⟩
  show ((1 + u : Nat) : Int) = 1 ∨ (((1 + u : Nat) : Int) = 2 ∧ 2 ≤ sp.length)
  by_cases c : u = 0
  · left; omega
  · right; exact ⟨by omega, by omega⟩
/-! ### lines -/
def LineP (nz : Nat) (r : PyData) : Prop := ∃ l, r = eL l ∧ LOk nz l
theorem sort_nats {zs : List Nat} (hl : zs.length ≤ 1000) : ∃ s : List Nat, mSorted [.list (zs.map eI)] = some (.list (s.map eI)) ∧ s.Perm zs := by
  have e0 : zs.map eI = (zs.map fun i : Nat => (i : Int)).map .int := by rw [List.map_map] <;> rfl
  obtain ⟨s, e1, p1, _⟩ := sort_ints (zs.map fun i : Nat => (i : Int))
  obtain ⟨us, e2, p2⟩ := perm_map_inv p1.symm zs rfl
  refine ⟨us, ?_, p2⟩
  rw [e0, mSorted_ok (sortOk_ints (by rw [List.length_map]; exact hl)), e1, e2, List.map_map] <;> rfl
theorem line_ok {pan nz : Nat} (h1 : 1 ≤ pan) (h2 : pan ≤ 2) (z1 : 1 ≤ nz) (z2 : nz ≤ 5) : DrS m_law_line 1000 [.int (pan : Int), .int (nz : Int), .bool false] (LineP nz) := by
  refine drs_of rfl fun n t hg hn => ?_
  show SP s_law_line [some t, some (.int (pan : Int)), some (.int (nz : Int)), some (.bool false), none, none] _
  unfold s_law_line
  have rg : dRgL (dVar 2) [none, some (.int (pan : Int)), some (.int (nz : Int)), some (.bool false), none, none] = some (.list ((List.range nz).map eI)) := by
    show (if (nz : Int) ≤ 1000 ∧ 0 ≤ (nz : Int) then some (PyData.list (upTo (nz : Int).toNat)) else none) = _
    rw [if_pos ⟨by omega, by omega⟩, Int.toNat_natCast] <;> rfl
  refine sp_seq (sp_set (xp_map (ap_one (xp_map (ap_one (xp_draw (ap_cons (xp_lift (r := .list ((List.range nz).map eI)) rg (ap_one (xp_op (xp_lift (r := .int 1) rfl (xp_take (b := 2) hg (by omega) (by decide) (by decide) (xCons_lift rfl) fun v t1 hv g1 => ⟨.int ((1 + v : Nat) : Int), rfl, _, _, _, _, _, rfl, rfl, g1, by omega, pick_ok (.inl rfl) (by rw [List.length_map, List.length_range]; omega) (1 + v), fun r t2 hP g2 => ?_⟩))))))))))))
  obtain ⟨zs, rest, rfl, pm, zl⟩ := pick_typed hP
  rw [List.length_range] at zl
  obtain ⟨s, e1, p1⟩ := sort_nats (zs := zs) (by omega)
  have sl := p1.length_eq
  have sm : ∀ i ∈ s, i < nz := fun i hi => List.mem_range.mp (pm.mem_iff.mp (List.mem_append_left _ (p1.mem_iff.mp hi)))
  refine ⟨_, e1, .tuple (s.map eI), rfl, ?_⟩
  show SP _ [some t2, some (.int (pan : Int)), some (.int (nz : Int)), some (.bool false), some (.tuple (s.map eI)), none] _
  refine sp_seq (sp_lift (ρ' := [none, some (.int (pan : Int)), some (.int (nz : Int)), some (.bool false), some (.tuple (s.map eI)), some (.tuple [])]) rfl ?_)
  show SP _ [some t2, some (.int (pan : Int)), some (.int (nz : Int)), some (.bool false), some (.tuple (s.map eI)), some (.tuple [])] _
  refine sp_seq (sp_ifS (xp_and (xp_lift (r := .bool false) rfl ⟨false, rfl, (fun q => nomatch q), fun _ => ⟨false, rfl, (fun q => nomatch q), fun _ => sp_next ?_⟩⟩)))
  refine sp_ret (xp_map (ap_cons (xp_take (b := pan) g2 (by omega) (by omega) (by omega) (xCons_lift rfl) fun ho t3 hho g3 => ?_)))
  refine ap_cons (xp_draw (ap_one (xp_lift (r := .list [.str "any", .str "all"]) rfl ⟨_, _, _, _, _, rfl, rfl, g3, by omega, of_ok (by decide) (by decide), fun ra t4 ha g4 => ?_⟩)))
  obtain ⟨an, rfl⟩ : ∃ an : Bool, ra = .str (if an then "any" else "all") := by
    rcases List.mem_cons.mp ha with e | ha
    · exact ⟨true, e⟩
    · exact ⟨false, List.mem_singleton.mp ha⟩
  refine ap_cons (xp_lift (r := .tuple (s.map eI)) rfl ?_)
  refine ap_cons (xp_draw (ap_one (xp_lift (r := .list ((List.range 5).map eI)) rfl ⟨_, _, _, _, _, rfl, rfl, g4, by omega, of_ok (by decide) (by decide), fun rw t5 hw g5 => ?_⟩)))
  obtain ⟨wt, hwt, rfl⟩ := List.mem_map.mp hw
  have hwt := List.mem_range.mp hwt
  refine ap_cons (xp_lift (r := .tuple []) rfl ?_)
  refine ap_cons (xp_take (b := 2) g5 (by omega) (by decide) (by decide) (xCons_lift rfl) fun ou t6 hou g6 => ?_)
  refine ap_cons (xp_draw (ap_one (xp_lift (r := .list ([0, 2, 3].map eI)) rfl ⟨_, _, _, _, _, rfl, rfl, g6, by omega, of_ok (by decide) (by decide), fun rb t7 hb g7 => ?_⟩)))
  obtain ⟨a, _, rfl⟩ := List.mem_map.mp hb
  refine ap_one (xp_take (b := 2) g7 (by omega) (by decide) (by decide) (xCons_lift rfl) fun b t8 hb g8 => ?_)
  exact ⟨eL ⟨(ho : Int), an, s, (wt : Int), ou, (a : Int), (b : Int)⟩, rfl, _, _, _, rfl, g8.mono (by omega), ⟨(ho : Int), an, s, (wt : Int), ou, (a : Int), (b : Int)⟩, rfl, ⟨by show 1 ≤ s.length; omega, by show s.length ≤ 2; omega, sm, by show 0 ≤ (wt : Int); omega, by show (wt : Int) ≤ 20; omega, by show ou ≤ 1; omega⟩⟩
end SK
set_option maxHeartbeats 2000000
/-! The plain law: drawn houses, drawn begins. -/
namespace SK
open PySem PySem.Spec PyProof.Rows L2
/-! ### what a house is as data -/
theorem fits_it (i : It) : fitsT 5 (eIt i) = true := by cases i <;> rfl
theorem tup_it (i : It) : tupD (eIt i) = eIt i := by cases i <;> rfl
theorem fits_eW {W : List Lp} (w : WOk0 W) : fitsT 8 (eW W) = true := by
  have wl := w.len
  refine fitsT_tup (by rw [List.length_map]; omega) (fitsTs_mapM W fun l hl => ?_)
  have hl := w.its l hl
  exact fitsT_tup (Nat.le_of_ble_eq_true rfl) (fitsTs_cons (fitsT_int _ _) (fitsTs_cons (fitsT_tup (by rw [List.length_map]; omega) (fitsTs_map fits_it _)) (fitsTs_nil _)))
theorem tup_eW (W : List Lp) : tupD (eW W) = eW W := by
  unfold eW
  rw [tupD, tupDs_id fun l => by
    unfold eLp
    rw [tupD, tupDs, tupDs, tupDs, tupD, tupD, tupDs_id tup_it]]
theorem fits_eZ {z : Zn} (h : z.sp.length ≤ 1000) : fitsT 7 (eZ z) = true :=
  fitsT_tup (Nat.le_of_ble_eq_true rfl) (fitsTs_cons (fits_spots 4 h) (fitsTs_cons (fitsT_int _ _) (fitsTs_cons (fitsT_none _) (fitsTs_nil _))))
theorem tup_eZ (z : Zn) : tupD (eZ z) = eZ z := by
  unfold eZ
  rw [tupD, tupDs, tupDs, tupDs, tupDs, tup_spots, tupD, tupD]
theorem fits_eL {l : Ln} (h : l.zs.length ≤ 1000) : fitsT 7 (eL l) = true :=
  fitsT_tup (Nat.le_of_ble_eq_true rfl) (fitsTs_cons (fitsT_int _ _) (fitsTs_cons (by cases l.an <;> rfl) (fitsTs_cons (fitsT_tup (by rw [List.length_map]; exact h) (fitsTs_map (fun i => fitsT_int _ _) _)) (fitsTs_cons (fitsT_int _ _) (fitsTs_cons (fitsT_tup (Nat.zero_le _) (fitsTs_nil _)) (fitsTs_cons (fitsT_int _ _) (fitsTs_cons (fitsT_int _ _) (fitsTs_cons (fitsT_int _ _) (fitsTs_nil _)))))))))
theorem tup_eL (l : Ln) : tupD (eL l) = eL l := by
  unfold eL
  rw [tupD]
  have e : tupDs (l.zs.map eI) = l.zs.map eI := tupDs_id (fun i => rfl) _
  simp only [tupDs, e, tupD]
theorem fits_eH {W : List Lp} {zs : List Zn} {ls : List Ln} {pan : Int} (w : WOk0 W) (ok : HOk ⟨eW W, zs, ls, pan⟩) : fitsT 9 (eH ⟨eW W, zs, ls, pan⟩) = true := by
  have zl : zs.length ≤ 5 := ok.z1
  have ll : ls.length ≤ 5 := ok.l1
  refine fitsT_tup (Nat.le_of_ble_eq_true rfl) (fitsTs_cons (fits_eW w) (fitsTs_cons (fitsT_tup (by rw [List.length_map]; exact Nat.le_trans zl (Nat.le_of_ble_eq_true rfl)) (fitsTs_mapM zs fun z hz => fits_eZ ?_)) (fitsTs_cons (fitsT_tup (by rw [List.length_map]; exact Nat.le_trans ll (Nat.le_of_ble_eq_true rfl)) (fitsTs_mapM ls fun l hl => fits_eL ?_)) (fitsTs_cons rfl (fitsTs_cons (fitsT_int _ _) (fitsTs_nil _))))))
  · have := (ok.zs z hz).sp.hi
    omega
  · have := (ok.ls l hl).hi
    omega
theorem tup_eH {W : List Lp} {zs : List Zn} {ls : List Ln} {pan : Int} : tupD (eH ⟨eW W, zs, ls, pan⟩) = eH ⟨eW W, zs, ls, pan⟩ := by
  unfold eH
  have e1 : tupDs (zs.map eZ) = zs.map eZ := tupDs_id tup_eZ _
  have e2 : tupD (eLs ls) = eLs ls := by unfold eLs; rw [tupD, tupDs_id tup_eL]
  have e3 : tupD eN = eN := rfl
  rw [tupD]
  simp only [tupDs, tup_eW, e1, e2, e3, tupD]
/-! ### the house -/
structure HsOk (W : List Lp) (zs : List Zn) (ls : List Ln) (pan : Nat) : Prop where
  w : WtOk W pan
  h : HOk ⟨eW W, zs, ls, pan⟩
  z2 : 2 ≤ zs.length
  l1 : 1 ≤ ls.length
def AbodeP (pan : Nat) (r : PyData) : Prop := ∃ W zs ls, r = eH ⟨eW W, zs, ls, pan⟩ ∧ HsOk W zs ls pan
theorem abode_ok {pan : Nat} (h1 : 1 ≤ pan) (h2 : pan ≤ 2) : DrS m_law_abode 20000 [.int (pan : Int), .bool false, .bool false] (AbodeP pan) := by
  refine drs_of rfl fun n t hg hn => ?_
  show SP s_law_abode [some t, some (.int (pan : Int)), some (.bool false), some (.bool false), none, none, none, none, none] _
  unfold s_law_abode
  refine sp_seq (sp_set (xp_draw (ap_one (xp_lift (r := .int (pan : Int)) rfl ⟨_, _, _, _, _, rfl, rfl, hg, by omega, wires_ok h1 h2, fun r t1 ⟨W, e, w⟩ g1 => ?_⟩))))
  subst e
  show SP _ [some t1, some (.int (pan : Int)), some (.bool false), some (.bool false), some (eW W), none, none, none, none] _
  refine sp_seq (sp_set (xp_op (xp_lift (r := .int 2) rfl (xp_map (ap_one (xp_op (xp_take (b := 4) g1 (by omega) (by decide) (by decide) (xCons_lift rfl) fun v t2 hv g2 => xp_lift (r := .int 0) rfl ⟨.bool (decide ((v : Int) = 0)), rfl, .int (if decide ((v : Int) = 0) = true then 1 else 0), rfl, _, rfl, ?_⟩)))))))
  obtain ⟨m, hm, hm2, hm3⟩ : ∃ m : Nat, (2 : Int) + (if decide ((v : Int) = 0) = true then 1 else 0) = (m : Int) ∧ 2 ≤ m ∧ m ≤ 3 := by
    by_cases c : decide ((v : Int) = 0) = true
    · exact ⟨3, by rw [if_pos c] <;> rfl, by decide, by decide⟩
    · exact ⟨2, by rw [if_neg c] <;> rfl, by decide, by decide⟩
  rw [hm]
  show SP _ [some t2, some (.int (pan : Int)), some (.bool false), some (.bool false), some (eW W), some (.int (m : Int)), none, none, none] _
  have ir : iRange (dCons (dVar 5) dNil) [none, some (.int (pan : Int)), some (.bool false), some (.bool false), some (eW W), some (.int (m : Int)), none, none, none] = some (upTo m) := by
    show (if (m : Int) ≤ 1000 ∧ -1000 ≤ (m : Int) then some (upTo (m : Int).toNat) else none) = _
    rw [if_pos ⟨by omega, by omega⟩, Int.toNat_natCast]
  refine sp_seq (sp_set (xp_map (ap_one (xp_lc (ap_lift (r := upTo m) ir ⟨fun ds ρ => ∃ (t : PyData) (zs : List Zn), ρ = [some t, some (.int (pan : Int)), some (.bool false), some (.bool false), some (eW W), some (.int (m : Int)), none, none, none] ∧ Gd (n + 5000 + 1 + 1000 * ds.length) t ∧ ds = zs.map eZ ∧ ∀ z ∈ zs, ZOk z, ?_, ?_, ?_⟩)))))
  · exact ⟨t2, [], rfl, g2, rfl, fun z hz => nomatch hz⟩
  · rintro x ds ρ hj ⟨t3, zs, rfl, g3, rfl, zo⟩
    obtain ⟨hjl, rfl⟩ := upTo_at hj
    obtain ⟨q, hq, hq2⟩ := fmod_lt (((zs.map eZ).length : Nat) : Int) (b := pan) (by omega)
    refine ⟨[some t3, some (.int (pan : Int)), some (.bool false), some (.bool false), some (eW W), some (.int (m : Int)), none, none, some (.int ((zs.map eZ).length : Nat))], rfl, ?_⟩
    refine xp_draw (ap_cons (xp_lift (r := eW W) rfl (ap_cons (xp_lift (r := .int (q : Int)) ?_ (ap_one (xp_lift (r := .bool false) rfl ⟨_, _, _, _, _, rfl, rfl, g3, by omega, zone_ok w hq2, fun r t4 ⟨z, ez, oz⟩ g4 => ?_⟩))))))
    · show dOp bModG (d1 mInt (dVar 8)) (dVar 1) [none, some (.int (pan : Int)), some (.bool false), some (.bool false), some (eW W), some (.int (m : Int)), none, none, some (.int ((zs.map eZ).length : Nat))] = _
      rw [dOp_of (x := .int ((zs.map eZ).length : Nat)) (y := .int (pan : Int)) rfl rfl, bMod_of (by omega), hq]
    · subst ez
      refine ⟨t4, zs ++ [z], rfl, by rw [List.length_append]; exact g4.mono (by rw [List.length_singleton]; omega), by rw [List.map_append] <;> rfl, fun y hy => ?_⟩
      rcases List.mem_append.mp hy with hy | hy
      · exact zo y hy
      · rw [List.mem_singleton.mp hy]; exact oz
  · rintro ys ρ hl ⟨t3, zs, rfl, g3, rfl, zo⟩
    rw [upTo_length, List.length_map] at hl
    rw [List.length_map, hl] at g3
    refine ⟨.tuple (zs.map eZ), rfl, ?_⟩
    show SP _ [some t3, some (.int (pan : Int)), some (.bool false), some (.bool false), some (eW W), some (.int (m : Int)), some (.tuple (zs.map eZ)), none, none] _
    refine sp_seq (sp_set (xp_map (ap_one (xp_lc (ap_range (xp_op (xp_lift (r := .int 2) rfl (xp_take (b := 2) g3 (by omega) (by decide) (by decide) (xCons_lift rfl) fun u t4 hu g4 => ⟨.int ((2 + u : Nat) : Int), rfl, 2 + u, rfl, by omega, fun ds ρ => ∃ (t : PyData) (ls : List Ln), ρ = [some t, some (.int (pan : Int)), some (.bool false), some (.bool false), some (eW W), some (.int (m : Int)), some (.tuple (zs.map eZ)), none, none] ∧ Gd (n + 5000 + 1 + 1000 * m + 1 + 1000 * ds.length) t ∧ ds = ls.map eL ∧ ∀ l ∈ ls, LOk m l, ?_, ?_, ?_⟩))))))))
    · exact ⟨t4, [], rfl, g4, rfl, fun z hz => nomatch hz⟩
    · rintro x ds ρ hj ⟨t5, ls, rfl, g5, rfl, lo⟩
      obtain ⟨hjl, rfl⟩ := upTo_at hj
      refine ⟨[some t5, some (.int (pan : Int)), some (.bool false), some (.bool false), some (eW W), some (.int (m : Int)), some (.tuple (zs.map eZ)), none, some (.int ((ls.map eL).length : Nat))], rfl, ?_⟩
      refine xp_draw (ap_cons (xp_lift (r := .int (pan : Int)) rfl (ap_cons (xp_lift (r := .int (m : Int)) rfl (ap_one (xp_lift (r := .bool false) rfl ⟨_, _, _, _, _, rfl, rfl, g5, by omega, line_ok h1 h2 (nz := m) (by omega) (by omega), fun r t6 ⟨l, el, ol⟩ g6 => ?_⟩))))))
      subst el
      refine ⟨t6, ls ++ [l], rfl, by rw [List.length_append]; exact g6.mono (by rw [List.length_singleton]; omega), by rw [List.map_append] <;> rfl, fun y hy => ?_⟩
      rcases List.mem_append.mp hy with hy | hy
      · exact lo y hy
      · rw [List.mem_singleton.mp hy]; exact ol
    · rintro ys ρ hl2 ⟨t5, ls, rfl, g5, rfl, lo⟩
      rw [upTo_length, List.length_map] at hl2
      rw [List.length_map, hl2] at g5
      refine ⟨.tuple (ls.map eL), rfl, ?_⟩
      refine sp_ret (xp_lift (r := eH ⟨eW W, zs, ls, pan⟩) rfl ?_)
      refine ⟨_, _, _, rfl, g5.mono (by omega), W, zs, ls, rfl, w, ⟨by show 1 ≤ zs.length; omega, by show zs.length ≤ 5; omega, zo, by show ls.length ≤ 5; omega, fun l hm => ?_⟩, by omega, by omega⟩
      show LOk zs.length l
      rw [hl]
      exact lo l hm
theorem put_out (l : Ln) (k : Nat) : m_law_put_at [eL l, .int 5, .int (k : Int)] = some (eL { l with out := k }) :=
  m_law_put_at_eq (xs := [.int l.ho, .str (if l.an then "any" else "all"), .tuple (l.zs.map eI), .int l.wait, .tuple [], .int l.out, .int l.a, .int l.b]) (n := 5) (Nat.le_of_ble_eq_true rfl) (Nat.le_of_ble_eq_true rfl) _
end SK
set_option maxHeartbeats 2000000
/-! The plain law: rising houses, drawn begins. -/
namespace SK
open PySem PySem.Spec PyProof.Rows L2
theorem cutD_one (x y : PyData) (xs : List PyData) : cutD (x :: y :: xs) (some 1) (some 2) = [y] := by
  unfold cutD
  have e1 : HT.sIx (x :: y :: xs).length 0 (some 1) = 1 := by
    have := HT.sIx_nat (x :: y :: xs).length 0 1
    rw [show ((1 : Nat) : Int) = 1 from rfl] at this
    rw [this, List.length_cons, List.length_cons]
    omega
  have e2 : HT.sIx (x :: y :: xs).length (x :: y :: xs).length (some 2) = 2 := by
    have := HT.sIx_nat (x :: y :: xs).length (x :: y :: xs).length 2
    rw [show ((2 : Nat) : Int) = 2 from rfl] at this
    rw [this, List.length_cons, List.length_cons]
    omega
  rw [e1, e2] <;> rfl
theorem gt_zero (v : Nat) : ∃ k : Bool, bGt (.int (v : Int)) (.int 0) = some (.bool k) := ⟨_, rfl⟩
theorem rise_ok {pan : Nat} (h1 : 1 ≤ pan) (h2 : pan ≤ 2) : DrS m_law_rise 30000 [.int (pan : Int)] (AbodeP pan) := by
  refine drs_of rfl fun n t hg hn => ?_
  show SP s_law_rise [some t, some (.int (pan : Int)), none, none, none, none, none, none, none, none] _
  unfold s_law_rise
  refine sp_seq (sp_set (xp_draw (ap_cons (xp_lift (r := .int (pan : Int)) rfl (ap_cons (xp_lift (r := .bool false) rfl (ap_one (xp_lift (r := .bool false) rfl ⟨_, _, _, _, _, rfl, rfl, hg, by omega, abode_ok h1 h2, fun r t1 ⟨W, zs, ls, e, ok⟩ g1 => ?_⟩))))))))
  subst e
  show SP _ [some t1, some (.int (pan : Int)), some (eH ⟨eW W, zs, ls, pan⟩), none, none, none, none, none, none, none] _
  refine sp_seq (sp_ifS (xp_op (xp_take (b := 4) g1 (by omega) (by decide) (by decide) (xCons_lift rfl) fun v t2 hv g2 => xp_lift (r := .int 0) rfl ⟨.bool (decide ((v : Int) = 0)), rfl, _, rfl, fun c => ?_, fun c => sp_next ?_⟩)))
  · exact sp_ret (xp_lift (r := eH ⟨eW W, zs, ls, pan⟩) rfl ⟨_, _, _, rfl, g2.mono (by omega), W, zs, ls, rfl, ok⟩)
  obtain ⟨z0, z1, zr, rfl⟩ : ∃ z0 z1 zr, zs = z0 :: z1 :: zr := by
    have := ok.z2
    match zs, this with
    | [_], h => rw [List.length_singleton] at h; omega
    | a :: b :: r, _ => exact ⟨a, b, r, rfl⟩
  generalize hH : eH ⟨eW W, z0 :: z1 :: zr, ls, pan⟩ = H
  have H0 : bIx H (.int 0) = some (eW W) := by rw [← hH] <;> rfl
  have H1 : bIx H (.int 1) = some (.tuple ((z0 :: z1 :: zr).map eZ)) := by rw [← hH] <;> rfl
  have gl := goods_len ok.w.w 0
  have gt := ok.w.two (p := 0) (by omega)
  rw [show ((0 : Nat) : Int) = 0 from rfl] at gt
  refine sp_seq (sp_lift (ρ' := [none, some (.int (pan : Int)), some H, some (.list ((goodsT W 0).map eS)), none, none, none, none, none, none]) ?_ ?_)
  · show dAsg _ _ [none, some (.int (pan : Int)), some H, none, none, none, none, none, none, none] = _
    rw [dAsg_of (goods_lc ok.w.w (p := 0) (dw := dOp bIx (dVar 2) (dC (.int 0))) (ex := fun s => [none, some (.int (pan : Int)), some H, none, none, none, none, none, none, some s]) (by rw [dOp_of (x := H) (y := .int 0) rfl rfl, H0]) (fun _ => rfl) (fun _ => by rw [dOp_of (x := H) (y := .int 0) rfl rfl, H0]) (fun _ => rfl) (fun _ => rfl))] <;> rfl
  show SP _ [some t2, some (.int (pan : Int)), some H, some (.list ((goodsT W 0).map eS)), none, none, none, none, none, none] _
  refine sp_seq (sp_set (xp_map (ap_one (xp_map (ap_one (xp_draw (ap_cons (xp_lift (r := .list ((goodsT W 0).map eS)) rfl (ap_one (xp_op (xp_lift (r := .int 2) rfl (xp_take (b := 2) g2 (by omega) (by decide) (by decide) (xCons_lift rfl) fun v t3 hv g3 => ⟨.int ((2 + v : Nat) : Int), rfl, _, _, _, _, _, rfl, rfl, g3, by omega, pick_ok (.inl rfl) (by rw [List.length_map]; omega) (2 + v), fun r t4 hP g4 => ?_⟩))))))))))))
  obtain ⟨sp, e1, so, sl⟩ := pick_spots (goods_so W 0) (by omega) hP
  refine ⟨_, e1, .tuple (sp.map eS), rfl, ?_⟩
  show SP _ [some t4, some (.int (pan : Int)), some H, some (.list ((goodsT W 0).map eS)), some (.tuple (sp.map eS)), none, none, none, none, none] _
  refine sp_seq (sp_set (xp_map (ap_one (xp_map (ap_one (xp_draw (ap_cons (xp_lift (r := .tuple (sp.map eS)) rfl (ap_one (xp_op (xp_lift (r := .int 1) rfl (xp_take (b := 2) g4 (by omega) (by decide) (by decide) (xCons_lift rfl) fun u t5 hu g5 => ⟨.int ((1 + u : Nat) : Int), rfl, _, _, _, _, _, rfl, rfl, g5, by omega, pick_ok (.inr rfl) (by rw [List.length_map]; omega) (1 + u), fun r' t6 hP' g6 => ?_⟩))))))))))))
  obtain ⟨sq, e2, so2, sl2⟩ := pick_spots so (by omega) hP'
  refine ⟨_, e2, .tuple (sq.map eS), rfl, ?_⟩
  show SP _ [some t6, some (.int (pan : Int)), some H, some (.list ((goodsT W 0).map eS)), some (.tuple (sp.map eS)), some (.tuple (sq.map eS)), none, none, none, none] _
  generalize hG : PyData.list ((goodsT W 0).map eS) = G
  have y0 : ZOk ⟨sp, 2⟩ := ⟨⟨so, by show 1 ≤ sp.length; omega, by show sp.length ≤ 3; omega⟩, .inr ⟨rfl, by show 2 ≤ sp.length; omega⟩⟩
  have y1 : ZOk ⟨sq, 1⟩ := ⟨⟨so2, by show 1 ≤ sq.length; omega, by show sq.length ≤ 3; omega⟩, .inl rfl⟩
  have y2 : ZOk z1 := ok.h.zs z1 (List.mem_cons_of_mem _ List.mem_cons_self)
  refine sp_seq (sp_lift (ρ' := [none, some (.int (pan : Int)), some H, some G, some (.tuple (sp.map eS)), some (.tuple (sq.map eS)), some (.tuple ([⟨sp, 2⟩, ⟨sq, 1⟩, z1].map eZ)), none, none, none]) ?_ ?_)
  · show dAsg _ _ [none, some (.int (pan : Int)), some H, some G, some (.tuple (sp.map eS)), some (.tuple (sq.map eS)), none, none, none, none] = _
    have q1 : dOp bIx (dVar 2) (dC (.int 1)) [none, some (.int (pan : Int)), some H, some G, some (.tuple (sp.map eS)), some (.tuple (sq.map eS)), none, none, none, none] = some (.tuple ((z0 :: z1 :: zr).map eZ)) := by
      rw [dOp_of (x := H) (y := .int 1) rfl rfl, H1]
    have q2 : dSl (dOp bIx (dVar 2) (dC (.int 1))) (oSome (dC (.int 1))) (oSome (dC (.int 2))) [none, some (.int (pan : Int)), some H, some G, some (.tuple (sp.map eS)), some (.tuple (sq.map eS)), none, none, none, none] = some (.tuple [eZ z1]) := by
      unfold dSl
      rw [q1]
      show some (PyData.tuple (cutD (eZ z0 :: eZ z1 :: zr.map eZ) (some 1) (some 2))) = _
      rw [cutD_one]
    rw [dAsg_of (x := .tuple ([⟨sp, 2⟩, ⟨sq, 1⟩, z1].map eZ)) (by
      rw [dOp_of (x := .tuple [eZ ⟨sp, 2⟩, eZ ⟨sq, 1⟩]) rfl q2, bPlus_tup (Nat.le_of_ble_eq_true rfl)] <;> rfl)] <;> rfl
  show SP _ [some t6, some (.int (pan : Int)), some H, some G, some (.tuple (sp.map eS)), some (.tuple (sq.map eS)), some (.tuple ([⟨sp, 2⟩, ⟨sq, 1⟩, z1].map eZ)), none, none, none] _
  generalize hA : PyData.tuple (sp.map eS) = A
  generalize hB : PyData.tuple (sq.map eS) = B
  generalize hZ : PyData.tuple ([⟨sp, 2⟩, ⟨sq, 1⟩, z1].map eZ) = Z
  refine sp_acq (ap_one (xp_map (ap_cons (xp_lift (r := .int 0) rfl (ap_cons (xp_lift (r := .str "any") rfl (ap_cons (xp_lift (r := .tuple [.int 0]) rfl (ap_cons (xp_take (b := 2) g6 (by omega) (by decide) (by decide) (xCons_lift rfl) fun w t7 hw g7 => ?_))))))))))
  refine ap_cons (xp_lift (r := .tuple []) rfl (ap_cons (xp_lift (r := .int 0) rfl (ap_cons (xp_lift (r := .int 0) rfl (ap_one (xp_lift (r := .int 0) rfl ?_)))))))
  refine ⟨eL ⟨0, true, [0], (w : Int), 0, 0, 0⟩, rfl, Nat.le_of_ble_eq_true rfl, ?_⟩
  show SP _ [some t7, some (.int (pan : Int)), some H, some G, some A, some B, some Z, some (.list [eL ⟨0, true, [0], (w : Int), 0, 0, 0⟩]), none, none] _
  refine sp_seq (sp_app (ds0 := [eL ⟨0, true, [0], (w : Int), 0, 0, 0⟩]) rfl (xp_map (ap_cons (xp_take (b := pan) g7 (by omega) (by omega) (by omega) (xCons_lift rfl) fun ho t8 hho g8 => ?_))))
  refine ap_cons (xp_lift (r := .str "any") rfl (ap_cons (xp_lift (r := .tuple [.int 1]) rfl (ap_cons (xp_op (xp_lift (r := .int 1) rfl (xp_take (b := 4) g8 (by omega) (by decide) (by decide) (xCons_lift rfl) fun x t9 hx g9 => ⟨.int ((1 + x : Nat) : Int), rfl, ?_⟩)))))))
  refine ap_cons (xp_lift (r := .tuple []) rfl (ap_cons (xp_lift (r := .int 0) rfl (ap_cons (xp_lift (r := .int 0) rfl (ap_one (xp_lift (r := .int 0) rfl ?_)))))))
  refine ⟨eL ⟨(ho : Int), true, [1], ((1 + x : Nat) : Int), 0, 0, 0⟩, rfl, [eL ⟨0, true, [0], (w : Int), 0, 0, 0⟩], rfl, Nat.le_of_ble_eq_true rfl, ?_⟩
  show SP _ [some t9, some (.int (pan : Int)), some H, some G, some A, some B, some Z, some (.list ([⟨0, true, [0], (w : Int), 0, 0, 0⟩, ⟨(ho : Int), true, [1], ((1 + x : Nat) : Int), 0, 0, 0⟩].map eL)), none, none] _
  refine sp_seq (sp_for (ap_range (xp_op (xp_lift (r := .int 1) rfl (xp_take (b := 2) g9 (by omega) (by decide) (by decide) (xCons_lift rfl) fun y t10 hy g10 => ⟨.int ((1 + y : Nat) : Int), rfl, 1 + y, rfl, by omega, fun j ρ => ∃ (t : PyData) (ls : List Ln) (u8 : Option PyData), ρ = [some t, some (.int (pan : Int)), some H, some G, some A, some B, some Z, some (.list (ls.map eL)), u8, none] ∧ Gd (n + 25000 + 1001 * j) t ∧ ls.length = 2 + j ∧ ∀ l ∈ ls, LOk 3 l, ?_, ?_, ?_⟩)))))
  · refine ⟨t10, [⟨0, true, [0], (w : Int), 0, 0, 0⟩, ⟨(ho : Int), true, [1], ((1 + x : Nat) : Int), 0, 0, 0⟩], none, rfl, g10.mono (by omega), rfl, fun l hl => ?_⟩
    rcases List.mem_cons.mp hl with e | hl
    · rw [e]
      exact ⟨Nat.le_of_ble_eq_true rfl, Nat.le_of_ble_eq_true rfl, fun i hi => by rw [List.mem_singleton.mp hi]; decide, by show 0 ≤ (w : Int); omega, by show (w : Int) ≤ 20; omega, Nat.le_of_ble_eq_true rfl⟩
    · rw [List.mem_singleton.mp hl]
      exact ⟨Nat.le_of_ble_eq_true rfl, Nat.le_of_ble_eq_true rfl, fun i hi => by rw [List.mem_singleton.mp hi]; decide, by show 0 ≤ ((1 + x : Nat) : Int); omega, by show ((1 + x : Nat) : Int) ≤ 20; omega, Nat.le_of_ble_eq_true rfl⟩
  · rintro j i ρ hj ⟨t11, ls', u8, rfl, g11, ll, lo⟩
    obtain ⟨hjl, rfl⟩ := upTo_at hj
    refine ⟨[some t11, some (.int (pan : Int)), some H, some G, some A, some B, some Z, some (.list (ls'.map eL)), some (.int (j : Int)), none], rfl, ?_⟩
    refine sp_app (ds0 := ls'.map eL) rfl (xp_map (ap_cons (xp_draw (ap_cons (xp_lift (r := .int (pan : Int)) rfl (ap_cons (xp_lift (r := .int 3) rfl (ap_one (xp_lift (r := .bool false) rfl ⟨_, _, _, _, _, rfl, rfl, g11, by omega, line_ok h1 h2 (nz := 3) (by decide) (by decide), fun r t12 ⟨l, el, ol⟩ g12 => ?_⟩)))))))))
    subst el
    refine ap_cons (xp_lift (r := .int 5) rfl (ap_one (xp_map (ap_one (xp_op (xp_take (b := 4) g12 (by omega) (by decide) (by decide) (xCons_lift rfl) fun a t13 ha g13 => xp_lift (r := .int 0) rfl ?_))))))
    obtain ⟨k, hk⟩ := gt_zero a
    refine ⟨.bool k, hk, .int ((if k = true then 1 else 0 : Nat) : Int), by cases k <;> rfl, eL { l with out := if k = true then 1 else 0 }, put_out l _, ls'.map eL, rfl, by rw [List.length_map]; omega, ?_⟩
    refine ⟨_, rfl, t13, ls' ++ [{ l with out := if k = true then 1 else 0 }], _, by rw [List.map_append] <;> rfl, g13.mono (by omega), by rw [List.length_append, ll, List.length_singleton]; omega, fun y hy => ?_⟩
    rcases List.mem_append.mp hy with hy | hy
    · exact lo y hy
    · rw [List.mem_singleton.mp hy]
      exact ⟨ol.lo, ol.hi, ol.zs, ol.w0, ol.w1, by show (if k = true then 1 else 0 : Nat) ≤ 1; cases k <;> decide⟩
  · rintro ρ ⟨t11, ls', u8, rfl, g11, ll, lo⟩
    rw [upTo_length] at ll g11
    have q1 : d1 mTuple (dSl (dVar 7) oNone (oSome (dC (.int 3)))) [none, some (.int (pan : Int)), some H, some G, some A, some B, some Z, some (.list (ls'.map eL)), u8, none] = some (.tuple ((ls'.take 3).map eL)) := by
      rw [d1_of (x := .list ((ls'.take 3).map eL)) (by
        show some (PyData.list (cutD (ls'.map eL) none (some ((3 : Nat) : Int)))) = _
        rw [cut_to _ (by rw [List.length_map]; omega), List.map_take])] <;> rfl
    have q2 : dOp bIx (dVar 2) (dC (.int 0)) [none, some (.int (pan : Int)), some H, some G, some A, some B, some Z, some (.list (ls'.map eL)), u8, none] = some (eW W) := by
      rw [dOp_of (x := H) (y := .int 0) rfl rfl, H0]
    refine sp_only (sp_ret (xp_lift (r := eH ⟨eW W, [⟨sp, 2⟩, ⟨sq, 1⟩, z1], ls'.take 3, pan⟩) ?_ ?_))
    · show dTup _ [none, some (.int (pan : Int)), some H, some G, some A, some B, some Z, some (.list (ls'.map eL)), u8, none] = _
      rw [dTup_of (cons_of q2 (cons_of (x := Z) rfl (cons_of q1 (cons_of (x := eN) rfl (cons_of (x := .int (pan : Int)) rfl (nil_of _)))))), ← hZ] <;> rfl
    · refine ⟨_, _, rfl, _, _, _, rfl, g11.mono (by omega), W, [⟨sp, 2⟩, ⟨sq, 1⟩, z1], ls'.take 3, rfl, ok.w, ⟨Nat.le_of_ble_eq_true rfl, Nat.le_of_ble_eq_true rfl, fun z hz => ?_, ?_, fun l hl => lo l (List.mem_of_mem_take hl)⟩, Nat.le_of_ble_eq_true rfl, by rw [List.length_take]; omega⟩
      · have hz : z ∈ [(⟨sp, 2⟩ : Zn), ⟨sq, 1⟩, z1] := hz
        rcases List.mem_cons.mp hz with e | hz
        · rw [e]; exact y0
        · rcases List.mem_cons.mp hz with e | hz
          · rw [e]; exact y1
          · rw [List.mem_singleton.mp hz]; exact y2
      · show (ls'.take 3).length ≤ 5
        rw [List.length_take]
        omega
/-! ### begins -/
theorem sortOk_ps {b : Rw} (hl : b.length ≤ 1000) : SortOk (b.map eP) := by
  refine ⟨fun x hx y hy => ?_, .inl fun x hx => ?_, by rw [List.length_map]; exact hl, fun x hx => ?_⟩
  · obtain ⟨p, _, rfl⟩ := List.mem_map.mp hx
    obtain ⟨q, _, rfl⟩ := List.mem_map.mp hy
    rfl
  · obtain ⟨p, _, rfl⟩ := List.mem_map.mp hx
    exact ⟨eS p.1, [.int p.2], rfl⟩
  · obtain ⟨p, _, rfl⟩ := List.mem_map.mp hx
    refine ⟨?_, rfl⟩
    have e : PyData.depth (eP p) = 2 := by simp [eP, eS, PyData.depth, PyData.depthAll]
    omega
def BegunP (r : PyData) : Prop := ∃ b, r = eR b ∧ BN b
theorem begun_ok {W : List Lp} {pan : Nat} (h1 : 1 ≤ pan) (w : WtOk W pan) : DrS m_law_begun 2000 [eW W, .int 6] BegunP := by
  refine drs_of rfl fun n t hg hn => ?_
  show SP s_law_begun [some t, some (eW W), some (.int 6), none, none, none] _
  unfold s_law_begun
  have fl := feelT_len w.w
  have f2 : 2 ≤ (feelT W).length := Nat.le_trans (w.two (p := 0) (by omega)) (List.length_filter_le _ _)
  refine sp_seq (sp_lift (ρ' := [none, some (eW W), some (.int 6), some (.list ((feelT W).map eS)), none, none]) ?_ ?_)
  · show dAsg _ _ [none, some (eW W), some (.int 6), none, none, none] = _
    rw [dAsg_of (x := .list ((feelT W).map eS)) (by rw [dCall1_of (x := eW W) rfl, m_law_feelers_eq w.w])] <;> rfl
  show SP _ [some t, some (eW W), some (.int 6), some (.list ((feelT W).map eS)), none, none] _
  have lm : d1 mLen (dVar 3) [none, some (eW W), some (.int 6), some (.list ((feelT W).map eS)), none, none] = some (.int ((feelT W).length : Nat)) := by
    rw [len_list (xs := (feelT W).map eS) rfl, List.length_map]
  refine sp_seq (sp_set (xp_draw (ap_cons (xp_lift (r := .list ((feelT W).map eS)) rfl (ap_one (xp_op (xp_lift lm (xp_take (b := 2) hg (by omega) (by decide) (by decide) (xCons_lift rfl) fun v t1 hv g1 => ⟨.int (((feelT W).length - v : Nat) : Int), ?_, _, _, _, _, _, rfl, rfl, g1, by omega, pick_ok (.inl rfl) (by rw [List.length_map]; omega) ((feelT W).length - v), fun r t2 hP g2 => ?_⟩))))))))
  · show some (PyData.int (((feelT W).length : Int) - (v : Int))) = _
    congr 2
    omega
  obtain ⟨sp, rest, rfl, pm, sl⟩ := pick_typed hP
  have nd : (sp ++ rest).Nodup := pm.nodup_iff.mpr ((feelT_so W).imp ltS.ne)
  have nz : sp.Nodup := (List.nodup_append.mp nd).1
  show SP _ [some t2, some (eW W), some (.int 6), some (.list ((feelT W).map eS)), some (.list (sp.map eS)), none] _
  generalize PyData.list ((feelT W).map eS) = G
  refine sp_ret (xp_map (ap_one (xp_map (ap_one (xp_lc (ap_lift (r := sp.map eS) ?_ ⟨fun ds ρ => ∃ (t : PyData) (b : Rw), ρ = [some t, some (eW W), some (.int 6), some G, some (.list (sp.map eS)), none] ∧ Gd (n + 1 + 900 + ds.length) t ∧ ds = b.map eP ∧ b.map (·.1) = sp.take ds.length ∧ ∀ p ∈ b, 0 ≤ p.2, ?_, ?_, ?_⟩))))))
  · exact iSeq_lst (xs := sp.map eS) rfl (by rw [List.length_map]; omega)
  · exact ⟨t2, [], rfl, g2, rfl, rfl, fun p hp => nomatch hp⟩
  · rintro x ds ρ hj ⟨t3, b, rfl, g3, rfl, bs, b0⟩
    have hjl : (b.map eP).length < sp.length := by
      have h9 := at_lt hj
      have h8 : (sp.map eS).length = sp.length := List.length_map ..
      omega
    rw [List.getElem?_map] at hj
    obtain ⟨s, hs, rfl⟩ := Option.map_eq_some_iff.mp hj
    refine ⟨[some t3, some (eW W), some (.int 6), some G, some (.list (sp.map eS)), some (eS s)], rfl, ?_⟩
    refine xp_map (ap_cons (xp_lift (r := eS s) rfl (ap_one (xp_take (b := 7) g3 (by omega) (by decide) (by decide) (xCons_lift rfl) fun v t4 hv g4 => ?_))))
    refine ⟨eP (s, (v : Int)), rfl, t4, b ++ [(s, (v : Int))], rfl, by rw [List.length_append]; exact g4, by rw [List.map_append] <;> rfl, ?_, fun p hp => ?_⟩
    · rw [List.map_append, bs, List.length_append, List.length_singleton, List.take_add_one, hs] <;> rfl
    · rcases List.mem_append.mp hp with hp | hp
      · exact b0 p hp
      · rw [List.mem_singleton.mp hp]
        show 0 ≤ (v : Int)
        omega
  · rintro ys ρ hl ⟨t3, b, rfl, g3, rfl, bs, b0⟩
    rw [List.length_map, List.length_map] at hl
    rw [List.length_map, hl, List.take_length] at bs
    rw [List.length_map, hl] at g3
    have pmB : ((b.map eP).mergeSort leD).Perm (b.map eP) := List.mergeSort_perm _ _
    obtain ⟨b', e1, p1⟩ := perm_map_inv pmB.symm b rfl
    refine ⟨.list (b'.map eP), by rw [mSorted_ok (sortOk_ps (by omega)), e1], eR b', rfl, ?_⟩
    refine ⟨_, _, _, rfl, g3.mono (by omega), b', rfl, fun p hp => b0 p (p1.mem_iff.mp hp), ?_, by rw [p1.length_eq]; omega⟩
    rw [(p1.map (·.1)).nodup_iff, bs]
    exact nz
end SK
set_option maxHeartbeats 2000000
/-! The plain law: right. -/
namespace SK
open PySem PySem.Spec PyProof.Rows L2
theorem sp_par3 {i j l : Nat} {d : DXA} {ρ : Rho} {Q : OutX → Prop} (h : AP d ρ fun xs ρ1 => ∃ x y z, xs = [x, y, z] ∧ Q (.nx (((ρ1.set i (some x)).set j (some y)).set l (some z)))) : SP (xPar3 i j l d) ρ Q := by
  obtain ⟨xs, ρ1, e1, x, y, z, rfl, k⟩ := h
  refine ⟨_, ?_, k⟩
  unfold xPar3
  rw [e1] <;> rfl
theorem test_ok {ρ : Rho} {so : Bool} {one two : Option Int} {many : Int} (h7 : dVar 7 ρ = some (.bool so)) (h11 : dVar 11 ρ = some (eO one)) (h12 : dVar 12 ρ = some (eO two)) (h5 : dVar 5 ρ = some (.int many)) (hs : so = true → ∀ a, one = some a → ∃ c, two = some c ∧ c ≤ a + many) :
    dAnd (dVar 7) (dAnd (dOp bNotN (dVar 11) (dC .none)) (dOr (dOp bIsN (dVar 12) (dC .none)) (dOp bGt (dVar 12) (dOp bPlus (dVar 11) (dVar 5))))) ρ = some (.bool false) := by
  unfold dAnd
  rw [h7]
  cases so with
  | false => rfl
  | true =>
    show ((dOp bNotN (dVar 11) (dC .none) ρ).bind _) = _
    rw [dOp_of h11 (y := .none) rfl]
    cases one with
    | none => rfl
    | some a =>
      obtain ⟨c, rfl, hc⟩ := hs rfl a rfl
      show dOr _ _ ρ = _
      unfold dOr
      rw [dOp_of h12 (y := .none) rfl]
      show dOp bGt (dVar 12) (dOp bPlus (dVar 11) (dVar 5)) ρ = _
      rw [dOp_of (x := .int c) (y := .int (a + many)) h12 (by rw [dOp_of h11 h5] <;> rfl)]
      show some (PyData.bool (decide (a + many < c))) = _
      rw [decide_eq_false (by omega)]
noncomputable def rightB2 : DSX := xSeq (xSet 10 (xDraw 0 3 m_law_begun (xCons (xLift [0] (dOp bIx (dVar 1) (dC (.int 0)))) (xCons (xLift [0] (dC (.int 6))) xNil)))) (xSeq (xsLift [0] (dPar 11 12 (dCons (dOp bIx (dCall 2 m_law_hours (dCons (dVar 1) (dCons (dVar 10) dNil))) (dVar 4)) (dCons (dCall 3 m_law_out_at (dCons (dVar 1) (dCons (dVar 10) (dCons (dVar 6) dNil)))) dNil)))) (xIfS (xLift [0] (dAnd (dVar 7) (dAnd (dOp bNotN (dVar 11) (dC .none)) (dOr (dOp bIsN (dVar 12) (dC .none)) (dOp bGt (dVar 12) (dOp bPlus (dVar 11) (dVar 5))))))) (xRet (xLift [0] (dC (.bool false)))) xNext))
theorem right_b2 {W : List Lp} {zs : List Zn} {ls : List Ln} {pan : Nat} (ok : HsOk W zs ls pan) (p1 : 1 ≤ pan) {h : Hs} (hh : h = ⟨eW W, zs, ls, pan⟩) {k i : Nat} {z : Zn} (hk : k ≤ 1) (hz : h.zs[i]? = some z) (many : Int) {m : Nat} {t : PyData} (hg : Gd m t) (hm : m + 2000 ≤ 1000000) (u2 u3 u8 u9 u10 u11 u12 : Option PyData) :
    SP rightB2 [some t, some (eH h), u2, u3, some (.int (i : Int)), some (.int many), some (.int (k : Int)), some (.bool (promptT (behindT h.zs h.ls k z) many)), u8, u9, u10, u11, u12] fun o => ∃ t' v10 v11 v12, o = .nx [some t', some (eH h), u2, u3, some (.int (i : Int)), some (.int many), some (.int (k : Int)), some (.bool (promptT (behindT h.zs h.ls k z) many)), u8, u9, v10, v11, v12] ∧ Gd (m + 2000) t' := by
  have hok : HOk h := by rw [hh]; exact ok.h
  have w0 : bIx (eH h) (.int 0) = some (eW W) := by rw [hh] <;> rfl
  have zm := List.mem_of_getElem? hz
  have il := at_lt hz
  unfold rightB2
  refine sp_seq (sp_set (xp_draw (ap_cons (xp_lift (r := eW W) ?_ (ap_one (xp_lift (r := .int 6) rfl ⟨_, _, _, _, _, rfl, rfl, hg, by omega, begun_ok p1 ok.w, fun r t1 ⟨b, eb, hb⟩ g1 => ?_⟩))))))
  · show dOp bIx (dVar 1) (dC (.int 0)) _ = _
    rw [dOp_of (x := eH h) (y := .int 0) rfl rfl, w0]
  subst eb
  show SP _ [some t1, some (eH h), u2, u3, some (.int (i : Int)), some (.int many), some (.int (k : Int)), some (.bool (promptT (behindT h.zs h.ls k z) many)), u8, u9, some (eR b), u11, u12] _
  have ha : askT b h.zs i = hourT b z := by
    unfold askT
    rw [hz]
  have q1 : dOp bIx (dCall 2 m_law_hours (dCons (dVar 1) (dCons (dVar 10) dNil))) (dVar 4) [none, some (eH h), u2, u3, some (.int (i : Int)), some (.int many), some (.int (k : Int)), some (.bool (promptT (behindT h.zs h.ls k z) many)), u8, u9, some (eR b), u11, u12] = some (eO (hourT b z)) := by
    rw [dOp_of (x := eHo (hoursT b h.zs)) (y := .int (i : Int)) (by rw [dCall2_of (x := eH h) (y := eR b) rfl rfl, m_law_hours_eq hok hb]) rfl, hours_at il, ha]
  have q2 : dCall 3 m_law_out_at (dCons (dVar 1) (dCons (dVar 10) (dCons (dVar 6) dNil))) [none, some (eH h), u2, u3, some (.int (i : Int)), some (.int many), some (.int (k : Int)), some (.bool (promptT (behindT h.zs h.ls k z) many)), u8, u9, some (eR b), u11, u12] = some (eO (outT b h.zs h.ls k)) := by
    rw [dCall3_of (x := eH h) (y := eR b) (z := .int (k : Int)) rfl rfl rfl, m_law_out_at_eq hok hb hk]
  refine sp_seq (sp_lift (ρ' := [none, some (eH h), u2, u3, some (.int (i : Int)), some (.int many), some (.int (k : Int)), some (.bool (promptT (behindT h.zs h.ls k z) many)), u8, u9, some (eR b), some (eO (hourT b z)), some (eO (outT b h.zs h.ls k))]) ?_ ?_)
  · show dPar 11 12 _ [none, some (eH h), u2, u3, some (.int (i : Int)), some (.int many), some (.int (k : Int)), some (.bool (promptT (behindT h.zs h.ls k z) many)), u8, u9, some (eR b), u11, u12] = _
    rw [dPar_of (cons_of q1 (cons_of q2 (nil_of _)))] <;> rfl
  show SP _ [some t1, some (eH h), u2, u3, some (.int (i : Int)), some (.int many), some (.int (k : Int)), some (.bool (promptT (behindT h.zs h.ls k z) many)), u8, u9, some (eR b), some (eO (hourT b z)), some (eO (outT b h.zs h.ls k))] _
  refine sp_ifS (xp_lift (r := .bool false) (test_ok rfl rfl rfl rfl fun hs a e => sound hok hb (hok.zs z zm) hs e) ⟨false, rfl, (fun q => nomatch q), fun _ => sp_next ?_⟩)
  exact ⟨t1, _, _, _, rfl, g1⟩
noncomputable def rightB : DSX := xSeq (xPar3 3 4 5 (xCons (xDraw 0 2 m_law_take (xCons (xLift [0] (d1 mLen (dOp bIx (dVar 1) (dC (.int 2))))) xNil)) (xCons (xDraw 0 2 m_law_take (xCons (xLift [0] (d1 mLen (dOp bIx (dVar 1) (dC (.int 1))))) xNil)) (xCons (xDraw 0 2 m_law_take (xCons (xLift [0] (dC (.int 5))) xNil)) xNil)))) (xSeq (xsLift [0] (dAsg (dOp bIx (dOp bIx (dOp bIx (dVar 1) (dC (.int 2))) (dVar 3)) (dC (.int 5))) (bName 6))) (xSeq (xIfS (xOp bGt (xDraw 0 2 m_law_take (xCons (xLift [0] (dC (.int 3))) xNil)) (xLift [0] (dC (.int 0)))) (xsLift [0] (dAsg (dOp bIx (dOp bIx (dOp bIx (dOp bIx (dVar 1) (dC (.int 2))) (dVar 3)) (dC (.int 2))) (dC (.int 0))) (bName 4))) xNext) (xSeq (xsLift [0] (dAsg (dCall 4 m_on_within (dCons (dCall 1 m_law_lists (dCons (dVar 1) dNil)) (dCons (dVar 6) (dCons (dVar 4) (dCons (dVar 5) dNil))))) (bName 7))) (xSeq (xsLift [0] (dAsg (dLst (dCons (dVar 7) (dCons (dCall 5 m_least_shorter (dCons (dVar 1) (dCons (dVar 3) (dCons (dVar 6) (dCons (dVar 4) (dCons (dVar 5) dNil)))))) dNil))) (bName 8))) (xSeq (xIfS (xLift [0] (dNot (dCall 2 m_law_same (dCons (dVar 8) (dCons (dLst (dCons (dCall 4 m_law_is_so (dCons (dVar 1) (dCons (dVar 6) (dCons (dVar 4) (dCons (dVar 5) dNil))))) (dCons (dCall 5 m_law_least_less (dCons (dVar 1) (dCons (dVar 3) (dCons (dVar 6) (dCons (dVar 4) (dCons (dVar 5) dNil)))))) dNil))) dNil))))) (xRet (xLift [0] (dC (.bool false)))) xNext) (xFor [0] (xiLift [0] (iRange (dCons (dC (.int 4)) dNil))) (bName 9) rightB2))))))
theorem s_law_right_eq : s_law_right = xSeq (xSet 1 (xDraw 0 2 m_law_rise (xCons (xOp bPlus (xLift [0] (dC (.int 1))) (xDraw 0 2 m_law_take (xCons (xLift [0] (dC (.int 2))) xNil))) xNil))) (xSeq (xFor [0] (xiLift [0] (iRange (dCons (dC (.int 4)) dNil))) (bName 2) rightB) (xRet (xLift [0] (dC (.bool true))))) := rfl
/-- a line and a zone -/
theorem right_tail {W : List Lp} {zs : List Zn} {ls : List Ln} {pan : Nat} (ok : HsOk W zs ls pan) (p1 : 1 ≤ pan) {h : Hs} (hh : h = ⟨eW W, zs, ls, pan⟩) {nn i : Nat} {l : Ln} {z : Zn} (hl : h.ls[nn]? = some l) (hz : h.zs[i]? = some z) (many : Int) {m : Nat} {t : PyData} (hg : Gd m t) (hm : m + 8000 ≤ 1000000) (u2 u7 u8 u9 u10 u11 u12 : Option PyData) :
    SP (xSeq (xsLift [0] (dAsg (dCall 4 m_on_within (dCons (dCall 1 m_law_lists (dCons (dVar 1) dNil)) (dCons (dVar 6) (dCons (dVar 4) (dCons (dVar 5) dNil))))) (bName 7))) (xSeq (xsLift [0] (dAsg (dLst (dCons (dVar 7) (dCons (dCall 5 m_least_shorter (dCons (dVar 1) (dCons (dVar 3) (dCons (dVar 6) (dCons (dVar 4) (dCons (dVar 5) dNil)))))) dNil))) (bName 8))) (xSeq (xIfS (xLift [0] (dNot (dCall 2 m_law_same (dCons (dVar 8) (dCons (dLst (dCons (dCall 4 m_law_is_so (dCons (dVar 1) (dCons (dVar 6) (dCons (dVar 4) (dCons (dVar 5) dNil))))) (dCons (dCall 5 m_law_least_less (dCons (dVar 1) (dCons (dVar 3) (dCons (dVar 6) (dCons (dVar 4) (dCons (dVar 5) dNil)))))) dNil))) dNil))))) (xRet (xLift [0] (dC (.bool false)))) xNext) (xFor [0] (xiLift [0] (iRange (dCons (dC (.int 4)) dNil))) (bName 9) rightB2))))
      [some t, some (eH h), u2, some (.int (nn : Int)), some (.int (i : Int)), some (.int many), some (.int (l.out : Int)), u7, u8, u9, u10, u11, u12] fun o => ∃ t' v2 v3 v4 v5 v6 v7 v8 v9 v10 v11 v12, o = .nx [some t', some (eH h), v2, v3, v4, v5, v6, v7, v8, v9, v10, v11, v12] ∧ Gd (m + 8000) t' := by
  have hok : HOk h := by rw [hh]; exact ok.h
  have ft : fitsT 9 (eH h) = true := by rw [hh]; exact fits_eH ok.w.w ok.h
  have te : tupD (eH h) = eH h := by rw [hh]; exact tup_eH
  have tw : m_tupled [eH h] = some (eH h) := by rw [m_tupled_eq ft, te]
  have wok : WOk h := ⟨tw⟩
  have tl : m_tupled [lstD (eH h)] = some (eH h) := by rw [m_tupled_eq (by rw [fits_lst]; exact ft), tup_lst, te]
  have lok := hok.ls l (List.mem_of_getElem? hl)
  have hk := lok.out
  generalize ek : l.out = k at hk ⊢
  generalize es : promptT (behindT h.zs h.ls k z) many = so
  generalize ed : leastT (fun d => promptT (behindT h.zs (shortT h.ls nn (d : Int)) k z) many) (List.range (l.wait + 1).toNat) = le
  have o1 : m_on_within [lstD (eH h), .int (k : Int), .int (i : Int), .int many] = some (.bool so) := by rw [m_on_within_eq wok hok tl hk hz, es]
  have o2 : m_least_shorter [eH h, .int (nn : Int), .int (k : Int), .int (i : Int), .int many] = some (eO le) := by rw [m_least_shorter_eq wok hok tw hl hk hz, ed]
  have o3 : m_law_is_so [eH h, .int (k : Int), .int (i : Int), .int many] = some (.bool so) := by rw [m_law_is_so_eq hok hk hz, es]
  have o4 : m_law_least_less [eH h, .int (nn : Int), .int (k : Int), .int (i : Int), .int many] = some (eO le) := by rw [m_law_least_less_eq hok hl hk hz, ed]
  refine sp_seq (sp_lift (ρ' := [none, some (eH h), u2, some (.int (nn : Int)), some (.int (i : Int)), some (.int many), some (.int (k : Int)), some (.bool so), u8, u9, u10, u11, u12]) ?_ ?_)
  · show dAsg _ _ [none, some (eH h), u2, some (.int (nn : Int)), some (.int (i : Int)), some (.int many), some (.int (k : Int)), u7, u8, u9, u10, u11, u12] = _
    rw [dAsg_of (x := .bool so) (by
      rw [dCallN_of (n := 4) (xs := [lstD (eH h), .int (k : Int), .int (i : Int), .int many]) (cons_of (by rw [dCall1_of (x := eH h) rfl, m_law_lists_eq ft]) rfl) rfl, o1])] <;> rfl
  show SP _ [some t, some (eH h), u2, some (.int (nn : Int)), some (.int (i : Int)), some (.int many), some (.int (k : Int)), some (.bool so), u8, u9, u10, u11, u12] _
  refine sp_seq (sp_lift (ρ' := [none, some (eH h), u2, some (.int (nn : Int)), some (.int (i : Int)), some (.int many), some (.int (k : Int)), some (.bool so), some (.list [.bool so, eO le]), u9, u10, u11, u12]) ?_ ?_)
  · show dAsg _ _ [none, some (eH h), u2, some (.int (nn : Int)), some (.int (i : Int)), some (.int many), some (.int (k : Int)), some (.bool so), u8, u9, u10, u11, u12] = _
    rw [dAsg_of (x := .list [.bool so, eO le]) (dLst_of (cons_of (x := .bool so) rfl (cons_of (by rw [dCallN_of (n := 5) (xs := [eH h, .int (nn : Int), .int (k : Int), .int (i : Int), .int many]) rfl rfl, o2]) (nil_of _))))] <;> rfl
  show SP _ [some t, some (eH h), u2, some (.int (nn : Int)), some (.int (i : Int)), some (.int many), some (.int (k : Int)), some (.bool so), some (.list [.bool so, eO le]), u9, u10, u11, u12] _
  have sm : m_law_same [.list [.bool so, eO le], .list [.bool so, eO le]] = some (.bool true) := m_law_same_eq (Nat.le_of_ble_eq_true rfl) (by cases le <;> rfl)
  refine sp_seq (sp_ifS (xp_lift (r := .bool false) ?_ ⟨false, rfl, (fun q => nomatch q), fun _ => sp_next ?_⟩))
  · show dNot _ [none, some (eH h), u2, some (.int (nn : Int)), some (.int (i : Int)), some (.int many), some (.int (k : Int)), some (.bool so), some (.list [.bool so, eO le]), u9, u10, u11, u12] = _
    unfold dNot
    rw [dCall2_of (x := .list [.bool so, eO le]) (y := .list [.bool so, eO le]) rfl (dLst_of (cons_of (by rw [dCallN_of (n := 4) (xs := [eH h, .int (k : Int), .int (i : Int), .int many]) rfl rfl, o3]) (cons_of (by rw [dCallN_of (n := 5) (xs := [eH h, .int (nn : Int), .int (k : Int), .int (i : Int), .int many]) rfl rfl, o4]) (nil_of _)))), sm] <;> rfl
  refine sp_for (ap_lift (r := upTo 4) rfl ⟨fun j ρ => ∃ (t : PyData) (w9 w10 w11 w12 : Option PyData), ρ = [some t, some (eH h), u2, some (.int (nn : Int)), some (.int (i : Int)), some (.int many), some (.int (k : Int)), some (.bool so), some (.list [.bool so, eO le]), w9, w10, w11, w12] ∧ Gd (m + 2000 * j) t, ⟨t, _, _, _, _, rfl, hg⟩, ?_, ?_⟩)
  · rintro j x ρ hj ⟨t2, w9, w10, w11, w12, rfl, g2⟩
    obtain ⟨hjl, rfl⟩ := upTo_at hj
    refine ⟨[some t2, some (eH h), u2, some (.int (nn : Int)), some (.int (i : Int)), some (.int many), some (.int (k : Int)), some (.bool so), some (.list [.bool so, eO le]), some (.int (j : Int)), w10, w11, w12], rfl, ?_⟩
    have b2 := right_b2 ok p1 hh hk hz many g2 (by omega) u2 (some (.int (nn : Int))) (some (.list [.bool so, eO le])) (some (.int (j : Int))) w10 w11 w12
    rw [es] at b2
    obtain ⟨o, e1, t3, v10, v11, v12, rfl, g3⟩ := b2
    exact ⟨_, e1, _, rfl, t3, _, v10, v11, v12, rfl, g3.mono (by omega)⟩
  · rintro ρ ⟨t2, w9, w10, w11, w12, rfl, g2⟩
    exact ⟨t2, _, _, _, _, _, _, _, _, _, _, _, rfl, g2⟩
theorem right_b {W : List Lp} {zs : List Zn} {ls : List Ln} {pan : Nat} (ok : HsOk W zs ls pan) (p1 : 1 ≤ pan) {h : Hs} (hh : h = ⟨eW W, zs, ls, pan⟩) {m : Nat} {t : PyData} (hg : Gd m t) (hm : m + 10000 ≤ 1000000) (u2 u3 u4 u5 u6 u7 u8 u9 u10 u11 u12 : Option PyData) :
    SP rightB [some t, some (eH h), u2, u3, u4, u5, u6, u7, u8, u9, u10, u11, u12] fun o => ∃ t' v2 v3 v4 v5 v6 v7 v8 v9 v10 v11 v12, o = .nx [some t', some (eH h), v2, v3, v4, v5, v6, v7, v8, v9, v10, v11, v12] ∧ Gd (m + 10000) t' := by
  have hok : HOk h := by rw [hh]; exact ok.h
  have i2 : bIx (eH h) (.int 2) = some (.tuple (h.ls.map eL)) := rfl
  have i1 : bIx (eH h) (.int 1) = some (.tuple (h.zs.map eZ)) := rfl
  have l1 : 1 ≤ h.ls.length := by rw [hh]; exact ok.l1
  have z1 : 1 ≤ h.zs.length := hok.z0
  have l5 := hok.l1
  have z5 := hok.z1
  unfold rightB
  refine sp_seq (sp_par3 (ap_cons (xp_take (b := h.ls.length) hg (by omega) (by omega) (by omega) (xCons_lift ?_) fun nn t1 hn g1 => ap_cons (xp_take (b := h.zs.length) g1 (by omega) (by omega) (by omega) (xCons_lift ?_) fun i t2 hi g2 => ap_one (xp_take (b := 5) g2 (by omega) (by decide) (by decide) (xCons_lift rfl) fun q t3 hq g3 => ⟨_, _, _, rfl, ?_⟩)))))
  · show d1 mLen (dOp bIx (dVar 1) (dC (.int 2))) [none, some (eH h), u2, u3, u4, u5, u6, u7, u8, u9, u10, u11, u12] = _
    rw [len_tup (xs := h.ls.map eL) (by rw [dOp_of (x := eH h) (y := .int 2) rfl rfl, i2]), List.length_map]
  · show d1 mLen (dOp bIx (dVar 1) (dC (.int 1))) [none, some (eH h), u2, u3, u4, u5, u6, u7, u8, u9, u10, u11, u12] = _
    rw [len_tup (xs := h.zs.map eZ) (by rw [dOp_of (x := eH h) (y := .int 1) rfl rfl, i1]), List.length_map]
  show SP _ [some t3, some (eH h), u2, some (.int (nn : Int)), some (.int (i : Int)), some (.int (q : Int)), u6, u7, u8, u9, u10, u11, u12] _
  have hl : h.ls[nn]? = some h.ls[nn] := List.getElem?_eq_getElem hn
  generalize h.ls[nn] = l at hl
  have lok := hok.ls l (List.mem_of_getElem? hl)
  have a1 : ∀ u4 u6, dOp bIx (dOp bIx (dVar 1) (dC (.int 2))) (dVar 3) [none, some (eH h), u2, some (.int (nn : Int)), u4, some (.int (q : Int)), u6, u7, u8, u9, u10, u11, u12] = some (eL l) := fun u4 u6 => by
    rw [dOp_of (x := .tuple (h.ls.map eL)) (y := .int (nn : Int)) (by rw [dOp_of (x := eH h) (y := .int 2) rfl rfl, i2]) rfl]
    exact bIx_map hl
  refine sp_seq (sp_lift (ρ' := [none, some (eH h), u2, some (.int (nn : Int)), some (.int (i : Int)), some (.int (q : Int)), some (.int (l.out : Int)), u7, u8, u9, u10, u11, u12]) ?_ ?_)
  · show dAsg _ _ [none, some (eH h), u2, some (.int (nn : Int)), some (.int (i : Int)), some (.int (q : Int)), u6, u7, u8, u9, u10, u11, u12] = _
    rw [dAsg_of (x := .int (l.out : Int)) (by rw [dOp_of (x := eL l) (y := .int 5) (a1 _ _) rfl] <;> rfl)] <;> rfl
  show SP _ [some t3, some (eH h), u2, some (.int (nn : Int)), some (.int (i : Int)), some (.int (q : Int)), some (.int (l.out : Int)), u7, u8, u9, u10, u11, u12] _
  have fin : ∀ (i : Nat) (t4 : PyData), i < h.zs.length → Gd (m + 1 + 1 + 1 + 1) t4 → _ := fun i t4 hi g4 => right_tail ok p1 hh hl (List.getElem?_eq_getElem hi) (q : Int) g4 (by omega) u2 u7 u8 u9 u10 u11 u12
  refine sp_seq (sp_ifS (xp_op (xp_take (b := 3) g3 (by omega) (by decide) (by decide) (xCons_lift rfl) fun v t4 hv g4 => xp_lift (r := .int 0) rfl ?_)))
  obtain ⟨k, hk⟩ := gt_zero v
  refine ⟨.bool k, hk, k, rfl, fun _ => ?_, fun _ => ?_⟩
  · obtain ⟨j, js, ej⟩ : ∃ j js, l.zs = j :: js := by
      have := lok.lo
      match l.zs, this with
      | j :: js, _ => exact ⟨j, js, rfl⟩
    have hj : j < h.zs.length := lok.zs j (by rw [ej]; exact List.mem_cons_self)
    refine sp_lift (ρ' := [none, some (eH h), u2, some (.int (nn : Int)), some (.int (j : Int)), some (.int (q : Int)), some (.int (l.out : Int)), u7, u8, u9, u10, u11, u12]) ?_ ?_
    · show dAsg _ _ [none, some (eH h), u2, some (.int (nn : Int)), some (.int (i : Int)), some (.int (q : Int)), some (.int (l.out : Int)), u7, u8, u9, u10, u11, u12] = _
      have a2 : dOp bIx (dOp bIx (dOp bIx (dVar 1) (dC (.int 2))) (dVar 3)) (dC (.int 2)) [none, some (eH h), u2, some (.int (nn : Int)), some (.int (i : Int)), some (.int (q : Int)), some (.int (l.out : Int)), u7, u8, u9, u10, u11, u12] = some (.tuple (l.zs.map eI)) := by
        rw [dOp_of (x := eL l) (y := .int 2) (a1 _ _) rfl] <;> rfl
      rw [dAsg_of (x := .int (j : Int)) (by
        rw [dOp_of (x := .tuple (l.zs.map eI)) (y := .int 0) a2 rfl, ej]
        exact bIx_map (i := 0) rfl)] <;> rfl
    · obtain ⟨o, e1, t', v2, v3, v4, v5, v6, v7, v8, v9, v10, v11, v12, rfl, g5⟩ := fin j t4 hj g4
      exact ⟨_, e1, t', v2, v3, v4, v5, v6, v7, v8, v9, v10, v11, v12, rfl, g5.mono (by omega)⟩
  · refine sp_next ?_
    obtain ⟨o, e1, t', v2, v3, v4, v5, v6, v7, v8, v9, v10, v11, v12, rfl, g5⟩ := fin i t4 hi g4
    exact ⟨_, e1, t', v2, v3, v4, v5, v6, v7, v8, v9, v10, v11, v12, rfl, g5.mono (by omega)⟩
theorem right_ok : DrS m_law_right 100000 [] fun r => r = .bool true := by
  refine drs_of rfl fun n t hg hn => ?_
  show SP s_law_right [some t, none, none, none, none, none, none, none, none, none, none, none, none] _
  rw [s_law_right_eq]
  refine sp_seq (sp_set (xp_draw (ap_one (xp_op (xp_lift (r := .int 1) rfl (xp_take (b := 2) hg (by omega) (by decide) (by decide) (xCons_lift rfl) fun v t1 hv g1 => ⟨.int ((1 + v : Nat) : Int), rfl, _, _, _, _, _, rfl, rfl, g1, by omega, rise_ok (pan := 1 + v) (by omega) (by omega), fun r t2 ⟨W, zs, ls, e, ok⟩ g2 => ?_⟩))))))
  subst e
  generalize hh : (⟨eW W, zs, ls, ((1 + v : Nat) : Int)⟩ : Hs) = h
  show SP _ [some t2, some (eH h), none, none, none, none, none, none, none, none, none, none, none] _
  refine sp_seq (sp_for (ap_lift (r := upTo 4) rfl ⟨fun j ρ => ∃ t' v2 v3 v4 v5 v6 v7 v8 v9 v10 v11 v12, ρ = [some t', some (eH h), v2, v3, v4, v5, v6, v7, v8, v9, v10, v11, v12] ∧ Gd (n + 1 + 30000 + 10000 * j) t', ⟨t2, _, _, _, _, _, _, _, _, _, _, _, rfl, g2⟩, ?_, ?_⟩))
  · rintro j x ρ hj ⟨t3, v2, v3, v4, v5, v6, v7, v8, v9, v10, v11, v12, rfl, g3⟩
    obtain ⟨hjl, rfl⟩ := upTo_at hj
    refine ⟨[some t3, some (eH h), some (.int (j : Int)), v3, v4, v5, v6, v7, v8, v9, v10, v11, v12], rfl, ?_⟩
    obtain ⟨o, e1, t', x2, x3, x4, x5, x6, x7, x8, x9, x10, x11, x12, rfl, g5⟩ := right_b ok (by omega) hh.symm g3 (by omega) (some (.int (j : Int))) v3 v4 v5 v6 v7 v8 v9 v10 v11 v12
    exact ⟨_, e1, _, rfl, t', x2, x3, x4, x5, x6, x7, x8, x9, x10, x11, x12, rfl, g5.mono (by omega)⟩
  · rintro ρ ⟨t3, v2, v3, v4, v5, v6, v7, v8, v9, v10, v11, v12, rfl, g3⟩
    rw [upTo_length] at g3
    exact sp_ret (xp_lift (r := .bool true) rfl ⟨_, _, _, rfl, g3.mono (by omega), rfl⟩)
theorem plain : Plain := by
  refine ⟨hand_right, fun x y _ _ _ => ?_⟩
  obtain ⟨r, t', e1, _, e2⟩ := right_ok 0 (.list [.int x, .int y, .int 0]) ⟨x, y, 0, rfl, Int.le_refl _, Int.le_refl _⟩ (by decide)
  rw [e2] at e1
  exact ⟨t', e1⟩
end SK
set_option maxHeartbeats 0
namespace SK
open PySem PySem.Spec PyProof.Rows L2
theorem facts (hPl : Plain) {P : Program} {w : World} {K : PySem.W.Frag} {h : Heap} {mg : Str → Option Value} {f : Addr} (X : K.In h) (G : h.Ns mainGlobals mg) (hfa : mg ("law" : Str) = some (.ref f)) (c : He.SaysD fas fns K) :
    ∃ fd : FuncData, (∀ (s : Shared) (v : Value), BindsTo s fd ⟨[v], []⟩ [("_law_script", v)]) ∧ ∀ base : Heap, K.In base → base.Ns mainGlobals mg → FnOk P w K mg base CX0 30 f fd ["_law_script"] (spLaw K) := by
  have M : Md K mg := ⟨⟨h, X, G⟩, c⟩
  obtain ⟨fd, F⟩ := c.def_ 62 (d := defAt "law" 82) rfl
  have e := hfa.symm.trans (He.glo_ok X G (c.fact 62 (f := .glo "law") rfl))
  cases e
  have b := FunD.bindsA (ps := ["_law_script"]) F fun _ _ _ _ _ _ us hl => match us, hl with | [_], _ => rfl
  exact ⟨fd, fun s v => b s [v] rfl, fun base _ _ => fn_law hPl M F⟩
end SK
open PySem PySem.W PySem.Calls PyProof.Rows
theorem holds_of (hPl : SK.Plain) : PySem.Challenge.rw_secondknock_k20_whole_the_least_change_o.Holds := by
  w_on; o_law
  refine HandSHeadRun.head_any (r := OpenLaw.row PySem.Challenge.rw_secondknock_k20_whole_the_least_change_o) (q := view (OpenLaw.row PySem.Challenge.rw_secondknock_k20_whole_the_least_change_o).prog [82]) (H := SK.hk) (ob := SK.ob) (M := 6000) (loose := SK.loose) (d := HandSHeadRun.topDef (OpenLaw.row PySem.Challenge.rw_secondknock_k20_whole_the_least_change_o).prog 82) (kwd := []) SK.ob_eq
    (by kernel_rfl) (fun s => by kernel_rfl) SK.run (by kernel_rfl) (by kernel_rfl) (by kernel_rfl) (by rfl) (by first | assumption | decide +kernel) (by decide +kernel) ⟨rfl, rfl, rfl, rfl, rfl, by decide +kernel⟩ ?hw ?hc
  case hw => w_witness2
  case hc =>
    refine L2.walk_ofE (l := PySem.Challenge.rw_secondknock_k20_whole_the_least_change_o) (n := 63) (k := 30) (x := "_law_script") (CX := L2.CX0) rfl (by decide) (by kernel_rfl) ⟨rfl, by decide, by decide⟩ ?F (fun _ _ _ _ z => z)
    intro w mg fa h Y G hmg0
    obtain ⟨K, KX, c⟩ := Y
    have hmg : mg ("law" : PySem.Str) = some (.ref fa) := by
      have e : (HandSHeadRun.topDef (OpenLaw.row PySem.Challenge.rw_secondknock_k20_whole_the_least_change_o).prog 82).name = ("law" : PySem.Str) := by kernel_rfl
      rw [← e]
      exact hmg0
    obtain ⟨fd, hb, hF⟩ := SK.facts hPl (P := (PySem.Challenge.rw_secondknock_k20_whole_the_least_change_o).prog) (w := w) KX G hmg c
    exact ⟨K, fd, SK.spLaw K, KX, hb, fun H a ns hl _ hS => ⟨a, ns, rfl, hS, by omega, fun _ => rfl⟩, hF⟩
theorem PySem.Challenge.cw_secondknock_k20_whole_the_least_change_o_holds : PySem.Challenge.rw_secondknock_k20_whole_the_least_change_o.Holds := by
  exact holds_of SK.plain
