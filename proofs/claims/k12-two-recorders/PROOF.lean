import PyProof.Rows.All
import Wide.All
import OpenK.AllK
import Wide.FinOn
import HandS.ForMost
import HandS.ForExc
import HandS.CallSlots
import HandS.IsInst
import HandS.TupAny
import HandS.Zip
import HandS.Conv
import HandS.Style
import HandS.Strs
import HandS.Deep
import HandS.TupMul
import KE.SortData
import KE.GoesMore
import HandS.EndBits
import HandS.ExcIs
import HandS.TupSets
import HandS.Flow
import KE.KDictSum
import KE.KDictDisplayH
import HandS.OwnEq
import HandS.More
import KE.KCallOwn
import PyProof.InstNe
import HandS.FStr
import HandS.Text
import HandS.RaiseMore
import PySem.Challenge.RW_cellstories_k12_whole_two_recorders
import KE.RegKIsAll
import KE.RegKTryMore
set_option Elab.async false
set_option linter.all false
set_option maxRecDepth 100000
set_option maxHeartbeats 4000000
namespace CP
open PySem PySem.Spec PyProof.Rows L2 HT
def TZ : Bool := true
def FT (o : Obj) : Prop := o.cls = .type "tuple" ∧ o.dict = none
def TupAt (H : Hp) (a : Addr) (xs : List V) : Prop := if TZ = true then ∃ o, H a = some (.frz o (.tup xs)) ∧ FT o else H a = some (.tup xs)
def NewT (H : Hp) (xs : List V) (Q : VK) : Prop := ∀ p o, H p = none → (∀ G : Hp, G p = some o → TupAt G p xs) → Q (.ref p) (upd H p o)
section
variable {X : Cx} {pins : List (Addr × Obj)} {σ : L2.St} {H : Hp} {s : Shared} {Q : VK}
theorem lay_tup {xs : List V} {its : List Value} {h1 : Heap} {t : Nat} (I : L2.Inv X pins σ H { s with heap := h1 }) (z : xs.length ≤ sizeLine) (r : Vals xs its) (q : NewT H xs Q) :
    EP X pins σ Q (.ref h1.objs.size) { s with heap := h1.push { cls := .type "tuple", data := .seq its.toArray }, toks := t } := by
  have hf : H h1.objs.size = none := I.hok.fresh (Nat.le_refl _)
  have nt : ObjOk X.prog X.w (upd H h1.objs.size (.tup xs)) (h1.push { cls := .type "tuple", data := .seq its.toArray }) h1.objs.size (.tup xs) := ⟨z, its, r, IsTup.new _ _⟩
  by_cases hz : TZ = true
  · refine ⟨.ref h1.objs.size, _, I.laid (t' := t) (o := .frz { cls := .type "tuple", data := .seq its.toArray } (.tup xs)) (fun b u e => Heap.get?_push_of_some _ e) (Nat.le_refl _) ⟨Heap.get?_push_size _ rfl, z, its, r, IsTup.new _ _⟩, rfl, q _ _ hf (fun G e => ?_)⟩
    unfold TupAt
    rw [if_pos hz]
    exact ⟨_, e, rfl, rfl⟩
  · refine ⟨.ref h1.objs.size, _, I.laid (t' := t) (o := .tup xs) (fun b u e => Heap.get?_push_of_some _ e) (Nat.le_refl _) nt, rfl, q _ _ hf (fun G e => ?_)⟩
    unfold TupAt
    rw [if_neg hz]
    exact e
theorem TupAt.same {H H' : Hp} {a : Addr} {xs : List V} (e : Same H H') (h : TupAt H a xs) : TupAt H' a xs := by
  unfold TupAt at h ⊢
  by_cases hz : TZ = true
  · rw [if_pos hz] at h ⊢
    obtain ⟨o, h1, h2⟩ := h
    exact ⟨o, e _ _ h1, h2⟩
  · rw [if_neg hz] at h ⊢
    exact e _ _ h
theorem TupAt.rd {H : Hp} {a : Addr} {xs : List V} (h : TupAt H a xs) : Rd H a (.tup xs) := by
  unfold TupAt at h
  by_cases hz : TZ = true
  · rw [if_pos hz] at h
    obtain ⟨o, h1, _⟩ := h
    exact .inr ⟨o, h1⟩
  · rw [if_neg hz] at h
    exact .inl h
theorem TupAt.ty {K : PySem.W.Frag} {H : Hp} {a : Addr} {xs : List V} (h : TupAt H a xs) : TyX K H (.ref a) (.type "tuple") := by
  rcases h.rd with h | ⟨o, h⟩
  · exact .base (.tup h)
  · exact .fTuple h
theorem pe_tupZ {es : List Expr} {t : TA} {x1} {pos : Pos} (h : PA X es t) : PE X (.Tuple es x1 pos) (fun σ H Q => t σ H fun xs H1 => xs.length ≤ sizeLine ∧ NewT H1 xs Q) := ⟨fun pins s σ H Q I hq => by
  refine wpAny_Tuple_spliced (thn (h.run pos pins s σ H _ I hq) fun us s1 z => ?_)
  obtain ⟨xs, H1, I1, r, z, q⟩ := z
  exact ⟨by rw [← r.length]; exact z, lay_tup (s := s1) (h1 := s1.heap) (t := s1.toks) I1 z r q⟩⟩
theorem op_catZ : OpR X (binaryOp .Add) (fun x y H Q => ∃ a b xs ys, x = .ref a ∧ y = .ref b ∧ SqT X.K H a xs ∧ SqT X.K H b ys ∧ xs.length + ys.length ≤ sizeLine ∧ (xs = [] → Q (.ref b) H) ∧ (xs ≠ [] → ys = [] → Q (.ref a) H) ∧ (xs ≠ [] → ys ≠ [] → NewT H (xs ++ ys) Q)) := by
  rintro pins s σ H x y v u Q I rx ry ⟨a, b, xs, ys, rfl, rfl, ha, hb, hz, q0, q1, q2⟩
  cases rx
  cases ry
  obtain ⟨its, r1, p1, _⟩ := I.tuple ha
  obtain ⟨its2, r2, p2, _⟩ := I.tuple hb
  by_cases hx : xs = []
  · subst hx
    cases r1
    exact cat_tup0 p1 p2 ⟨.ref b, H, I, rfl, q0 rfl⟩
  · refine cat_tup p1 p2 (fun e => hx (r1.nil_iff.mp e)) (fun e => ⟨.ref a, H, I, rfl, q1 hx (r2.nil_iff.mp e)⟩) (fun e => ?_) (by rw [← r1.length, ← r2.length]; exact hz)
    exact lay_tup (s := s) (h1 := s.heap) (t := s.toks) I (by rw [List.length_append]; exact hz) (r1.append r2) (q2 hx fun y => e (r2.nil_iff.mpr y))
theorem sl_tupZ : SlR X (fun x lo hi H Q => ∃ a xs, x = .ref a ∧ SqT X.K H a xs ∧ (sIx xs.length 0 lo = 0 ∧ sIx xs.length xs.length hi = xs.length → Q (.ref a) H) ∧ (¬ (sIx xs.length 0 lo = 0 ∧ sIx xs.length xs.length hi = xs.length) → NewT H (cutV xs lo hi) Q)) := by
  rintro pins s σ H x v vl vu lo hi sl Q I rx hs pl pu ⟨a, xs, rfl, hx, q1, q2⟩
  cases rx
  obtain ⟨its, r, ht, hz⟩ := I.tuple hx
  have hlen : its.toArray.size = xs.length := by rw [List.size_toArray]; exact r.length.symm
  refine ⟨"tuple", _, PyProof.Rows.slot_tuple_getitem.lookup, ht.typeIs, ?_⟩
  by_cases hw : sIx xs.length 0 lo = 0 ∧ sIx xs.length xs.length hi = xs.length
  · exact getItem_tuple_whole ht hs pl pu (by rw [hlen]; exact hw) ⟨.ref a, H, I, rfl, q1 hw⟩
  · refine getItem_tuple_cut ht hs pl pu (by rw [hlen]; exact hw) ?_ (by rw [hlen]; exact hz)
    rw [hlen]
    exact lay_tup (s := s) (h1 := s.heap) (t := s.toks) I (Nat.le_trans (cutV_length xs lo hi) hz) ((r.drop _).take _) (q2 hw)
theorem call_tupleZ : CallR X (.type "tuple") (fun xs H Q => ∃ p ys, xs = [.ref p] ∧ ((SqL X.K H p ys ∧ NewT H ys Q) ∨ (SqT X.K H p ys ∧ Q (.ref p) H))) := by
  rintro pins s σ H xs us Q I r ⟨p, ys, rfl, h⟩
  obtain ⟨u, rfl, rx⟩ := vals1 r
  cases rx
  rcases h with ⟨hq, q⟩ | ⟨hq, q⟩
  · obtain ⟨its, r', pl, hz⟩ := I.list hq
    have hn : its.toArray.size ≤ sizeLine := by rw [List.size_toArray, ← r'.length]; exact hz
    refine call_tuple_list pl.isList (fun h' kp => ?_) hn
    exact lay_tup (s := s) (h1 := h') (t := s.toks) (I.kept (t' := s.toks) kp) hz r' q
  · obtain ⟨its, r', pl, hz⟩ := I.tuple hq
    exact call_tuple_same pl ⟨.ref p, H, I, rfl, q⟩
theorem mt_indexZ (hu : X.A.units + 65 < cLine) : MtR X "tuple.index" (fun x xs H Q => ∃ (a : Addr) (y : V) (d : PyData) (ds : List PyData) (ys : List V) (j : Nat) (z : PyData), x = V.ref a ∧ xs = [y] ∧ SqT X.K H a ys ∧ DpAll X.K H ys ds ∧ Dp X.K H y d ∧
    SeqAt.shaped (.list ds) = true ∧ SeqAt.shaped d = true ∧ ds[j]? = some z ∧ PyData.eqv z d = true ∧ (∀ (m : Nat) (z' : PyData), m < j → ds[m]? = some z' → PyData.eqv z' d = false) ∧ Q (.int (j : Nat)) H) := by
  rintro pins s σ H x xs v us Q I rx rxs ⟨a, y, d, ds, ys, j, z, rfl, rfl, hl, ha, hy, sl, sd, hz, hzj, hno, q⟩
  cases rx
  obtain ⟨uy, rfl, ry⟩ := vals1 rxs
  obtain ⟨bs, r1⟩ := Dp.reads I d y uy hy ry
  have hxs : PyData.canLayAll0 ds = true := SeqAt.canLay_of_shaped sl
  obtain ⟨its, rv, ⟨⟨cls, dd, data, sls⟩, ho, hc, n, hdt⟩, hlen⟩ := I.tuple hl
  simp only at hc hdt
  subst hc hdt
  obtain ⟨as, h4⟩ := Dp.readsAll I ds _ its ha rv
  have hn : its.length = ds.length := SeqAt.ReadsAll.length ds its as h4
  have hmap : its.map (SeqAt.readOf s.heap) = ds := SeqAt.readsAll_map ds its as hxs h4
  obtain ⟨hjd, _⟩ := List.getElem?_eq_some_iff.mp hz
  have hj : j < its.toArray.size := by rw [List.size_toArray, hn]; exact hjd
  have rd : ∀ (m : Nat) (hm : m < its.toArray.size) (z' : PyData), ds[m]? = some z' → SeqAt.readOf s.heap its.toArray[m] = z' := fun m hm z' e => by
    have hml : m < its.length := by simpa using hm
    rw [← hmap, List.getElem?_map, List.getElem?_eq_getElem hml] at e
    have e' := Option.some.inj e
    simpa using e'
  refine call_meets PySem.F.slot_tuple_index ⟨_, ho, rfl⟩ PySem.F.entry_tuple_index (PySem.F.args_tuple_index_2 _ _) (TI.tuple_indexAt a its.toArray n dd sls uy (fun u => PyData.eqv (SeqAt.readOf s.heap u) d) j hj ?_ ?_)
    ⟨ho, SeqAt.items_eqAt (vs := its.toArray) (show ReadsAll s.heap its.toArray.toList ds as from h4) r1 hxs (SeqAt.canLay_of_shaped sd) (room_in_shaped sd hu), .int (j : Nat), H, I.tok _, ⟨_, rfl⟩, q⟩
  · show PyData.eqv (SeqAt.readOf s.heap its.toArray[j]) d = true
    rw [rd j hj z hz]
    exact hzj
  · intro m hm hmj
    have hmd : m < ds.length := by omega
    show PyData.eqv (SeqAt.readOf s.heap its.toArray[m]) d = false
    rw [rd m hm _ (List.getElem?_eq_getElem hmd)]
    exact hno m _ hmj (List.getElem?_eq_getElem hmd)
theorem pe_bmZ {o e : Expr} {es : List Expr} {to : TE} {t : TA} {name : Str} {apos cpos : Pos} {id : String} {r : V → List V → Hp → VK → Prop} (slot : Slot "tuple" name id) (hty : typeOf (.builtin id) = pure (.type "method_descriptor")) (hm : MtR X id r) (ho : PE X o to) (ha : PA X (e :: es) t)
    (hbase : attributeBase o name X.env (eval o X.env) = eval o X.env := by rfl) (hfew : ((backTo cpos (starEach (e :: es) X.env)).all (fun x => !x.1) && (backToKw cpos (keywordEach [] X.env)).all (fun x => x.1.isSome) && decide ((e :: es).length + ([] : List Keyword).length + (if ([] : List Keyword).isEmpty then 0 else 1) < 30)) = true := by rfl)
    (hline : (apos.endLine == cpos.line) = true := by rfl) (hs : starEach (e :: es) X.env = (false, eval e X.env) :: starEach es X.env := by rfl) (hplain : (backTo cpos (starEach es X.env)).any (·.1) = false := by rfl) :
    PE X (.Call (.Attribute o name apos) (e :: es) [] cpos) (fun σ H Q => to σ H fun x H1 => (∃ p ob xs, x = .ref p ∧ H1 p = some (.frz ob (.tup xs)) ∧ FT ob) ∧ t σ H1 fun vs H2 => r x vs H2 Q) := ⟨fun pins s σ H Q I h => by
  refine wpAny_Call_method_late hbase hfew hline rfl (thn (ho.run pins s σ H _ I h) fun v s1 z => ?_)
  obtain ⟨x, H1, I1, r1, ⟨p, ob, xs, rfl, hp, f1, f2⟩, q1⟩ := z
  cases r1
  obtain ⟨g1, _⟩ := I1.hok p _ hp
  refine ⟨"tuple", id, PySem.F.plainAttrs_tuple, slot, hty, ⟨ob, g1, f1⟩, fun a e => by cases e; exact ⟨ob, g1, f2⟩, ?_⟩
  have hA := ha.run cpos pins s1 σ H1 _ I1 q1
  rw [hs] at hA ⊢
  refine Calls.callWith_builtin (by show (false || (backTo cpos (starEach es X.env)).any (·.1)) = false; rw [hplain] <;> rfl) (Calls.evalArgs_plain (thn hA fun us s2 z => ?_))
  obtain ⟨vs, H2, I2, r2, q2⟩ := z
  exact hm pins s2 σ H2 (.ref p) vs (.ref p) us Q I2 rfl r2 q2⟩
end
end CP
namespace CP
open PySem L2
def LIM : Nat := 100000
theorem lim_line : LIM ≤ sizeLine := by decide
theorem lim_lt {n : Nat} (h : n < LIM) : n < sizeLine := Nat.lt_of_lt_of_le h lim_line
structure Ex where
  name : Str
  arg : Option PyData
inductive R (α : Type) where
  | ok (a : α)
  | exc (c : Ex)
  | bad
def R.bind {α β : Type} (x : R α) (k : α → R β) : R β :=
  match x with
  | .ok a => k a
  | .exc c => .exc c
  | .bad => .bad
@[simp] theorem R.bind_ok {α β : Type} (a : α) (k : α → R β) : (R.ok a).bind k = k a := rfl
@[simp] theorem R.bind_exc {α β : Type} (c : Ex) (k : α → R β) : (R.exc c).bind k = .exc c := rfl
@[simp] theorem R.bind_bad {α β : Type} (k : α → R β) : (R.bad).bind k = .bad := rfl
inductive SV where
  | d (x : PyData)
  | l (xs : List PyData)
  | m (kvs : List (List Int × PyData))
  | x (c : Ex)
  | r (ss : List PyData) (k : Int)
  | v (ss : List PyData) (k : Int)
abbrev EV := List (Option SV)
def SV.own : SV → Bool
  | .l _ => true
  | .m _ => true
  | .r _ _ => true
  | _ => false
mutual
inductive Dq (K : PySem.W.Frag) (H : Hp) : V → PyData → Prop
  | non : Dq K H .non .none
  | bl (b : Bool) : Dq K H (.bl b) (.bool b)
  | int (i : Int) : Dq K H (.int i) (.int i)
  | str (x : Str) : Dq K H (.str x) (.str x)
  | lst {a : Addr} {xs : List V} {ds : List PyData} : Rd H a (.lst xs) → ds.length ≤ LIM → DqAll K H xs ds → Dq K H (.ref a) (.list ds)
  | tup {a : Addr} {xs : List V} {ds : List PyData} : TupAt H a xs → ds.length ≤ LIM → DqAll K H xs ds → Dq K H (.ref a) (.tuple ds)
  | tupK {a : Addr} {xs : List V} {x : Str} {ds : List PyData} : SqT K H a xs → (PyData.str x :: ds).length ≤ LIM → DqAll K H xs (.str x :: ds) → Dq K H (.ref a) (.tuple (.str x :: ds))
inductive DqAll (K : PySem.W.Frag) (H : Hp) : List V → List PyData → Prop
  | nil : DqAll K H [] []
  | cons {v : V} {vs : List V} {d : PyData} {ds : List PyData} : Dq K H v d → DqAll K H vs ds → DqAll K H (v :: vs) (d :: ds)
end
section
variable {K : PySem.W.Frag} {H H' H0 H1 H2 : Hp}
theorem rd_same {a : Addr} {u : HO} (e : Same H H') (h : Rd H a u) : Rd H' a u := by
  rcases h with h | ⟨o, h⟩
  · exact .inl (e _ _ h)
  · exact .inr ⟨o, e _ _ h⟩
theorem sqt_same {a : Addr} {xs : List V} (e : Same H H') (h : SqT K H a xs) : SqT K H' a xs := by
  rcases h with h | h
  · exact .inl (rd_same e h)
  · exact .inr h
mutual
theorem Dq.same (e : Same H H') : ∀ {d : PyData} {v : V}, Dq K H v d → Dq K H' v d
  | .none, _, h => by cases h; exact .non
  | .bool _, _, h => by cases h; exact .bl _
  | .int _, _, h => by cases h; exact .int _
  | .str _, _, h => by cases h; exact .str _
  | .list _, _, h => by
    cases h with
    | lst a b c => exact .lst (rd_same e a) b (DqAll.same e c)
  | .tuple _, _, h => by
    cases h with
    | tup a b c => exact .tup (a.same e) b (DqAll.same e c)
    | tupK a b c => exact .tupK (sqt_same e a) b (DqAll.same e c)
  | .dict _, _, h => by cases h
theorem DqAll.same (e : Same H H') : ∀ {ds : List PyData} {vs : List V}, DqAll K H vs ds → DqAll K H' vs ds
  | [], _, h => by cases h; exact .nil
  | _ :: _, _, h => by
    cases h with
    | cons a b => exact .cons (Dq.same e a) (DqAll.same e b)
end
mutual
theorem Dq.dp : ∀ {d : PyData} {v : V}, Dq K H v d → Dp K H v d
  | .none, _, h => by cases h; exact .non
  | .bool _, _, h => by cases h; exact .bl _
  | .int _, _, h => by cases h; exact .int _
  | .str _, _, h => by cases h; exact .str _
  | .list _, _, h => by
    cases h with
    | lst a b c => exact .lst (.inl a) (DqAll.dp c)
  | .tuple _, _, h => by
    cases h with
    | tup a b c => exact .tup (.inl a.rd) (DqAll.dp c)
    | tupK a b c => exact .tup a (DqAll.dp c)
  | .dict _, _, h => by cases h
theorem DqAll.dp : ∀ {ds : List PyData} {vs : List V}, DqAll K H vs ds → DpAll K H vs ds
  | [], _, h => by cases h; exact .nil
  | _ :: _, _, h => by
    cases h with
    | cons a b => exact .cons (Dq.dp a) (DqAll.dp b)
end
theorem Dq.tupE {v : V} {ds : List PyData} (h : Dq K H v (.tuple ds)) : ∃ a xs, v = .ref a ∧ SqT K H a xs ∧ ds.length ≤ LIM ∧ DqAll K H xs ds := by
  cases h with
  | tup a b c => exact ⟨_, _, rfl, .inl a.rd, b, c⟩
  | tupK a b c => exact ⟨_, _, rfl, a, b, c⟩
theorem DqAll.length : ∀ {ds : List PyData} {vs : List V}, DqAll K H vs ds → vs.length = ds.length
  | [], _, h => by cases h; rfl
  | _ :: _, _, h => by
    cases h with
    | cons a b => rw [List.length_cons, List.length_cons, DqAll.length b]
theorem DqAll.get : ∀ {ds : List PyData} {vs : List V} {i : Nat} {d : PyData}, DqAll K H vs ds → ds[i]? = some d → ∃ v, vs[i]? = some v ∧ Dq K H v d
  | [], _, _, _, _, e => by simp at e
  | _ :: _, _, 0, _, h, e => by
    cases h with
    | cons a b => simp at e; subst e; exact ⟨_, rfl, a⟩
  | _ :: _, _, i + 1, d, h, e => by
    cases h with
    | cons a b =>
      obtain ⟨v, h1, h2⟩ := DqAll.get (i := i) (d := d) b (by simpa using e)
      exact ⟨v, by simpa using h1, h2⟩
theorem DqAll.getV : ∀ {ds : List PyData} {vs : List V} {i : Nat} {v : V}, DqAll K H vs ds → vs[i]? = some v → ∃ d, ds[i]? = some d ∧ Dq K H v d := fun {ds vs i v} h e => by
  have hl := h.length
  have hi : i < vs.length := (List.getElem?_eq_some_iff.mp e).1
  obtain ⟨v', h1, h2⟩ := h.get (i := i) (d := ds[i]'(by omega)) (by simp [show i < ds.length by omega])
  rw [e] at h1
  cases h1
  exact ⟨_, by simp [show i < ds.length by omega], h2⟩
theorem DqAll.append : ∀ {ds es : List PyData} {vs ws : List V}, DqAll K H vs ds → DqAll K H ws es → DqAll K H (vs ++ ws) (ds ++ es)
  | [], _, _, _, h, h2 => by cases h; exact h2
  | _ :: _, _, _, _, h, h2 => by
    cases h with
    | cons a b => exact .cons a (DqAll.append b h2)
theorem DqAll.take : ∀ {ds : List PyData} {vs : List V} (n : Nat), DqAll K H vs ds → DqAll K H (vs.take n) (ds.take n)
  | _, _, 0, _ => by simp; exact .nil
  | [], _, _ + 1, h => by cases h; exact .nil
  | _ :: _, _, n + 1, h => by
    cases h with
    | cons a b => exact .cons a (DqAll.take n b)
theorem DqAll.drop : ∀ {ds : List PyData} {vs : List V} (n : Nat), DqAll K H vs ds → DqAll K H (vs.drop n) (ds.drop n)
  | _, _, 0, h => h
  | [], _, _ + 1, h => by cases h; exact .nil
  | _ :: _, _, n + 1, h => by
    cases h with
    | cons a b => exact DqAll.drop n b
theorem DqAll.reverse {ds : List PyData} {vs : List V} (h : DqAll K H vs ds) : DqAll K H vs.reverse ds.reverse := by
  induction ds generalizing vs with
  | nil => cases h; exact .nil
  | cons d ds ih =>
    cases h with
    | cons a b =>
      rw [List.reverse_cons, List.reverse_cons]
      exact (ih b).append (.cons a .nil)
theorem DqAll.eraseIdx : ∀ {ds : List PyData} {vs : List V} (n : Nat), DqAll K H vs ds → DqAll K H (vs.eraseIdx n) (ds.eraseIdx n)
  | [], _, _, h => by cases h; exact .nil
  | _ :: _, _, 0, h => by
    cases h with
    | cons a b => exact b
  | _ :: _, _, n + 1, h => by
    cases h with
    | cons a b => exact .cons a (DqAll.eraseIdx n b)
theorem DqAll.of_get {ds : List PyData} {vs : List V} (hl : vs.length = ds.length) (h : ∀ (i : Nat) (v : V) (d : PyData), vs[i]? = some v → ds[i]? = some d → Dq K H v d) : DqAll K H vs ds := by
  induction ds generalizing vs with
  | nil =>
    cases vs with
    | nil => exact .nil
    | cons _ _ => simp at hl
  | cons d ds ih =>
    cases vs with
    | nil => simp at hl
    | cons v vs =>
      refine .cons (h 0 v d rfl rfl) (ih (by simpa using hl) fun i v' d' h1 h2 => h (i + 1) v' d' (by simpa using h1) (by simpa using h2))
end
def Hid (H : Hp) (p : Addr) : Prop := ∃ u, H p = some u ∧ ∀ xs, u ≠ .tup xs
theorem hid {H : Hp} {p : Addr} {u : HO} (h : H p = some u) (hu : ∀ xs, u ≠ .tup xs := by intro xs z; cases z) : Hid H p := ⟨u, h, hu⟩
theorem Hid.same {H H' : Hp} {p : Addr} (h : Hid H p) (e : Same H H') : Hid H' p := let ⟨u, h1, h2⟩ := h; ⟨u, e p u h1, h2⟩
theorem Hid.ne {H : Hp} {p : Addr} (h : Hid H p) : H p ≠ none := let ⟨u, h1, _⟩ := h; by rw [h1]; intro z; cases z
structure Grow (H H0 H' H0' : Hp) : Prop where
  a : Same H H'
  z : Same H0 H0'
  i : Same H0' H'
  f : ∀ p, Hid H p → H0 p = none → H0' p = none
section
variable {K : PySem.W.Frag} {H H0 H1 H01 H2 H02 : Hp}
theorem Grow.refl (h : Same H0 H) : Grow H H0 H H0 := ⟨Same.refl _, Same.refl _, h, fun _ _ e => e⟩
theorem same_some {H H' : Hp} (e : Same H H') {p : Addr} (h : H p ≠ none) : H' p ≠ none := by
  cases q : H p with
  | none => exact absurd q h
  | some o => rw [e p o q]; intro z; cases z
theorem Grow.trans (g : Grow H H0 H1 H01) (g' : Grow H1 H01 H2 H02) : Grow H H0 H2 H02 :=
  ⟨g.a.trans g'.a, g.z.trans g'.z, g'.i, fun p h e => g'.f p (h.same g.a) (g.f p h e)⟩
theorem same_new {H : Hp} {p : Addr} (h : H p = none) (o : HO) : Same H (upd H p o) := fun b u q => by rw [upd_ne (ne_of_none q h)]; exact q
theorem Grow.new (h : Same H0 H) {p : Addr} (hp : H p = none) (o : HO) : Grow H H0 (upd H p o) (upd H0 p o) := by
  have h0 : H0 p = none := h.free hp
  refine ⟨same_new hp o, same_new h0 o, fun b u q => ?_, fun b hb e => ?_⟩
  · by_cases z : b = p
    · subst z; rw [upd_same] at q ⊢; exact q
    · rw [upd_ne z] at q ⊢; exact h b u q
  · have z : b ≠ p := fun z => hb.ne (by rw [z]; exact hp)
    rw [upd_ne z]; exact e
theorem Grow.mine (h : Same H0 H) {p : Addr} (hp : H p = none) (o : HO) : Grow H H0 (upd H p o) H0 :=
  ⟨same_new hp o, Same.refl _, fun b u q => by rw [upd_ne (ne_of_none (h b u q) hp)]; exact h b u q, fun _ _ e => e⟩
end
structure Bs where
  h : Hp
  z : Hp
  x : Addr
  c : Option Ex
  s : Option Addr
abbrev bs (H H0 : Hp) : Bs := ⟨H, H0, 0, none, none⟩
abbrev bsR (H H0 : Hp) (p : Addr) : Bs := ⟨H, H0, 0, none, some p⟩
def ExR (K : PySem.W.Frag) (mg : Str → Option Value) (H : Hp) (c : Ex) (cls : Value) (d : Option Addr) : Prop :=
  mg c.name = some cls ∧ match c.arg with
    | none => d = none
    | some x => ∃ dd v, d = some dd ∧ H dd = some (.xd [("line", v)]) ∧ Dq K H v x
structure PX where
  K : PySem.W.Frag
  mg : Str → Option Value
  B : Bs
def Few (fs : List (Str × V)) : Prop := fs.length < 10 ∧ ∀ m : Str, m ≠ "steps" → m ≠ "kept" → fs.lookup m = none
def KeyD (K : PySem.W.Frag) (H0 : Hp) : List (List Int × PyData) → List (List Key × V) → Prop := Paired fun p q => q.1 = p.1.map Sum.inl ∧ Dq K H0 q.2 p.2
def VRep (C : PX) (H0 : Hp) (v : V) (ss : List PyData) (k : Int) : Prop := ∃ p c dx fs q xs, v = .ref p ∧ C.B.h p = some (.ins c dx fs) ∧ C.mg "Recorder" = some (.ref c) ∧ fs.lookup ("steps" : Str) = some (V.ref q) ∧ fs.lookup ("kept" : Str) = some (V.int k) ∧ Few fs ∧
  C.B.h q = some (.lst xs) ∧ ss.length ≤ LIM ∧ DqAll C.K H0 xs ss
theorem VRep.same {C : PX} {H0 H01 : Hp} {v : V} {ss : List PyData} {k : Int} (h : VRep C H0 v ss k) (e : Same H0 H01) : VRep C H01 v ss k := by
  obtain ⟨p, c, dx, fs, q, xs, h1, h2, h3, h4, h5, h6, h7, h8, h9⟩ := h
  exact ⟨p, c, dx, fs, q, xs, h1, h2, h3, h4, h5, h6, h7, h8, h9.same e⟩
def SVRep (C : PX) (H H0 : Hp) (v : V) : SV → Prop
  | .d x => Dq C.K H0 v x
  | .l ds => ∃ p xs, v = .ref p ∧ H p = some (.lst xs) ∧ H0 p = none ∧ C.B.h p = none ∧ ds.length ≤ LIM ∧ DqAll C.K H0 xs ds
  | .m kvs => ∃ p ws, v = .ref p ∧ H p = some (.dT ws) ∧ H0 p = none ∧ C.B.h p = none ∧ KeyD C.K H0 kvs ws
  | .x c => v = .ref C.B.x ∧ C.B.c = some c
  | .r ss k => ∃ p c dx fs q xs, v = .ref p ∧ H p = some (.ins c dx fs) ∧ C.mg "Recorder" = some (.ref c) ∧ (∀ a, C.B.s = some a → p = a) ∧ fs.lookup ("steps" : Str) = some (V.ref q) ∧ fs.lookup ("kept" : Str) = some (V.int k) ∧ Few fs ∧
    H q = some (.lst xs) ∧ H0 p = none ∧ H0 q = none ∧ C.B.h p = none ∧ C.B.h q = none ∧ ss.length ≤ LIM ∧ DqAll C.K H0 xs ss
  | .v ss k => VRep C H0 v ss k
def Own (H : Hp) (v : V) : SV → Addr → Prop
  | .l _, a => v = .ref a
  | .m _, a => v = .ref a
  | .r _ _, a => v = .ref a ∨ ∃ p c dx fs, v = .ref p ∧ H p = some (.ins c dx fs) ∧ fs.lookup ("steps" : Str) = some (V.ref a)
  | _, _ => False
theorem Own.own {H : Hp} {v : V} {sv : SV} {a : Addr} (h : Own H v sv a) : sv.own = true := by
  cases sv <;> first | rfl | exact h.elim
theorem Own.self {H : Hp} {v : V} {sv : SV} {a : Addr} (ho : sv.own = true) (h : v = .ref a) : Own H v sv a := by
  cases sv <;> first | exact h | exact .inl h | cases ho
theorem Own.back {C : PX} {H H0 H' : Hp} {v : V} {sv : SV} {a : Addr} (r : SVRep C H H0 v sv) (k : ∀ p o, v = .ref p → H p = some o → H' p = some o) (h : Own H' v sv a) : Own H v sv a := by
  cases sv with
  | d _ => exact h
  | l _ => exact h
  | m _ => exact h
  | x _ => exact h
  | v _ _ => exact h
  | r ss kk =>
    rcases h with h | ⟨p, c, dx, fs, e1, e2, e3⟩
    · exact .inl h
    · obtain ⟨p', c', dx', fs', q', xs', f1, f2, _⟩ := r
      subst f1
      cases e1
      have := k _ _ rfl f2
      rw [e2] at this
      cases this
      exact .inr ⟨_, _, _, _, rfl, f2, e3⟩
structure Rep (C : PX) (σ : St) (H H0 : Hp) (ρ : EV) : Prop where
  bas : Grow C.B.h C.B.z H H0
  len : σ.length = ρ.length
  at_ : ∀ (i : Nat) sv, ρ[i]? = some (some sv) → ∃ v, σ[i]? = some (some v) ∧ SVRep C H H0 v sv
  sep : ∀ (i j : Nat) si sj v w a, ρ[i]? = some (some si) → ρ[j]? = some (some sj) → σ[i]? = some (some v) → σ[j]? = some (some w) → Own H v si a → Own H w sj a → i = j
section
variable {C : PX} {σ : St} {H H0 H1 H01 : Hp} {ρ : EV}
theorem Rep.st (r : Rep C σ H H0 ρ) : Same H0 H := r.bas.i
theorem KeyD.same {K : PySem.W.Frag} {H0 H01 : Hp} (e : Same H0 H01) {kvs : List (List Int × PyData)} {ws : List (List Key × V)} (h : KeyD K H0 kvs ws) : KeyD K H01 kvs ws :=
  Paired.mapP h fun _ _ q => ⟨q.1, q.2.same e⟩
theorem SVRep.grow {v : V} {sv : SV} (h : SVRep C H H0 v sv) (g : Grow H H0 H1 H01) : SVRep C H1 H01 v sv := by
  cases sv with
  | d x => exact Dq.same g.z (show Dq C.K H0 v x from h)
  | l ds =>
    obtain ⟨p, xs, e, hp, h0, hb, hl, hd⟩ := h
    exact ⟨p, xs, e, g.a _ _ hp, g.f p (hid hp) h0, hb, hl, hd.same g.z⟩
  | m kvs =>
    obtain ⟨p, xs, e, hp, h0, hb, hd⟩ := h
    exact ⟨p, xs, e, g.a _ _ hp, g.f p (hid hp) h0, hb, hd.same g.z⟩
  | x c => exact h
  | v ss k => exact VRep.same h g.z
  | r ss k =>
    obtain ⟨p, c, dx, fs, q, xs, e, hp, hm, hz, hf1, hf2, hf3, hq, h0, h0q, hb, hbq, hl, hd⟩ := h
    exact ⟨p, c, dx, fs, q, xs, e, g.a _ _ hp, hm, hz, hf1, hf2, hf3, g.a _ _ hq, g.f p (hid hp) h0, g.f q (hid hq) h0q, hb, hbq, hl, hd.same g.z⟩
theorem Rep.at1 (r : Rep C σ H H0 ρ) {i : Nat} {sv : SV} {v : V} (e : ρ[i]? = some (some sv)) (es : σ[i]? = some (some v)) : SVRep C H H0 v sv := by
  obtain ⟨v', h1, h2⟩ := r.at_ i sv e
  rw [es] at h1
  cases h1
  exact h2
theorem Rep.sepB (r : Rep C σ H H0 ρ) {H' : Hp} {i j : Nat} {si sj : SV} {v w : V} {a : Addr} (h1 : ρ[i]? = some (some si)) (h2 : ρ[j]? = some (some sj)) (h3 : σ[i]? = some (some v)) (h4 : σ[j]? = some (some w))
    (k1 : ∀ p o, v = .ref p → H p = some o → H' p = some o) (k2 : ∀ p o, w = .ref p → H p = some o → H' p = some o) (o1 : Own H' v si a) (o2 : Own H' w sj a) : i = j :=
  r.sep i j si sj v w a h1 h2 h3 h4 (o1.back (r.at1 h1 h3) k1) (o2.back (r.at1 h2 h4) k2)
theorem Rep.sep0 (r : Rep C σ H H0 ρ) (i j : Nat) (si sj : SV) (p : Addr) (h1 : ρ[i]? = some (some si)) (h2 : ρ[j]? = some (some sj)) (h3 : σ[i]? = some (some (.ref p))) (h4 : σ[j]? = some (some (.ref p))) (o1 : si.own = true) (o2 : sj.own = true) : i = j :=
  r.sep i j si sj _ _ p h1 h2 h3 h4 (Own.self o1 rfl) (Own.self o2 rfl)
theorem Rep.grow (r : Rep C σ H H0 ρ) (g : Grow H H0 H1 H01) : Rep C σ H1 H01 ρ :=
  ⟨r.bas.trans g, r.len, fun i sv e => let ⟨v, h1, h2⟩ := r.at_ i sv e; ⟨v, h1, h2.grow g⟩, fun _ _ _ _ _ _ _ e1 e2 e3 e4 o1 o2 => r.sepB e1 e2 e3 e4 (fun p o _ q => g.a p o q) (fun p o _ q => g.a p o q) o1 o2⟩
end
def Wk (K : PySem.W.Frag) (s : Bool) (H H0 : Hp) (v : V) (d : PyData) : Prop :=
  Dq K H0 v d ∨ (s = false ∧ ∃ p xs ds, v = .ref p ∧ d = .list ds ∧ H p = some (.lst xs) ∧ ds.length ≤ LIM ∧ DqAll K H0 xs ds)
abbrev FE := EV → R PyData
def eO (C : PX) (W : WX) (s : Bool) (σ : St) (H H0 : Hp) (o : R PyData) (Q : VK) : Prop :=
  match o with
  | .ok d => ∀ v H' H0', Grow H H0 H' H0' → Wk C.K s H' H0' v d → Q v H'
  | .exc c => ∀ cls dd H' H0', Grow H H0 H' H0' → ExR C.K C.mg H' c cls dd → W cls dd σ H'
  | .bad => False
def eF (C : PX) (W : WX) (s : Bool) (f : FE) : TE := fun σ H Q => ∃ ρ H0, Rep C σ H H0 ρ ∧ eO C W s σ H H0 (f ρ) Q
def tO (C : PX) (W : WX) (σ : St) (H H0 : Hp) (o : R Bool) (Q : Bool → Hp → Prop) : Prop :=
  match o with
  | .ok b => ∀ H' H0', Grow H H0 H' H0' → Q b H'
  | .exc c => ∀ cls dd H' H0', Grow H H0 H' H0' → ExR C.K C.mg H' c cls dd → W cls dd σ H'
  | .bad => False
def tF (C : PX) (W : WX) (f : EV → R Bool) : TT := fun σ H Q => ∃ ρ H0, Rep C σ H H0 ρ ∧ tO C W σ H H0 (f ρ) Q
def aO (C : PX) (W : WX) (σ : St) (H H0 : Hp) (o : R (List PyData)) (Q : List V → Hp → Prop) : Prop :=
  match o with
  | .ok ds => ∀ vs H' H0', Grow H H0 H' H0' → DqAll C.K H0' vs ds → Q vs H'
  | .exc c => ∀ cls dd H' H0', Grow H H0 H' H0' → ExR C.K C.mg H' c cls dd → W cls dd σ H'
  | .bad => False
def aF (C : PX) (W : WX) (f : EV → R (List PyData)) : TA := fun σ H Q => ∃ ρ H0, Rep C σ H H0 ρ ∧ aO C W σ H H0 (f ρ) Q
section
variable {C : PX} {W : WX} {s : Bool} {σ : St} {H H0 H1 H01 : Hp} {ρ : EV}
theorem eO.grow {o : R PyData} {Q : VK} (h : eO C W s σ H H0 o Q) (g : Grow H H0 H1 H01) : eO C W s σ H1 H01 o Q := by
  cases o with
  | ok d => exact fun v H' H0' g' => h v H' H0' (g.trans g')
  | exc c => exact fun cls dd H' H0' g' => h cls dd H' H0' (g.trans g')
  | bad => exact h
theorem tO.grow {o : R Bool} {Q : Bool → Hp → Prop} (h : tO C W σ H H0 o Q) (g : Grow H H0 H1 H01) : tO C W σ H1 H01 o Q := by
  cases o with
  | ok d => exact fun H' H0' g' => h H' H0' (g.trans g')
  | exc c => exact fun cls dd H' H0' g' => h cls dd H' H0' (g.trans g')
  | bad => exact h
theorem aO.grow {o : R (List PyData)} {Q : List V → Hp → Prop} (h : aO C W σ H H0 o Q) (g : Grow H H0 H1 H01) : aO C W σ H1 H01 o Q := by
  cases o with
  | ok d => exact fun v H' H0' g' => h v H' H0' (g.trans g')
  | exc c => exact fun cls dd H' H0' g' => h cls dd H' H0' (g.trans g')
  | bad => exact h
theorem eO.val {d : PyData} {v : V} {Q : VK} (h : eO C W s σ H H0 (.ok d) Q) (hs : Same H0 H) (hd : Dq C.K H0 v d) : Q v H := h v H H0 (Grow.refl hs) (.inl hd)
theorem Wk.strong {K : PySem.W.Frag} {v : V} {d : PyData} (h : Wk K true H H0 v d) : Dq K H0 v d := by
  rcases h with h | ⟨e, _⟩
  · exact h
  · cases e
theorem Wk.of {K : PySem.W.Frag} {s : Bool} {v : V} {d : PyData} (h : Dq K H0 v d) : Wk K s H H0 v d := .inl h
theorem Wk.grow {K : PySem.W.Frag} {s : Bool} {v : V} {d : PyData} (h : Wk K s H H0 v d) (g : Grow H H0 H1 H01) : Wk K s H1 H01 v d := by
  rcases h with h | ⟨e, p, xs, ds, e1, e2, e3, e4, e5⟩
  · exact .inl (h.same g.z)
  · exact .inr ⟨e, p, xs, ds, e1, e2, g.a _ _ e3, e4, e5.same g.z⟩
theorem Wk.now {K : PySem.W.Frag} {s : Bool} {v : V} {d : PyData} (h : Wk K s H H0 v d) (i : Same H0 H) : Dq K H v d := by
  rcases h with h | ⟨e, p, xs, ds, rfl, rfl, e3, e4, e5⟩
  · exact h.same i
  · exact .lst (.inl e3) e4 (e5.same i)
theorem Wk.lst {K : PySem.W.Frag} {s : Bool} {v : V} {ds : List PyData} (h : Wk K s H H0 v (.list ds)) (i : Same H0 H) : ∃ a xs, v = .ref a ∧ Rd H a (.lst xs) ∧ ds.length ≤ LIM ∧ DqAll K H0 xs ds := by
  rcases h with h | ⟨e, p, xs, ds, rfl, e2, e3, e4, e5⟩
  · cases h with
    | lst a b c => exact ⟨_, _, rfl, rd_same i a, b, c⟩
  · cases e2
    exact ⟨p, xs, rfl, .inl e3, e4, e5⟩
theorem Wk.tup {K : PySem.W.Frag} {s : Bool} {v : V} {ds : List PyData} (h : Wk K s H H0 v (.tuple ds)) (i : Same H0 H) : ∃ a xs, v = .ref a ∧ SqT K H0 a xs ∧ ds.length ≤ LIM ∧ DqAll K H0 xs ds ∧ Dq K H0 v (.tuple ds) := by
  rcases h with h | ⟨e, p, xs, ds, rfl, e2, e3, e4, e5⟩
  · obtain ⟨a, xs, e, h1, h2, h3⟩ := h.tupE
    exact ⟨a, xs, e, h1, h2, h3, h⟩
  · cases e2
theorem Wk.int {K : PySem.W.Frag} {s : Bool} {v : V} {n : Int} (h : Wk K s H H0 v (.int n)) : v = .int n := by
  rcases h with h | ⟨e, p, xs, ds, rfl, e2, e3, e4, e5⟩
  · cases h; rfl
  · cases e2
theorem Wk.bl {K : PySem.W.Frag} {s : Bool} {v : V} {n : Bool} (h : Wk K s H H0 v (.bool n)) : v = .bl n := by
  rcases h with h | ⟨e, p, xs, ds, rfl, e2, e3, e4, e5⟩
  · cases h; rfl
  · cases e2
theorem Wk.str {K : PySem.W.Frag} {s : Bool} {v : V} {n : Str} (h : Wk K s H H0 v (.str n)) : v = .str n := by
  rcases h with h | ⟨e, p, xs, ds, rfl, e2, e3, e4, e5⟩
  · cases h; rfl
  · cases e2
theorem Wk.non {K : PySem.W.Frag} {s : Bool} {v : V} (h : Wk K s H H0 v .none) : v = .non := by
  rcases h with h | ⟨e, p, xs, ds, rfl, e2, e3, e4, e5⟩
  · cases h; rfl
  · cases e2
end
inductive Out where
  | next (ρ : EV)
  | brk (ρ : EV)
  | cont (ρ : EV)
  | ret (d : PyData)
  | exc (c : Ex) (ρ : EV)
  | bad
abbrev FS := EV → Out
def sO (C : PX) (W : WX) (H0 : Hp) (D : Ends) : Out → Prop
  | .next ρ => ∀ σ' H' H0', Same H0 H0' → Rep C σ' H' H0' ρ → D.nx σ' H'
  | .brk ρ => ∀ σ' H' H0', Same H0 H0' → Rep C σ' H' H0' ρ → D.bk σ' H'
  | .cont ρ => ∀ σ' H' H0', Same H0 H0' → Rep C σ' H' H0' ρ → D.ct σ' H'
  | .ret d => ∀ v H' H0', Grow C.B.h C.B.z H' H0' → Dq C.K H0' v d → D.rt v H'
  | .exc c ρ => ∀ cls dd σ' H' H0', Same H0 H0' → Rep C σ' H' H0' ρ → ExR C.K C.mg H' c cls dd → W cls dd σ' H'
  | .bad => False
def sF (C : PX) (W : WX) (g : FS) : TS := fun D σ H => ∃ ρ H0, Rep C σ H H0 ρ ∧ sO C W H0 D (g ρ)
theorem sO.grow {C : PX} {W : WX} {H0 H01 : Hp} {D : Ends} {o : Out} (h : sO C W H0 D o) (e : Same H0 H01) : sO C W H01 D o := by
  cases o with
  | next ρ => exact fun σ' H' H0' e' => h σ' H' H0' (e.trans e')
  | brk ρ => exact fun σ' H' H0' e' => h σ' H' H0' (e.trans e')
  | cont ρ => exact fun σ' H' H0' e' => h σ' H' H0' (e.trans e')
  | ret d => exact h
  | exc c ρ => exact fun cls dd σ' H' H0' e' => h cls dd σ' H' H0' (e.trans e')
  | bad => exact h
end CP
namespace L2
open PySem
section
variable {X : Cx}
theorem PE.weak {e : Expr} {t t' : TE} (h : PE X e t) (k : ∀ σ H Q, t' σ H Q → t σ H Q) : PE X e t' := ⟨fun pins s σ H Q I q => h.run pins s σ H Q I (k σ H Q q)⟩
theorem PT.weak {e : Expr} {t t' : TT} (h : PT X e t) (k : ∀ σ H Q, t' σ H Q → t σ H Q) : PT X e t' := ⟨fun pins s σ H Q I q => h.run pins s σ H Q I (k σ H Q q)⟩
theorem PW.weak {e : Expr} {t t' : TT} (h : PW X e t) (k : ∀ σ H Q, t' σ H Q → t σ H Q) : PW X e t' := ⟨fun wh pins s σ H Q I q => h.run wh pins s σ H Q I (k σ H Q q)⟩
theorem PA.weak {es : List Expr} {t t' : TA} (h : PA X es t) (k : ∀ σ H Q, t' σ H Q → t σ H Q) : PA X es t' := ⟨fun pos pins s σ H Q I q => h.run pos pins s σ H Q I (k σ H Q q)⟩
theorem PS.weak {st : Stmt} {t t' : TS} (h : PS X st t) (k : ∀ D σ H, t' D σ H → t D σ H) : PS X st t' := ⟨fun pins s σ H D I q => h.run pins s σ H D I (k D σ H q)⟩
theorem PSs.weak {st : List Stmt} {t t' : TS} (h : PSs X st t) (k : ∀ D σ H, t' D σ H → t D σ H) : PSs X st t' := ⟨fun pins s σ H D I q => h.run pins s σ H D I (k D σ H q)⟩
theorem PI.weak {tg it : Expr} {t t' : TI} (h : PI X tg it t) (k : ∀ σ H Q, t' σ H Q → t σ H Q) : PI X tg it t' := ⟨fun pins s σ H Q I q => h.run pins s σ H Q I (k σ H Q q)⟩
theorem PG.weak {tg : Expr} {t t' : TG} (h : PG X tg t) (k : ∀ v σ H Q, t' v σ H Q → t v σ H Q) : PG X tg t' := ⟨fun pins s σ H v u Q I r q => h.run pins s σ H v u Q I r (k v σ H Q q)⟩
theorem PE.or {e : Expr} {t t' : TE} (h : PE X e t) (h' : PE X e t') : PE X e (fun σ H Q => t σ H Q ∨ t' σ H Q) := ⟨fun pins s σ H Q I q => q.elim (h.run pins s σ H Q I) (h'.run pins s σ H Q I)⟩
theorem PI.or {tg it : Expr} {t t' : TI} (h : PI X tg it t) (h' : PI X tg it t') : PI X tg it (fun σ H Q => t σ H Q ∨ t' σ H Q) := ⟨fun pins s σ H Q I q => q.elim (h.run pins s σ H Q I) (h'.run pins s σ H Q I)⟩
end
end L2
namespace CP
open PySem L2
abbrev cx (X : Cx) (B : Bs) : PX := ⟨X.K, X.mg, B⟩
section
variable {X : Cx} {B : Bs} {W : WX} {s sa sb : Bool} {a b e : Expr} {fa fb f : FE} {pos : Pos}
theorem eO.seq {C : PX} {σ : St} {H H0 : Hp} {ρ : EV} {o : R PyData} {k : PyData → R PyData} {Q Q' : VK} (h : eO C W s σ H H0 (o.bind k) Q)
    (hk : ∀ d v H1 H01, Grow H H0 H1 H01 → Wk C.K sa H1 H01 v d → eO C W s σ H1 H01 (k d) Q → Q' v H1) : eO C W sa σ H H0 o Q' := by
  cases o with
  | ok d => exact fun v H1 H01 g w => hk d v H1 H01 g w (eO.grow h g)
  | exc c => exact h
  | bad => exact h
theorem eO.seqT {C : PX} {σ : St} {H H0 : Hp} {o : R PyData} {k : PyData → R Bool} {Q : Bool → Hp → Prop} {Q' : VK} (h : tO C W σ H H0 (o.bind k) Q)
    (hk : ∀ d v H1 H01, Grow H H0 H1 H01 → Wk C.K sa H1 H01 v d → tO C W σ H1 H01 (k d) Q → Q' v H1) : eO C W sa σ H H0 o Q' := by
  cases o with
  | ok d => exact fun v H1 H01 g w => hk d v H1 H01 g w (tO.grow h g)
  | exc c => exact h
  | bad => exact h
theorem aO.seq {C : PX} {σ : St} {H H0 : Hp} {o : R (List PyData)} {k : List PyData → R PyData} {Q : VK} {Q' : List V → Hp → Prop} (h : eO C W s σ H H0 (o.bind k) Q)
    (hk : ∀ ds vs H1 H01, Grow H H0 H1 H01 → DqAll C.K H01 vs ds → eO C W s σ H1 H01 (k ds) Q → Q' vs H1) : aO C W σ H H0 o Q' := by
  cases o with
  | ok d => exact fun v H1 H01 g w => hk d v H1 H01 g w (eO.grow h g)
  | exc c => exact h
  | bad => exact h
def eV (i : Nat) : FE := fun ρ => match ρ[i]? with
  | some (some (.d x)) => .ok x
  | _ => .bad
def eL (i : Nat) : FE := fun ρ => match ρ[i]? with
  | some (some (.l xs)) => .ok (.list xs)
  | _ => .bad
def eC (d : PyData) : FE := fun _ => .ok d
theorem d_v (i : Nat) {x : Str} (hN : X.N[i]? = some x := by rfl) (hv : Vis X.env.scope x := by first | exact Or.inl rfl | exact Or.inr (Or.inl rfl) | exact Or.inr (Or.inr rfl)) (hd : (x == ("__debug__" : Str)) = false := by decide)
    (hcd : (x == ("__classdict__" : Str)) = false := by decide) : PE X (.Name x pos) (eF (cx X B) W s (eV i)) := by
  refine (pe_var hN hv hd hcd).weak fun σ H Q ⟨ρ, H0, r, h⟩ => ?_
  cases q : ρ[i]? with
  | none => simp [eV, q, eO] at h
  | some o =>
    cases o with
    | none => simp [eV, q, eO] at h
    | some sv =>
      cases sv with
      | d x =>
        obtain ⟨v, e, hr⟩ := r.at_ i _ q
        simp only [eV, q] at h
        exact ⟨v, e, h.val r.st hr⟩
      | l _ => simp [eV, q, eO] at h
      | m _ => simp [eV, q, eO] at h
      | x _ => simp [eV, q, eO] at h
      | r _ _ => simp [eV, q, eO] at h
      | v _ _ => simp [eV, q, eO] at h
theorem d_l (i : Nat) {x : Str} (hN : X.N[i]? = some x := by rfl) (hv : Vis X.env.scope x := by first | exact Or.inl rfl | exact Or.inr (Or.inl rfl) | exact Or.inr (Or.inr rfl)) (hd : (x == ("__debug__" : Str)) = false := by decide)
    (hcd : (x == ("__classdict__" : Str)) = false := by decide) : PE X (.Name x pos) (eF (cx X B) W false (eL i)) := by
  refine (pe_var hN hv hd hcd).weak fun σ H Q ⟨ρ, H0, r, h⟩ => ?_
  cases q : ρ[i]? with
  | none => simp [eL, q, eO] at h
  | some o =>
    cases o with
    | none => simp [eL, q, eO] at h
    | some sv =>
      cases sv with
      | l ds =>
        obtain ⟨v, e, hr⟩ := r.at_ i _ q
        simp only [eL, q] at h
        obtain ⟨p, xs, e1, e2, e3, e4, e5, e6⟩ := hr
        exact ⟨v, e, h v H H0 (Grow.refl r.st) (.inr ⟨rfl, p, xs, ds, e1, rfl, e2, e5, e6⟩)⟩
      | d _ => simp [eL, q, eO] at h
      | m _ => simp [eL, q, eO] at h
      | x _ => simp [eL, q, eO] at h
      | r _ _ => simp [eL, q, eO] at h
      | v _ _ => simp [eL, q, eO] at h
theorem d_c {v : V} {d : PyData} (h : PE X e (tC v)) (hd : ∀ H, Dq X.K H v d) : PE X e (eF (cx X B) W s (eC d)) :=
  h.weak fun σ H Q ⟨ρ, H0, r, q⟩ => eO.val q r.st (hd H0)
theorem d_int {i : Int} {j} : PE X (.Constant (.int i) j pos) (eF (cx X B) W s (eC (.int i))) := d_c pe_int fun _ => .int _
theorem d_bl {i : Bool} {j} : PE X (.Constant (.bool i) j pos) (eF (cx X B) W s (eC (.bool i))) := d_c pe_bl fun _ => .bl _
theorem d_non {j} : PE X (.Constant .none j pos) (eF (cx X B) W s (eC .none)) := d_c pe_non fun _ => .non
theorem d_str {x} {j} : PE X (.Constant (.str x) j pos) (eF (cx X B) W s (eC (.str x))) := d_c pe_str fun _ => .str _
theorem d_gl {x : Str} {v : V} {u : Value} {d : PyData} (hm : X.mg x = some u) (r : RelV v u) (hv : ∀ H, Dq X.K H v d) (hg : Gl X x := by rfl) (hd : (x == ("__debug__" : Str)) = false := by decide) : PE X (.Name x pos) (eF (cx X B) W s (eC d)) := d_c (pe_glob hg hm r hd) hv
theorem d_weak (h : PE X e (eF (cx X B) W true f)) : PE X e (eF (cx X B) W s f) := h.weak fun σ H Q ⟨ρ, H0, r, q⟩ => ⟨ρ, H0, r, by
  revert q
  cases f ρ with
  | ok d => exact fun q v H' H0' g w => q v H' H0' g (.of w.strong)
  | exc c => exact fun q => q
  | bad => exact fun q => q⟩
def e2 (op : PyData → PyData → R PyData) (a b : FE) : FE := fun ρ => (a ρ).bind fun x => (b ρ).bind fun y => op x y
def OpD (X : Cx) (f : Value → Value → Sem Value) (op : PyData → PyData → R PyData) : Prop :=
  ∃ r, OpR X f r ∧ ∀ (B : Bs) (W : WX) (sa sb : Bool) (σ : St) (x y : V) (d e : PyData) (H H0 : Hp) (Q : VK), Same H0 H → Wk X.K sa H H0 x d → Wk X.K sb H H0 y e → eO (cx X B) W true σ H H0 (op d e) Q → r x y H Q
theorem tOp_of {r : R2} {op : PyData → PyData → R PyData} (hr : ∀ (B : Bs) (W : WX) (sa sb : Bool) (σ : St) (x y : V) (d e : PyData) (H H0 : Hp) (Q : VK), Same H0 H → Wk X.K sa H H0 x d → Wk X.K sb H H0 y e → eO (cx X B) W true σ H H0 (op d e) Q → r x y H Q)
    {σ : St} {H : Hp} {Q : VK} (h : eF (cx X B) W true (e2 op fa fb) σ H Q) : tOp r (eF (cx X B) W sa fa) (eF (cx X B) W sb fb) σ H Q := by
  obtain ⟨ρ, H0, rp, h⟩ := h
  refine ⟨ρ, H0, rp, eO.seq (ρ := ρ) h fun d v H1 H01 g w h1 => ?_⟩
  refine ⟨ρ, H01, rp.grow g, eO.seq (ρ := ρ) h1 fun d' v' H2 H02 g' w' h2 => ?_⟩
  exact hr B W sa sb σ v v' d d' H2 H02 Q g'.i (w.grow g') w' h2
theorem d_op {op : Operator} {o : PyData → PyData → R PyData} (ho : OpD X (binaryOp op) o) (ha : PE X a (eF (cx X B) W sa fa)) (hb : PE X b (eF (cx X B) W sb fb)) : PE X (.BinOp a op b pos) (eF (cx X B) W true (e2 o fa fb)) := by
  obtain ⟨r, h1, h2⟩ := ho
  exact (pe_op h1 ha hb).weak fun σ H Q h => tOp_of h2 h
theorem d_cmp {op : CmpOp} {o : PyData → PyData → R PyData} (ho : OpD X (compareOp op) o) (ha : PE X a (eF (cx X B) W sa fa)) (hb : PE X b (eF (cx X B) W sb fb)) (hm : behindInMarks op b = false := by first | exact nomark _ | rfl) : PE X (.Compare a [op] [b] pos) (eF (cx X B) W true (e2 o fa fb)) := by
  obtain ⟨r, h1, h2⟩ := ho
  exact (pe_cmpR h1 ha hb hm).weak fun σ H Q h => tOp_of h2 h
def asB : PyData → R Bool
  | .bool b => .ok b
  | _ => .bad
def truthD : PyData → R Bool
  | .none => .ok false
  | .bool b => .ok b
  | .int i => .ok (i != 0)
  | .str x => if x.length ≤ LIM then .ok ((x.length : Int) != 0) else .bad
  | .list ds => .ok (!ds.isEmpty)
  | .tuple ds => .ok (!ds.isEmpty)
  | .dict _ => .bad
def tV (f : FE) : EV → R Bool := fun ρ => (f ρ).bind truthD
def tB (f : FE) : EV → R Bool := fun ρ => (f ρ).bind asB
theorem isEmpty_eq {K : PySem.W.Frag} {H : Hp} {xs : List V} {ds : List PyData} (h : DqAll K H xs ds) : xs.isEmpty = ds.isEmpty := by cases h <;> rfl
theorem d_truth (ha : PE X a (eF (cx X B) W s fa)) (he : ∀ whole, isTrue a X.env whole = (do let v ← whole; standAt a.pos; holding [v] (truthy v)) := by intro _; rfl) : PT X a (tF (cx X B) W (tV fa)) := by
  refine (pt_truth ha he).weak fun σ H Q ⟨ρ, H0, r, h⟩ => ⟨ρ, H0, r, eO.seqT h fun d v H1 H01 g w h1 => ?_⟩
  have go : ∀ {k : Bool}, truthD d = .ok k → Q k H1 := fun {k} q => by rw [q] at h1; exact h1 H1 H01 (Grow.refl g.i)
  cases d with
  | none => rw [w.non]; exact ⟨false, rfl, go rfl⟩
  | bool b => rw [w.bl]; exact ⟨b, rfl, go rfl⟩
  | int i => rw [w.int]; exact ⟨_, rfl, go rfl⟩
  | str x =>
    rw [w.str]
    by_cases hx : x.length ≤ LIM
    · exact ⟨_, ⟨Nat.le_trans hx lim_line, rfl⟩, go (by simp [truthD, hx])⟩
    · simp [truthD, hx, tO] at h1
  | list ds =>
    obtain ⟨p, xs, rfl, hr, _, hd⟩ := w.lst g.i
    exact ⟨!xs.isEmpty, .inl ⟨xs, .inl hr, rfl⟩, go (by rw [isEmpty_eq hd]; rfl)⟩
  | tuple ds =>
    obtain ⟨p, xs, rfl, hr, _, hd, _⟩ := w.tup g.i
    exact ⟨!xs.isEmpty, .inr (.inl ⟨xs, sqt_same g.i hr, rfl⟩), go (by rw [isEmpty_eq hd]; rfl)⟩
  | dict _ => exact h1.elim
theorem d_tcmp {op : CmpOp} {o : PyData → PyData → R PyData} (ho : OpD X (compareOp op) o) (ha : PE X a (eF (cx X B) W sa fa)) (hb : PE X b (eF (cx X B) W sb fb)) (hm : behindInMarks op b = false := by first | exact nomark _ | rfl) : PT X (.Compare a [op] [b] pos) (tF (cx X B) W (tB (e2 o fa fb))) := by
  obtain ⟨r, h1, h2⟩ := ho
  refine (pt_cmpR h1 ha hb hm).weak fun σ H Q ⟨ρ, H0, rp, h⟩ => ?_
  refine tOp_of (B := B) (W := W) h2 ⟨ρ, H0, rp, eO.seqT h fun d v H1 H01 g w q => ?_⟩
  cases d with
  | bool b => exact ⟨b, w.bl, q H1 H01 (Grow.refl g.i)⟩
  | _ => exact False.elim q
theorem d_tval (ha : PE X a (eF (cx X B) W s fa)) (he : ∀ whole, isTrue a X.env whole = (do let v ← whole; standAt a.pos; holding [v] (truthy v)) := by intro _; rfl) : PT X a (tF (cx X B) W (tB fa)) := by
  refine (pt_val ha he).weak fun σ H Q ⟨ρ, H0, rp, h⟩ => ⟨ρ, H0, rp, eO.seqT h fun d v H1 H01 g w q => ?_⟩
  cases d with
  | bool b => exact ⟨b, w.bl, q H1 H01 (Grow.refl g.i)⟩
  | _ => exact False.elim q
variable {ta tb : EV → R Bool} {rest : List Expr}
theorem tO.seq {C : PX} {σ : St} {H H0 : Hp} {o : R Bool} {k : Bool → R Bool} {Q Q' : Bool → Hp → Prop} (h : tO C W σ H H0 (o.bind k) Q)
    (hk : ∀ d H1 H01, Grow H H0 H1 H01 → tO C W σ H1 H01 (k d) Q → Q' d H1) : tO C W σ H H0 o Q' := by
  cases o with
  | ok d => exact fun H1 H01 g => hk d H1 H01 g (tO.grow h g)
  | exc c => exact h
  | bad => exact h
theorem tO.seqE {C : PX} {σ : St} {H H0 : Hp} {o : R Bool} {k : Bool → R PyData} {Q : VK} {Q' : Bool → Hp → Prop} (h : eO C W s σ H H0 (o.bind k) Q)
    (hk : ∀ d H1 H01, Grow H H0 H1 H01 → eO C W s σ H1 H01 (k d) Q → Q' d H1) : tO C W σ H H0 o Q' := by
  cases o with
  | ok d => exact fun H1 H01 g => hk d H1 H01 g (eO.grow h g)
  | exc c => exact h
  | bad => exact h
def tAndF (a b : EV → R Bool) : EV → R Bool := fun ρ => (a ρ).bind fun x => if x = true then b ρ else .ok false
def tOrF (a b : EV → R Bool) : EV → R Bool := fun ρ => (a ρ).bind fun x => if x = true then .ok true else b ρ
def tNotF (a : EV → R Bool) : EV → R Bool := fun ρ => (a ρ).bind fun x => .ok (!x)
theorem w_and1 (ha : PT X a (tF (cx X B) W ta)) : PW X (.BoolOp .And [a] pos) (tF (cx X B) W ta) := pw_and1 ha
theorem w_or1 (ha : PT X a (tF (cx X B) W ta)) : PW X (.BoolOp .Or [a] pos) (tF (cx X B) W ta) := pw_or1 ha
theorem w_and (ha : PT X a (tF (cx X B) W ta)) (hb : PW X (.BoolOp .And (b :: rest) pos) (tF (cx X B) W tb)) : PW X (.BoolOp .And (a :: b :: rest) pos) (tF (cx X B) W (tAndF ta tb)) := by
  refine (pw_and ha hb).weak fun σ H Q ⟨ρ, H0, rp, h⟩ => ⟨ρ, H0, rp, tO.seq h fun c H1 H01 g q => ?_⟩
  cases c with
  | true => exact ⟨ρ, H01, rp.grow g, q⟩
  | false => exact q H1 H01 (Grow.refl g.i)
theorem w_or (ha : PT X a (tF (cx X B) W ta)) (hb : PW X (.BoolOp .Or (b :: rest) pos) (tF (cx X B) W tb)) : PW X (.BoolOp .Or (a :: b :: rest) pos) (tF (cx X B) W (tOrF ta tb)) := by
  refine (pw_or ha hb).weak fun σ H Q ⟨ρ, H0, rp, h⟩ => ⟨ρ, H0, rp, tO.seq h fun c H1 H01 g q => ?_⟩
  cases c with
  | true => exact q H1 H01 (Grow.refl g.i)
  | false => exact ⟨ρ, H01, rp.grow g, q⟩
theorem t_not (ha : PT X a (tF (cx X B) W ta)) : PT X (.UnaryOp .Not a pos) (tF (cx X B) W (tNotF ta)) := by
  refine (pt_not ha).weak fun σ H Q ⟨ρ, H0, rp, h⟩ => ⟨ρ, H0, rp, tO.seq h fun c H1 H01 g q => ?_⟩
  exact q H1 H01 (Grow.refl g.i)
def eAnd (a b : FE) : FE := fun ρ => (tB a ρ).bind fun x => if x = true then b ρ else .ok (.bool false)
def eOr (a b : FE) : FE := fun ρ => (tB a ρ).bind fun x => if x = true then .ok (.bool true) else b ρ
def eNot (a : FE) : FE := fun ρ => (tB a ρ).bind fun x => .ok (.bool (!x))
theorem eO.asB {C : PX} {σ : St} {H H0 : Hp} {o : R PyData} {k : Bool → R PyData} {Q Q' : VK} (h : eO C W s σ H H0 ((o.bind CP.asB).bind k) Q)
    (hk : ∀ c H1 H01, Grow H H0 H1 H01 → eO C W s σ H1 H01 (k c) Q → Q' (.bl c) H1) : eO C W sa σ H H0 o Q' := by
  cases o with
  | ok d =>
    intro v H1 H01 g w
    cases d with
    | bool b => rw [w.bl]; exact hk b H1 H01 g (eO.grow (show eO C W s σ H H0 (k b) Q from h) g)
    | _ => exact False.elim h
  | exc c => exact h
  | bad => exact h
theorem d_one {op} (h : PE X a (eF (cx X B) W s fa)) : PE X (.BoolOp op [a] pos) (eF (cx X B) W s fa) := pe_one h
theorem d_and (ha : PE X a (eF (cx X B) W sa fa)) (hb : PE X (.BoolOp .And (b :: rest) pos) (eF (cx X B) W s fb)) : PE X (.BoolOp .And (a :: b :: rest) pos) (eF (cx X B) W s (eAnd fa fb)) := by
  refine (pe_and ha hb).weak fun σ H Q ⟨ρ, H0, rp, h⟩ => ⟨ρ, H0, rp, eO.asB h fun c H1 H01 g q => ⟨c, rfl, ?_⟩⟩
  cases c with
  | true => exact ⟨ρ, H01, rp.grow g, q⟩
  | false => exact eO.val q g.i (.bl false)
theorem d_or (ha : PE X a (eF (cx X B) W sa fa)) (hb : PE X (.BoolOp .Or (b :: rest) pos) (eF (cx X B) W s fb)) : PE X (.BoolOp .Or (a :: b :: rest) pos) (eF (cx X B) W s (eOr fa fb)) := by
  refine (pe_or ha hb).weak fun σ H Q ⟨ρ, H0, rp, h⟩ => ⟨ρ, H0, rp, eO.asB h fun c H1 H01 g q => ⟨c, rfl, ?_⟩⟩
  cases c with
  | true => exact eO.val q g.i (.bl true)
  | false => exact ⟨ρ, H01, rp.grow g, q⟩
theorem d_not (ha : PE X a (eF (cx X B) W sa fa)) : PE X (.UnaryOp .Not a pos) (eF (cx X B) W s (eNot fa)) := by
  refine (pe_not ha).weak fun σ H Q ⟨ρ, H0, rp, h⟩ => ⟨ρ, H0, rp, eO.asB h fun c H1 H01 g q => ⟨c, rfl, ?_⟩⟩
  exact eO.val q g.i (.bl _)
def eIf (t : EV → R Bool) (a b : FE) : FE := fun ρ => (t ρ).bind fun x => if x = true then a ρ else b ρ
theorem d_if {c : Expr} (hc : PT X c (tF (cx X B) W ta)) (ha : PE X a (eF (cx X B) W s fa)) (hb : PE X b (eF (cx X B) W s fb)) : PE X (.IfExp c a b pos) (eF (cx X B) W s (eIf ta fa fb)) := by
  refine (pe_ifExp hc ha hb).weak fun σ H Q ⟨ρ, H0, rp, h⟩ => ⟨ρ, H0, rp, tO.seqE h fun c H1 H01 g q => ?_⟩
  cases c with
  | true => exact ⟨ρ, H01, rp.grow g, q⟩
  | false => exact ⟨ρ, H01, rp.grow g, q⟩
def aN : EV → R (List PyData) := fun _ => .ok []
def aC (a : FE) (r : EV → R (List PyData)) : EV → R (List PyData) := fun ρ => (a ρ).bind fun x => (r ρ).bind fun xs => .ok (x :: xs)
variable {es : List Expr} {fs : EV → R (List PyData)}
theorem a_n : PA X [] (aF (cx X B) W aN) := pa_nil.weak fun σ H Q ⟨ρ, H0, rp, h⟩ => h [] H H0 (Grow.refl rp.st) .nil
theorem a_c (ha : PE X a (eF (cx X B) W true fa)) (hr : PA X es (aF (cx X B) W fs)) (hs : starEach (a :: es) X.env = (false, eval a X.env) :: starEach es X.env := by rfl) : PA X (a :: es) (aF (cx X B) W (aC fa fs)) := by
  refine (pa_cons ha hr hs).weak fun σ H Q ⟨ρ, H0, rp, h⟩ => ⟨ρ, H0, rp, ?_⟩
  unfold aC at h
  cases q : fa ρ with
  | bad => rw [q] at h; exact h
  | exc c => rw [q] at h; exact h
  | ok d =>
    rw [q] at h
    intro v H1 H01 g w
    refine ⟨ρ, H01, rp.grow g, ?_⟩
    have h := aO.grow h g
    rw [R.bind_ok] at h
    cases q2 : fs ρ with
    | bad => rw [q2] at h; exact h
    | exc c => rw [q2] at h; exact h
    | ok ds =>
      rw [q2] at h
      intro vs H2 H02 g2 ws
      have h := aO.grow h g2
      exact h (v :: vs) H2 H02 (Grow.refl g2.i) (.cons (w.strong.same g2.z) ws)
def mkT (ds : List PyData) : R PyData := if ds.length ≤ LIM then .ok (.tuple ds) else .bad
def mkL (ds : List PyData) : R PyData := if ds.length ≤ LIM then .ok (.list ds) else .bad
def eT (fs : EV → R (List PyData)) : FE := fun ρ => (fs ρ).bind mkT
def eLs (fs : EV → R (List PyData)) : FE := fun ρ => (fs ρ).bind mkL
theorem newT {C : PX} {σ : St} {H H0 : Hp} {vs : List V} {ds : List PyData} {Q : VK} (h : eO C W s σ H H0 (.ok (.tuple ds)) Q) (i : Same H0 H) (hd : DqAll C.K H0 vs ds) (hl : ds.length ≤ LIM) : vs.length ≤ sizeLine ∧ NewT H vs Q := by
  refine ⟨by rw [hd.length]; exact Nat.le_trans hl lim_line, fun p o hp ho => ?_⟩
  have g := Grow.new i hp o
  exact h (.ref p) _ _ g (.of (.tup (ho _ upd_same) hl (hd.same g.z)))
theorem newL {C : PX} {σ : St} {H H0 : Hp} {vs : List V} {ds : List PyData} {Q : VK} (h : eO C W s σ H H0 (.ok (.list ds)) Q) (i : Same H0 H) (hd : DqAll C.K H0 vs ds) (hl : ds.length ≤ LIM) : vs.length ≤ sizeLine ∧ ∀ p, H p = none → Q (.ref p) (upd H p (.lst vs)) := by
  refine ⟨by rw [hd.length]; exact Nat.le_trans hl lim_line, fun p hp => ?_⟩
  have g := Grow.new i hp (.lst vs)
  exact h (.ref p) _ _ g (.of (.lst (.inl upd_same) hl (hd.same g.z)))
theorem d_tup {x1} (h : PA X es (aF (cx X B) W fs)) : PE X (.Tuple es x1 pos) (eF (cx X B) W s (eT fs)) := by
  refine (pe_tupZ h).weak fun σ H Q ⟨ρ, H0, rp, h⟩ => ⟨ρ, H0, rp, aO.seq h fun ds vs H1 H01 g w q => ?_⟩
  unfold mkT at q
  by_cases hl : ds.length ≤ LIM
  · rw [if_pos hl] at q; exact newT q g.i w hl
  · rw [if_neg hl] at q; exact q.elim
theorem d_lst (h : PA X es (aF (cx X B) W fs)) : PE X (.List es pos) (eF (cx X B) W s (eLs fs)) := by
  refine (pe_lst h).weak fun σ H Q ⟨ρ, H0, rp, h⟩ => ⟨ρ, H0, rp, aO.seq h fun ds vs H1 H01 g w q => ?_⟩
  unfold mkL at q
  by_cases hl : ds.length ≤ LIM
  · rw [if_pos hl] at q; exact newL q g.i w hl
  · rw [if_neg hl] at q; exact q.elim
end
end CP
namespace CP
open PySem L2 PyProof.Rows
section
variable {X : Cx} {B : Bs} {W : WX} {s sa sb : Bool} {a b e : Expr} {fa fb f : FE} {pos : Pos}
def opAdd : PyData → PyData → R PyData
  | .int a, .int b => .ok (.int (a + b))
  | .list a, .list b => if a.length + b.length ≤ LIM then .ok (.list (a ++ b)) else .bad
  | .tuple a, .tuple b => if a.length + b.length ≤ LIM then .ok (.tuple (a ++ b)) else .bad
  | .str a, .str b => if a.length + b.length ≤ LIM then .ok (.str (a ++ b)) else .bad
  | _, _ => .bad
def opSub : PyData → PyData → R PyData
  | .int a, .int b => .ok (.int (a - b))
  | _, _ => .bad
def opMul : PyData → PyData → R PyData
  | .int a, .int b => if (-(2 ^ 64) < a ∧ a < 2 ^ 64) ∨ (-(2 ^ 64) < b ∧ b < 2 ^ 64) then .ok (.int (a * b)) else .bad
  | .list a, .int k => if a.length * k.toNat ≤ LIM ∧ -1000 ≤ k ∧ k ≤ 1000 then .ok (.list (List.replicate k.toNat a).flatten) else .bad
  | .tuple a, .int k => if TZ = false ∧ a ≠ [] ∧ 2 ≤ k ∧ k ≤ 100 ∧ a.length ≤ 1000 then .ok (.tuple (List.replicate k.toNat a).flatten) else .bad
  | _, _ => .bad
def opMod : PyData → PyData → R PyData
  | .int a, .int b => if 0 < b then .ok (.int (a % b)) else .bad
  | _, _ => .bad
def opDiv : PyData → PyData → R PyData
  | .int a, .int b => if 0 < b ∧ b < 1073741824 then .ok (.int (a / b)) else .bad
  | _, _ => .bad
def opPow : PyData → PyData → R PyData
  | .int a, .int b => if 0 ≤ b ∧ b ≤ 1000 ∧ a.natAbs < 2 ^ 64 then .ok (.int (a ^ b.toNat)) else .bad
  | _, _ => .bad
theorem op_catR : OpR X (binaryOp .Add) (fun x y H Q => ∃ l b xs zs, x = .ref l ∧ y = .ref b ∧ Rd H l (.lst xs) ∧ Rd H b (.lst zs) ∧ xs.length + zs.length ≤ sizeLine ∧ ∀ p, H p = none → Q (.ref p) (upd H p (.lst (xs ++ zs)))) := by
  intro pins s σ H x y v u Q I rx ry h
  obtain ⟨l, b, xs, zs, rfl, rfl, hH, hB, hz, q⟩ := h
  cases rx
  cases ry
  obtain ⟨z, its, n, r, e⟩ := hH.ok I.hok
  obtain ⟨z2, its2, n2, r2, e2⟩ := hB.ok I.hok
  have hl := r.length
  have hl2 := r2.length
  refine PySem.P.add_list e e2 ?_ (by rw [List.size_toArray, List.size_toArray]; omega)
  have ea : its.toArray ++ its2.toArray = (its ++ its2).toArray := by simp
  rw [ea]
  exact ⟨.ref _, _, I.lnew (t' := s.toks) (r.append r2) (by rw [List.length_append]; omega), rfl, q _ I.fresh⟩
theorem opd_add : OpD X (binaryOp .Add) opAdd := by
  refine ⟨_, (op_add.or (op_catR.or (op_catZ.or op_add_str))), fun B W sa sb σ x y d e H H0 Q i wd we h => ?_⟩
  cases d <;> cases e <;> try exact h.elim
  · rename_i a b
    rw [wd.int, we.int]
    exact .inl ⟨a, b, rfl, rfl, eO.val h i (.int _)⟩
  · rename_i a b
    rw [wd.str, we.str]
    by_cases hl : a.length + b.length ≤ LIM
    · simp only [opAdd, hl, if_true] at h
      exact .inr (.inr (.inr ⟨a, b, rfl, rfl, Nat.le_trans hl lim_line, eO.val h i (.str _)⟩))
    · simp [opAdd, hl, eO] at h
  · rename_i a b
    by_cases hl : a.length + b.length ≤ LIM
    · simp only [opAdd, hl, if_true] at h
      obtain ⟨p, xs, rfl, h1, h2, h3⟩ := wd.lst i
      obtain ⟨p', xs', rfl, h1', h2', h3'⟩ := we.lst i
      have hd := h3.append h3'
      obtain ⟨hz, hn⟩ := newL h i hd (by rw [List.length_append]; exact hl)
      exact .inr (.inl ⟨p, p', xs, xs', rfl, rfl, h1, h1', by rw [← List.length_append]; exact hz, hn⟩)
    · simp [opAdd, hl, eO] at h
  · rename_i a b
    by_cases hl : a.length + b.length ≤ LIM
    · simp only [opAdd, hl, if_true] at h
      obtain ⟨p, xs, rfl, h1, h2, h3, h4⟩ := wd.tup i
      obtain ⟨p', xs', rfl, h1', h2', h3', h4'⟩ := we.tup i
      have hd := h3.append h3'
      obtain ⟨hz, hn⟩ := newT h i hd (by rw [List.length_append]; exact hl)
      refine .inr (.inr (.inl ⟨p, p', xs, xs', rfl, rfl, sqt_same i h1, sqt_same i h1', by rw [← List.length_append]; exact hz, fun e => ?_, fun _ e => ?_, fun _ _ => hn⟩))
      · subst e
        cases h3
        exact eO.val h i h4'
      · subst e
        cases h3'
        rw [List.append_nil] at h
        exact eO.val h i h4
    · simp [opAdd, hl, eO] at h
theorem opd_sub : OpD X (binaryOp .Sub) opSub := by
  refine ⟨_, op_sub, fun B W sa sb σ x y d e H H0 Q i wd we h => ?_⟩
  cases d <;> cases e <;> try exact h.elim
  rename_i a b
  rw [wd.int, we.int]
  exact ⟨a, b, rfl, rfl, eO.val h i (.int _)⟩
theorem op_repR : OpR X (binaryOp .Mult) (fun x y H Q => ∃ l k xs, x = .ref l ∧ y = .int k ∧ Rd H l (.lst xs) ∧ -(2 ^ 63) ≤ k ∧ k < 2 ^ 63 ∧ xs.length * k.toNat ≤ sizeLine ∧
  ∀ p, H p = none → Q (.ref p) (upd H p (.lst (List.replicate k.toNat xs).flatten))) := by
  intro pins s σ H x y v u Q I rx ry h
  obtain ⟨l, k, xs, rfl, rfl, hH, h1, h2, hz, q⟩ := h
  cases rx
  obtain ⟨t, rfl⟩ := ry
  obtain ⟨z, its, n, r, e⟩ := hH.ok I.hok
  have hl := r.length
  have hlen : its.toArray.size * k.toNat ≤ sizeLine := by rw [List.size_toArray, ← hl]; exact hz
  have hcap : ¬ its.toArray.size * k.toNat > (2 ^ 63 - 1) / 8 := by
    have : (sizeLine : Nat) ≤ (2 ^ 63 - 1) / 8 := by decide
    omega
  have hfit : ¬ (!Builtin.List.listFitsIndex k) = true := by
    rw [fitsIndex_both h1 h2]
    exact Bool.false_ne_true
  have hlong : ¬ Builtin.List.listTooLong (its.toArray.size * k.toNat) = true := by
    rw [notLongL hlen]
    exact Bool.false_ne_true
  have hnew : List.foldl (fun x1 x2 => x1 ++ x2) #[] (List.replicate (if its.toArray.isEmpty = true then 0 else k.toNat) its.toArray) = (List.replicate k.toNat its).flatten.toArray := by
    have f0 : ∀ m : Nat, List.foldl (fun x1 x2 => x1 ++ x2) #[] (List.replicate m its.toArray) = (List.replicate m its).flatten.toArray := fun m => by
      have := foldl_rep its m []
      rw [List.nil_append] at this
      exact this
    rw [f0]
    cases its with
    | nil => simp
    | cons a r' => rw [if_neg (by simp)]
  refine wpAny_binaryOp_repeat_ref (T := "list") (U := "int") (by decide) ⟨_, e, rfl⟩ (fun s' => typeIs_int s' k t) noFill_list_mul F.fills_int_mul F.slot_int_rmul repeat_list F.slot_int_index.lookup
    (call_meets F.slot_int_rmul (typeIs_int s k t) F.entry_int_rmul (F.args_int_rmul_2 _ _) (int___rmul___int_list k t l its.toArray n)
      ⟨e, rfl, ⟨_, e, rfl⟩, call_meets F.slot_list_mul ⟨_, e, rfl⟩ F.entry_list_mul (F.args_list_mul_2 _ _) (AutoListH.list___mul___list_int_3 l its.toArray n k t hfit hcap hlong) ⟨e, ?_⟩⟩)
  rw [hnew]
  exact ⟨.ref _, _, I.lnew (t' := s.toks) (r.rep k.toNat) (by rw [PyProof.Rows.lm_len_rep_flat, Nat.mul_comm]; exact hz), rfl, q _ I.fresh⟩
theorem DqAll.rep {K : PySem.W.Frag} {H : Hp} {xs : List V} {ds : List PyData} (h : DqAll K H xs ds) : ∀ k : Nat, DqAll K H (List.replicate k xs).flatten (List.replicate k ds).flatten
  | 0 => .nil
  | k + 1 => by
    rw [List.replicate_succ, List.replicate_succ, List.flatten_cons, List.flatten_cons]
    exact h.append (DqAll.rep h k)
theorem opd_mul : OpD X (binaryOp .Mult) opMul := by
  refine ⟨_, (op_mul.or (op_repR.or op_repT)), fun B W sa sb σ x y d e H H0 Q i wd we h => ?_⟩
  cases d <;> cases e <;> try exact h.elim
  · rename_i a b
    rw [wd.int, we.int]
    by_cases hl : (-(2 ^ 64) < a ∧ a < 2 ^ 64) ∨ (-(2 ^ 64) < b ∧ b < 2 ^ 64)
    · simp only [opMul, hl, if_true] at h
      exact .inl ⟨a, b, rfl, rfl, hl, eO.val h i (.int _)⟩
    · simp only [opMul, hl, if_false] at h
      exact h.elim
  · rename_i a k
    by_cases hl : a.length * k.toNat ≤ LIM ∧ -1000 ≤ k ∧ k ≤ 1000
    · simp only [opMul, hl, if_true] at h
      obtain ⟨p, xs, rfl, h1, h2, h3⟩ := wd.lst i
      rw [we.int]
      have hd := h3.rep k.toNat
      have hlen : (List.replicate k.toNat a).flatten.length = a.length * k.toNat := by rw [PyProof.Rows.lm_len_rep_flat, Nat.mul_comm]
      obtain ⟨hz, hn⟩ := newL h i hd (by rw [hlen]; exact hl.1)
      refine .inr (.inl ⟨p, k, xs, rfl, rfl, h1, by omega, by omega, ?_, hn⟩)
      rw [h3.length]
      exact Nat.le_trans hl.1 lim_line
    · simp only [opMul, hl, if_false] at h
      exact h.elim
  all_goals
    rename_i a k
    by_cases hl' : TZ = false ∧ a ≠ [] ∧ 2 ≤ k ∧ k ≤ 100 ∧ a.length ≤ 1000
    · rw [opMul, if_pos hl'] at h
      obtain ⟨hz', hl⟩ := hl'
      obtain ⟨p, xs, rfl, h1, h2, h3, _⟩ := wd.tup i
      rw [we.int]
      have hd := h3.rep k.toNat
      have hlen : (List.replicate k.toNat a).flatten.length = a.length * k.toNat := by rw [PyProof.Rows.lm_len_rep_flat, Nat.mul_comm]
      have hle : a.length * k.toNat ≤ LIM := Nat.le_trans (Nat.mul_le_mul hl.2.2.2 (show k.toNat ≤ 100 by omega)) (by decide)
      obtain ⟨hz, hn⟩ := newT h i hd (by rw [hlen]; exact hle)
      refine .inr (.inr ⟨p, k, xs, rfl, rfl, sqt_same i h1, fun e => ?_, hl.2.1, by omega, by rw [h3.length]; exact hl.2.2.2, fun p hp => hn p (.tup _) hp fun G e => by unfold TupAt; rw [if_neg (by rw [hz']; decide)]; exact e⟩)
      subst e
      cases h3
      exact hl.1 rfl
    · rw [opMul, if_neg hl'] at h
      exact h.elim
theorem opd_mod : OpD X (binaryOp .Mod) opMod := by
  refine ⟨_, op_mod, fun B W sa sb σ x y d e H H0 Q i wd we h => ?_⟩
  cases d <;> cases e <;> try exact h.elim
  rename_i a b
  rw [wd.int, we.int]
  by_cases hl : 0 < b
  · simp only [opMod, hl, if_true] at h
    exact ⟨a, b, rfl, rfl, hl, eO.val h i (.int _)⟩
  · simp only [opMod, hl, if_false] at h
    exact h.elim
theorem opd_div : OpD X (binaryOp .FloorDiv) opDiv := by
  refine ⟨_, op_fdiv, fun B W sa sb σ x y d e H H0 Q i wd we h => ?_⟩
  cases d <;> cases e <;> try exact h.elim
  rename_i a b
  rw [wd.int, we.int]
  by_cases hl : 0 < b ∧ b < 1073741824
  · simp only [opDiv, hl, if_true] at h
    exact ⟨a, b, rfl, rfl, hl, eO.val h i (.int _)⟩
  · simp only [opDiv, hl, if_false] at h
    exact h.elim
theorem opd_pow : OpD X (binaryOp .Pow) opPow := by
  refine ⟨_, op_pow, fun B W sa sb σ x y d e H H0 Q i wd we h => ?_⟩
  cases d <;> cases e <;> try exact h.elim
  rename_i a b
  rw [wd.int, we.int]
  by_cases hl : 0 ≤ b ∧ b ≤ 1000 ∧ a.natAbs < 2 ^ 64
  · simp only [opPow, hl, if_true] at h
    exact ⟨a, b, rfl, rfl, ⟨hl.1, by omega, hl.2.2⟩, eO.val h i (.int _)⟩
  · simp only [opPow, hl, if_false] at h
    exact h.elim
def negD : PyData → R PyData
  | .int a => .ok (.int (-a))
  | _ => .bad
def e1 (op : PyData → R PyData) (a : FE) : FE := fun ρ => (a ρ).bind op
theorem d_neg (ha : PE X a (eF (cx X B) W sa fa)) : PE X (.UnaryOp .USub a pos) (eF (cx X B) W s (e1 negD fa)) := by
  refine (pe_un un_neg ha).weak fun σ H Q ⟨ρ, H0, rp, h⟩ => ⟨ρ, H0, rp, eO.seq (ρ := ρ) h fun d v H1 H01 g w q => ?_⟩
  cases d <;> try exact q.elim
  rename_i n
  rw [w.int]
  exact ⟨n, rfl, eO.val q g.i (.int _)⟩
def cmpI (p : Int → Int → Bool) : PyData → PyData → R PyData
  | .int a, .int b => .ok (.bool (p a b))
  | _, _ => .bad
theorem opd_cmpI {op : CmpOp} {p : Int → Int → Bool} (h : OpR X (compareOp op) (rI0 fun i j => .bl (p i j))) : OpD X (compareOp op) (cmpI p) := by
  refine ⟨_, h, fun B W sa sb σ x y d e H H0 Q i wd we h => ?_⟩
  cases d <;> cases e <;> try exact h.elim
  rename_i a b
  rw [wd.int, we.int]
  exact ⟨a, b, rfl, rfl, eO.val h i (.bl _)⟩
abbrev ltD := cmpI fun i j => decide (i < j)
abbrev leD := cmpI fun i j => decide (i ≤ j)
abbrev gtD := cmpI fun i j => decide (j < i)
abbrev geD := cmpI fun i j => decide (j ≤ i)
theorem opd_lt : OpD X (compareOp .Lt) ltD := opd_cmpI op_lt
theorem opd_le : OpD X (compareOp .LtE) leD := opd_cmpI op_le
theorem opd_gt : OpD X (compareOp .Gt) gtD := opd_cmpI op_gt
theorem opd_ge : OpD X (compareOp .GtE) geD := opd_cmpI op_ge
def eqD (d e : PyData) : R PyData := if SeqAt.shaped d && SeqAt.shaped e then .ok (.bool (PyData.eqv d e)) else .bad
def neD (d e : PyData) : R PyData := if SeqAt.shaped d && SeqAt.shaped e then .ok (.bool (!PyData.eqv d e)) else .bad
theorem opd_eq {k : Nat} (hr : Room k X.A) : OpD X (compareOp .Eq) eqD := by
  refine ⟨_, op_eqD hr.units, fun B W sa sb σ x y d e H H0 Q i wd we h => ?_⟩
  unfold eqD at h
  cases c : (SeqAt.shaped d && SeqAt.shaped e) with
  | false => rw [c] at h; exact h.elim
  | true =>
    rw [c] at h
    rw [Bool.and_eq_true] at c
    exact ⟨d, e, (wd.now i).dp, (we.now i).dp, c.1, c.2, eO.val h i (.bl _)⟩
theorem opd_ne {k : Nat} (hr : Room k X.A) : OpD X (compareOp .NotEq) neD := by
  refine ⟨_, op_neD hr.units, fun B W sa sb σ x y d e H H0 Q i wd we h => ?_⟩
  unfold neD at h
  cases c : (SeqAt.shaped d && SeqAt.shaped e) with
  | false => rw [c] at h; exact h.elim
  | true =>
    rw [c] at h
    rw [Bool.and_eq_true] at c
    exact ⟨d, e, (wd.now i).dp, (we.now i).dp, c.1, c.2, eO.val h i (.bl _)⟩
def isNone : PyData → Bool
  | .none => true
  | _ => false
def isD (d e : PyData) : R PyData := if isNone e then .ok (.bool (isNone d)) else .bad
def isNotD (d e : PyData) : R PyData := if isNone e then .ok (.bool (!isNone d)) else .bad
theorem none_iff {K : PySem.W.Frag} {s : Bool} {H H0 : Hp} {v : V} {d : PyData} (w : Wk K s H H0 v d) (i : Same H0 H) : decide (v = .non) = isNone d := by
  have h := w.now i
  cases h <;> simp [isNone]
theorem opd_is : OpD X (compareOp .Is) isD := by
  refine ⟨_, op_isN, fun B W sa sb σ x y d e H H0 Q i wd we h => ?_⟩
  cases e <;> try exact h.elim
  refine ⟨we.non, ?_⟩
  rw [none_iff wd i]
  exact eO.val h i (.bl _)
theorem opd_isNot : OpD X (compareOp .IsNot) isNotD := by
  refine ⟨_, op_notN, fun B W sa sb σ x y d e H H0 Q i wd we h => ?_⟩
  cases e <;> try exact h.elim
  refine ⟨we.non, ?_⟩
  rw [none_iff wd i]
  exact eO.val h i (.bl _)
def anyEq (ds : List PyData) (d : PyData) : Bool := ds.any fun z => PyData.eqv z d
def inOk (ds : List PyData) (d : PyData) : Bool := SeqAt.shaped d && SeqAt.shaped (.list ds)
def inD (d e : PyData) : R PyData := match e with
  | .list ds => if inOk ds d then .ok (.bool (anyEq ds d)) else .bad
  | .tuple ds => if inOk ds d then .ok (.bool (anyEq ds d)) else .bad
  | _ => .bad
def notInD (d e : PyData) : R PyData := match e with
  | .list ds => if inOk ds d then .ok (.bool (!anyEq ds d)) else .bad
  | .tuple ds => if inOk ds d then .ok (.bool (!anyEq ds d)) else .bad
  | _ => .bad
theorem shaped_tl (ds : List PyData) : SeqAt.shaped (.tuple ds) = SeqAt.shaped (.list ds) := by
  simp [SeqAt.shaped, PyData.canLay0, PyData.depth]
theorem room_in {A : Around} {xs : List PyData} {d : PyData} (sd : SeqAt.shaped d = true) (hu : A.units + 65 < cLine) : A.units + 1 + min (PyData.depthAll xs) d.depth < cLine := by
  have h1 := SeqAt.depth_of_shaped sd
  have h2 : min (PyData.depthAll xs) d.depth ≤ d.depth := Nat.min_le_right _ _
  omega
theorem op_inT (hu : X.A.units + 65 < cLine) : OpR X (compareOp .In) (fun x y H Q => ∃ d ds, Dp X.K H x d ∧ Dp X.K H y (.tuple ds) ∧ SeqAt.shaped d = true ∧ SeqAt.shaped (.list ds) = true ∧ Q (.bl (ds.any fun z => PyData.eqv z d)) H) := by
  intro pins s σ H x y v u Q I rx ry h
  obtain ⟨d, ds, hd, he, sd, se, q⟩ := h
  obtain ⟨as, r1⟩ := Dp.reads I d x v hd rx
  obtain ⟨bs, r2⟩ := Dp.reads I (.tuple ds) y u he ry
  exact SeqAt.in_tuple_reads r2 r1 (SeqAt.canLay_of_shaped se) (SeqAt.canLay_of_shaped sd) (room_in sd hu) ⟨.bl _, H, I, rfl, q⟩
theorem op_notInT (hu : X.A.units + 65 < cLine) : OpR X (compareOp .NotIn) (fun x y H Q => ∃ d ds, Dp X.K H x d ∧ Dp X.K H y (.tuple ds) ∧ SeqAt.shaped d = true ∧ SeqAt.shaped (.list ds) = true ∧ Q (.bl (!ds.any fun z => PyData.eqv z d)) H) := by
  intro pins s σ H x y v u Q I rx ry h
  obtain ⟨d, ds, hd, he, sd, se, q⟩ := h
  obtain ⟨as, r1⟩ := Dp.reads I d x v hd rx
  obtain ⟨bs, r2⟩ := Dp.reads I (.tuple ds) y u he ry
  exact SeqAt.notIn_tuple_reads r2 r1 (SeqAt.canLay_of_shaped se) (SeqAt.canLay_of_shaped sd) (room_in sd hu) ⟨.bl _, H, I, rfl, q⟩
theorem Room.units65 {k : Nat} {A : Around} (r : Room k A) : A.units + 65 < cLine := by have := r.un; omega
theorem opd_in {k : Nat} (hr : Room k X.A) : OpD X (compareOp .In) inD := by
  refine ⟨_, (op_inD (Room.units65 hr)).or (op_inT (Room.units65 hr)), fun B W sa sb σ x y d e H H0 Q i wd we h => ?_⟩
  cases e <;> try exact h.elim
  all_goals
    rename_i ds
    cases c : inOk ds d with
    | false => simp [inD, c, eO] at h
    | true =>
      simp only [inD, c, if_true] at h
      have c' := c
      rw [inOk, Bool.and_eq_true] at c'
      first
        | exact .inl ⟨d, ds, (wd.now i).dp, (we.now i).dp, c'.1, c'.2, eO.val h i (.bl _)⟩
        | exact .inr ⟨d, ds, (wd.now i).dp, (we.now i).dp, c'.1, c'.2, eO.val h i (.bl _)⟩
theorem opd_notIn {k : Nat} (hr : Room k X.A) : OpD X (compareOp .NotIn) notInD := by
  refine ⟨_, (op_notInD (Room.units65 hr)).or (op_notInT (Room.units65 hr)), fun B W sa sb σ x y d e H H0 Q i wd we h => ?_⟩
  cases e <;> try exact h.elim
  all_goals
    rename_i ds
    cases c : inOk ds d with
    | false => simp [notInD, c, eO] at h
    | true =>
      simp only [notInD, c, if_true] at h
      have c' := c
      rw [inOk, Bool.and_eq_true] at c'
      first
        | exact .inl ⟨d, ds, (wd.now i).dp, (we.now i).dp, c'.1, c'.2, eO.val h i (.bl _)⟩
        | exact .inr ⟨d, ds, (wd.now i).dp, (we.now i).dp, c'.1, c'.2, eO.val h i (.bl _)⟩
def eChain (o o' : PyData → PyData → R PyData) (a b c : FE) : FE := fun ρ => (a ρ).bind fun x => (b ρ).bind fun y => ((o x y).bind asB).bind fun k => if k = true then (c ρ).bind fun z => o' y z else .ok (.bool false)
theorem d_chain {op op' : CmpOp} {o o' : PyData → PyData → R PyData} {c : Expr} {fc : FE} {sc : Bool} (ho : OpD X (compareOp op) o) (ho' : OpD X (compareOp op') o') (ha : PE X a (eF (cx X B) W sa fa)) (hb : PE X b (eF (cx X B) W sb fb)) (hc : PE X c (eF (cx X B) W sc fc))
    (hm : lastMarks [op, op'] [b, c] = false := by with_unfolding_all rfl) : PE X (.Compare a [op, op'] [b, c] pos) (eF (cx X B) W true (eChain o o' fa fb fc)) := by
  obtain ⟨r, h1, h2⟩ := ho
  obtain ⟨r', h1', h2'⟩ := ho'
  refine (pe_chain h1 h1' ha hb hc hm).weak fun σ H Q ⟨ρ, H0, rp, h⟩ => ⟨ρ, H0, rp, eO.seq (ρ := ρ) h fun d v H1 H01 g w q => ⟨ρ, H01, rp.grow g, eO.seq (ρ := ρ) q fun d' v' H2 H02 g' w' q' => ?_⟩⟩
  refine h2 B W sa sb σ v v' d d' H2 H02 _ g'.i (w.grow g') w' (eO.asB q' fun k H3 H03 g3 q3 => ⟨k, rfl, ?_⟩)
  cases k with
  | false => exact eO.val q3 g3.i (.bl _)
  | true => exact ⟨ρ, H03, ((rp.grow g).grow g').grow g3, eO.seq (ρ := ρ) q3 fun d4 v4 H4 H04 g4 w4 q4 => h2' B W sb sc σ v' v4 d' d4 H4 H04 Q g4.i ((w'.grow g3).grow g4) w4 q4⟩
def ixD (d i : PyData) : R PyData := match d, i with
  | .list ds, .int k => match atI ds k with
    | some x => .ok x
    | none => .bad
  | .tuple ds, .int k => match atI ds k with
    | some x => .ok x
    | none => .bad
  | .str x, .int k => if x.length ≤ LIM then match atI x.cps.toList k with
    | some c => .ok (.str ⟨#[c]⟩)
    | none => .bad else .bad
  | _, _ => .bad
theorem atI_all {K : PySem.W.Frag} {H : Hp} {xs : List V} {ds : List PyData} {k : Int} {d : PyData} (h : DqAll K H xs ds) (e : atI ds k = some d) : ∃ v, atI xs k = some v ∧ Dq K H v d := by
  unfold atI at e ⊢
  rw [h.length]
  cases q : ixN ds.length k with
  | none => rw [q] at e; cases e
  | some j =>
    rw [q] at e
    exact h.get e
theorem d_ix (ha : PE X a (eF (cx X B) W sa fa)) (hb : PE X b (eF (cx X B) W sb fb)) (hs : PlainIx b := by exact fun _ _ => rfl) : PE X (.Subscript a b pos) (eF (cx X B) W s (e2 ixD fa fb)) := by
  refine (pe_ix ix_seq ha hb hs).weak fun σ H Q ⟨ρ, H0, rp, h⟩ => ⟨ρ, H0, rp, eO.seq (ρ := ρ) h fun d v H1 H01 g w q => ⟨ρ, H01, rp.grow g, eO.seq (ρ := ρ) q fun d' v' H2 H02 g' w' q' => ?_⟩⟩
  have w2 := w.grow g'
  cases d <;> cases d' <;> try exact q'.elim
  · rename_i x k
    rw [w2.str, w'.int]
    by_cases hl : x.length ≤ LIM
    · cases c : atI x.cps.toList k with
      | none => simp [ixD, hl, c, eO] at q'
      | some z =>
        simp only [ixD, hl, c, if_true] at q'
        exact .inr (.inr ⟨x, k, z, rfl, rfl, Nat.le_trans hl lim_line, c, eO.val q' g'.i (.str _)⟩)
    · simp [ixD, hl, eO] at q'
  · rename_i ds k
    rw [w'.int]
    cases c : atI ds k with
    | none => simp [ixD, c, eO] at q'
    | some z =>
      simp only [ixD, c] at q'
      obtain ⟨p, xs, rfl, h1, h2, h3⟩ := w2.lst g'.i
      obtain ⟨u, e1, e2⟩ := atI_all h3 c
      exact .inl ⟨p, xs, k, u, rfl, rfl, .inl h1, e1, eO.val q' g'.i e2⟩
  · rename_i ds k
    rw [w'.int]
    cases c : atI ds k with
    | none => simp [ixD, c, eO] at q'
    | some z =>
      simp only [ixD, c] at q'
      obtain ⟨p, xs, rfl, h1, h2, h3, _⟩ := w2.tup g'.i
      obtain ⟨u, e1, e2⟩ := atI_all h3 c
      exact .inr (.inl ⟨p, xs, k, u, rfl, rfl, sqt_same g'.i h1, e1, eO.val q' g'.i e2⟩)
end
end CP
namespace CP
open PySem L2
section
variable {X : Cx} {B : Bs} {W : WX} {s sa sb : Bool} {a b e : Expr} {fa fb f : FE} {pos : Pos}
def oO (C : PX) (W : WX) (σ : St) (H H0 : Hp) (o : R (Option Int)) (Q : Option Int → Hp → Prop) : Prop :=
  match o with
  | .ok d => ∀ H' H0', Grow H H0 H' H0' → Q d H'
  | .exc c => ∀ cls dd H' H0', Grow H H0 H' H0' → ExR C.K C.mg H' c cls dd → W cls dd σ H'
  | .bad => False
def oF (C : PX) (W : WX) (f : EV → R (Option Int)) : TO := fun σ H Q => ∃ ρ H0, Rep C σ H H0 ρ ∧ oO C W σ H H0 (f ρ) Q
def oN : EV → R (Option Int) := fun _ => .ok none
def asI : PyData → R (Option Int)
  | .int i => .ok (some i)
  | _ => .bad
def oS (f : FE) : EV → R (Option Int) := fun ρ => (f ρ).bind asI
theorem o_n : PO X none (oF (cx X B) W oN) := by
  obtain ⟨h⟩ := po_none (X := X)
  exact ⟨fun pins s σ H Q I ⟨ρ, H0, rp, q⟩ => h pins s σ H Q I (q H H0 (Grow.refl rp.st))⟩
theorem o_s (ha : PE X a (eF (cx X B) W sa fa)) : PO X (some a) (oF (cx X B) W (oS fa)) := by
  obtain ⟨h⟩ := po_some ha
  refine ⟨fun pins s σ H Q I ⟨ρ, H0, rp, q⟩ => h pins s σ H Q I ⟨ρ, H0, rp, ?_⟩⟩
  unfold oS at q
  cases c : fa ρ with
  | bad => rw [c] at q; exact q
  | exc c' => rw [c] at q; exact q
  | ok d =>
    rw [c] at q
    intro v H1 H01 g w
    cases d <;> try exact False.elim q
    rename_i i
    exact ⟨i, w.int, q H1 H01 g⟩
def cutD {α : Type} (xs : List α) (lo hi : Option Int) : List α := (xs.drop (HT.sIx xs.length 0 lo)).take (HT.sIx xs.length xs.length hi - HT.sIx xs.length 0 lo)
theorem cutD_length {α : Type} (xs : List α) (lo hi : Option Int) : (cutD xs lo hi).length ≤ xs.length := by
  unfold cutD
  rw [List.length_take, List.length_drop]
  omega
theorem DqAll.cut {K : PySem.W.Frag} {H : Hp} {xs : List V} {ds : List PyData} (h : DqAll K H xs ds) (lo hi : Option Int) : DqAll K H (cutV xs lo hi) (cutD ds lo hi) := by
  unfold cutV cutD
  rw [h.length]
  exact (h.drop _).take _
def sliceD (d : PyData) (lo hi : Option Int) : R PyData := match d with
  | .list ds => .ok (.list (cutD ds lo hi))
  | .tuple ds => .ok (.tuple (cutD ds lo hi))
  | .str x => if x.length ≤ LIM then .ok (.str (cutS x lo hi)) else .bad
  | _ => .bad
def eSl (a : FE) (lo hi : EV → R (Option Int)) : FE := fun ρ => (a ρ).bind fun d => (lo ρ).bind fun l => (hi ρ).bind fun h => sliceD d l h
theorem oO.seq {C : PX} {σ : St} {H H0 : Hp} {o : R (Option Int)} {k : Option Int → R PyData} {Q : VK} {Q' : Option Int → Hp → Prop} (h : eO C W s σ H H0 (o.bind k) Q)
    (hk : ∀ d H1 H01, Grow H H0 H1 H01 → eO C W s σ H1 H01 (k d) Q → Q' d H1) : oO C W σ H H0 o Q' := by
  cases o with
  | ok d => exact fun H1 H01 g => hk d H1 H01 g (eO.grow h g)
  | exc c => exact h
  | bad => exact h
theorem d_sl {lo hi : Option Expr} {fl fh : EV → R (Option Int)} {p2 : Pos} (ha : PE X a (eF (cx X B) W sa fa)) (hl : PO X lo (oF (cx X B) W fl)) (hh : PO X hi (oF (cx X B) W fh)) : PE X (.Subscript a (.Slice lo hi none p2) pos) (eF (cx X B) W s (eSl fa fl fh)) := by
  refine (pe_slice (sl_list.or (sl_tupZ.or sl_str)) ha hl hh).weak fun σ H Q ⟨ρ, H0, rp, h⟩ => ⟨ρ, H0, rp, eO.seq (ρ := ρ) h fun d v H1 H01 g w q => ⟨ρ, H01, rp.grow g, oO.seq q fun l H2 H02 g2 q2 => ⟨ρ, H02, (rp.grow g).grow g2, oO.seq q2 fun hh H3 H03 g3 q3 => ?_⟩⟩⟩
  have w3 := (w.grow g2).grow g3
  cases d <;> try exact False.elim q3
  · rename_i x
    rw [w3.str]
    by_cases hx : x.length ≤ LIM
    · simp only [sliceD, hx, if_true] at q3
      exact .inr (.inr ⟨x, rfl, Nat.le_trans hx lim_line, eO.val q3 g3.i (.str _)⟩)
    · simp only [sliceD, hx, if_false] at q3
      exact False.elim q3
  · rename_i ds
    obtain ⟨p, xs, rfl, h1, h2, h3⟩ := w3.lst g3.i
    obtain ⟨_, hn⟩ := newL q3 g3.i (h3.cut l hh) (Nat.le_trans (cutD_length _ _ _) h2)
    exact .inl ⟨p, xs, rfl, .inl h1, hn⟩
  · rename_i ds
    obtain ⟨p, xs, rfl, h1, h2, h3, h4⟩ := w3.tup g3.i
    obtain ⟨_, hn⟩ := newT q3 g3.i (h3.cut l hh) (Nat.le_trans (cutD_length _ _ _) h2)
    refine .inr (.inl ⟨p, xs, rfl, sqt_same g3.i h1, fun e => ?_, fun _ => hn⟩)
    have e2 : cutD ds l hh = ds := by
      unfold cutD
      rw [h3.length] at e
      rw [e.1, e.2]
      simp
    have q3' : eO (cx X B) W s σ H3 H03 (.ok (.tuple (cutD ds l hh))) Q := q3
    rw [e2] at q3'
    exact eO.val q3' g3.i h4
def CallD (X : Cx) (f : Value) (op : PyData → R PyData) : Prop :=
  ∃ r, CallR X f r ∧ ∀ (B : Bs) (W : WX) (sa : Bool) (σ : St) (x : V) (d : PyData) (H H0 : Hp) (Q : VK), Same H0 H → Wk X.K sa H H0 x d → eO (cx X B) W true σ H H0 (op d) Q → r [x] H Q
theorem up {C : PX} {σ : St} {H H0 : Hp} {o : R PyData} {Q : VK} (h : eO C W s σ H H0 o Q) : eO C W true σ H H0 o Q := by
  cases o with
  | ok d => exact fun v H' H0' g w => h v H' H0' g (.of w.strong)
  | exc c => exact h
  | bad => exact h
theorem d_bi {x : Str} {id : String} {op : PyData → R PyData} {p : Pos} (hc : CallD X (.builtin id) op) (hm : X.mg x = none) (hv : bootBuiltins x = some (.builtin id)) (ha : PE X a (eF (cx X B) W sa fa)) (hg : Gl X x := by rfl) (hn : x ≠ "__name__" := by decide) (hdb : (x == ("__debug__" : Str)) = false := by decide)
    (he : starEach [a] X.env = (false, eval a X.env) :: starEach [] X.env := by rfl) : PE X (.Call (.Name x p) [a] [] pos) (eF (cx X B) W s (e1 op fa)) := by
  obtain ⟨r, h1, h2⟩ := hc
  refine (pe_callB h1 hg hm hv (pa_cons ha pa_nil he) hn hdb he rfl).weak fun σ H Q ⟨ρ, H0, rp, h⟩ => ⟨ρ, H0, rp, eO.seq (ρ := ρ) h fun d v H1 H01 g w q => ?_⟩
  exact h2 B W sa σ v d H1 H01 Q g.i w (up q)
theorem d_ty {x : Str} {T : String} {op : PyData → R PyData} {p : Pos} (hc : CallD X (.type T) op) (hm : X.mg x = none) (hv : bootBuiltins x = some (.type T)) (ha : PE X a (eF (cx X B) W sa fa)) (hg : Gl X x := by rfl) (hn : x ≠ "__name__" := by decide) (hdb : (x == ("__debug__" : Str)) = false := by decide)
    (he : starEach [a] X.env = (false, eval a X.env) :: starEach [] X.env := by rfl) : PE X (.Call (.Name x p) [a] [] pos) (eF (cx X B) W s (e1 op fa)) := by
  obtain ⟨r, h1, h2⟩ := hc
  refine (pe_callTy h1 hg hm hv (pa_cons ha pa_nil he) hn hdb he rfl).weak fun σ H Q ⟨ρ, H0, rp, h⟩ => ⟨ρ, H0, rp, eO.seq (ρ := ρ) h fun d v H1 H01 g w q => ?_⟩
  exact h2 B W sa σ v d H1 H01 Q g.i w (up q)
def lenD : PyData → R PyData
  | .list ds => .ok (.int (ds.length : Nat))
  | .tuple ds => .ok (.int (ds.length : Nat))
  | .str x => if x.length ≤ LIM then .ok (.int (x.length : Nat)) else .bad
  | _ => .bad
theorem cd_len : CallD X (.builtin "len") lenD := by
  refine ⟨_, call_len, fun B W sa σ x d H H0 Q i w h => ?_⟩
  cases d <;> try exact False.elim h
  · rename_i x
    rw [w.str]
    by_cases hx : x.length ≤ LIM
    · simp only [lenD, hx, if_true] at h
      exact ⟨_, _, rfl, ⟨Nat.le_trans hx lim_line, rfl⟩, eO.val h i (.int _)⟩
    · simp only [lenD, hx, if_false] at h
      exact False.elim h
  · obtain ⟨p, xs, rfl, h1, h2, h3⟩ := w.lst i
    refine ⟨_, xs.length, rfl, .inl ⟨xs, .inl h1, rfl⟩, ?_⟩
    rw [h3.length]
    exact eO.val h i (.int _)
  · obtain ⟨p, xs, rfl, h1, h2, h3, h4⟩ := w.tup i
    refine ⟨_, xs.length, rfl, .inr ⟨xs, sqt_same i h1, rfl⟩, ?_⟩
    rw [h3.length]
    exact eO.val h i (.int _)
def listD : PyData → R PyData
  | .list ds => .ok (.list ds)
  | .tuple ds => .ok (.list ds)
  | _ => .bad
def tupleD : PyData → R PyData
  | .list ds => .ok (.tuple ds)
  | .tuple ds => .ok (.tuple ds)
  | _ => .bad
theorem cd_list : CallD X (.type "list") listD := by
  refine ⟨_, call_list_of, fun B W sa σ x d H H0 Q i w h => ?_⟩
  cases d <;> try exact False.elim h
  · obtain ⟨p, xs, rfl, h1, h2, h3⟩ := w.lst i
    exact ⟨p, xs, rfl, .inl (.inl h1), (newL h i h3 h2).2⟩
  · obtain ⟨p, xs, rfl, h1, h2, h3, h4⟩ := w.tup i
    exact ⟨p, xs, rfl, .inr (sqt_same i h1), (newL h i h3 h2).2⟩
theorem cd_tuple : CallD X (.type "tuple") tupleD := by
  refine ⟨_, call_tupleZ, fun B W sa σ x d H H0 Q i w h => ?_⟩
  cases d <;> try exact False.elim h
  · obtain ⟨p, xs, rfl, h1, h2, h3⟩ := w.lst i
    exact ⟨p, xs, rfl, .inl ⟨.inl h1, (newT h i h3 h2).2⟩⟩
  · obtain ⟨p, xs, rfl, h1, h2, h3, h4⟩ := w.tup i
    exact ⟨p, xs, rfl, .inr ⟨sqt_same i h1, eO.val h i h4⟩⟩
def intD : PyData → R PyData
  | .int n => .ok (.int n)
  | .bool k => .ok (.int (if k then 1 else 0))
  | _ => .bad
theorem cd_int : CallD X (.type "int") intD := by
  refine ⟨_, call_int1, fun B W sa σ x d H H0 Q i w h => ?_⟩
  cases d <;> try exact False.elim h
  · rw [w.bl]
    exact .inr ⟨_, rfl, eO.val h i (.int _)⟩
  · rw [w.int]
    exact .inl ⟨_, rfl, eO.val h i (.int _)⟩
def intsOf : List PyData → Option (List Int)
  | [] => some []
  | .int n :: r => (intsOf r).map (n :: ·)
  | _ :: _ => none
theorem intsOf_map (ns : List Int) : intsOf (ns.map .int) = some ns := by
  induction ns with
  | nil => rfl
  | cons n ns ih => simp [intsOf, ih]
theorem intsOf_some : ∀ {ds : List PyData} {ns : List Int}, intsOf ds = some ns → ds = ns.map .int
  | [], ns, h => by cases h; rfl
  | .int n :: r, ns, h => by
    simp only [intsOf, Option.map_eq_some_iff] at h
    obtain ⟨ms, h1, rfl⟩ := h
    rw [intsOf_some h1]
    rfl
  | .none :: _, _, h => by simp [intsOf] at h
  | .bool _ :: _, _, h => by simp [intsOf] at h
  | .str _ :: _, _, h => by simp [intsOf] at h
  | .list _ :: _, _, h => by simp [intsOf] at h
  | .tuple _ :: _, _, h => by simp [intsOf] at h
  | .dict _ :: _, _, h => by simp [intsOf] at h
theorem DqAll.ints {K : PySem.W.Frag} {H : Hp} : ∀ {ns : List Int} {xs : List V}, DqAll K H xs (ns.map .int) → xs = ns.map V.int
  | [], _, h => by cases h; rfl
  | _ :: _, _, h => by
    cases h with
    | cons a b => cases a; rw [DqAll.ints b]; rfl
def minL : List Int → Int
  | [] => 0
  | [n] => n
  | n :: r => if n ≤ minL r then n else minL r
def maxL : List Int → Int
  | [] => 0
  | [n] => n
  | n :: r => if maxL r ≤ n then n else maxL r
theorem minL_spec : ∀ {ns : List Int}, ns ≠ [] → minL ns ∈ ns ∧ ∀ y ∈ ns, minL ns ≤ y
  | [], h => absurd rfl h
  | [n], _ => by simp [minL]
  | n :: m :: r, _ => by
    obtain ⟨h1, h2⟩ := minL_spec (ns := m :: r) (by simp)
    unfold minL
    split
    · rename_i hn
      refine ⟨by simp, fun y hy => ?_⟩
      rcases List.mem_cons.mp hy with e | e
      · rw [e]; exact Int.le_refl _
      · exact Int.le_trans hn (h2 y e)
    · rename_i hn
      refine ⟨List.mem_cons_of_mem _ h1, fun y hy => ?_⟩
      rcases List.mem_cons.mp hy with e | e
      · rw [e]; omega
      · exact h2 y e
theorem maxL_spec : ∀ {ns : List Int}, ns ≠ [] → maxL ns ∈ ns ∧ ∀ y ∈ ns, y ≤ maxL ns
  | [], h => absurd rfl h
  | [n], _ => by simp [maxL]
  | n :: m :: r, _ => by
    obtain ⟨h1, h2⟩ := maxL_spec (ns := m :: r) (by simp)
    unfold maxL
    split
    · rename_i hn
      refine ⟨by simp, fun y hy => ?_⟩
      rcases List.mem_cons.mp hy with e | e
      · rw [e]; exact Int.le_refl _
      · exact Int.le_trans (h2 y e) hn
    · rename_i hn
      refine ⟨List.mem_cons_of_mem _ h1, fun y hy => ?_⟩
      rcases List.mem_cons.mp hy with e | e
      · rw [e]; omega
      · exact h2 y e
def minD : PyData → R PyData
  | .list ds => match intsOf ds with
    | some (n :: r) => .ok (.int (minL (n :: r)))
    | _ => .bad
  | _ => .bad
def maxD : PyData → R PyData
  | .list ds => match intsOf ds with
    | some (n :: r) => .ok (.int (maxL (n :: r)))
    | _ => .bad
  | _ => .bad
theorem cd_min (hc : X.calm = true) : CallD X (.builtin "min") minD := by
  refine ⟨_, cr_min hc, fun B W sa σ x d H H0 Q i w h => ?_⟩
  cases d <;> try exact False.elim h
  rename_i ds
  obtain ⟨p, xs, rfl, h1, h2, h3⟩ := w.lst i
  cases c : intsOf ds with
  | none => simp [minD, c, eO] at h
  | some ns =>
    cases ns with
    | nil => simp [minD, c, eO] at h
    | cons n r =>
      simp only [minD, c] at h
      rw [intsOf_some c] at h3
      have e := h3.ints
      subst e
      refine ⟨p, n :: r, rfl, .inl h1, by simp, fun m hm hle => ?_⟩
      obtain ⟨k1, k2⟩ := minL_spec (ns := n :: r) (by simp)
      have e : m = minL (n :: r) := Int.le_antisymm (hle _ k1) (k2 _ hm)
      rw [e]
      exact eO.val h i (.int _)
theorem cd_max (hc : X.calm = true) : CallD X (.builtin "max") maxD := by
  refine ⟨_, cr_max hc, fun B W sa σ x d H H0 Q i w h => ?_⟩
  cases d <;> try exact False.elim h
  rename_i ds
  obtain ⟨p, xs, rfl, h1, h2, h3⟩ := w.lst i
  cases c : intsOf ds with
  | none => simp [maxD, c, eO] at h
  | some ns =>
    cases ns with
    | nil => simp [maxD, c, eO] at h
    | cons n r =>
      simp only [maxD, c] at h
      rw [intsOf_some c] at h3
      have e := h3.ints
      subst e
      refine ⟨p, n :: r, rfl, .inl h1, by simp, fun m hm hle => ?_⟩
      obtain ⟨k1, k2⟩ := maxL_spec (ns := n :: r) (by simp)
      have e : m = maxL (n :: r) := Int.le_antisymm (k2 _ hm) (hle _ k1)
      rw [e]
      exact eO.val h i (.int _)
def CallD2 (X : Cx) (f : Value) (op : PyData → PyData → R PyData) : Prop :=
  ∃ r, CallR X f r ∧ ∀ (B : Bs) (W : WX) (sa sb : Bool) (σ : St) (x y : V) (d e : PyData) (H H0 : Hp) (Q : VK), Same H0 H → Wk X.K sa H H0 x d → Wk X.K sb H H0 y e → eO (cx X B) W true σ H H0 (op d e) Q → r [x, y] H Q
theorem d_bi2 {x : Str} {id : String} {op : PyData → PyData → R PyData} {p : Pos} (hc : CallD2 X (.builtin id) op) (hm : X.mg x = none) (hv : bootBuiltins x = some (.builtin id)) (ha : PE X a (eF (cx X B) W sa fa)) (hb : PE X b (eF (cx X B) W sb fb)) (hg : Gl X x := by rfl) (hn : x ≠ "__name__" := by decide) (hdb : (x == ("__debug__" : Str)) = false := by decide)
    (he : starEach [a, b] X.env = (false, eval a X.env) :: starEach [b] X.env := by rfl) (he2 : starEach [b] X.env = (false, eval b X.env) :: starEach [] X.env := by rfl) (hpl : (backTo pos (starEach [b] X.env)).any (·.1) = false := by rfl) : PE X (.Call (.Name x p) [a, b] [] pos) (eF (cx X B) W s (e2 op fa fb)) := by
  obtain ⟨r, h1, h2⟩ := hc
  refine (pe_callB h1 hg hm hv (pa_cons ha (pa_cons hb pa_nil he2) he) hn hdb he hpl).weak fun σ H Q ⟨ρ, H0, rp, h⟩ => ⟨ρ, H0, rp, eO.seq (ρ := ρ) h fun d v H1 H01 g w q => ⟨ρ, H01, rp.grow g, eO.seq (ρ := ρ) q fun d' v' H2 H02 g' w' q' => ?_⟩⟩
  exact h2 B W sa sb σ v v' d d' H2 H02 Q g'.i (w.grow g') w' (up q')
def min2D : PyData → PyData → R PyData
  | .int i, .int j => .ok (.int (if j < i then j else i))
  | _, _ => .bad
def max2D : PyData → PyData → R PyData
  | .int i, .int j => .ok (.int (if j > i then j else i))
  | _, _ => .bad
theorem cd_min2 (hc : X.calm = true) : CallD2 X (.builtin "min") min2D := by
  refine ⟨_, call_min2 hc, fun B W sa sb σ x y d e H H0 Q i w w' h => ?_⟩
  cases d <;> cases e <;> try exact False.elim h
  rw [w.int, w'.int]
  exact ⟨_, _, rfl, eO.val h i (.int _)⟩
theorem cd_max2 (hc : X.calm = true) : CallD2 X (.builtin "max") max2D := by
  refine ⟨_, call_max2 hc, fun B W sa sb σ x y d e H H0 Q i w w' h => ?_⟩
  cases d <;> cases e <;> try exact False.elim h
  rw [w.int, w'.int]
  exact ⟨_, _, rfl, eO.val h i (.int _)⟩
def tyName : PyData → String
  | .none => "NoneType"
  | .bool _ => "bool"
  | .int _ => "int"
  | .str _ => "str"
  | .list _ => "list"
  | .tuple _ => "tuple"
  | .dict _ => "dict"
theorem Wk.ty {K : PySem.W.Frag} {s : Bool} {H H0 : Hp} {v : V} {d : PyData} (w : Wk K s H H0 v d) (i : Same H0 H) : TyX K H v (.type (tyName d)) := by
  cases w.now i with
  | non => exact .base .non
  | bl b => exact .base (.bl b)
  | int n => exact .base (.int n)
  | str x => exact .base (.str x)
  | lst a b c =>
    rcases a with a | ⟨o, a⟩
    · exact .base (.lst a)
    · exact .base (.frz a)
  | tup a b c => exact a.ty
  | tupK a b c =>
    rcases a with (a | ⟨o, a⟩) | ⟨o, its, n, h1, h2, _⟩
    · exact .base (.tup a)
    · exact .fTuple a
    · exact .kTuple h1 h2
def isiInt : PyData → Bool
  | .int _ => true
  | .bool _ => true
  | _ => false
def isiBool : PyData → Bool
  | .bool _ => true
  | _ => false
def isiTup : PyData → Bool
  | .tuple _ => true
  | _ => false
def isiStr : PyData → Bool
  | .str _ => true
  | _ => false
theorem kit_int (d : PyData) : kitB (tyName d) "int" = some (isiInt d) := by cases d <;> first | exact (by decide +kernel : kitB "NoneType" "int" = some false) | exact (by decide +kernel : kitB "bool" "int" = some true) | exact (by decide +kernel : kitB "int" "int" = some true) | exact (by decide +kernel : kitB "str" "int" = some false) | exact (by decide +kernel : kitB "list" "int" = some false) | exact (by decide +kernel : kitB "tuple" "int" = some false) | exact (by decide +kernel : kitB "dict" "int" = some false)
theorem kit_bool (d : PyData) : kitB (tyName d) "bool" = some (isiBool d) := by cases d <;> first | exact (by decide +kernel : kitB "NoneType" "bool" = some false) | exact (by decide +kernel : kitB "bool" "bool" = some true) | exact (by decide +kernel : kitB "int" "bool" = some false) | exact (by decide +kernel : kitB "str" "bool" = some false) | exact (by decide +kernel : kitB "list" "bool" = some false) | exact (by decide +kernel : kitB "tuple" "bool" = some false) | exact (by decide +kernel : kitB "dict" "bool" = some false)
theorem kit_tuple (d : PyData) : kitB (tyName d) "tuple" = some (isiTup d) := by cases d <;> first | exact (by decide +kernel : kitB "NoneType" "tuple" = some false) | exact (by decide +kernel : kitB "bool" "tuple" = some false) | exact (by decide +kernel : kitB "int" "tuple" = some false) | exact (by decide +kernel : kitB "str" "tuple" = some false) | exact (by decide +kernel : kitB "list" "tuple" = some false) | exact (by decide +kernel : kitB "tuple" "tuple" = some true) | exact (by decide +kernel : kitB "dict" "tuple" = some false)
theorem kit_str (d : PyData) : kitB (tyName d) "str" = some (isiStr d) := by cases d <;> first | exact (by decide +kernel : kitB "NoneType" "str" = some false) | exact (by decide +kernel : kitB "bool" "str" = some false) | exact (by decide +kernel : kitB "int" "str" = some false) | exact (by decide +kernel : kitB "str" "str" = some true) | exact (by decide +kernel : kitB "list" "str" = some false) | exact (by decide +kernel : kitB "tuple" "str" = some false) | exact (by decide +kernel : kitB "dict" "str" = some false)
def isiD (p : PyData → Bool) (d : PyData) : R PyData := .ok (.bool (p d))
theorem d_isi {x : Str} {T : String} {p : PyData → Bool} {p1 p2 : Pos} (hp : ∀ d, kitB (tyName d) T = some (p d)) (hm : X.mg "isinstance" = none) (hmT : X.mg x = none) (hvT : bootBuiltins x = some (.type T)) (ha : PE X a (eF (cx X B) W sa fa))
    (hg : Gl X "isinstance" := by rfl) (hgT : Gl X x := by rfl) (hn : x ≠ "__name__" := by decide) (hdb : (x == ("__debug__" : Str)) = false := by decide)
    (he : starEach [a, .Name x p2] X.env = (false, eval a X.env) :: starEach [.Name x p2] X.env := by rfl) (hpl : (backTo pos (starEach [.Name x p2] X.env)).any (·.1) = false := by rfl) :
    PE X (.Call (.Name "isinstance" p1) [a, .Name x p2] [] pos) (eF (cx X B) W s (e1 (isiD p) fa)) := by
  refine (pe_callB call_isi hg hm PyProof.Rows.boot_isinstance (pa_cons ha (pa_cons (pe_bltn (v := .ty T) hgT hmT hvT rfl hn hdb) pa_nil) he) (by decide) (by decide) he hpl).weak fun σ H Q ⟨ρ, H0, rp, h⟩ => ⟨ρ, H0, rp, eO.seq (ρ := ρ) h fun d v H1 H01 g w q => ?_⟩
  exact ⟨v, .ty T, _, _, p d, rfl, .ty T, w.ty g.i, kit_ty (hp d), eO.val q g.i (.bl _)⟩
def fO (K : PySem.W.Frag) (mg : Str → Option Value) (H H0 : Hp) (o : R PyData) (Q : VK) (E : XK) : Prop := match o with
  | .ok d => ∀ v H' H0', Grow H H0 H' H0' → Dq K H0' v d → Q v H'
  | .exc c => ∀ cls dd H' H0', Grow H H0 H' H0' → ExR K mg H' c cls dd → E cls dd H'
  | .bad => False
def spF (K : PySem.W.Frag) (mg : Str → Option Value) (n : Nat) (F : List PyData → R PyData) : Sp := fun vs H Q E => vs.length = n ∧ ∃ ds H0, Same H0 H ∧ DqAll K H0 vs ds ∧ fO K mg H H0 (F ds) Q E
def callN (n : Nat) (F : List PyData → R PyData) (ds : List PyData) : R PyData := if ds.length = n then F ds else .bad
def eCall (n : Nat) (F : List PyData → R PyData) (fs : EV → R (List PyData)) : FE := fun ρ => (fs ρ).bind (callN n F)
theorem d_call {k n : Nat} {f : Addr} {fd : FuncData} {ps : List Str} {x : Str} {F : List PyData → R PyData} {fs : EV → R (List PyData)} {es : List Expr} {p : Pos} (G : FnOk X.prog X.w X.K X.mg X.base (L2.CX X.prog X.w) k f fd ps (spF X.K X.mg n F)) (hr : Room k X.A) (hm : X.mg x = some (.ref f)) (hk : PySem.W.keepIn X.K (.ref f) = true)
    (hb : Binds X.K fd ps []) (tk : Takes X W) (ha : PA X (e :: es) (aF (cx X B) W fs)) (hg : Gl X x := by rfl) (hdb : (x == ("__debug__" : Str)) = false := by decide) (he : starEach (e :: es) X.env = (false, eval e X.env) :: starEach es X.env := by rfl) (hpl : (backTo pos (starEach es X.env)).any (·.1) = false := by rfl) :
    PE X (.Call (.Name x p) (e :: es) [] pos) (eF (cx X B) W s (eCall n F fs)) := by
  refine (pe_callS G hr hg hm hk hb (fun σ => passAt tk σ) ha hdb he hpl).weak fun σ H Q ⟨ρ, H0, rp, h⟩ => ⟨ρ, H0, rp, aO.seq h fun ds vs H1 H01 g w q => ?_⟩
  by_cases hn : ds.length = n
  · unfold callN at q
    rw [if_pos hn] at q
    refine ⟨by rw [w.length]; exact hn, ds, H01, g.i, w, ?_⟩
    cases c : F ds with
    | bad => rw [c] at q; exact q
    | exc c' => rw [c] at q; exact q
    | ok d => rw [c] at q; exact fun v H' H0' g' w' => q v H' H0' g' (.of w')
  · unfold callN at q
    rw [if_neg hn] at q
    exact False.elim q
end
end CP
namespace CPE
open PySem L2 PyProof.Rows
open Sem (wp)
set_option maxHeartbeats 4000000 in
theorem enum_new1 {v : Value} {o : Obj} {H : Heap → Prop} (B : Begins v o H) :
    Meets (Builtin.«enumerate.__new__» ⟨[.type "enumerate", v], []⟩) (fun _ R s => H s.heap ∧
      R (.ok (.ret (.ref (s.heap.push o).objs.size))) { s with heap := (s.heap.push o).push { cls := .type "enumerate", data := .fields #[.none, .bool false, .ref s.heap.objs.size, rawInt 0, .none, .none] } }) :=
  .of_wp fun prog w A R s h => by
    obtain ⟨hp, g, d, tk, os⟩ := s; obtain ⟨h1, h⟩ := h
    have hsub := sub_enumerate
    have q1 : ∀ {A' : Around} {E : Value → Shared → Prop} {Q : Value → Shared → Prop}, Q (.ref hp.objs.size) ⟨hp.push o, g, d, tk, os⟩ → wpAny (model prog w) A' (pyIter v) Q E ⟨hp, g, d, tk, os⟩ :=
      fun q => B.iter prog w _ _ ⟨hp, g, d, tk, os⟩ _ h1 q
    wp_walk using q1
    refine wpAny_stack_any fun st => wpAny_pure ?_
    split
    · rename_i c _ _ _ _ _
      cases (c == Value.type "enumerate")
      · wp_walk using q1
        exact ⟨_, rfl, h⟩
      · wp_walk using q1
        exact ⟨_, rfl, h⟩
    · wp_walk using q1
      exact ⟨_, rfl, h⟩
theorem enum_begins1 {prog : Program} {w : World} {A : Around} {E : Value → Shared → Prop} {s : Shared} {v : Value} {o : Obj} {H : Heap → Prop} {Q : Value → Shared → Prop} (B : Begins v o H) (h1 : H s.heap)
    (h : ∀ h', IsEnum h' (s.heap.objs.size + 1) s.heap.objs.size 0 .none → h'.get? s.heap.objs.size = some o → h'.objs.size = s.heap.objs.size + 2 →
      (∀ b o, s.heap.get? b = some o → h'.get? b = some o) → Q (.ref (s.heap.objs.size + 1)) { s with heap := h' }) :
    wpAny (model prog w) A (call (.type "enumerate") [v]) Q E s := by
  refine callType_new PySem.F.called_enumerate (by decide) (PySem.F.typeCall_enumerate_1 _) (PySem.F.newCall_enumerate_1 _) (fun obj => PySem.F.args_object_init_2 obj _) PySem.F.entry_enumerate_new
    (enum_new1 B) ⟨h1, ?_⟩
  have hz : (s.heap.push o).objs.size = s.heap.objs.size + 1 := Heap.size_push ..
  show _ ∧ _
  rw [hz]
  have he : IsEnum ((s.heap.push o).push { cls := .type "enumerate", data := .fields #[.none, .bool false, .ref s.heap.objs.size, rawInt 0, .none, .none] }) (s.heap.objs.size + 1) s.heap.objs.size 0 .none := by
    have := Heap.get?_push_size (s.heap.push o) (o := { cls := .type "enumerate", data := .fields #[.none, .bool false, .ref s.heap.objs.size, rawInt 0, .none, .none] }) rfl
    rw [hz] at this; exact this
  refine ⟨⟨_, he, rfl⟩, h _ he (Heap.get?_push_of_some _ (Heap.get?_push_size _ B.free)) (by rw [Heap.size_push, hz]) fun b o x => Heap.get?_push_of_some _ (Heap.get?_push_of_some _ x)⟩
def IteT (K : PySem.W.Frag) (a : Addr) : It :=
  ⟨fun i H => ∃ (xs : List V) (x : V), SqT K H a xs ∧ xs[i]? = some x, fun i H v H' => ∃ T x, v = .ref T ∧ H T = none ∧ H' = upd H T (.tup [.int (i : Nat), x]) ∧ ∀ xs, SqT K H a xs → xs[i]? = some x, fun i H => ∃ xs : List V, SqT K H a xs ∧ xs.length = i⟩
theorem turn_enumT {P : Program} {w : World} {K : PySem.W.Frag} {elts : List Expr} {kk : Nat} {tpos : Pos} (a e it : Addr) :
    Turn P w K (.Tuple elts kk tpos) (IteT K a) [e, it] e (fun i h => (∃ old, IsEnum h e it ((i : Nat) : Int) old) ∧ h.IsTupleIter it a i ∧ e ≠ it ∧ a ≠ it ∧ a ≠ e) where
  mem := by simp
  obj := fun i h st b hb => by
    obtain ⟨⟨old, he⟩, ⟨o, ho, hc, hd⟩, _⟩ := st
    have e' : b = e ∨ b = it := by simpa using hb
    rcases e' with z | z
    · rw [z]; exact ⟨_, he, fun v q => nomatch q⟩
    · rw [z]; exact ⟨o, ho, fun v q => by rw [hd] at q; cases q⟩
  keep := fun i h h' st k => let ⟨⟨old, he⟩, hi, hne⟩ := st; ⟨⟨old, k e (by simp) _ he⟩, hi.at fun o q => k it (by simp) o q, hne⟩
  item := by
    intro X hP hw hK hc i pins s σ H E I hf st hg
    subst hP hw hK
    obtain ⟨⟨old, he⟩, hit, hne, hai, hae⟩ := st
    obtain ⟨xs, x, hq, hx⟩ := hg
    obtain ⟨its, rv, p, hz⟩ := I.tuple hq
    obtain ⟨u, hu, ru⟩ := rv.get hx
    have hel : e < s.heap.objs.size := Heap.lt_size he
    have hil : it < s.heap.objs.size := by obtain ⟨_, q, _⟩ := hit; exact Heap.lt_size q
    have hlt : i < its.toArray.size := by
      have := (List.getElem?_eq_some_iff.mp hu).1
      simpa using this
    refine wpAny_pyNext_enum_itemD (Draws.tuple (A := X.A.in1) (I.ok.hd hc) it a hai its.toArray) he ⟨hit, p⟩ hlt hne (by simp only [List.mem_cons, List.not_mem_nil, or_false, not_or]; exact ⟨hne, Ne.symm hae⟩) fun y h' tk hy ho hst hT hsz hk => ?_
    have ey : y = u := by
      have h1 : its.toArray[i]? = some u := by simpa using hu
      rw [h1] at hy
      exact (Option.some.inj hy).symm
    subst ey
    obtain ⟨hit', _⟩ := hst
    refine ⟨_, rfl, wpAny_letOwnedTupleGo_enum (s := { s with heap := h', toks := tk + 1 }) ho fun h'' he' sb => ?_⟩
    have hT2 : h''.get? s.heap.objs.size = some { cls := .type "tuple", data := .seq #[.int i tk, y] } := (sb.2 _ (Nat.ne_of_gt hel)).trans hT
    have new : ObjOk X.prog X.w (upd H s.heap.objs.size (.tup [.int (i : Nat), x])) h'' s.heap.objs.size (.tup [.int (i : Nat), x]) :=
      ⟨by show 2 ≤ sizeLine; decide, [.int i tk, y], .cons ⟨_, rfl⟩ (.cons ru .nil), ⟨_, hT2, rfl, _, rfl⟩⟩
    have I1 : L2.Inv X pins σ (upd H s.heap.objs.size (.tup [.int (i : Nat), x])) { s with heap := h'', toks := tk + 1 } :=
      I.turnedNew (ch := [e, it]) (fun b ob hb q => (sb.2 b (fun z => hb (by simp [z]))).trans (hk b ob (fun z => hb (by simp [z])) (fun z => hb (by simp [z])) q)) hf (Nat.le_refl _) new
    refine ⟨.ref s.heap.objs.size, _, I1, rfl, ⟨_, x, rfl, I.hok.fresh (Nat.le_refl _), rfl, fun ys hy => by rw [I.tuple_inj hy hq]; exact hx⟩, ⟨⟨y, ?_⟩, hit'.at fun o q => (sb.2 it (Ne.symm hne)).trans q, hne, hai, hae⟩, fun b hb => ?_⟩
    · have e1 : ((i + 1 : Nat) : Int) = (i : Int) + 1 := by omega
      rw [e1]; exact he'
    · have hb' : b < s.heap.objs.size := by
        have e' : b = e ∨ b = it := by simpa using hb
        rcases e' with z | z
        · rw [z]; exact hel
        · rw [z]; exact hil
      rw [upd_ne (Nat.ne_of_lt hb')]
      exact (hf b hb).1
  done := by
    intro X hP hw hK hc i pins s σ H E I hf st hg
    subst hP hw hK
    obtain ⟨⟨old, he⟩, hit, hne, hai, hae⟩ := st
    obtain ⟨xs, hq, hx⟩ := hg
    obtain ⟨its, rv, p, hz⟩ := I.tuple hq
    obtain ⟨f0, f1, f2, f3, f4, f5⟩ := hf it (by simp)
    have hl := rv.length
    have hst : s.heap.IsTupleIter it a its.toArray.size ∧ s.heap.IsTuple a its.toArray := ⟨by rw [show its.toArray.size = i by simp; omega]; exact hit, p⟩
    exact wpAny_pyNext_enum_endD (Draws.tuple (A := X.A.in1) (I.ok.hd hc) it a hai its.toArray) he hst fun h' eb => ⟨rfl, I.turned (t' := s.toks) (fun b o hb q => eb b o hb q) f0 f1 f3 f4 f5⟩
  self := fun A i s Q E st h => let ⟨⟨_, he⟩, _⟩ := st; wpAny_pyIter_enum he h
def iEnumT (K : PySem.W.Frag) (te : TE) : TI := fun σ H R => te σ H fun v H1 => ∃ a xs, v = .ref a ∧ ((SqL K H1 a xs ∧ R (Ite K a) H1) ∨ (SqT K H1 a xs ∧ R (IteT K a) H1))
theorem pi_enumT {X : Cx} {e : Expr} {te : TE} {p pos tpos : Pos} {elts : List Expr} {kk : Nat} (hg : Gl X "enumerate") (hm : X.mg "enumerate" = none) (ha : PE X e te) (hs : starEach [e] X.env = (false, eval e X.env) :: starEach [] X.env := by rfl) :
    PI X (.Tuple elts kk tpos) (.Call (.Name "enumerate" p) [e] [] pos) (iEnumT X.K te) := by
  refine ⟨fun pins s σ H R I h => ?_⟩
  refine Call_ (ld_blt I hg hm boot_enumerate (PyProof.Rows.callWith_type1 (PyProof.Rows.args_cons (thn (ha.run pins s σ H _ I h) fun v s1 ⟨x, H1, I1, r1, q1⟩ => PyProof.Rows.args_nil ?_) hs) hs rfl))
  obtain ⟨a, xs, ex, hq⟩ := q1
  subst ex
  cases r1
  have fresh2 : ∀ b, b ∈ [s1.heap.objs.size + 1, s1.heap.objs.size] → FpOk X pins H1 b := fun b hb => by
    have e' : b = s1.heap.objs.size + 1 ∨ b = s1.heap.objs.size := by simpa using hb
    have hle : s1.heap.objs.size ≤ b := by
      rcases e' with z | z
      · rw [z]; exact Nat.le_add_right _ _
      · rw [z]; exact Nat.le_refl _
    exact I1.fpOk hle (I1.hok.fresh hle)
  rcases hq with ⟨hq, q⟩ | ⟨hq, q⟩
  · obtain ⟨its, rv, p', hz⟩ := I1.list hq
    refine call_enumerate_list p'.isList fun h' he hit hsz hk => wpAny_pyIter_enum he ?_
    have I2 : L2.Inv X pins σ H1 { s1 with heap := h' } := I1.kept (t' := s1.toks) hk
    exact ⟨s1.heap.objs.size + 1, [s1.heap.objs.size + 1, s1.heap.objs.size], _, _, H1, rfl, I2, turn_enum a (s1.heap.objs.size + 1) s1.heap.objs.size, ⟨⟨.none, he⟩, hit, Nat.succ_ne_self _⟩, fresh2, q⟩
  · obtain ⟨its, rv, p', hz⟩ := I1.tuple hq
    have hal : a < s1.heap.objs.size := by obtain ⟨_, z, _⟩ := p'; exact Heap.lt_size z
    refine enum_begins1 (begins_tuple a its.toArray) p' fun h' he hit hsz hk => wpAny_pyIter_enum he ?_
    have I2 : L2.Inv X pins σ H1 { s1 with heap := h' } := I1.kept (t' := s1.toks) hk
    exact ⟨s1.heap.objs.size + 1, [s1.heap.objs.size + 1, s1.heap.objs.size], _, _, H1, rfl, I2, turn_enumT a (s1.heap.objs.size + 1) s1.heap.objs.size, ⟨⟨.none, he⟩, ⟨_, hit, rfl, rfl⟩, Nat.succ_ne_self _, Nat.ne_of_lt hal, Nat.ne_of_lt (Nat.lt_succ_of_lt hal)⟩, fresh2, q⟩
end CPE
namespace CP
open PySem L2
theorem wipe_get (σ : St) : ∀ (vs : List Nat) (j : Nat), (wipe σ vs)[j]? = if j ∈ vs then (σ[j]?).map (fun _ => none) else σ[j]?
  | [], j => by simp [wipe]
  | v :: vs, j => by
    have ih := wipe_get σ vs j
    unfold wipe
    rw [List.getElem?_set]
    by_cases e : v = j
    · subst e
      rw [if_pos rfl, wipe_length]
      by_cases hl : v < σ.length
      · rw [if_pos hl, if_pos (List.mem_cons_self ..)]
        simp [hl]
      · rw [if_neg hl, if_pos (List.mem_cons_self ..)]
        simp [Nat.le_of_not_lt hl]
    · rw [if_neg e, ih]
      have : (j ∈ v :: vs) ↔ j ∈ vs := by
        rw [List.mem_cons]
        exact ⟨fun h => h.elim (fun z => absurd z.symm e) id, .inr⟩
      simp only [this]
theorem wipe_set (σ : St) (vs : List Nat) {i : Nat} (x : Option V) (h : i ∈ vs) : wipe (σ.set i x) vs = wipe σ vs := by
  apply List.ext_getElem?
  intro j
  rw [wipe_get, wipe_get]
  by_cases hj : j ∈ vs
  · rw [if_pos hj, if_pos hj, List.getElem?_set]
    by_cases e : i = j
    · subst e
      rw [if_pos rfl]
      by_cases hl : i < σ.length
      · rw [if_pos hl]; simp [hl]
      · rw [if_neg hl]; simp [Nat.le_of_not_lt hl]
    · rw [if_neg e]
  · rw [if_neg hj, if_neg hj, List.getElem?_set_ne (fun e : i = j => hj (by rw [← e]; exact h))]
def wipeE (ρ : EV) : List Nat → EV
  | [] => ρ
  | v :: vs => (wipeE ρ vs).set v none
theorem wipeE_length (ρ : EV) : ∀ vs : List Nat, (wipeE ρ vs).length = ρ.length
  | [] => rfl
  | v :: vs => by unfold wipeE; rw [List.length_set, wipeE_length ρ vs]
theorem wipeE_some {ρ : EV} {i : Nat} {x : SV} : ∀ {vs : List Nat}, (wipeE ρ vs)[i]? = some (some x) → ρ[i]? = some (some x) ∧ i ∉ vs
  | [], h => ⟨h, by simp⟩
  | v :: vs, h => by
    unfold wipeE at h
    by_cases hi : v = i
    · subst hi
      by_cases hv : v < (wipeE ρ vs).length
      · rw [List.getElem?_set_self hv] at h; cases h
      · rw [List.getElem?_eq_none (by simpa using hv)] at h; cases h
    · rw [List.getElem?_set_ne hi] at h
      obtain ⟨h1, h2⟩ := wipeE_some h
      exact ⟨h1, by simp only [List.mem_cons, not_or]; exact ⟨fun e => hi e.symm, h2⟩⟩
section
variable {C : PX} {σ : St} {H H0 H1 H01 : Hp} {ρ : EV}
theorem Rep.wipe (r : Rep C σ H H0 ρ) (vs : List Nat) : Rep C (wipe σ vs) H H0 (wipeE ρ vs) := by
  have back : ∀ (i : Nat) v, i ∉ vs → (L2.wipe σ vs)[i]? = some (some v) → σ[i]? = some (some v) := fun i v hi h => by
    rw [wipe_get, if_neg hi] at h; exact h
  refine ⟨r.bas, by rw [wipe_length, wipeE_length]; exact r.len, fun i sv e => ?_, fun i j si sj v w a e1 e2 e3 e4 o1 o2 => ?_⟩
  · obtain ⟨h1, h2⟩ := wipeE_some e
    obtain ⟨v, h3, h4⟩ := r.at_ i sv h1
    exact ⟨v, by rw [wipe_get, if_neg h2]; exact h3, h4⟩
  · obtain ⟨h1, h2⟩ := wipeE_some e1
    obtain ⟨h1', h2'⟩ := wipeE_some e2
    exact r.sep i j si sj v w a h1 h1' (back i v h2 e3) (back j w h2' e4) o1 o2
theorem Rep.set (r : Rep C σ H H0 ρ) {v : V} {d : PyData} (hd : Dq C.K H0 v d) (i : Nat) : Rep C (σ.set i (some v)) H H0 (ρ.set i (some (.d d))) := by
  have hl := r.len
  refine ⟨r.bas, by rw [List.length_set, List.length_set]; exact r.len, fun j sv e => ?_, fun j k sj sk u w a e1 e2 e3 e4 o1 o2 => ?_⟩
  · by_cases hj : i = j
    · subst hj
      have hlt : i < ρ.length := by
        have := (List.getElem?_eq_some_iff.mp e).1
        rwa [List.length_set] at this
      rw [List.getElem?_set_self hlt] at e
      cases e
      exact ⟨v, by rw [List.getElem?_set_self (by omega)], hd⟩
    · rw [List.getElem?_set_ne hj] at e
      obtain ⟨u, h1, h2⟩ := r.at_ j sv e
      exact ⟨u, by rw [List.getElem?_set_ne hj]; exact h1, h2⟩
  · have ne : ∀ (m : Nat) (sm : SV), (ρ.set i (some (.d d)))[m]? = some (some sm) → sm.own = true → i ≠ m := fun m sm e o z => by
      subst z
      have hlt : i < ρ.length := by
        have := (List.getElem?_eq_some_iff.mp e).1
        rwa [List.length_set] at this
      rw [List.getElem?_set_self hlt] at e
      cases e
      cases o
    have n1 := ne j sj e1 o1.own
    have n2 := ne k sk e2 o2.own
    rw [List.getElem?_set_ne n1] at e1 e3
    rw [List.getElem?_set_ne n2] at e2 e4
    exact r.sep j k sj sk u w a e1 e2 e3 e4 o1 o2
end
def Dr (pr : Bool) (K : PySem.W.Frag) (H : Hp) (v : V) (d : PyData) : Prop := Dq K H v d ∨ (pr = true ∧ ∃ a xs ds, v = .ref a ∧ d = .tuple ds ∧ H a = some (.tup xs) ∧ DqAll K H xs ds)
theorem Dr.dq {K : PySem.W.Frag} {H : Hp} {v : V} {d : PyData} (h : Dr false K H v d) : Dq K H v d := by
  rcases h with h | ⟨h, _⟩
  · exact h
  · cases h
def gF {pr : Bool} (C : PX) (is : List Nat) (g : PyData → EV → R EV) : TG := fun v σ H Q => ∃ ρ H0 d, Rep C σ H H0 ρ ∧ Dr pr C.K H0 v d ∧ match g d ρ with
  | .ok ρ' => ∀ σ', Rep C σ' H H0 ρ' → (∀ vs : List Nat, (∀ i ∈ is, i ∈ vs) → wipe σ' vs = wipe σ vs) → Q σ' H
  | _ => False
def gN (i : Nat) : PyData → EV → R EV := fun d ρ => .ok (ρ.set i (some (.d d)))
def setAll : List Nat → List PyData → EV → EV
  | i :: is, d :: ds, ρ => setAll is ds (ρ.set i (some (.d d)))
  | _, _, ρ => ρ
def gT (is : List Nat) : PyData → EV → R EV := fun d ρ => match d with
  | .tuple ds => if ds.length = is.length then .ok (setAll is ds ρ) else .bad
  | _ => .bad
section
variable {pr : Bool} {X : Cx} {B : Bs} {W : WX} {s sa sb : Bool} {a b e : Expr} {fa fb f : FE} {pos : Pos}
theorem g_n (i : Nat) {x : Str} (hN : X.N.Nodup) (hi : X.N[i]? = some x := by rfl) (hx : Loc X.env.scope x := by first | exact Or.inl rfl | exact Or.inr rfl) (hf : X.fn x = true ∨ X.env.scope.names.lookup x = some .local := by first | exact .inl rfl | exact .inr rfl | assumption) : PG X (.Name x pos) (gF (pr := false) (cx X B) [i] (gN i)) := by
  refine (pg_name hN hi hx hf).weak fun v σ H Q ⟨ρ, H0, d, rp, hd, h⟩ => ?_
  exact h _ (rp.set hd.dq i) fun vs hv => wipe_set σ vs _ (hv i (by simp))
def gsF (C : PX) (is : List Nat) : TGs := fun vs σ H Q => ∃ ρ H0 ds, Rep C σ H H0 ρ ∧ DqAll C.K H0 vs ds ∧ ds.length = is.length ∧ ∀ σ', Rep C σ' H H0 (setAll is ds ρ) → (∀ ws : List Nat, (∀ i ∈ is, i ∈ ws) → wipe σ' ws = wipe σ ws) → Q σ' H
theorem gs_n : PGs X [] (gsF (cx X B) []) := by
  obtain ⟨h⟩ := pgs_nil (X := X)
  refine ⟨fun pins s σ H vs us Q I r ⟨ρ, H0, ds, rp, hd, hl, q⟩ => h pins s σ H vs us Q I r ?_⟩
  cases ds with
  | nil => cases hd; exact ⟨rfl, q σ rp fun _ _ => rfl⟩
  | cons _ _ => cases hl
theorem gs_c (i : Nat) {x : Str} {is : List Nat} {es : List Expr} (hN : X.N.Nodup) (hr : PGs X es (gsF (cx X B) is)) (hi : X.N[i]? = some x := by rfl) (hx : Loc X.env.scope x := by first | exact Or.inl rfl | exact Or.inr rfl) (hf : X.fn x = true ∨ X.env.scope.names.lookup x = some .local := by first | exact .inl rfl | exact .inr rfl | assumption)
    (hs : (assignEach (.Name x pos :: es) X.env).map (·.2) = assign (.Name x pos) X.env :: (assignEach es X.env).map (·.2) := by rfl) : PGs X (.Name x pos :: es) (gsF (cx X B) (i :: is)) := by
  obtain ⟨h⟩ := pgs_cons (pg_name (pos := pos) hN hi hx hf) hr hs
  refine ⟨fun pins s σ H vs us Q I r ⟨ρ, H0, ds, rp, hd, hl, q⟩ => h pins s σ H vs us Q I r ?_⟩
  cases hd with
  | nil => cases hl
  | @cons v vr d dr h1 h2 =>
    refine ⟨v, vr, rfl, ⟨ρ.set i (some (.d d)), H0, dr, rp.set h1 i, h2, by simpa using hl, fun σ' r' hw => q σ' r' fun ws hws => ?_⟩⟩
    rw [hw ws fun j hj => hws j (List.mem_cons_of_mem _ hj)]
    exact wipe_set σ ws _ (hws i (by simp))
theorem g_t {es : List Expr} {k : Nat} {is : List Nat} (hc : X.calm = true) (h : PGs X es (gsF (cx X B) is))
    (hn : (assignEach es X.env).length = is.length := by rfl) (hst : (assignEach es X.env).findIdx? (·.1) = none := by rfl) : PG X (.Tuple es k pos) (gF (pr := pr) (cx X B) is (gT is)) := by
  refine (pg_tup hc h hn hst).weak fun v σ H Q ⟨ρ, H0, d, rp, hd, q⟩ => ?_
  cases d <;> try exact False.elim q
  rename_i ds
  by_cases hl : ds.length = is.length
  · simp only [gT, hl, if_true] at q
    rcases hd with hd | ⟨_, p, xs, ds', rfl, e, h1, h3⟩
    · obtain ⟨p, xs, rfl, h1, h2, h3⟩ := hd.tupE
      exact ⟨p, xs, rfl, sqt_same rp.st h1, by rw [h3.length]; exact hl, ρ, H0, ds, rp, h3, hl, q⟩
    · cases e
      exact ⟨p, xs, rfl, sqt_same rp.st (.inl (.inl h1)), by rw [h3.length]; exact hl, ρ, H0, ds, rp, h3, hl, q⟩
  · simp only [gT, hl, if_false] at q
def ItOk {pr : Bool} (K : PySem.W.Frag) (J : It) (Hs H0 : Hp) (items : List PyData) : Prop := items.length ≤ LIM ∧ ∀ H' H0', Same Hs H' → Same H0 H0' → Same H0' H' → ∀ i : Nat,
  (∀ d, items[i]? = some d → J.go i H' ∧ ∀ x H'', J.yld i H' x H'' → ∃ H0'', Grow H' H0' H'' H0'' ∧ Dr pr K H0'' x d) ∧ (i = items.length → J.stop i H')
def iO {pr : Bool} (C : PX) (W : WX) (s : Bool) (σ : St) (H H0 : Hp) (o : R (List PyData)) (Q : It → Hp → Prop) : Prop :=
  match o with
  | .ok items => ∀ J H' H0', Grow H H0 H' H0' → ItOk (pr := pr) C.K J (if s then H0' else H') H0' items → Q J H'
  | .exc c => ∀ cls dd H' H0', Grow H H0 H' H0' → ExR C.K C.mg H' c cls dd → W cls dd σ H'
  | .bad => False
def iF {pr : Bool} (C : PX) (W : WX) (s : Bool) (f : EV → R (List PyData)) : TI := fun σ H Q => ∃ ρ H0, Rep C σ H H0 ρ ∧ iO (pr := pr) C W s σ H H0 (f ρ) Q
def seqD : PyData → R (List PyData)
  | .list ds => .ok ds
  | .tuple ds => .ok ds
  | _ => .bad
def iSeq (f : FE) : EV → R (List PyData) := fun ρ => (f ρ).bind seqD
theorem iO.seq {C : PX} {σ : St} {H H0 : Hp} {o : R PyData} {k : PyData → R (List PyData)} {Q : It → Hp → Prop} {Q' : VK} (h : iO (pr := pr) C W s σ H H0 (o.bind k) Q)
    (hk : ∀ d v H1 H01, Grow H H0 H1 H01 → Wk C.K sa H1 H01 v d → iO (pr := pr) C W s σ H1 H01 (k d) Q → Q' v H1) : eO C W sa σ H H0 o Q' := by
  cases o with
  | ok d =>
    refine fun v H1 H01 g w => hk d v H1 H01 g w ?_
    have h : iO (pr := pr) C W s σ H H0 (k d) Q := h
    revert h
    cases k d with
    | ok ds => exact fun h J H' H0' g' => h J H' H0' (g.trans g')
    | exc c => exact fun h cls dd H' H0' g' => h cls dd H' H0' (g.trans g')
    | bad => exact id
  | exc c => exact h
  | bad => exact h
theorem Wk.lstS {K : PySem.W.Frag} {H H0 : Hp} {v : V} {ds : List PyData} (h : Wk K s H H0 v (.list ds)) : ∃ a xs, v = .ref a ∧ Rd (if s then H0 else H) a (.lst xs) ∧ ds.length ≤ LIM ∧ DqAll K H0 xs ds ∨ (∃ a xs, v = .ref a ∧ Rd H0 a (.lst xs) ∧ ds.length ≤ LIM ∧ DqAll K H0 xs ds) := by
  rcases h with h | ⟨e, p, xs, ds, rfl, e2, e3, e4, e5⟩
  · cases h with
    | @lst a xs _ h1 h2 h3 => exact ⟨0, [], .inr ⟨a, xs, rfl, h1, h2, h3⟩⟩
  · cases e2
    subst e
    exact ⟨p, xs, .inl ⟨rfl, .inl e3, e4, e5⟩⟩
theorem itOk_seq {K : PySem.W.Frag} {J : It} {Hs H0 : Hp} {xs : List V} {ds : List PyData} (h2 : ds.length ≤ LIM) (h3 : DqAll K H0 xs ds)
    (hgo : ∀ H' H0', Same Hs H' → Same H0 H0' → Same H0' H' → ∀ (i : Nat) x, xs[i]? = some x → J.go i H' ∧ ∀ y H'', J.yld i H' y H'' → H'' = H' ∧ y = x) (hst : ∀ H' H0', Same Hs H' → Same H0 H0' → Same H0' H' → J.stop xs.length H') : ItOk (pr := pr) K J Hs H0 ds := by
  refine ⟨h2, fun H' H0' a b c i => ⟨fun d hd => ?_, fun e => by rw [e, ← h3.length]; exact hst H' H0' a b c⟩⟩
  obtain ⟨x, hx, hq⟩ := h3.get hd
  obtain ⟨g1, g2⟩ := hgo H' H0' a b c i x hx
  refine ⟨g1, fun y H'' hy => ?_⟩
  obtain ⟨rfl, rfl⟩ := g2 y H'' hy
  exact ⟨H0', Grow.refl c, .inl (hq.same b)⟩
theorem i_seq {tg : Expr} (ha : PE X a (eF (cx X B) W s fa)) : PI X tg a (iF (pr := pr) (cx X B) W s (iSeq fa)) := by
  refine (PI.or (pi_list ha) (pi_tup ha)).weak fun σ H Q ⟨ρ, H0, rp, h⟩ => ?_
  cases c : fa ρ with
  | bad => simp [iSeq, c, iO] at h
  | exc c' => exact .inl ⟨ρ, H0, rp, by rw [c]; simp only [iSeq, c] at h; exact h⟩
  | ok d =>
    have h : iO (pr := pr) (cx X B) W s σ H H0 (seqD d) Q := by simp only [iSeq, c] at h; exact h
    cases d <;> try exact False.elim h
    · rename_i ds
      refine .inl ⟨ρ, H0, rp, ?_⟩
      rw [c]
      intro v H' H0' g w
      obtain ⟨p, xs, rfl, h1, h2, h3⟩ := w.lst g.i
      refine ⟨p, rfl, ⟨xs, .inl h1⟩, h _ H' H0' g (itOk_seq h2 h3 (fun H'' H0'' a b c i x hx => ?_) fun H'' H0'' a b c => ?_)⟩
      all_goals
        have hq : SqL X.K H'' p xs := by
          cases s with
          | false => exact .inl (rd_same a h1)
          | true =>
            have w' := w.strong
            cases w' with
            | lst k1 k2 k3 =>
              rename_i ys
              have e : xs = ys := by
                rcases h1 with h1 | ⟨o, h1⟩ <;> rcases k1 with k1 | ⟨o', k1⟩ <;> (have z := g.i _ _ k1; rw [h1] at z; first | (cases z; done) | (cases z; rfl))
              subst e
              exact .inl (rd_same c (rd_same b k1))
      · exact ⟨⟨xs, x, hq, hx⟩, fun y H3 hy => ⟨hy.1, by have z := hy.2 xs hq; rw [hx] at z; exact (Option.some.inj z).symm⟩⟩
      · exact ⟨xs, hq, Nat.le_refl _⟩
    · rename_i ds
      refine .inr ⟨ρ, H0, rp, ?_⟩
      rw [c]
      intro v H' H0' g w
      obtain ⟨p, xs, rfl, h1, h2, h3, _⟩ := w.tup g.i
      refine ⟨p, rfl, ⟨xs, sqt_same g.i h1⟩, h _ H' H0' g (itOk_seq h2 h3 (fun H'' H0'' a b c i x hx => ?_) fun H'' H0'' a b c => ?_)⟩
      all_goals have hq : SqT X.K H'' p xs := sqt_same c (sqt_same b h1)
      · exact ⟨⟨xs, x, hq, hx⟩, fun y H3 hy => ⟨hy.1, by have z := hy.2 xs hq; rw [hx] at z; exact (Option.some.inj z).symm⟩⟩
      · exact ⟨xs, hq, Nat.le_refl _⟩
def rangeL (lo : Int) (n : Nat) : List PyData := (List.range n).map fun i => .int (lo + (i : Nat))
theorem itOk_rng {K : PySem.W.Frag} {Hs H0 : Hp} (lo : Int) (n : Nat) (hn : n ≤ LIM) : ItOk (pr := pr) K (Itr lo n) Hs H0 (rangeL lo n) := by
  refine ⟨by simp [rangeL, hn], fun H' H0' a b c i => ⟨fun d hd => ?_, fun e => ?_⟩⟩
  · have hi : i < n := by
      have := (List.getElem?_eq_some_iff.mp hd).1
      simpa [rangeL] using this
    have e : d = .int (lo + (i : Nat)) := by
      simp only [rangeL, List.getElem?_map, List.getElem?_range hi] at hd
      exact (Option.some.inj hd).symm
    subst e
    refine ⟨hi, fun x H'' hx => ?_⟩
    obtain ⟨rfl, rfl⟩ := hx
    exact ⟨H0', Grow.refl c, .inl (.int _)⟩
  · show n ≤ i
    simp [rangeL] at e
    omega
def rng1D : PyData → R (List PyData)
  | .int n => if n ≤ 100000 ∧ -100000 ≤ n then .ok (rangeL 0 n.toNat) else .bad
  | _ => .bad
def rng2D : PyData → PyData → R (List PyData)
  | .int a, .int b => if b ≤ 50000 ∧ -50000 ≤ b ∧ a ≤ 50000 ∧ -50000 ≤ a then .ok (rangeL a (b - a).toNat) else .bad
  | _, _ => .bad
def iRng1 (f : FE) : EV → R (List PyData) := fun ρ => (f ρ).bind rng1D
def iRng2 (f g : FE) : EV → R (List PyData) := fun ρ => (f ρ).bind fun x => (g ρ).bind fun y => rng2D x y
theorem i_rng1 {tg : Expr} {p : Pos} (hm : X.mg "range" = none) (ha : PE X a (eF (cx X B) W sa fa)) (hg : Gl X "range" := by rfl) (hs : starEach [a] X.env = [(false, eval a X.env)] := by rfl) : PI X tg (.Call (.Name "range" p) [a] [] pos) (iF (pr := pr) (cx X B) W s (iRng1 fa)) := by
  refine (pi_range1 hg hm (pa_cons ha pa_nil hs) hs).weak fun σ H Q ⟨ρ, H0, rp, h⟩ => ⟨ρ, H0, rp, iO.seq h fun d v H1 H01 g w q => ?_⟩
  cases d <;> try exact False.elim q
  rename_i n
  rw [w.int]
  by_cases hn : n ≤ 100000 ∧ -100000 ≤ n
  · simp only [rng1D, hn, and_self, if_true] at q
    exact ⟨n, rfl, by omega, by omega, q _ H1 H01 (Grow.refl g.i) (itOk_rng 0 n.toNat (by show n.toNat ≤ 100000; omega))⟩
  · simp only [rng1D, hn, if_false] at q
    exact False.elim q
theorem iO.grow {C : PX} {σ : St} {H H0 H1 H01 : Hp} {o : R (List PyData)} {Q : It → Hp → Prop} (h : iO (pr := pr) C W s σ H H0 o Q) (g : Grow H H0 H1 H01) : iO (pr := pr) C W s σ H1 H01 o Q := by
  cases o with
  | ok ds => exact fun J H' H0' g' => h J H' H0' (g.trans g')
  | exc c => exact fun cls dd H' H0' g' => h cls dd H' H0' (g.trans g')
  | bad => exact h
theorem i_rng2 {tg : Expr} {p : Pos} (hm : X.mg "range" = none) (ha : PE X a (eF (cx X B) W sa fa)) (hb : PE X b (eF (cx X B) W sb fb)) (hg : Gl X "range" := by rfl) (hs : starEach [a, b] X.env = [(false, eval a X.env), (false, eval b X.env)] := by rfl) (hs2 : starEach [b] X.env = [(false, eval b X.env)] := by rfl) : PI X tg (.Call (.Name "range" p) [a, b] [] pos) (iF (pr := pr) (cx X B) W s (iRng2 fa fb)) := by
  refine (pi_range2 hg hm (pa_cons ha (pa_cons hb pa_nil hs2) (by rw [hs, hs2])) hs hs2).weak fun σ H Q ⟨ρ, H0, rp, h⟩ => ⟨ρ, H0, rp, iO.seq h fun d v H1 H01 g w q => ⟨ρ, H01, rp.grow g, iO.seq q fun d' v' H2 H02 g' w' q' => ?_⟩⟩
  cases d <;> cases d' <;> try exact False.elim q'
  rename_i m n
  have w2 := w.grow g'
  rw [w2.int, w'.int]
  by_cases hn : n ≤ 50000 ∧ -50000 ≤ n ∧ m ≤ 50000 ∧ -50000 ≤ m
  · simp only [rng2D, hn, and_self, if_true] at q'
    exact ⟨m, n, rfl, ⟨by omega, by omega, by omega, by omega⟩, q' _ H2 H02 (Grow.refl g'.i) (itOk_rng m (n - m).toNat (by show (n - m).toNat ≤ 100000; omega))⟩
  · simp only [rng2D, hn, if_false] at q'
    exact False.elim q'
theorem itOk_pair {K : PySem.W.Frag} {J : It} {Hs H0 : Hp} {xs ys : List V} {ds es : List PyData} (h2 : ds.length ≤ LIM) (h3 : DqAll K H0 xs ds) (h4 : DqAll K H0 ys es)
    (hgo : ∀ H' H0', Same Hs H' → Same H0 H0' → Same H0' H' → ∀ (i : Nat) x y, xs[i]? = some x → ys[i]? = some y → J.go i H' ∧ ∀ z H'', J.yld i H' z H'' → ∃ T, z = .ref T ∧ H' T = none ∧ H'' = upd H' T (.tup [x, y]))
    (hst : ∀ H' H0', Same Hs H' → Same H0 H0' → Same H0' H' → J.stop (min xs.length ys.length) H') : ItOk (pr := true) K J Hs H0 ((ds.zip es).map fun p => .tuple [p.1, p.2]) := by
  have hl := h3.length
  have hl2 := h4.length
  refine ⟨by rw [List.length_map, List.length_zip]; omega, fun H' H0' a b c i => ⟨fun d hd => ?_, fun e => ?_⟩⟩
  · rw [List.getElem?_map] at hd
    cases q : (ds.zip es)[i]? with
    | none => rw [q] at hd; cases hd
    | some p =>
      rw [q] at hd
      have ed : d = .tuple [p.1, p.2] := (Option.some.inj hd).symm
      subst ed
      obtain ⟨q1, q2⟩ := List.getElem?_zip_eq_some.mp q
      obtain ⟨x, hx, hqx⟩ := h3.get q1
      obtain ⟨y, hy, hqy⟩ := h4.get q2
      obtain ⟨g1, g2⟩ := hgo H' H0' a b c i x y hx hy
      refine ⟨g1, fun z H'' hz => ?_⟩
      obtain ⟨T, rfl, hT, rfl⟩ := g2 z H'' hz
      have g := Grow.new c hT (.tup [x, y])
      exact ⟨_, g, .inr ⟨rfl, T, [x, y], [p.1, p.2], rfl, rfl, upd_same, .cons ((hqx.same b).same g.z) (.cons ((hqy.same b).same g.z) .nil)⟩⟩
  · rw [e, List.length_map, List.length_zip, ← hl, ← hl2]
    exact hst H' H0' a b c
def enumL (ds : List PyData) : List PyData := ((rangeL 0 ds.length).zip ds).map fun p => .tuple [p.1, p.2]
def enumD : PyData → R (List PyData)
  | .list ds => .ok (enumL ds)
  | .tuple ds => .ok (enumL ds)
  | _ => .bad
def iEnum (f : FE) : EV → R (List PyData) := fun ρ => (f ρ).bind enumD
theorem range_all {K : PySem.W.Frag} {H : Hp} (n : Nat) : DqAll K H ((List.range n).map fun i => V.int (0 + (i : Nat))) (rangeL 0 n) := by
  refine .of_get (by simp [rangeL]) fun i v d h1 h2 => ?_
  have hi : i < n := by
    have := (List.getElem?_eq_some_iff.mp h1).1
    simpa using this
  simp only [rangeL, List.getElem?_map, List.getElem?_range hi] at h1 h2
  have e1 := Option.some.inj h1
  have e2 := Option.some.inj h2
  subst e1
  subst e2
  exact .int _
theorem range_at {n i : Nat} {x : V} (h : ((List.range n).map fun i => V.int (0 + (i : Nat)))[i]? = some x) : x = .int (i : Nat) := by
  have hi : i < n := by
    have := (List.getElem?_eq_some_iff.mp h).1
    simpa using this
  simp only [List.getElem?_map, List.getElem?_range hi] at h
  have e := Option.some.inj h
  rw [← e]
  simp
theorem i_enum {p tpos : Pos} {elts : List Expr} {kk : Nat} (hm : X.mg "enumerate" = none) (ha : PE X a (eF (cx X B) W true fa)) (hg : Gl X "enumerate" := by rfl) (hs : starEach [a] X.env = (false, eval a X.env) :: starEach [] X.env := by rfl) :
    PI X (.Tuple elts kk tpos) (.Call (.Name "enumerate" p) [a] [] pos) (iF (pr := true) (cx X B) W true (iEnum fa)) := by
  refine (CPE.pi_enumT hg hm ha hs).weak fun σ H Q ⟨ρ, H0, rp, h⟩ => ⟨ρ, H0, rp, iO.seq h fun d v H1 H01 g w q => ?_⟩
  cases d <;> try exact False.elim q
  · rename_i ds
    have w' := w.strong
    cases w' with
    | @lst p xs _ h1 h2 h3 =>
      have hlen := h3.length
      have hr := range_all (K := X.K) (H := H01) ds.length
      refine ⟨p, xs, rfl, .inl ⟨.inl (rd_same g.i h1), q _ H1 H01 (Grow.refl g.i) (itOk_pair (by simp [rangeL, h2]) hr h3 (fun H' H0' a b c i x y hx hy => ?_) fun H' H0' a b c => ?_)⟩⟩
      all_goals have hq : SqL X.K H' p xs := .inl (rd_same c (rd_same b h1))
      · rw [range_at hx]
        refine ⟨⟨xs, y, hq, hy⟩, fun z H'' hz => ?_⟩
        obtain ⟨T, y', rfl, hT, rfl, hyy⟩ := hz
        have e := hyy xs hq
        rw [hy] at e
        cases e
        exact ⟨T, rfl, hT, rfl⟩
      · exact ⟨xs, hq, by rw [List.length_map, List.length_range]; omega⟩
  · rename_i ds
    have w' := w.strong
    obtain ⟨p, xs, rfl, h1, h2, h3⟩ := w'.tupE
    · have hlen := h3.length
      have hr := range_all (K := X.K) (H := H01) ds.length
      refine ⟨p, xs, rfl, .inr ⟨sqt_same g.i h1, q _ H1 H01 (Grow.refl g.i) (itOk_pair (by simp [rangeL, h2]) hr h3 (fun H' H0' a b c i x y hx hy => ?_) fun H' H0' a b c => ?_)⟩⟩
      all_goals have hq : SqT X.K H' p xs := sqt_same c (sqt_same b h1)
      · rw [range_at hx]
        refine ⟨⟨xs, y, hq, hy⟩, fun z H'' hz => ?_⟩
        obtain ⟨T, y', rfl, hT, rfl, hyy⟩ := hz
        have e := hyy xs hq
        rw [hy] at e
        cases e
        exact ⟨T, rfl, hT, rfl⟩
      · exact ⟨xs, hq, by rw [List.length_map, List.length_range]; omega⟩
def zipL (ds es : List PyData) : List PyData := (ds.zip es).map fun p => .tuple [p.1, p.2]
def zipD : PyData → PyData → R (List PyData)
  | .tuple ds, .tuple es => .ok (zipL ds es)
  | _, _ => .bad
def iZip (f g : FE) : EV → R (List PyData) := fun ρ => (f ρ).bind fun x => (g ρ).bind fun y => zipD x y
theorem i_zip {p tpos : Pos} {elts : List Expr} {kk : Nat} (hm : X.mg "zip" = none) (ha : PE X a (eF (cx X B) W true fa)) (hb : PE X b (eF (cx X B) W true fb)) (hg : Gl X "zip" := by rfl) (hs : starEach [a, b] X.env = (false, eval a X.env) :: starEach [b] X.env := by rfl)
    (hs2 : starEach [b] X.env = (false, eval b X.env) :: starEach [] X.env := by rfl) (hpl : (backTo pos (starEach [b] X.env)).any (·.1) = false := by rfl) :
    PI X (.Tuple elts kk tpos) (.Call (.Name "zip" p) [a, b] [] pos) (iF (pr := true) (cx X B) W true (iZip fa fb)) := by
  refine (RZ.pi_zipA hg hm (pa_cons ha (pa_cons hb pa_nil hs2) hs) hs hpl).weak fun σ H Q ⟨ρ, H0, rp, h⟩ => ⟨ρ, H0, rp, iO.seq h fun d v H1 H01 g w q => ⟨ρ, H01, rp.grow g, iO.seq q fun d' v' H2 H02 g' w' q' => ?_⟩⟩
  cases d <;> cases d' <;> try exact False.elim q'
  rename_i ds es
  have k1 := (w.strong).same g'.z
  have k2 := w'.strong
  obtain ⟨p, xs, rfl, h1, h2, h3⟩ := k1.tupE
  · obtain ⟨p', ys, rfl, h1', h2', h3'⟩ := k2.tupE
    · refine ⟨p, p', xs, ys, rfl, .inr ⟨sqt_same g'.i h1, sqt_same g'.i h1', q' _ H2 H02 (Grow.refl g'.i) (itOk_pair h2 h3 h3' (fun H' H0' a b c i x y hx hy => ?_) fun H' H0' a b c => ?_)⟩⟩
      all_goals
        have hq : SqT X.K H' p xs := sqt_same c (sqt_same b h1)
        have hq' : SqT X.K H' p' ys := sqt_same c (sqt_same b h1')
      · refine ⟨⟨xs, ys, x, y, hq, hq', hx, hy⟩, fun z H'' hz => ?_⟩
        obtain ⟨T, x', y', rfl, hT, rfl, hxx, hyy⟩ := hz
        have e := hyy ys hq'
        rw [hy] at e
        cases e
        have e := hxx xs hq
        rw [hx] at e
        cases e
        exact ⟨T, rfl, hT, rfl⟩
      · exact ⟨xs, ys, hq, hq', by omega⟩
def ptF (C : PX) (f : EV → R Bool) : TT := tF C (fun _ _ _ _ => False) f
def tTrue : EV → R Bool := fun _ => .ok true
abbrev WN : WX := fun _ _ _ _ => False
theorem ts_n : PTs X [] (tF (cx X B) WN tTrue) := by
  obtain ⟨h⟩ := pts_nil (X := X)
  exact ⟨fun pins s σ H Q I ⟨ρ, H0, rp, q⟩ => h pins s σ H Q I (q H H0 (Grow.refl rp.st))⟩
theorem ts_1 {c : Expr} {t : EV → R Bool} (h : PT X c (tF (cx X B) WN t)) : PTs X [c] (tF (cx X B) WN t) := pts_one h
def lcGo (g : PyData → EV → R EV) (t : EV → R Bool) (f : FE) (ρ : EV) : List PyData → R (List PyData)
  | [] => .ok []
  | d :: ds => match g d ρ with
    | .ok ρ' => match t ρ' with
      | .ok true => match f ρ' with
        | .ok y => (lcGo g t f ρ ds).bind fun ys => .ok (y :: ys)
        | _ => .bad
      | .ok false => lcGo g t f ρ ds
      | _ => .bad
    | _ => .bad
def eLc (fi : EV → R (List PyData)) (vs : List Nat) (g : PyData → EV → R EV) (t : EV → R Bool) (f : FE) : FE := fun ρ => (fi ρ).bind fun items => (lcGo g t f (wipeE ρ vs) items).bind fun ds => .ok (.list ds)
theorem lcGo_noexc {g : PyData → EV → R EV} {t : EV → R Bool} {f : FE} {ρ : EV} : ∀ (ds : List PyData) (c : Ex), lcGo g t f ρ ds ≠ .exc c
  | [], c => by simp [lcGo]
  | d :: ds, c => by
    have ih := lcGo_noexc (g := g) (t := t) (f := f) (ρ := ρ) ds
    unfold lcGo
    split
    · split
      · split
        · cases q : lcGo g t f ρ ds with
          | ok a => simp
          | exc c' => exact absurd q (ih c')
          | bad => simp
        · simp
      · exact ih c
      · simp
    · simp
theorem lcGo_len {g : PyData → EV → R EV} {t : EV → R Bool} {f : FE} {ρ : EV} : ∀ {ds : List PyData} {ys : List PyData}, lcGo g t f ρ ds = .ok ys → ys.length ≤ ds.length
  | [], ys, h => by simp [lcGo] at h; subst h; simp
  | d :: ds, ys, h => by
    unfold lcGo at h
    split at h
    · split at h
      · split at h
        · cases q : lcGo g t f ρ ds with
          | ok a =>
            rw [q] at h
            simp at h
            subst h
            have := lcGo_len q
            simp; omega
          | exc c' => rw [q] at h; simp at h
          | bad => rw [q] at h; simp at h
        · simp at h
      · have := lcGo_len h; simp; omega
      · simp at h
    · simp at h
theorem lc_read {wi : TI} {is : List Nat} {g : PyData → EV → R EV} {t : EV → R Bool} {fe : FE} {vs : List Nat} {fi : EV → R (List PyData)} {σ : St} {H : Hp} {Q : VK} {C : PX} (hsub : ∀ i ∈ is, i ∈ vs)
    (h : eF C W s (eLc fi vs g t fe) σ H Q) : tLc (iF (pr := pr) C W false fi) (gF (pr := pr) C is g) (tF C WN t) (eF C WN true fe) vs σ H Q := by
  obtain ⟨ρ, H0, rp, h⟩ := h
  refine ⟨ρ, H0, rp, ?_⟩
  unfold eLc at h
  cases c : fi ρ with
  | bad => rw [c] at h; exact h
  | exc c' => rw [c] at h; exact h
  | ok items =>
    rw [c] at h
    simp only [R.bind_ok] at h
    cases c2 : lcGo g t fe (wipeE ρ vs) items with
    | bad => rw [c2] at h; exact False.elim h
    | exc c' => exact absurd c2 (lcGo_noexc _ _)
    | ok fin =>
      rw [c2] at h
      have h : eO C W s σ H H0 (.ok (.list fin)) Q := h
      intro J H1 H01 g1 it D hD
      obtain ⟨hlim, it⟩ := it
      have it : ∀ H' H0', Same H1 H' → Same H01 H0' → Same H0' H' → ∀ i : Nat,
        (∀ d, items[i]? = some d → J.go i H' ∧ ∀ x H'', J.yld i H' x H'' → ∃ H0'', Grow H' H0' H'' H0'' ∧ Dr pr C.K H0'' x d) ∧ (i = items.length → J.stop i H') := it
      have hfl := lcGo_len c2
      refine ⟨fun i m Hi => m = items.length - i ∧ i ≤ items.length ∧ ∃ H0i acc da rest, Grow H1 H01 Hi H0i ∧ Hi D = some (.lst acc) ∧ H0i D = none ∧ DqAll C.K H0i acc da ∧ lcGo g t fe (wipeE ρ vs) (items.drop i) = .ok rest ∧ da ++ rest = fin,
        ⟨items.length, by simp, Nat.zero_le _, H01, [], [], fin, Grow.mine g1.i hD _, upd_same, g1.i.free hD, .nil, by simpa using c2, rfl⟩, ?_⟩
      rintro i m Hi ⟨rfl, hi, H0i, acc, da, rest, gi, hDi, h0D, hda, hgo, hfin⟩
      obtain ⟨it1, it2⟩ := it Hi H0i gi.a gi.z gi.i i
      by_cases hlt : i < items.length
      · right
        obtain ⟨go, yl⟩ := it1 items[i] (by simp [hlt])
        have edrop : items.drop i = items[i] :: items.drop (i + 1) := List.drop_eq_getElem_cons hlt
        rw [edrop] at hgo
        have hlen : da.length + rest.length = fin.length := by rw [← hfin, List.length_append]
        refine ⟨go, fun H' => ∃ H0i acc da rest, Grow H1 H01 H' H0i ∧ H' D = some (.lst acc) ∧ H0i D = none ∧ DqAll C.K H0i acc da ∧ lcGo g t fe (wipeE ρ vs) (items.drop (i + 1)) = .ok rest ∧ da ++ rest = fin,
          fun H' hn => ⟨items.length - (i + 1), by omega, rfl, hlt, hn⟩, fun x H' hy => ?_⟩
        obtain ⟨H0', g', dx⟩ := yl x H' hy
        have gA := gi.trans g'
        have rp' : Rep C (wipe σ vs) H' H0' (wipeE ρ vs) := ((rp.grow g1).grow gA).wipe vs
        have hD' : H' D = some (.lst acc) := g'.a _ _ hDi
        have h0D' : H0' D = none := g'.f D (hid hDi) h0D
        refine ⟨wipeE ρ vs, H0', items[i], rp', dx, ?_⟩
        unfold lcGo at hgo
        cases cg : g items[i] (wipeE ρ vs) with
        | bad => rw [cg] at hgo; simp at hgo
        | exc c' => rw [cg] at hgo; simp at hgo
        | ok ρ' =>
          rw [cg] at hgo
          simp only at hgo
          intro σ2 r2 hw
          refine ⟨by rw [hw vs hsub]; exact List.ext_getElem? fun j => by rw [wipe_get, wipe_get]; by_cases z : j ∈ vs <;> simp [z] <;> rfl, ρ', H0', r2, ?_⟩
          cases ct : t ρ' with
          | bad => rw [ct] at hgo; simp at hgo
          | exc c' => rw [ct] at hgo; simp at hgo
          | ok b =>
            rw [ct] at hgo
            intro H3 H03 g3
            have hD3 : H3 D = some (.lst acc) := g3.a _ _ hD'
            have h0D3 : H03 D = none := g3.f D (hid hD') h0D'
            cases b with
            | false =>
              simp only at hgo
              exact ⟨H03, acc, da, rest, gA.trans g3, hD3, h0D3, (hda.same g'.z).same g3.z, hgo, hfin⟩
            | true =>
              simp only at hgo
              refine ⟨ρ', H03, r2.grow g3, ?_⟩
              cases ce : fe ρ' with
              | bad => rw [ce] at hgo; simp at hgo
              | exc c' => rw [ce] at hgo; simp at hgo
              | ok yd =>
                rw [ce] at hgo
                simp only at hgo
                cases cr : lcGo g t fe (wipeE ρ vs) (items.drop (i + 1)) with
                | bad => rw [cr] at hgo; simp at hgo
                | exc c' => rw [cr] at hgo; simp at hgo
                | ok rest' =>
                  rw [cr] at hgo
                  simp only [R.bind_ok, R.ok.injEq] at hgo
                  intro y H4 H04 g4 w4
                  have hD4 : H4 D = some (.lst acc) := g4.a _ _ hD3
                  have h0D4 : H04 D = none := g4.f D (hid hD3) h0D3
                  have gB := (gA.trans g3).trans g4
                  refine ⟨acc, hD4, ?_, H04, acc ++ [y], da ++ [yd], rest', ?_, upd_same, h0D4, (((hda.same g'.z).same g3.z).same g4.z).append (.cons w4.strong .nil), rfl, by rw [← hfin, ← hgo]; simp⟩
                  · rw [hda.length]
                    apply lim_lt
                    rw [← hgo, List.length_cons] at hlen
                    have : LIM = 100000 := rfl
                    omega
                  · refine ⟨fun b o q => ?_, gB.z, fun b o q => ?_, gB.f⟩
                    · rw [upd_ne (ne_of_none q hD)]; exact gB.a b o q
                    · rw [upd_ne (ne_of_none q h0D4)]; exact gB.i b o q
      · left
        have e : i = items.length := by omega
        refine ⟨it2 e, ?_⟩
        rw [e, List.drop_length] at hgo
        simp only [lcGo, R.ok.injEq] at hgo
        subst hgo
        rw [List.append_nil] at hfin
        subst hfin
        have gz : Same H0i (upd H0i D (.lst acc)) := same_new h0D _
        refine h (.ref D) Hi (upd H0i D (.lst acc)) ?_ (.of (.lst (.inl upd_same) (Nat.le_trans hfl hlim) (hda.same gz)))
        have gC := g1.trans gi
        refine ⟨gC.a, gC.z.trans gz, fun b o q => ?_, fun b h1 h2 => ?_⟩
        · by_cases z : b = D
          · subst z; rw [upd_same] at q; cases q; exact hDi
          · rw [upd_ne z] at q; exact gC.i b o q
        · have z : b ≠ D := fun z => by
            have := (h1.same g1.a).ne
            rw [z] at this
            exact this hD
          rw [upd_ne z]
          exact gC.f b h1 h2
theorem i_weak {tg it : Expr} {fi : EV → R (List PyData)} (h : PI X tg it (iF (pr := pr) (cx X B) W true fi)) : PI X tg it (iF (pr := pr) (cx X B) W false fi) := h.weak fun σ H Q ⟨ρ, H0, rp, q⟩ => ⟨ρ, H0, rp, by
  revert q
  cases fi ρ with
  | ok ds => exact fun q J H' H0' g it => q J H' H0' g ⟨it.1, fun H2 H02 a b c => it.2 H2 H02 (g.i.trans a) b c⟩
  | exc c => exact fun q => q
  | bad => exact fun q => q⟩
end
end CP
namespace CP
open PySem L2
def nO (C : PX) (W : WX) (σ : St) (H H0 : Hp) (o : R PyData) (Q : VK) : Prop :=
  match o with
  | .ok d => ∃ ds, d = .list ds ∧ ∀ p xs H' H0', Grow H H0 H' H0' → H p = none → H' p = some (.lst xs) → H0' p = none → ds.length ≤ LIM → DqAll C.K H0' xs ds → Q (.ref p) H'
  | .exc c => ∀ cls dd H' H0', Grow H H0 H' H0' → ExR C.K C.mg H' c cls dd → W cls dd σ H'
  | .bad => False
def nF (C : PX) (W : WX) (f : FE) : TE := fun σ H Q => ∃ ρ H0, Rep C σ H H0 ρ ∧ nO C W σ H H0 (f ρ) Q
theorem freeze {H H0 H' H0' : Hp} {p : Addr} {o : HO} (g : Grow H H0 H' H0') (hp : H p = none) (hp' : H' p = some o) (h0 : H0' p = none) : Grow H H0 H' (upd H0' p o) := by
  refine ⟨g.a, g.z.trans (same_new h0 _), fun b u q => ?_, fun b h1 h2 => ?_⟩
  · by_cases z : b = p
    · subst z; rw [upd_same] at q; cases q; exact hp'
    · rw [upd_ne z] at q; exact g.i b u q
  · have z : b ≠ p := fun z => h1.ne (by rw [z]; exact hp)
    rw [upd_ne z]; exact g.f b h1 h2
section
variable {pr : Bool} {X : Cx} {B : Bs} {W : WX} {s sa sb : Bool} {a b e : Expr} {fa fb f : FE} {pos : Pos}
def IsL (f : FE) : Prop := ∀ ρ d, f ρ = .ok d → ∃ ds, d = .list ds
theorem d_of_n (hf : IsL f) (h : PE X e (nF (cx X B) W f)) : PE X e (eF (cx X B) W s f) := h.weak fun σ H Q ⟨ρ, H0, rp, q⟩ => ⟨ρ, H0, rp, by
  revert q
  cases c : f ρ with
  | ok d =>
    intro q
    obtain ⟨ds, rfl⟩ := hf ρ d c
    refine ⟨ds, rfl, fun p xs H' H0' g h1 h2 h3 h4 h5 => ?_⟩
    exact q (.ref p) H' _ (freeze g h1 h2 h3) (.of (.lst (.inl upd_same) h4 (h5.same (same_new h3 _))))
  | exc c => exact fun q => q
  | bad => exact fun q => q⟩
variable {es : List Expr} {fs : EV → R (List PyData)}
theorem n_lst (h : PA X es (aF (cx X B) W fs)) : PE X (.List es pos) (nF (cx X B) W (eLs fs)) := by
  refine (pe_lst h).weak fun σ H Q ⟨ρ, H0, rp, h⟩ => ⟨ρ, H0, rp, ?_⟩
  unfold eLs at h
  cases c : fs ρ with
  | bad => rw [c] at h; exact h
  | exc c' => rw [c] at h; exact h
  | ok ds =>
    rw [c] at h
    simp only [R.bind_ok, mkL] at h
    intro vs H' H0' g w
    by_cases hl : ds.length ≤ LIM
    · rw [if_pos hl] at h
      obtain ⟨es, e1, h⟩ := h
      cases e1
      refine ⟨by rw [w.length]; exact Nat.le_trans hl lim_line, fun p hp => ?_⟩
      exact h p vs _ _ (g.trans (Grow.mine g.i hp _)) (g.a.free hp) upd_same (g.i.free hp) hl w
    · rw [if_neg hl] at h; exact False.elim h
theorem n_list {p : Pos} (hm : X.mg "list" = none) (ha : PE X a (eF (cx X B) W sa fa)) (hg : Gl X "list" := by rfl) (he : starEach [a] X.env = (false, eval a X.env) :: starEach [] X.env := by rfl) : PE X (.Call (.Name "list" p) [a] [] pos) (nF (cx X B) W (e1 listD fa)) := by
  refine (pe_callTy call_list_of hg hm PyProof.Rows.boot_list (pa_cons ha pa_nil he) (by decide) (by decide) he rfl).weak fun σ H Q ⟨ρ, H0, rp, h⟩ => ⟨ρ, H0, rp, ?_⟩
  unfold e1 at h
  cases c : fa ρ with
  | bad => rw [c] at h; exact h
  | exc c' => rw [c] at h; exact h
  | ok d =>
    rw [c] at h
    simp only [R.bind_ok] at h
    intro v H' H0' g w
    cases d <;> try exact False.elim h
    · rename_i ds
      obtain ⟨es, e1, h⟩ := h
      cases e1
      obtain ⟨q, xs, rfl, h1, h2, h3⟩ := w.lst g.i
      exact ⟨q, xs, rfl, .inl (.inl h1), fun l hl => h l xs _ _ (g.trans (Grow.mine g.i hl _)) (g.a.free hl) upd_same (g.i.free hl) h2 h3⟩
    · rename_i ds
      obtain ⟨es, e1, h⟩ := h
      cases e1
      obtain ⟨q, xs, rfl, h1, h2, h3, _⟩ := w.tup g.i
      exact ⟨q, xs, rfl, .inr (sqt_same g.i h1), fun l hl => h l xs _ _ (g.trans (Grow.mine g.i hl _)) (g.a.free hl) upd_same (g.i.free hl) h2 h3⟩
def eLRng1 (f : FE) : FE := fun ρ => (iRng1 f ρ).bind fun ds => .ok (.list ds)
theorem n_lrng {p p2 pos2 : Pos} (hc : X.calm = true) (hm : X.mg "list" = none) (hm2 : X.mg "range" = none) (ha : PE X a (eF (cx X B) W sa fa)) (hg : Gl X "list" := by rfl) (hg2 : Gl X "range" := by rfl) (he : starEach [a] X.env = (false, eval a X.env) :: starEach [] X.env := by rfl)
    (he2 : starEach [.Call (.Name "range" p2) [a] [] pos2] X.env = (false, eval (.Call (.Name "range" p2) [a] [] pos2) X.env) :: starEach [] X.env := by rfl) : PE X (.Call (.Name "list" p) [.Call (.Name "range" p2) [a] [] pos2] [] pos) (nF (cx X B) W (eLRng1 fa)) := by
  refine (pe_listRg hc hg hm (prg_1 hg2 hm2 ha he) he2).weak fun σ H Q ⟨ρ, H0, rp, h⟩ => ⟨ρ, H0, rp, ?_⟩
  unfold eLRng1 iRng1 at h
  cases c : fa ρ with
  | bad => rw [c] at h; exact h
  | exc c' => rw [c] at h; exact h
  | ok d =>
    rw [c] at h
    simp only [R.bind_ok] at h
    intro v H' H0' g w
    cases d <;> try exact False.elim h
    rename_i n
    by_cases hn : n ≤ 100000 ∧ -100000 ≤ n
    · simp only [rng1D, hn, and_self, if_true, R.bind_ok] at h
      obtain ⟨es, e1, h⟩ := h
      cases e1
      refine ⟨n, w.int, ⟨by omega, by omega, by omega, by omega, by omega⟩, fun q hq => ?_⟩
      have hr := range_all (K := X.K) (H := H0') n.toNat
      have er : rgV 0 n = (List.range n.toNat).map fun i => V.int (0 + (i : Nat)) := by unfold rgV; rw [Int.sub_zero]
      rw [← er] at hr
      exact h q _ _ _ (g.trans (Grow.mine g.i hq _)) (g.a.free hq) upd_same (g.i.free hq) (by show (rangeL 0 n.toNat).length ≤ 100000; simp [rangeL]; omega) hr
    · simp only [rng1D, hn, if_false] at h
      exact False.elim h
theorem lc_readN {is : List Nat} {g : PyData → EV → R EV} {t : EV → R Bool} {fe : FE} {vs : List Nat} {fi : EV → R (List PyData)} {σ : St} {H : Hp} {Q : VK} {C : PX} (hsub : ∀ i ∈ is, i ∈ vs)
    (h : nF C W (eLc fi vs g t fe) σ H Q) : tLc (iF (pr := pr) C W false fi) (gF (pr := pr) C is g) (tF C WN t) (eF C WN true fe) vs σ H Q := by
  obtain ⟨ρ, H0, rp, h⟩ := h
  refine ⟨ρ, H0, rp, ?_⟩
  unfold eLc at h
  cases c : fi ρ with
  | bad => rw [c] at h; exact h
  | exc c' => rw [c] at h; exact h
  | ok items =>
    rw [c] at h
    simp only [R.bind_ok] at h
    cases c2 : lcGo g t fe (wipeE ρ vs) items with
    | bad => rw [c2] at h; exact False.elim h
    | exc c' => exact absurd c2 (lcGo_noexc _ _)
    | ok fin =>
      rw [c2] at h
      obtain ⟨fin', e1, h⟩ := h
      cases e1
      intro J H1 H01 g1 it D hD
      obtain ⟨hlim, it⟩ := it
      have it : ∀ H' H0', Same H1 H' → Same H01 H0' → Same H0' H' → ∀ i : Nat,
        (∀ d, items[i]? = some d → J.go i H' ∧ ∀ x H'', J.yld i H' x H'' → ∃ H0'', Grow H' H0' H'' H0'' ∧ Dr pr C.K H0'' x d) ∧ (i = items.length → J.stop i H') := it
      have hfl := lcGo_len c2
      refine ⟨fun i m Hi => m = items.length - i ∧ i ≤ items.length ∧ ∃ H0i acc da rest, Grow H1 H01 Hi H0i ∧ Hi D = some (.lst acc) ∧ H0i D = none ∧ DqAll C.K H0i acc da ∧ lcGo g t fe (wipeE ρ vs) (items.drop i) = .ok rest ∧ da ++ rest = fin,
        ⟨items.length, by simp, Nat.zero_le _, H01, [], [], fin, Grow.mine g1.i hD _, upd_same, g1.i.free hD, .nil, by simpa using c2, rfl⟩, ?_⟩
      rintro i m Hi ⟨rfl, hi, H0i, acc, da, rest, gi, hDi, h0D, hda, hgo, hfin⟩
      obtain ⟨it1, it2⟩ := it Hi H0i gi.a gi.z gi.i i
      by_cases hlt : i < items.length
      · right
        obtain ⟨go, yl⟩ := it1 items[i] (by simp [hlt])
        have edrop : items.drop i = items[i] :: items.drop (i + 1) := List.drop_eq_getElem_cons hlt
        rw [edrop] at hgo
        have hlen : da.length + rest.length = fin.length := by rw [← hfin, List.length_append]
        refine ⟨go, fun H' => ∃ H0i acc da rest, Grow H1 H01 H' H0i ∧ H' D = some (.lst acc) ∧ H0i D = none ∧ DqAll C.K H0i acc da ∧ lcGo g t fe (wipeE ρ vs) (items.drop (i + 1)) = .ok rest ∧ da ++ rest = fin,
          fun H' hn => ⟨items.length - (i + 1), by omega, rfl, hlt, hn⟩, fun x H' hy => ?_⟩
        obtain ⟨H0', g', dx⟩ := yl x H' hy
        have gA := gi.trans g'
        have rp' : Rep C (wipe σ vs) H' H0' (wipeE ρ vs) := ((rp.grow g1).grow gA).wipe vs
        have hD' : H' D = some (.lst acc) := g'.a _ _ hDi
        have h0D' : H0' D = none := g'.f D (hid hDi) h0D
        refine ⟨wipeE ρ vs, H0', items[i], rp', dx, ?_⟩
        unfold lcGo at hgo
        cases cg : g items[i] (wipeE ρ vs) with
        | bad => rw [cg] at hgo; simp at hgo
        | exc c' => rw [cg] at hgo; simp at hgo
        | ok ρ' =>
          rw [cg] at hgo
          simp only at hgo
          intro σ2 r2 hw
          refine ⟨by rw [hw vs hsub]; exact List.ext_getElem? fun j => by rw [wipe_get, wipe_get]; by_cases z : j ∈ vs <;> simp [z] <;> rfl, ρ', H0', r2, ?_⟩
          cases ct : t ρ' with
          | bad => rw [ct] at hgo; simp at hgo
          | exc c' => rw [ct] at hgo; simp at hgo
          | ok b =>
            rw [ct] at hgo
            intro H3 H03 g3
            have hD3 : H3 D = some (.lst acc) := g3.a _ _ hD'
            have h0D3 : H03 D = none := g3.f D (hid hD') h0D'
            cases b with
            | false =>
              simp only at hgo
              exact ⟨H03, acc, da, rest, gA.trans g3, hD3, h0D3, (hda.same g'.z).same g3.z, hgo, hfin⟩
            | true =>
              simp only at hgo
              refine ⟨ρ', H03, r2.grow g3, ?_⟩
              cases ce : fe ρ' with
              | bad => rw [ce] at hgo; simp at hgo
              | exc c' => rw [ce] at hgo; simp at hgo
              | ok yd =>
                rw [ce] at hgo
                simp only at hgo
                cases cr : lcGo g t fe (wipeE ρ vs) (items.drop (i + 1)) with
                | bad => rw [cr] at hgo; simp at hgo
                | exc c' => rw [cr] at hgo; simp at hgo
                | ok rest' =>
                  rw [cr] at hgo
                  simp only [R.bind_ok, R.ok.injEq] at hgo
                  intro y H4 H04 g4 w4
                  have hD4 : H4 D = some (.lst acc) := g4.a _ _ hD3
                  have h0D4 : H04 D = none := g4.f D (hid hD3) h0D3
                  have gB := (gA.trans g3).trans g4
                  refine ⟨acc, hD4, ?_, H04, acc ++ [y], da ++ [yd], rest', ?_, upd_same, h0D4, (((hda.same g'.z).same g3.z).same g4.z).append (.cons w4.strong .nil), rfl, by rw [← hfin, ← hgo]; simp⟩
                  · rw [hda.length]
                    apply lim_lt
                    rw [← hgo, List.length_cons] at hlen
                    have : LIM = 100000 := rfl
                    omega
                  · refine ⟨fun b o q => ?_, gB.z, fun b o q => ?_, gB.f⟩
                    · rw [upd_ne (ne_of_none q hD)]; exact gB.a b o q
                    · rw [upd_ne (ne_of_none q h0D4)]; exact gB.i b o q
      · left
        have e : i = items.length := by omega
        refine ⟨it2 e, ?_⟩
        rw [e, List.drop_length] at hgo
        simp only [lcGo, R.ok.injEq] at hgo
        subst hgo
        rw [List.append_nil] at hfin
        subst hfin
        exact h D acc Hi H0i (g1.trans gi) (g1.a.free hD) hDi h0D (Nat.le_trans hfl hlim) hda
theorem isL_lc {fi : EV → R (List PyData)} {vs : List Nat} {g : PyData → EV → R EV} {t : EV → R Bool} {f : FE} : IsL (eLc fi vs g t f) := fun ρ d h => by
  unfold eLc at h
  cases c : fi ρ with
  | bad => rw [c] at h; cases h
  | exc c' => rw [c] at h; cases h
  | ok items =>
    rw [c] at h
    simp only [R.bind_ok] at h
    cases c2 : lcGo g t f (wipeE ρ vs) items with
    | bad => rw [c2] at h; cases h
    | exc c' => rw [c2] at h; cases h
    | ok ds => rw [c2] at h; simp only [R.bind_ok, R.ok.injEq] at h; exact ⟨ds, h.symm⟩
theorem n_lc {elt tg iter : Expr} {ifs : List Expr} {scope : Scope} {own : List (Str × Nat)} {is : List Nat} {g : PyData → EV → R EV} {t : EV → R Bool} {fe : FE} {fi : EV → R (List PyData)} (hc : X.calm = true) (hN : X.N.Nodup) (ok : BlkOk X.N X.env.scope scope own) (hi : PI X tg iter (iF (pr := pr) (cx X B) W false fi))
    (hg : ∀ (s : Shared) (H : Hp) (C : Addr) (cl : List (Str × Addr)) (fp : List Addr), PG (X.blk s H scope (compEnvC scope cl C X.env) fp) tg (gF (pr := pr) (cx X B) is g)) (ht : ∀ (s : Shared) (H : Hp) (C : Addr) (cl : List (Str × Addr)) (fp : List Addr), PTs (X.blk s H scope (compEnvC scope cl C X.env) fp) ifs (tF (cx X B) WN t))
    (he : ∀ (s : Shared) (H : Hp) (C : Addr) (cl : List (Str × Addr)) (fp : List Addr), PE (X.blk s H scope (compEnvC scope cl C X.env) fp) elt (eF (cx X B) WN true fe)) (hsub : ∀ i ∈ is, i ∈ own.map (·.2) := by decide) (hs : ∀ x, foldedSetIterable iter X.env x = pure x := by intro _; rfl) :
    PE X (.ListComp elt [⟨tg, iter, ifs, 0⟩] scope pos) (nF (cx X B) W (eLc fi (own.map (·.2)) g t fe)) :=
  (pe_lc hc hN hi ok hg ht he hs).weak fun σ H Q h => lc_readN hsub h
theorem d_lc {elt tg iter : Expr} {ifs : List Expr} {scope : Scope} {own : List (Str × Nat)} {is : List Nat} {g : PyData → EV → R EV} {t : EV → R Bool} {fe : FE} {fi : EV → R (List PyData)} (hc : X.calm = true) (hN : X.N.Nodup) (ok : BlkOk X.N X.env.scope scope own) (hi : PI X tg iter (iF (pr := pr) (cx X B) W false fi))
    (hg : ∀ (s : Shared) (H : Hp) (C : Addr) (cl : List (Str × Addr)) (fp : List Addr), PG (X.blk s H scope (compEnvC scope cl C X.env) fp) tg (gF (pr := pr) (cx X B) is g)) (ht : ∀ (s : Shared) (H : Hp) (C : Addr) (cl : List (Str × Addr)) (fp : List Addr), PTs (X.blk s H scope (compEnvC scope cl C X.env) fp) ifs (tF (cx X B) WN t))
    (he : ∀ (s : Shared) (H : Hp) (C : Addr) (cl : List (Str × Addr)) (fp : List Addr), PE (X.blk s H scope (compEnvC scope cl C X.env) fp) elt (eF (cx X B) WN true fe)) (hsub : ∀ i ∈ is, i ∈ own.map (·.2) := by decide) (hs : ∀ x, foldedSetIterable iter X.env x = pure x := by intro _; rfl) :
    PE X (.ListComp elt [⟨tg, iter, ifs, 0⟩] scope pos) (eF (cx X B) W s (eLc fi (own.map (·.2)) g t fe)) := d_of_n isL_lc (n_lc hc hN ok hi hg ht he hsub hs)
end
end CP
namespace CP
open PySem L2
section
variable {C : PX} {σ : St} {H H0 H1 H01 : Hp} {ρ : EV}
theorem Rep.setOwn (r : Rep C σ H H0 ρ) {v : V} {sv : SV} (hv : SVRep C H H0 v sv) (hne : ∀ (j : Nat) sj w a, ρ[j]? = some (some sj) → σ[j]? = some (some w) → Own H w sj a → ¬ Own H v sv a) (i : Nat) : Rep C (σ.set i (some v)) H H0 (ρ.set i (some sv)) := by
  have hl := r.len
  have at' : ∀ (j : Nat) sj, (ρ.set i (some sv))[j]? = some (some sj) → (j = i ∧ sj = sv ∧ i < ρ.length) ∨ (i ≠ j ∧ ρ[j]? = some (some sj)) := fun j sj e => by
    by_cases hj : i = j
    · subst hj
      have hlt : i < ρ.length := by
        have := (List.getElem?_eq_some_iff.mp e).1
        rwa [List.length_set] at this
      rw [List.getElem?_set_self hlt] at e
      cases e
      exact .inl ⟨rfl, rfl, hlt⟩
    · rw [List.getElem?_set_ne hj] at e
      exact .inr ⟨hj, e⟩
  refine ⟨r.bas, by rw [List.length_set, List.length_set]; exact r.len, fun j sj e => ?_, fun j k sj sk u w a e1 e2 e3 e4 o1 o2 => ?_⟩
  · rcases at' j sj e with ⟨rfl, rfl, hlt⟩ | ⟨hj, e⟩
    · exact ⟨v, by rw [List.getElem?_set_self (by omega)], hv⟩
    · obtain ⟨u, h1, h2⟩ := r.at_ j sj e
      exact ⟨u, by rw [List.getElem?_set_ne hj]; exact h1, h2⟩
  · rcases at' j sj e1 with ⟨ej, es, hlt⟩ | ⟨hj, e1'⟩
    · rcases at' k sk e2 with ⟨ek, _, _⟩ | ⟨hk, e2'⟩
      · rw [ej, ek]
      · rw [ej, List.getElem?_set_self (by omega)] at e3
        cases e3
        rw [List.getElem?_set_ne hk] at e4
        subst es
        exact absurd o1 (hne k sk w a e2' e4 o2)
    · rw [List.getElem?_set_ne hj] at e3
      rcases at' k sk e2 with ⟨ek, es, hlt⟩ | ⟨hk, e2'⟩
      · rw [ek, List.getElem?_set_self (by omega)] at e4
        cases e4
        subst es
        exact absurd o2 (hne j sj u a e1' e3 o1)
      · rw [List.getElem?_set_ne hk] at e4
        exact r.sep j k sj sk u w a e1' e2' e3 e4 o1 o2
theorem Rep.mut (r : Rep C σ H H0 ρ) {i : Nat} {si sv : SV} {p : Addr} {o : HO} (hi : ρ[i]? = some (some si)) (ho : si.own = true) (hs : σ[i]? = some (some (.ref p))) (h0 : H0 p = none) (hb : C.B.h p = none) (hv : SVRep C (upd H p o) H0 (.ref p) sv) (hso : ∀ a, Own (upd H p o) (.ref p) sv a → a = p) :
    Rep C σ (upd H p o) H0 (ρ.set i (some sv)) := by
  have hl := r.len
  have hlt : i < ρ.length := (List.getElem?_eq_some_iff.mp hi).1
  have at' : ∀ (j : Nat) sj, (ρ.set i (some sv))[j]? = some (some sj) → (j = i ∧ sj = sv) ∨ (i ≠ j ∧ ρ[j]? = some (some sj)) := fun j sj e => by
    by_cases hj : i = j
    · subst hj
      rw [List.getElem?_set_self hlt] at e
      cases e
      exact .inl ⟨rfl, rfl⟩
    · rw [List.getElem?_set_ne hj] at e
      exact .inr ⟨hj, e⟩
  refine ⟨⟨fun b u q => ?_, r.bas.z, fun b u q => ?_, r.bas.f⟩, by rw [List.length_set]; exact r.len, fun j sj e => ?_, fun j k sj sk u w a e1 e2 e3 e4 o1 o2 => ?_⟩
  · rw [upd_ne (ne_of_none q hb)]; exact r.bas.a b u q
  · rw [upd_ne (ne_of_none q h0)]; exact r.bas.i b u q
  · rcases at' j sj e with ⟨rfl, rfl⟩ | ⟨hj, e⟩
    · exact ⟨_, hs, hv⟩
    · obtain ⟨u, h1, h2⟩ := r.at_ j sj e
      refine ⟨u, h1, ?_⟩
      cases sj with
      | d x => exact h2
      | x c => exact h2
      | v ss kk => exact h2
      | l ds =>
        obtain ⟨q, xs, rfl, k1, k2⟩ := h2
        have ne : q ≠ p := fun z => hj (r.sep0 i j si _ p hi e hs (by rw [← z]; exact h1) ho rfl)
        exact ⟨q, xs, rfl, by rw [upd_ne ne]; exact k1, k2⟩
      | m kvs =>
        obtain ⟨q, xs, rfl, k1, k2⟩ := h2
        have ne : q ≠ p := fun z => hj (r.sep0 i j si _ p hi e hs (by rw [← z]; exact h1) ho rfl)
        exact ⟨q, xs, rfl, by rw [upd_ne ne]; exact k1, k2⟩
      | r ss kk =>
        have nq : ∀ a, Own H u (.r ss kk) a → a ≠ p := fun a oa z => hj (r.sep i j si _ _ _ p hi e hs h1 (Own.self ho rfl) (z ▸ oa))
        obtain ⟨q, c, dx, fs, q2, xs, rfl, k1, km, kz, kf1, kf2, kf3, kq, k2⟩ := h2
        have n1 : q ≠ p := nq q (.inl rfl)
        have n2 : q2 ≠ p := nq q2 (.inr ⟨_, _, _, _, rfl, k1, kf1⟩)
        exact ⟨q, c, dx, fs, q2, xs, rfl, by rw [upd_ne n1]; exact k1, km, kz, kf1, kf2, kf3, by rw [upd_ne n2]; exact kq, k2⟩
  · have kp : ∀ (m : Nat) (sm : SV) (x : V) (hm : i ≠ m) (em : ρ[m]? = some (some sm)) (ex : σ[m]? = some (some x)) (om : sm.own = true), ∀ b ob, x = .ref b → H b = some ob → upd H p o b = some ob := fun m sm x hm em ex om b ob e5 e6 => by
      have ne : b ≠ p := fun z => hm (r.sep0 i m si sm p hi em hs (by rw [ex, e5, z]) ho om)
      rw [upd_ne ne]; exact e6
    rcases at' j sj e1 with ⟨ej, es⟩ | ⟨hj, e1'⟩
    · rcases at' k sk e2 with ⟨ek, _⟩ | ⟨hk, e2'⟩
      · rw [ej, ek]
      · rw [ej, hs] at e3
        cases e3
        subst es
        obtain rfl := hso a o1
        rw [ej]
        exact r.sep i k si sk _ w a hi e2' hs e4 (Own.self ho rfl) (o2.back (r.at1 e2' e4) (kp k sk w hk e2' e4 o2.own))
    · rcases at' k sk e2 with ⟨ek, es⟩ | ⟨hk, e2'⟩
      · rw [ek, hs] at e4
        cases e4
        subst es
        obtain rfl := hso a o2
        rw [ek]
        exact r.sep j i sj si u _ a e1' hi e3 hs (o1.back (r.at1 e1' e3) (kp j sj u hj e1' e3 o1.own)) (Own.self ho rfl)
      · exact r.sepB e1' e2' e3 e4 (kp j sj u hj e1' e3 o1.own) (kp k sk w hk e2' e4 o2.own) o1 o2
theorem Rep.freeze (r : Rep C σ H H0 ρ) {i : Nat} {ds : List PyData} (hi : ρ[i]? = some (some (.l ds))) : ∃ H0', Same H0 H0' ∧ Rep C σ H H0' (ρ.set i (some (.d (.list ds)))) ∧ ∃ v, σ[i]? = some (some v) ∧ Dq C.K H0' v (.list ds) := by
  obtain ⟨v, hs, p, xs, rfl, k1, k2, k3, k4, k5⟩ := r.at_ i _ hi
  have hl := r.len
  have hlt : i < ρ.length := (List.getElem?_eq_some_iff.mp hi).1
  have sn : Same H0 (upd H0 p (.lst xs)) := same_new k2 _
  have hd : Dq C.K (upd H0 p (.lst xs)) (.ref p) (.list ds) := .lst (.inl upd_same) k4 (k5.same sn)
  have at' : ∀ (j : Nat) sj, (ρ.set i (some (.d (.list ds))))[j]? = some (some sj) → (j = i ∧ sj = .d (.list ds)) ∨ (i ≠ j ∧ ρ[j]? = some (some sj)) := fun j sj e => by
    by_cases hj : i = j
    · subst hj
      rw [List.getElem?_set_self hlt] at e
      cases e
      exact .inl ⟨rfl, rfl⟩
    · rw [List.getElem?_set_ne hj] at e
      exact .inr ⟨hj, e⟩
  refine ⟨upd H0 p (.lst xs), sn, ⟨⟨r.bas.a, r.bas.z.trans sn, fun b u q => ?_, fun b h1 h2 => ?_⟩, by rw [List.length_set]; exact r.len, fun j sj e => ?_, fun j k sj sk u w a e1 e2 e3 e4 o1 o2 => ?_⟩, _, hs, hd⟩
  · by_cases z : b = p
    · subst z; rw [upd_same] at q; cases q; exact k1
    · rw [upd_ne z] at q; exact r.bas.i b u q
  · have z : b ≠ p := fun z => h1.ne (by rw [z]; exact k3)
    rw [upd_ne z]; exact r.bas.f b h1 h2
  · rcases at' j sj e with ⟨rfl, rfl⟩ | ⟨hj, e⟩
    · exact ⟨_, hs, hd⟩
    · obtain ⟨u, h1, h2⟩ := r.at_ j sj e
      refine ⟨u, h1, ?_⟩
      cases sj with
      | d x => exact Dq.same sn (show Dq C.K H0 u x from h2)
      | x c => exact h2
      | v ss kk => exact VRep.same h2 sn
      | l es =>
        obtain ⟨q, ys, rfl, m1, m2, m3, m4, m5⟩ := h2
        have ne : q ≠ p := fun z => hj (r.sep0 i j _ _ p hi e hs (by rw [← z]; exact h1) rfl rfl)
        exact ⟨q, ys, rfl, m1, by rw [upd_ne ne]; exact m2, m3, m4, m5.same sn⟩
      | m kvs =>
        obtain ⟨q, ys, rfl, m1, m2, m3, m4⟩ := h2
        have ne : q ≠ p := fun z => hj (r.sep0 i j _ _ p hi e hs (by rw [← z]; exact h1) rfl rfl)
        exact ⟨q, ys, rfl, m1, by rw [upd_ne ne]; exact m2, m3, m4.same sn⟩
      | r ss kk =>
        have nq : ∀ a, Own H u (.r ss kk) a → a ≠ p := fun a oa z => hj (r.sep i j _ _ _ _ p hi e hs h1 rfl (z ▸ oa))
        obtain ⟨q, c, dx, fs, q2, ys, rfl, m1, mm, mz, mf1, mf2, mf3, mq, m2, m2q, m3, m3q, m4, m5⟩ := h2
        have n1 : q ≠ p := nq q (.inl rfl)
        have n2 : q2 ≠ p := nq q2 (.inr ⟨_, _, _, _, rfl, m1, mf1⟩)
        exact ⟨q, c, dx, fs, q2, ys, rfl, m1, mm, mz, mf1, mf2, mf3, mq, by rw [upd_ne n1]; exact m2, by rw [upd_ne n2]; exact m2q, m3, m3q, m4, m5.same sn⟩
  · have ne : ∀ (m : Nat) (sm : SV), (ρ.set i (some (.d (.list ds))))[m]? = some (some sm) → sm.own = true → ρ[m]? = some (some sm) := fun m sm e o => by
      rcases at' m sm e with ⟨_, rfl⟩ | ⟨_, e⟩
      · cases o
      · exact e
    exact r.sep j k sj sk u w a (ne j sj e1 o1.own) (ne k sk e2 o2.own) e3 e4 o1 o2
end
section
variable {pr : Bool} {X : Cx} {B : Bs} {W : WX} {s sa sb : Bool} {a b e : Expr} {fa fb f : FE} {pos : Pos} {st : Stmt} {rest : List Stmt} {g g2 : FS}
def sSeq (g g2 : FS) : FS := fun ρ => match g ρ with
  | .next ρ' => g2 ρ'
  | o => o
def sNil : FS := fun ρ => .next ρ
theorem ss_n : PSs X [] (sF (cx X B) W sNil) := pss_nil.weak fun D σ H ⟨ρ, H0, rp, h⟩ => h σ H H0 (Same.refl _) rp
theorem ss_c (h1 : PS X st (sF (cx X B) W g)) (h2 : PSs X rest (sF (cx X B) W g2)) : PSs X (st :: rest) (sF (cx X B) W (sSeq g g2)) := by
  refine (pss_cons h1 h2).weak fun D σ H ⟨ρ, H0, rp, h⟩ => ⟨ρ, H0, rp, ?_⟩
  unfold sSeq at h
  cases c : g ρ with
  | next ρ' => rw [c] at h; exact fun σ' H' H0' e r' => ⟨ρ', H0', r', h.grow e⟩
  | brk ρ' => rw [c] at h; exact h
  | cont ρ' => rw [c] at h; exact h
  | ret d => rw [c] at h; exact h
  | exc c' => rw [c] at h; exact h
  | bad => rw [c] at h; exact h
theorem ss_1 (h1 : PS X st (sF (cx X B) W g)) : PSs X [st] (sF (cx X B) W g) := pss_one h1
def sFrz (i : Nat) : FS := fun ρ => match ρ[i]? with
  | some (some (.l ds)) => .next (ρ.set i (some (.d (.list ds))))
  | _ => .bad
theorem ss_frz (i : Nat) (h : PSs X rest (sF (cx X B) W g)) : PSs X rest (sF (cx X B) W (sSeq (sFrz i) g)) := by
  refine h.weak fun D σ H ⟨ρ, H0, rp, q⟩ => ?_
  unfold sSeq sFrz at q
  cases hi : ρ[i]? with
  | none => rw [hi] at q; exact q.elim
  | some o =>
    cases o with
    | none => rw [hi] at q; exact q.elim
    | some sv =>
      cases sv with
      | d _ => rw [hi] at q; exact q.elim
      | m _ => rw [hi] at q; exact q.elim
      | x _ => rw [hi] at q; exact q.elim
      | r _ _ => rw [hi] at q; exact q.elim
      | v _ _ => rw [hi] at q; exact q.elim
      | l ds =>
        rw [hi] at q
        obtain ⟨H0', e, r', _⟩ := rp.freeze hi
        exact ⟨_, H0', r', sO.grow q e⟩
def sSet (i : Nat) (f : FE) : FS := fun ρ => match f ρ with
  | .ok d => .next (ρ.set i (some (.d d)))
  | .exc c => .exc c ρ
  | .bad => .bad
theorem rep_of {C : PX} {σ : St} {H H0 H' H0' : Hp} {ρ : EV} (rp : Rep C σ H H0 ρ) (g : Grow H H0 H' H0') : Grow C.B.h C.B.z H' H0' := (rp.grow g).bas
theorem s_set (i : Nat) {x : Str} {pos' : Pos} (hN : X.N.Nodup) (he : PE X e (eF (cx X B) W true f)) (hi : X.N[i]? = some x := by rfl) (hx : Loc X.env.scope x := by first | exact Or.inl rfl | exact Or.inr rfl) (hs : swapsWith e (some (.Name x pos')) pos.line X.env = pure false := by rfl) (hf : X.fn x = true ∨ X.env.scope.names.lookup x = some .local := by first | exact .inl rfl | exact .inr rfl | assumption) :
    PS X (.Assign [.Name x pos'] e pos) (sF (cx X B) W (sSet i f)) := by
  refine (ps_set hN hi hx he hs hf).weak fun D σ H ⟨ρ, H0, rp, h⟩ => ⟨ρ, H0, rp, ?_⟩
  unfold sSet at h
  cases c : f ρ with
  | bad => rw [c] at h; exact h
  | exc c' => rw [c] at h; exact fun cls dd H' H0' g x => h cls dd σ H' H0' g.z (rp.grow g) x
  | ok d => rw [c] at h; exact fun v H' H0' g w => h _ H' H0' g.z ((rp.grow g).set w.strong i)
def sOwn (i : Nat) (f : FE) : FS := fun ρ => match f ρ with
  | .ok (.list ds) => .next (ρ.set i (some (.l ds)))
  | .exc c => .exc c ρ
  | _ => .bad
theorem Own.there {C : PX} {H H0 : Hp} {v : V} {sv : SV} {a : Addr} (r : SVRep C H H0 v sv) (h : Own H v sv a) : H a ≠ none := by
  cases sv with
  | d _ => exact h.elim
  | x _ => exact h.elim
  | v _ _ => exact h.elim
  | l ds => obtain ⟨q, xs, rfl, k1, _⟩ := r; cases h; rw [k1]; intro z; cases z
  | m ds => obtain ⟨q, xs, rfl, k1, _⟩ := r; cases h; rw [k1]; intro z; cases z
  | r ss k =>
    obtain ⟨q, c, dx, fs, q2, xs, rfl, k1, km, kz, kf1, kf2, kf3, kq, _⟩ := r
    rcases h with h | ⟨p, c', dx', fs', e1, e2, e3⟩
    · cases h; rw [k1]; intro z; cases z
    · cases e1
      rw [k1] at e2
      cases e2
      rw [kf1] at e3
      cases e3
      rw [kq]; intro z; cases z
theorem own_ne {C : PX} {σ : St} {H H0 H' : Hp} {ρ : EV} (rp : Rep C σ H H0 ρ) {p : Addr} (g : Same H H') (hp : H p = none) {j : Nat} {sj : SV} {w : V} {a : Addr} (e : ρ[j]? = some (some sj)) (es : σ[j]? = some (some w)) (o : Own H' w sj a) : a ≠ p := fun z =>
  Own.there (rp.at1 e es) (o.back (rp.at1 e es) fun b ob _ q => g b ob q) (by rw [z]; exact hp)
theorem sOwn_read {i : Nat} {D : Ends} {σ : St} {H : Hp} {C : PX} (h : sF C W (sOwn i f) D σ H) : nF C W f σ H fun x H1 => gName i x σ H1 D.nx := by
  obtain ⟨ρ, H0, rp, h⟩ := h
  refine ⟨ρ, H0, rp, ?_⟩
  unfold sOwn at h
  cases c : f ρ with
  | bad => rw [c] at h; exact h
  | exc c' => rw [c] at h; exact fun cls dd H' H0' g x => h cls dd σ H' H0' g.z (rp.grow g) x
  | ok d =>
    rw [c] at h
    cases d <;> try exact False.elim h
    rename_i ds
    refine ⟨ds, rfl, fun p xs H' H0' g h1 h2 h3 h4 h5 => ?_⟩
    refine h _ H' H0' g.z ((rp.grow g).setOwn (v := .ref p) (sv := .l ds) ⟨p, xs, rfl, h2, h3, rp.bas.a.free h1, h4, h5⟩ (fun j sj w a e es o z => ?_) i)
    exact own_ne rp g.a h1 e es o (by cases z; rfl)
theorem s_own (i : Nat) {x : Str} {pos' : Pos} (hN : X.N.Nodup) (he : PE X e (nF (cx X B) W f)) (hi : X.N[i]? = some x := by rfl) (hx : Loc X.env.scope x := by first | exact Or.inl rfl | exact Or.inr rfl) (hs : swapsWith e (some (.Name x pos')) pos.line X.env = pure false := by rfl) (hf : X.fn x = true ∨ X.env.scope.names.lookup x = some .local := by first | exact .inl rfl | exact .inr rfl | assumption) :
    PS X (.Assign [.Name x pos'] e pos) (sF (cx X B) W (sOwn i f)) := (ps_set hN hi hx he hs hf).weak fun D σ H h => sOwn_read h
theorem s_setLc (i : Nat) {y : Str} {py spos : Pos} {elt tg iter : Expr} {ifs : List Expr} {scope : Scope} {own : List (Str × Nat)} {is : List Nat} {g : PyData → EV → R EV} {t : EV → R Bool} {fe : FE} {fi : EV → R (List PyData)} (hc : X.calm = true) (hN : X.N.Nodup) (ok : BlkOk X.N X.env.scope scope own) (hi : PI X tg iter (iF (pr := pr) (cx X B) W false fi))
    (hg : ∀ (s : Shared) (H : Hp) (C : Addr) (cl : List (Str × Addr)) (fp : List Addr), PG (X.blk s H scope (compEnvC scope cl C X.env) fp) tg (gF (pr := pr) (cx X B) is g)) (ht : ∀ (s : Shared) (H : Hp) (C : Addr) (cl : List (Str × Addr)) (fp : List Addr), PTs (X.blk s H scope (compEnvC scope cl C X.env) fp) ifs (tF (cx X B) WN t))
    (he : ∀ (s : Shared) (H : Hp) (C : Addr) (cl : List (Str × Addr)) (fp : List Addr), PE (X.blk s H scope (compEnvC scope cl C X.env) fp) elt (eF (cx X B) WN true fe)) (hsw : swapsWith (.ListComp elt [⟨tg, iter, ifs, 0⟩] scope pos) (some (.Name y py)) spos.line X.env = pure true)
    (hy : X.N[i]? = some y := by rfl) (hyl : X.env.scope.names.lookup y = some .local := by rfl) (hsub : ∀ i ∈ is, i ∈ own.map (·.2) := by decide) (hs : ∀ x, foldedSetIterable iter X.env x = pure x := by intro _; rfl) :
    PS X (.Assign [.Name y py] (.ListComp elt [⟨tg, iter, ifs, 0⟩] scope pos) spos) (sF (cx X B) W (sSet i (eLc fi (own.map (·.2)) g t fe))) := by
  refine (ps_setLc hc hN hy hyl hsw hi ok hg ht he hs).weak fun D σ H ⟨ρ, H0, rp, h⟩ => lc_readN hsub ⟨ρ, H0, rp, ?_⟩
  unfold sSet at h
  cases c : eLc fi (own.map (·.2)) g t fe ρ with
  | bad => rw [c] at h; exact h
  | exc c' => rw [c] at h; exact fun cls dd H' H0' g x => h cls dd σ H' H0' g.z (rp.grow g) x
  | ok d =>
    rw [c] at h
    obtain ⟨ds, rfl⟩ := isL_lc ρ d c
    refine ⟨ds, rfl, fun p xs H' H0' g h1 h2 h3 h4 h5 => ?_⟩
    have gz := CP.freeze g h1 h2 h3
    exact h _ H' _ gz.z ((rp.grow gz).set (.lst (.inl upd_same) h4 (h5.same (same_new h3 _))) i)
theorem s_ownLc (i : Nat) {y : Str} {py spos : Pos} {elt tg iter : Expr} {ifs : List Expr} {scope : Scope} {own : List (Str × Nat)} {is : List Nat} {g : PyData → EV → R EV} {t : EV → R Bool} {fe : FE} {fi : EV → R (List PyData)} (hc : X.calm = true) (hN : X.N.Nodup) (ok : BlkOk X.N X.env.scope scope own) (hi : PI X tg iter (iF (pr := pr) (cx X B) W false fi))
    (hg : ∀ (s : Shared) (H : Hp) (C : Addr) (cl : List (Str × Addr)) (fp : List Addr), PG (X.blk s H scope (compEnvC scope cl C X.env) fp) tg (gF (pr := pr) (cx X B) is g)) (ht : ∀ (s : Shared) (H : Hp) (C : Addr) (cl : List (Str × Addr)) (fp : List Addr), PTs (X.blk s H scope (compEnvC scope cl C X.env) fp) ifs (tF (cx X B) WN t))
    (he : ∀ (s : Shared) (H : Hp) (C : Addr) (cl : List (Str × Addr)) (fp : List Addr), PE (X.blk s H scope (compEnvC scope cl C X.env) fp) elt (eF (cx X B) WN true fe)) (hsw : swapsWith (.ListComp elt [⟨tg, iter, ifs, 0⟩] scope pos) (some (.Name y py)) spos.line X.env = pure true)
    (hy : X.N[i]? = some y := by rfl) (hyl : X.env.scope.names.lookup y = some .local := by rfl) (hsub : ∀ i ∈ is, i ∈ own.map (·.2) := by decide) (hs : ∀ x, foldedSetIterable iter X.env x = pure x := by intro _; rfl) :
    PS X (.Assign [.Name y py] (.ListComp elt [⟨tg, iter, ifs, 0⟩] scope pos) spos) (sF (cx X B) W (sOwn i (eLc fi (own.map (·.2)) g t fe))) :=
  (ps_setLc hc hN hy hyl hsw hi ok hg ht he hs).weak fun D σ H h => lc_readN hsub (sOwn_read h)
def sTup (is : List Nat) (f : FE) : FS := fun ρ => match f ρ with
  | .ok d => match gT is d ρ with
    | .ok ρ' => .next ρ'
    | _ => .bad
  | .exc c => .exc c ρ
  | .bad => .bad
theorem gT_noexc {is : List Nat} {d : PyData} {ρ : EV} {c : Ex} : gT is d ρ ≠ .exc c := by
  unfold gT
  split
  · split <;> simp
  · simp
theorem s_tup {is : List Nat} {tg : Expr} (he : PE X e (eF (cx X B) W true f)) (hg : PG X tg (gF (pr := false) (cx X B) is (gT is))) (hs : swapsWithSole [tg] e pos.line X.env = pure false := by rfl) (hw : swappedStores [tg] e X.env = pure none := by rfl)
    (h1 : (assignEach [tg] X.env).map (·.2) = [assign tg X.env] := by rfl) : PS X (.Assign [tg] e pos) (sF (cx X B) W (sTup is f)) := by
  refine (ps_asg he hg hs hw h1).weak fun D σ H ⟨ρ, H0, rp, h⟩ => ⟨ρ, H0, rp, ?_⟩
  unfold sTup at h
  cases c : f ρ with
  | bad => rw [c] at h; exact h
  | exc c' => rw [c] at h; exact fun cls dd H' H0' g x => h cls dd σ H' H0' g.z (rp.grow g) x
  | ok d =>
    rw [c] at h
    intro v H' H0' g w
    refine ⟨ρ, H0', d, rp.grow g, .inl w.strong, ?_⟩
    simp only at h
    cases c2 : gT is d ρ with
    | bad => rw [c2] at h; exact h
    | exc c' => exact absurd c2 gT_noexc
    | ok ρ' => rw [c2] at h; exact fun σ' r' _ => h σ' H' H0' g.z r'
def sRet (f : FE) : FS := fun ρ => match f ρ with
  | .ok d => .ret d
  | .exc c => .exc c ρ
  | .bad => .bad
theorem s_ret (he : PE X e (eF (cx X B) W true f)) : PS X (.Return (some e) pos) (sF (cx X B) W (sRet f)) := by
  refine (ps_ret he).weak fun D σ H ⟨ρ, H0, rp, h⟩ => ⟨ρ, H0, rp, ?_⟩
  unfold sRet at h
  cases c : f ρ with
  | bad => rw [c] at h; exact h
  | exc c' => rw [c] at h; exact fun cls dd H' H0' g x => h cls dd σ H' H0' g.z (rp.grow g) x
  | ok d => rw [c] at h; exact fun v H' H0' g w => h v H' H0' (rep_of rp g) w.strong
theorem s_retL (i : Nat) {x : Str} {p : Pos} (hN : X.N[i]? = some x := by rfl) (hv : Vis X.env.scope x := by first | exact Or.inl rfl | exact Or.inr (Or.inl rfl) | exact Or.inr (Or.inr rfl)) (hd : (x == ("__debug__" : Str)) = false := by decide) (hcd : (x == ("__classdict__" : Str)) = false := by decide) :
    PS X (.Return (some (.Name x p)) pos) (sF (cx X B) W (sRet (eL i))) := by
  refine (ps_ret (pe_var hN hv hd hcd)).weak fun D σ H ⟨ρ, H0, rp, h⟩ => ?_
  unfold sRet eL at h
  cases q : ρ[i]? with
  | none => rw [q] at h; exact h.elim
  | some o =>
    cases o with
    | none => rw [q] at h; exact h.elim
    | some sv =>
      cases sv with
      | l ds =>
        rw [q] at h
        obtain ⟨H0', e, r', v, hs, hd⟩ := rp.freeze q
        exact ⟨v, hs, h v H H0' r'.bas hd⟩
      | d _ => rw [q] at h; exact h.elim
      | m _ => rw [q] at h; exact h.elim
      | x _ => rw [q] at h; exact h.elim
      | r _ _ => rw [q] at h; exact h.elim
      | v _ _ => rw [q] at h; exact h.elim
def sRetN : FS := fun _ => .ret .none
theorem s_retN : PS X (.Return none pos) (sF (cx X B) W sRetN) := ps_retN.weak fun D σ H ⟨ρ, H0, rp, h⟩ => h .non H H0 rp.bas .non
theorem s_pass : PS X (.Pass pos) (sF (cx X B) W sNil) := ps_pass.weak fun D σ H ⟨ρ, H0, rp, h⟩ => h σ H H0 (Same.refl _) rp
def sExpr (f : FE) : FS := fun ρ => match f ρ with
  | .ok _ => .next ρ
  | .exc c => .exc c ρ
  | .bad => .bad
theorem s_expr (he : PE X e (eF (cx X B) W s f)) (hs : swapsWith e none pos.line X.env = pure false := by rfl) : PS X (.Expr e pos) (sF (cx X B) W (sExpr f)) := by
  refine (ps_expr he hs).weak fun D σ H ⟨ρ, H0, rp, h⟩ => ⟨ρ, H0, rp, ?_⟩
  unfold sExpr at h
  cases c : f ρ with
  | bad => rw [c] at h; exact h
  | exc c' => rw [c] at h; exact fun cls dd H' H0' g x => h cls dd σ H' H0' g.z (rp.grow g) x
  | ok d => rw [c] at h; exact fun v H' H0' g w => h σ H' H0' g.z (rp.grow g)
def sIf (t : EV → R Bool) (g g2 : FS) : FS := fun ρ => match t ρ with
  | .ok true => g ρ
  | .ok false => g2 ρ
  | .exc c => .exc c ρ
  | .bad => .bad
theorem s_if {c : Expr} {l1 l2 : List Stmt} {t : EV → R Bool} (hc : PT X c (tF (cx X B) W t)) (h1 : PSs X l1 (sF (cx X B) W g)) (h2 : PSs X l2 (sF (cx X B) W g2)) : PS X (.If c l1 l2 pos) (sF (cx X B) W (sIf t g g2)) := by
  refine (ps_if hc h1 h2).weak fun D σ H ⟨ρ, H0, rp, h⟩ => ⟨ρ, H0, rp, ?_⟩
  unfold sIf at h
  cases c : t ρ with
  | bad => rw [c] at h; exact h
  | exc c' => rw [c] at h; exact fun cls dd H' H0' g x => h cls dd σ H' H0' g.z (rp.grow g) x
  | ok b =>
    rw [c] at h
    intro H' H0' g
    cases b with
    | true => exact ⟨ρ, H0', rp.grow g, h.grow g.z⟩
    | false => exact ⟨ρ, H0', rp.grow g, h.grow g.z⟩
theorem s_aug (i : Nat) {x : Str} {pos' : Pos} (hN : X.N.Nodup) (he : PE X e (eF (cx X B) W true f)) (hi : X.N[i]? = some x := by rfl) (hx : Loc X.env.scope x := by first | exact Or.inl rfl | exact Or.inr rfl) (hf : X.fn x = true ∨ X.env.scope.names.lookup x = some .local := by first | exact .inl rfl | exact .inr rfl | assumption) :
    PS X (.AugAssign (.Name x pos') .Add e pos) (sF (cx X B) W (sSet i (e2 (fun d e => match d, e with | .int m, .int n => .ok (.int (m + n)) | _, _ => .bad) (eV i) f))) := by
  refine (ps_aug hN hi hx he (ti := rI0 fun i j => .int (i + j)) iop_add hf).weak fun D σ H ⟨ρ, H0, rp, h⟩ => ?_
  unfold sSet e2 eV at h
  cases q : ρ[i]? with
  | none => rw [q] at h; exact h.elim
  | some o =>
    cases o with
    | none => rw [q] at h; exact h.elim
    | some sv =>
      cases sv with
      | l _ => rw [q] at h; exact h.elim
      | m _ => rw [q] at h; exact h.elim
      | x _ => rw [q] at h; exact h.elim
      | r _ _ => rw [q] at h; exact h.elim
      | v _ _ => rw [q] at h; exact h.elim
      | d dx =>
        rw [q] at h
        simp only [R.bind_ok] at h
        obtain ⟨v, hs, hr⟩ := rp.at_ i _ q
        refine ⟨v, hs, ρ, H0, rp, ?_⟩
        cases c : f ρ with
        | bad => rw [c] at h; exact h
        | exc c' => rw [c] at h; exact fun cls dd H' H0' g x => h cls dd σ H' H0' g.z (rp.grow g) x
        | ok dy =>
          rw [c] at h
          simp only [R.bind_ok] at h
          intro u H' H0' g w
          cases dx <;> cases dy <;> try exact False.elim h
          rename_i m n
          have hr : Dq X.K H0 v (.int m) := hr
          cases hr
          rw [w.int]
          exact ⟨m, n, rfl, rfl, h _ H' H0' g.z ((rp.grow g).set (.int _) i)⟩
def sApp (i : Nat) (f : FE) : FS := fun ρ => match ρ[i]? with
  | some (some (.l ds)) => match f ρ with
    | .ok d => if ds.length < LIM then .next (ρ.set i (some (.l (ds ++ [d])))) else .bad
    | .exc c => .exc c ρ
    | .bad => .bad
  | _ => .bad
theorem s_app (i : Nat) {x : Str} {p apos : Pos} (he : PE X e (eF (cx X B) W true f)) (hN : X.N[i]? = some x := by rfl) (hv : Vis X.env.scope x := by first | exact Or.inl rfl | exact Or.inr (Or.inl rfl) | exact Or.inr (Or.inr rfl)) (hd : (x == ("__debug__" : Str)) = false := by decide) (hcd : (x == ("__classdict__" : Str)) = false := by decide)
    {cpos : Pos} (hbase : attributeBase (.Name x p) "append" X.env (eval (.Name x p) X.env) = eval (.Name x p) X.env := by rfl)
    (hfew : ((backTo cpos (starEach [e] X.env)).all (fun x => !x.1) && (backToKw cpos (keywordEach [] X.env)).all (fun x => x.1.isSome)
      && decide ([e].length + ([] : List Keyword).length + (if ([] : List Keyword).isEmpty then 0 else 1) < 30)) = true := by rfl)
    (hline : (apos.endLine == cpos.line) = true := by rfl) (hs : starEach [e] X.env = (false, eval e X.env) :: starEach [] X.env := by rfl) (hsw : swapsWith (.Call (.Attribute (.Name x p) "append" apos) [e] [] cpos) none pos.line X.env = pure false := by rfl) :
    PS X (.Expr (.Call (.Attribute (.Name x p) "append" apos) [e] [] cpos) pos) (sF (cx X B) W (sApp i f)) := by
  refine (ps_expr (pe_bm PySem.F.plainAttrs_list PySem.F.slot_list_append PySem.F.type_list_append mt_append (pe_var hN hv hd hcd) (pa_cons he pa_nil hs) hbase hfew hline hs rfl) hsw).weak fun D σ H ⟨ρ, H0, rp, h⟩ => ?_
  unfold sApp at h
  cases q : ρ[i]? with
  | none => rw [q] at h; exact h.elim
  | some o =>
    cases o with
    | none => rw [q] at h; exact h.elim
    | some sv =>
      cases sv with
      | d _ => rw [q] at h; exact h.elim
      | m _ => rw [q] at h; exact h.elim
      | x _ => rw [q] at h; exact h.elim
      | r _ _ => rw [q] at h; exact h.elim
      | v _ _ => rw [q] at h; exact h.elim
      | l ds =>
        rw [q] at h
        obtain ⟨v, hs, pp, xs, rfl, k1, k2, k3, k4, k5⟩ := rp.at_ i _ q
        refine ⟨.ref pp, hs, .inl ⟨rfl, xs, .inl (.inl k1)⟩, ρ, H0, rp, ?_⟩
        simp only at h
        cases c : f ρ with
        | bad => rw [c] at h; exact h
        | exc c' => rw [c] at h; exact fun cls dd H' H0' g x => h cls dd σ H' H0' g.z (rp.grow g) x
        | ok d =>
          rw [c] at h
          simp only at h
          intro u H' H0' g w
          by_cases hl : ds.length < LIM
          · rw [if_pos hl] at h
            refine ⟨pp, xs, u, rfl, rfl, g.a _ _ k1, by rw [k5.length]; exact lim_lt hl, ?_⟩
            have k2' := g.f pp (hid k1) k2
            have hd' := (k5.same g.z).append (.cons w.strong .nil)
            refine h σ _ H0' g.z ((rp.grow g).mut (sv := .l (ds ++ [d])) q rfl hs k2' k3 ⟨pp, xs ++ [u], rfl, upd_same, k2', k3, by rw [List.length_append]; exact hl, hd'⟩ fun a z => by cases z; rfl)
          · rw [if_neg hl] at h; exact h.elim
theorem mt_extendR : MtR X "list.extend" (fun x vs H Q => ∃ l b xs zs, x = .ref l ∧ vs = [.ref b] ∧ H l = some (.lst xs) ∧ Rd H b (.lst zs) ∧ xs.length + zs.length ≤ sizeLine ∧ Q .non (upd H l (.lst (xs ++ zs)))) := by
  intro pins s σ H x vs v us Q I rx rv h
  obtain ⟨l, b, xs, zs, rfl, rfl, hH, hB, hz, q⟩ := h
  cases rx
  obtain ⟨u, rfl, ru⟩ := rv.one
  cases ru
  obtain ⟨z, its, n, r, hl, e⟩ := I.lstM hH
  obtain ⟨z2, its2, n2, r2, e2⟩ := hB.ok I.hok
  have hl2 := r2.length
  have hsz : its.toArray.size + its2.toArray.size ≤ sizeLine := by rw [List.size_toArray, List.size_toArray]; omega
  have hlong : ¬ (!its.toArray.isEmpty && Builtin.List.listTooLong (its.toArray.size + its2.toArray.size)) = true := by
    rw [notLongL hsz, Bool.and_false]
    exact Bool.false_ne_true
  refine call_meets F.slot_list_extend ⟨_, e, rfl⟩ F.entry_list_extend (F.args_list_extend_2 _ _)
    (AutoSeq1.list_extend_list_list_0 l its.toArray n b its2.toArray n2 hlong (by rw [List.size_toArray]; omega) (by omega)) ⟨e, e2, ?_⟩
  refine ⟨.non, _, I.lset (its' := its ++ its2) hH e (by simp) (r.append r2) ?_, rfl, q⟩
  rw [List.length_append]
  omega
def sExt (i : Nat) (f : FE) : FS := fun ρ => match ρ[i]? with
  | some (some (.l ds)) => match f ρ with
    | .ok (.list es) => if ds.length + es.length ≤ LIM then .next (ρ.set i (some (.l (ds ++ es)))) else .bad
    | .exc c => .exc c ρ
    | _ => .bad
  | _ => .bad
theorem s_ext (i : Nat) {x : Str} {p apos : Pos} (he : PE X e (eF (cx X B) W true f)) (hN : X.N[i]? = some x := by rfl) (hv : Vis X.env.scope x := by first | exact Or.inl rfl | exact Or.inr (Or.inl rfl) | exact Or.inr (Or.inr rfl)) (hd : (x == ("__debug__" : Str)) = false := by decide) (hcd : (x == ("__classdict__" : Str)) = false := by decide)
    {cpos : Pos} (hbase : attributeBase (.Name x p) "extend" X.env (eval (.Name x p) X.env) = eval (.Name x p) X.env := by rfl)
    (hfew : ((backTo cpos (starEach [e] X.env)).all (fun x => !x.1) && (backToKw cpos (keywordEach [] X.env)).all (fun x => x.1.isSome)
      && decide ([e].length + ([] : List Keyword).length + (if ([] : List Keyword).isEmpty then 0 else 1) < 30)) = true := by rfl)
    (hline : (apos.endLine == cpos.line) = true := by rfl) (hs : starEach [e] X.env = (false, eval e X.env) :: starEach [] X.env := by rfl) (hsw : swapsWith (.Call (.Attribute (.Name x p) "extend" apos) [e] [] cpos) none pos.line X.env = pure false := by rfl) :
    PS X (.Expr (.Call (.Attribute (.Name x p) "extend" apos) [e] [] cpos) pos) (sF (cx X B) W (sExt i f)) := by
  refine (ps_expr (pe_bm PySem.F.plainAttrs_list PySem.F.slot_list_extend PySem.F.type_list_extend mt_extendR (pe_var hN hv hd hcd) (pa_cons he pa_nil hs) hbase hfew hline hs rfl) hsw).weak fun D σ H ⟨ρ, H0, rp, h⟩ => ?_
  unfold sExt at h
  cases q : ρ[i]? with
  | none => rw [q] at h; exact h.elim
  | some o =>
    cases o with
    | none => rw [q] at h; exact h.elim
    | some sv =>
      cases sv with
      | d _ => rw [q] at h; exact h.elim
      | m _ => rw [q] at h; exact h.elim
      | x _ => rw [q] at h; exact h.elim
      | r _ _ => rw [q] at h; exact h.elim
      | v _ _ => rw [q] at h; exact h.elim
      | l ds =>
        rw [q] at h
        obtain ⟨v, hs, pp, xs, rfl, k1, k2, k3, k4, k5⟩ := rp.at_ i _ q
        refine ⟨.ref pp, hs, .inl ⟨rfl, xs, .inl (.inl k1)⟩, ρ, H0, rp, ?_⟩
        simp only at h
        cases c : f ρ with
        | bad => rw [c] at h; exact h
        | exc c' => rw [c] at h; exact fun cls dd H' H0' g x => h cls dd σ H' H0' g.z (rp.grow g) x
        | ok d =>
          rw [c] at h
          intro u H' H0' g w
          cases d <;> try exact False.elim h
          rename_i es
          simp only at h
          by_cases hl : ds.length + es.length ≤ LIM
          · rw [if_pos hl] at h
            obtain ⟨pb, zs, rfl, m1, m2, m3⟩ := w.lst g.i
            refine ⟨pp, pb, xs, zs, rfl, rfl, g.a _ _ k1, m1, by rw [k5.length, m3.length]; exact Nat.le_trans hl lim_line, ?_⟩
            have k2' := g.f pp (hid k1) k2
            have hd' := (k5.same g.z).append m3
            refine h σ _ H0' g.z ((rp.grow g).mut (sv := .l (ds ++ es)) q rfl hs k2' k3 ⟨pp, xs ++ zs, rfl, upd_same, k2', k3, by rw [List.length_append]; exact hl, hd'⟩ fun a z => by cases z; rfl)
          · rw [if_neg hl] at h; exact h.elim
def forGo (g : PyData → EV → R EV) (b : FS) : List PyData → EV → Out
  | [], ρ => .next ρ
  | d :: ds, ρ => match g d ρ with
    | .ok ρ1 => match b ρ1 with
      | .next ρ2 => forGo g b ds ρ2
      | .cont ρ2 => forGo g b ds ρ2
      | .brk ρ2 => .next ρ2
      | .ret d => .ret d
      | .exc c ρ2 => .exc c ρ2
      | .bad => .bad
    | _ => .bad
def sFor (fi : EV → R (List PyData)) (g : PyData → EV → R EV) (b : FS) : FS := fun ρ => match fi ρ with
  | .ok items => forGo g b items ρ
  | .exc c => .exc c ρ
  | .bad => .bad
theorem s_for {tg iter : Expr} {body : List Stmt} {is : List Nat} {fi : EV → R (List PyData)} {gt : PyData → EV → R EV} (hp : PassesOwn (model X.prog X.w) X.A X.env X.xe) (hc : X.calm = true) (hi : PI X tg iter (iF (pr := pr) (cx X B) W true fi)) (hg : PG X tg (gF (pr := pr) (cx X B) is gt)) (hb : PSs X body (sF (cx X B) W g))
    (hs : ∀ x, foldedSetIterable iter X.env x = pure x := by intro _; rfl) : PS X (.For tg iter body [] pos) (sF (cx X B) W (sFor fi gt g)) := by
  refine (ps_for hp hc hi hg hb hs).weak fun D σ H ⟨ρ, H0, rp, h⟩ => ⟨ρ, H0, rp, ?_⟩
  unfold sFor at h
  cases c : fi ρ with
  | bad => rw [c] at h; exact h
  | exc c' => rw [c] at h; exact fun cls dd H' H0' g x => h cls dd σ H' H0' g.z (rp.grow g) x
  | ok items =>
    rw [c] at h
    intro J H1 H01 g1 it
    obtain ⟨hlim, it⟩ := it
    have it : ∀ H' H0', Same H01 H' → Same H01 H0' → Same H0' H' → ∀ i : Nat,
        (∀ d, items[i]? = some d → J.go i H' ∧ ∀ x H'', J.yld i H' x H'' → ∃ H0'', Grow H' H0' H'' H0'' ∧ Dr pr X.K H0'' x d) ∧ (i = items.length → J.stop i H') := it
    refine ⟨fun i m σi Hi => m = items.length - i ∧ i ≤ items.length ∧ ∃ ρi H0i, Same H01 H0i ∧ Rep (cx X B) σi Hi H0i ρi ∧ sO (cx X B) W H0i D (forGo gt g (items.drop i) ρi),
      ⟨items.length, by simp, Nat.zero_le _, ρ, H01, Same.refl _, rp.grow g1, by simpa using h.grow g1.z⟩, ?_⟩
    rintro i m σi Hi ⟨rfl, hi, ρi, H0i, ez, ri, ho⟩
    obtain ⟨it1, it2⟩ := it Hi H0i (ez.trans ri.st) ez ri.st i
    by_cases hlt : i < items.length
    · right
      obtain ⟨go, yl⟩ := it1 items[i] (by simp [hlt])
      have edrop : items.drop i = items[i] :: items.drop (i + 1) := List.drop_eq_getElem_cons hlt
      rw [edrop] at ho
      unfold forGo at ho
      refine ⟨go, fun σ' H' => ∃ ρi H0i, Same H01 H0i ∧ Rep (cx X B) σ' H' H0i ρi ∧ sO (cx X B) W H0i D (forGo gt g (items.drop (i + 1)) ρi), fun σ' H' hn => ⟨items.length - (i + 1), by omega, rfl, hlt, hn⟩, fun x H' hy => ?_⟩
      obtain ⟨H0', g', dx⟩ := yl x H' hy
      refine ⟨ρi, H0', items[i], ri.grow g', dx, ?_⟩
      cases cg : gt items[i] ρi with
      | bad => rw [cg] at ho; exact ho
      | exc c' => rw [cg] at ho; exact ho
      | ok ρ1 =>
        rw [cg] at ho
        simp only at ho
        intro σ2 r2 _
        refine ⟨ρ1, H0', r2, ?_⟩
        have ho := ho.grow g'.z
        have ez' := ez.trans g'.z
        cases cb : g ρ1 with
        | next ρ2 => rw [cb] at ho; exact fun σ' H' H0'' e r' => ⟨ρ2, H0'', ez'.trans e, r', ho.grow e⟩
        | cont ρ2 => rw [cb] at ho; exact fun σ' H' H0'' e r' => ⟨ρ2, H0'', ez'.trans e, r', ho.grow e⟩
        | brk ρ2 => rw [cb] at ho; exact ho
        | ret d => rw [cb] at ho; exact ho
        | exc c' ρ2 => rw [cb] at ho; exact ho
        | bad => rw [cb] at ho; exact ho
    · left
      have e : i = items.length := by omega
      rw [e, List.drop_length] at ho
      exact ⟨it2 e, ho σi Hi H0i (Same.refl _) ri⟩
def whileGo (t : EV → R Bool) (b : FS) : Nat → EV → Out
  | 0, _ => .bad
  | n + 1, ρ => match t ρ with
    | .ok true => match b ρ with
      | .next ρ2 => whileGo t b n ρ2
      | .cont ρ2 => whileGo t b n ρ2
      | .brk ρ2 => .next ρ2
      | .ret d => .ret d
      | .exc c ρ2 => .exc c ρ2
      | .bad => .bad
    | .ok false => .next ρ
    | .exc c => .exc c ρ
    | .bad => .bad
theorem s_while {c : Expr} {body : List Stmt} {t : EV → R Bool} (n : Nat) (hp : PassesOwn (model X.prog X.w) X.A X.env X.xe) (hc : PT X c (tF (cx X B) W t)) (hb : PSs X body (sF (cx X B) W g)) : PS X (.While c body [] pos) (sF (cx X B) W (whileGo t g n)) := by
  refine (ps_while hp hc hb).weak fun D σ H ⟨ρ, H0, rp, h⟩ => ?_
  refine ⟨fun m σi Hi => ∃ ρi H0i, Rep (cx X B) σi Hi H0i ρi ∧ sO (cx X B) W H0i D (whileGo t g m ρi), ⟨n, ρ, H0, rp, h⟩, ?_⟩
  rintro m σi Hi ⟨ρi, H0i, ri, ho⟩
  refine ⟨ρi, H0i, ri, ?_⟩
  cases m with
  | zero => exact ho.elim
  | succ m =>
    unfold whileGo at ho
    cases ct : t ρi with
    | bad => rw [ct] at ho; exact ho
    | exc c' => rw [ct] at ho; exact fun cls dd H' H0' g x => ho cls dd σi H' H0' g.z (ri.grow g) x
    | ok b =>
      rw [ct] at ho
      intro H' H0' g'
      have ho := sO.grow ho g'.z
      cases b with
      | false => exact ho σi H' H0' (Same.refl _) (ri.grow g')
      | true =>
        refine ⟨fun σ' H' => ∃ ρi H0i, Rep (cx X B) σ' H' H0i ρi ∧ sO (cx X B) W H0i D (whileGo t g m ρi), fun σ' H' hn => ⟨m, Nat.lt_succ_self _, hn⟩, ρi, H0', ri.grow g', ?_⟩
        simp only at ho
        cases cb : g ρi with
        | next ρ2 => rw [cb] at ho; exact fun σ' H' H0'' e r' => ⟨ρ2, H0'', r', ho.grow e⟩
        | cont ρ2 => rw [cb] at ho; exact fun σ' H' H0'' e r' => ⟨ρ2, H0'', r', ho.grow e⟩
        | brk ρ2 => rw [cb] at ho; exact ho
        | ret d => rw [cb] at ho; exact ho
        | exc c' ρ2 => rw [cb] at ho; exact ho
        | bad => rw [cb] at ho; exact ho
theorem s_never : PS X st (sF (cx X B) W fun _ => .bad) := ps_never.weak fun D σ H ⟨ρ, H0, rp, h⟩ => h
end
def runF (m : Nat) (g : FS) (ds : List PyData) : R PyData := match g (ds.map (fun d => some (SV.d d)) ++ List.replicate (m - ds.length) none) with
  | .ret d => .ok d
  | .next _ => .ok .none
  | .exc c _ => .exc c
  | _ => .bad
theorem rep_start {K : PySem.W.Frag} {mg : Str → Option Value} {H H0 : Hp} {vs : List V} {ds : List PyData} (N : List Str) (i : Same H0 H) (hd : DqAll K H0 vs ds) :
    Rep ⟨K, mg, bs H H0⟩ (L2.start N vs) H H0 (ds.map (fun d => some (SV.d d)) ++ List.replicate (N.length - ds.length) none) := by
  have hl := hd.length
  have no : ∀ (j : Nat) sj, (ds.map (fun d => some (SV.d d)) ++ List.replicate (N.length - ds.length) none)[j]? = some (some sj) → ∃ d, ds[j]? = some d ∧ sj = .d d := fun j sj e => by
    by_cases hj : j < ds.length
    · rw [List.getElem?_append_left (by simpa using hj), List.getElem?_map] at e
      cases q : ds[j]? with
      | none => rw [q] at e; cases e
      | some d => rw [q] at e; cases e; exact ⟨d, rfl, rfl⟩
    · rw [List.getElem?_append_right (by simpa using hj), List.getElem?_replicate] at e
      split at e <;> cases e
  refine ⟨Grow.refl i, by unfold L2.start; simp [hl], fun j sj e => ?_, fun j k sj sk v w a e1 e2 e3 e4 o1 o2 => ?_⟩
  · obtain ⟨d, hd', rfl⟩ := no j sj e
    obtain ⟨v, hv, hq⟩ := hd.get hd'
    refine ⟨v, ?_, hq⟩
    unfold L2.start
    rw [List.getElem?_append_left (by have := (List.getElem?_eq_some_iff.mp hv).1; simpa using this), List.getElem?_map, hv]
    rfl
  · obtain ⟨_, _, rfl⟩ := no j sj e1
    exact o1.elim
abbrev WE0 (E : XK) : WX := fun cls d _ H => E cls d H
theorem okF {P : Program} {w : World} {K : PySem.W.Frag} {mg : Str → Option Value} {base : Heap} {x qual : Str} {st : Stmt} {f : Addr} {fd : FuncData} {N ps : List Str} {k n : Nat} {g : FS} (F : Fun K x qual st f fd) (S : FnScope N ps (defScope st)) (hn : ps.length = n)
    (hbody : ∀ (cdv : Value) (A : Around) (outer : List Env) (s : Shared) (H : Hp) (E : XK) (H0 : Hp), Room k (A.deeper (PyProof.Rows.envOfC qual (defScope st) s.heap.objs.size f cdv)) →
      Takes (cxOf (L2.CX P w) P w K mg base N qual (defScope st) f cdv A outer s H E) (WE0 E) → PassesOwn (model P w) (A.deeper (PyProof.Rows.envOfC qual (defScope st) s.heap.objs.size f cdv)) (PyProof.Rows.envOfC qual (defScope st) s.heap.objs.size f cdv) (cxOf (L2.CX P w) P w K mg base N qual (defScope st) f cdv A outer s H E).xe →
      PSs (cxOf (L2.CX P w) P w K mg base N qual (defScope st) f cdv A outer s H E) (defBody st) (sF ⟨K, mg, bs H H0⟩ (WE0 E) g)) : FnOk P w K mg base (L2.CX P w) (k + 1) f fd ps (spF K mg n (runF N.length g)) := by
  refine F.okX S (fun vs H Q E h => by rw [hn]; exact h.1) (fun cdv A outer s H vs Q E hr h => ?_)
  obtain ⟨hl, ds, H0, i, hd, h⟩ := h
  refine ⟨_, hbody cdv A outer s H E H0 hr (takes_of rfl rfl rfl rfl) (passes_of rfl), _, H0, rep_start N i hd, ?_⟩
  unfold runF at h
  cases c : g (ds.map (fun d => some (SV.d d)) ++ List.replicate (N.length - ds.length) none) with
  | ret d => rw [c] at h; exact fun v H' H0' g' q => h v H' H0' g' q
  | next ρ => rw [c] at h; exact fun σ' H' H0' e r' => h .non H' H0' r'.bas .non
  | exc c' ρ' => rw [c] at h; exact fun cls dd σ' H' H0' _ r' x => h cls dd H' H0' r'.bas x
  | brk ρ => rw [c] at h; exact h.elim
  | cont ρ => rw [c] at h; exact h.elim
  | bad => rw [c] at h; exact h.elim
end CP
namespace CPS
open PySem PySem.W PyProof.Rows PySem.Calls
section
variable {prog : Program} {w : World} {A : Around} {E : Value → Shared → Prop} {s : Shared}
theorem sorted_seq {R : Value → PyData → Prop} {it : Addr} {T : String} {o : Obj} {vs : List Value} {n : Nat} {ds : List PyData} {Q : Value → Shared → Prop} (hT : T = "list" ∨ T = "tuple") (ho : s.heap.get? it = some o) (hc : o.cls = .type T) (hd : o.data = .seq vs.toArray n)
    (e : EachIs R vs ds) (er : EachIs (fun v b => ∃ as, Reads s.heap v b as) vs ds) (hal : AllAlike ds) (hk : Sortable ds) (hL : ds.length ≤ sizeLine) (hu : ∀ b, b ∈ ds → A.units + 2 + b.depth < cLine)
    (h : ∀ (out : List Value) (h1 h' : Heap) (m : Nat), out.length = ds.length → EachIs R out (ds.mergeSort (dataLe false id)) → (∀ b o, s.heap.get? b = some o → h1.get? b = some o) → (∀ b o, h1.get? b = some o → h'.get? b = some o) → h'.get? h1.objs.size = some (seqObj "list" out.toArray m) → Q (.ref h1.objs.size) { s with heap := h' }) :
    wpAny (model prog w) A (call (.builtin "sorted") [.ref it]) Q E s := by
  have hvl : vs.length = ds.length := e.length
  refine call_function_entry_kw kind_sorted plain_sorted entry_sorted (args_sorted1 _) ?_
  unfold Builtin.«sorted»
  refine wpAny_bind (m := checkCount "sorted" 1 1 _) (wpAny_pure ?_)
  refine wpAny_bind (wpAny_collect_seq it hT ho hc hd (fun h1 k1 => ?_) (by rw [List.size_toArray, hvl]; exact hL))
  rw [List.toList_toArray]
  refine wpAny_bind (wpAny_newList ?_ (by rw [hvl]; exact hL))
  have hat : (h1.push (seqObj "list" vs.toArray 0)).get? h1.objs.size = some (seqObj "list" vs.toArray 0) := Heap.get?_push_size _ rfl
  have k2 : ∀ b o, s.heap.get? b = some o → (h1.push (seqObj "list" vs.toArray 0)).get? b = some o := fun b o q => Heap.get?_push_of_some _ (k1 b o q)
  have ne : ∀ b o, s.heap.get? b = some o → b ≠ h1.objs.size := fun b o q => Nat.ne_of_lt (Heap.lt_size (k1 b o q))
  refine wpAny_bind (wpAny_holding (wpAny_call_entry_kw slot_list_sort ⟨_, hat, rfl⟩ entry_list_sort ?body (args_list_sort _)))
  case body =>
    have er' : EachIs (fun v b => ∃ as, Reads (sortingHeap (h1.push (seqObj "list" vs.toArray 0)) h1.objs.size vs) v b as) vs ds := er.mono fun _ _ ⟨as, r⟩ => ⟨as, PyProof.Rows.Reads.keeps (fun b o q => sortingHeap_old (ne b o q) (k2 b o q)) r⟩
    refine wpAny_mono (list_sort_vals (s := { s with heap := h1.push (seqObj "list" vs.toArray 0) }) (κ := dataKind (sortingHeap (h1.push (seqObj "list" vs.toArray 0)) h1.objs.size vs) ds) hat (SortsAt.data (s := { s with heap := sortingHeap (h1.push (seqObj "list" vs.toArray 0)) h1.objs.size vs }) er' hal hk hu) (by rw [hvl]; exact hL)
      (P := fun f s' => f = .done (.ret .none) ∧ s' = { s with heap := sortedHeap (h1.push (seqObj "list" vs.toArray 0)) h1.objs.size vs (sortVals (dataKind (sortingHeap (h1.push (seqObj "list" vs.toArray 0)) h1.objs.size vs) ds) false vs vs).toArray }) ⟨rfl, rfl⟩) (fun f s' hf => ?_) fun _ _ e => e
    obtain ⟨rfl, rfl⟩ := hf
    refine ⟨_, rfl, wpAny_pure ⟨_, rfl, ?_⟩⟩
    obtain ⟨m, he⟩ := PyProof.Rows.sortedHeap_at (vs := vs) (out := (sortVals (dataKind (sortingHeap (h1.push (seqObj "list" vs.toArray 0)) h1.objs.size vs) ds) false vs vs).toArray) hat
    have er2 : EachIs (fun v b => ∃ as, Reads (sortingHeap (h1.push (seqObj "list" vs.toArray 0)) h1.objs.size vs) v (id b) as) vs ds := er'
    have out := sortVals_data (R := R) (enc := id) false e er2 (by rw [List.map_id]; exact hal)
    rw [List.map_id] at out
    refine h _ h1 _ m (by rw [sortVals_length false rfl]; exact hvl) out k1 (fun b o q => ?_) he
    rw [PyProof.Rows.sortedHeap_old (Nat.ne_of_lt (Heap.lt_size q)) (Heap.lt_size (Heap.get?_push_of_some (seqObj "list" vs.toArray 0) q))]
    exact Heap.get?_push_of_some _ q
end
end CPS
namespace CP
open PySem L2
section
variable {X : Cx} {B : Bs} {W : WX} {s sa sb : Bool} {a b e : Expr} {fa fb f : FE} {pos : Pos}
def alikeB (ds : List PyData) : Bool := ds.all fun d => ds.all fun d' => PySem.W.alike d d'
def tupB : PyData → Bool
  | .tuple (_ :: _) => true
  | _ => false
def othB : PyData → Bool
  | .none => false
  | .tuple _ => false
  | _ => true
def sortOk (ds : List PyData) : Bool := alikeB ds && (ds.all tupB || ds.all othB) && ds.all (fun d => decide (d.depth ≤ 50))
def sortL (ds : List PyData) : List PyData := ds.mergeSort (PySem.W.dataLe false id)
theorem sortOk_spec {ds : List PyData} (h : sortOk ds = true) : PySem.W.AllAlike ds ∧ PySem.W.Sortable ds ∧ ∀ d ∈ ds, d.depth ≤ 50 := by
  unfold sortOk at h
  simp only [Bool.and_eq_true, Bool.or_eq_true, List.all_eq_true, decide_eq_true_eq] at h
  obtain ⟨⟨h1, h2⟩, h3⟩ := h
  refine ⟨fun d hd d' hd' => ?_, ?_, h3⟩
  · unfold alikeB at h1
    simp only [List.all_eq_true] at h1
    exact h1 d hd d' hd'
  · rcases h2 with h2 | h2
    · refine .inl fun d hd => ?_
      have := h2 d hd
      cases d <;> try cases this
      rename_i xs
      cases xs with
      | nil => cases this
      | cons x r => exact ⟨x, r, rfl⟩
    · refine .inr fun d hd => ?_
      have := h2 d hd
      cases d <;> first | (cases this; done) | exact ⟨(fun z => by cases z), (fun xs z => by cases z)⟩
theorem each_of {K : PySem.W.Frag} {H0 : Hp} : ∀ {xs : List V} {us : List Value} {ds : List PyData}, Vals xs us → DqAll K H0 xs ds → PySem.W.EachIs (fun u d => ∃ x, RelV x u ∧ Dq K H0 x d) us ds
  | _, _, [], r, h => by cases h; cases r; exact .nil
  | _, _, _ :: _, r, h => by
    cases h with
    | cons h1 h2 =>
      cases r with
      | cons r1 r2 => exact .cons ⟨_, r1, h1⟩ (each_of r2 h2)
theorem each_back {K : PySem.W.Frag} {H0 : Hp} : ∀ {us : List Value} {ds : List PyData}, PySem.W.EachIs (fun u d => ∃ x, RelV x u ∧ Dq K H0 x d) us ds → ∃ xs, Vals xs us ∧ DqAll K H0 xs ds
  | _, _, .nil => ⟨[], .nil, .nil⟩
  | _, _, .cons ⟨x, h1, h2⟩ t => by
    obtain ⟨xs, k1, k2⟩ := each_back t
    exact ⟨x :: xs, .cons h1 k1, .cons h2 k2⟩
theorem each_reads {pins : List (Addr × Obj)} {σ : St} {H H0 : Hp} {s : Shared} (I : L2.Inv X pins σ H s) (i : Same H0 H) : ∀ {xs : List V} {us : List Value} {ds : List PyData}, Vals xs us → DqAll X.K H0 xs ds → PySem.W.EachIs (fun u d => ∃ as, Reads s.heap u d as) us ds
  | _, _, [], r, h => by cases h; cases r; exact .nil
  | _, _, _ :: _, r, h => by
    cases h with
    | cons h1 h2 =>
      cases r with
      | cons r1 r2 => exact .cons (Dp.reads I _ _ _ (h1.same i).dp r1) (each_reads I i r2 h2)
theorem cr_sortD {k : Nat} (hr : Room k X.A) : CallR X (.builtin "sorted") (fun vs H Q => ∃ (a : Addr) (H0 : Hp) (xs : List V) (ds : List PyData), vs = [.ref a] ∧ (Rd H a (.lst xs) ∨ SqT X.K H a xs) ∧ Same H0 H ∧ DqAll X.K H0 xs ds ∧ sortOk ds = true ∧ ds.length ≤ LIM ∧
    ∀ p ys, H p = none → DqAll X.K H0 ys (sortL ds) → Q (.ref p) (upd H p (.lst ys))) := by
  intro pins s σ H vs us Q I r h
  obtain ⟨a, H0, xs, ds, rfl, hq, i, hd, hok, hlim, q⟩ := h
  rw [Vals.ref1 r]
  obtain ⟨k1, k2, k3⟩ := sortOk_spec hok
  have hu : ∀ b, b ∈ ds → X.A.units + 2 + b.depth < cLine := fun b hb => by
    have := k3 b hb
    have := hr.un
    omega
  have fin : ∀ (T : String) (o : Obj) (its : List Value) (n : Nat), T = "list" ∨ T = "tuple" → s.heap.get? a = some o → o.cls = .type T → o.data = .seq its.toArray n → Vals xs its → wpAny (model X.prog X.w) X.A (call (.builtin "sorted") [.ref a]) (EP X pins σ Q) X.xe s := fun T o its n hT ho hc hdt rv => by
    refine CPS.sorted_seq hT ho hc hdt (each_of rv hd) (each_reads I i rv hd) k1 k2 (Nat.le_trans hlim lim_line) hu fun out h1 h' m hlen ho2 g1 g2 hat => ?_
    obtain ⟨ys, v1, v2⟩ := each_back ho2
    have I1 : L2.Inv X pins σ H { s with heap := h1 } := I.kept (t' := s.toks) g1
    have hyl : ys.length ≤ sizeLine := by rw [v1.length, hlen]; exact Nat.le_trans hlim lim_line
    exact ⟨.ref h1.objs.size, _, I1.laid (t' := s.toks) g2 (Nat.le_refl _) (show ObjOk X.prog X.w _ h' _ (.lst ys) from ⟨hyl, out, m, v1, hat⟩), rfl, q _ ys (I1.hok.fresh (Nat.le_refl _)) v2⟩
  rcases hq with hq | hq
  · obtain ⟨z, its, n, rv, e⟩ := hq.ok I.hok
    exact fin "list" _ its n (.inl rfl) e rfl rfl rv
  · obtain ⟨its, rv, ⟨o, ho, hc, n, hdt⟩, hz⟩ := I.tuple hq
    exact fin "tuple" o its n (.inr rfl) ho hc hdt rv
def sortD : PyData → R PyData
  | .list ds => if sortOk ds then .ok (.list (sortL ds)) else .bad
  | .tuple ds => if sortOk ds then .ok (.list (sortL ds)) else .bad
  | _ => .bad
theorem sortL_length (ds : List PyData) : (sortL ds).length = ds.length := List.length_mergeSort _
theorem cd_sort {k : Nat} (hr : Room k X.A) : CallD X (.builtin "sorted") sortD := by
  refine ⟨_, cr_sortD hr, fun B W sa σ x d H H0 Q i w h => ?_⟩
  cases d <;> try exact False.elim h
  · rename_i ds
    obtain ⟨p, xs, rfl, h1, h2, h3⟩ := w.lst i
    cases c : sortOk ds with
    | false => simp [sortD, c, eO] at h
    | true =>
      simp only [sortD, c, if_true] at h
      exact ⟨p, H0, xs, ds, rfl, .inl h1, i, h3, c, h2, fun q ys hq hy => (newL h i hy (by rw [sortL_length]; exact h2)).2 q hq⟩
  · rename_i ds
    obtain ⟨p, xs, rfl, h1, h2, h3, _⟩ := w.tup i
    cases c : sortOk ds with
    | false => simp [sortD, c, eO] at h
    | true =>
      simp only [sortD, c, if_true] at h
      exact ⟨p, H0, xs, ds, rfl, .inr (sqt_same i h1), i, h3, c, h2, fun q ys hq hy => (newL h i hy (by rw [sortL_length]; exact h2)).2 q hq⟩
def dedupI (ns : List Int) : List Int := ns.foldl PyProof.Rows.step_dedup []
theorem firstMet_eq (ns : List Int) : PyProof.Rows.firstMet (fun i => ns.getD i 0) ns.length = dedupI ns := by
  unfold PyProof.Rows.firstMet dedupI
  congr 1
  apply List.ext_getElem?
  intro i
  rw [List.getElem?_map]
  by_cases hi : i < ns.length
  · rw [List.getElem?_range hi, List.getElem?_eq_getElem hi]
    simp [List.getD_eq_getElem?_getD, List.getElem?_eq_getElem hi]
  · rw [List.getElem?_eq_none (by simpa using hi), List.getElem?_eq_none (by simpa using hi)]
    rfl
def lenSetD : PyData → R PyData
  | .list ds => match intsOf ds with
    | some ns => if ns.length ≤ 4000 then .ok (.int ((dedupI ns).length : Nat)) else .bad
    | none => .bad
  | _ => .bad
theorem dedupI_le (ns : List Int) : (dedupI ns).length ≤ ns.length := by
  rw [← firstMet_eq]
  exact PyProof.Rows.firstMet_length_le _ _
theorem d_lenSet {p p2 q : Pos} (hm : X.mg "len" = none) (hm2 : X.mg "set" = none) (ha : PE X a (eF (cx X B) W sa fa)) (hc : X.calm = true) (hg : Gl X "len" := by rfl) (hg2 : Gl X "set" := by rfl)
    (na : starEach [a] X.env = (false, eval a X.env) :: starEach [] X.env := by rfl) : PE X (.Call (.Name "len" p) [.Call (.Name "set" p2) [a] [] q] [] pos) (eF (cx X B) W s (e1 lenSetD fa)) := by
  have hp : PE X (.Call (.Name "len" p) [.Call (.Name "set" p2) [a] [] q] [] pos) (fun σ H Q => eF (cx X B) W sa fa σ H fun x H1 => ∃ (l : Addr) (ns : List Int), x = .ref l ∧ SqL X.K H1 l (ns.map V.int) ∧ ns.length ≤ 4000 ∧ Q (.int ((dedupI ns).length : Nat)) H1) := by
    refine ⟨fun pins s σ H Q I h => ?_⟩
    refine PyProof.Rows.Call_ (ld_blt I hg hm boot_len ?_)
    refine PyProof.Rows.callWith_builtin1 (PyProof.Rows.args_cons ?_ rfl) rfl rfl
    refine PyProof.Rows.Call_ (ld_blt I hg2 hm2 PyProof.Rows.boot_set ?_)
    refine PyProof.Rows.callWith_type1 (PyProof.Rows.args_cons (thn (ha.run pins s σ H _ I h) fun v s1 ⟨x, H1, I1, r1, q1⟩ => PyProof.Rows.args_nil ?_) na) na rfl
    obtain ⟨l, ns, rfl, hq, hl, q1⟩ := q1
    cases r1
    obtain ⟨its, r, pl, hz⟩ := I1.list hq
    have hlen : its.toArray.size = ns.length := by rw [List.size_toArray, ← r.length, List.length_map]
    refine PySem.call_set_list (I1.ok.hd hc) pl.isList (by simpa using RZ.intsAre_vals r) (by rw [hlen]; unfold PySem.scanBound; omega) fun h' tk hS hk => ?_
    refine PyProof.Rows.args_nil ?_
    rw [hlen, firstMet_eq] at hS
    obtain ⟨o, es, ep, t, ho, hex, hd, _, _, _, hf, hn⟩ := hS
    have hle := dedupI_le ns
    have I2 : L2.Inv X pins σ H1 { s1 with heap := h', toks := tk } := I1.kept fun b o e => hk b o (Heap.lt_size e) e
    exact PySem.call_len_set ho hex hd hf (by rw [hn] <;> omega) ⟨.int (dedupI ns).length, H1, I2.tok _, ⟨_, by rw [hn]⟩, q1⟩
  refine hp.weak fun σ H Q ⟨ρ, H0, rp, h⟩ => ⟨ρ, H0, rp, eO.seq (ρ := ρ) h fun d v H1 H01 g w q => ?_⟩
  cases d <;> try exact False.elim q
  rename_i ds
  obtain ⟨p, xs, rfl, h1, h2, h3⟩ := w.lst g.i
  cases c : intsOf ds with
  | none => simp [lenSetD, c, eO] at q
  | some ns =>
    by_cases hl : ns.length ≤ 4000
    · simp only [lenSetD, c, hl, if_true] at q
      rw [intsOf_some c] at h3
      have e := h3.ints
      subst e
      exact ⟨p, ns, rfl, .inl h1, hl, eO.val q g.i (.int _)⟩
    · simp [lenSetD, c, hl, eO] at q
end
end CP
namespace CP
open PySem L2
def valM (kvs : List (List Int × PyData)) (k : List Int) : Option PyData := (kvs.find? fun kv => decide (kv.1 = k)).map (·.2)
def putM (kvs : List (List Int × PyData)) (k : List Int) (d : PyData) : List (List Int × PyData) :=
  if (kvs.any fun kv => decide (kv.1 = k)) = true then kvs.map (fun kv => if kv.1 = k then (kv.1, d) else kv) else kvs ++ [(k, d)]
theorem inl_inj {a b : List Int} (h : a.map (Sum.inl : Int → Key) = b.map Sum.inl) : a = b := by
  induction a generalizing b with
  | nil => cases b with
    | nil => rfl
    | cons _ _ => cases h
  | cons x a ih => cases b with
    | nil => cases h
    | cons y b =>
      simp only [List.map_cons, List.cons.injEq] at h
      obtain ⟨h1, h2⟩ := h
      cases h1
      rw [ih h2]
theorem KeyD.dec {K : PySem.W.Frag} {H : Hp} {p : List Int × PyData} {q : List Key × V} (h : q.1 = p.1.map Sum.inl ∧ Dq K H q.2 p.2) (k : List Int) : decide (q.1 = k.map Sum.inl) = decide (p.1 = k) := by
  rw [h.1]
  by_cases e : p.1 = k
  · rw [e]; simp
  · have e' : ¬ p.1.map (Sum.inl : Int → Key) = k.map Sum.inl := fun z => e (inl_inj z)
    rw [decide_eq_false e, decide_eq_false e']
theorem KeyD.val {K : PySem.W.Frag} {H : Hp} {kvs : List (List Int × PyData)} {ws : List (List Key × V)} (h : KeyD K H kvs ws) (k : List Int) : (valM kvs k = none ∧ valV ws (k.map Sum.inl) = none) ∨ ∃ d v, valM kvs k = some d ∧ valV ws (k.map Sum.inl) = some v ∧ Dq K H v d := by
  induction h with
  | nil => exact .inl ⟨rfl, rfl⟩
  | @cons p q l₁ l₂ hp ht ih =>
    have e := KeyD.dec hp k
    unfold valM valV at ih ⊢
    rw [List.find?_cons, List.find?_cons, e]
    cases c : decide (p.1 = k) with
    | true => exact .inr ⟨p.2, q.2, rfl, rfl, hp.2⟩
    | false => exact ih
theorem KeyD.any {K : PySem.W.Frag} {H : Hp} {kvs : List (List Int × PyData)} {ws : List (List Key × V)} (h : KeyD K H kvs ws) (k : List Int) : (ws.any fun kv => decide (kv.1 = k.map Sum.inl)) = (kvs.any fun kv => decide (kv.1 = k)) := by
  induction h with
  | nil => rfl
  | cons hp ht ih => rw [List.any_cons, List.any_cons, KeyD.dec hp k, ih]
theorem KeyD.length {K : PySem.W.Frag} {H : Hp} {kvs : List (List Int × PyData)} {ws : List (List Key × V)} (h : KeyD K H kvs ws) : ws.length = kvs.length := (Paired.length h).symm
theorem KeyD.put {K : PySem.W.Frag} {H : Hp} {kvs : List (List Int × PyData)} {ws : List (List Key × V)} {v : V} {d : PyData} (h : KeyD K H kvs ws) (k : List Int) (hv : Dq K H v d) : KeyD K H (putM kvs k d) (putK ws (k.map Sum.inl) v) := by
  have ha := KeyD.any h k
  unfold putM putK
  rw [ha]
  cases c : kvs.any fun kv => decide (kv.1 = k) with
  | false =>
    rw [if_neg Bool.false_ne_true, if_neg Bool.false_ne_true]
    exact Paired.snoc h ⟨rfl, hv⟩
  | true =>
    rw [if_pos rfl, if_pos rfl]
    clear ha c
    induction h with
    | nil => exact .nil
    | @cons p q l₁ l₂ hp ht ih =>
      rw [List.map_cons, List.map_cons]
      refine .cons ?_ ih
      have e := KeyD.dec hp k
      by_cases z : p.1 = k
      · have z' : q.1 = k.map Sum.inl := by rw [hp.1, z]
        rw [if_pos z, if_pos z']
        exact ⟨hp.1, hv⟩
      · have z' : ¬ q.1 = k.map Sum.inl := fun y => z (inl_inj (hp.1.symm.trans y))
        rw [if_neg z, if_neg z']
        exact hp
def keyOf : PyData → Option (List Int)
  | .tuple ds => intsOf ds
  | _ => none
theorem keyOf_some {d : PyData} {k : List Int} (h : keyOf d = some k) : d = .tuple (k.map .int) := by
  cases d <;> try cases h
  rename_i ds
  rw [intsOf_some (show intsOf ds = some k from h)]
def KeyAt (H : Hp) (v : V) (d : PyData) : Prop := ∀ k, keyOf d = some k → ∃ b, v = .ref b ∧ H b = some (.tup ((k.map (Sum.inl : Int → Key)).map kV))
def kO (C : PX) (W : WX) (σ : St) (H H0 : Hp) (o : R PyData) (Q : VK) : Prop := match o with
  | .ok d => ∀ v H' H0', Grow H H0 H' H0' → KeyAt H' v d → Q v H'
  | .exc c => ∀ cls dd H' H0', Grow H H0 H' H0' → ExR C.K C.mg H' c cls dd → W cls dd σ H'
  | .bad => False
def kF (C : PX) (W : WX) (f : FE) : TE := fun σ H Q => ∃ ρ H0, Rep C σ H H0 ρ ∧ kO C W σ H H0 (f ρ) Q
section
variable {X : Cx} {B : Bs} {W : WX} {s sa sb : Bool} {a b e : Expr} {fa fb f : FE} {pos : Pos} {st : Stmt} {rest : List Stmt} {g g2 : FS}
theorem k_tup {es : List Expr} {fs : EV → R (List PyData)} {x1} (h : PA X es (aF (cx X B) W fs)) : PE X (.Tuple es x1 pos) (kF (cx X B) W (eT fs)) := by
  refine (pe_tup h).weak fun σ H Q ⟨ρ, H0, rp, h⟩ => ⟨ρ, H0, rp, ?_⟩
  unfold eT at h
  cases c : fs ρ with
  | bad => rw [c] at h; exact h
  | exc c' => rw [c] at h; exact h
  | ok ds =>
    rw [c] at h
    intro vs H1 H01 g w
    have h : kO (cx X B) W σ H H0 (mkT ds) Q := h
    unfold mkT at h
    by_cases hl : ds.length ≤ LIM
    · rw [if_pos hl] at h
      refine ⟨by rw [w.length]; exact Nat.le_trans hl lim_line, fun p hp => h (.ref p) _ H01 (g.trans (Grow.mine g.i hp (.tup vs))) fun k e => ⟨p, rfl, ?_⟩⟩
      have e' : ds = k.map .int := intsOf_some (show intsOf ds = some k from e)
      subst e'
      rw [upd_same, w.ints, List.map_map]
      rfl
    · rw [if_neg hl] at h; exact h.elim
theorem k_data (hz : TZ = false) (h : PE X e (eF (cx X B) W true f)) : PE X e (kF (cx X B) W f) := h.weak fun σ H Q ⟨ρ, H0, rp, q⟩ => ⟨ρ, H0, rp, by
  revert q
  cases f ρ with
  | bad => exact fun q => q
  | exc c => exact fun q => q
  | ok d =>
    intro q v H' H0' g w
    refine q v H' H0' g fun k ek => ?_
    have e := keyOf_some ek
    subst e
    have w' := w.strong
    generalize en : k.map PyData.int = ds at w'
    cases w' with
    | tup a b c =>
      subst en
      refine ⟨_, rfl, ?_⟩
      unfold TupAt at a
      rw [if_neg (by rw [hz]; decide)] at a
      rw [g.i _ _ a, c.ints, List.map_map]
      rfl
    | tupK a b c => cases k with
      | nil => cases en
      | cons n r => cases en⟩
def sDNew (i : Nat) : FS := fun ρ => .next (ρ.set i (some (.m [])))
theorem s_dnew (i : Nat) {x : Str} {pos' dpos : Pos} (hN : X.N.Nodup) (hi : X.N[i]? = some x := by rfl) (hx : Loc X.env.scope x := by first | exact Or.inl rfl | exact Or.inr rfl) (hs : swapsWith (.Dict [] [] dpos) (some (.Name x pos')) pos.line X.env = pure false := by rfl) (hf : X.fn x = true ∨ X.env.scope.names.lookup x = some .local := by first | exact .inl rfl | exact .inr rfl | assumption) :
    PS X (.Assign [.Name x pos'] (.Dict [] [] dpos) pos) (sF (cx X B) W (sDNew i)) := by
  refine (ps_set hN hi hx pe_dnewT hs hf).weak fun D σ H ⟨ρ, H0, rp, h⟩ => ?_
  intro d hd
  have g := Grow.mine rp.st hd (.dT [])
  refine h _ _ H0 (Same.refl _) ((rp.grow g).setOwn (v := .ref d) (sv := .m []) ⟨d, [], rfl, upd_same, rp.st.free hd, rp.bas.a.free hd, .nil⟩ (fun j sj w a e es o z => ?_) i)
  exact own_ne rp g.a hd e es o (by cases z; rfl)
def sDPut (i : Nat) (fk fv : FE) : FS := fun ρ => match fv ρ with
  | .ok d => match ρ[i]? with
    | some (some (.m kvs)) => match fk ρ with
      | .ok kd => match keyOf kd with
        | some k => if kvs.length < LIM then .next (ρ.set i (some (.m (putM kvs k d)))) else .bad
        | none => .bad
      | .exc c => .exc c ρ
      | .bad => .bad
    | _ => .bad
  | .exc c => .exc c ρ
  | .bad => .bad
theorem s_dput (i : Nat) {x : Str} {p pos' : Pos} {k : Nat} {key val : Expr} {fk fv : FE} (hr : Room k X.A) (hk : PE X key (kF (cx X B) W fk)) (hv : PE X val (eF (cx X B) W true fv)) (hN : X.N[i]? = some x := by rfl) (hvi : Vis X.env.scope x := by first | exact Or.inl rfl | exact Or.inr (Or.inl rfl) | exact Or.inr (Or.inr rfl)) (hd : (x == ("__debug__" : Str)) = false := by decide) (hcd : (x == ("__classdict__" : Str)) = false := by decide)
    (hs : swapsWith val (some (.Subscript (.Name x p) key pos')) pos.line X.env = pure false := by rfl) : PS X (.Assign [.Subscript (.Name x p) key pos'] val pos) (sF (cx X B) W (sDPut i fk fv)) := by
  refine (ps_dput (hu_of hr) (pe_var hN hvi hd hcd) hk hv hs).weak fun D σ H ⟨ρ, H0, rp, h⟩ => ⟨ρ, H0, rp, ?_⟩
  unfold sDPut at h
  cases c : fv ρ with
  | bad => rw [c] at h; exact h
  | exc c' => rw [c] at h; exact fun cls dd H' H0' g x => h cls dd σ H' H0' g.z (rp.grow g) x
  | ok d =>
    rw [c] at h
    intro v H1 H01 g1 w1
    have rp1 := rp.grow g1
    cases q : ρ[i]? with
    | none => rw [q] at h; exact h.elim
    | some o =>
      cases o with
      | none => rw [q] at h; exact h.elim
      | some sv =>
        cases sv with
        | d _ => rw [q] at h; exact h.elim
        | l _ => rw [q] at h; exact h.elim
        | x _ => rw [q] at h; exact h.elim
        | r _ _ => rw [q] at h; exact h.elim
        | v _ _ => rw [q] at h; exact h.elim
        | m kvs =>
          rw [q] at h
          obtain ⟨u, hs, pp, ws, rfl, k1, k2, k3, k4⟩ := rp1.at_ i _ q
          refine ⟨.ref pp, hs, ρ, H01, rp1, ?_⟩
          simp only at h
          cases ck : fk ρ with
          | bad => rw [ck] at h; exact h
          | exc c' => rw [ck] at h; exact fun cls dd H' H0' g x => h cls dd σ H' H0' (g1.z.trans g.z) (rp1.grow g) x
          | ok kd =>
            rw [ck] at h
            intro y H2 H02 g2 w2
            simp only at h
            cases co : keyOf kd with
            | none => rw [co] at h; exact h.elim
            | some k =>
              rw [co] at h
              simp only at h
              by_cases hl : kvs.length < LIM
              · rw [if_pos hl] at h
                obtain ⟨b, rfl, hb⟩ := w2 k co
                have k2' := g2.f pp (hid k1) k2
                have kd' := (k4.same g2.z).put k (w1.strong.same g2.z)
                refine ⟨pp, _, rfl, DPut.t (g2.a _ _ k1) hb (by rw [KeyD.length k4]; exact lim_lt hl), ?_⟩
                exact h σ _ H02 (g1.z.trans g2.z) ((rp1.grow g2).mut (sv := .m (putM kvs k d)) q rfl hs k2' k3 ⟨pp, _, rfl, upd_same, k2', k3, kd'⟩ fun a z => by cases z; rfl)
              · rw [if_neg hl] at h; exact h.elim
def eDGet (i : Nat) (fk : FE) : FE := fun ρ => match ρ[i]? with
  | some (some (.m kvs)) => (fk ρ).bind fun kd => match keyOf kd with
    | some k => match valM kvs k with
      | some d => .ok d
      | none => .bad
    | none => .bad
  | _ => .bad
theorem d_dget (i : Nat) {x : Str} {p : Pos} {k : Nat} {key : Expr} {fk : FE} (hr : Room k X.A) (hk : PE X key (kF (cx X B) W fk)) (hN : X.N[i]? = some x := by rfl) (hvi : Vis X.env.scope x := by first | exact Or.inl rfl | exact Or.inr (Or.inl rfl) | exact Or.inr (Or.inr rfl)) (hd : (x == ("__debug__" : Str)) = false := by decide) (hcd : (x == ("__classdict__" : Str)) = false := by decide)
    (hs : NoSl key := by exact fun _ _ => rfl) : PE X (.Subscript (.Name x p) key pos) (eF (cx X B) W s (eDGet i fk)) := by
  refine (pe_dget (hu_of hr) (pe_var hN hvi hd hcd) hk hs).weak fun σ H Q ⟨ρ, H0, rp, h⟩ => ?_
  unfold eDGet at h
  cases q : ρ[i]? with
  | none => rw [q] at h; exact h.elim
  | some o =>
    cases o with
    | none => rw [q] at h; exact h.elim
    | some sv =>
      cases sv with
      | d _ => rw [q] at h; exact h.elim
      | l _ => rw [q] at h; exact h.elim
      | x _ => rw [q] at h; exact h.elim
      | r _ _ => rw [q] at h; exact h.elim
      | v _ _ => rw [q] at h; exact h.elim
      | m kvs =>
        rw [q] at h
        obtain ⟨u, hs, pp, ws, rfl, k1, k2, k3, k4⟩ := rp.at_ i _ q
        refine ⟨.ref pp, hs, ρ, H0, rp, ?_⟩
        simp only at h
        cases ck : fk ρ with
        | bad => rw [ck] at h; exact h
        | exc c' => rw [ck] at h; exact h
        | ok kd =>
          rw [ck] at h
          intro y H2 H02 g2 w2
          simp only [R.bind_ok] at h
          cases co : keyOf kd with
          | none => rw [co] at h; exact h.elim
          | some k =>
            rw [co] at h
            simp only at h
            obtain ⟨b, rfl, hb⟩ := w2 k co
            rcases KeyD.val (k4.same g2.z) k with ⟨n1, _⟩ | ⟨d, v, e1, e2, e3⟩
            · rw [n1] at h; exact h.elim
            · rw [e1] at h
              refine ⟨pp, v, rfl, ?_, h v H2 H02 g2 (.of e3)⟩
              rw [← e2]
              exact DGet.t (g2.a _ _ k1) hb
def sPop (i j : Nat) (f : FE) : FS := fun ρ => match ρ[j]? with
  | some (some (.l ds)) => match f ρ with
    | .ok (.int k) => match ixN ds.length k with
      | some m => match ds[m]? with
        | some d => .next ((ρ.set j (some (.l (ds.eraseIdx m)))).set i (some (.d d)))
        | none => .bad
      | none => .bad
    | .exc c => .exc c ρ
    | _ => .bad
  | _ => .bad
theorem pop_core {j : Nat} {σ : St} {H H0 H' H0' : Hp} {ρ : EV} {C : PX} {ds : List PyData} {k : Int} {m : Nat} {d : PyData} (rp : Rep C σ H H0 ρ) (q : ρ[j]? = some (some (.l ds))) (g : Grow H H0 H' H0') (hm : ixN ds.length k = some m) (hd : ds[m]? = some d) :
    ∃ pp xs y, σ[j]? = some (some (.ref pp)) ∧ H pp = some (.lst xs) ∧ H' pp = some (.lst xs) ∧ -(2 ^ 63) ≤ k ∧ k < 2 ^ 63 ∧ seqIndex? k xs.length = some m ∧ xs[m]? = some y ∧ Dq C.K H0' y d ∧ Rep C σ (upd H' pp (.lst (xs.eraseIdx m))) H0' (ρ.set j (some (.l (ds.eraseIdx m)))) := by
  obtain ⟨u, hs, pp, xs, rfl, k1, k2, k3, k4, k5⟩ := rp.at_ j _ q
  obtain ⟨y, hy, dy⟩ := (k5.same g.z).get hd
  have k2' := g.f pp (hid k1) k2
  obtain ⟨z1, z2, z3, z4⟩ := ixN_seq hm
  have hL : LIM = 100000 := rfl
  have hl := k5.length
  refine ⟨pp, xs, y, hs, k1, g.a _ _ k1, by omega, by omega, by rw [hl]; exact z1, hy, dy, (rp.grow g).mut (sv := .l (ds.eraseIdx m)) q rfl hs k2' k3 ⟨pp, _, rfl, upd_same, k2', k3, Nat.le_trans (len_erase ds m) k4, (k5.same g.z).eraseIdx m⟩ fun a z => by cases z; rfl⟩
theorem s_pop (i j : Nat) {x y : Str} {p apos pos' cpos : Pos} (hN : X.N.Nodup) (he : PE X e (eF (cx X B) W true f)) (hi : X.N[i]? = some x := by rfl) (hx : Loc X.env.scope x := by first | exact Or.inl rfl | exact Or.inr rfl) (hf : X.fn x = true ∨ X.env.scope.names.lookup x = some .local := by first | exact .inl rfl | exact .inr rfl | assumption)
    (hNj : X.N[j]? = some y := by rfl) (hv : Vis X.env.scope y := by first | exact Or.inl rfl | exact Or.inr (Or.inl rfl) | exact Or.inr (Or.inr rfl)) (hd : (y == ("__debug__" : Str)) = false := by decide) (hcd : (y == ("__classdict__" : Str)) = false := by decide)
    (hbase : attributeBase (.Name y p) "pop" X.env (eval (.Name y p) X.env) = eval (.Name y p) X.env := by rfl)
    (hfew : ((backTo cpos (starEach [e] X.env)).all (fun x => !x.1) && (backToKw cpos (keywordEach [] X.env)).all (fun x => x.1.isSome)
      && decide ([e].length + ([] : List Keyword).length + (if ([] : List Keyword).isEmpty then 0 else 1) < 30)) = true := by rfl)
    (hline : (apos.endLine == cpos.line) = true := by rfl) (hs : starEach [e] X.env = (false, eval e X.env) :: starEach [] X.env := by rfl) (hsw : swapsWith (.Call (.Attribute (.Name y p) "pop" apos) [e] [] cpos) (some (.Name x pos')) pos.line X.env = pure false := by rfl) :
    PS X (.Assign [.Name x pos'] (.Call (.Attribute (.Name y p) "pop" apos) [e] [] cpos) pos) (sF (cx X B) W (sPop i j f)) := by
  refine (ps_set hN hi hx (pe_bm PySem.F.plainAttrs_list PySem.F.slot_list_pop PySem.F.type_list_pop mt_popAt (pe_var hNj hv hd hcd) (pa_cons he pa_nil hs) hbase hfew hline hs rfl) hsw hf).weak fun D σ H ⟨ρ, H0, rp, h⟩ => ?_
  unfold sPop at h
  cases q : ρ[j]? with
  | none => rw [q] at h; exact h.elim
  | some o =>
    cases o with
    | none => rw [q] at h; exact h.elim
    | some sv =>
      cases sv with
      | d _ => rw [q] at h; exact h.elim
      | m _ => rw [q] at h; exact h.elim
      | x _ => rw [q] at h; exact h.elim
      | r _ _ => rw [q] at h; exact h.elim
      | v _ _ => rw [q] at h; exact h.elim
      | l ds =>
        rw [q] at h
        obtain ⟨u, hs', pp, xs, rfl, k1, _⟩ := rp.at_ j _ q
        refine ⟨.ref pp, hs', .inl ⟨rfl, xs, .inl (.inl k1)⟩, ρ, H0, rp, ?_⟩
        simp only at h
        cases c : f ρ with
        | bad => rw [c] at h; exact h
        | exc c' => rw [c] at h; exact fun cls dd H' H0' g x => h cls dd σ H' H0' g.z (rp.grow g) x
        | ok d =>
          rw [c] at h
          intro v H' H0' g w
          cases d <;> try exact False.elim h
          rename_i k
          simp only at h
          cases cm : ixN ds.length k with
          | none => rw [cm] at h; exact h.elim
          | some m =>
            rw [cm] at h
            simp only at h
            cases cd : ds[m]? with
            | none => rw [cd] at h; exact h.elim
            | some d =>
              rw [cd] at h
              obtain ⟨pp', xs', y, e1, e2, e3, e4, e5, e6, e7, e8, e9⟩ := pop_core rp q g cm cd
              rw [hs'] at e1
              cases e1
              rw [k1] at e2
              cases e2
              exact ⟨pp, xs, k, m, y, rfl, by rw [w.int], e3, e4, e5, e6, e7, h _ _ H0' g.z (e9.set e8 i)⟩
end
end CP
namespace CP
open PySem L2
section
variable {C : PX} {σ : St} {H H0 H1 H01 : Hp} {ρ : EV}
theorem Rep.setSV (r : Rep C σ H H0 ρ) {v : V} {sv : SV} (hv : SVRep C H H0 v sv) (hne : ∀ (j : Nat) sj w a, ρ[j]? = some (some sj) → σ[j]? = some (some w) → Own H w sj a → ¬ Own H v sv a) (i : Nat) : Rep C (σ.set i (some v)) H H0 (ρ.set i (some sv)) := by
  cases sv with
  | d x => exact r.set hv i
  | l ds => exact r.setOwn hv hne i
  | m ds => exact r.setOwn hv hne i
  | r ss k => exact r.setOwn hv hne i
  | v ss k => exact r.setOwn hv hne i
  | x c =>
    have hl := r.len
    have at' : ∀ (j : Nat) sj, (ρ.set i (some (.x c)))[j]? = some (some sj) → (j = i ∧ sj = .x c ∧ i < ρ.length) ∨ (i ≠ j ∧ ρ[j]? = some (some sj)) := fun j sj e => by
      by_cases hj : i = j
      · subst hj
        have hlt : i < ρ.length := by
          have := (List.getElem?_eq_some_iff.mp e).1
          rwa [List.length_set] at this
        rw [List.getElem?_set_self hlt] at e
        cases e
        exact .inl ⟨rfl, rfl, hlt⟩
      · rw [List.getElem?_set_ne hj] at e
        exact .inr ⟨hj, e⟩
    refine ⟨r.bas, by rw [List.length_set, List.length_set]; exact r.len, fun j sj e => ?_, fun j k sj sk u w a e1 e2 e3 e4 o1 o2 => ?_⟩
    · rcases at' j sj e with ⟨rfl, rfl, hlt⟩ | ⟨hj, e⟩
      · exact ⟨v, by rw [List.getElem?_set_self (by omega)], hv⟩
      · obtain ⟨u, h1, h2⟩ := r.at_ j sj e
        exact ⟨u, by rw [List.getElem?_set_ne hj]; exact h1, h2⟩
    · rcases at' j sj e1 with ⟨_, rfl, _⟩ | ⟨hj, e1'⟩
      · exact o1.elim
      · rcases at' k sk e2 with ⟨_, rfl, _⟩ | ⟨hk, e2'⟩
        · exact o2.elim
        · rw [List.getElem?_set_ne hj] at e3
          rw [List.getElem?_set_ne hk] at e4
          exact r.sep j k sj sk u w a e1' e2' e3 e4 o1 o2
end
inductive Mix (C : PX) (H H' H0' : Hp) : List V → List SV → Prop
  | nil : Mix C H H' H0' [] []
  | d {v : V} {vs : List V} {x : PyData} {svs : List SV} : Dq C.K H0' v x → Mix C H H' H0' vs svs → Mix C H H' H0' (v :: vs) (.d x :: svs)
  | l {p : Addr} {xs : List V} {ds : List PyData} {vs : List V} {svs : List SV} : H p = none → H' p = some (.lst xs) → H0' p = none → C.B.h p = none → ds.length ≤ LIM → DqAll C.K H0' xs ds →
      (∀ (k : Nat) (v : V) (es : List PyData), vs[k]? = some v → svs[k]? = some (.l es) → v ≠ .ref p) → Mix C H H' H0' vs svs → Mix C H H' H0' (.ref p :: vs) (.l ds :: svs)
theorem Mix.grow {C : PX} {H H' H0' H2 H02 : Hp} (g : Grow H' H0' H2 H02) {vs : List V} {svs : List SV} (m : Mix C H H' H0' vs svs) : Mix C H H2 H02 vs svs := by
  induction m with
  | nil => exact .nil
  | d h t ih => exact .d (h.same g.z) ih
  | l a b c d e f n t ih => exact .l a (g.a _ _ b) (g.f _ (hid b) c) d e (f.same g.z) n ih
theorem Mix.length {C : PX} {H H' H0' : Hp} {vs : List V} {svs : List SV} (m : Mix C H H' H0' vs svs) : vs.length = svs.length := by
  induction m with
  | nil => rfl
  | d h t ih => simp [ih]
  | l a b c d e f n t ih => simp [ih]
theorem Mix.back {C : PX} {H1 H H' H0' : Hp} (e : Same H1 H) {vs : List V} {svs : List SV} (m : Mix C H H' H0' vs svs) : Mix C H1 H' H0' vs svs := by
  induction m with
  | nil => exact .nil
  | d h t ih => exact .d h ih
  | l a b c d k f n t ih => exact .l (e.free a) b c d k f n ih
theorem Mix.new {C : PX} {H H' H0' : Hp} {vs : List V} {svs : List SV} (m : Mix C H H' H0' vs svs) : ∀ (k : Nat) (v : V) (es : List PyData), vs[k]? = some v → svs[k]? = some (.l es) → ∃ p, v = .ref p ∧ H p = none := by
  induction m with
  | nil => intro k v es h; simp at h
  | d h t ih =>
    intro k v es h1 h2
    cases k with
    | zero => simp at h2
    | succ k => exact ih k v es (by simpa using h1) (by simpa using h2)
  | l a b c d k f n t ih =>
    intro k v es h1 h2
    cases k with
    | zero => simp at h1; exact ⟨_, h1.symm, a⟩
    | succ k => exact ih k v es (by simpa using h1) (by simpa using h2)
def mO (C : PX) (W : WX) (σ : St) (H H0 : Hp) (o : R (List SV)) (Q : List V → Hp → Prop) : Prop :=
  match o with
  | .ok svs => ∀ vs H' H0', Grow H H0 H' H0' → Mix C H H' H0' vs svs → Q vs H'
  | .exc c => ∀ cls dd H' H0', Grow H H0 H' H0' → ExR C.K C.mg H' c cls dd → W cls dd σ H'
  | .bad => False
def mF (C : PX) (W : WX) (f : EV → R (List SV)) : TA := fun σ H Q => ∃ ρ H0, Rep C σ H H0 ρ ∧ mO C W σ H H0 (f ρ) Q
def mN : EV → R (List SV) := fun _ => .ok []
def mS (a : FE) (r : EV → R (List SV)) : EV → R (List SV) := fun ρ => (a ρ).bind fun x => (r ρ).bind fun xs => .ok (.d x :: xs)
def asL : PyData → R (List PyData)
  | .list ds => .ok ds
  | _ => .bad
def mL (a : FE) (r : EV → R (List SV)) : EV → R (List SV) := fun ρ => ((a ρ).bind asL).bind fun x => (r ρ).bind fun xs => .ok (.l x :: xs)
def setSVs : List Nat → List SV → EV → EV
  | i :: is, d :: ds, ρ => setSVs is ds (ρ.set i (some d))
  | _, _, ρ => ρ
def setVs : List Nat → List V → St → St
  | i :: is, v :: vs, σ => setVs is vs (σ.set i (some v))
  | _, _, σ => σ
theorem rep_mix {C : PX} {Hs H H0 : Hp} {vs : List V} {svs : List SV} (m : Mix C Hs H H0 vs svs) : ∀ {is : List Nat} {σ : St} {ρ : EV}, Rep C σ H H0 ρ → (∀ (k : Nat) (v : V) (es : List PyData), vs[k]? = some v → svs[k]? = some (.l es) → ∀ (j : Nat) sj w a, ρ[j]? = some (some sj) → σ[j]? = some (some w) → Own H w sj a → v ≠ .ref a) → svs.length = is.length → Rep C (setVs is vs σ) H H0 (setSVs is svs ρ) := by
  induction m with
  | nil =>
    intro is σ ρ r _ hl
    cases is with
    | nil => exact r
    | cons _ _ => cases hl
  | @d v vs x svs h t ih =>
    intro is σ ρ r hn hl
    cases is with
    | nil => cases hl
    | cons i is =>
      refine ih (r.set h i) (fun k u es h1 h2 j sj w a e1 e2 o => ?_) (by simpa using hl)
      by_cases hj : i = j
      · subst hj
        by_cases hlt : i < ρ.length
        · rw [List.getElem?_set_self hlt] at e1
          cases e1
          exact o.elim
        · rw [List.getElem?_eq_none (by simpa using hlt)] at e1
          cases e1
      · rw [List.getElem?_set_ne hj] at e1 e2
        exact hn (k + 1) u es (by simpa using h1) (by simpa using h2) j sj w a e1 e2 o
  | @l p xs ds vs svs a b c d k f n t ih =>
    intro is σ ρ r hn hl
    cases is with
    | nil => cases hl
    | cons i is =>
      refine ih (r.setOwn (v := .ref p) (sv := .l ds) ⟨p, xs, rfl, b, c, d, k, f⟩ (hn 0 _ ds rfl rfl) i) (fun k u es h1 h2 j sj w a e1 e2 o => ?_) (by simpa using hl)
      by_cases hj : i = j
      · subst hj
        by_cases hlt : i < σ.length
        · rw [List.getElem?_set_self hlt] at e2
          rw [List.getElem?_set_self (by rw [← r.len]; exact hlt)] at e1
          cases e2
          cases e1
          cases o
          intro z
          cases z
          exact n k _ es h1 h2 rfl
        · rw [List.getElem?_eq_none (by simpa using hlt)] at e2
          cases e2
      · rw [List.getElem?_set_ne hj] at e1 e2
        exact hn (k + 1) u es (by simpa using h1) (by simpa using h2) j sj w a e1 e2 o
section
variable {X : Cx} {B : Bs} {W : WX} {s sa sb : Bool} {a b e : Expr} {fa fb f : FE} {pos : Pos} {es : List Expr} {fm : EV → R (List SV)}
theorem m_n : PA X [] (mF (cx X B) W mN) := pa_nil.weak fun σ H Q ⟨ρ, H0, rp, h⟩ => h [] H H0 (Grow.refl rp.st) .nil
theorem m_s (ha : PE X a (eF (cx X B) W true fa)) (hr : PA X es (mF (cx X B) W fm)) (hs : starEach (a :: es) X.env = (false, eval a X.env) :: starEach es X.env := by rfl) : PA X (a :: es) (mF (cx X B) W (mS fa fm)) := by
  refine (pa_cons ha hr hs).weak fun σ H Q ⟨ρ, H0, rp, h⟩ => ⟨ρ, H0, rp, ?_⟩
  unfold mS at h
  cases q : fa ρ with
  | bad => rw [q] at h; exact h
  | exc c => rw [q] at h; exact h
  | ok d =>
    rw [q] at h
    intro v H1 H01 g w
    refine ⟨ρ, H01, rp.grow g, ?_⟩
    rw [R.bind_ok] at h
    cases q2 : fm ρ with
    | bad => rw [q2] at h; exact h
    | exc c => rw [q2] at h; exact fun cls dd H' H0' g' => h cls dd H' H0' (g.trans g')
    | ok ds =>
      rw [q2] at h
      intro vs H2 H02 g2 ws
      exact h (v :: vs) H2 H02 (g.trans g2) (.d (w.strong.same g2.z) (ws.back g.a))
theorem m_l (ha : PE X a (nF (cx X B) W fa)) (hr : PA X es (mF (cx X B) W fm)) (hs : starEach (a :: es) X.env = (false, eval a X.env) :: starEach es X.env := by rfl) : PA X (a :: es) (mF (cx X B) W (mL fa fm)) := by
  refine (pa_cons ha hr hs).weak fun σ H Q ⟨ρ, H0, rp, h⟩ => ⟨ρ, H0, rp, ?_⟩
  unfold mL at h
  cases q : fa ρ with
  | bad => rw [q] at h; exact h
  | exc c => rw [q] at h; exact h
  | ok d =>
    rw [q] at h
    cases d <;> try exact False.elim h
    rename_i ds
    refine ⟨ds, rfl, fun p xs H1 H01 g h1 h2 h3 h4 h5 => ⟨ρ, H01, rp.grow g, ?_⟩⟩
    simp only [asL, R.bind_ok] at h
    cases q2 : fm ρ with
    | bad => rw [q2] at h; exact h
    | exc c => rw [q2] at h; exact fun cls dd H' H0' g' => h cls dd H' H0' (g.trans g')
    | ok es =>
      rw [q2] at h
      intro vs H2 H02 g2 ws
      refine h (.ref p :: vs) H2 H02 (g.trans g2) (.l h1 (g2.a _ _ h2) (g2.f p (hid h2) h3) (rp.bas.a.free h1) h4 (h5.same g2.z) (fun k u es e1 e2 e3 => ?_) (ws.back g.a))
      obtain ⟨q, e4, e5⟩ := ws.new k u es e1 e2
      rw [e3] at e4
      cases e4
      rw [h2] at e5
      cases e5
def sMix (is : List Nat) (fm : EV → R (List SV)) : FS := fun ρ => match fm ρ with
  | .ok svs => if svs.length = is.length then .next (setSVs is svs ρ) else .bad
  | .exc c => .exc c ρ
  | .bad => .bad
theorem mix_ne {C : PX} {σ : St} {H H0 H' H0' : Hp} {ρ : EV} {vs : List V} {svs : List SV} (rp : Rep C σ H H0 ρ) (g : Same H H') (m : Mix C H H' H0' vs svs) : ∀ (k : Nat) (v : V) (es : List PyData), vs[k]? = some v → svs[k]? = some (.l es) → ∀ (j : Nat) sj w a, ρ[j]? = some (some sj) → σ[j]? = some (some w) → Own H' w sj a → v ≠ .ref a := fun k v es h1 h2 j sj w a e1 e2 o z => by
  obtain ⟨p, rfl, hp⟩ := m.new k v es h1 h2
  exact own_ne rp g hp e1 e2 o (by cases z; rfl)
def gsV (is : List Nat) : TGs := fun vs σ H Q => vs.length = is.length ∧ Q (setVs is vs σ) H
theorem gv_n : PGs X [] (gsV []) := by
  obtain ⟨h⟩ := pgs_nil (X := X)
  refine ⟨fun pins s σ H vs us Q I r ⟨hl, q⟩ => h pins s σ H vs us Q I r ?_⟩
  cases vs with
  | nil => exact ⟨rfl, q⟩
  | cons _ _ => cases hl
theorem gv_c (i : Nat) {x : Str} {is : List Nat} {es : List Expr} (hN : X.N.Nodup) (hr : PGs X es (gsV is)) (hi : X.N[i]? = some x := by rfl) (hx : Loc X.env.scope x := by first | exact Or.inl rfl | exact Or.inr rfl) (hf : X.fn x = true ∨ X.env.scope.names.lookup x = some .local := by first | exact .inl rfl | exact .inr rfl | assumption)
    (hs : (assignEach (.Name x pos :: es) X.env).map (·.2) = assign (.Name x pos) X.env :: (assignEach es X.env).map (·.2) := by rfl) : PGs X (.Name x pos :: es) (gsV (i :: is)) := by
  obtain ⟨h⟩ := pgs_cons (pg_name (pos := pos) hN hi hx hf) hr hs
  refine ⟨fun pins s σ H vs us Q I r ⟨hl, q⟩ => h pins s σ H vs us Q I r ?_⟩
  cases vs with
  | nil => cases hl
  | cons v vr => exact ⟨v, vr, rfl, by simpa using hl, q⟩
theorem s_mix {is : List Nat} {ts : List Expr} {k1 k2 : Nat} {p1 p2 : Pos} (hc : X.calm = true) (hm : PA X es (mF (cx X B) W fm)) (hg : PGs X ts (gsV is)) (hn : (assignEach ts X.env).length = is.length := by rfl) (hst : (assignEach ts X.env).findIdx? (·.1) = none := by rfl)
    (hs : swapsWithSole [.Tuple ts k1 p1] (.Tuple es k2 p2) pos.line X.env = pure false := by rfl) (hw : swappedStores [.Tuple ts k1 p1] (.Tuple es k2 p2) X.env = pure none := by rfl) (h1 : (assignEach [.Tuple ts k1 p1] X.env).map (·.2) = [assign (.Tuple ts k1 p1) X.env] := by rfl) (hle : is.length ≤ 100 := by decide) :
    PS X (.Assign [.Tuple ts k1 p1] (.Tuple es k2 p2) pos) (sF (cx X B) W (sMix is fm)) := by
  refine (ps_asg (pe_tup hm) (pg_tup hc hg hn hst) hs hw h1).weak fun D σ H ⟨ρ, H0, rp, h⟩ => ⟨ρ, H0, rp, ?_⟩
  unfold sMix at h
  cases c : fm ρ with
  | bad => rw [c] at h; exact h
  | exc c' => rw [c] at h; exact fun cls dd H' H0' g x => h cls dd σ H' H0' g.z (rp.grow g) x
  | ok svs =>
    rw [c] at h
    intro vs H' H0' g m
    simp only at h
    by_cases hl : svs.length = is.length
    · rw [if_pos hl] at h
      have hvl := m.length
      refine ⟨by rw [hvl, hl]; exact Nat.le_trans hle (by decide), fun p hp => ⟨p, vs, rfl, .inl (.inl upd_same), by rw [hvl, hl], by rw [hvl, hl], ?_⟩⟩
      have g2 := Grow.mine g.i hp (.tup vs)
      exact h _ _ H0' g.z (rep_mix (m.grow g2) ((rp.grow g).grow g2) (mix_ne rp (g.a.trans g2.a) (m.grow g2)) hl)
    · rw [if_neg hl] at h; exact h.elim
theorem s_mix2 {i j : Nat} {x y : Str} {px py pt : Pos} {kt k2 pt2} (hc : X.calm = true) (hN : X.N.Nodup) (hm : PA X [a, b] (mF (cx X B) W fm)) (hw : swappedStores [.Tuple [.Name x px, .Name y py] kt pt] (.Tuple [a, b] k2 pt2) X.env = pure (some [x, y]))
    (hi : X.N[i]? = some x := by rfl) (hj : X.N[j]? = some y := by rfl) (hij : i ≠ j := by decide) (hx : X.env.scope.names.lookup x = some .local := by rfl) (hy : X.env.scope.names.lookup y = some .local := by rfl)
    (hs : swapsWithSole [.Tuple [.Name x px, .Name y py] kt pt] (.Tuple [a, b] k2 pt2) pos.line X.env = pure false := by rfl) :
    PS X (.Assign [.Tuple [.Name x px, .Name y py] kt pt] (.Tuple [a, b] k2 pt2) pos) (sF (cx X B) W (sMix [i, j] fm)) := by
  refine (ps_par hc hN hi hj hij hx hy hm hw hs).weak fun D σ H ⟨ρ, H0, rp, h⟩ => ⟨ρ, H0, rp, ?_⟩
  unfold sMix at h
  cases c : fm ρ with
  | bad => rw [c] at h; exact h
  | exc c' => rw [c] at h; exact fun cls dd H' H0' g x => h cls dd σ H' H0' g.z (rp.grow g) x
  | ok svs =>
    rw [c] at h
    intro vs H' H0' g m
    simp only at h
    by_cases hl : svs.length = [i, j].length
    · rw [if_pos hl] at h
      have hvl := m.length
      match vs, hvl.trans hl with
      | [v, u], _ => exact ⟨v, u, rfl, h _ H' H0' g.z (rep_mix m (rp.grow g) (mix_ne rp g.a m) hl)⟩
    · rw [if_neg hl] at h; exact h.elim
theorem s_mix3 {i j l : Nat} {x y z : Str} {c : Expr} {px py pz pt : Pos} {kt k2 pt2} (hc : X.calm = true) (hN : X.N.Nodup) (hm : PA X [a, b, c] (mF (cx X B) W fm)) (hw : swappedStores [.Tuple [.Name x px, .Name y py, .Name z pz] kt pt] (.Tuple [a, b, c] k2 pt2) X.env = pure (some [x, y, z]))
    (hi : X.N[i]? = some x := by rfl) (hj : X.N[j]? = some y := by rfl) (hk : X.N[l]? = some z := by rfl) (hij : i ≠ j := by decide) (hil : i ≠ l := by decide) (hjl : j ≠ l := by decide) (hx : X.env.scope.names.lookup x = some .local := by rfl) (hy : X.env.scope.names.lookup y = some .local := by rfl) (hz : X.env.scope.names.lookup z = some .local := by rfl)
    (hs : swapsWithSole [.Tuple [.Name x px, .Name y py, .Name z pz] kt pt] (.Tuple [a, b, c] k2 pt2) pos.line X.env = pure false := by rfl) :
    PS X (.Assign [.Tuple [.Name x px, .Name y py, .Name z pz] kt pt] (.Tuple [a, b, c] k2 pt2) pos) (sF (cx X B) W (sMix [i, j, l] fm)) := by
  refine (ps_par3 hc hN hi hj hk hij hil hjl hx hy hz hm hw hs).weak fun D σ H ⟨ρ, H0, rp, h⟩ => ⟨ρ, H0, rp, ?_⟩
  unfold sMix at h
  cases c : fm ρ with
  | bad => rw [c] at h; exact h
  | exc c' => rw [c] at h; exact fun cls dd H' H0' g x => h cls dd σ H' H0' g.z (rp.grow g) x
  | ok svs =>
    rw [c] at h
    intro vs H' H0' g m
    simp only at h
    by_cases hl : svs.length = [i, j, l].length
    · rw [if_pos hl] at h
      have hvl := m.length
      match vs, hvl.trans hl with
      | [v, u, t], _ => exact ⟨v, u, t, rfl, h _ H' H0' g.z (rep_mix m (rp.grow g) (mix_ne rp g.a m) hl)⟩
    · rw [if_neg hl] at h; exact h.elim
end
end CP
namespace CP
open PySem L2
def del (H : Hp) (p : Addr) : Hp := fun a => if a = p then none else H a
theorem del_same {H : Hp} {p : Addr} : del H p p = none := by unfold del; rw [if_pos rfl]
theorem del_ne {H : Hp} {p a : Addr} (h : a ≠ p) : del H p a = H a := by unfold del; rw [if_neg h]
theorem same_del {H : Hp} {p : Addr} : Same (del H p) H := fun b o q => by
  by_cases e : b = p
  · rw [e, del_same] at q; cases q
  · rw [del_ne e] at q; exact q
abbrev FM := PyData → PyData → List PyData → PyData → R (List PyData)
def spM (K : PySem.W.Frag) (F : FM) : Sp := fun vs H Q _ => ∃ (v0 v1 : V) (p : Addr) (v3 : V) (xs : List V) (d0 d1 : PyData) (ds : List PyData) (d3 : PyData) (H0 : Hp), vs = [v0, v1, .ref p, v3] ∧ Same H0 H ∧ H p = some (.lst xs) ∧ H0 p = none ∧ Dq K H0 v0 d0 ∧ Dq K H0 v1 d1 ∧ Dq K H0 v3 d3 ∧ DqAll K H0 xs ds ∧ ds.length ≤ LIM ∧
  match F d0 d1 ds d3 with
  | .ok es => ∀ H' H0' ys, Grow (del H p) H0 H' H0' → H' p = some (.lst ys) → H0' p = none → es.length ≤ LIM → DqAll K H0' ys es → Q .non H'
  | _ => False
section
variable {C : PX} {σ : St} {H H0 H1 H01 : Hp} {ρ : EV}
theorem Rep.mutG (r : Rep C σ H H0 ρ) {i : Nat} {ds es : List PyData} {p : Addr} {ys : List V} {H' H0' : Hp} (hi : ρ[i]? = some (some (.l ds))) (hs : σ[i]? = some (some (.ref p))) (hb : C.B.h p = none) (g : Grow (del H p) H0 H' H0') (hp : H' p = some (.lst ys)) (h0 : H0' p = none) (hl : es.length ≤ LIM) (hd : DqAll C.K H0' ys es) :
    Rep C σ H' H0' (ρ.set i (some (.l es))) := by
  have hlt : i < ρ.length := (List.getElem?_eq_some_iff.mp hi).1
  have at' : ∀ (j : Nat) sj, (ρ.set i (some (.l es)))[j]? = some (some sj) → (j = i ∧ sj = .l es) ∨ (i ≠ j ∧ ρ[j]? = some (some sj)) := fun j sj e => by
    by_cases hj : i = j
    · subst hj
      rw [List.getElem?_set_self hlt] at e
      cases e
      exact .inl ⟨rfl, rfl⟩
    · rw [List.getElem?_set_ne hj] at e
      exact .inr ⟨hj, e⟩
  have keep : ∀ q o, q ≠ p → H q = some o → H' q = some o := fun q o hq e => g.a q o (by rw [del_ne hq]; exact e)
  have none0 : ∀ q, q ≠ p → Hid H q → H0 q = none → H0' q = none := fun q hq h1 h2 => g.f q (by obtain ⟨u, u1, u2⟩ := h1; exact ⟨u, by rw [del_ne hq]; exact u1, u2⟩) h2
  refine ⟨⟨fun b u q => ?_, r.bas.z.trans g.z, g.i, fun b h1 h2 => ?_⟩, by rw [List.length_set]; exact r.len, fun j sj e => ?_, fun j k sj sk u w a e1 e2 e3 e4 o1 o2 => ?_⟩
  · exact keep b u (ne_of_none q hb) (r.bas.a b u q)
  · have ne : b ≠ p := fun z => h1.ne (by rw [z]; exact hb)
    exact none0 b ne (h1.same r.bas.a) (r.bas.f b h1 h2)
  · rcases at' j sj e with ⟨rfl, rfl⟩ | ⟨hj, e⟩
    · exact ⟨_, hs, p, ys, rfl, hp, h0, hb, hl, hd⟩
    · obtain ⟨u, h1, h2⟩ := r.at_ j sj e
      refine ⟨u, h1, ?_⟩
      cases sj with
      | d x => exact Dq.same g.z (show Dq C.K H0 u x from h2)
      | x c => exact h2
      | v ss kk => exact VRep.same h2 g.z
      | l es =>
        obtain ⟨q, zs, rfl, m1, m2, m3, m4, m5⟩ := h2
        have ne : q ≠ p := fun z => hj (r.sep0 i j _ _ p hi e hs (by rw [← z]; exact h1) rfl rfl)
        exact ⟨q, zs, rfl, keep q _ ne m1, none0 q ne (hid m1) m2, m3, m4, m5.same g.z⟩
      | m kvs =>
        obtain ⟨q, zs, rfl, m1, m2, m3, m4⟩ := h2
        have ne : q ≠ p := fun z => hj (r.sep0 i j _ _ p hi e hs (by rw [← z]; exact h1) rfl rfl)
        exact ⟨q, zs, rfl, keep q _ ne m1, none0 q ne (hid m1) m2, m3, m4.same g.z⟩
      | r ss kk =>
        have nq : ∀ a, Own H u (.r ss kk) a → a ≠ p := fun a oa z => hj (r.sep i j _ _ _ _ p hi e hs h1 rfl (z ▸ oa))
        obtain ⟨q, c, dx, fs, q2, zs, rfl, m1, mm, mz, mf1, mf2, mf3, mq, m2, m2q, m3, m3q, m4, m5⟩ := h2
        have n1 : q ≠ p := nq q (.inl rfl)
        have n2 : q2 ≠ p := nq q2 (.inr ⟨_, _, _, _, rfl, m1, mf1⟩)
        exact ⟨q, c, dx, fs, q2, zs, rfl, keep q _ n1 m1, mm, mz, mf1, mf2, mf3, keep q2 _ n2 mq, none0 q n1 (hid m1) m2, none0 q2 n2 (hid mq) m2q, m3, m3q, m4, m5.same g.z⟩
  · have kp : ∀ (m : Nat) (sm : SV) (x : V) (hm : i ≠ m) (em : ρ[m]? = some (some sm)) (ex : σ[m]? = some (some x)) (om : sm.own = true), ∀ b ob, x = .ref b → H b = some ob → H' b = some ob := fun m sm x hm em ex om b ob e5 e6 =>
      keep b ob (fun z => hm (r.sep0 i m _ sm p hi em hs (by rw [ex, e5, z]) rfl om)) e6
    rcases at' j sj e1 with ⟨ej, es⟩ | ⟨hj, e1'⟩
    · rcases at' k sk e2 with ⟨ek, _⟩ | ⟨hk, e2'⟩
      · rw [ej, ek]
      · rw [ej, hs] at e3
        cases e3
        subst es
        cases o1
        rw [ej]
        exact r.sep i k _ sk _ w p hi e2' hs e4 rfl (o2.back (r.at1 e2' e4) (kp k sk w hk e2' e4 o2.own))
    · rcases at' k sk e2 with ⟨ek, es⟩ | ⟨hk, e2'⟩
      · rw [ek, hs] at e4
        cases e4
        subst es
        cases o2
        rw [ek]
        exact r.sep j i sj _ u _ p e1' hi e3 hs (o1.back (r.at1 e1' e3) (kp j sj u hj e1' e3 o1.own)) rfl
      · exact r.sepB e1' e2' e3 e4 (kp j sj u hj e1' e3 o1.own) (kp k sk w hk e2' e4 o2.own) o1 o2
end
def sCallM (i : Nat) (F : FM) (f0 f1 f3 : FE) : FS := fun ρ => match f0 ρ with
  | .ok d0 => match f1 ρ with
    | .ok d1 => match ρ[i]? with
      | some (some (.l ds)) => match f3 ρ with
        | .ok d3 => match F d0 d1 ds d3 with
          | .ok es => .next (ρ.set i (some (.l es)))
          | _ => .bad
        | _ => .bad
      | _ => .bad
    | _ => .bad
  | _ => .bad
def tArgsM (C : PX) (W : WX) (i : Nat) (f0 f1 f3 : FE) : TA := tCons (eF C W true f0) (tCons (eF C W true f1) (tCons (tVar i) (tCons (eF C W true f3) tNil)))
theorem callM_read {C : PX} {W : WX} {K : PySem.W.Frag} {F : FM} {i : Nat} {f0 f1 f3 : FE} {D : Ends} {σ : St} {H : Hp} (hK : C.K = K) (h : sF C W (sCallM i F f0 f1 f3) D σ H) : tDrop (tCallS (spM K F) (WE W) (tArgsM C W i f0 f1 f3)) D σ H := by
  subst hK
  obtain ⟨ρ, H0, rp, h⟩ := h
  unfold sCallM at h
  cases c0 : f0 ρ with
  | bad => rw [c0] at h; exact h.elim
  | exc c => rw [c0] at h; exact h.elim
  | ok d0 =>
    rw [c0] at h
    simp only at h
    refine ⟨ρ, H0, rp, ?_⟩
    rw [c0]
    intro v0 H1 H01 g1 w0
    refine ⟨ρ, H01, rp.grow g1, ?_⟩
    cases c1 : f1 ρ with
    | bad => rw [c1] at h; exact h.elim
    | exc c => rw [c1] at h; exact h.elim
    | ok d1 =>
      rw [c1] at h
      simp only at h
      intro v1 H2 H02 g2 w1
      have rp2 := (rp.grow g1).grow g2
      cases q : ρ[i]? with
      | none => rw [q] at h; exact h.elim
      | some o =>
        cases o with
        | none => rw [q] at h; exact h.elim
        | some sv =>
          cases sv with
          | d _ => rw [q] at h; exact h.elim
          | m _ => rw [q] at h; exact h.elim
          | x _ => rw [q] at h; exact h.elim
          | r _ _ => rw [q] at h; exact h.elim
          | v _ _ => rw [q] at h; exact h.elim
          | l ds =>
            rw [q] at h
            simp only at h
            obtain ⟨u, hs, p, xs, rfl, k1, k2, k3, k4, k5⟩ := rp2.at_ i _ q
            refine ⟨.ref p, hs, ρ, H02, rp2, ?_⟩
            cases c3 : f3 ρ with
            | bad => rw [c3] at h; exact h.elim
            | exc c => rw [c3] at h; exact h.elim
            | ok d3 =>
              rw [c3] at h
              simp only at h
              intro v3 H3 H03 g3 w3
              have rp3 := rp2.grow g3
              have k2' := g3.f p (hid k1) k2
              refine ⟨v0, v1, p, v3, xs, d0, d1, ds, d3, H03, rfl, g3.i, g3.a _ _ k1, k2', ((w0.strong.same g2.z).same g3.z), w1.strong.same g3.z, w3.strong, k5.same g3.z, k4, ?_⟩
              cases cF : F d0 d1 ds d3 with
              | bad => rw [cF] at h; exact h
              | exc c => rw [cF] at h; exact h
              | ok es =>
                rw [cF] at h
                intro H' H0' ys g hp h0 hl hd
                exact h σ H' H0' (((g1.z.trans g2.z).trans g3.z).trans g.z) (rp3.mutG q hs k3 g hp h0 hl hd)
section
variable {X : Cx} {B : Bs} {W : WX} {s sa sb : Bool} {pos : Pos}
theorem s_callM (i : Nat) {k : Nat} {f : Addr} {fd : FuncData} {ps : List Str} {x y : Str} {F : FM} {e0 e1 e3 : Expr} {f0 f1 f3 : FE} {p p2 cpos : Pos} (G : FnOk X.prog X.w X.K X.mg X.base (L2.CX X.prog X.w) k f fd ps (spM X.K F)) (hr : Room k X.A) (hm : X.mg x = some (.ref f)) (hk : PySem.W.keepIn X.K (.ref f) = true)
    (hb : Binds X.K fd ps []) (tk : Takes X W) (h0 : PE X e0 (eF (cx X B) W true f0)) (h1 : PE X e1 (eF (cx X B) W true f1)) (h3 : PE X e3 (eF (cx X B) W true f3)) (hN : X.N[i]? = some y := by rfl) (hv : Vis X.env.scope y := by first | exact Or.inl rfl | exact Or.inr (Or.inl rfl) | exact Or.inr (Or.inr rfl)) (hd : (y == ("__debug__" : Str)) = false := by decide) (hcd : (y == ("__classdict__" : Str)) = false := by decide)
    (hg : Gl X x := by rfl) (hdb : (x == ("__debug__" : Str)) = false := by decide) (he : starEach [e0, e1, .Name y p2, e3] X.env = (false, eval e0 X.env) :: starEach [e1, .Name y p2, e3] X.env := by rfl) (he1 : starEach [e1, .Name y p2, e3] X.env = (false, eval e1 X.env) :: starEach [.Name y p2, e3] X.env := by rfl)
    (he3 : starEach [e3] X.env = (false, eval e3 X.env) :: starEach [] X.env := by rfl) (hpl : (backTo cpos (starEach [e1, .Name y p2, e3] X.env)).any (·.1) = false := by rfl) (hsw : swapsWith (.Call (.Name x p) [e0, e1, .Name y p2, e3] [] cpos) none pos.line X.env = pure false := by rfl) :
    PS X (.Expr (.Call (.Name x p) [e0, e1, .Name y p2, e3] [] cpos) pos) (sF (cx X B) W (sCallM i F f0 f1 f3)) :=
  (ps_expr (pe_callS G hr hg hm hk hb (fun σ => passAt tk σ) (pa_cons h0 (pa_cons h1 (pa_cons (pe_var hN hv hd hcd) (pa_cons h3 pa_nil he3)) he1) he) hdb he hpl) hsw).weak fun D σ H h => callM_read rfl h
end
def extT1 : EV → R Bool := tB (e2 eqD (e1 lenD (eV 1)) (e1 lenD (eV 0)))
def extT2 (Fmf : List PyData → R PyData) : EV → R Bool := tAndF (tB (e2 ltD (e1 lenD (eL 2)) (eV 3))) (tAndF (tB (e2 notInD (eV 4) (eV 1))) (tB (eCall 3 Fmf (aC (eV 0) (aC (eV 1) (aC (eV 4) aN))))))
def extA : FE := e2 opAdd (eV 1) (eT (aC (eV 4) aN))
def extEnv (d0 d1 : PyData) (fs : List PyData) (d3 : PyData) (x : Option SV) : EV := [some (.d d0), some (.d d1), some (.l fs), some (.d d3), x]
def extGo (Fmf : List PyData → R PyData) (F : FM) (d0 d1 d3 : PyData) : List PyData → List PyData → R (List PyData)
  | [], fs => .ok fs
  | n :: ns, fs => match extT2 Fmf (extEnv d0 d1 fs d3 (some (.d n))) with
    | .ok true => match extA (extEnv d0 d1 fs d3 (some (.d n))) with
      | .ok d1' => match F d0 d1' fs d3 with
        | .ok fs' => extGo Fmf F d0 d1 d3 ns fs'
        | _ => .bad
      | _ => .bad
    | .ok false => extGo Fmf F d0 d1 d3 ns fs
    | _ => .bad
def extF (Fmf : List PyData → R PyData) : Nat → FM
  | 0 => fun _ _ _ _ => .bad
  | n + 1 => fun d0 d1 fs d3 => match extT1 (extEnv d0 d1 fs d3 none) with
    | .ok true => if fs.length < LIM then .ok (fs ++ [d1]) else .bad
    | .ok false => match iRng1 (e1 lenD (eV 0)) (extEnv d0 d1 fs d3 none) with
      | .ok items => extGo Fmf (extF Fmf n) d0 d1 d3 items fs
      | _ => .bad
    | _ => .bad
def tExt (C : PX) (W : WX) (K : PySem.W.Frag) (Fmf : List PyData → R PyData) (F : FM) : TS :=
  tSeq (tIfS (tF C W extT1) (tSeq (tDrop (tBM K "list" rAppend (tVar 2) (tCons (eF C W true (eV 1)) tNil))) tRetN) tNext)
    (tFor (iF (pr := false) C W true (iRng1 (e1 lenD (eV 0)))) (gName 4) (tIfS (tF C W (extT2 Fmf)) (tDrop (tCallS (spM K F) (WE W) (tArgsM C W 2 (eV 0) extA (eV 3)))) tNext))
theorem ext_read {K : PySem.W.Frag} {mg : Str → Option Value} {Fmf : List PyData → R PyData} {n : Nat} {v0 v1 v3 : V} {p : Addr} {xs : List V} {d0 d1 d3 : PyData} {ds : List PyData} {H H0 : Hp} {Q : VK} {W : WX}
    (i : Same H0 H) (hp : H p = some (.lst xs)) (h0 : H0 p = none) (k0 : Dq K H0 v0 d0) (k1 : Dq K H0 v1 d1) (k3 : Dq K H0 v3 d3) (kx : DqAll K H0 xs ds) (hl : ds.length ≤ LIM)
    (h : match extF Fmf (n + 1) d0 d1 ds d3 with
      | .ok es => ∀ H' H0' ys, Grow (del H p) H0 H' H0' → H' p = some (.lst ys) → H0' p = none → es.length ≤ LIM → DqAll K H0' ys es → Q .non H'
      | _ => False) :
    tExt ⟨K, mg, bs (del H p) H0⟩ W K Fmf (extF Fmf n) { nx := fun _ H' => Q .non H', rt := Q } [some v0, some v1, some (.ref p), some v3, none] H := by
  have mk : ∀ {H' H0' : Hp} {ys : List V} {es : List PyData} {x : Option V} {y : Option SV}, Grow (del H p) H0 H' H0' → H' p = some (.lst ys) → H0' p = none → es.length ≤ LIM → DqAll K H0' ys es → (∀ sv, y = some sv → ∃ v d, x = some v ∧ sv = .d d ∧ Dq K H0' v d) →
      Rep ⟨K, mg, bs (del H p) H0⟩ [some v0, some v1, some (.ref p), some v3, x] H' H0' (extEnv d0 d1 es d3 y) := fun {H' H0' ys es x y} g e1 e2 e3 e4 e5 => by
    refine ⟨g, rfl, fun j sj e => ?_, fun j k sj sk v w' b a1 a2 a3 a4 o1 o2 => ?_⟩
    · match j, e with
      | 0, e => cases e; exact ⟨v0, rfl, k0.same g.z⟩
      | 1, e => cases e; exact ⟨v1, rfl, k1.same g.z⟩
      | 2, e => cases e; exact ⟨.ref p, rfl, p, ys, rfl, e1, e2, del_same, e3, e4⟩
      | 3, e => cases e; exact ⟨v3, rfl, k3.same g.z⟩
      | 4, e =>
        have e' : y = some sj := Option.some.inj e
        obtain ⟨v, d, q1, q2, q3⟩ := e5 sj e'
        subst q1 q2
        exact ⟨v, rfl, q3⟩
      | j + 5, e => simp [extEnv] at e
    · have own2 : ∀ (m : Nat) (sm : SV), (extEnv d0 d1 es d3 y)[m]? = some (some sm) → sm.own = true → m = 2 := fun m sm e o => by
        match m, e with
        | 0, e => cases e; cases o
        | 1, e => cases e; cases o
        | 2, e => rfl
        | 3, e => cases e; cases o
        | 4, e =>
          have e' : y = some sm := Option.some.inj e
          obtain ⟨v, d, q1, q2, q3⟩ := e5 sm e'
          subst q2
          cases o
        | m + 5, e => simp [extEnv] at e
      rw [own2 j sj a1 o1.own, own2 k sk a2 o2.own]
  have g0 : Grow (del H p) H0 H H0 := ⟨same_del, Same.refl _, i, fun b _ e => e⟩
  have r0 : Rep ⟨K, mg, bs (del H p) H0⟩ [some v0, some v1, some (.ref p), some v3, none] H H0 (extEnv d0 d1 ds d3 none) := mk g0 hp h0 hl kx fun sv e => by cases e
  refine ⟨extEnv d0 d1 ds d3 none, H0, r0, ?_⟩
  unfold extF at h
  cases c1 : extT1 (extEnv d0 d1 ds d3 none) with
  | bad => rw [c1] at h; exact h.elim
  | exc c => rw [c1] at h; exact h.elim
  | ok b =>
    rw [c1] at h
    intro H1 H01 g1
    have hp1 : H1 p = some (.lst xs) := g1.a _ _ hp
    have h01 : H01 p = none := g1.f p (hid hp) h0
    have kx1 := kx.same g1.z
    have gA := g0.trans g1
    cases b with
    | true =>
      simp only at h
      by_cases hlt : ds.length < LIM
      · rw [if_pos hlt] at h
        show (fun v H1 => _) _ _
        refine ⟨.ref p, rfl, .inl ⟨rfl, xs, .inl (.inl hp1)⟩, extEnv d0 d1 ds d3 none, H01, r0.grow g1, ?_⟩
        show eO _ _ _ _ _ _ (.ok d1) _
        intro u H2 H02 g2 w
        refine ⟨p, xs, u, rfl, rfl, g2.a _ _ hp1, by rw [kx.length]; exact lim_lt hlt, ?_⟩
        have h02 : H02 p = none := g2.f p (hid hp1) h01
        refine h _ H02 (xs ++ [u]) ?_ upd_same h02 (by rw [List.length_append]; exact hlt) ((kx1.same g2.z).append (.cons w.strong .nil))
        have gB := gA.trans g2
        exact ⟨fun b o q => by rw [upd_ne (fun z => by rw [z, del_same] at q; cases q)]; exact gB.a b o q, gB.z, fun b o q => by rw [upd_ne (ne_of_none q h02)]; exact gB.i b o q, gB.f⟩
      · rw [if_neg hlt] at h; exact h.elim
    | false =>
      simp only at h
      refine ⟨extEnv d0 d1 ds d3 none, H01, r0.grow g1, ?_⟩
      cases ci : iRng1 (e1 lenD (eV 0)) (extEnv d0 d1 ds d3 none) with
      | bad => rw [ci] at h; exact h.elim
      | exc c => rw [ci] at h; exact h.elim
      | ok items =>
        rw [ci] at h
        simp only at h
        intro J H2 H02 g2 it
        obtain ⟨hlim, it⟩ := it
        have it : ∀ H' H0', Same H02 H' → Same H02 H0' → Same H0' H' → ∀ i : Nat,
          (∀ d, items[i]? = some d → J.go i H' ∧ ∀ x H'', J.yld i H' x H'' → ∃ H0'', Grow H' H0' H'' H0'' ∧ Dr false K H0'' x d) ∧ (i = items.length → J.stop i H') := it
        refine ⟨fun j m σj Hj => m = items.length - j ∧ j ≤ items.length ∧ ∃ (H0j : Hp) (ys : List V) (es : List PyData) (x : Option V), σj = [some v0, some v1, some (.ref p), some v3, x] ∧ Same H02 H0j ∧ Grow (del H p) H0 Hj H0j ∧ Hj p = some (.lst ys) ∧ H0j p = none ∧ es.length ≤ LIM ∧ DqAll K H0j ys es ∧
            (match extGo Fmf (extF Fmf n) d0 d1 d3 (items.drop j) es with
              | .ok es => ∀ H' H0' ys, Grow (del H p) H0 H' H0' → H' p = some (.lst ys) → H0' p = none → es.length ≤ LIM → DqAll K H0' ys es → Q .non H'
              | _ => False),
          ⟨items.length, by simp, Nat.zero_le _, H02, xs, ds, none, rfl, Same.refl _, gA.trans g2, g2.a _ _ hp1, g2.f p (hid hp1) h01, hl, kx1.same g2.z, by simpa using h⟩, ?_⟩
        rintro j m σj Hj ⟨rfl, hj, H0j, ys, es, x, rfl, ez, gj, e1, e2, e3, e4, ho⟩
        obtain ⟨it1, it2⟩ := it Hj H0j (ez.trans gj.i) ez gj.i j
        by_cases hlt : j < items.length
        · right
          obtain ⟨go, yl⟩ := it1 items[j] (by simp [hlt])
          have edrop : items.drop j = items[j] :: items.drop (j + 1) := List.drop_eq_getElem_cons hlt
          rw [edrop] at ho
          unfold extGo at ho
          refine ⟨go, fun σ' H' => ∃ (H0j : Hp) (ys : List V) (es : List PyData) (x : Option V), σ' = [some v0, some v1, some (.ref p), some v3, x] ∧ Same H02 H0j ∧ Grow (del H p) H0 H' H0j ∧ H' p = some (.lst ys) ∧ H0j p = none ∧ es.length ≤ LIM ∧ DqAll K H0j ys es ∧
            (match extGo Fmf (extF Fmf n) d0 d1 d3 (items.drop (j + 1)) es with
              | .ok es => ∀ H' H0' ys, Grow (del H p) H0 H' H0' → H' p = some (.lst ys) → H0' p = none → es.length ≤ LIM → DqAll K H0' ys es → Q .non H'
              | _ => False), fun σ' H' hn => ⟨items.length - (j + 1), by omega, rfl, hlt, hn⟩, fun y H' hy => ?_⟩
          obtain ⟨H0', g', dy'⟩ := yl y H' hy
          have dy := dy'.dq
          have gB := gj.trans g'
          have e1' : H' p = some (.lst ys) := g'.a _ _ e1
          have e2' : H0' p = none := g'.f p (hid e1) e2
          have rj : Rep ⟨K, mg, bs (del H p) H0⟩ [some v0, some v1, some (.ref p), some v3, some y] H' H0' (extEnv d0 d1 es d3 (some (.d items[j]))) :=
            mk gB e1' e2' e3 (e4.same g'.z) fun sv e => by cases e; exact ⟨y, _, rfl, rfl, dy⟩
          refine ⟨_, H0', rj, ?_⟩
          cases c2 : extT2 Fmf (extEnv d0 d1 es d3 (some (.d items[j]))) with
          | bad => rw [c2] at ho; exact ho.elim
          | exc c => rw [c2] at ho; exact ho.elim
          | ok b =>
            rw [c2] at ho
            intro H3 H03 g3
            have gC := gB.trans g3
            have e1'' : H3 p = some (.lst ys) := g3.a _ _ e1'
            have e2'' : H03 p = none := g3.f p (hid e1') e2'
            cases b with
            | false =>
              simp only at ho
              exact ⟨H03, ys, es, some y, rfl, (ez.trans g'.z).trans g3.z, gC, e1'', e2'', e3, (e4.same g'.z).same g3.z, ho⟩
            | true =>
              simp only at ho
              cases ca : extA (extEnv d0 d1 es d3 (some (.d items[j]))) with
              | bad => rw [ca] at ho; exact ho.elim
              | exc c => rw [ca] at ho; exact ho.elim
              | ok d1' =>
                rw [ca] at ho
                simp only at ho
                have r3 := rj.grow g3
                refine ⟨_, H03, r3, ?_⟩
                show eO _ _ _ _ _ _ (.ok d0) _
                intro u0 H4 H04 g4 w0
                refine ⟨_, H04, r3.grow g4, ?_⟩
                rw [ca]
                intro u1 H5 H05 g5 w1
                refine ⟨.ref p, rfl, _, H05, (r3.grow g4).grow g5, ?_⟩
                show eO _ _ _ _ _ _ (.ok d3) _
                intro u3 H6 H06 g6 w3
                have gs := (g4.trans g5).trans g6
                have f1 : H6 p = some (.lst ys) := gs.a _ _ e1''
                have f2 : H06 p = none := gs.f p (hid e1'') e2''
                refine ⟨u0, u1, p, u3, ys, d0, d1', es, d3, H06, rfl, g6.i, f1, f2, (w0.strong.same g5.z).same g6.z, w1.strong.same g6.z, w3.strong, ((e4.same g'.z).same g3.z).same gs.z, e3, ?_⟩
                cases cf : extF Fmf n d0 d1' es d3 with
                | bad => rw [cf] at ho; exact ho
                | exc c => rw [cf] at ho; exact ho
                | ok fs =>
                  rw [cf] at ho
                  simp only at ho
                  intro H7 H07 zs g7 a1 a2 a3 a4
                  refine ⟨H07, zs, fs, some y, rfl, ((ez.trans g'.z).trans g3.z).trans (gs.z.trans g7.z), ?_, a1, a2, a3, a4, ho⟩
                  have gD := gC.trans gs
                  exact ⟨fun b o q => g7.a b o (by rw [del_ne (fun z => by rw [z, del_same] at q; cases q)]; exact gD.a b o q), gD.z.trans g7.z, g7.i, fun b q1 q2 => by
                    by_cases z : b = p
                    · rw [z]; exact a2
                    · exact g7.f b (by obtain ⟨u, u1, u2⟩ := q1.same gD.a; exact ⟨u, by rw [del_ne z]; exact u1, u2⟩) (gD.f b q1 q2)⟩
        · left
          have e : j = items.length := by omega
          rw [e, List.drop_length] at ho
          exact ⟨it2 e, ho Hj H0j ys gj e1 e2 e3 e4⟩
end CP
namespace CP
open PySem L2
abbrev augI : PyData → PyData → R PyData := fun d e => match d, e with | .int m, .int n => .ok (.int (m + n)) | _, _ => .bad
def GlD (K : PySem.W.Frag) (mg : Str → Option Value) (x : Str) (d : PyData) : Prop := ∃ (u : Value) (v : V), mg x = some u ∧ RelV v u ∧ ∀ H, Dq K H v d
section
variable {X : Cx} {B : Bs} {W : WX} {s : Bool} {pos : Pos}
theorem d_glE {x : Str} {d : PyData} (h : GlD X.K X.mg x d) (hg : Gl X x := by rfl) (hd : (x == ("__debug__" : Str)) = false := by decide) : PE X (.Name x pos) (eF (cx X B) W s (eC d)) := by
  obtain ⟨u, v, h1, h2, h3⟩ := h
  exact d_gl h1 h2 h3 hg hd
end
theorem isL_lrng {f : FE} : IsL (eLRng1 f) := fun ρ d h => by
  unfold eLRng1 at h
  cases c : iRng1 f ρ with
  | bad => rw [c] at h; cases h
  | exc c' => rw [c] at h; cases h
  | ok ds => rw [c] at h; cases h; exact ⟨ds, rfl⟩
section
variable {K : PySem.W.Frag} {mg : Str → Option Value} {x : Str}
theorem glD_int {n : Int} {t : Tok} (h : mg x = some (.int n t)) : GlD K mg x (.int n) := ⟨_, .int n, h, ⟨_, rfl⟩, fun _ => .int n⟩
theorem glD_str {n : Str} {t : Tok} (h : mg x = some (.str n t)) : GlD K mg x (.str n) := ⟨_, .str n, h, ⟨_, rfl⟩, fun _ => .str n⟩
theorem dq_strs {H : Hp} : ∀ xs : List Str, DqAll K H (xs.map V.str) (xs.map PyData.str)
  | [] => .nil
  | x :: xs => .cons (.str x) (dq_strs xs)
theorem glD_strs {a : Addr} {n : Nat} {od : Option Addr} {sl : Array (Option Value)} {its : Array Value} {y : Str} {ys : List Str} (h : mg x = some (.ref a)) (hk : K.lookup a = some ⟨.type "tuple", od, .seq its n, sl⟩) (hl : ys.length < 1000) (hv : Vals ((y :: ys).map V.str) its.toList) : GlD K mg x (.tuple ((y :: ys).map .str)) := by
  refine ⟨_, .ref a, h, rfl, fun H => ?_⟩
  have hn : its.size = ys.length + 1 := by
    have := hv.length
    simpa using this.symm
  refine Dq.tupK (x := y) (ds := ys.map .str) (.inr ⟨_, its, n, hk, rfl, rfl, ?_, hv⟩) ?_ (dq_strs (y :: ys))
  · rw [hn]; exact Nat.le_trans (by omega : ys.length + 1 ≤ 1000) (by decide)
  · simp only [List.length_cons, List.length_map]; unfold LIM; omega
structure Df (K : PySem.W.Frag) (mg : Str → Option Value) (x : Str) (st : Stmt) (ps : List Str) where
  f : Addr
  fd : FuncData
  fn : Fun K x x st f fd
  bs : Binds K fd ps []
  mg : mg x = some (.ref f)
variable {P : Program} {w : World} {base : Heap} {f : Addr} {fd : FuncData} {ps : List Str} {k n : Nat}
theorem fnok_no {sp : Sp} (no : ∀ vs H Q E, ¬ sp vs H Q E) : FnOk P w K mg base (L2.CX P w) k f fd ps sp :=
  ⟨fun vs H Q E h => absurd h (no vs H Q E), fun A outer s H args us vs Q E _ _ _ _ h => absurd h (no vs H Q E)⟩
theorem fnok_bad : FnOk P w K mg base (L2.CX P w) k f fd ps (spF K mg n fun _ => .bad) := fnok_no fun vs H Q E ⟨_, _, _, _, _, h⟩ => h
theorem fnokM_bad {Fmf : List PyData → R PyData} : FnOk P w K mg base (L2.CX P w) k f fd ps (spM K (extF Fmf 0)) := fnok_no fun vs H Q E ⟨_, _, _, _, _, _, _, _, _, _, _, _, _, _, _, _, _, _, _, h⟩ => h
end
def notLst (ao : Addr × Obj) : Bool := match ao.2.cls with
  | .type t => !(t == "list")
  | _ => true
theorem script_rd {K : PySem.W.Frag} {H : Hp} {a : Addr} {xs : List V} (h : SqL K H a xs) (hk : K.all notLst = true) : Rd H a (.lst xs) := by
  rcases h with h | ⟨o, its, n, h1, h2, h3, h4, h5, h6⟩
  · exact h
  · exfalso
    have mem : ∀ (l : List (Addr × Obj)), l.lookup a = some o → (a, o) ∈ l := fun l => by
      induction l with
      | nil => intro e; cases e
      | cons p r ih =>
        obtain ⟨b, q⟩ := p
        intro e
        rw [List.lookup_cons] at e
        split at e
        · rename_i hb
          cases e
          have hb' : a = b := by simpa using hb
          subst hb'
          exact List.mem_cons_self
        · exact List.mem_cons_of_mem _ (ih e)
    have hm := List.all_eq_true.mp hk _ (mem K h1)
    unfold notLst at hm
    simp only [h2] at hm
    exact absurd hm (by decide)
theorem dq_ints {K : PySem.W.Frag} {H : Hp} : ∀ xs : List Int, DqAll K H (xs.map V.int) (xs.map PyData.int)
  | [] => .nil
  | x :: xs => .cons (.int x) (dq_ints xs)
def spL (K : PySem.W.Frag) (F : List PyData → R PyData) : Sp := fun vs H Q _ => vs.length = 1 ∧ ∃ ds H0 d, Same H0 H ∧ DqAll K H0 vs ds ∧ F ds = .ok d ∧ ∀ v H' H0', Grow H H0 H' H0' → Dq K H0' v d → Q v H'
theorem fnok_law {P : Program} {w : World} {K : PySem.W.Frag} {mg : Str → Option Value} {base : Heap} {f : Addr} {fd : FuncData} {ps : List Str} {k : Nat} {F : List PyData → R PyData} (G : FnOk P w K mg base (L2.CX P w) k f fd ps (spF K mg 1 F)) : FnOk P w K mg base (L2.CX P w) k f fd ps (spL K F) := by
  have c : ∀ {vs H Q E}, spL K F vs H Q E → spF K mg 1 F vs H Q E := fun {vs H Q E} h => by
    obtain ⟨h0, ds, H0, d, h1, h2, h3, h4⟩ := h
    refine ⟨h0, ds, H0, h1, h2, ?_⟩
    rw [h3]
    exact h4
  exact ⟨fun vs H Q E h => G.1 vs H Q E (c h), fun A outer s H args us vs Q E a b c' d h => G.2 A outer s H args us vs Q E a b c' d (c h)⟩
theorem law_in {K : PySem.W.Frag} {H : Hp} {a : Addr} {ns : List Int} {F : List PyData → R PyData} {E : XK} (hF : F [.list (ns.map .int)] = .ok (.bool true)) (h : Rd H a (.lst (ns.map V.int))) (hl : ns.length ≤ 63) :
    spL K F [.ref a] H (fun v _ => v = .bl true) E := by
  refine ⟨rfl, [.list (ns.map .int)], H, _, Same.refl _, .cons (.lst h (by rw [List.length_map]; unfold LIM; omega) (dq_ints ns)) .nil, hF, ?_⟩
  intro v H' H0' _ q
  cases q
  rfl
theorem law_out {P : Program} (w : World) (H : Hp) (s : Shared) (e : Value) (s' : Shared) (h : L2.CX P w [] H s (fun _ _ _ => False) e s') : False := by
  obtain ⟨_, _, _, _, _, _, _, _, _, _, _, _, h⟩ := h
  exact h
theorem walkP {l : PySem.W.OpenLaw} {k : Nat} {q : Program} {loose : List Str} {XP : (Str → Option Value) → Heap → Prop} {YP : World → Heap → Prop} {d : DefRec} {K : Params → PySem.W.Frag} {F : List PyData → R PyData}
    (hn : l.most = some 63) (hdf : d.params.defaults = []) (hr : Room k callerA) (hY : ∀ (w : World) (h : Heap), YP w h → (K w.params).In h)
    (hF : ∀ (w : World) (mg : Str → Option Value) (fa : Addr) (h : Heap), (K w.params).In h → h.Ns mainGlobals mg → mg d.name = some (.ref fa) →
      ∃ fd : FuncData, (∀ (s : Shared) (u : Value), BindsTo s fd ⟨[u], []⟩ [("script", u)]) ∧
        ∀ base : Heap, (K w.params).In base → base.Ns mainGlobals mg → FnOk l.prog w (K w.params) mg base (L2.CX l.prog w) k fa fd ["script"] (spL (K w.params) F))
    (hK : ∀ p : Params, (K p).all notLst = true) (hT : ∀ ns : List Int, ns.length ≤ 63 → (∀ z ∈ ns, Builtin.Int.intBits z ≤ 1048576) → F [.list (ns.map .int)] = .ok (.bool true)) :
    PySem.W.WalkO q loose XP YP l.row.toRowW d [] (fun f vs => PySem.call f vs) :=
  walk_ofB (K := K) (CX := fun w => L2.CX l.prog w) (sp := fun w => spL (K w.params) F) hn (by decide) hdf hr hY hF (fun w H a ns h1 h2 h3 h4 => law_in (hT ns h1 h2) (script_rd h4 (hK w.params)) h1) law_out
end CP
namespace CPX
open PySem PySem.Spec PyProof.Rows L2
abbrev SuiteT := Addr → Value → Option Addr → TS
def offE (D : Ends) (i : Nat) : Ends := ⟨fun t G => D.nx (t.set i none) G, D.rt, fun t G => D.bk (t.set i none) G, fun t G => D.ct (t.set i none) G⟩
def wishM (K : PySem.W.Frag) (i : Nat) (D : Ends) (W0 : WX) : List (Value × SuiteT) → WX
  | [] => W0
  | p :: r => fun k d t G => ∃ b, PySem.W.exmOne K k p.1 = some b ∧ (b = true → ∀ a, G a = none → p.2 a k d (offE D i) (t.set i (some (.ref a))) G) ∧ (b = false → wishM K i D W0 r k d t G)
inductive Clauses (X : Cx) (n : Str) : List ExceptHandler → List (Value × SuiteT) → Prop
  | nil : Clauses X n [] []
  | cons {y : Str} {c : Value} {T : SuiteT} {b0 : Stmt} {su : List Stmt} {np ps : Pos} {hs : List ExceptHandler} {l : List (Value × SuiteT)} : Names X y c →
      (∀ (a : Addr) (oe : Obj) (k : Value) (d : Option Addr) (pn : List (Addr × Obj)), Zc k d oe → (∃ vs, oe.data = .fields vs) → PSs (X.suite a ((a, oe) :: pn)) (b0 :: su) (T a k d)) → Clauses X n hs l →
      Clauses X n (.ExceptHandler (some (.Name y np)) (some n) (b0 :: su) ps :: hs) ((c, T) :: l)
section
variable {X : Cx} {n : Str} {i : Nat} {bd : List Stmt} {e0 : ExceptHandler} {er : List ExceptHandler} {l : List (Value × SuiteT)} {pos : Pos} {tb : WX → TS} {W0 : WX}
theorem ps_tryM (st : X.stack = X.env :: X.outer) (fr : X.env.frame = some X.env.locals) (nd : X.N.Nodup) (ni : X.N[i]? = some n) (ln : X.env.kindOf n = some .local) (tk : Takes X W0)
    (hb : ∀ (W : WX) (pn : List (Addr × Obj)) (xe : Value → Shared → Prop), Takes (X.tr pn xe) W → PassesOwn (model X.prog X.w) X.A X.env xe → PSs (X.tr pn xe) bd (tb W)) (cl : Clauses X n (e0 :: er) l) :
    PS X (.Try bd (e0 :: er) [] [] pos) (fun D t G => tb (wishM X.K i D W0 l) D t G) := ⟨fun pins s t G D I q => by
  have k := I.ok
  have frs' : X.A.frames = some (X.env :: X.outer) := k.frames.trans (congrArg some st)
  have lo : Loc X.env.scope n := Or.inl ln
  apply wpAny_Try_except
  have body := hb (wishM X.K i D W0 l) (X.pn ++ pins)
  specialize body (fun e s1 => wpAny (model X.prog X.w) X.A (noteFrame e X.env) (fun _ s2 => wpAny (model X.prog X.w) X.A (setFlight e none) (fun _ s3 => wpAny (model X.prog X.w) X.A (handleBy e X.env (e0 :: er)) (SP X pins D) X.xe s3) X.xe s2) X.xe s1)
  have ran := (body (fun u z xx => ?land) PassesOwn.looking).run [] s t G D (I.toTry _) q
  · refine wpAny_mono ran (fun f z o => ?_) fun _ _ y => y
    cases f with
    | next => obtain ⟨t1, G1, J, y⟩ := o; exact wpAny_execs_nil ⟨t1, G1, J.ofTry k, y⟩
    | brk => obtain ⟨t1, G1, J, y⟩ := o; exact ⟨t1, G1, J.ofTry k, y⟩
    | cont => obtain ⟨t1, G1, J, y⟩ := o; exact ⟨t1, G1, J.ofTry k, y⟩
    | ret u => obtain ⟨v1, t1, G1, J, y1, y2⟩ := o; exact ⟨v1, t1, G1, J.ofTry k, y1, y2⟩
  case land =>
    obtain ⟨a, Bh, sI, p1, t1, G1, kl, dd, rfl, J0, n1, u1, sk, na, o1, g1, wi⟩ := xx
    have J : Inv X pins t1 G1 sI := J0.ofTry k
    rw [st] at sk
    show wpAny (model X.prog X.w) X.A (noteFrame (.ref a) X.env) _ _ _
    refine Sky.land Zc.steady frs' fr sk fun h3 f3 u3 => ?_
    have J3 : Inv X pins t1 G1 { z with heap := h3 } := J.landed n1 f3.1 (u1.trans u3) o1 g1
    obtain ⟨o3, v3, a3, z3, d3⟩ := f3.there
    have off : a ∉ frs (X.env :: X.outer) := fun hm => by
      obtain ⟨_, o', e', no⟩ := f3.2.2.1.mem hm
      rw [a3] at e'
      cases e'
      exact no _ d3
    have offL : a ≠ X.env.locals := fun z => off (List.mem_filterMap.mpr ⟨X.env, by simp, by rw [fr, z]⟩)
    have offF : a ∉ X.fs := fun hm => by
      obtain ⟨e, he, qe⟩ := List.mem_filterMap.mp hm
      exact off (List.mem_filterMap.mpr ⟨e, List.mem_cons_of_mem _ he, qe⟩)
    have S3 := J3.suite a3 d3 na offL offF
    have each : ∀ {hs : List ExceptHandler} {r : List (Value × SuiteT)}, Clauses X n hs r → wishM X.K i D W0 r kl dd t1 G1 → wpAny (model X.prog X.w) X.A (handleBy (.ref a) X.env hs) (SP X pins D) X.xe { z with heap := h3 } := fun {hs r} c => by
      induction c with
      | nil =>
        intro wn
        refine wpAny_handleBy_nil ?_
        obtain ⟨_, _, _, ob, vs, Tb, oT, ts, b1, b2, b3, b4, b5⟩ := id f3
        unfold PySem.passOn
        refine wpAny_bind (wpAny_field b1 b3 b4 ?_)
        rw [if_neg (by simp : ¬ ((Value.ref Tb == Value.none) = true))]
        have last : wpAny (model X.prog X.w) X.A (setFlight (.ref a) X.env.frame) (fun _ y => wpAny (model X.prog X.w) X.A (throw (.ref a) : Sem Flow) (SP X pins D) X.xe y) X.xe { z with heap := h3 } := by
          rw [fr]
          exact HandSPX.setFlight_upZ f3 fun h4 hh u4 => wpAny_throw (tk _ _ ⟨a, Bh, sI, pins, t1, G1, kl, dd, rfl, J, n1, (u1.trans u3).trans u4, .inr (.inr (by rw [st]; exact hh)), na, o1, g1, wn⟩)
        first
          | exact wpAny_bind last
          | exact wpAny_bind (wpAny_pure (wpAny_bind last))
      | @cons y c T b0 su np ps hs l nm sui _ ih =>
        rintro ⟨b, m1, yes, no⟩
        refine wpAny_handleBy_cons (codeAny_handlers_test ?_) (fun z => by cases z)
        have look : PySem.W.Looks (model X.prog X.w) h3 (typeOf (.ref a)) kl := fun A Q E s kk y => wpAny_typeOf_ref (kk _ _ a3) (by rw [z3.1]; exact y)
        have hits := PySem.W.exm_one (M := model X.prog X.w) J3.kIn look m1
        have name : ∀ {Q : Value → Shared → Prop} {E : Value → Shared → Prop}, Q c { z with heap := h3 } → wpAny (model X.prog X.w) (X.A.mark (some (.ref a))) (eval (.Name y np) X.env) Q E { z with heap := h3 } := fun {Q E} yq => by
          obtain ⟨w1, w2, w3⟩ := nm
          rcases w3 with w3 | ⟨w3, w4, w5⟩
          · exact ld_glob (X := X.suite a ((a, o3) :: (X.pn ++ pins))) S3 w1 w3 yq w2
          · exact ld_blt (X := X.suite a ((a, o3) :: (X.pn ++ pins))) S3 w1 w3 w4 yq w5 w2
        apply name
        refine hits.here ?_
        cases b with
        | false => exact ih (no rfl)
        | true =>
          apply codeAny_handlers_suite_as
          refine HandSPX.lands_againZ f3 fun h4 f4 u4 => ?_
          have J4 : Inv X pins t1 G1 { z with heap := h4 } := J.landed n1 f4.1 ((u1.trans u3).trans u4) o1 g1
          obtain ⟨o4, v4, a4, z4, d4⟩ := f4.there
          refine store_ok (X := X.suite a ((a, o4) :: (X.pn ++ pins))) (v := .ref a) (J4.suite a4 d4 na offL offF) nd ni lo rfl (fun s5 S5 => ?_) (Or.inr ln)
          have su' := (sui a o4 kl dd (X.pn ++ pins) z4 ⟨_, d4⟩).run [] s5 _ G1 _ S5 (yes rfl a na)
          refine wpAny_mono su' (fun f s6 oo => ?_) fun _ _ zz => zz.elim
          have gone : ∀ {t6 : L2.St} {G6 : Hp} {Q : Shared → Prop}, Inv (X.suite a ((a, o4) :: (X.pn ++ pins))) [] t6 G6 s6 → (∀ s7, Inv X pins (t6.set i none) G6 s7 → Q s7) → wpAny (model X.prog X.w) X.A (do bindName X.env n .none; unbindBehindTheSuite X.env n ps) (fun _ y => Q y) X.xe s6 :=
            fun {t6 G6 Q} S6 yy => gone_ok (S6.unsuite k) nd ni ln yy
          cases f with
          | next => obtain ⟨t6, G6, S6, y6⟩ := oo; exact gone S6 fun s7 J7 => ⟨_, _, J7, y6⟩
          | brk => obtain ⟨t6, G6, S6, y6⟩ := oo; exact gone S6 fun s7 J7 => ⟨_, _, J7, y6⟩
          | cont => obtain ⟨t6, G6, S6, y6⟩ := oo; exact gone S6 fun s7 J7 => ⟨_, _, J7, y6⟩
          | ret u => obtain ⟨v6, t6, G6, S6, x6, y6⟩ := oo; exact gone S6 fun s7 J7 => ⟨_, _, _, J7, x6, y6⟩
    exact each cl wi⟩
end
end CPX
namespace CP
open PySem L2
def isub (x y : Str) : Bool := x == y || (y == "StoryError" || y == "ValueError")
structure Xc (K : PySem.W.Frag) (mg : Str → Option Value) (x : Str) : Prop where
  ex : ∃ C, mg x = some (.ref C) ∧ PySem.W.excIn K C [.type "ValueError", .type "Exception", .type "BaseException", .type "object"] "ValueError.__new__" = true ∧ PySem.W.keepIn K (.ref C) = true ∧ PySem.W.subIn K (.ref C) (.type "BaseException") = some true ∧ PySem.W.typeIn K (.ref C) = some (.type "type")
def YRow (K : PySem.W.Frag) (mg : Str → Option Value) (ns : List Str) (y : Str) : Prop := ∃ (u : Value) (v : V), RelV v u ∧ (∀ u', RelV v u' → u' = u) ∧ (mg y = some u ∨ (mg y = none ∧ bootBuiltins y = some u ∧ y ≠ "__name__" ∧ ∃ T, u = .type T ∧ v = .ty T)) ∧
  ∀ x ∈ ns, ∃ D, mg x = some (.ref D) ∧ ExcC K D ∧ PySem.W.kitOne K (.ref D) u = some (isub x y) ∧ PySem.W.exmOne K (.ref D) u = some (isub x y)
def sRaise (x : Str) : FS := fun ρ => .exc ⟨x, none⟩ ρ
section
variable {X : Cx} {B : Bs} {W : WX} {s sa sb : Bool} {pos : Pos}
theorem s_raise {x m : Str} {j : Nat} {p p2 pos2 : Pos} (hc : X.calm = true) (R : Xc X.K X.mg x) (tk : Takes X W) (hg : Gl X x := by rfl) (hdb : (x == ("__debug__" : Str)) = false := by decide) :
    PS X (.Raise (some (.Call (.Name x p) [.Constant (.str m) j p2] [] pos)) none pos2) (sF (cx X B) W (sRaise x)) := by
  obtain ⟨C, r1, r2, r3, r4, r5⟩ := R.ex
  exact (ps_raise hc tk (pmk_own PySem.F.excBase_ValueError r2 r1 r3 (raises_own r4 r5) hg hdb)).weak fun D σ H ⟨ρ, H0, rp, h⟩ => h (.ref C) none σ H H0 (Same.refl _) rp ⟨r1, rfl⟩
end
def isX : Option SV → Bool
  | some (.x _) => true
  | _ => false
def noX (ρ : EV) : Bool := ρ.all fun o => !isX o
def tryGo (i : Nat) (c : Ex) (ρ : EV) : List (Str × FS) → Out
  | [] => .exc c ρ
  | p :: r => if isub c.name p.1 then (match p.2 (ρ.set i (some (.x c))) with
      | .next ρ2 => if noX (ρ2.set i none) then .next (ρ2.set i none) else .bad
      | .ret d => .ret d
      | _ => .bad) else tryGo i c ρ r
def sTry (ns : List Str) (i : Nat) (b : FS) (hs : List (Str × FS)) : FS := fun ρ => match b ρ with
  | .exc c ρ' => if c.name ∈ ns ∧ c.arg.isNone = true ∧ noX ρ' = true ∧ i < ρ'.length then tryGo i c ρ' hs else .bad
  | o => o
abbrev inS (B : Bs) (a : Addr) (c : Ex) : Bs := ⟨B.h, B.z, a, some c, B.s⟩
section
variable {K : PySem.W.Frag} {mg : Str → Option Value} {B : Bs} {σ : St} {H H0 : Hp} {ρ : EV}
theorem noX_at {ρ : EV} (h : noX ρ = true) {j : Nat} {c : Ex} : ρ[j]? ≠ some (some (.x c)) := fun e => by
  have := List.all_eq_true.mp h _ (List.mem_of_getElem? e)
  simp [isX] at this
theorem SVRep.other {B B' : Bs} (hh : B.h = B'.h) (hss : B.s = B'.s) {v : V} {sv : SV} (hx : ∀ c, sv ≠ .x c) (h : SVRep ⟨K, mg, B⟩ H H0 v sv) : SVRep ⟨K, mg, B'⟩ H H0 v sv := by
  cases sv with
  | d x => exact h
  | v ss k => obtain ⟨p, c, dx, fs, q, xs, h1, h2, h3, h4, h5, h6, h7, h8, h9⟩ := h; exact ⟨p, c, dx, fs, q, xs, h1, by show B'.h p = _; rw [← hh]; exact h2, h3, h4, h5, h6, by show B'.h q = _; rw [← hh]; exact h7, h8, h9⟩
  | l ds => obtain ⟨p, xs, e1, e2, e3, e4, e5, e6⟩ := h; exact ⟨p, xs, e1, e2, e3, by show B'.h p = none; rw [← hh]; exact e4, e5, e6⟩
  | m kvs => obtain ⟨p, xs, e1, e2, e3, e4, e5⟩ := h; exact ⟨p, xs, e1, e2, e3, by show B'.h p = none; rw [← hh]; exact e4, e5⟩
  | x c => exact absurd rfl (hx c)
  | r ss k => obtain ⟨p, c, dx, fs, q, xs, e1, e2, em, ez, f1, f2, f3, eq, e3, e3q, e4, e4q, e5, e6⟩ := h; exact ⟨p, c, dx, fs, q, xs, e1, e2, em, (fun a z => ez a (by show B.s = some a; rw [hss]; exact z)), f1, f2, f3, eq, e3, e3q, by show B'.h p = none; rw [← hh]; exact e4, by show B'.h q = none; rw [← hh]; exact e4q, e5, e6⟩
theorem Rep.inS (r : Rep ⟨K, mg, B⟩ σ H H0 ρ) (hx : noX ρ = true) {i : Nat} (hi : i < ρ.length) (a : Addr) (c : Ex) : Rep ⟨K, mg, inS B a c⟩ (σ.set i (some (.ref a))) H H0 (ρ.set i (some (.x c))) := by
  have len := r.len
  have at' : ∀ (j : Nat) sj, (ρ.set i (some (.x c)))[j]? = some (some sj) → (j = i ∧ sj = .x c) ∨ (i ≠ j ∧ ρ[j]? = some (some sj)) := fun j sj e => by
    by_cases hj : i = j
    · subst hj
      rw [List.getElem?_set_self hi] at e
      cases e
      exact .inl ⟨rfl, rfl⟩
    · rw [List.getElem?_set_ne hj] at e
      exact .inr ⟨hj, e⟩
  refine ⟨r.bas, by simp [len], fun j sj e => ?_, fun j k sj sk v w a e1 e2 e3 e4 o1 o2 => ?_⟩
  · rcases at' j sj e with ⟨rfl, rfl⟩ | ⟨hj, e⟩
    · exact ⟨.ref a, by rw [List.getElem?_set_self (by omega)], rfl, rfl⟩
    · obtain ⟨v, h1, h2⟩ := r.at_ j sj e
      exact ⟨v, by rw [List.getElem?_set_ne hj]; exact h1, SVRep.other (B := B) (B' := CP.inS B a c) rfl rfl (fun c' z => noX_at hx (by rw [e, z])) h2⟩
  · rcases at' j sj e1 with ⟨_, rfl⟩ | ⟨hj, e1⟩
    · exact o1.elim
    · rcases at' k sk e2 with ⟨_, rfl⟩ | ⟨hk, e2⟩
      · exact o2.elim
      · rw [List.getElem?_set_ne hj] at e3
        rw [List.getElem?_set_ne hk] at e4
        exact r.sep j k sj sk v w a e1 e2 e3 e4 o1 o2
theorem Rep.offS {B' : Bs} (hh : B'.h = B.h) (hz : B'.z = B.z) (hss : B'.s = B.s) (r : Rep ⟨K, mg, B'⟩ σ H H0 ρ) {i : Nat} (hx : noX (ρ.set i none) = true) : Rep ⟨K, mg, B⟩ (σ.set i none) H H0 (ρ.set i none) := by
  have at' : ∀ (j : Nat) sj, (ρ.set i none)[j]? = some (some sj) → i ≠ j ∧ ρ[j]? = some (some sj) := fun j sj e => by
    by_cases hj : i = j
    · subst hj
      by_cases hl : i < ρ.length
      · rw [List.getElem?_set_self hl] at e; cases e
      · rw [List.getElem?_eq_none (by simpa using hl)] at e; cases e
    · rw [List.getElem?_set_ne hj] at e
      exact ⟨hj, e⟩
  have bas := r.bas
  refine ⟨by show Grow B.h B.z H H0; rw [← hh, ← hz]; exact bas, by simp [r.len], fun j sj e => ?_, fun j k sj sk v w a e1 e2 e3 e4 o1 o2 => ?_⟩
  · obtain ⟨hj, e'⟩ := at' j sj e
    obtain ⟨v, h1, h2⟩ := r.at_ j sj e'
    exact ⟨v, by rw [List.getElem?_set_ne hj]; exact h1, h2.other hh hss fun c' z => noX_at hx (by rw [e, z])⟩
  · obtain ⟨hj, e1'⟩ := at' j sj e1
    obtain ⟨hk, e2'⟩ := at' k sk e2
    rw [List.getElem?_set_ne hj] at e3
    rw [List.getElem?_set_ne hk] at e4
    exact r.sep j k sj sk v w a e1' e2' e3 e4 o1 o2
end
def sX (C : PX) (ns : List Str) (g : FS) : CPX.SuiteT := fun a k d D σ H => ∃ c : Ex, (c.name ∈ ns ∧ c.arg = none ∧ C.mg c.name = some k ∧ d = none) ∧ sF ⟨C.K, C.mg, inS C.B a c⟩ WN g D σ H
inductive ClausesF (X : Cx) (B : Bs) (ns : List Str) (n : Str) : List ExceptHandler → List (Str × FS) → Prop
  | nil : ClausesF X B ns n [] []
  | cons {y : Str} {g : FS} {b0 : Stmt} {su : List Stmt} {np ps : Pos} {hs : List ExceptHandler} {l : List (Str × FS)} : YRow X.K X.mg ns y → Gl X y → (y == ("__debug__" : Str)) = false →
      (∀ (a : Addr) (oe : Obj) (k : Value) (pn : List (Addr × Obj)) (c : Ex), c.name ∈ ns → X.mg c.name = some k → Zc k none oe → (∃ vs, oe.data = .fields vs) → PSs (X.suite a ((a, oe) :: pn)) (b0 :: su) (sF ⟨X.K, X.mg, inS B a c⟩ WN g)) → ClausesF X B ns n hs l →
      ClausesF X B ns n (.ExceptHandler (some (.Name y np)) (some n) (b0 :: su) ps :: hs) ((y, g) :: l)
section
variable {X : Cx} {B : Bs} {W : WX} {s sa sb : Bool} {pos : Pos}
theorem wish_of {ns : List Str} {n : Str} {i : Nat} {D : Ends} {hs : List ExceptHandler} {l : List (Str × FS)} (h : ClausesF X B ns n hs l) : ∃ r, CPX.Clauses X n hs r ∧ ∀ (c : Ex) (ρ : EV) (k : Value) (σ : St) (H H0 : Hp), c.name ∈ ns → c.arg = none → noX ρ = true → i < ρ.length → X.mg c.name = some k →
    Rep (cx X B) σ H H0 ρ → sO (cx X B) W H0 D (tryGo i c ρ l) → CPX.wishM X.K i D W r k none σ H := by
  induction h with
  | nil =>
    refine ⟨[], .nil, fun c ρ k σ H H0 h1 h2 h3 h4 h5 rp o => ?_⟩
    exact o k none σ H H0 (Same.refl _) rp ⟨h5, by rw [h2]⟩
  | @cons y g b0 su np ps hs l hy hg hd sui _ ih =>
    obtain ⟨u, v, y1, y2, y3, y4⟩ := hy
    obtain ⟨r, c1, c2⟩ := ih
    refine ⟨(u, sX (cx X B) ns g) :: r, .cons ⟨hg, hd, ?_⟩ (fun a oe k d pn z f => ?_) c1, fun c ρ k σ H H0 h1 h2 h3 h4 h5 rp o => ?_⟩
    · rcases y3 with y3 | ⟨y3, y5, y6, _⟩
      · exact .inl y3
      · exact .inr ⟨y3, y5, y6⟩
    · refine ⟨fun pins s σ H D I q => ?_⟩
      obtain ⟨c, ⟨q1, q2, q3, q4⟩, q5⟩ := q
      subst q4
      exact (sui a oe k pn c q1 q3 z f).run pins s σ H D I q5
    · obtain ⟨Dc, z1, z2, z3, z4⟩ := y4 c.name h1
      have ek : k = .ref Dc := Option.some.inj (h5.symm.trans z1)
      subst ek
      refine ⟨isub c.name y, z4, fun e a ha => ?_, fun e => ?_⟩
      · unfold tryGo at o
        rw [if_pos (by simpa using e)] at o
        refine ⟨c, ⟨h1, h2, h5, rfl⟩, ρ.set i (some (.x c)), H0, rp.inS h3 h4 a c, ?_⟩
        simp only at o
        cases q : g (ρ.set i (some (.x c))) with
        | next ρ2 =>
          rw [q] at o
          simp only at o
          by_cases hn : noX (ρ2.set i none) = true
          · rw [if_pos hn] at o
            exact fun σ' H' H0' e' r' => o _ H' H0' e' (Rep.offS (B := B) (B' := CP.inS B a c) rfl rfl rfl r' hn)
          · rw [if_neg hn] at o
            exact o.elim
        | ret d => rw [q] at o; exact o
        | brk _ => rw [q] at o; exact o.elim
        | cont _ => rw [q] at o; exact o.elim
        | exc _ _ => rw [q] at o; exact o.elim
        | bad => rw [q] at o; exact o.elim
      · unfold tryGo at o
        rw [if_neg (by simp [e])] at o
        exact c2 c ρ (.ref Dc) σ H H0 h1 h2 h3 h4 h5 rp o
theorem s_try {ns : List Str} {n : Str} (i : Nat) {bd : List Stmt} {e0 : ExceptHandler} {er : List ExceptHandler} {g : FS} {l : List (Str × FS)} (hN : X.N.Nodup) (tk : Takes X W)
    (hb : ∀ (W' : WX) (pn : List (Addr × Obj)) (xe : Value → Shared → Prop), Takes (X.tr pn xe) W' → PassesOwn (model X.prog X.w) X.A X.env xe → PSs (X.tr pn xe) bd (sF (cx X B) W' g)) (cl : ClausesF X B ns n (e0 :: er) l)
    (st : X.stack = X.env :: X.outer := by rfl) (fr : X.env.frame = some X.env.locals := by rfl) (ni : X.N[i]? = some n := by rfl) (ln : X.env.kindOf n = some .local := by rfl) :
    PS X (.Try bd (e0 :: er) [] [] pos) (sF (cx X B) W (sTry ns i g l)) := by
  refine ⟨fun pins s σ H D I q => ?_⟩
  obtain ⟨r, c1, c2⟩ := wish_of (W := W) (i := i) (D := D) cl
  refine (CPX.ps_tryM (i := i) st fr hN ni ln tk (tb := fun W' => sF (cx X B) W' g) hb c1).run pins s σ H D I ?_
  obtain ⟨ρ, H0, rp, h⟩ := q
  refine ⟨ρ, H0, rp, ?_⟩
  unfold sTry at h
  cases c : g ρ with
  | exc e ρ' =>
    rw [c] at h
    simp only at h
    by_cases hc : e.name ∈ ns ∧ e.arg.isNone = true ∧ noX ρ' = true ∧ i < ρ'.length
    · rw [if_pos hc] at h
      intro cls dd σ' H' H0' e' r' x
      obtain ⟨x1, x2⟩ := x
      have an : e.arg = none := by simpa using hc.2.1
      rw [an] at x2
      subst x2
      exact c2 e ρ' cls σ' H' H0' hc.1 an hc.2.2.1 hc.2.2.2 x1 r' (h.grow e')
    · rw [if_neg hc] at h
      exact h.elim
  | next _ => rw [c] at h; exact h
  | ret _ => rw [c] at h; exact h
  | brk _ => rw [c] at h; exact h
  | cont _ => rw [c] at h; exact h
  | bad => rw [c] at h; exact h
def eIsx (i : Nat) (y : Str) : FE := fun ρ => match ρ[i]? with
  | some (some (.x c)) => .ok (.bool (isub c.name y))
  | _ => .bad
theorem d_isx (i : Nat) {ns : List Str} {a : Addr} {oe : Obj} {k : Value} {pn : List (Addr × Obj)} {c : Ex} {x y : Str} {p1 p2 p3 : Pos} (hm : X.mg "isinstance" = none) (Y : YRow X.K X.mg ns y) (h1 : c.name ∈ ns) (h2 : X.mg c.name = some k) (hz : Zc k none oe) (hf : ∃ vs, oe.data = .fields vs)
    (hN : X.N[i]? = some x := by rfl) (hv : Vis X.env.scope x := by first | exact Or.inl rfl | exact Or.inr (Or.inl rfl) | exact Or.inr (Or.inr rfl)) (hd : (x == ("__debug__" : Str)) = false := by decide) (hcd : (x == ("__classdict__" : Str)) = false := by decide)
    (hg : Gl X "isinstance" := by rfl) (hgy : Gl X y := by rfl) (hdy : (y == ("__debug__" : Str)) = false := by decide)
    (he : starEach [.Name x p2, .Name y p3] X.env = (false, eval (.Name x p2) X.env) :: starEach [.Name y p3] X.env := by rfl) (hpl : (backTo pos (starEach [.Name y p3] X.env)).any (·.1) = false := by rfl) :
    PE (X.suite a ((a, oe) :: pn)) (.Call (.Name "isinstance" p1) [.Name x p2, .Name y p3] [] pos) (eF ⟨X.K, X.mg, inS B a c⟩ W s (eIsx i y)) := by
  obtain ⟨u, v, y1, y2, y3, y4⟩ := Y
  obtain ⟨Dc, z1, z2, z3, z4⟩ := y4 c.name h1
  have ek : k = .ref Dc := Option.some.inj (h2.symm.trans z1)
  subst ek
  have hy : PE (X.suite a ((a, oe) :: pn)) (.Name y p3) (tC v) := by
    rcases y3 with y3 | ⟨y3, y5, y6, T, rfl, rfl⟩
    · exact pe_glob hgy y3 y1 hdy
    · exact pe_bltn (v := .ty T) hgy y3 y5 rfl y6 hdy
  refine (pe_callB (call_isE z2 hz hf) hg hm PyProof.Rows.boot_isinstance (pa_cons (pe_var hN hv hd hcd) (pa_cons hy pa_nil) he) (by decide) (by decide) he hpl).weak fun σ H Q ⟨ρ, H0, rp, h⟩ => ?_
  unfold eIsx at h
  cases q : ρ[i]? with
  | none => rw [q] at h; exact h.elim
  | some o =>
    cases o with
    | none => rw [q] at h; exact h.elim
    | some sv =>
      cases sv with
      | d _ => rw [q] at h; exact h.elim
      | l _ => rw [q] at h; exact h.elim
      | m _ => rw [q] at h; exact h.elim
      | r _ _ => rw [q] at h; exact h.elim
      | v _ _ => rw [q] at h; exact h.elim
      | x c' =>
        rw [q] at h
        obtain ⟨w, hs, e1, e2⟩ := rp.at_ i _ q
        have e2' : c' = c := (Option.some.inj e2).symm
        subst e2'
        subst e1
        exact ⟨_, hs, v, u, isub c'.name y, rfl, y2, z3, eO.val h rp.st (.bl _)⟩
end
end CP
namespace CP
open PySem L2
def strHead : List PyData → Bool
  | .str _ :: _ => true
  | _ => false
def idxD (d e : PyData) : R PyData := match d with
  | .tuple ds => if TZ = true ∧ strHead ds = false ∧ inOk ds e = true then (match ds.findIdx? (fun z => PyData.eqv z e) with
    | some j => .ok (.int (j : Nat))
    | none => .bad) else .bad
  | _ => .bad
def eIdx (a b : FE) : FE := fun ρ => (a ρ).bind fun x => match b ρ with
  | .ok y => idxD x y
  | _ => .bad
section
variable {X : Cx} {B : Bs} {W : WX} {s sa sb : Bool} {a b e : Expr} {fa fb f : FE} {pos : Pos}
theorem d_idx {k : Nat} {x : Str} {p apos cpos : Pos} (hr : Room k X.A) (ha : PE X (.Name x p) (eF (cx X B) W true fa)) (hb : PE X b (eF (cx X B) W true fb))
    (hbase : attributeBase (.Name x p) "index" X.env (eval (.Name x p) X.env) = eval (.Name x p) X.env := by rfl)
    (hfew : ((backTo cpos (starEach [b] X.env)).all (fun x => !x.1) && (backToKw cpos (keywordEach [] X.env)).all (fun x => x.1.isSome) && decide ([b].length + ([] : List Keyword).length + (if ([] : List Keyword).isEmpty then 0 else 1) < 30)) = true := by rfl)
    (hline : (apos.endLine == cpos.line) = true := by rfl) (hs : starEach [b] X.env = (false, eval b X.env) :: starEach [] X.env := by rfl) :
    PE X (.Call (.Attribute (.Name x p) "index" apos) [b] [] cpos) (eF (cx X B) W s (eIdx fa fb)) := by
  have hu := hu_of hr
  refine (pe_bmZ PySem.F.slot_tuple_index PySem.F.type_tuple_index (mt_indexZ (by have := hr.un; omega)) ha (pa_cons hb pa_nil hs) hbase hfew hline hs rfl).weak fun σ H Q ⟨ρ, H0, rp, h⟩ => ⟨ρ, H0, rp, ?_⟩
  unfold eIdx at h
  cases c : fa ρ with
  | bad => rw [c] at h; exact h
  | exc c' => rw [c] at h; exact h
  | ok d =>
    rw [c] at h
    intro v H1 H01 g1 w1
    simp only [R.bind_ok] at h
    replace w1 := w1.strong
    cases c2 : fb ρ with
    | bad => rw [c2] at h; exact h.elim
    | exc c' => rw [c2] at h; exact h.elim
    | ok ed =>
      rw [c2] at h
      simp only at h
      unfold idxD at h
      cases d with
      | none => exact False.elim h
      | bool _ => exact False.elim h
      | int _ => exact False.elim h
      | str _ => exact False.elim h
      | list _ => exact False.elim h
      | dict _ => exact False.elim h
      | tuple ds =>
        simp only at h
        by_cases hc : TZ = true ∧ strHead ds = false ∧ inOk ds ed = true
        · rw [if_pos hc] at h
          have hin := hc.2.2
          unfold inOk at hin
          rw [Bool.and_eq_true] at hin
          cases w1 with
          | tupK a1 b1 c1 => exact absurd hc.2.1 (by simp [strHead])
          | @tup p xs _ a1 b1 c1 =>
            unfold TupAt at a1
            rw [if_pos hc.1] at a1
            obtain ⟨o, e1, e2⟩ := a1
            refine ⟨⟨p, o, xs, rfl, g1.i _ _ e1, e2⟩, ρ, H01, rp.grow g1, ?_⟩
            rw [c2]
            intro u H2 H02 g2 w2
            cases q : ds.findIdx? (fun z => PyData.eqv z ed) with
            | none => rw [q] at h; exact h.elim
            | some j =>
              rw [q] at h
              obtain ⟨hj, hjt, hjn⟩ := List.findIdx?_eq_some_iff_getElem.mp q
              refine ⟨p, u, ed, ds, xs, j, ds[j], rfl, rfl, .inl (.inr ⟨o, g2.a _ _ (g1.i _ _ e1)⟩), ((c1.same g2.z).same g2.i).dp, (w2.strong.same g2.i).dp, hin.2, hin.1, List.getElem?_eq_getElem hj, hjt, fun m z' hm hz => ?_, eO.val (eO.grow (eO.grow h g1) g2) g2.i (.int _)⟩
              obtain ⟨hm', e'⟩ := List.getElem?_eq_some_iff.mp hz
              subst e'
              simpa using hjn m hm
        · rw [if_neg hc] at h; exact h.elim
end
def RowsOk (K : PySem.W.Frag) (mg : Str → Option Value) (u : Value) (y : Str) : List Str → Prop
  | [] => True
  | x :: r => (∃ D, mg x = some (.ref D) ∧ ExcC K D ∧ PySem.W.kitOne K (.ref D) u = some (isub x y) ∧ PySem.W.exmOne K (.ref D) u = some (isub x y)) ∧ RowsOk K mg u y r
theorem RowsOk.at_ {K : PySem.W.Frag} {mg : Str → Option Value} {u : Value} {y : Str} : ∀ {ns : List Str}, RowsOk K mg u y ns → ∀ x ∈ ns, ∃ D, mg x = some (.ref D) ∧ ExcC K D ∧ PySem.W.kitOne K (.ref D) u = some (isub x y) ∧ PySem.W.exmOne K (.ref D) u = some (isub x y)
  | x :: r, h, z, hz => by
    rcases List.mem_cons.mp hz with rfl | hz
    · exact h.1
    · exact RowsOk.at_ h.2 z hz
theorem yrow_own {K : PySem.W.Frag} {mg : Str → Option Value} {y : Str} {C : Addr} {ns : List Str} (h : mg y = some (.ref C)) (r : RowsOk K mg (.ref C) y ns) : YRow K mg ns y :=
  ⟨.ref C, .ref C, rfl, fun u' h' => h', .inl h, r.at_⟩
theorem yrow_ty {K : PySem.W.Frag} {mg : Str → Option Value} {y : Str} {T : String} {ns : List Str} (h : mg y = none) (hb : bootBuiltins y = some (.type T)) (hn : y ≠ "__name__") (r : RowsOk K mg (.type T) y ns) : YRow K mg ns y :=
  ⟨.type T, .ty T, rfl, fun u' h' => h', .inr ⟨h, hb, hn, T, rfl, rfl⟩, r.at_⟩
end CP
namespace CPI
open PySem PySem.Spec PyProof.Rows L2
section
variable {P : Program} {w : World} {A : Around} {E : Value → Shared → Prop} {s : Shared}
abbrev gotS (ns : List Int) (i : Nat) : Int → Bool := fun j => decide (j ∈ ns.take i)
theorem ints_at : ∀ {us : List Value} {ns : List Int} {i : Nat} {v : Value}, IntsAre us ns → us[i]? = some v → ∃ x t, ns[i]? = some x ∧ v = .int x t
  | _, _, i, _, .nil, h => by cases i <;> cases h
  | _, _, 0, _, .cons x t _, h => ⟨x, t, rfl, (Option.some.inj h).symm⟩
  | _, _, i + 1, _, .cons x t r, h => ints_at (i := i) r h
abbrev freshS (w : World) : Obj := { cls := .type "set", dict := none, data := .set #[] 0 (.fresh 0 0 (!w.params.followText "set-order")) }
set_option maxRecDepth 100000 in
set_option maxHeartbeats 3200000 in
theorem set_ints {l : Addr} {its : Array Value} {ns : List Int} {Q : Value → Shared → Prop} (calm : A.handled = none) (ls : s.heap.IsList l its) (hin : IntsAre its.toList ns) (few : ns.length < 1000)
    (k : ∀ (h1 : Heap) (tk c : Nat), c ≤ ns.length → SetR w h1 s.heap.objs.size (fun j => decide (j ∈ ns)) c → (∀ b o, s.heap.get? b = some o → h1.get? b = some o) → Q (.ref s.heap.objs.size) { s with heap := h1, toks := tk }) :
    wpAny (model P w) A (call (.type "set") [.ref l]) Q E s := by
  have len : its.size = ns.length := by
    have := hin.length
    rw [Array.length_toList] at this
    exact this
  obtain ⟨_, _, y1⟩ := F.called_set.mro
  have y2 := F.called_set.made
  have y3 := F.called_set.sub
  apply wpAny_call
  apply codeAny_of_tree
  show wpAny _ _ (callAny (.type "set") _) _ _ _
  refine wpAny_pure ⟨Code.quiet_builtin _ (by decide +kernel), ?_⟩
  apply codeAny_builtin F.entry_type_call
  rw [Around.under_plain (weight_type_call_type "set" [.ref l] []) rfl]
  have y4 := F.called_set.notType
  have y5 := F.called_set.canCreate
  have y6 := F.typeCall_set_1 (.ref l)
  repeat (any_goals (first | assumption | wp_step))
  refine codeAny_mono (code_set_led1 (.ref l) (E := E) (Q₁ := fun v z => v = .ref s.heap.objs.size ∧ z = { s with heap := s.heap.push (freshS w) }) ⟨rfl, rfl⟩) fun res z hr => ?_
  cases res with
  | error e => exact hr
  | ok fl =>
    cases fl with
    | next => exact hr.elim
    | brk => exact hr.elim
    | cont => exact hr.elim
    | ret v =>
      obtain ⟨rfl, rfl⟩ := hr
      have g0 : (s.heap.push (freshS w)).get? s.heap.objs.size = some (freshS w) := Heap.get?_push_size _ rfl
      have ty : Shared.TypeIs { s with heap := s.heap.push (freshS w) } (.ref s.heap.objs.size) "set" := ⟨_, g0, rfl⟩
      have y7 := F.called_set.init.lookup
      have y8 := F.called_set.init.bind (.ref s.heap.objs.size)
      repeat (any_goals (first | assumption | wp_step))
      refine codeAny_mono (codeAny_call_builtin (R := wants (fun v z => v = .none ∧ ∃ h1 tk c, z = { s with heap := h1, toks := tk } ∧ c ≤ ns.length ∧ SetR w h1 s.heap.objs.size (fun j => decide (j ∈ ns)) c ∧ (∀ b o, s.heap.get? b = some o → h1.get? b = some o)) E) F.called_set.init.plain F.entry_set_init (check_set_init_1 ty ?_)) fun res2 z2 hr2 => ?_
      · obtain ⟨o, ho, oc, cap, od⟩ := ls
        obtain ⟨x1, x2, x3, x4⟩ := o
        simp only at oc od
        subst oc
        subst od
        have ho1 : (s.heap.push (freshS w)).get? l = some { cls := .type "list", dict := x2, data := .seq its cap, slots := x4 } := Heap.get?_push_of_some _ ho
        have y9 := F.sub_list_set
        have y10 := F.sub_list_frozenset
        have y11 : (Value.type "list" == Value.type "dict") = false := by decide
        have ls1 : (s.heap.push (freshS w)).IsList l its := ⟨_, ho1, rfl, cap, rfl⟩
        unfold Builtin.«set.__init__» noKeywords Builtin.Frozenset.updateFrom
        generalize ePI : pyIter = PI
        wp_walk
        subst ePI
        apply wpAny_pyIter_list ls1
        apply wpAny_bind
        apply wpAny_runValue
        have below : l < s.heap.objs.size := Heap.lt_size ho
        have calm3 : A.in1.in1.in1.handled = none := by simp [calm]
        have ne1 : l ≠ (s.heap.push (freshS w)).objs.size := by rw [Heap.size_push]; exact Nat.ne_of_lt (Nat.lt_succ_of_lt below)
        have ne2 : s.heap.objs.size ∉ [(s.heap.push (freshS w)).objs.size, l] := by
          rw [Heap.size_push]
          intro q
          rcases List.mem_cons.mp q with q | q
          · exact Nat.ne_of_lt (Nat.lt_succ_self _) q
          · exact Nat.ne_of_gt below (List.mem_singleton.mp q)
        have at_ : ∀ (i : Nat) (v : Value), its[i]? = some v → ∃ x t, ns[i]? = some x ∧ v = .int x t := fun i v hv => by
          have q : its.toList[i]? = some v := by rw [Array.getElem?_toList]; exact hv
          exact ints_at hin q
        refine set_update_ints ((Walks.list calm3 _ l ne1 its).toS) s.heap.objs.size ne2 ns len (by unfold scanBound; omega) at_ (its.size - 0) 0 _ (by omega) (Nat.zero_le _) ⟨⟨_, Heap.get?_push_size _ rfl, rfl, rfl⟩, (ls1.push _)⟩ ⟨0, Nat.le_refl _, ?_⟩ fun z' c mv c1 c2 => ?_
        · have r0 : SetR w (s.heap.push (freshS w)) s.heap.objs.size (fun _ => false) 0 := setR_fresh w
          have r1 := r0.congr (S' := gotS ns 0) fun j => by simp [gotS]
          exact r1.at fun o q => Heap.get?_push_of_some _ q
        · obtain ⟨h1, g1, d1, t1, o1⟩ := z'
          have b1 : g1 = s.gens := mv.gens
          have b2 : d1 = s.drawn := mv.drawn
          have b3 : o1 = s.os := mv.os
          subst b1 b2 b3
          show wpAny _ _ _ _ _ _
          refine wpAny_pure ?_
          show wpAny _ _ (ret Value.none) _ _ _
          rw [len] at c1
          refine wpAny_pure ⟨rfl, h1, t1, c, rfl, c1, c2, fun b o q => ?_⟩
          refine mv.heap b o (fun hb => ?_) (Heap.get?_push_of_some _ (Heap.get?_push_of_some _ q))
          have lt := Heap.lt_size q
          rcases List.mem_cons.mp hb with hb | hb
          · exact Nat.ne_of_lt lt hb
          · have := List.mem_singleton.mp hb
            rw [Heap.size_push] at this
            exact Nat.ne_of_lt (Nat.lt_succ_of_lt lt) this
      · cases res2 with
        | error e => exact hr2
        | ok fl2 =>
          cases fl2 with
          | next => exact hr2.elim
          | brk => exact hr2.elim
          | cont => exact hr2.elim
          | ret v2 =>
            obtain ⟨rfl, h1, tk, c, rfl, c1, c2, kp⟩ := hr2
            repeat (any_goals (first | assumption | wp_step))
            exact k _ _ _ c1 c2 kp
end
end CPI
namespace CP
open PySem L2
def setI (ns : List Int) : List Int := (dedupI ns).mergeSort fun a b => decide (a ≤ b)
def sortSetD : PyData → R PyData
  | .list ds => match intsOf ds with
    | some ns => if ns.length < 64 then .ok (.list ((setI ns).map .int)) else .bad
    | none => .bad
  | _ => .bad
theorem dedup_fold (ns : List Int) : ∀ acc : List Int, acc.Nodup → (ns.foldl PyProof.Rows.step_dedup acc).Nodup ∧ ∀ x, x ∈ ns.foldl PyProof.Rows.step_dedup acc ↔ x ∈ acc ∨ x ∈ ns := by
  induction ns with
  | nil => intro acc h; exact ⟨h, fun x => by simp⟩
  | cons a ns ih =>
    intro acc h
    rw [List.foldl_cons]
    by_cases hx : a ∈ acc
    · have e : PyProof.Rows.step_dedup acc a = acc := by
        unfold PyProof.Rows.step_dedup
        rw [if_pos]
        simp [hx]
      rw [e]
      obtain ⟨h1, h2⟩ := ih acc h
      refine ⟨h1, fun x => ?_⟩
      rw [h2, List.mem_cons]
      constructor
      · rintro (q | q)
        · exact .inl q
        · exact .inr (.inr q)
      · rintro (q | q | q)
        · exact .inl q
        · rw [q]; exact .inl hx
        · exact .inr q
    · have e : PyProof.Rows.step_dedup acc a = acc ++ [a] := by
        unfold PyProof.Rows.step_dedup
        rw [if_neg]
        simp [hx]
      rw [e]
      obtain ⟨h1, h2⟩ := ih (acc ++ [a]) (List.nodup_append.mpr ⟨h, by simp, fun u hu v hv q => by rw [q, List.mem_singleton.mp hv] at hu; exact hx hu⟩)
      refine ⟨h1, fun x => ?_⟩
      rw [h2, List.mem_append, List.mem_singleton, List.mem_cons, or_assoc]
theorem setI_spec (ns : List Int) : (setI ns).Pairwise (· < ·) ∧ (∀ x, x ∈ setI ns ↔ x ∈ ns) ∧ (setI ns).length = (dedupI ns).length := by
  obtain ⟨h1, h2⟩ := dedup_fold ns [] List.nodup_nil
  have pm : (setI ns).Perm (dedupI ns) := List.mergeSort_perm _ _
  refine ⟨?_, fun x => ?_, pm.length_eq⟩
  · have so : (setI ns).Pairwise (fun a b => decide (a ≤ b) = true) := List.pairwise_mergeSort (fun a b c => by simp only [decide_eq_true_eq]; omega) (fun a b => by simp only [Bool.or_eq_true, decide_eq_true_eq]; omega) _
    have nd : (setI ns).Nodup := pm.nodup_iff.mpr h1
    refine (so.and nd).imp fun {a b} h => ?_
    have := of_decide_eq_true h.1
    have h2 : a ≠ b := h.2
    omega
  · rw [pm.mem_iff]
    show x ∈ ns.foldl PyProof.Rows.step_dedup [] ↔ _
    rw [h2]
    simp
theorem asc_uniq : ∀ {a b : List Int}, a.Pairwise (· < ·) → b.Pairwise (· < ·) → (∀ x, x ∈ a ↔ x ∈ b) → a = b
  | [], [], _, _, _ => rfl
  | [], y :: b, _, _, h => absurd ((h y).mpr (by simp)) (by simp)
  | x :: a, [], _, _, h => absurd ((h x).mp (by simp)) (by simp)
  | x :: a, y :: b, h1, h2, h => by
    have p1 := List.pairwise_cons.mp h1
    have p2 := List.pairwise_cons.mp h2
    have e : x = y := by
      rcases List.mem_cons.mp ((h x).mp (by simp)) with q | q
      · exact q
      · rcases List.mem_cons.mp ((h y).mpr (by simp)) with q' | q'
        · exact q'.symm
        · have := p2.1 x q
          have := p1.1 y q'
          omega
    subst e
    congr 1
    refine asc_uniq p1.2 p2.2 fun z => ?_
    have hz := h z
    simp only [List.mem_cons] at hz
    constructor
    · intro q
      rcases hz.mp (.inr q) with r | r
      · have := p1.1 z q; omega
      · exact r
    · intro q
      rcases hz.mpr (.inr q) with r | r
      · have := p2.1 z q; omega
      · exact r
section
variable {X : Cx} {B : Bs} {W : WX} {s sa sb : Bool} {a b e : Expr} {fa fb f : FE} {pos : Pos}
def rSetL (K : PySem.W.Frag) (w : World) : List V → Hp → VK → Prop := fun xs H Q => ∃ (l : Addr) (ns : List Int), xs = [.ref l] ∧ SqL K H l (ns.map V.int) ∧ ns.length < 64 ∧ ∀ p c, H p = none → c < 64 → Q (.ref p) (upd H p (SetO w p (fun j => decide (j ∈ ns)) c))
theorem cr_setL (hc : X.calm = true) : CallR X (.type "set") (rSetL X.K X.w) := by
  intro pins s σ H xs us Q I r h
  obtain ⟨l, ns, rfl, hl, hf, q⟩ := h
  rw [Vals.ref1 r]
  obtain ⟨its, rv, pl, hz⟩ := I.list hl
  have hn : H s.heap.objs.size = none := I.hok.fresh (Nat.le_refl _)
  refine CPI.set_ints (P := X.prog) (w := X.w) (ns := ns) (I.ok.hd hc) pl.isList (by simpa using RZ.intsAre_vals rv) (by omega) fun h1 tk c c1 R k => ?_
  exact ⟨.ref s.heap.objs.size, _, I.laid (t' := tk) k (Nat.le_refl _) (setO_new R), rfl, q _ c hn (by omega)⟩
theorem d_sortSet {p p2 q : Pos} (hm : X.mg "sorted" = none) (hm2 : X.mg "set" = none) (ha : PE X a (eF (cx X B) W sa fa)) (hc : X.calm = true) (hg : Gl X "sorted" := by rfl) (hg2 : Gl X "set" := by rfl)
    (na : starEach [a] X.env = (false, eval a X.env) :: starEach [] X.env := by rfl) (nb : starEach [.Call (.Name "set" p2) [a] [] q] X.env = (false, eval (.Call (.Name "set" p2) [a] [] q) X.env) :: starEach [] X.env := by rfl) :
    PE X (.Call (.Name "sorted" p) [.Call (.Name "set" p2) [a] [] q] [] pos) (eF (cx X B) W s (e1 sortSetD fa)) := by
  refine (pe_callB (cr_sortedSet hc) hg hm PyProof.Rows.boot_sorted (pa_cons (pe_callTy (cr_setL hc) hg2 hm2 PyProof.Rows.boot_set (pa_cons ha pa_nil na) (by decide) (by decide) na rfl) pa_nil nb) (by decide) (by decide) nb rfl).weak fun σ H Q ⟨ρ, H0, rp, h⟩ => ⟨ρ, H0, rp, eO.seq (ρ := ρ) h fun d v H1 H01 g w q => ?_⟩
  cases d <;> try exact False.elim q
  rename_i ds
  obtain ⟨l, xs, rfl, h1, h2, h3⟩ := w.lst g.i
  cases c : intsOf ds with
  | none => simp [sortSetD, c, eO] at q
  | some ns =>
    by_cases hl : ns.length < 64
    · simp only [sortSetD, c, hl, if_true] at q
      rw [intsOf_some c] at h3
      have e := h3.ints
      subst e
      refine ⟨l, ns, rfl, .inl h1, hl, fun p1 c1 hp1 hc1 => ⟨p1, _, c1, rfl, upd_same, hc1, fun ms p2 o1 o2 o3 hp2 => ?_⟩⟩
      have em : ms = setI ns := asc_uniq o1 (setI_spec ns).1 fun x => by rw [o2, (setI_spec ns).2.1]; simp
      have g1 := Grow.mine g.i hp1 (SetO X.w p1 (fun j => decide (j ∈ ns)) c1)
      have q' := eO.grow q g1
      have hd : DqAll X.K H01 (ms.map V.int) ((setI ns).map .int) := by
        rw [em]
        generalize setI ns = zs
        induction zs with
        | nil => exact .nil
        | cons z zs ih => exact .cons (.int z) ih
      exact (newL q' g1.i hd (by rw [List.length_map, ← em, o3]; unfold LIM; omega)).2 p2 hp2
    · simp [sortSetD, c, hl, eO] at q
end
end CP
namespace CP
open PySem L2
def idxLD (d e : PyData) : R PyData := match d with
  | .list ds => if inOk ds e = true then (match ds.findIdx? (fun z => PyData.eqv z e) with
    | some j => .ok (.int (j : Nat))
    | none => .bad) else .bad
  | _ => .bad
def eIdxL (a b : FE) : FE := fun ρ => (a ρ).bind fun x => match b ρ with
  | .ok y => idxLD x y
  | _ => .bad
section
variable {X : Cx} {B : Bs} {W : WX} {s sa sb : Bool} {a b e : Expr} {fa fb f : FE} {pos : Pos}
theorem d_idxL {k : Nat} {x : Str} {p apos cpos : Pos} (hr : Room k X.A) (ha : PE X (.Name x p) (eF (cx X B) W true fa)) (hb : PE X b (eF (cx X B) W true fb))
    (hbase : attributeBase (.Name x p) "index" X.env (eval (.Name x p) X.env) = eval (.Name x p) X.env := by rfl)
    (hfew : ((backTo cpos (starEach [b] X.env)).all (fun x => !x.1) && (backToKw cpos (keywordEach [] X.env)).all (fun x => x.1.isSome) && decide ([b].length + ([] : List Keyword).length + (if ([] : List Keyword).isEmpty then 0 else 1) < 30)) = true := by rfl)
    (hline : (apos.endLine == cpos.line) = true := by rfl) (hs : starEach [b] X.env = (false, eval b X.env) :: starEach [] X.env := by rfl) :
    PE X (.Call (.Attribute (.Name x p) "index" apos) [b] [] cpos) (eF (cx X B) W s (eIdxL fa fb)) := by
  refine (pe_bm PySem.F.plainAttrs_list PySem.F.slot_list_index PySem.F.type_list_index (mt_indexD (by have := hr.un; omega)) ha (pa_cons hb pa_nil hs) hbase hfew hline hs rfl).weak fun σ H Q ⟨ρ, H0, rp, h⟩ => ⟨ρ, H0, rp, ?_⟩
  unfold eIdxL at h
  cases c : fa ρ with
  | bad => rw [c] at h; exact h
  | exc c' => rw [c] at h; exact h
  | ok d =>
    rw [c] at h
    intro v H1 H01 g1 w1
    simp only [R.bind_ok] at h
    replace w1 := w1.strong
    cases c2 : fb ρ with
    | bad => rw [c2] at h; exact h.elim
    | exc c' => rw [c2] at h; exact h.elim
    | ok ed =>
      rw [c2] at h
      simp only at h
      unfold idxLD at h
      cases d <;> try exact False.elim h
      rename_i ds
      simp only at h
      by_cases hc : inOk ds ed = true
      · rw [if_pos hc] at h
        have hin := hc
        unfold inOk at hin
        rw [Bool.and_eq_true] at hin
        have w1' := w1
        cases w1 with
        | @lst p xs _ a1 b1 c1 =>
          refine ⟨.inl ⟨rfl, xs, .inl (rd_same g1.i a1)⟩, ρ, H01, rp.grow g1, ?_⟩
          rw [c2]
          intro u H2 H02 g2 w2
          cases q : ds.findIdx? (fun z => PyData.eqv z ed) with
          | none => rw [q] at h; exact h.elim
          | some j =>
            rw [q] at h
            obtain ⟨hj, hjt, hjn⟩ := List.findIdx?_eq_some_iff_getElem.mp q
            refine ⟨p, u, ed, ds, j, ds[j], rfl, rfl, ((w1'.same g2.z).same g2.i).dp, (w2.strong.same g2.i).dp, hin.2, hin.1, List.getElem?_eq_getElem hj, hjt, fun m z' hm hz => ?_, eO.val (eO.grow (eO.grow h g1) g2) g2.i (.int _)⟩
            obtain ⟨hm', e'⟩ := List.getElem?_eq_some_iff.mp hz
            subst e'
            simpa using hjn m hm
      · rw [if_neg hc] at h; exact h.elim
def eNotT (a : FE) : FE := fun ρ => (tV a ρ).bind fun x => .ok (.bool (!x))
theorem d_notT (ha : PE X a (eF (cx X B) W sa fa)) : PE X (.UnaryOp .Not a pos) (eF (cx X B) W s (eNotT fa)) := by
  refine (pe_notT ha).weak fun σ H Q ⟨ρ, H0, rp, h⟩ => ⟨ρ, H0, rp, ?_⟩
  unfold eNotT tV at h
  cases q : fa ρ with
  | bad => rw [q] at h; exact h
  | exc c => rw [q] at h; exact h
  | ok d =>
    rw [q] at h
    simp only [R.bind_ok] at h
    intro v H1 H01 g w
    have h := eO.grow h g
    have go : ∀ {k : Bool}, truthD d = .ok k → Q (.bl (!k)) H1 := fun {k} q => by
      rw [q] at h
      exact eO.val h g.i (.bl _)
    cases d with
    | none => rw [w.non]; exact ⟨false, rfl, go rfl⟩
    | bool b => rw [w.bl]; exact ⟨b, rfl, go rfl⟩
    | int i => rw [w.int]; exact ⟨_, rfl, go rfl⟩
    | str x =>
      rw [w.str]
      by_cases hx : x.length ≤ LIM
      · exact ⟨_, ⟨Nat.le_trans hx lim_line, rfl⟩, go (by simp [truthD, hx])⟩
      · simp [truthD, hx, R.bind, eO] at h
    | list ds =>
      obtain ⟨p, xs, rfl, hr, _, hd⟩ := w.lst g.i
      exact ⟨!xs.isEmpty, .inl ⟨xs, .inl hr, rfl⟩, go (by rw [isEmpty_eq hd]; rfl)⟩
    | tuple ds =>
      obtain ⟨p, xs, rfl, hr, _, hd, _⟩ := w.tup g.i
      exact ⟨!xs.isEmpty, .inr (.inl ⟨xs, sqt_same g.i hr, rfl⟩), go (by rw [isEmpty_eq hd]; rfl)⟩
    | dict _ => exact h.elim
end
end CP
namespace CPR
open PySem PySem.Spec PyProof.Rows L2 HT
section
variable {prog : Program} {w : World} {A : Around} {E : Value → Shared → Prop} {s : Shared}
def cutK : Option Int → Nat
  | none => 0
  | some _ => 1
def stopR (hi : Option Int) (n : Int) : Int := match hi with
  | none => -1
  | some _ => min 0 (n - 1)
theorem fm_some {α β : Type} {f : α → Option β} {g : α → β} : ∀ {l : List α}, (∀ x ∈ l, f x = some (g x)) → l.filterMap f = l.map g
  | [], _ => rfl
  | a :: l, h => by rw [List.filterMap_cons, h a (by simp), List.map_cons, fm_some fun x hx => h x (by simp [hx])]
theorem adj_rev (hi : Option Int) (hh : hi = none ∨ hi = some 0) (n : Nat) : Builtin.Slice.sliceAdjust none hi (-1) (n : Int) = ((n : Int) - 1, stopR hi n) := by
  rcases hh with rfl | rfl <;> rfl
theorem plc_rev (hi : Option Int) (n : Nat) : Builtin.Slice.slicePlaces ((n : Int) - 1) (stopR hi n) (-1) = n - cutK hi := by
  unfold Builtin.Slice.slicePlaces cutK stopR
  rw [if_neg (by decide)]
  cases hi with
  | none =>
    simp only
    by_cases c : (n : Int) - 1 > -1
    · rw [if_pos c, show (- -1 : Int) = 1 from rfl, Int.ediv_one]; omega
    · rw [if_neg c]; omega
  | some _ =>
    simp only
    by_cases c : (n : Int) - 1 > min 0 ((n : Int) - 1)
    · rw [if_pos c, show (- -1 : Int) = 1 from rfl, Int.ediv_one]; omega
    · rw [if_neg c]; omega
theorem app_rev {sl : Addr} {vu vs : Value} {hi : Option Int} {n : Nat} {Q : Int × Int × Nat → Shared → Prop} (hh : hi = none ∨ hi = some 0) (at_ : s.heap.IsSliceOf sl .none vu vs) (pu : IsPart vu hi) (ps : IsPart vs (some (-1)))
    (q : Q ((n : Int) - 1, -1, n - cutK hi) s) : wpAny (model prog w) A (Builtin.Slice.sliceApplied (.ref sl) (pure (n : Int))) Q E s := by
  obtain ⟨ob, f1, f2, f3⟩ := id at_
  unfold Builtin.Slice.sliceApplied Builtin.Slice.sliceFields
  apply wpAny_bind
  apply wpAny_bind
  refine wpAny_field f1 f3 (x := .none) rfl ?_
  apply wpAny_bind
  refine wpAny_field f1 f3 (x := vu) rfl ?_
  apply wpAny_bind
  refine wpAny_field f1 f3 (x := vs) rfl ?_
  apply wpAny_pure
  apply wpAny_bind
  refine slicePart_ ps ?_
  show wpAny _ _ (if ((-1 : Int) == 0) = true then _ else _) _ _ s
  rw [if_neg (by decide)]
  apply wpAny_bind
  refine slicePart_ .none ?_
  apply wpAny_bind
  refine slicePart_ pu ?_
  apply wpAny_bind
  apply wpAny_pure
  show wpAny _ _ (match Builtin.Slice.sliceAdjust none hi (-1) (n : Int) with | (lo, h2) => pure (lo, (-1 : Int), Builtin.Slice.slicePlaces lo h2 (-1))) _ _ s
  rw [adj_rev hi hh n]
  show wpAny _ _ (pure (((n : Int) - 1), (-1 : Int), Builtin.Slice.slicePlaces ((n : Int) - 1) (stopR hi n) (-1))) _ _ s
  rw [plc_rev]
  exact wpAny_pure q
theorem pick_rev (xs : Array Value) (k : Nat) (hk : k ≤ xs.size) : ((List.range k).filterMap fun (m : Nat) => xs[((xs.size : Int) - 1 + (m : Int) * -1).toNat]?).toArray = (xs.toList.reverse.take k).toArray := by
  congr 1
  apply List.ext_getElem?
  intro i
  have key : (List.range k).filterMap (fun (m : Nat) => xs[((xs.size : Int) - 1 + (m : Int) * -1).toNat]?) = (List.range k).map fun m => xs[xs.size - 1 - m]?.getD .none := by
    refine fm_some fun m hm => ?_
    have hm := List.mem_range.mp hm
    have e : ((xs.size : Int) - 1 + (m : Int) * -1).toNat = xs.size - 1 - m := by omega
    have hlt : xs.size - 1 - m < xs.size := by omega
    rw [e, Array.getElem?_eq_getElem hlt]
    rfl
  rw [key]
  by_cases h : i < k
  · have hlt : xs.size - 1 - i < xs.size := by omega
    rw [List.getElem?_map, List.getElem?_range h, List.getElem?_take, if_pos h, List.getElem?_reverse (by simpa using (by omega : i < xs.size))]
    rw [Array.length_toList, Array.getElem?_toList, Array.getElem?_eq_getElem hlt, Option.map_some, Array.getElem?_eq_getElem hlt]
    rfl
  · rw [List.getElem?_eq_none (by simpa using h), List.getElem?_eq_none (by simp; omega)]
theorem item_rev {t sl : Addr} {its : Array Value} {vu vs : Value} {hi : Option Int} {Q : Value → Shared → Prop} (ht : IsTup s.heap t its) (hh : hi = none ∨ hi = some 0) (at_ : s.heap.IsSliceOf sl .none vu vs) (pu : IsPart vu hi) (ps : IsPart vs (some (-1)))
    (q : Q (.ref s.heap.objs.size) { s with heap := s.heap.push { cls := .type "tuple", data := .seq (its.toList.reverse.take (its.size - cutK hi)).toArray } }) (small : its.size ≤ sizeLine) : wpAny (model prog w) A (getItem (.ref t) (.ref sl)) Q E s := by
  have fit : sizeOk (.seq (its.toList.reverse.take (its.size - cutK hi)).toArray) := by
    show (its.toList.reverse.take (its.size - cutK hi)).toArray.size ≤ sizeLine
    rw [List.size_toArray, List.length_take, List.length_reverse, Array.length_toList]
    omega
  obtain ⟨ob, f1, f2, f3⟩ := id at_
  have ty : s.TypeIs (.ref sl) "slice" := ⟨ob, f1, f2⟩
  unfold getItem
  try with_reducible refine wpAny_holding ?_
  first | refine wpAny_bind (wpAny_pure ?_) | skip
  apply wpAny_bind
  refine wpAny_sequenceKey ht.typeIs (by decide) ?_
  apply wpAny_bind
  refine wpAny_callSpecial?_slot (name := Str.ofString "__getitem__") ht.typeIs PyProof.Rows.slot_tuple_getitem ?_
  refine wpAny_call_entry PyProof.Rows.slot_tuple_getitem ht.typeIs entry_tuple_getitem ?_ (args_tuple_getitem _ _)
  show wpAny _ _ (Builtin.Tuple.tupleItemsOf (.ref t) >>= _) _ _ s
  apply wpAny_bind
  refine tupleItemsOf_ ht ?_
  apply wpAny_bind
  refine wpAny_typeOf ty ?_
  rw [if_pos (by decide)]
  apply wpAny_bind
  refine app_rev hh at_ pu ps ?_
  have no : ¬ ((((its.size : Int) - 1) == 0 && (-1 : Int) == 1 && (its.size - cutK hi) == its.size) = true) := by
    rw [Bool.and_eq_true, Bool.and_eq_true]
    intro z
    exact absurd z.1.2 (by decide)
  show wpAny _ _ (if (((its.size : Int) - 1) == 0 && (-1 : Int) == 1 && (its.size - cutK hi) == its.size) = true then _ else _) _ _ s
  rw [if_neg no, pick_rev its _ (by omega)]
  first
    | exact wpAny_bind (m := Builtin.Tuple.tupleExact _) (wpAny_newObj_type (wpAny_pure ⟨_, rfl, wpAny_pure q⟩) fit)
    | exact wpAny_bind (m := Builtin.Tuple.tupleExact _) (wpAny_newObj_type (wpAny_bind (wpAny_pure (wpAny_pure ⟨_, rfl, wpAny_pure q⟩))) fit)
    | exact wpAny_bind (wpAny_bind (m := Builtin.Tuple.tupleExact _) (wpAny_newObj_type (wpAny_pure (wpAny_pure ⟨_, rfl, wpAny_pure q⟩)) fit))
    | exact wpAny_bind (wpAny_bind (m := Builtin.Tuple.tupleExact _) (wpAny_newObj_type (wpAny_pure ⟨_, rfl, wpAny_pure q⟩) fit))
variable {X : Cx}
theorem pe_back {e : Expr} {te : TE} {hi : Option Expr} {th : TO} {ho : Option Int} {k : Nat} {p1 p2 p3 pos : Pos} (he : PE X e te) (hh : ho = none ∨ ho = some 0) (hpo : PO X hi th) (hth : ∀ σ H, th σ H fun o H2 => o = ho ∧ H2 = H)
    (sub : ∀ (a b : Value), ∃ ops, subscripted (.Slice none hi (some (.UnaryOp .USub (.Constant (.int 1) k p1) p2)) p3) false a b = operate ops (getItem a b)) :
    PE X (.Subscript e (.Slice none hi (some (.UnaryOp .USub (.Constant (.int 1) k p1) p2)) p3) pos) (fun σ H Q => te σ H fun x H1 => ∃ a xs, x = .ref a ∧ SqT X.K H1 a xs ∧ CP.NewT H1 (xs.reverse.take (xs.length - cutK ho)) Q) := ⟨fun pins s σ H Q I q0 => by
  apply Subscript_
  refine thn (he.run pins s σ H _ I q0) fun v s1 z1 => ?_
  obtain ⟨x, H1, I1, r1, a, xs, rfl, hx, q⟩ := z1
  cases r1
  have step : PO X (some (.UnaryOp .USub (.Constant (.int 1) k p1) p2)) (tPart (tUn (rU fun i => .int (-i)) (tC (.int 1)))) := po_some (pe_un un_neg pe_int)
  apply wpAny_Slice
  refine thn (po_none.run pins s1 σ H1 (fun o H2 => o = none ∧ H2 = H1) I1 ⟨rfl, rfl⟩) fun vl s2 z2 => ?_
  obtain ⟨l, H2, I2, pl, el, e2⟩ := z2
  subst el e2
  refine thn (hpo.run pins s2 σ H2 (fun o H3 => o = ho ∧ H3 = H2) I2 (hth σ H2)) fun vu s3 z3 => ?_
  obtain ⟨u, H3, I3, pu, eu, e3⟩ := z3
  subst eu e3
  refine thn (step.run pins s3 σ H3 (fun o H4 => o = some (-1) ∧ H4 = H3) I3 ⟨1, rfl, -1, rfl, rfl, rfl⟩) fun vs s4 z4 => ?_
  obtain ⟨o, H4, I4, ps, eo, e4⟩ := z4
  subst eo e4
  cases pl
  have I5 : Inv X pins σ H4 { s4 with heap := s4.heap.push { cls := .type "slice", data := .fields #[.none, vu, vs] } } := I4.kept (t' := s4.toks) fun b ob y => Heap.get?_push_of_some _ y
  obtain ⟨its, r, ht, hz⟩ := I5.tuple hx
  have len : its.toArray.size = xs.length := by rw [List.size_toArray]; exact r.length.symm
  obtain ⟨ops, hs⟩ := sub (.ref a) (.ref s4.heap.objs.size)
  refine tail_any (ops := ops) ht.typeIs (PyProof.Rows.slot_tuple_getitem.lookup) ?_ hs
  refine item_rev ht hh (Heap.IsSliceOf.new _ .none vu vs) pu ps ?_ (by rw [len]; exact hz)
  rw [len]
  refine CP.lay_tup (s := { s4 with heap := s4.heap.push { cls := .type "slice", data := .fields #[.none, vu, vs] } }) (h1 := s4.heap.push { cls := .type "slice", data := .fields #[.none, vu, vs] }) (t := s4.toks) I5 ?_ (r.reverse.take _) q
  rw [List.length_take, List.length_reverse]
  omega⟩
end
end CPR
namespace CP
open PySem L2
theorem DqAll.snoc {K : PySem.W.Frag} {H : Hp} : ∀ {xs ys : List V} {ds es : List PyData}, DqAll K H xs ds → DqAll K H ys es → DqAll K H (xs ++ ys) (ds ++ es)
  | _, _, _, _, .nil, h => h
  | _, _, _, _, .cons a b, h => .cons a (DqAll.snoc b h)
theorem DqAll.rev {K : PySem.W.Frag} {H : Hp} : ∀ {xs : List V} {ds : List PyData}, DqAll K H xs ds → DqAll K H xs.reverse ds.reverse
  | _, [], h => by cases h; exact .nil
  | _, d :: ds, h => by
    cases h with
    | cons a b =>
      rw [List.reverse_cons, List.reverse_cons]
      exact (DqAll.rev b).snoc (.cons a .nil)
def revD (k : Nat) : PyData → R PyData
  | .tuple ds => .ok (.tuple (ds.reverse.take (ds.length - k)))
  | _ => .bad
def revLD : PyData → R PyData
  | .list ds => .ok (.list ds.reverse)
  | _ => .bad
section
variable {X : Cx} {B : Bs} {W : WX} {s sa sb : Bool} {a b e : Expr} {fa fb f : FE} {pos : Pos}
theorem d_back {hi : Option Expr} {th : TO} {ho : Option Int} {k : Nat} {p1 p2 p3 : Pos} (ha : PE X a (eF (cx X B) W sa fa)) (hh : ho = none ∨ ho = some 0) (hpo : PO X hi th) (hth : ∀ σ H, th σ H fun o H2 => o = ho ∧ H2 = H)
    (sub : ∀ (u v : Value), ∃ ops, subscripted (.Slice none hi (some (.UnaryOp .USub (.Constant (.int 1) k p1) p2)) p3) false u v = operate ops (getItem u v)) :
    PE X (.Subscript a (.Slice none hi (some (.UnaryOp .USub (.Constant (.int 1) k p1) p2)) p3) pos) (eF (cx X B) W s (e1 (revD (CPR.cutK ho)) fa)) := by
  refine (CPR.pe_back ha hh hpo hth sub).weak fun σ H Q ⟨ρ, H0, rp, h⟩ => ⟨ρ, H0, rp, eO.seq (ρ := ρ) h fun d v H1 H01 g w q => ?_⟩
  cases d <;> try exact False.elim q
  rename_i ds
  obtain ⟨p, xs, rfl, h1, h2, h3, h4⟩ := w.tup g.i
  refine ⟨p, xs, rfl, sqt_same g.i h1, ?_⟩
  have hd : DqAll X.K H01 (xs.reverse.take (xs.length - CPR.cutK ho)) (ds.reverse.take (ds.length - CPR.cutK ho)) := by
    rw [h3.length]
    exact h3.rev.take _
  refine (newT q g.i hd ?_).2
  rw [List.length_take, List.length_reverse]
  omega
theorem d_rev {k : Nat} {p1 p2 p3 : Pos} (ha : PE X a (eF (cx X B) W sa fa)) (sub : ∀ (u v : Value), ∃ ops, subscripted (.Slice none none (some (.UnaryOp .USub (.Constant (.int 1) k p1) p2)) p3) false u v = operate ops (getItem u v) := by intro u v; exact ⟨[u, v], by with_unfolding_all rfl⟩) :
    PE X (.Subscript a (.Slice none none (some (.UnaryOp .USub (.Constant (.int 1) k p1) p2)) p3) pos) (eF (cx X B) W s (e1 (revD 0) fa)) := d_back (ho := none) ha (.inl rfl) po_none (fun σ H => ⟨rfl, rfl⟩) sub
theorem d_rev1 {k j : Nat} {p0 p1 p2 p3 : Pos} (ha : PE X a (eF (cx X B) W sa fa)) (sub : ∀ (u v : Value), ∃ ops, subscripted (.Slice none (some (.Constant (.int 0) j p0)) (some (.UnaryOp .USub (.Constant (.int 1) k p1) p2)) p3) false u v = operate ops (getItem u v) := by intro u v; exact ⟨[u, v], by with_unfolding_all rfl⟩) :
    PE X (.Subscript a (.Slice none (some (.Constant (.int 0) j p0)) (some (.UnaryOp .USub (.Constant (.int 1) k p1) p2)) p3) pos) (eF (cx X B) W s (e1 (revD 1) fa)) := d_back (ho := some 0) ha (.inr rfl) (po_some pe_int) (fun σ H => ⟨0, rfl, rfl, rfl⟩) sub
theorem d_revL {k : Nat} {p1 p2 p3 : Pos} (ha : PE X a (eF (cx X B) W sa fa)) : PE X (.Subscript a (.Slice none none (some (.UnaryOp .USub (.Constant (.int 1) k p1) p2)) p3) pos) (eF (cx X B) W s (e1 revLD fa)) := by
  refine (pe_revL ha).weak fun σ H Q ⟨ρ, H0, rp, h⟩ => ⟨ρ, H0, rp, eO.seq (ρ := ρ) h fun d v H1 H01 g w q => ?_⟩
  cases d <;> try exact False.elim q
  rename_i ds
  obtain ⟨p, xs, rfl, h1, h2, h3⟩ := w.lst g.i
  exact ⟨p, xs, rfl, .inl h1, (newL q g.i h3.rev (by rw [List.length_reverse]; exact h2)).2⟩
def sPopT (i j : Nat) (f : FE) : FS := fun ρ => match ρ[i]? with
  | some (some (.d (.tuple os))) => match ρ[j]? with
    | some (some (.l ds)) => match f ρ with
      | .ok (.int k) => match ixN ds.length k with
        | some m => match ds[m]? with
          | some d => if os.length < LIM then .next ((ρ.set j (some (.l (ds.eraseIdx m)))).set i (some (.d (.tuple (os ++ [d]))))) else .bad
          | none => .bad
        | none => .bad
      | _ => .bad
    | _ => .bad
  | _ => .bad
theorem s_popT (i j : Nat) {x y : Str} {p0 p apos pos' cpos tpos bpos : Pos} {x1} (hN : X.N.Nodup) (he : PE X e (eF (cx X B) W true f)) (hi : X.N[i]? = some x := by rfl) (hx : Loc X.env.scope x := by first | exact Or.inl rfl | exact Or.inr rfl) (hf : X.fn x = true ∨ X.env.scope.names.lookup x = some .local := by first | exact .inl rfl | exact .inr rfl | assumption)
    (hvi : Vis X.env.scope x := by first | exact Or.inl rfl | exact Or.inr (Or.inl rfl) | exact Or.inr (Or.inr rfl)) (hdi : (x == ("__debug__" : Str)) = false := by decide) (hcdi : (x == ("__classdict__" : Str)) = false := by decide)
    (hNj : X.N[j]? = some y := by rfl) (hv : Vis X.env.scope y := by first | exact Or.inl rfl | exact Or.inr (Or.inl rfl) | exact Or.inr (Or.inr rfl)) (hd : (y == ("__debug__" : Str)) = false := by decide) (hcd : (y == ("__classdict__" : Str)) = false := by decide)
    (hbase : attributeBase (.Name y p) "pop" X.env (eval (.Name y p) X.env) = eval (.Name y p) X.env := by rfl)
    (hfew : ((backTo cpos (starEach [e] X.env)).all (fun x => !x.1) && (backToKw cpos (keywordEach [] X.env)).all (fun x => x.1.isSome) && decide ([e].length + ([] : List Keyword).length + (if ([] : List Keyword).isEmpty then 0 else 1) < 30)) = true := by rfl)
    (hline : (apos.endLine == cpos.line) = true := by rfl) (hs : starEach [e] X.env = (false, eval e X.env) :: starEach [] X.env := by rfl) (hs2 : starEach [.Call (.Attribute (.Name y p) "pop" apos) [e] [] cpos] X.env = (false, eval (.Call (.Attribute (.Name y p) "pop" apos) [e] [] cpos) X.env) :: starEach [] X.env := by rfl)
    (hsw : swapsWith (.BinOp (.Name x p0) .Add (.Tuple [.Call (.Attribute (.Name y p) "pop" apos) [e] [] cpos] x1 tpos) bpos) (some (.Name x pos')) pos.line X.env = pure false := by rfl) :
    PS X (.Assign [.Name x pos'] (.BinOp (.Name x p0) .Add (.Tuple [.Call (.Attribute (.Name y p) "pop" apos) [e] [] cpos] x1 tpos) bpos) pos) (sF (cx X B) W (sPopT i j f)) := by
  have hpop := pe_bm PySem.F.plainAttrs_list PySem.F.slot_list_pop PySem.F.type_list_pop mt_popAt (pe_var hNj hv hd hcd) (pa_cons he pa_nil hs) hbase hfew hline hs rfl
  refine (ps_set hN hi hx (pe_op op_catZ (pe_var hi hvi hdi hcdi) (pe_tupZ (pa_cons hpop pa_nil hs2))) hsw hf).weak fun D σ H ⟨ρ, H0, rp, h⟩ => ?_
  unfold sPopT at h
  cases qi : ρ[i]? with
  | none => rw [qi] at h; exact h.elim
  | some o =>
    cases o with
    | none => rw [qi] at h; exact h.elim
    | some sv =>
      cases sv with
      | l _ => rw [qi] at h; exact h.elim
      | m _ => rw [qi] at h; exact h.elim
      | x _ => rw [qi] at h; exact h.elim
      | r _ _ => rw [qi] at h; exact h.elim
      | v _ _ => rw [qi] at h; exact h.elim
      | d od =>
        cases od <;> try (rw [qi] at h; exact h.elim)
        rename_i os
        rw [qi] at h
        simp only at h
        obtain ⟨uo, hso, dqo⟩ := rp.at_ i _ qi
        cases q : ρ[j]? with
        | none => rw [q] at h; exact h.elim
        | some o =>
          cases o with
          | none => rw [q] at h; exact h.elim
          | some sv =>
            cases sv with
            | d _ => rw [q] at h; exact h.elim
            | m _ => rw [q] at h; exact h.elim
            | x _ => rw [q] at h; exact h.elim
            | r _ _ => rw [q] at h; exact h.elim
            | v _ _ => rw [q] at h; exact h.elim
            | l ds =>
              rw [q] at h
              simp only at h
              obtain ⟨u, hs', pp, xs, rfl, k1, _⟩ := rp.at_ j _ q
              refine ⟨uo, hso, .ref pp, hs', .inl ⟨rfl, xs, .inl (.inl k1)⟩, ρ, H0, rp, ?_⟩
              cases c : f ρ with
              | bad => rw [c] at h; exact h.elim
              | exc c' => rw [c] at h; exact h.elim
              | ok d =>
                rw [c] at h
                intro v H' H0' g w
                cases d <;> try exact False.elim h
                rename_i k
                simp only at h
                cases cm : ixN ds.length k with
                | none => rw [cm] at h; exact h.elim
                | some m =>
                  rw [cm] at h
                  simp only at h
                  cases cd : ds[m]? with
                  | none => rw [cd] at h; exact h.elim
                  | some d =>
                    rw [cd] at h
                    simp only at h
                    by_cases hl : os.length < LIM
                    · rw [if_pos hl] at h
                      obtain ⟨pp', xs', y, e1, e2, e3, e4, e5, e6, e7, e8, e9⟩ := pop_core rp q g cm cd
                      rw [hs'] at e1
                      cases e1
                      rw [k1] at e2
                      cases e2
                      refine ⟨pp, xs, k, m, y, rfl, by rw [w.int], e3, e4, e5, e6, e7, by unfold sizeLine; simp, ?_⟩
                      intro p1 o1 hp1 ho1
                      have g1 := Grow.new e9.st hp1 o1
                      have dq0 : Dq X.K H0' uo (.tuple os) := dqo.same g.z
                      have wo : Wk X.K true (upd (upd H' pp (.lst (xs.eraseIdx m))) p1 o1) (upd H0' p1 o1) uo (.tuple os) := .inl (dq0.same g1.z)
                      obtain ⟨pa, ys, rfl, t1, t2, t3, t4⟩ := wo.tup g1.i
                      have dy : DqAll X.K (upd H0' p1 o1) [y] [d] := .cons (e8.same g1.z) .nil
                      have n1 : Dq X.K (upd H0' p1 o1) (.ref p1) (.tuple [d]) := .tup (ho1 _ upd_same) (by simp [LIM]) dy
                      have w1 : Wk X.K true (upd (upd H' pp (.lst (xs.eraseIdx m))) p1 o1) (upd H0' p1 o1) (.ref p1) (.tuple [d]) := .inl n1
                      obtain ⟨pb, zs, eb, u1, u2, u3, u4⟩ := w1.tup g1.i
                      cases eb
                      have ez : zs.length = 1 := u3.length
                      have hz : ys.length + zs.length ≤ sizeLine := by
                        rw [t3.length, ez]
                        exact Nat.le_trans hl lim_line
                      refine ⟨pa, p1, ys, zs, rfl, rfl, sqt_same g1.i t1, sqt_same g1.i u1, hz, fun e0 => ?_, fun _ e0 => ?_, fun _ _ => ?_⟩
                      · have : os = [] := by
                          subst e0
                          cases t3
                          rfl
                        subst this
                        exact h _ _ _ (g.z.trans g1.z) ((e9.grow g1).set n1 i)
                      · rw [e0] at ez
                        cases ez
                      · intro p2 o2 hp2 ho2
                        have g2 := Grow.new g1.i hp2 o2
                        have n2 : Dq X.K (upd (upd H0' p1 o1) p2 o2) (.ref p2) (.tuple (os ++ [d])) := .tup (ho2 _ upd_same) (by rw [List.length_append]; exact hl) ((t3.snoc u3).same g2.z)
                        exact h _ _ _ ((g.z.trans g1.z).trans g2.z) (((e9.grow g1).grow g2).set n2 i)
                    · rw [if_neg hl] at h; exact h.elim
end
end CP
namespace CP
open PySem PySem.Spec PyProof.Rows L2
def opTwice : PyData → PyData → R PyData
  | .tuple a, .int k => if k = 2 ∧ a ≠ [] ∧ a.length ≤ 1000 then .ok (.tuple (a ++ a)) else .bad
  | _, _ => .bad
section
variable {X : Cx} {B : Bs} {W : WX} {s sa sb : Bool} {a b e : Expr} {fa fb f : FE} {pos : Pos}
theorem op_twice : OpR X (binaryOp .Mult) (fun x y H Q => ∃ l xs, x = .ref l ∧ y = .int 2 ∧ SqT X.K H l xs ∧ xs ≠ [] ∧ xs.length ≤ 1000 ∧ NewT H (xs ++ xs) Q) := by
  rintro pins s σ H x y v u Q I rx ry ⟨l, xs, rfl, rfl, hT, hne, hz, q⟩
  cases rx
  obtain ⟨t, rfl⟩ := ry
  obtain ⟨its, r, ⟨⟨c0, dd, data, sl⟩, ho, hc, n, hd⟩, hs⟩ := I.tuple hT
  simp only at hc hd
  subst hc hd
  have len : its.length = xs.length := r.length.symm
  have full : its.toArray.isEmpty = false := by
    cases its with
    | nil => exact absurd (List.eq_nil_of_length_eq_zero len.symm) hne
    | cons _ _ => rfl
  have size : its.toArray.size = xs.length := by rw [List.size_toArray, len]
  have e2 : (List.replicate 2 its).flatten = its ++ its := by simp [List.replicate]
  have fit : (its ++ its).length ≤ sizeLine := by rw [List.length_append, len, sizeLine_eq]; omega
  have k1 : (its.toArray.isEmpty || (2 : Int) == 1) = false := by rw [full]; rfl
  have k2 : (decide ((2 : Int) ≤ 0) || its.toArray.isEmpty) = false := by rw [full]; rfl
  have k4 : Builtin.Tuple.tupleTooMany (((its.toArray.size : Nat) : Int) * 2) = false := by
    unfold Builtin.Tuple.tupleTooMany
    rw [size, sizeLine_eq]
    exact decide_eq_false (by omega)
  have go := tuple_mulW l its.toArray n dd sl 2 t (by decide) k1 k2 (by rw [size]; omega) k4 (by rw [size_rep, List.size_toArray]; show (List.replicate 2 its).flatten.length ≤ _; rw [e2]; exact fit)
  refine wpAny_binaryOp_repeat_ref (T := "tuple") (U := "int") (by decide) ⟨_, ho, rfl⟩ (fun z => typeIs_int z 2 t) noFill_tuple_mul F.fills_int_mul
    F.slot_int_rmul repeat_tuple F.slot_int_index.lookup (call_meets F.slot_int_rmul (typeIs_int s 2 t) F.entry_int_rmul
    (F.args_int_rmul_2 _ _) (int_rmul_tuple 2 t l its.toArray n dd sl) ⟨ho, rfl, ⟨_, ho, rfl⟩,
    call_meets F.slot_tuple_mul ⟨_, ho, rfl⟩ F.entry_tuple_mul (F.args_tuple_mul_2 _ _) go ⟨ho, ?_⟩⟩)
  · rw [size_rep]
    show EP X pins σ Q _ { s with heap := s.heap.push { cls := Value.type "tuple", data := Data.seq (List.replicate 2 its).flatten.toArray }, toks := s.toks }
    rw [e2]
    exact lay_tup (s := s) (h1 := s.heap) (t := s.toks) I (by rw [List.length_append, sizeLine_eq]; omega) (r.append r) q
theorem opd_twice : OpD X (binaryOp .Mult) opTwice := by
  refine ⟨_, op_twice, fun B W sa sb σ x y d e H H0 Q i wd we h => ?_⟩
  cases d <;> cases e <;> try exact h.elim
  rename_i a k
  by_cases hl : k = 2 ∧ a ≠ [] ∧ a.length ≤ 1000
  · rw [opTwice, if_pos hl] at h
    obtain ⟨p, xs, rfl, h1, h2, h3, _⟩ := wd.tup i
    rw [we.int, hl.1]
    have hL : LIM = 100000 := rfl
    obtain ⟨hz, hn⟩ := newT h i (h3.append h3) (by rw [List.length_append]; have := hl.2.2; omega)
    refine ⟨p, xs, rfl, rfl, sqt_same i h1, fun e => ?_, by rw [h3.length]; exact hl.2.2, hn⟩
    subst e
    cases h3
    exact hl.2.1 rfl
  · rw [opTwice, if_neg hl] at h
    exact h.elim
end
end CP
namespace CP
open PySem L2
def F_in_range : List PyData → R PyData := runF 3 (sRet (eAnd (e1 (isiD isiInt) (eV 0)) (eAnd (eNot (e1 (isiD isiBool) (eV 0))) (eChain leD leD (eV 1) (eV 0) (eV 2)))))
def F_is_operation : List PyData → R PyData := runF 1 (sSeq (sIf (tOrF (tNotF (tV (e1 (isiD isiTup) (eV 0)))) (tOrF (tB (e2 neD (e1 lenD (eV 0)) (eC (.int (4))))) (tOrF (tNotF (tV (e1 (isiD isiStr) (e2 ixD (eV 0) (eC (.int (0))))))) (tB (e2 notInD (e2 ixD (eV 0) (eC (.int (0)))) (eC (.tuple [(.str "write"), (.str "read")]))))))) (sRet (eC (.bool false))) (sNil)) (sSeq (sIf (tNotF (tV (eCall 3 F_in_range (aC (e2 ixD (eV 0) (eC (.int (1)))) (aC (eIf (tB (e2 eqD (e2 ixD (eV 0) (eC (.int (0)))) (eC (.str "read")))) (eC (.int (0))) (eC (.int (1)))) (aC (eC (.int (9))) (aN))))))) (sRet (eC (.bool false))) (sNil)) (sRet (eAnd (eCall 3 F_in_range (aC (e2 ixD (eV 0) (eC (.int (2)))) (aC (eC (.int (0))) (aC (eC (.int (99))) (aN))))) (eCall 3 F_in_range (aC (e2 ixD (eV 0) (eC (.int (3)))) (aC (e2 opAdd (e2 ixD (eV 0) (eC (.int (2)))) (eC (.int (1)))) (aC (eC (.int (99))) (aN)))))))))
def C_is_story_1 : FE := eLc (iSeq (eV 0)) [3] (gN 3) (tNotF (tV (eCall 1 F_is_operation (aC (eV 3) (aN))))) (eV 3)
def C_is_story_2 : FE := eLc (iZip (eV 0) (eSl (eV 0) (oS (eC (.int (1)))) (oN))) [3, 4] (gT [3, 4]) (tB (e2 geD (e2 ixD (eV 3) (eC (.int (2)))) (e2 ixD (eV 4) (eC (.int (2)))))) (eC (.int (1)))
def C_is_story_3 : FE := eLc (iSeq (eV 0)) [3] (gN 3) (tTrue) (e2 ixD (eV 3) (eC (.int (2))))
def C_is_story_4 : FE := eLc (iSeq (eV 0)) [3] (gN 3) (tTrue) (e2 ixD (eV 3) (eC (.int (3))))
def C_is_story_5 : FE := eLc (iSeq (eV 0)) [3] (gN 3) (tB (e2 eqD (e2 ixD (eV 3) (eC (.int (0)))) (eC (.str "write")))) (e2 ixD (eV 3) (eC (.int (1))))
def F_is_story : List PyData → R PyData := runF 5 (sSeq (sIf (tOrF (tNotF (tV (e1 (isiD isiTup) (eV 0)))) (tB (e2 gtD (e1 lenD (eV 0)) (eC (.int (6)))))) (sRet (eC (.bool false))) (sNil)) (sSeq (sIf (tV (C_is_story_1)) (sRet (eC (.bool false))) (sNil)) (sSeq (sIf (tV (C_is_story_2)) (sRet (eC (.bool false))) (sNil)) (sSeq (sSet 1 (e2 opAdd (C_is_story_3) (C_is_story_4))) (sSeq (sSet 2 (C_is_story_5)) (sRet (eAnd (e2 eqD (e1 lenSetD (eV 1)) (e1 lenD (eV 1))) (e2 eqD (e1 lenSetD (eV 2)) (e1 lenD (eV 2))))))))))
def F_check_story : List PyData → R PyData := runF 1 (sIf (tNotF (tV (eCall 1 F_is_story (aC (eV 0) (aN))))) (sRaise "InvalidStory") (sNil))
def F_precedes : List PyData → R PyData := runF 2 (sRet (e2 ltD (e2 ixD (eV 0) (eC (.int (3)))) (e2 ixD (eV 1) (eC (.int (2))))))
def C_may_follow_1 : FE := eLc (iEnum (eV 0)) [5, 6] (gT [5, 6]) (tB (e2 notInD (eV 5) (eV 1))) (eV 6)
def C_may_follow_2 : FE := eLc (iSeq (eV 3)) [6] (gN 6) (tV (eCall 2 F_precedes (aC (eV 6) (aC (e2 ixD (eV 0) (eV 2)) (aN))))) (eV 6)
def C_may_follow_3 : FE := eLc (iSeq (eV 1)) [5] (gN 5) (tB (e2 eqD (e2 ixD (e2 ixD (eV 0) (eV 5)) (eC (.int (0)))) (eC (.str "write")))) (e2 ixD (e2 ixD (eV 0) (eV 5)) (eC (.int (1))))
def F_may_follow : List PyData → R PyData := runF 7 (sSeq (sSet 3 (C_may_follow_1)) (sSeq (sIf (tV (C_may_follow_2)) (sRet (eC (.bool false))) (sNil)) (sSeq (sSet 4 (C_may_follow_3)) (sRet (eOr (e2 eqD (e2 ixD (e2 ixD (eV 0) (eV 2)) (eC (.int (0)))) (eC (.str "write"))) (e2 eqD (e2 ixD (e2 ixD (eV 0) (eV 2)) (eC (.int (1)))) (eIf (tV (eV 4)) (e2 ixD (eV 4) (e1 negD (eC (.int (1))))) (eC (.int (0))))))))))
def F_explanations_of : List PyData → R PyData := runF 3 (sSeq (sOwn 2 (eLs (aN))) (sSeq (sCallM 2 (extF F_may_follow 8) (eV 0) (eT (aN)) (eV 1)) (sRet (eL 2))))
def C_choices_1 (rec : List PyData → R PyData) : FE := eLc (iSeq (eCall 2 rec (aC (eSl (eV 0) (oS (e2 opAdd (eV 3) (eC (.int (1))))) (oN)) (aC (e2 opSub (eV 1) (eC (.int (1)))) (aN))))) [5] (gN 5) (tTrue) (e2 opAdd (eT (aC (eV 4) (aN))) (eV 5))
def B_choices_1 (rec : List PyData → R PyData) : FS := sExt 2 ((C_choices_1 rec))
def F_choices : Nat → List PyData → R PyData
  | 0 => fun _ => .bad
  | n + 1 => runF 6 (sSeq (sIf (tB (e2 eqD (eV 1) (eC (.int (0))))) (sRet (eLs (aC (eT (aN)) (aN)))) (sNil)) (sSeq (sOwn 2 (eLs (aN))) (sSeq (sFor (iEnum (eV 0)) (gT [3, 4]) ((B_choices_1 (F_choices n)))) (sRet (eL 2)))))
def C_fewest_dropped_1 : FE := eLc (iEnum (eV 0)) [4, 5] (gT [4, 5]) (tB (e2 notInD (eV 4) (eV 2))) (eV 5)
def B_fewest_dropped_1 : FS := sSeq (sSet 3 (e1 tupleD (C_fewest_dropped_1))) (sIf (tV (eCall 2 F_explanations_of (aC (eV 3) (aC (eC (.int (1))) (aN))))) (sRet (eV 2)) (sNil))
def B_fewest_dropped_2 : FS := sSeq (sFor (iSeq (eCall 2 (F_choices 8) (aC (eLRng1 (e1 lenD (eV 0))) (aC (eV 1) (aN))))) (gN 2) (B_fewest_dropped_1)) (sSet 1 (e2 augI (eV 1) (eC (.int (1)))))
def F_fewest_dropped : List PyData → R PyData := runF 6 (sSeq (sExpr (eCall 1 F_check_story (aC (eV 0) (aN)))) (sSeq (sSet 1 (eC (.int (0)))) (whileGo (tV (eC (.bool true))) (B_fewest_dropped_2) 10)))
def F_law_cell : List PyData → R PyData := runF 2 (sSeq (sIf (tB (e2 ltD (eV 1) (e1 lenD (eV 0)))) (sRet (e2 ixD (eV 0) (eV 1))) (sNil)) (sRet (eC (.int (0)))))
def B_law_row_1 : FS := sIf (tB (e2 ltD (eCall 2 F_law_cell (aC (eV 0) (aC (eV 1) (aN)))) (e2 opPow (eC (.int (10))) (eC (.int (18)))))) (sSeq (sSet 2 (e2 opMod (e2 opAdd (e2 opAdd (e2 opAdd (e2 opMul (eV 2) (eC (.int (48271)))) (e2 opMul (eC (.int (131))) (eV 4))) (eC (.int (7)))) (eCall 2 F_law_cell (aC (eV 0) (aC (e2 opMod (e2 opAdd (e2 opAdd (eV 1) (eC (.int (1)))) (eV 4)) (eC (.int (20)))) (aN))))) (eC (.int (2147483647))))) (sApp 3 (e2 opMod (e2 opDiv (eV 2) (eC (.int (11)))) (eC (.int (1000)))))) (sSeq (sApp 3 (e2 opMod (eV 2) (eC (.int (1000))))) (sSet 2 (e2 opDiv (eV 2) (eC (.int (1000))))))
def F_law_row : List PyData → R PyData := runF 5 (sSeq (sSet 2 (eCall 2 F_law_cell (aC (eV 0) (aC (eV 1) (aN))))) (sSeq (sOwn 3 (eLs (aN))) (sSeq (sFor (iRng1 (eC (.int (60)))) (gN 4) (B_law_row_1)) (sRet (eL 3)))))
def B_law_story_1 : FS := sSeq (sSet 7 (eIf (tB (e2 gtD (e2 opMod (e2 ixD (eV 3) (eC (.int (1)))) (eC (.int (4)))) (eC (.int (0))))) (e2 opMul (eC (.int (10))) (eV 6)) (e2 opMod (e2 ixD (eV 3) (e2 opAdd (eC (.int (2))) (eV 6))) (eC (.int (60)))))) (sSeq (sApp 5 (eT (aC (e2 opSub (eV 7) (e2 opMod (e2 ixD (eV 3) (e2 opAdd (eC (.int (10))) (eV 6))) (e2 opAdd (eC (.int (8))) (e2 opMod (e2 ixD (eV 3) (eC (.int (20)))) (eC (.int (20))))))) (aC (eV 6) (aC (eC (.int (0))) (aN)))))) (sApp 5 (eT (aC (e2 opAdd (e2 opAdd (eV 7) (eC (.int (1)))) (e2 opMod (e2 ixD (eV 3) (e2 opAdd (eC (.int (30))) (eV 6))) (e2 opAdd (eC (.int (8))) (e2 opMod (e2 ixD (eV 3) (eC (.int (21)))) (eC (.int (20))))))) (aC (eV 6) (aC (eC (.int (1))) (aN)))))))
def B_law_story_2 : FS := sSeq (sSet 10 (e2 ixD (e1 sortD (eL 5)) (eV 9))) (sDPut 8 (eT (aC (e2 ixD (eV 10) (eC (.int (1)))) (aC (e2 ixD (eV 10) (eC (.int (2)))) (aN)))) (e2 opAdd (e2 opMul (eC (.int (3))) (eV 9)) (e2 opMod (e2 ixD (eV 3) (e2 opAdd (eC (.int (40))) (eV 9))) (eC (.int (3))))))
def C_law_story_1 : FE := eLc (iRng2 (eC (.int (1))) (eC (.int (10)))) [17] (gN 17) (tB (e2 notInD (eV 17) (eL 13))) (eV 17)
def C_law_story_2 : FE := eLc (iSeq (eL 11)) [17] (gN 17) (tTrue) (eT (aC (e2 ixD (eV 17) (eC (.int (2)))) (aC (eV 17) (aN))))
def B_law_story_3 : FS := sSeq (sSet 14 (eIf (tB (e2 eqD (e2 opMod (e2 ixD (eV 3) (e2 opAdd (eC (.int (22))) (eV 6))) (eC (.int (2)))) (eC (.int (0))))) (eC (.str "write")) (eC (.str "read")))) (sSeq (sIf (tB (e2 eqD (eV 14) (eC (.str "write")))) (sSeq (sSet 12 (e2 ixD (C_law_story_1) (e2 opMod (e2 ixD (eV 3) (e2 opAdd (eC (.int (50))) (eV 6))) (eC (.int (3)))))) (sApp 13 (eV 12))) (sNil)) (sSeq (sSet 15 (eV 12)) (sSeq (sIf (tAndF (tB (e2 eqD (eV 14) (eC (.str "read")))) (tB (e2 eqD (e2 opMod (e2 ixD (eV 3) (eC (.int (1)))) (eC (.int (3)))) (eC (.int (0)))))) (sSet 15 (e2 ixD (e2 opAdd (e2 opAdd (eLs (aC (eC (.int (0))) (aN))) (eL 13)) (eLs (aC (eC (.int (9))) (aN)))) (e2 opMod (e2 ixD (eV 3) (e2 opAdd (eC (.int (50))) (eV 6))) (e2 opAdd (e1 lenD (eL 13)) (eC (.int (2))))))) (sNil)) (sApp 11 (eT (aC (eV 14) (aC (eV 15) (aC (eDGet 8 (eT (aC (eV 6) (aC (eC (.int (0))) (aN))))) (aC (eDGet 8 (eT (aC (eV 6) (aC (eC (.int (1))) (aN))))) (aN))))))))))
def C_law_story_3 : FE := eLc (iSeq (e1 sortD (C_law_story_2))) [16, 17] (gT [16, 17]) (tTrue) (eV 17)
def F_law_story : List PyData → R PyData := runF 18 (sSeq (sSet 3 (eCall 2 F_law_row (aC (eV 0) (aC (eV 1) (aN))))) (sSeq (sSet 4 (e2 opMod (e2 ixD (eV 3) (eC (.int (0)))) (e2 opAdd (eV 2) (eC (.int (1)))))) (sSeq (sOwn 5 (eLs (aN))) (sSeq (sFor (iRng1 (eV 4)) (gN 6) (B_law_story_1)) (sSeq (sDNew 8) (sSeq (sFor (iRng1 (e1 lenD (e1 sortD (eL 5)))) (gN 9) (B_law_story_2)) (sSeq (sMix [11, 12, 13] (mL (eLs (aN)) (mS (eC (.int (0))) (mL (eLs (aN)) (mN))))) (sSeq (sFor (iRng1 (eV 4)) (gN 6) (B_law_story_3)) (sRet (e1 tupleD (C_law_story_3)))))))))))
def C_law_first_1 : FE := eLc (iRng1 (e1 lenD (eV 0))) [4] (gN 4) (tB (e2 notInD (eV 4) (eV 1))) (eV 4)
def C_law_first_2 : FE := eLc (iSeq (eV 1)) [4] (gN 4) (tB (e2 eqD (e2 ixD (e2 ixD (eV 0) (eV 4)) (eC (.int (0)))) (eC (.str "write")))) (e2 ixD (e2 ixD (eV 0) (eV 4)) (eC (.int (1))))
def C_law_first_3 : FE := eLc (iSeq (eV 2)) [11] (gN 11) (tB (e2 ltD (e2 ixD (e2 ixD (eV 0) (eV 11)) (eC (.int (3)))) (eV 7))) (eV 11)
def B_law_first_1 (rec : List PyData → R PyData) : FS := sSeq (sTup [5, 6, 7, 8] (e2 ixD (eV 0) (eV 4))) (sSeq (sSet 9 (C_law_first_3)) (sIf (tAndF (tB (e2 eqD (eV 9) (eLs (aN)))) (tOrF (tB (e2 eqD (eV 5) (eC (.str "write")))) (tB (e2 eqD (eV 6) (e2 ixD (eV 3) (e1 negD (eC (.int (1))))))))) (sSeq (sSet 10 (eCall 2 rec (aC (eV 0) (aC (e2 opAdd (eV 1) (eT (aC (eV 4) (aN)))) (aN))))) (sIf (tB (e2 isNotD (eV 10) (eC .none))) (sRet (eV 10)) (sNil))) (sNil)))
def F_law_first : Nat → List PyData → R PyData
  | 0 => fun _ => .bad
  | n + 1 => runF 12 (sSeq (sIf (tB (e2 eqD (e1 lenD (eV 1)) (e1 lenD (eV 0)))) (sRet (eV 1)) (sNil)) (sSeq (sSet 2 (C_law_first_1)) (sSeq (sSet 3 (e2 opAdd (eLs (aC (eC (.int (0))) (aN))) (C_law_first_2))) (sSeq (sFor (iSeq (eV 2)) (gN 4) ((B_law_first_1 (F_law_first n)))) (sRet (eC .none))))))
def C_before_pairs_1 : FE := eLc (iEnum (eV 0)) [4, 5] (gT [4, 5]) (tV (eCall 2 F_precedes (aC (eV 3) (aC (eV 5) (aN))))) (eT (aC (eV 2) (aC (eV 4) (aN))))
def B_before_pairs_1 : FS := sExt 1 (C_before_pairs_1)
def F_before_pairs : List PyData → R PyData := runF 6 (sSeq (sOwn 1 (eLs (aN))) (sSeq (sFor (iEnum (eV 0)) (gT [2, 3]) (B_before_pairs_1)) (sRet (e1 sortD (eL 1)))))
def F_preceding : List PyData → R PyData := runF 1 (sSeq (sExpr (eCall 1 F_check_story (aC (eV 0) (aN)))) (sRet (eCall 1 F_before_pairs (aC (eV 0) (aN)))))
def C_explains_story_1 : FE := eLc (iSeq (eV 1)) [2] (gN 2) (tNotF (tV (eCall 3 F_in_range (aC (eV 2) (aC (eC (.int (0))) (aC (e2 opSub (e1 lenD (eV 0)) (eC (.int (1)))) (aN))))))) (eV 2)
def C_explains_story_2 : FE := eLc (iEnum (eV 1)) [3, 4] (gT [3, 4]) (tNotF (tV (eCall 3 F_may_follow (aC (eV 0) (aC (eSl (eV 1) (oN) (oS (eV 3))) (aC (eV 4) (aN))))))) (eC (.int (1)))
def F_explains_story : List PyData → R PyData := runF 5 (sSeq (sIf (tOrF (tNotF (tV (e1 (isiD isiTup) (eV 1)))) (tV (C_explains_story_1))) (sRet (eC (.bool false))) (sNil)) (sSeq (sIf (tB (e2 neD (e1 sortD (eV 1)) (eLRng1 (e1 lenD (eV 0))))) (sRet (eC (.bool false))) (sNil)) (sRet (eNotT (C_explains_story_2)))))
def F_explains : List PyData → R PyData := runF 2 (sSeq (sExpr (eCall 1 F_check_story (aC (eV 0) (aN)))) (sRet (eCall 2 F_explains_story (aC (eV 0) (aC (eV 1) (aN))))))
def F_law_whole : List PyData → R PyData := runF 1 (sRet (eAnd (e1 (isiD isiInt) (eV 0)) (eNot (e1 (isiD isiBool) (eV 0)))))
def F_law_in : List PyData → R PyData := runF 3 (sRet (eAnd (eCall 1 F_law_whole (aC (eV 0) (aN))) (eChain leD leD (eV 1) (eV 0) (eV 2))))
def C_law_explains_1 : FE := eLc (iSeq (eV 1)) [5] (gN 5) (tNotF (tV (eCall 3 F_law_in (aC (eV 5) (aC (eC (.int (0))) (aC (e2 opSub (e1 lenD (eV 0)) (eC (.int (1)))) (aN))))))) (eV 5)
def C_law_explains_2 : FE := eLc (iSeq (eSl (eV 1) (oS (e2 opAdd (eV 3) (eC (.int (1))))) (oN))) [5] (gN 5) (tB (e2 ltD (e2 ixD (e2 ixD (eV 0) (eV 5)) (eC (.int (3)))) (e2 ixD (eV 4) (eC (.int (2)))))) (eV 5)
def B_law_explains_1 : FS := sSeq (sSet 4 (e2 ixD (eV 0) (e2 ixD (eV 1) (eV 3)))) (sSeq (sIf (tB (e2 neD (C_law_explains_2) (eLs (aN)))) (sRet (eC (.bool false))) (sNil)) (sIf (tB (e2 eqD (e2 ixD (eV 4) (eC (.int (0)))) (eC (.str "write")))) (sSet 2 (e2 ixD (eV 4) (eC (.int (1))))) (sIf (tB (e2 neD (e2 ixD (eV 4) (eC (.int (1)))) (eV 2))) (sRet (eC (.bool false))) (sNil))))
def F_law_explains : List PyData → R PyData := runF 6 (sSeq (sIf (tOrF (tNotF (tV (e1 (isiD isiTup) (eV 1)))) (tB (e2 neD (C_law_explains_1) (eLs (aN))))) (sRet (eC (.bool false))) (sNil)) (sSeq (sIf (tB (e2 neD (e1 sortD (eV 1)) (eLRng1 (e1 lenD (eV 0))))) (sRet (eC (.bool false))) (sNil)) (sSeq (sSet 2 (eC (.int (0)))) (sSeq (sFor (iRng1 (e1 lenD (eV 1))) (gN 3) (B_law_explains_1)) (sRet (eC (.bool true)))))))
def F_all_explanations : List PyData → R PyData := runF 1 (sSeq (sExpr (eCall 1 F_check_story (aC (eV 0) (aN)))) (sRet (eCall 2 F_explanations_of (aC (eV 0) (aC (eC (.int (720))) (aN))))))
def C_sure_pairs_1 : FE := eLc (iSeq (eV 1)) [5] (gN 5) (tB (e2 gtD (eIdx (eV 5) (eV 3)) (eIdx (eV 5) (eV 4)))) (eV 5)
def B_sure_pairs_1 : FS := sIf (tAndF (tB (e2 neD (eV 3) (eV 4))) (tNotF (tV (C_sure_pairs_1)))) (sApp 2 (eT (aC (eV 3) (aC (eV 4) (aN))))) (sNil)
def B_sure_pairs_2 : FS := sFor (iRng1 (e1 lenD (eV 0))) (gN 4) (B_sure_pairs_1)
def F_sure_pairs : List PyData → R PyData := runF 6 (sSeq (sExpr (eCall 1 F_check_story (aC (eV 0) (aN)))) (sSeq (sSet 1 (eCall 2 F_explanations_of (aC (eV 0) (aC (eC (.int (720))) (aN))))) (sSeq (sIf (tNotF (tV (eV 1))) (sRaise "NoExplanation") (sNil)) (sSeq (sOwn 2 (eLs (aN))) (sSeq (sFor (iRng1 (e1 lenD (eV 0))) (gN 3) (B_sure_pairs_2)) (sRet (eL 2)))))))
def C_places_1 : FE := eLc (iSeq (eV 1)) [5] (gN 5) (tTrue) (eIdx (eV 5) (eV 3))
def B_places_1 : FS := sSeq (sSet 4 (C_places_1)) (sApp 2 (eT (aC (e1 minD (eV 4)) (aC (e1 maxD (eV 4)) (aN)))))
def F_places : List PyData → R PyData := runF 6 (sSeq (sExpr (eCall 1 F_check_story (aC (eV 0) (aN)))) (sSeq (sSet 1 (eCall 2 F_explanations_of (aC (eV 0) (aC (eC (.int (720))) (aN))))) (sSeq (sIf (tNotF (tV (eV 1))) (sRaise "NoExplanation") (sNil)) (sSeq (sOwn 2 (eLs (aN))) (sSeq (sFor (iRng1 (e1 lenD (eV 0))) (gN 3) (B_places_1)) (sRet (eL 2)))))))
def F_can_explain : List PyData → R PyData := runF 1 (sSeq (sExpr (eCall 1 F_check_story (aC (eV 0) (aN)))) (sRet (e2 neD (eCall 2 F_explanations_of (aC (eV 0) (aC (eC (.int (1))) (aN)))) (eLs (aN)))))
def C_law_moved_1 : FE := eLc (iSeq (eV 0)) [3, 4, 5, 6] (gT [3, 4, 5, 6]) (tTrue) (eT (aC (eV 3) (aC (eV 4) (aC (e2 opAdd (eV 1) (e2 opMul (eV 2) (eV 5))) (aC (e2 opAdd (eV 1) (e2 opMul (eV 2) (eV 6))) (aN))))))
def F_law_moved : List PyData → R PyData := runF 7 (sRet (e1 tupleD (C_law_moved_1)))
def C_law_every_1 : FE := eLc (iSeq (eV 4)) [7] (gN 7) (tB (e2 eqD (e2 ixD (e2 ixD (eV 0) (eV 7)) (eC (.int (0)))) (eC (.str "write")))) (e2 ixD (e2 ixD (eV 0) (eV 7)) (eC (.int (1))))
def C_law_every_2 : FE := eLc (iRng1 (e1 lenD (eV 0))) [7] (gN 7) (tB (e2 notInD (eV 7) (eV 4))) (eV 7)
def C_law_every_3 : FE := eLc (iSeq (eV 6)) [12] (gN 12) (tB (e2 ltD (e2 ixD (e2 ixD (eV 0) (eV 12)) (eC (.int (3)))) (eV 10))) (eV 12)
def B_law_every_1 : FS := sSeq (sTup [8, 9, 10, 11] (e2 ixD (eV 0) (eV 7))) (sIf (tAndF (tB (e2 eqD (C_law_every_3) (eLs (aN)))) (tOrF (tB (e2 eqD (eV 8) (eC (.str "write")))) (tB (e2 eqD (eV 9) (e2 ixD (eV 5) (e1 negD (eC (.int (1))))))))) (sApp 3 (e2 opAdd (eV 4) (eT (aC (eV 7) (aN))))) (sNil))
def B_law_every_2 : FS := sSeq (sSet 5 (e2 opAdd (eLs (aC (eC (.int (0))) (aN))) (C_law_every_1))) (sSeq (sSet 6 (C_law_every_2)) (sFor (iSeq (eV 6)) (gN 7) (B_law_every_1)))
def B_law_every_3 : FS := sSeq (sOwn 3 (eLs (aN))) (sSeq (sFor (iSeq (eV 1)) (gN 4) (B_law_every_2)) (sSeq (sFrz 3) (sSet 1 (eV 3))))
def F_law_every : List PyData → R PyData := runF 13 (sSeq (sSet 1 (eLs (aC (eT (aN)) (aN)))) (sSeq (sFor (iRng1 (e1 lenD (eV 0))) (gN 2) (B_law_every_3)) (sRet (eV 1))))
def C_check_answers_1 : FE := eLc (iSeq (eSl (eV 2) (oN) (oS (eC (.int (2)))))) [3] (gN 3) (tNotF (tV (eCall 3 F_in_range (aC (eV 3) (aC (eC (.int (0))) (aC (e2 opSub (e1 lenD (eV 0)) (eC (.int (1)))) (aN))))))) (eV 3)
def B_check_answers_1 : FS := sSeq (sIf (tOrF (tNotF (tV (e1 (isiD isiTup) (eV 2)))) (tOrF (tB (e2 neD (e1 lenD (eV 2)) (eC (.int (3))))) (tNotF (tV (e1 (isiD isiBool) (e2 ixD (eV 2) (eC (.int (2))))))))) (sRaise "InvalidAnswers") (sNil)) (sIf (tOrF (tV (C_check_answers_1)) (tB (e2 eqD (e2 ixD (eV 2) (eC (.int (0)))) (e2 ixD (eV 2) (eC (.int (1))))))) (sRaise "InvalidAnswers") (sNil))
def F_check_answers : List PyData → R PyData := runF 4 (sSeq (sExpr (eCall 1 F_check_story (aC (eV 0) (aN)))) (sSeq (sIf (tNotF (tV (eCall 2 F_explanations_of (aC (eV 0) (aC (eC (.int (1))) (aN)))))) (sRaise "NoExplanation") (sNil)) (sSeq (sIf (tNotF (tV (e1 (isiD isiTup) (eV 1)))) (sRaise "InvalidAnswers") (sNil)) (sFor (iSeq (eV 1)) (gN 2) (B_check_answers_1)))))
def C_candidates_1 : FE := eLc (iSeq (eV 1)) [4, 5, 6] (gT [4, 5, 6]) (tB (e2 neD (e2 ltD (eIdx (eV 3) (eV 4)) (eIdx (eV 3) (eV 5))) (eV 6))) (eV 4)
def B_candidates_1 : FS := sIf (tNotF (tV (C_candidates_1))) (sApp 2 (eV 3)) (sNil)
def F_candidates : List PyData → R PyData := runF 7 (sSeq (sExpr (eCall 2 F_check_answers (aC (eV 0) (aC (eV 1) (aN))))) (sSeq (sOwn 2 (eLs (aN))) (sSeq (sFor (iSeq (eCall 2 F_explanations_of (aC (eV 0) (aC (eC (.int (720))) (aN))))) (gN 3) (B_candidates_1)) (sRet (eL 2)))))
def C_best_pair_1 : FE := eLc (iSeq (eV 2)) [8] (gN 8) (tB (e2 ltD (eIdx (eV 8) (eV 4)) (eIdx (eV 8) (eV 5)))) (eV 8)
def B_best_pair_1 : FS := sSeq (sSet 6 (e1 lenD (C_best_pair_1))) (sSeq (sSet 7 (e2 max2D (eV 6) (e2 opSub (e1 lenD (eV 2)) (eV 6)))) (sIf (tAndF (tB (e2 ltD (eV 7) (e1 lenD (eV 2)))) (tOrF (tB (e2 isD (eV 3) (eC .none))) (tB (e2 ltD (eV 7) (e2 ixD (eV 3) (eC (.int (0)))))))) (sSet 3 (eT (aC (eV 7) (aC (eT (aC (eV 4) (aC (eV 5) (aN)))) (aN))))) (sNil)))
def B_best_pair_2 : FS := sFor (iRng2 (e2 opAdd (eV 4) (eC (.int (1)))) (e1 lenD (eV 0))) (gN 5) (B_best_pair_1)
def F_best_pair : List PyData → R PyData := runF 9 (sSeq (sSet 2 (eCall 2 F_candidates (aC (eV 0) (aC (eV 1) (aN))))) (sSeq (sIf (tNotF (tV (eV 2))) (sRaise "InvalidAnswers") (sNil)) (sSeq (sSet 3 (eC .none)) (sSeq (sFor (iRng1 (e1 lenD (eV 0))) (gN 4) (B_best_pair_2)) (sRet (eIf (tB (e2 isD (eV 3) (eC .none))) (eC .none) (e2 ixD (eV 3) (eC (.int (1))))))))))
def C_law_best_1 : FE := eLc (iSeq (eV 1)) [7] (gN 7) (tB (e2 ltD (eIdx (eV 7) (eV 3)) (eIdx (eV 7) (eV 4)))) (eV 7)
def B_law_best_1 : FS := sSeq (sSet 5 (e1 lenD (C_law_best_1))) (sSeq (sSet 6 (e2 max2D (eV 5) (e2 opSub (e1 lenD (eV 1)) (eV 5)))) (sIf (tAndF (tB (e2 ltD (eV 6) (e1 lenD (eV 1)))) (tOrF (tB (e2 isD (eV 2) (eC .none))) (tB (e2 ltD (eV 6) (e2 ixD (eV 2) (eC (.int (0)))))))) (sSet 2 (eT (aC (eV 6) (aC (eT (aC (eV 3) (aC (eV 4) (aN)))) (aN))))) (sNil)))
def B_law_best_2 : FS := sFor (iRng2 (e2 opAdd (eV 3) (eC (.int (1)))) (eV 0)) (gN 4) (B_law_best_1)
def F_law_best : List PyData → R PyData := runF 8 (sSeq (sIf (tB (e2 eqD (eV 1) (eLs (aN)))) (sRet (eC (.str "answers"))) (sNil)) (sSeq (sSet 2 (eC .none)) (sSeq (sFor (iRng1 (eV 0)) (gN 3) (B_law_best_2)) (sRet (eIf (tB (e2 isD (eV 2) (eC .none))) (eC .none) (e2 ixD (eV 2) (eC (.int (1)))))))))
def C_values_of_1 : FE := eLc (iSeq (eV 0)) [1] (gN 1) (tB (e2 eqD (e2 ixD (eV 1) (eC (.int (0)))) (eC (.str "write")))) (e2 ixD (eV 1) (eC (.int (1))))
def F_values_of : List PyData → R PyData := runF 2 (sRet (e2 opAdd (eLs (aC (eC (.int (0))) (aN))) (e1 sortD (C_values_of_1))))
def C_early_of_1 : FE := eLc (iSeq (eV 0)) [5] (gN 5) (tAndF (tB (e2 eqD (e2 ixD (eV 5) (eC (.int (0)))) (eC (.str "write")))) (tB (e2 eqD (e2 ixD (eV 5) (eC (.int (1)))) (e2 ixD (eV 3) (eC (.int (1))))))) (e2 ixD (eV 5) (eC (.int (2))))
def B_early_of_1 : FS := sIf (tAndF (tB (e2 eqD (e2 ixD (eV 3) (eC (.int (0)))) (eC (.str "read")))) (tB (e2 gtD (e2 ixD (eV 3) (eC (.int (1)))) (eC (.int (0)))))) (sSeq (sSet 4 (C_early_of_1)) (sIf (tOrF (tNotF (tV (eV 4))) (tB (e2 ltD (e2 ixD (eV 3) (eC (.int (3)))) (e2 ixD (eV 4) (eC (.int (0))))))) (sApp 1 (eV 2)) (sNil))) (sNil)
def F_early_of : List PyData → R PyData := runF 6 (sSeq (sOwn 1 (eLs (aN))) (sSeq (sFor (iEnum (eV 0)) (gT [2, 3]) (B_early_of_1)) (sRet (eL 1))))
def C_zone_of_1 : FE := eLc (iSeq (eV 0)) [5] (gN 5) (tB (e2 eqD (e2 ixD (eV 5) (eC (.int (1)))) (eV 1))) (eV 5)
def C_zone_of_2 : FE := eLc (iSeq (eV 2)) [5] (gN 5) (tTrue) (e2 ixD (eV 5) (eC (.int (3))))
def C_zone_of_3 : FE := eLc (iSeq (eV 2)) [5] (gN 5) (tTrue) (e2 ixD (eV 5) (eC (.int (2))))
def F_zone_of : List PyData → R PyData := runF 6 (sSeq (sSet 2 (C_zone_of_1)) (sSeq (sSet 3 (e2 opAdd (C_zone_of_2) (eIf (tB (e2 eqD (eV 1) (eC (.int (0))))) (eLs (aC (e1 negD (eC (.int (1)))) (aN))) (eLs (aN))))) (sSeq (sSet 4 (e2 opAdd (C_zone_of_3) (eIf (tB (e2 eqD (eV 1) (eC (.int (0))))) (eLs (aC (e1 negD (eC (.int (2)))) (aN))) (eLs (aN))))) (sRet (eT (aC (e1 minD (eV 3)) (aC (e1 maxD (eV 4)) (aN))))))))
def F_forbid : List PyData → R PyData := runF 8 (sSeq (sTup [4, 5] (eCall 2 F_zone_of (aC (eV 0) (aC (eV 2) (aN))))) (sSeq (sTup [6, 7] (eCall 2 F_zone_of (aC (eV 0) (aC (eV 3) (aN))))) (sSeq (sIf (tB (e2 eqD (eV 1) (eC (.str "cross")))) (sRet (eAnd (e2 ltD (eV 4) (eV 5)) (eAnd (e2 ltD (eV 6) (eV 7)) (eAnd (e2 ltD (eV 4) (eV 7)) (e2 ltD (eV 6) (eV 5)))))) (sNil)) (sRet (eAnd (e2 gtD (eV 4) (eV 5)) (eAnd (e2 ltD (eV 6) (eV 7)) (eAnd (e2 ltD (eV 6) (eV 5)) (e2 ltD (eV 4) (eV 7)))))))))
def B_paper_of_1 : FS := sIf (tAndF (tB (e2 neD (eV 4) (eV 5))) (tV (eCall 4 F_forbid (aC (eV 0) (aC (eV 3) (aC (eV 4) (aC (eV 5) (aN)))))))) (sRet (eT (aC (eV 3) (aC (eV 4) (aC (eV 5) (aN)))))) (sNil)
def B_paper_of_2 : FS := sFor (iSeq (eV 2)) (gN 5) (B_paper_of_1)
def B_paper_of_3 : FS := sFor (iSeq (eV 2)) (gN 4) (B_paper_of_2)
def F_paper_of : List PyData → R PyData := runF 6 (sSeq (sSet 1 (eCall 1 F_early_of (aC (eV 0) (aN)))) (sSeq (sIf (tV (eV 1)) (sRet (eT (aC (eC (.str "early")) (aC (e2 ixD (eV 1) (eC (.int (0)))) (aN))))) (sNil)) (sSeq (sSet 2 (eCall 1 F_values_of (aC (eV 0) (aN)))) (sSeq (sFor (iSeq (eT (aC (eC (.str "cross")) (aC (eC (.str "inside")) (aN))))) (gN 3) (B_paper_of_3)) (sRet (eC .none))))))
def F_explanation : List PyData → R PyData := runF 2 (sSeq (sExpr (eCall 1 F_check_story (aC (eV 0) (aN)))) (sSeq (sSet 1 (eCall 2 F_explanations_of (aC (eV 0) (aC (eC (.int (1))) (aN))))) (sSeq (sIf (tNotF (tV (eV 1))) (sRaise "NoExplanation") (sNil)) (sRet (e2 ixD (eV 1) (eC (.int (0))))))))
def F_paper : List PyData → R PyData := runF 2 (sSeq (sExpr (eCall 1 F_check_story (aC (eV 0) (aN)))) (sSeq (sSet 1 (eCall 1 F_paper_of (aC (eV 0) (aN)))) (sSeq (sIf (tB (e2 isD (eV 1) (eC .none))) (sRaise "Explained") (sNil)) (sRet (eV 1)))))
def C_with_operation_1 : FE := eLc (iSeq (e2 opAdd (eV 0) (eT (aC (eV 1) (aN))))) [3] (gN 3) (tTrue) (eT (aC (e2 ixD (eV 3) (eC (.int (2)))) (aC (eV 3) (aN))))
def C_with_operation_2 : FE := eLc (iSeq (eV 2)) [4, 3] (gT [4, 3]) (tTrue) (eV 3)
def F_with_operation : List PyData → R PyData := runF 5 (sSeq (sSet 2 (e1 sortD (C_with_operation_1))) (sRet (e1 tupleD (C_with_operation_2))))
def C_possible_values_1 : FE := eLc (iRng1 (eC (.int (10)))) [3] (gN 3) (tV (eCall 2 F_explanations_of (aC (eCall 2 F_with_operation (aC (eV 0) (aC (eT (aC (eC (.str "read")) (aC (eV 3) (aC (eV 1) (aC (eV 2) (aN)))))) (aN)))) (aC (eC (.int (1))) (aN))))) (eV 3)
def F_possible_values : List PyData → R PyData := runF 4 (sSeq (sExpr (eCall 1 F_check_story (aC (eV 0) (aN)))) (sSeq (sIf (tOrF (tNotF (tV (eCall 3 F_in_range (aC (eV 1) (aC (eC (.int (0))) (aC (eC (.int (99))) (aN))))))) (tNotF (tV (eCall 3 F_in_range (aC (eV 2) (aC (e2 opAdd (eV 1) (eC (.int (1)))) (aC (eC (.int (99))) (aN)))))))) (sRaise "InvalidNumber") (sNil)) (sSeq (sIf (tNotF (tV (eCall 1 F_is_story (aC (eCall 2 F_with_operation (aC (eV 0) (aC (eT (aC (eC (.str "read")) (aC (eC (.int (0))) (aC (eV 1) (aC (eV 2) (aN)))))) (aN)))) (aN))))) (sRaise "InvalidOperation") (sNil)) (sRet (C_possible_values_1)))))
def C_is_paper_1 : FE := eLc (iSeq (eSl (eV 1) (oS (eC (.int (1)))) (oN))) [3] (gN 3) (tNotF (tV (eCall 3 F_in_range (aC (eV 3) (aC (eC (.int (0))) (aC (eC (.int (9))) (aN))))))) (eV 3)
def F_is_paper : List PyData → R PyData := runF 4 (sSeq (sExpr (eCall 1 F_check_story (aC (eV 0) (aN)))) (sSeq (sIf (tOrF (tNotF (tV (e1 (isiD isiTup) (eV 1)))) (tOrF (tNotF (tV (eV 1))) (tNotF (tV (e1 (isiD isiStr) (e2 ixD (eV 1) (eC (.int (0))))))))) (sRet (eC (.bool false))) (sNil)) (sSeq (sIf (tV (C_is_paper_1)) (sRet (eC (.bool false))) (sNil)) (sSeq (sIf (tB (e2 eqD (e2 ixD (eV 1) (eC (.int (0)))) (eC (.str "early")))) (sRet (eAnd (e2 eqD (e1 lenD (eV 1)) (eC (.int (2)))) (e2 inD (e2 ixD (eV 1) (eC (.int (1)))) (eCall 1 F_early_of (aC (eV 0) (aN)))))) (sNil)) (sSeq (sIf (tOrF (tB (e2 notInD (e2 ixD (eV 1) (eC (.int (0)))) (eT (aC (eC (.str "cross")) (aC (eC (.str "inside")) (aN)))))) (tOrF (tB (e2 neD (e1 lenD (eV 1)) (eC (.int (3))))) (tB (e2 eqD (e2 ixD (eV 1) (eC (.int (1)))) (e2 ixD (eV 1) (eC (.int (2)))))))) (sRet (eC (.bool false))) (sNil)) (sSeq (sSet 2 (eCall 1 F_values_of (aC (eV 0) (aN)))) (sRet (eAnd (e2 inD (e2 ixD (eV 1) (eC (.int (1)))) (eV 2)) (eAnd (e2 inD (e2 ixD (eV 1) (eC (.int (2)))) (eV 2)) (eCall 4 F_forbid (aC (eV 0) (aC (e2 ixD (eV 1) (eC (.int (0)))) (aC (e2 ixD (eV 1) (eC (.int (1)))) (aC (e2 ixD (eV 1) (eC (.int (2)))) (aN)))))))))))))))
def C_law_zone_1 : FE := eLc (iSeq (eV 0)) [4] (gN 4) (tB (e2 eqD (e2 ixD (eV 4) (eC (.int (1)))) (eV 1))) (e2 ixD (eV 4) (eC (.int (3))))
def C_law_zone_2 : FE := eLc (iSeq (eV 0)) [4] (gN 4) (tB (e2 eqD (e2 ixD (eV 4) (eC (.int (1)))) (eV 1))) (e2 ixD (eV 4) (eC (.int (2))))
def F_law_zone : List PyData → R PyData := runF 5 (sSeq (sSet 2 (e2 opAdd (C_law_zone_1) (e2 opMul (eLs (aC (e1 negD (eC (.int (1)))) (aN))) (e1 intD (e2 eqD (eV 1) (eC (.int (0)))))))) (sSeq (sSet 3 (e2 opAdd (C_law_zone_2) (e2 opMul (eLs (aC (e1 negD (eC (.int (2)))) (aN))) (e1 intD (e2 eqD (eV 1) (eC (.int (0)))))))) (sRet (eT (aC (e1 minD (eV 2)) (aC (e1 maxD (eV 3)) (aN)))))))
def C_law_values_1 : FE := eLc (iSeq (eV 0)) [1] (gN 1) (tB (e2 eqD (e2 ixD (eV 1) (eC (.int (0)))) (eC (.str "write")))) (e2 ixD (eV 1) (eC (.int (1))))
def F_law_values : List PyData → R PyData := runF 2 (sRet (e2 opAdd (eLs (aC (eC (.int (0))) (aN))) (e1 sortD (C_law_values_1))))
def C_law_is_paper_1 : FE := eLc (iSeq (eSl (eV 1) (oS (eC (.int (1)))) (oN))) [4] (gN 4) (tNotF (tV (eCall 3 F_law_in (aC (eV 4) (aC (eC (.int (0))) (aC (eC (.int (9))) (aN))))))) (eV 4)
def C_law_is_paper_2 : FE := eLc (iSeq (eV 0)) [4] (gN 4) (tAndF (tB (e2 eqD (e2 ixD (eV 4) (eC (.int (0)))) (eC (.str "write")))) (tB (e2 eqD (e2 ixD (eV 4) (eC (.int (1)))) (e2 ixD (e2 ixD (eV 0) (e2 ixD (eV 1) (eC (.int (1))))) (eC (.int (1))))))) (e2 ixD (eV 4) (eC (.int (2))))
def F_law_is_paper : List PyData → R PyData := runF 6 (sSeq (sIf (tOrF (tNotF (tV (e1 (isiD isiTup) (eV 1)))) (tOrF (tB (e2 eqD (eV 1) (eT (aN)))) (tB (e2 notInD (e2 ixD (eV 1) (eC (.int (0)))) (eT (aC (eC (.str "early")) (aC (eC (.str "cross")) (aC (eC (.str "inside")) (aN))))))))) (sRet (eC (.bool false))) (sNil)) (sSeq (sIf (tB (e2 neD (C_law_is_paper_1) (eLs (aN)))) (sRet (eC (.bool false))) (sNil)) (sSeq (sIf (tB (e2 eqD (e2 ixD (eV 1) (eC (.int (0)))) (eC (.str "early")))) (sSeq (sIf (tOrF (tB (e2 neD (e1 lenD (eV 1)) (eC (.int (2))))) (tOrF (tB (e2 geD (e2 ixD (eV 1) (eC (.int (1)))) (e1 lenD (eV 0)))) (tOrF (tB (e2 eqD (e2 ixD (e2 ixD (eV 0) (e2 ixD (eV 1) (eC (.int (1))))) (eC (.int (0)))) (eC (.str "write")))) (tB (e2 eqD (e2 ixD (e2 ixD (eV 0) (e2 ixD (eV 1) (eC (.int (1))))) (eC (.int (1)))) (eC (.int (0)))))))) (sRet (eC (.bool false))) (sNil)) (sSeq (sSet 2 (C_law_is_paper_2)) (sRet (eOr (e2 eqD (eV 2) (eLs (aN))) (e2 gtD (e2 ixD (eV 2) (eC (.int (0)))) (e2 ixD (e2 ixD (eV 0) (e2 ixD (eV 1) (eC (.int (1))))) (eC (.int (3))))))))) (sNil)) (sSeq (sSet 3 (eCall 1 F_law_values (aC (eV 0) (aN)))) (sSeq (sIf (tOrF (tB (e2 neD (e1 lenD (eV 1)) (eC (.int (3))))) (tOrF (tB (e2 eqD (e2 ixD (eV 1) (eC (.int (1)))) (e2 ixD (eV 1) (eC (.int (2)))))) (tOrF (tB (e2 notInD (e2 ixD (eV 1) (eC (.int (1)))) (eV 3))) (tB (e2 notInD (e2 ixD (eV 1) (eC (.int (2)))) (eV 3)))))) (sRet (eC (.bool false))) (sNil)) (sSeq (sMix [4, 5] (mS (eCall 2 F_law_zone (aC (eV 0) (aC (e2 ixD (eV 1) (eC (.int (1)))) (aN)))) (mS (eCall 2 F_law_zone (aC (eV 0) (aC (e2 ixD (eV 1) (eC (.int (2)))) (aN)))) (mN)))) (sSeq (sIf (tOrF (tB (e2 gtD (e2 ixD (eV 5) (eC (.int (0)))) (e2 ixD (eV 5) (eC (.int (1)))))) (tOrF (tB (e2 gtD (e2 ixD (eV 4) (eC (.int (0)))) (e2 ixD (eV 5) (eC (.int (1)))))) (tB (e2 gtD (e2 ixD (eV 5) (eC (.int (0)))) (e2 ixD (eV 4) (eC (.int (1)))))))) (sRet (eC (.bool false))) (sNil)) (sRet (e2 eqD (e2 ltD (e2 ixD (eV 4) (eC (.int (0)))) (e2 ixD (eV 4) (eC (.int (1))))) (e2 eqD (e2 ixD (eV 1) (eC (.int (0)))) (eC (.str "cross"))))))))))))
def B_zones_1 : FS := sSeq (sTup [3, 4] (eCall 2 F_zone_of (aC (eV 0) (aC (eV 2) (aN))))) (sApp 1 (eT (aC (eV 2) (aC (eV 3) (aC (eV 4) (aN))))))
def F_zones : List PyData → R PyData := runF 5 (sSeq (sExpr (eCall 1 F_check_story (aC (eV 0) (aN)))) (sSeq (sOwn 1 (eLs (aN))) (sSeq (sFor (iSeq (eCall 1 F_values_of (aC (eV 0) (aN)))) (gN 2) (B_zones_1)) (sRet (eL 1)))))
end CP
namespace CP
open PySem L2
@[simp] theorem bind_ok' {α β : Type} (a : α) (k : α → R β) : (R.ok a).bind k = k a := rfl
@[simp] theorem bind_bad' {α β : Type} (k : α → R β) : (R.bad : R α).bind k = .bad := rfl
@[simp] theorem bind_exc' {α β : Type} (c : Ex) (k : α → R β) : (R.exc c : R α).bind k = .exc c := rfl
structure Sh (n : Nat) (d : PyData) : Prop where
  lay : d.canLay0 = true
  dep : d.depth ≤ n
theorem canLayAll_iff : ∀ xs : List PyData, PyData.canLayAll0 xs = true ↔ ∀ d ∈ xs, d.canLay0 = true
  | [] => by simp [PyData.canLayAll0]
  | x :: xs => by simp [PyData.canLayAll0, canLayAll_iff xs]
theorem depthAll_le {n : Nat} : ∀ xs : List PyData, (∀ d ∈ xs, d.depth ≤ n) → PyData.depthAll xs ≤ n
  | [], _ => by simp [PyData.depthAll]
  | x :: xs, h => by
    simp only [PyData.depthAll]
    have h1 := h x (by simp)
    have h2 := depthAll_le xs fun d hd => h d (by simp [hd])
    omega
theorem Sh.list {n : Nat} {xs : List PyData} (h : ∀ d ∈ xs, Sh n d) : Sh (n + 1) (.list xs) :=
  ⟨by simp only [PyData.canLay0]; exact (canLayAll_iff xs).mpr fun d hd => (h d hd).lay, by simp only [PyData.depth]; have := depthAll_le xs fun d hd => (h d hd).dep; omega⟩
theorem Sh.tup {n : Nat} {xs : List PyData} (h : ∀ d ∈ xs, Sh n d) : Sh (n + 1) (.tuple xs) :=
  ⟨by simp only [PyData.canLay0]; exact (canLayAll_iff xs).mpr fun d hd => (h d hd).lay, by simp only [PyData.depth]; have := depthAll_le xs fun d hd => (h d hd).dep; omega⟩
theorem Sh.int (n : Nat) (i : Int) : Sh n (.int i) := ⟨by simp [PyData.canLay0], by simp [PyData.depth]⟩
theorem Sh.bool (n : Nat) (i : Bool) : Sh n (.bool i) := ⟨by simp [PyData.canLay0], by simp [PyData.depth]⟩
theorem Sh.none (n : Nat) : Sh n .none := ⟨by simp [PyData.canLay0], by simp [PyData.depth]⟩
theorem Sh.str (n : Nat) {x : Str} (h : PyData.strOk x = true) : Sh n (.str x) := ⟨by simpa [PyData.canLay0] using h, by simp [PyData.depth]⟩
theorem Sh.mono {m n : Nat} {d : PyData} (h : Sh m d) (hm : m ≤ n) : Sh n d := ⟨h.lay, Nat.le_trans h.dep hm⟩
theorem Sh.shaped {n : Nat} {d : PyData} (h : Sh n d) (hn : n ≤ 64) : SeqAt.shaped d = true := by
  unfold SeqAt.shaped
  rw [h.lay, decide_eq_true (Nat.le_trans h.dep hn)]
  rfl
structure Enc {α : Type} [DecidableEq α] (n : Nat) (f : α → PyData) : Prop where
  sh : ∀ x, Sh n (f x)
  eq : ∀ x y, PyData.eqv (f x) (f y) = decide (x = y)
section
variable {α : Type} [DecidableEq α] {n : Nat} {f : α → PyData}
theorem Enc.eqvAll (E : Enc n f) : ∀ xs ys : List α, PyData.eqvAll (xs.map f) (ys.map f) = decide (xs = ys)
  | [], [] => by simp [PyData.eqvAll]
  | [], _ :: _ => by simp [PyData.eqvAll]
  | _ :: _, [] => by simp [PyData.eqvAll]
  | x :: xs, y :: ys => by
    simp only [List.map_cons, PyData.eqvAll, E.eq, E.eqvAll xs ys, List.cons.injEq, Bool.decide_and]
theorem Enc.list (E : Enc n f) : Enc (n + 1) (fun xs : List α => PyData.list (xs.map f)) :=
  ⟨fun xs => Sh.list fun d hd => by obtain ⟨x, _, rfl⟩ := List.mem_map.mp hd; exact E.sh x, fun xs ys => by simp only [PyData.eqv]; exact E.eqvAll xs ys⟩
theorem Enc.tup (E : Enc n f) : Enc (n + 1) (fun xs : List α => PyData.tuple (xs.map f)) :=
  ⟨fun xs => Sh.tup fun d hd => by obtain ⟨x, _, rfl⟩ := List.mem_map.mp hd; exact E.sh x, fun xs ys => by simp only [PyData.eqv]; exact E.eqvAll xs ys⟩
theorem Enc.eqD (E : Enc n f) (hn : n ≤ 64) (x y : α) : CP.eqD (f x) (f y) = .ok (.bool (decide (x = y))) := by
  unfold CP.eqD
  rw [(E.sh x).shaped hn, (E.sh y).shaped hn, E.eq]
  rfl
theorem Enc.neD (E : Enc n f) (hn : n ≤ 64) (x y : α) : CP.neD (f x) (f y) = .ok (.bool (decide (x ≠ y))) := by
  unfold CP.neD
  rw [(E.sh x).shaped hn, (E.sh y).shaped hn, E.eq]
  simp
theorem Enc.any (E : Enc n f) (xs : List α) (x : α) : anyEq (xs.map f) (f x) = decide (x ∈ xs) := by
  unfold anyEq
  induction xs with
  | nil => simp
  | cons y ys ih =>
    rw [List.map_cons, List.any_cons, ih, E.eq]
    by_cases h : x = y
    · simp [h]
    · have h' : y ≠ x := fun e => h e.symm
      simp [h, h']
theorem Enc.inOk (E : Enc n f) (hn : n ≤ 63) (xs : List α) (x : α) : CP.inOk (xs.map f) (f x) = true := by
  unfold CP.inOk
  rw [(E.sh x).shaped (by omega), (E.list.sh xs).shaped (by omega)]
  rfl
theorem Enc.inL (E : Enc n f) (hn : n ≤ 63) (xs : List α) (x : α) : inD (f x) (.list (xs.map f)) = .ok (.bool (decide (x ∈ xs))) := by
  unfold inD; simp only [E.inOk hn, E.any, if_true]
theorem Enc.inT (E : Enc n f) (hn : n ≤ 63) (xs : List α) (x : α) : inD (f x) (.tuple (xs.map f)) = .ok (.bool (decide (x ∈ xs))) := by
  unfold inD; simp only [E.inOk hn, E.any, if_true]
theorem Enc.notInL (E : Enc n f) (hn : n ≤ 63) (xs : List α) (x : α) : notInD (f x) (.list (xs.map f)) = .ok (.bool (decide (x ∉ xs))) := by
  unfold notInD; simp only [E.inOk hn, E.any, if_true]; simp
theorem Enc.notInT (E : Enc n f) (hn : n ≤ 63) (xs : List α) (x : α) : notInD (f x) (.tuple (xs.map f)) = .ok (.bool (decide (x ∉ xs))) := by
  unfold notInD; simp only [E.inOk hn, E.any, if_true]; simp
end
theorem encI : Enc 0 PyData.int := ⟨fun i => Sh.int 0 i, fun x y => by simp only [PyData.eqv]; by_cases h : x = y <;> simp [h]⟩
abbrev nd (n : Nat) : PyData := .int (n : Nat)
theorem encN : Enc 0 nd := ⟨fun i => Sh.int 0 _, fun x y => by
  simp only [PyData.eqv]
  by_cases h : x = y
  · simp [h]
  · have h' : ¬ (x : Int) = (y : Int) := by omega
    simp [h, h']⟩
abbrev od (o : List Nat) : PyData := .tuple (o.map nd)
theorem encO : Enc 1 od := encN.tup
structure Op where
  w : Bool
  v : Int
  s : Int
  e : Int
deriving DecidableEq, Inhabited
def kd (w : Bool) : Str := if w then "write" else "read"
def Op.d (o : Op) : PyData := .tuple [.str (kd o.w), .int o.v, .int o.s, .int o.e]
abbrev sd (st : List Op) : PyData := .tuple (st.map Op.d)
theorem kd_ok (w : Bool) : PyData.strOk (kd w) = true := by cases w <;> decide +kernel
theorem kd_eq (w w' : Bool) : (kd w == kd w') = decide (w = w') := by cases w <;> cases w' <;> decide +kernel
theorem encP : Enc 1 Op.d := by
  refine ⟨fun o => Sh.tup fun d hd => ?_, fun x y => ?_⟩
  · simp only [List.mem_cons, List.not_mem_nil, or_false] at hd
    rcases hd with rfl | rfl | rfl | rfl
    · exact Sh.str 0 (kd_ok _)
    · exact Sh.int 0 _
    · exact Sh.int 0 _
    · exact Sh.int 0 _
  · obtain ⟨w, v, s, e⟩ := x
    obtain ⟨w', v', s', e'⟩ := y
    simp only [Op.d, PyData.eqv, PyData.eqvAll, Op.mk.injEq, kd_eq, Bool.and_true]
    by_cases h1 : w = w' <;> by_cases h2 : v = v' <;> by_cases h3 : s = s' <;> by_cases h4 : e = e' <;> simp [h1, h2, h3, h4]
theorem encS : Enc 2 sd := encP.tup
def op (st : List Op) (k : Nat) : Op := st.getD k default
theorem op_some {st : List Op} {k : Nat} (h : k < st.length) : st[k]? = some (op st k) := by
  unfold op
  rw [List.getElem?_eq_getElem h, List.getD_eq_getElem?_getD, List.getElem?_eq_getElem h]
  rfl
theorem atI_at {α : Type} {xs : List α} {k : Nat} {x : α} (h : xs[k]? = some x) : atI xs (k : Int) = some x := atI_nat h
theorem ix_tup {xs : List PyData} {k : Nat} {x : PyData} (h : xs[k]? = some x) : ixD (.tuple xs) (nd k) = .ok x := by
  unfold ixD; simp only [atI_at h]
theorem ix_lst {xs : List PyData} {k : Nat} {x : PyData} (h : xs[k]? = some x) : ixD (.list xs) (nd k) = .ok x := by
  unfold ixD; simp only [atI_at h]
theorem ix_sd {st : List Op} {k : Nat} (h : k < st.length) : ixD (sd st) (nd k) = .ok (op st k).d :=
  ix_tup (by rw [List.getElem?_map, op_some h]; rfl)
@[simp] theorem ix_op0 (o : Op) : ixD o.d (.int 0) = .ok (.str (kd o.w)) := rfl
@[simp] theorem ix_op1 (o : Op) : ixD o.d (.int 1) = .ok (.int o.v) := rfl
@[simp] theorem ix_op2 (o : Op) : ixD o.d (.int 2) = .ok (.int o.s) := rfl
@[simp] theorem ix_op3 (o : Op) : ixD o.d (.int 3) = .ok (.int o.e) := rfl
@[simp] theorem eqD_int (a b : Int) : eqD (.int a) (.int b) = .ok (.bool (decide (a = b))) := encI.eqD (by decide) a b
@[simp] theorem neD_int (a b : Int) : neD (.int a) (.int b) = .ok (.bool (decide (a ≠ b))) := encI.neD (by decide) a b
theorem eqD_str {a b : Str} (ha : PyData.strOk a = true) (hb : PyData.strOk b = true) : eqD (.str a) (.str b) = .ok (.bool (a == b)) := by
  unfold eqD
  rw [(Sh.str 0 ha).shaped (by omega), (Sh.str 0 hb).shaped (by omega)]
  simp [PyData.eqv]
theorem kd_w (w : Bool) : (kd w == ("write" : Str)) = w := by cases w <;> decide +kernel
theorem kd_r (w : Bool) : (kd w == ("read" : Str)) = !w := by cases w <;> decide +kernel
@[simp] theorem eqD_kdw (w : Bool) : eqD (.str (kd w)) (.str "write") = .ok (.bool w) := by rw [eqD_str (kd_ok w) (by decide +kernel), kd_w]
@[simp] theorem eqD_kdr (w : Bool) : eqD (.str (kd w)) (.str "read") = .ok (.bool (!w)) := by rw [eqD_str (kd_ok w) (by decide +kernel), kd_r]
@[simp] theorem lenD_tup (xs : List PyData) : lenD (.tuple xs) = .ok (nd xs.length) := rfl
@[simp] theorem lenD_lst (xs : List PyData) : lenD (.list xs) = .ok (nd xs.length) := rfl
@[simp] theorem ltD_int (a b : Int) : ltD (.int a) (.int b) = .ok (.bool (decide (a < b))) := rfl
@[simp] theorem leD_int (a b : Int) : leD (.int a) (.int b) = .ok (.bool (decide (a ≤ b))) := rfl
@[simp] theorem gtD_int (a b : Int) : gtD (.int a) (.int b) = .ok (.bool (decide (b < a))) := rfl
@[simp] theorem geD_int (a b : Int) : geD (.int a) (.int b) = .ok (.bool (decide (b ≤ a))) := rfl
@[simp] theorem asB_bool (b : Bool) : asB (.bool b) = .ok b := rfl
@[simp] theorem truthD_bool (b : Bool) : truthD (.bool b) = .ok b := rfl
@[simp] theorem truthD_lst (xs : List PyData) : truthD (.list xs) = .ok (!xs.isEmpty) := rfl
@[simp] theorem truthD_tup (xs : List PyData) : truthD (.tuple xs) = .ok (!xs.isEmpty) := rfl
@[simp] theorem opAdd_int (a b : Int) : opAdd (.int a) (.int b) = .ok (.int (a + b)) := rfl
@[simp] theorem opSub_int (a b : Int) : opSub (.int a) (.int b) = .ok (.int (a - b)) := rfl
@[simp] theorem eV0 (d : PyData) (ρ : EV) : eV 0 (some (.d d) :: ρ) = .ok d := rfl
@[simp] theorem eVs (i : Nat) (x : Option SV) (ρ : EV) : eV (i + 1) (x :: ρ) = eV i ρ := rfl
@[simp] theorem eL0 (d : List PyData) (ρ : EV) : eL 0 (some (.l d) :: ρ) = .ok (.list d) := rfl
@[simp] theorem eLs' (i : Nat) (x : Option SV) (ρ : EV) : eL (i + 1) (x :: ρ) = eL i ρ := rfl
theorem e1_ok {o : PyData → R PyData} {a : FE} {ρ : EV} {x z : PyData} (h : a ρ = .ok x) (ho : o x = .ok z) : e1 o a ρ = .ok z := by unfold e1; rw [h]; exact ho
theorem e2_ok {o : PyData → PyData → R PyData} {a b : FE} {ρ : EV} {x y z : PyData} (h : a ρ = .ok x) (h2 : b ρ = .ok y) (ho : o x y = .ok z) : e2 o a b ρ = .ok z := by unfold e2; rw [h, h2]; exact ho
theorem tB_ok {a : FE} {ρ : EV} {b : Bool} (h : a ρ = .ok (.bool b)) : tB a ρ = .ok b := by unfold tB; rw [h]; rfl
theorem tV_ok {a : FE} {ρ : EV} {x : PyData} {b : Bool} (h : a ρ = .ok x) (hb : truthD x = .ok b) : tV a ρ = .ok b := by unfold tV; rw [h]; exact hb
theorem eIf_t {t : EV → R Bool} {a b : FE} {ρ : EV} (h : t ρ = .ok true) : eIf t a b ρ = a ρ := by unfold eIf; rw [h]; rfl
theorem eIf_f {t : EV → R Bool} {a b : FE} {ρ : EV} (h : t ρ = .ok false) : eIf t a b ρ = b ρ := by unfold eIf; rw [h]; rfl
theorem aC_ok {a : FE} {r : EV → R (List PyData)} {ρ : EV} {x : PyData} {xs : List PyData} (h : a ρ = .ok x) (h2 : r ρ = .ok xs) : aC a r ρ = .ok (x :: xs) := by unfold aC; rw [h, h2]; rfl
@[simp] theorem aN_ok (ρ : EV) : aN ρ = .ok [] := rfl
theorem eCall_ok {n : Nat} {F : List PyData → R PyData} {fs : EV → R (List PyData)} {ρ : EV} {ds : List PyData} (h : fs ρ = .ok ds) (hn : ds.length = n) : eCall n F fs ρ = F ds := by unfold eCall callN; rw [h]; simp [hn]
theorem eT_ok {fs : EV → R (List PyData)} {ρ : EV} {ds : List PyData} (h : fs ρ = .ok ds) (hn : ds.length ≤ LIM) : eT fs ρ = .ok (.tuple ds) := by unfold eT mkT; rw [h]; simp [hn]
theorem eLs_ok {fs : EV → R (List PyData)} {ρ : EV} {ds : List PyData} (h : fs ρ = .ok ds) (hn : ds.length ≤ LIM) : eLs fs ρ = .ok (.list ds) := by unfold eLs mkL; rw [h]; simp [hn]
theorem seq_next {g g2 : FS} {ρ ρ' : EV} (h : g ρ = .next ρ') : sSeq g g2 ρ = g2 ρ' := by unfold sSeq; rw [h]
theorem seq_ret {g g2 : FS} {ρ : EV} {d : PyData} (h : g ρ = .ret d) : sSeq g g2 ρ = .ret d := by unfold sSeq; rw [h]
theorem seq_exc {g g2 : FS} {ρ ρ' : EV} {d : Ex} (h : g ρ = .exc d ρ') : sSeq g g2 ρ = .exc d ρ' := by unfold sSeq; rw [h]
theorem set_ok {i : Nat} {f : FE} {ρ : EV} {d : PyData} (h : f ρ = .ok d) : sSet i f ρ = .next (ρ.set i (some (.d d))) := by unfold sSet; rw [h]
theorem own_ok {i : Nat} {f : FE} {ρ : EV} {d : List PyData} (h : f ρ = .ok (.list d)) : sOwn i f ρ = .next (ρ.set i (some (.l d))) := by unfold sOwn; rw [h]
theorem ret_ok {f : FE} {ρ : EV} {d : PyData} (h : f ρ = .ok d) : sRet f ρ = .ret d := by unfold sRet; rw [h]
theorem if_t {t : EV → R Bool} {g g2 : FS} {ρ : EV} (h : t ρ = .ok true) : sIf t g g2 ρ = g ρ := by unfold sIf; rw [h]
theorem if_f {t : EV → R Bool} {g g2 : FS} {ρ : EV} (h : t ρ = .ok false) : sIf t g g2 ρ = g2 ρ := by unfold sIf; rw [h]
theorem if_b {t : EV → R Bool} {g g2 : FS} {ρ : EV} {b : Bool} (h : t ρ = .ok b) : sIf t g g2 ρ = if b then g ρ else g2 ρ := by unfold sIf; rw [h]; cases b <;> rfl
theorem run_ret {m : Nat} {g : FS} {ds : List PyData} {d : PyData} (h : g (ds.map (fun d => some (SV.d d)) ++ List.replicate (m - ds.length) none) = .ret d) : runF m g ds = .ok d := by unfold runF; rw [h]
theorem run_next {m : Nat} {g : FS} {ds : List PyData} {ρ : EV} (h : g (ds.map (fun d => some (SV.d d)) ++ List.replicate (m - ds.length) none) = .next ρ) : runF m g ds = .ok .none := by unfold runF; rw [h]
theorem run_exc {m : Nat} {g : FS} {ds : List PyData} {d : Ex} {ρ' : EV} (h : g (ds.map (fun d => some (SV.d d)) ++ List.replicate (m - ds.length) none) = .exc d ρ') : runF m g ds = .exc d := by unfold runF; rw [h]
theorem for_ok {fi : EV → R (List PyData)} {g : PyData → EV → R EV} {b : FS} {ρ : EV} {xs : List PyData} (h : fi ρ = .ok xs) : sFor fi g b ρ = forGo g b xs ρ := by unfold sFor; rw [h]
@[simp] theorem forGo_nil (g : PyData → EV → R EV) (b : FS) (ρ : EV) : forGo g b [] ρ = .next ρ := rfl
theorem forGo_next {g : PyData → EV → R EV} {b : FS} {ρ ρ1 ρ2 : EV} {x : PyData} {xs : List PyData} (h : g x ρ = .ok ρ1) (h2 : b ρ1 = .next ρ2) : forGo g b (x :: xs) ρ = forGo g b xs ρ2 := by rw [forGo, h]; simp only [h2]
theorem forGo_ret {g : PyData → EV → R EV} {b : FS} {ρ ρ1 : EV} {d x : PyData} {xs : List PyData} (h : g x ρ = .ok ρ1) (h2 : b ρ1 = .ret d) : forGo g b (x :: xs) ρ = .ret d := by rw [forGo, h]; simp only [h2]
theorem forGo_inv {α : Type} {g : PyData → EV → R EV} {b : FS} {c : α → PyData} (I : List α → EV → Prop) : ∀ (xs done : List α) (ρ : EV), I done ρ → (∀ done x, x ∈ xs → ∀ ρ, I done ρ → ∃ ρ1 ρ2, g (c x) ρ = .ok ρ1 ∧ b ρ1 = .next ρ2 ∧ I (done ++ [x]) ρ2) →
    ∃ ρ', forGo g b (xs.map c) ρ = .next ρ' ∧ I (done ++ xs) ρ'
  | [], done, ρ, h, _ => ⟨ρ, rfl, by simpa using h⟩
  | x :: xs, done, ρ, h, st => by
    obtain ⟨ρ1, ρ2, h1, h2, h3⟩ := st done x (by simp) ρ h
    obtain ⟨ρ', h4, h5⟩ := forGo_inv I xs (done ++ [x]) ρ2 h3 fun dn y hy => st dn y (by simp [hy])
    exact ⟨ρ', by rw [List.map_cons, forGo_next h1 h2]; exact h4, by simpa using h5⟩
theorem forGo_cnt {g : PyData → EV → R EV} {b : FS} (n : Nat) (I : Nat → EV → Prop) (ρ : EV) (h : I 0 ρ) (st : ∀ x : Nat, x < n → ∀ ρ, I x ρ → ∃ ρ1 ρ2, g (nd x) ρ = .ok ρ1 ∧ b ρ1 = .next ρ2 ∧ I (x + 1) ρ2) :
    ∃ ρ', forGo g b ((List.range n).map nd) ρ = .next ρ' ∧ I n ρ' := by
  have key : ∀ (m : Nat) (ρ : EV), m ≤ n → I m ρ → ∃ ρ', forGo g b ((List.range' m (n - m)).map nd) ρ = .next ρ' ∧ I n ρ' := by
    intro m
    generalize hk : n - m = k
    induction k generalizing m with
    | zero => intro ρ hm h; have e : m = n := (by omega); subst e; exact ⟨ρ, rfl, h⟩
    | succ k ih =>
      intro ρ hm h
      obtain ⟨ρ1, ρ2, h1, h2, h3⟩ := st m (by omega) ρ h
      obtain ⟨ρ', h4, h5⟩ := ih (m + 1) (by omega) ρ2 (by omega) h3
      exact ⟨ρ', by rw [List.range'_succ, List.map_cons, forGo_next h1 h2]; exact h4, h5⟩
  have := key 0 ρ (by omega) h
  rwa [Nat.sub_zero, ← List.range_eq_range'] at this
theorem forGo_find {α : Type} {g : PyData → EV → R EV} {b : FS} {c : α → PyData} (J : EV → Prop) (p : α → Option PyData) : ∀ (xs : List α) (ρ : EV), J ρ → (∀ x, x ∈ xs → ∀ ρ, J ρ → ∃ ρ1, g (c x) ρ = .ok ρ1 ∧ match p x with | some d => b ρ1 = .ret d | none => ∃ ρ2, b ρ1 = .next ρ2 ∧ J ρ2) →
    match xs.findSome? p with | some d => forGo g b (xs.map c) ρ = .ret d | none => ∃ ρ', forGo g b (xs.map c) ρ = .next ρ' ∧ J ρ'
  | [], ρ, h, _ => ⟨ρ, rfl, h⟩
  | x :: xs, ρ, h, st => by
    obtain ⟨ρ1, h1, h2⟩ := st x (by simp) ρ h
    rw [List.findSome?_cons, List.map_cons]
    cases q : p x with
    | some d => rw [q] at h2; exact forGo_ret h1 h2
    | none =>
      rw [q] at h2
      obtain ⟨ρ2, h2, h3⟩ := h2
      rw [forGo_next h1 h2]
      exact forGo_find J p xs ρ2 h3 fun y hy => st y (by simp [hy])
theorem lcGo_ok {α : Type} {g : PyData → EV → R EV} {t : EV → R Bool} {f : FE} {ρ : EV} (c : α → PyData) (p : α → Bool) (h : α → PyData) : ∀ xs : List α, (∀ x ∈ xs, ∃ ρ', g (c x) ρ = .ok ρ' ∧ t ρ' = .ok (p x) ∧ (p x = true → f ρ' = .ok (h x))) →
    lcGo g t f ρ (xs.map c) = .ok ((xs.filter p).map h)
  | [], _ => rfl
  | x :: xs, H => by
    obtain ⟨ρ', h1, h2, h3⟩ := H x (by simp)
    have ih := lcGo_ok c p h xs fun y hy => H y (by simp [hy])
    rw [List.map_cons, lcGo, h1]
    simp only [h2]
    cases q : p x with
    | true => rw [h3 q]; simp [ih, q]
    | false => simp [ih, q]
theorem eLc_ok {α : Type} {fi : EV → R (List PyData)} {vs : List Nat} {g : PyData → EV → R EV} {t : EV → R Bool} {f : FE} {ρ : EV} (xs : List α) (c : α → PyData) (p : α → Bool) (h : α → PyData) (hi : fi ρ = .ok (xs.map c))
    (H : ∀ x ∈ xs, ∃ ρ', g (c x) (wipeE ρ vs) = .ok ρ' ∧ t ρ' = .ok (p x) ∧ (p x = true → f ρ' = .ok (h x))) : eLc fi vs g t f ρ = .ok (.list ((xs.filter p).map h)) := by
  unfold eLc
  rw [hi, bind_ok', lcGo_ok c p h xs H]
  rfl
theorem eLc_all {α : Type} {fi : EV → R (List PyData)} {vs : List Nat} {g : PyData → EV → R EV} {f : FE} {ρ : EV} (xs : List α) (c : α → PyData) (h : α → PyData) (hi : fi ρ = .ok (xs.map c))
    (H : ∀ x ∈ xs, ∃ ρ', g (c x) (wipeE ρ vs) = .ok ρ' ∧ f ρ' = .ok (h x)) : eLc fi vs g tTrue f ρ = .ok (.list (xs.map h)) := by
  have := eLc_ok (t := tTrue) (f := f) xs c (fun _ => true) h hi fun x hx => by
    obtain ⟨ρ', h1, h2⟩ := H x hx
    exact ⟨ρ', h1, rfl, fun _ => h2⟩
  rw [this, List.filter_eq_self.mpr (by simp)]
theorem rangeL_nd (n : Nat) : rangeL 0 n = (List.range n).map nd := by
  unfold rangeL
  exact List.map_congr_left fun i _ => by simp
theorem iRng1_ok {f : FE} {ρ : EV} {n : Nat} (h : f ρ = .ok (nd n)) (hn : n ≤ 100000) : iRng1 f ρ = .ok ((List.range n).map nd) := by
  unfold iRng1
  rw [h, bind_ok']
  show (if (n : Int) ≤ 100000 ∧ -100000 ≤ (n : Int) then R.ok (rangeL 0 (n : Int).toNat) else R.bad) = _
  rw [if_pos (by omega), Int.toNat_natCast, rangeL_nd]
theorem iSeq_lst {f : FE} {ρ : EV} {xs : List PyData} (h : f ρ = .ok (.list xs)) : iSeq f ρ = .ok xs := by unfold iSeq; rw [h]; rfl
theorem iSeq_tup {f : FE} {ρ : EV} {xs : List PyData} (h : f ρ = .ok (.tuple xs)) : iSeq f ρ = .ok xs := by unfold iSeq; rw [h]; rfl
theorem enumL_sd (st : List Op) : enumL (st.map Op.d) = (List.range st.length).map fun i => .tuple [nd i, (op st i).d] := by
  unfold enumL
  rw [rangeL_nd, List.length_map]
  apply List.ext_getElem?
  intro i
  by_cases h : i < st.length
  · rw [List.getElem?_map, List.getElem?_map, List.getElem?_zip_eq_some.mpr ⟨_, _⟩ |> fun q => q, List.getElem?_range h]
    rotate_left
    · exact (nd i, (op st i).d)
    · rw [List.getElem?_map, List.getElem?_range h]; rfl
    · rw [List.getElem?_map, op_some h]; rfl
    rfl
  · rw [List.getElem?_eq_none (by simp; omega), List.getElem?_eq_none (by simp; omega)]
theorem iEnum_sd {f : FE} {ρ : EV} {st : List Op} (h : f ρ = .ok (sd st)) : iEnum f ρ = .ok ((List.range st.length).map fun i => .tuple [nd i, (op st i).d]) := by
  unfold iEnum
  rw [h, bind_ok']
  unfold enumD
  simp only [enumL_sd]
def outOf {α : Type} (ρ : EV) (r : R α) (k : α → Out) : Out := match r with
  | .ok a => k a
  | .exc c => .exc c ρ
  | .bad => .bad
@[simp] theorem outOf_ok {α : Type} (ρ : EV) (a : α) (k : α → Out) : outOf ρ (.ok a) k = k a := rfl
@[simp] theorem outOf_exc {α : Type} (ρ : EV) (c : Ex) (k : α → Out) : outOf ρ (.exc c) k = .exc c ρ := rfl
@[simp] theorem outOf_bad {α : Type} (ρ : EV) (k : α → Out) : outOf ρ (.bad) k = .bad := rfl
def Out.then (o : Out) (g : FS) : Out := match o with
  | .next ρ => g ρ
  | o => o
@[simp] theorem then_next (ρ : EV) (g : FS) : (Out.next ρ).then g = g ρ := rfl
@[simp] theorem then_ret (d : PyData) (g : FS) : (Out.ret d).then g = .ret d := rfl
@[simp] theorem then_exc (d : Ex) (ρ : EV) (g : FS) : (Out.exc d ρ).then g = .exc d ρ := rfl
@[simp] theorem sSeq_ev (g g2 : FS) (ρ : EV) : sSeq g g2 ρ = (g ρ).then g2 := by unfold sSeq Out.then; cases g ρ <;> rfl
@[simp] theorem sSet_ev (i : Nat) (f : FE) (ρ : EV) : sSet i f ρ = outOf ρ (f ρ) fun d => .next (ρ.set i (some (.d d))) := by unfold sSet outOf; cases f ρ <;> rfl
@[simp] theorem sRet_ev (f : FE) (ρ : EV) : sRet f ρ = outOf ρ (f ρ) .ret := by unfold sRet outOf; cases f ρ <;> rfl
@[simp] theorem sRetN_ev (ρ : EV) : sRetN ρ = .ret .none := rfl
@[simp] theorem sNil_ev (ρ : EV) : sNil ρ = .next ρ := rfl
@[simp] theorem sExpr_ev (f : FE) (ρ : EV) : sExpr f ρ = outOf ρ (f ρ) fun _ => .next ρ := by unfold sExpr outOf; cases f ρ <;> rfl
@[simp] theorem sIf_ev (t : EV → R Bool) (g g2 : FS) (ρ : EV) : sIf t g g2 ρ = outOf ρ (t ρ) fun b => if b = true then g ρ else g2 ρ := by
  unfold sIf outOf
  cases t ρ with
  | ok b => cases b <;> rfl
  | exc c => rfl
  | bad => rfl
@[simp] theorem eC_ev (d : PyData) (ρ : EV) : eC d ρ = .ok d := rfl
@[simp] theorem e1_ev (o : PyData → R PyData) (a : FE) (ρ : EV) : e1 o a ρ = (a ρ).bind o := rfl
@[simp] theorem e2_ev (o : PyData → PyData → R PyData) (a b : FE) (ρ : EV) : e2 o a b ρ = (a ρ).bind fun x => (b ρ).bind fun y => o x y := rfl
@[simp] theorem tB_ev (a : FE) (ρ : EV) : tB a ρ = (a ρ).bind asB := rfl
@[simp] theorem tV_ev (a : FE) (ρ : EV) : tV a ρ = (a ρ).bind truthD := rfl
@[simp] theorem tAnd_ev (a b : EV → R Bool) (ρ : EV) : tAndF a b ρ = (a ρ).bind fun x => if x = true then b ρ else .ok false := rfl
@[simp] theorem tOr_ev (a b : EV → R Bool) (ρ : EV) : tOrF a b ρ = (a ρ).bind fun x => if x = true then .ok true else b ρ := rfl
@[simp] theorem tNot_ev (a : EV → R Bool) (ρ : EV) : tNotF a ρ = (a ρ).bind fun x => .ok (!x) := rfl
@[simp] theorem tTrue_ev (ρ : EV) : tTrue ρ = .ok true := rfl
@[simp] theorem eAnd_ev (a b : FE) (ρ : EV) : eAnd a b ρ = (tB a ρ).bind fun x => if x = true then b ρ else .ok (.bool false) := rfl
@[simp] theorem eOr_ev (a b : FE) (ρ : EV) : eOr a b ρ = (tB a ρ).bind fun x => if x = true then .ok (.bool true) else b ρ := rfl
@[simp] theorem eNot_ev (a : FE) (ρ : EV) : eNot a ρ = (tB a ρ).bind fun x => .ok (.bool (!x)) := rfl
@[simp] theorem eIf_ev (t : EV → R Bool) (a b : FE) (ρ : EV) : eIf t a b ρ = (t ρ).bind fun x => if x = true then a ρ else b ρ := rfl
@[simp] theorem eChain_ev (o o' : PyData → PyData → R PyData) (a b c : FE) (ρ : EV) : eChain o o' a b c ρ = (a ρ).bind fun x => (b ρ).bind fun y => ((o x y).bind asB).bind fun k => if k = true then (c ρ).bind fun z => o' y z else .ok (.bool false) := rfl
@[simp] theorem aC_ev (a : FE) (r : EV → R (List PyData)) (ρ : EV) : aC a r ρ = (a ρ).bind fun x => (r ρ).bind fun xs => .ok (x :: xs) := rfl
@[simp] theorem eT_ev (fs : EV → R (List PyData)) (ρ : EV) : eT fs ρ = (fs ρ).bind mkT := rfl
@[simp] theorem eLs_ev (fs : EV → R (List PyData)) (ρ : EV) : eLs fs ρ = (fs ρ).bind mkL := rfl
@[simp] theorem eCall_ev (n : Nat) (F : List PyData → R PyData) (fs : EV → R (List PyData)) (ρ : EV) : eCall n F fs ρ = (fs ρ).bind (callN n F) := rfl
@[simp] theorem callN_ev (n : Nat) (F : List PyData → R PyData) (ds : List PyData) : callN n F ds = if ds.length = n then F ds else .bad := rfl
@[simp] theorem isiD_ev (p : PyData → Bool) (d : PyData) : isiD p d = .ok (.bool (p d)) := rfl
@[simp] theorem gN_ev (i : Nat) (d : PyData) (ρ : EV) : gN i d ρ = .ok (ρ.set i (some (.d d))) := rfl
@[simp] theorem gT_ev (is : List Nat) (ds : List PyData) (ρ : EV) : gT is (.tuple ds) ρ = if ds.length = is.length then .ok (setAll is ds ρ) else .bad := rfl
@[simp] theorem setAll_c (i : Nat) (is : List Nat) (d : PyData) (ds : List PyData) (ρ : EV) : setAll (i :: is) (d :: ds) ρ = setAll is ds (ρ.set i (some (.d d))) := rfl
@[simp] theorem setAll_n (ds : List PyData) (ρ : EV) : setAll [] ds ρ = ρ := by unfold setAll; rfl
@[simp] theorem wipeE_n (ρ : EV) : wipeE ρ [] = ρ := rfl
@[simp] theorem wipeE_c (ρ : EV) (v : Nat) (vs : List Nat) : wipeE ρ (v :: vs) = (wipeE ρ vs).set v none := rfl
@[simp] theorem mkT_nil : mkT [] = .ok (.tuple []) := rfl
@[simp] theorem mkL_nil : mkL [] = .ok (.list []) := rfl
@[simp] theorem mkT_1 (a : PyData) : mkT [a] = .ok (.tuple [a]) := rfl
@[simp] theorem mkT_2 (a b : PyData) : mkT [a, b] = .ok (.tuple [a, b]) := rfl
@[simp] theorem mkT_3 (a b c : PyData) : mkT [a, b, c] = .ok (.tuple [a, b, c]) := rfl
@[simp] theorem mkT_4 (a b c d : PyData) : mkT [a, b, c, d] = .ok (.tuple [a, b, c, d]) := rfl
@[simp] theorem mkL_1 (a : PyData) : mkL [a] = .ok (.list [a]) := rfl
@[simp] theorem mkL_2 (a b : PyData) : mkL [a, b] = .ok (.list [a, b]) := rfl
theorem mkT_ok {ds : List PyData} (h : ds.length ≤ LIM) : mkT ds = .ok (.tuple ds) := if_pos h
theorem mkL_ok {ds : List PyData} (h : ds.length ≤ LIM) : mkL ds = .ok (.list ds) := if_pos h
@[simp] theorem sOwn_ev (i : Nat) (f : FE) (ρ : EV) : sOwn i f ρ = outOf ρ (f ρ) fun d => match d with | .list ds => .next (ρ.set i (some (.l ds))) | _ => .bad := by
  unfold sOwn outOf
  cases f ρ with
  | ok d => cases d <;> rfl
  | exc c => rfl
  | bad => rfl
@[simp] theorem sFor_ev (fi : EV → R (List PyData)) (g : PyData → EV → R EV) (b : FS) (ρ : EV) : sFor fi g b ρ = outOf ρ (fi ρ) fun xs => forGo g b xs ρ := by unfold sFor outOf; cases fi ρ <;> rfl
@[simp] theorem iSeq_ev (f : FE) (ρ : EV) : iSeq f ρ = (f ρ).bind seqD := rfl
@[simp] theorem seqD_l (xs : List PyData) : seqD (.list xs) = .ok xs := rfl
@[simp] theorem seqD_t (xs : List PyData) : seqD (.tuple xs) = .ok xs := rfl
@[simp] theorem tupleD_l (xs : List PyData) : tupleD (.list xs) = .ok (.tuple xs) := rfl
@[simp] theorem tupleD_t (xs : List PyData) : tupleD (.tuple xs) = .ok (.tuple xs) := rfl
@[simp] theorem listD_l (xs : List PyData) : listD (.list xs) = .ok (.list xs) := rfl
@[simp] theorem listD_t (xs : List PyData) : listD (.tuple xs) = .ok (.list xs) := rfl
@[simp] theorem isD_non (d : PyData) : isD d .none = .ok (.bool (isNone d)) := rfl
@[simp] theorem isNotD_non (d : PyData) : isNotD d .none = .ok (.bool (!isNone d)) := rfl
theorem app_ok {i : Nat} {f : FE} {ρ : EV} {ds : List PyData} {d : PyData} (h : ρ[i]? = some (some (.l ds))) (h2 : f ρ = .ok d) (hl : ds.length < LIM) : sApp i f ρ = .next (ρ.set i (some (.l (ds ++ [d])))) := by
  unfold sApp; rw [h]; simp only [h2, if_pos hl]
theorem ext_ok {i : Nat} {f : FE} {ρ : EV} {ds es : List PyData} (h : ρ[i]? = some (some (.l ds))) (h2 : f ρ = .ok (.list es)) (hl : ds.length + es.length ≤ LIM) : sExt i f ρ = .next (ρ.set i (some (.l (ds ++ es)))) := by
  unfold sExt; rw [h]; simp only [h2, if_pos hl]
def runO (o : Out) : R PyData := match o with
  | .ret d => .ok d
  | .next _ => .ok .none
  | .exc c _ => .exc c
  | _ => .bad
@[simp] theorem runO_ret (d : PyData) : runO (.ret d) = .ok d := rfl
@[simp] theorem runO_next (ρ : EV) : runO (.next ρ) = .ok .none := rfl
@[simp] theorem runO_exc (c : Ex) (ρ : EV) : runO (.exc c ρ) = .exc c := rfl
theorem runF_ev (m : Nat) (g : FS) (ds : List PyData) : runF m g ds = runO (g (ds.map (fun d => some (SV.d d)) ++ List.replicate (m - ds.length) none)) := by unfold runF runO; rfl
end CP
namespace CP
open PySem L2
theorem law_cell_ok (ns : List Int) (k : Nat) : ∃ c : Int, F_law_cell [.list (ns.map .int), nd k] = .ok (.int c) := by
  by_cases h : k < ns.length
  · refine ⟨ns[k], ?_⟩
    have hx : ixD (.list (ns.map .int)) (nd k) = .ok (.int ns[k]) := ix_lst (by rw [List.getElem?_map, List.getElem?_eq_getElem h]; rfl)
    simp [F_law_cell, runF_ev, h, hx]
  · refine ⟨0, ?_⟩
    simp [F_law_cell, runF_ev, h]
theorem int_nd {i : Int} (h : 0 ≤ i) : PyData.int i = nd i.toNat := by
  unfold nd
  rw [Int.toNat_of_nonneg h]
theorem opMulI {a b : Int} (h : (-(2 ^ 64) < a ∧ a < 2 ^ 64) ∨ (-(2 ^ 64) < b ∧ b < 2 ^ 64)) : opMul (.int a) (.int b) = .ok (.int (a * b)) := if_pos h
theorem opModI {a b : Int} (h : 0 < b) : opMod (.int a) (.int b) = .ok (.int (a % b)) := if_pos h
theorem opDivI {a b : Int} (h : 0 < b ∧ b < 1073741824) : opDiv (.int a) (.int b) = .ok (.int (a / b)) := if_pos h
theorem opPowI {a b : Int} (h : 0 ≤ b ∧ b ≤ 1000 ∧ a.natAbs < 2 ^ 64) : opPow (.int a) (.int b) = .ok (.int (a ^ b.toNat)) := if_pos h
theorem row_turn (ns : List Int) (k : Nat) (c : Int) (fs : List Nat) (x : Nat) (hl : fs.length < 60) :
    ∃ (c' : Int) (m : Nat), m < 1000 ∧ B_law_row_1 [some (.d (.list (ns.map .int))), some (.d (nd k)), some (.d (.int c)), some (.l (fs.map nd)), some (.d (nd x))] =
      .next [some (.d (.list (ns.map .int))), some (.d (nd k)), some (.d (.int c')), some (.l ((fs ++ [m]).map nd)), some (.d (nd x))] := by
  obtain ⟨c0, hc0⟩ := law_cell_ok ns k
  obtain ⟨c1, hc1⟩ := law_cell_ok ns ((k + 1 + x) % 20)
  have e1 : ((k : Int) + 1 + (x : Int)) % 20 = (((k + 1 + x) % 20 : Nat) : Int) := by omega
  have hc1' : F_law_cell [.list (ns.map .int), .int (((k : Int) + 1 + (x : Int)) % 20)] = .ok (.int c1) := by rw [e1]; exact hc1
  have hll : (fs.map nd).length < LIM := by rw [List.length_map]; unfold LIM; omega
  by_cases h : c0 < 1000000000000000000
  · refine ⟨(c * 48271 + 131 * (x : Int) + 7 + c1) % 2147483647, ((c * 48271 + 131 * (x : Int) + 7 + c1) % 2147483647 / 11 % 1000).toNat, by omega, ?_⟩
    have hm : PyData.int ((c * 48271 + 131 * (x : Int) + 7 + c1) % 2147483647 / 11 % 1000) = nd ((c * 48271 + 131 * (x : Int) + 7 + c1) % 2147483647 / 11 % 1000).toNat := int_nd (by omega)
    simp (disch := omega) [B_law_row_1, opMulI, opModI, opDivI, opPowI, hc0, h, hc1']
    rw [app_ok rfl (d := nd ((c * 48271 + 131 * (x : Int) + 7 + c1) % 2147483647 / 11 % 1000).toNat) (by rw [← hm]; simp (disch := omega) [opModI, opDivI]) hll]
    simp
  · refine ⟨c / 1000, (c % 1000).toNat, by omega, ?_⟩
    have hm : PyData.int (c % 1000) = nd (c % 1000).toNat := int_nd (by omega)
    simp (disch := omega) [B_law_row_1, opMulI, opModI, opDivI, opPowI, hc0, h]
    rw [app_ok rfl (d := nd (c % 1000).toNat) (by rw [← hm]; simp (disch := omega) [opModI, opDivI]) hll]
    simp (disch := omega) [opDivI]
theorem law_row_ok (ns : List Int) (k : Nat) : ∃ fs : List Nat, F_law_row [.list (ns.map .int), nd k] = .ok (.list (fs.map nd)) ∧ fs.length = 60 ∧ ∀ d ∈ fs, d < 1000 := by
  obtain ⟨c0, hc0⟩ := law_cell_ok ns k
  let I : Nat → EV → Prop := fun done ρ => ∃ (c : Int) (fs : List Nat) (y : Option SV), ρ = [some (.d (.list (ns.map .int))), some (.d (nd k)), some (.d (.int c)), some (.l (fs.map nd)), y] ∧ fs.length = done ∧ ∀ d ∈ fs, d < 1000
  obtain ⟨ρ', h1, c, fs, y, rfl, hl, hf⟩ := forGo_cnt (g := gN 4) (b := B_law_row_1) 60 I [some (.d (.list (ns.map .int))), some (.d (nd k)), some (.d (.int c0)), some (.l []), none] ⟨c0, [], none, rfl, rfl, by simp⟩ (by
    rintro x hd ρ ⟨c, fs, y, rfl, hl, hf⟩
    obtain ⟨c', m, hm, e⟩ := row_turn ns k c fs x (by omega)
    refine ⟨_, _, rfl, e, c', fs ++ [m], _, rfl, by simp [hl], fun d h => ?_⟩
    rcases List.mem_append.mp h with h | h
    · exact hf d h
    · rw [List.mem_singleton.mp h]; exact hm)
  refine ⟨fs, ?_, hl, hf⟩
  have hr : iRng1 (eC (.int 60)) = fun _ => .ok ((List.range 60).map nd) := by
    funext ρ
    exact iRng1_ok (n := 60) rfl (by omega)
  simp [F_law_row, runF_ev, hc0, hr, h1]
end CP
namespace CP
open PySem L2
def dr (fs : List Nat) (i : Nat) : Nat := fs.getD i 0
theorem dr_ok {fs : List Nat} {i : Nat} (h : i < fs.length) : ixD (.list (fs.map nd)) (nd i) = .ok (nd (dr fs i)) := by
  refine ix_lst ?_
  rw [List.getElem?_map, List.getElem?_eq_getElem h]
  unfold dr
  rw [List.getD_eq_getElem?_getD, List.getElem?_eq_getElem h]
  rfl
theorem dr_lt {fs : List Nat} (h : ∀ d ∈ fs, d < 1000) (i : Nat) : dr fs i < 1000 := by
  unfold dr
  rw [List.getD_eq_getElem?_getD]
  cases q : fs[i]? with
  | none => simp
  | some x => exact h x (List.mem_of_getElem? q)
theorem dr_at {fs : List Nat} {i : Int} (k : Nat) (e : i = (k : Int)) (h : k < fs.length) : ixD (.list (fs.map nd)) (.int i) = .ok (nd (dr fs k)) := by rw [e]; exact dr_ok h
abbrev Mark := Int × Nat × Nat
def mk (m : Mark) : PyData := .tuple [.int m.1, nd m.2.1, nd m.2.2]
def mid (fs : List Nat) (n : Nat) : Int := if 0 < ((dr fs 1 : Nat) : Int) % 4 then 10 * (n : Int) else ((dr fs (2 + n) : Nat) : Int) % 60
def ma (fs : List Nat) (n : Nat) : Int := mid fs n - ((dr fs (10 + n) : Nat) : Int) % (8 + ((dr fs 20 : Nat) : Int) % 20)
def mb (fs : List Nat) (n : Nat) : Int := mid fs n + 1 + ((dr fs (30 + n) : Nat) : Int) % (8 + ((dr fs 21 : Nat) : Int) % 20)
theorem ma_lt_mb (fs : List Nat) (n : Nat) : ma fs n < mb fs n := by
  unfold ma mb
  have h1 := Int.emod_nonneg ((dr fs (10 + n) : Nat) : Int) (show (8 + ((dr fs 20 : Nat) : Int) % 20) ≠ 0 by omega)
  have h2 := Int.emod_nonneg ((dr fs (30 + n) : Nat) : Int) (show (8 + ((dr fs 21 : Nat) : Int) % 20) ≠ 0 by omega)
  omega
theorem turn1 {fs : List Nat} (hl : fs.length = 60) {n : Nat} (hn : n < 6) {ms : List Mark} (hms : ms.length < 50) (s0 s1 s2 s4 s7 : Option SV) (r : EV) :
    B_law_story_1 (s0 :: s1 :: s2 :: some (.d (.list (fs.map nd))) :: s4 :: some (.l (ms.map mk)) :: some (.d (nd n)) :: s7 :: r) =
      .next (s0 :: s1 :: s2 :: some (.d (.list (fs.map nd))) :: s4 :: some (.l ((ms ++ [(ma fs n, n, 0), (mb fs n, n, 1)]).map mk)) :: some (.d (nd n)) :: some (.d (.int (mid fs n))) :: r) := by
  have h1 : ixD (.list (fs.map nd)) (.int 1) = .ok (nd (dr fs 1)) := dr_at 1 rfl (by omega)
  have h20 : ixD (.list (fs.map nd)) (.int 20) = .ok (nd (dr fs 20)) := dr_at 20 rfl (by omega)
  have h21 : ixD (.list (fs.map nd)) (.int 21) = .ok (nd (dr fs 21)) := dr_at 21 rfl (by omega)
  have h2 : ixD (.list (fs.map nd)) (.int (2 + (n : Int))) = .ok (nd (dr fs (2 + n))) := dr_at (2 + n) (by omega) (by omega)
  have h10 : ixD (.list (fs.map nd)) (.int (10 + (n : Int))) = .ok (nd (dr fs (10 + n))) := dr_at (10 + n) (by omega) (by omega)
  have h30 : ixD (.list (fs.map nd)) (.int (30 + (n : Int))) = .ok (nd (dr fs (30 + n))) := dr_at (30 + n) (by omega) (by omega)
  have hm : (eIf (tB (e2 gtD (e2 opMod (e2 ixD (eV 3) (eC (.int (1)))) (eC (.int (4)))) (eC (.int (0))))) (e2 opMul (eC (.int (10))) (eV 6)) (e2 opMod (e2 ixD (eV 3) (e2 opAdd (eC (.int (2))) (eV 6))) (eC (.int (60)))))
      (s0 :: s1 :: s2 :: some (.d (.list (fs.map nd))) :: s4 :: some (.l (ms.map mk)) :: some (.d (nd n)) :: s7 :: r) = .ok (.int (mid fs n)) := by
    unfold mid
    by_cases h : 0 < ((dr fs 1 : Nat) : Int) % 4
    · simp (disch := omega) [opModI, opMulI, h1, h]
    · simp (disch := omega) [opModI, opMulI, h1, h, h2]
  have l1 : (ms.map mk).length < LIM := by rw [List.length_map]; unfold LIM; omega
  have l2 : (ms.map mk ++ [mk (ma fs n, n, 0)]).length < LIM := by simp; unfold LIM; omega
  unfold B_law_story_1
  rw [sSeq_ev, set_ok hm, then_next]
  simp only [List.set_cons_succ, List.set_cons_zero]
  rw [sSeq_ev, app_ok (ds := ms.map mk) (d := mk (ma fs n, n, 0)) rfl (by simp (disch := omega) [opModI, h10, h20, mk, ma]) l1, then_next]
  simp only [List.set_cons_succ, List.set_cons_zero]
  rw [app_ok (ds := ms.map mk ++ [mk (ma fs n, n, 0)]) (d := mk (mb fs n, n, 1)) rfl (by simp (disch := omega) [opModI, h30, h21, mk, mb]) l2]
  simp
theorem dataLe_head {a b : Int} {xs ys : List PyData} (h : PySem.W.dataLe false id (.tuple (.int a :: xs)) (.tuple (.int b :: ys)) = true) : a ≤ b := by
  by_cases hab : b < a
  · exfalso
    have : PySem.W.dataLe false id (PyData.tuple (.int a :: xs)) (.tuple (.int b :: ys)) = !(PyProof.Rows.lexLt PyProof.Rows.itemOrd (PySem.W.keyToks (.tuple (.int b :: ys))) (PySem.W.keyToks (.tuple (.int a :: xs)))) := rfl
    rw [this] at h
    have e : ∀ (c : Int) (zs : List PyData), PySem.W.keyToks (.tuple (.int c :: zs)) = .inl 1 :: .inl c :: PySem.W.keyToksAll zs := fun c zs => by
      simp [PySem.W.keyToks, PySem.W.keyToksAll]
    rw [e, e, PyProof.Rows.lex_self (O := PyProof.Rows.itemOrd), PyProof.Rows.lex_diff (O := PyProof.Rows.itemOrd) (by intro z; injection z with z; omega)] at h
    have : PyProof.Rows.itemOrd.blt (.inl b) (.inl a) = true := by show decide (b < a) = true; exact decide_eq_true hab
    rw [this] at h
    cases h
  · omega
theorem sort_ok {α : Type} (c : α → PyData) (key : α → Int) (tl : α → List PyData) (hc : ∀ x, c x = .tuple (.int (key x) :: tl x)) (hal : ∀ x y, PySem.W.alike (c x) (c y) = true) (hdp : ∀ x, (c x).depth ≤ 50) (xs : List α) :
    ∃ ys : List α, ys.Perm xs ∧ ys.Pairwise (fun a b => key a ≤ key b) ∧ sortD (.list (xs.map c)) = .ok (.list (ys.map c)) := by
  let le : α → α → Bool := fun a b => PySem.W.dataLe false id (c a) (c b)
  have tot := PySem.W.sortLe_total (PyProof.Rows.listOrd PyProof.Rows.itemOrd) false (fun x : α => PySem.W.keyToks (c x))
  refine ⟨xs.mergeSort le, List.mergeSort_perm _ _, ?_, ?_⟩
  · refine (List.pairwise_mergeSort (le := le) (fun a b d h1 h2 => tot.trans a b d h1 h2) (fun a b => by
      rcases tot.total a b with h | h
      · have h' : le a b = true := h
        simp [h']
      · have h' : le b a = true := h
        simp [h']) xs).imp ?_
    intro a b h
    have h' : PySem.W.dataLe false id (c a) (c b) = true := h
    rw [hc a, hc b] at h'
    exact dataLe_head h'
  · have ok : sortOk (xs.map c) = true := by
      unfold sortOk alikeB
      simp only [List.all_map, Bool.and_eq_true, List.all_eq_true, Bool.or_eq_true, Function.comp, decide_eq_true_eq]
      exact ⟨⟨fun x _ y _ => hal x y, .inl fun x _ => by rw [hc x]; rfl⟩, fun x _ => hdp x⟩
    show (if sortOk (xs.map c) then R.ok (PyData.list (sortL (xs.map c))) else .bad) = _
    rw [if_pos ok]
    unfold sortL
    rw [← List.map_mergeSort (r := le) (s := PySem.W.dataLe false id) (f := c) (l := xs) (fun a _ b _ => rfl)]
def mkey (m : Mark) : List Int := [(m.2.1 : Int), (m.2.2 : Int)]
def tmv (fs : List Nat) (p : Nat) : Int := 3 * (p : Int) + ((dr fs (40 + p) : Nat) : Int) % 3
def mat (SM : List Mark) (p : Nat) : Mark := SM.getD p default
def kvL (SM : List Mark) (fs : List Nat) (p : Nat) : List (List Int × PyData) := (List.range p).map fun i => (mkey (mat SM i), .int (tmv fs i))
theorem mat_some {SM : List Mark} {p : Nat} (h : p < SM.length) : SM[p]? = some (mat SM p) := by
  unfold mat
  rw [List.getD_eq_getElem?_getD, List.getElem?_eq_getElem h]
  rfl
theorem putM_new {kvs : List (List Int × PyData)} {k : List Int} {d : PyData} (h : ∀ kv ∈ kvs, kv.1 ≠ k) : putM kvs k d = kvs ++ [(k, d)] := by
  unfold putM
  rw [if_neg]
  simp only [List.any_eq_true, decide_eq_true_eq, not_exists, not_and]
  exact h
theorem turn2 {fs : List Nat} (hl : fs.length = 60) {ms SM : List Mark} (hs : sortD (.list (ms.map mk)) = .ok (.list (SM.map mk))) (h12 : SM.length ≤ 12) (hk : (SM.map mkey).Nodup) {p : Nat} (hp : p < SM.length) (s0 s1 s2 s4 s6 s7 s10 : Option SV) (r : EV) :
    B_law_story_2 (s0 :: s1 :: s2 :: some (.d (.list (fs.map nd))) :: s4 :: some (.l (ms.map mk)) :: s6 :: s7 :: some (.m (kvL SM fs p)) :: some (.d (nd p)) :: s10 :: r) =
      .next (s0 :: s1 :: s2 :: some (.d (.list (fs.map nd))) :: s4 :: some (.l (ms.map mk)) :: s6 :: s7 :: some (.m (kvL SM fs (p + 1))) :: some (.d (nd p)) :: some (.d (mk (mat SM p))) :: r) := by
  have h40 : ixD (.list (fs.map nd)) (.int (40 + (p : Int))) = .ok (nd (dr fs (40 + p))) := dr_at (40 + p) (by omega) (by omega)
  have hx : ixD (.list (SM.map mk)) (nd p) = .ok (mk (mat SM p)) := ix_lst (by rw [List.getElem?_map, mat_some hp]; rfl)
  have i1 : ixD (mk (mat SM p)) (.int 1) = .ok (nd (mat SM p).2.1) := rfl
  have i2 : ixD (mk (mat SM p)) (.int 2) = .ok (nd (mat SM p).2.2) := rfl
  have hput : putM (kvL SM fs p) (mkey (mat SM p)) (.int (tmv fs p)) = kvL SM fs (p + 1) := by
    rw [putM_new]
    · unfold kvL; rw [List.range_succ, List.map_append]; rfl
    · intro kv hkv e
      unfold kvL at hkv
      obtain ⟨i, hi, rfl⟩ := List.mem_map.mp hkv
      have hi : i < p := List.mem_range.mp hi
      have := (List.pairwise_iff_getElem.mp hk) i p (by simp; omega) (by simp; omega) hi
      simp only [List.getElem_map] at this
      have g1 : SM[i]'(by omega) = mat SM i := Option.some.inj ((List.getElem?_eq_getElem (by omega : i < SM.length)).symm.trans (mat_some (by omega)))
      have g2 : SM[p] = mat SM p := Option.some.inj ((List.getElem?_eq_getElem hp).symm.trans (mat_some hp))
      rw [g1, g2] at this
      exact this e
  unfold B_law_story_2
  rw [sSeq_ev, set_ok (d := mk (mat SM p)) (by simp [hs, hx]), then_next]
  simp only [List.set_cons_succ, List.set_cons_zero]
  unfold sDPut
  have hv : (e2 opAdd (e2 opMul (eC (.int (3))) (eV 9)) (e2 opMod (e2 ixD (eV 3) (e2 opAdd (eC (.int (40))) (eV 9))) (eC (.int (3))))) (s0 :: s1 :: s2 :: some (.d (.list (fs.map nd))) :: s4 :: some (.l (ms.map mk)) :: s6 :: s7 :: some (.m (kvL SM fs p)) :: some (.d (nd p)) :: some (.d (mk (mat SM p))) :: r) = .ok (.int (tmv fs p)) := by
    simp (disch := omega) [opMulI, opModI, h40, tmv]
  have hkk : (eT (aC (e2 ixD (eV 10) (eC (.int (1)))) (aC (e2 ixD (eV 10) (eC (.int (2)))) (aN)))) (s0 :: s1 :: s2 :: some (.d (.list (fs.map nd))) :: s4 :: some (.l (ms.map mk)) :: s6 :: s7 :: some (.m (kvL SM fs p)) :: some (.d (nd p)) :: some (.d (mk (mat SM p))) :: r) = .ok (.tuple [nd (mat SM p).2.1, nd (mat SM p).2.2]) := by
    simp [i1, i2]
  rw [hv]
  have hlen : (kvL SM fs p).length < LIM := by unfold kvL LIM; simp; omega
  have hko : keyOf (.tuple [nd (mat SM p).2.1, nd (mat SM p).2.2]) = some (mkey (mat SM p)) := rfl
  simp only [List.getElem?_cons_succ, List.getElem?_cons_zero, hkk, hko, if_pos hlen, List.set_cons_succ, List.set_cons_zero, hput]
theorem free_many (wr : List Nat) : ∀ l : List Nat, l.Nodup → l.length ≤ (l.filter fun x => decide (x ∉ wr)).length + wr.length := by
  induction wr with
  | nil => intro l _; rw [List.filter_eq_self.mpr (by simp)]; simp
  | cons a wr ih =>
    intro l hl
    have h1 := ih l hl
    have e : (l.filter fun x => decide (x ∉ a :: wr)) = (l.filter fun x => decide (x ∉ wr)).filter (fun x => x != a) := by
      rw [List.filter_filter]
      congr 1
      funext x
      by_cases h : x = a <;> by_cases h' : x ∈ wr <;> simp [h, h']
    have hn : (l.filter fun x => decide (x ∉ wr)).Nodup := hl.filter _
    rw [e, ← hn.erase_eq_filter, List.length_erase, List.length_cons]
    split <;> omega
def frees (wr : List Nat) : List Nat := (List.range' 1 9).filter fun x => decide (x ∉ wr)
theorem frees_len {wr : List Nat} (h : wr.length ≤ 5) : 3 < (frees wr).length := by
  have h1 := free_many wr (List.range' 1 9) (by decide)
  have h2 : (List.range' 1 9).length = 9 := rfl
  unfold frees
  omega
theorem frees_mem {wr : List Nat} {x : Nat} (h : x ∈ frees wr) : 1 ≤ x ∧ x ≤ 9 ∧ x ∉ wr := by
  unfold frees at h
  have h := List.mem_filter.mp h
  have h1 := List.mem_range'_1.mp h.1
  exact ⟨by omega, by omega, of_decide_eq_true h.2⟩
theorem C1_ok (wr : List Nat) (s0 s1 s2 s3 s4 s5 s6 s7 s8 s9 s10 s11 s12 s14 s15 s16 s17 : Option SV) :
    C_law_story_1 [s0, s1, s2, s3, s4, s5, s6, s7, s8, s9, s10, s11, s12, some (.l (wr.map nd)), s14, s15, s16, s17] = .ok (.list ((frees wr).map nd)) := by
  unfold C_law_story_1 frees
  refine eLc_ok (List.range' 1 9) nd (fun x => decide (x ∉ wr)) nd rfl fun x _ => ⟨_, rfl, ?_, fun _ => ?_⟩
  · simp [encN.notInL (by decide) wr x]
  · simp
theorem turn3 {fs : List Nat} (hl : fs.length = 60) {n : Nat} (hn : n < 6) {kvs : List (List Int × PyData)} {t0 t1 : Int} (h0 : valM kvs [(n : Int), 0] = some (.int t0)) (h1 : valM kvs [(n : Int), 1] = some (.int t1))
    {fo : List Op} (hfo : fo.length ≤ 6) {la : Nat} (hla : la ≤ 9) {wr : List Nat} (hwl : wr.length ≤ 5) (hwr : ∀ x ∈ wr, x ≤ 9) (s0 s1 s2 s4 s5 s7 s9 s10 s14 s15 s16 s17 : Option SV) :
    ∃ (w : Bool) (v la' : Nat) (wr' : List Nat) (x14 x15 : Option SV), B_law_story_3 [s0, s1, s2, some (.d (.list (fs.map nd))), s4, s5, some (.d (nd n)), s7, some (.m kvs), s9, s10, some (.l (fo.map Op.d)), some (.d (nd la)), some (.l (wr.map nd)), s14, s15, s16, s17] =
      .next [s0, s1, s2, some (.d (.list (fs.map nd))), s4, s5, some (.d (nd n)), s7, some (.m kvs), s9, s10, some (.l ((fo ++ [Op.mk w v t0 t1]).map Op.d)), some (.d (nd la')), some (.l (wr'.map nd)), x14, x15, s16, s17] ∧ v ≤ 9 ∧ la' ≤ 9 ∧
      (w = true → 1 ≤ v ∧ v ∉ wr ∧ wr' = wr ++ [v]) ∧ (w = false → wr' = wr) := by
  have h22 : ixD (.list (fs.map nd)) (.int (22 + (n : Int))) = .ok (nd (dr fs (22 + n))) := dr_at (22 + n) (by omega) (by omega)
  have h50 : ixD (.list (fs.map nd)) (.int (50 + (n : Int))) = .ok (nd (dr fs (50 + n))) := dr_at (50 + n) (by omega) (by omega)
  have hd1 : ixD (.list (fs.map nd)) (.int 1) = .ok (nd (dr fs 1)) := dr_at 1 rfl (by omega)
  have hget : ∀ (w : Bool) (v : Nat) (x12 x13 : Option SV), (eT (aC (eV 14) (aC (eV 15) (aC (eDGet 8 (eT (aC (eV 6) (aC (eC (.int (0))) (aN))))) (aC (eDGet 8 (eT (aC (eV 6) (aC (eC (.int (1))) (aN))))) (aN))))))
      [s0, s1, s2, some (.d (.list (fs.map nd))), s4, s5, some (.d (nd n)), s7, some (.m kvs), s9, s10, some (.l (fo.map Op.d)), x12, x13, some (.d (.str (kd w))), some (.d (nd v)), s16, s17] = .ok (Op.d ⟨w, v, t0, t1⟩) := fun w v x12 x13 => by
    have k0 : keyOf (.tuple [nd n, .int 0]) = some [(n : Int), 0] := rfl
    have k1 : keyOf (.tuple [nd n, .int 1]) = some [(n : Int), 1] := rfl
    simp [eDGet, k0, k1, h0, h1]
    rfl
  have lfo : (fo.map Op.d).length < LIM := by rw [List.length_map]; unfold LIM; omega
  by_cases hw : ((dr fs (22 + n) : Nat) : Int) % 2 = 0
  · -- a write
    have hix : dr fs (50 + n) % 3 < (frees wr).length := by have := frees_len hwl; omega
    let v := (frees wr)[dr fs (50 + n) % 3]
    have hv := frees_mem (List.getElem_mem hix : v ∈ frees wr)
    have hpick : ixD (.list ((frees wr).map nd)) (.int (((dr fs (50 + n) : Nat) : Int) % 3)) = .ok (nd v) := by
      have e : ((dr fs (50 + n) : Nat) : Int) % 3 = ((dr fs (50 + n) % 3 : Nat) : Int) := by omega
      rw [e]
      exact ix_lst (by rw [List.getElem?_map, List.getElem?_eq_getElem hix]; rfl)
    have lwr : (wr.map nd).length < LIM := by rw [List.length_map]; unfold LIM; omega
    refine ⟨true, v, v, wr ++ [v], some (.d (.str (kd true))), some (.d (nd v)), ?_, hv.2.1, hv.2.1, fun _ => ⟨hv.1, hv.2.2, rfl⟩, fun z => by cases z⟩
    unfold B_law_story_3
    rw [sSeq_ev, set_ok (d := .str (kd true)) (by simp (disch := omega) [opModI, h22, hw]; rfl), then_next]
    simp only [List.set_cons_succ, List.set_cons_zero]
    rw [sSeq_ev, sIf_ev]
    simp only [tB_ev, e2_ev, eVs, eV0, eC_ev, bind_ok', eqD_kdw, asB_bool, outOf_ok, if_true]
    rw [sSeq_ev, set_ok (d := nd v) (by simp (disch := omega) [C1_ok, opModI, h50, hpick]), then_next]
    simp only [List.set_cons_succ, List.set_cons_zero]
    rw [app_ok (ds := wr.map nd) (d := nd v) rfl rfl lwr, then_next]
    simp only [List.set_cons_succ, List.set_cons_zero]
    rw [sSeq_ev, set_ok (d := nd v) rfl, then_next]
    simp only [List.set_cons_succ, List.set_cons_zero]
    rw [sSeq_ev, sIf_ev]
    simp only [tAnd_ev, tB_ev, e2_ev, eVs, eV0, eC_ev, bind_ok', eqD_kdr, asB_bool, outOf_ok, Bool.not_true, Bool.false_eq_true, if_false, sNil_ev, then_next]
    rw [app_ok (ds := fo.map Op.d) rfl (hget true v _ _) lfo]
    simp
  · -- a read
    have go : ∀ (v : Nat), v ≤ 9 → (sIf (tAndF (tB (e2 eqD (eV 14) (eC (.str "read")))) (tB (e2 eqD (e2 opMod (e2 ixD (eV 3) (eC (.int (1)))) (eC (.int (3)))) (eC (.int (0)))))) (sSet 15 (e2 ixD (e2 opAdd (e2 opAdd (eLs (aC (eC (.int (0))) (aN))) (eL 13)) (eLs (aC (eC (.int (9))) (aN)))) (e2 opMod (e2 ixD (eV 3) (e2 opAdd (eC (.int (50))) (eV 6))) (e2 opAdd (e1 lenD (eL 13)) (eC (.int (2))))))) (sNil))
        [s0, s1, s2, some (.d (.list (fs.map nd))), s4, s5, some (.d (nd n)), s7, some (.m kvs), s9, s10, some (.l (fo.map Op.d)), some (.d (nd la)), some (.l (wr.map nd)), some (.d (.str (kd false))), some (.d (nd la)), s16, s17] =
        .next [s0, s1, s2, some (.d (.list (fs.map nd))), s4, s5, some (.d (nd n)), s7, some (.m kvs), s9, s10, some (.l (fo.map Op.d)), some (.d (nd la)), some (.l (wr.map nd)), some (.d (.str (kd false))), some (.d (nd v)), s16, s17] →
        B_law_story_3 [s0, s1, s2, some (.d (.list (fs.map nd))), s4, s5, some (.d (nd n)), s7, some (.m kvs), s9, s10, some (.l (fo.map Op.d)), some (.d (nd la)), some (.l (wr.map nd)), s14, s15, s16, s17] =
        .next [s0, s1, s2, some (.d (.list (fs.map nd))), s4, s5, some (.d (nd n)), s7, some (.m kvs), s9, s10, some (.l ((fo ++ [Op.mk false v t0 t1]).map Op.d)), some (.d (nd la)), some (.l (wr.map nd)), some (.d (.str (kd false))), some (.d (nd v)), s16, s17] := fun v hv h => by
      unfold B_law_story_3
      rw [sSeq_ev, set_ok (d := .str (kd false)) (by simp (disch := omega) [opModI, h22, hw]; rfl), then_next]
      simp only [List.set_cons_succ, List.set_cons_zero]
      rw [sSeq_ev, sIf_ev]
      simp only [tB_ev, e2_ev, eVs, eV0, eC_ev, bind_ok', eqD_kdw, asB_bool, outOf_ok, Bool.false_eq_true, if_false, sNil_ev, then_next]
      rw [sSeq_ev, set_ok (d := nd la) rfl, then_next]
      simp only [List.set_cons_succ, List.set_cons_zero]
      rw [sSeq_ev, h, then_next, app_ok (ds := fo.map Op.d) rfl (hget false v _ _) lfo]
      simp
    by_cases h3 : ((dr fs 1 : Nat) : Int) % 3 = 0
    · have hlen : ([0] ++ wr ++ [9]).length = wr.length + 2 := by simp
      have hix : dr fs (50 + n) % (wr.length + 2) < ([0] ++ wr ++ [9]).length := by rw [hlen]; exact Nat.mod_lt _ (by omega)
      let v := ([0] ++ wr ++ [9])[dr fs (50 + n) % (wr.length + 2)]
      have hv : v ≤ 9 := by
        have hm : v ∈ [0] ++ wr ++ [9] := List.getElem_mem hix
        simp only [List.mem_append, List.mem_singleton] at hm
        rcases hm with (hm | hm) | hm
        · omega
        · exact hwr v hm
        · omega
      refine ⟨false, v, la, wr, _, _, go v hv ?_, hv, hla, (fun z => by cases z), fun _ => rfl⟩
      have hpick : ixD (.list (([0] ++ wr ++ [9]).map nd)) (.int (((dr fs (50 + n) : Nat) : Int) % ((wr.length : Int) + 2))) = .ok (nd v) := by
        have e : ((dr fs (50 + n) : Nat) : Int) % ((wr.length : Int) + 2) = ((dr fs (50 + n) % (wr.length + 2) : Nat) : Int) := by simp
        rw [e]
        exact ix_lst (by rw [List.getElem?_map, List.getElem?_eq_getElem hix]; rfl)
      have a1 : opAdd (.list [.int 0]) (.list (wr.map nd)) = .ok (.list (([0] ++ wr).map nd)) := by
        show (if _ then _ else _) = _
        rw [if_pos (by simp; unfold LIM; omega)]
        rfl
      have a2 : opAdd (.list (([0] ++ wr).map nd)) (.list [.int 9]) = .ok (.list (([0] ++ wr ++ [9]).map nd)) := by
        show (if _ then _ else _) = _
        rw [if_pos (by simp; unfold LIM; omega), List.map_append (l₁ := [0] ++ wr)]
        rfl
      rw [sIf_ev]
      simp only [tAnd_ev, tB_ev, e2_ev, eVs, eV0, eC_ev, bind_ok', eqD_kdr, asB_bool, outOf_ok, Bool.not_false, if_true, hd1, opModI (show (0 : Int) < 3 by decide), eqD_int, h3, decide_true]
      rw [set_ok (d := nd v)]
      · rfl
      · simp (disch := omega) only [e2_ev, e1_ev, eVs, eV0, eLs', eL0, eC_ev, eLs_ev, aC_ev, aN_ok, bind_ok', mkL_1, a1, a2, opAdd_int, h50, lenD_lst, List.length_map, opModI, hpick]
    · refine ⟨false, la, la, wr, _, _, go la hla ?_, hla, hla, (fun z => by cases z), fun _ => rfl⟩
      rw [sIf_ev]
      simp only [tAnd_ev, tB_ev, e2_ev, eVs, eV0, eC_ev, bind_ok', eqD_kdr, asB_bool, outOf_ok, Bool.not_false, if_true, hd1, opModI (show (0 : Int) < 3 by decide), eqD_int, h3, decide_false, Bool.false_eq_true, if_false, sNil_ev]
structure Valid (st : List Op) : Prop where
  len : st.length ≤ 6
  rng : ∀ o ∈ st, (if o.w then 1 else 0) ≤ o.v ∧ o.v ≤ 9 ∧ 0 ≤ o.s ∧ o.s < o.e ∧ o.e ≤ 99
  asc : st.Pairwise fun a b => a.s < b.s
  tms : (st.map Op.s ++ st.map Op.e).Nodup
  wrt : ((st.filter Op.w).map Op.v).Nodup
def marksOf (fs : List Nat) (m : Nat) : List Mark := (List.range m).flatMap fun n => [(ma fs n, n, 0), (mb fs n, n, 1)]
theorem marksOf_succ (fs : List Nat) (m : Nat) : marksOf fs (m + 1) = marksOf fs m ++ [(ma fs m, m, 0), (mb fs m, m, 1)] := by
  unfold marksOf; rw [List.range_succ, List.flatMap_append]; simp
theorem marksOf_len (fs : List Nat) (m : Nat) : (marksOf fs m).length = 2 * m := by
  induction m with
  | zero => rfl
  | succ m ih => rw [marksOf_succ, List.length_append, ih]; simp; omega
theorem marksOf_mem {fs : List Nat} {m : Nat} {x : Mark} (h : x ∈ marksOf fs m) : ∃ n, n < m ∧ (x = (ma fs n, n, 0) ∨ x = (mb fs n, n, 1)) := by
  unfold marksOf at h
  obtain ⟨n, hn, hx⟩ := List.mem_flatMap.mp h
  exact ⟨n, List.mem_range.mp hn, by simpa using hx⟩
theorem marksOf_has (fs : List Nat) {m n : Nat} (h : n < m) : (ma fs n, n, 0) ∈ marksOf fs m ∧ (mb fs n, n, 1) ∈ marksOf fs m := by
  unfold marksOf
  exact ⟨List.mem_flatMap.mpr ⟨n, List.mem_range.mpr h, by simp⟩, List.mem_flatMap.mpr ⟨n, List.mem_range.mpr h, by simp⟩⟩
theorem marksOf_nodup (fs : List Nat) (m : Nat) : ((marksOf fs m).map mkey).Nodup := by
  induction m with
  | zero => simp [marksOf]
  | succ m ih =>
    rw [marksOf_succ, List.map_append]
    refine List.nodup_append.mpr ⟨ih, by simp [mkey], fun a ha b hb e => ?_⟩
    obtain ⟨x, hx, rfl⟩ := List.mem_map.mp ha
    obtain ⟨n, hn, hx⟩ := marksOf_mem hx
    subst e
    rcases hx with rfl | rfl <;> simp [mkey] at hb <;> omega
theorem at_nodup {α β : Type} {l : List α} {f : α → β} (h : (l.map f).Nodup) {i j : Nat} {x y : α} (hi : l[i]? = some x) (hj : l[j]? = some y) (e : f x = f y) : i = j := by
  have h1 := (List.getElem?_eq_some_iff.mp hi)
  have h2 := (List.getElem?_eq_some_iff.mp hj)
  obtain ⟨l1, e1⟩ := h1
  obtain ⟨l2, e2⟩ := h2
  rcases Nat.lt_trichotomy i j with c | c | c
  · have := (List.pairwise_iff_getElem.mp h) i j (by simpa) (by simpa) c
    simp only [List.getElem_map, e1, e2] at this
    exact absurd e this
  · exact c
  · have := (List.pairwise_iff_getElem.mp h) j i (by simpa) (by simpa) c
    simp only [List.getElem_map, e1, e2] at this
    exact absurd e.symm this
theorem valM_mem : ∀ {kvs : List (List Int × PyData)} {k : List Int} {d : PyData}, (kvs.map (·.1)).Nodup → (k, d) ∈ kvs → valM kvs k = some d
  | [], _, _, _, h => by cases h
  | (k', d') :: r, k, d, hn, h => by
    unfold valM
    rw [List.find?_cons]
    rw [List.map_cons, List.nodup_cons] at hn
    rcases List.mem_cons.mp h with e | e
    · cases e; simp
    · have ne : ¬ k' = k := fun z => hn.1 (by rw [z]; exact List.mem_map.mpr ⟨(k, d), e, rfl⟩)
      simp only [ne, decide_false]
      exact valM_mem hn.2 e
end CP
namespace CP
open PySem L2
theorem tmv_inj {fs : List Nat} {p q : Nat} (h : tmv fs p = tmv fs q) : p = q := by unfold tmv at h; omega
theorem tmv_lt {fs : List Nat} {p q : Nat} (h : p < q) : tmv fs p < tmv fs q := by unfold tmv; omega
theorem tmv_rng {fs : List Nat} {p : Nat} (h : p < 12) : 0 ≤ tmv fs p ∧ tmv fs p ≤ 35 := by unfold tmv; omega
def Rop (SM : List Mark) (fs : List Nat) (i : Nat) (o : Op) : Prop := ∃ p0 p1, SM[p0]? = some (ma fs i, i, 0) ∧ SM[p1]? = some (mb fs i, i, 1) ∧ o.s = tmv fs p0 ∧ o.e = tmv fs p1
def co (o : Op) : PyData := .tuple [.int o.s, o.d]
theorem C2_ok (fo : List Op) (s0 s1 s2 s3 s4 s5 s6 s7 s8 s9 s10 s12 s13 s14 s15 s16 s17 : Option SV) :
    C_law_story_2 [s0, s1, s2, s3, s4, s5, s6, s7, s8, s9, s10, some (.l (fo.map Op.d)), s12, s13, s14, s15, s16, s17] = .ok (.list (fo.map co)) := by
  unfold C_law_story_2
  refine eLc_all fo Op.d co (by simp) fun o _ => ⟨_, rfl, ?_⟩
  simp [co]
theorem C3_ok {fo so : List Op} (hs : sortD (.list (fo.map co)) = .ok (.list (so.map co))) (s0 s1 s2 s3 s4 s5 s6 s7 s8 s9 s10 s12 s13 s14 s15 s16 s17 : Option SV) :
    C_law_story_3 [s0, s1, s2, s3, s4, s5, s6, s7, s8, s9, s10, some (.l (fo.map Op.d)), s12, s13, s14, s15, s16, s17] = .ok (.list (so.map Op.d)) := by
  unfold C_law_story_3
  refine eLc_all so co Op.d (by simp [C2_ok, hs]) fun o _ => ⟨_, rfl, ?_⟩
  simp [co]
theorem alike_mk (a b : Mark) : PySem.W.alike (mk a) (mk b) = true := by simp [mk, PySem.W.alike, PySem.W.alikeAll]
theorem depth_mk (a : Mark) : (mk a).depth ≤ 50 := by simp [mk, PyData.depth, PyData.depthAll]
theorem alike_co (a b : Op) : PySem.W.alike (co a) (co b) = true := by simp [co, Op.d, PySem.W.alike, PySem.W.alikeAll]
theorem depth_co (a : Op) : (co a).depth ≤ 50 := by simp [co, Op.d, PyData.depth, PyData.depthAll]
theorem drawn_valid {fs : List Nat} {m : Nat} (hm : m ≤ 6) {SM : List Mark} (hk : (SM.map mkey).Nodup) (hl : SM.length ≤ 12) (hp : SM.Pairwise fun a b => a.1 ≤ b.1) {fo so : List Op} (hfl : fo.length = m) (hR : ∀ (i : Nat) (o : Op), fo[i]? = some o → Rop SM fs i o)
    (hv : ∀ o ∈ fo, (if o.w then 1 else 0) ≤ o.v ∧ o.v ≤ 9) (hw : ((fo.filter Op.w).map Op.v).Nodup) (hso : so.Perm fo) (hss : so.Pairwise fun a b => a.s ≤ b.s) : Valid so ∧ ∀ o ∈ so, o.e ≤ 35 := by
  have plt : ∀ {p : Nat} {x : Mark}, SM[p]? = some x → p < 12 := fun h => by have := (List.getElem?_eq_some_iff.mp h).1; omega
  have se : ∀ o ∈ fo, 0 ≤ o.s ∧ o.s < o.e ∧ o.e ≤ 35 := fun o ho => by
    obtain ⟨i, hi⟩ := List.mem_iff_getElem?.mp ho
    obtain ⟨p0, p1, h0, h1, e0, e1⟩ := hR i o hi
    have r0 := tmv_rng (fs := fs) (plt h0)
    have r1 := tmv_rng (fs := fs) (plt h1)
    have hlt : p0 < p1 := by
      rcases Nat.lt_trichotomy p0 p1 with c | c | c
      · exact c
      · subst c; rw [h0] at h1; have := Option.some.inj h1; simp at this
      · exfalso
        obtain ⟨l0, g0⟩ := List.getElem?_eq_some_iff.mp h0
        obtain ⟨l1, g1⟩ := List.getElem?_eq_some_iff.mp h1
        have := (List.pairwise_iff_getElem.mp hp) p1 p0 l1 l0 c
        rw [g0, g1] at this
        have q := ma_lt_mb fs i
        simp only at this
        omega
    have := tmv_lt (fs := fs) hlt
    rw [e0, e1]
    omega
  have tnd : (fo.map Op.s ++ fo.map Op.e).Nodup := by
    have one : ∀ (f : Op → Int) (b : Nat) (g : Nat → Int), (∀ (i : Nat) (o : Op), fo[i]? = some o → ∃ p, SM[p]? = some (g i, i, b) ∧ f o = tmv fs p) → (fo.map f).Nodup := fun f b g H => by
      refine List.pairwise_iff_getElem.mpr fun i j hi hj hij => ?_
      simp only [List.getElem_map]
      intro e
      rw [List.length_map] at hi hj
      obtain ⟨p, hp1, hp2⟩ := H i fo[i] (List.getElem?_eq_getElem hi)
      obtain ⟨q, hq1, hq2⟩ := H j fo[j] (List.getElem?_eq_getElem hj)
      rw [hp2, hq2] at e
      have := tmv_inj e
      subst this
      rw [hp1] at hq1
      have := Option.some.inj hq1
      simp only [Prod.mk.injEq] at this
      omega
    refine List.nodup_append.mpr ⟨one Op.s 0 (ma fs) fun i o h => ?_, one Op.e 1 (mb fs) fun i o h => ?_, fun a ha b hb e => ?_⟩
    · obtain ⟨p0, p1, h0, h1, e0, e1⟩ := hR i o h
      exact ⟨p0, h0, e0⟩
    · obtain ⟨p0, p1, h0, h1, e0, e1⟩ := hR i o h
      exact ⟨p1, h1, e1⟩
    · obtain ⟨x, hx, rfl⟩ := List.mem_map.mp ha
      obtain ⟨y, hy, rfl⟩ := List.mem_map.mp hb
      obtain ⟨i, hi⟩ := List.mem_iff_getElem?.mp hx
      obtain ⟨j, hj⟩ := List.mem_iff_getElem?.mp hy
      obtain ⟨p0, p1, h0, h1, e0, e1⟩ := hR i x hi
      obtain ⟨q0, q1, g0, g1, f0, f1⟩ := hR j y hj
      rw [e0, f1] at e
      have := tmv_inj e
      subst this
      rw [h0] at g1
      have := Option.some.inj g1
      simp at this
  refine ⟨⟨by rw [hso.length_eq, hfl]; exact hm, fun o ho => ?_, ?_, ?_, ?_⟩, fun o ho => (se o (hso.mem_iff.mp ho)).2.2⟩
  · have ho' := hso.mem_iff.mp ho
    have h1 := hv o ho'
    have h2 := se o ho'
    exact ⟨h1.1, h1.2, h2.1, h2.2.1, by omega⟩
  · have nds : (so.map Op.s).Nodup := (hso.map Op.s).nodup_iff.mpr (List.nodup_append.mp tnd).1
    refine List.pairwise_iff_getElem.mpr fun i j hi hj hij => ?_
    have h1 := (List.pairwise_iff_getElem.mp hss) i j hi hj hij
    have h2 := (List.pairwise_iff_getElem.mp nds) i j (by simpa) (by simpa) hij
    simp only [List.getElem_map] at h2
    omega
  · exact ((hso.map Op.s).append (hso.map Op.e)).nodup_iff.mpr tnd
  · exact ((hso.filter Op.w).map Op.v).nodup_iff.mpr hw
theorem law_story_ok (ns : List Int) (k most : Nat) (hmost : most ≤ 6) : ∃ st, F_law_story [.list (ns.map .int), nd k, nd most] = .ok (sd st) ∧ Valid st ∧ st.length ≤ most ∧ ∀ o ∈ st, o.e ≤ 35 := by
  obtain ⟨fs, hrow, hl, hf⟩ := law_row_ok ns k
  obtain ⟨m, hm⟩ : ∃ m, m = dr fs 0 % (most + 1) := ⟨_, rfl⟩
  have hmm : m ≤ most := by have := Nat.mod_lt (dr fs 0) (show 0 < most + 1 by omega); omega
  obtain ⟨S, hS⟩ : ∃ S : PyData, S = .list (ns.map .int) := ⟨_, rfl⟩
  obtain ⟨D, hD⟩ : ∃ D : PyData, D = .list (fs.map nd) := ⟨_, rfl⟩
  have hd0 : ixD D (.int 0) = .ok (nd (dr fs 0)) := by rw [hD]; exact dr_at 0 rfl (by omega)
  obtain ⟨ρ1, L1, y6, y7, rfl⟩ := forGo_cnt (g := gN 6) (b := B_law_story_1) m (fun n ρ => ∃ y6 y7, ρ = [some (.d S), some (.d (nd k)), some (.d (nd most)), some (.d D), some (.d (nd m)), some (.l ((marksOf fs n).map mk)), y6, y7, none, none, none, none, none, none, none, none, none, none])
    [some (.d S), some (.d (nd k)), some (.d (nd most)), some (.d D), some (.d (nd m)), some (.l []), none, none, none, none, none, none, none, none, none, none, none, none] ⟨none, none, rfl⟩ (by
      rintro x hx ρ ⟨y6, y7, rfl⟩
      have := turn1 hl (n := x) (by omega) (ms := marksOf fs x) (by rw [marksOf_len]; omega) (some (.d S)) (some (.d (nd k))) (some (.d (nd most))) (some (.d (nd m))) y7 [none, none, none, none, none, none, none, none, none, none]
      rw [← hD] at this
      refine ⟨_, _, rfl, this, ?_⟩
      rw [marksOf_succ]
      exact ⟨_, _, rfl⟩)
  obtain ⟨SM, pm, hp, hs⟩ := sort_ok mk (fun m => m.1) (fun m => [nd m.2.1, nd m.2.2]) (fun _ => rfl) alike_mk depth_mk (marksOf fs m)
  have hSl : SM.length ≤ 12 := by rw [pm.length_eq, marksOf_len]; omega
  have hk : (SM.map mkey).Nodup := (pm.map mkey).nodup_iff.mpr (marksOf_nodup fs m)
  obtain ⟨ρ2, L2, y9, y10, rfl⟩ := forGo_cnt (g := gN 9) (b := B_law_story_2) SM.length (fun n ρ => ∃ y9 y10, ρ = [some (.d S), some (.d (nd k)), some (.d (nd most)), some (.d D), some (.d (nd m)), some (.l ((marksOf fs m).map mk)), y6, y7, some (.m (kvL SM fs n)), y9, y10, none, none, none, none, none, none, none])
    [some (.d S), some (.d (nd k)), some (.d (nd most)), some (.d D), some (.d (nd m)), some (.l ((marksOf fs m).map mk)), y6, y7, some (.m []), none, none, none, none, none, none, none, none, none] ⟨none, none, rfl⟩ (by
      rintro x hx ρ ⟨y9, y10, rfl⟩
      have := turn2 hl hs hSl hk hx (some (.d S)) (some (.d (nd k))) (some (.d (nd most))) (some (.d (nd m))) y6 y7 y10 [none, none, none, none, none, none, none]
      rw [← hD] at this
      exact ⟨_, _, rfl, this, _, _, rfl⟩)
  have hget : ∀ {p : Nat} {x : Mark}, SM[p]? = some x → valM (kvL SM fs SM.length) (mkey x) = some (.int (tmv fs p)) := fun {p x} h => by
    have hp := (List.getElem?_eq_some_iff.mp h).1
    have e : mat SM p = x := Option.some.inj ((mat_some hp).symm.trans h)
    refine valM_mem ?_ ?_
    · unfold kvL
      rw [List.map_map]
      have : ((fun x : List Int × PyData => x.1) ∘ fun i => (mkey (mat SM i), PyData.int (tmv fs i))) = fun i => mkey (mat SM i) := rfl
      rw [this]
      have : (List.range SM.length).map (fun i => mkey (mat SM i)) = SM.map mkey := by
        apply List.ext_getElem?
        intro i
        by_cases hi : i < SM.length
        · rw [List.getElem?_map, List.getElem?_range hi, List.getElem?_map, mat_some hi]; rfl
        · rw [List.getElem?_eq_none (by simp; omega), List.getElem?_eq_none (by simp; omega)]
      rw [this]
      exact hk
    · unfold kvL
      exact List.mem_map.mpr ⟨p, List.mem_range.mpr hp, by rw [e]⟩
  have has : ∀ n, n < m → ∃ p0 p1, SM[p0]? = some (ma fs n, n, 0) ∧ SM[p1]? = some (mb fs n, n, 1) := fun n hn => by
    obtain ⟨a1, a2⟩ := marksOf_has fs hn
    obtain ⟨p0, h0⟩ := List.mem_iff_getElem?.mp (pm.mem_iff.mpr a1)
    obtain ⟨p1, h1⟩ := List.mem_iff_getElem?.mp (pm.mem_iff.mpr a2)
    exact ⟨p0, p1, h0, h1⟩
  obtain ⟨ρ3, L3, y6', fo, la, wr, y14, y15, rfl, f1, f2, f3, f4, f5, f6, f7⟩ := forGo_cnt (g := gN 6) (b := B_law_story_3) m (fun n ρ => ∃ (y6' : Option SV) (fo : List Op) (la : Nat) (wr : List Nat) (y14 y15 : Option SV),
      ρ = [some (.d S), some (.d (nd k)), some (.d (nd most)), some (.d D), some (.d (nd m)), some (.l ((marksOf fs m).map mk)), y6', y7, some (.m (kvL SM fs SM.length)), y9, y10, some (.l (fo.map Op.d)), some (.d (nd la)), some (.l (wr.map nd)), y14, y15, none, none] ∧ fo.length = n ∧
        (∀ (i : Nat) (o : Op), fo[i]? = some o → Rop SM fs i o) ∧ (∀ o ∈ fo, (if o.w then 1 else 0) ≤ o.v ∧ o.v ≤ 9) ∧ (fo.filter Op.w).map Op.v = wr.map (fun n : Nat => (n : Int)) ∧ wr.Nodup ∧ (∀ x ∈ wr, x ≤ 9) ∧ la ≤ 9)
    [some (.d S), some (.d (nd k)), some (.d (nd most)), some (.d D), some (.d (nd m)), some (.l ((marksOf fs m).map mk)), y6, y7, some (.m (kvL SM fs SM.length)), y9, y10, some (.l []), some (.d (nd 0)), some (.l []), none, none, none, none]
    ⟨y6, [], 0, [], none, none, rfl, rfl, fun i o h => by simp at h, fun o h => by simp at h, rfl, List.nodup_nil, fun x h => by simp at h, by omega⟩ (by
      rintro x hx ρ ⟨y6', fo, la, wr, y14, y15, rfl, f1, f2, f3, f4, f5, f6, f7⟩
      obtain ⟨p0, p1, q0, q1⟩ := has x hx
      have hwl : wr.length ≤ 5 := by
        have e := congrArg List.length f4
        rw [List.length_map, List.length_map] at e
        have := List.length_filter_le Op.w fo
        omega
      obtain ⟨w, v, la', wr', x14, x15, e, hv9, hla9, hw1, hw0⟩ := turn3 hl (n := x) (by omega) (kvs := kvL SM fs SM.length) (t0 := tmv fs p0) (t1 := tmv fs p1) (hget q0) (hget q1) (fo := fo) (by omega) (la := la) f7 (wr := wr) hwl f6 (some (.d S)) (some (.d (nd k))) (some (.d (nd most))) (some (.d (nd m))) (some (.l ((marksOf fs m).map mk))) y7 y9 y10 y14 y15 none none
      rw [← hD] at e
      refine ⟨_, _, rfl, e, some (.d (nd x)), fo ++ [Op.mk w v (tmv fs p0) (tmv fs p1)], la', wr', x14, x15, rfl, by simp [f1], ?_, ?_, ?_, ?_, ?_, hla9⟩
      · intro i o h
        by_cases hi : i < fo.length
        · rw [List.getElem?_append_left hi] at h; exact f2 i o h
        · rw [List.getElem?_append_right (by omega)] at h
          have : i = x := by
            have := (List.getElem?_eq_some_iff.mp h).1
            simp at this
            omega
          subst this
          rw [f1, Nat.sub_self] at h
          have := Option.some.inj h
          subst this
          exact ⟨p0, p1, q0, q1, rfl, rfl⟩
      · intro o ho
        rcases List.mem_append.mp ho with ho | ho
        · exact f3 o ho
        · have := List.mem_singleton.mp ho
          subst this
          cases w with
          | true => have := hw1 rfl; simp; omega
          | false => simp; omega
      · cases w with
        | true => rw [List.filter_append, List.map_append, f4, (hw1 rfl).2.2, List.map_append]; rfl
        | false => rw [List.filter_append, List.map_append, f4, hw0 rfl]; simp
      · cases w with
        | true =>
          rw [(hw1 rfl).2.2]
          refine List.nodup_append.mpr ⟨f5, by simp, fun a ha b hb eab => ?_⟩
          rw [eab, List.mem_singleton.mp hb] at ha
          exact (hw1 rfl).2.1 ha
        | false => rw [hw0 rfl]; exact f5
      · cases w with
        | true =>
          rw [(hw1 rfl).2.2]
          intro z hz
          rcases List.mem_append.mp hz with hz | hz
          · exact f6 z hz
          · rw [List.mem_singleton.mp hz]; exact hv9
        | false => rw [hw0 rfl]; exact f6)
  obtain ⟨so, hso, hss, hsd⟩ := sort_ok co Op.s (fun o => [o.d]) (fun _ => rfl) alike_co depth_co fo
  have dv := drawn_valid (by omega) hk hSl hp f1 f2 f3 (by rw [f4]; exact f5.map _ fun a b h e => h (by have e' : (a : Int) = (b : Int) := e; omega)) hso hss
  refine ⟨so, ?_, dv.1, by rw [hso.length_eq, f1]; exact hmm, dv.2⟩
  have hmod : opMod (nd (dr fs 0)) (.int ((most : Int) + 1)) = .ok (nd m) := by
    show (if (0 : Int) < (most : Int) + 1 then R.ok (PyData.int (((dr fs 0 : Nat) : Int) % ((most : Int) + 1))) else R.bad) = _
    rw [if_pos (by omega), hm]
    simp
  have hr4 : ∀ (a b c d : Option SV) (r : EV), iRng1 (eV 4) (a :: b :: c :: d :: some (.d (nd m)) :: r) = .ok ((List.range m).map nd) := fun a b c d r => iRng1_ok rfl (by omega)
  have hr5 : ∀ (a b c d e : Option SV) (r : EV), iRng1 (e1 lenD (e1 sortD (eL 5))) (a :: b :: c :: d :: e :: some (.l ((marksOf fs m).map mk)) :: r) = .ok ((List.range SM.length).map nd) := fun a b c d e r => iRng1_ok (by simp [hs]) (by omega)
  have hmix : ∀ ρ : EV, (sMix [11, 12, 13] (mL (eLs (aN)) (mS (eC (.int (0))) (mL (eLs (aN)) (mN))))) ρ = .next (((ρ.set 11 (some (.l []))).set 12 (some (.d (nd 0)))).set 13 (some (.l []))) := fun ρ => rfl
  have hdn : ∀ ρ : EV, sDNew 8 ρ = .next (ρ.set 8 (some (.m []))) := fun ρ => rfl
  rw [← hS] at hrow ⊢
  rw [← hD] at hrow
  unfold F_law_story
  rw [runF_ev]
  simp [hrow, hd0, hmod, hr4, L1, hdn, hr5, L2, hmix, L3, C3_ok hsd]
end CP
namespace CP
open PySem L2
@[simp] theorem in_range_ok (a lo hi : Int) : F_in_range [.int a, .int lo, .int hi] = .ok (.bool (decide (lo ≤ a) && decide (a ≤ hi))) := by
  by_cases h : lo ≤ a <;> simp [F_in_range, runF_ev, isiInt, isiBool, h]
theorem kinds_in (w : Bool) : notInD (.str (kd w)) (.tuple [.str "write", .str "read"]) = .ok (.bool false) := by
  have h1 : inOk [PyData.str "write", PyData.str "read"] (.str (kd w)) = true := by cases w <;> decide +kernel
  have h2 : anyEq [PyData.str "write", PyData.str "read"] (.str (kd w)) = true := by cases w <;> decide +kernel
  show (if inOk [PyData.str "write", PyData.str "read"] (.str (kd w)) then R.ok (PyData.bool (!anyEq [PyData.str "write", PyData.str "read"] (.str (kd w)))) else R.bad) = _
  rw [h1, h2]
  rfl
def okOp (o : Op) : Bool := (decide ((if o.w then 1 else 0) ≤ o.v) && decide (o.v ≤ 9)) && ((decide (0 ≤ o.s) && decide (o.s ≤ 99)) && (decide (o.s + 1 ≤ o.e) && decide (o.e ≤ 99)))
theorem lenOp (o : Op) : lenD o.d = .ok (nd 4) := rfl
theorem is_operation_ok (o : Op) : F_is_operation [o.d] = .ok (.bool (okOp o)) := by
  have t1 : isiTup o.d = true := rfl
  have n4 : neD (nd 4) (.int 4) = .ok (.bool false) := rfl
  have s1 : isiStr (.str (kd o.w)) = true := rfl
  have e : (if (!o.w) = true then (R.ok (PyData.int 0)) else R.ok (PyData.int 1)) = R.ok (PyData.int (if o.w then 1 else 0)) := by cases o.w <;> rfl
  unfold okOp
  simp only [F_is_operation, runF_ev, List.map_cons, List.map_nil, List.length_cons, List.length_nil, List.cons_append, List.nil_append, Nat.sub_self, List.replicate_zero, sSeq_ev, sIf_ev, tOr_ev, tNot_ev, tV_ev, tB_ev, e1_ev, e2_ev, eV0, eC_ev, bind_ok', isiD_ev, t1, truthD_bool, Bool.not_true, Bool.false_eq_true, if_false, lenOp, n4, asB_bool, ix_op0, ix_op1, ix_op2, ix_op3, s1, kinds_in, outOf_ok, sNil_ev, then_next, eCall_ev, aC_ev, aN_ok, eIf_ev, eqD_kdr, e, callN_ev, if_true, in_range_ok]
  cases h : (decide ((if o.w = true then (1 : Int) else 0) ≤ o.v) && decide (o.v ≤ 9)) with
  | false => simp
  | true =>
    simp only [Bool.not_true, Bool.false_eq_true, if_false, sNil_ev, then_next, sRet_ev, eAnd_ev, tB_ev, eCall_ev, aC_ev, aN_ok, e2_ev, eV0, eC_ev, bind_ok', ix_op2, ix_op3, callN_ev, List.length_cons, List.length_nil, if_true, in_range_ok, asB_bool, opAdd_int, Bool.true_and]
    cases h2 : (decide (0 ≤ o.s) && decide (o.s ≤ 99)) <;> simp
theorem dedup_go (xs : List Int) : ∀ acc : List Int, acc.Nodup → ((xs.foldl PyProof.Rows.step_dedup acc).length = acc.length + xs.length ↔ (acc ++ xs).Nodup) ∧ (xs.foldl PyProof.Rows.step_dedup acc).length ≤ acc.length + xs.length := by
  induction xs with
  | nil => intro acc h; simp [h]
  | cons x xs ih =>
    intro acc h
    rw [List.foldl_cons]
    by_cases hx : x ∈ acc
    · have e : PyProof.Rows.step_dedup acc x = acc := by
        unfold PyProof.Rows.step_dedup
        rw [if_pos]
        simp [hx]
      rw [e]
      have := (ih acc h).2
      refine ⟨⟨fun q => ?_, fun q => ?_⟩, by simp; omega⟩
      · simp at q; omega
      · exact absurd rfl ((List.nodup_append.mp q).2.2 x hx x (by simp))
    · have e : PyProof.Rows.step_dedup acc x = acc ++ [x] := by
        unfold PyProof.Rows.step_dedup
        rw [if_neg]
        simp [hx]
      rw [e]
      have hn : (acc ++ [x]).Nodup := List.nodup_append.mpr ⟨h, by simp, fun a ha b hb q => by rw [q, List.mem_singleton.mp hb] at ha; exact hx ha⟩
      have i := ih (acc ++ [x]) hn
      simp only [List.length_append, List.length_cons, List.length_nil, List.append_assoc, List.singleton_append] at i ⊢
      refine ⟨⟨fun q => i.1.mp (by omega), fun q => by have := i.1.mpr q; omega⟩, by omega⟩
theorem lenSet_ok {xs : List Int} (h : xs.length ≤ 4000) : e1 lenSetD (eC (.list (xs.map .int))) [] = .ok (nd (dedupI xs).length) := by
  show lenSetD (.list (xs.map .int)) = _
  unfold lenSetD
  simp only [intsOf_map, if_pos h]
theorem lenSetD_ok {xs : List Int} (h : xs.length ≤ 4000) : lenSetD (.list (xs.map .int)) = .ok (nd (dedupI xs).length) := lenSet_ok h
theorem dedup_iff (xs : List Int) : (dedupI xs).length = xs.length ↔ xs.Nodup := by
  have := (dedup_go xs [] List.nodup_nil).1
  simpa [dedupI] using this
def ascB (st : List Op) : Bool := ((st.zip (st.drop 1)).filter fun p => decide (p.2.s ≤ p.1.s)).isEmpty
def validB (st : List Op) : Bool := decide (st.length ≤ 6) && (st.all okOp && (ascB st && (decide (st.map Op.s ++ st.map Op.e).Nodup && decide ((st.filter Op.w).map Op.v).Nodup)))
theorem zip_ok (st : List Op) (r : EV) : iZip (eV 0) (eSl (eV 0) (oS (eC (.int (1)))) (oN)) (some (.d (sd st)) :: r) = .ok ((st.zip (st.drop 1)).map fun p => .tuple [p.1.d, p.2.d]) := by
  have e : sliceD (sd st) (some 1) none = .ok (sd (st.drop 1)) := by
    show R.ok (PyData.tuple (cutD (st.map Op.d) (some 1) none)) = _
    congr 2
    unfold cutD
    simp only [HT.sIx, List.length_map]
    rw [← List.map_drop, ← List.map_take]
    congr 1
    by_cases h : 1 ≤ st.length
    · rw [if_neg (by omega), show min (Int.toNat 1) st.length = 1 by omega, List.take_of_length_le (by simp)]
    · have : st = [] := by cases st with | nil => rfl | cons a b => simp at h
      subst this
      simp
  show (((eV 0) (some (.d (sd st)) :: r)).bind fun x => (((eV 0) (some (.d (sd st)) :: r)).bind fun d => (R.ok (some 1)).bind fun l => (R.ok none).bind fun h => sliceD d l h).bind fun y => zipD x y) = _
  simp only [eV0, bind_ok', e]
  show R.ok (zipL (st.map Op.d) ((st.drop 1).map Op.d)) = _
  unfold zipL
  rw [List.zip_map, List.map_map]
  rfl
theorem is_story_ok (st : List Op) : F_is_story [sd st] = .ok (.bool (validB st)) := by
  have t1 : isiTup (sd st) = true := rfl
  unfold F_is_story validB
  rw [runF_ev]
  simp only [List.map_cons, List.map_nil, List.length_cons, List.length_nil, List.cons_append, List.nil_append, sSeq_ev, sIf_ev, tOr_ev, tNot_ev, tV_ev, tB_ev, e1_ev, e2_ev, eV0, eC_ev, bind_ok', isiD_ev, t1, truthD_bool, Bool.not_true, Bool.false_eq_true, if_false, lenD_tup, List.length_map, gtD_int, asB_bool, outOf_ok, List.replicate]
  by_cases h6 : st.length ≤ 6
  · have h6' : ¬ (6 : Int) < ((st.length : Nat) : Int) := by omega
    have l2 : (st.map Op.s ++ st.map Op.e).length ≤ 4000 := by simp; omega
    have l3 : ((st.filter Op.w).map Op.v).length ≤ 4000 := by have := List.length_filter_le Op.w st; simp; omega
    have c1 : C_is_story_1 [some (.d (sd st)), none, none, none, none] = .ok (.list ((st.filter fun o => !okOp o).map Op.d)) := by
      unfold C_is_story_1
      exact eLc_ok st Op.d (fun o => !okOp o) Op.d (by simp) fun o _ => ⟨_, rfl, by simp [is_operation_ok], fun _ => by simp⟩
    have c2 : C_is_story_2 [some (.d (sd st)), none, none, none, none] = .ok (.list (((st.zip (st.drop 1)).filter fun p => decide (p.2.s ≤ p.1.s)).map fun _ => .int 1)) := by
      unfold C_is_story_2
      exact eLc_ok (st.zip (st.drop 1)) _ (fun p => decide (p.2.s ≤ p.1.s)) (fun _ => .int 1) (zip_ok st _) fun p _ => ⟨_, rfl, by simp, fun _ => by simp⟩
    have c3 : C_is_story_3 [some (.d (sd st)), none, none, none, none] = .ok (.list ((st.map Op.s).map .int)) := by
      unfold C_is_story_3
      rw [List.map_map]
      exact eLc_all st Op.d (PyData.int ∘ Op.s) (by simp) fun o _ => ⟨_, rfl, by simp⟩
    have c4 : C_is_story_4 [some (.d (sd st)), none, none, none, none] = .ok (.list ((st.map Op.e).map .int)) := by
      unfold C_is_story_4
      rw [List.map_map]
      exact eLc_all st Op.d (PyData.int ∘ Op.e) (by simp) fun o _ => ⟨_, rfl, by simp⟩
    have c5 : ∀ x, C_is_story_5 [some (.d (sd st)), x, none, none, none] = .ok (.list (((st.filter Op.w).map Op.v).map .int)) := fun x => by
      unfold C_is_story_5
      rw [List.map_map]
      exact eLc_ok st Op.d Op.w (PyData.int ∘ Op.v) (by simp) fun o _ => ⟨_, rfl, by simp, fun _ => by simp⟩
    have ad : opAdd (.list ((st.map Op.s).map .int)) (.list ((st.map Op.e).map .int)) = .ok (.list ((st.map Op.s ++ st.map Op.e).map .int)) := by
      show (if _ then _ else _) = _
      rw [if_pos (by simp; unfold LIM; omega), List.map_append]
    have em : ∀ {α β : Type} (l : List α) (f : α → β), (l.map f).isEmpty = l.isEmpty := fun l f => by cases l <;> rfl
    have e1 : (st.filter fun o => !okOp o).isEmpty = st.all okOp := by
      rw [Bool.eq_iff_iff]
      simp only [List.isEmpty_iff, List.filter_eq_nil_iff, List.all_eq_true]
      exact ⟨fun h o ho => by simpa using h o ho, fun h o ho => by simp [h o ho]⟩
    have e3 : ∀ xs : List Int, eqD (nd (dedupI xs).length) (nd xs.length) = .ok (.bool (decide xs.Nodup)) := fun xs => by
      rw [encN.eqD (by decide)]
      congr 2
      rw [Bool.eq_iff_iff, decide_eq_true_iff, decide_eq_true_iff]
      exact dedup_iff xs
    have e4 : ((st.zip (st.drop 1)).filter fun p => decide (p.2.s ≤ p.1.s)).isEmpty = ascB st := rfl
    simp only [h6', decide_false, Bool.false_eq_true, if_false, sNil_ev, then_next, sSeq_ev, sIf_ev, tV_ev, c1, c2, bind_ok', truthD_lst, outOf_ok, em, e1, h6, decide_true, Bool.true_and, e4]
    cases q1 : st.all okOp with
    | false => simp
    | true =>
      cases q2 : ascB st with
      | false => simp only [Bool.not_true, Bool.false_eq_true, if_false, sNil_ev, then_next, sSeq_ev, sIf_ev, tV_ev, c2, bind_ok', truthD_lst, outOf_ok, em, e4, q2, Bool.not_false, if_true, sRet_ev, eC_ev, then_ret, runO_ret, Bool.false_and, Bool.and_false, Bool.true_and]
      | true =>
        simp only [Bool.not_true, Bool.false_eq_true, if_false, sNil_ev, then_next, Bool.true_and, sSeq_ev, sIf_ev, tV_ev, c2, bind_ok', truthD_lst, outOf_ok, em, e4, q2, sSet_ev, e2_ev, c3, c4, ad, List.set_cons_succ, List.set_cons_zero, c5, sRet_ev, eAnd_ev, tB_ev, e1_ev, eVs, eV0, lenSetD_ok l2, lenSetD_ok l3, lenD_lst, List.length_map]
        have e3a := e3 (st.map Op.s ++ st.map Op.e)
        rw [e3a]
        simp only [bind_ok', asB_bool]
        have e3b := e3 ((st.filter Op.w).map Op.v)
        rw [List.length_map] at e3b
        cases q3 : decide (st.map Op.s ++ st.map Op.e).Nodup with
        | false => simp
        | true => simp [e3b]
  · have h6' : (6 : Int) < ((st.length : Nat) : Int) := by omega
    simp [h6', h6]
theorem asc_iff : ∀ st : List Op, ascB st = true ↔ st.Pairwise fun a b => a.s < b.s
  | [] => by simp [ascB]
  | [a] => by simp [ascB]
  | a :: b :: r => by
    have ih := asc_iff (b :: r)
    have e : ascB (a :: b :: r) = (decide (a.s < b.s) && ascB (b :: r)) := by
      unfold ascB
      simp only [List.drop_succ_cons, List.drop_zero, List.zip_cons_cons, List.filter_cons]
      by_cases h : a.s < b.s
      · have h' : ¬ b.s ≤ a.s := by omega
        simp [h, h']
      · have h' : b.s ≤ a.s := by omega
        simp [h, h']
    rw [e, Bool.and_eq_true, decide_eq_true_iff, ih]
    constructor
    · rintro ⟨h1, h2⟩
      refine List.pairwise_cons.mpr ⟨fun x hx => ?_, h2⟩
      rcases List.mem_cons.mp hx with rfl | hx
      · exact h1
      · exact Int.lt_trans h1 ((List.pairwise_cons.mp h2).1 x hx)
    · intro h
      have := List.pairwise_cons.mp h
      exact ⟨this.1 b (by simp), this.2⟩
theorem okOp_iff (o : Op) : okOp o = true ↔ (if o.w then 1 else 0) ≤ o.v ∧ o.v ≤ 9 ∧ 0 ≤ o.s ∧ o.s < o.e ∧ o.e ≤ 99 := by
  unfold okOp
  simp only [Bool.and_eq_true, decide_eq_true_eq]
  omega
theorem valid_iff (st : List Op) : validB st = true ↔ Valid st := by
  unfold validB
  simp only [Bool.and_eq_true, decide_eq_true_eq, List.all_eq_true, asc_iff, okOp_iff]
  exact ⟨fun ⟨a, b, c, d, e⟩ => ⟨a, b, c, d, e⟩, fun ⟨a, b, c, d, e⟩ => ⟨a, b, c, d, e⟩⟩
theorem check_story_ok {st : List Op} (h : Valid st) : F_check_story [sd st] = .ok .none := by
  simp [F_check_story, runF_ev, is_story_ok, (valid_iff st).mpr h]
end CP
namespace CP
open PySem L2
def wvals (st : List Op) (o : List Nat) : List Int := (o.filter fun j => (op st j).w).map fun j => (op st j).v
def lastW (st : List Op) (o : List Nat) : Int := (wvals st o).getLast?.getD 0
def leftN (st : List Op) (o : List Nat) : List Nat := (List.range st.length).filter fun j => decide (j ∉ o)
def noEarly (st : List Op) (o : List Nat) (k : Nat) : Bool := ((leftN st o).filter fun j => decide ((op st j).e < (op st k).s)).isEmpty
def mayF (st : List Op) (o : List Nat) (k : Nat) : Bool := noEarly st o k && ((op st k).w || decide ((op st k).v = lastW st o))
theorem ix_neg1 {xs : List PyData} {x : PyData} (h : xs.getLast? = some x) : ixD (.list xs) (.int (-1)) = .ok x := by
  obtain ⟨ys, rfl⟩ := List.getLast?_eq_some_iff.mp h
  unfold ixD
  simp only [atI_last]
@[simp] theorem negD_1 : negD (.int 1) = .ok (.int (-1)) := rfl
@[simp] theorem precedes_ok (a b : Op) : F_precedes [a.d, b.d] = .ok (.bool (decide (a.e < b.s))) := by simp [F_precedes, runF_ev]
theorem em_map {α β : Type} (l : List α) (f : α → β) : (l.map f).isEmpty = l.isEmpty := by cases l <;> rfl
theorem may_follow_ok {st : List Op} {o : List Nat} {k : Nat} (hk : k < st.length) (ho : ∀ x ∈ o, x < st.length) : F_may_follow [sd st, od o, nd k] = .ok (.bool (mayF st o k)) := by
  have c1 : C_may_follow_1 [some (.d (sd st)), some (.d (od o)), some (.d (nd k)), none, none, none, none] = .ok (.list ((leftN st o).map fun j => (op st j).d)) := by
    unfold C_may_follow_1 leftN
    exact eLc_ok (List.range st.length) _ (fun j => decide (j ∉ o)) (fun j => (op st j).d) (iEnum_sd rfl) fun j _ => ⟨_, rfl, by simp [encN.notInT (by decide) o j], fun _ => by simp⟩
  have c2 : C_may_follow_2 [some (.d (sd st)), some (.d (od o)), some (.d (nd k)), some (.d (.list ((leftN st o).map fun j => (op st j).d))), none, none, none] = .ok (.list (((leftN st o).filter fun j => decide ((op st j).e < (op st k).s)).map fun j => (op st j).d)) := by
    unfold C_may_follow_2
    exact eLc_ok (leftN st o) (fun j => (op st j).d) (fun j => decide ((op st j).e < (op st k).s)) (fun j => (op st j).d) (by simp) fun j _ => ⟨_, rfl, by simp [ix_sd hk], fun _ => by simp⟩
  have c3 : ∀ x, C_may_follow_3 [some (.d (sd st)), some (.d (od o)), some (.d (nd k)), x, none, none, none] = .ok (.list ((wvals st o).map .int)) := fun x => by
    unfold C_may_follow_3 wvals
    rw [List.map_map]
    exact eLc_ok o nd (fun j => (op st j).w) (PyData.int ∘ fun j => (op st j).v) (by simp) fun j hj => ⟨_, rfl, by simp [ix_sd (ho j hj)], fun _ => by simp [ix_sd (ho j hj)]⟩
  have e0 : ((leftN st o).filter fun j => decide ((op st j).e < (op st k).s)).isEmpty = noEarly st o k := rfl
  unfold F_may_follow mayF
  rw [runF_ev]
  simp only [List.map_cons, List.map_nil, List.length_cons, List.length_nil, List.cons_append, List.nil_append, List.replicate, sSeq_ev, sSet_ev, c1, outOf_ok, then_next, List.set_cons_succ, List.set_cons_zero, sIf_ev, tV_ev, c2, bind_ok', truthD_lst, em_map, e0]
  cases q : noEarly st o k with
  | false => simp
  | true =>
    have last : ∀ r : EV, (eIf (tV (eV 4)) (e2 ixD (eV 4) (e1 negD (eC (.int (1))))) (eC (.int (0)))) (some (.d (sd st)) :: some (.d (od o)) :: some (.d (nd k)) :: some (.d (.list ((leftN st o).map fun j => (op st j).d))) :: some (.d (.list ((wvals st o).map .int))) :: r) = .ok (.int (lastW st o)) := fun r => by
      unfold lastW
      cases h : (wvals st o).getLast? with
      | none =>
        have e : wvals st o = [] := by simpa using h
        simp [e]
      | some v =>
        have hne : (wvals st o).isEmpty = false := by
          cases hh : wvals st o with
          | nil => rw [hh] at h; cases h
          | cons a b => rfl
        have hx : ixD (.list ((wvals st o).map .int)) (.int (-1)) = .ok (.int v) := ix_neg1 (by rw [List.getLast?_map, h]; rfl)
        simp only [eIf_ev, tV_ev, eVs, eV0, bind_ok', truthD_lst, em_map, hne, Bool.not_false, if_true, e2_ev, e1_ev, eC_ev, negD_1, hx, Option.getD_some]
    simp only [Bool.not_true, Bool.false_eq_true, if_false, sNil_ev, then_next, sSeq_ev, sSet_ev, c3, outOf_ok, List.set_cons_succ, List.set_cons_zero, sRet_ev, eOr_ev, tB_ev, e2_ev, eVs, eV0, bind_ok', ix_sd hk, eC_ev, ix_op0, ix_op1, eqD_kdw, asB_bool, Bool.true_and, last, eqD_int]
    cases (op st k).w <;> simp
def comp (st : List Op) : Nat → List Nat → List (List Nat)
  | 0, _ => []
  | f + 1, o => if o.length = st.length then [o] else (List.range st.length).flatMap fun k => if k ∉ o ∧ mayF st o k = true then comp st f (o ++ [k]) else []
def InR (st : List Op) (o : List Nat) : Prop := ∀ x ∈ o, x < st.length
theorem InR.snoc {st : List Op} {o : List Nat} {k : Nat} (h : InR st o) (hk : k < st.length) : InR st (o ++ [k]) := fun x hx => by
  rcases List.mem_append.mp hx with hx | hx
  · exact h x hx
  · rw [List.mem_singleton.mp hx]; exact hk
@[simp] theorem opAdd_tup {a b : List PyData} (h : a.length + b.length ≤ LIM) : opAdd (.tuple a) (.tuple b) = .ok (.tuple (a ++ b)) := if_pos h
theorem od_snoc {o : List Nat} {k : Nat} (h : o.length < LIM) : opAdd (od o) (.tuple [nd k]) = .ok (od (o ++ [k])) := by
  rw [opAdd_tup (by simp; omega)]
  simp
theorem extT2_ok {st : List Op} {o : List Nat} {k most : Nat} {fs : List (List Nat)} (hk : k < st.length) (ho : InR st o) :
    extT2 F_may_follow (extEnv (sd st) (od o) (fs.map od) (nd most) (some (.d (nd k)))) = .ok (decide (fs.length < most) && (decide (k ∉ o) && mayF st o k)) := by
  unfold extT2 extEnv
  have h1 : ltD (nd (fs.map od).length) (nd most) = .ok (.bool (decide (fs.length < most))) := by
    rw [List.length_map]
    show R.ok (PyData.bool (decide ((fs.length : Int) < (most : Int)))) = _
    congr 2
    rw [Bool.eq_iff_iff, decide_eq_true_iff, decide_eq_true_iff]
    omega
  simp only [tAnd_ev, tB_ev, e2_ev, e1_ev, eLs', eL0, eVs, eV0, bind_ok', lenD_lst, h1, asB_bool, encN.notInT (by decide) o k, eCall_ev, aC_ev, aN_ok, callN_ev, List.length_cons, List.length_nil, if_true, may_follow_ok hk ho]
  cases decide (fs.length < most) <;> cases decide (k ∉ o) <;> simp
theorem extGo_ok {st : List Op} {o : List Nat} {most : Nat} (F : FM) (g : Nat → List (List Nat)) (ho : InR st o) (hol : o.length < 1000)
    (hF : ∀ (k : Nat) (fs : List (List Nat)), k < st.length → k ∉ o → mayF st o k = true → fs.length < most → F (sd st) (od (o ++ [k])) (fs.map od) (nd most) = .ok ((fs ++ (g k).take (most - fs.length)).map od)) :
    ∀ (ks : List Nat) (fs : List (List Nat)), (∀ k ∈ ks, k < st.length) → fs.length ≤ most →
      extGo F_may_follow F (sd st) (od o) (nd most) (ks.map nd) (fs.map od) = .ok ((fs ++ (ks.flatMap fun k => if k ∉ o ∧ mayF st o k = true then g k else []).take (most - fs.length)).map od)
  | [], fs, _, _ => by simp [extGo]
  | k :: ks, fs, hks, hf => by
    have hk := hks k (by simp)
    have hks' : ∀ k ∈ ks, k < st.length := fun x hx => hks x (by simp [hx])
    rw [List.map_cons, extGo, extT2_ok hk ho]
    have hA : extA (extEnv (sd st) (od o) (fs.map od) (nd most) (some (.d (nd k)))) = .ok (od (o ++ [k])) := by
      unfold extA extEnv
      simp only [e2_ev, eVs, eV0, bind_ok', eT_ev, aC_ev, aN_ok, mkT_1]
      exact od_snoc (by unfold LIM; omega)
    by_cases h1 : fs.length < most
    · by_cases h2 : k ∉ o ∧ mayF st o k = true
      · have e : (decide (fs.length < most) && (decide (k ∉ o) && mayF st o k)) = true := by simp [h1, h2.1, h2.2]
        rw [e]
        simp only [hA, hF k fs hk h2.1 h2.2 h1]
        rw [extGo_ok F g ho hol hF ks _ hks' (by simp; omega)]
        congr 2
        rw [List.flatMap_cons, if_pos h2, List.take_append, List.append_assoc]
        congr 3
        simp
        omega
      · have e : (decide (fs.length < most) && (decide (k ∉ o) && mayF st o k)) = false := by
          by_cases h3 : k ∉ o
          · have : mayF st o k = false := by cases q : mayF st o k with | false => rfl | true => exact absurd ⟨h3, q⟩ h2
            simp [this]
          · simp [h3]
        rw [e]
        simp only
        rw [extGo_ok F g ho hol hF ks fs hks' hf, List.flatMap_cons, if_neg h2, List.nil_append]
    · have e : (decide (fs.length < most) && (decide (k ∉ o) && mayF st o k)) = false := by simp [h1]
      rw [e]
      simp only
      rw [extGo_ok F g ho hol hF ks fs hks' hf]
      have : most - fs.length = 0 := by omega
      simp [this]
theorem extF_ok {st : List Op} (h6 : st.length ≤ 900) {most : Nat} (hm : most ≤ LIM) : ∀ (f : Nat) (o : List Nat) (fs : List (List Nat)), InR st o → o.length ≤ st.length → st.length + 1 ≤ f + o.length → fs.length < most →
    extF F_may_follow f (sd st) (od o) (fs.map od) (nd most) = .ok ((fs ++ (comp st f o).take (most - fs.length)).map od)
  | 0, o, fs, _, h1, h2, _ => by omega
  | f + 1, o, fs, ho, h1, h2, h3 => by
    have t1 : extT1 (extEnv (sd st) (od o) (fs.map od) (nd most) none) = .ok (decide (o.length = st.length)) := by
      unfold extT1 extEnv
      simp only [tB_ev, e2_ev, e1_ev, eVs, eV0, bind_ok', lenD_tup, List.length_map, encN.eqD (by decide) o.length st.length, asB_bool]
    unfold extF
    rw [t1]
    by_cases h : o.length = st.length
    · simp only [h, decide_true, List.length_map]
      rw [if_pos (by omega)]
      unfold comp
      rw [if_pos h, List.take_of_length_le (by simp; omega)]
      simp
    · simp only [h, decide_false]
      have r : iRng1 (e1 lenD (eV 0)) (extEnv (sd st) (od o) (fs.map od) (nd most) none) = .ok ((List.range st.length).map nd) := iRng1_ok (by unfold extEnv; simp) (by omega)
      rw [r]
      simp only
      rw [extGo_ok (extF F_may_follow f) (fun k => comp st f (o ++ [k])) ho (by omega) (fun k fs hk hko hmf hfs => ?_) (List.range st.length) fs (fun k hk => List.mem_range.mp hk) (by omega)]
      · rw [comp, if_neg h]
      · exact extF_ok h6 hm f (o ++ [k]) fs (ho.snoc hk) (by simp; omega) (by simp; omega) hfs
def expl (st : List Op) : List (List Nat) := comp st 8 []
theorem explanations_of_ok {st : List Op} (h6 : st.length ≤ 7) {most : Nat} (hm : most ≤ LIM) (h1 : 1 ≤ most) : F_explanations_of [sd st, nd most] = .ok (.list (((expl st).take most).map od)) := by
  have e := extF_ok (st := st) (by omega) hm 8 [] [] (fun x hx => by cases hx) (by simp) (by simp; omega) (by show 0 < most; omega)
  have e' : sCallM 2 (extF F_may_follow 8) (eV 0) (eT (aN)) (eV 1) [some (.d (sd st)), some (.d (nd most)), some (.l [])] = .next [some (.d (sd st)), some (.d (nd most)), some (.l (((expl st).take most).map od))] := by
    unfold sCallM
    simp only [eV0, eVs, eT_ev, aN_ok, bind_ok', mkT_nil, List.getElem?_cons_succ, List.getElem?_cons_zero]
    rw [show extF F_may_follow 8 (sd st) (.tuple []) [] (nd most) = _ from e]
    simp [expl]
  simp [F_explanations_of, runF_ev, e']
end CP
namespace CP
open PySem L2
def optD : Option (List Nat) → PyData
  | none => .none
  | some o => od o
theorem first_turn {st : List Op} {o : List Nat} {f k : Nat} (hk : k < st.length) (ho : InR st o) (hol : o.length < 1000) (hrec : F_law_first f [sd st, od (o ++ [k])] = .ok (optD (comp st f (o ++ [k])).head?)) (s4 s5 s6 s7 s8 s9 s10 s11 : Option SV) :
    ∃ ρ1, gN 4 (nd k) [some (.d (sd st)), some (.d (od o)), some (.d (.list ((leftN st o).map nd))), some (.d (.list ((0 :: wvals st o).map .int))), s4, s5, s6, s7, s8, s9, s10, s11] = .ok ρ1 ∧
      match (if mayF st o k then (comp st f (o ++ [k])).head?.map od else none) with
      | some d => B_law_first_1 (F_law_first f) ρ1 = .ret d
      | none => ∃ ρ2, B_law_first_1 (F_law_first f) ρ1 = .next ρ2 ∧ ∃ s4 s5 s6 s7 s8 s9 s10 s11, ρ2 = [some (.d (sd st)), some (.d (od o)), some (.d (.list ((leftN st o).map nd))), some (.d (.list ((0 :: wvals st o).map .int))), s4, s5, s6, s7, s8, s9, s10, s11] := by
  refine ⟨_, rfl, ?_⟩
  simp only [List.set_cons_succ, List.set_cons_zero]
  have t1 : ∀ (a b c d e f g h i j : Option SV), sTup [5, 6, 7, 8] (e2 ixD (eV 0) (eV 4)) [some (.d (sd st)), a, b, c, some (.d (nd k)), d, e, f, g, h, i, j] = .next [some (.d (sd st)), a, b, c, some (.d (nd k)), some (.d (.str (kd (op st k).w))), some (.d (.int (op st k).v)), some (.d (.int (op st k).s)), some (.d (.int (op st k).e)), h, i, j] := fun a b c d e f g h i j => by
    unfold sTup
    simp only [e2_ev, eVs, eV0, bind_ok', ix_sd hk]
    rfl
  have c3 : C_law_first_3 [some (.d (sd st)), some (.d (od o)), some (.d (.list ((leftN st o).map nd))), some (.d (.list ((0 :: wvals st o).map .int))), some (.d (nd k)), some (.d (.str (kd (op st k).w))), some (.d (.int (op st k).v)), some (.d (.int (op st k).s)), some (.d (.int (op st k).e)), s9, s10, s11] = .ok (.list (((leftN st o).filter fun j => decide ((op st j).e < (op st k).s)).map nd)) := by
    unfold C_law_first_3
    refine eLc_ok (leftN st o) nd (fun j => decide ((op st j).e < (op st k).s)) nd (by simp) fun j hj => ⟨_, rfl, ?_, fun _ => by simp⟩
    have hj' : j < st.length := List.mem_range.mp (List.mem_filter.mp hj).1
    simp [ix_sd hj']
  have e9 : eqD (.list (((leftN st o).filter fun j => decide ((op st j).e < (op st k).s)).map nd)) (.list []) = .ok (.bool (noEarly st o k)) := by
    have h1 := encN.list.eqD (by decide) ((leftN st o).filter fun j => decide ((op st j).e < (op st k).s)) []
    refine h1.trans ?_
    congr 2
    unfold noEarly
    rw [Bool.eq_iff_iff, decide_eq_true_iff, List.isEmpty_iff]
  have hlast : ixD (.list ((0 :: wvals st o).map .int)) (.int (-1)) = .ok (.int (lastW st o)) := by
    refine ix_neg1 ?_
    rw [List.getLast?_map]
    unfold lastW
    cases h : wvals st o with
    | nil => rfl
    | cons a b => rw [List.getLast?_cons_cons]; cases q : (a :: b).getLast? with
      | none => simp at q
      | some v => rfl
  have test : ∀ (x : Option SV), (tAndF (tB (e2 eqD (eV 9) (eLs (aN)))) (tOrF (tB (e2 eqD (eV 5) (eC (.str "write")))) (tB (e2 eqD (eV 6) (e2 ixD (eV 3) (e1 negD (eC (.int (1)))))))))
      [some (.d (sd st)), some (.d (od o)), some (.d (.list ((leftN st o).map nd))), some (.d (.list ((0 :: wvals st o).map .int))), some (.d (nd k)), some (.d (.str (kd (op st k).w))), some (.d (.int (op st k).v)), some (.d (.int (op st k).s)), some (.d (.int (op st k).e)), some (.d (.list (((leftN st o).filter fun j => decide ((op st j).e < (op st k).s)).map nd))), s10, s11] = .ok (mayF st o k) := fun x => by
    unfold mayF
    simp only [tAnd_ev, tOr_ev, tB_ev, e2_ev, e1_ev, eVs, eV0, eC_ev, eLs_ev, aN_ok, bind_ok', mkL_nil, e9, asB_bool, eqD_kdw, negD_1, hlast, eqD_int]
    cases noEarly st o k <;> cases (op st k).w <;> simp
  have step : B_law_first_1 (F_law_first f) [some (.d (sd st)), some (.d (od o)), some (.d (.list ((leftN st o).map nd))), some (.d (.list ((0 :: wvals st o).map .int))), some (.d (nd k)), s5, s6, s7, s8, s9, s10, s11] =
      if mayF st o k = true then (match (comp st f (o ++ [k])).head? with
        | some x => .ret (od x)
        | none => .next [some (.d (sd st)), some (.d (od o)), some (.d (.list ((leftN st o).map nd))), some (.d (.list ((0 :: wvals st o).map .int))), some (.d (nd k)), some (.d (.str (kd (op st k).w))), some (.d (.int (op st k).v)), some (.d (.int (op st k).s)), some (.d (.int (op st k).e)), some (.d (.list (((leftN st o).filter fun j => decide ((op st j).e < (op st k).s)).map nd))), some (.d .none), s11])
      else .next [some (.d (sd st)), some (.d (od o)), some (.d (.list ((leftN st o).map nd))), some (.d (.list ((0 :: wvals st o).map .int))), some (.d (nd k)), some (.d (.str (kd (op st k).w))), some (.d (.int (op st k).v)), some (.d (.int (op st k).s)), some (.d (.int (op st k).e)), some (.d (.list (((leftN st o).filter fun j => decide ((op st j).e < (op st k).s)).map nd))), s10, s11] := by
    unfold B_law_first_1
    rw [sSeq_ev, t1, then_next, sSeq_ev, set_ok c3, then_next]
    simp only [List.set_cons_succ, List.set_cons_zero]
    rw [sIf_ev, test none, outOf_ok]
    cases mayF st o k with
    | false => rfl
    | true =>
      simp only [if_true]
      rw [sSeq_ev, set_ok (d := optD (comp st f (o ++ [k])).head?), then_next]
      · simp only [List.set_cons_succ, List.set_cons_zero]
        cases (comp st f (o ++ [k])).head? with
        | none => rfl
        | some x => rfl
      · simp only [eCall_ev, aC_ev, aN_ok, e2_ev, eVs, eV0, bind_ok', eT_ev, mkT_1, od_snoc (show o.length < LIM by unfold LIM; omega), callN_ev, List.length_cons, List.length_nil, if_true, hrec]
  rw [step]
  cases mayF st o k with
  | false => exact ⟨_, rfl, _, _, _, _, _, _, _, _, rfl⟩
  | true =>
    simp only [if_true]
    cases (comp st f (o ++ [k])).head? with
    | none => exact ⟨_, rfl, _, _, _, _, _, _, _, _, rfl⟩
    | some x => rfl
theorem law_first_ok {st : List Op} (h6 : st.length ≤ 900) : ∀ (f : Nat) (o : List Nat), InR st o → o.length ≤ st.length → st.length + 1 ≤ f + o.length → F_law_first f [sd st, od o] = .ok (optD (comp st f o).head?)
  | 0, o, _, h1, h2 => by omega
  | f + 1, o, ho, h1, h2 => by
    unfold F_law_first
    rw [runF_ev]
    simp only [List.map_cons, List.map_nil, List.length_cons, List.length_nil, List.cons_append, List.nil_append, List.replicate]
    have tst : (tB (e2 eqD (e1 lenD (eV 1)) (e1 lenD (eV 0)))) [some (.d (sd st)), some (.d (od o)), none, none, none, none, none, none, none, none, none, none] = .ok (decide (o.length = st.length)) := by
      simp only [tB_ev, e2_ev, e1_ev, eVs, eV0, bind_ok', lenD_tup, List.length_map, encN.eqD (by decide) o.length st.length, asB_bool]
    rw [sSeq_ev, sIf_ev, tst, outOf_ok]
    by_cases h : o.length = st.length
    · simp only [h, decide_true, if_true]
      rw [comp, if_pos h]
      rfl
    · simp only [h, decide_false, Bool.false_eq_true, if_false, sNil_ev, then_next]
      have c1 : C_law_first_1 [some (.d (sd st)), some (.d (od o)), none, none, none, none, none, none, none, none, none, none] = .ok (.list ((leftN st o).map nd)) := by
        unfold C_law_first_1 leftN
        exact eLc_ok (List.range st.length) nd (fun j => decide (j ∉ o)) nd (iRng1_ok (by simp) (by omega)) fun j _ => ⟨_, rfl, by simp [encN.notInT (by decide) o j], fun _ => by simp⟩
      have c2 : ∀ x, C_law_first_2 [some (.d (sd st)), some (.d (od o)), x, none, none, none, none, none, none, none, none, none] = .ok (.list ((wvals st o).map .int)) := fun x => by
        unfold C_law_first_2 wvals
        rw [List.map_map]
        exact eLc_ok o nd (fun j => (op st j).w) (PyData.int ∘ fun j => (op st j).v) (by simp) fun j hj => ⟨_, rfl, by simp [ix_sd (ho j hj)], fun _ => by simp [ix_sd (ho j hj)]⟩
      have wl : (wvals st o).length ≤ 1000 := by
        unfold wvals
        rw [List.length_map]
        have := List.length_filter_le (fun j => (op st j).w) o
        omega
      have ad : opAdd (.list [.int 0]) (.list ((wvals st o).map .int)) = .ok (.list ((0 :: wvals st o).map .int)) := by
        show (if _ then _ else _) = _
        rw [if_pos (by simp; unfold LIM; omega)]
        rfl
      rw [sSeq_ev, set_ok c1, then_next]
      simp only [List.set_cons_succ, List.set_cons_zero]
      rw [sSeq_ev, set_ok (d := .list ((0 :: wvals st o).map .int)) (by simp only [e2_ev, eLs_ev, aC_ev, eC_ev, aN_ok, bind_ok', mkL_1, c2, ad]), then_next]
      simp only [List.set_cons_succ, List.set_cons_zero]
      rw [sSeq_ev, sFor_ev, iSeq_lst (xs := (leftN st o).map nd) rfl, outOf_ok]
      have fd := forGo_find (g := gN 4) (b := B_law_first_1 (F_law_first f)) (c := nd) (fun ρ => ∃ s4 s5 s6 s7 s8 s9 s10 s11, ρ = [some (.d (sd st)), some (.d (od o)), some (.d (.list ((leftN st o).map nd))), some (.d (.list ((0 :: wvals st o).map .int))), s4, s5, s6, s7, s8, s9, s10, s11])
        (fun k => if mayF st o k then (comp st f (o ++ [k])).head?.map od else none) (leftN st o) _ ⟨none, none, none, none, none, none, none, none, rfl⟩ (by
          rintro k hk ρ ⟨s4, s5, s6, s7, s8, s9, s10, s11, rfl⟩
          have hk' : k < st.length := List.mem_range.mp (List.mem_filter.mp hk).1
          exact first_turn hk' ho (by omega) (law_first_ok h6 f (o ++ [k]) (ho.snoc hk') (by simp; omega) (by simp; omega)) s4 s5 s6 s7 s8 s9 s10 s11)
      have key : (leftN st o).findSome? (fun k => if mayF st o k then (comp st f (o ++ [k])).head?.map od else none) = (comp st (f + 1) o).head?.map od := by
        rw [comp, if_neg h, List.head?_flatMap]
        unfold leftN
        induction List.range st.length with
        | nil => rfl
        | cons a l ih =>
          rw [List.filter_cons, List.findSome?_cons]
          by_cases hm : a ∈ o
          · simp only [hm, not_true, decide_false, Bool.false_eq_true, if_false, false_and]
            exact ih
          · simp only [hm, not_false_eq_true, decide_true, if_true, true_and, List.findSome?_cons]
            cases mayF st o a with
            | false => exact ih
            | true =>
              simp only [if_true]
              cases (comp st f (o ++ [a])).head? with
              | none => exact ih
              | some x => rfl
      rw [key] at fd
      cases q : (comp st (f + 1) o).head? with
      | none =>
        rw [q] at fd
        obtain ⟨ρ', h1, h2⟩ := fd
        rw [h1]
        rfl
      | some x =>
        rw [q] at fd
        rw [fd]
        rfl
end CP
namespace CP
open PySem L2
theorem forGo_cc {g : PyData → EV → R EV} {b : FS} (c : Nat → PyData) (n : Nat) (I : Nat → EV → Prop) (ρ : EV) (h : I 0 ρ) (st : ∀ x : Nat, x < n → ∀ ρ, I x ρ → ∃ ρ1 ρ2, g (c x) ρ = .ok ρ1 ∧ b ρ1 = .next ρ2 ∧ I (x + 1) ρ2) :
    ∃ ρ', forGo g b ((List.range n).map c) ρ = .next ρ' ∧ I n ρ' := by
  have key : ∀ (m : Nat) (ρ : EV), m ≤ n → I m ρ → ∃ ρ', forGo g b ((List.range' m (n - m)).map c) ρ = .next ρ' ∧ I n ρ' := by
    intro m
    generalize hk : n - m = k
    induction k generalizing m with
    | zero => intro ρ hm h; have e : m = n := (by omega); subst e; exact ⟨ρ, rfl, h⟩
    | succ k ih =>
      intro ρ hm h
      obtain ⟨ρ1, ρ2, h1, h2, h3⟩ := st m (by omega) ρ h
      obtain ⟨ρ', h4, h5⟩ := ih (m + 1) (by omega) ρ2 (by omega) h3
      exact ⟨ρ', by rw [List.range'_succ, List.map_cons, forGo_next h1 h2]; exact h4, h5⟩
  have := key 0 ρ (by omega) h
  rwa [Nat.sub_zero, ← List.range_eq_range'] at this
theorem while_find {t : EV → R Bool} {b : FS} (N : Nat) (I : Nat → EV → Prop) (p : Nat → Option PyData) (step : ∀ m ρ, m < N → I m ρ → t ρ = .ok true ∧ match p m with | some d => b ρ = .ret d | none => ∃ ρ', b ρ = .next ρ' ∧ I (m + 1) ρ') :
    ∀ (k m f : Nat) (ρ : EV) (d : PyData), I m ρ → m + k ≤ N → k ≤ f → (List.range' m k).findSome? p = some d → whileGo t b f ρ = .ret d
  | 0, m, f, ρ, d, _, _, _, h => by simp at h
  | k + 1, m, 0, ρ, d, _, _, hf, _ => by omega
  | k + 1, m, f + 1, ρ, d, hI, hN, hf, h => by
    rw [List.range'_succ, List.findSome?_cons] at h
    obtain ⟨h1, h2⟩ := step m ρ (by omega) hI
    rw [whileGo, h1]
    cases q : p m with
    | some e =>
      rw [q] at h2 h
      cases h
      simp only [h2]
    | none =>
      rw [q] at h2 h
      obtain ⟨ρ', e1, e2⟩ := h2
      simp only [e1]
      exact while_find N I p step k (m + 1) f ρ' d e2 (by omega) (by omega) h
def ch : List Nat → Nat → List (List Nat)
  | _, 0 => [[]]
  | [], _ + 1 => []
  | x :: xs, m + 1 => (ch xs m).map (x :: ·) ++ ch xs (m + 1)
theorem ch_zero (xs : List Nat) : ch xs 0 = [[]] := by cases xs <;> rfl
theorem ch_len : ∀ (xs : List Nat) (m : Nat), (ch xs m).length ≤ 2 ^ xs.length
  | xs, 0 => by rw [ch_zero]; exact Nat.one_le_two_pow
  | [], _ + 1 => by simp [ch]
  | x :: xs, m + 1 => by
    simp only [ch, List.length_append, List.length_map, List.length_cons, Nat.pow_succ]
    have h1 := ch_len xs m
    have h2 := ch_len xs (m + 1)
    omega
def chP (xs : List Nat) (m p : Nat) : List (List Nat) := (List.range p).flatMap fun i => (ch (xs.drop (i + 1)) m).map (xs.getD i 0 :: ·)
theorem ch_parts : ∀ (xs : List Nat) (m : Nat), ch xs (m + 1) = chP xs m xs.length
  | [], m => rfl
  | x :: xs, m => by
    rw [ch, ch_parts xs m]
    unfold chP
    rw [List.length_cons, List.range_succ_eq_map, List.flatMap_cons, List.flatMap_map]
    rfl
theorem chP_succ (xs : List Nat) (m p : Nat) : chP xs m (p + 1) = chP xs m p ++ (ch (xs.drop (p + 1)) m).map (xs.getD p 0 :: ·) := by
  unfold chP
  rw [List.range_succ, List.flatMap_append]
  simp
theorem chP_len (xs : List Nat) (m p : Nat) : (chP xs m p).length ≤ p * 2 ^ xs.length := by
  induction p with
  | zero => simp [chP]
  | succ p ih =>
    rw [chP_succ, List.length_append, List.length_map, Nat.succ_mul]
    have h1 := ch_len (xs.drop (p + 1)) m
    have h2 : 2 ^ (xs.drop (p + 1)).length ≤ 2 ^ xs.length := Nat.pow_le_pow_right (by omega) (by simp)
    omega
theorem drop_slice (xs : List Nat) (p : Nat) (h : p + 1 ≤ xs.length) : sliceD (.list (xs.map nd)) (some ((p : Int) + 1)) none = .ok (.list ((xs.drop (p + 1)).map nd)) := by
  show R.ok (PyData.list (cutD (xs.map nd) (some ((p : Int) + 1)) none)) = _
  congr 2
  unfold cutD
  simp only [HT.sIx, List.length_map]
  rw [if_neg (by omega), show min (Int.toNat ((p : Int) + 1)) xs.length = p + 1 by omega, ← List.map_drop, List.take_of_length_le (by simp)]
theorem enumL_nd (xs : List Nat) : enumL (xs.map nd) = (List.range xs.length).map fun i => .tuple [nd i, nd (xs.getD i 0)] := by
  unfold enumL
  rw [rangeL_nd, List.length_map]
  apply List.ext_getElem?
  intro i
  by_cases h : i < xs.length
  · have hz : ((List.range xs.length).map nd).zip (xs.map nd) = (((List.range xs.length).zip xs).map fun p => (nd p.1, nd p.2)) := by rw [List.zip_map]; rfl
    rw [hz, List.getElem?_map, List.getElem?_map, List.getElem?_map, List.getElem?_range h, (List.getElem?_zip_eq_some (z := (i, xs[i]))).mpr ⟨List.getElem?_range h, List.getElem?_eq_getElem h⟩]
    simp [List.getD_eq_getElem?_getD, List.getElem?_eq_getElem h]
  · rw [List.getElem?_eq_none (by simp; omega), List.getElem?_eq_none (by simp; omega)]
theorem choices_ok : ∀ (f : Nat) (xs : List Nat) (m : Nat), xs.length ≤ 7 → m < f → F_choices f [.list (xs.map nd), nd m] = .ok (.list ((ch xs m).map od))
  | 0, _, _, _, h => by omega
  | f + 1, xs, 0, hx, _ => by
    unfold F_choices
    rw [runF_ev]
    simp [ch_zero]
  | f + 1, xs, m + 1, hx, hm => by
    have p7 : 2 ^ xs.length ≤ 2 ^ 7 := Nat.pow_le_pow_right (by omega) hx
    obtain ⟨ρ', L, y3, y4, rfl⟩ := forGo_cc (g := gT [3, 4]) (b := B_choices_1 (F_choices f)) (fun i => .tuple [nd i, nd (xs.getD i 0)]) xs.length (fun p ρ => ∃ y3 y4, ρ = [some (.d (.list (xs.map nd))), some (.d (nd (m + 1))), some (.l ((chP xs m p).map od)), y3, y4, none])
      [some (.d (.list (xs.map nd))), some (.d (nd (m + 1))), some (.l []), none, none, none] ⟨none, none, rfl⟩ (by
        rintro x hx' ρ ⟨y3, y4, rfl⟩
        have ih := choices_ok f (xs.drop (x + 1)) m (by simp; omega) (by omega)
        have e : ((m + 1 : Nat) : Int) - 1 = (m : Int) := by omega
        have hc : C_choices_1 (F_choices f) [some (.d (.list (xs.map nd))), some (.d (nd (m + 1))), some (.l ((chP xs m x).map od)), some (.d (nd x)), some (.d (nd (xs.getD x 0))), none] = .ok (.list (((ch (xs.drop (x + 1)) m).map (xs.getD x 0 :: ·)).map od)) := by
          unfold C_choices_1
          rw [List.map_map]
          refine eLc_all (ch (xs.drop (x + 1)) m) od (od ∘ (xs.getD x 0 :: ·)) ?_ fun r hr => ⟨_, rfl, ?_⟩
          · simp only [iSeq_ev, eCall_ev, aC_ev, aN_ok, eSl, oS, oN, e2_ev, eV0, eVs, eC_ev, bind_ok', opAdd_int, asI, opSub_int, e, drop_slice xs x (by omega), callN_ev, List.length_cons, List.length_nil, if_true, ih, seqD_l]
          · have hl : r.length ≤ 7 := by
              have : ∀ (ys : List Nat) (k : Nat) (r : List Nat), r ∈ ch ys k → r.length ≤ ys.length := by
                intro ys
                induction ys with
                | nil => intro k r h; cases k with
                  | zero => simp [ch] at h; simp [h]
                  | succ k => simp [ch] at h
                | cons y ys ih => intro k r h; cases k with
                  | zero => rw [ch_zero] at h; simp at h; simp [h]
                  | succ k =>
                    rw [ch] at h
                    rcases List.mem_append.mp h with h | h
                    · obtain ⟨q, hq, rfl⟩ := List.mem_map.mp h
                      have := ih k q hq
                      simp; omega
                    · have := ih (k + 1) r h
                      simp; omega
              have := this _ _ _ hr
              simp at this
              omega
            simp only [wipeE_c, wipeE_n, List.set_cons_succ, List.set_cons_zero, e2_ev, eT_ev, aC_ev, aN_ok, eVs, eV0, bind_ok', mkT_1]
            rw [opAdd_tup (by simp; unfold LIM; omega)]
            rfl
        refine ⟨_, _, rfl, ?_, some (.d (nd x)), some (.d (nd (xs.getD x 0))), rfl⟩
        have l1 := chP_len xs m x
        have l2 := ch_len (xs.drop (x + 1)) m
        have l3 : 2 ^ (xs.drop (x + 1)).length ≤ 2 ^ xs.length := Nat.pow_le_pow_right (by omega) (by simp)
        have l4 : x * 2 ^ xs.length ≤ 7 * 2 ^ 7 := Nat.mul_le_mul (by omega) p7
        have go : B_choices_1 (F_choices f) [some (.d (.list (xs.map nd))), some (.d (nd (m + 1))), some (.l ((chP xs m x).map od)), some (.d (nd x)), some (.d (nd (xs.getD x 0))), none] = .next [some (.d (.list (xs.map nd))), some (.d (nd (m + 1))), some (.l ((chP xs m (x + 1)).map od)), some (.d (nd x)), some (.d (nd (xs.getD x 0))), none] := by
          unfold B_choices_1
          rw [ext_ok (ds := (chP xs m x).map od) rfl hc (by simp; unfold LIM; omega), chP_succ, List.map_append]
          rfl
        exact go)
    unfold F_choices
    rw [runF_ev]
    have hne : ((m : Int) + 1) ≠ 0 := by omega
    have hen : ∀ r : EV, iEnum (eV 0) (some (.d (.list (xs.map nd))) :: r) = .ok ((List.range xs.length).map fun i => .tuple [nd i, nd (xs.getD i 0)]) := fun r => by
      show R.ok (enumL (xs.map nd)) = _
      rw [enumL_nd]
    rw [ch_parts]
    have tst : ∀ r : EV, (tB (e2 eqD (eV 1) (eC (.int 0)))) (some (.d (.list (xs.map nd))) :: some (.d (nd (m + 1))) :: r) = .ok false := fun r => by
      simp only [tB_ev, e2_ev, eVs, eV0, eC_ev, bind_ok', eqD_int, asB_bool]
      have : decide (((m + 1 : Nat) : Int) = 0) = false := by rw [decide_eq_false_iff_not]; omega
      rw [this]
    simp only [List.map_cons, List.map_nil, List.length_cons, List.length_nil, List.cons_append, List.nil_append, List.replicate, sSeq_ev, sIf_ev, tst, outOf_ok, Bool.false_eq_true, if_false, sNil_ev, then_next, sOwn_ev, eLs_ev, aN_ok, bind_ok', mkL_nil, List.set_cons_succ, List.set_cons_zero, sFor_ev, hen, L, sRet_ev, eLs', eL0, runO_ret]
def dropS (st : List Op) (g : List Nat) : List Op := (leftN st g).map (op st)
theorem dropS_len (st : List Op) (g : List Nat) : (dropS st g).length ≤ st.length := by
  unfold dropS leftN
  rw [List.length_map]
  have := List.length_filter_le (fun j => decide (j ∉ g)) (List.range st.length)
  simpa using this
def good (st : List Op) (g : List Nat) : Bool := !(expl (dropS st g)).isEmpty
def fewest (st : List Op) (m : Nat) : Option (List Nat) := (ch (List.range st.length) m).find? (good st)
theorem findSome_find {α : Type} (p : α → Bool) (f : α → PyData) : ∀ l : List α, l.findSome? (fun x => if p x then some (f x) else none) = (l.find? p).map f
  | [] => rfl
  | x :: l => by
    rw [List.findSome?_cons, List.find?_cons]
    cases p x with
    | true => rfl
    | false => exact findSome_find p f l
theorem fewest_step {st : List Op} (h6 : st.length ≤ 7) (m : Nat) (hm : m < 8) (s2 s3 s4 s5 : Option SV) :
    match (fewest st m).map od with
    | some d => B_fewest_dropped_2 [some (.d (sd st)), some (.d (nd m)), s2, s3, s4, s5] = .ret d
    | none => ∃ z2 z3 z4 z5, B_fewest_dropped_2 [some (.d (sd st)), some (.d (nd m)), s2, s3, s4, s5] = .next [some (.d (sd st)), some (.d (nd (m + 1))), z2, z3, z4, z5] := by
  have hch : (eCall 2 (F_choices 8) (aC (eLRng1 (e1 lenD (eV 0))) (aC (eV 1) (aN)))) [some (.d (sd st)), some (.d (nd m)), s2, s3, s4, s5] = .ok (.list ((ch (List.range st.length) m).map od)) := by
    have e : eLRng1 (e1 lenD (eV 0)) [some (.d (sd st)), some (.d (nd m)), s2, s3, s4, s5] = .ok (.list ((List.range st.length).map nd)) := by
      unfold eLRng1
      rw [iRng1_ok (n := st.length) (by simp) (by omega)]
      rfl
    simp only [eCall_ev, aC_ev, aN_ok, e, eVs, eV0, bind_ok', callN_ev, List.length_cons, List.length_nil, if_true]
    exact choices_ok 8 (List.range st.length) m (by simp; omega) (by omega)
  have fd := forGo_find (g := gN 2) (b := B_fewest_dropped_1) (c := od) (fun ρ => ∃ s2 s3 s4 s5, ρ = [some (.d (sd st)), some (.d (nd m)), s2, s3, s4, s5]) (fun g => if good st g then some (od g) else none) (ch (List.range st.length) m) [some (.d (sd st)), some (.d (nd m)), s2, s3, s4, s5] ⟨s2, s3, s4, s5, rfl⟩ (by
    rintro g hg ρ ⟨s2, s3, s4, s5, rfl⟩
    refine ⟨_, rfl, ?_⟩
    have hc : C_fewest_dropped_1 [some (.d (sd st)), some (.d (nd m)), some (.d (od g)), s3, s4, s5] = .ok (.list ((dropS st g).map Op.d)) := by
      unfold C_fewest_dropped_1 dropS leftN
      rw [List.map_map]
      exact eLc_ok (List.range st.length) _ (fun j => decide (j ∉ g)) (Op.d ∘ op st) (iEnum_sd rfl) fun j _ => ⟨_, rfl, by simp [encN.notInT (by decide) g j], fun _ => by simp⟩
    have hx : F_explanations_of [sd (dropS st g), .int 1] = .ok (.list (((expl (dropS st g)).take 1).map od)) := explanations_of_ok (most := 1) (by have := dropS_len st g; omega) (by unfold LIM; omega) (by omega)
    have ht : (((expl (dropS st g)).take 1).map od).isEmpty = (expl (dropS st g)).isEmpty := by cases expl (dropS st g) <;> rfl
    have step : B_fewest_dropped_1 [some (.d (sd st)), some (.d (nd m)), some (.d (od g)), s3, s4, s5] = if good st g then .ret (od g) else .next [some (.d (sd st)), some (.d (nd m)), some (.d (od g)), some (.d (sd (dropS st g))), s4, s5] := by
      unfold B_fewest_dropped_1 good
      simp only [sSeq_ev, sSet_ev, e1_ev, hc, bind_ok', tupleD_l, outOf_ok, then_next, List.set_cons_succ, List.set_cons_zero, sIf_ev, tV_ev, eCall_ev, aC_ev, aN_ok, eVs, eV0, eC_ev, callN_ev, List.length_cons, List.length_nil, if_true, hx, truthD_lst, ht, sRet_ev, sNil_ev]
    simp only [List.set_cons_succ, List.set_cons_zero, step]
    cases good st g with
    | true => rfl
    | false => exact ⟨_, rfl, _, _, _, _, rfl⟩)
  rw [findSome_find] at fd
  unfold fewest
  unfold B_fewest_dropped_2
  simp only [sSeq_ev, sFor_ev, iSeq_ev, hch, bind_ok', seqD_l, outOf_ok]
  cases q : (ch (List.range st.length) m).find? (good st) with
  | some g =>
    rw [q] at fd
    simp only [Option.map] at fd ⊢
    rw [fd]
    rfl
  | none =>
    rw [q] at fd
    simp only [Option.map] at fd ⊢
    obtain ⟨ρ', e, s2', s3', s4', s5', rfl⟩ := fd
    rw [e]
    exact ⟨s2', s3', s4', s5', rfl⟩
theorem fewest_dropped_ok {st : List Op} (hv : Valid st) {g : List Nat} (h : (List.range' 0 7).findSome? (fewest st) = some g) : F_fewest_dropped [sd st] = .ok (od g) := by
  have h6 := hv.len
  have hd : (List.range' 0 7).findSome? (fun m => (fewest st m).map od) = some (od g) := by
    have : (List.range' 0 7).findSome? (fun m => (fewest st m).map od) = ((List.range' 0 7).findSome? (fewest st)).map od := by
      induction List.range' 0 7 with
      | nil => rfl
      | cons a l ih =>
        rw [List.findSome?_cons, List.findSome?_cons]
        cases fewest st a with
        | none => exact ih
        | some x => rfl
    rw [this, h]
    rfl
  have w := while_find (t := tV (eC (.bool true))) (b := B_fewest_dropped_2) 7 (fun m ρ => ∃ s2 s3 s4 s5, ρ = [some (.d (sd st)), some (.d (nd m)), s2, s3, s4, s5]) (fun m => (fewest st m).map od) (by
    rintro m ρ hm ⟨s2, s3, s4, s5, rfl⟩
    refine ⟨rfl, ?_⟩
    have s := fewest_step (st := st) (by omega) m (by omega) s2 s3 s4 s5
    cases q : (fewest st m).map od with
    | some d => rw [q] at s; exact s
    | none =>
      rw [q] at s
      obtain ⟨z2, z3, z4, z5, e⟩ := s
      exact ⟨_, e, z2, z3, z4, z5, rfl⟩) 7 0 10 [some (.d (sd st)), some (.d (nd 0)), none, none, none, none] (od g) ⟨_, _, _, _, rfl⟩ (by omega) (by omega) hd
  have w' : whileGo (tV (eC (.bool true))) B_fewest_dropped_2 10 [some (.d (sd st)), some (.d (.int 0)), none, none, none, none] = .ret (od g) := w
  simp [F_fewest_dropped, runF_ev, check_story_ok hv, w']
end CP
namespace CP
open PySem L2
structure Expl (st : List Op) (o : List Nat) : Prop where
  inr : InR st o
  nd : o.Nodup
  len : o.length = st.length
  ok : ∀ (i : Nat) (h : i < o.length), mayF st (o.take i) o[i] = true
theorem mem_comp {st : List Op} : ∀ (f : Nat) (o o' : List Nat), InR st o → o.Nodup → o.length ≤ st.length → (∀ (i : Nat) (h : i < o.length), mayF st (o.take i) o[i] = true) → st.length + 1 ≤ f + o.length → (o' ∈ comp st f o ↔ o <+: o' ∧ Expl st o')
  | 0, o, o', _, _, h1, _, h2 => by omega
  | f + 1, o, o', hr, hn, hl, hok, hf => by
    rw [comp]
    by_cases h : o.length = st.length
    · rw [if_pos h, List.mem_singleton]
      constructor
      · rintro rfl
        exact ⟨List.prefix_refl _, hr, hn, h, hok⟩
      · rintro ⟨hp, he⟩
        exact (hp.eq_of_length (by rw [h, he.len])).symm
    · rw [if_neg h, List.mem_flatMap]
      have snoc_ok : ∀ k, mayF st o k = true → ∀ (i : Nat) (hi : i < (o ++ [k]).length), mayF st ((o ++ [k]).take i) (o ++ [k])[i] = true := fun k hk i hi => by
        rw [List.length_append, List.length_singleton] at hi
        by_cases hi' : i < o.length
        · rw [List.take_append_of_le_length (by omega), List.getElem_append_left hi']
          exact hok i hi'
        · have e : i = o.length := by omega
          subst e
          rw [List.take_left, List.getElem_append_right (Nat.le_refl _)]
          simpa using hk
      constructor
      · rintro ⟨k, hk, h1⟩
        have hk := List.mem_range.mp hk
        by_cases hc : k ∉ o ∧ mayF st o k = true
        · rw [if_pos hc] at h1
          have ih := (mem_comp f (o ++ [k]) o' (hr.snoc hk) (List.nodup_append.mpr ⟨hn, by simp, fun a ha b hb e => hc.1 (by rw [← List.mem_singleton.mp hb, ← e]; exact ha)⟩) (by simp; omega) (snoc_ok k hc.2) (by simp; omega)).mp h1
          exact ⟨(List.prefix_append o [k]).trans ih.1, ih.2⟩
        · rw [if_neg hc] at h1
          cases h1
      · rintro ⟨hp, he⟩
        have hlt : o.length < o'.length := by rw [he.len]; omega
        have et : o'.take o.length = o := (List.prefix_iff_eq_take.mp hp).symm
        have hk : o'[o.length] < st.length := he.inr _ (List.getElem_mem hlt)
        have hm : mayF st o o'[o.length] = true := by have := he.ok o.length hlt; rwa [et] at this
        have e2 : o'.take (o.length + 1) = o ++ [o'[o.length]] := by rw [List.take_succ_eq_append_getElem hlt, et]
        have hno : o'[o.length] ∉ o := fun hmem => by
          have := he.nd.sublist (List.take_sublist (o.length + 1) o')
          rw [e2] at this
          exact (List.nodup_append.mp this).2.2 _ hmem _ (by simp) rfl
        refine ⟨o'[o.length], List.mem_range.mpr hk, ?_⟩
        rw [if_pos ⟨hno, hm⟩]
        refine (mem_comp f (o ++ [o'[o.length]]) o' (hr.snoc hk) (List.nodup_append.mpr ⟨hn, by simp, fun a ha b hb e => hno (by rw [← List.mem_singleton.mp hb, ← e]; exact ha)⟩) (by simp; omega) (snoc_ok _ hm) (by simp; omega)).mpr ⟨?_, he⟩
        rw [← e2]
        exact List.take_prefix _ _
theorem mem_expl {st : List Op} (h6 : st.length ≤ 7) {o : List Nat} : o ∈ expl st ↔ Expl st o := by
  have := mem_comp (st := st) 8 [] o (fun x h => by cases h) List.nodup_nil (by simp) (fun i h => by simp at h) (by simp; omega)
  unfold expl
  rw [this]
  exact ⟨fun h => h.2, fun h => ⟨List.nil_prefix, h⟩⟩
def fac : Nat → Nat
  | 0 => 1
  | n + 1 => (n + 1) * fac n
theorem flat_len {α : Type} (l : List Nat) (p : Nat → Prop) [DecidablePred p] (q : Nat → Prop) [DecidablePred q] (g : Nat → List α) (m : Nat) (h : ∀ k ∈ l, p k → q k → (g k).length ≤ m) : (l.flatMap fun k => if p k ∧ q k then g k else []).length ≤ (l.filter fun k => decide (p k)).length * m := by
  induction l with
  | nil => simp
  | cons a l ih =>
    have ih := ih fun k hk => h k (by simp [hk])
    rw [List.flatMap_cons, List.length_append]
    by_cases hp : p a
    · have ef : (a :: l).filter (fun k => decide (p k)) = a :: l.filter (fun k => decide (p k)) := by rw [List.filter_cons, if_pos (decide_eq_true hp)]
      rw [ef, List.length_cons, Nat.succ_mul]
      by_cases hq : q a
      · rw [if_pos (And.intro hp hq)]
        have := h a (by simp) hp hq
        omega
      · rw [if_neg fun z : p a ∧ q a => hq z.2, List.length_nil]
        omega
    · have ef : (a :: l).filter (fun k => decide (p k)) = l.filter (fun k => decide (p k)) := by rw [List.filter_cons, if_neg (by simpa using hp)]
      rw [ef, if_neg fun z : p a ∧ q a => hp z.1, List.length_nil, Nat.zero_add]
      exact ih
theorem leftN_len {st : List Op} {o : List Nat} (hr : InR st o) (hn : o.Nodup) : (leftN st o).length + o.length = st.length := by
  have key : ∀ (o : List Nat), o.Nodup → ∀ l : List Nat, l.Nodup → (∀ x ∈ o, x ∈ l) → (l.filter fun j => decide (j ∉ o)).length + o.length = l.length := by
    intro o
    induction o with
    | nil => intro _ l _ _; rw [List.filter_eq_self.mpr (by simp)]; simp
    | cons a o ih =>
      intro hn l hl hs
      have hn' := List.nodup_cons.mp hn
      have h1 := ih hn'.2 l hl fun x hx => hs x (by simp [hx])
      have e : (l.filter fun x => decide (x ∉ a :: o)) = (l.filter fun x => decide (x ∉ o)).filter (fun x => x != a) := by
        rw [List.filter_filter]
        congr 1
        funext x
        by_cases h : x = a <;> by_cases h' : x ∈ o <;> simp [h, h']
      have hf : (l.filter fun x => decide (x ∉ o)).Nodup := hl.filter _
      have ha : a ∈ l.filter fun x => decide (x ∉ o) := List.mem_filter.mpr ⟨hs a (by simp), by simpa using hn'.1⟩
      rw [e, ← hf.erase_eq_filter, List.length_erase_of_mem ha, List.length_cons]
      have := List.length_pos_of_mem ha
      omega
  have := key o hn (List.range st.length) List.nodup_range fun x hx => List.mem_range.mpr (hr x hx)
  rwa [List.length_range] at this
theorem comp_len {st : List Op} : ∀ (f : Nat) (o : List Nat), InR st o → o.Nodup → (comp st f o).length ≤ fac (st.length - o.length)
  | 0, o, _, _ => by simp [comp]
  | f + 1, o, hr, hn => by
    rw [comp]
    have hl := leftN_len hr hn
    by_cases h : o.length = st.length
    · rw [if_pos h, h, Nat.sub_self]
      exact Nat.le_refl _
    · rw [if_neg h]
      have := flat_len (List.range st.length) (fun k => k ∉ o) (fun k => mayF st o k = true) (fun k => comp st f (o ++ [k])) (fac (st.length - (o.length + 1))) (fun k hk hp hq => by
        have := comp_len f (o ++ [k]) (hr.snoc (List.mem_range.mp hk)) (List.nodup_append.mpr ⟨hn, by simp, fun a ha b hb e => hp (by rw [← List.mem_singleton.mp hb, ← e]; exact ha)⟩)
        rwa [List.length_append, List.length_singleton] at this)
      have e : (List.range st.length).filter (fun k => decide (k ∉ o)) = leftN st o := rfl
      rw [e] at this
      obtain ⟨m, hm⟩ : ∃ m, st.length - o.length = m + 1 := ⟨st.length - o.length - 1, by omega⟩
      rw [show st.length - (o.length + 1) = m by omega, show (leftN st o).length = m + 1 by omega] at this
      rw [hm]
      exact this
theorem expl_len {st : List Op} (h6 : st.length ≤ 6) : (expl st).length ≤ 720 := by
  have := comp_len (st := st) 8 [] (fun x h => by cases h) List.nodup_nil
  unfold expl
  refine Nat.le_trans this ?_
  rw [List.length_nil, Nat.sub_zero]
  obtain ⟨n, hn⟩ : ∃ n, n = st.length := ⟨_, rfl⟩
  rw [← hn] at h6 ⊢
  have : n = 0 ∨ n = 1 ∨ n = 2 ∨ n = 3 ∨ n = 4 ∨ n = 5 ∨ n = 6 := by omega
  rcases this with rfl | rfl | rfl | rfl | rfl | rfl | rfl <;> decide
theorem idx_ok {o : List Nat} {k : Nat} (h : k ∈ o) (hz : TZ = true := by first | rfl | assumption) : idxD (od o) (nd k) = .ok (nd (o.idxOf k)) := by
  have h1 : strHead (o.map nd) = false := by cases o <;> rfl
  have h2 : (o.map nd).findIdx? (fun z => PyData.eqv z (nd k)) = some (o.idxOf k) := by
    rw [List.findIdx?_map]
    have e : ((fun z => PyData.eqv z (nd k)) ∘ nd) = fun z => decide (z = k) := by funext z; exact encN.eq z k
    rw [e]
    refine List.findIdx?_eq_some_iff_getElem.mpr ⟨List.idxOf_lt_length_of_mem h, by simp [List.getElem_idxOf], fun j hj => ?_⟩
    have := List.not_of_lt_findIdx (p := fun z => z == k) (xs := o) (i := j) hj
    simpa using this
  unfold idxD
  simp only [hz, h1, encN.inOk (by decide) o k, h2]
  rfl
@[simp] theorem eIdx_ev (a b : FE) (ρ : EV) : eIdx a b ρ = (a ρ).bind fun x => match b ρ with | .ok y => idxD x y | _ => .bad := rfl
theorem Expl.mem {st : List Op} {o : List Nat} (h : Expl st o) {k : Nat} (hk : k < st.length) : k ∈ o := by
  by_cases hm : k ∈ o
  · exact hm
  · exfalso
    have := leftN_len h.inr h.nd
    have hk' : k ∈ leftN st o := List.mem_filter.mpr ⟨List.mem_range.mpr hk, by simpa using hm⟩
    have := List.length_pos_of_mem hk'
    have := h.len
    omega
theorem Expl.prec {st : List Op} {o : List Nat} (h : Expl st o) {a b : Nat} (ha : a < st.length) (hb : b < st.length) (hp : (op st a).e < (op st b).s) : o.idxOf a < o.idxOf b := by
  have mb := h.mem hb
  have ma := h.mem ha
  have hi := List.idxOf_lt_length_of_mem mb
  have hok := h.ok _ hi
  rw [List.getElem_idxOf hi] at hok
  unfold mayF noEarly at hok
  rw [Bool.and_eq_true, List.isEmpty_iff, List.filter_eq_nil_iff] at hok
  have hin : a ∈ o.take (o.idxOf b) := by
    by_cases hm : a ∈ o.take (o.idxOf b)
    · exact hm
    · exact absurd (hok.1 a (List.mem_filter.mpr ⟨List.mem_range.mpr ha, by simpa using hm⟩)) (by simpa using hp)
  obtain ⟨j, hj, ej⟩ := List.mem_take_iff_getElem.mp hin
  have hj' : j < o.length := by omega
  have : o.idxOf a = j := by
    rw [← ej]
    exact h.nd.idxOf_getElem j hj'
  omega
end CP
namespace CP
open PySem L2
theorem expl_all {st : List Op} (hv : Valid st) : F_explanations_of [sd st, .int 720] = .ok (.list ((expl st).map od)) := by
  have := explanations_of_ok (st := st) (by have := hv.len; omega) (most := 720) (by unfold LIM; omega) (by omega)
  rw [List.take_of_length_le (expl_len hv.len)] at this
  exact this
theorem all_explanations_ok {st : List Op} (hv : Valid st) : F_all_explanations [sd st] = .ok (.list ((expl st).map od)) := by
  simp [F_all_explanations, runF_ev, check_story_ok hv, expl_all hv]
theorem encLO : Enc 2 (fun xs : List (List Nat) => PyData.list (xs.map od)) := encO.list
theorem can_explain_ok {st : List Op} (hv : Valid st) : F_can_explain [sd st] = .ok (.bool (!(expl st).isEmpty)) := by
  have e : F_explanations_of [sd st, .int 1] = .ok (.list (((expl st).take 1).map od)) := explanations_of_ok (most := 1) (by have := hv.len; omega) (by unfold LIM; omega) (by omega)
  have e2 : neD (.list (((expl st).take 1).map od)) (.list []) = .ok (.bool (!(expl st).isEmpty)) := by
    refine (encLO.neD (by decide) ((expl st).take 1) []).trans ?_
    congr 2
    cases expl st <;> simp
  unfold F_can_explain
  rw [runF_ev]
  simp only [List.map_cons, List.map_nil, List.length_cons, List.length_nil, List.cons_append, List.nil_append, List.replicate, Nat.sub_self, List.append_nil, sSeq_ev, sExpr_ev, eCall_ev, aC_ev, aN_ok, eV0, eC_ev, bind_ok', callN_ev, if_true, check_story_ok hv, outOf_ok, then_next, sRet_ev, e2_ev, eLs_ev, mkL_nil, e, e2, runO_ret]
def pd (p : Nat × Nat) : PyData := .tuple [nd p.1, nd p.2]
theorem encPd : Enc 1 pd := by
  refine ⟨fun p => Sh.tup fun d hd => ?_, fun x y => ?_⟩
  · simp only [List.mem_cons, List.not_mem_nil, or_false] at hd
    rcases hd with rfl | rfl
    · exact Sh.int 0 _
    · exact Sh.int 0 _
  · obtain ⟨a, b⟩ := x
    obtain ⟨c, d⟩ := y
    have h1 := encN.eq a c
    have h2 := encN.eq b d
    simp only [pd, PyData.eqv, PyData.eqvAll, Bool.and_true] at h1 h2 ⊢
    rw [h1, h2, ← Bool.decide_and]
    simp
def backs (E : List (List Nat)) (a b : Nat) : List (List Nat) := E.filter fun o => decide (o.idxOf b < o.idxOf a)
def sureB (E : List (List Nat)) (a b : Nat) : Bool := decide (a ≠ b) && (backs E a b).isEmpty
def sureL (E : List (List Nat)) (n m : Nat) : List (Nat × Nat) := (List.range m).flatMap fun a => ((List.range n).filter (sureB E a)).map fun b => (a, b)
def surePairs (st : List Op) : List (Nat × Nat) := sureL (expl st) st.length st.length
theorem C_sure_ok {E : List (List Nat)} {a b : Nat} (ha : ∀ o ∈ E, a ∈ o) (hb : ∀ o ∈ E, b ∈ o) (s0 s2 s5 : Option SV) (hz : TZ = true := by first | rfl | assumption) :
    C_sure_pairs_1 [s0, some (.d (.list (E.map od))), s2, some (.d (nd a)), some (.d (nd b)), s5] = .ok (.list ((backs E a b).map od)) := by
  unfold C_sure_pairs_1 backs
  refine eLc_ok E od (fun o => decide (o.idxOf b < o.idxOf a)) od (by simp) fun o ho => ⟨_, rfl, ?_, fun _ => by simp⟩
  have h1 := idx_ok (ha o ho)
  have h2 := idx_ok (hb o ho)
  simp [h1, h2]
theorem sure_turn {E : List (List Nat)} {a b : Nat} (ha : ∀ o ∈ E, a ∈ o) (hb : ∀ o ∈ E, b ∈ o) (R : List (Nat × Nat)) (hR : R.length < 1000) (s0 s5 : Option SV) (hz : TZ = true := by first | rfl | assumption) :
    B_sure_pairs_1 [s0, some (.d (.list (E.map od))), some (.l (R.map pd)), some (.d (nd a)), some (.d (nd b)), s5] =
      .next [s0, some (.d (.list (E.map od))), some (.l ((R ++ (if sureB E a b then [(a, b)] else [])).map pd)), some (.d (nd a)), some (.d (nd b)), s5] := by
  have hn := encN.neD (by decide) a b
  have l1 : (R.map pd).length < LIM := by rw [List.length_map]; unfold LIM; omega
  unfold B_sure_pairs_1
  rw [sIf_ev]
  simp only [tAnd_ev, tNot_ev, tV_ev, tB_ev, e2_ev, eVs, eV0, bind_ok', hn, asB_bool, C_sure_ok ha hb, truthD_lst, em_map, Bool.not_not]
  unfold sureB
  by_cases h : a = b
  · simp [h]
  · simp only [h, ne_eq, not_false_eq_true, decide_true, if_true, outOf_ok, Bool.true_and]
    cases (backs E a b).isEmpty with
    | false => simp
    | true =>
      simp only [if_true]
      rw [app_ok (ds := R.map pd) (d := pd (a, b)) rfl rfl l1]
      simp
theorem sure_len (E : List (List Nat)) (n m : Nat) : (sureL E n m).length ≤ m * n := by
  induction m with
  | zero => simp [sureL]
  | succ m ih =>
    have : sureL E n (m + 1) = sureL E n m ++ ((List.range n).filter (sureB E m)).map fun b => (m, b) := by
      unfold sureL; rw [List.range_succ, List.flatMap_append]; simp
    rw [this, List.length_append, List.length_map, Nat.succ_mul]
    have := List.length_filter_le (sureB E m) (List.range n)
    rw [List.length_range] at this
    omega
theorem sureL_succ (E : List (List Nat)) (n m : Nat) : sureL E n (m + 1) = sureL E n m ++ ((List.range n).filter (sureB E m)).map fun b => (m, b) := by
  unfold sureL; rw [List.range_succ, List.flatMap_append]; simp
theorem sure_row {st : List Op} (h6 : st.length ≤ 6) {E : List (List Nat)} (hE : ∀ o ∈ E, ∀ k, k < st.length → k ∈ o) {a : Nat} (ha : a < st.length) (R : List (Nat × Nat)) (hR : R.length ≤ 100) (s4 s5 : Option SV) (hz : TZ = true := by first | rfl | assumption) :
    ∃ z4, B_sure_pairs_2 [some (.d (sd st)), some (.d (.list (E.map od))), some (.l (R.map pd)), some (.d (nd a)), s4, s5] =
      .next [some (.d (sd st)), some (.d (.list (E.map od))), some (.l ((R ++ ((List.range st.length).filter (sureB E a)).map fun b => (a, b)).map pd)), some (.d (nd a)), z4, s5] := by
  obtain ⟨ρ', L, z4, rfl⟩ := forGo_cnt (g := gN 4) (b := B_sure_pairs_1) st.length (fun n ρ => ∃ z4, ρ = [some (.d (sd st)), some (.d (.list (E.map od))), some (.l ((R ++ ((List.range n).filter (sureB E a)).map fun b => (a, b)).map pd)), some (.d (nd a)), z4, s5])
    [some (.d (sd st)), some (.d (.list (E.map od))), some (.l (R.map pd)), some (.d (nd a)), s4, s5] ⟨s4, by simp⟩ (by
      rintro b hb ρ ⟨z4, rfl⟩
      have hl : (R ++ ((List.range b).filter (sureB E a)).map fun b => (a, b)).length < 1000 := by
        have := List.length_filter_le (sureB E a) (List.range b)
        rw [List.length_range] at this
        simp only [List.length_append, List.length_map]
        omega
      have t := sure_turn (fun o ho => hE o ho a ha) (fun o ho => hE o ho b hb) (R ++ ((List.range b).filter (sureB E a)).map fun b => (a, b)) hl (some (.d (sd st))) s5
      refine ⟨_, _, rfl, t, some (.d (nd b)), ?_⟩
      have e : (R ++ ((List.range b).filter (sureB E a)).map fun b => (a, b)) ++ (if sureB E a b = true then [(a, b)] else []) = R ++ ((List.range (b + 1)).filter (sureB E a)).map fun b => (a, b) := by
        rw [List.range_succ, List.filter_append, List.map_append, List.append_assoc]
        simp only [List.filter_cons, List.filter_nil]
        cases sureB E a b <;> rfl
      rw [e])
  refine ⟨z4, ?_⟩
  unfold B_sure_pairs_2
  rw [sFor_ev, iRng1_ok (n := st.length) (by simp) (by omega), outOf_ok]
  exact L
theorem sure_pairs_ok {st : List Op} (hv : Valid st) (hz : TZ = true := by first | rfl | assumption) : F_sure_pairs [sd st] = if expl st = [] then .exc ⟨"NoExplanation", none⟩ else .ok (.list ((surePairs st).map pd)) := by
  have h6 := hv.len
  have hE : ∀ o ∈ expl st, ∀ k, k < st.length → k ∈ o := fun o ho k hk => ((mem_expl (by omega)).mp ho).mem hk
  unfold F_sure_pairs
  rw [runF_ev]
  simp only [List.map_cons, List.map_nil, List.length_cons, List.length_nil, List.cons_append, List.nil_append, List.replicate, sSeq_ev, sExpr_ev, eCall_ev, aC_ev, aN_ok, eV0, eC_ev, bind_ok', callN_ev, if_true, check_story_ok hv, outOf_ok, then_next, sSet_ev, expl_all hv, List.set_cons_succ, List.set_cons_zero, sIf_ev, tNot_ev, tV_ev, eVs, truthD_lst, em_map, Bool.not_not]
  by_cases he : expl st = []
  · rw [if_pos he, he]
    rfl
  · rw [if_neg he]
    have hne : (expl st).isEmpty = false := by cases q : expl st with | nil => exact absurd q he | cons _ _ => rfl
    rw [hne]
    obtain ⟨ρ', L, z3, z4, rfl⟩ := forGo_cnt (g := gN 3) (b := B_sure_pairs_2) st.length (fun n ρ => ∃ z3 z4, ρ = [some (.d (sd st)), some (.d (.list ((expl st).map od))), some (.l ((sureL (expl st) st.length n).map pd)), z3, z4, none])
      [some (.d (sd st)), some (.d (.list ((expl st).map od))), some (.l []), none, none, none] ⟨none, none, rfl⟩ (by
        rintro a ha ρ ⟨z3, z4, rfl⟩
        have hl := sure_len (expl st) st.length a
        have : a * st.length ≤ 6 * 6 := Nat.mul_le_mul (by omega) h6
        obtain ⟨y4, t⟩ := sure_row h6 hE ha (sureL (expl st) st.length a) (by omega) z4 none
        exact ⟨_, _, rfl, t, some (.d (nd a)), y4, by rw [sureL_succ]⟩)
    have hr : iRng1 (e1 lenD (eV 0)) [some (.d (sd st)), some (.d (.list ((expl st).map od))), some (.l []), none, none, none] = .ok ((List.range st.length).map nd) := iRng1_ok (by simp) (by omega)
    simp only [Bool.false_eq_true, if_false, sNil_ev, then_next, sSeq_ev, sOwn_ev, eLs_ev, aN_ok, bind_ok', mkL_nil, outOf_ok, List.set_cons_succ, List.set_cons_zero, sFor_ev, hr, L, sRet_ev, eLs', eL0, runO_ret]
    rfl
def ixs (E : List (List Nat)) (k : Nat) : List Int := E.map fun o => ((o.idxOf k : Nat) : Int)
def plD (p : Int × Int) : PyData := .tuple [.int p.1, .int p.2]
def plL (E : List (List Nat)) (m : Nat) : List (Int × Int) := (List.range m).map fun k => (minL (ixs E k), maxL (ixs E k))
theorem encPl : Enc 1 plD := by
  refine ⟨fun p => Sh.tup fun d hd => ?_, fun x y => ?_⟩
  · simp only [List.mem_cons, List.not_mem_nil, or_false] at hd
    rcases hd with rfl | rfl
    · exact Sh.int 0 _
    · exact Sh.int 0 _
  · obtain ⟨a, b⟩ := x
    obtain ⟨c, d⟩ := y
    have h1 := encI.eq a c
    have h2 := encI.eq b d
    simp only [plD, PyData.eqv, PyData.eqvAll, Bool.and_true] at h1 h2 ⊢
    rw [h1, h2, ← Bool.decide_and]
    simp
theorem min_ok {xs : List Int} (h : xs ≠ []) : minD (.list (xs.map .int)) = .ok (.int (minL xs)) := by
  cases xs with
  | nil => exact absurd rfl h
  | cons a r => unfold minD; simp only [intsOf_map]
theorem max_ok {xs : List Int} (h : xs ≠ []) : maxD (.list (xs.map .int)) = .ok (.int (maxL xs)) := by
  cases xs with
  | nil => exact absurd rfl h
  | cons a r => unfold maxD; simp only [intsOf_map]
theorem places_ok {st : List Op} (hv : Valid st) (hz : TZ = true := by first | rfl | assumption) : F_places [sd st] = if expl st = [] then .exc ⟨"NoExplanation", none⟩ else .ok (.list ((plL (expl st) st.length).map plD)) := by
  have h6 := hv.len
  have hE : ∀ o ∈ expl st, ∀ k, k < st.length → k ∈ o := fun o ho k hk => ((mem_expl (by omega)).mp ho).mem hk
  unfold F_places
  rw [runF_ev]
  simp only [List.map_cons, List.map_nil, List.length_cons, List.length_nil, List.cons_append, List.nil_append, List.replicate, sSeq_ev, sExpr_ev, eCall_ev, aC_ev, aN_ok, eV0, eC_ev, bind_ok', callN_ev, if_true, check_story_ok hv, outOf_ok, then_next, sSet_ev, expl_all hv, List.set_cons_succ, List.set_cons_zero, sIf_ev, tNot_ev, tV_ev, eVs, truthD_lst, em_map, Bool.not_not]
  by_cases he : expl st = []
  · rw [if_pos he, he]
    rfl
  · rw [if_neg he]
    have hne : (expl st).isEmpty = false := by cases q : expl st with | nil => exact absurd q he | cons _ _ => rfl
    rw [hne]
    obtain ⟨ρ', L, z3, z4, rfl⟩ := forGo_cnt (g := gN 3) (b := B_places_1) st.length (fun n ρ => ∃ z3 z4, ρ = [some (.d (sd st)), some (.d (.list ((expl st).map od))), some (.l ((plL (expl st) n).map plD)), z3, z4, none])
      [some (.d (sd st)), some (.d (.list ((expl st).map od))), some (.l []), none, none, none] ⟨none, none, rfl⟩ (by
        rintro a ha ρ ⟨z3, z4, rfl⟩
        have hi : ixs (expl st) a ≠ [] := by unfold ixs; simpa using he
        have c1 : ∀ x, C_places_1 [some (.d (sd st)), some (.d (.list ((expl st).map od))), x, some (.d (nd a)), z4, none] = .ok (.list ((ixs (expl st) a).map .int)) := fun x => by
          unfold C_places_1 ixs
          rw [List.map_map]
          refine eLc_all (expl st) od (PyData.int ∘ fun o => ((o.idxOf a : Nat) : Int)) (by simp) fun o ho => ⟨_, rfl, ?_⟩
          have h1 := idx_ok (hE o ho a ha)
          simp [h1]
        have hl : ((plL (expl st) a).map plD).length < LIM := by unfold plL LIM; simp; omega
        refine ⟨_, _, rfl, ?_, some (.d (nd a)), some (.d (.list ((ixs (expl st) a).map .int))), rfl⟩
        have go : B_places_1 [some (.d (sd st)), some (.d (.list ((expl st).map od))), some (.l ((plL (expl st) a).map plD)), some (.d (nd a)), z4, none] = .next [some (.d (sd st)), some (.d (.list ((expl st).map od))), some (.l ((plL (expl st) (a + 1)).map plD)), some (.d (nd a)), some (.d (.list ((ixs (expl st) a).map .int))), none] := by
          unfold B_places_1
          rw [sSeq_ev, set_ok (c1 _), then_next]
          simp only [List.set_cons_succ, List.set_cons_zero]
          rw [app_ok (ds := (plL (expl st) a).map plD) (d := plD (minL (ixs (expl st) a), maxL (ixs (expl st) a))) rfl (by simp only [eT_ev, aC_ev, aN_ok, e1_ev, eVs, eV0, bind_ok', min_ok hi, max_ok hi, mkT_2]; rfl) hl]
          have : plL (expl st) (a + 1) = plL (expl st) a ++ [(minL (ixs (expl st) a), maxL (ixs (expl st) a))] := by unfold plL; rw [List.range_succ, List.map_append]; rfl
          rw [this, List.map_append]
          rfl
        exact go)
    have hr : iRng1 (e1 lenD (eV 0)) [some (.d (sd st)), some (.d (.list ((expl st).map od))), some (.l []), none, none, none] = .ok ((List.range st.length).map nd) := iRng1_ok (by simp) (by omega)
    simp only [Bool.false_eq_true, if_false, sNil_ev, then_next, sSeq_ev, sOwn_ev, eLs_ev, aN_ok, bind_ok', mkL_nil, outOf_ok, List.set_cons_succ, List.set_cons_zero, sFor_ev, hr, L, sRet_ev, eLs', eL0, runO_ret]
end CP
namespace CP
open PySem L2
structure Tf where
  ren : Int → Int
  tt : Int → Int
def Tf.f (T : Tf) (o : Op) : Op := ⟨o.w, T.ren o.v, T.tt o.s, T.tt o.e⟩
structure Tf.Ok (T : Tf) : Prop where
  inj : ∀ a b : Int, 0 ≤ a → a ≤ 9 → 0 ≤ b → b ≤ 9 → T.ren a = T.ren b → a = b
  zero : T.ren 0 = 0
  mono : ∀ a b : Int, a < b ↔ T.tt a < T.tt b
def Vals9 (st : List Op) : Prop := ∀ o ∈ st, 0 ≤ o.v ∧ o.v ≤ 9
section
variable {T : Tf} {st : List Op}
theorem op_map {k : Nat} (hk : k < st.length) : op (st.map T.f) k = T.f (op st k) := by
  have h1 := op_some (st := st.map T.f) (k := k) (by simpa using hk)
  rw [List.getElem?_map, op_some hk] at h1
  exact (Option.some.inj h1).symm
theorem op_mem {k : Nat} (hk : k < st.length) : op st k ∈ st := List.mem_of_getElem? (op_some hk)
theorem wvals_map {o : List Nat} (ho : InR st o) : wvals (st.map T.f) o = (wvals st o).map T.ren := by
  unfold wvals
  rw [List.map_map]
  have e : (o.filter fun j => (op (st.map T.f) j).w) = o.filter fun j => (op st j).w := List.filter_congr fun j hj => by rw [op_map (ho j hj)]; rfl
  rw [e]
  exact List.map_congr_left fun j hj => by rw [op_map (ho j (List.mem_filter.mp hj).1)]; rfl
theorem lastW_map (hT : T.Ok) {o : List Nat} (ho : InR st o) : lastW (st.map T.f) o = T.ren (lastW st o) := by
  unfold lastW
  rw [wvals_map ho, List.getLast?_map]
  cases (wvals st o).getLast? with
  | none => exact hT.zero.symm
  | some v => rfl
theorem lastW_rng (h9 : Vals9 st) {o : List Nat} (ho : InR st o) : 0 ≤ lastW st o ∧ lastW st o ≤ 9 := by
  unfold lastW
  cases q : (wvals st o).getLast? with
  | none => simp
  | some v =>
    have hm := List.mem_of_getLast? q
    unfold wvals at hm
    obtain ⟨j, hj, rfl⟩ := List.mem_map.mp hm
    exact h9 _ (op_mem (ho j (List.mem_filter.mp hj).1))
theorem mayF_map (hT : T.Ok) (h9 : Vals9 st) {o : List Nat} {k : Nat} (ho : InR st o) (hk : k < st.length) : mayF (st.map T.f) o k = mayF st o k := by
  unfold mayF noEarly
  have e1 : leftN (st.map T.f) o = leftN st o := by unfold leftN; rw [List.length_map]
  have e2 : (leftN st o).filter (fun j => decide ((op (st.map T.f) j).e < (op (st.map T.f) k).s)) = (leftN st o).filter (fun j => decide ((op st j).e < (op st k).s)) := List.filter_congr fun j hj => by
    rw [op_map (List.mem_range.mp (List.mem_filter.mp hj).1), op_map hk]
    show decide (T.tt (op st j).e < T.tt (op st k).s) = _
    rw [decide_eq_decide]
    exact (hT.mono _ _).symm
  rw [e1, e2, op_map hk, lastW_map hT ho]
  congr 2
  show decide (T.ren (op st k).v = T.ren (lastW st o)) = _
  rw [decide_eq_decide]
  have a := h9 _ (op_mem hk)
  have b := lastW_rng h9 ho
  exact ⟨fun e => hT.inj _ _ a.1 a.2 b.1 b.2 e, fun e => by rw [e]⟩
theorem comp_map (hT : T.Ok) (h9 : Vals9 st) : ∀ (f : Nat) (o : List Nat), InR st o → comp (st.map T.f) f o = comp st f o
  | 0, o, _ => rfl
  | f + 1, o, ho => by
    rw [comp, comp, List.length_map]
    by_cases h : o.length = st.length
    · rw [if_pos h, if_pos h]
    · rw [if_neg h, if_neg h]
      have fm : ∀ {l : List Nat} {g g' : Nat → List (List Nat)}, (∀ x ∈ l, g x = g' x) → l.flatMap g = l.flatMap g' := fun {l g g'} hh => by
        induction l with
        | nil => rfl
        | cons a l ih => rw [List.flatMap_cons, List.flatMap_cons, hh a (by simp), ih fun x hx => hh x (by simp [hx])]
      refine fm fun k hk => ?_
      have hk := List.mem_range.mp hk
      rw [mayF_map hT h9 ho hk, comp_map hT h9 f (o ++ [k]) (ho.snoc hk)]
theorem expl_map (hT : T.Ok) (h9 : Vals9 st) : expl (st.map T.f) = expl st := comp_map hT h9 8 [] fun x h => by cases h
theorem dropS_map (g : List Nat) : dropS (st.map T.f) g = (dropS st g).map T.f := by
  unfold dropS
  have e1 : leftN (st.map T.f) g = leftN st g := by unfold leftN; rw [List.length_map]
  rw [e1, List.map_map]
  exact List.map_congr_left fun j hj => op_map (List.mem_range.mp (List.mem_filter.mp hj).1)
theorem dropS_9 (h9 : Vals9 st) (g : List Nat) : Vals9 (dropS st g) := fun o ho => by
  unfold dropS at ho
  obtain ⟨j, hj, rfl⟩ := List.mem_map.mp ho
  exact h9 _ (op_mem (List.mem_range.mp (List.mem_filter.mp hj).1))
theorem fewest_map (hT : T.Ok) (h9 : Vals9 st) (m : Nat) : fewest (st.map T.f) m = fewest st m := by
  unfold fewest
  rw [List.length_map]
  congr 1
  funext g
  unfold good
  rw [dropS_map, expl_map hT (dropS_9 h9 g)]
theorem Valid.v9 (h : Valid st) : Vals9 st := fun o ho => by
  have := h.rng o ho
  have h1 := this.1
  constructor
  · by_cases hw : o.w = true
    · rw [if_pos hw] at h1; omega
    · rw [if_neg hw] at h1; exact h1
  · exact this.2.1
theorem Valid.map (hT : T.Ok) (h : Valid st) (hr : ∀ o ∈ st, T.ren o.v ≤ 9 ∧ (0 ≤ T.ren o.v) ∧ (1 ≤ o.v → 1 ≤ T.ren o.v)) (ht : ∀ o ∈ st, 0 ≤ T.tt o.s ∧ T.tt o.e ≤ 99) : Valid (st.map T.f) := by
  have ttinj : ∀ a b, T.tt a = T.tt b → a = b := fun a b e => by
    rcases Int.lt_trichotomy a b with c | c | c
    · have := (hT.mono a b).mp c; omega
    · exact c
    · have := (hT.mono b a).mp c; omega
  refine ⟨by rw [List.length_map]; exact h.len, fun o ho => ?_, ?_, ?_, ?_⟩
  · obtain ⟨p, hp, rfl⟩ := List.mem_map.mp ho
    have a := h.rng p hp
    have b := hr p hp
    have c := ht p hp
    have d := (hT.mono p.s p.e).mp a.2.2.2.1
    refine ⟨?_, b.1, c.1, d, c.2⟩
    show (if p.w = true then 1 else 0) ≤ T.ren p.v
    by_cases hw : p.w = true
    · rw [if_pos hw] at a ⊢
      exact b.2.2 a.1
    · rw [if_neg hw]
      exact b.2.1
  · exact List.pairwise_map.mpr (h.asc.imp fun hab => (hT.mono _ _).mp hab)
  · have e : (st.map T.f).map Op.s ++ (st.map T.f).map Op.e = (st.map Op.s ++ st.map Op.e).map T.tt := by
      rw [List.map_append, List.map_map, List.map_map, List.map_map, List.map_map]
      rfl
    rw [e]
    exact h.tms.map _ fun a b hab e => hab (ttinj a b e)
  · have e : ((st.map T.f).filter Op.w).map Op.v = ((st.filter Op.w).map Op.v).map T.ren := by
      rw [List.filter_map, List.map_map, List.map_map]
      rfl
    rw [e]
    refine List.pairwise_map.mpr (List.Pairwise.imp_of_mem (fun {a b} ha hb hab e => ?_) h.wrt)
    obtain ⟨p, hp, rfl⟩ := List.mem_map.mp ha
    obtain ⟨q, hq, rfl⟩ := List.mem_map.mp hb
    have a := h.v9 p (List.mem_filter.mp hp).1
    have b := h.v9 q (List.mem_filter.mp hq).1
    exact hab (hT.inj _ _ a.1 a.2 b.1 b.2 e)
end
end CP
namespace CP
open PySem L2
theorem few_self : ∀ xs : List Nat, xs ∈ ch xs xs.length
  | [] => by simp [ch]
  | x :: xs => by
    rw [List.length_cons, ch]
    exact List.mem_append.mpr (.inl (List.mem_map.mpr ⟨xs, few_self xs, rfl⟩))
theorem few_all (st : List Op) : good st (List.range st.length) = true := by
  have e : dropS st (List.range st.length) = [] := by
    unfold dropS leftN
    rw [List.filter_eq_nil_iff.mpr (fun x hx => by simpa using hx)]
    rfl
  unfold good
  rw [e]
  rfl
theorem few_found {st : List Op} (h6 : st.length ≤ 6) : ∃ g, (List.range' 0 7).findSome? (fewest st) = some g := by
  cases q : (List.range' 0 7).findSome? (fewest st) with
  | some g => exact ⟨g, rfl⟩
  | none =>
    exfalso
    have h := List.findSome?_eq_none_iff.mp q st.length (List.mem_range'_1.mpr ⟨by omega, by omega⟩)
    unfold fewest at h
    have h1 := List.find?_eq_none.mp h (List.range st.length) (by have := few_self (List.range st.length); rwa [List.length_range] at this)
    exact h1 (few_all st)
end CP
namespace CP
open PySem L2
def nexts (st : List Op) (o : List Nat) : List (List Nat) := ((leftN st o).filter (mayF st o)).map fun k => o ++ [k]
def lev (st : List Op) : Nat → List (List Nat)
  | 0 => [[]]
  | n + 1 => (lev st n).flatMap (nexts st)
theorem fm_congr {α β : Type} {l : List α} {f g : α → List β} (h : ∀ x ∈ l, f x = g x) : l.flatMap f = l.flatMap g := by
  induction l with
  | nil => rfl
  | cons a l ih => rw [List.flatMap_cons, List.flatMap_cons, h a (by simp), ih fun x hx => h x (by simp [hx])]
theorem lev_mem (st : List Op) : ∀ (n : Nat) (o : List Nat), o ∈ lev st n → o.length = n ∧ InR st o ∧ o.Nodup
  | 0, o, h => by
    rw [lev, List.mem_singleton] at h
    subst h
    exact ⟨rfl, (fun x h => by cases h), List.nodup_nil⟩
  | n + 1, o, h => by
    rw [lev] at h
    obtain ⟨q, hq, ho⟩ := List.mem_flatMap.mp h
    obtain ⟨h1, h2, h3⟩ := lev_mem st n q hq
    unfold nexts at ho
    obtain ⟨k, hk, rfl⟩ := List.mem_map.mp ho
    have hk := (List.mem_filter.mp hk).1
    unfold leftN at hk
    have hk := List.mem_filter.mp hk
    refine ⟨by simp [h1], h2.snoc (List.mem_range.mp hk.1), List.nodup_append.mpr ⟨h3, by simp, fun a ha b hb e => ?_⟩⟩
    have := of_decide_eq_true hk.2
    exact this (by rw [← List.mem_singleton.mp hb, ← e]; exact ha)
theorem comp_nexts {st : List Op} {f : Nat} {o : List Nat} (h : o.length ≠ st.length) : comp st (f + 1) o = (nexts st o).flatMap (comp st f) := by
  rw [comp, if_neg h]
  unfold nexts leftN
  rw [List.flatMap_map]
  induction List.range st.length with
  | nil => rfl
  | cons a l ih =>
    rw [List.flatMap_cons, ih, List.filter_cons]
    by_cases hm : a ∈ o
    · simp [hm]
    · simp only [hm, not_false_eq_true, decide_true, if_true, true_and, List.filter_cons]
      cases mayF st o a <;> simp
theorem lev_comp {st : List Op} : ∀ (n f : Nat), n ≤ st.length → (lev st n).flatMap (comp st f) = comp st (f + n) []
  | 0, f, _ => by simp [lev]
  | n + 1, f, h => by
    rw [lev, List.flatMap_assoc]
    have := lev_comp (st := st) n (f + 1) (by omega)
    rw [show f + (n + 1) = f + 1 + n by omega, ← this]
    refine fm_congr fun o ho => ?_
    exact (comp_nexts (by rw [(lev_mem st n o ho).1]; omega)).symm
theorem lev_all {st : List Op} (h6 : st.length ≤ 7) : lev st st.length = expl st := by
  have := lev_comp (st := st) st.length (8 - st.length) (Nat.le_refl _)
  rw [show 8 - st.length + st.length = 8 by omega] at this
  unfold expl
  rw [← this]
  have e : ∀ o ∈ lev st st.length, comp st (8 - st.length) o = [o] := fun o ho => by
    obtain ⟨f, hf⟩ : ∃ f, 8 - st.length = f + 1 := ⟨7 - st.length, by omega⟩
    rw [hf, comp, if_pos (lev_mem st _ o ho).1]
  rw [fm_congr e]
  simp
theorem lev_len {st : List Op} (h6 : st.length ≤ 6) : ∀ n : Nat, (lev st n).length ≤ 6 ^ n
  | 0 => by simp [lev]
  | n + 1 => by
    rw [lev, Nat.pow_succ]
    have ih := lev_len h6 n
    have key : ∀ l : List (List Nat), (l.flatMap (nexts st)).length ≤ l.length * 6 := fun l => by
      induction l with
      | nil => simp
      | cons a l ih =>
        rw [List.flatMap_cons, List.length_append, List.length_cons, Nat.succ_mul]
        have : (nexts st a).length ≤ 6 := by
          unfold nexts leftN
          rw [List.length_map]
          have h1 := List.length_filter_le (mayF st a) ((List.range st.length).filter fun j => decide (j ∉ a))
          have h2 := List.length_filter_le (fun j => decide (j ∉ a)) (List.range st.length)
          rw [List.length_range] at h2
          omega
        omega
    have := key (lev st n)
    exact Nat.le_trans this (Nat.mul_le_mul_right 6 ih)
end CP
namespace CP
open PySem L2
theorem forGo_pre {α : Type} {g : PyData → EV → R EV} {b : FS} {c : α → PyData} (I : List α → EV → Prop) (xs : List α) : ∀ (rest done : List α) (ρ : EV), done ++ rest = xs → I done ρ → (∀ done x r, done ++ x :: r = xs → ∀ ρ, I done ρ → ∃ ρ1 ρ2, g (c x) ρ = .ok ρ1 ∧ b ρ1 = .next ρ2 ∧ I (done ++ [x]) ρ2) →
    ∃ ρ', forGo g b (rest.map c) ρ = .next ρ' ∧ I xs ρ'
  | [], done, ρ, e, h, _ => ⟨ρ, rfl, by rw [← e, List.append_nil]; exact h⟩
  | x :: rest, done, ρ, e, h, st => by
    obtain ⟨ρ1, ρ2, h1, h2, h3⟩ := st done x rest e ρ h
    obtain ⟨ρ', h4, h5⟩ := forGo_pre I xs rest (done ++ [x]) ρ2 (by rw [← e]; simp) h3 st
    exact ⟨ρ', by rw [List.map_cons, forGo_next h1 h2]; exact h4, h5⟩
theorem opAdd_lst {a b : List PyData} (h : a.length + b.length ≤ LIM) : opAdd (.list a) (.list b) = .ok (.list (a ++ b)) := if_pos h
theorem lastW_ix (st : List Op) (o : List Nat) : ixD (.list ((0 :: wvals st o).map .int)) (.int (-1)) = .ok (.int (lastW st o)) := by
  refine ix_neg1 ?_
  rw [List.getLast?_map]
  unfold lastW
  cases h : wvals st o with
  | nil => rfl
  | cons a b =>
    rw [List.getLast?_cons_cons]
    cases q : (a :: b).getLast? with
    | none => simp at q
    | some v => rfl
section
variable {st : List Op} {o : List Nat}
theorem every_turn {k : Nat} (hk : k < st.length) (hol : o.length < 1000) (L : List (List Nat)) (hL : L.length < 99999) (s1 s2 s8 s9 s10 s11 s12 : Option SV) :
    ∃ z8 z9 z10 z11, B_law_every_1 [some (.d (sd st)), s1, s2, some (.l (L.map od)), some (.d (od o)), some (.d (.list ((0 :: wvals st o).map .int))), some (.d (.list ((leftN st o).map nd))), some (.d (nd k)), s8, s9, s10, s11, s12] =
      .next [some (.d (sd st)), s1, s2, some (.l ((L ++ (if mayF st o k then [o ++ [k]] else [])).map od)), some (.d (od o)), some (.d (.list ((0 :: wvals st o).map .int))), some (.d (.list ((leftN st o).map nd))), some (.d (nd k)), z8, z9, z10, z11, s12] := by
  refine ⟨some (.d (.str (kd (op st k).w))), some (.d (.int (op st k).v)), some (.d (.int (op st k).s)), some (.d (.int (op st k).e)), ?_⟩
  have t1 : sTup [8, 9, 10, 11] (e2 ixD (eV 0) (eV 7)) [some (.d (sd st)), s1, s2, some (.l (L.map od)), some (.d (od o)), some (.d (.list ((0 :: wvals st o).map .int))), some (.d (.list ((leftN st o).map nd))), some (.d (nd k)), s8, s9, s10, s11, s12] =
      .next [some (.d (sd st)), s1, s2, some (.l (L.map od)), some (.d (od o)), some (.d (.list ((0 :: wvals st o).map .int))), some (.d (.list ((leftN st o).map nd))), some (.d (nd k)), some (.d (.str (kd (op st k).w))), some (.d (.int (op st k).v)), some (.d (.int (op st k).s)), some (.d (.int (op st k).e)), s12] := by
    unfold sTup
    simp only [e2_ev, eVs, eV0, bind_ok', ix_sd hk]
    rfl
  have c3 : C_law_every_3 [some (.d (sd st)), s1, s2, some (.l (L.map od)), some (.d (od o)), some (.d (.list ((0 :: wvals st o).map .int))), some (.d (.list ((leftN st o).map nd))), some (.d (nd k)), some (.d (.str (kd (op st k).w))), some (.d (.int (op st k).v)), some (.d (.int (op st k).s)), some (.d (.int (op st k).e)), s12] = .ok (.list (((leftN st o).filter fun j => decide ((op st j).e < (op st k).s)).map nd)) := by
    unfold C_law_every_3
    refine eLc_ok (leftN st o) nd (fun j => decide ((op st j).e < (op st k).s)) nd (by simp) fun j hj => ⟨_, rfl, ?_, fun _ => by simp⟩
    have hj' : j < st.length := List.mem_range.mp (List.mem_filter.mp hj).1
    simp [ix_sd hj']
  have e9 : eqD (.list (((leftN st o).filter fun j => decide ((op st j).e < (op st k).s)).map nd)) (.list []) = .ok (.bool (noEarly st o k)) := by
    refine (encN.list.eqD (by decide) ((leftN st o).filter fun j => decide ((op st j).e < (op st k).s)) []).trans ?_
    congr 2
    unfold noEarly
    rw [Bool.eq_iff_iff, decide_eq_true_iff, List.isEmpty_iff]
  have hL' : (L.map od).length < LIM := by rw [List.length_map]; unfold LIM; omega
  have tst : (tAndF (tB (e2 eqD (C_law_every_3) (eLs (aN)))) (tOrF (tB (e2 eqD (eV 8) (eC (.str "write")))) (tB (e2 eqD (eV 9) (e2 ixD (eV 5) (e1 negD (eC (.int (1)))))))))
      [some (.d (sd st)), s1, s2, some (.l (L.map od)), some (.d (od o)), some (.d (.list ((0 :: wvals st o).map .int))), some (.d (.list ((leftN st o).map nd))), some (.d (nd k)), some (.d (.str (kd (op st k).w))), some (.d (.int (op st k).v)), some (.d (.int (op st k).s)), some (.d (.int (op st k).e)), s12] = .ok (mayF st o k) := by
    unfold mayF
    simp only [tAnd_ev, tOr_ev, tB_ev, e2_ev, e1_ev, c3, eVs, eV0, eC_ev, eLs_ev, aN_ok, bind_ok', mkL_nil, e9, asB_bool, eqD_kdw, negD_1, lastW_ix, eqD_int]
    cases noEarly st o k <;> cases (op st k).w <;> simp
  have app : sApp 3 (e2 opAdd (eV 4) (eT (aC (eV 7) (aN)))) [some (.d (sd st)), s1, s2, some (.l (L.map od)), some (.d (od o)), some (.d (.list ((0 :: wvals st o).map .int))), some (.d (.list ((leftN st o).map nd))), some (.d (nd k)), some (.d (.str (kd (op st k).w))), some (.d (.int (op st k).v)), some (.d (.int (op st k).s)), some (.d (.int (op st k).e)), s12] =
      .next [some (.d (sd st)), s1, s2, some (.l ((L ++ [o ++ [k]]).map od)), some (.d (od o)), some (.d (.list ((0 :: wvals st o).map .int))), some (.d (.list ((leftN st o).map nd))), some (.d (nd k)), some (.d (.str (kd (op st k).w))), some (.d (.int (op st k).v)), some (.d (.int (op st k).s)), some (.d (.int (op st k).e)), s12] := by
    rw [app_ok (ds := L.map od) (d := od (o ++ [k])) rfl (by simp only [e2_ev, eVs, eV0, eT_ev, aC_ev, aN_ok, bind_ok', mkT_1]; exact od_snoc (by unfold LIM; omega)) hL']
    simp
  unfold B_law_every_1
  rw [sSeq_ev, t1, then_next, sIf_ev, tst, outOf_ok]
  by_cases hm : mayF st o k = true
  · rw [if_pos hm, if_pos hm, app]
  · rw [if_neg hm, if_neg hm, List.append_nil]
    rfl
theorem every_row (h6 : st.length ≤ 6) (ho : InR st o) (hol : o.length < 900) (L : List (List Nat)) (hL : L.length ≤ 90000) (s1 s2 s5 s6 s7 s8 s9 s10 s11 s12 : Option SV) :
    ∃ z5 z6 z7 z8 z9 z10 z11, B_law_every_2 [some (.d (sd st)), s1, s2, some (.l (L.map od)), some (.d (od o)), s5, s6, s7, s8, s9, s10, s11, s12] =
      .next [some (.d (sd st)), s1, s2, some (.l ((L ++ nexts st o).map od)), some (.d (od o)), z5, z6, z7, z8, z9, z10, z11, s12] := by
  have c1 : C_law_every_1 [some (.d (sd st)), s1, s2, some (.l (L.map od)), some (.d (od o)), s5, s6, s7, s8, s9, s10, s11, s12] = .ok (.list ((wvals st o).map .int)) := by
    unfold C_law_every_1 wvals
    rw [List.map_map]
    exact eLc_ok o nd (fun j => (op st j).w) (PyData.int ∘ fun j => (op st j).v) (by simp) fun j hj => ⟨_, rfl, by simp [ix_sd (ho j hj)], fun _ => by simp [ix_sd (ho j hj)]⟩
  have c2 : ∀ x5, C_law_every_2 [some (.d (sd st)), s1, s2, some (.l (L.map od)), some (.d (od o)), x5, s6, s7, s8, s9, s10, s11, s12] = .ok (.list ((leftN st o).map nd)) := fun x5 => by
    unfold C_law_every_2 leftN
    exact eLc_ok (List.range st.length) nd (fun j => decide (j ∉ o)) nd (iRng1_ok (by simp) (by omega)) fun j _ => ⟨_, rfl, by simp [encN.notInT (by decide) o j], fun _ => by simp⟩
  have wl : (wvals st o).length ≤ 1000 := by
    unfold wvals
    rw [List.length_map]
    have := List.length_filter_le (fun j => (op st j).w) o
    omega
  have ll : (leftN st o).length ≤ 6 := by
    unfold leftN
    have h2 := List.length_filter_le (fun j => decide (j ∉ o)) (List.range st.length)
    rw [List.length_range] at h2
    omega
  have ad : opAdd (.list [.int 0]) (.list ((wvals st o).map .int)) = .ok (.list ((0 :: wvals st o).map .int)) := by
    rw [opAdd_lst (by simp; unfold LIM; omega)]
    rfl
  obtain ⟨ρ', G, z7, z8, z9, z10, z11, rfl⟩ := forGo_pre (g := gN 7) (b := B_law_every_1) (c := nd) (fun done ρ => ∃ z7 z8 z9 z10 z11, ρ = [some (.d (sd st)), s1, s2, some (.l ((L ++ (done.filter (mayF st o)).map fun k => o ++ [k]).map od)), some (.d (od o)), some (.d (.list ((0 :: wvals st o).map .int))), some (.d (.list ((leftN st o).map nd))), z7, z8, z9, z10, z11, s12]) (leftN st o) (leftN st o) []
    [some (.d (sd st)), s1, s2, some (.l (L.map od)), some (.d (od o)), some (.d (.list ((0 :: wvals st o).map .int))), some (.d (.list ((leftN st o).map nd))), s7, s8, s9, s10, s11, s12] rfl ⟨s7, s8, s9, s10, s11, by simp⟩ (by
      rintro done k r er ρ ⟨z7, z8, z9, z10, z11, rfl⟩
      have hk : k ∈ leftN st o := by rw [← er]; simp
      have hk' : k < st.length := List.mem_range.mp (List.mem_filter.mp hk).1
      have dl : done.length ≤ 6 := by
        rw [← er] at ll
        simp at ll
        omega
      have dl2 := List.length_filter_le (mayF st o) done
      obtain ⟨y8, y9, y10, y11, t⟩ := every_turn (o := o) hk' (by omega) (L ++ (done.filter (mayF st o)).map fun k => o ++ [k]) (by simp only [List.length_append, List.length_map]; omega) s1 s2 z8 z9 z10 z11 s12
      refine ⟨_, _, rfl, t, some (.d (nd k)), y8, y9, y10, y11, ?_⟩
      have e : (L ++ (done.filter (mayF st o)).map fun k => o ++ [k]) ++ (if mayF st o k = true then [o ++ [k]] else []) = L ++ ((done ++ [k]).filter (mayF st o)).map fun k => o ++ [k] := by
        rw [List.filter_append, List.map_append, List.append_assoc]
        simp only [List.filter_cons, List.filter_nil]
        cases mayF st o k <;> rfl
      rw [e])
  refine ⟨some (.d (.list ((0 :: wvals st o).map .int))), some (.d (.list ((leftN st o).map nd))), z7, z8, z9, z10, z11, ?_⟩
  unfold B_law_every_2
  rw [sSeq_ev, set_ok (d := .list ((0 :: wvals st o).map .int)) (by simp only [e2_ev, eLs_ev, aC_ev, eC_ev, aN_ok, bind_ok', mkL_1, c1, ad]), then_next]
  simp only [List.set_cons_succ, List.set_cons_zero]
  rw [sSeq_ev, set_ok (c2 _), then_next]
  simp only [List.set_cons_succ, List.set_cons_zero]
  rw [sFor_ev, iSeq_lst (xs := (leftN st o).map nd) rfl, outOf_ok, G]
  rfl
theorem law_every_ok (h6 : st.length ≤ 6) : F_law_every [sd st] = .ok (.list ((expl st).map od)) := by
  obtain ⟨ρ', G, z2, z3, z4, z5, z6, z7, z8, z9, z10, z11, z12, rfl⟩ := forGo_cnt (g := gN 2) (b := B_law_every_3) st.length (fun n ρ => ∃ z2 z3 z4 z5 z6 z7 z8 z9 z10 z11 z12, ρ = [some (.d (sd st)), some (.d (.list ((lev st n).map od))), z2, z3, z4, z5, z6, z7, z8, z9, z10, z11, z12])
    [some (.d (sd st)), some (.d (.list [.tuple []])), none, none, none, none, none, none, none, none, none, none, none] ⟨none, none, none, none, none, none, none, none, none, none, none, rfl⟩ (by
      rintro n hn ρ ⟨z2, z3, z4, z5, z6, z7, z8, z9, z10, z11, z12, rfl⟩
      have hlen := lev_len h6 n
      have hp : 6 ^ n ≤ 6 ^ 5 := Nat.pow_le_pow_right (by omega) (by omega)
      obtain ⟨ρ2, G2, y4, y5, y6, y7, y8, y9, y10, y11, rfl⟩ := forGo_pre (g := gN 4) (b := B_law_every_2) (c := od) (fun done ρ => ∃ y4 y5 y6 y7 y8 y9 y10 y11, ρ = [some (.d (sd st)), some (.d (.list ((lev st n).map od))), some (.d (nd n)), some (.l ((done.flatMap (nexts st)).map od)), y4, y5, y6, y7, y8, y9, y10, y11, z12]) (lev st n) (lev st n) []
        [some (.d (sd st)), some (.d (.list ((lev st n).map od))), some (.d (nd n)), some (.l []), z4, z5, z6, z7, z8, z9, z10, z11, z12] rfl ⟨z4, z5, z6, z7, z8, z9, z10, z11, rfl⟩ (by
          rintro done o r er ρ ⟨y4, y5, y6, y7, y8, y9, y10, y11, rfl⟩
          have ho : o ∈ lev st n := by rw [← er]; simp
          obtain ⟨m1, m2, m3⟩ := lev_mem st n o ho
          have key : ∀ l : List (List Nat), (l.flatMap (nexts st)).length ≤ l.length * 6 := fun l => by
            induction l with
            | nil => simp
            | cons a l ih =>
              rw [List.flatMap_cons, List.length_append, List.length_cons, Nat.succ_mul]
              have : (nexts st a).length ≤ 6 := by
                unfold nexts leftN
                rw [List.length_map]
                have h1 := List.length_filter_le (mayF st a) ((List.range st.length).filter fun j => decide (j ∉ a))
                have h2 := List.length_filter_le (fun j => decide (j ∉ a)) (List.range st.length)
                rw [List.length_range] at h2
                omega
              omega
          have hd := key done
          have dl : done.length ≤ 7776 := by
            have : (lev st n).length ≤ 7776 := by omega
            rw [← er] at this
            simp at this
            omega
          obtain ⟨x5, x6, x7, x8, x9, x10, x11, t⟩ := every_row h6 m2 (by omega) (done.flatMap (nexts st)) (by omega) (some (.d (.list ((lev st n).map od)))) (some (.d (nd n))) y5 y6 y7 y8 y9 y10 y11 z12
          exact ⟨_, _, rfl, t, some (.d (od o)), x5, x6, x7, x8, x9, x10, x11, by rw [List.flatMap_append]; simp⟩)
      refine ⟨_, [some (.d (sd st)), some (.d (.list ((lev st (n + 1)).map od))), some (.d (nd n)), some (.d (.list ((lev st (n + 1)).map od))), y4, y5, y6, y7, y8, y9, y10, y11, z12], rfl, ?_, some (.d (nd n)), some (.d (.list ((lev st (n + 1)).map od))), y4, y5, y6, y7, y8, y9, y10, y11, z12, rfl⟩
      have fz : sFrz 3 [some (.d (sd st)), some (.d (.list ((lev st n).map od))), some (.d (nd n)), some (.l (((lev st n).flatMap (nexts st)).map od)), y4, y5, y6, y7, y8, y9, y10, y11, z12] = .next [some (.d (sd st)), some (.d (.list ((lev st n).map od))), some (.d (nd n)), some (.d (.list ((lev st (n + 1)).map od))), y4, y5, y6, y7, y8, y9, y10, y11, z12] := rfl
      unfold B_law_every_3
      simp only [List.set_cons_succ, List.set_cons_zero, sSeq_ev, sOwn_ev, eLs_ev, aN_ok, bind_ok', mkL_nil, outOf_ok, then_next, sFor_ev, iSeq_ev, eVs, eV0, seqD_l, G2, fz, sSet_ev])
  unfold F_law_every
  rw [runF_ev]
  have hr : iRng1 (e1 lenD (eV 0)) [some (.d (sd st)), some (.d (.list [.tuple []])), none, none, none, none, none, none, none, none, none, none, none] = .ok ((List.range st.length).map nd) := iRng1_ok (by simp) (by omega)
  simp only [List.map_cons, List.map_nil, List.length_cons, List.length_nil, List.cons_append, List.nil_append, List.replicate, sSeq_ev, sSet_ev, eLs_ev, aC_ev, aN_ok, eT_ev, bind_ok', mkT_nil, mkL_1, outOf_ok, List.set_cons_succ, List.set_cons_zero, then_next, sFor_ev, hr, G, sRet_ev, eVs, eV0, runO_ret, lev_all (show st.length ≤ 7 by omega)]
end
end CP
namespace CP
open PySem L2
theorem sort_gen {α : Type} (c : α → PyData) (hal : ∀ x y, PySem.W.alike (c x) (c y) = true) (htup : (∀ x, tupB (c x) = true) ∨ (∀ x, othB (c x) = true)) (hdp : ∀ x, (c x).depth ≤ 50) (xs : List α) :
    sortD (.list (xs.map c)) = .ok (.list ((xs.mergeSort (PySem.W.dataLe false c)).map c)) := by
  have ok : sortOk (xs.map c) = true := by
    unfold sortOk alikeB
    simp only [List.all_map, Bool.and_eq_true, List.all_eq_true, Bool.or_eq_true, Function.comp, decide_eq_true_eq]
    exact ⟨⟨fun x _ y _ => hal x y, htup.imp (fun h x _ => h x) fun h x _ => h x⟩, fun x _ => hdp x⟩
  show (if sortOk (xs.map c) then R.ok (PyData.list (sortL (xs.map c))) else .bad) = _
  rw [if_pos ok]
  unfold sortL
  rw [← List.map_mergeSort (r := PySem.W.dataLe false c) (s := PySem.W.dataLe false id) (f := c) (l := xs) (fun a _ b _ => rfl)]
theorem sort_id {α : Type} (c : α → PyData) (hal : ∀ x y, PySem.W.alike (c x) (c y) = true) (htup : (∀ x, tupB (c x) = true) ∨ (∀ x, othB (c x) = true)) (hdp : ∀ x, (c x).depth ≤ 50) {xs : List α} (hs : xs.Pairwise fun a b => PySem.W.dataLe false c a b = true) :
    sortD (.list (xs.map c)) = .ok (.list (xs.map c)) := by
  rw [sort_gen c hal htup hdp, List.mergeSort_of_pairwise hs]
theorem sort_pd {ps : List (Nat × Nat)} (hs : ps.Pairwise fun a b => a.1 < b.1 ∨ (a.1 = b.1 ∧ a.2 ≤ b.2)) : sortD (.list (ps.map pd)) = .ok (.list (ps.map pd)) := by
  refine sort_id pd (fun x y => by simp [pd, PySem.W.alike, PySem.W.alikeAll]) (.inl fun _ => rfl) (fun x => by simp [pd, PyData.depth, PyData.depthAll]) (hs.imp fun {a b} h => ?_)
  have e : PySem.W.dataLe false pd a b = decide (((a.1 : Nat) : Int) < ((b.1 : Nat) : Int) ∨ (((a.1 : Nat) : Int) = ((b.1 : Nat) : Int) ∧ ((a.2 : Nat) : Int) ≤ ((b.2 : Nat) : Int))) := congrFun (congrFun (PySem.W.dataLe_ii (fun p : Nat × Nat => ((p.1 : Nat) : Int)) fun p => ((p.2 : Nat) : Int)) a) b
  rw [e]
  refine decide_eq_true ?_
  omega
def precR (st : List Op) (a : Nat) : List (Nat × Nat) := ((List.range st.length).filter fun b => decide ((op st a).e < (op st b).s)).map fun b => (a, b)
def precL (st : List Op) (m : Nat) : List (Nat × Nat) := (List.range m).flatMap (precR st)
theorem precL_succ (st : List Op) (m : Nat) : precL st (m + 1) = precL st m ++ precR st m := by
  unfold precL; rw [List.range_succ, List.flatMap_append]; simp
theorem precR_len (st : List Op) (a : Nat) : (precR st a).length ≤ st.length := by
  unfold precR
  have := List.length_filter_le (fun b => decide ((op st a).e < (op st b).s)) (List.range st.length)
  rw [List.length_range] at this
  simpa using this
theorem precL_len (st : List Op) (m : Nat) : (precL st m).length ≤ m * st.length := by
  induction m with
  | zero => simp [precL]
  | succ m ih =>
    rw [precL_succ, List.length_append, Nat.succ_mul]
    have := precR_len st m
    omega
theorem mem_precL {st : List Op} {m : Nat} {p : Nat × Nat} : p ∈ precL st m ↔ p.1 < m ∧ p.2 < st.length ∧ (op st p.1).e < (op st p.2).s := by
  unfold precL precR
  simp only [List.mem_flatMap, List.mem_range, List.mem_map, List.mem_filter, decide_eq_true_eq]
  constructor
  · rintro ⟨a, ha, b, ⟨hb, h⟩, rfl⟩
    exact ⟨ha, hb, h⟩
  · rintro ⟨h1, h2, h3⟩
    exact ⟨p.1, h1, p.2, ⟨h2, h3⟩, rfl⟩
theorem precL_asc (st : List Op) : ∀ m, (precL st m).Pairwise fun a b => a.1 < b.1 ∨ (a.1 = b.1 ∧ a.2 ≤ b.2)
  | 0 => by simp [precL]
  | m + 1 => by
    rw [precL_succ]
    refine List.pairwise_append.mpr ⟨precL_asc st m, ?_, fun a ha b hb => ?_⟩
    · unfold precR
      refine List.pairwise_map.mpr ((List.pairwise_lt_range.filter _).imp fun h => ?_)
      exact .inr ⟨rfl, Nat.le_of_lt h⟩
    · have h1 := (mem_precL.mp ha).1
      unfold precR at hb
      obtain ⟨c, _, rfl⟩ := List.mem_map.mp hb
      exact .inl h1
theorem before_pairs_ok {st : List Op} (h6 : st.length ≤ 6) : F_before_pairs [sd st] = .ok (.list ((precL st st.length).map pd)) := by
  obtain ⟨ρ', G, z2, z3, rfl⟩ := forGo_pre (g := gT [2, 3]) (b := B_before_pairs_1) (c := fun i => .tuple [nd i, (op st i).d]) (fun done ρ => ∃ z2 z3, ρ = [some (.d (sd st)), some (.l ((precL st done.length).map pd)), z2, z3, none, none]) (List.range st.length) (List.range st.length) []
    [some (.d (sd st)), some (.l []), none, none, none, none] rfl ⟨none, none, rfl⟩ (by
      rintro done a r er ρ ⟨z2, z3, rfl⟩
      have ha : a = done.length ∧ a < st.length := by
        have h1 : (done ++ a :: r)[done.length]? = some a := by simp
        rw [er] at h1
        have h2 := (List.getElem?_eq_some_iff.mp h1)
        obtain ⟨h3, h4⟩ := h2
        rw [List.getElem_range] at h4
        rw [List.length_range] at h3
        omega
      obtain ⟨ea, ha⟩ := ha
      refine ⟨_, _, rfl, ?_, some (.d (nd a)), some (.d (op st a).d), rfl⟩
      have c1 : ∀ x, C_before_pairs_1 [some (.d (sd st)), x, some (.d (nd a)), some (.d (op st a).d), none, none] = .ok (.list ((precR st a).map pd)) := fun x => by
        unfold C_before_pairs_1 precR
        rw [List.map_map]
        refine eLc_ok (List.range st.length) _ (fun b => decide ((op st a).e < (op st b).s)) _ (iEnum_sd rfl) fun b _ => ⟨_, rfl, by simp, fun _ => by simp [pd]⟩
      have hl := precL_len st done.length
      have hl2 := precR_len st a
      have : done.length * st.length ≤ 6 * 6 := Nat.mul_le_mul (by omega) h6
      show B_before_pairs_1 [some (.d (sd st)), some (.l ((precL st done.length).map pd)), some (.d (nd a)), some (.d (op st a).d), none, none] = _
      unfold B_before_pairs_1
      rw [ext_ok (ds := (precL st done.length).map pd) rfl (c1 _) (by simp only [List.length_map]; unfold LIM; omega)]
      rw [List.length_append, List.length_singleton, precL_succ, ← ea, List.map_append]
      rfl)
  rw [List.length_range] at G
  have so := sort_pd (precL_asc st st.length)
  unfold F_before_pairs
  rw [runF_ev]
  have it : iEnum (eV 0) [some (.d (sd st)), some (.l []), none, none, none, none] = _ := iEnum_sd (f := eV 0) (st := st) rfl
  simp only [List.map_cons, List.map_nil, List.length_cons, List.length_nil, List.cons_append, List.nil_append, List.replicate, sSeq_ev, sOwn_ev, eLs_ev, aN_ok, bind_ok', mkL_nil, outOf_ok, List.set_cons_succ, List.set_cons_zero, then_next, sFor_ev, it, G, sRet_ev, e1_ev, eLs', eL0, so, runO_ret]
theorem preceding_ok {st : List Op} (hv : Valid st) : F_preceding [sd st] = .ok (.list ((precL st st.length).map pd)) := by
  simp [F_preceding, runF_ev, check_story_ok hv, before_pairs_ok hv.len]
end CP
namespace CP
open PySem L2
theorem not_em {α : Type} {l : List α} (h : l ≠ []) : l.isEmpty = false := by cases l with | nil => exact absurd rfl h | cons _ _ => rfl
def tryO (ns : List Str) (i : Nat) (hs : List (Str × FS)) (o : Out) : Out := match o with
  | .exc c ρ' => if c.name ∈ ns ∧ c.arg.isNone = true ∧ noX ρ' = true ∧ i < ρ'.length then tryGo i c ρ' hs else .bad
  | o => o
theorem sTry_ev (ns : List Str) (i : Nat) (b : FS) (hs : List (Str × FS)) (ρ : EV) : sTry ns i b hs ρ = tryO ns i hs (b ρ) := by
  unfold sTry tryO
  cases b ρ <;> rfl
@[simp] theorem tryO_ret (ns : List Str) (i : Nat) (hs : List (Str × FS)) (d : PyData) : tryO ns i hs (.ret d) = .ret d := rfl
@[simp] theorem tryO_next (ns : List Str) (i : Nat) (hs : List (Str × FS)) (d : EV) : tryO ns i hs (.next d) = .next d := rfl
theorem sureB_iff {E : List (List Nat)} {a b : Nat} (ha : ∀ o ∈ E, a ∈ o) (hb : ∀ o ∈ E, b ∈ o) : sureB E a b = true ↔ a ≠ b ∧ ∀ o ∈ E, o.idxOf a < o.idxOf b := by
  unfold sureB backs
  rw [Bool.and_eq_true, decide_eq_true_iff, List.isEmpty_iff, List.filter_eq_nil_iff]
  refine and_congr_right fun hne => ⟨fun h o ho => ?_, fun h o ho => ?_⟩
  · have h1 := h o ho
    rw [decide_eq_true_iff] at h1
    have h2 : o.idxOf a ≠ o.idxOf b := fun e => hne (by
      have p1 := List.getElem_idxOf (List.idxOf_lt_length_of_mem (ha o ho))
      have p2 := List.getElem_idxOf (List.idxOf_lt_length_of_mem (hb o ho))
      simp only [e] at p1
      exact p1.symm.trans p2)
    omega
  · have := h o ho
    rw [decide_eq_true_iff]
    omega
theorem mem_sureL {E : List (List Nat)} {n m : Nat} {p : Nat × Nat} : p ∈ sureL E n m ↔ p.1 < m ∧ p.2 < n ∧ sureB E p.1 p.2 = true := by
  unfold sureL
  simp only [List.mem_flatMap, List.mem_range, List.mem_map, List.mem_filter]
  constructor
  · rintro ⟨a, ha, b, ⟨hb, h⟩, rfl⟩
    exact ⟨ha, hb, h⟩
  · rintro ⟨h1, h2, h3⟩
    exact ⟨p.1, h1, p.2, ⟨h2, h3⟩, rfl⟩
theorem Valid.h7 {st : List Op} (hv : Valid st) : st.length ≤ 7 := by have := hv.len; omega
theorem expl_mem {st : List Op} (hv : Valid st) {o : List Nat} (ho : o ∈ expl st) {k : Nat} (hk : k < st.length) : k ∈ o := ((mem_expl hv.h7).mp ho).mem hk
theorem prec_sure {st : List Op} (hv : Valid st) {p : Nat × Nat} (h : p ∈ precL st st.length) : p ∈ surePairs st := by
  obtain ⟨h1, h2, h3⟩ := mem_precL.mp h
  refine mem_sureL.mpr ⟨h1, h2, ?_⟩
  refine (sureB_iff (fun o ho => expl_mem hv ho h1) fun o ho => expl_mem hv ho h2).mpr ⟨fun e => ?_, fun o ho => ((mem_expl hv.h7).mp ho).prec h1 h2 h3⟩
  rw [← e] at h3
  have := hv.rng _ (op_mem h1)
  omega
theorem sure_nodup (E : List (List Nat)) (n m : Nat) : (sureL E n m).Nodup := by
  induction m with
  | zero => simp [sureL]
  | succ m ih =>
    rw [sureL_succ]
    refine List.nodup_append.mpr ⟨ih, ?_, fun a ha b hb e => ?_⟩
    · exact (List.nodup_range.filter _).map _ fun a b h e => h (by cases e; rfl)
    · have h1 := (mem_sureL.mp ha).1
      obtain ⟨c, _, rfl⟩ := List.mem_map.mp hb
      rw [e] at h1
      exact Nat.lt_irrefl _ h1
theorem nodup_le {l : List Nat} {m : Nat} (hn : l.Nodup) (h : ∀ x ∈ l, x < m) : l.length ≤ m := by
  have := free_many (List.range m) l hn
  rw [List.filter_eq_nil_iff.mpr (fun x hx => by simpa using h x hx), List.length_range] at this
  simpa using this
theorem idx_inj {o : List Nat} {a b : Nat} (ha : a ∈ o) (hb : b ∈ o) (e : o.idxOf a = o.idxOf b) : a = b := by
  have p1 := List.getElem_idxOf (List.idxOf_lt_length_of_mem ha)
  have p2 := List.getElem_idxOf (List.idxOf_lt_length_of_mem hb)
  simp only [e] at p1
  exact p1.symm.trans p2
end CP
namespace CP
open PySem L2
theorem cut_take {α : Type} (xs : List α) (k : Nat) : cutD xs none (some (k : Int)) = xs.take k := by
  unfold cutD
  rw [HT.sIx_none, HT.sIx_nat, List.drop_zero, Nat.sub_zero]
  by_cases h : k ≤ xs.length
  · rw [Nat.min_eq_left h]
  · rw [Nat.min_eq_right (by omega), List.take_length, List.take_of_length_le (by omega)]
theorem cut_drop {α : Type} (xs : List α) (k : Nat) : cutD xs (some (k : Int)) none = xs.drop k := by
  unfold cutD
  rw [HT.sIx_none, HT.sIx_nat]
  by_cases h : k ≤ xs.length
  · rw [Nat.min_eq_left h, List.take_of_length_le (by rw [List.length_drop]; omega)]
  · rw [Nat.min_eq_right (by omega), Nat.sub_self, List.take_zero, List.drop_eq_nil_of_le (by omega)]
theorem cut_mid {α : Type} (xs : List α) (a b : Nat) : cutD xs (some (a : Int)) (some (b : Int)) = (xs.take b).drop a := by
  unfold cutD
  rw [HT.sIx_nat, HT.sIx_nat, List.drop_take]
  by_cases h : a ≤ xs.length
  · rw [Nat.min_eq_left h]
    by_cases h2 : b ≤ xs.length
    · rw [Nat.min_eq_left h2]
    · rw [Nat.min_eq_right (by omega), List.take_of_length_le (by rw [List.length_drop]; omega), List.take_of_length_le (by rw [List.length_drop]; omega)]
  · rw [Nat.min_eq_right (by omega : xs.length ≤ a), List.drop_eq_nil_of_le (Nat.le_refl _), List.drop_eq_nil_of_le (by omega : xs.length ≤ a), List.take_nil, List.take_nil]
@[simp] theorem oN_ev (ρ : EV) : oN ρ = .ok none := rfl
@[simp] theorem oS_ev (f : FE) (ρ : EV) : oS f ρ = (f ρ).bind asI := rfl
@[simp] theorem asI_int (i : Int) : asI (.int i) = .ok (some i) := rfl
@[simp] theorem eSl_ev (a : FE) (lo hi : EV → R (Option Int)) (ρ : EV) : eSl a lo hi ρ = (a ρ).bind fun d => (lo ρ).bind fun l => (hi ρ).bind fun h => sliceD d l h := rfl
theorem sl_take {xs : List PyData} (k : Nat) : sliceD (.list xs) none (some (k : Int)) = .ok (.list (xs.take k)) := by
  show R.ok (PyData.list (cutD xs none (some (k : Int)))) = _
  rw [cut_take]
theorem sl_takeT {xs : List PyData} (k : Nat) : sliceD (.tuple xs) none (some (k : Int)) = .ok (.tuple (xs.take k)) := by
  show R.ok (PyData.tuple (cutD xs none (some (k : Int)))) = _
  rw [cut_take]
theorem sl_drop {xs : List PyData} (k : Nat) : sliceD (.list xs) (some (k : Int)) none = .ok (.list (xs.drop k)) := by
  show R.ok (PyData.list (cutD xs (some (k : Int)) none)) = _
  rw [cut_drop]
theorem sl_dropT {xs : List PyData} (k : Nat) : sliceD (.tuple xs) (some (k : Int)) none = .ok (.tuple (xs.drop k)) := by
  show R.ok (PyData.tuple (cutD xs (some (k : Int)) none)) = _
  rw [cut_drop]
theorem sl_midT {xs : List PyData} (a b : Nat) : sliceD (.tuple xs) (some (a : Int)) (some (b : Int)) = .ok (.tuple ((xs.take b).drop a)) := by
  show R.ok (PyData.tuple (cutD xs (some (a : Int)) (some (b : Int)))) = _
  rw [cut_mid]
theorem gd_left {r q : List Int} {i : Nat} (h : i < r.length) : (r ++ q).getD i 0 = r.getD i 0 := by
  rw [List.getD_eq_getElem?_getD, List.getD_eq_getElem?_getD, List.getElem?_append_left h]
theorem gd_right {r : List Int} {x : Int} : (r ++ [x]).getD r.length 0 = x := by
  rw [List.getD_eq_getElem?_getD, List.getElem?_append_right (Nat.le_refl _), Nat.sub_self]
  rfl
def chg (r : List Int) : List Nat := (List.range' 1 (r.length - 1)).filter fun a => decide (r.getD a 0 ≠ r.getD (a - 1) 0)
theorem chg_snoc {r : List Int} (h : r ≠ []) (x : Int) : (chg (r ++ [x])).length = (chg r).length + if x = r.getD (r.length - 1) 0 then 0 else 1 := by
  have hl : 1 ≤ r.length := by cases r with | nil => exact absurd rfl h | cons a b => simp
  unfold chg
  have e : (r ++ [x]).length - 1 = (r.length - 1) + 1 := by simp; omega
  rw [e, List.range'_concat, List.filter_append, List.length_append]
  have e1 : ((List.range' 1 (r.length - 1)).filter fun a => decide ((r ++ [x]).getD a 0 ≠ (r ++ [x]).getD (a - 1) 0)) = (List.range' 1 (r.length - 1)).filter fun a => decide (r.getD a 0 ≠ r.getD (a - 1) 0) := by
    refine List.filter_congr fun a ha => ?_
    have := List.mem_range'_1.mp ha
    rw [gd_left (by omega), gd_left (by omega)]
  rw [e1]
  congr 1
  have p1 : 1 + 1 * (r.length - 1) = r.length := by omega
  rw [p1]
  have g1 : (r ++ [x]).getD r.length 0 = x := gd_right
  have g2 : (r ++ [x]).getD (r.length - 1) 0 = r.getD (r.length - 1) 0 := gd_left (by omega)
  rw [List.filter_cons, g1, g2]
  by_cases q : x = r.getD (r.length - 1) 0
  · rw [if_pos q, if_neg (by simpa using q)]; rfl
  · rw [if_neg q, if_pos (by simpa using q)]; rfl
theorem dedup_snoc (r : List Int) (x : Int) : (dedupI (r ++ [x])).length = (dedupI r).length + if x ∈ r then 0 else 1 := by
  have hm := (dedup_fold r [] List.nodup_nil).2 x
  unfold dedupI
  rw [List.foldl_append]
  show (PyProof.Rows.step_dedup (r.foldl PyProof.Rows.step_dedup []) x).length = _
  unfold PyProof.Rows.step_dedup
  by_cases q : x ∈ r
  · have : x ∈ r.foldl PyProof.Rows.step_dedup [] := hm.mpr (.inr q)
    rw [if_pos q, if_pos (by rw [List.any_eq_true]; exact ⟨x, this, by simp⟩)]
    rfl
  · have : x ∉ r.foldl PyProof.Rows.step_dedup [] := fun z => by
      rcases hm.mp z with z | z
      · cases z
      · exact q z
    rw [if_neg q, if_neg (by rw [List.any_eq_true]; rintro ⟨y, y1, y2⟩; exact this (by rw [← eq_of_beq y2]; exact y1)), List.length_append]
    rfl
theorem chg_dedup : ∀ (r : List Int), (∀ i, 1 ≤ i → i < r.length → r.getD i 0 = r.getD (i - 1) 0 ∨ r.getD i 0 ∉ r.take i) → r ≠ [] → (chg r).length + 1 = (dedupI r).length := by
  intro r
  induction hr : r.length generalizing r with
  | zero => intro _ h; exact absurd (List.length_eq_zero_iff.mp hr) h
  | succ n ih =>
    intro H _
    have hne : r ≠ [] := by intro z; rw [z] at hr; cases hr
    obtain ⟨q, x, rfl⟩ : ∃ q x, r = q ++ [x] := ⟨r.dropLast, r.getLast hne, (List.dropLast_concat_getLast hne).symm⟩
    have hq : q.length = n := by simpa using hr
    by_cases h0 : q = []
    · subst h0
      rfl
    · have H' := ih q hq (fun i h1 h2 => by
        have := H i h1 (by omega)
        rw [gd_left (by omega), gd_left (by omega), List.take_append_of_le_length (by omega)] at this
        exact this) h0
      have hl : 1 ≤ q.length := by cases q with | nil => exact absurd rfl h0 | cons a b => simp
      rw [chg_snoc h0, dedup_snoc]
      have hx := H n (by omega) (by omega)
      rw [← hq] at hx
      rw [gd_right, gd_left (by omega), List.take_left] at hx
      have hmem : q.getD (q.length - 1) 0 ∈ q := by
        rw [List.getD_eq_getElem?_getD, List.getElem?_eq_getElem (by omega : q.length - 1 < q.length)]
        exact List.getElem_mem _
      rcases hx with hx | hx
      · rw [if_pos hx, if_pos (by rw [hx]; exact hmem)]
        omega
      · rw [if_neg hx, if_neg fun z => hx (by rw [z]; exact hmem)]
        omega
def vrow (st : List Op) (o : List Nat) : List Int := o.map fun j => (op st j).v
theorem Valid.wne {st : List Op} (hv : Valid st) {a b : Nat} (ha : a < st.length) (hb : b < st.length) (hab : a ≠ b) (wa : (op st a).w = true) (wb : (op st b).w = true) : (op st a).v ≠ (op st b).v := by
  have h := List.pairwise_filter.mp (List.pairwise_map.mp hv.wrt)
  have key : ∀ {a b : Nat}, a < b → b < st.length → (op st a).w = true → (op st b).w = true → (op st a).v ≠ (op st b).v := fun {a b} hab hb wa wb => by
    have ha : a < st.length := by omega
    have e1 : st[a] = op st a := Option.some.inj ((List.getElem?_eq_getElem ha).symm.trans (op_some ha))
    have e2 : st[b] = op st b := Option.some.inj ((List.getElem?_eq_getElem hb).symm.trans (op_some hb))
    have := (List.pairwise_iff_getElem.mp h) a b ha hb hab
    rw [e1, e2] at this
    exact this wa wb
  rcases Nat.lt_or_gt_of_ne hab with h | h
  · exact key h hb wa wb
  · exact fun e => key h ha wb wa e.symm
theorem wvals_snoc (st : List Op) (p : List Nat) (k : Nat) : wvals st (p ++ [k]) = wvals st p ++ if (op st k).w then [(op st k).v] else [] := by
  unfold wvals
  rw [List.filter_append, List.map_append]
  congr 1
  simp only [List.filter_cons, List.filter_nil]
  cases (op st k).w <;> rfl
theorem lastW_snoc (st : List Op) (p : List Nat) (k : Nat) : lastW st (p ++ [k]) = if (op st k).w then (op st k).v else lastW st p := by
  unfold lastW
  rw [wvals_snoc]
  cases (op st k).w
  · simp
  · simp
theorem mayF_read {st : List Op} {p : List Nat} {k : Nat} (h : mayF st p k = true) (hw : (op st k).w = false) : (op st k).v = lastW st p := by
  unfold mayF at h
  rw [Bool.and_eq_true, hw, Bool.false_or, decide_eq_true_iff] at h
  exact h.2
theorem lastW_mem (st : List Op) (p : List Nat) : lastW st p ∈ (0 : Int) :: wvals st p := by
  unfold lastW
  cases q : (wvals st p).getLast? with
  | none => simp
  | some v => exact List.mem_cons_of_mem _ (List.mem_of_getLast? q)
theorem row_take {st : List Op} (hv : Valid st) {o : List Nat} (he : Expl st o) : ∀ i, i ≤ o.length → (∀ x ∈ vrow st (o.take i), x ∈ (0 : Int) :: wvals st (o.take i)) ∧ (1 ≤ i → lastW st (o.take i) = (vrow st o).getD (i - 1) 0)
  | 0, _ => ⟨by simp [vrow], by omega⟩
  | i + 1, h => by
    have hi : i < o.length := by omega
    obtain ⟨h1, h2⟩ := row_take hv he i (by omega)
    have et : o.take (i + 1) = o.take i ++ [o[i]] := List.take_succ_eq_append_getElem hi
    have ok := he.ok i hi
    have eg : (vrow st o).getD (i + 1 - 1) 0 = (op st o[i]).v := by
      unfold vrow
      rw [Nat.add_sub_cancel, List.getD_eq_getElem?_getD, List.getElem?_map, List.getElem?_eq_getElem hi]
      rfl
    rw [et]
    refine ⟨fun x hx => ?_, fun _ => ?_⟩
    · unfold vrow at hx
      rw [List.map_append] at hx
      rw [wvals_snoc]
      rcases List.mem_append.mp hx with q | q
      · have := h1 x q
        rcases List.mem_cons.mp this with z | z
        · rw [z]; simp
        · exact List.mem_cons_of_mem _ (List.mem_append_left _ z)
      · have q : x = (op st o[i]).v := List.mem_singleton.mp q
        cases w : (op st o[i]).w with
        | true => rw [q]; simp
        | false =>
          rw [q, mayF_read ok w]
          simpa using lastW_mem st (o.take i)
    · rw [lastW_snoc, eg]
      cases w : (op st o[i]).w with
      | true => rfl
      | false => exact (mayF_read ok w).symm
theorem row_ok {st : List Op} (hv : Valid st) {o : List Nat} (he : Expl st o) (hne : o ≠ []) : (chg (vrow st o)).length + 1 = (dedupI (vrow st o)).length := by
  refine chg_dedup _ (fun i h1 h2 => ?_) (by unfold vrow; simpa using hne)
  have hi : i < o.length := by unfold vrow at h2; simpa using h2
  have ok := he.ok i hi
  obtain ⟨r1, r2⟩ := row_take hv he i (by omega)
  have eg : (vrow st o).getD i 0 = (op st o[i]).v := by
    unfold vrow
    rw [List.getD_eq_getElem?_getD, List.getElem?_map, List.getElem?_eq_getElem hi]
    rfl
  have et : (vrow st o).take i = vrow st (o.take i) := by unfold vrow; rw [List.map_take]
  rw [eg, et]
  have hb : o[i] < st.length := he.inr _ (List.getElem_mem hi)
  cases w : (op st o[i]).w with
  | false => exact .inl ((mayF_read ok w).trans (r2 h1))
  | true =>
    refine .inr fun hx => ?_
    rcases List.mem_cons.mp (r1 _ hx) with z | z
    · have := (hv.rng _ (op_mem hb)).1
      rw [w, if_pos rfl] at this
      omega
    · unfold wvals at z
      obtain ⟨j, hj, e⟩ := List.mem_map.mp z
      obtain ⟨j1, j2⟩ := List.mem_filter.mp hj
      have hj1 : j < st.length := he.inr _ (List.mem_of_mem_take j1)
      have hne2 : j ≠ o[i] := fun e2 => by
        have nd := he.nd.sublist (List.take_sublist (i + 1) o)
        rw [List.take_succ_eq_append_getElem hi] at nd
        exact (List.nodup_append.mp nd).2.2 j j1 o[i] (by simp) e2
      exact hv.wne hj1 hb hne2 j2 w e
end CP
namespace CP
open PySem L2
theorem forGo_exc {g : PyData → EV → R EV} {b : FS} {ρ ρ1 ρ2 : EV} {x : PyData} {xs : List PyData} {c : Ex} (h : g x ρ = .ok ρ1) (h2 : b ρ1 = .exc c ρ2) : forGo g b (x :: xs) ρ = .exc c ρ2 := by rw [forGo, h]; simp only [h2]
theorem forGo_preA {α : Type} {g : PyData → EV → R EV} {b : FS} {c : α → PyData} (I : List α → EV → Prop) (xs : List α) (ys : List PyData) : ∀ (rest done : List α) (ρ : EV), done ++ rest = xs → I done ρ → (∀ done x r, done ++ x :: r = xs → ∀ ρ, I done ρ → ∃ ρ1 ρ2, g (c x) ρ = .ok ρ1 ∧ b ρ1 = .next ρ2 ∧ I (done ++ [x]) ρ2) →
    ∃ ρ', forGo g b (rest.map c ++ ys) ρ = forGo g b ys ρ' ∧ I xs ρ'
  | [], done, ρ, e, h, _ => ⟨ρ, rfl, by rw [← e, List.append_nil]; exact h⟩
  | x :: rest, done, ρ, e, h, st => by
    obtain ⟨ρ1, ρ2, h1, h2, h3⟩ := st done x rest e ρ h
    obtain ⟨ρ', h4, h5⟩ := forGo_preA I xs ys rest (done ++ [x]) ρ2 (by rw [← e]; simp) h3 st
    exact ⟨ρ', by rw [List.map_cons, List.cons_append, forGo_next h1 h2]; exact h4, h5⟩
theorem neD_bool (a b : Bool) : neD (.bool a) (.bool b) = .ok (.bool (a != b)) := by
  unfold neD
  rw [(Sh.bool 0 a).shaped (by omega), (Sh.bool 0 b).shaped (by omega)]
  cases a <;> cases b <;> rfl
theorem eqD_bool (a b : Bool) : eqD (.bool a) (.bool b) = .ok (.bool (a == b)) := by
  unfold eqD
  rw [(Sh.bool 0 a).shaped (by omega), (Sh.bool 0 b).shaped (by omega)]
  cases a <;> cases b <;> rfl
abbrev Ans := Nat × Nat × Bool
def ad (a : Ans) : PyData := .tuple [nd a.1, nd a.2.1, .bool a.2.2]
abbrev asd (A : List Ans) : PyData := .tuple (A.map ad)
def AnsOk (n : Nat) (a : Ans) : Prop := a.1 < n ∧ a.2.1 < n ∧ a.1 ≠ a.2.1
theorem answer_turn {st : List Op} {a : Ans} (h : AnsOk st.length a) (s1 : Option SV) :
    B_check_answers_1 [some (.d (sd st)), s1, some (.d (ad a)), none] = .next [some (.d (sd st)), s1, some (.d (ad a)), none] := by
  have t1 : isiTup (ad a) = true := rfl
  have l3 : lenD (ad a) = .ok (.int 3) := rfl
  have i0 : ixD (ad a) (.int 0) = .ok (nd a.1) := rfl
  have i1 : ixD (ad a) (.int 1) = .ok (nd a.2.1) := rfl
  have i2 : ixD (ad a) (.int 2) = .ok (.bool a.2.2) := rfl
  have b1 : isiBool (.bool a.2.2) = true := rfl
  have sl : sliceD (ad a) none (some 2) = .ok (.tuple ([a.1, a.2.1].map nd)) := sl_takeT (xs := [nd a.1, nd a.2.1, .bool a.2.2]) 2
  have c1 : C_check_answers_1 [some (.d (sd st)), s1, some (.d (ad a)), none] = .ok (.list []) := by
    have hf : ([a.1, a.2.1].filter fun x : Nat => !(decide ((0 : Int) ≤ (x : Int)) && decide ((x : Int) ≤ (st.length : Int) - 1))) = [] := by
      refine List.filter_eq_nil_iff.mpr fun x hx => ?_
      have hx' : x < st.length := by
        rcases List.mem_cons.mp hx with e | e
        · rw [e]; exact h.1
        · rw [List.mem_singleton.mp e]; exact h.2.1
      have h1 : (0 : Int) ≤ (x : Int) := by omega
      have h2 : (x : Int) ≤ (st.length : Int) - 1 := by omega
      simp [h1, h2]
    have : ([] : List PyData) = (([a.1, a.2.1].filter fun x : Nat => !(decide ((0 : Int) ≤ (x : Int)) && decide ((x : Int) ≤ (st.length : Int) - 1))).map nd) := by rw [hf]; rfl
    rw [this]
    unfold C_check_answers_1
    refine eLc_ok [a.1, a.2.1] nd (fun x : Nat => !(decide ((0 : Int) ≤ (x : Int)) && decide ((x : Int) ≤ (st.length : Int) - 1))) nd (by simp only [List.map_cons, List.map_nil, List.length_cons, List.length_nil, List.cons_append, List.nil_append, List.replicate, Nat.sub_self, List.append_nil, sSeq_ev, sSet_ev, sExpr_ev, sRet_ev, sRetN_ev, sIf_ev, sFor_ev, sNil_ev, sOwn_ev, eCall_ev, aC_ev, aN_ok, eVs, eV0, eLs', eL0, eC_ev, bind_ok', bind_bad', bind_exc', callN_ev, if_true, if_false, outOf_ok, outOf_exc, outOf_bad, List.set_cons_succ, List.set_cons_zero, then_next, then_ret, then_exc, e1_ev, e2_ev, eT_ev, eLs_ev, mkL_nil, mkL_1, mkL_2, mkT_nil, mkT_1, mkT_2, mkT_3, mkT_4, tB_ev, tV_ev, tAnd_ev, tOr_ev, tNot_ev, tTrue_ev, eAnd_ev, eOr_ev, eNot_ev, eIf_ev, iSeq_ev, seqD_l, seqD_t, asB_bool, truthD_bool, truthD_lst, truthD_tup, runO_ret, runO_next, runO_exc, Bool.not_true, Bool.not_false, Bool.false_eq_true, Bool.true_and, Bool.false_and, Bool.and_true, Bool.and_false, Bool.not_not, tupleD_l, tupleD_t, listD_l, listD_t, lenD_lst, lenD_tup, List.length_map, em_map, eqD_int, neD_int, ltD_int, leD_int, gtD_int, geD_int, opAdd_int, opSub_int, negD_1, isiD_ev, gN_ev, gT_ev, setAll_c, setAll_n, wipeE_c, wipeE_n, isD_non, isNotD_non, eIdx_ev, ix_op0, ix_op1, ix_op2, ix_op3, eqD_kdw, eqD_kdr, List.getElem?_cons_succ, List.getElem?_cons_zero, decide_true, decide_false, eSl_ev, oN_ev, oS_ev, asI_int, sl]) fun x _ => ⟨_, rfl, ?_, fun _ => by simp only [List.map_cons, List.map_nil, List.length_cons, List.length_nil, List.cons_append, List.nil_append, List.replicate, Nat.sub_self, List.append_nil, sSeq_ev, sSet_ev, sExpr_ev, sRet_ev, sRetN_ev, sIf_ev, sFor_ev, sNil_ev, sOwn_ev, eCall_ev, aC_ev, aN_ok, eVs, eV0, eLs', eL0, eC_ev, bind_ok', bind_bad', bind_exc', callN_ev, if_true, if_false, outOf_ok, outOf_exc, outOf_bad, List.set_cons_succ, List.set_cons_zero, then_next, then_ret, then_exc, e1_ev, e2_ev, eT_ev, eLs_ev, mkL_nil, mkL_1, mkL_2, mkT_nil, mkT_1, mkT_2, mkT_3, mkT_4, tB_ev, tV_ev, tAnd_ev, tOr_ev, tNot_ev, tTrue_ev, eAnd_ev, eOr_ev, eNot_ev, eIf_ev, iSeq_ev, seqD_l, seqD_t, asB_bool, truthD_bool, truthD_lst, truthD_tup, runO_ret, runO_next, runO_exc, Bool.not_true, Bool.not_false, Bool.false_eq_true, Bool.true_and, Bool.false_and, Bool.and_true, Bool.and_false, Bool.not_not, tupleD_l, tupleD_t, listD_l, listD_t, lenD_lst, lenD_tup, List.length_map, em_map, eqD_int, neD_int, ltD_int, leD_int, gtD_int, geD_int, opAdd_int, opSub_int, negD_1, isiD_ev, gN_ev, gT_ev, setAll_c, setAll_n, wipeE_c, wipeE_n, isD_non, isNotD_non, eIdx_ev, ix_op0, ix_op1, ix_op2, ix_op3, eqD_kdw, eqD_kdr, List.getElem?_cons_succ, List.getElem?_cons_zero, decide_true, decide_false]⟩
    simp only [List.map_cons, List.map_nil, List.length_cons, List.length_nil, List.cons_append, List.nil_append, List.replicate, Nat.sub_self, List.append_nil, sSeq_ev, sSet_ev, sExpr_ev, sRet_ev, sRetN_ev, sIf_ev, sFor_ev, sNil_ev, sOwn_ev, eCall_ev, aC_ev, aN_ok, eVs, eV0, eLs', eL0, eC_ev, bind_ok', bind_bad', bind_exc', callN_ev, if_true, if_false, outOf_ok, outOf_exc, outOf_bad, List.set_cons_succ, List.set_cons_zero, then_next, then_ret, then_exc, e1_ev, e2_ev, eT_ev, eLs_ev, mkL_nil, mkL_1, mkL_2, mkT_nil, mkT_1, mkT_2, mkT_3, mkT_4, tB_ev, tV_ev, tAnd_ev, tOr_ev, tNot_ev, tTrue_ev, eAnd_ev, eOr_ev, eNot_ev, eIf_ev, iSeq_ev, seqD_l, seqD_t, asB_bool, truthD_bool, truthD_lst, truthD_tup, runO_ret, runO_next, runO_exc, Bool.not_true, Bool.not_false, Bool.false_eq_true, Bool.true_and, Bool.false_and, Bool.and_true, Bool.and_false, Bool.not_not, tupleD_l, tupleD_t, listD_l, listD_t, lenD_lst, lenD_tup, List.length_map, em_map, eqD_int, neD_int, ltD_int, leD_int, gtD_int, geD_int, opAdd_int, opSub_int, negD_1, isiD_ev, gN_ev, gT_ev, setAll_c, setAll_n, wipeE_c, wipeE_n, isD_non, isNotD_non, eIdx_ev, ix_op0, ix_op1, ix_op2, ix_op3, eqD_kdw, eqD_kdr, List.getElem?_cons_succ, List.getElem?_cons_zero, decide_true, decide_false, in_range_ok]
  have e1 : eqD (nd a.1) (nd a.2.1) = .ok (.bool false) := by rw [encN.eqD (by decide)]; simp [h.2.2]
  have n3 : neD (.int 3) (.int 3) = .ok (.bool false) := rfl
  unfold B_check_answers_1
  simp only [List.map_cons, List.map_nil, List.length_cons, List.length_nil, List.cons_append, List.nil_append, List.replicate, Nat.sub_self, List.append_nil, sSeq_ev, sSet_ev, sExpr_ev, sRet_ev, sRetN_ev, sIf_ev, sFor_ev, sNil_ev, sOwn_ev, eCall_ev, aC_ev, aN_ok, eVs, eV0, eLs', eL0, eC_ev, bind_ok', bind_bad', bind_exc', callN_ev, if_true, if_false, outOf_ok, outOf_exc, outOf_bad, List.set_cons_succ, List.set_cons_zero, then_next, then_ret, then_exc, e1_ev, e2_ev, eT_ev, eLs_ev, mkL_nil, mkL_1, mkL_2, mkT_nil, mkT_1, mkT_2, mkT_3, mkT_4, tB_ev, tV_ev, tAnd_ev, tOr_ev, tNot_ev, tTrue_ev, eAnd_ev, eOr_ev, eNot_ev, eIf_ev, iSeq_ev, seqD_l, seqD_t, asB_bool, truthD_bool, truthD_lst, truthD_tup, runO_ret, runO_next, runO_exc, Bool.not_true, Bool.not_false, Bool.false_eq_true, Bool.true_and, Bool.false_and, Bool.and_true, Bool.and_false, Bool.not_not, tupleD_l, tupleD_t, listD_l, listD_t, lenD_lst, lenD_tup, List.length_map, em_map, eqD_int, neD_int, ltD_int, leD_int, gtD_int, geD_int, opAdd_int, opSub_int, negD_1, isiD_ev, gN_ev, gT_ev, setAll_c, setAll_n, wipeE_c, wipeE_n, isD_non, isNotD_non, eIdx_ev, ix_op0, ix_op1, ix_op2, ix_op3, eqD_kdw, eqD_kdr, List.getElem?_cons_succ, List.getElem?_cons_zero, decide_true, decide_false, t1, l3, n3, i0, i1, i2, b1, c1, e1, List.isEmpty]
theorem expl1 {st : List Op} (hv : Valid st) : F_explanations_of [sd st, .int 1] = .ok (.list (((expl st).take 1).map od)) := explanations_of_ok (most := 1) (by have := hv.len; omega) (by unfold LIM; omega) (by omega)
theorem take1_em {α : Type} (l : List α) : (l.take 1).isEmpty = l.isEmpty := by cases l <;> rfl
theorem check_answers_no {st : List Op} (hv : Valid st) (he : expl st = []) (d : PyData) : F_check_answers [sd st, d] = .exc ⟨"NoExplanation", none⟩ := by
  unfold F_check_answers
  rw [runF_ev]
  simp only [List.map_cons, List.map_nil, List.length_cons, List.length_nil, List.cons_append, List.nil_append, List.replicate, Nat.sub_self, List.append_nil, sSeq_ev, sSet_ev, sExpr_ev, sRet_ev, sRetN_ev, sIf_ev, sFor_ev, sNil_ev, sOwn_ev, eCall_ev, aC_ev, aN_ok, eVs, eV0, eLs', eL0, eC_ev, bind_ok', bind_bad', bind_exc', callN_ev, if_true, if_false, outOf_ok, outOf_exc, outOf_bad, List.set_cons_succ, List.set_cons_zero, then_next, then_ret, then_exc, e1_ev, e2_ev, eT_ev, eLs_ev, mkL_nil, mkL_1, mkL_2, mkT_nil, mkT_1, mkT_2, mkT_3, mkT_4, tB_ev, tV_ev, tAnd_ev, tOr_ev, tNot_ev, tTrue_ev, eAnd_ev, eOr_ev, eNot_ev, eIf_ev, iSeq_ev, seqD_l, seqD_t, asB_bool, truthD_bool, truthD_lst, truthD_tup, runO_ret, runO_next, runO_exc, Bool.not_true, Bool.not_false, Bool.false_eq_true, Bool.true_and, Bool.false_and, Bool.and_true, Bool.and_false, Bool.not_not, tupleD_l, tupleD_t, listD_l, listD_t, lenD_lst, lenD_tup, List.length_map, em_map, eqD_int, neD_int, ltD_int, leD_int, gtD_int, geD_int, opAdd_int, opSub_int, negD_1, isiD_ev, gN_ev, gT_ev, setAll_c, setAll_n, wipeE_c, wipeE_n, isD_non, isNotD_non, eIdx_ev, ix_op0, ix_op1, ix_op2, ix_op3, eqD_kdw, eqD_kdr, List.getElem?_cons_succ, List.getElem?_cons_zero, decide_true, decide_false, check_story_ok hv, expl1 hv, he, List.take_nil, List.isEmpty, sRaise]
theorem check_answers_ok {st : List Op} (hv : Valid st) (he : expl st ≠ []) {A : List Ans} (hA : ∀ a ∈ A, AnsOk st.length a) : F_check_answers [sd st, asd A] = .ok .none := by
  obtain ⟨ρ', L, z2, rfl⟩ := forGo_pre (g := gN 2) (b := B_check_answers_1) (c := ad) (fun _ ρ => ∃ z2, ρ = [some (.d (sd st)), some (.d (asd A)), z2, none]) A A [] [some (.d (sd st)), some (.d (asd A)), none, none] rfl ⟨none, rfl⟩ (by
    rintro done a r er ρ ⟨z2, rfl⟩
    exact ⟨_, _, rfl, answer_turn (hA a (by rw [← er]; simp)) _, some (.d (ad a)), rfl⟩)
  have t1 : isiTup (asd A) = true := rfl
  unfold F_check_answers
  rw [runF_ev]
  simp only [List.map_cons, List.map_nil, List.length_cons, List.length_nil, List.cons_append, List.nil_append, List.replicate, Nat.sub_self, List.append_nil, sSeq_ev, sSet_ev, sExpr_ev, sRet_ev, sRetN_ev, sIf_ev, sFor_ev, sNil_ev, sOwn_ev, eCall_ev, aC_ev, aN_ok, eVs, eV0, eLs', eL0, eC_ev, bind_ok', bind_bad', bind_exc', callN_ev, if_true, if_false, outOf_ok, outOf_exc, outOf_bad, List.set_cons_succ, List.set_cons_zero, then_next, then_ret, then_exc, e1_ev, e2_ev, eT_ev, eLs_ev, mkL_nil, mkL_1, mkL_2, mkT_nil, mkT_1, mkT_2, mkT_3, mkT_4, tB_ev, tV_ev, tAnd_ev, tOr_ev, tNot_ev, tTrue_ev, eAnd_ev, eOr_ev, eNot_ev, eIf_ev, iSeq_ev, seqD_l, seqD_t, asB_bool, truthD_bool, truthD_lst, truthD_tup, runO_ret, runO_next, runO_exc, Bool.not_true, Bool.not_false, Bool.false_eq_true, Bool.true_and, Bool.false_and, Bool.and_true, Bool.and_false, Bool.not_not, tupleD_l, tupleD_t, listD_l, listD_t, lenD_lst, lenD_tup, List.length_map, em_map, eqD_int, neD_int, ltD_int, leD_int, gtD_int, geD_int, opAdd_int, opSub_int, negD_1, isiD_ev, gN_ev, gT_ev, setAll_c, setAll_n, wipeE_c, wipeE_n, isD_non, isNotD_non, eIdx_ev, ix_op0, ix_op1, ix_op2, ix_op3, eqD_kdw, eqD_kdr, List.getElem?_cons_succ, List.getElem?_cons_zero, decide_true, decide_false, check_story_ok hv, expl1 hv, take1_em, not_em he, t1, L]
def agrees (o : List Nat) (a : Ans) : Bool := decide (o.idxOf a.1 < o.idxOf a.2.1) == a.2.2
def cand (E : List (List Nat)) (A : List Ans) : List (List Nat) := E.filter fun o => A.all (agrees o)
theorem cand_turn {n : Nat} {A : List Ans} (hA : ∀ a ∈ A, AnsOk n a) {o : List Nat} (ho : ∀ k, k < n → k ∈ o) (R : List (List Nat)) (hR : R.length < 9999) (s0 : Option SV) (hz : TZ = true := by first | rfl | assumption) :
    B_candidates_1 [s0, some (.d (asd A)), some (.l (R.map od)), some (.d (od o)), none, none, none] = .next [s0, some (.d (asd A)), some (.l ((R ++ if A.all (agrees o) then [o] else []).map od)), some (.d (od o)), none, none, none] := by
  have c1 : C_candidates_1 [s0, some (.d (asd A)), some (.l (R.map od)), some (.d (od o)), none, none, none] = .ok (.list ((A.filter fun a => !agrees o a).map fun a => nd a.1)) := by
    unfold C_candidates_1
    refine eLc_ok A ad (fun a => !agrees o a) (fun a => nd a.1) (by simp only [List.map_cons, List.map_nil, List.length_cons, List.length_nil, List.cons_append, List.nil_append, List.replicate, Nat.sub_self, List.append_nil, sSeq_ev, sSet_ev, sExpr_ev, sRet_ev, sRetN_ev, sIf_ev, sFor_ev, sNil_ev, sOwn_ev, eCall_ev, aC_ev, aN_ok, eVs, eV0, eLs', eL0, eC_ev, bind_ok', bind_bad', bind_exc', callN_ev, if_true, if_false, outOf_ok, outOf_exc, outOf_bad, List.set_cons_succ, List.set_cons_zero, then_next, then_ret, then_exc, e1_ev, e2_ev, eT_ev, eLs_ev, mkL_nil, mkL_1, mkL_2, mkT_nil, mkT_1, mkT_2, mkT_3, mkT_4, tB_ev, tV_ev, tAnd_ev, tOr_ev, tNot_ev, tTrue_ev, eAnd_ev, eOr_ev, eNot_ev, eIf_ev, iSeq_ev, seqD_l, seqD_t, asB_bool, truthD_bool, truthD_lst, truthD_tup, runO_ret, runO_next, runO_exc, Bool.not_true, Bool.not_false, Bool.false_eq_true, Bool.true_and, Bool.false_and, Bool.and_true, Bool.and_false, Bool.not_not, tupleD_l, tupleD_t, listD_l, listD_t, lenD_lst, lenD_tup, List.length_map, em_map, eqD_int, neD_int, ltD_int, leD_int, gtD_int, geD_int, opAdd_int, opSub_int, negD_1, isiD_ev, gN_ev, gT_ev, setAll_c, setAll_n, wipeE_c, wipeE_n, isD_non, isNotD_non, eIdx_ev, ix_op0, ix_op1, ix_op2, ix_op3, eqD_kdw, eqD_kdr, List.getElem?_cons_succ, List.getElem?_cons_zero, decide_true, decide_false]) fun a ha => ⟨_, rfl, ?_, fun _ => by simp only [List.map_cons, List.map_nil, List.length_cons, List.length_nil, List.cons_append, List.nil_append, List.replicate, Nat.sub_self, List.append_nil, sSeq_ev, sSet_ev, sExpr_ev, sRet_ev, sRetN_ev, sIf_ev, sFor_ev, sNil_ev, sOwn_ev, eCall_ev, aC_ev, aN_ok, eVs, eV0, eLs', eL0, eC_ev, bind_ok', bind_bad', bind_exc', callN_ev, if_true, if_false, outOf_ok, outOf_exc, outOf_bad, List.set_cons_succ, List.set_cons_zero, then_next, then_ret, then_exc, e1_ev, e2_ev, eT_ev, eLs_ev, mkL_nil, mkL_1, mkL_2, mkT_nil, mkT_1, mkT_2, mkT_3, mkT_4, tB_ev, tV_ev, tAnd_ev, tOr_ev, tNot_ev, tTrue_ev, eAnd_ev, eOr_ev, eNot_ev, eIf_ev, iSeq_ev, seqD_l, seqD_t, asB_bool, truthD_bool, truthD_lst, truthD_tup, runO_ret, runO_next, runO_exc, Bool.not_true, Bool.not_false, Bool.false_eq_true, Bool.true_and, Bool.false_and, Bool.and_true, Bool.and_false, Bool.not_not, tupleD_l, tupleD_t, listD_l, listD_t, lenD_lst, lenD_tup, List.length_map, em_map, eqD_int, neD_int, ltD_int, leD_int, gtD_int, geD_int, opAdd_int, opSub_int, negD_1, isiD_ev, gN_ev, gT_ev, setAll_c, setAll_n, wipeE_c, wipeE_n, isD_non, isNotD_non, eIdx_ev, ix_op0, ix_op1, ix_op2, ix_op3, eqD_kdw, eqD_kdr, List.getElem?_cons_succ, List.getElem?_cons_zero, decide_true, decide_false]⟩
    obtain ⟨h1, h2, _⟩ := hA a ha
    unfold agrees
    simp only [List.map_cons, List.map_nil, List.length_cons, List.length_nil, List.cons_append, List.nil_append, List.replicate, Nat.sub_self, List.append_nil, sSeq_ev, sSet_ev, sExpr_ev, sRet_ev, sRetN_ev, sIf_ev, sFor_ev, sNil_ev, sOwn_ev, eCall_ev, aC_ev, aN_ok, eVs, eV0, eLs', eL0, eC_ev, bind_ok', bind_bad', bind_exc', callN_ev, if_true, if_false, outOf_ok, outOf_exc, outOf_bad, List.set_cons_succ, List.set_cons_zero, then_next, then_ret, then_exc, e1_ev, e2_ev, eT_ev, eLs_ev, mkL_nil, mkL_1, mkL_2, mkT_nil, mkT_1, mkT_2, mkT_3, mkT_4, tB_ev, tV_ev, tAnd_ev, tOr_ev, tNot_ev, tTrue_ev, eAnd_ev, eOr_ev, eNot_ev, eIf_ev, iSeq_ev, seqD_l, seqD_t, asB_bool, truthD_bool, truthD_lst, truthD_tup, runO_ret, runO_next, runO_exc, Bool.not_true, Bool.not_false, Bool.false_eq_true, Bool.true_and, Bool.false_and, Bool.and_true, Bool.and_false, Bool.not_not, tupleD_l, tupleD_t, listD_l, listD_t, lenD_lst, lenD_tup, List.length_map, em_map, eqD_int, neD_int, ltD_int, leD_int, gtD_int, geD_int, opAdd_int, opSub_int, negD_1, isiD_ev, gN_ev, gT_ev, setAll_c, setAll_n, wipeE_c, wipeE_n, isD_non, isNotD_non, eIdx_ev, ix_op0, ix_op1, ix_op2, ix_op3, eqD_kdw, eqD_kdr, List.getElem?_cons_succ, List.getElem?_cons_zero, decide_true, decide_false, idx_ok (ho _ h1), idx_ok (ho _ h2), neD_bool, Int.ofNat_lt]
    rfl
  have l1 : (R.map od).length < LIM := by rw [List.length_map]; unfold LIM; omega
  have em : (A.filter fun a => !agrees o a).isEmpty = A.all (agrees o) := by
    rw [Bool.eq_iff_iff]
    simp only [List.isEmpty_iff, List.filter_eq_nil_iff, List.all_eq_true]
    exact ⟨fun h a ha => by simpa using h a ha, fun h a ha => by simp [h a ha]⟩
  unfold B_candidates_1
  simp only [List.map_cons, List.map_nil, List.length_cons, List.length_nil, List.cons_append, List.nil_append, List.replicate, Nat.sub_self, List.append_nil, sSeq_ev, sSet_ev, sExpr_ev, sRet_ev, sRetN_ev, sIf_ev, sFor_ev, sNil_ev, sOwn_ev, eCall_ev, aC_ev, aN_ok, eVs, eV0, eLs', eL0, eC_ev, bind_ok', bind_bad', bind_exc', callN_ev, if_true, if_false, outOf_ok, outOf_exc, outOf_bad, List.set_cons_succ, List.set_cons_zero, then_next, then_ret, then_exc, e1_ev, e2_ev, eT_ev, eLs_ev, mkL_nil, mkL_1, mkL_2, mkT_nil, mkT_1, mkT_2, mkT_3, mkT_4, tB_ev, tV_ev, tAnd_ev, tOr_ev, tNot_ev, tTrue_ev, eAnd_ev, eOr_ev, eNot_ev, eIf_ev, iSeq_ev, seqD_l, seqD_t, asB_bool, truthD_bool, truthD_lst, truthD_tup, runO_ret, runO_next, runO_exc, Bool.not_true, Bool.not_false, Bool.false_eq_true, Bool.true_and, Bool.false_and, Bool.and_true, Bool.and_false, Bool.not_not, tupleD_l, tupleD_t, listD_l, listD_t, lenD_lst, lenD_tup, List.length_map, em_map, eqD_int, neD_int, ltD_int, leD_int, gtD_int, geD_int, opAdd_int, opSub_int, negD_1, isiD_ev, gN_ev, gT_ev, setAll_c, setAll_n, wipeE_c, wipeE_n, isD_non, isNotD_non, eIdx_ev, ix_op0, ix_op1, ix_op2, ix_op3, eqD_kdw, eqD_kdr, List.getElem?_cons_succ, List.getElem?_cons_zero, decide_true, decide_false, c1, em]
  cases A.all (agrees o) with
  | false => simp
  | true =>
    simp only [if_true]
    rw [app_ok (ds := R.map od) (d := od o) rfl (by simp only [List.map_cons, List.map_nil, List.length_cons, List.length_nil, List.cons_append, List.nil_append, List.replicate, Nat.sub_self, List.append_nil, sSeq_ev, sSet_ev, sExpr_ev, sRet_ev, sRetN_ev, sIf_ev, sFor_ev, sNil_ev, sOwn_ev, eCall_ev, aC_ev, aN_ok, eVs, eV0, eLs', eL0, eC_ev, bind_ok', bind_bad', bind_exc', callN_ev, if_true, if_false, outOf_ok, outOf_exc, outOf_bad, List.set_cons_succ, List.set_cons_zero, then_next, then_ret, then_exc, e1_ev, e2_ev, eT_ev, eLs_ev, mkL_nil, mkL_1, mkL_2, mkT_nil, mkT_1, mkT_2, mkT_3, mkT_4, tB_ev, tV_ev, tAnd_ev, tOr_ev, tNot_ev, tTrue_ev, eAnd_ev, eOr_ev, eNot_ev, eIf_ev, iSeq_ev, seqD_l, seqD_t, asB_bool, truthD_bool, truthD_lst, truthD_tup, runO_ret, runO_next, runO_exc, Bool.not_true, Bool.not_false, Bool.false_eq_true, Bool.true_and, Bool.false_and, Bool.and_true, Bool.and_false, Bool.not_not, tupleD_l, tupleD_t, listD_l, listD_t, lenD_lst, lenD_tup, List.length_map, em_map, eqD_int, neD_int, ltD_int, leD_int, gtD_int, geD_int, opAdd_int, opSub_int, negD_1, isiD_ev, gN_ev, gT_ev, setAll_c, setAll_n, wipeE_c, wipeE_n, isD_non, isNotD_non, eIdx_ev, ix_op0, ix_op1, ix_op2, ix_op3, eqD_kdw, eqD_kdr, List.getElem?_cons_succ, List.getElem?_cons_zero, decide_true, decide_false]) l1]
    simp
theorem candidates_ok {st : List Op} (hv : Valid st) (he : expl st ≠ []) {A : List Ans} (hA : ∀ a ∈ A, AnsOk st.length a) (hz : TZ = true := by first | rfl | assumption) : F_candidates [sd st, asd A] = .ok (.list ((cand (expl st) A).map od)) := by
  obtain ⟨ρ', L, z3, rfl⟩ := forGo_pre (g := gN 3) (b := B_candidates_1) (c := od) (fun done ρ => ∃ z3, ρ = [some (.d (sd st)), some (.d (asd A)), some (.l ((cand done A).map od)), z3, none, none, none]) (expl st) (expl st) [] [some (.d (sd st)), some (.d (asd A)), some (.l []), none, none, none, none] rfl ⟨none, rfl⟩ (by
    rintro done o r er ρ ⟨z3, rfl⟩
    have ho : o ∈ expl st := by rw [← er]; simp
    have hl : (cand done A).length < 9999 := by
      have h1 : (cand done A).length ≤ done.length := List.length_filter_le _ _
      have h2 := expl_len hv.len
      rw [← er] at h2
      simp at h2
      omega
    refine ⟨_, _, rfl, cand_turn hA (fun k hk => expl_mem hv ho hk) _ hl _, some (.d (od o)), ?_⟩
    unfold cand
    rw [List.filter_append]
    simp only [List.filter_cons, List.filter_nil])
  unfold F_candidates
  rw [runF_ev]
  simp only [List.map_cons, List.map_nil, List.length_cons, List.length_nil, List.cons_append, List.nil_append, List.replicate, Nat.sub_self, List.append_nil, sSeq_ev, sSet_ev, sExpr_ev, sRet_ev, sRetN_ev, sIf_ev, sFor_ev, sNil_ev, sOwn_ev, eCall_ev, aC_ev, aN_ok, eVs, eV0, eLs', eL0, eC_ev, bind_ok', bind_bad', bind_exc', callN_ev, if_true, if_false, outOf_ok, outOf_exc, outOf_bad, List.set_cons_succ, List.set_cons_zero, then_next, then_ret, then_exc, e1_ev, e2_ev, eT_ev, eLs_ev, mkL_nil, mkL_1, mkL_2, mkT_nil, mkT_1, mkT_2, mkT_3, mkT_4, tB_ev, tV_ev, tAnd_ev, tOr_ev, tNot_ev, tTrue_ev, eAnd_ev, eOr_ev, eNot_ev, eIf_ev, iSeq_ev, seqD_l, seqD_t, asB_bool, truthD_bool, truthD_lst, truthD_tup, runO_ret, runO_next, runO_exc, Bool.not_true, Bool.not_false, Bool.false_eq_true, Bool.true_and, Bool.false_and, Bool.and_true, Bool.and_false, Bool.not_not, tupleD_l, tupleD_t, listD_l, listD_t, lenD_lst, lenD_tup, List.length_map, em_map, eqD_int, neD_int, ltD_int, leD_int, gtD_int, geD_int, opAdd_int, opSub_int, negD_1, isiD_ev, gN_ev, gT_ev, setAll_c, setAll_n, wipeE_c, wipeE_n, isD_non, isNotD_non, eIdx_ev, ix_op0, ix_op1, ix_op2, ix_op3, eqD_kdw, eqD_kdr, List.getElem?_cons_succ, List.getElem?_cons_zero, decide_true, decide_false, check_answers_ok hv he hA, expl_all hv, L]
theorem candidates_no {st : List Op} (hv : Valid st) (he : expl st = []) (d : PyData) : F_candidates [sd st, d] = .exc ⟨"NoExplanation", none⟩ := by
  unfold F_candidates
  rw [runF_ev]
  simp only [List.map_cons, List.map_nil, List.length_cons, List.length_nil, List.cons_append, List.nil_append, List.replicate, Nat.sub_self, List.append_nil, sSeq_ev, sSet_ev, sExpr_ev, sRet_ev, sRetN_ev, sIf_ev, sFor_ev, sNil_ev, sOwn_ev, eCall_ev, aC_ev, aN_ok, eVs, eV0, eLs', eL0, eC_ev, bind_ok', bind_bad', bind_exc', callN_ev, if_true, if_false, outOf_ok, outOf_exc, outOf_bad, List.set_cons_succ, List.set_cons_zero, then_next, then_ret, then_exc, e1_ev, e2_ev, eT_ev, eLs_ev, mkL_nil, mkL_1, mkL_2, mkT_nil, mkT_1, mkT_2, mkT_3, mkT_4, tB_ev, tV_ev, tAnd_ev, tOr_ev, tNot_ev, tTrue_ev, eAnd_ev, eOr_ev, eNot_ev, eIf_ev, iSeq_ev, seqD_l, seqD_t, asB_bool, truthD_bool, truthD_lst, truthD_tup, runO_ret, runO_next, runO_exc, Bool.not_true, Bool.not_false, Bool.false_eq_true, Bool.true_and, Bool.false_and, Bool.and_true, Bool.and_false, Bool.not_not, tupleD_l, tupleD_t, listD_l, listD_t, lenD_lst, lenD_tup, List.length_map, em_map, eqD_int, neD_int, ltD_int, leD_int, gtD_int, geD_int, opAdd_int, opSub_int, negD_1, isiD_ev, gN_ev, gT_ev, setAll_c, setAll_n, wipeE_c, wipeE_n, isD_non, isNotD_non, eIdx_ev, ix_op0, ix_op1, ix_op2, ix_op3, eqD_kdw, eqD_kdr, List.getElem?_cons_succ, List.getElem?_cons_zero, decide_true, decide_false, check_answers_no hv he d]
abbrev Best := Option (Nat × Nat × Nat)
def bdD : Best → PyData
  | none => .none
  | some b => .tuple [nd b.1, .tuple [nd b.2.1, nd b.2.2]]
def cnt (E : List (List Nat)) (a b : Nat) : Nat := (E.filter fun o => decide (o.idxOf a < o.idxOf b)).length
def worst (E : List (List Nat)) (a b : Nat) : Nat := max (cnt E a b) (E.length - cnt E a b)
def bstep (E : List (List Nat)) (x : Best) (p : Nat × Nat) : Best :=
  if decide (worst E p.1 p.2 < E.length) && (match x with | none => true | some b => decide (worst E p.1 p.2 < b.1)) then some (worst E p.1 p.2, p.1, p.2) else x
def prow (n a : Nat) : List (Nat × Nat) := (List.range' (a + 1) (n - (a + 1))).map fun b => (a, b)
def pairs (n m : Nat) : List (Nat × Nat) := (List.range m).flatMap (prow n)
def best (E : List (List Nat)) (n : Nat) : Best := (pairs n n).foldl (bstep E) none
theorem pairs_succ (n m : Nat) : pairs n (m + 1) = pairs n m ++ prow n m := by unfold pairs; rw [List.range_succ, List.flatMap_append]; simp
theorem cnt_le (E : List (List Nat)) (a b : Nat) : cnt E a b ≤ E.length := List.length_filter_le _ _
theorem max2 (m n : Nat) : max2D (nd m) (nd n) = .ok (nd (max m n)) := by
  show R.ok (PyData.int _) = _
  congr 2
  split <;> omega
theorem iRng2_nd {f g : FE} {ρ : EV} {a b : Nat} (h1 : f ρ = .ok (nd a)) (h2 : g ρ = .ok (nd b)) (ha : a ≤ 5000) (hb : b ≤ 5000) : iRng2 f g ρ = .ok ((List.range' a (b - a)).map nd) := by
  unfold iRng2
  rw [h1, h2]
  show (if (b : Int) ≤ 50000 ∧ -50000 ≤ (b : Int) ∧ (a : Int) ≤ 50000 ∧ -50000 ≤ (a : Int) then R.ok (rangeL (a : Int) ((b : Int) - a).toNat) else R.bad) = _
  rw [if_pos (by omega), show ((b : Int) - a).toNat = b - a by omega]
  unfold rangeL
  rw [List.range'_eq_map_range, List.map_map]
  congr 1
theorem best_turn {n : Nat} {E : List (List Nat)} (hE : ∀ o ∈ E, ∀ k, k < n → k ∈ o) {a b : Nat} (ha : a < n) (hb : b < n) (x : Best) (s0 s1 s6 s7 : Option SV) (hz : TZ = true := by first | rfl | assumption) :
    ∃ z6 z7, B_best_pair_1 [s0, s1, some (.d (.list (E.map od))), some (.d (bdD x)), some (.d (nd a)), some (.d (nd b)), s6, s7, none] = .next [s0, s1, some (.d (.list (E.map od))), some (.d (bdD (bstep E x (a, b)))), some (.d (nd a)), some (.d (nd b)), z6, z7, none] := by
  refine ⟨some (.d (nd (cnt E a b))), some (.d (nd (worst E a b))), ?_⟩
  have c1 : C_best_pair_1 [s0, s1, some (.d (.list (E.map od))), some (.d (bdD x)), some (.d (nd a)), some (.d (nd b)), s6, s7, none] = .ok (.list ((E.filter fun o => decide (o.idxOf a < o.idxOf b)).map od)) := by
    unfold C_best_pair_1
    refine eLc_ok E od (fun o => decide (o.idxOf a < o.idxOf b)) od (by simp only [List.map_cons, List.map_nil, List.length_cons, List.length_nil, List.cons_append, List.nil_append, List.replicate, Nat.sub_self, List.append_nil, sSeq_ev, sSet_ev, sExpr_ev, sRet_ev, sRetN_ev, sIf_ev, sFor_ev, sNil_ev, sOwn_ev, eCall_ev, aC_ev, aN_ok, eVs, eV0, eLs', eL0, eC_ev, bind_ok', bind_bad', bind_exc', callN_ev, if_true, if_false, outOf_ok, outOf_exc, outOf_bad, List.set_cons_succ, List.set_cons_zero, then_next, then_ret, then_exc, e1_ev, e2_ev, eT_ev, eLs_ev, mkL_nil, mkL_1, mkL_2, mkT_nil, mkT_1, mkT_2, mkT_3, mkT_4, tB_ev, tV_ev, tAnd_ev, tOr_ev, tNot_ev, tTrue_ev, eAnd_ev, eOr_ev, eNot_ev, eIf_ev, iSeq_ev, seqD_l, seqD_t, asB_bool, truthD_bool, truthD_lst, truthD_tup, runO_ret, runO_next, runO_exc, Bool.not_true, Bool.not_false, Bool.false_eq_true, Bool.true_and, Bool.false_and, Bool.and_true, Bool.and_false, Bool.not_not, tupleD_l, tupleD_t, listD_l, listD_t, lenD_lst, lenD_tup, List.length_map, em_map, eqD_int, neD_int, ltD_int, leD_int, gtD_int, geD_int, opAdd_int, opSub_int, negD_1, isiD_ev, gN_ev, gT_ev, setAll_c, setAll_n, wipeE_c, wipeE_n, isD_non, isNotD_non, eIdx_ev, ix_op0, ix_op1, ix_op2, ix_op3, eqD_kdw, eqD_kdr, List.getElem?_cons_succ, List.getElem?_cons_zero, decide_true, decide_false]) fun o ho => ⟨_, rfl, ?_, fun _ => by simp only [List.map_cons, List.map_nil, List.length_cons, List.length_nil, List.cons_append, List.nil_append, List.replicate, Nat.sub_self, List.append_nil, sSeq_ev, sSet_ev, sExpr_ev, sRet_ev, sRetN_ev, sIf_ev, sFor_ev, sNil_ev, sOwn_ev, eCall_ev, aC_ev, aN_ok, eVs, eV0, eLs', eL0, eC_ev, bind_ok', bind_bad', bind_exc', callN_ev, if_true, if_false, outOf_ok, outOf_exc, outOf_bad, List.set_cons_succ, List.set_cons_zero, then_next, then_ret, then_exc, e1_ev, e2_ev, eT_ev, eLs_ev, mkL_nil, mkL_1, mkL_2, mkT_nil, mkT_1, mkT_2, mkT_3, mkT_4, tB_ev, tV_ev, tAnd_ev, tOr_ev, tNot_ev, tTrue_ev, eAnd_ev, eOr_ev, eNot_ev, eIf_ev, iSeq_ev, seqD_l, seqD_t, asB_bool, truthD_bool, truthD_lst, truthD_tup, runO_ret, runO_next, runO_exc, Bool.not_true, Bool.not_false, Bool.false_eq_true, Bool.true_and, Bool.false_and, Bool.and_true, Bool.and_false, Bool.not_not, tupleD_l, tupleD_t, listD_l, listD_t, lenD_lst, lenD_tup, List.length_map, em_map, eqD_int, neD_int, ltD_int, leD_int, gtD_int, geD_int, opAdd_int, opSub_int, negD_1, isiD_ev, gN_ev, gT_ev, setAll_c, setAll_n, wipeE_c, wipeE_n, isD_non, isNotD_non, eIdx_ev, ix_op0, ix_op1, ix_op2, ix_op3, eqD_kdw, eqD_kdr, List.getElem?_cons_succ, List.getElem?_cons_zero, decide_true, decide_false]⟩
    simp only [List.map_cons, List.map_nil, List.length_cons, List.length_nil, List.cons_append, List.nil_append, List.replicate, Nat.sub_self, List.append_nil, sSeq_ev, sSet_ev, sExpr_ev, sRet_ev, sRetN_ev, sIf_ev, sFor_ev, sNil_ev, sOwn_ev, eCall_ev, aC_ev, aN_ok, eVs, eV0, eLs', eL0, eC_ev, bind_ok', bind_bad', bind_exc', callN_ev, if_true, if_false, outOf_ok, outOf_exc, outOf_bad, List.set_cons_succ, List.set_cons_zero, then_next, then_ret, then_exc, e1_ev, e2_ev, eT_ev, eLs_ev, mkL_nil, mkL_1, mkL_2, mkT_nil, mkT_1, mkT_2, mkT_3, mkT_4, tB_ev, tV_ev, tAnd_ev, tOr_ev, tNot_ev, tTrue_ev, eAnd_ev, eOr_ev, eNot_ev, eIf_ev, iSeq_ev, seqD_l, seqD_t, asB_bool, truthD_bool, truthD_lst, truthD_tup, runO_ret, runO_next, runO_exc, Bool.not_true, Bool.not_false, Bool.false_eq_true, Bool.true_and, Bool.false_and, Bool.and_true, Bool.and_false, Bool.not_not, tupleD_l, tupleD_t, listD_l, listD_t, lenD_lst, lenD_tup, List.length_map, em_map, eqD_int, neD_int, ltD_int, leD_int, gtD_int, geD_int, opAdd_int, opSub_int, negD_1, isiD_ev, gN_ev, gT_ev, setAll_c, setAll_n, wipeE_c, wipeE_n, isD_non, isNotD_non, eIdx_ev, ix_op0, ix_op1, ix_op2, ix_op3, eqD_kdw, eqD_kdr, List.getElem?_cons_succ, List.getElem?_cons_zero, decide_true, decide_false, idx_ok (hE o ho a ha), idx_ok (hE o ho b hb), Int.ofNat_lt]
  have e1 : PyData.int ((E.length : Int) - (cnt E a b : Int)) = nd (E.length - cnt E a b) := by
    have := cnt_le E a b
    show _ = PyData.int ((E.length - cnt E a b : Nat) : Int)
    congr 1
    omega
  unfold B_best_pair_1
  rw [sSeq_ev, set_ok (d := nd (cnt E a b)) (by simp only [List.map_cons, List.map_nil, List.length_cons, List.length_nil, List.cons_append, List.nil_append, List.replicate, Nat.sub_self, List.append_nil, sSeq_ev, sSet_ev, sExpr_ev, sRet_ev, sRetN_ev, sIf_ev, sFor_ev, sNil_ev, sOwn_ev, eCall_ev, aC_ev, aN_ok, eVs, eV0, eLs', eL0, eC_ev, bind_ok', bind_bad', bind_exc', callN_ev, if_true, if_false, outOf_ok, outOf_exc, outOf_bad, List.set_cons_succ, List.set_cons_zero, then_next, then_ret, then_exc, e1_ev, e2_ev, eT_ev, eLs_ev, mkL_nil, mkL_1, mkL_2, mkT_nil, mkT_1, mkT_2, mkT_3, mkT_4, tB_ev, tV_ev, tAnd_ev, tOr_ev, tNot_ev, tTrue_ev, eAnd_ev, eOr_ev, eNot_ev, eIf_ev, iSeq_ev, seqD_l, seqD_t, asB_bool, truthD_bool, truthD_lst, truthD_tup, runO_ret, runO_next, runO_exc, Bool.not_true, Bool.not_false, Bool.false_eq_true, Bool.true_and, Bool.false_and, Bool.and_true, Bool.and_false, Bool.not_not, tupleD_l, tupleD_t, listD_l, listD_t, lenD_lst, lenD_tup, List.length_map, em_map, eqD_int, neD_int, ltD_int, leD_int, gtD_int, geD_int, opAdd_int, opSub_int, negD_1, isiD_ev, gN_ev, gT_ev, setAll_c, setAll_n, wipeE_c, wipeE_n, isD_non, isNotD_non, eIdx_ev, ix_op0, ix_op1, ix_op2, ix_op3, eqD_kdw, eqD_kdr, List.getElem?_cons_succ, List.getElem?_cons_zero, decide_true, decide_false, c1]; rfl), then_next]
  simp only [List.map_cons, List.map_nil, List.length_cons, List.length_nil, List.cons_append, List.nil_append, List.replicate, Nat.sub_self, List.append_nil, sSeq_ev, sSet_ev, sExpr_ev, sRet_ev, sRetN_ev, sIf_ev, sFor_ev, sNil_ev, sOwn_ev, eCall_ev, aC_ev, aN_ok, eVs, eV0, eLs', eL0, eC_ev, bind_ok', bind_bad', bind_exc', callN_ev, if_true, if_false, outOf_ok, outOf_exc, outOf_bad, List.set_cons_succ, List.set_cons_zero, then_next, then_ret, then_exc, e1_ev, e2_ev, eT_ev, eLs_ev, mkL_nil, mkL_1, mkL_2, mkT_nil, mkT_1, mkT_2, mkT_3, mkT_4, tB_ev, tV_ev, tAnd_ev, tOr_ev, tNot_ev, tTrue_ev, eAnd_ev, eOr_ev, eNot_ev, eIf_ev, iSeq_ev, seqD_l, seqD_t, asB_bool, truthD_bool, truthD_lst, truthD_tup, runO_ret, runO_next, runO_exc, Bool.not_true, Bool.not_false, Bool.false_eq_true, Bool.true_and, Bool.false_and, Bool.and_true, Bool.and_false, Bool.not_not, tupleD_l, tupleD_t, listD_l, listD_t, lenD_lst, lenD_tup, List.length_map, em_map, eqD_int, neD_int, ltD_int, leD_int, gtD_int, geD_int, opAdd_int, opSub_int, negD_1, isiD_ev, gN_ev, gT_ev, setAll_c, setAll_n, wipeE_c, wipeE_n, isD_non, isNotD_non, eIdx_ev, ix_op0, ix_op1, ix_op2, ix_op3, eqD_kdw, eqD_kdr, List.getElem?_cons_succ, List.getElem?_cons_zero, decide_true, decide_false, e1, max2]
  have hw : max (cnt E a b) (E.length - cnt E a b) = worst E a b := rfl
  rw [hw]
  unfold bstep
  cases x with
  | none =>
    have n0 : isNone (bdD none) = true := rfl
    simp only [n0, Int.ofNat_lt]
    by_cases h : worst E a b < E.length
    · simp only [h, decide_true, if_true, bind_ok', outOf_ok, Bool.true_and]
      rfl
    · simp only [h, decide_false, Bool.false_eq_true, if_false, bind_ok', outOf_ok, Bool.false_and]
  | some y =>
    have n0 : isNone (bdD (some y)) = false := rfl
    have i0 : ixD (bdD (some y)) (.int 0) = .ok (nd y.1) := rfl
    simp only [List.map_cons, List.map_nil, List.length_cons, List.length_nil, List.cons_append, List.nil_append, List.replicate, Nat.sub_self, List.append_nil, sSeq_ev, sSet_ev, sExpr_ev, sRet_ev, sRetN_ev, sIf_ev, sFor_ev, sNil_ev, sOwn_ev, eCall_ev, aC_ev, aN_ok, eVs, eV0, eLs', eL0, eC_ev, bind_ok', bind_bad', bind_exc', callN_ev, if_true, if_false, outOf_ok, outOf_exc, outOf_bad, List.set_cons_succ, List.set_cons_zero, then_next, then_ret, then_exc, e1_ev, e2_ev, eT_ev, eLs_ev, mkL_nil, mkL_1, mkL_2, mkT_nil, mkT_1, mkT_2, mkT_3, mkT_4, tB_ev, tV_ev, tAnd_ev, tOr_ev, tNot_ev, tTrue_ev, eAnd_ev, eOr_ev, eNot_ev, eIf_ev, iSeq_ev, seqD_l, seqD_t, asB_bool, truthD_bool, truthD_lst, truthD_tup, runO_ret, runO_next, runO_exc, Bool.not_true, Bool.not_false, Bool.false_eq_true, Bool.true_and, Bool.false_and, Bool.and_true, Bool.and_false, Bool.not_not, tupleD_l, tupleD_t, listD_l, listD_t, lenD_lst, lenD_tup, List.length_map, em_map, eqD_int, neD_int, ltD_int, leD_int, gtD_int, geD_int, opAdd_int, opSub_int, negD_1, isiD_ev, gN_ev, gT_ev, setAll_c, setAll_n, wipeE_c, wipeE_n, isD_non, isNotD_non, eIdx_ev, ix_op0, ix_op1, ix_op2, ix_op3, eqD_kdw, eqD_kdr, List.getElem?_cons_succ, List.getElem?_cons_zero, decide_true, decide_false, n0, i0, Int.ofNat_lt]
    by_cases h : worst E a b < E.length
    · by_cases h2 : worst E a b < y.1
      · simp only [h, h2, decide_true, if_true, bind_ok', outOf_ok, Bool.true_and]
        rfl
      · simp only [h, h2, decide_true, decide_false, Bool.false_eq_true, if_true, if_false, bind_ok', outOf_ok, Bool.and_false]
    · simp only [h, decide_false, Bool.false_eq_true, if_false, bind_ok', outOf_ok, Bool.false_and]
theorem best_row {st : List Op} (h6 : st.length ≤ 6) {E : List (List Nat)} (hE : ∀ o ∈ E, ∀ k, k < st.length → k ∈ o) {a : Nat} (ha : a < st.length) (x : Best) (s1 s5 s6 s7 : Option SV) (hz : TZ = true := by first | rfl | assumption) :
    ∃ z5 z6 z7, B_best_pair_2 [some (.d (sd st)), s1, some (.d (.list (E.map od))), some (.d (bdD x)), some (.d (nd a)), s5, s6, s7, none] = .next [some (.d (sd st)), s1, some (.d (.list (E.map od))), some (.d (bdD ((prow st.length a).foldl (bstep E) x))), some (.d (nd a)), z5, z6, z7, none] := by
  obtain ⟨ρ', L, z5, z6, z7, rfl⟩ := forGo_pre (g := gN 5) (b := B_best_pair_1) (c := nd) (fun done ρ => ∃ z5 z6 z7, ρ = [some (.d (sd st)), s1, some (.d (.list (E.map od))), some (.d (bdD ((done.map fun b => (a, b)).foldl (bstep E) x))), some (.d (nd a)), z5, z6, z7, none]) (List.range' (a + 1) (st.length - (a + 1))) (List.range' (a + 1) (st.length - (a + 1))) []
    [some (.d (sd st)), s1, some (.d (.list (E.map od))), some (.d (bdD x)), some (.d (nd a)), s5, s6, s7, none] rfl ⟨s5, s6, s7, rfl⟩ (by
      rintro done b r er ρ ⟨z5, z6, z7, rfl⟩
      have hb : b < st.length := by
        have : b ∈ List.range' (a + 1) (st.length - (a + 1)) := by rw [← er]; simp
        have := List.mem_range'_1.mp this
        omega
      obtain ⟨y6, y7, t⟩ := best_turn hE ha hb ((done.map fun b => (a, b)).foldl (bstep E) x) (some (.d (sd st))) s1 z6 z7
      exact ⟨_, _, rfl, t, some (.d (nd b)), y6, y7, by rw [List.map_append, List.foldl_append]; rfl⟩)
  refine ⟨z5, z6, z7, ?_⟩
  unfold B_best_pair_2
  rw [sFor_ev, iRng2_nd (a := a + 1) (b := st.length) (by simp only [List.map_cons, List.map_nil, List.length_cons, List.length_nil, List.cons_append, List.nil_append, List.replicate, Nat.sub_self, List.append_nil, sSeq_ev, sSet_ev, sExpr_ev, sRet_ev, sRetN_ev, sIf_ev, sFor_ev, sNil_ev, sOwn_ev, eCall_ev, aC_ev, aN_ok, eVs, eV0, eLs', eL0, eC_ev, bind_ok', bind_bad', bind_exc', callN_ev, if_true, if_false, outOf_ok, outOf_exc, outOf_bad, List.set_cons_succ, List.set_cons_zero, then_next, then_ret, then_exc, e1_ev, e2_ev, eT_ev, eLs_ev, mkL_nil, mkL_1, mkL_2, mkT_nil, mkT_1, mkT_2, mkT_3, mkT_4, tB_ev, tV_ev, tAnd_ev, tOr_ev, tNot_ev, tTrue_ev, eAnd_ev, eOr_ev, eNot_ev, eIf_ev, iSeq_ev, seqD_l, seqD_t, asB_bool, truthD_bool, truthD_lst, truthD_tup, runO_ret, runO_next, runO_exc, Bool.not_true, Bool.not_false, Bool.false_eq_true, Bool.true_and, Bool.false_and, Bool.and_true, Bool.and_false, Bool.not_not, tupleD_l, tupleD_t, listD_l, listD_t, lenD_lst, lenD_tup, List.length_map, em_map, eqD_int, neD_int, ltD_int, leD_int, gtD_int, geD_int, opAdd_int, opSub_int, negD_1, isiD_ev, gN_ev, gT_ev, setAll_c, setAll_n, wipeE_c, wipeE_n, isD_non, isNotD_non, eIdx_ev, ix_op0, ix_op1, ix_op2, ix_op3, eqD_kdw, eqD_kdr, List.getElem?_cons_succ, List.getElem?_cons_zero, decide_true, decide_false]; rfl) (by simp only [List.map_cons, List.map_nil, List.length_cons, List.length_nil, List.cons_append, List.nil_append, List.replicate, Nat.sub_self, List.append_nil, sSeq_ev, sSet_ev, sExpr_ev, sRet_ev, sRetN_ev, sIf_ev, sFor_ev, sNil_ev, sOwn_ev, eCall_ev, aC_ev, aN_ok, eVs, eV0, eLs', eL0, eC_ev, bind_ok', bind_bad', bind_exc', callN_ev, if_true, if_false, outOf_ok, outOf_exc, outOf_bad, List.set_cons_succ, List.set_cons_zero, then_next, then_ret, then_exc, e1_ev, e2_ev, eT_ev, eLs_ev, mkL_nil, mkL_1, mkL_2, mkT_nil, mkT_1, mkT_2, mkT_3, mkT_4, tB_ev, tV_ev, tAnd_ev, tOr_ev, tNot_ev, tTrue_ev, eAnd_ev, eOr_ev, eNot_ev, eIf_ev, iSeq_ev, seqD_l, seqD_t, asB_bool, truthD_bool, truthD_lst, truthD_tup, runO_ret, runO_next, runO_exc, Bool.not_true, Bool.not_false, Bool.false_eq_true, Bool.true_and, Bool.false_and, Bool.and_true, Bool.and_false, Bool.not_not, tupleD_l, tupleD_t, listD_l, listD_t, lenD_lst, lenD_tup, List.length_map, em_map, eqD_int, neD_int, ltD_int, leD_int, gtD_int, geD_int, opAdd_int, opSub_int, negD_1, isiD_ev, gN_ev, gT_ev, setAll_c, setAll_n, wipeE_c, wipeE_n, isD_non, isNotD_non, eIdx_ev, ix_op0, ix_op1, ix_op2, ix_op3, eqD_kdw, eqD_kdr, List.getElem?_cons_succ, List.getElem?_cons_zero, decide_true, decide_false]) (by omega) (by omega), outOf_ok]
  exact L
def pairO : Best → PyData
  | none => .none
  | some b => pd (b.2.1, b.2.2)
theorem best_loop {st : List Op} (h6 : st.length ≤ 6) {E : List (List Nat)} (hE : ∀ o ∈ E, ∀ k, k < st.length → k ∈ o) (s1 : Option SV) (hz : TZ = true := by first | rfl | assumption) :
    ∃ z4 z5 z6 z7, forGo (gN 4) B_best_pair_2 ((List.range st.length).map nd) [some (.d (sd st)), s1, some (.d (.list (E.map od))), some (.d .none), none, none, none, none, none] = .next [some (.d (sd st)), s1, some (.d (.list (E.map od))), some (.d (bdD (best E st.length))), z4, z5, z6, z7, none] := by
  obtain ⟨ρ', L, z4, z5, z6, z7, rfl⟩ := forGo_cnt (g := gN 4) (b := B_best_pair_2) st.length (fun m ρ => ∃ z4 z5 z6 z7, ρ = [some (.d (sd st)), s1, some (.d (.list (E.map od))), some (.d (bdD ((pairs st.length m).foldl (bstep E) none))), z4, z5, z6, z7, none])
    [some (.d (sd st)), s1, some (.d (.list (E.map od))), some (.d .none), none, none, none, none, none] ⟨none, none, none, none, rfl⟩ (by
      rintro a ha ρ ⟨z4, z5, z6, z7, rfl⟩
      obtain ⟨y5, y6, y7, t⟩ := best_row h6 hE ha ((pairs st.length a).foldl (bstep E) none) s1 z5 z6 z7
      exact ⟨_, _, rfl, t, some (.d (nd a)), y5, y6, y7, by rw [pairs_succ, List.foldl_append]⟩)
  exact ⟨z4, z5, z6, z7, L⟩
theorem best_pair_ok {st : List Op} (hv : Valid st) (he : expl st ≠ []) {A : List Ans} (hA : ∀ a ∈ A, AnsOk st.length a) (hz : TZ = true := by first | rfl | assumption) :
    F_best_pair [sd st, asd A] = if cand (expl st) A = [] then .exc ⟨"InvalidAnswers", none⟩ else .ok (pairO (best (cand (expl st) A) st.length)) := by
  have hE : ∀ o ∈ cand (expl st) A, ∀ k, k < st.length → k ∈ o := fun o ho k hk => expl_mem hv (List.mem_filter.mp ho).1 hk
  have h6 := hv.len
  unfold F_best_pair
  rw [runF_ev]
  simp only [List.map_cons, List.map_nil, List.length_cons, List.length_nil, List.cons_append, List.nil_append, List.replicate, Nat.sub_self, List.append_nil, sSeq_ev, sSet_ev, sExpr_ev, sRet_ev, sRetN_ev, sIf_ev, sFor_ev, sNil_ev, sOwn_ev, eCall_ev, aC_ev, aN_ok, eVs, eV0, eLs', eL0, eC_ev, bind_ok', bind_bad', bind_exc', callN_ev, if_true, if_false, outOf_ok, outOf_exc, outOf_bad, List.set_cons_succ, List.set_cons_zero, then_next, then_ret, then_exc, e1_ev, e2_ev, eT_ev, eLs_ev, mkL_nil, mkL_1, mkL_2, mkT_nil, mkT_1, mkT_2, mkT_3, mkT_4, tB_ev, tV_ev, tAnd_ev, tOr_ev, tNot_ev, tTrue_ev, eAnd_ev, eOr_ev, eNot_ev, eIf_ev, iSeq_ev, seqD_l, seqD_t, asB_bool, truthD_bool, truthD_lst, truthD_tup, runO_ret, runO_next, runO_exc, Bool.not_true, Bool.not_false, Bool.false_eq_true, Bool.true_and, Bool.false_and, Bool.and_true, Bool.and_false, Bool.not_not, tupleD_l, tupleD_t, listD_l, listD_t, lenD_lst, lenD_tup, List.length_map, em_map, eqD_int, neD_int, ltD_int, leD_int, gtD_int, geD_int, opAdd_int, opSub_int, negD_1, isiD_ev, gN_ev, gT_ev, setAll_c, setAll_n, wipeE_c, wipeE_n, isD_non, isNotD_non, eIdx_ev, ix_op0, ix_op1, ix_op2, ix_op3, eqD_kdw, eqD_kdr, List.getElem?_cons_succ, List.getElem?_cons_zero, decide_true, decide_false, candidates_ok hv he hA]
  by_cases hc : cand (expl st) A = []
  · rw [if_pos hc, hc]
    rfl
  · rw [if_neg hc]
    obtain ⟨z4, z5, z6, z7, L⟩ := best_loop (st := st) h6 hE (some (.d (asd A)))
    have hr : ∀ r : EV, iRng1 (e1 lenD (eV 0)) (some (.d (sd st)) :: r) = .ok ((List.range st.length).map nd) := fun r => iRng1_ok (by simp only [List.map_cons, List.map_nil, List.length_cons, List.length_nil, List.cons_append, List.nil_append, List.replicate, Nat.sub_self, List.append_nil, sSeq_ev, sSet_ev, sExpr_ev, sRet_ev, sRetN_ev, sIf_ev, sFor_ev, sNil_ev, sOwn_ev, eCall_ev, aC_ev, aN_ok, eVs, eV0, eLs', eL0, eC_ev, bind_ok', bind_bad', bind_exc', callN_ev, if_true, if_false, outOf_ok, outOf_exc, outOf_bad, List.set_cons_succ, List.set_cons_zero, then_next, then_ret, then_exc, e1_ev, e2_ev, eT_ev, eLs_ev, mkL_nil, mkL_1, mkL_2, mkT_nil, mkT_1, mkT_2, mkT_3, mkT_4, tB_ev, tV_ev, tAnd_ev, tOr_ev, tNot_ev, tTrue_ev, eAnd_ev, eOr_ev, eNot_ev, eIf_ev, iSeq_ev, seqD_l, seqD_t, asB_bool, truthD_bool, truthD_lst, truthD_tup, runO_ret, runO_next, runO_exc, Bool.not_true, Bool.not_false, Bool.false_eq_true, Bool.true_and, Bool.false_and, Bool.and_true, Bool.and_false, Bool.not_not, tupleD_l, tupleD_t, listD_l, listD_t, lenD_lst, lenD_tup, List.length_map, em_map, eqD_int, neD_int, ltD_int, leD_int, gtD_int, geD_int, opAdd_int, opSub_int, negD_1, isiD_ev, gN_ev, gT_ev, setAll_c, setAll_n, wipeE_c, wipeE_n, isD_non, isNotD_non, eIdx_ev, ix_op0, ix_op1, ix_op2, ix_op3, eqD_kdw, eqD_kdr, List.getElem?_cons_succ, List.getElem?_cons_zero, decide_true, decide_false]) (by omega)
    simp only [List.map_cons, List.map_nil, List.length_cons, List.length_nil, List.cons_append, List.nil_append, List.replicate, Nat.sub_self, List.append_nil, sSeq_ev, sSet_ev, sExpr_ev, sRet_ev, sRetN_ev, sIf_ev, sFor_ev, sNil_ev, sOwn_ev, eCall_ev, aC_ev, aN_ok, eVs, eV0, eLs', eL0, eC_ev, bind_ok', bind_bad', bind_exc', callN_ev, if_true, if_false, outOf_ok, outOf_exc, outOf_bad, List.set_cons_succ, List.set_cons_zero, then_next, then_ret, then_exc, e1_ev, e2_ev, eT_ev, eLs_ev, mkL_nil, mkL_1, mkL_2, mkT_nil, mkT_1, mkT_2, mkT_3, mkT_4, tB_ev, tV_ev, tAnd_ev, tOr_ev, tNot_ev, tTrue_ev, eAnd_ev, eOr_ev, eNot_ev, eIf_ev, iSeq_ev, seqD_l, seqD_t, asB_bool, truthD_bool, truthD_lst, truthD_tup, runO_ret, runO_next, runO_exc, Bool.not_true, Bool.not_false, Bool.false_eq_true, Bool.true_and, Bool.false_and, Bool.and_true, Bool.and_false, Bool.not_not, tupleD_l, tupleD_t, listD_l, listD_t, lenD_lst, lenD_tup, List.length_map, em_map, eqD_int, neD_int, ltD_int, leD_int, gtD_int, geD_int, opAdd_int, opSub_int, negD_1, isiD_ev, gN_ev, gT_ev, setAll_c, setAll_n, wipeE_c, wipeE_n, isD_non, isNotD_non, eIdx_ev, ix_op0, ix_op1, ix_op2, ix_op3, eqD_kdw, eqD_kdr, List.getElem?_cons_succ, List.getElem?_cons_zero, decide_true, decide_false, not_em hc, hr, L]
    cases best (cand (expl st) A) st.length with
    | none => rfl
    | some b => rfl
theorem best_pair_no {st : List Op} (hv : Valid st) (he : expl st = []) (d : PyData) : F_best_pair [sd st, d] = .exc ⟨"NoExplanation", none⟩ := by
  unfold F_best_pair
  rw [runF_ev]
  simp only [List.map_cons, List.map_nil, List.length_cons, List.length_nil, List.cons_append, List.nil_append, List.replicate, Nat.sub_self, List.append_nil, sSeq_ev, sSet_ev, sExpr_ev, sRet_ev, sRetN_ev, sIf_ev, sFor_ev, sNil_ev, sOwn_ev, eCall_ev, aC_ev, aN_ok, eVs, eV0, eLs', eL0, eC_ev, bind_ok', bind_bad', bind_exc', callN_ev, if_true, if_false, outOf_ok, outOf_exc, outOf_bad, List.set_cons_succ, List.set_cons_zero, then_next, then_ret, then_exc, e1_ev, e2_ev, eT_ev, eLs_ev, mkL_nil, mkL_1, mkL_2, mkT_nil, mkT_1, mkT_2, mkT_3, mkT_4, tB_ev, tV_ev, tAnd_ev, tOr_ev, tNot_ev, tTrue_ev, eAnd_ev, eOr_ev, eNot_ev, eIf_ev, iSeq_ev, seqD_l, seqD_t, asB_bool, truthD_bool, truthD_lst, truthD_tup, runO_ret, runO_next, runO_exc, Bool.not_true, Bool.not_false, Bool.false_eq_true, Bool.true_and, Bool.false_and, Bool.and_true, Bool.and_false, Bool.not_not, tupleD_l, tupleD_t, listD_l, listD_t, lenD_lst, lenD_tup, List.length_map, em_map, eqD_int, neD_int, ltD_int, leD_int, gtD_int, geD_int, opAdd_int, opSub_int, negD_1, isiD_ev, gN_ev, gT_ev, setAll_c, setAll_n, wipeE_c, wipeE_n, isD_non, isNotD_non, eIdx_ev, ix_op0, ix_op1, ix_op2, ix_op3, eqD_kdw, eqD_kdr, List.getElem?_cons_succ, List.getElem?_cons_zero, decide_true, decide_false, candidates_no hv he d]
end CP
namespace CP
open PySem L2
theorem comp_pre {st : List Op} : ∀ (f : Nat) (o o' : List Nat), o' ∈ comp st f o → o <+: o'
  | 0, o, o', h => by cases h
  | f + 1, o, o', h => by
    rw [comp] at h
    by_cases hl : o.length = st.length
    · rw [if_pos hl, List.mem_singleton] at h
      rw [h]
      exact List.prefix_refl _
    · rw [if_neg hl, List.mem_flatMap] at h
      obtain ⟨k, _, h⟩ := h
      split at h
      · exact (List.prefix_append o [k]).trans (comp_pre f _ _ h)
      · cases h
theorem comp_nodup {st : List Op} : ∀ (f : Nat) (o : List Nat), (comp st f o).Nodup
  | 0, o => by simp [comp]
  | f + 1, o => by
    rw [comp]
    split
    · simp
    · refine List.pairwise_flatMap.mpr ⟨fun k _ => ?_, ?_⟩
      · split
        · exact comp_nodup f _
        · exact List.Pairwise.nil
      · refine List.nodup_range.imp fun {a b} hab x hx y hy e => ?_
        subst e
        split at hx
        · split at hy
          · have h1 := comp_pre f _ _ hx
            have h2 := comp_pre f _ _ hy
            have e1 := List.prefix_iff_eq_take.mp h1
            have e2 := List.prefix_iff_eq_take.mp h2
            rw [List.length_append, List.length_singleton] at e1 e2
            have e3 := e1.trans e2.symm
            have := List.append_cancel_left e3
            exact hab (List.singleton_inj.mp this)
          · cases hy
        · cases hx
theorem expl_nodup (st : List Op) : (expl st).Nodup := comp_nodup 8 []
theorem idx_ne {x a : Nat} {xs : List Nat} (h : x ≠ a) : (x :: xs).idxOf a = xs.idxOf a + 1 := by
  rw [List.idxOf_cons]
  rw [show (x == a) = false by simpa using h]
  rfl
theorem idx_ext : ∀ {o o' : List Nat}, o.Nodup → o'.Nodup → (∀ x, x ∈ o ↔ x ∈ o') → (∀ a ∈ o, ∀ b ∈ o, o.idxOf a < o.idxOf b → o'.idxOf a < o'.idxOf b) → o = o'
  | [], o', _, _, h, _ => by
    cases o' with
    | nil => rfl
    | cons y ys => exact absurd ((h y).mpr (by simp)) (by simp)
  | x :: xs, [], _, _, h, _ => absurd ((h x).mp (by simp)) (by simp)
  | x :: xs, y :: ys, n1, n2, h, ho => by
    have p1 := List.nodup_cons.mp n1
    have p2 := List.nodup_cons.mp n2
    have hx : x = y := by
      by_cases e : x = y
      · exact e
      · exfalso
        have hy : y ∈ x :: xs := (h y).mpr (by simp)
        have h1 := ho x (by simp) y hy (by
          rw [List.idxOf_cons_self, idx_ne e]
          omega)
        rw [List.idxOf_cons_self] at h1
        omega
    subst hx
    congr 1
    have mem : ∀ z, z ∈ xs ↔ z ∈ ys := fun z => by
      have := h z
      simp only [List.mem_cons] at this
      constructor
      · intro q
        rcases this.mp (.inr q) with e | e
        · rw [e] at q; exact absurd q p1.1
        · exact e
      · intro q
        rcases this.mpr (.inr q) with e | e
        · rw [e] at q; exact absurd q p2.1
        · exact e
    refine idx_ext p1.2 p2.2 mem fun a ha b hb hab => ?_
    have na : x ≠ a := fun e => p1.1 (by rw [e]; exact ha)
    have nb : x ≠ b := fun e => p1.1 (by rw [e]; exact hb)
    have := ho a (by simp [ha]) b (by simp [hb]) (by rw [idx_ne na, idx_ne nb]; omega)
    rw [idx_ne na, idx_ne nb] at this
    omega
theorem best_fold (E : List (List Nat)) : ∀ (L : List (Nat × Nat)) (x : Best),
    (L.foldl (bstep E) x = none → x = none ∧ ∀ p ∈ L, ¬ worst E p.1 p.2 < E.length) ∧ (∀ y, L.foldl (bstep E) x = some y → x = some y ∨ ((y.2.1, y.2.2) ∈ L ∧ worst E y.2.1 y.2.2 < E.length))
  | [], x => ⟨fun h => ⟨h, by simp⟩, fun y h => .inl h⟩
  | p :: L, x => by
    obtain ⟨h1, h2⟩ := best_fold E L (bstep E x p)
    rw [List.foldl_cons]
    have key : bstep E x p = x ∨ (bstep E x p = some (worst E p.1 p.2, p.1, p.2) ∧ worst E p.1 p.2 < E.length) := by
      unfold bstep
      cases x with
      | none => by_cases hw : worst E p.1 p.2 < E.length <;> simp [hw]
      | some b => by_cases hw : worst E p.1 p.2 < E.length <;> by_cases h2 : worst E p.1 p.2 < b.1 <;> simp [hw, h2]
    have key2 : bstep E x p = none → x = none ∧ ¬ worst E p.1 p.2 < E.length := fun h => by
      unfold bstep at h
      cases x with
      | none => by_cases hw : worst E p.1 p.2 < E.length <;> simp [hw] at h ⊢
      | some b => by_cases hw : worst E p.1 p.2 < E.length <;> by_cases h2 : worst E p.1 p.2 < b.1 <;> simp [hw, h2] at h
    constructor
    · intro h
      obtain ⟨a, b⟩ := h1 h
      obtain ⟨c, d⟩ := key2 a
      refine ⟨c, fun q hq => ?_⟩
      rcases List.mem_cons.mp hq with e | e
      · rw [e]; exact d
      · exact b q e
    · intro y h
      rcases h2 y h with a | ⟨a, b⟩
      · rcases key with k | ⟨k, k2⟩
        · rw [k] at a; exact .inl a
        · rw [k] at a
          have := Option.some.inj a
          subst this
          exact .inr ⟨by simp, k2⟩
      · exact .inr ⟨List.mem_cons_of_mem _ a, b⟩
theorem mem_pairs {n m : Nat} {p : Nat × Nat} : p ∈ pairs n m ↔ p.1 < m ∧ p.1 < p.2 ∧ p.2 < n := by
  unfold pairs prow
  simp only [List.mem_flatMap, List.mem_range, List.mem_map, List.mem_range'_1]
  constructor
  · rintro ⟨a, ha, b, hb, rfl⟩
    exact ⟨ha, by simp only; omega, by simp only; omega⟩
  · rintro ⟨h1, h2, h3⟩
    exact ⟨p.1, h1, p.2, by omega, rfl⟩
theorem cnt_split {E : List (List Nat)} {a b : Nat} (h : worst E a b < E.length) : 0 < cnt E a b ∧ cnt E a b < E.length := by
  have := cnt_le E a b
  unfold worst at h
  omega
theorem cnt_pos {E : List (List Nat)} {a b : Nat} (h : 0 < cnt E a b) : ∃ o ∈ E, o.idxOf a < o.idxOf b := by
  unfold cnt at h
  obtain ⟨o, ho⟩ := List.exists_mem_of_length_pos h
  obtain ⟨h1, h2⟩ := List.mem_filter.mp ho
  exact ⟨o, h1, of_decide_eq_true h2⟩
theorem filter_part {α : Type} (p : α → Bool) (l : List α) : (l.filter p).length + (l.filter fun x => !p x).length = l.length := by
  induction l with
  | nil => rfl
  | cons a l ih =>
    rw [List.filter_cons, List.filter_cons]
    cases p a <;> simp <;> omega
theorem cnt_neg {E : List (List Nat)} {a b : Nat} (h : cnt E a b < E.length) : ∃ o ∈ E, ¬ o.idxOf a < o.idxOf b := by
  have hp := filter_part (fun o : List Nat => decide (o.idxOf a < o.idxOf b)) E
  unfold cnt at h
  have : 0 < (E.filter fun o => !decide (o.idxOf a < o.idxOf b)).length := by omega
  obtain ⟨o, ho⟩ := List.exists_mem_of_length_pos this
  obtain ⟨h1, h2⟩ := List.mem_filter.mp ho
  exact ⟨o, h1, by simpa using h2⟩
theorem undiv {E : List (List Nat)} {a b : Nat} (h : ¬ worst E a b < E.length) : (∀ o ∈ E, o.idxOf a < o.idxOf b) ∨ (∀ o ∈ E, ¬ o.idxOf a < o.idxOf b) := by
  by_cases h0 : cnt E a b = 0
  · refine .inr fun o ho hlt => ?_
    unfold cnt at h0
    have := List.length_eq_zero_iff.mp h0
    exact absurd (List.filter_eq_nil_iff.mp this o ho) (by simpa using hlt)
  · refine .inl fun o ho => ?_
    have hle := cnt_le E a b
    have hc : cnt E a b = E.length := by unfold worst at h; omega
    unfold cnt at hc
    have := List.length_filter_eq_length_iff.mp hc o ho
    exact of_decide_eq_true this
theorem div_iff {E : List (List Nat)} {a b : Nat} : worst E a b < E.length ↔ (∃ o ∈ E, o.idxOf a < o.idxOf b) ∧ (∃ o ∈ E, ¬ o.idxOf a < o.idxOf b) := by
  constructor
  · intro h
    have := cnt_split h
    exact ⟨cnt_pos this.1, cnt_neg this.2⟩
  · rintro ⟨⟨o, h1, h2⟩, ⟨o', h3, h4⟩⟩
    by_cases h : worst E a b < E.length
    · exact h
    · rcases undiv h with u | u
      · exact absurd (u o' h3) h4
      · exact absurd h2 (u o h1)
def divs (E : List (List Nat)) (n : Nat) : Nat := ((pairs n n).filter fun p => decide (worst E p.1 p.2 < E.length)).length
theorem filter_lt {α : Type} {p q : α → Bool} {l : List α} (h : ∀ x ∈ l, q x = true → p x = true) {y : α} (hy : y ∈ l) (h1 : p y = true) (h2 : q y = false) : (l.filter q).length < (l.filter p).length := by
  induction l with
  | nil => cases hy
  | cons a l ih =>
    have hle : (l.filter q).length ≤ (l.filter p).length := by
      have : ∀ m : List α, (∀ x ∈ m, q x = true → p x = true) → (m.filter q).length ≤ (m.filter p).length := fun m => by
        induction m with
        | nil => intro _; exact Nat.le_refl _
        | cons b m ihm =>
          intro hm
          have i := ihm fun x hx => hm x (by simp [hx])
          rw [List.filter_cons, List.filter_cons]
          have hb := hm b (by simp)
          cases qb : q b
          · cases p b <;> simp <;> omega
          · rw [hb qb]; simp; omega
      exact this l fun x hx => h x (by simp [hx])
    rw [List.filter_cons, List.filter_cons]
    rcases List.mem_cons.mp hy with e | e
    · rw [← e, h1, h2]
      simp
      omega
    · have i := ih (fun x hx => h x (by simp [hx])) e
      have ha := h a (by simp)
      cases qa : q a
      · cases p a <;> simp <;> omega
      · rw [ha qa]; simp; omega
theorem divs_lt {E : List (List Nat)} {n : Nat} {a b : Nat} (hab : (a, b) ∈ pairs n n) (hw : worst E a b < E.length) (t : Bool) : divs (E.filter fun o => agrees o (a, b, t)) n < divs E n := by
  unfold divs
  refine filter_lt (fun p hp hq => ?_) hab (decide_eq_true hw) ?_
  · have hq := of_decide_eq_true hq
    obtain ⟨⟨o, h1, h2⟩, ⟨o', h3, h4⟩⟩ := div_iff.mp hq
    exact decide_eq_true (div_iff.mpr ⟨⟨o, (List.mem_filter.mp h1).1, h2⟩, ⟨o', (List.mem_filter.mp h3).1, h4⟩⟩)
  · refine decide_eq_false fun h => ?_
    obtain ⟨⟨o, h1, h2⟩, ⟨o', h3, h4⟩⟩ := div_iff.mp h
    have a1 := (List.mem_filter.mp h1).2
    have a2 := (List.mem_filter.mp h3).2
    unfold agrees at a1 a2
    simp only [h2, h4, decide_true, decide_false, beq_iff_eq] at a1 a2
    rw [← a1] at a2
    cases a2
theorem pairs_len {n : Nat} (h : n ≤ 5) : (pairs n n).length ≤ 10 := by
  have : n = 0 ∨ n = 1 ∨ n = 2 ∨ n = 3 ∨ n = 4 ∨ n = 5 := by omega
  rcases this with rfl | rfl | rfl | rfl | rfl | rfl <;> decide
theorem cand_snoc (E : List (List Nat)) (A : List Ans) (a : Ans) : cand E (A ++ [a]) = (cand E A).filter fun o => agrees o a := by
  unfold cand
  rw [List.filter_filter]
  refine List.filter_congr fun o _ => ?_
  rw [List.all_append, Bool.and_comm]
  simp
end CP
namespace CP
open PySem L2
def rdOk : Int → List Op → Prop
  | _, [] => True
  | l, x :: q => if x.w = true then rdOk x.v q else x.v = l ∧ rdOk l q
def lastL (l : Int) (q : List Op) : Int := q.foldl (fun l x => if x.w = true then x.v else l) l
theorem rdOk_append : ∀ (l : Int) (a b : List Op), rdOk l (a ++ b) ↔ rdOk l a ∧ rdOk (lastL l a) b
  | l, [], b => by simp [rdOk, lastL]
  | l, x :: a, b => by
    rw [List.cons_append, rdOk, rdOk]
    have e : lastL l (x :: a) = lastL (if x.w = true then x.v else l) a := rfl
    rw [e]
    cases x.w with
    | true =>
      simp only [if_true]
      exact rdOk_append x.v a b
    | false =>
      simp only [Bool.false_eq_true, if_false, and_assoc]
      rw [rdOk_append l a b]
theorem lastL_snoc (l : Int) (a : List Op) (x : Op) : lastL l (a ++ [x]) = if x.w = true then x.v else lastL l a := by
  unfold lastL
  rw [List.foldl_append]
  rfl
structure SeqOk (q : List Op) : Prop where
  ord : q.Pairwise fun a b => ¬ b.e < a.s
  rd : rdOk 0 q
theorem rdOk_iff : ∀ (q : List Op), rdOk 0 q ↔ ∀ (i : Nat) (h : i < q.length), q[i].w = true ∨ q[i].v = lastL 0 (q.take i) := by
  suffices key : ∀ (n : Nat) (q : List Op), q.length = n → (rdOk 0 q ↔ ∀ (i : Nat) (h : i < q.length), q[i].w = true ∨ q[i].v = lastL 0 (q.take i)) from fun q => key q.length q rfl
  intro n
  induction n with
  | zero =>
    intro q hr
    have : q = [] := List.length_eq_zero_iff.mp hr
    subst this
    exact ⟨fun _ i h => absurd h (by simp), fun _ => trivial⟩
  | succ n ih =>
    intro q hr
    have hne : q ≠ [] := by intro z; rw [z] at hr; cases hr
    obtain ⟨a, x, rfl⟩ : ∃ a x, q = a ++ [x] := ⟨q.dropLast, q.getLast hne, (List.dropLast_concat_getLast hne).symm⟩
    have ha : a.length = n := by simpa using hr
    have ih := ih a ha
    rw [rdOk_append, ih]
    have hx : rdOk (lastL 0 a) [x] ↔ x.w = true ∨ x.v = lastL 0 a := by
      unfold rdOk
      cases x.w with
      | true => simp [rdOk]
      | false => simp [rdOk]
    rw [hx]
    constructor
    · rintro ⟨h1, h2⟩ i hi
      rw [hr] at hi
      by_cases c : i < n
      · have := h1 i (by omega)
        rw [List.getElem_append_left (by omega), List.take_append_of_le_length (by omega)]
        exact this
      · have e : i = a.length := by omega
        subst e
        rw [List.getElem_append_right (Nat.le_refl _), List.take_left]
        simpa using h2
    · intro h
      constructor
      · intro i hi
        have := h i (by omega)
        rw [List.getElem_append_left (by omega), List.take_append_of_le_length (by omega)] at this
        exact this
      · have := h a.length (by omega)
        rw [List.getElem_append_right (Nat.le_refl _), List.take_left] at this
        simpa using this
def sq (st : List Op) (o : List Nat) : List Op := o.map (op st)
theorem lastW_sq (st : List Op) (o : List Nat) : lastW st o = lastL 0 (sq st o) := by
  induction hr : o.length generalizing o with
  | zero =>
    have : o = [] := List.length_eq_zero_iff.mp hr
    subst this
    rfl
  | succ n ih =>
    have hne : o ≠ [] := by intro z; rw [z] at hr; cases hr
    obtain ⟨a, x, rfl⟩ : ∃ a x, o = a ++ [x] := ⟨o.dropLast, o.getLast hne, (List.dropLast_concat_getLast hne).symm⟩
    have ha : a.length = n := by simpa using hr
    have e : sq st (a ++ [x]) = sq st a ++ [op st x] := by unfold sq; rw [List.map_append]; rfl
    rw [e, lastL_snoc, lastW_snoc, ih a ha]
def Spans (st : List Op) : Prop := ∀ x ∈ st, x.s < x.e
theorem Valid.spans {st : List Op} (h : Valid st) : Spans st := fun x hx => (h.rng x hx).2.2.2.1
theorem noEarly_iff {st : List Op} {p : List Nat} {k : Nat} : noEarly st p k = true ↔ ∀ j, j < st.length → j ∉ p → ¬ (op st j).e < (op st k).s := by
  unfold noEarly leftN
  rw [List.isEmpty_iff, List.filter_eq_nil_iff]
  simp only [List.mem_filter, List.mem_range, decide_eq_true_eq]
  exact ⟨fun h j h1 h2 => h j ⟨h1, h2⟩, fun h j ⟨h1, h2⟩ => h j h1 h2⟩
theorem mayF_iff {st : List Op} {p : List Nat} {k : Nat} : mayF st p k = true ↔ (∀ j, j < st.length → j ∉ p → ¬ (op st j).e < (op st k).s) ∧ ((op st k).w = true ∨ (op st k).v = lastW st p) := by
  unfold mayF
  rw [Bool.and_eq_true, noEarly_iff, Bool.or_eq_true, decide_eq_true_iff]
theorem all_in {st : List Op} {o : List Nat} (hr : InR st o) (hn : o.Nodup) (hl : o.length = st.length) {k : Nat} (hk : k < st.length) : k ∈ o := by
  by_cases hm : k ∈ o
  · exact hm
  · exfalso
    have := leftN_len hr hn
    have hk' : k ∈ leftN st o := List.mem_filter.mpr ⟨List.mem_range.mpr hk, by simpa using hm⟩
    have := List.length_pos_of_mem hk'
    omega
theorem expl_iff {st : List Op} (hs : Spans st) {o : List Nat} : Expl st o ↔ InR st o ∧ o.Nodup ∧ o.length = st.length ∧ SeqOk (sq st o) := by
  have sl : (sq st o).length = o.length := by unfold sq; simp
  have sg : ∀ (i : Nat) (h : i < o.length), (sq st o)[i]'(by rw [sl]; exact h) = op st o[i] := fun i h => by unfold sq; simp
  have stk : ∀ i, (sq st o).take i = sq st (o.take i) := fun i => by unfold sq; rw [List.map_take]
  constructor
  · intro h
    refine ⟨h.inr, h.nd, h.len, ?_, ?_⟩
    · refine List.pairwise_iff_getElem.mpr fun i j hi hj hij => ?_
      rw [sl] at hi hj
      rw [sg i hi, sg j hj]
      have m := (mayF_iff.mp (h.ok i hi)).1
      refine m o[j] (h.inr _ (List.getElem_mem hj)) fun hmem => ?_
      obtain ⟨k, hk, ek⟩ := List.mem_take_iff_getElem.mp hmem
      have := (List.pairwise_iff_getElem.mp h.nd) k j (by omega) hj (by omega)
      exact this ek
    · refine (rdOk_iff _).mpr fun i hi => ?_
      rw [sl] at hi
      rw [sg i hi, stk, ← lastW_sq]
      exact (mayF_iff.mp (h.ok i hi)).2
  · rintro ⟨h1, h2, h3, h4⟩
    refine ⟨h1, h2, h3, fun i hi => mayF_iff.mpr ⟨fun j hj hjn => ?_, ?_⟩⟩
    · have hjo := all_in h1 h2 h3 hj
      obtain ⟨k, hk, ek⟩ := List.getElem_of_mem hjo
      have hik : i ≤ k := by
        by_cases c : i ≤ k
        · exact c
        · exact absurd (List.mem_take_iff_getElem.mpr ⟨k, by omega, ek⟩) hjn
      by_cases c : i = k
      · subst c
        rw [← ek]
        have := hs _ (op_mem (h1 _ (List.getElem_mem hi)))
        omega
      · have := (List.pairwise_iff_getElem.mp h4.ord) i k (by rw [sl]; exact hi) (by rw [sl]; exact hk) (by omega)
        rw [sg i hi, sg k hk, ek] at this
        exact this
    · have := (rdOk_iff _).mp h4.rd i (by rw [sl]; exact hi)
      rw [sg i hi, stk, ← lastW_sq] at this
      exact this
theorem Valid.nodup {st : List Op} (h : Valid st) : st.Nodup := by
  refine h.asc.imp fun {a b} hab e => ?_
  rw [e] at hab
  omega
theorem op_idx {st : List Op} {x : Op} (h : x ∈ st) : op st (st.idxOf x) = x := by
  have hl := List.idxOf_lt_length_of_mem h
  have := op_some hl
  rw [List.getElem?_eq_getElem hl, List.getElem_idxOf hl] at this
  exact (Option.some.inj this).symm
theorem sq_perm {st : List Op} {o : List Nat} (h1 : InR st o) (h2 : o.Nodup) (h3 : o.length = st.length) : (sq st o).Perm st := by
  have p : o.Perm (List.range st.length) := (List.perm_ext_iff_of_nodup h2 List.nodup_range).mpr fun k => ⟨fun q => List.mem_range.mpr (h1 k q), fun q => all_in h1 h2 h3 (List.mem_range.mp q)⟩
  have e : (List.range st.length).map (op st) = st := by
    apply List.ext_getElem?
    intro i
    by_cases h : i < st.length
    · rw [List.getElem?_map, List.getElem?_range h, op_some h]; rfl
    · rw [List.getElem?_eq_none (by simp; omega), List.getElem?_eq_none (by omega)]
  have := p.map (op st)
  rw [e] at this
  exact this
theorem can_iff {st : List Op} (hv : Valid st) : expl st ≠ [] ↔ ∃ q : List Op, q.Perm st ∧ SeqOk q := by
  constructor
  · intro h
    obtain ⟨o, ho⟩ := List.exists_mem_of_ne_nil _ h
    obtain ⟨h1, h2, h3, h4⟩ := (expl_iff hv.spans).mp ((mem_expl hv.h7).mp ho)
    exact ⟨sq st o, sq_perm h1 h2 h3, h4⟩
  · rintro ⟨q, hq, ok⟩
    have hm : ∀ x ∈ q, x ∈ st := fun x hx => hq.mem_iff.mp hx
    have e : sq st (q.map st.idxOf) = q := by
      unfold sq
      rw [List.map_map]
      refine (List.map_congr_left fun x hx => ?_).trans (List.map_id q)
      exact op_idx (hm x hx)
    have nq : q.Nodup := hq.nodup_iff.mpr hv.nodup
    have ex : Expl st (q.map st.idxOf) := (expl_iff hv.spans).mpr ⟨fun k hk => by
      obtain ⟨x, hx, rfl⟩ := List.mem_map.mp hk
      exact List.idxOf_lt_length_of_mem (hm x hx), List.pairwise_map.mpr (List.Pairwise.imp_of_mem (fun {a b} ha hb hab e => hab (by rw [← op_idx (hm a ha), ← op_idx (hm b hb), e])) nq), by rw [List.length_map, hq.length_eq], by rw [e]; exact ok⟩
    exact List.ne_nil_of_mem ((mem_expl hv.h7).mpr ex)
theorem seq_split {q : List Op} (ho : q.Pairwise fun a b => ¬ b.e < a.s) (hs : Spans q) (s : Int) : ∃ a b, q = a ++ b ∧ (a = [] ∨ ∃ z ∈ a, z.e < s) ∧ (∀ y ∈ a, y.s < s) ∧ ∀ z ∈ b, ¬ z.e < s := by
  induction q with
  | nil => exact ⟨[], [], rfl, .inl rfl, by simp, by simp⟩
  | cons x q ih =>
    obtain ⟨p1, p2⟩ := List.pairwise_cons.mp ho
    obtain ⟨a, b, e, h1, h2, h3⟩ := ih p2 fun y hy => hs y (by simp [hy])
    rcases h1 with h1 | ⟨z, hz, hzs⟩
    · by_cases c : x.e < s
      · refine ⟨[x], b, by rw [e, h1]; rfl, .inr ⟨x, by simp, c⟩, fun y hy => ?_, h3⟩
        rw [List.mem_singleton.mp hy]
        have := hs x (by simp)
        omega
      · refine ⟨[], x :: b, by rw [e, h1]; rfl, .inl rfl, by simp, fun y hy => ?_⟩
        rcases List.mem_cons.mp hy with r | r
        · rw [r]; exact c
        · exact h3 y r
    · refine ⟨x :: a, b, by rw [e]; rfl, .inr ⟨z, by simp [hz], hzs⟩, fun y hy => ?_, h3⟩
      rcases List.mem_cons.mp hy with r | r
      · rw [r]
        have := p1 z (by rw [e]; simp [hz])
        omega
      · exact h2 y r
theorem seq_insert {q : List Op} (ok : SeqOk q) (hs : Spans q) {s e : Int} (hse : s < e) : ∃ (v : Int) (a b : List Op), q = a ++ b ∧ v = lastL 0 a ∧ SeqOk (a ++ ⟨false, v, s, e⟩ :: b) := by
  obtain ⟨a, b, eq, _, h2, h3⟩ := seq_split ok.ord hs s
  refine ⟨lastL 0 a, a, b, eq, rfl, ?_, ?_⟩
  · have o1 := ok.ord
    rw [eq] at o1
    obtain ⟨w1, w2, w3⟩ := List.pairwise_append.mp o1
    refine List.pairwise_append.mpr ⟨w1, List.pairwise_cons.mpr ⟨fun z hz => h3 z hz, w2⟩, fun y hy z hz => ?_⟩
    rcases List.mem_cons.mp hz with r | r
    · rw [r]
      have := h2 y hy
      simp only
      omega
    · exact w3 y hy z r
  · have r1 := ok.rd
    rw [eq, rdOk_append] at r1
    rw [rdOk_append]
    exact ⟨r1.1, by rw [rdOk]; simp only [Bool.false_eq_true, if_false]; exact ⟨trivial, r1.2⟩⟩
end CP
namespace CP
open PySem L2
def wOp (st : List Op) (o : Op) : List Op := (st ++ [o]).mergeSort (PySem.W.dataLe false co)
theorem wOp_sort (st : List Op) (o : Op) : sortD (.list ((st ++ [o]).map co)) = .ok (.list ((wOp st o).map co)) := sort_gen co alike_co (.inl fun _ => rfl) depth_co _
theorem wOp_perm (st : List Op) (o : Op) : (wOp st o).Perm (st ++ [o]) := List.mergeSort_perm _ _
theorem wOp_len (st : List Op) (o : Op) : (wOp st o).length = st.length + 1 := by rw [(wOp_perm st o).length_eq]; simp
theorem wOp_asc (st : List Op) (o : Op) : (wOp st o).Pairwise fun a b => a.s ≤ b.s := by
  have tot := PySem.W.sortLe_total (PyProof.Rows.listOrd PyProof.Rows.itemOrd) false (fun x : Op => PySem.W.keyToks (co x))
  refine (List.pairwise_mergeSort (le := PySem.W.dataLe false co) (fun a b d h1 h2 => tot.trans a b d h1 h2) (fun a b => ?_) (st ++ [o])).imp ?_
  · rcases tot.total a b with h | h
    · have h' : PySem.W.dataLe false co a b = true := h
      simp [h']
    · have h' : PySem.W.dataLe false co b a = true := h
      simp [h']
  · intro a b h
    have h' : PySem.W.dataLe false id (co a) (co b) = true := h
    exact dataLe_head h'
theorem with_operation_ok {st : List Op} (h6 : st.length ≤ 100) (o : Op) : F_with_operation [sd st, o.d] = .ok (sd (wOp st o)) := by
  have ap : opAdd (sd st) (.tuple [o.d]) = .ok (.tuple ((st ++ [o]).map Op.d)) := by rw [opAdd_tup (by simp; unfold LIM; omega)]; simp
  have c1 : C_with_operation_1 [some (.d (sd st)), some (.d o.d), none, none, none] = .ok (.list ((st ++ [o]).map co)) := by
    unfold C_with_operation_1
    refine eLc_all (st ++ [o]) Op.d co (by simp only [List.map_cons, List.map_nil, List.length_cons, List.length_nil, List.cons_append, List.nil_append, List.replicate, Nat.sub_self, List.append_nil, sSeq_ev, sSet_ev, sExpr_ev, sRet_ev, sRetN_ev, sIf_ev, sFor_ev, sNil_ev, sOwn_ev, eCall_ev, aC_ev, aN_ok, eVs, eV0, eLs', eL0, eC_ev, bind_ok', bind_bad', bind_exc', callN_ev, if_true, if_false, outOf_ok, outOf_exc, outOf_bad, List.set_cons_succ, List.set_cons_zero, then_next, then_ret, then_exc, e1_ev, e2_ev, eT_ev, eLs_ev, mkL_nil, mkL_1, mkL_2, mkT_nil, mkT_1, mkT_2, mkT_3, mkT_4, tB_ev, tV_ev, tAnd_ev, tOr_ev, tNot_ev, tTrue_ev, eAnd_ev, eOr_ev, eNot_ev, eIf_ev, iSeq_ev, seqD_l, seqD_t, asB_bool, truthD_bool, truthD_lst, truthD_tup, runO_ret, runO_next, runO_exc, Bool.not_true, Bool.not_false, Bool.false_eq_true, Bool.true_and, Bool.false_and, Bool.and_true, Bool.and_false, Bool.not_not, tupleD_l, tupleD_t, listD_l, listD_t, lenD_lst, lenD_tup, List.length_map, em_map, eqD_int, neD_int, ltD_int, leD_int, gtD_int, geD_int, opAdd_int, opSub_int, negD_1, isiD_ev, gN_ev, gT_ev, setAll_c, setAll_n, wipeE_c, wipeE_n, isD_non, isNotD_non, eIdx_ev, ix_op0, ix_op1, ix_op2, ix_op3, eqD_kdw, eqD_kdr, List.getElem?_cons_succ, List.getElem?_cons_zero, decide_true, decide_false, ap]) fun x _ => ⟨_, rfl, ?_⟩
    simp only [List.map_cons, List.map_nil, List.length_cons, List.length_nil, List.cons_append, List.nil_append, List.replicate, Nat.sub_self, List.append_nil, sSeq_ev, sSet_ev, sExpr_ev, sRet_ev, sRetN_ev, sIf_ev, sFor_ev, sNil_ev, sOwn_ev, eCall_ev, aC_ev, aN_ok, eVs, eV0, eLs', eL0, eC_ev, bind_ok', bind_bad', bind_exc', callN_ev, if_true, if_false, outOf_ok, outOf_exc, outOf_bad, List.set_cons_succ, List.set_cons_zero, then_next, then_ret, then_exc, e1_ev, e2_ev, eT_ev, eLs_ev, mkL_nil, mkL_1, mkL_2, mkT_nil, mkT_1, mkT_2, mkT_3, mkT_4, tB_ev, tV_ev, tAnd_ev, tOr_ev, tNot_ev, tTrue_ev, eAnd_ev, eOr_ev, eNot_ev, eIf_ev, iSeq_ev, seqD_l, seqD_t, asB_bool, truthD_bool, truthD_lst, truthD_tup, runO_ret, runO_next, runO_exc, Bool.not_true, Bool.not_false, Bool.false_eq_true, Bool.true_and, Bool.false_and, Bool.and_true, Bool.and_false, Bool.not_not, tupleD_l, tupleD_t, listD_l, listD_t, lenD_lst, lenD_tup, List.length_map, em_map, eqD_int, neD_int, ltD_int, leD_int, gtD_int, geD_int, opAdd_int, opSub_int, negD_1, isiD_ev, gN_ev, gT_ev, setAll_c, setAll_n, wipeE_c, wipeE_n, isD_non, isNotD_non, eIdx_ev, ix_op0, ix_op1, ix_op2, ix_op3, eqD_kdw, eqD_kdr, List.getElem?_cons_succ, List.getElem?_cons_zero, decide_true, decide_false]
    rfl
  have c2 : C_with_operation_2 [some (.d (sd st)), some (.d o.d), some (.d (.list ((wOp st o).map co))), none, none] = .ok (.list ((wOp st o).map Op.d)) := by
    unfold C_with_operation_2
    refine eLc_all (wOp st o) co Op.d (by simp only [List.map_cons, List.map_nil, List.length_cons, List.length_nil, List.cons_append, List.nil_append, List.replicate, Nat.sub_self, List.append_nil, sSeq_ev, sSet_ev, sExpr_ev, sRet_ev, sRetN_ev, sIf_ev, sFor_ev, sNil_ev, sOwn_ev, eCall_ev, aC_ev, aN_ok, eVs, eV0, eLs', eL0, eC_ev, bind_ok', bind_bad', bind_exc', callN_ev, if_true, if_false, outOf_ok, outOf_exc, outOf_bad, List.set_cons_succ, List.set_cons_zero, then_next, then_ret, then_exc, e1_ev, e2_ev, eT_ev, eLs_ev, mkL_nil, mkL_1, mkL_2, mkT_nil, mkT_1, mkT_2, mkT_3, mkT_4, tB_ev, tV_ev, tAnd_ev, tOr_ev, tNot_ev, tTrue_ev, eAnd_ev, eOr_ev, eNot_ev, eIf_ev, iSeq_ev, seqD_l, seqD_t, asB_bool, truthD_bool, truthD_lst, truthD_tup, runO_ret, runO_next, runO_exc, Bool.not_true, Bool.not_false, Bool.false_eq_true, Bool.true_and, Bool.false_and, Bool.and_true, Bool.and_false, Bool.not_not, tupleD_l, tupleD_t, listD_l, listD_t, lenD_lst, lenD_tup, List.length_map, em_map, eqD_int, neD_int, ltD_int, leD_int, gtD_int, geD_int, opAdd_int, opSub_int, negD_1, isiD_ev, gN_ev, gT_ev, setAll_c, setAll_n, wipeE_c, wipeE_n, isD_non, isNotD_non, eIdx_ev, ix_op0, ix_op1, ix_op2, ix_op3, eqD_kdw, eqD_kdr, List.getElem?_cons_succ, List.getElem?_cons_zero, decide_true, decide_false]) fun x _ => ⟨_, rfl, ?_⟩
    simp only [List.map_cons, List.map_nil, List.length_cons, List.length_nil, List.cons_append, List.nil_append, List.replicate, Nat.sub_self, List.append_nil, sSeq_ev, sSet_ev, sExpr_ev, sRet_ev, sRetN_ev, sIf_ev, sFor_ev, sNil_ev, sOwn_ev, eCall_ev, aC_ev, aN_ok, eVs, eV0, eLs', eL0, eC_ev, bind_ok', bind_bad', bind_exc', callN_ev, if_true, if_false, outOf_ok, outOf_exc, outOf_bad, List.set_cons_succ, List.set_cons_zero, then_next, then_ret, then_exc, e1_ev, e2_ev, eT_ev, eLs_ev, mkL_nil, mkL_1, mkL_2, mkT_nil, mkT_1, mkT_2, mkT_3, mkT_4, tB_ev, tV_ev, tAnd_ev, tOr_ev, tNot_ev, tTrue_ev, eAnd_ev, eOr_ev, eNot_ev, eIf_ev, iSeq_ev, seqD_l, seqD_t, asB_bool, truthD_bool, truthD_lst, truthD_tup, runO_ret, runO_next, runO_exc, Bool.not_true, Bool.not_false, Bool.false_eq_true, Bool.true_and, Bool.false_and, Bool.and_true, Bool.and_false, Bool.not_not, tupleD_l, tupleD_t, listD_l, listD_t, lenD_lst, lenD_tup, List.length_map, em_map, eqD_int, neD_int, ltD_int, leD_int, gtD_int, geD_int, opAdd_int, opSub_int, negD_1, isiD_ev, gN_ev, gT_ev, setAll_c, setAll_n, wipeE_c, wipeE_n, isD_non, isNotD_non, eIdx_ev, ix_op0, ix_op1, ix_op2, ix_op3, eqD_kdw, eqD_kdr, List.getElem?_cons_succ, List.getElem?_cons_zero, decide_true, decide_false]
  unfold F_with_operation
  rw [runF_ev]
  simp only [List.map_cons, List.map_nil, List.length_cons, List.length_nil, List.cons_append, List.nil_append, List.replicate, Nat.sub_self, List.append_nil, sSeq_ev, sSet_ev, sExpr_ev, sRet_ev, sRetN_ev, sIf_ev, sFor_ev, sNil_ev, sOwn_ev, eCall_ev, aC_ev, aN_ok, eVs, eV0, eLs', eL0, eC_ev, bind_ok', bind_bad', bind_exc', callN_ev, if_true, if_false, outOf_ok, outOf_exc, outOf_bad, List.set_cons_succ, List.set_cons_zero, then_next, then_ret, then_exc, e1_ev, e2_ev, eT_ev, eLs_ev, mkL_nil, mkL_1, mkL_2, mkT_nil, mkT_1, mkT_2, mkT_3, mkT_4, tB_ev, tV_ev, tAnd_ev, tOr_ev, tNot_ev, tTrue_ev, eAnd_ev, eOr_ev, eNot_ev, eIf_ev, iSeq_ev, seqD_l, seqD_t, asB_bool, truthD_bool, truthD_lst, truthD_tup, runO_ret, runO_next, runO_exc, Bool.not_true, Bool.not_false, Bool.false_eq_true, Bool.true_and, Bool.false_and, Bool.and_true, Bool.and_false, Bool.not_not, tupleD_l, tupleD_t, listD_l, listD_t, lenD_lst, lenD_tup, List.length_map, em_map, eqD_int, neD_int, ltD_int, leD_int, gtD_int, geD_int, opAdd_int, opSub_int, negD_1, isiD_ev, gN_ev, gT_ev, setAll_c, setAll_n, wipeE_c, wipeE_n, isD_non, isNotD_non, eIdx_ev, ix_op0, ix_op1, ix_op2, ix_op3, eqD_kdw, eqD_kdr, List.getElem?_cons_succ, List.getElem?_cons_zero, decide_true, decide_false, c1, wOp_sort, c2]
def tms (st : List Op) : List Int := st.map Op.s ++ st.map Op.e
theorem wOp_tms (st : List Op) (o : Op) : ((wOp st o).map Op.s ++ (wOp st o).map Op.e).Perm (o.s :: o.e :: tms st) := by
  have p := wOp_perm st o
  refine ((p.map Op.s).append (p.map Op.e)).trans ?_
  rw [List.map_append, List.map_append]
  unfold tms
  refine List.perm_iff_count.mpr fun x => ?_
  simp only [List.count_append, List.count_cons, List.map_cons, List.map_nil, List.count_nil]
  omega
def rdo (v s e : Int) : Op := ⟨false, v, s, e⟩
theorem wOp_valid {st : List Op} (hv : Valid st) (h5 : st.length ≤ 5) {v s e : Int} (h0 : 0 ≤ v) (h9 : v ≤ 9) (hs : 0 ≤ s) (hse : s < e) (he : e ≤ 99) : Valid (wOp st (rdo v s e)) ↔ s ∉ tms st ∧ e ∉ tms st := by
  have pt := wOp_tms st (rdo v s e)
  constructor
  · intro h
    have := pt.nodup_iff.mp h.tms
    obtain ⟨h1, h2⟩ := List.nodup_cons.mp this
    exact ⟨fun q => h1 (List.mem_cons_of_mem _ q), (List.nodup_cons.mp h2).1⟩
  · rintro ⟨h1, h2⟩
    have nd : ((wOp st (rdo v s e)).map Op.s ++ (wOp st (rdo v s e)).map Op.e).Nodup := by
      refine pt.nodup_iff.mpr (List.nodup_cons.mpr ⟨fun q => ?_, List.nodup_cons.mpr ⟨h2, hv.tms⟩⟩)
      rcases List.mem_cons.mp q with q | q
      · have q : s = e := q
        omega
      · exact h1 q
    refine ⟨by rw [wOp_len]; omega, fun o ho => ?_, ?_, nd, ?_⟩
    · rcases List.mem_append.mp ((wOp_perm st (rdo v s e)).mem_iff.mp ho) with q | q
      · exact hv.rng o q
      · rw [List.mem_singleton.mp q]
        exact ⟨h0, h9, hs, hse, he⟩
    · refine ((wOp_asc st (rdo v s e)).and (List.pairwise_map.mp (List.nodup_append.mp nd).1)).imp fun {a b} h => ?_
      have h1 := h.1
      have h2 : a.s ≠ b.s := h.2
      omega
    · have p := ((wOp_perm st (rdo v s e)).filter Op.w).map Op.v
      refine p.nodup_iff.mpr ?_
      rw [List.filter_append]
      have : [rdo v s e].filter Op.w = [] := rfl
      rw [this, List.append_nil]
      exact hv.wrt
theorem in_range_t (lo hi : Int) : F_in_range [.bool true, .int lo, .int hi] = .ok (.bool false) := by
  unfold F_in_range
  rw [runF_ev]
  simp only [List.map_cons, List.map_nil, List.length_cons, List.length_nil, List.cons_append, List.nil_append, List.replicate, Nat.sub_self, List.append_nil, sSeq_ev, sSet_ev, sExpr_ev, sRet_ev, sRetN_ev, sIf_ev, sFor_ev, sNil_ev, sOwn_ev, eCall_ev, aC_ev, aN_ok, eVs, eV0, eLs', eL0, eC_ev, bind_ok', bind_bad', bind_exc', callN_ev, if_true, if_false, outOf_ok, outOf_exc, outOf_bad, List.set_cons_succ, List.set_cons_zero, then_next, then_ret, then_exc, e1_ev, e2_ev, eT_ev, eLs_ev, mkL_nil, mkL_1, mkL_2, mkT_nil, mkT_1, mkT_2, mkT_3, mkT_4, tB_ev, tV_ev, tAnd_ev, tOr_ev, tNot_ev, tTrue_ev, eAnd_ev, eOr_ev, eNot_ev, eIf_ev, iSeq_ev, seqD_l, seqD_t, asB_bool, truthD_bool, truthD_lst, truthD_tup, runO_ret, runO_next, runO_exc, Bool.not_true, Bool.not_false, Bool.false_eq_true, Bool.true_and, Bool.false_and, Bool.and_true, Bool.and_false, Bool.not_not, tupleD_l, tupleD_t, listD_l, listD_t, lenD_lst, lenD_tup, List.length_map, em_map, eqD_int, neD_int, ltD_int, leD_int, gtD_int, geD_int, opAdd_int, opSub_int, negD_1, isiD_ev, gN_ev, gT_ev, setAll_c, setAll_n, wipeE_c, wipeE_n, isD_non, isNotD_non, eIdx_ev, ix_op0, ix_op1, ix_op2, ix_op3, eqD_kdw, eqD_kdr, List.getElem?_cons_succ, List.getElem?_cons_zero, decide_true, decide_false, isiInt, isiBool]
theorem in_range_n (lo hi : Int) : F_in_range [.none, .int lo, .int hi] = .ok (.bool false) := by
  unfold F_in_range
  rw [runF_ev]
  simp only [List.map_cons, List.map_nil, List.length_cons, List.length_nil, List.cons_append, List.nil_append, List.replicate, Nat.sub_self, List.append_nil, sSeq_ev, sSet_ev, sExpr_ev, sRet_ev, sRetN_ev, sIf_ev, sFor_ev, sNil_ev, sOwn_ev, eCall_ev, aC_ev, aN_ok, eVs, eV0, eLs', eL0, eC_ev, bind_ok', bind_bad', bind_exc', callN_ev, if_true, if_false, outOf_ok, outOf_exc, outOf_bad, List.set_cons_succ, List.set_cons_zero, then_next, then_ret, then_exc, e1_ev, e2_ev, eT_ev, eLs_ev, mkL_nil, mkL_1, mkL_2, mkT_nil, mkT_1, mkT_2, mkT_3, mkT_4, tB_ev, tV_ev, tAnd_ev, tOr_ev, tNot_ev, tTrue_ev, eAnd_ev, eOr_ev, eNot_ev, eIf_ev, iSeq_ev, seqD_l, seqD_t, asB_bool, truthD_bool, truthD_lst, truthD_tup, runO_ret, runO_next, runO_exc, Bool.not_true, Bool.not_false, Bool.false_eq_true, Bool.true_and, Bool.false_and, Bool.and_true, Bool.and_false, Bool.not_not, tupleD_l, tupleD_t, listD_l, listD_t, lenD_lst, lenD_tup, List.length_map, em_map, eqD_int, neD_int, ltD_int, leD_int, gtD_int, geD_int, opAdd_int, opSub_int, negD_1, isiD_ev, gN_ev, gT_ev, setAll_c, setAll_n, wipeE_c, wipeE_n, isD_non, isNotD_non, eIdx_ev, ix_op0, ix_op1, ix_op2, ix_op3, eqD_kdw, eqD_kdr, List.getElem?_cons_succ, List.getElem?_cons_zero, decide_true, decide_false, isiInt]
theorem pv_number {st : List Op} (hv : Valid st) {x y : PyData} (h : F_in_range [x, .int 0, .int 99] = .ok (.bool false) ∨ ∃ s : Int, x = .int s ∧ F_in_range [.int s, .int 0, .int 99] = .ok (.bool true) ∧ F_in_range [y, .int (s + 1), .int 99] = .ok (.bool false)) : F_possible_values [sd st, x, y] = .exc ⟨"InvalidNumber", none⟩ := by
  unfold F_possible_values
  rw [runF_ev]
  rcases h with h | ⟨s, rfl, h1, h2⟩
  · simp only [List.map_cons, List.map_nil, List.length_cons, List.length_nil, List.cons_append, List.nil_append, List.replicate, Nat.sub_self, List.append_nil, sSeq_ev, sSet_ev, sExpr_ev, sRet_ev, sRetN_ev, sIf_ev, sFor_ev, sNil_ev, sOwn_ev, eCall_ev, aC_ev, aN_ok, eVs, eV0, eLs', eL0, eC_ev, bind_ok', bind_bad', bind_exc', callN_ev, if_true, if_false, outOf_ok, outOf_exc, outOf_bad, List.set_cons_succ, List.set_cons_zero, then_next, then_ret, then_exc, e1_ev, e2_ev, eT_ev, eLs_ev, mkL_nil, mkL_1, mkL_2, mkT_nil, mkT_1, mkT_2, mkT_3, mkT_4, tB_ev, tV_ev, tAnd_ev, tOr_ev, tNot_ev, tTrue_ev, eAnd_ev, eOr_ev, eNot_ev, eIf_ev, iSeq_ev, seqD_l, seqD_t, asB_bool, truthD_bool, truthD_lst, truthD_tup, runO_ret, runO_next, runO_exc, Bool.not_true, Bool.not_false, Bool.false_eq_true, Bool.true_and, Bool.false_and, Bool.and_true, Bool.and_false, Bool.not_not, tupleD_l, tupleD_t, listD_l, listD_t, lenD_lst, lenD_tup, List.length_map, em_map, eqD_int, neD_int, ltD_int, leD_int, gtD_int, geD_int, opAdd_int, opSub_int, negD_1, isiD_ev, gN_ev, gT_ev, setAll_c, setAll_n, wipeE_c, wipeE_n, isD_non, isNotD_non, eIdx_ev, ix_op0, ix_op1, ix_op2, ix_op3, eqD_kdw, eqD_kdr, List.getElem?_cons_succ, List.getElem?_cons_zero, decide_true, decide_false, check_story_ok hv, h, sRaise]
  · simp only [List.map_cons, List.map_nil, List.length_cons, List.length_nil, List.cons_append, List.nil_append, List.replicate, Nat.sub_self, List.append_nil, sSeq_ev, sSet_ev, sExpr_ev, sRet_ev, sRetN_ev, sIf_ev, sFor_ev, sNil_ev, sOwn_ev, eCall_ev, aC_ev, aN_ok, eVs, eV0, eLs', eL0, eC_ev, bind_ok', bind_bad', bind_exc', callN_ev, if_true, if_false, outOf_ok, outOf_exc, outOf_bad, List.set_cons_succ, List.set_cons_zero, then_next, then_ret, then_exc, e1_ev, e2_ev, eT_ev, eLs_ev, mkL_nil, mkL_1, mkL_2, mkT_nil, mkT_1, mkT_2, mkT_3, mkT_4, tB_ev, tV_ev, tAnd_ev, tOr_ev, tNot_ev, tTrue_ev, eAnd_ev, eOr_ev, eNot_ev, eIf_ev, iSeq_ev, seqD_l, seqD_t, asB_bool, truthD_bool, truthD_lst, truthD_tup, runO_ret, runO_next, runO_exc, Bool.not_true, Bool.not_false, Bool.false_eq_true, Bool.true_and, Bool.false_and, Bool.and_true, Bool.and_false, Bool.not_not, tupleD_l, tupleD_t, listD_l, listD_t, lenD_lst, lenD_tup, List.length_map, em_map, eqD_int, neD_int, ltD_int, leD_int, gtD_int, geD_int, opAdd_int, opSub_int, negD_1, isiD_ev, gN_ev, gT_ev, setAll_c, setAll_n, wipeE_c, wipeE_n, isD_non, isNotD_non, eIdx_ev, ix_op0, ix_op1, ix_op2, ix_op3, eqD_kdw, eqD_kdr, List.getElem?_cons_succ, List.getElem?_cons_zero, decide_true, decide_false, check_story_ok hv, h1, h2, sRaise]
theorem rdo_d (v s e : Int) : (.tuple [.str "read", .int v, .int s, .int e] : PyData) = (rdo v s e).d := rfl
theorem pv_operation {st : List Op} (hv : Valid st) {s e : Int} (hs : 0 ≤ s) (hse : s < e) (he : e ≤ 99) (h : validB (wOp st (rdo 0 s e)) = false) : F_possible_values [sd st, .int s, .int e] = .exc ⟨"InvalidOperation", none⟩ := by
  have r1 : F_in_range [.int s, .int 0, .int 99] = .ok (.bool true) := by rw [in_range_ok]; simp; omega
  have r2 : F_in_range [.int e, .int (s + 1), .int 99] = .ok (.bool true) := by rw [in_range_ok]; simp; omega
  have h6 := hv.len
  unfold F_possible_values
  rw [runF_ev]
  simp only [List.map_cons, List.map_nil, List.length_cons, List.length_nil, List.cons_append, List.nil_append, List.replicate, Nat.sub_self, List.append_nil, sSeq_ev, sSet_ev, sExpr_ev, sRet_ev, sRetN_ev, sIf_ev, sFor_ev, sNil_ev, sOwn_ev, eCall_ev, aC_ev, aN_ok, eVs, eV0, eLs', eL0, eC_ev, bind_ok', bind_bad', bind_exc', callN_ev, if_true, if_false, outOf_ok, outOf_exc, outOf_bad, List.set_cons_succ, List.set_cons_zero, then_next, then_ret, then_exc, e1_ev, e2_ev, eT_ev, eLs_ev, mkL_nil, mkL_1, mkL_2, mkT_nil, mkT_1, mkT_2, mkT_3, mkT_4, tB_ev, tV_ev, tAnd_ev, tOr_ev, tNot_ev, tTrue_ev, eAnd_ev, eOr_ev, eNot_ev, eIf_ev, iSeq_ev, seqD_l, seqD_t, asB_bool, truthD_bool, truthD_lst, truthD_tup, runO_ret, runO_next, runO_exc, Bool.not_true, Bool.not_false, Bool.false_eq_true, Bool.true_and, Bool.false_and, Bool.and_true, Bool.and_false, Bool.not_not, tupleD_l, tupleD_t, listD_l, listD_t, lenD_lst, lenD_tup, List.length_map, em_map, eqD_int, neD_int, ltD_int, leD_int, gtD_int, geD_int, opAdd_int, opSub_int, negD_1, isiD_ev, gN_ev, gT_ev, setAll_c, setAll_n, wipeE_c, wipeE_n, isD_non, isNotD_non, eIdx_ev, ix_op0, ix_op1, ix_op2, ix_op3, eqD_kdw, eqD_kdr, List.getElem?_cons_succ, List.getElem?_cons_zero, decide_true, decide_false, check_story_ok hv, r1, r2, rdo_d, with_operation_ok (st := st) (by omega), is_story_ok, h, sRaise]
def pvals (st : List Op) (s e : Int) : List Nat := (List.range 10).filter fun v => !(expl (wOp st (rdo (v : Int) s e))).isEmpty
theorem pv_ok {st : List Op} (hv : Valid st) (h5 : st.length ≤ 5) {s e : Int} (hs : 0 ≤ s) (hse : s < e) (he : e ≤ 99) (h1 : s ∉ tms st) (h2 : e ∉ tms st) : F_possible_values [sd st, .int s, .int e] = .ok (.list ((pvals st s e).map nd)) := by
  have r1 : F_in_range [.int s, .int 0, .int 99] = .ok (.bool true) := by rw [in_range_ok]; simp; omega
  have r2 : F_in_range [.int e, .int (s + 1), .int 99] = .ok (.bool true) := by rw [in_range_ok]; simp; omega
  have h6 := hv.len
  have vv : ∀ v : Nat, v < 10 → Valid (wOp st (rdo (v : Int) s e)) := fun v hv10 => (wOp_valid hv h5 (by omega) (by omega) hs hse he).mpr ⟨h1, h2⟩
  have v0 : validB (wOp st (rdo 0 s e)) = true := (valid_iff _).mpr (vv 0 (by omega))
  have c1 : C_possible_values_1 [some (.d (sd st)), some (.d (.int s)), some (.d (.int e)), none] = .ok (.list ((pvals st s e).map nd)) := by
    unfold C_possible_values_1 pvals
    refine eLc_ok (List.range 10) nd (fun v => !(expl (wOp st (rdo (v : Int) s e))).isEmpty) nd (iRng1_ok (n := 10) rfl (by omega)) fun v hm => ⟨_, rfl, ?_, fun _ => by simp only [List.map_cons, List.map_nil, List.length_cons, List.length_nil, List.cons_append, List.nil_append, List.replicate, Nat.sub_self, List.append_nil, sSeq_ev, sSet_ev, sExpr_ev, sRet_ev, sRetN_ev, sIf_ev, sFor_ev, sNil_ev, sOwn_ev, eCall_ev, aC_ev, aN_ok, eVs, eV0, eLs', eL0, eC_ev, bind_ok', bind_bad', bind_exc', callN_ev, if_true, if_false, outOf_ok, outOf_exc, outOf_bad, List.set_cons_succ, List.set_cons_zero, then_next, then_ret, then_exc, e1_ev, e2_ev, eT_ev, eLs_ev, mkL_nil, mkL_1, mkL_2, mkT_nil, mkT_1, mkT_2, mkT_3, mkT_4, tB_ev, tV_ev, tAnd_ev, tOr_ev, tNot_ev, tTrue_ev, eAnd_ev, eOr_ev, eNot_ev, eIf_ev, iSeq_ev, seqD_l, seqD_t, asB_bool, truthD_bool, truthD_lst, truthD_tup, runO_ret, runO_next, runO_exc, Bool.not_true, Bool.not_false, Bool.false_eq_true, Bool.true_and, Bool.false_and, Bool.and_true, Bool.and_false, Bool.not_not, tupleD_l, tupleD_t, listD_l, listD_t, lenD_lst, lenD_tup, List.length_map, em_map, eqD_int, neD_int, ltD_int, leD_int, gtD_int, geD_int, opAdd_int, opSub_int, negD_1, isiD_ev, gN_ev, gT_ev, setAll_c, setAll_n, wipeE_c, wipeE_n, isD_non, isNotD_non, eIdx_ev, ix_op0, ix_op1, ix_op2, ix_op3, eqD_kdw, eqD_kdr, List.getElem?_cons_succ, List.getElem?_cons_zero, decide_true, decide_false]⟩
    have hv10 := List.mem_range.mp hm
    simp only [List.map_cons, List.map_nil, List.length_cons, List.length_nil, List.cons_append, List.nil_append, List.replicate, Nat.sub_self, List.append_nil, sSeq_ev, sSet_ev, sExpr_ev, sRet_ev, sRetN_ev, sIf_ev, sFor_ev, sNil_ev, sOwn_ev, eCall_ev, aC_ev, aN_ok, eVs, eV0, eLs', eL0, eC_ev, bind_ok', bind_bad', bind_exc', callN_ev, if_true, if_false, outOf_ok, outOf_exc, outOf_bad, List.set_cons_succ, List.set_cons_zero, then_next, then_ret, then_exc, e1_ev, e2_ev, eT_ev, eLs_ev, mkL_nil, mkL_1, mkL_2, mkT_nil, mkT_1, mkT_2, mkT_3, mkT_4, tB_ev, tV_ev, tAnd_ev, tOr_ev, tNot_ev, tTrue_ev, eAnd_ev, eOr_ev, eNot_ev, eIf_ev, iSeq_ev, seqD_l, seqD_t, asB_bool, truthD_bool, truthD_lst, truthD_tup, runO_ret, runO_next, runO_exc, Bool.not_true, Bool.not_false, Bool.false_eq_true, Bool.true_and, Bool.false_and, Bool.and_true, Bool.and_false, Bool.not_not, tupleD_l, tupleD_t, listD_l, listD_t, lenD_lst, lenD_tup, List.length_map, em_map, eqD_int, neD_int, ltD_int, leD_int, gtD_int, geD_int, opAdd_int, opSub_int, negD_1, isiD_ev, gN_ev, gT_ev, setAll_c, setAll_n, wipeE_c, wipeE_n, isD_non, isNotD_non, eIdx_ev, ix_op0, ix_op1, ix_op2, ix_op3, eqD_kdw, eqD_kdr, List.getElem?_cons_succ, List.getElem?_cons_zero, decide_true, decide_false, rdo_d, with_operation_ok (st := st) (by omega), expl1 (vv v hv10), take1_em]
  unfold F_possible_values
  rw [runF_ev]
  simp only [List.map_cons, List.map_nil, List.length_cons, List.length_nil, List.cons_append, List.nil_append, List.replicate, Nat.sub_self, List.append_nil, sSeq_ev, sSet_ev, sExpr_ev, sRet_ev, sRetN_ev, sIf_ev, sFor_ev, sNil_ev, sOwn_ev, eCall_ev, aC_ev, aN_ok, eVs, eV0, eLs', eL0, eC_ev, bind_ok', bind_bad', bind_exc', callN_ev, if_true, if_false, outOf_ok, outOf_exc, outOf_bad, List.set_cons_succ, List.set_cons_zero, then_next, then_ret, then_exc, e1_ev, e2_ev, eT_ev, eLs_ev, mkL_nil, mkL_1, mkL_2, mkT_nil, mkT_1, mkT_2, mkT_3, mkT_4, tB_ev, tV_ev, tAnd_ev, tOr_ev, tNot_ev, tTrue_ev, eAnd_ev, eOr_ev, eNot_ev, eIf_ev, iSeq_ev, seqD_l, seqD_t, asB_bool, truthD_bool, truthD_lst, truthD_tup, runO_ret, runO_next, runO_exc, Bool.not_true, Bool.not_false, Bool.false_eq_true, Bool.true_and, Bool.false_and, Bool.and_true, Bool.and_false, Bool.not_not, tupleD_l, tupleD_t, listD_l, listD_t, lenD_lst, lenD_tup, List.length_map, em_map, eqD_int, neD_int, ltD_int, leD_int, gtD_int, geD_int, opAdd_int, opSub_int, negD_1, isiD_ev, gN_ev, gT_ev, setAll_c, setAll_n, wipeE_c, wipeE_n, isD_non, isNotD_non, eIdx_ev, ix_op0, ix_op1, ix_op2, ix_op3, eqD_kdw, eqD_kdr, List.getElem?_cons_succ, List.getElem?_cons_zero, decide_true, decide_false, check_story_ok hv, r1, r2, rdo_d, with_operation_ok (st := st) (by omega), is_story_ok, v0, c1]
theorem pv_some {st : List Op} (hv : Valid st) (h5 : st.length ≤ 5) {s e : Int} (hs : 0 ≤ s) (hse : s < e) (he : e ≤ 99) (h1 : s ∉ tms st) (h2 : e ∉ tms st) (hx : expl st ≠ []) : pvals st s e ≠ [] := by
  obtain ⟨q, hq, ok⟩ := (can_iff hv).mp hx
  have hsp : Spans q := fun x hx => hv.spans x (hq.mem_iff.mp hx)
  obtain ⟨v, a, b, e1, e2, ok2⟩ := seq_insert ok hsp hse
  have hlast : ∀ (l : Int) (c : List Op), (0 ≤ l ∧ l ≤ 9) → (∀ x ∈ c, x ∈ st) → 0 ≤ lastL l c ∧ lastL l c ≤ 9 := fun l c => by
    induction c generalizing l with
    | nil => intro h _; exact h
    | cons x c ih =>
      intro h hc
      show 0 ≤ lastL (if x.w = true then x.v else l) c ∧ lastL (if x.w = true then x.v else l) c ≤ 9
      refine ih _ ?_ fun y hy => hc y (by simp [hy])
      split
      · exact hv.v9 x (hc x (by simp))
      · exact h
  have hv9 := hlast 0 a (by omega) fun x hx => hq.mem_iff.mp (by rw [e1]; simp [hx])
  rw [← e2] at hv9
  obtain ⟨k, hk⟩ : ∃ k : Nat, v = (k : Int) := ⟨v.toNat, by omega⟩
  have hV : Valid (wOp st (rdo v s e)) := (wOp_valid hv h5 hv9.1 hv9.2 hs hse he).mpr ⟨h1, h2⟩
  have hc : expl (wOp st (rdo v s e)) ≠ [] := (can_iff hV).mpr ⟨a ++ rdo v s e :: b, ?_, ok2⟩
  · refine List.ne_nil_of_mem (a := k) (List.mem_filter.mpr ⟨List.mem_range.mpr (by omega), ?_⟩)
    rw [← hk, not_em hc]
    rfl
  · refine List.Perm.trans ?_ (wOp_perm st (rdo v s e)).symm
    refine List.perm_middle.trans ?_
    rw [← e1]
    exact (hq.cons _).trans (List.perm_append_singleton _ _).symm
end CP
namespace CP
open PySem L2
theorem asc_key {α : Type} (k : α → Int) : ∀ {a b : List α}, a.Pairwise (fun x y => k x < k y) → b.Pairwise (fun x y => k x < k y) → (∀ x, x ∈ a ↔ x ∈ b) → a = b
  | [], [], _, _, _ => rfl
  | [], y :: b, _, _, h => absurd ((h y).mpr (by simp)) (by simp)
  | x :: a, [], _, _, h => absurd ((h x).mp (by simp)) (by simp)
  | x :: a, y :: b, h1, h2, h => by
    have p1 := List.pairwise_cons.mp h1
    have p2 := List.pairwise_cons.mp h2
    have e : x = y := by
      rcases List.mem_cons.mp ((h x).mp (by simp)) with q | q
      · exact q
      · rcases List.mem_cons.mp ((h y).mpr (by simp)) with q' | q'
        · exact q'.symm
        · have := p2.1 x q
          have := p1.1 y q'
          omega
    subst e
    congr 1
    refine asc_key k p1.2 p2.2 fun z => ?_
    have hz := h z
    simp only [List.mem_cons] at hz
    constructor
    · intro q
      rcases hz.mp (.inr q) with r | r
      · have := p1.1 z q; rw [r] at this; omega
      · exact r
    · intro q
      rcases hz.mpr (.inr q) with r | r
      · have := p2.1 z q; rw [r] at this; omega
      · exact r
def srtN (o : List Nat) : List Nat := o.mergeSort (PySem.W.dataLe false nd)
theorem sort_nd (o : List Nat) : sortD (od o) = .ok (.list ((srtN o).map nd)) := sort_gen nd (fun _ _ => rfl) (.inr fun _ => rfl) (fun x => by simp [nd, PyData.depth]) o
theorem srtN_perm (o : List Nat) : (srtN o).Perm o := List.mergeSort_perm _ _
theorem srtN_asc (o : List Nat) : (srtN o).Pairwise (· ≤ ·) := by
  have e : PySem.W.dataLe false nd = fun a b : Nat => decide ((a : Int) ≤ (b : Int)) := PySem.W.dataLe_int (fun n : Nat => (n : Int))
  unfold srtN
  rw [e]
  refine (List.pairwise_mergeSort (le := fun a b : Nat => decide ((a : Int) ≤ (b : Int))) (fun a b c => by simp only [decide_eq_true_eq]; omega) (fun a b => by simp only [Bool.or_eq_true, decide_eq_true_eq]; omega) o).imp fun {a b} h => ?_
  have := of_decide_eq_true h
  omega
theorem srtN_iff (o : List Nat) (n : Nat) : srtN o = List.range n ↔ o.Perm (List.range n) := by
  constructor
  · intro h
    have := srtN_perm o
    rw [h] at this
    exact this.symm
  · intro h
    have p := (srtN_perm o).trans h
    have nd : (srtN o).Nodup := p.nodup_iff.mpr List.nodup_range
    refine asc_key (fun k : Nat => (k : Int)) (((srtN_asc o).and nd).imp fun {a b} q => ?_) (List.pairwise_lt_range.imp fun {a b} q => ?_) fun x => p.mem_iff
    · have q1 := q.1
      have q2 : a ≠ b := q.2
      omega
    · omega
theorem enumL_nt (o : List Nat) : enumL (o.map nd) = (List.range o.length).map fun i => .tuple [nd i, nd (o.getD i 0)] := by
  unfold enumL
  rw [rangeL_nd, List.length_map]
  apply List.ext_getElem?
  intro i
  by_cases h : i < o.length
  · rw [List.getElem?_map, List.getElem?_map, List.getElem?_zip_eq_some.mpr ⟨_, _⟩ |> fun q => q, List.getElem?_range h]
    rotate_left
    · exact (nd i, nd (o.getD i 0))
    · rw [List.getElem?_map, List.getElem?_range h]; rfl
    · rw [List.getElem?_map, List.getElem?_eq_getElem h, List.getD_eq_getElem?_getD, List.getElem?_eq_getElem h]; rfl
    rfl
  · rw [List.getElem?_eq_none (by simp; omega), List.getElem?_eq_none (by simp; omega)]
theorem perm_of {st : List Op} {o : List Nat} : (InR st o ∧ o.Nodup ∧ o.length = st.length) ↔ o.Perm (List.range st.length) := by
  constructor
  · rintro ⟨h1, h2, h3⟩
    exact (List.perm_ext_iff_of_nodup h2 List.nodup_range).mpr fun k => ⟨fun q => List.mem_range.mpr (h1 k q), fun q => all_in h1 h2 h3 (List.mem_range.mp q)⟩
  · intro h
    exact ⟨fun x hx => List.mem_range.mp (h.mem_iff.mp hx), h.nodup_iff.mpr List.nodup_range, by rw [h.length_eq, List.length_range]⟩
def explB (st : List Op) (o : List Nat) : Bool := decide (o.Perm (List.range st.length)) && (List.range o.length).all fun i => mayF st (o.take i) (o.getD i 0)
theorem explB_iff {st : List Op} {o : List Nat} : explB st o = true ↔ Expl st o := by
  unfold explB
  rw [Bool.and_eq_true, decide_eq_true_iff, List.all_eq_true]
  constructor
  · rintro ⟨h, h4⟩
    obtain ⟨h1, h2, h3⟩ := perm_of.mpr h
    refine ⟨h1, h2, h3, fun i hi => ?_⟩
    have := h4 i (List.mem_range.mpr hi)
    rw [List.getD_eq_getElem?_getD, List.getElem?_eq_getElem hi] at this
    exact this
  · intro h
    refine ⟨perm_of.mp ⟨h.inr, h.nd, h.len⟩, fun i hi => ?_⟩
    have hi := List.mem_range.mp hi
    rw [List.getD_eq_getElem?_getD, List.getElem?_eq_getElem hi]
    exact h.ok i hi
theorem eLRng_ok {f : FE} {ρ : EV} {n : Nat} (h : f ρ = .ok (nd n)) (hn : n ≤ 100000) : eLRng1 f ρ = .ok (.list ((List.range n).map nd)) := by
  unfold eLRng1
  rw [iRng1_ok h hn]
  rfl
theorem eNotT_ev (a : FE) (ρ : EV) : eNotT a ρ = ((a ρ).bind truthD).bind fun x => .ok (.bool (!x)) := rfl
theorem explains_story_ok {st : List Op} (h6 : st.length ≤ 6) (o : List Nat) : F_explains_story [sd st, od o] = .ok (.bool (explB st o)) := by
  have t1 : isiTup (od o) = true := rfl
  have c1 : C_explains_story_1 [some (.d (sd st)), some (.d (od o)), none, none, none] = .ok (.list ((o.filter fun x => !decide (x < st.length)).map nd)) := by
    unfold C_explains_story_1
    refine eLc_ok o nd (fun x => !decide (x < st.length)) nd (by simp only [List.map_cons, List.map_nil, List.length_cons, List.length_nil, List.cons_append, List.nil_append, List.replicate, Nat.sub_self, List.append_nil, sSeq_ev, sSet_ev, sExpr_ev, sRet_ev, sRetN_ev, sIf_ev, sFor_ev, sNil_ev, sOwn_ev, eCall_ev, aC_ev, aN_ok, eVs, eV0, eLs', eL0, eC_ev, bind_ok', bind_bad', bind_exc', callN_ev, if_true, if_false, outOf_ok, outOf_exc, outOf_bad, List.set_cons_succ, List.set_cons_zero, then_next, then_ret, then_exc, e1_ev, e2_ev, eT_ev, eLs_ev, mkL_nil, mkL_1, mkL_2, mkT_nil, mkT_1, mkT_2, mkT_3, mkT_4, tB_ev, tV_ev, tAnd_ev, tOr_ev, tNot_ev, tTrue_ev, eAnd_ev, eOr_ev, eNot_ev, eIf_ev, iSeq_ev, seqD_l, seqD_t, asB_bool, truthD_bool, truthD_lst, truthD_tup, runO_ret, runO_next, runO_exc, Bool.not_true, Bool.not_false, Bool.false_eq_true, Bool.true_and, Bool.false_and, Bool.and_true, Bool.and_false, Bool.not_not, tupleD_l, tupleD_t, listD_l, listD_t, lenD_lst, lenD_tup, List.length_map, em_map, eqD_int, neD_int, ltD_int, leD_int, gtD_int, geD_int, opAdd_int, opSub_int, negD_1, isiD_ev, gN_ev, gT_ev, setAll_c, setAll_n, wipeE_c, wipeE_n, isD_non, isNotD_non, eIdx_ev, ix_op0, ix_op1, ix_op2, ix_op3, eqD_kdw, eqD_kdr, List.getElem?_cons_succ, List.getElem?_cons_zero, decide_true, decide_false]) fun x _ => ⟨_, rfl, ?_, fun _ => by simp only [List.map_cons, List.map_nil, List.length_cons, List.length_nil, List.cons_append, List.nil_append, List.replicate, Nat.sub_self, List.append_nil, sSeq_ev, sSet_ev, sExpr_ev, sRet_ev, sRetN_ev, sIf_ev, sFor_ev, sNil_ev, sOwn_ev, eCall_ev, aC_ev, aN_ok, eVs, eV0, eLs', eL0, eC_ev, bind_ok', bind_bad', bind_exc', callN_ev, if_true, if_false, outOf_ok, outOf_exc, outOf_bad, List.set_cons_succ, List.set_cons_zero, then_next, then_ret, then_exc, e1_ev, e2_ev, eT_ev, eLs_ev, mkL_nil, mkL_1, mkL_2, mkT_nil, mkT_1, mkT_2, mkT_3, mkT_4, tB_ev, tV_ev, tAnd_ev, tOr_ev, tNot_ev, tTrue_ev, eAnd_ev, eOr_ev, eNot_ev, eIf_ev, iSeq_ev, seqD_l, seqD_t, asB_bool, truthD_bool, truthD_lst, truthD_tup, runO_ret, runO_next, runO_exc, Bool.not_true, Bool.not_false, Bool.false_eq_true, Bool.true_and, Bool.false_and, Bool.and_true, Bool.and_false, Bool.not_not, tupleD_l, tupleD_t, listD_l, listD_t, lenD_lst, lenD_tup, List.length_map, em_map, eqD_int, neD_int, ltD_int, leD_int, gtD_int, geD_int, opAdd_int, opSub_int, negD_1, isiD_ev, gN_ev, gT_ev, setAll_c, setAll_n, wipeE_c, wipeE_n, isD_non, isNotD_non, eIdx_ev, ix_op0, ix_op1, ix_op2, ix_op3, eqD_kdw, eqD_kdr, List.getElem?_cons_succ, List.getElem?_cons_zero, decide_true, decide_false]⟩
    have e : (decide ((0 : Int) ≤ (x : Int)) && decide ((x : Int) ≤ (st.length : Int) - 1)) = decide (x < st.length) := by
      rw [Bool.eq_iff_iff, Bool.and_eq_true, decide_eq_true_iff, decide_eq_true_iff, decide_eq_true_iff]
      omega
    simp only [List.map_cons, List.map_nil, List.length_cons, List.length_nil, List.cons_append, List.nil_append, List.replicate, Nat.sub_self, List.append_nil, sSeq_ev, sSet_ev, sExpr_ev, sRet_ev, sRetN_ev, sIf_ev, sFor_ev, sNil_ev, sOwn_ev, eCall_ev, aC_ev, aN_ok, eVs, eV0, eLs', eL0, eC_ev, bind_ok', bind_bad', bind_exc', callN_ev, if_true, if_false, outOf_ok, outOf_exc, outOf_bad, List.set_cons_succ, List.set_cons_zero, then_next, then_ret, then_exc, e1_ev, e2_ev, eT_ev, eLs_ev, mkL_nil, mkL_1, mkL_2, mkT_nil, mkT_1, mkT_2, mkT_3, mkT_4, tB_ev, tV_ev, tAnd_ev, tOr_ev, tNot_ev, tTrue_ev, eAnd_ev, eOr_ev, eNot_ev, eIf_ev, iSeq_ev, seqD_l, seqD_t, asB_bool, truthD_bool, truthD_lst, truthD_tup, runO_ret, runO_next, runO_exc, Bool.not_true, Bool.not_false, Bool.false_eq_true, Bool.true_and, Bool.false_and, Bool.and_true, Bool.and_false, Bool.not_not, tupleD_l, tupleD_t, listD_l, listD_t, lenD_lst, lenD_tup, List.length_map, em_map, eqD_int, neD_int, ltD_int, leD_int, gtD_int, geD_int, opAdd_int, opSub_int, negD_1, isiD_ev, gN_ev, gT_ev, setAll_c, setAll_n, wipeE_c, wipeE_n, isD_non, isNotD_non, eIdx_ev, ix_op0, ix_op1, ix_op2, ix_op3, eqD_kdw, eqD_kdr, List.getElem?_cons_succ, List.getElem?_cons_zero, decide_true, decide_false, in_range_ok, e]
  have em : (o.filter fun x => !decide (x < st.length)).isEmpty = true ↔ InR st o := by
    rw [List.isEmpty_iff, List.filter_eq_nil_iff]
    exact ⟨fun h x hx => by simpa using h x hx, fun h x hx => by simpa using h x hx⟩
  have lr : ∀ r : EV, eLRng1 (e1 lenD (eV 0)) (some (.d (sd st)) :: r) = .ok (.list ((List.range st.length).map nd)) := fun r => eLRng_ok (by simp only [List.map_cons, List.map_nil, List.length_cons, List.length_nil, List.cons_append, List.nil_append, List.replicate, Nat.sub_self, List.append_nil, sSeq_ev, sSet_ev, sExpr_ev, sRet_ev, sRetN_ev, sIf_ev, sFor_ev, sNil_ev, sOwn_ev, eCall_ev, aC_ev, aN_ok, eVs, eV0, eLs', eL0, eC_ev, bind_ok', bind_bad', bind_exc', callN_ev, if_true, if_false, outOf_ok, outOf_exc, outOf_bad, List.set_cons_succ, List.set_cons_zero, then_next, then_ret, then_exc, e1_ev, e2_ev, eT_ev, eLs_ev, mkL_nil, mkL_1, mkL_2, mkT_nil, mkT_1, mkT_2, mkT_3, mkT_4, tB_ev, tV_ev, tAnd_ev, tOr_ev, tNot_ev, tTrue_ev, eAnd_ev, eOr_ev, eNot_ev, eIf_ev, iSeq_ev, seqD_l, seqD_t, asB_bool, truthD_bool, truthD_lst, truthD_tup, runO_ret, runO_next, runO_exc, Bool.not_true, Bool.not_false, Bool.false_eq_true, Bool.true_and, Bool.false_and, Bool.and_true, Bool.and_false, Bool.not_not, tupleD_l, tupleD_t, listD_l, listD_t, lenD_lst, lenD_tup, List.length_map, em_map, eqD_int, neD_int, ltD_int, leD_int, gtD_int, geD_int, opAdd_int, opSub_int, negD_1, isiD_ev, gN_ev, gT_ev, setAll_c, setAll_n, wipeE_c, wipeE_n, isD_non, isNotD_non, eIdx_ev, ix_op0, ix_op1, ix_op2, ix_op3, eqD_kdw, eqD_kdr, List.getElem?_cons_succ, List.getElem?_cons_zero, decide_true, decide_false]) (by omega)
  have ne : neD (.list ((srtN o).map nd)) (.list ((List.range st.length).map nd)) = .ok (.bool (!decide (o.Perm (List.range st.length)))) := by
    refine (encN.list.neD (by decide) (srtN o) (List.range st.length)).trans ?_
    congr 2
    rw [Bool.eq_iff_iff, decide_eq_true_iff, Bool.not_eq_true', decide_eq_false_iff_not, ne_eq, srtN_iff]
  unfold F_explains_story
  rw [runF_ev]
  simp only [List.map_cons, List.map_nil, List.length_cons, List.length_nil, List.cons_append, List.nil_append, List.replicate, Nat.sub_self, List.append_nil, sSeq_ev, sSet_ev, sExpr_ev, sRet_ev, sRetN_ev, sIf_ev, sFor_ev, sNil_ev, sOwn_ev, eCall_ev, aC_ev, aN_ok, eVs, eV0, eLs', eL0, eC_ev, bind_ok', bind_bad', bind_exc', callN_ev, if_true, if_false, outOf_ok, outOf_exc, outOf_bad, List.set_cons_succ, List.set_cons_zero, then_next, then_ret, then_exc, e1_ev, e2_ev, eT_ev, eLs_ev, mkL_nil, mkL_1, mkL_2, mkT_nil, mkT_1, mkT_2, mkT_3, mkT_4, tB_ev, tV_ev, tAnd_ev, tOr_ev, tNot_ev, tTrue_ev, eAnd_ev, eOr_ev, eNot_ev, eIf_ev, iSeq_ev, seqD_l, seqD_t, asB_bool, truthD_bool, truthD_lst, truthD_tup, runO_ret, runO_next, runO_exc, Bool.not_true, Bool.not_false, Bool.false_eq_true, Bool.true_and, Bool.false_and, Bool.and_true, Bool.and_false, Bool.not_not, tupleD_l, tupleD_t, listD_l, listD_t, lenD_lst, lenD_tup, List.length_map, em_map, eqD_int, neD_int, ltD_int, leD_int, gtD_int, geD_int, opAdd_int, opSub_int, negD_1, isiD_ev, gN_ev, gT_ev, setAll_c, setAll_n, wipeE_c, wipeE_n, isD_non, isNotD_non, eIdx_ev, ix_op0, ix_op1, ix_op2, ix_op3, eqD_kdw, eqD_kdr, List.getElem?_cons_succ, List.getElem?_cons_zero, decide_true, decide_false, t1, c1]
  by_cases hr : InR st o
  · rw [em.mpr hr]
    simp only [List.map_cons, List.map_nil, List.length_cons, List.length_nil, List.cons_append, List.nil_append, List.replicate, Nat.sub_self, List.append_nil, sSeq_ev, sSet_ev, sExpr_ev, sRet_ev, sRetN_ev, sIf_ev, sFor_ev, sNil_ev, sOwn_ev, eCall_ev, aC_ev, aN_ok, eVs, eV0, eLs', eL0, eC_ev, bind_ok', bind_bad', bind_exc', callN_ev, if_true, if_false, outOf_ok, outOf_exc, outOf_bad, List.set_cons_succ, List.set_cons_zero, then_next, then_ret, then_exc, e1_ev, e2_ev, eT_ev, eLs_ev, mkL_nil, mkL_1, mkL_2, mkT_nil, mkT_1, mkT_2, mkT_3, mkT_4, tB_ev, tV_ev, tAnd_ev, tOr_ev, tNot_ev, tTrue_ev, eAnd_ev, eOr_ev, eNot_ev, eIf_ev, iSeq_ev, seqD_l, seqD_t, asB_bool, truthD_bool, truthD_lst, truthD_tup, runO_ret, runO_next, runO_exc, Bool.not_true, Bool.not_false, Bool.false_eq_true, Bool.true_and, Bool.false_and, Bool.and_true, Bool.and_false, Bool.not_not, tupleD_l, tupleD_t, listD_l, listD_t, lenD_lst, lenD_tup, List.length_map, em_map, eqD_int, neD_int, ltD_int, leD_int, gtD_int, geD_int, opAdd_int, opSub_int, negD_1, isiD_ev, gN_ev, gT_ev, setAll_c, setAll_n, wipeE_c, wipeE_n, isD_non, isNotD_non, eIdx_ev, ix_op0, ix_op1, ix_op2, ix_op3, eqD_kdw, eqD_kdr, List.getElem?_cons_succ, List.getElem?_cons_zero, decide_true, decide_false, sort_nd, lr, ne]
    by_cases hp : o.Perm (List.range st.length)
    · have c2 : C_explains_story_2 [some (.d (sd st)), some (.d (od o)), none, none, none] = .ok (.list (((List.range o.length).filter fun i => !mayF st (o.take i) (o.getD i 0)).map fun _ => .int 1)) := by
        unfold C_explains_story_2
        refine eLc_ok (List.range o.length) (fun i => .tuple [nd i, nd (o.getD i 0)]) (fun i => !mayF st (o.take i) (o.getD i 0)) (fun _ => .int 1) ?_ fun i hi => ⟨_, rfl, ?_, fun _ => by simp only [List.map_cons, List.map_nil, List.length_cons, List.length_nil, List.cons_append, List.nil_append, List.replicate, Nat.sub_self, List.append_nil, sSeq_ev, sSet_ev, sExpr_ev, sRet_ev, sRetN_ev, sIf_ev, sFor_ev, sNil_ev, sOwn_ev, eCall_ev, aC_ev, aN_ok, eVs, eV0, eLs', eL0, eC_ev, bind_ok', bind_bad', bind_exc', callN_ev, if_true, if_false, outOf_ok, outOf_exc, outOf_bad, List.set_cons_succ, List.set_cons_zero, then_next, then_ret, then_exc, e1_ev, e2_ev, eT_ev, eLs_ev, mkL_nil, mkL_1, mkL_2, mkT_nil, mkT_1, mkT_2, mkT_3, mkT_4, tB_ev, tV_ev, tAnd_ev, tOr_ev, tNot_ev, tTrue_ev, eAnd_ev, eOr_ev, eNot_ev, eIf_ev, iSeq_ev, seqD_l, seqD_t, asB_bool, truthD_bool, truthD_lst, truthD_tup, runO_ret, runO_next, runO_exc, Bool.not_true, Bool.not_false, Bool.false_eq_true, Bool.true_and, Bool.false_and, Bool.and_true, Bool.and_false, Bool.not_not, tupleD_l, tupleD_t, listD_l, listD_t, lenD_lst, lenD_tup, List.length_map, em_map, eqD_int, neD_int, ltD_int, leD_int, gtD_int, geD_int, opAdd_int, opSub_int, negD_1, isiD_ev, gN_ev, gT_ev, setAll_c, setAll_n, wipeE_c, wipeE_n, isD_non, isNotD_non, eIdx_ev, ix_op0, ix_op1, ix_op2, ix_op3, eqD_kdw, eqD_kdr, List.getElem?_cons_succ, List.getElem?_cons_zero, decide_true, decide_false]⟩
        · show (enumD (od o)) = _
          show R.ok (enumL (o.map nd)) = _
          rw [enumL_nt]
        · have hi := List.mem_range.mp hi
          have sl : sliceD (od o) none (some (i : Int)) = .ok (od (o.take i)) := by rw [show od (o.take i) = .tuple ((o.map nd).take i) by rw [← List.map_take]]; exact sl_takeT i
          have hk : o.getD i 0 < st.length := by
            rw [List.getD_eq_getElem?_getD, List.getElem?_eq_getElem hi]
            exact hr _ (List.getElem_mem hi)
          simp only [List.map_cons, List.map_nil, List.length_cons, List.length_nil, List.cons_append, List.nil_append, List.replicate, Nat.sub_self, List.append_nil, sSeq_ev, sSet_ev, sExpr_ev, sRet_ev, sRetN_ev, sIf_ev, sFor_ev, sNil_ev, sOwn_ev, eCall_ev, aC_ev, aN_ok, eVs, eV0, eLs', eL0, eC_ev, bind_ok', bind_bad', bind_exc', callN_ev, if_true, if_false, outOf_ok, outOf_exc, outOf_bad, List.set_cons_succ, List.set_cons_zero, then_next, then_ret, then_exc, e1_ev, e2_ev, eT_ev, eLs_ev, mkL_nil, mkL_1, mkL_2, mkT_nil, mkT_1, mkT_2, mkT_3, mkT_4, tB_ev, tV_ev, tAnd_ev, tOr_ev, tNot_ev, tTrue_ev, eAnd_ev, eOr_ev, eNot_ev, eIf_ev, iSeq_ev, seqD_l, seqD_t, asB_bool, truthD_bool, truthD_lst, truthD_tup, runO_ret, runO_next, runO_exc, Bool.not_true, Bool.not_false, Bool.false_eq_true, Bool.true_and, Bool.false_and, Bool.and_true, Bool.and_false, Bool.not_not, tupleD_l, tupleD_t, listD_l, listD_t, lenD_lst, lenD_tup, List.length_map, em_map, eqD_int, neD_int, ltD_int, leD_int, gtD_int, geD_int, opAdd_int, opSub_int, negD_1, isiD_ev, gN_ev, gT_ev, setAll_c, setAll_n, wipeE_c, wipeE_n, isD_non, isNotD_non, eIdx_ev, ix_op0, ix_op1, ix_op2, ix_op3, eqD_kdw, eqD_kdr, List.getElem?_cons_succ, List.getElem?_cons_zero, decide_true, decide_false, eSl_ev, oN_ev, oS_ev, asI_int, sl, may_follow_ok hk (fun x hx => hr x (List.mem_of_mem_take hx))]
      have em2 : ((List.range o.length).filter fun i => !mayF st (o.take i) (o.getD i 0)).isEmpty = (List.range o.length).all fun i => mayF st (o.take i) (o.getD i 0) := by
        rw [Bool.eq_iff_iff]
        simp only [List.isEmpty_iff, List.filter_eq_nil_iff, List.all_eq_true]
        exact ⟨fun h a ha => by simpa using h a ha, fun h a ha => by rw [h a ha]; simp⟩
      unfold explB
      simp only [List.map_cons, List.map_nil, List.length_cons, List.length_nil, List.cons_append, List.nil_append, List.replicate, Nat.sub_self, List.append_nil, sSeq_ev, sSet_ev, sExpr_ev, sRet_ev, sRetN_ev, sIf_ev, sFor_ev, sNil_ev, sOwn_ev, eCall_ev, aC_ev, aN_ok, eVs, eV0, eLs', eL0, eC_ev, bind_ok', bind_bad', bind_exc', callN_ev, if_true, if_false, outOf_ok, outOf_exc, outOf_bad, List.set_cons_succ, List.set_cons_zero, then_next, then_ret, then_exc, e1_ev, e2_ev, eT_ev, eLs_ev, mkL_nil, mkL_1, mkL_2, mkT_nil, mkT_1, mkT_2, mkT_3, mkT_4, tB_ev, tV_ev, tAnd_ev, tOr_ev, tNot_ev, tTrue_ev, eAnd_ev, eOr_ev, eNot_ev, eIf_ev, iSeq_ev, seqD_l, seqD_t, asB_bool, truthD_bool, truthD_lst, truthD_tup, runO_ret, runO_next, runO_exc, Bool.not_true, Bool.not_false, Bool.false_eq_true, Bool.true_and, Bool.false_and, Bool.and_true, Bool.and_false, Bool.not_not, tupleD_l, tupleD_t, listD_l, listD_t, lenD_lst, lenD_tup, List.length_map, em_map, eqD_int, neD_int, ltD_int, leD_int, gtD_int, geD_int, opAdd_int, opSub_int, negD_1, isiD_ev, gN_ev, gT_ev, setAll_c, setAll_n, wipeE_c, wipeE_n, isD_non, isNotD_non, eIdx_ev, ix_op0, ix_op1, ix_op2, ix_op3, eqD_kdw, eqD_kdr, List.getElem?_cons_succ, List.getElem?_cons_zero, decide_true, decide_false, hp, eNotT_ev, c2, em2]
    · unfold explB
      simp only [List.map_cons, List.map_nil, List.length_cons, List.length_nil, List.cons_append, List.nil_append, List.replicate, Nat.sub_self, List.append_nil, sSeq_ev, sSet_ev, sExpr_ev, sRet_ev, sRetN_ev, sIf_ev, sFor_ev, sNil_ev, sOwn_ev, eCall_ev, aC_ev, aN_ok, eVs, eV0, eLs', eL0, eC_ev, bind_ok', bind_bad', bind_exc', callN_ev, if_true, if_false, outOf_ok, outOf_exc, outOf_bad, List.set_cons_succ, List.set_cons_zero, then_next, then_ret, then_exc, e1_ev, e2_ev, eT_ev, eLs_ev, mkL_nil, mkL_1, mkL_2, mkT_nil, mkT_1, mkT_2, mkT_3, mkT_4, tB_ev, tV_ev, tAnd_ev, tOr_ev, tNot_ev, tTrue_ev, eAnd_ev, eOr_ev, eNot_ev, eIf_ev, iSeq_ev, seqD_l, seqD_t, asB_bool, truthD_bool, truthD_lst, truthD_tup, runO_ret, runO_next, runO_exc, Bool.not_true, Bool.not_false, Bool.false_eq_true, Bool.true_and, Bool.false_and, Bool.and_true, Bool.and_false, Bool.not_not, tupleD_l, tupleD_t, listD_l, listD_t, lenD_lst, lenD_tup, List.length_map, em_map, eqD_int, neD_int, ltD_int, leD_int, gtD_int, geD_int, opAdd_int, opSub_int, negD_1, isiD_ev, gN_ev, gT_ev, setAll_c, setAll_n, wipeE_c, wipeE_n, isD_non, isNotD_non, eIdx_ev, ix_op0, ix_op1, ix_op2, ix_op3, eqD_kdw, eqD_kdr, List.getElem?_cons_succ, List.getElem?_cons_zero, decide_true, decide_false, hp]
  · have hp : ¬ o.Perm (List.range st.length) := fun h => hr (perm_of.mpr h).1
    have em' : (o.filter fun x => !decide (x < st.length)).isEmpty = false := by
      cases q : (o.filter fun x => !decide (x < st.length)).isEmpty with
      | false => rfl
      | true => exact absurd (em.mp q) hr
    unfold explB
    rw [em']
    simp only [List.map_cons, List.map_nil, List.length_cons, List.length_nil, List.cons_append, List.nil_append, List.replicate, Nat.sub_self, List.append_nil, sSeq_ev, sSet_ev, sExpr_ev, sRet_ev, sRetN_ev, sIf_ev, sFor_ev, sNil_ev, sOwn_ev, eCall_ev, aC_ev, aN_ok, eVs, eV0, eLs', eL0, eC_ev, bind_ok', bind_bad', bind_exc', callN_ev, if_true, if_false, outOf_ok, outOf_exc, outOf_bad, List.set_cons_succ, List.set_cons_zero, then_next, then_ret, then_exc, e1_ev, e2_ev, eT_ev, eLs_ev, mkL_nil, mkL_1, mkL_2, mkT_nil, mkT_1, mkT_2, mkT_3, mkT_4, tB_ev, tV_ev, tAnd_ev, tOr_ev, tNot_ev, tTrue_ev, eAnd_ev, eOr_ev, eNot_ev, eIf_ev, iSeq_ev, seqD_l, seqD_t, asB_bool, truthD_bool, truthD_lst, truthD_tup, runO_ret, runO_next, runO_exc, Bool.not_true, Bool.not_false, Bool.false_eq_true, Bool.true_and, Bool.false_and, Bool.and_true, Bool.and_false, Bool.not_not, tupleD_l, tupleD_t, listD_l, listD_t, lenD_lst, lenD_tup, List.length_map, em_map, eqD_int, neD_int, ltD_int, leD_int, gtD_int, geD_int, opAdd_int, opSub_int, negD_1, isiD_ev, gN_ev, gT_ev, setAll_c, setAll_n, wipeE_c, wipeE_n, isD_non, isNotD_non, eIdx_ev, ix_op0, ix_op1, ix_op2, ix_op3, eqD_kdw, eqD_kdr, List.getElem?_cons_succ, List.getElem?_cons_zero, decide_true, decide_false, hp]
theorem explains_ok {st : List Op} (hv : Valid st) (o : List Nat) : F_explains [sd st, od o] = .ok (.bool (explB st o)) := by
  unfold F_explains
  rw [runF_ev]
  simp only [List.map_cons, List.map_nil, List.length_cons, List.length_nil, List.cons_append, List.nil_append, List.replicate, Nat.sub_self, List.append_nil, sSeq_ev, sSet_ev, sExpr_ev, sRet_ev, sRetN_ev, sIf_ev, sFor_ev, sNil_ev, sOwn_ev, eCall_ev, aC_ev, aN_ok, eVs, eV0, eLs', eL0, eC_ev, bind_ok', bind_bad', bind_exc', callN_ev, if_true, if_false, outOf_ok, outOf_exc, outOf_bad, List.set_cons_succ, List.set_cons_zero, then_next, then_ret, then_exc, e1_ev, e2_ev, eT_ev, eLs_ev, mkL_nil, mkL_1, mkL_2, mkT_nil, mkT_1, mkT_2, mkT_3, mkT_4, tB_ev, tV_ev, tAnd_ev, tOr_ev, tNot_ev, tTrue_ev, eAnd_ev, eOr_ev, eNot_ev, eIf_ev, iSeq_ev, seqD_l, seqD_t, asB_bool, truthD_bool, truthD_lst, truthD_tup, runO_ret, runO_next, runO_exc, Bool.not_true, Bool.not_false, Bool.false_eq_true, Bool.true_and, Bool.false_and, Bool.and_true, Bool.and_false, Bool.not_not, tupleD_l, tupleD_t, listD_l, listD_t, lenD_lst, lenD_tup, List.length_map, em_map, eqD_int, neD_int, ltD_int, leD_int, gtD_int, geD_int, opAdd_int, opSub_int, negD_1, isiD_ev, gN_ev, gT_ev, setAll_c, setAll_n, wipeE_c, wipeE_n, isD_non, isNotD_non, eIdx_ev, ix_op0, ix_op1, ix_op2, ix_op3, eqD_kdw, eqD_kdr, List.getElem?_cons_succ, List.getElem?_cons_zero, decide_true, decide_false, check_story_ok hv, explains_story_ok hv.len]
theorem explanation_ok {st : List Op} (hv : Valid st) : F_explanation [sd st] = match (expl st).head? with | none => .exc ⟨"NoExplanation", none⟩ | some o => .ok (od o) := by
  unfold F_explanation
  rw [runF_ev]
  cases q : expl st with
  | nil => simp only [List.map_cons, List.map_nil, List.length_cons, List.length_nil, List.cons_append, List.nil_append, List.replicate, Nat.sub_self, List.append_nil, sSeq_ev, sSet_ev, sExpr_ev, sRet_ev, sRetN_ev, sIf_ev, sFor_ev, sNil_ev, sOwn_ev, eCall_ev, aC_ev, aN_ok, eVs, eV0, eLs', eL0, eC_ev, bind_ok', bind_bad', bind_exc', callN_ev, if_true, if_false, outOf_ok, outOf_exc, outOf_bad, List.set_cons_succ, List.set_cons_zero, then_next, then_ret, then_exc, e1_ev, e2_ev, eT_ev, eLs_ev, mkL_nil, mkL_1, mkL_2, mkT_nil, mkT_1, mkT_2, mkT_3, mkT_4, tB_ev, tV_ev, tAnd_ev, tOr_ev, tNot_ev, tTrue_ev, eAnd_ev, eOr_ev, eNot_ev, eIf_ev, iSeq_ev, seqD_l, seqD_t, asB_bool, truthD_bool, truthD_lst, truthD_tup, runO_ret, runO_next, runO_exc, Bool.not_true, Bool.not_false, Bool.false_eq_true, Bool.true_and, Bool.false_and, Bool.and_true, Bool.and_false, Bool.not_not, tupleD_l, tupleD_t, listD_l, listD_t, lenD_lst, lenD_tup, List.length_map, em_map, eqD_int, neD_int, ltD_int, leD_int, gtD_int, geD_int, opAdd_int, opSub_int, negD_1, isiD_ev, gN_ev, gT_ev, setAll_c, setAll_n, wipeE_c, wipeE_n, isD_non, isNotD_non, eIdx_ev, ix_op0, ix_op1, ix_op2, ix_op3, eqD_kdw, eqD_kdr, List.getElem?_cons_succ, List.getElem?_cons_zero, decide_true, decide_false, check_story_ok hv, expl1 hv, q, List.take_nil, List.isEmpty, sRaise, List.head?_nil]
  | cons o r =>
    have i0 : ∀ xs : List PyData, ixD (.list (od o :: xs)) (.int 0) = .ok (od o) := fun xs => ix_lst (k := 0) rfl
    simp only [List.map_cons, List.map_nil, List.length_cons, List.length_nil, List.cons_append, List.nil_append, List.replicate, Nat.sub_self, List.append_nil, sSeq_ev, sSet_ev, sExpr_ev, sRet_ev, sRetN_ev, sIf_ev, sFor_ev, sNil_ev, sOwn_ev, eCall_ev, aC_ev, aN_ok, eVs, eV0, eLs', eL0, eC_ev, bind_ok', bind_bad', bind_exc', callN_ev, if_true, if_false, outOf_ok, outOf_exc, outOf_bad, List.set_cons_succ, List.set_cons_zero, then_next, then_ret, then_exc, e1_ev, e2_ev, eT_ev, eLs_ev, mkL_nil, mkL_1, mkL_2, mkT_nil, mkT_1, mkT_2, mkT_3, mkT_4, tB_ev, tV_ev, tAnd_ev, tOr_ev, tNot_ev, tTrue_ev, eAnd_ev, eOr_ev, eNot_ev, eIf_ev, iSeq_ev, seqD_l, seqD_t, asB_bool, truthD_bool, truthD_lst, truthD_tup, runO_ret, runO_next, runO_exc, Bool.not_true, Bool.not_false, Bool.false_eq_true, Bool.true_and, Bool.false_and, Bool.and_true, Bool.and_false, Bool.not_not, tupleD_l, tupleD_t, listD_l, listD_t, lenD_lst, lenD_tup, List.length_map, em_map, eqD_int, neD_int, ltD_int, leD_int, gtD_int, geD_int, opAdd_int, opSub_int, negD_1, isiD_ev, gN_ev, gT_ev, setAll_c, setAll_n, wipeE_c, wipeE_n, isD_non, isNotD_non, eIdx_ev, ix_op0, ix_op1, ix_op2, ix_op3, eqD_kdw, eqD_kdr, List.getElem?_cons_succ, List.getElem?_cons_zero, decide_true, decide_false, check_story_ok hv, expl1 hv, q, List.take_succ_cons, List.take_zero, List.isEmpty, i0, List.head?_cons]
theorem Valid.sub {st l : List Op} (hv : Valid st) (h : l.Sublist st) : Valid l :=
  ⟨Nat.le_trans h.length_le hv.len, fun o ho => hv.rng o (h.subset ho), hv.asc.sublist h, hv.tms.sublist ((h.map Op.s).append (h.map Op.e)), hv.wrt.sublist ((h.filter Op.w).map Op.v)⟩
theorem range_op (st : List Op) : (List.range st.length).map (op st) = st := by
  apply List.ext_getElem?
  intro i
  by_cases h : i < st.length
  · rw [List.getElem?_map, List.getElem?_range h, op_some h]; rfl
  · rw [List.getElem?_eq_none (by simp; omega), List.getElem?_eq_none (by omega)]
theorem rdOk_filter {p : Op → Bool} : ∀ (l : Int) (q : List Op), (∀ x ∈ q, x.w = true → p x = true) → rdOk l q → rdOk l (q.filter p)
  | _, [], _, _ => trivial
  | l, x :: q, hp, h => by
    rw [rdOk] at h
    rw [List.filter_cons]
    have hq : ∀ y ∈ q, y.w = true → p y = true := fun y hy => hp y (by simp [hy])
    cases w : x.w with
    | true =>
      rw [w, if_pos rfl] at h
      rw [if_pos (hp x (by simp) w), rdOk, w, if_pos rfl]
      exact rdOk_filter _ q hq h
    | false =>
      rw [w, if_neg (by simp)] at h
      split
      · rw [rdOk, w, if_neg (by simp)]
        exact ⟨h.1, rdOk_filter _ q hq h.2⟩
      · exact rdOk_filter _ q hq h.2
theorem SeqOk.filter {q : List Op} (h : SeqOk q) {p : Op → Bool} (hp : ∀ x ∈ q, x.w = true → p x = true) : SeqOk (q.filter p) := ⟨h.ord.filter p, rdOk_filter 0 q hp h.rd⟩
end CP
namespace CP
open PySem L2
def st0 : Op := ⟨false, 0, -2, -1⟩
def grp (st : List Op) (v : Int) : List Op := (st ++ [st0]).filter fun o => decide (o.v = v)
def zf (st : List Op) (v : Int) : Int := minL ((grp st v).map Op.e)
def zs (st : List Op) (v : Int) : Int := maxL ((grp st v).map Op.s)
def isVal (st : List Op) (v : Int) : Prop := v = 0 ∨ ∃ x ∈ st, x.w = true ∧ x.v = v
def Early (st : List Op) (x : Op) : Prop := x.w = false ∧ 0 < x.v ∧ ∀ y ∈ st, y.w = true → y.v = x.v → x.e < y.s
def Cyc (st : List Op) (a b : Int) : Prop := zf st a < zs st b ∧ zf st b < zs st a
theorem grp_ne {st : List Op} {v : Int} (h : isVal st v) : grp st v ≠ [] := by
  rcases h with h | ⟨x, hx, _, hv⟩
  · exact List.ne_nil_of_mem (a := st0) (List.mem_filter.mpr ⟨by simp, by rw [h]; rfl⟩)
  · exact List.ne_nil_of_mem (a := x) (List.mem_filter.mpr ⟨by simp [hx], by simp [hv]⟩)
theorem zf_mem {st : List Op} {v : Int} (h : isVal st v) : ∃ x ∈ st ++ [st0], x.v = v ∧ x.e = zf st v := by
  have hn : (grp st v).map Op.e ≠ [] := by simpa using grp_ne h
  obtain ⟨x, hx, e⟩ := List.mem_map.mp (minL_spec hn).1
  obtain ⟨h1, h2⟩ := List.mem_filter.mp hx
  exact ⟨x, h1, of_decide_eq_true h2, e⟩
theorem zs_mem {st : List Op} {v : Int} (h : isVal st v) : ∃ x ∈ st ++ [st0], x.v = v ∧ x.s = zs st v := by
  have hn : (grp st v).map Op.s ≠ [] := by simpa using grp_ne h
  obtain ⟨x, hx, e⟩ := List.mem_map.mp (maxL_spec hn).1
  obtain ⟨h1, h2⟩ := List.mem_filter.mp hx
  exact ⟨x, h1, of_decide_eq_true h2, e⟩
theorem zf_le {st : List Op} {x : Op} (h : x ∈ st ++ [st0]) : zf st x.v ≤ x.e := by
  have hm : x ∈ grp st x.v := List.mem_filter.mpr ⟨h, by simp⟩
  exact (minL_spec (ns := (grp st x.v).map Op.e) (by simpa using List.ne_nil_of_mem hm)).2 _ (List.mem_map.mpr ⟨x, hm, rfl⟩)
theorem zs_ge {st : List Op} {x : Op} (h : x ∈ st ++ [st0]) : x.s ≤ zs st x.v := by
  have hm : x ∈ grp st x.v := List.mem_filter.mpr ⟨h, by simp⟩
  exact (maxL_spec (ns := (grp st x.v).map Op.s) (by simpa using List.ne_nil_of_mem hm)).2 _ (List.mem_map.mpr ⟨x, hm, rfl⟩)
theorem rd_mem : ∀ (l : Int) (q : List Op), rdOk l q → ∀ z ∈ q, z.v = l ∨ ∃ x ∈ q, x.w = true ∧ x.v = z.v
  | _, [], _, z, hz => by cases hz
  | l, a :: q, h, z, hz => by
    rw [rdOk] at h
    cases w : a.w with
    | true =>
      rw [w, if_pos rfl] at h
      rcases List.mem_cons.mp hz with e | e
      · exact .inr ⟨a, by simp, w, by rw [e]⟩
      · rcases rd_mem a.v q h z e with r | ⟨x, r1, r2, r3⟩
        · exact .inr ⟨a, by simp, w, r.symm⟩
        · exact .inr ⟨x, by simp [r1], r2, r3⟩
    | false =>
      rw [w, if_neg (by simp)] at h
      rcases List.mem_cons.mp hz with e | e
      · rw [e]; exact .inl h.1
      · rcases rd_mem l q h.2 z e with r | ⟨x, r1, r2, r3⟩
        · exact .inl r
        · exact .inr ⟨x, by simp [r1], r2, r3⟩
theorem blk1 : ∀ (l : Int) (q : List Op), rdOk l q → (∀ x ∈ q, x.w = true → x.v ≠ l) → ∀ (j k : Nat) (y z : Op), q[j]? = some y → q[k]? = some z → j < k → z.v = l → y.v = l
  | _, [], _, _, j, _, _, _, h, _, _, _ => by cases h
  | l, a :: q, h, hw, j, k, y, z, hj, hk, hjk, hz => by
    obtain ⟨k, rfl⟩ : ∃ k', k = k' + 1 := ⟨k - 1, by omega⟩
    rw [List.getElem?_cons_succ] at hk
    rw [rdOk] at h
    cases w : a.w with
    | true =>
      exfalso
      rw [w, if_pos rfl] at h
      rcases rd_mem a.v q h z (List.mem_of_getElem? hk) with r | ⟨x, r1, r2, r3⟩
      · exact hw a (by simp) w (r.symm.trans hz)
      · exact hw x (by simp [r1]) r2 (r3.trans hz)
    | false =>
      rw [w, if_neg (by simp)] at h
      cases j with
      | zero =>
        rw [List.getElem?_cons_zero] at hj
        rw [← Option.some.inj hj]
        exact h.1
      | succ j =>
        rw [List.getElem?_cons_succ] at hj
        exact blk1 l q h.2 (fun x hx => hw x (by simp [hx])) j k y z hj hk (by omega) hz
theorem blk : ∀ (q : List Op) (l : Int) (o : Op), o.v = l → rdOk l q → q.Pairwise (fun a b => a.w = true → b.w = true → a.v ≠ b.v) → (∀ x ∈ q, x.w = true → x.v ≠ l) → ∀ (i j k : Nat) (x y z : Op), (o :: q)[i]? = some x → (o :: q)[j]? = some y → (o :: q)[k]? = some z → i < j → j < k → x.v = z.v → y.v = x.v
  | [], _, _, _, _, _, _, i, j, k, _, y, _, _, hj, _, h1, h2, _ => by
    obtain ⟨j, rfl⟩ : ∃ j', j = j' + 1 := ⟨j - 1, by omega⟩
    cases hj
  | a :: q, l, o, ho, h, hp, hw, i, j, k, x, y, z, hi, hj, hk, h1, h2, hxz => by
    obtain ⟨j, rfl⟩ : ∃ j', j = j' + 1 := ⟨j - 1, by omega⟩
    obtain ⟨k, rfl⟩ : ∃ k', k = k' + 1 := ⟨k - 1, by omega⟩
    rw [List.getElem?_cons_succ] at hj hk
    cases i with
    | zero =>
      rw [List.getElem?_cons_zero] at hi
      have := Option.some.inj hi
      subst this
      rw [ho] at hxz ⊢
      exact blk1 l (a :: q) h hw j k y z hj hk (by omega) hxz.symm
    | succ i =>
      rw [List.getElem?_cons_succ] at hi
      rw [rdOk] at h
      have hp' := List.pairwise_cons.mp hp
      refine blk q a.v a rfl ?_ hp'.2 ?_ i j k x y z hi hj hk (by omega) (by omega) hxz
      · cases w : a.w with
        | true => rw [w, if_pos rfl] at h; exact h
        | false => rw [w, if_neg (by simp)] at h; rw [h.1]; exact h.2
      · intro u hu huw
        cases w : a.w with
        | true => exact fun e => hp'.1 u hu w huw e.symm
        | false => rw [w, if_neg (by simp)] at h; rw [h.1]; exact hw u (by simp [hu]) huw
theorem lastL_mem : ∀ (l : Int) (p : List Op), lastL l p = l ∨ ∃ x ∈ p, x.w = true ∧ x.v = lastL l p
  | l, [] => .inl rfl
  | l, a :: p => by
    have e : lastL l (a :: p) = lastL (if a.w = true then a.v else l) p := rfl
    rw [e]
    rcases lastL_mem (if a.w = true then a.v else l) p with h | ⟨x, h1, h2, h3⟩
    · rw [h]
      by_cases w : a.w = true
      · rw [if_pos w]; exact .inr ⟨a, by simp, w, rfl⟩
      · rw [if_neg w]; exact .inl rfl
    · exact .inr ⟨x, by simp [h1], h2, h3⟩
theorem no_paper {st q : List Op} (hv : Valid st) (hq : q.Perm st) (ok : SeqOk q) : (∀ x ∈ st, ¬ Early st x) ∧ ∀ a b, isVal st a → isVal st b → a ≠ b → ¬ Cyc st a b := by
  have hm : ∀ x, x ∈ q ↔ x ∈ st := fun x => hq.mem_iff
  constructor
  · rintro x hx ⟨e1, e2, e3⟩
    obtain ⟨i, hi, ex⟩ := List.getElem_of_mem ((hm x).mpr hx)
    have r := (rdOk_iff q).mp ok.rd i hi
    rw [ex, e1] at r
    rcases r with r | r
    · cases r
    rcases lastL_mem 0 (q.take i) with h | ⟨y, h1, h2, h3⟩
    · omega
    · obtain ⟨j, hj, ey⟩ := List.mem_take_iff_getElem.mp h1
      have := (List.pairwise_iff_getElem.mp ok.ord) j i (by omega) hi (by omega)
      rw [ey, ex] at this
      exact this (e3 y ((hm y).mp (List.mem_of_mem_take h1)) h2 (h3.trans r.symm))
  · rintro a b ha hb hab ⟨c1, c2⟩
    have ord' : (st0 :: q).Pairwise fun a b => ¬ b.e < a.s := List.pairwise_cons.mpr ⟨fun y hy => by
      have := (hv.rng y ((hm y).mp hy)).2.2
      show ¬ y.e < -2
      omega, ok.ord⟩
    have wr : q.Pairwise (fun a b => a.w = true → b.w = true → a.v ≠ b.v) := by
      have h0 := (hq.filter Op.w).map Op.v |>.nodup_iff.mpr hv.wrt
      exact List.pairwise_filter.mp (List.pairwise_map.mp h0)
    have w0 : ∀ x ∈ q, x.w = true → x.v ≠ 0 := fun x hx hw => by
      have := (hv.rng x ((hm x).mp hx)).1
      rw [hw, if_pos rfl] at this
      omega
    have B := blk q 0 st0 rfl ok.rd wr w0
    have mem' : ∀ {x : Op}, x ∈ st ++ [st0] → ∃ i, (st0 :: q)[i]? = some x := fun {x} hx => by
      have : x ∈ st0 :: q := by
        rcases List.mem_append.mp hx with h | h
        · exact List.mem_cons_of_mem _ ((hm x).mpr h)
        · rw [List.mem_singleton.mp h]; simp
      exact List.mem_iff_getElem?.mp this
    have before : ∀ {x y : Op} {i j : Nat}, (st0 :: q)[i]? = some x → (st0 :: q)[j]? = some y → x.v ≠ y.v → x.e < y.s → i < j := fun {x y i j} hi hj hne hlt => by
      rcases Nat.lt_trichotomy i j with c | c | c
      · exact c
      · subst c
        rw [hi] at hj
        exact absurd (by rw [Option.some.inj hj]) hne
      · obtain ⟨li, ei⟩ := List.getElem?_eq_some_iff.mp hi
        obtain ⟨lj, ej⟩ := List.getElem?_eq_some_iff.mp hj
        have := (List.pairwise_iff_getElem.mp ord') j i lj li c
        rw [ei, ej] at this
        exact absurd hlt this
    obtain ⟨p, p1, p2, p3⟩ := zf_mem ha
    obtain ⟨r, r1, r2, r3⟩ := zs_mem hb
    obtain ⟨u, u1, u2, u3⟩ := zf_mem hb
    obtain ⟨t, t1, t2, t3⟩ := zs_mem ha
    obtain ⟨ip, hp⟩ := mem' p1
    obtain ⟨ir, hr⟩ := mem' r1
    obtain ⟨iu, hu⟩ := mem' u1
    obtain ⟨it, ht⟩ := mem' t1
    have l1 := before hp hr (by rw [p2, r2]; exact hab) (by omega)
    have l2 := before hu ht (by rw [u2, t2]; exact fun e => hab e.symm) (by omega)
    have ne : ip ≠ iu := fun e => by
      subst e
      rw [hp] at hu
      have := Option.some.inj hu
      rw [← this, p2] at u2
      exact hab u2
    rcases Nat.lt_or_gt_of_ne ne with c | c
    · have := B ip iu it p u t hp hu ht c l2 (by rw [p2, t2])
      rw [u2, p2] at this
      exact hab this.symm
    · have := B iu ip ir u p r hu hp hr c l1 (by rw [u2, r2])
      rw [u2, p2] at this
      exact hab this
def lo (st : List Op) (v : Int) : Int := if zf st v ≤ zs st v then zf st v else zs st v
def cl (st : List Op) (v : Int) : List Op := (st.filter fun o => o.w && decide (o.v = v)) ++ st.filter fun o => !o.w && decide (o.v = v)
theorem mem_cl {st : List Op} {v : Int} {x : Op} : x ∈ cl st v ↔ x ∈ st ∧ x.v = v := by
  unfold cl
  simp only [List.mem_append, List.mem_filter, Bool.and_eq_true, decide_eq_true_eq, Bool.not_eq_true']
  constructor
  · rintro (⟨h1, _, h2⟩ | ⟨h1, _, h2⟩)
    · exact ⟨h1, h2⟩
    · exact ⟨h1, h2⟩
  · rintro ⟨h1, h2⟩
    cases w : x.w with
    | true => exact .inl ⟨h1, rfl, h2⟩
    | false => exact .inr ⟨h1, rfl, h2⟩
theorem asc_ord {st : List Op} (hv : Valid st) (p : Op → Bool) : (st.filter p).Pairwise fun a b => ¬ b.e < a.s := by
  refine List.Pairwise.imp_of_mem (fun {a b} ha hb hab => ?_) (hv.asc.filter p)
  have := hv.spans b (List.mem_filter.mp hb).1
  omega
theorem se_ne {st : List Op} (hv : Valid st) {x y : Op} (hx : x ∈ st) (hy : y ∈ st) : x.s ≠ y.e := (List.nodup_append.mp hv.tms).2.2 _ (List.mem_map.mpr ⟨x, hx, rfl⟩) _ (List.mem_map.mpr ⟨y, hy, rfl⟩)
theorem in_st {st : List Op} {x : Op} (h : x ∈ st ++ [st0]) (hv : x.v ≠ 0) : x ∈ st := by
  rcases List.mem_append.mp h with h | h
  · exact h
  · rw [List.mem_singleton.mp h] at hv
    exact absurd rfl hv
theorem cl_rd {st : List Op} {v : Int} (hw : ∃ x ∈ st, x.w = true ∧ x.v = v) (l : Int) : rdOk l (cl st v) ∧ lastL l (cl st v) = v := by
  have ws : ∀ (ys : List Op) (l : Int), (∀ y ∈ ys, y.w = true ∧ y.v = v) → rdOk l ys ∧ (ys ≠ [] → lastL l ys = v) := fun ys => by
    induction ys with
    | nil => intro l _; exact ⟨trivial, fun h => absurd rfl h⟩
    | cons y ys ih =>
      intro l h
      obtain ⟨y1, y2⟩ := h y (by simp)
      have i := ih v fun z hz => h z (by simp [hz])
      have e : lastL l (y :: ys) = lastL (if y.w = true then y.v else l) ys := rfl
      rw [rdOk, e, y1, if_pos rfl, if_pos rfl, y2]
      refine ⟨i.1, fun _ => ?_⟩
      by_cases c : ys = []
      · rw [c]; rfl
      · exact i.2 c
  have rs : ∀ (ys : List Op), (∀ y ∈ ys, y.w = false ∧ y.v = v) → rdOk v ys ∧ lastL v ys = v := fun ys => by
    induction ys with
    | nil => intro _; exact ⟨trivial, rfl⟩
    | cons y ys ih =>
      intro h
      obtain ⟨y1, y2⟩ := h y (by simp)
      have i := ih fun z hz => h z (by simp [hz])
      have e : lastL v (y :: ys) = lastL (if y.w = true then y.v else v) ys := rfl
      rw [rdOk, e, y1, if_neg (by simp), if_neg (by simp)]
      exact ⟨⟨y2, i.1⟩, i.2⟩
  have hW : ∀ y ∈ st.filter (fun o => o.w && decide (o.v = v)), y.w = true ∧ y.v = v := fun y hy => by simpa using (List.mem_filter.mp hy).2
  have hR : ∀ y ∈ st.filter (fun o => !o.w && decide (o.v = v)), y.w = false ∧ y.v = v := fun y hy => by simpa using (List.mem_filter.mp hy).2
  have ne : st.filter (fun o => o.w && decide (o.v = v)) ≠ [] := by
    obtain ⟨x, h1, h2, h3⟩ := hw
    exact List.ne_nil_of_mem (a := x) (List.mem_filter.mpr ⟨h1, by simp [h2, h3]⟩)
  have a := ws _ l hW
  have b := rs _ hR
  have la := a.2 ne
  refine ⟨(rdOk_append _ _ _).mpr ⟨a.1, by rw [la]; exact b.1⟩, ?_⟩
  show lastL l (_ ++ _) = v
  unfold lastL
  rw [List.foldl_append]
  show lastL (lastL l _) _ = v
  rw [la]
  exact b.2
theorem explained {st : List Op} (hv : Valid st) (he : ∀ x ∈ st, ¬ Early st x) (hc : ∀ a b, isVal st a → isVal st b → a ≠ b → ¬ Cyc st a b) : ∃ q : List Op, q.Perm st ∧ SeqOk q := by
  let W := ((st.filter Op.w).map Op.v).mergeSort fun a b => decide (lo st a ≤ lo st b)
  have pW : W.Perm ((st.filter Op.w).map Op.v) := List.mergeSort_perm _ _
  have mW : ∀ v, v ∈ W ↔ ∃ x ∈ st, x.w = true ∧ x.v = v := fun v => by
    rw [pW.mem_iff, List.mem_map]
    constructor
    · rintro ⟨x, h, e⟩
      obtain ⟨h1, h2⟩ := List.mem_filter.mp h
      exact ⟨x, h1, h2, e⟩
    · rintro ⟨x, h1, h2, e⟩
      exact ⟨x, List.mem_filter.mpr ⟨h1, h2⟩, e⟩
  have nW : W.Nodup := pW.nodup_iff.mpr hv.wrt
  have pos : ∀ v, v ∈ W → 1 ≤ v := fun v h => by
    obtain ⟨x, h1, h2, e⟩ := (mW v).mp h
    have := (hv.rng x h1).1
    rw [h2, if_pos rfl] at this
    omega
  have so : W.Pairwise fun a b => lo st a ≤ lo st b := (List.pairwise_mergeSort (le := fun a b => decide (lo st a ≤ lo st b)) (fun a b c => by simp only [decide_eq_true_eq]; omega) (fun a b => by simp only [Bool.or_eq_true, decide_eq_true_eq]; omega) _).imp fun h => of_decide_eq_true h
  have read0 : ∀ x ∈ st, x.v = 0 → x.w = false := fun x hx h0 => by
    cases w : x.w with
    | false => rfl
    | true =>
      have := (hv.rng x hx).1
      rw [w, if_pos rfl] at this
      omega
  have inW : ∀ x ∈ st, x.v ≠ 0 → x.v ∈ W := fun x hx h0 => by
    refine (mW _).mpr ?_
    cases w : x.w with
    | true => exact ⟨x, hx, w, rfl⟩
    | false =>
      refine Classical.byContradiction fun hn => he x hx ⟨w, ?_, fun y hy hyw hyv => absurd ⟨y, hy, hyw, hyv⟩ hn⟩
      have := (hv.v9 x hx).1
      omega
  have across : ∀ a b, a ∈ W → b ∈ W → a ≠ b → lo st a ≤ lo st b → ∀ x ∈ cl st a, ∀ y ∈ cl st b, ¬ y.e < x.s := fun a b ha hb hab hlo x hx y hy hlt => by
    obtain ⟨x1, x2⟩ := mem_cl.mp hx
    obtain ⟨y1, y2⟩ := mem_cl.mp hy
    have va : isVal st a := .inr ((mW a).mp ha)
    have vb : isVal st b := .inr ((mW b).mp hb)
    have f1 := zf_le (st := st) (x := y) (by simp [y1])
    have f2 := zs_ge (st := st) (x := x) (by simp [x1])
    rw [y2] at f1
    rw [x2] at f2
    have hn := hc a b va vb hab
    have h1 : ¬ zf st a < zs st b := fun z => hn ⟨z, by omega⟩
    obtain ⟨u, u1, u2, u3⟩ := zs_mem vb
    obtain ⟨t, t1, t2, t3⟩ := zf_mem va
    have := pos a ha
    have := pos b hb
    have hne := se_ne hv (in_st u1 (by omega)) (in_st t1 (by omega))
    unfold lo at hlo
    split at hlo <;> split at hlo <;> omega
  refine ⟨(st.filter fun o => decide (o.v = 0)) ++ W.flatMap (cl st), ?_, ?_, ?_⟩
  · refine (List.perm_ext_iff_of_nodup ?_ hv.nodup).mpr fun x => ?_
    · refine List.nodup_append.mpr ⟨hv.nodup.filter _, ?_, fun x hx y hy e => ?_⟩
      · refine List.pairwise_flatMap.mpr ⟨fun v _ => ?_, nW.imp fun {a b} hab x hx y hy e => ?_⟩
        · unfold cl
          refine List.nodup_append.mpr ⟨hv.nodup.filter _, hv.nodup.filter _, fun x hx y hy e => ?_⟩
          have h1 := (List.mem_filter.mp hx).2
          have h2 := (List.mem_filter.mp hy).2
          rw [e] at h1
          simp only [Bool.and_eq_true, Bool.not_eq_true'] at h1 h2
          rw [h1.1] at h2
          exact absurd h2.1 (by simp)
        · have h1 := (mem_cl.mp hx).2
          have h2 := (mem_cl.mp hy).2
          rw [e] at h1
          exact hab (h1.symm.trans h2)
      · have h1 := of_decide_eq_true (List.mem_filter.mp hx).2
        obtain ⟨v, hv1, hv2⟩ := List.mem_flatMap.mp hy
        have h2 := (mem_cl.mp hv2).2
        rw [← e, h1] at h2
        have := pos v hv1
        omega
    · rw [List.mem_append, List.mem_filter, decide_eq_true_iff, List.mem_flatMap]
      constructor
      · rintro (⟨h, _⟩ | ⟨v, _, h⟩)
        · exact h
        · exact (mem_cl.mp h).1
      · intro h
        by_cases c : x.v = 0
        · exact .inl ⟨h, c⟩
        · exact .inr ⟨x.v, inW x h c, mem_cl.mpr ⟨h, rfl⟩⟩
  · refine List.pairwise_append.mpr ⟨asc_ord hv _, List.pairwise_flatMap.mpr ⟨fun v hvW => ?_, ?_⟩, fun x hx y hy hlt => ?_⟩
    · unfold cl
      refine List.pairwise_append.mpr ⟨asc_ord hv _, asc_ord hv _, fun x hx y hy hlt => ?_⟩
      obtain ⟨x1, x2⟩ := List.mem_filter.mp hx
      obtain ⟨y1, y2⟩ := List.mem_filter.mp hy
      simp only [Bool.and_eq_true, decide_eq_true_eq, Bool.not_eq_true'] at x2 y2
      refine he y y1 ⟨y2.1, by have := pos v hvW; omega, fun z hz hzw hzv => ?_⟩
      have e : z = x := by
        refine Classical.byContradiction fun hne => ?_
        obtain ⟨i, hi, ei⟩ := List.getElem_of_mem hz
        obtain ⟨j, hj, ej⟩ := List.getElem_of_mem x1
        have oi : op st i = z := by have := op_some hi; rw [List.getElem?_eq_getElem hi, ei] at this; exact (Option.some.inj this).symm
        have oj : op st j = x := by have := op_some hj; rw [List.getElem?_eq_getElem hj, ej] at this; exact (Option.some.inj this).symm
        have := hv.wne hi hj (fun z => by subst z; exact hne (oi.symm.trans oj)) (by rw [oi]; exact hzw) (by rw [oj]; exact x2.1)
        rw [oi, oj] at this
        exact this (by rw [hzv, y2.2, x2.2])
      rw [e]
      exact hlt
    · refine List.Pairwise.imp_of_mem (fun {a b} ha hb hab => ?_) (so.and nW)
      exact across a b ha hb hab.2 hab.1
    · obtain ⟨x1, x2⟩ := List.mem_filter.mp hx
      have x2 := of_decide_eq_true x2
      obtain ⟨v, hv1, hv2⟩ := List.mem_flatMap.mp hy
      obtain ⟨y1, y2⟩ := mem_cl.mp hv2
      have pv := pos v hv1
      refine hc v 0 (.inr ((mW v).mp hv1)) (.inl rfl) (by omega) ⟨?_, ?_⟩
      · have f1 := zf_le (st := st) (x := y) (by simp [y1])
        have f2 := zs_ge (st := st) (x := x) (by simp [x1])
        rw [y2] at f1
        rw [x2] at f2
        omega
      · have f1 := zf_le (st := st) (x := st0) (by simp)
        have f2 := zs_ge (st := st) (x := y) (by simp [y1])
        rw [y2] at f2
        have f1 : zf st 0 ≤ -1 := f1
        have := (hv.rng y y1).2.2.1
        omega
  · refine (rdOk_append _ _ _).mpr ⟨?_, ?_⟩
    all_goals
      have z : ∀ (ys : List Op), (∀ y ∈ ys, y.w = false ∧ y.v = 0) → rdOk 0 ys ∧ lastL 0 ys = 0 := fun ys => by
        induction ys with
        | nil => intro _; exact ⟨trivial, rfl⟩
        | cons y ys ih =>
          intro h
          obtain ⟨y1, y2⟩ := h y (by simp)
          have i := ih fun z hz => h z (by simp [hz])
          have e : lastL 0 (y :: ys) = lastL (if y.w = true then y.v else 0) ys := rfl
          rw [rdOk, e, y1, if_neg (by simp), if_neg (by simp)]
          exact ⟨⟨y2, i.1⟩, i.2⟩
      have z0 := z (st.filter fun o => decide (o.v = 0)) fun y hy => by
        obtain ⟨y1, y2⟩ := List.mem_filter.mp hy
        have y2 := of_decide_eq_true y2
        exact ⟨read0 y y1 y2, y2⟩
    · exact z0.1
    · rw [z0.2]
      have key : ∀ (L : List Int) (l : Int), (∀ v ∈ L, ∃ x ∈ st, x.w = true ∧ x.v = v) → rdOk l (L.flatMap (cl st)) := fun L => by
        induction L with
        | nil => intro l _; trivial
        | cons v L ih =>
          intro l h
          rw [List.flatMap_cons]
          have c := cl_rd (h v (by simp)) l
          exact (rdOk_append _ _ _).mpr ⟨c.1, by rw [c.2]; exact ih v fun u hu => h u (by simp [hu])⟩
      exact key W 0 fun v hv => (mW v).mp hv
theorem paper_iff {st : List Op} (hv : Valid st) : expl st ≠ [] ↔ (∀ x ∈ st, ¬ Early st x) ∧ ∀ a b, isVal st a → isVal st b → a ≠ b → ¬ Cyc st a b := by
  rw [can_iff hv]
  constructor
  · rintro ⟨q, hq, ok⟩
    exact no_paper hv hq ok
  · rintro ⟨h1, h2⟩
    exact explained hv h1 h2
end CP
namespace CPS
open PySem PySem.W PyProof.Rows PySem.Calls
section
variable {prog : Program} {w : World} {A : Around} {E : Value → Shared → Prop} {s : Shared}
theorem sorted_col {R : Value → PyData → Prop} {it : Addr} {vs : List Value} {ds : List PyData} {Q : Value → Shared → Prop} (hh : A.handled = none)
    (hcol : ∀ (A' : Around) (E' : Value → Shared → Prop) (Q' : List Value → Shared → Prop), A'.handled = none → (∀ h1 tk, (∀ b o, s.heap.get? b = some o → h1.get? b = some o) → Q' vs { s with heap := h1, toks := tk }) → wpAny (model prog w) A' (collect (.ref it)) Q' E' s)
    (e : EachIs R vs ds) (er : EachIs (fun v b => ∃ as, Reads s.heap v b as) vs ds) (hal : AllAlike ds) (hk : Sortable ds) (hL : ds.length ≤ sizeLine) (hu : ∀ b, b ∈ ds → A.units + 2 + b.depth < cLine)
    (h : ∀ (out : List Value) (h1 h' : Heap) (tk m : Nat), out.length = ds.length → EachIs R out (ds.mergeSort (dataLe false id)) → (∀ b o, s.heap.get? b = some o → h1.get? b = some o) → (∀ b o, h1.get? b = some o → h'.get? b = some o) → h'.get? h1.objs.size = some (seqObj "list" out.toArray m) → Q (.ref h1.objs.size) { s with heap := h', toks := tk }) :
    wpAny (model prog w) A (call (.builtin "sorted") [.ref it]) Q E s := by
  have hvl : vs.length = ds.length := e.length
  refine call_function_entry_kw kind_sorted plain_sorted entry_sorted (args_sorted1 _) ?_
  unfold Builtin.«sorted»
  refine wpAny_bind (m := checkCount "sorted" 1 1 _) (wpAny_pure ?_)
  refine wpAny_bind (hcol _ _ _ (by simp [hh]) fun h1 tk k1 => ?_)
  refine wpAny_bind (wpAny_newList ?_ (by rw [hvl]; exact hL))
  have hat : (h1.push (seqObj "list" vs.toArray 0)).get? h1.objs.size = some (seqObj "list" vs.toArray 0) := Heap.get?_push_size _ rfl
  have k2 : ∀ b o, s.heap.get? b = some o → (h1.push (seqObj "list" vs.toArray 0)).get? b = some o := fun b o q => Heap.get?_push_of_some _ (k1 b o q)
  have ne : ∀ b o, s.heap.get? b = some o → b ≠ h1.objs.size := fun b o q => Nat.ne_of_lt (Heap.lt_size (k1 b o q))
  refine wpAny_bind (wpAny_holding (wpAny_call_entry_kw slot_list_sort ⟨_, hat, rfl⟩ entry_list_sort ?body (args_list_sort _)))
  case body =>
    have er' : EachIs (fun v b => ∃ as, Reads (sortingHeap (h1.push (seqObj "list" vs.toArray 0)) h1.objs.size vs) v b as) vs ds := er.mono fun _ _ ⟨as, r⟩ => ⟨as, PyProof.Rows.Reads.keeps (fun b o q => sortingHeap_old (ne b o q) (k2 b o q)) r⟩
    refine wpAny_mono (list_sort_vals (s := { s with heap := h1.push (seqObj "list" vs.toArray 0), toks := tk }) (κ := dataKind (sortingHeap (h1.push (seqObj "list" vs.toArray 0)) h1.objs.size vs) ds) hat (SortsAt.data (s := { s with heap := sortingHeap (h1.push (seqObj "list" vs.toArray 0)) h1.objs.size vs, toks := tk }) er' hal hk hu) (by rw [hvl]; exact hL)
      (P := fun f s' => f = .done (.ret .none) ∧ s' = { s with heap := sortedHeap (h1.push (seqObj "list" vs.toArray 0)) h1.objs.size vs (sortVals (dataKind (sortingHeap (h1.push (seqObj "list" vs.toArray 0)) h1.objs.size vs) ds) false vs vs).toArray, toks := tk }) ⟨rfl, rfl⟩) (fun f s' hf => ?_) fun _ _ e => e
    obtain ⟨rfl, rfl⟩ := hf
    refine ⟨_, rfl, wpAny_pure ⟨_, rfl, ?_⟩⟩
    obtain ⟨m, he⟩ := PyProof.Rows.sortedHeap_at (vs := vs) (out := (sortVals (dataKind (sortingHeap (h1.push (seqObj "list" vs.toArray 0)) h1.objs.size vs) ds) false vs vs).toArray) hat
    have er2 : EachIs (fun v b => ∃ as, Reads (sortingHeap (h1.push (seqObj "list" vs.toArray 0)) h1.objs.size vs) v (id b) as) vs ds := er'
    have out := sortVals_data (R := R) (enc := id) false e er2 (by rw [List.map_id]; exact hal)
    rw [List.map_id] at out
    refine h _ h1 _ tk m (by rw [sortVals_length false rfl]; exact hvl) out k1 (fun b o q => ?_) he
    rw [PyProof.Rows.sortedHeap_old (Nat.ne_of_lt (Heap.lt_size q)) (Heap.lt_size (Heap.get?_push_of_some (seqObj "list" vs.toArray 0) q))]
    exact Heap.get?_push_of_some _ q
end
end CPS
namespace CP
open PySem PySem.Spec PyProof.Rows L2
def oneM (kvs : List (List Int × PyData)) : List PyData := kvs.map fun p => .tuple (p.1.map .int)
def eSortM (i : Nat) : FE := fun ρ => match ρ[i]? with
  | some (some (.m kvs)) => if kvs.length ≤ LIM ∧ TZ = false then sortD (.list (oneM kvs)) else .bad
  | _ => .bad
def tNotInM (i : Nat) (fk : FE) : EV → R Bool := fun ρ => match ρ[i]? with
  | some (some (.m kvs)) => (fk ρ).bind fun kd => match keyOf kd with
    | some k => .ok (valM kvs k).isNone
    | none => .bad
  | _ => .bad
section
variable {X : Cx} {B : Bs} {W : WX} {s sa sb : Bool} {a b e : Expr} {fa fb f : FE} {pos : Pos}
theorem t_notInM (i : Nat) {x : Str} {p : Pos} {k : Nat} {key : Expr} {fk : FE} (hr : Room k X.A) (hk : PE X key (kF (cx X B) W fk)) (hN : X.N[i]? = some x := by rfl) (hvi : Vis X.env.scope x := by first | exact Or.inl rfl | exact Or.inr (Or.inl rfl) | exact Or.inr (Or.inr rfl)) (hd : (x == ("__debug__" : Str)) = false := by decide) (hcd : (x == ("__classdict__" : Str)) = false := by decide)
    (hb : behindInMarks .NotIn (.Name x p) = false := by rfl) : PT X (.Compare key [.NotIn] [.Name x p] pos) (tF (cx X B) W (tNotInM i fk)) := by
  refine (pt_cmp (pc_dnotin (hu_of hr) hk (pe_var hN hvi hd hcd)) hb).weak fun σ H Q ⟨ρ, H0, rp, h⟩ => ?_
  unfold tNotInM at h
  cases q : ρ[i]? with
  | none => rw [q] at h; exact h.elim
  | some o =>
    cases o with
    | none => rw [q] at h; exact h.elim
    | some sv =>
      cases sv with
      | d _ => rw [q] at h; exact h.elim
      | l _ => rw [q] at h; exact h.elim
      | x _ => rw [q] at h; exact h.elim
      | r _ _ => rw [q] at h; exact h.elim
      | v _ _ => rw [q] at h; exact h.elim
      | m kvs =>
        rw [q] at h
        simp only at h
        refine ⟨ρ, H0, rp, ?_⟩
        cases ck : fk ρ with
        | bad => rw [ck] at h; exact h
        | exc c' => rw [ck] at h; exact h
        | ok kd =>
          rw [ck] at h
          intro y H2 H02 g2 w2
          simp only [R.bind_ok] at h
          cases co : keyOf kd with
          | none => rw [co] at h; exact h.elim
          | some k =>
            rw [co] at h
            simp only at h
            obtain ⟨b, rfl, hb⟩ := w2 k co
            obtain ⟨u, hs, pp, ws, rfl, k1, k2, k3, k4⟩ := (rp.grow g2).at_ i _ q
            refine ⟨.ref pp, hs, pp, _, rfl, DGet.t k1 hb, _, rfl, ?_⟩
            have e : (valV ws (k.map Sum.inl)).isSome = (valM kvs k).isSome := by
              rcases KeyD.val k4 k with ⟨n1, n2⟩ | ⟨d, v, e1, e2, e3⟩
              · rw [n1, n2]; rfl
              · rw [e1, e2]; rfl
            have e2 : (!(valV ws (k.map Sum.inl)).isSome) = (valM kvs k).isNone := by rw [e]; cases valM kvs k <;> rfl
            rw [e2]
            exact h H2 H02 g2
end
end CP
namespace CP
open PySem L2
section
variable {C : PX} {σ : St} {H H0 H1 H01 : Hp} {ρ : EV}
theorem Rep.mutA (r : Rep C σ H H0 ρ) {i : Nat} {si sv : SV} {v : V} {b : Addr} {o : HO} (hi : ρ[i]? = some (some si)) (hs : σ[i]? = some (some v)) (ho : Own H v si b) (h0 : H0 b = none) (hb : C.B.h b = none) (hv : SVRep C (upd H b o) H0 v sv)
    (hso : ∀ a, Own (upd H b o) v sv a → Own H v si a) : Rep C σ (upd H b o) H0 (ρ.set i (some sv)) := by
  have hl := r.len
  have hlt : i < ρ.length := (List.getElem?_eq_some_iff.mp hi).1
  have at' : ∀ (j : Nat) sj, (ρ.set i (some sv))[j]? = some (some sj) → (j = i ∧ sj = sv) ∨ (i ≠ j ∧ ρ[j]? = some (some sj)) := fun j sj e => by
    by_cases hj : i = j
    · subst hj
      rw [List.getElem?_set_self hlt] at e
      cases e
      exact .inl ⟨rfl, rfl⟩
    · rw [List.getElem?_set_ne hj] at e
      exact .inr ⟨hj, e⟩
  have far : ∀ (m : Nat) (sm : SV) (x : V), i ≠ m → ρ[m]? = some (some sm) → σ[m]? = some (some x) → ∀ a, Own H x sm a → a ≠ b := fun m sm x hm em ex a oa z => hm (r.sep i m si sm v x b hi em hs ex ho (z ▸ oa))
  refine ⟨⟨fun a u q => ?_, r.bas.z, fun a u q => ?_, r.bas.f⟩, by rw [List.length_set]; exact r.len, fun j sj e => ?_, fun j k sj sk u w a e1 e2 e3 e4 o1 o2 => ?_⟩
  · rw [upd_ne (ne_of_none q hb)]; exact r.bas.a a u q
  · rw [upd_ne (ne_of_none q h0)]; exact r.bas.i a u q
  · rcases at' j sj e with ⟨rfl, rfl⟩ | ⟨hj, e⟩
    · exact ⟨_, hs, hv⟩
    · obtain ⟨u, h1, h2⟩ := r.at_ j sj e
      refine ⟨u, h1, ?_⟩
      have nq := far j sj u hj e h1
      cases sj with
      | d x => exact h2
      | x c => exact h2
      | v ss kk => exact h2
      | l ds =>
        obtain ⟨q, xs, rfl, k1, k2⟩ := h2
        exact ⟨q, xs, rfl, by rw [upd_ne (nq q rfl)]; exact k1, k2⟩
      | m kvs =>
        obtain ⟨q, xs, rfl, k1, k2⟩ := h2
        exact ⟨q, xs, rfl, by rw [upd_ne (nq q rfl)]; exact k1, k2⟩
      | r ss kk =>
        obtain ⟨q, c, dx, fs, q2, xs, rfl, k1, km, kz, kf1, kf2, kf3, kq, k2⟩ := h2
        exact ⟨q, c, dx, fs, q2, xs, rfl, by rw [upd_ne (nq q (.inl rfl))]; exact k1, km, kz, kf1, kf2, kf3, by rw [upd_ne (nq q2 (.inr ⟨_, _, _, _, rfl, k1, kf1⟩))]; exact kq, k2⟩
  · have kp : ∀ (m : Nat) (sm : SV) (x : V) (hm : i ≠ m) (em : ρ[m]? = some (some sm)) (ex : σ[m]? = some (some x)) (om : sm.own = true), ∀ a ob, x = .ref a → H a = some ob → upd H b o a = some ob := fun m sm x hm em ex om a ob e5 e6 => by
      rw [upd_ne (far m sm x hm em ex a (Own.self om e5))]; exact e6
    rcases at' j sj e1 with ⟨ej, es⟩ | ⟨hj, e1'⟩
    · rcases at' k sk e2 with ⟨ek, _⟩ | ⟨hk, e2'⟩
      · rw [ej, ek]
      · rw [ej, hs] at e3
        cases e3
        subst es
        rw [ej]
        exact r.sep i k si sk _ w a hi e2' hs e4 (hso a o1) (o2.back (r.at1 e2' e4) (kp k sk w hk e2' e4 o2.own))
    · rcases at' k sk e2 with ⟨ek, es⟩ | ⟨hk, e2'⟩
      · rw [ek, hs] at e4
        cases e4
        subst es
        rw [ek]
        exact r.sep j i sj si u _ a e1' hi e3 hs (o1.back (r.at1 e1' e3) (kp j sj u hj e1' e3 o1.own)) (hso a o2)
      · exact r.sepB e1' e2' e3 e4 (kp j sj u hj e1' e3 o1.own) (kp k sk w hk e2' e4 o2.own) o1 o2
theorem Rep.mutR (r : Rep C σ H H0 ρ) {i : Nat} {ss ss' : List PyData} {k : Int} {p c dx q : Addr} {fs : List (Str × V)} {ys : List V} (hi : ρ[i]? = some (some (.r ss k))) (hs : σ[i]? = some (some (.ref p))) (hp : H p = some (.ins c dx fs)) (hf : fs.lookup ("steps" : Str) = some (V.ref q))
    (hl : ss'.length ≤ LIM) (hd : DqAll C.K H0 ys ss') : Rep C σ (upd H q (.lst ys)) H0 (ρ.set i (some (.r ss' k))) := by
  obtain ⟨p', c', dx', fs', q', xs, e1, k1, km, kz, kf1, kf2, kf3, kq, k2, k2q, k3, k3q, k4, k5⟩ := r.at1 hi hs
  cases e1
  rw [hp] at k1
  cases k1
  rw [hf] at kf1
  cases kf1
  have n : p ≠ q := fun z => by rw [z, kq] at hp; cases hp
  refine r.mutA hi hs (.inr ⟨p, c, dx, fs, rfl, hp, hf⟩) k2q k3q ⟨p, c, dx, fs, q, ys, rfl, by rw [upd_ne n]; exact hp, km, kz, hf, kf2, kf3, upd_same, k2, k2q, k3, k3q, hl, hd⟩ fun a oa => ?_
  rcases oa with oa | ⟨p', c', dx', fs', e1, e2, e3⟩
  · exact .inl oa
  · cases e1
    rw [upd_ne n] at e2
    exact .inr ⟨_, _, _, _, rfl, e2, e3⟩
end
section
variable {pr : Bool} {X : Cx} {B : Bs} {W : WX} {s sa sb : Bool} {a b e : Expr} {fa fb f : FE} {pos : Pos}
structure RecC (X : Cx) (c : Addr) : Prop where
  mg : X.mg "Recorder" = some (.ref c)
  cl : Cls X.K c
  st : NoAttr X.K c "steps"
  kp : NoAttr X.K c "kept"
def eSt (i : Nat) : FE := fun ρ => match ρ[i]? with
  | some (some (.r ss _)) => .ok (.list ss)
  | some (some (.v ss _)) => .ok (.list ss)
  | _ => .bad
def eKp (i : Nat) : FE := fun ρ => match ρ[i]? with
  | some (some (.r _ k)) => .ok (.int k)
  | _ => .bad
theorem slot_r {C : PX} {σ : St} {H H0 : Hp} {ρ : EV} {i : Nat} {ss : List PyData} {k : Int} {c : Addr} (rp : Rep C σ H H0 ρ) (q : ρ[i]? = some (some (.r ss k))) (hm : C.mg "Recorder" = some (.ref c)) :
    ∃ p dx fs qq xs, σ[i]? = some (some (.ref p)) ∧ H p = some (.ins c dx fs) ∧ fs.lookup ("steps" : Str) = some (V.ref qq) ∧ fs.lookup ("kept" : Str) = some (V.int k) ∧ Few fs ∧ H qq = some (.lst xs) ∧ H0 qq = none ∧ ss.length ≤ LIM ∧ DqAll C.K H0 xs ss := by
  obtain ⟨v, hs, p, c', dx, fs, qq, xs, rfl, k1, km, kz, kf1, kf2, kf3, kq, k2, k2q, k3, k3q, k4, k5⟩ := rp.at_ i _ q
  rw [hm] at km
  cases km
  exact ⟨p, dx, fs, qq, xs, hs, k1, kf1, kf2, kf3, kq, k2q, k4, k5⟩
theorem slot_v {C : PX} {σ : St} {H H0 : Hp} {ρ : EV} {i : Nat} {ss : List PyData} {k : Int} {c : Addr} (rp : Rep C σ H H0 ρ) (q : ρ[i]? = some (some (.v ss k))) (hm : C.mg "Recorder" = some (.ref c)) :
    ∃ p dx fs qq xs, σ[i]? = some (some (.ref p)) ∧ H p = some (.ins c dx fs) ∧ fs.lookup ("steps" : Str) = some (V.ref qq) ∧ fs.lookup ("kept" : Str) = some (V.int k) ∧ Few fs ∧ H qq = some (.lst xs) ∧ ss.length ≤ LIM ∧ DqAll C.K H0 xs ss := by
  obtain ⟨v, hs, p, c', dx, fs, qq, xs, rfl, k1, km, kf1, kf2, kf3, kq, k4, k5⟩ := rp.at_ i _ q
  rw [hm] at km
  cases km
  exact ⟨p, dx, fs, qq, xs, hs, rp.bas.a _ _ k1, kf1, kf2, kf3, rp.bas.a _ _ kq, k4, k5⟩
theorem d_st (i : Nat) {c : Addr} (T : RecC X c) {x : Str} {p : Pos} (hN : X.N[i]? = some x := by rfl) (hv : Vis X.env.scope x := by first | exact Or.inl rfl | exact Or.inr (Or.inl rfl) | exact Or.inr (Or.inr rfl)) (hd : (x == ("__debug__" : Str)) = false := by decide)
    (hcd : (x == ("__classdict__" : Str)) = false := by decide) (hb : attributeBase (.Name x p) "steps" X.env (eval (.Name x p) X.env) = eval (.Name x p) X.env := by rfl) : PE X (.Attribute (.Name x p) "steps" pos) (eF (cx X B) W false (eSt i)) := by
  refine (pe_fld (pe_var hN hv hd hcd) hb).weak fun σ H Q ⟨ρ, H0, r, h⟩ => ?_
  unfold eSt at h
  split at h
  · rename_i ss k q
    obtain ⟨pp, dx, fs, qq, xs, hs, k1, kf1, kf2, kf3, kq, k2q, k4, k5⟩ := slot_r r q T.mg
    exact ⟨.ref pp, hs, pp, c, dx, fs, .ref qq, rfl, k1, T.cl, T.st, kf1, h _ H H0 (Grow.refl r.st) (.inr ⟨rfl, qq, xs, ss, rfl, rfl, kq, k4, k5⟩)⟩
  · rename_i ss k q
    obtain ⟨pp, dx, fs, qq, xs, hs, k1, kf1, kf2, kf3, kq, k4, k5⟩ := slot_v r q T.mg
    exact ⟨.ref pp, hs, pp, c, dx, fs, .ref qq, rfl, k1, T.cl, T.st, kf1, h _ H H0 (Grow.refl r.st) (.inr ⟨rfl, qq, xs, ss, rfl, rfl, kq, k4, k5⟩)⟩
  · exact h.elim
theorem d_kp (i : Nat) {c : Addr} (T : RecC X c) {x : Str} {p : Pos} (hN : X.N[i]? = some x := by rfl) (hv : Vis X.env.scope x := by first | exact Or.inl rfl | exact Or.inr (Or.inl rfl) | exact Or.inr (Or.inr rfl)) (hd : (x == ("__debug__" : Str)) = false := by decide)
    (hcd : (x == ("__classdict__" : Str)) = false := by decide) (hb : attributeBase (.Name x p) "kept" X.env (eval (.Name x p) X.env) = eval (.Name x p) X.env := by rfl) : PE X (.Attribute (.Name x p) "kept" pos) (eF (cx X B) W s (eKp i)) := by
  refine (pe_fld (pe_var hN hv hd hcd) hb).weak fun σ H Q ⟨ρ, H0, r, h⟩ => ?_
  unfold eKp at h
  split at h
  · rename_i ss k q
    obtain ⟨pp, dx, fs, qq, xs, hs, k1, kf1, kf2, kf3, kq, k2q, k4, k5⟩ := slot_r r q T.mg
    exact ⟨.ref pp, hs, pp, c, dx, fs, .int k, rfl, k1, T.cl, T.kp, kf2, eO.val h r.st (.int _)⟩
  · exact h.elim
def sRapp (i : Nat) (f : FE) : FS := fun ρ => match ρ[i]? with
  | some (some (.r ss k)) => match f ρ with
    | .ok d => if ss.length < LIM then .next (ρ.set i (some (.r (ss ++ [d]) k))) else .bad
    | .exc c => .exc c ρ
    | .bad => .bad
  | _ => .bad
theorem s_rapp (i : Nat) {c : Addr} (T : RecC X c) {x : Str} {p p2 apos : Pos} (he : PE X e (eF (cx X B) W true f)) (hN : X.N[i]? = some x := by rfl) (hv : Vis X.env.scope x := by first | exact Or.inl rfl | exact Or.inr (Or.inl rfl) | exact Or.inr (Or.inr rfl)) (hd : (x == ("__debug__" : Str)) = false := by decide) (hcd : (x == ("__classdict__" : Str)) = false := by decide)
    (hb : attributeBase (.Name x p) "steps" X.env (eval (.Name x p) X.env) = eval (.Name x p) X.env := by rfl)
    {cpos : Pos} (hbase : attributeBase (.Attribute (.Name x p) "steps" p2) "append" X.env (eval (.Attribute (.Name x p) "steps" p2) X.env) = eval (.Attribute (.Name x p) "steps" p2) X.env := by rfl)
    (hfew : ((backTo cpos (starEach [e] X.env)).all (fun x => !x.1) && (backToKw cpos (keywordEach [] X.env)).all (fun x => x.1.isSome)
      && decide ([e].length + ([] : List Keyword).length + (if ([] : List Keyword).isEmpty then 0 else 1) < 30)) = true := by rfl)
    (hline : (apos.endLine == cpos.line) = true := by rfl) (hs : starEach [e] X.env = (false, eval e X.env) :: starEach [] X.env := by rfl) (hsw : swapsWith (.Call (.Attribute (.Attribute (.Name x p) "steps" p2) "append" apos) [e] [] cpos) none pos.line X.env = pure false := by rfl) :
    PS X (.Expr (.Call (.Attribute (.Attribute (.Name x p) "steps" p2) "append" apos) [e] [] cpos) pos) (sF (cx X B) W (sRapp i f)) := by
  refine (ps_expr (pe_bm PySem.F.plainAttrs_list PySem.F.slot_list_append PySem.F.type_list_append mt_append (pe_fld (pe_var hN hv hd hcd) hb) (pa_cons he pa_nil hs) hbase hfew hline hs rfl) hsw).weak fun D σ H ⟨ρ, H0, rp, h⟩ => ?_
  unfold sRapp at h
  split at h
  · rename_i ss k q
    obtain ⟨pp, dx, fs, qq, xs, hs, k1, kf1, kf2, kf3, kq, k2q, k4, k5⟩ := slot_r rp q T.mg
    refine ⟨.ref pp, hs, pp, c, dx, fs, .ref qq, rfl, k1, T.cl, T.st, kf1, .inl ⟨rfl, xs, .inl (.inl kq)⟩, ρ, H0, rp, ?_⟩
    cases c : f ρ with
    | bad => rw [c] at h; exact h
    | exc c' => rw [c] at h; exact fun cls dd H' H0' g x => h cls dd σ H' H0' g.z (rp.grow g) x
    | ok d =>
      rw [c] at h
      simp only at h
      intro u H' H0' g w
      by_cases hl : ss.length < LIM
      · rw [if_pos hl] at h
        refine ⟨qq, xs, u, rfl, rfl, g.a _ _ kq, by rw [k5.length]; exact lim_lt hl, ?_⟩
        have hd' := (k5.same g.z).append (.cons w.strong .nil)
        exact h σ _ H0' g.z ((rp.grow g).mutR q hs (g.a _ _ k1) kf1 (by rw [List.length_append]; exact hl) hd')
      · rw [if_neg hl] at h; exact h.elim
  · exact h.elim
end
end CP
namespace CP
open PySem L2
section
variable {pr : Bool} {X : Cx} {B : Bs} {W : WX} {s sa sb : Bool} {a b e : Expr} {fa fb f : FE} {pos : Pos}
def sRpop (i : Nat) : FS := fun ρ => match ρ[i]? with
  | some (some (.r ss k)) => if ss = [] then .bad else .next (ρ.set i (some (.r ss.dropLast k)))
  | _ => .bad
theorem DqAll.dropLast {K : PySem.W.Frag} {H : Hp} {ds : List PyData} {vs : List V} (h : DqAll K H vs ds) : DqAll K H vs.dropLast ds.dropLast := by
  rw [List.dropLast_eq_take, List.dropLast_eq_take, h.length]
  exact h.take _
theorem s_rpop (i : Nat) {c : Addr} (T : RecC X c) {x : Str} {p p2 apos : Pos} (hN : X.N[i]? = some x := by rfl) (hv : Vis X.env.scope x := by first | exact Or.inl rfl | exact Or.inr (Or.inl rfl) | exact Or.inr (Or.inr rfl)) (hd : (x == ("__debug__" : Str)) = false := by decide) (hcd : (x == ("__classdict__" : Str)) = false := by decide)
    (hb : attributeBase (.Name x p) "steps" X.env (eval (.Name x p) X.env) = eval (.Name x p) X.env := by rfl)
    {cpos : Pos} (hbase : attributeBase (.Attribute (.Name x p) "steps" p2) "pop" X.env (eval (.Attribute (.Name x p) "steps" p2) X.env) = eval (.Attribute (.Name x p) "steps" p2) X.env := by rfl)
    (hline : (apos.endLine == cpos.line) = true := by rfl) (hsw : swapsWith (.Call (.Attribute (.Attribute (.Name x p) "steps" p2) "pop" apos) [] [] cpos) none pos.line X.env = pure false := by rfl) :
    PS X (.Expr (.Call (.Attribute (.Attribute (.Name x p) "steps" p2) "pop" apos) [] [] cpos) pos) (sF (cx X B) W (sRpop i)) := by
  refine (ps_expr (pe_bm0 PySem.F.plainAttrs_list PySem.F.slot_list_pop PySem.F.type_list_pop mt_pop (pe_fld (pe_var hN hv hd hcd) hb) hbase hline) hsw).weak fun D σ H ⟨ρ, H0, rp, h⟩ => ?_
  unfold sRpop at h
  split at h
  · rename_i ss k q
    obtain ⟨pp, dx, fs, qq, xs, hs, k1, kf1, kf2, kf3, kq, k2q, k4, k5⟩ := slot_r rp q T.mg
    by_cases hz : ss = []
    · rw [if_pos hz] at h; exact h.elim
    · rw [if_neg hz] at h
      have hl := k5.length
      have hp : 0 < ss.length := by cases ss with
        | nil => exact absurd rfl hz
        | cons _ _ => exact Nat.succ_pos _
      have hx : xs[xs.length - 1]? = some (xs[xs.length - 1]'(by omega)) := by simp [show xs.length - 1 < xs.length by omega]
      refine ⟨.ref pp, hs, pp, c, dx, fs, .ref qq, rfl, k1, T.cl, T.st, kf1, .inl ⟨rfl, xs, .inl (.inl kq)⟩, qq, xs, _, rfl, rfl, kq, hx, ?_⟩
      exact h σ _ H0 (Same.refl _) (rp.mutR q hs k1 kf1 (by rw [List.length_dropLast]; omega) k5.dropLast)
  · exact h.elim
end
inductive OutR where
  | ret (d : PyData) (ρ : EV)
  | exc (c : Ex) (ρ : EV)
  | bad
def rO (C : PX) (W : WX) (H0 : Hp) (D : Ends) : OutR → Prop
  | .ret d ρ => ∀ v σ' H' H0', Same H0 H0' → Rep C σ' H' H0' ρ → Dq C.K H0' v d → D.rt v H'
  | .exc c ρ => ∀ cls dd σ' H' H0', Same H0 H0' → Rep C σ' H' H0' ρ → ExR C.K C.mg H' c cls dd → W cls dd σ' H'
  | .bad => False
def rF (C : PX) (W : WX) (g : EV → OutR) : TS := fun D σ H => ∃ ρ H0, Rep C σ H H0 ρ ∧ rO C W H0 D (g ρ)
theorem rO.grow {C : PX} {W : WX} {H0 H01 : Hp} {D : Ends} {o : OutR} (h : rO C W H0 D o) (e : Same H0 H01) : rO C W H01 D o := by
  cases o with
  | ret d ρ => exact fun v σ' H' H0' e' => h v σ' H' H0' (e.trans e')
  | exc c ρ => exact fun cls dd σ' H' H0' e' => h cls dd σ' H' H0' (e.trans e')
  | bad => exact h
section
variable {X : Cx} {B : Bs} {W : WX} {e : Expr} {f : FE} {pos : Pos} {st : Stmt} {rest : List Stmt} {g : FS} {gr : EV → OutR}
def rRet (f : FE) : EV → OutR := fun ρ => match f ρ with
  | .ok d => .ret d ρ
  | .exc c => .exc c ρ
  | .bad => .bad
def rSeq (g : FS) (gr : EV → OutR) : EV → OutR := fun ρ => match g ρ with
  | .next ρ' => gr ρ'
  | .exc c ρ' => .exc c ρ'
  | _ => .bad
theorem r_ret (he : PE X e (eF (cx X B) W true f)) : PSs X [.Return (some e) pos] (rF (cx X B) W (rRet f)) := by
  refine (pss_one (ps_ret he)).weak fun D σ H ⟨ρ, H0, rp, h⟩ => ⟨ρ, H0, rp, ?_⟩
  unfold rRet at h
  cases c : f ρ with
  | bad => rw [c] at h; exact h
  | exc c' => rw [c] at h; exact fun cls dd H' H0' g x => h cls dd σ H' H0' g.z (rp.grow g) x
  | ok d => rw [c] at h; exact fun v H' H0' g w => h v σ H' H0' g.z (rp.grow g) w.strong
theorem r_seq (h1 : PS X st (sF (cx X B) W g)) (h2 : PSs X rest (rF (cx X B) W gr)) : PSs X (st :: rest) (rF (cx X B) W (rSeq g gr)) := by
  refine (pss_cons h1 h2).weak fun D σ H ⟨ρ, H0, rp, h⟩ => ⟨ρ, H0, rp, ?_⟩
  unfold rSeq at h
  cases c : g ρ with
  | next ρ' => rw [c] at h; exact fun σ' H' H0' e r' => ⟨ρ', H0', r', h.grow e⟩
  | exc c' ρ' => rw [c] at h; exact h
  | brk _ => rw [c] at h; exact h.elim
  | cont _ => rw [c] at h; exact h.elim
  | ret _ => rw [c] at h; exact h.elim
  | bad => rw [c] at h; exact h.elim
end
inductive RR where
  | ok (d : PyData) (ss : List PyData)
  | exc (c : Ex) (ss : List PyData)
  | bad
abbrev FR := List PyData → Int → List PyData → RR
structure RecAt (K : PySem.W.Frag) (mg : Str → Option Value) (H H0 : Hp) (p q c dx : Addr) (fs : List (Str × V)) (ss : List PyData) (k : Int) : Prop where
  ins : H p = some (.ins c dx fs)
  cls : mg "Recorder" = some (.ref c)
  st : fs.lookup ("steps" : Str) = some (V.ref q)
  kp : fs.lookup ("kept" : Str) = some (V.int k)
  few : Few fs
  lst : ∃ xs, H q = some (.lst xs) ∧ DqAll K H0 xs ss
  p0 : H0 p = none
  q0 : H0 q = none
  len : ss.length ≤ LIM
def del2 (H : Hp) (p q : Addr) : Hp := del (del H p) q
theorem same_del2 {H : Hp} {p q : Addr} : Same (del2 H p q) H := same_del.trans same_del
theorem del2_p {H : Hp} {p q : Addr} : del2 H p q p = none := by
  unfold del2
  by_cases e : p = q
  · rw [e]; exact del_same
  · rw [del_ne e]; exact del_same
theorem del2_q {H : Hp} {p q : Addr} : del2 H p q q = none := del_same
theorem del2_ne {H : Hp} {p q a : Addr} (h1 : a ≠ p) (h2 : a ≠ q) : del2 H p q a = H a := by unfold del2; rw [del_ne h2, del_ne h1]
def spR (K : PySem.W.Frag) (mg : Str → Option Value) (n : Nat) (F : FR) : Sp := fun vs H Q E => vs.length = n + 1 ∧ ∃ (p q c dx : Addr) (fs : List (Str × V)) (ss : List PyData) (k : Int) (ws : List V) (ds : List PyData) (H0 : Hp), vs = .ref p :: ws ∧ Same H0 H ∧ RecAt K mg H H0 p q c dx fs ss k ∧ DqAll K H0 ws ds ∧
  match F ss k ds with
  | .ok d ss' => ∀ v H' H0' q' dx' fs', Grow (del2 H p q) H0 H' H0' → del2 H p q q' = none → RecAt K mg H' H0' p q' c dx' fs' ss' k → Dq K H0' v d → Q v H'
  | .exc x ss' => ∀ cls dd H' H0' q' dx' fs', Grow (del2 H p q) H0 H' H0' → del2 H p q q' = none → RecAt K mg H' H0' p q' c dx' fs' ss' k → ExR K mg H' x cls dd → E cls dd H'
  | .bad => False
end CP
namespace CP
open PySem L2
def startR (m : Nat) (ss : List PyData) (k : Int) (ds : List PyData) : EV := some (.r ss k) :: (ds.map (fun d => some (SV.d d)) ++ List.replicate (m - (ds.length + 1)) none)
def runR (m : Nat) (g : EV → OutR) : FR := fun ss k ds => match g (startR m ss k ds) with
  | .ret d ρ => match ρ[0]? with
    | some (some (SV.r ss' k')) => if k' = k then .ok d ss' else .bad
    | _ => .bad
  | .exc c ρ => match ρ[0]? with
    | some (some (SV.r ss' k')) => if k' = k then .exc c ss' else .bad
    | _ => .bad
  | .bad => .bad
theorem rep_startR {K : PySem.W.Frag} {mg : Str → Option Value} {H H0 : Hp} {p q c dx : Addr} {fs : List (Str × V)} {ss : List PyData} {k : Int} {ws : List V} {ds : List PyData} (N : List Str) (i : Same H0 H) (R : RecAt K mg H H0 p q c dx fs ss k) (hd : DqAll K H0 ws ds) :
    Rep ⟨K, mg, bsR (del2 H p q) H0 p⟩ (L2.start N (.ref p :: ws)) H H0 (startR N.length ss k ds) := by
  have hl := hd.length
  have no : ∀ (j : Nat) sj, (startR N.length ss k ds)[j]? = some (some sj) → (j = 0 ∧ sj = .r ss k) ∨ ∃ n d, j = n + 1 ∧ ds[n]? = some d ∧ sj = .d d := fun j sj e => by
    cases j with
    | zero =>
      simp only [startR, List.getElem?_cons_zero] at e
      cases e
      exact .inl ⟨rfl, rfl⟩
    | succ j =>
      right
      simp only [startR, List.getElem?_cons_succ] at e
      by_cases hj : j < ds.length
      · rw [List.getElem?_append_left (by simpa using hj), List.getElem?_map] at e
        cases q : ds[j]? with
        | none => rw [q] at e; cases e
        | some d => rw [q] at e; cases e; exact ⟨j, d, rfl, q, rfl⟩
      · rw [List.getElem?_append_right (by simpa using hj), List.getElem?_replicate] at e
        split at e <;> cases e
  obtain ⟨xs, hq, hx⟩ := R.lst
  refine ⟨⟨same_del2, Same.refl _, i, fun _ _ e => e⟩, by unfold L2.start startR; simp [hl], fun j sj e => ?_, fun j k' sj sk v w a e1 e2 e3 e4 o1 o2 => ?_⟩
  · rcases no j sj e with ⟨rfl, rfl⟩ | ⟨n, d, rfl, hd', rfl⟩
    · exact ⟨.ref p, by unfold L2.start; simp, p, c, dx, fs, q, xs, rfl, R.ins, R.cls, (fun a z => Option.some.inj z), R.st, R.kp, R.few, hq, R.p0, R.q0, del2_p, del2_q, R.len, hx⟩
    · obtain ⟨v, hv, hq⟩ := hd.get hd'
      refine ⟨v, ?_, hq⟩
      unfold L2.start
      rw [List.map_cons, List.cons_append, List.getElem?_cons_succ, List.getElem?_append_left (by have := (List.getElem?_eq_some_iff.mp hv).1; simpa using this), List.getElem?_map, hv]
      rfl
  · rcases no j sj e1 with ⟨rfl, rfl⟩ | ⟨_, _, _, _, rfl⟩
    · rcases no k' sk e2 with ⟨rfl, rfl⟩ | ⟨_, _, _, _, rfl⟩
      · rfl
      · exact o2.elim
    · exact o1.elim
theorem recAt_of {K : PySem.W.Frag} {mg : Str → Option Value} {Hb Hz H H0 : Hp} {σ : St} {ρ : EV} {p c : Addr} {ss : List PyData} {k : Int} (r : Rep ⟨K, mg, bsR Hb Hz p⟩ σ H H0 ρ) (hi : ρ[0]? = some (some (.r ss k))) (hc : mg "Recorder" = some (.ref c)) :
    ∃ q dx fs, Hb q = none ∧ RecAt K mg H H0 p q c dx fs ss k := by
  obtain ⟨v, hs, p', c', dx', fs', q', xs, e1, k1, km, kz, kf1, kf2, kf3, kq, k2, k2q, k3, k3q, k4, k5⟩ := r.at_ 0 _ hi
  obtain rfl := kz p rfl
  have km : mg "Recorder" = some (.ref c') := km
  rw [hc] at km
  cases km
  exact ⟨q', dx', fs', k3q, ⟨k1, hc, kf1, kf2, kf3, ⟨xs, kq, k5⟩, k2, k2q, k4⟩⟩
theorem okR {P : Program} {w : World} {K : PySem.W.Frag} {mg : Str → Option Value} {base : Heap} {x qual : Str} {st : Stmt} {f : Addr} {fd : FuncData} {N ps : List Str} {k n : Nat} {g : EV → OutR} (F : Fun K x qual st f fd) (S : FnScope N ps (defScope st)) (hn : ps.length = n + 1)
    (hbody : ∀ (cdv : Value) (A : Around) (outer : List Env) (s : Shared) (H : Hp) (E : XK) (Hb H0 : Hp) (p : Addr), Room k (A.deeper (PyProof.Rows.envOfC qual (defScope st) s.heap.objs.size f cdv)) →
      Takes (cxOf (L2.CX P w) P w K mg base N qual (defScope st) f cdv A outer s H E) (WE0 E) → PassesOwn (model P w) (A.deeper (PyProof.Rows.envOfC qual (defScope st) s.heap.objs.size f cdv)) (PyProof.Rows.envOfC qual (defScope st) s.heap.objs.size f cdv) (cxOf (L2.CX P w) P w K mg base N qual (defScope st) f cdv A outer s H E).xe →
      PSs (cxOf (L2.CX P w) P w K mg base N qual (defScope st) f cdv A outer s H E) (defBody st) (rF ⟨K, mg, bsR Hb H0 p⟩ (WE0 E) g)) : FnOk P w K mg base (L2.CX P w) (k + 1) f fd ps (spR K mg n (runR N.length g)) := by
  refine F.okX S (fun vs H Q E h => by rw [hn]; exact h.1) (fun cdv A outer s H vs Q E hr h => ?_)
  obtain ⟨hl, p, q, c, dx, fs, ss, kk, ws, ds, H0, rfl, i, R, hd, h⟩ := h
  refine ⟨_, hbody cdv A outer s H E (del2 H p q) H0 p hr (takes_of rfl rfl rfl rfl) (passes_of rfl), _, H0, rep_startR N i R hd, ?_⟩
  unfold runR at h
  cases e : g (startR N.length ss kk ds) with
  | ret d ρ =>
    rw [e] at h
    simp only at h
    intro v σ' H' H0' sm r' hv
    split at h
    · rename_i h2
      split at h2
      · rename_i ss' k' e2
        by_cases hk : k' = kk
        · rw [if_pos hk] at h2
          subst hk
          cases h2
          obtain ⟨q', dx', fs', b1, b2⟩ := recAt_of r' e2 R.cls
          exact h v H' H0' q' dx' fs' r'.bas b1 b2 hv
        · rw [if_neg hk] at h2; cases h2
      · cases h2
    · rename_i h2
      split at h2
      · rename_i ss' k' e2
        split at h2 <;> cases h2
      · cases h2
    · exact h.elim
  | exc c' ρ =>
    rw [e] at h
    simp only at h
    intro cls dd σ' H' H0' sm r' hx
    split at h
    · rename_i h2
      split at h2
      · rename_i ss' k' e2
        split at h2 <;> cases h2
      · cases h2
    · rename_i h2
      split at h2
      · rename_i ss' k' e2
        by_cases hk : k' = kk
        · rw [if_pos hk] at h2
          subst hk
          cases h2
          obtain ⟨q', dx', fs', b1, b2⟩ := recAt_of r' e2 R.cls
          exact h cls dd H' H0' q' dx' fs' r'.bas b1 b2 hx
        · rw [if_neg hk] at h2; cases h2
      · cases h2
    · exact h.elim
  | bad => rw [e] at h; exact h.elim
end CP
namespace CP
open PySem L2
section
variable {C : PX} {σ : St} {H H0 H' H0' : Hp} {ρ : EV}
theorem Rep.mutQ (r : Rep C σ H H0 ρ) {i : Nat} {ss ss' : List PyData} {k : Int} {p q q' c dx dx' : Addr} {fs fs' : List (Str × V)} (hi : ρ[i]? = some (some (.r ss k))) (hs : σ[i]? = some (some (.ref p))) (hp : H p = some (.ins c dx fs)) (hf : fs.lookup ("steps" : Str) = some (V.ref q))
    (g : Grow (del2 H p q) H0 H' H0') (hq' : del2 H p q q' = none) (R : RecAt C.K C.mg H' H0' p q' c dx' fs' ss' k) : Rep C σ H' H0' (ρ.set i (some (.r ss' k))) := by
  have hlt : i < ρ.length := (List.getElem?_eq_some_iff.mp hi).1
  obtain ⟨p', c', dx2, fs2, q2, xs, e1, k1, km, kz, kf1, kf2, kf3, kq, k2, k2q, k3, k3q, k4, k5⟩ := r.at1 hi hs
  cases e1
  rw [hp] at k1
  cases k1
  rw [hf] at kf1
  cases kf1
  have ownp : Own H (.ref p) (.r ss k) p := .inl rfl
  have ownq : Own H (.ref p) (.r ss k) q := .inr ⟨p, c, dx, fs, rfl, hp, hf⟩
  have at' : ∀ (j : Nat) sj, (ρ.set i (some (.r ss' k)))[j]? = some (some sj) → (j = i ∧ sj = .r ss' k) ∨ (i ≠ j ∧ ρ[j]? = some (some sj)) := fun j sj e => by
    by_cases hj : i = j
    · subst hj
      rw [List.getElem?_set_self hlt] at e
      cases e
      exact .inl ⟨rfl, rfl⟩
    · rw [List.getElem?_set_ne hj] at e
      exact .inr ⟨hj, e⟩
  have keep : ∀ b o, b ≠ p → b ≠ q → H b = some o → H' b = some o := fun b o h1 h2 e => g.a b o (by rw [del2_ne h1 h2]; exact e)
  have none0 : ∀ b, b ≠ p → b ≠ q → Hid H b → H0 b = none → H0' b = none := fun b h1 h2 h3 h4 => g.f b (by obtain ⟨u, u1, u2⟩ := h3; exact ⟨u, by rw [del2_ne h1 h2]; exact u1, u2⟩) h4
  have far : ∀ (m : Nat) (sm : SV) (x : V), i ≠ m → ρ[m]? = some (some sm) → σ[m]? = some (some x) → ∀ a, Own H x sm a → a ≠ p ∧ a ≠ q := fun m sm x hm em ex a oa =>
    ⟨fun z => hm (r.sep i m _ sm _ x p hi em hs ex ownp (z ▸ oa)), fun z => hm (r.sep i m _ sm _ x q hi em hs ex ownq (z ▸ oa))⟩
  have bq : C.B.h q' = none := by
    by_cases z1 : q' = p
    · rw [z1]; exact k3
    · by_cases z2 : q' = q
      · rw [z2]; exact k3q
      · rw [del2_ne z1 z2] at hq'; exact r.bas.a.free hq'
  obtain ⟨ys, hy, hdy⟩ := R.lst
  have mine : ∀ a, Own H' (.ref p) (.r ss' k) a → Own H (.ref p) (.r ss k) a ∨ H a = none := fun a oa => by
    rcases oa with oa | ⟨p3, c3, dx3, fs3, e1, e2, e3⟩
    · exact .inl (.inl oa)
    · cases e1
      rw [R.ins] at e2
      cases e2
      rw [R.st] at e3
      cases e3
      by_cases z1 : q' = p
      · exact .inl (.inl (by rw [z1]))
      · by_cases z2 : q' = q
        · rw [z2]; exact .inl ownq
        · rw [del2_ne z1 z2] at hq'; exact .inr hq'
  refine ⟨⟨fun b u e => ?_, r.bas.z.trans g.z, g.i, fun b h1 h2 => ?_⟩, by rw [List.length_set]; exact r.len, fun j sj e => ?_, fun j k' sj sk u w a e1 e2 e3 e4 o1 o2 => ?_⟩
  · exact keep b u (ne_of_none e k3) (ne_of_none e k3q) (r.bas.a b u e)
  · exact none0 b (fun z => h1.ne (by rw [z]; exact k3)) (fun z => h1.ne (by rw [z]; exact k3q)) (h1.same r.bas.a) (r.bas.f b h1 h2)
  · rcases at' j sj e with ⟨rfl, rfl⟩ | ⟨hj, e⟩
    · exact ⟨_, hs, p, c, dx', fs', q', ys, rfl, R.ins, km, kz, R.st, R.kp, R.few, hy, R.p0, R.q0, k3, bq, R.len, hdy⟩
    · obtain ⟨u, h1, h2⟩ := r.at_ j sj e
      refine ⟨u, h1, ?_⟩
      have nq := far j sj u hj e h1
      cases sj with
      | d x => exact Dq.same g.z (show Dq C.K H0 u x from h2)
      | x c => exact h2
      | v ss kk => exact VRep.same h2 g.z
      | l es =>
        obtain ⟨b, zs, rfl, m1, m2, m3, m4, m5⟩ := h2
        have n := nq b rfl
        exact ⟨b, zs, rfl, keep b _ n.1 n.2 m1, none0 b n.1 n.2 (hid m1) m2, m3, m4, m5.same g.z⟩
      | m kvs =>
        obtain ⟨b, zs, rfl, m1, m2, m3, m4⟩ := h2
        have n := nq b rfl
        exact ⟨b, zs, rfl, keep b _ n.1 n.2 m1, none0 b n.1 n.2 (hid m1) m2, m3, m4.same g.z⟩
      | r s2 kk =>
        obtain ⟨b, c2, dx2, fs2, b2, zs, rfl, m1, mm, mz, mf1, mf2, mf3, mq, m2, m2q, m3, m3q, m4, m5⟩ := h2
        have n1 := nq b (.inl rfl)
        have n2 := nq b2 (.inr ⟨_, _, _, _, rfl, m1, mf1⟩)
        exact ⟨b, c2, dx2, fs2, b2, zs, rfl, keep b _ n1.1 n1.2 m1, mm, mz, mf1, mf2, mf3, keep b2 _ n2.1 n2.2 mq, none0 b n1.1 n1.2 (hid m1) m2, none0 b2 n2.1 n2.2 (hid mq) m2q, m3, m3q, m4, m5.same g.z⟩
  · have kp : ∀ (m : Nat) (sm : SV) (x : V) (hm : i ≠ m) (em : ρ[m]? = some (some sm)) (ex : σ[m]? = some (some x)) (om : sm.own = true), ∀ b ob, x = .ref b → H b = some ob → H' b = some ob := fun m sm x hm em ex om b ob e5 e6 =>
      have n := far m sm x hm em ex b (Own.self om e5)
      keep b ob n.1 n.2 e6
    rcases at' j sj e1 with ⟨ej, es⟩ | ⟨hj, e1'⟩
    · rcases at' k' sk e2 with ⟨ek, _⟩ | ⟨hk, e2'⟩
      · rw [ej, ek]
      · rw [ej, hs] at e3
        cases e3
        subst es
        rw [ej]
        have ob := o2.back (r.at1 e2' e4) (kp k' sk w hk e2' e4 o2.own)
        rcases mine a o1 with oa | na
        · exact r.sep i k' _ sk _ w a hi e2' hs e4 oa ob
        · exact absurd na (Own.there (r.at1 e2' e4) ob)
    · rcases at' k' sk e2 with ⟨ek, es⟩ | ⟨hk, e2'⟩
      · rw [ek, hs] at e4
        cases e4
        subst es
        rw [ek]
        have ob := o1.back (r.at1 e1' e3) (kp j sj u hj e1' e3 o1.own)
        rcases mine a o2 with oa | na
        · exact r.sep j i sj _ u _ a e1' hi e3 hs ob oa
        · exact absurd na (Own.there (r.at1 e1' e3) ob)
      · exact r.sepB e1' e2' e3 e4 (kp j sj u hj e1' e3 o1.own) (kp k' sk w hk e2' e4 o2.own) o1 o2
end
end CP
namespace CP
open PySem L2
def tMethS (C : Addr) (m : Str) (sp : Sp) (E : St → XK) (ta : TE) (t : TA) : TE := fun σ H Q => ta σ H fun x H1 => ∃ a dx fs, x = .ref a ∧ H1 a = some (.ins C dx fs) ∧ fs.lookup m = none ∧ t σ H1 fun vs H2 => sp (x :: vs) H2 Q (E σ)
section
variable {X : Cx} {CX : CXT} {k : Nat} {f C : Addr} {fd : FuncData} {ps : List Str} {sp : Sp} {E : St → XK} {x m : Str} {p pos apos : Pos} {e o : Expr} {es : List Expr} {ta : TE} {t : TA}
theorem pe_methZ {pl : Sem Bool} (he : PE X o ta) (c : Cls X.K C) (hm : Meth X.K C m f) (F : FnOk X.prog X.w X.K X.mg X.base CX k f fd ps sp) (hr : Room k X.A) (hb : Binds X.K fd ps []) (hx : ∀ σ, PassesAt CX X σ (E σ)) (ha : PA X (e :: es) t)
    (hst : starEach (e :: es) X.env = (false, eval e X.env) :: starEach es X.env := by rfl) (hpl : (backTo pos (starEach es X.env)).any (·.1) = false := by rfl)
    (ht : eval (.Call (.Attribute o m apos) (e :: es) [] pos) X.env = (do
      let ov ← eval o X.env
      standAt apos.atName
      let (f, first) ← holding [ov] (getMethod ov m pl)
      callWith pos f first (backTo pos (starEach (e :: es) X.env)) (backToKw pos (keywordEach [] X.env))) := by rfl) :
    PE X (.Call (.Attribute o m apos) (e :: es) [] pos) (tMethS C m sp E ta t) := by
  refine ⟨fun pins s σ H Q I h => ?_⟩
  refine PySem.W.methodCall_KW (pl := pl) (thn (he.run pins s σ H _ I h) fun u s1 ⟨x, H1, I1, rx, a, dx, fs, ex, ea, l, q⟩ => ?_) ht
  subst ex
  obtain rfl : u = Value.ref a := rx
  refine getmeth_ok I1 ea c hm l ?_
  refine PySem.W.callWith_K (first := [.ref a]) (h₀ := X.base) I.ok.mod.kin hm.kp (thn (ha.run pos pins s1 σ H1 _ I1 q) fun us s2 ⟨vs, H2, I2, r, q2⟩ => ⟨I2.kIn, ?_⟩) hst hpl
  exact run_fnS (us := .ref a :: us) (vs := .ref a :: vs) F hr hb (hx σ) I2 (.cons rfl r) q2
theorem pe_methZ0 {pl : Sem Bool} (he : PE X o ta) (c : Cls X.K C) (hm : Meth X.K C m f) (F : FnOk X.prog X.w X.K X.mg X.base CX k f fd ps sp) (hr : Room k X.A) (hb : Binds X.K fd ps []) (hx : ∀ σ, PassesAt CX X σ (E σ))
    (ht : eval (.Call (.Attribute o m apos) [] [] pos) X.env = (do
      let ov ← eval o X.env
      standAt apos.atName
      let (f, first) ← holding [ov] (getMethod ov m pl)
      callWith pos f first (backTo pos (starEach [] X.env)) (backToKw pos (keywordEach [] X.env))) := by rfl) :
    PE X (.Call (.Attribute o m apos) [] [] pos) (tMethS C m sp E ta tNil) := by
  refine ⟨fun pins s σ H Q I h => ?_⟩
  refine PySem.W.methodCall_KW (pl := pl) (thn (he.run pins s σ H _ I h) fun u s1 ⟨x, H1, I1, rx, a, dx, fs, ex, ea, l, q⟩ => ?_) ht
  subst ex
  obtain rfl : u = Value.ref a := rx
  refine getmeth_ok I1 ea c hm l ?_
  exact PySem.W.callWith_K0 (first := [.ref a]) I1.kIn hm.kp (run_fnS (us := [.ref a]) (vs := [.ref a]) F hr hb (hx σ) I1 (.cons rfl .nil) q)
end
inductive RQ where
  | ok (d : PyData) (ρ : EV)
  | exc (c : Ex) (ρ : EV)
  | bad
def qO (C : PX) (W : WX) (σ : St) (H0 : Hp) (o : RQ) (Q : VK) : Prop :=
  match o with
  | .ok d ρ => ∀ v H' H0', Same H0 H0' → Rep C σ H' H0' ρ → Dq C.K H0' v d → Q v H'
  | .exc c ρ => ∀ cls dd H' H0', Same H0 H0' → Rep C σ H' H0' ρ → ExR C.K C.mg H' c cls dd → W cls dd σ H'
  | .bad => False
def qF (C : PX) (W : WX) (f : EV → RQ) : TE := fun σ H Q => ∃ ρ H0, Rep C σ H H0 ρ ∧ qO C W σ H0 (f ρ) Q
end CP
namespace CP
open PySem L2
section
variable {X : Cx} {B : Bs} {W : WX} {e : Expr} {f : FE} {pos : Pos}
def qPut (i : Nat) (k : Int) (ρ : EV) : RR → RQ
  | .ok d ss => .ok d (ρ.set i (some (.r ss k)))
  | .exc c ss => .exc c (ρ.set i (some (.r ss k)))
  | .bad => .bad
def qMeth (i n : Nat) (F : FR) (fs : EV → R (List PyData)) : EV → RQ := fun ρ => match ρ[i]? with
  | some (some (.r ss k)) => match fs ρ with
    | .ok ds => if ds.length = n then qPut i k ρ (F ss k ds) else .bad
    | .exc c => .exc c ρ
    | .bad => .bad
  | _ => .bad
theorem slot_at {C : PX} {σ : St} {H H0 : Hp} {ρ : EV} {i : Nat} {ss : List PyData} {k : Int} {c : Addr} (rp : Rep C σ H H0 ρ) (q : ρ[i]? = some (some (.r ss k))) (hm : C.mg "Recorder" = some (.ref c)) :
    ∃ p q dx fs, σ[i]? = some (some (.ref p)) ∧ RecAt C.K C.mg H H0 p q c dx fs ss k := by
  obtain ⟨v, hs, p, c', dx, fs, qq, xs, rfl, k1, km, kz, kf1, kf2, kf3, kq, k2, k2q, k3, k3q, k4, k5⟩ := rp.at_ i _ q
  rw [hm] at km
  cases km
  exact ⟨p, qq, dx, fs, hs, k1, hm, kf1, kf2, kf3, ⟨xs, kq, k5⟩, k2, k2q, k4⟩
theorem sp_meth {σ : St} {H H0 : Hp} {ρ : EV} {i n : Nat} {ss : List PyData} {k : Int} {c p q dx : Addr} {fs : List (Str × V)} {F : FR} {ws : List V} {ds : List PyData} {Q : VK} (rp : Rep (cx X B) σ H H0 ρ) (hq : ρ[i]? = some (some (.r ss k))) (hs : σ[i]? = some (some (.ref p)))
    (R : RecAt X.K X.mg H H0 p q c dx fs ss k) (hw : DqAll X.K H0 ws ds) (hn : ds.length = n) (h : qO (cx X B) W σ H0 (qPut i k ρ (F ss k ds)) Q) : spR X.K X.mg n F (.ref p :: ws) H Q (WE W σ) := by
  refine ⟨by rw [List.length_cons, hw.length, hn], p, q, c, dx, fs, ss, k, ws, ds, H0, rfl, rp.st, R, hw, ?_⟩
  cases e : F ss k ds with
  | bad => rw [e] at h; exact h.elim
  | ok d ss' => rw [e] at h; exact fun v H' H0' q' dx' fs' g hq' R' hv => h v H' H0' g.z (rp.mutQ hq hs R.ins R.st g hq' R') hv
  | exc c ss' => rw [e] at h; exact fun cls dd H' H0' q' dx' fs' g hq' R' hx => h cls dd H' H0' g.z (rp.mutQ hq hs R.ins R.st g hq' R') hx
theorem q_meth0 (i : Nat) {c fa : Addr} {k : Nat} {fd : FuncData} {ps : List Str} {F : FR} {pl : Sem Bool} (T : RecC X c) {x m : Str} {p apos : Pos} (hm : Meth X.K c m fa) (G : FnOk X.prog X.w X.K X.mg X.base (L2.CX X.prog X.w) k fa fd ps (spR X.K X.mg 0 F)) (hr : Room k X.A) (hb : Binds X.K fd ps []) (tk : Takes X W)
    (hN : X.N[i]? = some x := by rfl) (hv : Vis X.env.scope x := by first | exact Or.inl rfl | exact Or.inr (Or.inl rfl) | exact Or.inr (Or.inr rfl)) (hd : (x == ("__debug__" : Str)) = false := by decide) (hcd : (x == ("__classdict__" : Str)) = false := by decide)
    (m1 : m ≠ "steps" := by decide) (m2 : m ≠ "kept" := by decide)
    (ht : eval (.Call (.Attribute (.Name x p) m apos) [] [] pos) X.env = (do
      let ov ← eval (.Name x p) X.env
      standAt apos.atName
      let (f, first) ← holding [ov] (getMethod ov m pl)
      callWith pos f first (backTo pos (starEach [] X.env)) (backToKw pos (keywordEach [] X.env))) := by rfl) :
    PE X (.Call (.Attribute (.Name x p) m apos) [] [] pos) (qF (cx X B) W (qMeth i 0 F fun _ => .ok [])) := by
  refine (pe_methZ0 (pl := pl) (pe_var hN hv hd hcd) T.cl hm G hr hb (fun σ => passAt tk σ) ht).weak fun σ H Q ⟨ρ, H0, rp, h⟩ => ?_
  unfold qMeth at h
  split at h
  · rename_i ss k q
    obtain ⟨pp, qq, dx, fs, hs, R⟩ := slot_at rp q T.mg
    refine ⟨.ref pp, hs, pp, dx, fs, rfl, R.ins, R.few.2 m m1 m2, ?_⟩
    exact sp_meth rp q hs R .nil rfl h
  · exact h.elim
theorem qO.grow {C : PX} {σ : St} {H0 H01 : Hp} {o : RQ} {Q : VK} (h : qO C W σ H0 o Q) (e : Same H0 H01) : qO C W σ H01 o Q := by
  cases o with
  | ok d ρ => exact fun v H' H0' e' => h v H' H0' (e.trans e')
  | exc c ρ => exact fun cls dd H' H0' e' => h cls dd H' H0' (e.trans e')
  | bad => exact h
theorem q_meth (i : Nat) {c fa : Addr} {k n : Nat} {fd : FuncData} {ps : List Str} {F : FR} {pl : Sem Bool} {es : List Expr} {fs : EV → R (List PyData)} (T : RecC X c) {x m : Str} {p apos : Pos} (hm : Meth X.K c m fa) (G : FnOk X.prog X.w X.K X.mg X.base (L2.CX X.prog X.w) k fa fd ps (spR X.K X.mg n F)) (hr : Room k X.A) (hb : Binds X.K fd ps []) (tk : Takes X W)
    (ha : PA X (e :: es) (aF (cx X B) W fs))
    (hN : X.N[i]? = some x := by rfl) (hv : Vis X.env.scope x := by first | exact Or.inl rfl | exact Or.inr (Or.inl rfl) | exact Or.inr (Or.inr rfl)) (hd : (x == ("__debug__" : Str)) = false := by decide) (hcd : (x == ("__classdict__" : Str)) = false := by decide)
    (m1 : m ≠ "steps" := by decide) (m2 : m ≠ "kept" := by decide)
    (hst : starEach (e :: es) X.env = (false, eval e X.env) :: starEach es X.env := by rfl) (hpl : (backTo pos (starEach es X.env)).any (·.1) = false := by rfl)
    (ht : eval (.Call (.Attribute (.Name x p) m apos) (e :: es) [] pos) X.env = (do
      let ov ← eval (.Name x p) X.env
      standAt apos.atName
      let (f, first) ← holding [ov] (getMethod ov m pl)
      callWith pos f first (backTo pos (starEach (e :: es) X.env)) (backToKw pos (keywordEach [] X.env))) := by rfl) :
    PE X (.Call (.Attribute (.Name x p) m apos) (e :: es) [] pos) (qF (cx X B) W (qMeth i n F fs)) := by
  refine (pe_methZ (pl := pl) (pe_var hN hv hd hcd) T.cl hm G hr hb (fun σ => passAt tk σ) ha hst hpl ht).weak fun σ H Q ⟨ρ, H0, rp, h⟩ => ?_
  unfold qMeth at h
  split at h
  · rename_i ss k q
    obtain ⟨pp, qq, dx, fls, hs, R⟩ := slot_at rp q T.mg
    refine ⟨.ref pp, hs, pp, dx, fls, rfl, R.ins, R.few.2 m m1 m2, ρ, H0, rp, ?_⟩
    cases c : fs ρ with
    | bad => rw [c] at h; exact h.elim
    | exc c' => rw [c] at h; exact fun cls dd H' H0' g x => h cls dd H' H0' g.z (rp.grow g) x
    | ok ds =>
      rw [c] at h
      simp only at h
      intro vs H1 H01 g w
      by_cases hn : ds.length = n
      · rw [if_pos hn] at h
        have rp1 := rp.grow g
        obtain ⟨pp2, qq2, dx2, fls2, hs2, R2⟩ := slot_at rp1 q T.mg
        rw [hs] at hs2
        cases hs2
        exact sp_meth rp1 q hs R2 w hn (h.grow g.z)
      · rw [if_neg hn] at h; exact h.elim
  · exact h.elim
end
end CP
namespace CP
open PySem L2
section
variable {X : Cx} {B : Bs} {W : WX} {e : Expr} {f : FE} {q : EV → RQ} {pos : Pos} {s : Bool}
def qE (f : FE) : EV → RQ := fun ρ => match f ρ with
  | .ok d => .ok d ρ
  | .exc c => .exc c ρ
  | .bad => .bad
theorem q_e (he : PE X e (eF (cx X B) W true f)) : PE X e (qF (cx X B) W (qE f)) := he.weak fun σ H Q ⟨ρ, H0, rp, h⟩ => ⟨ρ, H0, rp, by
  unfold qE at h
  cases c : f ρ with
  | bad => rw [c] at h; exact h
  | exc c' => rw [c] at h; exact fun cls dd H' H0' g x => h cls dd H' H0' g.z (rp.grow g) x
  | ok d => rw [c] at h; exact fun v H' H0' g w => h v H' H0' g.z (rp.grow g) w.strong⟩
def sQ (q : EV → RQ) : FS := fun ρ => match q ρ with
  | .ok _ ρ' => .next ρ'
  | .exc c ρ' => .exc c ρ'
  | .bad => .bad
theorem s_q (he : PE X e (qF (cx X B) W q)) (hs : swapsWith e none pos.line X.env = pure false := by rfl) : PS X (.Expr e pos) (sF (cx X B) W (sQ q)) := by
  refine (ps_expr he hs).weak fun D σ H ⟨ρ, H0, rp, h⟩ => ⟨ρ, H0, rp, ?_⟩
  unfold sQ at h
  cases c : q ρ with
  | bad => rw [c] at h; exact h
  | exc c' ρ' => rw [c] at h; exact fun cls dd H' H0' g r' x => h cls dd σ H' H0' g r' x
  | ok d ρ' => rw [c] at h; exact fun v H' H0' g r' w => h σ H' H0' g r'
def rQ (q : EV → RQ) : EV → OutR := fun ρ => match q ρ with
  | .ok d ρ' => .ret d ρ'
  | .exc c ρ' => .exc c ρ'
  | .bad => .bad
theorem r_q (he : PE X e (qF (cx X B) W q)) : PSs X [.Return (some e) pos] (rF (cx X B) W (rQ q)) := by
  refine (pss_one (ps_ret he)).weak fun D σ H ⟨ρ, H0, rp, h⟩ => ⟨ρ, H0, rp, ?_⟩
  unfold rQ at h
  cases c : q ρ with
  | bad => rw [c] at h; exact h
  | exc c' ρ' => rw [c] at h; exact fun cls dd H' H0' g r' x => h cls dd σ H' H0' g r' x
  | ok d ρ' => rw [c] at h; exact fun v H' H0' g r' w => h v σ H' H0' g r' w
end
end CP
namespace CP
open PySem L2
def spI (K : PySem.W.Frag) (mg : Str → Option Value) : Sp := fun vs H Q _ => ∃ (x c dx : Addr), vs = [.ref x] ∧ H x = some (.ins c dx []) ∧ mg "Recorder" = some (.ref c) ∧ ∃ H0, Same H0 H ∧ H0 x = none ∧
  ∀ H' H0' q fs, Grow (del H x) H0 H' H0' → del H x q = none → RecAt K mg H' H0' x q c dx fs [.tuple []] 0 → Q .non H'
def fs0 (q : Addr) : List (Str × V) := [(("steps" : Str), V.ref q), (("kept" : Str), V.int 0)]
section
variable {X : Cx} {B : Bs} {W : WX}
theorem putF1 (q : Addr) : putF "kept" (V.int 0) (putF "steps" (V.ref q) []) = fs0 q := by
  show (if ("steps" : Str) = "kept" then _ else _) = _
  rw [if_neg (by decide)]
  rfl
theorem few1 (q : Addr) : Few (fs0 q) := ⟨by simp [fs0], fun m h1 h2 => by
  unfold fs0
  rw [List.lookup_cons, show (m == ("steps" : Str)) = false from beq_false_of_ne h1]
  simp only
  rw [List.lookup_cons, show (m == ("kept" : Str)) = false from beq_false_of_ne h2]
  rfl⟩
end
theorem okI {P : Program} {w : World} {K : PySem.W.Frag} {mg : Str → Option Value} {base : Heap} {x qual : Str} {st : Stmt} {f c : Addr} {fd : FuncData} {N ps : List Str} {k : Nat} {e1 e2 : Expr} {f1 : FE} {p1 p2 p3 p4 p5 p7 : Pos} (F : Fun K x qual st f fd) (S : FnScope N ps (defScope st)) (hn : ps.length = 1) (hN : N.length = 1)
    (hc : mg "Recorder" = some (.ref c)) (cl : Cls K c) (nst : NoAttr K c "steps") (nkp : NoAttr K c "kept") (hst : defBody st = [.Assign [.Attribute (.Name "self" p1) "steps" p2] e1 p3, .Assign [.Attribute (.Name "self" p4) "kept" p5] e2 p7])
    (hf1 : f1 [none] = .ok (.list [.tuple []]))
    (h1 : ∀ (cdv : Value) (A : Around) (outer : List Env) (s : Shared) (H : Hp) (E : XK) (Hb H0 : Hp), Room k (A.deeper (PyProof.Rows.envOfC qual (defScope st) s.heap.objs.size f cdv)) →
      PS (cxOf (L2.CX P w) P w K mg base N qual (defScope st) f cdv A outer s H E) (.Assign [.Attribute (.Name "self" p1) "steps" p2] e1 p3) (sFld K (tVar 0) (nF ⟨K, mg, bs Hb H0⟩ (WE0 E) f1) "steps") ∧
      PS (cxOf (L2.CX P w) P w K mg base N qual (defScope st) f cdv A outer s H E) (.Assign [.Attribute (.Name "self" p4) "kept" p5] e2 p7) (sFld K (tVar 0) (tC (.int 0)) "kept")) :
    FnOk P w K mg base (L2.CX P w) (k + 1) f fd ps (spI K mg) := by
  refine F.okX S (fun vs H Q E h => by obtain ⟨_, _, _, rfl, _⟩ := h; rw [hn]; rfl) (fun cdv A outer s H vs Q E hr h => ?_)
  obtain ⟨x, c', dx, rfl, hx, hc', H0, i, h0, h⟩ := h
  rw [hc] at hc'
  cases hc'
  obtain ⟨b1, b2⟩ := h1 cdv A outer s H E (del H x) H0 hr
  rw [hst]
  refine ⟨_, pss_cons b1 (pss_one b2), ?_⟩
  have hs : L2.start N [.ref x] = [some (.ref x)] := by unfold L2.start; rw [hN]; rfl
  rw [hs]
  have rp : Rep ⟨K, mg, bs (del H x) H0⟩ [some (.ref x)] H H0 [none] := ⟨⟨same_del, Same.refl _, i, fun _ _ e => e⟩, rfl, fun j sj e => by
    cases j with
    | zero => cases e
    | succ j => simp at e, fun j k' sj sk u w a e1 => by
    cases j with
    | zero => cases e1
    | succ j => simp at e1⟩
  refine ⟨[none], H0, rp, ?_⟩
  rw [hf1]
  refine ⟨_, rfl, fun q xs H1 H01 g hq0 hq hq1 hl hd => ?_⟩
  have hx1 := g.a _ _ hx
  have nq : q ≠ x := fun z => by rw [z, hx] at hq0; cases hq0
  have hx01 : H01 x = none := g.f x (hid hx) h0
  refine ⟨.ref x, rfl, x, c, dx, [], rfl, hx1, cl, nst, by decide, ?_⟩
  show sFld K (tVar 0) (tC (.int 0)) "kept" _ _ _
  refine ⟨.ref x, rfl, x, c, dx, putF "steps" (V.ref q) [], rfl, upd_same, cl, nkp, by simp [putF], ?_⟩
  rw [putF1]
  refine h _ H01 q (fs0 q) ⟨fun b o e => ?_, g.z, fun b o e => ?_, fun b h1 h2 => ?_⟩ ?_ ⟨upd_same, hc, rfl, rfl, few1 q, ⟨xs, by rw [upd_ne nq, upd_ne nq]; exact hq, hd⟩, hx01, hq1, hl⟩
  · have ne : b ≠ x := fun z => by rw [z, del_same] at e; cases e
    rw [upd_ne ne, upd_ne ne]
    rw [del_ne ne] at e
    exact g.a b o e
  · have ne : b ≠ x := fun z => by rw [z, hx01] at e; cases e
    rw [upd_ne ne, upd_ne ne]
    exact g.i b o e
  · have ne : b ≠ x := fun z => h1.ne (by rw [z]; exact del_same)
    obtain ⟨u, u1, u2⟩ := h1
    rw [del_ne ne] at u1
    exact g.f b ⟨u, u1, u2⟩ h2
  · rw [del_ne nq]; exact hq0
end CP
namespace CP
open PySem L2
theorem passF {X : Cx} : Passes (L2.CX X.prog X.w) X (fun _ _ _ => False) := fun pins σ H s e s' _ c => by
  obtain ⟨a, B, H', cls, d, _, _, _, _, _, _, _, hE⟩ := c
  exact hE.elim
def wO (C : PX) (W : WX) (σ : St) (H H0 : Hp) (ss : List PyData) (k : Int) (Q : VK) : Prop :=
  ∀ p q c dx fs H' H0', Grow H H0 H' H0' → H p = none → H q = none → RecAt C.K C.mg H' H0' p q c dx fs ss k → Q (.ref p) H'
def wF (C : PX) (W : WX) (ss : List PyData) (k : Int) : TE := fun σ H Q => ∃ ρ H0, Rep C σ H H0 ρ ∧ wO C W σ H H0 ss k Q
section
variable {X : Cx} {B : Bs} {W : WX} {pos : Pos}
theorem k_new {c fI : Addr} {k : Nat} {fd : FuncData} {ps : List Str} {p : Pos} (T : RecC X c) (M : Mk X.K c fI) (G : FnOk X.prog X.w X.K X.mg X.base (L2.CX X.prog X.w) k fI fd ps (spI X.K X.mg)) (hr : Room (k + 1) X.A) (hb : Binds X.K fd ps []) (hg : Gl X "Recorder" := by rfl) :
    PE X (.Call (.Name "Recorder" p) [] [] pos) (wF (cx X B) W [.tuple []] 0) := by
  refine (pe_make0 M G hr hg T.mg hb .nil passF (by decide)).weak fun σ H Q ⟨ρ, H0, rp, h⟩ => ?_
  intro x dx hx hdx ne
  have st := rp.st
  have h0x : H0 x = none := st.free hx
  have nn : ∀ b o, H b = some o → b ≠ x ∧ b ≠ dx := fun b o e => ⟨ne_of_none e hx, ne_of_none e hdx⟩
  refine ⟨x, c, dx, rfl, upd_same, T.mg, H0, fun b o e => ?_, h0x, fun H' H0' q fs g hq R => ?_⟩
  · have n := nn b o (st b o e)
    rw [upd_ne n.1, upd_ne n.2]; exact st b o e
  · refine ⟨rfl, h x q c dx fs H' H0' ⟨fun b o e => ?_, g.z, g.i, fun b h1 h2 => ?_⟩ hx ?_ R⟩
    · have n := nn b o e
      exact g.a b o (by rw [del_ne n.1, upd_ne n.1, upd_ne n.2]; exact e)
    · obtain ⟨u, u1, u2⟩ := h1
      have n := nn b u u1
      exact g.f b ⟨u, by rw [del_ne n.1, upd_ne n.1, upd_ne n.2]; exact u1, u2⟩ h2
    · by_cases z : q = x
      · rw [z]; exact hx
      · rw [del_ne z, upd_ne z] at hq
        by_cases z2 : q = dx
        · rw [z2]; exact hdx
        · rw [upd_ne z2] at hq; exact hq
theorem svrep_new {C : PX} {H H0 : Hp} {p q c dx : Addr} {fs : List (Str × V)} {ss : List PyData} {k : Int} (R : RecAt C.K C.mg H H0 p q c dx fs ss k) (hs : C.B.s = none) (hp : C.B.h p = none) (hq : C.B.h q = none) : SVRep C H H0 (.ref p) (.r ss k) := by
  obtain ⟨xs, h1, h2⟩ := R.lst
  exact ⟨p, c, dx, fs, q, xs, rfl, R.ins, R.cls, (fun a z => by rw [hs] at z; cases z), R.st, R.kp, R.few, h1, R.p0, R.q0, hp, hq, R.len, h2⟩
theorem rep_new {C : PX} {σ : St} {H H0 H' H0' : Hp} {ρ : EV} {p q c dx : Addr} {fs : List (Str × V)} {ss : List PyData} {k : Int} (rp : Rep C σ H H0 ρ) (hs : C.B.s = none) (g : Grow H H0 H' H0') (hp : H p = none) (hq : H q = none) (R : RecAt C.K C.mg H' H0' p q c dx fs ss k) (i : Nat) :
    Rep C (σ.set i (some (.ref p))) H' H0' (ρ.set i (some (.r ss k))) :=
  (rp.grow g).setOwn (svrep_new R hs (rp.bas.a.free hp) (rp.bas.a.free hq)) (fun j sj w a e es o z => by
    rcases z with z | ⟨p2, c2, dx2, fs2, e1, e2, e3⟩
    · exact own_ne rp g.a hp e es o (by cases z; rfl)
    · cases e1
      rw [R.ins] at e2
      cases e2
      rw [R.st] at e3
      exact own_ne rp g.a hq e es o (by cases e3; rfl)) i
def sNew (i : Nat) (ss : List PyData) (k : Int) : FS := fun ρ => .next (ρ.set i (some (.r ss k)))
theorem s_new (i : Nat) {x : Str} {pos' : Pos} {e : Expr} {ss : List PyData} {k : Int} (hB : B.s = none) (hN : X.N.Nodup) (he : PE X e (wF (cx X B) W ss k)) (hi : X.N[i]? = some x := by rfl) (hx : Loc X.env.scope x := by first | exact Or.inl rfl | exact Or.inr rfl) (hs : swapsWith e (some (.Name x pos')) pos.line X.env = pure false := by rfl) (hf : X.fn x = true ∨ X.env.scope.names.lookup x = some .local := by first | exact .inl rfl | exact .inr rfl | assumption) :
    PS X (.Assign [.Name x pos'] e pos) (sF (cx X B) W (sNew i ss k)) := (ps_set hN hi hx he hs hf).weak fun D σ H ⟨ρ, H0, rp, h⟩ => ⟨ρ, H0, rp, fun p q c dx fs H' H0' g hp hq R => h _ H' H0' g.z (rep_new rp hB g hp hq R i)⟩
end
end CP
namespace CP
open PySem L2
def RecV (K : PySem.W.Frag) (mg : Str → Option Value) (H H0 : Hp) (v : V) (ss : List PyData) (k : Int) : Prop := ∃ p c dx fs q xs, v = .ref p ∧ H p = some (.ins c dx fs) ∧ mg "Recorder" = some (.ref c) ∧ fs.lookup ("steps" : Str) = some (V.ref q) ∧ fs.lookup ("kept" : Str) = some (V.int k) ∧ Few fs ∧
  H q = some (.lst xs) ∧ ss.length ≤ LIM ∧ DqAll K H0 xs ss
def AvRep (K : PySem.W.Frag) (mg : Str → Option Value) (H H0 : Hp) (v : V) : SV → Prop
  | .d x => Dq K H0 v x
  | .v ss k => RecV K mg H H0 v ss k
  | _ => False
inductive AvAll (K : PySem.W.Frag) (mg : Str → Option Value) (H H0 : Hp) : List V → List SV → Prop
  | nil : AvAll K mg H H0 [] []
  | cons {v : V} {vs : List V} {a : SV} {as : List SV} : AvRep K mg H H0 v a → AvAll K mg H H0 vs as → AvAll K mg H H0 (v :: vs) (a :: as)
theorem AvAll.length {K : PySem.W.Frag} {mg : Str → Option Value} {H H0 : Hp} {vs : List V} {as : List SV} (h : AvAll K mg H H0 vs as) : vs.length = as.length := by
  induction h with
  | nil => rfl
  | cons _ _ ih => simp [ih]
theorem AvAll.get {K : PySem.W.Frag} {mg : Str → Option Value} {H H0 : Hp} {vs : List V} {as : List SV} (h : AvAll K mg H H0 vs as) : ∀ {i : Nat} {a : SV}, as[i]? = some a → ∃ v, vs[i]? = some v ∧ AvRep K mg H H0 v a := by
  induction h with
  | nil => intro i a e; simp at e
  | cons h t ih =>
    intro i a e
    cases i with
    | zero => simp at e; subst e; exact ⟨_, rfl, h⟩
    | succ i =>
      obtain ⟨v, h1, h2⟩ := ih (i := i) (a := a) (by simpa using e)
      exact ⟨v, by simpa using h1, h2⟩
abbrev FA := List SV → R PyData
def spA (K : PySem.W.Frag) (mg : Str → Option Value) (n : Nat) (F : FA) : Sp := fun vs H Q E => vs.length = n ∧ ∃ as H0, Same H0 H ∧ AvAll K mg H H0 vs as ∧ fO K mg H H0 (F as) Q E
def runA (m : Nat) (g : FS) : FA := fun as => match g (as.map some ++ List.replicate (m - as.length) none) with
  | .ret d => .ok d
  | .next _ => .ok .none
  | .exc c _ => .exc c
  | _ => .bad
theorem rep_startA {K : PySem.W.Frag} {mg : Str → Option Value} {H H0 : Hp} {vs : List V} {as : List SV} (N : List Str) (i : Same H0 H) (hd : AvAll K mg H H0 vs as) :
    Rep ⟨K, mg, bs H H0⟩ (L2.start N vs) H H0 (as.map some ++ List.replicate (N.length - as.length) none) := by
  have hl := hd.length
  have no : ∀ (j : Nat) sj, (as.map some ++ List.replicate (N.length - as.length) none)[j]? = some (some sj) → as[j]? = some sj := fun j sj e => by
    by_cases hj : j < as.length
    · rw [List.getElem?_append_left (by simpa using hj), List.getElem?_map] at e
      cases q : as[j]? with
      | none => rw [q] at e; cases e
      | some d => rw [q] at e; cases e; rfl
    · rw [List.getElem?_append_right (by simpa using hj), List.getElem?_replicate] at e
      split at e <;> cases e
  have nown : ∀ (j : Nat) sj, as[j]? = some sj → sj.own = false := fun j sj e => by
    obtain ⟨v, _, h⟩ := hd.get e
    cases sj <;> first | rfl | exact h.elim
  refine ⟨Grow.refl i, by unfold L2.start; simp [hl], fun j sj e => ?_, fun j k sj sk v w a e1 e2 e3 e4 o1 o2 => ?_⟩
  · have ea := no j sj e
    obtain ⟨v, hv, hq⟩ := hd.get ea
    refine ⟨v, ?_, ?_⟩
    · unfold L2.start
      rw [List.getElem?_append_left (by have := (List.getElem?_eq_some_iff.mp hv).1; simpa using this), List.getElem?_map, hv]
      rfl
    · cases sj with
      | d x => exact hq
      | v ss k => exact hq
      | l _ => exact hq.elim
      | m _ => exact hq.elim
      | x _ => exact hq.elim
      | r _ _ => exact hq.elim
  · have := nown j sj (no j sj e1)
    rw [o1.own] at this
    cases this
theorem okA {P : Program} {w : World} {K : PySem.W.Frag} {mg : Str → Option Value} {base : Heap} {x qual : Str} {st : Stmt} {f : Addr} {fd : FuncData} {N ps : List Str} {k n : Nat} {g : FS} (F : Fun K x qual st f fd) (S : FnScope N ps (defScope st)) (hn : ps.length = n)
    (hbody : ∀ (cdv : Value) (A : Around) (outer : List Env) (s : Shared) (H : Hp) (E : XK) (H0 : Hp), Room k (A.deeper (PyProof.Rows.envOfC qual (defScope st) s.heap.objs.size f cdv)) →
      Takes (cxOf (L2.CX P w) P w K mg base N qual (defScope st) f cdv A outer s H E) (WE0 E) → PassesOwn (model P w) (A.deeper (PyProof.Rows.envOfC qual (defScope st) s.heap.objs.size f cdv)) (PyProof.Rows.envOfC qual (defScope st) s.heap.objs.size f cdv) (cxOf (L2.CX P w) P w K mg base N qual (defScope st) f cdv A outer s H E).xe →
      PSs (cxOf (L2.CX P w) P w K mg base N qual (defScope st) f cdv A outer s H E) (defBody st) (sF ⟨K, mg, bs H H0⟩ (WE0 E) g)) : FnOk P w K mg base (L2.CX P w) (k + 1) f fd ps (spA K mg n (runA N.length g)) := by
  refine F.okX S (fun vs H Q E h => by rw [hn]; exact h.1) (fun cdv A outer s H vs Q E hr h => ?_)
  obtain ⟨hl, as, H0, i, hd, h⟩ := h
  refine ⟨_, hbody cdv A outer s H E H0 hr (takes_of rfl rfl rfl rfl) (passes_of rfl), _, H0, rep_startA N i hd, ?_⟩
  unfold runA at h
  cases c : g (as.map some ++ List.replicate (N.length - as.length) none) with
  | ret d => rw [c] at h; exact fun v H' H0' g' q => h v H' H0' g' q
  | next ρ => rw [c] at h; exact fun σ' H' H0' e r' => h .non H' H0' r'.bas .non
  | exc c' ρ' => rw [c] at h; exact fun cls dd σ' H' H0' _ r' x => h cls dd H' H0' r'.bas x
  | brk ρ => rw [c] at h; exact h.elim
  | cont ρ => rw [c] at h; exact h.elim
  | bad => rw [c] at h; exact h.elim
def recE (i : Nat) : EV → Option (List PyData × Int) := fun ρ => match ρ[i]? with
  | some (some (.r ss k)) => some (ss, k)
  | some (some (.v ss k)) => some (ss, k)
  | _ => none
theorem slot_recV {C : PX} {σ : St} {H H0 : Hp} {ρ : EV} {i : Nat} {ss : List PyData} {k : Int} (rp : Rep C σ H H0 ρ) (q : recE i ρ = some (ss, k)) : ∃ p, σ[i]? = some (some (.ref p)) ∧ RecV C.K C.mg H H0 (.ref p) ss k := by
  unfold recE at q
  split at q
  · rename_i ss' k' e
    cases q
    obtain ⟨v, hs, p, c', dx, fs, qq, xs, rfl, k1, km, kz, kf1, kf2, kf3, kq, k2, k2q, k3, k3q, k4, k5⟩ := rp.at_ i _ e
    exact ⟨p, hs, p, c', dx, fs, qq, xs, rfl, k1, km, kf1, kf2, kf3, kq, k4, k5⟩
  · rename_i ss' k' e
    cases q
    obtain ⟨v, hs, p, c', dx, fs, qq, xs, rfl, k1, km, kf1, kf2, kf3, kq, k4, k5⟩ := rp.at_ i _ e
    exact ⟨p, hs, p, c', dx, fs, qq, xs, rfl, rp.bas.a _ _ k1, km, kf1, kf2, kf3, rp.bas.a _ _ kq, k4, k5⟩
  · cases q
def eMeth0 (i : Nat) (F : FA) : FE := fun ρ => match recE i ρ with
  | some (ss, k) => F [.v ss k]
  | none => .bad
section
variable {X : Cx} {B : Bs} {W : WX} {e : Expr} {f : FE} {pos : Pos} {s : Bool}
theorem d_meth0 (i : Nat) {c fa : Addr} {k : Nat} {fd : FuncData} {ps : List Str} {F : FA} {pl : Sem Bool} (T : RecC X c) {x m : Str} {p apos : Pos} (hm : Meth X.K c m fa) (G : FnOk X.prog X.w X.K X.mg X.base (L2.CX X.prog X.w) k fa fd ps (spA X.K X.mg 1 F)) (hr : Room k X.A) (hb : Binds X.K fd ps []) (tk : Takes X W)
    (hN : X.N[i]? = some x := by rfl) (hv : Vis X.env.scope x := by first | exact Or.inl rfl | exact Or.inr (Or.inl rfl) | exact Or.inr (Or.inr rfl)) (hd : (x == ("__debug__" : Str)) = false := by decide) (hcd : (x == ("__classdict__" : Str)) = false := by decide)
    (m1 : m ≠ "steps" := by decide) (m2 : m ≠ "kept" := by decide)
    (ht : eval (.Call (.Attribute (.Name x p) m apos) [] [] pos) X.env = (do
      let ov ← eval (.Name x p) X.env
      standAt apos.atName
      let (f, first) ← holding [ov] (getMethod ov m pl)
      callWith pos f first (backTo pos (starEach [] X.env)) (backToKw pos (keywordEach [] X.env))) := by rfl) :
    PE X (.Call (.Attribute (.Name x p) m apos) [] [] pos) (eF (cx X B) W s (eMeth0 i F)) := by
  refine (pe_methZ0 (pl := pl) (pe_var hN hv hd hcd) T.cl hm G hr hb (fun σ => passAt tk σ) ht).weak fun σ H Q ⟨ρ, H0, rp, h⟩ => ?_
  unfold eMeth0 at h
  cases q : recE i ρ with
  | none => rw [q] at h; exact h.elim
  | some sk =>
    obtain ⟨ss, k⟩ := sk
    rw [q] at h
    obtain ⟨pp, hs, R⟩ := slot_recV rp q
    obtain ⟨p', c', dx, fs, qq, xs, e1, k1, km, kf1, kf2, kf3, kq, k4, k5⟩ := id R
    cases e1
    have km : X.mg "Recorder" = some (.ref c') := km
    rw [T.mg] at km
    cases km
    refine ⟨.ref pp, hs, pp, dx, fs, rfl, k1, kf3.2 m m1 m2, ?_⟩
    refine ⟨rfl, [.v ss k], H0, rp.st, .cons R .nil, ?_⟩
    simp only at h
    cases c2 : F [.v ss k] with
    | bad => rw [c2] at h; exact h
    | exc c3 => rw [c2] at h; exact h
    | ok d => rw [c2] at h; exact fun v H' H0' g w => h v H' H0' g (.of w)
theorem run_sub {CX : CXT} {k : Nat} {fa : Addr} {fd : FuncData} {ps : List Str} {sp : Sp} {A : Around} {E : XK} {pins : List (Addr × Obj)} {σ : St} {H : Hp} {sh : Shared} {vs : List V} {us : List Value} {Q : VK} (sb : Sub X k A) (G : FnOk X.prog X.w X.K X.mg X.base CX k fa fd ps sp) (hb : Binds X.K fd ps []) (hx : Passes CX X E)
    (I : L2.Inv X pins σ H sh) (r : Vals vs us) (h : sp vs H Q E) : wpAny (model X.prog X.w) A (call (.ref fa) us) (EP X pins σ Q) X.xe sh := by
  have e0 : Env0 X.prog X.w X.K X.mg X.base A X.stack sh H := by
    have e := I.env0
    exact ⟨by rw [sb.fr]; exact e.frames, e.mod, e.bs, e.bsz, e.funs, e.frf, e.hok, e.bare⟩
  have hl := G.len _ _ _ _ h
  refine wpAny_call (codeAny_mono (G.run A X.stack sh H ⟨us, []⟩ us vs _ E sb.room e0 (by
    have := hb sh us I.kIn (by rw [List.append_nil, ← r.length]; exact hl)
    simpa using this) r h) fun r s' hq => ?_)
  cases r with
  | error e => exact hx pins σ H sh e s' I hq
  | ok fl =>
    cases fl with
    | ret u => exact I.after hq
    | next => exact False.elim hq
    | brk => exact False.elim hq
    | cont => exact False.elim hq
def eLenR (i : Nat) (F : FA) : FE := fun ρ => match recE i ρ with
  | some (ss, k) => match F [.v ss k] with
    | .ok (.int n) => if 0 ≤ n ∧ n < 2 ^ 62 then .ok (.int n) else .bad
    | _ => .bad
  | none => .bad
theorem d_lenR (i : Nat) {c fa : Addr} {k : Nat} {fd : FuncData} {ps : List Str} {F : FA} {x : Str} {p p2 : Pos} (T : RecC X c) (hs : PySem.W.findIn X.K (.ref c) "__len__" = some (some (.ref fa))) (hf : PySem.W.isFn X.K (.ref fa) = true) (G : FnOk X.prog X.w X.K X.mg X.base (L2.CX X.prog X.w) k fa fd ps (spA X.K X.mg 1 F)) (hr : Room (k + 1) X.A) (hb : Binds X.K fd ps [])
    (hm : X.mg "len" = none) (hN : X.N[i]? = some x := by rfl) (hv : Vis X.env.scope x := by first | exact Or.inl rfl | exact Or.inr (Or.inl rfl) | exact Or.inr (Or.inr rfl)) (hd : (x == ("__debug__" : Str)) = false := by decide) (hcd : (x == ("__classdict__" : Str)) = false := by decide)
    (hg : Gl X "len" := by rfl) (he : starEach [.Name x p2] X.env = (false, eval (.Name x p2) X.env) :: starEach [] X.env := by rfl) : PE X (.Call (.Name "len" p) [.Name x p2] [] pos) (eF (cx X B) W s (eLenR i F)) := by
  refine ⟨fun pins sh σ H Q I ⟨ρ, H0, rp, h⟩ => ?_⟩
  unfold eLenR at h
  cases q : recE i ρ with
  | none => rw [q] at h; exact h.elim
  | some sk =>
    obtain ⟨ss, kk⟩ := sk
    rw [q] at h
    simp only at h
    obtain ⟨pp, hs', R⟩ := slot_recV rp q
    obtain ⟨p', c', dx, fs, qq, xs, e1, k1, km, kf1, kf2, kf3, kq, k4, k5⟩ := id R
    cases e1
    have km : X.mg "Recorder" = some (.ref c') := km
    rw [T.mg] at km
    cases km
    refine PyProof.Rows.Call_ (ld_blt I hg hm PySem.boot_len ?_)
    refine PyProof.Rows.callWith_builtin1 (PyProof.Rows.args_cons (thn ((pe_var hN hv hd hcd).run pins sh σ H (fun v H' => v = .ref pp ∧ H' = H) I ⟨.ref pp, hs', rfl, rfl⟩) fun u s1 ⟨z, H1, I1, r1, ez, eH⟩ => PyProof.Rows.args_nil ?_) he) he rfl
    subst ez eH
    cases r1
    obtain ⟨mA, J, _⟩ := ins_get I1.hok k1
    obtain ⟨od, J, _⟩ := J.look
    obtain ⟨m, hF⟩ := I1.fr
    refine PySem.W.len_K hF I1.ok.mod.kin J hs hf ?_
    cases c2 : F [.v ss kk] with
    | bad => rw [c2] at h; exact h.elim
    | exc c3 => rw [c2] at h; exact h.elim
    | ok d =>
      rw [c2] at h
      cases d <;> try exact False.elim h
      rename_i n
      simp only at h
      by_cases hn : 0 ≤ n ∧ n < 2 ^ 62
      · rw [if_pos hn] at h
        refine wpAny_mono (run_sub (vs := [.ref pp]) (E := fun _ _ _ => False) (Q := fun v H' => v = .int n ∧ ∃ H0', Grow H1 H0 H' H0') (Sub.in1 ⟨hr, rfl⟩) G hb passF I1 (.cons rfl .nil) ⟨rfl, [.v ss kk], H0, rp.st, .cons R .nil, ?_⟩) (fun u s2 hq => ?_) fun _ _ x => x
        · rw [c2]
          intro v H' H0' g w
          cases w
          exact ⟨rfl, H0', g⟩
        · obtain ⟨z, H', I', rz, ez, H0', g⟩ := hq
          subst ez
          obtain ⟨t, rfl⟩ := rz
          exact ⟨by omega, .int n, H', I'.tok _, ⟨_, rfl⟩, h (.int n) H' H0' g (.of (.int n))⟩
      · rw [if_neg hn] at h; exact h.elim
def eStrR (i : Nat) (F : FA) : FE := fun ρ => match recE i ρ with
  | some (ss, k) => match F [.v ss k] with
    | .ok (.str x) => .ok (.str x)
    | _ => .bad
  | none => .bad
theorem d_strR (i : Nat) {c fa : Addr} {k : Nat} {fd : FuncData} {ps : List Str} {F : FA} {x : Str} {p p2 : Pos} (T : RecC X c) (hs : PySem.W.findIn X.K (.ref c) "__str__" = some (some (.ref fa))) (hf : PySem.W.isFn X.K (.ref fa) = true) (G : FnOk X.prog X.w X.K X.mg X.base (L2.CX X.prog X.w) k fa fd ps (spA X.K X.mg 1 F)) (hr : Room (k + 2) X.A) (hb : Binds X.K fd ps [])
    (hm : X.mg "str" = none) (hN : X.N[i]? = some x := by rfl) (hv : Vis X.env.scope x := by first | exact Or.inl rfl | exact Or.inr (Or.inl rfl) | exact Or.inr (Or.inr rfl)) (hd : (x == ("__debug__" : Str)) = false := by decide) (hcd : (x == ("__classdict__" : Str)) = false := by decide)
    (hg : Gl X "str" := by rfl) (he : starEach [.Name x p2] X.env = (false, eval (.Name x p2) X.env) :: starEach [] X.env := by rfl) : PE X (.Call (.Name "str" p) [.Name x p2] [] pos) (eF (cx X B) W s (eStrR i F)) := by
  refine ⟨fun pins sh σ H Q I ⟨ρ, H0, rp, h⟩ => ?_⟩
  unfold eStrR at h
  cases q : recE i ρ with
  | none => rw [q] at h; exact h.elim
  | some sk =>
    obtain ⟨ss, kk⟩ := sk
    rw [q] at h
    simp only at h
    obtain ⟨pp, hs', R⟩ := slot_recV rp q
    obtain ⟨p', c', dx, fs, qq, xs, e1, k1, km, kf1, kf2, kf3, kq, k4, k5⟩ := id R
    cases e1
    have km : X.mg "Recorder" = some (.ref c') := km
    rw [T.mg] at km
    cases km
    refine PyProof.Rows.Call_ (ld_blt I hg hm (by decide +kernel : bootBuiltins "str" = some (.type "str")) ?_)
    refine PyProof.Rows.callWith_type1 (PyProof.Rows.args_cons (thn ((pe_var hN hv hd hcd).run pins sh σ H (fun v H' => v = .ref pp ∧ H' = H) I ⟨.ref pp, hs', rfl, rfl⟩) fun u s1 ⟨z, H1, I1, r1, ez, eH⟩ => PyProof.Rows.args_nil ?_) he) he rfl
    subst ez eH
    cases r1
    obtain ⟨mA, J, _⟩ := ins_get I1.hok k1
    obtain ⟨od, J, _⟩ := J.look
    refine PySem.W.kso_call (by have := hr.un; show X.A.units + 1 + 1 < cLine; omega) I1.kIn J hs hf ?_
    cases c2 : F [.v ss kk] with
    | bad => rw [c2] at h; exact h.elim
    | exc c3 => rw [c2] at h; exact h.elim
    | ok d =>
      rw [c2] at h
      cases d <;> try exact False.elim h
      rename_i y
      simp only at h
      refine wpAny_mono (run_sub (vs := [.ref pp]) (E := fun _ _ _ => False) (Q := fun v H' => v = .str y ∧ ∃ H0', Grow H1 H0 H' H0') (Sub.in1 (Sub.in1 ⟨hr, rfl⟩)) G hb passF I1 (.cons rfl .nil) ⟨rfl, [.v ss kk], H0, rp.st, .cons R .nil, ?_⟩) (fun u s2 hq => ?_) fun _ _ x => x
      · rw [c2]
        intro v H' H0' g w
        cases w
        exact ⟨rfl, H0', g⟩
      · obtain ⟨z, H', I', rz, ez, H0', g⟩ := hq
        subst ez
        obtain ⟨t, rfl⟩ := rz
        exact ⟨.str y, H', I', ⟨_, rfl⟩, h (.str y) H' H0' g (.of (.str y))⟩
end
end CP
namespace CPS
open PySem PySem.W
section
variable {M : Model} {prog : Program} {w : World} {A : Around} {E : Value → Shared → Prop} {s : Shared} {K : PySem.W.Frag} {x y C f : Addr} {ox : Obj} {od : Option Obj}
theorem entry_neK (X : K.In s.heap) (I : PySem.W.InstAt s.heap x ox C od) (hu : A.units < cLine) (hs : findIn K (.ref C) "__eq__" = some (some (.ref f))) (hf : isFn K (.ref f) = true) {Q : Fin → Shared → Prop}
    (hcall : wpAny (model prog w) A (call (.ref f) [.ref x, .ref y]) (fun v s' => ∃ b, v = .bool b ∧ Q (.done (.ret (.bool (!b)))) s') E s) :
    wpAny (model prog w) A (Builtin.«object.__ne__» ⟨[.ref x, .ref y], []⟩) Q E s := by
  unfold Builtin.«object.__ne__»
  repeat (first
    | with_reducible refine wpAny_cRoomFor hu ?_
    | (refine wpAny_bind (m := callSpecialIfBound? (.ref x) (Str.ofString "__eq__") [.ref y])
        (ifBound_K X I hs hf (wpAny_mono hcall (fun r s' hr => by
          obtain ⟨b, rfl, hq⟩ := hr
          repeat (first | exact hq | exact wpAny_pure hq | exact wpAny_truthy_bool hq | (refine wpAny_bind (m := truthy (.bool _)) (wpAny_truthy_bool ?_)) | wp_step)) fun _ _ e => e)))
    | wp_step)
theorem call_objNe (X : K.In s.heap) (I : PySem.W.InstAt s.heap x ox C od) (hu : A.units + 1 < cLine) (hm : mroIn K C (.type "object") = some true) (hs : findIn K (.ref C) "__eq__" = some (some (.ref f))) (hf : isFn K (.ref f) = true) {Q : Value → Shared → Prop}
    (hcall : wpAny (model prog w) A.in1 (call (.ref f) [.ref x, .ref y]) (fun v s' => ∃ b, v = .bool b ∧ Q (.bool (!b)) s') E s) :
    wpAny (model prog w) A (call (.builtin "object.__ne__") [.ref x, .ref y]) Q E s :=
  wpAny_call (codeAny_call_builtin F.cmp_object.ne.plain F.cmpEntry_ne (PySem.W.check_slot F.cmpKind_ne F.cmpSplit_ne (I.type.andThen (PySem.W.looks_mroIn X hm)) (F.cmpArgs_ne _ _) (entry_neK X I hu hs hf (wpAny_mono hcall (fun v s' hv => by obtain ⟨b, h1, h2⟩ := hv; exact ⟨b, h1, h2⟩) fun _ _ e => e))))
theorem ifBound_objNe {args : List Value} {Q : Option Value → Shared → Prop} (X : K.In s.heap) (I : PySem.W.InstAt s.heap x ox C od) (hs : PySem.W.findIn K (.ref C) "__ne__" = some (some (.builtin "object.__ne__")))
    (h : wpAny M A (call (.builtin "object.__ne__") (.ref x :: args)) (fun v => Q (some v)) E s) : wpAny M A (callSpecialIfBound? (.ref x) "__ne__" args) Q E s := by
  simp only [callSpecialIfBound?, bindSpecialIfBound?]
  refine wpAny_holding (wpAny_bind (wpAny_bind (wpAny_bind (I.type.here ((PySem.W.looks_findIn X hs).here ?_)))))
  refine wpAny_bind (wpAny_askSetting (wpAny_ite ?_))
  have fin : wpAny M A (call (.builtin "object.__ne__") ([.ref x] ++ args) >>= fun v => pure (some v)) Q E s := wpAny_bind (wpAny_mono h (fun v s' h' => wpAny_pure h') fun _ _ h' => h')
  split
  · exact wpAny_bind (wpAny_of_eq (F.cmp_object.ne.bind _) (wpAny_pure (by exact fin)))
  · exact wpAny_tryCatch (wpAny_bind (wpAny_of_eq (F.cmp_object.ne.bind _) (wpAny_pure (by exact fin))))
theorem ne_K {oy : Obj} {ody : Option Obj} (X : K.In s.heap) (I : PySem.W.InstAt s.heap x ox C od) (J : PySem.W.InstAt s.heap y oy C ody) (hu : A.units + 1 < cLine) (hm : mroIn K C (.type "object") = some true) (hs : findIn K (.ref C) "__eq__" = some (some (.ref f))) (hf : isFn K (.ref f) = true) (hn : findIn K (.ref C) "__ne__" = some (some (.builtin "object.__ne__"))) {Q : Value → Shared → Prop}
    (hcall : wpAny (model prog w) A.in1 (call (.ref f) [.ref x, .ref y]) (fun v s' => ∃ b, v = .bool b ∧ Q (.bool (!b)) s') E s) :
    wpAny (model prog w) A (richCompare .NotEq (.ref x) (.ref y)) Q E s := by
  have one : wpAny (model prog w) A (tryCompare (.ref x) "__ne__" (.ref y)) (fun r s' => ∃ b, r = some (.bool b) ∧ Q (.bool b) s') E s := by
    unfold tryCompare
    refine wpAny_bind (ifBound_objNe X I hn (call_objNe X I hu hm hs hf (wpAny_mono hcall (fun v s' hv => ?_) fun _ _ e => e)))
    obtain ⟨b, rfl, hq⟩ := hv
    exact ⟨b, rfl, wpAny_pure ⟨_, rfl, hq⟩⟩
  unfold richCompare
  simp only [oneThing_ref]
  refine wpAny_holding (wpAny_bind (wpAny_cRoomFor (Nat.lt_of_succ_lt hu) ?_))
  rw [cmpInfo_NotEq]
  dsimp only
  refine wpAny_bind (I.type.here (wpAny_bind (J.type.here ?_)))
  rw [show (Value.ref C != Value.ref C) = false from by simp]
  simp only [Bool.false_eq_true, if_false]
  refine wpAny_bind (wpAny_pure ?_)
  simp only [Bool.false_eq_true, if_false]
  refine wpAny_bind (wpAny_mono one (fun v s' hv => ?_) fun _ _ e => e)
  obtain ⟨b, rfl, hq⟩ := hv
  exact wpAny_pure hq
end
end CPS
namespace CP
open PySem L2
section
variable {X : Cx} {B : Bs} {W : WX} {e : Expr} {f : FE} {pos : Pos} {s : Bool}
structure RecQ (X : Cx) (c fe : Addr) : Prop where
  eq : PySem.W.findIn X.K (.ref c) "__eq__" = some (some (.ref fe))
  fn : PySem.W.isFn X.K (.ref fe) = true
  ne : PySem.W.findIn X.K (.ref c) "__ne__" = some (some (.builtin "object.__ne__"))
  mro : PySem.W.mroIn X.K c (.type "object") = some true
def YOk (K : PySem.W.Frag) (c : Addr) (H : Hp) (y : V) : Prop := (∃ p dx fs, y = .ref p ∧ H p = some (.ins c dx fs)) ∨ (∃ x, y = .str x) ∨ ∃ a xs, y = .ref a ∧ SqT K H a xs
theorem sub_ty {K : PySem.W.Frag} {c : Addr} {T : String} {ms : List Value} (e : fastBuiltinMro T = some ms) (h : ms.contains (.ref c) = false) : PySem.W.notFirst K c (.type T) = true := by
  have : PySem.W.subIn K (.type T) (.ref c) = some false := by
    show (fastBuiltinMro T).map (·.contains (.ref c)) = some false
    rw [e]
    show some (ms.contains (.ref c)) = _
    rw [h]
  unfold PySem.W.notFirst
  rw [this]
  simp
def rEq1 (c : Addr) (K : PySem.W.Frag) (sp : Sp) (neg : Bool) : R2 := fun x y H Q => ∃ p dx fs, x = .ref p ∧ H p = some (.ins c dx fs) ∧ YOk K c H y ∧ sp [x, y] H (fun v H' => ∃ b, v = .bl b ∧ Q (.bl (if neg then !b else b)) H') (fun _ _ _ => False)
theorem op_eqS {c fa : Addr} {k : Nat} {fd : FuncData} {ps : List Str} {sp : Sp} (Tq : RecQ X c fa) (G : FnOk X.prog X.w X.K X.mg X.base (L2.CX X.prog X.w) k fa fd ps sp) (hr : Room k X.A) (hb : Binds X.K fd ps []) : OpR X (compareOp .Eq) (rEq1 c X.K sp false) := by
  rintro pins sh σ H x y u v Q I rx ry ⟨p, dx, fs, rfl, hp, hy, h⟩
  cases rx
  obtain ⟨mA, J, _⟩ := ins_get I.hok hp
  obtain ⟨od, J, _⟩ := J.look
  obtain ⟨m, hF⟩ := I.fr
  have main : ∀ tb, PySem.W.Looks (model X.prog X.w) sh.heap (typeOf v) tb → PySem.W.notFirst X.K c tb = true → wpAny (model X.prog X.w) X.A (richCompare .Eq (.ref p) v) (EP X pins σ Q) X.xe sh := fun tb lk hn => by
    refine PySem.W.cmp_K (op := .Eq) (tb := tb) (by have := hr.un; omega) hF I.ok.mod.kin J lk hn Tq.eq Tq.fn ?_
    refine wpAny_mono (run_sub (vs := [.ref p, y]) (E := fun _ _ _ => False) ⟨hr, rfl⟩ G hb passF I (.cons rfl (.cons ry .nil)) h) (fun w s2 hq => ?_) fun _ _ x => x
    obtain ⟨z, H', I', rz, b, rfl, q⟩ := hq
    cases rz
    exact ⟨.bl b, H', I', rfl, q⟩
  show wpAny (model X.prog X.w) X.A (richCompare .Eq (.ref p) v) (EP X pins σ Q) X.xe sh
  rcases hy with ⟨p', dx', fs', rfl, hp'⟩ | ⟨y', rfl⟩ | ⟨a, xs, rfl, ha⟩
  · cases ry
    obtain ⟨mB, J', _⟩ := ins_get I.hok hp'
    obtain ⟨od', J', _⟩ := J'.look
    exact main (.ref c) J'.type (by simp [PySem.W.notFirst])
  · obtain ⟨t, rfl⟩ := ry
    exact main (.type "str") (PySem.W.Looks.of_pure rfl) (sub_ty (by decide +kernel : fastBuiltinMro "str" = some [.type "str", .type "object"]) (by simp))
  · cases ry
    obtain ⟨its, r, ⟨o, ho, hc, n, hd⟩, hz⟩ := I.tuple ha
    exact main (.type "tuple") (fun A Q E s kp q => wpAny_typeOf_ref (kp _ _ ho) (hc ▸ q)) (sub_ty (by decide +kernel : fastBuiltinMro "tuple" = some [.type "tuple", .type "object"]) (by simp))
theorem op_neS {c fa : Addr} {k : Nat} {fd : FuncData} {ps : List Str} {sp : Sp} (Tq : RecQ X c fa) (G : FnOk X.prog X.w X.K X.mg X.base (L2.CX X.prog X.w) k fa fd ps sp) (hr : Room (k + 1) X.A) (hb : Binds X.K fd ps []) : OpR X (compareOp .NotEq) (fun x y H Q => (∃ p dx fs, y = .ref p ∧ H p = some (.ins c dx fs)) ∧ rEq1 c X.K sp true x y H Q) := by
  rintro pins sh σ H x y u v Q I rx ry ⟨⟨p', dx', fs', rfl, hp'⟩, p, dx, fs, rfl, hp, hy, h⟩
  cases rx
  cases ry
  obtain ⟨mA, J, _⟩ := ins_get I.hok hp
  obtain ⟨od, J, _⟩ := J.look
  obtain ⟨mB, J', _⟩ := ins_get I.hok hp'
  obtain ⟨od', J', _⟩ := J'.look
  show wpAny (model X.prog X.w) X.A (richCompare .NotEq (.ref p) (.ref p')) (EP X pins σ Q) X.xe sh
  refine CPS.ne_K I.kIn J J' (by have := hr.un; omega) Tq.mro Tq.eq Tq.fn Tq.ne ?_
  refine wpAny_mono (run_sub (vs := [.ref p, .ref p']) (E := fun _ _ _ => False) (Sub.in1 ⟨hr, rfl⟩) G hb passF I (.cons rfl (.cons rfl .nil)) h) (fun w s2 hq => ?_) fun _ _ x => x
  obtain ⟨z, H', I', rz, b, rfl, q⟩ := hq
  cases rz
  exact ⟨b, rfl, .bl (!b), H', I', rfl, q⟩
def boolR (neg : Bool) : R PyData → R PyData
  | .ok (.bool b) => .ok (.bool (if neg then !b else b))
  | _ => .bad
def eEqR (neg : Bool) (i j : Nat) (F : FA) : FE := fun ρ => match recE i ρ, recE j ρ with
  | some (s1, k1), some (s2, k2) => boolR neg (F [.v s1 k1, .v s2 k2])
  | _, _ => .bad
theorem RecV.ins {K : PySem.W.Frag} {mg : Str → Option Value} {H H0 : Hp} {p c : Addr} {ss : List PyData} {k : Int} (R : RecV K mg H H0 (.ref p) ss k) (hm : mg "Recorder" = some (.ref c)) : ∃ dx fs, H p = some (.ins c dx fs) := by
  obtain ⟨p', c', dx, fs, qq, xs, e1, k1, km, _⟩ := R
  cases e1
  rw [hm] at km
  cases km
  exact ⟨dx, fs, k1⟩
theorem sp_bool {K : PySem.W.Frag} {mg : Str → Option Value} {H H0 : Hp} {F : FA} {neg : Bool} {vs : List V} {as : List SV} {Q : VK} {C : PX} {σ : St} (hn : vs.length = 2) (i : Same H0 H) (ha : AvAll K mg H H0 vs as) (h : eO C W s σ H H0 (boolR neg (F as)) Q) : spA K mg 2 F vs H (fun v H' => ∃ b, v = .bl b ∧ Q (.bl (if neg then !b else b)) H') (fun _ _ _ => False) := by
  refine ⟨hn, as, H0, i, ha, ?_⟩
  cases c : F as with
  | bad => rw [c] at h; exact h.elim
  | exc _ => rw [c] at h; exact h.elim
  | ok d =>
    rw [c] at h
    cases d <;> try exact False.elim h
    rename_i b
    intro v H' H0' g w
    cases w
    exact ⟨b, rfl, h _ H' H0' g (.of (.bl _))⟩
theorem read_rr {c : Addr} {neg : Bool} {i j : Nat} {F : FA} {σ : St} {H : Hp} {Q : VK} (T : RecC X c) (h : eF (cx X B) W s (eEqR neg i j F) σ H Q) : tOp (fun x y H Q => (∃ p dx fs, y = .ref p ∧ H p = some (.ins c dx fs)) ∧ rEq1 c X.K (spA X.K X.mg 2 F) neg x y H Q) (tVar i) (tVar j) σ H Q := by
  obtain ⟨ρ, H0, rp, h⟩ := h
  unfold eEqR at h
  cases q : recE i ρ with
  | none => rw [q] at h; exact h.elim
  | some sk =>
    cases q2 : recE j ρ with
    | none => rw [q, q2] at h; exact h.elim
    | some sk2 =>
      obtain ⟨s1, k1⟩ := sk
      obtain ⟨s2, k2⟩ := sk2
      rw [q, q2] at h
      obtain ⟨p1, hs1, R1⟩ := slot_recV rp q
      obtain ⟨p2, hs2, R2⟩ := slot_recV rp q2
      obtain ⟨dx1, fs1, i1⟩ := R1.ins T.mg
      obtain ⟨dx2, fs2, i2⟩ := R2.ins T.mg
      exact ⟨.ref p1, hs1, .ref p2, hs2, ⟨p2, dx2, fs2, rfl, i2⟩, p1, dx1, fs1, rfl, i1, .inl ⟨p2, dx2, fs2, rfl, i2⟩, sp_bool rfl rp.st (.cons (a := .v s1 k1) R1 (.cons (a := .v s2 k2) R2 .nil)) h⟩
theorem read_b {a : FE} {σ : St} {H : Hp} {Q : Bool → Hp → Prop} {C : PX} (h : tF C W (tB a) σ H Q) : eF C W s a σ H fun x H1 => ∃ c, x = .bl c ∧ Q c H1 := by
  obtain ⟨ρ, H0, rp, h⟩ := h
  refine ⟨ρ, H0, rp, eO.seqT h fun d v H1 H01 g w q => ?_⟩
  cases d with
  | bool b => exact ⟨b, w.bl, q H1 H01 (Grow.refl g.i)⟩
  | _ => exact False.elim q
variable {x y : Str} {p1 p2 : Pos}
theorem opS_rr {c fa : Addr} {k : Nat} {fd : FuncData} {ps : List Str} {F : FA} (neg : Bool) (Tq : RecQ X c fa) (G : FnOk X.prog X.w X.K X.mg X.base (L2.CX X.prog X.w) k fa fd ps (spA X.K X.mg 2 F)) (hr : Room (k + 1) X.A) (hb : Binds X.K fd ps []) : OpR X (compareOp (if neg then .NotEq else .Eq)) (fun x y H Q => (∃ p dx fs, y = .ref p ∧ H p = some (.ins c dx fs)) ∧ rEq1 c X.K (spA X.K X.mg 2 F) neg x y H Q) := by
  cases neg with
  | true => exact op_neS Tq G hr hb
  | false => exact fun pins s σ H x y v u Q I rx ry h => op_eqS Tq G (hr.mono (by omega)) hb pins s σ H x y v u Q I rx ry h.2
theorem d_eqRR (neg : Bool) {op : CmpOp} (ho : op = if neg then .NotEq else .Eq) (i j : Nat) {c fa : Addr} {k : Nat} {fd : FuncData} {ps : List Str} {F : FA} (T : RecC X c) (Tq : RecQ X c fa) (G : FnOk X.prog X.w X.K X.mg X.base (L2.CX X.prog X.w) k fa fd ps (spA X.K X.mg 2 F)) (hr : Room (k + 1) X.A) (hb : Binds X.K fd ps [])
    (hN : X.N[i]? = some x := by rfl) (hv : Vis X.env.scope x := by first | exact Or.inl rfl | exact Or.inr (Or.inl rfl) | exact Or.inr (Or.inr rfl)) (hd : (x == ("__debug__" : Str)) = false := by decide) (hcd : (x == ("__classdict__" : Str)) = false := by decide)
    (hN2 : X.N[j]? = some y := by rfl) (hv2 : Vis X.env.scope y := by first | exact Or.inl rfl | exact Or.inr (Or.inl rfl) | exact Or.inr (Or.inr rfl)) (hd2 : (y == ("__debug__" : Str)) = false := by decide) (hcd2 : (y == ("__classdict__" : Str)) = false := by decide)
    (hm : behindInMarks op (.Name y p2) = false := by first | exact nomark _ | rfl) : PE X (.Compare (.Name x p1) [op] [.Name y p2] pos) (eF (cx X B) W s (eEqR neg i j F)) := by
  subst ho
  exact (pe_cmpR (opS_rr neg Tq G hr hb) (pe_var hN hv hd hcd) (pe_var hN2 hv2 hd2 hcd2) hm).weak fun σ H Q h => read_rr T h
theorem t_eqRR (neg : Bool) {op : CmpOp} (ho : op = if neg then .NotEq else .Eq) (i j : Nat) {c fa : Addr} {k : Nat} {fd : FuncData} {ps : List Str} {F : FA} (T : RecC X c) (Tq : RecQ X c fa) (G : FnOk X.prog X.w X.K X.mg X.base (L2.CX X.prog X.w) k fa fd ps (spA X.K X.mg 2 F)) (hr : Room (k + 1) X.A) (hb : Binds X.K fd ps [])
    (hN : X.N[i]? = some x := by rfl) (hv : Vis X.env.scope x := by first | exact Or.inl rfl | exact Or.inr (Or.inl rfl) | exact Or.inr (Or.inr rfl)) (hd : (x == ("__debug__" : Str)) = false := by decide) (hcd : (x == ("__classdict__" : Str)) = false := by decide)
    (hN2 : X.N[j]? = some y := by rfl) (hv2 : Vis X.env.scope y := by first | exact Or.inl rfl | exact Or.inr (Or.inl rfl) | exact Or.inr (Or.inr rfl)) (hd2 : (y == ("__debug__" : Str)) = false := by decide) (hcd2 : (y == ("__classdict__" : Str)) = false := by decide)
    (hm : behindInMarks op (.Name y p2) = false := by first | exact nomark _ | rfl) : PT X (.Compare (.Name x p1) [op] [.Name y p2] pos) (tF (cx X B) W (tB (eEqR neg i j F))) := by
  subst ho
  exact (pt_cmpR (opS_rr neg Tq G hr hb) (pe_var hN hv hd hcd) (pe_var hN2 hv2 hd2 hcd2) hm).weak fun σ H Q h => read_rr (s := true) T (read_b h)
def isTS : PyData → Bool
  | .tuple _ => true
  | .str _ => true
  | _ => false
def eEqD (i : Nat) (fe : FE) (F : FA) : FE := fun ρ => match recE i ρ with
  | some (s1, k1) => (fe ρ).bind fun d => if isTS d = true then boolR false (F [.v s1 k1, .d d]) else .bad
  | none => .bad
theorem RecV.grow {K : PySem.W.Frag} {mg : Str → Option Value} {H H0 H' H0' : Hp} {v : V} {ss : List PyData} {k : Int} (R : RecV K mg H H0 v ss k) (g : Grow H H0 H' H0') : RecV K mg H' H0' v ss k := by
  obtain ⟨p', c', dx, fs, qq, xs, e1, k1, km, kf1, kf2, kf3, kq, k4, k5⟩ := R
  exact ⟨p', c', dx, fs, qq, xs, e1, g.a _ _ k1, km, kf1, kf2, kf3, g.a _ _ kq, k4, k5.same g.z⟩
theorem read_rd {c : Addr} {i : Nat} {fe : FE} {F : FA} {σ : St} {H : Hp} {Q : VK} (T : RecC X c) (h : eF (cx X B) W s (eEqD i fe F) σ H Q) : tOp (rEq1 c X.K (spA X.K X.mg 2 F) false) (tVar i) (eF (cx X B) W true fe) σ H Q := by
  obtain ⟨ρ, H0, rp, h⟩ := h
  unfold eEqD at h
  cases q : recE i ρ with
  | none => rw [q] at h; exact h.elim
  | some sk =>
    obtain ⟨s1, k1⟩ := sk
    rw [q] at h
    simp only at h
    obtain ⟨pp, hs1, R1⟩ := slot_recV rp q
    refine ⟨.ref pp, hs1, ρ, H0, rp, eO.seq (ρ := ρ) h fun d v H1 H01 g w h1 => ?_⟩
    by_cases hd : isTS d = true
    · rw [if_pos hd] at h1
      have R2 := R1.grow g
      obtain ⟨dx1, fs1, i1⟩ := R2.ins T.mg
      refine ⟨pp, dx1, fs1, rfl, i1, ?_, sp_bool rfl g.i (.cons (a := .v s1 k1) R2 (.cons (a := .d d) w.strong .nil)) h1⟩
      cases d <;> try cases hd
      · exact .inr (.inl ⟨_, w.str⟩)
      · obtain ⟨a, xs, rfl, h2, _⟩ := w.strong.tupE
        exact .inr (.inr ⟨a, xs, rfl, sqt_same g.i h2⟩)
    · rw [if_neg hd] at h1; exact h1.elim
theorem t_eqRD (i : Nat) {c fa : Addr} {k : Nat} {fd : FuncData} {ps : List Str} {F : FA} {e : Expr} {fe : FE} (T : RecC X c) (Tq : RecQ X c fa) (G : FnOk X.prog X.w X.K X.mg X.base (L2.CX X.prog X.w) k fa fd ps (spA X.K X.mg 2 F)) (hr : Room k X.A) (hb : Binds X.K fd ps []) (he : PE X e (eF (cx X B) W true fe))
    (hN : X.N[i]? = some x := by rfl) (hv : Vis X.env.scope x := by first | exact Or.inl rfl | exact Or.inr (Or.inl rfl) | exact Or.inr (Or.inr rfl)) (hd : (x == ("__debug__" : Str)) = false := by decide) (hcd : (x == ("__classdict__" : Str)) = false := by decide)
    (hm : behindInMarks .Eq e = false := by first | exact nomark _ | rfl) : PT X (.Compare (.Name x p1) [.Eq] [e] pos) (tF (cx X B) W (tB (eEqD i fe F))) :=
  (pt_cmpR (op_eqS Tq G hr hb) (pe_var hN hv hd hcd) he hm).weak fun σ H Q h => read_rd (s := true) T (read_b h)
def eEqN (i : Nat) (F : FA) : FE := fun ρ => match recE i ρ with
  | some (s1, k1) => boolR false (F [.v s1 k1, .v [.tuple []] 0])
  | none => .bad
theorem d_eqRN (i : Nat) {c fa : Addr} {k : Nat} {fd : FuncData} {ps : List Str} {F : FA} {e : Expr} (T : RecC X c) (Tq : RecQ X c fa) (G : FnOk X.prog X.w X.K X.mg X.base (L2.CX X.prog X.w) k fa fd ps (spA X.K X.mg 2 F)) (hr : Room k X.A) (hb : Binds X.K fd ps []) (he : PE X e (wF (cx X B) W [.tuple []] 0))
    (hN : X.N[i]? = some x := by rfl) (hv : Vis X.env.scope x := by first | exact Or.inl rfl | exact Or.inr (Or.inl rfl) | exact Or.inr (Or.inr rfl)) (hd : (x == ("__debug__" : Str)) = false := by decide) (hcd : (x == ("__classdict__" : Str)) = false := by decide)
    (hm : behindInMarks .Eq e = false := by first | exact nomark _ | rfl) : PE X (.Compare (.Name x p1) [.Eq] [e] pos) (eF (cx X B) W s (eEqN i F)) := by
  refine (pe_cmpR (op_eqS Tq G hr hb) (pe_var hN hv hd hcd) he hm).weak fun σ H Q h => ?_
  obtain ⟨ρ, H0, rp, h⟩ := h
  unfold eEqN at h
  cases q : recE i ρ with
  | none => rw [q] at h; exact h.elim
  | some sk =>
    obtain ⟨s1, k1⟩ := sk
    rw [q] at h
    simp only at h
    obtain ⟨pp, hs1, R1⟩ := slot_recV rp q
    refine ⟨.ref pp, hs1, ρ, H0, rp, fun p q c' dx fs H' H0' g hp hq R => ?_⟩
    have R2 := R1.grow g
    obtain ⟨dx1, fs1, i1⟩ := R2.ins T.mg
    obtain ⟨xs, l1, l2⟩ := R.lst
    have cc : c' = c := by
      have h3 : X.mg "Recorder" = some (.ref c') := R.cls
      rw [T.mg] at h3
      cases h3
      rfl
    subst cc
    exact ⟨pp, dx1, fs1, rfl, i1, .inl ⟨p, dx, fs, rfl, R.ins⟩, sp_bool rfl g.i (.cons (a := .v s1 k1) R2 (.cons (a := .v [.tuple []] 0) ⟨p, c', dx, fs, q, xs, rfl, R.ins, R.cls, R.st, R.kp, R.few, l1, R.len, l2⟩ .nil)) (eO.grow h g)⟩
end
end CP
namespace CP
open PySem L2
inductive OutU where
  | next (ρ : EV)
  | ret (d : PyData) (ρ : EV)
  | exc (c : Ex) (ρ : EV)
  | bad
abbrev FU := EV → OutU
def uO (C : PX) (W : WX) (H0 : Hp) (D : Ends) : OutU → Prop
  | .next ρ => ∀ σ' H' H0', Same H0 H0' → Rep C σ' H' H0' ρ → D.nx σ' H'
  | .ret d ρ => ∀ v σ' H' H0', Same H0 H0' → Rep C σ' H' H0' ρ → Dq C.K H0' v d → D.rt v H'
  | .exc c ρ => ∀ cls dd σ' H' H0', Same H0 H0' → Rep C σ' H' H0' ρ → ExR C.K C.mg H' c cls dd → W cls dd σ' H'
  | .bad => False
def uF (C : PX) (W : WX) (g : FU) : TS := fun D σ H => ∃ ρ H0, Rep C σ H H0 ρ ∧ uO C W H0 D (g ρ)
theorem uO.grow {C : PX} {W : WX} {H0 H01 : Hp} {D : Ends} {o : OutU} (h : uO C W H0 D o) (e : Same H0 H01) : uO C W H01 D o := by
  cases o with
  | next ρ => exact fun σ' H' H0' e' => h σ' H' H0' (e.trans e')
  | ret d ρ => exact fun v σ' H' H0' e' => h v σ' H' H0' (e.trans e')
  | exc c ρ => exact fun cls dd σ' H' H0' e' => h cls dd σ' H' H0' (e.trans e')
  | bad => exact h
section
variable {X : Cx} {B : Bs} {W : WX} {e : Expr} {f : FE} {q : EV → RQ} {pos : Pos} {st : Stmt} {rest : List Stmt} {g : FS} {u u2 : FU} {s : Bool}
def uNil : FU := fun ρ => .next ρ
def uSeq (u u2 : FU) : FU := fun ρ => match u ρ with
  | .next ρ' => u2 ρ'
  | o => o
theorem us_n : PSs X [] (uF (cx X B) W uNil) := pss_nil.weak fun D σ H ⟨ρ, H0, rp, h⟩ => h σ H H0 (Same.refl _) rp
theorem us_c (h1 : PS X st (uF (cx X B) W u)) (h2 : PSs X rest (uF (cx X B) W u2)) : PSs X (st :: rest) (uF (cx X B) W (uSeq u u2)) := by
  refine (pss_cons h1 h2).weak fun D σ H ⟨ρ, H0, rp, h⟩ => ⟨ρ, H0, rp, ?_⟩
  unfold uSeq at h
  cases c : u ρ with
  | next ρ' => rw [c] at h; exact fun σ' H' H0' e r' => ⟨ρ', H0', r', h.grow e⟩
  | exc c' ρ' => rw [c] at h; exact h
  | ret _ _ => rw [c] at h; exact h
  | bad => rw [c] at h; exact h.elim
theorem us_1 (h1 : PS X st (uF (cx X B) W u)) : PSs X [st] (uF (cx X B) W u) := pss_one h1
def uS (g : FS) : FU := fun ρ => match g ρ with
  | .next ρ' => .next ρ'
  | .exc c ρ' => .exc c ρ'
  | _ => .bad
theorem u_s (h : PS X st (sF (cx X B) W g)) : PS X st (uF (cx X B) W (uS g)) := h.weak fun D σ H ⟨ρ, H0, rp, h⟩ => ⟨ρ, H0, rp, by
  unfold uS at h
  cases c : g ρ with
  | next ρ' => rw [c] at h; exact h
  | exc c' ρ' => rw [c] at h; exact h
  | brk _ => rw [c] at h; exact h.elim
  | cont _ => rw [c] at h; exact h.elim
  | ret _ => rw [c] at h; exact h.elim
  | bad => rw [c] at h; exact h.elim⟩
def uRet (q : EV → RQ) : FU := fun ρ => match q ρ with
  | .ok d ρ' => .ret d ρ'
  | .exc c ρ' => .exc c ρ'
  | .bad => .bad
theorem u_ret (he : PE X e (qF (cx X B) W q)) : PS X (.Return (some e) pos) (uF (cx X B) W (uRet q)) := by
  refine (ps_ret he).weak fun D σ H ⟨ρ, H0, rp, h⟩ => ⟨ρ, H0, rp, ?_⟩
  unfold uRet at h
  cases c : q ρ with
  | bad => rw [c] at h; exact h
  | exc c' ρ' => rw [c] at h; exact fun cls dd H' H0' g r' x => h cls dd σ H' H0' g r' x
  | ok d ρ' => rw [c] at h; exact fun v H' H0' g r' w => h v σ H' H0' g r' w
def uIf (t : EV → R Bool) (u u2 : FU) : FU := fun ρ => match t ρ with
  | .ok b => if b = true then u ρ else u2 ρ
  | .exc c => .exc c ρ
  | .bad => .bad
theorem u_if {c : Expr} {l1 l2 : List Stmt} {t : EV → R Bool} (hc : PT X c (tF (cx X B) W t)) (h1 : PSs X l1 (uF (cx X B) W u)) (h2 : PSs X l2 (uF (cx X B) W u2)) : PS X (.If c l1 l2 pos) (uF (cx X B) W (uIf t u u2)) := by
  refine (ps_if hc h1 h2).weak fun D σ H ⟨ρ, H0, rp, h⟩ => ⟨ρ, H0, rp, ?_⟩
  unfold uIf at h
  cases c : t ρ with
  | bad => rw [c] at h; exact h
  | exc c' => rw [c] at h; exact fun cls dd H' H0' g x => h cls dd σ H' H0' g.z (rp.grow g) x
  | ok b =>
    rw [c] at h
    intro H' H0' g
    cases b with
    | true => exact ⟨ρ, H0', rp.grow g, h.grow g.z⟩
    | false => exact ⟨ρ, H0', rp.grow g, h.grow g.z⟩
def qIf (t : EV → R Bool) (q q2 : EV → RQ) : EV → RQ := fun ρ => match t ρ with
  | .ok b => if b = true then q ρ else q2 ρ
  | .exc c => .exc c ρ
  | .bad => .bad
theorem q_if {c a b : Expr} {t : EV → R Bool} {qa qb : EV → RQ} (hc : PT X c (tF (cx X B) W t)) (ha : PE X a (qF (cx X B) W qa)) (hb : PE X b (qF (cx X B) W qb)) : PE X (.IfExp c a b pos) (qF (cx X B) W (qIf t qa qb)) := by
  refine (pe_ifExp hc ha hb).weak fun σ H Q ⟨ρ, H0, rp, h⟩ => ⟨ρ, H0, rp, ?_⟩
  unfold qIf at h
  cases c : t ρ with
  | bad => rw [c] at h; exact h
  | exc c' => rw [c] at h; exact fun cls dd H' H0' g x => h cls dd H' H0' g.z (rp.grow g) x
  | ok b =>
    rw [c] at h
    intro H' H0' g
    cases b with
    | true => exact ⟨ρ, H0', rp.grow g, h.grow g.z⟩
    | false => exact ⟨ρ, H0', rp.grow g, h.grow g.z⟩
end
def tryGoU (i : Nat) (c : Ex) (ρ : EV) : List (Str × FU) → OutU
  | [] => .exc c ρ
  | p :: r => if isub c.name p.1 then (match p.2 (ρ.set i (some (.x c))) with
      | .next ρ2 => if noX (ρ2.set i none) then .next (ρ2.set i none) else .bad
      | .ret d ρ2 => if noX (ρ2.set i none) then .ret d (ρ2.set i none) else .bad
      | _ => .bad) else tryGoU i c ρ r
def uTry (ns : List Str) (i : Nat) (b : FU) (hs : List (Str × FU)) : FU := fun ρ => match b ρ with
  | .exc c ρ' => if c.name ∈ ns ∧ c.arg.isNone = true ∧ noX ρ' = true ∧ i < ρ'.length then tryGoU i c ρ' hs else .bad
  | o => o
def uX (C : PX) (ns : List Str) (g : FU) : CPX.SuiteT := fun a k d D σ H => ∃ c : Ex, (c.name ∈ ns ∧ c.arg = none ∧ C.mg c.name = some k ∧ d = none) ∧ uF ⟨C.K, C.mg, inS C.B a c⟩ WN g D σ H
inductive ClausesU (X : Cx) (B : Bs) (ns : List Str) (n : Str) : List ExceptHandler → List (Str × FU) → Prop
  | nil : ClausesU X B ns n [] []
  | cons {y : Str} {g : FU} {b0 : Stmt} {su : List Stmt} {np ps : Pos} {hs : List ExceptHandler} {l : List (Str × FU)} : YRow X.K X.mg ns y → Gl X y → (y == ("__debug__" : Str)) = false →
      (∀ (a : Addr) (oe : Obj) (k : Value) (pn : List (Addr × Obj)) (c : Ex), c.name ∈ ns → X.mg c.name = some k → Zc k none oe → (∃ vs, oe.data = .fields vs) → PSs (X.suite a ((a, oe) :: pn)) (b0 :: su) (uF ⟨X.K, X.mg, inS B a c⟩ WN g)) → ClausesU X B ns n hs l →
      ClausesU X B ns n (.ExceptHandler (some (.Name y np)) (some n) (b0 :: su) ps :: hs) ((y, g) :: l)
section
variable {X : Cx} {B : Bs} {W : WX} {pos : Pos}
theorem wishU_of {ns : List Str} {n : Str} {i : Nat} {D : Ends} {hs : List ExceptHandler} {l : List (Str × FU)} (h : ClausesU X B ns n hs l) : ∃ r, CPX.Clauses X n hs r ∧ ∀ (c : Ex) (ρ : EV) (k : Value) (σ : St) (H H0 : Hp), c.name ∈ ns → c.arg = none → noX ρ = true → i < ρ.length → X.mg c.name = some k →
    Rep (cx X B) σ H H0 ρ → uO (cx X B) W H0 D (tryGoU i c ρ l) → CPX.wishM X.K i D W r k none σ H := by
  induction h with
  | nil =>
    refine ⟨[], .nil, fun c ρ k σ H H0 h1 h2 h3 h4 h5 rp o => ?_⟩
    exact o k none σ H H0 (Same.refl _) rp ⟨h5, by rw [h2]⟩
  | @cons y g b0 su np ps hs l hy hg hd sui _ ih =>
    obtain ⟨u, v, y1, y2, y3, y4⟩ := hy
    obtain ⟨r, c1, c2⟩ := ih
    refine ⟨(u, uX (cx X B) ns g) :: r, .cons ⟨hg, hd, ?_⟩ (fun a oe k d pn z f => ?_) c1, fun c ρ k σ H H0 h1 h2 h3 h4 h5 rp o => ?_⟩
    · rcases y3 with y3 | ⟨y3, y5, y6, _⟩
      · exact .inl y3
      · exact .inr ⟨y3, y5, y6⟩
    · refine ⟨fun pins s σ H D I q => ?_⟩
      obtain ⟨c, ⟨q1, q2, q3, q4⟩, q5⟩ := q
      subst q4
      exact (sui a oe k pn c q1 q3 z f).run pins s σ H D I q5
    · obtain ⟨Dc, z1, z2, z3, z4⟩ := y4 c.name h1
      have ek : k = .ref Dc := Option.some.inj (h5.symm.trans z1)
      subst ek
      refine ⟨isub c.name y, z4, fun e a ha => ?_, fun e => ?_⟩
      · unfold tryGoU at o
        rw [if_pos (by simpa using e)] at o
        refine ⟨c, ⟨h1, h2, h5, rfl⟩, ρ.set i (some (.x c)), H0, rp.inS h3 h4 a c, ?_⟩
        simp only at o
        cases q : g (ρ.set i (some (.x c))) with
        | next ρ2 =>
          rw [q] at o
          simp only at o
          by_cases hn : noX (ρ2.set i none) = true
          · rw [if_pos hn] at o
            exact fun σ' H' H0' e' r' => o _ H' H0' e' (Rep.offS (B := B) (B' := CP.inS B a c) rfl rfl rfl r' hn)
          · rw [if_neg hn] at o
            exact o.elim
        | ret d ρ2 =>
          rw [q] at o
          simp only at o
          by_cases hn : noX (ρ2.set i none) = true
          · rw [if_pos hn] at o
            exact fun v σ' H' H0' e' r' w => o v _ H' H0' e' (Rep.offS (B := B) (B' := CP.inS B a c) rfl rfl rfl r' hn) w
          · rw [if_neg hn] at o
            exact o.elim
        | exc _ _ => rw [q] at o; exact o.elim
        | bad => rw [q] at o; exact o.elim
      · unfold tryGoU at o
        rw [if_neg (by simp [e])] at o
        exact c2 c ρ (.ref Dc) σ H H0 h1 h2 h3 h4 h5 rp o
theorem u_try {ns : List Str} {n : Str} (i : Nat) {bd : List Stmt} {e0 : ExceptHandler} {er : List ExceptHandler} {g : FU} {l : List (Str × FU)} (hN : X.N.Nodup) (tk : Takes X W)
    (hb : ∀ (W' : WX) (pn : List (Addr × Obj)) (xe : Value → Shared → Prop), Takes (X.tr pn xe) W' → PassesOwn (model X.prog X.w) X.A X.env xe → PSs (X.tr pn xe) bd (uF (cx X B) W' g)) (cl : ClausesU X B ns n (e0 :: er) l)
    (st : X.stack = X.env :: X.outer := by rfl) (fr : X.env.frame = some X.env.locals := by rfl) (ni : X.N[i]? = some n := by rfl) (ln : X.env.kindOf n = some .local := by rfl) :
    PS X (.Try bd (e0 :: er) [] [] pos) (uF (cx X B) W (uTry ns i g l)) := by
  refine ⟨fun pins s σ H D I q => ?_⟩
  obtain ⟨r, c1, c2⟩ := wishU_of (W := W) (i := i) (D := D) cl
  refine (CPX.ps_tryM (i := i) st fr hN ni ln tk (tb := fun W' => uF (cx X B) W' g) hb c1).run pins s σ H D I ?_
  obtain ⟨ρ, H0, rp, h⟩ := q
  refine ⟨ρ, H0, rp, ?_⟩
  unfold uTry at h
  cases c : g ρ with
  | exc e ρ' =>
    rw [c] at h
    simp only at h
    by_cases hc : e.name ∈ ns ∧ e.arg.isNone = true ∧ noX ρ' = true ∧ i < ρ'.length
    · rw [if_pos hc] at h
      intro cls dd σ' H' H0' e' r' x
      obtain ⟨x1, x2⟩ := x
      have an : e.arg = none := by simpa using hc.2.1
      rw [an] at x2
      subst x2
      exact c2 e ρ' cls σ' H' H0' hc.1 an hc.2.2.1 hc.2.2.2 x1 r' (h.grow e')
    · rw [if_neg hc] at h
      exact h.elim
  | next _ => rw [c] at h; exact h
  | ret _ _ => rw [c] at h; exact h
  | bad => rw [c] at h; exact h
end
def uR (u : FU) : EV → OutR := fun ρ => match u ρ with
  | .ret d ρ' => .ret d ρ'
  | .exc c ρ' => .exc c ρ'
  | _ => .bad
theorem rF_of_u {X : Cx} {C : PX} {W : WX} {u : FU} {sts : List Stmt} (h : PSs X sts (uF C W u)) : PSs X sts (rF C W (uR u)) := h.weak fun D σ H ⟨ρ, H0, rp, h⟩ => ⟨ρ, H0, rp, by
  unfold uR at h
  cases c : u ρ with
  | next _ => rw [c] at h; exact h.elim
  | ret d ρ' => rw [c] at h; exact h
  | exc c' ρ' => rw [c] at h; exact h
  | bad => rw [c] at h; exact h.elim⟩
def runU (m : Nat) (u : FU) : FR := runR m (uR u)
theorem okU {P : Program} {w : World} {K : PySem.W.Frag} {mg : Str → Option Value} {base : Heap} {x qual : Str} {st : Stmt} {f : Addr} {fd : FuncData} {N ps : List Str} {k n : Nat} {u : FU} (F : Fun K x qual st f fd) (S : FnScope N ps (defScope st)) (hn : ps.length = n + 1)
    (hbody : ∀ (cdv : Value) (A : Around) (outer : List Env) (s : Shared) (H : Hp) (E : XK) (Hb H0 : Hp) (p : Addr), Room k (A.deeper (PyProof.Rows.envOfC qual (defScope st) s.heap.objs.size f cdv)) →
      Takes (cxOf (L2.CX P w) P w K mg base N qual (defScope st) f cdv A outer s H E) (WE0 E) → PassesOwn (model P w) (A.deeper (PyProof.Rows.envOfC qual (defScope st) s.heap.objs.size f cdv)) (PyProof.Rows.envOfC qual (defScope st) s.heap.objs.size f cdv) (cxOf (L2.CX P w) P w K mg base N qual (defScope st) f cdv A outer s H E).xe →
      PSs (cxOf (L2.CX P w) P w K mg base N qual (defScope st) f cdv A outer s H E) (defBody st) (uF ⟨K, mg, bsR Hb H0 p⟩ (WE0 E) u)) : FnOk P w K mg base (L2.CX P w) (k + 1) f fd ps (spR K mg n (runU N.length u)) :=
  okR F S hn fun cdv A outer s H E Hb H0 p hr tk hp => rF_of_u (hbody cdv A outer s H E Hb H0 p hr tk hp)
section
variable {X : Cx} {B : Bs} {W : WX} {e : Expr} {f : FE} {q : EV → RQ} {pos : Pos} {s : Bool}
theorem q_call (i : Nat) {fa : Addr} {k n : Nat} {fd : FuncData} {ps : List Str} {F : FR} {es : List Expr} {fs : EV → R (List PyData)} {x y : Str} {p p2 : Pos} {c : Addr} (T : RecC X c) (G : FnOk X.prog X.w X.K X.mg X.base (L2.CX X.prog X.w) k fa fd ps (spR X.K X.mg n F)) (hr : Room k X.A) (hm : X.mg y = some (.ref fa)) (hk : PySem.W.keepIn X.K (.ref fa) = true) (hb : Binds X.K fd ps []) (tk : Takes X W)
    (ha : PA X es (aF (cx X B) W fs))
    (hN : X.N[i]? = some x := by rfl) (hv : Vis X.env.scope x := by first | exact Or.inl rfl | exact Or.inr (Or.inl rfl) | exact Or.inr (Or.inr rfl)) (hd : (x == ("__debug__" : Str)) = false := by decide) (hcd : (x == ("__classdict__" : Str)) = false := by decide)
    (hg : Gl X y := by rfl) (hdb : (y == ("__debug__" : Str)) = false := by decide) (he : starEach (.Name x p2 :: es) X.env = (false, eval (.Name x p2) X.env) :: starEach es X.env := by rfl) (hpl : (backTo pos (starEach es X.env)).any (·.1) = false := by rfl) :
    PE X (.Call (.Name y p) (.Name x p2 :: es) [] pos) (qF (cx X B) W (qMeth i n F fs)) := by
  refine (pe_callS G hr hg hm hk hb (fun σ => passAt tk σ) (pa_cons (pe_var hN hv hd hcd) ha he) hdb he hpl).weak fun σ H Q ⟨ρ, H0, rp, h⟩ => ?_
  unfold qMeth at h
  split at h
  · rename_i ss k q
    obtain ⟨pp, qq, dx, fls, hs, R⟩ := slot_at rp q T.mg
    refine ⟨.ref pp, hs, ρ, H0, rp, ?_⟩
    cases c : fs ρ with
    | bad => rw [c] at h; exact h.elim
    | exc c' => rw [c] at h; exact fun cls dd H' H0' g x => h cls dd H' H0' g.z (rp.grow g) x
    | ok ds =>
      rw [c] at h
      simp only at h
      intro vs H1 H01 g w
      by_cases hn : ds.length = n
      · rw [if_pos hn] at h
        have rp1 := rp.grow g
        obtain ⟨pp2, qq2, dx2, fls2, hs2, R2⟩ := slot_at rp1 q T.mg
        rw [hs] at hs2
        cases hs2
        exact sp_meth rp1 q hs R2 w hn (h.grow g.z)
      · rw [if_neg hn] at h; exact h.elim
  · exact h.elim
inductive RTQ where
  | ok (b : Bool) (ρ : EV)
  | exc (c : Ex) (ρ : EV)
  | bad
def tqO (C : PX) (W : WX) (σ : St) (H0 : Hp) (o : RTQ) (Q : Bool → Hp → Prop) : Prop :=
  match o with
  | .ok b ρ => ∀ H' H0', Same H0 H0' → Rep C σ H' H0' ρ → Q b H'
  | .exc c ρ => ∀ cls dd H' H0', Same H0 H0' → Rep C σ H' H0' ρ → ExR C.K C.mg H' c cls dd → W cls dd σ H'
  | .bad => False
def tqF (C : PX) (W : WX) (f : EV → RTQ) : TT := fun σ H Q => ∃ ρ H0, Rep C σ H H0 ρ ∧ tqO C W σ H0 (f ρ) Q
theorem tqO.grow {C : PX} {σ : St} {H0 H01 : Hp} {o : RTQ} {Q : Bool → Hp → Prop} (h : tqO C W σ H0 o Q) (e : Same H0 H01) : tqO C W σ H01 o Q := by
  cases o with
  | ok d ρ => exact fun H' H0' e' => h H' H0' (e.trans e')
  | exc c ρ => exact fun cls dd H' H0' e' => h cls dd H' H0' (e.trans e')
  | bad => exact h
def tqT (t : EV → R Bool) : EV → RTQ := fun ρ => match t ρ with
  | .ok b => .ok b ρ
  | .exc c => .exc c ρ
  | .bad => .bad
theorem tq_t {c : Expr} {t : EV → R Bool} (h : PT X c (tF (cx X B) W t)) : PT X c (tqF (cx X B) W (tqT t)) := h.weak fun σ H Q ⟨ρ, H0, rp, h⟩ => ⟨ρ, H0, rp, by
  unfold tqT at h
  cases c : t ρ with
  | bad => rw [c] at h; exact h
  | exc c' => rw [c] at h; exact fun cls dd H' H0' g x => h cls dd H' H0' g.z (rp.grow g) x
  | ok b => rw [c] at h; exact fun H' H0' g => h H' H0' g.z (rp.grow g)⟩
def tqV (q : EV → RQ) : EV → RTQ := fun ρ => match q ρ with
  | .ok (.bool b) ρ' => .ok b ρ'
  | .exc c ρ' => .exc c ρ'
  | _ => .bad
theorem tq_val (ha : PE X e (qF (cx X B) W q)) (he : ∀ whole, isTrue e X.env whole = (do let v ← whole; standAt e.pos; holding [v] (truthy v)) := by intro _; rfl) : PT X e (tqF (cx X B) W (tqV q)) := by
  refine (pt_val ha he).weak fun σ H Q ⟨ρ, H0, rp, h⟩ => ⟨ρ, H0, rp, ?_⟩
  unfold tqV at h
  cases c : q ρ with
  | bad => rw [c] at h; exact h
  | exc c' ρ' => rw [c] at h; exact h
  | ok d ρ' =>
    rw [c] at h
    intro v H' H0' g r' w
    cases d <;> try exact False.elim h
    cases w
    exact ⟨_, rfl, h H' H0' g r'⟩
def tqNot (t : EV → RTQ) : EV → RTQ := fun ρ => match t ρ with
  | .ok b ρ' => .ok (!b) ρ'
  | .exc c ρ' => .exc c ρ'
  | .bad => .bad
theorem tq_not {a : Expr} {t : EV → RTQ} (ha : PT X a (tqF (cx X B) W t)) : PT X (.UnaryOp .Not a pos) (tqF (cx X B) W (tqNot t)) := by
  refine (pt_not ha).weak fun σ H Q ⟨ρ, H0, rp, h⟩ => ⟨ρ, H0, rp, ?_⟩
  unfold tqNot at h
  cases c : t ρ with
  | bad => rw [c] at h; exact h
  | exc c' ρ' => rw [c] at h; exact h
  | ok b ρ' => rw [c] at h; exact h
def qCmp (op : PyData → PyData → R PyData) (q : EV → RQ) (f : FE) : EV → RQ := fun ρ => match q ρ with
  | .ok d ρ' => match (f ρ').bind (op d) with
    | .ok r => .ok r ρ'
    | .exc c => .exc c ρ'
    | .bad => .bad
  | .exc c ρ' => .exc c ρ'
  | .bad => .bad
theorem read_qc {r : R2} {op : PyData → PyData → R PyData} (hr : ∀ (B : Bs) (W : WX) (sa sb : Bool) (σ : St) (x y : V) (d e : PyData) (H H0 : Hp) (Q : VK), Same H0 H → Wk X.K sa H H0 x d → Wk X.K sb H H0 y e → eO (cx X B) W true σ H H0 (op d e) Q → r x y H Q)
    {σ : St} {H : Hp} {Q : VK} (h : qF (cx X B) W (qCmp op q f) σ H Q) : tOp r (qF (cx X B) W q) (eF (cx X B) W s f) σ H Q := by
  obtain ⟨ρ, H0, rp, h⟩ := h
  refine ⟨ρ, H0, rp, ?_⟩
  unfold qCmp at h
  cases c : q ρ with
  | bad => rw [c] at h; exact h
  | exc c' ρ' => rw [c] at h; exact h
  | ok d ρ' =>
    rw [c] at h
    intro v H1 H01 g1 r1 w1
    refine ⟨ρ', H01, r1, ?_⟩
    simp only at h
    cases c2 : f ρ' with
    | bad => rw [c2] at h; exact h
    | exc c' => rw [c2] at h; exact fun cls dd H' H0' g x => h cls dd H' H0' (g1.trans g.z) (r1.grow g) x
    | ok d2 =>
      rw [c2] at h
      simp only [R.bind_ok] at h
      intro u H2 H02 g2 w2
      have k := hr B W true s σ v u d d2 H2 H02 Q g2.i (Wk.of (w1.same g2.z)) w2
      cases c3 : op d d2 with
      | bad => rw [c3] at h; exact h.elim
      | exc c' => rw [c3] at k h; exact k fun cls dd H' H0' g x => h cls dd H' H0' ((g1.trans g2.z).trans g.z) ((r1.grow g2).grow g) x
      | ok d3 => rw [c3] at k h; exact k fun z H' H0' g w => h z H' H0' ((g1.trans g2.z).trans g.z) ((r1.grow g2).grow g) w.strong
theorem q_cmp {a b : Expr} {op : CmpOp} {o : PyData → PyData → R PyData} (ho : OpD X (compareOp op) o) (ha : PE X a (qF (cx X B) W q)) (hb : PE X b (eF (cx X B) W s f)) (hm : behindInMarks op b = false := by first | exact nomark _ | rfl) : PE X (.Compare a [op] [b] pos) (qF (cx X B) W (qCmp o q f)) := by
  obtain ⟨r, h1, h2⟩ := ho
  exact (pe_cmpR h1 ha hb hm).weak fun σ H Q h => read_qc h2 h
theorem tq_cmp {a b : Expr} {op : CmpOp} {o : PyData → PyData → R PyData} (ho : OpD X (compareOp op) o) (ha : PE X a (qF (cx X B) W q)) (hb : PE X b (eF (cx X B) W s f)) (hm : behindInMarks op b = false := by first | exact nomark _ | rfl) : PT X (.Compare a [op] [b] pos) (tqF (cx X B) W (tqV (qCmp o q f))) := by
  obtain ⟨r, h1, h2⟩ := ho
  refine (pt_cmpR h1 ha hb hm).weak fun σ H Q ⟨ρ, H0, rp, h⟩ => read_qc h2 ⟨ρ, H0, rp, ?_⟩
  unfold tqV at h
  cases c : qCmp o q f ρ with
  | bad => rw [c] at h; exact h
  | exc c' ρ' => rw [c] at h; exact h
  | ok d ρ' =>
    rw [c] at h
    intro v H' H0' g r' w
    cases d <;> try exact False.elim h
    cases w
    exact ⟨_, rfl, h H' H0' g r'⟩
def tqOr (a b : EV → RTQ) : EV → RTQ := fun ρ => match a ρ with
  | .ok x ρ' => if x = true then .ok true ρ' else b ρ'
  | .exc c ρ' => .exc c ρ'
  | .bad => .bad
variable {a b : Expr} {rest : List Expr} {ta tb : EV → RTQ}
theorem wq_or1 (ha : PT X a (tqF (cx X B) W ta)) : PW X (.BoolOp .Or [a] pos) (tqF (cx X B) W ta) := pw_or1 ha
theorem wq_or (ha : PT X a (tqF (cx X B) W ta)) (hb : PW X (.BoolOp .Or (b :: rest) pos) (tqF (cx X B) W tb)) : PW X (.BoolOp .Or (a :: b :: rest) pos) (tqF (cx X B) W (tqOr ta tb)) := by
  refine (pw_or ha hb).weak fun σ H Q ⟨ρ, H0, rp, h⟩ => ⟨ρ, H0, rp, ?_⟩
  unfold tqOr at h
  cases c : ta ρ with
  | bad => rw [c] at h; exact h
  | exc c' ρ' => rw [c] at h; exact h
  | ok x ρ' =>
    rw [c] at h
    intro H' H0' g r'
    cases x with
    | true => exact h H' H0' g r'
    | false => exact ⟨ρ', H0', r', h.grow g⟩
def qAnd (qa qb : EV → RQ) : EV → RQ := fun ρ => match qa ρ with
  | .ok (.bool x) ρ' => if x = true then qb ρ' else .ok (.bool false) ρ'
  | .exc c ρ' => .exc c ρ'
  | _ => .bad
theorem q_one {op} {qa : EV → RQ} (h : PE X a (qF (cx X B) W qa)) : PE X (.BoolOp op [a] pos) (qF (cx X B) W qa) := pe_one h
theorem q_and {qa qb : EV → RQ} (ha : PE X a (qF (cx X B) W qa)) (hb : PE X (.BoolOp .And (b :: rest) pos) (qF (cx X B) W qb)) : PE X (.BoolOp .And (a :: b :: rest) pos) (qF (cx X B) W (qAnd qa qb)) := by
  refine (pe_and ha hb).weak fun σ H Q ⟨ρ, H0, rp, h⟩ => ⟨ρ, H0, rp, ?_⟩
  unfold qAnd at h
  cases c : qa ρ with
  | bad => rw [c] at h; exact h
  | exc c' ρ' => rw [c] at h; exact h
  | ok d ρ' =>
    rw [c] at h
    intro v H' H0' g r' w
    cases d <;> try exact False.elim h
    rename_i x
    cases w
    refine ⟨x, rfl, ?_⟩
    cases x with
    | true => exact ⟨ρ', H0', r', h.grow g⟩
    | false => exact h _ H' H0' g r' (.bl false)
def sIfQ (t : EV → RTQ) (g g2 : FS) : FS := fun ρ => match t ρ with
  | .ok b ρ' => if b = true then g ρ' else g2 ρ'
  | .exc c ρ' => .exc c ρ'
  | .bad => .bad
theorem s_ifQ {c : Expr} {l1 l2 : List Stmt} {t : EV → RTQ} {g g2 : FS} (hc : PT X c (tqF (cx X B) W t)) (h1 : PSs X l1 (sF (cx X B) W g)) (h2 : PSs X l2 (sF (cx X B) W g2)) : PS X (.If c l1 l2 pos) (sF (cx X B) W (sIfQ t g g2)) := by
  refine (ps_if hc h1 h2).weak fun D σ H ⟨ρ, H0, rp, h⟩ => ⟨ρ, H0, rp, ?_⟩
  unfold sIfQ at h
  cases c : t ρ with
  | bad => rw [c] at h; exact h
  | exc c' ρ' => rw [c] at h; exact fun cls dd H' H0' g r' x => h cls dd σ H' H0' g r' x
  | ok b ρ' =>
    rw [c] at h
    intro H' H0' g r'
    cases b with
    | true => exact ⟨ρ', H0', r', h.grow g⟩
    | false => exact ⟨ρ', H0', r', h.grow g⟩
def sRetQ (q : EV → RQ) : FS := fun ρ => match q ρ with
  | .ok d _ => .ret d
  | .exc c ρ' => .exc c ρ'
  | .bad => .bad
theorem s_retQ (he : PE X e (qF (cx X B) W q)) : PS X (.Return (some e) pos) (sF (cx X B) W (sRetQ q)) := by
  refine (ps_ret he).weak fun D σ H ⟨ρ, H0, rp, h⟩ => ⟨ρ, H0, rp, ?_⟩
  unfold sRetQ at h
  cases c : q ρ with
  | bad => rw [c] at h; exact h
  | exc c' ρ' => rw [c] at h; exact fun cls dd H' H0' g r' x => h cls dd σ H' H0' g r' x
  | ok d ρ' => rw [c] at h; exact fun v H' H0' g r' w => h v H' H0' r'.bas w
end
end CP
namespace CP
open PySem L2
section
variable {C : PX} {σ : St} {H H0 H1 H01 : Hp} {ρ : EV}
theorem Rep.mutB (r : Rep C σ H H0 ρ) {i : Nat} {si sv : SV} {v : V} {b : Addr} {o : HO} (hi : ρ[i]? = some (some si)) (hs : σ[i]? = some (some v)) (ho : Own H v si b) (h0 : H0 b = none) (hb : C.B.h b = none) (hv : SVRep C (upd H b o) H0 v sv)
    (hso : ∀ a, Own (upd H b o) v sv a → Own H v si a ∨ ∀ (m : Nat) sm x, i ≠ m → ρ[m]? = some (some sm) → σ[m]? = some (some x) → ¬ Own H x sm a) : Rep C σ (upd H b o) H0 (ρ.set i (some sv)) := by
  have hl := r.len
  have hlt : i < ρ.length := (List.getElem?_eq_some_iff.mp hi).1
  have at' : ∀ (j : Nat) sj, (ρ.set i (some sv))[j]? = some (some sj) → (j = i ∧ sj = sv) ∨ (i ≠ j ∧ ρ[j]? = some (some sj)) := fun j sj e => by
    by_cases hj : i = j
    · subst hj
      rw [List.getElem?_set_self hlt] at e
      cases e
      exact .inl ⟨rfl, rfl⟩
    · rw [List.getElem?_set_ne hj] at e
      exact .inr ⟨hj, e⟩
  have far : ∀ (m : Nat) (sm : SV) (x : V), i ≠ m → ρ[m]? = some (some sm) → σ[m]? = some (some x) → ∀ a, Own H x sm a → a ≠ b := fun m sm x hm em ex a oa z => hm (r.sep i m si sm v x b hi em hs ex ho (z ▸ oa))
  refine ⟨⟨fun a u q => ?_, r.bas.z, fun a u q => ?_, r.bas.f⟩, by rw [List.length_set]; exact r.len, fun j sj e => ?_, fun j k sj sk u w a e1 e2 e3 e4 o1 o2 => ?_⟩
  · rw [upd_ne (ne_of_none q hb)]; exact r.bas.a a u q
  · rw [upd_ne (ne_of_none q h0)]; exact r.bas.i a u q
  · rcases at' j sj e with ⟨rfl, rfl⟩ | ⟨hj, e⟩
    · exact ⟨_, hs, hv⟩
    · obtain ⟨u, h1, h2⟩ := r.at_ j sj e
      refine ⟨u, h1, ?_⟩
      have nq := far j sj u hj e h1
      cases sj with
      | d x => exact h2
      | x c => exact h2
      | v ss kk => exact h2
      | l ds =>
        obtain ⟨q, xs, rfl, k1, k2⟩ := h2
        exact ⟨q, xs, rfl, by rw [upd_ne (nq q rfl)]; exact k1, k2⟩
      | m kvs =>
        obtain ⟨q, xs, rfl, k1, k2⟩ := h2
        exact ⟨q, xs, rfl, by rw [upd_ne (nq q rfl)]; exact k1, k2⟩
      | r ss kk =>
        obtain ⟨q, c, dx, fs, q2, xs, rfl, k1, km, kz, kf1, kf2, kf3, kq, k2⟩ := h2
        exact ⟨q, c, dx, fs, q2, xs, rfl, by rw [upd_ne (nq q (.inl rfl))]; exact k1, km, kz, kf1, kf2, kf3, by rw [upd_ne (nq q2 (.inr ⟨_, _, _, _, rfl, k1, kf1⟩))]; exact kq, k2⟩
  · have kp : ∀ (m : Nat) (sm : SV) (x : V) (hm : i ≠ m) (em : ρ[m]? = some (some sm)) (ex : σ[m]? = some (some x)) (om : sm.own = true), ∀ a ob, x = .ref a → H a = some ob → upd H b o a = some ob := fun m sm x hm em ex om a ob e5 e6 => by
      rw [upd_ne (far m sm x hm em ex a (Own.self om e5))]; exact e6
    rcases at' j sj e1 with ⟨ej, es⟩ | ⟨hj, e1'⟩
    · rcases at' k sk e2 with ⟨ek, _⟩ | ⟨hk, e2'⟩
      · rw [ej, ek]
      · rw [ej, hs] at e3
        cases e3
        subst es
        rw [ej]
        have o2' := o2.back (r.at1 e2' e4) (kp k sk w hk e2' e4 o2.own)
        rcases hso a o1 with oa | na
        · exact r.sep i k si sk _ w a hi e2' hs e4 oa o2'
        · exact absurd o2' (na k sk w hk e2' e4)
    · rcases at' k sk e2 with ⟨ek, es⟩ | ⟨hk, e2'⟩
      · rw [ek, hs] at e4
        cases e4
        subst es
        rw [ek]
        have o1' := o1.back (r.at1 e1' e3) (kp j sj u hj e1' e3 o1.own)
        rcases hso a o2 with oa | na
        · exact r.sep j i sj si u _ a e1' hi e3 hs o1' oa
        · exact absurd o1' (na j sj u hj e1' e3)
      · exact r.sepB e1' e2' e3 e4 (kp j sj u hj e1' e3 o1.own) (kp k sk w hk e2' e4 o2.own) o1 o2
theorem Rep.forget (r : Rep C σ H H0 ρ) (i : Nat) : Rep C σ H H0 (ρ.set i none) := by
  have at' : ∀ (j : Nat) sj, (ρ.set i none)[j]? = some (some sj) → i ≠ j ∧ ρ[j]? = some (some sj) := fun j sj e => by
    by_cases hj : i = j
    · subst hj
      by_cases hl : i < ρ.length
      · rw [List.getElem?_set_self hl] at e; cases e
      · rw [List.getElem?_eq_none (by simpa using hl)] at e; cases e
    · rw [List.getElem?_set_ne hj] at e
      exact ⟨hj, e⟩
  refine ⟨r.bas, by rw [List.length_set]; exact r.len, fun j sj e => r.at_ j sj (at' j sj e).2, fun j k sj sk v w a e1 e2 e3 e4 o1 o2 => r.sep j k sj sk v w a (at' j sj e1).2 (at' k sk e2).2 e3 e4 o1 o2⟩
end
theorem putF_len {f : Str} {v x : V} : ∀ {fs : List (Str × V)}, fs.lookup f = some x → (putF f v fs).length = fs.length
  | [], h => by cases h
  | (g, y) :: r, h => by
    unfold putF
    by_cases e : g = f
    · rw [if_pos e]; rfl
    · rw [if_neg e, List.length_cons, List.length_cons]
      rw [List.lookup_cons, show (f == g) = false from beq_false_of_ne (fun z => e z.symm)] at h
      rw [putF_len (fs := r) h]
theorem few_put {f : Str} {v x : V} {fs : List (Str × V)} (h : Few fs) (hx : fs.lookup f = some x) (hf : f = "steps" ∨ f = "kept") : Few (putF f v fs) := by
  refine ⟨by rw [putF_len hx]; exact h.1, fun m h1 h2 => ?_⟩
  rw [lookup_putF, if_neg (by rcases hf with rfl | rfl <;> assumption)]
  exact h.2 m h1 h2
section
variable {X : Cx} {B : Bs} {W : WX} {e : Expr} {f : FE} {pos : Pos} {s : Bool} {x : Str}
def sFst (i : Nat) (f : FE) : FS := fun ρ => match ρ[i]? with
  | some (some (.r _ k)) => match f ρ with
    | .ok (.list ds) => .next (ρ.set i (some (.r ds k)))
    | .exc c => .exc c ρ
    | _ => .bad
  | _ => .bad
theorem s_fst (i : Nat) {c : Addr} (T : RecC X c) {p pos' : Pos} (he : PE X e (nF (cx X B) W f)) (hN : X.N[i]? = some x := by rfl) (hv : Vis X.env.scope x := by first | exact Or.inl rfl | exact Or.inr (Or.inl rfl) | exact Or.inr (Or.inr rfl)) (hd : (x == ("__debug__" : Str)) = false := by decide) (hcd : (x == ("__classdict__" : Str)) = false := by decide)
    (hs : swapsWith e (some (.Attribute (.Name x p) "steps" pos')) pos.line X.env = pure false := by rfl) : PS X (.Assign [.Attribute (.Name x p) "steps" pos'] e pos) (sF (cx X B) W (sFst i f)) := by
  refine (ps_fld (pe_var hN hv hd hcd) he hs).weak fun D σ H ⟨ρ, H0, rp, h⟩ => ⟨ρ, H0, rp, ?_⟩
  unfold sFst at h
  split at h
  · rename_i ss k q
    cases c2 : f ρ with
    | bad => rw [c2] at h; exact h
    | exc c' => rw [c2] at h; exact fun cls dd H' H0' g x => h cls dd σ H' H0' g.z (rp.grow g) x
    | ok d =>
      rw [c2] at h
      cases d <;> try exact False.elim h
      rename_i ds
      refine ⟨ds, rfl, fun q' xs' H1 H01 g hq0 hq1 hq01 hl hd' => ?_⟩
      have rp1 := rp.grow g
      obtain ⟨v, hs', pp, c', dx, fs, qq, xs, rfl, k1, km, kz, kf1, kf2, kf3, kq, k2, k2q, k3, k3q, k4, k5⟩ := rp1.at_ i _ q
      have km' : X.mg "Recorder" = some (.ref c') := km
      rw [T.mg] at km'
      cases km'
      have nq : pp ≠ q' := fun z => by
        obtain ⟨v0, hs0, p0, c0, dx0, fs0, qq0, xs0, e0, l1, _⟩ := rp.at_ i _ q
        rw [hs'] at hs0
        cases hs0
        cases e0
        rw [z] at l1
        rw [hq0] at l1
        cases l1
      refine ⟨.ref pp, hs', pp, c, dx, fs, rfl, k1, T.cl, T.st, Nat.lt_of_lt_of_le kf3.1 (by decide), ?_⟩
      have lk1 : (putF "steps" (V.ref q') fs).lookup ("steps" : Str) = some (V.ref q') := by rw [lookup_putF, if_pos rfl]
      have lk2 : (putF "steps" (V.ref q') fs).lookup ("kept" : Str) = some (V.int k) := by rw [lookup_putF, if_neg (by decide)]; exact kf2
      refine h σ _ H01 g.z (rp1.mutB (sv := .r ds k) q hs' (.inl rfl) k2 k3 ⟨pp, c, dx, _, q', xs', rfl, upd_same, km, kz, lk1, lk2, few_put kf3 kf1 (.inl rfl), by rw [upd_ne (Ne.symm nq)]; exact hq1, k2, hq01, k3, rp.bas.a.free hq0, hl, hd'⟩ fun a oa => ?_)
      rcases oa with oa | ⟨p3, c3, dx3, fs3, e1, e2, e3⟩
      · exact .inl (.inl oa)
      · cases e1
        rw [upd_same] at e2
        cases e2
        rw [lk1] at e3
        cases e3
        exact .inr fun m sm x hm em ex om => own_ne rp g.a hq0 em ex om rfl
  · exact h.elim
def sFkp (i : Nat) (f : FE) : FS := fun ρ => match ρ[i]? with
  | some (some (.r ss _)) => match f ρ with
    | .ok (.int n) => .next (ρ.set i (some (.r ss n)))
    | .exc c => .exc c ρ
    | _ => .bad
  | _ => .bad
theorem s_fkp (i : Nat) {c : Addr} (T : RecC X c) {p pos' : Pos} (he : PE X e (eF (cx X B) W true f)) (hN : X.N[i]? = some x := by rfl) (hv : Vis X.env.scope x := by first | exact Or.inl rfl | exact Or.inr (Or.inl rfl) | exact Or.inr (Or.inr rfl)) (hd : (x == ("__debug__" : Str)) = false := by decide) (hcd : (x == ("__classdict__" : Str)) = false := by decide)
    (hs : swapsWith e (some (.Attribute (.Name x p) "kept" pos')) pos.line X.env = pure false := by rfl) : PS X (.Assign [.Attribute (.Name x p) "kept" pos'] e pos) (sF (cx X B) W (sFkp i f)) := by
  refine (ps_fld (pe_var hN hv hd hcd) he hs).weak fun D σ H ⟨ρ, H0, rp, h⟩ => ⟨ρ, H0, rp, ?_⟩
  unfold sFkp at h
  split at h
  · rename_i ss k q
    cases c2 : f ρ with
    | bad => rw [c2] at h; exact h
    | exc c' => rw [c2] at h; exact fun cls dd H' H0' g x => h cls dd σ H' H0' g.z (rp.grow g) x
    | ok d =>
      rw [c2] at h
      cases d <;> try exact False.elim h
      rename_i n
      intro u H1 H01 g w
      have eu := w.int
      subst eu
      have rp1 := rp.grow g
      obtain ⟨v, hs', pp, c', dx, fs, qq, xs, rfl, k1, km, kz, kf1, kf2, kf3, kq, k2, k2q, k3, k3q, k4, k5⟩ := rp1.at_ i _ q
      have km' : X.mg "Recorder" = some (.ref c') := km
      rw [T.mg] at km'
      cases km'
      have nq : pp ≠ qq := fun z => by rw [z, kq] at k1; cases k1
      refine ⟨.ref pp, hs', pp, c, dx, fs, rfl, k1, T.cl, T.kp, Nat.lt_of_lt_of_le kf3.1 (by decide), ?_⟩
      have lk1 : (putF "kept" (V.int n) fs).lookup ("steps" : Str) = some (V.ref qq) := by rw [lookup_putF, if_neg (by decide)]; exact kf1
      have lk2 : (putF "kept" (V.int n) fs).lookup ("kept" : Str) = some (V.int n) := by rw [lookup_putF, if_pos rfl]
      refine h σ _ H01 g.z (rp1.mutB (sv := .r ss n) q hs' (.inl rfl) k2 k3 ⟨pp, c, dx, _, qq, xs, rfl, upd_same, km, kz, lk1, lk2, few_put kf3 kf2 (.inr rfl), by rw [upd_ne (Ne.symm nq)]; exact kq, k2, k2q, k3, k3q, k4, k5⟩ fun a oa => .inl ?_)
      rcases oa with oa | ⟨p3, c3, dx3, fs3, e1, e2, e3⟩
      · exact .inl oa
      · cases e1
        rw [upd_same] at e2
        cases e2
        rw [lk1] at e3
        cases e3
        exact .inr ⟨pp, c, dx, fs, rfl, k1, kf1⟩
  · exact h.elim
structure RecI (X : Cx) (c : Addr) : Prop where
  ca : PySem.W.findIn X.K (.ref c) "__class__" = some (some (.builtin "object.__class__"))
  cn : PySem.W.specialIn X.K (.builtin "object.__class__") "__get__" = some (some (.builtin "getset_descriptor.__get__"))
  ct : PySem.W.takesIn X.K (.builtin "object.__class__") = some true
  mro : PySem.W.mroIn X.K c (.type "object") = some true
  kr : PySem.W.kitOne X.K (.ref c) (.ref c) = some true
  kt : PySem.W.kitOne X.K (.type "tuple") (.ref c) = some false
  ks : PySem.W.kitOne X.K (.type "str") (.ref c) = some false
def eIsR (i : Nat) : FE := fun ρ => match ρ[i]? with
  | some (some (.r _ _)) => .ok (.bool true)
  | some (some (.v _ _)) => .ok (.bool true)
  | some (some (.d d)) => if isTS d = true then .ok (.bool false) else .bad
  | _ => .bad
theorem d_isR (i : Nat) {c : Addr} (T : RecC X c) (Ti : RecI X c) {p1 p2 p3 : Pos} (hm : X.mg "isinstance" = none) (hN : X.N[i]? = some x := by rfl) (hv : Vis X.env.scope x := by first | exact Or.inl rfl | exact Or.inr (Or.inl rfl) | exact Or.inr (Or.inr rfl)) (hd : (x == ("__debug__" : Str)) = false := by decide) (hcd : (x == ("__classdict__" : Str)) = false := by decide)
    (hg : Gl X "isinstance" := by rfl) (hgT : Gl X "Recorder" := by rfl) (he : starEach [.Name x p2, .Name "Recorder" p3] X.env = (false, eval (.Name x p2) X.env) :: starEach [.Name "Recorder" p3] X.env := by rfl) (hpl : (backTo pos (starEach [.Name "Recorder" p3] X.env)).any (·.1) = false := by rfl) :
    PE X (.Call (.Name "isinstance" p1) [.Name x p2, .Name "Recorder" p3] [] pos) (eF (cx X B) W s (eIsR i)) := by
  refine (pe_callB call_isi hg hm PyProof.Rows.boot_isinstance (pa_cons (pe_var hN hv hd hcd) (pa_cons (pe_glob (v := .ref c) hgT T.mg rfl (by decide)) pa_nil) he) (by decide) (by decide) he hpl).weak fun σ H Q ⟨ρ, H0, rp, h⟩ => ?_
  unfold eIsR at h
  have recc : ∀ ss k, recE i ρ = some (ss, k) → eO (cx X B) W s σ H H0 (.ok (.bool true)) Q → ∃ v, σ[i]? = some (some v) ∧ rIsi X.K [v, .ref c] H Q := fun ss k q h => by
    obtain ⟨pp, hs, R⟩ := slot_recV rp q
    obtain ⟨dx, fs, i1⟩ := R.ins T.mg
    exact ⟨.ref pp, hs, .ref pp, .ref c, .ref c, .ref c, true, rfl, .own c, .base (.ins i1 T.cl Ti.ca Ti.cn Ti.ct Ti.mro), Ti.kr, eO.val h rp.st (.bl true)⟩
  split at h
  · rename_i ss k q
    exact recc ss k (by unfold recE; rw [q]) h
  · rename_i ss k q
    exact recc ss k (by unfold recE; rw [q]) h
  · rename_i d q
    by_cases hd : isTS d = true
    · rw [if_pos hd] at h
      obtain ⟨v, hs, hq⟩ := rp.at_ i _ q
      have hq : Dq X.K H0 v d := hq
      have ty := (Wk.of (s := true) (H := H) hq).ty rp.st
      refine ⟨v, hs, v, .ref c, _, .ref c, false, rfl, .own c, ty, ?_, eO.val h rp.st (.bl false)⟩
      cases d <;> try cases hd
      · exact Ti.ks
      · exact Ti.kt
    · rw [if_neg hd] at h; exact h.elim
  · exact h.elim
def dF (C : PX) (i : Nat) (g : FS) : TS := fun D σ H => ∃ ρ H0, Rep C σ H H0 ρ ∧ match g ρ with
  | .next ρ' => ∃ ss k, ρ'[i]? = some (some (SV.r ss k)) ∧ ∀ p q c dx fs H' H0', Same H0 H0' → Grow C.B.h C.B.z H' H0' → C.B.h p = none → C.B.h q = none → RecAt C.K C.mg H' H0' p q c dx fs ss k → D.rt (.ref p) H'
  | _ => False
theorem d_end (i : Nat) {p : Pos} (hN : X.N[i]? = some x := by rfl) (hv : Vis X.env.scope x := by first | exact Or.inl rfl | exact Or.inr (Or.inl rfl) | exact Or.inr (Or.inr rfl)) (hd : (x == ("__debug__" : Str)) = false := by decide) (hcd : (x == ("__classdict__" : Str)) = false := by decide) :
    PSs X [.Return (some (.Name x p)) pos] (dF (cx X B) i sNil) := by
  refine (pss_one (ps_ret (pe_var hN hv hd hcd))).weak fun D σ H ⟨ρ, H0, rp, h⟩ => ?_
  obtain ⟨ss, k, q, h⟩ := h
  obtain ⟨v, hs', pp, c', dx, fs, qq, xs, rfl, k1, km, kz, kf1, kf2, kf3, kq, k2, k2q, k3, k3q, k4, k5⟩ := rp.at_ i _ q
  exact ⟨.ref pp, hs', h pp qq c' dx fs H H0 (Same.refl _) rp.bas k3 k3q ⟨k1, km, kf1, kf2, kf3, ⟨xs, kq, k5⟩, k2, k2q, k4⟩⟩
theorem d_cons (i : Nat) {st : Stmt} {rest : List Stmt} {g g2 : FS} (h1 : PS X st (sF (cx X B) WN g)) (h2 : PSs X rest (dF (cx X B) i g2)) : PSs X (st :: rest) (dF (cx X B) i (sSeq g g2)) := by
  refine (pss_cons h1 h2).weak fun D σ H ⟨ρ, H0, rp, h⟩ => ⟨ρ, H0, rp, ?_⟩
  unfold sSeq at h
  cases c : g ρ with
  | next ρ' =>
    rw [c] at h
    intro σ' H' H0' e r'
    refine ⟨ρ', H0', r', ?_⟩
    simp only at h
    cases c2 : g2 ρ' with
    | next ρ2 =>
      rw [c2] at h
      obtain ⟨ss, k, q, h⟩ := h
      exact ⟨ss, k, q, fun p q c dx fs H2 H02 e2 => h p q c dx fs H2 H02 (e.trans e2)⟩
    | exc _ _ => rw [c2] at h; exact h.elim
    | brk _ => rw [c2] at h; exact h.elim
    | cont _ => rw [c2] at h; exact h.elim
    | ret _ => rw [c2] at h; exact h.elim
    | bad => rw [c2] at h; exact h.elim
  | exc _ _ => rw [c] at h; exact h.elim
  | brk _ => rw [c] at h; exact h.elim
  | cont _ => rw [c] at h; exact h.elim
  | ret _ => rw [c] at h; exact h.elim
  | bad => rw [c] at h; exact h.elim
end
def spD (K : PySem.W.Frag) (mg : Str → Option Value) : Sp := fun vs H Q _ => ∃ v ss k H0, vs = [v] ∧ Same H0 H ∧ RecV K mg H H0 v ss k ∧ ∀ p q c dx fs H' H0', Grow H H0 H' H0' → H p = none → H q = none → RecAt K mg H' H0' p q c dx fs ss ((ss.length : Int) - 1) → Q (.ref p) H'
theorem okD {P : Program} {w : World} {K : PySem.W.Frag} {mg : Str → Option Value} {base : Heap} {x qual : Str} {st : Stmt} {f : Addr} {fd : FuncData} {N ps : List Str} {k : Nat} {g : FS} (F : Fun K x qual st f fd) (S : FnScope N ps (defScope st)) (hn : ps.length = 1) (i : Nat)
    (hg : ∀ ss k, ∃ ρ', g ([some (.v ss k)] ++ List.replicate (N.length - 1) none) = .next ρ' ∧ ρ'[i]? = some (some (.r ss ((ss.length : Int) - 1))))
    (hbody : ∀ (cdv : Value) (A : Around) (outer : List Env) (s : Shared) (H : Hp) (E : XK) (H0 : Hp), Room k (A.deeper (PyProof.Rows.envOfC qual (defScope st) s.heap.objs.size f cdv)) →
      PSs (cxOf (L2.CX P w) P w K mg base N qual (defScope st) f cdv A outer s H E) (defBody st) (dF ⟨K, mg, bs H H0⟩ i g)) : FnOk P w K mg base (L2.CX P w) (k + 1) f fd ps (spD K mg) := by
  refine F.okX S (fun vs H Q E h => by obtain ⟨_, _, _, _, rfl, _⟩ := h; rw [hn]; rfl) (fun cdv A outer s H vs Q E hr h => ?_)
  obtain ⟨v, ss, kk, H0, rfl, i0, R, h⟩ := h
  refine ⟨_, hbody cdv A outer s H E H0 hr, _, H0, rep_startA N i0 (.cons (a := .v ss kk) R .nil), ?_⟩
  obtain ⟨ρ', e1, e2⟩ := hg ss kk
  show (match g ([some (.v ss kk)] ++ List.replicate (N.length - 1) none) with | .next ρ' => _ | _ => False)
  rw [e1]
  exact ⟨ss, _, e2, fun p q c dx fs H' H0' _ g' hp hq R' => h p q c dx fs H' H0' g' hp hq R'⟩
section
variable {X : Cx} {B : Bs} {W : WX} {e : Expr} {f : FE} {pos : Pos} {s : Bool} {x : Str}
theorem sp_dup {σ : St} {H H0 : Hp} {ρ : EV} {p : Addr} {ss : List PyData} {k : Int} {Q : VK} {E : XK} (i : Same H0 H) (R : RecV X.K X.mg H H0 (.ref p) ss k) (h : wO (cx X B) W σ H H0 ss ((ss.length : Int) - 1) Q) : spD X.K X.mg [.ref p] H Q E :=
  ⟨_, ss, k, H0, rfl, i, R, fun p q c dx fs H' H0' g hp hq R' => h p q c dx fs H' H0' g hp hq R'⟩
def sDup (i j : Nat) : FS := fun ρ => match recE i ρ with
  | some (ss, _) => .next (ρ.set j (some (.r ss ((ss.length : Int) - 1))))
  | none => .bad
theorem s_dup (i j : Nat) {c fa : Addr} {k : Nat} {fd : FuncData} {ps : List Str} {pl : Sem Bool} (T : RecC X c) {y : Str} {p apos cpos pos' : Pos} (hB : B.s = none) (hNd : X.N.Nodup) (hm : Meth X.K c "duplicate" fa) (G : FnOk X.prog X.w X.K X.mg X.base (L2.CX X.prog X.w) k fa fd ps (spD X.K X.mg)) (hr : Room k X.A) (hb : Binds X.K fd ps []) (tk : Takes X W)
    (hN : X.N[i]? = some x := by rfl) (hv : Vis X.env.scope x := by first | exact Or.inl rfl | exact Or.inr (Or.inl rfl) | exact Or.inr (Or.inr rfl)) (hd : (x == ("__debug__" : Str)) = false := by decide) (hcd : (x == ("__classdict__" : Str)) = false := by decide)
    (hi : X.N[j]? = some y := by rfl) (hx : Loc X.env.scope y := by first | exact Or.inl rfl | exact Or.inr rfl) (hf : X.fn y = true ∨ X.env.scope.names.lookup y = some .local := by first | exact .inl rfl | exact .inr rfl | assumption)
    (ht : eval (.Call (.Attribute (.Name x p) "duplicate" apos) [] [] cpos) X.env = (do
      let ov ← eval (.Name x p) X.env
      standAt apos.atName
      let (f, first) ← holding [ov] (getMethod ov "duplicate" pl)
      callWith cpos f first (backTo cpos (starEach [] X.env)) (backToKw cpos (keywordEach [] X.env))) := by rfl)
    (hs : swapsWith (.Call (.Attribute (.Name x p) "duplicate" apos) [] [] cpos) (some (.Name y pos')) pos.line X.env = pure false := by rfl) :
    PS X (.Assign [.Name y pos'] (.Call (.Attribute (.Name x p) "duplicate" apos) [] [] cpos) pos) (sF (cx X B) W (sDup i j)) := by
  refine (ps_set hNd hi hx (pe_methZ0 (pl := pl) (pe_var hN hv hd hcd) T.cl hm G hr hb (fun σ => passAt tk σ) ht) hs hf).weak fun D σ H ⟨ρ, H0, rp, h⟩ => ?_
  unfold sDup at h
  cases q : recE i ρ with
  | none => rw [q] at h; exact h.elim
  | some sk =>
    obtain ⟨ss, k⟩ := sk
    rw [q] at h
    obtain ⟨pp, hs', R⟩ := slot_recV rp q
    obtain ⟨p', c', dx, fs, qq, xs, e1, k1, km, kf1, kf2, kf3, kq, k4, k5⟩ := id R
    cases e1
    have km : X.mg "Recorder" = some (.ref c') := km
    rw [T.mg] at km
    cases km
    refine ⟨.ref pp, hs', pp, dx, fs, rfl, k1, kf3.2 "duplicate" (by decide) (by decide), ?_⟩
    exact ⟨.ref pp, ss, k, H0, rfl, rp.st, R, fun p q c dx fs H' H0' g hp hq R' => h _ H' H0' g.z (rep_new rp hB g hp hq R' j)⟩
def sMove (i j : Nat) : FS := fun ρ => match ρ[i]? with
  | some (some (.r ss k)) => .next (((ρ.set i none).set j (some (.r ss k))).set i (some (.r ss ((ss.length : Int) - 1))))
  | _ => .bad
theorem sMove_cases (i j : Nat) (ρ : EV) : (∃ ss k, ρ[i]? = some (some (.r ss k)) ∧ sMove i j ρ = .next (((ρ.set i none).set j (some (.r ss k))).set i (some (.r ss ((ss.length : Int) - 1))))) ∨ sMove i j ρ = .bad := by
  unfold sMove
  split
  · rename_i ss k q
    exact .inl ⟨ss, k, q, rfl⟩
  · exact .inr rfl
theorem ss_move (i j : Nat) {c fa : Addr} {k : Nat} {fd : FuncData} {ps : List Str} {pl : Sem Bool} {rest : List Stmt} {g2 : FS} (T : RecC X c) {y : Str} {p pv apos cpos pos' px pos2 : Pos} (hB : B.s = none) (hNd : X.N.Nodup) (hij : i ≠ j) (hm : Meth X.K c "duplicate" fa) (G : FnOk X.prog X.w X.K X.mg X.base (L2.CX X.prog X.w) k fa fd ps (spD X.K X.mg)) (hr : Room k X.A) (hb : Binds X.K fd ps []) (tk : Takes X W)
    (h2 : PSs X rest (sF (cx X B) W g2))
    (hN : X.N[i]? = some x := by rfl) (hv : Vis X.env.scope x := by first | exact Or.inl rfl | exact Or.inr (Or.inl rfl) | exact Or.inr (Or.inr rfl)) (hd : (x == ("__debug__" : Str)) = false := by decide) (hcd : (x == ("__classdict__" : Str)) = false := by decide)
    (hi : X.N[j]? = some y := by rfl) (hx : Loc X.env.scope y := by first | exact Or.inl rfl | exact Or.inr rfl) (hf : X.fn y = true ∨ X.env.scope.names.lookup y = some .local := by first | exact .inl rfl | exact .inr rfl | assumption)
    (hxx : Loc X.env.scope x := by first | exact Or.inl rfl | exact Or.inr rfl) (hfx : X.fn x = true ∨ X.env.scope.names.lookup x = some .local := by first | exact .inl rfl | exact .inr rfl | assumption)
    (ht : eval (.Call (.Attribute (.Name x p) "duplicate" apos) [] [] cpos) X.env = (do
      let ov ← eval (.Name x p) X.env
      standAt apos.atName
      let (f, first) ← holding [ov] (getMethod ov "duplicate" pl)
      callWith cpos f first (backTo cpos (starEach [] X.env)) (backToKw cpos (keywordEach [] X.env))) := by rfl)
    (hs1 : swapsWith (.Name x pv) (some (.Name y pos')) pos.line X.env = pure false := by rfl)
    (hs : swapsWith (.Call (.Attribute (.Name x p) "duplicate" apos) [] [] cpos) (some (.Name x px)) pos2.line X.env = pure false := by rfl) :
    PSs X (.Assign [.Name y pos'] (.Name x pv) pos :: .Assign [.Name x px] (.Call (.Attribute (.Name x p) "duplicate" apos) [] [] cpos) pos2 :: rest) (sF (cx X B) W (sSeq (sMove i j) g2)) := by
  refine (pss_cons (ps_set hNd hi hx (pe_var hN hv hd hcd) hs1 hf) (pss_cons (ps_set hNd hN hxx (pe_methZ0 (pl := pl) (pe_var hN hv hd hcd) T.cl hm G hr hb (fun σ => passAt tk σ) ht) hs hfx) h2)).weak fun D σ H ⟨ρ, H0, rp, h⟩ => ?_
  rcases sMove_cases i j ρ with ⟨ss, k, q, c0⟩ | c0
  · unfold sSeq at h
    rw [c0] at h
    simp only at h
    · skip
      obtain ⟨pp, hs', R⟩ := slot_recV (i := i) rp (by unfold recE; rw [q])
      obtain ⟨p', c', dx, fs, qq, xs, e1, k1, km, kf1, kf2, kf3, kq, k4, k5⟩ := id R
      cases e1
      have km : X.mg "Recorder" = some (.ref c') := km
      rw [T.mg] at km
      cases km
      refine ⟨.ref pp, hs', ?_⟩
      show gName j (.ref pp) σ H _
      have hsj : (σ.set j (some (.ref pp)))[i]? = some (some (.ref pp)) := by rw [List.getElem?_set_ne (Ne.symm hij)]; exact hs'
      refine ⟨.ref pp, hsj, pp, dx, fs, rfl, k1, kf3.2 "duplicate" (by decide) (by decide), ?_⟩
      have rpf := rp.forget i
      have sv : SVRep (cx X B) H H0 (.ref pp) (.r ss k) := rp.at1 q hs'
      have rpj : Rep (cx X B) (σ.set j (some (.ref pp))) H H0 ((ρ.set i none).set j (some (.r ss k))) := rpf.setOwn sv (fun m sm w a em ew ow oa => by
        have hm : i ≠ m := fun z => by
          subst z
          by_cases hl : i < ρ.length
          · rw [List.getElem?_set_self hl] at em; cases em
          · rw [List.getElem?_eq_none (by simpa using hl)] at em; cases em
        rw [List.getElem?_set_ne hm] at em
        exact hm (rp.sep i m _ sm _ w a q em hs' ew oa ow)) j
      exact ⟨.ref pp, ss, k, H0, rfl, rp.st, R, fun p q c dx fs H' H0' g hp hq R' => ⟨_, H0', rep_new rpj hB g hp hq R' i, h.grow g.z⟩⟩
  · unfold sSeq at h; rw [c0] at h; exact h.elim
def sNew2 (i j : Nat) : FS := fun ρ => .next ((ρ.set i (some (.r [.tuple []] 0))).set j (some (.r [.tuple []] 0)))
theorem s_new2 {i j : Nat} {y : Str} {a b : Expr} {px py pt : Pos} {kt k2 pt2} (hc : X.calm = true) (hB : B.s = none) (hN : X.N.Nodup) (ha : PE X a (wF (cx X B) W [.tuple []] 0)) (hb : PE X b (wF (cx X B) W [.tuple []] 0)) (hw : swappedStores [.Tuple [.Name x px, .Name y py] kt pt] (.Tuple [a, b] k2 pt2) X.env = pure (some [x, y]))
    (hi : X.N[i]? = some x := by rfl) (hj : X.N[j]? = some y := by rfl) (hij : i ≠ j := by decide) (hx : X.env.scope.names.lookup x = some .local := by rfl) (hy : X.env.scope.names.lookup y = some .local := by rfl)
    (hs : swapsWithSole [.Tuple [.Name x px, .Name y py] kt pt] (.Tuple [a, b] k2 pt2) pos.line X.env = pure false := by rfl) (he : starEach [a, b] X.env = (false, eval a X.env) :: starEach [b] X.env := by rfl) (heb : starEach [b] X.env = (false, eval b X.env) :: starEach [] X.env := by rfl) :
    PS X (.Assign [.Tuple [.Name x px, .Name y py] kt pt] (.Tuple [a, b] k2 pt2) pos) (sF (cx X B) W (sNew2 i j)) := by
  refine (ps_par hc hN hi hj hij hx hy (pa_cons ha (pa_cons hb pa_nil heb) he) hw hs).weak fun D σ H ⟨ρ, H0, rp, h⟩ => ⟨ρ, H0, rp, fun p q c dx fs H' H0' g hp hq R => ⟨ρ, H0', rp.grow g, fun p2 q2 c2 dx2 fs2 H2 H02 g2 hp2 hq2 R2 => ⟨.ref p, .ref p2, rfl, ?_⟩⟩⟩
  have r1 := rep_new rp hB g hp hq R i
  have r2 := rep_new r1 hB g2 hp2 hq2 R2 j
  exact h _ H2 H02 (g.z.trans g2.z) r2
end
end CP
namespace CP
open PySem L2
def strI (i : Int) : Str := Str.ofString (toString i)
def fmtD : PyData → R PyData
  | .str y => if y.length ≤ LIM then .ok (.str y) else .bad
  | .int i => if i.natAbs.log2 < 1920 then .ok (.str (strI i)) else .bad
  | _ => .bad
section
variable {X : Cx} {B : Bs} {W : WX} {e o : Expr} {f fo : FE} {pos : Pos} {s sa sb : Bool}
theorem d_fmt (he : PE X e (eF (cx X B) W sa f)) : PE X (.FormattedValue e (-1) none pos) (eF (cx X B) W s (e1 fmtD f)) := by
  refine (pe_fmt he).weak fun σ H Q ⟨ρ, H0, rp, h⟩ => ⟨ρ, H0, rp, eO.seq (ρ := ρ) h fun d v H1 H01 g w q => ?_⟩
  cases d <;> try exact False.elim q
  · rename_i i
    by_cases hz : i.natAbs.log2 < 1920
    · simp only [fmtD, if_pos hz] at q
      exact .inr ⟨i, w.int, hz, eO.val q g.i (.str _)⟩
    · simp only [fmtD, if_neg hz] at q; exact q.elim
  · rename_i y
    by_cases hz : y.length ≤ LIM
    · simp only [fmtD, if_pos hz] at q
      exact .inl ⟨y, w.str, Nat.le_trans hz lim_line, eO.val q g.i (.str _)⟩
    · simp only [fmtD, if_neg hz] at q; exact q.elim
def jGo : List FE → Str → EV → R Str
  | [], acc, _ => .ok acc
  | f :: r, acc, ρ => (f ρ).bind fun d => match d with
    | .str y => if (acc ++ y).length ≤ LIM then jGo r (acc ++ y) ρ else .bad
    | _ => .bad
inductive PJF (X : Cx) (B : Bs) (W : WX) : List Expr → List FE → Prop
  | nil : PJF X B W [] []
  | cons {e : Expr} {f : FE} {es : List Expr} {fs : List FE} (h : PE X e (eF (cx X B) W true f)) (r : PJF X B W es fs) : PJF X B W (e :: es) (f :: fs)
theorem pj_of {es : List Expr} {fs : List FE} (h : PJF X B W es fs) : PJ X es (fs.map fun f => eF (cx X B) W true f) := by
  induction h with
  | nil => exact .nil
  | cons h _ ih => exact .cons h ih
def eJoined (fs : List FE) : FE := fun ρ => (jGo fs Str.empty ρ).bind fun y => .ok (.str y)
theorem j_read {σ : St} {ρ : EV} {Q : VK} : ∀ {fs : List FE} {acc : Str} {H H0 : Hp}, Rep (cx X B) σ H H0 ρ → eO (cx X B) W s σ H H0 ((jGo fs acc ρ).bind fun y => .ok (.str y)) Q → tJs (fs.map fun f => eF (cx X B) W true f) acc σ H fun out H1 => Q (.str out) H1
  | [], acc, H, H0, rp, h => eO.val h rp.st (.str _)
  | f :: r, acc, H, H0, rp, h => by
    refine ⟨ρ, H0, rp, ?_⟩
    unfold jGo at h
    cases c : f ρ with
    | bad => rw [c] at h; exact h
    | exc c' => rw [c] at h; exact h
    | ok d =>
      rw [c] at h
      intro v H1 H01 g w
      cases d <;> try exact False.elim h
      rename_i y
      simp only [R.bind_ok] at h
      by_cases hz : (acc ++ y).length ≤ LIM
      · rw [if_pos hz] at h
        exact ⟨y, w.str, Nat.le_trans hz lim_line, j_read (rp.grow g) (eO.grow h g)⟩
      · rw [if_neg hz] at h; exact h.elim
theorem d_joined {v1 v2 : Expr} {rest : List Expr} {fs : List FE} (h : PJF X B W (v1 :: v2 :: rest) fs) : PE X (.JoinedStr (v1 :: v2 :: rest) pos) (eF (cx X B) W s (eJoined fs)) :=
  (pe_joined (pj_of h)).weak fun σ H Q ⟨ρ, H0, rp, h⟩ => j_read rp h
def strsOf : List PyData → Option (List Str)
  | [] => some []
  | .str x :: r => match strsOf r with
    | some ys => some (x :: ys)
    | none => none
  | _ :: _ => none
theorem strsOf_some : ∀ {ds : List PyData} {ys : List Str}, strsOf ds = some ys → ds = ys.map .str
  | [], _, h => by cases h; rfl
  | d :: r, ys, h => by
    cases d <;> try (unfold strsOf at h; cases h; done)
    rename_i x
    unfold strsOf at h
    cases e : strsOf r with
    | none => rw [e] at h; cases h
    | some zs => rw [e] at h; cases h; rw [strsOf_some e]; rfl
theorem strsOf_map : ∀ ys : List Str, strsOf (ys.map .str) = some ys
  | [] => rfl
  | y :: r => by rw [List.map_cons, strsOf, strsOf_map r]
theorem DqAll.strs {K : PySem.W.Frag} {H : Hp} : ∀ {ys : List Str} {xs : List V}, DqAll K H xs (ys.map .str) → xs = ys.map V.str
  | [], _, h => by cases h; rfl
  | y :: ys, _, h => by
    cases h with
    | cons a b => cases a; rw [DqAll.strs b]; rfl
theorem dq_strs' {K : PySem.W.Frag} {H : Hp} : ∀ ys : List Str, DqAll K H (ys.map V.str) (ys.map PyData.str)
  | [] => .nil
  | _ :: r => .cons (.str _) (dq_strs' r)
def joinD (a : Str) : PyData → R PyData
  | .list ds => match strsOf ds with
    | some ys => if (ys.map (·.length)).sum + ys.length * a.length ≤ LIM then .ok (.str (Str.join a ys)) else .bad
    | none => .bad
  | _ => .bad
theorem d_join {apos cp : Pos} {a : Str} {j} (he : PE X e (eF (cx X B) W sb f)) (hs : starEach [e] X.env = [(false, eval e X.env)] := by rfl) (hbase : attributeBase (.Constant (.str a) j cp) "join" X.env (eval (.Constant (.str a) j cp) X.env) = eval (.Constant (.str a) j cp) X.env := by rfl) (hline : (apos.endLine == pos.line) = true := by rfl) :
    PE X (.Call (.Attribute (.Constant (.str a) j cp) "join" apos) [e] [] pos) (eF (cx X B) W s (e1 (joinD a) f)) := by
  refine (pe_join pe_str he hs hbase hline).weak fun σ H Q ⟨ρ, H0, rp, h⟩ => ?_
  refine ⟨⟨a, rfl⟩, ρ, H0, rp, eO.seq (ρ := ρ) h fun d2 v2 H2 H02 g2 w2 h2 => ?_⟩
  cases d2 <;> try exact False.elim h2
  rename_i ds
  obtain ⟨p, xs, rfl, k1, k2, k3⟩ := w2.lst g2.i
  unfold joinD at h2
  cases c : strsOf ds with
  | none => simp only [c] at h2; exact h2.elim
  | some ys =>
    simp only [c] at h2
    by_cases hz : (ys.map (·.length)).sum + ys.length * a.length ≤ LIM
    · rw [if_pos hz] at h2
      have e := strsOf_some c
      subst e
      have ex := k3.strs
      subst ex
      refine ⟨a, p, ys, rfl, rfl, .inl (.inl k1), Nat.le_trans hz (by decide), ?_⟩
      rw [TL.join_eq]
      exact eO.val h2 g2.i (.str _)
    · rw [if_neg hz] at h2; exact h2.elim
def splitD : PyData → PyData → R PyData
  | .str a, .str b => if a.length ≤ 90000 ∧ (b.length == 0) = false ∧ (Txt.split a b).length ≤ LIM then .ok (.list ((Txt.split a b).map .str)) else .bad
  | _, _ => .bad
theorem cd_str : CallD X (.type "str") fmtD := by
  refine ⟨fun xs H Q => (∃ a, xs = [.str a] ∧ Q (.str a) H) ∨ ∃ i, xs = [.int i] ∧ i.natAbs.log2 < 1920 ∧ Q (.str (toString i)) H, fun pins s σ H xs us Q I r h => ?_, fun B W sa σ x d H H0 Q i w h => ?_⟩
  · rcases h with h | h
    · exact SkE.call_str_str pins s σ H xs us Q I r h
    · exact call_str_int pins s σ H xs us Q I r h
  · cases d <;> try exact False.elim h
    · rename_i n
      by_cases hz : n.natAbs.log2 < 1920
      · simp only [fmtD, if_pos hz] at h
        rw [w.int]
        exact .inr ⟨n, rfl, hz, eO.val h i (.str _)⟩
      · simp only [fmtD, if_neg hz] at h; exact h.elim
    · rename_i y
      by_cases hz : y.length ≤ LIM
      · simp only [fmtD, if_pos hz] at h
        rw [w.str]
        exact .inl ⟨y, rfl, eO.val h i (.str _)⟩
      · simp only [fmtD, if_neg hz] at h; exact h.elim
end
end CP
namespace CP
open PySem L2
structure RecK (K : PySem.W.Frag) (mg : Str → Option Value) where
  c : Addr
  mgr : mg "Recorder" = some (.ref c)
  cl : Cls K c
  st : NoAttr K c "steps"
  kp : NoAttr K c "kept"
  makes : PySem.W.makesIn K c = true
  keep : PySem.W.keepIn K (.ref c) = true
  ne : PySem.W.findIn K (.ref c) "__ne__" = some (some (.builtin "object.__ne__"))
  mro : PySem.W.mroIn K c (.type "object") = some true
  ca : PySem.W.findIn K (.ref c) "__class__" = some (some (.builtin "object.__class__"))
  cn : PySem.W.specialIn K (.builtin "object.__class__") "__get__" = some (some (.builtin "getset_descriptor.__get__"))
  ct : PySem.W.takesIn K (.builtin "object.__class__") = some true
  kr : PySem.W.kitOne K (.ref c) (.ref c) = some true
  kt : PySem.W.kitOne K (.type "tuple") (.ref c) = some false
  ks : PySem.W.kitOne K (.type "str") (.ref c) = some false
structure Mf (K : PySem.W.Frag) (c : Addr) (x qual : Str) (st : Stmt) (ps : List Str) where
  f : Addr
  fd : FuncData
  fn : Fun K x qual st f fd
  bs : Binds K fd ps []
  at_ : PySem.W.findIn K (.ref c) x = some (some (.ref f))
  isf : PySem.W.isFn K (.ref f) = true
section
variable {X : Cx}
theorem RecK.rc {K : PySem.W.Frag} {mg : Str → Option Value} (R : RecK K mg) {X : Cx} (hK : X.K = K := by rfl) (hm : X.mg = mg := by rfl) : RecC X R.c := by
  subst hK hm
  exact ⟨R.mgr, R.cl, R.st, R.kp⟩
theorem RecK.ri {K : PySem.W.Frag} {mg : Str → Option Value} (R : RecK K mg) {X : Cx} (hK : X.K = K := by rfl) : RecI X R.c := by
  subst hK
  exact ⟨R.ca, R.cn, R.ct, R.mro, R.kr, R.kt, R.ks⟩
theorem Mf.me {K : PySem.W.Frag} {c : Addr} {x qual : Str} {st : Stmt} {ps : List Str} (M : Mf K c x qual st ps) : Meth K c x M.f := ⟨M.at_, M.isf, M.fn.kp⟩
theorem RecK.mkr {K : PySem.W.Frag} {mg : Str → Option Value} (R : RecK K mg) {qual : Str} {st : Stmt} {ps : List Str} (M : Mf K R.c "__init__" qual st ps) : Mk K R.c M.f := ⟨R.makes, M.at_, M.isf, R.keep⟩
theorem RecK.rq {K : PySem.W.Frag} {mg : Str → Option Value} (R : RecK K mg) {qual : Str} {st : Stmt} {ps : List Str} (M : Mf K R.c "__eq__" qual st ps) {X : Cx} (hK : X.K = K := by rfl) : RecQ X R.c M.f := by
  subst hK
  exact ⟨M.at_, M.isf, R.ne, R.mro⟩
end
end CP
namespace CP
open PySem L2
def C_text_of_1 : FE := eLc (iSeq (eV 0)) [1, 2, 3, 4] (gT [1, 2, 3, 4]) (tTrue) (eJoined [e1 fmtD (eV 1), eC (.str " "), e1 fmtD (eV 2), eC (.str " "), e1 fmtD (eV 3), eC (.str "-"), e1 fmtD (eV 4)])
def F_text_of : List PyData → R PyData := runF 5 (sRet (eIf (tV (eV 0)) (e1 (joinD "\n") (C_text_of_1)) (eC (.str "none"))))
def F_R_len : FA := runA 1 (sRet (e1 lenD (eSl (eSt 0) (oS (eC (.int (1)))) (oN))))
def F_R_str : FA := runA 1 (sRet (e1 fmtD (eCall 1 F_text_of (aC (e2 ixD (eSt 0) (e1 negD (eC (.int (1))))) (aN)))))
def F_R_eq : FA := runA 2 (sSeq (sIf (tNotF (tV (eIsR 1))) (sRet (eC (.bool false))) (sNil)) (sRet (e2 eqD (e2 ixD (eSt 0) (e1 negD (eC (.int (1))))) (e2 ixD (eSt 1) (e1 negD (eC (.int (1))))))))
def F_R_story : FA := runA 1 (sRet (e2 ixD (eSt 0) (e1 negD (eC (.int (1))))))
def F_R_record : FR := runU 2 (uSeq (uIf (tOrF (tNotF (tV (eCall 1 F_is_operation (aC (eV 1) (aN))))) (tNotF (tV (eCall 1 F_is_story (aC (eCall 2 F_with_operation (aC (e2 ixD (eSt 0) (e1 negD (eC (.int (1))))) (aC (eV 1) (aN)))) (aN)))))) (uS (sRaise "InvalidOperation")) (uNil)) (uSeq (uS (sRapp 0 (eCall 2 F_with_operation (aC (e2 ixD (eSt 0) (e1 negD (eC (.int (1))))) (aC (eV 1) (aN)))))) (uRet (qE (e2 neD (eCall 2 F_explanations_of (aC (e2 ixD (eSt 0) (e1 negD (eC (.int (1))))) (aC (eC (.int (1))) (aN)))) (eLs (aN)))))))
def F_R_undo : FR := runU 1 (uSeq (uIf (tB (e2 leD (e2 opSub (e1 lenD (eSt 0)) (eC (.int (1)))) (eKp 0))) (uS (sRaise "NothingToUndo")) (uNil)) (uSeq (uS (sRpop 0)) (uRet (qE (e2 ixD (eSt 0) (e1 negD (eC (.int (1)))))))))
def G_R_duplicate : FS := sSeq (sNew 1 [.tuple []] 0) (sSeq (sFst 1 (e1 listD (eSt 0))) (sSeq (sFkp 1 (e2 opSub (e1 lenD (eSt 0)) (eC (.int (1))))) (sNil)))
def F_format_story : List PyData → R PyData := runF 1 (sSeq (sExpr (eCall 1 F_check_story (aC (eV 0) (aN)))) (sRet (eCall 1 F_text_of (aC (eV 0) (aN)))))
end CP
namespace CP
open PySem L2
theorem wOp_eq {l r : List Op} {o : Op} (ha : l.Pairwise fun a b => a.s < b.s) (hp : l.Perm (r ++ [o])) : wOp r o = l := by
  have pm := (wOp_perm r o).trans hp.symm
  have le := wOp_asc r o
  have nd : (wOp r o).Pairwise fun a b => a.s ≠ b.s := by
    have h1 : (l.map Op.s).Nodup := List.pairwise_map.mpr (ha.imp fun h => by omega)
    have h2 : ((wOp r o).map Op.s).Nodup := (pm.map Op.s).nodup_iff.mpr h1
    exact List.pairwise_map.mp h2
  refine asc_key Op.s ((le.and nd).imp fun h => by omega) ha fun x => pm.mem_iff
theorem filter_perm {st : List Op} (hn : st.Nodup) {p : Op → Bool} {o : Op} (ho : o ∈ st) (hp : p o = false) : (st.filter fun x => p x || decide (x = o)).Perm (st.filter p ++ [o]) := by
  induction st with
  | nil => cases ho
  | cons y st ih =>
    obtain ⟨n1, n2⟩ := List.nodup_cons.mp hn
    rcases List.mem_cons.mp ho with rfl | ho
    · have e : (st.filter fun x => p x || decide (x = o)) = st.filter p := List.filter_congr fun x hx => by
        have : x ≠ o := fun z => n1 (z ▸ hx)
        simp [this]
      rw [List.filter_cons, List.filter_cons, hp, e]
      simp only [Bool.false_or, decide_true, if_true, Bool.false_eq_true, if_false]
      exact (List.perm_append_comm (l₁ := [o]) (l₂ := st.filter p))
    · have ne : y ≠ o := fun z => n1 (z ▸ ho)
      have ih := ih n2 ho
      rw [List.filter_cons, List.filter_cons]
      simp only [ne, decide_false, Bool.or_false]
      cases p y with
      | true => simp only [if_true, List.cons_append]; exact ih.cons y
      | false => simp only [Bool.false_eq_true, if_false]; exact ih
theorem wOp_filter {st : List Op} (hv : Valid st) {p : Op → Bool} {o : Op} (ho : o ∈ st) (hp : p o = false) : wOp (st.filter p) o = st.filter fun x => p x || decide (x = o) :=
  wOp_eq (hv.asc.filter _) (filter_perm hv.nodup ho hp)
theorem Valid.ok {st : List Op} (hv : Valid st) {o : Op} (ho : o ∈ st) : okOp o = true := (okOp_iff o).mpr (by
  have := hv.rng o ho
  exact this)
abbrev rws (rows : List (List Op)) : List PyData := rows.map sd
theorem ix_last {rows : List (List Op)} {st : List Op} (h : rows.getLast? = some st) : ixD (.list (rws rows)) (.int (-1)) = .ok (sd st) := ix_neg1 (by rw [List.getLast?_map, h]; rfl)
theorem eSt_r (ss : List PyData) (k : Int) (r : EV) : eSt 0 (some (.r ss k) :: r) = .ok (.list ss) := rfl
theorem eSt_v (ss : List PyData) (k : Int) (r : EV) : eSt 0 (some (.v ss k) :: r) = .ok (.list ss) := rfl
theorem eKp_r (ss : List PyData) (k : Int) (r : EV) : eKp 0 (some (.r ss k) :: r) = .ok (.int k) := rfl
theorem isop_nt {d : PyData} (h : isiTup d = false) : F_is_operation [d] = .ok (.bool false) := by
  unfold F_is_operation
  rw [runF_ev]
  simp only [List.map_cons, List.map_nil, List.length_cons, List.length_nil, List.cons_append, List.nil_append, List.replicate, Nat.sub_self, List.append_nil, sSeq_ev, sSet_ev, sExpr_ev, sRet_ev, sRetN_ev, sIf_ev, sFor_ev, sNil_ev, sOwn_ev, eCall_ev, aC_ev, aN_ok, eVs, eV0, eLs', eL0, eC_ev, bind_ok', bind_bad', bind_exc', callN_ev, if_true, if_false, outOf_ok, outOf_exc, outOf_bad, List.set_cons_succ, List.set_cons_zero, then_next, then_ret, then_exc, e1_ev, e2_ev, eT_ev, eLs_ev, mkL_nil, mkL_1, mkL_2, mkT_nil, mkT_1, mkT_2, mkT_3, mkT_4, tB_ev, tV_ev, tAnd_ev, tOr_ev, tNot_ev, tTrue_ev, eAnd_ev, eOr_ev, eNot_ev, eIf_ev, iSeq_ev, seqD_l, seqD_t, asB_bool, truthD_bool, truthD_lst, truthD_tup, runO_ret, runO_next, runO_exc, Bool.not_true, Bool.not_false, Bool.false_eq_true, Bool.true_and, Bool.false_and, Bool.and_true, Bool.and_false, Bool.not_not, tupleD_l, tupleD_t, listD_l, listD_t, lenD_lst, lenD_tup, List.length_map, em_map, eqD_int, neD_int, ltD_int, leD_int, gtD_int, geD_int, opAdd_int, opSub_int, negD_1, isiD_ev, gN_ev, gT_ev, setAll_c, setAll_n, wipeE_c, wipeE_n, isD_non, isNotD_non, eIdx_ev, ix_op0, ix_op1, ix_op2, ix_op3, eqD_kdw, eqD_kdr, List.getElem?_cons_succ, List.getElem?_cons_zero, decide_true, decide_false, h]
abbrev xop : Ex := ⟨"InvalidOperation", none⟩
theorem record_bad {ss : List PyData} {k : Int} {d : PyData} (h : F_is_operation [d] = .ok (.bool false)) : F_R_record ss k [d] = .exc xop ss := by
  unfold F_R_record runU runR uR uSeq uIf
  simp only [startR, List.map_cons, List.map_nil, List.length_cons, List.length_nil, List.cons_append, List.nil_append, List.replicate, Nat.sub_self]
  simp only [List.map_cons, List.map_nil, List.length_cons, List.length_nil, List.cons_append, List.nil_append, List.replicate, Nat.sub_self, List.append_nil, sSeq_ev, sSet_ev, sExpr_ev, sRet_ev, sRetN_ev, sIf_ev, sFor_ev, sNil_ev, sOwn_ev, eCall_ev, aC_ev, aN_ok, eVs, eV0, eLs', eL0, eC_ev, bind_ok', bind_bad', bind_exc', callN_ev, if_true, if_false, outOf_ok, outOf_exc, outOf_bad, List.set_cons_succ, List.set_cons_zero, then_next, then_ret, then_exc, e1_ev, e2_ev, eT_ev, eLs_ev, mkL_nil, mkL_1, mkL_2, mkT_nil, mkT_1, mkT_2, mkT_3, mkT_4, tB_ev, tV_ev, tAnd_ev, tOr_ev, tNot_ev, tTrue_ev, eAnd_ev, eOr_ev, eNot_ev, eIf_ev, iSeq_ev, seqD_l, seqD_t, asB_bool, truthD_bool, truthD_lst, truthD_tup, runO_ret, runO_next, runO_exc, Bool.not_true, Bool.not_false, Bool.false_eq_true, Bool.true_and, Bool.false_and, Bool.and_true, Bool.and_false, Bool.not_not, tupleD_l, tupleD_t, listD_l, listD_t, lenD_lst, lenD_tup, List.length_map, em_map, eqD_int, neD_int, ltD_int, leD_int, gtD_int, geD_int, opAdd_int, opSub_int, negD_1, isiD_ev, gN_ev, gT_ev, setAll_c, setAll_n, wipeE_c, wipeE_n, isD_non, isNotD_non, eIdx_ev, ix_op0, ix_op1, ix_op2, ix_op3, eqD_kdw, eqD_kdr, List.getElem?_cons_succ, List.getElem?_cons_zero, decide_true, decide_false, h, uS, sRaise]
theorem record_no {rows : List (List Op)} {st : List Op} (hl : rows.getLast? = some st) (h6 : st.length ≤ 100) {k : Int} {o : Op} (h : okOp o = false ∨ validB (wOp st o) = false) : F_R_record (rws rows) k [o.d] = .exc xop (rws rows) := by
  by_cases ho : okOp o = true
  · have hv : validB (wOp st o) = false := h.resolve_left (by rw [ho]; simp)
    unfold F_R_record runU runR uR uSeq uIf
    simp only [startR, List.map_cons, List.map_nil, List.length_cons, List.length_nil, List.cons_append, List.nil_append, List.replicate, Nat.sub_self]
    simp only [List.map_cons, List.map_nil, List.length_cons, List.length_nil, List.cons_append, List.nil_append, List.replicate, Nat.sub_self, List.append_nil, sSeq_ev, sSet_ev, sExpr_ev, sRet_ev, sRetN_ev, sIf_ev, sFor_ev, sNil_ev, sOwn_ev, eCall_ev, aC_ev, aN_ok, eVs, eV0, eLs', eL0, eC_ev, bind_ok', bind_bad', bind_exc', callN_ev, if_true, if_false, outOf_ok, outOf_exc, outOf_bad, List.set_cons_succ, List.set_cons_zero, then_next, then_ret, then_exc, e1_ev, e2_ev, eT_ev, eLs_ev, mkL_nil, mkL_1, mkL_2, mkT_nil, mkT_1, mkT_2, mkT_3, mkT_4, tB_ev, tV_ev, tAnd_ev, tOr_ev, tNot_ev, tTrue_ev, eAnd_ev, eOr_ev, eNot_ev, eIf_ev, iSeq_ev, seqD_l, seqD_t, asB_bool, truthD_bool, truthD_lst, truthD_tup, runO_ret, runO_next, runO_exc, Bool.not_true, Bool.not_false, Bool.false_eq_true, Bool.true_and, Bool.false_and, Bool.and_true, Bool.and_false, Bool.not_not, tupleD_l, tupleD_t, listD_l, listD_t, lenD_lst, lenD_tup, List.length_map, em_map, eqD_int, neD_int, ltD_int, leD_int, gtD_int, geD_int, opAdd_int, opSub_int, negD_1, isiD_ev, gN_ev, gT_ev, setAll_c, setAll_n, wipeE_c, wipeE_n, isD_non, isNotD_non, eIdx_ev, ix_op0, ix_op1, ix_op2, ix_op3, eqD_kdw, eqD_kdr, List.getElem?_cons_succ, List.getElem?_cons_zero, decide_true, decide_false, eSt_r, ix_last hl, is_operation_ok, ho, with_operation_ok h6, is_story_ok, hv, uS, sRaise]
  · exact record_bad (by rw [is_operation_ok]; simpa using ho)
theorem record_ok {rows : List (List Op)} {st : List Op} (hl : rows.getLast? = some st) (hr : rows.length ≤ 90000) (h6 : st.length ≤ 100) {k : Int} {o : Op} (ho : okOp o = true) (hv : Valid (wOp st o)) :
    F_R_record (rws rows) k [o.d] = .ok (.bool (!(expl (wOp st o)).isEmpty)) (rws (rows ++ [wOp st o])) := by
  have vb := (valid_iff _).mpr hv
  have hl2 : (rows ++ [wOp st o]).getLast? = some (wOp st o) := by simp
  have ap : ∀ r : EV, sRapp 0 (eCall 2 F_with_operation (aC (e2 ixD (eSt 0) (e1 negD (eC (.int (1))))) (aC (eV 1) (aN)))) (some (.r (rws rows) k) :: some (.d o.d) :: r) = .next (some (.r (rws (rows ++ [wOp st o])) k) :: some (.d o.d) :: r) := fun r => by
    unfold sRapp
    have hlen : rows.length < LIM := by unfold LIM; omega
    simp only [List.map_cons, List.map_nil, List.length_cons, List.length_nil, List.cons_append, List.nil_append, List.replicate, Nat.sub_self, List.append_nil, sSeq_ev, sSet_ev, sExpr_ev, sRet_ev, sRetN_ev, sIf_ev, sFor_ev, sNil_ev, sOwn_ev, eCall_ev, aC_ev, aN_ok, eVs, eV0, eLs', eL0, eC_ev, bind_ok', bind_bad', bind_exc', callN_ev, if_true, if_false, outOf_ok, outOf_exc, outOf_bad, List.set_cons_succ, List.set_cons_zero, then_next, then_ret, then_exc, e1_ev, e2_ev, eT_ev, eLs_ev, mkL_nil, mkL_1, mkL_2, mkT_nil, mkT_1, mkT_2, mkT_3, mkT_4, tB_ev, tV_ev, tAnd_ev, tOr_ev, tNot_ev, tTrue_ev, eAnd_ev, eOr_ev, eNot_ev, eIf_ev, iSeq_ev, seqD_l, seqD_t, asB_bool, truthD_bool, truthD_lst, truthD_tup, runO_ret, runO_next, runO_exc, Bool.not_true, Bool.not_false, Bool.false_eq_true, Bool.true_and, Bool.false_and, Bool.and_true, Bool.and_false, Bool.not_not, tupleD_l, tupleD_t, listD_l, listD_t, lenD_lst, lenD_tup, List.length_map, em_map, eqD_int, neD_int, ltD_int, leD_int, gtD_int, geD_int, opAdd_int, opSub_int, negD_1, isiD_ev, gN_ev, gT_ev, setAll_c, setAll_n, wipeE_c, wipeE_n, isD_non, isNotD_non, eIdx_ev, ix_op0, ix_op1, ix_op2, ix_op3, eqD_kdw, eqD_kdr, List.getElem?_cons_succ, List.getElem?_cons_zero, decide_true, decide_false, eSt_r, ix_last hl, with_operation_ok h6, hlen, List.map_append]
  have e1' := expl1 hv
  have ne : neD (.list (((expl (wOp st o)).take 1).map od)) (.list []) = .ok (.bool (!(expl (wOp st o)).isEmpty)) := by
    refine (encLO.neD (by decide) ((expl (wOp st o)).take 1) []).trans ?_
    cases expl (wOp st o) <;> rfl
  unfold F_R_record runU runR uR uSeq uIf
  simp only [startR, List.map_cons, List.map_nil, List.length_cons, List.length_nil, List.cons_append, List.nil_append, List.replicate, Nat.sub_self]
  simp only [List.map_cons, List.map_nil, List.length_cons, List.length_nil, List.cons_append, List.nil_append, List.replicate, Nat.sub_self, List.append_nil, sSeq_ev, sSet_ev, sExpr_ev, sRet_ev, sRetN_ev, sIf_ev, sFor_ev, sNil_ev, sOwn_ev, eCall_ev, aC_ev, aN_ok, eVs, eV0, eLs', eL0, eC_ev, bind_ok', bind_bad', bind_exc', callN_ev, if_true, if_false, outOf_ok, outOf_exc, outOf_bad, List.set_cons_succ, List.set_cons_zero, then_next, then_ret, then_exc, e1_ev, e2_ev, eT_ev, eLs_ev, mkL_nil, mkL_1, mkL_2, mkT_nil, mkT_1, mkT_2, mkT_3, mkT_4, tB_ev, tV_ev, tAnd_ev, tOr_ev, tNot_ev, tTrue_ev, eAnd_ev, eOr_ev, eNot_ev, eIf_ev, iSeq_ev, seqD_l, seqD_t, asB_bool, truthD_bool, truthD_lst, truthD_tup, runO_ret, runO_next, runO_exc, Bool.not_true, Bool.not_false, Bool.false_eq_true, Bool.true_and, Bool.false_and, Bool.and_true, Bool.and_false, Bool.not_not, tupleD_l, tupleD_t, listD_l, listD_t, lenD_lst, lenD_tup, List.length_map, em_map, eqD_int, neD_int, ltD_int, leD_int, gtD_int, geD_int, opAdd_int, opSub_int, negD_1, isiD_ev, gN_ev, gT_ev, setAll_c, setAll_n, wipeE_c, wipeE_n, isD_non, isNotD_non, eIdx_ev, ix_op0, ix_op1, ix_op2, ix_op3, eqD_kdw, eqD_kdr, List.getElem?_cons_succ, List.getElem?_cons_zero, decide_true, decide_false, eSt_r, ix_last hl, is_operation_ok, ho, with_operation_ok h6, is_story_ok, vb, uNil, uS, ap, uRet, qE, ix_last hl2, e1', ne]
abbrev xnu : Ex := ⟨"NothingToUndo", none⟩
theorem undo_no {ss : List PyData} {k : Int} (h : (ss.length : Int) - 1 ≤ k) : F_R_undo ss k [] = .exc xnu ss := by
  have e : decide ((ss.length : Int) - 1 ≤ k) = true := decide_eq_true h
  unfold F_R_undo runU runR uR uSeq uIf
  simp only [startR, List.map_nil, List.length_nil, List.nil_append, List.replicate, Nat.sub_self]
  simp only [List.map_cons, List.map_nil, List.length_cons, List.length_nil, List.cons_append, List.nil_append, List.replicate, Nat.sub_self, List.append_nil, sSeq_ev, sSet_ev, sExpr_ev, sRet_ev, sRetN_ev, sIf_ev, sFor_ev, sNil_ev, sOwn_ev, eCall_ev, aC_ev, aN_ok, eVs, eV0, eLs', eL0, eC_ev, bind_ok', bind_bad', bind_exc', callN_ev, if_true, if_false, outOf_ok, outOf_exc, outOf_bad, List.set_cons_succ, List.set_cons_zero, then_next, then_ret, then_exc, e1_ev, e2_ev, eT_ev, eLs_ev, mkL_nil, mkL_1, mkL_2, mkT_nil, mkT_1, mkT_2, mkT_3, mkT_4, tB_ev, tV_ev, tAnd_ev, tOr_ev, tNot_ev, tTrue_ev, eAnd_ev, eOr_ev, eNot_ev, eIf_ev, iSeq_ev, seqD_l, seqD_t, asB_bool, truthD_bool, truthD_lst, truthD_tup, runO_ret, runO_next, runO_exc, Bool.not_true, Bool.not_false, Bool.false_eq_true, Bool.true_and, Bool.false_and, Bool.and_true, Bool.and_false, Bool.not_not, tupleD_l, tupleD_t, listD_l, listD_t, lenD_lst, lenD_tup, List.length_map, em_map, eqD_int, neD_int, ltD_int, leD_int, gtD_int, geD_int, opAdd_int, opSub_int, negD_1, isiD_ev, gN_ev, gT_ev, setAll_c, setAll_n, wipeE_c, wipeE_n, isD_non, isNotD_non, eIdx_ev, ix_op0, ix_op1, ix_op2, ix_op3, eqD_kdw, eqD_kdr, List.getElem?_cons_succ, List.getElem?_cons_zero, decide_true, decide_false, eSt_r, eKp_r, e, uS, sRaise]
theorem undo_ok {rows : List (List Op)} {st : List Op} {k : Int} (h : ¬ (rows.length : Int) - 1 ≤ k) (hl : rows.dropLast.getLast? = some st) : F_R_undo (rws rows) k [] = .ok (sd st) (rws rows.dropLast) := by
  have hlen : (rws rows).length = rows.length := List.length_map _
  have e : decide ((rows.length : Int) - 1 ≤ k) = false := decide_eq_false h
  have ne : rws rows ≠ [] := fun z => by
    have : rows = [] := List.map_eq_nil_iff.mp z
    subst this
    cases hl
  have pp : ∀ r : EV, sRpop 0 (some (.r (rws rows) k) :: r) = .next (some (.r (rws rows.dropLast) k) :: r) := fun r => by
    unfold sRpop
    simp only [List.getElem?_cons_zero]
    rw [if_neg ne]
    unfold rws
    rw [List.map_dropLast]
    rfl
  unfold F_R_undo runU runR uR uSeq uIf
  simp only [startR, List.map_nil, List.length_nil, List.nil_append, List.replicate, Nat.sub_self]
  simp only [List.map_cons, List.map_nil, List.length_cons, List.length_nil, List.cons_append, List.nil_append, List.replicate, Nat.sub_self, List.append_nil, sSeq_ev, sSet_ev, sExpr_ev, sRet_ev, sRetN_ev, sIf_ev, sFor_ev, sNil_ev, sOwn_ev, eCall_ev, aC_ev, aN_ok, eVs, eV0, eLs', eL0, eC_ev, bind_ok', bind_bad', bind_exc', callN_ev, if_true, if_false, outOf_ok, outOf_exc, outOf_bad, List.set_cons_succ, List.set_cons_zero, then_next, then_ret, then_exc, e1_ev, e2_ev, eT_ev, eLs_ev, mkL_nil, mkL_1, mkL_2, mkT_nil, mkT_1, mkT_2, mkT_3, mkT_4, tB_ev, tV_ev, tAnd_ev, tOr_ev, tNot_ev, tTrue_ev, eAnd_ev, eOr_ev, eNot_ev, eIf_ev, iSeq_ev, seqD_l, seqD_t, asB_bool, truthD_bool, truthD_lst, truthD_tup, runO_ret, runO_next, runO_exc, Bool.not_true, Bool.not_false, Bool.false_eq_true, Bool.true_and, Bool.false_and, Bool.and_true, Bool.and_false, Bool.not_not, tupleD_l, tupleD_t, listD_l, listD_t, lenD_lst, lenD_tup, List.length_map, em_map, eqD_int, neD_int, ltD_int, leD_int, gtD_int, geD_int, opAdd_int, opSub_int, negD_1, isiD_ev, gN_ev, gT_ev, setAll_c, setAll_n, wipeE_c, wipeE_n, isD_non, isNotD_non, eIdx_ev, ix_op0, ix_op1, ix_op2, ix_op3, eqD_kdw, eqD_kdr, List.getElem?_cons_succ, List.getElem?_cons_zero, decide_true, decide_false, eSt_r, eKp_r, e, uNil, uS, pp, uRet, qE, ix_last hl]
theorem story_ok {rows : List (List Op)} {st : List Op} {k : Int} (hl : rows.getLast? = some st) : F_R_story [.v (rws rows) k] = .ok (sd st) := by
  unfold F_R_story runA
  simp only [List.map_cons, List.map_nil, List.length_cons, List.length_nil, List.cons_append, List.nil_append, List.replicate, Nat.sub_self]
  simp only [List.map_cons, List.map_nil, List.length_cons, List.length_nil, List.cons_append, List.nil_append, List.replicate, Nat.sub_self, List.append_nil, sSeq_ev, sSet_ev, sExpr_ev, sRet_ev, sRetN_ev, sIf_ev, sFor_ev, sNil_ev, sOwn_ev, eCall_ev, aC_ev, aN_ok, eVs, eV0, eLs', eL0, eC_ev, bind_ok', bind_bad', bind_exc', callN_ev, if_true, if_false, outOf_ok, outOf_exc, outOf_bad, List.set_cons_succ, List.set_cons_zero, then_next, then_ret, then_exc, e1_ev, e2_ev, eT_ev, eLs_ev, mkL_nil, mkL_1, mkL_2, mkT_nil, mkT_1, mkT_2, mkT_3, mkT_4, tB_ev, tV_ev, tAnd_ev, tOr_ev, tNot_ev, tTrue_ev, eAnd_ev, eOr_ev, eNot_ev, eIf_ev, iSeq_ev, seqD_l, seqD_t, asB_bool, truthD_bool, truthD_lst, truthD_tup, runO_ret, runO_next, runO_exc, Bool.not_true, Bool.not_false, Bool.false_eq_true, Bool.true_and, Bool.false_and, Bool.and_true, Bool.and_false, Bool.not_not, tupleD_l, tupleD_t, listD_l, listD_t, lenD_lst, lenD_tup, List.length_map, em_map, eqD_int, neD_int, ltD_int, leD_int, gtD_int, geD_int, opAdd_int, opSub_int, negD_1, isiD_ev, gN_ev, gT_ev, setAll_c, setAll_n, wipeE_c, wipeE_n, isD_non, isNotD_non, eIdx_ev, ix_op0, ix_op1, ix_op2, ix_op3, eqD_kdw, eqD_kdr, List.getElem?_cons_succ, List.getElem?_cons_zero, decide_true, decide_false, eSt_v, ix_last hl]
theorem rlen_ok (ss : List PyData) (k : Int) : F_R_len [.v ss k] = .ok (.int ((ss.length - 1 : Nat) : Int)) := by
  have sl : sliceD (.list ss) (some 1) none = .ok (.list (ss.drop 1)) := sl_drop 1
  unfold F_R_len runA
  simp only [List.map_cons, List.map_nil, List.length_cons, List.length_nil, List.cons_append, List.nil_append, List.replicate, Nat.sub_self]
  simp only [List.map_cons, List.map_nil, List.length_cons, List.length_nil, List.cons_append, List.nil_append, List.replicate, Nat.sub_self, List.append_nil, sSeq_ev, sSet_ev, sExpr_ev, sRet_ev, sRetN_ev, sIf_ev, sFor_ev, sNil_ev, sOwn_ev, eCall_ev, aC_ev, aN_ok, eVs, eV0, eLs', eL0, eC_ev, bind_ok', bind_bad', bind_exc', callN_ev, if_true, if_false, outOf_ok, outOf_exc, outOf_bad, List.set_cons_succ, List.set_cons_zero, then_next, then_ret, then_exc, e1_ev, e2_ev, eT_ev, eLs_ev, mkL_nil, mkL_1, mkL_2, mkT_nil, mkT_1, mkT_2, mkT_3, mkT_4, tB_ev, tV_ev, tAnd_ev, tOr_ev, tNot_ev, tTrue_ev, eAnd_ev, eOr_ev, eNot_ev, eIf_ev, iSeq_ev, seqD_l, seqD_t, asB_bool, truthD_bool, truthD_lst, truthD_tup, runO_ret, runO_next, runO_exc, Bool.not_true, Bool.not_false, Bool.false_eq_true, Bool.true_and, Bool.false_and, Bool.and_true, Bool.and_false, Bool.not_not, tupleD_l, tupleD_t, listD_l, listD_t, lenD_lst, lenD_tup, List.length_map, em_map, eqD_int, neD_int, ltD_int, leD_int, gtD_int, geD_int, opAdd_int, opSub_int, negD_1, isiD_ev, gN_ev, gT_ev, setAll_c, setAll_n, wipeE_c, wipeE_n, isD_non, isNotD_non, eIdx_ev, ix_op0, ix_op1, ix_op2, ix_op3, eqD_kdw, eqD_kdr, List.getElem?_cons_succ, List.getElem?_cons_zero, decide_true, decide_false, eSt_v, eSl_ev, oN_ev, oS_ev, asI_int, sl, List.length_drop]
theorem req_ok {rows rows' : List (List Op)} {st st' : List Op} {k k' : Int} (hl : rows.getLast? = some st) (hl' : rows'.getLast? = some st') : F_R_eq [.v (rws rows) k, .v (rws rows') k'] = .ok (.bool (decide (st = st'))) := by
  have i1 : ∀ (x : Option SV) (r : EV), eIsR 1 (x :: some (.v (rws rows') k') :: r) = .ok (.bool true) := fun _ _ => rfl
  have s1 : ∀ (x : Option SV) (r : EV), eSt 1 (x :: some (.v (rws rows') k') :: r) = .ok (.list (rws rows')) := fun _ _ => rfl
  unfold F_R_eq runA
  simp only [List.map_cons, List.map_nil, List.length_cons, List.length_nil, List.cons_append, List.nil_append, List.replicate, Nat.sub_self]
  simp only [List.map_cons, List.map_nil, List.length_cons, List.length_nil, List.cons_append, List.nil_append, List.replicate, Nat.sub_self, List.append_nil, sSeq_ev, sSet_ev, sExpr_ev, sRet_ev, sRetN_ev, sIf_ev, sFor_ev, sNil_ev, sOwn_ev, eCall_ev, aC_ev, aN_ok, eVs, eV0, eLs', eL0, eC_ev, bind_ok', bind_bad', bind_exc', callN_ev, if_true, if_false, outOf_ok, outOf_exc, outOf_bad, List.set_cons_succ, List.set_cons_zero, then_next, then_ret, then_exc, e1_ev, e2_ev, eT_ev, eLs_ev, mkL_nil, mkL_1, mkL_2, mkT_nil, mkT_1, mkT_2, mkT_3, mkT_4, tB_ev, tV_ev, tAnd_ev, tOr_ev, tNot_ev, tTrue_ev, eAnd_ev, eOr_ev, eNot_ev, eIf_ev, iSeq_ev, seqD_l, seqD_t, asB_bool, truthD_bool, truthD_lst, truthD_tup, runO_ret, runO_next, runO_exc, Bool.not_true, Bool.not_false, Bool.false_eq_true, Bool.true_and, Bool.false_and, Bool.and_true, Bool.and_false, Bool.not_not, tupleD_l, tupleD_t, listD_l, listD_t, lenD_lst, lenD_tup, List.length_map, em_map, eqD_int, neD_int, ltD_int, leD_int, gtD_int, geD_int, opAdd_int, opSub_int, negD_1, isiD_ev, gN_ev, gT_ev, setAll_c, setAll_n, wipeE_c, wipeE_n, isD_non, isNotD_non, eIdx_ev, ix_op0, ix_op1, ix_op2, ix_op3, eqD_kdw, eqD_kdr, List.getElem?_cons_succ, List.getElem?_cons_zero, decide_true, decide_false, i1, s1, eSt_v, ix_last hl, ix_last hl', encS.eqD (by decide) st st']
theorem req_data {ss : List PyData} {k : Int} {d : PyData} (h : isTS d = true) : F_R_eq [.v ss k, .d d] = .ok (.bool false) := by
  have i1 : ∀ (x : Option SV) (r : EV), eIsR 1 (x :: some (.d d) :: r) = .ok (.bool false) := fun _ _ => by unfold eIsR; simp only [List.getElem?_cons_succ, List.getElem?_cons_zero]; rw [if_pos h]
  unfold F_R_eq runA
  simp only [List.map_cons, List.map_nil, List.length_cons, List.length_nil, List.cons_append, List.nil_append, List.replicate, Nat.sub_self]
  simp only [List.map_cons, List.map_nil, List.length_cons, List.length_nil, List.cons_append, List.nil_append, List.replicate, Nat.sub_self, List.append_nil, sSeq_ev, sSet_ev, sExpr_ev, sRet_ev, sRetN_ev, sIf_ev, sFor_ev, sNil_ev, sOwn_ev, eCall_ev, aC_ev, aN_ok, eVs, eV0, eLs', eL0, eC_ev, bind_ok', bind_bad', bind_exc', callN_ev, if_true, if_false, outOf_ok, outOf_exc, outOf_bad, List.set_cons_succ, List.set_cons_zero, then_next, then_ret, then_exc, e1_ev, e2_ev, eT_ev, eLs_ev, mkL_nil, mkL_1, mkL_2, mkT_nil, mkT_1, mkT_2, mkT_3, mkT_4, tB_ev, tV_ev, tAnd_ev, tOr_ev, tNot_ev, tTrue_ev, eAnd_ev, eOr_ev, eNot_ev, eIf_ev, iSeq_ev, seqD_l, seqD_t, asB_bool, truthD_bool, truthD_lst, truthD_tup, runO_ret, runO_next, runO_exc, Bool.not_true, Bool.not_false, Bool.false_eq_true, Bool.true_and, Bool.false_and, Bool.and_true, Bool.and_false, Bool.not_not, tupleD_l, tupleD_t, listD_l, listD_t, lenD_lst, lenD_tup, List.length_map, em_map, eqD_int, neD_int, ltD_int, leD_int, gtD_int, geD_int, opAdd_int, opSub_int, negD_1, isiD_ev, gN_ev, gT_ev, setAll_c, setAll_n, wipeE_c, wipeE_n, isD_non, isNotD_non, eIdx_ev, ix_op0, ix_op1, ix_op2, ix_op3, eqD_kdw, eqD_kdr, List.getElem?_cons_succ, List.getElem?_cons_zero, decide_true, decide_false, i1]
theorem len_app (a b : Str) : (a ++ b).length = a.length + b.length := by
  rw [TL.len_tl, TL.len_tl a, TL.len_tl b, TL.tl_append, List.length_append]
def okS (x : Str) : Prop := ∀ c ∈ TL.tl x, c < 0x110000
theorem okS_iff {x : Str} : PyData.strOk x = true ↔ okS x := by
  unfold PyData.strOk okS TL.tl
  rw [Array.all_eq_true]
  constructor
  · intro h c hc
    obtain ⟨i, hi, rfl⟩ := Array.mem_iff_getElem.mp (Array.mem_toList_iff.mp hc)
    simpa using h i hi
  · intro h i hi
    have := h x.cps[i] (Array.mem_toList_iff.mpr (Array.getElem_mem hi))
    simpa using this
theorem okS_app {a b : Str} (ha : okS a) (hb : okS b) : okS (a ++ b) := fun c hc => by
  rw [TL.tl_append] at hc
  rcases List.mem_append.mp hc with h | h
  · exact ha c h
  · exact hb c h
def opT (o : Op) : Str := Str.empty ++ kd o.w ++ " " ++ strI o.v ++ " " ++ strI o.s ++ "-" ++ strI o.e
def txt (st : List Op) : Str := if st = [] then "none" else Str.join "\n" (st.map opT)
theorem strI_len : ∀ n : Nat, n < 100 → (strI (n : Int)).length ≤ 2 := by decide +kernel
theorem strI_log : ∀ n : Nat, n < 100 → (n : Int).natAbs.log2 < 1920 := by decide +kernel
theorem strI_ok : ∀ n : Nat, n < 100 → PyData.strOk (strI (n : Int)) = true := by decide +kernel
theorem small {i : Int} (h0 : 0 ≤ i) (h1 : i ≤ 99) : (strI i).length ≤ 2 ∧ i.natAbs.log2 < 1920 ∧ okS (strI i) := by
  obtain ⟨n, rfl⟩ := Int.eq_ofNat_of_zero_le h0
  exact ⟨strI_len n (by omega), strI_log n (by omega), okS_iff.mp (strI_ok n (by omega))⟩
theorem kd_len (w : Bool) : (kd w).length ≤ 5 := by cases w <;> decide +kernel
theorem kd_okS (w : Bool) : okS (kd w) := okS_iff.mp (kd_ok w)
theorem sp_len : (" " : Str).length = 1 := by decide +kernel
theorem ds_len : ("-" : Str).length = 1 := by decide +kernel
theorem nl_len : ("\n" : Str).length = 1 := by decide +kernel
theorem em_len : Str.empty.length = 0 := rfl
structure SmallOp (o : Op) : Prop where
  v0 : 0 ≤ o.v
  v9 : o.v ≤ 99
  s0 : 0 ≤ o.s
  s9 : o.s ≤ 99
  e0 : 0 ≤ o.e
  e9 : o.e ≤ 99
theorem Valid.small {st : List Op} (hv : Valid st) {o : Op} (ho : o ∈ st) : SmallOp o := by
  have := hv.rng o ho
  obtain ⟨h1, h2, h3, h4, h5⟩ := this
  refine ⟨?_, by omega, h3, by omega, by omega, h5⟩
  split at h1 <;> omega
theorem opT_len {o : Op} (h : SmallOp o) : (opT o).length ≤ 14 := by
  unfold opT
  simp only [len_app, sp_len, ds_len, em_len]
  have := kd_len o.w
  have := (small h.v0 h.v9).1
  have := (small h.s0 h.s9).1
  have := (small h.e0 h.e9).1
  omega
theorem opT_ok {o : Op} (h : SmallOp o) : okS (opT o) := by
  have sp : okS " " := okS_iff.mp (by decide +kernel)
  have ds : okS "-" := okS_iff.mp (by decide +kernel)
  have em : okS Str.empty := okS_iff.mp (by decide +kernel)
  exact okS_app (okS_app (okS_app (okS_app (okS_app (okS_app (okS_app em (kd_okS _)) sp) (small h.v0 h.v9).2.2) sp) (small h.s0 h.s9).2.2) ds) (small h.e0 h.e9).2.2
theorem join_ok : ∀ {ys : List Str}, (∀ y ∈ ys, okS y) → okS (Str.join "\n" ys)
  | [], _ => okS_iff.mp (by decide +kernel)
  | [x], h => h x (by simp)
  | x :: y :: r, h => by
    have nl : okS "\n" := okS_iff.mp (by decide +kernel)
    exact okS_app (okS_app (h x (by simp)) nl) (join_ok fun z hz => h z (List.mem_cons_of_mem _ hz))
theorem txt_ok {st : List Op} (hv : Valid st) : PyData.strOk (txt st) = true := by
  rw [okS_iff]
  unfold txt
  split
  · exact okS_iff.mp (by decide +kernel)
  · refine join_ok fun y hy => ?_
    obtain ⟨o, ho, rfl⟩ := List.mem_map.mp hy
    exact opT_ok (hv.small ho)
theorem join_len : ∀ {ys : List Str} {m : Nat}, (∀ y ∈ ys, y.length ≤ m) → (Str.join "\n" ys).length ≤ ys.length * (m + 1)
  | [], m, _ => by simp [Str.join, em_len]
  | [x], m, h => by have := h x (by simp); simp [Str.join]; omega
  | x :: y :: r, m, h => by
    have h1 := h x (by simp)
    have h2 := join_len (ys := y :: r) (m := m) fun z hz => h z (List.mem_cons_of_mem _ hz)
    rw [Str.join, len_app, len_app, nl_len]
    · simp only [List.length_cons] at h2 ⊢
      rw [Nat.succ_mul]
      omega
    · intro z; cases z
theorem txt_len {st : List Op} (hv : Valid st) : (txt st).length ≤ 100 := by
  unfold txt
  split
  · decide +kernel
  · have := join_len (ys := st.map opT) (m := 14) fun y hy => by
      obtain ⟨o, ho, rfl⟩ := List.mem_map.mp hy
      exact opT_len (hv.small ho)
    rw [List.length_map] at this
    have := hv.len
    omega
theorem fmt_i {i : Int} (h0 : 0 ≤ i) (h1 : i ≤ 99) : fmtD (.int i) = .ok (.str (strI i)) := by
  show (if i.natAbs.log2 < 1920 then R.ok (PyData.str (strI i)) else .bad) = _
  rw [if_pos (small h0 h1).2.1]
theorem fmt_s {y : Str} (h : y.length ≤ 1000) : fmtD (.str y) = .ok (.str y) := by
  show (if y.length ≤ LIM then R.ok (PyData.str y) else .bad) = _
  rw [if_pos (by unfold LIM; omega)]
theorem text_row {o : Op} (h : SmallOp o) (s0 : Option SV) :
    eJoined [e1 fmtD (eV 1), eC (.str " "), e1 fmtD (eV 2), eC (.str " "), e1 fmtD (eV 3), eC (.str "-"), e1 fmtD (eV 4)] [s0, some (.d (.str (kd o.w))), some (.d (.int o.v)), some (.d (.int o.s)), some (.d (.int o.e))] = .ok (.str (opT o)) := by
  have k := kd_len o.w
  have l1 := (small h.v0 h.v9).1
  have l2 := (small h.s0 h.s9).1
  have l3 := (small h.e0 h.e9).1
  have f0 : fmtD (.str (kd o.w)) = .ok (.str (kd o.w)) := fmt_s (by omega)
  have b : ∀ x : Str, x.length ≤ 100 → x.length ≤ LIM := fun x hx => by unfold LIM; omega
  unfold eJoined jGo
  simp only [List.map_cons, List.map_nil, List.length_cons, List.length_nil, List.cons_append, List.nil_append, List.replicate, Nat.sub_self, List.append_nil, sSeq_ev, sSet_ev, sExpr_ev, sRet_ev, sRetN_ev, sIf_ev, sFor_ev, sNil_ev, sOwn_ev, eCall_ev, aC_ev, aN_ok, eVs, eV0, eLs', eL0, eC_ev, bind_ok', bind_bad', bind_exc', callN_ev, if_true, if_false, outOf_ok, outOf_exc, outOf_bad, List.set_cons_succ, List.set_cons_zero, then_next, then_ret, then_exc, e1_ev, e2_ev, eT_ev, eLs_ev, mkL_nil, mkL_1, mkL_2, mkT_nil, mkT_1, mkT_2, mkT_3, mkT_4, tB_ev, tV_ev, tAnd_ev, tOr_ev, tNot_ev, tTrue_ev, eAnd_ev, eOr_ev, eNot_ev, eIf_ev, iSeq_ev, seqD_l, seqD_t, asB_bool, truthD_bool, truthD_lst, truthD_tup, runO_ret, runO_next, runO_exc, Bool.not_true, Bool.not_false, Bool.false_eq_true, Bool.true_and, Bool.false_and, Bool.and_true, Bool.and_false, Bool.not_not, tupleD_l, tupleD_t, listD_l, listD_t, lenD_lst, lenD_tup, List.length_map, em_map, eqD_int, neD_int, ltD_int, leD_int, gtD_int, geD_int, opAdd_int, opSub_int, negD_1, isiD_ev, gN_ev, gT_ev, setAll_c, setAll_n, wipeE_c, wipeE_n, isD_non, isNotD_non, eIdx_ev, ix_op0, ix_op1, ix_op2, ix_op3, eqD_kdw, eqD_kdr, List.getElem?_cons_succ, List.getElem?_cons_zero, decide_true, decide_false, f0, fmt_i h.v0 h.v9, fmt_i h.s0 h.s9, fmt_i h.e0 h.e9]
  rw [if_pos (b _ (by simp only [len_app, em_len]; omega))]
  unfold jGo
  simp only [List.map_cons, List.map_nil, List.length_cons, List.length_nil, List.cons_append, List.nil_append, List.replicate, Nat.sub_self, List.append_nil, sSeq_ev, sSet_ev, sExpr_ev, sRet_ev, sRetN_ev, sIf_ev, sFor_ev, sNil_ev, sOwn_ev, eCall_ev, aC_ev, aN_ok, eVs, eV0, eLs', eL0, eC_ev, bind_ok', bind_bad', bind_exc', callN_ev, if_true, if_false, outOf_ok, outOf_exc, outOf_bad, List.set_cons_succ, List.set_cons_zero, then_next, then_ret, then_exc, e1_ev, e2_ev, eT_ev, eLs_ev, mkL_nil, mkL_1, mkL_2, mkT_nil, mkT_1, mkT_2, mkT_3, mkT_4, tB_ev, tV_ev, tAnd_ev, tOr_ev, tNot_ev, tTrue_ev, eAnd_ev, eOr_ev, eNot_ev, eIf_ev, iSeq_ev, seqD_l, seqD_t, asB_bool, truthD_bool, truthD_lst, truthD_tup, runO_ret, runO_next, runO_exc, Bool.not_true, Bool.not_false, Bool.false_eq_true, Bool.true_and, Bool.false_and, Bool.and_true, Bool.and_false, Bool.not_not, tupleD_l, tupleD_t, listD_l, listD_t, lenD_lst, lenD_tup, List.length_map, em_map, eqD_int, neD_int, ltD_int, leD_int, gtD_int, geD_int, opAdd_int, opSub_int, negD_1, isiD_ev, gN_ev, gT_ev, setAll_c, setAll_n, wipeE_c, wipeE_n, isD_non, isNotD_non, eIdx_ev, ix_op0, ix_op1, ix_op2, ix_op3, eqD_kdw, eqD_kdr, List.getElem?_cons_succ, List.getElem?_cons_zero, decide_true, decide_false]
  rw [if_pos (b _ (by simp only [len_app, em_len, sp_len]; omega))]
  unfold jGo
  simp only [List.map_cons, List.map_nil, List.length_cons, List.length_nil, List.cons_append, List.nil_append, List.replicate, Nat.sub_self, List.append_nil, sSeq_ev, sSet_ev, sExpr_ev, sRet_ev, sRetN_ev, sIf_ev, sFor_ev, sNil_ev, sOwn_ev, eCall_ev, aC_ev, aN_ok, eVs, eV0, eLs', eL0, eC_ev, bind_ok', bind_bad', bind_exc', callN_ev, if_true, if_false, outOf_ok, outOf_exc, outOf_bad, List.set_cons_succ, List.set_cons_zero, then_next, then_ret, then_exc, e1_ev, e2_ev, eT_ev, eLs_ev, mkL_nil, mkL_1, mkL_2, mkT_nil, mkT_1, mkT_2, mkT_3, mkT_4, tB_ev, tV_ev, tAnd_ev, tOr_ev, tNot_ev, tTrue_ev, eAnd_ev, eOr_ev, eNot_ev, eIf_ev, iSeq_ev, seqD_l, seqD_t, asB_bool, truthD_bool, truthD_lst, truthD_tup, runO_ret, runO_next, runO_exc, Bool.not_true, Bool.not_false, Bool.false_eq_true, Bool.true_and, Bool.false_and, Bool.and_true, Bool.and_false, Bool.not_not, tupleD_l, tupleD_t, listD_l, listD_t, lenD_lst, lenD_tup, List.length_map, em_map, eqD_int, neD_int, ltD_int, leD_int, gtD_int, geD_int, opAdd_int, opSub_int, negD_1, isiD_ev, gN_ev, gT_ev, setAll_c, setAll_n, wipeE_c, wipeE_n, isD_non, isNotD_non, eIdx_ev, ix_op0, ix_op1, ix_op2, ix_op3, eqD_kdw, eqD_kdr, List.getElem?_cons_succ, List.getElem?_cons_zero, decide_true, decide_false, fmt_i h.v0 h.v9]
  rw [if_pos (b _ (by simp only [len_app, em_len, sp_len]; omega))]
  unfold jGo
  simp only [List.map_cons, List.map_nil, List.length_cons, List.length_nil, List.cons_append, List.nil_append, List.replicate, Nat.sub_self, List.append_nil, sSeq_ev, sSet_ev, sExpr_ev, sRet_ev, sRetN_ev, sIf_ev, sFor_ev, sNil_ev, sOwn_ev, eCall_ev, aC_ev, aN_ok, eVs, eV0, eLs', eL0, eC_ev, bind_ok', bind_bad', bind_exc', callN_ev, if_true, if_false, outOf_ok, outOf_exc, outOf_bad, List.set_cons_succ, List.set_cons_zero, then_next, then_ret, then_exc, e1_ev, e2_ev, eT_ev, eLs_ev, mkL_nil, mkL_1, mkL_2, mkT_nil, mkT_1, mkT_2, mkT_3, mkT_4, tB_ev, tV_ev, tAnd_ev, tOr_ev, tNot_ev, tTrue_ev, eAnd_ev, eOr_ev, eNot_ev, eIf_ev, iSeq_ev, seqD_l, seqD_t, asB_bool, truthD_bool, truthD_lst, truthD_tup, runO_ret, runO_next, runO_exc, Bool.not_true, Bool.not_false, Bool.false_eq_true, Bool.true_and, Bool.false_and, Bool.and_true, Bool.and_false, Bool.not_not, tupleD_l, tupleD_t, listD_l, listD_t, lenD_lst, lenD_tup, List.length_map, em_map, eqD_int, neD_int, ltD_int, leD_int, gtD_int, geD_int, opAdd_int, opSub_int, negD_1, isiD_ev, gN_ev, gT_ev, setAll_c, setAll_n, wipeE_c, wipeE_n, isD_non, isNotD_non, eIdx_ev, ix_op0, ix_op1, ix_op2, ix_op3, eqD_kdw, eqD_kdr, List.getElem?_cons_succ, List.getElem?_cons_zero, decide_true, decide_false]
  rw [if_pos (b _ (by simp only [len_app, em_len, sp_len]; omega))]
  unfold jGo
  simp only [List.map_cons, List.map_nil, List.length_cons, List.length_nil, List.cons_append, List.nil_append, List.replicate, Nat.sub_self, List.append_nil, sSeq_ev, sSet_ev, sExpr_ev, sRet_ev, sRetN_ev, sIf_ev, sFor_ev, sNil_ev, sOwn_ev, eCall_ev, aC_ev, aN_ok, eVs, eV0, eLs', eL0, eC_ev, bind_ok', bind_bad', bind_exc', callN_ev, if_true, if_false, outOf_ok, outOf_exc, outOf_bad, List.set_cons_succ, List.set_cons_zero, then_next, then_ret, then_exc, e1_ev, e2_ev, eT_ev, eLs_ev, mkL_nil, mkL_1, mkL_2, mkT_nil, mkT_1, mkT_2, mkT_3, mkT_4, tB_ev, tV_ev, tAnd_ev, tOr_ev, tNot_ev, tTrue_ev, eAnd_ev, eOr_ev, eNot_ev, eIf_ev, iSeq_ev, seqD_l, seqD_t, asB_bool, truthD_bool, truthD_lst, truthD_tup, runO_ret, runO_next, runO_exc, Bool.not_true, Bool.not_false, Bool.false_eq_true, Bool.true_and, Bool.false_and, Bool.and_true, Bool.and_false, Bool.not_not, tupleD_l, tupleD_t, listD_l, listD_t, lenD_lst, lenD_tup, List.length_map, em_map, eqD_int, neD_int, ltD_int, leD_int, gtD_int, geD_int, opAdd_int, opSub_int, negD_1, isiD_ev, gN_ev, gT_ev, setAll_c, setAll_n, wipeE_c, wipeE_n, isD_non, isNotD_non, eIdx_ev, ix_op0, ix_op1, ix_op2, ix_op3, eqD_kdw, eqD_kdr, List.getElem?_cons_succ, List.getElem?_cons_zero, decide_true, decide_false, fmt_i h.s0 h.s9]
  rw [if_pos (b _ (by simp only [len_app, em_len, sp_len]; omega))]
  unfold jGo
  simp only [List.map_cons, List.map_nil, List.length_cons, List.length_nil, List.cons_append, List.nil_append, List.replicate, Nat.sub_self, List.append_nil, sSeq_ev, sSet_ev, sExpr_ev, sRet_ev, sRetN_ev, sIf_ev, sFor_ev, sNil_ev, sOwn_ev, eCall_ev, aC_ev, aN_ok, eVs, eV0, eLs', eL0, eC_ev, bind_ok', bind_bad', bind_exc', callN_ev, if_true, if_false, outOf_ok, outOf_exc, outOf_bad, List.set_cons_succ, List.set_cons_zero, then_next, then_ret, then_exc, e1_ev, e2_ev, eT_ev, eLs_ev, mkL_nil, mkL_1, mkL_2, mkT_nil, mkT_1, mkT_2, mkT_3, mkT_4, tB_ev, tV_ev, tAnd_ev, tOr_ev, tNot_ev, tTrue_ev, eAnd_ev, eOr_ev, eNot_ev, eIf_ev, iSeq_ev, seqD_l, seqD_t, asB_bool, truthD_bool, truthD_lst, truthD_tup, runO_ret, runO_next, runO_exc, Bool.not_true, Bool.not_false, Bool.false_eq_true, Bool.true_and, Bool.false_and, Bool.and_true, Bool.and_false, Bool.not_not, tupleD_l, tupleD_t, listD_l, listD_t, lenD_lst, lenD_tup, List.length_map, em_map, eqD_int, neD_int, ltD_int, leD_int, gtD_int, geD_int, opAdd_int, opSub_int, negD_1, isiD_ev, gN_ev, gT_ev, setAll_c, setAll_n, wipeE_c, wipeE_n, isD_non, isNotD_non, eIdx_ev, ix_op0, ix_op1, ix_op2, ix_op3, eqD_kdw, eqD_kdr, List.getElem?_cons_succ, List.getElem?_cons_zero, decide_true, decide_false]
  rw [if_pos (b _ (by simp only [len_app, em_len, sp_len, ds_len]; omega))]
  unfold jGo
  simp only [List.map_cons, List.map_nil, List.length_cons, List.length_nil, List.cons_append, List.nil_append, List.replicate, Nat.sub_self, List.append_nil, sSeq_ev, sSet_ev, sExpr_ev, sRet_ev, sRetN_ev, sIf_ev, sFor_ev, sNil_ev, sOwn_ev, eCall_ev, aC_ev, aN_ok, eVs, eV0, eLs', eL0, eC_ev, bind_ok', bind_bad', bind_exc', callN_ev, if_true, if_false, outOf_ok, outOf_exc, outOf_bad, List.set_cons_succ, List.set_cons_zero, then_next, then_ret, then_exc, e1_ev, e2_ev, eT_ev, eLs_ev, mkL_nil, mkL_1, mkL_2, mkT_nil, mkT_1, mkT_2, mkT_3, mkT_4, tB_ev, tV_ev, tAnd_ev, tOr_ev, tNot_ev, tTrue_ev, eAnd_ev, eOr_ev, eNot_ev, eIf_ev, iSeq_ev, seqD_l, seqD_t, asB_bool, truthD_bool, truthD_lst, truthD_tup, runO_ret, runO_next, runO_exc, Bool.not_true, Bool.not_false, Bool.false_eq_true, Bool.true_and, Bool.false_and, Bool.and_true, Bool.and_false, Bool.not_not, tupleD_l, tupleD_t, listD_l, listD_t, lenD_lst, lenD_tup, List.length_map, em_map, eqD_int, neD_int, ltD_int, leD_int, gtD_int, geD_int, opAdd_int, opSub_int, negD_1, isiD_ev, gN_ev, gT_ev, setAll_c, setAll_n, wipeE_c, wipeE_n, isD_non, isNotD_non, eIdx_ev, ix_op0, ix_op1, ix_op2, ix_op3, eqD_kdw, eqD_kdr, List.getElem?_cons_succ, List.getElem?_cons_zero, decide_true, decide_false, fmt_i h.e0 h.e9]
  rw [if_pos (b _ (by simp only [len_app, em_len, sp_len, ds_len]; omega))]
  rfl
theorem text_of_ok {st : List Op} (hv : Valid st) : F_text_of [sd st] = .ok (.str (txt st)) := by
  have h6 := hv.len
  have c1 : C_text_of_1 [some (.d (sd st)), none, none, none, none] = .ok (.list (st.map fun o => .str (opT o))) := by
    unfold C_text_of_1
    refine eLc_all st Op.d (fun o => .str (opT o)) (by simp only [List.map_cons, List.map_nil, List.length_cons, List.length_nil, List.cons_append, List.nil_append, List.replicate, Nat.sub_self, List.append_nil, sSeq_ev, sSet_ev, sExpr_ev, sRet_ev, sRetN_ev, sIf_ev, sFor_ev, sNil_ev, sOwn_ev, eCall_ev, aC_ev, aN_ok, eVs, eV0, eLs', eL0, eC_ev, bind_ok', bind_bad', bind_exc', callN_ev, if_true, if_false, outOf_ok, outOf_exc, outOf_bad, List.set_cons_succ, List.set_cons_zero, then_next, then_ret, then_exc, e1_ev, e2_ev, eT_ev, eLs_ev, mkL_nil, mkL_1, mkL_2, mkT_nil, mkT_1, mkT_2, mkT_3, mkT_4, tB_ev, tV_ev, tAnd_ev, tOr_ev, tNot_ev, tTrue_ev, eAnd_ev, eOr_ev, eNot_ev, eIf_ev, iSeq_ev, seqD_l, seqD_t, asB_bool, truthD_bool, truthD_lst, truthD_tup, runO_ret, runO_next, runO_exc, Bool.not_true, Bool.not_false, Bool.false_eq_true, Bool.true_and, Bool.false_and, Bool.and_true, Bool.and_false, Bool.not_not, tupleD_l, tupleD_t, listD_l, listD_t, lenD_lst, lenD_tup, List.length_map, em_map, eqD_int, neD_int, ltD_int, leD_int, gtD_int, geD_int, opAdd_int, opSub_int, negD_1, isiD_ev, gN_ev, gT_ev, setAll_c, setAll_n, wipeE_c, wipeE_n, isD_non, isNotD_non, eIdx_ev, ix_op0, ix_op1, ix_op2, ix_op3, eqD_kdw, eqD_kdr, List.getElem?_cons_succ, List.getElem?_cons_zero, decide_true, decide_false]) fun o ho => ⟨_, ?_, text_row (hv.small ho) (some (.d (sd st)))⟩
    rfl
  have jn : st ≠ [] → joinD "\n" (.list (st.map fun o => .str (opT o))) = .ok (.str (txt st)) := fun hne => by
    have e : (st.map fun o => PyData.str (opT o)) = (st.map opT).map .str := by rw [List.map_map]; rfl
    have sm : ((st.map opT).map (·.length)).sum ≤ st.length * 14 := by
      have : ∀ l : List Op, (∀ o ∈ l, SmallOp o) → ((l.map opT).map (·.length)).sum ≤ l.length * 14 := by
        intro l
        induction l with
        | nil => intro _; simp
        | cons o l ih =>
          intro hl
          have h1 := opT_len (hl o (by simp))
          have h2 := ih fun x hx => hl x (List.mem_cons_of_mem _ hx)
          simp only [List.map_cons, List.sum_cons, List.length_cons]
          omega
      exact this st fun o ho => hv.small ho
    unfold joinD
    rw [e]
    simp only [strsOf_map]
    rw [if_pos (by rw [List.length_map, nl_len]; unfold LIM; omega)]
    unfold txt
    rw [if_neg hne]
  unfold F_text_of
  rw [runF_ev]
  cases st with
  | nil => rfl
  | cons o r =>
    have jn := jn (by simp)
    simp only [List.map_cons] at jn c1
    simp only [List.map_cons, List.map_nil, List.length_cons, List.length_nil, List.cons_append, List.nil_append, List.replicate, Nat.sub_self, List.append_nil, sSeq_ev, sSet_ev, sExpr_ev, sRet_ev, sRetN_ev, sIf_ev, sFor_ev, sNil_ev, sOwn_ev, eCall_ev, aC_ev, aN_ok, eVs, eV0, eLs', eL0, eC_ev, bind_ok', bind_bad', bind_exc', callN_ev, if_true, if_false, outOf_ok, outOf_exc, outOf_bad, List.set_cons_succ, List.set_cons_zero, then_next, then_ret, then_exc, e1_ev, e2_ev, eT_ev, eLs_ev, mkL_nil, mkL_1, mkL_2, mkT_nil, mkT_1, mkT_2, mkT_3, mkT_4, tB_ev, tV_ev, tAnd_ev, tOr_ev, tNot_ev, tTrue_ev, eAnd_ev, eOr_ev, eNot_ev, eIf_ev, iSeq_ev, seqD_l, seqD_t, asB_bool, truthD_bool, truthD_lst, truthD_tup, runO_ret, runO_next, runO_exc, Bool.not_true, Bool.not_false, Bool.false_eq_true, Bool.true_and, Bool.false_and, Bool.and_true, Bool.and_false, Bool.not_not, tupleD_l, tupleD_t, listD_l, listD_t, lenD_lst, lenD_tup, List.length_map, em_map, eqD_int, neD_int, ltD_int, leD_int, gtD_int, geD_int, opAdd_int, opSub_int, negD_1, isiD_ev, gN_ev, gT_ev, setAll_c, setAll_n, wipeE_c, wipeE_n, isD_non, isNotD_non, eIdx_ev, ix_op0, ix_op1, ix_op2, ix_op3, eqD_kdw, eqD_kdr, List.getElem?_cons_succ, List.getElem?_cons_zero, decide_true, decide_false, c1, jn, List.isEmpty]
theorem rstr_ok {rows : List (List Op)} {st : List Op} {k : Int} (hl : rows.getLast? = some st) (hv : Valid st) : F_R_str [.v (rws rows) k] = .ok (.str (txt st)) := by
  have := txt_len hv
  unfold F_R_str runA
  simp only [List.map_cons, List.map_nil, List.length_cons, List.length_nil, List.cons_append, List.nil_append, List.replicate, Nat.sub_self]
  simp only [List.map_cons, List.map_nil, List.length_cons, List.length_nil, List.cons_append, List.nil_append, List.replicate, Nat.sub_self, List.append_nil, sSeq_ev, sSet_ev, sExpr_ev, sRet_ev, sRetN_ev, sIf_ev, sFor_ev, sNil_ev, sOwn_ev, eCall_ev, aC_ev, aN_ok, eVs, eV0, eLs', eL0, eC_ev, bind_ok', bind_bad', bind_exc', callN_ev, if_true, if_false, outOf_ok, outOf_exc, outOf_bad, List.set_cons_succ, List.set_cons_zero, then_next, then_ret, then_exc, e1_ev, e2_ev, eT_ev, eLs_ev, mkL_nil, mkL_1, mkL_2, mkT_nil, mkT_1, mkT_2, mkT_3, mkT_4, tB_ev, tV_ev, tAnd_ev, tOr_ev, tNot_ev, tTrue_ev, eAnd_ev, eOr_ev, eNot_ev, eIf_ev, iSeq_ev, seqD_l, seqD_t, asB_bool, truthD_bool, truthD_lst, truthD_tup, runO_ret, runO_next, runO_exc, Bool.not_true, Bool.not_false, Bool.false_eq_true, Bool.true_and, Bool.false_and, Bool.and_true, Bool.and_false, Bool.not_not, tupleD_l, tupleD_t, listD_l, listD_t, lenD_lst, lenD_tup, List.length_map, em_map, eqD_int, neD_int, ltD_int, leD_int, gtD_int, geD_int, opAdd_int, opSub_int, negD_1, isiD_ev, gN_ev, gT_ev, setAll_c, setAll_n, wipeE_c, wipeE_n, isD_non, isNotD_non, eIdx_ev, ix_op0, ix_op1, ix_op2, ix_op3, eqD_kdw, eqD_kdr, List.getElem?_cons_succ, List.getElem?_cons_zero, decide_true, decide_false, eSt_v, ix_last hl, text_of_ok hv, fmt_s (show (txt st).length ≤ 1000 by omega)]
end CP
namespace CP
open PySem L2
def recU : FR := runU 4 (uTry ["InvalidStory", "InvalidOperation", "NothingToUndo"] 3 (uRet (qIf (tB (e2 eqD (eV 1) (eC (.int (0))))) (qMeth 0 1 F_R_record (aC (eV 2) (aN))) (qMeth 0 0 F_R_undo (fun _ => .ok [])))) [("InvalidOperation", uRet (qE (eIf (tAndF (tV (eIsx 3 "StoryError")) (tNotF (tV (eIsx 3 "InvalidStory")))) (eC (.str "operation")) (eC (.str "other"))))), ("NothingToUndo", uRet (qE (eIf (tAndF (tV (eIsx 3 "StoryError")) (tNotF (tV (eIsx 3 "InvalidOperation")))) (eC (.str "nothing")) (eC (.str "other")))))])
abbrev nsU : List Str := ["InvalidStory", "InvalidOperation", "NothingToUndo"]
theorem u_op : ("InvalidOperation" : Str) ∈ nsU := by simp
theorem u_nu : ("NothingToUndo" : Str) ∈ nsU := by simp
theorem is_oo : isub "InvalidOperation" "InvalidOperation" = true := by decide +kernel
theorem is_os : isub "InvalidOperation" "StoryError" = true := by decide +kernel
theorem is_oi : isub "InvalidOperation" "InvalidStory" = false := by decide +kernel
theorem is_no : isub "NothingToUndo" "InvalidOperation" = false := by decide +kernel
theorem is_nn : isub "NothingToUndo" "NothingToUndo" = true := by decide +kernel
theorem is_ns : isub "NothingToUndo" "StoryError" = true := by decide +kernel
theorem q10 : eqD (.int 1) (.int 0) = .ok (.bool false) := rfl
theorem q00 : eqD (.int 0) (.int 0) = .ok (.bool true) := rfl
theorem rec_undo_no {ss : List PyData} {k : Int} {d : PyData} (h : (ss.length : Int) - 1 ≤ k) : recU ss k [.int 1, d] = .ok (.str "nothing") ss := by
  have u0 := undo_no h
  have n0 : noX [some (.r ss k), some (.d (.int 1)), some (.d d), none] = true := rfl
  unfold recU runU runR uR uTry uRet qIf
  simp only [startR, List.map_cons, List.map_nil, List.length_cons, List.length_nil, List.cons_append, List.nil_append, List.replicate, Nat.sub_self, qMeth, qPut, tB_ev, e2_ev, eVs, eV0, eC_ev, bind_ok', q10, asB_bool, Bool.false_eq_true, if_false, if_true, List.getElem?_cons_zero, u0, List.set_cons_zero]
  rw [if_pos ⟨u_nu, rfl, n0, by simp⟩]
  unfold tryGoU
  rw [if_neg (by rw [is_no]; simp)]
  unfold tryGoU
  rw [if_pos (by exact is_nn)]
  simp only [List.set_cons_succ, List.set_cons_zero, qE, eIf_ev, tAnd_ev, tNot_ev, tV_ev, eIsx, List.getElem?_cons_succ, List.getElem?_cons_zero, bind_ok', truthD_bool, is_ns, is_no, Bool.not_false, if_true, eC_ev, n0]
theorem rec_undo_ok {ss ss' : List PyData} {k : Int} {d r : PyData} (h : F_R_undo ss k [] = .ok r ss') : recU ss k [.int 1, d] = .ok r ss' := by
  unfold recU runU runR uR uTry uRet qIf
  simp only [startR, List.map_cons, List.map_nil, List.length_cons, List.length_nil, List.cons_append, List.nil_append, List.replicate, Nat.sub_self, qMeth, qPut, tB_ev, e2_ev, eVs, eV0, eC_ev, bind_ok', q10, asB_bool, Bool.false_eq_true, if_false, if_true, List.getElem?_cons_zero, h, List.set_cons_zero]
theorem rec_record_ok {ss ss' : List PyData} {k : Int} {d r : PyData} (h : F_R_record ss k [d] = .ok r ss') : recU ss k [.int 0, d] = .ok r ss' := by
  unfold recU runU runR uR uTry uRet qIf
  simp only [startR, List.map_cons, List.map_nil, List.length_cons, List.length_nil, List.cons_append, List.nil_append, List.replicate, Nat.sub_self, qMeth, qPut, tB_ev, e2_ev, eVs, eV0, eC_ev, bind_ok', q00, asB_bool, if_true, List.getElem?_cons_zero, aC_ev, aN_ok, h, List.set_cons_zero]
theorem rec_record_no {ss : List PyData} {k : Int} {d : PyData} (h : F_R_record ss k [d] = .exc xop ss) : recU ss k [.int 0, d] = .ok (.str "operation") ss := by
  have n0 : noX [some (.r ss k), some (.d (.int 0)), some (.d d), none] = true := rfl
  unfold recU runU runR uR uTry uRet qIf
  simp only [startR, List.map_cons, List.map_nil, List.length_cons, List.length_nil, List.cons_append, List.nil_append, List.replicate, Nat.sub_self, qMeth, qPut, tB_ev, e2_ev, eVs, eV0, eC_ev, bind_ok', q00, asB_bool, if_true, List.getElem?_cons_zero, aC_ev, aN_ok, h, List.set_cons_zero]
  rw [if_pos ⟨u_op, rfl, n0, by simp⟩]
  unfold tryGoU
  rw [if_pos (by exact is_oo)]
  simp only [List.set_cons_succ, List.set_cons_zero, qE, eIf_ev, tAnd_ev, tNot_ev, tV_ev, eIsx, List.getElem?_cons_succ, List.getElem?_cons_zero, bind_ok', truthD_bool, is_os, is_oi, Bool.not_false, if_true, eC_ev, n0]
theorem sIfQ_f {t : EV → RTQ} {g g2 : FS} {ρ ρ' : EV} (h : t ρ = .ok false ρ') : sIfQ t g g2 ρ = g2 ρ' := by unfold sIfQ; rw [h]; rfl
theorem tqOr_f {a b : EV → RTQ} {ρ ρ' : EV} (h : a ρ = .ok false ρ') : tqOr a b ρ = b ρ' := by unfold tqOr; rw [h]; rfl
theorem tqT_ok {t : EV → R Bool} {ρ : EV} {b : Bool} (h : t ρ = .ok b) : tqT t ρ = .ok b ρ := by unfold tqT; rw [h]
theorem qCmp_ok {op : PyData → PyData → R PyData} {q : EV → RQ} {f : FE} {ρ ρ' : EV} {d d2 r : PyData} (h : q ρ = .ok d ρ') (h2 : f ρ' = .ok d2) (h3 : op d d2 = .ok r) : qCmp op q f ρ = .ok r ρ' := by
  unfold qCmp
  rw [h]
  simp only
  rw [h2, bind_ok', h3]
theorem tqV_ok {q : EV → RQ} {ρ ρ' : EV} {b : Bool} (h : q ρ = .ok (.bool b) ρ') : tqV q ρ = .ok b ρ' := by unfold tqV; rw [h]
theorem qE_ok {f : FE} {ρ : EV} {d : PyData} (h : f ρ = .ok d) : qE f ρ = .ok d ρ := by unfold qE; rw [h]
theorem qAnd_t {qa qb : EV → RQ} {ρ ρ' : EV} (h : qa ρ = .ok (.bool true) ρ') : qAnd qa qb ρ = qb ρ' := by unfold qAnd; rw [h]; rfl
theorem sRetQ_ok {q : EV → RQ} {ρ ρ' : EV} {d : PyData} (h : q ρ = .ok d ρ') : sRetQ q ρ = .ret d := by unfold sRetQ; rw [h]
theorem wOp_take {st : List Op} (hv : Valid st) {i : Nat} (h : i < st.length) : wOp (st.take i) st[i] = st.take (i + 1) := by
  refine wOp_eq (hv.asc.sublist (List.take_sublist _ _)) ?_
  rw [List.take_succ_eq_append_getElem h]
theorem part_expl {st : List Op} (hv : Valid st) {p : Op → Bool} (hp : ∀ x ∈ st, x.w = true → p x = true) (h : expl st ≠ []) : expl (st.filter p) ≠ [] := by
  obtain ⟨q, q1, q2⟩ := (can_iff hv).mp h
  refine (can_iff (hv.sub List.filter_sublist)).mpr ⟨q.filter p, q1.filter p, q2.filter fun x hx => hp x (q1.mem_iff.mp hx)⟩
def tks (st : List Op) (n : Nat) : List (List Op) := (List.range (n + 1)).map st.take
theorem tks_last (st : List Op) (n : Nat) : (tks st n).getLast? = some (st.take n) := by unfold tks; rw [List.range_succ, List.map_append]; simp
theorem tks_succ (st : List Op) (n : Nat) : tks st (n + 1) = tks st n ++ [st.take (n + 1)] := by unfold tks; rw [List.range_succ (n := n + 1), List.map_append]; rfl
theorem tks_drop (st : List Op) (n : Nat) : (tks st (n + 1)).dropLast = tks st n := by rw [tks_succ]; simp
theorem tks_len (st : List Op) (n : Nat) : (tks st n).length = n + 1 := by unfold tks; simp
end CP
namespace Wk12
open PySem L2 CP
def top (i : Nat) : Stmt := PySem.Challenge.pw_cellstories_k12_whole_two_recorders.main.body.getD i (.Pass ⟨0, 0, 0, 0⟩)
abbrev s_in_range : Stmt := top 10
abbrev s_is_operation : Stmt := top 11
abbrev s_is_story : Stmt := top 12
abbrev s_check_story : Stmt := top 13
abbrev s_precedes : Stmt := top 14
abbrev s_may_follow : Stmt := top 15
abbrev s_extend : Stmt := top 16
abbrev s_explanations_of : Stmt := top 17
abbrev s_with_operation : Stmt := top 19
abbrev s_text_of : Stmt := top 21
abbrev s_can_explain : Stmt := top 25
abbrev s_law_cell : Stmt := top 27
abbrev s_law_row : Stmt := top 28
abbrev s_law_story : Stmt := top 29
abbrev s_law_recorded : Stmt := top 30
abbrev s_law : Stmt := top 31
abbrev s_R_init : Stmt := inClass (top 23) 0
abbrev s_R_len : Stmt := inClass (top 23) 1
abbrev s_R_str : Stmt := inClass (top 23) 2
abbrev s_R_eq : Stmt := inClass (top 23) 3
abbrev s_R_story : Stmt := inClass (top 23) 4
abbrev s_R_record : Stmt := inClass (top 23) 5
abbrev s_R_undo : Stmt := inClass (top 23) 6
abbrev s_R_duplicate : Stmt := inClass (top 23) 7
def F_law_recorded : FR := runU 4 (uTry ["InvalidStory", "InvalidOperation", "NothingToUndo"] 3 (uRet (qIf (tB (e2 eqD (eV 1) (eC (.int (0))))) (qMeth 0 1 F_R_record (aC (eV 2) (aN))) (qMeth 0 0 F_R_undo (fun _ => .ok [])))) [("InvalidOperation", uRet (qE (eIf (tAndF (tV (eIsx 3 "StoryError")) (tNotF (tV (eIsx 3 "InvalidStory")))) (eC (.str "operation")) (eC (.str "other"))))), ("NothingToUndo", uRet (qE (eIf (tAndF (tV (eIsx 3 "StoryError")) (tNotF (tV (eIsx 3 "InvalidOperation")))) (eC (.str "nothing")) (eC (.str "other")))))])
def B_law_1 : FS := sQ (qMeth 3 1 F_R_record (aC (eV 6) (aN)))
def B_law_2 : FS := sSeq (sIf (tB (eEqR false 4 3 F_R_eq)) (sRet (eC (.bool false))) (sNil)) (sQ (qMeth 4 1 F_R_record (aC (eV 6) (aN))))
def B_law_3 : FS := sIfQ (tqV (qCmp neD (qMeth 3 0 F_R_undo (fun _ => .ok [])) (eSl (eV 2) (oN) (oS (e2 opSub (e2 opSub (e1 lenD (eV 2)) (eC (.int (1)))) (eV 8)))))) (sRet (eC (.bool false))) (sNil)
def C_law_1 : FE := eLc (iSeq (eV 2)) [6] (gN 6) (tOrF (tB (e2 eqD (e2 ixD (eV 6) (eC (.int (0)))) (eC (.str "write")))) (tB (e2 eqD (e2 opMod (e2 ixD (eV 1) (e2 ixD (eV 6) (eC (.int (1))))) (eC (.int (2)))) (eC (.int (0)))))) (eV 6)
def F_law : List PyData → R PyData := runF 9 (sSeq (sSet 1 (eCall 2 F_law_row (aC (eV 0) (aC (eC (.int (4))) (aN))))) (sSeq (sSet 2 (eCall 3 F_law_story (aC (eV 0) (aC (eC (.int (2))) (aC (eC (.int (6))) (aN)))))) (sSeq (sNew2 3 4) (sSeq (sIf (tOrF (tB (eEqR true 3 4 F_R_eq)) (tOrF (tB (eEqD 3 (eT (aN)) F_R_eq)) (tB (eEqD 3 (eStrR 3 F_R_str) F_R_eq)))) (sRet (eC (.bool false))) (sNil)) (sSeq (sSet 5 (C_law_1)) (sSeq (sIf (tAndF (tV (eCall 1 F_can_explain (aC (eV 2) (aN)))) (tNotF (tV (eCall 1 F_can_explain (aC (e1 tupleD (eV 5)) (aN)))))) (sRet (eC (.bool false))) (sNil)) (sSeq (sFor (iSeq (eV 2)) (gN 6) (B_law_1)) (sSeq (sFor (iSeq (e1 (revD 0) (eV 2))) (gN 6) (B_law_2)) (sSeq (sIf (tOrF (tB (eEqR true 3 4 F_R_eq)) (tOrF (tB (e2 neD (eMeth0 3 F_R_story) (eV 2))) (tB (e2 neD (eLenR 3 F_R_len) (e1 lenD (eV 2)))))) (sRet (eC (.bool false))) (sNil)) (sSeq (sDup 4 7) (sSeq (sIfQ (tqOr (tqT (tB (eEqR true 7 3 F_R_eq))) (tqOr (tqV (qCmp neD (qMeth 7 2 F_law_recorded (aC (eC (.int (1))) (aC (eC .none) (aN)))) (eC (.str "nothing")))) (tqT (tB (e2 neD (eLenR 7 F_R_len) (e1 lenD (eV 2))))))) (sRet (eC (.bool false))) (sNil)) (sSeq (sFor (iRng1 (e1 lenD (eV 2))) (gN 8) (B_law_3)) (sRetQ (qAnd (qE (eEqN 3 F_R_eq)) (qAnd (qE (eEqR false 7 4 F_R_eq)) (qCmp eqD (qMeth 3 2 F_law_recorded (aC (eC (.int (1))) (aC (eC .none) (aN)))) (eC (.str "nothing"))))))))))))))))))
theorem sc_in_range : FnScope ["value", "low", "high"] ["value", "low", "high"] (defScope s_in_range) := ⟨rfl, rfl, rfl, by decide +kernel, rfl, by decide +kernel, by decide +kernel⟩
theorem sc_is_operation : FnScope ["value"] ["value"] (defScope s_is_operation) := ⟨rfl, rfl, rfl, by decide +kernel, rfl, by decide +kernel, by decide +kernel⟩
theorem sc_is_story : FnScope ["value", "times", "written", "one", "following"] ["value"] (defScope s_is_story) := ⟨rfl, rfl, rfl, by decide +kernel, rfl, by decide +kernel, by decide +kernel⟩
theorem sc_check_story : FnScope ["story"] ["story"] (defScope s_check_story) := ⟨rfl, rfl, rfl, by decide +kernel, rfl, by decide +kernel, by decide +kernel⟩
theorem sc_precedes : FnScope ["one", "other"] ["one", "other"] (defScope s_precedes) := ⟨rfl, rfl, rfl, by decide +kernel, rfl, by decide +kernel, by decide +kernel⟩
theorem sc_may_follow : FnScope ["story", "order", "number", "left", "written", "other", "one"] ["story", "order", "number"] (defScope s_may_follow) := ⟨rfl, rfl, rfl, by decide +kernel, rfl, by decide +kernel, by decide +kernel⟩
theorem sc_extend : FnScope ["story", "order", "found", "most", "number"] ["story", "order", "found", "most"] (defScope s_extend) := ⟨rfl, rfl, rfl, by decide +kernel, rfl, by decide +kernel, by decide +kernel⟩
theorem sc_explanations_of : FnScope ["story", "most", "found"] ["story", "most"] (defScope s_explanations_of) := ⟨rfl, rfl, rfl, by decide +kernel, rfl, by decide +kernel, by decide +kernel⟩
theorem sc_with_operation : FnScope ["story", "operation", "rows", "one", "start"] ["story", "operation"] (defScope s_with_operation) := ⟨rfl, rfl, rfl, by decide +kernel, rfl, by decide +kernel, by decide +kernel⟩
theorem sc_text_of : FnScope ["story", "kind", "value", "start", "end"] ["story"] (defScope s_text_of) := ⟨rfl, rfl, rfl, by decide +kernel, rfl, by decide +kernel, by decide +kernel⟩
theorem sc_can_explain : FnScope ["story"] ["story"] (defScope s_can_explain) := ⟨rfl, rfl, rfl, by decide +kernel, rfl, by decide +kernel, by decide +kernel⟩
theorem sc_law_cell : FnScope ["script", "k"] ["script", "k"] (defScope s_law_cell) := ⟨rfl, rfl, rfl, by decide +kernel, rfl, by decide +kernel, by decide +kernel⟩
theorem sc_law_row : FnScope ["script", "at", "cell", "found", "time"] ["script", "at"] (defScope s_law_row) := ⟨rfl, rfl, rfl, by decide +kernel, rfl, by decide +kernel, by decide +kernel⟩
theorem sc_law_story : FnScope ["script", "at", "most", "draws", "many", "marks", "number", "middle", "times", "place", "mark", "found", "last", "written", "kind", "value", "start", "one"] ["script", "at", "most"] (defScope s_law_story) := ⟨rfl, rfl, rfl, by decide +kernel, rfl, by decide +kernel, by decide +kernel⟩
theorem sc_law_recorded : FnScope ["work", "mode", "operation", "e"] ["work", "mode", "operation"] (defScope s_law_recorded) := ⟨rfl, rfl, rfl, by decide +kernel, rfl, by decide +kernel, by decide +kernel⟩
theorem sc_law : FnScope ["script", "draws", "story", "first", "second", "kept", "one", "copied", "number"] ["script"] (defScope s_law) := ⟨rfl, rfl, rfl, by decide +kernel, rfl, by decide +kernel, by decide +kernel⟩
theorem sc_R_init : FnScope ["self"] ["self"] (defScope s_R_init) := ⟨rfl, rfl, rfl, by decide +kernel, rfl, by decide +kernel, by decide +kernel⟩
theorem sc_R_len : FnScope ["self"] ["self"] (defScope s_R_len) := ⟨rfl, rfl, rfl, by decide +kernel, rfl, by decide +kernel, by decide +kernel⟩
theorem sc_R_str : FnScope ["self"] ["self"] (defScope s_R_str) := ⟨rfl, rfl, rfl, by decide +kernel, rfl, by decide +kernel, by decide +kernel⟩
theorem sc_R_eq : FnScope ["self", "other"] ["self", "other"] (defScope s_R_eq) := ⟨rfl, rfl, rfl, by decide +kernel, rfl, by decide +kernel, by decide +kernel⟩
theorem sc_R_story : FnScope ["self"] ["self"] (defScope s_R_story) := ⟨rfl, rfl, rfl, by decide +kernel, rfl, by decide +kernel, by decide +kernel⟩
theorem sc_R_record : FnScope ["self", "operation"] ["self", "operation"] (defScope s_R_record) := ⟨rfl, rfl, rfl, by decide +kernel, rfl, by decide +kernel, by decide +kernel⟩
theorem sc_R_undo : FnScope ["self"] ["self"] (defScope s_R_undo) := ⟨rfl, rfl, rfl, by decide +kernel, rfl, by decide +kernel, by decide +kernel⟩
theorem sc_R_duplicate : FnScope ["self", "result"] ["self"] (defScope s_R_duplicate) := ⟨rfl, rfl, rfl, by decide +kernel, rfl, by decide +kernel, by decide +kernel⟩
structure All (K : PySem.W.Frag) (mg : Str → Option Value) where
  m_isinstance : mg "isinstance" = none
  m_int : mg "int" = none
  m_bool : mg "bool" = none
  m_tuple : mg "tuple" = none
  m_len : mg "len" = none
  m_str : mg "str" = none
  m_zip : mg "zip" = none
  m_set : mg "set" = none
  m_enumerate : mg "enumerate" = none
  m_range : mg "range" = none
  m_sorted : mg "sorted" = none
  m_list : mg "list" = none
  g_MAX_OPERATIONS : GlD K mg "MAX_OPERATIONS" (.int (6))
  g_MAX_VALUE : GlD K mg "MAX_VALUE" (.int (9))
  g_MAX_TIME : GlD K mg "MAX_TIME" (.int (99))
  g_KINDS : GlD K mg "KINDS" (.tuple [(.str "write"), (.str "read")])
  d_in_range : Df K mg "in_range" s_in_range ["value", "low", "high"]
  d_is_operation : Df K mg "is_operation" s_is_operation ["value"]
  d_is_story : Df K mg "is_story" s_is_story ["value"]
  d_check_story : Df K mg "check_story" s_check_story ["story"]
  d_precedes : Df K mg "precedes" s_precedes ["one", "other"]
  d_may_follow : Df K mg "may_follow" s_may_follow ["story", "order", "number"]
  d_extend : Df K mg "extend" s_extend ["story", "order", "found", "most"]
  d_explanations_of : Df K mg "explanations_of" s_explanations_of ["story", "most"]
  d_with_operation : Df K mg "with_operation" s_with_operation ["story", "operation"]
  d_text_of : Df K mg "text_of" s_text_of ["story"]
  d_can_explain : Df K mg "can_explain" s_can_explain ["story"]
  d_law_cell : Df K mg "_law_cell" s_law_cell ["script", "k"]
  d_law_row : Df K mg "_law_row" s_law_row ["script", "at"]
  d_law_story : Df K mg "_law_story" s_law_story ["script", "at", "most"]
  d_law_recorded : Df K mg "_law_recorded" s_law_recorded ["work", "mode", "operation"]
  d_law : Df K mg "law" s_law ["script"]
  x_InvalidStory : Xc K mg "InvalidStory"
  x_InvalidOperation : Xc K mg "InvalidOperation"
  x_NothingToUndo : Xc K mg "NothingToUndo"
  y_StoryError : YRow K mg ["InvalidStory", "InvalidOperation", "NothingToUndo"] "StoryError"
  y_InvalidStory : YRow K mg ["InvalidStory", "InvalidOperation", "NothingToUndo"] "InvalidStory"
  y_InvalidOperation : YRow K mg ["InvalidStory", "InvalidOperation", "NothingToUndo"] "InvalidOperation"
  y_NothingToUndo : YRow K mg ["InvalidStory", "InvalidOperation", "NothingToUndo"] "NothingToUndo"
  R : RecK K mg
  h_init : Mf K R.c "__init__" "Recorder.__init__" s_R_init ["self"]
  h_len : Mf K R.c "__len__" "Recorder.__len__" s_R_len ["self"]
  h_str : Mf K R.c "__str__" "Recorder.__str__" s_R_str ["self"]
  h_eq : Mf K R.c "__eq__" "Recorder.__eq__" s_R_eq ["self", "other"]
  h_story : Mf K R.c "story" "Recorder.story" s_R_story ["self"]
  h_record : Mf K R.c "record" "Recorder.record" s_R_record ["self", "operation"]
  h_undo : Mf K R.c "undo" "Recorder.undo" s_R_undo ["self"]
  h_duplicate : Mf K R.c "duplicate" "Recorder.duplicate" s_R_duplicate ["self"]
section
variable {P : Program} {w : World} {K : PySem.W.Frag} {mg : Str → Option Value} {base : Heap}
theorem ok_in_range (T : All K mg) : FnOk P w K mg base (L2.CX P w) 1 T.d_in_range.f T.d_in_range.fd ["value", "low", "high"] (spF K mg 3 F_in_range) :=
  okF (k := 0) T.d_in_range.fn sc_in_range rfl (fun cdv A outer s H E H0 hr tk hp => ss_1 (s_ret (d_and (d_isi (s := true) kit_int T.m_isinstance T.m_int rfl (d_v 0 (s := true))) (d_and (d_not (s := true) (d_isi (s := true) kit_bool T.m_isinstance T.m_bool rfl (d_v 0 (s := true)))) (d_one (d_chain opd_le opd_le (d_v 1 (s := true)) (d_v 0 (s := true)) (d_v 2 (s := true))))))))
theorem ok_precedes (T : All K mg) : FnOk P w K mg base (L2.CX P w) 1 T.d_precedes.f T.d_precedes.fd ["one", "other"] (spF K mg 2 F_precedes) :=
  okF (k := 0) T.d_precedes.fn sc_precedes rfl (fun cdv A outer s H E H0 hr tk hp => ss_1 (s_ret (d_cmp opd_lt (d_ix (s := true) (d_v 0 (s := true)) (d_int (s := true))) (d_ix (s := true) (d_v 1 (s := true)) (d_int (s := true))))))
theorem ok_with_operation (T : All K mg) : FnOk P w K mg base (L2.CX P w) 1 T.d_with_operation.f T.d_with_operation.fd ["story", "operation"] (spF K mg 2 F_with_operation) :=
  okF (k := 0) T.d_with_operation.fn sc_with_operation rfl (fun cdv A outer s H E H0 hr tk hp => ss_c (s_set 2 sc_with_operation.nd (d_bi (s := true) (cd_sort hr) T.m_sorted rfl (d_lc (s := true) (own := [("one", 3)]) rfl sc_with_operation.nd (blkOk_by (by kernel_rfl)) (i_weak (i_seq (pr := false) (d_op opd_add (d_v 0 (s := true)) (d_tup (s := true) (a_c (d_v 1 (s := true)) (a_n)))))) (fun _ _ _ _ _ => g_n 3 sc_with_operation.nd) (fun _ _ _ _ _ => ts_n) (fun _ _ _ _ _ => d_tup (s := true) (a_c (d_ix (s := true) (d_v 3 (s := true)) (d_int (s := true))) (a_c (d_v 3 (s := true)) (a_n))))))) (ss_1 (s_ret (d_ty (s := true) cd_tuple T.m_tuple rfl (d_lc (s := true) (own := [("start", 4), ("one", 3)]) rfl sc_with_operation.nd (blkOk_by (by kernel_rfl)) (i_weak (i_seq (pr := false) (d_v 2 (s := true)))) (fun _ _ _ _ _ => g_t rfl (gs_c 4 sc_with_operation.nd (gs_c 3 sc_with_operation.nd (gs_n)))) (fun _ _ _ _ _ => ts_n) (fun _ _ _ _ _ => d_v 3 (s := true)))))))
theorem ok_text_of (T : All K mg) : FnOk P w K mg base (L2.CX P w) 1 T.d_text_of.f T.d_text_of.fd ["story"] (spF K mg 1 F_text_of) :=
  okF (k := 0) T.d_text_of.fn sc_text_of rfl (fun cdv A outer s H E H0 hr tk hp => ss_1 (s_ret (d_if (d_truth (d_v 0 (s := true))) (d_join (s := true) (d_lc (s := true) (own := [("kind", 1), ("value", 2), ("start", 3), ("end", 4)]) rfl sc_text_of.nd (blkOk_by (by kernel_rfl)) (i_weak (i_seq (pr := false) (d_v 0 (s := true)))) (fun _ _ _ _ _ => g_t rfl (gs_c 1 sc_text_of.nd (gs_c 2 sc_text_of.nd (gs_c 3 sc_text_of.nd (gs_c 4 sc_text_of.nd (gs_n)))))) (fun _ _ _ _ _ => ts_n) (fun _ _ _ _ _ => d_joined (s := true) (PJF.cons (d_fmt (s := true) (d_v 1 (s := true))) (PJF.cons (d_str (s := true)) (PJF.cons (d_fmt (s := true) (d_v 2 (s := true))) (PJF.cons (d_str (s := true)) (PJF.cons (d_fmt (s := true) (d_v 3 (s := true))) (PJF.cons (d_str (s := true)) (PJF.cons (d_fmt (s := true) (d_v 4 (s := true))) (PJF.nil))))))))))) (d_str (s := true)))))
theorem ok_law_cell (T : All K mg) : FnOk P w K mg base (L2.CX P w) 1 T.d_law_cell.f T.d_law_cell.fd ["script", "k"] (spF K mg 2 F_law_cell) :=
  okF (k := 0) T.d_law_cell.fn sc_law_cell rfl (fun cdv A outer s H E H0 hr tk hp => ss_c (s_if (d_tcmp opd_lt (d_v 1 (s := true)) (d_bi (s := true) cd_len T.m_len rfl (d_v 0 (s := true)))) (ss_1 (s_ret (d_ix (s := true) (d_v 0 (s := true)) (d_v 1 (s := true))))) (ss_n)) (ss_1 (s_ret (d_int (s := true)))))
theorem ok_is_operation (T : All K mg) : FnOk P w K mg base (L2.CX P w) 2 T.d_is_operation.f T.d_is_operation.fd ["value"] (spF K mg 1 F_is_operation) :=
  okF (k := 1) T.d_is_operation.fn sc_is_operation rfl (fun cdv A outer s H E H0 hr tk hp => ss_c (s_if (PW.pt (w_or (t_not (d_truth (d_isi (s := true) kit_tuple T.m_isinstance T.m_tuple rfl (d_v 0 (s := true))))) (w_or (d_tcmp (opd_ne hr) (d_bi (s := true) cd_len T.m_len rfl (d_v 0 (s := true))) (d_int (s := true))) (w_or (t_not (d_truth (d_isi (s := true) kit_str T.m_isinstance T.m_str rfl (d_ix (s := true) (d_v 0 (s := true)) (d_int (s := true)))))) (w_or1 (d_tcmp (opd_notIn hr) (d_ix (s := true) (d_v 0 (s := true)) (d_int (s := true))) (d_glE (s := true) T.g_KINDS))))))) (ss_1 (s_ret (d_bl (s := true)))) (ss_n)) (ss_c (s_if (t_not (d_truth (d_call (s := true) (ok_in_range T) (hr.mono (by omega)) T.d_in_range.mg T.d_in_range.fn.kp T.d_in_range.bs tk (a_c (d_ix (s := true) (d_v 0 (s := true)) (d_int (s := true))) (a_c (d_if (d_tcmp (opd_eq hr) (d_ix (s := true) (d_v 0 (s := true)) (d_int (s := true))) (d_str (s := true))) (d_int (s := true)) (d_int (s := true))) (a_c (d_glE (s := true) T.g_MAX_VALUE) (a_n))))))) (ss_1 (s_ret (d_bl (s := true)))) (ss_n)) (ss_1 (s_ret (d_and (d_call (s := true) (ok_in_range T) (hr.mono (by omega)) T.d_in_range.mg T.d_in_range.fn.kp T.d_in_range.bs tk (a_c (d_ix (s := true) (d_v 0 (s := true)) (d_int (s := true))) (a_c (d_int (s := true)) (a_c (d_glE (s := true) T.g_MAX_TIME) (a_n))))) (d_one (d_call (s := true) (ok_in_range T) (hr.mono (by omega)) T.d_in_range.mg T.d_in_range.fn.kp T.d_in_range.bs tk (a_c (d_ix (s := true) (d_v 0 (s := true)) (d_int (s := true))) (a_c (d_op opd_add (d_ix (s := true) (d_v 0 (s := true)) (d_int (s := true))) (d_int (s := true))) (a_c (d_glE (s := true) T.g_MAX_TIME) (a_n)))))))))))
theorem ok_may_follow (T : All K mg) : FnOk P w K mg base (L2.CX P w) 2 T.d_may_follow.f T.d_may_follow.fd ["story", "order", "number"] (spF K mg 3 F_may_follow) :=
  okF (k := 1) T.d_may_follow.fn sc_may_follow rfl (fun cdv A outer s H E H0 hr tk hp => ss_c (s_setLc 3 (own := [("other", 5), ("one", 6)]) rfl sc_may_follow.nd (blkOk_by (by kernel_rfl)) (i_weak (i_enum T.m_enumerate (d_v 0 (s := true)))) (fun _ _ _ _ _ => g_t rfl (gs_c 5 sc_may_follow.nd (gs_c 6 sc_may_follow.nd (gs_n)))) (fun _ _ _ _ _ => ts_1 (d_tcmp (opd_notIn hr) (d_v 5 (s := true)) (d_v 1 (s := true)))) (fun _ _ _ _ _ => d_v 6 (s := true)) (sw_true rfl rfl rfl (by decide +kernel))) (ss_c (s_if (d_truth (d_lc (s := true) (own := [("one", 6)]) rfl sc_may_follow.nd (blkOk_by (by kernel_rfl)) (i_weak (i_seq (pr := false) (d_v 3 (s := true)))) (fun _ _ _ _ _ => g_n 6 sc_may_follow.nd) (fun _ _ _ _ _ => ts_1 (d_truth (d_call (s := true) (ok_precedes T) (hr.mono (by omega)) T.d_precedes.mg T.d_precedes.fn.kp T.d_precedes.bs takes0 (a_c (d_v 6 (s := true)) (a_c (d_ix (s := true) (d_v 0 (s := true)) (d_v 2 (s := true))) (a_n)))))) (fun _ _ _ _ _ => d_v 6 (s := true)))) (ss_1 (s_ret (d_bl (s := true)))) (ss_n)) (ss_c (s_setLc 4 (own := [("other", 5)]) rfl sc_may_follow.nd (blkOk_by (by kernel_rfl)) (i_weak (i_seq (pr := false) (d_v 1 (s := true)))) (fun _ _ _ _ _ => g_n 5 sc_may_follow.nd) (fun _ _ _ _ _ => ts_1 (d_tcmp (opd_eq hr) (d_ix (s := true) (d_ix (s := true) (d_v 0 (s := true)) (d_v 5 (s := true))) (d_int (s := true))) (d_str (s := true)))) (fun _ _ _ _ _ => d_ix (s := true) (d_ix (s := true) (d_v 0 (s := true)) (d_v 5 (s := true))) (d_int (s := true))) (sw_true rfl rfl rfl (by decide +kernel))) (ss_1 (s_ret (d_or (d_cmp (opd_eq hr) (d_ix (s := true) (d_ix (s := true) (d_v 0 (s := true)) (d_v 2 (s := true))) (d_int (s := true))) (d_str (s := true))) (d_one (d_cmp (opd_eq hr) (d_ix (s := true) (d_ix (s := true) (d_v 0 (s := true)) (d_v 2 (s := true))) (d_int (s := true))) (d_if (d_truth (d_v 4 (s := true))) (d_ix (s := true) (d_v 4 (s := true)) (d_neg (s := true) (d_int (s := true)))) (d_int (s := true)))))))))))
theorem ok_law_row (T : All K mg) : FnOk P w K mg base (L2.CX P w) 2 T.d_law_row.f T.d_law_row.fd ["script", "at"] (spF K mg 2 F_law_row) :=
  okF (k := 1) T.d_law_row.fn sc_law_row rfl (fun cdv A outer s H E H0 hr tk hp => ss_c (s_set 2 sc_law_row.nd (d_call (s := true) (ok_law_cell T) (hr.mono (by omega)) T.d_law_cell.mg T.d_law_cell.fn.kp T.d_law_cell.bs tk (a_c (d_v 0 (s := true)) (a_c (d_v 1 (s := true)) (a_n))))) (ss_c (s_own 3 sc_law_row.nd (n_lst (a_n))) (ss_c (s_for hp rfl (i_rng1 (pr := false) T.m_range (d_int (s := true))) (g_n 4 sc_law_row.nd) (ss_1 (s_if (d_tcmp opd_lt (d_call (s := true) (ok_law_cell T) (hr.mono (by omega)) T.d_law_cell.mg T.d_law_cell.fn.kp T.d_law_cell.bs tk (a_c (d_v 0 (s := true)) (a_c (d_v 1 (s := true)) (a_n)))) (d_op opd_pow (d_int (s := true)) (d_int (s := true)))) (ss_c (s_set 2 sc_law_row.nd (d_op opd_mod (d_op opd_add (d_op opd_add (d_op opd_add (d_op opd_mul (d_v 2 (s := true)) (d_int (s := true))) (d_op opd_mul (d_int (s := true)) (d_v 4 (s := true)))) (d_int (s := true))) (d_call (s := true) (ok_law_cell T) (hr.mono (by omega)) T.d_law_cell.mg T.d_law_cell.fn.kp T.d_law_cell.bs tk (a_c (d_v 0 (s := true)) (a_c (d_op opd_mod (d_op opd_add (d_op opd_add (d_v 1 (s := true)) (d_int (s := true))) (d_v 4 (s := true))) (d_int (s := true))) (a_n))))) (d_int (s := true)))) (ss_1 (s_app 3 (d_op opd_mod (d_op opd_div (d_v 2 (s := true)) (d_int (s := true))) (d_int (s := true)))))) (ss_c (s_app 3 (d_op opd_mod (d_v 2 (s := true)) (d_int (s := true)))) (ss_1 (s_set 2 sc_law_row.nd (d_op opd_div (d_v 2 (s := true)) (d_int (s := true))))))))) (ss_1 (s_retL 3)))))
theorem ok_is_story (T : All K mg) : FnOk P w K mg base (L2.CX P w) 3 T.d_is_story.f T.d_is_story.fd ["value"] (spF K mg 1 F_is_story) :=
  okF (k := 2) T.d_is_story.fn sc_is_story rfl (fun cdv A outer s H E H0 hr tk hp => ss_c (s_if (PW.pt (w_or (t_not (d_truth (d_isi (s := true) kit_tuple T.m_isinstance T.m_tuple rfl (d_v 0 (s := true))))) (w_or1 (d_tcmp opd_gt (d_bi (s := true) cd_len T.m_len rfl (d_v 0 (s := true))) (d_glE (s := true) T.g_MAX_OPERATIONS))))) (ss_1 (s_ret (d_bl (s := true)))) (ss_n)) (ss_c (s_if (d_truth (d_lc (s := true) (own := [("one", 3)]) rfl sc_is_story.nd (blkOk_by (by kernel_rfl)) (i_weak (i_seq (pr := false) (d_v 0 (s := true)))) (fun _ _ _ _ _ => g_n 3 sc_is_story.nd) (fun _ _ _ _ _ => ts_1 (t_not (d_truth (d_call (s := true) (ok_is_operation T) (hr.mono (by omega)) T.d_is_operation.mg T.d_is_operation.fn.kp T.d_is_operation.bs takes0 (a_c (d_v 3 (s := true)) (a_n)))))) (fun _ _ _ _ _ => d_v 3 (s := true)))) (ss_1 (s_ret (d_bl (s := true)))) (ss_n)) (ss_c (s_if (d_truth (d_lc (s := true) (own := [("one", 3), ("following", 4)]) rfl sc_is_story.nd (blkOk_by (by kernel_rfl)) (i_weak (i_zip T.m_zip (d_v 0 (s := true)) (d_sl (s := true) (d_v 0 (s := true)) (o_s (d_int (s := true))) (o_n)))) (fun _ _ _ _ _ => g_t rfl (gs_c 3 sc_is_story.nd (gs_c 4 sc_is_story.nd (gs_n)))) (fun _ _ _ _ _ => ts_1 (d_tcmp opd_ge (d_ix (s := true) (d_v 3 (s := true)) (d_int (s := true))) (d_ix (s := true) (d_v 4 (s := true)) (d_int (s := true))))) (fun _ _ _ _ _ => d_int (s := true)))) (ss_1 (s_ret (d_bl (s := true)))) (ss_n)) (ss_c (s_set 1 sc_is_story.nd (d_op opd_add (d_lc (s := true) (own := [("one", 3)]) rfl sc_is_story.nd (blkOk_by (by kernel_rfl)) (i_weak (i_seq (pr := false) (d_v 0 (s := true)))) (fun _ _ _ _ _ => g_n 3 sc_is_story.nd) (fun _ _ _ _ _ => ts_n) (fun _ _ _ _ _ => d_ix (s := true) (d_v 3 (s := true)) (d_int (s := true)))) (d_lc (s := true) (own := [("one", 3)]) rfl sc_is_story.nd (blkOk_by (by kernel_rfl)) (i_weak (i_seq (pr := false) (d_v 0 (s := true)))) (fun _ _ _ _ _ => g_n 3 sc_is_story.nd) (fun _ _ _ _ _ => ts_n) (fun _ _ _ _ _ => d_ix (s := true) (d_v 3 (s := true)) (d_int (s := true)))))) (ss_c (s_setLc 2 (own := [("one", 3)]) rfl sc_is_story.nd (blkOk_by (by kernel_rfl)) (i_weak (i_seq (pr := false) (d_v 0 (s := true)))) (fun _ _ _ _ _ => g_n 3 sc_is_story.nd) (fun _ _ _ _ _ => ts_1 (d_tcmp (opd_eq hr) (d_ix (s := true) (d_v 3 (s := true)) (d_int (s := true))) (d_str (s := true)))) (fun _ _ _ _ _ => d_ix (s := true) (d_v 3 (s := true)) (d_int (s := true))) (sw_true rfl rfl rfl (by decide +kernel))) (ss_1 (s_ret (d_and (d_cmp (opd_eq hr) (d_lenSet (s := true) T.m_len T.m_set (d_v 1 (s := true)) rfl) (d_bi (s := true) cd_len T.m_len rfl (d_v 1 (s := true)))) (d_one (d_cmp (opd_eq hr) (d_lenSet (s := true) T.m_len T.m_set (d_v 2 (s := true)) rfl) (d_bi (s := true) cd_len T.m_len rfl (d_v 2 (s := true)))))))))))))
theorem ok_extend (T : All K mg) : ∀ n : Nat, FnOk P w K mg base (L2.CX P w) (n + 3) T.d_extend.f T.d_extend.fd ["story", "order", "found", "most"] (spM K (extF F_may_follow n))
  | 0 => fnokM_bad
  | n + 1 => by
    have ih := ok_extend T n
    have e : n + 1 + 3 = (n + 3) + 1 := by omega
    rw [e]
    refine T.d_extend.fn.okX sc_extend (fun vs H Q E h => by obtain ⟨v0, v1, p, v3, xs, d0, d1, ds, d3, H0, rfl, _⟩ := h; rfl) (fun cdv A outer s H vs Q E hr h => ?_)
    obtain ⟨v0, v1, p, v3, xs, d0, d1, ds, d3, H0, rfl, i, hp, h0, k0, k1, k3, kx, hl, h⟩ := h
    have tk : Takes (cxOf (L2.CX P w) P w K mg base ["story", "order", "found", "most", "number"] "extend" (defScope s_extend) T.d_extend.f cdv A outer s H E) (WE0 E) := takes_of rfl rfl rfl rfl
    refine ⟨_, pss_cons (ps_if (d_tcmp (B := bs (del H p) H0) (W := WE0 E) (opd_eq hr) (d_bi (s := true) cd_len T.m_len rfl (d_v 1 (s := true))) (d_bi (s := true) cd_len T.m_len rfl (d_v 0 (s := true)))) (pss_cons (ps_expr (pe_bm PySem.F.plainAttrs_list PySem.F.slot_list_append PySem.F.type_list_append mt_append (pv 2) (pa_cons (d_v (B := bs (del H p) H0) (W := WE0 E) 1 (s := true)) pa_nil))) (pss_one ps_retN)) pss_nil)
      (pss_one (ps_for (passes_of rfl) rfl (i_rng1 (pr := false) (B := bs (del H p) H0) (W := WE0 E) (s := true) T.m_range (d_bi (s := true) cd_len T.m_len rfl (d_v 0 (s := true)))) (pg_name (i := 4) sc_extend.nd rfl (Or.inl rfl)) (pss_one (ps_if (PW.pt (w_and (B := bs (del H p) H0) (W := WE0 E) (d_tcmp opd_lt (d_bi (s := true) cd_len T.m_len rfl (d_l 2)) (d_v 3 (s := true))) (w_and (d_tcmp (opd_notIn hr) (d_v 4 (s := true)) (d_v 1 (s := true))) (w_and1 (d_tval (d_call (s := true) (ok_may_follow T) (hr.mono (by omega)) T.d_may_follow.mg T.d_may_follow.fn.kp T.d_may_follow.bs tk (a_c (d_v 0) (a_c (d_v 1) (a_c (d_v 4) a_n)))))))))
        (pss_one (ps_expr (pe_callS ih (hr.mono (by omega)) rfl T.d_extend.mg T.d_extend.fn.kp T.d_extend.bs (fun σ => passAt tk σ) (pa_cons (d_v (B := bs (del H p) H0) (W := WE0 E) 0 (s := true)) (pa_cons (d_op (B := bs (del H p) H0) (W := WE0 E) opd_add (d_v 1 (s := true)) (d_tup (s := true) (a_c (d_v 4) a_n))) (pa_cons (pv 2) (pa_cons (d_v (B := bs (del H p) H0) (W := WE0 E) 3 (s := true)) pa_nil))))))) pss_nil)))), ?_⟩
    exact ext_read i hp h0 k0 k1 k3 kx hl h
theorem ok_law_story (T : All K mg) : FnOk P w K mg base (L2.CX P w) 3 T.d_law_story.f T.d_law_story.fd ["script", "at", "most"] (spF K mg 3 F_law_story) :=
  okF (k := 2) T.d_law_story.fn sc_law_story rfl (fun cdv A outer s H E H0 hr tk hp => ss_c (s_set 3 sc_law_story.nd (d_call (s := true) (ok_law_row T) (hr.mono (by omega)) T.d_law_row.mg T.d_law_row.fn.kp T.d_law_row.bs tk (a_c (d_v 0 (s := true)) (a_c (d_v 1 (s := true)) (a_n))))) (ss_c (s_set 4 sc_law_story.nd (d_op opd_mod (d_ix (s := true) (d_v 3 (s := true)) (d_int (s := true))) (d_op opd_add (d_v 2 (s := true)) (d_int (s := true))))) (ss_c (s_own 5 sc_law_story.nd (n_lst (a_n))) (ss_c (s_for hp rfl (i_rng1 (pr := false) T.m_range (d_v 4 (s := true))) (g_n 6 sc_law_story.nd) (ss_c (s_set 7 sc_law_story.nd (d_if (d_tcmp opd_gt (d_op opd_mod (d_ix (s := true) (d_v 3 (s := true)) (d_int (s := true))) (d_int (s := true))) (d_int (s := true))) (d_op opd_mul (d_int (s := true)) (d_v 6 (s := true))) (d_op opd_mod (d_ix (s := true) (d_v 3 (s := true)) (d_op opd_add (d_int (s := true)) (d_v 6 (s := true)))) (d_int (s := true))))) (ss_c (s_app 5 (d_tup (s := true) (a_c (d_op opd_sub (d_v 7 (s := true)) (d_op opd_mod (d_ix (s := true) (d_v 3 (s := true)) (d_op opd_add (d_int (s := true)) (d_v 6 (s := true)))) (d_op opd_add (d_int (s := true)) (d_op opd_mod (d_ix (s := true) (d_v 3 (s := true)) (d_int (s := true))) (d_int (s := true)))))) (a_c (d_v 6 (s := true)) (a_c (d_int (s := true)) (a_n)))))) (ss_1 (s_app 5 (d_tup (s := true) (a_c (d_op opd_add (d_op opd_add (d_v 7 (s := true)) (d_int (s := true))) (d_op opd_mod (d_ix (s := true) (d_v 3 (s := true)) (d_op opd_add (d_int (s := true)) (d_v 6 (s := true)))) (d_op opd_add (d_int (s := true)) (d_op opd_mod (d_ix (s := true) (d_v 3 (s := true)) (d_int (s := true))) (d_int (s := true)))))) (a_c (d_v 6 (s := true)) (a_c (d_int (s := true)) (a_n)))))))))) (ss_c (s_dnew 8 sc_law_story.nd) (ss_c (s_for hp rfl (i_rng1 (pr := false) T.m_range (d_bi (s := true) cd_len T.m_len rfl (d_bi (s := true) (cd_sort hr) T.m_sorted rfl (d_l 5)))) (g_n 9 sc_law_story.nd) (ss_c (s_set 10 sc_law_story.nd (d_ix (s := true) (d_bi (s := true) (cd_sort hr) T.m_sorted rfl (d_l 5)) (d_v 9 (s := true)))) (ss_1 (s_dput 8 hr (k_tup (a_c (d_ix (s := true) (d_v 10 (s := true)) (d_int (s := true))) (a_c (d_ix (s := true) (d_v 10 (s := true)) (d_int (s := true))) (a_n)))) (d_op opd_add (d_op opd_mul (d_int (s := true)) (d_v 9 (s := true))) (d_op opd_mod (d_ix (s := true) (d_v 3 (s := true)) (d_op opd_add (d_int (s := true)) (d_v 9 (s := true)))) (d_int (s := true)))))))) (ss_c (s_mix rfl (m_l (n_lst (a_n)) (m_s (d_int (s := true)) (m_l (n_lst (a_n)) (m_n)))) (gv_c 11 sc_law_story.nd (gv_c 12 sc_law_story.nd (gv_c 13 sc_law_story.nd (gv_n))))) (ss_c (s_for hp rfl (i_rng1 (pr := false) T.m_range (d_v 4 (s := true))) (g_n 6 sc_law_story.nd) (ss_c (s_set 14 sc_law_story.nd (d_if (d_tcmp (opd_eq hr) (d_op opd_mod (d_ix (s := true) (d_v 3 (s := true)) (d_op opd_add (d_int (s := true)) (d_v 6 (s := true)))) (d_int (s := true))) (d_int (s := true))) (d_str (s := true)) (d_str (s := true)))) (ss_c (s_if (d_tcmp (opd_eq hr) (d_v 14 (s := true)) (d_str (s := true))) (ss_c (s_set 12 sc_law_story.nd (d_ix (s := true) (d_lc (s := true) (own := [("one", 17)]) rfl sc_law_story.nd (blkOk_by (by kernel_rfl)) (i_rng2 (pr := false) T.m_range (d_int (s := true)) (d_int (s := true))) (fun _ _ _ _ _ => g_n 17 sc_law_story.nd) (fun _ _ _ _ _ => ts_1 (d_tcmp (opd_notIn hr) (d_v 17 (s := true)) (d_l 13))) (fun _ _ _ _ _ => d_v 17 (s := true))) (d_op opd_mod (d_ix (s := true) (d_v 3 (s := true)) (d_op opd_add (d_int (s := true)) (d_v 6 (s := true)))) (d_int (s := true))))) (ss_1 (s_app 13 (d_v 12 (s := true))))) (ss_n)) (ss_c (s_set 15 sc_law_story.nd (d_v 12 (s := true))) (ss_c (s_if (PW.pt (w_and (d_tcmp (opd_eq hr) (d_v 14 (s := true)) (d_str (s := true))) (w_and1 (d_tcmp (opd_eq hr) (d_op opd_mod (d_ix (s := true) (d_v 3 (s := true)) (d_int (s := true))) (d_int (s := true))) (d_int (s := true)))))) (ss_1 (s_set 15 sc_law_story.nd (d_ix (s := true) (d_op opd_add (d_op opd_add (d_lst (s := true) (a_c (d_int (s := true)) (a_n))) (d_l 13)) (d_lst (s := true) (a_c (d_int (s := true)) (a_n)))) (d_op opd_mod (d_ix (s := true) (d_v 3 (s := true)) (d_op opd_add (d_int (s := true)) (d_v 6 (s := true)))) (d_op opd_add (d_bi (s := true) cd_len T.m_len rfl (d_l 13)) (d_int (s := true))))))) (ss_n)) (ss_1 (s_app 11 (d_tup (s := true) (a_c (d_v 14 (s := true)) (a_c (d_v 15 (s := true)) (a_c (d_dget (s := true) 8 hr (k_tup (a_c (d_v 6 (s := true)) (a_c (d_int (s := true)) (a_n))))) (a_c (d_dget (s := true) 8 hr (k_tup (a_c (d_v 6 (s := true)) (a_c (d_int (s := true)) (a_n))))) (a_n))))))))))))) (ss_1 (s_ret (d_ty (s := true) cd_tuple T.m_tuple rfl (d_lc (s := true) (own := [("start", 16), ("one", 17)]) rfl sc_law_story.nd (blkOk_by (by kernel_rfl)) (i_weak (i_seq (pr := false) (d_bi (s := true) (cd_sort hr) T.m_sorted rfl (d_lc (s := true) (own := [("one", 17)]) rfl sc_law_story.nd (blkOk_by (by kernel_rfl)) (i_seq (pr := false) (d_l 11)) (fun _ _ _ _ _ => g_n 17 sc_law_story.nd) (fun _ _ _ _ _ => ts_n) (fun _ _ _ _ _ => d_tup (s := true) (a_c (d_ix (s := true) (d_v 17 (s := true)) (d_int (s := true))) (a_c (d_v 17 (s := true)) (a_n)))))))) (fun _ _ _ _ _ => g_t rfl (gs_c 16 sc_law_story.nd (gs_c 17 sc_law_story.nd (gs_n)))) (fun _ _ _ _ _ => ts_n) (fun _ _ _ _ _ => d_v 17 (s := true))))))))))))))
theorem ok_check_story (T : All K mg) : FnOk P w K mg base (L2.CX P w) 4 T.d_check_story.f T.d_check_story.fd ["story"] (spF K mg 1 F_check_story) :=
  okF (k := 3) T.d_check_story.fn sc_check_story rfl (fun cdv A outer s H E H0 hr tk hp => ss_1 (s_if (t_not (d_truth (d_call (s := true) (ok_is_story T) (hr.mono (by omega)) T.d_is_story.mg T.d_is_story.fn.kp T.d_is_story.bs tk (a_c (d_v 0 (s := true)) (a_n))))) (ss_1 (s_raise rfl T.x_InvalidStory tk)) (ss_n)))
theorem ok_R_init (T : All K mg) : FnOk P w K mg base (L2.CX P w) 4 T.h_init.f T.h_init.fd ["self"] (spI K mg) :=
  okI (k := 3) (f1 := eLs (aC (eT aN) aN)) T.h_init.fn sc_R_init rfl rfl T.R.mgr T.R.cl T.R.st T.R.kp rfl rfl (fun cdv A outer s H E Hb H0 hr => ⟨ps_fld (pv 0) (n_lst (a_c (d_tup (s := true) a_n) a_n)) rfl, ps_fld (pv 0) pe_int rfl⟩)
theorem ok_R_len (T : All K mg) : FnOk P w K mg base (L2.CX P w) 4 T.h_len.f T.h_len.fd ["self"] (spA K mg 1 F_R_len) :=
  okA (k := 3) T.h_len.fn sc_R_len rfl (fun cdv A outer s H E H0 hr tk hp => ss_1 (s_ret (d_bi (s := true) cd_len T.m_len rfl (d_sl (s := true) (d_st 0 T.R.rc) (o_s (d_int (s := true))) (o_n)))))
theorem ok_R_story (T : All K mg) : FnOk P w K mg base (L2.CX P w) 4 T.h_story.f T.h_story.fd ["self"] (spA K mg 1 F_R_story) :=
  okA (k := 3) T.h_story.fn sc_R_story rfl (fun cdv A outer s H E H0 hr tk hp => ss_1 (s_ret (d_ix (s := true) (d_st 0 T.R.rc) (d_neg (s := true) (d_int (s := true))))))
theorem ok_R_undo (T : All K mg) : FnOk P w K mg base (L2.CX P w) 4 T.h_undo.f T.h_undo.fd ["self"] (spR K mg 0 F_R_undo) :=
  okU (k := 3) T.h_undo.fn sc_R_undo rfl (fun cdv A outer s H E Hb H0 p hr tk hp => us_c (u_if (d_tcmp opd_le (d_op opd_sub (d_bi (s := true) cd_len T.m_len rfl (d_st 0 T.R.rc)) (d_int (s := true))) (d_kp (s := true) 0 T.R.rc)) (us_1 (u_s (s_raise rfl T.x_NothingToUndo tk))) (us_n)) (us_c (u_s (s_rpop 0 T.R.rc)) (us_1 (u_ret (q_e (d_ix (s := true) (d_st 0 T.R.rc) (d_neg (s := true) (d_int (s := true)))))))))
theorem ok_R_str (T : All K mg) : FnOk P w K mg base (L2.CX P w) 5 T.h_str.f T.h_str.fd ["self"] (spA K mg 1 F_R_str) :=
  okA (k := 4) T.h_str.fn sc_R_str rfl (fun cdv A outer s H E H0 hr tk hp => ss_1 (s_ret (d_ty (s := true) cd_str T.m_str rfl (d_call (s := true) (ok_text_of T) (hr.mono (by omega)) T.d_text_of.mg T.d_text_of.fn.kp T.d_text_of.bs tk (a_c (d_ix (s := true) (d_st 0 T.R.rc) (d_neg (s := true) (d_int (s := true)))) (a_n))))))
theorem ok_R_eq (T : All K mg) : FnOk P w K mg base (L2.CX P w) 8 T.h_eq.f T.h_eq.fd ["self", "other"] (spA K mg 2 F_R_eq) :=
  okA (k := 7) T.h_eq.fn sc_R_eq rfl (fun cdv A outer s H E H0 hr tk hp => ss_c (s_if (t_not (d_truth (d_isR (s := true) 1 T.R.rc T.R.ri T.m_isinstance))) (ss_1 (s_ret (d_bl (s := true)))) (ss_n)) (ss_1 (s_ret (d_cmp (opd_eq hr) (d_ix (s := true) (d_st 0 T.R.rc) (d_neg (s := true) (d_int (s := true)))) (d_ix (s := true) (d_st 1 T.R.rc) (d_neg (s := true) (d_int (s := true))))))))
theorem ok_R_duplicate (T : All K mg) : FnOk P w K mg base (L2.CX P w) 8 T.h_duplicate.f T.h_duplicate.fd ["self"] (spD K mg) :=
  okD (k := 7) (g := G_R_duplicate) T.h_duplicate.fn sc_R_duplicate rfl 1 (fun ss k => ⟨_, rfl, rfl⟩) (fun cdv A outer s H E H0 hr => d_cons 1 (s_new 1 rfl sc_R_duplicate.nd (k_new T.R.rc (T.R.mkr T.h_init) (ok_R_init T) (hr.mono (by omega)) T.h_init.bs)) (d_cons 1 (s_fst 1 T.R.rc (n_list T.m_list (d_st 0 T.R.rc))) (d_cons 1 (s_fkp 1 T.R.rc (d_op opd_sub (d_bi (s := true) cd_len T.m_len rfl (d_st 0 T.R.rc)) (d_int (s := true)))) (d_end 1))))
theorem ok_explanations_of (T : All K mg) : FnOk P w K mg base (L2.CX P w) 12 T.d_explanations_of.f T.d_explanations_of.fd ["story", "most"] (spF K mg 2 F_explanations_of) :=
  okF (k := 11) T.d_explanations_of.fn sc_explanations_of rfl (fun cdv A outer s H E H0 hr tk hp => ss_c (s_own 2 sc_explanations_of.nd (n_lst (a_n))) (ss_c (s_callM 2 (ok_extend T 8) (hr.mono (by omega)) T.d_extend.mg T.d_extend.fn.kp T.d_extend.bs tk (d_v 0 (s := true)) (d_tup (s := true) (a_n)) (d_v 1 (s := true))) (ss_1 (s_retL 2))))
theorem ok_can_explain (T : All K mg) : FnOk P w K mg base (L2.CX P w) 13 T.d_can_explain.f T.d_can_explain.fd ["story"] (spF K mg 1 F_can_explain) :=
  okF (k := 12) T.d_can_explain.fn sc_can_explain rfl (fun cdv A outer s H E H0 hr tk hp => ss_c (s_expr (d_call (s := true) (ok_check_story T) (hr.mono (by omega)) T.d_check_story.mg T.d_check_story.fn.kp T.d_check_story.bs tk (a_c (d_v 0 (s := true)) (a_n)))) (ss_1 (s_ret (d_cmp (opd_ne hr) (d_call (s := true) (ok_explanations_of T) (hr.mono (by omega)) T.d_explanations_of.mg T.d_explanations_of.fn.kp T.d_explanations_of.bs tk (a_c (d_v 0 (s := true)) (a_c (d_int (s := true)) (a_n)))) (d_lst (s := true) (a_n))))))
theorem ok_R_record (T : All K mg) : FnOk P w K mg base (L2.CX P w) 16 T.h_record.f T.h_record.fd ["self", "operation"] (spR K mg 1 F_R_record) :=
  okU (k := 15) T.h_record.fn sc_R_record rfl (fun cdv A outer s H E Hb H0 p hr tk hp => us_c (u_if (PW.pt (w_or (t_not (d_truth (d_call (s := true) (ok_is_operation T) (hr.mono (by omega)) T.d_is_operation.mg T.d_is_operation.fn.kp T.d_is_operation.bs tk (a_c (d_v 1 (s := true)) (a_n))))) (w_or1 (t_not (d_truth (d_call (s := true) (ok_is_story T) (hr.mono (by omega)) T.d_is_story.mg T.d_is_story.fn.kp T.d_is_story.bs tk (a_c (d_call (s := true) (ok_with_operation T) (hr.mono (by omega)) T.d_with_operation.mg T.d_with_operation.fn.kp T.d_with_operation.bs tk (a_c (d_ix (s := true) (d_st 0 T.R.rc) (d_neg (s := true) (d_int (s := true)))) (a_c (d_v 1 (s := true)) (a_n)))) (a_n)))))))) (us_1 (u_s (s_raise rfl T.x_InvalidOperation tk))) (us_n)) (us_c (u_s (s_rapp 0 T.R.rc (d_call (s := true) (ok_with_operation T) (hr.mono (by omega)) T.d_with_operation.mg T.d_with_operation.fn.kp T.d_with_operation.bs tk (a_c (d_ix (s := true) (d_st 0 T.R.rc) (d_neg (s := true) (d_int (s := true)))) (a_c (d_v 1 (s := true)) (a_n)))))) (us_1 (u_ret (q_e (d_cmp (opd_ne hr) (d_call (s := true) (ok_explanations_of T) (hr.mono (by omega)) T.d_explanations_of.mg T.d_explanations_of.fn.kp T.d_explanations_of.bs tk (a_c (d_ix (s := true) (d_st 0 T.R.rc) (d_neg (s := true) (d_int (s := true)))) (a_c (d_int (s := true)) (a_n)))) (d_lst (s := true) (a_n))))))))
theorem ok_law_recorded (T : All K mg) : FnOk P w K mg base (L2.CX P w) 20 T.d_law_recorded.f T.d_law_recorded.fd ["work", "mode", "operation"] (spR K mg 2 F_law_recorded) :=
  okU (k := 19) T.d_law_recorded.fn sc_law_recorded rfl (fun cdv A outer s H E Hb H0 p hr tk hp => us_1 (u_try 3 sc_law_recorded.nd tk (fun W2 pn xe tk hp => us_1 (u_ret (q_if (d_tcmp (opd_eq hr) (d_v 1 (s := true)) (d_int (s := true))) (q_meth 0 T.R.rc T.h_record.me (ok_R_record T) (hr.mono (by omega)) T.h_record.bs tk (a_c (d_v 2 (s := true)) (a_n))) (q_meth0 0 T.R.rc T.h_undo.me (ok_R_undo T) (hr.mono (by omega)) T.h_undo.bs tk)))) (ClausesU.cons T.y_InvalidOperation rfl (by decide) (fun a oe k pn c h1 h2 hz hf => us_1 (u_ret (q_e (d_if (PW.pt (w_and (d_truth (d_isx (s := true) 3 T.m_isinstance T.y_StoryError h1 h2 hz hf)) (w_and1 (t_not (d_truth (d_isx (s := true) 3 T.m_isinstance T.y_InvalidStory h1 h2 hz hf)))))) (d_str (s := true)) (d_str (s := true)))))) (ClausesU.cons T.y_NothingToUndo rfl (by decide) (fun a oe k pn c h1 h2 hz hf => us_1 (u_ret (q_e (d_if (PW.pt (w_and (d_truth (d_isx (s := true) 3 T.m_isinstance T.y_StoryError h1 h2 hz hf)) (w_and1 (t_not (d_truth (d_isx (s := true) 3 T.m_isinstance T.y_InvalidOperation h1 h2 hz hf)))))) (d_str (s := true)) (d_str (s := true)))))) (ClausesU.nil)))))
theorem ok_law (T : All K mg) : FnOk P w K mg base (L2.CX P w) 24 T.d_law.f T.d_law.fd ["script"] (spF K mg 1 F_law) :=
  okF (k := 23) T.d_law.fn sc_law rfl (fun cdv A outer s H E H0 hr tk hp => ss_c (s_set 1 sc_law.nd (d_call (s := true) (ok_law_row T) (hr.mono (by omega)) T.d_law_row.mg T.d_law_row.fn.kp T.d_law_row.bs tk (a_c (d_v 0 (s := true)) (a_c (d_int (s := true)) (a_n))))) (ss_c (s_set 2 sc_law.nd (d_call (s := true) (ok_law_story T) (hr.mono (by omega)) T.d_law_story.mg T.d_law_story.fn.kp T.d_law_story.bs tk (a_c (d_v 0 (s := true)) (a_c (d_int (s := true)) (a_c (d_int (s := true)) (a_n)))))) (ss_c (s_new2 rfl rfl sc_law.nd (k_new T.R.rc (T.R.mkr T.h_init) (ok_R_init T) (hr.mono (by omega)) T.h_init.bs) (k_new T.R.rc (T.R.mkr T.h_init) (ok_R_init T) (hr.mono (by omega)) T.h_init.bs) rfl) (ss_c (s_if (PW.pt (w_or (t_eqRR true rfl 3 4 T.R.rc (T.R.rq T.h_eq) (ok_R_eq T) (hr.mono (by omega)) T.h_eq.bs) (w_or (t_eqRD 3 T.R.rc (T.R.rq T.h_eq) (ok_R_eq T) (hr.mono (by omega)) T.h_eq.bs (d_tup (s := true) (a_n))) (w_or1 (t_eqRD 3 T.R.rc (T.R.rq T.h_eq) (ok_R_eq T) (hr.mono (by omega)) T.h_eq.bs (d_strR (s := true) 3 T.R.rc T.h_str.at_ T.h_str.isf (ok_R_str T) (hr.mono (by omega)) T.h_str.bs T.m_str)))))) (ss_1 (s_ret (d_bl (s := true)))) (ss_n)) (ss_c (s_setLc 5 (own := [("one", 6)]) rfl sc_law.nd (blkOk_by (by kernel_rfl)) (i_weak (i_seq (pr := false) (d_v 2 (s := true)))) (fun _ _ _ _ _ => g_n 6 sc_law.nd) (fun _ _ _ _ _ => ts_1 (PW.pt (w_or (d_tcmp (opd_eq hr) (d_ix (s := true) (d_v 6 (s := true)) (d_int (s := true))) (d_str (s := true))) (w_or1 (d_tcmp (opd_eq hr) (d_op opd_mod (d_ix (s := true) (d_v 1 (s := true)) (d_ix (s := true) (d_v 6 (s := true)) (d_int (s := true)))) (d_int (s := true))) (d_int (s := true))))))) (fun _ _ _ _ _ => d_v 6 (s := true)) (sw_true rfl rfl rfl (by decide +kernel))) (ss_c (s_if (PW.pt (w_and (d_truth (d_call (s := true) (ok_can_explain T) (hr.mono (by omega)) T.d_can_explain.mg T.d_can_explain.fn.kp T.d_can_explain.bs tk (a_c (d_v 2 (s := true)) (a_n)))) (w_and1 (t_not (d_truth (d_call (s := true) (ok_can_explain T) (hr.mono (by omega)) T.d_can_explain.mg T.d_can_explain.fn.kp T.d_can_explain.bs tk (a_c (d_ty (s := true) cd_tuple T.m_tuple rfl (d_v 5 (s := true))) (a_n)))))))) (ss_1 (s_ret (d_bl (s := true)))) (ss_n)) (ss_c (s_for hp rfl (i_seq (pr := false) (d_v 2 (s := true))) (g_n 6 sc_law.nd) (ss_1 (s_q (q_meth 3 T.R.rc T.h_record.me (ok_R_record T) (hr.mono (by omega)) T.h_record.bs tk (a_c (d_v 6 (s := true)) (a_n)))))) (ss_c (s_for hp rfl (i_seq (pr := false) (d_rev (s := true) (d_v 2 (s := true)))) (g_n 6 sc_law.nd) (ss_c (s_if (t_eqRR false rfl 4 3 T.R.rc (T.R.rq T.h_eq) (ok_R_eq T) (hr.mono (by omega)) T.h_eq.bs) (ss_1 (s_ret (d_bl (s := true)))) (ss_n)) (ss_1 (s_q (q_meth 4 T.R.rc T.h_record.me (ok_R_record T) (hr.mono (by omega)) T.h_record.bs tk (a_c (d_v 6 (s := true)) (a_n))))))) (ss_c (s_if (PW.pt (w_or (t_eqRR true rfl 3 4 T.R.rc (T.R.rq T.h_eq) (ok_R_eq T) (hr.mono (by omega)) T.h_eq.bs) (w_or (d_tcmp (opd_ne hr) (d_meth0 (s := true) 3 T.R.rc T.h_story.me (ok_R_story T) (hr.mono (by omega)) T.h_story.bs tk) (d_v 2 (s := true))) (w_or1 (d_tcmp (opd_ne hr) (d_lenR (s := true) 3 T.R.rc T.h_len.at_ T.h_len.isf (ok_R_len T) (hr.mono (by omega)) T.h_len.bs T.m_len) (d_bi (s := true) cd_len T.m_len rfl (d_v 2 (s := true)))))))) (ss_1 (s_ret (d_bl (s := true)))) (ss_n)) (ss_c (s_dup 4 7 T.R.rc rfl sc_law.nd T.h_duplicate.me (ok_R_duplicate T) (hr.mono (by omega)) T.h_duplicate.bs tk) (ss_c (s_ifQ (PW.pt (wq_or (tq_t (t_eqRR true rfl 7 3 T.R.rc (T.R.rq T.h_eq) (ok_R_eq T) (hr.mono (by omega)) T.h_eq.bs)) (wq_or (tq_cmp (opd_ne hr) (q_call 7 T.R.rc (ok_law_recorded T) (hr.mono (by omega)) T.d_law_recorded.mg T.d_law_recorded.fn.kp T.d_law_recorded.bs tk (a_c (d_int (s := true)) (a_c (d_non (s := true)) (a_n)))) (d_str (s := true))) (wq_or1 (tq_t (d_tcmp (opd_ne hr) (d_lenR (s := true) 7 T.R.rc T.h_len.at_ T.h_len.isf (ok_R_len T) (hr.mono (by omega)) T.h_len.bs T.m_len) (d_bi (s := true) cd_len T.m_len rfl (d_v 2 (s := true))))))))) (ss_1 (s_ret (d_bl (s := true)))) (ss_n)) (ss_c (s_for hp rfl (i_rng1 (pr := false) T.m_range (d_bi (s := true) cd_len T.m_len rfl (d_v 2 (s := true)))) (g_n 8 sc_law.nd) (ss_1 (s_ifQ (tq_cmp (opd_ne hr) (q_meth0 3 T.R.rc T.h_undo.me (ok_R_undo T) (hr.mono (by omega)) T.h_undo.bs tk) (d_sl (s := true) (d_v 2 (s := true)) (o_n) (o_s (d_op opd_sub (d_op opd_sub (d_bi (s := true) cd_len T.m_len rfl (d_v 2 (s := true))) (d_int (s := true))) (d_v 8 (s := true)))))) (ss_1 (s_ret (d_bl (s := true)))) (ss_n)))) (ss_1 (s_retQ (q_and (q_e (d_eqRN (s := true) 3 T.R.rc (T.R.rq T.h_eq) (ok_R_eq T) (hr.mono (by omega)) T.h_eq.bs (k_new T.R.rc (T.R.mkr T.h_init) (ok_R_init T) (hr.mono (by omega)) T.h_init.bs))) (q_and (q_e (d_eqRR (s := true) false rfl 7 4 T.R.rc (T.R.rq T.h_eq) (ok_R_eq T) (hr.mono (by omega)) T.h_eq.bs)) (q_one (q_cmp (opd_eq hr) (q_call 3 T.R.rc (ok_law_recorded T) (hr.mono (by omega)) T.d_law_recorded.mg T.d_law_recorded.fn.kp T.d_law_recorded.bs tk (a_c (d_int (s := true)) (a_c (d_non (s := true)) (a_n)))) (d_str (s := true))))))))))))))))))))
end
theorem law_mk {w : World} {K : PySem.W.Frag} {h : Heap} {fa : Addr} {mg : Str → Option Value} {f1 f2 f3 f4 f5 f6 f7 f8 f9 f10 f11 f12 f13 f14 f15 f16 : Addr} (X : K.In h) (G : h.Ns mainGlobals mg) (hfa : mg "law" = some (.ref fa))
    {od1 an1 od2 an2 od3 an3 od4 an4 od5 an5 od6 an6 od7 an7 od8 an8 od9 an9 od10 an10 od11 an11 od12 an12 od13 an13 od14 an14 od15 an15 od16 an16 : Option Addr} {sl1 sl2 sl3 sl4 sl5 sl6 sl7 sl8 sl9 sl10 sl11 sl12 sl13 sl14 sl15 sl16 : Array (Option Value)} {oc1 kV1 dc1 pm1 cd1 ct1 oc2 kV2 dc2 pm2 cd2 ct2 oc3 kV3 dc3 pm3 cd3 ct3 oc4 kV4 dc4 pm4 cd4 ct4 oc5 kV5 dc5 pm5 cd5 ct5 oc6 kV6 dc6 pm6 cd6 ct6 oc7 kV7 dc7 pm7 cd7 ct7 oc8 kV8 dc8 pm8 cd8 ct8 oc9 kV9 dc9 pm9 cd9 ct9 oc10 kV10 dc10 pm10 cd10 ct10 oc11 kV11 dc11 pm11 cd11 ct11 oc12 kV12 dc12 pm12 cd12 ct12 oc13 kV13 dc13 pm13 cd13 ct13 oc14 kV14 dc14 pm14 cd14 ct14 oc15 kV15 dc15 pm15 cd15 ct15 oc16 kV16 dc16 pm16 cd16 ct16 : Value}
    (a1 : PySem.W.nsIn K mainGlobals "in_range" = some (some (.ref f1))) (l1 : K.lookup f1 = some ⟨oc1, od1, .func (PySem.W.fnOf "in_range" "in_range" (defArgs s_in_range) (defBody s_in_range) (defScope s_in_range) .none kV1 dc1 pm1 an1 cd1 ct1), sl1⟩) (c1 : PySem.W.codeIn K cd1 "in_range" = true) (k1 : PySem.W.keepIn K (.ref f1) = true)
    (a2 : PySem.W.nsIn K mainGlobals "is_operation" = some (some (.ref f2))) (l2 : K.lookup f2 = some ⟨oc2, od2, .func (PySem.W.fnOf "is_operation" "is_operation" (defArgs s_is_operation) (defBody s_is_operation) (defScope s_is_operation) .none kV2 dc2 pm2 an2 cd2 ct2), sl2⟩) (c2 : PySem.W.codeIn K cd2 "is_operation" = true) (k2 : PySem.W.keepIn K (.ref f2) = true)
    (a3 : PySem.W.nsIn K mainGlobals "is_story" = some (some (.ref f3))) (l3 : K.lookup f3 = some ⟨oc3, od3, .func (PySem.W.fnOf "is_story" "is_story" (defArgs s_is_story) (defBody s_is_story) (defScope s_is_story) .none kV3 dc3 pm3 an3 cd3 ct3), sl3⟩) (c3 : PySem.W.codeIn K cd3 "is_story" = true) (k3 : PySem.W.keepIn K (.ref f3) = true)
    (a4 : PySem.W.nsIn K mainGlobals "check_story" = some (some (.ref f4))) (l4 : K.lookup f4 = some ⟨oc4, od4, .func (PySem.W.fnOf "check_story" "check_story" (defArgs s_check_story) (defBody s_check_story) (defScope s_check_story) .none kV4 dc4 pm4 an4 cd4 ct4), sl4⟩) (c4 : PySem.W.codeIn K cd4 "check_story" = true) (k4 : PySem.W.keepIn K (.ref f4) = true)
    (a5 : PySem.W.nsIn K mainGlobals "precedes" = some (some (.ref f5))) (l5 : K.lookup f5 = some ⟨oc5, od5, .func (PySem.W.fnOf "precedes" "precedes" (defArgs s_precedes) (defBody s_precedes) (defScope s_precedes) .none kV5 dc5 pm5 an5 cd5 ct5), sl5⟩) (c5 : PySem.W.codeIn K cd5 "precedes" = true) (k5 : PySem.W.keepIn K (.ref f5) = true)
    (a6 : PySem.W.nsIn K mainGlobals "may_follow" = some (some (.ref f6))) (l6 : K.lookup f6 = some ⟨oc6, od6, .func (PySem.W.fnOf "may_follow" "may_follow" (defArgs s_may_follow) (defBody s_may_follow) (defScope s_may_follow) .none kV6 dc6 pm6 an6 cd6 ct6), sl6⟩) (c6 : PySem.W.codeIn K cd6 "may_follow" = true) (k6 : PySem.W.keepIn K (.ref f6) = true)
    (a7 : PySem.W.nsIn K mainGlobals "extend" = some (some (.ref f7))) (l7 : K.lookup f7 = some ⟨oc7, od7, .func (PySem.W.fnOf "extend" "extend" (defArgs s_extend) (defBody s_extend) (defScope s_extend) .none kV7 dc7 pm7 an7 cd7 ct7), sl7⟩) (c7 : PySem.W.codeIn K cd7 "extend" = true) (k7 : PySem.W.keepIn K (.ref f7) = true)
    (a8 : PySem.W.nsIn K mainGlobals "explanations_of" = some (some (.ref f8))) (l8 : K.lookup f8 = some ⟨oc8, od8, .func (PySem.W.fnOf "explanations_of" "explanations_of" (defArgs s_explanations_of) (defBody s_explanations_of) (defScope s_explanations_of) .none kV8 dc8 pm8 an8 cd8 ct8), sl8⟩) (c8 : PySem.W.codeIn K cd8 "explanations_of" = true) (k8 : PySem.W.keepIn K (.ref f8) = true)
    (a9 : PySem.W.nsIn K mainGlobals "with_operation" = some (some (.ref f9))) (l9 : K.lookup f9 = some ⟨oc9, od9, .func (PySem.W.fnOf "with_operation" "with_operation" (defArgs s_with_operation) (defBody s_with_operation) (defScope s_with_operation) .none kV9 dc9 pm9 an9 cd9 ct9), sl9⟩) (c9 : PySem.W.codeIn K cd9 "with_operation" = true) (k9 : PySem.W.keepIn K (.ref f9) = true)
    (a10 : PySem.W.nsIn K mainGlobals "text_of" = some (some (.ref f10))) (l10 : K.lookup f10 = some ⟨oc10, od10, .func (PySem.W.fnOf "text_of" "text_of" (defArgs s_text_of) (defBody s_text_of) (defScope s_text_of) .none kV10 dc10 pm10 an10 cd10 ct10), sl10⟩) (c10 : PySem.W.codeIn K cd10 "text_of" = true) (k10 : PySem.W.keepIn K (.ref f10) = true)
    (a11 : PySem.W.nsIn K mainGlobals "can_explain" = some (some (.ref f11))) (l11 : K.lookup f11 = some ⟨oc11, od11, .func (PySem.W.fnOf "can_explain" "can_explain" (defArgs s_can_explain) (defBody s_can_explain) (defScope s_can_explain) .none kV11 dc11 pm11 an11 cd11 ct11), sl11⟩) (c11 : PySem.W.codeIn K cd11 "can_explain" = true) (k11 : PySem.W.keepIn K (.ref f11) = true)
    (a12 : PySem.W.nsIn K mainGlobals "_law_cell" = some (some (.ref f12))) (l12 : K.lookup f12 = some ⟨oc12, od12, .func (PySem.W.fnOf "_law_cell" "_law_cell" (defArgs s_law_cell) (defBody s_law_cell) (defScope s_law_cell) .none kV12 dc12 pm12 an12 cd12 ct12), sl12⟩) (c12 : PySem.W.codeIn K cd12 "_law_cell" = true) (k12 : PySem.W.keepIn K (.ref f12) = true)
    (a13 : PySem.W.nsIn K mainGlobals "_law_row" = some (some (.ref f13))) (l13 : K.lookup f13 = some ⟨oc13, od13, .func (PySem.W.fnOf "_law_row" "_law_row" (defArgs s_law_row) (defBody s_law_row) (defScope s_law_row) .none kV13 dc13 pm13 an13 cd13 ct13), sl13⟩) (c13 : PySem.W.codeIn K cd13 "_law_row" = true) (k13 : PySem.W.keepIn K (.ref f13) = true)
    (a14 : PySem.W.nsIn K mainGlobals "_law_story" = some (some (.ref f14))) (l14 : K.lookup f14 = some ⟨oc14, od14, .func (PySem.W.fnOf "_law_story" "_law_story" (defArgs s_law_story) (defBody s_law_story) (defScope s_law_story) .none kV14 dc14 pm14 an14 cd14 ct14), sl14⟩) (c14 : PySem.W.codeIn K cd14 "_law_story" = true) (k14 : PySem.W.keepIn K (.ref f14) = true)
    (a15 : PySem.W.nsIn K mainGlobals "_law_recorded" = some (some (.ref f15))) (l15 : K.lookup f15 = some ⟨oc15, od15, .func (PySem.W.fnOf "_law_recorded" "_law_recorded" (defArgs s_law_recorded) (defBody s_law_recorded) (defScope s_law_recorded) .none kV15 dc15 pm15 an15 cd15 ct15), sl15⟩) (c15 : PySem.W.codeIn K cd15 "_law_recorded" = true) (k15 : PySem.W.keepIn K (.ref f15) = true)
    (a16 : PySem.W.nsIn K mainGlobals "law" = some (some (.ref f16))) (l16 : K.lookup f16 = some ⟨oc16, od16, .func (PySem.W.fnOf "law" "law" (defArgs s_law) (defBody s_law) (defScope s_law) .none kV16 dc16 pm16 an16 cd16 ct16), sl16⟩) (c16 : PySem.W.codeIn K cd16 "law" = true) (k16 : PySem.W.keepIn K (.ref f16) = true) (z0 : PySem.W.nsIn K mainGlobals "isinstance" = some none) (z1 : PySem.W.nsIn K mainGlobals "int" = some none) (z2 : PySem.W.nsIn K mainGlobals "bool" = some none) (z3 : PySem.W.nsIn K mainGlobals "tuple" = some none) (z4 : PySem.W.nsIn K mainGlobals "len" = some none) (z5 : PySem.W.nsIn K mainGlobals "str" = some none) (z6 : PySem.W.nsIn K mainGlobals "zip" = some none) (z7 : PySem.W.nsIn K mainGlobals "set" = some none) (z8 : PySem.W.nsIn K mainGlobals "enumerate" = some none) (z9 : PySem.W.nsIn K mainGlobals "range" = some none) (z10 : PySem.W.nsIn K mainGlobals "sorted" = some none) (z11 : PySem.W.nsIn K mainGlobals "list" = some none)
    {t0 : Tok} (q0 : PySem.W.nsIn K mainGlobals "MAX_OPERATIONS" = some (some (.int 6 t0)))
    {t1 : Tok} (q1 : PySem.W.nsIn K mainGlobals "MAX_VALUE" = some (some (.int 9 t1)))
    {t2 : Tok} (q2 : PySem.W.nsIn K mainGlobals "MAX_TIME" = some (some (.int 99 t2)))
    {ta3 : Addr} {tn3 : Nat} {to3 : Option Addr} {tsl3 : Array (Option Value)} {u3_0 u3_1 : Tok} (q3 : PySem.W.nsIn K mainGlobals "KINDS" = some (some (.ref ta3))) (r3 : K.lookup ta3 = some ⟨.type "tuple", to3, .seq #[.str "write" u3_0, .str "read" u3_1] tn3, tsl3⟩)
    {c_InvalidStory : Addr} (n_InvalidStory : PySem.W.nsIn K mainGlobals "InvalidStory" = some (some (.ref c_InvalidStory)))
    {c_InvalidOperation : Addr} (n_InvalidOperation : PySem.W.nsIn K mainGlobals "InvalidOperation" = some (some (.ref c_InvalidOperation)))
    {c_NothingToUndo : Addr} (n_NothingToUndo : PySem.W.nsIn K mainGlobals "NothingToUndo" = some (some (.ref c_NothingToUndo)))
    {c_StoryError : Addr} (n_StoryError : PySem.W.nsIn K mainGlobals "StoryError" = some (some (.ref c_StoryError)))
    (x1_InvalidStory : PySem.W.excIn K c_InvalidStory [.type "ValueError", .type "Exception", .type "BaseException", .type "object"] "ValueError.__new__" = true) (x2_InvalidStory : PySem.W.keepIn K (.ref c_InvalidStory) = true) (x3_InvalidStory : PySem.W.subIn K (.ref c_InvalidStory) (.type "BaseException") = some true) (x4_InvalidStory : PySem.W.typeIn K (.ref c_InvalidStory) = some (.type "type"))
    (x1_InvalidOperation : PySem.W.excIn K c_InvalidOperation [.type "ValueError", .type "Exception", .type "BaseException", .type "object"] "ValueError.__new__" = true) (x2_InvalidOperation : PySem.W.keepIn K (.ref c_InvalidOperation) = true) (x3_InvalidOperation : PySem.W.subIn K (.ref c_InvalidOperation) (.type "BaseException") = some true) (x4_InvalidOperation : PySem.W.typeIn K (.ref c_InvalidOperation) = some (.type "type"))
    (x1_NothingToUndo : PySem.W.excIn K c_NothingToUndo [.type "ValueError", .type "Exception", .type "BaseException", .type "object"] "ValueError.__new__" = true) (x2_NothingToUndo : PySem.W.keepIn K (.ref c_NothingToUndo) = true) (x3_NothingToUndo : PySem.W.subIn K (.ref c_NothingToUndo) (.type "BaseException") = some true) (x4_NothingToUndo : PySem.W.typeIn K (.ref c_NothingToUndo) = some (.type "type"))
    (e1_InvalidStory : PySem.W.findIn K (.ref c_InvalidStory) "__getattribute__" = some (some (.builtin "BaseException.__getattribute__"))) (e2_InvalidStory : PySem.W.findIn K (.ref c_InvalidStory) "__getattr__" = some none) (e3_InvalidStory : PySem.W.subIn K (.ref c_InvalidStory) (.type "BaseException") = some true) (e4_InvalidStory : PySem.W.hasDictIn K c_InvalidStory = true) (e5_InvalidStory : PySem.W.findIn K (.ref c_InvalidStory) "__class__" = some (some (.builtin "object.__class__"))) (e6_InvalidStory : PySem.W.mroIn K c_InvalidStory (.type "object") = some true)
    (e1_InvalidOperation : PySem.W.findIn K (.ref c_InvalidOperation) "__getattribute__" = some (some (.builtin "BaseException.__getattribute__"))) (e2_InvalidOperation : PySem.W.findIn K (.ref c_InvalidOperation) "__getattr__" = some none) (e3_InvalidOperation : PySem.W.subIn K (.ref c_InvalidOperation) (.type "BaseException") = some true) (e4_InvalidOperation : PySem.W.hasDictIn K c_InvalidOperation = true) (e5_InvalidOperation : PySem.W.findIn K (.ref c_InvalidOperation) "__class__" = some (some (.builtin "object.__class__"))) (e6_InvalidOperation : PySem.W.mroIn K c_InvalidOperation (.type "object") = some true)
    (e1_NothingToUndo : PySem.W.findIn K (.ref c_NothingToUndo) "__getattribute__" = some (some (.builtin "BaseException.__getattribute__"))) (e2_NothingToUndo : PySem.W.findIn K (.ref c_NothingToUndo) "__getattr__" = some none) (e3_NothingToUndo : PySem.W.subIn K (.ref c_NothingToUndo) (.type "BaseException") = some true) (e4_NothingToUndo : PySem.W.hasDictIn K c_NothingToUndo = true) (e5_NothingToUndo : PySem.W.findIn K (.ref c_NothingToUndo) "__class__" = some (some (.builtin "object.__class__"))) (e6_NothingToUndo : PySem.W.mroIn K c_NothingToUndo (.type "object") = some true)
    (w1 : PySem.W.specialIn K (.builtin "object.__class__") "__get__" = some (some (.builtin "getset_descriptor.__get__"))) (w2 : PySem.W.takesIn K (.builtin "object.__class__") = some true) (k_InvalidStory_StoryError : PySem.W.kitOne K (.ref c_InvalidStory) (.ref c_StoryError) = some true) (m_InvalidStory_StoryError : PySem.W.exmOne K (.ref c_InvalidStory) (.ref c_StoryError) = some true) (k_InvalidOperation_StoryError : PySem.W.kitOne K (.ref c_InvalidOperation) (.ref c_StoryError) = some true) (m_InvalidOperation_StoryError : PySem.W.exmOne K (.ref c_InvalidOperation) (.ref c_StoryError) = some true) (k_NothingToUndo_StoryError : PySem.W.kitOne K (.ref c_NothingToUndo) (.ref c_StoryError) = some true) (m_NothingToUndo_StoryError : PySem.W.exmOne K (.ref c_NothingToUndo) (.ref c_StoryError) = some true) (k_InvalidStory_InvalidStory : PySem.W.kitOne K (.ref c_InvalidStory) (.ref c_InvalidStory) = some true) (m_InvalidStory_InvalidStory : PySem.W.exmOne K (.ref c_InvalidStory) (.ref c_InvalidStory) = some true) (k_InvalidOperation_InvalidStory : PySem.W.kitOne K (.ref c_InvalidOperation) (.ref c_InvalidStory) = some false) (m_InvalidOperation_InvalidStory : PySem.W.exmOne K (.ref c_InvalidOperation) (.ref c_InvalidStory) = some false) (k_NothingToUndo_InvalidStory : PySem.W.kitOne K (.ref c_NothingToUndo) (.ref c_InvalidStory) = some false) (m_NothingToUndo_InvalidStory : PySem.W.exmOne K (.ref c_NothingToUndo) (.ref c_InvalidStory) = some false) (k_InvalidStory_InvalidOperation : PySem.W.kitOne K (.ref c_InvalidStory) (.ref c_InvalidOperation) = some false) (m_InvalidStory_InvalidOperation : PySem.W.exmOne K (.ref c_InvalidStory) (.ref c_InvalidOperation) = some false) (k_InvalidOperation_InvalidOperation : PySem.W.kitOne K (.ref c_InvalidOperation) (.ref c_InvalidOperation) = some true) (m_InvalidOperation_InvalidOperation : PySem.W.exmOne K (.ref c_InvalidOperation) (.ref c_InvalidOperation) = some true) (k_NothingToUndo_InvalidOperation : PySem.W.kitOne K (.ref c_NothingToUndo) (.ref c_InvalidOperation) = some false) (m_NothingToUndo_InvalidOperation : PySem.W.exmOne K (.ref c_NothingToUndo) (.ref c_InvalidOperation) = some false) (k_InvalidStory_NothingToUndo : PySem.W.kitOne K (.ref c_InvalidStory) (.ref c_NothingToUndo) = some false) (m_InvalidStory_NothingToUndo : PySem.W.exmOne K (.ref c_InvalidStory) (.ref c_NothingToUndo) = some false) (k_InvalidOperation_NothingToUndo : PySem.W.kitOne K (.ref c_InvalidOperation) (.ref c_NothingToUndo) = some false) (m_InvalidOperation_NothingToUndo : PySem.W.exmOne K (.ref c_InvalidOperation) (.ref c_NothingToUndo) = some false) (k_NothingToUndo_NothingToUndo : PySem.W.kitOne K (.ref c_NothingToUndo) (.ref c_NothingToUndo) = some true) (m_NothingToUndo_NothingToUndo : PySem.W.exmOne K (.ref c_NothingToUndo) (.ref c_NothingToUndo) = some true)
    {c_Recorder : Addr} (n_Recorder : PySem.W.nsIn K mainGlobals "Recorder" = some (some (.ref c_Recorder)))
    (r_pg : PySem.W.plainGet K c_Recorder Str.empty = true)
    (r_hd : PySem.W.hasDictIn K c_Recorder = true)
    (r_po : PySem.W.plainOver K c_Recorder = true)
    (r_sa : PySem.W.findIn K (.ref c_Recorder) "__setattr__" = some (some (.builtin "object.__setattr__")))
    (r_st : PySem.W.findIn K (.ref c_Recorder) "steps" = some none)
    (r_kp : PySem.W.findIn K (.ref c_Recorder) "kept" = some none)
    (r_mk : PySem.W.makesIn K c_Recorder = true)
    (r_kc : PySem.W.keepIn K (.ref c_Recorder) = true)
    (r_ne : PySem.W.findIn K (.ref c_Recorder) "__ne__" = some (some (.builtin "object.__ne__")))
    (r_mro : PySem.W.mroIn K c_Recorder (.type "object") = some true)
    (r_ca : PySem.W.findIn K (.ref c_Recorder) "__class__" = some (some (.builtin "object.__class__")))
    (r_cn : PySem.W.specialIn K (.builtin "object.__class__") "__get__" = some (some (.builtin "getset_descriptor.__get__")))
    (r_ct : PySem.W.takesIn K (.builtin "object.__class__") = some true)
    (k_Rr : PySem.W.kitOne K (.ref c_Recorder) (.ref c_Recorder) = some true)
    (k_Rt : PySem.W.kitOne K (.type "tuple") (.ref c_Recorder) = some false)
    (k_Rs : PySem.W.kitOne K (.type "str") (.ref c_Recorder) = some false)
    {f_init : Addr} {od_init an_init : Option Addr} {sl_init : Array (Option Value)} {oc_init kV_init dc_init pm_init cd_init ct_init : Value} (ra_init : PySem.W.findIn K (.ref c_Recorder) "__init__" = some (some (.ref f_init))) (ri_init : PySem.W.isFn K (.ref f_init) = true) (rl_init : K.lookup f_init = some ⟨oc_init, od_init, .func (PySem.W.fnOf "__init__" "Recorder.__init__" (defArgs s_R_init) (defBody s_R_init) (defScope s_R_init) .none kV_init dc_init pm_init an_init cd_init ct_init), sl_init⟩) (rc_init : PySem.W.codeIn K cd_init "Recorder.__init__" = true) (rk_init : PySem.W.keepIn K (.ref f_init) = true)
    {f_len : Addr} {od_len an_len : Option Addr} {sl_len : Array (Option Value)} {oc_len kV_len dc_len pm_len cd_len ct_len : Value} (ra_len : PySem.W.findIn K (.ref c_Recorder) "__len__" = some (some (.ref f_len))) (ri_len : PySem.W.isFn K (.ref f_len) = true) (rl_len : K.lookup f_len = some ⟨oc_len, od_len, .func (PySem.W.fnOf "__len__" "Recorder.__len__" (defArgs s_R_len) (defBody s_R_len) (defScope s_R_len) .none kV_len dc_len pm_len an_len cd_len ct_len), sl_len⟩) (rc_len : PySem.W.codeIn K cd_len "Recorder.__len__" = true) (rk_len : PySem.W.keepIn K (.ref f_len) = true)
    {f_str : Addr} {od_str an_str : Option Addr} {sl_str : Array (Option Value)} {oc_str kV_str dc_str pm_str cd_str ct_str : Value} (ra_str : PySem.W.findIn K (.ref c_Recorder) "__str__" = some (some (.ref f_str))) (ri_str : PySem.W.isFn K (.ref f_str) = true) (rl_str : K.lookup f_str = some ⟨oc_str, od_str, .func (PySem.W.fnOf "__str__" "Recorder.__str__" (defArgs s_R_str) (defBody s_R_str) (defScope s_R_str) .none kV_str dc_str pm_str an_str cd_str ct_str), sl_str⟩) (rc_str : PySem.W.codeIn K cd_str "Recorder.__str__" = true) (rk_str : PySem.W.keepIn K (.ref f_str) = true)
    {f_eq : Addr} {od_eq an_eq : Option Addr} {sl_eq : Array (Option Value)} {oc_eq kV_eq dc_eq pm_eq cd_eq ct_eq : Value} (ra_eq : PySem.W.findIn K (.ref c_Recorder) "__eq__" = some (some (.ref f_eq))) (ri_eq : PySem.W.isFn K (.ref f_eq) = true) (rl_eq : K.lookup f_eq = some ⟨oc_eq, od_eq, .func (PySem.W.fnOf "__eq__" "Recorder.__eq__" (defArgs s_R_eq) (defBody s_R_eq) (defScope s_R_eq) .none kV_eq dc_eq pm_eq an_eq cd_eq ct_eq), sl_eq⟩) (rc_eq : PySem.W.codeIn K cd_eq "Recorder.__eq__" = true) (rk_eq : PySem.W.keepIn K (.ref f_eq) = true)
    {f_story : Addr} {od_story an_story : Option Addr} {sl_story : Array (Option Value)} {oc_story kV_story dc_story pm_story cd_story ct_story : Value} (ra_story : PySem.W.findIn K (.ref c_Recorder) "story" = some (some (.ref f_story))) (ri_story : PySem.W.isFn K (.ref f_story) = true) (rl_story : K.lookup f_story = some ⟨oc_story, od_story, .func (PySem.W.fnOf "story" "Recorder.story" (defArgs s_R_story) (defBody s_R_story) (defScope s_R_story) .none kV_story dc_story pm_story an_story cd_story ct_story), sl_story⟩) (rc_story : PySem.W.codeIn K cd_story "Recorder.story" = true) (rk_story : PySem.W.keepIn K (.ref f_story) = true)
    {f_record : Addr} {od_record an_record : Option Addr} {sl_record : Array (Option Value)} {oc_record kV_record dc_record pm_record cd_record ct_record : Value} (ra_record : PySem.W.findIn K (.ref c_Recorder) "record" = some (some (.ref f_record))) (ri_record : PySem.W.isFn K (.ref f_record) = true) (rl_record : K.lookup f_record = some ⟨oc_record, od_record, .func (PySem.W.fnOf "record" "Recorder.record" (defArgs s_R_record) (defBody s_R_record) (defScope s_R_record) .none kV_record dc_record pm_record an_record cd_record ct_record), sl_record⟩) (rc_record : PySem.W.codeIn K cd_record "Recorder.record" = true) (rk_record : PySem.W.keepIn K (.ref f_record) = true)
    {f_undo : Addr} {od_undo an_undo : Option Addr} {sl_undo : Array (Option Value)} {oc_undo kV_undo dc_undo pm_undo cd_undo ct_undo : Value} (ra_undo : PySem.W.findIn K (.ref c_Recorder) "undo" = some (some (.ref f_undo))) (ri_undo : PySem.W.isFn K (.ref f_undo) = true) (rl_undo : K.lookup f_undo = some ⟨oc_undo, od_undo, .func (PySem.W.fnOf "undo" "Recorder.undo" (defArgs s_R_undo) (defBody s_R_undo) (defScope s_R_undo) .none kV_undo dc_undo pm_undo an_undo cd_undo ct_undo), sl_undo⟩) (rc_undo : PySem.W.codeIn K cd_undo "Recorder.undo" = true) (rk_undo : PySem.W.keepIn K (.ref f_undo) = true)
    {f_duplicate : Addr} {od_duplicate an_duplicate : Option Addr} {sl_duplicate : Array (Option Value)} {oc_duplicate kV_duplicate dc_duplicate pm_duplicate cd_duplicate ct_duplicate : Value} (ra_duplicate : PySem.W.findIn K (.ref c_Recorder) "duplicate" = some (some (.ref f_duplicate))) (ri_duplicate : PySem.W.isFn K (.ref f_duplicate) = true) (rl_duplicate : K.lookup f_duplicate = some ⟨oc_duplicate, od_duplicate, .func (PySem.W.fnOf "duplicate" "Recorder.duplicate" (defArgs s_R_duplicate) (defBody s_R_duplicate) (defScope s_R_duplicate) .none kV_duplicate dc_duplicate pm_duplicate an_duplicate cd_duplicate ct_duplicate), sl_duplicate⟩) (rc_duplicate : PySem.W.codeIn K cd_duplicate "Recorder.duplicate" = true) (rk_duplicate : PySem.W.keepIn K (.ref f_duplicate) = true) :
    ∃ fd : FuncData, (∀ (s : Shared) (v : Value), BindsTo s fd ⟨[v], []⟩ [("script", v)]) ∧ ∀ base : Heap, K.In base → base.Ns mainGlobals mg → FnOk PySem.Challenge.pw_cellstories_k12_whole_two_recorders w K mg base (L2.CX PySem.Challenge.pw_cellstories_k12_whole_two_recorders w) 24 fa fd ["script"] (spL K F_law) := by
  have e := hfa.symm.trans (PySem.W.mg_of X G a16)
  have e1 : fa = f16 := by cases e; rfl
  subst e1
  refine ⟨PySem.W.fnOf "law" "law" (defArgs s_law) (defBody s_law) (defScope s_law) .none kV16 dc16 pm16 an16 cd16 ct16, fun s v => .of_eq rfl, fun base _ _ => ?_⟩
  have T : { T : All K mg // T.d_law.f = fa ∧ T.d_law.fd = PySem.W.fnOf "law" "law" (defArgs s_law) (defBody s_law) (defScope s_law) .none kV16 dc16 pm16 an16 cd16 ct16 } := ⟨⟨PySem.W.mg_none_of X G z0,
    PySem.W.mg_none_of X G z1,
    PySem.W.mg_none_of X G z2,
    PySem.W.mg_none_of X G z3,
    PySem.W.mg_none_of X G z4,
    PySem.W.mg_none_of X G z5,
    PySem.W.mg_none_of X G z6,
    PySem.W.mg_none_of X G z7,
    PySem.W.mg_none_of X G z8,
    PySem.W.mg_none_of X G z9,
    PySem.W.mg_none_of X G z10,
    PySem.W.mg_none_of X G z11,
    glD_int (PySem.W.mg_of X G q0),
    glD_int (PySem.W.mg_of X G q1),
    glD_int (PySem.W.mg_of X G q2),
    glD_strs (y := "write") (ys := ["read"]) (PySem.W.mg_of X G q3) r3 (by decide) (.cons ⟨_, rfl⟩ (.cons ⟨_, rfl⟩ .nil)),
    ⟨_, _, fun_mk (st := s_in_range) l1 c1 k1, (fun_mk (st := s_in_range) l1 c1 k1).binds (ps := ["value", "low", "high"]) fun _ _ _ _ _ _ us hl => match us, hl with | [_, _, _], _ => rfl, PySem.W.mg_of X G a1⟩,
    ⟨_, _, fun_mk (st := s_is_operation) l2 c2 k2, (fun_mk (st := s_is_operation) l2 c2 k2).binds (ps := ["value"]) fun _ _ _ _ _ _ us hl => match us, hl with | [_], _ => rfl, PySem.W.mg_of X G a2⟩,
    ⟨_, _, fun_mk (st := s_is_story) l3 c3 k3, (fun_mk (st := s_is_story) l3 c3 k3).binds (ps := ["value"]) fun _ _ _ _ _ _ us hl => match us, hl with | [_], _ => rfl, PySem.W.mg_of X G a3⟩,
    ⟨_, _, fun_mk (st := s_check_story) l4 c4 k4, (fun_mk (st := s_check_story) l4 c4 k4).binds (ps := ["story"]) fun _ _ _ _ _ _ us hl => match us, hl with | [_], _ => rfl, PySem.W.mg_of X G a4⟩,
    ⟨_, _, fun_mk (st := s_precedes) l5 c5 k5, (fun_mk (st := s_precedes) l5 c5 k5).binds (ps := ["one", "other"]) fun _ _ _ _ _ _ us hl => match us, hl with | [_, _], _ => rfl, PySem.W.mg_of X G a5⟩,
    ⟨_, _, fun_mk (st := s_may_follow) l6 c6 k6, (fun_mk (st := s_may_follow) l6 c6 k6).binds (ps := ["story", "order", "number"]) fun _ _ _ _ _ _ us hl => match us, hl with | [_, _, _], _ => rfl, PySem.W.mg_of X G a6⟩,
    ⟨_, _, fun_mk (st := s_extend) l7 c7 k7, (fun_mk (st := s_extend) l7 c7 k7).binds (ps := ["story", "order", "found", "most"]) fun _ _ _ _ _ _ us hl => match us, hl with | [_, _, _, _], _ => rfl, PySem.W.mg_of X G a7⟩,
    ⟨_, _, fun_mk (st := s_explanations_of) l8 c8 k8, (fun_mk (st := s_explanations_of) l8 c8 k8).binds (ps := ["story", "most"]) fun _ _ _ _ _ _ us hl => match us, hl with | [_, _], _ => rfl, PySem.W.mg_of X G a8⟩,
    ⟨_, _, fun_mk (st := s_with_operation) l9 c9 k9, (fun_mk (st := s_with_operation) l9 c9 k9).binds (ps := ["story", "operation"]) fun _ _ _ _ _ _ us hl => match us, hl with | [_, _], _ => rfl, PySem.W.mg_of X G a9⟩,
    ⟨_, _, fun_mk (st := s_text_of) l10 c10 k10, (fun_mk (st := s_text_of) l10 c10 k10).binds (ps := ["story"]) fun _ _ _ _ _ _ us hl => match us, hl with | [_], _ => rfl, PySem.W.mg_of X G a10⟩,
    ⟨_, _, fun_mk (st := s_can_explain) l11 c11 k11, (fun_mk (st := s_can_explain) l11 c11 k11).binds (ps := ["story"]) fun _ _ _ _ _ _ us hl => match us, hl with | [_], _ => rfl, PySem.W.mg_of X G a11⟩,
    ⟨_, _, fun_mk (st := s_law_cell) l12 c12 k12, (fun_mk (st := s_law_cell) l12 c12 k12).binds (ps := ["script", "k"]) fun _ _ _ _ _ _ us hl => match us, hl with | [_, _], _ => rfl, PySem.W.mg_of X G a12⟩,
    ⟨_, _, fun_mk (st := s_law_row) l13 c13 k13, (fun_mk (st := s_law_row) l13 c13 k13).binds (ps := ["script", "at"]) fun _ _ _ _ _ _ us hl => match us, hl with | [_, _], _ => rfl, PySem.W.mg_of X G a13⟩,
    ⟨_, _, fun_mk (st := s_law_story) l14 c14 k14, (fun_mk (st := s_law_story) l14 c14 k14).binds (ps := ["script", "at", "most"]) fun _ _ _ _ _ _ us hl => match us, hl with | [_, _, _], _ => rfl, PySem.W.mg_of X G a14⟩,
    ⟨_, _, fun_mk (st := s_law_recorded) l15 c15 k15, (fun_mk (st := s_law_recorded) l15 c15 k15).binds (ps := ["work", "mode", "operation"]) fun _ _ _ _ _ _ us hl => match us, hl with | [_, _, _], _ => rfl, PySem.W.mg_of X G a15⟩,
    ⟨_, _, fun_mk (st := s_law) l16 c16 k16, (fun_mk (st := s_law) l16 c16 k16).binds (ps := ["script"]) fun _ _ _ _ _ _ us hl => match us, hl with | [_], _ => rfl, PySem.W.mg_of X G a16⟩,
    ⟨c_InvalidStory, PySem.W.mg_of X G n_InvalidStory, x1_InvalidStory, x2_InvalidStory, x3_InvalidStory, x4_InvalidStory⟩,
    ⟨c_InvalidOperation, PySem.W.mg_of X G n_InvalidOperation, x1_InvalidOperation, x2_InvalidOperation, x3_InvalidOperation, x4_InvalidOperation⟩,
    ⟨c_NothingToUndo, PySem.W.mg_of X G n_NothingToUndo, x1_NothingToUndo, x2_NothingToUndo, x3_NothingToUndo, x4_NothingToUndo⟩,
    yrow_own (PySem.W.mg_of X G n_StoryError) ⟨⟨c_InvalidStory, PySem.W.mg_of X G n_InvalidStory, ⟨e1_InvalidStory, e2_InvalidStory, e3_InvalidStory, e4_InvalidStory, e5_InvalidStory, w1, w2, e6_InvalidStory⟩, k_InvalidStory_StoryError, m_InvalidStory_StoryError⟩, ⟨⟨c_InvalidOperation, PySem.W.mg_of X G n_InvalidOperation, ⟨e1_InvalidOperation, e2_InvalidOperation, e3_InvalidOperation, e4_InvalidOperation, e5_InvalidOperation, w1, w2, e6_InvalidOperation⟩, k_InvalidOperation_StoryError, m_InvalidOperation_StoryError⟩, ⟨⟨c_NothingToUndo, PySem.W.mg_of X G n_NothingToUndo, ⟨e1_NothingToUndo, e2_NothingToUndo, e3_NothingToUndo, e4_NothingToUndo, e5_NothingToUndo, w1, w2, e6_NothingToUndo⟩, k_NothingToUndo_StoryError, m_NothingToUndo_StoryError⟩, trivial⟩⟩⟩,
    yrow_own (PySem.W.mg_of X G n_InvalidStory) ⟨⟨c_InvalidStory, PySem.W.mg_of X G n_InvalidStory, ⟨e1_InvalidStory, e2_InvalidStory, e3_InvalidStory, e4_InvalidStory, e5_InvalidStory, w1, w2, e6_InvalidStory⟩, k_InvalidStory_InvalidStory, m_InvalidStory_InvalidStory⟩, ⟨⟨c_InvalidOperation, PySem.W.mg_of X G n_InvalidOperation, ⟨e1_InvalidOperation, e2_InvalidOperation, e3_InvalidOperation, e4_InvalidOperation, e5_InvalidOperation, w1, w2, e6_InvalidOperation⟩, k_InvalidOperation_InvalidStory, m_InvalidOperation_InvalidStory⟩, ⟨⟨c_NothingToUndo, PySem.W.mg_of X G n_NothingToUndo, ⟨e1_NothingToUndo, e2_NothingToUndo, e3_NothingToUndo, e4_NothingToUndo, e5_NothingToUndo, w1, w2, e6_NothingToUndo⟩, k_NothingToUndo_InvalidStory, m_NothingToUndo_InvalidStory⟩, trivial⟩⟩⟩,
    yrow_own (PySem.W.mg_of X G n_InvalidOperation) ⟨⟨c_InvalidStory, PySem.W.mg_of X G n_InvalidStory, ⟨e1_InvalidStory, e2_InvalidStory, e3_InvalidStory, e4_InvalidStory, e5_InvalidStory, w1, w2, e6_InvalidStory⟩, k_InvalidStory_InvalidOperation, m_InvalidStory_InvalidOperation⟩, ⟨⟨c_InvalidOperation, PySem.W.mg_of X G n_InvalidOperation, ⟨e1_InvalidOperation, e2_InvalidOperation, e3_InvalidOperation, e4_InvalidOperation, e5_InvalidOperation, w1, w2, e6_InvalidOperation⟩, k_InvalidOperation_InvalidOperation, m_InvalidOperation_InvalidOperation⟩, ⟨⟨c_NothingToUndo, PySem.W.mg_of X G n_NothingToUndo, ⟨e1_NothingToUndo, e2_NothingToUndo, e3_NothingToUndo, e4_NothingToUndo, e5_NothingToUndo, w1, w2, e6_NothingToUndo⟩, k_NothingToUndo_InvalidOperation, m_NothingToUndo_InvalidOperation⟩, trivial⟩⟩⟩,
    yrow_own (PySem.W.mg_of X G n_NothingToUndo) ⟨⟨c_InvalidStory, PySem.W.mg_of X G n_InvalidStory, ⟨e1_InvalidStory, e2_InvalidStory, e3_InvalidStory, e4_InvalidStory, e5_InvalidStory, w1, w2, e6_InvalidStory⟩, k_InvalidStory_NothingToUndo, m_InvalidStory_NothingToUndo⟩, ⟨⟨c_InvalidOperation, PySem.W.mg_of X G n_InvalidOperation, ⟨e1_InvalidOperation, e2_InvalidOperation, e3_InvalidOperation, e4_InvalidOperation, e5_InvalidOperation, w1, w2, e6_InvalidOperation⟩, k_InvalidOperation_NothingToUndo, m_InvalidOperation_NothingToUndo⟩, ⟨⟨c_NothingToUndo, PySem.W.mg_of X G n_NothingToUndo, ⟨e1_NothingToUndo, e2_NothingToUndo, e3_NothingToUndo, e4_NothingToUndo, e5_NothingToUndo, w1, w2, e6_NothingToUndo⟩, k_NothingToUndo_NothingToUndo, m_NothingToUndo_NothingToUndo⟩, trivial⟩⟩⟩,
    ⟨c_Recorder, PySem.W.mg_of X G n_Recorder, ⟨r_pg, r_hd, r_po, r_sa⟩, r_st, r_kp, r_mk, r_kc, r_ne, r_mro, r_ca, r_cn, r_ct, k_Rr, k_Rt, k_Rs⟩,
    ⟨f_init, _, fun_mk (st := s_R_init) rl_init rc_init rk_init, (fun_mk (st := s_R_init) rl_init rc_init rk_init).binds (ps := ["self"]) fun _ _ _ _ _ _ us hl => match us, hl with | [_], _ => rfl, ra_init, ri_init⟩,
    ⟨f_len, _, fun_mk (st := s_R_len) rl_len rc_len rk_len, (fun_mk (st := s_R_len) rl_len rc_len rk_len).binds (ps := ["self"]) fun _ _ _ _ _ _ us hl => match us, hl with | [_], _ => rfl, ra_len, ri_len⟩,
    ⟨f_str, _, fun_mk (st := s_R_str) rl_str rc_str rk_str, (fun_mk (st := s_R_str) rl_str rc_str rk_str).binds (ps := ["self"]) fun _ _ _ _ _ _ us hl => match us, hl with | [_], _ => rfl, ra_str, ri_str⟩,
    ⟨f_eq, _, fun_mk (st := s_R_eq) rl_eq rc_eq rk_eq, (fun_mk (st := s_R_eq) rl_eq rc_eq rk_eq).binds (ps := ["self", "other"]) fun _ _ _ _ _ _ us hl => match us, hl with | [_, _], _ => rfl, ra_eq, ri_eq⟩,
    ⟨f_story, _, fun_mk (st := s_R_story) rl_story rc_story rk_story, (fun_mk (st := s_R_story) rl_story rc_story rk_story).binds (ps := ["self"]) fun _ _ _ _ _ _ us hl => match us, hl with | [_], _ => rfl, ra_story, ri_story⟩,
    ⟨f_record, _, fun_mk (st := s_R_record) rl_record rc_record rk_record, (fun_mk (st := s_R_record) rl_record rc_record rk_record).binds (ps := ["self", "operation"]) fun _ _ _ _ _ _ us hl => match us, hl with | [_, _], _ => rfl, ra_record, ri_record⟩,
    ⟨f_undo, _, fun_mk (st := s_R_undo) rl_undo rc_undo rk_undo, (fun_mk (st := s_R_undo) rl_undo rc_undo rk_undo).binds (ps := ["self"]) fun _ _ _ _ _ _ us hl => match us, hl with | [_], _ => rfl, ra_undo, ri_undo⟩,
    ⟨f_duplicate, _, fun_mk (st := s_R_duplicate) rl_duplicate rc_duplicate rk_duplicate, (fun_mk (st := s_R_duplicate) rl_duplicate rc_duplicate rk_duplicate).binds (ps := ["self"]) fun _ _ _ _ _ _ us hl => match us, hl with | [_], _ => rfl, ra_duplicate, ri_duplicate⟩⟩, rfl, rfl⟩
  obtain ⟨T, e1, e2⟩ := T
  have G := fnok_law (ok_law (P := PySem.Challenge.pw_cellstories_k12_whole_two_recorders) (w := w) (base := base) T)
  rw [e1, e2] at G
  exact G
end Wk12
namespace Mk12
open PySem L2 CP Wk12
theorem rec_eq : F_law_recorded = recU := rfl
theorem eqR {neg : Bool} {i j : Nat} {ρ : EV} {r1 r2 : List (List Op)} {k1 k2 : Int} {s1 s2 : List Op} (h1 : recE i ρ = some (rws r1, k1)) (h2 : recE j ρ = some (rws r2, k2)) (l1 : r1.getLast? = some s1) (l2 : r2.getLast? = some s2) :
    eEqR neg i j F_R_eq ρ = .ok (.bool (if neg then !decide (s1 = s2) else decide (s1 = s2))) := by
  unfold eEqR
  simp only [h1, h2, req_ok l1 l2]
  rfl
theorem lenR {i : Nat} {ρ : EV} {ss : List PyData} {k : Int} {n : Nat} (h : recE i ρ = some (ss, k)) (hn : ss.length = n + 1) (h2 : n ≤ 1000) : eLenR i F_R_len ρ = .ok (nd n) := by
  have e : ss.length - 1 = n := by omega
  unfold eLenR
  simp only [h, rlen_ok, e]
  rw [if_pos (by omega)]
theorem law_true (ns : List Int) (h1 : ns.length ≤ 63) (h2 : ∀ z ∈ ns, Builtin.Int.intBits z ≤ 1048576) : F_law [.list (ns.map .int)] = .ok (.bool true) := by
  obtain ⟨fs, hrow, hl, hf⟩ := law_row_ok ns 4
  obtain ⟨st, hst, hv, hl6, h35⟩ := law_story_ok ns 2 6 (by omega)
  obtain ⟨S, hS⟩ : ∃ S : PyData, S = .list (ns.map .int) := ⟨_, rfl⟩
  have hst' : F_law_story [S, .int 2, .int 6] = .ok (sd st) := by rw [hS]; exact hst
  have hrow' : F_law_row [S, .int 4] = .ok (.list (fs.map nd)) := by rw [hS]; exact hrow
  have h6 := hv.len
  rw [← hS]
  unfold F_law
  rw [runF_ev]
  obtain ⟨D, hD⟩ : ∃ D : PyData, D = .list (fs.map nd) := ⟨_, rfl⟩
  have hrow'' : F_law_row [S, .int 4] = .ok D := by rw [hD]; exact hrow'
  have nw : ∀ ρ : EV, sNew2 3 4 ρ = .next ((ρ.set 3 (some (.r [.tuple []] 0))).set 4 (some (.r [.tuple []] 0))) := fun _ => rfl
  have e0 : ∀ (a b c : Option SV) (r : EV), eEqR true 3 4 F_R_eq (a :: b :: c :: some (.r [.tuple []] 0) :: some (.r [.tuple []] 0) :: r) = .ok (.bool false) := fun a b c r => by
    rw [eqR (i := 3) (j := 4) (r1 := [[]]) (r2 := [[]]) (k1 := 0) (k2 := 0) (s1 := []) (s2 := []) rfl rfl rfl rfl]
    rfl
  have es : ∀ (a b c : Option SV) (r : EV), eStrR 3 F_R_str (a :: b :: c :: some (.r [.tuple []] 0) :: r) = .ok (.str "none") := fun a b c r => by
    have e : recE 3 (a :: b :: c :: some (.r [.tuple []] 0) :: r) = some (rws [[]], 0) := rfl
    have vn : Valid [] := hv.sub (List.nil_sublist _)
    unfold eStrR
    simp only [e, rstr_ok (rows := [[]]) (st := []) rfl vn]
    rfl
  have ed : ∀ (a b c : Option SV) (r : EV) (fe : FE) (d : PyData), fe (a :: b :: c :: some (.r [.tuple []] 0) :: r) = .ok d → isTS d = true → eEqD 3 fe F_R_eq (a :: b :: c :: some (.r [.tuple []] 0) :: r) = .ok (.bool false) := fun a b c r fe d hd ht => by
    have e : recE 3 (a :: b :: c :: some (.r [.tuple []] 0) :: r) = some ([.tuple []], 0) := rfl
    unfold eEqD
    simp only [e, hd, bind_ok']
    rw [if_pos ht, req_data ht]
    rfl
  have ed1 : ∀ (a b c : Option SV) (r : EV), eEqD 3 (eT (aN)) F_R_eq (a :: b :: c :: some (.r [.tuple []] 0) :: r) = .ok (.bool false) := fun a b c r => ed a b c r _ (.tuple []) rfl rfl
  have ed2 : ∀ (a b c : Option SV) (r : EV), eEqD 3 (eStrR 3 F_R_str) F_R_eq (a :: b :: c :: some (.r [.tuple []] 0) :: r) = .ok (.bool false) := fun a b c r => ed a b c r _ (.str "none") (es a b c r) rfl
  let pk : Op → Bool := fun o => o.w || decide (dr fs o.v.toNat % 2 = 0)
  have c1 : ∀ (s3 s4 : Option SV), C_law_1 [some (.d S), some (.d D), some (.d (sd st)), s3, s4, none, none, none, none] = .ok (.list ((st.filter pk).map Op.d)) := fun s3 s4 => by
    unfold C_law_1
    refine eLc_ok st Op.d pk Op.d (by simp only [List.map_cons, List.map_nil, List.length_cons, List.length_nil, List.cons_append, List.nil_append, List.replicate, Nat.sub_self, List.append_nil, sSeq_ev, sSet_ev, sExpr_ev, sRet_ev, sRetN_ev, sIf_ev, sFor_ev, sNil_ev, sOwn_ev, eCall_ev, aC_ev, aN_ok, eVs, eV0, eLs', eL0, eC_ev, bind_ok', bind_bad', bind_exc', callN_ev, if_true, if_false, outOf_ok, outOf_exc, outOf_bad, List.set_cons_succ, List.set_cons_zero, then_next, then_ret, then_exc, e1_ev, e2_ev, eT_ev, eLs_ev, mkL_nil, mkL_1, mkL_2, mkT_nil, mkT_1, mkT_2, mkT_3, mkT_4, tB_ev, tV_ev, tAnd_ev, tOr_ev, tNot_ev, tTrue_ev, eAnd_ev, eOr_ev, eNot_ev, eIf_ev, iSeq_ev, seqD_l, seqD_t, asB_bool, truthD_bool, truthD_lst, truthD_tup, runO_ret, runO_next, runO_exc, Bool.not_true, Bool.not_false, Bool.false_eq_true, Bool.true_and, Bool.false_and, Bool.and_true, Bool.and_false, Bool.not_not, tupleD_l, tupleD_t, listD_l, listD_t, lenD_lst, lenD_tup, List.length_map, em_map, eqD_int, neD_int, ltD_int, leD_int, gtD_int, geD_int, opAdd_int, opSub_int, negD_1, isiD_ev, gN_ev, gT_ev, setAll_c, setAll_n, wipeE_c, wipeE_n, isD_non, isNotD_non, eIdx_ev, ix_op0, ix_op1, ix_op2, ix_op3, eqD_kdw, eqD_kdr, List.getElem?_cons_succ, List.getElem?_cons_zero, decide_true, decide_false]) fun o ho => ⟨_, rfl, ?_, fun _ => by simp only [List.map_cons, List.map_nil, List.length_cons, List.length_nil, List.cons_append, List.nil_append, List.replicate, Nat.sub_self, List.append_nil, sSeq_ev, sSet_ev, sExpr_ev, sRet_ev, sRetN_ev, sIf_ev, sFor_ev, sNil_ev, sOwn_ev, eCall_ev, aC_ev, aN_ok, eVs, eV0, eLs', eL0, eC_ev, bind_ok', bind_bad', bind_exc', callN_ev, if_true, if_false, outOf_ok, outOf_exc, outOf_bad, List.set_cons_succ, List.set_cons_zero, then_next, then_ret, then_exc, e1_ev, e2_ev, eT_ev, eLs_ev, mkL_nil, mkL_1, mkL_2, mkT_nil, mkT_1, mkT_2, mkT_3, mkT_4, tB_ev, tV_ev, tAnd_ev, tOr_ev, tNot_ev, tTrue_ev, eAnd_ev, eOr_ev, eNot_ev, eIf_ev, iSeq_ev, seqD_l, seqD_t, asB_bool, truthD_bool, truthD_lst, truthD_tup, runO_ret, runO_next, runO_exc, Bool.not_true, Bool.not_false, Bool.false_eq_true, Bool.true_and, Bool.false_and, Bool.and_true, Bool.and_false, Bool.not_not, tupleD_l, tupleD_t, listD_l, listD_t, lenD_lst, lenD_tup, List.length_map, em_map, eqD_int, neD_int, ltD_int, leD_int, gtD_int, geD_int, opAdd_int, opSub_int, negD_1, isiD_ev, gN_ev, gT_ev, setAll_c, setAll_n, wipeE_c, wipeE_n, isD_non, isNotD_non, eIdx_ev, ix_op0, ix_op1, ix_op2, ix_op3, eqD_kdw, eqD_kdr, List.getElem?_cons_succ, List.getElem?_cons_zero, decide_true, decide_false]⟩
    have sm := hv.small ho
    have rg := hv.rng o ho
    have dv : ixD D (.int o.v) = .ok (nd (dr fs o.v.toNat)) := by
      rw [hD]
      exact dr_at o.v.toNat (by have := sm.v0; omega) (by have := rg.2.1; have := sm.v0; omega)
    have m2 : opMod (nd (dr fs o.v.toNat)) (.int 2) = .ok (nd (dr fs o.v.toNat % 2)) := by
      show (if (0 : Int) < 2 then R.ok (PyData.int (((dr fs o.v.toNat : Nat) : Int) % 2)) else R.bad) = _
      rw [if_pos (by omega)]; simp
    simp only [List.map_cons, List.map_nil, List.length_cons, List.length_nil, List.cons_append, List.nil_append, List.replicate, Nat.sub_self, List.append_nil, sSeq_ev, sSet_ev, sExpr_ev, sRet_ev, sRetN_ev, sIf_ev, sFor_ev, sNil_ev, sOwn_ev, eCall_ev, aC_ev, aN_ok, eVs, eV0, eLs', eL0, eC_ev, bind_ok', bind_bad', bind_exc', callN_ev, if_true, if_false, outOf_ok, outOf_exc, outOf_bad, List.set_cons_succ, List.set_cons_zero, then_next, then_ret, then_exc, e1_ev, e2_ev, eT_ev, eLs_ev, mkL_nil, mkL_1, mkL_2, mkT_nil, mkT_1, mkT_2, mkT_3, mkT_4, tB_ev, tV_ev, tAnd_ev, tOr_ev, tNot_ev, tTrue_ev, eAnd_ev, eOr_ev, eNot_ev, eIf_ev, iSeq_ev, seqD_l, seqD_t, asB_bool, truthD_bool, truthD_lst, truthD_tup, runO_ret, runO_next, runO_exc, Bool.not_true, Bool.not_false, Bool.false_eq_true, Bool.true_and, Bool.false_and, Bool.and_true, Bool.and_false, Bool.not_not, tupleD_l, tupleD_t, listD_l, listD_t, lenD_lst, lenD_tup, List.length_map, em_map, eqD_int, neD_int, ltD_int, leD_int, gtD_int, geD_int, opAdd_int, opSub_int, negD_1, isiD_ev, gN_ev, gT_ev, setAll_c, setAll_n, wipeE_c, wipeE_n, isD_non, isNotD_non, eIdx_ev, ix_op0, ix_op1, ix_op2, ix_op3, eqD_kdw, eqD_kdr, List.getElem?_cons_succ, List.getElem?_cons_zero, decide_true, decide_false, dv, m2]
    show _ = R.ok (o.w || decide (dr fs o.v.toNat % 2 = 0))
    cases o.w with
    | true => rfl
    | false =>
      simp only [Bool.false_eq_true, if_false, Bool.false_or]
      congr 1
      rw [Bool.eq_iff_iff, decide_eq_true_iff, decide_eq_true_iff]
      omega
  have vk : Valid (st.filter pk) := hv.sub List.filter_sublist
  have cx1 := can_explain_ok hv
  have cx2 := can_explain_ok vk
  have imp : (expl st).isEmpty = false → (expl (st.filter pk)).isEmpty = false := fun h => not_em (part_expl hv (fun x hx hw => by show (x.w || _) = true; rw [hw]; rfl) (fun z => by rw [z] at h; cases h))
  obtain ⟨ρ1, L1, z6, rfl⟩ := forGo_pre (g := gN 6) (b := B_law_1) (c := Op.d) (fun done ρ => ∃ z6, ρ = [some (.d S), some (.d D), some (.d (sd st)), some (.r (rws (tks st done.length)) 0), some (.r [.tuple []] 0), some (.d (.list ((st.filter pk).map Op.d))), z6, none, none])
    st st [] [some (.d S), some (.d D), some (.d (sd st)), some (.r [.tuple []] 0), some (.r [.tuple []] 0), some (.d (.list ((st.filter pk).map Op.d))), none, none, none] rfl ⟨none, rfl⟩ (by
      rintro done x r e ρ ⟨z6, rfl⟩
      have hi : done.length < st.length := by rw [← e]; simp
      have ex : st[done.length] = x := by simp [← e]
      have wt := wOp_take hv hi
      rw [ex] at wt
      have xs : x ∈ st := by rw [← e]; simp
      have vf : Valid (wOp (st.take done.length) x) := by rw [wt]; exact hv.sub (List.take_sublist _ _)
      have rk := record_ok (tks_last st done.length) (by rw [tks_len]; omega) (by rw [List.length_take]; omega) (k := 0) (hv.ok xs) vf
      rw [wt, ← tks_succ] at rk
      have el : (done ++ [x]).length = done.length + 1 := by simp
      refine ⟨_, _, rfl, ?_, some (.d x.d), by rw [el]⟩
      unfold B_law_1 sQ qMeth
      simp only [List.map_cons, List.map_nil, List.length_cons, List.length_nil, List.cons_append, List.nil_append, List.replicate, Nat.sub_self, List.append_nil, sSeq_ev, sSet_ev, sExpr_ev, sRet_ev, sRetN_ev, sIf_ev, sFor_ev, sNil_ev, sOwn_ev, eCall_ev, aC_ev, aN_ok, eVs, eV0, eLs', eL0, eC_ev, bind_ok', bind_bad', bind_exc', callN_ev, if_true, if_false, outOf_ok, outOf_exc, outOf_bad, List.set_cons_succ, List.set_cons_zero, then_next, then_ret, then_exc, e1_ev, e2_ev, eT_ev, eLs_ev, mkL_nil, mkL_1, mkL_2, mkT_nil, mkT_1, mkT_2, mkT_3, mkT_4, tB_ev, tV_ev, tAnd_ev, tOr_ev, tNot_ev, tTrue_ev, eAnd_ev, eOr_ev, eNot_ev, eIf_ev, iSeq_ev, seqD_l, seqD_t, asB_bool, truthD_bool, truthD_lst, truthD_tup, runO_ret, runO_next, runO_exc, Bool.not_true, Bool.not_false, Bool.false_eq_true, Bool.true_and, Bool.false_and, Bool.and_true, Bool.and_false, Bool.not_not, tupleD_l, tupleD_t, listD_l, listD_t, lenD_lst, lenD_tup, List.length_map, em_map, eqD_int, neD_int, ltD_int, leD_int, gtD_int, geD_int, opAdd_int, opSub_int, negD_1, isiD_ev, gN_ev, gT_ev, setAll_c, setAll_n, wipeE_c, wipeE_n, isD_non, isNotD_non, eIdx_ev, ix_op0, ix_op1, ix_op2, ix_op3, eqD_kdw, eqD_kdr, List.getElem?_cons_succ, List.getElem?_cons_zero, decide_true, decide_false, rk, qPut])
  obtain ⟨ρ2, L2, rows, y6, rfl, g1, g2⟩ := forGo_pre (g := gN 6) (b := B_law_2) (c := Op.d) (fun done ρ => ∃ rows y6, ρ = [some (.d S), some (.d D), some (.d (sd st)), some (.r (rws (tks st st.length)) 0), some (.r (rws rows) 0), some (.d (.list ((st.filter pk).map Op.d))), y6, none, none] ∧ rows.getLast? = some (st.filter fun y => decide (y ∈ done)) ∧ rows.length = done.length + 1)
    st.reverse st.reverse [] [some (.d S), some (.d D), some (.d (sd st)), some (.r (rws (tks st st.length)) 0), some (.r [.tuple []] 0), some (.d (.list ((st.filter pk).map Op.d))), z6, none, none] rfl ⟨[[]], z6, rfl, by simp, rfl⟩ (by
      rintro done x r e ρ ⟨rows, y6, rfl, g1, g2⟩
      have hn : st.reverse.Nodup := (List.reverse_perm st).nodup_iff.mpr hv.nodup
      rw [← e] at hn
      have xd : x ∉ done := fun h => (List.nodup_append.mp hn).2.2 x h x List.mem_cons_self rfl
      have xs : x ∈ st := by rw [← List.mem_reverse, ← e]; simp
      have dl : done.length ≤ 6 := by have := congrArg List.length e; simp at this; omega
      have wf := wOp_filter hv (p := fun y => decide (y ∈ done)) xs (by simp [xd])
      have ef : (st.filter fun y => decide (y ∈ done) || decide (y = x)) = st.filter fun y => decide (y ∈ done ++ [x]) := List.filter_congr fun y _ => by simp
      have vf : Valid (wOp (st.filter fun y => decide (y ∈ done)) x) := by rw [wf]; exact hv.sub List.filter_sublist
      have fl := List.length_filter_le (fun y => decide (y ∈ done)) st
      have rk := record_ok g1 (by omega) (by omega) (k := 0) (hv.ok xs) vf
      have ne : (st.filter fun y => decide (y ∈ done)) ≠ st := fun z => by
        rw [← z] at xs
        simpa [xd] using xs
      have eqf : ∀ z6 : Option SV, eEqR false 4 3 F_R_eq [some (.d S), some (.d D), some (.d (sd st)), some (.r (rws (tks st st.length)) 0), some (.r (rws rows) 0), some (.d (.list ((st.filter pk).map Op.d))), z6, none, none] = .ok (.bool false) := fun z6 => by
        rw [eqR (neg := false) (i := 4) (j := 3) (k1 := 0) (k2 := 0) rfl rfl g1 (tks_last st st.length)]
        have : ¬ (st.filter fun y => decide (y ∈ done)) = st.take st.length := by rw [List.take_length]; exact ne
        rw [decide_eq_false this]
        rfl
      refine ⟨_, _, rfl, ?_, rows ++ [wOp (st.filter fun y => decide (y ∈ done)) x], some (.d x.d), rfl, by rw [wf, ef]; simp, by simp; omega⟩
      unfold B_law_2 sQ qMeth
      simp only [List.map_cons, List.map_nil, List.length_cons, List.length_nil, List.cons_append, List.nil_append, List.replicate, Nat.sub_self, List.append_nil, sSeq_ev, sSet_ev, sExpr_ev, sRet_ev, sRetN_ev, sIf_ev, sFor_ev, sNil_ev, sOwn_ev, eCall_ev, aC_ev, aN_ok, eVs, eV0, eLs', eL0, eC_ev, bind_ok', bind_bad', bind_exc', callN_ev, if_true, if_false, outOf_ok, outOf_exc, outOf_bad, List.set_cons_succ, List.set_cons_zero, then_next, then_ret, then_exc, e1_ev, e2_ev, eT_ev, eLs_ev, mkL_nil, mkL_1, mkL_2, mkT_nil, mkT_1, mkT_2, mkT_3, mkT_4, tB_ev, tV_ev, tAnd_ev, tOr_ev, tNot_ev, tTrue_ev, eAnd_ev, eOr_ev, eNot_ev, eIf_ev, iSeq_ev, seqD_l, seqD_t, asB_bool, truthD_bool, truthD_lst, truthD_tup, runO_ret, runO_next, runO_exc, Bool.not_true, Bool.not_false, Bool.false_eq_true, Bool.true_and, Bool.false_and, Bool.and_true, Bool.and_false, Bool.not_not, tupleD_l, tupleD_t, listD_l, listD_t, lenD_lst, lenD_tup, List.length_map, em_map, eqD_int, neD_int, ltD_int, leD_int, gtD_int, geD_int, opAdd_int, opSub_int, negD_1, isiD_ev, gN_ev, gT_ev, setAll_c, setAll_n, wipeE_c, wipeE_n, isD_non, isNotD_non, eIdx_ev, ix_op0, ix_op1, ix_op2, ix_op3, eqD_kdw, eqD_kdr, List.getElem?_cons_succ, List.getElem?_cons_zero, decide_true, decide_false, eqf, rk, qPut])
  have fall : (st.filter fun y => decide (y ∈ st.reverse)) = st := List.filter_eq_self.mpr fun y hy => by simpa using hy
  rw [fall] at g1
  rw [List.length_reverse] at g2
  have rv : revD 0 (sd st) = .ok (.tuple (st.reverse.map Op.d)) := by
    show R.ok (PyData.tuple ((st.map Op.d).reverse.take ((st.map Op.d).length - 0))) = _
    rw [List.map_reverse, List.take_of_length_le (by simp)]
  have tl : (tks st st.length).getLast? = some st := by rw [tks_last, List.take_length]
  have lr : (rws rows).length = st.length + 1 := by unfold rws; rw [List.length_map, g2]
  have lt : (rws (tks st st.length)).length = st.length + 1 := by unfold rws; rw [List.length_map, tks_len]
  have a1 : ∀ (r : EV), eEqR true 3 4 F_R_eq (some (.d S) :: some (.d D) :: some (.d (sd st)) :: some (.r (rws (tks st st.length)) 0) :: some (.r (rws rows) 0) :: r) = .ok (.bool false) := fun r => by
    rw [eqR (neg := true) (i := 3) (j := 4) (k1 := 0) (k2 := 0) rfl rfl tl g1]
    simp
  have a2 : ∀ (r : EV), eMeth0 3 F_R_story (some (.d S) :: some (.d D) :: some (.d (sd st)) :: some (.r (rws (tks st st.length)) 0) :: r) = .ok (sd st) := fun r => story_ok tl
  have a3 : ∀ (r : EV), eLenR 3 F_R_len (some (.d S) :: some (.d D) :: some (.d (sd st)) :: some (.r (rws (tks st st.length)) 0) :: r) = .ok (nd st.length) := fun r => lenR (i := 3) rfl lt (by omega)
  have nst : neD (sd st) (sd st) = .ok (.bool false) := by rw [encS.neD (by decide)]; simp
  have nln : neD (nd st.length) (nd st.length) = .ok (.bool false) := by rw [encN.neD (by decide)]; simp
  have kl : ((rws rows).length : Int) - 1 = ((st.length : Nat) : Int) := by rw [lr]; omega
  have dp : ∀ (a b c d x y z : Option SV) (r : EV), sDup 4 7 (a :: b :: c :: d :: some (.r (rws rows) 0) :: x :: y :: z :: r) = .next (a :: b :: c :: d :: some (.r (rws rows) 0) :: x :: y :: some (.r (rws rows) ((st.length : Nat) : Int)) :: r) := fun a b c d x y z r => by
    have e : recE 4 (a :: b :: c :: d :: some (.r (rws rows) 0) :: x :: y :: z :: r) = some (rws rows, 0) := rfl
    unfold sDup
    simp only [e, kl]
    rfl
  have b1 : ∀ (a x y z : Option SV), eEqR true 7 3 F_R_eq [some (.d S), some (.d D), some (.d (sd st)), some (.r (rws (tks st st.length)) 0), x, y, z, some (.r (rws rows) ((st.length : Nat) : Int)), a] = .ok (.bool false) := fun a x y z => by
    rw [eqR (neg := true) (i := 7) (j := 3) (k1 := ((st.length : Nat) : Int)) (k2 := 0) rfl rfl g1 tl]
    simp
  have b2 : ∀ (a b c d e f g h : Option SV), qMeth 7 2 F_law_recorded (aC (eC (.int (1))) (aC (eC .none) (aN))) [a, b, c, d, e, f, g, some (.r (rws rows) ((st.length : Nat) : Int)), h] = .ok (.str "nothing") [a, b, c, d, e, f, g, some (.r (rws rows) ((st.length : Nat) : Int)), h] := fun a b c d e f g h => by
    have := rec_undo_no (ss := rws rows) (k := ((st.length : Nat) : Int)) (d := .none) (by rw [kl]; omega)
    unfold qMeth
    rw [rec_eq]
    simp only [List.map_cons, List.map_nil, List.length_cons, List.length_nil, List.cons_append, List.nil_append, List.replicate, Nat.sub_self, List.append_nil, sSeq_ev, sSet_ev, sExpr_ev, sRet_ev, sRetN_ev, sIf_ev, sFor_ev, sNil_ev, sOwn_ev, eCall_ev, aC_ev, aN_ok, eVs, eV0, eLs', eL0, eC_ev, bind_ok', bind_bad', bind_exc', callN_ev, if_true, if_false, outOf_ok, outOf_exc, outOf_bad, List.set_cons_succ, List.set_cons_zero, then_next, then_ret, then_exc, e1_ev, e2_ev, eT_ev, eLs_ev, mkL_nil, mkL_1, mkL_2, mkT_nil, mkT_1, mkT_2, mkT_3, mkT_4, tB_ev, tV_ev, tAnd_ev, tOr_ev, tNot_ev, tTrue_ev, eAnd_ev, eOr_ev, eNot_ev, eIf_ev, iSeq_ev, seqD_l, seqD_t, asB_bool, truthD_bool, truthD_lst, truthD_tup, runO_ret, runO_next, runO_exc, Bool.not_true, Bool.not_false, Bool.false_eq_true, Bool.true_and, Bool.false_and, Bool.and_true, Bool.and_false, Bool.not_not, tupleD_l, tupleD_t, listD_l, listD_t, lenD_lst, lenD_tup, List.length_map, em_map, eqD_int, neD_int, ltD_int, leD_int, gtD_int, geD_int, opAdd_int, opSub_int, negD_1, isiD_ev, gN_ev, gT_ev, setAll_c, setAll_n, wipeE_c, wipeE_n, isD_non, isNotD_non, eIdx_ev, ix_op0, ix_op1, ix_op2, ix_op3, eqD_kdw, eqD_kdr, List.getElem?_cons_succ, List.getElem?_cons_zero, decide_true, decide_false, this, qPut]
  have b3 : ∀ (a b c d e f g h : Option SV), eLenR 7 F_R_len [a, b, c, d, e, f, g, some (.r (rws rows) ((st.length : Nat) : Int)), h] = .ok (nd st.length) := fun a b c d e f g h => lenR (i := 7) rfl lr (by omega)
  have nos : PyData.strOk "nothing" = true := by decide +kernel
  have nn : neD (.str "nothing") (.str "nothing") = .ok (.bool false) := by
    unfold neD
    rw [(Sh.str 0 nos).shaped (by omega)]
    rfl
  have en : eqD (.str "nothing") (.str "nothing") = .ok (.bool true) := by
    unfold eqD
    rw [(Sh.str 0 nos).shaped (by omega)]
    rfl
  obtain ⟨ρ3, L3, y8, rfl⟩ := forGo_cnt (g := gN 8) (b := B_law_3) st.length (fun n ρ => ∃ y8, ρ = [some (.d S), some (.d D), some (.d (sd st)), some (.r (rws (tks st (st.length - n))) 0), some (.r (rws rows) 0), some (.d (.list ((st.filter pk).map Op.d))), y6, some (.r (rws rows) ((st.length : Nat) : Int)), y8])
    [some (.d S), some (.d D), some (.d (sd st)), some (.r (rws (tks st st.length)) 0), some (.r (rws rows) 0), some (.d (.list ((st.filter pk).map Op.d))), y6, some (.r (rws rows) ((st.length : Nat) : Int)), none] ⟨none, rfl⟩ (by
      rintro n hn ρ ⟨y8, rfl⟩
      obtain ⟨m, hm⟩ : ∃ m, st.length - n = m + 1 := ⟨st.length - n - 1, by omega⟩
      have u := undo_ok (rows := tks st (m + 1)) (st := st.take m) (k := 0) (by rw [tks_len]; omega) (by rw [tks_drop, tks_last])
      rw [tks_drop] at u
      have sl : sliceD (sd st) none (some (((st.length : Nat) : Int) - 1 - ((n : Nat) : Int))) = .ok (sd (st.take m)) := by
        rw [show (((st.length : Nat) : Int) - 1 - ((n : Nat) : Int)) = ((m : Nat) : Int) by omega, show sd (st.take m) = .tuple ((st.map Op.d).take m) by rw [← List.map_take]]
        exact sl_takeT m
      have ns : neD (sd (st.take m)) (sd (st.take m)) = .ok (.bool false) := by rw [encS.neD (by decide)]; simp
      refine ⟨_, _, rfl, ?_, some (.d (nd n)), by rw [show st.length - (n + 1) = m by omega]⟩
      rw [hm]
      unfold B_law_3 sIfQ tqV qCmp qMeth
      simp only [List.map_cons, List.map_nil, List.length_cons, List.length_nil, List.cons_append, List.nil_append, List.replicate, Nat.sub_self, List.append_nil, sSeq_ev, sSet_ev, sExpr_ev, sRet_ev, sRetN_ev, sIf_ev, sFor_ev, sNil_ev, sOwn_ev, eCall_ev, aC_ev, aN_ok, eVs, eV0, eLs', eL0, eC_ev, bind_ok', bind_bad', bind_exc', callN_ev, if_true, if_false, outOf_ok, outOf_exc, outOf_bad, List.set_cons_succ, List.set_cons_zero, then_next, then_ret, then_exc, e1_ev, e2_ev, eT_ev, eLs_ev, mkL_nil, mkL_1, mkL_2, mkT_nil, mkT_1, mkT_2, mkT_3, mkT_4, tB_ev, tV_ev, tAnd_ev, tOr_ev, tNot_ev, tTrue_ev, eAnd_ev, eOr_ev, eNot_ev, eIf_ev, iSeq_ev, seqD_l, seqD_t, asB_bool, truthD_bool, truthD_lst, truthD_tup, runO_ret, runO_next, runO_exc, Bool.not_true, Bool.not_false, Bool.false_eq_true, Bool.true_and, Bool.false_and, Bool.and_true, Bool.and_false, Bool.not_not, tupleD_l, tupleD_t, listD_l, listD_t, lenD_lst, lenD_tup, List.length_map, em_map, eqD_int, neD_int, ltD_int, leD_int, gtD_int, geD_int, opAdd_int, opSub_int, negD_1, isiD_ev, gN_ev, gT_ev, setAll_c, setAll_n, wipeE_c, wipeE_n, isD_non, isNotD_non, eIdx_ev, ix_op0, ix_op1, ix_op2, ix_op3, eqD_kdw, eqD_kdr, List.getElem?_cons_succ, List.getElem?_cons_zero, decide_true, decide_false, u, qPut, eSl_ev, oN_ev, oS_ev, asI_int, sl, ns])
  rw [Nat.sub_self] at L3
  have f1 : ∀ r : EV, eEqN 3 F_R_eq (some (.d S) :: some (.d D) :: some (.d (sd st)) :: some (.r (rws (tks st 0)) 0) :: r) = .ok (.bool true) := fun r => by
    have e : recE 3 (some (.d S) :: some (.d D) :: some (.d (sd st)) :: some (.r (rws (tks st 0)) 0) :: r) = some (rws (tks st 0), 0) := rfl
    have q := req_ok (rows := tks st 0) (rows' := [[]]) (k := 0) (k' := 0) (tks_last st 0) (show ([[]] : List (List Op)).getLast? = some [] from rfl)
    unfold eEqN
    simp only [e]
    have q' : F_R_eq [.v (rws (tks st 0)) 0, .v [.tuple []] 0] = .ok (.bool (decide (st.take 0 = []))) := q
    rw [q']
    rfl
  have f2 : ∀ (x y z a : Option SV), eEqR false 7 4 F_R_eq [some (.d S), some (.d D), some (.d (sd st)), x, some (.r (rws rows) 0), y, z, some (.r (rws rows) ((st.length : Nat) : Int)), a] = .ok (.bool true) := fun x y z a => by
    rw [eqR (neg := false) (i := 7) (j := 4) (k1 := ((st.length : Nat) : Int)) (k2 := 0) rfl rfl g1 g1]
    simp
  have f3 : ∀ (a b c : Option SV) (r : EV), qMeth 3 2 F_law_recorded (aC (eC (.int (1))) (aC (eC .none) (aN))) (a :: b :: c :: some (.r (rws (tks st 0)) 0) :: r) = .ok (.str "nothing") (a :: b :: c :: some (.r (rws (tks st 0)) 0) :: r) := fun a b c r => by
    have := rec_undo_no (ss := rws (tks st 0)) (k := 0) (d := .none) (by unfold rws; rw [List.length_map, tks_len]; omega)
    unfold qMeth
    rw [rec_eq]
    simp only [List.map_cons, List.map_nil, List.length_cons, List.length_nil, List.cons_append, List.nil_append, List.replicate, Nat.sub_self, List.append_nil, sSeq_ev, sSet_ev, sExpr_ev, sRet_ev, sRetN_ev, sIf_ev, sFor_ev, sNil_ev, sOwn_ev, eCall_ev, aC_ev, aN_ok, eVs, eV0, eLs', eL0, eC_ev, bind_ok', bind_bad', bind_exc', callN_ev, if_true, if_false, outOf_ok, outOf_exc, outOf_bad, List.set_cons_succ, List.set_cons_zero, then_next, then_ret, then_exc, e1_ev, e2_ev, eT_ev, eLs_ev, mkL_nil, mkL_1, mkL_2, mkT_nil, mkT_1, mkT_2, mkT_3, mkT_4, tB_ev, tV_ev, tAnd_ev, tOr_ev, tNot_ev, tTrue_ev, eAnd_ev, eOr_ev, eNot_ev, eIf_ev, iSeq_ev, seqD_l, seqD_t, asB_bool, truthD_bool, truthD_lst, truthD_tup, runO_ret, runO_next, runO_exc, Bool.not_true, Bool.not_false, Bool.false_eq_true, Bool.true_and, Bool.false_and, Bool.and_true, Bool.and_false, Bool.not_not, tupleD_l, tupleD_t, listD_l, listD_t, lenD_lst, lenD_tup, List.length_map, em_map, eqD_int, neD_int, ltD_int, leD_int, gtD_int, geD_int, opAdd_int, opSub_int, negD_1, isiD_ev, gN_ev, gT_ev, setAll_c, setAll_n, wipeE_c, wipeE_n, isD_non, isNotD_non, eIdx_ev, ix_op0, ix_op1, ix_op2, ix_op3, eqD_kdw, eqD_kdr, List.getElem?_cons_succ, List.getElem?_cons_zero, decide_true, decide_false, this, qPut]
  have hr : ∀ (a b : Option SV) (r : EV), iRng1 (e1 lenD (eV 2)) (a :: b :: some (.d (sd st)) :: r) = .ok ((List.range st.length).map nd) := fun a b r => iRng1_ok (by simp only [List.map_cons, List.map_nil, List.length_cons, List.length_nil, List.cons_append, List.nil_append, List.replicate, Nat.sub_self, List.append_nil, sSeq_ev, sSet_ev, sExpr_ev, sRet_ev, sRetN_ev, sIf_ev, sFor_ev, sNil_ev, sOwn_ev, eCall_ev, aC_ev, aN_ok, eVs, eV0, eLs', eL0, eC_ev, bind_ok', bind_bad', bind_exc', callN_ev, if_true, if_false, outOf_ok, outOf_exc, outOf_bad, List.set_cons_succ, List.set_cons_zero, then_next, then_ret, then_exc, e1_ev, e2_ev, eT_ev, eLs_ev, mkL_nil, mkL_1, mkL_2, mkT_nil, mkT_1, mkT_2, mkT_3, mkT_4, tB_ev, tV_ev, tAnd_ev, tOr_ev, tNot_ev, tTrue_ev, eAnd_ev, eOr_ev, eNot_ev, eIf_ev, iSeq_ev, seqD_l, seqD_t, asB_bool, truthD_bool, truthD_lst, truthD_tup, runO_ret, runO_next, runO_exc, Bool.not_true, Bool.not_false, Bool.false_eq_true, Bool.true_and, Bool.false_and, Bool.and_true, Bool.and_false, Bool.not_not, tupleD_l, tupleD_t, listD_l, listD_t, lenD_lst, lenD_tup, List.length_map, em_map, eqD_int, neD_int, ltD_int, leD_int, gtD_int, geD_int, opAdd_int, opSub_int, negD_1, isiD_ev, gN_ev, gT_ev, setAll_c, setAll_n, wipeE_c, wipeE_n, isD_non, isNotD_non, eIdx_ev, ix_op0, ix_op1, ix_op2, ix_op3, eqD_kdw, eqD_kdr, List.getElem?_cons_succ, List.getElem?_cons_zero, decide_true, decide_false]) (by omega)
  have tst : ∀ s3 s4 : Option SV, ((F_can_explain [sd st]).bind truthD).bind (fun x => if x = true then ((F_can_explain [sd (st.filter pk)]).bind truthD).bind (fun x => R.ok (!x)) else R.ok false) = .ok false := fun _ _ => by
    rw [cx1, cx2]
    cases h : (expl st).isEmpty with
    | true => rfl
    | false => rw [imp h]; rfl
  have cx1' : ∃ b1 b2 : Bool, F_can_explain [sd st] = .ok (.bool b1) ∧ F_can_explain [sd (st.filter pk)] = .ok (.bool b2) ∧ (b1 = true → b2 = true) := ⟨_, _, cx1, cx2, fun h => by
    simp only [Bool.not_eq_true'] at h ⊢
    exact imp h⟩
  obtain ⟨b1', b2', k1, k2, k3⟩ := cx1'
  have L1' : forGo (gN 6) B_law_1 (st.map Op.d) [some (.d S), some (.d D), some (.d (sd st)), some (.r [.tuple []] 0), some (.r [.tuple []] 0), some (.d (.list ((st.filter pk).map Op.d))), none, none, none] = _ := L1
  simp only [List.map_cons, List.map_nil, List.length_cons, List.length_nil, List.cons_append, List.nil_append, List.replicate, Nat.sub_self, List.append_nil, sSeq_ev, sSet_ev, sExpr_ev, sRet_ev, sRetN_ev, sIf_ev, sFor_ev, sNil_ev, sOwn_ev, eCall_ev, aC_ev, aN_ok, eVs, eV0, eLs', eL0, eC_ev, bind_ok', bind_bad', bind_exc', callN_ev, if_true, if_false, outOf_ok, outOf_exc, outOf_bad, List.set_cons_succ, List.set_cons_zero, then_next, then_ret, then_exc, e1_ev, e2_ev, eT_ev, eLs_ev, mkL_nil, mkL_1, mkL_2, mkT_nil, mkT_1, mkT_2, mkT_3, mkT_4, tB_ev, tV_ev, tAnd_ev, tOr_ev, tNot_ev, tTrue_ev, eAnd_ev, eOr_ev, eNot_ev, eIf_ev, iSeq_ev, seqD_l, seqD_t, asB_bool, truthD_bool, truthD_lst, truthD_tup, runO_ret, runO_next, runO_exc, Bool.not_true, Bool.not_false, Bool.false_eq_true, Bool.true_and, Bool.false_and, Bool.and_true, Bool.and_false, Bool.not_not, tupleD_l, tupleD_t, listD_l, listD_t, lenD_lst, lenD_tup, List.length_map, em_map, eqD_int, neD_int, ltD_int, leD_int, gtD_int, geD_int, opAdd_int, opSub_int, negD_1, isiD_ev, gN_ev, gT_ev, setAll_c, setAll_n, wipeE_c, wipeE_n, isD_non, isNotD_non, eIdx_ev, ix_op0, ix_op1, ix_op2, ix_op3, eqD_kdw, eqD_kdr, List.getElem?_cons_succ, List.getElem?_cons_zero, decide_true, decide_false, hrow'', hst', nw, e0, ed1, ed2, c1, k1, k2]
  have t3 : (if b1' = true then R.ok (!b2') else R.ok false) = R.ok false := by
    cases b1' with
    | false => rfl
    | true => rw [k3 rfl]; rfl
  rw [t3]
  simp only [List.map_cons, List.map_nil, List.length_cons, List.length_nil, List.cons_append, List.nil_append, List.replicate, Nat.sub_self, List.append_nil, sSeq_ev, sSet_ev, sExpr_ev, sRet_ev, sRetN_ev, sIf_ev, sFor_ev, sNil_ev, sOwn_ev, eCall_ev, aC_ev, aN_ok, eVs, eV0, eLs', eL0, eC_ev, bind_ok', bind_bad', bind_exc', callN_ev, if_true, if_false, outOf_ok, outOf_exc, outOf_bad, List.set_cons_succ, List.set_cons_zero, then_next, then_ret, then_exc, e1_ev, e2_ev, eT_ev, eLs_ev, mkL_nil, mkL_1, mkL_2, mkT_nil, mkT_1, mkT_2, mkT_3, mkT_4, tB_ev, tV_ev, tAnd_ev, tOr_ev, tNot_ev, tTrue_ev, eAnd_ev, eOr_ev, eNot_ev, eIf_ev, iSeq_ev, seqD_l, seqD_t, asB_bool, truthD_bool, truthD_lst, truthD_tup, runO_ret, runO_next, runO_exc, Bool.not_true, Bool.not_false, Bool.false_eq_true, Bool.true_and, Bool.false_and, Bool.and_true, Bool.and_false, Bool.not_not, tupleD_l, tupleD_t, listD_l, listD_t, lenD_lst, lenD_tup, List.length_map, em_map, eqD_int, neD_int, ltD_int, leD_int, gtD_int, geD_int, opAdd_int, opSub_int, negD_1, isiD_ev, gN_ev, gT_ev, setAll_c, setAll_n, wipeE_c, wipeE_n, isD_non, isNotD_non, eIdx_ev, ix_op0, ix_op1, ix_op2, ix_op3, eqD_kdw, eqD_kdr, List.getElem?_cons_succ, List.getElem?_cons_zero, decide_true, decide_false, L1', rv, L2, a1, a2, a3, nst, nln, dp]
  have tq := tqOr_f (b := tqOr (tqV (qCmp neD (qMeth 7 2 F_law_recorded (aC (eC (.int (1))) (aC (eC .none) (aN)))) (eC (.str "nothing")))) (tqT (CP.tB (e2 neD (eLenR 7 F_R_len) (e1 lenD (eV 2)))))) (tqT_ok (t := CP.tB (eEqR true 7 3 F_R_eq)) (b := false) (by rw [tB_ev, b1 none (some (.r (rws rows) 0)) (some (.d (.list ((st.filter pk).map Op.d)))) y6]; rfl))
  have tq2 := tqOr_f (b := tqT (CP.tB (e2 neD (eLenR 7 F_R_len) (e1 lenD (eV 2))))) (tqV_ok (qCmp_ok (op := neD) (f := eC (.str "nothing")) (b2 (some (.d S)) (some (.d D)) (some (.d (sd st))) (some (.r (rws (tks st st.length)) 0)) (some (.r (rws rows) 0)) (some (.d (.list ((st.filter pk).map Op.d)))) y6 none) rfl nn))
  have tq3 : tqT (CP.tB (e2 neD (eLenR 7 F_R_len) (e1 lenD (eV 2)))) [some (.d S), some (.d D), some (.d (sd st)), some (.r (rws (tks st st.length)) 0), some (.r (rws rows) 0), some (.d (.list ((st.filter pk).map Op.d))), y6, some (.r (rws rows) ((st.length : Nat) : Int)), none] = .ok false _ := tqT_ok (by rw [tB_ev, e2_ev, b3]; simp only [List.map_cons, List.map_nil, List.length_cons, List.length_nil, List.cons_append, List.nil_append, List.replicate, Nat.sub_self, List.append_nil, sSeq_ev, sSet_ev, sExpr_ev, sRet_ev, sRetN_ev, sIf_ev, sFor_ev, sNil_ev, sOwn_ev, eCall_ev, aC_ev, aN_ok, eVs, eV0, eLs', eL0, eC_ev, bind_ok', bind_bad', bind_exc', callN_ev, if_true, if_false, outOf_ok, outOf_exc, outOf_bad, List.set_cons_succ, List.set_cons_zero, then_next, then_ret, then_exc, e1_ev, e2_ev, eT_ev, eLs_ev, mkL_nil, mkL_1, mkL_2, mkT_nil, mkT_1, mkT_2, mkT_3, mkT_4, tB_ev, tV_ev, tAnd_ev, tOr_ev, tNot_ev, tTrue_ev, eAnd_ev, eOr_ev, eNot_ev, eIf_ev, iSeq_ev, seqD_l, seqD_t, asB_bool, truthD_bool, truthD_lst, truthD_tup, runO_ret, runO_next, runO_exc, Bool.not_true, Bool.not_false, Bool.false_eq_true, Bool.true_and, Bool.false_and, Bool.and_true, Bool.and_false, Bool.not_not, tupleD_l, tupleD_t, listD_l, listD_t, lenD_lst, lenD_tup, List.length_map, em_map, eqD_int, neD_int, ltD_int, leD_int, gtD_int, geD_int, opAdd_int, opSub_int, negD_1, isiD_ev, gN_ev, gT_ev, setAll_c, setAll_n, wipeE_c, wipeE_n, isD_non, isNotD_non, eIdx_ev, ix_op0, ix_op1, ix_op2, ix_op3, eqD_kdw, eqD_kdr, List.getElem?_cons_succ, List.getElem?_cons_zero, decide_true, decide_false, nln])
  rw [sIfQ_f (tq.trans (tq2.trans tq3)), sNil_ev, then_next]
  simp only [List.map_cons, List.map_nil, List.length_cons, List.length_nil, List.cons_append, List.nil_append, List.replicate, Nat.sub_self, List.append_nil, sSeq_ev, sSet_ev, sExpr_ev, sRet_ev, sRetN_ev, sIf_ev, sFor_ev, sNil_ev, sOwn_ev, eCall_ev, aC_ev, aN_ok, eVs, eV0, eLs', eL0, eC_ev, bind_ok', bind_bad', bind_exc', callN_ev, if_true, if_false, outOf_ok, outOf_exc, outOf_bad, List.set_cons_succ, List.set_cons_zero, then_next, then_ret, then_exc, e1_ev, e2_ev, eT_ev, eLs_ev, mkL_nil, mkL_1, mkL_2, mkT_nil, mkT_1, mkT_2, mkT_3, mkT_4, tB_ev, tV_ev, tAnd_ev, tOr_ev, tNot_ev, tTrue_ev, eAnd_ev, eOr_ev, eNot_ev, eIf_ev, iSeq_ev, seqD_l, seqD_t, asB_bool, truthD_bool, truthD_lst, truthD_tup, runO_ret, runO_next, runO_exc, Bool.not_true, Bool.not_false, Bool.false_eq_true, Bool.true_and, Bool.false_and, Bool.and_true, Bool.and_false, Bool.not_not, tupleD_l, tupleD_t, listD_l, listD_t, lenD_lst, lenD_tup, List.length_map, em_map, eqD_int, neD_int, ltD_int, leD_int, gtD_int, geD_int, opAdd_int, opSub_int, negD_1, isiD_ev, gN_ev, gT_ev, setAll_c, setAll_n, wipeE_c, wipeE_n, isD_non, isNotD_non, eIdx_ev, ix_op0, ix_op1, ix_op2, ix_op3, eqD_kdw, eqD_kdr, List.getElem?_cons_succ, List.getElem?_cons_zero, decide_true, decide_false, hr, L3]
  rw [sRetQ_ok ((qAnd_t (qE_ok (f1 _))).trans ((qAnd_t (qE_ok (f2 _ _ _ _))).trans (qCmp_ok (op := eqD) (f := eC (.str "nothing")) (f3 _ _ _ _) rfl en)))]
  rfl
end Mk12
open PySem PySem.W PyProof.Rows
set_option maxHeartbeats 0 in
theorem PySem.Challenge.cw_cellstories_k12_whole_two_recorders_holds : PySem.Challenge.rw_cellstories_k12_whole_two_recorders.Holds := by
  w_on; o_law; k_head; (case hw => w_witness2)
  k_fill
  refine CP.walkP (l := PySem.Challenge.rw_cellstories_k12_whole_two_recorders) (k := 24) (F := Wk12.F_law) rfl rfl ⟨rfl, by decide, by decide⟩ (fun w h Y => PySem.W.kIn_of Y) ?F (fun p => by kernel_rfl) Mk12.law_true
  case F =>
    intro w mg fa h KX G hmg
    refine' Wk12.law_mk KX G hmg ?a1 ?l1 ?c1 ?k1 ?a2 ?l2 ?c2 ?k2 ?a3 ?l3 ?c3 ?k3 ?a4 ?l4 ?c4 ?k4 ?a5 ?l5 ?c5 ?k5 ?a6 ?l6 ?c6 ?k6 ?a7 ?l7 ?c7 ?k7 ?a8 ?l8 ?c8 ?k8 ?a9 ?l9 ?c9 ?k9 ?a10 ?l10 ?c10 ?k10 ?a11 ?l11 ?c11 ?k11 ?a12 ?l12 ?c12 ?k12 ?a13 ?l13 ?c13 ?k13 ?a14 ?l14 ?c14 ?k14 ?a15 ?l15 ?c15 ?k15 ?a16 ?l16 ?c16 ?k16 ?z0 ?z1 ?z2 ?z3 ?z4 ?z5 ?z6 ?z7 ?z8 ?z9 ?z10 ?z11 ?q0 ?q1 ?q2 ?q3 ?r3 ?n_InvalidStory ?n_InvalidOperation ?n_NothingToUndo ?n_StoryError ?x1_InvalidStory ?x2_InvalidStory ?x3_InvalidStory ?x4_InvalidStory ?x1_InvalidOperation ?x2_InvalidOperation ?x3_InvalidOperation ?x4_InvalidOperation ?x1_NothingToUndo ?x2_NothingToUndo ?x3_NothingToUndo ?x4_NothingToUndo ?e1_InvalidStory ?e2_InvalidStory ?e3_InvalidStory ?e4_InvalidStory ?e5_InvalidStory ?e6_InvalidStory ?e1_InvalidOperation ?e2_InvalidOperation ?e3_InvalidOperation ?e4_InvalidOperation ?e5_InvalidOperation ?e6_InvalidOperation ?e1_NothingToUndo ?e2_NothingToUndo ?e3_NothingToUndo ?e4_NothingToUndo ?e5_NothingToUndo ?e6_NothingToUndo ?w1 ?w2 ?k_InvalidStory_StoryError ?m_InvalidStory_StoryError ?k_InvalidOperation_StoryError ?m_InvalidOperation_StoryError ?k_NothingToUndo_StoryError ?m_NothingToUndo_StoryError ?k_InvalidStory_InvalidStory ?m_InvalidStory_InvalidStory ?k_InvalidOperation_InvalidStory ?m_InvalidOperation_InvalidStory ?k_NothingToUndo_InvalidStory ?m_NothingToUndo_InvalidStory ?k_InvalidStory_InvalidOperation ?m_InvalidStory_InvalidOperation ?k_InvalidOperation_InvalidOperation ?m_InvalidOperation_InvalidOperation ?k_NothingToUndo_InvalidOperation ?m_NothingToUndo_InvalidOperation ?k_InvalidStory_NothingToUndo ?m_InvalidStory_NothingToUndo ?k_InvalidOperation_NothingToUndo ?m_InvalidOperation_NothingToUndo ?k_NothingToUndo_NothingToUndo ?m_NothingToUndo_NothingToUndo ?n_Recorder ?r_pg ?r_hd ?r_po ?r_sa ?r_st ?r_kp ?r_mk ?r_kc ?r_ne ?r_mro ?r_ca ?r_cn ?r_ct ?k_Rr ?k_Rt ?k_Rs ?ra_init ?ri_init ?rl_init ?rc_init ?rk_init ?ra_len ?ri_len ?rl_len ?rc_len ?rk_len ?ra_str ?ri_str ?rl_str ?rc_str ?rk_str ?ra_eq ?ri_eq ?rl_eq ?rc_eq ?rk_eq ?ra_story ?ri_story ?rl_story ?rc_story ?rk_story ?ra_record ?ri_record ?rl_record ?rc_record ?rk_record ?ra_undo ?ri_undo ?rl_undo ?rc_undo ?rk_undo ?ra_duplicate ?ri_duplicate ?rl_duplicate ?rc_duplicate ?rk_duplicate
    (case a1 => k_is); (case l1 => k_is); (case c1 => k_is); (case k1 => k_is); (case a2 => k_is); (case l2 => k_is); (case c2 => k_is); (case k2 => k_is); (case a3 => k_is); (case l3 => k_is); (case c3 => k_is); (case k3 => k_is); (case a4 => k_is); (case l4 => k_is); (case c4 => k_is); (case k4 => k_is); (case a5 => k_is); (case l5 => k_is); (case c5 => k_is); (case k5 => k_is); (case a6 => k_is); (case l6 => k_is); (case c6 => k_is); (case k6 => k_is); (case a7 => k_is); (case l7 => k_is); (case c7 => k_is); (case k7 => k_is); (case a8 => k_is); (case l8 => k_is); (case c8 => k_is); (case k8 => k_is); (case a9 => k_is); (case l9 => k_is); (case c9 => k_is); (case k9 => k_is); (case a10 => k_is); (case l10 => k_is); (case c10 => k_is); (case k10 => k_is); (case a11 => k_is); (case l11 => k_is); (case c11 => k_is); (case k11 => k_is); (case a12 => k_is); (case l12 => k_is); (case c12 => k_is); (case k12 => k_is); (case a13 => k_is); (case l13 => k_is); (case c13 => k_is); (case k13 => k_is); (case a14 => k_is); (case l14 => k_is); (case c14 => k_is); (case k14 => k_is); (case a15 => k_is); (case l15 => k_is); (case c15 => k_is); (case k15 => k_is); (case a16 => k_is); (case l16 => k_is); (case c16 => k_is); (case k16 => k_is); (case z0 => k_is); (case z1 => k_is); (case z2 => k_is); (case z3 => k_is); (case z4 => k_is); (case z5 => k_is); (case z6 => k_is); (case z7 => k_is); (case z8 => k_is); (case z9 => k_is); (case z10 => k_is); (case z11 => k_is); (case q0 => k_is); (case q1 => k_is); (case q2 => k_is); (case q3 => k_is); (case r3 => k_is); (case n_InvalidStory => k_is); (case n_InvalidOperation => k_is); (case n_NothingToUndo => k_is); (case n_StoryError => k_is); (case x1_InvalidStory => k_exc); (case x2_InvalidStory => k_is); (case x3_InvalidStory => k_is); (case x4_InvalidStory => k_is); (case x1_InvalidOperation => k_exc); (case x2_InvalidOperation => k_is); (case x3_InvalidOperation => k_is); (case x4_InvalidOperation => k_is); (case x1_NothingToUndo => k_exc); (case x2_NothingToUndo => k_is); (case x3_NothingToUndo => k_is); (case x4_NothingToUndo => k_is); (case e1_InvalidStory => k_is); (case e2_InvalidStory => k_is); (case e3_InvalidStory => k_is); (case e4_InvalidStory => k_is); (case e5_InvalidStory => k_is); (case e6_InvalidStory => k_is); (case e1_InvalidOperation => k_is); (case e2_InvalidOperation => k_is); (case e3_InvalidOperation => k_is); (case e4_InvalidOperation => k_is); (case e5_InvalidOperation => k_is); (case e6_InvalidOperation => k_is); (case e1_NothingToUndo => k_is); (case e2_NothingToUndo => k_is); (case e3_NothingToUndo => k_is); (case e4_NothingToUndo => k_is); (case e5_NothingToUndo => k_is); (case e6_NothingToUndo => k_is); (case w1 => k_is); (case w2 => k_is); (case k_InvalidStory_StoryError => kit_is); (case m_InvalidStory_StoryError => kts_exm); (case k_InvalidOperation_StoryError => kit_is); (case m_InvalidOperation_StoryError => kts_exm); (case k_NothingToUndo_StoryError => kit_is); (case m_NothingToUndo_StoryError => kts_exm); (case k_InvalidStory_InvalidStory => kit_is); (case m_InvalidStory_InvalidStory => kts_exm); (case k_InvalidOperation_InvalidStory => kit_is); (case m_InvalidOperation_InvalidStory => kts_exm); (case k_NothingToUndo_InvalidStory => kit_is); (case m_NothingToUndo_InvalidStory => kts_exm); (case k_InvalidStory_InvalidOperation => kit_is); (case m_InvalidStory_InvalidOperation => kts_exm); (case k_InvalidOperation_InvalidOperation => kit_is); (case m_InvalidOperation_InvalidOperation => kts_exm); (case k_NothingToUndo_InvalidOperation => kit_is); (case m_NothingToUndo_InvalidOperation => kts_exm); (case k_InvalidStory_NothingToUndo => kit_is); (case m_InvalidStory_NothingToUndo => kts_exm); (case k_InvalidOperation_NothingToUndo => kit_is); (case m_InvalidOperation_NothingToUndo => kts_exm); (case k_NothingToUndo_NothingToUndo => kit_is); (case m_NothingToUndo_NothingToUndo => kts_exm); (case n_Recorder => k_is); (case r_pg => k_is); (case r_hd => k_is); (case r_po => k_is); (case r_sa => k_is); (case r_st => k_is); (case r_kp => k_is); (case r_mk => k_is); (case r_kc => k_is); (case r_ne => k_is); (case r_mro => k_is); (case r_ca => k_is); (case r_cn => k_is); (case r_ct => k_is); (case k_Rr => kit_is); (case k_Rt => kit_is); (case k_Rs => kit_is); (case ra_init => k_is); (case ri_init => k_is); (case rl_init => k_is); (case rc_init => k_is); (case rk_init => k_is); (case ra_len => k_is); (case ri_len => k_is); (case rl_len => k_is); (case rc_len => k_is); (case rk_len => k_is); (case ra_str => k_is); (case ri_str => k_is); (case rl_str => k_is); (case rc_str => k_is); (case rk_str => k_is); (case ra_eq => k_is); (case ri_eq => k_is); (case rl_eq => k_is); (case rc_eq => k_is); (case rk_eq => k_is); (case ra_story => k_is); (case ri_story => k_is); (case rl_story => k_is); (case rc_story => k_is); (case rk_story => k_is); (case ra_record => k_is); (case ri_record => k_is); (case rl_record => k_is); (case rc_record => k_is); (case rk_record => k_is); (case ra_undo => k_is); (case ri_undo => k_is); (case rl_undo => k_is); (case rc_undo => k_is); (case rk_undo => k_is); (case ra_duplicate => k_is); (case ri_duplicate => k_is); (case rl_duplicate => k_is); (case rc_duplicate => k_is); (case rk_duplicate => k_is)
