import PyProof.Rows.All
import Wide.All
import OpenK.AllK
import Wide.FinOn
import HandS.ForMost
import HandS.ForExc
import HandS.IsInst
import HandS.Flow
import HandS.Wide
import HandS.TupAny
import KE.SortData
import KE.DataEq
import KE.KDictSum
import KE.KDictItemsList
import HandS.ListItems
import HandS.More
import KE.KDictZip
import HandS.DictComp
import HandS.Style
import KE.DataMinMax
import KE.DataFind
import HandS.Sort
import HandS.ExcCtx
import PyProof.ExcBaseAll.ValueError
import HandS.WordsExc
import HandS.HotCalls
import HandS.ExcIs
import KE.GoesZip
import KE.GoesComp
import KE.GoesEnum
import KE.Datum
import KE.DatumOrd
import KE.OsGo
import PySem.Challenge.RW_gladpayers_k51_books_by_hand
set_option Elab.async false
set_option maxRecDepth 100000
set_option maxHeartbeats 1000000
/-! GV: a layer of plain data over HandS. GV1: makers of plain tuples; what stands for what; the state; the lifts. -/
namespace G
open PySem PySem.Spec PyProof.Rows L2
section
variable {X : Cx} {e : Expr} {es : List Expr} {te : TE} {t : TA} {pos : Pos}
theorem tup_laid {pins : List (Addr × Obj)} {σ : L2.St} {H : Hp} {s : Shared} {tk : Nat} {its : List Value} {xs : List V} (I : Inv X pins σ H s) (r : Vals xs its) (hz : xs.length ≤ sizeLine) :
    Inv X pins σ (upd H s.heap.objs.size (.frz { cls := .type "tuple", data := .seq its.toArray } (.tup xs))) { s with heap := s.heap.push { cls := .type "tuple", data := .seq its.toArray }, toks := tk } :=
  I.laid (t' := tk) (fun b o q => Heap.get?_push_of_some _ q) (Nat.le_refl _) (show ObjOk X.prog X.w _ _ _ (.frz { cls := .type "tuple", data := .seq its.toArray } (.tup xs)) from ⟨Heap.get?_push_size _ rfl, hz, its, r, ⟨_, Heap.get?_push_size _ rfl, rfl, _, rfl⟩⟩)
def tTupP (t : TA) : TE := fun σ H Q => t σ H fun xs H1 => xs.length ≤ sizeLine ∧ ∀ p (o : Obj), H1 p = none → o.dict = none → Q (.ref p) (upd H1 p (.frz o (.tup xs)))
theorem pe_tupP {x1} (h : PA X es t) : PE X (.Tuple es x1 pos) (tTupP t) := by
  refine ⟨fun pins s σ H Q I hq => ?_⟩
  refine wpAny_Tuple_spliced (thn (h.run pos pins s σ H _ I hq) fun us s1 ⟨xs, H1, I1, r, z, q⟩ => ⟨by rw [← r.length]; exact z, ?_⟩)
  exact ⟨.ref s1.heap.objs.size, _, tup_laid (tk := s1.toks) I1 r z, rfl, q _ _ (I1.hok.fresh (Nat.le_refl _)) rfl⟩
def rCatP (K : PySem.W.Frag) : R2 := fun x y H Q => ∃ a b xs ys, x = .ref a ∧ y = .ref b ∧ SqT K H a xs ∧ SqT K H b ys ∧ xs.length + ys.length ≤ sizeLine ∧
  (xs = [] → Q (.ref b) H) ∧ (xs ≠ [] → ys = [] → Q (.ref a) H) ∧ (xs ≠ [] → ys ≠ [] → ∀ p (o : Obj), H p = none → o.dict = none → Q (.ref p) (upd H p (.frz o (.tup (xs ++ ys)))))
theorem op_catP : OpR X (binaryOp .Add) (rCatP X.K) := by
  intro pins s σ H x y v u Q I rx ry h
  obtain ⟨a, b, xs, ys, rfl, rfl, ha, hb, hz, q0, q1, q2⟩ := h
  cases rx
  cases ry
  obtain ⟨its, r1, p1, _⟩ := I.tuple ha
  obtain ⟨its2, r2, p2, _⟩ := I.tuple hb
  by_cases hx : xs = []
  · subst hx
    cases r1
    exact cat_tup0 p1 p2 ⟨.ref b, H, I, rfl, q0 rfl⟩
  · refine HT.cat_tup p1 p2 (fun z => hx (r1.nil_iff.mp z)) (fun z => ⟨.ref a, H, I, rfl, q1 hx (r2.nil_iff.mp z)⟩) (fun z => ?_) (by rw [← r1.length, ← r2.length]; exact hz)
    exact ⟨.ref s.heap.objs.size, _, tup_laid (tk := s.toks) I (r1.append r2) (by rw [List.length_append]; exact hz), rfl, q2 hx (fun w => z (r2.nil_iff.mpr w)) _ _ (I.hok.fresh (Nat.le_refl _)) rfl⟩
def rSlP (K : PySem.W.Frag) : V → Option Int → Option Int → Hp → VK → Prop := fun x lo hi H Q => ∃ a xs, x = .ref a ∧ SqT K H a xs ∧
  (HT.sIx xs.length 0 lo = 0 ∧ HT.sIx xs.length xs.length hi = xs.length → Q (.ref a) H) ∧ (¬ (HT.sIx xs.length 0 lo = 0 ∧ HT.sIx xs.length xs.length hi = xs.length) → ∀ p (o : Obj), H p = none → o.dict = none → Q (.ref p) (upd H p (.frz o (.tup (cutV xs lo hi)))))
theorem sl_tupP : SlR X (rSlP X.K) := by
  intro pins s σ H x v vl vu lo hi sl Q I rx hs pl pu h
  obtain ⟨a, xs, rfl, hx, q1, q2⟩ := h
  cases rx
  obtain ⟨its, r, ht, hz⟩ := I.tuple hx
  have hlen : its.toArray.size = xs.length := by rw [List.size_toArray]; exact r.length.symm
  refine ⟨"tuple", _, PyProof.Rows.slot_tuple_getitem.lookup, ht.typeIs, ?_⟩
  by_cases hw : HT.sIx xs.length 0 lo = 0 ∧ HT.sIx xs.length xs.length hi = xs.length
  · exact getItem_tuple_whole ht hs pl pu (by rw [hlen]; exact hw) ⟨.ref a, H, I, rfl, q1 hw⟩
  · refine HT.getItem_tuple_cut ht hs pl pu (by rw [hlen]; exact hw) ?_ (by rw [hlen]; exact hz)
    rw [hlen]
    exact ⟨.ref s.heap.objs.size, _, tup_laid (tk := s.toks) (xs := cutV xs lo hi) I ((r.drop (HT.sIx xs.length 0 lo)).take (HT.sIx xs.length xs.length hi - HT.sIx xs.length 0 lo)) (Nat.le_trans (cutV_length xs lo hi) hz), rfl, q2 hw _ _ (I.hok.fresh (Nat.le_refl _)) rfl⟩
theorem call_tupleP : CallR X (.type "tuple") (fun xs H Q => ∃ p ys, xs = [.ref p] ∧ ((SqL X.K H p ys ∧ ∀ l (o : Obj), H l = none → o.dict = none → Q (.ref l) (upd H l (.frz o (.tup ys)))) ∨ (SqT X.K H p ys ∧ Q (.ref p) H))) := by
  intro pins s σ H xs us Q I r h
  obtain ⟨p, ys, rfl, h⟩ := h
  obtain ⟨u, rfl, rx⟩ := vals1 r
  cases rx
  rcases h with ⟨hq, q⟩ | ⟨hq, q⟩
  · obtain ⟨its, r', pl, hz⟩ := I.list hq
    have hlen := r'.length
    refine call_tuple_list pl.isList (fun h' kp => ?_) (by simp only [List.size_toArray] <;> omega)
    have I1 : Inv X pins σ H { s with heap := h' } := I.kept (t' := s.toks) kp
    exact ⟨.ref h'.objs.size, _, tup_laid (tk := s.toks) I1 r' hz, rfl, q _ _ (I1.hok.fresh (Nat.le_refl _)) rfl⟩
  · obtain ⟨its, r', pl, hz⟩ := I.tuple hq
    exact call_tuple_same pl ⟨.ref p, H, I, rfl, q⟩
end
end G
namespace G
open PySem PySem.Spec PyProof.Rows L2

/-- what a slot holds: nothing; plain data (never changed); a list or dict of this frame's own; a parameter that is changed in place; any other value -/
inductive Sl where
  | un
  | dat (d : PyData)
  | own (d : PyData)
  | inn (a : Addr) (d : PyData)
  | raw (v : V)
  | scr (ns : List Int)
  | ob (a b : Addr) (d : PyData)
abbrev Ms := List Sl

def kD : Key → PyData
  | .inl i => .int i
  | .inr x => .str x

/-- a plain tuple: known to its object, which has no dict of its own -/
def TupP (K : PySem.W.Frag) (H : Hp) (a : Addr) (xs : List V) : Prop :=
  (∃ o, H a = some (.frz o (.tup xs)) ∧ o.dict = none) ∨
    ∃ (o : Obj) (its : Array Value) (n : Nat), K.lookup a = some o ∧ o.cls = .type "tuple" ∧ o.dict = none ∧ o.data = .seq its n ∧ its.size ≤ sizeLine ∧ Vals xs its.toList
theorem TupP.sq {K : PySem.W.Frag} {H : Hp} {a : Addr} {xs : List V} (h : TupP K H a xs) : SqT K H a xs := by
  rcases h with ⟨o, h, _⟩ | ⟨o, its, n, h1, h2, _, h4, h5, h6⟩
  · exact .inl (.inr ⟨o, h⟩)
  · exact .inr ⟨o, its, n, h1, h2, h4, h5, h6⟩
theorem TupP.mono {K : PySem.W.Frag} {H H' : Hp} {a : Addr} {xs : List V} (e : Same H H') (h : TupP K H a xs) : TupP K H' a xs := by
  rcases h with ⟨o, h, n⟩ | h
  · exact .inl ⟨o, e _ _ h, n⟩
  · exact .inr h

mutual
inductive Rep (K : PySem.W.Frag) (H : Hp) : V → PyData → Prop
  | non : Rep K H .non .none
  | bl (b : Bool) : Rep K H (.bl b) (.bool b)
  | int (i : Int) : Rep K H (.int i) (.int i)
  | str (x : Str) : Rep K H (.str x) (.str x)
  | lst {a : Addr} {xs : List V} {ds : List PyData} : H a = some (.lst xs) → RepAll K H xs ds → ds.length ≤ sizeLine → Rep K H (.ref a) (.list ds)
  | tup {a : Addr} {xs : List V} {ds : List PyData} : TupP K H a xs → RepAll K H xs ds → ds.length ≤ sizeLine → Rep K H (.ref a) (.tuple ds)
  | dct {a : Addr} {kvs : List (Key × V)} {es : List (PyData × PyData)} : Rd H a (.dK kvs) → RepKV K H kvs es → Rep K H (.ref a) (.dict es)
inductive RepAll (K : PySem.W.Frag) (H : Hp) : List V → List PyData → Prop
  | nil : RepAll K H [] []
  | cons {v : V} {vs : List V} {d : PyData} {ds : List PyData} : Rep K H v d → RepAll K H vs ds → RepAll K H (v :: vs) (d :: ds)
inductive RepKV (K : PySem.W.Frag) (H : Hp) : List (Key × V) → List (PyData × PyData) → Prop
  | nil : RepKV K H [] []
  | cons {k : Key} {v : V} {kvs : List (Key × V)} {d : PyData} {es : List (PyData × PyData)} : Rep K H v d → RepKV K H kvs es → RepKV K H ((k, v) :: kvs) ((kD k, d) :: es)
end

/-- what is frozen stands so in the heap; a dict may be locked -/
def SameW (F H : Hp) : Prop := ∀ a o, F a = some o → H a = some o ∨ ∃ ob kvs, o = .dK kvs ∧ H a = some (.frz ob (.dK kvs))
theorem _root_.L2.Same.w {F H : Hp} (h : Same F H) : SameW F H := fun a o e => .inl (h a o e)
theorem SameW.lst {F H : Hp} (h : SameW F H) {a : Addr} {xs : List V} (e : F a = some (.lst xs)) : H a = some (.lst xs) := by
  rcases h a _ e with h | ⟨_, _, q, _⟩
  · exact h
  · cases q
theorem SameW.frz {F H : Hp} (h : SameW F H) {a : Addr} {o : Obj} {u : HO} (e : F a = some (.frz o u)) : H a = some (.frz o u) := by
  rcases h a _ e with h | ⟨_, _, q, _⟩
  · exact h
  · cases q
theorem SameW.dk {F H : Hp} (h : SameW F H) {a : Addr} {kvs : List (Key × V)} (e : F a = some (.dK kvs)) : Rd H a (.dK kvs) := by
  rcases h a _ e with h | ⟨ob, _, q, h⟩
  · exact .inl h
  · cases q; exact .inr ⟨ob, h⟩
theorem SameW.rd {F H : Hp} (h : SameW F H) {a : Addr} {kvs : List (Key × V)} (e : Rd F a (.dK kvs)) : Rd H a (.dK kvs) := by
  rcases e with e | ⟨o, e⟩
  · exact h.dk e
  · exact .inr ⟨o, h.frz e⟩
theorem SameW.free {F H : Hp} (h : SameW F H) {l : Addr} (e : H l = Option.none) : F l = Option.none := by
  cases q : F l with
  | none => rfl
  | some o =>
    rcases h l o q with z | ⟨_, _, _, z⟩ <;> (rw [z] at e; cases e)
theorem SameW.after {F G H : Hp} (a : Same F G) (b : SameW G H) : SameW F H := fun c o h => b c o (a c o h)
theorem SameW.before {F G H : Hp} (a : SameW F G) (b : Same G H) : SameW F H := fun c o h => by
  rcases a c o h with z | ⟨ob, kvs, e, z⟩
  · exact .inl (b c o z)
  · exact .inr ⟨ob, kvs, e, b c _ z⟩
theorem TupP.monoW {K : PySem.W.Frag} {H H' : Hp} {a : Addr} {xs : List V} (e : SameW H H') (h : TupP K H a xs) : TupP K H' a xs := by
  rcases h with ⟨o, h, n⟩ | h
  · exact .inl ⟨o, e.frz h, n⟩
  · exact .inr h
theorem SameW.seq {K : PySem.W.Frag} {H H' : Hp} {a : Addr} {xs : List V} (e : SameW H H') (h : SqL K H a xs) : SqL K H' a xs := by
  rcases h with (h | ⟨o, h⟩) | h
  · exact .inl (.inl (e.lst h))
  · exact .inl (.inr ⟨o, e.frz h⟩)
  · exact .inr h
section
variable {K : PySem.W.Frag} {H H' : Hp}
mutual
theorem Rep.monoW (e : SameW H H') : ∀ {v : V} {d : PyData}, Rep K H v d → Rep K H' v d
  | _, _, .non => .non
  | _, _, .bl b => .bl b
  | _, _, .int i => .int i
  | _, _, .str x => .str x
  | _, _, .lst h r z => .lst (e.lst h) (RepAll.monoW e r) z
  | _, _, .tup h r z => .tup (h.monoW e) (RepAll.monoW e r) z
  | _, _, .dct h r => .dct (e.rd h) (RepKV.monoW e r)
theorem RepAll.monoW (e : SameW H H') : ∀ {vs : List V} {ds : List PyData}, RepAll K H vs ds → RepAll K H' vs ds
  | _, _, .nil => .nil
  | _, _, .cons h r => .cons (Rep.monoW e h) (RepAll.monoW e r)
theorem RepKV.monoW (e : SameW H H') : ∀ {vs : List (Key × V)} {ds : List (PyData × PyData)}, RepKV K H vs ds → RepKV K H' vs ds
  | _, _, .nil => .nil
  | _, _, .cons h r => .cons (Rep.monoW e h) (RepKV.monoW e r)
end

theorem Rep.mono (e : Same H H') {v : V} {d : PyData} (h : Rep K H v d) : Rep K H' v d := h.monoW e.w
theorem RepAll.mono (e : Same H H') {vs : List V} {ds : List PyData} (h : RepAll K H vs ds) : RepAll K H' vs ds := h.monoW e.w
theorem RepKV.mono (e : Same H H') {vs : List (Key × V)} {ds : List (PyData × PyData)} (h : RepKV K H vs ds) : RepKV K H' vs ds := h.monoW e.w

theorem RepAll.length : ∀ {vs : List V} {ds : List PyData}, RepAll K H vs ds → vs.length = ds.length
  | _, _, .nil => rfl
  | _, _, .cons _ r => by rw [List.length_cons, List.length_cons, RepAll.length r]
theorem RepAll.get : ∀ {vs : List V} {ds : List PyData} {i : Nat} {d : PyData}, RepAll K H vs ds → ds[i]? = some d → ∃ v, vs[i]? = some v ∧ Rep K H v d
  | _, _, _, _, .nil, e => by simp at e
  | _, _, 0, _, .cons h _, e => by simp at e; subst e; exact ⟨_, rfl, h⟩
  | _, _, i + 1, d, .cons _ r, e => by
    obtain ⟨v, h1, h2⟩ := RepAll.get (i := i) (d := d) r (by simpa using e)
    exact ⟨v, by simpa using h1, h2⟩
theorem RepAll.get' : ∀ {vs : List V} {ds : List PyData} {i : Nat} {v : V}, RepAll K H vs ds → vs[i]? = some v → ∃ d, ds[i]? = some d ∧ Rep K H v d
  | _, _, _, _, .nil, e => by simp at e
  | _, _, 0, _, .cons h _, e => by simp at e; subst e; exact ⟨_, rfl, h⟩
  | _, _, i + 1, v, .cons _ r, e => by
    obtain ⟨d, h1, h2⟩ := RepAll.get' (i := i) (v := v) r (by simpa using e)
    exact ⟨d, by simpa using h1, h2⟩
theorem RepAll.append : ∀ {vs ws : List V} {ds es : List PyData}, RepAll K H vs ds → RepAll K H ws es → RepAll K H (vs ++ ws) (ds ++ es)
  | _, _, _, _, .nil, s => s
  | _, _, _, _, .cons h r, s => .cons h (RepAll.append r s)
theorem RepAll.take : ∀ {vs : List V} {ds : List PyData} (n : Nat), RepAll K H vs ds → RepAll K H (vs.take n) (ds.take n)
  | _, _, 0, _ => .nil
  | _, _, _ + 1, .nil => .nil
  | _, _, n + 1, .cons h r => .cons h (RepAll.take n r)
theorem RepAll.drop : ∀ {vs : List V} {ds : List PyData} (n : Nat), RepAll K H vs ds → RepAll K H (vs.drop n) (ds.drop n)
  | _, _, 0, r => r
  | _, _, _ + 1, .nil => .nil
  | _, _, n + 1, .cons _ r => RepAll.drop n r
theorem RepAll.reverse : ∀ {vs : List V} {ds : List PyData}, RepAll K H vs ds → RepAll K H vs.reverse ds.reverse
  | _, _, .nil => .nil
  | _, _, .cons h r => by rw [List.reverse_cons, List.reverse_cons]; exact r.reverse.append (.cons h .nil)
theorem RepAll.set {v : V} {d : PyData} (h : Rep K H v d) : ∀ {vs : List V} {ds : List PyData} (i : Nat), RepAll K H vs ds → RepAll K H (vs.set i v) (ds.set i d)
  | _, _, _, .nil => .nil
  | _, _, 0, .cons _ r => .cons h r
  | _, _, i + 1, .cons q r => .cons q (RepAll.set h i r)
theorem RepAll.eraseIdx : ∀ {vs : List V} {ds : List PyData} (i : Nat), RepAll K H vs ds → RepAll K H (vs.eraseIdx i) (ds.eraseIdx i)
  | _, _, _, .nil => .nil
  | _, _, 0, .cons _ r => r
  | _, _, i + 1, .cons q r => .cons q (RepAll.eraseIdx i r)
theorem RepAll.ints : ∀ (ns : List Int), RepAll K H (ns.map V.int) (ns.map PyData.int)
  | [] => .nil
  | n :: r => .cons (.int n) (RepAll.ints r)
theorem RepAll.ints_of : ∀ {vs : List V} {ns : List Int}, RepAll K H vs (ns.map PyData.int) → vs = ns.map V.int
  | _, [], .nil => rfl
  | _, n :: r, .cons h q => by cases h; rw [RepAll.ints_of q]; rfl
theorem RepAll.bls_of : ∀ {vs : List V} {ns : List Bool}, RepAll K H vs (ns.map PyData.bool) → vs = ns.map V.bl
  | _, [], .nil => rfl
  | _, n :: r, .cons h q => by cases h; rw [RepAll.bls_of q]; rfl
theorem RepAll.strs_of : ∀ {vs : List V} {ns : List Str}, RepAll K H vs (ns.map PyData.str) → vs = ns.map V.str
  | _, [], .nil => rfl
  | _, n :: r, .cons h q => by cases h; rw [RepAll.strs_of q]; rfl

theorem RepKV.length : ∀ {vs : List (Key × V)} {ds : List (PyData × PyData)}, RepKV K H vs ds → vs.length = ds.length
  | _, _, .nil => rfl
  | _, _, .cons _ r => by rw [List.length_cons, List.length_cons, RepKV.length r]
end

/-- the contents of a thing that is changed -/
def Cont (K : PySem.W.Frag) (F H : Hp) (a : Addr) : PyData → Prop
  | .list ds => ∃ xs, H a = some (.lst xs) ∧ RepAll K F xs ds ∧ ds.length ≤ sizeLine
  | .dict es => ∃ kvs, H a = some (.dK kvs) ∧ RepKV K F kvs es
  | _ => False
theorem Cont.some {K : PySem.W.Frag} {F H : Hp} {a : Addr} {d : PyData} (h : Cont K F H a d) : ∃ o, H a = some o := by
  cases d with
  | list ds => obtain ⟨xs, e, _, _⟩ := h; exact ⟨_, e⟩
  | dict es => obtain ⟨kvs, e, _⟩ := h; exact ⟨_, e⟩
  | _ => exact h.elim
theorem Cont.mono {K : PySem.W.Frag} {F H F' H' : Hp} {a : Addr} {d : PyData} (h : Cont K F H a d) (e : Same F F') (q : ∀ o, H a = Option.some o → H' a = Option.some o) : Cont K F' H' a d := by
  cases d with
  | list ds => obtain ⟨xs, h1, h2, h3⟩ := h; exact ⟨xs, q _ h1, h2.mono e, h3⟩
  | dict es => obtain ⟨kvs, h1, h2⟩ := h; exact ⟨kvs, q _ h1, h2.mono e⟩
  | _ => exact h.elim

def SlOk (K : PySem.W.Frag) (Z F H : Hp) (v : Option V) : Sl → Prop
  | .un => True
  | .dat d => ∃ x, v = some x ∧ Rep K F x d
  | .own d => ∃ a, v = some (.ref a) ∧ Z a = none ∧ F a = none ∧ Cont K F H a d
  | .inn a d => v = some (.ref a) ∧ Z a = none ∧ F a = none ∧ Cont K F H a d
  | .raw x => v = some x
  | .scr ns => ∃ a, v = some (.ref a) ∧ SqL K F a (ns.map V.int)
  | .ob a b d => v = some (.ref a) ∧ (∃ C dx, PySem.W.nsIn K mainGlobals "Book" = some (some (.ref C)) ∧ F a = some (.ins C dx [("rows", .ref b)])) ∧ Z b = none ∧ F b = none ∧ Cont K F H b d
/-- the address of a slot that is changed in place -/
def mutA (v : Option V) (s : Sl) (a : Addr) : Prop := (v = some (.ref a) ∧ ((∃ d, s = .own d) ∨ ∃ b d, s = .inn b d)) ∨ ∃ b d, s = .ob b a d

def at_ (σ : L2.St) (i : Nat) : Option V := (σ[i]?).join

/-- Z: what stands outside and must stay; F: what is frozen; ρ says what the slots σ hold -/
structure Stt (K : PySem.W.Frag) (Z F H : Hp) (σ : L2.St) (ρ : Ms) : Prop where
  fh : SameW F H
  zh : Same Z H
  zf : ∀ a, Z a ≠ none → F a = none
  len : σ.length = ρ.length
  sl : ∀ i s, ρ[i]? = some s → SlOk K Z F H (at_ σ i) s
  ap : ∀ i j s t a, ρ[i]? = some s → ρ[j]? = some t → mutA (at_ σ i) s a → mutA (at_ σ j) t a → i = j

/-- what is wanted of an exception: the names of classes, and the layer's wish -/
structure Wish where
  RE : Str → Prop
  E : XK
def Wish.no : Wish := ⟨fun _ => False, E0⟩
def WOk (mg : Str → Option Value) (W : Wish) (Z F : Hp) : Prop :=
  ∀ n C F' H', W.RE n → mg n = some (.ref C) → Same F F' → SameW F' H' → Same Z H' → (∀ a, Z a ≠ none → F' a = none) → W.E (.ref C) none H'
theorem WOk.mono {mg : Str → Option Value} {W : Wish} {Z F F' : Hp} (h : WOk mg W Z F) (e : Same F F') : WOk mg W Z F' :=
  fun n C F2 H2 r m s => h n C F2 H2 r m (e.trans s)
theorem WOk.no {mg : Str → Option Value} {Z F : Hp} : WOk mg Wish.no Z F := fun _ _ _ _ r => r.elim

abbrev ME := Ms → (PyData → Ms → Prop) → Prop
abbrev MB := Ms → (Bool → Ms → Prop) → Prop
structure PEnd where
  nx : Ms → Prop
  rt : PyData → Ms → Prop
  ro : PyData → Ms → Prop := fun _ _ => False
  bk : Ms → Prop := fun _ => False
  ct : Ms → Prop := fun _ => False
abbrev MS := PEnd → Ms → Prop

section
variable (K : PySem.W.Frag) (mg : Str → Option Value) (W : Wish)
/-- an expression whose value is plain data -/
def lE (t : ME) : TE := fun σ H Q => ∃ Z F ρ R, Stt K Z F H σ ρ ∧ WOk mg W Z F ∧ t ρ R ∧ ∀ d ρ' v F' H', R d ρ' → Same F F' → Stt K Z F' H' σ ρ' → Rep K F' v d → Q v H'
/-- frozen, or a container by itself whose contents are frozen -/
def RepC (K : PySem.W.Frag) (F H : Hp) (v : V) (d : PyData) : Prop := Rep K F v d ∨ ∃ a, v = .ref a ∧ F a = none ∧ Cont K F H a d
def lC (t : ME) : TE := fun σ H Q => ∃ Z F ρ R, Stt K Z F H σ ρ ∧ WOk mg W Z F ∧ t ρ R ∧ ∀ d ρ' v F' H', R d ρ' → Same F F' → Stt K Z F' H' σ ρ' → RepC K F' H' v d → Q v H'
/-- an expression whose value is a new list or dict that nothing else holds -/
def lN (t : ME) : TE := fun σ H Q => ∃ Z F ρ R, Stt K Z F H σ ρ ∧ WOk mg W Z F ∧ t ρ R ∧ ∀ d ρ' a F' H', R d ρ' → Same F F' → Stt K Z F' H' σ ρ' → F' a = none → Z a = none → Cont K F' H' a d →
  (∀ i s, ρ'[i]? = some s → ¬ mutA (at_ σ i) s a) → Q (.ref a) H'
def lB (t : MB) : TT := fun σ H Q => ∃ Z F ρ R, Stt K Z F H σ ρ ∧ WOk mg W Z F ∧ t ρ R ∧ ∀ b ρ' F' H', R b ρ' → Same F F' → Stt K Z F' H' σ ρ' → Q b H'
structure EndsOk (Z F : Hp) (DR : PEnd) (D : Ends) : Prop where
  nx : ∀ ρ' σ' F' H', DR.nx ρ' → Same F F' → Stt K Z F' H' σ' ρ' → D.nx σ' H'
  rt : ∀ d ρ' v σ' F' H', DR.rt d ρ' → Same F F' → Stt K Z F' H' σ' ρ' → Rep K F' v d → D.rt v H'
  ro : ∀ d ρ' a σ' F' H', DR.ro d ρ' → Same F F' → Stt K Z F' H' σ' ρ' → F' a = none → Z a = none → Cont K F' H' a d → (∀ i s, ρ'[i]? = some s → ¬ mutA (at_ σ' i) s a) → D.rt (.ref a) H'
  bk : ∀ ρ' σ' F' H', DR.bk ρ' → Same F F' → Stt K Z F' H' σ' ρ' → D.bk σ' H'
  ct : ∀ ρ' σ' F' H', DR.ct ρ' → Same F F' → Stt K Z F' H' σ' ρ' → D.ct σ' H'
def lS (t : MS) : TS := fun D σ H => ∃ Z F ρ DR, Stt K Z F H σ ρ ∧ WOk mg W Z F ∧ t DR ρ ∧ EndsOk K Z F DR D
end
theorem EndsOk.mono {K : PySem.W.Frag} {Z F F' : Hp} {DR : PEnd} {D : Ends} (h : EndsOk K Z F DR D) (e : Same F F') : EndsOk K Z F' DR D :=
  ⟨fun ρ' σ' F2 H' a b => h.nx ρ' σ' F2 H' a (e.trans b), fun d ρ' v σ' F2 H' a b => h.rt d ρ' v σ' F2 H' a (e.trans b), fun d ρ' v σ' F2 H' a b => h.ro d ρ' v σ' F2 H' a (e.trans b),
    fun ρ' σ' F2 H' a b => h.bk ρ' σ' F2 H' a (e.trans b), fun ρ' σ' F2 H' a b => h.ct ρ' σ' F2 H' a (e.trans b)⟩

theorem PEw {X : Cx} {e : Expr} {t t' : TE} (h : PE X e t) (w : ∀ σ H Q, t' σ H Q → t σ H Q) : PE X e t' := ⟨fun pins s σ H Q I q => h.run pins s σ H Q I (w σ H Q q)⟩
theorem PTw {X : Cx} {e : Expr} {t t' : TT} (h : PT X e t) (w : ∀ σ H Q, t' σ H Q → t σ H Q) : PT X e t' := ⟨fun pins s σ H Q I q => h.run pins s σ H Q I (w σ H Q q)⟩
theorem PAw {X : Cx} {e : List Expr} {t t' : TA} (h : PA X e t) (w : ∀ σ H Q, t' σ H Q → t σ H Q) : PA X e t' := ⟨fun pos pins s σ H Q I q => h.run pos pins s σ H Q I (w σ H Q q)⟩
theorem PSw {X : Cx} {e : Stmt} {t t' : TS} (h : PS X e t) (w : ∀ D σ H, t' D σ H → t D σ H) : PS X e t' := ⟨fun pins s σ H D I q => h.run pins s σ H D I (w D σ H q)⟩
theorem PSsw {X : Cx} {e : List Stmt} {t t' : TS} (h : PSs X e t) (w : ∀ D σ H, t' D σ H → t D σ H) : PSs X e t' := ⟨fun pins s σ H D I q => h.run pins s σ H D I (w D σ H q)⟩

/-! ### the state -/
section
variable {K : PySem.W.Frag} {Z F H : Hp} {σ : L2.St} {ρ : Ms}
theorem at_some {i : Nat} {v : V} (h : at_ σ i = some v) : σ[i]? = some (some v) := by
  unfold at_ at h
  cases e : σ[i]? with
  | none => rw [e] at h; cases h
  | some o => rw [e] at h; exact congrArg some h
theorem at_of {i : Nat} {v : V} (h : σ[i]? = some (some v)) : at_ σ i = some v := by unfold at_; rw [h]; rfl
theorem Stt.lt (S : Stt K Z F H σ ρ) {i : Nat} {s : Sl} (h : ρ[i]? = some s) : i < σ.length := by
  rw [S.len]; exact (List.getElem?_eq_some_iff.mp h).1
theorem SlOk.mut {v : Option V} {s : Sl} {a : Addr} (h : SlOk K Z F H v s) (m : mutA v s a) : Z a = none ∧ F a = none ∧ ∃ o, H a = some o := by
  obtain ⟨e, ⟨d, rfl⟩ | ⟨b, d, rfl⟩⟩ | ⟨b, d, rfl⟩ := m
  · obtain ⟨b, e', z, f, c⟩ := h
    rw [e] at e'; cases e'
    exact ⟨z, f, c.some⟩
  · obtain ⟨e', z, f, c⟩ := h
    rw [e] at e'; cases e'
    exact ⟨z, f, c.some⟩
  · obtain ⟨_, _, z, f, c⟩ := h
    exact ⟨z, f, c.some⟩
theorem Stt.mut (S : Stt K Z F H σ ρ) {i : Nat} {s : Sl} {a : Addr} (h : ρ[i]? = some s) (m : mutA (at_ σ i) s a) : Z a = none ∧ F a = none ∧ ∃ o, H a = some o := (S.sl i s h).mut m

/-- a slot's word behind a change of the heap that leaves its own thing -/
theorem SlOk.move {Z' F' H' : Hp} {v : Option V} {s : Sl} (h : SlOk K Z F H v s) (e : Same F F') (k : ∀ a o, mutA v s a → H a = some o → H' a = some o) (z : ∀ a, mutA v s a → Z' a = none) (f : ∀ a, mutA v s a → F' a = none) : SlOk K Z' F' H' v s := by
  cases s with
  | un => trivial
  | dat d => obtain ⟨x, h1, h2⟩ := h; exact ⟨x, h1, h2.mono e⟩
  | raw x => exact h
  | scr ns => obtain ⟨a, h1, h2⟩ := h; exact ⟨a, h1, e.seq h2⟩
  | own d =>
    obtain ⟨a, h1, h2, h3, h4⟩ := h
    have m : mutA v (.own d) a := .inl ⟨h1, .inl ⟨d, rfl⟩⟩
    exact ⟨a, h1, z a m, f a m, h4.mono e fun o q => k a o m q⟩
  | inn a d =>
    obtain ⟨h1, h2, h3, h4⟩ := h
    have m : mutA v (.inn a d) a := .inl ⟨h1, .inr ⟨a, d, rfl⟩⟩
    exact ⟨h1, z a m, f a m, h4.mono e fun o q => k a o m q⟩
  | ob a b d =>
    obtain ⟨h1, ⟨C, dx, hC, h5⟩, h2, h3, h4⟩ := h
    have m : mutA v (.ob a b d) b := .inr ⟨a, d, rfl⟩
    exact ⟨h1, ⟨C, dx, hC, e _ _ h5⟩, z b m, f b m, h4.mono e fun o q => k b o m q⟩

theorem same_upd {H : Hp} {p : Addr} {o : HO} (h : H p = none) : Same H (upd H p o) := fun b u e => by
  rw [upd_ne (ne_of_none e h)]; exact e
theorem upd_same_upd {F H : Hp} {p : Addr} {o : HO} (h : SameW F H) : SameW (upd F p o) (upd H p o) := fun b u e => by
  by_cases hb : b = p
  · subst hb; rw [upd_same] at e ⊢; exact .inl e
  · rw [upd_ne hb] at e ⊢; exact h b u e

/-- a new frozen thing -/
theorem Stt.new (S : Stt K Z F H σ ρ) {p : Addr} (o : HO) (h : H p = none) : Stt K Z (upd F p o) (upd H p o) σ ρ := by
  have fp : F p = none := S.fh.free h
  have zp : Z p = none := S.zh.free h
  refine ⟨upd_same_upd S.fh, S.zh.trans (same_upd h), fun a q => ?_, S.len, fun i s e => ?_, S.ap⟩
  · rw [upd_ne (fun z => q (by rw [z]; exact zp))]; exact S.zf a q
  · refine (S.sl i s e).move (same_upd fp) (fun a u m q => ?_) (fun a m => (S.mut e m).1) fun a m => ?_
    · rw [upd_ne (ne_of_none q h)]; exact q
    · obtain ⟨_, f, u, q⟩ := S.mut e m
      rw [upd_ne (ne_of_none q h)]; exact f
/-- a new thing, not frozen -/
theorem Stt.lay (S : Stt K Z F H σ ρ) {p : Addr} (o : HO) (h : H p = none) : Stt K Z F (upd H p o) σ ρ := by
  refine ⟨S.fh.before (same_upd h), S.zh.trans (same_upd h), S.zf, S.len, fun i s e => ?_, S.ap⟩
  refine (S.sl i s e).move (Same.refl _) (fun a u m q => ?_) (fun a m => (S.mut e m).1) fun a m => (S.mut e m).2.1
  rw [upd_ne (ne_of_none q h)]; exact q
theorem Stt.newAway (S : Stt K Z F H σ ρ) {p : Addr} (h : H p = none) : ∀ i s, ρ[i]? = some s → ¬ mutA (at_ σ i) s p := fun i s e m => by
  obtain ⟨_, _, o, q⟩ := S.mut e m
  rw [h] at q; cases q

/-- a slot is set to data -/
theorem at_set_self {i : Nat} {v : V} (h : i < σ.length) : at_ (σ.set i (some v)) i = some v := by
  unfold at_; rw [List.getElem?_set_self h]; rfl
theorem at_set_ne {i j : Nat} {v : Option V} (h : i ≠ j) : at_ (σ.set i v) j = at_ σ j := by
  unfold at_; rw [List.getElem?_set_ne h]
theorem Stt.put (S : Stt K Z F H σ ρ) {i : Nat} {v : V} {s : Sl} (h : SlOk K Z F H (some v) s) (ha : ∀ a, mutA (some v) s a → ∀ j t, ρ[j]? = some t → j ≠ i → ¬ mutA (at_ σ j) t a) : Stt K Z F H (σ.set i (some v)) (ρ.set i s) := by
  have key : ∀ j t, (ρ.set i s)[j]? = some t → (j = i ∧ t = s ∧ at_ (σ.set i (some v)) j = some v) ∨ (j ≠ i ∧ ρ[j]? = some t ∧ at_ (σ.set i (some v)) j = at_ σ j) := fun j t e => by
    by_cases hj : i = j
    · subst hj
      have hl : i < (ρ.set i s).length := (List.getElem?_eq_some_iff.mp e).1
      rw [List.length_set] at hl
      rw [List.getElem?_set_self hl] at e
      cases e
      exact .inl ⟨rfl, rfl, at_set_self (by rw [S.len]; exact hl)⟩
    · rw [List.getElem?_set_ne hj] at e
      exact .inr ⟨fun z => hj z.symm, e, at_set_ne hj⟩
  refine ⟨S.fh, S.zh, S.zf, by rw [List.length_set, List.length_set]; exact S.len, fun j t e => ?_, fun j k t u a e1 e2 m1 m2 => ?_⟩
  · rcases key j t e with ⟨_, rfl, z⟩ | ⟨_, q, z⟩
    · rw [z]; exact h
    · rw [z]; exact S.sl j t q
  · rcases key j t e1 with ⟨a1, rfl, z1⟩ | ⟨a1, q1, z1⟩ <;> rcases key k u e2 with ⟨a2, b2, z2⟩ | ⟨a2, q2, z2⟩
    · rw [a1, a2]
    · rw [z1] at m1; rw [z2] at m2
      exact (ha a m1 k u q2 a2 m2).elim
    · subst b2
      rw [z1] at m1; rw [z2] at m2
      exact (ha a m2 j t q1 a1 m1).elim
    · rw [z1] at m1; rw [z2] at m2
      exact S.ap j k t u a q1 q2 m1 m2
theorem noMut_dat {v : Option V} {d : PyData} {a : Addr} : ¬ mutA v (.dat d) a := fun h => by
  rcases h with ⟨_, ⟨_, h⟩ | ⟨_, _, h⟩⟩ | ⟨_, _, h⟩ <;> cases h
theorem noMut_un {v : Option V} {a : Addr} : ¬ mutA v .un a := fun h => by
  rcases h with ⟨_, ⟨_, h⟩ | ⟨_, _, h⟩⟩ | ⟨_, _, h⟩ <;> cases h
theorem noMut_raw {v : Option V} {x : V} {a : Addr} : ¬ mutA v (.raw x) a := fun h => by
  rcases h with ⟨_, ⟨_, h⟩ | ⟨_, _, h⟩⟩ | ⟨_, _, h⟩ <;> cases h
theorem noMut_scr {v : Option V} {x : List Int} {a : Addr} : ¬ mutA v (.scr x) a := fun h => by
  rcases h with ⟨_, ⟨_, h⟩ | ⟨_, _, h⟩⟩ | ⟨_, _, h⟩ <;> cases h
theorem mut_own {v : Option V} {d : PyData} {a : Addr} (h : mutA v (.own d) a) : v = some (.ref a) := by
  rcases h with ⟨h, _⟩ | ⟨_, _, h⟩
  · exact h
  · cases h
theorem mut_inn {v : Option V} {d : PyData} {a b : Addr} (h : mutA v (.inn b d) a) : v = some (.ref a) := by
  rcases h with ⟨h, _⟩ | ⟨_, _, h⟩
  · exact h
  · cases h
theorem mut_ob {v : Option V} {d : PyData} {a b c : Addr} (h : mutA v (.ob a b d) c) : c = b := by
  rcases h with ⟨_, ⟨_, h⟩ | ⟨_, _, h⟩⟩ | ⟨_, _, h⟩ <;> cases h
  rfl
theorem Stt.putDat (S : Stt K Z F H σ ρ) (i : Nat) {v : V} {d : PyData} (h : Rep K F v d) : Stt K Z F H (σ.set i (some v)) (ρ.set i (.dat d)) :=
  S.put ⟨v, rfl, h⟩ fun a m => (noMut_dat m).elim
theorem Stt.putRaw (S : Stt K Z F H σ ρ) (i : Nat) (v : V) : Stt K Z F H (σ.set i (some v)) (ρ.set i (.raw v)) :=
  S.put rfl fun a m => (noMut_raw m).elim
theorem Stt.putOwn (S : Stt K Z F H σ ρ) (i : Nat) {a : Addr} {d : PyData} (f : F a = none) (z : Z a = none) (c : Cont K F H a d) (aw : ∀ i s, ρ[i]? = some s → ¬ mutA (at_ σ i) s a) : Stt K Z F H (σ.set i (some (.ref a))) (ρ.set i (.own d)) :=
  S.put ⟨a, rfl, z, f, c⟩ fun b m j t q _ => by
    cases mut_own m
    exact aw j t q
/-- weaker words of the slots -/
theorem Stt.weak (S : Stt K Z F H σ ρ) {σ' : L2.St} {ρ' : Ms} (l : σ'.length = ρ'.length) (h : ∀ i s, ρ'[i]? = some s → s = .un ∨ (ρ[i]? = some s ∧ at_ σ' i = at_ σ i)) : Stt K Z F H σ' ρ' := by
  refine ⟨S.fh, S.zh, S.zf, l, fun i s e => ?_, fun i j s t a e1 e2 m1 m2 => ?_⟩
  · rcases h i s e with rfl | ⟨q, z⟩
    · trivial
    · rw [z]; exact S.sl i s q
  · rcases h i s e1 with rfl | ⟨q1, z1⟩
    · exact (noMut_un m1).elim
    · rcases h j t e2 with rfl | ⟨q2, z2⟩
      · exact (noMut_un m2).elim
      · rw [z1] at m1; rw [z2] at m2
        exact S.ap i j s t a q1 q2 m1 m2
end
end G


set_option Elab.async false
set_option maxRecDepth 100000
set_option maxHeartbeats 1000000
/-! GV2: expressions. -/
namespace G
open PySem PySem.Spec PyProof.Rows L2
abbrev LE (X : Cx) (W : Wish) (t : ME) : TE := lE X.K X.mg W t
abbrev LC (X : Cx) (W : Wish) (t : ME) : TE := lC X.K X.mg W t
abbrev LN (X : Cx) (W : Wish) (t : ME) : TE := lN X.K X.mg W t
abbrev LB (X : Cx) (W : Wish) (t : MB) : TT := lB X.K X.mg W t
abbrev LS (X : Cx) (W : Wish) (t : MS) : TS := lS X.K X.mg W t

def slot : Ms → Nat → Sl
  | [], _ => .un
  | s :: _, 0 => s
  | _ :: r, i + 1 => slot r i
theorem slot_some : ∀ {ρ : Ms} {i : Nat} {s : Sl}, slot ρ i = s → s ≠ .un → ρ[i]? = some s
  | [], _, _, h, n => (n h.symm).elim
  | s :: _, 0, _, h, _ => congrArg some h
  | _ :: r, i + 1, s, h, n => by
    rw [List.getElem?_cons_succ]
    exact slot_some (ρ := r) (i := i) h n

/-! ### names -/
def mVar (i : Nat) : ME := fun ρ R => match slot ρ i with
  | .dat d => R d ρ
  | _ => False
def mVarC (i : Nat) : ME := fun ρ R => match slot ρ i with
  | .dat d => R d ρ
  | .own d => R d ρ
  | .inn _ d => R d ρ
  | _ => False
def mFz (i : Nat) : ME := fun ρ R => match slot ρ i with
  | .dat d => R d ρ
  | .own d => R d (ρ.set i (.dat d))
  | _ => False
def mC (d : PyData) : ME := fun ρ R => R d ρ

section
variable {X : Cx} {W : Wish} {pos p : Pos} {x : Str}
theorem mVar_eq {i : Nat} {ρ : Ms} {R : PyData → Ms → Prop} (h : mVar i ρ R) : ∃ d, ρ[i]? = some (.dat d) ∧ R d ρ := by
  unfold mVar at h
  split at h
  · rename_i d e
    exact ⟨d, slot_some e (fun q => nomatch q), h⟩
  · exact h.elim
theorem g_var {i : Nat} (h : PE X (.Name x pos) (tVar i)) : PE X (.Name x pos) (LE X W (mVar i)) := by
  refine PEw h ?_
  rintro σ H Q ⟨Z, F, ρ, R, S, w, t, q⟩
  obtain ⟨d, e, r⟩ := mVar_eq t
  obtain ⟨v, e1, e2⟩ := S.sl i _ e
  exact ⟨v, at_some e1, q d ρ v F H r (Same.refl _) S e2⟩
theorem g_varC {i : Nat} (h : PE X (.Name x pos) (tVar i)) : PE X (.Name x pos) (LC X W (mVarC i)) := by
  refine PEw h ?_
  rintro σ H Q ⟨Z, F, ρ, R, S, w, t, q⟩
  unfold mVarC at t
  split at t
  · rename_i d e
    obtain ⟨v, e1, e2⟩ := S.sl i _ (slot_some e (fun q => nomatch q))
    exact ⟨v, at_some e1, q d ρ v F H t (Same.refl _) S (.inl e2)⟩
  · rename_i d e
    obtain ⟨a, e1, z, f, c⟩ := S.sl i _ (slot_some e (fun q => nomatch q))
    exact ⟨.ref a, at_some e1, q d ρ _ F H t (Same.refl _) S (.inr ⟨a, rfl, f, c⟩)⟩
  · rename_i a d e
    obtain ⟨e1, z, f, c⟩ := S.sl i _ (slot_some e (fun q => nomatch q))
    exact ⟨.ref a, at_some e1, q d ρ _ F H t (Same.refl _) S (.inr ⟨a, rfl, f, c⟩)⟩
  · exact t.elim
/-- frozen -/
theorem Stt.freeze {K : PySem.W.Frag} {Z F H : Hp} {σ : L2.St} {ρ : Ms} {i : Nat} {d : PyData} (S : Stt K Z F H σ ρ) (e : ρ[i]? = some (.own d)) :
    ∃ a o, at_ σ i = some (.ref a) ∧ F a = none ∧ H a = some o ∧ Same F (upd F a o) ∧ Stt K Z (upd F a o) H σ (ρ.set i (.dat d)) ∧ Rep K (upd F a o) (.ref a) d := by
  obtain ⟨a, e1, z, f, c⟩ := S.sl i _ e
  obtain ⟨o, ho⟩ := c.some
  have sf : Same F (upd F a o) := same_upd f
  have hr : Rep K (upd F a o) (.ref a) d := by
    cases d with
    | list ds =>
      obtain ⟨xs, h1, h2, h3⟩ := c
      rw [ho] at h1; cases h1
      exact .lst upd_same (h2.mono sf) h3
    | dict es =>
      obtain ⟨kvs, h1, h2⟩ := c
      rw [ho] at h1; cases h1
      exact .dct (.inl upd_same) (h2.mono sf)
    | _ => exact c.elim
  have ma : mutA (at_ σ i) (.own d) a := .inl ⟨e1, .inl ⟨d, rfl⟩⟩
  refine ⟨a, o, e1, f, ho, sf, ⟨fun b u q => ?_, S.zh, fun b q => ?_, by rw [List.length_set]; exact S.len, fun j s q => ?_, fun j k s t b e2 e3 m1 m2 => ?_⟩, hr⟩
  · by_cases hb : b = a
    · subst hb; rw [upd_same] at q; cases q; exact .inl ho
    · rw [upd_ne hb] at q; exact S.fh b u q
  · rw [upd_ne (fun y => q (by rw [y]; exact z))]; exact S.zf b q
  · by_cases hj : i = j
    · subst hj
      rw [List.getElem?_set_self (List.getElem?_eq_some_iff.mp e).1] at q
      cases q
      exact ⟨_, e1, hr⟩
    · rw [List.getElem?_set_ne hj] at q
      refine (S.sl j s q).move sf (fun _ _ _ y => y) (fun b m => (S.mut q m).1) fun b m => ?_
      have hba : b ≠ a := fun y => hj (S.ap i j _ s a e q ma (y ▸ m))
      rw [upd_ne hba]
      exact (S.mut q m).2.1
  · have key : ∀ l y c, (ρ.set i (.dat d))[l]? = some y → mutA (at_ σ l) y c → ρ[l]? = some y := fun l y c q m => by
      by_cases hl : i = l
      · subst hl
        rw [List.getElem?_set_self (List.getElem?_eq_some_iff.mp e).1] at q
        cases q
        exact (noMut_dat m).elim
      · rwa [List.getElem?_set_ne hl] at q
    exact S.ap j k s t b (key j s b e2 m1) (key k t b e3 m2) m1 m2
theorem g_fz {i : Nat} (h : PE X (.Name x pos) (tVar i)) : PE X (.Name x pos) (LE X W (mFz i)) := by
  refine PEw h ?_
  rintro σ H Q ⟨Z, F, ρ, R, S, w, t, q⟩
  unfold mFz at t
  split at t
  · rename_i d e
    obtain ⟨v, e1, e2⟩ := S.sl i _ (slot_some e (fun q => nomatch q))
    exact ⟨v, at_some e1, q d ρ v F H t (Same.refl _) S e2⟩
  · rename_i d e
    obtain ⟨a, o, e1, _, _, sf, S', r⟩ := S.freeze (slot_some e (fun q => nomatch q))
    exact ⟨_, at_some e1, q d _ _ _ H t sf S' r⟩
  · exact t.elim
theorem g_c {e : Expr} {v : V} {d : PyData} (h : PE X e (tC v)) (r : ∀ F, Rep X.K F v d) : PE X e (LE X W (mC d)) := by
  refine PEw h ?_
  rintro σ H Q ⟨Z, F, ρ, R, S, w, t, q⟩
  exact q d ρ v F H t (Same.refl _) S (r F)
theorem g_int {i j pos} : PE X (.Constant (.int i) j pos) (LE X W (mC (.int i))) := g_c pe_int fun _ => .int _
theorem g_bl {i j pos} : PE X (.Constant (.bool i) j pos) (LE X W (mC (.bool i))) := g_c pe_bl fun _ => .bl _
theorem g_non {j pos} : PE X (.Constant .none j pos) (LE X W (mC .none)) := g_c pe_non fun _ => .non
theorem g_str {i j pos} : PE X (.Constant (.str i) j pos) (LE X W (mC (.str i))) := g_c pe_str fun _ => .str _

/-- data stand as containers, too -/
theorem g_C {e : Expr} {t : ME} (h : PE X e (LE X W t)) : PE X e (LC X W t) := by
  refine PEw h ?_
  rintro σ H Q ⟨Z, F, ρ, R, S, w, t, q⟩
  exact ⟨Z, F, ρ, R, S, w, t, fun d ρ' v F' H' r sf S' rv => q d ρ' v F' H' r sf S' (.inl rv)⟩
/-- a new thing, frozen -/
theorem lN_of_lE {t : ME} {σ : L2.St} {H : Hp} {Q : VK} (h : LE X W t σ H Q) : LN X W t σ H Q := by
  obtain ⟨Z, F, ρ, R, S, w, t, q⟩ := h
  refine ⟨Z, F, ρ, R, S, w, t, fun d ρ' a F' H' r sf S' fa za c aw => ?_⟩
  obtain ⟨o, ho⟩ := c.some
  have sf' : Same F' (upd F' a o) := same_upd fa
  have hr : Rep X.K (upd F' a o) (.ref a) d := by
    cases d with
    | list ds =>
      obtain ⟨xs, h1, h2, h3⟩ := c
      rw [ho] at h1; cases h1
      exact .lst upd_same (h2.mono sf') h3
    | dict es =>
      obtain ⟨kvs, h1, h2⟩ := c
      rw [ho] at h1; cases h1
      exact .dct (.inl upd_same) (h2.mono sf')
    | _ => exact c.elim
  refine q d ρ' _ _ H' r (sf.trans sf') ⟨fun b u y => ?_, S'.zh, fun b y => ?_, S'.len, fun j s y => ?_, S'.ap⟩ hr
  · by_cases hb : b = a
    · subst hb; rw [upd_same] at y; cases y; exact .inl ho
    · rw [upd_ne hb] at y; exact S'.fh b u y
  · rw [upd_ne (fun z => y (by rw [z]; exact za))]; exact S'.zf b y
  · refine (S'.sl j s y).move sf' (fun _ _ _ z => z) (fun b m => (S'.mut y m).1) fun b m => ?_
    have hba : b ≠ a := fun z => aw j s y (z ▸ m)
    rw [upd_ne hba]
    exact (S'.mut y m).2.1

theorem g_E {e : Expr} {t : ME} (h : PE X e (LN X W t)) : PE X e (LE X W t) := PEw h fun _ _ _ => lN_of_lE

theorem RepC.rep {K : PySem.W.Frag} {F H : Hp} {v : V} {d : PyData} (h : RepC K F H v d) (sf : SameW F H) : Rep K H v d := by
  rcases h with h | ⟨a, rfl, _, c⟩
  · exact h.monoW sf
  · cases d with
    | list ds => obtain ⟨xs, h1, h2, h3⟩ := c; exact .lst h1 (h2.monoW sf) h3
    | dict es => obtain ⟨kvs, h1, h2⟩ := c; exact .dct (.inl h1) (h2.monoW sf)
    | _ => exact c.elim

/-! ### plain data as the library reads them -/
mutual
theorem Rep.dp {K : PySem.W.Frag} {H : Hp} : ∀ {d : PyData} {v : V}, d.plain = true → Rep K H v d → Dp K H v d
  | .none, _, _, .non => .non
  | .bool b, _, _, .bl _ => .bl b
  | .int i, _, _, .int _ => .int i
  | .str x, _, _, .str _ => .str x
  | .list xs, _, h, .lst s r _ => .lst (SqL.of s) (RepAll.dp (by simpa [PyData.plain] using h) r)
  | .tuple xs, _, h, .tup s r _ => .tup s.sq (RepAll.dp (by simpa [PyData.plain] using h) r)
  | .dict _, _, h, _ => by simp [PyData.plain] at h
theorem RepAll.dp {K : PySem.W.Frag} {H : Hp} : ∀ {ds : List PyData} {vs : List V}, PyData.plainAll ds = true → RepAll K H vs ds → DpAll K H vs ds
  | [], _, _, .nil => .nil
  | d :: ds, _, h, .cons r q => by
    have h' : d.plain = true ∧ PyData.plainAll ds = true := by simpa [PyData.plainAll] using h
    exact .cons (Rep.dp h'.1 r) (RepAll.dp h'.2 q)
end
theorem Rep.reads {pins : List (Addr × Obj)} {σ : L2.St} {H : Hp} {s : Shared} {d : PyData} {v : V} {u : Value} (I : Inv X pins σ H s) (h : d.plain = true) (r : Rep X.K H v d) (q : RelV v u) : ∃ as, Reads s.heap u d as :=
  Dp.reads I d v u (r.dp h) q

/-- plain, not deep -/
structure Gd (n : Nat) (d : PyData) : Prop where
  pl : d.plain = true
  dp : d.depth ≤ n
theorem Gd.mono {n m : Nat} {d : PyData} (h : Gd n d) (e : n ≤ m) : Gd m d := ⟨h.pl, Nat.le_trans h.dp e⟩
theorem gd_int {n : Nat} {i : Int} : Gd n (.int i) := ⟨rfl, Nat.zero_le _⟩
theorem gd_str {n : Nat} {i : Str} : Gd n (.str i) := ⟨rfl, Nat.zero_le _⟩
theorem gd_bool {n : Nat} {i : Bool} : Gd n (.bool i) := ⟨rfl, Nat.zero_le _⟩
theorem gd_none {n : Nat} : Gd n .none := ⟨rfl, Nat.zero_le _⟩
theorem gd_all {n : Nat} : ∀ {xs : List PyData}, (∀ x ∈ xs, Gd n x) → PyData.plainAll xs = true ∧ PyData.depthAll xs ≤ n
  | [], _ => ⟨rfl, Nat.zero_le _⟩
  | x :: xs, h => by
    obtain ⟨h1, h2⟩ := gd_all (xs := xs) fun y hy => h y (List.mem_cons_of_mem _ hy)
    have h3 := h x List.mem_cons_self
    refine ⟨by simp only [PyData.plainAll, h1, h3.pl, Bool.and_self], ?_⟩
    rw [PyData.depthAll]
    exact Nat.max_le.mpr ⟨h3.dp, h2⟩
theorem gd_list {n : Nat} {xs : List PyData} (h : ∀ x ∈ xs, Gd n x) : Gd (n + 1) (.list xs) := by
  obtain ⟨h1, h2⟩ := gd_all h
  exact ⟨by rw [PyData.plain]; exact h1, by rw [PyData.depth]; exact Nat.succ_le_succ h2⟩
theorem gd_tup {n : Nat} {xs : List PyData} (h : ∀ x ∈ xs, Gd n x) : Gd (n + 1) (.tuple xs) := by
  obtain ⟨h1, h2⟩ := gd_all h
  exact ⟨by rw [PyData.plain]; exact h1, by rw [PyData.depth]; exact Nat.succ_le_succ h2⟩

/-! ### operators -/
def mBin (f : PyData → PyData → (PyData → Prop) → Prop) (ta tb : ME) : ME := fun ρ R => ta ρ fun d ρ1 => tb ρ1 fun e ρ2 => f d e fun c => R c ρ2
/-- an operator on frozen data -/
def OpG (X : Cx) (op : Value → Value → Sem Value) (f : PyData → PyData → (PyData → Prop) → Prop) : Prop :=
  ∀ (pins : List (Addr × Obj)) (s : Shared) (σ : L2.St) (Z F H : Hp) (ρ : Ms) (x y : V) (v u : Value) (d e : PyData) (R : PyData → Prop) (Q : VK),
    Inv X pins σ H s → Stt X.K Z F H σ ρ → Rep X.K F x d → Rep X.K F y e → RelV x v → RelV y u → f d e R →
    (∀ c z F' H', R c → Same F F' → Stt X.K Z F' H' σ ρ → Rep X.K F' z c → Q z H') → wpAny (model X.prog X.w) X.A (op v u) (EP X pins σ Q) X.xe s
theorem g_bin {op : Operator} {a b : Expr} {f : PyData → PyData → (PyData → Prop) → Prop} {ta tb : ME} (ho : OpG X (binaryOp op) f) (ha : PE X a (LE X W ta)) (hb : PE X b (LE X W tb)) :
    PE X (.BinOp a op b pos) (LE X W (mBin f ta tb)) := by
  refine ⟨fun pins s σ H Q I h => ?_⟩
  obtain ⟨Z, F, ρ, R, S, w, t, q⟩ := h
  refine wpAny_BinOp (bin (R := fun x y H2 => ∃ F2 ρ2 d e R2, Same F F2 ∧ Stt X.K Z F2 H2 σ ρ2 ∧ Rep X.K F2 x d ∧ Rep X.K F2 y e ∧ f d e R2 ∧ ∀ c, R2 c → R c ρ2) ha hb I ?_ fun v u s2 x y H2 I2 rx ry ⟨F2, ρ2, d, e, R2, sf, S2, r1, r2, hf, hR⟩ => ?_)
  · refine ⟨Z, F, ρ, _, S, w, t, fun d ρ1 x F1 H1 t1 sf1 S1 r1 => ?_⟩
    refine ⟨Z, F1, ρ1, _, S1, w.mono sf1, t1, fun e ρ2 y F2 H2 t2 sf2 S2 r2 => ?_⟩
    exact ⟨F2, ρ2, d, e, _, sf1.trans sf2, S2, r1.mono sf2, r2, t2, fun c hc => hc⟩
  · exact ho pins s2 σ Z F2 H2 ρ2 x y v u d e R2 Q I2 S2 r1 r2 rx ry hf fun c z F' H' hc sf' S' rz => q c ρ2 z F' H' (hR c hc) (sf.trans sf') S' rz
/-- a comparison -/
def CmpG (X : Cx) (op : CmpOp) (f : PyData → PyData → (Bool → Prop) → Prop) : Prop :=
  ∀ (pins : List (Addr × Obj)) (s : Shared) (σ : L2.St) (H : Hp) (x y : V) (v u : Value) (d e : PyData) (R : Bool → Prop),
    Inv X pins σ H s → Rep X.K H x d → Rep X.K H y e → RelV x v → RelV y u → f d e R →
    wpAny (model X.prog X.w) X.A (compareOp op v u) (fun c s' => ∃ b, R b ∧ c = .bool b ∧ Inv X pins σ H s') X.xe s
def mCmp (f : PyData → PyData → (Bool → Prop) → Prop) (ta tb : ME) : ME := fun ρ R => ta ρ fun d ρ1 => tb ρ1 fun e ρ2 => f d e fun c => R (.bool c) ρ2
def mCmpB (f : PyData → PyData → (Bool → Prop) → Prop) (ta tb : ME) : MB := fun ρ R => ta ρ fun d ρ1 => tb ρ1 fun e ρ2 => f d e fun c => R c ρ2
theorem cmp_run {op : CmpOp} {a b : Expr} {f : PyData → PyData → (Bool → Prop) → Prop} {ta tb : ME} (ho : CmpG X op f) (ha : PE X a (LE X W ta)) (hb : PE X b (LC X W tb))
    {pins : List (Addr × Obj)} {s : Shared} {σ : L2.St} {H Z F : Hp} {ρ : Ms} {R : Bool → Ms → Prop} (I : Inv X pins σ H s) (S : Stt X.K Z F H σ ρ) (w : WOk X.mg W Z F) (t : mCmpB f ta tb ρ R) :
    wpAny (model X.prog X.w) X.A (eval a X.env) (fun v s₁ => wpAny (model X.prog X.w) X.A (eval b X.env) (fun u s₂ => wpAny (model X.prog X.w) X.A (compareOp op v u) (fun c s' => ∃ k ρ' F' H', c = .bool k ∧ R k ρ' ∧ Same F F' ∧ Stt X.K Z F' H' σ ρ' ∧ Inv X pins σ H' s') X.xe s₂) X.xe s₁) X.xe s := by
  refine bin (R := fun x y H2 => ∃ F2 ρ2 d e R2, Same F F2 ∧ Stt X.K Z F2 H2 σ ρ2 ∧ Rep X.K H2 x d ∧ Rep X.K H2 y e ∧ f d e R2 ∧ ∀ c, R2 c → R c ρ2) ha hb I ?_ fun v u s2 x y H2 I2 rx ry ⟨F2, ρ2, d, e, R2, sf, S2, r1, r2, hf, hR⟩ => ?_
  · refine ⟨Z, F, ρ, _, S, w, t, fun d ρ1 x F1 H1 t1 sf1 S1 r1 => ?_⟩
    refine ⟨Z, F1, ρ1, _, S1, w.mono sf1, t1, fun e ρ2 y F2 H2 t2 sf2 S2 r2 => ?_⟩
    exact ⟨F2, ρ2, d, e, _, sf1.trans sf2, S2, (r1.mono sf2).monoW S2.fh, r2.rep S2.fh, t2, fun c hc => hc⟩
  · exact thn (ho pins s2 σ H2 x y v u d e R2 I2 r1 r2 rx ry hf) fun c s3 ⟨k, hk, ec, I3⟩ => ⟨k, ρ2, F2, H2, ec, hR k hk, sf, S2, I3⟩
theorem g_cmp {op : CmpOp} {a b : Expr} {f : PyData → PyData → (Bool → Prop) → Prop} {ta tb : ME} (ho : CmpG X op f) (ha : PE X a (LE X W ta)) (hb : PE X b (LC X W tb)) (hm : behindInMarks op b = false) :
    PE X (.Compare a [op] [b] pos) (LE X W (mCmp f ta tb)) := by
  refine ⟨fun pins s σ H Q I h => ?_⟩
  obtain ⟨Z, F, ρ, R, S, w, t, q⟩ := h
  refine wpAny_Compare1 (thn (cmp_run (R := fun k ρ' => R (.bool k) ρ') ho ha hb I S w t) fun v s1 h1 => thn h1 fun u s2 h2 => thn h2 fun c s3 ⟨k, ρ', F', H', ec, hk, sf, S', I3⟩ => ?_) hm
  exact ⟨.bl k, H', I3, ec, q (.bool k) ρ' _ F' H' hk sf S' (.bl k)⟩
theorem gt_cmp {op : CmpOp} {a b : Expr} {f : PyData → PyData → (Bool → Prop) → Prop} {ta tb : ME} (ho : CmpG X op f) (ha : PE X a (LE X W ta)) (hb : PE X b (LC X W tb)) (hm : behindInMarks op b = false) :
    PT X (.Compare a [op] [b] pos) (LB X W (mCmpB f ta tb)) := by
  refine ⟨fun pins s σ H Q I h => ?_⟩
  obtain ⟨Z, F, ρ, R, S, w, t, q⟩ := h
  refine wpAny_isTrue_Compare1 (thn (cmp_run (R := R) ho ha hb I S w t) fun v s1 h1 => thn h1 fun u s2 h2 => thn h2 fun c s3 ⟨k, ρ', F', H', ec, hk, sf, S', I3⟩ => ?_) hm
  subst ec
  exact wpAny_truthy_bool ⟨H', I3, q k ρ' F' H' hk sf S'⟩

/-! ### tests -/
def mT (t : ME) : MB := fun ρ R => t ρ fun d ρ1 => match d with
  | .bool b => R b ρ1
  | _ => False
theorem gt_val {e : Expr} {t : ME} (h : PE X e (LE X W t)) (he : ∀ whole, isTrue e X.env whole = (do let v ← whole; standAt e.pos; holding [v] (truthy v)) := by intro _; rfl) : PT X e (LB X W (mT t)) := by
  refine PTw (pt_val h he) ?_
  rintro σ H Q ⟨Z, F, ρ, R, S, w, t, q⟩
  refine ⟨Z, F, ρ, _, S, w, t, fun d ρ' v F' H' t1 sf S' r => ?_⟩
  cases r with
  | bl b => exact ⟨b, rfl, q b ρ' F' H' t1 sf S'⟩
  | _ => exact t1.elim
def mAnd (t u : MB) : MB := fun ρ R => t ρ fun b ρ1 => if b = true then u ρ1 R else R false ρ1
def mOr (t u : MB) : MB := fun ρ R => t ρ fun b ρ1 => if b = true then R true ρ1 else u ρ1 R
def mNot (t : MB) : MB := fun ρ R => t ρ fun b ρ1 => R (!b) ρ1
variable {a b : Expr} {rest : List Expr} {tA tB : MB} {ta tb : ME}
theorem gw_and1 (h : PT X a (LB X W tA)) : PW X (.BoolOp .And [a] pos) (LB X W tA) := pw_and1 h
theorem gw_or1 (h : PT X a (LB X W tA)) : PW X (.BoolOp .Or [a] pos) (LB X W tA) := pw_or1 h
theorem PWw {X : Cx} {e : Expr} {t t' : TT} (h : PW X e t) (w : ∀ σ H Q, t' σ H Q → t σ H Q) : PW X e t' := ⟨fun wh pins s σ H Q I q => h.run wh pins s σ H Q I (w σ H Q q)⟩
theorem gw_and (ha : PT X a (LB X W tA)) (hb : PW X (.BoolOp .And (b :: rest) pos) (LB X W tB)) : PW X (.BoolOp .And (a :: b :: rest) pos) (LB X W (mAnd tA tB)) := by
  refine PWw (pw_and ha hb) ?_
  rintro σ H Q ⟨Z, F, ρ, R, S, w, t, q⟩
  refine ⟨Z, F, ρ, _, S, w, t, fun b ρ1 F1 H1 t1 sf1 S1 => ?_⟩
  cases b with
  | true =>
    rw [if_pos rfl] at t1 ⊢
    exact ⟨Z, F1, ρ1, R, S1, w.mono sf1, t1, fun b2 ρ2 F2 H2 t2 sf2 S2 => q b2 ρ2 F2 H2 t2 (sf1.trans sf2) S2⟩
  | false =>
    rw [if_neg Bool.false_ne_true] at t1 ⊢
    exact q false ρ1 F1 H1 t1 sf1 S1
theorem gw_or (ha : PT X a (LB X W tA)) (hb : PW X (.BoolOp .Or (b :: rest) pos) (LB X W tB)) : PW X (.BoolOp .Or (a :: b :: rest) pos) (LB X W (mOr tA tB)) := by
  refine PWw (pw_or ha hb) ?_
  rintro σ H Q ⟨Z, F, ρ, R, S, w, t, q⟩
  refine ⟨Z, F, ρ, _, S, w, t, fun b ρ1 F1 H1 t1 sf1 S1 => ?_⟩
  cases b with
  | true =>
    rw [if_pos rfl] at t1 ⊢
    exact q true ρ1 F1 H1 t1 sf1 S1
  | false =>
    rw [if_neg Bool.false_ne_true] at t1 ⊢
    exact ⟨Z, F1, ρ1, R, S1, w.mono sf1, t1, fun b2 ρ2 F2 H2 t2 sf2 S2 => q b2 ρ2 F2 H2 t2 (sf1.trans sf2) S2⟩
theorem gt_not (ha : PT X a (LB X W tA)) : PT X (.UnaryOp .Not a pos) (LB X W (mNot tA)) := by
  refine PTw (pt_not ha) ?_
  rintro σ H Q ⟨Z, F, ρ, R, S, w, t, q⟩
  exact ⟨Z, F, ρ, _, S, w, t, fun b ρ1 F1 H1 t1 sf1 S1 => q (!b) ρ1 F1 H1 t1 sf1 S1⟩
/-- as values -/
def mAndV (t u : ME) : ME := fun ρ R => t ρ fun d ρ1 => match d with
  | .bool b => if b = true then u ρ1 R else R (.bool false) ρ1
  | _ => False
def mOrV (t u : ME) : ME := fun ρ R => t ρ fun d ρ1 => match d with
  | .bool b => if b = true then R (.bool true) ρ1 else u ρ1 R
  | _ => False
def mNotV (t : ME) : ME := fun ρ R => t ρ fun d ρ1 => match d with
  | .bool b => R (.bool (!b)) ρ1
  | _ => False
theorem g_one {op} (h : PE X a (LE X W ta)) : PE X (.BoolOp op [a] pos) (LE X W ta) := pe_one h
theorem g_and (ha : PE X a (LE X W ta)) (hb : PE X (.BoolOp .And (b :: rest) pos) (LE X W tb)) : PE X (.BoolOp .And (a :: b :: rest) pos) (LE X W (mAndV ta tb)) := by
  refine PEw (pe_and ha hb) ?_
  rintro σ H Q ⟨Z, F, ρ, R, S, w, t, q⟩
  refine ⟨Z, F, ρ, _, S, w, t, fun d ρ1 v F1 H1 t1 sf1 S1 r => ?_⟩
  cases r with
  | bl b =>
    refine ⟨b, rfl, ?_⟩
    have t1 : if b = true then tb ρ1 R else R (.bool false) ρ1 := t1
    cases b with
    | true =>
      rw [if_pos rfl] at t1 ⊢
      exact ⟨Z, F1, ρ1, R, S1, w.mono sf1, t1, fun b2 ρ2 v2 F2 H2 t2 sf2 S2 r2 => q b2 ρ2 v2 F2 H2 t2 (sf1.trans sf2) S2 r2⟩
    | false =>
      rw [if_neg Bool.false_ne_true] at t1 ⊢
      exact q _ ρ1 _ F1 H1 t1 sf1 S1 (.bl false)
  | _ => exact t1.elim
theorem g_or (ha : PE X a (LE X W ta)) (hb : PE X (.BoolOp .Or (b :: rest) pos) (LE X W tb)) : PE X (.BoolOp .Or (a :: b :: rest) pos) (LE X W (mOrV ta tb)) := by
  refine PEw (pe_or ha hb) ?_
  rintro σ H Q ⟨Z, F, ρ, R, S, w, t, q⟩
  refine ⟨Z, F, ρ, _, S, w, t, fun d ρ1 v F1 H1 t1 sf1 S1 r => ?_⟩
  cases r with
  | bl b =>
    refine ⟨b, rfl, ?_⟩
    have t1 : if b = true then R (.bool true) ρ1 else tb ρ1 R := t1
    cases b with
    | true =>
      rw [if_pos rfl] at t1 ⊢
      exact q _ ρ1 _ F1 H1 t1 sf1 S1 (.bl true)
    | false =>
      rw [if_neg Bool.false_ne_true] at t1 ⊢
      exact ⟨Z, F1, ρ1, R, S1, w.mono sf1, t1, fun b2 ρ2 v2 F2 H2 t2 sf2 S2 r2 => q b2 ρ2 v2 F2 H2 t2 (sf1.trans sf2) S2 r2⟩
  | _ => exact t1.elim
theorem g_not (ha : PE X a (LE X W ta)) : PE X (.UnaryOp .Not a pos) (LE X W (mNotV ta)) := by
  refine PEw (pe_not ha) ?_
  rintro σ H Q ⟨Z, F, ρ, R, S, w, t, q⟩
  refine ⟨Z, F, ρ, _, S, w, t, fun d ρ1 v F1 H1 t1 sf1 S1 r => ?_⟩
  cases r with
  | bl b => exact ⟨b, rfl, q _ ρ1 _ F1 H1 t1 sf1 S1 (.bl (!b))⟩
  | _ => exact t1.elim
def mIf (c : MB) (t u : ME) : ME := fun ρ R => c ρ fun b ρ1 => if b = true then t ρ1 R else u ρ1 R
theorem g_if {c : Expr} (hc : PT X c (LB X W tA)) (ha : PE X a (LE X W ta)) (hb : PE X b (LE X W tb)) : PE X (.IfExp c a b pos) (LE X W (mIf tA ta tb)) := by
  refine PEw (pe_ifExp hc ha hb) ?_
  rintro σ H Q ⟨Z, F, ρ, R, S, w, t, q⟩
  refine ⟨Z, F, ρ, _, S, w, t, fun b ρ1 F1 H1 t1 sf1 S1 => ?_⟩
  cases b with
  | true =>
    rw [if_pos rfl] at t1 ⊢
    exact ⟨Z, F1, ρ1, R, S1, w.mono sf1, t1, fun b2 ρ2 v2 F2 H2 t2 sf2 S2 r2 => q b2 ρ2 v2 F2 H2 t2 (sf1.trans sf2) S2 r2⟩
  | false =>
    rw [if_neg Bool.false_ne_true] at t1 ⊢
    exact ⟨Z, F1, ρ1, R, S1, w.mono sf1, t1, fun b2 ρ2 v2 F2 H2 t2 sf2 S2 r2 => q b2 ρ2 v2 F2 H2 t2 (sf1.trans sf2) S2 r2⟩
end
end G


set_option Elab.async false
set_option maxRecDepth 100000
set_option maxHeartbeats 1000000
/-! GV3: operators. -/
namespace G
open PySem PySem.Spec PyProof.Rows L2

/-- a number of at most four thousand bits -/
@[irreducible] def Sm (i : Int) : Prop := ∃ n, n ≤ 4000 ∧ i.natAbs < 2 ^ n
theorem sm_of {i : Int} {n : Nat} (h : i.natAbs < 2 ^ n) (hn : n ≤ 4000) : Sm i := by unfold Sm; exact ⟨n, hn, h⟩
theorem Sm.ex {i : Int} (h : Sm i) : ∃ n, n ≤ 4000 ∧ i.natAbs < 2 ^ n := by unfold Sm at h; exact h
theorem Sm.pos {i : Int} (h : Sm i) : ∃ n, 0 < n ∧ n ≤ 4000 ∧ i.natAbs < 2 ^ n := by
  obtain ⟨n, h1, h2⟩ := h.ex
  by_cases e : n = 0
  · subst e
    exact ⟨1, by decide, by decide, Nat.lt_of_lt_of_le h2 (by decide)⟩
  · exact ⟨n, Nat.pos_of_ne_zero e, h1, h2⟩
theorem Sm.mulW {i j : Int} (h : Sm i) (k : Sm j) : CMulW i j := by
  obtain ⟨n, a0, a1, a2⟩ := h.pos
  obtain ⟨m, b0, b1, b2⟩ := k.pos
  exact wide_mul a2 b2 a0 b0 (by omega)
theorem Sm.divW {j : Int} (i : Int) (h : Sm j) (k : 0 < j) : CDivW i j := by
  obtain ⟨n, a0, a1, a2⟩ := h.pos
  exact wide_div k a2 a0 (by omega)
theorem sm_small {i : Int} (h : i.natAbs < 2 ^ 64) : Sm i := sm_of h (by decide)

section
variable {X : Cx}
theorem cmpG_of {op : CmpOp} {r : R2} {f : PyData → PyData → (Bool → Prop) → Prop} (ho : OpR X (compareOp op) r)
    (h : ∀ (H : Hp) (x y : V) (d e : PyData) (R : Bool → Prop), Rep X.K H x d → Rep X.K H y e → f d e R → r x y H (fun v H' => ∃ b, R b ∧ v = .bl b ∧ H' = H)) : CmpG X op f := by
  intro pins s σ H x y v u d e R I r1 r2 rx ry hf
  refine thn (ho pins s σ H x y v u _ I rx ry (h H x y d e R r1 r2 hf)) fun c s' ⟨z, H', I', rz, b, hb, ez, eh⟩ => ?_
  subst ez
  subst eh
  exact ⟨b, hb, rz, I'⟩
theorem opG_of {op : Value → Value → Sem Value} {r : R2} {f : PyData → PyData → (PyData → Prop) → Prop} (ho : OpR X op r)
    (h : ∀ (Z F H : Hp) (σ : L2.St) (ρ : Ms) (x y : V) (d e : PyData) (R : PyData → Prop) (Q : VK), Stt X.K Z F H σ ρ → Rep X.K F x d → Rep X.K F y e → f d e R →
      (∀ c z F' H', R c → Same F F' → Stt X.K Z F' H' σ ρ → Rep X.K F' z c → Q z H') → r x y H Q) : OpG X op f := by
  intro pins s σ Z F H ρ x y v u d e R Q I S r1 r2 rx ry hf q
  exact ho pins s σ H x y v u Q I rx ry (h Z F H σ ρ x y d e R Q S r1 r2 hf q)
theorem OpG.cases {op : Value → Value → Sem Value} {f f' g : PyData → PyData → (PyData → Prop) → Prop} (h : OpG X op f) (h' : OpG X op f') (e : ∀ d e R, g d e R → f d e R ∨ f' d e R) : OpG X op g := by
  intro pins s σ Z F H ρ x y v u d k R Q I S r1 r2 rx ry hf q
  rcases e d k R hf with z | z
  · exact h pins s σ Z F H ρ x y v u d k R Q I S r1 r2 rx ry z q
  · exact h' pins s σ Z F H ρ x y v u d k R Q I S r1 r2 rx ry z q
theorem CmpG.cases {op : CmpOp} {f f' g : PyData → PyData → (Bool → Prop) → Prop} (h : CmpG X op f) (h' : CmpG X op f') (e : ∀ d e R, g d e R → f d e R ∨ f' d e R) : CmpG X op g := by
  intro pins s σ H x y v u d k R I r1 r2 rx ry hf
  rcases e d k R hf with z | z
  · exact h pins s σ H x y v u d k R I r1 r2 rx ry z
  · exact h' pins s σ H x y v u d k R I r1 r2 rx ry z

/-! ### whole numbers -/
theorem opG_ii {op : Value → Value → Sem Value} {C' : Int → Int → Prop} {g' : Int → Int → Int} {f : PyData → PyData → (PyData → Prop) → Prop} (ho : OpR X op (rI C' fun i j => .int (g' i j)))
    (h : ∀ d e R, f d e R → ∃ a b, d = .int a ∧ e = .int b ∧ C' a b ∧ R (.int (g' a b))) : OpG X op f := by
  refine opG_of ho fun Z F H σ ρ x y d e R Q S r1 r2 hf q => ?_
  obtain ⟨a, b, rfl, rfl, hc, hr⟩ := h d e R hf
  cases r1
  cases r2
  exact ⟨a, b, rfl, rfl, hc, q _ _ F H hr (Same.refl _) S (.int _)⟩
theorem OpR.to_rI {op : Value → Value → Sem Value} {g : Int → Int → V} (h : OpR X op (rI0 g)) : OpR X op (rI (fun _ _ => True) g) := by
  intro pins s σ H x y v u Q I rx ry ⟨i, j, e1, e2, _, q⟩
  exact h pins s σ H x y v u Q I rx ry ⟨i, j, e1, e2, q⟩
def subD : PyData → PyData → (PyData → Prop) → Prop
  | .int a, .int b, R => R (.int (a - b))
  | _, _, _ => False
def mulD : PyData → PyData → (PyData → Prop) → Prop
  | .int a, .int b, R => (Sm a ∧ Sm b) ∧ R (.int (a * b))
  | _, _, _ => False
def fdivD : PyData → PyData → (PyData → Prop) → Prop
  | .int a, .int b, R => (0 < b ∧ Sm b) ∧ R (.int (a / b))
  | _, _, _ => False
def modD : PyData → PyData → (PyData → Prop) → Prop
  | .int a, .int b, R => 0 < b ∧ R (.int (a % b))
  | _, _, _ => False
def powD : PyData → PyData → (PyData → Prop) → Prop
  | .int a, .int b, R => (a = 10 ∧ b = 18) ∧ R (.int 1000000000000000000)
  | _, _, _ => False
theorem two_ints {C : Int → Int → (PyData → Prop) → Prop} {f : PyData → PyData → (PyData → Prop) → Prop} (e : ∀ a b R, f (.int a) (.int b) R → C a b R) (n : ∀ d e R, (∀ a b, ¬ (d = .int a ∧ e = .int b)) → ¬ f d e R) : ∀ d e R, f d e R → ∃ a b, d = .int a ∧ e = .int b ∧ C a b R := fun d e' R h => by
  by_cases k : ∃ a b, d = .int a ∧ e' = .int b
  · obtain ⟨a, b, rfl, rfl⟩ := k
    exact ⟨a, b, rfl, rfl, e a b R h⟩
  · exact (n d e' R (fun a b z => k ⟨a, b, z⟩) h).elim
theorem og_sub : OpG X (binaryOp .Sub) subD := opG_ii (OpR.to_rI op_sub) fun d e R h => by
  cases d <;> cases e <;> first | exact h.elim | exact ⟨_, _, rfl, rfl, trivial, h⟩
theorem og_mul : OpG X (binaryOp .Mult) mulD := opG_ii op_mulW fun d e R h => by
  cases d <;> cases e <;> first | exact h.elim | exact ⟨_, _, rfl, rfl, h.1.1.mulW h.1.2, h.2⟩
theorem og_fdiv : OpG X (binaryOp .FloorDiv) fdivD := opG_ii op_fdivW fun d e R h => by
  cases d <;> cases e <;> first | exact h.elim | exact ⟨_, _, rfl, rfl, h.1.2.divW _ h.1.1, h.2⟩
theorem og_mod : OpG X (binaryOp .Mod) modD := opG_ii op_modN fun d e R h => by
  cases d <;> cases e <;> first | exact h.elim | skip
  obtain ⟨h1, h2⟩ := h
  exact ⟨_, _, rfl, rfl, fun z => by omega, by rw [Int.fmod_eq_emod_of_nonneg _ (by omega)]; exact h2⟩
theorem og_pow : OpG X (binaryOp .Pow) powD := opG_ii op_pow fun d e R h => by
  cases d <;> cases e <;> first | exact h.elim | skip
  obtain ⟨⟨rfl, rfl⟩, h⟩ := h
  exact ⟨_, _, rfl, rfl, ⟨by decide, by decide, by decide⟩, h⟩

/-! ### + -/
def addD : PyData → PyData → (PyData → Prop) → Prop
  | .int a, .int b, R => R (.int (a + b))
  | .str a, .str b, R => a.length + b.length ≤ sizeLine ∧ R (.str (a ++ b))
  | .tuple a, .tuple b, R => a.length + b.length ≤ sizeLine ∧ R (.tuple (a ++ b))
  | .list a, .list b, R => a.length + b.length ≤ sizeLine ∧ R (.list (a ++ b))
  | _, _, _ => False
theorem og_add : OpG X (binaryOp .Add) addD := by
  refine opG_of (OpR.or (OpR.to_rI op_add) (OpR.or op_add_str (OpR.or op_catP op_cat))) fun Z F H σ ρ x y d e R Q S r1 r2 hf q => ?_
  cases r1 with
  | int a =>
    cases r2 with
    | int b => exact .inl ⟨a, b, rfl, rfl, trivial, q _ _ F H hf (Same.refl _) S (.int _)⟩
    | _ => exact hf.elim
  | str a =>
    cases r2 with
    | str b => exact .inr (.inl ⟨a, b, rfl, rfl, hf.1, q _ _ F H hf.2 (Same.refl _) S (.str _)⟩)
    | _ => exact hf.elim
  | @tup a xs ds h1 h2 h3 =>
    cases r2 with
    | @tup b ys es k1 k2 k3 =>
      have e1 := h2.length
      have e2 := k2.length
      obtain ⟨hl, hr⟩ := hf
      refine .inr (.inr (.inl ⟨a, b, xs, ys, rfl, rfl, (h1.monoW S.fh).sq, (k1.monoW S.fh).sq, by omega, fun z => ?_, fun z1 z => ?_, fun z1 z2 p o hp ho => ?_⟩))
      · subst z
        cases h2
        exact q _ _ F H hr (Same.refl _) S (.tup k1 k2 k3)
      · subst z
        cases k2
        rw [List.append_nil] at hr
        exact q _ _ F H hr (Same.refl _) S (.tup h1 h2 h3)
      · have sf : Same F (upd F p (.frz o (.tup (xs ++ ys)))) := same_upd (S.fh.free hp)
        exact q _ _ _ _ hr sf (S.new _ hp) (.tup (.inl ⟨o, upd_same, ho⟩) ((h2.mono sf).append (k2.mono sf)) (by rw [List.length_append]; exact hl))
    | _ => exact hf.elim
  | @lst a xs ds h1 h2 h3 =>
    cases r2 with
    | @lst b ys es k1 k2 k3 =>
      have e1 := h2.length
      have e2 := k2.length
      obtain ⟨hl, hr⟩ := hf
      refine .inr (.inr (.inr ⟨a, b, xs, ys, rfl, rfl, S.fh.lst h1, S.fh.lst k1, by omega, fun p hp => ?_⟩))
      have sf : Same F (upd F p (.lst (xs ++ ys))) := same_upd (S.fh.free hp)
      exact q _ _ _ _ hr sf (S.new _ hp) (.lst upd_same ((h2.mono sf).append (k2.mono sf)) (by rw [List.length_append]; exact hl))
    | _ => exact hf.elim
  | _ => exact hf.elim

/-! ### comparisons -/
def ltD : PyData → PyData → (Bool → Prop) → Prop
  | .int a, .int b, R => R (decide (a < b))
  | .str a, .str b, R => R (decide (a.cps.toList < b.cps.toList))
  | _, _, _ => False
def leD : PyData → PyData → (Bool → Prop) → Prop
  | .int a, .int b, R => R (decide (a ≤ b))
  | _, _, _ => False
def gtD : PyData → PyData → (Bool → Prop) → Prop
  | .int a, .int b, R => R (decide (b < a))
  | _, _, _ => False
def geD : PyData → PyData → (Bool → Prop) → Prop
  | .int a, .int b, R => R (decide (b ≤ a))
  | _, _, _ => False
theorem cg_lt : CmpG X .Lt ltD := by
  refine cmpG_of (OpR.or op_lt op_lt_str) fun H x y d e R r1 r2 hf => ?_
  cases r1 with
  | int a =>
    cases r2 with
    | int b => exact .inl ⟨a, b, rfl, rfl, _, hf, rfl, rfl⟩
    | _ => exact hf.elim
  | str a =>
    cases r2 with
    | str b => exact .inr ⟨a, b, rfl, rfl, _, hf, rfl, rfl⟩
    | _ => exact hf.elim
  | _ => exact hf.elim
theorem cg_ii {op : CmpOp} {f : PyData → PyData → (Bool → Prop) → Prop} {g : Int → Int → Bool} (ho : OpR X (compareOp op) (rI0 fun i j => .bl (g i j))) (h : ∀ d e R, f d e R → ∃ a b, d = .int a ∧ e = .int b ∧ R (g a b)) : CmpG X op f := by
  refine cmpG_of ho fun H x y d e R r1 r2 hf => ?_
  obtain ⟨a, b, rfl, rfl, hr⟩ := h d e R hf
  cases r1
  cases r2
  exact ⟨a, b, rfl, rfl, _, hr, rfl, rfl⟩
theorem cg_le : CmpG X .LtE leD := cg_ii op_le fun d e R h => by
  cases d <;> cases e <;> first | exact ⟨_, _, rfl, rfl, h⟩ | exact h.elim
theorem cg_gt : CmpG X .Gt gtD := cg_ii op_gt fun d e R h => by
  cases d <;> cases e <;> first | exact ⟨_, _, rfl, rfl, h⟩ | exact h.elim
theorem cg_ge : CmpG X .GtE geD := cg_ii op_ge fun d e R h => by
  cases d <;> cases e <;> first | exact ⟨_, _, rfl, rfl, h⟩ | exact h.elim
/-- == of data without dicts, at most sixty deep -/
def eqD0 (d e : PyData) (R : Bool → Prop) : Prop := Gd 60 d ∧ Gd 60 e ∧ R (PyData.eqv d e)
def neD0 (d e : PyData) (R : Bool → Prop) : Prop := Gd 60 d ∧ Gd 60 e ∧ R (!PyData.eqv d e)
theorem cg_eq0 (hu : X.A.units + 64 < cLine) : CmpG X .Eq eqD0 := by
  intro pins s σ H x y v u d e R I r1 r2 rx ry ⟨hd, he, hr⟩
  obtain ⟨as, q1⟩ := r1.reads I hd.pl rx
  obtain ⟨bs, q2⟩ := r2.reads I he.pl ry
  refine SeqAt.eq_plain q1 q2 hd.pl he.pl ?_ ⟨_, hr, rfl, I⟩
  have h1 := hd.dp
  have h2 : min d.depth e.depth ≤ d.depth := Nat.min_le_left _ _
  omega
theorem cg_ne0 (hu : X.A.units + 64 < cLine) : CmpG X .NotEq neD0 := by
  intro pins s σ H x y v u d e R I r1 r2 rx ry ⟨hd, he, hr⟩
  obtain ⟨as, q1⟩ := r1.reads I hd.pl rx
  obtain ⟨bs, q2⟩ := r2.reads I he.pl ry
  refine SeqAt.ne_plain q1 q2 hd.pl he.pl ?_ ⟨_, hr, rfl, I⟩
  have h1 := hd.dp
  have h2 : min d.depth e.depth ≤ d.depth := Nat.min_le_left _ _
  omega
/-- a dict's value by a text -/
def dget (es : List (PyData × PyData)) (k : Str) : Option PyData := match es with
  | [] => none
  | (.str x, d) :: r => if x = k then some d else dget r k
  | (_, _) :: r => dget r k
def valK (kvs : List (Key × V)) (k : Str) : Option V := valV kvs (Sum.inr k : Key)
theorem RepKV.look {K : PySem.W.Frag} {H : Hp} {k : Str} : ∀ {kvs : List (Key × V)} {es : List (PyData × PyData)}, RepKV K H kvs es → (dget es k = none ∧ valV kvs (Sum.inr k : Key) = none) ∨ ∃ d v, dget es k = some d ∧ valV kvs (Sum.inr k : Key) = some v ∧ Rep K H v d
  | _, _, .nil => .inl ⟨rfl, rfl⟩
  | _, _, @RepKV.cons _ _ (.inl i) v kvs d es h r => by
    rcases RepKV.look (k := k) r with ⟨h1, h2⟩ | ⟨d', v', h1, h2, h3⟩
    · exact .inl ⟨h1, by simpa [valV] using h2⟩
    · exact .inr ⟨d', v', h1, by simpa [valV] using h2, h3⟩
  | _, _, @RepKV.cons _ _ (.inr x) v kvs d es h r => by
    by_cases e : x = k
    · subst e
      exact .inr ⟨d, v, by simp [dget, kD], by simp [valV], h⟩
    · rcases RepKV.look (k := k) r with ⟨h1, h2⟩ | ⟨d', v', h1, h2, h3⟩
      · exact .inl ⟨by simp [dget, kD, e, h1], by simpa [valV, e] using h2⟩
      · exact .inr ⟨d', v', by simp [dget, kD, e, h1], by simpa [valV, e] using h2, h3⟩
/-- in: a list, a tuple, a dict by a text, one sign in a text -/
def inD0 (neg : Bool) : PyData → PyData → (Bool → Prop) → Prop
  | d, .list xs, R => Gd 60 d ∧ Gd 60 (.list xs) ∧ R (neg ^^ (xs.any fun y => PyData.eqv y d))
  | d, .tuple xs, R => Gd 60 d ∧ Gd 60 (.tuple xs) ∧ R (neg ^^ (xs.any fun y => PyData.eqv y d))
  | .str k, .dict es, R => R (neg ^^ (dget es k).isSome)
  | .str k, .str z, R => ∃ c, k = ⟨#[c]⟩ ∧ R (neg ^^ decide (c ∈ z.cps.toList))
  | _, _, _ => False

theorem inD_any {neg : Bool} {b : Bool} : (if neg = true then !b else b) = (neg ^^ b) := by cases neg <;> cases b <;> rfl
theorem cg_in0 (hu : X.A.units + 64 < cLine) : CmpG X .In (inD0 false) := by
  intro pins s σ H x y v u d e R I r1 r2 rx ry hf
  cases r2 with
  | @lst a ys es h1 h2 h3 =>
    obtain ⟨g1, g2, hr⟩ := (show Gd 60 d ∧ Gd 60 (.list es) ∧ R (false ^^ (es.any fun y => PyData.eqv y d)) from by cases d <;> exact hf)
    obtain ⟨as, q1⟩ := r1.reads I g1.pl rx
    obtain ⟨bs, q2⟩ := (Rep.lst h1 h2 h3).reads I g2.pl ry
    have hp : PyData.plainAll es = true := by simpa [PyData.plain] using g2.pl
    refine SeqAt.in_list_data q2 q1 hp g1.pl ?_ ⟨_, hr, ?_, I⟩
    · have h1 := g1.dp
      have h2 : min (PyData.depthAll es) d.depth ≤ d.depth := Nat.min_le_right _ _
      omega
    · rw [Bool.false_xor]
  | @tup a ys es h1 h2 h3 =>
    obtain ⟨g1, g2, hr⟩ := (show Gd 60 d ∧ Gd 60 (.tuple es) ∧ R (false ^^ (es.any fun y => PyData.eqv y d)) from by cases d <;> exact hf)
    obtain ⟨as, q1⟩ := r1.reads I g1.pl rx
    obtain ⟨bs, q2⟩ := (Rep.tup h1 h2 h3).reads I g2.pl ry
    have hp : PyData.plainAll es = true := by simpa [PyData.plain] using g2.pl
    refine SeqAt.in_tuple_data q2 q1 hp g1.pl ?_ ⟨_, hr, ?_, I⟩
    · have h1 := g1.dp
      have h2 : min (PyData.depthAll es) d.depth ≤ d.depth := Nat.min_le_right _ _
      omega
    · rw [Bool.false_xor]
  | @dct a kvs es h1 h2 =>
    cases r1 with
    | str k =>
      have hr : R (false ^^ (dget es k).isSome) := hf
      obtain rfl : u = Value.ref a := ry
      rcases h2.look (k := k) with ⟨e1, e2⟩ | ⟨d', v', e1, e2, _⟩
      · exact d_in (by omega) I (.inl ⟨_, Sum.inr k, h1, rfl, rfl⟩) rx fun s3 I3 => ⟨_, hr, by rw [e1, e2]; rfl, I3⟩
      · exact d_in (by omega) I (.inl ⟨_, Sum.inr k, h1, rfl, rfl⟩) rx fun s3 I3 => ⟨_, hr, by rw [e1, e2]; rfl, I3⟩
    | _ => exact hf.elim
  | str z =>
    cases r1 with
    | str k =>
      obtain ⟨c, rfl, hr⟩ := hf
      rw [Bool.false_xor] at hr
      refine thn (op_in_sign pins s σ H _ _ v u (fun v' H' => ∃ b, R b ∧ v' = .bl b ∧ H' = H) I rx ry ⟨c, z, rfl, rfl, _, hr, rfl, rfl⟩) fun c' s' ⟨w', H', I', rz, b, hb, ez, eh⟩ => ?_
      subst ez
      subst eh
      exact ⟨b, hb, rz, I'⟩
    | _ => exact hf.elim
  | _ => cases d <;> exact hf.elim
theorem cg_notIn0 (hu : X.A.units + 64 < cLine) : CmpG X .NotIn (inD0 true) := by
  intro pins s σ H x y v u d e R I r1 r2 rx ry hf
  cases r2 with
  | @lst a ys es h1 h2 h3 =>
    obtain ⟨g1, g2, hr⟩ := (show Gd 60 d ∧ Gd 60 (.list es) ∧ R (true ^^ (es.any fun y => PyData.eqv y d)) from by cases d <;> exact hf)
    obtain ⟨as, q1⟩ := r1.reads I g1.pl rx
    obtain ⟨bs, q2⟩ := (Rep.lst h1 h2 h3).reads I g2.pl ry
    have hp : PyData.plainAll es = true := by simpa [PyData.plain] using g2.pl
    refine SeqAt.notIn_list_data q2 q1 hp g1.pl ?_ ⟨_, hr, ?_, I⟩
    · have h1 := g1.dp
      have h2 : min (PyData.depthAll es) d.depth ≤ d.depth := Nat.min_le_right _ _
      omega
    · rw [Bool.true_xor]
  | @tup a ys es h1 h2 h3 =>
    obtain ⟨g1, g2, hr⟩ := (show Gd 60 d ∧ Gd 60 (.tuple es) ∧ R (true ^^ (es.any fun y => PyData.eqv y d)) from by cases d <;> exact hf)
    obtain ⟨as, q1⟩ := r1.reads I g1.pl rx
    obtain ⟨bs, q2⟩ := (Rep.tup h1 h2 h3).reads I g2.pl ry
    have hp : PyData.plainAll es = true := by simpa [PyData.plain] using g2.pl
    refine SeqAt.notIn_tuple_data q2 q1 hp g1.pl ?_ ⟨_, hr, ?_, I⟩
    · have h1 := g1.dp
      have h2 : min (PyData.depthAll es) d.depth ≤ d.depth := Nat.min_le_right _ _
      omega
    · rw [Bool.true_xor]
  | @dct a kvs es h1 h2 =>
    cases r1 with
    | str k =>
      have hr : R (true ^^ (dget es k).isSome) := hf
      obtain rfl : u = Value.ref a := ry
      rcases h2.look (k := k) with ⟨e1, e2⟩ | ⟨d', v', e1, e2, _⟩
      · exact d_notIn (by omega) I (.inl ⟨_, Sum.inr k, h1, rfl, rfl⟩) rx fun s3 I3 => ⟨_, hr, by rw [e1, e2]; rfl, I3⟩
      · exact d_notIn (by omega) I (.inl ⟨_, Sum.inr k, h1, rfl, rfl⟩) rx fun s3 I3 => ⟨_, hr, by rw [e1, e2]; rfl, I3⟩
    | _ => exact hf.elim
  | str z =>
    cases r1 with
    | str k =>
      obtain ⟨c, rfl, hr⟩ := hf
      rw [Bool.true_xor] at hr
      refine thn (op_notIn_sign pins s σ H _ _ v u (fun v' H' => ∃ b, R b ∧ v' = .bl b ∧ H' = H) I rx ry ⟨c, z, rfl, rfl, _, hr, rfl, rfl⟩) fun c' s' ⟨w', H', I', rz, b, hb, ez, eh⟩ => ?_
      subst ez
      subst eh
      exact ⟨b, hb, rz, I'⟩
    | _ => exact hf.elim
  | _ => cases d <;> exact hf.elim
end
@[irreducible] def eqD (d e : PyData) (R : Bool → Prop) : Prop := eqD0 d e R
@[irreducible] def neD (d e : PyData) (R : Bool → Prop) : Prop := neD0 d e R
@[irreducible] def inD (neg : Bool) (d e : PyData) (R : Bool → Prop) : Prop := inD0 neg d e R
theorem eqD_is : eqD = eqD0 := by funext d e R; unfold eqD; rfl
theorem neD_is : neD = neD0 := by funext d e R; unfold neD; rfl
theorem inD_is (n : Bool) : inD n = inD0 n := by funext d e R; unfold inD; rfl
section
variable {X : Cx}
theorem cg_eq (hu : X.A.units + 64 < cLine) : CmpG X .Eq eqD := eqD_is ▸ cg_eq0 hu
theorem cg_ne (hu : X.A.units + 64 < cLine) : CmpG X .NotEq neD := neD_is ▸ cg_ne0 hu
theorem cg_in (hu : X.A.units + 64 < cLine) : CmpG X .In (inD false) := inD_is false ▸ cg_in0 hu
theorem cg_notIn (hu : X.A.units + 64 < cLine) : CmpG X .NotIn (inD true) := inD_is true ▸ cg_notIn0 hu
end
end G


set_option Elab.async false
set_option maxRecDepth 100000
set_option maxHeartbeats 1000000
/-! GV4: argument lists, displays, subscripts, slices, built-in calls. -/
namespace G
open PySem PySem.Spec PyProof.Rows L2
abbrev MA := Ms → (List PyData → Ms → Prop) → Prop
def lA (K : PySem.W.Frag) (mg : Str → Option Value) (W : Wish) (n : Nat) (t : MA) : TA := fun σ H Q => ∃ Z F ρ R, Stt K Z F H σ ρ ∧ WOk mg W Z F ∧ t ρ R ∧
  ∀ ds ρ' vs F' H', R ds ρ' → Same F F' → Stt K Z F' H' σ ρ' → RepAll K F' vs ds → ds.length = n → Q vs H'
abbrev LA (X : Cx) (W : Wish) (n : Nat) (t : MA) : TA := lA X.K X.mg W n t
def mNil : MA := fun ρ R => R [] ρ
def mCons (t : ME) (u : MA) : MA := fun ρ R => t ρ fun d ρ1 => u ρ1 fun ds ρ2 => R (d :: ds) ρ2
def mTup (t : MA) : ME := fun ρ R => t ρ fun ds ρ1 => R (.tuple ds) ρ1
def mLst (t : MA) : ME := fun ρ R => t ρ fun ds ρ1 => R (.list ds) ρ1
section
variable {X : Cx} {W : Wish} {pos p : Pos} {x : Str} {a b e : Expr} {es : List Expr} {ta tb te : ME} {t : MA} {n : Nat}
theorem ga_nil : PA X [] (LA X W 0 mNil) := by
  refine PAw pa_nil ?_
  rintro σ H Q ⟨Z, F, ρ, R, S, w, t, q⟩
  exact q [] ρ [] F H t (Same.refl _) S .nil rfl
theorem ga_cons (ha : PE X e (LE X W te)) (hr : PA X es (LA X W n t)) (hs : starEach (e :: es) X.env = (false, eval e X.env) :: starEach es X.env := by rfl) : PA X (e :: es) (LA X W (n + 1) (mCons te t)) := by
  refine PAw (pa_cons ha hr hs) ?_
  rintro σ H Q ⟨Z, F, ρ, R, S, w, t, q⟩
  refine ⟨Z, F, ρ, _, S, w, t, fun d ρ1 v F1 H1 t1 sf1 S1 r1 => ?_⟩
  refine ⟨Z, F1, ρ1, _, S1, w.mono sf1, t1, fun ds ρ2 vs F2 H2 t2 sf2 S2 r2 hl => ?_⟩
  exact q (d :: ds) ρ2 (v :: vs) F2 H2 t2 (sf1.trans sf2) S2 (.cons (r1.mono sf2) r2) (by rw [List.length_cons, hl])
theorem line1000 {n : Nat} (h : n ≤ 1000) : n ≤ sizeLine := Nat.le_of_lt (small1000 h)
theorem g_tup {x1} (h : PA X es (LA X W n t)) (hn : n ≤ 1000 := by decide) : PE X (.Tuple es x1 pos) (LE X W (mTup t)) := by
  refine PEw (pe_tupP h) ?_
  rintro σ H Q ⟨Z, F, ρ, R, S, w, t, q⟩
  refine ⟨Z, F, ρ, _, S, w, t, fun ds ρ1 vs F1 H1 t1 sf1 S1 r1 hl => ⟨by rw [r1.length, hl]; exact line1000 hn, fun p o hp ho => ?_⟩⟩
  have sf : Same F1 (upd F1 p (.frz o (.tup vs))) := same_upd (S1.fh.free hp)
  exact q _ ρ1 _ _ _ t1 (sf1.trans sf) (S1.new _ hp) (.tup (.inl ⟨o, upd_same, ho⟩) (r1.mono sf) (by rw [hl]; exact line1000 hn))
/-- a new list -/
theorem gn_lst (h : PA X es (LA X W n t)) (hn : n ≤ 1000 := by decide) : PE X (.List es pos) (LN X W (mLst t)) := by
  refine PEw (pe_lst h) ?_
  rintro σ H Q ⟨Z, F, ρ, R, S, w, t, q⟩
  refine ⟨Z, F, ρ, _, S, w, t, fun ds ρ1 vs F1 H1 t1 sf1 S1 r1 hl => ⟨by rw [r1.length, hl]; exact line1000 hn, fun p hp => ?_⟩⟩
  exact q _ ρ1 p F1 _ t1 sf1 (S1.lay _ hp) (S1.fh.free hp) (S1.zh.free hp) ⟨vs, upd_same, r1, by rw [hl]; exact line1000 hn⟩ (S1.newAway hp)

/-! ### subscripts -/
theorem ix_dict (hu : X.A.units + 1 < cLine) : IxR X (fun x y H Q => ∃ a v, x = .ref a ∧ DGet H a y (some v) ∧ Q v H) := by
  intro value slice pins s σ H x y v u Q I rx ry h hs
  obtain ⟨a, z, rfl, g, q⟩ := h
  obtain rfl : v = Value.ref a := rx
  have hT := dict_typeIs I g
  have h₂ : wpAny (model X.prog X.w) X.A (getItem (.ref a) u) (EP X pins σ Q) X.xe s := d_getItem hu I g ry fun w' s3 I3 rw' => ⟨z, H, I3, rw', q⟩
  unfold subscriptTail
  refine wpAny_bind ?_
  rw [getitemInPython_of_ne hT.not_modules]
  refine wpAny_bind (wpAny_specialOf hT PySem.F.slot_dict_getitem.lookup ?_)
  have fin : wpAny (model X.prog X.w) X.A (subscripted slice false (.ref a) u) (fun r s₃ => wpAny (model X.prog X.w) X.A (letTemporaryGo value (.ref a) r >>= fun _ => pure r) (EP X pins σ Q) X.xe s₃) X.xe s := by
    rw [hs]
    exact wpAny_operating (wpAny_mono h₂ (fun r s₃ h₃ => wpAny_bind (wpAny_letTemporaryGo (wpAny_pure h₃))) fun _ _ x => x)
  first
    | exact wpAny_pure (wpAny_bind fin)
    | exact wpAny_bind (wpAny_pure (wpAny_bind fin))
    | exact wpAny_bind fin
def rIxAll (K : PySem.W.Frag) : R2 := fun x y H Q => rIx K x y H Q ∨ ∃ a v, x = .ref a ∧ DGet H a y (some v) ∧ Q v H
theorem ix_all (hu : X.A.units + 64 < cLine) : IxR X (rIxAll X.K) := ix_seq.or (ix_dict (by omega))
def ixD : PyData → PyData → (PyData → Prop) → Prop
  | .list ds, .int i, R => match atI ds i with
    | some d => R d
    | none => False
  | .tuple ds, .int i, R => match atI ds i with
    | some d => R d
    | none => False
  | .dict es, .str k, R => match dget es k with
    | some d => R d
    | none => False
  | _, _, _ => False
theorem RepAll.atI {K : PySem.W.Frag} {H : Hp} {vs : List V} {ds : List PyData} {i : Int} {d : PyData} (h : RepAll K H vs ds) (e : atI ds i = some d) : ∃ v, L2.atI vs i = some v ∧ Rep K H v d := by
  unfold L2.atI at e ⊢
  rw [h.length]
  cases q : ixN ds.length i with
  | none => rw [q] at e; cases e
  | some j =>
    rw [q] at e
    exact h.get (i := j) e
/-- an item of what is frozen, or a container by itself -/
theorem ix_rep {F H : Hp} {x y : V} {c k : PyData} {R : PyData → Prop} {Q : VK} (sf : SameW F H) (hx : RepC X.K F H x c) (hy : Rep X.K F y k) (h : ixD c k R) (q : ∀ d v, R d → Rep X.K F v d → Q v H) : rIxAll X.K x y H Q := by
  unfold ixD at h
  split at h
  · rename_i ds i
    cases hy
    split at h
    · rename_i d e
      rcases hx with hx | ⟨a, rfl, fa, xs, h1, h2, _⟩
      · cases hx with
        | lst h1 h2 _ =>
          obtain ⟨v, e1, e2⟩ := h2.atI e
          exact .inl (.inl ⟨_, _, i, v, rfl, rfl, SqL.of (sf.lst h1), e1, q d v h e2⟩)
      · obtain ⟨v, e1, e2⟩ := h2.atI e
        exact .inl (.inl ⟨_, _, i, v, rfl, rfl, SqL.of h1, e1, q d v h e2⟩)
    · exact h.elim
  · rename_i ds i
    cases hy
    split at h
    · rename_i d e
      rcases hx with hx | ⟨a, rfl, fa, c⟩
      · cases hx with
        | tup h1 h2 _ =>
          obtain ⟨v, e1, e2⟩ := h2.atI e
          exact .inl (.inr (.inl ⟨_, _, i, v, rfl, rfl, (h1.monoW sf).sq, e1, q d v h e2⟩))
      · exact c.elim
    · exact h.elim
  · rename_i es k
    cases hy
    split at h
    · rename_i d e
      have key : ∀ {a : Addr} {kvs : List (Key × V)}, Rd H a (.dK kvs) → RepKV X.K F kvs es → rIxAll X.K (.ref a) (.str k) H Q := fun {a kvs} h1 h2 => by
        rcases h2.look (k := k) with ⟨e1, _⟩ | ⟨d', v, e1, e2, e3⟩
        · rw [e] at e1; cases e1
        · rw [e] at e1; cases e1
          exact .inr ⟨a, v, rfl, .inl ⟨kvs, Sum.inr k, h1, rfl, e2.symm⟩, q d v h e3⟩
      rcases hx with hx | ⟨a, rfl, fa, kvs, h1, h2⟩
      · cases hx with
        | dct h1 h2 => exact key (sf.rd h1) h2
      · exact key (.inl h1) h2
    · exact h.elim
  · exact h.elim
def mIx (ta tb : ME) : ME := fun ρ R => ta ρ fun d ρ1 => tb ρ1 fun e ρ2 => ixD d e fun c => R c ρ2
theorem g_ix (hu : X.A.units + 64 < cLine) (ha : PE X a (LE X W ta)) (hb : PE X b (LE X W tb)) (hs : PlainIx b) : PE X (.Subscript a b pos) (LE X W (mIx ta tb)) := by
  refine PEw (pe_ix (ix_all hu) ha hb hs) ?_
  rintro σ H Q ⟨Z, F, ρ, R, S, w, t, q⟩
  refine ⟨Z, F, ρ, _, S, w, t, fun d ρ1 v F1 H1 t1 sf1 S1 r1 => ?_⟩
  refine ⟨Z, F1, ρ1, _, S1, w.mono sf1, t1, fun e ρ2 u F2 H2 t2 sf2 S2 r2 => ?_⟩
  exact ix_rep S2.fh (.inl (r1.mono sf2)) r2 t2 fun c z hc rz => q c ρ2 z F2 H2 hc (sf1.trans sf2) S2 rz
/-- an item of what a name holds -/
def mIxV (i : Nat) (tb : ME) : ME := fun ρ R => match slot ρ i with
 | .un => False
 | _ => tb ρ fun e ρ1 => match slot ρ1 i with
  | .dat d => ixD d e fun c => R c ρ1
  | .own d => ixD d e fun c => R c ρ1
  | .inn _ d => ixD d e fun c => R c ρ1
  | .scr ns => match e with
    | .int k => match atI ns k with
      | some n => R (.int n) ρ1
      | none => False
    | _ => False
  | _ => False
theorem atI_map {α β : Type} (f : α → β) (l : List α) (i : Int) : atI (l.map f) i = (atI l i).map f := by
  unfold atI
  rw [List.length_map]
  cases ixN l.length i with
  | none => rfl
  | some j => simp
/-- what a slot holds that holds anything -/
theorem SlOk.val {K : PySem.W.Frag} {Z F H : Hp} {v : Option V} {s : Sl} (h : SlOk K Z F H v s) (n : s ≠ .un) : ∃ x, v = some x := by
  cases s with
  | un => exact (n rfl).elim
  | dat d => obtain ⟨x, h1, _⟩ := h; exact ⟨x, h1⟩
  | own d => obtain ⟨a, h1, _⟩ := h; exact ⟨_, h1⟩
  | inn a d => exact ⟨_, h.1⟩
  | raw x => exact ⟨_, h⟩
  | ob a b d => exact ⟨_, h.1⟩
  | scr ns => obtain ⟨a, h1, _⟩ := h; exact ⟨_, h1⟩
theorem g_ixV {i : Nat} {p2 : Pos} (hu : X.A.units + 64 < cLine) (ha : PE X (.Name x p2) (tVar i)) (hb : PE X b (LE X W tb)) (hs : PlainIx b) : PE X (.Subscript (.Name x p2) b pos) (LE X W (mIxV i tb)) := by
  refine PEw (pe_ix (ix_all hu) ha hb hs) ?_
  rintro σ H Q ⟨Z, F, ρ, R, S, w, t, q⟩
  have t' : slot ρ i ≠ .un ∧ tb ρ fun e ρ1 => match slot ρ1 i with
      | .dat d => ixD d e fun c => R c ρ1
      | .own d => ixD d e fun c => R c ρ1
      | .inn _ d => ixD d e fun c => R c ρ1
      | .scr ns => match e with
        | .int k => match atI ns k with
          | some n => R (.int n) ρ1
          | none => False
        | _ => False
      | _ => False := by
    unfold mIxV at t
    split at t
    · exact t.elim
    · rename_i h
      exact ⟨h, t⟩
  obtain ⟨hn, t⟩ := t'
  obtain ⟨v, hv⟩ := (S.sl i _ (slot_some rfl hn)).val hn
  refine ⟨v, at_some hv, Z, F, ρ, _, S, w, t, fun e ρ1 u F1 H1 t1 sf1 S1 r1 => ?_⟩
  split at t1
  · rename_i d e'
    obtain ⟨y, e1, e2⟩ := S1.sl i _ (slot_some e' (fun q => nomatch q))
    rw [hv] at e1; cases e1
    exact ix_rep S1.fh (.inl e2) r1 t1 fun c z hc rz => q c ρ1 z F1 H1 hc sf1 S1 rz
  · rename_i d e'
    obtain ⟨a, e1, z, f, c⟩ := S1.sl i _ (slot_some e' (fun q => nomatch q))
    rw [hv] at e1; cases e1
    exact ix_rep S1.fh (.inr ⟨a, rfl, f, c⟩) r1 t1 fun c z hc rz => q c ρ1 z F1 H1 hc sf1 S1 rz
  · rename_i a d e'
    obtain ⟨e1, z, f, c⟩ := S1.sl i _ (slot_some e' (fun q => nomatch q))
    rw [hv] at e1; cases e1
    exact ix_rep S1.fh (.inr ⟨a, rfl, f, c⟩) r1 t1 fun c z hc rz => q c ρ1 z F1 H1 hc sf1 S1 rz
  · rename_i ns e'
    obtain ⟨a, e1, z⟩ := S1.sl i _ (slot_some e' (fun q => nomatch q))
    rw [hv] at e1; cases e1
    split at t1
    · rename_i k
      cases r1
      split at t1
      · rename_i n en
        exact .inl (.inl ⟨a, _, k, .int n, rfl, rfl, S1.fh.seq z, by rw [atI_map, en]; rfl, q _ ρ1 _ F1 H1 t1 sf1 S1 (.int n)⟩)
      · exact t1.elim
    · exact t1.elim
  · exact t1.elim

/-! ### slices -/
abbrev MO := Ms → (Option Int → Ms → Prop) → Prop
def lO (K : PySem.W.Frag) (mg : Str → Option Value) (W : Wish) (t : MO) : TO := fun σ H Q => ∃ Z F ρ R, Stt K Z F H σ ρ ∧ WOk mg W Z F ∧ t ρ R ∧
  ∀ o ρ' F' H', R o ρ' → Same F F' → Stt K Z F' H' σ ρ' → Q o H'
def mNo : MO := fun ρ R => R none ρ
def mPart (t : ME) : MO := fun ρ R => t ρ fun d ρ1 => match d with
  | .int i => R (some i) ρ1
  | _ => False
theorem POw {X : Cx} {e : Option Expr} {t t' : TO} (h : PO X e t) (w : ∀ σ H Q, t' σ H Q → t σ H Q) : PO X e t' := ⟨fun pins s σ H Q I q => h.run pins s σ H Q I (w σ H Q q)⟩
theorem go_none : PO X none (lO X.K X.mg W mNo) := by
  refine POw po_none ?_
  rintro σ H Q ⟨Z, F, ρ, R, S, w, t, q⟩
  exact q none ρ F H t (Same.refl _) S
theorem go_some (h : PE X e (LE X W te)) : PO X (some e) (lO X.K X.mg W (mPart te)) := by
  refine POw (po_some h) ?_
  rintro σ H Q ⟨Z, F, ρ, R, S, w, t, q⟩
  refine ⟨Z, F, ρ, _, S, w, t, fun d ρ1 v F1 H1 t1 sf1 S1 r1 => ?_⟩
  cases r1 with
  | int i => exact ⟨i, rfl, q (some i) ρ1 F1 H1 t1 sf1 S1⟩
  | _ => exact t1.elim
def cutD (ds : List PyData) (lo hi : Option Int) : List PyData := (ds.drop (HT.sIx ds.length 0 lo)).take (HT.sIx ds.length ds.length hi - HT.sIx ds.length 0 lo)
theorem cut_le {ds : List PyData} {lo hi : Option Int} (h : ds.length ≤ sizeLine) : (cutD ds lo hi).length ≤ sizeLine := by
  unfold cutD
  rw [List.length_take, List.length_drop]
  omega
def slD : PyData → Option Int → Option Int → (PyData → Prop) → Prop
  | .list ds, lo, hi, R => R (.list (cutD ds lo hi))
  | .tuple ds, lo, hi, R => R (.tuple (cutD ds lo hi))
  | _, _, _, _ => False
def mSl (te : ME) (tl th : MO) : ME := fun ρ R => te ρ fun d ρ1 => tl ρ1 fun l ρ2 => th ρ2 fun u ρ3 => slD d l u fun c => R c ρ3
theorem RepAll.cut {K : PySem.W.Frag} {H : Hp} {vs : List V} {ds : List PyData} (h : RepAll K H vs ds) (lo hi : Option Int) : RepAll K H (cutV vs lo hi) (cutD ds lo hi) := by
  unfold cutV cutD
  rw [h.length]
  exact (h.drop _).take _
theorem g_sl {lo hi : Option Expr} {tl th : MO} {p2 : Pos} (he : PE X e (LE X W te)) (hl : PO X lo (lO X.K X.mg W tl)) (hh : PO X hi (lO X.K X.mg W th)) : PE X (.Subscript e (.Slice lo hi none p2) pos) (LE X W (mSl te tl th)) := by
  refine PEw (pe_slice (SlR.or sl_list sl_tupP) he hl hh) ?_
  rintro σ H Q ⟨Z, F, ρ, R, S, w, t, q⟩
  refine ⟨Z, F, ρ, _, S, w, t, fun d ρ1 v F1 H1 t1 sf1 S1 r1 => ?_⟩
  refine ⟨Z, F1, ρ1, _, S1, w.mono sf1, t1, fun l ρ2 F2 H2 t2 sf2 S2 => ?_⟩
  refine ⟨Z, F2, ρ2, _, S2, (w.mono sf1).mono sf2, t2, fun u ρ3 F3 H3 t3 sf3 S3 => ?_⟩
  have r3 := r1.mono (sf2.trans sf3)
  have sf := sf1.trans (sf2.trans sf3)
  cases r3 with
  | @lst a xs ds h1 h2 h3 =>
    refine .inl ⟨a, xs, rfl, SqL.of (S3.fh.lst h1), fun p hp => ?_⟩
    have sn : Same F3 (upd F3 p (.lst (cutV xs l u))) := same_upd (S3.fh.free hp)
    exact q _ ρ3 _ _ _ t3 (sf.trans sn) (S3.new _ hp) (.lst upd_same ((h2.cut l u).mono sn) (cut_le h3))
  | @tup a xs ds h1 h2 h3 =>
    refine .inr ⟨a, xs, rfl, (h1.monoW S3.fh).sq, fun hw => ?_, fun hw p o hp ho => ?_⟩
    · have e : cutD ds l u = ds := by
        unfold cutD
        rw [h2.length] at hw
        rw [hw.1, hw.2, List.drop_zero, Nat.sub_zero, List.take_length]
      have t3 : R (.tuple (cutD ds l u)) ρ3 := t3
      rw [e] at t3
      exact q _ ρ3 _ _ _ t3 sf S3 (.tup h1 h2 h3)
    · have sn : Same F3 (upd F3 p (.frz o (.tup (cutV xs l u)))) := same_upd (S3.fh.free hp)
      exact q _ ρ3 _ _ _ t3 (sf.trans sn) (S3.new _ hp) (.tup (.inl ⟨o, upd_same, ho⟩) ((h2.cut l u).mono sn) (cut_le h3))
  | _ => exact t3.elim

/-! ### -a, a is None, chains -/
def mNeg (t : ME) : ME := fun ρ R => t ρ fun d ρ1 => match d with
  | .int i => R (.int (-i)) ρ1
  | _ => False
theorem g_neg (h : PE X a (LE X W ta)) : PE X (.UnaryOp .USub a pos) (LE X W (mNeg ta)) := by
  refine PEw (pe_un un_neg h) ?_
  rintro σ H Q ⟨Z, F, ρ, R, S, w, t, q⟩
  refine ⟨Z, F, ρ, _, S, w, t, fun d ρ1 v F1 H1 t1 sf1 S1 r1 => ?_⟩
  cases r1 with
  | int i => exact ⟨i, rfl, q _ ρ1 _ F1 H1 t1 sf1 S1 (.int _)⟩
  | _ => exact t1.elim
def isNoneD : PyData → Bool
  | .none => true
  | _ => false
def mIsN (t : ME) : ME := fun ρ R => t ρ fun d ρ1 => R (.bool (isNoneD d)) ρ1
def mNotN (t : ME) : ME := fun ρ R => t ρ fun d ρ1 => R (.bool (!isNoneD d)) ρ1
theorem Rep.isNone {K : PySem.W.Frag} {H : Hp} {v : V} {d : PyData} (r : Rep K H v d) : decide (v = .non) = isNoneD d := by
  cases r <;> rfl
theorem g_isN {j pos'} (h : PE X a (LE X W ta)) : PE X (.Compare a [.Is] [.Constant .none j pos'] pos) (LE X W (mIsN ta)) := by
  refine PEw (pe_cmp (pc_isN h) rfl) ?_
  rintro σ H Q ⟨Z, F, ρ, R, S, w, t, q⟩
  refine ⟨Z, F, ρ, _, S, w, t, fun d ρ1 v F1 H1 t1 sf1 S1 r1 => ?_⟩
  dsimp only
  rw [r1.isNone]
  exact q _ ρ1 _ F1 H1 t1 sf1 S1 (.bl _)
theorem g_notN {j pos'} (h : PE X a (LE X W ta)) : PE X (.Compare a [.IsNot] [.Constant .none j pos'] pos) (LE X W (mNotN ta)) := by
  refine PEw (pe_cmp (pc_notN h) rfl) ?_
  rintro σ H Q ⟨Z, F, ρ, R, S, w, t, q⟩
  refine ⟨Z, F, ρ, _, S, w, t, fun d ρ1 v F1 H1 t1 sf1 S1 r1 => ?_⟩
  dsimp only
  rw [r1.isNone]
  exact q _ ρ1 _ F1 H1 t1 sf1 S1 (.bl _)
/-- a test of one comparison with None -/
theorem gt_isN {j pos'} (h : PE X a (LE X W ta)) : PT X (.Compare a [.Is] [.Constant .none j pos'] pos) (LB X W (mT (mIsN ta))) := by
  refine PTw (pt_cmp (pc_isN h) rfl) ?_
  rintro σ H Q ⟨Z, F, ρ, R, S, w, t, q⟩
  refine ⟨Z, F, ρ, _, S, w, t, fun d ρ1 v F1 H1 t1 sf1 S1 r1 => ?_⟩
  dsimp only
  rw [r1.isNone]
  exact ⟨_, rfl, q _ ρ1 F1 H1 t1 sf1 S1⟩
theorem gt_notN {j pos'} (h : PE X a (LE X W ta)) : PT X (.Compare a [.IsNot] [.Constant .none j pos'] pos) (LB X W (mT (mNotN ta))) := by
  refine PTw (pt_cmp (pc_notN h) rfl) ?_
  rintro σ H Q ⟨Z, F, ρ, R, S, w, t, q⟩
  refine ⟨Z, F, ρ, _, S, w, t, fun d ρ1 v F1 H1 t1 sf1 S1 r1 => ?_⟩
  dsimp only
  rw [r1.isNone]
  exact ⟨_, rfl, q _ ρ1 F1 H1 t1 sf1 S1⟩
/-- a < b < c, whole numbers -/
def chainR (X : Cx) (op : CmpOp) (f : PyData → PyData → (Bool → Prop) → Prop) : Prop := ∃ r : R2, OpR X (compareOp op) r ∧
  ∀ (H : Hp) (x y : V) (d e : PyData) (R : Bool → Prop) (Q : VK), Rep X.K H x d → Rep X.K H y e → f d e R → (∀ b, R b → Q (.bl b) H) → r x y H Q
theorem ch_le : chainR X .LtE leD := ⟨_, op_le, fun H x y d e R Q r1 r2 hf q => by
  cases r1 <;> cases r2 <;> first | exact ⟨_, _, rfl, rfl, q _ hf⟩ | exact hf.elim⟩
theorem ch_lt : chainR X .Lt ltD := ⟨_, OpR.or op_lt op_lt_str, fun H x y d e R Q r1 r2 hf q => by
  cases r1 <;> cases r2 <;> first | exact .inl ⟨_, _, rfl, rfl, q _ hf⟩ | exact .inr ⟨_, _, rfl, rfl, q _ hf⟩ | exact hf.elim⟩
def mChain (f g : PyData → PyData → (Bool → Prop) → Prop) (ta tb tc : ME) : ME := fun ρ R => ta ρ fun d ρ1 => tb ρ1 fun e ρ2 => f d e fun k =>
  if k = true then tc ρ2 fun c ρ3 => g e c fun k2 => R (.bool k2) ρ3 else R (.bool false) ρ2
variable {c : Expr} {tc : ME}
theorem g_chain {op op' : CmpOp} {f g : PyData → PyData → (Bool → Prop) → Prop} (h : chainR X op f) (h' : chainR X op' g) (ha : PE X a (LE X W ta)) (hb : PE X b (LE X W tb)) (hc : PE X c (LE X W tc))
    (hm : lastMarks [op, op'] [b, c] = false := by with_unfolding_all rfl) : PE X (.Compare a [op, op'] [b, c] pos) (LE X W (mChain f g ta tb tc)) := by
  obtain ⟨r, hr, kr⟩ := h
  obtain ⟨r', hr', kr'⟩ := h'
  refine PEw (pe_chain hr hr' ha hb hc hm) ?_
  rintro σ H Q ⟨Z, F, ρ, R, S, w, t, q⟩
  refine ⟨Z, F, ρ, _, S, w, t, fun d ρ1 x F1 H1 t1 sf1 S1 r1 => ?_⟩
  refine ⟨Z, F1, ρ1, _, S1, w.mono sf1, t1, fun e ρ2 y F2 H2 t2 sf2 S2 r2 => ?_⟩
  refine kr H2 x y d e _ _ ((r1.mono sf2).monoW S2.fh) (r2.monoW S2.fh) t2 fun k hk => ⟨k, rfl, ?_⟩
  cases k with
  | true =>
    rw [if_pos rfl] at hk ⊢
    refine ⟨Z, F2, ρ2, _, S2, (w.mono sf1).mono sf2, hk, fun c ρ3 z F3 H3 t3 sf3 S3 r3 => ?_⟩
    exact kr' H3 y z e c _ _ ((r2.mono sf3).monoW S3.fh) (r3.monoW S3.fh) t3 fun k2 hk2 => q _ ρ3 _ F3 H3 hk2 (sf1.trans (sf2.trans sf3)) S3 (.bl k2)
  | false =>
    rw [if_neg Bool.false_ne_true] at hk ⊢
    exact q _ ρ2 _ F2 H2 hk (sf1.trans sf2) S2 (.bl false)
theorem gt_chain {op op' : CmpOp} {f g : PyData → PyData → (Bool → Prop) → Prop} (h : chainR X op f) (h' : chainR X op' g) (ha : PE X a (LE X W ta)) (hb : PE X b (LE X W tb)) (hc : PE X c (LE X W tc))
    (hm : lastMarks [op, op'] [b, c] = false := by with_unfolding_all rfl) : PT X (.Compare a [op, op'] [b, c] pos) (LB X W (mT (mChain f g ta tb tc))) := by
  obtain ⟨r, hr, kr⟩ := h
  obtain ⟨r', hr', kr'⟩ := h'
  refine PTw (pt_chain hr hr' ha hb hc hm) ?_
  rintro σ H Q ⟨Z, F, ρ, R, S, w, t, q⟩
  refine ⟨Z, F, ρ, _, S, w, t, fun d ρ1 x F1 H1 t1 sf1 S1 r1 => ?_⟩
  refine ⟨Z, F1, ρ1, _, S1, w.mono sf1, t1, fun e ρ2 y F2 H2 t2 sf2 S2 r2 => ?_⟩
  refine kr H2 x y d e _ _ ((r1.mono sf2).monoW S2.fh) (r2.monoW S2.fh) t2 fun k hk => ⟨k, rfl, ?_⟩
  cases k with
  | true =>
    rw [if_pos rfl] at hk ⊢
    refine ⟨Z, F2, ρ2, _, S2, (w.mono sf1).mono sf2, hk, fun c ρ3 z F3 H3 t3 sf3 S3 r3 => ?_⟩
    exact kr' H3 y z e c _ _ ((r2.mono sf3).monoW S3.fh) (r3.monoW S3.fh) t3 fun k2 hk2 => ⟨k2, rfl, q _ ρ3 F3 H3 hk2 (sf1.trans (sf2.trans sf3)) S3⟩
  | false =>
    rw [if_neg Bool.false_ne_true] at hk ⊢
    exact ⟨false, rfl, q _ ρ2 F2 H2 hk (sf1.trans sf2) S2⟩
end
end G


set_option Elab.async false
set_option maxRecDepth 100000
set_option maxHeartbeats 1000000
/-! GV5: calls of what is built in. -/
namespace G
open PySem PySem.Spec PyProof.Rows L2
/-- one argument (data or a container by itself), the answer is data -/
def CallG (X : Cx) (f : Value) (g : PyData → (PyData → Prop) → Prop) : Prop :=
  ∀ (pins : List (Addr × Obj)) (s : Shared) (σ : L2.St) (Z F H : Hp) (ρ : Ms) (x : V) (u : Value) (d : PyData) (R : PyData → Prop) (Q : VK),
    Inv X pins σ H s → Stt X.K Z F H σ ρ → RepC X.K F H x d → RelV x u → g d R →
    (∀ c z F' H', R c → Same F F' → Stt X.K Z F' H' σ ρ → Rep X.K F' z c → Q z H') → wpAny (model X.prog X.w) X.A (call f [u]) (EP X pins σ Q) X.xe s
/-- .. the answer is a new container -/
def CallN (X : Cx) (f : Value) (g : PyData → (PyData → Prop) → Prop) : Prop :=
  ∀ (pins : List (Addr × Obj)) (s : Shared) (σ : L2.St) (Z F H : Hp) (ρ : Ms) (x : V) (u : Value) (d : PyData) (R : PyData → Prop) (Q : VK),
    Inv X pins σ H s → Stt X.K Z F H σ ρ → RepC X.K F H x d → RelV x u → g d R →
    (∀ c a F' H', R c → Same F F' → Stt X.K Z F' H' σ ρ → F' a = none → Z a = none → Cont X.K F' H' a c → (∀ i s, ρ[i]? = some s → ¬ mutA (at_ σ i) s a) → Q (.ref a) H') →
    wpAny (model X.prog X.w) X.A (call f [u]) (EP X pins σ Q) X.xe s
/-- some arguments, data -/
def CallM (X : Cx) (f : Value) (g : List PyData → (PyData → Prop) → Prop) : Prop :=
  ∀ (pins : List (Addr × Obj)) (s : Shared) (σ : L2.St) (Z F H : Hp) (ρ : Ms) (xs : List V) (us : List Value) (ds : List PyData) (R : PyData → Prop) (Q : VK),
    Inv X pins σ H s → Stt X.K Z F H σ ρ → RepAll X.K F xs ds → Vals xs us → g ds R →
    (∀ c z F' H', R c → Same F F' → Stt X.K Z F' H' σ ρ → Rep X.K F' z c → Q z H') → wpAny (model X.prog X.w) X.A (call f us) (EP X pins σ Q) X.xe s
def mCall1 (g : PyData → (PyData → Prop) → Prop) (t : ME) : ME := fun ρ R => t ρ fun d ρ1 => g d fun c => R c ρ1
def mCallM (g : List PyData → (PyData → Prop) → Prop) (t : MA) : ME := fun ρ R => t ρ fun ds ρ1 => g ds fun c => R c ρ1
section
variable {X : Cx} {W : Wish} {pos p : Pos} {x : Str} {e : Expr} {es : List Expr} {te : ME} {t : MA} {n : Nat} {id T : String} {g : PyData → (PyData → Prop) → Prop} {gm : List PyData → (PyData → Prop) → Prop}
theorem run1 {f : Value} (hc : CallG X f g) {pins : List (Addr × Obj)} {σ : L2.St} {H : Hp} {s : Shared} {Q : VK} (he : PE X e (LC X W te)) (I : Inv X pins σ H s) (h : LE X W (mCall1 g te) σ H Q)
    (hs : starEach [e] X.env = (false, eval e X.env) :: starEach [] X.env) : wpAny (model X.prog X.w) X.A (spliced (backTo pos (starEach [e] X.env))) (fun us s1 => wpAny (model X.prog X.w) X.A (call f us) (EP X pins σ Q) X.xe s1) X.xe s := by
  obtain ⟨Z, F, ρ, R, S, w, t, q⟩ := h
  refine thn ((pa_cons he pa_nil hs).run pos pins s σ H (fun vs H1 => ∃ F1 ρ1 d v, vs = [v] ∧ Same F F1 ∧ Stt X.K Z F1 H1 σ ρ1 ∧ RepC X.K F1 H1 v d ∧ g d fun c => R c ρ1) I ?_) fun us s1 ⟨vs, H1, I1, r1, F1, ρ1, d, v, ev, sf1, S1, rc, t1⟩ => ?_
  · exact ⟨Z, F, ρ, _, S, w, t, fun d ρ1 v F1 H1 t1 sf1 S1 r1 => ⟨F1, ρ1, d, v, rfl, sf1, S1, r1, t1⟩⟩
  · subst ev
    obtain ⟨u, rfl, ru⟩ := vals1 r1
    exact hc pins s1 σ Z F1 H1 ρ1 v u d _ Q I1 S1 rc ru t1 fun c z F' H' hc sf' S' rz => q c ρ1 z F' H' hc (sf1.trans sf') S' rz
theorem run1N {f : Value} (hc : CallN X f g) {pins : List (Addr × Obj)} {σ : L2.St} {H : Hp} {s : Shared} {Q : VK} (he : PE X e (LC X W te)) (I : Inv X pins σ H s) (h : LN X W (mCall1 g te) σ H Q)
    (hs : starEach [e] X.env = (false, eval e X.env) :: starEach [] X.env) : wpAny (model X.prog X.w) X.A (spliced (backTo pos (starEach [e] X.env))) (fun us s1 => wpAny (model X.prog X.w) X.A (call f us) (EP X pins σ Q) X.xe s1) X.xe s := by
  obtain ⟨Z, F, ρ, R, S, w, t, q⟩ := h
  refine thn ((pa_cons he pa_nil hs).run pos pins s σ H (fun vs H1 => ∃ F1 ρ1 d v, vs = [v] ∧ Same F F1 ∧ Stt X.K Z F1 H1 σ ρ1 ∧ RepC X.K F1 H1 v d ∧ g d fun c => R c ρ1) I ?_) fun us s1 ⟨vs, H1, I1, r1, F1, ρ1, d, v, ev, sf1, S1, rc, t1⟩ => ?_
  · exact ⟨Z, F, ρ, _, S, w, t, fun d ρ1 v F1 H1 t1 sf1 S1 r1 => ⟨F1, ρ1, d, v, rfl, sf1, S1, r1, t1⟩⟩
  · subst ev
    obtain ⟨u, rfl, ru⟩ := vals1 r1
    exact hc pins s1 σ Z F1 H1 ρ1 v u d _ Q I1 S1 rc ru t1 fun c a F' H' hc sf' S' fa za ct aw => q c ρ1 a F' H' hc (sf1.trans sf') S' fa za ct aw
theorem g_b1 (hc : CallG X (.builtin id) g) (hg : Gl X x) (hm : X.mg x = none) (hv : bootBuiltins x = some (.builtin id)) (he : PE X e (LC X W te)) (hn : x ≠ "__name__" := by decide) (hdb : (x == ("__debug__" : Str)) = false := by decide)
    (hs : starEach [e] X.env = (false, eval e X.env) :: starEach [] X.env := by rfl) (hpl : (backTo pos (starEach [] X.env)).any (·.1) = false := by rfl) : PE X (.Call (.Name x p) [e] [] pos) (LE X W (mCall1 g te)) := by
  refine ⟨fun pins s σ H Q I h => ?_⟩
  refine wpAny_Call_Name_kw (ld_blt I hg hm hv ?_ hn hdb)
  exact PyProof.Rows.callWith_builtin1 (run1 hc he I h hs) hs hpl
theorem g_t1 (hc : CallG X (.type T) g) (hg : Gl X x) (hm : X.mg x = none) (hv : bootBuiltins x = some (.type T)) (he : PE X e (LC X W te)) (hn : x ≠ "__name__" := by decide) (hdb : (x == ("__debug__" : Str)) = false := by decide)
    (hs : starEach [e] X.env = (false, eval e X.env) :: starEach [] X.env := by rfl) (hpl : (backTo pos (starEach [] X.env)).any (·.1) = false := by rfl) : PE X (.Call (.Name x p) [e] [] pos) (LE X W (mCall1 g te)) := by
  refine ⟨fun pins s σ H Q I h => ?_⟩
  refine wpAny_Call_Name_kw (ld_blt I hg hm hv ?_ hn hdb)
  exact PyProof.Rows.callWith_type1 (run1 hc he I h hs) hs hpl
theorem gn_b1 (hc : CallN X (.builtin id) g) (hg : Gl X x) (hm : X.mg x = none) (hv : bootBuiltins x = some (.builtin id)) (he : PE X e (LC X W te)) (hn : x ≠ "__name__" := by decide) (hdb : (x == ("__debug__" : Str)) = false := by decide)
    (hs : starEach [e] X.env = (false, eval e X.env) :: starEach [] X.env := by rfl) (hpl : (backTo pos (starEach [] X.env)).any (·.1) = false := by rfl) : PE X (.Call (.Name x p) [e] [] pos) (LN X W (mCall1 g te)) := by
  refine ⟨fun pins s σ H Q I h => ?_⟩
  refine wpAny_Call_Name_kw (ld_blt I hg hm hv ?_ hn hdb)
  exact PyProof.Rows.callWith_builtin1 (run1N hc he I h hs) hs hpl
theorem gn_t1 (hc : CallN X (.type T) g) (hg : Gl X x) (hm : X.mg x = none) (hv : bootBuiltins x = some (.type T)) (he : PE X e (LC X W te)) (hn : x ≠ "__name__" := by decide) (hdb : (x == ("__debug__" : Str)) = false := by decide)
    (hs : starEach [e] X.env = (false, eval e X.env) :: starEach [] X.env := by rfl) (hpl : (backTo pos (starEach [] X.env)).any (·.1) = false := by rfl) : PE X (.Call (.Name x p) [e] [] pos) (LN X W (mCall1 g te)) := by
  refine ⟨fun pins s σ H Q I h => ?_⟩
  refine wpAny_Call_Name_kw (ld_blt I hg hm hv ?_ hn hdb)
  exact PyProof.Rows.callWith_type1 (run1N hc he I h hs) hs hpl
theorem g_bm (hc : CallM X (.builtin id) gm) (hg : Gl X x) (hm : X.mg x = none) (hv : bootBuiltins x = some (.builtin id)) (ha : PA X (e :: es) (LA X W n t)) (hn : x ≠ "__name__" := by decide) (hdb : (x == ("__debug__" : Str)) = false := by decide)
    (hs : starEach (e :: es) X.env = (false, eval e X.env) :: starEach es X.env := by rfl) (hpl : (backTo pos (starEach es X.env)).any (·.1) = false := by rfl) : PE X (.Call (.Name x p) (e :: es) [] pos) (LE X W (mCallM gm t)) := by
  refine ⟨fun pins s σ H Q I h => ?_⟩
  refine wpAny_Call_Name_kw (ld_blt I hg hm hv ?_ hn hdb)
  obtain ⟨Z, F, ρ, R, S, w, t, q⟩ := h
  refine PyProof.Rows.callWith_builtin1 (thn (ha.run pos pins s σ H (fun vs H1 => ∃ F1 ρ1 ds, Same F F1 ∧ Stt X.K Z F1 H1 σ ρ1 ∧ RepAll X.K F1 vs ds ∧ gm ds fun c => R c ρ1) I ?_) fun us s1 ⟨vs, H1, I1, r1, F1, ρ1, ds, sf1, S1, rc, t1⟩ => ?_) hs hpl
  · exact ⟨Z, F, ρ, _, S, w, t, fun ds ρ1 vs F1 H1 t1 sf1 S1 r1 _ => ⟨F1, ρ1, ds, sf1, S1, r1, t1⟩⟩
  · exact hc pins s1 σ Z F1 H1 ρ1 vs us ds _ Q I1 S1 rc r1 t1 fun c z F' H' hc sf' S' rz => q c ρ1 z F' H' hc (sf1.trans sf') S' rz

/-! ### what they do -/
theorem RepC.cases {K : PySem.W.Frag} {F H : Hp} {v : V} {d : PyData} (h : RepC K F H v d) (sf : SameW F H) :
    (∃ a xs ds, v = .ref a ∧ d = .list ds ∧ H a = some (.lst xs) ∧ RepAll K F xs ds ∧ ds.length ≤ sizeLine) ∨ (∃ a kvs es, v = .ref a ∧ d = .dict es ∧ Rd H a (.dK kvs) ∧ RepKV K F kvs es) ∨ (Rep K F v d ∧ (∀ ds, d ≠ .list ds) ∧ ∀ es, d ≠ .dict es) := by
  rcases h with h | ⟨a, rfl, fa, c⟩
  · cases h with
    | lst h1 h2 h3 => exact .inl ⟨_, _, _, rfl, rfl, sf.lst h1, h2, h3⟩
    | dct h1 h2 => exact .inr (.inl ⟨_, _, _, rfl, rfl, sf.rd h1, h2⟩)
    | non => exact .inr (.inr ⟨.non, (fun _ q => nomatch q), fun _ q => nomatch q⟩)
    | bl b => exact .inr (.inr ⟨.bl b, (fun _ q => nomatch q), fun _ q => nomatch q⟩)
    | int b => exact .inr (.inr ⟨.int b, (fun _ q => nomatch q), fun _ q => nomatch q⟩)
    | str b => exact .inr (.inr ⟨.str b, (fun _ q => nomatch q), fun _ q => nomatch q⟩)
    | tup h1 h2 h3 => exact .inr (.inr ⟨.tup h1 h2 h3, (fun _ q => nomatch q), fun _ q => nomatch q⟩)
  · cases d with
    | list ds => obtain ⟨xs, h1, h2, h3⟩ := c; exact .inl ⟨a, xs, ds, rfl, rfl, h1, h2, h3⟩
    | dict es => obtain ⟨kvs, h1, h2⟩ := c; exact .inr (.inl ⟨a, kvs, es, rfl, rfl, .inl h1, h2⟩)
    | _ => exact c.elim
/-- from a rule that says of one value what it is -/
theorem callG_of {f : Value} {r : List V → Hp → VK → Prop} (hc : CallR X f r)
    (h : ∀ (Z F H : Hp) (σ : L2.St) (ρ : Ms) (x : V) (d : PyData) (R : PyData → Prop) (Q : VK), Stt X.K Z F H σ ρ → RepC X.K F H x d → g d R →
      (∀ c z F' H', R c → Same F F' → Stt X.K Z F' H' σ ρ → Rep X.K F' z c → Q z H') → r [x] H Q) : CallG X f g := by
  intro pins s σ Z F H ρ x u d R Q I S rx rv hg q
  exact hc pins s σ H [x] [u] Q I (.cons rv .nil) (h Z F H σ ρ x d R Q S rx hg q)
def lenD : PyData → (PyData → Prop) → Prop
  | .list ds, R => R (.int ds.length)
  | .tuple ds, R => R (.int ds.length)
  | .dict ds, R => R (.int ds.length)
  | .str z, R => z.length ≤ sizeLine ∧ R (.int z.length)
  | _, _ => False
theorem call_lenR : CallR X (.builtin "len") (fun xs H Q => ∃ a kvs, xs = [V.ref a] ∧ Rd H a (.dK kvs) ∧ Q (.int kvs.length) H) := by
  intro pins s σ H xs us Q I r h
  obtain ⟨a, kvs, rfl, ha, q⟩ := h
  obtain ⟨u, rfl, ru⟩ := vals1 r
  cases ru
  exact d_len I ha fun t s' I' => ⟨.int kvs.length, H, I', ⟨t, rfl⟩, q⟩
theorem cg_len : CallG X (.builtin "len") lenD := by
  refine callG_of (CallR.or call_len_seq (CallR.or call_len_str call_lenR)) fun Z F H σ ρ x d R Q S rx hg q => ?_
  rcases rx.cases S.fh with ⟨a, xs, ds, rfl, rfl, h1, h2, h3⟩ | ⟨a, kvs, es, rfl, rfl, h1, h2⟩ | ⟨r, n1, n2⟩
  · exact .inl ⟨a, xs, rfl, .inl (SqL.of h1), by rw [h2.length]; exact q _ _ F H hg (Same.refl _) S (.int _)⟩
  · exact .inr (.inr ⟨a, kvs, rfl, h1, by rw [h2.length]; exact q _ _ F H hg (Same.refl _) S (.int _)⟩)
  · cases r with
    | tup h1 h2 h3 => exact .inl ⟨_, _, rfl, .inr (h1.monoW S.fh).sq, by rw [h2.length]; exact q _ _ F H hg (Same.refl _) S (.int _)⟩
    | str z => exact .inr (.inl ⟨z, rfl, hg.1, q _ _ F H hg.2 (Same.refl _) S (.int _)⟩)
    | lst h1 h2 h3 => exact (n1 _ rfl).elim
    | dct h1 h2 => exact (n2 _ rfl).elim
    | _ => exact hg.elim
def absD : PyData → (PyData → Prop) → Prop
  | .int i, R => R (.int (if i < 0 then -i else i))
  | _, _ => False
theorem cg_abs : CallG X (.builtin "abs") absD := by
  refine callG_of call_abs fun Z F H σ ρ x d R Q S rx hg q => ?_
  rcases rx.cases S.fh with ⟨a, xs, ds, rfl, rfl, h1, h2, h3⟩ | ⟨a, kvs, es, rfl, rfl, h1, h2⟩ | ⟨r, n1, n2⟩
  · exact hg.elim
  · exact hg.elim
  · cases r with
    | int i => exact ⟨i, rfl, q _ _ F H hg (Same.refl _) S (.int _)⟩
    | _ => exact hg.elim
def intD : PyData → (PyData → Prop) → Prop
  | .int i, R => R (.int i)
  | .bool b, R => R (.int (if b then 1 else 0))
  | _, _ => False
theorem cg_int : CallG X (.type "int") intD := by
  refine callG_of call_int1 fun Z F H σ ρ x d R Q S rx hg q => ?_
  rcases rx.cases S.fh with ⟨a, xs, ds, rfl, rfl, h1, h2, h3⟩ | ⟨a, kvs, es, rfl, rfl, h1, h2⟩ | ⟨r, n1, n2⟩
  · exact hg.elim
  · exact hg.elim
  · cases r with
    | int i => exact .inl ⟨i, rfl, q _ _ F H hg (Same.refl _) S (.int _)⟩
    | bl b => exact .inr ⟨b, rfl, q _ _ F H hg (Same.refl _) S (.int _)⟩
    | _ => exact hg.elim
/-- sum of whole numbers, all of truths -/
def sumD (d : PyData) (R : PyData → Prop) : Prop := ∃ ns : List Int, d = .list (ns.map PyData.int) ∧ R (.int ns.sum)
theorem cg_sum (hc : X.calm = true) : CallG X (.builtin "sum") sumD := by
  refine callG_of (cr_sum hc) fun Z F H σ ρ x d R Q S rx hg q => ?_
  obtain ⟨ns, rfl, hr⟩ := hg
  rcases rx.cases S.fh with ⟨a, xs, ds, rfl, e, h1, h2, h3⟩ | ⟨a, kvs, es, rfl, e, h1, h2⟩ | ⟨r, n1, n2⟩
  · cases e
    rw [h2.ints_of] at h1
    exact ⟨a, ns, rfl, SqL.of h1, q _ _ F H hr (Same.refl _) S (.int _)⟩
  · cases e
  · exact (n1 _ rfl).elim
def allD (d : PyData) (R : PyData → Prop) : Prop := ∃ ns : List Bool, d = .list (ns.map PyData.bool) ∧ R (.bool (ns.all fun b => b))
theorem cg_all (hc : X.calm = true) : CallG X (.builtin "all") allD := by
  refine callG_of (cr_all hc) fun Z F H σ ρ x d R Q S rx hg q => ?_
  obtain ⟨ns, rfl, hr⟩ := hg
  rcases rx.cases S.fh with ⟨a, xs, ds, rfl, e, h1, h2, h3⟩ | ⟨a, kvs, es, rfl, e, h1, h2⟩ | ⟨r, n1, n2⟩
  · cases e
    rw [h2.bls_of] at h1
    exact ⟨a, ns, rfl, SqL.of h1, q _ _ F H hr (Same.refl _) S (.bl _)⟩
  · cases e
  · exact (n1 _ rfl).elim
def tupD : PyData → (PyData → Prop) → Prop
  | .list ds, R => R (.tuple ds)
  | .tuple ds, R => R (.tuple ds)
  | _, _ => False
theorem cg_tuple : CallG X (.type "tuple") tupD := by
  refine callG_of call_tupleP fun Z F H σ ρ x d R Q S rx hg q => ?_
  rcases rx.cases S.fh with ⟨a, xs, ds, rfl, rfl, h1, h2, h3⟩ | ⟨a, kvs, es, rfl, rfl, h1, h2⟩ | ⟨r, n1, n2⟩
  · refine ⟨a, xs, rfl, .inl ⟨SqL.of h1, fun p o hp ho => ?_⟩⟩
    have sf : Same F (upd F p (.frz o (.tup xs))) := same_upd (S.fh.free hp)
    exact q _ _ _ _ hg sf (S.new _ hp) (.tup (.inl ⟨o, upd_same, ho⟩) (h2.mono sf) h3)
  · exact hg.elim
  · cases r with
    | tup h1 h2 h3 => exact ⟨_, _, rfl, .inr ⟨(h1.monoW S.fh).sq, q _ _ F H hg (Same.refl _) S (.tup h1 h2 h3)⟩⟩
    | lst h1 h2 h3 => exact (n1 _ rfl).elim
    | _ => exact hg.elim
def listD : PyData → (PyData → Prop) → Prop
  | .list ds, R => R (.list ds)
  | .tuple ds, R => R (.list ds)
  | _, _ => False
theorem cn_list : CallN X (.type "list") listD := by
  intro pins s σ Z F H ρ x u d R Q I S rx rv hg q
  rcases rx.cases S.fh with ⟨a, xs, ds, rfl, rfl, h1, h2, h3⟩ | ⟨a, kvs, es, rfl, rfl, h1, h2⟩ | ⟨r, n1, n2⟩
  · refine call_list_of pins s σ H [_] [u] Q I (.cons rv .nil) ⟨a, xs, rfl, .inl (SqL.of h1), fun l hl => ?_⟩
    exact q _ l F _ hg (Same.refl _) (S.lay _ hl) (S.fh.free hl) (S.zh.free hl) ⟨xs, upd_same, h2, h3⟩ (S.newAway hl)
  · exact hg.elim
  · cases r with
    | tup h1 h2 h3 =>
      refine call_list_of pins s σ H [_] [u] Q I (.cons rv .nil) ⟨_, _, rfl, .inr (h1.monoW S.fh).sq, fun l hl => ?_⟩
      exact q _ l F _ hg (Same.refl _) (S.lay _ hl) (S.fh.free hl) (S.zh.free hl) ⟨_, upd_same, h2, h3⟩ (S.newAway hl)
    | lst h1 h2 h3 => exact (n1 _ rfl).elim
    | _ => exact hg.elim
/-- two whole numbers -/
def max2D : List PyData → (PyData → Prop) → Prop
  | [.int i, .int j], R => R (.int (if j > i then j else i))
  | _, _ => False
def min2D : List PyData → (PyData → Prop) → Prop
  | [.int i, .int j], R => R (.int (if j < i then j else i))
  | _, _ => False
theorem ii_of {K : PySem.W.Frag} {H : Hp} {xs : List V} {i j : Int} (r : RepAll K H xs [.int i, .int j]) : xs = [.int i, .int j] := by
  cases r with
  | cons a b =>
    cases a
    cases b with
    | cons a b => cases a; cases b; rfl
theorem cm_max2 (hc : X.calm = true) : CallM X (.builtin "max") max2D := by
  intro pins s σ Z F H ρ xs us ds R Q I S rx rv hg q
  unfold max2D at hg
  split at hg
  · rename_i i j
    rw [ii_of rx] at rv
    exact call_max2 hc pins s σ H _ us Q I rv ⟨i, j, rfl, q _ _ F H hg (Same.refl _) S (.int _)⟩
  · exact hg.elim
theorem cm_min2 (hc : X.calm = true) : CallM X (.builtin "min") min2D := by
  intro pins s σ Z F H ρ xs us ds R Q I S rx rv hg q
  unfold min2D at hg
  split at hg
  · rename_i i j
    rw [ii_of rx] at rv
    exact call_min2 hc pins s σ H _ us Q I rv ⟨i, j, rfl, q _ _ F H hg (Same.refl _) S (.int _)⟩
  · exact hg.elim
/-- isinstance of a class that is built in -/
def tyD : PyData → String
  | .none => "NoneType"
  | .bool _ => "bool"
  | .int _ => "int"
  | .str _ => "str"
  | .list _ => "list"
  | .tuple _ => "tuple"
  | .dict _ => "dict"
theorem Rep.tyx {K : PySem.W.Frag} {H : Hp} {v : V} {d : PyData} (r : Rep K H v d) : TyX K H v (.type (tyD d)) := by
  cases r with
  | non => exact .base .non
  | bl b => exact .base (.bl b)
  | int b => exact .base (.int b)
  | str b => exact .base (.str b)
  | lst h _ _ => exact .base (.lst h)
  | dct h _ =>
    rcases h with h | ⟨o, h⟩
    · exact .base (.dK h)
    · exact .fDict h
  | tup h _ _ =>
    rcases h with ⟨o, h, _⟩ | ⟨o, its, n, h, c, _⟩
    · exact .fTuple h
    · exact .kTuple h c
def isiD (T : String) (d : PyData) : Bool := (kitB (tyD d) T).getD false
def mIsi (T : String) (t : ME) : ME := fun ρ R => t ρ fun d ρ1 => R (.bool (isiD T d)) ρ1
theorem isi_ok {T : String} (hT : ["NoneType", "bool", "int", "str", "list", "tuple", "dict"].all (fun z => (kitB z T).isSome) = true) (d : PyData) : kitB (tyD d) T = some (isiD T d) := by
  have key : (kitB (tyD d) T).isSome = true := by
    simp only [List.all_cons, Bool.and_eq_true, List.all_nil, and_true] at hT
    obtain ⟨a1, a2, a3, a4, a5, a6, a7⟩ := hT
    cases d <;> assumption
  unfold isiD
  obtain ⟨b, hb⟩ := Option.isSome_iff_exists.mp key
  rw [hb]; rfl
theorem g_isi {T : String} {y : Str} {p2 : Pos} (hT : ["NoneType", "bool", "int", "str", "list", "tuple", "dict"].all (fun z => (kitB z T).isSome) = true) (hg : Gl X "isinstance") (hm : X.mg "isinstance" = none) (he : PE X e (LE X W te))
    (hgT : Gl X y) (hmT : X.mg y = none) (hvT : bootBuiltins y = some (.type T)) (hn : y ≠ "__name__" := by decide) (hdb : (y == ("__debug__" : Str)) = false := by decide)
    (hs : starEach [e, .Name y p2] X.env = (false, eval e X.env) :: starEach [.Name y p2] X.env := by rfl) (hs2 : starEach [.Name y p2] X.env = (false, eval (.Name y p2) X.env) :: starEach [] X.env := by rfl) (hpl : (backTo pos (starEach [.Name y p2] X.env)).any (·.1) = false := by rfl) :
    PE X (.Call (.Name "isinstance" p) [e, .Name y p2] [] pos) (LE X W (mIsi T te)) := by
  refine PEw (pe_callB call_isi hg hm (by decide +kernel) (pa_cons he (pa_cons (pe_bltn (v := .ty T) hgT hmT hvT rfl hn hdb) pa_nil hs2) hs) (by decide) (by decide) hs hpl) ?_
  rintro σ H Q ⟨Z, F, ρ, R, S, w, t, q⟩
  refine ⟨Z, F, ρ, _, S, w, t, fun d ρ1 v F1 H1 t1 sf1 S1 r1 => ?_⟩
  exact ⟨v, .ty T, _, _, isiD T d, rfl, .ty T, (r1.monoW S1.fh).tyx, kit_ty (isi_ok hT d), q _ ρ1 _ F1 H1 t1 sf1 S1 (.bl _)⟩
end
end G


set_option Elab.async false
set_option maxRecDepth 100000
set_option maxHeartbeats 1000000
/-! GV6: sorted, dict. -/
namespace G
open PySem PySem.Spec PyProof.Rows L2 PySem.W

/-! ### a dict's pairs -/
def isK (d : PyData) (k : Str) : Bool := match d with
  | .str x => decide (x = k)
  | _ => false
def dput (es : List (PyData × PyData)) (k : Str) (d : PyData) : List (PyData × PyData) :=
  if (es.any fun p => isK p.1 k) = true then es.map (fun p => if isK p.1 k = true then (p.1, d) else p) else es ++ [(.str k, d)]
def ddrop (es : List (PyData × PyData)) (k : Str) : List (PyData × PyData) := es.filter fun p => !isK p.1 k
theorem kd_isK {j : Key} {k : Str} : isK (kD j) k = decide (j = (Sum.inr k : Key)) := by
  cases j with
  | inl i => simp [kD, isK]
  | inr x => simp [kD, isK]
section
variable {K : PySem.W.Frag} {H : Hp}
theorem RepKV.any {k : Str} : ∀ {kvs : List (Key × V)} {es : List (PyData × PyData)}, RepKV K H kvs es → (es.any fun p => isK p.1 k) = (kvs.any fun p => decide (p.1 = (Sum.inr k : Key)))
  | _, _, .nil => rfl
  | _, _, .cons h r => by rw [List.any_cons, List.any_cons, RepKV.any r, kd_isK]
theorem RepKV.append : ∀ {kvs ls : List (Key × V)} {es fs : List (PyData × PyData)}, RepKV K H kvs es → RepKV K H ls fs → RepKV K H (kvs ++ ls) (es ++ fs)
  | _, _, _, _, .nil, s => s
  | _, _, _, _, .cons h r, s => .cons h (RepKV.append r s)
theorem RepKV.mapPut {k : Str} {v : V} {d : PyData} (hd : Rep K H v d) : ∀ {kvs : List (Key × V)} {es : List (PyData × PyData)}, RepKV K H kvs es →
    RepKV K H (kvs.map fun kv => if kv.1 = (Sum.inr k : Key) then (kv.1, v) else kv) (es.map fun p => if isK p.1 k = true then (p.1, d) else p)
  | _, _, .nil => .nil
  | _, _, @RepKV.cons _ _ j x kvs e es h r => by
    rw [List.map_cons, List.map_cons]
    have ih := RepKV.mapPut (k := k) hd r
    by_cases q : j = (Sum.inr k : Key)
    · rw [if_pos (show (j, x).1 = (Sum.inr k : Key) from q), if_pos (show isK (kD j, e).1 k = true by rw [kd_isK]; exact decide_eq_true q)]
      exact .cons hd ih
    · rw [if_neg (show ¬ (j, x).1 = (Sum.inr k : Key) from q), if_neg (show ¬ isK (kD j, e).1 k = true by rw [kd_isK, decide_eq_false q]; decide)]
      exact .cons h ih
theorem RepKV.put {k : Str} {v : V} {d : PyData} {kvs : List (Key × V)} {es : List (PyData × PyData)} (r : RepKV K H kvs es) (hd : Rep K H v d) : RepKV K H (putK kvs (Sum.inr k) v) (dput es k d) := by
  unfold putK dput
  rw [r.any]
  by_cases q : (kvs.any fun p => decide (p.1 = (Sum.inr k : Key))) = true
  · rw [if_pos q, if_pos q]; exact r.mapPut hd
  · rw [if_neg q, if_neg q]; exact r.append (.cons (k := Sum.inr k) hd .nil)
theorem RepKV.drop {k : Str} : ∀ {kvs : List (Key × V)} {es : List (PyData × PyData)}, RepKV K H kvs es → RepKV K H (dropK kvs (Sum.inr k)) (ddrop es k)
  | _, _, .nil => .nil
  | _, _, @RepKV.cons _ _ j x kvs e es h r => by
    have ih := RepKV.drop (k := k) r
    by_cases q : j = (Sum.inr k : Key)
    · have e1 : dropK ((j, x) :: kvs) (Sum.inr k) = dropK kvs (Sum.inr k) := by unfold dropK; rw [List.filter_cons, if_neg (by simp [q])]
      have e2 : ddrop ((kD j, e) :: es) k = ddrop es k := by unfold ddrop; rw [List.filter_cons, if_neg (by rw [kd_isK, decide_eq_true q]; decide)]
      rw [e1, e2]; exact ih
    · have e1 : dropK ((j, x) :: kvs) (Sum.inr k) = (j, x) :: dropK kvs (Sum.inr k) := by unfold dropK; rw [List.filter_cons, if_pos (by simp [q])]
      have e2 : ddrop ((kD j, e) :: es) k = (kD j, e) :: ddrop es k := by unfold ddrop; rw [List.filter_cons, if_pos (by rw [kd_isK, decide_eq_false q]; decide)]
      rw [e1, e2]; exact .cons h ih
theorem RepKV.keys : ∀ {kvs : List (Key × V)} {es : List (PyData × PyData)}, RepKV K H kvs es → es.map (·.1) = kvs.map (fun p => kD p.1)
  | _, _, .nil => rfl
  | _, _, .cons h r => by rw [List.map_cons, List.map_cons, RepKV.keys r]
theorem RepAll.keys (F : Hp) : ∀ (ks : List Key), RepAll K F (ks.map kV) (ks.map kD)
  | [] => .nil
  | .inl i :: r => .cons (.int i) (RepAll.keys F r)
  | .inr x :: r => .cons (.str x) (RepAll.keys F r)
end
def mergeD (ps : List (Str × PyData)) : List (PyData × PyData) := ps.foldl (fun acc p => dput acc p.1 p.2) []

/-! ### sorted -/
structure SortOk (ds : List PyData) : Prop where
  al : AllAlike ds
  so : Sortable ds
  dp : ∀ d ∈ ds, d.depth ≤ 60
  ln : ds.length ≤ 1000
noncomputable def sortD (ds : List PyData) : List PyData := ds.mergeSort (dataLe false fun d => d)
theorem plain_alike : ∀ d : PyData, alike d d = true → d.plain = true := by
  have key : ∀ n, (∀ d : PyData, sizeOf d ≤ n → alike d d = true → d.plain = true) := by
    intro n
    induction n with
    | zero => intro d h; cases d <;> simp at h <;> omega
    | succ n ih =>
      have all : ∀ xs : List PyData, sizeOf xs ≤ n → alikeAll xs xs = true → PyData.plainAll xs = true := by
        intro xs
        induction xs with
        | nil => intro _ _; rfl
        | cons x xs ih2 =>
          intro h q
          rw [alikeAll, Bool.and_eq_true] at q
          simp only [List.cons.sizeOf_spec] at h
          rw [PyData.plainAll, ih x (by omega) q.1, ih2 (by omega) q.2]; rfl
      intro d h q
      cases d with
      | list xs => simp only [PyData.list.sizeOf_spec] at h; rw [alike] at q; rw [PyData.plain]; exact all xs (by omega) q
      | tuple xs => simp only [PyData.tuple.sizeOf_spec] at h; rw [alike] at q; rw [PyData.plain]; exact all xs (by omega) q
      | dict kvs => simp [alike] at q
      | _ => rfl
  exact fun d => key (sizeOf d) d (Nat.le_refl _)
mutual
theorem Reads.there {h : Heap} : ∀ (d : PyData) (v : Value) (as : List Addr), d.plain = true → Reads h v d as → ∀ a ∈ as, ∃ o, h.get? a = some o
  | .none, _, _, _, r, a, ha => by cases r; simp at ha
  | .bool _, _, _, _, r, a, ha => by cases r; simp at ha
  | .int _, _, _, _, r, a, ha => by cases r; simp at ha
  | .str _, _, _, _, r, a, ha => by cases r; simp at ha
  | .list xs, _, _, hp, r, a, ha => by
    cases r with
    | list h1 h2 h3 h4 =>
      rcases List.mem_cons.mp ha with e | ha
      · subst e; exact ⟨_, h1⟩
      · exact ReadsAll.there xs _ _ (by simpa [PyData.plain] using hp) h4 a ha
  | .tuple xs, _, _, hp, r, a, ha => by
    cases r with
    | tuple h1 h2 h3 h4 => exact ReadsAll.there xs _ _ (by simpa [PyData.plain] using hp) h4 a ha
  | .dict _, _, _, hp, _, _, _ => by simp [PyData.plain] at hp
theorem ReadsAll.there {h : Heap} : ∀ (ds : List PyData) (vs : List Value) (as : List Addr), PyData.plainAll ds = true → ReadsAll h vs ds as → ∀ a ∈ as, ∃ o, h.get? a = some o
  | [], _, _, _, r, a, ha => by cases r; simp at ha
  | d :: ds, _, _, hp, r, a, ha => by
    have hp' : d.plain = true ∧ PyData.plainAll ds = true := by simpa [PyData.plainAll] using hp
    cases r with
    | cons h1 h2 =>
      rcases List.mem_append.mp ha with ha | ha
      · exact Reads.there d _ _ hp'.1 h1 a ha
      · exact ReadsAll.there ds _ _ hp'.2 h2 a ha
end
section
variable {X : Cx} {pins : List (Addr × Obj)} {σ : L2.St} {H F : Hp} {s : Shared}
theorem each_of : ∀ {xs : List V} {vs : List Value} {ds : List PyData}, Vals xs vs → RepAll X.K F xs ds → EachIs (fun v d => ∃ x, RelV x v ∧ Rep X.K F x d) vs ds
  | _, _, _, .nil, .nil => .nil
  | _, _, _, .cons r t, .cons h u => .cons ⟨_, r, h⟩ (each_of t u)
theorem of_each : ∀ {vs : List Value} {ds : List PyData}, EachIs (fun v d => ∃ x, RelV x v ∧ Rep X.K F x d) vs ds → ∃ xs, Vals xs vs ∧ RepAll X.K F xs ds
  | _, _, .nil => ⟨[], .nil, .nil⟩
  | _, _, .cons ⟨x, r, h⟩ t => by
    obtain ⟨xs, a, b⟩ := of_each t
    exact ⟨x :: xs, .cons r a, .cons h b⟩
theorem each_reads (I : Inv X pins σ H s) (sf : SameW F H) : ∀ {vs : List Value} {ds : List PyData}, (∀ d ∈ ds, d.plain = true) → EachIs (fun v d => ∃ x, RelV x v ∧ Rep X.K F x d) vs ds → EachIs (fun v d => ∃ as, Reads s.heap v d as) vs ds
  | _, _, _, .nil => .nil
  | _, _, hp, .cons ⟨x, r, h⟩ t => .cons ((h.monoW sf).reads I (hp _ List.mem_cons_self) r) (each_reads I sf (fun d hd => hp d (List.mem_cons_of_mem _ hd)) t)
theorem each_mono {α β : Type} {R R' : α → β → Prop} : ∀ {xs : List α} {ys : List β}, EachIs R xs ys → (∀ x y, y ∈ ys → R x y → R' x y) → EachIs R' xs ys
  | _, _, .nil, _ => .nil
  | _, _, .cons h t, f => .cons (f _ _ List.mem_cons_self h) (each_mono t fun x y hy => f x y (List.mem_cons_of_mem _ hy))
/-- sorted(u): what u gives, gathered, sorted -/
theorem sorted_core {u : Value} {Q : VK} (hu : X.A.units + 200 < cLine)
    (hc : wpAny (model X.prog X.w) X.A.in1 (collect u) (fun vs s1 => ∃ xs H1 F1 ds, Inv X pins σ H1 s1 ∧ Vals xs vs ∧ RepAll X.K F1 xs ds ∧ SameW F1 H1 ∧ SortOk ds ∧ ∀ p ys, H1 p = none → RepAll X.K F1 ys (sortD ds) → Q (.ref p) (upd H1 p (.lst ys))) X.xe s) :
    wpAny (model X.prog X.w) X.A (call (.builtin "sorted") [u]) (EP X pins σ Q) X.xe s := by
  refine Calls.call_function_entry PyProof.Rows.kind_sorted PyProof.Rows.plain_sorted PyProof.Rows.entry_sorted (PyProof.Rows.args_sorted1 _) ?_
  unfold Builtin.«sorted»
  refine wpAny_bind (m := checkCount "sorted" 1 1 _) (wpAny_pure ?_)
  refine wpAny_bind (thn hc fun vs s1 ⟨xs, H1, F1, ds, I1, rv, ra, sf, ok, q⟩ => ?_)
  have lv : vs.length = ds.length := by rw [← rv.length, ra.length]
  have lL : vs.length ≤ sizeLine := by rw [lv]; exact line1000 ok.ln
  refine wpAny_bind (wpAny_newList ?_ lL)
  have hoL : (s1.heap.push (seqObj "list" vs.toArray 0)).get? s1.heap.objs.size = some (seqObj "list" vs.toArray 0) := Heap.get?_push_size _ rfl
  show wpAny _ _ _ _ _ { s1 with heap := s1.heap.push (seqObj "list" vs.toArray 0) }
  have hpl : ∀ d ∈ ds, d.plain = true := fun d hd => plain_alike d (ok.al d hd d hd)
  have e1 := each_of rv ra
  have er := each_reads I1 sf hpl e1
  have ids : ds.map (fun d => d) = ds := List.map_id _
  have er2 : EachIs (fun v d => ∃ as, Reads (s1.heap.push (seqObj "list" vs.toArray 0)) v d as ∧ s1.heap.objs.size ∉ as) vs ds := each_mono er fun v d hd ⟨as, r⟩ =>
    ⟨as, PyProof.Rows.Reads.keeps (fun b o e => Heap.get?_push_of_some _ e) r, fun hm => by
      obtain ⟨o, ho⟩ := Reads.there d v as (hpl d hd) r _ hm
      exact absurd (Heap.lt_size ho) (Nat.lt_irrefl _)⟩
  refine wpAny_bind (wpAny_holding (list_sort_data (s := { s1 with heap := s1.heap.push (seqObj "list" vs.toArray 0) }) (enc := fun d => d) hoL e1 er2 (by rw [ids]; exact ok.al) (by rw [ids]; exact ok.so) (line1000 ok.ln) (fun d hd => ?_) fun out ho eo => ?_))
  · have := ok.dp d hd
    show X.A.units + 1 + 1 + d.depth < cLine
    omega
  · obtain ⟨ys, rw', rb⟩ := of_each eo
    obtain ⟨e', he'⟩ := PyProof.Rows.sortedHeap_at (vs := vs) (out := out.toArray) hoL
    have hl : ys.length ≤ sizeLine := by rw [rw'.length, ho]; exact line1000 ok.ln
    refine wpAny_pure ⟨_, rfl, .ref s1.heap.objs.size, upd H1 s1.heap.objs.size (.lst ys), I1.laid (t' := s1.toks) (fun b u e => ?_) (Nat.le_refl _)
      (show ObjOk X.prog X.w _ _ _ (.lst ys) from ⟨hl, out, e', rw', he'⟩), rfl, q _ ys (I1.hok.fresh (Nat.le_refl _)) rb⟩
    have hb : b < s1.heap.objs.size := Heap.lt_size e
    rw [PyProof.Rows.sortedHeap_old (Nat.ne_of_lt hb) (by rw [size_push']; exact Nat.lt_succ_of_lt hb)]
    exact Heap.get?_push_of_some _ e

end
section
variable {X : Cx}
def sortedD : PyData → (PyData → Prop) → Prop
  | .list ds, R => SortOk ds ∧ R (.list (sortD ds))
  | .tuple ds, R => SortOk ds ∧ R (.list (sortD ds))
  | .dict es, R => SortOk (es.map (·.1)) ∧ R (.list (sortD (es.map (·.1))))
  | _, _ => False
theorem ofDict {K : PySem.W.Frag} {H : Hp} {kvs : List (Key × V)} {vs : List (Key × Value)} (rel : KV kvs vs) {acc : List Value} (hl : acc.length = vs.length) (hk : ∀ (j : Nat) v, acc[j]? = some v → ∃ k x, vs[j]? = some (k, x) ∧ keyIs k v = true) :
    Vals (kvs.map fun p => kV p.1) acc := by
  induction rel generalizing acc with
  | nil =>
    cases acc with
    | nil => exact .nil
    | cons => simp at hl
  | @cons p q ps qs h t ih =>
    cases acc with
    | nil => simp at hl
    | cons a acc =>
      refine .cons ?_ (ih (by simpa using hl) fun j v e => ?_)
      · obtain ⟨k, x, e1, e2⟩ := hk 0 a rfl
        simp at e1
        show L2.RelV (kV p.1) a
        rw [h.1, e1]
        exact relV_key e2
      · obtain ⟨k, x, e1, e2⟩ := hk (j + 1) v (by simpa using e)
        exact ⟨k, x, by simpa using e1, e2⟩
theorem cn_sorted (hu : X.A.units + 200 < cLine) (hcalm : X.calm = true) : CallN X (.builtin "sorted") sortedD := by
  intro pins s σ Z F H ρ x u d R Q I S rx rv hg q
  have fin : ∀ {H1 F1 : Hp} {ds : List PyData}, Same F F1 → F1 = F → H1 = H → SortOk ds → R (.list (sortD ds)) → ∀ p ys, H1 p = none → RepAll X.K F1 ys (sortD ds) → Q (.ref p) (upd H1 p (.lst ys)) := fun _ e1 e2 hk hr p ys hp ra => by
    subst e1
    subst e2
    exact q _ p _ _ hr (Same.refl _) (S.lay _ hp) (S.fh.free hp) (S.zh.free hp) ⟨ys, upd_same, ra, by unfold sortD; rw [List.length_mergeSort]; exact line1000 hk.ln⟩ (S.newAway hp)
  rcases rx.cases S.fh with ⟨a, xs, ds, rfl, rfl, h1, h2, h3⟩ | ⟨a, kvs, es, rfl, rfl, h1, h2⟩ | ⟨r, n1, n2⟩
  · obtain ⟨ok, hr⟩ := hg
    obtain rfl : u = Value.ref a := rv
    obtain ⟨hz, its, n, ri, ho⟩ := I.hok a _ h1
    refine sorted_core hu (wpAny_collect_seq a (.inl rfl) ho rfl rfl (fun h' hk => ⟨xs, H, F, ds, I.kept (t' := s.toks) hk, by simpa using ri, h2, S.fh, ok, fin (Same.refl _) rfl rfl ok hr⟩) (by rw [List.size_toArray, ← ri.length]; exact hz))
  · obtain ⟨ok, hr⟩ := hg
    obtain rfl : u = Value.ref a := rv
    obtain ⟨hz, lo, vs, rel, dd⟩ := dk_rd I.hok h1
    obtain ⟨ep, hat⟩ := dd.dictAt
    have lk : kvs.length = vs.length := Paired.length rel
    refine sorted_core hu (PySem.W.kdu_collect (A := X.A.in1) (PySem.W.kdl_dict (knd := mixKind X.prog X.w) (kvs := vs) (ep := ep) lo) (I.ok.hd hcalm) hat (by omega) fun h' tk acc hk hacc => ?_)
    refine ⟨kvs.map fun p => kV p.1, H, F, es.map (·.1), I.kept hk, ofDict (K := X.K) (H := H) rel (by rw [Array.length_toList, hacc.1]) (fun j v e => ?_), ?_, S.fh, ok, fin (Same.refl _) rfl rfl ok hr⟩
    · obtain ⟨k, x, e1, e2⟩ := hacc.2 j v (by rw [← Array.getElem?_toList]; exact e)
      exact ⟨k, x, e1, e2⟩
    · rw [h2.keys]
      have := RepAll.keys (K := X.K) F (kvs.map (·.1))
      rw [List.map_map, List.map_map] at this
      exact this
  · cases r with
    | tup h1 h2 h3 =>
      obtain ⟨ok, hr⟩ := hg
      rename_i a xs ds
      obtain rfl : u = Value.ref a := rv
      obtain ⟨its, ri, ⟨o, ho, hc, n, hd⟩, hz⟩ := I.tuple (h1.monoW S.fh).sq
      refine sorted_core hu (wpAny_collect_seq a (.inr rfl) ho hc hd (fun h' hk => ⟨xs, H, F, ds, I.kept (t' := s.toks) hk, by simpa using ri, h2, S.fh, ok, fin (Same.refl _) rfl rfl ok hr⟩) (by rw [List.size_toArray, ← ri.length]; exact hz))
    | lst h1 h2 h3 => exact (n1 _ rfl).elim
    | dct h1 h2 => exact (n2 _ rfl).elim
    | _ => exact hg.elim

/-! ### many things laid at once -/
def putH : List Addr → List HO → Hp → Hp
  | a :: as, u :: us, H => upd (putH as us H) a u
  | _, _, H => H
theorem putH_off {b : Addr} : ∀ (as : List Addr) (us : List HO) (H : Hp), b ∉ as → putH as us H b = H b
  | [], _, _, _ => rfl
  | _ :: _, [], _, _ => rfl
  | a :: as, u :: us, H, h => by
    show upd (putH as us H) a u b = H b
    rw [upd_ne (fun z => h (by rw [z]; exact List.mem_cons_self)), putH_off as us _ (fun z => h (List.mem_cons_of_mem _ z))]
theorem putH_at : ∀ (as : List Addr) (us : List HO) (H : Hp) (j : Nat) (t : Addr) (u : HO), as.Nodup → as[j]? = some t → us[j]? = some u → putH as us H t = some u
  | [], _, _, _, _, _, _, e, _ => by simp at e
  | _ :: _, [], _, _, _, _, _, _, e => by simp at e
  | a :: as, u :: us, H, 0, t, w, nd, e1, e2 => by
    simp at e1 e2
    subst e1
    subst e2
    exact upd_same
  | a :: as, u :: us, H, j + 1, t, w, nd, e1, e2 => by
    have nd' := List.nodup_cons.mp nd
    have e1' : as[j]? = some t := by simpa using e1
    have hm : t ∈ as := List.mem_of_getElem? e1'
    show upd (putH as us H) a u t = some w
    rw [upd_ne (fun z => nd'.1 (by rw [← z]; exact hm))]
    exact putH_at as us H j t w nd'.2 e1' (by simpa using e2)
theorem lay_many {pins : List (Addr × Obj)} {σ : L2.St} {H : Hp} {s : Shared} {h' : Heap} {tk : Nat} {as : List Addr} {us : List HO} (I : Inv X pins σ H s) (hk : ∀ b o, s.heap.get? b = some o → h'.get? b = some o)
    (new : ∀ t ∈ as, s.heap.objs.size ≤ t) (nd : as.Nodup) (hl : as.length = us.length) (ok : ∀ (j : Nat) t u, as[j]? = some t → us[j]? = some u → ObjOk X.prog X.w (putH as us H) h' t u) :
    Inv X pins σ (putH as us H) { s with heap := h', toks := tk } ∧ Same H (putH as us H) ∧ ∀ b, H b ≠ none → b ∉ as := by
  have fresh : ∀ t ∈ as, H t = none := fun t ht => I.hok.fresh (new t ht)
  have away : ∀ b, H b ≠ none → b ∉ as := fun b hb z => hb (fresh b z)
  have kp : Same H (putH as us H) := fun b u e => by
    rw [putH_off as us H (away b (by rw [e]; simp))]
    exact e
  have low : ∀ b o, s.heap.get? b = some o → b ∉ as := fun b o e z => absurd (Heap.lt_size e) (Nat.not_lt.mpr (new b z))
  refine ⟨I.call' (ch := []) rfl ⟨fun b o q _ _ _ => hk b o q, fun b o q _ _ _ => ⟨o.slots, hk b o q⟩, fun b o q n _ => ?_, fun b o q _ => ⟨o, hk b o q⟩, fun b xs q => kp b _ q, fun b o u q => kp b _ q, fun b ps q => ⟨#[], by rw [kp b _ q]; simp⟩⟩ (fun b u q => ?_) I.bare fun b z => by simp at z, kp, away⟩
  · rw [putH_off as us H (low b o q)]; exact n
  · by_cases hb : b ∈ as
    · obtain ⟨j, hj⟩ := List.mem_iff_getElem?.mp hb
      have hjl : j < us.length := by rw [← hl]; exact (List.getElem?_eq_some_iff.mp hj).1
      have hu : us[j]? = some us[j] := List.getElem?_eq_getElem hjl
      have e := putH_at as us H j b _ nd hj hu
      rw [e] at q
      cases q
      exact ok j b _ hj hu
    · rw [putH_off as us H hb] at q
      exact (I.hok b u q).stay (fun d v _ y => hk d v y) (fun d y => kp d _ y) fun d xs y => kp d _ y

/-! ### sorted(d.items()) -/
def itemsD (es : List (PyData × PyData)) : List PyData := es.map fun p => .tuple [p.1, p.2]
def mSortItems (te : ME) : ME := fun ρ R => te ρ fun d ρ1 => match d with
  | .dict es => SortOk (itemsD es) ∧ R (.list (sortD (itemsD es))) ρ1
  | _ => False
def itemHO (h' : Heap) (a : Addr) (p : Key × V) : HO := .frz ((h'.get? a).getD { cls := .none, data := .fields #[] }) (.tup [kV p.1, p.2])
theorem rep_items {F G : Hp} (sf : Same F G) : ∀ {kvs : List (Key × V)} {es : List (PyData × PyData)} {as : List Addr}, RepKV X.K F kvs es → as.length = kvs.length →
    (∀ (j : Nat) a p, as[j]? = some a → kvs[j]? = some p → ∃ o : Obj, G a = some (.frz o (.tup [kV p.1, p.2])) ∧ o.dict = none) → RepAll X.K G (as.map V.ref) (itemsD es)
  | _, _, [], .nil, _, _ => .nil
  | _, _, _ :: _, .nil, hl, _ => by simp at hl
  | _, _, [], .cons _ _, hl, _ => by simp at hl
  | _, _, a :: as, @RepKV.cons _ _ k v kvs d es h r, hl, hp => by
    obtain ⟨o, h1, h2⟩ := hp 0 a (k, v) rfl rfl
    refine .cons (.tup (.inl ⟨o, h1, h2⟩) (.cons ?_ (.cons (h.mono sf) .nil)) (by show 2 ≤ sizeLine; decide)) (rep_items sf r (by simpa using hl) fun j a p e1 e2 => hp (j + 1) a p (by simpa using e1) (by simpa using e2))
    cases k with
    | inl i => exact .int i
    | inr x => exact .str x
variable {W : Wish} {e : Expr} {te : ME} {p apos cpos pos : Pos}
theorem g_sortedItems (hu : X.A.units + 200 < cLine) (hc : X.calm = true) (he : PE X e (LC X W te)) (hg : Gl X "sorted") (hm : X.mg "sorted" = none) (hbase : attributeBase e "items" X.env (eval e X.env) = eval e X.env := by rfl) (hline : (apos.endLine == cpos.line) = true := by rfl)
    (hs : starEach [.Call (.Attribute e "items" apos) [] [] cpos] X.env = (false, eval (.Call (.Attribute e "items" apos) [] [] cpos) X.env) :: starEach [] X.env := by rfl) :
    PE X (.Call (.Name "sorted" p) [.Call (.Attribute e "items" apos) [] [] cpos] [] pos) (LN X W (mSortItems te)) := by
  refine ⟨fun pins s σ H Q I hq => ?_⟩
  refine wpAny_Call_Name_kw (ld_blt I hg hm (show bootBuiltins "sorted" = some (.builtin "sorted") by decide +kernel) ?_)
  refine PyProof.Rows.callWith_builtin1 ?_ hs rfl
  rw [hs]
  show wpAny _ _ (spliced ((false, eval (.Call (.Attribute e "items" apos) [] [] cpos) X.env) :: backTo pos (starEach [] X.env))) _ _ s
  refine Calls.spliced_cons ?_
  obtain ⟨Z, F, ρ, R, S, w, t, q⟩ := hq
  refine wpAny_Call_method (T := "dict") (id := "dict.items") hbase rfl hline PySem.F.plainAttrs_dict PySem.F.slot_dict_items PySem.F.type_dict_items
    (thn (he.run pins s σ H (fun x H1 => ∃ F1 ρ1 es, Same F F1 ∧ Stt X.K Z F1 H1 σ ρ1 ∧ RepC X.K F1 H1 x (.dict es) ∧ SortOk (itemsD es) ∧ R (.list (sortD (itemsD es))) ρ1) I ?_) fun u s1 ⟨x, H1, I1, rx, F1, ρ1, es, sf1, S1, rc, ok, hr⟩ => ?_)
  · refine ⟨Z, F, ρ, _, S, w, t, fun d ρ1 v F1 H1 t1 sf1 S1 r1 => ?_⟩
    split at t1
    · exact ⟨F1, ρ1, _, sf1, S1, r1, t1.1, t1.2⟩
    · exact t1.elim
  rcases rc.cases S1.fh with ⟨a, xs, ds, rfl, e', h1, h2, h3⟩ | ⟨d, kvs, es', rfl, e', hd, h2⟩ | ⟨r, n1, n2⟩
  · cases e'
  · cases e'
    obtain rfl : u = Value.ref d := rx
    obtain ⟨hz, hs0, vs, kv, hdo⟩ := dk_rd I1.hok hd
    obtain ⟨ep, hat⟩ := hdo.dictAt
    have lk : kvs.length = vs.length := Paired.length kv
    have I2 : Inv X pins σ H1 { s1 with heap := s1.heap.push { cls := .type "dict_items", data := .fields #[.ref d] } } := I1.kept (t' := s1.toks) fun b ob q => Heap.get?_push_of_some _ q
    refine ⟨hdo.typeIs, hdo.mapOf.noDict, ?_⟩
    show wpAny _ _ (callWith cpos (.builtin "dict.items") [.ref d] [] []) _ X.xe s1
    refine method_meetsIn PySem.F.slot_dict_items PySem.F.entry_dict_items rfl (PySem.evalArgs_none ⟨rfl, hdo.typeIs, PySem.F.args_dict_items_1 _, _, meets_dict_items (mixKind X.prog X.w) d hs0, ⟨vs, hdo⟩, ?_⟩)
    refine Calls.spliced_nil ?_
    refine sorted_core hu (PySem.W.kdx_collect (A := X.A.in1) (knd := mixKind X.prog X.w) (kvs := vs) (ep := ep) (I1.ok.hd hc) ⟨_, Heap.get?_push_size _ rfl, rfl, rfl⟩ (hat.push _) (by omega) fun h' tk as hk hl hG => ?_)
    have nd : as.Nodup := List.Pairwise.imp (fun {a b} (h : a < b) => Nat.ne_of_lt h) hG.rise
    -- what stands at each
    have at' : ∀ (j : Nat) a p, as[j]? = some a → kvs[j]? = some p → ∃ (o : Obj) (key x : Value), h'.get? a = some o ∧ o = { cls := .type "tuple", data := .seq #[key, x] } ∧ RelV (kV p.1) key ∧ RelV p.2 x := fun j a p e1 e2 => by
      obtain ⟨key, k, x, f1, f2, f3⟩ := hG.pairs j a e1
      obtain ⟨qv, g1, g2, g3⟩ := LiI.paired_get kv e2
      rw [f1] at g1
      cases g1
      refine ⟨_, key, x, f3, rfl, ?_, g3⟩
      rw [g2]
      exact relV_key (show keyIs k key = true from f2)
    have hlen : as.length = (List.zipWith (itemHO h') as kvs).length := by rw [List.length_zipWith]; omega
    have zat : ∀ (j : Nat) a u, as[j]? = some a → (List.zipWith (itemHO h') as kvs)[j]? = some u → ∃ p, kvs[j]? = some p ∧ u = itemHO h' a p := fun j a u e1 e2 => by
      rw [List.getElem?_zipWith, e1] at e2
      cases e3 : kvs[j]? with
      | none => rw [e3] at e2; simp at e2
      | some p => rw [e3] at e2; simp at e2; exact ⟨p, rfl, e2.symm⟩
    obtain ⟨I3, sm, aw⟩ := lay_many (tk := tk) (us := List.zipWith (itemHO h') as kvs) I2 hk (fun t ht => Nat.le_of_lt (hG.above t ht)) nd hlen (fun j t u e1 e2 => by
      obtain ⟨p, ep, eu⟩ := zat j t u e1 e2
      subst eu
      obtain ⟨o, key, x, f1, f2, f3, f4⟩ := at' j t p e1 ep
      have eo : (h'.get? t).getD { cls := .none, data := .fields #[] } = o := by rw [f1]; rfl
      show ObjOk X.prog X.w _ h' t (.frz ((h'.get? t).getD { cls := .none, data := .fields #[] }) (.tup [kV p.1, p.2]))
      rw [eo]
      exact ⟨f1, (by show 2 ≤ sizeLine; decide), [key, x], .cons f3 (.cons f4 .nil), o, f1, (by rw [f2]), _, (by rw [f2])⟩)
    have nF : ∀ b, F1 b ≠ none → b ∉ as := fun b hb => aw b (fun z => by
      cases y : F1 b with
      | none => exact hb y
      | some o => rw [S1.fh.free z] at y; cases y)
    have smF : Same F1 (putH as (List.zipWith (itemHO h') as kvs) F1) := fun b u y => by
      rw [putH_off as _ _ (nF b (by rw [y]; simp))]; exact y
    have S3 : Stt X.K Z (putH as (List.zipWith (itemHO h') as kvs) F1) (putH as (List.zipWith (itemHO h') as kvs) H1) σ ρ1 := by
      refine ⟨fun b u y => ?_, S1.zh.trans sm, fun b hb => ?_, S1.len, fun i sl y => ?_, S1.ap⟩
      · by_cases hb : b ∈ as
        · obtain ⟨j, hj⟩ := List.mem_iff_getElem?.mp hb
          have hjl : j < (List.zipWith (itemHO h') as kvs).length := by rw [← hlen]; exact (List.getElem?_eq_some_iff.mp hj).1
          rw [putH_at as _ _ j b _ nd hj (List.getElem?_eq_getElem hjl)] at y ⊢
          exact .inl y
        · rw [putH_off as _ _ hb] at y ⊢; exact S1.fh b u y
      · have hb' : b ∉ as := aw b (fun z => hb (S1.zh.free z))
        rw [putH_off as _ _ hb']; exact S1.zf b hb
      · refine (S1.sl i sl y).move smF (fun a o m z => sm a o z) (fun a m => (S1.mut y m).1) fun a m => ?_
        obtain ⟨_, f, o, z⟩ := S1.mut y m
        rw [putH_off as _ _ (aw a (by rw [z]; simp))]; exact f
    have ra : RepAll X.K (putH as (List.zipWith (itemHO h') as kvs) F1) (as.map V.ref) (itemsD es) := rep_items smF h2 (by omega) fun j a p e1 e2 => by
      obtain ⟨o, key, x, f1, f2, _⟩ := at' j a p e1 e2
      have e3 : (List.zipWith (itemHO h') as kvs)[j]? = some (itemHO h' a p) := by rw [List.getElem?_zipWith, e1, e2]
      refine ⟨(h'.get? a).getD { cls := .none, data := .fields #[] }, putH_at as _ _ j a _ nd e1 e3, ?_⟩
      rw [f1, f2]
      rfl
    exact ⟨as.map V.ref, _, _, itemsD es, I3, LiI.vals_refs as, ra, S3.fh, ok, fun l ys hl ry => q _ ρ1 l _ _ hr (sf1.trans smF) (S3.lay _ hl) (S3.fh.free hl) (S3.zh.free hl) ⟨ys, upd_same, ry, by unfold sortD; rw [List.length_mergeSort]; exact line1000 ok.ln⟩ (S3.newAway hl)⟩
  · exact (n2 _ rfl).elim
end
end G


set_option Elab.async false
set_option maxRecDepth 100000
set_option maxHeartbeats 1000000
/-! GV7: dict(..); calls of defs; statements. -/
namespace G
open PySem PySem.Spec PyProof.Rows L2
def pairD (p : Str × PyData) : PyData := .tuple [.str p.1, p.2]
def dictD (d : PyData) (R : PyData → Prop) : Prop := ∃ ps : List (Str × PyData), (d = .list (ps.map pairD) ∨ d = .tuple (ps.map pairD)) ∧ ps.length ≤ 1000 ∧ R (.dict (mergeD ps))
section
variable {X : Cx} {pins : List (Addr × Obj)} {σ : L2.St} {F H : Hp} {s : Shared}
structure POut (X : Cx) (F : Hp) (h : Heap) (ps : List (Str × PyData)) (xs : List V) (ts : List Addr) (prs : List (Value × Value)) (kvs : List (Key × V)) (rs : List (Key × Value)) : Prop where
  xe : xs = ts.map V.ref
  tl : ts.length = ps.length
  pl : prs.length = ps.length
  at' : ∀ (j : Nat) t k v, ts[j]? = some t → prs[j]? = some (k, v) → PairAt h t k v
  kv : KV kvs rs
  rk : RepKV X.K F kvs (ps.map fun p => (PyData.str p.1, p.2))
  rl : rs.length = ps.length
  hv : ∀ (j : Nat) key v, prs[j]? = some (key, v) → ∃ k, rs[j]? = some (k, v) ∧ keyIs k key = true
theorem pairs_out (I : Inv X pins σ H s) (sf : SameW F H) : ∀ (ps : List (Str × PyData)) (xs : List V), RepAll X.K F xs (ps.map pairD) → ∃ ts prs kvs rs, POut X F s.heap ps xs ts prs kvs rs
  | [], _, .nil => ⟨[], [], [], [], rfl, rfl, rfl, fun j t k v e => by simp at e, .nil, .nil, rfl, fun j k v e => by simp at e⟩
  | (n, d) :: ps, _, .cons h r => by
    obtain ⟨ts, prs, kvs, rs, O⟩ := pairs_out I sf ps _ r
    cases h with
    | @tup a ys ds h1 h2 h3 =>
      cases h2 with
      | @cons v1 _ _ _ q1 h2 =>
        cases q1
        cases h2 with
        | @cons v2 _ _ _ q2 h2 =>
          cases h2
          obtain ⟨its, rv, ht, _⟩ := I.tuple (h1.monoW sf).sq
          cases rv with
          | @cons _ u1 _ _ r1 rv =>
            cases rv with
            | @cons _ u2 _ _ r2 rv =>
              cases rv
              obtain ⟨t1, rfl⟩ := r1
              refine ⟨a :: ts, (.str n t1, u2) :: prs, (Sum.inr n, v2) :: kvs, (Sum.inr n, u2) :: rs, by rw [O.xe]; rfl, by simp [O.tl], by simp [O.pl], ?_, .cons ⟨rfl, r2⟩ O.kv, .cons (k := Sum.inr n) q2 O.rk, by simp [O.rl], ?_⟩
              · intro j t k v e1 e2
                cases j with
                | zero =>
                  simp at e1 e2
                  obtain ⟨rfl, rfl⟩ := e2
                  subst e1
                  exact .inl ht
                | succ j => exact O.at' j t k v (by simpa using e1) (by simpa using e2)
              · intro j key v e
                cases j with
                | zero =>
                  simp at e
                  obtain ⟨rfl, rfl⟩ := e
                  exact ⟨_, rfl, keyIs_str n t1⟩
                | succ j =>
                  obtain ⟨k, e1, e2⟩ := O.hv j key v (by simpa using e)
                  exact ⟨k, by simpa using e1, e2⟩
theorem mergeK_fold (kvs more : List (Key × V)) : mergeK kvs more = more.foldl (fun acc kv => putK acc kv.1 kv.2) kvs := rfl
theorem rep_merge {K : PySem.W.Frag} : ∀ {ps : List (Str × PyData)} {more kvs : List (Key × V)} {es : List (PyData × PyData)}, RepKV K F kvs es → RepKV K F more (ps.map fun p => (PyData.str p.1, p.2)) →
    RepKV K F (mergeK kvs more) (ps.foldl (fun acc p => dput acc p.1 p.2) es)
  | [], _, _, _, r, .nil => r
  | (n, d) :: ps, _, kvs, es, r, q => by
    have q' : RepKV K F _ ((PyData.str n, d) :: ps.map fun p => (PyData.str p.1, p.2)) := q
    generalize hk : (PyData.str n) = kk at q'
    cases q' with
    | @cons k v more _ _ h q' =>
      cases k with
      | inl i => cases hk
      | inr x =>
        cases hk
        exact rep_merge (kvs := putK kvs (Sum.inr n) v) (es := dput es n d) (r.put h) q'
theorem dput_len (es : List (PyData × PyData)) (k : Str) (d : PyData) : (dput es k d).length ≤ es.length + 1 := by
  unfold dput
  split
  · rw [List.length_map]; omega
  · rw [List.length_append]; simp
theorem mergeD_len (ps : List (Str × PyData)) : (mergeD ps).length ≤ ps.length := by
  have : ∀ (ps : List (Str × PyData)) (es : List (PyData × PyData)), (ps.foldl (fun acc p => dput acc p.1 p.2) es).length ≤ es.length + ps.length := by
    intro ps
    induction ps with
    | nil => intro es; simp
    | cons p ps ih =>
      intro es
      have h1 := ih (dput es p.1 p.2)
      have h2 := dput_len es p.1 p.2
      rw [List.foldl_cons, List.length_cons]
      omega
  have := this ps []
  rw [List.length_nil, Nat.zero_add] at this
  exact this
theorem cn_dict (hcalm : X.calm = true) : CallN X (.type "dict") dictD := by
  intro pins s σ Z F H ρ x u d R Q I S rx rv ⟨ps, hd, hl, hr⟩ q
  -- the source, whichever it is
  obtain ⟨a, xs, ex, ra, T, hT⟩ : ∃ a xs, x = V.ref a ∧ RepAll X.K F xs (ps.map pairD) ∧ ∃ T, ∃ its : List Value, Vals xs its ∧ ((T = "list" ∧ PlainSeq "list" s.heap a its.toArray) ∨ (T = "tuple" ∧ PlainSeq "tuple" s.heap a its.toArray)) := by
    rcases rx.cases S.fh with ⟨a, xs, ds, rfl, e, h1, h2, h3⟩ | ⟨a, kvs, es, rfl, e, h1, h2⟩ | ⟨r, n1, n2⟩
    · rcases hd with hd | hd
      · rw [hd] at e
        cases e
        obtain ⟨hz, its, n, ri, ho⟩ := I.hok a _ h1
        exact ⟨a, xs, rfl, h2, "list", its, ri, .inl ⟨rfl, _, n, ho, rfl, rfl, rfl⟩⟩
      · rw [hd] at e; cases e
    · rcases hd with hd | hd <;> (rw [hd] at e; cases e)
    · rcases hd with hd | hd
      · exact (n1 _ hd).elim
      · subst hd
        cases r with
        | @tup a xs _ h1 h2 h3 =>
          refine ⟨a, xs, rfl, h2, "tuple", ?_⟩
          rcases h1 with ⟨o, h1, hn⟩ | ⟨o, its, n, h1, hc, hn, hdt, hsz, ri⟩
          · obtain ⟨e0, hz, its, ri, o', e1, e2, n, e3⟩ := I.hok a _ (S.fh.frz h1)
            rw [e0] at e1; cases e1
            exact ⟨its, ri, .inr ⟨rfl, o, n, e0, e2, hn, e3⟩⟩
          · exact ⟨its.toList, ri, .inr ⟨rfl, o, n, I.kIn a o h1, hc, hn, by rw [Array.toArray_toList]; exact hdt⟩⟩
  subst ex
  obtain rfl : u = Value.ref a := rv
  obtain ⟨its, ri, hT⟩ := hT
  obtain ⟨ts, prs, kvs, rs, O⟩ := pairs_out I S.fh ps xs ra
  have lits : its.length = ps.length := by rw [← ri.length, O.xe, List.length_map, O.tl]
  have hits : PairItems s.heap its.toArray (fun j => (ts[j]?).getD 0) prs := by
    refine ⟨by rw [List.size_toArray, lits, O.pl], fun j k v e => ?_⟩
    have hj : j < ts.length := by rw [O.tl, ← O.pl]; exact (List.getElem?_eq_some_iff.mp e).1
    have et : ts[j]? = some ts[j] := List.getElem?_eq_getElem hj
    have ex : xs[j]? = some (V.ref ts[j]) := by rw [O.xe, List.getElem?_map, et]; rfl
    obtain ⟨u, hu, ru⟩ := ri.get ex
    obtain rfl : u = Value.ref ts[j] := ru
    refine ⟨?_, ?_⟩
    · show its.toArray[j]? = some (Value.ref ((ts[j]?).getD 0))
      rw [et]; simpa using hu
    · show PairAt s.heap ((ts[j]?).getD 0) k v
      rw [et]; exact O.at' j _ k v et e
  have hm : (s.heap.objs.size == sysModules) = false := beq_eq_false_iff_ne.mpr (Nat.ne_of_gt I.big)
  have lkv : (mergeK [] kvs).length ≤ sizeLine := by
    have r := rep_merge (K := X.K) (F := F) (ps := ps) (more := kvs) (kvs := []) (es := []) .nil O.rk
    rw [r.length]
    exact line1000 (Nat.le_trans (mergeD_len ps) hl)
  have fin : ∀ (h' : Heap) (tk : Nat), h'.DictOf (mixKind X.prog X.w) s.heap.objs.size (merged [] rs) → (∀ b o, b ∉ ([] : List Addr) → s.heap.get? b = some o → h'.get? b = some o) → EP X pins σ Q (.ref s.heap.objs.size) { s with heap := h', toks := tk } := fun h' tk hd' hk => by
    have hp := I.hok.fresh (a := s.heap.objs.size) (Nat.le_refl _)
    refine ⟨.ref s.heap.objs.size, upd H s.heap.objs.size (.dK (mergeK [] kvs)), I.laid (t' := tk) (fun b o e => hk b o (by simp) e) (Nat.le_refl _) (show ObjOk X.prog X.w _ _ _ (.dK (mergeK [] kvs)) from ⟨lkv, hm, merged [] rs, KV.merge O.kv .nil, hd'⟩), rfl, ?_⟩
    exact q _ _ F _ hr (Same.refl _) (S.lay _ hp) (S.fh.free hp) (S.zh.free hp) ⟨_, upd_same, rep_merge (K := X.K) (F := F) (es := []) .nil O.rk⟩ (S.newAway hp)
  have ln : prs.length ≤ sizeLine := by rw [O.pl]; exact line1000 hl
  have hc : PairsHave (mixKind X.prog X.w) prs.length (PairRel prs) rs := ⟨by rw [O.rl, O.pl], fun i key v e => O.hv i key v e⟩
  rcases hT with ⟨rfl, hs⟩ | ⟨rfl, hs⟩
  · exact PySem.call_dict_pairs (PairArg.list a its.toArray _ prs) (I.ok.hd hcalm) ⟨hs, hits⟩ hc ln fin
  · exact PySem.call_dict_pairs (PairArg.tuple a its.toArray _ prs) (I.ok.hd hcalm) ⟨hs, hits⟩ hc ln fin
end
end G


set_option Elab.async false
set_option maxRecDepth 100000
set_option maxHeartbeats 1000000
/-! GV8: statements, targets, loops, comprehensions. -/
namespace G
open PySem PySem.Spec PyProof.Rows L2
def mNx : MS := fun D ρ => D.nx ρ
def mSeq (t u : MS) : MS := fun D ρ => t { D with nx := fun ρ' => u D ρ' } ρ
def mDrop (te : ME) : MS := fun D ρ => te ρ fun _ ρ1 => D.nx ρ1
def mRet (te : ME) : MS := fun D ρ => te ρ D.rt
def mRetN (te : ME) : MS := fun D ρ => te ρ D.ro
def mRetO (i : Nat) : MS := fun D ρ => match slot ρ i with
  | .own d => D.ro d (ρ.set i .un)
  | _ => False
def mIfS (c : MB) (t u : MS) : MS := fun D ρ => c ρ fun b ρ1 => if b = true then t D ρ1 else u D ρ1
def mBk : MS := fun D ρ => D.bk ρ
def mCt : MS := fun D ρ => D.ct ρ
def mNever : MS := fun _ _ => False
/-- what may be stored over -/
def Free : Sl → Prop
  | .inn _ _ => False
  | _ => True
abbrev MG := PyData → Ms → (Ms → Prop) → Prop
def mGN (i : Nat) : MG := fun d ρ R => match slot ρ i with
  | .inn _ _ => False
  | _ => R (ρ.set i (.dat d))
def mGs : List MG → List PyData → Ms → (Ms → Prop) → Prop
  | [], [], ρ, R => R ρ
  | g :: gs, d :: ds, ρ, R => g d ρ fun ρ1 => mGs gs ds ρ1 R
  | _, _, _, _ => False
def lenEq {α β : Type} : List α → List β → Bool
  | [], [] => true
  | _ :: a, _ :: b => lenEq a b
  | _, _ => false
theorem lenEq_len {α β : Type} : ∀ {a : List α} {b : List β}, lenEq a b = true → b.length = a.length
  | [], [], _ => rfl
  | _ :: a, _ :: b, h => by rw [List.length_cons, List.length_cons, lenEq_len (a := a) (b := b) h]
def mGT (gs : List MG) : MG := fun d ρ R => match d with
  | .tuple ds => match lenEq gs ds with
    | true => mGs gs ds ρ R
    | false => False
  | _ => False
def mAsg (te : ME) (g : MG) : MS := fun D ρ => te ρ fun d ρ1 => g d ρ1 D.nx
def mSet (i : Nat) (te : ME) : MS := mAsg te (mGN i)
def mSetN (i : Nat) (te : ME) : MS := fun D ρ => te ρ fun d ρ1 => match slot ρ1 i with
  | .inn _ _ => False
  | _ => D.nx (ρ1.set i (.own d))
section
variable {X : Cx} {W : Wish} {pos : Pos} {st : Stmt} {rest : List Stmt} {t u : MS} {e : Expr} {te : ME}
theorem gss_nil : PSs X [] (LS X W mNx) := PSsw pss_nil fun D σ H ⟨Z, F, ρ, DR, S, w, t, k⟩ => k.nx ρ σ F H t (Same.refl _) S
theorem gss_cons (h1 : PS X st (LS X W t)) (h2 : PSs X rest (LS X W u)) : PSs X (st :: rest) (LS X W (mSeq t u)) := by
  refine PSsw (pss_cons h1 h2) ?_
  rintro D σ H ⟨Z, F, ρ, DR, S, w, t, k⟩
  exact ⟨Z, F, ρ, _, S, w, t, fun ρ' σ' F' H' a sf S' => ⟨Z, F', ρ', DR, S', w.mono sf, a, k.mono sf⟩, k.rt, k.ro, k.bk, k.ct⟩
theorem gss_one (h1 : PS X st (LS X W t)) : PSs X [st] (LS X W t) := pss_one h1
theorem gs_pass : PS X (.Pass pos) (LS X W mNx) := PSw ps_pass fun D σ H ⟨Z, F, ρ, DR, S, w, t, k⟩ => k.nx ρ σ F H t (Same.refl _) S
theorem gs_break : PS X (.Break pos) (LS X W mBk) := PSw ps_break fun D σ H ⟨Z, F, ρ, DR, S, w, t, k⟩ => k.bk ρ σ F H t (Same.refl _) S
theorem gs_continue : PS X (.Continue pos) (LS X W mCt) := PSw ps_continue fun D σ H ⟨Z, F, ρ, DR, S, w, t, k⟩ => k.ct ρ σ F H t (Same.refl _) S
theorem gs_never : PS X st (LS X W mNever) := PSw ps_never fun D σ H ⟨Z, F, ρ, DR, S, w, t, k⟩ => t.elim
theorem gs_expr (he : PE X e (LE X W te)) (hs : swapsWith e none pos.line X.env = pure false := by rfl) : PS X (.Expr e pos) (LS X W (mDrop te)) := by
  refine PSw (ps_expr he hs) ?_
  rintro D σ H ⟨Z, F, ρ, DR, S, w, t, k⟩
  exact ⟨Z, F, ρ, _, S, w, t, fun d ρ1 v F1 H1 t1 sf1 S1 r1 => k.nx ρ1 σ F1 H1 t1 sf1 S1⟩
theorem gs_ret (he : PE X e (LE X W te)) : PS X (.Return (some e) pos) (LS X W (mRet te)) := by
  refine PSw (ps_ret he) ?_
  rintro D σ H ⟨Z, F, ρ, DR, S, w, t, k⟩
  exact ⟨Z, F, ρ, _, S, w, t, fun d ρ1 v F1 H1 t1 sf1 S1 r1 => k.rt d ρ1 v σ F1 H1 t1 sf1 S1 r1⟩
theorem gs_retN (he : PE X e (LN X W te)) : PS X (.Return (some e) pos) (LS X W (mRetN te)) := by
  refine PSw (ps_ret he) ?_
  rintro D σ H ⟨Z, F, ρ, DR, S, w, t, k⟩
  exact ⟨Z, F, ρ, _, S, w, t, fun d ρ1 a F1 H1 t1 sf1 S1 fa za c aw => k.ro d ρ1 a σ F1 H1 t1 sf1 S1 fa za c aw⟩
theorem gs_retO {i : Nat} {x : Str} {p : Pos} (h : PE X (.Name x p) (tVar i)) : PS X (.Return (some (.Name x p)) pos) (LS X W (mRetO i)) := by
  refine PSw (ps_ret h) ?_
  rintro D σ H ⟨Z, F, ρ, DR, S, w, t, k⟩
  unfold mRetO at t
  split at t
  · rename_i d e
    have hi := slot_some e (fun q => nomatch q)
    obtain ⟨a, e1, z, f, c⟩ := S.sl i _ hi
    have ma : mutA (at_ σ i) (.own d) a := .inl ⟨e1, .inl ⟨d, rfl⟩⟩
    have key : ∀ j s, (ρ.set i .un)[j]? = some s → s = .un ∨ (j ≠ i ∧ ρ[j]? = some s) := fun j s q => by
      by_cases hj : i = j
      · subst hj
        rw [List.getElem?_set_self (List.getElem?_eq_some_iff.mp hi).1] at q
        exact .inl (Option.some.inj q).symm
      · rw [List.getElem?_set_ne hj] at q
        exact .inr ⟨fun z => hj z.symm, q⟩
    have S' : Stt X.K Z F H σ (ρ.set i .un) := S.weak (by rw [List.length_set]; exact S.len) fun j s q => (key j s q).imp id fun h => ⟨h.2, rfl⟩
    refine ⟨.ref a, at_some e1, k.ro d _ a σ F H t (Same.refl _) S' f z c fun j s q m => ?_⟩
    rcases key j s q with rfl | ⟨hj, q⟩
    · exact noMut_un m
    · exact hj (S.ap j i s _ a q hi m ma)
  · exact t.elim
theorem gs_if {c : Expr} {a b : List Stmt} {tc : MB} (hc : PT X c (LB X W tc)) (ha : PSs X a (LS X W t)) (hb : PSs X b (LS X W u)) : PS X (.If c a b pos) (LS X W (mIfS tc t u)) := by
  refine PSw (ps_if hc ha hb) ?_
  rintro D σ H ⟨Z, F, ρ, DR, S, w, t, k⟩
  refine ⟨Z, F, ρ, _, S, w, t, fun b ρ1 F1 H1 t1 sf1 S1 => ?_⟩
  cases b with
  | true =>
    rw [if_pos rfl] at t1 ⊢
    exact ⟨Z, F1, ρ1, DR, S1, w.mono sf1, t1, k.mono sf1⟩
  | false =>
    rw [if_neg Bool.false_ne_true] at t1 ⊢
    exact ⟨Z, F1, ρ1, DR, S1, w.mono sf1, t1, k.mono sf1⟩

/-! ### targets -/
theorem wipe_get (σ : L2.St) (j : Nat) : ∀ vs : List Nat, (wipe σ vs)[j]? = if j ∈ vs ∧ j < σ.length then some none else σ[j]?
  | [] => by simp [wipe]
  | v :: vs => by
    unfold wipe
    have ih := wipe_get σ j vs
    by_cases hv : v = j
    · subst hv
      by_cases hl : v < σ.length
      · rw [List.getElem?_set_self (by rw [wipe_length]; exact hl), if_pos ⟨List.mem_cons_self, hl⟩]
      · rw [List.getElem?_eq_none (by rw [List.length_set, wipe_length]; omega), if_neg (fun h => hl h.2), List.getElem?_eq_none (by omega)]
    · rw [List.getElem?_set_ne hv, ih]
      by_cases hj : j ∈ vs
      · simp [hj]
      · have hv' : ¬ j = v := fun e => hv e.symm
        simp [hj, hv']
theorem wipe_set {σ : L2.St} {i : Nat} {v : Option V} {vs : List Nat} (h : i ∈ vs) : wipe (σ.set i v) vs = wipe σ vs := by
  apply List.ext_getElem?
  intro j
  rw [wipe_get, wipe_get, List.length_set]
  by_cases hj : i = j
  · subst hj
    by_cases hl : i < σ.length
    · rw [if_pos ⟨h, hl⟩, if_pos ⟨h, hl⟩]
    · rw [if_neg (fun q => hl q.2), if_neg (fun q => hl q.2), List.set_eq_of_length_le (by omega)]
  · rw [List.getElem?_set_ne hj]
/-- where a target may store: anywhere, or at a comprehension's own names -/
def Pv : Option (List Nat) → L2.St → L2.St → Prop
  | none, _, _ => True
  | some vs, σ, σ' => wipe σ' vs = wipe σ vs
def inVs : Option (List Nat) → Nat → Bool
  | none, _ => true
  | some vs, i => decide (i ∈ vs)
theorem Pv.refl {o : Option (List Nat)} {σ : L2.St} : Pv o σ σ := by cases o <;> first | trivial | rfl
theorem Pv.trans {o : Option (List Nat)} {σ τ υ : L2.St} (a : Pv o σ τ) (b : Pv o τ υ) : Pv o σ υ := by
  cases o with
  | none => trivial
  | some vs => exact Eq.trans b a
theorem Pv.put {o : Option (List Nat)} {σ : L2.St} {i : Nat} {v : Option V} (h : inVs o i = true) : Pv o σ (σ.set i v) := by
  cases o with
  | none => trivial
  | some vs => exact wipe_set (of_decide_eq_true h)
def lG (K : PySem.W.Frag) (o : Option (List Nat)) (g : MG) : TG := fun v σ H Q => ∃ Z F ρ d R, Stt K Z F H σ ρ ∧ Rep K F v d ∧ g d ρ R ∧ ∀ ρ' σ', R ρ' → Stt K Z F H σ' ρ' → Pv o σ σ' → Q σ' H
def lGs (K : PySem.W.Frag) (o : Option (List Nat)) (gs : List MG) : TGs := fun vs σ H Q => ∃ Z F ρ ds R, Stt K Z F H σ ρ ∧ RepAll K F vs ds ∧ mGs gs ds ρ R ∧ ∀ ρ' σ', R ρ' → Stt K Z F H σ' ρ' → Pv o σ σ' → Q σ' H
abbrev LG (X : Cx) (g : MG) : TG := lG X.K none g
theorem PGw {X : Cx} {e : Expr} {t t' : TG} (h : PG X e t) (w : ∀ v σ H Q, t' v σ H Q → t v σ H Q) : PG X e t' := ⟨fun pins s σ H v u Q I r q => h.run pins s σ H v u Q I r (w v σ H Q q)⟩
theorem PGsw {X : Cx} {e : List Expr} {t t' : TGs} (h : PGs X e t) (w : ∀ v σ H Q, t' v σ H Q → t v σ H Q) : PGs X e t' := ⟨fun pins s σ H v u Q I r q => h.run pins s σ H v u Q I r (w v σ H Q q)⟩
theorem gg_name {o : Option (List Nat)} {i : Nat} (h : PG X e (gName i)) (hi : inVs o i = true := by decide) : PG X e (lG X.K o (mGN i)) := by
  refine PGw h ?_
  rintro v σ H Q ⟨Z, F, ρ, d, R, S, r, t, q⟩
  refine q (ρ.set i (.dat d)) _ ?_ (S.putDat i r) (Pv.put hi)
  unfold mGN at t
  split at t
  · exact t.elim
  · exact t
theorem ggs_nil {o : Option (List Nat)} : PGs X [] (lGs X.K o []) := by
  refine PGsw pgs_nil ?_
  rintro v σ H Q ⟨Z, F, ρ, ds, R, S, r, t, q⟩
  cases r with
  | nil => exact ⟨rfl, q ρ σ t S .refl⟩
  | cons => exact t.elim
theorem ggs_cons {o : Option (List Nat)} {es : List Expr} {g : MG} {gs : List MG} (h1 : PG X e (lG X.K o g)) (h2 : PGs X es (lGs X.K o gs)) (hs : (assignEach (e :: es) X.env).map (·.2) = assign e X.env :: (assignEach es X.env).map (·.2) := by rfl) : PGs X (e :: es) (lGs X.K o (g :: gs)) := by
  refine PGsw (pgs_cons h1 h2 hs) ?_
  rintro v σ H Q ⟨Z, F, ρ, ds, R, S, r, t, q⟩
  cases r with
  | nil => exact t.elim
  | @cons v vs d ds h r => exact ⟨v, vs, rfl, Z, F, ρ, d, _, S, h, t, fun ρ' σ' t' S' p1 => ⟨Z, F, ρ', ds, R, S', r, t', fun ρ2 σ2 t2 S2 p2 => q ρ2 σ2 t2 S2 (p1.trans p2)⟩⟩
theorem gg_tup {o : Option (List Nat)} {es : List Expr} {k : Nat} {gs : List MG} (hc : X.calm = true) (h : PGs X es (lGs X.K o gs)) (hn : (assignEach es X.env).length = gs.length := by rfl) (hst : (assignEach es X.env).findIdx? (·.1) = none := by rfl) : PG X (.Tuple es k pos) (lG X.K o (mGT gs)) := by
  refine PGw (pg_tup hc h hn hst) ?_
  rintro v σ H Q ⟨Z, F, ρ, d, R, S, r, t, q⟩
  cases r with
  | @tup a xs ds h1 h2 h3 =>
    unfold mGT at t
    dsimp only at t
    split at t
    · rename_i hl
      exact ⟨a, xs, rfl, (h1.monoW S.fh).sq, by rw [h2.length]; exact lenEq_len hl, Z, F, ρ, ds, R, S, h2, t, q⟩
    · exact t.elim
  | _ => exact t.elim
theorem gs_asg {tg : Expr} {g : MG} (he : PE X e (LE X W te)) (hg : PG X tg (LG X g)) (hs : swapsWithSole [tg] e pos.line X.env = pure false := by rfl) (hw : swappedStores [tg] e X.env = pure none := by rfl)
    (h1 : (assignEach [tg] X.env).map (·.2) = [assign tg X.env] := by rfl) : PS X (.Assign [tg] e pos) (LS X W (mAsg te g)) := by
  refine PSw (ps_asg he hg hs hw h1) ?_
  rintro D σ H ⟨Z, F, ρ, DR, S, w, t, k⟩
  refine ⟨Z, F, ρ, _, S, w, t, fun d ρ1 v F1 H1 t1 sf1 S1 r1 => ?_⟩
  exact ⟨Z, F1, ρ1, d, _, S1, r1, t1, fun ρ2 σ2 t2 S2 _ => k.nx ρ2 σ2 F1 H1 t2 sf1 S2⟩
theorem gs_set {i : Nat} {x : Str} {p : Pos} (hN : X.N.Nodup) (hi : X.N[i]? = some x) (hx : Loc X.env.scope x) (he : PE X e (LE X W te)) (hs : swapsWith e (some (.Name x p)) pos.line X.env = pure false := by rfl) (hf : X.fn x = true ∨ X.env.scope.names.lookup x = some .local := by first | exact .inl rfl | exact .inr rfl | assumption) :
    PS X (.Assign [.Name x p] e pos) (LS X W (mSet i te)) := by
  refine PSw (ps_set hN hi hx he hs hf) ?_
  rintro D σ H ⟨Z, F, ρ, DR, S, w, t, k⟩
  refine ⟨Z, F, ρ, _, S, w, t, fun d ρ1 v F1 H1 t1 sf1 S1 r1 => ?_⟩
  refine k.nx _ _ F1 H1 ?_ sf1 (S1.putDat i r1)
  unfold mGN at t1
  split at t1
  · exact t1.elim
  · exact t1
theorem gs_setN {i : Nat} {x : Str} {p : Pos} (hN : X.N.Nodup) (hi : X.N[i]? = some x) (hx : Loc X.env.scope x) (he : PE X e (LN X W te)) (hs : swapsWith e (some (.Name x p)) pos.line X.env = pure false := by rfl) (hf : X.fn x = true ∨ X.env.scope.names.lookup x = some .local := by first | exact .inl rfl | exact .inr rfl | assumption) :
    PS X (.Assign [.Name x p] e pos) (LS X W (mSetN i te)) := by
  refine PSw (ps_set hN hi hx he hs hf) ?_
  rintro D σ H ⟨Z, F, ρ, DR, S, w, t, k⟩
  refine ⟨Z, F, ρ, _, S, w, t, fun d ρ1 a F1 H1 t1 sf1 S1 fa za c aw => ?_⟩
  split at t1
  · exact t1.elim
  · exact k.nx _ _ F1 H1 t1 sf1 (S1.putOwn i fa za c aw)

/-! ### what is walked -/
/-- the iterator J goes through ds, in every heap behind that has what is frozen and what stands outside -/
def WalkOn (K : PySem.W.Frag) (Z F : Hp) (J : It) (ds : List PyData) : Prop := ∀ F' H', Same F F' → SameW F' H' → Same Z H' →
  (∀ i, i < ds.length → J.go i H') ∧ J.stop ds.length H' ∧ ∀ i x H'', i < ds.length → J.yld i H' x H'' → H'' = H' ∧ ∃ d, ds[i]? = some d ∧ Rep K F' x d
abbrev MI := Ms → (List PyData → Ms → Prop) → Prop
def lI (K : PySem.W.Frag) (mg : Str → Option Value) (W : Wish) (t : MI) : TI := fun σ H R => ∃ Z F ρ R0, Stt K Z F H σ ρ ∧ WOk mg W Z F ∧ t ρ R0 ∧
  ∀ ds ρ1 F1 H1 J, R0 ds ρ1 → Same F F1 → Stt K Z F1 H1 σ ρ1 → WalkOn K Z F1 J ds → ds.length ≤ sizeLine → R J H1
abbrev LI (X : Cx) (W : Wish) (t : MI) : TI := lI X.K X.mg W t
theorem PIw {X : Cx} {tg e : Expr} {t t' : TI} (h : PI X tg e t) (w : ∀ σ H Q, t' σ H Q → t σ H Q) : PI X tg e t' := ⟨fun pins s σ H Q I q => h.run pins s σ H Q I (w σ H Q q)⟩
/-- a list or a tuple -/
theorem pi_seq {tg l : Expr} {tl : TE} (hl : PE X l tl) : PI X tg l (fun σ H R => tl σ H fun x H1 => ∃ a, x = .ref a ∧ (((∃ xs, SqL X.K H1 a xs) ∧ R (Itl X.K a) H1) ∨ ((∃ xs, SqT X.K H1 a xs) ∧ R (Itt X.K a) H1))) := by
  refine ⟨fun pins s σ H R I h => ?_⟩
  refine thn (hl.run pins s σ H _ I h) fun v s1 ⟨x, H1, I1, r1, q1⟩ => ?_
  obtain ⟨a, e, q⟩ := q1
  subst e
  cases r1
  have key : ∀ b ∈ [s1.heap.objs.size], FpOk X pins H1 b := fun b hb => by
    have e : b = s1.heap.objs.size := by simpa using hb
    subst e
    exact I1.fpOk (Nat.le_refl _) (I1.hok.fresh (Nat.le_refl _))
  rcases q with ⟨⟨xs, hq⟩, q⟩ | ⟨⟨xs, hq⟩, q⟩
  · obtain ⟨its, rv, p, hz⟩ := I1.list hq
    refine wpAny_pyIter_list p.isList ?_
    exact ⟨s1.heap.objs.size, [s1.heap.objs.size], _, _, H1, rfl, I1.kept (t' := s1.toks) fun b o e => Heap.get?_push_of_some _ e, turn_list a _, ⟨_, Heap.get?_push_size _ rfl, rfl, rfl⟩, key, q⟩
  · obtain ⟨its, rv, p, hz⟩ := I1.tuple hq
    refine wpAny_pyIter_tuple (show s1.heap.IsTuple a its.toArray from p) ?_
    exact ⟨s1.heap.objs.size, [s1.heap.objs.size], _, _, H1, rfl, I1.kept (t' := s1.toks) fun b o e => Heap.get?_push_of_some _ e, turn_tuple a _, ⟨_, Heap.get?_push_size _ rfl, rfl, rfl⟩, key, q⟩
def seqOf : PyData → Option (List PyData)
  | .list ds => some ds
  | .tuple ds => some ds
  | _ => none
def iSq (te : ME) : MI := fun ρ R => te ρ fun d ρ1 => match seqOf d with
  | some ds => R ds ρ1
  | none => False
theorem walk_list {K : PySem.W.Frag} {Z F : Hp} {a : Addr} {xs : List V} {ds : List PyData} (h : F a = some (.lst xs)) (r : RepAll K F xs ds) : WalkOn K Z F (Itl K a) ds := fun F' H' sf sw _ => by
  have hs : SqL K H' a xs := SqL.of (sw.lst (sf _ _ h))
  refine ⟨fun i hi => ⟨xs, _, hs, List.getElem?_eq_getElem (by rw [r.length]; exact hi)⟩, ⟨xs, hs, by rw [r.length]; exact Nat.le_refl _⟩, fun i x H'' hi y => ⟨y.1, ?_⟩⟩
  obtain ⟨d, e1, e2⟩ := r.get' (y.2 xs hs)
  exact ⟨d, e1, e2.mono sf⟩
theorem walk_tup {K : PySem.W.Frag} {Z F : Hp} {a : Addr} {xs : List V} {ds : List PyData} (h : TupP K F a xs) (r : RepAll K F xs ds) : WalkOn K Z F (Itt K a) ds := fun F' H' sf sw _ => by
  have hs : SqT K H' a xs := ((h.mono sf).monoW sw).sq
  refine ⟨fun i hi => ⟨xs, _, hs, List.getElem?_eq_getElem (by rw [r.length]; exact hi)⟩, ⟨xs, hs, by rw [r.length]; exact Nat.le_refl _⟩, fun i x H'' hi y => ⟨y.1, ?_⟩⟩
  obtain ⟨d, e1, e2⟩ := r.get' (y.2 xs hs)
  exact ⟨d, e1, e2.mono sf⟩
theorem gi_seq {tg : Expr} (he : PE X e (LE X W te)) : PI X tg e (LI X W (iSq te)) := by
  refine PIw (pi_seq he) ?_
  rintro σ H Q ⟨Z, F, ρ, R, S, w, t, q⟩
  refine ⟨Z, F, ρ, _, S, w, t, fun d ρ1 v F1 H1 t1 sf1 S1 r1 => ?_⟩
  cases r1 with
  | @lst a xs ds h1 h2 h3 => exact ⟨a, rfl, .inl ⟨⟨xs, SqL.of (S1.fh.lst h1)⟩, q ds ρ1 F1 H1 _ t1 sf1 S1 (walk_list h1 h2) h3⟩⟩
  | @tup a xs ds h1 h2 h3 => exact ⟨a, rfl, .inr ⟨⟨xs, (h1.monoW S1.fh).sq⟩, q ds ρ1 F1 H1 _ t1 sf1 S1 (walk_tup h1 h2) h3⟩⟩
  | _ => exact t1.elim
def rangeD (n : Nat) : List PyData := (List.range n).map fun (k : Nat) => PyData.int (k : Int)
def iRg (te : ME) : MI := fun ρ R => te ρ fun d ρ1 => match d with
  | .int j => (-10000 ≤ j ∧ j < 10000) ∧ R (rangeD j.toNat) ρ1
  | _ => False
theorem walk_range {K : PySem.W.Frag} {Z F : Hp} {n : Nat} : WalkOn K Z F (Itr 0 n) (rangeD n) := fun F' H' sf sw _ => by
  have hl : (rangeD n).length = n := by unfold rangeD; rw [List.length_map, List.length_range]
  rw [hl]
  refine ⟨fun i hi => hi, Nat.le_refl _, fun i x H'' hi y => ⟨y.1, .int (i : Int), ?_, ?_⟩⟩
  · unfold rangeD
    rw [List.getElem?_map, List.getElem?_range hi]
    rfl
  · rw [y.2, Int.zero_add]
    exact .int _
theorem gi_range {tg : Expr} {p : Pos} (hg : Gl X "range") (hm : X.mg "range" = none) (he : PE X e (LE X W te)) (hs : starEach [e] X.env = [(false, eval e X.env)] := by rfl) (hs2 : starEach [e] X.env = (false, eval e X.env) :: starEach [] X.env := by rfl) : PI X tg (.Call (.Name "range" p) [e] [] pos) (LI X W (iRg te)) := by
  refine PIw (pi_range1 hg hm (pa_cons he pa_nil hs2) hs) ?_
  rintro σ H Q ⟨Z, F, ρ, R, S, w, t, q⟩
  refine ⟨Z, F, ρ, _, S, w, t, fun d ρ1 v F1 H1 t1 sf1 S1 r1 => ?_⟩
  cases r1 with
  | int j =>
    obtain ⟨hj, t1⟩ := t1
    exact ⟨j, rfl, by omega, by omega, q _ ρ1 F1 H1 _ t1 sf1 S1 walk_range (by unfold rangeD; rw [List.length_map, List.length_range]; exact Nat.le_trans (by omega : j.toNat ≤ 10000) (by decide))⟩
  | _ => exact t1.elim
end
end G


set_option Elab.async false
set_option maxRecDepth 100000
set_option maxHeartbeats 1000000
/-! GV9: for, while, comprehensions. -/
namespace G
open PySem PySem.Spec PyProof.Rows L2
def mForL (g : MG) (tb : MS) (D : PEnd) : List PyData → Ms → Prop
  | [], ρ => D.nx ρ
  | x :: xs, ρ => g x ρ fun ρ1 => tb { D with nx := mForL g tb D xs, ct := mForL g tb D xs, bk := D.nx } ρ1
def mFor (ti : MI) (g : MG) (tb : MS) : MS := fun D ρ => ti ρ fun ds ρ1 => mForL g tb D ds ρ1
def mWhile (c : MB) (tb : MS) : MS := fun D ρ => ∃ J : Nat → Ms → Prop, (∃ m, J m ρ) ∧ ∀ m ρ, J m ρ → c ρ fun b ρ1 =>
  if b = true then tb { D with nx := fun ρ' => ∃ m', m' < m ∧ J m' ρ', ct := fun ρ' => ∃ m', m' < m ∧ J m' ρ', bk := D.nx } ρ1 else D.nx ρ1
section
variable {X : Cx} {W : Wish} {pos : Pos} {tg iter e : Expr} {body : List Stmt} {ti : MI} {g : MG} {tb : MS} {te : ME}
theorem for_low {J : It} {ds : List PyData} {Z F1 H1 : Hp} {σ : L2.St} {ρ1 : Ms} {DR : PEnd} {D : Ends} (S1 : Stt X.K Z F1 H1 σ ρ1) (wk : WalkOn X.K Z F1 J ds) (t1 : mForL g tb DR ds ρ1) (w : WOk X.mg W Z F1) (k : EndsOk X.K Z F1 DR D) :
    ∃ Wi : Nat → Nat → L2.St → Hp → Prop, (∃ m, Wi 0 m σ H1) ∧ ∀ i m σ H, Wi i m σ H → (J.stop i H ∧ D.nx σ H) ∨ (J.go i H ∧ ∃ N : L2.St → Hp → Prop, (∀ σ' H', N σ' H' → ∃ m', m' < m ∧ Wi (i + 1) m' σ' H') ∧ ∀ x H', J.yld i H x H' → LG X g x σ H' fun σ2 H2 => LS X W tb { D with nx := N, ct := N, bk := D.nx } σ2 H2) := by
  refine ⟨fun i m σ' H' => m = ds.length - i ∧ i ≤ ds.length ∧ ∃ F' ρ', Same F1 F' ∧ Stt X.K Z F' H' σ' ρ' ∧ mForL g tb DR (ds.drop i) ρ', ⟨ds.length, by simp, Nat.zero_le _, F1, ρ1, Same.refl _, S1, t1⟩, ?_⟩
  rintro i m σ2 H2 ⟨rfl, hi, F2, ρ2, sf2, S2, t2⟩
  obtain ⟨k1, k2, k3⟩ := wk F2 H2 sf2 S2.fh S2.zh
  by_cases hlt : i < ds.length
  · refine .inr ⟨k1 i hlt, fun σ' H' => ∃ F' ρ', Same F1 F' ∧ Stt X.K Z F' H' σ' ρ' ∧ mForL g tb DR (ds.drop (i + 1)) ρ', fun σ' H' p' => ⟨ds.length - (i + 1), by omega, rfl, hlt, p'⟩, fun x H' y => ?_⟩
    obtain ⟨e1, d, e2, r2⟩ := k3 i x H' hlt y
    subst e1
    have ed : ds.drop i = d :: ds.drop (i + 1) := by
      rw [List.drop_eq_getElem_cons hlt]
      rw [List.getElem?_eq_getElem hlt] at e2
      rw [Option.some.inj e2]
    rw [ed] at t2
    have t2 : g d ρ2 fun ρ1 => tb { DR with nx := mForL g tb DR (ds.drop (i + 1)), ct := mForL g tb DR (ds.drop (i + 1)), bk := DR.nx } ρ1 := t2
    refine ⟨Z, F2, ρ2, d, _, S2, r2, t2, fun ρ3 σ3 t3 S3 _ => ?_⟩
    refine ⟨Z, F2, ρ3, _, S3, w.mono sf2, t3, ?_, ?_, ?_, ?_, ?_⟩
    · exact fun ρ' σ' F' H' a sf S' => ⟨F', ρ', sf2.trans sf, S', a⟩
    · exact fun d ρ' v σ' F' H' a sf S' r => k.rt d ρ' v σ' F' H' a (sf2.trans sf) S' r
    · exact fun d ρ' v σ' F' H' a sf S' => k.ro d ρ' v σ' F' H' a (sf2.trans sf) S'
    · exact fun ρ' σ' F' H' a sf S' => k.nx ρ' σ' F' H' a (sf2.trans sf) S'
    · exact fun ρ' σ' F' H' a sf S' => ⟨F', ρ', sf2.trans sf, S', a⟩
  · have e : i = ds.length := by omega
    subst e
    rw [List.drop_length] at t2
    exact .inl ⟨k2, k.nx ρ2 σ2 F2 H2 t2 sf2 S2⟩
theorem gs_for (hp : PassesOwn (model X.prog X.w) X.A X.env X.xe) (hc : X.calm = true) (hi : PI X tg iter (LI X W ti)) (hg : PG X tg (LG X g)) (hb : PSs X body (LS X W tb))
    (hs : ∀ x, foldedSetIterable iter X.env x = pure x := by intro _; rfl) : PS X (.For tg iter body [] pos) (LS X W (mFor ti g tb)) := by
  refine PSw (ps_for hp hc hi hg hb hs) ?_
  rintro D σ H ⟨Z, F, ρ, DR, S, w, t, k⟩
  refine ⟨Z, F, ρ, _, S, w, t, fun ds ρ1 F1 H1 J t1 sf1 S1 wk _ => ?_⟩
  exact for_low S1 wk t1 (w.mono sf1) (k.mono sf1)
theorem gs_while {c : Expr} {tc : MB} (hp : PassesOwn (model X.prog X.w) X.A X.env X.xe) (hc : PT X c (LB X W tc)) (hb : PSs X body (LS X W tb)) : PS X (.While c body [] pos) (LS X W (mWhile tc tb)) := by
  refine PSw (ps_while hp hc hb) ?_
  rintro D σ H ⟨Z, F, ρ, DR, S, w, ⟨J, ⟨m0, j0⟩, turn⟩, k⟩
  refine ⟨fun m σ' H' => ∃ F' ρ', Same F F' ∧ Stt X.K Z F' H' σ' ρ' ∧ J m ρ', ⟨m0, F, ρ, Same.refl _, S, j0⟩, ?_⟩
  rintro m σ1 H1 ⟨F1, ρ1, sf1, S1, j1⟩
  refine ⟨Z, F1, ρ1, _, S1, w.mono sf1, turn m ρ1 j1, fun b ρ2 F2 H2 t2 sf2 S2 => ?_⟩
  have sfa := sf1.trans sf2
  cases b with
  | true =>
    rw [if_pos rfl] at t2
    refine iteT ?_
    refine ⟨fun σ' H' => ∃ m', m' < m ∧ ∃ F' ρ', Same F F' ∧ Stt X.K Z F' H' σ' ρ' ∧ J m' ρ', fun σ' H' ⟨m', h, q⟩ => ⟨m', h, q⟩, Z, F2, ρ2, _, S2, w.mono sfa, t2, ?_, ?_, ?_, ?_, ?_⟩
    · exact fun ρ' σ' F' H' ⟨m', h, a⟩ sf S' => ⟨m', h, F', ρ', sfa.trans sf, S', a⟩
    · exact fun d ρ' v σ' F' H' a sf S' r => k.rt d ρ' v σ' F' H' a (sfa.trans sf) S' r
    · exact fun d ρ' v σ' F' H' a sf S' => k.ro d ρ' v σ' F' H' a (sfa.trans sf) S'
    · exact fun ρ' σ' F' H' a sf S' => k.nx ρ' σ' F' H' a (sfa.trans sf) S'
    · exact fun ρ' σ' F' H' ⟨m', h, a⟩ sf S' => ⟨m', h, F', ρ', sfa.trans sf, S', a⟩
  | false =>
    rw [if_neg Bool.false_ne_true] at t2
    exact iteF (k.nx ρ2 σ1 F2 H2 t2 sfa S2)

/-! ### comprehensions -/
def wipeM (ρ : Ms) : List Nat → Ms
  | [] => ρ
  | v :: vs => (wipeM ρ vs).set v .un
/-- the slots of a comprehension's own names, as they were where that is data -/
def backM (ρ0 ρ : Ms) : List Nat → Ms
  | [] => ρ
  | v :: vs => (backM ρ0 ρ vs).set v (match slot ρ0 v with
    | .dat d => .dat d
    | .scr n => .scr n
    | .raw x => .raw x
    | _ => .un)
def mLcL (g : MG) (tt : MB) (te : ME) (vs : List Nat) (R : List PyData → Ms → Prop) : List PyData → List PyData → Ms → Prop
  | [], acc, ρ => R acc ρ
  | x :: xs, acc, ρ => g x ρ fun ρ1 => tt ρ1 fun b ρ2 => if b = true then te ρ2 fun y ρ3 => mLcL g tt te vs R xs (acc ++ [y]) (wipeM ρ3 vs) else mLcL g tt te vs R xs acc (wipeM ρ2 vs)
def mLc (ti : MI) (g : MG) (tt : MB) (te : ME) (vs : List Nat) : ME := fun ρ R => ti ρ fun ds ρ1 => mLcL g tt te vs (fun acc ρ2 => R (.list acc) (backM ρ1 ρ2 vs)) ds [] (wipeM ρ1 vs)
theorem wipeM_len (ρ : Ms) : ∀ vs : List Nat, (wipeM ρ vs).length = ρ.length
  | [] => rfl
  | v :: vs => by unfold wipeM; rw [List.length_set, wipeM_len ρ vs]
theorem backM_len (ρ0 ρ : Ms) : ∀ vs : List Nat, (backM ρ0 ρ vs).length = ρ.length
  | [] => rfl
  | v :: vs => by unfold backM; rw [List.length_set, backM_len ρ0 ρ vs]
theorem wipeM_at {ρ : Ms} {i : Nat} {s : Sl} : ∀ {vs : List Nat}, (wipeM ρ vs)[i]? = some s → s = .un ∨ (ρ[i]? = some s ∧ i ∉ vs)
  | [], h => .inr ⟨h, by simp⟩
  | v :: vs, h => by
    unfold wipeM at h
    by_cases hi : v = i
    · subst hi
      by_cases hv : v < (wipeM ρ vs).length
      · rw [List.getElem?_set_self hv] at h; exact .inl (Option.some.inj h).symm
      · rw [List.getElem?_eq_none (by simpa using hv)] at h; cases h
    · rw [List.getElem?_set_ne hi] at h
      rcases wipeM_at h with z | ⟨z, y⟩
      · exact .inl z
      · exact .inr ⟨z, by simp only [List.mem_cons, not_or]; exact ⟨fun e => hi e.symm, y⟩⟩
theorem wipe_at {σ : L2.St} {i : Nat} : ∀ {vs : List Nat}, i ∉ vs → at_ (wipe σ vs) i = at_ σ i
  | [], _ => rfl
  | v :: vs, h => by
    unfold wipe
    rw [at_set_ne (fun e => h (by rw [e]; exact List.mem_cons_self)), wipe_at (fun z => h (List.mem_cons_of_mem _ z))]
theorem Stt.wipe {K : PySem.W.Frag} {Z F H : Hp} {σ : L2.St} {ρ : Ms} (S : Stt K Z F H σ ρ) (vs : List Nat) : Stt K Z F H (L2.wipe σ vs) (wipeM ρ vs) :=
  S.weak (by rw [wipe_length, wipeM_len]; exact S.len) fun i s e => (wipeM_at e).imp id fun h => ⟨h.1, wipe_at h.2⟩
theorem backM_at {ρ0 ρ : Ms} {i : Nat} {s : Sl} : ∀ {vs : List Nat}, (backM ρ0 ρ vs)[i]? = some s → (i ∈ vs ∧ (s = .un ∨ (s = slot ρ0 i ∧ ∀ v a, ¬ mutA v s a))) ∨ (i ∉ vs ∧ ρ[i]? = some s)
  | [], h => .inr ⟨by simp, h⟩
  | v :: vs, h => by
    unfold backM at h
    by_cases hi : v = i
    · subst hi
      by_cases hv : v < (backM ρ0 ρ vs).length
      · rw [List.getElem?_set_self hv] at h
        refine .inl ⟨List.mem_cons_self, ?_⟩
        have h := Option.some.inj h
        subst h
        split
        · rename_i d e; exact .inr ⟨e.symm, fun v a => noMut_dat⟩
        · rename_i d e; exact .inr ⟨e.symm, fun v a => noMut_scr⟩
        · rename_i d e; exact .inr ⟨e.symm, fun v a => noMut_raw⟩
        · exact .inl rfl
      · rw [List.getElem?_eq_none (by simpa using hv)] at h; cases h
    · rw [List.getElem?_set_ne hi] at h
      rcases backM_at h with ⟨z, y⟩ | ⟨z, y⟩
      · exact .inl ⟨List.mem_cons_of_mem _ z, y⟩
      · exact .inr ⟨by simp only [List.mem_cons, not_or]; exact ⟨fun e => hi e.symm, z⟩, y⟩
theorem wipe_wipe (σ : L2.St) (vs : List Nat) : L2.wipe (L2.wipe σ vs) vs = L2.wipe σ vs := by
  apply List.ext_getElem?
  intro j
  rw [wipe_get, wipe_length, wipe_get]
  by_cases h : j ∈ vs ∧ j < σ.length
  · rw [if_pos h, if_pos h]
  · rw [if_neg h]
/-- behind a comprehension -/
theorem Stt.back {K : PySem.W.Frag} {Z F F' H H' : Hp} {σ : L2.St} {ρ0 ρ : Ms} {vs : List Nat} (S0 : Stt K Z F H σ ρ0) (S : Stt K Z F' H' (L2.wipe σ vs) ρ) (sf : Same F F') : Stt K Z F' H' σ (backM ρ0 ρ vs) := by
  have same : ∀ {i}, i ∉ vs → at_ (L2.wipe σ vs) i = at_ σ i := fun h => wipe_at h
  refine ⟨S.fh, S.zh, S.zf, by rw [backM_len, ← S.len, wipe_length], fun i s e => ?_, fun i j s t a e1 e2 m1 m2 => ?_⟩
  · rcases backM_at e with ⟨hi, rfl | ⟨rfl, nm⟩⟩ | ⟨hi, q⟩
    · trivial
    · by_cases hn : slot ρ0 i = .un
      · rw [hn]; trivial
      · exact (S0.sl i _ (slot_some rfl hn)).move sf (fun a o m _ => (nm _ a m).elim) (fun a m => (nm _ a m).elim) fun a m => (nm _ a m).elim
    · rw [← same hi]; exact S.sl i s q
  · rcases backM_at e1 with ⟨hi, rfl | ⟨rfl, nm⟩⟩ | ⟨hi, q1⟩
    · exact (noMut_un m1).elim
    · exact (nm _ a m1).elim
    · rcases backM_at e2 with ⟨hj, rfl | ⟨rfl, nm⟩⟩ | ⟨hj, q2⟩
      · exact (noMut_un m2).elim
      · exact (nm _ a m2).elim
      · rw [← same hi] at m1
        rw [← same hj] at m2
        exact S.ap i j s t a q1 q2 m1 m2
theorem Stt.outer {K : PySem.W.Frag} {Z F H : Hp} {σ : L2.St} {ρ : Ms} {D : Addr} {o : HO} (S : Stt K Z F H σ ρ) (f : F D = none) (h : H D = some o) (aw : ∀ i s, ρ[i]? = some s → ¬ mutA (at_ σ i) s D) : Stt K (upd Z D o) F H σ ρ := by
  refine ⟨S.fh, fun b u e => ?_, fun b q => ?_, S.len, fun i s e => ?_, S.ap⟩
  · by_cases hb : b = D
    · subst hb; rw [upd_same] at e; cases e; exact h
    · rw [upd_ne hb] at e; exact S.zh b u e
  · by_cases hb : b = D
    · rw [hb]; exact f
    · rw [upd_ne hb] at q; exact S.zf b q
  · refine (S.sl i s e).move (Same.refl _) (fun _ _ _ q => q) (fun a m => ?_) fun a m => (S.mut e m).2.1
    have : a ≠ D := fun z => aw i s e (z ▸ m)
    rw [upd_ne this]; exact (S.mut e m).1
/-- the outer thing is given back -/
theorem Stt.inner {K : PySem.W.Frag} {Z F H : Hp} {σ : L2.St} {ρ : Ms} {D : Addr} {o : HO} (S : Stt K (upd Z D o) F H σ ρ) (z : Z D = none) : Stt K Z F H σ ρ ∧ F D = none ∧ H D = some o ∧ ∀ i s, ρ[i]? = some s → ¬ mutA (at_ σ i) s D := by
  have zs : Same Z (upd Z D o) := same_upd z
  refine ⟨⟨S.fh, zs.trans S.zh, fun b q => ?_, S.len, fun i s e => ?_, S.ap⟩, S.zf D (by rw [upd_same]; simp), S.zh D o upd_same, fun i s e m => ?_⟩
  · refine S.zf b fun y => ?_
    by_cases hb : b = D
    · rw [hb, upd_same] at y; cases y
    · rw [upd_ne hb] at y; exact q y
  · refine (S.sl i s e).move (Same.refl _) (fun _ _ _ q => q) (fun a m => ?_) fun a m => (S.mut e m).2.1
    have h1 := (S.mut e m).1
    by_cases hb : a = D
    · rw [hb, upd_same] at h1; cases h1
    · rw [upd_ne hb] at h1; exact h1
  · have h1 := (S.mut e m).1
    rw [upd_same] at h1; cases h1
/-- what is written of a list outside -/
theorem Stt.outerPut {K : PySem.W.Frag} {Z F H : Hp} {σ : L2.St} {ρ : Ms} {D : Addr} {o o' : HO} (S : Stt K (upd Z D o) F H σ ρ) (z : Z D = none) : Stt K (upd Z D o') F (upd H D o') σ ρ := by
  obtain ⟨S1, f, h, aw⟩ := S.inner z
  have S2 : Stt K Z F (upd H D o') σ ρ := by
    refine ⟨fun b u e => ?_, fun b u e => ?_, S1.zf, S1.len, fun i s e => ?_, S1.ap⟩
    · have hb : b ≠ D := fun y => by rw [y, f] at e; cases e
      rw [upd_ne hb]; exact S1.fh b u e
    · have hb : b ≠ D := fun y => by rw [y, z] at e; cases e
      rw [upd_ne hb]; exact S1.zh b u e
    · refine (S1.sl i s e).move (Same.refl _) (fun a u m q => ?_) (fun a m => (S1.mut e m).1) fun a m => (S1.mut e m).2.1
      have : a ≠ D := fun y => aw i s e (y ▸ m)
      rw [upd_ne this]; exact q
  exact S2.outer f upd_same aw
theorem lc_low2 {tt : MB} {vs : List Nat} {σ : L2.St} {H1 : Hp} {Q : VK} {J : It} {ds : List PyData} {Z F1 : Hp} {ρ1 : Ms} {R : PyData → Ms → Prop} (S1 : Stt X.K Z F1 H1 σ ρ1) (wk : WalkOn X.K Z F1 J ds) (hz : ds.length ≤ sizeLine)
    (t1 : mLcL g tt te vs (fun acc ρ2 => R (.list acc) (backM ρ1 ρ2 vs)) ds [] (wipeM ρ1 vs))
    (q : ∀ d ρ' a F' H', R d ρ' → Same F1 F' → Stt X.K Z F' H' σ ρ' → F' a = none → Z a = none → Cont X.K F' H' a d → (∀ i s, ρ'[i]? = some s → ¬ mutA (at_ σ i) s a) → Q (.ref a) H') :
    ∀ D, H1 D = none → ∃ Wi : Nat → Nat → Hp → Prop, (∃ m, Wi 0 m (upd H1 D (.lst []))) ∧ ∀ i m H, Wi i m H →
      (J.stop i H ∧ Q (.ref D) H) ∨ (J.go i H ∧ ∃ Nx : Hp → Prop, (∀ H', Nx H' → ∃ m', m' < m ∧ Wi (i + 1) m' H') ∧ ∀ x H', J.yld i H x H' → lG X.K (some vs) g x (L2.wipe σ vs) H' fun σ2 H2 => L2.wipe σ2 vs = L2.wipe σ vs ∧ lB X.K X.mg Wish.no tt σ2 H2 fun b H3 =>
        if b = true then lE X.K X.mg Wish.no te σ2 H3 fun y H4 => ∃ acc, H4 D = some (.lst acc) ∧ acc.length < sizeLine ∧ Nx (upd H4 D (.lst (acc ++ [y]))) else Nx H3) := by
  intro D hD
  have zD : Z D = none := S1.zh.free hD
  have fD : F1 D = none := S1.fh.free hD
  -- the turn's word
  refine ⟨fun i m H' => m = ds.length - i ∧ i ≤ ds.length ∧ ∃ F' ρ' xs acc, Same F1 F' ∧ Stt X.K (upd Z D (.lst xs)) F' H' (L2.wipe σ vs) ρ' ∧ RepAll X.K F' xs acc ∧ acc.length ≤ i ∧ mLcL g tt te vs (fun acc ρ2 => R (.list acc) (backM ρ1 ρ2 vs)) (ds.drop i) acc ρ',
    ⟨ds.length, by simp, Nat.zero_le _, F1, wipeM ρ1 vs, [], [], Same.refl _, ((S1.lay (.lst []) hD).wipe vs).outer fD upd_same (fun i s e m => ?_), .nil, Nat.le_refl _, t1⟩, ?_⟩
  · have S2 := S1.lay (.lst []) hD
    rcases wipeM_at e with rfl | ⟨e, hi⟩
    · exact noMut_un m
    · rw [wipe_at hi] at m
      exact S1.newAway hD i s e m
  rintro i m H2 ⟨rfl, hi, F2, ρ2, xs, acc, sf2, S2, ra, hacc, t2⟩
  obtain ⟨S2', f2, h2, aw2⟩ := S2.inner zD
  obtain ⟨k1, k2, k3⟩ := wk F2 H2 sf2 S2.fh S2'.zh
  by_cases hlt : i < ds.length
  · refine .inr ⟨k1 i hlt, fun H' => ∃ F' ρ' xs acc, Same F1 F' ∧ Stt X.K (upd Z D (.lst xs)) F' H' (L2.wipe σ vs) ρ' ∧ RepAll X.K F' xs acc ∧ acc.length ≤ i + 1 ∧ mLcL g tt te vs (fun acc ρ2 => R (.list acc) (backM ρ1 ρ2 vs)) (ds.drop (i + 1)) acc ρ', fun H' p' => ⟨ds.length - (i + 1), by omega, rfl, hlt, p'⟩, fun x H' y => ?_⟩
    obtain ⟨e1, d, e2, r2⟩ := k3 i x H' hlt y
    subst e1
    have ed : ds.drop i = d :: ds.drop (i + 1) := by
      rw [List.drop_eq_getElem_cons hlt]
      rw [List.getElem?_eq_getElem hlt] at e2
      rw [Option.some.inj e2]
    rw [ed] at t2
    have t2 : g d ρ2 fun ρ1' => tt ρ1' fun b ρ2 => if b = true then te ρ2 fun y ρ3 => mLcL g tt te vs (fun acc ρ2 => R (.list acc) (backM ρ1 ρ2 vs)) (ds.drop (i + 1)) (acc ++ [y]) (wipeM ρ3 vs) else mLcL g tt te vs (fun acc ρ2 => R (.list acc) (backM ρ1 ρ2 vs)) (ds.drop (i + 1)) acc (wipeM ρ2 vs) := t2
    refine ⟨upd Z D (.lst xs), F2, ρ2, d, _, S2, r2, t2, fun ρ3 σ3 t3 S3 p3 => ⟨Eq.trans p3 (wipe_wipe σ vs), ?_⟩⟩
    have e3 : L2.wipe σ3 vs = L2.wipe σ vs := Eq.trans p3 (wipe_wipe σ vs)
    refine ⟨upd Z D (.lst xs), F2, ρ3, _, S3, WOk.no, t3, fun b ρ4 F4 H4 t4 sf4 S4 => ?_⟩
    cases b with
    | true =>
      rw [if_pos rfl] at t4
      refine iteT ⟨upd Z D (.lst xs), F4, ρ4, _, S4, WOk.no, t4, fun y ρ5 v F5 H5 t5 sf5 S5 r5 => ?_⟩
      obtain ⟨S5', f5, h5, aw5⟩ := S5.inner zD
      refine ⟨xs, h5, Nat.lt_of_lt_of_le (Nat.lt_of_le_of_lt (by rw [ra.length]; exact hacc) hlt) hz, F5, wipeM ρ5 vs, xs ++ [v], acc ++ [y], sf2.trans (sf4.trans sf5), ?_, ((ra.mono sf4).mono sf5).append (.cons r5 .nil), by rw [List.length_append]; exact Nat.succ_le_succ hacc, t5⟩
      have S6 := (S5.outerPut (o' := .lst (xs ++ [v])) zD).wipe vs
      rw [e3] at S6
      exact S6
    | false =>
      rw [if_neg Bool.false_ne_true] at t4
      refine iteF ⟨F4, wipeM ρ4 vs, xs, acc, sf2.trans sf4, ?_, ra.mono sf4, Nat.le_succ_of_le hacc, t4⟩
      have S6 := S4.wipe vs
      rw [e3] at S6
      exact S6
  · have e : i = ds.length := by omega
    subst e
    rw [List.drop_length] at t2
    have t2 : R (.list acc) (backM ρ1 ρ2 vs) := t2
    have Sb := S1.back S2' sf2
    refine .inl ⟨k2, q _ _ D F2 H2 t2 sf2 Sb f2 zD ⟨xs, h2, ra, Nat.le_trans hacc hz⟩ fun i s e m => ?_⟩
    obtain ⟨za, fa, _⟩ := Sb.mut e m
    rcases backM_at e with ⟨hi, rfl | ⟨rfl, nm⟩⟩ | ⟨hi, q1⟩
    · exact noMut_un m
    · exact nm _ D m
    · rw [← wipe_at (σ := σ) hi] at m
      exact aw2 i s q1 m
theorem lc_low {tt : MB} {vs : List Nat} {σ : L2.St} {H : Hp} {Q : VK} (h : LN X W (mLc ti g tt te vs) σ H Q) : tLc (LI X W ti) (lG X.K (some vs) g) (lB X.K X.mg Wish.no tt) (lE X.K X.mg Wish.no te) vs σ H Q := by
  obtain ⟨Z, F, ρ, R, S, w, t, q⟩ := h
  refine ⟨Z, F, ρ, _, S, w, t, fun ds ρ1 F1 H1 J t1 sf1 S1 wk hz => ?_⟩
  exact lc_low2 S1 wk hz t1 fun d ρ' a F' H' hr sf => q d ρ' a F' H' hr (sf1.trans sf)
theorem gn_lc {elt : Expr} {ifs : List Expr} {scope : Scope} {own : List (Str × Nat)} {tt : MB} (hc : X.calm = true) (hN : X.N.Nodup) (hi : PI X tg iter (LI X W ti)) (ok : BlkOk X.N X.env.scope scope own)
    (hg : ∀ (s : Shared) (H : Hp) (C : Addr) (cl : List (Str × Addr)) (fp : List Addr), PG (X.blk s H scope (compEnvC scope cl C X.env) fp) tg (lG X.K (some (own.map (·.2))) g)) (ht : ∀ (s : Shared) (H : Hp) (C : Addr) (cl : List (Str × Addr)) (fp : List Addr), PTs (X.blk s H scope (compEnvC scope cl C X.env) fp) ifs (lB X.K X.mg Wish.no tt))
    (he : ∀ (s : Shared) (H : Hp) (C : Addr) (cl : List (Str × Addr)) (fp : List Addr), PE (X.blk s H scope (compEnvC scope cl C X.env) fp) elt (lE X.K X.mg Wish.no te)) (hs : ∀ x, foldedSetIterable iter X.env x = pure x := by intro _; rfl) :
    PE X (.ListComp elt [⟨tg, iter, ifs, 0⟩] scope pos) (LN X W (mLc ti g tt te (own.map (·.2)))) := by
  exact PEw (pe_lc hc hN hi ok hg ht he hs) fun _ _ _ => lc_low
end
end G


set_option Elab.async false
set_option maxRecDepth 100000
set_option maxHeartbeats 1000000
/-! GV10: comprehensions stored, dict comprehensions, several targets. -/
namespace G
open PySem PySem.Spec PyProof.Rows L2
section
variable {X : Cx} {W : Wish} {pos : Pos} {tg iter e : Expr} {ti : MI} {g : MG} {te tk : ME} {tt : MB}
theorem gts_nil : PTs X [] (lB X.K X.mg W fun ρ R => R true ρ) := ⟨fun pins s σ H Q I ⟨Z, F, ρ, R, S, w, t, q⟩ => (pts_nil (X := X)).run pins s σ H Q I (q true ρ F H t (Same.refl _) S)⟩
theorem gts_one {c : Expr} (h : PT X c (lB X.K X.mg W tt)) : PTs X [c] (lB X.K X.mg W tt) := pts_one h
def mYes : MB := fun ρ R => R true ρ
section
variable {i : Nat} {y : Str} {py : Pos} {elt : Expr} {ifs : List Expr} {scope : Scope} {own : List (Str × Nat)} {spos : Pos}
/-- y = [..], y a local, on one line: a list of one's own -/
theorem gs_setLcN (hc : X.calm = true) (hN : X.N.Nodup) (hy : X.N[i]? = some y) (hyl : X.env.scope.names.lookup y = some .local)
    (hsw : swapsWith (.ListComp elt [⟨tg, iter, ifs, 0⟩] scope pos) (some (.Name y py)) spos.line X.env = pure true) (hi : PI X tg iter (LI X W ti)) (ok : BlkOk X.N X.env.scope scope own)
    (hg : ∀ (s : Shared) (H : Hp) (C : Addr) (cl : List (Str × Addr)) (fp : List Addr), PG (X.blk s H scope (compEnvC scope cl C X.env) fp) tg (lG X.K (some (own.map (·.2))) g)) (ht : ∀ (s : Shared) (H : Hp) (C : Addr) (cl : List (Str × Addr)) (fp : List Addr), PTs (X.blk s H scope (compEnvC scope cl C X.env) fp) ifs (lB X.K X.mg Wish.no tt))
    (he : ∀ (s : Shared) (H : Hp) (C : Addr) (cl : List (Str × Addr)) (fp : List Addr), PE (X.blk s H scope (compEnvC scope cl C X.env) fp) elt (lE X.K X.mg Wish.no te)) (hs : ∀ x, foldedSetIterable iter X.env x = pure x := by intro _; rfl) :
    PS X (.Assign [.Name y py] (.ListComp elt [⟨tg, iter, ifs, 0⟩] scope pos) spos) (LS X W (mSetN i (mLc ti g tt te (own.map (·.2))))) := by
  refine PSw (ps_setLc hc hN hy hyl hsw hi ok hg ht he hs) ?_
  rintro D σ H ⟨Z, F, ρ, DR, S, w, t, k⟩
  refine lc_low ⟨Z, F, ρ, _, S, w, t, fun d ρ1 a F1 H1 t1 sf1 S1 fa za c aw => ?_⟩
  split at t1
  · exact t1.elim
  · exact k.nx _ _ F1 H1 t1 sf1 (S1.putOwn i fa za c aw)
theorem gs_setLc (hc : X.calm = true) (hN : X.N.Nodup) (hy : X.N[i]? = some y) (hyl : X.env.scope.names.lookup y = some .local)
    (hsw : swapsWith (.ListComp elt [⟨tg, iter, ifs, 0⟩] scope pos) (some (.Name y py)) spos.line X.env = pure true) (hi : PI X tg iter (LI X W ti)) (ok : BlkOk X.N X.env.scope scope own)
    (hg : ∀ (s : Shared) (H : Hp) (C : Addr) (cl : List (Str × Addr)) (fp : List Addr), PG (X.blk s H scope (compEnvC scope cl C X.env) fp) tg (lG X.K (some (own.map (·.2))) g)) (ht : ∀ (s : Shared) (H : Hp) (C : Addr) (cl : List (Str × Addr)) (fp : List Addr), PTs (X.blk s H scope (compEnvC scope cl C X.env) fp) ifs (lB X.K X.mg Wish.no tt))
    (he : ∀ (s : Shared) (H : Hp) (C : Addr) (cl : List (Str × Addr)) (fp : List Addr), PE (X.blk s H scope (compEnvC scope cl C X.env) fp) elt (lE X.K X.mg Wish.no te)) (hs : ∀ x, foldedSetIterable iter X.env x = pure x := by intro _; rfl) :
    PS X (.Assign [.Name y py] (.ListComp elt [⟨tg, iter, ifs, 0⟩] scope pos) spos) (LS X W (mSet i (mLc ti g tt te (own.map (·.2))))) := by
  refine PSw (ps_setLc hc hN hy hyl hsw hi ok hg ht he hs) ?_
  rintro D σ H ⟨Z, F, ρ, DR, S, w, t, k⟩
  have t : mLc ti g tt te (own.map (·.2)) ρ (fun d ρ1 => mGN i d ρ1 DR.nx) := t
  refine lc_low (lN_of_lE ⟨Z, F, ρ, _, S, w, t, fun d ρ1 v F1 H1 t1 sf1 S1 r1 => ?_⟩)
  refine k.nx _ _ F1 H1 ?_ sf1 (S1.putDat i r1)
  unfold mGN at t1
  split at t1
  · exact t1.elim
  · exact t1
end

/-! ### dict comprehensions, keys texts -/
def mDcL (g : MG) (tt : MB) (tk te : ME) (vs : List Nat) (R : List (PyData × PyData) → Ms → Prop) : List PyData → List (PyData × PyData) → Ms → Prop
  | [], acc, ρ => R acc ρ
  | x :: xs, acc, ρ => g x ρ fun ρ1 => tt ρ1 fun b ρ2 => if b = true then tk ρ2 fun k ρ3 => te ρ3 fun y ρ4 => (match k with
      | .str n => mDcL g tt tk te vs R xs (dput acc n y) (wipeM ρ4 vs)
      | _ => False) else mDcL g tt tk te vs R xs acc (wipeM ρ2 vs)
def mDc (ti : MI) (g : MG) (tt : MB) (tk te : ME) (vs : List Nat) : ME := fun ρ R => ti ρ fun ds ρ1 => mDcL g tt tk te vs (fun acc ρ2 => R (.dict acc) (backM ρ1 ρ2 vs)) ds [] (wipeM ρ1 vs)
theorem dc_low {vs : List Nat} {σ : L2.St} {H : Hp} {Q : VK} (h : LN X W (mDc ti g tt tk te vs) σ H Q) : tDc (LI X W ti) (lG X.K (some vs) g) (lB X.K X.mg Wish.no tt) (lE X.K X.mg Wish.no tk) (lE X.K X.mg Wish.no te) vs σ H Q := by
  obtain ⟨Z, F, ρ, R, S, w, t, q⟩ := h
  refine ⟨Z, F, ρ, _, S, w, t, fun ds ρ1 F1 H1 J t1 sf1 S1 wk hz => ?_⟩
  intro D hD
  have zD : Z D = none := S1.zh.free hD
  have fD : F1 D = none := S1.fh.free hD
  -- the turn's word
  refine ⟨fun i m H' => m = ds.length - i ∧ i ≤ ds.length ∧ ∃ F' ρ' xs acc, Same F1 F' ∧ Stt X.K (upd Z D (.dK xs)) F' H' (L2.wipe σ vs) ρ' ∧ RepKV X.K F' xs acc ∧ acc.length ≤ i ∧ mDcL g tt tk te vs (fun acc ρ2 => R (.dict acc) (backM ρ1 ρ2 vs)) (ds.drop i) acc ρ',
    ⟨ds.length, by simp, Nat.zero_le _, F1, wipeM ρ1 vs, [], [], Same.refl _, ((S1.lay (.dK []) hD).wipe vs).outer fD upd_same (fun i s e m => ?_), .nil, Nat.le_refl _, t1⟩, ?_⟩
  · have S2 := S1.lay (.dK []) hD
    rcases wipeM_at e with rfl | ⟨e, hi⟩
    · exact noMut_un m
    · rw [wipe_at hi] at m
      exact S1.newAway hD i s e m
  rintro i m H2 ⟨rfl, hi, F2, ρ2, xs, acc, sf2, S2, ra, hacc, t2⟩
  obtain ⟨S2', f2, h2, aw2⟩ := S2.inner zD
  obtain ⟨k1, k2, k3⟩ := wk F2 H2 sf2 S2.fh S2'.zh
  by_cases hlt : i < ds.length
  · refine .inr ⟨k1 i hlt, fun H' => ∃ F' ρ' xs acc, Same F1 F' ∧ Stt X.K (upd Z D (.dK xs)) F' H' (L2.wipe σ vs) ρ' ∧ RepKV X.K F' xs acc ∧ acc.length ≤ i + 1 ∧ mDcL g tt tk te vs (fun acc ρ2 => R (.dict acc) (backM ρ1 ρ2 vs)) (ds.drop (i + 1)) acc ρ', fun H' p' => ⟨ds.length - (i + 1), by omega, rfl, hlt, p'⟩, fun x H' y => ?_⟩
    obtain ⟨e1, d, e2, r2⟩ := k3 i x H' hlt y
    subst e1
    have ed : ds.drop i = d :: ds.drop (i + 1) := by
      rw [List.drop_eq_getElem_cons hlt]
      rw [List.getElem?_eq_getElem hlt] at e2
      rw [Option.some.inj e2]
    rw [ed] at t2
    have t2 : g d ρ2 fun ρ1' => tt ρ1' fun b ρ2 => if b = true then tk ρ2 fun k ρ3 => te ρ3 fun y ρ4 => (match k with
      | .str n => mDcL g tt tk te vs (fun acc ρ2 => R (.dict acc) (backM ρ1 ρ2 vs)) (ds.drop (i + 1)) (dput acc n y) (wipeM ρ4 vs)
      | _ => False) else mDcL g tt tk te vs (fun acc ρ2 => R (.dict acc) (backM ρ1 ρ2 vs)) (ds.drop (i + 1)) acc (wipeM ρ2 vs) := t2
    refine ⟨upd Z D (.dK xs), F2, ρ2, d, _, S2, r2, t2, fun ρ3 σ3 t3 S3 p3 => ⟨Eq.trans p3 (wipe_wipe σ vs), ?_⟩⟩
    have e3 : L2.wipe σ3 vs = L2.wipe σ vs := Eq.trans p3 (wipe_wipe σ vs)
    refine ⟨upd Z D (.dK xs), F2, ρ3, _, S3, WOk.no, t3, fun b ρ4 F4 H4 t4 sf4 S4 => ?_⟩
    cases b with
    | true =>
      rw [if_pos rfl] at t4
      refine iteT ⟨upd Z D (.dK xs), F4, ρ4, _, S4, WOk.no, t4, fun kd ρ5 v F5 H5 t5 sf5 S5 r5 => ?_⟩
      refine ⟨upd Z D (.dK xs), F5, ρ5, _, S5, WOk.no, t5, fun y ρ6 v' F6 H6 t6 sf6 S6 r6 => ?_⟩
      split at t6
      · rename_i n
        cases r5
        obtain ⟨S6', f6, h6, aw6⟩ := S6.inner zD
        have raf := ((ra.mono sf4).mono sf5).mono sf6
        refine ⟨xs, Sum.inr n, rfl, h6, Nat.lt_of_lt_of_le (Nat.lt_of_le_of_lt (by rw [ra.length]; exact hacc) hlt) hz, F6, wipeM ρ6 vs, _, dput acc n y, sf2.trans (sf4.trans (sf5.trans sf6)), ?_, raf.put r6, ?_, t6⟩
        · have S7 := (S6.outerPut (o' := .dK (putK xs (Sum.inr n) v')) zD).wipe vs
          rw [e3] at S7
          exact S7
        · exact Nat.le_trans (dput_len acc n y) (Nat.succ_le_succ hacc)
      · exact t6.elim
    | false =>
      rw [if_neg Bool.false_ne_true] at t4
      refine iteF ⟨F4, wipeM ρ4 vs, xs, acc, sf2.trans sf4, ?_, ra.mono sf4, Nat.le_succ_of_le hacc, t4⟩
      have S6 := S4.wipe vs
      rw [e3] at S6
      exact S6
  · have e : i = ds.length := by omega
    subst e
    rw [List.drop_length] at t2
    have t2 : R (.dict acc) (backM ρ1 ρ2 vs) := t2
    have Sb := S1.back S2' sf2
    refine .inl ⟨k2, q _ _ D F2 H2 t2 (sf1.trans sf2) Sb f2 zD ⟨xs, h2, ra⟩ fun i s e m => ?_⟩
    obtain ⟨za, fa, _⟩ := Sb.mut e m
    rcases backM_at e with ⟨hi, rfl | ⟨rfl, nm⟩⟩ | ⟨hi, q1⟩
    · exact noMut_un m
    · exact nm _ D m
    · rw [← wipe_at (σ := σ) hi] at m
      exact aw2 i s q1 m
section
variable {i : Nat} {y : Str} {py : Pos} {kx vx : Expr} {ifs : List Expr} {scope : Scope} {own : List (Str × Nat)} {spos : Pos}
theorem gn_dc (hc : X.calm = true) (hN : X.N.Nodup) (hi : PI X tg iter (LI X W ti)) (ok : BlkOk X.N X.env.scope scope own)
    (hg : ∀ (s : Shared) (H : Hp) (C : Addr) (cl : List (Str × Addr)) (fp : List Addr), PG (X.blk s H scope (compEnvC scope cl C X.env) fp) tg (lG X.K (some (own.map (·.2))) g)) (ht : ∀ (s : Shared) (H : Hp) (C : Addr) (cl : List (Str × Addr)) (fp : List Addr), PTs (X.blk s H scope (compEnvC scope cl C X.env) fp) ifs (lB X.K X.mg Wish.no tt))
    (hk : ∀ (s : Shared) (H : Hp) (C : Addr) (cl : List (Str × Addr)) (fp : List Addr), PE (X.blk s H scope (compEnvC scope cl C X.env) fp) kx (lE X.K X.mg Wish.no tk))
    (he : ∀ (s : Shared) (H : Hp) (C : Addr) (cl : List (Str × Addr)) (fp : List Addr), PE (X.blk s H scope (compEnvC scope cl C X.env) fp) vx (lE X.K X.mg Wish.no te)) (hs : ∀ x, foldedSetIterable iter X.env x = pure x := by intro _; rfl) :
    PE X (.DictComp kx vx [⟨tg, iter, ifs, 0⟩] scope pos) (LN X W (mDc ti g tt tk te (own.map (·.2)))) := PEw (pe_dc hc hN hi ok hg ht hk he hs) fun _ _ _ => dc_low
theorem ps_setDc {wi : TI} {g : TG} {tt : TT} {tk tv : TE} (hc : X.calm = true) (hN : X.N.Nodup) (hy : X.N[i]? = some y) (hyl : X.env.scope.names.lookup y = some .local)
    (hsw : swapsWith (.DictComp kx vx [⟨tg, iter, ifs, 0⟩] scope pos) (some (.Name y py)) spos.line X.env = pure true) (hi : PI X tg iter wi) (ok : BlkOk X.N X.env.scope scope own)
    (hg : ∀ (s : Shared) (H : Hp) (C : Addr) (cl : List (Str × Addr)) (fp : List Addr), PG (X.blk s H scope (compEnvC scope cl C X.env) fp) tg g) (ht : ∀ (s : Shared) (H : Hp) (C : Addr) (cl : List (Str × Addr)) (fp : List Addr), PTs (X.blk s H scope (compEnvC scope cl C X.env) fp) ifs tt)
    (hk : ∀ (s : Shared) (H : Hp) (C : Addr) (cl : List (Str × Addr)) (fp : List Addr), PE (X.blk s H scope (compEnvC scope cl C X.env) fp) kx tk)
    (he : ∀ (s : Shared) (H : Hp) (C : Addr) (cl : List (Str × Addr)) (fp : List Addr), PE (X.blk s H scope (compEnvC scope cl C X.env) fp) vx tv) (hs : ∀ x, foldedSetIterable iter X.env x = pure x := by intro _; rfl) :
    PS X (.Assign [.Name y py] (.DictComp kx vx [⟨tg, iter, ifs, 0⟩] scope pos) spos) (tAsg (tDc wi g tt tk tv (own.map (·.2))) (gName i)) := by
  refine ⟨fun pins s σ H D I h => ?_⟩
  rw [exec_Assign_Name_used _ _ _ _ hsw]
  refine wpAny_bind (wpAny_standAt (wpAny_bind ?_))
  show wpAny _ X.A (do let _ ← comprehension (.DictComp kx vx [⟨tg, iter, ifs, 0⟩] scope pos) scope X.env (firstIterPos [⟨tg, iter, ifs, 0⟩] pos) newDict false (eval iter X.env) (some (assign (.Name y py) X.env))) _ _ s
  have h : tDc wi g tt tk tv (own.map (·.2)) σ H (fun x H1 => gName i x σ H1 D.nx) := h
  refine wpAny_bind (thn (dc_core (Qf := fun _ s' => SP X pins D .next s') hc hN I hi ok hg ht hk he hs h fun L C s' m H' I' q hn f => ?_) fun _ s' hq => wpAny_pure (wpAny_pure hq))
  show wpAny _ _ (assign (.Name y py) X.env (.ref L)) _ _ _
  refine wpAny_assign_Name (store_ok2 (v := V.ref L) I' hN hy (.inl hyl) rfl (fun s2 I2 ⟨a, sb, ha⟩ => ?_) (.inr hyl))
  obtain ⟨f0, f1, f2, f3, f4, f5⟩ := f
  have haC : C ≠ a := by
    rcases ha with z | z
    · rw [z]; exact f1
    · exact fun e => f4 y a z e.symm
  refine ⟨m, hn.sameBut sb haC, fun h3 sb3 => ?_⟩
  exact ⟨_, H', I2.turned (t' := s2.toks) (fun b o hb e => (sb3.2 b hb).trans e) f0 f1 f3 f4 f5, q⟩
theorem gs_setDcN (hc : X.calm = true) (hN : X.N.Nodup) (hy : X.N[i]? = some y) (hyl : X.env.scope.names.lookup y = some .local)
    (hsw : swapsWith (.DictComp kx vx [⟨tg, iter, ifs, 0⟩] scope pos) (some (.Name y py)) spos.line X.env = pure true) (hi : PI X tg iter (LI X W ti)) (ok : BlkOk X.N X.env.scope scope own)
    (hg : ∀ (s : Shared) (H : Hp) (C : Addr) (cl : List (Str × Addr)) (fp : List Addr), PG (X.blk s H scope (compEnvC scope cl C X.env) fp) tg (lG X.K (some (own.map (·.2))) g)) (ht : ∀ (s : Shared) (H : Hp) (C : Addr) (cl : List (Str × Addr)) (fp : List Addr), PTs (X.blk s H scope (compEnvC scope cl C X.env) fp) ifs (lB X.K X.mg Wish.no tt))
    (hk : ∀ (s : Shared) (H : Hp) (C : Addr) (cl : List (Str × Addr)) (fp : List Addr), PE (X.blk s H scope (compEnvC scope cl C X.env) fp) kx (lE X.K X.mg Wish.no tk))
    (he : ∀ (s : Shared) (H : Hp) (C : Addr) (cl : List (Str × Addr)) (fp : List Addr), PE (X.blk s H scope (compEnvC scope cl C X.env) fp) vx (lE X.K X.mg Wish.no te)) (hs : ∀ x, foldedSetIterable iter X.env x = pure x := by intro _; rfl) :
    PS X (.Assign [.Name y py] (.DictComp kx vx [⟨tg, iter, ifs, 0⟩] scope pos) spos) (LS X W (mSetN i (mDc ti g tt tk te (own.map (·.2))))) := by
  refine PSw (ps_setDc hc hN hy hyl hsw hi ok hg ht hk he hs) ?_
  rintro D σ H ⟨Z, F, ρ, DR, S, w, t, k⟩
  refine dc_low ⟨Z, F, ρ, _, S, w, t, fun d ρ1 a F1 H1 t1 sf1 S1 fa za c aw => ?_⟩
  split at t1
  · exact t1.elim
  · exact k.nx _ _ F1 H1 t1 sf1 (S1.putOwn i fa za c aw)
theorem swd_true {k v : Expr} {gs : List Comprehension} {scope : Scope} {pos py : Pos} {y : Str} {l : Nat} {env : Env} (hk : env.scope.kind = .function) (hy : env.scope.names.lookup y = some .local) (hl : (py.line == pos.line) = true)
    (ha : (scope.names.any fun (n, k) => n == y && (k == .local || k == .cell)) = false) : swapsWith (.DictComp k v gs scope pos) (some (.Name y py)) l env = pure true := by
  have ky : env.kindOf y = some .local := hy
  have hb : env.blockKind = .function := by unfold Env.blockKind; rw [hk]; rfl
  unfold swapsWith
  simp only [hb, ky, ha, Expr.pos, hl]
  rfl
end
end
end G


set_option Elab.async false
set_option maxRecDepth 100000
set_option maxHeartbeats 1000000
/-! GV11: changes in place, calls of defs, a def's promise. -/
namespace G
open PySem PySem.Spec PyProof.Rows L2
def ContO (K : PySem.W.Frag) (F : Hp) : HO → PyData → Prop
  | .lst xs, .list ds => RepAll K F xs ds ∧ ds.length ≤ sizeLine
  | .dK kvs, .dict es => RepKV K F kvs es
  | _, _ => False
theorem cont_iff {K : PySem.W.Frag} {F H : Hp} {a : Addr} {d : PyData} : Cont K F H a d ↔ ∃ o, H a = some o ∧ ContO K F o d := by
  constructor
  · intro h
    cases d with
    | list ds => obtain ⟨xs, h1, h2, h3⟩ := h; exact ⟨_, h1, h2, h3⟩
    | dict es => obtain ⟨kvs, h1, h2⟩ := h; exact ⟨_, h1, h2⟩
    | _ => exact h.elim
  · rintro ⟨o, h1, h2⟩
    cases d <;> cases o <;> first | exact h2.elim | exact ⟨_, h1, h2⟩ | exact ⟨_, h1, h2.1, h2.2⟩
theorem ContO.mono {K : PySem.W.Frag} {F F' : Hp} {o : HO} {d : PyData} (h : ContO K F o d) (e : Same F F') : ContO K F' o d := by
  cases d <;> cases o <;> first | exact h.elim | exact RepKV.mono e h | exact ⟨h.1.mono e, h.2⟩
section
variable {K : PySem.W.Frag} {Z F H : Hp} {σ : L2.St} {ρ : Ms}
theorem Stt.change (S : Stt K Z F H σ ρ) {i : Nat} {s s' : Sl} {a : Addr} {o' : HO} (hi : ρ[i]? = some s) (m : mutA (at_ σ i) s a) (ok : SlOk K Z F (upd H a o') (at_ σ i) s') (only : ∀ b, mutA (at_ σ i) s' b → b = a) : Stt K Z F (upd H a o') σ (ρ.set i s') := by
  obtain ⟨za, fa, _⟩ := S.mut hi m
  have hil : i < ρ.length := (List.getElem?_eq_some_iff.mp hi).1
  have key : ∀ j t, (ρ.set i s')[j]? = some t → (j = i ∧ t = s') ∨ (j ≠ i ∧ ρ[j]? = some t) := fun j t e => by
    by_cases hj : i = j
    · subst hj
      rw [List.getElem?_set_self hil] at e
      exact .inl ⟨rfl, (Option.some.inj e).symm⟩
    · rw [List.getElem?_set_ne hj] at e
      exact .inr ⟨fun z => hj z.symm, e⟩
  refine ⟨fun b u e => ?_, fun b u e => ?_, S.zf, by rw [List.length_set]; exact S.len, fun j t e => ?_, fun j k t u b e1 e2 m1 m2 => ?_⟩
  · have hb : b ≠ a := fun y => by rw [y, fa] at e; cases e
    rw [upd_ne hb]; exact S.fh b u e
  · have hb : b ≠ a := fun y => by rw [y, za] at e; cases e
    rw [upd_ne hb]; exact S.zh b u e
  · rcases key j t e with ⟨rfl, rfl⟩ | ⟨hj, e⟩
    · exact ok
    · refine (S.sl j t e).move (Same.refl _) (fun b u m' q => ?_) (fun b m' => (S.mut e m').1) fun b m' => (S.mut e m').2.1
      have hb : b ≠ a := fun y => hj (S.ap j i _ s a e hi (y ▸ m') m)
      rw [upd_ne hb]; exact q
  · rcases key j t e1 with ⟨a1, b1⟩ | ⟨a1, f1⟩ <;> rcases key k u e2 with ⟨a2, b2⟩ | ⟨a2, f2⟩
    · rw [a1, a2]
    · rw [b1, a1] at m1
      rw [a1]
      exact S.ap i k s u a hi f2 m (only b m1 ▸ m2)
    · rw [b2, a2] at m2
      rw [a2]
      exact S.ap j i t s a f1 hi (only b m2 ▸ m1) m
    · exact S.ap j k t u b f1 f2 m1 m2
theorem Stt.changeOwn (S : Stt K Z F H σ ρ) {i : Nat} {a : Addr} {d d' : PyData} {o' : HO} (hi : ρ[i]? = some (.own d)) (ha : at_ σ i = some (.ref a)) (c : ContO K F o' d') : Stt K Z F (upd H a o') σ (ρ.set i (.own d')) := by
  have m : mutA (at_ σ i) (.own d) a := .inl ⟨ha, .inl ⟨d, rfl⟩⟩
  obtain ⟨za, fa, _⟩ := S.mut hi m
  refine S.change hi m ⟨a, ha, za, fa, cont_iff.mpr ⟨o', upd_same, c⟩⟩ fun b m => ?_
  have e := mut_own m
  rw [ha] at e; cases e; rfl
theorem Stt.changeInn (S : Stt K Z F H σ ρ) {i : Nat} {a : Addr} {d d' : PyData} {o' : HO} (hi : ρ[i]? = some (.inn a d)) (c : ContO K F o' d') : Stt K Z F (upd H a o') σ (ρ.set i (.inn a d')) := by
  have ha := (S.sl i _ hi).1
  have m : mutA (at_ σ i) (.inn a d) a := .inl ⟨ha, .inr ⟨a, d, rfl⟩⟩
  obtain ⟨za, fa, _⟩ := S.mut hi m
  refine S.change hi m ⟨ha, za, fa, cont_iff.mpr ⟨o', upd_same, c⟩⟩ fun b m => ?_
  have e := mut_inn m
  rw [ha] at e; cases e; rfl
theorem Stt.changeOb (S : Stt K Z F H σ ρ) {i : Nat} {a b : Addr} {d d' : PyData} {o' : HO} (hi : ρ[i]? = some (.ob a b d)) (c : ContO K F o' d') : Stt K Z F (upd H b o') σ (ρ.set i (.ob a b d')) := by
  obtain ⟨ha, hx, zb, fb, _⟩ := S.sl i _ hi
  exact S.change hi (.inr ⟨a, d, rfl⟩) ⟨ha, hx, zb, fb, cont_iff.mpr ⟨o', upd_same, c⟩⟩ fun c m => mut_ob m
theorem Stt.less (S : Stt K Z F H σ ρ) {Z' : Hp} (h : Same Z' Z) : Stt K Z' F H σ ρ :=
  ⟨S.fh, h.trans S.zh, fun b q => S.zf b fun z => q (h.free z), S.len, fun i s e => (S.sl i s e).move (Same.refl _) (fun _ _ _ q => q) (fun a m => h.free (S.mut e m).1) fun a m => (S.mut e m).2.1, S.ap⟩
end

/-! ### methods of a list of one's own -/
def MutR (X : Cx) (r : V → List V → Hp → VK → Prop) (op : PyData → List PyData → (PyData → PyData → Prop) → Prop) : Prop :=
  ∀ (F H : Hp) (a : Addr) (d : PyData) (xs : List V) (ds : List PyData) (R : PyData → PyData → Prop) (Q : VK), SameW F H → Cont X.K F H a d → RepAll X.K F xs ds → op d ds R →
    (∀ r d' v o', R r d' → Rep X.K F v r → ContO X.K F o' d' → Q v (upd H a o')) → r (.ref a) xs H Q
def isLst : Sl → Bool
  | .own (.list _) => true
  | .inn _ (.list _) => true
  | _ => false
def mMut (i : Nat) (op : PyData → List PyData → (PyData → PyData → Prop) → Prop) (ta : MA) : ME := fun ρ R => match isLst (slot ρ i) with
  | true => ta ρ fun ds ρ1 => match slot ρ1 i with
    | .own d => op d ds fun r d' => R r (ρ1.set i (.own d'))
    | .inn a d => op d ds fun r d' => R r (ρ1.set i (.inn a d'))
    | _ => False
  | false => False
section
variable {X : Cx} {W : Wish} {pos p apos : Pos} {x : Str} {e o : Expr} {es : List Expr} {te tk : ME} {t : MA} {n : Nat} {r : V → List V → Hp → VK → Prop} {op : PyData → List PyData → (PyData → PyData → Prop) → Prop} {i : Nat} {name : Str} {id : String}
theorem isLst_ty {K : PySem.W.Frag} {Z F H : Hp} {σ : L2.St} {ρ : Ms} (S : Stt K Z F H σ ρ) (h : isLst (slot ρ i) = true) : ∃ a, at_ σ i = some (.ref a) ∧ tyV K "list" (.ref a) H := by
  unfold isLst at h
  split at h
  · rename_i ds e
    obtain ⟨a, e1, _, _, xs, h1, _⟩ := S.sl i _ (slot_some e (fun q => nomatch q))
    exact ⟨a, e1, Or.inl ⟨rfl, _, Or.inl (Or.inl h1)⟩⟩
  · rename_i a ds e
    obtain ⟨e1, _, _, xs, h1, _⟩ := S.sl i _ (slot_some e (fun q => nomatch q))
    exact ⟨a, e1, Or.inl ⟨rfl, _, Or.inl (Or.inl h1)⟩⟩
  · cases h
theorem mut_low (hm : MutR X r op) {σ : L2.St} {H : Hp} {Q : VK} {Z F F1 : Hp} {ρ1 : Ms} {a : Addr} {xs : List V} {ds : List PyData} {R : PyData → Ms → Prop} (ha : at_ σ i = some (.ref a)) (sf1 : Same F F1) (S1 : Stt X.K Z F1 H σ ρ1) (ra : RepAll X.K F1 xs ds)
    (q : ∀ d ρ' v F' H', R d ρ' → Same F F' → Stt X.K Z F' H' σ ρ' → Rep X.K F' v d → Q v H')
    (t1 : match slot ρ1 i with
      | .own d => op d ds fun r d' => R r (ρ1.set i (.own d'))
      | .inn a d => op d ds fun r d' => R r (ρ1.set i (.inn a d'))
      | _ => False) : r (.ref a) xs H Q := by
  split at t1
  · rename_i d e
    have hi := slot_some e (fun q => nomatch q)
    obtain ⟨b, e1, z, f, c⟩ := S1.sl i _ hi
    rw [ha] at e1; cases e1
    exact hm F1 H a d xs ds _ Q S1.fh c ra t1 fun r d' v o' hr rv co => q r _ v F1 _ hr sf1 (S1.changeOwn hi ha co) rv
  · rename_i b d e
    have hi := slot_some e (fun q => nomatch q)
    obtain ⟨e1, z, f, c⟩ := S1.sl i _ hi
    rw [ha] at e1; cases e1
    exact hm F1 H a d xs ds _ Q S1.fh c ra t1 fun r d' v o' hr rv co => q r _ v F1 _ hr sf1 (S1.changeInn hi co) rv
  · exact t1.elim
theorem g_mut (slt : Slot "list" name id) (hty : typeOf (.builtin id) = pure (.type "method_descriptor")) (hr : MtR X id r) (hm : MutR X r op) (ho : PE X (.Name x p) (tVar i)) (ha : PA X (e :: es) (LA X W n t))
    (h : PE X (.Call (.Attribute (.Name x p) name apos) (e :: es) [] pos) (tBM X.K "list" r (tVar i) (LA X W n t))) :
    PE X (.Call (.Attribute (.Name x p) name apos) (e :: es) [] pos) (LE X W (mMut i op t)) := by
  refine PEw h ?_
  rintro σ H Q ⟨Z, F, ρ, R, S, w, t, q⟩
  unfold mMut at t
  split at t
  · rename_i hl
    obtain ⟨a, e1, ty⟩ := isLst_ty S hl
    exact ⟨.ref a, at_some e1, ty, Z, F, ρ, _, S, w, t, fun ds ρ1 xs F1 H1 t1 sf1 S1 ra _ => mut_low hm e1 sf1 S1 ra q t1⟩
  · exact t.elim
theorem g_mut0 (hm : MutR X r op) (h : PE X (.Call (.Attribute (.Name x p) name apos) [] [] pos) (tBM0 X.K "list" r (tVar i))) :
    PE X (.Call (.Attribute (.Name x p) name apos) [] [] pos) (LE X W (mMut i op mNil)) := by
  refine PEw h ?_
  rintro σ H Q ⟨Z, F, ρ, R, S, w, t, q⟩
  unfold mMut at t
  split at t
  · rename_i hl
    obtain ⟨a, e1, ty⟩ := isLst_ty S hl
    exact ⟨.ref a, at_some e1, ty, mut_low hm e1 (Same.refl _) S .nil q t⟩
  · exact t.elim
def appendD : PyData → List PyData → (PyData → PyData → Prop) → Prop
  | .list ds, [y], R => ds.length < 1000 ∧ R .none (.list (ds ++ [y]))
  | _, _, _ => False
theorem mr_append : MutR X rAppend appendD := by
  intro F H a d xs ds R Q sw c ra h q
  unfold appendD at h
  split at h
  · rename_i ls y
    obtain ⟨zs, h1, h2, h3⟩ := c
    cases ra with
    | @cons v _ _ _ ry ra =>
      cases ra
      refine ⟨a, zs, v, rfl, rfl, h1, by rw [h2.length]; exact small1000 (Nat.le_of_lt h.1), q _ _ _ _ h.2 .non ⟨h2.append (.cons ry .nil), ?_⟩⟩
      rw [List.length_append]
      exact line1000 (by simp; omega)
  · exact h.elim
def extendD : PyData → List PyData → (PyData → PyData → Prop) → Prop
  | .list ds, [.list es], R => ds.length + es.length ≤ 1000 ∧ R .none (.list (ds ++ es))
  | _, _, _ => False
theorem mr_extend : MutR X rExtend extendD := by
  intro F H a d xs ds R Q sw c ra h q
  unfold extendD at h
  split at h
  · rename_i ls es
    obtain ⟨zs, h1, h2, h3⟩ := c
    cases ra with
    | @cons v _ _ _ ry ra =>
      cases ra
      cases ry with
      | @lst b ys _ k1 k2 k3 =>
        refine ⟨a, b, zs, ys, rfl, rfl, h1, sw.lst k1, by rw [h2.length, k2.length]; exact line1000 h.1, q _ _ _ _ h.2 .non ⟨h2.append k2, ?_⟩⟩
        rw [List.length_append]
        exact line1000 h.1
  · exact h.elim
def popD : PyData → List PyData → (PyData → PyData → Prop) → Prop
  | .list ds, [], R => match ds.getLast? with
    | some y => R y (.list ds.dropLast)
    | none => False
  | _, _, _ => False
theorem RepAll.dropLast {K : PySem.W.Frag} {H : Hp} : ∀ {vs : List V} {ds : List PyData}, RepAll K H vs ds → RepAll K H vs.dropLast ds.dropLast
  | _, _, .nil => .nil
  | _, _, .cons h .nil => .nil
  | _, _, .cons h (.cons h2 r) => .cons h (RepAll.dropLast (.cons h2 r))
theorem mr_pop : MutR X rPop popD := by
  intro F H a d xs ds R Q sw c ra h q
  unfold popD at h
  split at h
  · rename_i ls
    split at h
    · rename_i y e
      obtain ⟨zs, h1, h2, h3⟩ := c
      cases ra
      rw [List.getLast?_eq_getElem?] at e
      obtain ⟨v, e1, e2⟩ := h2.get e
      rw [← h2.length] at e1
      exact ⟨a, zs, v, rfl, rfl, h1, e1, q _ _ _ _ h e2 ⟨h2.dropLast, by rw [List.length_dropLast]; omega⟩⟩
    · exact h.elim
  · exact h.elim
def popAtD : PyData → List PyData → (PyData → PyData → Prop) → Prop
  | .list ds, [.int i], R => match ds[i.toNat]? with
    | some y => (0 ≤ i ∧ i < 1000) ∧ R y (.list (ds.eraseIdx i.toNat))
    | none => False
  | _, _, _ => False
theorem mr_popAt : MutR X rPopAt popAtD := by
  intro F H a d xs ds R Q sw c ra h q
  unfold popAtD at h
  split at h
  · rename_i ls i
    split at h
    · rename_i y e
      obtain ⟨zs, h1, h2, h3⟩ := c
      cases ra with
      | @cons v _ _ _ ry ra =>
        cases ra
        cases ry
        obtain ⟨v, e1, e2⟩ := h2.get e
        obtain ⟨⟨h0, hi⟩, h⟩ := h
        refine ⟨a, zs, i, i.toNat, v, rfl, rfl, h1, by omega, by omega, ?_, e1, q _ _ _ _ h e2 ⟨h2.eraseIdx _, Nat.le_trans (len_erase _ _) h3⟩⟩
        have hl : i.toNat < zs.length := (List.getElem?_eq_some_iff.mp e1).1
        exact seqIndex_of h0 (by omega)
    · exact h.elim
  · exact h.elim
/-! ### stores by place, by key -/
def stD : PyData → PyData → PyData → (PyData → Prop) → Prop
  | .list ds, .int k, y, R => match ixN ds.length k with
    | some j => R (.list (ds.set j y))
    | none => False
  | .dict es, .str k, y, R => es.length < 1000 ∧ R (.dict (dput es k y))
  | _, _, _, _ => False
def rSetD : TSet := fun o i v H Q => ∃ a H', o = .ref a ∧ DPut H a i v H' ∧ Q H'
theorem set_dict (hu : X.A.units + 1 < cLine) : PSet X rSetD := by
  intro pins s σ H o i v ov iv u Q I ro ri rv h
  obtain ⟨a, H', rfl, g, q⟩ := h
  cases ro
  exact d_setItem hu I g ri rv fun s4 I4 => ⟨H', I4, q⟩
theorem PSet.or {t t' : TSet} (h : PSet X t) (h' : PSet X t') : PSet X (fun o i v H Q => t o i v H Q ∨ t' o i v H Q) := by
  intro pins s σ H o i v ov iv u Q I ro ri rv q
  rcases q with q | q
  · exact h pins s σ H o i v ov iv u Q I ro ri rv q
  · exact h' pins s σ H o i v ov iv u Q I ro ri rv q
def mStore (i : Nat) (tk te : ME) : MS := fun D ρ => te ρ fun d ρ1 => match slot ρ1 i with
  | .un => False
  | _ => tk ρ1 fun k ρ2 => match slot ρ2 i with
    | .own c => stD c k d fun c' => D.nx (ρ2.set i (.own c'))
    | .inn a c => stD c k d fun c' => D.nx (ρ2.set i (.inn a c'))
    | _ => False
theorem st_low {F H : Hp} {a : Addr} {c k d : PyData} {y v : V} {R : PyData → Prop} {Q : Hp → Prop} (hc : Cont X.K F H a c) (hk : Rep X.K F y k) (hd : Rep X.K F v d) (h : stD c k d R) (q : ∀ c' o', R c' → ContO X.K F o' c' → Q (upd H a o')) : rSetL (.ref a) y v H Q ∨ rSetD (.ref a) y v H Q := by
  unfold stD at h
  split at h
  · cases hk
    split at h
    · rename_i j e
      obtain ⟨zs, h1, h2, h3⟩ := hc
      exact .inl ⟨a, zs, _, j, rfl, rfl, h1, by rw [h2.length]; exact e, q _ _ h ⟨h2.set hd j, by rw [List.length_set]; exact h3⟩⟩
    · exact h.elim
  · rename_i es n
    cases hk
    obtain ⟨kvs, h1, h2⟩ := hc
    exact .inr ⟨a, _, rfl, DPut.k (k := Sum.inr n) h1 (by rw [h2.length]; exact small1000 (Nat.le_of_lt h.1)), q _ (.dK (putK kvs (Sum.inr n) v)) h.2 (h2.put hd)⟩
  · exact h.elim
theorem gs_store {k : Expr} (hu : X.A.units + 64 < cLine) (he : PE X e (LE X W te)) (ho : PE X (.Name x p) (tVar i)) (hk : PE X k (LE X W tk)) {p2 : Pos}
    (ha : ∀ v, assign (.Subscript (.Name x p) k p2) X.env v = (do
      let ov ← holding [v] (eval (.Name x p) X.env)
      let iv ← holding [v, ov] (eval k X.env)
      standAt p2
      holding [v, ov, iv] (setItem ov iv v)
      release [v, ov, iv] []) := by intro _; rfl) (hs : swapsWithSole [.Subscript (.Name x p) k p2] e pos.line X.env = pure false := by rfl) (hw : swappedStores [.Subscript (.Name x p) k p2] e X.env = pure none := by rfl)
    (h1 : (assignEach [.Subscript (.Name x p) k p2] X.env).map (·.2) = [assign (.Subscript (.Name x p) k p2) X.env] := by rfl) : PS X (.Assign [.Subscript (.Name x p) k p2] e pos) (LS X W (mStore i tk te)) := by
  refine PSw (ps_asg he (pg_sub ho hk (PSet.or set_list (set_dict (by omega))) ha) hs hw h1) ?_
  rintro D σ H ⟨Z, F, ρ, DR, S, w, t, q⟩
  refine ⟨Z, F, ρ, _, S, w, t, fun d ρ1 v F1 H1 t1 sf1 S1 r1 => ?_⟩
  have t1' : slot ρ1 i ≠ .un ∧ tk ρ1 fun k ρ2 => match slot ρ2 i with
      | .own c => stD c k d fun c' => DR.nx (ρ2.set i (.own c'))
      | .inn a c => stD c k d fun c' => DR.nx (ρ2.set i (.inn a c'))
      | _ => False := by
    split at t1
    · exact t1.elim
    · rename_i h
      exact ⟨h, t1⟩
  obtain ⟨hn, t1⟩ := t1'
  obtain ⟨b, hb⟩ := (S1.sl i _ (slot_some rfl hn)).val hn
  refine ⟨b, at_some hb, Z, F1, ρ1, _, S1, w.mono sf1, t1, fun kd ρ2 y F2 H2 t2 sf2 S2 r2 => ?_⟩
  split at t2
  · rename_i c e'
    have hi := slot_some e' (fun q => nomatch q)
    obtain ⟨a, e1, z, f, ct⟩ := S2.sl i _ hi
    rw [hb] at e1; cases e1
    exact st_low ct r2 (r1.mono sf2) t2 fun c' o' hr co => q.nx _ σ F2 _ hr (sf1.trans sf2) (S2.changeOwn hi hb co)
  · rename_i a c e'
    have hi := slot_some e' (fun q => nomatch q)
    obtain ⟨e1, z, f, ct⟩ := S2.sl i _ hi
    rw [hb] at e1; cases e1
    exact st_low ct r2 (r1.mono sf2) t2 fun c' o' hr co => q.nx _ σ F2 _ hr (sf1.trans sf2) (S2.changeInn hi co)
  · exact t2.elim
end
end G


set_option Elab.async false
set_option maxRecDepth 100000
set_option maxHeartbeats 1000000
/-! GV12: calls of defs, a def's promise, several targets, d.get. -/
namespace G
open PySem PySem.Spec PyProof.Rows L2
abbrev PSp := List Sl → (PyData → List Sl → Prop) → (Str → Prop) → Prop
/-- the answer is data -/
def spD (K : PySem.W.Frag) (mg : Str → Option Value) (n : Nat) (t : PSp) : Sp := fun vs H Q E => ∃ Z F ss R RE, vs.length = n ∧ Stt K Z F H (vs.map some) ss ∧ t ss R RE ∧ WOk mg ⟨RE, E⟩ Z F ∧
  ∀ r ss' v F' H', R r ss' → Same F F' → Stt K Z F' H' (vs.map some) ss' → Rep K F' v r → Q v H'
/-- the answer is a new container -/
def spN (K : PySem.W.Frag) (mg : Str → Option Value) (n : Nat) (t : PSp) : Sp := fun vs H Q E => ∃ Z F ss R RE, vs.length = n ∧ Stt K Z F H (vs.map some) ss ∧ t ss R RE ∧ WOk mg ⟨RE, E⟩ Z F ∧
  ∀ r ss' a F' H', R r ss' → Same F F' → Stt K Z F' H' (vs.map some) ss' → F' a = none → Z a = none → Cont K F' H' a r → (∀ i s, ss'[i]? = some s → ¬ mutA (at_ (vs.map some) i) s a) → Q (.ref a) H'
def outZ (F H : Hp) (p : Option Addr) : Hp := fun b => if F b = none ∧ some b ≠ p then H b else none
theorem outZ_some {F H : Hp} {p : Option Addr} {b : Addr} {o : HO} : outZ F H p b = some o ↔ F b = none ∧ some b ≠ p ∧ H b = some o := by
  unfold outZ
  by_cases h : F b = none ∧ some b ≠ p
  · rw [if_pos h]; exact ⟨fun e => ⟨h.1, h.2, e⟩, fun e => e.2.2⟩
  · rw [if_neg h]; exact ⟨fun e => by simp at e, fun e => (h ⟨e.1, e.2.1⟩).elim⟩
section
variable {K : PySem.W.Frag} {Z F H : Hp} {σ : L2.St} {ρ : Ms}
theorem outZ_zf {p : Option Addr} : ∀ a, outZ F H p a ≠ none → F a = none := fun a h => by
  cases e : outZ F H p a with
  | none => exact (h e).elim
  | some o => exact (outZ_some.mp e).1
theorem outZ_zh {p : Option Addr} : Same (outZ F H p) H := fun a o e => (outZ_some.mp e).2.2
theorem Stt.zOut (S : Stt K Z F H σ ρ) : Same Z (outZ F H none) := fun a o e => outZ_some.mpr ⟨S.zf a (by rw [e]; simp), by simp, S.zh a o e⟩
theorem Stt.zOutA (S : Stt K Z F H σ ρ) {a : Addr} (za : Z a = none) : Same Z (outZ F H (some a)) := fun b o e => by
  refine outZ_some.mpr ⟨S.zf b (by rw [e]; simp), ?_, S.zh b o e⟩
  intro z
  cases z
  rw [za] at e
  cases e
theorem at_map {vs : List V} {j : Nat} {v : V} (h : vs[j]? = some v) : at_ (vs.map some) j = some v := by
  unfold at_; rw [List.getElem?_map, h]; rfl
/-- what a callee gets: data alone -/
theorem Stt.callee (S : Stt K Z F H σ ρ) {vs : List V} {ds : List PyData} (r : RepAll K F vs ds) : Stt K (outZ F H none) F H (vs.map some) (ds.map Sl.dat) := by
  refine ⟨S.fh, outZ_zh, outZ_zf, by rw [List.length_map, List.length_map, r.length], fun i s e => ?_, fun i j s t a e1 e2 m1 m2 => ?_⟩
  · rw [List.getElem?_map] at e
    cases e' : ds[i]? with
    | none => rw [e'] at e; cases e
    | some d =>
      rw [e'] at e; cases e
      obtain ⟨v, h1, h2⟩ := r.get e'
      exact ⟨v, at_map h1, h2⟩
  · rw [List.getElem?_map] at e1
    cases e' : ds[i]? with
    | none => rw [e'] at e1; cases e1
    | some d => rw [e'] at e1; cases e1; exact (noMut_dat m1).elim
/-- behind the call -/
theorem Stt.after (S : Stt K Z F H σ ρ) {F' H' : Hp} {τ : L2.St} {ss : Ms} (S' : Stt K (outZ F H none) F' H' τ ss) (sf : Same F F') : Stt K Z F' H' σ ρ := by
  refine ⟨S'.fh, S.zOut.trans S'.zh, fun a q => S'.zf a fun z => q (S.zOut.free z), S.len, fun i s e => ?_, S.ap⟩
  have key : ∀ a, mutA (at_ σ i) s a → outZ F H none a ≠ none := fun a m z => by
    obtain ⟨_, f, o, h⟩ := S.mut e m
    have := outZ_some.mpr ⟨f, (by simp : some a ≠ none), h⟩
    rw [this] at z; cases z
  refine (S.sl i s e).move sf (fun a o m q => ?_) (fun a m => (S.mut e m).1) fun a m => S'.zf a (key a m)
  obtain ⟨_, f, _⟩ := S.mut e m
  exact S'.zh a o (outZ_some.mpr ⟨f, by simp, q⟩)
theorem WOk.more {mg : Str → Option Value} {W : Wish} {Z Z' F : Hp} (h : WOk mg W Z F) (e : Same Z Z') : WOk mg W Z' F :=
  fun n C F' H' r m sf sw zh zf => h n C F' H' r m sf sw (e.trans zh) fun a q => zf a fun z => q (e.free z)
end
def mCall (t : PSp) (RE : Str → Prop) (ta : MA) : ME := fun ρ R => ta ρ fun ds ρ1 => t (ds.map Sl.dat) (fun r _ => R r ρ1) RE
section
variable {X : Cx} {W : Wish} {CX : CXT} {k : Nat} {f : Addr} {fd : FuncData} {ps : List Str} {x : Str} {p pos : Pos} {e : Expr} {es : List Expr} {t : PSp} {ta : MA} {n m i : Nat}
theorem g_call (F : FnOk X.prog X.w X.K X.mg X.base CX k f fd ps (spD X.K X.mg n t)) (hr : Room k X.A) (hg : Gl X x) (hm : X.mg x = some (.ref f)) (hk : PySem.W.keepIn X.K (.ref f) = true) (hb : Binds X.K fd ps []) (hx : Passes CX X W.E)
    (ha : PA X (e :: es) (LA X W n ta)) (hdb : (x == ("__debug__" : Str)) = false := by decide) (he : starEach (e :: es) X.env = (false, eval e X.env) :: starEach es X.env := by rfl) (hpl : (backTo pos (starEach es X.env)).any (·.1) = false := by rfl) :
    PE X (.Call (.Name x p) (e :: es) [] pos) (LE X W (mCall t W.RE ta)) := by
  refine PEw (pe_call F hr hg hm hk hb .nil hx ha hdb he hpl) ?_
  rintro σ H Q ⟨Z, F, ρ, R, S, w, t, q⟩
  refine ⟨Z, F, ρ, _, S, w, t, fun ds ρ1 vs F1 H1 t1 sf1 S1 r1 hl => ?_⟩
  dsimp only
  rw [List.append_nil]
  refine ⟨outZ F1 H1 none, F1, ds.map Sl.dat, _, W.RE, by rw [r1.length, hl], S1.callee r1, t1, (w.mono sf1).more S1.zOut, fun r ss' v F' H' hr sf' S' rv => ?_⟩
  exact q r ρ1 v F' H' hr (sf1.trans sf') (S1.after S' sf') rv
theorem gn_call (F : FnOk X.prog X.w X.K X.mg X.base CX k f fd ps (spN X.K X.mg n t)) (hr : Room k X.A) (hg : Gl X x) (hm : X.mg x = some (.ref f)) (hk : PySem.W.keepIn X.K (.ref f) = true) (hb : Binds X.K fd ps []) (hx : Passes CX X W.E)
    (ha : PA X (e :: es) (LA X W n ta)) (hdb : (x == ("__debug__" : Str)) = false := by decide) (he : starEach (e :: es) X.env = (false, eval e X.env) :: starEach es X.env := by rfl) (hpl : (backTo pos (starEach es X.env)).any (·.1) = false := by rfl) :
    PE X (.Call (.Name x p) (e :: es) [] pos) (LN X W (mCall t W.RE ta)) := by
  refine PEw (pe_call F hr hg hm hk hb .nil hx ha hdb he hpl) ?_
  rintro σ H Q ⟨Z, F, ρ, R, S, w, t, q⟩
  refine ⟨Z, F, ρ, _, S, w, t, fun ds ρ1 vs F1 H1 t1 sf1 S1 r1 hl => ?_⟩
  dsimp only
  rw [List.append_nil]
  refine ⟨outZ F1 H1 none, F1, ds.map Sl.dat, _, W.RE, by rw [r1.length, hl], S1.callee r1, t1, (w.mono sf1).more S1.zOut, fun r ss' a F' H' hr sf' S' fa za c aw => ?_⟩
  have S2 := S1.after S' sf'
  refine q r ρ1 a F' H' hr (sf1.trans sf') S2 fa (S1.zOut.free za) c fun i s e m => ?_
  obtain ⟨_, f1, o, h1⟩ := S1.mut e m
  have z1 := outZ_some.mpr ⟨f1, (by simp : some a ≠ none), h1⟩
  rw [za] at z1; cases z1

/-! ### one argument is a thing that is changed (or handed on as it is) -/
def lAr (K : PySem.W.Frag) (mg : Str → Option Value) (W : Wish) (n p i : Nat) (t : MA) : TA := fun σ H Q => ∃ Z F ρ R, Stt K Z F H σ ρ ∧ WOk mg W Z F ∧ t ρ R ∧
  ∀ ds ρ' vs F' H', R ds ρ' → Same F F' → Stt K Z F' H' σ ρ' → ds.length = n → vs.length = n → p < n → (∀ (j : Nat) d, j ≠ p → ds[j]? = some d → ∃ v, vs[j]? = some v ∧ Rep K F' v d) → (∃ v, vs[p]? = some v ∧ at_ σ i = some v) → Q vs H'
def mHere (i : Nat) (t : MA) : MA := fun ρ R => match slot ρ i with
  | .un => False
  | _ => t ρ fun ds ρ1 => R (.none :: ds) ρ1
theorem gar_here {pp : Pos} (hv : PE X (.Name x pp) (tVar i)) (hr : PA X es (LA X W n ta)) (hs : starEach (.Name x pp :: es) X.env = (false, eval (.Name x pp) X.env) :: starEach es X.env := by rfl) : PA X (.Name x pp :: es) (lAr X.K X.mg W (n + 1) 0 i (mHere i ta)) := by
  refine PAw (pa_cons hv hr hs) ?_
  rintro σ H Q ⟨Z, F, ρ, R, S, w, t, q⟩
  have t' : slot ρ i ≠ .un ∧ ta ρ fun ds ρ1 => R (.none :: ds) ρ1 := by
    unfold mHere at t
    split at t
    · exact t.elim
    · rename_i h; exact ⟨h, t⟩
  obtain ⟨hn, t⟩ := t'
  obtain ⟨v, hv⟩ := (S.sl i _ (slot_some rfl hn)).val hn
  refine ⟨v, at_some hv, Z, F, ρ, _, S, w, t, fun ds ρ1 vs F1 H1 t1 sf1 S1 r1 hl => ?_⟩
  refine q (.none :: ds) ρ1 (v :: vs) F1 H1 t1 sf1 S1 (by rw [List.length_cons, hl]) (by rw [List.length_cons, r1.length, hl]) (Nat.succ_pos _) (fun j d hj e => ?_) ⟨v, rfl, hv⟩
  cases j with
  | zero => exact (hj rfl).elim
  | succ j =>
    obtain ⟨u, h1, h2⟩ := r1.get (show ds[j]? = some d by simpa using e)
    exact ⟨u, by simpa using h1, h2⟩
theorem gar_next {te : ME} (ha : PE X e (LE X W te)) (hr : PA X es (lAr X.K X.mg W n m i ta)) (hs : starEach (e :: es) X.env = (false, eval e X.env) :: starEach es X.env := by rfl) : PA X (e :: es) (lAr X.K X.mg W (n + 1) (m + 1) i (mCons te ta)) := by
  refine PAw (pa_cons ha hr hs) ?_
  rintro σ H Q ⟨Z, F, ρ, R, S, w, t, q⟩
  refine ⟨Z, F, ρ, _, S, w, t, fun d ρ1 v F1 H1 t1 sf1 S1 r1 => ?_⟩
  refine ⟨Z, F1, ρ1, _, S1, w.mono sf1, t1, fun ds ρ2 vs F2 H2 t2 sf2 S2 l1 l2 hp hd hh => ?_⟩
  refine q (d :: ds) ρ2 (v :: vs) F2 H2 t2 (sf1.trans sf2) S2 (by rw [List.length_cons, l1]) (by rw [List.length_cons, l2]) (Nat.succ_lt_succ hp) (fun j d' hj e => ?_) ?_
  · cases j with
    | zero => simp at e; subst e; exact ⟨v, rfl, r1.mono sf2⟩
    | succ j =>
      obtain ⟨u, h1, h2⟩ := hd j d' (fun z => hj (by rw [z])) (by simpa using e)
      exact ⟨u, by simpa using h1, h2⟩
  · obtain ⟨u, h1, h2⟩ := hh
    exact ⟨u, by simpa using h1, h2⟩
def mCallR (t : PSp) (RE : Str → Prop) (p i : Nat) (ta : MA) : ME := fun ρ R => ta ρ fun ds ρ1 => match slot ρ1 i with
  | .un => False
  | .own d => ∀ a, t ((ds.map Sl.dat).set p (.inn a d)) (fun r ss' => match slot ss' p with
    | .inn _ d' => R r (ρ1.set i (.own d'))
    | _ => False) RE
  | .inn a d => t ((ds.map Sl.dat).set p (.inn a d)) (fun r ss' => match slot ss' p with
    | .inn _ d' => R r (ρ1.set i (.inn a d'))
    | _ => False) RE
  | .ob a b d => t ((ds.map Sl.dat).set p (.ob a b d)) (fun r ss' => match slot ss' p with
    | .ob _ b' d' => b' = b ∧ R r (ρ1.set i (.ob a b d'))
    | _ => False) RE
  | s => t ((ds.map Sl.dat).set p s) (fun r _ => R r ρ1) RE
section
variable {K : PySem.W.Frag} {Z F H : Hp} {σ : L2.St} {ρ : Ms} {vs : List V} {ds : List PyData} {j0 : Nat}
/-- what a callee gets: data, and at one place s -/
theorem Stt.calleeR (S : Stt K Z F H σ ρ) {s : Sl} {z : Option Addr} {v : V} (hl : ds.length = vs.length) (hp : j0 < vs.length) (hd : ∀ (j : Nat) d, j ≠ j0 → ds[j]? = some d → ∃ v, vs[j]? = some v ∧ Rep K F v d) (hv : vs[j0]? = some v) (hs : SlOk K (outZ F H z) F H (some v) s) :
    Stt K (outZ F H z) F H (vs.map some) ((ds.map Sl.dat).set j0 s) := by
  have key : ∀ j t, ((ds.map Sl.dat).set j0 s)[j]? = some t → (j = j0 ∧ t = s) ∨ (j ≠ j0 ∧ ∃ d, ds[j]? = some d ∧ t = .dat d) := fun j t e => by
    by_cases hj : j0 = j
    · subst hj
      rw [List.getElem?_set_self (by rw [List.length_map]; omega)] at e
      exact .inl ⟨rfl, (Option.some.inj e).symm⟩
    · rw [List.getElem?_set_ne hj, List.getElem?_map] at e
      cases e' : ds[j]? with
      | none => rw [e'] at e; cases e
      | some d => rw [e'] at e; exact .inr ⟨fun z => hj z.symm, d, rfl, (Option.some.inj e).symm⟩
  refine ⟨S.fh, outZ_zh, outZ_zf, by rw [List.length_set, List.length_map, List.length_map, hl], fun j t e => ?_, fun j k t u a e1 e2 m1 m2 => ?_⟩
  · rcases key j t e with ⟨rfl, rfl⟩ | ⟨hj, d, e', rfl⟩
    · rw [at_map hv]; exact hs
    · obtain ⟨u, h1, h2⟩ := hd j d hj e'
      exact ⟨u, at_map h1, h2⟩
  · rcases key j t e1 with ⟨a1, _⟩ | ⟨_, d, _, rfl⟩
    · rcases key k u e2 with ⟨a2, _⟩ | ⟨_, d, _, rfl⟩
      · rw [a1, a2]
      · exact (noMut_dat m2).elim
    · exact (noMut_dat m1).elim
/-- behind the call: what was handed over is given back -/
theorem Stt.afterR (S : Stt K Z F H σ ρ) {i : Nat} {s s' : Sl} {a : Addr} {F' H' : Hp} {τ : L2.St} {ss : Ms} (hi : ρ[i]? = some s) (m : mutA (at_ σ i) s a) (S' : Stt K (outZ F H (some a)) F' H' τ ss) (sf : Same F F') (fa : F' a = none)
    (ok : ∀ Z' , Z' a = none → SlOk K Z' F' H' (at_ σ i) s') (only : ∀ b, mutA (at_ σ i) s' b → b = a) : Stt K Z F' H' σ (ρ.set i s') := by
  obtain ⟨za, f0, _⟩ := S.mut hi m
  have hil : i < ρ.length := (List.getElem?_eq_some_iff.mp hi).1
  have zo : Same Z (outZ F H (some a)) := S.zOutA za
  have key : ∀ j t, (ρ.set i s')[j]? = some t → (j = i ∧ t = s') ∨ (j ≠ i ∧ ρ[j]? = some t) := fun j t e => by
    by_cases hj : i = j
    · subst hj
      rw [List.getElem?_set_self hil] at e
      exact .inl ⟨rfl, (Option.some.inj e).symm⟩
    · rw [List.getElem?_set_ne hj] at e
      exact .inr ⟨fun z => hj z.symm, e⟩
  refine ⟨S'.fh, zo.trans S'.zh, fun b q => S'.zf b fun z => q (zo.free z), by rw [List.length_set]; exact S.len, fun j t e => ?_, fun j k t u b e1 e2 m1 m2 => ?_⟩
  · rcases key j t e with ⟨rfl, rfl⟩ | ⟨hj, e⟩
    · exact ok Z za
    · have ne : ∀ b, mutA (at_ σ j) t b → some b ≠ some a := by
        intro b m' z
        cases z
        exact hj (S.ap j i t s a e hi m' m)
      refine (S.sl j t e).move sf (fun b o m' q => ?_) (fun b m' => (S.mut e m').1) fun b m' => ?_
      · exact S'.zh b o (outZ_some.mpr ⟨(S.mut e m').2.1, ne b m', q⟩)
      · obtain ⟨_, f, o, h⟩ := S.mut e m'
        exact S'.zf b (by rw [outZ_some.mpr ⟨f, ne b m', h⟩]; simp)
  · rcases key j t e1 with ⟨a1, b1⟩ | ⟨a1, f1⟩ <;> rcases key k u e2 with ⟨a2, b2⟩ | ⟨a2, f2⟩
    · rw [a1, a2]
    · rw [b1, a1] at m1
      rw [a1]
      exact S.ap i k s u a hi f2 m (only b m1 ▸ m2)
    · rw [b2, a2] at m2
      rw [a2]
      exact S.ap j i t s a f1 hi (only b m2 ▸ m1) m
    · exact S.ap j k t u b f1 f2 m1 m2
end
theorem slot_set : ∀ {ρ : Ms} {j : Nat} {s : Sl}, j < ρ.length → slot (ρ.set j s) j = s
  | [], _, _, h => by simp at h
  | _ :: _, 0, _, _ => rfl
  | _ :: r, j + 1, s, h => slot_set (ρ := r) (by simpa using h)
theorem callR_low {sp : PSp → Sp} {σ : L2.St} {H : Hp} {Z F : Hp} {ρ : Ms} {R : PyData → Ms → Prop} {Q : VK}
    (S : Stt X.K Z F H σ ρ) (w : WOk X.mg W Z F) (ht : mCallR t W.RE m i ta ρ R) (hsp : sp = spD X.K X.mg n)
    (q : ∀ d ρ' v F' H', R d ρ' → Same F F' → Stt X.K Z F' H' σ ρ' → Rep X.K F' v d → Q v H') : lAr X.K X.mg W n m i ta σ H fun vs H1 => sp t (vs ++ []) H1 Q W.E := by
  subst hsp
  refine ⟨Z, F, ρ, _, S, w, ht, fun ds ρ1 vs F1 H1 t1 sf1 S1 l1 l2 hp hd ⟨v, hv, hσ⟩ => ?_⟩
  dsimp only
  rw [List.append_nil]
  have hl : ds.length = vs.length := by rw [l1, l2]
  have hp' : m < vs.length := by rw [l2]; exact hp
  split at t1
  · exact t1.elim
  · rename_i d e'
    have hi := slot_some e' (fun q => nomatch q)
    obtain ⟨a, e1, z, f, c⟩ := S1.sl i _ hi
    rw [hσ] at e1; cases e1
    have ma : mutA (at_ σ i) (.own d) a := .inl ⟨hσ, .inl ⟨d, rfl⟩⟩
    have za : outZ F1 H1 (some a) a = none := by
      cases y : outZ F1 H1 (some a) a with
      | none => rfl
      | some o => exact ((outZ_some.mp y).2.1 rfl).elim
    have zo : Same Z (outZ F1 H1 (some a)) := S1.zOutA z
    refine ⟨outZ F1 H1 (some a), F1, _, _, W.RE, l2, S1.calleeR (s := .inn a d) hl hp' hd hv ⟨rfl, za, f, c⟩, t1 a, (w.mono sf1).more zo, fun r ss' v' F' H' hr sf' S' rv => ?_⟩
    split at hr
    · rename_i b d' e2
      obtain ⟨g1, g2, g3, g4⟩ := S'.sl m _ (slot_some e2 (fun q => nomatch q))
      rw [at_map hv] at g1; cases g1
      exact q r _ v' F' H' hr (sf1.trans sf') (S1.afterR hi ma S' sf' g3 (fun Z' hz => ⟨a, hσ, hz, g3, g4⟩) fun b y => by have y := mut_own y; rw [hσ] at y; cases y; rfl) rv
    · exact hr.elim
  · rename_i a d e'
    have hi := slot_some e' (fun q => nomatch q)
    obtain ⟨e1, z, f, c⟩ := S1.sl i _ hi
    rw [hσ] at e1; cases e1
    have ma : mutA (at_ σ i) (.inn a d) a := .inl ⟨hσ, .inr ⟨a, d, rfl⟩⟩
    have za : outZ F1 H1 (some a) a = none := by
      cases y : outZ F1 H1 (some a) a with
      | none => rfl
      | some o => exact ((outZ_some.mp y).2.1 rfl).elim
    have zo : Same Z (outZ F1 H1 (some a)) := S1.zOutA z
    refine ⟨outZ F1 H1 (some a), F1, _, _, W.RE, l2, S1.calleeR (s := .inn a d) hl hp' hd hv ⟨rfl, za, f, c⟩, t1, (w.mono sf1).more zo, fun r ss' v' F' H' hr sf' S' rv => ?_⟩
    split at hr
    · rename_i b d' e2
      obtain ⟨g1, g2, g3, g4⟩ := S'.sl m _ (slot_some e2 (fun q => nomatch q))
      rw [at_map hv] at g1; cases g1
      exact q r _ v' F' H' hr (sf1.trans sf') (S1.afterR hi ma S' sf' g3 (fun Z' hz => ⟨hσ, hz, g3, g4⟩) fun b y => by have y := mut_inn y; rw [hσ] at y; cases y; rfl) rv
    · exact hr.elim
  · rename_i a b d e'
    have hi := slot_some e' (fun q => nomatch q)
    obtain ⟨e1, hx, z, f, c⟩ := S1.sl i _ hi
    rw [hσ] at e1; cases e1
    have ma : mutA (at_ σ i) (.ob a b d) b := .inr ⟨a, d, rfl⟩
    have za : outZ F1 H1 (some b) b = none := by
      cases y : outZ F1 H1 (some b) b with
      | none => rfl
      | some o => exact ((outZ_some.mp y).2.1 rfl).elim
    refine ⟨outZ F1 H1 (some b), F1, _, _, W.RE, l2, S1.calleeR (s := .ob a b d) hl hp' hd hv ⟨rfl, hx, za, f, c⟩, t1, (w.mono sf1).more (S1.zOutA z), fun r ss' v' F' H' hr sf' S' rv => ?_⟩
    split at hr
    · rename_i a' b' d' e2
      obtain ⟨rfl, hr⟩ := hr
      obtain ⟨g1, g2, g3, g4, g5⟩ := S'.sl m _ (slot_some e2 (fun q => nomatch q))
      obtain ⟨C, dx, hC, hx⟩ := hx
      exact q r _ v' F' H' hr (sf1.trans sf') (S1.afterR hi ma S' sf' g4 (fun Z' hz => ⟨hσ, ⟨C, dx, hC, sf' _ _ hx⟩, hz, g4, g5⟩) fun c y => mut_ob y) rv
    · exact hr.elim
  · rename_i n1 n2 n3 n4
    have hi := slot_some (ρ := ρ1) (i := i) rfl n1
    have nm : ∀ a, ¬ mutA (at_ σ i) (slot ρ1 i) a := fun a y => by
      rcases y with ⟨_, ⟨d, y⟩ | ⟨b, d, y⟩⟩ | ⟨b, d, y⟩
      · exact n2 d y
      · exact n3 b d y
      · exact n4 b a d y
    have ok := S1.sl i _ hi
    rw [hσ] at ok
    have ok2 : SlOk X.K (outZ F1 H1 none) F1 H1 (some v) (slot ρ1 i) := ok.move (Same.refl _) (fun _ _ _ q => q) (fun a m => by rw [← hσ] at m; exact (nm a m).elim) fun a m => by rw [← hσ] at m; exact (nm a m).elim
    refine ⟨outZ F1 H1 none, F1, _, _, W.RE, l2, S1.calleeR hl hp' hd hv ok2, t1, (w.mono sf1).more S1.zOut, fun r ss' v' F' H' hr sf' S' rv => ?_⟩
    exact q r ρ1 v' F' H' hr (sf1.trans sf') (S1.after S' sf') rv
theorem g_callR (F : FnOk X.prog X.w X.K X.mg X.base CX k f fd ps (spD X.K X.mg n t)) (hr : Room k X.A) (hg : Gl X x) (hm : X.mg x = some (.ref f)) (hk : PySem.W.keepIn X.K (.ref f) = true) (hb : Binds X.K fd ps []) (hx : Passes CX X W.E)
    (ha : PA X (e :: es) (lAr X.K X.mg W n m i ta)) (hdb : (x == ("__debug__" : Str)) = false := by decide) (he : starEach (e :: es) X.env = (false, eval e X.env) :: starEach es X.env := by rfl) (hpl : (backTo pos (starEach es X.env)).any (·.1) = false := by rfl) :
    PE X (.Call (.Name x p) (e :: es) [] pos) (LE X W (mCallR t W.RE m i ta)) := by
  refine PEw (pe_call F hr hg hm hk hb .nil hx ha hdb he hpl) ?_
  rintro σ H Q ⟨Z, F, ρ, R, S, w, t, q⟩
  exact callR_low S w t rfl q
end

/-! ### a def keeps its promise -/
/-- what stands in the parameters behind the body -/
def outs : List Sl → Ms → List Sl
  | [], _ => []
  | .inn a d :: ss, r :: ρ => (match r with
    | .inn b d' => if b = a then .inn a d' else .un
    | _ => .un) :: outs ss ρ
  | .ob a b d :: ss, r :: ρ => (match r with
    | .ob a' b' d' => if a' = a ∧ b' = b then .ob a b d' else .un
    | _ => .un) :: outs ss ρ
  | s :: ss, _ :: ρ => s :: outs ss ρ
  | s :: ss, [] => .un :: outs ss []
/-- no slot that is one's own among the arguments -/
def NoOwn (ss : List Sl) : Prop := ∀ d, Sl.own d ∉ ss
theorem outs_at : ∀ {ss : List Sl} {ρ : Ms} {i : Nat} {s : Sl}, (outs ss ρ)[i]? = some s → s = .un ∨ (ss[i]? = some s ∧ (∀ a d, s ≠ .inn a d) ∧ ∀ a b d, s ≠ .ob a b d) ∨ (∃ a d d', ss[i]? = some (.inn a d) ∧ ρ[i]? = some (.inn a d') ∧ s = .inn a d') ∨ ∃ a b d d', ss[i]? = some (.ob a b d) ∧ ρ[i]? = some (.ob a b d') ∧ s = .ob a b d'
  | [], _, _, _, h => by simp [outs] at h
  | t :: ss, [], i, s, h => by
    have h : ((Sl.un :: outs ss []) : List Sl)[i]? = some s := by cases t <;> exact h
    cases i with
    | zero => simp at h; exact .inl h.symm
    | succ i =>
      rcases outs_at (ss := ss) (ρ := []) (i := i) (by simpa using h) with z | z | ⟨a, d, d', z1, z2, z3⟩ | ⟨a, b, d, d', z1, z2, z3⟩
      · exact .inl z
      · exact .inr (.inl (by simpa using z))
      · simp at z2
      · simp at z2
  | t :: ss, r :: ρ, i + 1, s, h => by
    have h : (outs ss ρ)[i]? = some s := by cases t <;> simpa [outs] using h
    rcases outs_at h with z | z | ⟨a, d, d', z1, z2, z3⟩ | ⟨a, b, d, d', z1, z2, z3⟩
    · exact .inl z
    · exact .inr (.inl (by simpa using z))
    · exact .inr (.inr (.inl ⟨a, d, d', by simpa using z1, by simpa using z2, z3⟩))
    · exact .inr (.inr (.inr ⟨a, b, d, d', by simpa using z1, by simpa using z2, z3⟩))
  | t :: ss, r :: ρ, 0, s, h => by
    by_cases ht : ∃ a d, t = .inn a d
    · obtain ⟨a, d, rfl⟩ := ht
      simp [outs] at h
      split at h
      · rename_i b d'
        split at h
        · rename_i e
          subst e
          exact .inr (.inr (.inl ⟨b, d, d', rfl, rfl, h.symm⟩))
        · exact .inl h.symm
      · exact .inl h.symm
    · by_cases hu : ∃ a b d, t = .ob a b d
      · obtain ⟨a, b, d, rfl⟩ := hu
        simp [outs] at h
        split at h
        · rename_i a' b' d'
          split at h
          · rename_i e
            obtain ⟨rfl, rfl⟩ := e
            exact .inr (.inr (.inr ⟨_, _, d, d', rfl, rfl, h.symm⟩))
          · exact .inl h.symm
        · exact .inl h.symm
      · have e : outs (t :: ss) (r :: ρ) = t :: outs ss ρ := by
          cases t <;> first | rfl | exact (ht ⟨_, _, rfl⟩).elim | exact (hu ⟨_, _, _, rfl⟩).elim
        rw [e] at h
        simp at h
        subst h
        exact .inr (.inl ⟨rfl, fun a d z => ht ⟨a, d, z⟩, fun a b d z => hu ⟨a, b, d, z⟩⟩)
theorem outs_len : ∀ (ss : List Sl) (ρ : Ms), (outs ss ρ).length = ss.length
  | [], _ => rfl
  | t :: ss, [] => by cases t <;> simp [outs, outs_len ss []]
  | t :: ss, r :: ρ => by cases t <;> simp [outs, outs_len ss ρ]
section
variable {K : PySem.W.Frag} {Z F H F' H' : Hp} {σ : L2.St} {ρ : Ms} {vs : List V} {ss : List Sl} {N : List Str}
theorem start_at {i : Nat} {v : V} (h : vs[i]? = some v) : at_ (L2.start N vs) i = some v := by
  have hi : i < vs.length := (List.getElem?_eq_some_iff.mp h).1
  unfold at_ L2.start
  rw [List.getElem?_append_left (by simpa using hi), List.getElem?_map, h]
  rfl
theorem at_map' {i : Nat} (hi : i < vs.length) : at_ (vs.map some) i = vs[i]? := by
  unfold at_
  rw [List.getElem?_map, List.getElem?_eq_getElem hi]
  rfl
theorem Stt.start (S : Stt K Z F H (vs.map some) ss) (hl : vs.length ≤ N.length) : Stt K Z F H (L2.start N vs) (ss ++ List.replicate (N.length - ss.length) .un) := by
  have ls : vs.length = ss.length := by have := S.len; rwa [List.length_map] at this
  have key : ∀ i s, (ss ++ List.replicate (N.length - ss.length) Sl.un)[i]? = some s → s = .un ∨ (ss[i]? = some s ∧ at_ (L2.start N vs) i = at_ (vs.map some) i) := fun i s e => by
    by_cases hi : i < ss.length
    · rw [List.getElem?_append_left hi] at e
      have hv : i < vs.length := by omega
      refine .inr ⟨e, ?_⟩
      rw [at_map' hv]
      rw [start_at (List.getElem?_eq_getElem hv), List.getElem?_eq_getElem hv]
    · rw [List.getElem?_append_right (by omega), List.getElem?_replicate] at e
      split at e
      · exact .inl (Option.some.inj e).symm
      · cases e
  refine ⟨S.fh, S.zh, S.zf, by unfold L2.start; rw [List.length_append, List.length_append, List.length_map, List.length_replicate, List.length_replicate]; omega, fun i s e => ?_, fun i j s t a e1 e2 m1 m2 => ?_⟩
  · rcases key i s e with rfl | ⟨e, z⟩
    · trivial
    · rw [z]; exact S.sl i s e
  · rcases key i s e1 with rfl | ⟨e1, z1⟩
    · exact (noMut_un m1).elim
    · rcases key j t e2 with rfl | ⟨e2, z2⟩
      · exact (noMut_un m2).elim
      · rw [z1] at m1
        rw [z2] at m2
        exact S.ap i j s t a e1 e2 m1 m2
/-- behind the body, in the caller's words -/
theorem Stt.finish (S : Stt K Z F H (vs.map some) ss) (no : NoOwn ss) (S' : Stt K Z F' H' σ ρ) (sf : Same F F') : Stt K Z F' H' (vs.map some) (outs ss ρ) ∧ ∀ i s a, (outs ss ρ)[i]? = some s → mutA (at_ (vs.map some) i) s a → ∃ t, ρ[i]? = some t ∧ mutA (at_ σ i) t a := by
  have key : ∀ i s a, (outs ss ρ)[i]? = some s → mutA (at_ (vs.map some) i) s a → ∃ t, ρ[i]? = some t ∧ mutA (at_ σ i) t a := fun i s a e m => by
    rcases outs_at e with rfl | ⟨e, n, n2⟩ | ⟨b, d, d', e1, e2, rfl⟩ | ⟨b, c, d, d', e1, e2, rfl⟩
    · exact (noMut_un m).elim
    · obtain ⟨_, ⟨d, rfl⟩ | ⟨b, d, rfl⟩⟩ | ⟨b, d, rfl⟩ := m
      · exact (no d (List.mem_of_getElem? e)).elim
      · exact (n b d rfl).elim
      · exact (n2 _ _ _ rfl).elim
    · have h1 := (S.sl i _ e1).1
      have h2 := (S'.sl i _ e2).1
      have z := mut_inn m
      rw [h1] at z; cases z
      exact ⟨_, e2, .inl ⟨h2, .inr ⟨_, _, rfl⟩⟩⟩
    · cases mut_ob m
      exact ⟨_, e2, .inr ⟨_, _, rfl⟩⟩
  refine ⟨⟨S'.fh, S'.zh, S'.zf, by rw [outs_len]; exact S.len, fun i s e => ?_, fun i j s t a e1 e2 m1 m2 => ?_⟩, key⟩
  · rcases outs_at e with rfl | ⟨e', n, n2⟩ | ⟨b, d, d', e1, e2, rfl⟩ | ⟨b, c, d, d', e1, e2, rfl⟩
    · trivial
    · refine (S.sl i s e').move sf (fun a o m _ => ?_) (fun a m => (S.mut e' m).1) fun a m => ?_
      · obtain ⟨_, ⟨d, rfl⟩ | ⟨b, d, rfl⟩⟩ | ⟨b, d, rfl⟩ := m
        · exact (no d (List.mem_of_getElem? e')).elim
        · exact (n b d rfl).elim
        · exact (n2 _ _ _ rfl).elim
      · obtain ⟨_, ⟨d, rfl⟩ | ⟨b, d, rfl⟩⟩ | ⟨b, d, rfl⟩ := m
        · exact (no d (List.mem_of_getElem? e')).elim
        · exact (n b d rfl).elim
        · exact (n2 _ _ _ rfl).elim
    · obtain ⟨_, g2, g3, g4⟩ := S'.sl i _ e2
      exact ⟨(S.sl i _ e1).1, g2, g3, g4⟩
    · obtain ⟨_, g1, g2, g3, g4⟩ := S'.sl i _ e2
      exact ⟨(S.sl i _ e1).1, g1, g2, g3, g4⟩
  · obtain ⟨t1, f1, m1⟩ := key i s a e1 m1
    obtain ⟨t2, f2, m2⟩ := key j t a e2 m2
    exact S'.ap i j t1 t2 a f1 f2 m1 m2
end
/-- a def that answers data, nothing raised. pre: what is known of the arguments; body: the meaning of its text -/
def bodyD (n : Nat) (N : List Str) (body : MS) : PSp := fun ss R _ => ss.length = n ∧ NoOwn ss ∧ body { nx := fun ρ' => R .none (outs ss ρ'), rt := fun d ρ' => R d (outs ss ρ') } (ss ++ List.replicate (N.length - n) .un)
def bodyN (n : Nat) (N : List Str) (body : MS) : PSp := fun ss R _ => ss.length = n ∧ NoOwn ss ∧ body { nx := fun _ => False, rt := fun _ _ => False, ro := fun d ρ' => R d (outs ss ρ') } (ss ++ List.replicate (N.length - n) .un)
section
variable {P : Program} {w : World} {K : PySem.W.Frag} {mg : Str → Option Value} {base : Heap}
theorem fn_okD {x qual : Str} {st : Stmt} {f : Addr} {fd : FuncData} {N ps : List Str} {k n : Nat} {body : MS} (F : Fun K x qual st f fd) (S : FnScope N ps (defScope st)) (hn : ps.length = n)
    (h : ∀ (cdv : Value) (A : Around) (outer : List Env) (s : Shared) (H : Hp) (E : XK), Room k (A.deeper (envOfC qual (defScope st) s.heap.objs.size f cdv)) →
      PSs (cxOf CX0 P w K mg base N qual (defScope st) f cdv A outer s H E).nox (defBody st) (lS K mg Wish.no body)) :
    FnOk P w K mg base CX0 (k + 1) f fd ps (spD K mg n (bodyD n N body)) := by
  refine F.ok S (fun vs H Q E ⟨Z, F, ss, R, RE, hl, _⟩ => hl.trans hn.symm) fun cdv A outer s H vs Q E hr hsp => ⟨_, h cdv A outer s H E hr, ?_⟩
  obtain ⟨Z, F, ss, R, RE, hl, St, ⟨lss, no, ht⟩, w, q⟩ := hsp
  have hpl : n ≤ N.length := by have := congrArg List.length S.pre; rw [List.length_take] at this; omega
  have Ss := St.start (N := N) (by omega)
  rw [lss] at Ss
  refine ⟨Z, F, _, _, Ss, WOk.no, ht, ⟨fun ρ' σ' F' H' a sf S' => ?_, fun d ρ' v σ' F' H' a sf S' r => ?_, fun _ _ _ _ _ _ a => a.elim, fun _ _ _ _ a => a.elim, fun _ _ _ _ a => a.elim⟩⟩
  · exact q _ _ _ F' H' a sf (St.finish no S' sf).1 .non
  · exact q _ _ v F' H' a sf (St.finish no S' sf).1 r
theorem fn_okN {x qual : Str} {st : Stmt} {f : Addr} {fd : FuncData} {N ps : List Str} {k n : Nat} {body : MS} (F : Fun K x qual st f fd) (S : FnScope N ps (defScope st)) (hn : ps.length = n)
    (h : ∀ (cdv : Value) (A : Around) (outer : List Env) (s : Shared) (H : Hp) (E : XK), Room k (A.deeper (envOfC qual (defScope st) s.heap.objs.size f cdv)) →
      PSs (cxOf CX0 P w K mg base N qual (defScope st) f cdv A outer s H E).nox (defBody st) (lS K mg Wish.no body)) :
    FnOk P w K mg base CX0 (k + 1) f fd ps (spN K mg n (bodyN n N body)) := by
  refine F.ok S (fun vs H Q E ⟨Z, F, ss, R, RE, hl, _⟩ => hl.trans hn.symm) fun cdv A outer s H vs Q E hr hsp => ⟨_, h cdv A outer s H E hr, ?_⟩
  obtain ⟨Z, F, ss, R, RE, hl, St, ⟨lss, no, ht⟩, w, q⟩ := hsp
  have hpl : n ≤ N.length := by have := congrArg List.length S.pre; rw [List.length_take] at this; omega
  have Ss := St.start (N := N) (by omega)
  rw [lss] at Ss
  refine ⟨Z, F, _, _, Ss, WOk.no, ht, ⟨fun _ _ _ _ a => a.elim, fun _ _ _ _ _ _ a => a.elim, fun d ρ' a σ' F' H' hr sf S' fa za c aw => ?_, fun _ _ _ _ a => a.elim, fun _ _ _ _ a => a.elim⟩⟩
  obtain ⟨S2, k2⟩ := St.finish no S' sf
  refine q _ _ a F' H' hr sf S2 fa za c fun i s e m => ?_
  obtain ⟨t, f1, m1⟩ := k2 i s a e m
  exact aw i t f1 m1
/-- a weaker promise -/
theorem fn_imp {f : Addr} {fd : FuncData} {ps : List Str} {k n : Nat} {t t' : PSp} (h : FnOk P w K mg base CX0 k f fd ps (spD K mg n t)) (i : ∀ ss R RE, t' ss R RE → t ss R RE) : FnOk P w K mg base CX0 k f fd ps (spD K mg n t') :=
  h.imp fun vs H Q E ⟨Z, F, ss, R, RE, hl, S, ht, q⟩ => ⟨Z, F, ss, R, RE, hl, S, i ss R RE ht, q⟩
theorem fn_impN {f : Addr} {fd : FuncData} {ps : List Str} {k n : Nat} {t t' : PSp} (h : FnOk P w K mg base CX0 k f fd ps (spN K mg n t)) (i : ∀ ss R RE, t' ss R RE → t ss R RE) : FnOk P w K mg base CX0 k f fd ps (spN K mg n t') :=
  h.imp fun vs H Q E ⟨Z, F, ss, R, RE, hl, S, ht, q⟩ => ⟨Z, F, ss, R, RE, hl, S, i ss R RE ht, q⟩
end
end G


set_option Elab.async false
set_option maxRecDepth 100000
set_option maxHeartbeats 1000000
/-! GV13: several targets at once; letters of a text; names of the top. -/
namespace G
open PySem PySem.Spec PyProof.Rows L2
section
variable {K : PySem.W.Frag} {Z Z1 F H : Hp} {σ τ : L2.St} {ρ ss : Ms}
/-- the slots laid anew -/
theorem Stt.rearr (S : Stt K Z F H σ ρ) {σ' : L2.St} {ρ' : Ms} (f : Nat → Nat) (l : σ'.length = ρ'.length) (h : ∀ i s, ρ'[i]? = some s → s = .un ∨ (ρ[f i]? = some s ∧ at_ σ' i = at_ σ (f i)))
    (inj : ∀ i j, i < ρ'.length → j < ρ'.length → f i = f j → i = j) : Stt K Z F H σ' ρ' := by
  refine ⟨S.fh, S.zh, S.zf, l, fun i s e => ?_, fun i j s t a e1 e2 m1 m2 => ?_⟩
  · rcases h i s e with rfl | ⟨q, z⟩
    · trivial
    · rw [z]; exact S.sl _ s q
  · have i1 : i < ρ'.length := (List.getElem?_eq_some_iff.mp e1).1
    have j1 : j < ρ'.length := (List.getElem?_eq_some_iff.mp e2).1
    rcases h i s e1 with rfl | ⟨q1, z1⟩
    · exact (noMut_un m1).elim
    · rcases h j t e2 with rfl | ⟨q2, z2⟩
      · exact (noMut_un m2).elim
      · rw [z1] at m1
        rw [z2] at m2
        exact inj i j i1 j1 (S.ap _ _ s t a q1 q2 m1 m2)
/-- less stands outside -/
theorem Stt.lessZ (S : Stt K Z1 F H σ ρ) (e : Same Z Z1) : Stt K Z F H σ ρ :=
  ⟨S.fh, e.trans S.zh, fun a q => S.zf a fun z => q (e.free z), S.len, fun i s h => (S.sl i s h).move (Same.refl _) (fun _ _ _ q => q) (fun a m => e.free (S.mut h m).1) (fun a m => (S.mut h m).2.1), S.ap⟩
/-- a held thing stands outside -/
theorem Stt.holdZ (S : Stt K Z F H σ ρ) {a : Addr} {o : HO} (fa : F a = none) (za : Z a = none) (ha : H a = some o) (aw : ∀ i s, ρ[i]? = some s → ¬ mutA (at_ σ i) s a) : Stt K (upd Z a o) F H σ ρ := by
  refine ⟨S.fh, fun b u e => ?_, fun b q => ?_, S.len, fun i s h => (S.sl i s h).move (Same.refl _) (fun _ _ _ q => q) (fun b m => ?_) (fun b m => (S.mut h m).2.1), S.ap⟩
  · by_cases hb : b = a
    · subst hb; rw [upd_same] at e; rw [ha, Option.some.inj e]
    · rw [upd_ne hb] at e; exact S.zh b u e
  · by_cases hb : b = a
    · subst hb; exact fa
    · rw [upd_ne hb] at q; exact S.zf b q
  · rw [upd_ne (fun (z : b = a) => by subst z; exact aw i s h m)]; exact (S.mut h m).1
/-- one slot more ahead of others -/
theorem Stt.insDat (S : Stt K Z F H (σ ++ τ) (ρ ++ ss)) (hl : σ.length = ρ.length) {v : V} {d : PyData} (r : Rep K F v d) : Stt K Z F H (σ ++ some v :: τ) (ρ ++ .dat d :: ss) := by
  have key : ∀ i s, (ρ ++ Sl.dat d :: ss)[i]? = some s → (i = ρ.length ∧ s = .dat d) ∨ ∃ j, (ρ ++ ss)[j]? = some s ∧ at_ (σ ++ some v :: τ) i = at_ (σ ++ τ) j ∧ ((i < ρ.length ∧ j = i) ∨ (ρ.length < i ∧ j + 1 = i)) := fun i s e => by
    rcases Nat.lt_trichotomy i ρ.length with h | h | h
    · refine .inr ⟨i, ?_, ?_, .inl ⟨h, rfl⟩⟩
      · rw [List.getElem?_append_left h] at e ⊢; exact e
      · unfold at_; rw [List.getElem?_append_left (by omega), List.getElem?_append_left (by omega)]
    · subst h
      rw [List.getElem?_append_right (Nat.le_refl _), Nat.sub_self] at e
      exact .inl ⟨rfl, (Option.some.inj e).symm⟩
    · obtain ⟨k, rfl⟩ : ∃ k, i = ρ.length + 1 + k := ⟨i - (ρ.length + 1), by omega⟩
      refine .inr ⟨ρ.length + k, ?_, ?_, .inr ⟨h, by omega⟩⟩
      · rw [List.getElem?_append_right (by omega)] at e ⊢
        rw [show ρ.length + 1 + k - ρ.length = k + 1 by omega, List.getElem?_cons_succ] at e
        rw [show ρ.length + k - ρ.length = k by omega]; exact e
      · unfold at_
        rw [List.getElem?_append_right (by omega), List.getElem?_append_right (by omega), show ρ.length + 1 + k - σ.length = k + 1 by omega, show ρ.length + k - σ.length = k by omega, List.getElem?_cons_succ]
  refine ⟨S.fh, S.zh, S.zf, by have := S.len; simp only [List.length_append, List.length_cons] at this ⊢; omega, fun i s e => ?_, fun i j s t a e1 e2 m1 m2 => ?_⟩
  · rcases key i s e with ⟨rfl, rfl⟩ | ⟨j, e', z, _⟩
    · refine ⟨v, ?_, r⟩
      unfold at_; rw [List.getElem?_append_right (by omega), ← hl, Nat.sub_self]; rfl
    · rw [z]; exact S.sl j s e'
  · rcases key i s e1 with ⟨_, rfl⟩ | ⟨i', e1', z1, c1⟩
    · exact (noMut_dat m1).elim
    · rcases key j t e2 with ⟨_, rfl⟩ | ⟨j', e2', z2, c2⟩
      · exact (noMut_dat m2).elim
      · rw [z1] at m1
        rw [z2] at m2
        have := S.ap _ _ s t a e1' e2' m1 m2
        omega
theorem Stt.insOwn (S : Stt K Z F H (σ ++ τ) (ρ ++ ss)) (hl : σ.length = ρ.length) {a : Addr} {d : PyData} (fa : F a = none) (za : Z a = none) (c : Cont K F H a d) (aw : ∀ i s, (ρ ++ ss)[i]? = some s → ¬ mutA (at_ (σ ++ τ) i) s a) : Stt K Z F H (σ ++ some (.ref a) :: τ) (ρ ++ .own d :: ss) := by
  have key : ∀ i s, (ρ ++ Sl.own d :: ss)[i]? = some s → (i = ρ.length ∧ s = .own d ∧ at_ (σ ++ some (.ref a) :: τ) i = some (.ref a)) ∨ ∃ j, (ρ ++ ss)[j]? = some s ∧ at_ (σ ++ some (.ref a) :: τ) i = at_ (σ ++ τ) j ∧ ((i < ρ.length ∧ j = i) ∨ (ρ.length < i ∧ j + 1 = i)) := fun i s e => by
    rcases Nat.lt_trichotomy i ρ.length with h | h | h
    · refine .inr ⟨i, ?_, ?_, .inl ⟨h, rfl⟩⟩
      · rw [List.getElem?_append_left h] at e ⊢; exact e
      · unfold at_; rw [List.getElem?_append_left (by omega), List.getElem?_append_left (by omega)]
    · subst h
      rw [List.getElem?_append_right (Nat.le_refl _), Nat.sub_self] at e
      refine .inl ⟨rfl, (Option.some.inj e).symm, ?_⟩
      unfold at_; rw [List.getElem?_append_right (by omega), ← hl, Nat.sub_self]; rfl
    · obtain ⟨k, rfl⟩ : ∃ k, i = ρ.length + 1 + k := ⟨i - (ρ.length + 1), by omega⟩
      refine .inr ⟨ρ.length + k, ?_, ?_, .inr ⟨h, by omega⟩⟩
      · rw [List.getElem?_append_right (by omega)] at e ⊢
        rw [show ρ.length + 1 + k - ρ.length = k + 1 by omega, List.getElem?_cons_succ] at e
        rw [show ρ.length + k - ρ.length = k by omega]; exact e
      · unfold at_
        rw [List.getElem?_append_right (by omega), List.getElem?_append_right (by omega), show ρ.length + 1 + k - σ.length = k + 1 by omega, show ρ.length + k - σ.length = k by omega, List.getElem?_cons_succ]
  refine ⟨S.fh, S.zh, S.zf, by have := S.len; simp only [List.length_append, List.length_cons] at this ⊢; omega, fun i s e => ?_, fun i j s t b e1 e2 m1 m2 => ?_⟩
  · rcases key i s e with ⟨_, rfl, z⟩ | ⟨j, e', z, _⟩
    · rw [z]; exact ⟨a, rfl, za, fa, c⟩
    · rw [z]; exact S.sl j s e'
  · rcases key i s e1 with ⟨c1, q1, z1⟩ | ⟨i', e1', z1, c1⟩ <;> rcases key j t e2 with ⟨c2, q2, z2⟩ | ⟨j', e2', z2, c2⟩
    · omega
    · rw [z1] at m1
      subst q1
      cases mut_own m1
      rw [z2] at m2
      exact (aw j' t e2' m2).elim
    · rw [z2] at m2
      subst q2
      cases mut_own m2
      rw [z1] at m1
      exact (aw i' s e1' m1).elim
    · rw [z1] at m1
      rw [z2] at m2
      have := S.ap _ _ s t b e1' e2' m1 m2
      omega
/-- the first held one goes into the slot i -/
theorem Stt.takeIn {v : Option V} {s : Sl} (S : Stt K Z F H (σ ++ v :: τ) (ρ ++ s :: ss)) (hl : σ.length = ρ.length) (i : Nat) : Stt K Z F H (σ.set i v ++ τ) (ρ.set i s ++ ss) := by
  have hl2 : τ.length = ss.length := by have := S.len; simp only [List.length_append, List.length_cons] at this; omega
  refine S.rearr (fun j => if j = i ∧ i < ρ.length then ρ.length else if j < ρ.length then j else j + 1) (by simp only [List.length_append, List.length_set]; omega) (fun j t e => ?_) fun j k hj hk e => ?_
  · by_cases h : j = i ∧ i < ρ.length
    · obtain ⟨rfl, hi⟩ := h
      rw [if_pos ⟨rfl, hi⟩]
      rw [List.getElem?_append_left (by rw [List.length_set]; exact hi), List.getElem?_set_self hi] at e
      refine .inr ⟨?_, ?_⟩
      · rw [List.getElem?_append_right (Nat.le_refl _), Nat.sub_self]; exact e
      · unfold at_; rw [List.getElem?_append_left (by rw [List.length_set]; omega), List.getElem?_set_self (by omega), List.getElem?_append_right (by omega), ← hl, Nat.sub_self]; rfl
    · rw [if_neg h]
      by_cases hj : j < ρ.length
      · have hne : i ≠ j := fun z => h ⟨z.symm, z ▸ hj⟩
        rw [if_pos hj]
        rw [List.getElem?_append_left (by rw [List.length_set]; exact hj), List.getElem?_set_ne hne] at e
        refine .inr ⟨by rw [List.getElem?_append_left hj]; exact e, ?_⟩
        unfold at_; rw [List.getElem?_append_left (by rw [List.length_set]; omega), List.getElem?_set_ne hne, List.getElem?_append_left (by omega)]
      · rw [if_neg hj]
        rw [List.getElem?_append_right (by rw [List.length_set]; omega), List.length_set] at e
        refine .inr ⟨?_, ?_⟩
        · rw [List.getElem?_append_right (by omega), show j + 1 - ρ.length = (j - ρ.length) + 1 by omega, List.getElem?_cons_succ]; exact e
        · unfold at_; rw [List.getElem?_append_right (by rw [List.length_set]; omega), List.length_set, List.getElem?_append_right (by omega), show j + 1 - σ.length = (j - σ.length) + 1 by omega, List.getElem?_cons_succ]
  · split at e <;> split at e <;> (try split at e) <;> (try split at e) <;> omega
end

/-! ### parts, held until all are there -/
abbrev MP := Ms → (List Sl → Ms → Prop) → Prop
def lP (K : PySem.W.Frag) (mg : Str → Option Value) (W : Wish) (n : Nat) (t : MP) : TA := fun σ H Q => ∃ Z F ρ R, Stt K Z F H σ ρ ∧ WOk mg W Z F ∧ t ρ R ∧
  ∀ ss ρ' vs F' H', R ss ρ' → Same F F' → Stt K Z F' H' (σ ++ vs.map some) (ρ' ++ ss) → ss.length = n → vs.length = n → σ.length = ρ'.length → Q vs H'
abbrev LP (X : Cx) (W : Wish) (n : Nat) (t : MP) : TA := lP X.K X.mg W n t
def pNil : MP := fun ρ R => R [] ρ
def pE (te : ME) (tp : MP) : MP := fun ρ R => te ρ fun d ρ1 => tp ρ1 fun ss ρ2 => R (.dat d :: ss) ρ2
def pN (te : ME) (tp : MP) : MP := fun ρ R => te ρ fun d ρ1 => tp ρ1 fun ss ρ2 => R (.own d :: ss) ρ2
section
variable {X : Cx} {W : Wish} {pos : Pos} {e : Expr} {es : List Expr} {te : ME} {tp : MP} {n : Nat}
theorem gp_nil : PA X [] (LP X W 0 pNil) := by
  refine PAw pa_nil ?_
  rintro σ H Q ⟨Z, F, ρ, R, S, w, t, q⟩
  exact q [] ρ [] F H t (Same.refl _) (by simpa using S) rfl rfl S.len
theorem gp_E (ha : PE X e (LE X W te)) (hr : PA X es (LP X W n tp)) (hs : starEach (e :: es) X.env = (false, eval e X.env) :: starEach es X.env := by rfl) : PA X (e :: es) (LP X W (n + 1) (pE te tp)) := by
  refine PAw (pa_cons ha hr hs) ?_
  rintro σ H Q ⟨Z, F, ρ, R, S, w, t, q⟩
  refine ⟨Z, F, ρ, _, S, w, t, fun d ρ1 v F1 H1 t1 sf1 S1 r1 => ?_⟩
  refine ⟨Z, F1, ρ1, _, S1, w.mono sf1, t1, fun ss ρ2 vs F2 H2 t2 sf2 S2 l1 l2 hl => ?_⟩
  exact q (.dat d :: ss) ρ2 (v :: vs) F2 H2 t2 (sf1.trans sf2) (S2.insDat hl (r1.mono sf2)) (by rw [List.length_cons, l1]) (by rw [List.length_cons, l2]) hl
theorem gp_N (ha : PE X e (LN X W te)) (hr : PA X es (LP X W n tp)) (hs : starEach (e :: es) X.env = (false, eval e X.env) :: starEach es X.env := by rfl) : PA X (e :: es) (LP X W (n + 1) (pN te tp)) := by
  refine PAw (pa_cons ha hr hs) ?_
  rintro σ H Q ⟨Z, F, ρ, R, S, w, t, q⟩
  refine ⟨Z, F, ρ, _, S, w, t, fun d ρ1 a F1 H1 t1 sf1 S1 fa za c aw => ?_⟩
  obtain ⟨o, ho⟩ := c.some
  have zz : Same Z (upd Z a o) := same_upd za
  refine ⟨upd Z a o, F1, ρ1, _, S1.holdZ fa za ho aw, (w.mono sf1).more zz, t1, fun ss ρ2 vs F2 H2 t2 sf2 S2 l1 l2 hl => ?_⟩
  have fa2 : F2 a = none := S2.zf a (by rw [upd_same]; simp)
  have ho2 : H2 a = some o := S2.zh a o upd_same
  have c2 : Cont X.K F2 H2 a d := c.mono sf2 fun u hu => by rw [ho] at hu; cases hu; exact ho2
  refine q (.own d :: ss) ρ2 (.ref a :: vs) F2 H2 t2 (sf1.trans sf2) ((S2.lessZ zz).insOwn hl fa2 za c2 fun i s h m => ?_) (by rw [List.length_cons, l1]) (by rw [List.length_cons, l2]) hl
  have := (S2.mut h m).1
  rw [upd_same] at this; cases this
def freeS (ρ : Ms) (i : Nat) : Bool := match slot ρ i with
  | .inn _ _ => false
  | .ob _ _ _ => false
  | _ => true
def mPar2 (i j : Nat) (tp : MP) : MS := fun D ρ => tp ρ fun ss ρ1 => match ss with
  | [s, t] => (freeS ρ1 i && freeS ρ1 j) = true ∧ D.nx ((ρ1.set i s).set j t)
  | _ => False
def mPar3 (i j l : Nat) (tp : MP) : MS := fun D ρ => tp ρ fun ss ρ1 => match ss with
  | [s, t, u] => (freeS ρ1 i && freeS ρ1 j && freeS ρ1 l) = true ∧ D.nx (((ρ1.set i s).set j t).set l u)
  | _ => False
variable {i j l : Nat} {x y z : Str} {a b c : Expr} {px py pz pt : Pos} {kt k2 : Nat} {pt2 : Pos}
theorem gs_par (hc : X.calm = true) (hN : X.N.Nodup) (hi : X.N[i]? = some x) (hj : X.N[j]? = some y) (hij : i ≠ j)
    (hx : X.env.scope.names.lookup x = some .local) (hy : X.env.scope.names.lookup y = some .local) (ha : PA X [a, b] (LP X W 2 tp))
    (hw : swappedStores [.Tuple [.Name x px, .Name y py] kt pt] (.Tuple [a, b] k2 pt2) X.env = pure (some [x, y]))
    (hs : swapsWithSole [.Tuple [.Name x px, .Name y py] kt pt] (.Tuple [a, b] k2 pt2) pos.line X.env = pure false := by rfl) :
    PS X (.Assign [.Tuple [.Name x px, .Name y py] kt pt] (.Tuple [a, b] k2 pt2) pos) (LS X W (mPar2 i j tp)) := by
  refine PSw (ps_par hc hN hi hj hij hx hy ha hw hs) ?_
  rintro D σ H ⟨Z, F, ρ, DR, S, w, t, k⟩
  refine ⟨Z, F, ρ, _, S, w, t, fun ss ρ1 vs F1 H1 t1 sf1 S1 l1 l2 hl => ?_⟩
  match ss, vs, l1, l2 with
  | [s, t], [u, v], _, _ =>
    refine ⟨u, v, rfl, ?_⟩
    have S2 := Stt.takeIn S1 hl i
    have S3 := Stt.takeIn S2 (by rw [List.length_set, List.length_set]; exact hl) j
    rw [List.map_nil, List.append_nil, List.append_nil] at S3
    exact k.nx _ _ F1 H1 t1.2 sf1 S3
theorem gs_par3 (hc : X.calm = true) (hN : X.N.Nodup) (hi : X.N[i]? = some x) (hj : X.N[j]? = some y) (hl : X.N[l]? = some z) (hij : i ≠ j) (hil : i ≠ l) (hjl : j ≠ l)
    (hx : X.env.scope.names.lookup x = some .local) (hy : X.env.scope.names.lookup y = some .local) (hz : X.env.scope.names.lookup z = some .local) (ha : PA X [a, b, c] (LP X W 3 tp))
    (hw : swappedStores [.Tuple [.Name x px, .Name y py, .Name z pz] kt pt] (.Tuple [a, b, c] k2 pt2) X.env = pure (some [x, y, z]))
    (hs : swapsWithSole [.Tuple [.Name x px, .Name y py, .Name z pz] kt pt] (.Tuple [a, b, c] k2 pt2) pos.line X.env = pure false := by rfl) :
    PS X (.Assign [.Tuple [.Name x px, .Name y py, .Name z pz] kt pt] (.Tuple [a, b, c] k2 pt2) pos) (LS X W (mPar3 i j l tp)) := by
  refine PSw (ps_par3 hc hN hi hj hl hij hil hjl hx hy hz ha hw hs) ?_
  rintro D σ H ⟨Z, F, ρ, DR, S, w, t, k⟩
  refine ⟨Z, F, ρ, _, S, w, t, fun ss ρ1 vs F1 H1 t1 sf1 S1 l1 l2 hl => ?_⟩
  match ss, vs, l1, l2 with
  | [s, t, r], [u, v, q], _, _ =>
    refine ⟨u, v, q, rfl, ?_⟩
    have S2 := Stt.takeIn S1 hl i
    have S3 := Stt.takeIn S2 (by rw [List.length_set, List.length_set]; exact hl) j
    have S4 := Stt.takeIn S3 (by rw [List.length_set, List.length_set, List.length_set, List.length_set]; exact hl) l
    rw [List.map_nil, List.append_nil, List.append_nil] at S4
    exact k.nx _ _ F1 H1 t1.2 sf1 S4
/-- the pair is laid and taken apart -/
theorem gs_tup2 (hc : X.calm = true) (h1 : PG X (.Name x px) (gName i)) (h2 : PG X (.Name y py) (gName j)) (ha : PA X [a, b] (LP X W 2 tp))
    (hs : swapsWithSole [.Tuple [.Name x px, .Name y py] kt pt] (.Tuple [a, b] k2 pt2) pos.line X.env = pure false := by rfl) (hw : swappedStores [.Tuple [.Name x px, .Name y py] kt pt] (.Tuple [a, b] k2 pt2) X.env = pure none := by rfl)
    (hh : (assignEach [.Tuple [.Name x px, .Name y py] kt pt] X.env).map (·.2) = [assign (.Tuple [.Name x px, .Name y py] kt pt) X.env] := by rfl) :
    PS X (.Assign [.Tuple [.Name x px, .Name y py] kt pt] (.Tuple [a, b] k2 pt2) pos) (LS X W (mPar2 i j tp)) := by
  refine PSw (ps_asg (pe_tup ha) (pg_tup (n := 2) hc (pgs_cons h1 (pgs_cons h2 pgs_nil))) hs hw hh) ?_
  rintro D σ H ⟨Z, F, ρ, DR, S, w, t, k⟩
  refine ⟨Z, F, ρ, _, S, w, t, fun ss ρ1 vs F1 H1 t1 sf1 S1 l1 l2 hl => ?_⟩
  match ss, vs, l1, l2 with
  | [s, t], [u, v], _, _ =>
    refine ⟨(by show 2 ≤ sizeLine; decide), fun p hp => ⟨p, [u, v], rfl, SqT.of upd_same, rfl, ?_⟩⟩
    have S2 := Stt.takeIn S1 hl i
    have S3 := Stt.takeIn S2 (by rw [List.length_set, List.length_set]; exact hl) j
    rw [List.map_nil, List.append_nil, List.append_nil] at S3
    refine ⟨u, [v], rfl, v, [], rfl, rfl, ?_⟩
    exact k.nx _ _ F1 _ t1.2 sf1 (S3.lay _ hp)
end
end G


set_option Elab.async false
set_option maxRecDepth 100000
set_option maxHeartbeats 1000000
/-! GV14: letters of a text; names of the top; a def as the top has it. -/
namespace G
open PySem PySem.Spec PyProof.Rows L2
section
variable {X : Cx} {W : Wish} {pos : Pos} {e : Expr} {te : ME}
def letters (s : Str) : List PyData := s.cps.toList.map fun c => PyData.str ⟨#[c]⟩
theorem letters_len (s : Str) : (letters s).length = s.length := by unfold letters; rw [List.length_map, Array.length_toList]; rfl
def iTxt (te : ME) : MI := fun ρ R => te ρ fun d ρ1 => match d with
  | .str s => s.length ≤ 1000 ∧ R (letters s) ρ1
  | _ => False
theorem walk_str {K : PySem.W.Frag} {Z F : Hp} {s : Str} : WalkOn K Z F (Its s) (letters s) := fun F' H' sf sw _ => by
  refine ⟨fun i hi => ?_, ?_, fun i x H'' hi y => ⟨y.1, ?_⟩⟩
  · rw [letters_len] at hi; exact hi
  · rw [letters_len]; exact Nat.le_refl _
  · obtain ⟨_, c, hc, rfl⟩ := y
    refine ⟨_, ?_, .str _⟩
    unfold letters
    rw [List.getElem?_map, Array.getElem?_toList, hc]; rfl
theorem gi_txt {tg : Expr} (he : PE X e (LE X W te)) : PI X tg e (LI X W (iTxt te)) := by
  refine PIw (pi_str he) ?_
  rintro σ H Q ⟨Z, F, ρ, R, S, w, t, q⟩
  refine ⟨Z, F, ρ, _, S, w, t, fun d ρ1 v F1 H1 t1 sf1 S1 r1 => ?_⟩
  cases r1 with
  | str s =>
    exact ⟨s, rfl, q _ ρ1 F1 H1 _ t1.2 sf1 S1 walk_str (by rw [letters_len]; exact Nat.le_trans t1.1 (by decide))⟩
  | _ => exact t1.elim
/-- a name of the top that stands for plain data -/
theorem g_gl {x : Str} {v : V} {u : Value} {d : PyData} {p : Pos} (hg : Gl X x) (hm : X.mg x = some u) (rv : RelV v u) (r : ∀ F, Rep X.K F v d) (hd : (x == ("__debug__" : Str)) = false := by decide) : PE X (.Name x p) (LE X W (mC d)) := g_c (pe_glob hg hm rv hd) r
theorem g_glI {x : Str} {i : Int} {t : Tok} {p : Pos} (hg : Gl X x) (hm : X.mg x = some (.int i t)) (hd : (x == ("__debug__" : Str)) = false := by decide) : PE X (.Name x p) (LE X W (mC (.int i))) := g_gl (v := .int i) hg hm ⟨t, rfl⟩ (fun _ => .int _) hd
theorem g_glS {x : Str} {i : Str} {t : Tok} {p : Pos} (hg : Gl X x) (hm : X.mg x = some (.str i t)) (hd : (x == ("__debug__" : Str)) = false := by decide) : PE X (.Name x p) (LE X W (mC (.str i))) := g_gl (v := .str i) hg hm ⟨t, rfl⟩ (fun _ => .str _) hd
end
/-- a name of the top is plain data -/
def Lit (K : PySem.W.Frag) (mg : Str → Option Value) (x : Str) (d : PyData) : Prop := ∃ (u : Value) (v : V), mg x = some u ∧ RelV v u ∧ ∀ F, Rep K F v d
theorem g_lit {X : Cx} {W : Wish} {x : Str} {d : PyData} {p : Pos} (h : Lit X.K X.mg x d) (hg : Gl X x) (hd : (x == ("__debug__" : Str)) = false := by decide) : PE X (.Name x p) (LE X W (mC d)) := by
  obtain ⟨u, v, hm, rv, r⟩ := h
  exact g_gl hg hm rv r hd
theorem lit_int {K : PySem.W.Frag} {mg : Str → Option Value} {x : Str} {i : Int} {t : Tok} (h : mg x = some (.int i t)) : Lit K mg x (.int i) := ⟨_, .int i, h, ⟨t, rfl⟩, fun _ => .int _⟩
theorem lit_str {K : PySem.W.Frag} {mg : Str → Option Value} {x : Str} {i : Str} {t : Tok} (h : mg x = some (.str i t)) : Lit K mg x (.str i) := ⟨_, .str i, h, ⟨t, rfl⟩, fun _ => .str _⟩
theorem lit_ii {K : PySem.W.Frag} {mg : Str → Option Value} {x : Str} {a : Addr} {i j : Int} {s t : Tok} {n : Nat} {o : Obj} (h : mg x = some (.ref a)) (l : K.lookup a = some o) (c : o.cls = .type "tuple") (e : o.data = .seq #[.int i s, .int j t] n) (hd : o.dict = none) : Lit K mg x (.tuple [.int i, .int j]) := by
  refine ⟨_, .ref a, h, rfl, fun F => .tup (xs := [.int i, .int j]) ?_ (.cons (.int _) (.cons (.int _) .nil)) (by show 2 ≤ sizeLine; decide)⟩
  exact .inr ⟨o, _, _, l, c, hd, e, (by show 2 ≤ sizeLine; decide), .cons ⟨s, rfl⟩ (.cons ⟨t, rfl⟩ .nil)⟩
/-- a def as the top has it -/
def Has (P : Program) (w : World) (K : PySem.W.Frag) (mg : Str → Option Value) (base : Heap) (k : Nat) (x : Str) (ps : List Str) (sp : Sp) : Prop := ∃ (f : Addr) (fd : FuncData), FnOk P w K mg base CX0 k f fd ps sp ∧ mg x = some (.ref f) ∧ PySem.W.keepIn K (.ref f) = true ∧ Binds K fd ps []
section
variable {X : Cx} {W : Wish} {k n : Nat} {x : Str} {ps : List Str} {t : PSp} {e : Expr} {es : List Expr} {p pos : Pos} {ta : MA} {m i : Nat}
theorem g_callH (F : Has X.prog X.w X.K X.mg X.base k x ps (spD X.K X.mg n t)) (hr : Room k X.A) (hg : Gl X x) (hx : Passes CX0 X W.E)
    (ha : PA X (e :: es) (LA X W n ta)) (hdb : (x == ("__debug__" : Str)) = false := by decide) (he : starEach (e :: es) X.env = (false, eval e X.env) :: starEach es X.env := by rfl) (hpl : (backTo pos (starEach es X.env)).any (·.1) = false := by rfl) :
    PE X (.Call (.Name x p) (e :: es) [] pos) (LE X W (mCall t W.RE ta)) := by
  obtain ⟨f, fd, F, hm, hk, hb⟩ := F
  exact g_call F hr hg hm hk hb hx ha hdb he hpl
theorem gn_callH (F : Has X.prog X.w X.K X.mg X.base k x ps (spN X.K X.mg n t)) (hr : Room k X.A) (hg : Gl X x) (hx : Passes CX0 X W.E)
    (ha : PA X (e :: es) (LA X W n ta)) (hdb : (x == ("__debug__" : Str)) = false := by decide) (he : starEach (e :: es) X.env = (false, eval e X.env) :: starEach es X.env := by rfl) (hpl : (backTo pos (starEach es X.env)).any (·.1) = false := by rfl) :
    PE X (.Call (.Name x p) (e :: es) [] pos) (LN X W (mCall t W.RE ta)) := by
  obtain ⟨f, fd, F, hm, hk, hb⟩ := F
  exact gn_call F hr hg hm hk hb hx ha hdb he hpl
theorem g_callRH (F : Has X.prog X.w X.K X.mg X.base k x ps (spD X.K X.mg n t)) (hr : Room k X.A) (hg : Gl X x) (hx : Passes CX0 X W.E)
    (ha : PA X (e :: es) (lAr X.K X.mg W n m i ta)) (hdb : (x == ("__debug__" : Str)) = false := by decide) (he : starEach (e :: es) X.env = (false, eval e X.env) :: starEach es X.env := by rfl) (hpl : (backTo pos (starEach es X.env)).any (·.1) = false := by rfl) :
    PE X (.Call (.Name x p) (e :: es) [] pos) (LE X W (mCallR t W.RE m i ta)) := by
  obtain ⟨f, fd, F, hm, hk, hb⟩ := F
  exact g_callR F hr hg hm hk hb hx ha hdb he hpl
end
end G


set_option Elab.async false
/-! GV15: small words for the printed derivations. -/
namespace G
open PySem PySem.Spec PyProof.Rows L2
theorem boots_len : bootBuiltins "len" = some (.builtin "len") := by decide +kernel
theorem boots_abs : bootBuiltins "abs" = some (.builtin "abs") := by decide +kernel
theorem boots_sum : bootBuiltins "sum" = some (.builtin "sum") := by decide +kernel
theorem boots_all : bootBuiltins "all" = some (.builtin "all") := by decide +kernel
theorem boots_max : bootBuiltins "max" = some (.builtin "max") := by decide +kernel
theorem boots_min : bootBuiltins "min" = some (.builtin "min") := by decide +kernel
theorem boots_sorted : bootBuiltins "sorted" = some (.builtin "sorted") := by decide +kernel
theorem boots_tuple : bootBuiltins "tuple" = some (.type "tuple") := by decide +kernel
theorem boots_list : bootBuiltins "list" = some (.type "list") := by decide +kernel
theorem boots_dict : bootBuiltins "dict" = some (.type "dict") := by decide +kernel
theorem boots_int : bootBuiltins "int" = some (.type "int") := by decide +kernel
theorem boots_bool : bootBuiltins "bool" = some (.type "bool") := by decide +kernel
theorem boots_str : bootBuiltins "str" = some (.type "str") := by decide +kernel
theorem ps0 {X : Cx} {E : XK} : Passes CX0 X E := fun _ _ _ _ _ _ _ h => h.elim
theorem hu64 {k : Nat} {A : Around} (h : Room k A) : A.units + 64 < cLine := by have := h.un; omega
theorem hu200 {k : Nat} {A : Around} (h : Room k A) : A.units + 200 < cLine := by have := h.un; omega
end G


set_option Elab.async false
set_option maxRecDepth 100000
set_option maxHeartbeats 1000000
/-! GV16: the script; the head of a law. -/
namespace G
open PySem PySem.Spec PyProof.Rows L2
def mLenS (i : Nat) : ME := fun ρ R => match slot ρ i with
  | .scr ns => R (.int ns.length) ρ
  | _ => False
def mCallRN (t : PSp) (RE : Str → Prop) (p i : Nat) (ta : MA) : ME := fun ρ R => ta ρ fun ds ρ1 => match slot ρ1 i with
  | .scr ns => t ((ds.map Sl.dat).set p (.scr ns)) (fun r _ => R r ρ1) RE
  | _ => False
section
variable {X : Cx} {W : Wish} {k n : Nat} {x : Str} {ps : List Str} {t : PSp} {e : Expr} {es : List Expr} {p pos p2 : Pos} {ta : MA} {m i : Nat}
theorem g_lenS {y : Str} (hg : Gl X "len") (hm : X.mg "len" = none) (h : PE X (.Name y p2) (tVar i)) (he : starEach [.Name y p2] X.env = (false, eval (.Name y p2) X.env) :: starEach [] X.env := by rfl)
    (hpl : (backTo pos (starEach [] X.env)).any (·.1) = false := by rfl) : PE X (.Call (.Name "len" p) [.Name y p2] [] pos) (LE X W (mLenS i)) := by
  refine PEw (pe_callB call_len_seq hg hm boots_len (pa_cons h pa_nil he) (by decide) (by decide) he hpl) ?_
  rintro σ H Q ⟨Z, F, ρ, R, S, w, t, q⟩
  unfold mLenS at t
  split at t
  · rename_i ns e'
    obtain ⟨a, e1, z⟩ := S.sl i _ (slot_some e' (fun q => nomatch q))
    exact ⟨.ref a, at_some e1, a, _, rfl, .inl (S.fh.seq z), by rw [List.length_map]; exact q _ ρ _ F H t (Same.refl _) S (.int _)⟩
  · exact t.elim
theorem gn_callRH (F : Has X.prog X.w X.K X.mg X.base k x ps (spN X.K X.mg n t)) (hr : Room k X.A) (hg : Gl X x) (hx : Passes CX0 X W.E)
    (ha : PA X (e :: es) (lAr X.K X.mg W n m i ta)) (hdb : (x == ("__debug__" : Str)) = false := by decide) (he : starEach (e :: es) X.env = (false, eval e X.env) :: starEach es X.env := by rfl) (hpl : (backTo pos (starEach es X.env)).any (·.1) = false := by rfl) :
    PE X (.Call (.Name x p) (e :: es) [] pos) (LN X W (mCallRN t W.RE m i ta)) := by
  obtain ⟨f, fd, F, hm, hk, hb⟩ := F
  refine PEw (pe_call F hr hg hm hk hb .nil hx ha hdb he hpl) ?_
  rintro σ H Q ⟨Z, F, ρ, R, S, w, ht, q⟩
  refine ⟨Z, F, ρ, _, S, w, ht, fun ds ρ1 vs F1 H1 t1 sf1 S1 l1 l2 hp hd ⟨v, hv, hσ⟩ => ?_⟩
  dsimp only
  rw [List.append_nil]
  have hl : ds.length = vs.length := by rw [l1, l2]
  have hp' : m < vs.length := by rw [l2]; exact hp
  split at t1
  · rename_i ns e'
    obtain ⟨a, e1, z⟩ := S1.sl i _ (slot_some e' (fun q => nomatch q))
    rw [hσ] at e1; cases e1
    refine ⟨outZ F1 H1 none, F1, _, _, W.RE, l2, S1.calleeR (s := .scr ns) hl hp' hd hv ⟨a, rfl, z⟩, t1, (w.mono sf1).more S1.zOut, fun r ss' b F' H' hr sf' S' fb zb c aw => ?_⟩
    have S2 := S1.after S' sf'
    refine q r ρ1 b F' H' hr (sf1.trans sf') S2 fb (S1.zOut.free zb) c fun i s e m => ?_
    obtain ⟨_, f1, o, h1⟩ := S1.mut e m
    have z1 := outZ_some.mpr ⟨f1, (by simp : some b ≠ none), h1⟩
    rw [zb] at z1; cases z1
  · exact t1.elim
end
/-! ### the law's own promise -/
def spLaw (K : PySem.W.Frag) : Sp := fun vs H Q _ => ∃ (a : Addr) (ns : List Int), vs = [.ref a] ∧ SqL K H a (ns.map V.int) ∧ ns.length ≤ 63 ∧ (∀ b, H b = none ∨ ∃ o xs, H b = some (.frz o (.lst xs))) ∧ ∀ H', Q (.bl true) H'
def p_law : PSp := fun ss R _ => ∃ ns : List Int, ns.length ≤ 63 ∧ ss = [.scr ns] ∧ R (.bool true) ss
theorem law_done {P : Program} {w : World} {K : PySem.W.Frag} {mg : Str → Option Value} {base : Heap} {k : Nat} {f : Addr} {fd : FuncData} {b : PSp} (h : FnOk P w K mg base CX0 k f fd ["script"] (spD K mg 1 b)) (q : ∀ ss R RE, p_law ss R RE → b ss R RE) :
    FnOk P w K mg base CX0 k f fd ["script"] (spLaw K) := by
  refine h.imp fun vs H Q E ⟨a, ns, e, hs, hl, ho, hq⟩ => ?_
  subst e
  have sw : SameW H H := fun b o e => by
    exact Or.inl e
  refine ⟨fun _ => none, H, [.scr ns], fun r _ => r = .bool true, fun _ => False, rfl, ⟨sw, (fun _ _ z => nomatch z), fun _ z => (z rfl).elim, rfl, fun i s e => ?_, fun i j s t a e1 e2 m1 m2 => ?_⟩, q _ _ _ ⟨ns, hl, rfl, rfl⟩, ?_, fun r ss' v F' H' hr sf S r1 => ?_⟩
  · cases i with
    | zero =>
      have e' : s = .scr ns := (Option.some.inj e).symm
      subst e'
      exact ⟨a, rfl, hs⟩
    | succ i => cases e
  · cases i with
    | zero =>
      have e' : s = .scr ns := (Option.some.inj e1).symm
      subst e'
      exact (noMut_scr m1).elim
    | succ i => cases e1
  · exact fun n C F' H' r => r.elim
  · subst hr
    cases r1
    exact hq H'
end G


set_option Elab.async false
set_option maxRecDepth 100000
set_option maxHeartbeats 1000000
/-! GV17: d.get(k, x), {}, pairs counted. -/
namespace G
open PySem PySem.Spec PyProof.Rows L2
def getD' (d k e : PyData) (R : PyData → Prop) : Prop := match d, k with
  | .dict es, .str x => R ((dget es x).getD e)
  | _, _ => False
def mGet (td tk te : ME) : ME := fun ρ R => td ρ fun d ρ1 => (match d with
  | .dict _ => True
  | _ => False) ∧ tk ρ1 fun k ρ2 => te ρ2 fun e ρ3 => getD' d k e fun c => R c ρ3
def mDict0 : ME := fun ρ R => R (.dict []) ρ
section
variable {X : Cx} {W : Wish} {pos apos cpos : Pos} {o e f : Expr} {td tk te : ME}
theorem g_dget (hu : X.A.units + 64 < cLine) (ho : PE X o (LE X W td)) (he : PE X e (LE X W tk)) (hf : PE X f (LE X W te)) (m : M2 X o "get" apos e f cpos) : PE X (.Call (.Attribute o "get" apos) [e, f] [] cpos) (LE X W (mGet td tk te)) := by
  refine PEw (pe_dget2 (by omega) ho he hf m) ?_
  rintro σ H Q ⟨Z, F, ρ, R, S, w, t, q⟩
  refine ⟨Z, F, ρ, _, S, w, t, fun d ρ1 v F1 H1 ⟨t0, t1⟩ sf1 S1 r1 => ?_⟩
  cases r1 with
  | @dct a kvs es h1 h2 =>
    refine ⟨a, rfl, .inl ⟨kvs, S1.fh.rd h1⟩, Z, F1, ρ1, _, S1, w.mono sf1, t1, fun k ρ2 y F2 H2 t2 sf2 S2 r2 => ?_⟩
    refine ⟨Z, F2, ρ2, _, S2, (w.mono sf1).mono sf2, t2, fun e' ρ3 z F3 H3 t3 sf3 S3 r3 => ?_⟩
    cases r2 with
    | str x =>
      have t3 : R ((dget es x).getD e') ρ3 := t3
      have sf23 := sf2.trans sf3
      have h1' : Rd F3 a (.dK kvs) := sf23.w.rd h1
      have h2' := h2.mono sf23
      refine ⟨valV kvs (Sum.inr x : Key), .inl ⟨kvs, Sum.inr x, S3.fh.rd h1', rfl, rfl⟩, ?_⟩
      rcases h2'.look (k := x) with ⟨e1, e2⟩ | ⟨d', v, e1, e2, e3⟩
      · rw [e2]
        rw [e1] at t3
        exact q _ ρ3 _ F3 H3 t3 (sf1.trans sf23) S3 r3
      · rw [e2]
        rw [e1] at t3
        exact q _ ρ3 _ F3 H3 t3 (sf1.trans sf23) S3 e3
    | _ => exact t3.elim
  | _ => exact t0.elim
theorem gn_d0 : PE X (.Dict [] [] pos) (LN X W mDict0) := by
  refine PEw pe_dnewK ?_
  rintro σ H Q ⟨Z, F, ρ, R, S, w, t, q⟩
  intro p hp
  exact q _ ρ p F _ t (Same.refl _) (S.lay _ hp) (S.fh.free hp) (S.zh.free hp) ⟨[], upd_same, .nil⟩ (S.newAway hp)
end
end G


set_option Elab.async false
set_option maxRecDepth 100000
set_option maxHeartbeats 1000000
/-! GV18: enumerate; the least of a list of data. -/
namespace G
open PySem PySem.Spec PyProof.Rows L2
def enumD (ds : List PyData) : List PyData := ds.zipIdx.map fun p => .tuple [.int (p.2 : Int), p.1]
theorem enumD_len (ds : List PyData) : (enumD ds).length = ds.length := by unfold enumD; rw [List.length_map, List.length_zipIdx]
def mForE (i j : Nat) (te : ME) (tb : MS) : MS := fun D ρ => te ρ fun d ρ1 => match d with
  | .list ds => mForL (mGT [mGN i, mGN j]) tb D (enumD ds) ρ1
  | _ => False
theorem gn_out {ρ : Ms} {i : Nat} {d : PyData} {R : Ms → Prop} (h : mGN i d ρ R) : R (ρ.set i (.dat d)) := by
  unfold mGN at h
  split at h
  · exact h.elim
  · exact h
theorem gt_out {ρ : Ms} {i j : Nat} {d e : PyData} {R : Ms → Prop} (h : mGT [mGN i, mGN j] (.tuple [d, e]) ρ R) : R ((ρ.set i (.dat d)).set j (.dat e)) := by
  have h : mGN i d ρ fun ρ1 => mGN j e ρ1 fun ρ2 => R ρ2 := h
  exact gn_out (gn_out h)
section
variable {X : Cx} {W : Wish} {pos p p1 p2 pt cpos : Pos} {x y : Str} {kt : Nat} {e : Expr} {body : List Stmt} {te : ME} {tb : MS} {i j : Nat}
theorem gs_forE (hp : PassesOwn (model X.prog X.w) X.A X.env X.xe) (hc : X.calm = true) (hg : Gl X "enumerate") (hm : X.mg "enumerate" = none) (he : PE X e (LE X W te)) (h1 : PG X (.Name x p1) (gName i)) (h2 : PG X (.Name y p2) (gName j)) (hb : PSs X body (LS X W tb))
    (hs : starEach [e] X.env = [(false, eval e X.env)] := by rfl) (hs1 : starEach [e] X.env = (false, eval e X.env) :: starEach [] X.env := by rfl) (hs2 : ∀ x, foldedSetIterable (.Call (.Name "enumerate" p) [e] [] cpos) X.env x = pure x := by intro _; rfl) :
    PS X (.For (.Tuple [.Name x p1, .Name y p2] kt pt) (.Call (.Name "enumerate" p) [e] [] cpos) body [] pos) (LS X W (mForE i j te tb)) := by
  refine PSw (ps_for hp hc (pi_enum hg hm (pa_cons he pa_nil hs1) hs) (pg_tup (n := 2) hc (pgs_cons h1 (pgs_cons h2 pgs_nil))) hb hs2) ?_
  rintro D σ H ⟨Z, F, ρ, DR, S, w, t, k⟩
  refine ⟨Z, F, ρ, _, S, w, t, fun d ρ1 v F1 H1 t1 sf1 S1 r1 => ?_⟩
  cases r1 with
  | @lst a xs ds h1 h2 h3 =>
    have t1 : mForL (mGT [mGN i, mGN j]) tb DR (enumD ds) ρ1 := t1
    refine ⟨a, xs, rfl, SqL.of (S1.fh.lst h1), ?_⟩
    refine ⟨fun n m σ' H' => m = ds.length - n ∧ n ≤ ds.length ∧ ∃ F' ρ', Same F1 F' ∧ Stt X.K Z F' H' σ' ρ' ∧ mForL (mGT [mGN i, mGN j]) tb DR ((enumD ds).drop n) ρ', ⟨ds.length, by simp, Nat.zero_le _, F1, ρ1, Same.refl _, S1, t1⟩, ?_⟩
    rintro n m σ2 H2 ⟨rfl, hn, F2, ρ2, sf2, S2, t2⟩
    have hq : SqL X.K H2 a xs := SqL.of (S2.fh.lst (sf2 _ _ h1))
    by_cases hlt : n < ds.length
    · have hlx : n < xs.length := by rw [h2.length]; exact hlt
      refine .inr ⟨⟨xs, xs[n], hq, List.getElem?_eq_getElem hlx⟩, fun σ' H' => ∃ F' ρ', Same F1 F' ∧ Stt X.K Z F' H' σ' ρ' ∧ mForL (mGT [mGN i, mGN j]) tb DR ((enumD ds).drop (n + 1)) ρ', fun σ' H' p' => ⟨ds.length - (n + 1), by omega, rfl, hlt, p'⟩, fun z H' yy => ?_⟩
      obtain ⟨T, u, rfl, hT, rfl, hu⟩ := yy
      obtain ⟨d, e2, r2⟩ := h2.get' (hu xs hq)
      have en : (enumD ds)[n]? = some (.tuple [.int (n : Int), d]) := by
        unfold enumD
        rw [List.getElem?_map, List.getElem?_zipIdx, e2]
        simp
      have ed : (enumD ds).drop n = .tuple [.int (n : Int), d] :: (enumD ds).drop (n + 1) := by
        have hl : n < (enumD ds).length := by rw [enumD_len]; exact hlt
        rw [List.drop_eq_getElem_cons hl]
        rw [List.getElem?_eq_getElem hl] at en
        rw [Option.some.inj en]
      rw [ed] at t2
      have t3 := gt_out (show mGT [mGN i, mGN j] (.tuple [.int (n : Int), d]) ρ2 fun ρ1 => tb { DR with nx := mForL (mGT [mGN i, mGN j]) tb DR ((enumD ds).drop (n + 1)), ct := mForL (mGT [mGN i, mGN j]) tb DR ((enumD ds).drop (n + 1)), bk := DR.nx } ρ1 from t2)
      refine ⟨T, [.int (n : Int), u], rfl, SqT.of upd_same, rfl, .int (n : Int), [u], rfl, u, [], rfl, rfl, ?_⟩
      have S3 : Stt X.K Z F2 (upd H2 T (.tup [.int (n : Int), u])) σ2 ρ2 := S2.lay _ hT
      have S4 := (S3.putDat i (v := .int (n : Int)) (.int (n : Int))).putDat j (r2.mono sf2)
      have sfa := sf1.trans sf2
      refine ⟨Z, F2, _, _, S4, (w.mono sf1).mono sf2, t3, ?_, ?_, ?_, ?_, ?_⟩
      · exact fun ρ' σ' F' H' a sf S' => ⟨F', ρ', sf2.trans sf, S', a⟩
      · exact fun d ρ' v σ' F' H' a sf S' r => k.rt d ρ' v σ' F' H' a (sfa.trans sf) S' r
      · exact fun d ρ' v σ' F' H' a sf S' => k.ro d ρ' v σ' F' H' a (sfa.trans sf) S'
      · exact fun ρ' σ' F' H' a sf S' => k.nx ρ' σ' F' H' a (sfa.trans sf) S'
      · exact fun ρ' σ' F' H' a sf S' => ⟨F', ρ', sf2.trans sf, S', a⟩
    · have e : n = ds.length := by omega
      subst e
      rw [List.drop_of_length_le (by rw [enumD_len]; exact Nat.le_refl _)] at t2
      exact .inl ⟨⟨xs, hq, by rw [h2.length]; exact Nat.le_refl _⟩, k.nx ρ2 σ2 F2 H2 t2 (sf1.trans sf2) S2⟩
  | _ => exact t1.elim

/-! ### min of a list of data -/
def minD' (d : PyData) (R : PyData → Prop) : Prop := ∃ x xs, d = .list (x :: xs) ∧ PySem.W.AlikeAll (x :: xs) ∧ PyData.depthAll (x :: xs) ≤ 60 ∧ R (PySem.W.minD x xs)
theorem reads_each {h : Heap} : ∀ {vs : List Value} {ds : List PyData}, PySem.W.EachIs (fun v d => ∃ as, Reads h v d as) vs ds → ∃ as, ReadsAll h vs ds as
  | _, _, .nil => ⟨_, .nil⟩
  | _, _, .cons ⟨_, r⟩ t => by
    obtain ⟨bs, q⟩ := reads_each t
    exact ⟨_, .cons r q⟩
theorem cg_min1 (hu : X.A.units + 64 < cLine) (hc : X.calm = true) : CallG X (.builtin "min") minD' := by
  intro pins s σ Z F H ρ x u d R Q I S rx rv hg q
  obtain ⟨y, ys, rfl, al, dp, hr⟩ := hg
  rcases rx.cases S.fh with ⟨a, xs, ds, rfl, e, h1, h2, h3⟩ | ⟨a, kvs, es, rfl, e, h1, h2⟩ | ⟨r, n1, n2⟩
  · cases e
    cases rv
    obtain ⟨its, rvs, p, hz⟩ := I.list (SqL.of (K := X.K) h1)
    have hpl : ∀ d ∈ y :: ys, d.plain = true := fun d hd => plain_alike d (al.1 d hd d hd)
    obtain ⟨as, hreads⟩ := reads_each (each_reads I S.fh hpl (each_of rvs h2))
    have hn : its.length = ys.length + 1 := by rw [← rvs.length, h2.length]; rfl
    have key : ReadsAll s.heap its.toArray.toList (y :: ys) as := hreads
    refine PySem.call_min_walkH (PySem.W.iter_listW (A := X.A.in1) (I.ok.hd hc) p.isList fun s₂ e W st hfp hw hk => ?_)
    refine ⟨_, _, _, _, _, _, _, s.heap, _, rfl, W, st, hfp, by have : its.toArray.size = its.length := rfl; omega, hw, hk, PySem.W.cmpIn_lt (A := X.A.in1) key al (by show X.A.units + 1 + _ < _; omega), fun v s' hP m => ?_⟩
    obtain ⟨h', tk, rfl, hk'⟩ := PySem.W.moved_old e rfl m
    have e1 : its.toArray.size - 1 = ys.length := by have : its.toArray.size = its.length := rfl; omega
    have e2 := (PySem.W.argBest_fold PySem.W.dataLt PyData.none y ys ys.length (Nat.le_refl _)).2
    rw [List.take_length] at e2
    rw [e1] at hP
    have back : ∀ {us : List V} {ws : List Value} {n : Nat}, Vals us ws → ws[n]? = some v → ∃ z, us[n]? = some z ∧ RelV z v := by
      intro us ws n r
      induction r generalizing n with
      | nil => intro h; simp at h
      | cons p r ih =>
        intro h
        cases n with
        | zero => simp at h; subst h; exact ⟨_, rfl, p⟩
        | succ n =>
          obtain ⟨z, h1, h2⟩ := ih (n := n) (by simpa using h)
          exact ⟨z, by simpa using h1, h2⟩
    rw [List.getElem?_toArray] at hP
    obtain ⟨z, hz1, hz2⟩ := back rvs hP
    obtain ⟨d, hd1, hd2⟩ := h2.get' hz1
    have ed : d = PySem.W.minD y ys := by
      unfold PySem.W.minD
      rw [← e2, List.getD_eq_getElem?_getD, hd1]; rfl
    subst ed
    exact ⟨z, H, I.kept hk', hz2, q _ z F H hr (Same.refl _) S hd2⟩
  · cases e
  · exact (n1 _ rfl).elim
end
end G


set_option Elab.async false
set_option maxRecDepth 100000
set_option maxHeartbeats 1000000
/-! GV19: a dict is walked: it is locked the while. -/
namespace G
open PySem PySem.Spec PyProof.Rows L2
section
variable {K : PySem.W.Frag} {F F' : Hp}
mutual
theorem Rep.ofR (hl : ∀ a xs, F a = some (.lst xs) → F' a = some (.lst xs)) (hf : ∀ a o xs, F a = some (.frz o (.tup xs)) → F' a = some (.frz o (.tup xs))) (hd : ∀ a kv, Rd F a (.dK kv) → Rd F' a (.dK kv)) : ∀ {v : V} {d : PyData}, Rep K F v d → Rep K F' v d
  | _, _, .non => .non
  | _, _, .bl b => .bl b
  | _, _, .int i => .int i
  | _, _, .str x => .str x
  | _, _, .lst h r z => .lst (hl _ _ h) (RepAll.ofR hl hf hd r) z
  | _, _, .tup h r z => .tup (h.imp (fun ⟨o, e, n⟩ => ⟨o, hf _ _ _ e, n⟩) id) (RepAll.ofR hl hf hd r) z
  | _, _, .dct h r => .dct (hd _ _ h) (RepKV.ofR hl hf hd r)
theorem RepAll.ofR (hl : ∀ a xs, F a = some (.lst xs) → F' a = some (.lst xs)) (hf : ∀ a o xs, F a = some (.frz o (.tup xs)) → F' a = some (.frz o (.tup xs))) (hd : ∀ a kv, Rd F a (.dK kv) → Rd F' a (.dK kv)) : ∀ {vs : List V} {ds : List PyData}, RepAll K F vs ds → RepAll K F' vs ds
  | _, _, .nil => .nil
  | _, _, .cons h r => .cons (Rep.ofR hl hf hd h) (RepAll.ofR hl hf hd r)
theorem RepKV.ofR (hl : ∀ a xs, F a = some (.lst xs) → F' a = some (.lst xs)) (hf : ∀ a o xs, F a = some (.frz o (.tup xs)) → F' a = some (.frz o (.tup xs))) (hd : ∀ a kv, Rd F a (.dK kv) → Rd F' a (.dK kv)) : ∀ {vs : List (Key × V)} {ds : List (PyData × PyData)}, RepKV K F vs ds → RepKV K F' vs ds
  | _, _, .nil => .nil
  | _, _, .cons h r => .cons (Rep.ofR hl hf hd h) (RepKV.ofR hl hf hd r)
end
variable {Z H H' : Hp} {σ : L2.St} {ρ : Ms} {d : Addr} {ob : Obj} {kvs : List (Key × V)} {u0 u1 : HO}
/-- what is known of data, the dict at d locked or not -/
theorem Rep.unlock {v : V} {x : PyData} (fd : F d = some u1) (h1 : u1 = .dK kvs ∨ u1 = .frz ob (.dK kvs)) (hu : u0 = .dK kvs ∨ u0 = .frz ob (.dK kvs)) (r : Rep K F v x) : Rep K (upd F d u0) v x := by
  refine Rep.ofR (fun a xs e => ?_) (fun a o xs e => ?_) (fun a kv e => ?_) r
  · rw [upd_ne (fun z => by rw [z, fd] at e; rcases h1 with rfl | rfl <;> cases e)]; exact e
  · rw [upd_ne (fun z => by rw [z, fd] at e; rcases h1 with rfl | rfl <;> cases e)]; exact e
  · by_cases z : a = d
    · subst z
      have ek : kv = kvs := by
        rcases e with e | ⟨o, e⟩
        · rw [fd] at e; rcases h1 with rfl | rfl <;> cases e; rfl
        · rw [fd] at e; rcases h1 with rfl | rfl <;> cases e; rfl
      subst ek
      rcases hu with rfl | rfl
      · exact .inl upd_same
      · exact .inr ⟨ob, upd_same⟩
    · rcases e with e | ⟨o, e⟩
      · exact .inl (by rw [upd_ne z]; exact e)
      · exact .inr ⟨o, by rw [upd_ne z]; exact e⟩
theorem RepAll.unlock {vs : List V} {ds : List PyData} (fd : F d = some u1) (h1 : u1 = .dK kvs ∨ u1 = .frz ob (.dK kvs)) (hu : u0 = .dK kvs ∨ u0 = .frz ob (.dK kvs)) (r : RepAll K F vs ds) : RepAll K (upd F d u0) vs ds := by
  induction vs generalizing ds with
  | nil => cases r; exact .nil
  | cons v vs ih => cases r with | cons h t => exact .cons (h.unlock fd h1 hu) (ih t)
theorem RepKV.unlock {vs : List (Key × V)} {ds : List (PyData × PyData)} (fd : F d = some u1) (h1 : u1 = .dK kvs ∨ u1 = .frz ob (.dK kvs)) (hu : u0 = .dK kvs ∨ u0 = .frz ob (.dK kvs)) (r : RepKV K F vs ds) : RepKV K (upd F d u0) vs ds := by
  induction vs generalizing ds with
  | nil => cases r; exact .nil
  | cons v vs ih => cases r with | cons h t => exact .cons (h.unlock fd h1 hu) (ih t)
theorem Cont.unlock {a : Addr} {c : PyData} (fd : F d = Option.some u1) (h1 : u1 = .dK kvs ∨ u1 = .frz ob (.dK kvs)) (hu : u0 = .dK kvs ∨ u0 = .frz ob (.dK kvs)) (e : H' a = H a) (h : Cont K F H a c) : Cont K (upd F d u0) H' a c := by
  cases c with
  | list ds => obtain ⟨xs, k1, k2, k3⟩ := h; exact ⟨xs, e.trans k1, k2.unlock fd h1 hu, k3⟩
  | dict es => obtain ⟨kv, k1, k2⟩ := h; exact ⟨kv, e.trans k1, k2.unlock fd h1 hu⟩
  | _ => exact h.elim
theorem Stt.unlock (S : Stt K Z F H σ ρ) (fd : F d = some u1) (h1 : u1 = .dK kvs ∨ u1 = .frz ob (.dK kvs)) (zd : Z d = none) (hu : u0 = .dK kvs ∨ u0 = .frz ob (.dK kvs)) (hh : ∀ a, a ≠ d → H' a = H a) (h2 : H' d = some (.dK kvs) ∨ H' d = some (.frz ob (.dK kvs)))
    (h3 : u0 = .frz ob (.dK kvs) → H' d = some u0) : Stt K Z (upd F d u0) H' σ ρ := by
  have ne : ∀ {a}, F a = none → a ≠ d := fun e z => by rw [z, fd] at e; cases e
  refine ⟨fun a o e => ?_, fun a o e => ?_, fun a q => ?_, S.len, fun i s e => ?_, S.ap⟩
  · by_cases z : a = d
    · subst z
      rw [upd_same] at e
      cases e
      rcases hu with rfl | rfl
      · rcases h2 with h2 | h2
        · exact .inl h2
        · exact .inr ⟨ob, kvs, rfl, h2⟩
      · exact .inl (h3 rfl)
    · rw [upd_ne z] at e
      rw [hh a z]
      exact S.fh a o e
  · have z : a ≠ d := fun z => by rw [z, zd] at e; cases e
    rw [hh a z]; exact S.zh a o e
  · have z : a ≠ d := fun z => q (by rw [z]; exact zd)
    rw [upd_ne z]; exact S.zf a q
  · have h := S.sl i s e
    cases s with
    | un => trivial
    | dat x => obtain ⟨v, e1, e2⟩ := h; exact ⟨v, e1, e2.unlock fd h1 hu⟩
    | raw x => exact h
    | own x =>
      obtain ⟨a, e1, e2, e3, e4⟩ := h
      exact ⟨a, e1, e2, by rw [upd_ne (ne e3)]; exact e3, e4.unlock fd h1 hu (hh a (ne e3))⟩
    | inn a x =>
      obtain ⟨e1, e2, e3, e4⟩ := h
      exact ⟨e1, e2, by rw [upd_ne (ne e3)]; exact e3, e4.unlock fd h1 hu (hh a (ne e3))⟩
    | ob a b x =>
      obtain ⟨e1, ⟨C, dx, hC, hx⟩, e2, e3, e4⟩ := h
      exact ⟨e1, ⟨C, dx, hC, by rw [upd_ne (fun z => by rw [z, fd] at hx; rcases h1 with rfl | rfl <;> cases hx)]; exact hx⟩, e2, by rw [upd_ne (ne e3)]; exact e3, e4.unlock fd h1 hu (hh b (ne e3))⟩
    | scr ns =>
      obtain ⟨a, e1, e2⟩ := h
      refine ⟨a, e1, ?_⟩
      rcases e2 with (e2 | ⟨o, e2⟩) | e2
      · exact .inl (.inl (by rw [upd_ne (fun z => by rw [z, fd] at e2; rcases h1 with rfl | rfl <;> cases e2)]; exact e2))
      · exact .inl (.inr ⟨o, by rw [upd_ne (fun z => by rw [z, fd] at e2; rcases h1 with rfl | rfl <;> cases e2)]; exact e2⟩)
      · exact .inr e2
end

def mForK (i : Nat) (g : MG) (tb : MS) : MS := fun D ρ => match slot ρ i with
  | .dat (.dict es) => mForL g tb D (es.map (·.1)) ρ
  | _ => False
theorem walk_keys {K : PySem.W.Frag} {Z F : Hp} {d : Addr} {ob : Obj} {kvs : List (Key × V)} {es : List (PyData × PyData)} (fd : F d = some (.frz ob (.dK kvs))) (r : RepKV K F kvs es) : WalkOn K Z F (Itk d ob kvs) (es.map (·.1)) := fun F' H' sf sw _ => by
  have hd : H' d = some (.frz ob (.dK kvs)) := sw.frz (sf _ _ fd)
  have hk := RepKV.keys r
  have hl : (es.map (·.1)).length = kvs.length := by rw [hk, List.length_map]
  refine ⟨fun i hi => ⟨hd, by rw [← hl]; exact hi⟩, ⟨hd, by rw [hl]; exact Nat.le_refl _⟩, fun i x H'' hi y => ?_⟩
  obtain ⟨e1, k, v, e2, rfl⟩ := y
  refine ⟨e1, kD k, ?_, ?_⟩
  · rw [hk, List.getElem?_map, e2]; rfl
  · cases k with
    | inl i => exact .int i
    | inr x => exact .str x
section
variable {K : PySem.W.Frag} {Z F : Hp} {d : Addr} {ob : Obj} {kvs : List (Key × V)} {u0 : HO} {DR : PEnd} {D D' : Ends} {post : Hp → Hp}
theorem same_unlock {F' : Hp} (fu : F d = some u0) (sf : Same (upd F d (.frz ob (.dK kvs))) F') : Same F (upd F' d u0) := fun a o e => by
  by_cases z : a = d
  · subst z
    rw [fu] at e
    cases e
    exact upd_same
  · rw [upd_ne z]
    exact sf a o (by rw [upd_ne z]; exact e)
theorem ends_unlock (k : EndsOk K Z F DR D) (fu : F d = some u0) (hu : u0 = .dK kvs ∨ u0 = .frz ob (.dK kvs)) (zd : Z d = none)
    (hp : ∀ H' a, a ≠ d → post H' a = H' a) (hp2 : ∀ H', H' d = some (.frz ob (.dK kvs)) → post H' d = some (.dK kvs) ∨ post H' d = some (.frz ob (.dK kvs))) (hp3 : ∀ H', H' d = some (.frz ob (.dK kvs)) → u0 = .frz ob (.dK kvs) → post H' d = some u0)
    (dn : ∀ σ' H', H' d = some (.frz ob (.dK kvs)) → D.nx σ' (post H') → D'.nx σ' H') (dr : ∀ v H', H' d = some (.frz ob (.dK kvs)) → D.rt v (post H') → D'.rt v H')
    (db : ∀ σ' H', H' d = some (.frz ob (.dK kvs)) → D.bk σ' (post H') → D'.bk σ' H') (dc : ∀ σ' H', H' d = some (.frz ob (.dK kvs)) → D.ct σ' (post H') → D'.ct σ' H') : EndsOk K Z (upd F d (.frz ob (.dK kvs))) DR D' := by
  have fd : ∀ {F' : Hp}, Same (upd F d (.frz ob (.dK kvs))) F' → F' d = some (.frz ob (.dK kvs)) := fun sf => sf _ _ upd_same
  have hd : ∀ {F' H' : Hp} {σ' : L2.St} {ρ' : Ms}, Same (upd F d (.frz ob (.dK kvs))) F' → Stt K Z F' H' σ' ρ' → H' d = some (.frz ob (.dK kvs)) := fun sf S => S.fh.frz (fd sf)
  have un : ∀ {F' H' : Hp} {σ' : L2.St} {ρ' : Ms}, Same (upd F d (.frz ob (.dK kvs))) F' → Stt K Z F' H' σ' ρ' → Stt K Z (upd F' d u0) (post H') σ' ρ' := fun {F' H' σ' ρ'} sf S => S.unlock (fd sf) (.inr rfl) zd hu (hp H') (hp2 H' (hd sf S)) (hp3 H' (hd sf S))
  refine ⟨fun ρ' σ' F' H' a sf S => dn σ' H' (hd sf S) (k.nx ρ' σ' _ _ a (same_unlock fu sf) (un sf S)), fun x ρ' v σ' F' H' a sf S r => dr v H' (hd sf S) (k.rt x ρ' v σ' _ _ a (same_unlock fu sf) (un sf S) (r.unlock (fd sf) (.inr rfl) hu)),
    fun x ρ' b σ' F' H' a sf S fb zb c aw => ?_, fun ρ' σ' F' H' a sf S => db σ' H' (hd sf S) (k.bk ρ' σ' _ _ a (same_unlock fu sf) (un sf S)), fun ρ' σ' F' H' a sf S => dc σ' H' (hd sf S) (k.ct ρ' σ' _ _ a (same_unlock fu sf) (un sf S))⟩
  have hb : b ≠ d := fun z => by rw [z, fd sf] at fb; cases fb
  exact dr (.ref b) H' (hd sf S) (k.ro x ρ' b σ' _ _ a (same_unlock fu sf) (un sf S) (by rw [upd_ne hb]; exact fb) zb (c.unlock (fd sf) (.inr rfl) hu (hp H' b hb)) aw)
end
section
variable {X : Cx} {pos p : Pos} {x : Str} {tg : Expr} {body : List Stmt} {g : MG} {tb : MS} {i : Nat}
theorem gs_forK (hp : PassesOwn (model X.prog X.w) X.A X.env X.xe) (hc : X.calm = true) (hv : PE X (.Name x p) (tVar i)) (hg : PG X tg (LG X g)) (hb : PSs X body (LS X Wish.no tb))
    (hs : ∀ y, foldedSetIterable (.Name x p) X.env y = pure y := by intro _; rfl) : PS X (.For tg (.Name x p) body [] pos) (LS X Wish.no (mForK i g tb)) := by
  have base := ps_for (pos := pos) hp hc (pi_keys hv) hg hb hs
  have lock := ps_lock base
  refine ⟨fun pins s σ H D I h => ?_⟩
  obtain ⟨Z, F, ρ, DR, S, w, t, k⟩ := h
  unfold mForK at t
  split at t
  · rename_i es e'
    obtain ⟨v, hv1, hr⟩ := S.sl i _ (slot_some e' (fun q => nomatch q))
    cases hr with
    | @dct d kvs _ h1 h2 =>
      have fd0 : F d ≠ none := by rcases h1 with h1 | ⟨o, h1⟩ <;> (rw [h1]; exact fun z => nomatch z)
      have zd : Z d = none := by
        cases z : Z d with
        | none => rfl
        | some o => exact (fd0 (S.zf d (by rw [z]; simp))).elim
      have core : ∀ (HL : Hp) (ob : Obj) (D' : Ends), Stt X.K Z (upd F d (.frz ob (.dK kvs))) HL σ ρ → HL d = some (.frz ob (.dK kvs)) → EndsOk X.K Z (upd F d (.frz ob (.dK kvs))) DR D' → RepKV X.K (upd F d (.frz ob (.dK kvs))) kvs es →
          tFor (iKeys (tVar i)) (LG X g) (LS X Wish.no tb) D' σ HL := fun HL ob D' SL hL kk r =>
        ⟨.ref d, at_some hv1, d, ob, rfl, .inl ⟨kvs, hL, for_low SL (walk_keys upd_same r) t WOk.no kk⟩⟩
      rcases S.fh.rd h1 with hH | ⟨ob, hH⟩
      · -- it is locked now
        have fu : F d = some (.dK kvs) := by
          rcases h1 with h1 | ⟨o, h1⟩
          · exact h1
          · have := S.fh.frz h1; rw [hH] at this; cases this
        refine lock.run pins s σ H D I ⟨d, .dK kvs, hH, (by first | trivial | exact True.intro | simp [Mut]), fun od => ?_⟩
        have sw : SameW F (upd F d (.frz od (.dK kvs))) := fun a o e => by
          by_cases z : a = d
          · subst z
            rw [fu] at e; cases e
            exact .inr ⟨od, kvs, rfl, upd_same⟩
          · exact .inl (by rw [upd_ne z]; exact e)
        have SL : Stt X.K Z (upd F d (.frz od (.dK kvs))) (upd H d (.frz od (.dK kvs))) σ ρ := S.unlock (ob := od) (kvs := kvs) fu (.inl rfl) zd (.inr rfl) (fun a z => upd_ne z) (.inr upd_same) fun _ => upd_same
        refine core _ od _ SL upd_same ?_ (h2.monoW sw)
        refine ends_unlock (post := fun H' => upd H' d (.dK kvs)) k fu (.inl rfl) zd (fun H' a z => upd_ne z) (fun H' _ => .inl upd_same) (fun H' _ z => nomatch z) ?_ ?_ ?_ ?_
        · exact fun σ' H' a b => ⟨a, b⟩
        · exact fun σ' H' a b => ⟨a, b⟩
        · exact fun σ' H' a b => ⟨a, b⟩
        · exact fun σ' H' a b => ⟨a, b⟩
      · -- it is locked already
        obtain ⟨u0, fu, hu⟩ : ∃ u0, F d = some u0 ∧ (u0 = .dK kvs ∨ u0 = .frz ob (.dK kvs)) := by
          rcases h1 with h1 | ⟨o, h1⟩
          · exact ⟨_, h1, .inl rfl⟩
          · have := S.fh.frz h1
            rw [hH] at this; cases this
            exact ⟨_, h1, .inr rfl⟩
        have sw : SameW F (upd F d (.frz ob (.dK kvs))) := fun a o e => by
          by_cases z : a = d
          · subst z
            rw [fu] at e; cases e
            rcases hu with rfl | rfl
            · exact .inr ⟨ob, kvs, rfl, upd_same⟩
            · exact .inl upd_same
          · exact .inl (by rw [upd_ne z]; exact e)
        have SL : Stt X.K Z (upd F d (.frz ob (.dK kvs))) H σ ρ := S.unlock (ob := ob) (kvs := kvs) fu hu zd (.inr rfl) (fun a z => rfl) (.inr hH) fun _ => hH
        refine base.run pins s σ H D I (core H ob D SL hH ?_ (h2.monoW sw))
        exact ends_unlock (post := fun H' => H') k fu hu zd (fun H' a z => rfl) (fun H' e => .inr e) (fun H' e z => by rw [z]; exact e) (fun _ _ _ b => b) (fun _ _ _ b => b) (fun _ _ _ b => b) fun _ _ _ b => b
  · exact t.elim
variable {elt : Expr} {ifs : List Expr} {scope : Scope} {own : List (Str × Nat)} {tt : MB} {te : ME}
def mLcK (i : Nat) (g : MG) (tt : MB) (te : ME) (vs : List Nat) : ME := fun ρ R => match slot ρ i with
  | .dat (.dict es) => es.length ≤ 1000 ∧ mLcL g tt te vs (fun acc ρ2 => R (.list acc) (backM ρ ρ2 vs)) (es.map (·.1)) [] (wipeM ρ vs)
  | _ => False
theorem gn_lcK (hc : X.calm = true) (hN : X.N.Nodup) (hv : PE X (.Name x p) (tVar i)) (ok : BlkOk X.N X.env.scope scope own)
    (hg : ∀ (s : Shared) (H : Hp) (C : Addr) (cl : List (Str × Addr)) (fp : List Addr), PG (X.blk s H scope (compEnvC scope cl C X.env) fp) tg (lG X.K (some (own.map (·.2))) g)) (ht : ∀ (s : Shared) (H : Hp) (C : Addr) (cl : List (Str × Addr)) (fp : List Addr), PTs (X.blk s H scope (compEnvC scope cl C X.env) fp) ifs (lB X.K X.mg Wish.no tt))
    (he : ∀ (s : Shared) (H : Hp) (C : Addr) (cl : List (Str × Addr)) (fp : List Addr), PE (X.blk s H scope (compEnvC scope cl C X.env) fp) elt (lE X.K X.mg Wish.no te)) (hs : ∀ y, foldedSetIterable (.Name x p) X.env y = pure y := by intro _; rfl) :
    PE X (.ListComp elt [⟨tg, .Name x p, ifs, 0⟩] scope pos) (LN X Wish.no (mLcK i g tt te (own.map (·.2)))) := by
  have base := pe_lc (pos := pos) hc hN (pi_keys hv) ok hg ht he hs
  have lock := pe_lock base
  refine ⟨fun pins s σ H Q I h => ?_⟩
  obtain ⟨Z, F, ρ, R, S, w, t, q⟩ := h
  unfold mLcK at t
  split at t
  · rename_i es e'
    obtain ⟨hz, t⟩ := t
    obtain ⟨v, hv1, hr⟩ := S.sl i _ (slot_some e' (fun q => nomatch q))
    cases hr with
    | @dct d kvs _ h1 h2 =>
      have fd0 : F d ≠ none := by rcases h1 with h1 | ⟨o, h1⟩ <;> (rw [h1]; exact fun z => nomatch z)
      have zd : Z d = none := by
        cases z : Z d with
        | none => rfl
        | some o => exact (fd0 (S.zf d (by rw [z]; simp))).elim
      have hz' : (es.map (·.1)).length ≤ sizeLine := by rw [List.length_map]; exact Nat.le_trans hz (by decide)
      have core : ∀ (HL : Hp) (ob : Obj) (Q' : VK), Stt X.K Z (upd F d (.frz ob (.dK kvs))) HL σ ρ → HL d = some (.frz ob (.dK kvs)) → RepKV X.K (upd F d (.frz ob (.dK kvs))) kvs es →
          (∀ c ρ' a F' H', R c ρ' → Same (upd F d (.frz ob (.dK kvs))) F' → Stt X.K Z F' H' σ ρ' → F' a = none → Z a = none → Cont X.K F' H' a c → (∀ i s, ρ'[i]? = some s → ¬ mutA (at_ σ i) s a) → Q' (.ref a) H') →
          tLc (iKeys (tVar i)) (lG X.K (some (own.map (·.2))) g) (lB X.K X.mg Wish.no tt) (lE X.K X.mg Wish.no te) (own.map (·.2)) σ HL Q' := fun HL ob Q' SL hL r kk =>
        ⟨.ref d, at_some hv1, d, ob, rfl, .inl ⟨kvs, hL, lc_low2 SL (walk_keys upd_same r) hz' t kk⟩⟩
      rcases S.fh.rd h1 with hH | ⟨ob, hH⟩
      · have fu : F d = some (.dK kvs) := by
          rcases h1 with h1 | ⟨o, h1⟩
          · exact h1
          · have := S.fh.frz h1; rw [hH] at this; cases this
        refine lock.run pins s σ H Q I ⟨d, .dK kvs, hH, (by first | trivial | exact True.intro | simp [Mut]), fun od => ?_⟩
        have sw : SameW F (upd F d (.frz od (.dK kvs))) := fun a o e => by
          by_cases z : a = d
          · subst z
            rw [fu] at e; cases e
            exact .inr ⟨od, kvs, rfl, upd_same⟩
          · exact .inl (by rw [upd_ne z]; exact e)
        have SL : Stt X.K Z (upd F d (.frz od (.dK kvs))) (upd H d (.frz od (.dK kvs))) σ ρ := S.unlock (ob := od) (kvs := kvs) fu (.inl rfl) zd (.inr rfl) (fun a z => upd_ne z) (.inr upd_same) fun _ => upd_same
        refine core _ od _ SL upd_same (h2.monoW sw) fun c ρ' a F' H' hr sf S' fa za ct aw => ?_
        have fd' : F' d = some (.frz od (.dK kvs)) := sf _ _ upd_same
        have ha : a ≠ d := fun z => by rw [z, fd'] at fa; cases fa
        refine ⟨S'.fh.frz fd', ?_⟩
        have S2 : Stt X.K Z (upd F' d (.dK kvs)) (upd H' d (.dK kvs)) σ ρ' := S'.unlock fd' (.inr rfl) zd (.inl rfl) (fun a z => upd_ne z) (.inl upd_same) fun z => nomatch z
        exact q c ρ' a _ _ hr (same_unlock fu sf) S2 (by rw [upd_ne ha]; exact fa) za (ct.unlock fd' (.inr rfl) (.inl rfl) (upd_ne ha)) aw
      · obtain ⟨u0, fu, hu⟩ : ∃ u0, F d = some u0 ∧ (u0 = .dK kvs ∨ u0 = .frz ob (.dK kvs)) := by
          rcases h1 with h1 | ⟨o, h1⟩
          · exact ⟨_, h1, .inl rfl⟩
          · have := S.fh.frz h1
            rw [hH] at this; cases this
            exact ⟨_, h1, .inr rfl⟩
        have sw : SameW F (upd F d (.frz ob (.dK kvs))) := fun a o e => by
          by_cases z : a = d
          · subst z
            rw [fu] at e; cases e
            rcases hu with rfl | rfl
            · exact .inr ⟨ob, kvs, rfl, upd_same⟩
            · exact .inl upd_same
          · exact .inl (by rw [upd_ne z]; exact e)
        have SL : Stt X.K Z (upd F d (.frz ob (.dK kvs))) H σ ρ := S.unlock (ob := ob) (kvs := kvs) fu hu zd (.inr rfl) (fun a z => rfl) (.inr hH) fun _ => hH
        refine base.run pins s σ H Q I (core H ob Q SL hH (h2.monoW sw) fun c ρ' a F' H' hr sf S' fa za ct aw => ?_)
        have fd' : F' d = some (.frz ob (.dK kvs)) := sf _ _ upd_same
        have ha : a ≠ d := fun z => by rw [z, fd'] at fa; cases fa
        have S2 : Stt X.K Z (upd F' d u0) H' σ ρ' := S'.unlock fd' (.inr rfl) zd hu (fun a z => rfl) (.inr (S'.fh.frz fd')) fun z => by rw [z]; exact S'.fh.frz fd'
        exact q c ρ' a _ _ hr (same_unlock fu sf) S2 (by rw [upd_ne ha]; exact fa) za (ct.unlock fd' (.inr rfl) hu rfl) aw
  · exact t.elim
end
end G


set_option Elab.async false
set_option maxRecDepth 100000
set_option maxHeartbeats 1000000
/-! GV20: a list of one's own is walked; lent to a def; remove; {k: v}; list(d.values()); d.pop(k). -/
namespace G
open PySem PySem.Spec PyProof.Rows L2
section
variable {K : PySem.W.Frag} {Z F H : Hp} {σ : L2.St} {ρ : Ms}
/-- a slot is told otherwise -/
theorem Stt.tell (S : Stt K Z F H σ ρ) (i : Nat) {s : Sl} (h : SlOk K Z F H (at_ σ i) s) (ha : ∀ a, mutA (at_ σ i) s a → ∀ j t, ρ[j]? = some t → ¬ mutA (at_ σ j) t a) : Stt K Z F H σ (ρ.set i s) := by
  have key : ∀ j t, (ρ.set i s)[j]? = some t → (j = i ∧ t = s) ∨ (j ≠ i ∧ ρ[j]? = some t) := fun j t e => by
    by_cases hj : i = j
    · subst hj
      have hl : i < (ρ.set i s).length := (List.getElem?_eq_some_iff.mp e).1
      rw [List.length_set] at hl
      rw [List.getElem?_set_self hl] at e
      cases e
      exact .inl ⟨rfl, rfl⟩
    · rw [List.getElem?_set_ne hj] at e
      exact .inr ⟨fun z => hj z.symm, e⟩
  refine ⟨S.fh, S.zh, S.zf, by rw [List.length_set]; exact S.len, fun j t e => ?_, fun j k t u a e1 e2 m1 m2 => ?_⟩
  · rcases key j t e with ⟨rfl, rfl⟩ | ⟨_, q⟩
    · exact h
    · exact S.sl j t q
  · rcases key j t e1 with ⟨a1, b1⟩ | ⟨a1, q1⟩ <;> rcases key k u e2 with ⟨a2, b2⟩ | ⟨a2, q2⟩
    · rw [a1, a2]
    · rw [a1, b1] at m1
      exact (ha a m1 k u q2 m2).elim
    · rw [a2, b2] at m2
      exact (ha a m2 j t q1 m1).elim
    · exact S.ap j k t u a q1 q2 m1 m2
/-- an own container is put aside -/
theorem Stt.aside (S : Stt K Z F H σ ρ) {i : Nat} {d : PyData} (e : ρ[i]? = some (.own d)) {a : Addr} (ha : at_ σ i = some (.ref a)) {o : HO} (ho : H a = some o) : Stt K (upd Z a o) F H σ (ρ.set i (.raw (.ref a))) := by
  obtain ⟨b, e1, za, fa, _⟩ := S.sl i _ e
  rw [ha] at e1; cases e1
  have S1 := S.tell i (s := .raw (.ref a)) ha fun b m => (noMut_raw m).elim
  refine S1.holdZ fa za ho fun j t ej m => ?_
  by_cases hj : i = j
  · subst hj
    have hl : i < (ρ.set i (.raw (.ref a))).length := (List.getElem?_eq_some_iff.mp ej).1
    rw [List.length_set] at hl
    rw [List.getElem?_set_self hl] at ej
    cases ej
    exact noMut_raw m
  · rw [List.getElem?_set_ne hj] at ej
    exact hj (S.ap i j _ t a e ej (.inl ⟨ha, .inl ⟨d, rfl⟩⟩) m)
/-- and given back -/
theorem Stt.given (S : Stt K (upd Z a o) F H σ ρ) (z : Z a = none) {i : Nat} (e : slot ρ i = .raw (.ref a)) {d : PyData} (c : F a = none → H a = some o → Cont K F H a d) : Stt K Z F H σ (ρ.set i (.own d)) := by
  obtain ⟨S1, fa, ha, aw⟩ := S.inner z
  have e1 : at_ σ i = some (.ref a) := S1.sl i _ (slot_some e (fun q => nomatch q))
  refine S1.tell i ⟨a, e1, z, fa, c fa ha⟩ fun b m j t ej => ?_
  have eb := mut_own m
  rw [e1] at eb; cases eb
  exact aw j t ej
end
theorem walk_own {K : PySem.W.Frag} {Z F : Hp} {a : Addr} {xs : List V} {ds : List PyData} (r : RepAll K F xs ds) : WalkOn K (upd Z a (.lst xs)) F (Itl K a) ds := fun F' H' sf sw sz => by
  have hs : SqL K H' a xs := SqL.of (sz _ _ upd_same)
  refine ⟨fun i hi => ⟨xs, _, hs, List.getElem?_eq_getElem (by rw [r.length]; exact hi)⟩, ⟨xs, hs, by rw [r.length]; exact Nat.le_refl _⟩, fun i x H'' hi y => ⟨y.1, ?_⟩⟩
  obtain ⟨d, e1, e2⟩ := r.get' (y.2 xs hs)
  exact ⟨d, e1, e2.mono sf⟩
/-- for over a list of one's own: its slot is put aside the while -/
def mForO (i : Nat) (g : MG) (tb : MS) : MS := fun D ρ => match slot ρ i with
  | .own (.list ds) => ∀ a : Addr, mForL g tb { D with nx := fun ρ' => slot ρ' i = .raw (.ref a) ∧ D.nx (ρ'.set i (.own (.list ds))), bk := fun _ => False, ct := fun _ => False } ds (ρ.set i (.raw (.ref a)))
  | _ => False
def mLcO (i : Nat) (g : MG) (tt : MB) (te : ME) (vs : List Nat) : ME := fun ρ R => match slot ρ i with
  | .own (.list ds) => ∀ a : Addr, mLcL g tt te vs (fun acc ρ2 => slot (backM (ρ.set i (.raw (.ref a))) ρ2 vs) i = .raw (.ref a) ∧ R (.list acc) ((backM (ρ.set i (.raw (.ref a))) ρ2 vs).set i (.own (.list ds)))) ds [] (wipeM (ρ.set i (.raw (.ref a))) vs)
  | _ => False
section
variable {X : Cx} {pos p : Pos} {x : Str} {tg : Expr} {body : List Stmt} {g : MG} {tb : MS} {i : Nat}
theorem gs_forO (hp : PassesOwn (model X.prog X.w) X.A X.env X.xe) (hc : X.calm = true) (hv : PE X (.Name x p) (tVar i)) (hg : PG X tg (LG X g)) (hb : PSs X body (LS X Wish.no tb))
    (hs : ∀ y, foldedSetIterable (.Name x p) X.env y = pure y := by intro _; rfl) : PS X (.For tg (.Name x p) body [] pos) (LS X Wish.no (mForO i g tb)) := by
  refine PSw (ps_for hp hc (pi_seq hv) hg hb hs) ?_
  rintro D σ H ⟨Z, F, ρ, DR, S, w, t, k⟩
  unfold mForO at t
  split at t
  · rename_i ds e'
    have hi := slot_some e' (fun q => nomatch q)
    obtain ⟨a, ha, za, fa, xs, h1, h2, h3⟩ := S.sl i _ hi
    have S0 := S.aside hi ha h1
    have gv : ∀ {F' H' : Hp} {σ' : L2.St} {ρ' : Ms}, Same F F' → Stt X.K (upd Z a (.lst xs)) F' H' σ' ρ' → slot ρ' i = .raw (.ref a) → Stt X.K Z F' H' σ' (ρ'.set i (.own (.list ds))) := fun sf S' e => S'.given za e fun _ hh => ⟨xs, hh, h2.mono sf, h3⟩
    refine ⟨.ref a, at_some ha, a, rfl, .inl ⟨⟨xs, SqL.of h1⟩, for_low S0 (walk_own h2) (t a) WOk.no ?_⟩⟩
    refine ⟨fun ρ' σ' F' H' q sf S' => k.nx _ σ' F' H' q.2 sf (gv sf S' q.1), fun x ρ' v σ' F' H' q sf S' r => k.rt x ρ' v σ' F' H' q sf (S'.inner za).1 r, fun x ρ' b σ' F' H' q sf S' fb zb c aw => ?_, fun _ _ _ _ q => q.elim, fun _ _ _ _ q => q.elim⟩
    refine k.ro x ρ' b σ' F' H' q sf (S'.inner za).1 fb ?_ c aw
    have hb : b ≠ a := fun z => by rw [z, upd_same] at zb; cases zb
    rw [upd_ne hb] at zb; exact zb
  · exact t.elim
variable {elt : Expr} {ifs : List Expr} {scope : Scope} {own : List (Str × Nat)} {tt : MB} {te : ME}
theorem lcO_low {vs : List Nat} {σ : L2.St} {H : Hp} {Q : VK} (h : LN X Wish.no (mLcO i g tt te vs) σ H Q) : tLc (fun σ H R => tVar i σ H fun x H1 => ∃ a, x = .ref a ∧ (((∃ xs, SqL X.K H1 a xs) ∧ R (Itl X.K a) H1) ∨ ((∃ xs, SqT X.K H1 a xs) ∧ R (Itt X.K a) H1))) (lG X.K (some vs) g) (lB X.K X.mg Wish.no tt) (lE X.K X.mg Wish.no te) vs σ H Q := by
  obtain ⟨Z, F, ρ, R, S, w, t, q⟩ := h
  unfold mLcO at t
  split at t
  · rename_i ds e'
    have hi := slot_some e' (fun q => nomatch q)
    obtain ⟨a, ha, za, fa, xs, h1, h2, h3⟩ := S.sl i _ hi
    have S0 := S.aside hi ha h1
    refine ⟨.ref a, at_some ha, a, rfl, .inl ⟨⟨xs, SqL.of h1⟩, ?_⟩⟩
    refine lc_low2 (R := fun d ρ' => slot ρ' i = .raw (.ref a) ∧ R d (ρ'.set i (.own (.list ds)))) S0 (walk_own h2) h3 (t a) fun d ρ' b F' H' hr sf S' fb zb c aw => ?_
    have hb : b ≠ a := fun z => by rw [z, upd_same] at zb; cases zb
    have zb' : Z b = none := by rw [upd_ne hb] at zb; exact zb
    refine q d _ b F' H' hr.2 sf (S'.given za hr.1 fun _ hh => ⟨xs, hh, h2.mono sf, h3⟩) fb zb' c fun j s ej m => ?_
    by_cases hj : i = j
    · subst hj
      have hl : i < (ρ'.set i (.own (.list ds))).length := (List.getElem?_eq_some_iff.mp ej).1
      rw [List.length_set] at hl
      rw [List.getElem?_set_self hl] at ej
      cases ej
      have eb := mut_own m
      rw [ha] at eb; cases eb
      exact hb rfl
    · rw [List.getElem?_set_ne hj] at ej
      exact aw j s ej m
  · exact t.elim
theorem gn_lcO (hc : X.calm = true) (hN : X.N.Nodup) (hv : PE X (.Name x p) (tVar i)) (ok : BlkOk X.N X.env.scope scope own)
    (hg : ∀ (s : Shared) (H : Hp) (C : Addr) (cl : List (Str × Addr)) (fp : List Addr), PG (X.blk s H scope (compEnvC scope cl C X.env) fp) tg (lG X.K (some (own.map (·.2))) g)) (ht : ∀ (s : Shared) (H : Hp) (C : Addr) (cl : List (Str × Addr)) (fp : List Addr), PTs (X.blk s H scope (compEnvC scope cl C X.env) fp) ifs (lB X.K X.mg Wish.no tt))
    (he : ∀ (s : Shared) (H : Hp) (C : Addr) (cl : List (Str × Addr)) (fp : List Addr), PE (X.blk s H scope (compEnvC scope cl C X.env) fp) elt (lE X.K X.mg Wish.no te)) (hs : ∀ y, foldedSetIterable (.Name x p) X.env y = pure y := by intro _; rfl) :
    PE X (.ListComp elt [⟨tg, .Name x p, ifs, 0⟩] scope pos) (LN X Wish.no (mLcO i g tt te (own.map (·.2)))) := by
  exact PEw (pe_lc (pos := pos) hc hN (pi_seq hv) ok hg ht he hs) fun _ _ _ => lcO_low
theorem gs_setLcO {y : Str} {j : Nat} {py spos : Pos} (hc : X.calm = true) (hN : X.N.Nodup) (hy : X.N[j]? = some y) (hyl : X.env.scope.names.lookup y = some .local)
    (hsw : swapsWith (.ListComp elt [⟨tg, .Name x p, ifs, 0⟩] scope pos) (some (.Name y py)) spos.line X.env = pure true) (hv : PE X (.Name x p) (tVar i)) (ok : BlkOk X.N X.env.scope scope own)
    (hg : ∀ (s : Shared) (H : Hp) (C : Addr) (cl : List (Str × Addr)) (fp : List Addr), PG (X.blk s H scope (compEnvC scope cl C X.env) fp) tg (lG X.K (some (own.map (·.2))) g)) (ht : ∀ (s : Shared) (H : Hp) (C : Addr) (cl : List (Str × Addr)) (fp : List Addr), PTs (X.blk s H scope (compEnvC scope cl C X.env) fp) ifs (lB X.K X.mg Wish.no tt))
    (he : ∀ (s : Shared) (H : Hp) (C : Addr) (cl : List (Str × Addr)) (fp : List Addr), PE (X.blk s H scope (compEnvC scope cl C X.env) fp) elt (lE X.K X.mg Wish.no te)) (hs : ∀ y, foldedSetIterable (.Name x p) X.env y = pure y := by intro _; rfl) :
    PS X (.Assign [.Name y py] (.ListComp elt [⟨tg, .Name x p, ifs, 0⟩] scope pos) spos) (LS X Wish.no (mSet j (mLcO i g tt te (own.map (·.2))))) := by
  refine PSw (ps_setLc hc hN hy hyl hsw (pi_seq hv) ok hg ht he hs) ?_
  rintro D σ H ⟨Z, F, ρ, DR, S, w, t, k⟩
  have t : mLcO i g tt te (own.map (·.2)) ρ (fun d ρ1 => mGN j d ρ1 DR.nx) := t
  refine lcO_low (lN_of_lE ⟨Z, F, ρ, _, S, w, t, fun d ρ1 v F1 H1 t1 sf1 S1 r1 => ?_⟩)
  refine k.nx _ _ F1 H1 ?_ sf1 (S1.putDat j r1)
  unfold mGN at t1
  split at t1
  · exact t1.elim
  · exact t1
end

/-! ### {k: v} -/
def mDict1 (tk te : ME) : ME := fun ρ R => tk ρ fun d ρ1 => te ρ1 fun y ρ2 => match d with
  | .str k => R (.dict [(.str k, y)]) ρ2
  | _ => False
section
variable {X : Cx} {W : Wish} {pos : Pos} {k v : Expr} {tk te : ME}
theorem gn_d1 (hk : PE X k (LE X Wish.no tk)) (hv : PE X v (LE X Wish.no te)) : PE X (.Dict [some k] [v] pos) (LN X Wish.no (mDict1 tk te)) := by
  refine PEw (pe_disp (pps_cons hk hv pps_nil) rfl rfl (by simp) (by simp)) ?_
  rintro σ H Q ⟨Z, F, ρ, R, S, w, t, q⟩
  intro p hp
  have zp : Z p = none := S.zh.free hp
  have fp : F p = none := S.fh.free hp
  have S0 : Stt X.K (upd Z p (.dK [])) F (upd H p (.dK [])) σ ρ := (S.lay _ hp).outer fp upd_same (S.newAway hp)
  refine ⟨upd Z p (.dK []), F, ρ, _, S0, WOk.no, t, fun d ρ1 x F1 H1 t1 sf1 S1 r1 => ?_⟩
  refine ⟨upd Z p (.dK []), F1, ρ1, _, S1, WOk.no, t1, fun y ρ2 u F2 H2 t2 sf2 S2 r2 => ?_⟩
  obtain ⟨S3, f3, h3, aw⟩ := S2.inner zp
  cases r1 with
  | str x =>
    refine ⟨h3, [((Sum.inr x : Key), u)], rfl, by simp, ?_⟩
    have S4 := S2.outerPut (o' := .dK [((Sum.inr x : Key), u)]) zp
    obtain ⟨S5, f5, h5, aw5⟩ := S4.inner zp
    exact q _ ρ2 p F2 _ t2 (sf1.trans sf2) S5 f5 zp ⟨_, h5, .cons r2 .nil⟩ aw5
  | _ => exact t2.elim
end

/-! ### a list of one's own is lent to a def that answers with no list -/
mutual
def noL : PyData → Bool
  | .list _ => false
  | .tuple ds => noLs ds
  | .dict es => noLd es
  | _ => true
def noLs : List PyData → Bool
  | [] => true
  | d :: ds => noL d && noLs ds
def noLd : List (PyData × PyData) → Bool
  | [] => true
  | e :: es => noL e.2 && noLd es
end
def drop1 (F : Hp) (a : Addr) : Hp := fun b => if b = a then none else F b
theorem drop1_ne {F : Hp} {a b : Addr} (h : b ≠ a) : drop1 F a b = F b := if_neg h
theorem drop1_self {F : Hp} {a : Addr} : drop1 F a a = none := if_pos rfl
section
variable {K : PySem.W.Frag} {F : Hp} {a : Addr} {xs0 : List V}
mutual
theorem Rep.drop1 (fa : F a = some (.lst xs0)) : ∀ {v : V} {d : PyData}, noL d = true → Rep K F v d → Rep K (drop1 F a) v d
  | _, _, _, .non => .non
  | _, _, _, .bl b => .bl b
  | _, _, _, .int i => .int i
  | _, _, _, .str x => .str x
  | _, _, h, .lst _ _ _ => by simp [noL] at h
  | _, _, h, .tup e r z => .tup (e.imp (fun ⟨o, e, n⟩ => ⟨o, by rw [drop1_ne (fun y => by rw [y, fa] at e; cases e)]; exact e, n⟩) id) (RepAll.drop1 fa (by simpa [noL] using h) r) z
  | _, _, h, .dct e r => .dct (by
      rcases e with e | ⟨o, e⟩
      · exact .inl (by rw [drop1_ne (fun y => by rw [y, fa] at e; cases e)]; exact e)
      · exact .inr ⟨o, by rw [drop1_ne (fun y => by rw [y, fa] at e; cases e)]; exact e⟩) (RepKV.drop1 fa (by simpa [noL] using h) r)
theorem RepAll.drop1 (fa : F a = some (.lst xs0)) : ∀ {vs : List V} {ds : List PyData}, noLs ds = true → RepAll K F vs ds → RepAll K (drop1 F a) vs ds
  | _, _, _, .nil => .nil
  | _, _, h, .cons e r => by
    have h' := (Bool.and_eq_true _ _).mp (by simpa [noLs] using h : (noL _ && noLs _) = true)
    exact .cons (Rep.drop1 fa h'.1 e) (RepAll.drop1 fa h'.2 r)
theorem RepKV.drop1 (fa : F a = some (.lst xs0)) : ∀ {vs : List (Key × V)} {ds : List (PyData × PyData)}, noLd ds = true → RepKV K F vs ds → RepKV K (drop1 F a) vs ds
  | _, _, _, .nil => .nil
  | _, _, h, .cons e r => by
    have h' := (Bool.and_eq_true _ _).mp (by simpa [noLd] using h : (noL _ && noLd _) = true)
    exact .cons (Rep.drop1 fa h'.1 e) (RepKV.drop1 fa h'.2 r)
end
end
theorem RepAll.of_get {K : PySem.W.Frag} {H : Hp} : ∀ {vs : List V} {ds : List PyData}, vs.length = ds.length → (∀ (j : Nat) v d, vs[j]? = some v → ds[j]? = some d → Rep K H v d) → RepAll K H vs ds
  | [], [], _, _ => .nil
  | v :: vs, d :: ds, h, q => .cons (q 0 v d rfl rfl) (RepAll.of_get (Nat.succ.inj h) fun j a b h1 h2 => q (j + 1) a b h1 h2)
  | [], _ :: _, h, _ => by simp at h
  | _ :: _, [], h, _ => by simp at h
def mCallL (t : PSp) (RE : Str → Prop) (m i : Nat) (ta : MA) : ME := fun ρ R => ta ρ fun ds ρ1 => match slot ρ1 i with
  | .own (.list xs) => t ((ds.map Sl.dat).set m (.dat (.list xs))) (fun r _ => noL r = true ∧ R r ρ1) RE
  | _ => False
section
variable {X : Cx} {W : Wish} {k : Nat} {ps : List Str} {x : Str} {p pos : Pos} {e : Expr} {es : List Expr} {t : PSp} {ta : MA} {n m i : Nat}
theorem callL_low {σ : L2.St} {H : Hp} {Q : VK} {Z F : Hp} {ρ : Ms} {R : PyData → Ms → Prop} {ds : List PyData} {vs : List V} (S1 : Stt X.K Z F H σ ρ) (w : WOk X.mg W Z F) (hl : ds.length = vs.length) (hm : m < vs.length)
    (hd : ∀ (j : Nat) d, j ≠ m → ds[j]? = some d → ∃ v, vs[j]? = some v ∧ Rep X.K F v d) (hv : ∃ v, vs[m]? = some v ∧ at_ σ i = some v)
    (t1 : match slot ρ i with
      | .own (.list xs) => t ((ds.map Sl.dat).set m (.dat (.list xs))) (fun r _ => noL r = true ∧ R r ρ) W.RE
      | _ => False) (q : ∀ d v F' H', R d ρ → Same F F' → Stt X.K Z F' H' σ ρ → Rep X.K F' v d → Q v H') : spD X.K X.mg vs.length t vs H Q W.E := by
  split at t1
  · rename_i xsd e'
    have hi := slot_some e' (fun q => nomatch q)
    obtain ⟨a, ha, za, fa, xs, h1, h2, h3⟩ := S1.sl i _ hi
    obtain ⟨v, hv1, hv2⟩ := hv
    rw [ha] at hv2; cases hv2
    have s0 : Same F (upd F a (.lst xs)) := same_upd fa
    have fh : SameW (upd F a (.lst xs)) H := fun b o eb => by
      by_cases hb : b = a
      · subst hb; rw [upd_same] at eb; cases eb; exact .inl h1
      · rw [upd_ne hb] at eb; exact S1.fh b o eb
    have ra : RepAll X.K (upd F a (.lst xs)) vs (ds.set m (.list xsd)) := by
      refine RepAll.of_get (by rw [List.length_set]; exact hl.symm) fun j u d e1 e2 => ?_
      by_cases hj : m = j
      · subst hj
        rw [List.getElem?_set_self (by omega)] at e2
        cases e2
        rw [hv1] at e1; cases e1
        exact .lst upd_same (h2.mono s0) h3
      · rw [List.getElem?_set_ne hj] at e2
        obtain ⟨v', e3, e4⟩ := hd j d (fun z => hj z.symm) e2
        rw [e1] at e3; cases e3
        exact e4.mono s0
    have Sc : Stt X.K (fun _ => none) (upd F a (.lst xs)) H [] [] := ⟨fh, fun _ _ e => (nomatch e), fun _ q => (q rfl).elim, rfl, fun i s e => by simp at e, fun i j s t a e => by simp at e⟩
    have Sd := Sc.callee ra
    rw [List.map_set] at Sd
    have zo : Same Z (outZ (upd F a (.lst xs)) H none) := fun b o eb => by
      have hb : b ≠ a := fun z => by rw [z, za] at eb; cases eb
      exact outZ_some.mpr ⟨by rw [upd_ne hb]; exact S1.zf b (by rw [eb]; simp), by simp, S1.zh b o eb⟩
    refine ⟨outZ (upd F a (.lst xs)) H none, upd F a (.lst xs), _, _, W.RE, rfl, Sd, t1, (w.mono s0).more zo, fun r ss' v' F' H' hr sf S' rv => ?_⟩
    have fa' : F' a = some (.lst xs) := sf _ _ upd_same
    have sF : Same F (drop1 F' a) := fun b o eb => by
      have hb : b ≠ a := fun z => by rw [z, fa] at eb; cases eb
      rw [drop1_ne hb]
      exact sf b o (by rw [upd_ne hb]; exact eb)
    refine q r v' (drop1 F' a) H' hr.2 sF ⟨fun b o eb => ?_, fun b o eb => S'.zh b o (zo b o eb), fun b qb => ?_, S1.len, fun j s ej => ?_, S1.ap⟩ (rv.drop1 fa' hr.1)
    · have hb : b ≠ a := fun z => by rw [z, drop1_self] at eb; cases eb
      rw [drop1_ne hb] at eb
      exact S'.fh b o eb
    · by_cases hb : b = a
      · rw [hb]; exact drop1_self
      · rw [drop1_ne hb]
        exact S'.zf b fun z => qb (zo.free z)
    · refine (S1.sl j s ej).move sF (fun b o mb ob => ?_) (fun b mb => (S1.mut ej mb).1) fun b mb => ?_
      · by_cases hb : b = a
        · subst hb
          rw [h1] at ob; cases ob
          exact S'.fh.lst fa'
        · exact S'.zh b o (outZ_some.mpr ⟨by rw [upd_ne hb]; exact (S1.mut ej mb).2.1, by simp, ob⟩)
      · by_cases hb : b = a
        · rw [hb]; exact drop1_self
        · rw [drop1_ne hb]
          obtain ⟨_, fb, o, ob⟩ := S1.mut ej mb
          refine S'.zf b fun z => ?_
          have := outZ_some.mpr ⟨(by rw [upd_ne hb]; exact fb : upd F a (.lst xs) b = none), (by simp : some b ≠ none), ob⟩
          rw [z] at this; cases this
  · exact t1.elim
theorem g_callL (F : Has X.prog X.w X.K X.mg X.base k x ps (spD X.K X.mg n t)) (hr : Room k X.A) (hg : Gl X x) (hx : Passes CX0 X W.E)
    (ha : PA X (e :: es) (lAr X.K X.mg W n m i ta)) (hdb : (x == ("__debug__" : Str)) = false := by decide) (he : starEach (e :: es) X.env = (false, eval e X.env) :: starEach es X.env := by rfl) (hpl : (backTo pos (starEach es X.env)).any (·.1) = false := by rfl) :
    PE X (.Call (.Name x p) (e :: es) [] pos) (LE X W (mCallL t W.RE m i ta)) := by
  obtain ⟨f, fd, F, hm, hk, hb⟩ := F
  refine PEw (pe_call F hr hg hm hk hb .nil hx ha hdb he hpl) ?_
  rintro σ H Q ⟨Z, F, ρ, R, S, w, t, q⟩
  refine ⟨Z, F, ρ, _, S, w, t, fun ds ρ1 vs F1 H1 t1 sf1 S1 l1 l2 hp hd hv => ?_⟩
  dsimp only
  rw [List.append_nil]
  subst l2
  exact callL_low S1 (w.mono sf1) l1 hp hd hv t1 fun d v F' H' hr sf => q d ρ1 v F' H' hr (sf1.trans sf)
end
end G


set_option Elab.async false
set_option maxRecDepth 100000
set_option maxHeartbeats 1000000
/-! GV21: remove; d.pop(k); list(d.values()). -/
namespace G
open PySem PySem.Spec PyProof.Rows L2
/-! ### remove -/
def rRemove (K : PySem.W.Frag) : V → List V → Hp → VK → Prop := fun x vs H Q => ∃ l xs y ds d j, x = .ref l ∧ vs = [y] ∧ H l = some (.lst xs) ∧ RepAll K H xs ds ∧ Rep K H y d ∧ Gd 60 (.list ds) ∧ Gd 60 d ∧ PySem.SeqAt.dataPlace ds d = some j ∧ Q .non (upd H l (.lst (xs.eraseIdx j)))
theorem mt_remove {X : Cx} (hu : X.A.units + 64 < cLine) : MtM X "list.remove" (rRemove X.K) := by
  intro pins s σ H x vs v us Q I rx rv h
  obtain ⟨l, xs, y, ds, d, j, rfl, rfl, hH, ra, ry, g1, g2, hp, q⟩ := h
  cases rx
  obtain ⟨u, rfl, ru⟩ := rv.one
  obtain ⟨z, its, n, r, hl, e⟩ := I.lstM hH
  have pa : PyData.plainAll ds = true := by simpa [PyData.plain] using g1.pl
  obtain ⟨as, rs⟩ := Dp.readsAll I ds xs its (ra.dp pa) r
  obtain ⟨bs, rx⟩ := ry.reads I g2.pl ru
  refine PySem.SeqAt.remove_list_data (vs := its.toArray) (l := l) ⟨_, e, rfl, n, rfl⟩ (by simpa using rs) rx pa g2.pl ?_ hp (by rw [List.size_toArray]; omega) ?_
  · have h1 := g2.dp
    have h2 : min (PyData.depthAll ds) d.depth ≤ d.depth := Nat.min_le_right _ _
    omega
  refine ⟨.non, _, I.lset (t' := s.toks) (its' := its.eraseIdx j) hH e (by rw [List.eraseIdxIfInBounds_toArray]) (r.eraseIdx j) ?_, rfl, q⟩
  have := len_erase xs j
  omega
def removeD : PyData → List PyData → (PyData → PyData → Prop) → Prop
  | .list ds, [y], R => Gd 60 (.list ds) ∧ Gd 60 y ∧ ∃ j, PySem.SeqAt.dataPlace ds y = some j ∧ R .none (.list (ds.eraseIdx j))
  | _, _, _ => False
theorem mr_remove {X : Cx} : MutR X (rRemove X.K) removeD := by
  intro F H a d xs ds R Q sw c ra h q
  unfold removeD at h
  split at h
  · rename_i ls y
    obtain ⟨zs, h1, h2, h3⟩ := c
    obtain ⟨g1, g2, j, hj, h⟩ := h
    cases ra with
    | @cons v _ _ _ ry ra =>
      cases ra
      exact ⟨a, zs, v, ls, y, j, rfl, rfl, h1, h2.monoW sw, ry.monoW sw, g1, g2, hj, q _ _ _ _ h .non ⟨h2.eraseIdx j, Nat.le_trans (len_erase _ _) h3⟩⟩
  · exact h.elim
/-! ### d.pop(k) of a dict of one's own -/
def mDPop (i : Nat) (tk : ME) : ME := fun ρ R => match slot ρ i with
  | .own (.dict _) => tk ρ fun k ρ1 => match k, slot ρ1 i with
    | .str x, .own (.dict es) => ∃ d, dget es x = some d ∧ R d (ρ1.set i (.own (.dict (ddrop es x))))
    | _, _ => False
  | _ => False
section
variable {X : Cx} {W : Wish} {x : Str} {p apos cpos : Pos} {e : Expr} {tk : ME} {i : Nat}
theorem g_dpop (ho : PE X (.Name x p) (tVar i)) (he : PE X e (LE X W tk)) (m : M1 X (.Name x p) "pop" apos e cpos) : PE X (.Call (.Attribute (.Name x p) "pop" apos) [e] [] cpos) (LE X W (mDPop i tk)) := by
  refine PEw (pe_dpop1 ho he m) ?_
  rintro σ H Q ⟨Z, F, ρ, R, S, w, t, q⟩
  unfold mDPop at t
  split at t
  · rename_i es0 e'
    obtain ⟨a, ha, za, fa, kvs, h1, h2⟩ := S.sl i _ (slot_some e' (fun q => nomatch q))
    refine ⟨.ref a, at_some ha, a, rfl, .inl ⟨kvs, .inl h1⟩, Z, F, ρ, _, S, w, t, fun k ρ1 y F1 H1 t1 sf1 S1 r1 => ?_⟩
    split at t1
    · rename_i x es e2
      have hi := slot_some e2 (fun q => nomatch q)
      obtain ⟨b, hb, zb, fb, kv2, g1, g2⟩ := S1.sl i _ hi
      rw [ha] at hb; cases hb
      obtain ⟨d, hd, hR⟩ := t1
      cases r1
      rcases g2.look (k := x) with ⟨e3, _⟩ | ⟨d', v, e3, e4, e5⟩
      · rw [hd] at e3; cases e3
      · rw [hd] at e3; cases e3
        exact ⟨kv2, Sum.inr x, v, g1, rfl, e4, q d _ v F1 _ hR sf1 (S1.changeOwn hi ha (show ContO X.K F1 (.dK _) (.dict _) from g2.drop)) e5⟩
    · exact t1.elim
  · exact t.elim
end
/-! ### list(d.values()) -/
def tListVals (te : TE) : TE := fun σ H Q => te σ H fun x H1 => ∃ (d : Addr) (kvs : List (Key × V)), x = .ref d ∧ Rd H1 d (.dK kvs) ∧ ∀ p, H1 p = none → kvs.length ≤ sizeLine → Q (.ref p) (upd H1 p (.lst (kvs.map (·.2))))
section
variable {X : Cx} {e : Expr} {te : TE} {p apos cpos pos : Pos}
theorem pe_listVals (hc : X.calm = true) (he : PE X e te) (hg : Gl X "list") (hm : X.mg "list" = none) (hv : bootBuiltins "list" = some (.type "list")) (hbase : attributeBase e "values" X.env (eval e X.env) = eval e X.env := by rfl) (hline : (apos.endLine == cpos.line) = true := by rfl)
    (hs : starEach [.Call (.Attribute e "values" apos) [] [] cpos] X.env = (false, eval (.Call (.Attribute e "values" apos) [] [] cpos) X.env) :: starEach [] X.env := by rfl) :
    PE X (.Call (.Name "list" p) [.Call (.Attribute e "values" apos) [] [] cpos] [] pos) (tListVals te) := by
  refine ⟨fun pins s σ H Q I hq => ?_⟩
  refine wpAny_Call_Name_kw (ld_blt I hg hm hv ?_)
  refine PyProof.Rows.callWith_type1 ?_ hs rfl
  rw [hs]
  show wpAny _ _ (spliced ((false, eval (.Call (.Attribute e "values" apos) [] [] cpos) X.env) :: backTo pos (starEach [] X.env))) _ _ s
  refine Calls.spliced_cons ?_
  refine wpAny_Call_method (T := "dict") (id := "dict.values") hbase rfl hline PySem.F.plainAttrs_dict PySem.F.slot_dict_values PySem.F.type_dict_values (thn (he.run pins s σ H _ I hq) fun u s1 ⟨x, H1, I1, rx, d, kvs, ex, hd, q⟩ => ?_)
  subst ex
  obtain rfl : u = Value.ref d := rx
  obtain ⟨hz, hs0, vs, kv, hdo⟩ := dk_rd I1.hok hd
  obtain ⟨ep, hat⟩ := hdo.dictAt
  have lk : kvs.length = vs.length := Paired.length kv
  have I2 : Inv X pins σ H1 { s1 with heap := s1.heap.push { cls := .type "dict_values", data := .fields #[.ref d] } } := I1.kept (t' := s1.toks) fun b ob q => Heap.get?_push_of_some _ q
  refine ⟨hdo.typeIs, hdo.mapOf.noDict, ?_⟩
  show wpAny _ _ (callWith cpos (.builtin "dict.values") [.ref d] [] []) _ X.xe s1
  refine method_meetsIn PySem.F.slot_dict_values PySem.F.entry_dict_values rfl (PySem.evalArgs_none ⟨rfl, hdo.typeIs, PySem.F.args_dict_values_1 _, _, meets_dict_values (mixKind X.prog X.w) d hs0, ⟨vs, hdo⟩, ?_⟩)
  refine Calls.spliced_nil ?_
  refine PySem.W.kdl_call (PySem.W.kdl_values (knd := mixKind X.prog X.w) (kvs := vs) (ep := ep)) (I1.ok.hd hc) ⟨⟨_, Heap.get?_push_size _ rfl, rfl, rfl⟩, hat.push _⟩ (by omega) fun h' tk acc c hk hS hI => ?_
  refine ⟨.ref _, _, I2.laid (o := .lst (kvs.map (·.2))) (t' := tk) hk (Nat.le_refl _) ⟨by rw [List.length_map]; exact hz, acc.toList, c, ?_, by rw [Array.toArray_toList]; exact hS⟩, rfl, q _ (I2.hok.fresh (Nat.le_refl _)) hz⟩
  refine vals_of_idx _ _ (by rw [Array.length_toList, hI.1, List.length_map]; exact lk.symm) fun j u hj => ?_
  obtain ⟨k, hk2⟩ := hI.2 j u (by rw [← Array.getElem?_toList]; exact hj)
  obtain ⟨y, h1, h2⟩ := KV.at' kv hk2
  exact ⟨y, by rw [List.getElem?_map, h1]; rfl, h2⟩
def mListVals (i : Nat) : ME := fun ρ R => match slot ρ i with
  | .own (.dict es) => R (.list (es.map (·.2))) ρ
  | .dat (.dict es) => R (.list (es.map (·.2))) ρ
  | _ => False
theorem RepKV.vals {K : PySem.W.Frag} {F : Hp} : ∀ {kvs : List (Key × V)} {es : List (PyData × PyData)}, RepKV K F kvs es → RepAll K F (kvs.map (·.2)) (es.map (·.2))
  | _, _, .nil => .nil
  | _, _, .cons h r => .cons h (RepKV.vals r)
theorem gn_listVals {W : Wish} {x : Str} {p0 : Pos} {i : Nat} (hc : X.calm = true) (hv : PE X (.Name x p0) (tVar i)) (hg : Gl X "list") (hm : X.mg "list" = none) (hb : bootBuiltins "list" = some (.type "list")) (hbase : attributeBase (.Name x p0) "values" X.env (eval (.Name x p0) X.env) = eval (.Name x p0) X.env := by rfl) (hline : (apos.endLine == cpos.line) = true := by rfl)
    (hs : starEach [.Call (.Attribute (.Name x p0) "values" apos) [] [] cpos] X.env = (false, eval (.Call (.Attribute (.Name x p0) "values" apos) [] [] cpos) X.env) :: starEach [] X.env := by rfl) :
    PE X (.Call (.Name "list" p) [.Call (.Attribute (.Name x p0) "values" apos) [] [] cpos] [] pos) (LN X W (mListVals i)) := by
  refine PEw (pe_listVals hc hv hg hm hb hbase hline hs) ?_
  rintro σ H Q ⟨Z, F, ρ, R, S, w, t, q⟩
  have fin : ∀ (kvs : List (Key × V)) es, RepKV X.K F kvs es → R (.list (es.map (·.2))) ρ → ∀ p, H p = none → kvs.length ≤ sizeLine → Q (.ref p) (upd H p (.lst (kvs.map (·.2)))) := fun kvs es r t p hp hz =>
    q _ ρ p F _ t (Same.refl _) (S.lay _ hp) (S.fh.free hp) (S.zh.free hp) ⟨_, upd_same, r.vals, by rw [List.length_map, ← r.length]; exact hz⟩ (S.newAway hp)
  unfold mListVals at t
  split at t
  · rename_i es e'
    obtain ⟨a, ha, za, fa, kvs, h1, h2⟩ := S.sl i _ (slot_some e' (fun q => nomatch q))
    exact ⟨.ref a, at_some ha, a, kvs, rfl, .inl h1, fin kvs es h2 t⟩
  · rename_i es e'
    obtain ⟨v, hv1, hr⟩ := S.sl i _ (slot_some e' (fun q => nomatch q))
    cases hr with
    | @dct a kvs _ h1 h2 => exact ⟨.ref a, at_some hv1, a, kvs, rfl, S.fh.rd h1, fin kvs es h2 t⟩
  · exact t.elim
end
end G


set_option Elab.async false
set_option maxRecDepth 100000
set_option maxHeartbeats 1000000
/-! GV22: a container of one's own is compared, it stands on the left. -/
namespace G
open PySem PySem.Spec PyProof.Rows L2
def mCmpOB (f : PyData → PyData → (Bool → Prop) → Prop) (i : Nat) (tb : ME) : MB := fun ρ R => match slot ρ i with
  | .own _ => tb ρ fun e ρ2 => match slot ρ2 i with
    | .own d => f d e fun c => R c ρ2
    | _ => False
  | _ => False
def mCmpO (f : PyData → PyData → (Bool → Prop) → Prop) (i : Nat) (tb : ME) : ME := fun ρ R => mCmpOB f i tb ρ fun c ρ2 => R (.bool c) ρ2
section
variable {X : Cx} {W : Wish} {pos p : Pos} {x : Str} {i : Nat}
theorem cmpO_run {op : CmpOp} {b : Expr} {f : PyData → PyData → (Bool → Prop) → Prop} {tb : ME} (ho : CmpG X op f) (ha : PE X (.Name x p) (tVar i)) (hb : PE X b (LC X W tb))
    {pins : List (Addr × Obj)} {s : Shared} {σ : L2.St} {H Z F : Hp} {ρ : Ms} {R : Bool → Ms → Prop} (I : Inv X pins σ H s) (S : Stt X.K Z F H σ ρ) (w : WOk X.mg W Z F) (t : mCmpOB f i tb ρ R) :
    wpAny (model X.prog X.w) X.A (eval (.Name x p) X.env) (fun v s₁ => wpAny (model X.prog X.w) X.A (eval b X.env) (fun u s₂ => wpAny (model X.prog X.w) X.A (compareOp op v u) (fun c s' => ∃ k ρ' F' H', c = .bool k ∧ R k ρ' ∧ Same F F' ∧ Stt X.K Z F' H' σ ρ' ∧ Inv X pins σ H' s') X.xe s₂) X.xe s₁) X.xe s := by
  refine bin (R := fun x y H2 => ∃ F2 ρ2 d e R2, Same F F2 ∧ Stt X.K Z F2 H2 σ ρ2 ∧ Rep X.K H2 x d ∧ Rep X.K H2 y e ∧ f d e R2 ∧ ∀ c, R2 c → R c ρ2) ha hb I ?_ fun v u s2 x y H2 I2 rx ry ⟨F2, ρ2, d, e, R2, sf, S2, r1, r2, hf, hR⟩ => ?_
  · unfold mCmpOB at t
    split at t
    · rename_i d0 e'
      obtain ⟨a, ha1, _⟩ := S.sl i _ (slot_some e' (fun q => nomatch q))
      refine ⟨.ref a, at_some ha1, Z, F, ρ, _, S, w, t, fun e ρ2 y F2 H2 t2 sf2 S2 r2 => ?_⟩
      split at t2
      · rename_i d e2
        obtain ⟨b, hb1, zb, fb, cb⟩ := S2.sl i _ (slot_some e2 (fun q => nomatch q))
        rw [ha1] at hb1; cases hb1
        have rc : RepC X.K F2 H2 (.ref a) d := .inr ⟨a, rfl, fb, cb⟩
        exact ⟨F2, ρ2, d, e, _, sf2, S2, rc.rep S2.fh, r2.rep S2.fh, t2, fun c hc => hc⟩
      · exact t2.elim
    · exact t.elim
  · exact thn (ho pins s2 σ H2 x y v u d e R2 I2 r1 r2 rx ry hf) fun c s3 ⟨k, hk, ec, I3⟩ => ⟨k, ρ2, F2, H2, ec, hR k hk, sf, S2, I3⟩
theorem g_cmpO {op : CmpOp} {b : Expr} {f : PyData → PyData → (Bool → Prop) → Prop} {tb : ME} (ho : CmpG X op f) (ha : PE X (.Name x p) (tVar i)) (hb : PE X b (LC X W tb)) (hm : behindInMarks op b = false) :
    PE X (.Compare (.Name x p) [op] [b] pos) (LE X W (mCmpO f i tb)) := by
  refine ⟨fun pins s σ H Q I h => ?_⟩
  obtain ⟨Z, F, ρ, R, S, w, t, q⟩ := h
  refine wpAny_Compare1 (thn (cmpO_run (R := fun k ρ' => R (.bool k) ρ') ho ha hb I S w t) fun v s1 h1 => thn h1 fun u s2 h2 => thn h2 fun c s3 ⟨k, ρ', F', H', ec, hk, sf, S', I3⟩ => ?_) hm
  exact ⟨.bl k, H', I3, ec, q (.bool k) ρ' _ F' H' hk sf S' (.bl k)⟩
theorem gt_cmpO {op : CmpOp} {b : Expr} {f : PyData → PyData → (Bool → Prop) → Prop} {tb : ME} (ho : CmpG X op f) (ha : PE X (.Name x p) (tVar i)) (hb : PE X b (LC X W tb)) (hm : behindInMarks op b = false) :
    PT X (.Compare (.Name x p) [op] [b] pos) (LB X W (mCmpOB f i tb)) := by
  refine ⟨fun pins s σ H Q I h => ?_⟩
  obtain ⟨Z, F, ρ, R, S, w, t, q⟩ := h
  refine wpAny_isTrue_Compare1 (thn (cmpO_run (R := R) ho ha hb I S w t) fun v s1 h1 => thn h1 fun u s2 h2 => thn h2 fun c s3 ⟨k, ρ', F', H', ec, hk, sf, S', I3⟩ => ?_) hm
  subst ec
  exact wpAny_truthy_bool ⟨H', I3, q k ρ' F' H' hk sf S'⟩
end
end G


set_option Elab.async false
set_option maxRecDepth 100000
set_option maxHeartbeats 1000000
/-! HV1: a book: an instance whose one field is a list; its methods called. -/
namespace G
open PySem PySem.Spec PyProof.Rows L2
structure BookK (K : PySem.W.Frag) (C : Addr) : Prop where
  at_ : PySem.W.nsIn K mainGlobals "Book" = some (some (.ref C))
  cls : Cls K C
  no : NoAttr K C "rows"
  ha : PySem.W.findIn K (.ref C) "__class__" = some (some (.builtin "object.__class__"))
  hn : PySem.W.specialIn K (.builtin "object.__class__") "__get__" = some (some (.builtin "getset_descriptor.__get__"))
  ht : PySem.W.takesIn K (.builtin "object.__class__") = some true
  hm : PySem.W.mroIn K C (.type "object") = some true
  kB : PySem.W.kitOne K (.ref C) (.ref C) = some true
  kT : PySem.W.kitOne K (.type "tuple") (.ref C) = some false
  nT : PySem.W.notFirst K C (.type "tuple") = true
theorem SameW.ins {F H : Hp} (h : SameW F H) {a C dx : Addr} {fs : List (Str × V)} (e : F a = some (.ins C dx fs)) : H a = some (.ins C dx fs) := by
  rcases h a _ e with h | ⟨_, _, q, _⟩
  · exact h
  · cases q
section
variable {K : PySem.W.Frag} {Z F H : Hp} {σ : L2.St} {ρ : Ms} {C a b : Addr} {d : PyData} {i : Nat}
/-- what stands at a book -/
theorem ob_at (B : BookK K C) (S : Stt K Z F H σ ρ) (e : slot ρ i = .ob a b d) :
    at_ σ i = some (.ref a) ∧ (∃ dx, F a = some (.ins C dx [("rows", .ref b)]) ∧ H a = some (.ins C dx [("rows", .ref b)])) ∧ Z b = none ∧ F b = none ∧ Cont K F H b d := by
  obtain ⟨e1, ⟨C', dx, hC, hx⟩, z, f, c⟩ := S.sl i _ (slot_some e (fun q => nomatch q))
  have q := B.at_
  rw [hC] at q
  cases q
  exact ⟨e1, ⟨dx, hx, S.fh.ins hx⟩, z, f, c⟩
theorem ob_same (B : BookK K C) {F1 H1 : Hp} {a' b' : Addr} {d' : PyData} {ρ1 : Ms} (S : Stt K Z F H σ ρ) (e : slot ρ i = .ob a b d) (S1 : Stt K Z F1 H1 σ ρ1) (sf : Same F F1) (e1 : slot ρ1 i = .ob a' b' d') : a' = a ∧ b' = b := by
  obtain ⟨h1, ⟨dx, h2, _⟩, _⟩ := ob_at B S e
  obtain ⟨k1, ⟨dy, k2, _⟩, _⟩ := ob_at B S1 e1
  rw [h1] at k1
  cases k1
  rw [sf _ _ h2] at k2
  cases k2
  exact ⟨rfl, rfl⟩
end
theorem rowsLook {b : Addr} : List.lookup ("rows" : Str) [(("rows" : Str), V.ref b)] = some (.ref b) := by simp [List.lookup]
def mRows (i : Nat) : ME := fun ρ R => match slot ρ i with
  | .ob _ _ d => R d ρ
  | _ => False
/-- the last of a book's rows -/
def mLast (i : Nat) : ME := fun ρ R => match slot ρ i with
  | .ob _ _ (.list ds) => match ds.getLast? with
    | some d => R d ρ
    | none => False
  | _ => False
def mObMut (i : Nat) (op : PyData → List PyData → (PyData → PyData → Prop) → Prop) (ta : MA) : ME := fun ρ R => match slot ρ i with
  | .ob _ _ (.list _) => ta ρ fun ds ρ1 => match slot ρ1 i with
    | .ob a b d => op d ds fun r d' => R r (ρ1.set i (.ob a b d'))
    | _ => False
  | _ => False
/-- o.m(e, ..), o a book -/
def mMeth (t : PSp) (RE : Str → Prop) (i : Nat) (ta : MA) : ME := fun ρ R => match slot ρ i with
  | .ob _ _ _ => ta ρ fun ds ρ1 => match slot ρ1 i with
    | .ob a b d => t (.ob a b d :: ds.map Sl.dat) (fun r ss' => match slot ss' 0 with
      | .ob _ b' d' => b' = b ∧ R r (ρ1.set i (.ob a b d'))
      | _ => False) RE
    | _ => False
  | _ => False
section
variable {X : Cx} {W : Wish} {C : Addr} {i n : Nat} {x : Str} {p pos apos pa : Pos} {e : Expr} {es : List Expr} {t : MA} {r : V → List V → Hp → VK → Prop} {op : PyData → List PyData → (PyData → PyData → Prop) → Prop} {name : Str}
theorem g_rows (B : BookK X.K C) (h : PE X (.Name x p) (tVar i)) (hb : attributeBase (.Name x p) "rows" X.env (eval (.Name x p) X.env) = eval (.Name x p) X.env := by rfl) : PE X (.Attribute (.Name x p) "rows" pos) (LC X W (mRows i)) := by
  refine PEw (pe_fld h hb) ?_
  rintro σ H Q ⟨Z, F, ρ, R, S, w, t, q⟩
  unfold mRows at t
  split at t
  · rename_i a b d e
    obtain ⟨e1, ⟨dx, hF, hH⟩, z, f, c⟩ := ob_at B S e
    exact ⟨.ref a, at_some e1, a, C, dx, _, .ref b, rfl, hH, B.cls, B.no, rowsLook, q d ρ _ F H t (Same.refl _) S (.inr ⟨b, rfl, f, c⟩)⟩
  · exact t.elim
theorem atI_last {α : Type} {l : List α} {x : α} (h : l.getLast? = some x) : L2.atI l (-1) = some x := by
  have h0 : 0 < l.length := by
    cases l with
    | nil => cases h
    | cons y ys => simp
  unfold L2.atI L2.ixN
  rw [List.getLast?_eq_getElem?] at h
  have e : ((-1 : Int) + l.length).toNat = l.length - 1 := by omega
  have h1 : (1 : Int) ≤ l.length := by omega
  simp [e, h, h1]
theorem g_rowsLast (B : BookK X.K C) (hu : X.A.units + 64 < cLine) (h : PE X (.Name x p) (tVar i)) {j : Nat} {p1 p2 : Pos} (hb : attributeBase (.Name x p) "rows" X.env (eval (.Name x p) X.env) = eval (.Name x p) X.env := by rfl) :
    PE X (.Subscript (.Attribute (.Name x p) "rows" pa) (.UnaryOp .USub (.Constant (.int 1) j p1) p2) pos) (LE X W (mLast i)) := by
  refine PEw (pe_ix (ix_all hu) (pe_fld h hb) (pe_un un_neg pe_int) (fun _ _ => rfl)) ?_
  rintro σ H Q ⟨Z, F, ρ, R, S, w, t, q⟩
  unfold mLast at t
  split at t
  · rename_i a b ds e
    obtain ⟨e1, ⟨dx, hF, hH⟩, z, f, xs, hb1, hr, hz⟩ := ob_at B S e
    split at t
    · rename_i d hd
      rw [List.getLast?_eq_getElem?] at hd
      obtain ⟨v, hv, rv⟩ := hr.get hd
      rw [← hr.length, ← List.getLast?_eq_getElem?] at hv
      exact ⟨.ref a, at_some e1, a, C, dx, _, .ref b, rfl, hH, B.cls, B.no, rowsLook, 1, rfl, .inl (.inl ⟨b, xs, -1, v, rfl, rfl, SqL.of hb1, atI_last hv, q d ρ v F H t (Same.refl _) S rv⟩)⟩
    · exact t.elim
  · exact t.elim
theorem ob_mut_low (B : BookK X.K C) (hm : MutR X r op) {σ : L2.St} {H H0 : Hp} {Q : VK} {Z F F1 : Hp} {ρ ρ1 : Ms} {a b : Addr} {d0 : PyData} {xs : List V} {ds : List PyData} {R : PyData → Ms → Prop} (S : Stt X.K Z F H0 σ ρ) (e0 : slot ρ i = .ob a b d0)
    (sf1 : Same F F1) (S1 : Stt X.K Z F1 H σ ρ1) (ra : RepAll X.K F1 xs ds) (q : ∀ d ρ' v F' H', R d ρ' → Same F F' → Stt X.K Z F' H' σ ρ' → Rep X.K F' v d → Q v H')
    (t1 : match slot ρ1 i with
      | .ob a b d => op d ds fun r d' => R r (ρ1.set i (.ob a b d'))
      | _ => False) : r (.ref b) xs H Q := by
  split at t1
  · rename_i a' b' d e
    obtain ⟨rfl, rfl⟩ := ob_same B S e0 S1 sf1 e
    obtain ⟨e1, _, z, f, c⟩ := ob_at B S1 e
    exact hm F1 H b' d xs ds _ Q S1.fh c ra t1 fun r d' v o' hr rv co => q r _ v F1 _ hr sf1 (S1.changeOb (slot_some e (fun q => nomatch q)) co) rv
  · exact t1.elim
theorem g_obMut (B : BookK X.K C) (hm : MutR X r op) (ha : PA X (e :: es) (LA X W n t))
    (h : PE X (.Call (.Attribute (.Attribute (.Name x p) "rows" pa) name apos) (e :: es) [] pos) (tBM X.K "list" r (tFld X.K (tVar i) "rows") (LA X W n t))) :
    PE X (.Call (.Attribute (.Attribute (.Name x p) "rows" pa) name apos) (e :: es) [] pos) (LE X W (mObMut i op t)) := by
  refine PEw h ?_
  rintro σ H Q ⟨Z, F, ρ, R, S, w, t, q⟩
  unfold mObMut at t
  split at t
  · rename_i a b ds0 e0
    obtain ⟨e1, ⟨dx, hF, hH⟩, z, f, xs0, h1, _⟩ := ob_at B S e0
    exact ⟨.ref a, at_some e1, a, C, dx, _, .ref b, rfl, hH, B.cls, B.no, rowsLook, Or.inl ⟨rfl, _, Or.inl (Or.inl h1)⟩, Z, F, ρ, _, S, w, t, fun ds ρ1 xs F1 H1 t1 sf1 S1 ra _ => ob_mut_low B hm S e0 sf1 S1 ra q t1⟩
  · exact t.elim
theorem g_obMut0 (B : BookK X.K C) (hm : MutR X r op) (h : PE X (.Call (.Attribute (.Attribute (.Name x p) "rows" pa) name apos) [] [] pos) (tBM0 X.K "list" r (tFld X.K (tVar i) "rows"))) :
    PE X (.Call (.Attribute (.Attribute (.Name x p) "rows" pa) name apos) [] [] pos) (LE X W (mObMut i op mNil)) := by
  refine PEw h ?_
  rintro σ H Q ⟨Z, F, ρ, R, S, w, t, q⟩
  unfold mObMut at t
  split at t
  · rename_i a b ds0 e0
    obtain ⟨e1, ⟨dx, hF, hH⟩, z, f, xs0, h1, _⟩ := ob_at B S e0
    exact ⟨.ref a, at_some e1, a, C, dx, _, .ref b, rfl, hH, B.cls, B.no, rowsLook, Or.inl ⟨rfl, _, Or.inl (Or.inl h1)⟩, ob_mut_low B hm S e0 (Same.refl _) S .nil q t⟩
  · exact t.elim
end
end G


set_option Elab.async false
set_option maxRecDepth 100000
set_option maxHeartbeats 1000000
/-! HV2: methods of a book called; defs that may raise. -/
namespace G
open PySem PySem.Spec PyProof.Rows L2
theorem set_slot {ρ : Ms} {i : Nat} {s : Sl} (e : slot ρ i = s) (n : s ≠ .un) : ρ.set i s = ρ := by
  have h := slot_some e n
  apply List.ext_getElem?
  intro j
  by_cases hj : i = j
  · subst hj
    rw [List.getElem?_set_self (List.getElem?_eq_some_iff.mp h).1, h]
  · rw [List.getElem?_set_ne hj]
section
variable {K : PySem.W.Frag} {Z F H : Hp} {σ : L2.St} {ρ : Ms} {C a b : Addr} {d : PyData} {i : Nat}
/-- a book is handed over as the first argument, and given back -/
theorem ob_call (S : Stt K Z F H σ ρ) (e : slot ρ i = .ob a b d) {vs : List V} {ds : List PyData} (r : RepAll K F vs ds) :
    Stt K (outZ F H (some b)) F H ((V.ref a :: vs).map some) (.ob a b d :: ds.map Sl.dat) ∧ Same Z (outZ F H (some b)) ∧
      ∀ {F' H' : Hp} {τ : L2.St} {ss : Ms} {a' : Addr} {d' : PyData}, Stt K (outZ F H (some b)) F' H' τ ss → Same F F' → slot ss 0 = .ob a' b d' → Stt K Z F' H' σ (ρ.set i (.ob a b d')) := by
  have hi := slot_some e (fun q => nomatch q)
  obtain ⟨hσ, hx, z, f, c⟩ := S.sl i _ hi
  have za : outZ F H (some b) b = none := by
    cases y : outZ F H (some b) b with
    | none => rfl
    | some o => exact ((outZ_some.mp y).2.1 rfl).elim
  refine ⟨?_, S.zOutA z, fun {F' H' τ ss a' d'} S' sf e' => ?_⟩
  · refine S.calleeR (ds := PyData.none :: ds) (vs := V.ref a :: vs) (j0 := 0) (s := .ob a b d) (z := some b) (by rw [List.length_cons, List.length_cons, r.length]) (by simp) (fun j d hj hd => ?_) rfl ⟨rfl, hx, za, f, c⟩
    cases j with
    | zero => exact (hj rfl).elim
    | succ j =>
      obtain ⟨v, h1, h2⟩ := r.get (i := j) (by simpa using hd)
      exact ⟨v, by simpa using h1, h2⟩
  · obtain ⟨g1, g2, g3, g4, g5⟩ := S'.sl 0 _ (slot_some e' (fun q => nomatch q))
    obtain ⟨C, dx, hC, hx⟩ := hx
    exact S.afterR hi (.inr ⟨a, d, rfl⟩) S' sf g4 (fun Z' hz => ⟨hσ, ⟨C, dx, hC, sf _ _ hx⟩, hz, g4, g5⟩) fun c y => mut_ob y
end
/-- what a def may answer and raise; what is raised leaves the arguments as they were -/
def spX (K : PySem.W.Frag) (mg : Str → Option Value) (n : Nat) (t : PSp) : Sp := fun vs H Q E => ∃ Z F ss R RE, vs.length = n ∧ Stt K Z F H (vs.map some) ss ∧ t ss R RE ∧
  (∀ nm C F' H', RE nm → mg nm = some (.ref C) → Same F F' → Stt K Z F' H' (vs.map some) ss → E (.ref C) none H') ∧
  ∀ r ss' v F' H', R r ss' → Same F F' → Stt K Z F' H' (vs.map some) ss' → Rep K F' v r → Q v H'
def HasM (P : Program) (w : World) (K : PySem.W.Frag) (mg : Str → Option Value) (base : Heap) (CX : CXT) (k : Nat) (C : Addr) (m : Str) (ps : List Str) (sp : Sp) : Prop := ∃ (f : Addr) (fd : FuncData), FnOk P w K mg base CX k f fd ps sp ∧ Meth K C m f ∧ Binds K fd ps []
/-- nothing is raised -/
def obPre (K : PySem.W.Frag) (n : Nat) (t : PSp) : List V → Hp → VK → Prop := fun vs H Q => ∃ Z F ss R, vs.length = n ∧ Stt K Z F H (vs.map some) ss ∧ t ss R (fun _ => False) ∧
  ∀ r ss' v F' H', R r ss' → Same F F' → Stt K Z F' H' (vs.map some) ss' → Rep K F' v r → Q v H'
abbrev EN : XK := fun _ _ _ => False
theorem passN {X : Cx} : Passes (L2N.CX X.prog X.w) X EN := fun _ _ _ _ _ _ _ h => by
  obtain ⟨_, _, _, _, _, _, _, _, _, _, _, _, z⟩ := h
  exact z.elim
theorem preX {K : PySem.W.Frag} {mg : Str → Option Value} {n : Nat} {t : PSp} : ∀ vs H Q, obPre K n t vs H Q → spX K mg n t vs H Q EN := fun vs H Q ⟨Z, F, ss, R, l, S, ht, q⟩ => ⟨Z, F, ss, R, _, l, S, ht, fun _ _ _ _ z => z.elim, q⟩
theorem preD {K : PySem.W.Frag} {mg : Str → Option Value} {n : Nat} {t : PSp} : ∀ vs H Q, obPre K n t vs H Q → spD K mg n t vs H Q EN := fun vs H Q ⟨Z, F, ss, R, l, S, ht, q⟩ => ⟨Z, F, ss, R, _, l, S, ht, fun _ _ _ _ z => z.elim, q⟩
section
variable {X : Cx} {W : Wish} {CX : CXT} {C : Addr} {i n k : Nat} {x m : Str} {p pos apos : Pos} {e : Expr} {es : List Expr} {ta : MA} {t : PSp} {ps : List Str} {sp : Sp}
theorem meth_low (B : BookK X.K C) {σ : L2.St} {H1 : Hp} {Q : VK} {Z F F1 : Hp} {ρ1 : Ms} {vs : List V} {ds : List PyData} {a b : Addr} {d : PyData} {R : PyData → Ms → Prop} (sf1 : Same F F1) (S1 : Stt X.K Z F1 H1 σ ρ1) (e1 : slot ρ1 i = .ob a b d) (ra : RepAll X.K F1 vs ds) (l : vs.length = n)
    (t1 : t (.ob a b d :: ds.map Sl.dat) (fun r ss' => match slot ss' 0 with
      | .ob _ b' d' => b' = b ∧ R r (ρ1.set i (.ob a b d'))
      | _ => False) (fun _ => False))
    (q : ∀ d ρ' v F' H', R d ρ' → Same F F' → Stt X.K Z F' H' σ ρ' → Rep X.K F' v d → Q v H') : obPre X.K (n + 1) t (.ref a :: vs) H1 Q := by
  obtain ⟨c1, c2, c3⟩ := ob_call S1 e1 ra
  refine ⟨_, F1, _, _, by rw [List.length_cons, l], c1, t1, fun r ss' v F' H' hr sf' S' rv => ?_⟩
  split at hr
  · rename_i a' b' d' e'
    obtain ⟨rfl, hr⟩ := hr
    exact q r _ v F' H' hr (sf1.trans sf') (c3 S' sf' e') rv
  · exact hr.elim
/-- o.m(e, ..), o a book, nothing raised -/
theorem g_meth {pl : Sem Bool} (B : BookK X.K C) (G0 : HasM X.prog X.w X.K X.mg X.base CX k C m ps sp) (hr : Room k X.A) (hsp : ∀ vs H Q, obPre X.K (n + 1) t vs H Q → sp vs H Q EN) (hx : Passes CX X EN) (hrow : (m == ("rows" : Str)) = false)
    (hv : PE X (.Name x p) (tVar i)) (ha : PA X (e :: es) (LA X W n ta))
    (hst : starEach (e :: es) X.env = (false, eval e X.env) :: starEach es X.env := by rfl) (hpl : (backTo pos (starEach es X.env)).any (·.1) = false := by rfl)
    (ht : eval (.Call (.Attribute (.Name x p) m apos) (e :: es) [] pos) X.env = (do let o1 ← eval (.Name x p) X.env; standAt apos.atName; let (g1, fst1) ← holding [o1] (getMethod o1 m pl); callWith pos g1 fst1 (backTo pos (starEach (e :: es) X.env)) (backToKw pos (keywordEach [] X.env))) := by rfl) :
    PE X (.Call (.Attribute (.Name x p) m apos) (e :: es) [] pos) (LE X W (mMeth t (fun _ => False) i ta)) := by
  obtain ⟨f, fd, F, hm, hb⟩ := G0
  refine PEw (pe_meth (E := EN) hv B.cls hm F hr hb .nil hx ha hst hpl ht) ?_
  rintro σ H Q ⟨Z, F, ρ, R, S, w, t, q⟩
  unfold mMeth at t
  split at t
  · rename_i a b d e0
    obtain ⟨h1, ⟨dx, hF, hH⟩, z, f, c⟩ := ob_at B S e0
    refine ⟨.ref a, at_some h1, a, dx, _, rfl, hH, ?_, Z, F, ρ, _, S, w, t, fun ds ρ1 vs F1 H1 t1 sf1 S1 ra l => ?_⟩
    · simp [List.lookup, hrow]
    · dsimp only
      rw [List.append_nil]
      split at t1
      · rename_i a' b' d' e1
        obtain ⟨rfl, rfl⟩ := ob_same B S e0 S1 sf1 e1
        exact hsp _ _ _ (meth_low B sf1 S1 e1 ra (ra.length.trans l) t1 q)
      · exact t1.elim
  · exact t.elim
/-- o.m(), o a book, nothing raised -/
theorem g_meth0 {pl : Sem Bool} (B : BookK X.K C) (G0 : HasM X.prog X.w X.K X.mg X.base CX k C m ps sp) (hr : Room k X.A) (hsp : ∀ vs H Q, obPre X.K 1 t vs H Q → sp vs H Q EN) (hx : Passes CX X EN) (hrow : (m == ("rows" : Str)) = false)
    (hv : PE X (.Name x p) (tVar i))
    (ht : eval (.Call (.Attribute (.Name x p) m apos) [] [] pos) X.env = (do let o1 ← eval (.Name x p) X.env; standAt apos.atName; let (g1, fst1) ← holding [o1] (getMethod o1 m pl); callWith pos g1 fst1 (backTo pos (starEach [] X.env)) (backToKw pos (keywordEach [] X.env))) := by rfl) :
    PE X (.Call (.Attribute (.Name x p) m apos) [] [] pos) (LE X W (mMeth t (fun _ => False) i mNil)) := by
  obtain ⟨f, fd, F, hm, hb⟩ := G0
  refine PEw (pe_meth0 (E := EN) hv B.cls hm F hr hb .nil hx ht) ?_
  rintro σ H Q ⟨Z, F, ρ, R, S, w, tt, q⟩
  unfold mMeth at tt
  split at tt
  · rename_i a b d e0
    obtain ⟨h1, ⟨dx, hF, hH⟩, z, f, c⟩ := ob_at B S e0
    refine ⟨.ref a, at_some h1, a, dx, _, rfl, hH, ?_, ?_⟩
    · simp [List.lookup, hrow]
    · have tt : (match slot ρ i with
        | .ob a b d => t (.ob a b d :: ([] : List PyData).map Sl.dat) (fun r ss' => match slot ss' 0 with
          | .ob _ b' d' => b' = b ∧ R r (ρ.set i (.ob a b d'))
          | _ => False) (fun _ => False)
        | _ => False) := tt
      rw [e0] at tt
      exact hsp _ _ _ (meth_low (n := 0) B (Same.refl _) S e0 .nil rfl tt q)
  · exact tt.elim
end
end G


set_option Elab.async false
set_option maxRecDepth 100000
set_option maxHeartbeats 1000000
/-! HV3: statements that may raise. -/
namespace G
open PySem PySem.Spec PyProof.Rows L2
structure XEnd where
  nx : Ms → Prop
  rt : PyData → Ms → Prop
  rz : Str → Ms → Prop
abbrev MX := XEnd → Ms → Prop
structure XOk (K : PySem.W.Frag) (mg : Str → Option Value) (E : XK) (Z F : Hp) (DR : XEnd) (D : Ends) : Prop where
  nx : ∀ ρ' σ' F' H', DR.nx ρ' → Same F F' → Stt K Z F' H' σ' ρ' → D.nx σ' H'
  rt : ∀ d ρ' v σ' F' H', DR.rt d ρ' → Same F F' → Stt K Z F' H' σ' ρ' → Rep K F' v d → D.rt v H'
  rz : ∀ n C ρ' σ' F' H', DR.rz n ρ' → mg n = some (.ref C) → Same F F' → Stt K Z F' H' σ' ρ' → E (.ref C) none H'
theorem XOk.mono {K : PySem.W.Frag} {mg : Str → Option Value} {E : XK} {Z F F' : Hp} {DR : XEnd} {D : Ends} (h : XOk K mg E Z F DR D) (e : Same F F') : XOk K mg E Z F' DR D :=
  ⟨fun ρ' σ' F2 H' a b => h.nx ρ' σ' F2 H' a (e.trans b), fun d ρ' v σ' F2 H' a b => h.rt d ρ' v σ' F2 H' a (e.trans b), fun n C ρ' σ' F2 H' a m b => h.rz n C ρ' σ' F2 H' a m (e.trans b)⟩
def lX (K : PySem.W.Frag) (mg : Str → Option Value) (E : XK) (t : MX) : TS := fun D σ H => ∃ Z F ρ DR, Stt K Z F H σ ρ ∧ t DR ρ ∧ XOk K mg E Z F DR D
abbrev LX (X : Cx) (E : XK) (t : MX) : TS := lX X.K X.mg E t
def xS (t : MS) : MX := fun D ρ => t { nx := D.nx, rt := D.rt } ρ
def xSeq (t u : MX) : MX := fun D ρ => t { D with nx := fun ρ' => u D ρ' } ρ
def xIf (c : MB) (t u : MX) : MX := fun D ρ => c ρ fun b ρ1 => if b = true then t D ρ1 else u D ρ1
def xRaise (n : Str) : MX := fun D ρ => D.rz n ρ
def xNx : MX := fun D ρ => D.nx ρ
def xMeth (t : PSp) (i : Nat) (ta : MA) : MX := fun D ρ => match slot ρ i with
  | .ob _ _ _ => ta ρ fun ds ρ1 => match slot ρ1 i with
    | .ob a b d => t (.ob a b d :: ds.map Sl.dat) (fun _ ss' => match slot ss' 0 with
      | .ob _ b' d' => b' = b ∧ D.nx (ρ1.set i (.ob a b d'))
      | _ => False) (fun nm => D.rz nm ρ1)
    | _ => False
  | _ => False
/-- an exception class of one's own -/
def ExK (K : PySem.W.Frag) (mg : Str → Option Value) (n : Str) : Prop := ∃ C : Addr, mg n = some (.ref C) ∧
  PySem.W.excIn K C [.type "ValueError", .type "Exception", .type "BaseException", .type "object"] "ValueError.__new__" = true ∧ PySem.W.keepIn K (.ref C) = true ∧ PySem.W.subIn K (.ref C) (.type "BaseException") = some true ∧ PySem.W.typeIn K (.ref C) = some (.type "type")
section
variable {X : Cx} {E : XK} {C : Addr} {i n k : Nat} {x m : Str} {p pos pos2 apos : Pos} {e : Expr} {es : List Expr} {ta : MA} {t : PSp} {ps : List Str} {st : Stmt} {rest : List Stmt} {tS : MS} {t1 t2 : MX}
theorem gx_of (h : PS X st (LS X Wish.no tS)) : PS X st (LX X E (xS tS)) := by
  refine PSw h ?_
  rintro D σ H ⟨Z, F, ρ, DR, S, t, k⟩
  exact ⟨Z, F, ρ, _, S, WOk.no, t, ⟨k.nx, k.rt, fun _ _ _ _ _ _ a => a.elim, fun _ _ _ _ a => a.elim, fun _ _ _ _ a => a.elim⟩⟩
theorem gxs_nil : PSs X [] (LX X E xNx) := PSsw pss_nil fun D σ H ⟨Z, F, ρ, DR, S, t, k⟩ => k.nx ρ σ F H t (Same.refl _) S
theorem gxs_cons (h1 : PS X st (LX X E t1)) (h2 : PSs X rest (LX X E t2)) : PSs X (st :: rest) (LX X E (xSeq t1 t2)) := by
  refine PSsw (pss_cons h1 h2) ?_
  rintro D σ H ⟨Z, F, ρ, DR, S, t, k⟩
  exact ⟨Z, F, ρ, _, S, t, ⟨fun ρ' σ' F' H' a sf S' => ⟨Z, F', ρ', DR, S', a, k.mono sf⟩, k.rt, k.rz⟩⟩
theorem gxs_one (h1 : PS X st (LX X E t1)) : PSs X [st] (LX X E t1) := pss_one h1
theorem gx_if {c : Expr} {a b : List Stmt} {tc : MB} (hc : PT X c (LB X Wish.no tc)) (ha : PSs X a (LX X E t1)) (hb : PSs X b (LX X E t2)) : PS X (.If c a b pos) (LX X E (xIf tc t1 t2)) := by
  refine PSw (ps_if hc ha hb) ?_
  rintro D σ H ⟨Z, F, ρ, DR, S, t, k⟩
  refine ⟨Z, F, ρ, _, S, WOk.no, t, fun b ρ1 F1 H1 t1 sf1 S1 => ?_⟩
  cases b with
  | true =>
    rw [if_pos rfl] at t1 ⊢
    exact ⟨Z, F1, ρ1, DR, S1, t1, k.mono sf1⟩
  | false =>
    rw [if_neg Bool.false_ne_true] at t1 ⊢
    exact ⟨Z, F1, ρ1, DR, S1, t1, k.mono sf1⟩
theorem gx_raise {msg : Str} {j : Nat} {p2 : Pos} (hc : X.calm = true) (tk : L2N.Takes X (fun cls d _ H => E cls d H)) (x1 : ExK X.K X.mg x) (hg : Gl X x) (hdb : (x == ("__debug__" : Str)) = false := by decide) :
    PS X (.Raise (some (.Call (.Name x p) [.Constant (.str msg) j p2] [] pos)) none pos2) (LX X E (xRaise x)) := by
  obtain ⟨C, g, q, kC, bC, tC⟩ := x1
  refine PSw (L2N.ps_raise hc tk (L2N.pmk_own PySem.F.excBase_ValueError q g kC (raises_own bC tC) hg hdb)) ?_
  rintro D σ H ⟨Z, F, ρ, DR, S, t, k⟩
  exact k.rz x C ρ σ F H t g (Same.refl _) S
/-- o.m(e, ..) as a statement, o a book -/
theorem gx_meth {pl : Sem Bool} (B : BookK X.K C) (G0 : HasM X.prog X.w X.K X.mg X.base (L2N.CX X.prog X.w) k C m ps (spX X.K X.mg (n + 1) t)) (hr : Room k X.A) (hx : Passes (L2N.CX X.prog X.w) X E) (hrow : (m == ("rows" : Str)) = false)
    (hv : PE X (.Name x p) (tVar i)) (ha : PA X (e :: es) (LA X Wish.no n ta))
    (hst : starEach (e :: es) X.env = (false, eval e X.env) :: starEach es X.env := by rfl) (hpl : (backTo pos (starEach es X.env)).any (·.1) = false := by rfl)
    (ht : eval (.Call (.Attribute (.Name x p) m apos) (e :: es) [] pos) X.env = (do let o1 ← eval (.Name x p) X.env; standAt apos.atName; let (g1, fst1) ← holding [o1] (getMethod o1 m pl); callWith pos g1 fst1 (backTo pos (starEach (e :: es) X.env)) (backToKw pos (keywordEach [] X.env))) := by rfl)
    (hs : swapsWith (.Call (.Attribute (.Name x p) m apos) (e :: es) [] pos) none pos2.line X.env = pure false := by rfl) :
    PS X (.Expr (.Call (.Attribute (.Name x p) m apos) (e :: es) [] pos) pos2) (LX X E (xMeth t i ta)) := by
  obtain ⟨f, fd, F, hm, hb⟩ := G0
  refine PSw (ps_expr (pe_meth (E := E) hv B.cls hm F hr hb .nil hx ha hst hpl ht) hs) ?_
  rintro D σ H ⟨Z, F, ρ, DR, S, tt, k⟩
  unfold xMeth at tt
  split at tt
  · rename_i a b d e0
    obtain ⟨h1, ⟨dx, hF, hH⟩, z, f, c⟩ := ob_at B S e0
    refine ⟨.ref a, at_some h1, a, dx, _, rfl, hH, by simp [List.lookup, hrow], Z, F, ρ, _, S, WOk.no, tt, fun ds ρ1 vs F1 H1 t1 sf1 S1 ra l => ?_⟩
    dsimp only
    rw [List.append_nil]
    split at t1
    · rename_i a' b' d' e1
      obtain ⟨rfl, rfl⟩ := ob_same B S e0 S1 sf1 e1
      obtain ⟨c1, c2, c3⟩ := ob_call S1 e1 ra
      refine ⟨_, F1, _, _, _, by rw [List.length_cons, ra.length, l], c1, t1, fun nm C F' H' hz hmg sf' S' => ?_, fun r ss' v F' H' hr sf' S' rv => ?_⟩
      · have S2 := c3 S' sf' rfl
        rw [set_slot e1 (fun q => nomatch q)] at S2
        exact k.rz nm C ρ1 σ F' H' hz hmg (sf1.trans sf') S2
      · split at hr
        · rename_i a2 b2 d2 e2
          obtain ⟨rfl, hr⟩ := hr
          exact k.nx _ σ F' H' hr (sf1.trans sf') (c3 S' sf' e2)
        · exact hr.elim
    · exact t1.elim
  · exact tt.elim
end
def bodyX (n : Nat) (N : List Str) (body : MX) : PSp := fun ss R RE => ss.length = n ∧ NoOwn ss ∧ body { nx := fun ρ' => R .none (outs ss ρ'), rt := fun d ρ' => R d (outs ss ρ'), rz := fun nm ρ' => RE nm ∧ outs ss ρ' = ss } (ss ++ List.replicate (N.length - n) .un)
section
variable {P : Program} {w : World} {K : PySem.W.Frag} {mg : Str → Option Value} {base : Heap}
theorem fn_okX {x qual : Str} {st : Stmt} {f : Addr} {fd : FuncData} {N ps : List Str} {k n : Nat} {body : MX} (F : Fun K x qual st f fd) (S : FnScope N ps (defScope st)) (hn : ps.length = n)
    (h : ∀ (cdv : Value) (A : Around) (outer : List Env) (s : Shared) (H : Hp) (E : XK), Room k (A.deeper (envOfC qual (defScope st) s.heap.objs.size f cdv)) →
      PSs (cxOf (L2N.CX P w) P w K mg base N qual (defScope st) f cdv A outer s H E) (defBody st) (lX K mg E body)) :
    FnOk P w K mg base (L2N.CX P w) (k + 1) f fd ps (spX K mg n (bodyX n N body)) := by
  obtain ⟨oc, od, kV, doc, pm, an, cdv, ct, osl, rfl, lk, hcd⟩ := F.ex
  refine fn_of lk hcd S (fun vs H Q E ⟨Z, F, ss, R, RE, hl, _⟩ => hl.trans hn.symm) fun A outer s H vs Q E hr hsp => ⟨_, h cdv A outer s H E hr, ?_⟩
  obtain ⟨Z, F, ss, R, RE, hl, St, ⟨lss, no, ht⟩, w, q⟩ := hsp
  have hpl : n ≤ N.length := by have := congrArg List.length S.pre; rw [List.length_take] at this; omega
  have Ss := St.start (N := N) (by omega)
  rw [lss] at Ss
  refine ⟨Z, F, _, _, Ss, ht, ⟨fun ρ' σ' F' H' a sf S' => ?_, fun d ρ' v σ' F' H' a sf S' r => ?_, fun nm C ρ' σ' F' H' a hm sf S' => ?_⟩⟩
  · exact q _ _ _ F' H' a sf (St.finish no S' sf).1 .non
  · exact q _ _ v F' H' a sf (St.finish no S' sf).1 r
  · have S2 := (St.finish no S' sf).1
    rw [a.2] at S2
    exact w nm C F' H' a.1 hm sf S2
theorem fn_impX {f : Addr} {fd : FuncData} {ps : List Str} {CX : CXT} {k n : Nat} {t t' : PSp} (h : FnOk P w K mg base CX k f fd ps (spX K mg n t)) (i : ∀ ss R RE, t' ss R RE → t ss R RE) : FnOk P w K mg base CX k f fd ps (spX K mg n t') :=
  h.imp fun vs H Q E ⟨Z, F, ss, R, RE, hl, S, ht, q⟩ => ⟨Z, F, ss, R, RE, hl, S, i ss R RE ht, q⟩
end
end G


set_option Elab.async false
set_option maxRecDepth 100000
set_option maxHeartbeats 1000000
/-! HV4: len and == of a book; a new list of its. -/
namespace G
open PySem PySem.Spec PyProof.Rows L2
/-! ### len(o) -/
def rLenB (sp : Sp) (C : Addr) : List V → Hp → VK → Prop := fun xs H Q => ∃ a dx b, xs = [.ref a] ∧ H a = some (.ins C dx [("rows", .ref b)]) ∧ sp [.ref a] H (fun v H' => ∃ n : Nat, v = .int n ∧ n < 2 ^ 62 ∧ Q v H') EN
section
variable {X : Cx} {W : Wish} {CX : CXT} {C : Addr} {i n k : Nat} {x m : Str} {p pos apos : Pos} {e : Expr} {es : List Expr} {ta : MA} {t : PSp} {ps : List Str} {sp : Sp}
theorem call_lenB (G0 : HasM X.prog X.w X.K X.mg X.base CX k C "__len__" ps sp) (hr : Room (k + 1) X.A) (hx : Passes CX X EN) : CallR X (.builtin "len") (rLenB sp C) := by
  intro pins s σ H xs us Q I r h
  obtain ⟨a, dx, b, rfl, hH, hs⟩ := h
  obtain ⟨u, rfl, rx⟩ := vals1 r
  cases rx
  obtain ⟨f, fd, F, hm, hb⟩ := G0
  obtain ⟨mA, J, _⟩ := ins_get I.hok hH
  obtain ⟨od, J, _⟩ := J.look
  obtain ⟨mm, hF⟩ := I.fr
  refine PySem.W.len_K hF I.ok.mod.kin J hm.at_ hm.fn ?_
  have hl := F.len _ _ _ _ hs
  have hb' := hb s [.ref a] I.kIn (by simpa using hl)
  rw [List.append_nil] at hb'
  refine wpAny_call (codeAny_mono (F.run X.A.in1 X.stack s H ⟨[.ref a], []⟩ [.ref a] [.ref a] _ EN hr.in1 I.env0.in1 hb' (.cons rfl .nil) hs) fun r s' hq => ?_)
  cases r with
  | error e => exact hx pins σ H s e s' I hq
  | ok fl =>
    cases fl with
    | ret u =>
      obtain ⟨v, H', I', rv, n, rfl, hn, q⟩ := I.after hq
      obtain ⟨tk, rfl⟩ := rv
      refine ⟨⟨by omega, ?_⟩, .int n, H', I'.tok _, ⟨_, rfl⟩, q⟩
      have : (n : Int) < 2 ^ 62 := by exact_mod_cast hn
      omega
    | _ => exact hq.elim
/-- len(x), x a book -/
def mLenB (t : PSp) (i : Nat) : ME := fun ρ R => match slot ρ i with
  | .ob a b d => t [.ob a b d] (fun r ss' => match slot ss' 0 with
    | .ob _ b' d' => b' = b ∧ (∃ n : Nat, r = .int n ∧ n < 2 ^ 62) ∧ R r (ρ.set i (.ob a b d'))
    | _ => False) (fun _ => False)
  | _ => False
theorem g_lenB (B : BookK X.K C) (G0 : HasM X.prog X.w X.K X.mg X.base CX k C "__len__" ps sp) (hr : Room (k + 1) X.A) (hsp : ∀ vs H Q, obPre X.K 1 t vs H Q → sp vs H Q EN) (hx : Passes CX X EN) (hv : PE X (.Name x p) (tVar i)) {pl : Pos}
    (hg : Gl X "len") (hm : X.mg "len" = none) (he : starEach [.Name x p] X.env = (false, eval (.Name x p) X.env) :: starEach [] X.env := by rfl) (hpl : (backTo pos (starEach [] X.env)).any (·.1) = false := by rfl) :
    PE X (.Call (.Name "len" pl) [.Name x p] [] pos) (LE X W (mLenB t i)) := by
  refine PEw (pe_callB (call_lenB G0 hr hx) hg hm boots_len (pa_cons hv pa_nil he) (by decide) (by decide) he hpl) ?_
  rintro σ H Q ⟨Z, F, ρ, R, S, w, tt, q⟩
  unfold mLenB at tt
  split at tt
  · rename_i a b d e0
    obtain ⟨h1, ⟨dx, hF, hH⟩, z, f, c⟩ := ob_at B S e0
    refine ⟨.ref a, at_some h1, a, dx, b, rfl, hH, hsp _ _ _ ?_⟩
    refine meth_low (n := 0) (R := fun r ρ' => (∃ n : Nat, r = .int n ∧ n < 2 ^ 62) ∧ R r ρ') B (Same.refl _) S e0 .nil rfl tt fun r ρ' v F' H' hr sf S' rv => ?_
    obtain ⟨⟨n, rfl, hn⟩, hR⟩ := hr
    cases rv
    exact ⟨n, rfl, hn, q _ ρ' _ F' H' hR sf S' (.int _)⟩
  · exact tt.elim
/-! ### a new list out of a method -/
def mMethN (t : PSp) (i : Nat) : ME := fun ρ R => match slot ρ i with
  | .ob a b d => t [.ob a b d] (fun r ss' => match slot ss' 0 with
    | .ob _ b' d' => b' = b ∧ R r (ρ.set i (.ob a b d'))
    | _ => False) (fun _ => False)
  | _ => False
theorem gn_meth0 {pl : Sem Bool} (B : BookK X.K C) (G0 : HasM X.prog X.w X.K X.mg X.base CX0 k C m ps (spN X.K X.mg 1 t)) (hr : Room k X.A) (hrow : (m == ("rows" : Str)) = false)
    (hv : PE X (.Name x p) (tVar i))
    (ht : eval (.Call (.Attribute (.Name x p) m apos) [] [] pos) X.env = (do let o1 ← eval (.Name x p) X.env; standAt apos.atName; let (g1, fst1) ← holding [o1] (getMethod o1 m pl); callWith pos g1 fst1 (backTo pos (starEach [] X.env)) (backToKw pos (keywordEach [] X.env))) := by rfl) :
    PE X (.Call (.Attribute (.Name x p) m apos) [] [] pos) (LN X W (mMethN t i)) := by
  obtain ⟨f, fd, F, hm, hb⟩ := G0
  refine PEw (pe_meth0 (E := EN) hv B.cls hm F hr hb .nil ps0 ht) ?_
  rintro σ H Q ⟨Z, F, ρ, R, S, w, tt, q⟩
  unfold mMethN at tt
  split at tt
  · rename_i a b d e0
    obtain ⟨h1, ⟨dx, hF, hH⟩, z, f, c⟩ := ob_at B S e0
    refine ⟨.ref a, at_some h1, a, dx, _, rfl, hH, by simp [List.lookup, hrow], ?_⟩
    obtain ⟨c1, c2, c3⟩ := ob_call (vs := []) (ds := []) S e0 .nil
    refine ⟨_, F, _, _, fun _ => False, rfl, c1, tt, fun _ _ _ _ z => z.elim, fun r ss' l F' H' hr' sf' S' fl zl cl aw => ?_⟩
    split at hr'
    · rename_i a' b' d' e'
      obtain ⟨rfl, hr'⟩ := hr'
      have S2 := c3 S' sf' e'
      refine q r _ l F' H' hr' sf' S2 fl (c2.free zl) cl fun j s ej mj => ?_
      obtain ⟨y1, y2, o, y3⟩ := S2.mut ej mj
      by_cases hl : l = b'
      · have h0 : ss'[0]? = some (.ob a' b' d') := slot_some e' (fun q => nomatch q)
        exact aw 0 _ h0 (by rw [hl]; exact .inr ⟨a', d', rfl⟩)
      · by_cases hj : i = j
        · subst hj
          have hlen : i < (ρ.set i (.ob a b' d')).length := (List.getElem?_eq_some_iff.mp ej).1
          rw [List.length_set] at hlen
          rw [List.getElem?_set_self hlen] at ej
          cases ej
          exact hl (mut_ob mj)
        · rw [List.getElem?_set_ne hj] at ej
          obtain ⟨_, g2, o2, g3⟩ := S.mut ej mj
          have nb : l ≠ b' := hl
          have zz : outZ F H (some b') l = some o2 := outZ_some.mpr ⟨g2, by simpa using nb, g3⟩
          rw [zz] at zl
          cases zl
    · exact hr'.elim
  · exact tt.elim
end
/-! ### == -/
/-- what __eq__ promises -/
def spEqB (K : PySem.W.Frag) (C : Addr) : Sp := fun vs H Q _ => ∃ a dx b xs v, H a = some (.ins C dx [("rows", .ref b)]) ∧ H b = some (.lst xs) ∧ xs.getLast? = some v ∧
  ((∃ a' dx' b' xs' v' d e R, vs = [.ref a, .ref a'] ∧ H a' = some (.ins C dx' [("rows", .ref b')]) ∧ H b' = some (.lst xs') ∧ xs'.getLast? = some v' ∧ Rep K H v d ∧ Rep K H v' e ∧ eqD d e R ∧ ∀ bb, R bb → Q (.bl bb) H) ∨
    (∃ y t, vs = [.ref a, y] ∧ TyX K H y t ∧ PySem.W.kitOne K t (.ref C) = some false ∧ Q (.bl false) H))
def rEqB (K : PySem.W.Frag) (C : Addr) : R2 := fun x y H Q => (∃ a dx fs, x = .ref a ∧ H a = some (.ins C dx fs)) ∧ (∃ t, TyX K H y t ∧ PySem.W.notFirst K C t = true) ∧ spEqB K C [x, y] H (fun v H' => (∃ bb, v = .bl bb) ∧ Q v H') EN
section
variable {X : Cx} {CX : CXT} {C : Addr} {k : Nat} {ps : List Str}
theorem op_eqB (G0 : HasM X.prog X.w X.K X.mg X.base CX k C "__eq__" ps (spEqB X.K C)) (hr : Room k X.A) (hx : Passes CX X EN) : OpR X (compareOp .Eq) (rEqB X.K C) := by
  intro pins s σ H x y u v Q I rx ry h
  obtain ⟨⟨a, dx, fs, rfl, hH⟩, ⟨t, ty, nt⟩, hs⟩ := h
  cases rx
  obtain ⟨f, fd, F, hm, hb⟩ := G0
  obtain ⟨mA, J, _⟩ := ins_get I.hok hH
  obtain ⟨od, J, _⟩ := J.look
  obtain ⟨mm, hF⟩ := I.fr
  obtain ⟨PP, kx, hp, _⟩ := kit_of I ry ty
  show wpAny (model X.prog X.w) X.A (richCompare .Eq (.ref a) v) (EP X pins σ Q) X.xe s
  refine PySem.W.cmp_K (op := .Eq) (tb := t) hr.units0 hF I.ok.mod.kin J (kx.ty _ _ I.kIn hp) nt hm.at_ hm.fn ?_
  refine thn (run_fn (E := EN) (Q := fun v H' => (∃ bb, v = V.bl bb) ∧ Q v H') (us := [.ref a, v]) (vs := [.ref a, y]) F hr hb .nil hx I (.cons rfl (.cons ry .nil)) (by rw [List.append_nil]; exact hs)) fun w s1 ⟨z, H1, I1, rz, ⟨bb, ez⟩, q⟩ => ?_
  subst ez
  cases rz
  exact ⟨.bl bb, H1, I1, rfl, q⟩
end
/-- x == e, x a book, e data -/
def mEqD (i : Nat) (te : ME) : ME := fun ρ R => match slot ρ i with
  | .ob _ _ _ => te ρ fun d ρ1 => tyD d = "tuple" ∧ match slot ρ1 i with
    | .ob _ _ (.list (_ :: _)) => R (.bool false) ρ1
    | _ => False
  | _ => False
section
variable {X : Cx} {W : Wish} {CX : CXT} {C : Addr} {i k : Nat} {ps : List Str} {x : Str} {p pos : Pos} {e : Expr} {te : ME}
theorem last_of {α : Type} {l : List α} (h : l ≠ []) : ∃ x, l.getLast? = some x := by
  cases l with
  | nil => exact (h rfl).elim
  | cons y ys => exact ⟨_, List.getLast?_cons⟩
theorem g_eqD (B : BookK X.K C) (G0 : HasM X.prog X.w X.K X.mg X.base CX k C "__eq__" ps (spEqB X.K C)) (hr : Room k X.A) (hx : Passes CX X EN) (hv : PE X (.Name x p) (tVar i)) (he : PE X e (LE X W te)) (hm : behindInMarks .Eq e = false := by rfl) :
    PE X (.Compare (.Name x p) [.Eq] [e] pos) (LE X W (mEqD i te)) := by
  refine PEw (pe_cmpR (op_eqB G0 hr hx) hv he hm) ?_
  rintro σ H Q ⟨Z, F, ρ, R, S, w, tt, q⟩
  unfold mEqD at tt
  split at tt
  · rename_i a b d e0
    obtain ⟨h1, ⟨dx, hF, hH⟩, z, f, c⟩ := ob_at B S e0
    refine ⟨.ref a, at_some h1, Z, F, ρ, _, S, w, tt, fun d1 ρ1 y F1 H1 t1 sf1 S1 r1 => ?_⟩
    obtain ⟨ety, t1⟩ := t1
    split at t1
    · rename_i a' b' d0 ds e1
      obtain ⟨rfl, rfl⟩ := ob_same B S e0 S1 sf1 e1
      obtain ⟨k1, ⟨dx1, kF, kH⟩, z1, f1, xs, hb1, hr1, hz1⟩ := ob_at B S1 e1
      have hne : xs ≠ [] := fun z => by rw [z] at hr1; cases hr1
      obtain ⟨v, hl⟩ := last_of hne
      have ty := (r1.monoW S1.fh).tyx
      rw [ety] at ty
      exact ⟨⟨a', dx1, _, rfl, kH⟩, ⟨_, ty, B.nT⟩, a', dx1, b', xs, v, kH, hb1, hl, .inr ⟨y, _, rfl, ty, B.kT, ⟨false, rfl⟩, q _ ρ1 _ F1 H1 t1 sf1 S1 (.bl false)⟩⟩
    · exact t1.elim
  · exact tt.elim
theorem gt_eqD (B : BookK X.K C) (G0 : HasM X.prog X.w X.K X.mg X.base CX k C "__eq__" ps (spEqB X.K C)) (hr : Room k X.A) (hx : Passes CX X EN) (hv : PE X (.Name x p) (tVar i)) (he : PE X e (LE X W te)) (hm : behindInMarks .Eq e = false := by rfl) :
    PT X (.Compare (.Name x p) [.Eq] [e] pos) (LB X W (mT (mEqD i te))) := by
  refine PTw (pt_cmpR (op_eqB G0 hr hx) hv he hm) ?_
  rintro σ H Q ⟨Z, F, ρ, R, S, w, tt, q⟩
  unfold mT mEqD at tt
  split at tt
  · rename_i a b d e0
    obtain ⟨h1, ⟨dx, hF, hH⟩, z, f, c⟩ := ob_at B S e0
    refine ⟨.ref a, at_some h1, Z, F, ρ, _, S, w, tt, fun d1 ρ1 y F1 H1 t1 sf1 S1 r1 => ?_⟩
    obtain ⟨ety, t1⟩ := t1
    split at t1
    · rename_i a' b' d0 ds e1
      obtain ⟨rfl, rfl⟩ := ob_same B S e0 S1 sf1 e1
      obtain ⟨k1, ⟨dx1, kF, kH⟩, z1, f1, xs, hb1, hr1, hz1⟩ := ob_at B S1 e1
      have hne : xs ≠ [] := fun z => by rw [z] at hr1; cases hr1
      obtain ⟨v, hl⟩ := last_of hne
      have ty := (r1.monoW S1.fh).tyx
      rw [ety] at ty
      exact ⟨⟨a', dx1, _, rfl, kH⟩, ⟨_, ty, B.nT⟩, a', dx1, b', xs, v, kH, hb1, hl, .inr ⟨y, _, rfl, ty, B.kT, ⟨false, rfl⟩, false, rfl, q false ρ1 F1 H1 t1 sf1 S1⟩⟩
    · exact t1.elim
  · exact tt.elim
end
end G


set_option Elab.async false
set_option maxRecDepth 100000
set_option maxHeartbeats 1000000
/-! HV5: books made; a list that is nobody's; a list of one's own and another one. -/
namespace G
open PySem PySem.Spec PyProof.Rows L2
section
variable {K : PySem.W.Frag} {Z F H : Hp} {σ : L2.St} {ρ : Ms}
/-- what nothing here changes is frozen from now on -/
theorem Stt.freezeNew (S : Stt K Z F H σ ρ) {p : Addr} (o : HO) (fp : F p = none) (zp : Z p = none) (aw : ∀ i s, ρ[i]? = some s → ¬ mutA (at_ σ i) s p) : Stt K Z (upd F p o) (upd H p o) σ ρ := by
  refine ⟨upd_same_upd S.fh, fun b u q => ?_, fun a q => ?_, S.len, fun i s e => ?_, S.ap⟩
  · rw [upd_ne (fun z => by rw [z, zp] at q; cases q)]; exact S.zh b u q
  · rw [upd_ne (fun z => q (by rw [z]; exact zp))]; exact S.zf a q
  · have ne : ∀ a, mutA (at_ σ i) s a → a ≠ p := fun a m z => aw i s e (z ▸ m)
    refine (S.sl i s e).move (same_upd fp) (fun a u m q => ?_) (fun a m => (S.mut e m).1) fun a m => ?_
    · rw [upd_ne (ne a m)]; exact q
    · rw [upd_ne (ne a m)]; exact (S.mut e m).2.1
theorem Stt.snocOb (S : Stt K Z F H σ ρ) {a b : Addr} {d : PyData} (hx : ∃ C dx, PySem.W.nsIn K mainGlobals "Book" = some (some (.ref C)) ∧ F a = some (.ins C dx [("rows", .ref b)])) (zb : Z b = none) (fb : F b = none) (c : Cont K F H b d)
    (aw : ∀ i s, ρ[i]? = some s → ¬ mutA (at_ σ i) s b) : Stt K Z F H (σ ++ [some (.ref a)]) (ρ ++ [.ob a b d]) := by
  have hl := S.len
  have key : ∀ i s, (ρ ++ [Sl.ob a b d])[i]? = some s → (i = ρ.length ∧ s = .ob a b d ∧ at_ (σ ++ [some (.ref a)]) i = some (.ref a)) ∨ (i < ρ.length ∧ ρ[i]? = some s ∧ at_ (σ ++ [some (.ref a)]) i = at_ σ i) := fun i s e => by
    rcases Nat.lt_trichotomy i ρ.length with h | h | h
    · refine .inr ⟨h, ?_, ?_⟩
      · rw [List.getElem?_append_left h] at e; exact e
      · unfold at_; rw [List.getElem?_append_left (by omega)]
    · subst h
      rw [List.getElem?_append_right (Nat.le_refl _), Nat.sub_self] at e
      refine .inl ⟨rfl, (Option.some.inj e).symm, ?_⟩
      unfold at_; rw [List.getElem?_append_right (by omega), ← hl, Nat.sub_self]; rfl
    · rw [List.getElem?_eq_none (by simp; omega)] at e; cases e
  refine ⟨S.fh, S.zh, S.zf, by rw [List.length_append, List.length_append, hl]; rfl, fun i s e => ?_, fun i j s t x e1 e2 m1 m2 => ?_⟩
  · rcases key i s e with ⟨_, rfl, z⟩ | ⟨_, e', z⟩
    · rw [z]; exact ⟨rfl, hx, zb, fb, c⟩
    · rw [z]; exact S.sl i s e'
  · rcases key i s e1 with ⟨c1, rfl, z1⟩ | ⟨c1, f1, z1⟩ <;> rcases key j t e2 with ⟨c2, rfl, z2⟩ | ⟨c2, f2, z2⟩
    · omega
    · cases mut_ob m1
      rw [z2] at m2
      exact (aw j t f2 m2).elim
    · cases mut_ob m2
      rw [z1] at m1
      exact (aw i s f1 m1).elim
    · rw [z1] at m1
      rw [z2] at m2
      exact S.ap i j s t x f1 f2 m1 m2
theorem Stt.putOb (S : Stt K Z F H σ ρ) (i : Nat) {a b : Addr} {d : PyData} (hx : ∃ C dx, PySem.W.nsIn K mainGlobals "Book" = some (some (.ref C)) ∧ F a = some (.ins C dx [("rows", .ref b)])) (zb : Z b = none) (fb : F b = none) (c : Cont K F H b d)
    (aw : ∀ i s, ρ[i]? = some s → ¬ mutA (at_ σ i) s b) : Stt K Z F H (σ.set i (some (.ref a))) (ρ.set i (.ob a b d)) :=
  S.put ⟨rfl, hx, zb, fb, c⟩ fun x m j t q _ => by
    cases mut_ob m
    exact aw j t q
end
/-- an expression whose value is a new book that nothing else holds -/
def lK (K : PySem.W.Frag) (mg : Str → Option Value) (W : Wish) (t : ME) : TE := fun σ H Q => ∃ Z F ρ R, Stt K Z F H σ ρ ∧ WOk mg W Z F ∧ t ρ R ∧ ∀ d ρ' a b F' H', R d ρ' → Same F F' → Stt K Z F' H' σ ρ' →
  (∃ C dx, PySem.W.nsIn K mainGlobals "Book" = some (some (.ref C)) ∧ F' a = some (.ins C dx [("rows", .ref b)])) → Z b = none → F' b = none → Cont K F' H' b d → (∀ i s, ρ'[i]? = some s → ¬ mutA (at_ σ i) s b) → Q (.ref a) H'
abbrev LK (X : Cx) (W : Wish) (t : ME) : TE := lK X.K X.mg W t
/-- the rows of a new book -/
def row0 (d : PyData) : PyData := .list [.tuple [d, .tuple []]]
/-- what __init__ promises; t: what refuses -/
def spInit (K : PySem.W.Frag) (C : Addr) (t : PSp) : Sp := fun vs H Q _ => ∃ Z F x v d dx, vs = [.ref x, v] ∧ Stt K Z F H [] [] ∧ Z x = some (.ins C dx []) ∧ Rep K F v d ∧ t [.dat d] (fun _ _ => True) (fun _ => False) ∧
  ∀ p F' H', Same F F' → Stt K Z F' H' [] [] → F' p = none → Z p = none → Cont K F' H' p (row0 d) → Q .non (upd H' x (.ins C dx [("rows", .ref p)]))
def mBook (t : PSp) (te : ME) : ME := fun ρ R => te ρ fun d ρ1 => t [.dat d] (fun _ _ => True) (fun _ => False) ∧ R (row0 d) ρ1
section
variable {X : Cx} {W : Wish} {CX : CXT} {C f : Addr} {fd : FuncData} {i k : Nat} {ps : List Str} {t : PSp} {x : Str} {p pos : Pos} {e : Expr} {te tk : ME}
theorem g_make (B : BookK X.K C) (M : Mk X.K C f) (F : FnOk X.prog X.w X.K X.mg X.base CX k f fd ps (spInit X.K C t)) (hr : Room (k + 1) X.A) (hg : Gl X "Book") (hm : X.mg "Book" = some (.ref C)) (hb : Binds X.K fd ps []) (hx : Passes CX X EN)
    (he : PE X e (LE X W te)) (hs : starEach [e] X.env = (false, eval e X.env) :: starEach [] X.env := by rfl) (hpl : (backTo pos (starEach [] X.env)).any (·.1) = false := by rfl) :
    PE X (.Call (.Name "Book" p) [e] [] pos) (LK X W (mBook t te)) := by
  refine PEw (pe_make (E := EN) M F hr hg hm hb .nil hx (pa_cons he pa_nil hs) (by decide) hs hpl) ?_
  rintro σ H Q ⟨Z, F, ρ, R, S, w, tt, q⟩
  refine ⟨Z, F, ρ, _, S, w, tt, fun d ρ1 v F1 H1 t1 sf1 S1 r1 => fun x dx hx hdx hne => ?_⟩
  obtain ⟨ht, hR⟩ := t1
  have hx1 : upd H1 dx (.own x) x = none := by rw [upd_ne (Ne.symm hne)]; exact hx
  have S2 := (S1.lay (.own x) hdx).lay (.ins C dx []) hx1
  have zx : outZ F1 (upd (upd H1 dx (.own x)) x (.ins C dx [])) none x = some (.ins C dx []) := outZ_some.mpr ⟨S1.fh.free hx, by simp, upd_same⟩
  refine ⟨_, F1, x, v, d, dx, rfl, S2.callee .nil, zx, r1, ht, fun p F' H' sf' S' fp zp c => ⟨rfl, ?_⟩⟩
  have S3 := S2.after S' sf'
  have fx : F' x = none := S'.zf x (by rw [zx]; simp)
  have zx0 : Z x = none := S1.zh.free hx
  have hpx : p ≠ x := fun z => by rw [z, zx] at zp; cases zp
  have awx : ∀ i s, ρ1[i]? = some s → ¬ mutA (at_ σ i) s x := fun i s e m => by
    obtain ⟨_, _, o, ho⟩ := S1.mut e m
    rw [hx] at ho; cases ho
  have S4 := S3.freezeNew (.ins C dx [("rows", .ref p)]) fx zx0 awx
  refine q _ ρ1 x p _ _ hR ((sf1.trans sf').trans (same_upd fx)) S4 ⟨C, dx, B.at_, upd_same⟩ (S2.zOut.free zp) (by rw [upd_ne hpx]; exact fp) (c.mono (same_upd fx) fun o ho => by rw [upd_ne hpx]; exact ho) fun i s e m => ?_
  obtain ⟨_, g1, o, g2⟩ := S1.mut e m
  have h1 : upd (upd H1 dx (.own x)) x (.ins C dx []) p = some o := by
    rw [upd_ne hpx, upd_ne (fun z => by rw [z, hdx] at g2; cases g2)]
    exact g2
  have zz : outZ F1 (upd (upd H1 dx (.own x)) x (.ins C dx [])) none p = some o := outZ_some.mpr ⟨g1, by simp, h1⟩
  rw [zz] at zp; cases zp
/-- x = Book(e) -/
def mSetB (i : Nat) (tk : ME) : MS := fun D ρ => tk ρ fun d ρ1 => freeS ρ1 i = true ∧ ∀ a b, D.nx (ρ1.set i (.ob a b d))
theorem gs_setB (hN : X.N.Nodup) (hi : X.N[i]? = some x) (hx : Loc X.env.scope x) (he : PE X e (LK X W tk)) (hs : swapsWith e (some (.Name x p)) pos.line X.env = pure false := by rfl) (hf : X.fn x = true ∨ X.env.scope.names.lookup x = some .local := by first | exact .inl rfl | exact .inr rfl | assumption) :
    PS X (.Assign [.Name x p] e pos) (LS X W (mSetB i tk)) := by
  refine PSw (ps_set hN hi hx he hs hf) ?_
  rintro D σ H ⟨Z, F, ρ, DR, S, w, t, k⟩
  exact ⟨Z, F, ρ, _, S, w, t, fun d ρ1 a b F1 H1 t1 sf1 S1 bx zb fb c aw => k.nx _ _ F1 H1 (t1.2 a b) sf1 (S1.putOb i bx zb fb c aw)⟩
def pB (tk : ME) : MP := fun ρ R => tk ρ fun d ρ1 => ∀ a b, R [.ob a b d] ρ1
theorem gp_B (ha : PE X e (LK X W tk)) (hs : starEach [e] X.env = (false, eval e X.env) :: starEach [] X.env := by rfl) : PA X [e] (LP X W 1 (pB tk)) := by
  refine PAw (pa_cons ha pa_nil hs) ?_
  rintro σ H Q ⟨Z, F, ρ, R, S, w, t, q⟩
  exact ⟨Z, F, ρ, _, S, w, t, fun d ρ1 a b F1 H1 t1 sf1 S1 bx zb fb c aw => q [.ob a b d] ρ1 [.ref a] F1 H1 (t1 a b) sf1 (S1.snocOb bx zb fb c aw) rfl rfl S1.len⟩
/-- x == Book(e) -/
def mEqBB (i : Nat) (tk : ME) : ME := fun ρ R => match slot ρ i with
  | .ob _ _ _ => tk ρ fun d ρ1 => match slot ρ1 i, d with
    | .ob _ _ (.list ds), .list es => match ds.getLast?, es.getLast? with
      | some y, some z => eqD y z fun bb => R (.bool bb) ρ1
      | _, _ => False
    | _, _ => False
  | _ => False
theorem RepAll.last {K : PySem.W.Frag} {H : Hp} {vs : List V} {ds : List PyData} {d : PyData} (h : RepAll K H vs ds) (e : ds.getLast? = some d) : ∃ v, vs.getLast? = some v ∧ Rep K H v d := by
  rw [List.getLast?_eq_getElem?] at e ⊢
  obtain ⟨v, e1, e2⟩ := h.get e
  exact ⟨v, by rw [h.length]; exact e1, e2⟩
theorem g_eqBB (B : BookK X.K C) (G0 : HasM X.prog X.w X.K X.mg X.base CX k C "__eq__" ps (spEqB X.K C)) (hr : Room k X.A) (hx : Passes CX X EN) (hv : PE X (.Name x p) (tVar i)) (he : PE X e (LK X W tk)) (hm : behindInMarks .Eq e = false := by rfl) :
    PE X (.Compare (.Name x p) [.Eq] [e] pos) (LE X W (mEqBB i tk)) := by
  refine PEw (pe_cmpR (op_eqB G0 hr hx) hv he hm) ?_
  rintro σ H Q ⟨Z, F, ρ, R, S, w, tt, q⟩
  unfold mEqBB at tt
  split at tt
  · rename_i a b d e0
    obtain ⟨h1, ⟨dx, hF, hH⟩, z, f, c⟩ := ob_at B S e0
    refine ⟨.ref a, at_some h1, Z, F, ρ, _, S, w, tt, fun d1 ρ1 a2 b2 F1 H1 t1 sf1 S1 bx zb fb c2 aw => ?_⟩
    split at t1
    · rename_i a' b' ds es e1
      obtain ⟨rfl, rfl⟩ := ob_same B S e0 S1 sf1 e1
      obtain ⟨k1, ⟨dx1, kF, kH⟩, z1, f1, xs, hb1, hr1, hz1⟩ := ob_at B S1 e1
      obtain ⟨C', dx2, hC, hF2⟩ := bx
      have eC := B.at_
      rw [hC] at eC
      cases eC
      obtain ⟨ys, hb2, hr2, hz2⟩ := c2
      split at t1
      · rename_i y z ey ez
        obtain ⟨v, hv1, rv⟩ := hr1.last ey
        obtain ⟨v', hv2, rv'⟩ := hr2.last ez
        have kH2 := S1.fh.ins hF2
        refine ⟨⟨a', dx1, _, rfl, kH⟩, ⟨.ref C, .base (.ins kH2 B.cls B.ha B.hn B.ht B.hm), by simp [PySem.W.notFirst]⟩, a', dx1, b', xs, v, kH, hb1, hv1, .inl ⟨a2, dx2, b2, ys, v', y, z, _, rfl, kH2, hb2, hv2, rv.monoW S1.fh, rv'.monoW S1.fh, t1, fun bb hbb => ⟨⟨bb, rfl⟩, ?_⟩⟩⟩
        exact q _ ρ1 _ F1 H1 hbb sf1 S1 (.bl bb)
      · exact t1.elim
    · exact t1.elim
  · exact tt.elim
/-- e.append(x), e a new list that is dropped -/
def mTmpApp (te ta : ME) : ME := fun ρ R => te ρ fun d ρ1 => (∃ ds, d = .list ds ∧ ds.length < 1000) ∧ ta ρ1 fun _ ρ2 => R .none ρ2
theorem g_tmpApp {o : Expr} {ta : ME} {apos : Pos} (ho : PE X o (LN X W te)) (he : PE X e (LE X W ta)) (hb : attributeBase o "append" X.env (eval o X.env) = eval o X.env := by rfl)
    (h : PE X (.Call (.Attribute o "append" apos) [e] [] pos) (tBM X.K "list" rAppend (LN X W te) (tCons (LE X W ta) tNil))) :
    PE X (.Call (.Attribute o "append" apos) [e] [] pos) (LE X W (mTmpApp te ta)) := by
  refine PEw h ?_
  rintro σ H Q ⟨Z, F, ρ, R, S, w, t, q⟩
  refine ⟨Z, F, ρ, _, S, w, t, fun d ρ1 a F1 H1 t1 sf1 S1 fa za c aw => ?_⟩
  obtain ⟨⟨ds, rfl, hlen⟩, t1⟩ := t1
  obtain ⟨xs, h1, h2, h3⟩ := c
  have zz : Same Z (upd Z a (.lst xs)) := same_upd za
  refine ⟨Or.inl ⟨rfl, _, Or.inl (Or.inl h1)⟩, upd Z a (.lst xs), F1, ρ1, _, S1.holdZ fa za h1 aw, (w.mono sf1).more zz, t1, fun d2 ρ2 v F2 H2 t2 sf2 S2 r2 => ?_⟩
  have h12 : H2 a = some (.lst xs) := S2.zh a _ upd_same
  exact ⟨a, xs, v, rfl, rfl, h12, by rw [h2.length]; exact small1000 (Nat.le_of_lt hlen), q _ ρ2 _ F2 _ t2 (sf1.trans sf2) ((S2.outerPut (o' := .lst (xs ++ [v])) za).lessZ (same_upd za)) .non⟩
/-- x + e, x a list of one's own -/
def mCatO (i : Nat) (tb : ME) : ME := fun ρ R => match slot ρ i with
  | .own _ => tb ρ fun e ρ1 => match slot ρ1 i, e with
    | .own (.list ds), .list es => ds.length + es.length ≤ 1000 ∧ R (.list (ds ++ es)) ρ1
    | _, _ => False
  | _ => False
theorem gn_catO (hv : PE X (.Name x p) (tVar i)) (he : PE X e (LE X W te)) : PE X (.BinOp (.Name x p) .Add e pos) (LN X W (mCatO i te)) := by
  refine PEw (pe_op op_cat hv he) ?_
  rintro σ H Q ⟨Z, F, ρ, R, S, w, t, q⟩
  unfold mCatO at t
  split at t
  · rename_i d0 e0
    obtain ⟨a, e1, _⟩ := S.sl i _ (slot_some e0 (fun q => nomatch q))
    refine ⟨.ref a, at_some e1, Z, F, ρ, _, S, w, t, fun d ρ1 y F1 H1 t1 sf1 S1 r1 => ?_⟩
    split at t1
    · rename_i ds es e2
      obtain ⟨a', k1, za, fa, xs, h1, h2, h3⟩ := S1.sl i _ (slot_some e2 (fun q => nomatch q))
      rw [e1] at k1; cases k1
      cases r1 with
      | @lst b ys _ g1 g2 g3 =>
        obtain ⟨hl, t1⟩ := t1
        refine ⟨a, b, xs, ys, rfl, rfl, h1, S1.fh.lst g1, by rw [h2.length, g2.length]; exact line1000 hl, fun p hp => ?_⟩
        exact q _ ρ1 p F1 _ t1 sf1 (S1.lay _ hp) (S1.fh.free hp) (S1.zh.free hp) ⟨_, upd_same, h2.append g2, by rw [List.length_append]; exact line1000 hl⟩ (S1.newAway hp)
    · exact t1.elim
  · exact t.elim
end
end G


set_option Elab.async false
set_option maxRecDepth 100000
set_option maxHeartbeats 1000000
/-! HV6: a new list handed to a def that changes it; the making of a book in short. -/
namespace G
open PySem PySem.Spec PyProof.Rows L2
theorem Stt.afterT {K : PySem.W.Frag} {Z F H F' H' : Hp} {σ τ : L2.St} {ρ ss : Ms} {a : Addr} (S : Stt K Z F H σ ρ) (za : Z a = none) (aw : ∀ i s, ρ[i]? = some s → ¬ mutA (at_ σ i) s a) (S' : Stt K (outZ F H (some a)) F' H' τ ss) (sf : Same F F') : Stt K Z F' H' σ ρ := by
  have zo := S.zOutA za
  refine ⟨S'.fh, zo.trans S'.zh, fun b q => S'.zf b fun z => q (zo.free z), S.len, fun i s e => ?_, S.ap⟩
  have ne : ∀ b, mutA (at_ σ i) s b → some b ≠ some a := fun b m z => by
    cases z
    exact aw i s e m
  refine (S.sl i s e).move sf (fun b o m q => S'.zh b o (outZ_some.mpr ⟨(S.mut e m).2.1, ne b m, q⟩)) (fun b m => (S.mut e m).1) fun b m => ?_
  obtain ⟨_, f, o, h⟩ := S.mut e m
  exact S'.zf b (by rw [outZ_some.mpr ⟨f, ne b m, h⟩]; simp)
def mCallT (t : PSp) (RE : Str → Prop) (tn : ME) (ta : MA) : ME := fun ρ R => tn ρ fun d ρ1 => ta ρ1 fun ds ρ2 => ∀ a, t (.inn a d :: ds.map Sl.dat) (fun r _ => R r ρ2) RE
section
variable {X : Cx} {W : Wish} {k n : Nat} {x : Str} {ps : List Str} {t : PSp} {e : Expr} {es : List Expr} {p pos : Pos} {ta : MA} {tn te : ME}
/-- f(e, ..), e a new list that f may change -/
theorem g_callTH (F : Has X.prog X.w X.K X.mg X.base k x ps (spD X.K X.mg (n + 1) t)) (hr : Room k X.A) (hg : Gl X x) (hx : Passes CX0 X W.E)
    (hn : PE X e (LN X W tn)) (ha : PA X es (LA X W n ta)) (hdb : (x == ("__debug__" : Str)) = false := by decide) (he : starEach (e :: es) X.env = (false, eval e X.env) :: starEach es X.env := by rfl) (hpl : (backTo pos (starEach es X.env)).any (·.1) = false := by rfl) :
    PE X (.Call (.Name x p) (e :: es) [] pos) (LE X W (mCallT t W.RE tn ta)) := by
  obtain ⟨f, fd, F, hm, hk, hb⟩ := F
  refine PEw (pe_call F hr hg hm hk hb .nil hx (pa_cons hn ha he) hdb he hpl) ?_
  rintro σ H Q ⟨Z, F, ρ, R, S, w, ht, q⟩
  refine ⟨Z, F, ρ, _, S, w, ht, fun d ρ1 a F1 H1 t1 sf1 S1 fa za c aw => ?_⟩
  obtain ⟨o, ho⟩ := c.some
  have zz : Same Z (upd Z a o) := same_upd za
  refine ⟨upd Z a o, F1, ρ1, _, S1.holdZ fa za ho aw, (w.mono sf1).more zz, t1, fun ds ρ2 vs F2 H2 t2 sf2 S2 ra l => ?_⟩
  dsimp only
  rw [List.append_nil]
  have fa2 : F2 a = none := S2.zf a (by rw [upd_same]; simp)
  have ho2 : H2 a = some o := S2.zh a o upd_same
  have c2 : Cont X.K F2 H2 a d := c.mono sf2 fun u hu => by rw [ho] at hu; cases hu; exact ho2
  have aw2 : ∀ i s, ρ2[i]? = some s → ¬ mutA (at_ σ i) s a := fun i s h m => by
    have := (S2.mut h m).1
    rw [upd_same] at this; cases this
  have S3 := S2.lessZ zz
  have za0 : outZ F2 H2 (some a) a = none := by
    cases y : outZ F2 H2 (some a) a with
    | none => rfl
    | some o => exact ((outZ_some.mp y).2.1 rfl).elim
  have cs : Stt X.K (outZ F2 H2 (some a)) F2 H2 ((V.ref a :: vs).map some) (.inn a d :: ds.map Sl.dat) := by
    refine S3.calleeR (ds := PyData.none :: ds) (vs := V.ref a :: vs) (j0 := 0) (s := .inn a d) (z := some a) (by rw [List.length_cons, List.length_cons, ra.length]) (by simp) (fun j d' hj hd => ?_) rfl ⟨rfl, za0, fa2, c2⟩
    cases j with
    | zero => exact (hj rfl).elim
    | succ j =>
      obtain ⟨v, h1, h2⟩ := ra.get (i := j) (by simpa using hd)
      exact ⟨v, by simpa using h1, h2⟩
  refine ⟨_, F2, _, _, W.RE, by rw [List.length_cons, ra.length, l], cs, t2 a, ((w.mono sf1).mono sf2).more (S3.zOutA za), fun r ss' v' F' H' hr' sf' S' rv => ?_⟩
  exact q r ρ2 v' F' H' hr' ((sf1.trans sf2).trans sf') (S3.afterT za aw2 S' sf') rv
end
def HasMk (P : Program) (w : World) (K : PySem.W.Frag) (mg : Str → Option Value) (base : Heap) (k : Nat) (C : Addr) (t : PSp) : Prop := ∃ (f : Addr) (fd : FuncData), Mk K C f ∧ FnOk P w K mg base CX0 k f fd ["self", "things"] (spInit K C t) ∧ mg "Book" = some (.ref C) ∧ Binds K fd ["self", "things"] []
section
variable {X : Cx} {W : Wish} {C : Addr} {k : Nat} {t : PSp} {p pos : Pos} {e : Expr} {te : ME}
theorem gb_make (B : BookK X.K C) (G0 : HasMk X.prog X.w X.K X.mg X.base k C t) (hr : Room (k + 1) X.A) (hg : Gl X "Book") (he : PE X e (LE X W te))
    (hs : starEach [e] X.env = (false, eval e X.env) :: starEach [] X.env := by rfl) (hpl : (backTo pos (starEach [] X.env)).any (·.1) = false := by rfl) :
    PE X (.Call (.Name "Book" p) [e] [] pos) (LK X W (mBook t te)) := by
  obtain ⟨f, fd, M, F, hm, hb⟩ := G0
  exact g_make B M F hr hg hm hb ps0 he hs hpl
end
/-! ### range(a, b) walked -/
def rangeD2 (lo : Int) (n : Nat) : List PyData := (List.range n).map fun (k : Nat) => PyData.int (lo + (k : Int))
def iRg2 (te tf : ME) : MI := fun ρ R => te ρ fun d ρ1 => tf ρ1 fun e ρ2 => match d, e with
  | .int i, .int j => (-10000 ≤ i ∧ i < 10000 ∧ -10000 ≤ j ∧ j < 10000) ∧ R (rangeD2 i (j - i).toNat) ρ2
  | _, _ => False
theorem walk_range2 {K : PySem.W.Frag} {Z F : Hp} {lo : Int} {n : Nat} : WalkOn K Z F (Itr lo n) (rangeD2 lo n) := fun F' H' sf sw _ => by
  have hl : (rangeD2 lo n).length = n := by unfold rangeD2; rw [List.length_map, List.length_range]
  rw [hl]
  refine ⟨fun i hi => hi, Nat.le_refl _, fun i x H'' hi y => ⟨y.1, .int (lo + (i : Int)), ?_, ?_⟩⟩
  · unfold rangeD2
    rw [List.getElem?_map, List.getElem?_range hi]
    rfl
  · rw [y.2]
    exact .int _
theorem gi_range2 {X : Cx} {W : Wish} {te tf : ME} {e f tg : Expr} {p pos : Pos} (hg : Gl X "range") (hm : X.mg "range" = none) (he : PE X e (LE X W te)) (hf : PE X f (LE X W tf))
    (hs : starEach [e, f] X.env = [(false, eval e X.env), (false, eval f X.env)] := by rfl) (hs2 : starEach [e, f] X.env = (false, eval e X.env) :: starEach [f] X.env := by rfl) (hs3 : starEach [f] X.env = (false, eval f X.env) :: starEach [] X.env := by rfl) (hs4 : starEach [f] X.env = [(false, eval f X.env)] := by rfl) :
    PI X tg (.Call (.Name "range" p) [e, f] [] pos) (LI X W (iRg2 te tf)) := by
  refine PIw (pi_range2 hg hm (pa_cons he (pa_cons hf pa_nil hs3) hs2) hs hs4) ?_
  rintro σ H Q ⟨Z, F, ρ, R, S, w, t, q⟩
  refine ⟨Z, F, ρ, _, S, w, t, fun d ρ1 v F1 H1 t1 sf1 S1 r1 => ?_⟩
  refine ⟨Z, F1, ρ1, _, S1, w.mono sf1, t1, fun e ρ2 u F2 H2 t2 sf2 S2 r2 => ?_⟩
  split at t2
  · rename_i i j
    cases r1
    cases r2
    obtain ⟨hj, t2⟩ := t2
    exact ⟨i, j, rfl, ⟨by omega, by omega, by omega, by omega⟩, q _ ρ2 F2 H2 _ t2 (sf1.trans sf2) S2 walk_range2 (by unfold rangeD2; rw [List.length_map, List.length_range]; exact Nat.le_trans (by omega : (j - i).toNat ≤ 20000) (by decide))⟩
  · exact t2.elim
end G


set_option Elab.async false
set_option maxRecDepth 100000
set_option maxHeartbeats 1000000
/-! HV7: a method that may raise as a value; try .. except X as e: return f(e). -/
namespace G
open PySem PySem.Spec PyProof.Rows L2
theorem Stt.grow {K : PySem.W.Frag} {Z F H H' : Hp} {σ : L2.St} {ρ : Ms} (S : Stt K Z F H σ ρ) (e : Same H H') : Stt K Z F H' σ ρ :=
  ⟨S.fh.before e, S.zh.trans e, S.zf, S.len, fun i s q => (S.sl i s q).move (Same.refl _) (fun a o _ h => e a o h) (fun a m => (S.mut q m).1) fun a m => (S.mut q m).2.1, S.ap⟩
abbrev MEX := Ms → (PyData → Ms → Prop) → (Str → Ms → Prop) → Prop
/-- an expression that may raise -/
def lEX (K : PySem.W.Frag) (mg : Str → Option Value) (E : XK) (t : MEX) : TE := fun σ H Q => ∃ Z F ρ R RZ, Stt K Z F H σ ρ ∧ t ρ R RZ ∧ (∀ d ρ' v F' H', R d ρ' → Same F F' → Stt K Z F' H' σ ρ' → Rep K F' v d → Q v H') ∧
  ∀ n C ρ' F' H', RZ n ρ' → mg n = some (.ref C) → Same F F' → Stt K Z F' H' σ ρ' → E (.ref C) none H'
abbrev LEX (X : Cx) (E : XK) (t : MEX) : TE := lEX X.K X.mg E t
def eMeth (t : PSp) (i : Nat) (ta : MA) : MEX := fun ρ R RZ => match slot ρ i with
  | .ob _ _ _ => ta ρ fun ds ρ1 => match slot ρ1 i with
    | .ob a b d => t (.ob a b d :: ds.map Sl.dat) (fun r ss' => match slot ss' 0 with
      | .ob _ b' d' => b' = b ∧ R r (ρ1.set i (.ob a b d'))
      | _ => False) (fun nm => RZ nm ρ1)
    | _ => False
  | _ => False
def eIf (c : MB) (t u : MEX) : MEX := fun ρ R RZ => c ρ fun b ρ1 => if b = true then t ρ1 R RZ else u ρ1 R RZ
def xRet (t : MEX) : MX := fun D ρ => t ρ D.rt D.rz
section
variable {X : Cx} {E : XK} {C : Addr} {i n k : Nat} {x m : Str} {p pos pos2 apos : Pos} {e a b c : Expr} {es : List Expr} {ta : MA} {t : PSp} {ps : List Str} {t1 t2 : MEX} {tc : MB}
theorem ex_low (B : BookK X.K C) {σ : L2.St} {H H1 : Hp} {Q : VK} {Z F F1 : Hp} {ρ ρ1 : Ms} {vs : List V} {ds : List PyData} {a0 b0 : Addr} {d0 : PyData} {R : PyData → Ms → Prop} {RZ : Str → Ms → Prop} (S : Stt X.K Z F H σ ρ) (e0 : slot ρ i = .ob a0 b0 d0)
    (sf1 : Same F F1) (S1 : Stt X.K Z F1 H1 σ ρ1) (ra : RepAll X.K F1 vs ds) (l : ds.length = n)
    (t1 : match slot ρ1 i with
      | .ob a b d => t (.ob a b d :: ds.map Sl.dat) (fun r ss' => match slot ss' 0 with
        | .ob _ b' d' => b' = b ∧ R r (ρ1.set i (.ob a b d'))
        | _ => False) (fun nm => RZ nm ρ1)
      | _ => False)
    (q : ∀ d ρ' v F' H', R d ρ' → Same F F' → Stt X.K Z F' H' σ ρ' → Rep X.K F' v d → Q v H') (qz : ∀ n C ρ' F' H', RZ n ρ' → X.mg n = some (.ref C) → Same F F' → Stt X.K Z F' H' σ ρ' → E (.ref C) none H') :
    spX X.K X.mg (n + 1) t (.ref a0 :: vs) H1 Q E := by
  split at t1
  · rename_i a' b' d e1
    obtain ⟨rfl, rfl⟩ := ob_same B S e0 S1 sf1 e1
    obtain ⟨c1, c2, c3⟩ := ob_call S1 e1 ra
    refine ⟨_, F1, _, _, _, by rw [List.length_cons, ra.length, l], c1, t1, fun nm C F' H' hz hmg sf' S' => ?_, fun r ss' v F' H' hr sf' S' rv => ?_⟩
    · have S2 := c3 S' sf' rfl
      rw [set_slot e1 (fun q => nomatch q)] at S2
      exact qz nm C ρ1 F' H' hz hmg (sf1.trans sf') S2
    · split at hr
      · rename_i a2 b2 d2 e2
        obtain ⟨rfl, hr⟩ := hr
        exact q r _ v F' H' hr (sf1.trans sf') (c3 S' sf' e2) rv
      · exact hr.elim
  · exact t1.elim
theorem gex_meth {pl : Sem Bool} (B : BookK X.K C) (G0 : HasM X.prog X.w X.K X.mg X.base (L2N.CX X.prog X.w) k C m ps (spX X.K X.mg (n + 1) t)) (hr : Room k X.A) (hx : Passes (L2N.CX X.prog X.w) X E) (hrow : (m == ("rows" : Str)) = false)
    (hv : PE X (.Name x p) (tVar i)) (ha : PA X (e :: es) (LA X Wish.no n ta))
    (hst : starEach (e :: es) X.env = (false, eval e X.env) :: starEach es X.env := by rfl) (hpl : (backTo pos (starEach es X.env)).any (·.1) = false := by rfl)
    (ht : eval (.Call (.Attribute (.Name x p) m apos) (e :: es) [] pos) X.env = (do let o1 ← eval (.Name x p) X.env; standAt apos.atName; let (g1, fst1) ← holding [o1] (getMethod o1 m pl); callWith pos g1 fst1 (backTo pos (starEach (e :: es) X.env)) (backToKw pos (keywordEach [] X.env))) := by rfl) :
    PE X (.Call (.Attribute (.Name x p) m apos) (e :: es) [] pos) (LEX X E (eMeth t i ta)) := by
  obtain ⟨f, fd, F, hm, hb⟩ := G0
  refine PEw (pe_meth (E := E) hv B.cls hm F hr hb .nil hx ha hst hpl ht) ?_
  rintro σ H Q ⟨Z, F, ρ, R, RZ, S, tt, q, qz⟩
  unfold eMeth at tt
  split at tt
  · rename_i a b d e0
    obtain ⟨h1, ⟨dx, hF, hH⟩, z, f, c⟩ := ob_at B S e0
    refine ⟨.ref a, at_some h1, a, dx, _, rfl, hH, by simp [List.lookup, hrow], Z, F, ρ, _, S, WOk.no, tt, fun ds ρ1 vs F1 H1 t1 sf1 S1 ra l => ?_⟩
    dsimp only
    rw [List.append_nil]
    exact ex_low B S e0 sf1 S1 ra l t1 q qz
  · exact tt.elim
theorem gex_meth0 {pl : Sem Bool} (B : BookK X.K C) (G0 : HasM X.prog X.w X.K X.mg X.base (L2N.CX X.prog X.w) k C m ps (spX X.K X.mg 1 t)) (hr : Room k X.A) (hx : Passes (L2N.CX X.prog X.w) X E) (hrow : (m == ("rows" : Str)) = false)
    (hv : PE X (.Name x p) (tVar i))
    (ht : eval (.Call (.Attribute (.Name x p) m apos) [] [] pos) X.env = (do let o1 ← eval (.Name x p) X.env; standAt apos.atName; let (g1, fst1) ← holding [o1] (getMethod o1 m pl); callWith pos g1 fst1 (backTo pos (starEach [] X.env)) (backToKw pos (keywordEach [] X.env))) := by rfl) :
    PE X (.Call (.Attribute (.Name x p) m apos) [] [] pos) (LEX X E (eMeth t i mNil)) := by
  obtain ⟨f, fd, F, hm, hb⟩ := G0
  refine PEw (pe_meth0 (E := E) hv B.cls hm F hr hb .nil hx ht) ?_
  rintro σ H Q ⟨Z, F, ρ, R, RZ, S, tt, q, qz⟩
  unfold eMeth at tt
  split at tt
  · rename_i a b d e0
    obtain ⟨h1, ⟨dx, hF, hH⟩, z, f, c⟩ := ob_at B S e0
    refine ⟨.ref a, at_some h1, a, dx, _, rfl, hH, by simp [List.lookup, hrow], ?_⟩
    exact ex_low (n := 0) (vs := []) (ds := []) B S e0 (Same.refl _) S .nil rfl tt q qz
  · exact tt.elim
theorem gex_if (hc : PT X c (LB X Wish.no tc)) (ha : PE X a (LEX X E t1)) (hb : PE X b (LEX X E t2)) : PE X (.IfExp c a b pos) (LEX X E (eIf tc t1 t2)) := by
  refine PEw (pe_ifExp hc ha hb) ?_
  rintro σ H Q ⟨Z, F, ρ, R, RZ, S, t, q, qz⟩
  refine ⟨Z, F, ρ, _, S, WOk.no, t, fun b ρ1 F1 H1 t1 sf1 S1 => ?_⟩
  cases b with
  | true =>
    rw [if_pos rfl] at t1 ⊢
    exact ⟨Z, F1, ρ1, R, RZ, S1, t1, fun d ρ' v F' H' h sf => q d ρ' v F' H' h (sf1.trans sf), fun n C ρ' F' H' h hm sf => qz n C ρ' F' H' h hm (sf1.trans sf)⟩
  | false =>
    rw [if_neg Bool.false_ne_true] at t1 ⊢
    exact ⟨Z, F1, ρ1, R, RZ, S1, t1, fun d ρ' v F' H' h sf => q d ρ' v F' H' h (sf1.trans sf), fun n C ρ' F' H' h hm sf => qz n C ρ' F' H' h hm (sf1.trans sf)⟩
theorem gx_ret (h : PE X e (LEX X E t1)) : PS X (.Return (some e) pos) (LX X E (xRet t1)) := by
  refine PSw (ps_ret h) ?_
  rintro D σ H ⟨Z, F, ρ, DR, S, t, k⟩
  exact ⟨Z, F, ρ, _, _, S, t, fun d ρ' v F' H' h sf S' r => k.rt d ρ' v σ F' H' h sf S' r, fun n C ρ' F' H' h hm sf S' => k.rz n C ρ' σ F' H' h hm sf S'⟩
theorem takesN0 : L2N.Takes X (fun _ _ _ _ => False) := fun _ _ x => by
  obtain ⟨_, _, _, _, _, _, _, _, _, _, _, _, _, _, _, _, z⟩ := x
  exact z.elim
/-- try: body; except Y as v: what answers with one word -/
def mTry (RW : Str → Str → Prop) (t : MX) : MS := fun D ρ => t { nx := fun _ => False, rt := D.rt, rz := fun nm ρ' => ∃ word, RW nm word ∧ D.rt (.str word) ρ' } ρ
def tWord (i : Nat) (RC : Value → Option Addr → Str → Prop) (a : Addr) (cls : Value) (d : Option Addr) : TS := fun D σ H => σ[i]? = some (some (.ref a)) ∧ ∃ word, RC cls d word ∧ ∀ H', Same H H' → D.rt (.str word) H'
theorem gs_try {W : Wish} {body suite : List Stmt} {b0 : Stmt} {v : Str} {np pos' : Pos} {c : Value} {tx : MX} {RW : Str → Str → Prop} {RC : Value → Option Addr → Str → Prop} (hs : X.stack = X.env :: X.outer) (hf : X.env.frame = some X.env.locals) (hN : X.N.Nodup) (hi : X.N[i]? = some v) (hln : X.env.kindOf v = some .local)
    (hc : Names X x c) (link : ∀ nm C word, RW nm word → X.mg nm = some (.ref C) → RC (.ref C) none word ∧ PySem.W.exmOne X.K (.ref C) c = some true)
    (hb : ∀ (E : XK) (pn : List (Addr × Obj)) (xe : Value → Shared → Prop), Passes (L2N.CX X.prog X.w) (X.tr pn xe) E → PSs (X.tr pn xe) body (lX X.K X.mg E tx))
    (hsu : ∀ (a : Addr) (oe : Obj) (cls : Value) (d : Option Addr) (pn : List (Addr × Obj)), L2N.Zn cls d oe → (∃ vs, oe.data = .fields vs) → PSs (X.suite a ((a, oe) :: pn)) (b0 :: suite) (tWord i RC a cls d)) :
    PS X (.Try body [.ExceptHandler (some (.Name x np)) (some v) (b0 :: suite) pos'] [] [] pos) (LS X W (mTry RW tx)) := by
  refine PSw (L2N.ps_try_as (tb := fun Wd => lX X.K X.mg (fun cls d H => ∀ σ : L2.St, σ.length = X.N.length → Wd cls d σ H) tx) (Wout := fun _ _ _ _ => False) hs hf hN hi hln hc takesN0 (fun Wd pn xe tk _ => hb _ pn xe fun pins σ H s e s' I cx => ?_) hsu) ?_
  · exact tk e s' (L2N.XE.of_call I (fun cls d H' h => h σ I.len) cx)
  · rintro D σ H ⟨Z, F, ρ, DR, S, w, t, k⟩
    refine ⟨Z, F, ρ, _, S, t, ⟨fun _ _ _ _ a => a.elim, k.rt, fun nm C ρ' σ' F' H' hz hm sf S' => ?_⟩⟩
    obtain ⟨word, hw, hrt⟩ := hz
    obtain ⟨rc, ex⟩ := link nm C word hw hm
    intro σ2 hl2
    have hi2 : i < σ2.length := by rw [hl2]; exact (List.getElem?_eq_some_iff.mp hi).1
    refine ⟨true, ex, fun _ a ha => ⟨by rw [List.getElem?_set_self hi2], word, rc, fun H2 e => ?_⟩, fun z => nomatch z⟩
    exact k.rt (.str word) ρ' (.str word) σ' F' H2 hrt sf (S'.grow e) (.str word)
end
end G


set_option Elab.async false
set_option maxRecDepth 100000
set_option maxHeartbeats 1000000
/-! VH1: where an exception is handled: walks that end. -/
namespace GH
open PySem PySem.Spec PyProof.Rows HotX
section
variable {prog : Program} {w : World} {A : Around} {E : Value → Shared → Prop} {s : Shared}
/-- the end of a walk, told by an exception -/
theorem stop_hot {α : Type} {x1 : Addr} {Q : α → Shared → Prop} (hot : HotAt A x1 s.heap)
    (k : ∀ h' e, (∀ b o, s.heap.get? b = some o → h'.get? b = some o) → (∃ o, h'.get? e = some o ∧ o.cls = .type "StopIteration") → E (.ref e) { s with heap := h' }) :
    wpAny (model prog w) A (newExc (.type "StopIteration") [] >>= fun e => (raiseNew e : Sem α)) Q E s := by
  obtain ⟨hh, o1, vs1, g1, d1, c1⟩ := hot
  refine wpAny_bind ?_
  simp only [newExc, newTuple]
  refine wpAny_bind (wpAny_newObj_type ?_ (by size_fits))
  refine wpAny_bind (m := firstArgMember _ _) (wpAny_of_eq (a := Value.none) (by first | rfl | (simp only [firstArgMember]; rfl)) (wpAny_newObj_type ?_ (by size_fits)))
  have g2 := Heap.get?_push_of_some { cls := .type "tuple", data := .seq (([] : List Value).toArray) } g1
  have hlt := Heap.lt_size g2
  refine raiseNew_hot (x1 := x1) ⟨hh, o1, vs1, Heap.get?_push_of_some _ g2, d1, c1⟩ (Nat.ne_of_lt hlt) (Heap.get?_push_size _ rfl) rfl (by first | (simp; done) | (simp; omega)) (k _ _ (fun b o e => ?_) ⟨_, Heap.get?_update_self _ (Heap.get?_push_size _ rfl) rfl, rfl⟩)
  have e2 := Heap.get?_push_of_some { cls := .type "tuple", data := .seq (([] : List Value).toArray) } e
  rw [Heap.get?_update_other _ _ (Nat.ne_of_gt (Heap.lt_size e2))]
  exact Heap.get?_push_of_some _ e2
end
end GH


set_option Elab.async false
set_option maxRecDepth 100000
set_option maxHeartbeats 1000000
/-! VH2: list and tuple at their end; a tuple taken apart. -/
namespace GH
open PySem PySem.Spec PyProof.Rows HotX
open Builtin Builtin.SmallTypes
section
variable {prog : Program} {w : World} {A : Around} {E : Value → Shared → Prop} {s : Shared} {it t x1 : Addr} {i : Nat} {items : Array Value}
theorem hot_set {h : Heap} {a b : Addr} {f : Obj → Obj} (k : HotAt A x1 h) (n : a ≠ x1) : HotAt A x1 (h.update a f) := by
  obtain ⟨hh, o, vs, g, d, c⟩ := k
  exact ⟨hh, o, vs, (Heap.get?_update_other _ _ n).trans g, d, c⟩
theorem hot_of {h h' : Heap} (k : HotAt A x1 h) (e : ∀ o, h.get? x1 = some o → h'.get? x1 = some o) : HotAt A x1 h' := by
  obtain ⟨hh, o, vs, g, d, c⟩ := k
  exact ⟨hh, o, vs, e o g, d, c⟩
theorem hot_in1 {h : Heap} (k : HotAt A x1 h) : HotAt A.in1 x1 h := k
theorem nextOf_list_hot {Q : Value → Shared → Prop} (hot : HotAt A x1 s.heap) (hit : s.heap.IsListIter it t i) (hl : s.heap.IsList t items) (hx : items[i]? = none) (ne : it ≠ x1)
    (k : ∀ h' e, Heap.ExtBut it s.heap h' → (∃ o, h'.get? e = some o ∧ o.cls = .type "StopIteration") → E (.ref e) { s with heap := h' }) : wpAny (model prog w) A (nextOf (.ref it)) Q E s := by
  have ty := hit.typeIs
  obtain ⟨o, ho, hc, hd⟩ := hit
  obtain ⟨ol, hol, _, nl, hdl⟩ := hl
  unfold nextOf
  refine wpAny_bind (wpAny_callSpecial?_slot (name := Str.ofString "__next__") ty slot_listiter_next (wpAny_call_entry slot_listiter_next ty entry_listiter_next ?_ (args_listiter_next _)))
  change wpAny _ _ (field (.ref it) 0 >>= _) _ _ _
  refine wpAny_bind (wpAny_field ho hd (x := .ref t) rfl ?_)
  change wpAny _ _ (if (Value.ref t == Value.none) = true then _ else _) _ _ _
  rw [if_neg (show ¬ (Value.ref t == Value.none) = true from Bool.false_ne_true)]
  change wpAny _ _ (field (.ref it) 1 >>= _) _ _ _
  refine wpAny_bind (wpAny_field ho hd (x := .int i 0) rfl ?_)
  change wpAny _ _ (seqItems? (.ref t) >>= _) _ _ _
  refine wpAny_bind (wpAny_seqItems hol hdl ?_)
  simp only [Int.toNat_natCast, hx]
  refine wpAny_bind (wpAny_rule (wpAny_bind (wpAny_setField ho hd (by simp) ?_)))
  refine stop_hot (A := A.in1) (hot_set (b := it) (hot_in1 hot) ne) fun h' e ke he => ?_
  exact k h' e (fun b o hb g => ke b o ((Heap.get?_update_other _ _ (Ne.symm hb)).trans g)) he
theorem pyNext_tuple_hot {Q : Option Value → Shared → Prop} (hot : HotAt A x1 s.heap) (hit : s.heap.IsTupleIter it t i) (ht : s.heap.IsTuple t items) (hx : items[i]? = none) (ne : it ≠ x1)
    (k : ∀ h', Heap.ExtBut it s.heap h' → Q none { s with heap := h' }) : wpAny (model prog w) A (pyNext (.ref it)) Q E s := by
  have ty := hit.typeIs
  obtain ⟨o, ho, hc, hd⟩ := hit
  obtain ⟨ol, hol, _, nl, hdl⟩ := ht
  unfold pyNext
  refine wpAny_bind (wpAny_attempt (wpAny_callSpecial?_slot (name := Str.ofString "__next__") ty F.slot_tuple_iterator_next (wpAny_call_entry F.slot_tuple_iterator_next ty F.entry_tuple_iterator_next ?_ (F.args_tuple_iterator_next_1 _))))
  change wpAny _ _ (field (.ref it) 0 >>= _) _ _ _
  refine wpAny_bind (wpAny_field ho hd (x := .ref t) rfl ?_)
  change wpAny _ _ (if (Value.ref t == Value.none) = true then _ else _) _ _ _
  rw [if_neg (show ¬ (Value.ref t == Value.none) = true from Bool.false_ne_true)]
  change wpAny _ _ (field (.ref it) 1 >>= _) _ _ _
  refine wpAny_bind (wpAny_field ho hd (x := .int i 0) rfl ?_)
  change wpAny _ _ (seqItems? (.ref t) >>= _) _ _ _
  refine wpAny_bind (wpAny_seqItems hol hdl ?_)
  simp only [Int.toNat_natCast, hx]
  refine wpAny_bind (wpAny_rule (wpAny_bind (wpAny_setField ho hd (by simp) ?_)))
  refine stop_hot (A := A.in1) (hot_set (b := it) (hot_in1 hot) ne) fun h' e ke ⟨oe, he, hce⟩ => ?_
  refine wpAny_bind (wpAny_isInstance (T := "StopIteration") (b := true) ⟨oe, he, hce⟩ isSubtype_stop ?_)
  exact wpAny_pure (k _ fun b o hb g => ke b o ((Heap.get?_update_other _ _ (Ne.symm hb)).trans g))
end
end GH


set_option Elab.async false
set_option maxRecDepth 100000
set_option maxHeartbeats 1000000
/-! VH3: a list that is walked, a tuple taken apart, where an exception is handled. -/
namespace GH
open PySem PySem.Spec PyProof.Rows HotX
open Builtin Builtin.SmallTypes
theorem draws_hot {prog : Program} {w : World} {A : Around} {it l x1 : Addr} (hne : l ≠ it) (ne : it ≠ x1) (items : Array Value) :
    Draws prog w A it [it, l, x1] items.size (fun i v => items[i]? = some v) (fun i h => h.IsListIter it l i ∧ h.IsList l items ∧ HotAt A x1 h) where
  live := fun _ _ st => by
    obtain ⟨o, ho, _⟩ := st.1
    exact ⟨o, ho⟩
  frame := fun _ _ _ st hk => ⟨st.1.at fun o e => hk it (by simp) o e, st.2.1.at fun o e => hk l (by simp) o e, hot_of st.2.2 fun o e => hk x1 (by simp) o e⟩
  item := fun i s Q E hi st k => by
    refine wpAny_nextOf_list_item st.1 st.2.1 (x := items[i]) (by simp [hi]) fun h' hit' hs' => ?_
    exact k _ h' s.toks (by simp [hi]) ⟨hit', st.2.1.extBut hs'.extBut hne, hot_of st.2.2 fun o e => hs'.extBut _ o (Ne.symm ne) e⟩ hs'
  done := fun s Q E st k => nextOf_list_hot st.2.2 st.1 st.2.1 (by simp) ne k
section
variable {prog : Program} {w : World} {A : Around} {E : Value → Shared → Prop} {s : Shared} {t x1 : Addr} {items : Array Value}
theorem unpackItems_hot {Q : List Value → Shared → Prop} (hot : HotAt A x1 s.heap) (ht : s.heap.IsTuple t items)
    (k : ∀ h', Heap.ExtBut s.heap.objs.size s.heap h' → Q items.toList { s with heap := h' }) : wpAny (model prog w) A (unpackItems (.ref t) items.size none) Q E s := by
  have tlt : t ≠ s.heap.objs.size := by
    obtain ⟨o, e, _⟩ := ht
    exact Nat.ne_of_lt (Heap.lt_size e)
  have xlt : s.heap.objs.size ≠ x1 := by
    obtain ⟨_, o, vs, e, _⟩ := hot
    exact Nat.ne_of_gt (Heap.lt_size e)
  unfold unpackItems notIterableAtAll
  refine wpAny_bind (wpAny_bind (wpAny_specialOf ht.typeIs F.slot_tuple_iter.lookup (wpAny_pure ?_)))
  simp only [Bool.false_eq_true, if_false]
  refine wpAny_bind (wpAny_holding (wpAny_pyIter_tuple ht (wpAny_bind (wpAny_holding (wpAny_draw_tuple tlt items.size 0 _ _ ⟨_, Heap.get?_push_size _ rfl, rfl, rfl⟩ (ht.push _) (by omega) fun h1 it1 k1 => ?_)))))
  have whole : (items.toList.drop 0).take items.size = items.toList := by
    rw [List.drop_zero]
    exact List.take_of_length_le (by simp)
  rw [whole, if_neg (by simp)]
  have ht1 : h1.IsTuple t items := (ht.push _).extBut k1.extBut tlt
  have hot1 : HotAt A x1 h1 := hot_of hot fun o e => k1.extBut _ o (Ne.symm xlt) (Heap.get?_push_of_some _ e)
  refine wpAny_bind (wpAny_holding (pyNext_tuple_hot hot1 it1 ht1 (by simp) xlt fun h2 k2 => ?_))
  simp only [Option.isSome_none, Bool.false_eq_true, if_false]
  exact wpAny_pure (k h2 fun b o hb e => k2 b o hb (k1.extBut b o hb (Heap.get?_push_of_some _ e)))
/-- a, b, .. = a tuple -/
theorem assign_tuple_hot {env : Env} {elts : List Expr} {j : Nat} {pos : Pos} {Q : Unit → Shared → Prop} (hot : HotAt A x1 s.heap) (ht : s.heap.IsTuple t items)
    (hn : (assignEach elts env).length = items.size) (hstar : (assignEach elts env).findIdx? (·.1) = none)
    (k : ∀ h', Heap.ExtBut s.heap.objs.size s.heap h' → wpAny (model prog w) A (assignInOrder ((assignEach elts env).map (·.2)) items.toList) Q E { s with heap := h' }) :
    wpAny (model prog w) A (assign (.Tuple elts j pos) env (.ref t)) Q E s := by
  rw [assign_Tuple]
  refine wpAny_bind (wpAny_standAt ?_)
  unfold unpack
  rw [hn, hstar]
  exact wpAny_bind (wpAny_holding (unpackItems_hot hot ht k))
end
end GH


set_option Elab.async false
set_option maxRecDepth 100000
set_option maxHeartbeats 1000000
/-! VH4: [a for a, b in zip(xs, ys) if b] where an exception is handled. -/
namespace GH
open PySem PySem.Spec PyProof.Rows HotX L2
open Builtin Builtin.SmallTypes
def pick : List Str → List Bool → List Str
  | w :: ws, g :: gs => if g = true then w :: pick ws gs else pick ws gs
  | _, _ => []
theorem pick_snoc {w : Str} {g : Bool} : ∀ {ws : List Str} {gs : List Bool}, ws.length = gs.length → pick (ws ++ [w]) (gs ++ [g]) = pick ws gs ++ if g = true then [w] else []
  | [], [], _ => by cases g <;> rfl
  | a :: ws, b :: gs, h => by
    have i := pick_snoc (w := w) (g := g) (ws := ws) (gs := gs) (Nat.succ.inj h)
    show (if b = true then a :: pick (ws ++ [w]) (gs ++ [g]) else pick (ws ++ [w]) (gs ++ [g])) = (if b = true then a :: pick ws gs else pick ws gs) ++ _
    rw [i]
    split
    · rfl
    · rfl
theorem vals_at {α : Type} {f : α → V} : ∀ {ws : List α} {its : List Value} {i : Nat} {x : Value}, Vals (ws.map f) its → its[i]? = some x → ∃ a, ws[i]? = some a ∧ RelV (f a) x
  | [], _, _, _, .nil, e => by simp at e
  | a :: ws, _, 0, x, .cons r _, e => by simp at e; subst e; exact ⟨a, rfl, r⟩
  | a :: ws, _, i + 1, x, .cons _ r, e => by
    obtain ⟨b, h1, h2⟩ := vals_at (i := i) r (by simpa using e)
    exact ⟨b, by simpa using h1, h2⟩
def tPick (ta : TA) : TE := fun σ H Q => ta σ H fun vs H1 => ∃ (a b : Addr) (ws : List Str) (gs : List Bool), vs = [.ref a, .ref b] ∧ H1 a = some (.lst (ws.map V.str)) ∧ H1 b = some (.lst (gs.map V.bl)) ∧ ws.length = gs.length ∧ ws.length ≤ 1000 ∧
  ∀ p, H1 p = none → Q (.ref p) (upd H1 p (.lst ((pick ws gs).map V.str)))
abbrev scopeP (x y : Str) : Scope := { kind := .function, names := [(".0", .local), (x, .local), (y, .local)], isGenerator := false, isCoroutine := false, more := [] }
section
variable {X : Cx}
theorem pick_len : ∀ (ws : List Str) (gs : List Bool), (pick ws gs).length ≤ ws.length
  | [], _ => Nat.le_refl _
  | _ :: _, [] => Nat.zero_le _
  | w :: ws, g :: gs => by
    have := pick_len ws gs
    show (if g = true then w :: pick ws gs else pick ws gs).length ≤ _
    split
    · rw [List.length_cons, List.length_cons]; omega
    · rw [List.length_cons]; omega
theorem pe_pickH {x y : Str} {e1 e2 : Expr} {ta : TA} {p1 p2 p3 p4 p5 p6 p7 pos : Pos} {k : Nat} (hxy : y ≠ x) (hx0 : (x == ("__debug__" : Str)) = false) (hy0 : (y == ("__debug__" : Str)) = false)
    (hlx : (scopeP x y).names.lookup x = some .local) (hly : (scopeP x y).names.lookup y = some .local)
    (hc : L2H.HotC X) (hg : Gl X "zip") (hm : X.mg "zip" = none) (ha : PA X [e1, e2] ta)
    (hs : starEach [e1, e2] X.env = (false, eval e1 X.env) :: starEach [e2] X.env) (hpl : (backTo p6 (starEach [e2] X.env)).any (·.1) = false) :
    PE X (.ListComp (.Name x p1) [⟨.Tuple [.Name x p2, .Name y p3] k p4, .Call (.Name "zip" p5) [e1, e2] [] p6, [.Name y p7], 0⟩] (scopeP x y) pos) (tPick ta) := by
  refine ⟨fun pins s σ H Q I h => ?_⟩
  have hnames : ∀ n ∈ (scopeP x y).names, n.2 = .local → (scopeP x y).names.lookup n.1 = some .local := fun n hn _ => by
    simp only [List.mem_cons, List.not_mem_nil, or_false] at hn
    rcases hn with rfl | rfl | rfl
    · rfl
    · exact hlx
    · exact hly
  refine ListComp_goes (cl := []) (by first | rfl | simp [closureFor]) (fun n hn => ?_) rfl hnames ?_ (fun _ => rfl)
  · simp only [List.mem_cons, List.not_mem_nil, or_false] at hn
    rcases hn with rfl | rfl | rfl <;> exact fun z => nomatch z
  refine Call_ (ld_blt I hg hm PyProof.Rows.boot_zip (PyProof.Rows.callWith_type1 (thn (ha.run p6 pins s σ H _ I h) fun us s1 ⟨vs, H1, I1, r1, q1⟩ => ?_) hs hpl))
  obtain ⟨a, b, ws, gs, ex, h1, h2, hlen, hle, q⟩ := q1
  subst ex
  obtain ⟨u1, us1, rfl, ra, rr⟩ : ∃ u1 us1, us = u1 :: us1 ∧ RelV (.ref a) u1 ∧ Vals [.ref b] us1 := by
    cases r1 with
    | cons r rr => exact ⟨_, _, rfl, r, rr⟩
  obtain ⟨u2, rfl, rb⟩ : ∃ u2, us1 = [u2] ∧ RelV (.ref b) u2 := by
    cases rr with
    | cons r rr => cases rr; exact ⟨_, rfl, r⟩
  cases ra
  cases rb
  obtain ⟨its, rv, l1, _⟩ := I1.list (SqL.of (K := X.K) h1)
  obtain ⟨its2, rv2, l2, _⟩ := I1.list (SqL.of (K := X.K) h2)
  have la : a < s1.heap.objs.size := l1.lt
  have lb : b < s1.heap.objs.size := l2.lt
  obtain ⟨x1, hot⟩ := hc.at I1
  have lx : x1 < s1.heap.objs.size := by
    obtain ⟨_, o, vs, e, _⟩ := hot
    exact Heap.lt_size e
  have n1 : its.toArray.size = ws.length := by rw [List.size_toArray, ← rv.length, List.length_map]
  have n2 : its2.toArray.size = gs.length := by rw [List.size_toArray, ← rv2.length, List.length_map]
  refine call_zip_2 l1.isList l2.isList fun h' hz hTI hTO hi1 hi2 hsz hk => wpAny_pyIter_zip hz ?_
  obtain ⟨N, hN⟩ : ∃ N, N = s1.heap.objs.size := ⟨_, rfl⟩
  rw [← hN] at hz hTI hTO hi1 hi2 hsz la lb lx ⊢
  have D1 : Draws X.prog X.w X.A.in1 N [N, a, x1] its.toArray.size _ _ := draws_hot (by simp only [Addr] at *; omega) (by simp only [Addr] at *; omega) its.toArray
  have D2 : Draws X.prog X.w X.A.in1 (N + 1) [N + 1, b, x1] its2.toArray.size _ _ := draws_hot (by simp only [Addr] at *; omega) (by simp only [Addr] at *; omega) its2.toArray
  have S : ZipSep2 (N + 4) (N + 2) (N + 3) N (N + 1) [N, a, x1] [N + 1, b, x1] := by
    constructor <;> simp <;> (simp only [Addr] at *; omega)
  have W := Goes.zip2 (elts := [.Name x p2, .Name y p3]) (x1 := k) (pos := p4) S D1 D2
  have hot' : HotAt X.A x1 h' := hot_of hot fun o e => hk _ o e
  have l1' : h'.IsList a its.toArray := l1.isList.at fun o e => hk _ o e
  have l2' : h'.IsList b its2.toArray := l2.isList.at fun o e => hk _ o e
  have hmin : min its.toArray.size its2.toArray.size = ws.length := by rw [n1, n2, ← hlen]; exact Nat.min_self _
  refine ⟨N + 4, _, _, _, _, _, rfl, W, by rw [hmin]; exact Nat.le_trans hle (by decide), ⟨hz, hTI, ⟨_, _, hTO⟩, ⟨hi1, l1', hot'⟩, ⟨hi2, l2', hot'⟩⟩, fun c hc' => ?_, fun D C s₃ B => ?_⟩
  · have e' : c = N + 4 ∨ c = N + 2 ∨ c = N + 3 ∨ c = N ∨ c = a ∨ c = x1 ∨ c = N + 1 ∨ c = b ∨ c = x1 := by simpa [or_assoc] using hc'
    show c < h'.objs.size
    rw [hsz]
    (simp only [Addr] at *; omega)
  obtain ⟨⟨hb, tb, rfl⟩, old, newD, newC, neDC, nsC⟩ := B
  change h'.objs.size ≤ D at newD
  change h'.objs.size ≤ C at newC
  have kx : (compEnvC (scopeP x y) [] C X.env).kindOf x = some .local := lookup_relabel_local hlx
  have ky : (compEnvC (scopeP x y) [] C X.env).kindOf y = some .local := lookup_relabel_local hly
  refine ⟨fun i ys s => ∃ h tk m, s = { s1 with heap := h, toks := tk } ∧ (∀ b o, b ≠ N + 4 → b ≠ N + 3 → b ≠ N → b ≠ N + 1 → h'.get? b = some o → h.get? b = some o) ∧ h.Ns C m ∧ Vals ((pick (ws.take i) (gs.take i)).map V.str) ys,
    ⟨hb, tb, _, rfl, fun b o _ _ _ _ e => old b o e, nsC, .nil⟩, ?_, ?_, ?_⟩
  · rintro i ys s' hh tk ⟨h, t0, m, rfl, kp, ns, vv⟩ up _
    refine ⟨hh, tk, m, rfl, fun b o b1 b2 b3 b4 e => up b o ?_ (kp b o b1 b2 b3 b4 e), ns.at fun o e => up C o ?_ e, vv⟩
    · have := Heap.lt_size e
      simp only [List.mem_cons, List.not_mem_nil, or_false, not_or]
      exact ⟨by simp only [Addr] at *; omega, b1, b2, b3, b4⟩
    · simp only [List.mem_cons, List.not_mem_nil, or_false, not_or]
      exact ⟨Ne.symm neDC, by simp only [Addr] at *; omega, by simp only [Addr] at *; omega, by simp only [Addr] at *; omega, by simp only [Addr] at *; omega⟩
  · rintro i v ys s' hi ⟨T, xv, yv, rfl, hx, hy, hT⟩ st ⟨h, t0, m, rfl, kp, ns, vv⟩ pl
    rw [hmin] at hi
    obtain ⟨wi, ew, rw_⟩ := vals_at rv (show its[i]? = some xv by simpa using hx)
    obtain ⟨gi, eg, rg⟩ := vals_at rv2 (show its2[i]? = some yv by simpa using hy)
    obtain ⟨tw, rfl⟩ := rw_
    cases rg
    have hotS : HotAt X.A x1 h := hot_of hot' fun o e => kp x1 o (by simp only [Addr] at *; omega) (by simp only [Addr] at *; omega) (by simp only [Addr] at *; omega) (by simp only [Addr] at *; omega) e
    refine assign_tuple_hot hotS hT rfl rfl fun ha ka => ?_
    have nsa : ha.Ns C m := ns.at fun o e => ka C o (Nat.ne_of_lt (Heap.lt_size e)) e
    refine wpAny_bind (wpAny_holding (wpAny_assign_Name (wpAny_storeName_local kx nsa (fun h2 n2 k2 => ?_) rfl)))
    refine wpAny_bind (wpAny_holding (wpAny_assign_Name (wpAny_storeName_local ky n2 (fun h3 n3 k3 => ?_) rfl)))
    refine wpAny_pure ?_
    have keepC : ∀ b o, b ≠ C → h.get? b = some o → h3.get? b = some o := fun b o bc e => k3.extBut b o bc (k2.extBut b o bc (ka b o (Nat.ne_of_lt (Heap.lt_size e)) e))
    have stay : ∀ b o, b ≠ N + 4 → b ≠ N + 3 → b ≠ N → b ≠ N + 1 → h'.get? b = some o → h3.get? b = some o := fun b o b1 b2 b3 b4 e => keepC b o (by have := Heap.lt_size e; (simp only [Addr] at *; omega)) (kp b o b1 b2 b3 b4 e)
    have st3 := W.frame _ h h3 st fun c hc' o e => keepC c o (by
      have e' : c = N + 4 ∨ c = N + 2 ∨ c = N + 3 ∨ c = N ∨ c = a ∨ c = x1 ∨ c = N + 1 ∨ c = b ∨ c = x1 := by simpa [or_assoc] using hc'
      simp only [Addr] at *
      omega) e
    have pl3 : h3.PlainList D ys.toArray := pl.at fun o e => keepC D o neDC e
    have tk1 : ws.take (i + 1) = ws.take i ++ [wi] := by rw [List.take_add_one, ew]; rfl
    have tk2 : gs.take (i + 1) = gs.take i ++ [gi] := by rw [List.take_add_one, eg]; rfl
    have lt : (ws.take i).length = (gs.take i).length := by rw [List.length_take, List.length_take, hlen]
    refine wpAny_tests_one (wpAny_isTrue_value (wpAny_Name (wpAny_loadName_local rfl ky n3 (v := .bool gi) (if_pos rfl) (wpAny_truthy_bool ?_)) hy0))
    cases gi with
    | false =>
      rw [if_neg Bool.false_ne_true]
      refine ⟨⟨h3, _, _, rfl, stay, n3, ?_⟩, st3, pl3⟩
      rw [tk1, tk2, pick_snoc lt, if_neg Bool.false_ne_true, List.append_nil]
      exact vv
    | true =>
      rw [if_pos rfl]
      refine wpAny_Name (wpAny_loadName_local rfl kx n3 (v := .str wi tw) ((if_neg (Ne.symm hxy)).trans (if_pos rfl)) ?_) hx0
      refine ⟨⟨h3, _, _, rfl, stay, n3, ?_⟩, st3, pl3⟩
      rw [tk1, tk2, pick_snoc lt, if_pos rfl, List.map_append]
      exact vv.append (.cons ⟨tw, rfl⟩ .nil)
  · rintro ys s' ⟨h, t0, m, rfl, kp, ns, vv⟩ pl
    refine ⟨m, ns, fun h'' sb => ?_⟩
    have kk : ∀ b o, s1.heap.get? b = some o → h''.get? b = some o := fun b o e => by
      have := Heap.lt_size e
      exact sb.extBut b o (show b ≠ C by simp only [Addr] at *; omega) (kp b o (by simp only [Addr] at *; omega) (by simp only [Addr] at *; omega) (by simp only [Addr] at *; omega) (by simp only [Addr] at *; omega) (hk b o e))
    obtain ⟨nn, hD⟩ := pl
    rw [hmin, List.take_of_length_le (Nat.le_refl _), List.take_of_length_le (by omega)] at vv
    have ob : ObjOk X.prog X.w (upd H1 D (.lst ((pick ws gs).map V.str))) h'' D (.lst ((pick ws gs).map V.str)) :=
      ⟨by rw [List.length_map]; exact Nat.le_trans (pick_len ws gs) (Nat.le_trans hle (by decide)), ys, nn, vv, sb.extBut _ _ neDC hD⟩
    exact ⟨.ref D, _, I1.laid (t' := t0) kk (by simp only [Addr] at *; omega) ob, rfl, q D (I1.hok.fresh (by simp only [Addr] at *; omega))⟩
end
end GH


set_option Elab.async false
set_option maxRecDepth 100000
set_option maxHeartbeats 1000000
/-! VH5: defs that are told of the exception that is handled. -/
namespace GH
open PySem PySem.Spec PyProof.Rows HotX L2 L2H
/-- what a def promises where p is handled; its promise may speak of p -/
structure FnE (P : Program) (w : World) (K : PySem.W.Frag) (mg : Str → Option Value) (base : Heap) (CX : CXT) (k : Nat) (f : Addr) (fd : FuncData) (ps : List Str) (sp : Addr × Obj → Sp) : Prop where
  many : ∀ p vs H Q E, sp p vs H Q E → vs.length = ps.length
  goes : ∀ (p : Addr × Obj) (A : Around) (outer : List Env) (s : Shared) (H : Hp) (args : Args) (us : List Value) (vs : List V) (Q : VK) (E : XK), RoomH k A → Hot1 A p → PinOk outer H s p → Env0 P w K mg base A outer s H →
    BindsTo s fd args (ps.zip us) → Vals vs us → sp p vs H Q E → codeAny (model P w) A (.call (.ref f) args) (CR CX outer P w H s Q E) s
theorem fnE_of {CX : CXT} {P : Program} {w : World} {K : PySem.W.Frag} {mg : Str → Option Value} {base : Heap} {k : Nat} {f : Addr} {name qual : Str} {params : Arguments} {body : List Stmt} {scope : Scope} {dV kV doc pm cdv ct oc : Value} {an od : Option Addr}
    {osl : Array (Option Value)} {N ps : List Str} {sp : Addr × Obj → Sp} (at_ : K.lookup f = some ⟨oc, od, .func (PySem.W.fnOf name qual params body scope dV kV doc pm an cdv ct), osl⟩) (hcd : PySem.W.codeIn K cdv qual = true) (S : FnScope N ps scope)
    (many : ∀ p vs H Q E, sp p vs H Q E → vs.length = ps.length)
    (walk : ∀ (p : Addr × Obj) (A : Around) (outer : List Env) (s : Shared) (H : Hp) (vs : List V) (Q : VK) (E : XK), Hot1 A p → RoomH k (A.deeper (envOfC qual scope s.heap.objs.size f cdv)) → sp p vs H Q E →
      ∃ t, PSs (cxH CX P w K mg base N qual scope f cdv A outer s H E p) body t ∧ t { nx := fun _ H' => Q .non H', rt := Q } (L2.start N vs) H) :
    FnE P w K mg base CX (k + 1) f (PySem.W.fnOf name qual params body scope dV kV doc pm an cdv ct) ps sp := by
  constructor
  · exact many
  intro p A outer s H args us vs Q E hr hot hpin e0 hb r hsp
  have stays : ∀ b o, base.get? b = some o → s.heap.get? b = some o := fun b o e => (e0.bs b o e).1
  have kinds : ∀ y ∈ ps.zip us, scope.names.lookup y.1 = some .local ∨ (scope.names.lookup y.1 = some .cell ∧ ((cellsFrom (s.heap.objs.size + 1) scope.names []).lookup y.1).isSome = true) := by
    rintro ⟨n, v⟩ hy
    rcases S.par n (List.of_mem_zip hy).1 with q | q
    · exact .inl q
    · exact .inr ⟨q, PySem.W.cellsFrom_some _ _ _ (.inl q)⟩
  have KX : K.In s.heap := e0.mod.kin.keeps stays
  refine codeAny_call_function hr.depth (KX _ _ at_) rfl S.co S.gen rfl (PySem.W.codeRec_of KX hcd) (hb _ _ _ _ (wpAny_newFunctionEnv_cells S.kind kinds fun env he s1 x => ?_))
  subst he
  refine ⟨(e0.mod.nolimit.keeps stays).keeps x.toInCall.keep, codeAny_func ?_⟩
  obtain ⟨t, ht, hq⟩ := walk p A outer s H vs Q E hot (hr.deeper _) hsp
  have I := inv_startH (CX := CX) (E := E) (cd := cdv) (f := f) S hpin e0 (many _ _ _ _ _ hsp) r x
  refine wpAny_mono (ht.run [] s1 (L2.start N vs) H _ I hq) (fun fl s' hs => ?_) (fun _ _ z => z)
  cases fl with
  | ret u =>
    obtain ⟨v, σ', H', J, rv, q⟩ := hs
    exact ⟨v, H', J.os, J.bare, J.base, J.hok, rv, q⟩
  | next =>
    obtain ⟨σ', H', J, q⟩ := hs
    exact ⟨V.non, H', J.os, J.bare, J.base, J.hok, rfl, q⟩
  | brk =>
    obtain ⟨_, _, _, q⟩ := hs
    exact q.elim
  | cont =>
    obtain ⟨_, _, _, q⟩ := hs
    exact q.elim
section
variable {X : Cx} {CX : CXT} {k : Nat} {f : Addr} {fd : FuncData} {ps : List Str} {sp : Addr × Obj → Sp} {E : L2.St → XK} {x : Str} {q pos : Pos} {e : Expr} {es : List Expr} {t : TA}
/-- f(e, ..) where p is handled -/
theorem pe_callE (F : FnE X.prog X.w X.K X.mg X.base CX k f fd ps sp) (hr : RoomH k X.A) {p : Addr × Obj} (hot : Hot1 X.A p) (hp : p ∈ X.pn) (hg : Gl X x) (hm : X.mg x = some (.ref f)) (hk : PySem.W.keepIn X.K (.ref f) = true) (hb : Binds X.K fd ps []) (hx : ∀ σ, PassesAt CX X σ (E σ))
    (ha : PA X (e :: es) t) (hdb : (x == ("__debug__" : Str)) = false := by decide) (he : starEach (e :: es) X.env = (false, eval e X.env) :: starEach es X.env := by rfl) (hpl : (backTo pos (starEach es X.env)).any (·.1) = false := by rfl) :
    PE X (.Call (.Name x q) (e :: es) [] pos) (tCallS (sp p) E t) := by
  constructor
  intro pins s σ H Q I h
  refine wpAny_Call_Name_kw (ld_glob I hg hm ?_ hdb)
  refine PySem.W.callWith_K (h₀ := X.base) I.ok.mod.kin hk (thn (ha.run pos pins s σ H _ I h) fun us s1 ⟨vs, H1, I1, r, h1⟩ => ⟨I1.kIn, ?_⟩) he hpl
  have pin := I1.pin p (List.mem_append_left _ hp)
  have hpin : PinOk X.stack H1 s1 p := ⟨pin.1, pin.2.1, fun hm => (List.mem_cons.mp (I1.stkSub p.1 hm)).elim pin.2.2.1 pin.2.2.2.1, pin.2.2.2.2⟩
  have b := hb s1 us I1.kIn (by rw [List.append_nil, ← r.length]; exact F.many _ _ _ _ _ h1)
  rw [List.append_nil] at b
  refine wpAny_call (codeAny_mono (F.goes p X.A X.stack s1 H1 ⟨us, []⟩ us vs Q (E σ) hr hot hpin I1.env0 b r h1) fun r s' hq => ?_)
  cases r with
  | error e => exact hx σ pins H1 s1 e s' I1 hq
  | ok fl =>
    cases fl with
    | ret u => exact I1.after hq
    | _ => exact hq.elim
end
/-- isinstance(e, c), e the exception that is handled -/
theorem call_isH {X : Cx} {a D : Addr} {oe : Obj} (hp : (a, oe) ∈ X.pn) (C : ExcC X.K D) (hz : Zc (.ref D) none oe) (hf : ∃ vs, oe.data = .fields vs) : CallR X (.builtin "isinstance") (rIsE X.K D a) := by
  intro pins s σ H xs us Q I r h
  obtain ⟨c, cv, b, rfl, hcv, e, q⟩ := h
  obtain ⟨u1, us1, rfl, ra, rr⟩ : ∃ u1 us1, us = u1 :: us1 ∧ RelV (.ref a) u1 ∧ Vals [c] us1 := by
    cases r with
    | cons r rr => exact ⟨_, _, rfl, r, rr⟩
  obtain ⟨u2, rfl, rb⟩ : ∃ u2, us1 = [u2] ∧ RelV c u2 := by
    cases rr with
    | cons r2 r3 => cases r3; exact ⟨_, rfl, r2⟩
  cases ra
  obtain rfl := hcv _ rb
  have g := (I.pin (a, oe) (List.mem_append_left _ hp)).1
  have J : PySem.W.InstAt s.heap a oe D none := by
    obtain ⟨oc, od, oda, osl⟩ := oe
    obtain ⟨vs, hv⟩ := hf
    obtain ⟨h1, h2⟩ := hz
    dsimp only at h1 h2 hv
    subst h1 h2 hv
    exact ⟨g, rfl, rfl, trivial⟩
  exact PySem.W.kia_one (PySem.W.handS_kitx_exc C.hg C.hk C.hs C.hd C.ha C.hn C.ht C.hm) I.kIn J e (fun z => nomatch z) fun tk => ⟨.bl b, H, I.kept (t' := tk) fun _ _ z => z, rfl, q⟩
end GH


set_option Elab.async false
set_option maxRecDepth 100000
set_option maxHeartbeats 1000000
/-! VH6: which of the fourteen names a refusal is of, and its one word. -/
namespace GH
open PySem PySem.Spec PyProof.Rows HotX L2 L2H
/-- isinstance of an exception of the class D answers b where x is asked -/
def Kn (K : PySem.W.Frag) (mg : Str → Option Value) (D : Addr) (x : Str) (b : Bool) : Prop :=
  ∃ (c : V) (cv : Value), ((mg x = some cv) ∨ (mg x = none ∧ bootBuiltins x = some cv)) ∧ RelV c cv ∧ (∀ u, RelV c u → u = cv) ∧ PySem.W.kitOne K (.ref D) cv = some b
theorem kn_own {K : PySem.W.Frag} {mg : Str → Option Value} {D C : Addr} {x : Str} {b : Bool} (h : mg x = some (.ref C)) (q : PySem.W.kitOne K (.ref D) (.ref C) = some b) : Kn K mg D x b :=
  ⟨.ref C, .ref C, .inl h, rfl, fun u r => r, q⟩
theorem kn_blt {K : PySem.W.Frag} {mg : Str → Option Value} {D : Addr} {x : Str} {T : String} {b : Bool} (h : mg x = none) (hv : bootBuiltins x = some (.type T)) (q : PySem.W.kitOne K (.ref D) (.type T) = some b) : Kn K mg D x b :=
  ⟨.ty T, .type T, .inr ⟨h, hv⟩, rfl, fun u r => r, q⟩
/-- where e stands in slot 0 -/
def tOf (a : Addr) (b : Bool) : TE := fun σ H Q => σ[0]? = some (some (.ref a)) ∧ Q (.bl b) H
section
variable {X : Cx} {a D : Addr} {oe : Obj}
theorem pe_isH {x : Str} {b : Bool} {p1 p2 p3 pos : Pos} (hp : (a, oe) ∈ X.pn) (C : ExcC X.K D) (hz : Zc (.ref D) none oe) (hf : ∃ vs, oe.data = .fields vs) (kn : Kn X.K X.mg D x b) (he : PE X (.Name "e" p2) (tVar 0))
    (hg : Gl X "isinstance") (hm : X.mg "isinstance" = none) (hgx : Gl X x) (hn : x ≠ "__name__" := by decide) (hdb : (x == ("__debug__" : Str)) = false := by decide)
    (hs : starEach [.Name "e" p2, .Name x p3] X.env = (false, eval (.Name "e" p2) X.env) :: starEach [.Name x p3] X.env := by rfl) (hs2 : starEach [.Name x p3] X.env = (false, eval (.Name x p3) X.env) :: starEach [] X.env := by rfl) (hpl : (backTo pos (starEach [.Name x p3] X.env)).any (·.1) = false := by rfl) :
    PE X (.Call (.Name "isinstance" p1) [.Name "e" p2, .Name x p3] [] pos) (tOf a b) := by
  obtain ⟨c, cv, hv, rv, uq, q⟩ := kn
  have hc : PE X (.Name x p3) (tC c) := by
    rcases hv with h | ⟨h, h2⟩
    · exact pe_glob hgx h rv hdb
    · exact pe_bltn hgx h h2 rv hn hdb
  refine ⟨fun pins s σ H Q I h => ?_⟩
  exact (pe_callB (call_isH hp C hz hf) hg hm (by decide +kernel) (pa_cons he (pa_cons hc pa_nil hs2) hs) (by decide) (by decide) hs hpl).run pins s σ H Q I ⟨_, h.1, c, cv, b, rfl, uq, q, h.2⟩
def tOfs (a : Addr) (bs : List Bool) : TA := fun σ H Q => σ[0]? = some (some (.ref a)) ∧ Q (bs.map V.bl) H
theorem pa_of0 : PA X [] (tOfs a []) := ⟨fun pos pins s σ H Q I h => (pa_nil (X := X)).run pos pins s σ H Q I h.2⟩
theorem pa_of {e : Expr} {es : List Expr} {b : Bool} {bs : List Bool} (h : PE X e (tOf a b)) (r : PA X es (tOfs a bs)) (hs : starEach (e :: es) X.env = (false, eval e X.env) :: starEach es X.env := by rfl) : PA X (e :: es) (tOfs a (b :: bs)) :=
  ⟨fun pos pins s σ H Q I q => (pa_cons h r hs).run pos pins s σ H Q I ⟨q.1, q.1, q.2⟩⟩
end
def kWords : List Str := ["things", "folk", "lot", "order", "one", "worth", "thing", "cost", "taken", "full", "gone", "back", "own", "value"]
theorem kWords_is : Txt.split "things folk lot order one worth thing cost taken full gone back own value" " " = kWords := by decide +kernel
def kNames : List Str := ["NoThings", "NoFolk", "NoLot", "NoOrder", "NoOne", "NoWorth", "NoThing", "NoCost", "Taken", "Full", "NotThere", "NothingLeft", "PayError", "ValueError"]
/-- the answers of the class D to the fourteen names -/
def Kns (K : PySem.W.Frag) (mg : Str → Option Value) (D : Addr) (bs : List Bool) : Prop := ExcC K D ∧ bs.length = 14 ∧ ∀ (i : Nat) x b, kNames[i]? = some x → bs[i]? = some b → Kn K mg D x b
/-- what _law_kinds promises where p is handled -/
def spKinds (K : PySem.W.Frag) (mg : Str → Option Value) : Addr × Obj → Sp := fun p vs H Q _ => ∃ (D : Addr) (bs : List Bool), vs = [.ref p.1] ∧ Zc (.ref D) none p.2 ∧ (∃ fs, p.2.data = .fields fs) ∧ Kns K mg D bs ∧
  ∀ H' l, (∀ b o, H b = some o → H' b = some o) → H l = none → H' l = some (.lst ((pick kWords bs).map V.str)) → Q (.ref l) H'
end GH


set_option Elab.async false
set_option maxRecDepth 100000
set_option maxHeartbeats 4000000
/-! the defs of the text of k51, printed by gen.py -/
namespace K51
open PySem PySem.Spec PyProof.Rows L2 G
def top (i : Nat) : Stmt := PySem.Challenge.pw_gladpayers_k51_books_by_hand.main.body.getD i (.Pass ⟨0, 0, 0, 0⟩)
def meth (i j : Nat) : Stmt := match top i with
  | .ClassDef _ _ _ b _ _ _ _ _ _ _ => b.getD j (.Pass ⟨0, 0, 0, 0⟩)
  | _ => .Pass ⟨0, 0, 0, 0⟩
structure Zs (K : PySem.W.Frag) (mg : Str → Option Value) : Prop where
  z_ValueError : mg "ValueError" = none
  z_abs : mg "abs" = none
  z_all : mg "all" = none
  z_bool : mg "bool" = none
  z_int : mg "int" = none
  z_isinstance : mg "isinstance" = none
  z_len : mg "len" = none
  z_list : mg "list" = none
  z_max : mg "max" = none
  z_min : mg "min" = none
  z_range : mg "range" = none
  z_sorted : mg "sorted" = none
  z_str : mg "str" = none
  z_sum : mg "sum" = none
  z_tuple : mg "tuple" = none
  z_zip : mg "zip" = none
  e_Full : ExK K mg "Full"
  e_NoCost : ExK K mg "NoCost"
  e_NoOne : ExK K mg "NoOne"
  e_NoThing : ExK K mg "NoThing"
  e_NoWorth : ExK K mg "NoWorth"
  e_NotThere : ExK K mg "NotThere"
  e_NothingLeft : ExK K mg "NothingLeft"
  e_Taken : ExK K mg "Taken"
  l_LETTERS : Lit K mg "LETTERS" (.str "abcdefghijklmnopqrstuvwxyz")
  l_MOST : Lit K mg "MOST" (.int 8)
  l_MOST_NUMBER : Lit K mg "MOST_NUMBER" (.int 1000)
  l_MOST_WEIGHT : Lit K mg "MOST_WEIGHT" (.int 9)
  l_NOUGHT : Lit K mg "NOUGHT" (.tuple [.int 0, .int 1])
/-! ### divisor -/
abbrev s_divisor : Stmt := top 16
abbrev N_divisor : List Str := ["one", "other"]
theorem sc_divisor : FnScope N_divisor ["one", "other"] (defScope s_divisor) := ⟨rfl, rfl, rfl, by decide +kernel, rfl, by decide +kernel, by decide +kernel⟩
def m_divisor : MS :=
  mSeq (mWhile (mCmpB neD (mVar 1) (mC (.int 0)))
  (mPar2 0 1 (pE (mVar 1) (pE (mBin modD (mVar 0) (mVar 1)) (pNil)))))
  (mRet (mVar 0))
def b_divisor : PSp := bodyD 2 N_divisor (m_divisor)
theorem ok_divisor {P : Program} {w : World} {K : PySem.W.Frag} {mg : Str → Option Value} {base : Heap} (z : Zs K mg) {f : Addr} {fd : FuncData} (F : Fun K "divisor" "divisor" s_divisor f fd) :
    FnOk P w K mg base CX0 (0 + 1) f fd ["one", "other"] (spD K mg 2 (b_divisor)) := by
  have sc := sc_divisor
  exact fn_okD F sc rfl fun cdv A outer s H E hr => by
    exact (gss_cons (gs_while PassesOwn.never (gt_cmp (cg_ne (hu64 hr)) (g_var (pv 1)) (g_C g_int) rfl)
      (gss_one (gs_par (i := 0) (j := 1) rfl sc.nd rfl rfl (by decide) rfl rfl (gp_E (g_var (pv 1)) (gp_E (g_bin og_mod (g_var (pv 0)) (g_var (pv 1))) gp_nil)) (by with_unfolding_all rfl))))
      (gss_one (gs_ret (g_var (pv 0)))))
/-! ### fraction -/
abbrev s_fraction : Stmt := top 17
abbrev N_fraction : List Str := ["top", "bottom", "by"]
theorem sc_fraction : FnScope N_fraction ["top", "bottom"] (defScope s_fraction) := ⟨rfl, rfl, rfl, by decide +kernel, rfl, by decide +kernel, by decide +kernel⟩
def m_fraction (p_divisor : PSp) : MS :=
  mSeq (mSet 2 (mBin mulD (mCall p_divisor Wish.no.RE (mCons (mCall1 absD (mVar 0)) (mCons (mCall1 absD (mVar 1)) (mNil)))) (mIf (mCmpB gtD (mVar 1) (mC (.int 0))) (mC (.int 1)) (mNeg (mC (.int 1))))))
  (mRet (mTup (mCons (mBin fdivD (mVar 0) (mVar 2)) (mCons (mBin fdivD (mVar 1) (mVar 2)) (mNil)))))
def b_fraction (p_divisor : PSp) : PSp := bodyD 2 N_fraction (m_fraction p_divisor)
theorem ok_fraction {P : Program} {w : World} {K : PySem.W.Frag} {mg : Str → Option Value} {base : Heap} (z : Zs K mg) {p_divisor : PSp} (G_divisor : Has P w K mg base 1 "divisor" ["one", "other"] (spD K mg 2 p_divisor)) {f : Addr} {fd : FuncData} (F : Fun K "fraction" "fraction" s_fraction f fd) :
    FnOk P w K mg base CX0 (1 + 1) f fd ["top", "bottom"] (spD K mg 2 (b_fraction p_divisor)) := by
  have sc := sc_fraction
  exact fn_okD F sc rfl fun cdv A outer s H E hr => by
    exact (gss_cons (gs_set (i := 2) sc.nd rfl (.inl rfl) (g_bin og_mul (g_callH G_divisor hr (by rfl) ps0 (ga_cons (g_b1 cg_abs (by rfl) z.z_abs boots_abs (g_C (g_var (pv 0)))) (ga_cons (g_b1 cg_abs (by rfl) z.z_abs boots_abs (g_C (g_var (pv 1)))) ga_nil))) (g_if (gt_cmp cg_gt (g_var (pv 1)) (g_C g_int) rfl) g_int (g_neg g_int))))
      (gss_one (gs_ret (g_tup (ga_cons (g_bin og_fdiv (g_var (pv 0)) (g_var (pv 2))) (ga_cons (g_bin og_fdiv (g_var (pv 1)) (g_var (pv 2))) ga_nil))))))
/-! ### plus -/
abbrev s_plus : Stmt := top 18
abbrev N_plus : List Str := ["one", "other"]
theorem sc_plus : FnScope N_plus ["one", "other"] (defScope s_plus) := ⟨rfl, rfl, rfl, by decide +kernel, rfl, by decide +kernel, by decide +kernel⟩
def m_plus (p_fraction : PSp) : MS :=
  mRet (mCall p_fraction Wish.no.RE (mCons (mBin addD (mBin mulD (mIx (mVar 0) (mC (.int 0))) (mIx (mVar 1) (mC (.int 1)))) (mBin mulD (mIx (mVar 1) (mC (.int 0))) (mIx (mVar 0) (mC (.int 1))))) (mCons (mBin mulD (mIx (mVar 0) (mC (.int 1))) (mIx (mVar 1) (mC (.int 1)))) (mNil))))
def b_plus (p_fraction : PSp) : PSp := bodyD 2 N_plus (m_plus p_fraction)
theorem ok_plus {P : Program} {w : World} {K : PySem.W.Frag} {mg : Str → Option Value} {base : Heap} (z : Zs K mg) {p_fraction : PSp} (G_fraction : Has P w K mg base 2 "fraction" ["top", "bottom"] (spD K mg 2 p_fraction)) {f : Addr} {fd : FuncData} (F : Fun K "plus" "plus" s_plus f fd) :
    FnOk P w K mg base CX0 (2 + 1) f fd ["one", "other"] (spD K mg 2 (b_plus p_fraction)) := by
  have sc := sc_plus
  exact fn_okD F sc rfl fun cdv A outer s H E hr => by
    exact (gss_one (gs_ret (g_callH G_fraction hr (by rfl) ps0 (ga_cons (g_bin og_add (g_bin og_mul (g_ix (hu64 hr) (g_var (pv 0)) g_int (fun _ _ => rfl)) (g_ix (hu64 hr) (g_var (pv 1)) g_int (fun _ _ => rfl))) (g_bin og_mul (g_ix (hu64 hr) (g_var (pv 1)) g_int (fun _ _ => rfl)) (g_ix (hu64 hr) (g_var (pv 0)) g_int (fun _ _ => rfl)))) (ga_cons (g_bin og_mul (g_ix (hu64 hr) (g_var (pv 0)) g_int (fun _ _ => rfl)) (g_ix (hu64 hr) (g_var (pv 1)) g_int (fun _ _ => rfl))) ga_nil)))))
/-! ### is_less -/
abbrev s_is_less : Stmt := top 19
abbrev N_is_less : List Str := ["one", "other"]
theorem sc_is_less : FnScope N_is_less ["one", "other"] (defScope s_is_less) := ⟨rfl, rfl, rfl, by decide +kernel, rfl, by decide +kernel, by decide +kernel⟩
def m_is_less : MS :=
  mRet (mCmp ltD (mBin mulD (mIx (mVar 0) (mC (.int 0))) (mIx (mVar 1) (mC (.int 1)))) (mBin mulD (mIx (mVar 1) (mC (.int 0))) (mIx (mVar 0) (mC (.int 1)))))
def b_is_less : PSp := bodyD 2 N_is_less (m_is_less)
theorem ok_is_less {P : Program} {w : World} {K : PySem.W.Frag} {mg : Str → Option Value} {base : Heap} (z : Zs K mg) {f : Addr} {fd : FuncData} (F : Fun K "is_less" "is_less" s_is_less f fd) :
    FnOk P w K mg base CX0 (0 + 1) f fd ["one", "other"] (spD K mg 2 (b_is_less)) := by
  have sc := sc_is_less
  exact fn_okD F sc rfl fun cdv A outer s H E hr => by
    exact (gss_one (gs_ret (g_cmp cg_lt (g_bin og_mul (g_ix (hu64 hr) (g_var (pv 0)) g_int (fun _ _ => rfl)) (g_ix (hu64 hr) (g_var (pv 1)) g_int (fun _ _ => rfl))) (g_C (g_bin og_mul (g_ix (hu64 hr) (g_var (pv 1)) g_int (fun _ _ => rfl)) (g_ix (hu64 hr) (g_var (pv 0)) g_int (fun _ _ => rfl)))) rfl)))
/-! ### is_whole -/
abbrev s_is_whole : Stmt := top 20
abbrev N_is_whole : List Str := ["thing", "low", "high"]
theorem sc_is_whole : FnScope N_is_whole ["thing", "low", "high"] (defScope s_is_whole) := ⟨rfl, rfl, rfl, by decide +kernel, rfl, by decide +kernel, by decide +kernel⟩
def m_is_whole : MS :=
  mRet (mAndV (mIsi "int" (mVar 0)) (mAndV (mNotV (mIsi "bool" (mVar 0))) (mChain leD leD (mVar 1) (mVar 0) (mVar 2))))
def b_is_whole : PSp := bodyD 3 N_is_whole (m_is_whole)
theorem ok_is_whole {P : Program} {w : World} {K : PySem.W.Frag} {mg : Str → Option Value} {base : Heap} (z : Zs K mg) {f : Addr} {fd : FuncData} (F : Fun K "is_whole" "is_whole" s_is_whole f fd) :
    FnOk P w K mg base CX0 (0 + 1) f fd ["thing", "low", "high"] (spD K mg 3 (b_is_whole)) := by
  have sc := sc_is_whole
  exact fn_okD F sc rfl fun cdv A outer s H E hr => by
    exact (gss_one (gs_ret (g_and (g_isi (T := "int") (by decide) (by rfl) z.z_isinstance (g_var (pv 0)) (by rfl) z.z_int boots_int) (g_and (g_not (g_isi (T := "bool") (by decide) (by rfl) z.z_isinstance (g_var (pv 0)) (by rfl) z.z_bool boots_bool)) (g_one (g_chain ch_le ch_le (g_var (pv 1)) (g_var (pv 0)) (g_var (pv 2))))))))
/-! ### is_name -/
abbrev s_is_name : Stmt := top 26
abbrev N_is_name : List Str := ["thing", "sign"]
theorem sc_is_name : FnScope N_is_name ["thing"] (defScope s_is_name) := ⟨rfl, rfl, rfl, by decide +kernel, rfl, by decide +kernel, by decide +kernel⟩
def m_is_name : MS :=
  mRet (mAndV (mIsi "str" (mVar 0)) (mAndV (mChain leD leD (mC (.int 1)) (mCall1 lenD (mVar 0)) (mC (.int 8))) (mCall1 allD (mLc (iTxt (mVar 0)) (mGN 1) (mYes) (mCmp (inD false) (mVar 1) (mC (.str "abcdefghijklmnopqrstuvwxyz"))) [1]))))
def b_is_name : PSp := bodyD 1 N_is_name (m_is_name)
theorem ok_is_name {P : Program} {w : World} {K : PySem.W.Frag} {mg : Str → Option Value} {base : Heap} (z : Zs K mg) {f : Addr} {fd : FuncData} (F : Fun K "is_name" "is_name" s_is_name f fd) :
    FnOk P w K mg base CX0 (0 + 1) f fd ["thing"] (spD K mg 1 (b_is_name)) := by
  have sc := sc_is_name
  exact fn_okD F sc rfl fun cdv A outer s H E hr => by
    exact (gss_one (gs_ret (g_and (g_isi (T := "str") (by decide) (by rfl) z.z_isinstance (g_var (pv 0)) (by rfl) z.z_str boots_str) (g_and (g_chain ch_le ch_le g_int (g_b1 cg_len (by rfl) z.z_len boots_len (g_C (g_var (pv 0)))) g_int) (g_one (g_b1 (cg_all rfl) (by rfl) z.z_all boots_all (g_C (g_E (gn_lc (own := [("sign", 1)]) rfl sc.nd (gi_txt (g_var (pv 0))) (blkOk_by (own := [("sign", 1)]) (N := N_is_name) (sc := defScope s_is_name) (by decide +kernel)) (fun _ _ _ _ _ => (gg_name (pg_name (i := 1) sc.nd rfl (by first | exact .inl rfl | exact .inr rfl)))) (fun _ _ _ _ _ => gts_nil) (fun _ _ _ _ _ => (g_cmp (cg_in (hu64 hr)) (g_var (pv 1)) (g_C (g_lit z.l_LETTERS (by rfl))) rfl)))))))))))
/-! ### is_number -/
abbrev s_is_number : Stmt := top 27
abbrev N_is_number : List Str := ["thing"]
theorem sc_is_number : FnScope N_is_number ["thing"] (defScope s_is_number) := ⟨rfl, rfl, rfl, by decide +kernel, rfl, by decide +kernel, by decide +kernel⟩
def m_is_number (p_is_whole : PSp) : MS :=
  mRet (mCall p_is_whole Wish.no.RE (mCons (mVar 0) (mCons (mC (.int 0)) (mCons (mC (.int 1000)) (mNil)))))
def b_is_number (p_is_whole : PSp) : PSp := bodyD 1 N_is_number (m_is_number p_is_whole)
theorem ok_is_number {P : Program} {w : World} {K : PySem.W.Frag} {mg : Str → Option Value} {base : Heap} (z : Zs K mg) {p_is_whole : PSp} (G_is_whole : Has P w K mg base 1 "is_whole" ["thing", "low", "high"] (spD K mg 3 p_is_whole)) {f : Addr} {fd : FuncData} (F : Fun K "is_number" "is_number" s_is_number f fd) :
    FnOk P w K mg base CX0 (1 + 1) f fd ["thing"] (spD K mg 1 (b_is_number p_is_whole)) := by
  have sc := sc_is_number
  exact fn_okD F sc rfl fun cdv A outer s H E hr => by
    exact (gss_one (gs_ret (g_callH G_is_whole hr (by rfl) ps0 (ga_cons (g_var (pv 0)) (ga_cons g_int (ga_cons (g_lit z.l_MOST_NUMBER (by rfl)) ga_nil))))))
/-! ### are_rising -/
abbrev s_are_rising : Stmt := top 28
abbrev N_are_rising : List Str := ["some", "k"]
theorem sc_are_rising : FnScope N_are_rising ["some"] (defScope s_are_rising) := ⟨rfl, rfl, rfl, by decide +kernel, rfl, by decide +kernel, by decide +kernel⟩
def m_are_rising : MS :=
  mRet (mCall1 allD (mLc (iRg (mBin subD (mCall1 lenD (mVar 0)) (mC (.int 1)))) (mGN 1) (mYes) (mCmp ltD (mIx (mVar 0) (mVar 1)) (mIx (mVar 0) (mBin addD (mVar 1) (mC (.int 1))))) [1]))
def b_are_rising : PSp := bodyD 1 N_are_rising (m_are_rising)
theorem ok_are_rising {P : Program} {w : World} {K : PySem.W.Frag} {mg : Str → Option Value} {base : Heap} (z : Zs K mg) {f : Addr} {fd : FuncData} (F : Fun K "are_rising" "are_rising" s_are_rising f fd) :
    FnOk P w K mg base CX0 (0 + 1) f fd ["some"] (spD K mg 1 (b_are_rising)) := by
  have sc := sc_are_rising
  exact fn_okD F sc rfl fun cdv A outer s H E hr => by
    exact (gss_one (gs_ret (g_b1 (cg_all rfl) (by rfl) z.z_all boots_all (g_C (g_E (gn_lc (own := [("k", 1)]) rfl sc.nd (gi_range (by rfl) z.z_range (g_bin og_sub (g_b1 cg_len (by rfl) z.z_len boots_len (g_C (g_var (pv 0)))) g_int)) (blkOk_by (own := [("k", 1)]) (N := N_are_rising) (sc := defScope s_are_rising) (by decide +kernel)) (fun _ _ _ _ _ => (gg_name (pg_name (i := 1) sc.nd rfl (by first | exact .inl rfl | exact .inr rfl)))) (fun _ _ _ _ _ => gts_nil) (fun _ _ _ _ _ => (g_cmp cg_lt (g_ix (hu64 hr) (g_var (pv 0)) (g_var (pv 1)) (fun _ _ => rfl)) (g_C (g_ix (hu64 hr) (g_var (pv 0)) (g_bin og_add (g_var (pv 1)) g_int) (fun _ _ => rfl))) rfl))))))))
/-! ### are_things -/
abbrev s_are_things : Stmt := top 29
abbrev N_are_things : List Str := ["thing", "one"]
theorem sc_are_things : FnScope N_are_things ["thing"] (defScope s_are_things) := ⟨rfl, rfl, rfl, by decide +kernel, rfl, by decide +kernel, by decide +kernel⟩
def m_are_things (p_is_name : PSp) (p_is_number : PSp) (p_are_rising : PSp) : MS :=
  mSeq (mIfS (mOr (mNot (mT (mIsi "tuple" (mVar 0)))) (mNot (mT (mChain leD leD (mC (.int 1)) (mCall1 lenD (mVar 0)) (mC (.int 8))))))
  (mRet (mC (.bool false)))
  (mNx))
  (mSeq (mIfS (mNot (mT (mCall1 allD (mLc (iSq (mVar 0)) (mGN 1) (mYes) (mAndV (mIsi "tuple" (mVar 1)) (mAndV (mCmp eqD (mCall1 lenD (mVar 1)) (mC (.int 2))) (mAndV (mCall p_is_name Wish.no.RE (mCons (mIx (mVar 1) (mC (.int 0))) (mNil))) (mCall p_is_number Wish.no.RE (mCons (mIx (mVar 1) (mC (.int 1))) (mNil)))))) [1]))))
  (mRet (mC (.bool false)))
  (mNx))
  (mRet (mCall p_are_rising Wish.no.RE (mCons (mLc (iSq (mVar 0)) (mGN 1) (mYes) (mIx (mVar 1) (mC (.int 0))) [1]) (mNil)))))
def b_are_things (p_is_name : PSp) (p_is_number : PSp) (p_are_rising : PSp) : PSp := bodyD 1 N_are_things (m_are_things p_is_name p_is_number p_are_rising)
theorem ok_are_things {P : Program} {w : World} {K : PySem.W.Frag} {mg : Str → Option Value} {base : Heap} (z : Zs K mg) {p_is_name : PSp} {p_is_number : PSp} {p_are_rising : PSp} (G_is_name : Has P w K mg base 1 "is_name" ["thing"] (spD K mg 1 p_is_name)) (G_is_number : Has P w K mg base 2 "is_number" ["thing"] (spD K mg 1 p_is_number)) (G_are_rising : Has P w K mg base 1 "are_rising" ["some"] (spD K mg 1 p_are_rising)) {f : Addr} {fd : FuncData} (F : Fun K "are_things" "are_things" s_are_things f fd) :
    FnOk P w K mg base CX0 (2 + 1) f fd ["thing"] (spD K mg 1 (b_are_things p_is_name p_is_number p_are_rising)) := by
  have sc := sc_are_things
  exact fn_okD F sc rfl fun cdv A outer s H E hr => by
    exact (gss_cons (gs_if (gw_or (gt_not (gt_val (g_isi (T := "tuple") (by decide) (by rfl) z.z_isinstance (g_var (pv 0)) (by rfl) z.z_tuple boots_tuple))) (gw_or1 (gt_not (gt_chain ch_le ch_le g_int (g_b1 cg_len (by rfl) z.z_len boots_len (g_C (g_var (pv 0)))) (g_lit z.l_MOST (by rfl)))))).pt
      (gss_one (gs_ret g_bl))
      gss_nil)
      (gss_cons (gs_if (gt_not (gt_val (g_b1 (cg_all rfl) (by rfl) z.z_all boots_all (g_C (g_E (gn_lc (own := [("one", 1)]) rfl sc.nd (gi_seq (g_var (pv 0))) (blkOk_by (own := [("one", 1)]) (N := N_are_things) (sc := defScope s_are_things) (by decide +kernel)) (fun _ _ _ _ _ => (gg_name (pg_name (i := 1) sc.nd rfl (by first | exact .inl rfl | exact .inr rfl)))) (fun _ _ _ _ _ => gts_nil) (fun _ _ _ _ _ => (g_and (g_isi (T := "tuple") (by decide) (by rfl) z.z_isinstance (g_var (pv 1)) (by rfl) z.z_tuple boots_tuple) (g_and (g_cmp (cg_eq (hu64 hr)) (g_b1 cg_len (by rfl) z.z_len boots_len (g_C (g_var (pv 1)))) (g_C g_int) rfl) (g_and (g_callH G_is_name (hr.mono (by omega)) (by rfl) ps0 (ga_cons (g_ix (hu64 hr) (g_var (pv 1)) g_int (fun _ _ => rfl)) ga_nil)) (g_one (g_callH G_is_number hr (by rfl) ps0 (ga_cons (g_ix (hu64 hr) (g_var (pv 1)) g_int (fun _ _ => rfl)) ga_nil)))))))))))))
      (gss_one (gs_ret g_bl))
      gss_nil)
      (gss_one (gs_ret (g_callH G_are_rising (hr.mono (by omega)) (by rfl) ps0 (ga_cons (g_E (gn_lc (own := [("one", 1)]) rfl sc.nd (gi_seq (g_var (pv 0))) (blkOk_by (own := [("one", 1)]) (N := N_are_things) (sc := defScope s_are_things) (by decide +kernel)) (fun _ _ _ _ _ => (gg_name (pg_name (i := 1) sc.nd rfl (by first | exact .inl rfl | exact .inr rfl)))) (fun _ _ _ _ _ => gts_nil) (fun _ _ _ _ _ => (g_ix (hu64 hr) (g_var (pv 1)) g_int (fun _ _ => rfl))))) ga_nil))))))
/-! ### are_of -/
abbrev s_are_of : Stmt := top 30
abbrev N_are_of : List Str := ["names", "thing", "name"]
theorem sc_are_of : FnScope N_are_of ["names", "thing"] (defScope s_are_of) := ⟨rfl, rfl, rfl, by decide +kernel, rfl, by decide +kernel, by decide +kernel⟩
def m_are_of (p_are_rising : PSp) : MS :=
  mSeq (mIfS (mOr (mNot (mT (mIsi "tuple" (mVar 1)))) (mNot (mT (mCall1 allD (mLc (iSq (mVar 1)) (mGN 2) (mYes) (mAndV (mIsi "str" (mVar 2)) (mCmp (inD false) (mVar 2) (mVar 0))) [2])))))
  (mRet (mC (.bool false)))
  (mNx))
  (mRet (mCall p_are_rising Wish.no.RE (mCons (mVar 1) (mNil))))
def b_are_of (p_are_rising : PSp) : PSp := bodyD 2 N_are_of (m_are_of p_are_rising)
theorem ok_are_of {P : Program} {w : World} {K : PySem.W.Frag} {mg : Str → Option Value} {base : Heap} (z : Zs K mg) {p_are_rising : PSp} (G_are_rising : Has P w K mg base 1 "are_rising" ["some"] (spD K mg 1 p_are_rising)) {f : Addr} {fd : FuncData} (F : Fun K "are_of" "are_of" s_are_of f fd) :
    FnOk P w K mg base CX0 (1 + 1) f fd ["names", "thing"] (spD K mg 2 (b_are_of p_are_rising)) := by
  have sc := sc_are_of
  exact fn_okD F sc rfl fun cdv A outer s H E hr => by
    exact (gss_cons (gs_if (gw_or (gt_not (gt_val (g_isi (T := "tuple") (by decide) (by rfl) z.z_isinstance (g_var (pv 1)) (by rfl) z.z_tuple boots_tuple))) (gw_or1 (gt_not (gt_val (g_b1 (cg_all rfl) (by rfl) z.z_all boots_all (g_C (g_E (gn_lc (own := [("name", 2)]) rfl sc.nd (gi_seq (g_var (pv 1))) (blkOk_by (own := [("name", 2)]) (N := N_are_of) (sc := defScope s_are_of) (by decide +kernel)) (fun _ _ _ _ _ => (gg_name (pg_name (i := 2) sc.nd rfl (by first | exact .inl rfl | exact .inr rfl)))) (fun _ _ _ _ _ => gts_nil) (fun _ _ _ _ _ => (g_and (g_isi (T := "str") (by decide) (by rfl) z.z_isinstance (g_var (pv 2)) (by rfl) z.z_str boots_str) (g_one (g_cmp (cg_in (hu64 hr)) (g_var (pv 2)) (g_C (g_var (pv 0))) rfl)))))))))))).pt
      (gss_one (gs_ret g_bl))
      gss_nil)
      (gss_one (gs_ret (g_callH G_are_rising hr (by rfl) ps0 (ga_cons (g_var (pv 1)) ga_nil)))))
/-! ### is_one -/
abbrev s_is_one : Stmt := top 31
abbrev N_is_one : List Str := ["things", "thing", "one"]
theorem sc_is_one : FnScope N_is_one ["things", "thing"] (defScope s_is_one) := ⟨rfl, rfl, rfl, by decide +kernel, rfl, by decide +kernel, by decide +kernel⟩
def m_is_one (p_is_name : PSp) (p_are_of : PSp) (p_is_number : PSp) (p_is_whole : PSp) : MS :=
  mSeq (mIfS (mOr (mNot (mT (mIsi "tuple" (mVar 1)))) (mOr (mCmpB neD (mCall1 lenD (mVar 1)) (mC (.int 4))) (mNot (mT (mCall p_is_name Wish.no.RE (mCons (mIx (mVar 1) (mC (.int 0))) (mNil)))))))
  (mRet (mC (.bool false)))
  (mNx))
  (mSeq (mIfS (mOr (mNot (mT (mCall p_are_of Wish.no.RE (mCons (mLc (iSq (mVar 0)) (mGN 2) (mYes) (mIx (mVar 2) (mC (.int 0))) [2]) (mCons (mIx (mVar 1) (mC (.int 1))) (mNil)))))) (mCmpB eqD (mIx (mVar 1) (mC (.int 1))) (mTup (mNil))))
  (mRet (mC (.bool false)))
  (mNx))
  (mRet (mAndV (mCall p_is_number Wish.no.RE (mCons (mIx (mVar 1) (mC (.int 2))) (mNil))) (mCall p_is_whole Wish.no.RE (mCons (mIx (mVar 1) (mC (.int 3))) (mCons (mC (.int 1)) (mCons (mC (.int 9)) (mNil))))))))
def b_is_one (p_is_name : PSp) (p_are_of : PSp) (p_is_number : PSp) (p_is_whole : PSp) : PSp := bodyD 2 N_is_one (m_is_one p_is_name p_are_of p_is_number p_is_whole)
theorem ok_is_one {P : Program} {w : World} {K : PySem.W.Frag} {mg : Str → Option Value} {base : Heap} (z : Zs K mg) {p_is_name : PSp} {p_are_of : PSp} {p_is_number : PSp} {p_is_whole : PSp} (G_is_name : Has P w K mg base 1 "is_name" ["thing"] (spD K mg 1 p_is_name)) (G_are_of : Has P w K mg base 2 "are_of" ["names", "thing"] (spD K mg 2 p_are_of)) (G_is_number : Has P w K mg base 2 "is_number" ["thing"] (spD K mg 1 p_is_number)) (G_is_whole : Has P w K mg base 1 "is_whole" ["thing", "low", "high"] (spD K mg 3 p_is_whole)) {f : Addr} {fd : FuncData} (F : Fun K "is_one" "is_one" s_is_one f fd) :
    FnOk P w K mg base CX0 (2 + 1) f fd ["things", "thing"] (spD K mg 2 (b_is_one p_is_name p_are_of p_is_number p_is_whole)) := by
  have sc := sc_is_one
  exact fn_okD F sc rfl fun cdv A outer s H E hr => by
    exact (gss_cons (gs_if (gw_or (gt_not (gt_val (g_isi (T := "tuple") (by decide) (by rfl) z.z_isinstance (g_var (pv 1)) (by rfl) z.z_tuple boots_tuple))) (gw_or (gt_cmp (cg_ne (hu64 hr)) (g_b1 cg_len (by rfl) z.z_len boots_len (g_C (g_var (pv 1)))) (g_C g_int) rfl) (gw_or1 (gt_not (gt_val (g_callH G_is_name (hr.mono (by omega)) (by rfl) ps0 (ga_cons (g_ix (hu64 hr) (g_var (pv 1)) g_int (fun _ _ => rfl)) ga_nil))))))).pt
      (gss_one (gs_ret g_bl))
      gss_nil)
      (gss_cons (gs_if (gw_or (gt_not (gt_val (g_callH G_are_of hr (by rfl) ps0 (ga_cons (g_E (gn_lc (own := [("one", 2)]) rfl sc.nd (gi_seq (g_var (pv 0))) (blkOk_by (own := [("one", 2)]) (N := N_is_one) (sc := defScope s_is_one) (by decide +kernel)) (fun _ _ _ _ _ => (gg_name (pg_name (i := 2) sc.nd rfl (by first | exact .inl rfl | exact .inr rfl)))) (fun _ _ _ _ _ => gts_nil) (fun _ _ _ _ _ => (g_ix (hu64 hr) (g_var (pv 2)) g_int (fun _ _ => rfl))))) (ga_cons (g_ix (hu64 hr) (g_var (pv 1)) g_int (fun _ _ => rfl)) ga_nil))))) (gw_or1 (gt_cmp (cg_eq (hu64 hr)) (g_ix (hu64 hr) (g_var (pv 1)) g_int (fun _ _ => rfl)) (g_C (g_tup ga_nil)) rfl))).pt
      (gss_one (gs_ret g_bl))
      gss_nil)
      (gss_one (gs_ret (g_and (g_callH G_is_number hr (by rfl) ps0 (ga_cons (g_ix (hu64 hr) (g_var (pv 1)) g_int (fun _ _ => rfl)) ga_nil)) (g_one (g_callH G_is_whole (hr.mono (by omega)) (by rfl) ps0 (ga_cons (g_ix (hu64 hr) (g_var (pv 1)) g_int (fun _ _ => rfl)) (ga_cons g_int (ga_cons (g_lit z.l_MOST_WEIGHT (by rfl)) ga_nil))))))))))
/-! ### are_folk_of -/
abbrev s_are_folk_of : Stmt := top 32
abbrev N_are_folk_of : List Str := ["things", "thing", "one"]
theorem sc_are_folk_of : FnScope N_are_folk_of ["things", "thing"] (defScope s_are_folk_of) := ⟨rfl, rfl, rfl, by decide +kernel, rfl, by decide +kernel, by decide +kernel⟩
def m_are_folk_of (p_is_one : PSp) (p_are_rising : PSp) : MS :=
  mSeq (mIfS (mOr (mNot (mT (mIsi "tuple" (mVar 1)))) (mOr (mCmpB gtD (mCall1 lenD (mVar 1)) (mC (.int 8))) (mNot (mT (mCall1 allD (mLc (iSq (mVar 1)) (mGN 2) (mYes) (mCall p_is_one Wish.no.RE (mCons (mVar 0) (mCons (mVar 2) (mNil)))) [2]))))))
  (mRet (mC (.bool false)))
  (mNx))
  (mRet (mCall p_are_rising Wish.no.RE (mCons (mLc (iSq (mVar 1)) (mGN 2) (mYes) (mIx (mVar 2) (mC (.int 0))) [2]) (mNil))))
def b_are_folk_of (p_is_one : PSp) (p_are_rising : PSp) : PSp := bodyD 2 N_are_folk_of (m_are_folk_of p_is_one p_are_rising)
theorem ok_are_folk_of {P : Program} {w : World} {K : PySem.W.Frag} {mg : Str → Option Value} {base : Heap} (z : Zs K mg) {p_is_one : PSp} {p_are_rising : PSp} (G_is_one : Has P w K mg base 3 "is_one" ["things", "thing"] (spD K mg 2 p_is_one)) (G_are_rising : Has P w K mg base 1 "are_rising" ["some"] (spD K mg 1 p_are_rising)) {f : Addr} {fd : FuncData} (F : Fun K "are_folk_of" "are_folk_of" s_are_folk_of f fd) :
    FnOk P w K mg base CX0 (3 + 1) f fd ["things", "thing"] (spD K mg 2 (b_are_folk_of p_is_one p_are_rising)) := by
  have sc := sc_are_folk_of
  exact fn_okD F sc rfl fun cdv A outer s H E hr => by
    exact (gss_cons (gs_if (gw_or (gt_not (gt_val (g_isi (T := "tuple") (by decide) (by rfl) z.z_isinstance (g_var (pv 1)) (by rfl) z.z_tuple boots_tuple))) (gw_or (gt_cmp cg_gt (g_b1 cg_len (by rfl) z.z_len boots_len (g_C (g_var (pv 1)))) (g_C (g_lit z.l_MOST (by rfl))) rfl) (gw_or1 (gt_not (gt_val (g_b1 (cg_all rfl) (by rfl) z.z_all boots_all (g_C (g_E (gn_lc (own := [("one", 2)]) rfl sc.nd (gi_seq (g_var (pv 1))) (blkOk_by (own := [("one", 2)]) (N := N_are_folk_of) (sc := defScope s_are_folk_of) (by decide +kernel)) (fun _ _ _ _ _ => (gg_name (pg_name (i := 2) sc.nd rfl (by first | exact .inl rfl | exact .inr rfl)))) (fun _ _ _ _ _ => gts_nil) (fun _ _ _ _ _ => (g_callH G_is_one hr (by rfl) ps0 (ga_cons (g_var (pv 0)) (ga_cons (g_var (pv 2)) ga_nil))))))))))))).pt
      (gss_one (gs_ret g_bl))
      gss_nil)
      (gss_one (gs_ret (g_callH G_are_rising (hr.mono (by omega)) (by rfl) ps0 (ga_cons (g_E (gn_lc (own := [("one", 2)]) rfl sc.nd (gi_seq (g_var (pv 1))) (blkOk_by (own := [("one", 2)]) (N := N_are_folk_of) (sc := defScope s_are_folk_of) (by decide +kernel)) (fun _ _ _ _ _ => (gg_name (pg_name (i := 2) sc.nd rfl (by first | exact .inl rfl | exact .inr rfl)))) (fun _ _ _ _ _ => gts_nil) (fun _ _ _ _ _ => (g_ix (hu64 hr) (g_var (pv 2)) g_int (fun _ _ => rfl))))) ga_nil)))))
/-! ### need_things -/
abbrev s_need_things : Stmt := top 33
abbrev N_need_things : List Str := ["things"]
theorem sc_need_things : FnScope N_need_things ["things"] (defScope s_need_things) := ⟨rfl, rfl, rfl, by decide +kernel, rfl, by decide +kernel, by decide +kernel⟩
def m_need_things (p_are_things : PSp) : MS :=
  mIfS (mNot (mT (mCall p_are_things Wish.no.RE (mCons (mVar 0) (mNil)))))
  (mNever)
  (mNx)
def b_need_things (p_are_things : PSp) : PSp := bodyD 1 N_need_things (m_need_things p_are_things)
theorem ok_need_things {P : Program} {w : World} {K : PySem.W.Frag} {mg : Str → Option Value} {base : Heap} (z : Zs K mg) {p_are_things : PSp} (G_are_things : Has P w K mg base 3 "are_things" ["thing"] (spD K mg 1 p_are_things)) {f : Addr} {fd : FuncData} (F : Fun K "need_things" "need_things" s_need_things f fd) :
    FnOk P w K mg base CX0 (3 + 1) f fd ["things"] (spD K mg 1 (b_need_things p_are_things)) := by
  have sc := sc_need_things
  exact fn_okD F sc rfl fun cdv A outer s H E hr => by
    exact (gss_one (gs_if (gt_not (gt_val (g_callH G_are_things hr (by rfl) ps0 (ga_cons (g_var (pv 0)) ga_nil))))
      (gss_one gs_never)
      gss_nil))
/-! ### need_folk -/
abbrev s_need_folk : Stmt := top 34
abbrev N_need_folk : List Str := ["things", "folk"]
theorem sc_need_folk : FnScope N_need_folk ["things", "folk"] (defScope s_need_folk) := ⟨rfl, rfl, rfl, by decide +kernel, rfl, by decide +kernel, by decide +kernel⟩
def m_need_folk (p_need_things : PSp) (p_are_folk_of : PSp) : MS :=
  mSeq (mDrop (mCall p_need_things Wish.no.RE (mCons (mVar 0) (mNil))))
  (mIfS (mNot (mT (mCall p_are_folk_of Wish.no.RE (mCons (mVar 0) (mCons (mVar 1) (mNil))))))
  (mNever)
  (mNx))
def b_need_folk (p_need_things : PSp) (p_are_folk_of : PSp) : PSp := bodyD 2 N_need_folk (m_need_folk p_need_things p_are_folk_of)
theorem ok_need_folk {P : Program} {w : World} {K : PySem.W.Frag} {mg : Str → Option Value} {base : Heap} (z : Zs K mg) {p_need_things : PSp} {p_are_folk_of : PSp} (G_need_things : Has P w K mg base 4 "need_things" ["things"] (spD K mg 1 p_need_things)) (G_are_folk_of : Has P w K mg base 4 "are_folk_of" ["things", "thing"] (spD K mg 2 p_are_folk_of)) {f : Addr} {fd : FuncData} (F : Fun K "need_folk" "need_folk" s_need_folk f fd) :
    FnOk P w K mg base CX0 (4 + 1) f fd ["things", "folk"] (spD K mg 2 (b_need_folk p_need_things p_are_folk_of)) := by
  have sc := sc_need_folk
  exact fn_okD F sc rfl fun cdv A outer s H E hr => by
    exact (gss_cons (gs_expr (g_callH G_need_things hr (by rfl) ps0 (ga_cons (g_var (pv 0)) ga_nil)))
      (gss_one (gs_if (gt_not (gt_val (g_callH G_are_folk_of hr (by rfl) ps0 (ga_cons (g_var (pv 0)) (ga_cons (g_var (pv 1)) ga_nil)))))
      (gss_one gs_never)
      gss_nil)))
/-! ### need_lot -/
abbrev s_need_lot : Stmt := top 35
abbrev N_need_lot : List Str := ["things", "folk", "lot"]
theorem sc_need_lot : FnScope N_need_lot ["things", "folk", "lot"] (defScope s_need_lot) := ⟨rfl, rfl, rfl, by decide +kernel, rfl, by decide +kernel, by decide +kernel⟩
def m_need_lot (p_need_folk : PSp) (p_are_of : PSp) (p_names_of : PSp) : MS :=
  mSeq (mDrop (mCall p_need_folk Wish.no.RE (mCons (mVar 0) (mCons (mVar 1) (mNil)))))
  (mIfS (mNot (mT (mCall p_are_of Wish.no.RE (mCons (mCall p_names_of Wish.no.RE (mCons (mVar 1) (mNil))) (mCons (mVar 2) (mNil))))))
  (mNever)
  (mNx))
def b_need_lot (p_need_folk : PSp) (p_are_of : PSp) (p_names_of : PSp) : PSp := bodyD 3 N_need_lot (m_need_lot p_need_folk p_are_of p_names_of)
theorem ok_need_lot {P : Program} {w : World} {K : PySem.W.Frag} {mg : Str → Option Value} {base : Heap} (z : Zs K mg) {p_need_folk : PSp} {p_are_of : PSp} {p_names_of : PSp} (G_need_folk : Has P w K mg base 5 "need_folk" ["things", "folk"] (spD K mg 2 p_need_folk)) (G_are_of : Has P w K mg base 2 "are_of" ["names", "thing"] (spD K mg 2 p_are_of)) (G_names_of : Has P w K mg base 1 "names_of" ["folk"] (spD K mg 1 p_names_of)) {f : Addr} {fd : FuncData} (F : Fun K "need_lot" "need_lot" s_need_lot f fd) :
    FnOk P w K mg base CX0 (5 + 1) f fd ["things", "folk", "lot"] (spD K mg 3 (b_need_lot p_need_folk p_are_of p_names_of)) := by
  have sc := sc_need_lot
  exact fn_okD F sc rfl fun cdv A outer s H E hr => by
    exact (gss_cons (gs_expr (g_callH G_need_folk hr (by rfl) ps0 (ga_cons (g_var (pv 0)) (ga_cons (g_var (pv 1)) ga_nil))))
      (gss_one (gs_if (gt_not (gt_val (g_callH G_are_of (hr.mono (by omega)) (by rfl) ps0 (ga_cons (g_callH G_names_of (hr.mono (by omega)) (by rfl) ps0 (ga_cons (g_var (pv 1)) ga_nil)) (ga_cons (g_var (pv 2)) ga_nil)))))
      (gss_one gs_never)
      gss_nil)))
/-! ### names_of -/
abbrev s_names_of : Stmt := top 36
abbrev N_names_of : List Str := ["folk", "one"]
theorem sc_names_of : FnScope N_names_of ["folk"] (defScope s_names_of) := ⟨rfl, rfl, rfl, by decide +kernel, rfl, by decide +kernel, by decide +kernel⟩
def m_names_of : MS :=
  mRet (mLc (iSq (mVar 0)) (mGN 1) (mYes) (mIx (mVar 1) (mC (.int 0))) [1])
def b_names_of : PSp := bodyD 1 N_names_of (m_names_of)
theorem ok_names_of {P : Program} {w : World} {K : PySem.W.Frag} {mg : Str → Option Value} {base : Heap} (z : Zs K mg) {f : Addr} {fd : FuncData} (F : Fun K "names_of" "names_of" s_names_of f fd) :
    FnOk P w K mg base CX0 (0 + 1) f fd ["folk"] (spD K mg 1 (b_names_of)) := by
  have sc := sc_names_of
  exact fn_okD F sc rfl fun cdv A outer s H E hr => by
    exact (gss_one (gs_ret (g_E (gn_lc (own := [("one", 1)]) rfl sc.nd (gi_seq (g_var (pv 0))) (blkOk_by (own := [("one", 1)]) (N := N_names_of) (sc := defScope s_names_of) (by decide +kernel)) (fun _ _ _ _ _ => (gg_name (pg_name (i := 1) sc.nd rfl (by first | exact .inl rfl | exact .inr rfl)))) (fun _ _ _ _ _ => gts_nil) (fun _ _ _ _ _ => (g_ix (hu64 hr) (g_var (pv 1)) g_int (fun _ _ => rfl)))))))
/-! ### are_folk -/
abbrev s_are_folk : Stmt := top 37
abbrev N_are_folk : List Str := ["things", "thing"]
theorem sc_are_folk : FnScope N_are_folk ["things", "thing"] (defScope s_are_folk) := ⟨rfl, rfl, rfl, by decide +kernel, rfl, by decide +kernel, by decide +kernel⟩
def m_are_folk (p_need_things : PSp) (p_are_folk_of : PSp) : MS :=
  mSeq (mDrop (mCall p_need_things Wish.no.RE (mCons (mVar 0) (mNil))))
  (mRet (mCall p_are_folk_of Wish.no.RE (mCons (mVar 0) (mCons (mVar 1) (mNil)))))
def b_are_folk (p_need_things : PSp) (p_are_folk_of : PSp) : PSp := bodyD 2 N_are_folk (m_are_folk p_need_things p_are_folk_of)
theorem ok_are_folk {P : Program} {w : World} {K : PySem.W.Frag} {mg : Str → Option Value} {base : Heap} (z : Zs K mg) {p_need_things : PSp} {p_are_folk_of : PSp} (G_need_things : Has P w K mg base 4 "need_things" ["things"] (spD K mg 1 p_need_things)) (G_are_folk_of : Has P w K mg base 4 "are_folk_of" ["things", "thing"] (spD K mg 2 p_are_folk_of)) {f : Addr} {fd : FuncData} (F : Fun K "are_folk" "are_folk" s_are_folk f fd) :
    FnOk P w K mg base CX0 (4 + 1) f fd ["things", "thing"] (spD K mg 2 (b_are_folk p_need_things p_are_folk_of)) := by
  have sc := sc_are_folk
  exact fn_okD F sc rfl fun cdv A outer s H E hr => by
    exact (gss_cons (gs_expr (g_callH G_need_things hr (by rfl) ps0 (ga_cons (g_var (pv 0)) ga_nil)))
      (gss_one (gs_ret (g_callH G_are_folk_of hr (by rfl) ps0 (ga_cons (g_var (pv 0)) (ga_cons (g_var (pv 1)) ga_nil))))))
/-! ### shares_of -/
abbrev s_shares_of : Stmt := top 39
abbrev N_shares_of : List Str := ["things", "some", "found", "thing", "cost", "users", "name", "weight", "whole", "one"]
theorem sc_shares_of : FnScope N_shares_of ["things", "some"] (defScope s_shares_of) := ⟨rfl, rfl, rfl, by decide +kernel, rfl, by decide +kernel, by decide +kernel⟩
def m_shares_of (p_plus : PSp) (p_fraction : PSp) : MS :=
  mSeq (mSetN 2 (mDc (iSq (mVar 1)) (mGN 9) (mYes) (mIx (mVar 9) (mC (.int 0))) (mC (.tuple [.int 0, .int 1])) [9]))
  (mSeq (mFor (iSq (mVar 0)) (mGT [mGN 3, mGN 4])
  (mSeq (mSet 5 (mLc (iSq (mVar 1)) (mGN 9) (mCmpB (inD false) (mVar 3) (mIx (mVar 9) (mC (.int 1)))) (mTup (mCons (mIx (mVar 9) (mC (.int 0))) (mCons (mIx (mVar 9) (mC (.int 3))) (mNil)))) [9]))
  (mSeq (mSet 8 (mCall1 sumD (mLc (iSq (mVar 5)) (mGT [mGN 6, mGN 7]) (mYes) (mVar 7) [6, 7])))
  (mFor (iSq (mVar 5)) (mGT [mGN 6, mGN 7])
  (mStore 2 (mVar 6) (mCall p_plus Wish.no.RE (mCons (mIxV 2 (mVar 6)) (mCons (mCall p_fraction Wish.no.RE (mCons (mBin mulD (mVar 4) (mVar 7)) (mCons (mVar 8) (mNil)))) (mNil)))))))))
  (mRet (mFz 2)))
def b_shares_of (p_plus : PSp) (p_fraction : PSp) : PSp := bodyD 2 N_shares_of (m_shares_of p_plus p_fraction)
theorem ok_shares_of {P : Program} {w : World} {K : PySem.W.Frag} {mg : Str → Option Value} {base : Heap} (z : Zs K mg) {p_plus : PSp} {p_fraction : PSp} (G_plus : Has P w K mg base 3 "plus" ["one", "other"] (spD K mg 2 p_plus)) (G_fraction : Has P w K mg base 2 "fraction" ["top", "bottom"] (spD K mg 2 p_fraction)) {f : Addr} {fd : FuncData} (F : Fun K "shares_of" "shares_of" s_shares_of f fd) :
    FnOk P w K mg base CX0 (3 + 1) f fd ["things", "some"] (spD K mg 2 (b_shares_of p_plus p_fraction)) := by
  have sc := sc_shares_of
  exact fn_okD F sc rfl fun cdv A outer s H E hr => by
    exact (gss_cons (gs_setDcN (i := 2) (own := [("one", 9)]) rfl sc.nd rfl rfl (swd_true rfl rfl rfl (by decide +kernel)) (gi_seq (g_var (pv 1))) (blkOk_by (own := [("one", 9)]) (N := N_shares_of) (sc := defScope s_shares_of) (by decide +kernel)) (fun _ _ _ _ _ => (gg_name (pg_name (i := 9) sc.nd rfl (by first | exact .inl rfl | exact .inr rfl)))) (fun _ _ _ _ _ => gts_nil) (fun _ _ _ _ _ => (g_ix (hu64 hr) (g_var (pv 9)) g_int (fun _ _ => rfl))) (fun _ _ _ _ _ => (g_lit z.l_NOUGHT (by rfl))))
      (gss_cons (gs_for PassesOwn.never rfl (gi_seq (g_var (pv 0))) (gg_tup rfl (ggs_cons (gg_name (pg_name (i := 3) sc.nd rfl (.inr rfl))) (ggs_cons (gg_name (pg_name (i := 4) sc.nd rfl (.inl rfl))) ggs_nil)))
      (gss_cons (gs_setLc (i := 5) (own := [("one", 9)]) rfl sc.nd rfl rfl (sw_true rfl rfl rfl (by decide +kernel)) (gi_seq (g_var (pv 1))) (blkOk_by (own := [("one", 9)]) (N := N_shares_of) (sc := defScope s_shares_of) (by decide +kernel)) (fun _ _ _ _ _ => (gg_name (pg_name (i := 9) sc.nd rfl (by first | exact .inl rfl | exact .inr rfl)))) (fun _ _ _ _ _ => (gts_one (gt_cmp (cg_in (hu64 hr)) (g_var (pv 3)) (g_C (g_ix (hu64 hr) (g_var (pv 9)) g_int (fun _ _ => rfl))) rfl))) (fun _ _ _ _ _ => (g_tup (ga_cons (g_ix (hu64 hr) (g_var (pv 9)) g_int (fun _ _ => rfl)) (ga_cons (g_ix (hu64 hr) (g_var (pv 9)) g_int (fun _ _ => rfl)) ga_nil)))))
      (gss_cons (gs_set (i := 8) sc.nd rfl (.inl rfl) (g_b1 (cg_sum rfl) (by rfl) z.z_sum boots_sum (g_C (g_E (gn_lc (own := [("name", 6), ("weight", 7)]) rfl sc.nd (gi_seq (g_var (pv 5))) (blkOk_by (own := [("name", 6), ("weight", 7)]) (N := N_shares_of) (sc := defScope s_shares_of) (by decide +kernel)) (fun _ _ _ _ _ => (gg_tup rfl (ggs_cons (gg_name (pg_name (i := 6) sc.nd rfl (by first | exact .inl rfl | exact .inr rfl))) (ggs_cons (gg_name (pg_name (i := 7) sc.nd rfl (by first | exact .inl rfl | exact .inr rfl))) ggs_nil)))) (fun _ _ _ _ _ => gts_nil) (fun _ _ _ _ _ => (g_var (pv 7))))))))
      (gss_one (gs_for PassesOwn.never rfl (gi_seq (g_var (pv 5))) (gg_tup rfl (ggs_cons (gg_name (pg_name (i := 6) sc.nd rfl (.inl rfl))) (ggs_cons (gg_name (pg_name (i := 7) sc.nd rfl (.inl rfl))) ggs_nil)))
      (gss_one (gs_store (hu64 hr) (g_callH G_plus hr (by rfl) ps0 (ga_cons (g_ixV (hu64 hr) (pv 2) (g_var (pv 6)) (fun _ _ => rfl)) (ga_cons (g_callH G_fraction (hr.mono (by omega)) (by rfl) ps0 (ga_cons (g_bin og_mul (g_var (pv 4)) (g_var (pv 7))) (ga_cons (g_var (pv 8)) ga_nil))) ga_nil))) (pv 2) (g_var (pv 6)))))))))
      (gss_one (gs_ret (g_fz (pv 2))))))
/-! ### shares -/
abbrev s_shares : Stmt := top 40
abbrev N_shares : List Str := ["things", "folk", "lot", "one"]
theorem sc_shares : FnScope N_shares ["things", "folk", "lot"] (defScope s_shares) := ⟨rfl, rfl, rfl, by decide +kernel, rfl, by decide +kernel, by decide +kernel⟩
def m_shares (p_need_lot : PSp) (p_shares_of : PSp) : MS :=
  mSeq (mDrop (mCall p_need_lot Wish.no.RE (mCons (mVar 0) (mCons (mVar 1) (mCons (mVar 2) (mNil))))))
  (mRet (mSortItems (mCall p_shares_of Wish.no.RE (mCons (mVar 0) (mCons (mLc (iSq (mVar 1)) (mGN 3) (mCmpB (inD false) (mIx (mVar 3) (mC (.int 0))) (mVar 2)) (mVar 3) [3]) (mNil))))))
def b_shares (p_need_lot : PSp) (p_shares_of : PSp) : PSp := bodyD 3 N_shares (m_shares p_need_lot p_shares_of)
theorem ok_shares {P : Program} {w : World} {K : PySem.W.Frag} {mg : Str → Option Value} {base : Heap} (z : Zs K mg) {p_need_lot : PSp} {p_shares_of : PSp} (G_need_lot : Has P w K mg base 6 "need_lot" ["things", "folk", "lot"] (spD K mg 3 p_need_lot)) (G_shares_of : Has P w K mg base 4 "shares_of" ["things", "some"] (spD K mg 2 p_shares_of)) {f : Addr} {fd : FuncData} (F : Fun K "shares" "shares" s_shares f fd) :
    FnOk P w K mg base CX0 (6 + 1) f fd ["things", "folk", "lot"] (spD K mg 3 (b_shares p_need_lot p_shares_of)) := by
  have sc := sc_shares
  exact fn_okD F sc rfl fun cdv A outer s H E hr => by
    exact (gss_cons (gs_expr (g_callH G_need_lot hr (by rfl) ps0 (ga_cons (g_var (pv 0)) (ga_cons (g_var (pv 1)) (ga_cons (g_var (pv 2)) ga_nil)))))
      (gss_one (gs_ret (g_E (g_sortedItems (hu200 hr) rfl (g_C (g_callH G_shares_of (hr.mono (by omega)) (by rfl) ps0 (ga_cons (g_var (pv 0)) (ga_cons (g_E (gn_lc (own := [("one", 3)]) rfl sc.nd (gi_seq (g_var (pv 1))) (blkOk_by (own := [("one", 3)]) (N := N_shares) (sc := defScope s_shares) (by decide +kernel)) (fun _ _ _ _ _ => (gg_name (pg_name (i := 3) sc.nd rfl (by first | exact .inl rfl | exact .inr rfl)))) (fun _ _ _ _ _ => (gts_one (gt_cmp (cg_in (hu64 hr)) (g_ix (hu64 hr) (g_var (pv 3)) g_int (fun _ _ => rfl)) (g_C (g_var (pv 2))) rfl))) (fun _ _ _ _ _ => (g_var (pv 3))))) ga_nil)))) (by rfl) z.z_sorted)))))
/-! ### left_of -/
abbrev s_left_of : Stmt := top 41
abbrev N_left_of : List Str := ["things", "folk", "more", "some", "paid", "stays", "one"]
theorem sc_left_of : FnScope N_left_of ["things", "folk", "more"] (defScope s_left_of) := ⟨rfl, rfl, rfl, by decide +kernel, rfl, by decide +kernel, by decide +kernel⟩
def m_left_of (p_shares_of : PSp) (p_would_pay : PSp) : MS :=
  mSeq (mSet 3 (mCall1 listD (mVar 1)))
  (mWhile (mT (mC (.bool true)))
  (mSeq (mSet 4 (mCall p_shares_of Wish.no.RE (mCons (mVar 0) (mCons (mVar 3) (mNil)))))
  (mSeq (mSet 5 (mLc (iSq (mVar 3)) (mGN 6) (mT (mCall p_would_pay Wish.no.RE (mCons (mVar 6) (mCons (mIx (mVar 4) (mIx (mVar 6) (mC (.int 0)))) (mCons (mVar 2) (mNil)))))) (mVar 6) [6]))
  (mSeq (mIfS (mCmpB eqD (mCall1 lenD (mVar 5)) (mCall1 lenD (mVar 3)))
  (mRet (mVar 3))
  (mNx))
  (mSet 3 (mVar 5))))))
def b_left_of (p_shares_of : PSp) (p_would_pay : PSp) : PSp := bodyD 3 N_left_of (m_left_of p_shares_of p_would_pay)
theorem ok_left_of {P : Program} {w : World} {K : PySem.W.Frag} {mg : Str → Option Value} {base : Heap} (z : Zs K mg) {p_shares_of : PSp} {p_would_pay : PSp} (G_shares_of : Has P w K mg base 4 "shares_of" ["things", "some"] (spD K mg 2 p_shares_of)) (G_would_pay : Has P w K mg base 4 "would_pay" ["one", "share", "more"] (spD K mg 3 p_would_pay)) {f : Addr} {fd : FuncData} (F : Fun K "left_of" "left_of" s_left_of f fd) :
    FnOk P w K mg base CX0 (4 + 1) f fd ["things", "folk", "more"] (spD K mg 3 (b_left_of p_shares_of p_would_pay)) := by
  have sc := sc_left_of
  exact fn_okD F sc rfl fun cdv A outer s H E hr => by
    exact (gss_cons (gs_set (i := 3) sc.nd rfl (.inl rfl) (g_E (gn_t1 cn_list (by rfl) z.z_list boots_list (g_C (g_var (pv 1))))))
      (gss_one (gs_while PassesOwn.never (gt_val g_bl)
      (gss_cons (gs_set (i := 4) sc.nd rfl (.inr rfl) (g_callH G_shares_of hr (by rfl) ps0 (ga_cons (g_var (pv 0)) (ga_cons (g_var (pv 3)) ga_nil))))
      (gss_cons (gs_setLc (i := 5) (own := [("one", 6)]) rfl sc.nd rfl rfl (sw_true rfl rfl rfl (by decide +kernel)) (gi_seq (g_var (pv 3))) (blkOk_by (own := [("one", 6)]) (N := N_left_of) (sc := defScope s_left_of) (by decide +kernel)) (fun _ _ _ _ _ => (gg_name (pg_name (i := 6) sc.nd rfl (by first | exact .inl rfl | exact .inr rfl)))) (fun _ _ _ _ _ => (gts_one (gt_val (g_callH G_would_pay hr (by rfl) ps0 (ga_cons (g_var (pv 6)) (ga_cons (g_ix (hu64 hr) (g_var (pv 4)) (g_ix (hu64 hr) (g_var (pv 6)) g_int (fun _ _ => rfl)) (fun _ _ => rfl)) (ga_cons (g_var (pv 2)) ga_nil))))))) (fun _ _ _ _ _ => (g_var (pv 6))))
      (gss_cons (gs_if (gt_cmp (cg_eq (hu64 hr)) (g_b1 cg_len (by rfl) z.z_len boots_len (g_C (g_var (pv 5)))) (g_C (g_b1 cg_len (by rfl) z.z_len boots_len (g_C (g_var (pv 3))))) rfl)
      (gss_one (gs_ret (g_var (pv 3))))
      gss_nil)
      (gss_one (gs_set (i := 3) sc.nd rfl (.inl rfl) (g_var (pv 5))))))))))
/-! ### would_pay -/
abbrev s_would_pay : Stmt := top 42
abbrev N_would_pay : List Str := ["one", "share", "more", "extra"]
theorem sc_would_pay : FnScope N_would_pay ["one", "share", "more"] (defScope s_would_pay) := ⟨rfl, rfl, rfl, by decide +kernel, rfl, by decide +kernel, by decide +kernel⟩
def m_would_pay (p_is_less : PSp) (p_plus : PSp) : MS :=
  mSeq (mSet 3 (mGet (mVar 2) (mIx (mVar 0) (mC (.int 0))) (mC (.tuple [.int 0, .int 1]))))
  (mRet (mOrV (mIsN (mVar 3)) (mNotV (mCall p_is_less Wish.no.RE (mCons (mCall p_plus Wish.no.RE (mCons (mTup (mCons (mIx (mVar 0) (mC (.int 2))) (mCons (mC (.int 1)) (mNil)))) (mCons (mVar 3) (mNil)))) (mCons (mVar 1) (mNil)))))))
def b_would_pay (p_is_less : PSp) (p_plus : PSp) : PSp := bodyD 3 N_would_pay (m_would_pay p_is_less p_plus)
theorem ok_would_pay {P : Program} {w : World} {K : PySem.W.Frag} {mg : Str → Option Value} {base : Heap} (z : Zs K mg) {p_is_less : PSp} {p_plus : PSp} (G_is_less : Has P w K mg base 1 "is_less" ["one", "other"] (spD K mg 2 p_is_less)) (G_plus : Has P w K mg base 3 "plus" ["one", "other"] (spD K mg 2 p_plus)) {f : Addr} {fd : FuncData} (F : Fun K "would_pay" "would_pay" s_would_pay f fd) :
    FnOk P w K mg base CX0 (3 + 1) f fd ["one", "share", "more"] (spD K mg 3 (b_would_pay p_is_less p_plus)) := by
  have sc := sc_would_pay
  exact fn_okD F sc rfl fun cdv A outer s H E hr => by
    exact (gss_cons (gs_set (i := 3) sc.nd rfl (.inl rfl) (g_dget (hu64 hr) (g_var (pv 2)) (g_ix (hu64 hr) (g_var (pv 0)) g_int (fun _ _ => rfl)) (g_lit z.l_NOUGHT (by rfl)) ⟨rfl, rfl, rfl, rfl⟩))
      (gss_one (gs_ret (g_or (g_isN (g_var (pv 3))) (g_one (g_not (g_callH G_is_less (hr.mono (by omega)) (by rfl) ps0 (ga_cons (g_callH G_plus hr (by rfl) ps0 (ga_cons (g_tup (ga_cons (g_ix (hu64 hr) (g_var (pv 0)) g_int (fun _ _ => rfl)) (ga_cons g_int ga_nil))) (ga_cons (g_var (pv 3)) ga_nil))) (ga_cons (g_var (pv 1)) ga_nil)))))))))
/-! ### left -/
abbrev s_left : Stmt := top 43
abbrev N_left : List Str := ["things", "folk"]
theorem sc_left : FnScope N_left ["things", "folk"] (defScope s_left) := ⟨rfl, rfl, rfl, by decide +kernel, rfl, by decide +kernel, by decide +kernel⟩
def m_left (p_need_folk : PSp) (p_names_of : PSp) (p_left_of : PSp) : MS :=
  mSeq (mDrop (mCall p_need_folk Wish.no.RE (mCons (mVar 0) (mCons (mVar 1) (mNil)))))
  (mRet (mCall1 tupD (mCall p_names_of Wish.no.RE (mCons (mCall p_left_of Wish.no.RE (mCons (mVar 0) (mCons (mVar 1) (mCons (mDict0) (mNil))))) (mNil)))))
def b_left (p_need_folk : PSp) (p_names_of : PSp) (p_left_of : PSp) : PSp := bodyD 2 N_left (m_left p_need_folk p_names_of p_left_of)
theorem ok_left {P : Program} {w : World} {K : PySem.W.Frag} {mg : Str → Option Value} {base : Heap} (z : Zs K mg) {p_need_folk : PSp} {p_names_of : PSp} {p_left_of : PSp} (G_need_folk : Has P w K mg base 5 "need_folk" ["things", "folk"] (spD K mg 2 p_need_folk)) (G_names_of : Has P w K mg base 1 "names_of" ["folk"] (spD K mg 1 p_names_of)) (G_left_of : Has P w K mg base 5 "left_of" ["things", "folk", "more"] (spD K mg 3 p_left_of)) {f : Addr} {fd : FuncData} (F : Fun K "left" "left" s_left f fd) :
    FnOk P w K mg base CX0 (5 + 1) f fd ["things", "folk"] (spD K mg 2 (b_left p_need_folk p_names_of p_left_of)) := by
  have sc := sc_left
  exact fn_okD F sc rfl fun cdv A outer s H E hr => by
    exact (gss_cons (gs_expr (g_callH G_need_folk hr (by rfl) ps0 (ga_cons (g_var (pv 0)) (ga_cons (g_var (pv 1)) ga_nil))))
      (gss_one (gs_ret (g_t1 cg_tuple (by rfl) z.z_tuple boots_tuple (g_C (g_callH G_names_of (hr.mono (by omega)) (by rfl) ps0 (ga_cons (g_callH G_left_of hr (by rfl) ps0 (ga_cons (g_var (pv 0)) (ga_cons (g_var (pv 1)) (ga_cons (g_E gn_d0) ga_nil)))) ga_nil)))))))
/-! ### Book.__init__ -/
abbrev s_Book___init__ : Stmt := meth 45 0
abbrev N_Book___init__ : List Str := ["self", "things"]
theorem sc_Book___init__ : FnScope N_Book___init__ ["self", "things"] (defScope s_Book___init__) := ⟨rfl, rfl, rfl, by decide +kernel, rfl, by decide +kernel, by decide +kernel⟩
/-! ### Book.__len__ -/
abbrev s_Book___len__ : Stmt := meth 45 1
abbrev N_Book___len__ : List Str := ["self"]
theorem sc_Book___len__ : FnScope N_Book___len__ ["self"] (defScope s_Book___len__) := ⟨rfl, rfl, rfl, by decide +kernel, rfl, by decide +kernel, by decide +kernel⟩
def m_Book___len__ : MS :=
  mRet (mCall1 lenD (mIx (mLast 0) (mC (.int 1))))
def b_Book___len__ : PSp := bodyD 1 N_Book___len__ (m_Book___len__)
theorem ok_Book___len__ {P : Program} {w : World} {K : PySem.W.Frag} {mg : Str → Option Value} {base : Heap} (z : Zs K mg) {C : Addr} (B : BookK K C) {f : Addr} {fd : FuncData} (F : Fun K "__len__" "Book.__len__" s_Book___len__ f fd) :
    FnOk P w K mg base CX0 (0 + 1) f fd ["self"] (spD K mg 1 (b_Book___len__)) := by
  have sc := sc_Book___len__
  exact fn_okD F sc rfl fun cdv A outer s H E hr => by
    exact (gss_one (gs_ret (g_b1 cg_len (by rfl) z.z_len boots_len (g_C (g_ix (hu64 hr) (g_rowsLast B (hu64 hr) (pv 0)) g_int (fun _ _ => rfl))))))
/-! ### Book.__eq__ -/
abbrev s_Book___eq__ : Stmt := meth 45 2
abbrev N_Book___eq__ : List Str := ["self", "other"]
theorem sc_Book___eq__ : FnScope N_Book___eq__ ["self", "other"] (defScope s_Book___eq__) := ⟨rfl, rfl, rfl, by decide +kernel, rfl, by decide +kernel, by decide +kernel⟩
/-! ### Book.need_name -/
abbrev s_Book_need_name : Stmt := meth 45 3
abbrev N_Book_need_name : List Str := ["self", "name"]
theorem sc_Book_need_name : FnScope N_Book_need_name ["self", "name"] (defScope s_Book_need_name) := ⟨rfl, rfl, rfl, by decide +kernel, rfl, by decide +kernel, by decide +kernel⟩
def m_Book_need_name (p_names_of : PSp) : MX :=
  xIf (mOr (mNot (mT (mIsi "str" (mVar 1)))) (mCmpB (inD true) (mVar 1) (mCall p_names_of Wish.no.RE (mCons (mIx (mLast 0) (mC (.int 1))) (mNil)))))
  (xRaise "NotThere")
  (xNx)
def b_Book_need_name (p_names_of : PSp) : PSp := bodyX 2 N_Book_need_name (m_Book_need_name p_names_of)
theorem ok_Book_need_name {P : Program} {w : World} {K : PySem.W.Frag} {mg : Str → Option Value} {base : Heap} (z : Zs K mg) {p_names_of : PSp} {C : Addr} (B : BookK K C) (G_names_of : Has P w K mg base 1 "names_of" ["folk"] (spD K mg 1 p_names_of)) {f : Addr} {fd : FuncData} (F : Fun K "need_name" "Book.need_name" s_Book_need_name f fd) :
    FnOk P w K mg base (L2N.CX P w) (1 + 1) f fd ["self", "name"] (spX K mg 2 (b_Book_need_name p_names_of)) := by
  have sc := sc_Book_need_name
  exact fn_okX F sc rfl fun cdv A outer s H E hr => by
    exact (gxs_one (gx_if (gw_or (gt_not (gt_val (g_isi (T := "str") (by decide) (by rfl) z.z_isinstance (g_var (pv 1)) (by rfl) z.z_str boots_str))) (gw_or1 (gt_cmp (cg_notIn (hu64 hr)) (g_var (pv 1)) (g_C (g_callH G_names_of hr (by rfl) ps0 (ga_cons (g_ix (hu64 hr) (g_rowsLast B (hu64 hr) (pv 0)) g_int (fun _ _ => rfl)) ga_nil))) rfl))).pt
      (gxs_one (gx_raise rfl (L2N.takes_of rfl rfl rfl rfl) z.e_NotThere (by rfl)))
      gxs_nil))
/-! ### Book.come -/
abbrev s_Book_come : Stmt := meth 45 4
abbrev N_Book_come : List Str := ["self", "one", "things", "folk"]
theorem sc_Book_come : FnScope N_Book_come ["self", "one"] (defScope s_Book_come) := ⟨rfl, rfl, rfl, by decide +kernel, rfl, by decide +kernel, by decide +kernel⟩
def m_Book_come (p_is_one : PSp) (p_names_of : PSp) : MX :=
  xSeq (xS (mAsg (mLast 0) (mGT [mGN 2, mGN 3])))
  (xSeq (xIf (mNot (mT (mCall p_is_one Wish.no.RE (mCons (mVar 2) (mCons (mVar 1) (mNil))))))
  (xRaise "NoOne")
  (xNx))
  (xSeq (xIf (mCmpB (inD false) (mIx (mVar 1) (mC (.int 0))) (mCall p_names_of Wish.no.RE (mCons (mVar 3) (mNil))))
  (xRaise "Taken")
  (xNx))
  (xSeq (xIf (mCmpB eqD (mCall1 lenD (mVar 3)) (mC (.int 8)))
  (xRaise "Full")
  (xNx))
  (xS (mDrop (mObMut 0 appendD (mCons (mTup (mCons (mVar 2) (mCons (mCall1 tupD (mCall1 sortedD (mBin addD (mVar 3) (mTup (mCons (mVar 1) (mNil)))))) (mNil)))) (mNil))))))))
def b_Book_come (p_is_one : PSp) (p_names_of : PSp) : PSp := bodyX 2 N_Book_come (m_Book_come p_is_one p_names_of)
theorem ok_Book_come {P : Program} {w : World} {K : PySem.W.Frag} {mg : Str → Option Value} {base : Heap} (z : Zs K mg) {p_is_one : PSp} {p_names_of : PSp} {C : Addr} (B : BookK K C) (G_is_one : Has P w K mg base 3 "is_one" ["things", "thing"] (spD K mg 2 p_is_one)) (G_names_of : Has P w K mg base 1 "names_of" ["folk"] (spD K mg 1 p_names_of)) {f : Addr} {fd : FuncData} (F : Fun K "come" "Book.come" s_Book_come f fd) :
    FnOk P w K mg base (L2N.CX P w) (3 + 1) f fd ["self", "one"] (spX K mg 2 (b_Book_come p_is_one p_names_of)) := by
  have sc := sc_Book_come
  exact fn_okX F sc rfl fun cdv A outer s H E hr => by
    exact (gxs_cons (gx_of (gs_asg (g_rowsLast B (hu64 hr) (pv 0)) (gg_tup rfl (ggs_cons (gg_name (pg_name (i := 2) sc.nd rfl (.inl rfl))) (ggs_cons (gg_name (pg_name (i := 3) sc.nd rfl (.inl rfl))) ggs_nil)))))
      (gxs_cons (gx_if (gt_not (gt_val (g_callH G_is_one hr (by rfl) ps0 (ga_cons (g_var (pv 2)) (ga_cons (g_var (pv 1)) ga_nil)))))
      (gxs_one (gx_raise rfl (L2N.takes_of rfl rfl rfl rfl) z.e_NoOne (by rfl)))
      gxs_nil)
      (gxs_cons (gx_if (gt_cmp (cg_in (hu64 hr)) (g_ix (hu64 hr) (g_var (pv 1)) g_int (fun _ _ => rfl)) (g_C (g_callH G_names_of (hr.mono (by omega)) (by rfl) ps0 (ga_cons (g_var (pv 3)) ga_nil))) rfl)
      (gxs_one (gx_raise rfl (L2N.takes_of rfl rfl rfl rfl) z.e_Taken (by rfl)))
      gxs_nil)
      (gxs_cons (gx_if (gt_cmp (cg_eq (hu64 hr)) (g_b1 cg_len (by rfl) z.z_len boots_len (g_C (g_var (pv 3)))) (g_C (g_lit z.l_MOST (by rfl))) rfl)
      (gxs_one (gx_raise rfl (L2N.takes_of rfl rfl rfl rfl) z.e_Full (by rfl)))
      gxs_nil)
      (gxs_one (gx_of (gs_expr (g_obMut B mr_append (ga_cons (g_tup (ga_cons (g_var (pv 2)) (ga_cons (g_t1 cg_tuple (by rfl) z.z_tuple boots_tuple (g_C (g_E (gn_b1 (cn_sorted (hu200 hr) rfl) (by rfl) z.z_sorted boots_sorted (g_C (g_bin og_add (g_var (pv 3)) (g_tup (ga_cons (g_var (pv 1)) ga_nil)))))))) ga_nil))) ga_nil) (pe_bm PySem.F.plainAttrs_list PySem.F.slot_list_append PySem.F.type_list_append mt_append (pe_fld (pv 0) rfl) (ga_cons (g_tup (ga_cons (g_var (pv 2)) (ga_cons (g_t1 cg_tuple (by rfl) z.z_tuple boots_tuple (g_C (g_E (gn_b1 (cn_sorted (hu200 hr) rfl) (by rfl) z.z_sorted boots_sorted (g_C (g_bin og_add (g_var (pv 3)) (g_tup (ga_cons (g_var (pv 1)) ga_nil)))))))) ga_nil))) ga_nil))))))))))
/-! ### Book.go -/
abbrev s_Book_go : Stmt := meth 45 5
abbrev N_Book_go : List Str := ["self", "name", "things", "folk", "one"]
theorem sc_Book_go : FnScope N_Book_go ["self", "name"] (defScope s_Book_go) := ⟨rfl, rfl, rfl, by decide +kernel, rfl, by decide +kernel, by decide +kernel⟩
def m_Book_go (p_Book_need_name : PSp) : MX :=
  xSeq (xMeth p_Book_need_name 0 (mCons (mVar 1) (mNil)))
  (xSeq (xS (mAsg (mLast 0) (mGT [mGN 2, mGN 3])))
  (xS (mDrop (mObMut 0 appendD (mCons (mTup (mCons (mVar 2) (mCons (mCall1 tupD (mLc (iSq (mVar 3)) (mGN 4) (mCmpB neD (mIx (mVar 4) (mC (.int 0))) (mVar 1)) (mVar 4) [4])) (mNil)))) (mNil))))))
def b_Book_go (p_Book_need_name : PSp) : PSp := bodyX 2 N_Book_go (m_Book_go p_Book_need_name)
theorem ok_Book_go {P : Program} {w : World} {K : PySem.W.Frag} {mg : Str → Option Value} {base : Heap} (z : Zs K mg) {p_Book_need_name : PSp} {C : Addr} (B : BookK K C) (G_Book_need_name : HasM P w K mg base (L2N.CX P w) 2 C "need_name" ["self", "name"] (spX K mg 2 p_Book_need_name)) {f : Addr} {fd : FuncData} (F : Fun K "go" "Book.go" s_Book_go f fd) :
    FnOk P w K mg base (L2N.CX P w) (2 + 1) f fd ["self", "name"] (spX K mg 2 (b_Book_go p_Book_need_name)) := by
  have sc := sc_Book_go
  exact fn_okX F sc rfl fun cdv A outer s H E hr => by
    exact (gxs_cons (gx_meth B G_Book_need_name hr (L2N.passes_call (L2N.takes_of rfl rfl rfl rfl) fun _ _ _ _ h => h) rfl (pv 0) (ga_cons (g_var (pv 1)) ga_nil))
      (gxs_cons (gx_of (gs_asg (g_rowsLast B (hu64 hr) (pv 0)) (gg_tup rfl (ggs_cons (gg_name (pg_name (i := 2) sc.nd rfl (.inl rfl))) (ggs_cons (gg_name (pg_name (i := 3) sc.nd rfl (.inl rfl))) ggs_nil)))))
      (gxs_one (gx_of (gs_expr (g_obMut B mr_append (ga_cons (g_tup (ga_cons (g_var (pv 2)) (ga_cons (g_t1 cg_tuple (by rfl) z.z_tuple boots_tuple (g_C (g_E (gn_lc (own := [("one", 4)]) rfl sc.nd (gi_seq (g_var (pv 3))) (blkOk_by (own := [("one", 4)]) (N := N_Book_go) (sc := defScope s_Book_go) (by decide +kernel)) (fun _ _ _ _ _ => (gg_name (pg_name (i := 4) sc.nd rfl (by first | exact .inl rfl | exact .inr rfl)))) (fun _ _ _ _ _ => (gts_one (gt_cmp (cg_ne (hu64 hr)) (g_ix (hu64 hr) (g_var (pv 4)) g_int (fun _ _ => rfl)) (g_C (g_var (pv 1))) rfl))) (fun _ _ _ _ _ => (g_var (pv 4))))))) ga_nil))) ga_nil) (pe_bm PySem.F.plainAttrs_list PySem.F.slot_list_append PySem.F.type_list_append mt_append (pe_fld (pv 0) rfl) (ga_cons (g_tup (ga_cons (g_var (pv 2)) (ga_cons (g_t1 cg_tuple (by rfl) z.z_tuple boots_tuple (g_C (g_E (gn_lc (own := [("one", 4)]) rfl sc.nd (gi_seq (g_var (pv 3))) (blkOk_by (own := [("one", 4)]) (N := N_Book_go) (sc := defScope s_Book_go) (by decide +kernel)) (fun _ _ _ _ _ => (gg_name (pg_name (i := 4) sc.nd rfl (by first | exact .inl rfl | exact .inr rfl)))) (fun _ _ _ _ _ => (gts_one (gt_cmp (cg_ne (hu64 hr)) (g_ix (hu64 hr) (g_var (pv 4)) g_int (fun _ _ => rfl)) (g_C (g_var (pv 1))) rfl))) (fun _ _ _ _ _ => (g_var (pv 4))))))) ga_nil))) ga_nil))))))))
/-! ### Book.say -/
abbrev s_Book_say : Stmt := meth 45 6
abbrev N_Book_say : List Str := ["self", "name", "worth", "things", "folk", "some", "one"]
theorem sc_Book_say : FnScope N_Book_say ["self", "name", "worth"] (defScope s_Book_say) := ⟨rfl, rfl, rfl, by decide +kernel, rfl, by decide +kernel, by decide +kernel⟩
def m_Book_say (p_Book_need_name : PSp) (p_is_number : PSp) : MX :=
  xSeq (xMeth p_Book_need_name 0 (mCons (mVar 1) (mNil)))
  (xSeq (xIf (mNot (mT (mCall p_is_number Wish.no.RE (mCons (mVar 2) (mNil)))))
  (xRaise "NoWorth")
  (xNx))
  (xSeq (xS (mAsg (mLast 0) (mGT [mGN 3, mGN 4])))
  (xSeq (xS (mSet 5 (mLc (iSq (mVar 4)) (mGN 6) (mYes) (mIf (mCmpB eqD (mIx (mVar 6) (mC (.int 0))) (mVar 1)) (mBin addD (mBin addD (mSl (mVar 6) mNo (mPart (mC (.int 2)))) (mTup (mCons (mVar 2) (mNil)))) (mSl (mVar 6) (mPart (mC (.int 3))) mNo)) (mVar 6)) [6])))
  (xS (mDrop (mObMut 0 appendD (mCons (mTup (mCons (mVar 3) (mCons (mCall1 tupD (mVar 5)) (mNil)))) (mNil))))))))
def b_Book_say (p_Book_need_name : PSp) (p_is_number : PSp) : PSp := bodyX 3 N_Book_say (m_Book_say p_Book_need_name p_is_number)
theorem ok_Book_say {P : Program} {w : World} {K : PySem.W.Frag} {mg : Str → Option Value} {base : Heap} (z : Zs K mg) {p_Book_need_name : PSp} {p_is_number : PSp} {C : Addr} (B : BookK K C) (G_Book_need_name : HasM P w K mg base (L2N.CX P w) 2 C "need_name" ["self", "name"] (spX K mg 2 p_Book_need_name)) (G_is_number : Has P w K mg base 2 "is_number" ["thing"] (spD K mg 1 p_is_number)) {f : Addr} {fd : FuncData} (F : Fun K "say" "Book.say" s_Book_say f fd) :
    FnOk P w K mg base (L2N.CX P w) (2 + 1) f fd ["self", "name", "worth"] (spX K mg 3 (b_Book_say p_Book_need_name p_is_number)) := by
  have sc := sc_Book_say
  exact fn_okX F sc rfl fun cdv A outer s H E hr => by
    exact (gxs_cons (gx_meth B G_Book_need_name hr (L2N.passes_call (L2N.takes_of rfl rfl rfl rfl) fun _ _ _ _ h => h) rfl (pv 0) (ga_cons (g_var (pv 1)) ga_nil))
      (gxs_cons (gx_if (gt_not (gt_val (g_callH G_is_number hr (by rfl) ps0 (ga_cons (g_var (pv 2)) ga_nil))))
      (gxs_one (gx_raise rfl (L2N.takes_of rfl rfl rfl rfl) z.e_NoWorth (by rfl)))
      gxs_nil)
      (gxs_cons (gx_of (gs_asg (g_rowsLast B (hu64 hr) (pv 0)) (gg_tup rfl (ggs_cons (gg_name (pg_name (i := 3) sc.nd rfl (.inl rfl))) (ggs_cons (gg_name (pg_name (i := 4) sc.nd rfl (.inl rfl))) ggs_nil)))))
      (gxs_cons (gx_of (gs_setLc (i := 5) (own := [("one", 6)]) rfl sc.nd rfl rfl (sw_true rfl rfl rfl (by decide +kernel)) (gi_seq (g_var (pv 4))) (blkOk_by (own := [("one", 6)]) (N := N_Book_say) (sc := defScope s_Book_say) (by decide +kernel)) (fun _ _ _ _ _ => (gg_name (pg_name (i := 6) sc.nd rfl (by first | exact .inl rfl | exact .inr rfl)))) (fun _ _ _ _ _ => gts_nil) (fun _ _ _ _ _ => (g_if (gt_cmp (cg_eq (hu64 hr)) (g_ix (hu64 hr) (g_var (pv 6)) g_int (fun _ _ => rfl)) (g_C (g_var (pv 1))) rfl) (g_bin og_add (g_bin og_add (g_sl (g_var (pv 6)) go_none (go_some g_int)) (g_tup (ga_cons (g_var (pv 2)) ga_nil))) (g_sl (g_var (pv 6)) (go_some g_int) go_none)) (g_var (pv 6))))))
      (gxs_one (gx_of (gs_expr (g_obMut B mr_append (ga_cons (g_tup (ga_cons (g_var (pv 3)) (ga_cons (g_t1 cg_tuple (by rfl) z.z_tuple boots_tuple (g_C (g_var (pv 5)))) ga_nil))) ga_nil) (pe_bm PySem.F.plainAttrs_list PySem.F.slot_list_append PySem.F.type_list_append mt_append (pe_fld (pv 0) rfl) (ga_cons (g_tup (ga_cons (g_var (pv 3)) (ga_cons (g_t1 cg_tuple (by rfl) z.z_tuple boots_tuple (g_C (g_var (pv 5)))) ga_nil))) ga_nil))))))))))
/-! ### Book.price -/
abbrev s_Book_price : Stmt := meth 45 7
abbrev N_Book_price : List Str := ["self", "thing", "cost", "things", "folk", "one", "other"]
theorem sc_Book_price : FnScope N_Book_price ["self", "thing", "cost"] (defScope s_Book_price) := ⟨rfl, rfl, rfl, by decide +kernel, rfl, by decide +kernel, by decide +kernel⟩
def m_Book_price (p_is_number : PSp) : MX :=
  xSeq (xS (mAsg (mLast 0) (mGT [mGN 3, mGN 4])))
  (xSeq (xIf (mOr (mNot (mT (mIsi "str" (mVar 1)))) (mCmpB (inD true) (mVar 1) (mLc (iSq (mVar 3)) (mGN 5) (mYes) (mIx (mVar 5) (mC (.int 0))) [5])))
  (xRaise "NoThing")
  (xNx))
  (xSeq (xIf (mNot (mT (mCall p_is_number Wish.no.RE (mCons (mVar 2) (mNil)))))
  (xRaise "NoCost")
  (xNx))
  (xS (mDrop (mObMut 0 appendD (mCons (mTup (mCons (mCall1 tupD (mLc (iSq (mVar 3)) (mGT [mGN 5, mGN 6]) (mYes) (mTup (mCons (mVar 5) (mCons (mIf (mCmpB eqD (mVar 5) (mVar 1)) (mVar 2) (mVar 6)) (mNil)))) [5, 6])) (mCons (mVar 4) (mNil)))) (mNil)))))))
def b_Book_price (p_is_number : PSp) : PSp := bodyX 3 N_Book_price (m_Book_price p_is_number)
theorem ok_Book_price {P : Program} {w : World} {K : PySem.W.Frag} {mg : Str → Option Value} {base : Heap} (z : Zs K mg) {p_is_number : PSp} {C : Addr} (B : BookK K C) (G_is_number : Has P w K mg base 2 "is_number" ["thing"] (spD K mg 1 p_is_number)) {f : Addr} {fd : FuncData} (F : Fun K "price" "Book.price" s_Book_price f fd) :
    FnOk P w K mg base (L2N.CX P w) (2 + 1) f fd ["self", "thing", "cost"] (spX K mg 3 (b_Book_price p_is_number)) := by
  have sc := sc_Book_price
  exact fn_okX F sc rfl fun cdv A outer s H E hr => by
    exact (gxs_cons (gx_of (gs_asg (g_rowsLast B (hu64 hr) (pv 0)) (gg_tup rfl (ggs_cons (gg_name (pg_name (i := 3) sc.nd rfl (.inl rfl))) (ggs_cons (gg_name (pg_name (i := 4) sc.nd rfl (.inl rfl))) ggs_nil)))))
      (gxs_cons (gx_if (gw_or (gt_not (gt_val (g_isi (T := "str") (by decide) (by rfl) z.z_isinstance (g_var (pv 1)) (by rfl) z.z_str boots_str))) (gw_or1 (gt_cmp (cg_notIn (hu64 hr)) (g_var (pv 1)) (g_C (g_E (gn_lc (own := [("one", 5)]) rfl sc.nd (gi_seq (g_var (pv 3))) (blkOk_by (own := [("one", 5)]) (N := N_Book_price) (sc := defScope s_Book_price) (by decide +kernel)) (fun _ _ _ _ _ => (gg_name (pg_name (i := 5) sc.nd rfl (by first | exact .inl rfl | exact .inr rfl)))) (fun _ _ _ _ _ => gts_nil) (fun _ _ _ _ _ => (g_ix (hu64 hr) (g_var (pv 5)) g_int (fun _ _ => rfl)))))) rfl))).pt
      (gxs_one (gx_raise rfl (L2N.takes_of rfl rfl rfl rfl) z.e_NoThing (by rfl)))
      gxs_nil)
      (gxs_cons (gx_if (gt_not (gt_val (g_callH G_is_number hr (by rfl) ps0 (ga_cons (g_var (pv 2)) ga_nil))))
      (gxs_one (gx_raise rfl (L2N.takes_of rfl rfl rfl rfl) z.e_NoCost (by rfl)))
      gxs_nil)
      (gxs_one (gx_of (gs_expr (g_obMut B mr_append (ga_cons (g_tup (ga_cons (g_t1 cg_tuple (by rfl) z.z_tuple boots_tuple (g_C (g_E (gn_lc (own := [("one", 5), ("other", 6)]) rfl sc.nd (gi_seq (g_var (pv 3))) (blkOk_by (own := [("one", 5), ("other", 6)]) (N := N_Book_price) (sc := defScope s_Book_price) (by decide +kernel)) (fun _ _ _ _ _ => (gg_tup rfl (ggs_cons (gg_name (pg_name (i := 5) sc.nd rfl (by first | exact .inl rfl | exact .inr rfl))) (ggs_cons (gg_name (pg_name (i := 6) sc.nd rfl (by first | exact .inl rfl | exact .inr rfl))) ggs_nil)))) (fun _ _ _ _ _ => gts_nil) (fun _ _ _ _ _ => (g_tup (ga_cons (g_var (pv 5)) (ga_cons (g_if (gt_cmp (cg_eq (hu64 hr)) (g_var (pv 5)) (g_C (g_var (pv 1))) rfl) (g_var (pv 2)) (g_var (pv 6))) ga_nil)))))))) (ga_cons (g_var (pv 4)) ga_nil))) ga_nil) (pe_bm PySem.F.plainAttrs_list PySem.F.slot_list_append PySem.F.type_list_append mt_append (pe_fld (pv 0) rfl) (ga_cons (g_tup (ga_cons (g_t1 cg_tuple (by rfl) z.z_tuple boots_tuple (g_C (g_E (gn_lc (own := [("one", 5), ("other", 6)]) rfl sc.nd (gi_seq (g_var (pv 3))) (blkOk_by (own := [("one", 5), ("other", 6)]) (N := N_Book_price) (sc := defScope s_Book_price) (by decide +kernel)) (fun _ _ _ _ _ => (gg_tup rfl (ggs_cons (gg_name (pg_name (i := 5) sc.nd rfl (by first | exact .inl rfl | exact .inr rfl))) (ggs_cons (gg_name (pg_name (i := 6) sc.nd rfl (by first | exact .inl rfl | exact .inr rfl))) ggs_nil)))) (fun _ _ _ _ _ => gts_nil) (fun _ _ _ _ _ => (g_tup (ga_cons (g_var (pv 5)) (ga_cons (g_if (gt_cmp (cg_eq (hu64 hr)) (g_var (pv 5)) (g_C (g_var (pv 1))) rfl) (g_var (pv 2)) (g_var (pv 6))) ga_nil)))))))) (ga_cons (g_var (pv 4)) ga_nil))) ga_nil)))))))))
/-! ### Book.back -/
abbrev s_Book_back : Stmt := meth 45 8
abbrev N_Book_back : List Str := ["self"]
theorem sc_Book_back : FnScope N_Book_back ["self"] (defScope s_Book_back) := ⟨rfl, rfl, rfl, by decide +kernel, rfl, by decide +kernel, by decide +kernel⟩
def m_Book_back : MX :=
  xSeq (xIf (mCmpB eqD (mCall1 lenD (mRows 0)) (mC (.int 1)))
  (xRaise "NothingLeft")
  (xNx))
  (xS (mDrop (mObMut 0 popD mNil)))
def b_Book_back : PSp := bodyX 1 N_Book_back (m_Book_back)
theorem ok_Book_back {P : Program} {w : World} {K : PySem.W.Frag} {mg : Str → Option Value} {base : Heap} (z : Zs K mg) {C : Addr} (B : BookK K C) {f : Addr} {fd : FuncData} (F : Fun K "back" "Book.back" s_Book_back f fd) :
    FnOk P w K mg base (L2N.CX P w) (0 + 1) f fd ["self"] (spX K mg 1 (b_Book_back)) := by
  have sc := sc_Book_back
  exact fn_okX F sc rfl fun cdv A outer s H E hr => by
    exact (gxs_cons (gx_if (gt_cmp (cg_eq (hu64 hr)) (g_b1 cg_len (by rfl) z.z_len boots_len (g_rows B (pv 0))) (g_C g_int) rfl)
      (gxs_one (gx_raise rfl (L2N.takes_of rfl rfl rfl rfl) z.e_NothingLeft (by rfl)))
      gxs_nil)
      (gxs_one (gx_of (gs_expr (g_obMut0 B mr_pop (pe_bm0 PySem.F.plainAttrs_list PySem.F.slot_list_pop PySem.F.type_list_pop mt_pop (pe_fld (pv 0) rfl)))))))
/-! ### Book.things -/
abbrev s_Book_things : Stmt := meth 45 9
abbrev N_Book_things : List Str := ["self"]
theorem sc_Book_things : FnScope N_Book_things ["self"] (defScope s_Book_things) := ⟨rfl, rfl, rfl, by decide +kernel, rfl, by decide +kernel, by decide +kernel⟩
def m_Book_things : MS :=
  mRet (mIx (mLast 0) (mC (.int 0)))
def b_Book_things : PSp := bodyD 1 N_Book_things (m_Book_things)
theorem ok_Book_things {P : Program} {w : World} {K : PySem.W.Frag} {mg : Str → Option Value} {base : Heap} (z : Zs K mg) {C : Addr} (B : BookK K C) {f : Addr} {fd : FuncData} (F : Fun K "things" "Book.things" s_Book_things f fd) :
    FnOk P w K mg base CX0 (0 + 1) f fd ["self"] (spD K mg 1 (b_Book_things)) := by
  have sc := sc_Book_things
  exact fn_okD F sc rfl fun cdv A outer s H E hr => by
    exact (gss_one (gs_ret (g_ix (hu64 hr) (g_rowsLast B (hu64 hr) (pv 0)) g_int (fun _ _ => rfl))))
/-! ### Book.folk -/
abbrev s_Book_folk : Stmt := meth 45 10
abbrev N_Book_folk : List Str := ["self"]
theorem sc_Book_folk : FnScope N_Book_folk ["self"] (defScope s_Book_folk) := ⟨rfl, rfl, rfl, by decide +kernel, rfl, by decide +kernel, by decide +kernel⟩
def m_Book_folk : MS :=
  mRet (mIx (mLast 0) (mC (.int 1)))
def b_Book_folk : PSp := bodyD 1 N_Book_folk (m_Book_folk)
theorem ok_Book_folk {P : Program} {w : World} {K : PySem.W.Frag} {mg : Str → Option Value} {base : Heap} (z : Zs K mg) {C : Addr} (B : BookK K C) {f : Addr} {fd : FuncData} (F : Fun K "folk" "Book.folk" s_Book_folk f fd) :
    FnOk P w K mg base CX0 (0 + 1) f fd ["self"] (spD K mg 1 (b_Book_folk)) := by
  have sc := sc_Book_folk
  exact fn_okD F sc rfl fun cdv A outer s H E hr => by
    exact (gss_one (gs_ret (g_ix (hu64 hr) (g_rowsLast B (hu64 hr) (pv 0)) g_int (fun _ _ => rfl))))
/-! ### Book.left -/
abbrev s_Book_left : Stmt := meth 45 11
abbrev N_Book_left : List Str := ["self", "things", "folk"]
theorem sc_Book_left : FnScope N_Book_left ["self"] (defScope s_Book_left) := ⟨rfl, rfl, rfl, by decide +kernel, rfl, by decide +kernel, by decide +kernel⟩
def m_Book_left (p_shares_of : PSp) (p_left_of : PSp) : MS :=
  mSeq (mAsg (mLast 0) (mGT [mGN 1, mGN 2]))
  (mRetN (mSortItems (mCall p_shares_of Wish.no.RE (mCons (mVar 1) (mCons (mCall p_left_of Wish.no.RE (mCons (mVar 1) (mCons (mVar 2) (mCons (mDict0) (mNil))))) (mNil))))))
def b_Book_left (p_shares_of : PSp) (p_left_of : PSp) : PSp := bodyN 1 N_Book_left (m_Book_left p_shares_of p_left_of)
theorem ok_Book_left {P : Program} {w : World} {K : PySem.W.Frag} {mg : Str → Option Value} {base : Heap} (z : Zs K mg) {p_shares_of : PSp} {p_left_of : PSp} {C : Addr} (B : BookK K C) (G_shares_of : Has P w K mg base 4 "shares_of" ["things", "some"] (spD K mg 2 p_shares_of)) (G_left_of : Has P w K mg base 5 "left_of" ["things", "folk", "more"] (spD K mg 3 p_left_of)) {f : Addr} {fd : FuncData} (F : Fun K "left" "Book.left" s_Book_left f fd) :
    FnOk P w K mg base CX0 (5 + 1) f fd ["self"] (spN K mg 1 (b_Book_left p_shares_of p_left_of)) := by
  have sc := sc_Book_left
  exact fn_okN F sc rfl fun cdv A outer s H E hr => by
    exact (gss_cons (gs_asg (g_rowsLast B (hu64 hr) (pv 0)) (gg_tup rfl (ggs_cons (gg_name (pg_name (i := 1) sc.nd rfl (.inl rfl))) (ggs_cons (gg_name (pg_name (i := 2) sc.nd rfl (.inl rfl))) ggs_nil))))
      (gss_one (gs_retN (g_sortedItems (hu200 hr) rfl (g_C (g_callH G_shares_of (hr.mono (by omega)) (by rfl) ps0 (ga_cons (g_var (pv 1)) (ga_cons (g_callH G_left_of hr (by rfl) ps0 (ga_cons (g_var (pv 1)) (ga_cons (g_var (pv 2)) (ga_cons (g_E gn_d0) ga_nil)))) ga_nil)))) (by rfl) z.z_sorted))))
/-! ### _law_well -/
abbrev s__law_well : Stmt := top 47
abbrev N__law_well : List Str := ["script", "k", "cell", "primes", "seed"]
theorem sc__law_well : FnScope N__law_well ["script", "k"] (defScope s__law_well) := ⟨rfl, rfl, rfl, by decide +kernel, rfl, by decide +kernel, by decide +kernel⟩
def m__law_well : MS :=
  mSeq (mSet 2 (mC (.int 0)))
  (mSeq (mIfS (mCmpB ltD (mVar 1) (mLenS 0))
  (mSet 2 (mIxV 0 (mVar 1)))
  (mNx))
  (mSeq (mSet 3 (mLst (mCons (mC (.int 2147483647)) (mCons (mC (.int 2147483629)) (mCons (mC (.int 2147483587)) (mCons (mC (.int 2147483579)) (mCons (mC (.int 2147483563)) (mCons (mC (.int 2147483549)) (mCons (mC (.int 2147483543)) (mCons (mC (.int 2147483497)) (mNil)))))))))))
  (mSeq (mSet 4 (mBin modD (mBin mulD (mBin addD (mBin modD (mVar 2) (mC (.int 2147483489))) (mC (.int 1))) (mBin addD (mC (.int 48271)) (mBin mulD (mC (.int 2)) (mVar 1)))) (mC (.int 2147483489))))
  (mSeq (mSet 4 (mBin addD (mBin addD (mBin modD (mBin mulD (mVar 4) (mVar 4)) (mC (.int 2147483477))) (mVar 1)) (mC (.int 1))))
  (mSeq (mIfS (mCmpB geD (mVar 2) (mBin powD (mC (.int 10)) (mC (.int 18))))
  (mRetN (mLst (mCons (mVar 2) (mCons (mVar 4) (mCons (mIx (mVar 3) (mBin modD (mVar 1) (mC (.int 8)))) (mNil))))))
  (mNx))
  (mRetN (mLst (mCons (mC (.int 0)) (mCons (mVar 4) (mCons (mIx (mVar 3) (mBin modD (mVar 1) (mC (.int 8)))) (mNil)))))))))))
def b__law_well : PSp := bodyN 2 N__law_well (m__law_well)
theorem ok__law_well {P : Program} {w : World} {K : PySem.W.Frag} {mg : Str → Option Value} {base : Heap} (z : Zs K mg) {f : Addr} {fd : FuncData} (F : Fun K "_law_well" "_law_well" s__law_well f fd) :
    FnOk P w K mg base CX0 (0 + 1) f fd ["script", "k"] (spN K mg 2 (b__law_well)) := by
  have sc := sc__law_well
  exact fn_okN F sc rfl fun cdv A outer s H E hr => by
    exact (gss_cons (gs_set (i := 2) sc.nd rfl (.inl rfl) g_int)
      (gss_cons (gs_if (gt_cmp cg_lt (g_var (pv 1)) (g_C (g_lenS (by rfl) z.z_len (pv 0))) rfl)
      (gss_one (gs_set (i := 2) sc.nd rfl (.inl rfl) (g_ixV (hu64 hr) (pv 0) (g_var (pv 1)) (fun _ _ => rfl))))
      gss_nil)
      (gss_cons (gs_set (i := 3) sc.nd rfl (.inl rfl) (g_E (gn_lst (ga_cons g_int (ga_cons g_int (ga_cons g_int (ga_cons g_int (ga_cons g_int (ga_cons g_int (ga_cons g_int (ga_cons g_int ga_nil)))))))))))
      (gss_cons (gs_set (i := 4) sc.nd rfl (.inl rfl) (g_bin og_mod (g_bin og_mul (g_bin og_add (g_bin og_mod (g_var (pv 2)) g_int) g_int) (g_bin og_add g_int (g_bin og_mul g_int (g_var (pv 1))))) g_int))
      (gss_cons (gs_set (i := 4) sc.nd rfl (.inl rfl) (g_bin og_add (g_bin og_add (g_bin og_mod (g_bin og_mul (g_var (pv 4)) (g_var (pv 4))) g_int) (g_var (pv 1))) g_int))
      (gss_cons (gs_if (gt_cmp cg_ge (g_var (pv 2)) (g_C (g_bin og_pow g_int g_int)) rfl)
      (gss_one (gs_retN (gn_lst (ga_cons (g_var (pv 2)) (ga_cons (g_var (pv 4)) (ga_cons (g_ix (hu64 hr) (g_var (pv 3)) (g_bin og_mod (g_var (pv 1)) g_int) (fun _ _ => rfl)) ga_nil))))))
      gss_nil)
      (gss_one (gs_retN (gn_lst (ga_cons g_int (ga_cons (g_var (pv 4)) (ga_cons (g_ix (hu64 hr) (g_var (pv 3)) (g_bin og_mod (g_var (pv 1)) g_int) (fun _ _ => rfl)) ga_nil))))))))))))
/-! ### _law_take -/
abbrev s__law_take : Stmt := top 48
abbrev N__law_take : List Str := ["well", "many", "drew"]
theorem sc__law_take : FnScope N__law_take ["well", "many"] (defScope s__law_take) := ⟨rfl, rfl, rfl, by decide +kernel, rfl, by decide +kernel, by decide +kernel⟩
def m__law_take : MS :=
  mSeq (mIfS (mCmpB gtD (mIxV 0 (mC (.int 0))) (mC (.int 0)))
  (mSeq (mSet 2 (mBin modD (mIxV 0 (mC (.int 0))) (mVar 1)))
  (mSeq (mStore 0 (mC (.int 0)) (mBin fdivD (mIxV 0 (mC (.int 0))) (mVar 1)))
  (mRet (mVar 2))))
  (mNx))
  (mSeq (mStore 0 (mC (.int 1)) (mBin addD (mBin modD (mBin mulD (mIxV 0 (mC (.int 1))) (mC (.int 48271))) (mIxV 0 (mC (.int 2)))) (mC (.int 1))))
  (mRet (mBin modD (mBin fdivD (mBin modD (mBin mulD (mIxV 0 (mC (.int 1))) (mIxV 0 (mC (.int 1)))) (mC (.int 2147483423))) (mC (.int 7))) (mVar 1))))
def b__law_take : PSp := bodyD 2 N__law_take (m__law_take)
theorem ok__law_take {P : Program} {w : World} {K : PySem.W.Frag} {mg : Str → Option Value} {base : Heap} (z : Zs K mg) {f : Addr} {fd : FuncData} (F : Fun K "_law_take" "_law_take" s__law_take f fd) :
    FnOk P w K mg base CX0 (0 + 1) f fd ["well", "many"] (spD K mg 2 (b__law_take)) := by
  have sc := sc__law_take
  exact fn_okD F sc rfl fun cdv A outer s H E hr => by
    exact (gss_cons (gs_if (gt_cmp cg_gt (g_ixV (hu64 hr) (pv 0) g_int (fun _ _ => rfl)) (g_C g_int) rfl)
      (gss_cons (gs_set (i := 2) sc.nd rfl (.inl rfl) (g_bin og_mod (g_ixV (hu64 hr) (pv 0) g_int (fun _ _ => rfl)) (g_var (pv 1))))
      (gss_cons (gs_store (hu64 hr) (g_bin og_fdiv (g_ixV (hu64 hr) (pv 0) g_int (fun _ _ => rfl)) (g_var (pv 1))) (pv 0) g_int)
      (gss_one (gs_ret (g_var (pv 2))))))
      gss_nil)
      (gss_cons (gs_store (hu64 hr) (g_bin og_add (g_bin og_mod (g_bin og_mul (g_ixV (hu64 hr) (pv 0) g_int (fun _ _ => rfl)) g_int) (g_ixV (hu64 hr) (pv 0) g_int (fun _ _ => rfl))) g_int) (pv 0) g_int)
      (gss_one (gs_ret (g_bin og_mod (g_bin og_fdiv (g_bin og_mod (g_bin og_mul (g_ixV (hu64 hr) (pv 0) g_int (fun _ _ => rfl)) (g_ixV (hu64 hr) (pv 0) g_int (fun _ _ => rfl))) g_int) g_int) (g_var (pv 1)))))))
/-! ### _law_is_int -/
abbrev s__law_is_int : Stmt := top 49
abbrev N__law_is_int : List Str := ["thing", "low", "high"]
theorem sc__law_is_int : FnScope N__law_is_int ["thing", "low", "high"] (defScope s__law_is_int) := ⟨rfl, rfl, rfl, by decide +kernel, rfl, by decide +kernel, by decide +kernel⟩
def m__law_is_int : MS :=
  mRet (mAndV (mIsi "int" (mVar 0)) (mAndV (mNotV (mIsi "bool" (mVar 0))) (mAndV (mCmp leD (mVar 1) (mVar 0)) (mCmp leD (mVar 0) (mVar 2)))))
def b__law_is_int : PSp := bodyD 3 N__law_is_int (m__law_is_int)
theorem ok__law_is_int {P : Program} {w : World} {K : PySem.W.Frag} {mg : Str → Option Value} {base : Heap} (z : Zs K mg) {f : Addr} {fd : FuncData} (F : Fun K "_law_is_int" "_law_is_int" s__law_is_int f fd) :
    FnOk P w K mg base CX0 (0 + 1) f fd ["thing", "low", "high"] (spD K mg 3 (b__law_is_int)) := by
  have sc := sc__law_is_int
  exact fn_okD F sc rfl fun cdv A outer s H E hr => by
    exact (gss_one (gs_ret (g_and (g_isi (T := "int") (by decide) (by rfl) z.z_isinstance (g_var (pv 0)) (by rfl) z.z_int boots_int) (g_and (g_not (g_isi (T := "bool") (by decide) (by rfl) z.z_isinstance (g_var (pv 0)) (by rfl) z.z_bool boots_bool)) (g_and (g_cmp cg_le (g_var (pv 1)) (g_C (g_var (pv 0))) rfl) (g_one (g_cmp cg_le (g_var (pv 0)) (g_C (g_var (pv 2))) rfl)))))))
/-! ### _law_kinds -/
abbrev s__law_kinds : Stmt := top 50
abbrev N__law_kinds : List Str := ["e", "some", "words", "word", "good"]
theorem sc__law_kinds : FnScope N__law_kinds ["e"] (defScope s__law_kinds) := ⟨rfl, rfl, rfl, by decide +kernel, rfl, by decide +kernel, by decide +kernel⟩
/-! ### _law_refusal -/
abbrev s__law_refusal : Stmt := top 51
abbrev N__law_refusal : List Str := ["e", "kinds"]
theorem sc__law_refusal : FnScope N__law_refusal ["e"] (defScope s__law_refusal) := ⟨rfl, rfl, rfl, by decide +kernel, rfl, by decide +kernel, by decide +kernel⟩
/-! ### _law_things -/
abbrev s__law_things : Stmt := top 52
abbrev N__law_things : List Str := ["well", "top", "names", "wide", "name"]
theorem sc__law_things : FnScope N__law_things ["well", "top"] (defScope s__law_things) := ⟨rfl, rfl, rfl, by decide +kernel, rfl, by decide +kernel, by decide +kernel⟩
def m__law_things (p__law_take : PSp) : MS :=
  mSeq (mSet 2 (mSl (mLst (mCons (mC (.str "arch")) (mCons (mC (.str "boat")) (mCons (mC (.str "cart")) (mCons (mC (.str "dam")) (mCons (mC (.str "edge")) (mCons (mC (.str "fence")) (mCons (mC (.str "gate")) (mCons (mC (.str "hut")) (mNil)))))))))) mNo (mPart (mBin addD (mC (.int 1)) (mCallR p__law_take Wish.no.RE 0 0 (mHere 0 (mCons (mVar 1) (mNil))))))))
  (mSeq (mSet 3 (mIx (mLst (mCons (mC (.int 9)) (mCons (mC (.int 60)) (mCons (mC (.int 1000)) (mNil))))) (mCallR p__law_take Wish.no.RE 0 0 (mHere 0 (mCons (mC (.int 3)) (mNil))))))
  (mRet (mCall1 tupD (mLc (iSq (mVar 2)) (mGN 4) (mYes) (mTup (mCons (mVar 4) (mCons (mCallR p__law_take Wish.no.RE 0 0 (mHere 0 (mCons (mBin addD (mVar 3) (mC (.int 1))) (mNil)))) (mNil)))) [4]))))
def b__law_things (p__law_take : PSp) : PSp := bodyD 2 N__law_things (m__law_things p__law_take)
theorem ok__law_things {P : Program} {w : World} {K : PySem.W.Frag} {mg : Str → Option Value} {base : Heap} (z : Zs K mg) {p__law_take : PSp} (G__law_take : Has P w K mg base 1 "_law_take" ["well", "many"] (spD K mg 2 p__law_take)) {f : Addr} {fd : FuncData} (F : Fun K "_law_things" "_law_things" s__law_things f fd) :
    FnOk P w K mg base CX0 (1 + 1) f fd ["well", "top"] (spD K mg 2 (b__law_things p__law_take)) := by
  have sc := sc__law_things
  exact fn_okD F sc rfl fun cdv A outer s H E hr => by
    exact (gss_cons (gs_set (i := 2) sc.nd rfl (.inl rfl) (g_sl (g_E (gn_lst (ga_cons g_str (ga_cons g_str (ga_cons g_str (ga_cons g_str (ga_cons g_str (ga_cons g_str (ga_cons g_str (ga_cons g_str ga_nil)))))))))) go_none (go_some (g_bin og_add g_int (g_callRH G__law_take hr (by rfl) ps0 (gar_here (pv 0) (ga_cons (g_var (pv 1)) ga_nil)))))))
      (gss_cons (gs_set (i := 3) sc.nd rfl (.inr rfl) (g_ix (hu64 hr) (g_E (gn_lst (ga_cons g_int (ga_cons g_int (ga_cons g_int ga_nil))))) (g_callRH G__law_take hr (by rfl) ps0 (gar_here (pv 0) (ga_cons g_int ga_nil))) (fun _ _ => rfl)))
      (gss_one (gs_ret (g_t1 cg_tuple (by rfl) z.z_tuple boots_tuple (g_C (g_E (gn_lc (own := [("name", 4)]) rfl sc.nd (gi_seq (g_var (pv 2))) (blkOk_by (own := [("name", 4)]) (N := N__law_things) (sc := defScope s__law_things) (by decide +kernel)) (fun _ _ _ _ _ => (gg_name (pg_name (i := 4) sc.nd rfl (by first | exact .inl rfl | exact .inr rfl)))) (fun _ _ _ _ _ => gts_nil) (fun _ _ _ _ _ => (g_tup (ga_cons (g_var (pv 4)) (ga_cons (g_callRH G__law_take hr (by rfl) ps0 (gar_here (pv 0) (ga_cons (g_bin og_add (g_var (pv 3)) g_int) ga_nil))) ga_nil))))))))))))
/-! ### _law_one -/
abbrev s__law_one : Stmt := top 53
abbrev N__law_one : List Str := ["well", "things", "name", "even", "cost", "wants", "worth", "thing", "number"]
theorem sc__law_one : FnScope N__law_one ["well", "things", "name", "even"] (defScope s__law_one) := ⟨rfl, rfl, rfl, by decide +kernel, rfl, by decide +kernel, by decide +kernel⟩
def m__law_one (p__law_take : PSp) : MS :=
  mSeq (mSet 5 (mLc (iSq (mVar 1)) (mGT [mGN 7, mGN 4]) (mCmpB eqD (mCallR p__law_take Wish.no.RE 0 0 (mHere 0 (mCons (mC (.int 3)) (mNil)))) (mC (.int 0))) (mVar 7) [7, 4]))
  (mSeq (mIfS (mCmpB eqD (mVar 5) (mLst (mNil)))
  (mSet 5 (mLst (mCons (mIx (mIx (mVar 1) (mCallR p__law_take Wish.no.RE 0 0 (mHere 0 (mCons (mCall1 lenD (mVar 1)) (mNil))))) (mC (.int 0))) (mNil))))
  (mNx))
  (mSeq (mSet 4 (mCall1 sumD (mLc (iSq (mVar 1)) (mGT [mGN 7, mGN 8]) (mCmpB (inD false) (mVar 7) (mVar 5)) (mVar 8) [7, 8])))
  (mSeq (mSet 6 (mCallM min2D (mCons (mC (.int 1000)) (mCons (mCallR p__law_take Wish.no.RE 0 0 (mHere 0 (mCons (mIx (mLst (mCons (mBin addD (mVar 4) (mC (.int 1))) (mCons (mBin addD (mBin fdivD (mVar 4) (mC (.int 2))) (mC (.int 2))) (mCons (mBin addD (mBin fdivD (mVar 4) (mC (.int 4))) (mC (.int 3))) (mCons (mC (.int 1001)) (mNil)))))) (mCallR p__law_take Wish.no.RE 0 0 (mHere 0 (mCons (mC (.int 4)) (mNil))))) (mNil)))) (mNil)))))
  (mRet (mTup (mCons (mVar 2) (mCons (mCall1 tupD (mVar 5)) (mCons (mVar 6) (mCons (mIf (mT (mVar 3)) (mC (.int 1)) (mBin addD (mC (.int 1)) (mCallR p__law_take Wish.no.RE 0 0 (mHere 0 (mCons (mIx (mLst (mCons (mC (.int 1)) (mCons (mC (.int 3)) (mCons (mC (.int 9)) (mNil))))) (mCallR p__law_take Wish.no.RE 0 0 (mHere 0 (mCons (mC (.int 3)) (mNil))))) (mNil)))))) (mNil))))))))))
def b__law_one (p__law_take : PSp) : PSp := bodyD 4 N__law_one (m__law_one p__law_take)
theorem ok__law_one {P : Program} {w : World} {K : PySem.W.Frag} {mg : Str → Option Value} {base : Heap} (z : Zs K mg) {p__law_take : PSp} (G__law_take : Has P w K mg base 1 "_law_take" ["well", "many"] (spD K mg 2 p__law_take)) {f : Addr} {fd : FuncData} (F : Fun K "_law_one" "_law_one" s__law_one f fd) :
    FnOk P w K mg base CX0 (1 + 1) f fd ["well", "things", "name", "even"] (spD K mg 4 (b__law_one p__law_take)) := by
  have sc := sc__law_one
  exact fn_okD F sc rfl fun cdv A outer s H E hr => by
    exact (gss_cons (gs_set (i := 5) sc.nd rfl (.inr rfl) (g_E (gn_lc (own := [("thing", 7), ("cost", 4)]) rfl sc.nd (gi_seq (g_var (pv 1))) (blkOk_by (own := [("thing", 7), ("cost", 4)]) (N := N__law_one) (sc := defScope s__law_one) (by decide +kernel)) (fun _ _ _ _ _ => (gg_tup rfl (ggs_cons (gg_name (pg_name (i := 7) sc.nd rfl (by first | exact .inl rfl | exact .inr rfl))) (ggs_cons (gg_name (pg_name (i := 4) sc.nd rfl (by first | exact .inl rfl | exact .inr rfl))) ggs_nil)))) (fun _ _ _ _ _ => (gts_one (gt_cmp (cg_eq (hu64 hr)) (g_callRH G__law_take hr (by rfl) ps0 (gar_here (pv 0) (ga_cons g_int ga_nil))) (g_C g_int) rfl))) (fun _ _ _ _ _ => (g_var (pv 7))))))
      (gss_cons (gs_if (gt_cmp (cg_eq (hu64 hr)) (g_var (pv 5)) (g_C (g_E (gn_lst ga_nil))) rfl)
      (gss_one (gs_set (i := 5) sc.nd rfl (.inr rfl) (g_E (gn_lst (ga_cons (g_ix (hu64 hr) (g_ix (hu64 hr) (g_var (pv 1)) (g_callRH G__law_take hr (by rfl) ps0 (gar_here (pv 0) (ga_cons (g_b1 cg_len (by rfl) z.z_len boots_len (g_C (g_var (pv 1)))) ga_nil))) (fun _ _ => rfl)) g_int (fun _ _ => rfl)) ga_nil)))))
      gss_nil)
      (gss_cons (gs_set (i := 4) sc.nd rfl (.inl rfl) (g_b1 (cg_sum rfl) (by rfl) z.z_sum boots_sum (g_C (g_E (gn_lc (own := [("thing", 7), ("number", 8)]) rfl sc.nd (gi_seq (g_var (pv 1))) (blkOk_by (own := [("thing", 7), ("number", 8)]) (N := N__law_one) (sc := defScope s__law_one) (by decide +kernel)) (fun _ _ _ _ _ => (gg_tup rfl (ggs_cons (gg_name (pg_name (i := 7) sc.nd rfl (by first | exact .inl rfl | exact .inr rfl))) (ggs_cons (gg_name (pg_name (i := 8) sc.nd rfl (by first | exact .inl rfl | exact .inr rfl))) ggs_nil)))) (fun _ _ _ _ _ => (gts_one (gt_cmp (cg_in (hu64 hr)) (g_var (pv 7)) (g_C (g_var (pv 5))) rfl))) (fun _ _ _ _ _ => (g_var (pv 8))))))))
      (gss_cons (gs_set (i := 6) sc.nd rfl (.inl rfl) (g_bm (cm_min2 rfl) (by rfl) z.z_min boots_min (ga_cons g_int (ga_cons (g_callRH G__law_take hr (by rfl) ps0 (gar_here (pv 0) (ga_cons (g_ix (hu64 hr) (g_E (gn_lst (ga_cons (g_bin og_add (g_var (pv 4)) g_int) (ga_cons (g_bin og_add (g_bin og_fdiv (g_var (pv 4)) g_int) g_int) (ga_cons (g_bin og_add (g_bin og_fdiv (g_var (pv 4)) g_int) g_int) (ga_cons g_int ga_nil)))))) (g_callRH G__law_take hr (by rfl) ps0 (gar_here (pv 0) (ga_cons g_int ga_nil))) (fun _ _ => rfl)) ga_nil))) ga_nil))))
      (gss_one (gs_ret (g_tup (ga_cons (g_var (pv 2)) (ga_cons (g_t1 cg_tuple (by rfl) z.z_tuple boots_tuple (g_C (g_var (pv 5)))) (ga_cons (g_var (pv 6)) (ga_cons (g_if (gt_val (g_var (pv 3))) g_int (g_bin og_add g_int (g_callRH G__law_take hr (by rfl) ps0 (gar_here (pv 0) (ga_cons (g_ix (hu64 hr) (g_E (gn_lst (ga_cons g_int (ga_cons g_int (ga_cons g_int ga_nil))))) (g_callRH G__law_take hr (by rfl) ps0 (gar_here (pv 0) (ga_cons g_int ga_nil))) (fun _ _ => rfl)) ga_nil))))) ga_nil)))))))))))
/-! ### _law_said -/
abbrev s__law_said : Stmt := top 54
abbrev N__law_said : List Str := ["folk", "name", "worth", "one"]
theorem sc__law_said : FnScope N__law_said ["folk", "name", "worth"] (defScope s__law_said) := ⟨rfl, rfl, rfl, by decide +kernel, rfl, by decide +kernel, by decide +kernel⟩
def m__law_said : MS :=
  mRet (mCall1 tupD (mLc (iSq (mVar 0)) (mGN 3) (mYes) (mIf (mCmpB eqD (mIx (mVar 3) (mC (.int 0))) (mVar 1)) (mBin addD (mBin addD (mSl (mVar 3) mNo (mPart (mC (.int 2)))) (mTup (mCons (mVar 2) (mNil)))) (mSl (mVar 3) (mPart (mC (.int 3))) mNo)) (mVar 3)) [3]))
def b__law_said : PSp := bodyD 3 N__law_said (m__law_said)
theorem ok__law_said {P : Program} {w : World} {K : PySem.W.Frag} {mg : Str → Option Value} {base : Heap} (z : Zs K mg) {f : Addr} {fd : FuncData} (F : Fun K "_law_said" "_law_said" s__law_said f fd) :
    FnOk P w K mg base CX0 (0 + 1) f fd ["folk", "name", "worth"] (spD K mg 3 (b__law_said)) := by
  have sc := sc__law_said
  exact fn_okD F sc rfl fun cdv A outer s H E hr => by
    exact (gss_one (gs_ret (g_t1 cg_tuple (by rfl) z.z_tuple boots_tuple (g_C (g_E (gn_lc (own := [("one", 3)]) rfl sc.nd (gi_seq (g_var (pv 0))) (blkOk_by (own := [("one", 3)]) (N := N__law_said) (sc := defScope s__law_said) (by decide +kernel)) (fun _ _ _ _ _ => (gg_name (pg_name (i := 3) sc.nd rfl (by first | exact .inl rfl | exact .inr rfl)))) (fun _ _ _ _ _ => gts_nil) (fun _ _ _ _ _ => (g_if (gt_cmp (cg_eq (hu64 hr)) (g_ix (hu64 hr) (g_var (pv 3)) g_int (fun _ _ => rfl)) (g_C (g_var (pv 1))) rfl) (g_bin og_add (g_bin og_add (g_sl (g_var (pv 3)) go_none (go_some g_int)) (g_tup (ga_cons (g_var (pv 2)) ga_nil))) (g_sl (g_var (pv 3)) (go_some g_int) go_none)) (g_var (pv 3))))))))))
/-! ### _law_done -/
abbrev s__law_done : Stmt := top 55
abbrev N__law_done : List Str := ["book", "deed", "word", "e"]
theorem sc__law_done : FnScope N__law_done ["book", "deed"] (defScope s__law_done) := ⟨rfl, rfl, rfl, by decide +kernel, rfl, by decide +kernel, by decide +kernel⟩
/-! ### _law_deed -/
abbrev s__law_deed : Stmt := top 56
abbrev N__law_deed : List Str := ["well", "things", "folk", "names", "way", "name", "thing", "fresh", "odd", "one"]
theorem sc__law_deed : FnScope N__law_deed ["well", "things", "folk"] (defScope s__law_deed) := ⟨rfl, rfl, rfl, by decide +kernel, rfl, by decide +kernel, by decide +kernel⟩
def m__law_deed (p__law_take : PSp) (p__law_one : PSp) : MS :=
  mSeq (mPar2 3 4 (pE (mBin addD (mLc (iSq (mVar 2)) (mGN 9) (mYes) (mIx (mVar 9) (mC (.int 0))) [9]) (mLst (mCons (mC (.str "zed")) (mNil)))) (pE (mCallR p__law_take Wish.no.RE 0 0 (mHere 0 (mCons (mC (.int 18)) (mNil)))) (pNil))))
  (mSeq (mPar2 5 6 (pE (mIx (mVar 3) (mCallR p__law_take Wish.no.RE 0 0 (mHere 0 (mCons (mCall1 lenD (mVar 3)) (mNil))))) (pE (mIx (mIx (mVar 1) (mCallR p__law_take Wish.no.RE 0 0 (mHere 0 (mCons (mCall1 lenD (mVar 1)) (mNil))))) (mC (.int 0))) (pNil))))
  (mSeq (mIfS (mCmpB ltD (mVar 4) (mC (.int 7)))
  (mSeq (mSet 7 (mIx (mLst (mCons (mC (.str "ia")) (mCons (mC (.str "ja")) (mCons (mC (.str "ka")) (mCons (mC (.str "la")) (mCons (mC (.str "ma")) (mCons (mC (.str "na")) (mCons (mC (.str "oa")) (mCons (mC (.str "pa")) (mCons (mC (.str "qa")) (mCons (mVar 5) (mNil)))))))))))) (mCallR p__law_take Wish.no.RE 0 0 (mHere 0 (mCons (mC (.int 10)) (mNil))))))
  (mRet (mTup (mCons (mC (.str "come")) (mCons (mCallR p__law_one Wish.no.RE 0 0 (mHere 0 (mCons (mVar 1) (mCons (mVar 7) (mCons (mC (.bool false)) (mNil)))))) (mNil))))))
  (mNx))
  (mSeq (mIfS (mCmpB ltD (mVar 4) (mC (.int 9)))
  (mRet (mTup (mCons (mC (.str "say")) (mCons (mVar 5) (mCons (mIx (mLst (mCons (mCallR p__law_take Wish.no.RE 0 0 (mHere 0 (mCons (mC (.int 200)) (mNil)))) (mCons (mC (.int 1000)) (mCons (mC (.int 1001)) (mCons (mNeg (mC (.int 1))) (mCons (mC (.bool true)) (mNil))))))) (mCallM max2D (mCons (mC (.int 0)) (mCons (mBin subD (mCallR p__law_take Wish.no.RE 0 0 (mHere 0 (mCons (mC (.int 9)) (mNil)))) (mC (.int 4))) (mNil))))) (mNil))))))
  (mNx))
  (mSeq (mIfS (mCmpB ltD (mVar 4) (mC (.int 11)))
  (mRet (mTup (mCons (mC (.str "price")) (mCons (mVar 6) (mCons (mIx (mLst (mCons (mCallR p__law_take Wish.no.RE 0 0 (mHere 0 (mCons (mC (.int 200)) (mNil)))) (mCons (mC (.int 1000)) (mCons (mC (.int 1001)) (mCons (mNeg (mC (.int 1))) (mCons (mC .none) (mNil))))))) (mCallM max2D (mCons (mC (.int 0)) (mCons (mBin subD (mCallR p__law_take Wish.no.RE 0 0 (mHere 0 (mCons (mC (.int 9)) (mNil)))) (mC (.int 4))) (mNil))))) (mNil))))))
  (mNx))
  (mSeq (mIfS (mCmpB eqD (mVar 4) (mC (.int 11)))
  (mRet (mTup (mCons (mC (.str "go")) (mCons (mVar 5) (mNil)))))
  (mNx))
  (mSeq (mIfS (mCmpB ltD (mVar 4) (mC (.int 15)))
  (mRet (mTup (mCons (mC (.str "back")) (mNil))))
  (mNx))
  (mSeq (mSetN 8 (mLst (mCons (mTup (mCons (mC (.str "come")) (mCons (mC .none) (mNil)))) (mCons (mTup (mCons (mC (.str "come")) (mCons (mTup (mCons (mC (.str "x")) (mCons (mTup (mNil)) (mCons (mC (.int 1)) (mCons (mC (.int 1)) (mNil)))))) (mNil)))) (mCons (mTup (mCons (mC (.str "come")) (mCons (mTup (mCons (mC (.str "x")) (mCons (mTup (mCons (mVar 6) (mNil))) (mCons (mC (.int 1)) (mCons (mC (.int 0)) (mNil)))))) (mNil)))) (mCons (mTup (mCons (mC (.str "go")) (mCons (mC .none) (mNil)))) (mNil)))))))
  (mSeq (mDrop (mMut 8 appendD (mCons (mTup (mCons (mC (.str "say")) (mCons (mC .none) (mCons (mC .none) (mNil))))) (mNil))))
  (mSeq (mSetN 8 (mCatO 8 (mLst (mCons (mTup (mCons (mC (.str "price")) (mCons (mC (.str "zed")) (mCons (mC .none) (mNil))))) (mCons (mTup (mCons (mC (.str "price")) (mCons (mC (.int 7)) (mCons (mC (.int 1)) (mNil))))) (mCons (mTup (mCons (mC (.str "come")) (mCons (mTup (mCons (mC (.str "x")) (mCons (mTup (mCons (mC (.str "zed")) (mNil))) (mCons (mC (.int 1)) (mCons (mC (.int 1)) (mNil)))))) (mNil)))) (mCons (mTup (mCons (mC (.str "go")) (mCons (mC (.int 7)) (mNil)))) (mNil))))))))
  (mRet (mIxV 8 (mCallR p__law_take Wish.no.RE 0 0 (mHere 0 (mCons (mC (.int 9)) (mNil)))))))))))))))
def b__law_deed (p__law_take : PSp) (p__law_one : PSp) : PSp := bodyD 3 N__law_deed (m__law_deed p__law_take p__law_one)
theorem ok__law_deed {P : Program} {w : World} {K : PySem.W.Frag} {mg : Str → Option Value} {base : Heap} (z : Zs K mg) {p__law_take : PSp} {p__law_one : PSp} (G__law_take : Has P w K mg base 1 "_law_take" ["well", "many"] (spD K mg 2 p__law_take)) (G__law_one : Has P w K mg base 2 "_law_one" ["well", "things", "name", "even"] (spD K mg 4 p__law_one)) {f : Addr} {fd : FuncData} (F : Fun K "_law_deed" "_law_deed" s__law_deed f fd) :
    FnOk P w K mg base CX0 (2 + 1) f fd ["well", "things", "folk"] (spD K mg 3 (b__law_deed p__law_take p__law_one)) := by
  have sc := sc__law_deed
  exact fn_okD F sc rfl fun cdv A outer s H E hr => by
    exact (gss_cons (gs_par (i := 3) (j := 4) rfl sc.nd rfl rfl (by decide) rfl rfl (gp_E (g_bin og_add (g_E (gn_lc (own := [("one", 9)]) rfl sc.nd (gi_seq (g_var (pv 2))) (blkOk_by (own := [("one", 9)]) (N := N__law_deed) (sc := defScope s__law_deed) (by decide +kernel)) (fun _ _ _ _ _ => (gg_name (pg_name (i := 9) sc.nd rfl (by first | exact .inl rfl | exact .inr rfl)))) (fun _ _ _ _ _ => gts_nil) (fun _ _ _ _ _ => (g_ix (hu64 hr) (g_var (pv 9)) g_int (fun _ _ => rfl))))) (g_E (gn_lst (ga_cons g_str ga_nil)))) (gp_E (g_callRH G__law_take (hr.mono (by omega)) (by rfl) ps0 (gar_here (pv 0) (ga_cons g_int ga_nil))) gp_nil)) (by with_unfolding_all rfl))
      (gss_cons (gs_par (i := 5) (j := 6) rfl sc.nd rfl rfl (by decide) rfl rfl (gp_E (g_ix (hu64 hr) (g_var (pv 3)) (g_callRH G__law_take (hr.mono (by omega)) (by rfl) ps0 (gar_here (pv 0) (ga_cons (g_b1 cg_len (by rfl) z.z_len boots_len (g_C (g_var (pv 3)))) ga_nil))) (fun _ _ => rfl)) (gp_E (g_ix (hu64 hr) (g_ix (hu64 hr) (g_var (pv 1)) (g_callRH G__law_take (hr.mono (by omega)) (by rfl) ps0 (gar_here (pv 0) (ga_cons (g_b1 cg_len (by rfl) z.z_len boots_len (g_C (g_var (pv 1)))) ga_nil))) (fun _ _ => rfl)) g_int (fun _ _ => rfl)) gp_nil)) (by with_unfolding_all rfl))
      (gss_cons (gs_if (gt_cmp cg_lt (g_var (pv 4)) (g_C g_int) rfl)
      (gss_cons (gs_set (i := 7) sc.nd rfl (.inl rfl) (g_ix (hu64 hr) (g_E (gn_lst (ga_cons g_str (ga_cons g_str (ga_cons g_str (ga_cons g_str (ga_cons g_str (ga_cons g_str (ga_cons g_str (ga_cons g_str (ga_cons g_str (ga_cons (g_var (pv 5)) ga_nil)))))))))))) (g_callRH G__law_take (hr.mono (by omega)) (by rfl) ps0 (gar_here (pv 0) (ga_cons g_int ga_nil))) (fun _ _ => rfl)))
      (gss_one (gs_ret (g_tup (ga_cons g_str (ga_cons (g_callRH G__law_one hr (by rfl) ps0 (gar_here (pv 0) (ga_cons (g_var (pv 1)) (ga_cons (g_var (pv 7)) (ga_cons g_bl ga_nil))))) ga_nil))))))
      gss_nil)
      (gss_cons (gs_if (gt_cmp cg_lt (g_var (pv 4)) (g_C g_int) rfl)
      (gss_one (gs_ret (g_tup (ga_cons g_str (ga_cons (g_var (pv 5)) (ga_cons (g_ix (hu64 hr) (g_E (gn_lst (ga_cons (g_callRH G__law_take (hr.mono (by omega)) (by rfl) ps0 (gar_here (pv 0) (ga_cons g_int ga_nil))) (ga_cons g_int (ga_cons g_int (ga_cons (g_neg g_int) (ga_cons g_bl ga_nil))))))) (g_bm (cm_max2 rfl) (by rfl) z.z_max boots_max (ga_cons g_int (ga_cons (g_bin og_sub (g_callRH G__law_take (hr.mono (by omega)) (by rfl) ps0 (gar_here (pv 0) (ga_cons g_int ga_nil))) g_int) ga_nil))) (fun _ _ => rfl)) ga_nil))))))
      gss_nil)
      (gss_cons (gs_if (gt_cmp cg_lt (g_var (pv 4)) (g_C g_int) rfl)
      (gss_one (gs_ret (g_tup (ga_cons g_str (ga_cons (g_var (pv 6)) (ga_cons (g_ix (hu64 hr) (g_E (gn_lst (ga_cons (g_callRH G__law_take (hr.mono (by omega)) (by rfl) ps0 (gar_here (pv 0) (ga_cons g_int ga_nil))) (ga_cons g_int (ga_cons g_int (ga_cons (g_neg g_int) (ga_cons g_non ga_nil))))))) (g_bm (cm_max2 rfl) (by rfl) z.z_max boots_max (ga_cons g_int (ga_cons (g_bin og_sub (g_callRH G__law_take (hr.mono (by omega)) (by rfl) ps0 (gar_here (pv 0) (ga_cons g_int ga_nil))) g_int) ga_nil))) (fun _ _ => rfl)) ga_nil))))))
      gss_nil)
      (gss_cons (gs_if (gt_cmp (cg_eq (hu64 hr)) (g_var (pv 4)) (g_C g_int) rfl)
      (gss_one (gs_ret (g_tup (ga_cons g_str (ga_cons (g_var (pv 5)) ga_nil)))))
      gss_nil)
      (gss_cons (gs_if (gt_cmp cg_lt (g_var (pv 4)) (g_C g_int) rfl)
      (gss_one (gs_ret (g_tup (ga_cons g_str ga_nil))))
      gss_nil)
      (gss_cons (gs_setN (i := 8) sc.nd rfl (.inl rfl) (gn_lst (ga_cons (g_tup (ga_cons g_str (ga_cons g_non ga_nil))) (ga_cons (g_tup (ga_cons g_str (ga_cons (g_tup (ga_cons g_str (ga_cons (g_tup ga_nil) (ga_cons g_int (ga_cons g_int ga_nil))))) ga_nil))) (ga_cons (g_tup (ga_cons g_str (ga_cons (g_tup (ga_cons g_str (ga_cons (g_tup (ga_cons (g_var (pv 6)) ga_nil)) (ga_cons g_int (ga_cons g_int ga_nil))))) ga_nil))) (ga_cons (g_tup (ga_cons g_str (ga_cons g_non ga_nil))) ga_nil))))))
      (gss_cons (gs_expr (g_mut PySem.F.slot_list_append PySem.F.type_list_append mt_append mr_append (pv 8) (ga_cons (g_tup (ga_cons g_str (ga_cons g_non (ga_cons g_non ga_nil)))) ga_nil) (pe_bm PySem.F.plainAttrs_list PySem.F.slot_list_append PySem.F.type_list_append mt_append (pv 8) (ga_cons (g_tup (ga_cons g_str (ga_cons g_non (ga_cons g_non ga_nil)))) ga_nil))))
      (gss_cons (gs_setN (i := 8) sc.nd rfl (.inl rfl) (gn_catO (pv 8) (g_E (gn_lst (ga_cons (g_tup (ga_cons g_str (ga_cons g_str (ga_cons g_non ga_nil)))) (ga_cons (g_tup (ga_cons g_str (ga_cons g_int (ga_cons g_int ga_nil)))) (ga_cons (g_tup (ga_cons g_str (ga_cons (g_tup (ga_cons g_str (ga_cons (g_tup (ga_cons g_str ga_nil)) (ga_cons g_int (ga_cons g_int ga_nil))))) ga_nil))) (ga_cons (g_tup (ga_cons g_str (ga_cons g_int ga_nil))) ga_nil))))))))
      (gss_one (gs_ret (g_ixV (hu64 hr) (pv 8) (g_callRH G__law_take (hr.mono (by omega)) (by rfl) ps0 (gar_here (pv 0) (ga_cons g_int ga_nil))) (fun _ _ => rfl))))))))))))))
/-! ### _law_due -/
abbrev s__law_due : Stmt := top 57
abbrev N__law_due : List Str := ["rows", "deed", "things", "folk", "names", "word", "some", "one", "name", "cost"]
theorem sc__law_due : FnScope N__law_due ["rows", "deed"] (defScope s__law_due) := ⟨rfl, rfl, rfl, by decide +kernel, rfl, by decide +kernel, by decide +kernel⟩
def m__law_due (p_are_folk : PSp) (p__law_is_int : PSp) (p__law_said : PSp) : MS :=
  mSeq (mAsg (mIxV 0 (mNeg (mC (.int 1)))) (mGT [mGN 2, mGN 3]))
  (mSeq (mPar2 4 5 (pE (mLc (iSq (mVar 3)) (mGN 7) (mYes) (mIx (mVar 7) (mC (.int 0))) [7]) (pE (mIx (mVar 1) (mC (.int 0))) (pNil))))
  (mSeq (mIfS (mCmpB eqD (mVar 5) (mC (.str "back")))
  (mSeq (mIfS (mCmpB eqD (mCall1 lenD (mVarC 0)) (mC (.int 1)))
  (mRet (mC (.str "back")))
  (mNx))
  (mSeq (mDrop (mMut 0 popD mNil))
  (mRet (mC .none))))
  (mNx))
  (mSeq (mIfS (mCmpB eqD (mVar 5) (mC (.str "come")))
  (mSeq (mIfS (mNot (mT (mCall p_are_folk Wish.no.RE (mCons (mVar 2) (mCons (mTup (mCons (mIx (mVar 1) (mC (.int 1))) (mNil))) (mNil))))))
  (mRet (mC (.str "one")))
  (mNx))
  (mSeq (mIfS (mCmpB (inD false) (mIx (mIx (mVar 1) (mC (.int 1))) (mC (.int 0))) (mVar 4))
  (mRet (mC (.str "taken")))
  (mNx))
  (mSeq (mIfS (mCmpB eqD (mCall1 lenD (mVar 4)) (mC (.int 8)))
  (mRet (mC (.str "full")))
  (mNx))
  (mSeq (mDrop (mMut 0 appendD (mCons (mTup (mCons (mVar 2) (mCons (mCall1 tupD (mCall1 sortedD (mBin addD (mVar 3) (mTup (mCons (mIx (mVar 1) (mC (.int 1))) (mNil)))))) (mNil)))) (mNil))))
  (mRet (mC .none))))))
  (mNx))
  (mSeq (mIfS (mCmpB eqD (mVar 5) (mC (.str "price")))
  (mSeq (mIfS (mCmpB (inD true) (mIx (mVar 1) (mC (.int 1))) (mLc (iSq (mVar 2)) (mGN 7) (mYes) (mIx (mVar 7) (mC (.int 0))) [7]))
  (mRet (mC (.str "thing")))
  (mNx))
  (mSeq (mIfS (mNot (mT (mCall p__law_is_int Wish.no.RE (mCons (mIx (mVar 1) (mC (.int 2))) (mCons (mC (.int 0)) (mCons (mC (.int 1000)) (mNil)))))))
  (mRet (mC (.str "cost")))
  (mNx))
  (mSeq (mDrop (mMut 0 appendD (mCons (mTup (mCons (mCall1 tupD (mLc (iSq (mVar 2)) (mGT [mGN 8, mGN 9]) (mYes) (mTup (mCons (mVar 8) (mCons (mIf (mCmpB eqD (mVar 8) (mIx (mVar 1) (mC (.int 1)))) (mIx (mVar 1) (mC (.int 2))) (mVar 9)) (mNil)))) [8, 9])) (mCons (mVar 3) (mNil)))) (mNil))))
  (mRet (mC .none)))))
  (mNx))
  (mSeq (mIfS (mCmpB (inD true) (mIx (mVar 1) (mC (.int 1))) (mVar 4))
  (mRet (mC (.str "gone")))
  (mNx))
  (mSeq (mIfS (mAnd (mCmpB eqD (mVar 5) (mC (.str "say"))) (mNot (mT (mCall p__law_is_int Wish.no.RE (mCons (mIx (mVar 1) (mC (.int 2))) (mCons (mC (.int 0)) (mCons (mC (.int 1000)) (mNil))))))))
  (mRet (mC (.str "worth")))
  (mNx))
  (mSeq (mSet 6 (mCall1 tupD (mLc (iSq (mVar 3)) (mGN 7) (mCmpB neD (mIx (mVar 7) (mC (.int 0))) (mIx (mVar 1) (mC (.int 1)))) (mVar 7) [7])))
  (mSeq (mIfS (mCmpB eqD (mVar 5) (mC (.str "say")))
  (mSet 6 (mCall p__law_said Wish.no.RE (mCons (mVar 3) (mCons (mIx (mVar 1) (mC (.int 1))) (mCons (mIx (mVar 1) (mC (.int 2))) (mNil))))))
  (mNx))
  (mSeq (mDrop (mMut 0 appendD (mCons (mTup (mCons (mVar 2) (mCons (mVar 6) (mNil)))) (mNil))))
  (mRet (mC .none)))))))))))
def b__law_due (p_are_folk : PSp) (p__law_is_int : PSp) (p__law_said : PSp) : PSp := bodyD 2 N__law_due (m__law_due p_are_folk p__law_is_int p__law_said)
theorem ok__law_due {P : Program} {w : World} {K : PySem.W.Frag} {mg : Str → Option Value} {base : Heap} (z : Zs K mg) {p_are_folk : PSp} {p__law_is_int : PSp} {p__law_said : PSp} (G_are_folk : Has P w K mg base 5 "are_folk" ["things", "thing"] (spD K mg 2 p_are_folk)) (G__law_is_int : Has P w K mg base 1 "_law_is_int" ["thing", "low", "high"] (spD K mg 3 p__law_is_int)) (G__law_said : Has P w K mg base 1 "_law_said" ["folk", "name", "worth"] (spD K mg 3 p__law_said)) {f : Addr} {fd : FuncData} (F : Fun K "_law_due" "_law_due" s__law_due f fd) :
    FnOk P w K mg base CX0 (5 + 1) f fd ["rows", "deed"] (spD K mg 2 (b__law_due p_are_folk p__law_is_int p__law_said)) := by
  have sc := sc__law_due
  exact fn_okD F sc rfl fun cdv A outer s H E hr => by
    exact (gss_cons (gs_asg (g_ixV (hu64 hr) (pv 0) (g_neg g_int) (fun _ _ => rfl)) (gg_tup rfl (ggs_cons (gg_name (pg_name (i := 2) sc.nd rfl (.inl rfl))) (ggs_cons (gg_name (pg_name (i := 3) sc.nd rfl (.inl rfl))) ggs_nil))))
      (gss_cons (gs_par (i := 4) (j := 5) rfl sc.nd rfl rfl (by decide) rfl rfl (gp_E (g_E (gn_lc (own := [("one", 7)]) rfl sc.nd (gi_seq (g_var (pv 3))) (blkOk_by (own := [("one", 7)]) (N := N__law_due) (sc := defScope s__law_due) (by decide +kernel)) (fun _ _ _ _ _ => (gg_name (pg_name (i := 7) sc.nd rfl (by first | exact .inl rfl | exact .inr rfl)))) (fun _ _ _ _ _ => gts_nil) (fun _ _ _ _ _ => (g_ix (hu64 hr) (g_var (pv 7)) g_int (fun _ _ => rfl))))) (gp_E (g_ix (hu64 hr) (g_var (pv 1)) g_int (fun _ _ => rfl)) gp_nil)) (by with_unfolding_all rfl))
      (gss_cons (gs_if (gt_cmp (cg_eq (hu64 hr)) (g_var (pv 5)) (g_C g_str) rfl)
      (gss_cons (gs_if (gt_cmp (cg_eq (hu64 hr)) (g_b1 cg_len (by rfl) z.z_len boots_len (g_varC (pv 0))) (g_C g_int) rfl)
      (gss_one (gs_ret g_str))
      gss_nil)
      (gss_cons (gs_expr (g_mut0 mr_pop (pe_bm0 PySem.F.plainAttrs_list PySem.F.slot_list_pop PySem.F.type_list_pop mt_pop (pv 0))))
      (gss_one (gs_ret g_non))))
      gss_nil)
      (gss_cons (gs_if (gt_cmp (cg_eq (hu64 hr)) (g_var (pv 5)) (g_C g_str) rfl)
      (gss_cons (gs_if (gt_not (gt_val (g_callH G_are_folk hr (by rfl) ps0 (ga_cons (g_var (pv 2)) (ga_cons (g_tup (ga_cons (g_ix (hu64 hr) (g_var (pv 1)) g_int (fun _ _ => rfl)) ga_nil)) ga_nil)))))
      (gss_one (gs_ret g_str))
      gss_nil)
      (gss_cons (gs_if (gt_cmp (cg_in (hu64 hr)) (g_ix (hu64 hr) (g_ix (hu64 hr) (g_var (pv 1)) g_int (fun _ _ => rfl)) g_int (fun _ _ => rfl)) (g_C (g_var (pv 4))) rfl)
      (gss_one (gs_ret g_str))
      gss_nil)
      (gss_cons (gs_if (gt_cmp (cg_eq (hu64 hr)) (g_b1 cg_len (by rfl) z.z_len boots_len (g_C (g_var (pv 4)))) (g_C g_int) rfl)
      (gss_one (gs_ret g_str))
      gss_nil)
      (gss_cons (gs_expr (g_mut PySem.F.slot_list_append PySem.F.type_list_append mt_append mr_append (pv 0) (ga_cons (g_tup (ga_cons (g_var (pv 2)) (ga_cons (g_t1 cg_tuple (by rfl) z.z_tuple boots_tuple (g_C (g_E (gn_b1 (cn_sorted (hu200 hr) rfl) (by rfl) z.z_sorted boots_sorted (g_C (g_bin og_add (g_var (pv 3)) (g_tup (ga_cons (g_ix (hu64 hr) (g_var (pv 1)) g_int (fun _ _ => rfl)) ga_nil)))))))) ga_nil))) ga_nil) (pe_bm PySem.F.plainAttrs_list PySem.F.slot_list_append PySem.F.type_list_append mt_append (pv 0) (ga_cons (g_tup (ga_cons (g_var (pv 2)) (ga_cons (g_t1 cg_tuple (by rfl) z.z_tuple boots_tuple (g_C (g_E (gn_b1 (cn_sorted (hu200 hr) rfl) (by rfl) z.z_sorted boots_sorted (g_C (g_bin og_add (g_var (pv 3)) (g_tup (ga_cons (g_ix (hu64 hr) (g_var (pv 1)) g_int (fun _ _ => rfl)) ga_nil)))))))) ga_nil))) ga_nil))))
      (gss_one (gs_ret g_non))))))
      gss_nil)
      (gss_cons (gs_if (gt_cmp (cg_eq (hu64 hr)) (g_var (pv 5)) (g_C g_str) rfl)
      (gss_cons (gs_if (gt_cmp (cg_notIn (hu64 hr)) (g_ix (hu64 hr) (g_var (pv 1)) g_int (fun _ _ => rfl)) (g_C (g_E (gn_lc (own := [("one", 7)]) rfl sc.nd (gi_seq (g_var (pv 2))) (blkOk_by (own := [("one", 7)]) (N := N__law_due) (sc := defScope s__law_due) (by decide +kernel)) (fun _ _ _ _ _ => (gg_name (pg_name (i := 7) sc.nd rfl (by first | exact .inl rfl | exact .inr rfl)))) (fun _ _ _ _ _ => gts_nil) (fun _ _ _ _ _ => (g_ix (hu64 hr) (g_var (pv 7)) g_int (fun _ _ => rfl)))))) rfl)
      (gss_one (gs_ret g_str))
      gss_nil)
      (gss_cons (gs_if (gt_not (gt_val (g_callH G__law_is_int (hr.mono (by omega)) (by rfl) ps0 (ga_cons (g_ix (hu64 hr) (g_var (pv 1)) g_int (fun _ _ => rfl)) (ga_cons g_int (ga_cons g_int ga_nil))))))
      (gss_one (gs_ret g_str))
      gss_nil)
      (gss_cons (gs_expr (g_mut PySem.F.slot_list_append PySem.F.type_list_append mt_append mr_append (pv 0) (ga_cons (g_tup (ga_cons (g_t1 cg_tuple (by rfl) z.z_tuple boots_tuple (g_C (g_E (gn_lc (own := [("name", 8), ("cost", 9)]) rfl sc.nd (gi_seq (g_var (pv 2))) (blkOk_by (own := [("name", 8), ("cost", 9)]) (N := N__law_due) (sc := defScope s__law_due) (by decide +kernel)) (fun _ _ _ _ _ => (gg_tup rfl (ggs_cons (gg_name (pg_name (i := 8) sc.nd rfl (by first | exact .inl rfl | exact .inr rfl))) (ggs_cons (gg_name (pg_name (i := 9) sc.nd rfl (by first | exact .inl rfl | exact .inr rfl))) ggs_nil)))) (fun _ _ _ _ _ => gts_nil) (fun _ _ _ _ _ => (g_tup (ga_cons (g_var (pv 8)) (ga_cons (g_if (gt_cmp (cg_eq (hu64 hr)) (g_var (pv 8)) (g_C (g_ix (hu64 hr) (g_var (pv 1)) g_int (fun _ _ => rfl))) rfl) (g_ix (hu64 hr) (g_var (pv 1)) g_int (fun _ _ => rfl)) (g_var (pv 9))) ga_nil)))))))) (ga_cons (g_var (pv 3)) ga_nil))) ga_nil) (pe_bm PySem.F.plainAttrs_list PySem.F.slot_list_append PySem.F.type_list_append mt_append (pv 0) (ga_cons (g_tup (ga_cons (g_t1 cg_tuple (by rfl) z.z_tuple boots_tuple (g_C (g_E (gn_lc (own := [("name", 8), ("cost", 9)]) rfl sc.nd (gi_seq (g_var (pv 2))) (blkOk_by (own := [("name", 8), ("cost", 9)]) (N := N__law_due) (sc := defScope s__law_due) (by decide +kernel)) (fun _ _ _ _ _ => (gg_tup rfl (ggs_cons (gg_name (pg_name (i := 8) sc.nd rfl (by first | exact .inl rfl | exact .inr rfl))) (ggs_cons (gg_name (pg_name (i := 9) sc.nd rfl (by first | exact .inl rfl | exact .inr rfl))) ggs_nil)))) (fun _ _ _ _ _ => gts_nil) (fun _ _ _ _ _ => (g_tup (ga_cons (g_var (pv 8)) (ga_cons (g_if (gt_cmp (cg_eq (hu64 hr)) (g_var (pv 8)) (g_C (g_ix (hu64 hr) (g_var (pv 1)) g_int (fun _ _ => rfl))) rfl) (g_ix (hu64 hr) (g_var (pv 1)) g_int (fun _ _ => rfl)) (g_var (pv 9))) ga_nil)))))))) (ga_cons (g_var (pv 3)) ga_nil))) ga_nil))))
      (gss_one (gs_ret g_non)))))
      gss_nil)
      (gss_cons (gs_if (gt_cmp (cg_notIn (hu64 hr)) (g_ix (hu64 hr) (g_var (pv 1)) g_int (fun _ _ => rfl)) (g_C (g_var (pv 4))) rfl)
      (gss_one (gs_ret g_str))
      gss_nil)
      (gss_cons (gs_if (gw_and (gt_cmp (cg_eq (hu64 hr)) (g_var (pv 5)) (g_C g_str) rfl) (gw_and1 (gt_not (gt_val (g_callH G__law_is_int (hr.mono (by omega)) (by rfl) ps0 (ga_cons (g_ix (hu64 hr) (g_var (pv 1)) g_int (fun _ _ => rfl)) (ga_cons g_int (ga_cons g_int ga_nil)))))))).pt
      (gss_one (gs_ret g_str))
      gss_nil)
      (gss_cons (gs_set (i := 6) sc.nd rfl (.inl rfl) (g_t1 cg_tuple (by rfl) z.z_tuple boots_tuple (g_C (g_E (gn_lc (own := [("one", 7)]) rfl sc.nd (gi_seq (g_var (pv 3))) (blkOk_by (own := [("one", 7)]) (N := N__law_due) (sc := defScope s__law_due) (by decide +kernel)) (fun _ _ _ _ _ => (gg_name (pg_name (i := 7) sc.nd rfl (by first | exact .inl rfl | exact .inr rfl)))) (fun _ _ _ _ _ => (gts_one (gt_cmp (cg_ne (hu64 hr)) (g_ix (hu64 hr) (g_var (pv 7)) g_int (fun _ _ => rfl)) (g_C (g_ix (hu64 hr) (g_var (pv 1)) g_int (fun _ _ => rfl))) rfl))) (fun _ _ _ _ _ => (g_var (pv 7))))))))
      (gss_cons (gs_if (gt_cmp (cg_eq (hu64 hr)) (g_var (pv 5)) (g_C g_str) rfl)
      (gss_one (gs_set (i := 6) sc.nd rfl (.inl rfl) (g_callH G__law_said (hr.mono (by omega)) (by rfl) ps0 (ga_cons (g_var (pv 3)) (ga_cons (g_ix (hu64 hr) (g_var (pv 1)) g_int (fun _ _ => rfl)) (ga_cons (g_ix (hu64 hr) (g_var (pv 1)) g_int (fun _ _ => rfl)) ga_nil))))))
      gss_nil)
      (gss_cons (gs_expr (g_mut PySem.F.slot_list_append PySem.F.type_list_append mt_append mr_append (pv 0) (ga_cons (g_tup (ga_cons (g_var (pv 2)) (ga_cons (g_var (pv 6)) ga_nil))) ga_nil) (pe_bm PySem.F.plainAttrs_list PySem.F.slot_list_append PySem.F.type_list_append mt_append (pv 0) (ga_cons (g_tup (ga_cons (g_var (pv 2)) (ga_cons (g_var (pv 6)) ga_nil))) ga_nil))))
      (gss_one (gs_ret g_non))))))))))))
/-! ### _law_stands -/
abbrev s__law_stands : Stmt := top 58
abbrev N__law_stands : List Str := ["book", "things", "folk"]
theorem sc__law_stands : FnScope N__law_stands ["book", "things", "folk"] (defScope s__law_stands) := ⟨rfl, rfl, rfl, by decide +kernel, rfl, by decide +kernel, by decide +kernel⟩
def m__law_stands (p_Book_things : PSp) (p_Book_folk : PSp) (p_Book___len__ : PSp) (p_Book_left : PSp) (p_shares : PSp) (p_left : PSp) : MS :=
  mSeq (mIfS (mOr (mCmpB neD (mMeth p_Book_things (fun _ => False) 0 mNil) (mVar 1)) (mOr (mCmpB neD (mMeth p_Book_folk (fun _ => False) 0 mNil) (mVar 2)) (mCmpB neD (mLenB p_Book___len__ 0) (mCall1 lenD (mVar 2)))))
  (mRet (mC (.bool false)))
  (mNx))
  (mRet (mCmp eqD (mMethN p_Book_left 0) (mCall p_shares Wish.no.RE (mCons (mVar 1) (mCons (mVar 2) (mCons (mCall p_left Wish.no.RE (mCons (mVar 1) (mCons (mVar 2) (mNil)))) (mNil)))))))
def b__law_stands (p_Book_things : PSp) (p_Book_folk : PSp) (p_Book___len__ : PSp) (p_Book_left : PSp) (p_shares : PSp) (p_left : PSp) : PSp := bodyD 3 N__law_stands (m__law_stands p_Book_things p_Book_folk p_Book___len__ p_Book_left p_shares p_left)
theorem ok__law_stands {P : Program} {w : World} {K : PySem.W.Frag} {mg : Str → Option Value} {base : Heap} (z : Zs K mg) {p_Book_things : PSp} {p_Book_folk : PSp} {p_Book___len__ : PSp} {p_Book_left : PSp} {p_shares : PSp} {p_left : PSp} {C : Addr} (B : BookK K C) (G_Book_things : HasM P w K mg base CX0 1 C "things" ["self"] (spD K mg 1 p_Book_things)) (G_Book_folk : HasM P w K mg base CX0 1 C "folk" ["self"] (spD K mg 1 p_Book_folk)) (G_Book___len__ : HasM P w K mg base CX0 1 C "__len__" ["self"] (spD K mg 1 p_Book___len__)) (G_Book_left : HasM P w K mg base CX0 6 C "left" ["self"] (spN K mg 1 p_Book_left)) (G_shares : Has P w K mg base 7 "shares" ["things", "folk", "lot"] (spD K mg 3 p_shares)) (G_left : Has P w K mg base 6 "left" ["things", "folk"] (spD K mg 2 p_left)) {f : Addr} {fd : FuncData} (F : Fun K "_law_stands" "_law_stands" s__law_stands f fd) :
    FnOk P w K mg base CX0 (7 + 1) f fd ["book", "things", "folk"] (spD K mg 3 (b__law_stands p_Book_things p_Book_folk p_Book___len__ p_Book_left p_shares p_left)) := by
  have sc := sc__law_stands
  exact fn_okD F sc rfl fun cdv A outer s H E hr => by
    exact (gss_cons (gs_if (gw_or (gt_cmp (cg_ne (hu64 hr)) (g_meth0 B G_Book_things (hr.mono (by omega)) preD ps0 rfl (pv 0)) (g_C (g_var (pv 1))) rfl) (gw_or (gt_cmp (cg_ne (hu64 hr)) (g_meth0 B G_Book_folk (hr.mono (by omega)) preD ps0 rfl (pv 0)) (g_C (g_var (pv 2))) rfl) (gw_or1 (gt_cmp (cg_ne (hu64 hr)) (g_lenB B G_Book___len__ (hr.mono (by omega)) preD ps0 (pv 0) (by rfl) z.z_len) (g_C (g_b1 cg_len (by rfl) z.z_len boots_len (g_C (g_var (pv 2))))) rfl)))).pt
      (gss_one (gs_ret g_bl))
      gss_nil)
      (gss_one (gs_ret (g_cmp (cg_eq (hu64 hr)) (g_E (gn_meth0 B G_Book_left (hr.mono (by omega)) rfl (pv 0))) (g_C (g_callH G_shares hr (by rfl) ps0 (ga_cons (g_var (pv 1)) (ga_cons (g_var (pv 2)) (ga_cons (g_callH G_left (hr.mono (by omega)) (by rfl) ps0 (ga_cons (g_var (pv 1)) (ga_cons (g_var (pv 2)) ga_nil))) ga_nil))))) rfl))))
/-! ### law -/
abbrev s_law : Stmt := top 59
abbrev N_law : List Str := ["script", "things", "rows", "book", "k", "deed", "full", "sign", "words", "one"]
theorem sc_law : FnScope N_law ["script"] (defScope s_law) := ⟨rfl, rfl, rfl, by decide +kernel, rfl, by decide +kernel, by decide +kernel⟩
def m_law (p__law_things : PSp) (p__law_well : PSp) (p_need_things : PSp) (p__law_deed : PSp) (p__law_done : PSp) (p__law_due : PSp) (p__law_stands : PSp) (p_Book_left : PSp) (p_Book_back : PSp) (p_Book_come : PSp) : MS :=
  mSeq (mSet 1 (mCallT p__law_things Wish.no.RE (mCallRN p__law_well Wish.no.RE 0 0 (mHere 0 (mCons (mC (.int 0)) (mNil)))) (mCons (mC (.int 5)) (mNil))))
  (mSeq (mPar2 2 3 (pN (mLst (mCons (mTup (mCons (mVar 1) (mCons (mTup (mNil)) (mNil)))) (mNil))) (pB (mBook p_need_things (mVar 1)))))
  (mSeq (mFor (iRg2 (mC (.int 1)) (mCallM max2D (mCons (mC (.int 18)) (mCons (mCallM min2D (mCons (mC (.int 40)) (mCons (mLenS 0) (mNil)))) (mNil))))) (mGN 4)
  (mSeq (mSet 5 (mCallT p__law_deed Wish.no.RE (mCallRN p__law_well Wish.no.RE 0 0 (mHere 0 (mCons (mVar 4) (mNil)))) (mCons (mIx (mIxV 2 (mNeg (mC (.int 1)))) (mC (.int 0))) (mCons (mIx (mIxV 2 (mNeg (mC (.int 1)))) (mC (.int 1))) (mNil)))))
  (mSeq (mIfS (mOr (mCmpB neD (mCallR p__law_done Wish.no.RE 0 3 (mHere 3 (mCons (mVar 5) (mNil)))) (mCallR p__law_due Wish.no.RE 0 2 (mHere 2 (mCons (mVar 5) (mNil))))) (mNot (mT (mCallR p__law_stands Wish.no.RE 0 3 (mHere 3 (mCons (mIx (mIxV 2 (mNeg (mC (.int 1)))) (mC (.int 0))) (mCons (mIx (mIxV 2 (mNeg (mC (.int 1)))) (mC (.int 1))) (mNil))))))))
  (mRet (mC (.bool false)))
  (mNx))
  (mSeq (mIfS (mOr (mT (mEqD 3 (mIxV 2 (mNeg (mC (.int 1)))))) (mCmpB neD (mEqBB 3 (mBook p_need_things (mVar 1))) (mCmp eqD (mIxV 2 (mNeg (mC (.int 1)))) (mTup (mCons (mVar 1) (mCons (mTup (mNil)) (mNil)))))))
  (mRet (mC (.bool false)))
  (mNx))
  (mDrop (mTmpApp (mMethN p_Book_left 3) (mC (.int 1))))))))
  (mSeq (mWhile (mCmpB gtD (mCall1 lenD (mVarC 2)) (mC (.int 1)))
  (mSeq (mDrop (mMut 2 popD mNil))
  (mIfS (mOr (mT (mNotN (mMeth p_Book_back (fun _ => False) 3 mNil))) (mNot (mT (mCallR p__law_stands Wish.no.RE 0 3 (mHere 3 (mCons (mIx (mIxV 2 (mNeg (mC (.int 1)))) (mC (.int 0))) (mCons (mIx (mIxV 2 (mNeg (mC (.int 1)))) (mC (.int 1))) (mNil))))))))
  (mRet (mC (.bool false)))
  (mNx))))
  (mSeq (mSetB 6 (mBook p_need_things (mTup (mCons (mTup (mCons (mC (.str "a")) (mCons (mC (.int 1)) (mNil)))) (mNil)))))
  (mSeq (mFor (iTxt (mC (.str "abcdefgh"))) (mGN 7)
  (mDrop (mMeth p_Book_come (fun _ => False) 6 (mCons (mTup (mCons (mVar 7) (mCons (mTup (mCons (mC (.str "a")) (mNil))) (mCons (mC (.int 1)) (mCons (mC (.int 1)) (mNil)))))) (mNil)))))
  (mSeq (mSet 8 (mLc (iSq (mLst (mCons (mTup (mCons (mC (.str "z")) (mCons (mTup (mCons (mC (.str "a")) (mNil))) (mCons (mC (.int 1)) (mCons (mC (.int 1)) (mNil)))))) (mCons (mTup (mCons (mC (.str "a")) (mCons (mTup (mCons (mC (.str "a")) (mNil))) (mCons (mC (.int 2)) (mCons (mC (.int 2)) (mNil)))))) (mCons (mC .none) (mNil)))))) (mGN 9) (mYes) (mCallR p__law_done Wish.no.RE 0 6 (mHere 6 (mCons (mTup (mCons (mC (.str "come")) (mCons (mVar 9) (mNil)))) (mNil)))) [9]))
  (mRet (mAndV (mCmp eqD (mVar 8) (mLst (mCons (mC (.str "full")) (mCons (mC (.str "taken")) (mCons (mC (.str "one")) (mNil)))))) (mAndV (mCmp eqD (mCallR p__law_done Wish.no.RE 0 3 (mHere 3 (mCons (mTup (mCons (mC (.str "back")) (mNil))) (mNil)))) (mC (.str "back"))) (mEqBB 3 (mBook p_need_things (mVar 1))))))))))))
def b_law (p__law_things : PSp) (p__law_well : PSp) (p_need_things : PSp) (p__law_deed : PSp) (p__law_done : PSp) (p__law_due : PSp) (p__law_stands : PSp) (p_Book_left : PSp) (p_Book_back : PSp) (p_Book_come : PSp) : PSp := bodyD 1 N_law (m_law p__law_things p__law_well p_need_things p__law_deed p__law_done p__law_due p__law_stands p_Book_left p_Book_back p_Book_come)
theorem ok_law {P : Program} {w : World} {K : PySem.W.Frag} {mg : Str → Option Value} {base : Heap} (z : Zs K mg) {p__law_things : PSp} {p__law_well : PSp} {p_need_things : PSp} {p__law_deed : PSp} {p__law_done : PSp} {p__law_due : PSp} {p__law_stands : PSp} {p_Book_left : PSp} {p_Book_back : PSp} {p_Book_come : PSp} {C : Addr} (B : BookK K C) (G__law_things : Has P w K mg base 2 "_law_things" ["well", "top"] (spD K mg 2 p__law_things)) (G__law_well : Has P w K mg base 1 "_law_well" ["script", "k"] (spN K mg 2 p__law_well)) (G_Book___init__ : HasMk P w K mg base 5 C p_need_things) (G_need_things : Has P w K mg base 4 "need_things" ["things"] (spD K mg 1 p_need_things)) (G__law_deed : Has P w K mg base 3 "_law_deed" ["well", "things", "folk"] (spD K mg 3 p__law_deed)) (G__law_done : Has P w K mg base 5 "_law_done" ["book", "deed"] (spD K mg 2 p__law_done)) (G__law_due : Has P w K mg base 6 "_law_due" ["rows", "deed"] (spD K mg 2 p__law_due)) (G__law_stands : Has P w K mg base 8 "_law_stands" ["book", "things", "folk"] (spD K mg 3 p__law_stands)) (G_Book___eq__ : HasM P w K mg base CX0 1 C "__eq__" ["self", "other"] (spEqB K C)) (G_Book_left : HasM P w K mg base CX0 6 C "left" ["self"] (spN K mg 1 p_Book_left)) (G_Book_back : HasM P w K mg base (L2N.CX P w) 1 C "back" ["self"] (spX K mg 1 p_Book_back)) (G_Book_come : HasM P w K mg base (L2N.CX P w) 4 C "come" ["self", "one"] (spX K mg 2 p_Book_come)) {f : Addr} {fd : FuncData} (F : Fun K "law" "law" s_law f fd) :
    FnOk P w K mg base CX0 (8 + 1) f fd ["script"] (spD K mg 1 (b_law p__law_things p__law_well p_need_things p__law_deed p__law_done p__law_due p__law_stands p_Book_left p_Book_back p_Book_come)) := by
  have sc := sc_law
  exact fn_okD F sc rfl fun cdv A outer s H E hr => by
    exact (gss_cons (gs_set (i := 1) sc.nd rfl (.inl rfl) (g_callTH G__law_things (hr.mono (by omega)) (by rfl) ps0 (gn_callRH G__law_well (hr.mono (by omega)) (by rfl) ps0 (gar_here (pv 0) (ga_cons g_int ga_nil))) (ga_cons g_int ga_nil)))
      (gss_cons (gs_par (i := 2) (j := 3) rfl sc.nd rfl rfl (by decide) rfl rfl (gp_N (gn_lst (ga_cons (g_tup (ga_cons (g_var (pv 1)) (ga_cons (g_tup ga_nil) ga_nil))) ga_nil)) (gp_B (gb_make B G_Book___init__ (hr.mono (by omega)) (by rfl) (g_var (pv 1))))) (by with_unfolding_all rfl))
      (gss_cons (gs_for PassesOwn.never rfl (gi_range2 (by rfl) z.z_range g_int (g_bm (cm_max2 rfl) (by rfl) z.z_max boots_max (ga_cons g_int (ga_cons (g_bm (cm_min2 rfl) (by rfl) z.z_min boots_min (ga_cons g_int (ga_cons (g_lenS (by rfl) z.z_len (pv 0)) ga_nil))) ga_nil)))) (gg_name (pg_name (i := 4) sc.nd rfl (.inl rfl)))
      (gss_cons (gs_set (i := 5) sc.nd rfl (.inl rfl) (g_callTH G__law_deed (hr.mono (by omega)) (by rfl) ps0 (gn_callRH G__law_well (hr.mono (by omega)) (by rfl) ps0 (gar_here (pv 0) (ga_cons (g_var (pv 4)) ga_nil))) (ga_cons (g_ix (hu64 hr) (g_ixV (hu64 hr) (pv 2) (g_neg g_int) (fun _ _ => rfl)) g_int (fun _ _ => rfl)) (ga_cons (g_ix (hu64 hr) (g_ixV (hu64 hr) (pv 2) (g_neg g_int) (fun _ _ => rfl)) g_int (fun _ _ => rfl)) ga_nil))))
      (gss_cons (gs_if (gw_or (gt_cmp (cg_ne (hu64 hr)) (g_callRH G__law_done (hr.mono (by omega)) (by rfl) ps0 (gar_here (pv 3) (ga_cons (g_var (pv 5)) ga_nil))) (g_C (g_callRH G__law_due (hr.mono (by omega)) (by rfl) ps0 (gar_here (pv 2) (ga_cons (g_var (pv 5)) ga_nil)))) rfl) (gw_or1 (gt_not (gt_val (g_callRH G__law_stands hr (by rfl) ps0 (gar_here (pv 3) (ga_cons (g_ix (hu64 hr) (g_ixV (hu64 hr) (pv 2) (g_neg g_int) (fun _ _ => rfl)) g_int (fun _ _ => rfl)) (ga_cons (g_ix (hu64 hr) (g_ixV (hu64 hr) (pv 2) (g_neg g_int) (fun _ _ => rfl)) g_int (fun _ _ => rfl)) ga_nil)))))))).pt
      (gss_one (gs_ret g_bl))
      gss_nil)
      (gss_cons (gs_if (gw_or (gt_eqD B G_Book___eq__ (hr.mono (by omega)) ps0 (pv 3) (g_ixV (hu64 hr) (pv 2) (g_neg g_int) (fun _ _ => rfl))) (gw_or1 (gt_cmp (cg_ne (hu64 hr)) (g_eqBB B G_Book___eq__ (hr.mono (by omega)) ps0 (pv 3) (gb_make B G_Book___init__ (hr.mono (by omega)) (by rfl) (g_var (pv 1)))) (g_C (g_cmp (cg_eq (hu64 hr)) (g_ixV (hu64 hr) (pv 2) (g_neg g_int) (fun _ _ => rfl)) (g_C (g_tup (ga_cons (g_var (pv 1)) (ga_cons (g_tup ga_nil) ga_nil)))) rfl)) rfl))).pt
      (gss_one (gs_ret g_bl))
      gss_nil)
      (gss_one (gs_expr (g_tmpApp (gn_meth0 B G_Book_left (hr.mono (by omega)) rfl (pv 3)) g_int (by rfl) (pe_bm PySem.F.plainAttrs_list PySem.F.slot_list_append PySem.F.type_list_append mt_append (gn_meth0 B G_Book_left (hr.mono (by omega)) rfl (pv 3)) (pa_cons g_int pa_nil)))))))))
      (gss_cons (gs_while PassesOwn.never (gt_cmp cg_gt (g_b1 cg_len (by rfl) z.z_len boots_len (g_varC (pv 2))) (g_C g_int) rfl)
      (gss_cons (gs_expr (g_mut0 mr_pop (pe_bm0 PySem.F.plainAttrs_list PySem.F.slot_list_pop PySem.F.type_list_pop mt_pop (pv 2))))
      (gss_one (gs_if (gw_or (gt_notN (g_meth0 B G_Book_back (hr.mono (by omega)) preX passN rfl (pv 3))) (gw_or1 (gt_not (gt_val (g_callRH G__law_stands hr (by rfl) ps0 (gar_here (pv 3) (ga_cons (g_ix (hu64 hr) (g_ixV (hu64 hr) (pv 2) (g_neg g_int) (fun _ _ => rfl)) g_int (fun _ _ => rfl)) (ga_cons (g_ix (hu64 hr) (g_ixV (hu64 hr) (pv 2) (g_neg g_int) (fun _ _ => rfl)) g_int (fun _ _ => rfl)) ga_nil)))))))).pt
      (gss_one (gs_ret g_bl))
      gss_nil))))
      (gss_cons (gs_setB (i := 6) sc.nd rfl (.inr rfl) (gb_make B G_Book___init__ (hr.mono (by omega)) (by rfl) (g_tup (ga_cons (g_tup (ga_cons g_str (ga_cons g_int ga_nil))) ga_nil))))
      (gss_cons (gs_for PassesOwn.never rfl (gi_txt g_str) (gg_name (pg_name (i := 7) sc.nd rfl (.inl rfl)))
      (gss_one (gs_expr (g_meth B G_Book_come (hr.mono (by omega)) preX passN rfl (pv 6) (ga_cons (g_tup (ga_cons (g_var (pv 7)) (ga_cons (g_tup (ga_cons g_str ga_nil)) (ga_cons g_int (ga_cons g_int ga_nil))))) ga_nil)))))
      (gss_cons (gs_setLc (i := 8) (own := [("one", 9)]) rfl sc.nd rfl rfl (sw_true rfl rfl rfl (by decide +kernel)) (gi_seq (g_E (gn_lst (ga_cons (g_tup (ga_cons g_str (ga_cons (g_tup (ga_cons g_str ga_nil)) (ga_cons g_int (ga_cons g_int ga_nil))))) (ga_cons (g_tup (ga_cons g_str (ga_cons (g_tup (ga_cons g_str ga_nil)) (ga_cons g_int (ga_cons g_int ga_nil))))) (ga_cons g_non ga_nil)))))) (blkOk_by (own := [("one", 9)]) (N := N_law) (sc := defScope s_law) (by decide +kernel)) (fun _ _ _ _ _ => (gg_name (pg_name (i := 9) sc.nd rfl (by first | exact .inl rfl | exact .inr rfl)))) (fun _ _ _ _ _ => gts_nil) (fun _ _ _ _ _ => (g_callRH G__law_done (hr.mono (by omega)) (by rfl) ps0 (gar_here (pv 6) (ga_cons (g_tup (ga_cons g_str (ga_cons (g_var (pv 9)) ga_nil))) ga_nil)))))
      (gss_one (gs_ret (g_and (g_cmp (cg_eq (hu64 hr)) (g_var (pv 8)) (g_C (g_E (gn_lst (ga_cons g_str (ga_cons g_str (ga_cons g_str ga_nil)))))) rfl) (g_and (g_cmp (cg_eq (hu64 hr)) (g_callRH G__law_done (hr.mono (by omega)) (by rfl) ps0 (gar_here (pv 3) (ga_cons (g_tup (ga_cons g_str ga_nil)) ga_nil))) (g_C g_str) rfl) (g_one (g_eqBB B G_Book___eq__ (hr.mono (by omega)) ps0 (pv 3) (gb_make B G_Book___init__ (hr.mono (by omega)) (by rfl) (g_var (pv 1))))))))))))))))
end K51


set_option Elab.async false
set_option maxRecDepth 100000
set_option maxHeartbeats 1000000
/-! GP1: plain rules for meanings: tests, loops, comprehensions, values with a type. -/
namespace G
open PySem PySem.Spec PyProof.Rows L2
open PySem.W (Datum)

theorem iteB {b : Bool} {A B : Prop} (h : b = true → A) (k : b = false → B) : if b = true then A else B := by
  cases b with
  | true => exact h rfl
  | false => exact k rfl
theorem iteY {b : Bool} {A B : Prop} (hb : b = true) (h : A) : if b = true then A else B := by rw [if_pos hb]; exact h
theorem iteNo {b : Bool} {A B : Prop} (hb : b = false) (h : B) : if b = true then A else B := by rw [hb, if_neg Bool.false_ne_true]; exact h

/-! ### values with a type -/
theorem gd_dat {α : Type} [DecidableEq α] [Datum α] (a : α) (h : Datum.depth α ≤ 60 := by decide) : Gd 60 (Datum.toD a) := ⟨Datum.plain a, Nat.le_trans (Datum.depth_le a) h⟩
theorem eq_dat {α : Type} [DecidableEq α] [Datum α] {a b : α} {R : Bool → Prop} (q : R (decide (a = b))) (h : Datum.depth α ≤ 60 := by decide) : eqD (Datum.toD a) (Datum.toD b) R := by
  rw [eqD_is]
  exact ⟨gd_dat a h, gd_dat b h, by rw [Datum.eqv]; exact q⟩
theorem ne_dat {α : Type} [DecidableEq α] [Datum α] {a b : α} {R : Bool → Prop} (q : R (!decide (a = b))) (h : Datum.depth α ≤ 60 := by decide) : neD (Datum.toD a) (Datum.toD b) R := by
  rw [neD_is]
  exact ⟨gd_dat a h, gd_dat b h, by rw [Datum.eqv]; exact q⟩
theorem in_lst {α : Type} [DecidableEq α] [Datum α] {a : α} {l : List α} {neg : Bool} {R : Bool → Prop} (q : R (neg ^^ decide (a ∈ l))) (h : Datum.depth α + 1 ≤ 60 := by decide) : inD neg (Datum.toD a) (.list (l.map Datum.toD)) R := by
  rw [inD_is]
  have e : inD0 neg (Datum.toD a) (.list (l.map Datum.toD)) R = (Gd 60 (Datum.toD a) ∧ Gd 60 (.list (l.map Datum.toD)) ∧ R (neg ^^ ((l.map Datum.toD).any fun y => PyData.eqv y (Datum.toD a)))) := by
    cases (Datum.toD a) <;> rfl
  rw [e, PySem.W.any_datum]
  exact ⟨gd_dat a (by omega), gd_dat (α := List α) l h, q⟩
theorem in_tup {α : Type} [DecidableEq α] [Datum α] {a : α} {l : List α} {neg : Bool} {R : Bool → Prop} (q : R (neg ^^ decide (a ∈ l))) (h : Datum.depth α + 1 ≤ 60 := by decide) : inD neg (Datum.toD a) (.tuple (l.map Datum.toD)) R := by
  rw [inD_is]
  have e : inD0 neg (Datum.toD a) (.tuple (l.map Datum.toD)) R = (Gd 60 (Datum.toD a) ∧ Gd 60 (.tuple (l.map Datum.toD)) ∧ R (neg ^^ ((l.map Datum.toD).any fun y => PyData.eqv y (Datum.toD a)))) := by
    cases (Datum.toD a) <;> rfl
  rw [e, PySem.W.any_datum]
  exact ⟨gd_dat a (by omega), gd_dat (α := PySem.W.Tup α) ⟨l⟩ h, q⟩
theorem in_strs {a : Str} {l : List Str} {neg : Bool} {R : Bool → Prop} (q : R (neg ^^ decide (a ∈ l))) : inD neg (.str a) (.list (l.map .str)) R := in_lst (α := Str) q
theorem in_strT {a : Str} {l : List Str} {neg : Bool} {R : Bool → Prop} (q : R (neg ^^ decide (a ∈ l))) : inD neg (.str a) (.tuple (l.map .str)) R := in_tup (α := Str) q

theorem in_chr {c : Nat} {z : Str} {neg : Bool} {R : Bool → Prop} (q : R (neg ^^ decide (c ∈ z.cps.toList))) : inD neg (.str ⟨#[c]⟩) (.str z) R := by
  rw [inD_is]
  exact ⟨c, rfl, q⟩
theorem in_dict {β : Type} {v : β → PyData} {k : Str} {l : List (PyData × PyData)} {neg : Bool} {R : Bool → Prop} (q : R (neg ^^ (dget l k).isSome)) : inD neg (.str k) (.dict l) R := by
  rw [inD_is]
  exact q
/-! ### loops -/
theorem forL {α : Type} {g : MG} {tb : MS} {D : PEnd} (enc : α → PyData) (l : List α) (I : List α → Ms → Prop) {ρ : Ms} (h : I [] ρ) (done : ∀ ρ, I l ρ → D.nx ρ)
    (step : ∀ p x r ρ (N : Ms → Prop), l = p ++ x :: r → I p ρ → (∀ ρ', I (p ++ [x]) ρ' → N ρ') → g (enc x) ρ fun ρ1 => tb { D with nx := N, ct := N, bk := D.nx } ρ1) : mForL g tb D (l.map enc) ρ := by
  have key : ∀ (r p : List α) ρ, l = p ++ r → I p ρ → mForL g tb D (r.map enc) ρ := by
    intro r
    induction r with
    | nil => intro p ρ e h; rw [List.append_nil] at e; subst e; exact done ρ h
    | cons x r ih => intro p ρ e h; exact step p x r ρ _ e h fun ρ' h' => ih (p ++ [x]) ρ' (by rw [e]; simp) h'
  exact key l [] ρ rfl h
/-- the counted loop -/
theorem forR {g : MG} {tb : MS} {D : PEnd} (n : Nat) (I : Nat → Ms → Prop) {ρ : Ms} (h : I 0 ρ) (done : ∀ ρ, I n ρ → D.nx ρ)
    (step : ∀ k ρ (N : Ms → Prop), k < n → I k ρ → (∀ ρ', I (k + 1) ρ' → N ρ') → g (.int (k : Int)) ρ fun ρ1 => tb { D with nx := N, ct := N, bk := D.nx } ρ1) : mForL g tb D (rangeD n) ρ := by
  refine forL (fun (k : Nat) => PyData.int (k : Int)) (List.range n) (fun p ρ => I p.length ρ) h (fun ρ q => done ρ (by rwa [List.length_range] at q)) fun p x r ρ N e h q => ?_
  have hx : p.length < n := by have := congrArg List.length e; rw [List.length_range, List.length_append, List.length_cons] at this; omega
  have ex : x = p.length := by
    have e2 : (List.range n)[p.length]? = some x := by rw [e, List.getElem?_append_right (Nat.le_refl _), Nat.sub_self]; rfl
    rw [List.getElem?_range hx] at e2
    exact (Option.some.inj e2).symm
  subst ex
  exact step p.length ρ N hx h fun ρ' h' => q ρ' (by rwa [List.length_append])
theorem whileL {c : MB} {tb : MS} {D : PEnd} {ρ : Ms} (J : Nat → Ms → Prop) (m : Nat) (h : J m ρ) (step : ∀ m ρ, J m ρ → c ρ fun b ρ1 =>
  if b = true then tb { D with nx := fun ρ' => ∃ m', m' < m ∧ J m' ρ', ct := fun ρ' => ∃ m', m' < m ∧ J m' ρ', bk := D.nx } ρ1 else D.nx ρ1) : mWhile c tb D ρ := ⟨J, ⟨m, h⟩, step⟩

/-! ### comprehensions whose items change nothing -/
theorem lcL {α : Type} {g : MG} {tt : MB} {te : ME} {vs : List Nat} {R : List PyData → Ms → Prop} {ρ0 : Ms} (enc : α → PyData) (l : List α) (c : α → Bool) (f : α → PyData)
    (q : R ((l.filter c).map f) ρ0)
    (h : ∀ x ∈ l, ∀ (Ky : PyData → Ms → Prop) (Kn : Ms → Prop), (c x = true → Ky (f x) ρ0) → (c x = false → Kn ρ0) → g (enc x) ρ0 fun ρ1 => tt ρ1 fun b ρ2 => if b = true then te ρ2 fun y ρ3 => Ky y (wipeM ρ3 vs) else Kn (wipeM ρ2 vs)) :
    mLcL g tt te vs R (l.map enc) [] ρ0 := by
  have key : ∀ (r : List α) (acc : List PyData), (∀ x ∈ r, x ∈ l) → R (acc ++ (r.filter c).map f) ρ0 → mLcL g tt te vs R (r.map enc) acc ρ0 := by
    intro r
    induction r with
    | nil => intro acc _ q; rw [List.filter_nil, List.map_nil, List.append_nil] at q; exact q
    | cons x r ih =>
      intro acc hs q
      refine h x (hs x (List.mem_cons_self ..)) (fun y ρ => mLcL g tt te vs R (r.map enc) (acc ++ [y]) ρ) (fun ρ => mLcL g tt te vs R (r.map enc) acc ρ) (fun e => ?_) fun e => ?_
      · refine ih _ (fun z hz => hs z (List.mem_cons_of_mem _ hz)) ?_
        rw [List.filter_cons_of_pos e] at q
        simpa using q
      · refine ih _ (fun z hz => hs z (List.mem_cons_of_mem _ hz)) ?_
        rw [List.filter_cons_of_neg (by rw [e]; exact Bool.false_ne_true)] at q
        exact q
  exact key l [] (fun _ h => h) (by simpa using q)
/-- .. without a test -/
theorem lcA {α : Type} {g : MG} {te : ME} {vs : List Nat} {R : List PyData → Ms → Prop} {ρ0 : Ms} (enc : α → PyData) (l : List α) (f : α → PyData) (q : R (l.map f) ρ0)
    (h : ∀ x ∈ l, ∀ (Ky : PyData → Ms → Prop), Ky (f x) ρ0 → g (enc x) ρ0 fun ρ1 => te ρ1 fun y ρ3 => Ky y (wipeM ρ3 vs)) :
    mLcL g mYes te vs R (l.map enc) [] ρ0 := by
  have key : ∀ (r : List α) (acc : List PyData), (∀ x ∈ r, x ∈ l) → R (acc ++ r.map f) ρ0 → mLcL g mYes te vs R (r.map enc) acc ρ0 := by
    intro r
    induction r with
    | nil => intro acc _ q; rw [List.map_nil, List.append_nil] at q; exact q
    | cons x r ih =>
      intro acc hs q
      show g (enc x) ρ0 fun ρ1 => te ρ1 fun y ρ3 => mLcL g mYes te vs R (r.map enc) (acc ++ [y]) (wipeM ρ3 vs)
      exact h x (hs x (List.mem_cons_self ..)) (fun y ρ => mLcL g mYes te vs R (r.map enc) (acc ++ [y]) ρ) (ih _ (fun z hz => hs z (List.mem_cons_of_mem _ hz)) (by simpa using q))
  exact key l [] (fun _ h => h) (by simpa using q)
/-- .. whose items change the slots: an invariant over what is there so far -/
theorem lcI {α : Type} {g : MG} {tt : MB} {te : ME} {vs : List Nat} {R : List PyData → Ms → Prop} {ρ0 : Ms} (enc : α → PyData) (l : List α) (I : List α → List PyData → Ms → Prop) (h0 : I [] [] ρ0) (done : ∀ acc ρ, I l acc ρ → R acc ρ)
    (h : ∀ p x r acc ρ, l = p ++ x :: r → I p acc ρ → ∀ (Ky : PyData → Ms → Prop) (Kn : Ms → Prop), (∀ y ρ', I (p ++ [x]) (acc ++ [y]) ρ' → Ky y ρ') → (∀ ρ', I (p ++ [x]) acc ρ' → Kn ρ') → g (enc x) ρ fun ρ1 => tt ρ1 fun b ρ2 => if b = true then te ρ2 fun y ρ3 => Ky y (wipeM ρ3 vs) else Kn (wipeM ρ2 vs)) :
    mLcL g tt te vs R (l.map enc) [] ρ0 := by
  have key : ∀ (r p : List α) (acc : List PyData) ρ, l = p ++ r → I p acc ρ → mLcL g tt te vs R (r.map enc) acc ρ := by
    intro r
    induction r with
    | nil => intro p acc ρ e q; rw [List.append_nil] at e; subst e; exact done acc ρ q
    | cons x r ih =>
      intro p acc ρ e q
      exact h p x r acc ρ e q (fun y ρ' => mLcL g tt te vs R (r.map enc) (acc ++ [y]) ρ') (fun ρ' => mLcL g tt te vs R (r.map enc) acc ρ') (fun y ρ' z => ih _ _ _ (by rw [e]; simp) z) fun ρ' z => ih _ _ _ (by rw [e]; simp) z
  exact key l [] [] ρ0 rfl h0
/-- dict comprehensions, no test, items that change nothing -/
theorem dcA {α : Type} {g : MG} {tk te : ME} {vs : List Nat} {R : List (PyData × PyData) → Ms → Prop} {ρ0 : Ms} (enc : α → PyData) (l : List α) (k : α → Str) (f : α → PyData) (q : R (mergeD (l.map fun x => (k x, f x))) ρ0)
    (h : ∀ x ∈ l, ∀ (K : Str → PyData → Ms → Prop), K (k x) (f x) ρ0 → g (enc x) ρ0 fun ρ1 => tk ρ1 fun n ρ2 => te ρ2 fun y ρ3 => match n with
      | .str n => K n y (wipeM ρ3 vs)
      | _ => False) :
    mDcL g mYes tk te vs R (l.map enc) [] ρ0 := by
  have key : ∀ (r : List α) (acc : List (PyData × PyData)), (∀ x ∈ r, x ∈ l) → R ((r.map fun x => (k x, f x)).foldl (fun acc p => dput acc p.1 p.2) acc) ρ0 → mDcL g mYes tk te vs R (r.map enc) acc ρ0 := by
    intro r
    induction r with
    | nil => intro acc _ q; exact q
    | cons x r ih =>
      intro acc hs q
      show g (enc x) ρ0 fun ρ1 => tk ρ1 fun n ρ2 => te ρ2 fun y ρ3 => match n with
          | .str n => mDcL g mYes tk te vs R (r.map enc) (dput acc n y) (wipeM ρ3 vs)
          | _ => False
      exact h x (hs x (List.mem_cons_self ..)) (fun n y ρ => mDcL g mYes tk te vs R (r.map enc) (dput acc n y) ρ) (ih _ (fun z hz => hs z (List.mem_cons_of_mem _ hz)) q)
  exact key l [] (fun _ h => h) q

/-! ### dicts with text keys, in a plain form -/
def dS {β : Type} (v : β → PyData) (l : List (Str × β)) : List (PyData × PyData) := l.map fun p => (.str p.1, v p.2)
def lput {β : Type} (l : List (Str × β)) (k : Str) (b : β) : List (Str × β) := if k ∈ l.map (·.1) then l.map (fun p => if p.1 = k then (p.1, b) else p) else l ++ [(k, b)]
def lget {β : Type} : List (Str × β) → Str → Option β
  | [], _ => none
  | p :: r, k => if p.1 = k then some p.2 else lget r k
section
variable {β : Type} {v : β → PyData}
theorem dS_any : ∀ (l : List (Str × β)) (k : Str), ((dS v l).any fun p => isK p.1 k) = decide (k ∈ l.map (·.1))
  | [], k => by simp [dS]
  | p :: r, k => by
    have ih := dS_any r k
    unfold dS at ih ⊢
    rw [List.map_cons, List.any_cons, ih, List.map_cons]
    show (decide (p.1 = k) || _) = _
    by_cases h : p.1 = k
    · subst h; simp
    · have h' : ¬ k = p.1 := fun z => h z.symm
      simp [h, h']
theorem dS_put (l : List (Str × β)) (k : Str) (b : β) : dput (dS v l) k (v b) = dS v (lput l k b) := by
  unfold dput lput
  rw [dS_any]
  by_cases h : k ∈ l.map (·.1)
  · rw [if_pos (decide_eq_true h), if_pos h]
    unfold dS
    rw [List.map_map, List.map_map]
    refine List.map_congr_left fun p _ => ?_
    show (if isK (.str p.1) k = true then _ else _) = _
    show (if decide (p.1 = k) = true then _ else _) = _
    by_cases e : p.1 = k
    · simp [e]
    · simp [e]
  · rw [if_neg (by simp only [decide_eq_true_eq]; exact h), if_neg h]
    unfold dS
    rw [List.map_append]; rfl
theorem dS_get : ∀ (l : List (Str × β)) (k : Str), dget (dS v l) k = (lget l k).map v
  | [], _ => rfl
  | p :: r, k => by
    have ih := dS_get r k
    unfold dS at ih ⊢
    rw [List.map_cons]
    unfold dget lget
    by_cases e : p.1 = k
    · simp [e]
    · simp only [e, if_false]; exact ih
theorem dS_drop (l : List (Str × β)) (k : Str) : ddrop (dS v l) k = dS v (l.filter fun p => !decide (p.1 = k)) := by
  unfold ddrop dS
  rw [List.filter_map]
  rfl
def lmerge (l : List (Str × β)) : List (Str × β) := l.foldl (fun acc p => lput acc p.1 p.2) []
theorem mergeD_dS (l : List (Str × β)) : mergeD (l.map fun p => (p.1, v p.2)) = dS v (lmerge l) := by
  have key : ∀ (l acc : List (Str × β)), (l.map fun p => (p.1, v p.2)).foldl (fun acc p => dput acc p.1 p.2) (dS v acc) = dS v (l.foldl (fun acc p => lput acc p.1 p.2) acc) := by
    intro l
    induction l with
    | nil => intro acc; rfl
    | cons p r ih =>
      intro acc
      rw [List.map_cons, List.foldl_cons, List.foldl_cons]
      dsimp only
      rw [dS_put]
      exact ih _
  exact key l []
theorem lmerge_nodup {l : List (Str × β)} (h : (l.map (·.1)).Nodup) : lmerge l = l := by
  have key : ∀ (l acc : List (Str × β)), ((acc ++ l).map (·.1)).Nodup → l.foldl (fun acc p => lput acc p.1 p.2) acc = acc ++ l := by
    intro l
    induction l with
    | nil => intro acc _; rw [List.append_nil]; rfl
    | cons p r ih =>
      intro acc hn
      rw [List.foldl_cons]
      have hp : p.1 ∉ acc.map (·.1) := by
        rw [List.map_append, List.nodup_append] at hn
        intro z
        exact hn.2.2 p.1 z p.1 (by simp) rfl
      have e : lput acc p.1 p.2 = acc ++ [p] := by unfold lput; rw [if_neg hp]
      rw [e, ih _ (by rw [List.append_assoc]; exact hn), List.append_assoc]; rfl
  exact key l [] (by simpa using h)
theorem lget_mem {l : List (Str × β)} (h : (l.map (·.1)).Nodup) {p : Str × β} (hp : p ∈ l) : lget l p.1 = some p.2 := by
  induction l with
  | nil => cases hp
  | cons q r ih =>
    unfold lget
    rw [List.map_cons, List.nodup_cons] at h
    rcases List.mem_cons.mp hp with rfl | hp
    · rw [if_pos rfl]
    · have : q.1 ≠ p.1 := fun z => h.1 (by rw [z]; exact List.mem_map_of_mem hp)
      rw [if_neg this]
      exact ih h.2 hp
theorem lget_none {l : List (Str × β)} {k : Str} (h : k ∉ l.map (·.1)) : lget l k = none := by
  induction l with
  | nil => rfl
  | cons q r ih =>
    unfold lget
    rw [List.map_cons, List.mem_cons, not_or] at h
    rw [if_neg fun z => h.1 z.symm]
    exact ih h.2
end
end G


set_option Elab.async false
set_option maxRecDepth 100000
set_option maxHeartbeats 1000000
/-! GP2: fractions, things, folk, as data. -/
namespace G
open PySem PySem.Spec PyProof.Rows L2
open PySem.W (Datum)

theorem noOwn_nil : NoOwn [] := fun _ h => by cases h
theorem noOwn_dat {d : PyData} {ss : List Sl} (h : NoOwn ss) : NoOwn (.dat d :: ss) := fun e m => by
  rcases List.mem_cons.mp m with z | z
  · cases z
  · exact h e z
theorem noOwn_scr {ns : List Int} {ss : List Sl} (h : NoOwn ss) : NoOwn (.scr ns :: ss) := fun e m => by
  rcases List.mem_cons.mp m with z | z
  · cases z
  · exact h e z
theorem noOwn_inn {a : Addr} {d : PyData} {ss : List Sl} (h : NoOwn ss) : NoOwn (.inn a d :: ss) := fun e m => by
  rcases List.mem_cons.mp m with z | z
  · cases z
  · exact h e z

/-! ### fractions -/
def fr (q : Rat) : PyData := .tuple [.int q.num, .int (q.den : Int)]
instance : Datum Rat where
  toD := fr
  plain _ := rfl
  eqv p q := by
    show PyData.eqv (.tuple [.int p.num, .int (p.den : Int)]) (.tuple [.int q.num, .int (q.den : Int)]) = _
    have e := Datum.eqv (α := Int × Int) (p.num, (p.den : Int)) (q.num, (q.den : Int))
    refine e.trans (decide_eq_decide.mpr ⟨fun h => ?_, fun h => by rw [h]⟩)
    have h1 := congrArg Prod.fst h
    have h2 := congrArg Prod.snd h
    exact Rat.ext h1 (Int.ofNat.inj h2)
  depth := 1
  depth_le _ := Nat.le_refl _
/-- numerator and denominator have at most n bits -/
def Bd (n : Nat) (q : Rat) : Prop := q.num.natAbs < 2 ^ n ∧ q.den < 2 ^ n
theorem Bd.mono {m n : Nat} {q : Rat} (h : Bd m q) (k : m ≤ n) : Bd n q :=
  ⟨Nat.lt_of_lt_of_le h.1 (Nat.pow_le_pow_right (by decide) k), Nat.lt_of_lt_of_le h.2 (Nat.pow_le_pow_right (by decide) k)⟩
theorem Bd.num {n : Nat} {q : Rat} (h : Bd n q) (k : n ≤ 4000) : Sm q.num := sm_of h.1 k
theorem Bd.den {n : Nat} {q : Rat} (h : Bd n q) (k : n ≤ 4000) : Sm (q.den : Int) := sm_of (n := n) (by rw [Int.natAbs_natCast]; exact h.2) k
theorem divInt_num_le (a : Int) (b : Nat) (hb : 0 < b) : (mkRat a b).num.natAbs ≤ a.natAbs ∧ (mkRat a b).den ≤ b := by
  rw [Rat.num_mkRat, Rat.den_mkRat]
  rw [if_neg (by omega), if_neg (by omega)]
  exact ⟨by rw [Int.natAbs_ediv_of_dvd (by have := Nat.gcd_dvd_right b a.natAbs; exact Int.ofNat_dvd_left.mpr this)]; exact Nat.div_le_self _ _, Nat.div_le_self _ _⟩
theorem bd_mk {a : Int} {b : Nat} {n : Nat} (hb : 0 < b) (h1 : a.natAbs < 2 ^ n) (h2 : b < 2 ^ n) : Bd n (mkRat a b) := by
  have := divInt_num_le a b hb
  exact ⟨Nat.lt_of_le_of_lt this.1 h1, Nat.lt_of_le_of_lt this.2 h2⟩
theorem mul_lt_pow {a b m n : Nat} (h : a < 2 ^ m) (k : b < 2 ^ n) : a * b < 2 ^ (m + n) := by
  rw [Nat.pow_add]
  rcases Nat.eq_zero_or_pos a with rfl | ha
  · rw [Nat.zero_mul]; exact Nat.mul_pos (Nat.pow_pos (by decide)) (Nat.pow_pos (by decide))
  · exact Nat.lt_of_le_of_lt (Nat.mul_le_mul_right _ (Nat.le_of_lt h)) (Nat.mul_lt_mul_of_pos_left k (Nat.pow_pos (by decide)))
theorem bd_add {m n : Nat} {p q : Rat} (h : Bd m p) (k : Bd n q) : Bd (m + n + 1) (p + q) := by
  rw [Rat.add_def']
  have hd : p.den * q.den < 2 ^ (m + n) := mul_lt_pow h.2 k.2
  have e : (2 : Nat) ^ (m + n + 1) = 2 ^ (m + n) + 2 ^ (m + n) := by rw [Nat.pow_succ]; omega
  refine bd_mk (Nat.mul_pos p.den_pos q.den_pos) ?_ (by omega)
  have h1 : (p.num * (q.den : Int)).natAbs < 2 ^ (m + n) := by rw [Int.natAbs_mul, Int.natAbs_natCast]; exact mul_lt_pow h.1 k.2
  have h2 : (q.num * (p.den : Int)).natAbs < 2 ^ (n + m) := by rw [Int.natAbs_mul, Int.natAbs_natCast]; exact mul_lt_pow k.1 h.2
  have := Int.natAbs_add_le (p.num * (q.den : Int)) (q.num * (p.den : Int))
  rw [Nat.add_comm n m] at h2
  omega
theorem sm_mul {a b : Int} {m n : Nat} (h : a.natAbs < 2 ^ m) (k : b.natAbs < 2 ^ n) (l : m + n ≤ 4000) : Sm (a * b) := sm_of (by rw [Int.natAbs_mul]; exact mul_lt_pow h k) l

/-! ### things and folk -/
structure One where
  name : Str
  wants : List Str
  worth : Int
  weight : Int
deriving DecidableEq
def sD (x : Str) : PyData := .str x
def tD (p : Str × Int) : PyData := .tuple [.str p.1, .int p.2]
def oD (o : One) : PyData := .tuple [.str o.name, .tuple (o.wants.map sD), .int o.worth, .int o.weight]
def tsD (t : List (Str × Int)) : PyData := .tuple (t.map tD)
def fsD (f : List One) : PyData := .tuple (f.map oD)
def flD (f : List One) : PyData := .list (f.map oD)
def nsT (l : List Str) : PyData := .tuple (l.map sD)
def nsL (l : List Str) : PyData := .list (l.map sD)
instance : Datum One where
  toD := oD
  plain o := by
    show PyData.plain (.tuple [.str o.name, .tuple (o.wants.map sD), .int o.worth, .int o.weight]) = true
    have := PySem.W.plainAll_map o.wants
    simp only [PyData.plain, PyData.plainAll, Bool.true_and, Bool.and_true]
    exact this
  eqv o p := by
    show PyData.eqv (.tuple [.str o.name, .tuple (o.wants.map sD), .int o.worth, .int o.weight]) (.tuple [.str p.name, .tuple (p.wants.map sD), .int p.worth, .int p.weight]) = _
    have h1 := Datum.eqv (α := Str) o.name p.name
    have h2 := Datum.eqv (α := PySem.W.Tup Str) ⟨o.wants⟩ ⟨p.wants⟩
    have h3 := Datum.eqv (α := Int) o.worth p.worth
    have h4 := Datum.eqv (α := Int) o.weight p.weight
    have h2' : PyData.eqv (.tuple (o.wants.map sD)) (.tuple (p.wants.map sD)) = decide (o.wants = p.wants) := h2.trans (decide_eq_decide.mpr ⟨fun e => congrArg PySem.W.Tup.items e, fun e => by rw [e]⟩)
    have h1' : PyData.eqv (.str o.name) (.str p.name) = decide (o.name = p.name) := h1
    have h3' : PyData.eqv (.int o.worth) (.int p.worth) = decide (o.worth = p.worth) := h3
    have h4' : PyData.eqv (.int o.weight) (.int p.weight) = decide (o.weight = p.weight) := h4
    rw [PyData.eqv]
    simp only [PyData.eqvAll]
    rw [h1', h2', h3', h4', Bool.and_true, ← Bool.decide_and, ← Bool.decide_and, ← Bool.decide_and]
    refine decide_eq_decide.mpr ⟨fun ⟨a, b, c, d⟩ => ?_, fun e => by rw [e]; exact ⟨rfl, rfl, rfl, rfl⟩⟩
    cases o
    cases p
    simp only at a b c d
    subst a; subst b; subst c; subst d
    rfl
  depth := 2
  depth_le o := by
    show PyData.depth (.tuple [.str o.name, .tuple (o.wants.map sD), .int o.worth, .int o.weight]) ≤ 2
    have h := PySem.W.depthAll_map o.wants
    have h : PyData.depthAll (o.wants.map sD) ≤ 0 := h
    simp only [PyData.depth, PyData.depthAll]
    omega
/-- strictly rising texts -/
def Lt (a b : Str) : Prop := a.cps.toList < b.cps.toList
def Rising : List Str → Prop
  | [] => True
  | [_] => True
  | a :: b :: r => Lt a b ∧ Rising (b :: r)
theorem Lt.trans {a b c : Str} (h : Lt a b) (k : Lt b c) : Lt a c := List.lt_trans h k
theorem Lt.irr {a : Str} (h : Lt a a) : False := List.lt_irrefl _ h
theorem Rising.head {a : Str} : ∀ {l : List Str}, Rising (a :: l) → ∀ b ∈ l, Lt a b
  | [], _, b, h => by cases h
  | c :: r, h, b, hb => by
    rcases List.mem_cons.mp hb with rfl | hb
    · exact h.1
    · exact h.1.trans (Rising.head h.2 b hb)
theorem Rising.tail {a : Str} : ∀ {l : List Str}, Rising (a :: l) → Rising l
  | [], _ => trivial
  | _ :: _, h => h.2
theorem Rising.pw : ∀ {l : List Str}, Rising l → l.Pairwise Lt
  | [], _ => .nil
  | a :: l, h => .cons (fun b hb => h.head b hb) (Rising.pw h.tail)
theorem Rising.of : ∀ {l : List Str}, l.Pairwise Lt → Rising l
  | [], _ => trivial
  | [_], _ => trivial
  | a :: b :: r, h => by
    cases h with
    | cons h k => exact ⟨h b (List.mem_cons_self ..), Rising.of k⟩
theorem Rising.nodup {l : List Str} (h : Rising l) : l.Nodup := h.pw.imp fun {a b} k e => by subst e; exact k.irr
def Name (x : Str) : Prop := 1 ≤ x.length ∧ x.length ≤ 8 ∧ ∀ c ∈ x.cps.toList, c ∈ ("abcdefghijklmnopqrstuvwxyz" : Str).cps.toList
structure VT (t : List (Str × Int)) : Prop where
  le : 1 ≤ t.length ∧ t.length ≤ 8
  nm : ∀ p ∈ t, Name p.1
  co : ∀ p ∈ t, 0 ≤ p.2 ∧ p.2 ≤ 1000
  up : Rising (t.map (·.1))
structure VO (t : List (Str × Int)) (o : One) : Prop where
  nm : Name o.name
  ws : ∀ x ∈ o.wants, x ∈ t.map (·.1)
  up : Rising o.wants
  ne : o.wants ≠ []
  wo : 0 ≤ o.worth ∧ o.worth ≤ 1000
  we : 1 ≤ o.weight ∧ o.weight ≤ 9
structure VF (t : List (Str × Int)) (f : List One) : Prop where
  le : f.length ≤ 8
  on : ∀ o ∈ f, VO t o
  up : Rising (f.map (·.name))
end G


set_option Elab.async false
set_option maxRecDepth 100000
set_option maxHeartbeats 1000000
/-! GP3: what the common defs promise. -/
namespace G
open PySem PySem.Spec PyProof.Rows L2
open PySem.W (Datum)
def iD (i : Int) : PyData := .int i
def p_divisor : PSp := fun ss R _ => ∃ a b : Nat, ss = [.dat (.int (a : Int)), .dat (.int (b : Int))] ∧ R (.int (Nat.gcd a b : Nat)) ss
def p_fraction : PSp := fun ss R _ => ∃ (a : Int) (b n : Nat), 0 < b ∧ b < 2 ^ n ∧ n ≤ 3999 ∧ ss = [.dat (.int a), .dat (.int (b : Int))] ∧ R (fr (mkRat a b)) ss
def p_plus : PSp := fun ss R _ => ∃ (p q : Rat) (m n : Nat), Bd m p ∧ Bd n q ∧ m + n ≤ 3998 ∧ ss = [.dat (fr p), .dat (fr q)] ∧ R (fr (p + q)) ss
def p_minus : PSp := fun ss R _ => ∃ (p q : Rat) (m n : Nat), Bd m p ∧ Bd n q ∧ m + n ≤ 3998 ∧ ss = [.dat (fr p), .dat (fr q)] ∧ R (fr (p - q)) ss
def p_is_less : PSp := fun ss R _ => ∃ (p q : Rat) (m n : Nat), Bd m p ∧ Bd n q ∧ m + n ≤ 3998 ∧ ss = [.dat (fr p), .dat (fr q)] ∧ R (.bool (decide (p < q))) ss
def p_is_whole : PSp := fun ss R _ => ∃ i lo hi : Int, lo ≤ i ∧ i ≤ hi ∧ ss = [.dat (.int i), .dat (.int lo), .dat (.int hi)] ∧ R (.bool true) ss
def p_is_name : PSp := fun ss R _ => ∃ x, Name x ∧ ss = [.dat (.str x)] ∧ R (.bool true) ss
def p_is_number : PSp := fun ss R _ => ∃ i : Int, 0 ≤ i ∧ i ≤ 1000 ∧ ss = [.dat (.int i)] ∧ R (.bool true) ss
def p_are_rising : PSp := fun ss R _ => ∃ d l, Rising l ∧ l.length ≤ 1000 ∧ (d = nsL l ∨ d = nsT l) ∧ ss = [.dat d] ∧ R (.bool true) ss
def p_are_things : PSp := fun ss R _ => ∃ t, VT t ∧ ss = [.dat (tsD t)] ∧ R (.bool true) ss
def p_are_of : PSp := fun ss R _ => ∃ ns l, (∀ x ∈ l, x ∈ ns) ∧ Rising l ∧ l.length ≤ 1000 ∧ ss = [.dat (nsL ns), .dat (nsT l)] ∧ R (.bool true) ss
def p_is_one : PSp := fun ss R _ => ∃ t o, VT t ∧ VO t o ∧ ss = [.dat (tsD t), .dat (oD o)] ∧ R (.bool true) ss
def p_are_folk_of : PSp := fun ss R _ => ∃ t f, VT t ∧ VF t f ∧ ss = [.dat (tsD t), .dat (fsD f)] ∧ R (.bool true) ss
def p_need_things : PSp := fun ss R _ => ∃ t, VT t ∧ ss = [.dat (tsD t)] ∧ R .none ss
def p_need_folk : PSp := fun ss R _ => ∃ t f, VT t ∧ VF t f ∧ ss = [.dat (tsD t), .dat (fsD f)] ∧ R .none ss
def nmsOf (f : List One) : List Str := f.map (·.name)
def p_need_lot : PSp := fun ss R _ => ∃ t f l, VT t ∧ VF t f ∧ (∀ x ∈ l, x ∈ nmsOf f) ∧ Rising l ∧ ss = [.dat (tsD t), .dat (fsD f), .dat (nsT l)] ∧ R .none ss
def p_need_name : PSp := fun ss R _ => ∃ t f x, VT t ∧ VF t f ∧ x ∈ nmsOf f ∧ ss = [.dat (tsD t), .dat (fsD f), .dat (.str x)] ∧ R .none ss
def p_names_of : PSp := fun ss R _ => ∃ d f, seqOf d = some (f.map oD) ∧ ss = [.dat d] ∧ R (nsL (nmsOf f)) ss

/-! ### shares -/
def usersOf (f : List One) (x : Str) : List One := f.filter fun o => decide (x ∈ o.wants)
def weightOf (f : List One) (x : Str) : Int := ((usersOf f x).map (·.weight)).sum
def part (f : List One) (p : Str × Int) (o : One) : Rat := mkRat (p.2 * o.weight) (weightOf f p.1).toNat
def share (t : List (Str × Int)) (f : List One) (o : One) : Rat := ((t.filter fun p => decide (p.1 ∈ o.wants)).map fun p => part f p o).sum
def sharesOf (t : List (Str × Int)) (f : List One) : List (Str × Rat) := f.map fun o => (o.name, share t f o)
def p_shares_of : PSp := fun ss R _ => ∃ t d f, VT t ∧ VF t f ∧ seqOf d = some (f.map oD) ∧ ss = [.dat (tsD t), .dat d] ∧ R (.dict (dS fr (sharesOf t f))) ss
theorem share_nil (f : List One) (o : One) : share [] f o = 0 := rfl
theorem share_snoc (t : List (Str × Int)) (p : Str × Int) (f : List One) (o : One) : share (t ++ [p]) f o = if p.1 ∈ o.wants then share t f o + part f p o else share t f o := by
  unfold share
  rw [List.filter_append]
  by_cases h : p.1 ∈ o.wants
  · rw [if_pos h, List.filter_cons_of_pos (by simpa using h), List.filter_nil, List.map_append, List.sum_append, List.map_cons, List.map_nil, List.sum_cons, List.sum_nil, Rat.add_zero]
  · rw [if_neg h, List.filter_cons_of_neg (by simpa using h), List.filter_nil, List.append_nil]
theorem weight_pos {t : List (Str × Int)} {f : List One} (h : ∀ o ∈ f, VO t o) (hl : f.length ≤ 8) (x : Str) : 0 ≤ weightOf f x ∧ weightOf f x ≤ 72 ∧ ∀ o ∈ f, x ∈ o.wants → 0 < weightOf f x := by
  have key : ∀ l : List One, (∀ o ∈ l, 1 ≤ o.weight ∧ o.weight ≤ 9) → 0 ≤ (l.map (·.weight)).sum ∧ (l.map (·.weight)).sum ≤ 9 * l.length ∧ (l ≠ [] → 0 < (l.map (·.weight)).sum) := by
    intro l
    induction l with
    | nil => intro _; exact ⟨Int.le_refl _, Int.le_refl _, fun h => (h rfl).elim⟩
    | cons a l ih =>
      intro h
      have h1 := h a (List.mem_cons_self ..)
      obtain ⟨i1, i2, _⟩ := ih fun o ho => h o (List.mem_cons_of_mem _ ho)
      rw [List.map_cons, List.sum_cons, List.length_cons]
      exact ⟨by omega, by omega, fun _ => by omega⟩
  obtain ⟨k1, k2, k3⟩ := key (usersOf f x) fun o ho => (h o (List.mem_filter.mp ho).1).we
  have : (usersOf f x).length ≤ 8 := Nat.le_trans (List.length_filter_le ..) hl
  refine ⟨k1, by unfold weightOf; omega, fun o ho hx => k3 fun z => ?_⟩
  have : o ∈ usersOf f x := List.mem_filter.mpr ⟨ho, by simpa using hx⟩
  rw [z] at this
  cases this
theorem part_bd {t : List (Str × Int)} {f : List One} (h : ∀ o ∈ f, VO t o) (hl : f.length ≤ 8) {p : Str × Int} (hp : 0 ≤ p.2 ∧ p.2 ≤ 1000) {o : One} (ho : o ∈ f) (hx : p.1 ∈ o.wants) : Bd 14 (part f p o) := by
  obtain ⟨w0, w1, w2⟩ := weight_pos h hl p.1
  have w3 := w2 o ho hx
  have w := (h o ho).we
  have m1 : 0 ≤ p.2 * o.weight := Int.mul_nonneg hp.1 (by omega)
  have m2 : p.2 * o.weight ≤ 1000 * 9 := Int.mul_le_mul hp.2 w.2 (by omega) (by omega)
  exact bd_mk (by omega) (by omega) (by omega)
theorem share_bd {t : List (Str × Int)} {f : List One} (h : ∀ o ∈ f, VO t o) (hl : f.length ≤ 8) : ∀ {s : List (Str × Int)}, (∀ p ∈ s, 0 ≤ p.2 ∧ p.2 ≤ 1000) → ∀ {o}, o ∈ f → Bd (1 + 15 * s.length) (share s f o) := by
  intro s hs o ho
  have key : ∀ s : List (Str × Int), (∀ p ∈ s, 0 ≤ p.2 ∧ p.2 ≤ 1000) → Bd (1 + 15 * s.length) (share s.reverse f o) := by
    intro s
    induction s with
    | nil => intro _; rw [show share [].reverse f o = 0 from rfl]; exact ⟨by decide, by decide⟩
    | cons p s ih =>
      intro hs
      have i := ih fun q hq => hs q (List.mem_cons_of_mem _ hq)
      rw [List.reverse_cons, share_snoc, List.length_cons]
      split
      · rename_i hx
        exact (bd_add i (part_bd h hl (hs p (List.mem_cons_self ..)) ho hx)).mono (by omega)
      · exact i.mono (by omega)
  have := key s.reverse fun p hp => hs p (List.mem_reverse.mp hp)
  rwa [List.reverse_reverse, List.length_reverse] at this
theorem all_yes {α : Type} (l : List α) {R : PyData → Prop} (h : R (.bool true)) : allD (.list (l.map fun _ => .bool true)) R := by
  refine ⟨l.map fun _ => true, by rw [List.map_map]; rfl, ?_⟩
  have e : ((l.map fun _ => true).all fun b => b) = true := by simp
  rw [e]
  exact h
theorem map_sD {α : Type} (l : List α) (f : α → Str) : l.map (fun x => sD (f x)) = (l.map f).map sD := by rw [List.map_map]; rfl
theorem nodup_len {l m : List Str} (h : l.Nodup) (s : ∀ x ∈ l, x ∈ m) : l.length ≤ m.length := by
  induction l generalizing m with
  | nil => exact Nat.zero_le _
  | cons a l ih =>
    rw [List.nodup_cons] at h
    have ha := s a (List.mem_cons_self ..)
    have := ih (m := m.erase a) h.2 fun x hx => (List.mem_erase_of_ne fun (z : x = a) => h.1 (z ▸ hx)).mpr (s x (List.mem_cons_of_mem _ hx))
    rw [List.length_erase_of_mem ha] at this
    have hp : 0 < m.length := List.length_pos_of_mem ha
    rw [List.length_cons]; omega
theorem seq_run {d : PyData} {ds : List PyData} (h : seqOf d = some ds) {K : List PyData → Prop} (q : K ds) : (match seqOf d with
  | some ds => K ds
  | none => False) := by rw [h]; exact q
end G


set_option Elab.async false
set_option maxRecDepth 100000
set_option maxHeartbeats 1000000
/-! GP4: sorted pairs; the well. -/
namespace G
open PySem PySem.Spec PyProof.Rows L2
open PySem.W (Datum)
/-! ### sorted, where it is sorted -/
theorem sortD_same {ds : List PyData} (h : ds.Pairwise fun a b => PySem.W.dataLt b a = false) : sortD ds = ds := by
  unfold sortD
  refine List.mergeSort_of_pairwise (h.imp fun {a b} q => ?_)
  rw [PySem.W.dataLe_eq]
  show (!PySem.W.dataLt b a) = true
  rw [q]; rfl
theorem lt_not {a b : Str} (h : Lt a b) : PySem.W.dataLt (.str b) (.str a) = false := by
  rw [PySem.W.dataLt_str]
  exact decide_eq_false fun (k : Lt b a) => (h.trans k).irr
theorem str_not {a b : Str} (h : Lt a b) : PyData.eqv (.str b) (.str a) = false := by
  have e := Datum.eqv (α := Str) b a
  exact e.trans (decide_eq_false fun z => by subst z; exact h.irr)
def pD {β : Type} (v : β → PyData) (p : Str × β) : PyData := .tuple [.str p.1, v p.2]
theorem items_dS {β : Type} (v : β → PyData) (l : List (Str × β)) : itemsD (dS v l) = l.map (pD v) := by
  unfold itemsD dS
  rw [List.map_map]; rfl
theorem sortD_items {β : Type} {v : β → PyData} {l : List (Str × β)} (h : Rising (l.map (·.1))) (al : ∀ a b : β, PySem.W.alike (v a) (v b) = true) : sortD (l.map (pD v)) = l.map (pD v) := by
  refine sortD_same ?_
  rw [List.pairwise_map]
  have h' := h.pw
  rw [List.pairwise_map] at h'
  refine h'.imp fun {p q} k => ?_
  show PySem.W.dataLt (.tuple [.str q.1, v q.2]) (.tuple [.str p.1, v p.2]) = false
  rw [PySem.W.dataLt_pair rfl (al _ _), str_not k, if_neg Bool.false_ne_true, lt_not k]
theorem sortOk_items {β : Type} {v : β → PyData} {l : List (Str × β)} (al : ∀ a b : β, PySem.W.alike (v a) (v b) = true) (dp : ∀ a : β, (v a).depth ≤ 50) (hl : l.length ≤ 1000) : SortOk (l.map (pD v)) := by
  refine ⟨fun d hd e he => ?_, .inl fun d hd => ?_, fun d hd => ?_, by rw [List.length_map]; exact hl⟩
  · obtain ⟨p, _, rfl⟩ := List.mem_map.mp hd
    obtain ⟨q, _, rfl⟩ := List.mem_map.mp he
    show PySem.W.alike (.tuple [.str p.1, v p.2]) (.tuple [.str q.1, v q.2]) = true
    simp only [PySem.W.alike, PySem.W.alikeAll, al, Bool.and_self]
  · obtain ⟨p, _, rfl⟩ := List.mem_map.mp hd
    exact ⟨_, _, rfl⟩
  · obtain ⟨p, _, rfl⟩ := List.mem_map.mp hd
    show PyData.depth (.tuple [.str p.1, v p.2]) ≤ 60
    have := dp p.2
    simp only [PyData.depth, PyData.depthAll]
    omega
theorem fr_alike (p q : Rat) : PySem.W.alike (fr p) (fr q) = true := by
  unfold fr
  simp only [PySem.W.alike, PySem.W.alikeAll, Bool.and_self]
theorem fr_depth (p : Rat) : (fr p).depth ≤ 50 := by
  unfold fr
  simp only [PyData.depth, PyData.depthAll]
  decide
/-- texts that rise stay as they are -/
theorem sortD_strs {l : List Str} (h : Rising l) : sortD (l.map sD) = l.map sD := by
  refine sortD_same ?_
  rw [List.pairwise_map]
  exact h.pw.imp fun {a b} k => lt_not k
theorem sortOk_strs {l : List Str} (hl : l.length ≤ 1000) : SortOk (l.map sD) := by
  refine ⟨fun d hd e he => ?_, .inr fun d hd => ?_, fun d hd => ?_, by rw [List.length_map]; exact hl⟩
  · obtain ⟨p, _, rfl⟩ := List.mem_map.mp hd
    obtain ⟨q, _, rfl⟩ := List.mem_map.mp he
    rfl
  · obtain ⟨p, _, rfl⟩ := List.mem_map.mp hd
    exact ⟨(nomatch ·), fun _ => (nomatch ·)⟩
  · obtain ⟨p, _, rfl⟩ := List.mem_map.mp hd
    exact Nat.zero_le _

/-! ### folk by names -/
theorem VF.sub {t : List (Str × Int)} {f g : List One} (h : VF t f) (s : g.Sublist f) : VF t g :=
  ⟨Nat.le_trans s.length_le h.le, fun o ho => h.on o (s.subset ho), Rising.of (h.up.pw.sublist (s.map _))⟩
theorem VF.nodup {t : List (Str × Int)} {f : List One} (h : VF t f) : (f.map (·.name)).Nodup := h.up.nodup
theorem sharesOf_names (t : List (Str × Int)) (f : List One) : (sharesOf t f).map (·.1) = nmsOf f := by unfold sharesOf nmsOf; rw [List.map_map]; rfl
def pickOf (f : List One) (l : List Str) : List One := f.filter fun o => decide (o.name ∈ l)
def p_shares : PSp := fun ss R _ => ∃ t f l, VT t ∧ VF t f ∧ (∀ x ∈ l, x ∈ nmsOf f) ∧ Rising l ∧ ss = [.dat (tsD t), .dat (fsD f), .dat (nsT l)] ∧ R (.list ((sharesOf t (pickOf f l)).map (pD fr))) ss

/-! ### the well -/
def Well (d : PyData) : Prop := ∃ c s p : Int, d = .list [.int c, .int s, .int p] ∧ 0 ≤ c ∧ 0 ≤ s ∧ s < 2 ^ 40 ∧ 0 < p ∧ p < 2 ^ 31
def p__law_well : PSp := fun ss R _ => ∃ (ns : List Int) (k : Nat), k < 10000 ∧ ss = [.scr ns, .dat (.int (k : Int))] ∧ ∀ d, Well d → R d ss
def p__law_take : PSp := fun ss R _ => ∃ (a : Addr) (d : PyData) (m : Int), Well d ∧ 0 < m ∧ m < 2 ^ 60 ∧ ss = [.inn a d, .dat (.int m)] ∧ ∀ i d', 0 ≤ i → i < m → Well d' → R (.int i) [.inn a d', .dat (.int m)]
def p__law_frac : PSp := fun ss R _ => ∃ (a : Int) (b n : Nat), 0 < b ∧ b < 2 ^ n ∧ n ≤ 3999 ∧ ss = [.dat (.int a), .dat (.int (b : Int))] ∧ R (fr (mkRat a b)) ss
def p__law_plus : PSp := p_plus
def p__law_minus : PSp := p_minus
def p__law_less : PSp := p_is_less
def p__law_things : PSp := fun ss R _ => ∃ (a : Addr) (d : PyData) (m : Int), Well d ∧ 0 < m ∧ m ≤ 8 ∧ ss = [.inn a d, .dat (.int m)] ∧ ∀ t d', VT t → (t.length : Int) ≤ m → Well d' → R (tsD t) [.inn a d', .dat (.int m)]
def p__law_one : PSp := fun ss R _ => ∃ (a : Addr) (d : PyData) (t : List (Str × Int)) (x : Str) (b : Bool), Well d ∧ VT t ∧ Name x ∧ ss = [.inn a d, .dat (tsD t), .dat (.str x), .dat (.bool b)] ∧ ∀ o d', VO t o → o.name = x → (b = true → o.weight = 1) → Well d' → R (oD o) [.inn a d', .dat (tsD t), .dat (.str x), .dat (.bool b)]
def p__law_folk : PSp := fun ss R _ => ∃ (a : Addr) (d : PyData) (t : List (Str × Int)) (m : Int) (b : Bool), Well d ∧ VT t ∧ 0 ≤ m ∧ m ≤ 8 ∧ ss = [.inn a d, .dat (tsD t), .dat (.int m), .dat (.bool b)] ∧ ∀ f d', VF t f → (f.length : Int) ≤ m → (b = true → ∀ o ∈ f, o.weight = 1) → (∀ o ∈ f, o.name ∈ (["al", "bo", "cy", "di", "ed", "fay", "gus", "hal"] : List Str)) → Well d' → R (fsD f) [.inn a d', .dat (tsD t), .dat (.int m), .dat (.bool b)]
/-! orders -/
def ords : Nat → List Str → List (List Str)
  | 0, _ => [[]]
  | n + 1, l => l.flatMap fun x => (ords n (l.filter fun y => !decide (y = x))).map (x :: ·)
def p__law_all_orders (n : Nat) : PSp := fun ss R _ => ∃ l : List Str, l.Nodup ∧ l.length = n ∧ n ≤ 8 ∧ ss = [.dat (nsL l)] ∧ R (.list ((ords n l).map nsT)) ss
theorem gn_free {ρ : Ms} {i : Nat} {d : PyData} {R : Ms → Prop} (h : freeS ρ i = true) (q : R (ρ.set i (.dat d))) : mGN i d ρ R := by
  unfold mGN
  unfold freeS at h
  split
  · rename_i e; rw [e] at h; cases h
  · exact q
theorem outs_here {a : Addr} {d d' : PyData} {ss : List Sl} {ρ : Ms} : outs (.inn a d :: ss) (.inn a d' :: ρ) = .inn a d' :: outs ss ρ := by simp [outs]
def bk (s : Sl) : Sl := match s with
  | .dat d => .dat d
  | .scr n => .scr n
  | .raw x => .raw x
  | _ => .un
def freeO (s : Sl) : Bool := match s with
  | .inn _ _ => false
  | .ob _ _ _ => false
  | _ => true
theorem bk_free (s : Sl) : freeO (bk s) = true := by cases s <;> rfl
theorem gt_free {ρ : Ms} {i j : Nat} {d e : PyData} {R : Ms → Prop} (h : freeS ρ i = true) (k : freeS (ρ.set i (.dat d)) j = true) (q : R ((ρ.set i (.dat d)).set j (.dat e))) : mGT [mGN i, mGN j] (.tuple [d, e]) ρ R := by
  show mGN i d ρ fun ρ1 => mGN j e ρ1 fun ρ2 => R ρ2
  refine gn_free h ?_
  exact gn_free k q
theorem ixd_dict {es : List (PyData × PyData)} {k : Str} {d : PyData} {R : PyData → Prop} (e : dget es k = some d) (q : R d) : ixD (.dict es) (.str k) R := by
  show (match dget es k with
    | some d => R d
    | none => False)
  rw [e]
  exact q
theorem nodup_of_map {α β : Type} {f : α → β} {l : List α} (h : (l.map f).Nodup) : l.Nodup := by
  have h' : (l.map f).Pairwise (· ≠ ·) := h
  rw [List.pairwise_map] at h'
  exact h'.imp fun {a b} k z => k (by rw [z])
theorem name_inj {f : List One} (h : (f.map (·.name)).Nodup) : ∀ {o p : One}, o ∈ f → p ∈ f → o.name = p.name → o = p := by
  induction f with
  | nil => intro o p h1; cases h1
  | cons a f ih =>
    intro o p h1 h2 e
    rw [List.map_cons, List.nodup_cons] at h
    rcases List.mem_cons.mp h1 with e1 | k1 <;> rcases List.mem_cons.mp h2 with e2 | k2
    · rw [e1, e2]
    · exact (h.1 (by rw [← e1, e]; exact List.mem_map_of_mem k2)).elim
    · exact (h.1 (by rw [← e2, ← e]; exact List.mem_map_of_mem k1)).elim
    · exact ih h.2 k1 k2 e
end G


set_option Elab.async false
set_option maxRecDepth 100000
set_option maxHeartbeats 1000000
/-! GP5: places, pieces, sums. -/
namespace G
open PySem PySem.Spec PyProof.Rows L2
open PySem.W (Datum)
theorem ix_any {l : List PyData} {i : Int} {R : PyData → Prop} (h0 : 0 ≤ i) (h1 : i < l.length) (q : ∀ d ∈ l, R d) : ixD (.list l) (.int i) R := by
  obtain ⟨k, rfl⟩ : ∃ k : Nat, i = k := ⟨i.toNat, by omega⟩
  have hk : k < l.length := by omega
  show (match atI l (k : Int) with
    | some d => R d
    | none => False)
  rw [atI_nat (List.getElem?_eq_getElem hk)]
  exact q _ (List.getElem_mem hk)
theorem ixT_any {l : List PyData} {i : Int} {R : PyData → Prop} (h0 : 0 ≤ i) (h1 : i < l.length) (q : ∀ d ∈ l, R d) : ixD (.tuple l) (.int i) R := by
  obtain ⟨k, rfl⟩ : ∃ k : Nat, i = k := ⟨i.toNat, by omega⟩
  have hk : k < l.length := by omega
  show (match atI l (k : Int) with
    | some d => R d
    | none => False)
  rw [atI_nat (List.getElem?_eq_getElem hk)]
  exact q _ (List.getElem_mem hk)
theorem cut_take (ds : List PyData) {k : Int} (h : 0 ≤ k) : cutD ds none (some k) = ds.take k.toNat := by
  have e1 : HT.sIx ds.length 0 none = 0 := rfl
  have e2 : HT.sIx ds.length ds.length (some k) = min k.toNat ds.length := by
    unfold HT.sIx
    first | omega | (simp only [] ; split <;> omega) | (split <;> omega)
  unfold cutD
  rw [e1, e2, List.drop_zero, Nat.sub_zero]
  rcases Nat.le_total k.toNat ds.length with h | h
  · rw [Nat.min_eq_left h]
  · rw [Nat.min_eq_right h, List.take_length, List.take_of_length_le h]
theorem sl_take {α : Type} {f : α → PyData} {l : List α} {k : Int} {R : PyData → Prop} (h : 0 ≤ k) (q : R (.list ((l.take k.toNat).map f))) : slD (.list (l.map f)) none (some k) R := by
  show R (.list (cutD (l.map f) none (some k)))
  rw [cut_take _ h, ← List.map_take]
  exact q
theorem addI {a b : Int} {R : PyData → Prop} (q : R (.int (a + b))) : addD (.int a) (.int b) R := q
instance (a b : Str) : Decidable (Lt a b) := inferInstanceAs (Decidable (a.cps.toList < b.cps.toList))
instance (x : Str) : Decidable (Name x) := inferInstanceAs (Decidable (1 ≤ x.length ∧ x.length ≤ 8 ∧ ∀ c ∈ x.cps.toList, c ∈ ("abcdefghijklmnopqrstuvwxyz" : Str).cps.toList))
def thingNames : List Str := ["arch", "boat", "cart", "dam", "edge", "fence", "gate", "hut"]
def folkNames : List Str := ["al", "bo", "cy", "di", "ed", "fay", "gus", "hal"]
theorem thingNames_up : thingNames.Pairwise Lt := by decide +kernel
theorem folkNames_up : folkNames.Pairwise Lt := by decide +kernel
theorem thingNames_nm : ∀ x ∈ thingNames, Name x := by decide +kernel
theorem folkNames_nm : ∀ x ∈ folkNames, Name x := by decide +kernel
theorem sum_bd : ∀ (l : List (Str × Int)), (∀ p ∈ l, 0 ≤ p.2 ∧ p.2 ≤ 1000) → 0 ≤ (l.map (·.2)).sum ∧ (l.map (·.2)).sum ≤ 1000 * l.length
  | [], _ => by decide
  | p :: l, h => by
    have h1 := h p (List.mem_cons_self ..)
    have h2 := sum_bd l fun q hq => h q (List.mem_cons_of_mem _ hq)
    rw [List.map_cons, List.sum_cons, List.length_cons]
    omega
theorem setN_free {ρ : Ms} {i : Nat} {d : PyData} {R : Ms → Prop} (h : freeS ρ i = true) (q : R (ρ.set i (.own d))) : (match slot ρ i with
  | .inn _ _ => False
  | _ => R (ρ.set i (.own d))) := by
  unfold freeS at h
  split
  · rename_i e; rw [e] at h; cases h
  · exact q
theorem head_run {a b : Int} {l : List Int} {ρ : Ms} {R : List PyData → Ms → Prop} (a0 : 0 ≤ a) (a1 : a ≤ 100) (b0 : 0 ≤ b) (b1 : b ≤ 100) (q : ∀ m : Nat, m ≤ 100 → R (rangeD m) (.scr l :: ρ)) :
    iRg (mCallM max2D (mCons (mC (.int a)) (mCons (mCallM min2D (mCons (mC (.int b)) (mCons (mLenS 0) mNil))) mNil))) (.scr l :: ρ) R := by
  show (-10000 ≤ (if (if (l.length : Int) < b then (l.length : Int) else b) > a then (if (l.length : Int) < b then (l.length : Int) else b) else a) ∧ (if (if (l.length : Int) < b then (l.length : Int) else b) > a then (if (l.length : Int) < b then (l.length : Int) else b) else a) < 10000) ∧ R (rangeD (Int.toNat (if (if (l.length : Int) < b then (l.length : Int) else b) > a then (if (l.length : Int) < b then (l.length : Int) else b) else a))) _
  have e : 0 ≤ (if (if (l.length : Int) < b then (l.length : Int) else b) > a then (if (l.length : Int) < b then (l.length : Int) else b) else a) ∧ (if (if (l.length : Int) < b then (l.length : Int) else b) > a then (if (l.length : Int) < b then (l.length : Int) else b) else a) ≤ 100 := by
    split <;> split <;> omega
  exact ⟨⟨by omega, by omega⟩, q _ (by omega)⟩
/-- one statement done: what stands behind it is told -/
theorem seq_to {t u : MS} {D : PEnd} {ρ : Ms} (ρ' : Ms) (h : ∀ K : Ms → Prop, K ρ' → t { D with nx := K } ρ) (q : u D ρ') : mSeq t u D ρ := h _ q
theorem seq_by {t u : MS} {D : PEnd} {ρ : Ms} (P : Ms → Prop) (h : ∀ K : Ms → Prop, (∀ ρ', P ρ' → K ρ') → t { D with nx := K } ρ) (q : ∀ ρ', P ρ' → u D ρ') : mSeq t u D ρ := h _ q
theorem mT_true {ρ : Ms} {R : Bool → Ms → Prop} (q : R true ρ) : mT (mC (.bool true)) ρ R := q
def AllF (ρ : Ms) : Prop := ∀ i, freeS ρ i = true
theorem allF_nil : AllF [] := fun _ => rfl
theorem allF_cons {s : Sl} {ρ : Ms} (h : freeO s = true) (k : AllF ρ) : AllF (s :: ρ)
  | 0 => h
  | i + 1 => k i
end G


set_option Elab.async false
set_option maxRecDepth 100000
set_option maxHeartbeats 1000000
/-! ML: who is left, in plain Lean. -/
namespace G
open PySem PySem.Spec PyProof.Rows L2
/-- weights are whole and above nought -/
def Wt (f : List One) : Prop := ∀ o ∈ f, 1 ≤ o.weight
/-- costs are nought at least -/
def Co (t : List (Str × Int)) : Prop := ∀ p ∈ t, 0 ≤ p.2
theorem VF.wt {t : List (Str × Int)} {f : List One} (h : VF t f) : Wt f := fun o ho => (h.on o ho).we.1
theorem VT.coo {t : List (Str × Int)} (h : VT t) : Co t := fun p hp => (h.co p hp).1
theorem sumw_sub {f g : List One} (s : g.Sublist f) (h : Wt f) : (g.map (·.weight)).sum ≤ (f.map (·.weight)).sum ∧ 0 ≤ (g.map (·.weight)).sum := by
  induction s with
  | slnil => exact ⟨Int.le_refl _, Int.le_refl _⟩
  | cons a s ih =>
    have i := ih fun o ho => h o (List.mem_cons_of_mem _ ho)
    have := h a (List.mem_cons_self ..)
    rw [List.map_cons, List.sum_cons]
    omega
  | cons_cons a s ih =>
    have i := ih fun o ho => h o (List.mem_cons_of_mem _ ho)
    have := h a (List.mem_cons_self ..)
    rw [List.map_cons, List.sum_cons, List.map_cons, List.sum_cons]
    omega
theorem weight_sub {f g : List One} (s : g.Sublist f) (h : Wt f) (x : Str) : weightOf g x ≤ weightOf f x ∧ 0 ≤ weightOf g x :=
  sumw_sub (s.filter _) fun o ho => h o (List.mem_filter.mp ho).1
theorem weight_one {f : List One} (h : Wt f) {o : One} (ho : o ∈ f) {x : Str} (hx : x ∈ o.wants) : 1 ≤ weightOf f x := by
  have m : o ∈ usersOf f x := List.mem_filter.mpr ⟨ho, by simpa using hx⟩
  have s : [o].Sublist (usersOf f x) := List.singleton_sublist.mpr m
  have := (sumw_sub s fun o ho => h o (List.mem_filter.mp ho).1).1
  have w := h o ho
  unfold weightOf
  rw [List.map_cons, List.map_nil, List.sum_cons, List.sum_nil] at this
  omega
theorem mk_le {a : Int} {m n : Nat} (ha : 0 ≤ a) (hm : 0 < m) (h : m ≤ n) : mkRat a n ≤ mkRat a m := by
  rw [Rat.mkRat_eq_div, Rat.mkRat_eq_div]
  have hm' : (0 : Rat) < (m : Rat) := Rat.natCast_pos.mpr hm
  have hn' : (0 : Rat) < (n : Rat) := Rat.natCast_pos.mpr (by omega)
  have ha' : (0 : Rat) ≤ (a : Rat) := Rat.intCast_nonneg.mpr ha
  have hmn : (m : Rat) ≤ (n : Rat) := Rat.natCast_le_natCast.mpr h
  have hm0 : (m : Rat) ≠ 0 := fun z => by rw [z] at hm'; exact Rat.lt_irrefl hm'
  have hn0 : (n : Rat) ≠ 0 := fun z => by rw [z] at hn'; exact Rat.lt_irrefl hn'
  have e1 : (a : Rat) / n * n = a := Rat.div_mul_cancel hn0
  have e2 : (a : Rat) / m * m = a := Rat.div_mul_cancel hm0
  have p : (0 : Rat) ≤ (a : Rat) / m := by
    have : (0 : Rat) ≤ (a : Rat) / m * m := by rw [e2]; exact ha'
    refine Rat.le_of_mul_le_mul_right (c := (m : Rat)) ?_ hm'
    rw [Rat.zero_mul]; exact this
  refine Rat.le_of_mul_le_mul_right (c := (n : Rat)) ?_ hn'
  rw [e1]
  have := Rat.mul_le_mul_of_nonneg_left hmn p
  rw [e2] at this
  exact this
theorem mk_nonneg {a : Int} {m : Nat} (ha : 0 ≤ a) : 0 ≤ mkRat a m := by
  rw [← Rat.divInt_ofNat]
  exact Rat.divInt_nonneg ha (Int.natCast_nonneg _)
theorem part_mono {f g : List One} (s : g.Sublist f) (h : Wt f) {o : One} (ho : o ∈ g) {p : Str × Int} (hp : 0 ≤ p.2) (hx : p.1 ∈ o.wants) : part f p o ≤ part g p o := by
  have w := weight_sub s h p.1
  have w1 := weight_one (fun o ho => h o (s.subset ho)) ho hx
  have := h o (s.subset ho)
  exact mk_le (Int.mul_nonneg hp (by omega)) (by omega) (by omega)
theorem part_nonneg {f : List One} {o : One} (ho : 1 ≤ o.weight) {p : Str × Int} (hp : 0 ≤ p.2) : 0 ≤ part f p o := mk_nonneg (Int.mul_nonneg hp (by omega))
theorem rsum_le {α : Type} (l : List α) (a b : α → Rat) (h : ∀ x ∈ l, a x ≤ b x) : (l.map a).sum ≤ (l.map b).sum := by
  induction l with
  | nil => exact Rat.le_refl
  | cons x l ih =>
    rw [List.map_cons, List.map_cons, List.sum_cons, List.sum_cons]
    exact Rat.le_trans (Rat.add_le_add_right.mpr (h x (List.mem_cons_self ..))) (Rat.add_le_add_left.mpr (ih fun y hy => h y (List.mem_cons_of_mem _ hy)))
theorem rsum_nonneg {α : Type} (l : List α) (a : α → Rat) (h : ∀ x ∈ l, 0 ≤ a x) : 0 ≤ (l.map a).sum := by
  induction l with
  | nil => exact Rat.le_refl
  | cons x l ih =>
    rw [List.map_cons, List.sum_cons]
    exact Rat.add_nonneg (h x (List.mem_cons_self ..)) (ih fun y hy => h y (List.mem_cons_of_mem _ hy))
/-- with fewer around, each one's share is no smaller -/
theorem share_mono {t : List (Str × Int)} (hc : Co t) {f g : List One} (s : g.Sublist f) (h : Wt f) {o : One} (ho : o ∈ g) : share t f o ≤ share t g o := by
  refine rsum_le _ _ _ fun p hp => ?_
  obtain ⟨hp, hx⟩ := List.mem_filter.mp hp
  exact part_mono s h ho (hc p hp) (by simpa using hx)
theorem share_nonneg {t : List (Str × Int)} (hc : Co t) {f : List One} {o : One} (ho : 1 ≤ o.weight) : 0 ≤ share t f o :=
  rsum_nonneg _ _ fun p hp => part_nonneg ho (hc p (List.mem_filter.mp hp).1)

/-! ### who pays gladly -/
def pays (t : List (Str × Int)) (ex : Str → Option Rat) (f : List One) (o : One) : Bool := match ex o.name with
  | none => true
  | some e => !decide ((o.worth : Rat) + e < share t f o)
def Glad (t : List (Str × Int)) (ex : Str → Option Rat) (f : List One) : Prop := ∀ o ∈ f, pays t ex f o = true
def lstep (t : List (Str × Int)) (ex : Str → Option Rat) (f : List One) : List One := f.filter (pays t ex f)
def lleft (t : List (Str × Int)) (ex : Str → Option Rat) : Nat → List One → List One
  | 0, f => f
  | n + 1, f => if (lstep t ex f).length = f.length then f else lleft t ex n (lstep t ex f)
def leftOf (t : List (Str × Int)) (ex : Str → Option Rat) (f : List One) : List One := lleft t ex f.length f
variable {t : List (Str × Int)} {ex : Str → Option Rat}
theorem pays_mono (hc : Co t) {f g : List One} (s : g.Sublist f) (h : Wt f) {o : One} (ho : o ∈ g) (p : pays t ex g o = true) : pays t ex f o = true := by
  unfold pays at p ⊢
  split at p
  · rfl
  · rename_i e _
    simp only [Bool.not_eq_true', decide_eq_false_iff_not] at p ⊢
    exact fun z => p (Rat.not_le.mp fun k => Rat.not_le.mpr z (Rat.le_trans (share_mono hc s h ho) k))
theorem lstep_sub (f : List One) : (lstep t ex f).Sublist f := List.filter_sublist
theorem lleft_sub : ∀ (n : Nat) (f : List One), (lleft t ex n f).Sublist f
  | 0, f => List.Sublist.refl f
  | n + 1, f => by
    unfold lleft
    split
    · exact List.Sublist.refl f
    · exact (lleft_sub n _).trans (lstep_sub f)
theorem leftOf_sub (f : List One) : (leftOf t ex f).Sublist f := lleft_sub _ f
theorem lstep_same {f : List One} (h : (lstep t ex f).length = f.length) : Glad t ex f := fun o ho => by
  have e : lstep t ex f = f := (lstep_sub f).eq_of_length h
  have : o ∈ lstep t ex f := e.symm ▸ ho
  exact (List.mem_filter.mp this).2
theorem lleft_glad : ∀ (n : Nat) (f : List One), f.length ≤ n → Glad t ex (lleft t ex n f)
  | 0, f, h => by
    have : f = [] := List.length_eq_zero_iff.mp (Nat.le_zero.mp h)
    subst this
    intro o ho; cases ho
  | n + 1, f, h => by
    unfold lleft
    split
    · rename_i e
      exact lstep_same e
    · rename_i e
      have l := (lstep_sub (t := t) (ex := ex) f).length_le
      exact lleft_glad n _ (by omega)
theorem leftOf_glad (f : List One) : Glad t ex (leftOf t ex f) := lleft_glad _ f (Nat.le_refl _)
theorem lleft_all (hc : Co t) {g : List One} : ∀ (n : Nat) (f : List One), Wt f → g.Sublist f → Glad t ex g → g.Sublist (lleft t ex n f)
  | 0, f, _, s, _ => s
  | n + 1, f, h, s, hg => by
    unfold lleft
    split
    · exact s
    · refine lleft_all hc n _ (fun o ho => h o ((lstep_sub f).subset ho)) ?_ hg
      have e : g.filter (pays t ex f) = g := List.filter_eq_self.mpr fun o ho => pays_mono hc s h ho (hg o ho)
      have := s.filter (pays t ex f)
      rw [e] at this
      exact this
/-- whoever is glad somewhere is left -/
theorem leftOf_all (hc : Co t) {f g : List One} (h : Wt f) (s : g.Sublist f) (hg : Glad t ex g) : g.Sublist (leftOf t ex f) := lleft_all hc _ f h s hg
/-- fuel does not matter -/
theorem lleft_more : ∀ (n m : Nat) (f : List One), f.length ≤ n → f.length ≤ m → lleft t ex n f = lleft t ex m f
  | 0, 0, f, _, _ => rfl
  | 0, m + 1, f, h, _ => by
    have : f = [] := List.length_eq_zero_iff.mp (Nat.le_zero.mp h)
    subst this
    rfl
  | n + 1, 0, f, _, h => by
    have : f = [] := List.length_eq_zero_iff.mp (Nat.le_zero.mp h)
    subst this
    rfl
  | n + 1, m + 1, f, h, k => by
    unfold lleft
    split
    · rfl
    · rename_i e
      have l := (lstep_sub (t := t) (ex := ex) f).length_le
      exact lleft_more n m _ (by omega) (by omega)
theorem leftOf_step {f : List One} (h : (lstep t ex f).length ≠ f.length) : leftOf t ex f = leftOf t ex (lstep t ex f) := by
  have l := (lstep_sub (t := t) (ex := ex) f).length_le
  unfold leftOf
  have e : lleft t ex f.length f = lleft t ex (f.length + 1) f := lleft_more _ _ _ (Nat.le_refl _) (by omega)
  rw [e]
  conv => lhs; unfold lleft
  rw [if_neg h]
  exact lleft_more _ _ _ (by omega) (Nat.le_refl _)
theorem leftOf_same {f : List One} (h : (lstep t ex f).length = f.length) : leftOf t ex f = f := by
  unfold leftOf
  have e : lleft t ex f.length f = lleft t ex (f.length + 1) f := lleft_more _ _ _ (Nat.le_refl _) (by omega)
  rw [e]
  unfold lleft
  rw [if_pos h]
end G


set_option Elab.async false
set_option maxRecDepth 100000
set_option maxHeartbeats 1000000
/-! M23: shares are means over all orders, in plain Lean. -/
namespace G
open PySem PySem.Spec PyProof.Rows L2
def fct : Nat → Nat
  | 0 => 1
  | n + 1 => (n + 1) * fct n
theorem fct_pos : ∀ n, 0 < fct n
  | 0 => by decide
  | n + 1 => Nat.mul_pos (by omega) (fct_pos n)
theorem ords_len : ∀ (n : Nat) (l : List Str), ∀ r ∈ ords n l, r.length = n
  | 0, l, r, h => by
    unfold ords at h
    simp only [List.mem_cons, List.not_mem_nil, or_false] at h
    subst h; rfl
  | n + 1, l, r, h => by
    unfold ords at h
    obtain ⟨x, _, h⟩ := List.mem_flatMap.mp h
    obtain ⟨r', h', rfl⟩ := List.mem_map.mp h
    rw [List.length_cons, ords_len n _ r' h']
theorem ords_sub : ∀ (n : Nat) (l : List Str), ∀ r ∈ ords n l, ∀ x ∈ r, x ∈ l
  | 0, l, r, h, x, hx => by
    unfold ords at h
    simp only [List.mem_cons, List.not_mem_nil, or_false] at h
    subst h; cases hx
  | n + 1, l, r, h, x, hx => by
    unfold ords at h
    obtain ⟨y, hy, h⟩ := List.mem_flatMap.mp h
    obtain ⟨r', h', rfl⟩ := List.mem_map.mp h
    rcases List.mem_cons.mp hx with rfl | hx
    · exact hy
    · exact (List.mem_filter.mp (ords_sub n _ r' h' x hx)).1
theorem ords_nodup : ∀ (n : Nat) (l : List Str), ∀ r ∈ ords n l, r.Nodup
  | 0, l, r, h => by
    unfold ords at h
    simp only [List.mem_cons, List.not_mem_nil, or_false] at h
    subst h; exact List.nodup_nil
  | n + 1, l, r, h => by
    unfold ords at h
    obtain ⟨y, hy, h⟩ := List.mem_flatMap.mp h
    obtain ⟨r', h', rfl⟩ := List.mem_map.mp h
    refine List.nodup_cons.mpr ⟨fun z => ?_, ords_nodup n _ r' h'⟩
    have := (List.mem_filter.mp (ords_sub n _ r' h' y z)).2
    simp at this
theorem rest_len {l : List Str} (h : l.Nodup) {x : Str} (hx : x ∈ l) : (l.filter fun y => !decide (y = x)).length + 1 = l.length := by
  induction l with
  | nil => cases hx
  | cons a l ih =>
    rw [List.nodup_cons] at h
    by_cases e : a = x
    · subst e
      rw [List.filter_cons_of_neg (by simp), List.length_cons]
      have : l.filter (fun y => !decide (y = a)) = l := List.filter_eq_self.mpr fun y hy => by
        have : y ≠ a := fun z => h.1 (z ▸ hy)
        simp [this]
      rw [this]
    · rw [List.filter_cons_of_pos (by simp [e]), List.length_cons, List.length_cons]
      rcases List.mem_cons.mp hx with z | hx
      · exact (e z.symm).elim
      · rw [ih h.2 hx]
theorem ords_count : ∀ (n : Nat) (l : List Str), l.Nodup → l.length = n → (ords n l).length = fct n
  | 0, l, _, _ => rfl
  | n + 1, l, hn, hl => by
    unfold ords
    rw [List.length_flatMap]
    have e : (l.map fun x => ((ords n (l.filter fun y => !decide (y = x))).map (x :: ·)).length) = l.map fun _ => fct n := List.map_congr_left fun x hx => by
      rw [List.length_map, ords_count n _ (hn.sublist List.filter_sublist) (by have := rest_len hn hx; omega)]
    rw [e]
    have : ∀ m : List Str, (m.map fun _ => fct n).sum = m.length * fct n := by
      intro m
      induction m with
      | nil => simp
      | cons a m ih => rw [List.map_cons, List.sum_cons, ih, List.length_cons, Nat.add_mul, Nat.one_mul, Nat.add_comm]
    rw [this, hl]; rfl
section
variable (W : Str → List Str) (P : Str → Int)
def frsh (h : List Str) (m : Str) : List Str := (W m).filter fun x => !decide (x ∈ h)
def stp (s : List Str × (Str → Int)) (m : Str) : List Str × (Str → Int) := (s.1 ++ frsh W s.1 m, fun n => if n = m then s.2 n + ((frsh W s.1 m).map P).sum else s.2 n)
def gain (h : List Str) : List Str → Str → Int
  | [], _ => 0
  | m :: r, n => (if n = m then ((frsh W h m).map P).sum else 0) + gain (h ++ frsh W h m) r n
def firstIn (x : Str) : List Str → Str → Int
  | [], _ => 0
  | m :: r, n => if m = n then 1 else if x ∈ W m then 0 else firstIn x r n
theorem run_gain : ∀ (r h : List Str) (a : Str → Int) (n : Str), (r.foldl (stp W P) (h, a)).2 n = a n + gain W P h r n
  | [], h, a, n => by show a n = a n + 0; omega
  | m :: r, h, a, n => by
    rw [List.foldl_cons]
    unfold stp gain
    dsimp only
    rw [show (fun (s : List Str × (Str → Int)) m => (s.1 ++ frsh W s.1 m, fun n => if n = m then s.2 n + ((frsh W s.1 m).map P).sum else s.2 n)) = stp W P from rfl, run_gain r]
    split <;> omega
def addAll (os : List (List Str)) : Str → Int := os.foldl (fun a r => (r.foldl (stp W P) ([], a)).2) fun _ => 0
theorem addAll_sum (os : List (List Str)) (n : Str) : addAll W P os n = (os.map fun r => gain W P [] r n).sum := by
  have key : ∀ (os : List (List Str)) (a : Str → Int), os.foldl (fun a r => (r.foldl (stp W P) ([], a)).2) a n = a n + (os.map fun r => gain W P [] r n).sum := by
    intro os
    induction os with
    | nil => intro a; simp
    | cons r os ih =>
      intro a
      rw [List.foldl_cons, ih, run_gain, List.map_cons, List.sum_cons]; omega
  rw [addAll, key]; simp
theorem gain_out : ∀ (r h : List Str) (n : Str), n ∉ r → gain W P h r n = 0
  | [], _, _, _ => rfl
  | m :: r, h, n, hn => by
    rw [List.mem_cons, not_or] at hn
    unfold gain
    rw [if_neg hn.1, gain_out r _ n hn.2]; rfl
theorem sum_filter {α : Type} (l : List α) (c : α → Bool) (g : α → Int) : ((l.filter c).map g).sum = (l.map fun x => if c x = true then g x else 0).sum := by
  induction l with
  | nil => rfl
  | cons a l ih =>
    by_cases h : c a = true
    · rw [List.filter_cons_of_pos h, List.map_cons, List.sum_cons, ih, List.map_cons, List.sum_cons, if_pos h]
    · rw [List.filter_cons_of_neg h, ih, List.map_cons, List.sum_cons, if_neg h]; omega
theorem gain_first : ∀ (r h : List Str) (n : Str), r.Nodup → gain W P h r n = ((W n).map fun x => if x ∈ h then 0 else P x * firstIn W x r n).sum
  | [], h, n, _ => by
    unfold gain firstIn
    have : ((W n).map fun x => if x ∈ h then (0 : Int) else P x * 0) = (W n).map fun _ => 0 := List.map_congr_left fun x _ => by split <;> omega
    rw [this]
    have : ∀ m : List Str, (m.map fun _ => (0 : Int)).sum = 0 := by
      intro m
      induction m with
      | nil => rfl
      | cons a m ih => rw [List.map_cons, List.sum_cons, ih]; rfl
    rw [this]
  | m :: r, h, n, hn => by
    rw [List.nodup_cons] at hn
    unfold gain
    by_cases e : n = m
    · subst e
      rw [if_pos rfl, gain_out W P r _ n hn.1]
      unfold frsh
      rw [sum_filter, Int.add_zero]
      refine congrArg List.sum (List.map_congr_left fun x _ => ?_)
      unfold firstIn
      rw [if_pos rfl, Int.mul_one]
      by_cases k : x ∈ h <;> simp [k]
    · rw [if_neg e, gain_first r _ n hn.2, Int.zero_add]
      refine congrArg List.sum (List.map_congr_left fun x _ => ?_)
      have e' : ¬ m = n := fun z => e z.symm
      conv => rhs; unfold firstIn
      rw [if_neg e']
      have mm : (x ∈ h ++ frsh W h m) ↔ (x ∈ h ∨ x ∈ W m) := by
        unfold frsh
        rw [List.mem_append, List.mem_filter]
        by_cases k : x ∈ h <;> simp [k]
      by_cases k : x ∈ h
      · rw [if_pos (mm.mpr (.inl k)), if_pos k]
      · by_cases k2 : x ∈ W m
        · rw [if_pos (mm.mpr (.inr k2)), if_neg k, if_pos k2, Int.mul_zero]
        · rw [if_neg (fun z => (mm.mp z).elim k k2), if_neg k, if_neg k2]
theorem sum_swap {α β : Type} (as : List α) (bs : List β) (g : α → β → Int) : (as.map fun a => (bs.map fun b => g a b).sum).sum = (bs.map fun b => (as.map fun a => g a b).sum).sum := by
  induction as with
  | nil =>
    simp only [List.map_nil, List.sum_nil]
    induction bs with
    | nil => rfl
    | cons b bs ih => rw [List.map_cons, List.sum_cons, ← ih]; rfl
  | cons a as ih =>
    rw [List.map_cons, List.sum_cons, ih]
    clear ih
    induction bs with
    | nil => rfl
    | cons b bs ih => simp only [List.map_cons, List.sum_cons] at ih ⊢; omega
theorem sum_mul {α : Type} (l : List α) (g : α → Int) (c : Int) : (l.map fun a => c * g a).sum = c * (l.map g).sum := by
  induction l with
  | nil => simp
  | cons a l ih => rw [List.map_cons, List.sum_cons, ih, List.map_cons, List.sum_cons, Int.mul_add]
theorem sum_flat {α β : Type} (l : List α) (f : α → List β) (g : β → Int) : ((l.flatMap f).map g).sum = (l.map fun a => ((f a).map g).sum).sum := by
  induction l with
  | nil => rfl
  | cons a l ih => rw [List.flatMap_cons, List.map_append, List.sum_append, ih, List.map_cons, List.sum_cons]
theorem sum_const {α : Type} (l : List α) (c : Int) : (l.map fun _ => c).sum = l.length * c := by
  induction l with
  | nil => simp
  | cons a l ih => rw [List.map_cons, List.sum_cons, ih, List.length_cons, Int.natCast_add, Int.add_mul]; omega
theorem pick_out (l : List Str) (x m : Str) (K F : Int) (hm : m ∉ l) : (l.map fun y => if y = m then K else if x ∈ W y then 0 else F).sum + F * ((l.filter fun y => decide (x ∈ W y)).length : Int) = F * l.length := by
  induction l with
  | nil => simp
  | cons a l ih =>
    rw [List.mem_cons, not_or] at hm
    have i := ih hm.2
    rw [List.map_cons, List.sum_cons, if_neg fun z => hm.1 z.symm, List.length_cons]
    by_cases k : x ∈ W a
    · rw [List.filter_cons_of_pos (by simp [k]), if_pos k, List.length_cons, Int.natCast_add, Int.natCast_add, Int.mul_add, Int.mul_add]; omega
    · rw [List.filter_cons_of_neg (by simp [k]), if_neg k, Int.natCast_add, Int.mul_add]; omega
theorem pick_in (l : List Str) (x m : Str) (K F : Int) (hn : l.Nodup) (hm : m ∈ l) (hx : x ∈ W m) : (l.map fun y => if y = m then K else if x ∈ W y then 0 else F).sum + F * ((l.filter fun y => decide (x ∈ W y)).length : Int) = K + F * l.length := by
  induction l with
  | nil => cases hm
  | cons a l ih =>
    rw [List.nodup_cons] at hn
    rw [List.map_cons, List.sum_cons, List.length_cons]
    by_cases e : a = m
    · subst e
      have i := pick_out W l x a K F hn.1
      rw [if_pos rfl, List.filter_cons_of_pos (by simp [hx]), List.length_cons, Int.natCast_add, Int.natCast_add, Int.mul_add, Int.mul_add]; omega
    · have i := ih hn.2 ((List.mem_cons.mp hm).resolve_left fun z => e z.symm)
      rw [if_neg e]
      by_cases k : x ∈ W a
      · rw [List.filter_cons_of_pos (by simp [k]), if_pos k, List.length_cons, Int.natCast_add, Int.natCast_add, Int.mul_add, Int.mul_add]; omega
      · rw [List.filter_cons_of_neg (by simp [k]), if_neg k, Int.natCast_add, Int.mul_add]; omega
theorem users_rest {l : List Str} {x y : Str} (h : x ∉ W y) : ((l.filter fun z => !decide (z = y)).filter fun z => decide (x ∈ W z)) = l.filter fun z => decide (x ∈ W z) := by
  rw [List.filter_filter]
  refine List.filter_congr fun z _ => ?_
  by_cases e : z = y
  · subst e; simp [h]
  · simp [e]
/-- in how many orders the one is ahead of all others that want x -/
theorem sum_first : ∀ (n : Nat) (l : List Str) (x m : Str), l.Nodup → l.length = n → m ∈ l → x ∈ W m → ((ords n l).map fun r => firstIn W x r m).sum * ((l.filter fun y => decide (x ∈ W y)).length : Int) = fct n
  | 0, l, x, m, _, hl, hm, _ => by
    have : l = [] := List.length_eq_zero_iff.mp hl
    rw [this] at hm; cases hm
  | n + 1, l, x, m, hn, hl, hm, hx => by
    have e0 : ords (n + 1) l = l.flatMap fun y => (ords n (l.filter fun z => !decide (z = y))).map (y :: ·) := rfl
    rw [e0, sum_flat, Int.mul_comm, ← sum_mul]
    have e1 : (l.map fun y => ((l.filter fun y => decide (x ∈ W y)).length : Int) * (((ords n (l.filter fun z => !decide (z = y))).map (y :: ·)).map fun r => firstIn W x r m).sum) = l.map fun y => if y = m then ((l.filter fun y => decide (x ∈ W y)).length : Int) * fct n else if x ∈ W y then 0 else (fct n : Int) := by
      refine List.map_congr_left fun y hy => ?_
      have rl := rest_len hn hy
      have rn : (l.filter fun z => !decide (z = y)).Nodup := hn.sublist List.filter_sublist
      rw [List.map_map]
      by_cases e : y = m
      · subst e
        rw [if_pos rfl]
        have : ((fun r => firstIn W x r y) ∘ fun r => y :: r) = fun _ => (1 : Int) := by
          funext r
          show firstIn W x (y :: r) y = 1
          unfold firstIn
          rw [if_pos rfl]
        rw [this, sum_const, ords_count n _ rn (by omega), Int.mul_one]
      · rw [if_neg e]
        by_cases k : x ∈ W y
        · rw [if_pos k]
          have : ((fun r => firstIn W x r m) ∘ fun r => y :: r) = fun _ => (0 : Int) := by
            funext r
            show firstIn W x (y :: r) m = 0
            unfold firstIn
            rw [if_neg e, if_pos k]
          rw [this, sum_const, Int.mul_zero, Int.mul_zero]
        · rw [if_neg k]
          have : ((fun r => firstIn W x r m) ∘ fun r => y :: r) = fun r => firstIn W x r m := by
            funext r
            show firstIn W x (y :: r) m = _
            conv => lhs; unfold firstIn
            rw [if_neg e, if_neg k]
          have i := sum_first n (l.filter fun z => !decide (z = y)) x m rn (by omega) (List.mem_filter.mpr ⟨hm, by simp; exact fun z => e z.symm⟩) hx
          rw [users_rest W k] at i
          rw [this, Int.mul_comm]
          exact i
    rw [e1]
    have p := pick_in W l x m (((l.filter fun y => decide (x ∈ W y)).length : Int) * fct n) (fct n) hn hm hx
    have e2 : (fct (n + 1) : Int) = (fct n : Int) * (l.length : Nat) := by
      rw [hl]
      show (((n + 1) * fct n : Nat) : Int) = _
      rw [Int.natCast_mul, Int.mul_comm]
    rw [e2]
    have c := Int.mul_comm (fct n : Int) ((l.filter fun y => decide (x ∈ W y)).length : Int)
    omega
end
theorem rising_ext : ∀ {l m : List Str}, Rising l → Rising m → (∀ x, x ∈ l ↔ x ∈ m) → l = m
  | [], [], _, _, _ => rfl
  | [], b :: m, _, _, h => by have := (h b).mpr (List.mem_cons_self ..); cases this
  | a :: l, [], _, _, h => by have := (h a).mp (List.mem_cons_self ..); cases this
  | a :: l, b :: m, hl, hm, h => by
    have e : a = b := by
      rcases List.mem_cons.mp ((h a).mp (List.mem_cons_self ..)) with e | e
      · exact e
      · rcases List.mem_cons.mp ((h b).mpr (List.mem_cons_self ..)) with k | k
        · exact k.symm
        · exact ((hm.head a e).trans (hl.head b k)).irr.elim
    subst e
    refine congrArg (a :: ·) (rising_ext hl.tail hm.tail fun x => ⟨fun hx => ?_, fun hx => ?_⟩)
    · rcases List.mem_cons.mp ((h x).mp (List.mem_cons_of_mem _ hx)) with e | e
      · subst e; exact (hl.head x hx).irr.elim
      · exact e
    · rcases List.mem_cons.mp ((h x).mpr (List.mem_cons_of_mem _ hx)) with e | e
      · subst e; exact (hm.head x hx).irr.elim
      · exact e
def wantsAt (f : List One) (n : Str) : List Str := (lget (f.map fun o => (o.name, o.wants)) n).getD []
def priceAt (t : List (Str × Int)) (x : Str) : Int := (lget t x).getD 0
theorem wantsAt_of {f : List One} (h : (f.map (·.name)).Nodup) {o : One} (ho : o ∈ f) : lget (f.map fun o => (o.name, o.wants)) o.name = some o.wants :=
  lget_mem (p := (o.name, o.wants)) (by rw [List.map_map]; exact h) (List.mem_map.mpr ⟨o, ho, rfl⟩)
theorem priceAt_of {t : List (Str × Int)} (h : (t.map (·.1)).Nodup) {p : Str × Int} (hp : p ∈ t) : lget t p.1 = some p.2 := lget_mem h hp
theorem mk_add (a b : Int) (N : Nat) (hN : N ≠ 0) : mkRat (a + b) N = mkRat a N + mkRat b N := by
  rw [Rat.mkRat_add_mkRat _ _ hN hN, ← Int.add_mul]
  exact (Rat.mkRat_mul_right hN).symm
theorem mk_sum {α : Type} (l : List α) (g : α → Int) (N : Nat) (hN : N ≠ 0) : mkRat (l.map g).sum N = (l.map fun a => mkRat (g a) N).sum := by
  induction l with
  | nil => exact Rat.zero_mkRat N
  | cons a l ih => rw [List.map_cons, List.sum_cons, mk_add _ _ _ hN, ih, List.map_cons, List.sum_cons]
theorem mean_is {t : List (Str × Int)} {f : List One} (ht : VT t) (hf : VF t f) (h1 : ∀ o ∈ f, o.weight = 1) :
    sharesOf t f = f.map fun o => (o.name, mkRat (addAll (wantsAt f) (priceAt t) (ords f.length (nmsOf f)) o.name) (fct f.length)) := by
  unfold sharesOf
  refine List.map_congr_left fun o ho => ?_
  refine congrArg (Prod.mk o.name) ?_
  have nn : (nmsOf f).Nodup := hf.nodup
  have nl : (nmsOf f).length = f.length := List.length_map _
  have fp := fct_pos f.length
  have wo : wantsAt f o.name = o.wants := by unfold wantsAt; rw [wantsAt_of hf.nodup ho]; rfl
  rw [addAll_sum]
  have e1 : ((ords f.length (nmsOf f)).map fun r => gain (wantsAt f) (priceAt t) [] r o.name) = (ords f.length (nmsOf f)).map fun r => (o.wants.map fun x => priceAt t x * firstIn (wantsAt f) x r o.name).sum := by
    refine List.map_congr_left fun r hr => ?_
    rw [gain_first _ _ r [] o.name (ords_nodup _ _ r hr), wo]
    simp only [List.not_mem_nil, if_false]
  rw [e1, sum_swap]
  have e2 : o.wants = (t.filter fun p => decide (p.1 ∈ o.wants)).map (·.1) := by
    refine rising_ext (hf.on o ho).up (Rising.of (ht.up.pw.sublist (List.filter_sublist.map _))) fun x => ?_
    rw [List.mem_map]
    constructor
    · intro hx
      obtain ⟨p, hp, rfl⟩ := List.mem_map.mp ((hf.on o ho).ws x hx)
      exact ⟨p, List.mem_filter.mpr ⟨hp, by simpa using hx⟩, rfl⟩
    · rintro ⟨p, hp, rfl⟩
      simpa using (List.mem_filter.mp hp).2
  unfold share
  rw [mk_sum _ _ _ (by omega)]
  conv => rhs; rw [e2, List.map_map]
  refine congrArg List.sum (List.map_congr_left fun p hp => ?_)
  obtain ⟨hp, hx⟩ := List.mem_filter.mp hp
  have hx : p.1 ∈ o.wants := by simpa using hx
  show part f p o = mkRat ((ords f.length (nmsOf f)).map fun r => priceAt t p.1 * firstIn (wantsAt f) p.1 r o.name).sum (fct f.length)
  rw [sum_mul]
  have pr : priceAt t p.1 = p.2 := by unfold priceAt; rw [priceAt_of ht.up.nodup hp]; rfl
  have sf := sum_first (wantsAt f) f.length (nmsOf f) p.1 o.name nn nl (List.mem_map_of_mem ho) (by rw [wo]; exact hx)
  have ul : ((nmsOf f).filter fun y => decide (p.1 ∈ wantsAt f y)).length = (usersOf f p.1).length := by
    unfold nmsOf usersOf
    rw [List.filter_map, List.length_map]
    refine congrArg List.length (List.filter_congr fun q hq => ?_)
    show decide (p.1 ∈ wantsAt f q.name) = _
    unfold wantsAt
    rw [wantsAt_of hf.nodup hq]; rfl
  rw [ul] at sf
  have wt : weightOf f p.1 = ((usersOf f p.1).length : Int) := by
    unfold weightOf
    have : (usersOf f p.1).map (·.weight) = (usersOf f p.1).map fun _ => (1 : Int) := List.map_congr_left fun q hq => h1 q (List.mem_filter.mp hq).1
    rw [this, sum_const, Int.mul_one]
  unfold part
  rw [wt, Int.toNat_natCast, h1 o ho, Int.mul_one, pr]
  generalize ((ords f.length (nmsOf f)).map fun r => firstIn (wantsAt f) p.1 r o.name).sum = S at sf
  have s0 : 0 < S := by
    have up : (0 : Int) ≤ ((usersOf f p.1).length : Nat) := Int.natCast_nonneg _
    rcases Int.lt_trichotomy S 0 with h | h | h
    · have := Int.mul_nonpos_of_nonpos_of_nonneg (Int.le_of_lt h) up
      omega
    · rw [h, Int.zero_mul] at sf; omega
    · exact h
  obtain ⟨k, rfl⟩ : ∃ k : Nat, S = k := ⟨S.toNat, by omega⟩
  have e3 : fct f.length = (usersOf f p.1).length * k := by
    have : ((k * (usersOf f p.1).length : Nat) : Int) = (fct f.length : Nat) := by rw [Int.natCast_mul]; exact sf
    rw [Nat.mul_comm]; exact (Int.ofNat.inj this).symm
  rw [e3]
  exact (Rat.mkRat_mul_right (by omega)).symm
end G


set_option Elab.async false
set_option maxRecDepth 100000
set_option maxHeartbeats 1000000
/-! GP6: what the defs about those left promise. -/
namespace G
open PySem PySem.Spec PyProof.Rows L2
open PySem.W (Datum)
def oR : Option Rat → PyData
  | none => .none
  | some q => fr q
def exOf (more : List (Str × Option Rat)) (n : Str) : Option Rat := (lget more n).getD (some 0)
def moD (more : List (Str × Option Rat)) : PyData := .dict (dS oR more)
/-- what is given more is not too long a fraction -/
def MoOk (more : List (Str × Option Rat)) : Prop := ∀ n e, exOf more n = some e → Bd 1500 e
def payB (ex : Option Rat) (worth : Int) (s : Rat) : Bool := match ex with
  | none => true
  | some e => !decide ((worth : Rat) + e < s)
theorem pays_is (t : List (Str × Int)) (ex : Str → Option Rat) (f : List One) (o : One) : pays t ex f o = payB (ex o.name) o.worth (share t f o) := by
  unfold pays payB
  cases ex o.name <;> rfl
def p_would_pay : PSp := fun ss R _ => ∃ o s more, Bd 200 s ∧ 0 ≤ o.worth ∧ o.worth ≤ 1000 ∧ MoOk more ∧ ss = [.dat (oD o), .dat (fr s), .dat (moD more)] ∧ R (.bool (payB (exOf more o.name) o.worth s)) ss
def p_left_of : PSp := fun ss R _ => ∃ t d f more, VT t ∧ VF t f ∧ MoOk more ∧ seqOf d = some (f.map oD) ∧ ss = [.dat (tsD t), .dat d, .dat (moD more)] ∧ R (flD (leftOf t (exOf more) f)) ss
/-- nobody is given more -/
def ex0 : Str → Option Rat := fun _ => some 0
theorem exOf_nil : exOf [] = ex0 := rfl
theorem moOk_nil : MoOk [] := fun n e h => by
  have : e = 0 := (Option.some.inj h).symm
  subst this
  exact ⟨by decide, by decide⟩
def p_left : PSp := fun ss R _ => ∃ t f, VT t ∧ VF t f ∧ ss = [.dat (tsD t), .dat (fsD f)] ∧ R (nsT (nmsOf (leftOf t ex0 f))) ss
def namesIn (d : PyData) (l : List Str) : Prop := d = nsL l ∨ d = nsT l
def outOf (f : List One) (l : List Str) : List One := f.filter fun o => !decide (o.name ∈ l)
def p_without : PSp := fun ss R _ => ∃ df f dl l, seqOf df = some (f.map oD) ∧ namesIn dl l ∧ ss = [.dat df, .dat dl] ∧ R (flD (outOf f l)) ss
def p__law_without : PSp := fun ss R _ => ∃ df f dl l, seqOf df = some (f.map oD) ∧ namesIn dl l ∧ ss = [.dat df, .dat dl] ∧ R (fsD (outOf f l)) ss
def p__law_shares : PSp := p_shares_of
def lots {α : Type} (l : List α) : List (List α) := l.foldl (fun acc x => acc ++ acc.map (· ++ [x])) [[]]
def p__law_lots : PSp := fun ss R _ => ∃ d ds, seqOf d = some ds ∧ ds.length ≤ 8 ∧ ss = [.dat d] ∧ R (.list ((lots ds).map .tuple)) ss
def gladB (t : List (Str × Int)) (f : List One) : Bool := decide (f.filter (fun o => decide ((o.worth : Rat) < share t f o)) = [])
def p__law_glad : PSp := fun ss R _ => ∃ t d f, VT t ∧ VF t f ∧ seqOf d = some (f.map oD) ∧ ss = [.dat (tsD t), .dat d] ∧ R (.bool (gladB t f)) ss
def p__law_greatest : PSp := fun ss R _ => ∃ t d f, VT t ∧ VF t f ∧ seqOf d = some (f.map oD) ∧ ss = [.dat (tsD t), .dat d] ∧ R (nsT (nmsOf (leftOf t ex0 f))) ss
theorem in_names {a : Str} {d : PyData} {l : List Str} {neg : Bool} {R : Bool → Prop} (h : namesIn d l) (q : R (neg ^^ decide (a ∈ l))) : inD neg (.str a) d R := by
  rcases h with rfl | rfl
  · exact in_lst (α := Str) (l := l) q
  · exact in_tup (α := Str) (l := l) q
theorem worth_bd {w : Int} (h0 : 0 ≤ w) (h1 : w ≤ 1000) : Bd 10 (w : Rat) := ⟨by show w.natAbs < 2 ^ 10; omega, by show (1 : Nat) < 2 ^ 10; decide⟩
theorem glad_iff {t : List (Str × Int)} {f : List One} : gladB t f = true ↔ Glad t ex0 f := by
  unfold gladB Glad
  rw [decide_eq_true_eq, List.filter_eq_nil_iff]
  refine ⟨fun h o ho => ?_, fun h o ho => ?_⟩
  · have := h o ho
    unfold pays ex0
    simp only [decide_eq_true_eq] at this
    show (!decide ((o.worth : Rat) + 0 < share t f o)) = true
    rw [Rat.add_zero, decide_eq_false this]; rfl
  · have := h o ho
    unfold pays ex0 at this
    have this : (!decide ((o.worth : Rat) + 0 < share t f o)) = true := this
    rw [Rat.add_zero] at this
    simpa using this
theorem share_get {t t' : List (Str × Int)} {f : List One} (hf : VF t f) {o : One} (ho : o ∈ f) : dget (dS fr (sharesOf t' f)) o.name = some (fr (share t' f o)) := by
  have e := lget_mem (l := sharesOf t' f) (p := (o.name, share t' f o)) (by rw [sharesOf_names]; exact hf.nodup) (List.mem_map.mpr ⟨o, ho, rfl⟩)
  rw [dS_get]
  have e : lget (sharesOf t' f) o.name = some (share t' f o) := e
  rw [e]; rfl
theorem share_b200 {t : List (Str × Int)} {f : List One} (ht : VT t) (hf : VF t f) {o : One} (ho : o ∈ f) : Bd 200 (share t f o) :=
  (share_bd hf.on hf.le (fun p hp => ht.co p hp) ho).mono (by have := ht.le; omega)

/-! ### sorted names -/
theorem le_of_not {a b : Str} : a.cps.toList ≤ b.cps.toList ↔ ¬ Lt b a := Iff.rfl
theorem lt_of_le_ne {a b : Str} (h : a.cps.toList ≤ b.cps.toList) (n : a ≠ b) : Lt a b := by
  rcases List.le_total a.cps.toList b.cps.toList with _ | k
  · by_cases z : Lt a b
    · exact z
    · have k : b.cps.toList ≤ a.cps.toList := z
      have e := List.le_antisymm h k
      exact (n (by
        cases a with | mk ca =>
        cases b with | mk cb =>
        have e : ca.toList = cb.toList := e
        exact congrArg Str.mk (Array.toList_inj.mp e))).elim
  · have e := List.le_antisymm h k
    exact (n (by
      cases a with | mk ca =>
      cases b with | mk cb =>
      have e : ca.toList = cb.toList := e
      exact congrArg Str.mk (Array.toList_inj.mp e))).elim
theorem sortD_to {K m : List Str} (hK : K.Nodup) (hm : Rising m) (h : ∀ x, x ∈ K ↔ x ∈ m) : sortD (K.map sD) = m.map sD := by
  let r : Str → Str → Bool := fun a b => decide (a.cps.toList ≤ b.cps.toList)
  have er : ∀ a b : Str, PySem.W.dataLe false (fun d => d) (sD a) (sD b) = r a b := fun a b => by
    have := congrFun (congrFun (PySem.W.dataLe_str (fun s : Str => s)) a) b
    exact this
  have e1 : (K.mergeSort r).map sD = sortD (K.map sD) := List.map_mergeSort fun a _ b _ => (er a b).symm
  rw [← e1]
  refine congrArg (List.map sD) ?_
  have tr : ∀ a b c : Str, r a b = true → r b c = true → r a c = true := fun a b c h1 h2 => by
    simp only [r, decide_eq_true_eq] at h1 h2 ⊢
    exact List.le_trans h1 h2
  have tt : ∀ a b : Str, (r a b || r b a) = true := fun a b => by
    simp only [r, Bool.or_eq_true, decide_eq_true_eq]
    exact List.le_total _ _
  have pw := List.pairwise_mergeSort tr tt K
  have pm := List.mergeSort_perm K r
  have nd : (K.mergeSort r).Nodup := pm.nodup_iff.mpr hK
  have nd' : (K.mergeSort r).Pairwise (· ≠ ·) := nd
  have up : (K.mergeSort r).Pairwise Lt := (pw.and nd').imp fun {a b} ⟨h1, h2⟩ => lt_of_le_ne (by simpa [r] using h1) h2
  exact rising_ext (Rising.of up) hm fun x => (pm.mem_iff).trans (h x)
theorem sortOk_any {K : List Str} (hl : K.length ≤ 1000) : SortOk (K.map sD) := sortOk_strs hl
/-! ### dicts of what is there -/
def truL (K : List Str) : List (PyData × PyData) := dS (fun _ : Unit => PyData.bool true) (K.map fun n => (n, ()))
theorem truL_keys (K : List Str) : (truL K).map (·.1) = K.map sD := by unfold truL dS; rw [List.map_map, List.map_map]; rfl
theorem truL_put (K : List Str) (n : Str) : dput (truL K) n (.bool true) = truL (if n ∈ K then K else K ++ [n]) := by
  have e := dS_put (v := fun _ : Unit => PyData.bool true) (K.map fun n => (n, ())) n ()
  unfold truL
  refine e.trans (congrArg _ ?_)
  unfold lput
  have m : (K.map fun n => (n, ())).map (fun p : Str × Unit => p.1) = K := by
    rw [List.map_map]
    conv => rhs; rw [← List.map_id K]
    rfl
  by_cases c : n ∈ K
  · rw [if_pos (by rw [m]; exact c), if_pos c, List.map_map]
    refine List.map_congr_left fun x _ => ?_
    show (if x = n then (x, ()) else (x, ())) = (x, ())
    split <;> rfl
  · rw [if_neg (by rw [m]; exact c), if_neg c, List.map_append]; rfl
theorem truL_get (K : List Str) (n : Str) : (dget (truL K) n).isSome = decide (n ∈ K) := by
  unfold truL
  rw [dS_get]
  induction K with
  | nil => rfl
  | cons a K ih =>
    rw [List.map_cons]
    unfold lget
    by_cases e : a = n
    · subst e; simp
    · rw [if_neg e, ih]
      have : ¬ n = a := fun z => e z.symm
      simp [this]
/-! ### lots -/
theorem lots_snoc {α : Type} (p : List α) (x : α) : lots (p ++ [x]) = lots p ++ (lots p).map (· ++ [x]) := by unfold lots; rw [List.foldl_append]; rfl
theorem lots_map {α β : Type} (g : α → β) (l : List α) : lots (l.map g) = (lots l).map (List.map g) := by
  have key : ∀ (l : List α) (acc : List (List α)), (l.map g).foldl (fun acc x => acc ++ acc.map (· ++ [x])) (acc.map (List.map g)) = (l.foldl (fun acc x => acc ++ acc.map (· ++ [x])) acc).map (List.map g) := by
    intro l
    induction l with
    | nil => intro acc; rfl
    | cons x l ih =>
      intro acc
      rw [List.map_cons, List.foldl_cons, List.foldl_cons, ← ih]
      refine congrArg (fun z => List.foldl _ z _) ?_
      rw [List.map_append, List.map_map, List.map_map]
      refine congrArg _ (List.map_congr_left fun y _ => ?_)
      show y.map g ++ [g x] = (y ++ [x]).map g
      rw [List.map_append]; rfl
  exact key l [[]]
theorem lots_mem {α : Type} (l : List α) : ∀ m, m ∈ lots l ↔ m.Sublist l := by
  have key : ∀ n (l : List α), l.length = n → ∀ m, m ∈ lots l ↔ m.Sublist l := by
    intro n
    induction n with
    | zero =>
      intro l hl m
      have : l = [] := List.length_eq_zero_iff.mp hl
      subst this
      show m ∈ [[]] ↔ _
      rw [List.mem_singleton, List.sublist_nil]
    | succ n ih =>
      intro l hl m
      have hne : l ≠ [] := fun z => by rw [z] at hl; cases hl
      obtain ⟨q, x, rfl⟩ : ∃ q x, l = q ++ [x] := ⟨l.dropLast, l.getLast hne, (List.dropLast_concat_getLast hne).symm⟩
      have i := ih q (by rw [List.length_append, List.length_cons, List.length_nil] at hl; omega)
      rw [lots_snoc, List.mem_append, List.mem_map]
      constructor
      · rintro (h | ⟨m', h, rfl⟩)
        · exact ((i m).mp h).trans (List.sublist_append_left ..)
        · exact ((i m').mp h).append (List.Sublist.refl _)
      · intro h
        obtain ⟨a, b, e, ha, hb⟩ := List.sublist_append_iff.mp h
        subst e
        cases hb with
        | cons _ hb =>
          rw [List.sublist_nil.mp hb, List.append_nil]
          exact .inl ((i a).mpr ha)
        | cons_cons _ hb =>
          rw [List.sublist_nil.mp hb]
          exact .inr ⟨a, (i a).mpr ha, rfl⟩
  exact key _ l rfl
theorem gt4_free {ρ : Ms} {i j k l : Nat} {a b c d : PyData} {R : Ms → Prop} (h1 : freeS ρ i = true) (h2 : freeS (ρ.set i (.dat a)) j = true) (h3 : freeS ((ρ.set i (.dat a)).set j (.dat b)) k = true) (h4 : freeS (((ρ.set i (.dat a)).set j (.dat b)).set k (.dat c)) l = true)
    (q : R ((((ρ.set i (.dat a)).set j (.dat b)).set k (.dat c)).set l (.dat d))) : mGT [mGN i, mGN j, mGN k, mGN l] (.tuple [a, b, c, d]) ρ R := by
  show mGN i a ρ fun ρ1 => mGN j b ρ1 fun ρ2 => mGN k c ρ2 fun ρ3 => mGN l d ρ3 fun ρ4 => R ρ4
  refine gn_free h1 ?_
  refine gn_free h2 ?_
  refine gn_free h3 ?_
  exact gn_free h4 q
end G


set_option Elab.async false
set_option maxRecDepth 100000
set_option maxHeartbeats 1000000
/-! M22: nobody gains by another word, nor does a lot of them. -/
namespace G
open PySem PySem.Spec PyProof.Rows L2
/-- all say other words -/
def chg (c : Str → Int) (o : One) : One := { o with worth := c o.name }
theorem weight_chg (c : Str → Int) (g : List One) (x : Str) : weightOf (g.map (chg c)) x = weightOf g x := by
  unfold weightOf usersOf
  rw [List.filter_map, List.map_map]
  rfl
theorem share_chg (t : List (Str × Int)) (c : Str → Int) (g : List One) (o : One) : share t (g.map (chg c)) (chg c o) = share t g o := by
  unfold share
  refine congrArg List.sum (List.map_congr_left fun p _ => ?_)
  unfold part
  rw [weight_chg]
  rfl
/-- what one has of it: the true worth less the share, nothing where one is not left -/
def gainOf (t : List (Str × Int)) (L : List One) (o : One) (w : Int) : Rat := if o.name ∈ nmsOf L then (w : Rat) - share t L o else 0
variable {t : List (Str × Int)}
theorem glad_le {f : List One} (h : Glad t ex0 f) {o : One} (ho : o ∈ f) : share t f o ≤ (o.worth : Rat) := by
  have := h o ho
  unfold pays ex0 at this
  have this : (!decide ((o.worth : Rat) + 0 < share t f o)) = true := this
  rw [Rat.add_zero] at this
  simp only [Bool.not_eq_true', decide_eq_false_iff_not] at this
  exact Rat.not_lt.mp this
theorem le_glad {f : List One} (h : ∀ o ∈ f, share t f o ≤ (o.worth : Rat)) : Glad t ex0 f := fun o ho => by
  unfold pays ex0
  show (!decide ((o.worth : Rat) + 0 < share t f o)) = true
  rw [Rat.add_zero]
  simp only [Bool.not_eq_true', decide_eq_false_iff_not]
  exact Rat.not_lt.mpr (h o ho)
theorem mem_of_name {f g : List One} (nd : (f.map (·.name)).Nodup) (s : g.Sublist f) {o : One} (ho : o ∈ f) (h : o.name ∈ nmsOf g) : o ∈ g := by
  obtain ⟨p, hp, e⟩ := List.mem_map.mp h
  have := name_inj nd (s.subset hp) ho e
  exact this ▸ hp
theorem nms_chg (c : Str → Int) (g : List One) : nmsOf (g.map (chg c)) = nmsOf g := by unfold nmsOf; rw [List.map_map]; rfl
/-- where nobody of the lot has less, nobody of it has more -/
theorem no_gain (hc : Co t) {f : List One} (hw : Wt f) (nd : (f.map (·.name)).Nodup) (c : Str → Int) (lot : List Str) (same : ∀ o ∈ f, o.name ∉ lot → c o.name = o.worth)
    (hl : ∀ o ∈ f, o.name ∈ lot → gainOf t (leftOf t ex0 f) o o.worth ≤ gainOf t (leftOf t ex0 (f.map (chg c))) o o.worth) :
    ∀ o ∈ f, o.name ∈ lot → gainOf t (leftOf t ex0 (f.map (chg c))) o o.worth ≤ gainOf t (leftOf t ex0 f) o o.worth := by
  have gR := leftOf_glad (t := t) (ex := ex0) f
  have sR := leftOf_sub (t := t) (ex := ex0) f
  have gS := leftOf_glad (t := t) (ex := ex0) (f.map (chg c))
  obtain ⟨g, sg, eg⟩ := List.sublist_map_iff.mp (leftOf_sub (t := t) (ex := ex0) (f.map (chg c)))
  rw [eg] at gS hl ⊢
  have all := fun {u : List One} (su : u.Sublist f) (hu : Glad t ex0 u) => leftOf_all (ex := ex0) hc hw su hu
  generalize leftOf t ex0 f = R at gR sR hl all ⊢
  have shg : ∀ o : One, share t (g.map (chg c)) o = share t g o := fun o => share_chg t c g o
  let u := f.filter fun o => decide (o.name ∈ nmsOf R) || decide (o.name ∈ nmsOf g)
  have su : u.Sublist f := List.filter_sublist
  have wu : Wt u := fun o ho => hw o (su.subset ho)
  have sRu : R.Sublist u := by
    have := sR.filter (fun o => decide (o.name ∈ nmsOf R) || decide (o.name ∈ nmsOf g))
    rwa [List.filter_eq_self.mpr fun o ho => by rw [decide_eq_true (show o.name ∈ nmsOf R from List.mem_map_of_mem ho)]; rfl] at this
  have sgu : g.Sublist u := by
    have := sg.filter (fun o => decide (o.name ∈ nmsOf R) || decide (o.name ∈ nmsOf g))
    rwa [List.filter_eq_self.mpr fun o ho => by rw [decide_eq_true (show o.name ∈ nmsOf g from List.mem_map_of_mem ho), Bool.or_true]] at this
  have gu : Glad t ex0 u := le_glad fun o ho => by
    have hof := su.subset ho
    by_cases h1 : o.name ∈ nmsOf R
    · have hoR := mem_of_name nd sR hof h1
      exact Rat.le_trans (share_mono hc sRu wu hoR) (glad_le gR hoR)
    · have h2 : o.name ∈ nmsOf g := by
        have := (List.mem_filter.mp ho).2
        simpa [h1] using this
      have hog := mem_of_name nd sg hof h2
      refine Rat.le_trans (share_mono hc sgu wu hog) ?_
      by_cases h3 : o.name ∈ lot
      · have := hl o hof h3
        unfold gainOf at this
        rw [if_neg h1, nms_chg, if_pos h2, shg] at this
        grind
      · have k := glad_le gS (List.mem_map_of_mem (f := chg c) hog)
        rw [share_chg] at k
        have e : (chg c o).worth = o.worth := same o hof h3
        rw [e] at k
        exact k
  have sgR : g.Sublist R := sgu.trans (all su gu)
  have wR : Wt R := fun o ho => hw o (sR.subset ho)
  intro o hof _
  unfold gainOf
  rw [nms_chg, shg]
  by_cases h2 : o.name ∈ nmsOf g
  · have hog := mem_of_name nd sg hof h2
    have h1 : o.name ∈ nmsOf R := List.mem_map_of_mem (sgR.subset hog)
    rw [if_pos h2, if_pos h1]
    have := share_mono hc sgR wR hog
    grind
  · rw [if_neg h2]
    split
    · rename_i h1
      have := glad_le gR (mem_of_name nd sR hof h1)
      grind
    · exact Rat.le_refl
/-- whoever says the truth has nothing less -/
theorem truth_ok {f : List One} (nd : (f.map (·.name)).Nodup) {o : One} (ho : o ∈ f) : 0 ≤ gainOf t (leftOf t ex0 f) o o.worth := by
  unfold gainOf
  split
  · rename_i h
    have := glad_le (leftOf_glad f) (mem_of_name nd (leftOf_sub f) ho h)
    grind
  · exact Rat.le_refl
end G


set_option Elab.async false
set_option maxRecDepth 100000
set_option maxHeartbeats 1000000
/-! M21: the least word from which on one is left; all measures so many times as great. -/
namespace G
open PySem PySem.Spec PyProof.Rows L2
/-- one says another worth -/
def sayW (x : Str) (w : Int) (o : One) : One := if o.name = x then { o with worth := w } else o
theorem sayW_name (x : Str) (w : Int) (o : One) : (sayW x w o).name = o.name := by unfold sayW; split <;> rfl
theorem sayW_wants (x : Str) (w : Int) (o : One) : (sayW x w o).wants = o.wants := by unfold sayW; split <;> rfl
theorem sayW_weight (x : Str) (w : Int) (o : One) : (sayW x w o).weight = o.weight := by unfold sayW; split <;> rfl
theorem sayW_ne {x : Str} {w : Int} {o : One} (h : o.name ≠ x) : sayW x w o = o := by unfold sayW; rw [if_neg h]
theorem sayW_worth {x : Str} {w : Int} {o : One} (h : o.name = x) : (sayW x w o).worth = w := by unfold sayW; rw [if_pos h]
section
variable {h : One → One}
theorem weight_map (h1 : ∀ o, (h o).wants = o.wants) (h2 : ∀ o, (h o).weight = o.weight) (g : List One) (x : Str) : weightOf (g.map h) x = weightOf g x := by
  unfold weightOf usersOf
  rw [List.filter_map, List.map_map]
  have e1 : ((fun o : One => decide (x ∈ o.wants)) ∘ h) = fun o : One => decide (x ∈ o.wants) := funext fun o => by show decide (x ∈ (h o).wants) = _; rw [h1]
  have e2 : ((fun o : One => o.weight) ∘ h) = fun o : One => o.weight := funext fun o => h2 o
  rw [e1, e2]
theorem share_map (t : List (Str × Int)) (h1 : ∀ o, (h o).wants = o.wants) (h2 : ∀ o, (h o).weight = o.weight) (g : List One) (o : One) : share t (g.map h) (h o) = share t g o := by
  unfold share
  rw [h1]
  refine congrArg List.sum (List.map_congr_left fun p _ => ?_)
  unfold part
  rw [weight_map h1 h2, h2]
end
theorem nms_map {h : One → One} (h0 : ∀ o, (h o).name = o.name) (g : List One) : nmsOf (g.map h) = nmsOf g := by
  unfold nmsOf
  rw [List.map_map]
  exact List.map_congr_left fun o _ => h0 o
theorem share_say (t : List (Str × Int)) (x : Str) (w : Int) (g : List One) (o : One) : share t (g.map (sayW x w)) (sayW x w o) = share t g o := share_map t (sayW_wants x w) (sayW_weight x w) g o
/-- one would pay whatever it is -/
def exN (n : Str) : Str → Option Rat := fun m => if m = n then none else some 0
def wordOf (t : List (Str × Int)) (f : List One) (o : One) : Rat := share t (leftOf t (exN o.name) f) o
variable {t : List (Str × Int)}
theorem gladN_iff {n : Str} {g : List One} : Glad t (exN n) g ↔ ∀ p ∈ g, p.name ≠ n → share t g p ≤ (p.worth : Rat) := by
  constructor
  · intro h p hp hn
    have := h p hp
    unfold pays exN at this
    rw [if_neg hn] at this
    have this : (!decide ((p.worth : Rat) + 0 < share t g p)) = true := this
    rw [Rat.add_zero] at this
    simp only [Bool.not_eq_true', decide_eq_false_iff_not] at this
    exact Rat.not_lt.mp this
  · intro h p hp
    unfold pays exN
    by_cases hn : p.name = n
    · rw [if_pos hn]
    · rw [if_neg hn]
      show (!decide ((p.worth : Rat) + 0 < share t g p)) = true
      rw [Rat.add_zero]
      simp only [Bool.not_eq_true', decide_eq_false_iff_not]
      exact Rat.not_lt.mpr (h p hp hn)
theorem word_in (hc : Co t) {f : List One} (hw : Wt f) {o : One} (ho : o ∈ f) : o ∈ leftOf t (exN o.name) f := by
  have s : [o].Sublist f := List.singleton_sublist.mpr ho
  have g : Glad t (exN o.name) [o] := gladN_iff.mpr fun p hp hn => (hn (by rw [List.mem_singleton.mp hp])).elim
  exact (leftOf_all hc hw s g).subset (List.mem_singleton.mpr rfl)
theorem wt_map {f : List One} {h : One → One} (h2 : ∀ o, (h o).weight = o.weight) (hw : Wt f) : Wt (f.map h) := fun o ho => by
  obtain ⟨p, hp, rfl⟩ := List.mem_map.mp ho
  rw [h2]; exact hw p hp
/-- one is left just from the least word on -/
theorem word_left (hc : Co t) {f : List One} (hw : Wt f) (nd : (f.map (·.name)).Nodup) {o : One} (ho : o ∈ f) (w : Int) : o.name ∈ nmsOf (leftOf t ex0 (f.map (sayW o.name w))) ↔ wordOf t f o ≤ (w : Rat) := by
  have sA := leftOf_sub (t := t) (ex := exN o.name) f
  have gA := leftOf_glad (t := t) (ex := exN o.name) f
  have oA := word_in hc hw ho
  have allA := fun {u : List One} (su : u.Sublist f) (hu : Glad t (exN o.name) u) => leftOf_all (ex := exN o.name) hc hw su hu
  unfold wordOf
  generalize leftOf t (exN o.name) f = A at sA gA oA allA
  have wA : Wt A := fun p hp => hw p (sA.subset hp)
  have only : ∀ p ∈ f, p.name = o.name → p = o := fun p hp e => name_inj nd hp ho e
  constructor
  · intro hin
    have gL := leftOf_glad (t := t) (ex := ex0) (f.map (sayW o.name w))
    obtain ⟨g, sg, eg⟩ := List.sublist_map_iff.mp (leftOf_sub (t := t) (ex := ex0) (f.map (sayW o.name w)))
    rw [eg] at gL hin
    have gg : Glad t (exN o.name) g := gladN_iff.mpr fun p hp hn => by
      have k := glad_le gL (List.mem_map_of_mem (f := sayW o.name w) hp)
      rw [share_say, sayW_ne hn] at k
      exact k
    have og : o ∈ g := mem_of_name nd sg ho (by rwa [nms_map (sayW_name _ _)] at hin)
    have k := glad_le gL (List.mem_map_of_mem (f := sayW o.name w) og)
    rw [share_say, sayW_worth rfl] at k
    exact Rat.le_trans (share_mono hc (allA sg gg) wA og) k
  · intro hle
    have gS : Glad t ex0 (A.map (sayW o.name w)) := le_glad fun q hq => by
      obtain ⟨p, hp, rfl⟩ := List.mem_map.mp hq
      rw [share_say]
      by_cases hn : p.name = o.name
      · rw [sayW_worth hn, only p (sA.subset hp) hn]; exact hle
      · rw [sayW_ne hn]; exact gladN_iff.mp gA p hp hn
    have s := leftOf_all (ex := ex0) hc (wt_map (sayW_weight o.name w) hw) (sA.map _) gS
    have m := s.subset (List.mem_map_of_mem (f := sayW o.name w) oA)
    have := List.mem_map_of_mem (f := fun o : One => o.name) m
    rw [sayW_name] at this
    exact this
theorem say_same {f : List One} (nd : (f.map (·.name)).Nodup) {o : One} (ho : o ∈ f) : f.map (sayW o.name o.worth) = f := by
  have : f.map (sayW o.name o.worth) = f.map id := List.map_congr_left fun p hp => by
    by_cases hn : p.name = o.name
    · have := name_inj nd hp ho hn
      subst this
      unfold sayW
      rw [if_pos rfl]; rfl
    · rw [sayW_ne hn]; rfl
  rw [this, List.map_id]
theorem word_stay (hc : Co t) {f : List One} (hw : Wt f) (nd : (f.map (·.name)).Nodup) {o : One} (ho : o ∈ f) : o.name ∈ nmsOf (leftOf t ex0 f) ↔ wordOf t f o ≤ (o.worth : Rat) := by
  have := word_left hc hw nd ho o.worth
  rwa [say_same nd ho] at this
/-- who is left pays just the least word -/
theorem word_share (hc : Co t) {f : List One} (hw : Wt f) (nd : (f.map (·.name)).Nodup) {o : One} (ho : o ∈ leftOf t ex0 f) : share t (leftOf t ex0 f) o = wordOf t f o := by
  have sL := leftOf_sub (t := t) (ex := ex0) f
  have gL := leftOf_glad (t := t) (ex := ex0) f
  have sA := leftOf_sub (t := t) (ex := exN o.name) f
  have gA := leftOf_glad (t := t) (ex := exN o.name) f
  have a1 : (leftOf t ex0 f).Sublist (leftOf t (exN o.name) f) := leftOf_all hc hw sL (gladN_iff.mpr fun p hp _ => glad_le gL hp)
  have wA : Wt (leftOf t (exN o.name) f) := fun p hp => hw p (sA.subset hp)
  have a2 : (leftOf t (exN o.name) f).Sublist (leftOf t ex0 f) := leftOf_all hc hw sA (le_glad fun p hp => by
    by_cases hn : p.name = o.name
    · have e := name_inj nd (sA.subset hp) (sL.subset ho) hn
      subst e
      exact Rat.le_trans (share_mono hc a1 wA ho) (glad_le gL ho)
    · exact gladN_iff.mp gA p hp hn)
  unfold wordOf
  rw [a1.eq_of_length_le a2.length_le]
/-! ### measures so many times as great -/
theorem lleft_map {t t' : List (Str × Int)} {ex ex' : Str → Option Rat} {h : One → One} (hp : ∀ g o, pays t' ex' (g.map h) (h o) = pays t ex g o) : ∀ (n : Nat) (f : List One), lleft t' ex' n (f.map h) = (lleft t ex n f).map h
  | 0, f => rfl
  | n + 1, f => by
    have e : lstep t' ex' (f.map h) = (lstep t ex f).map h := by
      unfold lstep
      rw [List.filter_map]
      refine congrArg (List.map h) (List.filter_congr fun o _ => ?_)
      exact hp f o
    unfold lleft
    rw [e, List.length_map, List.length_map]
    split
    · rfl
    · exact lleft_map hp n _
theorem leftOf_map {t t' : List (Str × Int)} {ex ex' : Str → Option Rat} {h : One → One} (hp : ∀ g o, pays t' ex' (g.map h) (h o) = pays t ex g o) (f : List One) : leftOf t' ex' (f.map h) = (leftOf t ex f).map h := by
  unfold leftOf
  rw [List.length_map]
  exact lleft_map hp _ f
def sct (by_ : Int) (t : List (Str × Int)) : List (Str × Int) := t.map fun p => (p.1, by_ * p.2)
def scO (by_ : Int) (o : One) : One := { o with worth := by_ * o.worth }
theorem mk_mul (k a : Int) (b : Nat) : mkRat (k * a) b = (k : Rat) * mkRat a b := by
  by_cases hb : b = 0
  · subst hb; simp
  rw [Rat.mkRat_eq_div, Rat.mkRat_eq_div, Rat.intCast_mul, Rat.div_def, Rat.div_def, Rat.mul_assoc]
theorem sum_mulQ {α : Type} (k : Rat) (g : α → Rat) : ∀ l : List α, (l.map fun x => k * g x).sum = k * (l.map g).sum
  | [] => by simp
  | x :: l => by rw [List.map_cons, List.sum_cons, List.map_cons, List.sum_cons, sum_mulQ k g l, Rat.mul_add]
theorem share_sct (k : Int) (t : List (Str × Int)) (g : List One) (o : One) : share (sct k t) g o = (k : Rat) * share t g o := by
  unfold share sct
  rw [List.filter_map, List.map_map, ← sum_mulQ]
  refine congrArg List.sum (List.map_congr_left fun p _ => ?_)
  show part g (p.1, k * p.2) o = (k : Rat) * part g p o
  unfold part
  rw [Int.mul_assoc, mk_mul]
theorem share_sc (k : Int) (t : List (Str × Int)) (g : List One) (o : One) : share (sct k t) (g.map (scO k)) (scO k o) = (k : Rat) * share t g o := by
  rw [share_map (h := scO k) _ (fun _ => rfl) (fun _ => rfl), share_sct]
theorem pays_sc {k : Int} (hk : 0 < k) (ex : Str → Option Rat) (he : ∀ n e, ex n = some e → e = 0) (g : List One) (o : One) : pays (sct k t) ex (g.map (scO k)) (scO k o) = pays t ex g o := by
  unfold pays
  rw [share_sc]
  show (match ex o.name with | none => true | some e => !decide (((k * o.worth : Int) : Rat) + e < (k : Rat) * share t g o)) = _
  cases e : ex o.name with
  | none => rfl
  | some x =>
    have := he _ _ e
    subst this
    show (!decide (((k * o.worth : Int) : Rat) + 0 < (k : Rat) * share t g o)) = !decide ((o.worth : Rat) + 0 < share t g o)
    rw [Rat.add_zero, Rat.add_zero, Rat.intCast_mul]
    refine congrArg _ (decide_eq_decide.mpr ?_)
    have hk' : (0 : Rat) < (k : Rat) := by exact_mod_cast Rat.intCast_lt_intCast.mpr hk
    exact Rat.mul_lt_mul_left hk'
theorem word_sc {k : Int} (hk : 0 < k) (f : List One) (o : One) : wordOf (sct k t) (f.map (scO k)) (scO k o) = (k : Rat) * wordOf t f o := by
  unfold wordOf
  have e : leftOf (sct k t) (exN (scO k o).name) (f.map (scO k)) = (leftOf t (exN o.name) f).map (scO k) := leftOf_map (fun g p => pays_sc hk _ (fun n e he => by
    unfold exN at he
    split at he
    · cases he
    · exact (Option.some.inj he).symm) g p) f
  rw [e, share_sc]
/-! ### rounded up -/
theorem rat_le_int {q : Rat} {w : Int} : q ≤ (w : Rat) ↔ q.num ≤ w * q.den := by
  rw [Rat.le_iff]
  show q.num * ((1 : Nat) : Int) ≤ w * q.den ↔ _
  rw [Int.natCast_one, Int.mul_one]
def upOf (q : Rat) : Int := -((-q.num) / q.den)
theorem up_ge (q : Rat) : q ≤ (upOf q : Rat) := by
  rw [rat_le_int]
  unfold upOf
  have hd : (0 : Int) < q.den := Int.natCast_pos.mpr q.den_pos
  have := Int.ediv_mul_le (-q.num) (b := q.den) (by omega)
  rw [Int.neg_mul]
  omega
theorem up_lt (q : Rat) : ¬ q ≤ ((upOf q - 1 : Int) : Rat) := by
  rw [rat_le_int]
  unfold upOf
  have hd : (0 : Int) < q.den := Int.natCast_pos.mpr q.den_pos
  have := Int.lt_ediv_add_one_mul_self (-q.num) hd
  have e : (-(-q.num / ↑q.den) - 1) * (q.den : Int) = -((-q.num / ↑q.den + 1) * ↑q.den) := by
    rw [← Int.neg_mul]; congr 1; omega
  rw [e]
  omega
theorem up_nonneg {q : Rat} (h : 0 ≤ q) : 0 ≤ upOf q := by
  unfold upOf
  have hd : (0 : Int) < q.den := Int.natCast_pos.mpr q.den_pos
  have hn := Rat.num_nonneg.mpr h
  have := Int.ediv_le_ediv hd (show -q.num ≤ 0 by omega)
  rw [Int.zero_ediv] at this
  omega
theorem den_num {q : Rat} {w : Int} : ((q.den : Int) : Rat) * q ≤ (w : Rat) ↔ q.num ≤ w := by
  have e : ((q.den : Int) : Rat) * q = (q.num : Rat) := by
    have h1 : mkRat q.num q.den = q := Rat.mkRat_self q
    have h0 : ((q.den : Int) : Rat) ≠ 0 := fun z => by
      have := Rat.intCast_eq_zero_iff.mp z
      have := q.den_nz
      omega
    rw [Rat.mkRat_eq_div] at h1
    rw [Rat.mul_comm]
    conv => lhs; lhs; rw [← h1]
    exact Rat.div_mul_cancel h0
  rw [e]
  exact Rat.intCast_le_intCast
end G


set_option Elab.async false
set_option maxRecDepth 100000
set_option maxHeartbeats 1000000
/-! MQ21: what the guards promise where numbers may be out of their bounds. -/
namespace G
open PySem PySem.Spec PyProof.Rows L2
open PySem.W (Datum)
/-- things but for their costs -/
structure WT (t : List (Str × Int)) : Prop where
  le : 1 ≤ t.length ∧ t.length ≤ 8
  nm : ∀ p ∈ t, Name p.1
  up : Rising (t.map (·.1))
def coB (t : List (Str × Int)) : Bool := t.all fun p => decide (0 ≤ p.2 ∧ p.2 ≤ 1000)
structure WO (t : List (Str × Int)) (o : One) : Prop where
  nm : Name o.name
  ws : ∀ x ∈ o.wants, x ∈ t.map (·.1)
  up : Rising o.wants
  ne : o.wants ≠ []
def onB (o : One) : Bool := decide (0 ≤ o.worth ∧ o.worth ≤ 1000) && decide (1 ≤ o.weight ∧ o.weight ≤ 9)
structure WF (t : List (Str × Int)) (f : List One) : Prop where
  le : f.length ≤ 8
  on : ∀ o ∈ f, WO t o
  up : Rising (f.map (·.name))
theorem VT.w {t : List (Str × Int)} (h : VT t) : WT t := ⟨h.le, h.nm, h.up⟩
theorem VO.w {t : List (Str × Int)} {o : One} (h : VO t o) : WO t o := ⟨h.nm, h.ws, h.up, h.ne⟩
theorem VF.w {t : List (Str × Int)} {f : List One} (h : VF t f) : WF t f := ⟨h.le, fun o ho => (h.on o ho).w, h.up⟩
theorem VT.b {t : List (Str × Int)} (h : VT t) : coB t = true := List.all_eq_true.mpr fun p hp => decide_eq_true (h.co p hp)
theorem VO.b {t : List (Str × Int)} {o : One} (h : VO t o) : onB o = true := by unfold onB; rw [decide_eq_true h.wo, decide_eq_true h.we]; rfl
theorem VF.b {t : List (Str × Int)} {f : List One} (h : VF t f) : f.all onB = true := List.all_eq_true.mpr fun o ho => (h.on o ho).b
theorem WT.v {t : List (Str × Int)} (h : WT t) (b : coB t = true) : VT t := ⟨h.le, h.nm, fun p hp => of_decide_eq_true (List.all_eq_true.mp b p hp), h.up⟩
theorem WO.v {t : List (Str × Int)} {o : One} (h : WO t o) (b : onB o = true) : VO t o := by
  unfold onB at b
  obtain ⟨b1, b2⟩ := (Bool.and_eq_true _ _).mp b
  exact ⟨h.nm, h.ws, h.up, h.ne, of_decide_eq_true b1, of_decide_eq_true b2⟩
theorem WF.v {t : List (Str × Int)} {f : List One} (h : WF t f) (b : f.all onB = true) : VF t f := ⟨h.le, fun o ho => (h.on o ho).v (List.all_eq_true.mp b o ho), h.up⟩
def q_is_whole : PSp := fun ss R _ => ∃ i lo hi : Int, ss = [.dat (.int i), .dat (.int lo), .dat (.int hi)] ∧ R (.bool (decide (lo ≤ i ∧ i ≤ hi))) ss
def q_is_number : PSp := fun ss R _ => ∃ i : Int, ss = [.dat (.int i)] ∧ R (.bool (decide (0 ≤ i ∧ i ≤ 1000))) ss
def q_are_things : PSp := fun ss R _ => ∃ t, WT t ∧ ss = [.dat (tsD t)] ∧ R (.bool (coB t)) ss
def q_is_one : PSp := fun ss R _ => ∃ t o, WT t ∧ WO t o ∧ ss = [.dat (tsD t), .dat (oD o)] ∧ R (.bool (onB o)) ss
def q_are_folk_of : PSp := fun ss R _ => ∃ t f, WT t ∧ WF t f ∧ ss = [.dat (tsD t), .dat (fsD f)] ∧ R (.bool (f.all onB)) ss
def q_are_folk : PSp := fun ss R _ => ∃ t f, VT t ∧ WF t f ∧ ss = [.dat (tsD t), .dat (fsD f)] ∧ R (.bool (f.all onB)) ss
theorem w_are_things (ss : List Sl) (R) (RE) (h : p_are_things ss R RE) : q_are_things ss R RE := by
  obtain ⟨t, ht, rfl, h⟩ := h
  exact ⟨t, ht.w, rfl, by rw [ht.b]; exact h⟩
theorem w_are_folk_of (ss : List Sl) (R) (RE) (h : p_are_folk_of ss R RE) : q_are_folk_of ss R RE := by
  obtain ⟨t, f, ht, hf, rfl, h⟩ := h
  exact ⟨t, f, ht.w, hf.w, rfl, by rw [hf.b]; exact h⟩
theorem all_say {α : Type} (l : List α) (c : α → Bool) {R : PyData → Prop} (h : R (.bool (l.all c))) : allD (.list (l.map fun x => .bool (c x))) R := by
  refine ⟨l.map c, by rw [List.map_map]; rfl, ?_⟩
  have e : ((l.map c).all fun b => b) = l.all c := by rw [List.all_map]; rfl
  rw [e]
  exact h
theorem has_imp {P : Program} {w : World} {K : PySem.W.Frag} {mg : Str → Option Value} {base : Heap} {k n : Nat} {x : Str} {ps : List Str} {t t' : PSp} (h : Has P w K mg base k x ps (spD K mg n t)) (i : ∀ ss R RE, t' ss R RE → t ss R RE) : Has P w K mg base k x ps (spD K mg n t') := by
  obtain ⟨f, fd, F, r⟩ := h
  exact ⟨f, fd, fn_imp F i, r⟩
theorem pick_left {t : List (Str × Int)} {f L : List One} (hf : VF t f) (s : L.Sublist f) : pickOf f (nmsOf L) = L := by
  have e : L.filter (fun o => decide (o.name ∈ nmsOf L)) = L := List.filter_eq_self.mpr fun o ho => decide_eq_true (show o.name ∈ nmsOf L from List.mem_map_of_mem ho)
  have s1 : L.Sublist (pickOf f (nmsOf L)) := by
    have := s.filter (fun o => decide (o.name ∈ nmsOf L))
    rwa [e] at this
  refine (s1.eq_of_length_le ?_).symm
  have nd : (nmsOf (pickOf f (nmsOf L))).Nodup := hf.nodup.sublist (List.filter_sublist.map _)
  have := nodup_len (m := nmsOf L) nd fun x hx => by
    obtain ⟨o, ho, rfl⟩ := List.mem_map.mp hx
    simpa using (List.mem_filter.mp ho).2
  unfold nmsOf at this
  rwa [List.length_map, List.length_map] at this
def roadT : List (Str × Int) := [("road", 9)]
def threeF (w : Int) : List One := [⟨"a", ["road"], 5, 1⟩, ⟨"b", ["road"], 4, 1⟩, ⟨"c", ["road"], w, 1⟩]
theorem road_ok : VT roadT := ⟨by decide +kernel, by decide +kernel, by decide +kernel, Rising.of (by decide +kernel)⟩
theorem three_ok {w : Int} (h0 : 0 ≤ w) (h1 : w ≤ 1000) : VF roadT (threeF w) := by
  have n1 : Name "a" := by decide +kernel
  have n2 : Name "b" := by decide +kernel
  have n3 : Name "c" := by decide +kernel
  have u : (["a", "b", "c"] : List Str).Pairwise Lt := by decide +kernel
  have m : ∀ x ∈ (["road"] : List Str), x ∈ roadT.map (·.1) := by decide +kernel
  refine ⟨by show 3 ≤ 8; decide, fun o ho => ?_, Rising.of u⟩
  simp only [threeF, List.mem_cons, List.not_mem_nil, or_false] at ho
  rcases ho with rfl | rfl | rfl
  · exact ⟨n1, m, trivial, (fun z => nomatch z), ⟨by decide, by decide⟩, ⟨by decide, by decide⟩⟩
  · exact ⟨n2, m, trivial, (fun z => nomatch z), ⟨by decide, by decide⟩, ⟨by decide, by decide⟩⟩
  · exact ⟨n3, m, trivial, (fun z => nomatch z), ⟨h0, h1⟩, ⟨(by show (1 : Int) ≤ 1; decide), (by show (1 : Int) ≤ 9; decide)⟩⟩
theorem eqvAll_len : ∀ {a b : List PyData}, a.length ≠ b.length → PyData.eqvAll a b = false
  | [], [], h => (h rfl).elim
  | [], _ :: _, _ => by simp [PyData.eqvAll]
  | _ :: _, [], _ => by simp [PyData.eqvAll]
  | x :: a, y :: b, h => by
    rw [PyData.eqvAll, eqvAll_len (a := a) (b := b) (fun e => h (by rw [List.length_cons, List.length_cons, e])), Bool.and_false]
theorem eq_longer {a b : List PyData} {R : Bool → Prop} (ga : ∀ x ∈ a, Gd 59 x) (gb : ∀ x ∈ b, Gd 59 x) (h : a.length ≠ b.length) (q : R false) : eqD (.list a) (.list b) R := by
  rw [eqD_is]
  refine ⟨gd_list ga, gd_list gb, ?_⟩
  have e : PyData.eqv (.list a) (.list b) = false := by rw [PyData.eqv]; exact eqvAll_len h
  rw [e]; exact q
theorem gd_pair (p : Str × Rat) : Gd 59 (pD fr p) := ⟨Datum.plain (α := Str × Rat) p, Nat.le_trans (Datum.depth_le (α := Str × Rat) p) (by decide)⟩
theorem for_by {ti : MI} {g : MG} {tb : MS} {D : PEnd} {ρ ρ1 : Ms} (ds : List PyData) (h : ∀ R : List PyData → Ms → Prop, R ds ρ1 → ti ρ R) (q : mForL g tb D ds ρ1) : mFor ti g tb D ρ := h _ q
/-! ### texts of k21, k42 -/
def leastsOf (t : List (Str × Int)) (f : List One) : List (Str × Rat) := f.map fun o => (o.name, wordOf t f o)
def p_least_words : PSp := fun ss R _ => ∃ t f, VT t ∧ VF t f ∧ ss = [.dat (tsD t), .dat (fsD f)] ∧ R (.list ((leastsOf t f).map (pD fr))) ss
def p__law_is_frac : PSp := fun ss R _ => ∃ (q : Rat) (n : Nat), Bd n q ∧ n ≤ 3999 ∧ ss = [.dat (fr q)] ∧ R (.bool true) ss
def p__law_scaled : PSp := fun ss R _ => ∃ t f k, VT t ∧ VF t f ∧ Sm k ∧ ss = [.dat (tsD t), .dat (fsD f), .dat (.int k)] ∧ R (.tuple [tsD (sct k t), fsD (f.map (scO k))]) ss
def p__law_word_so : PSp := fun ss R _ => ∃ t f o, VT t ∧ VF t f ∧ o ∈ f ∧ ss = [.dat (tsD t), .dat (fsD f), .dat (.str o.name), .dat (fr (wordOf t f o))] ∧ R (.bool true) ss
theorem exOf_one (n : Str) : exOf [(n, none)] = exN n := funext fun m => by
  show (lget [(n, none)] m).getD (some 0) = _
  unfold exN
  by_cases h : m = n
  · subst h
    rw [if_pos rfl]
    show ((if m = m then some none else none : Option (Option Rat))).getD (some 0) = none
    rw [if_pos rfl]; rfl
  · rw [if_neg h]
    show ((if n = m then some none else none : Option (Option Rat))).getD (some 0) = some 0
    rw [if_neg fun e => h e.symm]; rfl
theorem moOk_one (n : Str) : MoOk [(n, none)] := fun m e h => by
  rw [exOf_one] at h
  unfold exN at h
  split at h
  · cases h
  · cases h
    exact ⟨by show (0 : Nat) < 2 ^ 1500; exact Nat.pow_pos (by decide), by show (1 : Nat) < 2 ^ 1500; exact Nat.one_lt_two_pow (by decide)⟩
theorem word_bd {t : List (Str × Int)} {f : List One} (ht : VT t) (hf : VF t f) {o : One} (ho : o ∈ f) : Bd 200 (wordOf t f o) :=
  share_b200 ht (hf.sub (leftOf_sub _)) (word_in ht.coo hf.wt ho)
theorem word_pos {t : List (Str × Int)} {f : List One} (ht : VT t) (hf : VF t f) {o : One} (ho : o ∈ f) : 0 ≤ wordOf t f o := share_nonneg ht.coo (hf.wt o ho)
def p__law_said : PSp := fun ss R _ => ∃ f x w, ss = [.dat (fsD f), .dat (.str x), .dat (.int w)] ∧ R (fsD (f.map (sayW x w))) ss
end G


set_option Elab.async false
set_option maxRecDepth 100000
set_option maxHeartbeats 4000000
/-! VH7: _law_kinds, _law_refusal where an exception is handled. -/
namespace K51
open PySem PySem.Spec PyProof.Rows HotX L2 L2H GH G
theorem huH {k : Nat} {A : Around} (r : RoomH k A) : A.units + 64 < cLine := by have := r.un; omega
theorem ok_kinds {P : Program} {w : World} {K : PySem.W.Frag} {mg : Str → Option Value} {base : Heap} (z1 : mg "isinstance" = none) (z2 : mg "zip" = none) {f : Addr} {fd : FuncData} (F : Fun K "_law_kinds" "_law_kinds" s__law_kinds f fd) :
    FnE P w K mg base (L2N.CX P w) (0 + 1) f fd ["e"] (spKinds K mg) := by
  have sc := sc__law_kinds
  obtain ⟨oc, od, kV, doc, pm, an, cdv, ct, osl, rfl, lk, hcd⟩ := F.ex
  refine fnE_of lk hcd sc (fun p vs H Q E h => ?_) fun p A outer s H vs Q E hot hr h => ?_
  · obtain ⟨D, bs, rfl, _⟩ := h
    rfl
  obtain ⟨D, bs, rfl, hz, hf, ⟨C, hl, kn⟩, q⟩ := h
  obtain ⟨b0, b1, b2, b3, b4, b5, b6, b7, b8, b9, b10, b11, b12, b13, rfl⟩ : ∃ b0 b1 b2 b3 b4 b5 b6 b7 b8 b9 b10 b11 b12 b13, bs = [b0, b1, b2, b3, b4, b5, b6, b7, b8, b9, b10, b11, b12, b13] := by
    match bs, hl with
    | [b0, b1, b2, b3, b4, b5, b6, b7, b8, b9, b10, b11, b12, b13], _ => exact ⟨_, _, _, _, _, _, _, _, _, _, _, _, _, _, rfl⟩
  have hp : (p.1, p.2) ∈ [p] := List.mem_cons_self
  have kk : ∀ (i : Nat) x b, kNames[i]? = some x → _ → Kn K mg D x b := kn
  refine ⟨_, pss_cons (ps_set (i := 1) sc.nd rfl (.inl rfl) (pe_lst (pa_of (pe_isH (X := _) hp C hz hf (kk 0 "NoThings" _ rfl rfl) (pv 0) (by rfl) z1 (by rfl) (by decide) (by decide)) (pa_of (pe_isH (X := _) hp C hz hf (kk 1 "NoFolk" _ rfl rfl) (pv 0) (by rfl) z1 (by rfl) (by decide) (by decide)) (pa_of (pe_isH (X := _) hp C hz hf (kk 2 "NoLot" _ rfl rfl) (pv 0) (by rfl) z1 (by rfl) (by decide) (by decide)) (pa_of (pe_isH (X := _) hp C hz hf (kk 3 "NoOrder" _ rfl rfl) (pv 0) (by rfl) z1 (by rfl) (by decide) (by decide)) (pa_of0)))))))
    (pss_cons (ps_set (i := 1) sc.nd rfl (.inl rfl) (pe_op op_cat (pv 1) (pe_lst (pa_of (pe_isH (X := _) hp C hz hf (kk 4 "NoOne" _ rfl rfl) (pv 0) (by rfl) z1 (by rfl) (by decide) (by decide)) (pa_of (pe_isH (X := _) hp C hz hf (kk 5 "NoWorth" _ rfl rfl) (pv 0) (by rfl) z1 (by rfl) (by decide) (by decide)) (pa_of (pe_isH (X := _) hp C hz hf (kk 6 "NoThing" _ rfl rfl) (pv 0) (by rfl) z1 (by rfl) (by decide) (by decide)) (pa_of (pe_isH (X := _) hp C hz hf (kk 7 "NoCost" _ rfl rfl) (pv 0) (by rfl) z1 (by rfl) (by decide) (by decide)) (pa_of0))))))))
    (pss_cons (ps_set (i := 1) sc.nd rfl (.inl rfl) (pe_op op_cat (pv 1) (pe_lst (pa_of (pe_isH (X := _) hp C hz hf (kk 8 "Taken" _ rfl rfl) (pv 0) (by rfl) z1 (by rfl) (by decide) (by decide)) (pa_of (pe_isH (X := _) hp C hz hf (kk 9 "Full" _ rfl rfl) (pv 0) (by rfl) z1 (by rfl) (by decide) (by decide)) (pa_of (pe_isH (X := _) hp C hz hf (kk 10 "NotThere" _ rfl rfl) (pv 0) (by rfl) z1 (by rfl) (by decide) (by decide)) (pa_of (pe_isH (X := _) hp C hz hf (kk 11 "NothingLeft" _ rfl rfl) (pv 0) (by rfl) z1 (by rfl) (by decide) (by decide)) (pa_of0))))))))
    (pss_cons (ps_set (i := 1) sc.nd rfl (.inl rfl) (pe_op op_cat (pv 1) (pe_lst (pa_of (pe_isH (X := _) hp C hz hf (kk 12 "PayError" _ rfl rfl) (pv 0) (by rfl) z1 (by rfl) (by decide) (by decide)) (pa_of (pe_isH (X := _) hp C hz hf (kk 13 "ValueError" _ rfl rfl) (pv 0) (by rfl) z1 (by rfl) (by decide) (by decide)) (pa_of0))))))
    (pss_cons (ps_set (i := 2) sc.nd rfl (.inl rfl) pe_str)
    (pss_one (ps_ret (pe_pickH (by decide) (by decide) (by decide) (by decide +kernel) (by decide +kernel) ⟨p, hot, List.mem_cons_self⟩ (by rfl) z2 (pa_cons (pe_split (pv 2) pe_str) (pa_cons (pv 1) pa_nil)) (by rfl) (by rfl)))))))), ?_⟩
  refine ⟨rfl, (by show 4 ≤ sizeLine; decide), fun l0 h0 => ?_⟩
  refine ⟨_, rfl, rfl, (by show 4 ≤ sizeLine; decide), fun l1 h1 => ⟨l0, l1, _, _, rfl, rfl, same_upd h1 _ _ upd_same, upd_same, (by show 8 ≤ sizeLine; decide), fun l2 h2 => ?_⟩⟩
  refine ⟨_, rfl, rfl, (by show 4 ≤ sizeLine; decide), fun l3 h3 => ⟨l2, l3, _, _, rfl, rfl, same_upd h3 _ _ upd_same, upd_same, (by show 12 ≤ sizeLine; decide), fun l4 h4 => ?_⟩⟩
  refine ⟨_, rfl, rfl, (by show 2 ≤ sizeLine; decide), fun l5 h5 => ⟨l4, l5, _, _, rfl, rfl, same_upd h5 _ _ upd_same, upd_same, (by show 14 ≤ sizeLine; decide), fun l6 h6 => ?_⟩⟩
  refine ⟨_, rfl, ⟨_, rfl⟩, _, _, rfl, rfl, (by decide), (by decide +kernel), fun w hw => ?_⟩
  refine ⟨_, rfl, w, l6, kWords, [b0, b1, b2, b3, b4, b5, b6, b7, b8, b9, b10, b11, b12, b13], rfl, ?_, same_upd hw _ _ upd_same, rfl, (by decide), fun r hr => ?_⟩
  · rw [upd_same, kWords_is]
  · refine q _ r (fun b o e => same_upd hr _ _ (same_upd hw _ _ (same_upd h6 _ _ (same_upd h5 _ _ (same_upd h4 _ _ (same_upd h3 _ _ (same_upd h2 _ _ (same_upd h1 _ _ (same_upd h0 b o e))))))))) ?_ upd_same
    cases e : H r with
    | none => rfl
    | some o => cases (same_upd hw _ _ (same_upd h6 _ _ (same_upd h5 _ _ (same_upd h4 _ _ (same_upd h3 _ _ (same_upd h2 _ _ (same_upd h1 _ _ (same_upd h0 r o e)))))))).symm.trans hr
/-- what _law_refusal promises where p is handled -/
def spRef (K : PySem.W.Frag) (mg : Str → Option Value) : Addr × Obj → Sp := fun p vs H Q _ => ∃ (D : Addr) (bs : List Bool) (w : Str), vs = [.ref p.1] ∧ Zc (.ref D) none p.2 ∧ (∃ fs, p.2.data = .fields fs) ∧ Kns K mg D bs ∧ pick kWords bs = [w, "own", "value"] ∧
  ∀ H', (∀ b o, H b = some o → H' b = some o) → Q (.str w) H'
theorem ok_refusal {P : Program} {w : World} {K : PySem.W.Frag} {mg : Str → Option Value} {base : Heap} {fk : Addr} {fdk : FuncData} (Gk : FnE P w K mg base (L2N.CX P w) (0 + 1) fk fdk ["e"] (spKinds K mg)) (hmk : mg "_law_kinds" = some (.ref fk)) (hkk : PySem.W.keepIn K (.ref fk) = true)
    (hbk : Binds K fdk ["e"] []) {f : Addr} {fd : FuncData} (F : Fun K "_law_refusal" "_law_refusal" s__law_refusal f fd) : FnE P w K mg base (L2N.CX P w) (1 + 1) f fd ["e"] (spRef K mg) := by
  have sc := sc__law_refusal
  obtain ⟨oc, od, kV, doc, pm, an, cdv, ct, osl, rfl, lk, hcd⟩ := F.ex
  refine fnE_of lk hcd sc (fun p vs H Q E h => ?_) fun p A outer s H vs Q E hot hr h => ?_
  · obtain ⟨D, bs, w, rfl, _⟩ := h
    rfl
  obtain ⟨D, bs, w, rfl, hz, hf, kns, hw, q⟩ := h
  refine ⟨_, pss_cons (ps_set (i := 1) sc.nd rfl (.inl rfl) (pe_callE (E := fun _ => EN) Gk hr hot List.mem_cons_self (by rfl) hmk hkk hbk (fun σ pins H s e s' I c => passN pins σ H s e s' I c) (pa_cons (pv 0) pa_nil)))
    (pss_one (gs_ret (W := Wish.no) (g_if (gt_cmp (cg_eq (huH hr)) (g_sl (g_var (pv 1)) (go_some g_int) go_none) (g_C (g_E (gn_lst (ga_cons g_str (ga_cons g_str ga_nil))))) rfl)
      (g_ix (huH hr) (g_var (pv 1)) g_int (fun _ _ => rfl)) g_str))), ?_⟩
  refine ⟨_, rfl, D, bs, rfl, hz, hf, kns, fun H' l keep hl0 hl => ?_⟩
  rw [hw] at hl
  have hl : H' l = some (.lst ([w, "own", "value"].map V.str)) := hl
  refine ⟨fun b => if b = l then none else H' b, upd (fun _ => none) l (.lst ([w, "own", "value"].map V.str)), [.raw (.ref p.1), .dat (.list [.str w, .str "own", .str "value"])], { nx := fun _ => False, rt := fun d _ => d = .str w }, ?_, WOk.no, ?_, ?_⟩
  · refine ⟨fun b o e => ?_, fun b o e => ?_, fun b e => ?_, rfl, fun i s' e => ?_, fun i j s' t a e1 e2 m1 m2 => ?_⟩
    · by_cases hb : b = l
      · subst hb; rw [upd_same] at e; cases e; exact .inl hl
      · rw [upd_ne hb] at e; cases e
    · by_cases hb : b = l
      · rw [if_pos hb] at e; cases e
      · rwa [if_neg hb] at e
    · by_cases hb : b = l
      · rw [if_pos hb] at e; exact (e rfl).elim
      · rw [upd_ne hb]
    · match i, e with
      | 0, e => cases e; rfl
      | 1, e =>
        cases e
        exact ⟨.ref l, rfl, .lst (by rw [upd_same]; rfl) (.cons (.str _) (.cons (.str _) (.cons (.str _) .nil))) (by show 3 ≤ sizeLine; decide)⟩
      | i + 2, e => cases e
    · match i, e1 with
      | 0, e1 => cases e1; exact (noMut_raw m1).elim
      | 1, e1 => cases e1; exact (noMut_dat m1).elim
      | i + 2, e1 => cases e1
  · refine eq_dat (α := List Str) (a := ["own", "value"]) (b := ["own", "value"]) ?_
    rfl
  · refine ⟨fun _ _ _ _ a => a.elim, fun d ρ' v σ' F' H2 a sf S' r => ?_, fun _ _ _ _ _ _ a => a.elim, fun _ _ _ _ a => a.elim, fun _ _ _ _ a => a.elim⟩
    subst a
    cases r
    refine q H2 fun b o e => ?_
    have hb : b ≠ l := fun z => by rw [z, hl0] at e; cases e
    exact S'.zh b o (by rw [if_neg hb]; exact keep b o e)
end K51


set_option Elab.async false
set_option maxRecDepth 100000
set_option maxHeartbeats 4000000
/-! VH8: __init__, __eq__. -/
namespace K51
open PySem PySem.Spec PyProof.Rows L2 G
section
variable {P : Program} {w : World} {K : PySem.W.Frag} {mg : Str → Option Value} {base : Heap}
theorem ok_init (z : Zs K mg) {C : Addr} (B : BookK K C) {p_need_things : PSp} (G_need_things : Has P w K mg base 4 "need_things" ["things"] (spD K mg 1 p_need_things)) {f : Addr} {fd : FuncData} (F : Fun K "__init__" "Book.__init__" s_Book___init__ f fd) :
    FnOk P w K mg base CX0 (4 + 1) f fd ["self", "things"] (spInit K C p_need_things) := by
  have sc := sc_Book___init__
  refine F.ok sc (fun vs H Q E h => ?_) fun cdv A outer s H vs Q E hr h => ⟨_, pss_cons (gs_expr (W := Wish.no) (g_callH G_need_things hr (by rfl) ps0 (ga_cons (g_var (pv 1)) ga_nil)))
    (pss_one (ps_fld (pv 0) (gn_lst (W := Wish.no) (ga_cons (g_tup (ga_cons (g_var (pv 1)) (ga_cons (g_tup ga_nil) ga_nil))) ga_nil)) (by rfl))), ?_⟩
  · obtain ⟨Z, F1, x, v, d, dx, rfl, _⟩ := h
    rfl
  obtain ⟨Z, F1, x, v, d, dx, rfl, S, zx, rv, ht, q⟩ := h
  refine ⟨Z, F1, [.raw (.ref x), .dat d], { nx := fun ρ' => ρ' = [.raw (.ref x), .dat d], rt := fun _ _ => False }, ?_, WOk.no, ?_, ⟨fun ρ' σ' F' H' a sf S' => ?_, fun _ _ _ _ _ _ a => a.elim, fun _ _ _ _ _ _ a => a.elim, fun _ _ _ _ a => a.elim, fun _ _ _ _ a => a.elim⟩⟩
  · refine ⟨S.fh, S.zh, S.zf, rfl, fun i s' e => ?_, fun i j s' t a e1 e2 m1 m2 => ?_⟩
    · match i, e with
      | 0, e => cases e; rfl
      | 1, e => cases e; exact ⟨v, rfl, rv⟩
      | i + 2, e => cases e
    · match i, e1 with
      | 0, e1 => cases e1; exact (noMut_raw m1).elim
      | 1, e1 => cases e1; exact (noMut_dat m1).elim
      | i + 2, e1 => cases e1
  · have e : (fun (_ : PyData) (_ : List Sl) => ([.raw (.ref x), .dat d] : Ms) = [.raw (.ref x), .dat d]) = fun _ _ => True := by
      funext _ _
      exact eq_true rfl
    show p_need_things [.dat d] (fun _ _ => ([.raw (.ref x), .dat d] : Ms) = [.raw (.ref x), .dat d]) (fun _ => False)
    rw [e]
    exact ht
  · subst a
    refine ⟨Z, F', [.raw (.ref x), .dat d], fun c ρ'' => c = row0 d ∧ ρ'' = [.raw (.ref x), .dat d], S', WOk.no, ⟨rfl, rfl⟩, fun c ρ'' l F2 H2 hc sf2 S2 fl zl cl aw => ?_⟩
    obtain ⟨rfl, rfl⟩ := hc
    have hx : at_ σ' 0 = some (.ref x) := S2.sl 0 _ rfl
    refine ⟨_, at_some hx, x, C, dx, [], rfl, S2.zh x _ zx, B.cls, B.no, by decide, ?_⟩
    exact q l F2 H2 (sf.trans sf2) (S2.weak rfl fun i s' e => by cases e) fl zl cl
/-- the rich comparison that the layer has -/
theorem op_eqL {X : Cx} (hu : X.A.units + 64 < cLine) : OpR X (compareOp .Eq) (fun x y H Q => ∃ d e R, Rep X.K H x d ∧ Rep X.K H y e ∧ eqD d e R ∧ ∀ b, R b → Q (.bl b) H) := by
  intro pins s σ H x y v u Q I rx ry h
  obtain ⟨d, e, R, r1, r2, hd, q⟩ := h
  exact thn (cg_eq hu pins s σ H x y v u d e R I r1 r2 rx ry hd) fun c s' ⟨b, hb, ec, I'⟩ => ⟨.bl b, H, I', ec, q b hb⟩
theorem ok_eq (z : Zs K mg) {C : Addr} (B : BookK K C) (hB : mg "Book" = some (.ref C)) {f : Addr} {fd : FuncData} (F : Fun K "__eq__" "Book.__eq__" s_Book___eq__ f fd) :
    FnOk P w K mg base CX0 (0 + 1) f fd ["self", "other"] (spEqB K C) := by
  have sc := sc_Book___eq__
  refine F.ok sc (fun vs H Q E h => ?_) fun cdv A outer s H vs Q E hr h => ⟨_, pss_cons (ps_if (pt_not (pt_val (pe_callB call_isi (by rfl) z.z_isinstance (by decide +kernel) (pa_cons (pv 1) (pa_cons (pe_glob (v := .ref C) (by rfl) hB rfl) pa_nil)))))
    (pss_one (ps_ret pe_bl)) pss_nil)
    (pss_one (ps_ret (pe_cmpR (op_eqL (hu64 hr)) (pe_ix (ix_all (hu64 hr)) (pe_fld (pv 0) (by rfl)) (pe_un un_neg pe_int) (fun _ _ => rfl)) (pe_ix (ix_all (hu64 hr)) (pe_fld (pv 1) (by rfl)) (pe_un un_neg pe_int) (fun _ _ => rfl)) (by rfl)))), ?_⟩
  · obtain ⟨a, dx, b, xs, v, _, _, _, ⟨_, _, _, _, _, _, _, _, rfl, _⟩ | ⟨_, _, rfl, _⟩⟩ := h <;> rfl
  obtain ⟨a, dx, b, xs, v, hH, hb, hl, ⟨a', dx', b', xs', v', d, e, R, rfl, hH', hb', hl', r1, r2, he, q⟩ | ⟨y, t, rfl, ty, kt, q⟩⟩ := h
  · refine ⟨_, rfl, .ref a', .ref C, .ref C, .ref C, true, rfl, .own _, .base (.ins hH' B.cls B.ha B.hn B.ht B.hm), B.kB, ?_⟩
    refine ⟨true, rfl, ?_⟩
    refine ⟨_, rfl, a, C, dx, _, .ref b, rfl, hH, B.cls, B.no, rowsLook, 1, rfl, .inl (.inl ⟨b, xs, -1, v, rfl, rfl, SqL.of hb, atI_last hl, ?_⟩)⟩
    exact ⟨_, rfl, a', C, dx', _, .ref b', rfl, hH', B.cls, B.no, rowsLook, 1, rfl, .inl (.inl ⟨b', xs', -1, v', rfl, rfl, SqL.of hb', atI_last hl', d, e, R, r1, r2, he, q⟩)⟩
  · refine ⟨_, rfl, y, .ref C, t, .ref C, false, rfl, .own _, ty, kt, ?_⟩
    exact ⟨false, rfl, q⟩
end
end K51


set_option Elab.async false
set_option maxRecDepth 100000
set_option maxHeartbeats 4000000
/-! VH9: _law_done. -/
namespace K51
open PySem PySem.Spec PyProof.Rows L2 G GH
def RW8 (nm word : Str) : Prop := (nm, word) ∈ ([("NoOne", "one"), ("NoWorth", "worth"), ("NoThing", "thing"), ("NoCost", "cost"), ("Taken", "taken"), ("Full", "full"), ("NotThere", "gone"), ("NothingLeft", "back")] : List (Str × Str))
def RC8 (K : PySem.W.Frag) (mg : Str → Option Value) (cls : Value) (d : Option Addr) (word : Str) : Prop := d = none ∧ ∃ (Ca : Addr) (bs : List Bool), cls = .ref Ca ∧ Kns K mg Ca bs ∧ pick kWords bs = [word, "own", "value"]
def m__law_done (p_Book_come p_Book_go p_Book_say p_Book_price p_Book_back : PSp) : MS :=
  mSeq (mSet 2 (mIx (mVar 1) (mC (.int 0))))
  (mTry RW8 (xSeq (xIf (mCmpB eqD (mVar 2) (mC (.str "come"))) (xRet (eMeth p_Book_come 0 (mCons (mIx (mVar 1) (mC (.int 1))) mNil))) xNx)
    (xSeq (xIf (mCmpB eqD (mVar 2) (mC (.str "go"))) (xRet (eMeth p_Book_go 0 (mCons (mIx (mVar 1) (mC (.int 1))) mNil))) xNx)
    (xSeq (xIf (mCmpB eqD (mVar 2) (mC (.str "say"))) (xRet (eMeth p_Book_say 0 (mCons (mIx (mVar 1) (mC (.int 1))) (mCons (mIx (mVar 1) (mC (.int 2))) mNil)))) xNx)
    (xRet (eIf (mCmpB eqD (mVar 2) (mC (.str "price"))) (eMeth p_Book_price 0 (mCons (mIx (mVar 1) (mC (.int 1))) (mCons (mIx (mVar 1) (mC (.int 2))) mNil))) (eMeth p_Book_back 0 mNil)))))))
def b__law_done (p_Book_come p_Book_go p_Book_say p_Book_price p_Book_back : PSp) : PSp := bodyD 2 N__law_done (m__law_done p_Book_come p_Book_go p_Book_say p_Book_price p_Book_back)
theorem roomH_of' {A : Around} (r : Room 4 A) : A.depth + 3 * 2 + 5 < recursionLimit ∧ A.units + 16 * 2 + 200 < cLine := ⟨by have := r.dp; omega, by have := r.un; omega⟩
theorem ok__law_done {P : Program} {w : World} {K : PySem.W.Frag} {mg : Str → Option Value} {base : Heap} {p_Book_come p_Book_go p_Book_say p_Book_price p_Book_back : PSp} {C : Addr} (B : BookK K C)
    (G_come : HasM P w K mg base (L2N.CX P w) 4 C "come" ["self", "one"] (spX K mg 2 p_Book_come)) (G_go : HasM P w K mg base (L2N.CX P w) 3 C "go" ["self", "name"] (spX K mg 2 p_Book_go))
    (G_say : HasM P w K mg base (L2N.CX P w) 3 C "say" ["self", "name", "worth"] (spX K mg 3 p_Book_say)) (G_price : HasM P w K mg base (L2N.CX P w) 3 C "price" ["self", "thing", "cost"] (spX K mg 3 p_Book_price)) (G_back : HasM P w K mg base (L2N.CX P w) 1 C "back" ["self"] (spX K mg 1 p_Book_back))
    {fr : Addr} {fdr : FuncData} (Gr : FnE P w K mg base (L2N.CX P w) (1 + 1) fr fdr ["e"] (spRef K mg)) (hmr : mg "_law_refusal" = some (.ref fr)) (hkr : PySem.W.keepIn K (.ref fr) = true) (hbr : Binds K fdr ["e"] []) {Cp : Addr} (hPay : mg "PayError" = some (.ref Cp))
    (link : ∀ nm Ca word, RW8 nm word → mg nm = some (.ref Ca) → (∃ bs, Kns K mg Ca bs ∧ pick kWords bs = [word, "own", "value"]) ∧ PySem.W.exmOne K (.ref Ca) (.ref Cp) = some true)
    {f : Addr} {fd : FuncData} (F : Fun K "_law_done" "_law_done" s__law_done f fd) :
    FnOk P w K mg base CX0 (4 + 1) f fd ["book", "deed"] (spD K mg 2 (b__law_done p_Book_come p_Book_go p_Book_say p_Book_price p_Book_back)) := by
  have sc := sc__law_done
  exact fn_okD F sc rfl fun cdv A outer s H E hr => by
    exact (gss_cons (gs_set (i := 2) sc.nd rfl (.inl rfl) (g_ix (hu64 hr) (g_var (pv 1)) g_int (fun _ _ => rfl)))
      (gss_one (gs_try (i := 3) (RW := RW8) (RC := RC8 K mg) (c := .ref Cp) rfl rfl sc.nd rfl rfl ⟨rfl, by decide, Or.inl hPay⟩
        (fun nm Ca word hw hm => by
          obtain ⟨⟨bs, kn, pk⟩, ex⟩ := link nm Ca word hw hm
          exact ⟨⟨rfl, Ca, bs, rfl, kn, pk⟩, ex⟩)
        (fun E1 pn xe hx => by
          exact (gxs_cons (gx_if (gt_cmp (cg_eq (hu64 hr)) (g_var (pv 2)) (g_C g_str) rfl) (gxs_one (gx_ret (gex_meth B G_come hr hx rfl (pv 0) (ga_cons (g_ix (hu64 hr) (g_var (pv 1)) g_int (fun _ _ => rfl)) ga_nil)))) gxs_nil)
            (gxs_cons (gx_if (gt_cmp (cg_eq (hu64 hr)) (g_var (pv 2)) (g_C g_str) rfl) (gxs_one (gx_ret (gex_meth B G_go (hr.mono (by omega)) hx rfl (pv 0) (ga_cons (g_ix (hu64 hr) (g_var (pv 1)) g_int (fun _ _ => rfl)) ga_nil)))) gxs_nil)
            (gxs_cons (gx_if (gt_cmp (cg_eq (hu64 hr)) (g_var (pv 2)) (g_C g_str) rfl) (gxs_one (gx_ret (gex_meth B G_say (hr.mono (by omega)) hx rfl (pv 0) (ga_cons (g_ix (hu64 hr) (g_var (pv 1)) g_int (fun _ _ => rfl)) (ga_cons (g_ix (hu64 hr) (g_var (pv 1)) g_int (fun _ _ => rfl)) ga_nil))))) gxs_nil)
            (gxs_one (gx_ret (gex_if (gt_cmp (cg_eq (hu64 hr)) (g_var (pv 2)) (g_C g_str) rfl) (gex_meth B G_price (hr.mono (by omega)) hx rfl (pv 0) (ga_cons (g_ix (hu64 hr) (g_var (pv 1)) g_int (fun _ _ => rfl)) (ga_cons (g_ix (hu64 hr) (g_var (pv 1)) g_int (fun _ _ => rfl)) ga_nil)))
              (gex_meth0 B G_back (hr.mono (by omega)) hx rfl (pv 0)))))))))
        (fun a oe cls d pn hz hf => by
          refine PSsw (pss_one (ps_ret (pe_callE (E := fun _ => EN) (p := (a, oe)) Gr (by exact ⟨(roomH_of' hr).1, (roomH_of' hr).2⟩) ?_ List.mem_cons_self (by rfl) hmr hkr hbr (fun σ pins H s e s' I c => passN pins σ H s e s' I c) (pa_cons (pv 3) pa_nil)))) ?_
          · obtain ⟨vs, hvs⟩ := hf
            exact ⟨rfl, vs, hvs, hz.2.2 vs hvs⟩
          · rintro D σ H ⟨h3, word, ⟨rfl, Ca, bs, rfl, kn, pk⟩, q⟩
            exact ⟨_, h3, Ca, bs, word, rfl, hz.zc, hf, kn, pk, fun H' e => q H' e⟩))))
end K51


set_option Elab.async false
set_option maxRecDepth 100000
set_option maxHeartbeats 1000000
namespace K51
open PySem PySem.Spec PyProof.Rows L2 G
open PySem.W (Datum)
/-! ### divisor -/
theorem pure_divisor (ss : List Sl) (R) (RE) (h : p_divisor ss R RE) : b_divisor ss R RE := by
  obtain ⟨a, b, rfl, h⟩ := h
  refine ⟨rfl, noOwn_dat (noOwn_dat noOwn_nil), ?_⟩
  refine whileL (fun m ρ => ∃ x y : Nat, m = y ∧ Nat.gcd x y = Nat.gcd a b ∧ ρ = [.dat (.int x), .dat (.int y)]) b ⟨a, b, rfl, rfl, rfl⟩ ?_
  rintro m _ ⟨x, y, rfl, e, rfl⟩
  refine ne_dat (α := Int) (a := (m : Int)) (b := 0) ?_
  refine iteB (fun hb => ?_) (fun hb => ?_)
  · have hy : 0 < m := by simp at hb; omega
    refine ⟨by omega, rfl, x % m, Nat.mod_lt _ hy, m, x % m, rfl, ?_, ?_⟩
    · rw [← e, Nat.gcd_comm x m, Nat.gcd_rec m x, Nat.gcd_comm]
    · exact congrArg (fun z => [Sl.dat (.int (m : Int)), Sl.dat (.int z)]) (Int.natCast_emod x m).symm
  · have hy : m = 0 := by simp at hb; omega
    subst hy
    rw [Nat.gcd_zero_right] at e
    subst e
    exact h
/-! ### fraction -/
theorem pure_fraction (ss : List Sl) (R) (RE) (h : p_fraction ss R RE) : b_fraction p_divisor ss R RE := by
  obtain ⟨a, b, n, hb, hn, hn2, rfl, h⟩ := h
  refine ⟨rfl, noOwn_dat (noOwn_dat noOwn_nil), ?_⟩
  have e1 : (if a < 0 then -a else a) = (a.natAbs : Int) := by split <;> omega
  have e2 : (if (b : Int) < 0 then -(b : Int) else b) = (b : Int) := by split <;> omega
  have hg : 0 < Nat.gcd a.natAbs b := Nat.gcd_pos_of_pos_right _ hb
  have hgl : Nat.gcd a.natAbs b ≤ b := Nat.gcd_le_right _ hb
  have sg : Sm (Nat.gcd a.natAbs b : Nat) := sm_of (n := n) (by rw [Int.natAbs_natCast]; omega) (by omega)
  refine ⟨a.natAbs, b, ?_, ?_⟩
  · show [Sl.dat (.int (if a < 0 then -a else a)), Sl.dat (.int (if (b : Int) < 0 then -(b : Int) else b))] = _
    rw [e1, e2]
  refine iteY (decide_eq_true (show (0 : Int) < b by omega)) ?_
  refine ⟨⟨sg, sm_small (by decide)⟩, ?_⟩
  dsimp only [mGN, slot, List.set]
  have e3 : ((Nat.gcd a.natAbs b : Nat) : Int) * 1 = (Nat.gcd a.natAbs b : Nat) := Int.mul_one _
  refine ⟨by show (0 : Int) < _ ∧ Sm _; rw [e3]; exact ⟨by omega, sg⟩, ?_⟩
  refine ⟨by show (0 : Int) < _ ∧ Sm _; rw [e3]; exact ⟨by omega, sg⟩, ?_⟩
  have e4 : fr (mkRat a b) = .tuple [.int (a / (((Nat.gcd a.natAbs b : Nat) : Int) * 1)), .int ((b : Int) / (((Nat.gcd a.natAbs b : Nat) : Int) * 1))] := by
    unfold fr
    rw [e3, Rat.num_mkRat, Rat.den_mkRat, if_neg (by omega), if_neg (by omega), Nat.gcd_comm b, Int.natCast_ediv]
  rw [e4] at h
  exact h
/-! ### plus -/
theorem pure_plus (ss : List Sl) (R) (RE) (h : p_plus ss R RE) : b_plus p_fraction ss R RE := by
  obtain ⟨p, q, m, n, hp, hq, hmn, rfl, h⟩ := h
  refine ⟨rfl, noOwn_dat (noOwn_dat noOwn_nil), ?_⟩
  refine ⟨⟨hp.num (by omega), hq.den (by omega)⟩, ⟨hq.num (by omega), hp.den (by omega)⟩, ⟨hp.den (by omega), hq.den (by omega)⟩, ?_⟩
  refine ⟨p.num * q.den + q.num * p.den, p.den * q.den, m + n, Nat.mul_pos p.den_pos q.den_pos, mul_lt_pow hp.2 hq.2, by omega, rfl, ?_⟩
  rw [← Rat.add_def']
  exact h
/-! ### is_whole -/
theorem pure_is_whole (ss : List Sl) (R) (RE) (h : p_is_whole ss R RE) : b_is_whole ss R RE := by
  obtain ⟨i, lo, hi, h1, h2, rfl, h⟩ := h
  refine ⟨rfl, noOwn_dat (noOwn_dat (noOwn_dat noOwn_nil)), ?_⟩
  refine iteY (decide_eq_true h1) ?_
  show R (.bool (decide (i ≤ hi))) _
  rw [decide_eq_true h2]
  exact h
/-! ### is_name -/
theorem pure_is_name (ss : List Sl) (R) (RE) (h : p_is_name ss R RE) : b_is_name ss R RE := by
  obtain ⟨x, ⟨h1, h2, h3⟩, rfl, h⟩ := h
  refine ⟨rfl, noOwn_dat noOwn_nil, ?_⟩
  have hl : x.length ≤ sizeLine := Nat.le_trans h2 (by decide)
  refine ⟨hl, iteY (decide_eq_true (by omega)) ?_⟩
  refine iteY (decide_eq_true (show (x.length : Int) ≤ 8 by omega)) ?_
  refine ⟨by omega, ?_⟩
  refine lcA (ρ0 := [.dat (.str x), .un]) (fun c : Nat => PyData.str ⟨#[c]⟩) x.cps.toList (fun _ => .bool true) ?_ ?_
  · refine ⟨x.cps.toList.map fun _ => true, by rw [List.map_map]; rfl, ?_⟩
    have e : ((x.cps.toList.map fun _ => true).all fun b => b) = true := by simp
    rw [e]
    exact h
  · intro c hc Ky q
    refine in_chr ?_
    have e : (false ^^ decide (c ∈ ("abcdefghijklmnopqrstuvwxyz" : Str).cps.toList)) = true := by rw [decide_eq_true (h3 c hc)]; rfl
    rw [e]
    exact q
/-! ### is_number -/
theorem pure_is_number (ss : List Sl) (R) (RE) (h : p_is_number ss R RE) : b_is_number p_is_whole ss R RE := by
  obtain ⟨i, h1, h2, rfl, h⟩ := h
  exact ⟨rfl, noOwn_dat noOwn_nil, i, 0, 1000, h1, h2, rfl, h⟩
/-! ### are_rising -/
theorem pure_are_rising (ss : List Sl) (R) (RE) (h : p_are_rising ss R RE) : b_are_rising ss R RE := by
  obtain ⟨d, l, hr, hl, hd, rfl, h⟩ := h
  refine ⟨rfl, noOwn_dat noOwn_nil, ?_⟩
  have key : ∀ (D : PyData), D = d → mLcL (mGN 1) mYes (mCmp ltD (mIx (mVar 0) (mVar 1)) (mIx (mVar 0) (mBin addD (mVar 1) (mC (.int 1))))) [1]
      (fun acc ρ2 => allD (.list acc) fun c => R c (outs [Sl.dat D] (backM [.dat D, .un] ρ2 [1]))) (rangeD ((l.length : Int) - 1).toNat) [] [.dat D, .un] := by
    intro D eD
    subst eD
    refine lcA (fun k : Nat => PyData.int (k : Int)) (List.range ((l.length : Int) - 1).toNat) (fun _ => .bool true) ?_ ?_
    · refine ⟨(List.range ((l.length : Int) - 1).toNat).map fun _ => true, by rw [List.map_map]; rfl, ?_⟩
      have e : (((List.range ((l.length : Int) - 1).toNat).map fun _ => true).all fun b => b) = true := by simp
      rw [e]
      exact h
    · intro k hk Ky q
      rw [List.mem_range] at hk
      have k1 : k < l.length := by omega
      have k2 : k + 1 < l.length := by omega
      have a1 : atI (l.map sD) (k : Int) = some (.str l[k]) := atI_nat (by rw [List.getElem?_map, List.getElem?_eq_getElem k1]; rfl)
      have a2 : atI (l.map sD) ((k : Int) + 1) = some (.str l[k + 1]) := atI_nat (j := k + 1) (by rw [List.getElem?_map, List.getElem?_eq_getElem k2]; rfl)
      have lt : Lt l[k] l[k + 1] := (List.pairwise_iff_getElem.mp hr.pw) k (k + 1) k1 k2 (by omega)
      have fin : ltD (.str l[k]) (.str l[k + 1]) (fun c => Ky (.bool c) [.dat D, .un]) := by
        show Ky (.bool (decide (l[k].cps.toList < l[k + 1].cps.toList))) _
        rw [decide_eq_true (show l[k].cps.toList < l[k + 1].cps.toList from lt)]
        exact q
      have go : ∀ D', (D' = nsL l ∨ D' = nsT l) → ixD D' (.int (k : Int)) fun c => ixD D' (.int ((k : Int) + 1)) fun c2 => ltD c c2 fun c => Ky (.bool c) [.dat D, .un] := by
        rintro D' (rfl | rfl)
        · show (match atI (l.map sD) (k : Int) with | some d => _ | none => False)
          rw [a1]
          show (match atI (l.map sD) ((k : Int) + 1) with | some d => _ | none => False)
          rw [a2]
          exact fin
        · show (match atI (l.map sD) (k : Int) with | some d => _ | none => False)
          rw [a1]
          show (match atI (l.map sD) ((k : Int) + 1) with | some d => _ | none => False)
          rw [a2]
          exact fin
      exact go D hd
  have lf : ∀ d', (d' = nsL l ∨ d' = nsT l) → ∀ R' : PyData → Prop, R' (.int l.length) → lenD d' R' := by
    rintro d' (rfl | rfl) R' q
    · show R' (.int ((l.map sD).length : Nat))
      rw [List.length_map]; exact q
    · show R' (.int ((l.map sD).length : Nat))
      rw [List.length_map]; exact q
  refine lf d hd _ ?_
  exact ⟨⟨by show (-10000 : Int) ≤ (l.length : Int) - 1; omega, by show (l.length : Int) - 1 < 10000; omega⟩, key d rfl⟩
/-! ### are_things -/
theorem pure_are_things (ss : List Sl) (R) (RE) (h : p_are_things ss R RE) : b_are_things p_is_name p_is_number p_are_rising ss R RE := by
  obtain ⟨t, ht, rfl, h⟩ := h
  refine ⟨rfl, noOwn_dat noOwn_nil, ?_⟩
  have hl : (t.map tD).length = t.length := List.length_map _
  have h1 := ht.le
  refine iteY (decide_eq_true (show (1 : Int) ≤ ((t.map tD).length : Nat) by omega)) ?_
  refine iteNo (show (!decide (((t.map tD).length : Int) ≤ 8)) = false by rw [decide_eq_true (by omega)]; rfl) ?_
  refine lcA tD t (fun _ => .bool true) ?_ ?_
  · refine all_yes t ?_
    refine lcA tD t (fun p => sD p.1) ?_ ?_
    · rw [map_sD]
      exact ⟨_, t.map (·.1), ht.up, by rw [List.length_map]; omega, .inl rfl, rfl, h⟩
    · intro p hp Ky q
      exact q
  · intro p hp Ky q
    refine eq_dat (α := Int) (a := 2) (b := 2) ?_
    refine ⟨p.1, ht.nm p hp, rfl, ?_⟩
    exact ⟨p.2, (ht.co p hp).1, (ht.co p hp).2, rfl, q⟩
/-! ### are_of -/
theorem pure_are_of (ss : List Sl) (R) (RE) (h : p_are_of ss R RE) : b_are_of p_are_rising ss R RE := by
  obtain ⟨ns, l, h1, h2, h3, rfl, h⟩ := h
  refine ⟨rfl, noOwn_dat (noOwn_dat noOwn_nil), ?_⟩
  refine lcA sD l (fun _ => .bool true) ?_ ?_
  · refine all_yes l ?_
    exact ⟨_, l, h2, h3, .inr rfl, rfl, h⟩
  · intro x hx Ky q
    refine in_lst (α := Str) ?_
    rw [decide_eq_true (h1 x hx)]
    exact q
/-! ### is_one -/
theorem pure_is_one (ss : List Sl) (R) (RE) (h : p_is_one ss R RE) : b_is_one p_is_name p_are_of p_is_number p_is_whole ss R RE := by
  obtain ⟨t, o, ht, ho, rfl, h⟩ := h
  refine ⟨rfl, noOwn_dat (noOwn_dat noOwn_nil), ?_⟩
  refine ne_dat (α := Int) (a := 4) (b := 4) ?_
  refine ⟨o.name, ho.nm, rfl, ?_⟩
  refine lcA tD t (fun p => sD p.1) ?_ ?_
  · rw [map_sD]
    have hwl : o.wants.length ≤ 1000 := Nat.le_trans (nodup_len ho.up.nodup ho.ws) (by rw [List.length_map]; have := ht.le; omega)
    refine ⟨t.map (·.1), o.wants, ho.ws, ho.up, hwl, rfl, ?_⟩
    refine eq_dat (α := PySem.W.Tup Str) (a := ⟨o.wants⟩) (b := ⟨[]⟩) ?_
    refine iteNo (decide_eq_false fun e => ho.ne (congrArg PySem.W.Tup.items e)) ?_
    exact ⟨o.worth, ho.wo.1, ho.wo.2, rfl, o.weight, 1, 9, ho.we.1, ho.we.2, rfl, h⟩
  · intro p hp Ky q
    exact q
/-! ### are_folk_of -/
theorem pure_are_folk_of (ss : List Sl) (R) (RE) (h : p_are_folk_of ss R RE) : b_are_folk_of p_is_one p_are_rising ss R RE := by
  obtain ⟨t, f, ht, hf, rfl, h⟩ := h
  refine ⟨rfl, noOwn_dat (noOwn_dat noOwn_nil), ?_⟩
  have hl : (f.map oD).length = f.length := List.length_map _
  have h1 := hf.le
  refine iteNo (show decide ((8 : Int) < ((f.map oD).length : Nat)) = false from decide_eq_false (by omega)) ?_
  refine lcA oD f (fun _ => .bool true) ?_ ?_
  · refine all_yes f ?_
    refine lcA oD f (fun p => sD p.name) ?_ ?_
    · rw [map_sD]
      exact ⟨_, f.map (·.name), hf.up, by rw [List.length_map]; omega, .inl rfl, rfl, h⟩
    · intro p hp Ky q
      exact q
  · intro o ho Ky q
    exact ⟨t, o, ht, hf.on o ho, rfl, q⟩
/-! ### need_things -/
theorem pure_need_things (ss : List Sl) (R) (RE) (h : p_need_things ss R RE) : b_need_things p_are_things ss R RE := by
  obtain ⟨t, ht, rfl, h⟩ := h
  exact ⟨rfl, noOwn_dat noOwn_nil, t, ht, rfl, h⟩
/-! ### need_folk -/
theorem pure_need_folk (ss : List Sl) (R) (RE) (h : p_need_folk ss R RE) : b_need_folk p_need_things p_are_folk_of ss R RE := by
  obtain ⟨t, f, ht, hf, rfl, h⟩ := h
  exact ⟨rfl, noOwn_dat (noOwn_dat noOwn_nil), t, ht, rfl, t, f, ht, hf, rfl, h⟩
/-! ### names_of -/
theorem pure_names_of (ss : List Sl) (R) (RE) (h : p_names_of ss R RE) : b_names_of ss R RE := by
  obtain ⟨d, f, hd, rfl, h⟩ := h
  refine ⟨rfl, noOwn_dat noOwn_nil, ?_⟩
  refine seq_run hd ?_
  refine lcA oD f (fun o => sD o.name) ?_ ?_
  · rw [map_sD]
    exact h
  · intro p hp Ky q
    exact q
/-! ### need_lot -/
theorem pure_need_lot (ss : List Sl) (R) (RE) (h : p_need_lot ss R RE) : b_need_lot p_need_folk p_are_of p_names_of ss R RE := by
  obtain ⟨t, f, l, ht, hf, h1, h2, rfl, h⟩ := h
  refine ⟨rfl, noOwn_dat (noOwn_dat (noOwn_dat noOwn_nil)), t, f, ht, hf, rfl, _, f, rfl, rfl, ?_⟩
  have hl : l.length ≤ 1000 := Nat.le_trans (nodup_len h2.nodup h1) (by unfold nmsOf; rw [List.length_map]; have := hf.le; omega)
  exact ⟨nmsOf f, l, h1, h2, hl, rfl, h⟩
/-! ### shares_of -/
theorem pure_shares_of (ss : List Sl) (R) (RE) (h : p_shares_of ss R RE) : b_shares_of p_plus p_fraction ss R RE := by
  obtain ⟨t, d, f, ht, hf, hd, rfl, h⟩ := h
  refine ⟨rfl, noOwn_dat (noOwn_dat noOwn_nil), ?_⟩
  have nd := hf.nodup
  have keys : ∀ g : One → Rat, (f.map fun o => (o.name, g o)).map (·.1) = f.map (·.name) := fun g => by rw [List.map_map]; rfl
  refine seq_run hd ?_
  refine dcA oD f (fun o => o.name) (fun _ => fr 0) ?_ ?_
  case refine_2 => intro o ho K q; exact q
  have e0 : mergeD (f.map fun o => (o.name, fr 0)) = dS fr (f.map fun o => (o.name, share [] f o)) := by
    have := mergeD_dS (v := fr) (f.map fun o => (o.name, share [] f o))
    rw [lmerge_nodup (by rw [keys]; exact nd), List.map_map] at this
    exact this
  rw [e0]
  refine forL tD t (fun p ρ => ∃ s3 s4 s5 s6 s7 s8 s9 : Sl, ρ = [.dat (tsD t), .dat d, .own (.dict (dS fr (f.map fun o => (o.name, share p f o)))), s3, s4, s5, s6, s7, s8, s9] ∧ freeS ρ 3 = true ∧ freeS ρ 4 = true ∧ freeS ρ 5 = true ∧ freeS ρ 6 = true ∧ freeS ρ 7 = true ∧ freeS ρ 8 = true)
    ⟨.un, .un, .un, .un, .un, .un, .un, rfl, rfl, rfl, rfl, rfl, rfl, rfl⟩ ?_ ?_
  · rintro ρ ⟨s3, s4, s5, s6, s7, s8, s9, rfl, _⟩
    exact h
  · rintro p x r ρ N et ⟨s3, s4, s5, s6, s7, s8, s9, rfl, f3, f4, f5, f6, f7, f8⟩ hN
    refine gt_free (d := .str x.1) (e := .int x.2) f3 f4 ?_
    refine seq_run hd ?_
    have hx : x ∈ t := by rw [et]; simp
    refine lcL oD f (fun o => decide (x.1 ∈ o.wants)) (fun o => .tuple [.str o.name, .int o.weight]) ?_ ?_
    case refine_2 =>
      intro o ho Ky Kn q1 q2
      refine in_tup (α := Str) (l := o.wants) ?_
      exact iteB (fun z => q1 (by simpa using z)) (fun z => q2 (by simpa using z))
    refine gn_free f5 ?_
    refine lcA (fun o : One => PyData.tuple [.str o.name, .int o.weight]) (usersOf f x.1) (fun o => .int o.weight) ?_ ?_
    case refine_2 => intro o ho Ky q; exact q
    refine ⟨(usersOf f x.1).map (·.weight), by rw [List.map_map]; rfl, ?_⟩
    refine gn_free f8 ?_
    refine forL (fun o : One => PyData.tuple [.str o.name, .int o.weight]) (usersOf f x.1) (fun us ρ => ∃ s6 s7 : Sl, ρ = [.dat (tsD t), .dat d, .own (.dict (dS fr (f.map fun o => (o.name, if o ∈ us then share p f o + part f x o else share p f o)))), .dat (.str x.1), .dat (.int x.2), .dat (.list ((usersOf f x.1).map fun o => .tuple [.str o.name, .int o.weight])), s6, s7, .dat (.int (weightOf f x.1)), bk s9] ∧ freeS ρ 6 = true ∧ freeS ρ 7 = true)
      ⟨bk s6, bk s7, ?_, bk_free s6, bk_free s7⟩ ?_ ?_
    · simp only [List.not_mem_nil, if_false]
      rfl
    · rintro ρ ⟨s6', s7', rfl, g6, g7⟩
      have e : (f.map fun o => (o.name, share (p ++ [x]) f o)) = f.map fun o => (o.name, if o ∈ usersOf f x.1 then share p f o + part f x o else share p f o) := by
        refine List.map_congr_left fun o ho => ?_
        have m : (o ∈ usersOf f x.1) = (x.1 ∈ o.wants) := by
          unfold usersOf
          rw [List.mem_filter]
          simp [ho]
        rw [share_snoc]
        simp only [m]
      show N _
      rw [← e]
      exact hN _ ⟨_, _, _, s6', s7', _, bk s9, rfl, rfl, rfl, rfl, g6, g7, rfl⟩
    · rintro us o r2 ρ N2 eu ⟨s6', s7', rfl, g6, g7⟩ hN2
      refine gt_free (d := .str o.name) (e := .int o.weight) g6 g7 ?_
      have hou : o ∈ usersOf f x.1 := by rw [eu]; simp
      have ho : o ∈ f := (List.mem_filter.mp hou).1
      have hxo : x.1 ∈ o.wants := by simpa using (List.mem_filter.mp hou).2
      have hno : o ∉ us := by
        have nu : (usersOf f x.1).Nodup := (nodup_of_map nd).sublist List.filter_sublist
        rw [eu, List.nodup_append] at nu
        exact fun z => nu.2.2 o z o (by simp) rfl
      have pc := ht.co x hx
      have bp : Bd (1 + 15 * p.length) (share p f o) := share_bd hf.on hf.le (fun q hq => ht.co q (by rw [et]; simp [hq])) ho
      have bq := part_bd hf.on hf.le pc ho hxo
      have pl : p.length ≤ 8 := by have := ht.le; rw [et, List.length_append, List.length_cons] at this; omega
      obtain ⟨w0, w1, w2⟩ := weight_pos hf.on hf.le x.1
      have w3 := w2 o ho hxo
      have eg : dget (dS fr (f.map fun o => (o.name, if o ∈ us then share p f o + part f x o else share p f o))) o.name = some (fr (share p f o)) := by
        rw [dS_get, lget_mem (p := (o.name, if o ∈ us then share p f o + part f x o else share p f o)) (by rw [keys]; exact nd) (List.mem_map.mpr ⟨o, ho, rfl⟩), if_neg hno]; rfl
      refine ixd_dict eg ?_
      have wo := (hf.on o ho).we
      refine ⟨⟨sm_small (by omega), sm_small (by omega)⟩, ?_⟩
      refine ⟨x.2 * o.weight, (weightOf f x.1).toNat, 7, by omega, by omega, by decide, by rw [Int.toNat_of_nonneg w0]; rfl, ?_⟩
      refine ⟨share p f o, part f x o, _, _, bp, bq, by omega, rfl, ?_⟩
      refine ⟨by unfold dS; rw [List.length_map, List.length_map]; have := hf.le; omega, ?_⟩
      refine hN2 _ ⟨.dat (.str o.name), .dat (.int o.weight), ?_, rfl, rfl⟩
      rw [dS_put]
      have ep : lput (f.map fun o => (o.name, if o ∈ us then share p f o + part f x o else share p f o)) o.name (share p f o + part f x o) = f.map fun o' => (o'.name, if o' ∈ us ++ [o] then share p f o' + part f x o' else share p f o') := by
        unfold lput
        rw [if_pos (by rw [keys]; exact List.mem_map_of_mem ho), List.map_map]
        refine List.map_congr_left fun o' ho' => ?_
        show (if o'.name = o.name then (o'.name, share p f o + part f x o) else (o'.name, _)) = _
        by_cases e : o'.name = o.name
        · have e' : o' = o := name_inj nd ho' ho e
          subst e'
          rw [if_pos rfl, if_pos (by simp)]
        · have e' : o' ≠ o := fun z => e (by rw [z])
          rw [if_neg e]
          simp [e']
      rw [ep]
      rfl
/-! ### shares -/
theorem pure_shares (ss : List Sl) (R) (RE) (h : p_shares ss R RE) : b_shares p_need_lot p_shares_of ss R RE := by
  obtain ⟨t, f, l, ht, hf, h1, h2, rfl, h⟩ := h
  refine ⟨rfl, noOwn_dat (noOwn_dat (noOwn_dat noOwn_nil)), t, f, l, ht, hf, h1, h2, rfl, ?_⟩
  have hp : VF t (pickOf f l) := hf.sub List.filter_sublist
  refine lcL oD f (fun o => decide (o.name ∈ l)) oD ?_ ?_
  · refine ⟨t, _, pickOf f l, ht, hp, rfl, rfl, ?_⟩
    show SortOk (itemsD (dS fr (sharesOf t (pickOf f l)))) ∧ R (.list (sortD (itemsD (dS fr (sharesOf t (pickOf f l)))))) _
    rw [items_dS, sortD_items (by rw [sharesOf_names]; exact hp.up) fr_alike]
    exact ⟨sortOk_items fr_alike fr_depth (by unfold sharesOf; rw [List.length_map]; exact Nat.le_trans hp.le (by decide)), h⟩
  · intro o ho Ky Kn q1 q2
    refine in_tup (α := Str) (l := l) ?_
    exact iteB (fun z => q1 (by simpa using z)) (fun z => q2 (by simpa using z))
/-! ### _law_take -/
theorem pure__law_take (ss : List Sl) (R) (RE) (h : p__law_take ss R RE) : b__law_take ss R RE := by
  obtain ⟨a, d, m, ⟨c, s, p, rfl, hc, hs0, hs, hp0, hp⟩, hm, hm2, rfl, h⟩ := h
  refine ⟨rfl, noOwn_inn (noOwn_dat noOwn_nil), ?_⟩
  have h : ∀ i d' u ρ, 0 ≤ i → i < m → Well d' → R (.int i) (outs [.inn a (.list [.int c, .int s, .int p]), .dat (.int m)] (.inn a d' :: u :: ρ)) := fun i d' u ρ h1 h2 h3 => by
    rw [outs_here]; exact h i d' h1 h2 h3
  refine iteB (fun hb => ?_) (fun hb => ?_)
  · refine ⟨hm, ⟨hm, sm_small (by omega)⟩, ?_⟩
    exact h (c % m) _ _ _ (Int.emod_nonneg _ (by omega)) (Int.emod_lt_of_pos _ hm) ⟨c / m, s, p, rfl, Int.ediv_nonneg hc (by omega), hs0, hs, hp0, hp⟩
  · have e1 : 0 ≤ s * 48271 % p := Int.emod_nonneg _ (by omega)
    have e2 : s * 48271 % p < p := Int.emod_lt_of_pos _ hp0
    refine ⟨⟨sm_small (by omega), sm_small (by decide)⟩, hp0, ?_⟩
    refine ⟨⟨sm_small (by omega), sm_small (by omega)⟩, (by decide), ⟨(by decide), sm_small (by decide)⟩, hm, ?_⟩
    exact h _ _ _ _ (Int.emod_nonneg _ (by omega)) (Int.emod_lt_of_pos _ hm) ⟨c, s * 48271 % p + 1, p, rfl, hc, by omega, by omega, hp0, hp⟩
/-! ### _law_well -/
theorem pure__law_well (ss : List Sl) (R) (RE) (h : p__law_well ss R RE) : b__law_well ss R RE := by
  obtain ⟨ns, k, hk, rfl, h⟩ := h
  refine ⟨rfl, noOwn_scr (noOwn_dat noOwn_nil), ?_⟩
  -- the primes
  have prime : ∀ (Rr : PyData → Prop), (∀ p : Int, 0 < p → p < 2 ^ 31 → Rr (.int p)) → ixD (.list [.int 2147483647, .int 2147483629, .int 2147483587, .int 2147483579, .int 2147483563, .int 2147483549, .int 2147483543, .int 2147483497]) (.int ((k : Int) % 8)) Rr := by
    intro Rr q
    have h8 : k % 8 < 8 := Nat.mod_lt _ (by decide)
    have e : ((k : Int) % 8) = ((k % 8 : Nat) : Int) := (Int.natCast_emod k 8).symm
    rw [e]
    generalize k % 8 = j at h8
    match j, h8 with
    | 0, _ => exact q _ (by decide) (by decide)
    | 1, _ => exact q _ (by decide) (by decide)
    | 2, _ => exact q _ (by decide) (by decide)
    | 3, _ => exact q _ (by decide) (by decide)
    | 4, _ => exact q _ (by decide) (by decide)
    | 5, _ => exact q _ (by decide) (by decide)
    | 6, _ => exact q _ (by decide) (by decide)
    | 7, _ => exact q _ (by decide) (by decide)
  -- what follows the cell
  have rest : ∀ cell : Int, mSeq (mSet 3 (mLst (mCons (mC (.int 2147483647)) (mCons (mC (.int 2147483629)) (mCons (mC (.int 2147483587)) (mCons (mC (.int 2147483579)) (mCons (mC (.int 2147483563)) (mCons (mC (.int 2147483549)) (mCons (mC (.int 2147483543)) (mCons (mC (.int 2147483497)) (mNil)))))))))))
      (mSeq (mSet 4 (mBin modD (mBin mulD (mBin addD (mBin modD (mVar 2) (mC (.int 2147483489))) (mC (.int 1))) (mBin addD (mC (.int 48271)) (mBin mulD (mC (.int 2)) (mVar 1)))) (mC (.int 2147483489))))
      (mSeq (mSet 4 (mBin addD (mBin addD (mBin modD (mBin mulD (mVar 4) (mVar 4)) (mC (.int 2147483477))) (mVar 1)) (mC (.int 1))))
      (mSeq (mIfS (mCmpB geD (mVar 2) (mBin powD (mC (.int 10)) (mC (.int 18))))
      (mRetN (mLst (mCons (mVar 2) (mCons (mVar 4) (mCons (mIx (mVar 3) (mBin modD (mVar 1) (mC (.int 8)))) (mNil))))))
      (mNx))
      (mRetN (mLst (mCons (mC (.int 0)) (mCons (mVar 4) (mCons (mIx (mVar 3) (mBin modD (mVar 1) (mC (.int 8)))) (mNil)))))))))
      { nx := fun _ => False, rt := fun _ _ => False, ro := fun d ρ' => R d (outs [.scr ns, .dat (.int (k : Int))] ρ') } [.scr ns, .dat (.int (k : Int)), .dat (.int cell), .un, .un] := by
    intro cell
    have a1 : 0 ≤ cell % 2147483489 := Int.emod_nonneg _ (by decide)
    have a2 : cell % 2147483489 < 2147483489 := Int.emod_lt_of_pos _ (by decide)
    refine ⟨by decide, ⟨sm_small (by decide), sm_small (by omega)⟩, ⟨sm_small (by omega), sm_small (by omega)⟩, by decide, ?_⟩
    generalize (cell % 2147483489 + 1) * (48271 + 2 * (k : Int)) = w
    have b1 : 0 ≤ w % 2147483489 := Int.emod_nonneg _ (by decide)
    have b2 : w % 2147483489 < 2147483489 := Int.emod_lt_of_pos _ (by decide)
    refine ⟨⟨sm_small (by omega), sm_small (by omega)⟩, by decide, ?_⟩
    generalize w % 2147483489 = x at b1 b2
    have c1 : 0 ≤ x * x % 2147483477 := Int.emod_nonneg _ (by decide)
    have c2 : x * x % 2147483477 < 2147483477 := Int.emod_lt_of_pos _ (by decide)
    refine ⟨⟨rfl, rfl⟩, ?_⟩
    refine iteB (fun hb => ?_) (fun hb => ?_)
    · have hb := of_decide_eq_true hb
      refine ⟨by decide, prime _ fun p p0 p1 => ?_⟩
      exact h _ ⟨cell, x * x % 2147483477 + k + 1, p, rfl, by omega, by omega, by omega, p0, p1⟩
    · refine ⟨by decide, prime _ fun p p0 p1 => ?_⟩
      exact h _ ⟨0, x * x % 2147483477 + k + 1, p, rfl, by decide, by omega, by omega, p0, p1⟩
  refine iteB (fun hb => ?_) (fun hb => ?_)
  · have hb := of_decide_eq_true hb
    have hk : k < ns.length := by omega
    have e : atI ns (k : Int) = some ns[k] := atI_nat (List.getElem?_eq_getElem hk)
    have go : ∀ Rr : Int → Prop, Rr ns[k] → (match atI ns (k : Int) with
        | some n => Rr n
        | none => False) := fun Rr q => by
      rw [e]
      exact q
    exact go _ (rest _)
  · exact rest 0
/-! ### _law_things -/
theorem pure__law_things (ss : List Sl) (R) (RE) (h : p__law_things ss R RE) : b__law_things p__law_take ss R RE := by
  obtain ⟨a, d, m, hw, hm, hm8, rfl, h⟩ := h
  refine ⟨rfl, noOwn_inn (noOwn_dat noOwn_nil), ?_⟩
  have h : ∀ t d' u ρ, VT t → (t.length : Int) ≤ m → Well d' → R (tsD t) (outs [.inn a d, .dat (.int m)] (.inn a d' :: u :: ρ)) := fun t d' u ρ h1 h2 h3 => by
    rw [outs_here]; exact h t d' h1 h2 h3
  refine ⟨a, d, m, hw, hm, by omega, rfl, fun i d1 i0 i1 hw1 => ?_⟩
  refine addI (a := 1) (b := i) ?_
  refine sl_take (f := sD) (l := thingNames) (k := 1 + i) (by omega) ?_
  refine ⟨a, d1, 3, hw1, by decide, by decide, rfl, fun j d2 j0 j1 hw2 => ?_⟩
  refine ix_any j0 (by show j < 3; omega) fun w hw => ?_
  obtain ⟨w, rfl, w0, w1⟩ : ∃ v : Int, w = .int v ∧ 0 ≤ v ∧ v ≤ 1000 := by
    simp only [List.mem_cons, List.not_mem_nil, or_false] at hw
    rcases hw with rfl | rfl | rfl
    · exact ⟨9, rfl, by decide, by decide⟩
    · exact ⟨60, rfl, by decide, by decide⟩
    · exact ⟨1000, rfl, by decide, by decide⟩
  refine lcI sD (thingNames.take (1 + i).toNat) (fun p acc ρ => ∃ t d', acc = t.map tD ∧ t.map (·.1) = p ∧ (∀ q ∈ t, 0 ≤ q.2 ∧ q.2 ≤ 1000) ∧ Well d' ∧ ρ = [.inn a d', .dat (.int m), .dat (nsL (thingNames.take (1 + i).toNat)), .dat (.int w), .un])
    ⟨[], d2, rfl, rfl, (by intro q hq; cases hq), hw2, rfl⟩ ?_ ?_
  · rintro acc ρ ⟨t, d', rfl, e1, e2, hw', rfl⟩
    have hlen : t.length = (thingNames.take (1 + i).toNat).length := by rw [← e1, List.length_map]
    have hl8 : thingNames.length = 8 := rfl
    rw [List.length_take, hl8] at hlen
    refine h t d' _ _ ⟨by omega, fun p hp => ?_, e2, ?_⟩ (by omega) hw'
    · refine thingNames_nm _ (List.mem_of_mem_take (i := (1 + i).toNat) ?_)
      rw [← e1]; exact List.mem_map_of_mem hp
    · rw [e1]; exact Rising.of (thingNames_up.sublist (List.take_sublist _ _))
  · rintro p x r acc ρ _ ⟨t, d', rfl, e1, e2, hw', rfl⟩ Ky Kn k1 k2
    refine ⟨a, d', w + 1, hw', by omega, by omega, rfl, fun c d'' c0 c1 hw'' => ?_⟩
    refine k1 _ _ ⟨t ++ [(x, c)], d'', ?_, ?_, ?_, hw'', rfl⟩
    · rw [List.map_append]; rfl
    · rw [List.map_append, e1]; rfl
    · intro q hq
      rcases List.mem_append.mp hq with hq | hq
      · exact e2 q hq
      · simp only [List.mem_cons, List.not_mem_nil, or_false] at hq
        subst hq
        exact ⟨c0, by show c ≤ 1000; omega⟩
/-! ### _law_one -/
theorem pure__law_one (ss : List Sl) (R) (RE) (h : p__law_one ss R RE) : b__law_one p__law_take ss R RE := by
  obtain ⟨a, d, t, x, b, hw, ht, hx, rfl, h⟩ := h
  refine ⟨rfl, noOwn_inn (noOwn_dat (noOwn_dat (noOwn_dat noOwn_nil))), ?_⟩
  have h : ∀ o d' u v w ρ, VO t o → o.name = x → (b = true → o.weight = 1) → Well d' → R (oD o) (outs [.inn a d, .dat (tsD t), .dat (.str x), .dat (.bool b)] (.inn a d' :: u :: v :: w :: ρ)) := fun o d' u v w ρ h1 h2 h3 h4 => by
    rw [outs_here]; exact h o d' h1 h2 h3 h4
  have tl := ht.le
  refine lcI tD t (fun p acc ρ => ∃ ws d', acc = ws.map sD ∧ ws.Sublist (p.map (·.1)) ∧ Well d' ∧ ρ = [.inn a d', .dat (tsD t), .dat (.str x), .dat (.bool b), .un, .un, .un, .un, .un])
    ⟨[], d, rfl, List.Sublist.refl _, hw, rfl⟩ ?_ ?_
  case refine_2 =>
    rintro p q r acc ρ _ ⟨ws, d', rfl, sl, hw', rfl⟩ Ky Kn k1 k2
    refine ⟨a, d', 3, hw', by decide, by decide, rfl, fun c d'' c0 c1 hw'' => ?_⟩
    refine eq_dat (α := Int) (a := c) (b := 0) ?_
    refine iteB (fun hb => ?_) (fun hb => ?_)
    · refine k1 _ _ ⟨ws ++ [q.1], d'', by rw [List.map_append]; rfl, ?_, hw'', rfl⟩
      rw [List.map_append]
      exact sl.append (List.Sublist.refl _)
    · refine k2 _ ⟨ws, d'', rfl, ?_, hw'', rfl⟩
      rw [List.map_append]
      exact sl.trans (List.sublist_append_left ..)
  rintro acc ρ ⟨ws, d1, rfl, sl, hw1, rfl⟩
  -- behind the wants
  have rest : ∀ (ws : List Str) (d1 : PyData), Well d1 → ws ≠ [] → ws.Sublist (t.map (·.1)) →
      mSeq (mSet 4 (mCall1 sumD (mLc (iSq (mVar 1)) (mGT [mGN 7, mGN 8]) (mCmpB (inD false) (mVar 7) (mVar 5)) (mVar 8) [7, 8])))
      (mSeq (mSet 6 (mCallM min2D (mCons (mC (.int 1000)) (mCons (mCallR p__law_take Wish.no.RE 0 0 (mHere 0 (mCons (mIx (mLst (mCons (mBin addD (mVar 4) (mC (.int 1))) (mCons (mBin addD (mBin fdivD (mVar 4) (mC (.int 2))) (mC (.int 2))) (mCons (mBin addD (mBin fdivD (mVar 4) (mC (.int 4))) (mC (.int 3))) (mCons (mC (.int 1001)) (mNil)))))) (mCallR p__law_take Wish.no.RE 0 0 (mHere 0 (mCons (mC (.int 4)) (mNil))))) (mNil)))) (mNil)))))
      (mRet (mTup (mCons (mVar 2) (mCons (mCall1 tupD (mVar 5)) (mCons (mVar 6) (mCons (mIf (mT (mVar 3)) (mC (.int 1)) (mBin addD (mC (.int 1)) (mCallR p__law_take Wish.no.RE 0 0 (mHere 0 (mCons (mIx (mLst (mCons (mC (.int 1)) (mCons (mC (.int 3)) (mCons (mC (.int 9)) (mNil))))) (mCallR p__law_take Wish.no.RE 0 0 (mHere 0 (mCons (mC (.int 3)) (mNil))))) (mNil)))))) (mNil))))))))
      { nx := fun ρ' => R .none (outs [.inn a d, .dat (tsD t), .dat (.str x), .dat (.bool b)] ρ'), rt := fun e ρ' => R e (outs [.inn a d, .dat (tsD t), .dat (.str x), .dat (.bool b)] ρ') }
      [.inn a d1, .dat (tsD t), .dat (.str x), .dat (.bool b), .un, .dat (nsL ws), .un, .un, .un] := by
    intro ws d1 hw1 ne sl
    have vo : ∀ wo we : Int, 0 ≤ wo → wo ≤ 1000 → 1 ≤ we → we ≤ 9 → VO t ⟨x, ws, wo, we⟩ := fun wo we a1 a2 a3 a4 =>
      ⟨hx, fun y hy => sl.subset hy, Rising.of (ht.up.pw.sublist sl), ne, ⟨a1, a2⟩, ⟨a3, a4⟩⟩
    refine lcL tD t (fun p => decide (p.1 ∈ ws)) (fun p => .int p.2) ?_ ?_
    case refine_2 =>
      intro p hp Ky Kn q1 q2
      refine in_lst (α := Str) (l := ws) ?_
      exact iteB (fun z => q1 (by simpa using z)) (fun z => q2 (by simpa using z))
    refine ⟨(t.filter fun p => decide (p.1 ∈ ws)).map (·.2), by rw [List.map_map]; rfl, ?_⟩
    obtain ⟨s0, s1⟩ := sum_bd (t.filter fun p => decide (p.1 ∈ ws)) fun p hp => ht.co p (List.mem_filter.mp hp).1
    have s2 := List.length_filter_le (fun p : Str × Int => decide (p.1 ∈ ws)) t
    have s3 : (((t.filter fun p => decide (p.1 ∈ ws)).map (·.2)).sum : Int) ≤ 8000 := by omega
    generalize (((t.filter fun p => decide (p.1 ∈ ws)).map (·.2)).sum : Int) = cost at s0 s3
    refine ⟨⟨by decide, sm_small (by decide)⟩, ⟨by decide, sm_small (by decide)⟩, ?_⟩
    refine ⟨a, d1, 4, hw1, by decide, by decide, rfl, fun j d2 j0 j1 hw2 => ?_⟩
    refine ix_any j0 (by show j < 4; omega) fun w hw => ?_
    obtain ⟨w, rfl, w0, w1⟩ : ∃ v : Int, w = .int v ∧ 0 < v ∧ v < 2 ^ 60 := by
      simp only [List.mem_cons, List.not_mem_nil, or_false] at hw
      rcases hw with rfl | rfl | rfl | rfl
      · exact ⟨_, rfl, by omega, by omega⟩
      · exact ⟨_, rfl, by omega, by omega⟩
      · exact ⟨_, rfl, by omega, by omega⟩
      · exact ⟨1001, rfl, by decide, by decide⟩
    refine ⟨a, d2, w, hw2, w0, w1, rfl, fun u d3 u0 u1 hw3 => ?_⟩
    have worth : 0 ≤ (if u < 1000 then u else 1000) ∧ (if u < 1000 then u else 1000) ≤ 1000 := by split <;> omega
    cases b with
    | true => exact h ⟨x, ws, _, 1⟩ d3 _ _ _ _ (vo _ 1 worth.1 worth.2 (by decide) (by decide)) rfl (fun _ => rfl) hw3
    | false =>
      refine ⟨a, d3, 3, hw3, by decide, by decide, rfl, fun j d4 j0 j1 hw4 => ?_⟩
      refine ix_any j0 (by show j < 3; omega) fun w hw => ?_
      obtain ⟨w, rfl, w0, w1⟩ : ∃ v : Int, w = .int v ∧ 0 < v ∧ v ≤ 9 := by
        simp only [List.mem_cons, List.not_mem_nil, or_false] at hw
        rcases hw with rfl | rfl | rfl
        · exact ⟨_, rfl, by decide, by decide⟩
        · exact ⟨_, rfl, by decide, by decide⟩
        · exact ⟨_, rfl, by decide, by decide⟩
      refine ⟨a, d4, w, hw4, w0, by omega, rfl, fun g d5 g0 g1 hw5 => ?_⟩
      exact h ⟨x, ws, _, 1 + g⟩ d5 _ _ _ _ (vo _ (1 + g) worth.1 worth.2 (by omega) (by omega)) rfl (fun z => nomatch z) hw5
  refine eq_dat (α := List Str) (a := ws) (b := []) ?_
  refine iteB (fun hb => ?_) (fun hb => ?_)
  · have lt : ((t.map tD).length : Int) = t.length := by rw [List.length_map]
    refine ⟨a, d1, ((t.map tD).length : Nat), hw1, by omega, by omega, rfl, fun i d2 i0 i1 hw2 => ?_⟩
    refine ixT_any i0 i1 fun pd hpd => ?_
    obtain ⟨q, hq, e⟩ := List.mem_map.mp hpd
    subst e
    exact rest [q.1] d2 hw2 (by simp) (List.singleton_sublist.mpr (List.mem_map_of_mem hq))
  · have hb := of_decide_eq_false hb
    exact rest ws d1 hw1 hb sl
/-! ### is_less -/
theorem pure_is_less (ss : List Sl) (R) (RE) (h : p_is_less ss R RE) : b_is_less ss R RE := by
  obtain ⟨p, q, m, n, hp, hq, hmn, rfl, h⟩ := h
  refine ⟨rfl, noOwn_dat (noOwn_dat noOwn_nil), ?_⟩
  refine ⟨⟨hp.num (by omega), hq.den (by omega)⟩, ⟨hq.num (by omega), hp.den (by omega)⟩, ?_⟩
  have e : decide (p < q) = decide (p.num * q.den < q.num * p.den) := decide_eq_decide.mpr (Rat.lt_iff p q)
  rw [e] at h
  exact h
/-! ### would_pay -/
theorem pure_would_pay (ss : List Sl) (R) (RE) (h : p_would_pay ss R RE) : b_would_pay p_is_less p_plus ss R RE := by
  obtain ⟨o, s, more, hs, w0, w1, hm, rfl, h⟩ := h
  refine ⟨rfl, noOwn_dat (noOwn_dat (noOwn_dat noOwn_nil)), trivial, ?_⟩
  have eg : (dget (dS oR more) o.name).getD (.tuple [.int 0, .int 1]) = oR (exOf more o.name) := by
    rw [dS_get]
    unfold exOf
    cases lget more o.name with
    | none => rfl
    | some q => rfl
  have main : ∀ D : PyData, D = oR (exOf more o.name) → mRet (mOrV (mIsN (mVar 3)) (mNotV (mCall p_is_less Wish.no.RE (mCons (mCall p_plus Wish.no.RE (mCons (mTup (mCons (mIx (mVar 0) (mC (.int 2))) (mCons (mC (.int 1)) (mNil)))) (mCons (mVar 3) (mNil)))) (mCons (mVar 1) (mNil))))))
      { nx := fun ρ' => R .none (outs [.dat (oD o), .dat (fr s), .dat (moD more)] ρ'), rt := fun d ρ' => R d (outs [.dat (oD o), .dat (fr s), .dat (moD more)] ρ') } [.dat (oD o), .dat (fr s), .dat (moD more), .dat D] := by
    intro D eD
    subst eD
    cases he : exOf more o.name with
    | none =>
      rw [he] at h
      exact h
    | some e =>
      rw [he] at h
      have be := hm o.name e he
      refine ⟨(o.worth : Rat), e, 10, 1500, worth_bd w0 w1, be, by decide, rfl, ?_⟩
      exact ⟨(o.worth : Rat) + e, s, 1511, 200, bd_add (worth_bd w0 w1) be, hs, by decide, rfl, h⟩
  exact main _ eg
/-! ### left_of -/
theorem pure_left_of (ss : List Sl) (R) (RE) (h : p_left_of ss R RE) : b_left_of p_shares_of p_would_pay ss R RE := by
  obtain ⟨t, d, f, more, ht, hf, hm, hd, rfl, h⟩ := h
  refine ⟨rfl, noOwn_dat (noOwn_dat (noOwn_dat noOwn_nil)), ?_⟩
  refine seq_to [.dat (tsD t), .dat d, .dat (moD more), .dat (flD f), .un, .un, .un] (fun K q => ?_) ?_
  · unfold seqOf at hd
    split at hd
    · cases hd; exact q
    · cases hd; exact q
    · cases hd
  refine whileL (fun m ρ => ∃ (g : List One) (s4 s5 : Sl), m = g.length ∧ VF t g ∧ leftOf t (exOf more) g = leftOf t (exOf more) f ∧ freeO s4 = true ∧ freeO s5 = true ∧ ρ = [.dat (tsD t), .dat d, .dat (moD more), .dat (flD g), s4, s5, .un]) f.length ⟨f, .un, .un, rfl, hf, rfl, rfl, rfl, rfl⟩ ?_
  rintro m _ ⟨g, s4, s5, rfl, hg, e, f4, f5, rfl⟩
  refine mT_true ?_
  refine iteY (b := true) rfl ?_
  refine seq_to [.dat (tsD t), .dat d, .dat (moD more), .dat (flD g), .dat (.dict (dS fr (sharesOf t g))), s5, .un] (fun K q => ?_) ?_
  · refine ⟨t, flD g, g, ht, hg, rfl, rfl, ?_⟩
    exact gn_free (i := 4) f4 q
  have keys : (sharesOf t g).map (·.1) = g.map (·.name) := sharesOf_names t g
  refine seq_to [.dat (tsD t), .dat d, .dat (moD more), .dat (flD g), .dat (.dict (dS fr (sharesOf t g))), .dat (flD (lstep t (exOf more) g)), .un] (fun K q => ?_) ?_
  · refine lcL oD g (pays t (exOf more) g) oD ?_ ?_
    · exact gn_free (i := 5) f5 q
    · intro o ho Ky Kn q1 q2
      have eg := share_get (t' := t) hg ho
      refine ixd_dict eg ?_
      have vo := hg.on o ho
      have bs := share_b200 ht hg ho
      refine ⟨o, share t g o, more, bs, vo.wo.1, vo.wo.2, hm, rfl, ?_⟩
      rw [pays_is] at q1 q2
      exact iteB q1 q2
  refine seq_by (fun ρ' => (lstep t (exOf more) g).length ≠ g.length ∧ ρ' = [.dat (tsD t), .dat d, .dat (moD more), .dat (flD g), .dat (.dict (dS fr (sharesOf t g))), .dat (flD (lstep t (exOf more) g)), .un]) (fun K q => ?_) ?_
  · refine eq_dat (α := Int) (a := ((lstep t (exOf more) g).map oD).length) (b := (g.map oD).length) ?_
    refine iteB (fun hb => ?_) (fun hb => ?_)
    · have hb := of_decide_eq_true hb
      rw [List.length_map, List.length_map] at hb
      have same : leftOf t (exOf more) g = g := leftOf_same (by omega)
      rw [← e, same] at h
      exact h
    · have hb := of_decide_eq_false hb
      rw [List.length_map, List.length_map] at hb
      exact q _ ⟨fun z => hb (by rw [z]), rfl⟩
  rintro _ ⟨hne, rfl⟩
  have sl := (lstep_sub (t := t) (ex := exOf more) g).length_le
  exact ⟨(lstep t (exOf more) g).length, by omega, lstep t (exOf more) g, _, _, rfl, hg.sub (lstep_sub g), by rw [← leftOf_step hne, e], rfl, rfl, rfl⟩
/-! ### left -/
theorem pure_left (ss : List Sl) (R) (RE) (h : p_left ss R RE) : b_left p_need_folk p_names_of p_left_of ss R RE := by
  obtain ⟨t, f, ht, hf, rfl, h⟩ := h
  refine ⟨rfl, noOwn_dat (noOwn_dat noOwn_nil), t, f, ht, hf, rfl, ?_⟩
  refine ⟨t, _, f, [], ht, hf, moOk_nil, rfl, rfl, ?_⟩
  exact ⟨_, leftOf t (exOf []) f, rfl, rfl, h⟩
/-! ### _law_said -/
theorem pure__law_said (ss : List Sl) (R) (RE) (h : p__law_said ss R RE) : b__law_said ss R RE := by
  obtain ⟨f, x, w, rfl, h⟩ := h
  refine ⟨rfl, noOwn_dat (noOwn_dat (noOwn_dat noOwn_nil)), ?_⟩
  refine lcA oD f (fun o => oD (sayW x w o)) ?_ ?_
  · have e : f.map (fun o => oD (sayW x w o)) = (f.map (sayW x w)).map oD := by rw [List.map_map]; rfl
    rw [e]
    exact h
  · intro o ho Ky q
    refine eq_dat (α := Str) (a := o.name) (b := x) ?_
    refine iteB (fun hb => ?_) (fun hb => ?_)
    · have hb := of_decide_eq_true hb
      unfold sayW at q
      rw [if_pos hb] at q
      exact ⟨(by show 3 ≤ 2 ^ 24; decide), (by show 4 ≤ 2 ^ 24; decide), q⟩
    · have hb := of_decide_eq_false hb
      unfold sayW at q
      rw [if_neg hb] at q
      exact q
end K51


set_option Elab.async false
set_option maxRecDepth 100000
set_option maxHeartbeats 1000000
/-! MSO: sorted from any order; equal to itself. -/
namespace G
open PySem PySem.Spec PyProof.Rows L2
open PySem.W (Datum)
theorem pw_or {α : Type} {R : α → α → Prop} : ∀ {l : List α}, l.Pairwise R → ∀ a ∈ l, ∀ b ∈ l, a = b ∨ R a b ∨ R b a
  | x :: l, .cons h k, a, ha, b, hb => by
    rcases List.mem_cons.mp ha with e1 | h1
    · rcases List.mem_cons.mp hb with e2 | h2
      · exact .inl (e1.trans e2.symm)
      · exact .inr (.inl (by rw [e1]; exact h b h2))
    · rcases List.mem_cons.mp hb with e2 | h2
      · exact .inr (.inr (by rw [e2]; exact h a h1))
      · exact pw_or k a h1 b h2
theorem sortD_perm {ds es : List PyData} (p : ds.Perm es) (h : es.Pairwise fun a b => PySem.W.dataLt a b = true) : sortD ds = es := by
  unfold sortD
  have T : PySem.W.TotalLe (PySem.W.dataLe false (fun d : PyData => d)) := PySem.W.sortLe_total _ _ _
  have pm := (List.mergeSort_perm ds (PySem.W.dataLe false fun d : PyData => d)).trans p
  have key : ∀ a b : PyData, PySem.W.dataLe false (fun d : PyData => d) a b = !PySem.W.dataLt b a := fun a b => rfl
  refine List.Perm.eq_of_pairwise (le := fun a b => PySem.W.dataLe false (fun d : PyData => d) a b = true) (fun a b ha hb h1 h2 => ?_) (List.pairwise_mergeSort T.trans (fun a b => by have := T.total a b; simpa using this) ds) (h.imp fun {a b} q => ?_) pm
  · rw [key] at h1 h2
    rcases pw_or h a (pm.subset ha) b hb with e | e | e
    · exact e
    · rw [e] at h2; cases h2
    · rw [e] at h1; cases h1
  · rw [key]
    have T2 := T.total a b
    rw [key, key, q] at T2
    rcases T2 with e | e
    · exact e
    · cases e
theorem lt_tup {a b : Str} (h : Lt a b) (xs ys : List PyData) : PySem.W.dataLt (.tuple (.str a :: xs)) (.tuple (.str b :: ys)) = true := by
  have e : PyData.eqv (.str a) (.str b) = false := (Datum.eqv (α := Str) a b).trans (decide_eq_false fun e => by subst e; exact h.irr)
  rw [PySem.W.dataLt_tuple, PySem.W.dataLt_all_no (by simp [PySem.W.alike]) e, PySem.W.dataLt_str]
  exact decide_eq_true h
theorem sort_by {α : Type} {v : α → PyData} {k : α → Str} (hv : ∀ a b, Lt (k a) (k b) → PySem.W.dataLt (v a) (v b) = true) {l m : List α} (p : l.Perm m) (up : Rising (m.map k)) : sortD (l.map v) = m.map v := by
  refine sortD_perm (p.map v) ?_
  rw [List.pairwise_map]
  have h := up.pw
  rw [List.pairwise_map] at h
  exact h.imp fun {a b} q => hv a b q
theorem lt_sD (a b : Str) (h : Lt a b) : PySem.W.dataLt (sD a) (sD b) = true := by
  unfold sD
  rw [PySem.W.dataLt_str]
  exact decide_eq_true h
theorem lt_tD (a b : Str × Int) (h : Lt a.1 b.1) : PySem.W.dataLt (tD a) (tD b) = true := lt_tup h _ _
theorem lt_oD (a b : One) (h : Lt a.name b.name) : PySem.W.dataLt (oD a) (oD b) = true := lt_tup h _ _
theorem lt_pD {β : Type} (v : β → PyData) (a b : Str × β) (h : Lt a.1 b.1) : PySem.W.dataLt (pD v a) (pD v b) = true := lt_tup h _ _
theorem alike_ss (l m : List Str) : PySem.W.alikeAll (l.map sD) (m.map sD) = true := by
  induction l generalizing m with
  | nil => cases m <;> simp [PySem.W.alikeAll]
  | cons x l ih =>
    cases m with
    | nil => simp [PySem.W.alikeAll]
    | cons y m =>
      show PySem.W.alikeAll (.str x :: l.map sD) (.str y :: m.map sD) = true
      simp only [PySem.W.alikeAll, PySem.W.alike, ih, Bool.and_self]
theorem sortOk_ones {l : List One} (hl : l.length ≤ 1000) : SortOk (l.map oD) := by
  refine ⟨fun d hd e he => ?_, .inl fun d hd => ?_, fun d hd => ?_, by rw [List.length_map]; exact hl⟩
  · obtain ⟨p, _, rfl⟩ := List.mem_map.mp hd
    obtain ⟨q, _, rfl⟩ := List.mem_map.mp he
    show PySem.W.alike (.tuple [.str p.name, .tuple (p.wants.map sD), .int p.worth, .int p.weight]) (.tuple [.str q.name, .tuple (q.wants.map sD), .int q.worth, .int q.weight]) = true
    simp only [PySem.W.alike, PySem.W.alikeAll, alike_ss, Bool.and_self]
  · obtain ⟨p, _, rfl⟩ := List.mem_map.mp hd
    exact ⟨_, _, rfl⟩
  · obtain ⟨p, _, rfl⟩ := List.mem_map.mp hd
    exact Nat.le_trans (Datum.depth_le (α := One) p) (by decide)
def Slf (d : PyData) : Prop := Gd 59 d ∧ PyData.eqv d d = true
theorem eqvAll_self : ∀ {xs : List PyData}, (∀ x ∈ xs, PyData.eqv x x = true) → PyData.eqvAll xs xs = true
  | [], _ => by simp [PyData.eqvAll]
  | x :: xs, h => by rw [PyData.eqvAll, h x List.mem_cons_self, eqvAll_self fun y hy => h y (List.mem_cons_of_mem _ hy)]; rfl
theorem slf_dat {α : Type} [DecidableEq α] [Datum α] (a : α) (h : Datum.depth α ≤ 59 := by decide) : Slf (Datum.toD a) :=
  ⟨⟨Datum.plain a, Nat.le_trans (Datum.depth_le a) h⟩, by rw [Datum.eqv]; exact decide_eq_true rfl⟩
theorem eq_self {xs : List PyData} (h : ∀ x ∈ xs, Slf x) {R : Bool → Prop} (q : R true) : eqD (.list xs) (.list xs) R := by
  rw [eqD_is]
  have e : PyData.eqv (.list xs) (.list xs) = true := by rw [PyData.eqv]; exact eqvAll_self fun x hx => (h x hx).2
  exact ⟨gd_list fun x hx => (h x hx).1, gd_list fun x hx => (h x hx).1, by rw [e]; exact q⟩
theorem ne_self {xs : List PyData} (h : ∀ x ∈ xs, Slf x) {R : Bool → Prop} (q : R false) : neD (.list xs) (.list xs) R := by
  rw [neD_is]
  have e : PyData.eqv (.list xs) (.list xs) = true := by rw [PyData.eqv]; exact eqvAll_self fun x hx => (h x hx).2
  exact ⟨gd_list fun x hx => (h x hx).1, gd_list fun x hx => (h x hx).1, by rw [e]; exact q⟩
theorem slf_nsT (l : List Str) : Slf (nsT l) := slf_dat (α := PySem.W.Tup Str) ⟨l⟩
theorem slf_fr (q : Rat) : Slf (fr q) := slf_dat (α := Rat) q
theorem slf_rows (l : List (Str × Rat)) : Slf (.list (l.map (pD fr))) := slf_dat (α := List (Str × Rat)) l
end G


set_option Elab.async false
set_option maxRecDepth 100000
set_option maxHeartbeats 1000000
/-! M51: books: their rows, deeds and what comes of these. -/
namespace G
open PySem PySem.Spec PyProof.Rows L2
open PySem.W (Datum)
abbrev Rw := List (Str × Int) × List One
def rwD (r : Rw) : PyData := .tuple [tsD r.1, fsD r.2]
def rsD (rs : List Rw) : PyData := .list (rs.map rwD)
def candD : Option One → PyData
  | none => .none
  | some o => oD o
inductive Deed where
  | come (c : Option One)
  | go (d : PyData)
  | say (d w : PyData)
  | price (d c : PyData)
  | back
def deedD : Deed → PyData
  | .come c => .tuple [.str "come", candD c]
  | .go d => .tuple [.str "go", d]
  | .say d w => .tuple [.str "say", d, w]
  | .price d c => .tuple [.str "price", d, c]
  | .back => .tuple [.str "back"]
def wantB (t : List (Str × Int)) (o : One) : Bool := (o.wants.all fun x => decide (x ∈ t.map (·.1))) && !decide (o.wants = [])
def candB (t : List (Str × Int)) : Option One → Bool
  | none => false
  | some o => wantB t o && onB o
def nmIn (d : PyData) (l : List Str) : Bool := match d with
  | .str x => decide (x ∈ l)
  | _ => false
def wholeB (d : PyData) (lo hi : Int) : Bool := match d with
  | .int i => decide (lo ≤ i ∧ i ≤ hi)
  | _ => false
def strOf : PyData → Str
  | .str x => x
  | _ => ""
def numOf : PyData → Int
  | .int i => i
  | _ => 0
def costC (x : Str) (c : Int) (p : Str × Int) : Str × Int := (p.1, if p.1 = x then c else p.2)
open Classical in
noncomputable def insO (o : One) : List One → List One
  | [] => [o]
  | p :: r => if Lt p.name o.name then p :: insO o r else o :: p :: r
inductive Out where
  | no (nm word : Str)
  | yes (r : Rw)
noncomputable def act (r : Rw) : Deed → Out
  | .come none => .no "NoOne" "one"
  | .come (some o) => if candB r.1 (some o) = true then (if o.name ∈ nmsOf r.2 then .no "Taken" "taken" else if r.2.length = 8 then .no "Full" "full" else .yes (r.1, insO o r.2)) else .no "NoOne" "one"
  | .go d => if nmIn d (nmsOf r.2) = true then .yes (r.1, r.2.filter fun o => !decide (o.name = strOf d)) else .no "NotThere" "gone"
  | .say d w => if nmIn d (nmsOf r.2) = true then (if wholeB w 0 1000 = true then .yes (r.1, r.2.map (sayW (strOf d) (numOf w))) else .no "NoWorth" "worth") else .no "NotThere" "gone"
  | .price d c => if nmIn d (r.1.map (·.1)) = true then (if wholeB c 0 1000 = true then .yes (r.1.map (costC (strOf d) (numOf c)), r.2) else .no "NoCost" "cost") else .no "NoThing" "thing"
  | .back => .no "NothingLeft" "back"
noncomputable def doneW (rs : List Rw) (r : Rw) (dd : Deed) : PyData := match dd with
  | .back => if rs.length = 1 then .str "back" else .none
  | dd => match act r dd with
    | .no _ w => .str w
    | .yes _ => .none
noncomputable def doneR (rs : List Rw) (r : Rw) (dd : Deed) : List Rw := match dd with
  | .back => if rs.length = 1 then rs else rs.dropLast
  | dd => match act r dd with
    | .no _ _ => rs
    | .yes r' => rs ++ [r']
def CandOk : Option One → Prop
  | none => True
  | some o => Name o.name ∧ Rising o.wants ∧ o.wants.length ≤ 1000
def NmD (d : PyData) : Prop := (∃ x, d = .str x) ∨ d = .none ∨ ∃ i, d = .int i
def NuD (d : PyData) : Prop := (∃ i, d = .int i) ∨ (∃ b, d = .bool b) ∨ d = .none
def DeedOk : Deed → Prop
  | .come c => CandOk c
  | .go d => NmD d
  | .say d w => NmD d ∧ NuD w
  | .price d c => NmD d ∧ NuD c
  | .back => True
def RwOk (r : Rw) : Prop := VT r.1 ∧ VF r.1 r.2
/-! ### what comes of a deed stands -/
theorem lt_or {a b : Str} (h : a ≠ b) : Lt a b ∨ Lt b a := by
  by_cases q : Lt b a
  · exact .inr q
  · exact .inl (lt_of_le_ne (le_of_not.mpr q) h)
theorem insO_perm (o : One) : ∀ f : List One, (f ++ [o]).Perm (insO o f)
  | [] => .refl _
  | p :: r => by
    unfold insO
    split
    · exact (insO_perm o r).cons p
    · exact (List.perm_append_comm (l₁ := p :: r) (l₂ := [o]))
theorem insO_mem {o x : One} {f : List One} : x ∈ insO o f ↔ x = o ∨ x ∈ f := by
  rw [← (insO_perm o f).mem_iff]
  simp [or_comm]
theorem insO_up {o : One} : ∀ {f : List One}, Rising (nmsOf f) → o.name ∉ nmsOf f → Rising (nmsOf (insO o f)) := by
  intro f h n
  refine Rising.of ?_
  have hp := h.pw
  unfold nmsOf at hp n ⊢
  rw [List.pairwise_map] at hp ⊢
  clear h
  induction f with
  | nil => exact List.pairwise_singleton _ _
  | cons p r ih =>
    rw [List.pairwise_cons] at hp
    have np : p.name ≠ o.name := fun z => n (by rw [← z]; simp)
    have nr : o.name ∉ r.map (·.name) := fun z => n (List.mem_cons_of_mem _ z)
    unfold insO
    split
    · rename_i q
      rw [List.pairwise_cons]
      refine ⟨fun x hx => ?_, ih nr hp.2⟩
      rcases insO_mem.mp hx with rfl | hx
      · exact q
      · exact hp.1 x hx
    · rename_i q
      have q2 : Lt o.name p.name := (lt_or np).resolve_left q
      rw [List.pairwise_cons]
      refine ⟨fun x hx => ?_, List.pairwise_cons.mpr hp⟩
      rcases List.mem_cons.mp hx with rfl | hx
      · exact q2
      · exact q2.trans (hp.1 x hx)
theorem insO_sort (o : One) (f : List One) (h : Rising (nmsOf f)) (n : o.name ∉ nmsOf f) : sortD ((f ++ [o]).map oD) = (insO o f).map oD :=
  sort_by (k := fun o : One => o.name) lt_oD (insO_perm o f) (insO_up h n)
theorem cand_vo {t : List (Str × Int)} {o : One} (k : CandOk (some o)) (h : candB t (some o) = true) : VO t o := by
  unfold candB wantB at h
  obtain ⟨h1, h2⟩ := (Bool.and_eq_true _ _).mp h
  obtain ⟨h3, h4⟩ := (Bool.and_eq_true _ _).mp h1
  refine WO.v ⟨k.1, fun x hx => of_decide_eq_true (List.all_eq_true.mp h3 x hx), k.2.1, fun z => ?_⟩ h2
  rw [decide_eq_true z] at h4
  cases h4
theorem vo_cand {t : List (Str × Int)} {o : One} (h : VO t o) : candB t (some o) = true := by
  show (wantB t o && onB o) = true
  rw [h.b, Bool.and_true]
  unfold wantB
  refine (Bool.and_eq_true _ _).mpr ⟨List.all_eq_true.mpr fun x hx => decide_eq_true (h.ws x hx), ?_⟩
  rw [decide_eq_false h.ne]; rfl
theorem whole_is {d : PyData} {lo hi : Int} (h : wholeB d lo hi = true) : d = .int (numOf d) ∧ lo ≤ numOf d ∧ numOf d ≤ hi := by
  unfold wholeB at h
  split at h
  · exact ⟨rfl, of_decide_eq_true h⟩
  · cases h
theorem nmIn_is {d : PyData} {l : List Str} (h : nmIn d l = true) : d = .str (strOf d) ∧ strOf d ∈ l := by
  unfold nmIn at h
  split at h
  · exact ⟨rfl, of_decide_eq_true h⟩
  · cases h
theorem act_ok {r r' : Rw} {dd : Deed} (hr : RwOk r) (hd : DeedOk dd) (h : act r dd = .yes r') : RwOk r' := by
  obtain ⟨ht, hf⟩ := hr
  cases dd with
  | come c =>
    cases c with
    | none => cases h
    | some o =>
      have h : (if candB r.1 (some o) = true then (if o.name ∈ nmsOf r.2 then Out.no "Taken" "taken" else if r.2.length = 8 then .no "Full" "full" else .yes (r.1, insO o r.2)) else .no "NoOne" "one") = .yes r' := h
      split at h
      · rename_i hc
        split at h
        · cases h
        · rename_i hn
          split at h
          · cases h
          · rename_i hl
            cases h
            have vo := cand_vo hd hc
            refine ⟨ht, ?_, fun x hx => ?_, insO_up hf.up hn⟩
            · have := (insO_perm o r.2).length_eq
              rw [List.length_append] at this
              have := hf.le
              show (insO o r.2).length ≤ 8
              simp only [List.length_cons, List.length_nil] at *
              omega
            · rcases insO_mem.mp hx with rfl | hx
              · exact vo
              · exact hf.on x hx
      · cases h
  | go d =>
    have h : (if nmIn d (nmsOf r.2) = true then Out.yes (r.1, r.2.filter fun o => !decide (o.name = strOf d)) else .no "NotThere" "gone") = .yes r' := h
    split at h
    · cases h
      exact ⟨ht, hf.sub List.filter_sublist⟩
    · cases h
  | say d w =>
    have h : (if nmIn d (nmsOf r.2) = true then (if wholeB w 0 1000 = true then Out.yes (r.1, r.2.map (sayW (strOf d) (numOf w))) else .no "NoWorth" "worth") else .no "NotThere" "gone") = .yes r' := h
    split at h
    · split at h
      · rename_i hw
        cases h
        obtain ⟨_, h1, h2⟩ := whole_is hw
        refine ⟨ht, by rw [List.length_map]; exact hf.le, fun x hx => ?_, ?_⟩
        · obtain ⟨o, ho, rfl⟩ := List.mem_map.mp hx
          have v := hf.on o ho
          refine ⟨by rw [sayW_name]; exact v.nm, by rw [sayW_wants]; exact v.ws, by rw [sayW_wants]; exact v.up, by rw [sayW_wants]; exact v.ne, ?_, by rw [sayW_weight]; exact v.we⟩
          unfold sayW
          split
          · exact ⟨h1, h2⟩
          · exact v.wo
        · have e : (r.2.map (sayW (strOf d) (numOf w))).map (·.name) = r.2.map (·.name) := by
            rw [List.map_map]; exact List.map_congr_left fun o _ => sayW_name _ _ o
          show Rising ((r.2.map (sayW (strOf d) (numOf w))).map (·.name))
          rw [e]; exact hf.up
      · cases h
    · cases h
  | price d c =>
    have h : (if nmIn d (r.1.map (·.1)) = true then (if wholeB c 0 1000 = true then Out.yes (r.1.map (costC (strOf d) (numOf c)), r.2) else .no "NoCost" "cost") else .no "NoThing" "thing") = .yes r' := h
    split at h
    · split at h
      · rename_i hw
        cases h
        obtain ⟨_, h1, h2⟩ := whole_is hw
        have e : (r.1.map (costC (strOf d) (numOf c))).map (·.1) = r.1.map (·.1) := by
          rw [List.map_map]; rfl
        refine ⟨⟨by rw [List.length_map]; exact ht.le, fun p hp => ?_, fun p hp => ?_, by rw [e]; exact ht.up⟩, hf.le, fun o ho => ?_, hf.up⟩
        · obtain ⟨q, hq, rfl⟩ := List.mem_map.mp hp
          exact ht.nm q hq
        · obtain ⟨q, hq, rfl⟩ := List.mem_map.mp hp
          unfold costC
          dsimp only
          split
          · exact ⟨h1, h2⟩
          · exact ht.co q hq
        · have v := hf.on o ho
          exact ⟨v.nm, fun x hx => by rw [e]; exact v.ws x hx, v.up, v.ne, v.wo, v.we⟩
      · cases h
    · cases h
  | back => cases h
end G


set_option Elab.async false
set_option maxRecDepth 100000
set_option maxHeartbeats 1000000
/-! RA_K51: the guards where anything may come. -/
namespace G
open PySem PySem.Spec PyProof.Rows L2
open PySem.W (Datum)
def r_is_whole : PSp := fun ss R _ => ∃ d lo hi, NuD d ∧ ss = [.dat d, .dat (.int lo), .dat (.int hi)] ∧ R (.bool (wholeB d lo hi)) ss
def r_is_number : PSp := fun ss R _ => ∃ d, NuD d ∧ ss = [.dat d] ∧ R (.bool (wholeB d 0 1000)) ss
def r_are_of : PSp := fun ss R _ => ∃ ns l, Rising l ∧ l.length ≤ 1000 ∧ ss = [.dat (nsL ns), .dat (nsT l)] ∧ R (.bool (l.all fun x => decide (x ∈ ns))) ss
def r_is_one : PSp := fun ss R _ => ∃ t c, CandOk c ∧ ss = [.dat (tsD t), .dat (candD c)] ∧ R (.bool (candB t c)) ss
def r_are_folk_of : PSp := fun ss R _ => (∃ t f, VT t ∧ VF t f ∧ ss = [.dat (tsD t), .dat (fsD f)] ∧ R (.bool true) ss) ∨ ∃ t c, CandOk c ∧ ss = [.dat (tsD t), .dat (.tuple [candD c])] ∧ R (.bool (candB t c)) ss
def r_are_folk : PSp := fun ss R _ => ∃ t c, VT t ∧ CandOk c ∧ ss = [.dat (tsD t), .dat (.tuple [candD c])] ∧ R (.bool (candB t c)) ss
theorem w_is_whole (ss : List Sl) (R) (RE) (h : p_is_whole ss R RE) : r_is_whole ss R RE := by
  obtain ⟨i, lo, hi, h1, h2, rfl, h⟩ := h
  exact ⟨_, lo, hi, .inl ⟨i, rfl⟩, rfl, by rw [show wholeB (.int i) lo hi = true from decide_eq_true ⟨h1, h2⟩]; exact h⟩
theorem w_is_number (ss : List Sl) (R) (RE) (h : p_is_number ss R RE) : r_is_number ss R RE := by
  obtain ⟨i, h1, h2, rfl, h⟩ := h
  exact ⟨_, .inl ⟨i, rfl⟩, rfl, by rw [show wholeB (.int i) 0 1000 = true from decide_eq_true ⟨h1, h2⟩]; exact h⟩
theorem w_are_of (ss : List Sl) (R) (RE) (h : p_are_of ss R RE) : r_are_of ss R RE := by
  obtain ⟨ns, l, h1, h2, h3, rfl, h⟩ := h
  exact ⟨ns, l, h2, h3, rfl, by rw [List.all_eq_true.mpr fun x hx => decide_eq_true (h1 x hx)]; exact h⟩
theorem w5_are_folk_of (ss : List Sl) (R) (RE) (h : p_are_folk_of ss R RE) : r_are_folk_of ss R RE := .inl h
end G
namespace K51
open PySem PySem.Spec PyProof.Rows L2 G
open PySem.W (Datum)
theorem r5_is_whole (ss : List Sl) (R) (RE) (h : r_is_whole ss R RE) : b_is_whole ss R RE := by
  obtain ⟨d, lo, hi, hd, rfl, h⟩ := h
  refine ⟨rfl, noOwn_dat (noOwn_dat (noOwn_dat noOwn_nil)), ?_⟩
  rcases hd with ⟨i, rfl⟩ | ⟨b, rfl⟩ | rfl
  · refine iteB (fun h1 => ?_) (fun h1 => ?_)
    · show R (.bool (decide (i ≤ hi))) _
      have e : wholeB (.int i) lo hi = decide (i ≤ hi) := decide_eq_decide.mpr ⟨fun z => z.2, fun z => ⟨of_decide_eq_true h1, z⟩⟩
      rw [e] at h
      exact h
    · show R (.bool false) _
      have e : wholeB (.int i) lo hi = false := decide_eq_false fun z => of_decide_eq_false h1 z.1
      rw [e] at h
      exact h
  · exact h
  · exact h
theorem r5__law_is_int (ss : List Sl) (R) (RE) (h : r_is_whole ss R RE) : b__law_is_int ss R RE := by
  obtain ⟨d, lo, hi, hd, rfl, h⟩ := h
  refine ⟨rfl, noOwn_dat (noOwn_dat (noOwn_dat noOwn_nil)), ?_⟩
  rcases hd with ⟨i, rfl⟩ | ⟨b, rfl⟩ | rfl
  · refine iteB (fun h1 => ?_) (fun h1 => ?_)
    · show R (.bool (decide (i ≤ hi))) _
      have e : wholeB (.int i) lo hi = decide (i ≤ hi) := decide_eq_decide.mpr ⟨fun z => z.2, fun z => ⟨of_decide_eq_true h1, z⟩⟩
      rw [e] at h
      exact h
    · show R (.bool false) _
      have e : wholeB (.int i) lo hi = false := decide_eq_false fun z => of_decide_eq_false h1 z.1
      rw [e] at h
      exact h
  · exact h
  · exact h
theorem r5_is_number (ss : List Sl) (R) (RE) (h : r_is_number ss R RE) : b_is_number r_is_whole ss R RE := by
  obtain ⟨d, hd, rfl, h⟩ := h
  exact ⟨rfl, noOwn_dat noOwn_nil, d, 0, 1000, hd, rfl, h⟩
theorem r5_are_of (ss : List Sl) (R) (RE) (h : r_are_of ss R RE) : b_are_of p_are_rising ss R RE := by
  obtain ⟨ns, l, h2, h3, rfl, h⟩ := h
  refine ⟨rfl, noOwn_dat (noOwn_dat noOwn_nil), ?_⟩
  refine lcA sD l (fun x => .bool (decide (x ∈ ns))) ?_ ?_
  · refine all_say l (fun x => decide (x ∈ ns)) ?_
    cases hb : l.all fun x => decide (x ∈ ns) with
    | false =>
      rw [hb] at h
      exact h
    | true =>
      rw [hb] at h
      exact ⟨_, l, h2, h3, .inr rfl, rfl, h⟩
  · intro x hx Ky q
    refine in_lst (α := Str) ?_
    rw [Bool.false_xor]
    exact q
theorem r5_is_one (ss : List Sl) (R) (RE) (h : r_is_one ss R RE) : b_is_one p_is_name r_are_of r_is_number r_is_whole ss R RE := by
  obtain ⟨t, c, hc, rfl, h⟩ := h
  refine ⟨rfl, noOwn_dat (noOwn_dat noOwn_nil), ?_⟩
  cases c with
  | none => exact h
  | some o =>
    refine ne_dat (α := Int) (a := 4) (b := 4) ?_
    refine ⟨o.name, hc.1, rfl, ?_⟩
    refine lcA tD t (fun p => sD p.1) ?_ ?_
    · rw [map_sD]
      refine ⟨t.map (·.1), o.wants, hc.2.1, hc.2.2, rfl, ?_⟩
      have h : R (.bool (((o.wants.all fun x => decide (x ∈ t.map (·.1))) && !decide (o.wants = [])) && onB o)) [.dat (tsD t), .dat (oD o)] := h
      cases hb : o.wants.all fun x => decide (x ∈ t.map (·.1)) with
      | false =>
        rw [hb] at h
        exact h
      | true =>
        rw [hb, Bool.true_and] at h
        refine eq_dat (α := PySem.W.Tup Str) (a := ⟨o.wants⟩) (b := ⟨[]⟩) ?_
        refine iteB (fun e => ?_) (fun e => ?_)
        · have e := congrArg PySem.W.Tup.items (of_decide_eq_true e)
          rw [decide_eq_true (show o.wants = [] from e)] at h
          exact h
        · have e : ¬ o.wants = [] := fun z => of_decide_eq_false e (by rw [z])
          rw [decide_eq_false e] at h
          have h : R (.bool (decide (0 ≤ o.worth ∧ o.worth ≤ 1000) && decide (1 ≤ o.weight ∧ o.weight ≤ 9))) [.dat (tsD t), .dat (oD o)] := h
          refine ⟨.int o.worth, .inl ⟨_, rfl⟩, rfl, ?_⟩
          refine iteB (fun hb => ?_) (fun hb => ?_)
          · rw [show decide (0 ≤ o.worth ∧ o.worth ≤ 1000) = true from hb, Bool.true_and] at h
            exact ⟨.int o.weight, 1, 9, .inl ⟨_, rfl⟩, rfl, h⟩
          · rw [show decide (0 ≤ o.worth ∧ o.worth ≤ 1000) = false from hb] at h
            exact h
    · intro p hp Ky q
      exact q
theorem r5_are_folk_of (ss : List Sl) (R) (RE) (h : r_are_folk_of ss R RE) : b_are_folk_of r_is_one p_are_rising ss R RE := by
  rcases h with ⟨t, f, ht, hf, rfl, h⟩ | ⟨t, c, hc, rfl, h⟩
  · refine ⟨rfl, noOwn_dat (noOwn_dat noOwn_nil), ?_⟩
    have hl : (f.map oD).length = f.length := List.length_map _
    have h1 := hf.le
    refine iteNo (show decide ((8 : Int) < ((f.map oD).length : Nat)) = false from decide_eq_false (by omega)) ?_
    refine lcA oD f (fun _ => .bool true) ?_ ?_
    · refine all_yes f ?_
      refine lcA oD f (fun p => sD p.name) ?_ ?_
      · rw [map_sD]
        exact ⟨_, f.map (·.name), hf.up, by rw [List.length_map]; omega, .inl rfl, rfl, h⟩
      · intro p hp Ky q
        exact q
    · intro o ho Ky q
      have vo := hf.on o ho
      have hwl : o.wants.length ≤ 1000 := Nat.le_trans (nodup_len vo.up.nodup vo.ws) (by rw [List.length_map]; have := ht.le; omega)
      refine ⟨t, some o, ⟨vo.nm, vo.up, hwl⟩, rfl, ?_⟩
      rw [vo_cand vo]
      exact q
  · obtain ⟨l, hl⟩ : ∃ l, l = [c] := ⟨_, rfl⟩
    have es : ([.dat (tsD t), .dat (.tuple [candD c])] : List Sl) = [.dat (tsD t), .dat (.tuple (l.map candD))] := by rw [hl]; rfl
    rw [es] at h ⊢
    refine ⟨rfl, noOwn_dat (noOwn_dat noOwn_nil), ?_⟩
    have h1 : (l.map candD).length ≤ 8 := by rw [hl]; show 1 ≤ 8; decide
    refine iteNo (show decide ((8 : Int) < ((l.map candD).length : Nat)) = false from decide_eq_false (by omega)) ?_
    refine lcA candD l (fun c => .bool (candB t c)) ?_ ?_
    · refine all_say l (candB t) ?_
      have e : l.all (candB t) = candB t c := by rw [hl]; simp
      rw [e]
      cases hb : candB t c with
      | false =>
        rw [hb] at h
        exact h
      | true =>
        rw [hb] at h
        cases c with
        | none => cases hb
        | some o =>
          refine lcA candD l (fun p => sD o.name) ?_ ?_
          · exact ⟨_, [o.name], trivial, (by show 1 ≤ 1000; decide), .inl (by rw [hl]; rfl), rfl, h⟩
          · intro p hp Ky q
            rw [hl, List.mem_singleton] at hp
            subst hp
            exact q
    · intro c' hc' Ky q
      rw [hl, List.mem_singleton] at hc'
      subst hc'
      exact ⟨t, c', hc, rfl, q⟩
theorem r5_are_folk (ss : List Sl) (R) (RE) (h : r_are_folk ss R RE) : b_are_folk p_need_things r_are_folk_of ss R RE := by
  obtain ⟨t, c, ht, hc, rfl, h⟩ := h
  refine ⟨rfl, noOwn_dat (noOwn_dat noOwn_nil), ?_⟩
  exact ⟨t, ht, rfl, .inr ⟨t, c, hc, rfl, h⟩⟩
end K51


set_option Elab.async false
set_option maxRecDepth 100000
set_option maxHeartbeats 1000000
/-! RB_K51: the methods of a book. -/
namespace G
open PySem PySem.Spec PyProof.Rows L2
open PySem.W (Datum)
theorem outs_ob (a b : Addr) (d d' : PyData) (ss : List Sl) (ρ : Ms) : outs (.ob a b d :: ss) (.ob a b d' :: ρ) = .ob a b d' :: outs ss ρ := by simp [outs]
theorem noOwn_ob {a b : Addr} {d : PyData} {ss : List Sl} (h : NoOwn ss) : NoOwn (.ob a b d :: ss) := fun e m => by
  rcases List.mem_cons.mp m with q | q
  · cases q
  · exact h e q
theorem last_rs {rs : List Rw} {r : Rw} (h : rs.getLast? = some r) {K : PyData → Prop} (q : K (rwD r)) : (match (rs.map rwD).getLast? with
  | some d => K d
  | none => False) := by rw [List.getLast?_map, h]; exact q
theorem in_nm {d : PyData} {l : List Str} {neg : Bool} {R : Bool → Prop} (hd : NmD d) (q : R (neg ^^ nmIn d l)) : inD neg d (nsL l) R := by
  rcases hd with ⟨x, rfl⟩ | rfl | ⟨i, rfl⟩
  · exact in_lst (α := Str) q
  · rw [inD_is]
    have e : ((l.map sD).any fun y => PyData.eqv y .none) = false := by
      rw [List.any_eq_false]
      intro y hy
      obtain ⟨z, _, rfl⟩ := List.mem_map.mp hy
      simp [sD, PyData.eqv]
    refine ⟨gd_none, gd_dat (α := List Str) l, ?_⟩
    rw [e]
    exact q
  · rw [inD_is]
    have e : ((l.map sD).any fun y => PyData.eqv y (.int i)) = false := by
      rw [List.any_eq_false]
      intro y hy
      obtain ⟨z, _, rfl⟩ := List.mem_map.mp hy
      simp [sD, PyData.eqv]
    refine ⟨gd_int, gd_dat (α := List Str) l, ?_⟩
    rw [e]
    exact q
def outK (rs : List Rw) (o : Out) (R0 : List Rw → Prop) (RE : Str → Prop) : Prop := match o with
  | .no nm _ => RE nm
  | .yes r' => R0 (rs ++ [r'])
def p_Book_need_name : PSp := fun ss R RE => ∃ a b rs r d, rs.getLast? = some r ∧ NmD d ∧ ss = [.ob a b (rsD rs), .dat d] ∧ (nmIn d (nmsOf r.2) = true → R .none ss) ∧ (nmIn d (nmsOf r.2) = false → RE "NotThere")
def p_Book_come : PSp := fun ss R RE => ∃ a b rs r c, rs.getLast? = some r ∧ RwOk r ∧ CandOk c ∧ rs.length < 1000 ∧ ss = [.ob a b (rsD rs), .dat (candD c)] ∧ outK rs (act r (.come c)) (fun rs' => R .none [.ob a b (rsD rs'), .dat (candD c)]) RE
def p_Book_go : PSp := fun ss R RE => ∃ a b rs r d, rs.getLast? = some r ∧ RwOk r ∧ NmD d ∧ rs.length < 1000 ∧ ss = [.ob a b (rsD rs), .dat d] ∧ outK rs (act r (.go d)) (fun rs' => R .none [.ob a b (rsD rs'), .dat d]) RE
def p_Book_say : PSp := fun ss R RE => ∃ a b rs r d w, rs.getLast? = some r ∧ RwOk r ∧ NmD d ∧ NuD w ∧ rs.length < 1000 ∧ ss = [.ob a b (rsD rs), .dat d, .dat w] ∧ outK rs (act r (.say d w)) (fun rs' => R .none [.ob a b (rsD rs'), .dat d, .dat w]) RE
def p_Book_price : PSp := fun ss R RE => ∃ a b rs r d c, rs.getLast? = some r ∧ RwOk r ∧ NmD d ∧ NuD c ∧ rs.length < 1000 ∧ ss = [.ob a b (rsD rs), .dat d, .dat c] ∧ outK rs (act r (.price d c)) (fun rs' => R .none [.ob a b (rsD rs'), .dat d, .dat c]) RE
def p_Book_back : PSp := fun ss R RE => ∃ a b rs r, rs.getLast? = some r ∧ ss = [.ob a b (rsD rs)] ∧ (rs.length = 1 → RE "NothingLeft") ∧ (rs.length ≠ 1 → R .none [.ob a b (rsD rs.dropLast)])
def p_Book_things : PSp := fun ss R _ => ∃ a b rs r, rs.getLast? = some r ∧ ss = [.ob a b (rsD rs)] ∧ R (tsD r.1) ss
def p_Book_folk : PSp := fun ss R _ => ∃ a b rs r, rs.getLast? = some r ∧ ss = [.ob a b (rsD rs)] ∧ R (fsD r.2) ss
def p_Book___len__ : PSp := fun ss R _ => ∃ a b rs r, rs.getLast? = some r ∧ ss = [.ob a b (rsD rs)] ∧ R (.int r.2.length) ss
def p_Book_left : PSp := fun ss R _ => ∃ a b rs r, rs.getLast? = some r ∧ RwOk r ∧ ss = [.ob a b (rsD rs)] ∧ R (.list ((sharesOf r.1 (leftOf r.1 ex0 r.2)).map (pD fr))) ss
end G
namespace K51
open PySem PySem.Spec PyProof.Rows L2 G
open PySem.W (Datum)
theorem pure_Book_things (ss : List Sl) (R) (RE) (h : p_Book_things ss R RE) : b_Book_things ss R RE := by
  obtain ⟨a, b, rs, r, hl, rfl, h⟩ := h
  refine ⟨rfl, noOwn_ob noOwn_nil, last_rs hl ?_⟩
  show R (tsD r.1) (outs [.ob a b (rsD rs)] [.ob a b (rsD rs)])
  rw [outs_ob]
  exact h
theorem pure_Book_folk (ss : List Sl) (R) (RE) (h : p_Book_folk ss R RE) : b_Book_folk ss R RE := by
  obtain ⟨a, b, rs, r, hl, rfl, h⟩ := h
  refine ⟨rfl, noOwn_ob noOwn_nil, last_rs hl ?_⟩
  show R (fsD r.2) (outs [.ob a b (rsD rs)] [.ob a b (rsD rs)])
  rw [outs_ob]
  exact h
theorem pure_Book___len__ (ss : List Sl) (R) (RE) (h : p_Book___len__ ss R RE) : b_Book___len__ ss R RE := by
  obtain ⟨a, b, rs, r, hl, rfl, h⟩ := h
  refine ⟨rfl, noOwn_ob noOwn_nil, last_rs hl ?_⟩
  show R (.int ((r.2.map oD).length : Nat)) (outs [.ob a b (rsD rs)] [.ob a b (rsD rs)])
  rw [outs_ob, List.length_map]
  exact h
theorem pure_Book_need_name (ss : List Sl) (R) (RE) (h : p_Book_need_name ss R RE) : b_Book_need_name p_names_of ss R RE := by
  obtain ⟨a, b, rs, r, d, hl, hd, rfl, hy, hn⟩ := h
  refine ⟨rfl, noOwn_ob (noOwn_dat noOwn_nil), ?_⟩
  have e0 : outs [.ob a b (rsD rs), .dat d] [.ob a b (rsD rs), .dat d] = [.ob a b (rsD rs), .dat d] := by rw [outs_ob]; rfl
  have rest : ∀ R2 : Bool → Ms → Prop, R2 (true ^^ nmIn d (nmsOf r.2)) [.ob a b (rsD rs), .dat d] → mCmpB (inD true) (mVar 1) (mCall p_names_of Wish.no.RE (mCons (mIx (mLast 0) (mC (.int 1))) (mNil))) [.ob a b (rsD rs), .dat d] R2 := fun R2 q => by
    refine last_rs hl ?_
    refine ⟨_, r.2, rfl, rfl, ?_⟩
    exact in_nm hd q
  have tail : (if (true ^^ nmIn d (nmsOf r.2)) = true then RE "NotThere" ∧ outs [.ob a b (rsD rs), .dat d] [.ob a b (rsD rs), .dat d] = [.ob a b (rsD rs), .dat d] else R .none (outs [.ob a b (rsD rs), .dat d] [.ob a b (rsD rs), .dat d])) := by
    rw [e0]
    cases hb : nmIn d (nmsOf r.2) with
    | true => exact hy hb
    | false => exact ⟨hn hb, rfl⟩
  rcases hd with ⟨x, rfl⟩ | rfl | ⟨i, rfl⟩
  · exact rest _ tail
  · exact ⟨hn rfl, e0⟩
  · exact ⟨hn rfl, e0⟩
theorem pure_Book_back (ss : List Sl) (R) (RE) (h : p_Book_back ss R RE) : b_Book_back ss R RE := by
  obtain ⟨a, b, rs, r, hl, rfl, hz, hy⟩ := h
  refine ⟨rfl, noOwn_ob noOwn_nil, ?_⟩
  refine eq_dat (α := Int) (a := ((rs.map rwD).length : Nat)) (b := 1) ?_
  refine iteB (fun hb => ?_) (fun hb => ?_)
  · have hb := of_decide_eq_true hb
    rw [List.length_map] at hb
    exact ⟨hz (by omega), (outs_ob a b _ _ [] []).trans rfl⟩
  · have hb := of_decide_eq_false hb
    rw [List.length_map] at hb
    refine last_rs hl ?_
    show R .none (outs [.ob a b (rsD rs)] [.ob a b (.list (rs.map rwD).dropLast)])
    rw [outs_ob, ← List.map_dropLast]
    exact hy (by omega)
end K51


set_option Elab.async false
set_option maxRecDepth 100000
set_option maxHeartbeats 1000000
/-! RC_K51: the methods that change a book. -/
namespace K51
open PySem PySem.Spec PyProof.Rows L2 G
open PySem.W (Datum)
theorem rs_snoc (rs : List Rw) (r : Rw) : rsD (rs ++ [r]) = .list (rs.map rwD ++ [rwD r]) := by unfold rsD; rw [List.map_append]; rfl
theorem pure_Book_come (ss : List Sl) (R) (RE) (h : p_Book_come ss R RE) : b_Book_come r_is_one p_names_of ss R RE := by
  obtain ⟨a, b, rs, r, c, hl, hr, hc, hlen, rfl, h⟩ := h
  refine ⟨rfl, noOwn_ob (noOwn_dat noOwn_nil), ?_⟩
  have e0 : ∀ (d : PyData) (ρ : Ms) (s : Sl), outs [.ob a b (rsD rs), .dat (candD c)] (.ob a b d :: s :: ρ) = [.ob a b d, .dat (candD c)] := fun d ρ s => by rw [outs_ob]; rfl
  refine last_rs hl ?_
  refine ⟨r.1, c, hc, rfl, ?_⟩
  cases c with
  | none => exact ⟨h, e0 _ _ _⟩
  | some o =>
    have h : outK rs (if candB r.1 (some o) = true then (if o.name ∈ nmsOf r.2 then Out.no "Taken" "taken" else if r.2.length = 8 then .no "Full" "full" else .yes (r.1, insO o r.2)) else .no "NoOne" "one") (fun rs' => R .none [.ob a b (rsD rs'), .dat (candD (some o))]) RE := h
    refine iteB (fun hb => ?_) (fun hb => ?_)
    · have hb : candB r.1 (some o) = false := by simpa using hb
      rw [if_neg (by rw [hb]; exact Bool.false_ne_true)] at h
      exact ⟨h, e0 _ _ _⟩
    · have hb : candB r.1 (some o) = true := by simpa using hb
      rw [if_pos hb] at h
      refine ⟨fsD r.2, r.2, rfl, rfl, ?_⟩
      refine in_lst (α := Str) (a := o.name) (l := nmsOf r.2) ?_
      rw [Bool.false_xor]
      refine iteB (fun hn => ?_) (fun hn => ?_)
      · have hn := of_decide_eq_true hn
        rw [if_pos hn] at h
        exact ⟨h, e0 _ _ _⟩
      · have hn := of_decide_eq_false hn
        rw [if_neg hn] at h
        refine eq_dat (α := Int) (a := ((r.2.map oD).length : Nat)) (b := 8) ?_
        refine iteB (fun h8 => ?_) (fun h8 => ?_)
        · have h8 := of_decide_eq_true h8
          rw [List.length_map] at h8
          rw [if_pos (by omega)] at h
          exact ⟨h, e0 _ _ _⟩
        · have h8 := of_decide_eq_false h8
          rw [List.length_map] at h8
          rw [if_neg (by omega)] at h
          have h : R .none [.ob a b (rsD (rs ++ [(r.1, insO o r.2)])), .dat (candD (some o))] := h
          have e : sortD (r.2.map oD ++ [oD o]) = (insO o r.2).map oD := by
            have := insO_sort o r.2 hr.2.up hn
            rwa [List.map_append] at this
          have h1 := hr.2.le
          refine ⟨line1000 (by rw [List.length_map]; show r.2.length + 1 ≤ 1000; omega), ?_, ?_⟩
          · have := sortOk_ones (l := r.2 ++ [o]) (by rw [List.length_append]; show r.2.length + 1 ≤ 1000; omega)
            rwa [List.map_append] at this
          · refine ⟨by rw [List.length_map]; exact hlen, ?_⟩
            rw [rs_snoc] at h
            show R .none (outs [.ob a b (rsD rs), .dat (candD (some o))] (.ob a b (.list (rs.map rwD ++ [.tuple [tsD r.1, .tuple (sortD (r.2.map oD ++ [oD o]))]])) :: _ :: _))
            rw [e0, e]
            exact h
theorem pure_Book_go (ss : List Sl) (R) (RE) (h : p_Book_go ss R RE) : b_Book_go p_Book_need_name ss R RE := by
  obtain ⟨a, b, rs, r, d, hl, hr, hd, hlen, rfl, h⟩ := h
  refine ⟨rfl, noOwn_ob (noOwn_dat noOwn_nil), ?_⟩
  have e0 : ∀ (x : PyData) (ρ : Ms) (s : Sl), outs [.ob a b (rsD rs), .dat d] (.ob a b x :: s :: ρ) = [.ob a b x, .dat d] := fun x ρ s => by rw [outs_ob]; rfl
  have h : outK rs (if nmIn d (nmsOf r.2) = true then Out.yes (r.1, r.2.filter fun o => !decide (o.name = strOf d)) else .no "NotThere" "gone") (fun rs' => R .none [.ob a b (rsD rs'), .dat d]) RE := h
  refine ⟨a, b, rs, r, d, hl, hd, rfl, fun hn => ?_, fun hn => ?_⟩
  · rw [if_pos hn] at h
    have h : R .none [.ob a b (rsD (rs ++ [(r.1, r.2.filter fun o => !decide (o.name = strOf d))])), .dat d] := h
    obtain ⟨ed, _⟩ := nmIn_is hn
    obtain ⟨x, hx⟩ : ∃ x, x = strOf d := ⟨_, rfl⟩
    rw [← hx] at h ed
    subst ed
    refine ⟨rfl, ?_⟩
    refine last_rs hl ?_
    refine lcL oD r.2 (fun o => !decide (o.name = x)) oD ?_ ?_
    · refine ⟨by rw [List.length_map]; exact hlen, ?_⟩
      rw [rs_snoc] at h
      show R .none (outs [.ob a b (rsD rs), .dat (.str x)] (.ob a b (.list (rs.map rwD ++ [.tuple [tsD r.1, .tuple ((r.2.filter fun o => !decide (o.name = x)).map oD)]])) :: _ :: _))
      rw [e0]
      exact h
    · intro o ho Ky Kn q1 q2
      refine ne_dat (α := Str) (a := o.name) (b := x) ?_
      exact iteB (fun z => q1 z) (fun z => q2 z)
  · rw [if_neg (by rw [hn]; exact Bool.false_ne_true)] at h
    exact ⟨h, e0 _ _ _⟩
theorem pure_Book_say (ss : List Sl) (R) (RE) (h : p_Book_say ss R RE) : b_Book_say p_Book_need_name r_is_number ss R RE := by
  obtain ⟨a, b, rs, r, d, w, hl, hr, hd, hw, hlen, rfl, h⟩ := h
  refine ⟨rfl, noOwn_ob (noOwn_dat (noOwn_dat noOwn_nil)), ?_⟩
  have e0 : ∀ (x : PyData) (ρ : Ms) (s t : Sl), outs [.ob a b (rsD rs), .dat d, .dat w] (.ob a b x :: s :: t :: ρ) = [.ob a b x, .dat d, .dat w] := fun x ρ s t => by rw [outs_ob]; rfl
  have h : outK rs (if nmIn d (nmsOf r.2) = true then (if wholeB w 0 1000 = true then Out.yes (r.1, r.2.map (sayW (strOf d) (numOf w))) else .no "NoWorth" "worth") else .no "NotThere" "gone") (fun rs' => R .none [.ob a b (rsD rs'), .dat d, .dat w]) RE := h
  refine ⟨a, b, rs, r, d, hl, hd, rfl, fun hn => ?_, fun hn => ?_⟩
  · rw [if_pos hn] at h
    refine ⟨rfl, ?_⟩
    refine ⟨w, hw, rfl, ?_⟩
    refine iteB (fun hb => ?_) (fun hb => ?_)
    · have hb : wholeB w 0 1000 = false := by simpa using hb
      rw [if_neg (by rw [hb]; exact Bool.false_ne_true)] at h
      exact ⟨h, e0 _ _ _ _⟩
    · have hb : wholeB w 0 1000 = true := by simpa using hb
      rw [if_pos hb] at h
      have h : R .none [.ob a b (rsD (rs ++ [(r.1, r.2.map (sayW (strOf d) (numOf w)))])), .dat d, .dat w] := h
      obtain ⟨ed, _⟩ := nmIn_is hn
      obtain ⟨ew, _⟩ := whole_is hb
      obtain ⟨x, hx⟩ : ∃ x, x = strOf d := ⟨_, rfl⟩
      obtain ⟨i, hi⟩ : ∃ i, i = numOf w := ⟨_, rfl⟩
      rw [← hx] at h ed
      rw [← hi] at h ew
      subst ed
      subst ew
      refine last_rs hl ?_
      refine lcA oD r.2 (fun o => oD (sayW x i o)) ?_ ?_
      · refine ⟨by rw [List.length_map]; exact hlen, ?_⟩
        rw [rs_snoc] at h
        have e : r.2.map (fun o => oD (sayW x i o)) = (r.2.map (sayW x i)).map oD := by rw [List.map_map]; rfl
        show R .none (outs [.ob a b (rsD rs), .dat (.str x), .dat (.int i)] (.ob a b (.list (rs.map rwD ++ [.tuple [tsD r.1, .tuple (r.2.map fun o => oD (sayW x i o))]])) :: _ :: _ :: _))
        rw [e0, e]
        exact h
      · intro o ho Ky q
        refine eq_dat (α := Str) (a := o.name) (b := x) ?_
        refine iteB (fun hb => ?_) (fun hb => ?_)
        · have hb := of_decide_eq_true hb
          unfold sayW at q
          rw [if_pos hb] at q
          exact ⟨(by show 3 ≤ 2 ^ 24; decide), (by show 4 ≤ 2 ^ 24; decide), q⟩
        · have hb := of_decide_eq_false hb
          unfold sayW at q
          rw [if_neg hb] at q
          exact q
  · rw [if_neg (by rw [hn]; exact Bool.false_ne_true)] at h
    exact ⟨h, e0 _ _ _ _⟩
theorem pure_Book_price (ss : List Sl) (R) (RE) (h : p_Book_price ss R RE) : b_Book_price r_is_number ss R RE := by
  obtain ⟨a, b, rs, r, d, c, hl, hr, hd, hc, hlen, rfl, h⟩ := h
  refine ⟨rfl, noOwn_ob (noOwn_dat (noOwn_dat noOwn_nil)), ?_⟩
  have e0 : ∀ (x : PyData) (ρ : Ms) (s t : Sl), outs [.ob a b (rsD rs), .dat d, .dat c] (.ob a b x :: s :: t :: ρ) = [.ob a b x, .dat d, .dat c] := fun x ρ s t => by rw [outs_ob]; rfl
  have h : outK rs (if nmIn d (r.1.map (·.1)) = true then (if wholeB c 0 1000 = true then Out.yes (r.1.map (costC (strOf d) (numOf c)), r.2) else .no "NoCost" "cost") else .no "NoThing" "thing") (fun rs' => R .none [.ob a b (rsD rs'), .dat d, .dat c]) RE := h
  refine last_rs hl ?_
  rcases hd with ⟨x, rfl⟩ | rfl | ⟨j, rfl⟩
  · refine lcA tD r.1 (fun p => sD p.1) ?_ ?_
    · rw [map_sD]
      refine in_nm (l := r.1.map (·.1)) (.inl ⟨x, rfl⟩) ?_
      refine iteB (fun hn => ?_) (fun hn => ?_)
      · have hn : nmIn (.str x) (r.1.map (·.1)) = false := by simpa using hn
        rw [if_neg (by rw [hn]; exact Bool.false_ne_true)] at h
        exact ⟨h, e0 _ _ _ _⟩
      · have hn : nmIn (.str x) (r.1.map (·.1)) = true := by simpa using hn
        rw [if_pos hn] at h
        refine ⟨c, hc, rfl, ?_⟩
        refine iteB (fun hb => ?_) (fun hb => ?_)
        · have hb : wholeB c 0 1000 = false := by simpa using hb
          rw [if_neg (by rw [hb]; exact Bool.false_ne_true)] at h
          exact ⟨h, e0 _ _ _ _⟩
        · have hb : wholeB c 0 1000 = true := by simpa using hb
          rw [if_pos hb] at h
          obtain ⟨ec, _⟩ := whole_is hb
          obtain ⟨i, hi⟩ : ∃ i, i = numOf c := ⟨_, rfl⟩
          rw [← hi] at h ec
          subst ec
          have h : R .none [.ob a b (rsD (rs ++ [(r.1.map (costC x i), r.2)])), .dat (.str x), .dat (.int i)] := h
          refine lcA tD r.1 (fun p => tD (costC x i p)) ?_ ?_
          · refine ⟨by rw [List.length_map]; exact hlen, ?_⟩
            rw [rs_snoc] at h
            have e : r.1.map (fun p => tD (costC x i p)) = (r.1.map (costC x i)).map tD := by rw [List.map_map]; rfl
            show R .none (outs [.ob a b (rsD rs), .dat (.str x), .dat (.int i)] (.ob a b (.list (rs.map rwD ++ [.tuple [.tuple (r.1.map fun p => tD (costC x i p)), fsD r.2]])) :: _ :: _ :: _))
            rw [e0, e]
            exact h
          · intro p hp Ky q
            refine eq_dat (α := Str) (a := p.1) (b := x) ?_
            refine iteB (fun hb => ?_) (fun hb => ?_)
            · have hb := of_decide_eq_true hb
              unfold costC at q
              rw [if_pos hb] at q
              exact q
            · have hb := of_decide_eq_false hb
              unfold costC at q
              rw [if_neg hb] at q
              exact q
    · intro p hp Ky q
      exact q
  · exact ⟨h, e0 _ _ _ _⟩
  · exact ⟨h, e0 _ _ _ _⟩
theorem pure_Book_left (ss : List Sl) (R) (RE) (h : p_Book_left ss R RE) : b_Book_left p_shares_of p_left_of ss R RE := by
  obtain ⟨a, b, rs, r, hl, hr, rfl, h⟩ := h
  refine ⟨rfl, noOwn_ob noOwn_nil, ?_⟩
  refine last_rs hl ?_
  refine ⟨r.1, fsD r.2, r.2, [], hr.1, hr.2, moOk_nil, rfl, rfl, ?_⟩
  have hp : VF r.1 (leftOf r.1 ex0 r.2) := hr.2.sub (leftOf_sub _)
  refine ⟨r.1, _, leftOf r.1 ex0 r.2, hr.1, hp, rfl, rfl, ?_⟩
  show SortOk (itemsD (dS fr (sharesOf r.1 (leftOf r.1 ex0 r.2)))) ∧ R (.list (sortD (itemsD (dS fr (sharesOf r.1 (leftOf r.1 ex0 r.2)))))) (outs [.ob a b (rsD rs)] (.ob a b (rsD rs) :: _))
  rw [items_dS, sortD_items (by rw [sharesOf_names]; exact hp.up) fr_alike, outs_ob]
  exact ⟨sortOk_items fr_alike fr_depth (by unfold sharesOf; rw [List.length_map]; exact Nat.le_trans hp.le (by decide)), h⟩
end K51


set_option Elab.async false
set_option maxRecDepth 100000
set_option maxHeartbeats 1000000
/-! RD_K51: _law_done, _law_due, _law_stands. -/
namespace G
open PySem PySem.Spec PyProof.Rows L2
open PySem.W (Datum)
theorem done_no {rs : List Rw} {r : Rw} {dd : Deed} {nm w : Str} (hb : dd ≠ .back) (h : act r dd = .no nm w) : doneW rs r dd = .str w ∧ doneR rs r dd = rs := by
  cases dd with
  | back => exact (hb rfl).elim
  | _ => unfold doneW doneR; dsimp only; rw [h]; exact ⟨rfl, rfl⟩
theorem done_yes {rs : List Rw} {r r' : Rw} {dd : Deed} (hb : dd ≠ .back) (h : act r dd = .yes r') : doneW rs r dd = .none ∧ doneR rs r dd = rs ++ [r'] := by
  cases dd with
  | back => exact (hb rfl).elim
  | _ => unfold doneW doneR; dsimp only; rw [h]; exact ⟨rfl, rfl⟩
theorem outK_to {rs : List Rw} {o : Out} {R0 : List Rw → Prop} {RE : Str → Prop} (hz : ∀ nm w, o = .no nm w → RE nm) (hy : ∀ r', o = .yes r' → R0 (rs ++ [r'])) : outK rs o R0 RE := by
  cases o with
  | no nm w => exact hz nm w rfl
  | yes r' => exact hy r' rfl
theorem ix_lastR {rs : List Rw} {r : Rw} (h : rs.getLast? = some r) {K : PyData → Prop} (q : K (rwD r)) : ixD (.list (rs.map rwD)) (.int (-1)) K := by
  have e : (rs.map rwD).getLast? = some (rwD r) := by rw [List.getLast?_map, h]; rfl
  show (match L2.atI (rs.map rwD) (-1) with
    | some d => K d
    | none => False)
  rw [atI_last e]
  exact q
def p__law_done : PSp := fun ss R _ => ∃ a b rs r dd, rs.getLast? = some r ∧ RwOk r ∧ DeedOk dd ∧ rs.length < 1000 ∧ ss = [.ob a b (rsD rs), .dat (deedD dd)] ∧ R (doneW rs r dd) [.ob a b (rsD (doneR rs r dd)), .dat (deedD dd)]
def p__law_due : PSp := fun ss R _ => ∃ a rs r dd, rs.getLast? = some r ∧ RwOk r ∧ DeedOk dd ∧ rs.length < 1000 ∧ ss = [.inn a (rsD rs), .dat (deedD dd)] ∧ R (doneW rs r dd) [.inn a (rsD (doneR rs r dd)), .dat (deedD dd)]
def p__law_stands : PSp := fun ss R _ => ∃ a b rs r, rs.getLast? = some r ∧ RwOk r ∧ ss = [.ob a b (rsD rs), .dat (tsD r.1), .dat (fsD r.2)] ∧ R (.bool true) ss
end G
namespace K51
open PySem PySem.Spec PyProof.Rows L2 G
open PySem.W (Datum)
theorem act_rw {r : Rw} {dd : Deed} {nm w : Str} (h : act r dd = .no nm w) : RW8 nm w := by
  cases dd with
  | come c =>
    cases c with
    | none => cases h; simp [RW8]
    | some o =>
      have h : (if candB r.1 (some o) = true then (if o.name ∈ nmsOf r.2 then Out.no "Taken" "taken" else if r.2.length = 8 then .no "Full" "full" else .yes (r.1, insO o r.2)) else .no "NoOne" "one") = .no nm w := h
      split at h
      · split at h
        · cases h; simp [RW8]
        · split at h
          · cases h; simp [RW8]
          · cases h
      · cases h; simp [RW8]
  | go d =>
    have h : (if nmIn d (nmsOf r.2) = true then Out.yes (r.1, r.2.filter fun o => !decide (o.name = strOf d)) else .no "NotThere" "gone") = .no nm w := h
    split at h
    · cases h
    · cases h; simp [RW8]
  | say d x =>
    have h : (if nmIn d (nmsOf r.2) = true then (if wholeB x 0 1000 = true then Out.yes (r.1, r.2.map (sayW (strOf d) (numOf x))) else .no "NoWorth" "worth") else .no "NotThere" "gone") = .no nm w := h
    split at h
    · split at h
      · cases h
      · cases h; simp [RW8]
    · cases h; simp [RW8]
  | price d c =>
    have h : (if nmIn d (r.1.map (·.1)) = true then (if wholeB c 0 1000 = true then Out.yes (r.1.map (costC (strOf d) (numOf c)), r.2) else .no "NoCost" "cost") else .no "NoThing" "thing") = .no nm w := h
    split at h
    · split at h
      · cases h
      · cases h; simp [RW8]
    · cases h; simp [RW8]
  | back => cases h; simp [RW8]
theorem pure__law_done (ss : List Sl) (R) (RE) (h : p__law_done ss R RE) : b__law_done p_Book_come p_Book_go p_Book_say p_Book_price p_Book_back ss R RE := by
  obtain ⟨a, b, rs, r, dd, hl, hr, hd, hlen, rfl, h⟩ := h
  refine ⟨rfl, noOwn_ob (noOwn_dat noOwn_nil), ?_⟩
  have e0 : ∀ (x : PyData) (ρ : Ms) (s : Sl), outs [.ob a b (rsD rs), .dat (deedD dd)] (.ob a b x :: s :: ρ) = [.ob a b x, .dat (deedD dd)] := fun x ρ s => by rw [outs_ob]; rfl
  have hz : ∀ nm w, dd ≠ .back → act r dd = .no nm w → ∀ (s : Sl) (ρ : Ms), ∃ word, RW8 nm word ∧ R (.str word) (outs [.ob a b (rsD rs), .dat (deedD dd)] (.ob a b (rsD rs) :: s :: ρ)) := fun nm w hb e s ρ => by
    obtain ⟨e1, e2⟩ := done_no (rs := rs) hb e
    rw [e1, e2] at h
    exact ⟨w, act_rw e, by rw [e0]; exact h⟩
  have hy : ∀ r', dd ≠ .back → act r dd = .yes r' → ∀ (s : Sl) (ρ : Ms), R .none (outs [.ob a b (rsD rs), .dat (deedD dd)] (.ob a b (rsD (rs ++ [r'])) :: s :: ρ)) := fun r' hb e s ρ => by
    obtain ⟨e1, e2⟩ := done_yes (rs := rs) hb e
    rw [e1, e2] at h
    rw [e0]; exact h
  cases dd with
  | come c =>
    refine eq_dat (α := Str) (a := "come") (b := "come") ?_
    refine ⟨a, b, rs, r, c, hl, hr, hd, hlen, rfl, ?_⟩
    exact outK_to (fun nm w e => hz nm w (fun z => nomatch z) e _ _) fun r' e => ⟨rfl, hy r' (fun z => nomatch z) e _ _⟩
  | go d =>
    refine eq_dat (α := Str) (a := "go") (b := "come") ?_
    refine eq_dat (α := Str) (a := "go") (b := "go") ?_
    refine ⟨a, b, rs, r, d, hl, hr, hd, hlen, rfl, ?_⟩
    exact outK_to (fun nm w e => hz nm w (fun z => nomatch z) e _ _) fun r' e => ⟨rfl, hy r' (fun z => nomatch z) e _ _⟩
  | say d w =>
    refine eq_dat (α := Str) (a := "say") (b := "come") ?_
    refine eq_dat (α := Str) (a := "say") (b := "go") ?_
    refine eq_dat (α := Str) (a := "say") (b := "say") ?_
    refine ⟨a, b, rs, r, d, w, hl, hr, hd.1, hd.2, hlen, rfl, ?_⟩
    exact outK_to (fun nm w e => hz nm w (fun z => nomatch z) e _ _) fun r' e => ⟨rfl, hy r' (fun z => nomatch z) e _ _⟩
  | price d c =>
    refine eq_dat (α := Str) (a := "price") (b := "come") ?_
    refine eq_dat (α := Str) (a := "price") (b := "go") ?_
    refine eq_dat (α := Str) (a := "price") (b := "say") ?_
    refine eq_dat (α := Str) (a := "price") (b := "price") ?_
    refine ⟨a, b, rs, r, d, c, hl, hr, hd.1, hd.2, hlen, rfl, ?_⟩
    exact outK_to (fun nm w e => hz nm w (fun z => nomatch z) e _ _) fun r' e => ⟨rfl, hy r' (fun z => nomatch z) e _ _⟩
  | back =>
    refine eq_dat (α := Str) (a := "back") (b := "come") ?_
    refine eq_dat (α := Str) (a := "back") (b := "go") ?_
    refine eq_dat (α := Str) (a := "back") (b := "say") ?_
    refine eq_dat (α := Str) (a := "back") (b := "price") ?_
    have h : R (if rs.length = 1 then .str "back" else .none) [.ob a b (rsD (if rs.length = 1 then rs else rs.dropLast)), .dat (deedD .back)] := h
    refine ⟨a, b, rs, r, hl, rfl, fun h1 => ?_, fun h1 => ?_⟩
    · rw [if_pos h1, if_pos h1] at h
      exact ⟨"back", by simp [RW8], by
        show R (.str "back") (outs [.ob a b (rsD rs), .dat (deedD .back)] (.ob a b (rsD rs) :: _ :: _))
        rw [e0]; exact h⟩
    · rw [if_neg h1, if_neg h1] at h
      refine ⟨rfl, ?_⟩
      show R .none (outs [.ob a b (rsD rs), .dat (deedD .back)] (.ob a b (rsD rs.dropLast) :: _ :: _))
      rw [e0]; exact h
theorem pure__law_stands (ss : List Sl) (R) (RE) (h : p__law_stands ss R RE) : b__law_stands p_Book_things p_Book_folk p_Book___len__ p_Book_left p_shares p_left ss R RE := by
  obtain ⟨a, b, rs, r, hl, hr, rfl, h⟩ := h
  refine ⟨rfl, noOwn_ob (noOwn_dat (noOwn_dat noOwn_nil)), ?_⟩
  have e0 : ∀ (ρ : Ms) (s t : Sl), outs [.ob a b (rsD rs), .dat (tsD r.1), .dat (fsD r.2)] (.ob a b (rsD rs) :: s :: t :: ρ) = [.ob a b (rsD rs), .dat (tsD r.1), .dat (fsD r.2)] := fun ρ s t => by rw [outs_ob]; rfl
  refine ⟨a, b, rs, r, hl, rfl, rfl, ?_⟩
  refine ne_dat (α := PySem.W.Tup (Str × Int)) (a := ⟨r.1⟩) (b := ⟨r.1⟩) ?_
  refine iteNo (by simp) ?_
  refine ⟨a, b, rs, r, hl, rfl, rfl, ?_⟩
  refine ne_dat (α := PySem.W.Tup One) (a := ⟨r.2⟩) (b := ⟨r.2⟩) ?_
  refine iteNo (by simp) ?_
  refine ⟨a, b, rs, r, hl, rfl, rfl, ⟨r.2.length, rfl, Nat.lt_of_le_of_lt hr.2.le (by decide)⟩, ?_⟩
  refine ne_dat (α := Int) (a := (r.2.length : Nat)) (b := ((r.2.map oD).length : Nat)) ?_
  refine iteNo (by rw [List.length_map]; simp) ?_
  refine ⟨a, b, rs, r, hl, hr, rfl, rfl, ?_⟩
  refine ⟨r.1, r.2, hr.1, hr.2, rfl, ?_⟩
  refine ⟨r.1, r.2, nmsOf (leftOf r.1 ex0 r.2), hr.1, hr.2, fun x hx => ?_, (hr.2.sub (leftOf_sub _)).up, rfl, ?_⟩
  · obtain ⟨o, ho, rfl⟩ := List.mem_map.mp hx
    exact List.mem_map_of_mem ((leftOf_sub r.2).mem ho)
  · rw [pick_left hr.2 (leftOf_sub r.2)]
    refine eq_dat (α := List (Str × Rat)) (a := sharesOf r.1 (leftOf r.1 ex0 r.2)) (b := sharesOf r.1 (leftOf r.1 ex0 r.2)) ?_
    rw [decide_eq_true rfl]
    show R (.bool true) (outs [.ob a b (rsD rs), .dat (tsD r.1), .dat (fsD r.2)] (.ob a b (rsD rs) :: _ :: _ :: _))
    rw [e0]
    exact h
end K51


set_option Elab.async false
set_option maxRecDepth 100000
set_option maxHeartbeats 1000000
/-! RE_K51: _law_due. -/
namespace K51
open PySem PySem.Spec PyProof.Rows L2 G
open PySem.W (Datum)
def wordOfD : Deed → Str
  | .come _ => "come"
  | .go _ => "go"
  | .say _ _ => "say"
  | .price _ _ => "price"
  | .back => "back"
/-- behind the first two rows -/
def due5 (a : Addr) (rs : List Rw) (r : Rw) (dd : Deed) : Ms := [.inn a (rsD rs), .dat (deedD dd), .dat (tsD r.1), .dat (fsD r.2), .dat (nsL (nmsOf r.2)), .dat (.str (wordOfD dd)), .un, .un, .un, .un]
theorem pure__law_due (ss : List Sl) (R) (RE) (h : p__law_due ss R RE) : b__law_due r_are_folk r_is_whole p__law_said ss R RE := by
  obtain ⟨a, rs, r, dd, hl, hr, hd, hlen, rfl, h⟩ := h
  refine ⟨rfl, noOwn_inn (noOwn_dat noOwn_nil), ?_⟩
  have e0 : ∀ (x : PyData) (ρ : Ms) (s : Sl), outs [.inn a (rsD rs), .dat (deedD dd)] (.inn a x :: s :: ρ) = [.inn a x, .dat (deedD dd)] := fun x ρ s => by rw [outs_here]; rfl
  have hz : ∀ nm w, dd ≠ .back → act r dd = .no nm w → ∀ (s : Sl) (ρ : Ms), R (.str w) (outs [.inn a (rsD rs), .dat (deedD dd)] (.inn a (rsD rs) :: s :: ρ)) := fun nm w hb e s ρ => by
    obtain ⟨e1, e2⟩ := done_no (rs := rs) hb e
    rw [e1, e2] at h
    rw [e0]; exact h
  have hy : ∀ r', dd ≠ .back → act r dd = .yes r' → ∀ (s : Sl) (ρ : Ms), R .none (outs [.inn a (rsD rs), .dat (deedD dd)] (.inn a (.list (rs.map rwD ++ [rwD r'])) :: s :: ρ)) := fun r' hb e s ρ => by
    obtain ⟨e1, e2⟩ := done_yes (rs := rs) hb e
    rw [e1, e2, rs_snoc] at h
    rw [e0]; exact h
  have hlen' : (rs.map rwD).length < 1000 := by rw [List.length_map]; exact hlen
  refine seq_to [.inn a (rsD rs), .dat (deedD dd), .dat (tsD r.1), .dat (fsD r.2), .un, .un, .un, .un, .un, .un] (fun K q => ?_) ?_
  · refine ix_lastR hl ?_
    exact q
  refine seq_to (due5 a rs r dd) (fun K q => ?_) ?_
  · refine lcA oD r.2 (fun o => sD o.name) ?_ ?_
    · rw [map_sD]
      cases dd <;> exact ⟨rfl, q⟩
    · intro o ho Ky q
      exact q
  cases dd with
  | back =>
    refine eq_dat (α := Str) (a := "back") (b := "back") ?_
    have h : R (if rs.length = 1 then .str "back" else .none) [.inn a (rsD (if rs.length = 1 then rs else rs.dropLast)), .dat (deedD .back)] := h
    refine eq_dat (α := Int) (a := ((rs.map rwD).length : Nat)) (b := 1) ?_
    refine iteB (fun hb => ?_) (fun hb => ?_)
    · have hb := of_decide_eq_true hb
      rw [List.length_map] at hb
      rw [if_pos (by omega), if_pos (by omega)] at h
      show R (.str "back") (outs [.inn a (rsD rs), .dat (deedD .back)] (.inn a (rsD rs) :: _ :: _))
      rw [e0]; exact h
    · have hb := of_decide_eq_false hb
      rw [List.length_map] at hb
      rw [if_neg (by omega), if_neg (by omega)] at h
      refine last_rs hl ?_
      show R .none (outs [.inn a (rsD rs), .dat (deedD .back)] (.inn a (.list (rs.map rwD).dropLast) :: _ :: _))
      rw [e0, ← List.map_dropLast]; exact h
  | come c =>
    refine eq_dat (α := Str) (a := "come") (b := "back") ?_
    refine eq_dat (α := Str) (a := "come") (b := "come") ?_
    refine ⟨r.1, c, hr.1, hd, rfl, ?_⟩
    cases c with
    | none => exact hz "NoOne" "one" (fun z => nomatch z) rfl _ _
    | some o =>
      refine iteB (fun hb => ?_) (fun hb => ?_)
      · have hb : candB r.1 (some o) = false := by simpa using hb
        exact hz "NoOne" "one" (fun z => nomatch z) (if_neg (by rw [hb]; exact Bool.false_ne_true)) _ _
      · have hb : candB r.1 (some o) = true := by simpa using hb
        refine in_lst (α := Str) (a := o.name) (l := nmsOf r.2) ?_
        rw [Bool.false_xor]
        refine iteB (fun hn => ?_) (fun hn => ?_)
        · have hn := of_decide_eq_true hn
          exact hz "Taken" "taken" (fun z => nomatch z) ((if_pos hb).trans (if_pos hn)) _ _
        · have hn := of_decide_eq_false hn
          refine eq_dat (α := Int) (a := (((nmsOf r.2).map sD).length : Nat)) (b := 8) ?_
          have en : ((nmsOf r.2).map sD).length = r.2.length := by unfold nmsOf; rw [List.length_map, List.length_map]
          refine iteB (fun h8 => ?_) (fun h8 => ?_)
          · have h8 := of_decide_eq_true h8
            rw [en] at h8
            exact hz "Full" "full" (fun z => nomatch z) ((if_pos hb).trans ((if_neg hn).trans (if_pos (by omega)))) _ _
          · have h8 := of_decide_eq_false h8
            rw [en] at h8
            have e : sortD (r.2.map oD ++ [oD o]) = (insO o r.2).map oD := by
              have := insO_sort o r.2 hr.2.up hn
              rwa [List.map_append] at this
            have h1 := hr.2.le
            refine ⟨line1000 (by rw [List.length_map]; show r.2.length + 1 ≤ 1000; omega), ?_, ?_⟩
            · have := sortOk_ones (l := r.2 ++ [o]) (by rw [List.length_append]; show r.2.length + 1 ≤ 1000; omega)
              rwa [List.map_append] at this
            · refine ⟨hlen', ?_⟩
              have := hy (r.1, insO o r.2) (fun z => nomatch z) ((if_pos hb).trans ((if_neg hn).trans (if_neg (by omega)))) (.dat (deedD (.come (some o)))) ((due5 a rs r (.come (some o))).drop 2)
              show R .none (outs [.inn a (rsD rs), .dat (deedD (.come (some o)))] (.inn a (.list (rs.map rwD ++ [.tuple [tsD r.1, .tuple (sortD (r.2.map oD ++ [oD o]))]])) :: _ :: _))
              rw [e]
              exact this
  | price d c =>
    refine eq_dat (α := Str) (a := "price") (b := "back") ?_
    refine eq_dat (α := Str) (a := "price") (b := "come") ?_
    refine eq_dat (α := Str) (a := "price") (b := "price") ?_
    refine lcA tD r.1 (fun p => sD p.1) ?_ ?_
    · rw [map_sD]
      refine in_nm (l := r.1.map (·.1)) hd.1 ?_
      refine iteB (fun hn => ?_) (fun hn => ?_)
      · have hn : nmIn d (r.1.map (·.1)) = false := by simpa using hn
        exact hz "NoThing" "thing" (fun z => nomatch z) (if_neg (by rw [hn]; exact Bool.false_ne_true)) _ _
      · have hn : nmIn d (r.1.map (·.1)) = true := by simpa using hn
        refine ⟨c, 0, 1000, hd.2, rfl, ?_⟩
        refine iteB (fun hb => ?_) (fun hb => ?_)
        · have hb : wholeB c 0 1000 = false := by simpa using hb
          exact hz "NoCost" "cost" (fun z => nomatch z) ((if_pos hn).trans (if_neg (by rw [hb]; exact Bool.false_ne_true))) _ _
        · have hb : wholeB c 0 1000 = true := by simpa using hb
          have hyy := hy (r.1.map (costC (strOf d) (numOf c)), r.2) (fun z => nomatch z) ((if_pos hn).trans (if_pos hb))
          obtain ⟨ed, _⟩ := nmIn_is hn
          obtain ⟨ec, _⟩ := whole_is hb
          obtain ⟨x, hx⟩ : ∃ x, x = strOf d := ⟨_, rfl⟩
          obtain ⟨i, hi⟩ : ∃ i, i = numOf c := ⟨_, rfl⟩
          rw [← hx] at hyy ed
          rw [← hi] at hyy ec
          clear hz hy
          subst ed
          subst ec
          refine lcA tD r.1 (fun p => tD (costC x i p)) ?_ ?_
          · refine ⟨hlen', ?_⟩
            have e : r.1.map (fun p => tD (costC x i p)) = (r.1.map (costC x i)).map tD := by rw [List.map_map]; rfl
            show R .none (outs [.inn a (rsD rs), .dat (deedD (.price (.str x) (.int i)))] (.inn a (.list (rs.map rwD ++ [.tuple [.tuple (r.1.map fun p => tD (costC x i p)), fsD r.2]])) :: _ :: _))
            rw [e]
            exact hyy _ _
          · intro p hp Ky q
            refine eq_dat (α := Str) (a := p.1) (b := x) ?_
            refine iteB (fun hb => ?_) (fun hb => ?_)
            · have hb := of_decide_eq_true hb
              unfold costC at q
              rw [if_pos hb] at q
              exact q
            · have hb := of_decide_eq_false hb
              unfold costC at q
              rw [if_neg hb] at q
              exact q
    · intro p hp Ky q
      exact q
  | go d =>
    refine eq_dat (α := Str) (a := "go") (b := "back") ?_
    refine eq_dat (α := Str) (a := "go") (b := "come") ?_
    refine eq_dat (α := Str) (a := "go") (b := "price") ?_
    refine in_nm (l := nmsOf r.2) hd ?_
    refine iteB (fun hn => ?_) (fun hn => ?_)
    · have hn : nmIn d (nmsOf r.2) = false := by simpa using hn
      exact hz "NotThere" "gone" (fun z => nomatch z) (if_neg (by rw [hn]; exact Bool.false_ne_true)) _ _
    · have hn : nmIn d (nmsOf r.2) = true := by simpa using hn
      have hyy := hy (r.1, r.2.filter fun o => !decide (o.name = strOf d)) (fun z => nomatch z) (if_pos hn)
      obtain ⟨ed, _⟩ := nmIn_is hn
      obtain ⟨x, hx⟩ : ∃ x, x = strOf d := ⟨_, rfl⟩
      rw [← hx] at hyy ed
      clear hz hy
      subst ed
      refine eq_dat (α := Str) (a := "go") (b := "say") ?_
      refine lcL oD r.2 (fun o => !decide (o.name = x)) oD ?_ ?_
      · refine eq_dat (α := Str) (a := "go") (b := "say") ?_
        exact ⟨hlen', hyy _ _⟩
      · intro o ho Ky Kn q1 q2
        refine ne_dat (α := Str) (a := o.name) (b := x) ?_
        exact iteB (fun z => q1 z) (fun z => q2 z)
  | say d w =>
    refine eq_dat (α := Str) (a := "say") (b := "back") ?_
    refine eq_dat (α := Str) (a := "say") (b := "come") ?_
    refine eq_dat (α := Str) (a := "say") (b := "price") ?_
    refine in_nm (l := nmsOf r.2) hd.1 ?_
    refine iteB (fun hn => ?_) (fun hn => ?_)
    · have hn : nmIn d (nmsOf r.2) = false := by simpa using hn
      exact hz "NotThere" "gone" (fun z => nomatch z) (if_neg (by rw [hn]; exact Bool.false_ne_true)) _ _
    · have hn : nmIn d (nmsOf r.2) = true := by simpa using hn
      refine eq_dat (α := Str) (a := "say") (b := "say") ?_
      refine ⟨w, 0, 1000, hd.2, rfl, ?_⟩
      refine iteB (fun hb => ?_) (fun hb => ?_)
      · have hb : wholeB w 0 1000 = false := by simpa using hb
        exact hz "NoWorth" "worth" (fun z => nomatch z) ((if_pos hn).trans (if_neg (by rw [hb]; exact Bool.false_ne_true))) _ _
      · have hb : wholeB w 0 1000 = true := by simpa using hb
        have hyy := hy (r.1, r.2.map (sayW (strOf d) (numOf w))) (fun z => nomatch z) ((if_pos hn).trans (if_pos hb))
        obtain ⟨ed, _⟩ := nmIn_is hn
        obtain ⟨ew, _⟩ := whole_is hb
        obtain ⟨x, hx⟩ : ∃ x, x = strOf d := ⟨_, rfl⟩
        obtain ⟨i, hi⟩ : ∃ i, i = numOf w := ⟨_, rfl⟩
        rw [← hx] at hyy ed
        rw [← hi] at hyy ew
        clear hz hy
        subst ed
        subst ew
        refine lcL oD r.2 (fun o => !decide (o.name = x)) oD ?_ ?_
        · refine eq_dat (α := Str) (a := "say") (b := "say") ?_
          refine ⟨r.2, x, i, rfl, ?_⟩
          exact ⟨hlen', hyy _ _⟩
        · intro o ho Ky Kn q1 q2
          refine ne_dat (α := Str) (a := o.name) (b := x) ?_
          exact iteB (fun z => q1 z) (fun z => q2 z)
end K51


set_option Elab.async false
set_option maxRecDepth 100000
set_option maxHeartbeats 8000000
/-! RF_K51: _law_deed. -/
namespace G
open PySem PySem.Spec PyProof.Rows L2
open PySem.W (Datum)
def p__law_deed : PSp := fun ss R _ => ∃ (a : Addr) (d : PyData) (t : List (Str × Int)) (f : List One), Well d ∧ VT t ∧ VF t f ∧ ss = [.inn a d, .dat (tsD t), .dat (fsD f)] ∧ ∀ dd d', DeedOk dd → Well d' → R (deedD dd) [.inn a d', .dat (tsD t), .dat (fsD f)]
def freshNames : List Str := ["ia", "ja", "ka", "la", "ma", "na", "oa", "pa", "qa"]
theorem fresh_nm : ∀ x ∈ freshNames, Name x := by decide +kernel
theorem zed_nm : Name "zed" ∧ Name "x" := by decide +kernel
end G
namespace K51
open PySem PySem.Spec PyProof.Rows L2 G
open PySem.W (Datum)
theorem pure__law_deed (ss : List Sl) (R) (RE) (h : p__law_deed ss R RE) : b__law_deed p__law_take p__law_one ss R RE := by
  obtain ⟨a, d, t, f, hw, ht, hf, rfl, h⟩ := h
  refine ⟨rfl, noOwn_inn (noOwn_dat (noOwn_dat noOwn_nil)), ?_⟩
  have h : ∀ dd d' u v ρ, DeedOk dd → Well d' → R (deedD dd) (outs [.inn a d, .dat (tsD t), .dat (fsD f)] (.inn a d' :: u :: v :: ρ)) := fun dd d' u v ρ h1 h2 => by
    rw [outs_here]; exact h dd d' h1 h2
  have tl := ht.le
  have fl := hf.le
  refine seq_by (fun ρ' => ∃ way d1, Well d1 ∧ ρ' = [.inn a d1, .dat (tsD t), .dat (fsD f), .dat (.list ((f.map (·.name)).map sD ++ [PyData.str "zed"])), .dat (.int way), .un, .un, .un, .un, .un]) (fun K k => ?_) ?_
  · refine lcA oD f (fun o => sD o.name) ?_ ?_
    case refine_2 =>
      intro o ho Ky q
      exact q
    rw [map_sD]
    refine ⟨line1000 (by rw [List.length_map, List.length_map]; show f.length + 1 ≤ 1000; omega), ?_⟩
    refine ⟨a, d, 18, hw, by decide, by decide, rfl, fun way d1 w0 w1 hw1 => ?_⟩
    exact ⟨rfl, k _ ⟨way, d1, hw1, rfl⟩⟩
  rintro _ ⟨way, d1, hw1, rfl⟩
  have nl : (((f.map (·.name)).map sD ++ [PyData.str "zed"]).length : Int) = f.length + 1 := by rw [List.length_append, List.length_map, List.length_map]; rfl
  have lt : ((t.map tD).length : Int) = t.length := by rw [List.length_map]
  refine seq_by (fun ρ' => ∃ x q d3, Name x ∧ Well d3 ∧ ρ' = [.inn a d3, .dat (tsD t), .dat (fsD f), .dat (.list ((f.map (·.name)).map sD ++ [PyData.str "zed"])), .dat (.int way), .dat (.str x), .dat (.str q), .un, .un, .un]) (fun K k => ?_) ?_
  · refine ⟨a, d1, ((((f.map (·.name)).map sD ++ [PyData.str "zed"]).length : Nat) : Int), hw1, by omega, by omega, rfl, fun i d2 i0 i1 hw2 => ?_⟩
    refine ix_any i0 i1 fun nd hnd => ?_
    obtain ⟨x, rfl, hx⟩ : ∃ x, nd = .str x ∧ Name x := by
      rcases List.mem_append.mp hnd with q | q
      · obtain ⟨x, hx, rfl⟩ := List.mem_map.mp q
        obtain ⟨o, ho, rfl⟩ := List.mem_map.mp hx
        exact ⟨_, rfl, (hf.on o ho).nm⟩
      · rw [List.mem_singleton] at q
        exact ⟨_, q, zed_nm.1⟩
    refine ⟨a, d2, ((t.map tD).length : Nat), hw2, by omega, by omega, rfl, fun i2 d3 i20 i21 hw3 => ?_⟩
    refine ixT_any i20 i21 fun qd hqd => ?_
    obtain ⟨q, hq, e⟩ := List.mem_map.mp hqd
    subst e
    exact ⟨rfl, k _ ⟨x, q.1, d3, hx, hw3, rfl⟩⟩
  rintro _ ⟨x, q, d3, hx, hw3, rfl⟩
  refine iteB (fun hb => ?_) (fun hb => ?_)
  · refine ⟨a, d3, 10, hw3, by decide, by decide, rfl, fun j d4 j0 j1 hw4 => ?_⟩
    refine ix_any j0 (by show j < 10; omega) fun yd hyd => ?_
    obtain ⟨y, rfl, hy⟩ : ∃ y, yd = .str y ∧ Name y := by
      have hyd : yd ∈ freshNames.map sD ++ [.str x] := hyd
      rcases List.mem_append.mp hyd with q | q
      · obtain ⟨y, hy, rfl⟩ := List.mem_map.mp q
        exact ⟨y, rfl, fresh_nm y hy⟩
      · rw [List.mem_singleton] at q
        exact ⟨_, q, hx⟩
    refine ⟨a, d4, t, y, false, hw4, ht, hy, rfl, fun o d5 vo _ _ hw5 => ?_⟩
    exact h (.come (some o)) d5 _ _ _ ⟨vo.nm, vo.up, Nat.le_trans (nodup_len vo.up.nodup vo.ws) (by rw [List.length_map]; omega)⟩ hw5
  refine iteB (fun hb2 => ?_) (fun hb2 => ?_)
  · refine ⟨a, d3, 200, hw3, by decide, by decide, rfl, fun j d4 j0 j1 hw4 => ?_⟩
    refine ⟨a, d4, 9, hw4, by decide, by decide, rfl, fun k d5 k0 k1 hw5 => ?_⟩
    refine ix_any (by split <;> omega) (by show (if k - 4 > 0 then k - 4 else 0) < 5; split <;> omega) fun wd hwd => ?_
    have hn : NuD wd := by
      simp only [List.mem_cons, List.not_mem_nil, or_false] at hwd
      rcases hwd with rfl | rfl | rfl | rfl | rfl
      · exact .inl ⟨_, rfl⟩
      · exact .inl ⟨_, rfl⟩
      · exact .inl ⟨_, rfl⟩
      · exact .inl ⟨_, rfl⟩
      · exact .inr (.inl ⟨_, rfl⟩)
    exact h (.say (.str x) wd) d5 _ _ _ ⟨.inl ⟨x, rfl⟩, hn⟩ hw5
  refine iteB (fun hb3 => ?_) (fun hb3 => ?_)
  · refine ⟨a, d3, 200, hw3, by decide, by decide, rfl, fun j d4 j0 j1 hw4 => ?_⟩
    refine ⟨a, d4, 9, hw4, by decide, by decide, rfl, fun k d5 k0 k1 hw5 => ?_⟩
    refine ix_any (by split <;> omega) (by show (if k - 4 > 0 then k - 4 else 0) < 5; split <;> omega) fun wd hwd => ?_
    have hn : NuD wd := by
      simp only [List.mem_cons, List.not_mem_nil, or_false] at hwd
      rcases hwd with rfl | rfl | rfl | rfl | rfl
      · exact .inl ⟨_, rfl⟩
      · exact .inl ⟨_, rfl⟩
      · exact .inl ⟨_, rfl⟩
      · exact .inl ⟨_, rfl⟩
      · exact .inr (.inr rfl)
    exact h (.price (.str q) wd) d5 _ _ _ ⟨.inl ⟨q, rfl⟩, hn⟩ hw5
  refine eq_dat (α := Int) (a := way) (b := 11) ?_
  refine iteB (fun hb4 => ?_) (fun hb4 => ?_)
  · exact h (.go (.str x)) d3 _ _ _ (.inl ⟨x, rfl⟩) hw3
  refine iteB (fun hb5 => ?_) (fun hb5 => ?_)
  · exact h .back d3 _ _ _ trivial hw3
  refine ⟨(by show 4 < 1000; decide), (by show 5 + 4 ≤ 1000; decide), ?_⟩
  refine ⟨a, d3, 9, hw3, by decide, by decide, rfl, fun j d4 j0 j1 hw4 => ?_⟩
  refine ix_any j0 (by show j < 9; omega) fun dd hdd => ?_
  obtain ⟨de, rfl, hde⟩ : ∃ de, dd = deedD de ∧ DeedOk de := by
    have hdd : dd ∈ [deedD (.come none), deedD (.come (some ⟨"x", [], 1, 1⟩)), deedD (.come (some ⟨"x", [q], 1, 0⟩)), deedD (.go .none), deedD (.say .none .none), deedD (.price (.str "zed") .none), deedD (.price (.int 7) (.int 1)), deedD (.come (some ⟨"x", ["zed"], 1, 1⟩)), deedD (.go (.int 7))] := hdd
    simp only [List.mem_cons, List.not_mem_nil, or_false] at hdd
    rcases hdd with rfl | rfl | rfl | rfl | rfl | rfl | rfl | rfl | rfl
    · exact ⟨_, rfl, trivial⟩
    · exact ⟨_, rfl, zed_nm.2, trivial, by show 0 ≤ 1000; decide⟩
    · exact ⟨_, rfl, zed_nm.2, trivial, by show 1 ≤ 1000; decide⟩
    · exact ⟨_, rfl, .inr (.inl rfl)⟩
    · exact ⟨_, rfl, .inr (.inl rfl), .inr (.inr rfl)⟩
    · exact ⟨_, rfl, .inl ⟨_, rfl⟩, .inr (.inr rfl)⟩
    · exact ⟨_, rfl, .inr (.inr ⟨_, rfl⟩), .inl ⟨_, rfl⟩⟩
    · exact ⟨_, rfl, zed_nm.2, trivial, by show 1 ≤ 1000; decide⟩
    · exact ⟨_, rfl, .inr (.inr ⟨_, rfl⟩)⟩
  exact h de d4 _ _ _ hde hw4
end K51


set_option Elab.async false
set_option maxRecDepth 100000
set_option maxHeartbeats 4000000
/-! RG_K51: what the law walks through. -/
namespace G
open PySem PySem.Spec PyProof.Rows L2
open PySem.W (Datum)
structure BkI (t0 : Rw) (rs : List Rw) (r : Rw) : Prop where
  last : rs.getLast? = some r
  all : ∀ x ∈ rs, RwOk x
  head : rs.head? = some t0
theorem BkI.ok {t0 r : Rw} {rs : List Rw} (h : BkI t0 rs r) : RwOk r := h.all r (List.mem_of_getLast? h.last)
theorem BkI.drop {t0 r : Rw} {rs : List Rw} (h : BkI t0 rs r) (n : rs.length ≠ 1) : ∃ r', BkI t0 rs.dropLast r' := by
  obtain ⟨x, xs, rfl⟩ : ∃ x xs, rs = x :: xs := by
    cases rs with
    | nil => cases h.head
    | cons x xs => exact ⟨x, xs, rfl⟩
  cases xs with
  | nil => exact (n rfl).elim
  | cons y ys =>
    have hne : (x :: y :: ys).dropLast ≠ [] := fun z => by simp [List.dropLast] at z
    obtain ⟨r', hr'⟩ := last_of hne
    exact ⟨r', hr', fun z hz => h.all z (List.dropLast_subset _ hz), h.head⟩
theorem BkI.snoc {t0 r r' : Rw} {rs : List Rw} (h : BkI t0 rs r) (hr : RwOk r') : BkI t0 (rs ++ [r']) r' := by
  refine ⟨by simp, fun x hx => ?_, ?_⟩
  · rcases List.mem_append.mp hx with hx | hx
    · exact h.all x hx
    · rw [List.mem_singleton] at hx; subst hx; exact hr
  · cases rs with
    | nil => cases h.head
    | cons x xs => exact h.head
theorem BkI.done {t0 r : Rw} {rs : List Rw} {dd : Deed} (h : BkI t0 rs r) (hd : DeedOk dd) : ∃ r', BkI t0 (doneR rs r dd) r' ∧ (doneR rs r dd).length ≤ rs.length + 1 := by
  by_cases hb : dd = .back
  · subst hb
    have e : doneR rs r .back = if rs.length = 1 then rs else rs.dropLast := rfl
    rw [e]
    by_cases h1 : rs.length = 1
    · rw [if_pos h1]; exact ⟨r, h, by omega⟩
    · rw [if_neg h1]
      obtain ⟨r', hr'⟩ := h.drop h1
      exact ⟨r', hr', by rw [List.length_dropLast]; omega⟩
  · cases e : act r dd with
    | no nm w =>
      rw [(done_no (rs := rs) hb e).2]
      exact ⟨r, h, by omega⟩
    | yes r' =>
      rw [(done_yes (rs := rs) hb e).2]
      exact ⟨r', h.snoc (act_ok h.ok hd e), by rw [List.length_append]; exact Nat.le_refl _⟩
theorem BkI.one {t0 r : Rw} {rs : List Rw} (h : BkI t0 rs r) (n : rs.length ≤ 1) : rs = [t0] ∧ r = t0 := by
  have h1 := h.head
  have h2 := h.last
  match rs, n with
  | [], _ => cases h1
  | [x], _ =>
    cases h1
    cases h2
    exact ⟨rfl, rfl⟩
theorem BkI.cons {t0 r : Rw} {rs : List Rw} (h : BkI t0 rs r) : ∃ x xs, rs = x :: xs := by
  cases rs with
  | nil => cases h.head
  | cons x xs => exact ⟨x, xs, rfl⟩
theorem doneW_is (rs : List Rw) (r : Rw) (dd : Deed) : doneW rs r dd = .none ∨ ∃ w, doneW rs r dd = .str w := by
  by_cases hb : dd = .back
  · subst hb
    show (if rs.length = 1 then PyData.str "back" else .none) = .none ∨ _
    by_cases h1 : rs.length = 1
    · exact .inr ⟨"back", by show (if rs.length = 1 then PyData.str "back" else .none) = _; rw [if_pos h1]⟩
    · exact .inl (by rw [if_neg h1])
  · cases e : act r dd with
    | no nm w => exact .inr ⟨w, (done_no hb e).1⟩
    | yes r' => exact .inl (done_yes hb e).1
theorem ne_word {rs : List Rw} {r : Rw} {dd : Deed} {R : Bool → Prop} (q : R false) : neD (doneW rs r dd) (doneW rs r dd) R := by
  rcases doneW_is rs r dd with e | ⟨w, e⟩
  · rw [e, neD_is]
    exact ⟨gd_none, gd_none, q⟩
  · rw [e]
    refine ne_dat (α := Str) (a := w) (b := w) ?_
    rw [decide_eq_true rfl]
    exact q
theorem ne_bool {b : Bool} {R : Bool → Prop} (q : R false) : neD (.bool b) (.bool b) R := by
  rw [neD_is]
  refine ⟨gd_bool, gd_bool, ?_⟩
  have e : PyData.eqv (.bool b) (.bool b) = true := by cases b <;> rfl
  rw [e]
  exact q
theorem eq_rw {r s : Rw} {R : Bool → Prop} (q : R (decide (r = s))) : eqD (rwD r) (rwD s) R := by
  refine eq_dat (α := PySem.W.Tup (Str × Int) × PySem.W.Tup One) (a := (⟨r.1⟩, ⟨r.2⟩)) (b := (⟨s.1⟩, ⟨s.2⟩)) ?_
  have e : decide (((⟨r.1⟩, ⟨r.2⟩) : PySem.W.Tup (Str × Int) × PySem.W.Tup One) = (⟨s.1⟩, ⟨s.2⟩)) = decide (r = s) := by
    refine decide_eq_decide.mpr ⟨fun h => ?_, fun h => by rw [h]⟩
    obtain ⟨r1, r2⟩ := r
    obtain ⟨s1, s2⟩ := s
    simpa using h
  rw [e]
  exact q
/-! ### the full book -/
def aT : List (Str × Int) := [("a", 1)]
def fOne (s : Str) : One := ⟨s, ["a"], 1, 1⟩
def eightN : List Str := ["a", "b", "c", "d", "e", "f", "g", "h"]
theorem eight_nm : ∀ x ∈ eightN, Name x := by decide +kernel
theorem eight_up : eightN.Pairwise Lt := by decide +kernel
theorem eight_letters : letters "abcdefgh" = eightN.map sD := by
  have e : ("abcdefgh" : Str).cps.toList.map (fun c => (⟨#[c]⟩ : Str)) = eightN := by decide +kernel
  unfold letters
  rw [← e, List.map_map]
  rfl
theorem aT_ok : VT aT := ⟨by decide +kernel, by decide +kernel, by decide +kernel, trivial⟩
theorem fOne_vo {s : Str} (h : Name s) : VO aT (fOne s) := ⟨h, fun x hx => hx, trivial, (fun z => nomatch z), ⟨by show (0 : Int) ≤ 1; decide, by show (1 : Int) ≤ 1000; decide⟩, ⟨by show (1 : Int) ≤ 1; decide, by show (1 : Int) ≤ 9; decide⟩⟩
theorem insO_end (o : One) : ∀ {f : List One}, (∀ x ∈ f, Lt x.name o.name) → insO o f = f ++ [o]
  | [], _ => rfl
  | p :: r, h => by
    unfold insO
    rw [if_pos (h p List.mem_cons_self), insO_end o fun x hx => h x (List.mem_cons_of_mem _ hx)]
    rfl
theorem eight_vf {p : List Str} (h : p.Sublist eightN) : VF aT (p.map fOne) := by
  refine ⟨by rw [List.length_map]; exact h.length_le, fun o ho => ?_, ?_⟩
  · obtain ⟨x, hx, rfl⟩ := List.mem_map.mp ho
    exact fOne_vo (eight_nm x (h.subset hx))
  · have e : (p.map fOne).map (·.name) = p := by rw [List.map_map]; exact List.map_id p
    rw [e]
    exact Rising.of (eight_up.sublist h)
theorem act_full {p q : List Str} {x : Str} (e : eightN = p ++ x :: q) : act (aT, p.map fOne) (.come (some (fOne x))) = .yes (aT, (p ++ [x]).map fOne) := by
  have hx : x ∈ eightN := by rw [e]; simp
  have up := eight_up
  rw [e] at up
  have up2 := (List.pairwise_append.mp up).2.2
  have lt : ∀ y ∈ p, Lt y x := fun y hy => up2 y hy x List.mem_cons_self
  have hn : (fOne x).name ∉ nmsOf (p.map fOne) := fun z => by
    unfold nmsOf at z
    rw [List.map_map] at z
    obtain ⟨y, hy, e2⟩ := List.mem_map.mp z
    have : y = x := e2
    subst this
    exact (lt y hy).irr
  have hl : ¬ (p.map fOne).length = 8 := by
    have := congrArg List.length e
    rw [List.length_append, List.length_cons] at this
    have e8 : eightN.length = 8 := rfl
    rw [List.length_map]
    omega
  show (if candB aT (some (fOne x)) = true then (if (fOne x).name ∈ nmsOf (p.map fOne) then Out.no "Taken" "taken" else if (p.map fOne).length = 8 then .no "Full" "full" else .yes (aT, insO (fOne x) (p.map fOne))) else .no "NoOne" "one") = _
  rw [if_pos (vo_cand (fOne_vo (eight_nm x hx))), if_neg hn, if_neg hl, insO_end]
  · rw [List.map_append]; rfl
  · intro o ho
    obtain ⟨y, hy, rfl⟩ := List.mem_map.mp ho
    exact lt y hy
def zOne : One := ⟨"z", ["a"], 1, 1⟩
def a2One : One := ⟨"a", ["a"], 2, 2⟩
theorem z_vo : VO aT zOne := ⟨by decide +kernel, fun x hx => hx, trivial, (fun z => nomatch z), ⟨by show (0 : Int) ≤ 1; decide, by show (1 : Int) ≤ 1000; decide⟩, ⟨by show (1 : Int) ≤ 1; decide, by show (1 : Int) ≤ 9; decide⟩⟩
theorem a2_vo : VO aT a2One := ⟨by decide +kernel, fun x hx => hx, trivial, (fun z => nomatch z), ⟨by show (0 : Int) ≤ 2; decide, by show (2 : Int) ≤ 1000; decide⟩, ⟨by show (1 : Int) ≤ 2; decide, by show (2 : Int) ≤ 9; decide⟩⟩
theorem act_z : act (aT, eightN.map fOne) (.come (some zOne)) = .no "Full" "full" := by
  show (if candB aT (some zOne) = true then (if zOne.name ∈ nmsOf (eightN.map fOne) then Out.no "Taken" "taken" else if (eightN.map fOne).length = 8 then .no "Full" "full" else .yes (aT, insO zOne (eightN.map fOne))) else .no "NoOne" "one") = _
  rw [if_pos (vo_cand z_vo), if_neg (by decide +kernel), if_pos (show (eightN.map fOne).length = 8 from rfl)]
theorem act_a : act (aT, eightN.map fOne) (.come (some a2One)) = .no "Taken" "taken" := by
  show (if candB aT (some a2One) = true then (if a2One.name ∈ nmsOf (eightN.map fOne) then Out.no "Taken" "taken" else if (eightN.map fOne).length = 8 then .no "Full" "full" else .yes (aT, insO a2One (eightN.map fOne))) else .no "NoOne" "one") = _
  rw [if_pos (vo_cand a2_vo), if_pos (by decide +kernel)]
theorem cand_z : CandOk (some zOne) := ⟨z_vo.nm, trivial, by show 1 ≤ 1000; decide⟩
theorem cand_a : CandOk (some a2One) := ⟨a2_vo.nm, trivial, by show 1 ≤ 1000; decide⟩
theorem cand_f {x : Str} (h : Name x) : CandOk (some (fOne x)) := ⟨h, trivial, by show 1 ≤ 1000; decide⟩
end G


set_option Elab.async false
set_option maxRecDepth 100000
set_option maxHeartbeats 8000000
/-! RH_K51: the law. -/
namespace K51
open PySem PySem.Spec PyProof.Rows L2 G
open PySem.W (Datum)
/-- the slots of law -/
def lst (ns : List Int) (t : List (Str × Int)) (a b : Addr) (rs : List Rw) (s4 s5 s6 s7 s8 : Sl) : Ms := [.scr ns, .dat (tsD t), .own (rsD rs), .ob a b (rsD rs), s4, s5, s6, s7, s8, .un]
theorem stand_ok {ns : List Int} {t : List (Str × Int)} {a b : Addr} {rs : List Rw} {r t0 : Rw} {s4 s5 s6 s7 s8 : Sl} {R : Bool → Ms → Prop} (h : BkI t0 rs r) (q : R false (lst ns t a b rs s4 s5 s6 s7 s8)) :
    mNot (mT (mCallR p__law_stands Wish.no.RE 0 3 (mHere 3 (mCons (mIx (mIxV 2 (mNeg (mC (.int 1)))) (mC (.int 0))) (mCons (mIx (mIxV 2 (mNeg (mC (.int 1)))) (mC (.int 1))) (mNil)))))) (lst ns t a b rs s4 s5 s6 s7 s8) R := by
  refine ix_lastR h.last ?_
  refine ix_lastR h.last ?_
  refine ⟨a, b, rs, r, h.last, h.ok, rfl, ⟨rfl, ?_⟩⟩
  exact q
theorem turn_ok {ns : List Int} {t : List (Str × Int)} {a b : Addr} {rs : List Rw} {r : Rw} {s5 : Sl} {m : Nat} {D : PEnd} (hm : m < 10000) (ht : VT t) (h : BkI (t, []) rs r) (hlen : rs.length < 900) (f5 : freeO s5 = true)
    (q : ∀ rs' r' d', BkI (t, []) rs' r' → rs'.length ≤ rs.length + 1 → D.nx (lst ns t a b rs' (.dat (.int (m : Int))) (.dat d') .un .un .un)) :
  mSeq (mSet 5 (mCallT p__law_deed Wish.no.RE (mCallRN p__law_well Wish.no.RE 0 0 (mHere 0 (mCons (mVar 4) (mNil)))) (mCons (mIx (mIxV 2 (mNeg (mC (.int 1)))) (mC (.int 0))) (mCons (mIx (mIxV 2 (mNeg (mC (.int 1)))) (mC (.int 1))) (mNil)))))
  (mSeq (mIfS (mOr (mCmpB neD (mCallR p__law_done Wish.no.RE 0 3 (mHere 3 (mCons (mVar 5) (mNil)))) (mCallR p__law_due Wish.no.RE 0 2 (mHere 2 (mCons (mVar 5) (mNil))))) (mNot (mT (mCallR p__law_stands Wish.no.RE 0 3 (mHere 3 (mCons (mIx (mIxV 2 (mNeg (mC (.int 1)))) (mC (.int 0))) (mCons (mIx (mIxV 2 (mNeg (mC (.int 1)))) (mC (.int 1))) (mNil))))))))
  (mRet (mC (.bool false)))
  (mNx))
  (mSeq (mIfS (mOr (mT (mEqD 3 (mIxV 2 (mNeg (mC (.int 1)))))) (mCmpB neD (mEqBB 3 (mBook p_need_things (mVar 1))) (mCmp eqD (mIxV 2 (mNeg (mC (.int 1)))) (mTup (mCons (mVar 1) (mCons (mTup (mNil)) (mNil)))))))
  (mRet (mC (.bool false)))
  (mNx))
  (mDrop (mTmpApp (mMethN p_Book_left 3) (mC (.int 1)))))) D (lst ns t a b rs (.dat (.int (m : Int))) s5 .un .un .un) := by
  refine seq_by (fun ρ' => ∃ dd, DeedOk dd ∧ ρ' = lst ns t a b rs (.dat (.int (m : Int))) (.dat (deedD dd)) .un .un .un) (fun K k => ?_) ?_
  · refine ⟨ns, m, hm, rfl, fun d hd => ?_⟩
    refine ix_lastR h.last ?_
    refine ix_lastR h.last ?_
    intro a'
    refine ⟨a', d, r.1, r.2, hd, h.ok.1, h.ok.2, rfl, fun dd d' hdd _ => ?_⟩
    exact gn_free (i := 5) f5 (k _ ⟨dd, hdd, rfl⟩)
  rintro _ ⟨dd, hdd, rfl⟩
  obtain ⟨r', h', hl'⟩ := h.done hdd
  refine seq_to (lst ns t a b (doneR rs r dd) (.dat (.int (m : Int))) (.dat (deedD dd)) .un .un .un) (fun K k => ?_) ?_
  · refine ⟨a, b, rs, r, dd, h.last, h.ok, hdd, by omega, rfl, ⟨rfl, ?_⟩⟩
    intro a'
    refine ⟨a', rs, r, dd, h.last, h.ok, hdd, by omega, rfl, ?_⟩
    refine ne_word ?_
    refine iteNo rfl ?_
    exact stand_ok h' k
  generalize doneR rs r dd = rs' at h' hl' ⊢
  have hok := h'.ok
  refine seq_to (lst ns t a b rs' (.dat (.int (m : Int))) (.dat (deedD dd)) .un .un .un) (fun K k => ?_) ?_
  · have e1 : (rs'.map rwD).getLast? = some (rwD r') := by rw [List.getLast?_map, h'.last]; rfl
    have step : ∀ R : PyData → Ms → Prop, (R (.bool (decide (r' = (t, [])))) (lst ns t a b rs' (.dat (.int (m : Int))) (.dat (deedD dd)) .un .un .un)) → mEqBB 3 (mBook p_need_things (mVar 1)) (lst ns t a b rs' (.dat (.int (m : Int))) (.dat (deedD dd)) .un .un .un) R := fun R q2 => by
      refine ⟨⟨t, ht, rfl, trivial⟩, ?_⟩
      show (match (rs'.map rwD).getLast?, [rwD (t, [])].getLast? with
        | some y, some z => eqD y z fun bb => R (.bool bb) _
        | _, _ => False)
      rw [e1]
      exact eq_rw q2
    refine ix_lastR h'.last ?_
    obtain ⟨x, xs, ex⟩ := h'.cons
    have tst : ∀ A : Prop, A → (match slot (lst ns t a b rs' (.dat (.int (m : Int))) (.dat (deedD dd)) .un .un .un) 3 with
      | .ob _ _ (.list (_ :: _)) => A
      | _ => False) := fun A hA => by subst ex; exact hA
    refine ⟨rfl, tst _ ?_⟩
    refine iteNo (b := false) rfl ?_
    refine step _ ?_
    refine ix_lastR h'.last ?_
    refine eq_rw (s := (t, [])) ?_
    refine ne_bool ?_
    exact k
  refine ⟨a, b, rs', r', h'.last, h'.ok, rfl, ⟨rfl, ?_⟩⟩
  refine ⟨⟨_, rfl, ?_⟩, ?_⟩
  · unfold sharesOf
    rw [List.length_map, List.length_map]
    exact Nat.lt_of_le_of_lt (hok.2.sub (leftOf_sub r'.2)).le (by decide)
  · exact q rs' r' (deedD dd) h' hl'
theorem head_run2 {l : List Int} {ρ : Ms} {R : List PyData → Ms → Prop} (q : ∀ m : Nat, m ≤ 100 → R (rangeD2 1 m) (.scr l :: ρ)) :
    iRg2 (mC (.int 1)) (mCallM max2D (mCons (mC (.int 18)) (mCons (mCallM min2D (mCons (mC (.int 40)) (mCons (mLenS 0) mNil))) mNil))) (.scr l :: ρ) R := by
  have e : 0 ≤ (if (if (l.length : Int) < 40 then (l.length : Int) else 40) > 18 then (if (l.length : Int) < 40 then (l.length : Int) else 40) else 18) ∧ (if (if (l.length : Int) < 40 then (l.length : Int) else 40) > 18 then (if (l.length : Int) < 40 then (l.length : Int) else 40) else 18) ≤ 100 := by
    split <;> split <;> omega
  show (-10000 ≤ (1 : Int) ∧ (1 : Int) < 10000 ∧ -10000 ≤ (if (if (l.length : Int) < 40 then (l.length : Int) else 40) > 18 then (if (l.length : Int) < 40 then (l.length : Int) else 40) else 18) ∧ (if (if (l.length : Int) < 40 then (l.length : Int) else 40) > 18 then (if (l.length : Int) < 40 then (l.length : Int) else 40) else 18) < 10000) ∧
    R (rangeD2 1 (Int.toNat ((if (if (l.length : Int) < 40 then (l.length : Int) else 40) > 18 then (if (l.length : Int) < 40 then (l.length : Int) else 40) else 18) - 1))) (.scr l :: ρ)
  exact ⟨⟨by omega, by omega, by omega, by omega⟩, q _ (by omega)⟩
theorem vf_nil {t : List (Str × Int)} : VF t [] := ⟨by show 0 ≤ 8; decide, (fun o ho => nomatch ho), trivial⟩
theorem i0_ok {t : List (Str × Int)} (ht : VT t) : BkI (t, []) [(t, [])] (t, []) := ⟨rfl, fun x hx => by rw [List.mem_singleton] at hx; subst hx; exact ⟨ht, vf_nil⟩, rfl⟩
theorem pure_law (ss : List Sl) (R) (RE) (h : p_law ss R RE) : b_law p__law_things p__law_well p_need_things p__law_deed p__law_done p__law_due p__law_stands p_Book_left p_Book_back p_Book_come ss R RE := by
  obtain ⟨ns, hns, rfl, h⟩ := h
  refine ⟨rfl, (fun e m => by rw [List.mem_singleton] at m; cases m), ?_⟩
  refine seq_by (fun ρ' => ∃ t, VT t ∧ ρ' = [.scr ns, .dat (tsD t), .un, .un, .un, .un, .un, .un, .un, .un]) (fun K k => ?_) ?_
  · refine ⟨ns, 0, by decide, rfl, fun d hd => ?_⟩
    intro a
    refine ⟨a, d, 5, hd, by decide, by decide, rfl, fun t d' ht _ _ => ?_⟩
    exact k _ ⟨t, ht, rfl⟩
  rintro _ ⟨t, ht, rfl⟩
  refine seq_by (fun ρ' => ∃ a b, ρ' = lst ns t a b [(t, [])] .un .un .un .un .un) (fun K k => ?_) ?_
  · exact ⟨⟨t, ht, rfl, trivial⟩, fun a b => ⟨rfl, k _ ⟨a, b, rfl⟩⟩⟩
  rintro _ ⟨a, b, rfl⟩
  refine seq_by (fun ρ' => ∃ rs r s4 s5, BkI (t, []) rs r ∧ freeO s4 = true ∧ freeO s5 = true ∧ ρ' = lst ns t a b rs s4 s5 .un .un .un) (fun K k => ?_) ?_
  · refine head_run2 fun j hj => ?_
    · refine forL (fun (x : Nat) => PyData.int (1 + (x : Int))) (List.range j) (fun p ρ => ∃ rs r s4 s5, BkI (t, []) rs r ∧ rs.length ≤ p.length + 1 ∧ freeO s4 = true ∧ freeO s5 = true ∧ ρ = lst ns t a b rs s4 s5 .un .un .un)
        ⟨_, _, .un, .un, i0_ok ht, Nat.le_refl _, rfl, rfl, rfl⟩ (fun ρ ⟨rs, r, s4, s5, hI, _, f4, f5, e⟩ => k _ ⟨rs, r, s4, s5, hI, f4, f5, e⟩) ?_
      rintro p x q _ N e ⟨rs, r, s4, s5, hI, hl, f4, f5, rfl⟩ kn
      have hx : x ∈ List.range j := by rw [e]; simp
      have hx2 := List.mem_range.mp hx
      have hp : p.length ≤ j := by
        have := congrArg List.length e
        rw [List.length_range, List.length_append, List.length_cons] at this
        omega
      refine gn_free (i := 4) f4 ?_
      have ec : (1 + (x : Int)) = ((1 + x : Nat) : Int) := by omega
      rw [ec]
      exact turn_ok (m := 1 + x) (by omega) ht hI (by omega) f5 fun rs' r' d' hI' hl' => kn _ ⟨rs', r', _, _, hI', by rw [List.length_append]; show rs'.length ≤ p.length + 1 + 1; omega, rfl, rfl, rfl⟩
  rintro _ ⟨rs, r, s4, s5, hI, f4, f5, rfl⟩
  refine seq_to (lst ns t a b [(t, [])] s4 s5 .un .un .un) (fun K k => ?_) ?_
  · refine whileL (fun m ρ => ∃ rs r, m = rs.length ∧ BkI (t, []) rs r ∧ ρ = lst ns t a b rs s4 s5 .un .un .un) rs.length ⟨rs, r, rfl, hI, rfl⟩ ?_
    clear hI
    rintro m _ ⟨rs, r, rfl, hI, rfl⟩
    refine iteB (fun hb => ?_) (fun hb => ?_)
    · have hb := of_decide_eq_true hb
      rw [List.length_map] at hb
      have hn : rs.length ≠ 1 := by omega
      obtain ⟨r', hI'⟩ := hI.drop hn
      refine seq_to [.scr ns, .dat (tsD t), .own (rsD rs.dropLast), .ob a b (rsD rs), s4, s5, .un, .un, .un, .un] (fun K k => ?_) ?_
      · refine last_rs hI.last ?_
        show K [.scr ns, .dat (tsD t), .own (.list (rs.map rwD).dropLast), .ob a b (rsD rs), s4, s5, .un, .un, .un, .un]
        rw [← List.map_dropLast]
        exact k
      refine ⟨a, b, rs, r, hI.last, rfl, fun z => hn z, fun _ => ⟨rfl, ?_⟩⟩
      refine iteNo (b := false) rfl ?_
      refine stand_ok hI' ?_
      exact ⟨rs.dropLast.length, by rw [List.length_dropLast]; omega, rs.dropLast, r', rfl, hI', rfl⟩
    · have hb := of_decide_eq_false hb
      rw [List.length_map] at hb
      obtain ⟨rfl, rfl⟩ := hI.one (by omega)
      exact k
  refine seq_by (fun ρ' => ∃ a2 b2, ρ' = lst ns t a b [(t, [])] s4 s5 (.ob a2 b2 (rsD [(aT, [])])) .un .un) (fun K k => ?_) ?_
  · exact ⟨⟨aT, aT_ok, rfl, trivial⟩, rfl, fun a2 b2 => k _ ⟨a2, b2, rfl⟩⟩
  rintro _ ⟨a2, b2, rfl⟩
  refine seq_by (fun ρ' => ∃ rs s7, BkI (aT, []) rs (aT, eightN.map fOne) ∧ rs.length < 100 ∧ freeO s7 = true ∧ ρ' = lst ns t a b [(t, [])] s4 s5 (.ob a2 b2 (rsD rs)) s7 .un) (fun K k => ?_) ?_
  · refine ⟨by decide +kernel, ?_⟩
    show mForL _ _ _ (letters "abcdefgh") _
    rw [eight_letters]
    · refine forL sD eightN (fun p ρ => ∃ rs s7, BkI (aT, []) rs (aT, p.map fOne) ∧ rs.length = p.length + 1 ∧ freeO s7 = true ∧ ρ = lst ns t a b [(t, [])] s4 s5 (.ob a2 b2 (rsD rs)) s7 .un)
        ⟨_, .un, i0_ok aT_ok, rfl, rfl, rfl⟩ (fun ρ ⟨rs, s7, hI, hl, f7, e⟩ => k _ ⟨rs, s7, hI, by rw [hl]; decide, f7, e⟩) ?_
      rintro p x q _ N e ⟨rs, s7, hI, hl, f7, rfl⟩ kn
      have hx : x ∈ eightN := by rw [e]; simp
      have hp : p.length < 8 := by
        have := congrArg List.length e
        rw [List.length_append, List.length_cons] at this
        have e8 : eightN.length = 8 := rfl
        omega
      refine gn_free (i := 7) f7 ?_
      refine ⟨a2, b2, rs, (aT, p.map fOne), some (fOne x), hI.last, hI.ok, cand_f (eight_nm x hx), by omega, rfl, ?_⟩
      rw [act_full e]
      refine ⟨rfl, kn _ ⟨rs ++ [(aT, (p ++ [x]).map fOne)], _, hI.snoc ⟨aT_ok, eight_vf ?_⟩, by rw [List.length_append, List.length_append, hl]; rfl, rfl, rfl⟩⟩
      rw [e, show p ++ x :: q = (p ++ [x]) ++ q by simp]
      exact List.sublist_append_left _ _
  rintro _ ⟨rs, s7, hI, hl, f7, rfl⟩
  refine seq_to (lst ns t a b [(t, [])] s4 s5 (.ob a2 b2 (rsD rs)) s7 (.dat (.list [.str "full", .str "taken", .str "one"]))) (fun K k => ?_) ?_
  · refine ⟨a2, b2, rs, _, .come (some zOne), hI.last, hI.ok, cand_z, by omega, rfl, ?_⟩
    rw [(done_no (rs := rs) (dd := .come (some zOne)) (fun z => nomatch z) act_z).1, (done_no (rs := rs) (dd := .come (some zOne)) (fun z => nomatch z) act_z).2]
    refine ⟨rfl, ?_⟩
    refine ⟨a2, b2, rs, _, .come (some a2One), hI.last, hI.ok, cand_a, by omega, rfl, ?_⟩
    rw [(done_no (rs := rs) (dd := .come (some a2One)) (fun z => nomatch z) act_a).1, (done_no (rs := rs) (dd := .come (some a2One)) (fun z => nomatch z) act_a).2]
    refine ⟨rfl, ?_⟩
    refine ⟨a2, b2, rs, _, .come none, hI.last, hI.ok, trivial, by omega, rfl, ?_⟩
    refine ⟨rfl, ?_⟩
    exact k
  refine eq_dat (α := List Str) (a := ["full", "taken", "one"]) (b := ["full", "taken", "one"]) ?_
  refine iteY (by decide) ?_
  refine ⟨a, b, [(t, [])], (t, []), .back, rfl, (i0_ok ht).ok, trivial, (by show 1 < 1000; decide), rfl, ⟨rfl, ?_⟩⟩
  refine eq_dat (α := Str) (a := "back") (b := "back") ?_
  refine iteY (by decide) ?_
  refine ⟨⟨t, ht, rfl, trivial⟩, ?_⟩
  refine eq_rw (r := (t, [])) (s := (t, [])) ?_
  rw [decide_eq_true rfl]
  exact h
end K51


set_option Elab.async false
set_option maxRecDepth 100000
set_option maxHeartbeats 4000000
namespace K51
open PySem PySem.Spec PyProof.Rows L2 G GH
theorem kit_own {K : PySem.W.Frag} {D C : Addr} {b : Bool} (t : PySem.W.typeIn K (.ref C) = some (.type "type")) (i : PySem.W.isClsIn K C = true) (s : PySem.W.subIn K (.ref C) (.ref C) = some true) (h : PySem.W.subIn K (.ref D) (.ref C) = some b) : PySem.W.kitOne K (.ref D) (.ref C) = some b := by
  have i' : (PySem.W.clsIn K C).isSome = true := i
  unfold PySem.W.kitOne
  by_cases e : D = C
  · subst e
    rw [s] at h
    cases h
    simp
  · have n : ((Value.ref D) == (Value.ref C)) = false := by simpa using e
    rw [n, if_neg Bool.false_ne_true]
    show (if ((PySem.W.clsIn K C).isSome && PySem.W.typeIn K (.ref C) == some (.type "type")) = true then PySem.W.subIn K (.ref D) (.ref C) else none) = some b
    rw [i', t, if_pos (by rfl)]
    exact h
theorem kit_ty5 {K : PySem.W.Frag} {T : String} {C : Addr} {b : Bool} (t : PySem.W.typeIn K (.ref C) = some (.type "type")) (i : PySem.W.isClsIn K C = true) (h : PySem.W.subIn K (.type T) (.ref C) = some b) : PySem.W.kitOne K (.type T) (.ref C) = some b := by
  have i' : (PySem.W.clsIn K C).isSome = true := i
  unfold PySem.W.kitOne
  have n : ((Value.type T) == (Value.ref C)) = false := by simp
  rw [n, if_neg Bool.false_ne_true]
  show (if ((PySem.W.clsIn K C).isSome && PySem.W.typeIn K (.ref C) == some (.type "type")) = true then PySem.W.subIn K (.type T) (.ref C) else none) = some b
  rw [i', t, if_pos (by rfl)]
  exact h
theorem kit_ve {K : PySem.W.Frag} {D : Addr} {b : Bool} (h : PySem.W.subIn K (.ref D) (.type "ValueError") = some b) : PySem.W.kitOne K (.ref D) (.type "ValueError") = some b := by
  unfold PySem.W.kitOne
  have n : ((Value.ref D) == (Value.type "ValueError")) = false := by simp
  rw [n, if_neg Bool.false_ne_true]
  show (if PySem.W.kitMeta "ValueError" = true then PySem.W.subIn K (.ref D) (.type "ValueError") else none) = some b
  rw [if_pos (by decide +kernel)]
  exact h
/-! ### the end -/
theorem all_mk {l : PySem.W.OpenLaw} {w : World} {K : PySem.W.Frag} {h : Heap} {mg : Str → Option Value} {fa CB f_divisor f_fraction f_plus f_is_less f_is_whole f_is_name f_is_number f_are_rising f_are_things f_are_of f_is_one f_are_folk_of f_need_things f_need_folk f_need_lot f_names_of f_are_folk f_shares_of f_shares f_left_of f_would_pay f_left f__law_well f__law_take f__law_is_int f__law_kinds f__law_refusal f__law_things f__law_one f__law_said f__law_done f__law_deed f__law_due f__law_stands f_law f_Book___init__ f_Book___len__ f_Book___eq__ f_Book_need_name f_Book_come f_Book_go f_Book_say f_Book_price f_Book_back f_Book_things f_Book_folk f_Book_left C_NoThings C_NoFolk C_NoLot C_NoOrder C_NoOne C_NoWorth C_NoThing C_NoCost C_Taken C_Full C_NotThere C_NothingLeft C_PayError : Addr} (X : K.In h) (G : h.Ns mainGlobals mg) (hfa : mg "law" = some (.ref fa))
    (n_Book : PySem.W.nsIn K mainGlobals "Book" = some (some (.ref CB)))
    (pg_Book : PySem.W.plainGet K CB Str.empty = true)
    (hd_Book : PySem.W.hasDictIn K CB = true)
    (po_Book : PySem.W.plainOver K CB = true)
    (sa_Book : PySem.W.findIn K (.ref CB) "__setattr__" = some (some (.builtin "object.__setattr__")))
    (no_Book : PySem.W.findIn K (.ref CB) "rows" = some none)
    (ha_Book : PySem.W.findIn K (.ref CB) "__class__" = some (some (.builtin "object.__class__")))
    (hn_o : PySem.W.specialIn K (.builtin "object.__class__") "__get__" = some (some (.builtin "getset_descriptor.__get__")))
    (ht_o : PySem.W.takesIn K (.builtin "object.__class__") = some true)
    (hm_Book : PySem.W.mroIn K CB (.type "object") = some true)
    (ty_Book : PySem.W.typeIn K (.ref CB) = some (.type "type"))
    (is_Book : PySem.W.isClsIn K CB = true)
    (ss_Book : PySem.W.subIn K (.ref CB) (.ref CB) = some true)
    (st_Book : PySem.W.subIn K (.type "tuple") (.ref CB) = some false)
    (nT_Book : PySem.W.notFirst K CB (.type "tuple") = true)
    (mk_Book : PySem.W.makesIn K CB = true)
    (kp_Book : PySem.W.keepIn K (.ref CB) = true)
    {od_divisor an_divisor : Option Addr} {sl_divisor : Array (Option Value)} {oc_divisor kV_divisor dc_divisor pm_divisor cd_divisor ct_divisor : Value}
    (a_divisor : PySem.W.nsIn K mainGlobals "divisor" = some (some (.ref f_divisor)))
    (l_divisor : K.lookup f_divisor = some ⟨oc_divisor, od_divisor, .func (PySem.W.fnOf "divisor" "divisor" (defArgs s_divisor) (defBody s_divisor) (defScope s_divisor) .none kV_divisor dc_divisor pm_divisor an_divisor cd_divisor ct_divisor), sl_divisor⟩)
    (c_divisor : PySem.W.codeIn K cd_divisor "divisor" = true)
    (k_divisor : PySem.W.keepIn K (.ref f_divisor) = true)
    {od_fraction an_fraction : Option Addr} {sl_fraction : Array (Option Value)} {oc_fraction kV_fraction dc_fraction pm_fraction cd_fraction ct_fraction : Value}
    (a_fraction : PySem.W.nsIn K mainGlobals "fraction" = some (some (.ref f_fraction)))
    (l_fraction : K.lookup f_fraction = some ⟨oc_fraction, od_fraction, .func (PySem.W.fnOf "fraction" "fraction" (defArgs s_fraction) (defBody s_fraction) (defScope s_fraction) .none kV_fraction dc_fraction pm_fraction an_fraction cd_fraction ct_fraction), sl_fraction⟩)
    (c_fraction : PySem.W.codeIn K cd_fraction "fraction" = true)
    (k_fraction : PySem.W.keepIn K (.ref f_fraction) = true)
    {od_plus an_plus : Option Addr} {sl_plus : Array (Option Value)} {oc_plus kV_plus dc_plus pm_plus cd_plus ct_plus : Value}
    (a_plus : PySem.W.nsIn K mainGlobals "plus" = some (some (.ref f_plus)))
    (l_plus : K.lookup f_plus = some ⟨oc_plus, od_plus, .func (PySem.W.fnOf "plus" "plus" (defArgs s_plus) (defBody s_plus) (defScope s_plus) .none kV_plus dc_plus pm_plus an_plus cd_plus ct_plus), sl_plus⟩)
    (c_plus : PySem.W.codeIn K cd_plus "plus" = true)
    (k_plus : PySem.W.keepIn K (.ref f_plus) = true)
    {od_is_less an_is_less : Option Addr} {sl_is_less : Array (Option Value)} {oc_is_less kV_is_less dc_is_less pm_is_less cd_is_less ct_is_less : Value}
    (a_is_less : PySem.W.nsIn K mainGlobals "is_less" = some (some (.ref f_is_less)))
    (l_is_less : K.lookup f_is_less = some ⟨oc_is_less, od_is_less, .func (PySem.W.fnOf "is_less" "is_less" (defArgs s_is_less) (defBody s_is_less) (defScope s_is_less) .none kV_is_less dc_is_less pm_is_less an_is_less cd_is_less ct_is_less), sl_is_less⟩)
    (c_is_less : PySem.W.codeIn K cd_is_less "is_less" = true)
    (k_is_less : PySem.W.keepIn K (.ref f_is_less) = true)
    {od_is_whole an_is_whole : Option Addr} {sl_is_whole : Array (Option Value)} {oc_is_whole kV_is_whole dc_is_whole pm_is_whole cd_is_whole ct_is_whole : Value}
    (a_is_whole : PySem.W.nsIn K mainGlobals "is_whole" = some (some (.ref f_is_whole)))
    (l_is_whole : K.lookup f_is_whole = some ⟨oc_is_whole, od_is_whole, .func (PySem.W.fnOf "is_whole" "is_whole" (defArgs s_is_whole) (defBody s_is_whole) (defScope s_is_whole) .none kV_is_whole dc_is_whole pm_is_whole an_is_whole cd_is_whole ct_is_whole), sl_is_whole⟩)
    (c_is_whole : PySem.W.codeIn K cd_is_whole "is_whole" = true)
    (k_is_whole : PySem.W.keepIn K (.ref f_is_whole) = true)
    {od_is_name an_is_name : Option Addr} {sl_is_name : Array (Option Value)} {oc_is_name kV_is_name dc_is_name pm_is_name cd_is_name ct_is_name : Value}
    (a_is_name : PySem.W.nsIn K mainGlobals "is_name" = some (some (.ref f_is_name)))
    (l_is_name : K.lookup f_is_name = some ⟨oc_is_name, od_is_name, .func (PySem.W.fnOf "is_name" "is_name" (defArgs s_is_name) (defBody s_is_name) (defScope s_is_name) .none kV_is_name dc_is_name pm_is_name an_is_name cd_is_name ct_is_name), sl_is_name⟩)
    (c_is_name : PySem.W.codeIn K cd_is_name "is_name" = true)
    (k_is_name : PySem.W.keepIn K (.ref f_is_name) = true)
    {od_is_number an_is_number : Option Addr} {sl_is_number : Array (Option Value)} {oc_is_number kV_is_number dc_is_number pm_is_number cd_is_number ct_is_number : Value}
    (a_is_number : PySem.W.nsIn K mainGlobals "is_number" = some (some (.ref f_is_number)))
    (l_is_number : K.lookup f_is_number = some ⟨oc_is_number, od_is_number, .func (PySem.W.fnOf "is_number" "is_number" (defArgs s_is_number) (defBody s_is_number) (defScope s_is_number) .none kV_is_number dc_is_number pm_is_number an_is_number cd_is_number ct_is_number), sl_is_number⟩)
    (c_is_number : PySem.W.codeIn K cd_is_number "is_number" = true)
    (k_is_number : PySem.W.keepIn K (.ref f_is_number) = true)
    {od_are_rising an_are_rising : Option Addr} {sl_are_rising : Array (Option Value)} {oc_are_rising kV_are_rising dc_are_rising pm_are_rising cd_are_rising ct_are_rising : Value}
    (a_are_rising : PySem.W.nsIn K mainGlobals "are_rising" = some (some (.ref f_are_rising)))
    (l_are_rising : K.lookup f_are_rising = some ⟨oc_are_rising, od_are_rising, .func (PySem.W.fnOf "are_rising" "are_rising" (defArgs s_are_rising) (defBody s_are_rising) (defScope s_are_rising) .none kV_are_rising dc_are_rising pm_are_rising an_are_rising cd_are_rising ct_are_rising), sl_are_rising⟩)
    (c_are_rising : PySem.W.codeIn K cd_are_rising "are_rising" = true)
    (k_are_rising : PySem.W.keepIn K (.ref f_are_rising) = true)
    {od_are_things an_are_things : Option Addr} {sl_are_things : Array (Option Value)} {oc_are_things kV_are_things dc_are_things pm_are_things cd_are_things ct_are_things : Value}
    (a_are_things : PySem.W.nsIn K mainGlobals "are_things" = some (some (.ref f_are_things)))
    (l_are_things : K.lookup f_are_things = some ⟨oc_are_things, od_are_things, .func (PySem.W.fnOf "are_things" "are_things" (defArgs s_are_things) (defBody s_are_things) (defScope s_are_things) .none kV_are_things dc_are_things pm_are_things an_are_things cd_are_things ct_are_things), sl_are_things⟩)
    (c_are_things : PySem.W.codeIn K cd_are_things "are_things" = true)
    (k_are_things : PySem.W.keepIn K (.ref f_are_things) = true)
    {od_are_of an_are_of : Option Addr} {sl_are_of : Array (Option Value)} {oc_are_of kV_are_of dc_are_of pm_are_of cd_are_of ct_are_of : Value}
    (a_are_of : PySem.W.nsIn K mainGlobals "are_of" = some (some (.ref f_are_of)))
    (l_are_of : K.lookup f_are_of = some ⟨oc_are_of, od_are_of, .func (PySem.W.fnOf "are_of" "are_of" (defArgs s_are_of) (defBody s_are_of) (defScope s_are_of) .none kV_are_of dc_are_of pm_are_of an_are_of cd_are_of ct_are_of), sl_are_of⟩)
    (c_are_of : PySem.W.codeIn K cd_are_of "are_of" = true)
    (k_are_of : PySem.W.keepIn K (.ref f_are_of) = true)
    {od_is_one an_is_one : Option Addr} {sl_is_one : Array (Option Value)} {oc_is_one kV_is_one dc_is_one pm_is_one cd_is_one ct_is_one : Value}
    (a_is_one : PySem.W.nsIn K mainGlobals "is_one" = some (some (.ref f_is_one)))
    (l_is_one : K.lookup f_is_one = some ⟨oc_is_one, od_is_one, .func (PySem.W.fnOf "is_one" "is_one" (defArgs s_is_one) (defBody s_is_one) (defScope s_is_one) .none kV_is_one dc_is_one pm_is_one an_is_one cd_is_one ct_is_one), sl_is_one⟩)
    (c_is_one : PySem.W.codeIn K cd_is_one "is_one" = true)
    (k_is_one : PySem.W.keepIn K (.ref f_is_one) = true)
    {od_are_folk_of an_are_folk_of : Option Addr} {sl_are_folk_of : Array (Option Value)} {oc_are_folk_of kV_are_folk_of dc_are_folk_of pm_are_folk_of cd_are_folk_of ct_are_folk_of : Value}
    (a_are_folk_of : PySem.W.nsIn K mainGlobals "are_folk_of" = some (some (.ref f_are_folk_of)))
    (l_are_folk_of : K.lookup f_are_folk_of = some ⟨oc_are_folk_of, od_are_folk_of, .func (PySem.W.fnOf "are_folk_of" "are_folk_of" (defArgs s_are_folk_of) (defBody s_are_folk_of) (defScope s_are_folk_of) .none kV_are_folk_of dc_are_folk_of pm_are_folk_of an_are_folk_of cd_are_folk_of ct_are_folk_of), sl_are_folk_of⟩)
    (c_are_folk_of : PySem.W.codeIn K cd_are_folk_of "are_folk_of" = true)
    (k_are_folk_of : PySem.W.keepIn K (.ref f_are_folk_of) = true)
    {od_need_things an_need_things : Option Addr} {sl_need_things : Array (Option Value)} {oc_need_things kV_need_things dc_need_things pm_need_things cd_need_things ct_need_things : Value}
    (a_need_things : PySem.W.nsIn K mainGlobals "need_things" = some (some (.ref f_need_things)))
    (l_need_things : K.lookup f_need_things = some ⟨oc_need_things, od_need_things, .func (PySem.W.fnOf "need_things" "need_things" (defArgs s_need_things) (defBody s_need_things) (defScope s_need_things) .none kV_need_things dc_need_things pm_need_things an_need_things cd_need_things ct_need_things), sl_need_things⟩)
    (c_need_things : PySem.W.codeIn K cd_need_things "need_things" = true)
    (k_need_things : PySem.W.keepIn K (.ref f_need_things) = true)
    {od_need_folk an_need_folk : Option Addr} {sl_need_folk : Array (Option Value)} {oc_need_folk kV_need_folk dc_need_folk pm_need_folk cd_need_folk ct_need_folk : Value}
    (a_need_folk : PySem.W.nsIn K mainGlobals "need_folk" = some (some (.ref f_need_folk)))
    (l_need_folk : K.lookup f_need_folk = some ⟨oc_need_folk, od_need_folk, .func (PySem.W.fnOf "need_folk" "need_folk" (defArgs s_need_folk) (defBody s_need_folk) (defScope s_need_folk) .none kV_need_folk dc_need_folk pm_need_folk an_need_folk cd_need_folk ct_need_folk), sl_need_folk⟩)
    (c_need_folk : PySem.W.codeIn K cd_need_folk "need_folk" = true)
    (k_need_folk : PySem.W.keepIn K (.ref f_need_folk) = true)
    {od_need_lot an_need_lot : Option Addr} {sl_need_lot : Array (Option Value)} {oc_need_lot kV_need_lot dc_need_lot pm_need_lot cd_need_lot ct_need_lot : Value}
    (a_need_lot : PySem.W.nsIn K mainGlobals "need_lot" = some (some (.ref f_need_lot)))
    (l_need_lot : K.lookup f_need_lot = some ⟨oc_need_lot, od_need_lot, .func (PySem.W.fnOf "need_lot" "need_lot" (defArgs s_need_lot) (defBody s_need_lot) (defScope s_need_lot) .none kV_need_lot dc_need_lot pm_need_lot an_need_lot cd_need_lot ct_need_lot), sl_need_lot⟩)
    (c_need_lot : PySem.W.codeIn K cd_need_lot "need_lot" = true)
    (k_need_lot : PySem.W.keepIn K (.ref f_need_lot) = true)
    {od_names_of an_names_of : Option Addr} {sl_names_of : Array (Option Value)} {oc_names_of kV_names_of dc_names_of pm_names_of cd_names_of ct_names_of : Value}
    (a_names_of : PySem.W.nsIn K mainGlobals "names_of" = some (some (.ref f_names_of)))
    (l_names_of : K.lookup f_names_of = some ⟨oc_names_of, od_names_of, .func (PySem.W.fnOf "names_of" "names_of" (defArgs s_names_of) (defBody s_names_of) (defScope s_names_of) .none kV_names_of dc_names_of pm_names_of an_names_of cd_names_of ct_names_of), sl_names_of⟩)
    (c_names_of : PySem.W.codeIn K cd_names_of "names_of" = true)
    (k_names_of : PySem.W.keepIn K (.ref f_names_of) = true)
    {od_are_folk an_are_folk : Option Addr} {sl_are_folk : Array (Option Value)} {oc_are_folk kV_are_folk dc_are_folk pm_are_folk cd_are_folk ct_are_folk : Value}
    (a_are_folk : PySem.W.nsIn K mainGlobals "are_folk" = some (some (.ref f_are_folk)))
    (l_are_folk : K.lookup f_are_folk = some ⟨oc_are_folk, od_are_folk, .func (PySem.W.fnOf "are_folk" "are_folk" (defArgs s_are_folk) (defBody s_are_folk) (defScope s_are_folk) .none kV_are_folk dc_are_folk pm_are_folk an_are_folk cd_are_folk ct_are_folk), sl_are_folk⟩)
    (c_are_folk : PySem.W.codeIn K cd_are_folk "are_folk" = true)
    (k_are_folk : PySem.W.keepIn K (.ref f_are_folk) = true)
    {od_shares_of an_shares_of : Option Addr} {sl_shares_of : Array (Option Value)} {oc_shares_of kV_shares_of dc_shares_of pm_shares_of cd_shares_of ct_shares_of : Value}
    (a_shares_of : PySem.W.nsIn K mainGlobals "shares_of" = some (some (.ref f_shares_of)))
    (l_shares_of : K.lookup f_shares_of = some ⟨oc_shares_of, od_shares_of, .func (PySem.W.fnOf "shares_of" "shares_of" (defArgs s_shares_of) (defBody s_shares_of) (defScope s_shares_of) .none kV_shares_of dc_shares_of pm_shares_of an_shares_of cd_shares_of ct_shares_of), sl_shares_of⟩)
    (c_shares_of : PySem.W.codeIn K cd_shares_of "shares_of" = true)
    (k_shares_of : PySem.W.keepIn K (.ref f_shares_of) = true)
    {od_shares an_shares : Option Addr} {sl_shares : Array (Option Value)} {oc_shares kV_shares dc_shares pm_shares cd_shares ct_shares : Value}
    (a_shares : PySem.W.nsIn K mainGlobals "shares" = some (some (.ref f_shares)))
    (l_shares : K.lookup f_shares = some ⟨oc_shares, od_shares, .func (PySem.W.fnOf "shares" "shares" (defArgs s_shares) (defBody s_shares) (defScope s_shares) .none kV_shares dc_shares pm_shares an_shares cd_shares ct_shares), sl_shares⟩)
    (c_shares : PySem.W.codeIn K cd_shares "shares" = true)
    (k_shares : PySem.W.keepIn K (.ref f_shares) = true)
    {od_left_of an_left_of : Option Addr} {sl_left_of : Array (Option Value)} {oc_left_of kV_left_of dc_left_of pm_left_of cd_left_of ct_left_of : Value}
    (a_left_of : PySem.W.nsIn K mainGlobals "left_of" = some (some (.ref f_left_of)))
    (l_left_of : K.lookup f_left_of = some ⟨oc_left_of, od_left_of, .func (PySem.W.fnOf "left_of" "left_of" (defArgs s_left_of) (defBody s_left_of) (defScope s_left_of) .none kV_left_of dc_left_of pm_left_of an_left_of cd_left_of ct_left_of), sl_left_of⟩)
    (c_left_of : PySem.W.codeIn K cd_left_of "left_of" = true)
    (k_left_of : PySem.W.keepIn K (.ref f_left_of) = true)
    {od_would_pay an_would_pay : Option Addr} {sl_would_pay : Array (Option Value)} {oc_would_pay kV_would_pay dc_would_pay pm_would_pay cd_would_pay ct_would_pay : Value}
    (a_would_pay : PySem.W.nsIn K mainGlobals "would_pay" = some (some (.ref f_would_pay)))
    (l_would_pay : K.lookup f_would_pay = some ⟨oc_would_pay, od_would_pay, .func (PySem.W.fnOf "would_pay" "would_pay" (defArgs s_would_pay) (defBody s_would_pay) (defScope s_would_pay) .none kV_would_pay dc_would_pay pm_would_pay an_would_pay cd_would_pay ct_would_pay), sl_would_pay⟩)
    (c_would_pay : PySem.W.codeIn K cd_would_pay "would_pay" = true)
    (k_would_pay : PySem.W.keepIn K (.ref f_would_pay) = true)
    {od_left an_left : Option Addr} {sl_left : Array (Option Value)} {oc_left kV_left dc_left pm_left cd_left ct_left : Value}
    (a_left : PySem.W.nsIn K mainGlobals "left" = some (some (.ref f_left)))
    (l_left : K.lookup f_left = some ⟨oc_left, od_left, .func (PySem.W.fnOf "left" "left" (defArgs s_left) (defBody s_left) (defScope s_left) .none kV_left dc_left pm_left an_left cd_left ct_left), sl_left⟩)
    (c_left : PySem.W.codeIn K cd_left "left" = true)
    (k_left : PySem.W.keepIn K (.ref f_left) = true)
    {od__law_well an__law_well : Option Addr} {sl__law_well : Array (Option Value)} {oc__law_well kV__law_well dc__law_well pm__law_well cd__law_well ct__law_well : Value}
    (a__law_well : PySem.W.nsIn K mainGlobals "_law_well" = some (some (.ref f__law_well)))
    (l__law_well : K.lookup f__law_well = some ⟨oc__law_well, od__law_well, .func (PySem.W.fnOf "_law_well" "_law_well" (defArgs s__law_well) (defBody s__law_well) (defScope s__law_well) .none kV__law_well dc__law_well pm__law_well an__law_well cd__law_well ct__law_well), sl__law_well⟩)
    (c__law_well : PySem.W.codeIn K cd__law_well "_law_well" = true)
    (k__law_well : PySem.W.keepIn K (.ref f__law_well) = true)
    {od__law_take an__law_take : Option Addr} {sl__law_take : Array (Option Value)} {oc__law_take kV__law_take dc__law_take pm__law_take cd__law_take ct__law_take : Value}
    (a__law_take : PySem.W.nsIn K mainGlobals "_law_take" = some (some (.ref f__law_take)))
    (l__law_take : K.lookup f__law_take = some ⟨oc__law_take, od__law_take, .func (PySem.W.fnOf "_law_take" "_law_take" (defArgs s__law_take) (defBody s__law_take) (defScope s__law_take) .none kV__law_take dc__law_take pm__law_take an__law_take cd__law_take ct__law_take), sl__law_take⟩)
    (c__law_take : PySem.W.codeIn K cd__law_take "_law_take" = true)
    (k__law_take : PySem.W.keepIn K (.ref f__law_take) = true)
    {od__law_is_int an__law_is_int : Option Addr} {sl__law_is_int : Array (Option Value)} {oc__law_is_int kV__law_is_int dc__law_is_int pm__law_is_int cd__law_is_int ct__law_is_int : Value}
    (a__law_is_int : PySem.W.nsIn K mainGlobals "_law_is_int" = some (some (.ref f__law_is_int)))
    (l__law_is_int : K.lookup f__law_is_int = some ⟨oc__law_is_int, od__law_is_int, .func (PySem.W.fnOf "_law_is_int" "_law_is_int" (defArgs s__law_is_int) (defBody s__law_is_int) (defScope s__law_is_int) .none kV__law_is_int dc__law_is_int pm__law_is_int an__law_is_int cd__law_is_int ct__law_is_int), sl__law_is_int⟩)
    (c__law_is_int : PySem.W.codeIn K cd__law_is_int "_law_is_int" = true)
    (k__law_is_int : PySem.W.keepIn K (.ref f__law_is_int) = true)
    {od__law_kinds an__law_kinds : Option Addr} {sl__law_kinds : Array (Option Value)} {oc__law_kinds kV__law_kinds dc__law_kinds pm__law_kinds cd__law_kinds ct__law_kinds : Value}
    (a__law_kinds : PySem.W.nsIn K mainGlobals "_law_kinds" = some (some (.ref f__law_kinds)))
    (l__law_kinds : K.lookup f__law_kinds = some ⟨oc__law_kinds, od__law_kinds, .func (PySem.W.fnOf "_law_kinds" "_law_kinds" (defArgs s__law_kinds) (defBody s__law_kinds) (defScope s__law_kinds) .none kV__law_kinds dc__law_kinds pm__law_kinds an__law_kinds cd__law_kinds ct__law_kinds), sl__law_kinds⟩)
    (c__law_kinds : PySem.W.codeIn K cd__law_kinds "_law_kinds" = true)
    (k__law_kinds : PySem.W.keepIn K (.ref f__law_kinds) = true)
    {od__law_refusal an__law_refusal : Option Addr} {sl__law_refusal : Array (Option Value)} {oc__law_refusal kV__law_refusal dc__law_refusal pm__law_refusal cd__law_refusal ct__law_refusal : Value}
    (a__law_refusal : PySem.W.nsIn K mainGlobals "_law_refusal" = some (some (.ref f__law_refusal)))
    (l__law_refusal : K.lookup f__law_refusal = some ⟨oc__law_refusal, od__law_refusal, .func (PySem.W.fnOf "_law_refusal" "_law_refusal" (defArgs s__law_refusal) (defBody s__law_refusal) (defScope s__law_refusal) .none kV__law_refusal dc__law_refusal pm__law_refusal an__law_refusal cd__law_refusal ct__law_refusal), sl__law_refusal⟩)
    (c__law_refusal : PySem.W.codeIn K cd__law_refusal "_law_refusal" = true)
    (k__law_refusal : PySem.W.keepIn K (.ref f__law_refusal) = true)
    {od__law_things an__law_things : Option Addr} {sl__law_things : Array (Option Value)} {oc__law_things kV__law_things dc__law_things pm__law_things cd__law_things ct__law_things : Value}
    (a__law_things : PySem.W.nsIn K mainGlobals "_law_things" = some (some (.ref f__law_things)))
    (l__law_things : K.lookup f__law_things = some ⟨oc__law_things, od__law_things, .func (PySem.W.fnOf "_law_things" "_law_things" (defArgs s__law_things) (defBody s__law_things) (defScope s__law_things) .none kV__law_things dc__law_things pm__law_things an__law_things cd__law_things ct__law_things), sl__law_things⟩)
    (c__law_things : PySem.W.codeIn K cd__law_things "_law_things" = true)
    (k__law_things : PySem.W.keepIn K (.ref f__law_things) = true)
    {od__law_one an__law_one : Option Addr} {sl__law_one : Array (Option Value)} {oc__law_one kV__law_one dc__law_one pm__law_one cd__law_one ct__law_one : Value}
    (a__law_one : PySem.W.nsIn K mainGlobals "_law_one" = some (some (.ref f__law_one)))
    (l__law_one : K.lookup f__law_one = some ⟨oc__law_one, od__law_one, .func (PySem.W.fnOf "_law_one" "_law_one" (defArgs s__law_one) (defBody s__law_one) (defScope s__law_one) .none kV__law_one dc__law_one pm__law_one an__law_one cd__law_one ct__law_one), sl__law_one⟩)
    (c__law_one : PySem.W.codeIn K cd__law_one "_law_one" = true)
    (k__law_one : PySem.W.keepIn K (.ref f__law_one) = true)
    {od__law_said an__law_said : Option Addr} {sl__law_said : Array (Option Value)} {oc__law_said kV__law_said dc__law_said pm__law_said cd__law_said ct__law_said : Value}
    (a__law_said : PySem.W.nsIn K mainGlobals "_law_said" = some (some (.ref f__law_said)))
    (l__law_said : K.lookup f__law_said = some ⟨oc__law_said, od__law_said, .func (PySem.W.fnOf "_law_said" "_law_said" (defArgs s__law_said) (defBody s__law_said) (defScope s__law_said) .none kV__law_said dc__law_said pm__law_said an__law_said cd__law_said ct__law_said), sl__law_said⟩)
    (c__law_said : PySem.W.codeIn K cd__law_said "_law_said" = true)
    (k__law_said : PySem.W.keepIn K (.ref f__law_said) = true)
    {od__law_done an__law_done : Option Addr} {sl__law_done : Array (Option Value)} {oc__law_done kV__law_done dc__law_done pm__law_done cd__law_done ct__law_done : Value}
    (a__law_done : PySem.W.nsIn K mainGlobals "_law_done" = some (some (.ref f__law_done)))
    (l__law_done : K.lookup f__law_done = some ⟨oc__law_done, od__law_done, .func (PySem.W.fnOf "_law_done" "_law_done" (defArgs s__law_done) (defBody s__law_done) (defScope s__law_done) .none kV__law_done dc__law_done pm__law_done an__law_done cd__law_done ct__law_done), sl__law_done⟩)
    (c__law_done : PySem.W.codeIn K cd__law_done "_law_done" = true)
    (k__law_done : PySem.W.keepIn K (.ref f__law_done) = true)
    {od__law_deed an__law_deed : Option Addr} {sl__law_deed : Array (Option Value)} {oc__law_deed kV__law_deed dc__law_deed pm__law_deed cd__law_deed ct__law_deed : Value}
    (a__law_deed : PySem.W.nsIn K mainGlobals "_law_deed" = some (some (.ref f__law_deed)))
    (l__law_deed : K.lookup f__law_deed = some ⟨oc__law_deed, od__law_deed, .func (PySem.W.fnOf "_law_deed" "_law_deed" (defArgs s__law_deed) (defBody s__law_deed) (defScope s__law_deed) .none kV__law_deed dc__law_deed pm__law_deed an__law_deed cd__law_deed ct__law_deed), sl__law_deed⟩)
    (c__law_deed : PySem.W.codeIn K cd__law_deed "_law_deed" = true)
    (k__law_deed : PySem.W.keepIn K (.ref f__law_deed) = true)
    {od__law_due an__law_due : Option Addr} {sl__law_due : Array (Option Value)} {oc__law_due kV__law_due dc__law_due pm__law_due cd__law_due ct__law_due : Value}
    (a__law_due : PySem.W.nsIn K mainGlobals "_law_due" = some (some (.ref f__law_due)))
    (l__law_due : K.lookup f__law_due = some ⟨oc__law_due, od__law_due, .func (PySem.W.fnOf "_law_due" "_law_due" (defArgs s__law_due) (defBody s__law_due) (defScope s__law_due) .none kV__law_due dc__law_due pm__law_due an__law_due cd__law_due ct__law_due), sl__law_due⟩)
    (c__law_due : PySem.W.codeIn K cd__law_due "_law_due" = true)
    (k__law_due : PySem.W.keepIn K (.ref f__law_due) = true)
    {od__law_stands an__law_stands : Option Addr} {sl__law_stands : Array (Option Value)} {oc__law_stands kV__law_stands dc__law_stands pm__law_stands cd__law_stands ct__law_stands : Value}
    (a__law_stands : PySem.W.nsIn K mainGlobals "_law_stands" = some (some (.ref f__law_stands)))
    (l__law_stands : K.lookup f__law_stands = some ⟨oc__law_stands, od__law_stands, .func (PySem.W.fnOf "_law_stands" "_law_stands" (defArgs s__law_stands) (defBody s__law_stands) (defScope s__law_stands) .none kV__law_stands dc__law_stands pm__law_stands an__law_stands cd__law_stands ct__law_stands), sl__law_stands⟩)
    (c__law_stands : PySem.W.codeIn K cd__law_stands "_law_stands" = true)
    (k__law_stands : PySem.W.keepIn K (.ref f__law_stands) = true)
    {od_law an_law : Option Addr} {sl_law : Array (Option Value)} {oc_law kV_law dc_law pm_law cd_law ct_law : Value}
    (a_law : PySem.W.nsIn K mainGlobals "law" = some (some (.ref f_law)))
    (l_law : K.lookup f_law = some ⟨oc_law, od_law, .func (PySem.W.fnOf "law" "law" (defArgs s_law) (defBody s_law) (defScope s_law) .none kV_law dc_law pm_law an_law cd_law ct_law), sl_law⟩)
    (c_law : PySem.W.codeIn K cd_law "law" = true)
    (k_law : PySem.W.keepIn K (.ref f_law) = true)
    {od_Book___init__ an_Book___init__ : Option Addr} {sl_Book___init__ : Array (Option Value)} {oc_Book___init__ kV_Book___init__ dc_Book___init__ pm_Book___init__ cd_Book___init__ ct_Book___init__ : Value}
    (a_Book___init__ : PySem.W.findIn K (.ref CB) "__init__" = some (some (.ref f_Book___init__)))
    (l_Book___init__ : K.lookup f_Book___init__ = some ⟨oc_Book___init__, od_Book___init__, .func (PySem.W.fnOf "__init__" "Book.__init__" (defArgs s_Book___init__) (defBody s_Book___init__) (defScope s_Book___init__) .none kV_Book___init__ dc_Book___init__ pm_Book___init__ an_Book___init__ cd_Book___init__ ct_Book___init__), sl_Book___init__⟩)
    (c_Book___init__ : PySem.W.codeIn K cd_Book___init__ "Book.__init__" = true)
    (k_Book___init__ : PySem.W.keepIn K (.ref f_Book___init__) = true)
    (i_Book___init__ : PySem.W.isFn K (.ref f_Book___init__) = true)
    {od_Book___len__ an_Book___len__ : Option Addr} {sl_Book___len__ : Array (Option Value)} {oc_Book___len__ kV_Book___len__ dc_Book___len__ pm_Book___len__ cd_Book___len__ ct_Book___len__ : Value}
    (a_Book___len__ : PySem.W.findIn K (.ref CB) "__len__" = some (some (.ref f_Book___len__)))
    (l_Book___len__ : K.lookup f_Book___len__ = some ⟨oc_Book___len__, od_Book___len__, .func (PySem.W.fnOf "__len__" "Book.__len__" (defArgs s_Book___len__) (defBody s_Book___len__) (defScope s_Book___len__) .none kV_Book___len__ dc_Book___len__ pm_Book___len__ an_Book___len__ cd_Book___len__ ct_Book___len__), sl_Book___len__⟩)
    (c_Book___len__ : PySem.W.codeIn K cd_Book___len__ "Book.__len__" = true)
    (k_Book___len__ : PySem.W.keepIn K (.ref f_Book___len__) = true)
    (i_Book___len__ : PySem.W.isFn K (.ref f_Book___len__) = true)
    {od_Book___eq__ an_Book___eq__ : Option Addr} {sl_Book___eq__ : Array (Option Value)} {oc_Book___eq__ kV_Book___eq__ dc_Book___eq__ pm_Book___eq__ cd_Book___eq__ ct_Book___eq__ : Value}
    (a_Book___eq__ : PySem.W.findIn K (.ref CB) "__eq__" = some (some (.ref f_Book___eq__)))
    (l_Book___eq__ : K.lookup f_Book___eq__ = some ⟨oc_Book___eq__, od_Book___eq__, .func (PySem.W.fnOf "__eq__" "Book.__eq__" (defArgs s_Book___eq__) (defBody s_Book___eq__) (defScope s_Book___eq__) .none kV_Book___eq__ dc_Book___eq__ pm_Book___eq__ an_Book___eq__ cd_Book___eq__ ct_Book___eq__), sl_Book___eq__⟩)
    (c_Book___eq__ : PySem.W.codeIn K cd_Book___eq__ "Book.__eq__" = true)
    (k_Book___eq__ : PySem.W.keepIn K (.ref f_Book___eq__) = true)
    (i_Book___eq__ : PySem.W.isFn K (.ref f_Book___eq__) = true)
    {od_Book_need_name an_Book_need_name : Option Addr} {sl_Book_need_name : Array (Option Value)} {oc_Book_need_name kV_Book_need_name dc_Book_need_name pm_Book_need_name cd_Book_need_name ct_Book_need_name : Value}
    (a_Book_need_name : PySem.W.findIn K (.ref CB) "need_name" = some (some (.ref f_Book_need_name)))
    (l_Book_need_name : K.lookup f_Book_need_name = some ⟨oc_Book_need_name, od_Book_need_name, .func (PySem.W.fnOf "need_name" "Book.need_name" (defArgs s_Book_need_name) (defBody s_Book_need_name) (defScope s_Book_need_name) .none kV_Book_need_name dc_Book_need_name pm_Book_need_name an_Book_need_name cd_Book_need_name ct_Book_need_name), sl_Book_need_name⟩)
    (c_Book_need_name : PySem.W.codeIn K cd_Book_need_name "Book.need_name" = true)
    (k_Book_need_name : PySem.W.keepIn K (.ref f_Book_need_name) = true)
    (i_Book_need_name : PySem.W.isFn K (.ref f_Book_need_name) = true)
    {od_Book_come an_Book_come : Option Addr} {sl_Book_come : Array (Option Value)} {oc_Book_come kV_Book_come dc_Book_come pm_Book_come cd_Book_come ct_Book_come : Value}
    (a_Book_come : PySem.W.findIn K (.ref CB) "come" = some (some (.ref f_Book_come)))
    (l_Book_come : K.lookup f_Book_come = some ⟨oc_Book_come, od_Book_come, .func (PySem.W.fnOf "come" "Book.come" (defArgs s_Book_come) (defBody s_Book_come) (defScope s_Book_come) .none kV_Book_come dc_Book_come pm_Book_come an_Book_come cd_Book_come ct_Book_come), sl_Book_come⟩)
    (c_Book_come : PySem.W.codeIn K cd_Book_come "Book.come" = true)
    (k_Book_come : PySem.W.keepIn K (.ref f_Book_come) = true)
    (i_Book_come : PySem.W.isFn K (.ref f_Book_come) = true)
    {od_Book_go an_Book_go : Option Addr} {sl_Book_go : Array (Option Value)} {oc_Book_go kV_Book_go dc_Book_go pm_Book_go cd_Book_go ct_Book_go : Value}
    (a_Book_go : PySem.W.findIn K (.ref CB) "go" = some (some (.ref f_Book_go)))
    (l_Book_go : K.lookup f_Book_go = some ⟨oc_Book_go, od_Book_go, .func (PySem.W.fnOf "go" "Book.go" (defArgs s_Book_go) (defBody s_Book_go) (defScope s_Book_go) .none kV_Book_go dc_Book_go pm_Book_go an_Book_go cd_Book_go ct_Book_go), sl_Book_go⟩)
    (c_Book_go : PySem.W.codeIn K cd_Book_go "Book.go" = true)
    (k_Book_go : PySem.W.keepIn K (.ref f_Book_go) = true)
    (i_Book_go : PySem.W.isFn K (.ref f_Book_go) = true)
    {od_Book_say an_Book_say : Option Addr} {sl_Book_say : Array (Option Value)} {oc_Book_say kV_Book_say dc_Book_say pm_Book_say cd_Book_say ct_Book_say : Value}
    (a_Book_say : PySem.W.findIn K (.ref CB) "say" = some (some (.ref f_Book_say)))
    (l_Book_say : K.lookup f_Book_say = some ⟨oc_Book_say, od_Book_say, .func (PySem.W.fnOf "say" "Book.say" (defArgs s_Book_say) (defBody s_Book_say) (defScope s_Book_say) .none kV_Book_say dc_Book_say pm_Book_say an_Book_say cd_Book_say ct_Book_say), sl_Book_say⟩)
    (c_Book_say : PySem.W.codeIn K cd_Book_say "Book.say" = true)
    (k_Book_say : PySem.W.keepIn K (.ref f_Book_say) = true)
    (i_Book_say : PySem.W.isFn K (.ref f_Book_say) = true)
    {od_Book_price an_Book_price : Option Addr} {sl_Book_price : Array (Option Value)} {oc_Book_price kV_Book_price dc_Book_price pm_Book_price cd_Book_price ct_Book_price : Value}
    (a_Book_price : PySem.W.findIn K (.ref CB) "price" = some (some (.ref f_Book_price)))
    (l_Book_price : K.lookup f_Book_price = some ⟨oc_Book_price, od_Book_price, .func (PySem.W.fnOf "price" "Book.price" (defArgs s_Book_price) (defBody s_Book_price) (defScope s_Book_price) .none kV_Book_price dc_Book_price pm_Book_price an_Book_price cd_Book_price ct_Book_price), sl_Book_price⟩)
    (c_Book_price : PySem.W.codeIn K cd_Book_price "Book.price" = true)
    (k_Book_price : PySem.W.keepIn K (.ref f_Book_price) = true)
    (i_Book_price : PySem.W.isFn K (.ref f_Book_price) = true)
    {od_Book_back an_Book_back : Option Addr} {sl_Book_back : Array (Option Value)} {oc_Book_back kV_Book_back dc_Book_back pm_Book_back cd_Book_back ct_Book_back : Value}
    (a_Book_back : PySem.W.findIn K (.ref CB) "back" = some (some (.ref f_Book_back)))
    (l_Book_back : K.lookup f_Book_back = some ⟨oc_Book_back, od_Book_back, .func (PySem.W.fnOf "back" "Book.back" (defArgs s_Book_back) (defBody s_Book_back) (defScope s_Book_back) .none kV_Book_back dc_Book_back pm_Book_back an_Book_back cd_Book_back ct_Book_back), sl_Book_back⟩)
    (c_Book_back : PySem.W.codeIn K cd_Book_back "Book.back" = true)
    (k_Book_back : PySem.W.keepIn K (.ref f_Book_back) = true)
    (i_Book_back : PySem.W.isFn K (.ref f_Book_back) = true)
    {od_Book_things an_Book_things : Option Addr} {sl_Book_things : Array (Option Value)} {oc_Book_things kV_Book_things dc_Book_things pm_Book_things cd_Book_things ct_Book_things : Value}
    (a_Book_things : PySem.W.findIn K (.ref CB) "things" = some (some (.ref f_Book_things)))
    (l_Book_things : K.lookup f_Book_things = some ⟨oc_Book_things, od_Book_things, .func (PySem.W.fnOf "things" "Book.things" (defArgs s_Book_things) (defBody s_Book_things) (defScope s_Book_things) .none kV_Book_things dc_Book_things pm_Book_things an_Book_things cd_Book_things ct_Book_things), sl_Book_things⟩)
    (c_Book_things : PySem.W.codeIn K cd_Book_things "Book.things" = true)
    (k_Book_things : PySem.W.keepIn K (.ref f_Book_things) = true)
    (i_Book_things : PySem.W.isFn K (.ref f_Book_things) = true)
    {od_Book_folk an_Book_folk : Option Addr} {sl_Book_folk : Array (Option Value)} {oc_Book_folk kV_Book_folk dc_Book_folk pm_Book_folk cd_Book_folk ct_Book_folk : Value}
    (a_Book_folk : PySem.W.findIn K (.ref CB) "folk" = some (some (.ref f_Book_folk)))
    (l_Book_folk : K.lookup f_Book_folk = some ⟨oc_Book_folk, od_Book_folk, .func (PySem.W.fnOf "folk" "Book.folk" (defArgs s_Book_folk) (defBody s_Book_folk) (defScope s_Book_folk) .none kV_Book_folk dc_Book_folk pm_Book_folk an_Book_folk cd_Book_folk ct_Book_folk), sl_Book_folk⟩)
    (c_Book_folk : PySem.W.codeIn K cd_Book_folk "Book.folk" = true)
    (k_Book_folk : PySem.W.keepIn K (.ref f_Book_folk) = true)
    (i_Book_folk : PySem.W.isFn K (.ref f_Book_folk) = true)
    {od_Book_left an_Book_left : Option Addr} {sl_Book_left : Array (Option Value)} {oc_Book_left kV_Book_left dc_Book_left pm_Book_left cd_Book_left ct_Book_left : Value}
    (a_Book_left : PySem.W.findIn K (.ref CB) "left" = some (some (.ref f_Book_left)))
    (l_Book_left : K.lookup f_Book_left = some ⟨oc_Book_left, od_Book_left, .func (PySem.W.fnOf "left" "Book.left" (defArgs s_Book_left) (defBody s_Book_left) (defScope s_Book_left) .none kV_Book_left dc_Book_left pm_Book_left an_Book_left cd_Book_left ct_Book_left), sl_Book_left⟩)
    (c_Book_left : PySem.W.codeIn K cd_Book_left "Book.left" = true)
    (k_Book_left : PySem.W.keepIn K (.ref f_Book_left) = true)
    (i_Book_left : PySem.W.isFn K (.ref f_Book_left) = true)
    (z_ValueError : PySem.W.nsIn K mainGlobals "ValueError" = some none)
    (z_abs : PySem.W.nsIn K mainGlobals "abs" = some none)
    (z_all : PySem.W.nsIn K mainGlobals "all" = some none)
    (z_bool : PySem.W.nsIn K mainGlobals "bool" = some none)
    (z_int : PySem.W.nsIn K mainGlobals "int" = some none)
    (z_isinstance : PySem.W.nsIn K mainGlobals "isinstance" = some none)
    (z_len : PySem.W.nsIn K mainGlobals "len" = some none)
    (z_list : PySem.W.nsIn K mainGlobals "list" = some none)
    (z_max : PySem.W.nsIn K mainGlobals "max" = some none)
    (z_min : PySem.W.nsIn K mainGlobals "min" = some none)
    (z_range : PySem.W.nsIn K mainGlobals "range" = some none)
    (z_sorted : PySem.W.nsIn K mainGlobals "sorted" = some none)
    (z_str : PySem.W.nsIn K mainGlobals "str" = some none)
    (z_sum : PySem.W.nsIn K mainGlobals "sum" = some none)
    (z_tuple : PySem.W.nsIn K mainGlobals "tuple" = some none)
    (z_zip : PySem.W.nsIn K mainGlobals "zip" = some none)
    {s1_LETTERS : Tok}
    (g_LETTERS : PySem.W.nsIn K mainGlobals "LETTERS" = some (some (.str "abcdefghijklmnopqrstuvwxyz" s1_LETTERS)))
    {s1_MOST : Tok}
    (g_MOST : PySem.W.nsIn K mainGlobals "MOST" = some (some (.int 8 s1_MOST)))
    {s1_MOST_NUMBER : Tok}
    (g_MOST_NUMBER : PySem.W.nsIn K mainGlobals "MOST_NUMBER" = some (some (.int 1000 s1_MOST_NUMBER)))
    {s1_MOST_WEIGHT : Tok}
    (g_MOST_WEIGHT : PySem.W.nsIn K mainGlobals "MOST_WEIGHT" = some (some (.int 9 s1_MOST_WEIGHT)))
    {f_NOUGHT : Addr} {s1_NOUGHT s2_NOUGHT : Tok} {n_NOUGHT : Nat} {sl_NOUGHT : Array (Option Value)}
    (g_NOUGHT : PySem.W.nsIn K mainGlobals "NOUGHT" = some (some (.ref f_NOUGHT)))
    (m_NOUGHT : K.lookup f_NOUGHT = some ⟨.type "tuple", none, .seq #[.int 0 s1_NOUGHT, .int 1 s2_NOUGHT] n_NOUGHT, sl_NOUGHT⟩)
    (n_NoThings : PySem.W.nsIn K mainGlobals "NoThings" = some (some (.ref C_NoThings)))
    (ty_NoThings : PySem.W.typeIn K (.ref C_NoThings) = some (.type "type"))
    (is_NoThings : PySem.W.isClsIn K C_NoThings = true)
    (s_NoThings_NoThings : PySem.W.subIn K (.ref C_NoThings) (.ref C_NoThings) = some true)
    (n_NoFolk : PySem.W.nsIn K mainGlobals "NoFolk" = some (some (.ref C_NoFolk)))
    (ty_NoFolk : PySem.W.typeIn K (.ref C_NoFolk) = some (.type "type"))
    (is_NoFolk : PySem.W.isClsIn K C_NoFolk = true)
    (s_NoFolk_NoFolk : PySem.W.subIn K (.ref C_NoFolk) (.ref C_NoFolk) = some true)
    (n_NoLot : PySem.W.nsIn K mainGlobals "NoLot" = some (some (.ref C_NoLot)))
    (ty_NoLot : PySem.W.typeIn K (.ref C_NoLot) = some (.type "type"))
    (is_NoLot : PySem.W.isClsIn K C_NoLot = true)
    (s_NoLot_NoLot : PySem.W.subIn K (.ref C_NoLot) (.ref C_NoLot) = some true)
    (n_NoOrder : PySem.W.nsIn K mainGlobals "NoOrder" = some (some (.ref C_NoOrder)))
    (ty_NoOrder : PySem.W.typeIn K (.ref C_NoOrder) = some (.type "type"))
    (is_NoOrder : PySem.W.isClsIn K C_NoOrder = true)
    (s_NoOrder_NoOrder : PySem.W.subIn K (.ref C_NoOrder) (.ref C_NoOrder) = some true)
    (n_NoOne : PySem.W.nsIn K mainGlobals "NoOne" = some (some (.ref C_NoOne)))
    (ty_NoOne : PySem.W.typeIn K (.ref C_NoOne) = some (.type "type"))
    (is_NoOne : PySem.W.isClsIn K C_NoOne = true)
    (s_NoOne_NoOne : PySem.W.subIn K (.ref C_NoOne) (.ref C_NoOne) = some true)
    (n_NoWorth : PySem.W.nsIn K mainGlobals "NoWorth" = some (some (.ref C_NoWorth)))
    (ty_NoWorth : PySem.W.typeIn K (.ref C_NoWorth) = some (.type "type"))
    (is_NoWorth : PySem.W.isClsIn K C_NoWorth = true)
    (s_NoWorth_NoWorth : PySem.W.subIn K (.ref C_NoWorth) (.ref C_NoWorth) = some true)
    (n_NoThing : PySem.W.nsIn K mainGlobals "NoThing" = some (some (.ref C_NoThing)))
    (ty_NoThing : PySem.W.typeIn K (.ref C_NoThing) = some (.type "type"))
    (is_NoThing : PySem.W.isClsIn K C_NoThing = true)
    (s_NoThing_NoThing : PySem.W.subIn K (.ref C_NoThing) (.ref C_NoThing) = some true)
    (n_NoCost : PySem.W.nsIn K mainGlobals "NoCost" = some (some (.ref C_NoCost)))
    (ty_NoCost : PySem.W.typeIn K (.ref C_NoCost) = some (.type "type"))
    (is_NoCost : PySem.W.isClsIn K C_NoCost = true)
    (s_NoCost_NoCost : PySem.W.subIn K (.ref C_NoCost) (.ref C_NoCost) = some true)
    (n_Taken : PySem.W.nsIn K mainGlobals "Taken" = some (some (.ref C_Taken)))
    (ty_Taken : PySem.W.typeIn K (.ref C_Taken) = some (.type "type"))
    (is_Taken : PySem.W.isClsIn K C_Taken = true)
    (s_Taken_Taken : PySem.W.subIn K (.ref C_Taken) (.ref C_Taken) = some true)
    (n_Full : PySem.W.nsIn K mainGlobals "Full" = some (some (.ref C_Full)))
    (ty_Full : PySem.W.typeIn K (.ref C_Full) = some (.type "type"))
    (is_Full : PySem.W.isClsIn K C_Full = true)
    (s_Full_Full : PySem.W.subIn K (.ref C_Full) (.ref C_Full) = some true)
    (n_NotThere : PySem.W.nsIn K mainGlobals "NotThere" = some (some (.ref C_NotThere)))
    (ty_NotThere : PySem.W.typeIn K (.ref C_NotThere) = some (.type "type"))
    (is_NotThere : PySem.W.isClsIn K C_NotThere = true)
    (s_NotThere_NotThere : PySem.W.subIn K (.ref C_NotThere) (.ref C_NotThere) = some true)
    (n_NothingLeft : PySem.W.nsIn K mainGlobals "NothingLeft" = some (some (.ref C_NothingLeft)))
    (ty_NothingLeft : PySem.W.typeIn K (.ref C_NothingLeft) = some (.type "type"))
    (is_NothingLeft : PySem.W.isClsIn K C_NothingLeft = true)
    (s_NothingLeft_NothingLeft : PySem.W.subIn K (.ref C_NothingLeft) (.ref C_NothingLeft) = some true)
    (n_PayError : PySem.W.nsIn K mainGlobals "PayError" = some (some (.ref C_PayError)))
    (ty_PayError : PySem.W.typeIn K (.ref C_PayError) = some (.type "type"))
    (is_PayError : PySem.W.isClsIn K C_PayError = true)
    (s_PayError_PayError : PySem.W.subIn K (.ref C_PayError) (.ref C_PayError) = some true)
    (b_PayError : PySem.W.subIn K (.ref C_PayError) (.type "BaseException") = some true)
    (hd_PayError : PySem.W.hasDictIn K C_PayError = true)
    (x_NoOne : PySem.W.excIn K C_NoOne [.type "ValueError", .type "Exception", .type "BaseException", .type "object"] "ValueError.__new__" = true)
    (kp_NoOne : PySem.W.keepIn K (.ref C_NoOne) = true)
    (b_NoOne : PySem.W.subIn K (.ref C_NoOne) (.type "BaseException") = some true)
    (v_NoOne : PySem.W.subIn K (.ref C_NoOne) (.type "ValueError") = some true)
    (ga_NoOne : PySem.W.findIn K (.ref C_NoOne) "__getattribute__" = some (some (.builtin "BaseException.__getattribute__")))
    (gg_NoOne : PySem.W.findIn K (.ref C_NoOne) "__getattr__" = some none)
    (hd_NoOne : PySem.W.hasDictIn K C_NoOne = true)
    (ha_NoOne : PySem.W.findIn K (.ref C_NoOne) "__class__" = some (some (.builtin "object.__class__")))
    (hm_NoOne : PySem.W.mroIn K C_NoOne (.type "object") = some true)
    (s_NoOne_NoThings : PySem.W.subIn K (.ref C_NoOne) (.ref C_NoThings) = some false)
    (s_NoOne_NoFolk : PySem.W.subIn K (.ref C_NoOne) (.ref C_NoFolk) = some false)
    (s_NoOne_NoLot : PySem.W.subIn K (.ref C_NoOne) (.ref C_NoLot) = some false)
    (s_NoOne_NoOrder : PySem.W.subIn K (.ref C_NoOne) (.ref C_NoOrder) = some false)
    (s_NoOne_NoWorth : PySem.W.subIn K (.ref C_NoOne) (.ref C_NoWorth) = some false)
    (s_NoOne_NoThing : PySem.W.subIn K (.ref C_NoOne) (.ref C_NoThing) = some false)
    (s_NoOne_NoCost : PySem.W.subIn K (.ref C_NoOne) (.ref C_NoCost) = some false)
    (s_NoOne_Taken : PySem.W.subIn K (.ref C_NoOne) (.ref C_Taken) = some false)
    (s_NoOne_Full : PySem.W.subIn K (.ref C_NoOne) (.ref C_Full) = some false)
    (s_NoOne_NotThere : PySem.W.subIn K (.ref C_NoOne) (.ref C_NotThere) = some false)
    (s_NoOne_NothingLeft : PySem.W.subIn K (.ref C_NoOne) (.ref C_NothingLeft) = some false)
    (s_NoOne_PayError : PySem.W.subIn K (.ref C_NoOne) (.ref C_PayError) = some true)
    (x_NoWorth : PySem.W.excIn K C_NoWorth [.type "ValueError", .type "Exception", .type "BaseException", .type "object"] "ValueError.__new__" = true)
    (kp_NoWorth : PySem.W.keepIn K (.ref C_NoWorth) = true)
    (b_NoWorth : PySem.W.subIn K (.ref C_NoWorth) (.type "BaseException") = some true)
    (v_NoWorth : PySem.W.subIn K (.ref C_NoWorth) (.type "ValueError") = some true)
    (ga_NoWorth : PySem.W.findIn K (.ref C_NoWorth) "__getattribute__" = some (some (.builtin "BaseException.__getattribute__")))
    (gg_NoWorth : PySem.W.findIn K (.ref C_NoWorth) "__getattr__" = some none)
    (hd_NoWorth : PySem.W.hasDictIn K C_NoWorth = true)
    (ha_NoWorth : PySem.W.findIn K (.ref C_NoWorth) "__class__" = some (some (.builtin "object.__class__")))
    (hm_NoWorth : PySem.W.mroIn K C_NoWorth (.type "object") = some true)
    (s_NoWorth_NoThings : PySem.W.subIn K (.ref C_NoWorth) (.ref C_NoThings) = some false)
    (s_NoWorth_NoFolk : PySem.W.subIn K (.ref C_NoWorth) (.ref C_NoFolk) = some false)
    (s_NoWorth_NoLot : PySem.W.subIn K (.ref C_NoWorth) (.ref C_NoLot) = some false)
    (s_NoWorth_NoOrder : PySem.W.subIn K (.ref C_NoWorth) (.ref C_NoOrder) = some false)
    (s_NoWorth_NoOne : PySem.W.subIn K (.ref C_NoWorth) (.ref C_NoOne) = some false)
    (s_NoWorth_NoThing : PySem.W.subIn K (.ref C_NoWorth) (.ref C_NoThing) = some false)
    (s_NoWorth_NoCost : PySem.W.subIn K (.ref C_NoWorth) (.ref C_NoCost) = some false)
    (s_NoWorth_Taken : PySem.W.subIn K (.ref C_NoWorth) (.ref C_Taken) = some false)
    (s_NoWorth_Full : PySem.W.subIn K (.ref C_NoWorth) (.ref C_Full) = some false)
    (s_NoWorth_NotThere : PySem.W.subIn K (.ref C_NoWorth) (.ref C_NotThere) = some false)
    (s_NoWorth_NothingLeft : PySem.W.subIn K (.ref C_NoWorth) (.ref C_NothingLeft) = some false)
    (s_NoWorth_PayError : PySem.W.subIn K (.ref C_NoWorth) (.ref C_PayError) = some true)
    (x_NoThing : PySem.W.excIn K C_NoThing [.type "ValueError", .type "Exception", .type "BaseException", .type "object"] "ValueError.__new__" = true)
    (kp_NoThing : PySem.W.keepIn K (.ref C_NoThing) = true)
    (b_NoThing : PySem.W.subIn K (.ref C_NoThing) (.type "BaseException") = some true)
    (v_NoThing : PySem.W.subIn K (.ref C_NoThing) (.type "ValueError") = some true)
    (ga_NoThing : PySem.W.findIn K (.ref C_NoThing) "__getattribute__" = some (some (.builtin "BaseException.__getattribute__")))
    (gg_NoThing : PySem.W.findIn K (.ref C_NoThing) "__getattr__" = some none)
    (hd_NoThing : PySem.W.hasDictIn K C_NoThing = true)
    (ha_NoThing : PySem.W.findIn K (.ref C_NoThing) "__class__" = some (some (.builtin "object.__class__")))
    (hm_NoThing : PySem.W.mroIn K C_NoThing (.type "object") = some true)
    (s_NoThing_NoThings : PySem.W.subIn K (.ref C_NoThing) (.ref C_NoThings) = some false)
    (s_NoThing_NoFolk : PySem.W.subIn K (.ref C_NoThing) (.ref C_NoFolk) = some false)
    (s_NoThing_NoLot : PySem.W.subIn K (.ref C_NoThing) (.ref C_NoLot) = some false)
    (s_NoThing_NoOrder : PySem.W.subIn K (.ref C_NoThing) (.ref C_NoOrder) = some false)
    (s_NoThing_NoOne : PySem.W.subIn K (.ref C_NoThing) (.ref C_NoOne) = some false)
    (s_NoThing_NoWorth : PySem.W.subIn K (.ref C_NoThing) (.ref C_NoWorth) = some false)
    (s_NoThing_NoCost : PySem.W.subIn K (.ref C_NoThing) (.ref C_NoCost) = some false)
    (s_NoThing_Taken : PySem.W.subIn K (.ref C_NoThing) (.ref C_Taken) = some false)
    (s_NoThing_Full : PySem.W.subIn K (.ref C_NoThing) (.ref C_Full) = some false)
    (s_NoThing_NotThere : PySem.W.subIn K (.ref C_NoThing) (.ref C_NotThere) = some false)
    (s_NoThing_NothingLeft : PySem.W.subIn K (.ref C_NoThing) (.ref C_NothingLeft) = some false)
    (s_NoThing_PayError : PySem.W.subIn K (.ref C_NoThing) (.ref C_PayError) = some true)
    (x_NoCost : PySem.W.excIn K C_NoCost [.type "ValueError", .type "Exception", .type "BaseException", .type "object"] "ValueError.__new__" = true)
    (kp_NoCost : PySem.W.keepIn K (.ref C_NoCost) = true)
    (b_NoCost : PySem.W.subIn K (.ref C_NoCost) (.type "BaseException") = some true)
    (v_NoCost : PySem.W.subIn K (.ref C_NoCost) (.type "ValueError") = some true)
    (ga_NoCost : PySem.W.findIn K (.ref C_NoCost) "__getattribute__" = some (some (.builtin "BaseException.__getattribute__")))
    (gg_NoCost : PySem.W.findIn K (.ref C_NoCost) "__getattr__" = some none)
    (hd_NoCost : PySem.W.hasDictIn K C_NoCost = true)
    (ha_NoCost : PySem.W.findIn K (.ref C_NoCost) "__class__" = some (some (.builtin "object.__class__")))
    (hm_NoCost : PySem.W.mroIn K C_NoCost (.type "object") = some true)
    (s_NoCost_NoThings : PySem.W.subIn K (.ref C_NoCost) (.ref C_NoThings) = some false)
    (s_NoCost_NoFolk : PySem.W.subIn K (.ref C_NoCost) (.ref C_NoFolk) = some false)
    (s_NoCost_NoLot : PySem.W.subIn K (.ref C_NoCost) (.ref C_NoLot) = some false)
    (s_NoCost_NoOrder : PySem.W.subIn K (.ref C_NoCost) (.ref C_NoOrder) = some false)
    (s_NoCost_NoOne : PySem.W.subIn K (.ref C_NoCost) (.ref C_NoOne) = some false)
    (s_NoCost_NoWorth : PySem.W.subIn K (.ref C_NoCost) (.ref C_NoWorth) = some false)
    (s_NoCost_NoThing : PySem.W.subIn K (.ref C_NoCost) (.ref C_NoThing) = some false)
    (s_NoCost_Taken : PySem.W.subIn K (.ref C_NoCost) (.ref C_Taken) = some false)
    (s_NoCost_Full : PySem.W.subIn K (.ref C_NoCost) (.ref C_Full) = some false)
    (s_NoCost_NotThere : PySem.W.subIn K (.ref C_NoCost) (.ref C_NotThere) = some false)
    (s_NoCost_NothingLeft : PySem.W.subIn K (.ref C_NoCost) (.ref C_NothingLeft) = some false)
    (s_NoCost_PayError : PySem.W.subIn K (.ref C_NoCost) (.ref C_PayError) = some true)
    (x_Taken : PySem.W.excIn K C_Taken [.type "ValueError", .type "Exception", .type "BaseException", .type "object"] "ValueError.__new__" = true)
    (kp_Taken : PySem.W.keepIn K (.ref C_Taken) = true)
    (b_Taken : PySem.W.subIn K (.ref C_Taken) (.type "BaseException") = some true)
    (v_Taken : PySem.W.subIn K (.ref C_Taken) (.type "ValueError") = some true)
    (ga_Taken : PySem.W.findIn K (.ref C_Taken) "__getattribute__" = some (some (.builtin "BaseException.__getattribute__")))
    (gg_Taken : PySem.W.findIn K (.ref C_Taken) "__getattr__" = some none)
    (hd_Taken : PySem.W.hasDictIn K C_Taken = true)
    (ha_Taken : PySem.W.findIn K (.ref C_Taken) "__class__" = some (some (.builtin "object.__class__")))
    (hm_Taken : PySem.W.mroIn K C_Taken (.type "object") = some true)
    (s_Taken_NoThings : PySem.W.subIn K (.ref C_Taken) (.ref C_NoThings) = some false)
    (s_Taken_NoFolk : PySem.W.subIn K (.ref C_Taken) (.ref C_NoFolk) = some false)
    (s_Taken_NoLot : PySem.W.subIn K (.ref C_Taken) (.ref C_NoLot) = some false)
    (s_Taken_NoOrder : PySem.W.subIn K (.ref C_Taken) (.ref C_NoOrder) = some false)
    (s_Taken_NoOne : PySem.W.subIn K (.ref C_Taken) (.ref C_NoOne) = some false)
    (s_Taken_NoWorth : PySem.W.subIn K (.ref C_Taken) (.ref C_NoWorth) = some false)
    (s_Taken_NoThing : PySem.W.subIn K (.ref C_Taken) (.ref C_NoThing) = some false)
    (s_Taken_NoCost : PySem.W.subIn K (.ref C_Taken) (.ref C_NoCost) = some false)
    (s_Taken_Full : PySem.W.subIn K (.ref C_Taken) (.ref C_Full) = some false)
    (s_Taken_NotThere : PySem.W.subIn K (.ref C_Taken) (.ref C_NotThere) = some false)
    (s_Taken_NothingLeft : PySem.W.subIn K (.ref C_Taken) (.ref C_NothingLeft) = some false)
    (s_Taken_PayError : PySem.W.subIn K (.ref C_Taken) (.ref C_PayError) = some true)
    (x_Full : PySem.W.excIn K C_Full [.type "ValueError", .type "Exception", .type "BaseException", .type "object"] "ValueError.__new__" = true)
    (kp_Full : PySem.W.keepIn K (.ref C_Full) = true)
    (b_Full : PySem.W.subIn K (.ref C_Full) (.type "BaseException") = some true)
    (v_Full : PySem.W.subIn K (.ref C_Full) (.type "ValueError") = some true)
    (ga_Full : PySem.W.findIn K (.ref C_Full) "__getattribute__" = some (some (.builtin "BaseException.__getattribute__")))
    (gg_Full : PySem.W.findIn K (.ref C_Full) "__getattr__" = some none)
    (hd_Full : PySem.W.hasDictIn K C_Full = true)
    (ha_Full : PySem.W.findIn K (.ref C_Full) "__class__" = some (some (.builtin "object.__class__")))
    (hm_Full : PySem.W.mroIn K C_Full (.type "object") = some true)
    (s_Full_NoThings : PySem.W.subIn K (.ref C_Full) (.ref C_NoThings) = some false)
    (s_Full_NoFolk : PySem.W.subIn K (.ref C_Full) (.ref C_NoFolk) = some false)
    (s_Full_NoLot : PySem.W.subIn K (.ref C_Full) (.ref C_NoLot) = some false)
    (s_Full_NoOrder : PySem.W.subIn K (.ref C_Full) (.ref C_NoOrder) = some false)
    (s_Full_NoOne : PySem.W.subIn K (.ref C_Full) (.ref C_NoOne) = some false)
    (s_Full_NoWorth : PySem.W.subIn K (.ref C_Full) (.ref C_NoWorth) = some false)
    (s_Full_NoThing : PySem.W.subIn K (.ref C_Full) (.ref C_NoThing) = some false)
    (s_Full_NoCost : PySem.W.subIn K (.ref C_Full) (.ref C_NoCost) = some false)
    (s_Full_Taken : PySem.W.subIn K (.ref C_Full) (.ref C_Taken) = some false)
    (s_Full_NotThere : PySem.W.subIn K (.ref C_Full) (.ref C_NotThere) = some false)
    (s_Full_NothingLeft : PySem.W.subIn K (.ref C_Full) (.ref C_NothingLeft) = some false)
    (s_Full_PayError : PySem.W.subIn K (.ref C_Full) (.ref C_PayError) = some true)
    (x_NotThere : PySem.W.excIn K C_NotThere [.type "ValueError", .type "Exception", .type "BaseException", .type "object"] "ValueError.__new__" = true)
    (kp_NotThere : PySem.W.keepIn K (.ref C_NotThere) = true)
    (b_NotThere : PySem.W.subIn K (.ref C_NotThere) (.type "BaseException") = some true)
    (v_NotThere : PySem.W.subIn K (.ref C_NotThere) (.type "ValueError") = some true)
    (ga_NotThere : PySem.W.findIn K (.ref C_NotThere) "__getattribute__" = some (some (.builtin "BaseException.__getattribute__")))
    (gg_NotThere : PySem.W.findIn K (.ref C_NotThere) "__getattr__" = some none)
    (hd_NotThere : PySem.W.hasDictIn K C_NotThere = true)
    (ha_NotThere : PySem.W.findIn K (.ref C_NotThere) "__class__" = some (some (.builtin "object.__class__")))
    (hm_NotThere : PySem.W.mroIn K C_NotThere (.type "object") = some true)
    (s_NotThere_NoThings : PySem.W.subIn K (.ref C_NotThere) (.ref C_NoThings) = some false)
    (s_NotThere_NoFolk : PySem.W.subIn K (.ref C_NotThere) (.ref C_NoFolk) = some false)
    (s_NotThere_NoLot : PySem.W.subIn K (.ref C_NotThere) (.ref C_NoLot) = some false)
    (s_NotThere_NoOrder : PySem.W.subIn K (.ref C_NotThere) (.ref C_NoOrder) = some false)
    (s_NotThere_NoOne : PySem.W.subIn K (.ref C_NotThere) (.ref C_NoOne) = some false)
    (s_NotThere_NoWorth : PySem.W.subIn K (.ref C_NotThere) (.ref C_NoWorth) = some false)
    (s_NotThere_NoThing : PySem.W.subIn K (.ref C_NotThere) (.ref C_NoThing) = some false)
    (s_NotThere_NoCost : PySem.W.subIn K (.ref C_NotThere) (.ref C_NoCost) = some false)
    (s_NotThere_Taken : PySem.W.subIn K (.ref C_NotThere) (.ref C_Taken) = some false)
    (s_NotThere_Full : PySem.W.subIn K (.ref C_NotThere) (.ref C_Full) = some false)
    (s_NotThere_NothingLeft : PySem.W.subIn K (.ref C_NotThere) (.ref C_NothingLeft) = some false)
    (s_NotThere_PayError : PySem.W.subIn K (.ref C_NotThere) (.ref C_PayError) = some true)
    (x_NothingLeft : PySem.W.excIn K C_NothingLeft [.type "ValueError", .type "Exception", .type "BaseException", .type "object"] "ValueError.__new__" = true)
    (kp_NothingLeft : PySem.W.keepIn K (.ref C_NothingLeft) = true)
    (b_NothingLeft : PySem.W.subIn K (.ref C_NothingLeft) (.type "BaseException") = some true)
    (v_NothingLeft : PySem.W.subIn K (.ref C_NothingLeft) (.type "ValueError") = some true)
    (ga_NothingLeft : PySem.W.findIn K (.ref C_NothingLeft) "__getattribute__" = some (some (.builtin "BaseException.__getattribute__")))
    (gg_NothingLeft : PySem.W.findIn K (.ref C_NothingLeft) "__getattr__" = some none)
    (hd_NothingLeft : PySem.W.hasDictIn K C_NothingLeft = true)
    (ha_NothingLeft : PySem.W.findIn K (.ref C_NothingLeft) "__class__" = some (some (.builtin "object.__class__")))
    (hm_NothingLeft : PySem.W.mroIn K C_NothingLeft (.type "object") = some true)
    (s_NothingLeft_NoThings : PySem.W.subIn K (.ref C_NothingLeft) (.ref C_NoThings) = some false)
    (s_NothingLeft_NoFolk : PySem.W.subIn K (.ref C_NothingLeft) (.ref C_NoFolk) = some false)
    (s_NothingLeft_NoLot : PySem.W.subIn K (.ref C_NothingLeft) (.ref C_NoLot) = some false)
    (s_NothingLeft_NoOrder : PySem.W.subIn K (.ref C_NothingLeft) (.ref C_NoOrder) = some false)
    (s_NothingLeft_NoOne : PySem.W.subIn K (.ref C_NothingLeft) (.ref C_NoOne) = some false)
    (s_NothingLeft_NoWorth : PySem.W.subIn K (.ref C_NothingLeft) (.ref C_NoWorth) = some false)
    (s_NothingLeft_NoThing : PySem.W.subIn K (.ref C_NothingLeft) (.ref C_NoThing) = some false)
    (s_NothingLeft_NoCost : PySem.W.subIn K (.ref C_NothingLeft) (.ref C_NoCost) = some false)
    (s_NothingLeft_Taken : PySem.W.subIn K (.ref C_NothingLeft) (.ref C_Taken) = some false)
    (s_NothingLeft_Full : PySem.W.subIn K (.ref C_NothingLeft) (.ref C_Full) = some false)
    (s_NothingLeft_NotThere : PySem.W.subIn K (.ref C_NothingLeft) (.ref C_NotThere) = some false)
    (s_NothingLeft_PayError : PySem.W.subIn K (.ref C_NothingLeft) (.ref C_PayError) = some true)
    : ∃ fd : FuncData, (∀ (s : Shared) (u : Value), BindsTo s fd ⟨[u], []⟩ [("script", u)]) ∧ ∀ base : Heap, K.In base → base.Ns mainGlobals mg → FnOk l.prog w K mg base CX0 9 fa fd ["script"] (spLaw K) := by
  have e := hfa.symm.trans (PySem.W.mg_of X G a_law)
  cases e
  have F_divisor := fun_mk (st := s_divisor) l_divisor c_divisor k_divisor
  have F_fraction := fun_mk (st := s_fraction) l_fraction c_fraction k_fraction
  have F_plus := fun_mk (st := s_plus) l_plus c_plus k_plus
  have F_is_less := fun_mk (st := s_is_less) l_is_less c_is_less k_is_less
  have F_is_whole := fun_mk (st := s_is_whole) l_is_whole c_is_whole k_is_whole
  have F_is_name := fun_mk (st := s_is_name) l_is_name c_is_name k_is_name
  have F_is_number := fun_mk (st := s_is_number) l_is_number c_is_number k_is_number
  have F_are_rising := fun_mk (st := s_are_rising) l_are_rising c_are_rising k_are_rising
  have F_are_things := fun_mk (st := s_are_things) l_are_things c_are_things k_are_things
  have F_are_of := fun_mk (st := s_are_of) l_are_of c_are_of k_are_of
  have F_is_one := fun_mk (st := s_is_one) l_is_one c_is_one k_is_one
  have F_are_folk_of := fun_mk (st := s_are_folk_of) l_are_folk_of c_are_folk_of k_are_folk_of
  have F_need_things := fun_mk (st := s_need_things) l_need_things c_need_things k_need_things
  have F_need_folk := fun_mk (st := s_need_folk) l_need_folk c_need_folk k_need_folk
  have F_need_lot := fun_mk (st := s_need_lot) l_need_lot c_need_lot k_need_lot
  have F_names_of := fun_mk (st := s_names_of) l_names_of c_names_of k_names_of
  have F_are_folk := fun_mk (st := s_are_folk) l_are_folk c_are_folk k_are_folk
  have F_shares_of := fun_mk (st := s_shares_of) l_shares_of c_shares_of k_shares_of
  have F_shares := fun_mk (st := s_shares) l_shares c_shares k_shares
  have F_left_of := fun_mk (st := s_left_of) l_left_of c_left_of k_left_of
  have F_would_pay := fun_mk (st := s_would_pay) l_would_pay c_would_pay k_would_pay
  have F_left := fun_mk (st := s_left) l_left c_left k_left
  have F__law_well := fun_mk (st := s__law_well) l__law_well c__law_well k__law_well
  have F__law_take := fun_mk (st := s__law_take) l__law_take c__law_take k__law_take
  have F__law_is_int := fun_mk (st := s__law_is_int) l__law_is_int c__law_is_int k__law_is_int
  have F__law_kinds := fun_mk (st := s__law_kinds) l__law_kinds c__law_kinds k__law_kinds
  have F__law_refusal := fun_mk (st := s__law_refusal) l__law_refusal c__law_refusal k__law_refusal
  have F__law_things := fun_mk (st := s__law_things) l__law_things c__law_things k__law_things
  have F__law_one := fun_mk (st := s__law_one) l__law_one c__law_one k__law_one
  have F__law_said := fun_mk (st := s__law_said) l__law_said c__law_said k__law_said
  have F__law_done := fun_mk (st := s__law_done) l__law_done c__law_done k__law_done
  have F__law_deed := fun_mk (st := s__law_deed) l__law_deed c__law_deed k__law_deed
  have F__law_due := fun_mk (st := s__law_due) l__law_due c__law_due k__law_due
  have F__law_stands := fun_mk (st := s__law_stands) l__law_stands c__law_stands k__law_stands
  have F_law := fun_mk (st := s_law) l_law c_law k_law
  have F_Book___init__ := fun_mk (st := s_Book___init__) l_Book___init__ c_Book___init__ k_Book___init__
  have F_Book___len__ := fun_mk (st := s_Book___len__) l_Book___len__ c_Book___len__ k_Book___len__
  have F_Book___eq__ := fun_mk (st := s_Book___eq__) l_Book___eq__ c_Book___eq__ k_Book___eq__
  have F_Book_need_name := fun_mk (st := s_Book_need_name) l_Book_need_name c_Book_need_name k_Book_need_name
  have F_Book_come := fun_mk (st := s_Book_come) l_Book_come c_Book_come k_Book_come
  have F_Book_go := fun_mk (st := s_Book_go) l_Book_go c_Book_go k_Book_go
  have F_Book_say := fun_mk (st := s_Book_say) l_Book_say c_Book_say k_Book_say
  have F_Book_price := fun_mk (st := s_Book_price) l_Book_price c_Book_price k_Book_price
  have F_Book_back := fun_mk (st := s_Book_back) l_Book_back c_Book_back k_Book_back
  have F_Book_things := fun_mk (st := s_Book_things) l_Book_things c_Book_things k_Book_things
  have F_Book_folk := fun_mk (st := s_Book_folk) l_Book_folk c_Book_folk k_Book_folk
  have F_Book_left := fun_mk (st := s_Book_left) l_Book_left c_Book_left k_Book_left
  have b_divisor := F_divisor.binds (ps := ["one", "other"]) fun _ _ _ _ _ _ us hl => match us, hl with | [_, _], _ => rfl
  have b_fraction := F_fraction.binds (ps := ["top", "bottom"]) fun _ _ _ _ _ _ us hl => match us, hl with | [_, _], _ => rfl
  have b_plus := F_plus.binds (ps := ["one", "other"]) fun _ _ _ _ _ _ us hl => match us, hl with | [_, _], _ => rfl
  have b_is_less := F_is_less.binds (ps := ["one", "other"]) fun _ _ _ _ _ _ us hl => match us, hl with | [_, _], _ => rfl
  have b_is_whole := F_is_whole.binds (ps := ["thing", "low", "high"]) fun _ _ _ _ _ _ us hl => match us, hl with | [_, _, _], _ => rfl
  have b_is_name := F_is_name.binds (ps := ["thing"]) fun _ _ _ _ _ _ us hl => match us, hl with | [_], _ => rfl
  have b_is_number := F_is_number.binds (ps := ["thing"]) fun _ _ _ _ _ _ us hl => match us, hl with | [_], _ => rfl
  have b_are_rising := F_are_rising.binds (ps := ["some"]) fun _ _ _ _ _ _ us hl => match us, hl with | [_], _ => rfl
  have b_are_things := F_are_things.binds (ps := ["thing"]) fun _ _ _ _ _ _ us hl => match us, hl with | [_], _ => rfl
  have b_are_of := F_are_of.binds (ps := ["names", "thing"]) fun _ _ _ _ _ _ us hl => match us, hl with | [_, _], _ => rfl
  have b_is_one := F_is_one.binds (ps := ["things", "thing"]) fun _ _ _ _ _ _ us hl => match us, hl with | [_, _], _ => rfl
  have b_are_folk_of := F_are_folk_of.binds (ps := ["things", "thing"]) fun _ _ _ _ _ _ us hl => match us, hl with | [_, _], _ => rfl
  have b_need_things := F_need_things.binds (ps := ["things"]) fun _ _ _ _ _ _ us hl => match us, hl with | [_], _ => rfl
  have b_need_folk := F_need_folk.binds (ps := ["things", "folk"]) fun _ _ _ _ _ _ us hl => match us, hl with | [_, _], _ => rfl
  have b_need_lot := F_need_lot.binds (ps := ["things", "folk", "lot"]) fun _ _ _ _ _ _ us hl => match us, hl with | [_, _, _], _ => rfl
  have b_names_of := F_names_of.binds (ps := ["folk"]) fun _ _ _ _ _ _ us hl => match us, hl with | [_], _ => rfl
  have b_are_folk := F_are_folk.binds (ps := ["things", "thing"]) fun _ _ _ _ _ _ us hl => match us, hl with | [_, _], _ => rfl
  have b_shares_of := F_shares_of.binds (ps := ["things", "some"]) fun _ _ _ _ _ _ us hl => match us, hl with | [_, _], _ => rfl
  have b_shares := F_shares.binds (ps := ["things", "folk", "lot"]) fun _ _ _ _ _ _ us hl => match us, hl with | [_, _, _], _ => rfl
  have b_left_of := F_left_of.binds (ps := ["things", "folk", "more"]) fun _ _ _ _ _ _ us hl => match us, hl with | [_, _, _], _ => rfl
  have b_would_pay := F_would_pay.binds (ps := ["one", "share", "more"]) fun _ _ _ _ _ _ us hl => match us, hl with | [_, _, _], _ => rfl
  have b_left := F_left.binds (ps := ["things", "folk"]) fun _ _ _ _ _ _ us hl => match us, hl with | [_, _], _ => rfl
  have b__law_well := F__law_well.binds (ps := ["script", "k"]) fun _ _ _ _ _ _ us hl => match us, hl with | [_, _], _ => rfl
  have b__law_take := F__law_take.binds (ps := ["well", "many"]) fun _ _ _ _ _ _ us hl => match us, hl with | [_, _], _ => rfl
  have b__law_is_int := F__law_is_int.binds (ps := ["thing", "low", "high"]) fun _ _ _ _ _ _ us hl => match us, hl with | [_, _, _], _ => rfl
  have b__law_kinds := F__law_kinds.binds (ps := ["e"]) fun _ _ _ _ _ _ us hl => match us, hl with | [_], _ => rfl
  have b__law_refusal := F__law_refusal.binds (ps := ["e"]) fun _ _ _ _ _ _ us hl => match us, hl with | [_], _ => rfl
  have b__law_things := F__law_things.binds (ps := ["well", "top"]) fun _ _ _ _ _ _ us hl => match us, hl with | [_, _], _ => rfl
  have b__law_one := F__law_one.binds (ps := ["well", "things", "name", "even"]) fun _ _ _ _ _ _ us hl => match us, hl with | [_, _, _, _], _ => rfl
  have b__law_said := F__law_said.binds (ps := ["folk", "name", "worth"]) fun _ _ _ _ _ _ us hl => match us, hl with | [_, _, _], _ => rfl
  have b__law_done := F__law_done.binds (ps := ["book", "deed"]) fun _ _ _ _ _ _ us hl => match us, hl with | [_, _], _ => rfl
  have b__law_deed := F__law_deed.binds (ps := ["well", "things", "folk"]) fun _ _ _ _ _ _ us hl => match us, hl with | [_, _, _], _ => rfl
  have b__law_due := F__law_due.binds (ps := ["rows", "deed"]) fun _ _ _ _ _ _ us hl => match us, hl with | [_, _], _ => rfl
  have b__law_stands := F__law_stands.binds (ps := ["book", "things", "folk"]) fun _ _ _ _ _ _ us hl => match us, hl with | [_, _, _], _ => rfl
  have b_law := F_law.binds (ps := ["script"]) fun _ _ _ _ _ _ us hl => match us, hl with | [_], _ => rfl
  have b_Book___init__ := F_Book___init__.binds (ps := ["self", "things"]) fun _ _ _ _ _ _ us hl => match us, hl with | [_, _], _ => rfl
  have b_Book___len__ := F_Book___len__.binds (ps := ["self"]) fun _ _ _ _ _ _ us hl => match us, hl with | [_], _ => rfl
  have b_Book___eq__ := F_Book___eq__.binds (ps := ["self", "other"]) fun _ _ _ _ _ _ us hl => match us, hl with | [_, _], _ => rfl
  have b_Book_need_name := F_Book_need_name.binds (ps := ["self", "name"]) fun _ _ _ _ _ _ us hl => match us, hl with | [_, _], _ => rfl
  have b_Book_come := F_Book_come.binds (ps := ["self", "one"]) fun _ _ _ _ _ _ us hl => match us, hl with | [_, _], _ => rfl
  have b_Book_go := F_Book_go.binds (ps := ["self", "name"]) fun _ _ _ _ _ _ us hl => match us, hl with | [_, _], _ => rfl
  have b_Book_say := F_Book_say.binds (ps := ["self", "name", "worth"]) fun _ _ _ _ _ _ us hl => match us, hl with | [_, _, _], _ => rfl
  have b_Book_price := F_Book_price.binds (ps := ["self", "thing", "cost"]) fun _ _ _ _ _ _ us hl => match us, hl with | [_, _, _], _ => rfl
  have b_Book_back := F_Book_back.binds (ps := ["self"]) fun _ _ _ _ _ _ us hl => match us, hl with | [_], _ => rfl
  have b_Book_things := F_Book_things.binds (ps := ["self"]) fun _ _ _ _ _ _ us hl => match us, hl with | [_], _ => rfl
  have b_Book_folk := F_Book_folk.binds (ps := ["self"]) fun _ _ _ _ _ _ us hl => match us, hl with | [_], _ => rfl
  have b_Book_left := F_Book_left.binds (ps := ["self"]) fun _ _ _ _ _ _ us hl => match us, hl with | [_], _ => rfl
  have B : BookK K CB := ⟨n_Book, ⟨pg_Book, hd_Book, po_Book, sa_Book⟩, no_Book, ha_Book, hn_o, ht_o, hm_Book, kit_own ty_Book is_Book ss_Book ss_Book, kit_ty5 ty_Book is_Book st_Book, nT_Book⟩
  have e_NoOne : ExK K mg "NoOne" := ⟨C_NoOne, PySem.W.mg_of X G n_NoOne, x_NoOne, kp_NoOne, b_NoOne, ty_NoOne⟩
  have e_NoWorth : ExK K mg "NoWorth" := ⟨C_NoWorth, PySem.W.mg_of X G n_NoWorth, x_NoWorth, kp_NoWorth, b_NoWorth, ty_NoWorth⟩
  have e_NoThing : ExK K mg "NoThing" := ⟨C_NoThing, PySem.W.mg_of X G n_NoThing, x_NoThing, kp_NoThing, b_NoThing, ty_NoThing⟩
  have e_NoCost : ExK K mg "NoCost" := ⟨C_NoCost, PySem.W.mg_of X G n_NoCost, x_NoCost, kp_NoCost, b_NoCost, ty_NoCost⟩
  have e_Taken : ExK K mg "Taken" := ⟨C_Taken, PySem.W.mg_of X G n_Taken, x_Taken, kp_Taken, b_Taken, ty_Taken⟩
  have e_Full : ExK K mg "Full" := ⟨C_Full, PySem.W.mg_of X G n_Full, x_Full, kp_Full, b_Full, ty_Full⟩
  have e_NotThere : ExK K mg "NotThere" := ⟨C_NotThere, PySem.W.mg_of X G n_NotThere, x_NotThere, kp_NotThere, b_NotThere, ty_NotThere⟩
  have e_NothingLeft : ExK K mg "NothingLeft" := ⟨C_NothingLeft, PySem.W.mg_of X G n_NothingLeft, x_NothingLeft, kp_NothingLeft, b_NothingLeft, ty_NothingLeft⟩
  have g_NoThings := PySem.W.mg_of X G n_NoThings
  have g_NoFolk := PySem.W.mg_of X G n_NoFolk
  have g_NoLot := PySem.W.mg_of X G n_NoLot
  have g_NoOrder := PySem.W.mg_of X G n_NoOrder
  have g_NoOne := PySem.W.mg_of X G n_NoOne
  have g_NoWorth := PySem.W.mg_of X G n_NoWorth
  have g_NoThing := PySem.W.mg_of X G n_NoThing
  have g_NoCost := PySem.W.mg_of X G n_NoCost
  have g_Taken := PySem.W.mg_of X G n_Taken
  have g_Full := PySem.W.mg_of X G n_Full
  have g_NotThere := PySem.W.mg_of X G n_NotThere
  have g_NothingLeft := PySem.W.mg_of X G n_NothingLeft
  have g_PayError := PySem.W.mg_of X G n_PayError
  have gVE := PySem.W.mg_none_of X G z_ValueError
  have kn_NoOne : Kns K mg C_NoOne [false, false, false, false, true, false, false, false, false, false, false, false, true, true] := by
    refine ⟨⟨ga_NoOne, gg_NoOne, b_NoOne, hd_NoOne, ha_NoOne, hn_o, ht_o, hm_NoOne⟩, rfl, fun i x b e1 e2 => ?_⟩
    match i, e1, e2 with
    | 0, e1, e2 => cases e1; cases e2; exact kn_own g_NoThings (kit_own ty_NoThings is_NoThings s_NoThings_NoThings s_NoOne_NoThings)
    | 1, e1, e2 => cases e1; cases e2; exact kn_own g_NoFolk (kit_own ty_NoFolk is_NoFolk s_NoFolk_NoFolk s_NoOne_NoFolk)
    | 2, e1, e2 => cases e1; cases e2; exact kn_own g_NoLot (kit_own ty_NoLot is_NoLot s_NoLot_NoLot s_NoOne_NoLot)
    | 3, e1, e2 => cases e1; cases e2; exact kn_own g_NoOrder (kit_own ty_NoOrder is_NoOrder s_NoOrder_NoOrder s_NoOne_NoOrder)
    | 4, e1, e2 => cases e1; cases e2; exact kn_own g_NoOne (kit_own ty_NoOne is_NoOne s_NoOne_NoOne s_NoOne_NoOne)
    | 5, e1, e2 => cases e1; cases e2; exact kn_own g_NoWorth (kit_own ty_NoWorth is_NoWorth s_NoWorth_NoWorth s_NoOne_NoWorth)
    | 6, e1, e2 => cases e1; cases e2; exact kn_own g_NoThing (kit_own ty_NoThing is_NoThing s_NoThing_NoThing s_NoOne_NoThing)
    | 7, e1, e2 => cases e1; cases e2; exact kn_own g_NoCost (kit_own ty_NoCost is_NoCost s_NoCost_NoCost s_NoOne_NoCost)
    | 8, e1, e2 => cases e1; cases e2; exact kn_own g_Taken (kit_own ty_Taken is_Taken s_Taken_Taken s_NoOne_Taken)
    | 9, e1, e2 => cases e1; cases e2; exact kn_own g_Full (kit_own ty_Full is_Full s_Full_Full s_NoOne_Full)
    | 10, e1, e2 => cases e1; cases e2; exact kn_own g_NotThere (kit_own ty_NotThere is_NotThere s_NotThere_NotThere s_NoOne_NotThere)
    | 11, e1, e2 => cases e1; cases e2; exact kn_own g_NothingLeft (kit_own ty_NothingLeft is_NothingLeft s_NothingLeft_NothingLeft s_NoOne_NothingLeft)
    | 12, e1, e2 => cases e1; cases e2; exact kn_own g_PayError (kit_own ty_PayError is_PayError s_PayError_PayError s_NoOne_PayError)
    | 13, e1, e2 => cases e1; cases e2; exact kn_blt gVE (by decide +kernel) (kit_ve v_NoOne)
    | i + 14, e1, e2 => cases e2
  have kn_NoWorth : Kns K mg C_NoWorth [false, false, false, false, false, true, false, false, false, false, false, false, true, true] := by
    refine ⟨⟨ga_NoWorth, gg_NoWorth, b_NoWorth, hd_NoWorth, ha_NoWorth, hn_o, ht_o, hm_NoWorth⟩, rfl, fun i x b e1 e2 => ?_⟩
    match i, e1, e2 with
    | 0, e1, e2 => cases e1; cases e2; exact kn_own g_NoThings (kit_own ty_NoThings is_NoThings s_NoThings_NoThings s_NoWorth_NoThings)
    | 1, e1, e2 => cases e1; cases e2; exact kn_own g_NoFolk (kit_own ty_NoFolk is_NoFolk s_NoFolk_NoFolk s_NoWorth_NoFolk)
    | 2, e1, e2 => cases e1; cases e2; exact kn_own g_NoLot (kit_own ty_NoLot is_NoLot s_NoLot_NoLot s_NoWorth_NoLot)
    | 3, e1, e2 => cases e1; cases e2; exact kn_own g_NoOrder (kit_own ty_NoOrder is_NoOrder s_NoOrder_NoOrder s_NoWorth_NoOrder)
    | 4, e1, e2 => cases e1; cases e2; exact kn_own g_NoOne (kit_own ty_NoOne is_NoOne s_NoOne_NoOne s_NoWorth_NoOne)
    | 5, e1, e2 => cases e1; cases e2; exact kn_own g_NoWorth (kit_own ty_NoWorth is_NoWorth s_NoWorth_NoWorth s_NoWorth_NoWorth)
    | 6, e1, e2 => cases e1; cases e2; exact kn_own g_NoThing (kit_own ty_NoThing is_NoThing s_NoThing_NoThing s_NoWorth_NoThing)
    | 7, e1, e2 => cases e1; cases e2; exact kn_own g_NoCost (kit_own ty_NoCost is_NoCost s_NoCost_NoCost s_NoWorth_NoCost)
    | 8, e1, e2 => cases e1; cases e2; exact kn_own g_Taken (kit_own ty_Taken is_Taken s_Taken_Taken s_NoWorth_Taken)
    | 9, e1, e2 => cases e1; cases e2; exact kn_own g_Full (kit_own ty_Full is_Full s_Full_Full s_NoWorth_Full)
    | 10, e1, e2 => cases e1; cases e2; exact kn_own g_NotThere (kit_own ty_NotThere is_NotThere s_NotThere_NotThere s_NoWorth_NotThere)
    | 11, e1, e2 => cases e1; cases e2; exact kn_own g_NothingLeft (kit_own ty_NothingLeft is_NothingLeft s_NothingLeft_NothingLeft s_NoWorth_NothingLeft)
    | 12, e1, e2 => cases e1; cases e2; exact kn_own g_PayError (kit_own ty_PayError is_PayError s_PayError_PayError s_NoWorth_PayError)
    | 13, e1, e2 => cases e1; cases e2; exact kn_blt gVE (by decide +kernel) (kit_ve v_NoWorth)
    | i + 14, e1, e2 => cases e2
  have kn_NoThing : Kns K mg C_NoThing [false, false, false, false, false, false, true, false, false, false, false, false, true, true] := by
    refine ⟨⟨ga_NoThing, gg_NoThing, b_NoThing, hd_NoThing, ha_NoThing, hn_o, ht_o, hm_NoThing⟩, rfl, fun i x b e1 e2 => ?_⟩
    match i, e1, e2 with
    | 0, e1, e2 => cases e1; cases e2; exact kn_own g_NoThings (kit_own ty_NoThings is_NoThings s_NoThings_NoThings s_NoThing_NoThings)
    | 1, e1, e2 => cases e1; cases e2; exact kn_own g_NoFolk (kit_own ty_NoFolk is_NoFolk s_NoFolk_NoFolk s_NoThing_NoFolk)
    | 2, e1, e2 => cases e1; cases e2; exact kn_own g_NoLot (kit_own ty_NoLot is_NoLot s_NoLot_NoLot s_NoThing_NoLot)
    | 3, e1, e2 => cases e1; cases e2; exact kn_own g_NoOrder (kit_own ty_NoOrder is_NoOrder s_NoOrder_NoOrder s_NoThing_NoOrder)
    | 4, e1, e2 => cases e1; cases e2; exact kn_own g_NoOne (kit_own ty_NoOne is_NoOne s_NoOne_NoOne s_NoThing_NoOne)
    | 5, e1, e2 => cases e1; cases e2; exact kn_own g_NoWorth (kit_own ty_NoWorth is_NoWorth s_NoWorth_NoWorth s_NoThing_NoWorth)
    | 6, e1, e2 => cases e1; cases e2; exact kn_own g_NoThing (kit_own ty_NoThing is_NoThing s_NoThing_NoThing s_NoThing_NoThing)
    | 7, e1, e2 => cases e1; cases e2; exact kn_own g_NoCost (kit_own ty_NoCost is_NoCost s_NoCost_NoCost s_NoThing_NoCost)
    | 8, e1, e2 => cases e1; cases e2; exact kn_own g_Taken (kit_own ty_Taken is_Taken s_Taken_Taken s_NoThing_Taken)
    | 9, e1, e2 => cases e1; cases e2; exact kn_own g_Full (kit_own ty_Full is_Full s_Full_Full s_NoThing_Full)
    | 10, e1, e2 => cases e1; cases e2; exact kn_own g_NotThere (kit_own ty_NotThere is_NotThere s_NotThere_NotThere s_NoThing_NotThere)
    | 11, e1, e2 => cases e1; cases e2; exact kn_own g_NothingLeft (kit_own ty_NothingLeft is_NothingLeft s_NothingLeft_NothingLeft s_NoThing_NothingLeft)
    | 12, e1, e2 => cases e1; cases e2; exact kn_own g_PayError (kit_own ty_PayError is_PayError s_PayError_PayError s_NoThing_PayError)
    | 13, e1, e2 => cases e1; cases e2; exact kn_blt gVE (by decide +kernel) (kit_ve v_NoThing)
    | i + 14, e1, e2 => cases e2
  have kn_NoCost : Kns K mg C_NoCost [false, false, false, false, false, false, false, true, false, false, false, false, true, true] := by
    refine ⟨⟨ga_NoCost, gg_NoCost, b_NoCost, hd_NoCost, ha_NoCost, hn_o, ht_o, hm_NoCost⟩, rfl, fun i x b e1 e2 => ?_⟩
    match i, e1, e2 with
    | 0, e1, e2 => cases e1; cases e2; exact kn_own g_NoThings (kit_own ty_NoThings is_NoThings s_NoThings_NoThings s_NoCost_NoThings)
    | 1, e1, e2 => cases e1; cases e2; exact kn_own g_NoFolk (kit_own ty_NoFolk is_NoFolk s_NoFolk_NoFolk s_NoCost_NoFolk)
    | 2, e1, e2 => cases e1; cases e2; exact kn_own g_NoLot (kit_own ty_NoLot is_NoLot s_NoLot_NoLot s_NoCost_NoLot)
    | 3, e1, e2 => cases e1; cases e2; exact kn_own g_NoOrder (kit_own ty_NoOrder is_NoOrder s_NoOrder_NoOrder s_NoCost_NoOrder)
    | 4, e1, e2 => cases e1; cases e2; exact kn_own g_NoOne (kit_own ty_NoOne is_NoOne s_NoOne_NoOne s_NoCost_NoOne)
    | 5, e1, e2 => cases e1; cases e2; exact kn_own g_NoWorth (kit_own ty_NoWorth is_NoWorth s_NoWorth_NoWorth s_NoCost_NoWorth)
    | 6, e1, e2 => cases e1; cases e2; exact kn_own g_NoThing (kit_own ty_NoThing is_NoThing s_NoThing_NoThing s_NoCost_NoThing)
    | 7, e1, e2 => cases e1; cases e2; exact kn_own g_NoCost (kit_own ty_NoCost is_NoCost s_NoCost_NoCost s_NoCost_NoCost)
    | 8, e1, e2 => cases e1; cases e2; exact kn_own g_Taken (kit_own ty_Taken is_Taken s_Taken_Taken s_NoCost_Taken)
    | 9, e1, e2 => cases e1; cases e2; exact kn_own g_Full (kit_own ty_Full is_Full s_Full_Full s_NoCost_Full)
    | 10, e1, e2 => cases e1; cases e2; exact kn_own g_NotThere (kit_own ty_NotThere is_NotThere s_NotThere_NotThere s_NoCost_NotThere)
    | 11, e1, e2 => cases e1; cases e2; exact kn_own g_NothingLeft (kit_own ty_NothingLeft is_NothingLeft s_NothingLeft_NothingLeft s_NoCost_NothingLeft)
    | 12, e1, e2 => cases e1; cases e2; exact kn_own g_PayError (kit_own ty_PayError is_PayError s_PayError_PayError s_NoCost_PayError)
    | 13, e1, e2 => cases e1; cases e2; exact kn_blt gVE (by decide +kernel) (kit_ve v_NoCost)
    | i + 14, e1, e2 => cases e2
  have kn_Taken : Kns K mg C_Taken [false, false, false, false, false, false, false, false, true, false, false, false, true, true] := by
    refine ⟨⟨ga_Taken, gg_Taken, b_Taken, hd_Taken, ha_Taken, hn_o, ht_o, hm_Taken⟩, rfl, fun i x b e1 e2 => ?_⟩
    match i, e1, e2 with
    | 0, e1, e2 => cases e1; cases e2; exact kn_own g_NoThings (kit_own ty_NoThings is_NoThings s_NoThings_NoThings s_Taken_NoThings)
    | 1, e1, e2 => cases e1; cases e2; exact kn_own g_NoFolk (kit_own ty_NoFolk is_NoFolk s_NoFolk_NoFolk s_Taken_NoFolk)
    | 2, e1, e2 => cases e1; cases e2; exact kn_own g_NoLot (kit_own ty_NoLot is_NoLot s_NoLot_NoLot s_Taken_NoLot)
    | 3, e1, e2 => cases e1; cases e2; exact kn_own g_NoOrder (kit_own ty_NoOrder is_NoOrder s_NoOrder_NoOrder s_Taken_NoOrder)
    | 4, e1, e2 => cases e1; cases e2; exact kn_own g_NoOne (kit_own ty_NoOne is_NoOne s_NoOne_NoOne s_Taken_NoOne)
    | 5, e1, e2 => cases e1; cases e2; exact kn_own g_NoWorth (kit_own ty_NoWorth is_NoWorth s_NoWorth_NoWorth s_Taken_NoWorth)
    | 6, e1, e2 => cases e1; cases e2; exact kn_own g_NoThing (kit_own ty_NoThing is_NoThing s_NoThing_NoThing s_Taken_NoThing)
    | 7, e1, e2 => cases e1; cases e2; exact kn_own g_NoCost (kit_own ty_NoCost is_NoCost s_NoCost_NoCost s_Taken_NoCost)
    | 8, e1, e2 => cases e1; cases e2; exact kn_own g_Taken (kit_own ty_Taken is_Taken s_Taken_Taken s_Taken_Taken)
    | 9, e1, e2 => cases e1; cases e2; exact kn_own g_Full (kit_own ty_Full is_Full s_Full_Full s_Taken_Full)
    | 10, e1, e2 => cases e1; cases e2; exact kn_own g_NotThere (kit_own ty_NotThere is_NotThere s_NotThere_NotThere s_Taken_NotThere)
    | 11, e1, e2 => cases e1; cases e2; exact kn_own g_NothingLeft (kit_own ty_NothingLeft is_NothingLeft s_NothingLeft_NothingLeft s_Taken_NothingLeft)
    | 12, e1, e2 => cases e1; cases e2; exact kn_own g_PayError (kit_own ty_PayError is_PayError s_PayError_PayError s_Taken_PayError)
    | 13, e1, e2 => cases e1; cases e2; exact kn_blt gVE (by decide +kernel) (kit_ve v_Taken)
    | i + 14, e1, e2 => cases e2
  have kn_Full : Kns K mg C_Full [false, false, false, false, false, false, false, false, false, true, false, false, true, true] := by
    refine ⟨⟨ga_Full, gg_Full, b_Full, hd_Full, ha_Full, hn_o, ht_o, hm_Full⟩, rfl, fun i x b e1 e2 => ?_⟩
    match i, e1, e2 with
    | 0, e1, e2 => cases e1; cases e2; exact kn_own g_NoThings (kit_own ty_NoThings is_NoThings s_NoThings_NoThings s_Full_NoThings)
    | 1, e1, e2 => cases e1; cases e2; exact kn_own g_NoFolk (kit_own ty_NoFolk is_NoFolk s_NoFolk_NoFolk s_Full_NoFolk)
    | 2, e1, e2 => cases e1; cases e2; exact kn_own g_NoLot (kit_own ty_NoLot is_NoLot s_NoLot_NoLot s_Full_NoLot)
    | 3, e1, e2 => cases e1; cases e2; exact kn_own g_NoOrder (kit_own ty_NoOrder is_NoOrder s_NoOrder_NoOrder s_Full_NoOrder)
    | 4, e1, e2 => cases e1; cases e2; exact kn_own g_NoOne (kit_own ty_NoOne is_NoOne s_NoOne_NoOne s_Full_NoOne)
    | 5, e1, e2 => cases e1; cases e2; exact kn_own g_NoWorth (kit_own ty_NoWorth is_NoWorth s_NoWorth_NoWorth s_Full_NoWorth)
    | 6, e1, e2 => cases e1; cases e2; exact kn_own g_NoThing (kit_own ty_NoThing is_NoThing s_NoThing_NoThing s_Full_NoThing)
    | 7, e1, e2 => cases e1; cases e2; exact kn_own g_NoCost (kit_own ty_NoCost is_NoCost s_NoCost_NoCost s_Full_NoCost)
    | 8, e1, e2 => cases e1; cases e2; exact kn_own g_Taken (kit_own ty_Taken is_Taken s_Taken_Taken s_Full_Taken)
    | 9, e1, e2 => cases e1; cases e2; exact kn_own g_Full (kit_own ty_Full is_Full s_Full_Full s_Full_Full)
    | 10, e1, e2 => cases e1; cases e2; exact kn_own g_NotThere (kit_own ty_NotThere is_NotThere s_NotThere_NotThere s_Full_NotThere)
    | 11, e1, e2 => cases e1; cases e2; exact kn_own g_NothingLeft (kit_own ty_NothingLeft is_NothingLeft s_NothingLeft_NothingLeft s_Full_NothingLeft)
    | 12, e1, e2 => cases e1; cases e2; exact kn_own g_PayError (kit_own ty_PayError is_PayError s_PayError_PayError s_Full_PayError)
    | 13, e1, e2 => cases e1; cases e2; exact kn_blt gVE (by decide +kernel) (kit_ve v_Full)
    | i + 14, e1, e2 => cases e2
  have kn_NotThere : Kns K mg C_NotThere [false, false, false, false, false, false, false, false, false, false, true, false, true, true] := by
    refine ⟨⟨ga_NotThere, gg_NotThere, b_NotThere, hd_NotThere, ha_NotThere, hn_o, ht_o, hm_NotThere⟩, rfl, fun i x b e1 e2 => ?_⟩
    match i, e1, e2 with
    | 0, e1, e2 => cases e1; cases e2; exact kn_own g_NoThings (kit_own ty_NoThings is_NoThings s_NoThings_NoThings s_NotThere_NoThings)
    | 1, e1, e2 => cases e1; cases e2; exact kn_own g_NoFolk (kit_own ty_NoFolk is_NoFolk s_NoFolk_NoFolk s_NotThere_NoFolk)
    | 2, e1, e2 => cases e1; cases e2; exact kn_own g_NoLot (kit_own ty_NoLot is_NoLot s_NoLot_NoLot s_NotThere_NoLot)
    | 3, e1, e2 => cases e1; cases e2; exact kn_own g_NoOrder (kit_own ty_NoOrder is_NoOrder s_NoOrder_NoOrder s_NotThere_NoOrder)
    | 4, e1, e2 => cases e1; cases e2; exact kn_own g_NoOne (kit_own ty_NoOne is_NoOne s_NoOne_NoOne s_NotThere_NoOne)
    | 5, e1, e2 => cases e1; cases e2; exact kn_own g_NoWorth (kit_own ty_NoWorth is_NoWorth s_NoWorth_NoWorth s_NotThere_NoWorth)
    | 6, e1, e2 => cases e1; cases e2; exact kn_own g_NoThing (kit_own ty_NoThing is_NoThing s_NoThing_NoThing s_NotThere_NoThing)
    | 7, e1, e2 => cases e1; cases e2; exact kn_own g_NoCost (kit_own ty_NoCost is_NoCost s_NoCost_NoCost s_NotThere_NoCost)
    | 8, e1, e2 => cases e1; cases e2; exact kn_own g_Taken (kit_own ty_Taken is_Taken s_Taken_Taken s_NotThere_Taken)
    | 9, e1, e2 => cases e1; cases e2; exact kn_own g_Full (kit_own ty_Full is_Full s_Full_Full s_NotThere_Full)
    | 10, e1, e2 => cases e1; cases e2; exact kn_own g_NotThere (kit_own ty_NotThere is_NotThere s_NotThere_NotThere s_NotThere_NotThere)
    | 11, e1, e2 => cases e1; cases e2; exact kn_own g_NothingLeft (kit_own ty_NothingLeft is_NothingLeft s_NothingLeft_NothingLeft s_NotThere_NothingLeft)
    | 12, e1, e2 => cases e1; cases e2; exact kn_own g_PayError (kit_own ty_PayError is_PayError s_PayError_PayError s_NotThere_PayError)
    | 13, e1, e2 => cases e1; cases e2; exact kn_blt gVE (by decide +kernel) (kit_ve v_NotThere)
    | i + 14, e1, e2 => cases e2
  have kn_NothingLeft : Kns K mg C_NothingLeft [false, false, false, false, false, false, false, false, false, false, false, true, true, true] := by
    refine ⟨⟨ga_NothingLeft, gg_NothingLeft, b_NothingLeft, hd_NothingLeft, ha_NothingLeft, hn_o, ht_o, hm_NothingLeft⟩, rfl, fun i x b e1 e2 => ?_⟩
    match i, e1, e2 with
    | 0, e1, e2 => cases e1; cases e2; exact kn_own g_NoThings (kit_own ty_NoThings is_NoThings s_NoThings_NoThings s_NothingLeft_NoThings)
    | 1, e1, e2 => cases e1; cases e2; exact kn_own g_NoFolk (kit_own ty_NoFolk is_NoFolk s_NoFolk_NoFolk s_NothingLeft_NoFolk)
    | 2, e1, e2 => cases e1; cases e2; exact kn_own g_NoLot (kit_own ty_NoLot is_NoLot s_NoLot_NoLot s_NothingLeft_NoLot)
    | 3, e1, e2 => cases e1; cases e2; exact kn_own g_NoOrder (kit_own ty_NoOrder is_NoOrder s_NoOrder_NoOrder s_NothingLeft_NoOrder)
    | 4, e1, e2 => cases e1; cases e2; exact kn_own g_NoOne (kit_own ty_NoOne is_NoOne s_NoOne_NoOne s_NothingLeft_NoOne)
    | 5, e1, e2 => cases e1; cases e2; exact kn_own g_NoWorth (kit_own ty_NoWorth is_NoWorth s_NoWorth_NoWorth s_NothingLeft_NoWorth)
    | 6, e1, e2 => cases e1; cases e2; exact kn_own g_NoThing (kit_own ty_NoThing is_NoThing s_NoThing_NoThing s_NothingLeft_NoThing)
    | 7, e1, e2 => cases e1; cases e2; exact kn_own g_NoCost (kit_own ty_NoCost is_NoCost s_NoCost_NoCost s_NothingLeft_NoCost)
    | 8, e1, e2 => cases e1; cases e2; exact kn_own g_Taken (kit_own ty_Taken is_Taken s_Taken_Taken s_NothingLeft_Taken)
    | 9, e1, e2 => cases e1; cases e2; exact kn_own g_Full (kit_own ty_Full is_Full s_Full_Full s_NothingLeft_Full)
    | 10, e1, e2 => cases e1; cases e2; exact kn_own g_NotThere (kit_own ty_NotThere is_NotThere s_NotThere_NotThere s_NothingLeft_NotThere)
    | 11, e1, e2 => cases e1; cases e2; exact kn_own g_NothingLeft (kit_own ty_NothingLeft is_NothingLeft s_NothingLeft_NothingLeft s_NothingLeft_NothingLeft)
    | 12, e1, e2 => cases e1; cases e2; exact kn_own g_PayError (kit_own ty_PayError is_PayError s_PayError_PayError s_NothingLeft_PayError)
    | 13, e1, e2 => cases e1; cases e2; exact kn_blt gVE (by decide +kernel) (kit_ve v_NothingLeft)
    | i + 14, e1, e2 => cases e2
  have link : ∀ nm Ca word, RW8 nm word → mg nm = some (.ref Ca) → (∃ bs, Kns K mg Ca bs ∧ pick kWords bs = [word, "own", "value"]) ∧ PySem.W.exmOne K (.ref Ca) (.ref C_PayError) = some true := by
    intro nm Ca word hw hm
    simp only [RW8, List.mem_cons, List.not_mem_nil, or_false, Prod.mk.injEq] at hw
    rcases hw with ⟨rfl, rfl⟩ | ⟨rfl, rfl⟩ | ⟨rfl, rfl⟩ | ⟨rfl, rfl⟩ | ⟨rfl, rfl⟩ | ⟨rfl, rfl⟩ | ⟨rfl, rfl⟩ | ⟨rfl, rfl⟩
    · have e := g_NoOne.symm.trans hm
      cases e
      exact ⟨⟨_, kn_NoOne, by decide +kernel⟩, PySem.W.exm_ref b_PayError hd_PayError ty_PayError s_NoOne_PayError⟩
    · have e := g_NoWorth.symm.trans hm
      cases e
      exact ⟨⟨_, kn_NoWorth, by decide +kernel⟩, PySem.W.exm_ref b_PayError hd_PayError ty_PayError s_NoWorth_PayError⟩
    · have e := g_NoThing.symm.trans hm
      cases e
      exact ⟨⟨_, kn_NoThing, by decide +kernel⟩, PySem.W.exm_ref b_PayError hd_PayError ty_PayError s_NoThing_PayError⟩
    · have e := g_NoCost.symm.trans hm
      cases e
      exact ⟨⟨_, kn_NoCost, by decide +kernel⟩, PySem.W.exm_ref b_PayError hd_PayError ty_PayError s_NoCost_PayError⟩
    · have e := g_Taken.symm.trans hm
      cases e
      exact ⟨⟨_, kn_Taken, by decide +kernel⟩, PySem.W.exm_ref b_PayError hd_PayError ty_PayError s_Taken_PayError⟩
    · have e := g_Full.symm.trans hm
      cases e
      exact ⟨⟨_, kn_Full, by decide +kernel⟩, PySem.W.exm_ref b_PayError hd_PayError ty_PayError s_Full_PayError⟩
    · have e := g_NotThere.symm.trans hm
      cases e
      exact ⟨⟨_, kn_NotThere, by decide +kernel⟩, PySem.W.exm_ref b_PayError hd_PayError ty_PayError s_NotThere_PayError⟩
    · have e := g_NothingLeft.symm.trans hm
      cases e
      exact ⟨⟨_, kn_NothingLeft, by decide +kernel⟩, PySem.W.exm_ref b_PayError hd_PayError ty_PayError s_NothingLeft_PayError⟩
  have z : Zs K mg := ⟨PySem.W.mg_none_of X G z_ValueError, PySem.W.mg_none_of X G z_abs, PySem.W.mg_none_of X G z_all, PySem.W.mg_none_of X G z_bool, PySem.W.mg_none_of X G z_int, PySem.W.mg_none_of X G z_isinstance, PySem.W.mg_none_of X G z_len, PySem.W.mg_none_of X G z_list, PySem.W.mg_none_of X G z_max, PySem.W.mg_none_of X G z_min, PySem.W.mg_none_of X G z_range, PySem.W.mg_none_of X G z_sorted, PySem.W.mg_none_of X G z_str, PySem.W.mg_none_of X G z_sum, PySem.W.mg_none_of X G z_tuple, PySem.W.mg_none_of X G z_zip, e_Full, e_NoCost, e_NoOne, e_NoThing, e_NoWorth, e_NotThere, e_NothingLeft, e_Taken, lit_str (PySem.W.mg_of X G g_LETTERS), lit_int (PySem.W.mg_of X G g_MOST), lit_int (PySem.W.mg_of X G g_MOST_NUMBER), lit_int (PySem.W.mg_of X G g_MOST_WEIGHT), lit_ii (PySem.W.mg_of X G g_NOUGHT) m_NOUGHT rfl rfl rfl⟩
  refine ⟨PySem.W.fnOf "law" "law" (defArgs s_law) (defBody s_law) (defScope s_law) .none kV_law dc_law pm_law an_law cd_law ct_law, fun s v => .of_eq rfl, fun base _ _ => ?_⟩
  have G_kinds := ok_kinds (P := l.prog) (w := w) (base := base) (PySem.W.mg_none_of X G z_isinstance) (PySem.W.mg_none_of X G z_zip) F__law_kinds
  have G_ref := ok_refusal G_kinds (PySem.W.mg_of X G a__law_kinds) k__law_kinds b__law_kinds F__law_refusal
  have G_divisor : Has l.prog w K mg base 1 "divisor" ["one", "other"] (spD K mg 2 p_divisor) := ⟨_, _, fn_imp (ok_divisor z F_divisor) pure_divisor, PySem.W.mg_of X G a_divisor, k_divisor, b_divisor⟩
  have G_is_less : Has l.prog w K mg base 1 "is_less" ["one", "other"] (spD K mg 2 p_is_less) := ⟨_, _, fn_imp (ok_is_less z F_is_less) pure_is_less, PySem.W.mg_of X G a_is_less, k_is_less, b_is_less⟩
  have G_is_whole : Has l.prog w K mg base 1 "is_whole" ["thing", "low", "high"] (spD K mg 3 r_is_whole) := ⟨_, _, fn_imp (ok_is_whole z F_is_whole) r5_is_whole, PySem.W.mg_of X G a_is_whole, k_is_whole, b_is_whole⟩
  have G_is_name : Has l.prog w K mg base 1 "is_name" ["thing"] (spD K mg 1 p_is_name) := ⟨_, _, fn_imp (ok_is_name z F_is_name) pure_is_name, PySem.W.mg_of X G a_is_name, k_is_name, b_is_name⟩
  have G_are_rising : Has l.prog w K mg base 1 "are_rising" ["some"] (spD K mg 1 p_are_rising) := ⟨_, _, fn_imp (ok_are_rising z F_are_rising) pure_are_rising, PySem.W.mg_of X G a_are_rising, k_are_rising, b_are_rising⟩
  have G_names_of : Has l.prog w K mg base 1 "names_of" ["folk"] (spD K mg 1 p_names_of) := ⟨_, _, fn_imp (ok_names_of z F_names_of) pure_names_of, PySem.W.mg_of X G a_names_of, k_names_of, b_names_of⟩
  have G__law_well : Has l.prog w K mg base 1 "_law_well" ["script", "k"] (spN K mg 2 p__law_well) := ⟨_, _, fn_impN (ok__law_well z F__law_well) pure__law_well, PySem.W.mg_of X G a__law_well, k__law_well, b__law_well⟩
  have G__law_take : Has l.prog w K mg base 1 "_law_take" ["well", "many"] (spD K mg 2 p__law_take) := ⟨_, _, fn_imp (ok__law_take z F__law_take) pure__law_take, PySem.W.mg_of X G a__law_take, k__law_take, b__law_take⟩
  have G__law_is_int : Has l.prog w K mg base 1 "_law_is_int" ["thing", "low", "high"] (spD K mg 3 r_is_whole) := ⟨_, _, fn_imp (ok__law_is_int z F__law_is_int) r5__law_is_int, PySem.W.mg_of X G a__law_is_int, k__law_is_int, b__law_is_int⟩
  have G__law_said : Has l.prog w K mg base 1 "_law_said" ["folk", "name", "worth"] (spD K mg 3 p__law_said) := ⟨_, _, fn_imp (ok__law_said z F__law_said) pure__law_said, PySem.W.mg_of X G a__law_said, k__law_said, b__law_said⟩
  have G_Book___len__ : HasM l.prog w K mg base CX0 1 CB "__len__" ["self"] (spD K mg 1 p_Book___len__) := ⟨_, _, fn_imp (ok_Book___len__ z B F_Book___len__) pure_Book___len__, ⟨a_Book___len__, i_Book___len__, k_Book___len__⟩, b_Book___len__⟩
  have G_Book___eq__ : HasM l.prog w K mg base CX0 1 CB "__eq__" ["self", "other"] (spEqB K CB) := ⟨_, _, ok_eq z B (PySem.W.mg_of X G n_Book) F_Book___eq__, ⟨a_Book___eq__, i_Book___eq__, k_Book___eq__⟩, b_Book___eq__⟩
  have G_Book_back : HasM l.prog w K mg base (L2N.CX l.prog w) 1 CB "back" ["self"] (spX K mg 1 p_Book_back) := ⟨_, _, fn_impX (ok_Book_back z B F_Book_back) pure_Book_back, ⟨a_Book_back, i_Book_back, k_Book_back⟩, b_Book_back⟩
  have G_Book_things : HasM l.prog w K mg base CX0 1 CB "things" ["self"] (spD K mg 1 p_Book_things) := ⟨_, _, fn_imp (ok_Book_things z B F_Book_things) pure_Book_things, ⟨a_Book_things, i_Book_things, k_Book_things⟩, b_Book_things⟩
  have G_Book_folk : HasM l.prog w K mg base CX0 1 CB "folk" ["self"] (spD K mg 1 p_Book_folk) := ⟨_, _, fn_imp (ok_Book_folk z B F_Book_folk) pure_Book_folk, ⟨a_Book_folk, i_Book_folk, k_Book_folk⟩, b_Book_folk⟩
  have G_fraction : Has l.prog w K mg base 2 "fraction" ["top", "bottom"] (spD K mg 2 p_fraction) := ⟨_, _, fn_imp (ok_fraction z G_divisor F_fraction) pure_fraction, PySem.W.mg_of X G a_fraction, k_fraction, b_fraction⟩
  have G_is_number : Has l.prog w K mg base 2 "is_number" ["thing"] (spD K mg 1 r_is_number) := ⟨_, _, fn_imp (ok_is_number z G_is_whole F_is_number) r5_is_number, PySem.W.mg_of X G a_is_number, k_is_number, b_is_number⟩
  have G_are_of : Has l.prog w K mg base 2 "are_of" ["names", "thing"] (spD K mg 2 r_are_of) := ⟨_, _, fn_imp (ok_are_of z G_are_rising F_are_of) r5_are_of, PySem.W.mg_of X G a_are_of, k_are_of, b_are_of⟩
  have G__law_things : Has l.prog w K mg base 2 "_law_things" ["well", "top"] (spD K mg 2 p__law_things) := ⟨_, _, fn_imp (ok__law_things z G__law_take F__law_things) pure__law_things, PySem.W.mg_of X G a__law_things, k__law_things, b__law_things⟩
  have G__law_one : Has l.prog w K mg base 2 "_law_one" ["well", "things", "name", "even"] (spD K mg 4 p__law_one) := ⟨_, _, fn_imp (ok__law_one z G__law_take F__law_one) pure__law_one, PySem.W.mg_of X G a__law_one, k__law_one, b__law_one⟩
  have G_Book_need_name : HasM l.prog w K mg base (L2N.CX l.prog w) 2 CB "need_name" ["self", "name"] (spX K mg 2 p_Book_need_name) := ⟨_, _, fn_impX (ok_Book_need_name z B G_names_of F_Book_need_name) pure_Book_need_name, ⟨a_Book_need_name, i_Book_need_name, k_Book_need_name⟩, b_Book_need_name⟩
  have G_plus : Has l.prog w K mg base 3 "plus" ["one", "other"] (spD K mg 2 p_plus) := ⟨_, _, fn_imp (ok_plus z G_fraction F_plus) pure_plus, PySem.W.mg_of X G a_plus, k_plus, b_plus⟩
  have G_are_things : Has l.prog w K mg base 3 "are_things" ["thing"] (spD K mg 1 p_are_things) := ⟨_, _, fn_imp (ok_are_things z G_is_name (has_imp G_is_number w_is_number) G_are_rising F_are_things) pure_are_things, PySem.W.mg_of X G a_are_things, k_are_things, b_are_things⟩
  have G_is_one : Has l.prog w K mg base 3 "is_one" ["things", "thing"] (spD K mg 2 r_is_one) := ⟨_, _, fn_imp (ok_is_one z G_is_name G_are_of G_is_number G_is_whole F_is_one) r5_is_one, PySem.W.mg_of X G a_is_one, k_is_one, b_is_one⟩
  have G__law_deed : Has l.prog w K mg base 3 "_law_deed" ["well", "things", "folk"] (spD K mg 3 p__law_deed) := ⟨_, _, fn_imp (ok__law_deed z G__law_take G__law_one F__law_deed) pure__law_deed, PySem.W.mg_of X G a__law_deed, k__law_deed, b__law_deed⟩
  have G_Book_go : HasM l.prog w K mg base (L2N.CX l.prog w) 3 CB "go" ["self", "name"] (spX K mg 2 p_Book_go) := ⟨_, _, fn_impX (ok_Book_go z B G_Book_need_name F_Book_go) pure_Book_go, ⟨a_Book_go, i_Book_go, k_Book_go⟩, b_Book_go⟩
  have G_Book_say : HasM l.prog w K mg base (L2N.CX l.prog w) 3 CB "say" ["self", "name", "worth"] (spX K mg 3 p_Book_say) := ⟨_, _, fn_impX (ok_Book_say z B G_Book_need_name G_is_number F_Book_say) pure_Book_say, ⟨a_Book_say, i_Book_say, k_Book_say⟩, b_Book_say⟩
  have G_Book_price : HasM l.prog w K mg base (L2N.CX l.prog w) 3 CB "price" ["self", "thing", "cost"] (spX K mg 3 p_Book_price) := ⟨_, _, fn_impX (ok_Book_price z B G_is_number F_Book_price) pure_Book_price, ⟨a_Book_price, i_Book_price, k_Book_price⟩, b_Book_price⟩
  have G_are_folk_of : Has l.prog w K mg base 4 "are_folk_of" ["things", "thing"] (spD K mg 2 r_are_folk_of) := ⟨_, _, fn_imp (ok_are_folk_of z G_is_one G_are_rising F_are_folk_of) r5_are_folk_of, PySem.W.mg_of X G a_are_folk_of, k_are_folk_of, b_are_folk_of⟩
  have G_need_things : Has l.prog w K mg base 4 "need_things" ["things"] (spD K mg 1 p_need_things) := ⟨_, _, fn_imp (ok_need_things z G_are_things F_need_things) pure_need_things, PySem.W.mg_of X G a_need_things, k_need_things, b_need_things⟩
  have G_shares_of : Has l.prog w K mg base 4 "shares_of" ["things", "some"] (spD K mg 2 p_shares_of) := ⟨_, _, fn_imp (ok_shares_of z G_plus G_fraction F_shares_of) pure_shares_of, PySem.W.mg_of X G a_shares_of, k_shares_of, b_shares_of⟩
  have G_would_pay : Has l.prog w K mg base 4 "would_pay" ["one", "share", "more"] (spD K mg 3 p_would_pay) := ⟨_, _, fn_imp (ok_would_pay z G_is_less G_plus F_would_pay) pure_would_pay, PySem.W.mg_of X G a_would_pay, k_would_pay, b_would_pay⟩
  have G_Book_come : HasM l.prog w K mg base (L2N.CX l.prog w) 4 CB "come" ["self", "one"] (spX K mg 2 p_Book_come) := ⟨_, _, fn_impX (ok_Book_come z B G_is_one G_names_of F_Book_come) pure_Book_come, ⟨a_Book_come, i_Book_come, k_Book_come⟩, b_Book_come⟩
  have G_need_folk : Has l.prog w K mg base 5 "need_folk" ["things", "folk"] (spD K mg 2 p_need_folk) := ⟨_, _, fn_imp (ok_need_folk z G_need_things (has_imp G_are_folk_of w5_are_folk_of) F_need_folk) pure_need_folk, PySem.W.mg_of X G a_need_folk, k_need_folk, b_need_folk⟩
  have G_are_folk : Has l.prog w K mg base 5 "are_folk" ["things", "thing"] (spD K mg 2 r_are_folk) := ⟨_, _, fn_imp (ok_are_folk z G_need_things G_are_folk_of F_are_folk) r5_are_folk, PySem.W.mg_of X G a_are_folk, k_are_folk, b_are_folk⟩
  have G_left_of : Has l.prog w K mg base 5 "left_of" ["things", "folk", "more"] (spD K mg 3 p_left_of) := ⟨_, _, fn_imp (ok_left_of z G_shares_of G_would_pay F_left_of) pure_left_of, PySem.W.mg_of X G a_left_of, k_left_of, b_left_of⟩
  have G__law_done : Has l.prog w K mg base 5 "_law_done" ["book", "deed"] (spD K mg 2 p__law_done) := ⟨_, _, fn_imp (ok__law_done B G_Book_come G_Book_go G_Book_say G_Book_price G_Book_back G_ref (PySem.W.mg_of X G a__law_refusal) k__law_refusal b__law_refusal g_PayError link F__law_done) pure__law_done, PySem.W.mg_of X G a__law_done, k__law_done, b__law_done⟩
  have G_Book___init__ : HasMk l.prog w K mg base 5 CB p_need_things := ⟨_, _, ⟨mk_Book, a_Book___init__, i_Book___init__, kp_Book⟩, ok_init z B G_need_things F_Book___init__, PySem.W.mg_of X G n_Book, b_Book___init__⟩
  have G_need_lot : Has l.prog w K mg base 6 "need_lot" ["things", "folk", "lot"] (spD K mg 3 p_need_lot) := ⟨_, _, fn_imp (ok_need_lot z G_need_folk (has_imp G_are_of w_are_of) G_names_of F_need_lot) pure_need_lot, PySem.W.mg_of X G a_need_lot, k_need_lot, b_need_lot⟩
  have G_left : Has l.prog w K mg base 6 "left" ["things", "folk"] (spD K mg 2 p_left) := ⟨_, _, fn_imp (ok_left z G_need_folk G_names_of G_left_of F_left) pure_left, PySem.W.mg_of X G a_left, k_left, b_left⟩
  have G__law_due : Has l.prog w K mg base 6 "_law_due" ["rows", "deed"] (spD K mg 2 p__law_due) := ⟨_, _, fn_imp (ok__law_due z G_are_folk G__law_is_int G__law_said F__law_due) pure__law_due, PySem.W.mg_of X G a__law_due, k__law_due, b__law_due⟩
  have G_Book_left : HasM l.prog w K mg base CX0 6 CB "left" ["self"] (spN K mg 1 p_Book_left) := ⟨_, _, fn_impN (ok_Book_left z B G_shares_of G_left_of F_Book_left) pure_Book_left, ⟨a_Book_left, i_Book_left, k_Book_left⟩, b_Book_left⟩
  have G_shares : Has l.prog w K mg base 7 "shares" ["things", "folk", "lot"] (spD K mg 3 p_shares) := ⟨_, _, fn_imp (ok_shares z G_need_lot G_shares_of F_shares) pure_shares, PySem.W.mg_of X G a_shares, k_shares, b_shares⟩
  have G__law_stands : Has l.prog w K mg base 8 "_law_stands" ["book", "things", "folk"] (spD K mg 3 p__law_stands) := ⟨_, _, fn_imp (ok__law_stands z B G_Book_things G_Book_folk G_Book___len__ G_Book_left G_shares G_left F__law_stands) pure__law_stands, PySem.W.mg_of X G a__law_stands, k__law_stands, b__law_stands⟩
  exact law_done (ok_law z B G__law_things G__law_well G_Book___init__ G_need_things G__law_deed G__law_done G__law_due G__law_stands G_Book___eq__ G_Book_left G_Book_back G_Book_come F_law) pure_law
theorem walk {l : PySem.W.OpenLaw} {q : Program} {loose : List Str} {XP : (Str → Option Value) → Heap → Prop} {YP : World → Heap → Prop} {d : DefRec} {K : Params → PySem.W.Frag} (hn : l.most = some 63) (hdf : d.params.defaults = [])
    (hY : ∀ (w : World) (h : Heap), YP w h → (K w.params).In h)
    (F : ∀ (w : World) (mg : Str → Option Value) (fa : Addr) (h : Heap), (K w.params).In h → h.Ns mainGlobals mg → mg d.name = some (.ref fa) →
      ∃ fd : FuncData, (∀ (s : Shared) (u : Value), BindsTo s fd ⟨[u], []⟩ [("script", u)]) ∧ ∀ base : Heap, (K w.params).In base → base.Ns mainGlobals mg → FnOk l.prog w (K w.params) mg base CX0 9 fa fd ["script"] (spLaw (K w.params))) :
    PySem.W.WalkO q loose XP YP l.row.toRowW d [] (fun f vs => PySem.call f vs) :=
  L2.walk_of (n := 63) (k := 9) (x := "script") (CX := fun _ => CX0) (sp := fun w => spLaw (K w.params)) hn (by decide) hdf ⟨rfl, by decide, by decide⟩ hY F (fun _ _ a ns hl ho hS => ⟨a, ns, rfl, hS, hl, ho, fun _ => rfl⟩) fun _ _ _ _ _ z => z
end K51
open PySem PySem.W PyProof.Rows
set_option maxRecDepth 100000 in
set_option maxHeartbeats 0 in
theorem PySem.Challenge.cw_gladpayers_k51_books_by_hand_holds : PySem.Challenge.rw_gladpayers_k51_books_by_hand.Holds := by
  w_on; o_law; k_head; (case hw => w_witness2)
  k_fill
  refine K51.walk (l := PySem.Challenge.rw_gladpayers_k51_books_by_hand) rfl rfl (fun w h Y => PySem.W.kIn_of Y) ?F
  case F =>
    intro w mg fa h KX G hmg
    refine' K51.all_mk KX G hmg ?n_Book ?pg_Book ?hd_Book ?po_Book ?sa_Book ?no_Book ?ha_Book ?hn_o ?ht_o ?hm_Book ?ty_Book ?is_Book ?ss_Book ?st_Book ?nT_Book ?mk_Book ?kp_Book ?a_divisor ?l_divisor ?c_divisor ?k_divisor ?a_fraction ?l_fraction ?c_fraction ?k_fraction ?a_plus ?l_plus ?c_plus ?k_plus ?a_is_less ?l_is_less ?c_is_less ?k_is_less ?a_is_whole ?l_is_whole ?c_is_whole ?k_is_whole ?a_is_name ?l_is_name ?c_is_name ?k_is_name ?a_is_number ?l_is_number ?c_is_number ?k_is_number ?a_are_rising ?l_are_rising ?c_are_rising ?k_are_rising ?a_are_things ?l_are_things ?c_are_things ?k_are_things ?a_are_of ?l_are_of ?c_are_of ?k_are_of ?a_is_one ?l_is_one ?c_is_one ?k_is_one ?a_are_folk_of ?l_are_folk_of ?c_are_folk_of ?k_are_folk_of ?a_need_things ?l_need_things ?c_need_things ?k_need_things ?a_need_folk ?l_need_folk ?c_need_folk ?k_need_folk ?a_need_lot ?l_need_lot ?c_need_lot ?k_need_lot ?a_names_of ?l_names_of ?c_names_of ?k_names_of ?a_are_folk ?l_are_folk ?c_are_folk ?k_are_folk ?a_shares_of ?l_shares_of ?c_shares_of ?k_shares_of ?a_shares ?l_shares ?c_shares ?k_shares ?a_left_of ?l_left_of ?c_left_of ?k_left_of ?a_would_pay ?l_would_pay ?c_would_pay ?k_would_pay ?a_left ?l_left ?c_left ?k_left ?a__law_well ?l__law_well ?c__law_well ?k__law_well ?a__law_take ?l__law_take ?c__law_take ?k__law_take ?a__law_is_int ?l__law_is_int ?c__law_is_int ?k__law_is_int ?a__law_kinds ?l__law_kinds ?c__law_kinds ?k__law_kinds ?a__law_refusal ?l__law_refusal ?c__law_refusal ?k__law_refusal ?a__law_things ?l__law_things ?c__law_things ?k__law_things ?a__law_one ?l__law_one ?c__law_one ?k__law_one ?a__law_said ?l__law_said ?c__law_said ?k__law_said ?a__law_done ?l__law_done ?c__law_done ?k__law_done ?a__law_deed ?l__law_deed ?c__law_deed ?k__law_deed ?a__law_due ?l__law_due ?c__law_due ?k__law_due ?a__law_stands ?l__law_stands ?c__law_stands ?k__law_stands ?a_law ?l_law ?c_law ?k_law ?a_Book___init__ ?l_Book___init__ ?c_Book___init__ ?k_Book___init__ ?i_Book___init__ ?a_Book___len__ ?l_Book___len__ ?c_Book___len__ ?k_Book___len__ ?i_Book___len__ ?a_Book___eq__ ?l_Book___eq__ ?c_Book___eq__ ?k_Book___eq__ ?i_Book___eq__ ?a_Book_need_name ?l_Book_need_name ?c_Book_need_name ?k_Book_need_name ?i_Book_need_name ?a_Book_come ?l_Book_come ?c_Book_come ?k_Book_come ?i_Book_come ?a_Book_go ?l_Book_go ?c_Book_go ?k_Book_go ?i_Book_go ?a_Book_say ?l_Book_say ?c_Book_say ?k_Book_say ?i_Book_say ?a_Book_price ?l_Book_price ?c_Book_price ?k_Book_price ?i_Book_price ?a_Book_back ?l_Book_back ?c_Book_back ?k_Book_back ?i_Book_back ?a_Book_things ?l_Book_things ?c_Book_things ?k_Book_things ?i_Book_things ?a_Book_folk ?l_Book_folk ?c_Book_folk ?k_Book_folk ?i_Book_folk ?a_Book_left ?l_Book_left ?c_Book_left ?k_Book_left ?i_Book_left ?z_ValueError ?z_abs ?z_all ?z_bool ?z_int ?z_isinstance ?z_len ?z_list ?z_max ?z_min ?z_range ?z_sorted ?z_str ?z_sum ?z_tuple ?z_zip ?g_LETTERS ?g_MOST ?g_MOST_NUMBER ?g_MOST_WEIGHT ?g_NOUGHT ?m_NOUGHT ?n_NoThings ?ty_NoThings ?is_NoThings ?s_NoThings_NoThings ?n_NoFolk ?ty_NoFolk ?is_NoFolk ?s_NoFolk_NoFolk ?n_NoLot ?ty_NoLot ?is_NoLot ?s_NoLot_NoLot ?n_NoOrder ?ty_NoOrder ?is_NoOrder ?s_NoOrder_NoOrder ?n_NoOne ?ty_NoOne ?is_NoOne ?s_NoOne_NoOne ?n_NoWorth ?ty_NoWorth ?is_NoWorth ?s_NoWorth_NoWorth ?n_NoThing ?ty_NoThing ?is_NoThing ?s_NoThing_NoThing ?n_NoCost ?ty_NoCost ?is_NoCost ?s_NoCost_NoCost ?n_Taken ?ty_Taken ?is_Taken ?s_Taken_Taken ?n_Full ?ty_Full ?is_Full ?s_Full_Full ?n_NotThere ?ty_NotThere ?is_NotThere ?s_NotThere_NotThere ?n_NothingLeft ?ty_NothingLeft ?is_NothingLeft ?s_NothingLeft_NothingLeft ?n_PayError ?ty_PayError ?is_PayError ?s_PayError_PayError ?b_PayError ?hd_PayError ?x_NoOne ?kp_NoOne ?b_NoOne ?v_NoOne ?ga_NoOne ?gg_NoOne ?hd_NoOne ?ha_NoOne ?hm_NoOne ?s_NoOne_NoThings ?s_NoOne_NoFolk ?s_NoOne_NoLot ?s_NoOne_NoOrder ?s_NoOne_NoWorth ?s_NoOne_NoThing ?s_NoOne_NoCost ?s_NoOne_Taken ?s_NoOne_Full ?s_NoOne_NotThere ?s_NoOne_NothingLeft ?s_NoOne_PayError ?x_NoWorth ?kp_NoWorth ?b_NoWorth ?v_NoWorth ?ga_NoWorth ?gg_NoWorth ?hd_NoWorth ?ha_NoWorth ?hm_NoWorth ?s_NoWorth_NoThings ?s_NoWorth_NoFolk ?s_NoWorth_NoLot ?s_NoWorth_NoOrder ?s_NoWorth_NoOne ?s_NoWorth_NoThing ?s_NoWorth_NoCost ?s_NoWorth_Taken ?s_NoWorth_Full ?s_NoWorth_NotThere ?s_NoWorth_NothingLeft ?s_NoWorth_PayError ?x_NoThing ?kp_NoThing ?b_NoThing ?v_NoThing ?ga_NoThing ?gg_NoThing ?hd_NoThing ?ha_NoThing ?hm_NoThing ?s_NoThing_NoThings ?s_NoThing_NoFolk ?s_NoThing_NoLot ?s_NoThing_NoOrder ?s_NoThing_NoOne ?s_NoThing_NoWorth ?s_NoThing_NoCost ?s_NoThing_Taken ?s_NoThing_Full ?s_NoThing_NotThere ?s_NoThing_NothingLeft ?s_NoThing_PayError ?x_NoCost ?kp_NoCost ?b_NoCost ?v_NoCost ?ga_NoCost ?gg_NoCost ?hd_NoCost ?ha_NoCost ?hm_NoCost ?s_NoCost_NoThings ?s_NoCost_NoFolk ?s_NoCost_NoLot ?s_NoCost_NoOrder ?s_NoCost_NoOne ?s_NoCost_NoWorth ?s_NoCost_NoThing ?s_NoCost_Taken ?s_NoCost_Full ?s_NoCost_NotThere ?s_NoCost_NothingLeft ?s_NoCost_PayError ?x_Taken ?kp_Taken ?b_Taken ?v_Taken ?ga_Taken ?gg_Taken ?hd_Taken ?ha_Taken ?hm_Taken ?s_Taken_NoThings ?s_Taken_NoFolk ?s_Taken_NoLot ?s_Taken_NoOrder ?s_Taken_NoOne ?s_Taken_NoWorth ?s_Taken_NoThing ?s_Taken_NoCost ?s_Taken_Full ?s_Taken_NotThere ?s_Taken_NothingLeft ?s_Taken_PayError ?x_Full ?kp_Full ?b_Full ?v_Full ?ga_Full ?gg_Full ?hd_Full ?ha_Full ?hm_Full ?s_Full_NoThings ?s_Full_NoFolk ?s_Full_NoLot ?s_Full_NoOrder ?s_Full_NoOne ?s_Full_NoWorth ?s_Full_NoThing ?s_Full_NoCost ?s_Full_Taken ?s_Full_NotThere ?s_Full_NothingLeft ?s_Full_PayError ?x_NotThere ?kp_NotThere ?b_NotThere ?v_NotThere ?ga_NotThere ?gg_NotThere ?hd_NotThere ?ha_NotThere ?hm_NotThere ?s_NotThere_NoThings ?s_NotThere_NoFolk ?s_NotThere_NoLot ?s_NotThere_NoOrder ?s_NotThere_NoOne ?s_NotThere_NoWorth ?s_NotThere_NoThing ?s_NotThere_NoCost ?s_NotThere_Taken ?s_NotThere_Full ?s_NotThere_NothingLeft ?s_NotThere_PayError ?x_NothingLeft ?kp_NothingLeft ?b_NothingLeft ?v_NothingLeft ?ga_NothingLeft ?gg_NothingLeft ?hd_NothingLeft ?ha_NothingLeft ?hm_NothingLeft ?s_NothingLeft_NoThings ?s_NothingLeft_NoFolk ?s_NothingLeft_NoLot ?s_NothingLeft_NoOrder ?s_NothingLeft_NoOne ?s_NothingLeft_NoWorth ?s_NothingLeft_NoThing ?s_NothingLeft_NoCost ?s_NothingLeft_Taken ?s_NothingLeft_Full ?s_NothingLeft_NotThere ?s_NothingLeft_PayError
    (case n_Book => k_is)
    (case pg_Book => k_is)
    (case hd_Book => k_is)
    (case po_Book => k_is)
    (case sa_Book => k_is)
    (case no_Book => k_is)
    (case ha_Book => k_is)
    (case hn_o => k_is)
    (case ht_o => k_is)
    (case hm_Book => k_is)
    (case ty_Book => k_is)
    (case is_Book => k_is)
    (case ss_Book => k_is)
    (case st_Book => k_is)
    (case nT_Book => k_is)
    (case mk_Book => k_is)
    (case kp_Book => k_is)
    (case a_divisor => k_is)
    (case l_divisor => k_is)
    (case c_divisor => k_is)
    (case k_divisor => k_is)
    (case a_fraction => k_is)
    (case l_fraction => k_is)
    (case c_fraction => k_is)
    (case k_fraction => k_is)
    (case a_plus => k_is)
    (case l_plus => k_is)
    (case c_plus => k_is)
    (case k_plus => k_is)
    (case a_is_less => k_is)
    (case l_is_less => k_is)
    (case c_is_less => k_is)
    (case k_is_less => k_is)
    (case a_is_whole => k_is)
    (case l_is_whole => k_is)
    (case c_is_whole => k_is)
    (case k_is_whole => k_is)
    (case a_is_name => k_is)
    (case l_is_name => k_is)
    (case c_is_name => k_is)
    (case k_is_name => k_is)
    (case a_is_number => k_is)
    (case l_is_number => k_is)
    (case c_is_number => k_is)
    (case k_is_number => k_is)
    (case a_are_rising => k_is)
    (case l_are_rising => k_is)
    (case c_are_rising => k_is)
    (case k_are_rising => k_is)
    (case a_are_things => k_is)
    (case l_are_things => k_is)
    (case c_are_things => k_is)
    (case k_are_things => k_is)
    (case a_are_of => k_is)
    (case l_are_of => k_is)
    (case c_are_of => k_is)
    (case k_are_of => k_is)
    (case a_is_one => k_is)
    (case l_is_one => k_is)
    (case c_is_one => k_is)
    (case k_is_one => k_is)
    (case a_are_folk_of => k_is)
    (case l_are_folk_of => k_is)
    (case c_are_folk_of => k_is)
    (case k_are_folk_of => k_is)
    (case a_need_things => k_is)
    (case l_need_things => k_is)
    (case c_need_things => k_is)
    (case k_need_things => k_is)
    (case a_need_folk => k_is)
    (case l_need_folk => k_is)
    (case c_need_folk => k_is)
    (case k_need_folk => k_is)
    (case a_need_lot => k_is)
    (case l_need_lot => k_is)
    (case c_need_lot => k_is)
    (case k_need_lot => k_is)
    (case a_names_of => k_is)
    (case l_names_of => k_is)
    (case c_names_of => k_is)
    (case k_names_of => k_is)
    (case a_are_folk => k_is)
    (case l_are_folk => k_is)
    (case c_are_folk => k_is)
    (case k_are_folk => k_is)
    (case a_shares_of => k_is)
    (case l_shares_of => k_is)
    (case c_shares_of => k_is)
    (case k_shares_of => k_is)
    (case a_shares => k_is)
    (case l_shares => k_is)
    (case c_shares => k_is)
    (case k_shares => k_is)
    (case a_left_of => k_is)
    (case l_left_of => k_is)
    (case c_left_of => k_is)
    (case k_left_of => k_is)
    (case a_would_pay => k_is)
    (case l_would_pay => k_is)
    (case c_would_pay => k_is)
    (case k_would_pay => k_is)
    (case a_left => k_is)
    (case l_left => k_is)
    (case c_left => k_is)
    (case k_left => k_is)
    (case a__law_well => k_is)
    (case l__law_well => k_is)
    (case c__law_well => k_is)
    (case k__law_well => k_is)
    (case a__law_take => k_is)
    (case l__law_take => k_is)
    (case c__law_take => k_is)
    (case k__law_take => k_is)
    (case a__law_is_int => k_is)
    (case l__law_is_int => k_is)
    (case c__law_is_int => k_is)
    (case k__law_is_int => k_is)
    (case a__law_kinds => k_is)
    (case l__law_kinds => k_is)
    (case c__law_kinds => k_is)
    (case k__law_kinds => k_is)
    (case a__law_refusal => k_is)
    (case l__law_refusal => k_is)
    (case c__law_refusal => k_is)
    (case k__law_refusal => k_is)
    (case a__law_things => k_is)
    (case l__law_things => k_is)
    (case c__law_things => k_is)
    (case k__law_things => k_is)
    (case a__law_one => k_is)
    (case l__law_one => k_is)
    (case c__law_one => k_is)
    (case k__law_one => k_is)
    (case a__law_said => k_is)
    (case l__law_said => k_is)
    (case c__law_said => k_is)
    (case k__law_said => k_is)
    (case a__law_done => k_is)
    (case l__law_done => k_is)
    (case c__law_done => k_is)
    (case k__law_done => k_is)
    (case a__law_deed => k_is)
    (case l__law_deed => k_is)
    (case c__law_deed => k_is)
    (case k__law_deed => k_is)
    (case a__law_due => k_is)
    (case l__law_due => k_is)
    (case c__law_due => k_is)
    (case k__law_due => k_is)
    (case a__law_stands => k_is)
    (case l__law_stands => k_is)
    (case c__law_stands => k_is)
    (case k__law_stands => k_is)
    (case a_law => k_is)
    (case l_law => k_is)
    (case c_law => k_is)
    (case k_law => k_is)
    (case a_Book___init__ => k_is)
    (case l_Book___init__ => k_is)
    (case c_Book___init__ => k_is)
    (case k_Book___init__ => k_is)
    (case i_Book___init__ => k_is)
    (case a_Book___len__ => k_is)
    (case l_Book___len__ => k_is)
    (case c_Book___len__ => k_is)
    (case k_Book___len__ => k_is)
    (case i_Book___len__ => k_is)
    (case a_Book___eq__ => k_is)
    (case l_Book___eq__ => k_is)
    (case c_Book___eq__ => k_is)
    (case k_Book___eq__ => k_is)
    (case i_Book___eq__ => k_is)
    (case a_Book_need_name => k_is)
    (case l_Book_need_name => k_is)
    (case c_Book_need_name => k_is)
    (case k_Book_need_name => k_is)
    (case i_Book_need_name => k_is)
    (case a_Book_come => k_is)
    (case l_Book_come => k_is)
    (case c_Book_come => k_is)
    (case k_Book_come => k_is)
    (case i_Book_come => k_is)
    (case a_Book_go => k_is)
    (case l_Book_go => k_is)
    (case c_Book_go => k_is)
    (case k_Book_go => k_is)
    (case i_Book_go => k_is)
    (case a_Book_say => k_is)
    (case l_Book_say => k_is)
    (case c_Book_say => k_is)
    (case k_Book_say => k_is)
    (case i_Book_say => k_is)
    (case a_Book_price => k_is)
    (case l_Book_price => k_is)
    (case c_Book_price => k_is)
    (case k_Book_price => k_is)
    (case i_Book_price => k_is)
    (case a_Book_back => k_is)
    (case l_Book_back => k_is)
    (case c_Book_back => k_is)
    (case k_Book_back => k_is)
    (case i_Book_back => k_is)
    (case a_Book_things => k_is)
    (case l_Book_things => k_is)
    (case c_Book_things => k_is)
    (case k_Book_things => k_is)
    (case i_Book_things => k_is)
    (case a_Book_folk => k_is)
    (case l_Book_folk => k_is)
    (case c_Book_folk => k_is)
    (case k_Book_folk => k_is)
    (case i_Book_folk => k_is)
    (case a_Book_left => k_is)
    (case l_Book_left => k_is)
    (case c_Book_left => k_is)
    (case k_Book_left => k_is)
    (case i_Book_left => k_is)
    (case z_ValueError => k_is)
    (case z_abs => k_is)
    (case z_all => k_is)
    (case z_bool => k_is)
    (case z_int => k_is)
    (case z_isinstance => k_is)
    (case z_len => k_is)
    (case z_list => k_is)
    (case z_max => k_is)
    (case z_min => k_is)
    (case z_range => k_is)
    (case z_sorted => k_is)
    (case z_str => k_is)
    (case z_sum => k_is)
    (case z_tuple => k_is)
    (case z_zip => k_is)
    (case g_LETTERS => k_is)
    (case g_MOST => k_is)
    (case g_MOST_NUMBER => k_is)
    (case g_MOST_WEIGHT => k_is)
    (case g_NOUGHT => k_is)
    (case m_NOUGHT => k_is)
    (case n_NoThings => k_is)
    (case ty_NoThings => k_is)
    (case is_NoThings => k_is)
    (case s_NoThings_NoThings => k_is)
    (case n_NoFolk => k_is)
    (case ty_NoFolk => k_is)
    (case is_NoFolk => k_is)
    (case s_NoFolk_NoFolk => k_is)
    (case n_NoLot => k_is)
    (case ty_NoLot => k_is)
    (case is_NoLot => k_is)
    (case s_NoLot_NoLot => k_is)
    (case n_NoOrder => k_is)
    (case ty_NoOrder => k_is)
    (case is_NoOrder => k_is)
    (case s_NoOrder_NoOrder => k_is)
    (case n_NoOne => k_is)
    (case ty_NoOne => k_is)
    (case is_NoOne => k_is)
    (case s_NoOne_NoOne => k_is)
    (case n_NoWorth => k_is)
    (case ty_NoWorth => k_is)
    (case is_NoWorth => k_is)
    (case s_NoWorth_NoWorth => k_is)
    (case n_NoThing => k_is)
    (case ty_NoThing => k_is)
    (case is_NoThing => k_is)
    (case s_NoThing_NoThing => k_is)
    (case n_NoCost => k_is)
    (case ty_NoCost => k_is)
    (case is_NoCost => k_is)
    (case s_NoCost_NoCost => k_is)
    (case n_Taken => k_is)
    (case ty_Taken => k_is)
    (case is_Taken => k_is)
    (case s_Taken_Taken => k_is)
    (case n_Full => k_is)
    (case ty_Full => k_is)
    (case is_Full => k_is)
    (case s_Full_Full => k_is)
    (case n_NotThere => k_is)
    (case ty_NotThere => k_is)
    (case is_NotThere => k_is)
    (case s_NotThere_NotThere => k_is)
    (case n_NothingLeft => k_is)
    (case ty_NothingLeft => k_is)
    (case is_NothingLeft => k_is)
    (case s_NothingLeft_NothingLeft => k_is)
    (case n_PayError => k_is)
    (case ty_PayError => k_is)
    (case is_PayError => k_is)
    (case s_PayError_PayError => k_is)
    (case b_PayError => k_is)
    (case hd_PayError => k_is)
    (case x_NoOne => k_exc)
    (case kp_NoOne => k_is)
    (case b_NoOne => k_is)
    (case v_NoOne => k_is)
    (case ga_NoOne => k_is)
    (case gg_NoOne => k_is)
    (case hd_NoOne => k_is)
    (case ha_NoOne => k_is)
    (case hm_NoOne => k_is)
    (case s_NoOne_NoThings => k_is)
    (case s_NoOne_NoFolk => k_is)
    (case s_NoOne_NoLot => k_is)
    (case s_NoOne_NoOrder => k_is)
    (case s_NoOne_NoWorth => k_is)
    (case s_NoOne_NoThing => k_is)
    (case s_NoOne_NoCost => k_is)
    (case s_NoOne_Taken => k_is)
    (case s_NoOne_Full => k_is)
    (case s_NoOne_NotThere => k_is)
    (case s_NoOne_NothingLeft => k_is)
    (case s_NoOne_PayError => k_is)
    (case x_NoWorth => k_exc)
    (case kp_NoWorth => k_is)
    (case b_NoWorth => k_is)
    (case v_NoWorth => k_is)
    (case ga_NoWorth => k_is)
    (case gg_NoWorth => k_is)
    (case hd_NoWorth => k_is)
    (case ha_NoWorth => k_is)
    (case hm_NoWorth => k_is)
    (case s_NoWorth_NoThings => k_is)
    (case s_NoWorth_NoFolk => k_is)
    (case s_NoWorth_NoLot => k_is)
    (case s_NoWorth_NoOrder => k_is)
    (case s_NoWorth_NoOne => k_is)
    (case s_NoWorth_NoThing => k_is)
    (case s_NoWorth_NoCost => k_is)
    (case s_NoWorth_Taken => k_is)
    (case s_NoWorth_Full => k_is)
    (case s_NoWorth_NotThere => k_is)
    (case s_NoWorth_NothingLeft => k_is)
    (case s_NoWorth_PayError => k_is)
    (case x_NoThing => k_exc)
    (case kp_NoThing => k_is)
    (case b_NoThing => k_is)
    (case v_NoThing => k_is)
    (case ga_NoThing => k_is)
    (case gg_NoThing => k_is)
    (case hd_NoThing => k_is)
    (case ha_NoThing => k_is)
    (case hm_NoThing => k_is)
    (case s_NoThing_NoThings => k_is)
    (case s_NoThing_NoFolk => k_is)
    (case s_NoThing_NoLot => k_is)
    (case s_NoThing_NoOrder => k_is)
    (case s_NoThing_NoOne => k_is)
    (case s_NoThing_NoWorth => k_is)
    (case s_NoThing_NoCost => k_is)
    (case s_NoThing_Taken => k_is)
    (case s_NoThing_Full => k_is)
    (case s_NoThing_NotThere => k_is)
    (case s_NoThing_NothingLeft => k_is)
    (case s_NoThing_PayError => k_is)
    (case x_NoCost => k_exc)
    (case kp_NoCost => k_is)
    (case b_NoCost => k_is)
    (case v_NoCost => k_is)
    (case ga_NoCost => k_is)
    (case gg_NoCost => k_is)
    (case hd_NoCost => k_is)
    (case ha_NoCost => k_is)
    (case hm_NoCost => k_is)
    (case s_NoCost_NoThings => k_is)
    (case s_NoCost_NoFolk => k_is)
    (case s_NoCost_NoLot => k_is)
    (case s_NoCost_NoOrder => k_is)
    (case s_NoCost_NoOne => k_is)
    (case s_NoCost_NoWorth => k_is)
    (case s_NoCost_NoThing => k_is)
    (case s_NoCost_Taken => k_is)
    (case s_NoCost_Full => k_is)
    (case s_NoCost_NotThere => k_is)
    (case s_NoCost_NothingLeft => k_is)
    (case s_NoCost_PayError => k_is)
    (case x_Taken => k_exc)
    (case kp_Taken => k_is)
    (case b_Taken => k_is)
    (case v_Taken => k_is)
    (case ga_Taken => k_is)
    (case gg_Taken => k_is)
    (case hd_Taken => k_is)
    (case ha_Taken => k_is)
    (case hm_Taken => k_is)
    (case s_Taken_NoThings => k_is)
    (case s_Taken_NoFolk => k_is)
    (case s_Taken_NoLot => k_is)
    (case s_Taken_NoOrder => k_is)
    (case s_Taken_NoOne => k_is)
    (case s_Taken_NoWorth => k_is)
    (case s_Taken_NoThing => k_is)
    (case s_Taken_NoCost => k_is)
    (case s_Taken_Full => k_is)
    (case s_Taken_NotThere => k_is)
    (case s_Taken_NothingLeft => k_is)
    (case s_Taken_PayError => k_is)
    (case x_Full => k_exc)
    (case kp_Full => k_is)
    (case b_Full => k_is)
    (case v_Full => k_is)
    (case ga_Full => k_is)
    (case gg_Full => k_is)
    (case hd_Full => k_is)
    (case ha_Full => k_is)
    (case hm_Full => k_is)
    (case s_Full_NoThings => k_is)
    (case s_Full_NoFolk => k_is)
    (case s_Full_NoLot => k_is)
    (case s_Full_NoOrder => k_is)
    (case s_Full_NoOne => k_is)
    (case s_Full_NoWorth => k_is)
    (case s_Full_NoThing => k_is)
    (case s_Full_NoCost => k_is)
    (case s_Full_Taken => k_is)
    (case s_Full_NotThere => k_is)
    (case s_Full_NothingLeft => k_is)
    (case s_Full_PayError => k_is)
    (case x_NotThere => k_exc)
    (case kp_NotThere => k_is)
    (case b_NotThere => k_is)
    (case v_NotThere => k_is)
    (case ga_NotThere => k_is)
    (case gg_NotThere => k_is)
    (case hd_NotThere => k_is)
    (case ha_NotThere => k_is)
    (case hm_NotThere => k_is)
    (case s_NotThere_NoThings => k_is)
    (case s_NotThere_NoFolk => k_is)
    (case s_NotThere_NoLot => k_is)
    (case s_NotThere_NoOrder => k_is)
    (case s_NotThere_NoOne => k_is)
    (case s_NotThere_NoWorth => k_is)
    (case s_NotThere_NoThing => k_is)
    (case s_NotThere_NoCost => k_is)
    (case s_NotThere_Taken => k_is)
    (case s_NotThere_Full => k_is)
    (case s_NotThere_NothingLeft => k_is)
    (case s_NotThere_PayError => k_is)
    (case x_NothingLeft => k_exc)
    (case kp_NothingLeft => k_is)
    (case b_NothingLeft => k_is)
    (case v_NothingLeft => k_is)
    (case ga_NothingLeft => k_is)
    (case gg_NothingLeft => k_is)
    (case hd_NothingLeft => k_is)
    (case ha_NothingLeft => k_is)
    (case hm_NothingLeft => k_is)
    (case s_NothingLeft_NoThings => k_is)
    (case s_NothingLeft_NoFolk => k_is)
    (case s_NothingLeft_NoLot => k_is)
    (case s_NothingLeft_NoOrder => k_is)
    (case s_NothingLeft_NoOne => k_is)
    (case s_NothingLeft_NoWorth => k_is)
    (case s_NothingLeft_NoThing => k_is)
    (case s_NothingLeft_NoCost => k_is)
    (case s_NothingLeft_Taken => k_is)
    (case s_NothingLeft_Full => k_is)
    (case s_NothingLeft_NotThere => k_is)
    (case s_NothingLeft_PayError => k_is)

