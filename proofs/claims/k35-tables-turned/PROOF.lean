import PyProof.Rows.All
import Wide.All
import OpenK.AllK
import Wide.FinOn
import HandS.ForMost
import HandS.Walk
import HandS.Wide
import PyProof.ReprRoads
import HandS.TupAny
import HandS.Strs
import KE.KIndexOf
import KE.KIndexWalk
import KE.Datum
import HandS.Style
import HandS.Zip
import HandS.SetFor
import HandS.TupMul
import HandS.TupLe
import HandS.IsInst
import HandS.Deep
import HandS.Conv
import HandS.SortInts
import HandS.NoneIn
import HandS.Small
import PyProof.Rows.ReprShort
import PySem.Challenge.RW_solvedbothsides_k35_tables_turned
set_option Elab.async false
set_option linter.all false
set_option maxRecDepth 100000
set_option autoImplicit false
set_option maxHeartbeats 4000000
/-! Tuples that are known to carry no dict of their own: what makes them, and their methods. -/
namespace DL
open PySem PySem.Spec PyProof.Rows L2

def SqZ (K : PySem.W.Frag) (H : Hp) (a : Addr) (xs : List V) : Prop :=
  (∃ o, H a = some (.frz o (.tup xs)) ∧ o.dict = none) ∨ (∃ (o : Obj) (its : Array Value) (n : Nat), K.lookup a = some o ∧ o.cls = .type "tuple" ∧ o.dict = none ∧ o.data = .seq its n ∧ its.size ≤ sizeLine ∧ Vals xs its.toList)
theorem SqZ.t {K : PySem.W.Frag} {H : Hp} {a : Addr} {xs : List V} (h : SqZ K H a xs) : SqT K H a xs := by
  rcases h with ⟨o, h, _⟩ | ⟨o, its, n, h1, h2, _, h4, h5, h6⟩
  · exact .inl (.inr ⟨o, h⟩)
  · exact .inr ⟨o, its, n, h1, h2, h4, h5, h6⟩
section
variable {X : Cx} {es : List Expr} {t : TA} {pos : Pos}
theorem SqZ.ty {pins : List (Addr × Obj)} {σ : L2.St} {H : Hp} {s : Shared} {a : Addr} {xs : List V} (I : Inv X pins σ H s) (h : SqZ X.K H a xs) : s.TypeIs (.ref a) "tuple" ∧ ∀ b, Value.ref a = .ref b → ∃ ob, s.heap.get? b = some ob ∧ ob.dict = none := by
  rcases h with ⟨o, h, hd⟩ | ⟨o, its, n, h1, h2, hd, h4, h5, h6⟩
  · obtain ⟨e, hz, us, r, ⟨o', e', hc, _⟩⟩ := I.hok a _ h
    rw [e] at e'; cases e'
    exact ⟨⟨o, e, hc⟩, fun b z => by cases z; exact ⟨o, e, hd⟩⟩
  · exact ⟨⟨o, I.kIn a o h1, h2⟩, fun b z => by cases z; exact ⟨o, I.kIn a o h1, hd⟩⟩
def zTup (t : TA) : TE := fun σ H Q => t σ H fun xs H1 => xs.length ≤ sizeLine ∧ ∀ p o, H1 p = none → o.dict = none → Q (.ref p) (upd H1 p (.frz o (.tup xs)))
theorem pe_tupZ {x1} (h : PA X es t) : PE X (.Tuple es x1 pos) (zTup t) := by
  refine ⟨fun pins s σ H Q I hq => ?_⟩
  refine wpAny_Tuple_spliced (thn (h.run pos pins s σ H _ I hq) fun us s1 ⟨xs, H1, I1, r, z, q⟩ => ⟨by rw [← r.length]; exact z, ?_⟩)
  have hf : H1 s1.heap.objs.size = none := I1.hok.fresh (Nat.le_refl _)
  refine ⟨.ref s1.heap.objs.size, _, I1.laid (t' := s1.toks) (fun b u e => Heap.get?_push_of_some _ e) (Nat.le_refl _) ?_, rfl, q _ { cls := .type "tuple", data := .seq us.toArray } hf rfl⟩
  exact ⟨Heap.get?_push_size _ rfl, z, us, r, ⟨_, Heap.get?_push_size _ rfl, rfl, _, rfl⟩⟩
theorem call_tupleZ : CallR X (.type "tuple") (fun xs H Q => ∃ p ys, xs = [.ref p] ∧ ((SqL X.K H p ys ∧ ∀ l o, H l = none → o.dict = none → Q (.ref l) (upd H l (.frz o (.tup ys)))) ∨ (SqT X.K H p ys ∧ Q (.ref p) H))) := by
  intro pins s σ H xs us Q I r h
  obtain ⟨p, ys, rfl, h⟩ := h
  obtain ⟨u, rfl, rx⟩ := vals1 r
  cases rx
  rcases h with ⟨hq, q⟩ | ⟨hq, q⟩
  · obtain ⟨its, r', pl, hz⟩ := I.list hq
    have hlen := r'.length
    refine call_tuple_list pl.isList (fun h' kp => ?_) (by simp only [List.size_toArray] <;> omega)
    have I1 : Inv X pins σ H { s with heap := h' } := I.kept (t' := s.toks) kp
    have I2 : Inv X pins σ (upd H h'.objs.size (.frz { cls := .type "tuple", data := .seq its.toArray } (.tup ys))) { s with heap := h'.push { cls := .type "tuple", data := .seq its.toArray } } :=
      I1.laid (t' := s.toks) (fun b o e => Heap.get?_push_of_some _ e) (Nat.le_refl _) (show ObjOk X.prog X.w _ _ _ (.frz _ (.tup ys)) from ⟨Heap.get?_push_size _ rfl, hz, its, r', IsTup.new _ _⟩)
    exact ⟨.ref h'.objs.size, _, I2, rfl, q _ _ (I1.hok.fresh (Nat.le_refl _)) rfl⟩
  · obtain ⟨its, r', pl, hz⟩ := I.tuple hq
    exact call_tuple_same pl ⟨.ref p, H, I, rfl, q⟩
def zCat (K : PySem.W.Frag) : R2 := fun x y H Q => ∃ a b xs ys, x = .ref a ∧ y = .ref b ∧ SqT K H a xs ∧ SqT K H b ys ∧ xs.length + ys.length ≤ sizeLine ∧
  (xs = [] → Q (.ref b) H) ∧ (xs ≠ [] → ys = [] → Q (.ref a) H) ∧ (xs ≠ [] → ys ≠ [] → ∀ p o, H p = none → o.dict = none → Q (.ref p) (upd H p (.frz o (.tup (xs ++ ys)))))
theorem op_catZ : OpR X (binaryOp .Add) (zCat X.K) := by
  intro pins s σ H x y v u Q I rx ry h
  obtain ⟨a, b, xs, ys, rfl, rfl, ha, hb, hz, q0, q1, q2⟩ := h
  cases rx
  cases ry
  obtain ⟨its, r1, p1, _⟩ := I.tuple ha
  obtain ⟨its2, r2, p2, _⟩ := I.tuple hb
  by_cases hx : xs = []
  · subst hx
    cases r1
    exact cat_tup0 p1 p2 ⟨.ref b, H, I, rfl, q0 rfl⟩
  · refine HT.cat_tup p1 p2 (fun z => hx (r1.nil_iff.mp z)) (fun z => ⟨.ref a, H, I, rfl, q1 hx (r2.nil_iff.mp z)⟩) (fun z => ?_) (by rw [← r1.length, ← r2.length]; exact hz)
    refine ⟨.ref s.heap.objs.size, _, I.laid (t' := s.toks) (o := .frz { cls := .type "tuple", data := .seq (its ++ its2).toArray } (.tup (xs ++ ys))) (fun b ob q => Heap.get?_push_of_some _ q) (Nat.le_refl _) ?_, rfl, q2 hx (fun w => z (r2.nil_iff.mpr w)) _ _ (I.hok.fresh (Nat.le_refl _)) rfl⟩
    refine ⟨?_, by rw [List.length_append]; exact hz, _, r1.append r2, ?_⟩
    · exact Heap.get?_push_size _ rfl
    · exact IsTup.new _ _
def zSl (K : PySem.W.Frag) : V → Option Int → Option Int → Hp → VK → Prop := fun x lo hi H Q => ∃ a xs, x = .ref a ∧ SqT K H a xs ∧
  (HT.sIx xs.length 0 lo = 0 ∧ HT.sIx xs.length xs.length hi = xs.length → Q (.ref a) H) ∧ (¬ (HT.sIx xs.length 0 lo = 0 ∧ HT.sIx xs.length xs.length hi = xs.length) → ∀ p o, H p = none → o.dict = none → Q (.ref p) (upd H p (.frz o (.tup (cutV xs lo hi)))))
theorem sl_tupZ : SlR X (zSl X.K) := by
  intro pins s σ H x v vl vu lo hi sl Q I rx hs pl pu h
  obtain ⟨a, xs, rfl, hx, q1, q2⟩ := h
  by_cases hw : HT.sIx xs.length 0 lo = 0 ∧ HT.sIx xs.length xs.length hi = xs.length
  · exact sl_tupA pins s σ H _ v vl vu lo hi sl Q I rx hs pl pu ⟨a, xs, rfl, hx, fun _ => q1 hw, fun z => absurd hw z⟩
  · cases rx
    obtain ⟨its, r, ht, hz⟩ := I.tuple hx
    have hlen : its.toArray.size = xs.length := by rw [List.size_toArray]; exact r.length.symm
    refine ⟨"tuple", _, PyProof.Rows.slot_tuple_getitem.lookup, ht.typeIs, ?_⟩
    refine HT.getItem_tuple_cut ht hs pl pu (by rw [hlen]; exact hw) ?_ (by rw [hlen]; exact hz)
    rw [hlen]
    refine ⟨.ref s.heap.objs.size, _, I.laid (t' := s.toks) (o := .frz ⟨.type "tuple", none, .seq ((its.drop (HT.sIx xs.length 0 lo)).take (HT.sIx xs.length xs.length hi - HT.sIx xs.length 0 lo)).toArray 0, #[]⟩ (.tup (cutV xs lo hi))) (fun b ob q => Heap.get?_push_of_some _ q) (Nat.le_refl _) ?_, rfl, q2 hw _ _ (I.hok.fresh (Nat.le_refl _)) rfl⟩
    · exact ⟨Heap.get?_push_size _ rfl, Nat.le_trans (cutV_length xs lo hi) hz, _, (r.drop (HT.sIx xs.length 0 lo)).take (HT.sIx xs.length xs.length hi - HT.sIx xs.length 0 lo), IsTup.new _ _⟩
/-- t.m(e, ..), t a tuple -/
def zTM (K : PySem.W.Frag) (r : V → List V → Hp → VK → Prop) (to : TE) (t : TA) : TE := fun σ H Q => to σ H fun x H1 => (∃ a xs, x = .ref a ∧ SqZ K H1 a xs) ∧ t σ H1 fun xs H2 => r x xs H2 Q
variable {o e : Expr} {to : TE} {name : Str} {apos cpos : Pos} {id : String} {r : V → List V → Hp → VK → Prop}
theorem pe_tm (slot : Slot "tuple" name id) (hty : typeOf (.builtin id) = pure (.type "method_descriptor")) (hm : MtR X id r) (ho : PE X o to) (ha : PA X (e :: es) t)
    (hbase : attributeBase o name X.env (eval o X.env) = eval o X.env := by rfl)
    (hfew : ((backTo cpos (starEach (e :: es) X.env)).all (fun x => !x.1) && (backToKw cpos (keywordEach [] X.env)).all (fun x => x.1.isSome)
      && decide ((e :: es).length + ([] : List Keyword).length + (if ([] : List Keyword).isEmpty then 0 else 1) < 30)) = true := by rfl)
    (hline : (apos.endLine == cpos.line) = true := by rfl) (hs : starEach (e :: es) X.env = (false, eval e X.env) :: starEach es X.env := by rfl) (hplain : (backTo cpos (starEach es X.env)).any (·.1) = false := by rfl) :
    PE X (.Call (.Attribute o name apos) (e :: es) [] cpos) (zTM X.K r to t) := by
  refine ⟨fun pins s σ H Q I h => ?_⟩
  refine wpAny_Call_method_late hbase hfew hline rfl (thn (ho.run pins s σ H _ I h) fun v s1 ⟨x, H1, I1, r1, ⟨a, zs, ex, hz⟩, q1⟩ => ?_)
  subst ex
  cases r1
  obtain ⟨h1, h2⟩ := hz.ty I1
  refine ⟨"tuple", id, PySem.F.plainAttrs_tuple, slot, hty, h1, h2, ?_⟩
  have hA := ha.run cpos pins s1 σ H1 _ I1 q1
  rw [hs] at hA ⊢
  refine Calls.callWith_builtin (by show (false || (backTo cpos (starEach es X.env)).any (·.1)) = false; rw [hplain] <;> rfl) (Calls.evalArgs_plain ?_)
  exact thn hA fun us s2 ⟨vs, H2, I2, r2, q2⟩ => hm pins s2 σ H2 (.ref a) vs _ us Q I2 rfl r2 q2
/-- index, count of whole numbers -/
theorem mt_tindex : MtR X "tuple.index" (fun x xs H Q => ∃ p, ∃ ns : List Int, ∃ i, x = .ref p ∧ xs = [.int i] ∧ SqT X.K H p (ns.map V.int) ∧ i ∈ ns ∧ Q (.int (ns.idxOf i : Nat)) H) := by
  intro pins s σ H x xs v us Q I rx rs h
  obtain ⟨p, ns, i, rfl, rfl, hq, hy, q⟩ := h
  cases rx
  obtain ⟨u, rfl, t, rfl⟩ := vals1 rs
  obtain ⟨its, r, pl, hz⟩ := I.tuple hq
  exact SeqAt.tuple_index_ints (vs := its) pl (intsAre_of r) hy ⟨.int _, H, I.tok _, ⟨_, rfl⟩, q⟩
theorem mt_tcount : MtR X "tuple.count" (fun x xs H Q => ∃ p, ∃ ns : List Int, ∃ i, x = .ref p ∧ xs = [.int i] ∧ SqT X.K H p (ns.map V.int) ∧ Q (.int (ns.count i : Nat)) H) := by
  intro pins s σ H x xs v us Q I rx rs h
  obtain ⟨p, ns, i, rfl, rfl, hq, q⟩ := h
  cases rx
  obtain ⟨u, rfl, t, rfl⟩ := vals1 rs
  obtain ⟨its, r, ⟨⟨cls, dd, dt, sl⟩, ho, hc, n, hd⟩, _⟩ := I.tuple hq
  simp only at hc hd
  subst hc
  subst hd
  have hi : IntsAre its.toArray.toList ns := intsAre_of r
  refine call_meets PySem.F.slot_tuple_count ⟨_, ho, rfl⟩ PySem.F.entry_tuple_count (PySem.F.args_tuple_count_2 _ _)
    (SeqAt.tuple_countAt p its.toArray n dd sl (.int i t) (eqk i)) ⟨ho, fun y hy => (eqk_gives hi y (by simpa using hy)).at _ _, ?_⟩
  have ec : its.toArray.toList.countP (eqk i) = ns.count i := eqk_count hi
  rw [ec]
  exact ⟨.int (ns.count i : Nat), H, I.tok _, ⟨s.toks, rfl⟩, q⟩
end
end DL

/-! A layer of my own over HandS: tuples (and lists that never change) are values (D); only what changes stands in a heap (Mp). -/
namespace DL
open PySem L2

/-! ### data -/
inductive D where
  | non | bl (b : Bool) | int (i : Int) | str (x : Str) | tup (ds : List D) | fl (ds : List D) | ref (a : Addr) | ty (n : String) | pr (ds : List D)

/-- a list that nobody writes -/
def Fro (K : PySem.W.Frag) (H : Hp) (a : Addr) (xs : List V) : Prop :=
  (∃ o, H a = some (.frz o (.lst xs))) ∨ (∃ (o : Obj) (its : Array Value) (n : Nat), K.lookup a = some o ∧ o.cls = .type "list" ∧ o.dict = none ∧ o.data = .seq its n ∧ its.size ≤ sizeLine ∧ Vals xs its.toList)
theorem Fro.sq {K : PySem.W.Frag} {H : Hp} {a : Addr} {xs : List V} (h : Fro K H a xs) : SqL K H a xs := by
  rcases h with ⟨o, h⟩ | h
  · exact .inl (.inr ⟨o, h⟩)
  · exact .inr h

mutual
inductive Fz (K : PySem.W.Frag) (H : Hp) : V → D → Prop
  | non : Fz K H .non .non
  | bl (b : Bool) : Fz K H (.bl b) (.bl b)
  | int (i : Int) : Fz K H (.int i) (.int i)
  | str (x : Str) : Fz K H (.str x) (.str x)
  | ref (a : Addr) : Fz K H (.ref a) (.ref a)
  | ty (n : String) : Fz K H (.ty n) (.ty n)
  | tup {a : Addr} {xs : List V} {ds : List D} : SqZ K H a xs → FzAll K H xs ds → Fz K H (.ref a) (.tup ds)
  | pr {a : Addr} {xs : List V} {ds : List D} : SqT K H a xs → FzAll K H xs ds → Fz K H (.ref a) (.pr ds)
  | fl {a : Addr} {xs : List V} {ds : List D} : Fro K H a xs → FzAll K H xs ds → Fz K H (.ref a) (.fl ds)
inductive FzAll (K : PySem.W.Frag) (H : Hp) : List V → List D → Prop
  | nil : FzAll K H [] []
  | cons {v : V} {vs : List V} {d : D} {ds : List D} : Fz K H v d → FzAll K H vs ds → FzAll K H (v :: vs) (d :: ds)
end

/-- tuples stay tuples, what is not written stays -/
structure Tups (K : PySem.W.Frag) (H H' : Hp) : Prop where
  t : ∀ a xs, SqZ K H a xs → SqZ K H' a xs
  f : ∀ a xs, Fro K H a xs → Fro K H' a xs
  w : ∀ a xs, SqT K H a xs → SqT K H' a xs
theorem Tups.refl {K : PySem.W.Frag} (H : Hp) : Tups K H H := ⟨fun _ _ h => h, fun _ _ h => h, fun _ _ h => h⟩
theorem Tups.trans {K : PySem.W.Frag} {H H1 H2 : Hp} (a : Tups K H H1) (b : Tups K H1 H2) : Tups K H H2 := ⟨fun c xs h => b.t c xs (a.t c xs h), fun c xs h => b.f c xs (a.f c xs h), fun c xs h => b.w c xs (a.w c xs h)⟩
theorem Tups.of_keep {K : PySem.W.Frag} {H H' : Hp} (h1 : ∀ a xs, H a = some (.tup xs) → H' a = some (.tup xs)) (h2 : ∀ a o u, H a = some (.frz o u) → H' a = some (.frz o u)) : Tups K H H' :=
  ⟨fun a xs q => by
    rcases q with ⟨o, q, d⟩ | q
    · exact .inl ⟨o, h2 a o _ q, d⟩
    · exact .inr q, fun a xs q => by
    rcases q with ⟨o, q⟩ | q
    · exact .inl ⟨o, h2 a o _ q⟩
    · exact .inr q, fun a xs q => by
    rcases q with (q | ⟨o, q⟩) | q
    · exact .inl (.inl (h1 a xs q))
    · exact .inl (.inr ⟨o, h2 a o _ q⟩)
    · exact .inr q⟩

mutual
theorem Fz.mono {K : PySem.W.Frag} {H H' : Hp} (t : Tups K H H') : ∀ (d : D) (v : V), Fz K H v d → Fz K H' v d
  | .non, _, h => by cases h; exact .non
  | .bl _, _, h => by cases h; exact .bl _
  | .int _, _, h => by cases h; exact .int _
  | .str _, _, h => by cases h; exact .str _
  | .ref _, _, h => by cases h; exact .ref _
  | .ty _, _, h => by cases h; exact .ty _
  | .tup ds, _, h => by
    cases h with
    | tup hs ha => exact .tup (t.t _ _ hs) (FzAll.mono t ds _ ha)
  | .pr ds, _, h => by
    cases h with
    | pr hs ha => exact .pr (t.w _ _ hs) (FzAll.mono t ds _ ha)
  | .fl ds, _, h => by
    cases h with
    | fl hs ha => exact .fl (t.f _ _ hs) (FzAll.mono t ds _ ha)
theorem FzAll.mono {K : PySem.W.Frag} {H H' : Hp} (t : Tups K H H') : ∀ (ds : List D) (vs : List V), FzAll K H vs ds → FzAll K H' vs ds
  | [], _, h => by cases h; exact .nil
  | d :: ds, _, h => by
    cases h with
    | cons h1 h2 => exact .cons (Fz.mono t d _ h1) (FzAll.mono t ds _ h2)
end
theorem Fz.up {K : PySem.W.Frag} {H H' : Hp} {v : V} {d : D} (h : Fz K H v d) (t : Tups K H H') : Fz K H' v d := Fz.mono t d v h
theorem FzAll.up {K : PySem.W.Frag} {H H' : Hp} {vs : List V} {ds : List D} (h : FzAll K H vs ds) (t : Tups K H H') : FzAll K H' vs ds := FzAll.mono t ds vs h
section
variable {K : PySem.W.Frag} {H : Hp}
theorem FzAll.length : ∀ {vs : List V} {ds : List D}, FzAll K H vs ds → vs.length = ds.length
  | _, _, .nil => rfl
  | _, _, .cons _ t => by rw [List.length_cons, List.length_cons, FzAll.length t]
theorem FzAll.get : ∀ {vs : List V} {ds : List D} {i : Nat} {d : D}, FzAll K H vs ds → ds[i]? = some d → ∃ v, vs[i]? = some v ∧ Fz K H v d
  | _, _, _, _, .nil, e => by simp at e
  | _, _, 0, _, .cons r _, e => by simp at e; subst e; exact ⟨_, rfl, r⟩
  | _, _, i + 1, d, .cons _ t, e => by
    obtain ⟨v, h1, h2⟩ := FzAll.get (i := i) (d := d) t (by simpa using e)
    exact ⟨v, by simpa using h1, h2⟩
theorem FzAll.getV : ∀ {vs : List V} {ds : List D} {i : Nat} {v : V}, FzAll K H vs ds → vs[i]? = some v → ∃ d, ds[i]? = some d ∧ Fz K H v d
  | _, _, _, _, .nil, e => by simp at e
  | _, _, 0, _, .cons r _, e => by simp at e; subst e; exact ⟨_, rfl, r⟩
  | _, _, i + 1, v, .cons _ t, e => by
    obtain ⟨d, h1, h2⟩ := FzAll.getV (i := i) (v := v) t (by simpa using e)
    exact ⟨d, by simpa using h1, h2⟩
theorem FzAll.append : ∀ {xs ys : List V} {as bs : List D}, FzAll K H xs as → FzAll K H ys bs → FzAll K H (xs ++ ys) (as ++ bs)
  | _, _, _, _, .nil, s => s
  | _, _, _, _, .cons r t, s => .cons r (FzAll.append t s)
theorem FzAll.set {v : V} {d : D} (r : Fz K H v d) : ∀ {xs : List V} {as : List D} (i : Nat), FzAll K H xs as → FzAll K H (xs.set i v) (as.set i d)
  | _, _, _, .nil => .nil
  | _, _, 0, .cons _ t => .cons r t
  | _, _, i + 1, .cons q t => .cons q (FzAll.set r i t)
theorem FzAll.drop : ∀ {xs : List V} {as : List D} (n : Nat), FzAll K H xs as → FzAll K H (xs.drop n) (as.drop n)
  | _, _, 0, r => r
  | _, _, _ + 1, .nil => .nil
  | _, _, n + 1, .cons _ t => FzAll.drop n t
theorem FzAll.take : ∀ {xs : List V} {as : List D} (n : Nat), FzAll K H xs as → FzAll K H (xs.take n) (as.take n)
  | _, _, 0, _ => .nil
  | _, _, _ + 1, .nil => .nil
  | _, _, n + 1, .cons r t => .cons r (FzAll.take n t)
theorem FzAll.eraseIdx : ∀ {xs : List V} {as : List D} (i : Nat), FzAll K H xs as → FzAll K H (xs.eraseIdx i) (as.eraseIdx i)
  | _, _, _, .nil => .nil
  | _, _, 0, .cons _ t => t
  | _, _, i + 1, .cons q t => .cons q (FzAll.eraseIdx i t)
theorem FzAll.ints : ∀ {vs : List V} {ns : List Int}, FzAll K H vs (ns.map D.int) → vs = ns.map V.int
  | _, [], .nil => rfl
  | _, _ :: _, .cons (.int _) t => by rw [FzAll.ints t]; rfl
theorem FzAll.of_ints : ∀ {ns : List Int}, FzAll K H (ns.map V.int) (ns.map D.int)
  | [] => .nil
  | _ :: _ => .cons (.int _) FzAll.of_ints
theorem FzAll.bls : ∀ {vs : List V} {ns : List Bool}, FzAll K H vs (ns.map D.bl) → vs = ns.map V.bl
  | _, [], .nil => rfl
  | _, _ :: _, .cons (.bl _) t => by rw [FzAll.bls t]; rfl
theorem FzAll.strs : ∀ {vs : List V} {ns : List Str}, FzAll K H vs (ns.map D.str) → vs = ns.map V.str
  | _, [], .nil => rfl
  | _, _ :: _, .cons (.str _) t => by rw [FzAll.strs t]; rfl
end

/-! ### what may change -/
inductive MO where
  | lst (ds : List D)
  | dct (kvs : List (Key × D))
  | dctT (kvs : List (List Key × D))
  | ins (C : Addr) (dx : Addr) (fs : List (Str × D))
  /-- something that stands there and is not touched -/
  | opq
abbrev Mp := Addr → Option MO
def updM (M : Mp) (a : Addr) (o : MO) : Mp := fun b => if b = a then some o else M b
theorem updM_same {M : Mp} {a : Addr} {o : MO} : updM M a o a = some o := by unfold updM; rw [if_pos rfl]
theorem updM_ne {M : Mp} {a b : Addr} {o : MO} (h : b ≠ a) : updM M a o b = M b := by unfold updM; rw [if_neg h]
theorem updM_upd {M : Mp} {a : Addr} {o u : MO} : updM (updM M a o) a u = updM M a u := by funext b; unfold updM; split <;> rfl
theorem updM_self {M : Mp} {a : Addr} {o : MO} (h : M a = some o) : updM M a o = M := by funext b; unfold updM; split <;> simp_all
theorem updM_comm {M : Mp} {a b : Addr} {o u : MO} (h : a ≠ b) : updM (updM M a o) b u = updM (updM M b u) a o := by
  funext c
  unfold updM
  by_cases h1 : c = a
  · subst h1
    rw [if_neg h, if_pos rfl, if_pos rfl]
  · rw [if_neg h1]
    by_cases h2 : c = b
    · rw [if_pos h2, if_neg h1]
    · rw [if_neg h2, if_neg h1]
theorem ne_none {M : Mp} {a b : Addr} {o : MO} (h : M a = some o) (h' : M b = none) : a ≠ b := by
  intro e; subst e; rw [h] at h'; cases h'

abbrev KFz {κ : Type} (K : PySem.W.Frag) (H : Hp) : List (κ × V) → List (κ × D) → Prop := Paired fun (p : κ × V) (q : κ × D) => p.1 = q.1 ∧ Fz K H p.2 q.2
theorem KFz.up {κ : Type} {K : PySem.W.Frag} {H H' : Hp} (t : Tups K H H') {l : List (κ × V)} {m : List (κ × D)} (h : KFz K H l m) : KFz K H' l m := Paired.mapP h fun _ _ z => ⟨z.1, z.2.up t⟩
/-- what stands in H at a, as o says -/
def MoOk (K : PySem.W.Frag) (H : Hp) (u : HO) : MO → Prop
  | .lst ds => ∃ xs, u = .lst xs ∧ FzAll K H xs ds
  | .dct kvs => ∃ xs, u = .dK xs ∧ KFz K H xs kvs
  | .dctT kvs => ∃ xs, u = .dT xs ∧ KFz K H xs kvs
  | .ins C dx fs => ∃ gs, u = .ins C dx gs ∧ KFz K H gs fs
  | .opq => True
theorem MoOk.up {K : PySem.W.Frag} {H H' : Hp} {u : HO} {o : MO} (t : Tups K H H') (h : MoOk K H u o) : MoOk K H' u o := by
  cases o with
  | lst ds => obtain ⟨xs, e, f⟩ := h; exact ⟨xs, e, f.up t⟩
  | dct kvs => obtain ⟨xs, e, f⟩ := h; exact ⟨xs, e, KFz.up t f⟩
  | dctT kvs => obtain ⟨xs, e, f⟩ := h; exact ⟨xs, e, KFz.up t f⟩
  | ins C dx fs => obtain ⟨xs, e, f⟩ := h; exact ⟨xs, e, KFz.up t f⟩
  | opq => exact True.intro
def MemOk (K : PySem.W.Frag) (H : Hp) (M : Mp) : Prop := ∀ a o, M a = some o → ∃ u, H a = some u ∧ MoOk K H u o
theorem MemOk.none {K : PySem.W.Frag} {H : Hp} {M : Mp} {a : Addr} (m : MemOk K H M) (h : H a = none) : M a = none := by
  cases e : M a with
  | none => rfl
  | some o =>
    obtain ⟨u, q, _⟩ := m a o e
    rw [h] at q
    cases q
theorem MoOk.mut {K : PySem.W.Frag} {H : Hp} {u : HO} {o : MO} (h : MoOk K H u o) (ho : o ≠ .opq) : Mut (some u) := by
  cases o with
  | lst ds => obtain ⟨xs, rfl, f⟩ := h; exact True.intro
  | dct kvs => obtain ⟨xs, rfl, f⟩ := h; exact True.intro
  | dctT kvs => obtain ⟨xs, rfl, f⟩ := h; exact True.intro
  | ins C dx fs => obtain ⟨xs, rfl, f⟩ := h; exact True.intro
  | opq => exact absurd rfl ho

/-! ### a step: what is not told stays -/
structure Step (K : PySem.W.Frag) (H : Hp) (M : Mp) (H' : Hp) (M' : Mp) : Prop where
  mem : MemOk K H' M'
  tups : Tups K H H'
  fr : ∀ a u, H a = some u → M a = none → H' a = some u ∧ M' a = none
section
variable {K : PySem.W.Frag} {H H1 H2 : Hp} {M M1 M2 : Mp} {p a : Addr} {u : HO} {o o' : MO}
theorem Step.refl (m : MemOk K H M) : Step K H M H M := ⟨m, .refl H, fun _ _ h n => ⟨h, n⟩⟩
theorem Step.trans (s : Step K H M H1 M1) (t : Step K H1 M1 H2 M2) : Step K H M H2 M2 := ⟨t.mem, s.tups.trans t.tups, fun a u h n => let q := s.fr a u h n; t.fr a u q.1 q.2⟩
theorem Tups.new (hp : H p = none) : Tups K H (upd H p u) := .of_keep (fun a xs q => by rw [upd_ne (ne_of_none q hp)]; exact q) (fun a o v q => by rw [upd_ne (ne_of_none q hp)]; exact q)
/-- a new object that nobody tracks (a tuple) -/
theorem Step.newT (m : MemOk K H M) (hp : H p = none) : Step K H M (upd H p u) M := by
  have t : Tups K H (upd H p u) := .new hp
  refine ⟨fun a o e => ?_, t, fun a v h n => ⟨by rw [upd_ne (ne_of_none h hp)]; exact h, n⟩⟩
  obtain ⟨v, q, z⟩ := m a o e
  exact ⟨v, by rw [upd_ne (ne_of_none q hp)]; exact q, z.up t⟩
/-- a new object, tracked -/
theorem Step.newM (m : MemOk K H M) (hp : H p = none) (h : MoOk K H u o) : Step K H M (upd H p u) (updM M p o) := by
  have t : Tups K H (upd H p u) := .new hp
  have s : Step K H M (upd H p u) M := .newT m hp
  refine ⟨fun a o' e => ?_, t, fun a v h n => ⟨(s.fr a v h n).1, by rw [updM_ne (ne_of_none h hp)]; exact n⟩⟩
  by_cases ha : a = p
  · subst ha
    rw [updM_same] at e
    cases e
    exact ⟨u, upd_same, h.up t⟩
  · rw [updM_ne ha] at e
    exact s.mem a o' e
/-- a tracked object changes -/
theorem Step.wr (m : MemOk K H M) (hp : M p = some o') (ho : o' ≠ .opq) (h : MoOk K H u o) : Step K H M (upd H p u) (updM M p o) := by
  obtain ⟨v, hv, mv⟩ := m p o' hp
  have mu := mv.mut ho
  have t : Tups K H (upd H p u) := .of_keep (fun a xs q => by
    rw [upd_ne]
    · exact q
    · rintro rfl
      rw [q] at hv; cases hv
      exact mu) (fun a ob w q => by
    rw [upd_ne]
    · exact q
    · rintro rfl
      rw [q] at hv; cases hv
      exact mu)
  refine ⟨fun a o2 e => ?_, t, fun a w h n => ?_⟩
  · by_cases ha : a = p
    · subst ha
      rw [updM_same] at e
      cases e
      exact ⟨u, upd_same, h.up t⟩
    · rw [updM_ne ha] at e
      obtain ⟨w, q, z⟩ := m a o2 e
      exact ⟨w, by rw [upd_ne ha]; exact q, z.up t⟩
  · have ha : a ≠ p := by
      rintro rfl
      rw [n] at hp; cases hp
    exact ⟨by rw [upd_ne ha]; exact h, by rw [updM_ne ha]; exact n⟩
theorem MemOk.lst {ds : List D} (m : MemOk K H M) (h : M a = some (.lst ds)) : ∃ xs, H a = some (.lst xs) ∧ FzAll K H xs ds := by
  obtain ⟨u, q, xs, rfl, f⟩ := m a _ h
  exact ⟨xs, q, f⟩
end

/-! ### readings over data -/
abbrev DSt := List (Option D)
abbrev KD := D → Mp → Prop
abbrev TED := DSt → Mp → KD → Prop
abbrev TTD := DSt → Mp → (Bool → Mp → Prop) → Prop
abbrev TAD := DSt → Mp → (List D → Mp → Prop) → Prop
structure EndD where
  nx : DSt → Mp → Prop
  rt : KD
  bk : DSt → Mp → Prop := fun _ _ => False
  ct : DSt → Mp → Prop := fun _ _ => False
abbrev TSD := EndD → DSt → Mp → Prop
/-- the slots -/
structure RelS (K : PySem.W.Frag) (H : Hp) (σ : St) (ρ : DSt) : Prop where
  len : σ.length = ρ.length
  at_ : ∀ (i : Nat) (d : D), ρ[i]? = some (some d) → ∃ v : V, σ[i]? = some (some v) ∧ Fz K H v d
theorem RelS.up {K : PySem.W.Frag} {H H' : Hp} {σ : St} {ρ : DSt} (h : RelS K H σ ρ) (t : Tups K H H') : RelS K H' σ ρ :=
  ⟨h.len, fun i d e => let ⟨v, q, f⟩ := h.at_ i d e; ⟨v, q, f.up t⟩⟩
theorem RelS.set {K : PySem.W.Frag} {H : Hp} {σ : St} {ρ : DSt} (h : RelS K H σ ρ) (i : Nat) {v : V} {d : D} (f : Fz K H v d) : RelS K H (σ.set i (some v)) (ρ.set i (some d)) := by
  refine ⟨by rw [List.length_set, List.length_set, h.len], fun j e q => ?_⟩
  by_cases hj : i = j
  · subst hj
    by_cases hl : i < ρ.length
    · rw [List.getElem?_set_self hl] at q
      cases q
      exact ⟨v, List.getElem?_set_self (by rw [h.len]; exact hl), f⟩
    · rw [List.getElem?_eq_none (by rw [List.length_set]; omega)] at q
      cases q
  · rw [List.getElem?_set_ne hj] at q
    obtain ⟨w, z, g⟩ := h.at_ j e q
    exact ⟨w, by rw [List.getElem?_set_ne hj]; exact z, g⟩
theorem RelS.wipe {K : PySem.W.Frag} {H : Hp} {σ : St} {ρ : DSt} (h : RelS K H σ ρ) (i : Nat) : RelS K H σ (ρ.set i none) := by
  refine ⟨by rw [List.length_set, h.len], fun j e q => ?_⟩
  by_cases hj : i = j
  · subst hj
    by_cases hl : i < ρ.length
    · rw [List.getElem?_set_self hl] at q; cases q
    · rw [List.getElem?_eq_none (by rw [List.length_set]; omega)] at q; cases q
  · rw [List.getElem?_set_ne hj] at q
    exact h.at_ j e q

/-- what follows, said of data, from what follows, said of H -/
def KLe (K : PySem.W.Frag) (H : Hp) (M : Mp) (Q' : KD) (Q : VK) : Prop := ∀ v H' d M', Fz K H' v d → Step K H M H' M' → Q' d M' → Q v H'
def upE (K : PySem.W.Frag) (t : TED) : TE := fun σ H Q => ∃ ρ M Q', RelS K H σ ρ ∧ MemOk K H M ∧ t ρ M Q' ∧ KLe K H M Q' Q
def upT (K : PySem.W.Frag) (t : TTD) : TT := fun σ H Q => ∃ ρ M Q', RelS K H σ ρ ∧ MemOk K H M ∧ t ρ M Q' ∧ ∀ b H' M', Step K H M H' M' → Q' b M' → Q b H'
def upA (K : PySem.W.Frag) (t : TAD) : TA := fun σ H Q => ∃ ρ M Q', RelS K H σ ρ ∧ MemOk K H M ∧ t ρ M Q' ∧ ∀ vs H' ds M', FzAll K H' vs ds → Step K H M H' M' → Q' ds M' → Q vs H'
structure EndLe (K : PySem.W.Frag) (H : Hp) (M : Mp) (E' : EndD) (E : Ends) : Prop where
  nx : ∀ σ' ρ' H' M', RelS K H' σ' ρ' → Step K H M H' M' → E'.nx ρ' M' → E.nx σ' H'
  rt : KLe K H M E'.rt E.rt
  bk : ∀ σ' ρ' H' M', RelS K H' σ' ρ' → Step K H M H' M' → E'.bk ρ' M' → E.bk σ' H'
  ct : ∀ σ' ρ' H' M', RelS K H' σ' ρ' → Step K H M H' M' → E'.ct ρ' M' → E.ct σ' H'
def upS (K : PySem.W.Frag) (t : TSD) : TS := fun E σ H => ∃ ρ M E', RelS K H σ ρ ∧ MemOk K H M ∧ t E' ρ M ∧ EndLe K H M E' E
abbrev DE (X : Cx) (e : Expr) (t : TED) : Prop := PE X e (upE X.K t)
abbrev DT (X : Cx) (e : Expr) (t : TTD) : Prop := PT X e (upT X.K t)
abbrev DW (X : Cx) (e : Expr) (t : TTD) : Prop := PW X e (upT X.K t)
abbrev DA (X : Cx) (es : List Expr) (t : TAD) : Prop := PA X es (upA X.K t)
abbrev DS (X : Cx) (st : Stmt) (t : TSD) : Prop := PS X st (upS X.K t)
abbrev DSs (X : Cx) (st : List Stmt) (t : TSD) : Prop := PSs X st (upS X.K t)
section
variable {X : Cx} {e : Expr} {es : List Expr} {st : Stmt} {sts : List Stmt}
theorem pe_weak {t t' : TE} (h : PE X e t) (w : ∀ σ H Q, t' σ H Q → t σ H Q) : PE X e t' := ⟨fun pins s σ H Q I q => h.run pins s σ H Q I (w _ _ _ q)⟩
theorem pt_weak {t t' : TT} (h : PT X e t) (w : ∀ σ H Q, t' σ H Q → t σ H Q) : PT X e t' := ⟨fun pins s σ H Q I q => h.run pins s σ H Q I (w _ _ _ q)⟩
theorem pw_weak {t t' : TT} (h : PW X e t) (w : ∀ σ H Q, t' σ H Q → t σ H Q) : PW X e t' := ⟨fun wh pins s σ H Q I q => h.run wh pins s σ H Q I (w _ _ _ q)⟩
theorem pa_weak {t t' : TA} (h : PA X es t) (w : ∀ σ H Q, t' σ H Q → t σ H Q) : PA X es t' := ⟨fun pos pins s σ H Q I q => h.run pos pins s σ H Q I (w _ _ _ q)⟩
theorem ps_weak {t t' : TS} (h : PS X st t) (w : ∀ E σ H, t' E σ H → t E σ H) : PS X st t' := ⟨fun pins s σ H E I q => h.run pins s σ H E I (w _ _ _ q)⟩
theorem pss_weak {t t' : TS} (h : PSs X sts t) (w : ∀ E σ H, t' E σ H → t E σ H) : PSs X sts t' := ⟨fun pins s σ H E I q => h.run pins s σ H E I (w _ _ _ q)⟩
end
/-- from inside a step: the goal's continuation -/
theorem KLe.after {K : PySem.W.Frag} {H H1 : Hp} {M M1 : Mp} {Q' : KD} {Q : VK} (k : KLe K H M Q' Q) (s : Step K H M H1 M1) : KLe K H1 M1 Q' Q := fun v H' d M' f t q => k v H' d M' f (s.trans t) q
theorem EndLe.after {K : PySem.W.Frag} {H H1 : Hp} {M M1 : Mp} {E' : EndD} {E : Ends} (k : EndLe K H M E' E) (s : Step K H M H1 M1) : EndLe K H1 M1 E' E :=
  ⟨fun σ' ρ' H' M' r t q => k.nx σ' ρ' H' M' r (s.trans t) q, k.rt.after s, fun σ' ρ' H' M' r t q => k.bk σ' ρ' H' M' r (s.trans t) q, fun σ' ρ' H' M' r t q => k.ct σ' ρ' H' M' r (s.trans t) q⟩

/-! ### names, constants -/
def dVar (i : Nat) : TED := fun ρ M Q => match ρ[i]? with
  | some (some d) => Q d M
  | _ => False
def dC (d : D) : TED := fun _ M Q => Q d M
section
variable {X : Cx} {pos : Pos}
theorem dv (i : Nat) {x : Str} (hN : X.N[i]? = some x := by rfl) (hv : Vis X.env.scope x := by first | exact Or.inl rfl | exact Or.inr (Or.inl rfl) | exact Or.inr (Or.inr rfl)) (hd : (x == ("__debug__" : Str)) = false := by decide)
    (hcd : (x == ("__classdict__" : Str)) = false := by decide) : DE X (.Name x pos) (dVar i) :=
  pe_weak (pe_var hN hv hd hcd) fun σ H Q ⟨ρ, M, Q', r, m, h, k⟩ => by
    unfold dVar at h
    split at h
    · rename_i d e
      obtain ⟨v, q, f⟩ := r.at_ i d e
      exact ⟨v, q, k v H d M f (.refl m) h⟩
    · exact h.elim
theorem de_c {e : Expr} {v : V} {d : D} (h : PE X e (tC v)) (f : ∀ H, Fz X.K H v d) : DE X e (dC d) :=
  pe_weak h fun σ H Q ⟨ρ, M, Q', r, m, h, k⟩ => k v H d M (f H) (.refl m) h
theorem de_int {i : Int} {j} : DE X (.Constant (.int i) j pos) (dC (.int i)) := de_c pe_int fun _ => .int _
theorem de_bl {b : Bool} {j} : DE X (.Constant (.bool b) j pos) (dC (.bl b)) := de_c pe_bl fun _ => .bl _
theorem de_non {j} : DE X (.Constant .none j pos) (dC .non) := de_c pe_non fun _ => .non
theorem de_str {x : Str} {j} : DE X (.Constant (.str x) j pos) (dC (.str x)) := de_c pe_str fun _ => .str _
end

/-! ### two-place operations -/
abbrev R2D := D → D → Mp → KD → Prop
/-- r over values is served by rd over data -/
def RLe (K : PySem.W.Frag) (r : R2) (rd : R2D) : Prop := ∀ H M vx vy x y Q' Q, Fz K H vx x → Fz K H vy y → MemOk K H M → rd x y M Q' → KLe K H M Q' Q → r vx vy H Q
def dOp (r : R2D) (ta tb : TED) : TED := fun ρ M Q => ta ρ M fun x M1 => tb ρ M1 fun y M2 => r x y M2 Q
section
variable {X : Cx} {a b c : Expr} {ta tb tc : TED} {pos : Pos} {K : PySem.W.Frag}
theorem up_op {r : R2} {rd : R2D} (h : RLe K r rd) (σ : St) (H : Hp) (Q : VK) (q : upE K (dOp rd ta tb) σ H Q) : tOp r (upE K ta) (upE K tb) σ H Q := by
  obtain ⟨ρ, M, Q', rs, m, t, k⟩ := q
  refine ⟨ρ, M, _, rs, m, t, fun vx H1 x M1 fx s1 t1 => ?_⟩
  refine ⟨ρ, M1, _, rs.up s1.tups, s1.mem, t1, fun vy H2 y M2 fy s2 t2 => ?_⟩
  exact h H2 M2 vx vy x y Q' Q (fx.up s2.tups) fy s2.mem t2 ((k.after s1).after s2)
theorem de_op {op : Operator} {r : R2} {rd : R2D} (ho : OpR X (binaryOp op) r) (h : RLe X.K r rd) (ha : DE X a ta) (hb : DE X b tb) : DE X (.BinOp a op b pos) (dOp rd ta tb) :=
  pe_weak (pe_op ho ha hb) (up_op h)
theorem de_cmp {op : CmpOp} {r : R2} {rd : R2D} (ho : OpR X (compareOp op) r) (h : RLe X.K r rd) (ha : DE X a ta) (hb : DE X b tb) (hm : behindInMarks op b = false) : DE X (.Compare a [op] [b] pos) (dOp rd ta tb) :=
  pe_weak (pe_cmpR ho ha hb hm) (up_op h)
end
end DL

namespace DL
open PySem L2
open PyProof.Rows (b2i)

/-- a branch -/
def br (b : Bool) (A B : Prop) : Prop := match b with
  | true => A
  | false => B
theorem br_of {b : Bool} {A B : Prop} (h1 : b = true → A) (h2 : b = false → B) : br b A B := by
  cases b
  · exact h2 rfl
  · exact h1 rfl
theorem br_t {b : Bool} {A B : Prop} (e : b = true) (h : A) : br b A B := by subst e; exact h
theorem br_f {b : Bool} {A B : Prop} (e : b = false) (h : B) : br b A B := by subst e; exact h
def sg (neg b : Bool) : Bool := match neg with
  | true => !b
  | false => b

/-! ### results -/
section
variable {K : PySem.W.Frag} {H : Hp} {M : Mp} {Q' : KD} {Q : VK}
theorem KLe.val (k : KLe K H M Q' Q) (m : MemOk K H M) {v : V} {d : D} (f : Fz K H v d) (q : Q' d M) : Q v H := k v H d M f (.refl m) q
theorem KLe.newTup (k : KLe K H M Q' Q) (m : MemOk K H M) {xs : List V} {ds : List D} (f : FzAll K H xs ds) (q : Q' (.tup ds) M) {p : Addr} {o : Obj} (hp : H p = none) (ho : o.dict = none) : Q (.ref p) (upd H p (.frz o (.tup xs))) :=
  k _ _ _ _ (.tup (.inl ⟨o, upd_same, ho⟩) (f.up (.new hp))) (.newT m hp) q
theorem KLe.newLst (k : KLe K H M Q' Q) (m : MemOk K H M) {xs : List V} {ds : List D} (f : FzAll K H xs ds) (q : ∀ p, M p = none → Q' (.ref p) (updM M p (.lst ds))) {p : Addr} (hp : H p = none) : Q (.ref p) (upd H p (.lst xs)) :=
  k _ _ _ _ (.ref p) (.newM m hp (show MoOk K H (.lst xs) (.lst ds) from ⟨xs, rfl, f⟩)) (q p (m.none hp))
theorem KLe.wrLst (k : KLe K H M Q' Q) (m : MemOk K H M) {xs : List V} {ds ds' : List D} {p : Addr} {v : V} {d : D} (hp : M p = some (.lst ds)) (f : FzAll K H xs ds') (fv : ∀ H', Fz K H' v d) (q : Q' d (updM M p (.lst ds'))) : Q v (upd H p (.lst xs)) :=
  k _ _ _ _ (fv _) (.wr m hp (fun z => by cases z) (show MoOk K H (.lst xs) (.lst ds') from ⟨xs, rfl, f⟩)) q
end

/-! ### data as the library reads it -/
mutual
inductive Rdm (M : Mp) : D → PyData → Prop
  | non : Rdm M .non .none
  | bl (b : Bool) : Rdm M (.bl b) (.bool b)
  | int (i : Int) : Rdm M (.int i) (.int i)
  | str (x : Str) : Rdm M (.str x) (.str x)
  | tup {ds : List D} {ps : List PyData} : RdmAll M ds ps → Rdm M (.tup ds) (.tuple ps)
  | lst {a : Addr} {ds : List D} {ps : List PyData} : M a = some (.lst ds) → RdmAll M ds ps → Rdm M (.ref a) (.list ps)
  | dct {a : Addr} {kvs : List (Key × D)} {ps : List (PyData × PyData)} : M a = some (.dct kvs) → RdmKv M kvs ps → Rdm M (.ref a) (.dict ps)
inductive RdmAll (M : Mp) : List D → List PyData → Prop
  | nil : RdmAll M [] []
  | cons {d : D} {ds : List D} {p : PyData} {ps : List PyData} : Rdm M d p → RdmAll M ds ps → RdmAll M (d :: ds) (p :: ps)
inductive RdmKv (M : Mp) : List (Key × D) → List (PyData × PyData) → Prop
  | nil : RdmKv M [] []
  | consI {i : Int} {d : D} {r : List (Key × D)} {p : PyData} {ps : List (PyData × PyData)} : Rdm M d p → RdmKv M r ps → RdmKv M ((.inl i, d) :: r) ((.int i, p) :: ps)
  | consS {x : Str} {d : D} {r : List (Key × D)} {p : PyData} {ps : List (PyData × PyData)} : Rdm M d p → RdmKv M r ps → RdmKv M ((.inr x, d) :: r) ((.str x, p) :: ps)
end
mutual
theorem Rdm.dp {K : PySem.W.Frag} {H : Hp} {M : Mp} (m : MemOk K H M) : ∀ (p : PyData) (d : D) (v : V), Rdm M d p → Fz K H v d → p.canLay0 = true → Dp K H v p
  | .none, _, _, h, f, _ => by cases h; cases f; exact .non
  | .bool _, _, _, h, f, _ => by cases h; cases f; exact .bl _
  | .int _, _, _, h, f, _ => by cases h; cases f; exact .int _
  | .str _, _, _, h, f, _ => by cases h; cases f; exact .str _
  | .list ps, _, _, h, f, c => by
    cases h with
    | lst ha hr =>
      cases f
      obtain ⟨xs, e, fs⟩ := m.lst ha
      exact .lst (.of e) (RdmAll.dp m ps _ _ hr fs (by simpa [PyData.canLay0] using c))
  | .tuple ps, _, _, h, f, c => by
    cases h with
    | tup hr =>
      cases f with
      | tup hs fs => exact .tup hs.t (RdmAll.dp m ps _ _ hr fs (by simpa [PyData.canLay0] using c))
  | .dict _, _, _, _, _, c => by simp [PyData.canLay0] at c
theorem RdmAll.dp {K : PySem.W.Frag} {H : Hp} {M : Mp} (m : MemOk K H M) : ∀ (ps : List PyData) (ds : List D) (vs : List V), RdmAll M ds ps → FzAll K H vs ds → PyData.canLayAll0 ps = true → DpAll K H vs ps
  | [], _, _, h, f, _ => by cases h; cases f; exact .nil
  | p :: ps, _, _, h, f, c => by
    cases h with
    | cons h1 h2 =>
      cases f with
      | cons f1 f2 =>
        have c' : p.canLay0 = true ∧ PyData.canLayAll0 ps = true := by simpa [PyData.canLayAll0] using c
        exact .cons (Rdm.dp m p _ _ h1 f1 c'.1) (RdmAll.dp m ps _ _ h2 f2 c'.2)
end

/-! ### two-place operations -/
def BR (X : Cx) (op : Operator) (rd : R2D) : Prop := ∃ r, OpR X (binaryOp op) r ∧ RLe X.K r rd
def IR (X : Cx) (op : Operator) (rd : R2D) : Prop := ∃ r, OpR X (inplaceOp op) r ∧ RLe X.K r rd
def CR (X : Cx) (op : CmpOp) (rd : R2D) : Prop := ∃ r, OpR X (compareOp op) r ∧ RLe X.K r rd
def rInts (g : Int → Int → D) (C : Int → Int → Prop) : R2D := fun x y M Q => match x, y with
  | .int i, .int j => C i j ∧ Q (g i j) M
  | _, _ => False
def rInts0 (g : Int → Int → D) : R2D := fun x y M Q => match x, y with
  | .int i, .int j => Q (g i j) M
  | _, _ => False
def rAdd : R2D := fun x y M Q => match x, y with
  | .int i, .int j => Q (.int (i + j)) M
  | .str a, .str b => a.length + b.length ≤ sizeLine ∧ Q (.str (a ++ b)) M
  | .tup a, .tup b => a.length + b.length ≤ sizeLine ∧ Q (.tup (a ++ b)) M
  | .ref p, .ref q => ∃ a b, M p = some (.lst a) ∧ M q = some (.lst b) ∧ a.length + b.length ≤ sizeLine ∧ ∀ r, M r = none → Q (.ref r) (updM M r (.lst (a ++ b)))
  | .int i, .bl k => Q (.int (i + b2i k)) M
  | _, _ => False
section
variable {X : Cx} {K : PySem.W.Frag}
theorem le_ints {g : Int → Int → D} {g' : Int → Int → V} {C : Int → Int → Prop} (hg : ∀ H i j, Fz K H (g' i j) (g i j)) : RLe K (rI C g') (rInts g C) := by
  intro H M vx vy x y Q' Q fx fy m h k
  unfold rInts at h
  split at h
  · cases fx; cases fy
    exact ⟨_, _, rfl, rfl, h.1, k.val m (hg H _ _) h.2⟩
  · exact h.elim
theorem le_ints0 {g : Int → Int → D} {g' : Int → Int → V} (hg : ∀ H i j, Fz K H (g' i j) (g i j)) : RLe K (rI0 g') (rInts0 g) := by
  intro H M vx vy x y Q' Q fx fy m h k
  unfold rInts0 at h
  split at h
  · cases fx; cases fy
    exact ⟨_, _, rfl, rfl, k.val m (hg H _ _) h⟩
  · exact h.elim
theorem br_add : BR X .Add rAdd := by
  refine ⟨_, (((op_add.or op_add_str).or op_catZ).or op_cat).or op_add_ib, ?_⟩
  intro H M vx vy x y Q' Q fx fy m h k
  unfold rAdd at h
  split at h
  · cases fx; cases fy
    exact .inl (.inl (.inl (.inl ⟨_, _, rfl, rfl, k.val m (.int _) h⟩)))
  · cases fx; cases fy
    exact .inl (.inl (.inl (.inr ⟨_, _, rfl, rfl, h.1, k.val m (.str _) h.2⟩)))
  · rename_i as bs
    cases fx with
    | @tup a xs _ ha fa =>
      cases fy with
      | @tup b ys _ hb fb =>
        refine .inl (.inl (.inr ⟨a, b, xs, ys, rfl, rfl, ha.t, hb.t, by rw [fa.length, fb.length]; exact h.1, fun e => ?_, fun _ e => ?_, fun _ _ p o hp ho => k.newTup m (fa.append fb) h.2 hp ho⟩))
        · subst e
          cases fa
          exact k.val m (.tup hb fb) h.2
        · subst e
          cases fb
          rw [List.append_nil] at h
          exact k.val m (.tup ha fa) h.2
  · obtain ⟨a, b, ha, hb, hz, q⟩ := h
    cases fx; cases fy
    obtain ⟨xs, h1, f1⟩ := m.lst ha
    obtain ⟨ys, h2, f2⟩ := m.lst hb
    exact .inl (.inr ⟨_, _, xs, ys, rfl, rfl, h1, h2, by rw [f1.length, f2.length]; exact hz, fun p hp => k.newLst m (f1.append f2) q hp⟩)
  · cases fx; cases fy
    exact .inr ⟨_, _, rfl, rfl, k.val m (.int _) h⟩
  · exact h.elim
theorem br_sub : BR X .Sub (rInts0 fun i j => .int (i - j)) := ⟨_, op_sub, le_ints0 fun _ _ _ => .int _⟩
/-- one factor below 2 ^ 64 -/
theorem br_mul : BR X .Mult (rInts (fun i j => .int (i * j)) CMul) := ⟨_, op_mul, le_ints fun _ _ _ => .int _⟩
theorem br_mod : BR X .Mod (rInts (fun i j => .int (i % j)) fun _ j => 0 < j) := ⟨_, op_mod, le_ints fun _ _ _ => .int _⟩
theorem br_fdiv : BR X .FloorDiv (rInts (fun i j => .int (i / j)) CDiv) := ⟨_, op_fdiv, le_ints fun _ _ _ => .int _⟩
theorem br_pow : BR X .Pow (rInts (fun i j => .int (i ^ j.toNat)) CPow) := ⟨_, op_pow, le_ints fun _ _ _ => .int _⟩
theorem ir_add : IR X .Add (rInts0 fun i j => .int (i + j)) := ⟨_, iop_add, le_ints0 fun _ _ _ => .int _⟩
theorem cr_lt : CR X .Lt (rInts0 fun i j => .bl (decide (i < j))) := ⟨_, op_lt, le_ints0 fun _ _ _ => .bl _⟩
theorem cr_le : CR X .LtE (rInts0 fun i j => .bl (decide (i ≤ j))) := ⟨_, op_le, le_ints0 fun _ _ _ => .bl _⟩
theorem cr_gt : CR X .Gt (rInts0 fun i j => .bl (decide (j < i))) := ⟨_, op_gt, le_ints0 fun _ _ _ => .bl _⟩
theorem cr_ge : CR X .GtE (rInts0 fun i j => .bl (decide (j ≤ i))) := ⟨_, op_ge, le_ints0 fun _ _ _ => .bl _⟩
/-- ==, != -/
def rEqX (neg : Bool) : R2D := fun x y M Q => match x, y with
  | .int i, .int j => Q (.bl (sg neg (decide (i = j)))) M
  | .str a, .str b => Q (.bl (sg neg (decide (a = b)))) M
  | .bl a, .bl b => Q (.bl (sg neg (decide (a = b)))) M
  | .non, .non => Q (.bl (sg neg true)) M
  | .non, .int _ => Q (.bl (sg neg false)) M
  | .int _, .non => Q (.bl (sg neg false)) M
  | .non, .str _ => Q (.bl (sg neg false)) M
  | .str _, .non => Q (.bl (sg neg false)) M
  | .int _, .str _ => Q (.bl (sg neg false)) M
  | .str _, .int _ => Q (.bl (sg neg false)) M
  | x, y => ∃ p q, Rdm M x p ∧ Rdm M y q ∧ SeqAt.shaped p = true ∧ SeqAt.shaped q = true ∧ Q (.bl (sg neg (PyData.eqv p q))) M
theorem dec_i {i j : Int} : decide (V.int i = V.int j) = decide (i = j) := by simp
theorem dec_s {i j : Str} : decide (V.str i = V.str j) = decide (i = j) := by simp
theorem dec_b {i j : Bool} : decide (V.bl i = V.bl j) = decide (i = j) := by simp
theorem cr_eq (hu : X.A.units + 64 < cLine) : CR X .Eq (rEqX false) := by
  refine ⟨_, op_eq.or (op_eqD hu), ?_⟩
  intro H M vx vy x y Q' Q fx fy m h k
  unfold rEqX at h
  split at h
  · cases fx; cases fy
    exact .inl ⟨rfl, by rw [dec_i]; exact k.val m (.bl _) h⟩
  · cases fx; cases fy
    exact .inl ⟨rfl, by rw [dec_s]; exact k.val m (.bl _) h⟩
  · cases fx; cases fy
    exact .inl ⟨rfl, by rw [dec_b]; exact k.val m (.bl _) h⟩
  · cases fx; cases fy
    exact .inl ⟨rfl, k.val m (.bl _) h⟩
  all_goals first
    | (obtain ⟨p, q, h1, h2, s1, s2, q'⟩ := h
       exact .inr ⟨p, q, h1.dp m _ _ _ fx (SeqAt.canLay_of_shaped s1), h2.dp m _ _ _ fy (SeqAt.canLay_of_shaped s2), s1, s2, k.val m (.bl _) q'⟩)
    | (cases fx; cases fy
       exact .inl ⟨rfl, k.val m (.bl _) h⟩)
theorem cr_ne (hu : X.A.units + 64 < cLine) : CR X .NotEq (rEqX true) := by
  refine ⟨_, op_ne.or (op_neD hu), ?_⟩
  intro H M vx vy x y Q' Q fx fy m h k
  unfold rEqX at h
  split at h
  · cases fx; cases fy
    exact .inl ⟨rfl, by rw [dec_i]; exact k.val m (.bl _) h⟩
  · cases fx; cases fy
    exact .inl ⟨rfl, by rw [dec_s]; exact k.val m (.bl _) h⟩
  · cases fx; cases fy
    exact .inl ⟨rfl, by rw [dec_b]; exact k.val m (.bl _) h⟩
  · cases fx; cases fy
    exact .inl ⟨rfl, k.val m (.bl _) h⟩
  all_goals first
    | (obtain ⟨p, q, h1, h2, s1, s2, q'⟩ := h
       exact .inr ⟨p, q, h1.dp m _ _ _ fx (SeqAt.canLay_of_shaped s1), h2.dp m _ _ _ fy (SeqAt.canLay_of_shaped s2), s1, s2, k.val m (.bl _) q'⟩)
    | (cases fx; cases fy
       exact .inl ⟨rfl, k.val m (.bl _) h⟩)
end

/-! ### comparisons with None, in, tests -/
def isNon : D → Bool
  | .non => true
  | _ => false
def rIsN (neg : Bool) : R2D := fun x y M Q => match y with
  | .non => Q (.bl (sg neg (isNon x))) M
  | _ => False
/-- flat things -/
def flatD : D → Bool
  | .int _ => true
  | .str _ => true
  | .bl _ => true
  | .non => true
  | _ => false
/-- == of flat things -/
def eqF : D → D → Bool
  | .non, .non => true
  | .bl a, .bl b => a == b
  | .bl a, .int b => (if a then 1 else 0) == b
  | .int a, .bl b => a == (if b then 1 else 0)
  | .int a, .int b => a == b
  | .str a, .str b => a == b
  | _, _ => false
def rInX (neg : Bool) : R2D := fun x y M Q => match y with
  | .tup ds => flatD x = true ∧ ds.all flatD = true ∧ Q (.bl (sg neg (ds.any fun z => eqF z x))) M
  | .fl ds => flatD x = true ∧ ds.all flatD = true ∧ Q (.bl (sg neg (ds.any fun z => eqF z x))) M
  | .ref p => ∃ ds, M p = some (.lst ds) ∧ flatD x = true ∧ ds.all flatD = true ∧ Q (.bl (sg neg (ds.any fun z => eqF z x))) M
  | _ => False
section
variable {X : Cx} {K : PySem.W.Frag}
theorem isN_dec {K : PySem.W.Frag} {H : Hp} {v : V} {x : D} (f : Fz K H v x) : decide (v = .non) = isNon x := by
  cases f <;> simp [isNon]
theorem cr_is : CR X .Is (rIsN false) := by
  refine ⟨_, op_isN, ?_⟩
  intro H M vx vy x y Q' Q fx fy m h k
  unfold rIsN at h
  split at h
  · cases fy
    exact ⟨rfl, by rw [isN_dec fx]; exact k.val m (.bl _) h⟩
  · exact h.elim
theorem cr_isnot : CR X .IsNot (rIsN true) := by
  refine ⟨_, op_notN, ?_⟩
  intro H M vx vy x y Q' Q fx fy m h k
  unfold rIsN at h
  split at h
  · cases fy
    exact ⟨rfl, by rw [isN_dec fx]; exact k.val m (.bl _) h⟩
  · exact h.elim
theorem flat_of {H : Hp} {v : V} {x : D} (f : Fz K H v x) (h : flatD x = true) : flatV v = true := by
  cases f <;> first | rfl | (simp [flatD] at h)
theorem eqF_of {H : Hp} {v w : V} {x y : D} (f : Fz K H v x) (g : Fz K H w y) (h : flatD x = true) (h' : flatD y = true) : eqV v w = eqF x y := by
  cases f <;> first | (simp [flatD] at h; done) | skip
  all_goals cases g <;> first | (simp [flatD] at h'; done) | rfl
theorem flats_of {H : Hp} : ∀ {vs : List V} {ds : List D}, FzAll K H vs ds → ds.all flatD = true → vs.all flatV = true
  | _, _, .nil, _ => rfl
  | _, _, .cons f t, h => by
    rw [List.all_cons, Bool.and_eq_true] at h
    rw [List.all_cons, flat_of f h.1, flats_of t h.2]
    rfl
theorem inF_of {H : Hp} {w : V} {y : D} (g : Fz K H w y) (h' : flatD y = true) : ∀ {vs : List V} {ds : List D}, FzAll K H vs ds → ds.all flatD = true → inV w vs = ds.any fun z => eqF z y
  | _, _, .nil, _ => rfl
  | _, _, .cons f t, h => by
    rw [List.all_cons, Bool.and_eq_true] at h
    have ih := inF_of g h' t h.2
    unfold inV at ih ⊢
    rw [List.any_cons, List.any_cons, ih, eqF_of f g h.1 h']
theorem le_in (neg : Bool) : RLe K (rIn K neg) (rInX neg) := by
  intro H M vx vy x y Q' Q fx fy m h k
  have fin : ∀ {xs : List V} {ds : List D}, FzAll K H xs ds → flatD x = true → ds.all flatD = true → Q' (.bl (sg neg (ds.any fun z => eqF z x))) M → Q (.bl (if neg then !inV vx xs else inV vx xs)) H := fun {xs ds} f h1 h2 q => by
    rw [inF_of fx h1 f h2]
    have e : (if neg = true then !(ds.any fun z => eqF z x) else ds.any fun z => eqF z x) = sg neg (ds.any fun z => eqF z x) := by cases neg <;> rfl
    rw [e]
    exact k.val m (.bl _) q
  unfold rInX at h
  split at h
  · cases fy with
    | tup hs f => exact ⟨_, _, rfl, .inr hs.t, flat_of fx h.1, flats_of f h.2.1, fin f h.1 h.2.1 h.2.2⟩
  · cases fy with
    | fl hs f => exact ⟨_, _, rfl, .inl hs.sq, flat_of fx h.1, flats_of f h.2.1, fin f h.1 h.2.1 h.2.2⟩
  · obtain ⟨ds, hp, h1, h2, q⟩ := h
    cases fy
    obtain ⟨xs, e, f⟩ := m.lst hp
    exact ⟨_, _, rfl, .inl (.of e), flat_of fx h1, flats_of f h2, fin f h1 h2 q⟩
  · exact h.elim
theorem cr_in : CR X .In (rInX false) := ⟨_, op_in_seq, le_in false⟩
theorem cr_notin : CR X .NotIn (rInX true) := ⟨_, op_notIn_seq, le_in true⟩
end

/-! ### expressions -/
def dTest (t : TED) : TTD := fun ρ M Q => t ρ M fun d M' => match d with
  | .bl b => Q b M'
  | _ => False
def dAndT (t u : TTD) : TTD := fun ρ M Q => t ρ M fun b M1 => br b (u ρ M1 Q) (Q false M1)
def dOrT (t u : TTD) : TTD := fun ρ M Q => t ρ M fun b M1 => br b (Q true M1) (u ρ M1 Q)
def dNotT (t : TTD) : TTD := fun ρ M Q => t ρ M fun b M1 => Q (!b) M1
def dAndV (t u : TED) : TED := fun ρ M Q => t ρ M fun d M1 => match d with
  | .bl b => br b (u ρ M1 Q) (Q (.bl false) M1)
  | _ => False
def dOrV (t u : TED) : TED := fun ρ M Q => t ρ M fun d M1 => match d with
  | .bl b => br b (Q (.bl true) M1) (u ρ M1 Q)
  | _ => False
def dNotV (t : TED) : TED := fun ρ M Q => t ρ M fun d M1 => match d with
  | .bl b => Q (.bl (!b)) M1
  | _ => False
def dIf (t : TTD) (a b : TED) : TED := fun ρ M Q => t ρ M fun c M1 => br c (a ρ M1 Q) (b ρ M1 Q)
def dChain (r r' : R2D) (ta tb tc : TED) : TED := fun ρ M Q => ta ρ M fun x M1 => tb ρ M1 fun y M2 => r x y M2 fun z M3 => match z with
  | .bl b => br b (tc ρ M3 fun w M4 => r' y w M4 Q) (Q (.bl false) M3)
  | _ => False
section
variable {X : Cx} {a b c : Expr} {ta tb tc : TED} {pos : Pos} {rest : List Expr} {K : PySem.W.Frag} {tt tu : TTD}
theorem de_bin {op : Operator} {rd : R2D} (h : BR X op rd) (ha : DE X a ta) (hb : DE X b tb) : DE X (.BinOp a op b pos) (dOp rd ta tb) := by
  obtain ⟨r, ho, l⟩ := h
  exact de_op ho l ha hb
theorem de_cp {op : CmpOp} {rd : R2D} (h : CR X op rd) (ha : DE X a ta) (hb : DE X b tb) (hm : behindInMarks op b = false := by first | exact nomark _ | with_unfolding_all rfl) : DE X (.Compare a [op] [b] pos) (dOp rd ta tb) := by
  obtain ⟨r, ho, l⟩ := h
  exact de_cmp ho l ha hb hm
theorem up_test {t : TED} (σ : St) (H : Hp) (Q : Bool → Hp → Prop) (h : upT K (dTest t) σ H Q) : tTest (upE K t) σ H Q := by
  obtain ⟨ρ, M, Q', r, m, q, k⟩ := h
  refine ⟨ρ, M, _, r, m, q, fun v H1 d M1 f s q1 => ?_⟩
  cases d with
  | bl b => cases f; exact ⟨b, rfl, k b H1 M1 s q1⟩
  | _ => exact q1.elim
theorem dt_val (h : DE X a ta) (he : ∀ whole, isTrue a X.env whole = (do let v ← whole; standAt a.pos; holding [v] (truthy v)) := by intro _; rfl) : DT X a (dTest ta) :=
  pt_weak (pt_val h he) up_test
theorem dt_cp {op : CmpOp} {rd : R2D} (h : CR X op rd) (ha : DE X a ta) (hb : DE X b tb) (hm : behindInMarks op b = false := by first | exact nomark _ | with_unfolding_all rfl) : DT X (.Compare a [op] [b] pos) (dTest (dOp rd ta tb)) := by
  obtain ⟨r, ho, l⟩ := h
  refine pt_weak (pt_cmpR ho ha hb hm) fun σ H Q q => ?_
  obtain ⟨ρ, M, Q', rs, m, q, k⟩ := q
  refine up_op l σ H _ ⟨ρ, M, _, rs, m, q, fun v H1 d M1 f s q1 => ?_⟩
  cases d with
  | bl b => cases f; exact ⟨b, rfl, k b H1 M1 s q1⟩
  | _ => exact q1.elim
theorem up_chain {r r' : R2} {rd rd' : R2D} (l : RLe K r rd) (l' : RLe K r' rd') (σ : St) (H : Hp) (Q : VK) (q : upE K (dChain rd rd' ta tb tc) σ H Q) : tChain r r' (upE K ta) (upE K tb) (upE K tc) σ H Q := by
  obtain ⟨ρ, M, Q', rs, m, t, k⟩ := q
  refine ⟨ρ, M, _, rs, m, t, fun vx H1 x M1 fx s1 t1 => ?_⟩
  refine ⟨ρ, M1, _, rs.up s1.tups, s1.mem, t1, fun vy H2 y M2 fy s2 t2 => ?_⟩
  refine l H2 M2 vx vy x y _ _ (fx.up s2.tups) fy s2.mem t2 fun vz H3 z M3 fz s3 t3 => ?_
  cases z with
  | bl c =>
    cases fz
    refine ⟨c, rfl, ?_⟩
    cases c with
    | true =>
      refine iteT ⟨ρ, M3, _, ((rs.up s1.tups).up s2.tups).up s3.tups, s3.mem, t3, fun vw H4 w M4 fw s4 t4 => ?_⟩
      exact l' H4 M4 vy vw y w Q' Q ((fy.up s3.tups).up s4.tups) fw s4.mem t4 ((((k.after s1).after s2).after s3).after s4)
    | false => exact iteF ((((k.after s1).after s2).after s3).val s3.mem (.bl _) t3)
  | _ => exact t3.elim
theorem de_chain {op op' : CmpOp} {rd rd' : R2D} (h : CR X op rd) (h' : CR X op' rd') (ha : DE X a ta) (hb : DE X b tb) (hc : DE X c tc) (hm : lastMarks [op, op'] [b, c] = false := by with_unfolding_all rfl) :
    DE X (.Compare a [op, op'] [b, c] pos) (dChain rd rd' ta tb tc) := by
  obtain ⟨r, ho, l⟩ := h
  obtain ⟨r', ho', l'⟩ := h'
  exact pe_weak (pe_chain ho ho' ha hb hc hm) (up_chain l l')
theorem dt_chain {op op' : CmpOp} {rd rd' : R2D} (h : CR X op rd) (h' : CR X op' rd') (ha : DE X a ta) (hb : DE X b tb) (hc : DE X c tc) (hm : lastMarks [op, op'] [b, c] = false := by with_unfolding_all rfl) :
    DT X (.Compare a [op, op'] [b, c] pos) (dTest (dChain rd rd' ta tb tc)) := by
  obtain ⟨r, ho, l⟩ := h
  obtain ⟨r', ho', l'⟩ := h'
  refine pt_weak (pt_chain ho ho' ha hb hc hm) fun σ H Q q => ?_
  obtain ⟨ρ, M, Q', rs, m, q, k⟩ := q
  refine up_chain l l' σ H _ ⟨ρ, M, _, rs, m, q, fun v H1 d M1 f s q1 => ?_⟩
  cases d with
  | bl b => cases f; exact ⟨b, rfl, k b H1 M1 s q1⟩
  | _ => exact q1.elim
theorem dw_and1 (ha : DT X a tt) : DW X (.BoolOp .And [a] pos) tt := pw_and1 ha
theorem dw_or1 (ha : DT X a tt) : DW X (.BoolOp .Or [a] pos) tt := pw_or1 ha
theorem dw_and (ha : DT X a tt) (hb : DW X (.BoolOp .And (b :: rest) pos) tu) : DW X (.BoolOp .And (a :: b :: rest) pos) (dAndT tt tu) :=
  pw_weak (pw_and ha hb) fun σ H Q ⟨ρ, M, Q', rs, m, q, k⟩ => ⟨ρ, M, _, rs, m, q, fun c H1 M1 s q1 => by
    cases c with
    | true => exact iteT ⟨ρ, M1, Q', rs.up s.tups, s.mem, q1, fun d H2 M2 s2 q2 => k d H2 M2 (s.trans s2) q2⟩
    | false => exact iteF (k false H1 M1 s q1)⟩
theorem dw_or (ha : DT X a tt) (hb : DW X (.BoolOp .Or (b :: rest) pos) tu) : DW X (.BoolOp .Or (a :: b :: rest) pos) (dOrT tt tu) :=
  pw_weak (pw_or ha hb) fun σ H Q ⟨ρ, M, Q', rs, m, q, k⟩ => ⟨ρ, M, _, rs, m, q, fun c H1 M1 s q1 => by
    cases c with
    | true => exact iteT (k true H1 M1 s q1)
    | false => exact iteF ⟨ρ, M1, Q', rs.up s.tups, s.mem, q1, fun d H2 M2 s2 q2 => k d H2 M2 (s.trans s2) q2⟩⟩
theorem dt_w (h : DW X a tt) : DT X a tt := PW.pt h
theorem dt_not (ha : DT X a tt) : DT X (.UnaryOp .Not a pos) (dNotT tt) :=
  pt_weak (pt_not ha) fun σ H Q ⟨ρ, M, Q', rs, m, q, k⟩ => ⟨ρ, M, _, rs, m, q, fun c H1 M1 s q1 => k (!c) H1 M1 s q1⟩
theorem de_one {op} (h : DE X a ta) : DE X (.BoolOp op [a] pos) ta := pe_one h
theorem de_and (ha : DE X a ta) (hb : DE X (.BoolOp .And (b :: rest) pos) tb) : DE X (.BoolOp .And (a :: b :: rest) pos) (dAndV ta tb) :=
  pe_weak (pe_and ha hb) fun σ H Q ⟨ρ, M, Q', rs, m, q, k⟩ => ⟨ρ, M, _, rs, m, q, fun v H1 d M1 f s q1 => by
    cases d with
    | bl c =>
      cases f
      refine ⟨c, rfl, ?_⟩
      cases c with
      | true => exact iteT ⟨ρ, M1, Q', rs.up s.tups, s.mem, q1, k.after s⟩
      | false => exact iteF ((k.after s).val s.mem (.bl _) q1)
    | _ => exact q1.elim⟩
theorem de_or (ha : DE X a ta) (hb : DE X (.BoolOp .Or (b :: rest) pos) tb) : DE X (.BoolOp .Or (a :: b :: rest) pos) (dOrV ta tb) :=
  pe_weak (pe_or ha hb) fun σ H Q ⟨ρ, M, Q', rs, m, q, k⟩ => ⟨ρ, M, _, rs, m, q, fun v H1 d M1 f s q1 => by
    cases d with
    | bl c =>
      cases f
      refine ⟨c, rfl, ?_⟩
      cases c with
      | true => exact iteT ((k.after s).val s.mem (.bl _) q1)
      | false => exact iteF ⟨ρ, M1, Q', rs.up s.tups, s.mem, q1, k.after s⟩
    | _ => exact q1.elim⟩
theorem de_not (ha : DE X a ta) : DE X (.UnaryOp .Not a pos) (dNotV ta) :=
  pe_weak (pe_not ha) fun σ H Q ⟨ρ, M, Q', rs, m, q, k⟩ => ⟨ρ, M, _, rs, m, q, fun v H1 d M1 f s q1 => by
    cases d with
    | bl c => cases f; exact ⟨c, rfl, (k.after s).val s.mem (.bl _) q1⟩
    | _ => exact q1.elim⟩
def dNeg (t : TED) : TED := fun ρ M Q => t ρ M fun d M1 => match d with
  | .int i => Q (.int (-i)) M1
  | _ => False
theorem de_neg (ha : DE X a ta) : DE X (.UnaryOp .USub a pos) (dNeg ta) :=
  pe_weak (pe_un un_neg ha) fun σ H Q ⟨ρ, M, Q', rs, m, q, k⟩ => ⟨ρ, M, _, rs, m, q, fun v H1 d M1 f s q1 => by
    cases d with
    | int c => cases f; exact ⟨c, rfl, (k.after s).val s.mem (.int _) q1⟩
    | _ => exact q1.elim⟩
theorem de_if {t : Expr} (ht : DT X t tt) (ha : DE X a ta) (hb : DE X b tb) : DE X (.IfExp t a b pos) (dIf tt ta tb) :=
  pe_weak (pe_ifExp ht ha hb) fun σ H Q ⟨ρ, M, Q', rs, m, q, k⟩ => ⟨ρ, M, _, rs, m, q, fun c H1 M1 s q1 => by
    cases c with
    | true => exact iteT ⟨ρ, M1, Q', rs.up s.tups, s.mem, q1, k.after s⟩
    | false => exact iteF ⟨ρ, M1, Q', rs.up s.tups, s.mem, q1, k.after s⟩⟩
end
end DL

namespace DL
open PySem L2
open PyProof.Rows (b2i)

/-! ### arguments, displays -/
def dNil : TAD := fun _ M Q => Q [] M
def dCons (t : TED) (u : TAD) : TAD := fun ρ M Q => t ρ M fun d M1 => u ρ M1 fun ds M2 => Q (d :: ds) M2
def dTup (t : TAD) : TED := fun ρ M Q => t ρ M fun ds M1 => ds.length ≤ sizeLine ∧ Q (.tup ds) M1
def dLst (t : TAD) : TED := fun ρ M Q => t ρ M fun ds M1 => ds.length ≤ sizeLine ∧ ∀ p, M1 p = none → Q (.ref p) (updM M1 p (.lst ds))
section
variable {X : Cx} {e : Expr} {es : List Expr} {te : TED} {t : TAD} {pos : Pos}
theorem da_nil : DA X [] dNil := pa_weak pa_nil fun σ H Q ⟨ρ, M, Q', r, m, h, k⟩ => k [] H [] M .nil (.refl m) h
theorem da_cons (ha : DE X e te) (hr : DA X es t) (hs : starEach (e :: es) X.env = (false, eval e X.env) :: starEach es X.env := by rfl) : DA X (e :: es) (dCons te t) :=
  pa_weak (pa_cons ha hr hs) fun σ H Q ⟨ρ, M, Q', r, m, h, k⟩ => ⟨ρ, M, _, r, m, h, fun v H1 d M1 f s q => ⟨ρ, M1, _, r.up s.tups, s.mem, q, fun vs H2 ds M2 fs s2 q2 => k _ _ _ _ (.cons (f.up s2.tups) fs) (s.trans s2) q2⟩⟩
theorem de_tup {x1} (h : DA X es t) : DE X (.Tuple es x1 pos) (dTup t) :=
  pe_weak (pe_tupZ h) fun σ H Q ⟨ρ, M, Q', r, m, h, k⟩ => ⟨ρ, M, _, r, m, h, fun vs H1 ds M1 fs s q => ⟨by rw [fs.length]; exact q.1, fun p o hp ho => (k.after s).newTup s.mem fs q.2 hp ho⟩⟩
theorem de_lst (h : DA X es t) : DE X (.List es pos) (dLst t) :=
  pe_weak (pe_lst h) fun σ H Q ⟨ρ, M, Q', r, m, h, k⟩ => ⟨ρ, M, _, r, m, h, fun vs H1 ds M1 fs s q => ⟨by rw [fs.length]; exact q.1, fun p hp => (k.after s).newLst s.mem fs q.2 hp⟩⟩
end

/-! ### items, slices -/
theorem FzAll.atI {K : PySem.W.Frag} {H : Hp} {vs : List V} {ds : List D} {i : Int} {d : D} (f : FzAll K H vs ds) (h : L2.atI ds i = some d) : ∃ v, L2.atI vs i = some v ∧ Fz K H v d := by
  unfold L2.atI at h ⊢
  rw [f.length]
  cases e : ixN ds.length i with
  | none => rw [e] at h; cases h
  | some j =>
    rw [e] at h
    obtain ⟨v, q, g⟩ := f.get (show ds[j]? = some d from h)
    exact ⟨v, q, g⟩
def ixQ (o : Option D) (M : Mp) (Q : KD) : Prop := match o with
  | some d => Q d M
  | none => False
theorem ixQ_of {o : Option D} {d : D} {M : Mp} {Q : KD} (e : o = some d) (q : Q d M) : ixQ o M Q := by subst e; exact q
theorem ixQ_some {o : Option D} {M : Mp} {Q : KD} (q : ixQ o M Q) : ∃ d, o = some d ∧ Q d M := by
  cases o with
  | none => exact q.elim
  | some d => exact ⟨d, rfl, q⟩
def rIxX : R2D := fun x y M Q => match x, y with
  | .tup ds, .int i => ixQ (atI ds i) M Q
  | .fl ds, .int i => ixQ (atI ds i) M Q
  | .ref p, .int i => ∃ ds, M p = some (.lst ds) ∧ ixQ (atI ds i) M Q
  | .str z, .int i => z.length ≤ sizeLine ∧ ∃ c, atI z.cps.toList i = some c ∧ Q (.str ⟨#[c]⟩) M
  | _, _ => False
abbrev TOD := DSt → Mp → (Option Int → Mp → Prop) → Prop
def upO (K : PySem.W.Frag) (t : TOD) : TO := fun σ H Q => ∃ ρ M Q', RelS K H σ ρ ∧ MemOk K H M ∧ t ρ M Q' ∧ ∀ o H' M', Step K H M H' M' → Q' o M' → Q o H'
abbrev DO (X : Cx) (e : Option Expr) (t : TOD) : Prop := PO X e (upO X.K t)
def dNo : TOD := fun _ M Q => Q none M
def dPart (t : TED) : TOD := fun ρ M Q => t ρ M fun d M1 => match d with
  | .int i => Q (some i) M1
  | _ => False
def cutD (ds : List D) (lo hi : Option Int) : List D := (ds.drop (HT.sIx ds.length 0 lo)).take (HT.sIx ds.length ds.length hi - HT.sIx ds.length 0 lo)
theorem cut_fz {K : PySem.W.Frag} {H : Hp} {vs : List V} {ds : List D} (f : FzAll K H vs ds) (lo hi : Option Int) : FzAll K H (cutV vs lo hi) (cutD ds lo hi) := by
  unfold cutV cutD
  rw [f.length]
  exact (f.drop _).take _
theorem cut_whole (ds : List D) (lo hi : Option Int) (h : HT.sIx ds.length 0 lo = 0 ∧ HT.sIx ds.length ds.length hi = ds.length) : cutD ds lo hi = ds := by
  unfold cutD
  rw [h.1, h.2]
  simp
def rSlX (x : D) (lo hi : Option Int) (M : Mp) (Q : KD) : Prop := match x with
  | .tup ds => Q (.tup (cutD ds lo hi)) M
  | .fl ds => ∀ p, M p = none → Q (.ref p) (updM M p (.lst (cutD ds lo hi)))
  | .ref p => ∃ ds, M p = some (.lst ds) ∧ ∀ q, M q = none → Q (.ref q) (updM M q (.lst (cutD ds lo hi)))
  | _ => False
def dSl (te : TED) (lo hi : TOD) : TED := fun ρ M Q => te ρ M fun x M1 => lo ρ M1 fun l M2 => hi ρ M2 fun u M3 => rSlX x l u M3 Q
section
variable {X : Cx} {a b : Expr} {ta tb : TED} {pos p2 : Pos} {lo hi : Option Expr} {tl th : TOD}
theorem de_ix (ha : DE X a ta) (hb : DE X b tb) (hs : PlainIx b := by exact fun _ _ => rfl) : DE X (.Subscript a b pos) (dOp rIxX ta tb) := by
  refine pe_weak (pe_ix ix_seq ha hb hs) (up_op ?_)
  intro H M vx vy x y Q' Q fx fy m h k
  unfold rIxX at h
  split at h
  · obtain ⟨d, e, q⟩ := ixQ_some h
    cases fy
    cases fx with
    | tup hs f =>
      obtain ⟨v, h1, g⟩ := f.atI e
      exact .inr (.inl ⟨_, _, _, v, rfl, rfl, hs.t, h1, k.val m g q⟩)
  · obtain ⟨d, e, q⟩ := ixQ_some h
    cases fy
    cases fx with
    | fl hs f =>
      obtain ⟨v, h1, g⟩ := f.atI e
      exact .inl ⟨_, _, _, v, rfl, rfl, hs.sq, h1, k.val m g q⟩
  · obtain ⟨ds, hp, h⟩ := h
    obtain ⟨d, e, q⟩ := ixQ_some h
    cases fy; cases fx
    obtain ⟨xs, h0, f⟩ := m.lst hp
    obtain ⟨v, h1, g⟩ := f.atI e
    exact .inl ⟨_, _, _, v, rfl, rfl, .of h0, h1, k.val m g q⟩
  · obtain ⟨hz, c, e, q⟩ := h
    cases fy; cases fx
    exact .inr (.inr ⟨_, _, c, rfl, rfl, hz, e, k.val m (.str _) q⟩)
  · exact h.elim
theorem do_none : DO X none dNo := ⟨fun pins s σ H Q I h => po_none.run pins s σ H Q I (by
  obtain ⟨ρ, M, Q', r, m, q, k⟩ := h
  exact k none H M (.refl m) q)⟩
theorem do_some (h : DE X a ta) : DO X (some a) (dPart ta) := ⟨fun pins s σ H Q I hq => (po_some h).run pins s σ H Q I (by
  obtain ⟨ρ, M, Q', r, m, q, k⟩ := hq
  refine ⟨ρ, M, _, r, m, q, fun v H1 d M1 f s q1 => ?_⟩
  cases d with
  | int i => cases f; exact ⟨i, rfl, k _ _ _ s q1⟩
  | _ => exact q1.elim)⟩
theorem de_sl (ha : DE X a ta) (hl : DO X lo tl) (hu : DO X hi th) : DE X (.Subscript a (.Slice lo hi none p2) pos) (dSl ta tl th) := by
  refine pe_weak (pe_slice (sl_list.or sl_tupZ) ha hl hu) fun σ H Q ⟨ρ, M, Q', r, m, h, k⟩ => ?_
  refine ⟨ρ, M, _, r, m, h, fun v H1 x M1 f s q => ⟨ρ, M1, _, r.up s.tups, s.mem, q, fun l H2 M2 s2 q2 => ⟨ρ, M2, _, (r.up s.tups).up s2.tups, s2.mem, q2, fun u H3 M3 s3 q3 => ?_⟩⟩⟩
  have k3 := ((k.after s).after s2).after s3
  have f3 := (f.up s2.tups).up s3.tups
  unfold rSlX at q3
  split at q3
  · cases f3 with
    | tup hs fs =>
      refine .inr ⟨_, _, rfl, hs.t, fun e => ?_, fun e p o hp ho => k3.newTup s3.mem (cut_fz fs l u) q3 hp ho⟩
      rw [fs.length] at e
      rw [cut_whole _ _ _ e] at q3
      exact k3.val s3.mem (.tup hs fs) q3
  · cases f3 with
    | fl hs fs => exact .inl ⟨_, _, rfl, hs.sq, fun p hp => k3.newLst s3.mem (cut_fz fs l u) q3 hp⟩
  · obtain ⟨ds, hp, q⟩ := q3
    cases f3
    obtain ⟨xs, h0, fs⟩ := s3.mem.lst hp
    exact .inl ⟨_, _, rfl, .of h0, fun p hp => k3.newLst s3.mem (cut_fz fs l u) q hp⟩
  · exact q3.elim
end

/-! ### calls of what is built in -/
abbrev RCD := List D → Mp → KD → Prop
def CLe (K : PySem.W.Frag) (r : List V → Hp → VK → Prop) (rd : RCD) : Prop := ∀ H M vs ds Q' Q, FzAll K H vs ds → MemOk K H M → rd ds M Q' → KLe K H M Q' Q → r vs H Q
def CaR (X : Cx) (f : Value) (rd : RCD) : Prop := ∃ r, CallR X f r ∧ CLe X.K r rd
def dCB (r : RCD) (t : TAD) : TED := fun ρ M Q => t ρ M fun ds M1 => r ds M1 Q
section
variable {X : Cx} {x : Str} {p pos : Pos} {e : Expr} {es : List Expr} {t : TAD} {id T : String} {r : RCD}
theorem up_cb {K : PySem.W.Frag} {r0 : List V → Hp → VK → Prop} (l : CLe K r0 r) (σ : St) (H : Hp) (Q : VK) (h : upE K (dCB r t) σ H Q) : tCB r0 (upA K t) σ H Q := by
  obtain ⟨ρ, M, Q', rs, m, h, k⟩ := h
  exact ⟨ρ, M, _, rs, m, h, fun vs H1 ds M1 fs s q => l H1 M1 vs ds Q' Q fs s.mem q (k.after s)⟩
theorem de_cb (hc : CaR X (.builtin id) r) (hg : Gl X x) (hm : X.mg x = none) (hv : bootBuiltins x = some (.builtin id)) (ha : DA X (e :: es) t) (hn : x ≠ "__name__" := by decide) (hdb : (x == ("__debug__" : Str)) = false := by decide)
    (he : starEach (e :: es) X.env = (false, eval e X.env) :: starEach es X.env := by rfl) (hpl : (backTo pos (starEach es X.env)).any (·.1) = false := by rfl) : DE X (.Call (.Name x p) (e :: es) [] pos) (dCB r t) := by
  obtain ⟨r0, hc, l⟩ := hc
  exact pe_weak (pe_callB hc hg hm hv ha hn hdb he hpl) (up_cb l)
theorem de_ct (hc : CaR X (.type T) r) (hg : Gl X x) (hm : X.mg x = none) (hv : bootBuiltins x = some (.type T)) (ha : DA X (e :: es) t) (hn : x ≠ "__name__" := by decide) (hdb : (x == ("__debug__" : Str)) = false := by decide)
    (he : starEach (e :: es) X.env = (false, eval e X.env) :: starEach es X.env := by rfl) (hpl : (backTo pos (starEach es X.env)).any (·.1) = false := by rfl) : DE X (.Call (.Name x p) (e :: es) [] pos) (dCB r t) := by
  obtain ⟨r0, hc, l⟩ := hc
  exact pe_weak (pe_callTy hc hg hm hv ha hn hdb he hpl) (up_cb l)
/-- len -/
def rLenX : RCD := fun ds M Q => match ds with
  | [.tup xs] => Q (.int xs.length) M
  | [.fl xs] => Q (.int xs.length) M
  | [.str z] => z.length ≤ sizeLine ∧ Q (.int z.length) M
  | [.ref p] => ∃ xs, M p = some (.lst xs) ∧ Q (.int xs.length) M
  | _ => False
theorem ca_len : CaR X (.builtin "len") rLenX := by
  refine ⟨_, call_len, ?_⟩
  intro H M vs ds Q' Q fs m h k
  unfold rLenX at h
  split at h
  · cases fs with
    | cons f t =>
      cases t
      cases f with
      | tup hs f => exact ⟨_, _, rfl, .inr ⟨_, hs.t, f.length.symm⟩, k.val m (.int _) h⟩
  · cases fs with
    | cons f t =>
      cases t
      cases f with
      | fl hs f => exact ⟨_, _, rfl, .inl ⟨_, hs.sq, f.length.symm⟩, k.val m (.int _) h⟩
  · cases fs with
    | cons f t =>
      cases t
      cases f
      exact ⟨_, _, rfl, ⟨h.1, rfl⟩, k.val m (.int _) h.2⟩
  · obtain ⟨xs, hp, q⟩ := h
    cases fs with
    | cons f t =>
      cases t
      cases f
      obtain ⟨ys, h0, f⟩ := m.lst hp
      exact ⟨_, _, rfl, .inl ⟨_, .of h0, f.length.symm⟩, k.val m (.int _) q⟩
  · exact h.elim
/-- list(xs), tuple(xs) -/
def rListX : RCD := fun ds M Q => match ds with
  | [.tup xs] => ∀ p, M p = none → Q (.ref p) (updM M p (.lst xs))
  | [.fl xs] => ∀ p, M p = none → Q (.ref p) (updM M p (.lst xs))
  | [.ref p] => ∃ xs, M p = some (.lst xs) ∧ ∀ q, M q = none → Q (.ref q) (updM M q (.lst xs))
  | _ => False
theorem ca_list : CaR X (.type "list") rListX := by
  refine ⟨_, call_list_of, ?_⟩
  intro H M vs ds Q' Q fs m h k
  unfold rListX at h
  split at h
  · cases fs with
    | cons f t =>
      cases t
      cases f with
      | tup hs f => exact ⟨_, _, rfl, .inr hs.t, fun p hp => k.newLst m f h hp⟩
  · cases fs with
    | cons f t =>
      cases t
      cases f with
      | fl hs f => exact ⟨_, _, rfl, .inl hs.sq, fun p hp => k.newLst m f h hp⟩
  · obtain ⟨xs, hp, q⟩ := h
    cases fs with
    | cons f t =>
      cases t
      cases f
      obtain ⟨ys, h0, f⟩ := m.lst hp
      exact ⟨_, _, rfl, .inl (.of h0), fun p hp => k.newLst m f q hp⟩
  · exact h.elim
def rTupX : RCD := fun ds M Q => match ds with
  | [.tup xs] => Q (.tup xs) M
  | [.fl xs] => Q (.tup xs) M
  | [.ref p] => ∃ xs, M p = some (.lst xs) ∧ Q (.tup xs) M
  | _ => False
theorem ca_tuple : CaR X (.type "tuple") rTupX := by
  refine ⟨_, call_tupleZ, ?_⟩
  intro H M vs ds Q' Q fs m h k
  unfold rTupX at h
  split at h
  · cases fs with
    | cons f t =>
      cases t
      cases f with
      | tup hs f => exact ⟨_, _, rfl, .inr ⟨hs.t, k.val m (.tup hs f) h⟩⟩
  · cases fs with
    | cons f t =>
      cases t
      cases f with
      | fl hs f => exact ⟨_, _, rfl, .inl ⟨hs.sq, fun p o hp ho => k.newTup m f h hp ho⟩⟩
  · obtain ⟨xs, hp, q⟩ := h
    cases fs with
    | cons f t =>
      cases t
      cases f
      obtain ⟨ys, h0, f⟩ := m.lst hp
      exact ⟨_, _, rfl, .inl ⟨.of h0, fun p o hp ho => k.newTup m f q hp ho⟩⟩
  · exact h.elim
/-- abs, int, max, min of two ints -/
def rAbsX : RCD := fun ds M Q => match ds with
  | [.int i] => Q (.int (if i < 0 then -i else i)) M
  | _ => False
theorem ca_abs : CaR X (.builtin "abs") rAbsX := by
  refine ⟨_, call_abs, ?_⟩
  intro H M vs ds Q' Q fs m h k
  unfold rAbsX at h
  split at h
  · cases fs with
    | cons f t =>
      cases t
      cases f
      exact ⟨_, rfl, k.val m (.int _) h⟩
  · exact h.elim
def rIntX : RCD := fun ds M Q => match ds with
  | [.int i] => Q (.int i) M
  | [.bl b] => Q (.int (b2i b)) M
  | _ => False
theorem ca_int : CaR X (.type "int") rIntX := by
  refine ⟨_, call_int1, ?_⟩
  intro H M vs ds Q' Q fs m h k
  unfold rIntX at h
  split at h
  · cases fs with
    | cons f t =>
      cases t
      cases f
      exact .inl ⟨_, rfl, k.val m (.int _) h⟩
  · rename_i b
    cases fs with
    | cons f t =>
      cases t
      cases f
      refine .inr ⟨b, rfl, ?_⟩
      cases b <;> exact k.val m (.int _) h
  · exact h.elim
def rMaxX : RCD := fun ds M Q => match ds with
  | [.int i, .int j] => Q (.int (if j > i then j else i)) M
  | _ => False
theorem ca_max2 (hc : X.calm = true) : CaR X (.builtin "max") rMaxX := by
  refine ⟨_, call_max2 hc, ?_⟩
  intro H M vs ds Q' Q fs m h k
  unfold rMaxX at h
  split at h
  · cases fs with
    | cons f t =>
      cases t with
      | cons f2 t =>
        cases t
        cases f
        cases f2
        exact ⟨_, _, rfl, k.val m (.int _) h⟩
  · exact h.elim
def rMinX : RCD := fun ds M Q => match ds with
  | [.int i, .int j] => Q (.int (if j < i then j else i)) M
  | _ => False
theorem ca_min2 (hc : X.calm = true) : CaR X (.builtin "min") rMinX := by
  refine ⟨_, call_min2 hc, ?_⟩
  intro H M vs ds Q' Q fs m h k
  unfold rMinX at h
  split at h
  · cases fs with
    | cons f t =>
      cases t with
      | cons f2 t =>
        cases t
        cases f
        cases f2
        exact ⟨_, _, rfl, k.val m (.int _) h⟩
  · exact h.elim
/-- any, all over a list of bools -/
def rAnyX : RCD := fun ds M Q => match ds with
  | [.ref p] => ∃ bs : List Bool, M p = some (.lst (bs.map D.bl)) ∧ Q (.bl (bs.any fun b => b)) M
  | _ => False
def rAllX : RCD := fun ds M Q => match ds with
  | [.ref p] => ∃ bs : List Bool, M p = some (.lst (bs.map D.bl)) ∧ Q (.bl (bs.all fun b => b)) M
  | _ => False
theorem ca_any (hc : X.calm = true) : CaR X (.builtin "any") rAnyX := by
  refine ⟨_, cr_any hc, ?_⟩
  intro H M vs ds Q' Q fs m h k
  unfold rAnyX at h
  split at h
  · obtain ⟨bs, hp, q⟩ := h
    cases fs with
    | cons f t =>
      cases t
      cases f
      obtain ⟨ys, h0, f⟩ := m.lst hp
      rw [f.bls] at h0
      exact ⟨_, bs, rfl, .of h0, k.val m (.bl _) q⟩
  · exact h.elim
theorem ca_all (hc : X.calm = true) : CaR X (.builtin "all") rAllX := by
  refine ⟨_, cr_all hc, ?_⟩
  intro H M vs ds Q' Q fs m h k
  unfold rAllX at h
  split at h
  · obtain ⟨bs, hp, q⟩ := h
    cases fs with
    | cons f t =>
      cases t
      cases f
      obtain ⟨ys, h0, f⟩ := m.lst hp
      rw [f.bls] at h0
      exact ⟨_, bs, rfl, .of h0, k.val m (.bl _) q⟩
  · exact h.elim
/-- isinstance(x, T), T a built-in type -/
inductive Tg | none | bool | int | str | tuple | list | dict
  deriving DecidableEq
def Tg.nm : Tg → String
  | .none => "NoneType" | .bool => "bool" | .int => "int" | .str => "str" | .tuple => "tuple" | .list => "list" | .dict => "dict"
def isI : Tg → Tg → Bool
  | .none, .none => true | .bool, .bool => true | .bool, .int => true | .int, .int => true | .str, .str => true | .tuple, .tuple => true | .list, .list => true | .dict, .dict => true
  | _, _ => false
def MO.tg : MO → Option Tg
  | .lst _ => some .list
  | .dct _ => some .dict
  | .dctT _ => some .dict
  | _ => Option.none
def rIsX (T : Tg) (d : D) (M : Mp) (Q : KD) : Prop := match d with
  | .non => Q (.bl (isI .none T)) M
  | .bl _ => Q (.bl (isI .bool T)) M
  | .int _ => Q (.bl (isI .int T)) M
  | .str _ => Q (.bl (isI .str T)) M
  | .tup _ => Q (.bl (isI .tuple T)) M
  | .fl _ => Q (.bl (isI .list T)) M
  | .ref p => ∃ o t, M p = some o ∧ o.tg = some t ∧ Q (.bl (isI t T)) M
  | _ => False
theorem tyx_of {K : PySem.W.Frag} {H : Hp} {M : Mp} {p : Addr} {o : MO} {t : Tg} (m : MemOk K H M) (h : M p = some o) (ht : o.tg = some t) : TyX K H (.ref p) (.type t.nm) := by
  obtain ⟨u, e, z⟩ := m p o h
  cases o with
  | lst ds => cases ht; obtain ⟨xs, rfl, _⟩ := z; exact .base (.lst e)
  | dct ds => cases ht; obtain ⟨xs, rfl, _⟩ := z; exact .base (.dK e)
  | dctT ds => cases ht; obtain ⟨xs, rfl, _⟩ := z; exact .base (.dT e)
  | _ => cases ht
theorem tyx_tup {K : PySem.W.Frag} {H : Hp} {p : Addr} {xs : List V} (h : SqT K H p xs) : TyX K H (.ref p) (.type "tuple") := by
  rcases h with (h | ⟨o, h⟩) | ⟨o, _, _, h, c, _⟩
  · exact .base (.tup h)
  · exact .fTuple h
  · exact .kTuple h c
theorem tyx_fl {K : PySem.W.Frag} {H : Hp} {p : Addr} {xs : List V} (h : Fro K H p xs) : TyX K H (.ref p) (.type "list") := by
  rcases h with ⟨o, h⟩ | ⟨o, _, _, h, c, _⟩
  · exact .base (.frz h)
  · exact .kList h c
def dIsi (T : Tg) (t : TED) : TED := fun ρ M Q => t ρ M fun d M1 => rIsX T d M1 Q
/-- isinstance(a, T): hk, hv by decide +kernel -/
theorem de_isi {a : Expr} {ta : TED} {y : Str} {p2 : Pos} (T : Tg) (hk : ∀ t : Tg, kitB t.nm T.nm = some (isI t T)) (hg : Gl X "isinstance") (hm : X.mg "isinstance" = none) (hv : bootBuiltins "isinstance" = some (.builtin "isinstance")) (ha : DE X a ta)
    (hg2 : Gl X y) (hm2 : X.mg y = none) (hv2 : bootBuiltins y = some (.type T.nm)) (hn2 : y ≠ "__name__" := by decide) (hd2 : (y == ("__debug__" : Str)) = false := by decide)
    (he : starEach [a, .Name y p2] X.env = (false, eval a X.env) :: starEach [.Name y p2] X.env := by rfl) (he2 : starEach [.Name y p2] X.env = [(false, eval (.Name y p2) X.env)] := by rfl) (hpl : (backTo pos (starEach [.Name y p2] X.env)).any (·.1) = false := by rfl) :
    DE X (.Call (.Name "isinstance" p) [a, .Name y p2] [] pos) (dIsi T ta) := by
  refine pe_weak (pe_callB call_isi hg hm hv (pa_cons ha (pa_cons (pe_bltn (v := .ty T.nm) hg2 hm2 hv2 rfl hn2 hd2) pa_nil he2) he) (he := he) (hpl := hpl)) fun σ H Q ⟨ρ, M, Q', rs, m, h, k⟩ => ?_
  refine ⟨ρ, M, _, rs, m, h, fun v H1 d M1 f s q => ?_⟩
  have fin : ∀ {tt : Tg}, TyX X.K H1 v (.type tt.nm) → Q' (.bl (isI tt T)) M1 → rIsi X.K [v, .ty T.nm] H1 Q := fun {tt} ty q => ⟨v, .ty T.nm, .type tt.nm, .type T.nm, _, rfl, .ty _, ty, kit_ty (hk tt), (k.after s).val s.mem (.bl _) q⟩
  show rIsi X.K [v, .ty T.nm] H1 Q
  cases d with
  | non => cases f; exact fin (tt := .none) (.base .non) q
  | bl b => cases f; exact fin (tt := .bool) (.base (.bl _)) q
  | int b => cases f; exact fin (tt := .int) (.base (.int _)) q
  | str b => cases f; exact fin (tt := .str) (.base (.str _)) q
  | tup b => cases f with | tup hs _ => exact fin (tt := .tuple) (tyx_tup hs.t) q
  | fl b => cases f with | fl hs _ => exact fin (tt := .list) (tyx_fl hs) q
  | ref p =>
    cases f
    obtain ⟨o, tt, hp, ht, q⟩ := q
    exact fin (tt := tt) (tyx_of s.mem hp ht) q
  | ty n => exact q.elim
  | pr n => exact q.elim
end
end DL

namespace DL
open PySem L2
open PyProof.Rows (b2i)

/-! ### methods of lists -/
abbrev RMD := D → List D → Mp → KD → Prop
def MLe (K : PySem.W.Frag) (r : V → List V → Hp → VK → Prop) (rd : RMD) : Prop := ∀ H M v vs d ds Q' Q, Fz K H v d → FzAll K H vs ds → MemOk K H M → rd d ds M Q' → KLe K H M Q' Q → r v vs H Q
def MR (X : Cx) (id : String) (rd : RMD) : Prop := ∃ r, MtR X id r ∧ MLe X.K r rd
def isL (d : D) (M : Mp) : Prop := match d with
  | .ref p => ∃ ds, M p = some (.lst ds)
  | .fl _ => True
  | _ => False
def dML (r : RMD) (to : TED) (t : TAD) : TED := fun ρ M Q => to ρ M fun d M1 => isL d M1 ∧ t ρ M1 fun ds M2 => r d ds M2 Q
section
variable {X : Cx} {o e : Expr} {es : List Expr} {to : TED} {t : TAD} {name : Str} {apos cpos : Pos} {id : String} {r : RMD}
theorem tyV_isL {K : PySem.W.Frag} {H : Hp} {M : Mp} {v : V} {d : D} (f : Fz K H v d) (m : MemOk K H M) (h : isL d M) : tyV K "list" v H := by
  cases d with
  | ref p =>
    cases f
    obtain ⟨ds, h⟩ := h
    obtain ⟨xs, e, _⟩ := m.lst h
    exact .inl ⟨rfl, xs, .of e⟩
  | fl ds =>
    cases f with
    | fl hs _ => exact .inl ⟨rfl, _, hs.sq⟩
  | _ => exact h.elim
theorem de_ml (slot : Slot "list" name id) (hty : typeOf (.builtin id) = pure (.type "method_descriptor")) (hm : MR X id r) (ho : DE X o to) (ha : DA X (e :: es) t)
    (hbase : attributeBase o name X.env (eval o X.env) = eval o X.env := by rfl)
    (hfew : ((backTo cpos (starEach (e :: es) X.env)).all (fun x => !x.1) && (backToKw cpos (keywordEach [] X.env)).all (fun x => x.1.isSome)
      && decide ((e :: es).length + ([] : List Keyword).length + (if ([] : List Keyword).isEmpty then 0 else 1) < 30)) = true := by rfl)
    (hline : (apos.endLine == cpos.line) = true := by rfl) (hs : starEach (e :: es) X.env = (false, eval e X.env) :: starEach es X.env := by rfl) (hplain : (backTo cpos (starEach es X.env)).any (·.1) = false := by rfl) :
    DE X (.Call (.Attribute o name apos) (e :: es) [] cpos) (dML r to t) := by
  obtain ⟨r0, hm, l⟩ := hm
  refine pe_weak (pe_bm PySem.F.plainAttrs_list slot hty hm ho ha hbase hfew hline hs hplain) fun σ H Q ⟨ρ, M, Q', rs, m, h, k⟩ => ?_
  refine ⟨ρ, M, _, rs, m, h, fun v H1 d M1 f s q => ⟨tyV_isL f s.mem q.1, ρ, M1, _, rs.up s.tups, s.mem, q.2, fun vs H2 ds M2 fs s2 q2 => ?_⟩⟩
  exact l H2 M2 v vs d ds Q' Q (f.up s2.tups) fs s2.mem q2 ((k.after s).after s2)
theorem de_ml0 (slot : Slot "list" name id) (hty : typeOf (.builtin id) = pure (.type "method_descriptor")) (hm : MR X id r) (ho : DE X o to)
    (hbase : attributeBase o name X.env (eval o X.env) = eval o X.env := by rfl) (hline : (apos.endLine == cpos.line) = true := by rfl) : DE X (.Call (.Attribute o name apos) [] [] cpos) (dML r to dNil) := by
  obtain ⟨r0, hm, l⟩ := hm
  refine pe_weak (pe_bm0 PySem.F.plainAttrs_list slot hty hm ho hbase hline) fun σ H Q ⟨ρ, M, Q', rs, m, h, k⟩ => ?_
  exact ⟨ρ, M, _, rs, m, h, fun v H1 d M1 f s q => ⟨tyV_isL f s.mem q.1, l H1 M1 v [] d [] Q' Q f .nil s.mem q.2 (k.after s)⟩⟩
def rAppX : RMD := fun d ds M Q => match d, ds with
  | .ref p, [y] => ∃ xs, M p = some (.lst xs) ∧ xs.length < sizeLine ∧ Q .non (updM M p (.lst (xs ++ [y])))
  | _, _ => False
theorem mr_append : MR X "list.append" rAppX := by
  refine ⟨_, mt_append, ?_⟩
  intro H M v vs d ds Q' Q f fs m h k
  unfold rAppX at h
  split at h
  · obtain ⟨xs, hp, hz, q⟩ := h
    cases f
    cases fs with
    | cons f1 t =>
      cases t
      obtain ⟨ys, h0, g⟩ := m.lst hp
      exact ⟨_, ys, _, rfl, rfl, h0, by rw [g.length]; exact hz, k.wrLst m hp (g.append (.cons f1 .nil)) (fun _ => .non) q⟩
  · exact h.elim
def rExtX : RMD := fun d ds M Q => match d, ds with
  | .ref p, [.ref q] => ∃ xs ys, M p = some (.lst xs) ∧ M q = some (.lst ys) ∧ xs.length + ys.length ≤ sizeLine ∧ Q .non (updM M p (.lst (xs ++ ys)))
  | _, _ => False
theorem mr_extend : MR X "list.extend" rExtX := by
  refine ⟨_, mt_extend, ?_⟩
  intro H M v vs d ds Q' Q f fs m h k
  unfold rExtX at h
  split at h
  · obtain ⟨xs, ys, hp, hq, hz, q⟩ := h
    cases f
    cases fs with
    | cons f1 t =>
      cases t
      cases f1
      obtain ⟨as, h0, g⟩ := m.lst hp
      obtain ⟨bs, h1, g1⟩ := m.lst hq
      exact ⟨_, _, as, bs, rfl, rfl, h0, h1, by rw [g.length, g1.length]; exact hz, k.wrLst m hp (g.append g1) (fun _ => .non) q⟩
  · exact h.elim
theorem FzAll.dropLast {K : PySem.W.Frag} {H : Hp} {xs : List V} {as : List D} (f : FzAll K H xs as) : FzAll K H xs.dropLast as.dropLast := by
  rw [List.dropLast_eq_take, List.dropLast_eq_take, f.length]
  exact f.take _
def rPopX : RMD := fun d ds M Q => match d, ds with
  | .ref p, [] => ∃ xs y, M p = some (.lst xs) ∧ xs[xs.length - 1]? = some y ∧ Q y (updM M p (.lst xs.dropLast))
  | _, _ => False
theorem mr_pop : MR X "list.pop" rPopX := by
  refine ⟨_, mt_pop, ?_⟩
  intro H M v vs d ds Q' Q f fs m h k
  unfold rPopX at h
  split at h
  · obtain ⟨xs, y, hp, hy, q⟩ := h
    cases f
    cases fs
    obtain ⟨ys, h0, g⟩ := m.lst hp
    obtain ⟨v, h1, f1⟩ := g.get hy
    rw [← g.length] at h1
    refine ⟨_, ys, v, rfl, rfl, h0, h1, ?_⟩
    refine k _ _ y _ ?_ (.wr m hp (fun z => by cases z) (show MoOk X.K H (.lst ys.dropLast) (.lst xs.dropLast) from ⟨_, rfl, g.dropLast⟩)) q
    exact f1.up (Step.wr m hp (fun z => by cases z) (show MoOk X.K H (.lst ys.dropLast) (.lst xs.dropLast) from ⟨_, rfl, g.dropLast⟩)).tups
  · exact h.elim
def rPopAtX : RMD := fun d ds M Q => match d, ds with
  | .ref p, [.int i] => -(2 ^ 63) ≤ i ∧ i < 2 ^ 63 ∧ ∃ xs k y, M p = some (.lst xs) ∧ seqIndex? i xs.length = some k ∧ xs[k]? = some y ∧ Q y (updM M p (.lst (xs.eraseIdx k)))
  | _, _ => False
theorem mr_popAt : MR X "list.pop" rPopAtX := by
  refine ⟨_, mt_popAt, ?_⟩
  intro H M v vs d ds Q' Q f fs m h k
  unfold rPopAtX at h
  split at h
  · obtain ⟨b1, b2, xs, j, y, hp, hj, hy, q⟩ := h
    cases f
    cases fs with
    | cons f1 t =>
      cases t
      cases f1
      obtain ⟨ys, h0, g⟩ := m.lst hp
      obtain ⟨v, h1, f1⟩ := g.get hy
      refine ⟨_, ys, _, j, v, rfl, rfl, h0, b1, b2, by rw [g.length]; exact hj, h1, ?_⟩
      refine k _ _ y _ ?_ (.wr m hp (fun z => by cases z) (show MoOk X.K H (.lst (ys.eraseIdx j)) (.lst (xs.eraseIdx j)) from ⟨_, rfl, g.eraseIdx j⟩)) q
      exact f1.up (Step.wr m hp (fun z => by cases z) (show MoOk X.K H (.lst (ys.eraseIdx j)) (.lst (xs.eraseIdx j)) from ⟨_, rfl, g.eraseIdx j⟩)).tups
  · exact h.elim
/-- index of flat things, the first place -/
def rIdxX : RMD := fun d ds M Q => match ds with
  | [y] => ∃ ys j z, ((∃ p, d = .ref p ∧ M p = some (.lst ys)) ∨ d = .fl ys) ∧ flatD y = true ∧ ys.all flatD = true ∧ ys[j]? = some z ∧ eqF z y = true ∧ (∀ (n : Nat) (z' : D), n < j → ys[n]? = some z' → eqF z' y = false) ∧ Q (.int (j : Nat)) M
  | _ => False
theorem mr_index : MR X "list.index" rIdxX := by
  refine ⟨_, L2.mt_index, ?_⟩
  intro H M v vs d ds Q' Q f fs m h k
  unfold rIdxX at h
  split at h
  · rename_i y
    obtain ⟨ys, j, z, hd, fy, fys, hj, ez, no, q⟩ := h
    cases fs with
    | cons f1 t =>
      cases t
      obtain ⟨a, xs, rfl, hs, g⟩ : ∃ a xs, v = .ref a ∧ SqL X.K H a xs ∧ FzAll X.K H xs ys := by
        rcases hd with ⟨p, rfl, hp⟩ | rfl
        · cases f
          obtain ⟨xs, e, g⟩ := m.lst hp
          exact ⟨p, xs, rfl, .of e, g⟩
        · cases f with
          | fl hs g => exact ⟨_, _, rfl, hs.sq, g⟩
      obtain ⟨w, hw, fw⟩ := g.get hj
      have fz : ∀ {z'}, z' ∈ ys → flatD z' = true := fun hm => List.all_eq_true.mp fys _ hm
      refine ⟨a, xs, _, j, w, rfl, rfl, hs, flat_of f1 fy, flats_of g fys, hw, by rw [eqF_of fw f1 (fz (List.mem_of_getElem? hj)) fy]; exact ez, fun n w' hn hw' => ?_, k.val m (.int _) q⟩
      obtain ⟨z', hz', fz'⟩ := g.getV hw'
      rw [eqF_of fz' f1 (fz (List.mem_of_getElem? hz')) fy]
      exact no n z' hn hz'
  · exact h.elim
/-- remove, count: whole numbers -/
def rRemX : RMD := fun d ds M Q => match d, ds with
  | .ref p, [.int i] => ∃ ns : List Int, ∃ j : Nat, M p = some (.lst (ns.map D.int)) ∧ ns[j]? = some i ∧ (∀ n : Nat, n < j → ns[n]? ≠ some i) ∧ Q .non (updM M p (.lst ((ns.eraseIdx j).map D.int)))
  | _, _ => False
theorem mr_remove : MR X "list.remove" rRemX := by
  refine ⟨_, mt_remove, ?_⟩
  intro H M v vs d ds Q' Q f fs m h k
  unfold rRemX at h
  split at h
  · obtain ⟨ns, j, hp, hj, no, q⟩ := h
    cases f
    cases fs with
    | cons f1 t =>
      cases t
      cases f1
      obtain ⟨ys, h0, g⟩ := m.lst hp
      rw [g.ints] at h0
      exact ⟨_, ns, _, j, rfl, rfl, h0, hj, no, k.wrLst m hp FzAll.of_ints (fun _ => .non) q⟩
  · exact h.elim
def rCntX : RMD := fun d ds M Q => match d, ds with
  | .ref p, [.int i] => ∃ ns : List Int, M p = some (.lst (ns.map D.int)) ∧ Q (.int (ns.count i : Nat)) M
  | _, _ => False
theorem mr_count : MR X "list.count" rCntX := by
  refine ⟨_, mt_lcount, ?_⟩
  intro H M v vs d ds Q' Q f fs m h k
  unfold rCntX at h
  split at h
  · obtain ⟨ns, hp, q⟩ := h
    cases f
    cases fs with
    | cons f1 t =>
      cases t
      cases f1
      obtain ⟨ys, h0, g⟩ := m.lst hp
      rw [g.ints] at h0
      exact ⟨_, ns, _, rfl, rfl, .of h0, k.val m (.int _) q⟩
  · exact h.elim
end
/-! ### methods of tuples -/
def dTM (r : RMD) (to : TED) (t : TAD) : TED := fun ρ M Q => to ρ M fun d M1 => (∃ zs, d = .tup zs) ∧ t ρ M1 fun ds M2 => r d ds M2 Q
def rTIdx : RMD := fun d ds M Q => match ds with
  | [.int i] => ∃ ns : List Int, d = .tup (ns.map D.int) ∧ i ∈ ns ∧ Q (.int (ns.idxOf i : Nat)) M
  | _ => False
def rTCnt : RMD := fun d ds M Q => match ds with
  | [.int i] => ∃ ns : List Int, d = .tup (ns.map D.int) ∧ Q (.int (ns.count i : Nat)) M
  | _ => False
section
variable {X : Cx} {o e : Expr} {es : List Expr} {to : TED} {t : TAD} {name : Str} {apos cpos : Pos} {id : String} {r : RMD}
theorem mr_tindex : MR X "tuple.index" rTIdx := by
  refine ⟨_, mt_tindex, ?_⟩
  intro H M v vs d ds Q' Q f fs m h k
  unfold rTIdx at h
  split at h
  · obtain ⟨ns, rfl, hi, q⟩ := h
    cases fs with
    | cons f1 t =>
      cases t
      cases f1
      cases f with
      | tup hs g => exact ⟨_, ns, _, rfl, rfl, by rw [← g.ints]; exact hs.t, hi, k.val m (.int _) q⟩
  · exact h.elim
theorem mr_tcount : MR X "tuple.count" rTCnt := by
  refine ⟨_, mt_tcount, ?_⟩
  intro H M v vs d ds Q' Q f fs m h k
  unfold rTCnt at h
  split at h
  · obtain ⟨ns, rfl, q⟩ := h
    cases fs with
    | cons f1 t =>
      cases t
      cases f1
      cases f with
      | tup hs g => exact ⟨_, ns, _, rfl, rfl, by rw [← g.ints]; exact hs.t, k.val m (.int _) q⟩
  · exact h.elim
theorem de_tm (slot : Slot "tuple" name id) (hty : typeOf (.builtin id) = pure (.type "method_descriptor")) (hm : MR X id r) (ho : DE X o to) (ha : DA X (e :: es) t)
    (hbase : attributeBase o name X.env (eval o X.env) = eval o X.env := by rfl)
    (hfew : ((backTo cpos (starEach (e :: es) X.env)).all (fun x => !x.1) && (backToKw cpos (keywordEach [] X.env)).all (fun x => x.1.isSome)
      && decide ((e :: es).length + ([] : List Keyword).length + (if ([] : List Keyword).isEmpty then 0 else 1) < 30)) = true := by rfl)
    (hline : (apos.endLine == cpos.line) = true := by rfl) (hs : starEach (e :: es) X.env = (false, eval e X.env) :: starEach es X.env := by rfl) (hplain : (backTo cpos (starEach es X.env)).any (·.1) = false := by rfl) :
    DE X (.Call (.Attribute o name apos) (e :: es) [] cpos) (dTM r to t) := by
  obtain ⟨r0, hm, l⟩ := hm
  refine pe_weak (pe_tm slot hty hm ho ha hbase hfew hline hs hplain) fun σ H Q ⟨ρ, M, Q', rs, m, h, k⟩ => ?_
  refine ⟨ρ, M, _, rs, m, h, fun v H1 d M1 f s q => ?_⟩
  obtain ⟨⟨zs, rfl⟩, q⟩ := q
  refine ⟨?_, ρ, M1, _, rs.up s.tups, s.mem, q, fun vs H2 ds M2 fs s2 q2 => ?_⟩
  · cases f with
    | tup hs _ => exact ⟨_, _, rfl, hs⟩
  · exact l H2 M2 v vs (.tup zs) ds Q' Q (f.up s2.tups) fs s2.mem q2 ((k.after s).after s2)
end

/-! ### targets -/
abbrev TGD := D → DSt → Mp → (DSt → Mp → Prop) → Prop
abbrev TGsD := List D → DSt → Mp → (DSt → Mp → Prop) → Prop
def SLe (K : PySem.W.Frag) (H : Hp) (M : Mp) (Q' : DSt → Mp → Prop) (Q : St → Hp → Prop) : Prop := ∀ σ' ρ' H' M', RelS K H' σ' ρ' → Step K H M H' M' → Q' ρ' M' → Q σ' H'
def upG (K : PySem.W.Frag) (g : TGD) : TG := fun v σ H Q => ∃ d ρ M Q', Fz K H v d ∧ RelS K H σ ρ ∧ MemOk K H M ∧ g d ρ M Q' ∧ SLe K H M Q' Q
def upGs (K : PySem.W.Frag) (g : TGsD) : TGs := fun vs σ H Q => ∃ ds ρ M Q', FzAll K H vs ds ∧ RelS K H σ ρ ∧ MemOk K H M ∧ g ds ρ M Q' ∧ SLe K H M Q' Q
abbrev DG (X : Cx) (tg : Expr) (g : TGD) : Prop := PG X tg (upG X.K g)
abbrev DGs (X : Cx) (tg : List Expr) (g : TGsD) : Prop := PGs X tg (upGs X.K g)
theorem SLe.after {K : PySem.W.Frag} {H H1 : Hp} {M M1 : Mp} {Q' : DSt → Mp → Prop} {Q : St → Hp → Prop} (k : SLe K H M Q' Q) (s : Step K H M H1 M1) : SLe K H1 M1 Q' Q := fun σ' ρ' H' M' r t q => k σ' ρ' H' M' r (s.trans t) q
def dgName (i : Nat) : TGD := fun d ρ M Q => Q (ρ.set i (some d)) M
def dgNil : TGsD := fun ds ρ M Q => match ds with
  | [] => Q ρ M
  | _ => False
def dgCons (t : TGD) (u : TGsD) : TGsD := fun ds ρ M Q => match ds with
  | d :: r => t d ρ M fun ρ' M' => u r ρ' M' Q
  | _ => False
def dgTup (n : Nat) (t : TGsD) : TGD := fun d ρ M Q => match d with
  | .tup ds => ds.length = n ∧ t ds ρ M Q
  | .pr ds => ds.length = n ∧ t ds ρ M Q
  | .ref p => ∃ ds, M p = some (.lst ds) ∧ ds.length = n ∧ t ds ρ M Q
  | _ => False
section
variable {X : Cx} {pos : Pos}
theorem pg_weak {tg : Expr} {t t' : TG} (h : PG X tg t) (w : ∀ v σ H Q, t' v σ H Q → t v σ H Q) : PG X tg t' := ⟨fun pins s σ H v u Q I r q => h.run pins s σ H v u Q I r (w _ _ _ _ q)⟩
theorem pgs_weak {tg : List Expr} {t t' : TGs} (h : PGs X tg t) (w : ∀ v σ H Q, t' v σ H Q → t v σ H Q) : PGs X tg t' := ⟨fun pins s σ H v u Q I r q => h.run pins s σ H v u Q I r (w _ _ _ _ q)⟩
theorem dg_name {i : Nat} {x : Str} (hN : X.N.Nodup) (hi : X.N[i]? = some x) (hx : Loc X.env.scope x) (hf : X.fn x = true ∨ X.env.scope.names.lookup x = some .local := by first | exact .inl rfl | exact .inr rfl | assumption) : DG X (.Name x pos) (dgName i) :=
  pg_weak (pg_name hN hi hx hf) fun v σ H Q ⟨d, ρ, M, Q', f, r, m, h, k⟩ => k _ _ _ _ (r.set i f) (.refl m) h
theorem dgs_nil : DGs X [] dgNil := pgs_weak pgs_nil fun vs σ H Q ⟨ds, ρ, M, Q', f, r, m, h, k⟩ => by
  cases ds with
  | nil => cases f; exact ⟨rfl, k _ _ _ _ r (.refl m) h⟩
  | cons _ _ => exact h.elim
theorem dgs_cons {e : Expr} {es : List Expr} {t : TGD} {u : TGsD} (h1 : DG X e t) (h2 : DGs X es u) (hs : (assignEach (e :: es) X.env).map (·.2) = assign e X.env :: (assignEach es X.env).map (·.2) := by rfl) : DGs X (e :: es) (dgCons t u) :=
  pgs_weak (pgs_cons h1 h2 hs) fun vs σ H Q ⟨ds, ρ, M, Q', f, r, m, h, k⟩ => by
    cases ds with
    | nil => exact h.elim
    | cons d ds =>
      cases f with
      | cons f fs =>
        exact ⟨_, _, rfl, d, ρ, M, _, f, r, m, h, fun σ' ρ' H' M' r' s q => ⟨ds, ρ', M', Q', fs.up s.tups, r', s.mem, q, k.after s⟩⟩
theorem pg_or {tg : Expr} {t t' : TG} (h : PG X tg t) (h' : PG X tg t') : PG X tg (fun v σ H Q => t v σ H Q ∨ t' v σ H Q) := ⟨fun pins s σ H v u Q I r q => by
  rcases q with q | q
  · exact h.run pins s σ H v u Q I r q
  · exact h'.run pins s σ H v u Q I r q⟩
theorem dg_tup {es : List Expr} {k : Nat} {t : TGsD} {n : Nat} (hc : X.calm = true) (h : DGs X es t) (hn : (assignEach es X.env).length = n := by rfl) (hst : (assignEach es X.env).findIdx? (·.1) = none := by rfl) : DG X (.Tuple es k pos) (dgTup n t) :=
  pg_weak (pg_or (pg_tup hc h hn hst) (pg_unl hc h hn hst)) fun v σ H Q ⟨d, ρ, M, Q', f, r, m, h, k⟩ => by
    cases d with
    | tup ds =>
      cases f with
      | tup hs fs => exact .inl ⟨_, _, rfl, hs.t, by rw [fs.length]; exact h.1, ds, ρ, M, Q', fs, r, m, h.2, k⟩
    | pr ds =>
      cases f with
      | pr hs fs => exact .inl ⟨_, _, rfl, hs, by rw [fs.length]; exact h.1, ds, ρ, M, Q', fs, r, m, h.2, k⟩
    | ref p =>
      cases f
      obtain ⟨ds, hp, hl, q⟩ := h
      obtain ⟨xs, e, fs⟩ := m.lst hp
      exact .inr ⟨_, xs, rfl, .of e, by rw [fs.length]; exact hl, ds, ρ, M, Q', fs, r, m, q, k⟩
    | _ => exact h.elim
/-- o[i] = v -/
abbrev TSetD := D → D → D → Mp → (Mp → Prop) → Prop
def dgSub (to ti : TED) (t : TSetD) : TGD := fun v ρ M Q => to ρ M fun o M1 => ti ρ M1 fun i M2 => t o i v M2 fun M3 => Q ρ M3
def StR (X : Cx) (td : TSetD) : Prop := ∃ t, PSet X t ∧ ∀ H M vo vi vv o i v (Q' : Mp → Prop) (Q : Hp → Prop), Fz X.K H vo o → Fz X.K H vi i → Fz X.K H vv v → MemOk X.K H M → td o i v M Q' → (∀ H' M', Step X.K H M H' M' → Q' M' → Q H') → t vo vi vv H Q
theorem dg_sub {o i : Expr} {to ti : TED} {td : TSetD} (ho : DE X o to) (hi : DE X i ti) (hs : StR X td)
    (ha : ∀ v, assign (.Subscript o i pos) X.env v = (do
      let ov ← holding [v] (eval o X.env)
      let iv ← holding [v, ov] (eval i X.env)
      standAt pos
      holding [v, ov, iv] (setItem ov iv v)
      release [v, ov, iv] []) := by intro _; rfl) : DG X (.Subscript o i pos) (dgSub to ti td) := by
  obtain ⟨t, hs, l⟩ := hs
  refine pg_weak (pg_sub ho hi hs ha) fun v σ H Q ⟨d, ρ, M, Q', f, r, m, h, k⟩ => ?_
  refine ⟨ρ, M, _, r, m, h, fun vo H1 o M1 fo s1 q1 => ⟨ρ, M1, _, r.up s1.tups, s1.mem, q1, fun vi H2 i M2 fi s2 q2 => ?_⟩⟩
  exact l H2 M2 vo vi v o i d _ _ (fo.up s2.tups) fi ((f.up s1.tups).up s2.tups) s2.mem q2 fun H3 M3 s3 q3 => k σ ρ H3 M3 (((r.up s1.tups).up s2.tups).up s3.tups) ((s1.trans s2).trans s3) q3
def rSetLX : TSetD := fun o i v M Q => match o, i with
  | .ref p, .int n => ∃ ds j, M p = some (.lst ds) ∧ ixN ds.length n = some j ∧ Q (updM M p (.lst (ds.set j v)))
  | _, _ => False
theorem st_list : StR X rSetLX := by
  refine ⟨_, set_list, fun H M vo vi vv o i v Q' Q fo fi fv m h k => ?_⟩
  unfold rSetLX at h
  split at h
  · obtain ⟨ds, j, hp, hj, q⟩ := h
    cases fo; cases fi
    obtain ⟨xs, e, fs⟩ := m.lst hp
    exact ⟨_, xs, _, j, rfl, rfl, e, by rw [fs.length]; exact hj, k _ _ (.wr m hp (fun z => by cases z) (show MoOk X.K H (.lst (xs.set j vv)) (.lst (ds.set j v)) from ⟨_, rfl, fs.set fv j⟩)) q⟩
  · exact h.elim
end

/-! ### statements -/
def dNext : TSD := fun E ρ M => E.nx ρ M
def dSeq (t u : TSD) : TSD := fun E ρ M => t { E with nx := u E } ρ M
def dAsg (te : TED) (g : TGD) : TSD := fun E ρ M => te ρ M fun d M1 => g d ρ M1 E.nx
def dPar (i j : Nat) (t : TAD) : TSD := fun E ρ M => t ρ M fun ds M1 => match ds with
  | [v, w] => E.nx ((ρ.set i (some v)).set j (some w)) M1
  | _ => False
def dPar3 (i j l : Nat) (t : TAD) : TSD := fun E ρ M => t ρ M fun ds M1 => match ds with
  | [u, v, w] => E.nx (((ρ.set i (some u)).set j (some v)).set l (some w)) M1
  | _ => False
def dDrop (te : TED) : TSD := fun E ρ M => te ρ M fun _ M1 => E.nx ρ M1
def dRet (te : TED) : TSD := fun E ρ M => te ρ M E.rt
def dRetN : TSD := fun E _ M => E.rt .non M
def dIfS (c : TTD) (t u : TSD) : TSD := fun E ρ M => c ρ M fun b M1 => br b (t E ρ M1) (u E ρ M1)
def dBreak : TSD := fun E ρ M => E.bk ρ M
def dCont : TSD := fun E ρ M => E.ct ρ M
def dAug (i : Nat) (te : TED) (r : R2D) : TSD := fun E ρ M => match ρ[i]? with
  | some (some x) => te ρ M fun y M1 => r x y M1 fun z M2 => E.nx (ρ.set i (some z)) M2
  | _ => False
section
variable {X : Cx} {pos : Pos} {st : Stmt} {rest : List Stmt} {t u : TSD} {e : Expr} {te : TED}
theorem dss_nil : DSs X [] dNext := pss_weak pss_nil fun E σ H ⟨ρ, M, E', r, m, h, k⟩ => k.nx σ ρ H M r (.refl m) h
theorem dss_one (h1 : DS X st t) : DSs X [st] t := pss_one h1
theorem dss_cons (h1 : DS X st t) (h2 : DSs X rest u) : DSs X (st :: rest) (dSeq t u) :=
  pss_weak (pss_cons h1 h2) fun E σ H ⟨ρ, M, E', r, m, h, k⟩ => ⟨ρ, M, { E' with nx := u E' }, r, m, h, ⟨fun σ' ρ' H' M' r' s q => ⟨ρ', M', E', r', s.mem, q, k.after s⟩, k.rt, k.bk, k.ct⟩⟩
theorem ds_pass : DS X (.Pass pos) dNext := ps_weak ps_pass fun E σ H ⟨ρ, M, E', r, m, h, k⟩ => k.nx σ ρ H M r (.refl m) h
theorem ds_break : DS X (.Break pos) dBreak := ps_weak ps_break fun E σ H ⟨ρ, M, E', r, m, h, k⟩ => k.bk σ ρ H M r (.refl m) h
theorem ds_continue : DS X (.Continue pos) dCont := ps_weak ps_continue fun E σ H ⟨ρ, M, E', r, m, h, k⟩ => k.ct σ ρ H M r (.refl m) h
theorem ds_set {i : Nat} {x : Str} {pos' : Pos} (hN : X.N.Nodup) (hi : X.N[i]? = some x) (hx : Loc X.env.scope x) (he : DE X e te) (hs : swapsWith e (some (.Name x pos')) pos.line X.env = pure false := by rfl) (hf : X.fn x = true ∨ X.env.scope.names.lookup x = some .local := by first | exact .inl rfl | exact .inr rfl | assumption) :
    DS X (.Assign [.Name x pos'] e pos) (dAsg te (dgName i)) :=
  ps_weak (ps_set hN hi hx he hs hf) fun E σ H ⟨ρ, M, E', r, m, h, k⟩ => ⟨ρ, M, _, r, m, h, fun v H1 d M1 f s q => k.nx _ _ _ _ ((r.up s.tups).set i f) s q⟩
theorem ds_asg {tg : Expr} {g : TGD} (he : DE X e te) (hg : DG X tg g) (hs : swapsWithSole [tg] e pos.line X.env = pure false := by rfl) (hw : swappedStores [tg] e X.env = pure none := by rfl)
    (h1 : (assignEach [tg] X.env).map (·.2) = [assign tg X.env] := by rfl) : DS X (.Assign [tg] e pos) (dAsg te g) :=
  ps_weak (ps_asg he hg hs hw h1) fun E σ H ⟨ρ, M, E', r, m, h, k⟩ => ⟨ρ, M, _, r, m, h, fun v H1 d M1 f s q => ⟨d, ρ, M1, E'.nx, f, r.up s.tups, s.mem, q, fun σ' ρ' H' M' r' s' q' => k.nx σ' ρ' H' M' r' (s.trans s') q'⟩⟩
theorem ds_par {i j : Nat} {x y : Str} {a b : Expr} {ta : TAD} {px py pt : Pos} {kt k2 pt2} (hc : X.calm = true) (hN : X.N.Nodup) (hi : X.N[i]? = some x) (hj : X.N[j]? = some y) (hij : i ≠ j)
    (hx : X.env.scope.names.lookup x = some .local) (hy : X.env.scope.names.lookup y = some .local) (ha : DA X [a, b] ta)
    (hw : swappedStores [.Tuple [.Name x px, .Name y py] kt pt] (.Tuple [a, b] k2 pt2) X.env = pure (some [x, y]))
    (hs : swapsWithSole [.Tuple [.Name x px, .Name y py] kt pt] (.Tuple [a, b] k2 pt2) pos.line X.env = pure false := by rfl) :
    DS X (.Assign [.Tuple [.Name x px, .Name y py] kt pt] (.Tuple [a, b] k2 pt2) pos) (dPar i j ta) :=
  ps_weak (ps_par hc hN hi hj hij hx hy ha hw hs) fun E σ H ⟨ρ, M, E', r, m, h, k⟩ => ⟨ρ, M, _, r, m, h, fun vs H1 ds M1 fs s q => by
    unfold dPar at h
    match ds, fs, q with
    | [v, w], .cons f (.cons g .nil), q => exact ⟨_, _, rfl, k.nx _ _ _ _ (((r.up s.tups).set i f).set j g) s q⟩⟩
theorem ds_par3 {i j l : Nat} {x y z : Str} {a b c : Expr} {ta : TAD} {px py pz pt : Pos} {kt k2 pt2} (hc : X.calm = true) (hN : X.N.Nodup) (hi : X.N[i]? = some x) (hj : X.N[j]? = some y) (hl : X.N[l]? = some z) (hij : i ≠ j) (hil : i ≠ l) (hjl : j ≠ l)
    (hx : X.env.scope.names.lookup x = some .local) (hy : X.env.scope.names.lookup y = some .local) (hz : X.env.scope.names.lookup z = some .local) (ha : DA X [a, b, c] ta)
    (hw : swappedStores [.Tuple [.Name x px, .Name y py, .Name z pz] kt pt] (.Tuple [a, b, c] k2 pt2) X.env = pure (some [x, y, z]))
    (hs : swapsWithSole [.Tuple [.Name x px, .Name y py, .Name z pz] kt pt] (.Tuple [a, b, c] k2 pt2) pos.line X.env = pure false := by rfl) :
    DS X (.Assign [.Tuple [.Name x px, .Name y py, .Name z pz] kt pt] (.Tuple [a, b, c] k2 pt2) pos) (dPar3 i j l ta) :=
  ps_weak (ps_par3 hc hN hi hj hl hij hil hjl hx hy hz ha hw hs) fun E σ H ⟨ρ, M, E', r, m, h, k⟩ => ⟨ρ, M, _, r, m, h, fun vs H1 ds M1 fs s q => by
    match ds, fs, q with
    | [u, v, w], .cons f (.cons g (.cons g' .nil)), q => exact ⟨_, _, _, rfl, k.nx _ _ _ _ ((((r.up s.tups).set i f).set j g).set l g') s q⟩⟩
theorem ds_expr (he : DE X e te) (hs : swapsWith e none pos.line X.env = pure false := by rfl) : DS X (.Expr e pos) (dDrop te) :=
  ps_weak (ps_expr he hs) fun E σ H ⟨ρ, M, E', r, m, h, k⟩ => ⟨ρ, M, _, r, m, h, fun v H1 d M1 f s q => k.nx _ _ _ _ (r.up s.tups) s q⟩
theorem ds_ret (he : DE X e te) : DS X (.Return (some e) pos) (dRet te) :=
  ps_weak (ps_ret he) fun E σ H ⟨ρ, M, E', r, m, h, k⟩ => ⟨ρ, M, _, r, m, h, k.rt⟩
theorem ds_retN : DS X (.Return none pos) dRetN := ps_weak ps_retN fun E σ H ⟨ρ, M, E', r, m, h, k⟩ => k.rt.val m .non h
theorem ds_if {c : Expr} {a b : List Stmt} {tc : TTD} (hc : DT X c tc) (ha : DSs X a t) (hb : DSs X b u) : DS X (.If c a b pos) (dIfS tc t u) :=
  ps_weak (ps_if hc ha hb) fun E σ H ⟨ρ, M, E', r, m, h, k⟩ => ⟨ρ, M, _, r, m, h, fun b H1 M1 s q => by
    cases b with
    | true => exact iteT ⟨ρ, M1, E', r.up s.tups, s.mem, q, k.after s⟩
    | false => exact iteF ⟨ρ, M1, E', r.up s.tups, s.mem, q, k.after s⟩⟩
theorem ds_aug {i : Nat} {x : Str} {op : Operator} {rd : R2D} {pos' : Pos} (hN : X.N.Nodup) (hi : X.N[i]? = some x) (hx : Loc X.env.scope x) (he : DE X e te) (ho : IR X op rd) (hf : X.fn x = true ∨ X.env.scope.names.lookup x = some .local := by first | exact .inl rfl | exact .inr rfl | assumption) :
    DS X (.AugAssign (.Name x pos') op e pos) (dAug i te rd) := by
  obtain ⟨r0, ho, l⟩ := ho
  refine ps_weak (ps_aug (ti := r0) hN hi hx he ho hf) fun E σ H ⟨ρ, M, E', r, m, h, k⟩ => ?_
  unfold dAug at h
  split at h
  · rename_i x0 e0
    obtain ⟨v, q, f⟩ := r.at_ i x0 e0
    refine ⟨v, q, ρ, M, _, r, m, h, fun vy H1 y M1 fy s1 q1 => ?_⟩
    exact l H1 M1 v vy x0 y _ _ (f.up s1.tups) fy s1.mem q1 fun vz H2 z M2 fz s2 q2 => k.nx _ _ _ _ (((r.up s1.tups).up s2.tups).set i fz) (s1.trans s2) q2
  · exact h.elim
end
end DL

namespace DL
open PySem L2
open PyProof.Rows (b2i)

/-! ### what is walked -/
abbrev TID := DSt → Mp → (Nat → (Nat → D → Prop) → (Mp → Prop) → Mp → Prop) → Prop
def YD (K : PySem.W.Frag) (Y : Nat → D → Prop) : Nat → Hp → V → Hp → Prop := fun i H v H' => (∀ M, MemOk K H M → Step K H M H' M) ∧ ∃ d, Fz K H' v d ∧ Y i d
def WalkD (K : PySem.W.Frag) (H1 : Hp) (J : It) (n : Nat) (Y : Nat → D → Prop) (G : Mp → Prop) : Prop := Walk J n (fun H => Tups K H1 H ∧ ∃ M, MemOk K H M ∧ G M) (YD K Y)
def upI (K : PySem.W.Frag) (ti : TID) : TI := fun σ H R => ∃ ρ M Q', RelS K H σ ρ ∧ MemOk K H M ∧ ti ρ M Q' ∧ ∀ n Y G H' M' J, Step K H M H' M' → WalkD K H' J n Y G → Q' n Y G M' → R J H'
abbrev DI (X : Cx) (tg iter : Expr) (ti : TID) : Prop := PI X tg iter (upI X.K ti)
structure ForG (n : Nat) (Y : Nat → D → Prop) (G : Mp → Prop) (g : TGD) (tb : TSD) (E : EndD) (ρ : DSt) (M1 : Mp) : Prop where
  ex : ∃ Pv : Nat → DSt → Mp → Prop, Pv 0 ρ M1 ∧ (∀ i ρ M, i ≤ n → Pv i ρ M → G M) ∧
  (∀ i x ρ M, i < n → Y i x → Pv i ρ M → g x ρ M fun ρ2 M2 => tb { E with nx := Pv (i + 1), ct := Pv (i + 1), bk := E.nx } ρ2 M2) ∧ ∀ ρ M, Pv n ρ M → E.nx ρ M
def dFor (ti : TID) (g : TGD) (tb : TSD) : TSD := fun E ρ M => ti ρ M fun n Y G M1 => ForG n Y G g tb E ρ M1
def dWhile (c : TTD) (tb : TSD) : TSD := fun E ρ M => ∃ (Pv : DSt → Mp → Prop) (μ : DSt → Mp → Nat), Pv ρ M ∧ ∀ ρ M, Pv ρ M → c ρ M fun b M1 => br b (tb { E with nx := fun ρ' M' => Pv ρ' M' ∧ μ ρ' M' < μ ρ M, ct := fun ρ' M' => Pv ρ' M' ∧ μ ρ' M' < μ ρ M, bk := E.nx } ρ M1) (E.nx ρ M1)
section
variable {X : Cx} {tg iter : Expr} {pos : Pos}
theorem pi_weak {t t' : TI} (h : PI X tg iter t) (w : ∀ σ H R, t' σ H R → t σ H R) : PI X tg iter t' := ⟨fun pins s σ H R I q => h.run pins s σ H R I (w _ _ _ q)⟩
theorem pi_or {t t' : TI} (h : PI X tg iter t) (h' : PI X tg iter t') : PI X tg iter (fun σ H R => t σ H R ∨ t' σ H R) := ⟨fun pins s σ H R I q => by
  rcases q with q | q
  · exact h.run pins s σ H R I q
  · exact h'.run pins s σ H R I q⟩
theorem ds_for {body : List Stmt} {ti : TID} {g : TGD} {tb : TSD} (hp : PassesOwn (model X.prog X.w) X.A X.env X.xe) (hc : X.calm = true) (hi : DI X tg iter ti) (hg : DG X tg g) (hb : DSs X body tb)
    (hs : ∀ x, foldedSetIterable iter X.env x = pure x := by intro _; rfl) : DS X (.For tg iter body [] pos) (dFor ti g tb) := by
  refine ps_weak (ps_for hp hc hi hg hb hs) fun E σ H ⟨ρ, M, E', r, m, h, k⟩ => ?_
  refine ⟨ρ, M, _, r, m, h, fun n Y G H1 M1 J s w q => ?_⟩
  obtain ⟨Pv, h0, hG, hs, hd⟩ := q
  refine for_it w (fun i σ' H' => ∃ ρ' M', RelS X.K H' σ' ρ' ∧ Step X.K H1 M1 H' M' ∧ Pv i ρ' M') ⟨ρ, M1, r.up s.tups, .refl s.mem, h0⟩ (fun i σ' H' hi ⟨ρ', M', r', s', q⟩ => ⟨s'.tups, M', s'.mem, hG i ρ' M' hi q⟩) ?_ ?_
  · rintro i v σ' H' H2 hi ⟨ρ', M', r', s', q⟩ ⟨st, d, fd, y⟩
    have s2 := st M' s'.mem
    refine ⟨d, ρ', M', _, fd, r'.up s2.tups, s2.mem, hs i d ρ' M' hi y q, fun σ3 ρ3 H3 M3 r3 s3 q3 => ?_⟩
    refine ⟨ρ3, M3, _, r3, s3.mem, q3, ?_⟩
    have k3 := k.after (((s.trans s').trans s2).trans s3)
    exact ⟨fun σ4 ρ4 H4 M4 r4 s4 q4 => ⟨ρ4, M4, r4, ((s'.trans s2).trans s3).trans s4, q4⟩, k3.rt, k3.nx, fun σ4 ρ4 H4 M4 r4 s4 q4 => ⟨ρ4, M4, r4, ((s'.trans s2).trans s3).trans s4, q4⟩⟩
  · rintro σ' H' ⟨ρ', M', r', s', q⟩
    exact k.nx σ' ρ' H' M' r' (s.trans s') (hd ρ' M' q)
theorem ds_while {c : Expr} {body : List Stmt} {tc : TTD} {tb : TSD} (hp : PassesOwn (model X.prog X.w) X.A X.env X.xe) (hc : DT X c tc) (hb : DSs X body tb) : DS X (.While c body [] pos) (dWhile tc tb) := by
  refine ps_weak (ps_while hp hc hb) fun E σ H ⟨ρ, M, E', r, m, h, k⟩ => ?_
  obtain ⟨Pv, μ, h0, hs⟩ := h
  refine ⟨fun n σ' H' => ∃ ρ' M', RelS X.K H' σ' ρ' ∧ Step X.K H M H' M' ∧ Pv ρ' M' ∧ n = μ ρ' M', ⟨_, ρ, M, r, .refl m, h0, rfl⟩, ?_⟩
  rintro n σ' H' ⟨ρ', M', r', s', p', rfl⟩
  refine ⟨ρ', M', _, r', s'.mem, hs ρ' M' p', fun b H1 M1 s1 q => ?_⟩
  cases b with
  | false => exact iteF (k.nx _ _ _ _ (r'.up s1.tups) (s'.trans s1) q)
  | true =>
    refine iteT ⟨fun σ2 H2 => ∃ ρ2 M2, RelS X.K H2 σ2 ρ2 ∧ Step X.K H M H2 M2 ∧ Pv ρ2 M2 ∧ μ ρ2 M2 < μ ρ' M', fun σ2 H2 ⟨ρ2, M2, r2, s2, p2, l⟩ => ⟨_, l, ρ2, M2, r2, s2, p2, rfl⟩, ρ', M1, _, r'.up s1.tups, s1.mem, q, ?_⟩
    have k3 := k.after (s'.trans s1)
    exact ⟨fun σ4 ρ4 H4 M4 r4 s4 q4 => ⟨ρ4, M4, r4, (s'.trans s1).trans s4, q4.1, q4.2⟩, k3.rt, k3.nx, fun σ4 ρ4 H4 M4 r4 s4 q4 => ⟨ρ4, M4, r4, (s'.trans s1).trans s4, q4.1, q4.2⟩⟩

/-! ### sources -/
def yL (ds : List D) : Nat → D → Prop := fun i d => ds[i]? = some d
def diSeq (te : TED) : TID := fun ρ M Q => te ρ M fun d M1 => match d with
  | .tup ds => Q ds.length (yL ds) (fun _ => True) M1
  | .fl ds => Q ds.length (yL ds) (fun _ => True) M1
  | .ref p => ∃ ds, M1 p = some (.lst ds) ∧ Q ds.length (yL ds) (fun M => M p = some (.lst ds)) M1
  | _ => False
theorem walkD_fix {K : PySem.W.Frag} {H1 : Hp} {J : It} {n : Nat} {xs : List V} {ds : List D} (f : FzAll K H1 xs ds) (hn : n = ds.length) (go : ∀ i H, i < n → Tups K H1 H → J.go i H) (stop : ∀ H, Tups K H1 H → J.stop n H)
    (yld : ∀ i H v H', Tups K H1 H → J.yld i H v H' → H' = H ∧ xs[i]? = some v) : WalkD K H1 J n (yL ds) (fun _ => True) :=
  ⟨fun i H hi q => go i H hi q.1, fun H q => stop H q.1, fun i H v H' hi q y => by
    obtain ⟨rfl, e⟩ := yld i H v H' q.1 y
    obtain ⟨d, e2, g⟩ := f.getV e
    exact ⟨fun M m => .refl m, d, g.up q.1, e2⟩⟩
def iSeq (K : PySem.W.Frag) (tl : TE) : TI := fun σ H R => tl σ H fun x H1 => (∃ a, x = .ref a ∧ (∃ xs, SqL K H1 a xs) ∧ R (Itl K a) H1) ∨ (∃ a, x = .ref a ∧ (∃ xs, SqT K H1 a xs) ∧ R (Itt K a) H1)
/-- a list or a tuple -/
theorem pi_seq {l : Expr} {tl : TE} (hl : PE X l tl) : PI X tg l (iSeq X.K tl) := by
  refine ⟨fun pins s σ H R I h => thn (hl.run pins s σ H _ I h) fun v s1 ⟨x, H1, I1, r1, q1⟩ => ?_⟩
  have own : ∀ b ∈ [s1.heap.objs.size], FpOk X pins H1 b := fun b hb => by
    obtain rfl : b = s1.heap.objs.size := by simpa using hb
    exact I1.fpOk (Nat.le_refl _) (I1.hok.fresh (Nat.le_refl _))
  rcases q1 with ⟨a, rfl, ⟨xs, hq⟩, q⟩ | ⟨a, rfl, ⟨xs, hq⟩, q⟩
  · cases r1
    obtain ⟨its, rv, p, hz⟩ := I1.list hq
    exact wpAny_pyIter_list p.isList ⟨_, [s1.heap.objs.size], _, _, H1, rfl, I1.kept (t' := s1.toks) fun b o e => Heap.get?_push_of_some _ e, turn_list a _, ⟨_, Heap.get?_push_size _ rfl, rfl, rfl⟩, own, q⟩
  · cases r1
    obtain ⟨its, rv, p, hz⟩ := I1.tuple hq
    exact wpAny_pyIter_tuple (show s1.heap.IsTuple a its.toArray from p) ⟨_, [s1.heap.objs.size], _, _, H1, rfl, I1.kept (t' := s1.toks) fun b o e => Heap.get?_push_of_some _ e, turn_tuple a _, ⟨_, Heap.get?_push_size _ rfl, rfl, rfl⟩, own, q⟩
theorem di_seq {e : Expr} {te : TED} (he : DE X e te) : DI X tg e (diSeq te) := by
  refine pi_weak (pi_seq he) fun σ H R ⟨ρ, M, Q', r, m, h, k⟩ => ?_
  refine ⟨ρ, M, _, r, m, h, fun v H1 d M1 f s q => ?_⟩
  cases d with
  | tup ds =>
    cases f with
    | @tup a xs _ hs fs =>
      refine .inr ⟨a, rfl, ⟨xs, hs.t⟩, k _ _ _ _ _ _ s (walkD_fix fs rfl (fun i H hi t => ?_) (fun H t => ?_) fun i H v H' t y => ?_) q⟩
      · have hi : i < xs.length := by rw [fs.length]; exact hi
        exact ⟨xs, xs[i], (t.t _ _ hs).t, by simp [hi]⟩
      · exact ⟨xs, (t.t _ _ hs).t, by rw [fs.length]; exact Nat.le_refl _⟩
      · exact ⟨y.1, y.2 xs (t.t _ _ hs).t⟩
  | fl ds =>
    cases f with
    | @fl a xs _ hs fs =>
      refine .inl ⟨a, rfl, ⟨xs, hs.sq⟩, k _ _ _ _ _ _ s (walkD_fix fs rfl (fun i H hi t => ?_) (fun H t => ?_) fun i H v H' t y => ?_) q⟩
      · have hi : i < xs.length := by rw [fs.length]; exact hi
        exact ⟨xs, xs[i], (t.f _ _ hs).sq, by simp [hi]⟩
      · exact ⟨xs, (t.f _ _ hs).sq, by rw [fs.length]; exact Nat.le_refl _⟩
      · exact ⟨y.1, y.2 xs (t.f _ _ hs).sq⟩
  | ref p =>
    cases f
    obtain ⟨ds, hp, q⟩ := q
    obtain ⟨xs0, e0, _⟩ := s.mem.lst hp
    refine .inl ⟨p, rfl, ⟨xs0, .of e0⟩, k _ _ _ _ _ _ s ⟨fun i H hi g => ?_, fun H g => ?_, fun i H v H' hi g y => ?_⟩ q⟩
    · obtain ⟨_, M', m', g⟩ := g
      obtain ⟨xs, e, fs⟩ := m'.lst g
      have hi : i < xs.length := by rw [fs.length]; exact hi
      exact ⟨xs, xs[i], .of e, by simp [hi]⟩
    · obtain ⟨_, M', m', g⟩ := g
      obtain ⟨xs, e, fs⟩ := m'.lst g
      exact ⟨xs, .of e, by rw [fs.length]; exact Nat.le_refl _⟩
    · obtain ⟨_, M', m', g⟩ := g
      obtain ⟨xs, e, fs⟩ := m'.lst g
      obtain ⟨rfl, y⟩ := y
      obtain ⟨d, e2, fd⟩ := fs.getV (y xs (.of e))
      exact ⟨fun M m => .refl m, d, fd, e2⟩
  | _ => exact q.elim
def yR (lo : Int) : Nat → D → Prop := fun i d => d = .int (lo + i)
theorem walkD_range {K : PySem.W.Frag} {H1 : Hp} {lo : Int} {n : Nat} : WalkD K H1 (Itr lo n) n (yR lo) (fun _ => True) :=
  ⟨fun i H hi _ => hi, fun H _ => Nat.le_refl _, fun i H v H' hi g y => by
    obtain ⟨rfl, rfl⟩ := y
    exact ⟨fun M m => .refl m, _, .int _, rfl⟩⟩
def diRg1 (t : TAD) : TID := fun ρ M Q => t ρ M fun ds M1 => match ds with
  | [.int j] => -(2 ^ 62) ≤ j ∧ j < 2 ^ 62 ∧ Q j.toNat (yR 0) (fun _ => True) M1
  | _ => False
def diRg2 (t : TAD) : TID := fun ρ M Q => t ρ M fun ds M1 => match ds with
  | [.int i, .int j] => (-(2 ^ 62) ≤ i ∧ i < 2 ^ 62 ∧ -(2 ^ 62) ≤ j ∧ j < 2 ^ 62) ∧ Q (j - i).toNat (yR i) (fun _ => True) M1
  | _ => False
theorem di_rg1 {a : Expr} {ta : TAD} {p : Pos} (hg : Gl X "range") (hm : X.mg "range" = none) (ha : DA X [a] ta) (hs : starEach [a] X.env = [(false, eval a X.env)] := by rfl) : DI X tg (.Call (.Name "range" p) [a] [] pos) (diRg1 ta) :=
  pi_weak (pi_range1 hg hm ha hs) fun σ H R ⟨ρ, M, Q', r, m, h, k⟩ => ⟨ρ, M, _, r, m, h, fun vs H1 ds M1 fs s q => by
    match ds, fs, q with
    | [.int j], .cons (.int _) .nil, q => exact ⟨j, rfl, q.1, q.2.1, k _ _ _ _ _ _ s walkD_range q.2.2⟩⟩
theorem di_rg2 {a b : Expr} {ta : TAD} {p : Pos} (hg : Gl X "range") (hm : X.mg "range" = none) (ha : DA X [a, b] ta) (hs : starEach [a, b] X.env = [(false, eval a X.env), (false, eval b X.env)] := by rfl) (hs2 : starEach [b] X.env = [(false, eval b X.env)] := by rfl) :
    DI X tg (.Call (.Name "range" p) [a, b] [] pos) (diRg2 ta) :=
  pi_weak (pi_range2 hg hm ha hs hs2) fun σ H R ⟨ρ, M, Q', r, m, h, k⟩ => ⟨ρ, M, _, r, m, h, fun vs H1 ds M1 fs s q => by
    match ds, fs, q with
    | [.int i, .int j], .cons (.int _) (.cons (.int _) .nil), q => exact ⟨i, j, rfl, q.1, k _ _ _ _ _ _ s walkD_range q.2⟩⟩
/-- enumerate(xs), xs a list -/
def yE (ds : List D) : Nat → D → Prop := fun i d => ∃ x, ds[i]? = some x ∧ d = .pr [.int (i : Nat), x]
def diEnum (te : TAD) : TID := fun ρ M Q => te ρ M fun ds M1 => match ds with
  | [.ref p] => ∃ ds, M1 p = some (.lst ds) ∧ Q ds.length (yE ds) (fun M => M p = some (.lst ds)) M1
  | _ => False
theorem pr2 {K : PySem.W.Frag} {H : Hp} {T : Addr} {x y : V} {a b : D} (hT : H T = none) (f : Fz K H x a) (g : Fz K H y b) :
    (∀ M, MemOk K H M → Step K H M (upd H T (.tup [x, y])) M) ∧ Fz K (upd H T (.tup [x, y])) (.ref T) (.pr [a, b]) :=
  ⟨fun M m => .newT m hT, .pr (.inl (.inl upd_same)) (.cons (f.up (.new hT)) (.cons (g.up (.new hT)) .nil))⟩
theorem di_enum {e : Expr} {ta : TAD} {p pos tpos : Pos} {elts : List Expr} {kk : Nat} (hg : Gl X "enumerate") (hm : X.mg "enumerate" = none) (ha : DA X [e] ta) (hs : starEach [e] X.env = [(false, eval e X.env)] := by rfl) :
    DI X (.Tuple elts kk tpos) (.Call (.Name "enumerate" p) [e] [] pos) (diEnum ta) := by
  refine pi_weak (pi_enum hg hm ha hs) fun σ H R ⟨ρ, M, Q', r, m, h, k⟩ => ?_
  refine ⟨ρ, M, _, r, m, h, fun vs H1 ds M1 fs s q => ?_⟩
  unfold diEnum at h
  split at q
  · obtain ⟨ds, hp, q⟩ := q
    cases fs with
    | cons f fs =>
      cases fs
      cases f
      obtain ⟨xs0, e0, _⟩ := s.mem.lst hp
      refine ⟨_, xs0, rfl, .of e0, k _ _ _ _ _ _ s ⟨fun i H hi g => ?_, fun H g => ?_, fun i H v H' hi g y => ?_⟩ q⟩
      · obtain ⟨_, M', m', g⟩ := g
        obtain ⟨xs, e, fs⟩ := m'.lst g
        have hi : i < xs.length := by rw [fs.length]; exact hi
        exact ⟨xs, xs[i], .of e, by simp [hi]⟩
      · obtain ⟨_, M', m', g⟩ := g
        obtain ⟨xs, e, fs⟩ := m'.lst g
        exact ⟨xs, .of e, by rw [fs.length]; exact Nat.le_refl _⟩
      · obtain ⟨_, M', m', g⟩ := g
        obtain ⟨xs, e, fs⟩ := m'.lst g
        obtain ⟨T, x, rfl, hT, rfl, y⟩ := y
        obtain ⟨d, e2, fd⟩ := fs.getV (y xs (.of e))
        have z := pr2 hT (.int (i : Nat)) fd
        exact ⟨z.1, _, z.2, d, e2, rfl⟩
  · exact q.elim
/-- zip(xs, ys): two lists or two tuples -/
def yZ (ds es : List D) : Nat → D → Prop := fun i d => ∃ x y, ds[i]? = some x ∧ es[i]? = some y ∧ d = .pr [x, y]
def diZip (te : TAD) : TID := fun ρ M Q => te ρ M fun ds M1 => match ds with
  | [.tup as, .tup bs] => Q (min as.length bs.length) (yZ as bs) (fun _ => True) M1
  | [.ref a, .ref b] => ∃ as bs, M1 a = some (.lst as) ∧ M1 b = some (.lst bs) ∧ Q (min as.length bs.length) (yZ as bs) (fun M => M a = some (.lst as) ∧ M b = some (.lst bs)) M1
  | _ => False
theorem di_zip {e e2 : Expr} {ta : TAD} {p pos tpos : Pos} {elts : List Expr} {kk : Nat} (hg : Gl X "zip") (hm : X.mg "zip" = none) (ha : DA X [e, e2] ta)
    (hs : starEach [e, e2] X.env = (false, eval e X.env) :: starEach [e2] X.env := by rfl) (hpl : (backTo pos (starEach [e2] X.env)).any (·.1) = false := by rfl) :
    DI X (.Tuple elts kk tpos) (.Call (.Name "zip" p) [e, e2] [] pos) (diZip ta) := by
  refine pi_weak (RZ.pi_zipA hg hm ha hs hpl) fun σ H R ⟨ρ, M, Q', r, m, h, k⟩ => ?_
  refine ⟨ρ, M, _, r, m, h, fun vs H1 ds M1 fs s q => ?_⟩
  split at q
  · cases fs with
    | cons f fs =>
      cases fs with
      | cons f' fs =>
        cases fs
        cases f with
        | @tup a xs _ hs fs =>
          cases f' with
          | @tup b ys _ hs' fs' =>
            have l1 := fs.length
            have l2 := fs'.length
            refine ⟨a, b, xs, ys, rfl, .inr ⟨hs.t, hs'.t, k _ _ _ _ _ _ s ⟨fun i H hi g => ?_, fun H g => ?_, fun i H v H' hi g y => ?_⟩ q⟩⟩
            · have h1 : i < xs.length := by omega
              have h2 : i < ys.length := by omega
              exact ⟨xs, ys, xs[i], ys[i], (g.1.t _ _ hs).t, (g.1.t _ _ hs').t, by simp [h1], by simp [h2]⟩
            · exact ⟨xs, ys, (g.1.t _ _ hs).t, (g.1.t _ _ hs').t, by omega⟩
            · obtain ⟨T, x, y', rfl, hT, rfl, y1, y2⟩ := y
              obtain ⟨d, e2, fd⟩ := fs.getV (y1 xs (g.1.t _ _ hs).t)
              obtain ⟨d', e2', fd'⟩ := fs'.getV (y2 ys (g.1.t _ _ hs').t)
              have z := pr2 hT (fd.up g.1) (fd'.up g.1)
              exact ⟨z.1, _, z.2, d, d', e2, e2', rfl⟩
  · obtain ⟨as, bs, h1, h2, q⟩ := q
    cases fs with
    | cons f fs =>
      cases fs with
      | cons f' fs =>
        cases fs
        cases f
        cases f'
        obtain ⟨xs0, e0, _⟩ := s.mem.lst h1
        obtain ⟨ys0, e0', _⟩ := s.mem.lst h2
        refine ⟨_, _, xs0, ys0, rfl, .inl ⟨.of e0, .of e0', k _ _ _ _ _ _ s ⟨fun i H hi g => ?_, fun H g => ?_, fun i H v H' hi g y => ?_⟩ q⟩⟩
        · obtain ⟨_, M', m', g1, g2⟩ := g
          obtain ⟨xs, e, fs⟩ := m'.lst g1
          obtain ⟨ys, e', fs'⟩ := m'.lst g2
          have l1 := fs.length
          have l2 := fs'.length
          have h1 : i < xs.length := by omega
          have h2 : i < ys.length := by omega
          exact ⟨xs, ys, xs[i], ys[i], .of e, .of e', by simp [h1], by simp [h2]⟩
        · obtain ⟨_, M', m', g1, g2⟩ := g
          obtain ⟨xs, e, fs⟩ := m'.lst g1
          obtain ⟨ys, e', fs'⟩ := m'.lst g2
          have l1 := fs.length
          have l2 := fs'.length
          exact ⟨xs, ys, .of e, .of e', by omega⟩
        · obtain ⟨_, M', m', g1, g2⟩ := g
          obtain ⟨xs, e, fs⟩ := m'.lst g1
          obtain ⟨ys, e', fs'⟩ := m'.lst g2
          obtain ⟨T, x, y', rfl, hT, rfl, y1, y2⟩ := y
          obtain ⟨d, e2, fd⟩ := fs.getV (y1 xs (.of e))
          obtain ⟨d', e2', fd'⟩ := fs'.getV (y2 ys (.of e'))
          have z := pr2 hT fd fd'
          exact ⟨z.1, _, z.2, d, d', e2, e2', rfl⟩
  · exact q.elim
/-- list(range(..)), tuple(range(..)) -/
abbrev TRD := DSt → Mp → (Int → Int → Mp → Prop) → Prop
def dRg1 (t : TED) : TRD := fun ρ M Q => t ρ M fun d M1 => match d with
  | .int j => Q 0 j M1
  | _ => False
def dRg2 (t u : TED) : TRD := fun ρ M Q => t ρ M fun d M1 => u ρ M1 fun e M2 => match d, e with
  | .int i, .int j => Q i j M2
  | _, _ => False
def rgD (a b : Int) : List D := (List.range (b - a).toNat).map fun i => D.int (a + (i : Nat))
theorem rgD_fz {K : PySem.W.Frag} {H : Hp} (a b : Int) : FzAll K H (rgV a b) (rgD a b) := by
  unfold rgV rgD
  generalize List.range (b - a).toNat = l
  induction l with
  | nil => exact .nil
  | cons x l ih => exact .cons (.int _) ih
def dLstRg (t : TRD) : TED := fun ρ M Q => t ρ M fun a b M1 => RgOk a b ∧ ∀ p, M1 p = none → Q (.ref p) (updM M1 p (.lst (rgD a b)))
def upRg (K : PySem.W.Frag) (t : TRD) : St → Hp → (Int → Int → Hp → Prop) → Prop := fun σ H Q => ∃ ρ M Q', RelS K H σ ρ ∧ MemOk K H M ∧ t ρ M Q' ∧ ∀ a b H' M', Step K H M H' M' → Q' a b M' → Q a b H'
abbrev DRg (X : Cx) (e : Expr) (t : TRD) : Prop := ∃ t0, PRg X e t0 ∧ ∀ σ H Q, upRg X.K t σ H Q → t0 σ H Q
theorem drg_1 {a : Expr} {ta : TED} {p : Pos} (hg : Gl X "range") (hm : X.mg "range" = none) (ha : DE X a ta) (na : starEach [a] X.env = (false, eval a X.env) :: starEach [] X.env := by rfl) : DRg X (.Call (.Name "range" p) [a] [] pos) (dRg1 ta) :=
  ⟨_, prg_1 hg hm ha na, fun σ H Q ⟨ρ, M, Q', r, m, h, k⟩ => ⟨ρ, M, _, r, m, h, fun v H1 d M1 f s q => by
    cases d with
    | int j => cases f; exact ⟨j, rfl, k _ _ _ _ s q⟩
    | _ => exact q.elim⟩⟩
theorem drg_2 {a b : Expr} {ta tb : TED} {p : Pos} (hg : Gl X "range") (hm : X.mg "range" = none) (ha : DE X a ta) (hb : DE X b tb) (na : starEach [a, b] X.env = (false, eval a X.env) :: starEach [b] X.env := by rfl) (nb : starEach [b] X.env = (false, eval b X.env) :: starEach [] X.env := by rfl) (hpl : (backTo pos (starEach [b] X.env)).any (·.1) = false := by rfl) : DRg X (.Call (.Name "range" p) [a, b] [] pos) (dRg2 ta tb) :=
  ⟨_, prg_2 hg hm ha hb na nb hpl, fun σ H Q ⟨ρ, M, Q', r, m, h, k⟩ => ⟨ρ, M, _, r, m, h, fun v H1 d M1 f s q => ⟨ρ, M1, _, r.up s.tups, s.mem, q, fun w H2 e M2 g s2 q2 => by
    cases d with
    | int i =>
      cases e with
      | int j => cases f; cases g; exact ⟨i, j, rfl, rfl, k _ _ _ _ (s.trans s2) q2⟩
      | _ => exact q2.elim
    | _ => exact q2.elim⟩⟩⟩
theorem de_listRg {e : Expr} {te : TRD} {p : Pos} (hc : X.calm = true) (hg : Gl X "list") (hm : X.mg "list" = none) (he : DRg X e te) (na : starEach [e] X.env = (false, eval e X.env) :: starEach [] X.env := by rfl) : DE X (.Call (.Name "list" p) [e] [] pos) (dLstRg te) := by
  obtain ⟨t0, he, w⟩ := he
  refine pe_weak (pe_listRg hc hg hm he na) fun σ H Q ⟨ρ, M, Q', r, m, h, k⟩ => ?_
  exact w σ H _ ⟨ρ, M, _, r, m, h, fun a b H1 M1 s q => ⟨q.1, fun p hp => (k.after s).newLst s.mem (rgD_fz a b) q.2 hp⟩⟩

/-! ### comprehensions -/
theorem RelS.own {K : PySem.W.Frag} {H : Hp} {σ : St} {ρ : DSt} (r : RelS K H σ ρ) (i : Nat) {v : V} {d : D} (f : Fz K H v d) : RelS K H ((σ.set i none).set i (some v)) (ρ.set i (some d)) := by
  rw [List.set_set]
  exact r.set i f
def tYesD : TTD := fun _ M Q => Q true M
/-- [elt for x in .. if ..], x in slot i -/
structure LcG (n : Nat) (Y : Nat → D → Prop) (G : Mp → Prop) (g : D → DSt → Option DSt) (tt : TTD) (te : TED) (ρ : DSt) (M1 : Mp) (Q : KD) : Prop where
  ex : ∃ Pv : Nat → List D → Mp → Prop, Pv 0 [] M1 ∧ (∀ k acc M, k ≤ n → Pv k acc M → G M) ∧
  (∀ k acc x M, k < n → Y k x → Pv k acc M → match g x ρ with
    | some ρ2 => tt ρ2 M fun b M2 => br b (te ρ2 M2 fun y M3 => acc.length < sizeLine ∧ Pv (k + 1) (acc ++ [y]) M3) (Pv (k + 1) acc M2)
    | none => False) ∧ ∀ acc M, Pv n acc M → ∀ p, M p = none → Q (.ref p) (updM M p (.lst acc))
def dLc (ti : TID) (g : D → DSt → Option DSt) (tt : TTD) (te : TED) : TED := fun ρ M Q => ti ρ M fun n Y G M1 => LcG n Y G g tt te ρ M1 Q
/-- the slots of a comprehension's own names, by what comes -/
structure OwnG (K : PySem.W.Frag) (gh : TG) (vs : List Nat) (g : D → DSt → Option DSt) : Prop where
  go : ∀ (x : D) (v : V) (H : Hp) (σ : St) (ρ ρ2 : DSt) (Q : St → Hp → Prop), Fz K H v x → RelS K H σ ρ → g x ρ = some ρ2 → (∀ σ2, L2.wipe σ2 vs = L2.wipe σ vs → RelS K H σ2 ρ2 → Q σ2 H) → gh v (L2.wipe σ vs) H Q
def g1 (i : Nat) : D → DSt → Option DSt := fun x ρ => some (ρ.set i (some x))
def g2 (i j : Nat) : D → DSt → Option DSt := fun x ρ => match x with
  | .tup [a, b] => some ((ρ.set i (some a)).set j (some b))
  | .pr [a, b] => some ((ρ.set i (some a)).set j (some b))
  | _ => none
theorem tp_of {K : PySem.W.Frag} {H : Hp} {v : V} {x : D} {ds : List D} (f : Fz K H v x) (h : x = .tup ds ∨ x = .pr ds) : ∃ a xs, v = .ref a ∧ SqT K H a xs ∧ FzAll K H xs ds := by
  rcases h with rfl | rfl
  · cases f with
    | tup hs fs => exact ⟨_, _, rfl, hs.t, fs⟩
  · cases f with
    | pr hs fs => exact ⟨_, _, rfl, hs, fs⟩
def g3 (i j l : Nat) : D → DSt → Option DSt := fun x ρ => match x with
  | .tup [a, b, c] => some (((ρ.set i (some a)).set j (some b)).set l (some c))
  | _ => none
theorem own1 (K : PySem.W.Frag) (i : Nat) : OwnG K (gName i) [i] (g1 i) := ⟨fun x v H σ ρ ρ2 Q f r e k => by
  cases e
  exact k _ (by show ((σ.set i none).set i (some v)).set i none = σ.set i none; rw [List.set_set, List.set_set]) (r.own i f)⟩
theorem own2 (K : PySem.W.Frag) {i j : Nat} (hij : i ≠ j) : OwnG K (gTup K 2 (gCons (gName i) (gCons (gName j) gNil))) [i, j] (g2 i j) := ⟨fun x v H σ ρ ρ2 Q f r e k => by
  have go : ∀ a b : D, (x = .tup [a, b] ∨ x = .pr [a, b]) → some ((ρ.set i (some a)).set j (some b)) = some ρ2 → gTup K 2 (gCons (gName i) (gCons (gName j) gNil)) v (L2.wipe σ [i, j]) H Q := by
    intro a b hx e
    cases e
    obtain ⟨p, xs, rfl, hs, fs⟩ := tp_of f hx
    cases fs with
    | cons f1 fs =>
      cases fs with
      | cons f2 fs =>
        cases fs
        refine ⟨p, _, rfl, hs, rfl, _, _, rfl, _, _, rfl, rfl, k _ ?_ ?_⟩
        · show (((((σ.set j none).set i none).set i _).set j _).set j none).set i none = (σ.set j none).set i none
          rw [List.set_set, List.set_set, List.set_comm _ _ hij, List.set_set]
          first | done | (rw [List.set_set]; done) | (rw [List.set_comm _ _ hij, List.set_set])
        · show RelS K H ((((σ.set j none).set i none).set i _).set j _) _
          rw [List.set_set, List.set_comm _ _ hij, List.set_set, List.set_comm _ _ (Ne.symm hij)]
          exact (r.set i f1).set j f2
  unfold g2 at e
  split at e
  · exact go _ _ (.inl rfl) e
  · exact go _ _ (.inr rfl) e
  · cases e⟩
section
variable {elt : Expr} {ifs : List Expr} {scope : Scope} {own : List (Str × Nat)} {ti : TID} {gh : TG} {g : D → DSt → Option DSt} {tt : TTD} {te : TED}
theorem up_lc (ow : OwnG X.K gh (own.map (·.2)) g) (σ : St) (H : Hp) (Q : VK) (h : upE X.K (dLc ti g tt te) σ H Q) : tLc (upI X.K ti) gh (upT X.K tt) (upE X.K te) (own.map (·.2)) σ H Q := by
  obtain ⟨ρ, M, Q', r, m, h, k⟩ := h
  refine ⟨ρ, M, _, r, m, h, fun n Y G H1 M1 J s w q D hD => ?_⟩
  obtain ⟨Pv, h0, hG, hs, hd⟩ := q
  have mD1 : M1 D = none := s.mem.none hD
  refine lc_it (g := gh) (tt := upT X.K tt) (te := upE X.K te) w (fun i H' => ∃ acc M' xs, MemOk X.K H' M' ∧ Tups X.K H1 H' ∧ (∀ a u, a ≠ D → H1 a = some u → M1 a = none → H' a = some u ∧ M' a = none) ∧ H' D = some (.lst xs) ∧ M' D = none ∧ FzAll X.K H' xs acc ∧ Pv i acc M') ?_ ?_ ?_ ?_
  · have t := Step.newT (u := .lst []) s.mem hD
    exact ⟨[], M1, [], t.mem, t.tups, fun a u ne e n => t.fr a u e n, upd_same, mD1, .nil, h0⟩
  · rintro i H' hi ⟨acc, M', xs, m', t', fr, eD, nD, fx, p⟩
    exact ⟨t', M', m', hG i acc M' hi p⟩
  · rintro i v H' H2 hi ⟨acc, M', xs, m', t', fr, eD, nD, fx, p⟩ ⟨st, d, fd, y⟩
    have s2 := st M' m'
    have z := hs i acc d M' hi y p
    cases eg : g d ρ with
    | none => rw [eg] at z; exact z.elim
    | some ρ2 =>
      rw [eg] at z
      refine ow.go d v H2 σ ρ ρ2 _ fd (((r.up s.tups).up t').up s2.tups) eg fun σ2 hw r2 => ⟨hw, ρ2, M', _, r2, s2.mem, z, fun b H3 M3 s3 z3 => ?_⟩
      have s23 := s2.trans s3
      have keep : ∀ {H4 : Hp} {M4 : Mp}, Step X.K H' M' H4 M4 → MemOk X.K H4 M4 ∧ Tups X.K H1 H4 ∧ (∀ a u, a ≠ D → H1 a = some u → M1 a = none → H4 a = some u ∧ M4 a = none) ∧ H4 D = some (.lst xs) ∧ M4 D = none ∧ FzAll X.K H4 xs acc := fun {H4 M4} s4 =>
        ⟨s4.mem, t'.trans s4.tups, fun a u ne e n => let q := fr a u ne e n; s4.fr a u q.1 q.2, (s4.fr D _ eD nD).1, (s4.fr D _ eD nD).2, fx.up s4.tups⟩
      cases b with
      | false =>
        obtain ⟨a1, a2, a3, a4, a5, a6⟩ := keep s23
        exact iteF ⟨acc, M3, xs, a1, a2, a3, a4, a5, a6, z3⟩
      | true =>
        refine iteT ⟨ρ2, M3, _, r2.up s3.tups, s3.mem, z3, fun vy H4 dy M4 fy s4 z4 => ?_⟩
        obtain ⟨a1, a2, a3, a4, a5, a6⟩ := keep (s23.trans s4)
        refine ⟨xs, a4, by rw [a6.length]; exact z4.1, acc ++ [dy], M4, xs ++ [vy], ?_⟩
        have mm : MemOk X.K H4 (updM M4 D (.lst acc)) := fun a o e => by
          by_cases ha : a = D
          · subst ha
            rw [updM_same] at e
            cases e
            exact ⟨_, a4, xs, rfl, a6⟩
          · rw [updM_ne ha] at e
            exact a1 a o e
        have w4 := Step.wr (u := .lst (xs ++ [vy])) (o := .lst (acc ++ [dy])) mm updM_same (fun z => by cases z) (show MoOk X.K H4 (.lst (xs ++ [vy])) (.lst (acc ++ [dy])) from ⟨_, rfl, a6.append (.cons fy .nil)⟩)
        refine ⟨fun a o e => ?_, a2.trans w4.tups, fun a u ne e n => ?_, upd_same, a5, (a6.append (.cons fy .nil)).up w4.tups, z4.2⟩
        · have ha : a ≠ D := by rintro rfl; rw [a5] at e; cases e
          exact w4.mem a o (by rw [updM_ne ha, updM_ne ha]; exact e)
        · have q := a3 a u ne e n
          exact ⟨by rw [upd_ne ne]; exact q.1, q.2⟩
  · rintro H' ⟨acc, M', xs, m', t', fr, eD, nD, fx, p⟩
    refine k _ _ _ _ (.ref D) (s.trans ⟨fun a o e => ?_, t', fun a u e n => ?_⟩) (hd acc M' p D nD)
    · by_cases ha : a = D
      · subst ha
        rw [updM_same] at e
        cases e
        exact ⟨_, eD, xs, rfl, fx⟩
      · rw [updM_ne ha] at e
        exact m' a o e
    · have ne : a ≠ D := by rintro rfl; rw [hD] at e; cases e
      have q := fr a u ne e n
      exact ⟨q.1, by rw [updM_ne ne]; exact q.2⟩
theorem de_lc (hc : X.calm = true) (hN : X.N.Nodup) (ow : OwnG X.K gh (own.map (·.2)) g) (hi : DI X tg iter ti) (ok : BlkOk X.N X.env.scope scope own)
    (hg : ∀ (s : Shared) (H : Hp) (C : Addr) (cl : List (Str × Addr)) (fp : List Addr), PG (X.blk s H scope (compEnvC scope cl C X.env) fp) tg gh) (ht : ∀ (s : Shared) (H : Hp) (C : Addr) (cl : List (Str × Addr)) (fp : List Addr), PTs (X.blk s H scope (compEnvC scope cl C X.env) fp) ifs (upT X.K tt))
    (he : ∀ (s : Shared) (H : Hp) (C : Addr) (cl : List (Str × Addr)) (fp : List Addr), DE (X.blk s H scope (compEnvC scope cl C X.env) fp) elt te) (hs : ∀ x, foldedSetIterable iter X.env x = pure x := by intro _; rfl) :
    DE X (.ListComp elt [⟨tg, iter, ifs, 0⟩] scope pos) (dLc ti g tt te) :=
  pe_weak (pe_lc hc hN hi ok hg ht he hs) (up_lc ow)
theorem ds_setLc {i : Nat} {y : Str} {py spos : Pos} (hc : X.calm = true) (hN : X.N.Nodup) (hy : X.N[i]? = some y) (hyl : X.env.scope.names.lookup y = some .local) (hsw : swapsWith (.ListComp elt [⟨tg, iter, ifs, 0⟩] scope pos) (some (.Name y py)) spos.line X.env = pure true)
    (ow : OwnG X.K gh (own.map (·.2)) g) (hi : DI X tg iter ti) (ok : BlkOk X.N X.env.scope scope own)
    (hg : ∀ (s : Shared) (H : Hp) (C : Addr) (cl : List (Str × Addr)) (fp : List Addr), PG (X.blk s H scope (compEnvC scope cl C X.env) fp) tg gh) (ht : ∀ (s : Shared) (H : Hp) (C : Addr) (cl : List (Str × Addr)) (fp : List Addr), PTs (X.blk s H scope (compEnvC scope cl C X.env) fp) ifs (upT X.K tt))
    (he : ∀ (s : Shared) (H : Hp) (C : Addr) (cl : List (Str × Addr)) (fp : List Addr), DE (X.blk s H scope (compEnvC scope cl C X.env) fp) elt te) (hs : ∀ x, foldedSetIterable iter X.env x = pure x := by intro _; rfl) :
    DS X (.Assign [.Name y py] (.ListComp elt [⟨tg, iter, ifs, 0⟩] scope pos) spos) (dAsg (dLc ti g tt te) (dgName i)) := by
  refine ps_weak (ps_setLc (te := upE X.K te) hc hN hy hyl hsw hi ok hg ht he hs) fun E σ H ⟨ρ, M, E', r, m, h, k⟩ => ?_
  exact up_lc ow σ H _ ⟨ρ, M, _, r, m, h, fun v H1 d M1 f s q => k.nx _ _ _ _ ((r.up s.tups).set i f) s q⟩
theorem pts_y {X : Cx} : PTs X [] (upT X.K tYesD) := ⟨fun pins s σ H Q I ⟨ρ, M, Q', r, m, h, k⟩ => pts_nil.run pins s σ H Q I (k true H M (.refl m) h)⟩
theorem pts_1 {X : Cx} {c : Expr} {t : TTD} (h : DT X c t) : PTs X [c] (upT X.K t) := pts_one h
end
end
end DL

namespace DL
open PySem L2
open PyProof.Rows (b2i)

/-! ### repr -/
mutual
inductive RN (h : Heap) : Value → PyData → Prop
  | none : RN h .none .none
  | bool (b : Bool) : RN h (.bool b) (.bool b)
  | int (i : Int) (t : Tok) : RN h (.int i t) (.int i)
  | str (x : Str) (t : Tok) : RN h (.str x t) (.str x)
  | list {a : Addr} {o : Obj} {vs : Array Value} {n : Nat} {xs : List PyData} : h.get? a = some o → o.cls = .type "list" → o.data = .seq vs n → RNs h vs.toList xs → RN h (.ref a) (.list xs)
  | tuple {a : Addr} {o : Obj} {vs : Array Value} {n : Nat} {xs : List PyData} : h.get? a = some o → o.cls = .type "tuple" → o.data = .seq vs n → RNs h vs.toList xs → RN h (.ref a) (.tuple xs)
  | dict {a : Addr} {o : Obj} {es : Array DictEntry} {n : Nat} {kvs : List (PyData × PyData)} : h.get? a = some o → o.cls = .type "dict" → o.data = .dict es n → (a == sysModules) = false →
      RNs h (es.toList.map (·.key)) (kvs.map (·.1)) → RNs h (es.toList.map (·.val)) (kvs.map (·.2)) → RN h (.ref a) (.dict kvs)
inductive RNs (h : Heap) : List Value → List PyData → Prop
  | nil : RNs h [] []
  | cons {v : Value} {vs : List Value} {d : PyData} {ds : List PyData} : RN h v d → RNs h vs ds → RNs h (v :: vs) (d :: ds)
end
section
variable {h : Heap} {prog : Program} {w : World}
mutual
theorem RN.reads : ∀ {v : Value} {d : PyData}, RN h v d → ∃ as, Reads h v d as
  | _, _, .none => ⟨_, .none⟩
  | _, _, .bool b => ⟨_, .bool b⟩
  | _, _, .int i t => ⟨_, .int i t⟩
  | _, _, .str x t => ⟨_, .str x t⟩
  | _, _, .list h1 h2 h3 r => let ⟨_, q⟩ := RNs.reads r; ⟨_, .list h1 h2 h3 q⟩
  | _, _, .tuple h1 h2 h3 r => let ⟨_, q⟩ := RNs.reads r; ⟨_, .tuple h1 h2 h3 q⟩
  | _, _, .dict h1 h2 h3 _ r r' => let ⟨_, q⟩ := RNs.reads r; let ⟨_, q'⟩ := RNs.reads r'; ⟨_, .dict h1 h2 h3 q q'⟩
theorem RNs.reads : ∀ {vs : List Value} {ds : List PyData}, RNs h vs ds → ∃ as, ReadsAll h vs ds as
  | _, _, .nil => ⟨_, .nil⟩
  | _, _, .cons r rs => let ⟨_, q⟩ := RN.reads r; let ⟨_, q'⟩ := RNs.reads rs; ⟨_, .cons q q'⟩
end
/-- one object: what it shows, from what its parts show -/
theorem shows_list {a : Addr} {o : Obj} {vs : Array Value} {n : Nat} {xs : List PyData} {bs : List Addr} (h1 : h.get? a = some o) (h2 : o.cls = .type "list") (h3 : o.data = .seq vs n) (r : RNs h vs.toList xs) (hb : ReadAtMost h (PyData.depthAll xs) bs)
    (hk : ReprAllK prog w bs h (PyData.depthAll xs) vs.toList (PyData.shownAll xs)) : ∃ cs, ReadAtMost h (PyData.list xs).depth cs ∧ ReprK prog w cs h (PyData.list xs).depth (.ref a) (PyData.list xs).shown := by
  obtain ⟨as, q⟩ := RNs.reads r
  have rd : Reads h (.ref a) (.list xs) _ := .list h1 h2 h3 q
  have far : a ∉ bs := not_mem_of_deeper rd (by simp only [PyData.depth]; omega) hb
  refine ⟨a :: bs, ReadAtMost.cons rd (by simp only [PyData.depth]; omega) hb, ?_⟩
  simp only [PyData.depth, PyData.shown]
  obtain ⟨l⟩ := vs
  cases l with
  | nil =>
    have r0 : RNs h [] xs := r
    cases r0
    simp only [PyData.shownAll, listText_nil]
    exact ReprK.listEmpty h1 h2 h3
  | cons x l => exact ReprK.list h1 h2 h3 far (by simpa using hk.length_eq) fun i y e => hk.item i y (by simpa using e)
mutual
theorem RN.shows : ∀ {v : Value} {d : PyData}, RN h v d → d.showable = true → d.shown.length ≤ sizeLine → ∃ bs, ReadAtMost h d.depth bs ∧ ReprK prog w bs h d.depth v d.shown
  | _, _, .none, _, _ => ⟨[], (fun _ m => nomatch m), by simp only [PyData.shown]; exact .of_is ReprIs.none _ _ _⟩
  | _, _, .bool b, _, _ => ⟨[], (fun _ m => nomatch m), by simp only [PyData.shown]; exact .of_is (ReprIs.bool b) _ _ _⟩
  | _, _, .int i t, hs, _ => ⟨[], (fun _ m => nomatch m), by simp only [PyData.shown]; exact .of_is (ReprIs.int t (by simpa [PyData.showable] using hs)) _ _ _⟩
  | _, _, .str x t, _, hz => ⟨[], (fun _ m => nomatch m), by simp only [PyData.shown]; exact .of_is (ReprIs.str x t (by simpa only [PyData.shown] using hz)) _ _ _⟩
  | _, _, .list (xs := xs) h1 h2 h3 r, hs, hz => by
    have z : (listText (PyData.shownAll xs)).length ≤ sizeLine := by simpa only [PyData.shown] using hz
    obtain ⟨bs, hb, hk⟩ := RNs.shows r (by simpa [PyData.showable] using hs) fun t ht => Nat.le_trans (listText_mem_le ht) z
    exact shows_list h1 h2 h3 r hb hk
  | _, _, .tuple (a := a) (xs := xs) h1 h2 h3 r, hs, hz => by
    have z : (tupleText (PyData.shownAll xs)).length ≤ sizeLine := by simpa only [PyData.shown] using hz
    obtain ⟨bs, hb, hk⟩ := RNs.shows r (by simpa [PyData.showable] using hs) fun t ht => Nat.le_trans (tupleText_mem_le ht) z
    obtain ⟨as, q⟩ := RNs.reads r
    have rd : Reads h (.ref a) (.tuple xs) _ := .tuple h1 h2 h3 q
    refine ⟨a :: bs, ReadAtMost.cons rd (by simp only [PyData.depth]; omega) hb, ?_⟩
    simp only [PyData.depth, PyData.shown]
    exact ReprK.tuple h1 h2 h3 (not_mem_of_deeper rd (by simp only [PyData.depth]; omega) hb) hk
  | _, _, .dict (a := a) (es := es) (kvs := kvs) h1 h2 h3 h4 r r', hs, hz => by
    have z : (dictText (PyData.shownKv kvs)).length ≤ sizeLine := by simpa only [PyData.shown] using hz
    obtain ⟨s1, s2⟩ := PyData.showableKv_split kvs (by simpa [PyData.showable] using hs)
    obtain ⟨b1, m1, k1⟩ := RNs.shows r s1 fun t ht => let ⟨p, hp, hl⟩ := PyData.shownKv_key_le kvs t ht; Nat.le_trans hl (Nat.le_trans (dictText_mem_le hp) z)
    obtain ⟨b2, m2, k2⟩ := RNs.shows r' s2 fun t ht => let ⟨p, hp, hl⟩ := PyData.shownKv_val_le kvs t ht; Nat.le_trans hl (Nat.le_trans (dictText_mem_le hp) z)
    obtain ⟨as, q⟩ := RNs.reads r
    obtain ⟨as', q'⟩ := RNs.reads r'
    have rd : Reads h (.ref a) (.dict kvs) _ := .dict h1 h2 h3 q q'
    have mm : ReadAtMost h (PyData.depthKv kvs) (b1 ++ b2) := (m1.mono (PyData.depthAll_keys_le kvs)).append (m2.mono (PyData.depthAll_vals_le kvs))
    refine ⟨a :: (b1 ++ b2), ReadAtMost.cons rd (by simp only [PyData.depth]; omega) mm, ?_⟩
    simp only [PyData.depth, PyData.shown, PyData.shownKv_eq]
    exact ReprK.dict h1 h2 h3 h4 (not_mem_of_deeper rd (by simp only [PyData.depth]; omega) mm) (ReprEntriesK.of_two es.toList _ _
      (k1.more_le (fun b hb => List.mem_append_left _ hb) (PyData.depthAll_keys_le kvs)) (k2.more_le (fun b hb => List.mem_append_right _ hb) (PyData.depthAll_vals_le kvs)))
theorem RNs.shows : ∀ {vs : List Value} {ds : List PyData}, RNs h vs ds → PyData.showableAll ds = true → (∀ t ∈ PyData.shownAll ds, t.length ≤ sizeLine) → ∃ bs, ReadAtMost h (PyData.depthAll ds) bs ∧ ReprAllK prog w bs h (PyData.depthAll ds) vs (PyData.shownAll ds)
  | _, _, .nil, _, _ => ⟨[], (fun _ m => nomatch m), by simp only [PyData.shownAll]; exact .nil⟩
  | _, _, .cons (d := d) (ds := ds) r rs, hs, hz => by
    have s : d.showable = true ∧ PyData.showableAll ds = true := by simpa [PyData.showableAll] using hs
    obtain ⟨b1, m1, k1⟩ := RN.shows r s.1 (hz _ (by simp only [PyData.shownAll]; exact List.mem_cons_self ..))
    obtain ⟨b2, m2, k2⟩ := RNs.shows rs s.2 fun t ht => hz t (by simp only [PyData.shownAll]; exact List.mem_cons_of_mem _ ht)
    have l1 : d.depth ≤ PyData.depthAll (d :: ds) := by simp only [PyData.depthAll]; exact Nat.le_max_left _ _
    have l2 : PyData.depthAll ds ≤ PyData.depthAll (d :: ds) := by simp only [PyData.depthAll]; exact Nat.le_max_right _ _
    refine ⟨b1 ++ b2, (m1.mono l1).append (m2.mono l2), ?_⟩
    simp only [PyData.shownAll]
    exact .cons ((k1.more fun b hb => List.mem_append_left _ hb).level_le l1) (k2.more_le (fun b hb => List.mem_append_right _ hb) l2)
end
/-- repr(x) of an object -/
theorem repr_RN {A : Around} {E : Value → Shared → Prop} {s : Shared} {Q : Value → Shared → Prop} {a : Addr} {d : PyData} (r : RN s.heap (.ref a) d) (hs : d.showable = true) (hg : A.guards = some []) (hu : A.units + (d.depth + 1) < cLine) (hz : d.shown.length ≤ sizeLine)
    (hQ : ∀ h' u tk, (∀ b o, s.heap.get? b = some o → h'.get? b = some o) → Q (.str d.shown u) { s with heap := h', toks := tk }) : wpAny (model prog w) A (call (.builtin "repr") [.ref a]) Q E s := by
  have hg1 : A.in1.guards = some [] := hg
  have hk : ∀ b o, s.heap.get? b = some o → s.heap.get? b = some o := fun _ _ e => e
  cases r with
  | @list _ o vs n xs h1 h2 h3 r =>
    have z : (listText (PyData.shownAll xs)).length ≤ sizeLine := by simpa only [PyData.shown] using hz
    obtain ⟨bs, hb, hK⟩ := RNs.shows (prog := prog) (w := w) r (by simpa [PyData.showable] using hs) fun t ht => Nat.le_trans (listText_mem_le ht) z
    obtain ⟨as, q⟩ := RNs.reads r
    have rd : Reads s.heap (.ref a) (.list xs) _ := .list h1 h2 h3 q
    have far : a ∉ bs := not_mem_of_deeper rd (by simp only [PyData.depth]; omega) hb
    simp only [PyData.depth] at hu
    simp only [PyData.shown] at hQ
    refine call_repr_slot (by omega) ⟨o, h1, h2⟩ F.slot_list_repr.toG ?_
    obtain ⟨l⟩ := vs
    cases l with
    | nil =>
      have r0 : RNs s.heap [] xs := r
      cases r0
      simp only [PyData.shownAll, listText_nil] at hQ
      exact call_list_repr_empty ⟨o, h1, h2⟩ h1 h3 ⟨_, _, rfl, hQ s.heap _ _ hk⟩
    | cons x l =>
      exact call_list_reprK h1 h2 h3 far (by simpa using hK.length_eq) (fun i y e => hK.item i y (by simpa using e)) hg1 (fun b _ => Clear.nil b) (by show A.units + 1 + _ < _; omega) hk (fun h' u tk k => ⟨_, _, rfl, hQ h' u tk k⟩) z
  | @tuple _ o vs n xs h1 h2 h3 r =>
    have z : (tupleText (PyData.shownAll xs)).length ≤ sizeLine := by simpa only [PyData.shown] using hz
    obtain ⟨bs, hb, hK⟩ := RNs.shows (prog := prog) (w := w) r (by simpa [PyData.showable] using hs) fun t ht => Nat.le_trans (tupleText_mem_le ht) z
    obtain ⟨as, q⟩ := RNs.reads r
    have rd : Reads s.heap (.ref a) (.tuple xs) _ := .tuple h1 h2 h3 q
    have far : a ∉ bs := not_mem_of_deeper rd (by simp only [PyData.depth]; omega) hb
    simp only [PyData.depth] at hu
    simp only [PyData.shown] at hQ
    refine call_repr_slot (by omega) ⟨o, h1, h2⟩ F.slot_tuple_repr ?_
    exact call_tuple_reprK h1 h2 h3 far hK hg1 (fun b _ => Clear.nil b) (by show A.units + 1 + _ < _; omega) hk (fun h' u tk k => ⟨_, _, rfl, hQ h' u tk k⟩) z
  | @dict _ o es n kvs h1 h2 h3 h4 r r' =>
    have z : (dictText (PyData.shownKv kvs)).length ≤ sizeLine := by simpa only [PyData.shown] using hz
    obtain ⟨s1, s2⟩ := PyData.showableKv_split kvs (by simpa [PyData.showable] using hs)
    obtain ⟨b1, m1, k1⟩ := RNs.shows (prog := prog) (w := w) r s1 fun t ht => let ⟨p, hp, hl⟩ := PyData.shownKv_key_le kvs t ht; Nat.le_trans hl (Nat.le_trans (dictText_mem_le hp) z)
    obtain ⟨b2, m2, k2⟩ := RNs.shows (prog := prog) (w := w) r' s2 fun t ht => let ⟨p, hp, hl⟩ := PyData.shownKv_val_le kvs t ht; Nat.le_trans hl (Nat.le_trans (dictText_mem_le hp) z)
    obtain ⟨as, q⟩ := RNs.reads r
    obtain ⟨as', q'⟩ := RNs.reads r'
    have rd : Reads s.heap (.ref a) (.dict kvs) _ := .dict h1 h2 h3 q q'
    have mm : ReadAtMost s.heap (PyData.depthKv kvs) (b1 ++ b2) := (m1.mono (PyData.depthAll_keys_le kvs)).append (m2.mono (PyData.depthAll_vals_le kvs))
    have far : a ∉ b1 ++ b2 := not_mem_of_deeper rd (by simp only [PyData.depth]; omega) mm
    simp only [PyData.depth] at hu
    simp only [PyData.shown, PyData.shownKv_eq] at hQ
    refine call_repr_slot (by omega) ⟨o, h1, h2⟩ F.slot_dict_repr ?_
    exact call_dict_reprK h1 h2 h3 h4 far (ReprEntriesK.of_two es.toList _ _
      (k1.more_le (fun b hb => List.mem_append_left _ hb) (PyData.depthAll_keys_le kvs)) (k2.more_le (fun b hb => List.mem_append_right _ hb) (PyData.depthAll_vals_le kvs))) hg1 (fun b _ => Clear.nil b) (by show A.units + 1 + _ < _; omega) hk (fun h' u tk k => ⟨_, _, rfl, hQ h' u tk k⟩) (by rw [← PyData.shownKv_eq]; exact z)
end
section
variable {X : Cx} {pins : List (Addr × Obj)} {σ : St} {H : Hp} {s : Shared} {M : Mp}
theorem pairs_key {es : List DictEntry} {vs : List (Key × Value)} {prog : Program} {w : World} : Pairs (mixKind prog w) es vs → ∀ {kvs : List (Key × D)} {ps : List (PyData × PyData)}, vs.map (·.1) = kvs.map (·.1) → RdmKv M kvs ps → RNs s.heap (es.map (·.key)) (ps.map (·.1)) := by
  intro h
  induction h with
  | nil =>
    intro kvs ps e r
    cases r <;> first | exact .nil | (simp at e)
  | @cons e kv es vs h1 h2 h3 ih =>
    intro kvs ps e' r
    cases r with
    | nil => simp at e'
    | @consI i d r p ps h r =>
      simp only [List.map_cons, List.cons.injEq] at e'
      refine .cons ?_ (ih e'.2 r)
      have z : keyIs kv.1 e.key = true := h1
      rw [e'.1] at z
      rcases keyIs_shape z with ⟨i', t, q1, q2⟩ | ⟨x', t, q1, q2⟩
      · cases q1; show RN s.heap e.key _; rw [q2]; exact .int _ _
      · cases q1
    | @consS i d r p ps h r =>
      simp only [List.map_cons, List.cons.injEq] at e'
      refine .cons ?_ (ih e'.2 r)
      have z : keyIs kv.1 e.key = true := h1
      rw [e'.1] at z
      rcases keyIs_shape z with ⟨i', t, q1, q2⟩ | ⟨x', t, q1, q2⟩
      · cases q1
      · cases q1; show RN s.heap e.key _; rw [q2]; exact .str _ _
theorem pairs_val {es : List DictEntry} {vs : List (Key × Value)} {prog : Program} {w : World} : Pairs (mixKind prog w) es vs → es.map (·.val) = vs.map (·.2) := by
  intro h
  induction h with
  | nil => rfl
  | cons h1 h2 h3 ih => rw [List.map_cons, List.map_cons, ih, h2]
theorem paired_fst {A B : Type} {κ : Type} {P : A → B → Prop} : ∀ {l : List (κ × A)} {m : List (κ × B)}, Paired (fun p q => p.1 = q.1 ∧ P p.2 q.2) l m → l.map (·.1) = m.map (·.1)
  | _, _, .nil => rfl
  | _, _, .cons h t => by rw [List.map_cons, List.map_cons, h.1, paired_fst t]
mutual
theorem Rdm.rn (I : Inv X pins σ H s) (m : MemOk X.K H M) : ∀ (p : PyData) (d : D) (v : V) (u : Value), Rdm M d p → Fz X.K H v d → RelV v u → RN s.heap u p
  | .none, _, _, _, h, f, r => by cases h; cases f; cases r; exact .none
  | .bool _, _, _, _, h, f, r => by cases h; cases f; cases r; exact .bool _
  | .int _, _, _, _, h, f, r => by cases h; cases f; obtain ⟨t, rfl⟩ := r; exact .int _ _
  | .str _, _, _, _, h, f, r => by cases h; cases f; obtain ⟨t, rfl⟩ := r; exact .str _ _
  | .list ps, _, _, _, h, f, r => by
    cases h with
    | lst ha hr =>
      cases f; cases r
      obtain ⟨xs, e, fs⟩ := m.lst ha
      obtain ⟨its, rv, ⟨o, n, ho, hc, _, hd⟩, _⟩ := I.list (.of e)
      exact .list ho hc hd (RdmAll.rn I m ps _ _ _ hr fs rv)
  | .tuple ps, _, _, _, h, f, r => by
    cases h with
    | tup hr =>
      cases f with
      | tup hs fs =>
        cases r
        obtain ⟨its, rv, ⟨o, ho, hc, n, hd⟩, _⟩ := I.tuple hs.t
        exact .tuple ho hc hd (RdmAll.rn I m ps _ _ _ hr fs rv)
  | .dict ps, _, _, _, h, f, r => by
    cases h with
    | @dct a kvs _ ha hr =>
      cases f; cases r
      obtain ⟨u, e, xs, rfl, fs⟩ := m a _ ha
      obtain ⟨_, hsys, vs, kv, o, es, ep, ho, ex, hd, _, pr, _⟩ := I.hok a _ e
      have e1 : xs.map (·.1) = kvs.map (·.1) := paired_fst fs
      have e2 : xs.map (·.1) = vs.map (·.1) := paired_fst kv
      refine .dict ho ex.1 hd hsys (pairs_key pr (e2.symm.trans e1) hr) ?_
      rw [pairs_val pr]
      exact RdmKv.rn I m ps _ _ _ hr fs kv
theorem RdmAll.rn (I : Inv X pins σ H s) (m : MemOk X.K H M) : ∀ (ps : List PyData) (ds : List D) (vs : List V) (us : List Value), RdmAll M ds ps → FzAll X.K H vs ds → Vals vs us → RNs s.heap us ps
  | [], _, _, _, h, f, r => by cases h; cases f; cases r; exact .nil
  | p :: ps, _, _, _, h, f, r => by
    cases h with
    | cons h1 h2 =>
      cases f with
      | cons f1 f2 =>
        cases r with
        | cons r1 r2 => exact .cons (Rdm.rn I m p _ _ _ h1 f1 r1) (RdmAll.rn I m ps _ _ _ h2 f2 r2)
theorem RdmKv.rn (I : Inv X pins σ H s) (m : MemOk X.K H M) : ∀ (ps : List (PyData × PyData)) (kvs : List (Key × D)) (xs : List (Key × V)) (vs : List (Key × Value)), RdmKv M kvs ps → KFz X.K H xs kvs → KV xs vs → RNs s.heap (vs.map (·.2)) (ps.map (·.2))
  | [], _, _, _, h, f, r => by cases h; cases f; cases r; exact .nil
  | (k, p) :: ps, _, _, _, h, f, r => by
    cases h with
    | consI h1 h2 =>
      cases f with
      | cons f1 f2 =>
        cases r with
        | cons r1 r2 => exact .cons (Rdm.rn I m p _ _ _ h1 f1.2 r1.2) (RdmKv.rn I m ps _ _ _ h2 f2 r2)
    | consS h1 h2 =>
      cases f with
      | cons f1 f2 =>
        cases r with
        | cons r1 r2 => exact .cons (Rdm.rn I m p _ _ _ h1 f1.2 r1.2) (RdmKv.rn I m ps _ _ _ h2 f2 r2)
end
end
/-- what repr asks of data -/
def Shw (p : PyData) : Prop := p.showable = true ∧ p.depth ≤ 100 ∧ p.shown.length ≤ sizeLine
def rReprX : RCD := fun ds M Q => match ds with
  | [d] => ∃ p, Rdm M d p ∧ Shw p ∧ Q (.str p.shown) M
  | _ => False
theorem ca_repr {X : Cx} (hg : X.A.guards = some []) (hu : X.A.units + 200 < cLine) : CaR X (.builtin "repr") rReprX := by
  refine ⟨fun vs H Q => ∃ v d M p Q', vs = [v] ∧ Fz X.K H v d ∧ MemOk X.K H M ∧ Rdm M d p ∧ Shw p ∧ Q' (D.str p.shown) M ∧ KLe X.K H M Q' Q, ?_, ?_⟩
  · intro pins s σ H xs us Q I r h
    obtain ⟨v, d, M, p, Q', rfl, f, m, hr, ⟨hs, hd, hz⟩, q, k⟩ := h
    obtain ⟨u, rfl, rv⟩ := vals1 r
    have fin : ∀ h' t tk, (∀ b o, s.heap.get? b = some o → h'.get? b = some o) → EP X pins σ Q (.str p.shown t) { s with heap := h', toks := tk } := fun h' t tk kp => ⟨.str p.shown, H, I.kept kp, ⟨t, rfl⟩, k.val m (.str _) q⟩
    have rn := Rdm.rn I m p d v u hr f rv
    cases rn with
    | none =>
      refine PySem.P.repr_of_none ?_
      simpa only [PyData.shown] using fin s.heap s.toks _ fun _ _ e => e
    | bool b =>
      refine PySem.P.repr_of_bool ?_
      simpa only [PyData.shown] using fin s.heap s.toks _ fun _ _ e => e
    | int i t =>
      refine PySem.P.repr_of_int (by simpa [PyData.showable] using hs) ?_
      simpa only [PyData.shown] using fin s.heap s.toks _ fun _ _ e => e
    | str x t =>
      refine PySem.P.repr_of_str ?_ (by simpa only [PyData.shown] using hz)
      simpa only [PyData.shown] using fin s.heap s.toks _ fun _ _ e => e
    | list h1 h2 h3 r3 => exact repr_RN (.list h1 h2 h3 r3) hs hg (by omega) hz fin
    | tuple h1 h2 h3 r3 => exact repr_RN (.tuple h1 h2 h3 r3) hs hg (by omega) hz fin
    | dict h1 h2 h3 h4 r3 r4 => exact repr_RN (.dict h1 h2 h3 h4 r3 r4) hs hg (by omega) hz fin
  · intro H M vs ds Q' Q fs m h k
    unfold rReprX at h
    split at h
    · obtain ⟨p, hr, hs, q⟩ := h
      cases fs with
      | cons f t =>
        cases t
        exact ⟨_, _, M, p, Q', rfl, f, m, hr, hs, q, k⟩
    · exact h.elim
end DL

namespace DL
open PySem L2
open PySem.Spec PyProof.Rows

/-! ### defs: as the hand layer has them, and nothing is being shown by repr around -/
structure FnG (P : Program) (w : World) (K : PySem.W.Frag) (mg : Str → Option Value) (base : Heap) (CX : CXT) (k : Nat) (f : Addr) (fd : FuncData) (ps : List Str) (sp : Sp) : Prop where
  len : ∀ vs H Q E, sp vs H Q E → vs.length = ps.length
  run : ∀ (A : Around) (outer : List Env) (s : Shared) (H : Hp) (args : Args) (us : List Value) (vs : List V) (Q : VK) (E : XK), Room k A → A.guards = some [] → Env0 P w K mg base A outer s H → BindsTo s fd args (ps.zip us) → Vals vs us → sp vs H Q E →
    codeAny (model P w) A (.call (.ref f) args) (L2.CR CX outer P w H s Q E) s
theorem FnG.mono {P : Program} {w : World} {K : PySem.W.Frag} {mg : Str → Option Value} {base : Heap} {CX : CXT} {j k : Nat} {f : Addr} {fd : FuncData} {ps : List Str} {sp : Sp} (F : FnG P w K mg base CX j f fd ps sp) (h : j ≤ k) : FnG P w K mg base CX k f fd ps sp :=
  ⟨F.len, fun A outer s H args us vs Q E hr hg e0 hb r hs => F.run A outer s H args us vs Q E (hr.mono h) hg e0 hb r hs⟩

theorem fnG_of {CX : CXT} {P : Program} {w : World} {K : PySem.W.Frag} {mg : Str → Option Value} {base : Heap} {k : Nat} {f : Addr} {name qual : Str} {params : Arguments} {body : List Stmt} {scope : Scope} {dV kV doc pm cdv ct oc : Value} {an od : Option Addr}
    {osl : Array (Option Value)} {N ps : List Str} {sp : Sp} (lk : K.lookup f = some ⟨oc, od, .func (PySem.W.fnOf name qual params body scope dV kV doc pm an cdv ct), osl⟩) (hcd : PySem.W.codeIn K cdv qual = true) (S : FnScope N ps scope)
    (len : ∀ vs H Q E, sp vs H Q E → vs.length = ps.length)
    (hbody : ∀ (A : Around) (outer : List Env) (s : Shared) (H : Hp) (vs : List V) (Q : VK) (E : XK), Room k (A.deeper (envOfC qual scope s.heap.objs.size f cdv)) → A.guards = some [] → sp vs H Q E →
      ∃ t, PSs (cxOf CX P w K mg base N qual scope f cdv A outer s H E) body t ∧ t { nx := fun _ H' => Q .non H', rt := Q } (L2.start N vs) H) :
    FnG P w K mg base CX (k + 1) f (PySem.W.fnOf name qual params body scope dV kV doc pm an cdv ct) ps sp := by
  refine ⟨len, fun A outer s H args us vs Q E room gd e0 hb rv hsp => ?_⟩
  have nvs := len _ _ _ _ hsp
  have kin : K.In s.heap := e0.mod.kin.keeps fun b o e => (e0.bs b o e).1
  have nolim : s.heap.NoLimit := e0.mod.nolimit.keeps fun b o e => (e0.bs b o e).1
  have parms : ∀ y ∈ ps.zip us, scope.names.lookup y.1 = some .local ∨ (scope.names.lookup y.1 = some .cell ∧ ((cellsFrom (s.heap.objs.size + 1) scope.names []).lookup y.1).isSome = true) := fun y hy =>
    (S.par y.1 (List.of_mem_zip (show (y.1, y.2) ∈ ps.zip us from hy)).1).elim .inl fun q => .inr ⟨q, PySem.W.cellsFrom_some _ _ _ (.inl q)⟩
  refine codeAny_call_function room.depth (kin _ _ lk) rfl S.co S.gen rfl (PySem.W.codeRec_of kin hcd) (hb _ _ _ _ (wpAny_newFunctionEnv_cells S.kind parms fun env he s1 x => ?_))
  subst he
  refine ⟨nolim.keeps x.toInCall.keep, codeAny_func ?_⟩
  obtain ⟨t, ht, hq⟩ := hbody A outer s H vs Q E (room.deeper _) gd hsp
  refine wpAny_mono (ht.run [] s1 (L2.start N vs) H _ (inv_start S room.hd e0 nvs rv x) hq) (fun fl s' hs => ?_) fun e s' hs => hs
  cases fl with
  | ret u =>
    obtain ⟨v, σ', H', J, rv, q⟩ := hs
    exact ⟨v, H', J.os, J.bare, J.base, J.hok, rv, q⟩
  | next =>
    obtain ⟨σ', H', J, q⟩ := hs
    exact ⟨V.non, H', J.os, J.bare, J.base, J.hok, rfl, q⟩
  | brk =>
    obtain ⟨_, _, _, q⟩ := hs
    exact q.elim
  | cont =>
    obtain ⟨_, _, _, q⟩ := hs
    exact q.elim

/-! ### promises over data -/
abbrev XD := Value → List (Str × D) → Mp → Prop
abbrev SpD := List D → Mp → KD → XD → Prop
def XOk (K : PySem.W.Frag) (H : Hp) (od : Option Addr) (fs : List (Str × D)) : Prop := match od with
  | none => fs = []
  | some d => ∃ gs, H d = some (.xd gs) ∧ KFz K H gs fs
def XLe (K : PySem.W.Frag) (H : Hp) (M : Mp) (E' : XD) (E : XK) : Prop := ∀ cv od H' fs M', XOk K H' od fs → Step K H M H' M' → E' cv fs M' → E cv od H'
def upSp (K : PySem.W.Frag) (sp : SpD) : Sp := fun vs H Q E => ∃ ds M Q' E', FzAll K H vs ds ∧ MemOk K H M ∧ sp ds M Q' E' ∧ KLe K H M Q' Q ∧ XLe K H M E' E
abbrev FnD (P : Program) (w : World) (K : PySem.W.Frag) (mg : Str → Option Value) (base : Heap) (CX : CXT) (k : Nat) (f : Addr) (fd : FuncData) (ps : List Str) (sp : SpD) : Prop := FnG P w K mg base CX k f fd ps (upSp K sp)
abbrev X0 : XD := fun _ _ _ => False
def startD (N : List Str) (ds : List D) : DSt := ds.map some ++ List.replicate (N.length - ds.length) none
theorem relS_start {K : PySem.W.Frag} {H : Hp} {N : List Str} {vs : List V} {ds : List D} (f : FzAll K H vs ds) : RelS K H (L2.start N vs) (startD N ds) := by
  have hl := f.length
  refine ⟨by unfold L2.start startD; simp only [List.length_append, List.length_map, List.length_replicate, hl], fun i d e => ?_⟩
  unfold startD at e
  unfold L2.start
  by_cases hi : i < ds.length
  · rw [List.getElem?_append_left (by simpa using hi), List.getElem?_map] at e
    cases q : ds[i]? with
    | none => rw [q] at e; cases e
    | some d' =>
      rw [q] at e
      cases e
      obtain ⟨v, hv, g⟩ := f.get q
      exact ⟨v, by rw [List.getElem?_append_left (by rw [List.length_map, hl]; exact hi), List.getElem?_map, hv]; rfl, g⟩
  · rw [List.getElem?_append_right (by simpa using hi), List.getElem?_replicate] at e
    split at e <;> cases e
section
variable {P : Program} {w : World} {K : PySem.W.Frag} {mg : Str → Option Value} {base : Heap}
theorem len_up {sp : SpD} {n : Nat} (len : ∀ ds M Q E, sp ds M Q E → ds.length = n) : ∀ vs H Q E, upSp K sp vs H Q E → vs.length = n := fun vs H Q E ⟨ds, M, Q', E', f, m, h, _⟩ => by
  rw [f.length]
  exact len _ _ _ _ h
/-- a def that lets no exception out, by its body -/
theorem okD {x qual : Str} {st : Stmt} {f : Addr} {fd : FuncData} {N ps : List Str} {k : Nat} {sp : SpD} (F : Fun K x qual st f fd) (S : FnScope N ps (defScope st)) (len : ∀ ds M Q E, sp ds M Q E → ds.length = ps.length)
    (hbody : ∀ (cdv : Value) (A : Around) (outer : List Env) (s : Shared) (H : Hp) (E : XK), Room k (A.deeper (envOfC qual (defScope st) s.heap.objs.size f cdv)) → A.guards = some [] → ∀ (ds : List D) (M : Mp) (Q : KD) (E' : XD), sp ds M Q E' →
      ∃ t, DSs (cxOf CX0 P w K mg base N qual (defScope st) f cdv A outer s H E).nox (defBody st) t ∧ t { nx := fun _ M' => Q .non M', rt := Q } (startD N ds) M) : FnD P w K mg base CX0 (k + 1) f fd ps sp := by
  obtain ⟨oc, od, kV, doc, pm, an, cdv, ct, osl, rfl, lk, hcd⟩ := F.ex
  refine fnG_of lk hcd S (len_up len) fun A outer s H vs Q E hr hg ⟨ds, M, Q', E', f, m, h, k1, _⟩ => ?_
  obtain ⟨t, ht, q⟩ := hbody cdv A outer s H E hr hg ds M Q' E' h
  exact ⟨_, ht.nox, startD N ds, M, _, relS_start f, m, q, ⟨fun σ' ρ' H' M' r s q => k1 _ _ _ _ .non s q, k1, fun _ _ _ _ _ _ z => z.elim, fun _ _ _ _ _ _ z => z.elim⟩⟩
end

/-! ### calls -/
def dCall (sp : SpD) (t : TAD) : TED := fun ρ M Q => t ρ M fun ds M1 => sp ds M1 Q X0
section
variable {X : Cx} {CX : CXT} {k : Nat} {f C : Addr} {fd : FuncData} {ps : List Str} {sp : Sp} {E : XK} {x m : Str} {p pos apos : Pos} {e o : Expr} {es : List Expr} {ta : TE} {t : TA}
theorem run_fnG {pins : List (Addr × Obj)} {σ : L2.St} {H : Hp} {s : Shared} {Q : VK} {us : List Value} {vs : List V} (F : FnG X.prog X.w X.K X.mg X.base CX k f fd ps sp) (hr : Room k X.A) (hgd : X.A.guards = some []) (hb : Binds X.K fd ps []) (hx : Passes CX X E)
    (I : Inv X pins σ H s) (r : Vals vs us) (h : sp vs H Q E) : wpAny (model X.prog X.w) X.A (call (.ref f) us) (EP X pins σ Q) X.xe s := by
  have hl : us.length = ps.length := by rw [← r.length]; exact F.len _ _ _ _ h
  have bt := hb s us I.kIn (by rw [List.append_nil]; exact hl)
  rw [List.append_nil] at bt
  refine wpAny_call (codeAny_mono (F.run X.A X.stack s H ⟨us, []⟩ us vs Q E hr hgd I.env0 bt r h) fun r s' hq => ?_)
  match r, hq with
  | .error e, hq => exact hx pins σ H s e s' I hq
  | .ok (.ret u), hq => exact I.after hq
theorem pe_callG (F : FnG X.prog X.w X.K X.mg X.base CX k f fd ps sp) (hr : Room k X.A) (hgd : X.A.guards = some []) (hg : Gl X x) (hm : X.mg x = some (.ref f)) (hk : PySem.W.keepIn X.K (.ref f) = true) (hb : Binds X.K fd ps []) (hx : Passes CX X E)
    (ha : PA X (e :: es) t) (hdb : (x == ("__debug__" : Str)) = false := by decide) (he : starEach (e :: es) X.env = (false, eval e X.env) :: starEach es X.env := by rfl) (hpl : (backTo pos (starEach es X.env)).any (·.1) = false := by rfl) :
    PE X (.Call (.Name x p) (e :: es) [] pos) (fun σ H Q => t σ H fun vs H1 => sp vs H1 Q E) := by
  refine ⟨fun pins s σ H Q I h => wpAny_Call_Name_kw (ld_glob I hg hm ?_ hdb)⟩
  exact PySem.W.callWith_K (h₀ := X.base) I.ok.mod.kin hk (thn (ha.run pos pins s σ H _ I h) fun us s1 ⟨vs, H1, I1, r, q⟩ => ⟨I1.kIn, run_fnG F hr hgd hb hx I1 r q⟩) he hpl
theorem pe_callG0 (F : FnG X.prog X.w X.K X.mg X.base CX k f fd ps sp) (hr : Room k X.A) (hgd : X.A.guards = some []) (hg : Gl X x) (hm : X.mg x = some (.ref f)) (hk : PySem.W.keepIn X.K (.ref f) = true) (hb : Binds X.K fd ps []) (hx : Passes CX X E)
    (hdb : (x == ("__debug__" : Str)) = false := by decide) : PE X (.Call (.Name x p) [] [] pos) (fun σ H Q => sp [] H Q E) :=
  ⟨fun pins s σ H Q I h => wpAny_Call_Name_kw (ld_glob I hg hm (PySem.W.callWith_K0 I.kIn hk (run_fnG (us := []) F hr hgd hb hx I .nil h)) hdb)⟩
end
section
variable {X : Cx} {k : Nat} {f : Addr} {fd : FuncData} {ps : List Str} {sp : SpD} {x : Str} {p pos : Pos} {e : Expr} {es : List Expr} {t : TAD}
/-- f(e, ..), f a def that lets no exception out -/
theorem de_call (F : FnD X.prog X.w X.K X.mg X.base CX0 k f fd ps sp) (hr : Room k X.A) (hgd : X.A.guards = some []) (hg : Gl X x) (hm : X.mg x = some (.ref f)) (hk : PySem.W.keepIn X.K (.ref f) = true) (hb : Binds X.K fd ps [])
    (ha : DA X (e :: es) t) (hdb : (x == ("__debug__" : Str)) = false := by decide) (he : starEach (e :: es) X.env = (false, eval e X.env) :: starEach es X.env := by rfl) (hpl : (backTo pos (starEach es X.env)).any (·.1) = false := by rfl) :
    DE X (.Call (.Name x p) (e :: es) [] pos) (dCall sp t) :=
  pe_weak (pe_callG F hr hgd hg hm hk hb pass0 ha hdb he hpl) fun σ H Q ⟨ρ, M, Q', r, m, h, k⟩ => ⟨ρ, M, _, r, m, h, fun vs H1 ds M1 fs s q => ⟨ds, M1, Q', X0, fs, s.mem, q, k.after s, fun _ _ _ _ _ _ _ z => z.elim⟩⟩
theorem de_call0 (F : FnD X.prog X.w X.K X.mg X.base CX0 k f fd ps sp) (hr : Room k X.A) (hgd : X.A.guards = some []) (hg : Gl X x) (hm : X.mg x = some (.ref f)) (hk : PySem.W.keepIn X.K (.ref f) = true) (hb : Binds X.K fd ps [])
    (hdb : (x == ("__debug__" : Str)) = false := by decide) : DE X (.Call (.Name x p) [] [] pos) (dCall sp dNil) :=
  pe_weak (pe_callG0 F hr hgd hg hm hk hb pass0 hdb) fun σ H Q ⟨ρ, M, Q', r, m, h, k⟩ => ⟨[], M, Q', X0, .nil, m, h, k, fun _ _ _ _ _ _ _ z => z.elim⟩
end

/-! ### the law -/
/-- at the law's call: the script is a list that nobody writes, nothing else is known -/
theorem law_G {P : Program} {w : World} {K : PySem.W.Frag} {mg mb : Str → Option Value} {CX : CXT} {k : Nat} {fa a : Addr} {fd : FuncData} {x : Str} {sp : SpD} {s₁ : Shared} {vs : List Value} {ns : List Int}
    (KX : K.In s₁.heap) (hns : s₁.heap.Ns mainGlobals mg) (hb : s₁.heap.Ns builtinsNs mb) (hbb : ∀ x : Str, x ≠ "__name__" → mb x = bootBuiltins x) (hlim : s₁.heap.NoLimit) (hg : s₁.gens = #[])
    (ha : s₁.heap.get? a = some { cls := .type "list", data := .seq vs.toArray }) (hi : IntsAre vs ns) (hl : ns.length ≤ sizeLine) (hr : Room k callerA)
    (F : ∀ base : Heap, K.In base → base.Ns mainGlobals mg → FnD P w K mg base CX k fa fd [x] sp) (hbind : ∀ (s : Shared) (u : Value), BindsTo s fd ⟨[u], []⟩ [(x, u)])
    (hsp : sp [.fl (ns.map D.int)] (fun _ => none) (fun d _ => d = .bl true) X0)
    (hCX : ∀ H e s', CX [] H s₁ (fun _ _ _ => False) e s' → False) :
    codeAny (model P w) callerA (.call (.ref fa) ⟨[.ref a], []⟩) (fun r s' => r = .ok (.ret (.bool true)) ∧ OldK s₁.heap s'.heap ∧ s'.os = s₁.os ∧ AllBare s'.gens) s₁ := by
  have lenV := hi.length
  have old : ∀ {Hh : Hp}, Fro K Hh a (ns.map V.int) → Fz K Hh (.ref a) (.fl (ns.map D.int)) := fun q => .fl q FzAll.of_ints
  -- the heap's abstract picture H tracks the script alone, or nothing
  have core : ∀ H : Hp, (∀ b u, H b = some u → b = a ∧ u = .frz { cls := .type "list", data := .seq vs.toArray } (.lst (ns.map V.int))) → Fro K H a (ns.map V.int) → HOk P w H s₁.heap → (H a ≠ none → K.lookup a = none) →
      codeAny (model P w) callerA (.call (.ref fa) ⟨[.ref a], []⟩) (fun r s' => r = .ok (.ret (.bool true)) ∧ OldK s₁.heap s'.heap ∧ s'.os = s₁.os ∧ AllBare s'.gens) s₁ := by
    intro H only hS hok noK
    have un : ∀ {b : Addr} {o : Obj}, s₁.heap.get? b = some o → (∀ its n, o.data ≠ .seq its n) → H b = none := fun {b o} e d => by
      cases q : H b with
      | none => rfl
      | some u =>
        obtain ⟨rfl, _⟩ := only b u q
        rw [ha] at e; cases e
        exact absurd rfl (d _ _)
    have inB : ∀ {b : Addr} {m : Str → Option Value}, s₁.heap.Ns b m → (hidT s₁.heap H).Ns b m := fun ⟨o, es, ep, e, d, r⟩ => ⟨o, es, ep, hidT_get e (un e fun its n z => by rw [d] at z; cases z), d, r⟩
    have kB : K.In (hidT s₁.heap H) := fun b o e => hidT_get (KX b o e) (by
      cases q : H b with
      | none => rfl
      | some u =>
        obtain ⟨rfl, _⟩ := only b u q
        rw [noK (by rw [q]; simp)] at e
        cases e)
    have md : Mod K mg (hidT s₁.heap H) := ⟨kB, inB hns, ⟨mb, inB hb, hbb⟩, let ⟨mc, h1, h2⟩ := hlim; ⟨mc, inB h1, h2⟩⟩
    have e0 : Env0 P w K mg (hidT s₁.heap H) callerA [] s₁ H := ⟨rfl, md, fun b o e => of_hidT e, Nat.le_of_eq (hidT_size _ _), trivial, fun b z => absurd (show b ∈ ([] : List Addr) from z) (by simp), hok, .of_eq hg⟩
    have mem0 : MemOk K H (fun _ => none) := fun b o e => by cases e
    refine codeAny_mono ((F _ kB (inB hns)).run callerA [] s₁ H ⟨[.ref a], []⟩ [.ref a] [.ref a] (fun v H' => v = .bl true ∧ ∀ b u, H b = some u → H' b = some u) (fun _ _ _ => False) hr rfl e0 (hbind s₁ (.ref a)) (.cons rfl .nil)
      ⟨_, _, _, _, .cons (old hS) .nil, mem0, hsp, fun v H' d M' f s q => ?_, fun _ _ _ _ _ _ _ z => z.elim⟩) fun r s' h => ?_
    · subst q
      cases f
      exact ⟨rfl, fun b u e => (s.fr b u e rfl).1⟩
    · match r, h with
      | .error e, h => exact (hCX H e s' h).elim
      | .ok (.ret u), h =>
        obtain ⟨v, H', os, bare, un', hok', r', q, kp⟩ := h
        subst q
        obtain rfl : u = Value.bool true := r'
        refine ⟨rfl, OldK.of_keep fun b o e => ?_, os, bare⟩
        cases q : H b with
        | none => exact un'.keep b o e q (by intro z; exact absurd (show b ∈ ([] : List Addr) from z) (by simp)) (by simp)
        | some u =>
          obtain ⟨rfl, rfl⟩ := only b u q
          obtain ⟨e1, _⟩ := hok b _ q
          obtain ⟨e2, _⟩ := hok' b _ (kp b _ q)
          rw [e] at e1; cases e1
          exact e2
  cases hk : K.lookup a with
  | some o =>
    have e := KX a o hk
    rw [ha] at e
    cases e
    exact core (fun _ => none) (fun b u z => by cases z) (.inr ⟨_, vs.toArray, _, hk, rfl, rfl, rfl, by rw [List.size_toArray, lenV]; exact hl, by simpa using vals_ints hi⟩) (fun b u z => by cases z) fun z => absurd rfl z
  | none =>
    refine core (fun b => if b = a then some (.frz { cls := .type "list", data := .seq vs.toArray } (.lst (ns.map V.int))) else none) (fun b u z => ?_) (.inl ⟨_, if_pos rfl⟩) (fun b u z => ?_) fun _ => hk
    · by_cases hb : b = a
      · rw [if_pos hb] at z
        exact ⟨hb, (Option.some.inj z).symm⟩
      · rw [if_neg hb] at z
        cases z
    · dsimp only at z
      by_cases hb : b = a
      · rw [if_pos hb] at z
        cases z
        subst hb
        exact ⟨ha, by rw [List.length_map]; exact hl, vs, _, vals_ints hi, ha⟩
      · rw [if_neg hb] at z
        cases z
theorem walk_G {l : PySem.W.OpenLaw} {n k : Nat} {q : Program} {loose : List Str} {XP : (Str → Option Value) → Heap → Prop} {YP : World → Heap → Prop} {d : DefRec} {K : Params → PySem.W.Frag} {CX : World → CXT} {sp : SpD} {x : Str}
    (hn : l.most = some n) (hn2 : n ≤ sizeLine) (hdf : d.params.defaults = []) (hr : Room k callerA)
    (hY : ∀ (w : World) (h : Heap), YP w h → (K w.params).In h)
    (F : ∀ (w : World) (mg : Str → Option Value) (fa : Addr) (h : Heap), (K w.params).In h → h.Ns mainGlobals mg → mg d.name = some (.ref fa) →
      ∃ fd : FuncData, (∀ (s : Shared) (u : Value), BindsTo s fd ⟨[u], []⟩ [(x, u)]) ∧
        ∀ base : Heap, (K w.params).In base → base.Ns mainGlobals mg → FnD l.prog w (K w.params) mg base (CX w) k fa fd [x] sp)
    (hsp : ∀ ns : List Int, ns.length ≤ n → sp [.fl (ns.map D.int)] (fun _ => none) (fun d _ => d = .bl true) X0)
    (hCX : ∀ (w : World) (H : Hp) (s : Shared) (e : Value) (s' : Shared), CX w [] H s (fun _ _ _ => False) e s' → False) :
    PySem.W.WalkO q loose XP YP l.row.toRowW d [] (fun f vs => PySem.call f vs) := by
  refine Att.attach_call hn hdf fun w s₀ s₁ mg mb fa o pm cd doc a vs ns G Y ho hd hcd hmg hobj hints hlen hg => ?_
  obtain ⟨fd, hb, hF⟩ := F w mg fa _ (hY w _ Y) G.T.g hmg
  exact law_G (hY w _ Y) G.T.g G.T.b G.T.builtins G.T.nolimit hg hobj hints (Nat.le_trans hlen hn2) hr hF hb (hsp ns hlen) fun H e s' => hCX w H s₁ e s'

/-! ### the module's constants -/
def KC (K : PySem.W.Frag) (mg : Str → Option Value) (x : Str) (d : D) : Prop := ∃ v u, mg x = some u ∧ RelV v u ∧ ∀ H, Fz K H v d
theorem de_k {X : Cx} {x : Str} {d : D} {pos : Pos} (c : KC X.K X.mg x d) (hg : Gl X x := by rfl) (hd : (x == ("__debug__" : Str)) = false := by decide) : DE X (.Name x pos) (dC d) := by
  obtain ⟨v, u, hm, r, f⟩ := c
  exact de_c (pe_glob hg hm r hd) f
theorem kc_int {K : PySem.W.Frag} {mg : Str → Option Value} {x : Str} {i : Int} {t : Tok} (h : mg x = some (.int i t)) : KC K mg x (.int i) := ⟨.int i, _, h, ⟨t, rfl⟩, fun H => .int i⟩
theorem kc_str {K : PySem.W.Frag} {mg : Str → Option Value} {x y : Str} {t : Tok} (h : mg x = some (.str y t)) : KC K mg x (.str y) := ⟨.str y, _, h, ⟨t, rfl⟩, fun H => .str y⟩
theorem kc_tup {K : PySem.W.Frag} {mg : Str → Option Value} {x : Str} {a : Addr} {its : Array Value} {n : Nat} {sl : Array (Option Value)} {vs : List V} {ds : List D} (h : mg x = some (.ref a)) (hl : K.lookup a = some ⟨.type "tuple", none, .seq its n, sl⟩) (hz : its.size ≤ sizeLine)
    (r : Vals vs its.toList) (f : ∀ H, FzAll K H vs ds) : KC K mg x (.tup ds) := ⟨.ref a, _, h, rfl, fun H => .tup (.inr ⟨_, its, n, hl, rfl, rfl, rfl, hz, r⟩) (f H)⟩

theorem ki_int : ∀ t : Tg, kitB t.nm Tg.int.nm = some (isI t .int) := by intro t; cases t <;> decide +kernel
theorem ki_bool : ∀ t : Tg, kitB t.nm Tg.bool.nm = some (isI t .bool) := by intro t; cases t <;> decide +kernel
theorem ki_str : ∀ t : Tg, kitB t.nm Tg.str.nm = some (isI t .str) := by intro t; cases t <;> decide +kernel
theorem ki_tuple : ∀ t : Tg, kitB t.nm Tg.tuple.nm = some (isI t .tuple) := by intro t; cases t <;> decide +kernel
theorem ki_list : ∀ t : Tg, kitB t.nm Tg.list.nm = some (isI t .list) := by intro t; cases t <;> decide +kernel
theorem ki_dict : ∀ t : Tg, kitB t.nm Tg.dict.nm = some (isI t .dict) := by intro t; cases t <;> decide +kernel
end DL

namespace DL
open PySem L2

/-! ### dicts -/
section
variable {κ : Type} [DecidableEq κ]
def valD (kvs : List (κ × D)) (k : κ) : Option D := (kvs.find? fun kv => decide (kv.1 = k)).map (·.2)
def putD (kvs : List (κ × D)) (k : κ) (v : D) : List (κ × D) :=
  if (kvs.any fun kv => decide (kv.1 = k)) = true then kvs.map (fun kv => if kv.1 = k then (kv.1, v) else kv) else kvs ++ [(k, v)]
variable {K : PySem.W.Frag} {H : Hp}
theorem val_fz {k : κ} : ∀ {xs : List (κ × V)} {kvs : List (κ × D)}, KFz K H xs kvs → (valD kvs k = none ∧ valV xs k = none) ∨ ∃ v d, valD kvs k = some d ∧ valV xs k = some v ∧ Fz K H v d
  | _, _, .nil => .inl ⟨rfl, rfl⟩
  | p :: xs, q :: kvs, .cons h t => by
    by_cases e : q.1 = k
    · refine .inr ⟨p.2, q.2, ?_, ?_, h.2⟩
      · unfold valD; rw [List.find?_cons, decide_eq_true e]; rfl
      · unfold valV; rw [List.find?_cons, decide_eq_true (h.1.trans e)]; rfl
    · have e' : ¬ p.1 = k := fun z => e (h.1.symm.trans z)
      have h1 : valD (q :: kvs) k = valD kvs k := by unfold valD; rw [List.find?_cons, decide_eq_false e]
      have h2 : valV (p :: xs) k = valV xs k := by unfold valV; rw [List.find?_cons, decide_eq_false e']
      rw [h1, h2]
      exact val_fz t
theorem any_fz {k : κ} : ∀ {xs : List (κ × V)} {kvs : List (κ × D)}, KFz K H xs kvs → (xs.any fun kv => decide (kv.1 = k)) = kvs.any fun kv => decide (kv.1 = k)
  | _, _, .nil => rfl
  | p :: xs, q :: kvs, .cons h t => by rw [List.any_cons, List.any_cons, any_fz t, h.1]
theorem map_fz {k : κ} {v : V} {d : D} (f : Fz K H v d) : ∀ {xs : List (κ × V)} {kvs : List (κ × D)}, KFz K H xs kvs → KFz K H (xs.map fun kv => if kv.1 = k then (kv.1, v) else kv) (kvs.map fun kv => if kv.1 = k then (kv.1, d) else kv)
  | _, _, .nil => .nil
  | p :: xs, q :: kvs, .cons h t => by
    rw [List.map_cons, List.map_cons]
    refine .cons ?_ (map_fz f t)
    by_cases e : q.1 = k
    · rw [if_pos e, if_pos (h.1.trans e)]
      exact ⟨h.1, f⟩
    · rw [if_neg e, if_neg fun z => e (h.1.symm.trans z)]
      exact h
theorem KFz.snoc {k : κ} {v : V} {d : D} (f : Fz K H v d) : ∀ {xs : List (κ × V)} {kvs : List (κ × D)}, KFz K H xs kvs → KFz K H (xs ++ [(k, v)]) (kvs ++ [(k, d)])
  | _, _, .nil => .cons ⟨rfl, f⟩ .nil
  | _, _, .cons h t => .cons h (KFz.snoc f t)
theorem put_fz {k : κ} {v : V} {d : D} (f : Fz K H v d) {xs : List (κ × V)} {kvs : List (κ × D)} (h : KFz K H xs kvs) : KFz K H (putK xs k v) (putD kvs k d) := by
  unfold putK putD
  rw [any_fz h]
  split
  · exact map_fz f h
  · exact KFz.snoc f h
theorem KFz.length {xs : List (κ × V)} {kvs : List (κ × D)} (h : KFz K H xs kvs) : xs.length = kvs.length := Paired.length h
end
def keyOf : D → Option Key
  | .int i => some (.inl i)
  | .str s => some (.inr s)
  | _ => none
theorem key_fz {K : PySem.W.Frag} {H : Hp} {v : V} {d : D} {k : Key} (f : Fz K H v d) (h : keyOf d = some k) : v = kV k := by
  cases d with
  | int i => cases f; cases h; rfl
  | str s => cases f; cases h; rfl
  | _ => cases h
def mergeD (kvs more : List (Key × D)) : List (Key × D) := more.foldl (fun acc kv => putD acc kv.1 kv.2) kvs
theorem merge_fz {K : PySem.W.Frag} {H : Hp} : ∀ {xs : List (Key × V)} {kvs : List (Key × D)}, KFz K H xs kvs → ∀ {ys : List (Key × V)} {ls : List (Key × D)}, KFz K H ys ls → KFz K H (mergeK ys xs) (mergeD ls kvs)
  | _, _, .nil, _, _, h => h
  | p :: xs, q :: kvs, .cons h t, ys, ls, g => by
    obtain ⟨p1, p2⟩ := p
    obtain ⟨q1, q2⟩ := q
    obtain rfl : p1 = q1 := h.1
    exact merge_fz t (put_fz h.2 g)
def dPairs : List (TED × TED) → DSt → Mp → (List (Key × D) → Mp → Prop) → Prop
  | [], _, M, Q => Q [] M
  | (tk, tv) :: r, ρ, M, Q => tk ρ M fun k M1 => tv ρ M1 fun v M2 => match keyOf k with
    | some key => dPairs r ρ M2 fun kvs M3 => Q ((key, v) :: kvs) M3
    | none => False
def dDisp (trs : List (TED × TED)) : TED := fun ρ M Q => dPairs trs ρ M fun kvs M2 => kvs.length ≤ 15 ∧ ∀ p, M2 p = none → Q (.ref p) (updM M2 p (.dct (mergeD [] kvs)))
def dEmpty : TED := fun _ M Q => ∀ p, M p = none → Q (.ref p) (updM M p (.dct []))
structure DPs (X : Cx) (pos : Pos) (keys : List (Option Expr)) (values : List Expr) (trs : List (TED × TED)) : Prop where
  ps : PPs X pos keys values (trs.map fun p => (upE X.K p.1, upE X.K p.2))
section
variable {X : Cx} {pos : Pos} {k v : Expr} {ks : List (Option Expr)} {vs : List Expr} {tk tv : TED} {trs : List (TED × TED)}
theorem dps_nil : DPs X pos [] [] [] := ⟨pps_nil⟩
theorem dps_cons (hk : DE X k tk) (hv : DE X v tv) (hr : DPs X pos ks vs trs) : DPs X pos (some k :: ks) (v :: vs) ((tk, tv) :: trs) := ⟨pps_cons hk hv hr.ps⟩
theorem up_pairs {K : PySem.W.Frag} {σ : St} {ρ : DSt} : ∀ (trs : List (TED × TED)) (H : Hp) (M : Mp) (Q' : List (Key × D) → Mp → Prop) (Q : List (V × V) → Hp → Prop), RelS K H σ ρ → MemOk K H M → dPairs trs ρ M Q' →
    (∀ xs kvs H' M', KFz K H' xs kvs → Step K H M H' M' → Q' kvs M' → Q (xs.map fun kv => (kV kv.1, kv.2)) H') → tPairs (trs.map fun p => (upE K p.1, upE K p.2)) σ H Q
  | [], H, M, Q', Q, r, m, h, k => k [] [] H M .nil (.refl m) h
  | (tk, tv) :: trs, H, M, Q', Q, r, m, h, k => by
    refine ⟨ρ, M, _, r, m, h, fun vk H1 dk M1 fk s1 h1 => ⟨ρ, M1, _, r.up s1.tups, s1.mem, h1, fun vv H2 dv M2 fv s2 h2 => ?_⟩⟩
    cases e : keyOf dk with
    | none => rw [e] at h2; exact h2.elim
    | some key =>
      rw [e] at h2
      obtain rfl : vk = kV key := key_fz fk e
      exact up_pairs trs H2 M2 _ _ ((r.up s1.tups).up s2.tups) s2.mem h2 fun xs kvs H' M' f s h' => k ((key, vv) :: xs) ((key, dv) :: kvs) H' M' (.cons ⟨rfl, fv.up s.tups⟩ f) ((s1.trans s2).trans s) h'
theorem de_dict (h : DPs X pos ks vs trs) (hall : ks.all (·.isSome) = true := by rfl) (hl : ks.length = vs.length := by rfl) (h0 : ks ≠ [] := by exact fun z => nomatch z) (h15 : ks.length ≤ 15 := by decide) : DE X (.Dict ks vs pos) (dDisp trs) :=
  pe_weak (pe_disp h.ps hall hl h0 h15) fun σ H Q ⟨ρ, M, Q', r, m, h, k⟩ p hp => by
    have s0 := Step.newT (u := .dK []) m hp
    refine up_pairs trs _ M _ _ (r.up s0.tups) s0.mem h fun xs kvs H' M' f s ⟨h15, q⟩ => ?_
    have st := s.fr p _ upd_same (m.none hp)
    refine ⟨st.1, xs, rfl, by rw [f.length]; exact h15, ?_⟩
    have mm : MemOk X.K H' (updM M' p (.dct [])) := fun a o e => by
      by_cases ha : a = p
      · subst ha
        rw [updM_same] at e
        cases e
        exact ⟨_, st.1, [], rfl, .nil⟩
      · rw [updM_ne ha] at e
        exact s.mem a o e
    have w := Step.wr (u := .dK (mergeK [] xs)) (o := .dct (mergeD [] kvs)) mm updM_same (fun z => by cases z) (show MoOk X.K H' (.dK (mergeK [] xs)) (.dct (mergeD [] kvs)) from ⟨_, rfl, merge_fz f .nil⟩)
    rw [updM_upd] at w
    refine k _ _ _ _ (.ref p) ⟨w.mem, (s0.tups.trans s.tups).trans w.tups, fun a u e n => ?_⟩ (q p st.2)
    have ne : a ≠ p := ne_of_none e hp
    have q1 := s.fr a u (by rw [upd_ne ne]; exact e) n
    exact ⟨by rw [upd_ne ne]; exact q1.1, by rw [updM_ne ne]; exact q1.2⟩
theorem de_dict0 : DE X (.Dict [] [] pos) dEmpty :=
  pe_weak pe_dnewK fun σ H Q ⟨ρ, M, Q', r, m, h, k⟩ p hp => k _ _ _ _ (.ref p) (.newM m hp (show MoOk X.K H (.dK []) (.dct []) from ⟨[], rfl, .nil⟩)) (h p (m.none hp))
/-- d[k], keys whole numbers and texts -/
def dDix (td ti : TED) : TED := fun ρ M Q => td ρ M fun d M1 => ti ρ M1 fun i M2 => match d, keyOf i with
  | .ref p, some k => ∃ kvs, M2 p = some (.dct kvs) ∧ ixQ (valD kvs k) M2 Q
  | _, _ => False
variable {o i : Expr} {to ti : TED}
theorem MemOk.dct {K : PySem.W.Frag} {H : Hp} {M : Mp} {p : Addr} {kvs : List (Key × D)} (m : MemOk K H M) (h : M p = some (.dct kvs)) : ∃ xs, H p = some (.dK xs) ∧ KFz K H xs kvs := by
  obtain ⟨u, q, xs, rfl, f⟩ := m p _ h
  exact ⟨xs, q, f⟩
theorem de_dix (hu : X.A.units + 1 < cLine) (ho : DE X o to) (hi : DE X i ti) (hs : NoSl i) : DE X (.Subscript o i pos) (dDix to ti) :=
  pe_weak (pe_dget hu ho hi hs) fun σ H Q ⟨ρ, M, Q', r, m, h, k⟩ => ⟨ρ, M, _, r, m, h, fun vo H1 d M1 fo s1 q1 => ⟨ρ, M1, _, r.up s1.tups, s1.mem, q1, fun vi H2 e M2 fi s2 q2 => by
    cases d with
    | ref p =>
      cases fo
      cases ek : keyOf e with
      | none => rw [ek] at q2; exact q2.elim
      | some key =>
        rw [ek] at q2
        obtain ⟨kvs, hp, q3⟩ := q2
        obtain ⟨x, ex, q3⟩ := ixQ_some q3
        obtain ⟨xs, e2, f⟩ := s2.mem.dct hp
        obtain rfl := key_fz fi ek
        rcases val_fz (k := key) f with ⟨z, _⟩ | ⟨v, d, z1, z2, g⟩
        · rw [z] at ex; cases ex
        · rw [z1] at ex; cases ex
          exact ⟨p, v, rfl, by rw [← z2]; exact .k e2, ((k.after s1).after s2).val s2.mem g q3⟩
    | _ => exact q2.elim⟩⟩
/-- d[k] = v -/
def rSetDX : TSetD := fun o i v M Q => match o, keyOf i with
  | .ref p, some k => ∃ kvs, M p = some (.dct kvs) ∧ kvs.length < sizeLine ∧ Q (updM M p (.dct (putD kvs k v)))
  | _, _ => False
theorem st_dict (hu : X.A.units + 1 < cLine) : StR X rSetDX := by
  refine ⟨_, set_dict hu, fun H M vo vi vv o i v Q' Q fo fi fv m h k => ?_⟩
  unfold rSetDX at h
  split at h
  · rename_i p key ek
    obtain ⟨kvs, hp, hz, q⟩ := h
    cases fo
    obtain rfl := key_fz fi ek
    obtain ⟨xs, e, f⟩ := m.dct hp
    exact ⟨p, _, rfl, .k e (by rw [f.length]; exact hz), k _ _ (.wr m hp (fun z => by cases z) (show MoOk X.K H (.dK (putK xs key vv)) (.dct (putD kvs key v)) from ⟨_, rfl, put_fz fv f⟩)) q⟩
  · exact h.elim
/-- k in d -/
def dDin (neg : Bool) (ti td : TED) : TED := fun ρ M Q => ti ρ M fun i M1 => td ρ M1 fun d M2 => match d, keyOf i with
  | .ref p, some k => ∃ kvs, M2 p = some (.dct kvs) ∧ Q (.bl (sg neg (valD kvs k).isSome)) M2
  | _, _ => False
theorem up_din {K : PySem.W.Frag} {neg : Bool} (σ : St) (H : Hp) (Q : VK) (h : upE K (dDin neg ti to) σ H Q) :
    (upE K ti) σ H fun y H1 => (upE K to) σ H1 fun x H2 => ∃ a ov, x = .ref a ∧ DGet H2 a y ov ∧ Q (.bl (sg neg ov.isSome)) H2 := by
  obtain ⟨ρ, M, Q', r, m, h, k⟩ := h
  refine ⟨ρ, M, _, r, m, h, fun vi H1 e M1 fi s1 q1 => ⟨ρ, M1, _, r.up s1.tups, s1.mem, q1, fun vo H2 d M2 fo s2 q2 => ?_⟩⟩
  cases d with
  | ref p =>
    cases fo
    cases ek : keyOf e with
    | none => rw [ek] at q2; exact q2.elim
    | some key =>
      rw [ek] at q2
      obtain ⟨kvs, hp, q3⟩ := q2
      obtain ⟨xs, e2, f⟩ := s2.mem.dct hp
      obtain rfl := key_fz fi ek
      refine ⟨p, valV xs key, rfl, .k e2, ?_⟩
      rcases val_fz (k := key) f with ⟨z1, z2⟩ | ⟨v, d, z1, z2, g⟩
      · rw [z2]; rw [z1] at q3; exact ((k.after s1).after s2).val s2.mem (.bl _) q3
      · rw [z2]; rw [z1] at q3; exact ((k.after s1).after s2).val s2.mem (.bl _) q3
  | _ => exact q2.elim
theorem de_din (hu : X.A.units + 1 < cLine) (hi : DE X i ti) (ho : DE X o to) (hm : behindInMarks .In o = false := by with_unfolding_all rfl) : DE X (.Compare i [.In] [o] pos) (dDin false ti to) := pe_weak (pe_cmp (pc_din hu hi ho) hm) up_din
theorem de_dnotin (hu : X.A.units + 1 < cLine) (hi : DE X i ti) (ho : DE X o to) (hm : behindInMarks .NotIn o = false := by with_unfolding_all rfl) : DE X (.Compare i [.NotIn] [o] pos) (dDin true ti to) := pe_weak (pe_cmp (pc_dnotin hu hi ho) hm) up_din
theorem dt_din (hu : X.A.units + 1 < cLine) (hi : DE X i ti) (ho : DE X o to) (hm : behindInMarks .In o = false := by with_unfolding_all rfl) : DT X (.Compare i [.In] [o] pos) (dTest (dDin false ti to)) :=
  pt_weak (pt_cmp (pc_din hu hi ho) hm) fun σ H Q q => up_din (neg := false) σ H _ (up_test σ H Q q)
theorem dt_dnotin (hu : X.A.units + 1 < cLine) (hi : DE X i ti) (ho : DE X o to) (hm : behindInMarks .NotIn o = false := by with_unfolding_all rfl) : DT X (.Compare i [.NotIn] [o] pos) (dTest (dDin true ti to)) :=
  pt_weak (pt_cmp (pc_dnotin hu hi ho) hm) fun σ H Q q => up_din (neg := true) σ H _ (up_test σ H Q q)
end

theorem fnD_no {P : Program} {w : World} {K : PySem.W.Frag} {mg : Str → Option Value} {base : Heap} {CX : CXT} {k : Nat} {f : Addr} {fd : FuncData} {ps : List Str} {sp : SpD} (h : ∀ ds M Q E, ¬ sp ds M Q E) : FnD P w K mg base CX k f fd ps sp :=
  ⟨fun vs H Q E ⟨_, _, _, _, _, _, z, _⟩ => (h _ _ _ _ z).elim, fun _ _ _ _ _ _ _ _ _ _ _ _ _ _ ⟨_, _, _, _, _, _, z, _⟩ => (h _ _ _ _ z).elim⟩
end DL

/-! Data of whole numbers: what repr and == ask of them; the law's source of numbers. -/
namespace DL
open PySem L2

structure Sm (d w : Nat) (p : PyData) : Prop where
  lay : p.canLay0 = true
  shrt : p.intsShort 13 = true
  see : p.showable = true
  dep : p.depth ≤ d
  wt : p.weight ≤ w
theorem log2_lt {n k : Nat} (hk : 0 < k) (h : n < 2 ^ k) : n.log2 < k := by
  by_cases h0 : n = 0
  · subst h0
    rw [show Nat.log2 0 = 0 from by decide +kernel]
    exact hk
  · exact (Nat.log2_lt h0).mpr h
theorem Sm.int {i : Int} (h : i.natAbs < 4096) : Sm 0 12 (.int i) := by
  have l := log2_lt (n := i.natAbs) (k := 12) (by decide) h
  refine ⟨rfl, ?_, ?_, Nat.le_refl _, ?_⟩
  · simpa [PyData.intsShort] using PyData.shown_int_le2 (i := i) (by omega) (by omega)
  · simp only [PyData.showable, decide_eq_true_eq]
    omega
  · show (if i == 0 then 0 else i.natAbs.log2 + 1) ≤ 12
    split <;> omega
theorem Sm.bool {b : Bool} : Sm 0 0 (.bool b) := ⟨rfl, rfl, rfl, Nat.le_refl _, Nat.le_refl _⟩
theorem Sm.none : Sm 0 0 .none := ⟨rfl, rfl, rfl, Nat.le_refl _, Nat.le_refl _⟩
theorem Sm.mono {d w d' w' : Nat} {p : PyData} (s : Sm d w p) (h : d ≤ d') (h' : w ≤ w') : Sm d' w' p := ⟨s.lay, s.shrt, s.see, Nat.le_trans s.dep h, Nat.le_trans s.wt h'⟩
theorem sm_all {d w : Nat} : ∀ {ps : List PyData}, (∀ p ∈ ps, Sm d w p) → PyData.canLayAll0 ps = true ∧ PyData.intsShortAll 13 ps = true ∧ PyData.showableAll ps = true ∧ PyData.depthAll ps ≤ d ∧ PyData.weightAll ps ≤ ps.length * (w + 1)
  | [], _ => ⟨rfl, rfl, rfl, Nat.zero_le _, Nat.zero_le _⟩
  | p :: ps, h => by
    obtain ⟨a, b, c, e, f⟩ := sm_all (ps := ps) fun q hq => h q (List.mem_cons_of_mem _ hq)
    have s := h p List.mem_cons_self
    refine ⟨by simp [PyData.canLayAll0, s.lay, a], by simp [PyData.intsShortAll, s.shrt, b], by simp [PyData.showableAll, s.see, c], ?_, ?_⟩
    · simp only [PyData.depthAll]
      exact Nat.max_le.mpr ⟨s.dep, e⟩
    · simp only [PyData.weightAll, List.length_cons, Nat.succ_mul]
      have := s.wt
      omega
theorem Sm.tuple {d w : Nat} {ps : List PyData} (h : ∀ p ∈ ps, Sm d w p) : Sm (d + 1) (ps.length * (w + 1)) (.tuple ps) := by
  obtain ⟨a, b, c, e, f⟩ := sm_all h
  exact ⟨by simpa [PyData.canLay0] using a, by simpa [PyData.intsShort] using b, by simpa [PyData.showable] using c, by simp only [PyData.depth]; omega, by simpa only [PyData.weight] using f⟩
theorem Sm.list {d w : Nat} {ps : List PyData} (h : ∀ p ∈ ps, Sm d w p) : Sm (d + 1) (ps.length * (w + 1)) (.list ps) := by
  obtain ⟨a, b, c, e, f⟩ := sm_all h
  exact ⟨by simpa [PyData.canLay0] using a, by simpa [PyData.intsShort] using b, by simpa [PyData.showable] using c, by simp only [PyData.depth]; omega, by simpa only [PyData.weight] using f⟩
theorem Sm.shw {d w : Nat} {p : PyData} (s : Sm d w p) (hd : d ≤ 64) (hw : w ≤ 1048576) : Shw p := by
  refine ⟨s.see, Nat.le_trans s.dep (by omega), Nat.le_trans (PyData.shown_le_of_layable0 ?_ s.shrt) (by decide)⟩
  simp only [PyData.layable0, Bool.and_eq_true, decide_eq_true_eq]
  exact ⟨⟨s.lay, Nat.le_trans s.dep hd⟩, Nat.le_trans s.wt hw⟩
theorem Sm.shaped {d w : Nat} {p : PyData} (s : Sm d w p) (hd : d ≤ 64) : SeqAt.shaped p = true := by
  simp only [SeqAt.shaped, Bool.and_eq_true, decide_eq_true_eq]
  exact ⟨s.lay, Nat.le_trans s.dep hd⟩

/-! ### tuples of whole numbers, tables -/
abbrev dI (ns : List Int) : D := .tup (ns.map D.int)
abbrev pI (ns : List Int) : PyData := .tuple (ns.map PyData.int)
abbrev pLI (ns : List Int) : PyData := .list (ns.map PyData.int)
abbrev dII (t : List (List Int)) : D := .tup (t.map dI)
abbrev pII (t : List (List Int)) : PyData := .tuple (t.map pI)
theorem rdm_ints {M : Mp} : ∀ ns : List Int, RdmAll M (ns.map D.int) (ns.map PyData.int)
  | [] => .nil
  | _ :: ns => .cons (.int _) (rdm_ints ns)
theorem rdm_bls {M : Mp} : ∀ ns : List Bool, RdmAll M (ns.map D.bl) (ns.map PyData.bool)
  | [] => .nil
  | _ :: ns => .cons (.bl _) (rdm_bls ns)
theorem rdm_I {M : Mp} (ns : List Int) : Rdm M (dI ns) (pI ns) := .tup (rdm_ints ns)
theorem rdm_LI {M : Mp} {a : Addr} {ns : List Int} (h : M a = some (.lst (ns.map D.int))) : Rdm M (.ref a) (pLI ns) := .lst h (rdm_ints ns)
theorem rdm_IIs {M : Mp} : ∀ t : List (List Int), RdmAll M (t.map dI) (t.map pI)
  | [] => .nil
  | r :: t => .cons (rdm_I r) (rdm_IIs t)
theorem rdm_II {M : Mp} (t : List (List Int)) : Rdm M (dII t) (pII t) := .tup (rdm_IIs t)
theorem sm_I {ns : List Int} (h : ∀ i ∈ ns, i.natAbs < 4096) : Sm 1 (ns.length * 13) (pI ns) := by
  have := Sm.tuple (d := 0) (w := 12) (ps := ns.map PyData.int) fun p hp => by
    obtain ⟨i, hi, rfl⟩ := List.mem_map.mp hp
    exact .int (h i hi)
  simpa using this
theorem sm_LI {ns : List Int} (h : ∀ i ∈ ns, i.natAbs < 4096) : Sm 1 (ns.length * 13) (pLI ns) := by
  have := Sm.list (d := 0) (w := 12) (ps := ns.map PyData.int) fun p hp => by
    obtain ⟨i, hi, rfl⟩ := List.mem_map.mp hp
    exact .int (h i hi)
  simpa using this
theorem sm_II {t : List (List Int)} {n : Nat} (h : ∀ r ∈ t, r.length ≤ n ∧ ∀ i ∈ r, i.natAbs < 4096) : Sm 2 (t.length * (n * 13 + 1)) (pII t) := by
  have := Sm.tuple (d := 1) (w := n * 13) (ps := t.map pI) fun p hp => by
    obtain ⟨r, hr, rfl⟩ := List.mem_map.mp hp
    exact (sm_I (h r hr).2).mono (Nat.le_refl _) (Nat.mul_le_mul_right 13 (h r hr).1)
  simpa using this
theorem eqv_ints : ∀ xs ys : List Int, PyData.eqvAll (xs.map .int) (ys.map .int) = decide (xs = ys)
  | [], [] => by simp [PyData.eqvAll]
  | [], _ :: _ => by simp [PyData.eqvAll]
  | _ :: _, [] => by simp [PyData.eqvAll]
  | x :: xs, y :: ys => by
    simp only [List.map_cons, PyData.eqvAll, PyData.eqv, eqv_ints xs ys, List.cons.injEq]
    by_cases h : x = y <;> by_cases h' : xs = ys <;> simp [h, h']
theorem eqv_I (xs ys : List Int) : PyData.eqv (pI xs) (pI ys) = decide (xs = ys) := by
  simp only [PyData.eqv, eqv_ints]
theorem eqv_LI (xs ys : List Int) : PyData.eqv (pLI xs) (pLI ys) = decide (xs = ys) := by
  simp only [PyData.eqv, eqv_ints]
theorem eqv_IIs : ∀ xs ys : List (List Int), PyData.eqvAll (xs.map pI) (ys.map pI) = decide (xs = ys)
  | [], [] => by simp [PyData.eqvAll]
  | [], _ :: _ => by simp [PyData.eqvAll]
  | _ :: _, [] => by simp [PyData.eqvAll]
  | x :: xs, y :: ys => by
    simp only [List.map_cons, PyData.eqvAll, eqv_I, eqv_IIs xs ys, List.cons.injEq]
    by_cases h : x = y <;> by_cases h' : xs = ys <;> simp [h, h']
theorem eqv_II (xs ys : List (List Int)) : PyData.eqv (pII xs) (pII ys) = decide (xs = ys) := by
  simp only [PyData.eqv, eqv_IIs]

/-! ### the law's source of numbers -/
def Bag (M : Mp) (l : Addr) : Prop := ∃ g s c : Int, M l = some (.lst [.int g, .int s, .int c]) ∧ 0 ≤ s ∧ s < 2 ^ 62
def Ext (l : Addr) (M M' : Mp) : Prop := ∀ b o, b ≠ l → M b = some o → M' b = some o
theorem Ext.refl {l : Addr} {M : Mp} : Ext l M M := fun _ _ _ h => h
theorem Ext.trans {l : Addr} {M M1 M2 : Mp} (a : Ext l M M1) (b : Ext l M1 M2) : Ext l M M2 := fun x o n h => b x o n (a x o n h)
theorem Ext.upd {l : Addr} {M : Mp} {o : MO} : Ext l M (updM M l o) := fun b o' n h => by rw [updM_ne n]; exact h
theorem Ext.new {l p : Addr} {M : Mp} {o : MO} (h : M p = none) : Ext l M (updM M p o) := fun b o' n e => by rw [updM_ne (ne_none e h)]; exact e
theorem Bag.some {M : Mp} {l : Addr} (h : Bag M l) : ∃ o, M l = some o := let ⟨_, _, _, e, _⟩ := h; ⟨_, e⟩
theorem Bag.ne {M : Mp} {l p : Addr} (h : Bag M l) (hp : M p = none) : l ≠ p := let ⟨_, e⟩ := h.some; ne_none e hp
theorem Bag.upd {M : Mp} {l p : Addr} {o : MO} (h : Bag M l) (hp : l ≠ p) : Bag (updM M p o) l := let ⟨g, s, c, e, r⟩ := h; ⟨g, s, c, by rw [updM_ne hp]; exact e, r⟩
theorem Bag.new {M : Mp} {l p : Addr} {o : MO} (h : Bag M l) (hp : M p = none) : Bag (updM M p o) l := h.upd (h.ne hp)
/-- 0, 1, .. n - 1 -/
def rg (n : Nat) : List Int := (List.range n).map fun (i : Nat) => (i : Int)
theorem rg_mem {n : Nat} {i : Int} : i ∈ rg n ↔ 0 ≤ i ∧ i < n := by
  unfold rg
  simp only [List.mem_map, List.mem_range]
  exact ⟨fun ⟨k, h, e⟩ => by omega, fun h => ⟨i.toNat, by omega, by omega⟩⟩
theorem rg_length {n : Nat} : (rg n).length = n := by simp [rg]
theorem rg_nodup {n : Nat} : (rg n).Nodup := by
  unfold rg List.Nodup
  rw [List.pairwise_map]
  exact List.Pairwise.imp (fun h e => h (by omega)) (List.nodup_range (n := n))
theorem rgD_rg {n : Int} : rgD 0 n = (rg n.toNat).map D.int := by
  unfold rgD rg
  simp [List.map_map, Function.comp_def]
end DL

/-! Plain laws of permutations and tables. -/
namespace DL
open PySem L2

theorem perm_of : ∀ {l m : List Int}, l.Nodup → (∀ x ∈ l, x ∈ m) → l.length = m.length → l.Perm m
  | [], m, _, _, h => by
    cases m with
    | nil => exact .nil
    | cons _ _ => cases h
  | x :: l, m, hn, hs, hl => by
    have hx := hs x List.mem_cons_self
    have hn' := List.nodup_cons.mp hn
    have p := List.perm_cons_erase hx
    refine .trans (.cons x (perm_of hn'.2 (fun y hy => ?_) ?_)) p.symm
    · have : y ≠ x := fun e => hn'.1 (e ▸ hy)
      exact (List.mem_erase_of_ne this).mpr (hs y (List.mem_cons_of_mem _ hy))
    · have := p.length_eq
      simp only [List.length_cons] at this hl
      omega
theorem er_perm : ∀ {l : List Int} {k : Nat} {x : Int}, l[k]? = some x → (x :: l.eraseIdx k).Perm l
  | [], k, x, h => by simp at h
  | y :: l, 0, x, h => by
    have : y = x := by simpa using h
    subst this
    exact .refl _
  | y :: l, k + 1, x, h => by
    have := er_perm (l := l) (k := k) (x := x) (by simpa using h)
    rw [List.eraseIdx_cons_succ]
    exact (List.Perm.swap y x _).trans (.cons y this)
theorem mix_step {left found : List Int} {k : Nat} {x : Int} (h : left[k]? = some x) : (left.eraseIdx k ++ (found ++ [x])).Perm (left ++ found) := by
  have p := er_perm h
  have q : (left.eraseIdx k ++ (found ++ [x])).Perm (x :: (left.eraseIdx k ++ found)) := by
    rw [← List.append_assoc]
    exact List.perm_append_singleton _ _
  exact q.trans (p.append_right found)
theorem nodup_first {l : List Int} (h : l.Nodup) {j : Nat} {x : Int} (hj : l[j]? = some x) : ∀ n : Nat, n < j → l[n]? ≠ some x := by
  intro n hn e
  obtain ⟨h1, e1⟩ := List.getElem?_eq_some_iff.mp hj
  obtain ⟨h2, e2⟩ := List.getElem?_eq_some_iff.mp e
  exact List.pairwise_iff_getElem.mp h n j h2 h1 hn (by rw [e1, e2])
/-- the numbers of p, moved on by a -/
theorem shift_perm {p : List Int} {n : Nat} (hp : p.Perm (rg n)) (a : Int) : (p.map fun c => (a + c) % n).Perm (rg n) := by
  by_cases h0 : n = 0
  · subst h0
    have : p = [] := by simpa [rg] using hp
    subst this
    exact .refl _
  have hn : (0 : Int) < n := by omega
  refine perm_of ?_ (fun x hx => ?_) ?_
  · unfold List.Nodup
    rw [List.pairwise_map]
    have hnd : p.Nodup := hp.nodup_iff.mpr rg_nodup
    refine List.Pairwise.imp_of_mem (fun {x y} hx hy hne e => hne ?_) hnd
    have hx' := rg_mem.mp (hp.mem_iff.mp hx)
    have hy' := rg_mem.mp (hp.mem_iff.mp hy)
    have e1 := Int.emod_emod_of_dvd (a + x) (Int.dvd_refl (n : Int))
    have d1 := Int.emod_add_mul_ediv (a + x) n
    have d2 := Int.emod_add_mul_ediv (a + y) n
    rw [e] at d1
    have d3 : (n : Int) * ((a + x) / n) - n * ((a + y) / n) = x - y := by omega
    rw [← Int.mul_sub] at d3
    have lt1 : x - y < n := by omega
    have lt2 : -(n : Int) < x - y := by omega
    have z : (a + x) / n - (a + y) / n = 0 := by
      rcases Int.lt_trichotomy ((a + x) / n - (a + y) / n) 0 with h | h | h
      · have : (n : Int) * ((a + x) / n - (a + y) / n) ≤ n * (-1) := Int.mul_le_mul_of_nonneg_left (by omega) (by omega)
        omega
      · exact h
      · have : (n : Int) * 1 ≤ n * ((a + x) / n - (a + y) / n) := Int.mul_le_mul_of_nonneg_left (by omega) (by omega)
        omega
    rw [z] at d3
    omega
  · obtain ⟨c, _, rfl⟩ := List.mem_map.mp hx
    exact rg_mem.mpr ⟨Int.emod_nonneg _ (by omega), Int.emod_lt_of_pos _ hn⟩
  · rw [List.length_map, hp.length_eq]
/-- things by places that are a permutation -/
def at0 (l : List Int) (i : Int) : Int := l[i.toNat]?.getD 0
theorem at0_of {l : List Int} {i : Int} (h : 0 ≤ i) (h' : i < l.length) : l[i.toNat]? = some (at0 l i) := by
  have : i.toNat < l.length := by omega
  unfold at0
  rw [List.getElem?_eq_getElem this]
  rfl
theorem at0_rg {l : List Int} : (rg l.length).map (at0 l) = l := by
  apply List.ext_getElem?
  intro i
  by_cases h : i < l.length
  · simp [rg, at0, h]
  · rw [List.getElem?_eq_none (by simp [rg]; omega), List.getElem?_eq_none (by omega)]
theorem at0_perm {p l : List Int} {n : Nat} (hp : p.Perm (rg n)) (hl : l.length = n) : (p.map (at0 l)).Perm l := by
  subst hl
  exact (hp.map (at0 l)).trans (by rw [at0_rg])

/-! ### tables -/
def col (t : List (List Int)) (j : Nat) : List Int := t.map fun r => r[j]?.getD 0
structure IsTab (n : Nat) (t : List (List Int)) : Prop where
  len : t.length = n
  row : ∀ r ∈ t, r.Perm (rg n)
  col : ∀ j, j < n → (DL.col t j).Perm (rg n)
theorem IsTab.rlen {n : Nat} {t : List (List Int)} (h : IsTab n t) {r : List Int} (hr : r ∈ t) : r.length = n := by rw [(h.row r hr).length_eq, rg_length]
theorem IsTab.mem {n : Nat} {t : List (List Int)} (h : IsTab n t) {r : List Int} (hr : r ∈ t) {x : Int} (hx : x ∈ r) : 0 ≤ x ∧ x < n := rg_mem.mp ((h.row r hr).mem_iff.mp hx)
theorem IsTab.sm {n : Nat} {t : List (List Int)} (h : IsTab n t) (hn : n ≤ 100) : Sm 2 131000 (pII t) := by
  refine (sm_II (n := n) fun r hr => ⟨Nat.le_of_eq (h.rlen hr), fun i hi => ?_⟩).mono (Nat.le_refl _) ?_
  · have := h.mem hr hi
    omega
  · rw [h.len]
    have : n * (n * 13 + 1) ≤ 100 * (100 * 13 + 1) := Nat.mul_le_mul hn (by omega)
    omega
/-- rows and columns of a first table -/
def mkTab (n : Nat) (rows cols things : List Int) : List (List Int) := rows.map fun a => cols.map fun b => at0 things ((a + b) % n)
theorem mkTab_ok {n : Nat} {rows cols things : List Int} (hr : rows.Perm (rg n)) (hc : cols.Perm (rg n)) (ht : things.Perm (rg n)) : IsTab n (mkTab n rows cols things) := by
  have lr : rows.length = n := by rw [hr.length_eq, rg_length]
  have lc : cols.length = n := by rw [hc.length_eq, rg_length]
  have lt : things.length = n := by rw [ht.length_eq, rg_length]
  refine ⟨by simp [mkTab, lr], fun r h => ?_, fun j hj => ?_⟩
  · obtain ⟨a, _, rfl⟩ := List.mem_map.mp h
    have := at0_perm (shift_perm hc a) lt
    rw [List.map_map] at this
    exact this.trans ht
  · have e : col (mkTab n rows cols things) j = rows.map fun a => at0 things ((a + cols[j]) % n) := by
      unfold col mkTab
      rw [List.map_map]
      apply List.map_congr_left
      intro a _
      have hj' : j < cols.length := by omega
      simp [hj']
    rw [e]
    have := at0_perm (shift_perm hr cols[j]) lt
    rw [List.map_map] at this
    refine .trans (.of_eq ?_) (this.trans ht)
    apply List.map_congr_left
    intro a _
    simp only [Function.comp]
    rw [Int.add_comm]
/-- two entries of a list change places -/
theorem swap_perm {l : List Int} {i j : Nat} {a b : Int} (hi : l[i]? = some a) (hj : l[j]? = some b) (hij : i ≠ j) : ((l.set i b).set j a).Perm l := by
  obtain ⟨h1, e1⟩ := List.getElem?_eq_some_iff.mp hi
  obtain ⟨h2, e2⟩ := List.getElem?_eq_some_iff.mp hj
  rw [List.perm_iff_count]
  intro x
  have hl : j < (l.set i b).length := by rw [List.length_set]; exact h2
  rw [List.count_set hl, List.count_set h1]
  have e3 : (l.set i b)[j] = b := by rw [List.getElem_set_ne hij]; exact e2
  rw [e3, e1]
  have ca : (a == x) = true → 0 < l.count x := fun h => by
    have : a = x := by simpa using h
    exact List.count_pos_iff.mpr (this ▸ e1 ▸ List.getElem_mem h1)
  by_cases q : (a == x) = true
  · have := ca q
    simp only [q, if_true]
    by_cases w : (b == x) = true
    · simp only [w, if_true]
      omega
    · simp only [w]
      simp
      omega
  · simp only [q]
    by_cases w : (b == x) = true
    · simp only [w, if_true]
      simp
    · simp only [w]
      simp
theorem at_same {l : List Int} {i : Nat} {a : Int} (h : l[i]? = some a) : l.set i a = l := by
  obtain ⟨h1, e1⟩ := List.getElem?_eq_some_iff.mp h
  rw [← e1, List.set_getElem_self]
theorem col_set {t : List (List Int)} {i : Nat} {r : List Int} {j : Nat} : col (t.set i r) j = (col t j).set i (r[j]?.getD 0) := by
  unfold col
  rw [List.map_set]
theorem col_at {t : List (List Int)} {i j : Nat} {r : List Int} (h : t[i]? = some r) : (col t j)[i]? = some (r[j]?.getD 0) := by
  unfold col
  rw [List.getElem?_map, h]
  rfl
/-- the change in a table that keeps it one -/
def swapT (t : List (List Int)) (r1 r2 : List Int) (one other left right : Nat) (a b : Int) : List (List Int) := (t.set one ((r1.set left b).set right a)).set other ((r2.set left a).set right b)
theorem swapT_ok {n : Nat} {t : List (List Int)} (h : IsTab n t) {r1 r2 : List Int} {one other left right : Nat} {a b : Int} (ho : one ≠ other) (hl : left ≠ right) (e1 : t[one]? = some r1) (e2 : t[other]? = some r2)
    (a1 : r1[left]? = some a) (b1 : r1[right]? = some b) (b2 : r2[left]? = some b) (a2 : r2[right]? = some a) : IsTab n (swapT t r1 r2 one other left right a b) := by
  have m1 := List.mem_of_getElem? e1
  have m2 := List.mem_of_getElem? e2
  refine ⟨by simp [swapT, h.len], fun r hr => ?_, fun j hj => ?_⟩
  · unfold swapT at hr
    rcases List.mem_or_eq_of_mem_set hr with hr | rfl
    · rcases List.mem_or_eq_of_mem_set hr with hr | rfl
      · exact h.row r hr
      · exact (swap_perm a1 b1 hl).trans (h.row _ m1)
    · exact (swap_perm b2 a2 hl).trans (h.row _ m2)
  · unfold swapT
    rw [col_set, col_set]
    have c1 := col_at (j := j) e1
    have c2 := col_at (j := j) e2
    by_cases hjl : j = left
    · subst hjl
      have z1 : ((r1.set j b).set right a)[j]?.getD 0 = b := by
        rw [List.getElem?_set_ne (Ne.symm hl), List.getElem?_set_self (List.getElem?_eq_some_iff.mp a1).1]; rfl
      have z2 : ((r2.set j a).set right b)[j]?.getD 0 = a := by
        rw [List.getElem?_set_ne (Ne.symm hl), List.getElem?_set_self (List.getElem?_eq_some_iff.mp b2).1]; rfl
      rw [z1, z2]
      rw [a1] at c1
      rw [b2] at c2
      exact (swap_perm c1 c2 ho).trans (h.col j hj)
    · by_cases hjr : j = right
      · subst hjr
        have z1 : ((r1.set left b).set j a)[j]?.getD 0 = a := by
          rw [List.getElem?_set_self (by rw [List.length_set]; exact (List.getElem?_eq_some_iff.mp b1).1)]; rfl
        have z2 : ((r2.set left a).set j b)[j]?.getD 0 = b := by
          rw [List.getElem?_set_self (by rw [List.length_set]; exact (List.getElem?_eq_some_iff.mp a2).1)]; rfl
        rw [z1, z2]
        rw [b1] at c1
        rw [a2] at c2
        exact (swap_perm c1 c2 ho).trans (h.col j hj)
      · have z1 : ((r1.set left b).set right a)[j]?.getD 0 = r1[j]?.getD 0 := by
          rw [List.getElem?_set_ne (Ne.symm hjr), List.getElem?_set_ne (Ne.symm hjl)]
        have z2 : ((r2.set left a).set right b)[j]?.getD 0 = r2[j]?.getD 0 := by
          rw [List.getElem?_set_ne (Ne.symm hjr), List.getElem?_set_ne (Ne.symm hjl)]
        rw [z1, z2, at_same c1, at_same c2]
        exact h.col j hj

/-! ### places -/
theorem ixN_nn {n : Nat} {k : Int} (h : 0 ≤ k) (h' : k < n) : ixN n k = some k.toNat := by
  unfold ixN
  rw [if_pos h, if_pos h']
theorem atI_nn {α : Type} {ds : List α} {k : Int} (h : 0 ≤ k) (h' : k < ds.length) : atI ds k = ds[k.toNat]? := by
  unfold atI
  rw [ixN_nn h h']
  rfl
theorem atI_mem {α : Type} {ds : List α} {k : Int} (h : 0 ≤ k) (h' : k < ds.length) : ∃ d, d ∈ ds ∧ atI ds k = some d := by
  have : k.toNat < ds.length := by omega
  refine ⟨ds[k.toNat], List.getElem_mem this, ?_⟩
  rw [atI_nn h h', List.getElem?_eq_getElem this]
theorem atI_last {α : Type} {ds : List α} {d : α} : atI (ds ++ [d]) (-1) = some d := by
  unfold atI ixN
  rw [if_neg (by decide)]
  simp only [List.length_append, List.length_cons, List.length_nil]
  rw [if_pos (by omega)]
  have e : ((-1 : Int) + ((ds.length + (0 + 1) : Nat) : Int)).toNat = ds.length := by omega
  show (ds ++ [d])[((-1 : Int) + ((ds.length + (0 + 1) : Nat) : Int)).toNat]? = some d
  rw [e, List.getElem?_append_right (Nat.le_refl _)]
  simp
theorem atI_map {α β : Type} {f : α → β} {l : List α} {k : Int} : atI (l.map f) k = (atI l k).map f := by
  unfold atI
  rw [List.length_map]
  cases ixN l.length k with
  | none => rfl
  | some j => simp
theorem Ext.updN {l p : Addr} {M M1 : Mp} {o : MO} (h : Ext l M M1) (hp : M p = none) : Ext l M (updM M1 p o) := fun b o' n e => by
  rw [updM_ne (ne_none e hp)]
  exact h b o' n e

/-! ### a list of rows -/
structure Grid (M0 M : Mp) (rs : List Addr) (t : List (List Int)) : Prop where
  len : rs.length = t.length
  nd : rs.Nodup
  new : ∀ a ∈ rs, M0 a = none
  at_ : ∀ (i : Nat) (a : Addr) (r : List Int), rs[i]? = some a → t[i]? = some r → M a = some (.lst (r.map D.int))
theorem Grid.nil {M0 M : Mp} : Grid M0 M [] [] := ⟨rfl, List.nodup_nil, fun _ h => (by cases h), fun _ _ _ h _ => (by simp at h)⟩
theorem Grid.get {M0 M : Mp} {rs : List Addr} {t : List (List Int)} (g : Grid M0 M rs t) {i : Nat} (h : i < t.length) : ∃ a r, rs[i]? = some a ∧ t[i]? = some r ∧ M a = some (.lst (r.map D.int)) := by
  have h' : i < rs.length := by rw [g.len]; exact h
  exact ⟨rs[i], t[i], List.getElem?_eq_getElem h', List.getElem?_eq_getElem h, g.at_ i _ _ (List.getElem?_eq_getElem h') (List.getElem?_eq_getElem h)⟩
theorem Grid.has {M0 M : Mp} {rs : List Addr} {t : List (List Int)} (g : Grid M0 M rs t) {a : Addr} (h : a ∈ rs) : ∃ r, M a = some (.lst r) := by
  obtain ⟨i, hi⟩ := List.mem_iff_getElem?.mp h
  have hl := (List.getElem?_eq_some_iff.mp hi).1
  obtain ⟨a', r, h1, h2, h3⟩ := g.get (i := i) (by rw [← g.len]; exact hl)
  rw [hi] at h1; cases h1
  exact ⟨_, h3⟩
theorem Grid.up {M0 M M' : Mp} {rs : List Addr} {t : List (List Int)} (g : Grid M0 M rs t) (h : ∀ a ∈ rs, ∀ o, M a = some o → M' a = some o) : Grid M0 M' rs t :=
  ⟨g.len, g.nd, g.new, fun i a r h1 h2 => h a (List.mem_of_getElem? h1) _ (g.at_ i a r h1 h2)⟩
theorem Grid.ext {M0 M M' : Mp} {l : Addr} {rs : List Addr} {t : List (List Int)} (g : Grid M0 M rs t) (h : Ext l M M') (hl : M0 l ≠ none) : Grid M0 M' rs t :=
  g.up fun a ha o e => h a o (fun z => hl (z ▸ g.new a ha)) e
theorem Grid.add {M0 M : Mp} {rs : List Addr} {t : List (List Int)} {p : Addr} {o : MO} (g : Grid M0 M rs t) (h : M p = none) : Grid M0 (updM M p o) rs t :=
  g.up fun a ha o' e => by rw [updM_ne (ne_none e h)]; exact e
theorem Grid.snoc {M0 M : Mp} {rs : List Addr} {t : List (List Int)} {p : Addr} {r : List Int} (g : Grid M0 M rs t) (h : M p = none) (h0 : M0 p = none) : Grid M0 (updM M p (.lst (r.map D.int))) (rs ++ [p]) (t ++ [r]) := by
  have hn : p ∉ rs := fun hm => by
    obtain ⟨_, e⟩ := g.has hm
    rw [h] at e; cases e
  refine ⟨by simp [g.len], ?_, fun a ha => ?_, fun i a r' h1 h2 => ?_⟩
  · rw [List.nodup_append]
    exact ⟨g.nd, by simp, fun a ha b hb => by
      obtain rfl : b = p := by simpa using hb
      exact fun e => hn (e ▸ ha)⟩
  · rcases List.mem_append.mp ha with ha | ha
    · exact g.new a ha
    · obtain rfl : a = p := by simpa using ha
      exact h0
  · by_cases hi : i < rs.length
    · rw [List.getElem?_append_left hi] at h1
      rw [List.getElem?_append_left (by rw [← g.len]; exact hi)] at h2
      have := g.at_ i a r' h1 h2
      rw [updM_ne (ne_none this h)]
      exact this
    · rw [List.getElem?_append_right (by omega)] at h1
      rw [List.getElem?_append_right (by rw [← g.len]; omega)] at h2
      rw [← g.len] at h2
      have hz : i - rs.length = 0 := by
        have := (List.getElem?_eq_some_iff.mp h1).1
        simp at this
        omega
      rw [hz] at h1 h2
      obtain rfl : p = a := by simpa using h1
      obtain rfl : r = r' := by simpa using h2
      exact updM_same
theorem Grid.set {M0 M : Mp} {rs : List Addr} {t : List (List Int)} {i : Nat} {a : Addr} {r : List Int} (g : Grid M0 M rs t) (hi : rs[i]? = some a) : Grid M0 (updM M a (.lst (r.map D.int))) rs (t.set i r) := by
  refine ⟨by simp [g.len], g.nd, g.new, fun j b r' h1 h2 => ?_⟩
  by_cases hj : i = j
  · subst hj
    rw [hi] at h1; cases h1
    rw [List.getElem?_set_self (by rw [← g.len]; exact (List.getElem?_eq_some_iff.mp hi).1)] at h2
    cases h2
    exact updM_same
  · rw [List.getElem?_set_ne hj] at h2
    have hb : b ≠ a := fun e => by
      subst e
      obtain ⟨l1, e1⟩ := List.getElem?_eq_some_iff.mp hi
      obtain ⟨l2, e2⟩ := List.getElem?_eq_some_iff.mp h1
      have hp := List.pairwise_iff_getElem.mp g.nd
      rcases Nat.lt_or_gt_of_ne hj with q | q
      · exact hp i j l1 l2 q (by rw [e1, e2])
      · exact hp j i l2 l1 q (by rw [e1, e2])
    rw [updM_ne hb]
    exact g.at_ j b r' h1 h2
theorem Grid.ne {M0 M : Mp} {rs : List Addr} {t : List (List Int)} {l : Addr} (g : Grid M0 M rs t) (hl : M0 l ≠ none) {a : Addr} (h : a ∈ rs) : l ≠ a := fun e => hl (e ▸ g.new a h)
theorem br_join {c : Bool} {ta tb : TED} {ρ : DSt} {M : Mp} {Q : KD} (R : KD) (h1 : ∀ Q' : KD, (∀ d M', R d M' → Q' d M') → c = true → ta ρ M Q') (h2 : ∀ Q' : KD, (∀ d M', R d M' → Q' d M') → c = false → tb ρ M Q') (h : ∀ d M', R d M' → Q d M') :
    br c (ta ρ M Q) (tb ρ M Q) := br_of (h1 Q h) (h2 Q h)
theorem un_of {k : Nat} {A : Around} (h : Room k A) : A.units + 200 < cLine := by
  have := h.un
  omega
theorem map_set_int {r : List Int} {j : Nat} {x : Int} : (r.map D.int).set j (.int x) = (r.set j x).map D.int := by rw [List.map_set]
theorem Ext.updE {l p : Addr} {M M1 : Mp} {o : MO} (h : Ext l M M1) (hp : M p = none) : Ext l M (updM M1 p o) := h.updN hp

/-! ### entries, walks -/
def rowT (t : List (List Int)) (i : Int) : List Int := t[i.toNat]?.getD []
def ent (t : List (List Int)) (i j : Int) : Int := at0 (rowT t i) j
def walkT (t : List (List Int)) (h : Int) (ws : List Int) : Int := ws.foldl (ent t) h
theorem walkT_snoc {t : List (List Int)} {h x : Int} {ws : List Int} : walkT t h (ws ++ [x]) = ent t (walkT t h ws) x := by simp [walkT]
theorem atI_ints {w : List Int} {k : Int} (h0 : 0 ≤ k) (h1 : k < w.length) : atI (w.map D.int) k = some (.int (at0 w k)) := by
  rw [atI_nn h0 (by rw [List.length_map]; exact h1), List.getElem?_map, at0_of h0 h1]; rfl
theorem IsTab.rowm {n : Nat} {t : List (List Int)} (h : IsTab n t) {i : Int} (h0 : 0 ≤ i) (h1 : i < n) : rowT t i ∈ t ∧ t[i.toNat]? = some (rowT t i) := by
  have : i.toNat < t.length := by rw [h.len]; omega
  unfold rowT
  rw [List.getElem?_eq_getElem this]
  exact ⟨List.getElem_mem this, rfl⟩
theorem IsTab.atr {n : Nat} {t : List (List Int)} (h : IsTab n t) {i : Int} (h0 : 0 ≤ i) (h1 : i < n) : atI (t.map dI) i = some (dI (rowT t i)) := by
  rw [atI_nn h0 (by rw [List.length_map, h.len]; exact h1), List.getElem?_map, (h.rowm h0 h1).2]; rfl
theorem IsTab.ate {n : Nat} {t : List (List Int)} (h : IsTab n t) {i j : Int} (h0 : 0 ≤ i) (h1 : i < n) (g0 : 0 ≤ j) (g1 : j < n) : atI ((rowT t i).map D.int) j = some (.int (ent t i j)) := atI_ints g0 (by rw [h.rlen (h.rowm h0 h1).1]; exact g1)
theorem IsTab.bd {n : Nat} {t : List (List Int)} (h : IsTab n t) {i j : Int} (h0 : 0 ≤ i) (h1 : i < n) (g0 : 0 ≤ j) (g1 : j < n) : 0 ≤ ent t i j ∧ ent t i j < n :=
  h.mem (h.rowm h0 h1).1 (List.mem_of_getElem? (at0_of g0 (by rw [h.rlen (h.rowm h0 h1).1]; exact g1)))
theorem IsTab.walk {n : Nat} {t : List (List Int)} (h : IsTab n t) : ∀ (ws : List Int) (i : Int), 0 ≤ i → i < n → (∀ x ∈ ws, 0 ≤ x ∧ x < n) → 0 ≤ walkT t i ws ∧ walkT t i ws < n
  | [], _, h0, h1, _ => ⟨h0, h1⟩
  | x :: ws, i, h0, h1, hw => by
    have b := h.bd h0 h1 (hw x List.mem_cons_self).1 (hw x List.mem_cons_self).2
    exact h.walk ws _ b.1 b.2 fun y hy => hw y (List.mem_cons_of_mem _ hy)
theorem perm_idx {n : Nat} {r : List Int} (h : r.Perm (rg n)) {o : Int} (ho : 0 ≤ o ∧ o < n) : o ∈ r ∧ r.idxOf o < n ∧ ∀ x : Int, 0 ≤ x → x < n → (at0 r x = o ↔ x = (r.idxOf o : Nat)) := by
  have hm : o ∈ r := h.mem_iff.mpr (rg_mem.mpr ho)
  have hl : r.length = n := by rw [h.length_eq, rg_length]
  have hi : r.idxOf o < r.length := List.idxOf_lt_length_of_mem hm
  refine ⟨hm, by omega, fun x x0 x1 => ?_⟩
  have hnd : r.Nodup := h.nodup_iff.mpr rg_nodup
  have hg : r[r.idxOf o]? = some o := by rw [List.getElem?_eq_getElem hi, List.getElem_idxOf hi]
  constructor
  · intro e
    have hx := at0_of (l := r) x0 (by omega)
    rw [e] at hx
    rcases Nat.lt_trichotomy x.toNat (r.idxOf o) with z | z | z
    · exact absurd hx (nodup_first hnd hg _ z)
    · omega
    · exact absurd hg (nodup_first hnd hx _ z)
  · rintro rfl
    unfold at0
    rw [Int.toNat_natCast, hg]
    rfl
theorem rg_succ {k : Nat} : rg (k + 1) = rg k ++ [(k : Int)] := by
  unfold rg
  rw [List.range_succ, List.map_append]
  rfl
theorem filter_one {n d : Nat} (h : d < n) (p : Int → Bool) (hp : ∀ x : Int, 0 ≤ x → x < n → (p x = true ↔ x = (d : Nat))) : (rg n).filter p = [(d : Int)] := by
  induction n with
  | zero => omega
  | succ n ih =>
    rw [rg_succ, List.filter_append]
    by_cases hd : d = n
    · subst hd
      have e1 : (rg d).filter p = [] := by
        rw [List.filter_eq_nil_iff]
        intro x hx hpx
        have b := rg_mem.mp hx
        have := (hp x b.1 (by omega)).mp hpx
        omega
      have e2 : p (d : Int) = true := (hp _ (by omega) (by omega)).mpr rfl
      rw [e1, List.filter_cons, e2]
      rfl
    · have e2 : p (n : Int) = false := by
        cases hb : p (n : Int) with
        | false => rfl
        | true =>
          have := (hp (n : Int) (by omega) (by omega)).mp hb
          omega
      rw [ih (by omega) fun x x0 x1 => hp x x0 (by omega), List.filter_cons, e2]
      rfl
end DL

/-! More of the layer: lists repeated, tuple(range(..)), sum. -/
namespace DL
open PySem PySem.Spec PyProof.Rows L2
section
variable {X : Cx} {K : PySem.W.Frag} {pos : Pos}
theorem FzAll.flat {H : Hp} {xs : List V} {ds : List D} (f : FzAll K H xs ds) : ∀ n : Nat, FzAll K H (List.replicate n xs).flatten (List.replicate n ds).flatten
  | 0 => .nil
  | n + 1 => by
    rw [List.replicate_succ, List.replicate_succ, List.flatten_cons, List.flatten_cons]
    exact f.append (FzAll.flat f n)
/-- xs * k, xs a list -/
def rRepX : R2D := fun x y M Q => match x, y with
  | .ref p, .int k => ∃ xs, M p = some (.lst xs) ∧ 0 ≤ k ∧ k ≤ 100000 ∧ xs.length * k.toNat ≤ sizeLine ∧ ∀ q, M q = none → Q (.ref q) (updM M q (.lst (List.replicate k.toNat xs).flatten))
  | _, _ => False
theorem br_rep : BR X .Mult rRepX := by
  refine ⟨_, op_rep, ?_⟩
  intro H M vx vy x y Q' Q fx fy m h k
  unfold rRepX at h
  split at h
  · obtain ⟨xs, hp, h0, h1, hz, q⟩ := h
    cases fx
    cases fy
    obtain ⟨ys, e, f⟩ := m.lst hp
    exact ⟨_, _, ys, rfl, rfl, e, by omega, by omega, by rw [f.length]; exact hz, fun p hp => k.newLst m (f.flat _) q hp⟩
  · exact h.elim
theorem rep_one {α : Type} {a : α} : ∀ n : Nat, (List.replicate n [a]).flatten = List.replicate n a
  | 0 => rfl
  | n + 1 => by rw [List.replicate_succ, List.flatten_cons, rep_one n]; rfl
/-- tuple(range(..)) -/
def dTupRg (t : TRD) : TED := fun ρ M Q => t ρ M fun a b M1 => RgOk a b ∧ Q (.tup (rgD a b)) M1
def zTupRg (te : L2.St → Hp → (Int → Int → Hp → Prop) → Prop) : TE := fun σ H Q => te σ H fun a b H1 => RgOk a b ∧ ∀ q o, H1 q = none → o.dict = none → Q (.ref q) (upd H1 q (.frz o (.tup (rgV a b))))
theorem pe_tupRgZ {e : Expr} {te : L2.St → Hp → (Int → Int → Hp → Prop) → Prop} {p : Pos} (hc : X.calm = true) (hg : Gl X "tuple") (hm : X.mg "tuple" = none) (he : PRg X e te) (na : starEach [e] X.env = (false, eval e X.env) :: starEach [] X.env := by rfl) :
    PE X (.Call (.Name "tuple" p) [e] [] pos) (zTupRg te) := by
  refine ⟨fun pins s σ H Q I h => Call_ (ld_blt I hg hm boot_tuple (PyProof.Rows.callWith_type1 (args_cons (thn (he pins s σ H _ I h) fun x s1 ⟨r, a, b, t, u, v, H1, ex, hr, I1, ok, q⟩ => args_nil ?_) na) na))⟩
  subst ex
  obtain ⟨b1, b2, b3, b4, b5⟩ := ok
  refine call_tuple_range (n := (b - a).toNat) (I1.ok.hd hc) hr (small_one b1 b2 b3 b4) (rangeSize_nat a b) b5 fun h' tk acc hk hi => ?_
  have I2 : Inv X pins σ H1 { s1 with heap := h', toks := tk } := I1.kept hk
  refine ⟨.ref h'.objs.size, _, I2.laid (t' := tk) (o := .frz ⟨.type "tuple", none, .seq acc 0, #[]⟩ (.tup (rgV a b))) (fun c o e => Heap.get?_push_of_some _ e) (Nat.le_refl _) ⟨Heap.get?_push_size _ rfl, ?_, acc.toList, vals_rg hi, ?_⟩, rfl, q _ _ (I2.hok.fresh (Nat.le_refl _)) rfl⟩
  · rw [rgV_length, sizeLine_eq]; omega
  · rw [Array.toArray_toList]; exact IsTup.new _ _
theorem de_tupRg {e : Expr} {te : TRD} {p : Pos} (hc : X.calm = true) (hg : Gl X "tuple") (hm : X.mg "tuple" = none) (he : DRg X e te) (na : starEach [e] X.env = (false, eval e X.env) :: starEach [] X.env := by rfl) : DE X (.Call (.Name "tuple" p) [e] [] pos) (dTupRg te) := by
  obtain ⟨t0, he, w⟩ := he
  refine pe_weak (pe_tupRgZ hc hg hm he na) fun σ H Q ⟨ρ, M, Q', r, m, h, k⟩ => ?_
  exact w σ H _ ⟨ρ, M, _, r, m, h, fun a b H1 M1 s q => ⟨q.1, fun p o hp ho => (k.after s).newTup s.mem (rgD_fz a b) q.2 hp ho⟩⟩
/-- sum(xs), a list of whole numbers -/
def rSumX : RCD := fun ds M Q => match ds with
  | [.ref p] => ∃ ns : List Int, M p = some (.lst (ns.map D.int)) ∧ Q (.int ns.sum) M
  | _ => False
theorem ca_sum (hc : X.calm = true) : CaR X (.builtin "sum") rSumX := by
  refine ⟨_, cr_sum hc, ?_⟩
  intro H M vs ds Q' Q fs m h k
  unfold rSumX at h
  split at h
  · obtain ⟨ns, hp, q⟩ := h
    cases fs with
    | cons f t =>
      cases t
      cases f
      obtain ⟨ys, h0, f⟩ := m.lst hp
      rw [f.ints] at h0
      exact ⟨_, ns, rfl, .of h0, k.val m (.int _) q⟩
  · exact h.elim
end

/-! ### frames, joins -/
def Keep (M M' : Mp) : Prop := ∀ b o, M b = some o → M' b = some o
theorem Keep.refl {M : Mp} : Keep M M := fun _ _ h => h
theorem Keep.trans {M M1 M2 : Mp} (a : Keep M M1) (b : Keep M1 M2) : Keep M M2 := fun x o h => b x o (a x o h)
theorem Keep.new {p : Addr} {M : Mp} {o : MO} (h : M p = none) : Keep M (updM M p o) := fun b o' e => by rw [updM_ne (ne_none e h)]; exact e
theorem Keep.updN {p : Addr} {M M1 : Mp} {o : MO} (h : Keep M M1) (hp : M p = none) : Keep M (updM M1 p o) := fun b o' e => by
  rw [updM_ne (ne_none e hp)]
  exact h b o' e
theorem Bag.keep {M M' : Mp} {l : Addr} (h : Bag M l) (k : Keep M M') : Bag M' l := let ⟨g, s, c, e, r⟩ := h; ⟨g, s, c, k _ _ e, r⟩
theorem Keep.ext {M M' : Mp} {l : Addr} (h : Keep M M') : Ext l M M' := fun b o _ e => h b o e
theorem if_join {b : Bool} {t u : TSD} {E : EndD} {ρ : DSt} {M : Mp} (R : DSt → Mp → Prop) (h1 : ∀ E' : EndD, (∀ ρ' M', R ρ' M' → E'.nx ρ' M') → b = true → t E' ρ M) (h2 : ∀ E' : EndD, (∀ ρ' M', R ρ' M' → E'.nx ρ' M') → b = false → u E' ρ M)
    (h : ∀ ρ' M', R ρ' M' → E.nx ρ' M') : br b (t E ρ M) (u E ρ M) := br_of (h1 E h) (h2 E h)
theorem cut_ints {l : List Int} {lo hi : Option Int} : ∃ l' : List Int, cutD (l.map D.int) lo hi = l'.map D.int ∧ (∀ x ∈ l', x ∈ l) ∧ l'.length ≤ l.length := by
  unfold cutD
  rw [List.length_map]
  refine ⟨(l.drop (HT.sIx l.length 0 lo)).take (HT.sIx l.length l.length hi - HT.sIx l.length 0 lo), by rw [List.map_take, List.map_drop], fun x hx => List.mem_of_mem_drop (List.mem_of_mem_take hx), ?_⟩
  rw [List.length_take, List.length_drop]
  omega

/-! ### words written by a table -/
def cip (t : List (List Int)) (k : Int) : List Int → List Int
  | [] => []
  | x :: ws => ent t k x :: cip t (ent t k x) ws
def dec (t : List (List Int)) (k : Int) : List Int → List Int
  | [] => []
  | x :: ws => ((rowT t k).idxOf x : Nat) :: dec t x ws
def lstK (k : Int) (ws : List Int) : Int := ws.foldl (fun _ x => x) k
theorem cip_snoc {t : List (List Int)} {x : Int} : ∀ {ws : List Int} {k : Int}, cip t k (ws ++ [x]) = cip t k ws ++ [ent t (walkT t k ws) x]
  | [], k => rfl
  | y :: ws, k => by
    show ent t k y :: cip t (ent t k y) (ws ++ [x]) = _
    rw [cip_snoc (ws := ws)]
    rfl
theorem dec_snoc {t : List (List Int)} {x : Int} : ∀ {ws : List Int} {k : Int}, dec t k (ws ++ [x]) = dec t k ws ++ [(((rowT t (lstK k ws)).idxOf x : Nat) : Int)]
  | [], k => rfl
  | y :: ws, k => by
    show (((rowT t k).idxOf y : Nat) : Int) :: dec t y (ws ++ [x]) = _
    rw [dec_snoc (ws := ws)]
    rfl
theorem lstK_snoc {k x : Int} {ws : List Int} : lstK k (ws ++ [x]) = x := by simp [lstK]
theorem lstK_in {n : Nat} : ∀ {ws : List Int} {k : Int}, 0 ≤ k → k < n → (∀ x ∈ ws, 0 ≤ x ∧ x < n) → 0 ≤ lstK k ws ∧ lstK k ws < n
  | [], k, h0, h1, _ => ⟨h0, h1⟩
  | x :: ws, k, h0, h1, hw => lstK_in (ws := ws) (hw x List.mem_cons_self).1 (hw x List.mem_cons_self).2 fun y hy => hw y (List.mem_cons_of_mem _ hy)
theorem IsTab.idx {n : Nat} {t : List (List Int)} (h : IsTab n t) {k x : Int} (k0 : 0 ≤ k) (k1 : k < n) (x0 : 0 ≤ x) (x1 : x < n) : (rowT t k).idxOf x < n ∧ ent t k ((rowT t k).idxOf x : Nat) = x := by
  obtain ⟨_, b, c⟩ := perm_idx (h.row _ (h.rowm k0 k1).1) (o := x) ⟨x0, x1⟩
  exact ⟨b, (c _ (by omega) (by omega)).mpr rfl⟩
theorem dec_cip {n : Nat} {t : List (List Int)} (h : IsTab n t) : ∀ {ws : List Int} {k : Int}, 0 ≤ k → k < n → (∀ x ∈ ws, 0 ≤ x ∧ x < n) → dec t k (cip t k ws) = ws
  | [], k, _, _, _ => rfl
  | x :: ws, k, h0, h1, hw => by
    have hx := hw x List.mem_cons_self
    have b := h.bd h0 h1 hx.1 hx.2
    obtain ⟨_, _, c⟩ := perm_idx (h.row _ (h.rowm h0 h1).1) (o := ent t k x) b
    show (((rowT t k).idxOf (ent t k x) : Nat) : Int) :: dec t (ent t k x) (cip t (ent t k x) ws) = _
    rw [dec_cip h b.1 b.2 fun y hy => hw y (List.mem_cons_of_mem _ hy), ← (c x hx.1 hx.2).mp rfl]
theorem cip_dec {n : Nat} {t : List (List Int)} (h : IsTab n t) : ∀ {ws : List Int} {k : Int}, 0 ≤ k → k < n → (∀ x ∈ ws, 0 ≤ x ∧ x < n) → cip t k (dec t k ws) = ws
  | [], k, _, _, _ => rfl
  | x :: ws, k, h0, h1, hw => by
    have hx := hw x List.mem_cons_self
    have i := h.idx h0 h1 hx.1 hx.2
    show ent t k ((rowT t k).idxOf x : Nat) :: cip t (ent t k ((rowT t k).idxOf x : Nat)) (dec t x ws) = _
    rw [i.2, cip_dec h hx.1 hx.2 fun y hy => hw y (List.mem_cons_of_mem _ hy)]
theorem cip_in {n : Nat} {t : List (List Int)} (h : IsTab n t) : ∀ {ws : List Int} {k : Int}, 0 ≤ k → k < n → (∀ x ∈ ws, 0 ≤ x ∧ x < n) → (∀ x ∈ cip t k ws, 0 ≤ x ∧ x < n) ∧ (cip t k ws).length = ws.length
  | [], k, _, _, _ => ⟨fun _ h => (by cases h), rfl⟩
  | x :: ws, k, h0, h1, hw => by
    have hx := hw x List.mem_cons_self
    have b := h.bd h0 h1 hx.1 hx.2
    have ih := cip_in h b.1 b.2 (ws := ws) fun y hy => hw y (List.mem_cons_of_mem _ hy)
    refine ⟨fun y hy => ?_, congrArg (· + 1) ih.2⟩
    rcases List.mem_cons.mp hy with rfl | hy
    · exact b
    · exact ih.1 y hy
theorem dec_in {n : Nat} {t : List (List Int)} (h : IsTab n t) : ∀ {ws : List Int} {k : Int}, 0 ≤ k → k < n → (∀ x ∈ ws, 0 ≤ x ∧ x < n) → (∀ x ∈ dec t k ws, 0 ≤ x ∧ x < n) ∧ (dec t k ws).length = ws.length
  | [], k, _, _, _ => ⟨fun _ h => (by cases h), rfl⟩
  | x :: ws, k, h0, h1, hw => by
    have hx := hw x List.mem_cons_self
    have i := h.idx h0 h1 hx.1 hx.2
    have ih := dec_in h hx.1 hx.2 (ws := ws) fun y hy => hw y (List.mem_cons_of_mem _ hy)
    refine ⟨fun y hy => ?_, congrArg (· + 1) ih.2⟩
    rcases List.mem_cons.mp hy with rfl | hy
    · omega
    · exact ih.1 y hy
end DL

/-! xs[i] += e, xs a list. -/
namespace DL
open PySem PySem.Spec PyProof.Rows L2
section
variable {X : Cx} {pos : Pos}
def zGet : V → V → Hp → VK → Prop := fun o i H Q => ∃ p xs k v, o = .ref p ∧ i = .int k ∧ H p = some (.lst xs) ∧ 0 ≤ k ∧ xs[k.toNat]? = some v ∧ Q v H
theorem get_list : PGet X zGet := by
  intro pins s σ H o i ov iv Q I ro ri h
  obtain ⟨p, xs, k, v, rfl, rfl, hp, h0, hv, q⟩ := h
  cases ro
  obtain ⟨t, rfl⟩ := ri
  obtain ⟨its, r, pl, hz⟩ := I.list (.of hp)
  obtain ⟨u, hu, ru⟩ := r.get hv
  have hl := r.length
  have hk := (List.getElem?_eq_some_iff.mp hv).1
  have hn := line63
  refine wpAny_getItem_list (x := u) pl.isList h0 (by omega) (by simpa using hu) ⟨v, H, I, ru, q⟩
def dAugL (to ti te : TED) (rd : R2D) : TSD := fun E ρ M => to ρ M fun o M1 => ti ρ M1 fun i M2 => match o, i with
  | .ref p, .int k => ∃ ds x, M2 p = some (.lst ds) ∧ 0 ≤ k ∧ ds[k.toNat]? = some x ∧ te ρ M2 fun y M3 => rd x y M3 fun z M4 => ∃ es, M4 p = some (.lst es) ∧ k.toNat < es.length ∧ E.nx ρ (updM M4 p (.lst (es.set k.toNat z)))
  | _, _ => False
theorem ds_augL {o i e : Expr} {to ti te : TED} {rd : R2D} {op : Operator} {tpos : Pos} (ho : DE X o to) (hi : DE X i ti) (he : DE X e te) (hp : IR X op rd)
    (ha : ∀ ov iv new, augStore i ov iv new = (do holding [new, ov, iv] (setItem ov iv new); release [new, ov, iv] []; pure .next) := by intros; rfl) : DS X (.AugAssign (.Subscript o i tpos) op e pos) (dAugL to ti te rd) := by
  obtain ⟨r0, hop, l⟩ := hp
  refine ps_weak (ps_augS (tip := r0) ho hi get_list he hop set_list ha) fun E σ H ⟨ρ, M, E', r, m, h, k⟩ => ?_
  refine ⟨ρ, M, _, r, m, h, fun vo H1 od M1 fo s1 q1 => ⟨ρ, M1, _, r.up s1.tups, s1.mem, q1, fun vi H2 id' M2 fi s2 q2 => ?_⟩⟩
  have fo2 := fo.up s2.tups
  split at q2
  · rename_i p' kk
    obtain ⟨ds, x, hp, h0, hx, q2⟩ := q2
    cases fo2
    cases fi
    obtain ⟨xs, e, fs⟩ := s2.mem.lst hp
    obtain ⟨v, hv, fv⟩ := fs.get hx
    refine ⟨_, xs, _, v, rfl, rfl, e, h0, hv, ρ, M2, _, (r.up s1.tups).up s2.tups, s2.mem, q2, fun vy H3 y M3 fy s3 q3 => ?_⟩
    have k0 := k.after ((s1.trans s2).trans s3)
    refine l H3 M3 v vy x y (fun z M4 => ∃ es, M4 p' = some (.lst es) ∧ kk.toNat < es.length ∧ E'.nx ρ (updM M4 p' (.lst (es.set kk.toNat z)))) _ (fv.up s3.tups) fy s3.mem q3 fun vz H4 z M4 fz s4 q4 => ?_
    obtain ⟨es, hp4, hlt, q4⟩ := q4
    obtain ⟨ys, e4, f4⟩ := s4.mem.lst hp4
    refine ⟨_, ys, _, _, rfl, rfl, e4, ixN_nn h0 (by rw [f4.length]; omega), ?_⟩
    have s5 : Step X.K H4 M4 _ _ := Step.wr (u := .lst (ys.set kk.toNat vz)) (o := .lst (es.set kk.toNat z)) s4.mem hp4 (fun z => (by cases z)) ⟨_, rfl, f4.set fz _⟩
    exact (k0.after s4).nx _ _ _ _ (((((r.up s1.tups).up s2.tups).up s3.tups).up s4.tups).up s5.tups) s5 q4
  · exact q2.elim
end

theorem for_join {te : TED} {g : TGD} {tb : TSD} {E : EndD} {ρ : DSt} {M : Mp} (R : KD) (h1 : ∀ Q' : KD, (∀ d M', R d M' → Q' d M') → te ρ M Q') (h : ∀ d M', R d M' → dFor (diSeq (dC d)) g tb E ρ M') : dFor (diSeq te) g tb E ρ M := h1 _ h
theorem cut_take {ds : List D} {k : Int} (h0 : 0 ≤ k) (h1 : k ≤ ds.length) : cutD ds none (some k) = ds.take k.toNat := by
  unfold cutD
  have e1 : HT.sIx ds.length 0 none = 0 := rfl
  have e2 : HT.sIx ds.length ds.length (some k) = k.toNat := by
    simp only [HT.sIx]
    split <;> omega
  rw [e1, e2]
  simp
/-! ### blocks -/
structure BlkOk (n : Nat) (b : List (List Int)) : Prop where
  l0 : 1 ≤ b.length
  l1 : b.length ≤ 60
  row : ∀ r ∈ b, 1 ≤ r.length ∧ r.length ≤ 60 ∧ ∀ x ∈ r, 0 ≤ x ∧ x < n
theorem BlkOk.mono {n m : Nat} {b : List (List Int)} (h : BlkOk n b) (hm : n ≤ m) : BlkOk m b := ⟨h.l0, h.l1, fun r hr => ⟨(h.row r hr).1, (h.row r hr).2.1, fun x hx => by have := (h.row r hr).2.2 x hx; omega⟩⟩
theorem BlkOk.sm {n : Nat} {b : List (List Int)} (h : BlkOk n b) (hn : n ≤ 200) : Sm 2 50000 (pII b) := by
  refine (sm_II (n := 60) fun r hr => ⟨(h.row r hr).2.1, fun i hi => by have := (h.row r hr).2.2 i hi; omega⟩).mono (Nat.le_refl _) ?_
  have := h.l1
  omega
def cntB (b : List (List Int)) (x : Int) : Int := (b.map fun r => ((r.count x : Nat) : Int)).sum
def leastB (b : List (List Int)) (s : Nat) : Int := (b.length : Int) + ((rowT b 0).length : Int) - s
def lackF (b : List (List Int)) (s : Nat) : List Int := (rg s).filter fun x => decide (cntB b x < leastB b s)
theorem cntB_snoc {b : List (List Int)} {r : List Int} {x : Int} : cntB (b ++ [r]) x = cntB b x + ((r.count x : Nat) : Int) := by
  unfold cntB
  rw [List.map_append, List.sum_append]
  simp
theorem rg_get {s k : Nat} (h : k < s) : (rg s)[k]? = some (k : Int) := by simp [rg, h]
theorem set_cnt {s : Nat} {g : Int → Int} {y : Int} (y0 : 0 ≤ y) (y1 : y < s) : (((rg s).map g).map D.int).set y.toNat (.int (g y + 1)) = ((rg s).map fun x => g x + if x = y then 1 else 0).map D.int := by
  apply List.ext_getElem?
  intro i
  by_cases hi : i < s
  · by_cases e : y.toNat = i
    · subst e
      rw [List.getElem?_set_self (by simp [rg_length]; omega), List.getElem?_map, List.getElem?_map, rg_get hi]
      have : ((y.toNat : Nat) : Int) = y := by omega
      simp [this]
    · rw [List.getElem?_set_ne e, List.getElem?_map, List.getElem?_map, List.getElem?_map, List.getElem?_map, rg_get hi]
      have : ¬ ((i : Int) = y) := by omega
      simp [this]
  · rw [List.getElem?_eq_none (by simp [rg_length]; omega), List.getElem?_eq_none (by simp [rg_length]; omega)]
end DL

/-! sorted of whole numbers, a list or a tuple. -/
namespace DL
open PySem PySem.Spec PyProof.Rows L2
section
variable {prog : Program} {w : World} {A : Around} {E : Value → Shared → Prop} {s : Shared}
/-- what sorted takes of a tuple -/
theorem collect_tup {l : Addr} {us : List Value} {R : List Value → Shared → Prop} (t : IsTup s.heap l us.toArray) (hz : us.length ≤ sizeLine)
    (fin : R us { s with heap := (s.heap.push (seqObj "list" #[] 0)).update s.heap.objs.size (Obj.mapSeq (· ++ us.toArray)) }) : wpAny (model prog w) A (collect (.ref l)) R E s := by
  obtain ⟨o, e, hc, k, dat⟩ := id t
  have e1 : (s.heap.push (seqObj "list" #[] 0)).get? l = some o := Heap.get?_push_of_some _ e
  have new : (s.heap.push (seqObj "list" #[] 0)).get? s.heap.objs.size = some (seqObj "list" #[] 0) := Heap.get?_push_size _ rfl
  have fits : ((#[] : Array Value) ++ us.toArray).size ≤ sizeLine + 1 := by simp only [Array.size_append, List.size_toArray, List.length_nil]; omega
  unfold collect; refine wpAny_bind (wpAny_runValue (codeAny_builtin entry_proto_collect' ?_))
  refine (show wpAny _ _ (do again (.builtin "list.__iadd__" ⟨[← newList [], .ref l], []⟩)) _ _ s from ?_)
  refine wpAny_bind (wpAny_newList (wpAny_pure ⟨Code.quiet_builtin _ (by decide +kernel), codeAny_builtin entry_list_iadd' (show wpAny _ _ (Builtin.List.listExtendWith (.ref s.heap.objs.size) (.ref l) (.ref s.heap.objs.size)) _ _ { s with heap := s.heap.push (seqObj "list" #[] 0) } from ?_)⟩))
  unfold Builtin.List.listExtendWith; refine wpAny_bind (wpAny_typeOf (T := "tuple") ⟨o, e1, hc⟩ ?_)
  rw [if_pos (by rw [show (Value.type "tuple" == Value.type "tuple") = true from rfl]; simp)]
  refine wpAny_bind (listItems_at e1 dat (wpAny_bind (listItems_at (xs := #[]) (n := 0) new rfl ?_)))
  rw [if_neg (by simp)]
  refine wpAny_bind (listUpdate_at (xs := #[]) (n := 0) new rfl (wpAny_pure ?_) (Nat.zero_le _) fits)
  refine (show wpAny (model prog w) A (do
      let o ← load s.heap.objs.size
      match o.data with
      | .seq xs _ => pure xs.toList
      | _ => unsupported "internal:collect") R E { s with heap := (s.heap.push (seqObj "list" #[] 0)).update s.heap.objs.size (Obj.mapSeq (· ++ us.toArray)) } from ?_)
  refine wpAny_bind (wpAny_load (get?_update_seq new _) ?_)
  refine (show wpAny _ _ (pure ((#[] : Array Value) ++ us.toArray).toList) R E _ from ?_)
  rw [show ((#[] : Array Value) ++ us.toArray).toList = us by simp]; exact wpAny_pure fin
end
section
variable {prog : Program} {w : World} {A : Around} {E : Value → Shared → Prop} {s : Shared}
/-- sorted(t) of a tuple -/
theorem sorted_tup {l : Addr} {us : List Value} {ns : List Int} {R : Value → Shared → Prop} (t : IsTup s.heap l us.toArray) (hz : us.length ≤ sizeLine) (hi : IntsAre us ns)
    (fin : ∀ out : List Value, SrtO.Srtd SrtO.ltIv out → SrtO.Stb SrtO.ltIv out us → R (.ref (s.heap.objs.size + 1)) { s with heap := sortedAll s.heap us out.toArray }) :
    wpAny (model prog w) A (call (.builtin "sorted") [.ref l]) R E s := by
  refine Calls.call_function_entry kind_sorted plain_sorted entry_sorted (args_sorted1 _) ?_
  unfold Builtin.«sorted»; refine wpAny_bind (m := checkCount "sorted" 1 1 _) (wpAny_pure (wpAny_bind (collect_tup t hz (wpAny_bind (wpAny_newList ?_ hz)))))
  have z1 : ((s.heap.push (seqObj "list" #[] 0)).update s.heap.objs.size (Obj.mapSeq (· ++ us.toArray))).objs.size = s.heap.objs.size + 1 := by rw [Heap.size_update, size_push']
  have e1 : (((s.heap.push (seqObj "list" #[] 0)).update s.heap.objs.size (Obj.mapSeq (· ++ us.toArray))).push (seqObj "list" us.toArray 0)).get? (s.heap.objs.size + 1) = some (seqObj "list" us.toArray 0) := by rw [← z1]; exact Heap.get?_push_size _ rfl
  refine (show wpAny _ _ _ _ _ { s with heap := ((s.heap.push (seqObj "list" #[] 0)).update s.heap.objs.size (Obj.mapSeq (· ++ us.toArray))).push (seqObj "list" us.toArray 0) } from ?_)
  rw [z1]
  refine wpAny_bind (wpAny_holding (wpAny_call_entry slot_list_sort ⟨_, e1, rfl⟩ entry_list_sort (SrtO.list_sort_ord SrtO.swo_int e1 hz (fun h2 => SrtO.ints_sortable hi h2) fun out h1 h2 => ⟨_, rfl, wpAny_pure ⟨_, rfl, fin out h1 h2⟩⟩) (args_list_sort _)))
end
section
variable {X : Cx}
theorem cr_sortedTup : CallR X (.builtin "sorted") (fun vs H Q => ∃ (a : Addr) (ns : List Int), vs = [V.ref a] ∧ SqT X.K H a (ns.map V.int) ∧ ∀ (ns' : List Int) (p : Addr), ns'.Perm ns → ns'.Pairwise (· ≤ ·) → H p = none → Q (.ref p) (upd H p (.lst (ns'.map V.int)))) := by
  intro pins s σ H vs us Q I r h
  obtain ⟨a, ns, rfl, hs, q⟩ := h
  obtain ⟨its, rv, hl, hz⟩ := I.tuple hs
  have hi : IntsAre its ns := intsAre_of rv
  obtain ⟨u, rfl, ru⟩ := vals1 r
  cases ru
  refine sorted_tup hl (by rw [← rv.length]; exact hz) hi fun out h1 h2 => ?_
  obtain ⟨k1, k2, k3⟩ := SrtO.ints_out hi h1 h2
  obtain ⟨ep, old⟩ := PyProof.Rows.sortedAll_at s.heap its out.toArray
  have fit : ((out.map SrtO.iv).map V.int).length ≤ sizeLine := by rw [List.length_map, k2.length_eq]; rw [List.length_map] at hz; exact hz
  exact ⟨.ref _, _, I.laid (t' := s.toks) (o := .lst ((out.map SrtO.iv).map V.int)) (fun _ _ => PyProof.Rows.sortedAll_old) (Nat.le_succ _) ⟨fit, out, ep, vals_of_ints k1, old⟩, rfl, q _ _ k2 k3 (I.hok.fresh (Nat.le_succ _))⟩
/-- sorted(xs), whole numbers: a list or a tuple -/
def rSortX : RCD := fun ds M Q => match ds with
  | [.ref p] => ∃ ns : List Int, M p = some (.lst (ns.map D.int)) ∧ ∀ (ns' : List Int) (q : Addr), ns'.Perm ns → ns'.Pairwise (· ≤ ·) → M q = none → Q (.ref q) (updM M q (.lst (ns'.map D.int)))
  | [.tup xs] => ∃ ns : List Int, xs = ns.map D.int ∧ ∀ (ns' : List Int) (q : Addr), ns'.Perm ns → ns'.Pairwise (· ≤ ·) → M q = none → Q (.ref q) (updM M q (.lst (ns'.map D.int)))
  | _ => False
theorem CallR.both {f : Value} {r r' : List V → Hp → VK → Prop} (h : CallR X f r) (h' : CallR X f r') : CallR X f (fun xs H Q => r xs H Q ∨ r' xs H Q) := by
  intro pins s σ H xs us Q I rx q
  rcases q with q | q
  · exact h pins s σ H xs us Q I rx q
  · exact h' pins s σ H xs us Q I rx q
theorem ca_sorted : CaR X (.builtin "sorted") rSortX := by
  refine ⟨_, CallR.both cr_sortedI cr_sortedTup, ?_⟩
  intro H M vs ds Q' Q fs m h k
  unfold rSortX at h
  split at h
  · obtain ⟨ns, hp, q⟩ := h
    cases fs with
    | cons f t =>
      cases t
      cases f
      obtain ⟨ys, h0, f⟩ := m.lst hp
      rw [f.ints] at h0
      exact .inl ⟨_, ns, rfl, .of h0, fun ns' p hpm hpw hn => k.newLst m FzAll.of_ints (fun p' hp' => q ns' p' hpm hpw hp') hn⟩
  · obtain ⟨ns, rfl, q⟩ := h
    cases fs with
    | cons f t =>
      cases t
      cases f with
      | tup hs g => exact .inr ⟨_, ns, rfl, by rw [← g.ints]; exact hs.t, fun ns' p hpm hpw hn => k.newLst m FzAll.of_ints (fun p' hp' => q ns' p' hpm hpw hp') hn⟩
  · exact h.elim
/-- sorted numbers that are a permutation of 0 .. n - 1 -/
theorem sorted_rg {n : Nat} {l : List Int} (hp : l.Perm (rg n)) (hs : l.Pairwise (· ≤ ·)) : l = rg n := by
  refine List.Perm.eq_of_pairwise (le := fun a b => a ≤ b) (fun a b _ _ h1 h2 => Int.le_antisymm h1 h2) hs ?_ hp
  unfold rg
  rw [List.pairwise_map]
  exact List.Pairwise.imp (fun h => by omega) (List.pairwise_lt_range (n := n))
end
end DL

/-! Three names in a comprehension. -/
namespace DL
open PySem L2
def g3' (i j l : Nat) : D → DSt → Option DSt := fun x ρ => match x with
  | .tup [a, b, c] => some (((ρ.set i (some a)).set j (some b)).set l (some c))
  | .pr [a, b, c] => some (((ρ.set i (some a)).set j (some b)).set l (some c))
  | _ => none
theorem set3 {α : Type} (σ : List α) {i j l : Nat} (hij : i ≠ j) (hil : i ≠ l) (hjl : j ≠ l) (n a b c : α) :
    (((((σ.set l n).set j n).set i n).set i a).set j b).set l c = ((σ.set i a).set j b).set l c := by
  rw [List.set_set]
  rw [List.set_comm _ _ (Ne.symm hij)] 
  rw [List.set_set]
  rw [List.set_comm _ _ (Ne.symm hil), List.set_comm _ _ (Ne.symm hjl), List.set_set]
theorem wipe3 {α : Type} (w : List α) {i j l : Nat} (hij : i ≠ j) (hil : i ≠ l) (hjl : j ≠ l) (n a b c : α) :
    ((((((w.set i a).set j b).set l c).set l n).set j n).set i n) = ((w.set l n).set j n).set i n := by
  rw [List.set_set, List.set_comm _ _ hjl, List.set_set]
  rw [List.set_comm _ _ hil, List.set_comm _ _ hij, List.set_set]
theorem own3 (K : PySem.W.Frag) {i j l : Nat} (hij : i ≠ j) (hil : i ≠ l) (hjl : j ≠ l) : OwnG K (gTup K 3 (gCons (gName i) (gCons (gName j) (gCons (gName l) gNil)))) [i, j, l] (g3' i j l) := ⟨fun x v H σ ρ ρ2 Q f r e k => by
  have go : ∀ a b c : D, (x = .tup [a, b, c] ∨ x = .pr [a, b, c]) → some (((ρ.set i (some a)).set j (some b)).set l (some c)) = some ρ2 → gTup K 3 (gCons (gName i) (gCons (gName j) (gCons (gName l) gNil))) v (L2.wipe σ [i, j, l]) H Q := by
    intro a b c hx e
    cases e
    obtain ⟨p, xs, rfl, hs, fs⟩ := tp_of f hx
    cases fs with
    | cons f1 fs =>
      cases fs with
      | cons f2 fs =>
        cases fs with
        | cons f3 fs =>
          cases fs
          refine ⟨p, _, rfl, hs, rfl, _, _, rfl, _, _, rfl, _, _, rfl, rfl, k _ ?_ ?_⟩
          · show (((((((((σ.set l none).set j none).set i none).set i _).set j _).set l _).set l none).set j none).set i none) = ((σ.set l none).set j none).set i none
            rw [wipe3 _ hij hil hjl]
            apply List.ext_getElem?
            intro m
            simp only [List.getElem?_set, List.length_set]
            repeat' split <;> simp_all
          · show RelS K H ((((((σ.set l none).set j none).set i none).set i _).set j _).set l _) _
            rw [set3 σ hij hil hjl]
            exact ((r.set i f1).set j f2).set l f3
  unfold g3' at e
  split at e
  · exact go _ _ _ (.inl rfl) e
  · exact go _ _ _ (.inr rfl) e
  · cases e⟩
end DL

/-! Tables turned: plain law. -/
namespace DL
open PySem L2
/-- t says: i and j give k -/
def Gives (n : Nat) (t : List (List Int)) (i j k : Int) : Prop := 0 ≤ i ∧ i < n ∧ 0 ≤ j ∧ j < n ∧ ent t i j = k
theorem Gives.k_in {n : Nat} {t : List (List Int)} (h : IsTab n t) {i j k : Int} (g : Gives n t i j k) : 0 ≤ k ∧ k < n := by
  obtain ⟨a, b, c, d, rfl⟩ := g
  exact h.bd a b c d
theorem col_at0 {n : Nat} {t : List (List Int)} (h : IsTab n t) {i j : Int} (i0 : 0 ≤ i) (i1 : i < n) (j0 : 0 ≤ j) (j1 : j < n) : at0 (col t j.toNat) i = ent t i j := by
  have r := h.rowm i0 i1
  have := col_at (t := t) (i := i.toNat) (j := j.toNat) r.2
  unfold at0
  rw [this]
  rfl
/-- two of the three tell the third -/
theorem Gives.one {n : Nat} {t : List (List Int)} (h : IsTab n t) {i j k j' : Int} (g : Gives n t i j k) (g' : Gives n t i j' k) : j = j' := by
  obtain ⟨a, b, c, d, e⟩ := g
  obtain ⟨_, _, c', d', e'⟩ := g'
  have kk := h.bd a b c d
  rw [e] at kk
  obtain ⟨_, _, z⟩ := perm_idx (h.row _ (h.rowm a b).1) (o := k) kk
  exact ((z j c d).mp e).trans ((z j' c' d').mp e').symm
theorem Gives.two {n : Nat} {t : List (List Int)} (h : IsTab n t) {i j k i' : Int} (g : Gives n t i j k) (g' : Gives n t i' j k) : i = i' := by
  obtain ⟨a, b, c, d, e⟩ := g
  obtain ⟨a', b', _, _, e'⟩ := g'
  have kk := h.bd a b c d
  rw [e] at kk
  obtain ⟨_, _, z⟩ := perm_idx (h.col j.toNat (by omega)) (o := k) kk
  exact ((z i a b).mp (by rw [col_at0 h a b c d]; exact e)).trans ((z i' a' b').mp (by rw [col_at0 h a' b' c d]; exact e')).symm
theorem Gives.ex_j {n : Nat} {t : List (List Int)} (h : IsTab n t) {i k : Int} (i0 : 0 ≤ i) (i1 : i < n) (k0 : 0 ≤ k) (k1 : k < n) : ∃ j, Gives n t i j k := by
  obtain ⟨_, l, z⟩ := perm_idx (h.row _ (h.rowm i0 i1).1) (o := k) ⟨k0, k1⟩
  exact ⟨_, i0, i1, by omega, by omega, (z _ (by omega) (by omega)).mpr rfl⟩
theorem Gives.ex_i {n : Nat} {t : List (List Int)} (h : IsTab n t) {j k : Int} (j0 : 0 ≤ j) (j1 : j < n) (k0 : 0 ≤ k) (k1 : k < n) : ∃ i, Gives n t i j k := by
  obtain ⟨_, l, z⟩ := perm_idx (h.col j.toNat (by omega)) (o := k) ⟨k0, k1⟩
  have e := (z _ (by omega) (by omega)).mpr rfl
  rw [col_at0 h (by omega) (by omega) j0 j1] at e
  exact ⟨_, by omega, by omega, j0, j1, e⟩

theorem map_perm_rg {n : Nat} {f : Int → Int} (h : ∀ x : Int, 0 ≤ x → x < n → 0 ≤ f x ∧ f x < n) (inj : ∀ x y : Int, 0 ≤ x → x < n → 0 ≤ y → y < n → f x = f y → x = y) : ((rg n).map f).Perm (rg n) := by
  refine perm_of ?_ (fun x hx => ?_) (by rw [List.length_map])
  · unfold List.Nodup
    rw [List.pairwise_map]
    refine List.Pairwise.imp_of_mem (fun {x y} hx hy hne e => hne ?_) (rg_nodup (n := n))
    have a := rg_mem.mp hx
    have b := rg_mem.mp hy
    exact inj x y a.1 a.2 b.1 b.2 e
  · obtain ⟨y, hy, rfl⟩ := List.mem_map.mp hx
    have b := rg_mem.mp hy
    exact rg_mem.mpr (h y b.1 b.2)
/-- a table by what it gives -/
theorem mk_tab {n : Nat} {f : Int → Int → Int} (h : ∀ a b : Int, 0 ≤ a → a < n → 0 ≤ b → b < n → 0 ≤ f a b ∧ f a b < n)
    (i1 : ∀ a b b' : Int, 0 ≤ a → a < n → 0 ≤ b → b < n → 0 ≤ b' → b' < n → f a b = f a b' → b = b') (i2 : ∀ a a' b : Int, 0 ≤ a → a < n → 0 ≤ a' → a' < n → 0 ≤ b → b < n → f a b = f a' b → a = a') :
    IsTab n ((rg n).map fun a => (rg n).map (f a)) ∧ ∀ a b : Int, 0 ≤ a → a < n → 0 ≤ b → b < n → ent ((rg n).map fun a => (rg n).map (f a)) a b = f a b := by
  have at_ : ∀ {g : Int → Int} {j : Nat}, j < n → ((rg n).map g)[j]? = some (g j) := fun {g j} hj => by
    rw [List.getElem?_map]
    simp [rg, hj]
  refine ⟨⟨by rw [List.length_map, rg_length], fun r hr => ?_, fun j hj => ?_⟩, fun a b a0 a1 b0 b1 => ?_⟩
  · obtain ⟨a, ha, rfl⟩ := List.mem_map.mp hr
    have q := rg_mem.mp ha
    exact map_perm_rg (fun x x0 x1 => h a x q.1 q.2 x0 x1) fun x y x0 x1 y0 y1 e => i1 a x y q.1 q.2 x0 x1 y0 y1 e
  · have e : col ((rg n).map fun a => (rg n).map (f a)) j = (rg n).map fun a => f a j := by
      unfold col
      rw [List.map_map]
      apply List.map_congr_left
      intro a _
      simp only [Function.comp]
      rw [at_ hj]
      rfl
    rw [e]
    exact map_perm_rg (fun x x0 x1 => h x j x0 x1 (by omega) (by omega)) fun x y x0 x1 y0 y1 e => i2 x y j x0 x1 y0 y1 (by omega) (by omega) e
  · unfold ent rowT at0
    have ea : (rg n)[a.toNat]? = some a := by
      rw [rg_get (by omega), show ((a.toNat : Nat) : Int) = a by omega]
    rw [List.getElem?_map, ea]
    show (((rg n).map (f a))[b.toNat]?).getD 0 = f a b
    rw [at_ (by omega), show ((b.toNat : Nat) : Int) = b by omega]
    rfl
/-- place p of three -/
def tri (i j k p : Int) : Int := if p = 0 then i else if p = 1 then j else k
def IsWay (w : List Int) : Prop := w = [0, 1, 2] ∨ w = [0, 2, 1] ∨ w = [1, 0, 2] ∨ w = [1, 2, 0] ∨ w = [2, 0, 1] ∨ w = [2, 1, 0]

theorem turn_ex {n : Nat} {t : List (List Int)} (h : IsTab n t) {w : List Int} (hw : IsWay w) :
    ∃ T, IsTab n T ∧ ∀ i j k, Gives n t i j k → Gives n T (tri i j k (at0 w 0)) (tri i j k (at0 w 1)) (tri i j k (at0 w 2)) := by
  have main : ∀ P : Int → Int → Int → Prop, (∀ a b c, P a b c → 0 ≤ a ∧ a < n ∧ 0 ≤ b ∧ b < n ∧ 0 ≤ c ∧ c < n) → (∀ a b : Int, 0 ≤ a → a < n → 0 ≤ b → b < n → ∃ c, P a b c) → (∀ a b c c', P a b c → P a b c' → c = c') → (∀ a b b' c, P a b c → P a b' c → b = b') → (∀ a a' b c, P a b c → P a' b c → a = a') →
      ∃ T, IsTab n T ∧ ∀ a b c, P a b c → Gives n T a b c := by
    intro P hin hex h1 h2 h3
    have hc : ∀ a b : Int, ∃ c : Int, (0 ≤ a ∧ a < n ∧ 0 ≤ b ∧ b < n) → P a b c := fun a b => by
      by_cases q : 0 ≤ a ∧ a < n ∧ 0 ≤ b ∧ b < n
      · obtain ⟨c, z⟩ := hex a b q.1 q.2.1 q.2.2.1 q.2.2.2
        exact ⟨c, fun _ => z⟩
      · exact ⟨0, fun z => absurd z q⟩
    let f : Int → Int → Int := fun a b => (hc a b).choose
    have hf : ∀ a b : Int, 0 ≤ a → a < n → 0 ≤ b → b < n → P a b (f a b) := fun a b a0 a1 b0 b1 => (hc a b).choose_spec ⟨a0, a1, b0, b1⟩
    obtain ⟨q1, q2⟩ := mk_tab (n := n) (f := f) (fun a b a0 a1 b0 b1 => (hin _ _ _ (hf a b a0 a1 b0 b1)).2.2.2.2) (fun a b b' a0 a1 b0 b1 c0 c1 e => h2 a b b' (f a b) (hf a b a0 a1 b0 b1) (by rw [e]; exact hf a b' a0 a1 c0 c1))
      (fun a a' b a0 a1 c0 c1 b0 b1 e => h3 a a' b (f a b) (hf a b a0 a1 b0 b1) (by rw [e]; exact hf a' b c0 c1 b0 b1))
    refine ⟨_, q1, fun a b c p => ?_⟩
    obtain ⟨a0, a1, b0, b1, _, _⟩ := hin a b c p
    exact ⟨a0, a1, b0, b1, (q2 a b a0 a1 b0 b1).trans (h1 a b _ c (hf a b a0 a1 b0 b1) p)⟩
  have kin : ∀ {i j k}, Gives n t i j k → 0 ≤ i ∧ i < n ∧ 0 ≤ j ∧ j < n ∧ 0 ≤ k ∧ k < n := fun g => ⟨g.1, g.2.1, g.2.2.1, g.2.2.2.1, (g.k_in h).1, (g.k_in h).2⟩
  have out : ∀ {i j k k'}, Gives n t i j k → Gives n t i j k' → k = k' := fun g g' => g.2.2.2.2.symm.trans g'.2.2.2.2
  have ex_k : ∀ {i j : Int}, 0 ≤ i → i < n → 0 ≤ j → j < n → ∃ k, Gives n t i j k := fun a b c d => ⟨_, a, b, c, d, rfl⟩
  rcases hw with rfl | rfl | rfl | rfl | rfl | rfl
  · exact main (fun a b c => Gives n t a b c) (fun _ _ _ g => kin g) (fun _ _ a b c d => ex_k a b c d) (fun _ _ _ _ g g' => out g g') (fun _ _ _ _ g g' => g.one h g') (fun _ _ _ _ g g' => g.two h g')
  · obtain ⟨T, q1, q2⟩ := main (fun a b c => Gives n t a c b) (fun _ _ _ g => by have := kin g; omega) (fun _ _ a b c d => Gives.ex_j h a b c d) (fun _ _ _ _ g g' => g.one h g') (fun _ _ _ _ g g' => out g g') (fun _ _ _ _ g g' => g.two h g')
    exact ⟨T, q1, fun i j k g => q2 _ _ _ g⟩
  · obtain ⟨T, q1, q2⟩ := main (fun a b c => Gives n t b a c) (fun _ _ _ g => by have := kin g; omega) (fun _ _ a b c d => ex_k c d a b) (fun _ _ _ _ g g' => out g g') (fun _ _ _ _ g g' => g.two h g') (fun _ _ _ _ g g' => g.one h g')
    exact ⟨T, q1, fun i j k g => q2 _ _ _ g⟩
  · obtain ⟨T, q1, q2⟩ := main (fun a b c => Gives n t c a b) (fun _ _ _ g => by have := kin g; omega) (fun _ _ a b c d => Gives.ex_i h a b c d) (fun _ _ _ _ g g' => g.two h g') (fun _ _ _ _ g g' => out g g') (fun _ _ _ _ g g' => g.one h g')
    exact ⟨T, q1, fun i j k g => q2 _ _ _ g⟩
  · obtain ⟨T, q1, q2⟩ := main (fun a b c => Gives n t b c a) (fun _ _ _ g => by have := kin g; omega) (fun _ _ a b c d => Gives.ex_j h c d a b) (fun _ _ _ _ g g' => g.one h g') (fun _ _ _ _ g g' => g.two h g') (fun _ _ _ _ g g' => out g g')
    exact ⟨T, q1, fun i j k g => q2 _ _ _ g⟩
  · obtain ⟨T, q1, q2⟩ := main (fun a b c => Gives n t c b a) (fun _ _ _ g => by have := kin g; omega) (fun _ _ a b c d => Gives.ex_i h c d a b) (fun _ _ _ _ g g' => g.two h g') (fun _ _ _ _ g g' => g.one h g') (fun _ _ _ _ g g' => out g g')
    exact ⟨T, q1, fun i j k g => q2 _ _ _ g⟩

theorem turn_onto {n : Nat} {t : List (List Int)} (h : IsTab n t) {w : List Int} (hw : IsWay w) {a b : Int} (a0 : 0 ≤ a) (a1 : a < n) (b0 : 0 ≤ b) (b1 : b < n) :
    ∃ i j k, Gives n t i j k ∧ tri i j k (at0 w 0) = a ∧ tri i j k (at0 w 1) = b := by
  have ex_k : ∀ {i j : Int}, 0 ≤ i → i < n → 0 ≤ j → j < n → ∃ k, Gives n t i j k := fun a b c d => ⟨_, a, b, c, d, rfl⟩
  rcases hw with rfl | rfl | rfl | rfl | rfl | rfl
  · obtain ⟨k, g⟩ := ex_k a0 a1 b0 b1; exact ⟨_, _, _, g, rfl, rfl⟩
  · obtain ⟨k, g⟩ := Gives.ex_j h a0 a1 b0 b1; exact ⟨_, _, _, g, rfl, rfl⟩
  · obtain ⟨k, g⟩ := ex_k b0 b1 a0 a1; exact ⟨_, _, _, g, rfl, rfl⟩
  · obtain ⟨k, g⟩ := Gives.ex_i h a0 a1 b0 b1; exact ⟨_, _, _, g, rfl, rfl⟩
  · obtain ⟨k, g⟩ := Gives.ex_j h b0 b1 a0 a1; exact ⟨_, _, _, g, rfl, rfl⟩
  · obtain ⟨k, g⟩ := Gives.ex_i h b0 b1 a0 a1; exact ⟨_, _, _, g, rfl, rfl⟩
theorem IsTab.ext {n : Nat} {T T' : List (List Int)} (h : IsTab n T) (h' : IsTab n T') (e : ∀ a b : Int, 0 ≤ a → a < n → 0 ≤ b → b < n → ent T a b = ent T' a b) : T = T' := by
  apply List.ext_getElem?
  intro i
  by_cases hi : i < n
  · have r := h.rowm (i := (i : Int)) (by omega) (by omega)
    have r' := h'.rowm (i := (i : Int)) (by omega) (by omega)
    have e1 : T[i]? = some (rowT T i) := r.2
    have e2 : T'[i]? = some (rowT T' i) := r'.2
    rw [e1, e2]
    congr 1
    apply List.ext_getElem?
    intro j
    have l1 := h.rlen r.1
    have l2 := h'.rlen r'.1
    by_cases hj : j < n
    · have z1 : (rowT T i)[j]? = some (ent T i j) := at0_of (l := rowT T i) (i := (j : Int)) (by omega) (by omega)
      have z2 : (rowT T' i)[j]? = some (ent T' i j) := at0_of (l := rowT T' i) (i := (j : Int)) (by omega) (by omega)
      rw [z1, z2, e i j (by omega) (by omega) (by omega) (by omega)]
    · rw [List.getElem?_eq_none (by omega), List.getElem?_eq_none (by omega)]
  · rw [List.getElem?_eq_none (by rw [h.len]; omega), List.getElem?_eq_none (by rw [h'.len]; omega)]
/-- only one table turns t by w -/
theorem turn_one {n : Nat} {t T T' : List (List Int)} (h : IsTab n t) {w : List Int} (hw : IsWay w) (h1 : IsTab n T) (h2 : IsTab n T') (g1 : ∀ i j k, Gives n t i j k → Gives n T (tri i j k (at0 w 0)) (tri i j k (at0 w 1)) (tri i j k (at0 w 2)))
    (g2 : ∀ i j k, Gives n t i j k → Gives n T' (tri i j k (at0 w 0)) (tri i j k (at0 w 1)) (tri i j k (at0 w 2))) : T = T' := by
  refine h1.ext h2 fun a b a0 a1 b0 b1 => ?_
  obtain ⟨i, j, k, g, rfl, rfl⟩ := turn_onto h hw a0 a1 b0 b1
  exact (g1 i j k g).2.2.2.2.trans (g2 i j k g).2.2.2.2.symm
end DL

/-! A list of rows of anything. -/
namespace DL
open PySem L2
structure GridD (M0 M : Mp) (rs : List Addr) (t : List (List D)) : Prop where
  len : rs.length = t.length
  nd : rs.Nodup
  new : ∀ a ∈ rs, M0 a = none
  at_ : ∀ (i : Nat) (a : Addr) (r : List D), rs[i]? = some a → t[i]? = some r → M a = some (.lst r)
theorem GridD.nil {M0 M : Mp} : GridD M0 M [] [] := ⟨rfl, List.nodup_nil, fun _ h => (by cases h), fun _ _ _ h _ => (by simp at h)⟩
theorem GridD.get {M0 M : Mp} {rs : List Addr} {t : List (List D)} (g : GridD M0 M rs t) {i : Nat} (h : i < t.length) : ∃ a r, rs[i]? = some a ∧ t[i]? = some r ∧ M a = some (.lst r) := by
  have h' : i < rs.length := by rw [g.len]; exact h
  exact ⟨rs[i], t[i], List.getElem?_eq_getElem h', List.getElem?_eq_getElem h, g.at_ i _ _ (List.getElem?_eq_getElem h') (List.getElem?_eq_getElem h)⟩
theorem GridD.has {M0 M : Mp} {rs : List Addr} {t : List (List D)} (g : GridD M0 M rs t) {a : Addr} (h : a ∈ rs) : ∃ r, M a = some (.lst r) := by
  obtain ⟨i, hi⟩ := List.mem_iff_getElem?.mp h
  have hl := (List.getElem?_eq_some_iff.mp hi).1
  obtain ⟨a', r, h1, h2, h3⟩ := g.get (i := i) (by rw [← g.len]; exact hl)
  rw [hi] at h1; cases h1
  exact ⟨_, h3⟩
theorem GridD.up {M0 M M' : Mp} {rs : List Addr} {t : List (List D)} (g : GridD M0 M rs t) (h : ∀ a ∈ rs, ∀ o, M a = some o → M' a = some o) : GridD M0 M' rs t :=
  ⟨g.len, g.nd, g.new, fun i a r h1 h2 => h a (List.mem_of_getElem? h1) _ (g.at_ i a r h1 h2)⟩
theorem GridD.ext {M0 M M' : Mp} {l : Addr} {rs : List Addr} {t : List (List D)} (g : GridD M0 M rs t) (h : Ext l M M') (hl : M0 l ≠ none) : GridD M0 M' rs t :=
  g.up fun a ha o e => h a o (fun z => hl (z ▸ g.new a ha)) e
theorem GridD.add {M0 M : Mp} {rs : List Addr} {t : List (List D)} {p : Addr} {o : MO} (g : GridD M0 M rs t) (h : M p = none) : GridD M0 (updM M p o) rs t :=
  g.up fun a ha o' e => by rw [updM_ne (ne_none e h)]; exact e
theorem GridD.snoc {M0 M : Mp} {rs : List Addr} {t : List (List D)} {p : Addr} {r : List D} (g : GridD M0 M rs t) (h : M p = none) (h0 : M0 p = none) : GridD M0 (updM M p (.lst r)) (rs ++ [p]) (t ++ [r]) := by
  have hn : p ∉ rs := fun hm => by
    obtain ⟨_, e⟩ := g.has hm
    rw [h] at e; cases e
  refine ⟨by simp [g.len], ?_, fun a ha => ?_, fun i a r' h1 h2 => ?_⟩
  · rw [List.nodup_append]
    exact ⟨g.nd, by simp, fun a ha b hb => by
      obtain rfl : b = p := by simpa using hb
      exact fun e => hn (e ▸ ha)⟩
  · rcases List.mem_append.mp ha with ha | ha
    · exact g.new a ha
    · obtain rfl : a = p := by simpa using ha
      exact h0
  · by_cases hi : i < rs.length
    · rw [List.getElem?_append_left hi] at h1
      rw [List.getElem?_append_left (by rw [← g.len]; exact hi)] at h2
      have := g.at_ i a r' h1 h2
      rw [updM_ne (ne_none this h)]
      exact this
    · rw [List.getElem?_append_right (by omega)] at h1
      rw [List.getElem?_append_right (by rw [← g.len]; omega)] at h2
      rw [← g.len] at h2
      have hz : i - rs.length = 0 := by
        have := (List.getElem?_eq_some_iff.mp h1).1
        simp at this
        omega
      rw [hz] at h1 h2
      obtain rfl : p = a := by simpa using h1
      obtain rfl : r = r' := by simpa using h2
      exact updM_same
theorem GridD.set {M0 M : Mp} {rs : List Addr} {t : List (List D)} {i : Nat} {a : Addr} {r : List D} (g : GridD M0 M rs t) (hi : rs[i]? = some a) : GridD M0 (updM M a (.lst r)) rs (t.set i r) := by
  refine ⟨by simp [g.len], g.nd, g.new, fun j b r' h1 h2 => ?_⟩
  by_cases hj : i = j
  · subst hj
    rw [hi] at h1; cases h1
    rw [List.getElem?_set_self (by rw [← g.len]; exact (List.getElem?_eq_some_iff.mp hi).1)] at h2
    cases h2
    exact updM_same
  · rw [List.getElem?_set_ne hj] at h2
    have hb : b ≠ a := fun e => by
      subst e
      obtain ⟨l1, e1⟩ := List.getElem?_eq_some_iff.mp hi
      obtain ⟨l2, e2⟩ := List.getElem?_eq_some_iff.mp h1
      have hp := List.pairwise_iff_getElem.mp g.nd
      rcases Nat.lt_or_gt_of_ne hj with q | q
      · exact hp i j l1 l2 q (by rw [e1, e2])
      · exact hp j i l2 l1 q (by rw [e1, e2])
    rw [updM_ne hb]
    exact g.at_ j b r' h1 h2
theorem GridD.ne {M0 M : Mp} {rs : List Addr} {t : List (List D)} {l : Addr} (g : GridD M0 M rs t) (hl : M0 l ≠ none) {a : Addr} (h : a ∈ rs) : l ≠ a := fun e => hl (e ▸ g.new a h)


/-! ### cells -/
def cellD (G : List (List D)) (a b : Int) : Option D := G[a.toNat]?.bind fun r => r[b.toNat]?
structure Sq (n : Nat) (G : List (List D)) : Prop where
  len : G.length = n
  row : ∀ r ∈ G, r.length = n
theorem Sq.set {n : Nat} {G : List (List D)} (h : Sq n G) {i : Nat} {r : List D} (hr : r.length = n) : Sq n (G.set i r) := by
  refine ⟨by rw [List.length_set, h.len], fun q hq => ?_⟩
  rcases List.mem_or_eq_of_mem_set hq with hq | rfl
  · exact h.row q hq
  · exact hr
theorem cell_set {n : Nat} {G : List (List D)} (h : Sq n G) {a b a' b' : Int} {r : List D} {v : D} (e : G[a.toNat]? = some r) (a0 : 0 ≤ a) (b0 : 0 ≤ b) (b1 : b < n) (a0' : 0 ≤ a') (b0' : 0 ≤ b') :
    cellD (G.set a.toNat (r.set b.toNat v)) a' b' = if a' = a ∧ b' = b then some v else cellD G a' b' := by
  have hl := (List.getElem?_eq_some_iff.mp e).1
  have hr := h.row r (List.mem_of_getElem? e)
  unfold cellD
  by_cases ha : a' = a
  · subst ha
    rw [List.getElem?_set_self hl, e]
    by_cases hb : b' = b
    · subst hb
      rw [if_pos ⟨rfl, rfl⟩]
      exact List.getElem?_set_self (by omega)
    · rw [if_neg fun z => hb z.2]
      exact List.getElem?_set_ne (by omega)
  · rw [if_neg fun z => ha z.1, List.getElem?_set_ne (by omega)]
/-- all cells known: the rows of T -/
theorem sq_eq {n : Nat} {G : List (List D)} {T : List (List Int)} (h : Sq n G) (hT : IsTab n T) (e : ∀ a b : Int, 0 ≤ a → a < n → 0 ≤ b → b < n → cellD G a b = some (.int (ent T a b))) : G = T.map fun r => r.map D.int := by
  apply List.ext_getElem?
  intro i
  by_cases hi : i < n
  · have r' := hT.rowm (i := (i : Int)) (by omega) (by omega)
    have e2 : T[i]? = some (rowT T i) := r'.2
    have hg : i < G.length := by rw [h.len]; exact hi
    rw [List.getElem?_map, e2, List.getElem?_eq_getElem hg]
    show some G[i] = some ((rowT T i).map D.int)
    congr 1
    apply List.ext_getElem?
    intro j
    have l1 := h.row _ (List.getElem_mem hg)
    have l2 := hT.rlen r'.1
    by_cases hj : j < n
    · have z := e i j (by omega) (by omega) (by omega) (by omega)
      unfold cellD at z
      simp only [Int.toNat_natCast] at z
      rw [List.getElem?_eq_getElem hg] at z
      have z2 : (rowT T i)[j]? = some (ent T i j) := at0_of (l := rowT T i) (i := (j : Int)) (by omega) (by omega)
      rw [List.getElem?_map, z2]
      exact z
    · rw [List.getElem?_eq_none (by omega), List.getElem?_eq_none (by rw [List.length_map]; omega)]
  · rw [List.getElem?_eq_none (by rw [h.len]; omega), List.getElem?_eq_none (by rw [List.length_map, hT.len]; omega)]
end DL

/-! Short ways: comprehensions and loops over lists, ranges; frames. -/
namespace DL
open PySem L2
theorem getD_map {α : Type} {F : α → D} {xs : List α} {k : Nat} {x : D} (h : yL (xs.map F) k x) : ∃ hk : k < xs.length, x = F xs[k] := by
  unfold yL at h
  rw [List.getElem?_map] at h
  by_cases hk : k < xs.length
  · rw [List.getElem?_eq_getElem hk] at h
    exact ⟨hk, (Option.some.inj h).symm⟩
  · rw [List.getElem?_eq_none (by omega)] at h
    cases h
section
variable {n : Nat} {Y : Nat → D → Prop} {G : Mp → Prop} {g : D → DSt → Option DSt} {tt : TTD} {te : TED} {ρ : DSt} {M1 : Mp} {Q : KD}
/-- a comprehension without a test: P of each item, R of the memory -/
theorem LcG.gen (P : Nat → D → Prop) (R : Mp → Prop) (hn : n ≤ sizeLine) (h0 : R M1) (hG : ∀ M', R M' → G M')
    (hs : ∀ k x M', k < n → Y k x → R M' → ∀ Q' : KD, (∀ y M'', P k y → R M'' → Q' y M'') → match g x ρ with | some ρ2 => te ρ2 M' Q' | none => False)
    (hq : ∀ acc M' p, acc.length = n → (∀ k y, acc[k]? = some y → P k y) → R M' → M' p = none → Q (.ref p) (updM M' p (.lst acc))) : LcG n Y G g tYesD te ρ M1 Q := by
  refine ⟨fun k acc M' => acc.length = k ∧ (∀ i y, acc[i]? = some y → P i y) ∧ R M', ⟨rfl, fun i y e => by simp at e, h0⟩, fun k acc M' _ z => hG M' z.2.2, ?_, fun acc M' z p hp => hq acc M' p z.1 z.2.1 z.2.2 hp⟩
  rintro k acc x M' hk hy ⟨rfl, hP, hR⟩
  have z := hs acc.length x M' hk hy hR (fun y M3 => acc.length < sizeLine ∧ (acc ++ [y]).length = acc.length + 1 ∧ (∀ i z, (acc ++ [y])[i]? = some z → P i z) ∧ R M3) fun y M3 h1 h2 => ⟨by omega, by simp, fun i z e => ?_, h2⟩
  · cases eg : g x ρ with
    | none => rw [eg] at z; exact z.elim
    | some ρ2 => rw [eg] at z; exact z
  · by_cases hi : i < acc.length
    · rw [List.getElem?_append_left hi] at e
      exact hP i z e
    · rw [List.getElem?_append_right (by omega)] at e
      by_cases h0 : i - acc.length = 0
      · rw [h0] at e
        obtain rfl : y = z := by simpa using e
        have : i = acc.length := by omega
        subst this
        exact h1
      · rw [List.getElem?_eq_none (by simp; omega)] at e
        cases e
/-- with a test -/
theorem LcG.genIf (P : Nat → List D → Prop) (R : Mp → Prop) (hn : n ≤ sizeLine) (h0 : R M1) (hP0 : P 0 []) (hG : ∀ M', R M' → G M') (hlen : ∀ k acc, P k acc → acc.length ≤ k)
    (hs : ∀ k acc x M', k < n → Y k x → P k acc → R M' → ∀ (Q' : KD) (Q'' : Mp → Prop), (∀ y M'', P (k + 1) (acc ++ [y]) → R M'' → Q' y M'') → (∀ M'', P (k + 1) acc → R M'' → Q'' M'') →
      match g x ρ with | some ρ2 => tt ρ2 M' fun b M2 => br b (te ρ2 M2 Q') (Q'' M2) | none => False)
    (hq : ∀ acc M' p, P n acc → R M' → M' p = none → Q (.ref p) (updM M' p (.lst acc))) : LcG n Y G g tt te ρ M1 Q := by
  refine ⟨fun k acc M' => P k acc ∧ R M', ⟨hP0, h0⟩, fun k acc M' _ z => hG M' z.2, ?_, fun acc M' z p hp => hq acc M' p z.1 z.2 hp⟩
  rintro k acc x M' hk hy ⟨hP, hR⟩
  have hl := hlen k acc hP
  have z := hs k acc x M' hk hy hP hR (fun y M3 => acc.length < sizeLine ∧ P (k + 1) (acc ++ [y]) ∧ R M3) (fun M3 => P (k + 1) acc ∧ R M3) (fun y M3 h1 h2 => ⟨by omega, h1, h2⟩) fun M3 h1 h2 => ⟨h1, h2⟩
  cases eg : g x ρ with
  | none => rw [eg] at z; exact z.elim
  | some ρ2 => rw [eg] at z; exact z
/-- [f(a) for a in xs] -/
theorem LcG.mapL {α : Type} {xs : List α} {F : α → D} (f : α → D) (R : Mp → Prop) (hn : xs.length ≤ sizeLine) (h0 : R M1) (hG : ∀ M', R M' → G M')
    (hs : ∀ a M', a ∈ xs → R M' → ∀ Q' : KD, (∀ M'', R M'' → Q' (f a) M'') → match g (F a) ρ with | some ρ2 => te ρ2 M' Q' | none => False)
    (hq : ∀ M' p, R M' → M' p = none → Q (.ref p) (updM M' p (.lst (xs.map f)))) : LcG (xs.map F).length (yL (xs.map F)) G g tYesD te ρ M1 Q := by
  refine .gen (fun k y => ∃ a, xs[k]? = some a ∧ y = f a) R (by rw [List.length_map]; exact hn) h0 hG (fun k x M' hk hy hR Q' hQ => ?_) fun acc M' p hl hP hR hp => ?_
  · obtain ⟨hk', rfl⟩ := getD_map hy
    exact hs _ M' (List.getElem_mem hk') hR Q' fun M'' hR' => hQ _ _ ⟨_, List.getElem?_eq_getElem hk', rfl⟩ hR'
  · have : acc = xs.map f := by
      apply List.ext_getElem?
      intro i
      rw [List.length_map] at hl
      by_cases hi : i < xs.length
      · have e : acc[i]? = some (acc[i]'(by omega)) := List.getElem?_eq_getElem (by omega)
        obtain ⟨a, h1, h2⟩ := hP i _ e
        rw [e, List.getElem?_map, h1, h2]
        rfl
      · rw [List.getElem?_eq_none (by omega), List.getElem?_eq_none (by rw [List.length_map]; omega)]
    rw [this]
    exact hq M' p hR hp
/-- [f(a) for a in xs if c(a)] -/
theorem LcG.filtL {α : Type} {xs : List α} {F : α → D} (c : α → Bool) (f : α → D) (R : Mp → Prop) (hn : xs.length ≤ sizeLine) (h0 : R M1) (hG : ∀ M', R M' → G M')
    (hs : ∀ a M', a ∈ xs → R M' → ∀ (Q' : KD) (Q'' : Mp → Prop), (c a = true → ∀ M'', R M'' → Q' (f a) M'') → (c a = false → ∀ M'', R M'' → Q'' M'') → match g (F a) ρ with | some ρ2 => tt ρ2 M' fun b M2 => br b (te ρ2 M2 Q') (Q'' M2) | none => False)
    (hq : ∀ M' p, R M' → M' p = none → Q (.ref p) (updM M' p (.lst ((xs.filter c).map f)))) : LcG (xs.map F).length (yL (xs.map F)) G g tt te ρ M1 Q := by
  refine .genIf (fun k acc => acc = ((xs.take k).filter c).map f) R (by rw [List.length_map]; exact hn) h0 rfl hG (fun k acc e => ?_) (fun k acc x M' hk hy hP hR Q' Q'' hQ' hQ'' => ?_) fun acc M' p hP hR hp => ?_
  · rw [e, List.length_map]
    exact Nat.le_trans (List.length_filter_le ..) (by rw [List.length_take]; omega)
  · obtain ⟨hk', rfl⟩ := getD_map hy
    refine hs _ M' (List.getElem_mem hk') hR Q' Q'' (fun e M'' hR' => hQ' _ _ ?_ hR') fun e M'' hR' => hQ'' _ ?_ hR'
    · rw [hP, List.take_succ_eq_append_getElem hk', List.filter_append, List.map_append, List.filter_cons, if_pos e]
      rfl
    · rw [hP, List.take_succ_eq_append_getElem hk', List.filter_append, List.filter_cons, if_neg (by rw [e]; decide)]
      simp
  · rw [List.length_map, List.take_length] at hP
    rw [hP]
    exact hq M' p hR hp
theorem rg_getE {n k : Nat} (h : k < (rg n).length) : (rg n)[k] = (k : Int) := by
  have := rg_get (s := n) (k := k) (by rw [rg_length] at h; exact h)
  rw [List.getElem?_eq_getElem h] at this
  exact Option.some.inj this
theorem yR_rg {n k : Nat} {x : D} (hk : k < n) (h : yR 0 k x) : yL ((rg n).map D.int) k x := by
  unfold yL
  rw [List.getElem?_map, rg_get hk]
  unfold yR at h
  rw [h, Int.zero_add]
  rfl
/-- [f(i) for i in range(n)] -/
theorem LcG.mapR (f : Int → D) (R : Mp → Prop) (hn : n ≤ sizeLine) (h0 : R M1) (hG : ∀ M', R M' → G M')
    (hs : ∀ i M', 0 ≤ i → i < (n : Int) → R M' → ∀ Q' : KD, (∀ M'', R M'' → Q' (f i) M'') → match g (.int i) ρ with | some ρ2 => te ρ2 M' Q' | none => False)
    (hq : ∀ M' p, R M' → M' p = none → Q (.ref p) (updM M' p (.lst ((rg n).map f)))) : LcG n (yR 0) G g tYesD te ρ M1 Q := by
  have z := LcG.mapL (G := G) (g := g) (te := te) (ρ := ρ) (M1 := M1) (Q := Q) (xs := rg n) (F := D.int) f R (by rw [rg_length]; exact hn) h0 hG (fun a M' ha hR Q' hQ => hs a M' (rg_mem.mp ha).1 (rg_mem.mp ha).2 hR Q' hQ) hq
  obtain ⟨Pv, a, b, c, d⟩ := z
  rw [List.length_map, rg_length] at b c d
  exact ⟨Pv, a, b, fun k acc x M hk hy => c k acc x M hk (yR_rg hk hy), d⟩
theorem LcG.filtR (c : Int → Bool) (f : Int → D) (R : Mp → Prop) (hn : n ≤ sizeLine) (h0 : R M1) (hG : ∀ M', R M' → G M')
    (hs : ∀ i M', 0 ≤ i → i < (n : Int) → R M' → ∀ (Q' : KD) (Q'' : Mp → Prop), (c i = true → ∀ M'', R M'' → Q' (f i) M'') → (c i = false → ∀ M'', R M'' → Q'' M'') → match g (.int i) ρ with | some ρ2 => tt ρ2 M' fun b M2 => br b (te ρ2 M2 Q') (Q'' M2) | none => False)
    (hq : ∀ M' p, R M' → M' p = none → Q (.ref p) (updM M' p (.lst (((rg n).filter c).map f)))) : LcG n (yR 0) G g tt te ρ M1 Q := by
  have z := LcG.filtL (G := G) (g := g) (tt := tt) (te := te) (ρ := ρ) (M1 := M1) (Q := Q) (xs := rg n) (F := D.int) c f R (by rw [rg_length]; exact hn) h0 hG (fun a M' ha hR Q' Q'' hQ hQ' => hs a M' (rg_mem.mp ha).1 (rg_mem.mp ha).2 hR Q' Q'' hQ hQ') hq
  obtain ⟨Pv, a, b, c, d⟩ := z
  rw [List.length_map, rg_length] at b c d
  exact ⟨Pv, a, b, fun k acc x M hk hy => c k acc x M hk (yR_rg hk hy), d⟩
end
section
variable {n : Nat} {Y : Nat → D → Prop} {G : Mp → Prop} {g : TGD} {tb : TSD} {E : EndD} {ρ : DSt} {M1 : Mp}
/-- for a in xs -/
theorem ForG.seqL {α : Type} {xs : List α} {F : α → D} (Pv : Nat → DSt → Mp → Prop) (h0 : Pv 0 ρ M1) (hG : ∀ i ρ M, i ≤ xs.length → Pv i ρ M → G M)
    (hs : ∀ k ρ M (hk : k < xs.length), Pv k ρ M → g (F xs[k]) ρ M fun ρ2 M2 => tb { E with nx := Pv (k + 1), ct := Pv (k + 1), bk := E.nx } ρ2 M2) (hq : ∀ ρ M, Pv xs.length ρ M → E.nx ρ M) : ForG (xs.map F).length (yL (xs.map F)) G g tb E ρ M1 := by
  refine ⟨Pv, h0, fun i ρ M hi z => hG i ρ M (by rw [List.length_map] at hi; exact hi) z, fun k x ρ M hk hy z => ?_, fun ρ M z => hq ρ M (by rw [List.length_map] at z; exact z)⟩
  obtain ⟨hk', rfl⟩ := getD_map hy
  exact hs k ρ M hk' z
/-- for i in range(n) -/
theorem ForG.rngL (Pv : Nat → DSt → Mp → Prop) (h0 : Pv 0 ρ M1) (hG : ∀ i ρ M, i ≤ n → Pv i ρ M → G M)
    (hs : ∀ (k : Nat) ρ M, k < n → Pv k ρ M → g (.int (k : Int)) ρ M fun ρ2 M2 => tb { E with nx := Pv (k + 1), ct := Pv (k + 1), bk := E.nx } ρ2 M2) (hq : ∀ ρ M, Pv n ρ M → E.nx ρ M) : ForG n (yR 0) G g tb E ρ M1 := by
  refine ⟨Pv, h0, hG, fun k x ρ M hk hy z => ?_, hq⟩
  unfold yR at hy
  rw [Int.zero_add] at hy
  subst hy
  exact hs k ρ M hk z
/-- the same holds all along -/
theorem ForG.all (Pv : DSt → Mp → Prop) (h0 : Pv ρ M1) (hG : ∀ ρ M, Pv ρ M → G M) (hs : ∀ k x ρ M, k < n → Y k x → Pv ρ M → g x ρ M fun ρ2 M2 => tb { E with nx := Pv, ct := Pv, bk := E.nx } ρ2 M2) (hq : ∀ ρ M, Pv ρ M → E.nx ρ M) : ForG n Y G g tb E ρ M1 :=
  ⟨fun _ => Pv, h0, fun _ ρ M _ z => hG ρ M z, fun k x ρ M hk hy z => hs k x ρ M hk hy z, hq⟩
end
/-- draws: the bag stays a bag, all else stays -/
structure Bg (l : Addr) (M M' : Mp) : Prop where
  bag : Bag M' l
  ext : Ext l M M'
theorem Bg.refl {l : Addr} {M : Mp} (h : Bag M l) : Bg l M M := ⟨h, .refl⟩
theorem Bg.trans {l : Addr} {M M1 M2 : Mp} (a : Bg l M M1) (b : Bg l M1 M2) : Bg l M M2 := ⟨b.bag, a.ext.trans b.ext⟩
theorem Bg.new {l p : Addr} {M M1 : Mp} {o : MO} (a : Bg l M M1) (h : M1 p = none) : Bg l M (updM M1 p o) := ⟨a.bag.new h, a.ext.trans (.new h)⟩
theorem Bg.keep {l : Addr} {M M1 M2 : Mp} (a : Bg l M M1) (k : Keep M1 M2) : Bg l M M2 := ⟨a.bag.keep k, a.ext.trans k.ext⟩
theorem Bg.updN {l p : Addr} {M M1 : Mp} {o : MO} (a : Bg l M M1) (hp : M p = none) (hl : l ≠ p) : Bg l M (updM M1 p o) := ⟨a.bag.upd hl, a.ext.updN hp⟩
theorem Ext.at_ {l p : Addr} {M M' : Mp} {o : MO} (h : Ext l M M') (hp : p ≠ l) (e : M p = some o) : M' p = some o := h p o hp e
theorem Bg.none {l p : Addr} {M M' : Mp} (h : Bg l M M') (hl : p ≠ l) (e : M' p = none) : M p = none := by
  cases hM : M p with
  | none => rfl
  | some o => rw [h.ext p o hl hM] at e; cases e
theorem Keep.none {p : Addr} {M M' : Mp} (h : Keep M M') (e : M' p = Option.none) : M p = Option.none := by
  cases hM : M p with
  | none => rfl
  | some o => rw [h p o hM] at e; cases e
end DL
namespace DL
open PySem L2
/-! ### == of whole numbers in rows -/
theorem depth_ints : ∀ xs : List Int, PyData.depthAll (xs.map .int) = 0
  | [] => by simp [PyData.depthAll]
  | x :: xs => by simp [PyData.depthAll, PyData.depth, depth_ints xs]
theorem lay_ints : ∀ xs : List Int, PyData.canLayAll0 (xs.map .int) = true
  | [] => by simp [PyData.canLayAll0]
  | x :: xs => by simp [PyData.canLayAll0, PyData.canLay0, lay_ints xs]
theorem shaped_LI (xs : List Int) : SeqAt.shaped (pLI xs) = true := by
  simp [SeqAt.shaped, PyData.canLay0, lay_ints, PyData.depth, depth_ints]
theorem shaped_I (xs : List Int) : SeqAt.shaped (pI xs) = true := by
  simp [SeqAt.shaped, PyData.canLay0, lay_ints, PyData.depth, depth_ints]
theorem lay_IIs : ∀ xs : List (List Int), PyData.canLayAll0 (xs.map pI) = true ∧ PyData.depthAll (xs.map pI) ≤ 1
  | [] => by simp [PyData.canLayAll0, PyData.depthAll]
  | x :: xs => by
    have := lay_IIs xs
    simp [PyData.canLayAll0, PyData.canLay0, lay_ints, PyData.depthAll, PyData.depth, depth_ints, this.1]
    omega
theorem shaped_II (xs : List (List Int)) : SeqAt.shaped (pII xs) = true := by
  have := lay_IIs xs
  simp [SeqAt.shaped, PyData.canLay0, PyData.depth, this.1]
  omega
theorem eqLI {M : Mp} {p q : Addr} {xs ys : List Int} {neg : Bool} {Q : KD} (h1 : M p = some (.lst (xs.map D.int))) (h2 : M q = some (.lst (ys.map D.int))) (h : Q (.bl (sg neg (decide (xs = ys)))) M) :
    ∃ a b, Rdm M (.ref p) a ∧ Rdm M (.ref q) b ∧ SeqAt.shaped a = true ∧ SeqAt.shaped b = true ∧ Q (.bl (sg neg (PyData.eqv a b))) M :=
  ⟨pLI xs, pLI ys, rdm_LI h1, rdm_LI h2, shaped_LI _, shaped_LI _, by rw [eqv_LI]; exact h⟩
theorem eqI {M : Mp} {xs ys : List Int} {neg : Bool} {Q : KD} (h : Q (.bl (sg neg (decide (xs = ys)))) M) :
    ∃ a b, Rdm M (dI xs) a ∧ Rdm M (dI ys) b ∧ SeqAt.shaped a = true ∧ SeqAt.shaped b = true ∧ Q (.bl (sg neg (PyData.eqv a b))) M :=
  ⟨pI xs, pI ys, rdm_I _, rdm_I _, shaped_I _, shaped_I _, by rw [eqv_I]; exact h⟩
theorem eqII {M : Mp} {xs ys : List (List Int)} {neg : Bool} {Q : KD} (h : Q (.bl (sg neg (decide (xs = ys)))) M) :
    ∃ a b, Rdm M (dII xs) a ∧ Rdm M (dII ys) b ∧ SeqAt.shaped a = true ∧ SeqAt.shaped b = true ∧ Q (.bl (sg neg (PyData.eqv a b))) M :=
  ⟨pII xs, pII ys, rdm_II _, rdm_II _, shaped_II _, shaped_II _, by rw [eqv_II]; exact h⟩
theorem sg_ne {α : Type} [DecidableEq α] (x : α) : sg true (decide (x = x)) = false := by simp [sg]
theorem sg_eq {α : Type} [DecidableEq α] (x : α) : sg false (decide (x = x)) = true := by simp [sg]
/-! ### ways -/
theorem IsWay.place {w : List Int} (h : IsWay w) : w.length = 3 ∧ (∀ p ∈ w, 0 ≤ p ∧ p < 3) ∧ ∀ i j k : Int, w.map (tri i j k) = [tri i j k (at0 w 0), tri i j k (at0 w 1), tri i j k (at0 w 2)] := by
  rcases h with rfl | rfl | rfl | rfl | rfl | rfl <;> exact ⟨rfl, by decide, fun _ _ _ => rfl⟩
theorem at_tri {i j k p : Int} (h0 : 0 ≤ p) (h1 : p < 3) : atI [D.int i, D.int j, D.int k] p = some (.int (tri i j k p)) := by
  have : p = 0 ∨ p = 1 ∨ p = 2 := by omega
  rcases this with rfl | rfl | rfl <;> rfl
theorem way_mem {w : List Int} (h : IsWay w) {p : Int} (h0 : 0 ≤ p) (h1 : p < 3) : p ∈ w := by
  have : p = 0 ∨ p = 1 ∨ p = 2 := by omega
  rcases h with rfl | rfl | rfl | rfl | rfl | rfl <;> rcases this with rfl | rfl | rfl <;> decide
theorem IsWay.in_ {w : List Int} (h : IsWay w) {p : Int} (h0 : 0 ≤ p) (h1 : p < 3) : 0 ≤ at0 w p ∧ at0 w p < 3 := by
  have : p = 0 ∨ p = 1 ∨ p = 2 := by omega
  rcases h with rfl | rfl | rfl | rfl | rfl | rfl <;> rcases this with rfl | rfl | rfl <;> decide
def ways : List (List Int) := [[0, 1, 2], [0, 2, 1], [1, 0, 2], [1, 2, 0], [2, 0, 1], [2, 1, 0]]
theorem ways_way {w : List Int} (h : w ∈ ways) : IsWay w := by
  simp only [ways, List.mem_cons, List.not_mem_nil, or_false] at h
  exact h
def backW (w : List Int) : List Int := (rg 3).map fun p => ((w.idxOf p : Nat) : Int)
def turnsTo (n : Nat) (t T : List (List Int)) (w : List Int) : Prop := ∀ i j k, Gives n t i j k → Gives n T (tri i j k (at0 w 0)) (tri i j k (at0 w 1)) (tri i j k (at0 w 2))
theorem backW_way {w : List Int} (h : IsWay w) : IsWay (backW w) := by
  rcases h with rfl | rfl | rfl | rfl | rfl | rfl <;> unfold IsWay <;> decide
theorem turn_back {n : Nat} {t T : List (List Int)} {w : List Int} (h : IsTab n t) (hT : IsTab n T) (hw : IsWay w) (g : turnsTo n t T w) : turnsTo n T t (backW w) := by
  intro a b c gT
  obtain ⟨i, j, k, gt, e1, e2⟩ := turn_onto h hw gT.1 gT.2.1 gT.2.2.1 gT.2.2.2.1
  have g2 := g i j k gt
  have e3 : tri i j k (at0 w 2) = c := by
    rw [e1, e2] at g2
    exact g2.2.2.2.2.symm.trans gT.2.2.2.2
  subst e1 e2 e3
  have e : ∀ p : Int, p = 0 ∨ p = 1 ∨ p = 2 → tri (tri i j k (at0 w 0)) (tri i j k (at0 w 1)) (tri i j k (at0 w 2)) (at0 (backW w) p) = tri i j k p := by
    intro p hp
    rcases hw with rfl | rfl | rfl | rfl | rfl | rfl <;> rcases hp with rfl | rfl | rfl <;> rfl
  rw [e 0 (by decide), e 1 (by decide), e 2 (by decide)]
  exact gt
def compW (w v : List Int) : List Int := [at0 w (at0 v 0), at0 w (at0 v 1), at0 w (at0 v 2)]
theorem compW_way {w v : List Int} (h : IsWay w) (h' : IsWay v) : IsWay (compW w v) := by
  rcases h with rfl | rfl | rfl | rfl | rfl | rfl <;> rcases h' with rfl | rfl | rfl | rfl | rfl | rfl <;> unfold IsWay <;> decide
theorem turn_comp {n : Nat} {t T T' : List (List Int)} {w v : List Int} (hw : IsWay w) (hv : IsWay v) (g : turnsTo n t T w) (g' : turnsTo n T T' v) : turnsTo n t T' (compW w v) := by
  intro i j k gt
  have g2 := g' _ _ _ (g i j k gt)
  have e : ∀ p : Int, p = 0 ∨ p = 1 ∨ p = 2 → tri (tri i j k (at0 w 0)) (tri i j k (at0 w 1)) (tri i j k (at0 w 2)) p = tri i j k (at0 w p) := by
    intro p hp
    rcases hp with rfl | rfl | rfl <;> rfl
  have hv' : ∀ p : Int, p = 0 ∨ p = 1 ∨ p = 2 → at0 v p = 0 ∨ at0 v p = 1 ∨ at0 v p = 2 := fun p hp => by
    have := hv.in_ (p := p) (by omega) (by omega)
    omega
  rw [e _ (hv' 0 (by decide)), e _ (hv' 1 (by decide)), e _ (hv' 2 (by decide))] at g2
  exact g2
end DL

namespace LK
open PySem L2 DL

local macro_rules | `(tactic| walk_at "go") => `(tactic| (conv => whnf))
local macro_rules | `(tactic| walk_at "br") => `(tactic| ((conv => whnf); refine br_of ?_ ?_))
local macro_rules | `(tactic| walk_at "st") => `(tactic| ((conv => whnf); first
  | (refine ⟨Nat.le_of_ble_eq_true rfl, ?_⟩; walk_at "st")
  | (refine ⟨rfl, ?_⟩; walk_at "st")
  | skip))
local macro_rules | `(tactic| walk_at "mem") => `(tactic| first
  | assumption
  | exact updM_same
  | (refine (Keep.new ‹_›) _ _ ?_; walk_at "mem")
  | (refine ‹Keep _ _› _ _ ?_; walk_at "mem")
  | (refine (Bg.ext ‹Bg _ _ _›) _ _ (by first | assumption | exact Ne.symm ‹_›) ?_; walk_at "mem")
  | (refine ‹Ext _ _ _› _ _ (by first | assumption | exact Ne.symm ‹_›) ?_; walk_at "mem")
  | (rw [updM_ne (by first | assumption | exact Ne.symm ‹_›)]; walk_at "mem"))

def top (i : Nat) : Stmt := PySem.Challenge.pw_solvedbothsides_k35_tables_turned.main.body.getD i (.Pass ⟨0, 0, 0, 0⟩)
abbrev s_moved : Stmt := top 1
theorem sc_moved : FnScope ["row", "way", "place"] ["row", "way"] (defScope s_moved) := ⟨rfl, rfl, rfl, by decide +kernel, rfl, by decide +kernel, by decide +kernel⟩
abbrev s_turned : Stmt := top 2
theorem sc_turned : FnScope ["table", "way", "size", "found", "one", "other", "first", "second", "out", "number", "row"] ["table", "way"] (defScope s_turned) := ⟨rfl, rfl, rfl, by decide +kernel, rfl, by decide +kernel, by decide +kernel⟩
abbrev s_back : Stmt := top 3
theorem sc_back : FnScope ["way", "place"] ["way"] (defScope s_back) := ⟨rfl, rfl, rfl, by decide +kernel, rfl, by decide +kernel, by decide +kernel⟩
abbrev s_l_deck : Stmt := top 5
theorem sc_l_deck : FnScope ["_law_script", "_law_great", "_law_small", "_law_cell", "_law_mixed_here"] ["_law_script"] (defScope s_l_deck) := ⟨rfl, rfl, rfl, by decide +kernel, rfl, by decide +kernel, by decide +kernel⟩
abbrev s_l_take : Stmt := top 6
theorem sc_l_take : FnScope ["_law_deck_here", "_law_many", "_law_digit", "_law_mixed_here"] ["_law_deck_here", "_law_many"] (defScope s_l_take) := ⟨rfl, rfl, rfl, by decide +kernel, rfl, by decide +kernel, by decide +kernel⟩
abbrev s_l_pick : Stmt := top 7
theorem sc_l_pick : FnScope ["_law_deck_here", "_law_some"] ["_law_deck_here", "_law_some"] (defScope s_l_pick) := ⟨rfl, rfl, rfl, by decide +kernel, rfl, by decide +kernel, by decide +kernel⟩
abbrev s_l_is_int : Stmt := top 8
theorem sc_l_is_int : FnScope ["_law_value", "_law_low", "_law_high"] ["_law_value", "_law_low", "_law_high"] (defScope s_l_is_int) := ⟨rfl, rfl, rfl, by decide +kernel, rfl, by decide +kernel, by decide +kernel⟩
abbrev s_l_mixed : Stmt := top 9
theorem sc_l_mixed : FnScope ["_law_deck_here", "_law_many", "_law_left", "_law_found"] ["_law_deck_here", "_law_many"] (defScope s_l_mixed) := ⟨rfl, rfl, rfl, by decide +kernel, rfl, by decide +kernel, by decide +kernel⟩
abbrev s_l_table : Stmt := top 10
theorem sc_l_table : FnScope ["_law_deck_here", "_law_many", "_law_rows", "_law_columns", "_law_things", "_law_found", "_law_turn", "_law_one", "_law_other", "_law_left", "_law_right", "_law_pair", "_law_row"] ["_law_deck_here", "_law_many"] (defScope s_l_table) := ⟨rfl, rfl, rfl, by decide +kernel, rfl, by decide +kernel, by decide +kernel⟩
abbrev s_l_is_table : Stmt := top 11
theorem sc_l_is_table : FnScope ["_law_table_here", "_law_many", "_law_row", "_law_thing", "_law_place"] ["_law_table_here", "_law_many"] (defScope s_l_is_table) := ⟨rfl, rfl, rfl, by decide +kernel, rfl, by decide +kernel, by decide +kernel⟩
abbrev s_l_ways : Stmt := top 12
theorem sc_l_ways : FnScope [] [] (defScope s_l_ways) := ⟨rfl, rfl, rfl, by decide +kernel, rfl, by decide +kernel, by decide +kernel⟩
abbrev s_l_turned : Stmt := top 13
theorem sc_l_turned : FnScope ["_law_table_here", "_law_way", "_law_many", "_law_found", "_law_one", "_law_other", "_law_entry", "_law_row"] ["_law_table_here", "_law_way"] (defScope s_l_turned) := ⟨rfl, rfl, rfl, by decide +kernel, rfl, by decide +kernel, by decide +kernel⟩
abbrev s_law : Stmt := top 14
theorem sc_law : FnScope ["_law_script", "_law_deck_here", "_law_turn", "_law_table_here", "_law_shown", "_law_way", "_law_told", "_law_behind_all", "_law_other", "_law_place"] ["_law_script"] (defScope s_law) := ⟨rfl, rfl, rfl, by decide +kernel, rfl, by decide +kernel, by decide +kernel⟩
structure Ad where
  f_moved : Addr
  d_moved : FuncData
  f_turned : Addr
  d_turned : FuncData
  f_back : Addr
  d_back : FuncData
  f_l_deck : Addr
  d_l_deck : FuncData
  f_l_take : Addr
  d_l_take : FuncData
  f_l_pick : Addr
  d_l_pick : FuncData
  f_l_is_int : Addr
  d_l_is_int : FuncData
  f_l_mixed : Addr
  d_l_mixed : FuncData
  f_l_table : Addr
  d_l_table : FuncData
  f_l_is_table : Addr
  d_l_is_table : FuncData
  f_l_ways : Addr
  d_l_ways : FuncData
  f_l_turned : Addr
  d_l_turned : FuncData
  f_law : Addr
  d_law : FuncData
structure Txt (K : PySem.W.Frag) (mg : Str → Option Value) (a : Ad) : Prop where
  F_moved : Fun K "moved" "moved" s_moved a.f_moved a.d_moved
  B_moved : Binds K a.d_moved ["row", "way"] []
  G_moved : mg "moved" = some (.ref a.f_moved)
  F_turned : Fun K "turned" "turned" s_turned a.f_turned a.d_turned
  B_turned : Binds K a.d_turned ["table", "way"] []
  G_turned : mg "turned" = some (.ref a.f_turned)
  F_back : Fun K "back" "back" s_back a.f_back a.d_back
  B_back : Binds K a.d_back ["way"] []
  G_back : mg "back" = some (.ref a.f_back)
  F_l_deck : Fun K "_law_deck" "_law_deck" s_l_deck a.f_l_deck a.d_l_deck
  B_l_deck : Binds K a.d_l_deck ["_law_script"] []
  G_l_deck : mg "_law_deck" = some (.ref a.f_l_deck)
  F_l_take : Fun K "_law_take" "_law_take" s_l_take a.f_l_take a.d_l_take
  B_l_take : Binds K a.d_l_take ["_law_deck_here", "_law_many"] []
  G_l_take : mg "_law_take" = some (.ref a.f_l_take)
  F_l_pick : Fun K "_law_pick" "_law_pick" s_l_pick a.f_l_pick a.d_l_pick
  B_l_pick : Binds K a.d_l_pick ["_law_deck_here", "_law_some"] []
  G_l_pick : mg "_law_pick" = some (.ref a.f_l_pick)
  F_l_is_int : Fun K "_law_is_int" "_law_is_int" s_l_is_int a.f_l_is_int a.d_l_is_int
  B_l_is_int : Binds K a.d_l_is_int ["_law_value", "_law_low", "_law_high"] []
  G_l_is_int : mg "_law_is_int" = some (.ref a.f_l_is_int)
  F_l_mixed : Fun K "_law_mixed" "_law_mixed" s_l_mixed a.f_l_mixed a.d_l_mixed
  B_l_mixed : Binds K a.d_l_mixed ["_law_deck_here", "_law_many"] []
  G_l_mixed : mg "_law_mixed" = some (.ref a.f_l_mixed)
  F_l_table : Fun K "_law_table" "_law_table" s_l_table a.f_l_table a.d_l_table
  B_l_table : Binds K a.d_l_table ["_law_deck_here", "_law_many"] []
  G_l_table : mg "_law_table" = some (.ref a.f_l_table)
  F_l_is_table : Fun K "_law_is_table" "_law_is_table" s_l_is_table a.f_l_is_table a.d_l_is_table
  B_l_is_table : Binds K a.d_l_is_table ["_law_table_here", "_law_many"] []
  G_l_is_table : mg "_law_is_table" = some (.ref a.f_l_is_table)
  F_l_ways : Fun K "_law_ways" "_law_ways" s_l_ways a.f_l_ways a.d_l_ways
  B_l_ways : Binds K a.d_l_ways [] []
  G_l_ways : mg "_law_ways" = some (.ref a.f_l_ways)
  F_l_turned : Fun K "_law_turned" "_law_turned" s_l_turned a.f_l_turned a.d_l_turned
  B_l_turned : Binds K a.d_l_turned ["_law_table_here", "_law_way"] []
  G_l_turned : mg "_law_turned" = some (.ref a.f_l_turned)
  F_law : Fun K "law" "law" s_law a.f_law a.d_law
  B_law : Binds K a.d_law ["_law_script"] []
  G_law : mg "law" = some (.ref a.f_law)
  z_abs : mg "abs" = none
  z_bool : mg "bool" = none
  z_int : mg "int" = none
  z_isinstance : mg "isinstance" = none
  z_len : mg "len" = none
  z_list : mg "list" = none
  z_range : mg "range" = none
  z_repr : mg "repr" = none
  z_sorted : mg "sorted" = none
  z_tuple : mg "tuple" = none
section
variable {P : Program} {w : World} {K : PySem.W.Frag} {mg : Str → Option Value} {base : Heap} {a : Ad}

def sp_moved : SpD := fun ds M Q _ => match ds with
  | [.tup [.int i, .int j, .int k], d] => ∃ w, d = dI w ∧ IsWay w ∧ ∀ M', Keep M M' → Q (dI [tri i j k (at0 w 0), tri i j k (at0 w 1), tri i j k (at0 w 2)]) M'
  | _ => False

theorem ok_moved (T : Txt K mg a) : FnD P w K mg base CX0 1 a.f_moved a.d_moved ["row", "way"] sp_moved := by
  refine okD T.F_moved sc_moved (fun ds M Q E h => ?_) (fun cdv A outer s H E hr hgd ds M Q E' h => ?_)
  · unfold sp_moved at h; split at h <;> first | rfl | exact h.elim
  refine ⟨_, (dss_one (ds_ret (de_ct ca_tuple (by rfl) T.z_tuple PyProof.Rows.boot_tuple (da_cons (de_lc rfl sc_moved.nd (own := [("place", 2)]) (own1 _ 2) (di_seq (dv 1)) (blkOk_by (by kernel_rfl)) (fun _ _ _ _ _ => (pg_name (i := 2) sc_moved.nd rfl (Or.inl rfl))) (fun _ _ _ _ _ => pts_y) (fun _ _ _ _ _ => (de_ix (dv 0) (dv 2)))) da_nil)))), ?_⟩
  unfold sp_moved at h
  split at h
  rotate_left
  · exact h.elim
  rename_i i j k d
  obtain ⟨w, rfl, hw, q⟩ := h
  obtain ⟨wl, wp, wm⟩ := IsWay.place hw
  walk_at "go"
  refine ⟨fun m acc M' => M' = M ∧ acc = ((w.take m).map (tri i j k)).map D.int, ⟨rfl, rfl⟩, fun _ _ _ _ _ => trivial, ?_, ?_⟩
  · rintro m acc x M' hm hx ⟨rfl, rfl⟩
    rw [List.length_map] at hm
    obtain rfl : x = .int w[m] := by
      unfold yL at hx
      rw [List.getElem?_map, List.getElem?_eq_getElem hm] at hx
      exact (Option.some.inj hx).symm
    have b := wp _ (List.getElem_mem hm)
    walk_at "go"
    rw [at_tri b.1 b.2]
    refine ⟨by simp; have : sizeLine = 16777216 := rfl; omega, rfl, ?_⟩
    rw [List.take_succ_eq_append_getElem hm, List.map_append, List.map_append]
    rfl
  · rintro acc M' ⟨rfl, rfl⟩ p hp
    rw [List.length_map, List.take_length, wm]
    walk_at "go"
    exact ⟨_, updM_same, q _ (Keep.new hp)⟩


def sp_turned : SpD := fun ds M Q _ => match ds with
  | [d, dw] => ∃ (n : Nat) (t : List (List Int)) (w : List Int) (T : List (List Int)), d = dII t ∧ dw = dI w ∧ IsWay w ∧ IsTab n t ∧ IsTab n T ∧ turnsTo n t T w ∧ 1 ≤ n ∧ n ≤ 200 ∧ ∀ M', Keep M M' → Q (dII T) M'
  | _ => False

theorem ok_turned (T : Txt K mg a) : FnD P w K mg base CX0 2 a.f_turned a.d_turned ["table", "way"] sp_turned := by
  refine okD T.F_turned sc_turned (fun ds M Q E h => ?_) (fun cdv A outer s H E hr hgd ds M Q E' h => ?_)
  · unfold sp_turned at h; split at h <;> first | rfl | exact h.elim
  refine ⟨_, (dss_cons (ds_set (i := 2) sc_turned.nd rfl (Or.inr rfl) (de_cb (ca_len) (by rfl) T.z_len PySem.boot_len (da_cons (dv 0) da_nil)))
      (dss_cons (ds_setLc (i := 3) rfl sc_turned.nd rfl rfl (sw_true rfl rfl rfl (by decide +kernel)) (own := [("number", 9)]) (own1 _ 9) (di_rg1 (by rfl) T.z_range (da_cons (dv 2) da_nil)) (blkOk_by (by kernel_rfl)) (fun _ _ _ _ _ => (pg_name (i := 9) sc_turned.nd rfl (Or.inl rfl))) (fun _ _ _ _ _ => pts_y) (fun _ _ _ _ _ => (de_bin br_rep (de_lst (da_cons de_int da_nil)) (dv 2))))
      (dss_cons (ds_for PassesOwn.never rfl (di_rg1 (by rfl) T.z_range (da_cons (dv 2) da_nil)) (dg_name (i := 4) sc_turned.nd rfl (Or.inl rfl))
      (dss_one (ds_for PassesOwn.never rfl (di_rg1 (by rfl) T.z_range (da_cons (dv 2) da_nil)) (dg_name (i := 5) sc_turned.nd rfl (Or.inl rfl))
      (dss_cons (ds_asg (de_call (ok_moved T) (hr.mono (by omega)) hgd (by rfl) T.G_moved T.F_moved.kp T.B_moved (da_cons (de_tup (da_cons (dv 4) (da_cons (dv 5) (da_cons (de_ix (de_ix (dv 0) (dv 4)) (dv 5)) da_nil)))) (da_cons (dv 1) da_nil))) (dg_tup rfl (dgs_cons (dg_name (i := 6) sc_turned.nd rfl (Or.inl rfl)) (dgs_cons (dg_name (i := 7) sc_turned.nd rfl (Or.inl rfl)) (dgs_cons (dg_name (i := 8) sc_turned.nd rfl (Or.inl rfl)) dgs_nil)))))
      (dss_one (ds_asg (dv 8) (dg_sub (de_ix (dv 3) (dv 6)) (dv 7) st_list)))))))
      (dss_one (ds_ret (de_ct ca_tuple (by rfl) T.z_tuple PyProof.Rows.boot_tuple (da_cons (de_lc rfl sc_turned.nd (own := [("row", 10)]) (own1 _ 10) (di_seq (dv 3)) (blkOk_by (by kernel_rfl)) (fun _ _ _ _ _ => (pg_name (i := 10) sc_turned.nd rfl (Or.inl rfl))) (fun _ _ _ _ _ => pts_y) (fun _ _ _ _ _ => (de_ct ca_tuple (by rfl) T.z_tuple PyProof.Rows.boot_tuple (da_cons (dv 10) da_nil)))) da_nil))))))), ?_⟩
  unfold sp_turned at h
  split at h
  rotate_left
  · exact h.elim
  obtain ⟨n, t, w, T', rfl, rfl, hw, hT, hT', hG, n0, n1, q⟩ := h
  have hz : sizeLine = 16777216 := rfl
  have tl : (((t.map dI).length : Nat) : Int) = n := by rw [List.length_map, hT.len]
  walk_at "go"
  refine ⟨by omega, by omega, ?_⟩
  rw [show Int.toNat (((t.map dI).length : Nat) : Int) = n by omega]
  walk_at "go"
  refine ⟨fun k acc M1 => Keep M M1 ∧ ∃ rs : List Addr, acc = rs.map D.ref ∧ GridD M M1 rs (List.replicate k (List.replicate n (D.int 0))), ⟨.refl, [], rfl, .nil⟩, fun _ _ _ _ _ => trivial, ?_, ?_⟩
  · rintro k acc x M1 hk rfl ⟨hK1, rs, rfl, g⟩
    walk_at "go"
    refine ⟨Nat.le_of_ble_eq_true rfl, fun p hp => ?_⟩
    walk_at "go"
    refine ⟨_, updM_same, by omega, by omega, by rw [List.length_singleton]; omega, fun r hr => ?_⟩
    rw [rep_one, show Int.toNat (((t.map dI).length : Nat) : Int) = n by omega]
    have hr1 : updM M1 p (.lst [.int 0]) r = none := hr
    have hK2 : Keep M1 (updM M1 p (.lst [.int 0])) := Keep.new hp
    refine ⟨by have := g.len; simp at this ⊢; omega, (hK1.trans hK2).trans (Keep.new hr), rs ++ [r], by simp, ?_⟩
    rw [List.replicate_succ']
    refine (g.add hp).snoc hr ?_
    cases hM : M r with
    | none => rfl
    | some o =>
      have := (hK1.trans hK2) r o hM
      rw [hr1] at this; cases this
  rintro acc M1 ⟨hK1, rs, rfl, g⟩ f hf
  have hfr : ∀ a ∈ rs, f ≠ a := fun a ha e => by
    obtain ⟨_, z⟩ := g.has ha
    rw [← e, hf] at z; cases z
  have hM0f : M f = none := by
    cases hM : M f with
    | none => rfl
    | some o =>
      have := hK1 f o hM
      rw [hf] at this; cases this
  have lrs : rs.length = n := by rw [g.len, List.length_replicate]
  have sq0 : Sq n (List.replicate n (List.replicate n (D.int 0))) := ⟨List.length_replicate .., fun r hr => by
    rw [List.eq_of_mem_replicate hr]
    exact List.length_replicate ..⟩
  walk_at "go"
  refine ⟨by omega, by omega, ?_⟩
  rw [show Int.toNat (((t.map dI).length : Nat) : Int) = n by omega]
  walk_at "go"
  refine ⟨fun k ρ M' => ∃ G', Keep M M' ∧ M' f = some (.lst (rs.map D.ref)) ∧ GridD M M' rs G' ∧ Sq n G' ∧ (∀ i j c, Gives n t i j c → i < k → cellD G' (tri i j c (at0 w 0)) (tri i j c (at0 w 1)) = some (.int (tri i j c (at0 w 2)))) ∧
    ∃ c4 c5 c6 c7 c8 c9 c10, ρ = [some (dII t), some (dI w), some (.int (((t.map dI).length : Nat) : Int)), some (.ref f), c4, c5, c6, c7, c8, c9, c10],
    ⟨_, hK1.trans (Keep.new hf), updM_same, g.add hf, sq0, fun i j c gv h => absurd gv.1 (by omega), none, none, none, none, none, none, none, rfl⟩, fun _ _ _ _ _ => trivial, ?_, ?_⟩
  · rintro k x ρ M2 hk rfl ⟨G2, hK2, hf2, g2, sq2, done2, c4, c5, c6, c7, c8, c9, c10, rfl⟩
    walk_at "go"
    refine ⟨by omega, by omega, ?_⟩
    rw [show Int.toNat (((t.map dI).length : Nat) : Int) = n by omega]
    walk_at "go"
    refine ⟨fun j ρ M' => ∃ G', Keep M M' ∧ M' f = some (.lst (rs.map D.ref)) ∧ GridD M M' rs G' ∧ Sq n G' ∧ (∀ i j' c, Gives n t i j' c → (i < k ∨ (i = k ∧ j' < j)) → cellD G' (tri i j' c (at0 w 0)) (tri i j' c (at0 w 1)) = some (.int (tri i j' c (at0 w 2)))) ∧
      ∃ c5 c6 c7 c8 c9 c10, ρ = [some (dII t), some (dI w), some (.int (((t.map dI).length : Nat) : Int)), some (.ref f), some (.int (0 + (k : Int))), c5, c6, c7, c8, c9, c10],
      ⟨G2, hK2, hf2, g2, sq2, fun i j c gv h => done2 i j c gv (by have := gv.2.2.1; omega), _, _, _, _, _, _, rfl⟩, fun _ _ _ _ _ => trivial, ?_, ?_⟩
    · rintro j x ρ M3 hj rfl ⟨G3, hK3, hf3, g3, sq3, done3, c5, c6, c7, c8, c9, c10, rfl⟩
      have gv : Gives n t (0 + (k : Int)) (0 + (j : Int)) (ent t (0 + (k : Int)) (0 + (j : Int))) := ⟨by omega, by omega, by omega, by omega, rfl⟩
      have gT := hG _ _ _ gv
      walk_at "go"
      rw [hT.atr (i := 0 + (k : Int)) (by omega) (by omega)]
      walk_at "go"
      rw [hT.ate (i := 0 + (k : Int)) (j := 0 + (j : Int)) (by omega) (by omega) (by omega) (by omega)]
      walk_at "go"
      refine ⟨Nat.le_of_ble_eq_true rfl, ?_⟩
      walk_at "go"
      refine ⟨w, rfl, hw, fun M4 hK4 => ?_⟩
      walk_at "go"
      refine ⟨rfl, ?_⟩
      have g4 := g3.up (M' := M4) fun a _ o e => hK4 a o e
      have hf4 := hK4 _ _ hf3
      generalize ha : tri (0 + (k : Int)) (0 + (j : Int)) (ent t (0 + (k : Int)) (0 + (j : Int))) (at0 w 0) = a at gT ⊢
      generalize hb : tri (0 + (k : Int)) (0 + (j : Int)) (ent t (0 + (k : Int)) (0 + (j : Int))) (at0 w 1) = b at gT ⊢
      generalize hc : tri (0 + (k : Int)) (0 + (j : Int)) (ent t (0 + (k : Int)) (0 + (j : Int))) (at0 w 2) = c at gT ⊢
      have a0 := gT.1
      have a1 := gT.2.1
      have b0 := gT.2.2.1
      have b1 := gT.2.2.2.1
      obtain ⟨ad, r, had, hr, er⟩ := g4.get (i := a.toNat) (by rw [sq3.len]; omega)
      have lr := sq3.row r (List.mem_of_getElem? hr)
      walk_at "go"
      refine ⟨_, hf4, ixQ_of (d := .ref ad) (by rw [atI_nn a0 (by rw [List.length_map]; omega), List.getElem?_map, had]; rfl) ?_⟩
      walk_at "go"
      refine ⟨r, b.toNat, er, ixN_nn b0 (by omega), ?_⟩
      refine ⟨_, (hK3.trans hK4).updN (g3.new ad (List.mem_of_getElem? had)), by rw [updM_ne (hfr ad (List.mem_of_getElem? had))]; exact hf4, g4.set (r := r.set b.toNat (.int c)) had, sq3.set (by rw [List.length_set]; exact lr), fun i j' c' gv' h => ?_, _, _, _, _, _, _, rfl⟩
      have gT' := hG _ _ _ gv'
      rw [cell_set sq3 hr a0 b0 b1 gT'.1 gT'.2.2.1]
      split
      · rename_i z
        rw [z.1, z.2] at gT'
        rw [← gT.2.2.2.2, ← gT'.2.2.2.2]
      · rename_i z
        refine done3 i j' c' gv' ?_
        rcases h with h | ⟨h, h'⟩
        · exact .inl h
        · refine .inr ⟨h, ?_⟩
          rcases Int.lt_or_eq_of_le (show j' ≤ j by omega) with q | q
          · exact q
          · refine absurd ?_ z
            have e1 : i = 0 + (k : Int) := by omega
            have e2 : j' = 0 + (j : Int) := by omega
            rw [e1, e2] at gv' ⊢
            rw [← gv'.2.2.2.2]
            exact ⟨ha, hb⟩
    · rintro ρ M3 ⟨G3, hK3, hf3, g3, sq3, done3, c5, c6, c7, c8, c9, c10, rfl⟩
      exact ⟨G3, hK3, hf3, g3, sq3, fun i j c gv h => done3 i j c gv (by have := gv.2.2.2.1; omega), _, _, _, _, _, _, _, rfl⟩
  · rintro ρ M2 ⟨G2, hK2, hf2, g2, sq2, done2, c4, c5, c6, c7, c8, c9, c10, rfl⟩
    have hGT : G2 = T'.map fun r => r.map D.int := sq_eq sq2 hT' fun a b a0 a1 b0 b1 => by
      obtain ⟨i, j, c, gv, rfl, rfl⟩ := turn_onto hT hw a0 a1 b0 b1
      rw [done2 i j c gv gv.2.1, (hG i j c gv).2.2.2.2]
    subst hGT
    have tl' := hT'.len
    walk_at "go"
    refine ⟨_, hf2, ?_⟩
    refine ⟨fun k acc M' => M' = M2 ∧ acc = (T'.take k).map dI, ⟨rfl, by rw [List.take_zero]; rfl⟩, fun k acc M' _ z => z.1 ▸ hf2, ?_, ?_⟩
    · rintro k acc x M' hk hx ⟨rfl, rfl⟩
      rw [List.length_map] at hk
      have hk' : k < T'.length := by omega
      obtain ⟨ad, r, had, hr, er⟩ := g2.get (i := k) (by rw [List.length_map]; omega)
      obtain rfl : x = .ref ad := by
        unfold yL at hx
        rw [List.getElem?_map, had] at hx
        exact (Option.some.inj hx).symm
      obtain rfl : r = T'[k].map D.int := by
        rw [List.getElem?_map, List.getElem?_eq_getElem hk'] at hr
        exact (Option.some.inj hr).symm
      walk_at "go"
      refine ⟨_, er, ?_⟩
      refine ⟨by simp; omega, rfl, ?_⟩
      rw [List.take_succ_eq_append_getElem hk', List.map_append]
      rfl
    · rintro acc M' ⟨rfl, rfl⟩ p hp
      rw [show (rs.map D.ref).length = T'.length by rw [List.length_map]; omega, List.take_length]
      walk_at "go"
      exact ⟨_, updM_same, q _ (hK2.trans (Keep.new hp))⟩


def sp_back : SpD := fun ds M Q _ => match ds with
  | [d] => ∃ w, d = dI w ∧ IsWay w ∧ ∀ M', Keep M M' → Q (dI (backW w)) M'
  | _ => False

theorem ok_back (T : Txt K mg a) : FnD P w K mg base CX0 1 a.f_back a.d_back ["way"] sp_back := by
  refine okD T.F_back sc_back (fun ds M Q E h => ?_) (fun cdv A outer s H E hr hgd ds M Q E' h => ?_)
  · unfold sp_back at h; split at h <;> first | rfl | exact h.elim
  refine ⟨_, (dss_one (ds_ret (de_ct ca_tuple (by rfl) T.z_tuple PyProof.Rows.boot_tuple (da_cons (de_lc rfl sc_back.nd (own := [("place", 1)]) (own1 _ 1) (di_rg1 (by rfl) T.z_range (da_cons de_int da_nil)) (blkOk_by (by kernel_rfl)) (fun _ _ _ _ _ => (pg_name (i := 1) sc_back.nd rfl (Or.inl rfl))) (fun _ _ _ _ _ => pts_y) (fun _ _ _ _ _ => (de_tm PySem.F.slot_tuple_index PySem.F.type_tuple_index mr_tindex (dv 0) (da_cons (dv 1) da_nil)))) da_nil)))), ?_⟩
  unfold sp_back at h
  split at h
  rotate_left
  · exact h.elim
  obtain ⟨w, rfl, hw, q⟩ := h
  walk_at "go"
  refine ⟨by decide, by decide, ?_⟩
  walk_at "go"
  refine ⟨fun k acc M' => M' = M ∧ acc = ((rg k).map fun p => ((w.idxOf p : Nat) : Int)).map D.int, ⟨rfl, rfl⟩, fun _ _ _ _ _ => trivial, ?_, ?_⟩
  · rintro k acc x M' hk rfl ⟨rfl, rfl⟩
    have hk3 : k < 3 := hk
    walk_at "go"
    refine ⟨⟨_, rfl⟩, w, rfl, way_mem hw (by omega) (by omega), ?_⟩
    refine ⟨by simp; rw [rg_length]; have : sizeLine = 16777216 := rfl; omega, rfl, ?_⟩
    rw [rg_succ, List.map_append, List.map_append, Int.zero_add]
    rfl
  · rintro acc M' ⟨rfl, rfl⟩ p hp
    walk_at "go"
    exact ⟨_, updM_same, q _ (Keep.new hp)⟩


def sp_l_deck : SpD := fun ds M Q _ => match ds with
  | [.fl xs] => ∃ ns : List Int, xs = ns.map D.int ∧ ns.length ≤ sizeLine ∧ ∀ l M', Bag M' l → Q (.ref l) M'
  | _ => False

theorem ok_l_deck (T : Txt K mg a) : FnD P w K mg base CX0 1 a.f_l_deck a.d_l_deck ["_law_script"] sp_l_deck := by
  refine okD T.F_l_deck sc_l_deck (fun ds M Q E h => ?_) (fun cdv A outer s H E hr hgd ds M Q E' h => ?_)
  · unfold sp_l_deck at h; split at h <;> first | rfl | exact h.elim
  refine ⟨_, (dss_cons (ds_par (i := 1) (j := 2) rfl sc_l_deck.nd rfl rfl (by decide) rfl rfl (da_cons de_int (da_cons (de_bin br_add de_int (de_bin br_mul de_int (de_cb (ca_len) (by rfl) T.z_len PySem.boot_len (da_cons (dv 0) da_nil)))) da_nil)) (by rfl))
      (dss_cons (ds_for PassesOwn.never rfl (di_seq (de_sl (dv 0) do_none (do_some de_int))) (dg_name (i := 3) sc_l_deck.nd rfl (Or.inl rfl))
      (dss_one (ds_if (dt_cp cr_ge (dv 3) (de_bin br_pow de_int de_int))
      (dss_one (ds_set (i := 1) sc_l_deck.nd rfl (Or.inl rfl) (de_bin br_sub (de_bin br_add (de_bin br_mul (dv 1) de_int) (dv 3)) (de_bin br_pow de_int de_int))))
      (dss_cons (ds_set (i := 4) sc_l_deck.nd rfl (Or.inl rfl) (de_bin br_add (de_bin br_mul (dv 2) de_int) (de_bin br_mul de_int (de_cb (ca_abs) (by rfl) T.z_abs (by decide +kernel) (da_cons (dv 3) da_nil)))))
      (dss_one (ds_set (i := 2) sc_l_deck.nd rfl (Or.inl rfl) (de_bin br_mod (de_ct ca_int (by rfl) T.z_int (by decide +kernel) (da_cons (de_bin br_add (dv 4) (de_ct ca_int (by rfl) T.z_int (by decide +kernel) (da_cons (de_cp cr_lt (dv 3) de_int) da_nil))) da_nil)) de_int)))))))
      (dss_one (ds_ret (de_lst (da_cons (dv 1) (da_cons (dv 2) (da_cons de_int da_nil)))))))), ?_⟩
  unfold sp_l_deck at h
  split at h
  rotate_left
  · exact h.elim
  obtain ⟨ns, rfl, hn, q⟩ := h
  walk_at "go"
  refine ⟨.inl ⟨by decide, by decide⟩, ?_⟩
  walk_at "go"
  intro p hp
  refine ⟨_, updM_same, ?_⟩
  have hz : sizeLine = 16777216 := rfl
  refine ⟨fun _ ρ M1 => M1 p = some (.lst (cutD (ns.map D.int) none (some 63))) ∧ ∃ g s : Int, 0 ≤ s ∧ s < 2 ^ 62 ∧ ∃ c m, ρ = [some (.fl (ns.map D.int)), some (.int g), some (.int s), c, m], ⟨updM_same, 0, _, ?_, ?_, none, none, rfl⟩, fun i ρ M1 _ z => z.1, ?_, ?_⟩
  · have : (ns.map D.int).length = ns.length := List.length_map ..
    show (0 : Int) ≤ 11236 + 37 * ((ns.map D.int).length : Nat)
    omega
  · have : (ns.map D.int).length = ns.length := List.length_map ..
    show (11236 : Int) + 37 * ((ns.map D.int).length : Nat) < 2 ^ 62
    omega
  · intro i x ρ M1 hi hx hP
    obtain ⟨hM, g, s, h0, h1, c, m, rfl⟩ := hP
    obtain ⟨n, _, rfl⟩ := List.mem_map.mp (List.mem_of_mem_drop (List.mem_of_mem_take (List.mem_of_getElem? hx)))
    walk_at "go"
    refine ⟨⟨by decide, by decide, by decide⟩, ?_⟩
    walk_at "br"
    · intro _
      walk_at "go"
      refine ⟨.inr ⟨by decide, by decide⟩, ?_⟩
      walk_at "go"
      refine ⟨⟨by decide, by decide, by decide⟩, ?_⟩
      walk_at "go"
      exact ⟨hM, _, s, h0, h1, _, _, rfl⟩
    · intro _
      walk_at "go"
      refine ⟨.inr ⟨by decide, by decide⟩, ?_⟩
      walk_at "go"
      refine ⟨.inl ⟨by decide, by decide⟩, ?_⟩
      walk_at "go"
      refine ⟨by dsimp only; decide, ?_⟩
      walk_at "go"
      exact ⟨hM, g, _, Int.emod_nonneg _ (by decide), Int.lt_trans (Int.emod_lt_of_pos _ (by decide)) (by decide), _, _, rfl⟩
  · rintro ρ M1 ⟨hM, g, s, h0, h1, c, m, rfl⟩
    walk_at "go"
    refine ⟨Nat.le_of_ble_eq_true rfl, fun r hr => ?_⟩
    exact q r _ ⟨g, s, 0, updM_same, h0, h1⟩


def sp_l_take : SpD := fun ds M Q _ => match ds with
  | [.ref l, .int n] => Bag M l ∧ 0 < n ∧ n < 1073741824 ∧ ∀ k M', 0 ≤ k → k < n → Bag M' l → Ext l M M' → Q (.int k) M'
  | _ => False

theorem ok_l_take (T : Txt K mg a) : FnD P w K mg base CX0 1 a.f_l_take a.d_l_take ["_law_deck_here", "_law_many"] sp_l_take := by
  refine okD T.F_l_take sc_l_take (fun ds M Q E h => ?_) (fun cdv A outer s H E hr hgd ds M Q E' h => ?_)
  · unfold sp_l_take at h; split at h <;> first | rfl | exact h.elim
  refine ⟨_, (dss_cons (ds_if (dt_cp cr_gt (de_ix (dv 0) de_int) de_int)
      (dss_cons (ds_set (i := 2) sc_l_take.nd rfl (Or.inl rfl) (de_bin br_mod (de_ct ca_int (by rfl) T.z_int (by decide +kernel) (da_cons (de_ix (dv 0) de_int) da_nil)) (dv 1)))
      (dss_cons (ds_asg (de_bin br_fdiv (de_ix (dv 0) de_int) (dv 1)) (dg_sub (dv 0) de_int st_list))
      (dss_one (ds_ret (dv 2)))))
      dss_nil)
      (dss_cons (ds_asg (de_bin br_add (de_ix (dv 0) de_int) de_int) (dg_sub (dv 0) de_int st_list))
      (dss_cons (ds_set (i := 3) sc_l_take.nd rfl (Or.inl rfl) (de_bin br_add (de_bin br_mul (de_ix (dv 0) de_int) de_int) (de_bin br_mul de_int (de_ix (dv 0) de_int))))
      (dss_cons (ds_asg (de_bin br_mod (de_ct ca_int (by rfl) T.z_int (by decide +kernel) (da_cons (dv 3) da_nil)) de_int) (dg_sub (dv 0) de_int st_list))
      (dss_one (ds_ret (de_bin br_mod (de_bin br_fdiv (de_bin br_mod (de_ct ca_int (by rfl) T.z_int (by decide +kernel) (da_cons (de_bin br_mul (de_ix (dv 0) de_int) (de_ix (dv 0) de_int)) da_nil)) de_int) de_int) (dv 1)))))))), ?_⟩
  unfold sp_l_take at h
  split at h
  rotate_left
  · exact h.elim
  obtain ⟨⟨g, s, c, e, h0, h1⟩, hn, hn2, q⟩ := h
  walk_at "go"
  refine ⟨_, e, ?_⟩
  walk_at "br"
  · intro _
    walk_at "go"
    refine ⟨_, e, ?_⟩
    walk_at "go"
    refine ⟨hn, ?_⟩
    walk_at "go"
    refine ⟨_, e, ?_⟩
    walk_at "go"
    refine ⟨⟨hn, hn2⟩, ?_⟩
    walk_at "go"
    refine ⟨_, _, e, rfl, ?_⟩
    walk_at "go"
    exact q _ _ (Int.emod_nonneg _ (by omega)) (Int.emod_lt_of_pos _ hn) ⟨_, s, c, updM_same, h0, h1⟩ .upd
  · intro _
    walk_at "go"
    refine ⟨_, e, ?_⟩
    walk_at "go"
    refine ⟨_, _, e, rfl, ?_⟩
    walk_at "go"
    refine ⟨_, updM_same, ?_⟩
    walk_at "go"
    refine ⟨.inr ⟨by decide, by decide⟩, ?_⟩
    walk_at "go"
    refine ⟨_, updM_same, ?_⟩
    walk_at "go"
    refine ⟨.inl ⟨by decide, by decide⟩, ?_⟩
    walk_at "go"
    refine ⟨by dsimp only; decide, ?_⟩
    walk_at "go"
    refine ⟨_, _, updM_same, rfl, ?_⟩
    walk_at "go"
    refine ⟨_, updM_same, ?_⟩
    walk_at "go"
    refine ⟨_, updM_same, ?_⟩
    walk_at "go"
    have b0 : ∀ x : Int, 0 ≤ x % 2305843009213693951 := fun x => Int.emod_nonneg _ (by decide)
    have b1 : ∀ x : Int, x % 2305843009213693951 < 2305843009213693951 := fun x => Int.emod_lt_of_pos _ (by decide)
    refine ⟨.inl ⟨Int.lt_of_lt_of_le (by decide) (b0 _), Int.lt_trans (b1 _) (by decide)⟩, ?_⟩
    walk_at "go"
    refine ⟨by dsimp only; decide, ?_⟩
    walk_at "go"
    refine ⟨⟨by decide, by decide⟩, ?_⟩
    walk_at "go"
    refine ⟨hn, ?_⟩
    walk_at "go"
    exact q _ _ (Int.emod_nonneg _ (by omega)) (Int.emod_lt_of_pos _ hn) ⟨g, _, _, updM_same, b0 _, Int.lt_trans (b1 _) (by decide)⟩ (Ext.upd.trans .upd)


def SeqIs (M : Mp) (l : Addr) (x : D) (ds : List D) : Prop := x = .tup ds ∨ ∃ p, x = .ref p ∧ p ≠ l ∧ M p = some (.lst ds)
def sp_l_pick : SpD := fun ds M Q _ => match ds with
  | [.ref l, x] => Bag M l ∧ ∃ ds, SeqIs M l x ds ∧ 0 < ds.length ∧ ds.length < 1073741824 ∧ ∀ d M', d ∈ ds → Bag M' l → Ext l M M' → Q d M'
  | _ => False

theorem ok_l_pick (T : Txt K mg a) : FnD P w K mg base CX0 2 a.f_l_pick a.d_l_pick ["_law_deck_here", "_law_some"] sp_l_pick := by
  refine okD T.F_l_pick sc_l_pick (fun ds M Q E h => ?_) (fun cdv A outer s H E hr hgd ds M Q E' h => ?_)
  · unfold sp_l_pick at h; split at h <;> first | rfl | exact h.elim
  refine ⟨_, (dss_one (ds_ret (de_ix (dv 1) (de_call (ok_l_take T) (hr.mono (by omega)) hgd (by rfl) T.G_l_take T.F_l_take.kp T.B_l_take (da_cons (dv 0) (da_cons (de_cb (ca_len) (by rfl) T.z_len PySem.boot_len (da_cons (dv 1) da_nil)) da_nil)))))), ?_⟩
  unfold sp_l_pick at h
  split at h
  rotate_left
  · exact h.elim
  obtain ⟨hB, ds, hs, h0, h1, q⟩ := h
  rcases hs with rfl | ⟨p, rfl, hp, e⟩
  · walk_at "go"
    refine ⟨hB, by omega, by omega, fun k M' k0 k1 hB' hE => ?_⟩
    walk_at "go"
    obtain ⟨d, hd, e⟩ := atI_mem k0 k1
    exact ixQ_of e (q d M' hd hB' hE)
  · walk_at "go"
    refine ⟨_, e, ?_⟩
    walk_at "go"
    refine ⟨hB, by omega, by omega, fun k M' k0 k1 hB' hE => ?_⟩
    walk_at "go"
    obtain ⟨d, hd, e'⟩ := atI_mem k0 k1
    exact ⟨_, hE p _ hp e, ixQ_of e' (q d M' hd hB' hE)⟩


def sp_l_mixed : SpD := fun ds M Q _ => match ds with
  | [.ref l, .int n] => Bag M l ∧ 0 ≤ n ∧ n ≤ 1000 ∧ ∀ (p : List Int) M' r, p.Perm (rg n.toNat) → Bag M' l → Ext l M M' → M r = none → M' r = some (.lst (p.map D.int)) → Q (.ref r) M'
  | _ => False
def lenAt (M : Mp) (a : Addr) : Nat := match M a with
  | some (.lst ds) => ds.length
  | _ => 0
theorem lenAt_of {M : Mp} {a : Addr} {ds : List D} (h : M a = some (.lst ds)) : lenAt M a = ds.length := by
  unfold lenAt
  rw [h]

theorem ok_l_mixed (T : Txt K mg a) : FnD P w K mg base CX0 2 a.f_l_mixed a.d_l_mixed ["_law_deck_here", "_law_many"] sp_l_mixed := by
  refine okD T.F_l_mixed sc_l_mixed (fun ds M Q E h => ?_) (fun cdv A outer s H E hr hgd ds M Q E' h => ?_)
  · unfold sp_l_mixed at h; split at h <;> first | rfl | exact h.elim
  refine ⟨_, (dss_cons (ds_par (i := 2) (j := 3) rfl sc_l_mixed.nd rfl rfl (by decide) rfl rfl (da_cons (de_listRg rfl (by rfl) T.z_list (drg_1 (by rfl) T.z_range (dv 1))) (da_cons (de_lst da_nil) da_nil)) (by rfl))
      (dss_cons (ds_while PassesOwn.never (dt_cp (cr_ne hr.units) (dv 2) (de_lst da_nil))
      (dss_cons (ds_expr (de_ml PySem.F.slot_list_append PySem.F.type_list_append mr_append (dv 3) (da_cons (de_ix (dv 2) (de_call (ok_l_take T) (hr.mono (by omega)) hgd (by rfl) T.G_l_take T.F_l_take.kp T.B_l_take (da_cons (dv 0) (da_cons (de_cb (ca_len) (by rfl) T.z_len PySem.boot_len (da_cons (dv 2) da_nil)) da_nil)))) da_nil)))
      (dss_one (ds_expr (de_ml PySem.F.slot_list_remove PySem.F.type_list_remove mr_remove (dv 2) (da_cons (de_ix (dv 3) (de_neg de_int)) da_nil))))))
      (dss_one (ds_ret (dv 3))))), ?_⟩
  unfold sp_l_mixed at h
  split at h
  rotate_left
  · exact h.elim
  rename_i l n
  obtain ⟨hB, n0, n1, q⟩ := h
  walk_at "go"
  refine ⟨.of_le (by decide) (by omega) (by decide) n0, fun a ha => ?_⟩
  walk_at "go"
  refine ⟨Nat.le_of_ble_eq_true rfl, fun b hb => ?_⟩
  have hab : a ≠ b := ne_none updM_same hb
  have hb' : M b = none := by rw [updM_ne (Ne.symm hab)] at hb; exact hb
  have hla := hB.ne ha
  have hlb := hB.ne hb'
  walk_at "go"
  refine ⟨fun ρ M1 => ∃ left found : List Int, ρ = [some (.ref l), some (.int n), some (.ref a), some (.ref b)] ∧ M1 a = some (.lst (left.map D.int)) ∧ M1 b = some (.lst (found.map D.int)) ∧ Bag M1 l ∧ Ext l M M1 ∧ (left ++ found).Perm (rg n.toNat),
    fun _ M1 => lenAt M1 a, ⟨rg n.toNat, [], rfl, ?_, updM_same, ?_, ?_, ?_⟩, ?_⟩
  · rw [updM_ne hab, updM_same, rgD_rg]
  · exact (hB.new ha).new hb
  · exact (Ext.refl.updN ha).updN hb'
  · rw [List.append_nil]
  rintro ρ M1 ⟨left, found, rfl, ea, eb, hB1, hE1, hp⟩
  have hmem : ∀ i ∈ left, 0 ≤ i ∧ i < n := fun i hi => by
    have := rg_mem.mp (hp.mem_iff.mp (List.mem_append_left _ hi))
    omega
  have hlen : left.length + found.length = n.toNat := by
    have := hp.length_eq
    rw [List.length_append, rg_length] at this
    exact this
  walk_at "go"
  refine ⟨Nat.le_of_ble_eq_true rfl, fun p hp1 => ?_⟩
  have hap := ne_none ea hp1
  have hbp := ne_none eb hp1
  walk_at "go"
  refine ⟨pLI left, pLI [], rdm_LI (by rw [updM_ne hap]; exact ea), rdm_LI (ns := []) updM_same, (sm_LI fun i hi => by have := hmem i hi; omega).shaped (by decide), (sm_LI (ns := []) fun i hi => by cases hi).shaped (by decide), ?_⟩
  walk_at "br"
  · intro hc
    rw [eqv_LI] at hc
    have hne : left ≠ [] := by simpa [sg] using hc
    have hpos : 0 < left.length := List.length_pos_iff.mpr hne
    walk_at "go"
    refine ⟨⟨_, by rw [updM_ne hbp]; exact eb⟩, ?_⟩
    walk_at "go"
    refine ⟨_, by rw [updM_ne hap]; exact ea, ?_⟩
    walk_at "go"
    refine ⟨hB1.new hp1, by rw [List.length_map]; omega, by rw [List.length_map]; omega, fun k M3 k0 k1 hB3 hE3 => ?_⟩
    rw [List.length_map] at k1
    obtain ⟨x, hx⟩ : ∃ x, left[k.toNat]? = some x := ⟨left[k.toNat]'(by omega), List.getElem?_eq_getElem (by omega)⟩
    have ea3 : M3 a = some (.lst (left.map D.int)) := hE3 a _ (Ne.symm hla) (by rw [updM_ne hap]; exact ea)
    have eb3 : M3 b = some (.lst (found.map D.int)) := hE3 b _ (Ne.symm hlb) (by rw [updM_ne hbp]; exact eb)
    walk_at "go"
    refine ⟨_, ea3, ixQ_of (d := .int x) (by rw [atI_nn k0 (by rw [List.length_map]; exact k1), List.getElem?_map, hx]; rfl) ?_⟩
    walk_at "go"
    refine ⟨_, eb3, by rw [List.length_map]; have : sizeLine = 16777216 := rfl; omega, ?_⟩
    walk_at "go"
    refine ⟨⟨_, by rw [updM_ne hab]; exact ea3⟩, ?_⟩
    walk_at "go"
    refine ⟨_, updM_same, ixQ_of atI_last ?_⟩
    walk_at "go"
    have hnd : left.Nodup := (List.nodup_append.mp (hp.nodup_iff.mpr rg_nodup)).1
    refine ⟨left, k.toNat, by rw [updM_ne hab]; exact ea3, hx, nodup_first hnd hx, ?_⟩
    walk_at "go"
    refine ⟨⟨left.eraseIdx k.toNat, found ++ [x], rfl, updM_same, ?_, (hB3.upd hlb).upd hla, ?_, (mix_step hx).trans hp⟩, ?_⟩
    · rw [updM_ne (Ne.symm hab), updM_same, List.map_append]
      rfl
    · exact (((hE1.trans (Ext.new hp1)).trans hE3).updN hb').updN ha
    · show lenAt _ a < lenAt M1 a
      rw [lenAt_of updM_same, lenAt_of ea, List.length_map, List.length_map, List.length_eraseIdx_of_lt (by omega)]
      omega
  · intro hc
    rw [eqv_LI] at hc
    have hne : left = [] := by simpa [sg] using hc
    subst hne
    walk_at "go"
    exact q found _ b hp (hB1.new hp1) (hE1.trans (Ext.new hp1)) hb' (by rw [updM_ne hbp]; exact eb)


def sp_l_table : SpD := fun ds M Q _ => match ds with
  | [.ref l, .int n] => Bag M l ∧ 1 ≤ n ∧ n ≤ 200 ∧ ∀ t M', IsTab n.toNat t → Bag M' l → Ext l M M' → Q (dII t) M'
  | _ => False

theorem ok_l_table (T : Txt K mg a) : FnD P w K mg base CX0 3 a.f_l_table a.d_l_table ["_law_deck_here", "_law_many"] sp_l_table := by
  refine okD T.F_l_table sc_l_table (fun ds M Q E h => ?_) (fun cdv A outer s H E hr hgd ds M Q E' h => ?_)
  · unfold sp_l_table at h; split at h <;> first | rfl | exact h.elim
  refine ⟨_, (dss_cons (ds_asg (de_tup (da_cons (de_call (ok_l_mixed T) (hr.mono (by omega)) hgd (by rfl) T.G_l_mixed T.F_l_mixed.kp T.B_l_mixed (da_cons (dv 0) (da_cons (dv 1) da_nil))) (da_cons (de_call (ok_l_mixed T) (hr.mono (by omega)) hgd (by rfl) T.G_l_mixed T.F_l_mixed.kp T.B_l_mixed (da_cons (dv 0) (da_cons (dv 1) da_nil))) (da_cons (de_call (ok_l_mixed T) (hr.mono (by omega)) hgd (by rfl) T.G_l_mixed T.F_l_mixed.kp T.B_l_mixed (da_cons (dv 0) (da_cons (dv 1) da_nil))) da_nil)))) (dg_tup rfl (dgs_cons (dg_name (i := 2) sc_l_table.nd rfl (Or.inr rfl)) (dgs_cons (dg_name (i := 3) sc_l_table.nd rfl (Or.inr rfl)) (dgs_cons (dg_name (i := 4) sc_l_table.nd rfl (Or.inr rfl)) dgs_nil)))))
      (dss_cons (ds_setLc (i := 5) rfl sc_l_table.nd rfl rfl (sw_true rfl rfl rfl (by decide +kernel)) (own := [("_law_one", 7)]) (own1 _ 7) (di_rg1 (by rfl) T.z_range (da_cons (dv 1) da_nil)) (blkOk_by (by kernel_rfl)) (fun _ _ _ _ _ => (pg_name (i := 7) sc_l_table.nd rfl (Or.inr rfl))) (fun _ _ _ _ _ => pts_y) (fun _ _ _ _ _ => (de_lc rfl sc_l_table.nd (own := [("_law_other", 8)]) (own1 _ 8) (di_rg1 (by rfl) T.z_range (da_cons (dv 1) da_nil)) (blkOk_by (by kernel_rfl)) (fun _ _ _ _ _ => (pg_name (i := 8) sc_l_table.nd rfl (Or.inl rfl))) (fun _ _ _ _ _ => pts_y) (fun _ _ _ _ _ => (de_ix (dv 4) (de_bin br_mod (de_ct ca_int (by rfl) T.z_int (by decide +kernel) (da_cons (de_bin br_add (de_ix (dv 2) (dv 7)) (de_ix (dv 3) (dv 8))) da_nil)) (dv 1)))))))
      (dss_cons (ds_for PassesOwn.never rfl (di_rg1 (by rfl) T.z_range (da_cons (de_if (dt_cp cr_gt (dv 1) de_int) (de_call (ok_l_take T) (hr.mono (by omega)) hgd (by rfl) T.G_l_take T.F_l_take.kp T.B_l_take (da_cons (dv 0) (da_cons de_int da_nil))) de_int) da_nil)) (dg_name (i := 6) sc_l_table.nd rfl (Or.inl rfl))
      (dss_cons (ds_par (i := 7) (j := 8) rfl sc_l_table.nd rfl rfl (by decide) rfl rfl (da_cons (de_call (ok_l_take T) (hr.mono (by omega)) hgd (by rfl) T.G_l_take T.F_l_take.kp T.B_l_take (da_cons (dv 0) (da_cons (dv 1) da_nil))) (da_cons (de_call (ok_l_take T) (hr.mono (by omega)) hgd (by rfl) T.G_l_take T.F_l_take.kp T.B_l_take (da_cons (dv 0) (da_cons (dv 1) da_nil))) da_nil)) (by rfl))
      (dss_cons (ds_par (i := 9) (j := 10) rfl sc_l_table.nd rfl rfl (by decide) rfl rfl (da_cons (de_call (ok_l_take T) (hr.mono (by omega)) hgd (by rfl) T.G_l_take T.F_l_take.kp T.B_l_take (da_cons (dv 0) (da_cons (dv 1) da_nil))) (da_cons (de_call (ok_l_take T) (hr.mono (by omega)) hgd (by rfl) T.G_l_take T.F_l_take.kp T.B_l_take (da_cons (dv 0) (da_cons (dv 1) da_nil))) da_nil)) (by rfl))
      (dss_cons (ds_set (i := 11) sc_l_table.nd rfl (Or.inl rfl) (de_lst (da_cons (de_ix (de_ix (dv 5) (dv 7)) (dv 9)) (da_cons (de_ix (de_ix (dv 5) (dv 7)) (dv 10)) da_nil))))
      (dss_one (ds_if (dt_w (dw_and (dt_cp (cr_ne hr.units) (dv 7) (dv 8)) (dw_and (dt_cp (cr_ne hr.units) (dv 9) (dv 10)) (dw_and1 (dt_cp (cr_eq hr.units) (de_lst (da_cons (de_ix (de_ix (dv 5) (dv 8)) (dv 10)) (da_cons (de_ix (de_ix (dv 5) (dv 8)) (dv 9)) da_nil))) (dv 11))))))
      (dss_cons (ds_asg (de_tup (da_cons (de_ix (dv 11) de_int) (da_cons (de_ix (dv 11) de_int) da_nil))) (dg_tup rfl (dgs_cons (dg_sub (de_ix (dv 5) (dv 7)) (dv 9) st_list) (dgs_cons (dg_sub (de_ix (dv 5) (dv 7)) (dv 10) st_list) dgs_nil))))
      (dss_one (ds_asg (de_tup (da_cons (de_ix (dv 11) de_int) (da_cons (de_ix (dv 11) de_int) da_nil))) (dg_tup rfl (dgs_cons (dg_sub (de_ix (dv 5) (dv 8)) (dv 9) st_list) (dgs_cons (dg_sub (de_ix (dv 5) (dv 8)) (dv 10) st_list) dgs_nil))))))
      dss_nil))))))
      (dss_one (ds_ret (de_ct ca_tuple (by rfl) T.z_tuple PyProof.Rows.boot_tuple (da_cons (de_lc rfl sc_l_table.nd (own := [("_law_row", 12)]) (own1 _ 12) (di_seq (dv 5)) (blkOk_by (by kernel_rfl)) (fun _ _ _ _ _ => (pg_name (i := 12) sc_l_table.nd rfl (Or.inl rfl))) (fun _ _ _ _ _ => pts_y) (fun _ _ _ _ _ => (de_ct ca_tuple (by rfl) T.z_tuple PyProof.Rows.boot_tuple (da_cons (dv 12) da_nil)))) da_nil))))))), ?_⟩
  unfold sp_l_table at h
  split at h
  rotate_left
  · exact h.elim
  rename_i l n
  obtain ⟨hB, n0, n1, q⟩ := h
  have hl0 : M l ≠ none := fun z => by
    obtain ⟨_, e⟩ := hB.some
    rw [z] at e; cases e
  have hz : sizeLine = 16777216 := rfl
  have hnn : ((n.toNat : Nat) : Int) = n := by omega
  walk_at "go"
  refine ⟨hB, by omega, by omega, fun p1 M1 r1 hp1 hB1 hE1 hn1 e1 => ?_⟩
  walk_at "go"
  refine ⟨hB1, by omega, by omega, fun p2 M2 r2 hp2 hB2 hE2 hn2 e2 => ?_⟩
  walk_at "go"
  refine ⟨hB2, by omega, by omega, fun p3 M3 r3 hp3 hB3 hE3 hn3 e3 => ?_⟩
  walk_at "go"
  refine ⟨Nat.le_of_ble_eq_true rfl, ?_⟩
  walk_at "go"
  refine ⟨rfl, ?_⟩
  have l1 : p1.length = n.toNat := by rw [hp1.length_eq, rg_length]
  have l2 : p2.length = n.toNat := by rw [hp2.length_eq, rg_length]
  have l3 : p3.length = n.toNat := by rw [hp3.length_eq, rg_length]
  have lr1 : r1 ≠ l := fun e => hl0 (e ▸ hn1)
  have lr2 : r2 ≠ l := fun e => by
    obtain ⟨_, z⟩ := hB1.some
    rw [← e, hn2] at z; cases z
  have E13 := hE2.trans hE3
  have f1 : M3 r1 = some (.lst (p1.map D.int)) := E13 r1 _ lr1 e1
  have f2 : M3 r2 = some (.lst (p2.map D.int)) := hE3 r2 _ lr2 e2
  have EX3 : Ext l M M3 := hE1.trans E13
  walk_at "go"
  refine ⟨by omega, by omega, ?_⟩
  walk_at "go"
  refine ⟨fun k acc M4 => ∃ rs : List Addr, acc = rs.map D.ref ∧ Grid M M4 rs ((p1.take k).map fun a => p2.map fun b => at0 p3 ((a + b) % n)) ∧ Bag M4 l ∧ Ext l M M4 ∧ M4 r1 = some (.lst (p1.map D.int)) ∧ M4 r2 = some (.lst (p2.map D.int)) ∧ M4 r3 = some (.lst (p3.map D.int)),
    ⟨[], rfl, by rw [List.take_zero]; exact .nil, hB3, EX3, f1, f2, e3⟩, fun _ _ _ _ _ => trivial, ?_, ?_⟩
  · rintro k acc x M4 hk rfl ⟨rs, rfl, g, hB4, hE4, g1, g2, g3⟩
    have hk1 : k < p1.length := by omega
    walk_at "go"
    refine ⟨by omega, by omega, ?_⟩
    walk_at "go"
    refine ⟨fun j acc M5 => M5 = M4 ∧ acc = ((p2.take j).map fun b => at0 p3 ((p1[k] + b) % n)).map D.int, ⟨rfl, rfl⟩, fun _ _ _ _ _ => trivial, ?_, ?_⟩
    · rintro j acc x M5 hj rfl ⟨rfl, rfl⟩
      have hj2 : j < p2.length := by omega
      walk_at "go"
      refine ⟨_, g1, ixQ_of (d := .int p1[k]) (by rw [atI_nn (by omega) (by rw [List.length_map]; omega), List.getElem?_map]; simp [hk1]) ?_⟩
      walk_at "go"
      refine ⟨_, g2, ixQ_of (d := .int p2[j]) (by rw [atI_nn (by omega) (by rw [List.length_map]; omega), List.getElem?_map]; simp [hj2]) ?_⟩
      walk_at "go"
      refine ⟨by dsimp only; omega, ?_⟩
      walk_at "go"
      have b0 : 0 ≤ (p1[k] + p2[j]) % n := Int.emod_nonneg _ (by omega)
      have b1 : (p1[k] + p2[j]) % n < n := Int.emod_lt_of_pos _ (by omega)
      refine ⟨_, g3, ixQ_of (d := .int (at0 p3 ((p1[k] + p2[j]) % n))) (by rw [atI_nn b0 (by rw [List.length_map]; omega), List.getElem?_map, at0_of b0 (by omega)]; rfl) ?_⟩
      refine ⟨by simp; omega, rfl, ?_⟩
      rw [List.take_succ_eq_append_getElem hj2, List.map_append, List.map_append]
      rfl
    · rintro acc M5 ⟨rfl, rfl⟩ a ha
      rw [show n.toNat = p2.length from l2.symm, List.take_length]
      refine ⟨by simp; have := g.len; simp at this; omega, rs ++ [a], by simp, ?_, hB4.new ha, hE4.trans (Ext.new ha), ?_, ?_, ?_⟩
      · rw [List.take_succ_eq_append_getElem hk1, List.map_append]
        refine g.snoc ha ?_
        cases hM : M a with
        | none => rfl
        | some o =>
          have := hE4 a o (Ne.symm (hB4.ne ha)) hM
          rw [ha] at this; cases this
      · rw [updM_ne (ne_none g1 ha)]; exact g1
      · rw [updM_ne (ne_none g2 ha)]; exact g2
      · rw [updM_ne (ne_none g3 ha)]; exact g3
  rintro acc M4 ⟨rs, rfl, g, hB4, hE4, _, _, _⟩ f hf
  rw [show n.toNat = p1.length from l1.symm, List.take_length] at g
  have hT : IsTab n.toNat (p1.map fun a => p2.map fun b => at0 p3 ((a + b) % n)) := by
    have := mkTab_ok hp1 hp2 hp3
    unfold mkTab at this
    rw [hnn] at this
    exact this
  have hfr : ∀ a ∈ rs, f ≠ a := fun a ha e => by
    obtain ⟨_, z⟩ := g.has ha
    rw [← e, hf] at z; cases z
  have hfl : f ≠ l := Ne.symm (hB4.ne hf)
  have hM0f : M f = none := by
    cases hM : M f with
    | none => rfl
    | some o =>
      have := hE4 f o hfl hM
      rw [hf] at this; cases this
  walk_at "go"
  refine br_join (R := fun d M' => ∃ k : Int, d = .int k ∧ 0 ≤ k ∧ k ≤ 5 ∧ Bag M' l ∧ Ext l (updM M4 f (.lst (rs.map D.ref))) M') (fun Q' hQ' _ => ?_) (fun Q' hQ' _ => hQ' _ _ ⟨0, rfl, by decide, by decide, hB4.new hf, .refl⟩) ?_
  · walk_at "go"
    exact ⟨hB4.new hf, by decide, by decide, fun k M' k0 k1 hB' hE' => hQ' _ _ ⟨k, rfl, k0, by omega, hB', hE'⟩⟩
  rintro d M5 ⟨m, rfl, m0, m1, hB5, hE5⟩
  walk_at "go"
  refine ⟨by omega, by omega, ?_⟩
  walk_at "go"
  refine ⟨fun _ ρ M' => ∃ t c6 c7 c8 c9 c10 c11 c12, ρ = [some (.ref l), some (.int n), some (.ref r1), some (.ref r2), some (.ref r3), some (.ref f), c6, c7, c8, c9, c10, c11, c12] ∧ IsTab n.toNat t ∧ Grid M M' rs t ∧ M' f = some (.lst (rs.map D.ref)) ∧ Bag M' l ∧ Ext l M M',
    ⟨_, none, none, none, none, none, none, none, rfl, hT, (g.add hf).ext hE5 hl0, hE5 f _ hfl updM_same, hB5, (hE4.trans (Ext.new hf)).trans hE5⟩, fun _ _ _ _ _ => trivial, ?_, ?_⟩
  · rintro i x ρ M6 hi rfl ⟨t, c6, c7, c8, c9, c10, c11, c12, rfl, hT6, g6, hf6, hB6, hE6⟩
    walk_at "go"
    refine ⟨hB6, by omega, by omega, fun k1 M7 k10 k11 hB7 hE7 => ?_⟩
    walk_at "go"
    refine ⟨hB7, by omega, by omega, fun k2 M8 k20 k21 hB8 hE8 => ?_⟩
    walk_at "go"
    refine ⟨hB8, by omega, by omega, fun k3 M9 k30 k31 hB9 hE9 => ?_⟩
    walk_at "go"
    refine ⟨hB9, by omega, by omega, fun k4 M10 k40 k41 hB10 hE10 => ?_⟩
    have EA : Ext l M6 M10 := ((hE7.trans hE8).trans hE9).trans hE10
    have g10 := g6.ext EA hl0
    have hf10 : M10 f = some (.lst (rs.map D.ref)) := EA f _ hfl hf6
    have hE10' := hE6.trans EA
    have tl := hT6.len
    obtain ⟨a1, w1, ha1, hw1, ea1⟩ := g10.get (i := k1.toNat) (by omega)
    obtain ⟨a2, w2, ha2, hw2, ea2⟩ := g10.get (i := k2.toNat) (by omega)
    have lw1 := hT6.rlen (List.mem_of_getElem? hw1)
    have lw2 := hT6.rlen (List.mem_of_getElem? hw2)
    have x1 := at0_of (l := w1) k30 (by omega)
    have x2 := at0_of (l := w1) k40 (by omega)
    have y1 := at0_of (l := w2) k30 (by omega)
    have y2 := at0_of (l := w2) k40 (by omega)
    have lrs : rs.length = n.toNat := by rw [g10.len, tl]
    have ix1 : atI (rs.map D.ref) k1 = some (.ref a1) := by rw [atI_nn k10 (by rw [List.length_map]; omega), List.getElem?_map, ha1]; rfl
    have ix2 : atI (rs.map D.ref) k2 = some (.ref a2) := by rw [atI_nn k20 (by rw [List.length_map]; omega), List.getElem?_map, ha2]; rfl
    have iw : ∀ (w : List Int) (k : Int), 0 ≤ k → k < w.length → atI (w.map D.int) k = some (.int (at0 w k)) := fun w k h0 h1 => by
      rw [atI_nn h0 (by rw [List.length_map]; exact h1), List.getElem?_map, at0_of h0 h1]; rfl
    walk_at "go"
    refine ⟨_, hf10, ixQ_of ix1 ?_⟩
    walk_at "go"
    refine ⟨_, ea1, ixQ_of (iw w1 k3 k30 (by omega)) ?_⟩
    walk_at "go"
    refine ⟨_, hf10, ixQ_of ix1 ?_⟩
    walk_at "go"
    refine ⟨_, ea1, ixQ_of (iw w1 k4 k40 (by omega)) ?_⟩
    walk_at "go"
    refine ⟨Nat.le_of_ble_eq_true rfl, fun p hp => ?_⟩
    have gp : Grid M (updM M10 p (.lst [.int (at0 w1 k3), .int (at0 w1 k4)])) rs t := g10.add hp
    have hfp : f ≠ p := ne_none hf10 hp
    have hf11 : updM M10 p (.lst [.int (at0 w1 k3), .int (at0 w1 k4)]) f = some (.lst (rs.map D.ref)) := by rw [updM_ne hfp]; exact hf10
    walk_at "br"
    rotate_left
    · intro _
      exact ⟨t, _, _, _, _, _, _, _, rfl, hT6, gp, hf11, hB10.new hp, hE10'.trans (Ext.new hp)⟩
    intro hc1
    walk_at "br"
    rotate_left
    · intro _
      exact ⟨t, _, _, _, _, _, _, _, rfl, hT6, gp, hf11, hB10.new hp, hE10'.trans (Ext.new hp)⟩
    intro hc2
    walk_at "go"
    refine ⟨_, hf11, ixQ_of ix2 ?_⟩
    walk_at "go"
    refine ⟨_, by rw [updM_ne (ne_none ea2 hp)]; exact ea2, ixQ_of (iw w2 k4 k40 (by omega)) ?_⟩
    walk_at "go"
    refine ⟨_, hf11, ixQ_of ix2 ?_⟩
    walk_at "go"
    refine ⟨_, by rw [updM_ne (ne_none ea2 hp)]; exact ea2, ixQ_of (iw w2 k3 k30 (by omega)) ?_⟩
    walk_at "go"
    refine ⟨Nat.le_of_ble_eq_true rfl, fun p' hp' => ?_⟩
    have hpp' : p ≠ p' := ne_none updM_same hp'
    have hfp' : f ≠ p' := ne_none hf11 hp'
    have gq := gp.add (o := .lst [.int (at0 w2 k4), .int (at0 w2 k3)]) hp'
    have hf12 : updM (updM M10 p (.lst [.int (at0 w1 k3), .int (at0 w1 k4)])) p' (.lst [.int (at0 w2 k4), .int (at0 w2 k3)]) f = some (.lst (rs.map D.ref)) := by rw [updM_ne hfp']; exact hf11
    have hB12 := (hB10.new (o := .lst [.int (at0 w1 k3), .int (at0 w1 k4)]) hp).new (o := .lst [.int (at0 w2 k4), .int (at0 w2 k3)]) hp'
    have hE12 := (hE10'.trans (Ext.new (o := .lst [.int (at0 w1 k3), .int (at0 w1 k4)]) hp)).trans (Ext.new (o := .lst [.int (at0 w2 k4), .int (at0 w2 k3)]) hp')
    have bd : ∀ w : List Int, w ∈ t → ∀ k : Int, 0 ≤ k → k < n → (at0 w k).natAbs < 4096 := fun w hw k h0 h1 => by
      have lw := hT6.rlen hw
      have := hT6.mem hw (List.mem_of_getElem? (at0_of (l := w) h0 (by omega)))
      omega
    have mw1 := List.mem_of_getElem? hw1
    have mw2 := List.mem_of_getElem? hw2
    walk_at "go"
    refine ⟨pLI [at0 w2 k4, at0 w2 k3], pLI [at0 w1 k3, at0 w1 k4], rdm_LI (ns := [at0 w2 k4, at0 w2 k3]) updM_same, rdm_LI (ns := [at0 w1 k3, at0 w1 k4]) (by rw [updM_ne hpp']; exact updM_same), (sm_LI fun i hi => ?_).shaped (by decide), (sm_LI fun i hi => ?_).shaped (by decide), ?_⟩
    · rcases List.mem_cons.mp hi with rfl | hi
      · exact bd w2 mw2 k4 k40 k41
      · obtain rfl : i = at0 w2 k3 := by simpa using hi
        exact bd w2 mw2 k3 k30 k31
    · rcases List.mem_cons.mp hi with rfl | hi
      · exact bd w1 mw1 k3 k30 k31
      · obtain rfl : i = at0 w1 k4 := by simpa using hi
        exact bd w1 mw1 k4 k40 k41
    walk_at "br"
    rotate_left
    · intro _
      exact ⟨t, _, _, _, _, _, _, _, rfl, hT6, gq, hf12, hB12, hE12⟩
    intro hc3
    rw [eqv_LI] at hc3
    obtain ⟨z1, z2⟩ : at0 w2 k4 = at0 w1 k3 ∧ at0 w2 k3 = at0 w1 k4 := by simpa [sg] using hc3
    have c1 : k1.toNat ≠ k2.toNat := by
      have : k1 ≠ k2 := by simpa [sg] using hc1
      omega
    have c2 : k3.toNat ≠ k4.toNat := by
      have : k3 ≠ k4 := by simpa [sg] using hc2
      omega
    have hT' := swapT_ok hT6 c1 c2 hw1 hw2 x1 x2 (by rw [y1, z2]) (by rw [y2, z1])
    have ra1 := List.mem_of_getElem? ha1
    have ra2 := List.mem_of_getElem? ha2
    have a12 : a2 ≠ a1 := fun e => by
      subst e
      obtain ⟨q1, e1⟩ := List.getElem?_eq_some_iff.mp ha1
      obtain ⟨q2, e2⟩ := List.getElem?_eq_some_iff.mp ha2
      have hp := List.pairwise_iff_getElem.mp g10.nd
      rcases Nat.lt_or_gt_of_ne c1 with z | z
      · exact hp _ _ q1 q2 z (by rw [e1, e2])
      · exact hp _ _ q2 q1 z (by rw [e1, e2])
    have epair : updM (updM M10 p (.lst [.int (at0 w1 k3), .int (at0 w1 k4)])) p' (.lst [.int (at0 w2 k4), .int (at0 w2 k3)]) p = some (.lst [.int (at0 w1 k3), .int (at0 w1 k4)]) := by rw [updM_ne hpp']; exact updM_same
    have pa1 : p ≠ a1 := fun e => by
      obtain ⟨_, z⟩ := g10.has ra1
      rw [← e, hp] at z; cases z
    have ob1 := gq.at_ _ _ _ ha1 hw1
    have ob2 := gq.at_ _ _ _ ha2 hw2
    walk_at "go"
    refine ⟨_, epair, ixQ_of (d := .int (at0 w1 k4)) rfl ?_⟩
    walk_at "go"
    refine ⟨_, epair, ixQ_of (d := .int (at0 w1 k3)) rfl ?_⟩
    walk_at "go"
    refine ⟨Nat.le_of_ble_eq_true rfl, ?_⟩
    walk_at "go"
    refine ⟨rfl, ?_⟩
    walk_at "go"
    refine ⟨_, hf12, ixQ_of ix1 ?_⟩
    walk_at "go"
    refine ⟨_, k3.toNat, ob1, by rw [List.length_map]; exact ixN_nn k30 (by omega), ?_⟩
    walk_at "go"
    refine ⟨_, by rw [updM_ne (hfr a1 ra1)]; exact hf12, ixQ_of ix1 ?_⟩
    walk_at "go"
    refine ⟨_, k4.toNat, updM_same, by rw [List.length_set, List.length_map]; exact ixN_nn k40 (by omega), ?_⟩
    rw [updM_upd, map_set_int, map_set_int]
    walk_at "go"
    have epair2 : ∀ o, updM (updM (updM M10 p (.lst [.int (at0 w1 k3), .int (at0 w1 k4)])) p' (.lst [.int (at0 w2 k4), .int (at0 w2 k3)])) a1 o p = some (.lst [.int (at0 w1 k3), .int (at0 w1 k4)]) := fun o => by rw [updM_ne pa1]; exact epair
    have hf13 : ∀ o, updM (updM (updM M10 p (.lst [.int (at0 w1 k3), .int (at0 w1 k4)])) p' (.lst [.int (at0 w2 k4), .int (at0 w2 k3)])) a1 o f = some (.lst (rs.map D.ref)) := fun o => by rw [updM_ne (hfr a1 ra1)]; exact hf12
    refine ⟨_, epair2 _, ixQ_of (d := .int (at0 w1 k3)) rfl ?_⟩
    walk_at "go"
    refine ⟨_, epair2 _, ixQ_of (d := .int (at0 w1 k4)) rfl ?_⟩
    walk_at "go"
    refine ⟨Nat.le_of_ble_eq_true rfl, ?_⟩
    walk_at "go"
    refine ⟨rfl, ?_⟩
    walk_at "go"
    refine ⟨_, hf13 _, ixQ_of ix2 ?_⟩
    walk_at "go"
    refine ⟨_, k3.toNat, by rw [updM_ne a12]; exact ob2, by rw [List.length_map]; exact ixN_nn k30 (by omega), ?_⟩
    walk_at "go"
    refine ⟨_, by rw [updM_ne (hfr a2 ra2)]; exact hf13 _, ixQ_of ix2 ?_⟩
    walk_at "go"
    refine ⟨_, k4.toNat, updM_same, by rw [List.length_set, List.length_map]; exact ixN_nn k40 (by omega), ?_⟩
    rw [updM_upd, map_set_int, map_set_int]
    exact ⟨_, _, _, _, _, _, _, _, rfl, hT', (gq.set ha1).set ha2, by rw [updM_ne (hfr a2 ra2)]; exact hf13 _, (hB12.upd (g10.ne hl0 ra1)).upd (g10.ne hl0 ra2), (hE12.updN (g10.new a1 ra1)).updN (g10.new a2 ra2)⟩
  · rintro ρ M6 ⟨t, c6, c7, c8, c9, c10, c11, c12, rfl, hT6, g6, hf6, hB6, hE6⟩
    walk_at "go"
    refine ⟨_, hf6, ?_⟩
    have lrs : rs.length = t.length := g6.len
    have tl := hT6.len
    refine ⟨fun k acc M' => M' = M6 ∧ acc = (t.take k).map dI, ⟨rfl, by rw [List.take_zero]; rfl⟩, fun k acc M' _ z => z.1 ▸ hf6, ?_, ?_⟩
    · rintro k acc x M' hk hx ⟨rfl, rfl⟩
      rw [List.length_map] at hk
      have hk' : k < t.length := by omega
      obtain ⟨a, w, ha, hw, ea⟩ := g6.get hk'
      obtain rfl : x = .ref a := by
        unfold yL at hx
        rw [List.getElem?_map, ha] at hx
        exact (Option.some.inj hx).symm
      walk_at "go"
      refine ⟨_, ea, ?_⟩
      walk_at "go"
      refine ⟨by simp; omega, rfl, ?_⟩
      rw [List.take_succ_eq_append_getElem hk', List.map_append]
      have : t[k] = w := by
        obtain ⟨_, e⟩ := List.getElem?_eq_some_iff.mp hw
        exact e
      rw [this]
      rfl
    · rintro acc M' ⟨rfl, rfl⟩ r hr
      walk_at "go"
      refine ⟨_, updM_same, ?_⟩
      rw [List.length_map, lrs, List.take_length]
      exact q t _ hT6 (hB6.new hr) (hE6.trans (Ext.new hr))


def sp_l_is_int : SpD := fun ds M Q _ => match ds with
  | [.int x, .int lo, .int hi] => Q (.bl (decide (lo ≤ x) && decide (x ≤ hi))) M
  | _ => False

theorem ok_l_is_int (T : Txt K mg a) : FnD P w K mg base CX0 1 a.f_l_is_int a.d_l_is_int ["_law_value", "_law_low", "_law_high"] sp_l_is_int := by
  refine okD T.F_l_is_int sc_l_is_int (fun ds M Q E h => ?_) (fun cdv A outer s H E hr hgd ds M Q E' h => ?_)
  · unfold sp_l_is_int at h; split at h <;> first | rfl | exact h.elim
  refine ⟨_, (dss_one (ds_ret (de_and (de_isi .int ki_int (by rfl) T.z_isinstance (by decide +kernel) (dv 0) (by rfl) T.z_int (by decide +kernel)) (de_and (de_not (de_isi .bool ki_bool (by rfl) T.z_isinstance (by decide +kernel) (dv 0) (by rfl) T.z_bool (by decide +kernel))) (de_one (de_chain cr_le cr_le (dv 1) (dv 0) (dv 2))))))), ?_⟩
  unfold sp_l_is_int at h
  split at h
  rotate_left
  · exact h.elim
  walk_at "br"
  · intro e
    rw [e] at h
    exact h
  · intro e
    rw [e] at h
    exact h


def sp_l_is_table : SpD := fun ds M Q _ => match ds with
  | [d, .int m] => ∃ (n : Nat) (t : List (List Int)), d = dII t ∧ m = n ∧ t.length = n ∧ (∀ r ∈ t, r.length = n ∧ ∀ x ∈ r, 0 ≤ x ∧ x < n) ∧ 1 ≤ n ∧ n ≤ 200 ∧ ∀ b M', (b = true ↔ IsTab n t) → Keep M M' → Q (.bl b) M'
  | _ => False

theorem ok_l_is_table (T : Txt K mg a) : FnD P w K mg base CX0 2 a.f_l_is_table a.d_l_is_table ["_law_table_here", "_law_many"] sp_l_is_table := by
  refine okD T.F_l_is_table sc_l_is_table (fun ds M Q E h => ?_) (fun cdv A outer s H E hr hgd ds M Q E' h => ?_)
  · unfold sp_l_is_table at h; split at h <;> first | rfl | exact h.elim
  refine ⟨_, (dss_cons (ds_if (dt_w (dw_or (dt_not (dt_val (de_isi .tuple ki_tuple (by rfl) T.z_isinstance (by decide +kernel) (dv 0) (by rfl) T.z_tuple (by decide +kernel)))) (dw_or1 (dt_cp (cr_ne hr.units) (de_cb (ca_len) (by rfl) T.z_len PySem.boot_len (da_cons (dv 0) da_nil)) (dv 1)))))
      (dss_one (ds_ret de_bl))
      dss_nil)
      (dss_cons (ds_for PassesOwn.never rfl (di_seq (dv 0)) (dg_name (i := 2) sc_l_is_table.nd rfl (Or.inl rfl))
      (dss_cons (ds_if (dt_w (dw_or (dt_not (dt_val (de_isi .tuple ki_tuple (by rfl) T.z_isinstance (by decide +kernel) (dv 2) (by rfl) T.z_tuple (by decide +kernel)))) (dw_or1 (dt_cp (cr_ne hr.units) (de_lc rfl sc_l_is_table.nd (own := [("_law_thing", 3)]) (own1 _ 3) (di_seq (dv 2)) (blkOk_by (by kernel_rfl)) (fun _ _ _ _ _ => (pg_name (i := 3) sc_l_is_table.nd rfl (Or.inl rfl))) (fun _ _ _ _ _ => (pts_1 (dt_not (dt_val (de_call (ok_l_is_int T) (hr.mono (by omega)) hgd (by rfl) T.G_l_is_int T.F_l_is_int.kp T.B_l_is_int (da_cons (dv 3) (da_cons de_int (da_cons (de_bin br_sub (dv 1) de_int) da_nil)))))))) (fun _ _ _ _ _ => de_int)) (de_lst da_nil)))))
      (dss_one (ds_ret de_bl))
      dss_nil)
      (dss_one (ds_if (dt_cp (cr_ne hr.units) (de_cb (ca_sorted) (by rfl) T.z_sorted (by decide +kernel) (da_cons (dv 2) da_nil)) (de_listRg rfl (by rfl) T.z_list (drg_1 (by rfl) T.z_range (dv 1))))
      (dss_one (ds_ret de_bl))
      dss_nil))))
      (dss_one (ds_ret (de_cp (cr_eq hr.units) (de_lc rfl sc_l_is_table.nd (own := [("_law_place", 4)]) (own1 _ 4) (di_rg1 (by rfl) T.z_range (da_cons (dv 1) da_nil)) (blkOk_by (by kernel_rfl)) (fun _ _ _ _ _ => (pg_name (i := 4) sc_l_is_table.nd rfl (Or.inr rfl))) (fun _ _ _ _ _ => (pts_1 (dt_cp (cr_ne hr.units) (de_cb (ca_sorted) (by rfl) T.z_sorted (by decide +kernel) (da_cons (de_lc rfl sc_l_is_table.nd (own := [("_law_row", 2)]) (own1 _ 2) (di_seq (dv 0)) (blkOk_by (by kernel_rfl)) (fun _ _ _ _ _ => (pg_name (i := 2) sc_l_is_table.nd rfl (Or.inl rfl))) (fun _ _ _ _ _ => pts_y) (fun _ _ _ _ _ => (de_ix (dv 2) (dv 4)))) da_nil)) (de_listRg rfl (by rfl) T.z_list (drg_1 (by rfl) T.z_range (dv 1)))))) (fun _ _ _ _ _ => de_int)) (de_lst da_nil)))))), ?_⟩
  unfold sp_l_is_table at h
  split at h
  rotate_left
  · exact h.elim
  obtain ⟨n, t, rfl, rfl, tl, hr, n0, n1, q⟩ := h
  have hz : sizeLine = 16777216 := rfl
  walk_at "go"
  refine br_f (by simp [sg, tl]) ?_
  walk_at "go"
  refine .seqL (fun k ρ M' => Keep M M' ∧ (∀ i (hi : i < t.length), i < k → t[i].Perm (rg n)) ∧ ∃ c2 c3 c4, ρ = [some (dII t), some (.int n), c2, c3, c4]) ⟨.refl, fun i hi z => absurd z (by omega), _, _, _, rfl⟩ (fun _ _ _ _ _ => trivial) ?_ ?_
  · rintro k ρ M1 hk ⟨K1, hp, c2, c3, c4, rfl⟩
    obtain ⟨rl, rb⟩ := hr _ (List.getElem_mem hk)
    walk_at "go"
    refine .filtL (fun _ => false) (fun _ => .int 1) (fun M' => M' = M1) (by omega) rfl (fun _ _ => trivial) ?_ ?_
    · rintro x _ hx rfl Q' Q'' _ h2
      have hb := rb x hx
      walk_at "go"
      refine br_f ?_ (h2 rfl _ rfl)
      simp
      omega
    rintro _ p rfl hpn
    rw [List.filter_eq_nil_iff.mpr fun a _ => by simp]
    walk_at "st"
    intro p2 hp2
    walk_at "go"
    refine ⟨_, _, rdm_LI (ns := []) (by walk_at "mem"), rdm_LI (ns := []) updM_same, shaped_LI _, shaped_LI _, ?_⟩
    rw [eqv_LI]
    walk_at "go"
    refine ⟨_, rfl, fun ns' p3 hpm hpw hp3 => ?_⟩
    walk_at "go"
    refine ⟨.of_le (by decide) (by omega) (by decide) (by omega), fun p4 hp4 => ?_⟩
    walk_at "go"
    refine ⟨_, _, rdm_LI (ns := ns') (by walk_at "mem"), rdm_LI (ns := rg n) (by rw [updM_same, rgD_rg]; rfl), shaped_LI _, shaped_LI _, ?_⟩
    rw [eqv_LI]
    have K5 := (((K1.trans (Keep.new (o := .lst []) hpn)).trans (Keep.new (o := .lst []) hp2)).trans (Keep.new (o := .lst (ns'.map D.int)) hp3)).trans (Keep.new (o := .lst (rgD 0 n)) hp4)
    walk_at "br"
    · intro hc
      have hc : ns' ≠ rg n := by simpa [sg] using hc
      refine q false _ ⟨fun z => (by cases z), fun hT => absurd ?_ hc⟩ K5
      exact sorted_rg (hpm.trans (hT.row _ (List.getElem_mem hk))) hpw
    · intro hc
      have hc : ns' = rg n := by simpa [sg] using hc
      refine ⟨K5, fun i hi z => ?_, _, _, _, rfl⟩
      rcases Nat.lt_or_ge i k with z' | z'
      · exact hp i hi z'
      · obtain rfl : i = k := by omega
        rw [← hc]
        exact hpm.symm
  rintro ρ M1 ⟨K1, hp, c2, c3, c4, rfl⟩
  walk_at "st"
  refine ⟨by omega, by omega, ?_⟩
  refine .filtR (n := n) (fun i => !decide ((col t i.toNat).Perm (rg n))) (fun _ => .int 1) (fun M' => Keep M M') (by omega) K1 (fun _ _ => trivial) ?_ ?_
  · rintro i M2 i0 i1 K2 Q' Q'' h1 h2
    walk_at "go"
    refine .mapL (fun r => .int (at0 r i)) (fun M' => Keep M M') (by omega) K2 (fun _ _ => trivial) ?_ ?_
    · rintro r M3 hm K3 Q3 h3
      have := (hr r hm).1
      walk_at "go"
      rw [atI_ints i0 (by omega)]
      exact h3 _ K3
    rintro M3 p K3 hp3
    have ec : (t.map fun r => D.int (at0 r i)) = (col t i.toNat).map D.int := by
      unfold col at0
      rw [List.map_map]
      rfl
    rw [ec]
    walk_at "go"
    refine ⟨_, updM_same, fun ns' p3 hpm hpw hp4 => ?_⟩
    walk_at "go"
    refine ⟨.of_le (by decide) (by omega) (by decide) (by omega), fun p4 hp5 => ?_⟩
    walk_at "go"
    refine ⟨_, _, rdm_LI (ns := ns') (by walk_at "mem"), rdm_LI (ns := rg n) (by rw [updM_same, rgD_rg]; rfl), shaped_LI _, shaped_LI _, ?_⟩
    rw [eqv_LI]
    have K5 := ((K3.trans (Keep.new (o := .lst ((col t i.toNat).map D.int)) hp3)).trans (Keep.new (o := .lst (ns'.map D.int)) hp4)).trans (Keep.new (o := .lst (rgD 0 n)) hp5)
    walk_at "br"
    · intro hc
      have hc : ns' ≠ rg n := by simpa [sg] using hc
      refine h1 ?_ _ K5
      simp only [Bool.not_eq_true', decide_eq_false_iff_not]
      exact fun z => hc (sorted_rg (hpm.trans z) hpw)
    · intro hc
      have hc : ns' = rg n := by simpa [sg] using hc
      refine h2 ?_ _ K5
      simp only [Bool.not_eq_false', decide_eq_true_eq]
      rw [← hc]
      exact hpm.symm
  rintro M2 p K2 hp2
  walk_at "st"
  intro p3 hp3
  walk_at "go"
  obtain ⟨on, hon⟩ : ∃ on : List Int, on = ((rg n).filter fun i => !decide ((col t i.toNat).Perm (rg n))).map fun _ => (1 : Int) := ⟨_, rfl⟩
  have eo : (((rg n).filter fun i => !decide ((col t i.toNat).Perm (rg n))).map fun _ => D.int 1) = on.map D.int := by
    rw [hon, List.map_map]
    rfl
  refine ⟨_, _, rdm_LI (ns := on) (by rw [← eo]; walk_at "mem"), rdm_LI (ns := []) updM_same, shaped_LI _, shaped_LI _, ?_⟩
  rw [eqv_LI]
  refine q _ _ ?_ ((K2.trans (Keep.new hp2)).trans (Keep.new hp3))
  simp only [sg, decide_eq_true_eq]
  rw [hon, List.map_eq_nil_iff, List.filter_eq_nil_iff]
  refine ⟨fun z => ⟨tl, fun r hm => ?_, fun j hj => ?_⟩, fun z a ha => ?_⟩
  · obtain ⟨i, hi, rfl⟩ := List.getElem_of_mem hm
    exact hp i hi hi
  · have := z (j : Int) (rg_mem.mpr ⟨by omega, by omega⟩)
    simpa using this
  · have ha := rg_mem.mp ha
    have := z.col a.toNat (by omega)
    simpa using this


def sp_l_ways : SpD := fun ds M Q _ => match ds with
  | [] => ∀ M' p, Keep M M' → M p = none → M' p = some (.lst (ways.map dI)) → Q (.ref p) M'
  | _ => False

theorem ok_l_ways (T : Txt K mg a) : FnD P w K mg base CX0 1 a.f_l_ways a.d_l_ways [] sp_l_ways := by
  refine okD T.F_l_ways sc_l_ways (fun ds M Q E h => ?_) (fun cdv A outer s H E hr hgd ds M Q E' h => ?_)
  · unfold sp_l_ways at h; split at h <;> first | rfl | exact h.elim
  refine ⟨_, (dss_one (ds_ret (de_lst (da_cons (de_tup (da_cons de_int (da_cons de_int (da_cons de_int da_nil)))) (da_cons (de_tup (da_cons de_int (da_cons de_int (da_cons de_int da_nil)))) (da_cons (de_tup (da_cons de_int (da_cons de_int (da_cons de_int da_nil)))) (da_cons (de_tup (da_cons de_int (da_cons de_int (da_cons de_int da_nil)))) (da_cons (de_tup (da_cons de_int (da_cons de_int (da_cons de_int da_nil)))) (da_cons (de_tup (da_cons de_int (da_cons de_int (da_cons de_int da_nil)))) da_nil))))))))), ?_⟩
  unfold sp_l_ways at h
  split at h
  rotate_left
  · exact h.elim
  walk_at "st"
  exact fun p hp => h _ p (Keep.new hp) hp updM_same


def sp_l_turned : SpD := fun ds M Q _ => match ds with
  | [d, dw] => ∃ (n : Nat) (t : List (List Int)) (w : List Int) (T : List (List Int)), d = dII t ∧ dw = dI w ∧ IsWay w ∧ IsTab n t ∧ IsTab n T ∧ turnsTo n t T w ∧ 1 ≤ n ∧ n ≤ 200 ∧ ∀ M', Keep M M' → Q (dII T) M'
  | _ => False

theorem ok_l_turned (T : Txt K mg a) : FnD P w K mg base CX0 1 a.f_l_turned a.d_l_turned ["_law_table_here", "_law_way"] sp_l_turned := by
  refine okD T.F_l_turned sc_l_turned (fun ds M Q E h => ?_) (fun cdv A outer s H E hr hgd ds M Q E' h => ?_)
  · unfold sp_l_turned at h; split at h <;> first | rfl | exact h.elim
  refine ⟨_, (dss_cons (ds_set (i := 2) sc_l_turned.nd rfl (Or.inr rfl) (de_cb (ca_len) (by rfl) T.z_len PySem.boot_len (da_cons (dv 0) da_nil)))
      (dss_cons (ds_setLc (i := 3) rfl sc_l_turned.nd rfl rfl (sw_true rfl rfl rfl (by decide +kernel)) (own := [("_law_row", 7)]) (own1 _ 7) (di_seq (dv 0)) (blkOk_by (by kernel_rfl)) (fun _ _ _ _ _ => (pg_name (i := 7) sc_l_turned.nd rfl (Or.inl rfl))) (fun _ _ _ _ _ => pts_y) (fun _ _ _ _ _ => (de_bin br_rep (de_lst (da_cons de_non da_nil)) (dv 2))))
      (dss_cons (ds_for PassesOwn.never rfl (di_rg1 (by rfl) T.z_range (da_cons (dv 2) da_nil)) (dg_name (i := 4) sc_l_turned.nd rfl (Or.inl rfl))
      (dss_one (ds_for PassesOwn.never rfl (di_rg1 (by rfl) T.z_range (da_cons (dv 2) da_nil)) (dg_name (i := 5) sc_l_turned.nd rfl (Or.inl rfl))
      (dss_cons (ds_set (i := 6) sc_l_turned.nd rfl (Or.inl rfl) (de_tup (da_cons (dv 4) (da_cons (dv 5) (da_cons (de_ix (de_ix (dv 0) (dv 4)) (dv 5)) da_nil)))))
      (dss_one (ds_asg (de_ix (dv 6) (de_ix (dv 1) de_int)) (dg_sub (de_ix (dv 3) (de_ix (dv 6) (de_ix (dv 1) de_int))) (de_ix (dv 6) (de_ix (dv 1) de_int)) st_list)))))))
      (dss_one (ds_ret (de_ct ca_tuple (by rfl) T.z_tuple PyProof.Rows.boot_tuple (da_cons (de_lc rfl sc_l_turned.nd (own := [("_law_row", 7)]) (own1 _ 7) (di_seq (dv 3)) (blkOk_by (by kernel_rfl)) (fun _ _ _ _ _ => (pg_name (i := 7) sc_l_turned.nd rfl (Or.inl rfl))) (fun _ _ _ _ _ => pts_y) (fun _ _ _ _ _ => (de_ct ca_tuple (by rfl) T.z_tuple PyProof.Rows.boot_tuple (da_cons (dv 7) da_nil)))) da_nil))))))), ?_⟩
  unfold sp_l_turned at h
  split at h
  rotate_left
  · exact h.elim
  obtain ⟨n, t, w, T', rfl, rfl, hw, hT, hT', hG, n0, n1, q⟩ := h
  have hz : sizeLine = 16777216 := rfl
  have tl : (((t.map dI).length : Nat) : Int) = n := by rw [List.length_map, hT.len]
  have wl := hw.place.1
  walk_at "go"
  rw [tl]
  refine ⟨fun k acc M1 => Keep M M1 ∧ ∃ rs : List Addr, acc = rs.map D.ref ∧ GridD M M1 rs (List.replicate k (List.replicate n D.non)), ⟨.refl, [], rfl, .nil⟩, fun _ _ _ _ _ => trivial, ?_, ?_⟩
  · rintro k acc x M1 hk hx ⟨hK1, rs, rfl, g⟩
    walk_at "st"
    intro p hp
    walk_at "go"
    refine ⟨_, updM_same, by omega, by omega, by rw [List.length_singleton]; omega, fun r hr => ?_⟩
    rw [rep_one, Int.toNat_natCast]
    have hr1 : updM M1 p (.lst [.non]) r = none := hr
    have hK2 : Keep M1 (updM M1 p (.lst [.non])) := Keep.new hp
    refine ⟨by have := g.len; simp at this ⊢; omega, (hK1.trans hK2).trans (Keep.new hr), rs ++ [r], by simp, ?_⟩
    rw [List.replicate_succ']
    refine (g.add hp).snoc hr ?_
    exact (hK1.trans hK2).none hr1
  rintro acc M1 ⟨hK1, rs, rfl, g⟩ f hf
  rw [show (t.map dI).length = n by omega] at g
  have hfr : ∀ a ∈ rs, f ≠ a := fun a ha e => by
    obtain ⟨_, z⟩ := g.has ha
    rw [← e, hf] at z; cases z
  have hM0f : M f = none := hK1.none hf
  have lrs : rs.length = n := by rw [g.len, List.length_replicate]
  have sq0 : Sq n (List.replicate n (List.replicate n D.non)) := ⟨List.length_replicate .., fun r hr => by
    rw [List.eq_of_mem_replicate hr]
    exact List.length_replicate ..⟩
  walk_at "go"
  refine ⟨by omega, by omega, ?_⟩
  refine .rngL (n := n) (fun k ρ M' => ∃ G', Keep M M' ∧ M' f = some (.lst (rs.map D.ref)) ∧ GridD M M' rs G' ∧ Sq n G' ∧ (∀ i j c, Gives n t i j c → i < k → cellD G' (tri i j c (at0 w 0)) (tri i j c (at0 w 1)) = some (.int (tri i j c (at0 w 2)))) ∧
    ∃ c4 c5 c6 c7, ρ = [some (dII t), some (dI w), some (.int n), some (.ref f), c4, c5, c6, c7])
    ⟨_, hK1.trans (Keep.new hf), updM_same, g.add hf, sq0, fun i j c gv h => absurd gv.1 (by omega), _, _, _, _, rfl⟩ (fun _ _ _ _ _ => trivial) ?_ ?_
  · rintro k ρ M2 hk ⟨G2, hK2, hf2, g2, sq2, done2, c4, c5, c6, c7, rfl⟩
    walk_at "go"
    refine ⟨by omega, by omega, ?_⟩
    refine .rngL (n := n) (fun j ρ M' => ∃ G', Keep M M' ∧ M' f = some (.lst (rs.map D.ref)) ∧ GridD M M' rs G' ∧ Sq n G' ∧ (∀ i j' c, Gives n t i j' c → (i < k ∨ (i = k ∧ j' < j)) → cellD G' (tri i j' c (at0 w 0)) (tri i j' c (at0 w 1)) = some (.int (tri i j' c (at0 w 2)))) ∧
      ∃ c5 c6 c7, ρ = [some (dII t), some (dI w), some (.int n), some (.ref f), some (.int (k : Int)), c5, c6, c7])
      ⟨G2, hK2, hf2, g2, sq2, fun i j c gv h => done2 i j c gv (by have := gv.2.2.1; omega), _, _, _, rfl⟩ (fun _ _ _ _ _ => trivial) ?_ ?_
    · rintro j ρ M3 hj ⟨G3, hK3, hf3, g3, sq3, done3, c5, c6, c7, rfl⟩
      have gv : Gives n t (k : Int) (j : Int) (ent t (k : Int) (j : Int)) := ⟨by omega, by omega, by omega, by omega, rfl⟩
      have gT := hG _ _ _ gv
      walk_at "go"
      rw [hT.atr (i := (k : Int)) (by omega) (by omega)]
      walk_at "go"
      rw [hT.ate (i := (k : Int)) (j := (j : Int)) (by omega) (by omega) (by omega) (by omega)]
      walk_at "st"
      rw [atI_ints (w := w) (k := 2) (by decide) (by omega)]
      walk_at "go"
      rw [at_tri (hw.in_ (p := 2) (by decide) (by decide)).1 (hw.in_ (p := 2) (by decide) (by decide)).2]
      walk_at "go"
      rw [atI_ints (w := w) (k := 0) (by decide) (by omega)]
      walk_at "go"
      rw [at_tri (hw.in_ (p := 0) (by decide) (by decide)).1 (hw.in_ (p := 0) (by decide) (by decide)).2]
      walk_at "go"
      generalize ha : tri (k : Int) (j : Int) (ent t (k : Int) (j : Int)) (at0 w 0) = a at gT ⊢
      generalize hb : tri (k : Int) (j : Int) (ent t (k : Int) (j : Int)) (at0 w 1) = b at gT ⊢
      generalize hc : tri (k : Int) (j : Int) (ent t (k : Int) (j : Int)) (at0 w 2) = c at gT ⊢
      have a0 := gT.1
      have a1 := gT.2.1
      have b0 := gT.2.2.1
      have b1 := gT.2.2.2.1
      obtain ⟨ad, r, had, hr, er⟩ := g3.get (i := a.toNat) (by rw [sq3.len]; omega)
      have lr := sq3.row r (List.mem_of_getElem? hr)
      refine ⟨_, hf3, ixQ_of (d := .ref ad) (by rw [atI_nn a0 (by rw [List.length_map]; omega), List.getElem?_map, had]; rfl) ?_⟩
      walk_at "go"
      rw [atI_ints (w := w) (k := 1) (by decide) (by omega)]
      walk_at "go"
      rw [at_tri (hw.in_ (p := 1) (by decide) (by decide)).1 (hw.in_ (p := 1) (by decide) (by decide)).2]
      walk_at "go"
      rw [hb]
      refine ⟨r, b.toNat, er, ixN_nn b0 (by omega), ?_⟩
      refine ⟨_, hK3.updN (g3.new ad (List.mem_of_getElem? had)), by rw [updM_ne (hfr ad (List.mem_of_getElem? had))]; exact hf3, g3.set (r := r.set b.toNat (.int c)) had, sq3.set (by rw [List.length_set]; exact lr), fun i j' c' gv' h => ?_, _, _, _, rfl⟩
      have gT' := hG _ _ _ gv'
      rw [cell_set sq3 hr a0 b0 b1 gT'.1 gT'.2.2.1]
      split
      · rename_i z
        rw [z.1, z.2] at gT'
        rw [← gT.2.2.2.2, ← gT'.2.2.2.2]
      · rename_i z
        refine done3 i j' c' gv' ?_
        rcases h with h | ⟨h, h'⟩
        · exact .inl h
        · refine .inr ⟨h, ?_⟩
          rcases Int.lt_or_eq_of_le (show j' ≤ j by omega) with q | q
          · exact q
          · refine absurd ?_ z
            rw [h, q] at gv' ⊢
            rw [← gv'.2.2.2.2]
            exact ⟨ha, hb⟩
    · rintro ρ M3 ⟨G3, hK3, hf3, g3, sq3, done3, c5, c6, c7, rfl⟩
      exact ⟨G3, hK3, hf3, g3, sq3, fun i j c gv h => done3 i j c gv (by have := gv.2.2.2.1; omega), _, _, _, _, rfl⟩
  · rintro ρ M2 ⟨G2, hK2, hf2, g2, sq2, done2, c4, c5, c6, c7, rfl⟩
    have hGT : G2 = T'.map fun r => r.map D.int := sq_eq sq2 hT' fun a b a0 a1 b0 b1 => by
      obtain ⟨i, j, k, gv, rfl, rfl⟩ := turn_onto hT hw a0 a1 b0 b1
      rw [done2 i j k gv gv.2.1, (hG i j k gv).2.2.2.2]
    subst hGT
    have tl' := hT'.len
    walk_at "go"
    refine ⟨_, hf2, ?_⟩
    refine ⟨fun k acc M' => M' = M2 ∧ acc = (T'.take k).map dI, ⟨rfl, by rw [List.take_zero]; rfl⟩, fun k acc M' _ z => z.1 ▸ hf2, ?_, ?_⟩
    · rintro k acc x M' hk hx ⟨rfl, rfl⟩
      rw [List.length_map] at hk
      have hk' : k < T'.length := by omega
      obtain ⟨ad, r, had, hr, er⟩ := g2.get (i := k) (by rw [List.length_map]; omega)
      obtain rfl : x = .ref ad := by
        unfold yL at hx
        rw [List.getElem?_map, had] at hx
        exact (Option.some.inj hx).symm
      obtain rfl : r = T'[k].map D.int := by
        rw [List.getElem?_map, List.getElem?_eq_getElem hk'] at hr
        exact (Option.some.inj hr).symm
      walk_at "go"
      refine ⟨_, er, ?_⟩
      refine ⟨by simp; omega, rfl, ?_⟩
      rw [List.take_succ_eq_append_getElem hk', List.map_append]
      rfl
    · rintro acc M' ⟨rfl, rfl⟩ p hp
      rw [show (rs.map D.ref).length = T'.length by rw [List.length_map]; omega, List.take_length]
      walk_at "go"
      exact ⟨_, updM_same, q _ (hK2.trans (Keep.new hp))⟩


def sp_law : SpD := fun ds M Q _ => match ds with
  | [.fl xs] => ∃ ns : List Int, xs = ns.map D.int ∧ ns.length ≤ sizeLine ∧ ∀ M', Q (.bl true) M'
  | _ => False

theorem ok_law (T : Txt K mg a) : FnD P w K mg base CX0 4 a.f_law a.d_law ["_law_script"] sp_law := by
  refine okD T.F_law sc_law (fun ds M Q E h => ?_) (fun cdv A outer s H E hr hgd ds M Q E' h => ?_)
  · unfold sp_law at h; split at h <;> first | rfl | exact h.elim
  refine ⟨_, (dss_cons (ds_set (i := 1) sc_law.nd rfl (Or.inl rfl) (de_call (ok_l_deck T) (hr.mono (by omega)) hgd (by rfl) T.G_l_deck T.F_l_deck.kp T.B_l_deck (da_cons (dv 0) da_nil)))
      (dss_cons (ds_for PassesOwn.never rfl (di_rg1 (by rfl) T.z_range (da_cons de_int da_nil)) (dg_name (i := 2) sc_law.nd rfl (Or.inl rfl))
      (dss_cons (ds_set (i := 3) sc_law.nd rfl (Or.inl rfl) (de_call (ok_l_table T) (hr.mono (by omega)) hgd (by rfl) T.G_l_table T.F_l_table.kp T.B_l_table (da_cons (dv 1) (da_cons (de_call (ok_l_pick T) (hr.mono (by omega)) hgd (by rfl) T.G_l_pick T.F_l_pick.kp T.B_l_pick (da_cons (dv 1) (da_cons (de_lst (da_cons de_int (da_cons de_int (da_cons de_int (da_cons de_int (da_cons de_int (da_cons de_int (da_cons de_int (da_cons de_int da_nil))))))))) da_nil))) da_nil))))
      (dss_cons (ds_set (i := 4) sc_law.nd rfl (Or.inl rfl) (de_cb (ca_repr hgd (un_of hr)) (by rfl) T.z_repr (by decide +kernel) (da_cons (dv 3) da_nil)))
      (dss_cons (ds_for PassesOwn.never rfl (di_seq (de_call0 (ok_l_ways T) (hr.mono (by omega)) hgd (by rfl) T.G_l_ways T.F_l_ways.kp T.B_l_ways)) (dg_name (i := 5) sc_law.nd rfl (Or.inr rfl))
      (dss_cons (ds_set (i := 6) sc_law.nd rfl (Or.inl rfl) (de_call (ok_turned T) (hr.mono (by omega)) hgd (by rfl) T.G_turned T.F_turned.kp T.B_turned (da_cons (dv 3) (da_cons (dv 5) da_nil))))
      (dss_cons (ds_if (dt_w (dw_or (dt_cp (cr_ne hr.units) (de_cb (ca_repr hgd (un_of hr)) (by rfl) T.z_repr (by decide +kernel) (da_cons (de_lst (da_cons (dv 6) (da_cons (de_call (ok_turned T) (hr.mono (by omega)) hgd (by rfl) T.G_turned T.F_turned.kp T.B_turned (da_cons (dv 3) (da_cons (dv 5) da_nil))) da_nil))) da_nil)) (de_cb (ca_repr hgd (un_of hr)) (by rfl) T.z_repr (by decide +kernel) (da_cons (de_bin br_rep (de_lst (da_cons (de_call (ok_l_turned T) (hr.mono (by omega)) hgd (by rfl) T.G_l_turned T.F_l_turned.kp T.B_l_turned (da_cons (dv 3) (da_cons (dv 5) da_nil))) da_nil)) de_int) da_nil))) (dw_or1 (dt_not (dt_val (de_call (ok_l_is_table T) (hr.mono (by omega)) hgd (by rfl) T.G_l_is_table T.F_l_is_table.kp T.B_l_is_table (da_cons (dv 6) (da_cons (de_cb (ca_len) (by rfl) T.z_len PySem.boot_len (da_cons (dv 3) da_nil)) da_nil))))))))
      (dss_one (ds_ret de_bl))
      dss_nil)
      (dss_cons (ds_set (i := 7) sc_law.nd rfl (Or.inl rfl) (de_ct ca_tuple (by rfl) T.z_tuple PyProof.Rows.boot_tuple (da_cons (de_lc rfl sc_law.nd (own := [("_law_place", 9)]) (own1 _ 9) (di_rg1 (by rfl) T.z_range (da_cons de_int da_nil)) (blkOk_by (by kernel_rfl)) (fun _ _ _ _ _ => (pg_name (i := 9) sc_law.nd rfl (Or.inl rfl))) (fun _ _ _ _ _ => pts_y) (fun _ _ _ _ _ => (de_tm PySem.F.slot_tuple_index PySem.F.type_tuple_index mr_tindex (dv 5) (da_cons (dv 9) da_nil)))) da_nil)))
      (dss_cons (ds_if (dt_w (dw_or (dt_cp (cr_ne hr.units) (de_cb (ca_repr hgd (un_of hr)) (by rfl) T.z_repr (by decide +kernel) (da_cons (de_call (ok_back T) (hr.mono (by omega)) hgd (by rfl) T.G_back T.F_back.kp T.B_back (da_cons (dv 5) da_nil)) da_nil)) (de_cb (ca_repr hgd (un_of hr)) (by rfl) T.z_repr (by decide +kernel) (da_cons (dv 7) da_nil))) (dw_or1 (dt_cp (cr_ne hr.units) (de_cb (ca_repr hgd (un_of hr)) (by rfl) T.z_repr (by decide +kernel) (da_cons (de_call (ok_turned T) (hr.mono (by omega)) hgd (by rfl) T.G_turned T.F_turned.kp T.B_turned (da_cons (dv 6) (da_cons (de_call (ok_back T) (hr.mono (by omega)) hgd (by rfl) T.G_back T.F_back.kp T.B_back (da_cons (dv 5) da_nil)) da_nil))) da_nil)) (dv 4)))))
      (dss_one (ds_ret de_bl))
      dss_nil)
      (dss_cons (ds_set (i := 8) sc_law.nd rfl (Or.inl rfl) (de_call (ok_l_pick T) (hr.mono (by omega)) hgd (by rfl) T.G_l_pick T.F_l_pick.kp T.B_l_pick (da_cons (dv 1) (da_cons (de_call0 (ok_l_ways T) (hr.mono (by omega)) hgd (by rfl) T.G_l_ways T.F_l_ways.kp T.B_l_ways) da_nil))))
      (dss_one (ds_if (dt_cp (cr_ne hr.units) (de_call (ok_turned T) (hr.mono (by omega)) hgd (by rfl) T.G_turned T.F_turned.kp T.B_turned (da_cons (dv 6) (da_cons (dv 8) da_nil))) (de_call (ok_turned T) (hr.mono (by omega)) hgd (by rfl) T.G_turned T.F_turned.kp T.B_turned (da_cons (dv 3) (da_cons (de_tup (da_cons (de_ix (dv 5) (de_ix (dv 8) de_int)) (da_cons (de_ix (dv 5) (de_ix (dv 8) de_int)) (da_cons (de_ix (dv 5) (de_ix (dv 8) de_int)) da_nil)))) da_nil))))
      (dss_one (ds_ret de_bl))
      dss_nil))))))))
      (dss_one (ds_if (dt_cp (cr_ne hr.units) (de_cb (ca_repr hgd (un_of hr)) (by rfl) T.z_repr (by decide +kernel) (da_cons (dv 3) da_nil)) (dv 4))
      (dss_one (ds_ret de_bl))
      dss_nil))))))
      (dss_one (ds_ret de_bl)))), ?_⟩
  unfold sp_law at h
  split at h
  rotate_left
  · exact h.elim
  obtain ⟨ns, rfl, hn, q⟩ := h
  have hz : sizeLine = 16777216 := rfl
  walk_at "go"
  refine ⟨ns, rfl, hn, fun l M1 hB1 => ?_⟩
  walk_at "go"
  refine ⟨by decide, by decide, ?_⟩
  walk_at "go"
  refine .all (fun ρ M' => Bag M' l ∧ ∃ c2 c3 c4 c5 c6 c7 c8 c9, ρ = [some (.fl (ns.map D.int)), some (.ref l), c2, c3, c4, c5, c6, c7, c8, c9]) ⟨hB1, _, _, _, _, _, _, _, _, rfl⟩ (fun _ _ _ => trivial) ?_ fun _ M' _ => q M'
  rintro i x ρ M2 hi rfl ⟨hB2, c2, c3, c4, c5, c6, c7, c8, c9, rfl⟩
  walk_at "st"
  intro p0 hp0
  walk_at "go"
  refine ⟨hB2.new hp0, _, .inr ⟨p0, rfl, Ne.symm (hB2.ne hp0), updM_same⟩, by decide, by decide, fun d M3 hd hB3 hE3 => ?_⟩
  obtain ⟨n, hm, rfl⟩ := List.mem_map.mp (show d ∈ ([1, 2, 3, 4, 5, 7, 9, 60] : List Int).map D.int from hd)
  have key : ∀ n ∈ ([1, 2, 3, 4, 5, 7, 9, 60] : List Int), 1 ≤ n ∧ n ≤ 60 := by decide
  obtain ⟨n0, n1⟩ := key n hm
  walk_at "go"
  refine ⟨hB3, n0, by omega, fun t M4 hT hB4 hE4 => ?_⟩
  obtain ⟨m, rfl⟩ : ∃ m : Nat, n = m := ⟨n.toNat, by omega⟩
  rw [Int.toNat_natCast] at hT
  have tl := hT.len
  obtain ⟨P, hP⟩ : ∃ P, P = pII t := ⟨_, rfl⟩
  have sP : Shw P := by
    rw [hP]
    exact (hT.sm (by omega)).shw (by decide) (by decide)
  have rP : ∀ {M' : Mp}, Rdm M' (dII t) P := by
    rw [hP]
    exact rdm_II _
  walk_at "go"
  refine ⟨P, rP, sP, ?_⟩
  walk_at "go"
  intro M5 p5 K5 n5 e5
  have hl5 : p5 ≠ l := Ne.symm (hB4.ne n5)
  walk_at "go"
  refine ⟨_, e5, ?_⟩
  refine .seqL (fun _ ρ M' => Bag M' l ∧ M' p5 = some (.lst (ways.map dI)) ∧ ∃ c2 c5 c6 c7 c8 c9, ρ = [some (.fl (ns.map D.int)), some (.ref l), c2, some (dII t), some (.str P.shown), c5, c6, c7, c8, c9]) ⟨hB4.keep K5, e5, _, _, _, _, _, _, rfl⟩ (fun _ _ _ _ z => z.2.1) ?_ ?_
  rotate_left
  · rintro ρ M6 ⟨hB6, e6, c2, c5, c6, c7, c8, c9, rfl⟩
    walk_at "go"
    refine ⟨P, rP, sP, ?_⟩
    walk_at "go"
    refine br_f (sg_ne _) ?_
    exact ⟨hB6, _, _, _, _, _, _, _, _, rfl⟩
  rintro k ρ M6 hk ⟨hB6, e6, c2, c5, c6, c7, c8, c9, rfl⟩
  have hw := ways_way (List.getElem_mem hk)
  generalize ways[k] = w at hw
  have wl := hw.place.1
  obtain ⟨T, hT', hG⟩ := turn_ex hT hw
  obtain ⟨P1, hP1⟩ : ∃ P, P = PyData.list [pII T, pII T] := ⟨_, rfl⟩
  have sP1 : Shw P1 := by
    rw [hP1]
    refine (Sm.list (d := 2) (w := 131000) fun q hq => ?_).shw (by decide) (by simp only [List.length_cons, List.length_nil]; omega)
    obtain rfl : q = pII T := by simpa using hq
    exact hT'.sm (by omega)
  have rP1 : ∀ {M' : Mp} {a : Addr}, M' a = some (.lst [dII T, dII T]) → Rdm M' (.ref a) P1 := fun e => by
    rw [hP1]
    exact .lst e (.cons (rdm_II _) (.cons (rdm_II _) .nil))
  walk_at "go"
  refine ⟨m, t, w, T, rfl, rfl, hw, hT, hT', hG, by omega, by omega, fun M7 K7 => ?_⟩
  walk_at "go"
  refine ⟨m, t, w, T, rfl, rfl, hw, hT, hT', hG, by omega, by omega, fun M8 K8 => ?_⟩
  walk_at "st"
  intro p9 h9
  walk_at "go"
  refine ⟨P1, rP1 updM_same, sP1, ?_⟩
  walk_at "go"
  refine ⟨m, t, w, T, rfl, rfl, hw, hT, hT', hG, by omega, by omega, fun M10 K10 => ?_⟩
  walk_at "st"
  intro p11 h11
  walk_at "go"
  refine ⟨_, updM_same, by decide, by decide, Nat.le_of_ble_eq_true rfl, fun p12 h12 => ?_⟩
  walk_at "go"
  refine ⟨P1, rP1 updM_same, sP1, ?_⟩
  walk_at "go"
  refine br_f (sg_ne _) ?_
  walk_at "go"
  refine ⟨m, T, rfl, by rw [List.length_map, tl], hT'.len, fun r hr => ⟨hT'.rlen hr, fun x hx => hT'.mem hr hx⟩, by omega, by omega, fun b M13 hb K13 => ?_⟩
  obtain rfl : b = true := hb.mpr hT'
  walk_at "go"
  refine ⟨by decide, by decide, ?_⟩
  refine .mapR (n := 3) (fun i => .int ((w.idxOf i : Nat) : Int)) (fun M' => Keep M13 M') (by decide) .refl (fun _ _ => trivial) ?_ ?_
  · rintro i M' i0 i1 K' Q' h'
    walk_at "go"
    exact ⟨⟨_, rfl⟩, w, rfl, way_mem hw i0 i1, h' _ K'⟩
  rintro M14 p14 K14 h14
  obtain ⟨P2, hP2⟩ : ∃ P, P = pI (backW w) := ⟨_, rfl⟩
  have hbw := backW_way hw
  have sP2 : Shw P2 := by
    rw [hP2]
    refine (sm_I fun i hi => ?_).shw (by decide) (by rw [hbw.place.1]; decide)
    have := hbw.place.2.1 i hi
    omega
  have rP2 : ∀ {M' : Mp}, Rdm M' (dI (backW w)) P2 := by
    rw [hP2]
    exact rdm_I _
  have eb : ((rg 3).map fun i => D.int ((w.idxOf i : Nat) : Int)) = (backW w).map D.int := by
    unfold backW
    rw [List.map_map]
    rfl
  rw [eb]
  walk_at "go"
  refine ⟨_, updM_same, ?_⟩
  walk_at "go"
  refine ⟨w, rfl, hw, fun M15 K15 => ?_⟩
  walk_at "go"
  refine ⟨P2, rP2, sP2, ?_⟩
  walk_at "go"
  refine ⟨P2, rP2, sP2, ?_⟩
  walk_at "go"
  refine br_f (sg_ne _) ?_
  walk_at "go"
  refine ⟨w, rfl, hw, fun M16 K16 => ?_⟩
  walk_at "go"
  refine ⟨m, T, backW w, t, rfl, rfl, hbw, hT', hT, turn_back hT hT' hw hG, by omega, by omega, fun M17 K17 => ?_⟩
  walk_at "go"
  refine ⟨P, rP, sP, ?_⟩
  walk_at "go"
  refine br_f (sg_ne _) ?_
  have KA : Keep M6 M17 := ((((((((K7.trans K8).trans (.new h9)).trans K10).trans (.new h11)).trans (.new h12)).trans K13).trans K14).trans (.new h14)).trans ((K15.trans K16).trans K17)
  walk_at "go"
  intro M18 p18 K18 n18 e18
  have hl18 : p18 ≠ l := Ne.symm ((hB6.keep KA).ne n18)
  walk_at "go"
  refine ⟨(hB6.keep KA).keep K18, _, .inr ⟨p18, rfl, hl18, e18⟩, by decide, by decide, fun d M19 hd hB19 hE19 => ?_⟩
  obtain ⟨v, hv, rfl⟩ := List.mem_map.mp hd
  have hv := ways_way hv
  obtain ⟨T2, hT2, hG2⟩ := turn_ex hT' hv
  have vl := hv.place.1
  have va := fun (p : Int) (h0 : 0 ≤ p) (h1 : p < 3) => hv.in_ h0 h1
  walk_at "go"
  refine ⟨m, T, v, T2, rfl, rfl, hv, hT', hT2, hG2, by omega, by omega, fun M20 K20 => ?_⟩
  walk_at "go"
  rw [atI_ints (w := v) (k := 0) (by decide) (by omega)]
  walk_at "go"
  rw [atI_ints (w := w) (va 0 (by decide) (by decide)).1 (by have := (va 0 (by decide) (by decide)).2; omega)]
  walk_at "go"
  rw [atI_ints (w := v) (k := 1) (by decide) (by omega)]
  walk_at "go"
  rw [atI_ints (w := w) (va 1 (by decide) (by decide)).1 (by have := (va 1 (by decide) (by decide)).2; omega)]
  walk_at "go"
  rw [atI_ints (w := v) (k := 2) (by decide) (by omega)]
  walk_at "go"
  rw [atI_ints (w := w) (va 2 (by decide) (by decide)).1 (by have := (va 2 (by decide) (by decide)).2; omega)]
  walk_at "st"
  refine ⟨m, t, compW w v, T2, rfl, rfl, compW_way hw hv, hT, hT2, turn_comp hw hv hG hG2, by omega, by omega, fun M21 K21 => ?_⟩
  walk_at "go"
  refine ⟨_, _, rdm_II T2, rdm_II T2, shaped_II _, shaped_II _, ?_⟩
  rw [eqv_II]
  walk_at "go"
  refine br_f (sg_ne _) ?_
  exact ⟨hB19.keep (K20.trans K21), (K20.trans K21) _ _ (hE19 _ _ hl5 (K18 _ _ (KA _ _ e6))), _, _, _, _, _, _, rfl⟩

end
theorem all_mk {l : PySem.W.OpenLaw} {w : World} {K : PySem.W.Frag} {h : Heap} {mg : Str → Option Value} {fa : Addr} (X : K.In h) (G : h.Ns mainGlobals mg) (hfa : mg "law" = some (.ref fa))
    {f1 f2 f3 f4 f5 f6 f7 f8 f9 f10 f11 f12 f13 : Addr} {od1 an1 od2 an2 od3 an3 od4 an4 od5 an5 od6 an6 od7 an7 od8 an8 od9 an9 od10 an10 od11 an11 od12 an12 od13 an13 : Option Addr} {sl1 sl2 sl3 sl4 sl5 sl6 sl7 sl8 sl9 sl10 sl11 sl12 sl13 : Array (Option Value)} {oc1 kV1 dc1 pm1 cd1 ct1 oc2 kV2 dc2 pm2 cd2 ct2 oc3 kV3 dc3 pm3 cd3 ct3 oc4 kV4 dc4 pm4 cd4 ct4 oc5 kV5 dc5 pm5 cd5 ct5 oc6 kV6 dc6 pm6 cd6 ct6 oc7 kV7 dc7 pm7 cd7 ct7 oc8 kV8 dc8 pm8 cd8 ct8 oc9 kV9 dc9 pm9 cd9 ct9 oc10 kV10 dc10 pm10 cd10 ct10 oc11 kV11 dc11 pm11 cd11 ct11 oc12 kV12 dc12 pm12 cd12 ct12 oc13 kV13 dc13 pm13 cd13 ct13 : Value}
    (a1 : PySem.W.nsIn K mainGlobals "moved" = some (some (.ref f1))) (l1 : K.lookup f1 = some ⟨oc1, od1, .func (PySem.W.fnOf "moved" "moved" (defArgs s_moved) (defBody s_moved) (defScope s_moved) .none kV1 dc1 pm1 an1 cd1 ct1), sl1⟩) (c1 : PySem.W.codeIn K cd1 "moved" = true) (k1 : PySem.W.keepIn K (.ref f1) = true)
    (a2 : PySem.W.nsIn K mainGlobals "turned" = some (some (.ref f2))) (l2 : K.lookup f2 = some ⟨oc2, od2, .func (PySem.W.fnOf "turned" "turned" (defArgs s_turned) (defBody s_turned) (defScope s_turned) .none kV2 dc2 pm2 an2 cd2 ct2), sl2⟩) (c2 : PySem.W.codeIn K cd2 "turned" = true) (k2 : PySem.W.keepIn K (.ref f2) = true)
    (a3 : PySem.W.nsIn K mainGlobals "back" = some (some (.ref f3))) (l3 : K.lookup f3 = some ⟨oc3, od3, .func (PySem.W.fnOf "back" "back" (defArgs s_back) (defBody s_back) (defScope s_back) .none kV3 dc3 pm3 an3 cd3 ct3), sl3⟩) (c3 : PySem.W.codeIn K cd3 "back" = true) (k3 : PySem.W.keepIn K (.ref f3) = true)
    (a4 : PySem.W.nsIn K mainGlobals "_law_deck" = some (some (.ref f4))) (l4 : K.lookup f4 = some ⟨oc4, od4, .func (PySem.W.fnOf "_law_deck" "_law_deck" (defArgs s_l_deck) (defBody s_l_deck) (defScope s_l_deck) .none kV4 dc4 pm4 an4 cd4 ct4), sl4⟩) (c4 : PySem.W.codeIn K cd4 "_law_deck" = true) (k4 : PySem.W.keepIn K (.ref f4) = true)
    (a5 : PySem.W.nsIn K mainGlobals "_law_take" = some (some (.ref f5))) (l5 : K.lookup f5 = some ⟨oc5, od5, .func (PySem.W.fnOf "_law_take" "_law_take" (defArgs s_l_take) (defBody s_l_take) (defScope s_l_take) .none kV5 dc5 pm5 an5 cd5 ct5), sl5⟩) (c5 : PySem.W.codeIn K cd5 "_law_take" = true) (k5 : PySem.W.keepIn K (.ref f5) = true)
    (a6 : PySem.W.nsIn K mainGlobals "_law_pick" = some (some (.ref f6))) (l6 : K.lookup f6 = some ⟨oc6, od6, .func (PySem.W.fnOf "_law_pick" "_law_pick" (defArgs s_l_pick) (defBody s_l_pick) (defScope s_l_pick) .none kV6 dc6 pm6 an6 cd6 ct6), sl6⟩) (c6 : PySem.W.codeIn K cd6 "_law_pick" = true) (k6 : PySem.W.keepIn K (.ref f6) = true)
    (a7 : PySem.W.nsIn K mainGlobals "_law_is_int" = some (some (.ref f7))) (l7 : K.lookup f7 = some ⟨oc7, od7, .func (PySem.W.fnOf "_law_is_int" "_law_is_int" (defArgs s_l_is_int) (defBody s_l_is_int) (defScope s_l_is_int) .none kV7 dc7 pm7 an7 cd7 ct7), sl7⟩) (c7 : PySem.W.codeIn K cd7 "_law_is_int" = true) (k7 : PySem.W.keepIn K (.ref f7) = true)
    (a8 : PySem.W.nsIn K mainGlobals "_law_mixed" = some (some (.ref f8))) (l8 : K.lookup f8 = some ⟨oc8, od8, .func (PySem.W.fnOf "_law_mixed" "_law_mixed" (defArgs s_l_mixed) (defBody s_l_mixed) (defScope s_l_mixed) .none kV8 dc8 pm8 an8 cd8 ct8), sl8⟩) (c8 : PySem.W.codeIn K cd8 "_law_mixed" = true) (k8 : PySem.W.keepIn K (.ref f8) = true)
    (a9 : PySem.W.nsIn K mainGlobals "_law_table" = some (some (.ref f9))) (l9 : K.lookup f9 = some ⟨oc9, od9, .func (PySem.W.fnOf "_law_table" "_law_table" (defArgs s_l_table) (defBody s_l_table) (defScope s_l_table) .none kV9 dc9 pm9 an9 cd9 ct9), sl9⟩) (c9 : PySem.W.codeIn K cd9 "_law_table" = true) (k9 : PySem.W.keepIn K (.ref f9) = true)
    (a10 : PySem.W.nsIn K mainGlobals "_law_is_table" = some (some (.ref f10))) (l10 : K.lookup f10 = some ⟨oc10, od10, .func (PySem.W.fnOf "_law_is_table" "_law_is_table" (defArgs s_l_is_table) (defBody s_l_is_table) (defScope s_l_is_table) .none kV10 dc10 pm10 an10 cd10 ct10), sl10⟩) (c10 : PySem.W.codeIn K cd10 "_law_is_table" = true) (k10 : PySem.W.keepIn K (.ref f10) = true)
    (a11 : PySem.W.nsIn K mainGlobals "_law_ways" = some (some (.ref f11))) (l11 : K.lookup f11 = some ⟨oc11, od11, .func (PySem.W.fnOf "_law_ways" "_law_ways" (defArgs s_l_ways) (defBody s_l_ways) (defScope s_l_ways) .none kV11 dc11 pm11 an11 cd11 ct11), sl11⟩) (c11 : PySem.W.codeIn K cd11 "_law_ways" = true) (k11 : PySem.W.keepIn K (.ref f11) = true)
    (a12 : PySem.W.nsIn K mainGlobals "_law_turned" = some (some (.ref f12))) (l12 : K.lookup f12 = some ⟨oc12, od12, .func (PySem.W.fnOf "_law_turned" "_law_turned" (defArgs s_l_turned) (defBody s_l_turned) (defScope s_l_turned) .none kV12 dc12 pm12 an12 cd12 ct12), sl12⟩) (c12 : PySem.W.codeIn K cd12 "_law_turned" = true) (k12 : PySem.W.keepIn K (.ref f12) = true)
    (a13 : PySem.W.nsIn K mainGlobals "law" = some (some (.ref f13))) (l13 : K.lookup f13 = some ⟨oc13, od13, .func (PySem.W.fnOf "law" "law" (defArgs s_law) (defBody s_law) (defScope s_law) .none kV13 dc13 pm13 an13 cd13 ct13), sl13⟩) (c13 : PySem.W.codeIn K cd13 "law" = true) (k13 : PySem.W.keepIn K (.ref f13) = true)
    (z1 : PySem.W.nsIn K mainGlobals "abs" = some none)
    (z2 : PySem.W.nsIn K mainGlobals "bool" = some none)
    (z3 : PySem.W.nsIn K mainGlobals "int" = some none)
    (z4 : PySem.W.nsIn K mainGlobals "isinstance" = some none)
    (z5 : PySem.W.nsIn K mainGlobals "len" = some none)
    (z6 : PySem.W.nsIn K mainGlobals "list" = some none)
    (z7 : PySem.W.nsIn K mainGlobals "range" = some none)
    (z8 : PySem.W.nsIn K mainGlobals "repr" = some none)
    (z9 : PySem.W.nsIn K mainGlobals "sorted" = some none)
    (z10 : PySem.W.nsIn K mainGlobals "tuple" = some none) :
    ∃ fd : FuncData, (∀ (s : Shared) (v : Value), BindsTo s fd ⟨[v], []⟩ [("_law_script", v)]) ∧ ∀ base : Heap, K.In base → base.Ns mainGlobals mg → FnD l.prog w K mg base CX0 4 fa fd ["_law_script"] sp_law := by
  have e := hfa.symm.trans (PySem.W.mg_of X G a13)
  cases e
  have F1 := fun_mk (st := s_moved) l1 c1 k1
  have b1 := F1.binds (ps := ["row", "way"]) fun _ _ _ _ _ _ us hl => match us, hl with | [_, _], _ => rfl
  have F2 := fun_mk (st := s_turned) l2 c2 k2
  have b2 := F2.binds (ps := ["table", "way"]) fun _ _ _ _ _ _ us hl => match us, hl with | [_, _], _ => rfl
  have F3 := fun_mk (st := s_back) l3 c3 k3
  have b3 := F3.binds (ps := ["way"]) fun _ _ _ _ _ _ us hl => match us, hl with | [_], _ => rfl
  have F4 := fun_mk (st := s_l_deck) l4 c4 k4
  have b4 := F4.binds (ps := ["_law_script"]) fun _ _ _ _ _ _ us hl => match us, hl with | [_], _ => rfl
  have F5 := fun_mk (st := s_l_take) l5 c5 k5
  have b5 := F5.binds (ps := ["_law_deck_here", "_law_many"]) fun _ _ _ _ _ _ us hl => match us, hl with | [_, _], _ => rfl
  have F6 := fun_mk (st := s_l_pick) l6 c6 k6
  have b6 := F6.binds (ps := ["_law_deck_here", "_law_some"]) fun _ _ _ _ _ _ us hl => match us, hl with | [_, _], _ => rfl
  have F7 := fun_mk (st := s_l_is_int) l7 c7 k7
  have b7 := F7.binds (ps := ["_law_value", "_law_low", "_law_high"]) fun _ _ _ _ _ _ us hl => match us, hl with | [_, _, _], _ => rfl
  have F8 := fun_mk (st := s_l_mixed) l8 c8 k8
  have b8 := F8.binds (ps := ["_law_deck_here", "_law_many"]) fun _ _ _ _ _ _ us hl => match us, hl with | [_, _], _ => rfl
  have F9 := fun_mk (st := s_l_table) l9 c9 k9
  have b9 := F9.binds (ps := ["_law_deck_here", "_law_many"]) fun _ _ _ _ _ _ us hl => match us, hl with | [_, _], _ => rfl
  have F10 := fun_mk (st := s_l_is_table) l10 c10 k10
  have b10 := F10.binds (ps := ["_law_table_here", "_law_many"]) fun _ _ _ _ _ _ us hl => match us, hl with | [_, _], _ => rfl
  have F11 := fun_mk (st := s_l_ways) l11 c11 k11
  have b11 := F11.binds (ps := []) fun _ _ _ _ _ _ us hl => match us, hl with | [], _ => rfl
  have F12 := fun_mk (st := s_l_turned) l12 c12 k12
  have b12 := F12.binds (ps := ["_law_table_here", "_law_way"]) fun _ _ _ _ _ _ us hl => match us, hl with | [_, _], _ => rfl
  have F13 := fun_mk (st := s_law) l13 c13 k13
  have b13 := F13.binds (ps := ["_law_script"]) fun _ _ _ _ _ _ us hl => match us, hl with | [_], _ => rfl
  let a : Ad := { f_moved := f1, d_moved := PySem.W.fnOf "moved" "moved" (defArgs s_moved) (defBody s_moved) (defScope s_moved) .none kV1 dc1 pm1 an1 cd1 ct1, f_turned := f2, d_turned := PySem.W.fnOf "turned" "turned" (defArgs s_turned) (defBody s_turned) (defScope s_turned) .none kV2 dc2 pm2 an2 cd2 ct2, f_back := f3, d_back := PySem.W.fnOf "back" "back" (defArgs s_back) (defBody s_back) (defScope s_back) .none kV3 dc3 pm3 an3 cd3 ct3, f_l_deck := f4, d_l_deck := PySem.W.fnOf "_law_deck" "_law_deck" (defArgs s_l_deck) (defBody s_l_deck) (defScope s_l_deck) .none kV4 dc4 pm4 an4 cd4 ct4, f_l_take := f5, d_l_take := PySem.W.fnOf "_law_take" "_law_take" (defArgs s_l_take) (defBody s_l_take) (defScope s_l_take) .none kV5 dc5 pm5 an5 cd5 ct5, f_l_pick := f6, d_l_pick := PySem.W.fnOf "_law_pick" "_law_pick" (defArgs s_l_pick) (defBody s_l_pick) (defScope s_l_pick) .none kV6 dc6 pm6 an6 cd6 ct6, f_l_is_int := f7, d_l_is_int := PySem.W.fnOf "_law_is_int" "_law_is_int" (defArgs s_l_is_int) (defBody s_l_is_int) (defScope s_l_is_int) .none kV7 dc7 pm7 an7 cd7 ct7, f_l_mixed := f8, d_l_mixed := PySem.W.fnOf "_law_mixed" "_law_mixed" (defArgs s_l_mixed) (defBody s_l_mixed) (defScope s_l_mixed) .none kV8 dc8 pm8 an8 cd8 ct8, f_l_table := f9, d_l_table := PySem.W.fnOf "_law_table" "_law_table" (defArgs s_l_table) (defBody s_l_table) (defScope s_l_table) .none kV9 dc9 pm9 an9 cd9 ct9, f_l_is_table := f10, d_l_is_table := PySem.W.fnOf "_law_is_table" "_law_is_table" (defArgs s_l_is_table) (defBody s_l_is_table) (defScope s_l_is_table) .none kV10 dc10 pm10 an10 cd10 ct10, f_l_ways := f11, d_l_ways := PySem.W.fnOf "_law_ways" "_law_ways" (defArgs s_l_ways) (defBody s_l_ways) (defScope s_l_ways) .none kV11 dc11 pm11 an11 cd11 ct11, f_l_turned := f12, d_l_turned := PySem.W.fnOf "_law_turned" "_law_turned" (defArgs s_l_turned) (defBody s_l_turned) (defScope s_l_turned) .none kV12 dc12 pm12 an12 cd12 ct12, f_law := fa, d_law := PySem.W.fnOf "law" "law" (defArgs s_law) (defBody s_law) (defScope s_law) .none kV13 dc13 pm13 an13 cd13 ct13 }
  have T : Txt K mg a := { F_moved := F1, B_moved := b1, G_moved := PySem.W.mg_of X G a1, F_turned := F2, B_turned := b2, G_turned := PySem.W.mg_of X G a2, F_back := F3, B_back := b3, G_back := PySem.W.mg_of X G a3, F_l_deck := F4, B_l_deck := b4, G_l_deck := PySem.W.mg_of X G a4, F_l_take := F5, B_l_take := b5, G_l_take := PySem.W.mg_of X G a5, F_l_pick := F6, B_l_pick := b6, G_l_pick := PySem.W.mg_of X G a6, F_l_is_int := F7, B_l_is_int := b7, G_l_is_int := PySem.W.mg_of X G a7, F_l_mixed := F8, B_l_mixed := b8, G_l_mixed := PySem.W.mg_of X G a8, F_l_table := F9, B_l_table := b9, G_l_table := PySem.W.mg_of X G a9, F_l_is_table := F10, B_l_is_table := b10, G_l_is_table := PySem.W.mg_of X G a10, F_l_ways := F11, B_l_ways := b11, G_l_ways := PySem.W.mg_of X G a11, F_l_turned := F12, B_l_turned := b12, G_l_turned := PySem.W.mg_of X G a12, F_law := F13, B_law := b13, G_law := PySem.W.mg_of X G a13, z_abs := PySem.W.mg_none_of X G z1, z_bool := PySem.W.mg_none_of X G z2, z_int := PySem.W.mg_none_of X G z3, z_isinstance := PySem.W.mg_none_of X G z4, z_len := PySem.W.mg_none_of X G z5, z_list := PySem.W.mg_none_of X G z6, z_range := PySem.W.mg_none_of X G z7, z_repr := PySem.W.mg_none_of X G z8, z_sorted := PySem.W.mg_none_of X G z9, z_tuple := PySem.W.mg_none_of X G z10 }
  exact ⟨a.d_law, fun s v => .of_eq rfl, fun base _ _ => ok_law T⟩
theorem walk {l : PySem.W.OpenLaw} {q : Program} {loose : List Str} {XP : (Str → Option Value) → Heap → Prop} {YP : World → Heap → Prop} {d : DefRec} {K : Params → PySem.W.Frag} (hn : l.most = some 63) (hdf : d.params.defaults = [])
    (hY : ∀ (w : World) (h : Heap), YP w h → (K w.params).In h)
    (F : ∀ (w : World) (mg : Str → Option Value) (fa : Addr) (h : Heap), (K w.params).In h → h.Ns mainGlobals mg → mg d.name = some (.ref fa) →
      ∃ fd : FuncData, (∀ (s : Shared) (u : Value), BindsTo s fd ⟨[u], []⟩ [("_law_script", u)]) ∧ ∀ base : Heap, (K w.params).In base → base.Ns mainGlobals mg → FnD l.prog w (K w.params) mg base CX0 4 fa fd ["_law_script"] sp_law) :
    PySem.W.WalkO q loose XP YP l.row.toRowW d [] (fun f vs => PySem.call f vs) :=
  walk_G (n := 63) (k := 4) (x := "_law_script") (CX := fun _ => CX0) (sp := sp_law) hn (by decide) hdf ⟨rfl, by decide, by decide⟩ hY F (fun ns hl => ⟨ns, rfl, Nat.le_trans hl (by decide), fun _ => rfl⟩) fun _ _ _ _ _ z => z
end LK

open PySem PySem.W PyProof.Rows in
set_option maxRecDepth 100000 in
set_option maxHeartbeats 0 in
theorem PySem.Challenge.cw_solvedbothsides_k35_tables_turned_holds : PySem.Challenge.rw_solvedbothsides_k35_tables_turned.Holds := by
  w_on; o_law; k_head; (case hw => w_witness2)
  k_fill
  refine LK.walk (l := PySem.Challenge.rw_solvedbothsides_k35_tables_turned) rfl rfl (fun w h Y => PySem.W.kIn_of Y) ?F
  case F =>
    intro w mg fa h KX G hmg
    refine' LK.all_mk KX G hmg ?a1 ?l1 ?c1 ?k1 ?a2 ?l2 ?c2 ?k2 ?a3 ?l3 ?c3 ?k3 ?a4 ?l4 ?c4 ?k4 ?a5 ?l5 ?c5 ?k5 ?a6 ?l6 ?c6 ?k6 ?a7 ?l7 ?c7 ?k7 ?a8 ?l8 ?c8 ?k8 ?a9 ?l9 ?c9 ?k9 ?a10 ?l10 ?c10 ?k10 ?a11 ?l11 ?c11 ?k11 ?a12 ?l12 ?c12 ?k12 ?a13 ?l13 ?c13 ?k13 ?z1 ?z2 ?z3 ?z4 ?z5 ?z6 ?z7 ?z8 ?z9 ?z10
    (case a1 => k_is)
    (case l1 => k_is)
    (case c1 => k_is)
    (case k1 => k_is)
    (case a2 => k_is)
    (case l2 => k_is)
    (case c2 => k_is)
    (case k2 => k_is)
    (case a3 => k_is)
    (case l3 => k_is)
    (case c3 => k_is)
    (case k3 => k_is)
    (case a4 => k_is)
    (case l4 => k_is)
    (case c4 => k_is)
    (case k4 => k_is)
    (case a5 => k_is)
    (case l5 => k_is)
    (case c5 => k_is)
    (case k5 => k_is)
    (case a6 => k_is)
    (case l6 => k_is)
    (case c6 => k_is)
    (case k6 => k_is)
    (case a7 => k_is)
    (case l7 => k_is)
    (case c7 => k_is)
    (case k7 => k_is)
    (case a8 => k_is)
    (case l8 => k_is)
    (case c8 => k_is)
    (case k8 => k_is)
    (case a9 => k_is)
    (case l9 => k_is)
    (case c9 => k_is)
    (case k9 => k_is)
    (case a10 => k_is)
    (case l10 => k_is)
    (case c10 => k_is)
    (case k10 => k_is)
    (case a11 => k_is)
    (case l11 => k_is)
    (case c11 => k_is)
    (case k11 => k_is)
    (case a12 => k_is)
    (case l12 => k_is)
    (case c12 => k_is)
    (case k12 => k_is)
    (case a13 => k_is)
    (case l13 => k_is)
    (case c13 => k_is)
    (case k13 => k_is)
    (case z1 => k_is)
    (case z2 => k_is)
    (case z3 => k_is)
    (case z4 => k_is)
    (case z5 => k_is)
    (case z6 => k_is)
    (case z7 => k_is)
    (case z8 => k_is)
    (case z9 => k_is)
    (case z10 => k_is)
