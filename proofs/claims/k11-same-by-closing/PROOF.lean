import PyProof.Rows.All
import Wide.All
import OpenK.AllK
import Wide.FinOn
import HandS.ForMost
import HandS.Walk
import HandS.Wide
import PyProof.ReprRoads
import HandS.TupAny
import HandS.Strs
import KE.KIndexOf
import KE.KIndexWalk
import KE.Datum
import HandS.Style
import HandS.Zip
import HandS.SetFor
import HandS.TupMul
import HandS.Exc
import HandS.ExcInit
import HandS.TupLe
import HandS.IsInst
import HandS.Deep
import HandS.Conv
import HandS.SortInts
import HandS.NoneIn
import HandS.Small
import PyProof.Rows.ReprShort
import KE.GoesMore
import PyProof.ReprLen
import PyProof.Rows.ReprOcc
import PyProof.NeKinds
import HandS.TupSets
import KE.KDictSum
import HandS.ExcValue
import HandS.Text
import KE.DataMinMax
import PyProof.StrBlock2
import HandS.FStr
import HandS.ExcField
import HandS.Dict
import KE.SortData
import PySem.Challenge.RW_solvedbothsides_k11_same_by_closing
set_option Elab.async false
set_option linter.all false
set_option maxRecDepth 100000
set_option autoImplicit false
set_option maxHeartbeats 4000000
/-! Tuples that are known to carry no dict of their own: what makes them, and their methods. -/
namespace DL
open PySem PySem.Spec PyProof.Rows L2

def SqZ (K : PySem.W.Frag) (H : Hp) (a : Addr) (xs : List V) : Prop :=
  (∃ o, H a = some (.frz o (.tup xs)) ∧ o.dict = none) ∨ (∃ (o : Obj) (its : Array Value) (n : Nat), K.lookup a = some o ∧ o.cls = .type "tuple" ∧ o.dict = none ∧ o.data = .seq its n ∧ its.size ≤ sizeLine ∧ Vals xs its.toList)
theorem SqZ.t {K : PySem.W.Frag} {H : Hp} {a : Addr} {xs : List V} (h : SqZ K H a xs) : SqT K H a xs := by
  rcases h with ⟨o, h, _⟩ | ⟨o, its, n, h1, h2, _, h4, h5, h6⟩
  · exact .inl (.inr ⟨o, h⟩)
  · exact .inr ⟨o, its, n, h1, h2, h4, h5, h6⟩
section
variable {X : Cx} {es : List Expr} {t : TA} {pos : Pos}
theorem SqZ.ty {pins : List (Addr × Obj)} {σ : L2.St} {H : Hp} {s : Shared} {a : Addr} {xs : List V} (I : Inv X pins σ H s) (h : SqZ X.K H a xs) : s.TypeIs (.ref a) "tuple" ∧ ∀ b, Value.ref a = .ref b → ∃ ob, s.heap.get? b = some ob ∧ ob.dict = none := by
  rcases h with ⟨o, h, hd⟩ | ⟨o, its, n, h1, h2, hd, h4, h5, h6⟩
  · obtain ⟨e, hz, us, r, ⟨o', e', hc, _⟩⟩ := I.hok a _ h
    rw [e] at e'; cases e'
    exact ⟨⟨o, e, hc⟩, fun b z => by cases z; exact ⟨o, e, hd⟩⟩
  · exact ⟨⟨o, I.kIn a o h1, h2⟩, fun b z => by cases z; exact ⟨o, I.kIn a o h1, hd⟩⟩
def zTup (t : TA) : TE := fun σ H Q => t σ H fun xs H1 => xs.length ≤ sizeLine ∧ ∀ p o, H1 p = none → o.dict = none → Q (.ref p) (upd H1 p (.frz o (.tup xs)))
theorem pe_tupZ {x1} (h : PA X es t) : PE X (.Tuple es x1 pos) (zTup t) := by
  refine ⟨fun pins s σ H Q I hq => ?_⟩
  refine wpAny_Tuple_spliced (thn (h.run pos pins s σ H _ I hq) fun us s1 ⟨xs, H1, I1, r, z, q⟩ => ⟨by rw [← r.length]; exact z, ?_⟩)
  have hf : H1 s1.heap.objs.size = none := I1.hok.fresh (Nat.le_refl _)
  refine ⟨.ref s1.heap.objs.size, _, I1.laid (t' := s1.toks) (fun b u e => Heap.get?_push_of_some _ e) (Nat.le_refl _) ?_, rfl, q _ { cls := .type "tuple", data := .seq us.toArray } hf rfl⟩
  exact ⟨Heap.get?_push_size _ rfl, z, us, r, ⟨_, Heap.get?_push_size _ rfl, rfl, _, rfl⟩⟩
theorem call_tupleZ : CallR X (.type "tuple") (fun xs H Q => ∃ p ys, xs = [.ref p] ∧ ((SqL X.K H p ys ∧ ∀ l o, H l = none → o.dict = none → Q (.ref l) (upd H l (.frz o (.tup ys)))) ∨ (SqT X.K H p ys ∧ Q (.ref p) H))) := by
  intro pins s σ H xs us Q I r h
  obtain ⟨p, ys, rfl, h⟩ := h
  obtain ⟨u, rfl, rx⟩ := vals1 r
  cases rx
  rcases h with ⟨hq, q⟩ | ⟨hq, q⟩
  · obtain ⟨its, r', pl, hz⟩ := I.list hq
    have hlen := r'.length
    refine call_tuple_list pl.isList (fun h' kp => ?_) (by simp only [List.size_toArray] <;> omega)
    have I1 : Inv X pins σ H { s with heap := h' } := I.kept (t' := s.toks) kp
    have I2 : Inv X pins σ (upd H h'.objs.size (.frz { cls := .type "tuple", data := .seq its.toArray } (.tup ys))) { s with heap := h'.push { cls := .type "tuple", data := .seq its.toArray } } :=
      I1.laid (t' := s.toks) (fun b o e => Heap.get?_push_of_some _ e) (Nat.le_refl _) (show ObjOk X.prog X.w _ _ _ (.frz _ (.tup ys)) from ⟨Heap.get?_push_size _ rfl, hz, its, r', IsTup.new _ _⟩)
    exact ⟨.ref h'.objs.size, _, I2, rfl, q _ _ (I1.hok.fresh (Nat.le_refl _)) rfl⟩
  · obtain ⟨its, r', pl, hz⟩ := I.tuple hq
    exact call_tuple_same pl ⟨.ref p, H, I, rfl, q⟩
def zCat (K : PySem.W.Frag) : R2 := fun x y H Q => ∃ a b xs ys, x = .ref a ∧ y = .ref b ∧ SqT K H a xs ∧ SqT K H b ys ∧ xs.length + ys.length ≤ sizeLine ∧
  (xs = [] → Q (.ref b) H) ∧ (xs ≠ [] → ys = [] → Q (.ref a) H) ∧ (xs ≠ [] → ys ≠ [] → ∀ p o, H p = none → o.dict = none → Q (.ref p) (upd H p (.frz o (.tup (xs ++ ys)))))
theorem op_catZ : OpR X (binaryOp .Add) (zCat X.K) := by
  intro pins s σ H x y v u Q I rx ry h
  obtain ⟨a, b, xs, ys, rfl, rfl, ha, hb, hz, q0, q1, q2⟩ := h
  cases rx
  cases ry
  obtain ⟨its, r1, p1, _⟩ := I.tuple ha
  obtain ⟨its2, r2, p2, _⟩ := I.tuple hb
  by_cases hx : xs = []
  · subst hx
    cases r1
    exact cat_tup0 p1 p2 ⟨.ref b, H, I, rfl, q0 rfl⟩
  · refine HT.cat_tup p1 p2 (fun z => hx (r1.nil_iff.mp z)) (fun z => ⟨.ref a, H, I, rfl, q1 hx (r2.nil_iff.mp z)⟩) (fun z => ?_) (by rw [← r1.length, ← r2.length]; exact hz)
    refine ⟨.ref s.heap.objs.size, _, I.laid (t' := s.toks) (o := .frz { cls := .type "tuple", data := .seq (its ++ its2).toArray } (.tup (xs ++ ys))) (fun b ob q => Heap.get?_push_of_some _ q) (Nat.le_refl _) ?_, rfl, q2 hx (fun w => z (r2.nil_iff.mpr w)) _ _ (I.hok.fresh (Nat.le_refl _)) rfl⟩
    refine ⟨?_, by rw [List.length_append]; exact hz, _, r1.append r2, ?_⟩
    · exact Heap.get?_push_size _ rfl
    · exact IsTup.new _ _
def zSl (K : PySem.W.Frag) : V → Option Int → Option Int → Hp → VK → Prop := fun x lo hi H Q => ∃ a xs, x = .ref a ∧ SqT K H a xs ∧
  (HT.sIx xs.length 0 lo = 0 ∧ HT.sIx xs.length xs.length hi = xs.length → Q (.ref a) H) ∧ (¬ (HT.sIx xs.length 0 lo = 0 ∧ HT.sIx xs.length xs.length hi = xs.length) → ∀ p o, H p = none → o.dict = none → Q (.ref p) (upd H p (.frz o (.tup (cutV xs lo hi)))))
theorem sl_tupZ : SlR X (zSl X.K) := by
  intro pins s σ H x v vl vu lo hi sl Q I rx hs pl pu h
  obtain ⟨a, xs, rfl, hx, q1, q2⟩ := h
  by_cases hw : HT.sIx xs.length 0 lo = 0 ∧ HT.sIx xs.length xs.length hi = xs.length
  · exact sl_tupA pins s σ H _ v vl vu lo hi sl Q I rx hs pl pu ⟨a, xs, rfl, hx, fun _ => q1 hw, fun z => absurd hw z⟩
  · cases rx
    obtain ⟨its, r, ht, hz⟩ := I.tuple hx
    have hlen : its.toArray.size = xs.length := by rw [List.size_toArray]; exact r.length.symm
    refine ⟨"tuple", _, PyProof.Rows.slot_tuple_getitem.lookup, ht.typeIs, ?_⟩
    refine HT.getItem_tuple_cut ht hs pl pu (by rw [hlen]; exact hw) ?_ (by rw [hlen]; exact hz)
    rw [hlen]
    refine ⟨.ref s.heap.objs.size, _, I.laid (t' := s.toks) (o := .frz ⟨.type "tuple", none, .seq ((its.drop (HT.sIx xs.length 0 lo)).take (HT.sIx xs.length xs.length hi - HT.sIx xs.length 0 lo)).toArray 0, #[]⟩ (.tup (cutV xs lo hi))) (fun b ob q => Heap.get?_push_of_some _ q) (Nat.le_refl _) ?_, rfl, q2 hw _ _ (I.hok.fresh (Nat.le_refl _)) rfl⟩
    · exact ⟨Heap.get?_push_size _ rfl, Nat.le_trans (cutV_length xs lo hi) hz, _, (r.drop (HT.sIx xs.length 0 lo)).take (HT.sIx xs.length xs.length hi - HT.sIx xs.length 0 lo), IsTup.new _ _⟩
/-- t.m(e, ..), t a tuple -/
def zTM (K : PySem.W.Frag) (r : V → List V → Hp → VK → Prop) (to : TE) (t : TA) : TE := fun σ H Q => to σ H fun x H1 => (∃ a xs, x = .ref a ∧ SqZ K H1 a xs) ∧ t σ H1 fun xs H2 => r x xs H2 Q
variable {o e : Expr} {to : TE} {name : Str} {apos cpos : Pos} {id : String} {r : V → List V → Hp → VK → Prop}
theorem pe_tm (slot : Slot "tuple" name id) (hty : typeOf (.builtin id) = pure (.type "method_descriptor")) (hm : MtR X id r) (ho : PE X o to) (ha : PA X (e :: es) t)
    (hbase : attributeBase o name X.env (eval o X.env) = eval o X.env := by rfl)
    (hfew : ((backTo cpos (starEach (e :: es) X.env)).all (fun x => !x.1) && (backToKw cpos (keywordEach [] X.env)).all (fun x => x.1.isSome)
      && decide ((e :: es).length + ([] : List Keyword).length + (if ([] : List Keyword).isEmpty then 0 else 1) < 30)) = true := by rfl)
    (hline : (apos.endLine == cpos.line) = true := by rfl) (hs : starEach (e :: es) X.env = (false, eval e X.env) :: starEach es X.env := by rfl) (hplain : (backTo cpos (starEach es X.env)).any (·.1) = false := by rfl) :
    PE X (.Call (.Attribute o name apos) (e :: es) [] cpos) (zTM X.K r to t) := by
  refine ⟨fun pins s σ H Q I h => ?_⟩
  refine wpAny_Call_method_late hbase hfew hline rfl (thn (ho.run pins s σ H _ I h) fun v s1 ⟨x, H1, I1, r1, ⟨a, zs, ex, hz⟩, q1⟩ => ?_)
  subst ex
  cases r1
  obtain ⟨h1, h2⟩ := hz.ty I1
  refine ⟨"tuple", id, PySem.F.plainAttrs_tuple, slot, hty, h1, h2, ?_⟩
  have hA := ha.run cpos pins s1 σ H1 _ I1 q1
  rw [hs] at hA ⊢
  refine Calls.callWith_builtin (by show (false || (backTo cpos (starEach es X.env)).any (·.1)) = false; rw [hplain] <;> rfl) (Calls.evalArgs_plain ?_)
  exact thn hA fun us s2 ⟨vs, H2, I2, r2, q2⟩ => hm pins s2 σ H2 (.ref a) vs _ us Q I2 rfl r2 q2
/-- index, count of whole numbers -/
theorem mt_tindex : MtR X "tuple.index" (fun x xs H Q => ∃ p, ∃ ns : List Int, ∃ i, x = .ref p ∧ xs = [.int i] ∧ SqT X.K H p (ns.map V.int) ∧ i ∈ ns ∧ Q (.int (ns.idxOf i : Nat)) H) := by
  intro pins s σ H x xs v us Q I rx rs h
  obtain ⟨p, ns, i, rfl, rfl, hq, hy, q⟩ := h
  cases rx
  obtain ⟨u, rfl, t, rfl⟩ := vals1 rs
  obtain ⟨its, r, pl, hz⟩ := I.tuple hq
  exact SeqAt.tuple_index_ints (vs := its) pl (intsAre_of r) hy ⟨.int _, H, I.tok _, ⟨_, rfl⟩, q⟩
theorem mt_tcount : MtR X "tuple.count" (fun x xs H Q => ∃ p, ∃ ns : List Int, ∃ i, x = .ref p ∧ xs = [.int i] ∧ SqT X.K H p (ns.map V.int) ∧ Q (.int (ns.count i : Nat)) H) := by
  intro pins s σ H x xs v us Q I rx rs h
  obtain ⟨p, ns, i, rfl, rfl, hq, q⟩ := h
  cases rx
  obtain ⟨u, rfl, t, rfl⟩ := vals1 rs
  obtain ⟨its, r, ⟨⟨cls, dd, dt, sl⟩, ho, hc, n, hd⟩, _⟩ := I.tuple hq
  simp only at hc hd
  subst hc
  subst hd
  have hi : IntsAre its.toArray.toList ns := intsAre_of r
  refine call_meets PySem.F.slot_tuple_count ⟨_, ho, rfl⟩ PySem.F.entry_tuple_count (PySem.F.args_tuple_count_2 _ _)
    (SeqAt.tuple_countAt p its.toArray n dd sl (.int i t) (eqk i)) ⟨ho, fun y hy => (eqk_gives hi y (by simpa using hy)).at _ _, ?_⟩
  have ec : its.toArray.toList.countP (eqk i) = ns.count i := eqk_count hi
  rw [ec]
  exact ⟨.int (ns.count i : Nat), H, I.tok _, ⟨s.toks, rfl⟩, q⟩
end
end DL

/-! A layer of my own over HandS: tuples (and lists that never change) are values (D); only what changes stands in a heap (Mp). -/
namespace DL
open PySem L2

/-! ### data -/
inductive D where
  | non | bl (b : Bool) | int (i : Int) | str (x : Str) | tup (ds : List D) | fl (ds : List D) | ref (a : Addr) | ty (n : String) | pr (ds : List D)
  /-- a caught exception at a, its dict at d -/
  | xo (a d : Addr) (ns : List Str) (ds : List D)
  /-- an exception of the class at C held as a value at a, its dict at od -/
  | ev (C a : Addr) (od : Option Addr) (ns : List Str) (ds : List D)
  /-- a tuple made to be a key -/
  | kt (ks : List Key)

/-- a list that nobody writes -/
def Fro (K : PySem.W.Frag) (H : Hp) (a : Addr) (xs : List V) : Prop :=
  (∃ o, H a = some (.frz o (.lst xs))) ∨ (∃ (o : Obj) (its : Array Value) (n : Nat), K.lookup a = some o ∧ o.cls = .type "list" ∧ o.dict = none ∧ o.data = .seq its n ∧ its.size ≤ sizeLine ∧ Vals xs its.toList)
theorem Fro.sq {K : PySem.W.Frag} {H : Hp} {a : Addr} {xs : List V} (h : Fro K H a xs) : SqL K H a xs := by
  rcases h with ⟨o, h⟩ | h
  · exact .inl (.inr ⟨o, h⟩)
  · exact .inr h

mutual
inductive Fz (K : PySem.W.Frag) (H : Hp) : V → D → Prop
  | non : Fz K H .non .non
  | bl (b : Bool) : Fz K H (.bl b) (.bl b)
  | int (i : Int) : Fz K H (.int i) (.int i)
  | str (x : Str) : Fz K H (.str x) (.str x)
  | ref (a : Addr) : Fz K H (.ref a) (.ref a)
  | ty (n : String) : Fz K H (.ty n) (.ty n)
  | tup {a : Addr} {xs : List V} {ds : List D} : SqZ K H a xs → FzAll K H xs ds → Fz K H (.ref a) (.tup ds)
  | pr {a : Addr} {xs : List V} {ds : List D} : SqT K H a xs → FzAll K H xs ds → Fz K H (.ref a) (.pr ds)
  | fl {a : Addr} {xs : List V} {ds : List D} : Fro K H a xs → FzAll K H xs ds → Fz K H (.ref a) (.fl ds)
  | xo {a d : Addr} {ns : List Str} {xs : List V} {ds : List D} : H d = some (.xd (ns.zip xs)) → FzAll K H xs ds → Fz K H (.ref a) (.xo a d ns ds)
  | ev0 {C a : Addr} : H a = some (exo a C none) → Fz K H (.ref a) (.ev C a none [] [])
  | ev1 {C a d : Addr} {ns : List Str} {xs : List V} {ds : List D} : H a = some (exo a C (some d)) → H d = some (exd d (ns.zip xs)) → FzAll K H xs ds → Fz K H (.ref a) (.ev C a (some d) ns ds)
  | kt {a : Addr} {ks : List Key} : H a = some (.tup (ks.map kV)) → Fz K H (.ref a) (.kt ks)
inductive FzAll (K : PySem.W.Frag) (H : Hp) : List V → List D → Prop
  | nil : FzAll K H [] []
  | cons {v : V} {vs : List V} {d : D} {ds : List D} : Fz K H v d → FzAll K H vs ds → FzAll K H (v :: vs) (d :: ds)
end

/-- tuples stay tuples, what is not written stays -/
structure Tups (K : PySem.W.Frag) (H H' : Hp) : Prop where
  t : ∀ a xs, SqZ K H a xs → SqZ K H' a xs
  f : ∀ a xs, Fro K H a xs → Fro K H' a xs
  w : ∀ a xs, SqT K H a xs → SqT K H' a xs
  x : ∀ a gs, H a = some (.xd gs) → H' a = some (.xd gs)
  e : ∀ a φ, H a = some (.ext φ) → H' a = some (.ext φ)
  u : ∀ a xs, H a = some (.tup xs) → H' a = some (.tup xs)
theorem Tups.refl {K : PySem.W.Frag} (H : Hp) : Tups K H H := ⟨fun _ _ h => h, fun _ _ h => h, fun _ _ h => h, fun _ _ h => h, fun _ _ h => h, fun _ _ h => h⟩
theorem Tups.trans {K : PySem.W.Frag} {H H1 H2 : Hp} (a : Tups K H H1) (b : Tups K H1 H2) : Tups K H H2 := ⟨fun c xs h => b.t c xs (a.t c xs h), fun c xs h => b.f c xs (a.f c xs h), fun c xs h => b.w c xs (a.w c xs h), fun c xs h => b.x c xs (a.x c xs h), fun c φ h => b.e c φ (a.e c φ h), fun c xs h => b.u c xs (a.u c xs h)⟩
theorem Tups.of_keep {K : PySem.W.Frag} {H H' : Hp} (h1 : ∀ a xs, H a = some (.tup xs) → H' a = some (.tup xs)) (h2 : ∀ a o u, H a = some (.frz o u) → H' a = some (.frz o u)) (h3 : ∀ a gs, H a = some (.xd gs) → H' a = some (.xd gs)) (h4 : ∀ a φ, H a = some (.ext φ) → H' a = some (.ext φ)) : Tups K H H' :=
  ⟨fun a xs q => by
    rcases q with ⟨o, q, d⟩ | q
    · exact .inl ⟨o, h2 a o _ q, d⟩
    · exact .inr q, fun a xs q => by
    rcases q with ⟨o, q⟩ | q
    · exact .inl ⟨o, h2 a o _ q⟩
    · exact .inr q, fun a xs q => by
    rcases q with (q | ⟨o, q⟩) | q
    · exact .inl (.inl (h1 a xs q))
    · exact .inl (.inr ⟨o, h2 a o _ q⟩)
    · exact .inr q, h3, h4, h1⟩

mutual
theorem Fz.mono {K : PySem.W.Frag} {H H' : Hp} (t : Tups K H H') : ∀ (d : D) (v : V), Fz K H v d → Fz K H' v d
  | .non, _, h => by cases h; exact .non
  | .bl _, _, h => by cases h; exact .bl _
  | .int _, _, h => by cases h; exact .int _
  | .str _, _, h => by cases h; exact .str _
  | .ref _, _, h => by cases h; exact .ref _
  | .ty _, _, h => by cases h; exact .ty _
  | .tup ds, _, h => by
    cases h with
    | tup hs ha => exact .tup (t.t _ _ hs) (FzAll.mono t ds _ ha)
  | .pr ds, _, h => by
    cases h with
    | pr hs ha => exact .pr (t.w _ _ hs) (FzAll.mono t ds _ ha)
  | .fl ds, _, h => by
    cases h with
    | fl hs ha => exact .fl (t.f _ _ hs) (FzAll.mono t ds _ ha)
  | .xo _ _ _ ds, _, h => by
    cases h with
    | xo hs ha => exact .xo (t.x _ _ hs) (FzAll.mono t ds _ ha)
  | .ev _ _ _ _ ds, _, h => by
    cases h with
    | ev0 h => exact .ev0 (t.e _ _ h)
    | ev1 h hd ha => exact .ev1 (t.e _ _ h) (t.e _ _ hd) (FzAll.mono t ds _ ha)
  | .kt ks, _, h => by
    cases h with
    | kt h => exact .kt (t.u _ _ h)
theorem FzAll.mono {K : PySem.W.Frag} {H H' : Hp} (t : Tups K H H') : ∀ (ds : List D) (vs : List V), FzAll K H vs ds → FzAll K H' vs ds
  | [], _, h => by cases h; exact .nil
  | d :: ds, _, h => by
    cases h with
    | cons h1 h2 => exact .cons (Fz.mono t d _ h1) (FzAll.mono t ds _ h2)
end
theorem Fz.up {K : PySem.W.Frag} {H H' : Hp} {v : V} {d : D} (h : Fz K H v d) (t : Tups K H H') : Fz K H' v d := Fz.mono t d v h
theorem FzAll.up {K : PySem.W.Frag} {H H' : Hp} {vs : List V} {ds : List D} (h : FzAll K H vs ds) (t : Tups K H H') : FzAll K H' vs ds := FzAll.mono t ds vs h
section
variable {K : PySem.W.Frag} {H : Hp}
theorem FzAll.length : ∀ {vs : List V} {ds : List D}, FzAll K H vs ds → vs.length = ds.length
  | _, _, .nil => rfl
  | _, _, .cons _ t => by rw [List.length_cons, List.length_cons, FzAll.length t]
theorem FzAll.get : ∀ {vs : List V} {ds : List D} {i : Nat} {d : D}, FzAll K H vs ds → ds[i]? = some d → ∃ v, vs[i]? = some v ∧ Fz K H v d
  | _, _, _, _, .nil, e => by simp at e
  | _, _, 0, _, .cons r _, e => by simp at e; subst e; exact ⟨_, rfl, r⟩
  | _, _, i + 1, d, .cons _ t, e => by
    obtain ⟨v, h1, h2⟩ := FzAll.get (i := i) (d := d) t (by simpa using e)
    exact ⟨v, by simpa using h1, h2⟩
theorem FzAll.getV : ∀ {vs : List V} {ds : List D} {i : Nat} {v : V}, FzAll K H vs ds → vs[i]? = some v → ∃ d, ds[i]? = some d ∧ Fz K H v d
  | _, _, _, _, .nil, e => by simp at e
  | _, _, 0, _, .cons r _, e => by simp at e; subst e; exact ⟨_, rfl, r⟩
  | _, _, i + 1, v, .cons _ t, e => by
    obtain ⟨d, h1, h2⟩ := FzAll.getV (i := i) (v := v) t (by simpa using e)
    exact ⟨d, by simpa using h1, h2⟩
theorem FzAll.append : ∀ {xs ys : List V} {as bs : List D}, FzAll K H xs as → FzAll K H ys bs → FzAll K H (xs ++ ys) (as ++ bs)
  | _, _, _, _, .nil, s => s
  | _, _, _, _, .cons r t, s => .cons r (FzAll.append t s)
theorem FzAll.set {v : V} {d : D} (r : Fz K H v d) : ∀ {xs : List V} {as : List D} (i : Nat), FzAll K H xs as → FzAll K H (xs.set i v) (as.set i d)
  | _, _, _, .nil => .nil
  | _, _, 0, .cons _ t => .cons r t
  | _, _, i + 1, .cons q t => .cons q (FzAll.set r i t)
theorem FzAll.drop : ∀ {xs : List V} {as : List D} (n : Nat), FzAll K H xs as → FzAll K H (xs.drop n) (as.drop n)
  | _, _, 0, r => r
  | _, _, _ + 1, .nil => .nil
  | _, _, n + 1, .cons _ t => FzAll.drop n t
theorem FzAll.take : ∀ {xs : List V} {as : List D} (n : Nat), FzAll K H xs as → FzAll K H (xs.take n) (as.take n)
  | _, _, 0, _ => .nil
  | _, _, _ + 1, .nil => .nil
  | _, _, n + 1, .cons r t => .cons r (FzAll.take n t)
theorem FzAll.eraseIdx : ∀ {xs : List V} {as : List D} (i : Nat), FzAll K H xs as → FzAll K H (xs.eraseIdx i) (as.eraseIdx i)
  | _, _, _, .nil => .nil
  | _, _, 0, .cons _ t => t
  | _, _, i + 1, .cons q t => .cons q (FzAll.eraseIdx i t)
theorem FzAll.ints : ∀ {vs : List V} {ns : List Int}, FzAll K H vs (ns.map D.int) → vs = ns.map V.int
  | _, [], .nil => rfl
  | _, _ :: _, .cons (.int _) t => by rw [FzAll.ints t]; rfl
theorem FzAll.of_ints : ∀ {ns : List Int}, FzAll K H (ns.map V.int) (ns.map D.int)
  | [] => .nil
  | _ :: _ => .cons (.int _) FzAll.of_ints
theorem FzAll.bls : ∀ {vs : List V} {ns : List Bool}, FzAll K H vs (ns.map D.bl) → vs = ns.map V.bl
  | _, [], .nil => rfl
  | _, _ :: _, .cons (.bl _) t => by rw [FzAll.bls t]; rfl
theorem FzAll.strs : ∀ {vs : List V} {ns : List Str}, FzAll K H vs (ns.map D.str) → vs = ns.map V.str
  | _, [], .nil => rfl
  | _, _ :: _, .cons (.str _) t => by rw [FzAll.strs t]; rfl
end

/-! ### what may change -/
inductive MO where
  | lst (ds : List D)
  | dct (kvs : List (Key × D))
  | dctT (kvs : List (List Key × D))
  | ins (C : Addr) (dx : Addr) (fs : List (Str × D))
  /-- something that stands there and is not touched -/
  | opq
abbrev Mp := Addr → Option MO
def updM (M : Mp) (a : Addr) (o : MO) : Mp := fun b => if b = a then some o else M b
theorem updM_same {M : Mp} {a : Addr} {o : MO} : updM M a o a = some o := by unfold updM; rw [if_pos rfl]
theorem updM_ne {M : Mp} {a b : Addr} {o : MO} (h : b ≠ a) : updM M a o b = M b := by unfold updM; rw [if_neg h]
theorem updM_upd {M : Mp} {a : Addr} {o u : MO} : updM (updM M a o) a u = updM M a u := by funext b; unfold updM; split <;> rfl
theorem updM_self {M : Mp} {a : Addr} {o : MO} (h : M a = some o) : updM M a o = M := by funext b; unfold updM; split <;> simp_all
theorem updM_comm {M : Mp} {a b : Addr} {o u : MO} (h : a ≠ b) : updM (updM M a o) b u = updM (updM M b u) a o := by
  funext c
  unfold updM
  by_cases h1 : c = a
  · subst h1
    rw [if_neg h, if_pos rfl, if_pos rfl]
  · rw [if_neg h1]
    by_cases h2 : c = b
    · rw [if_pos h2, if_neg h1]
    · rw [if_neg h2, if_neg h1]
theorem ne_none {M : Mp} {a b : Addr} {o : MO} (h : M a = some o) (h' : M b = none) : a ≠ b := by
  intro e; subst e; rw [h] at h'; cases h'

abbrev KFz {κ : Type} (K : PySem.W.Frag) (H : Hp) : List (κ × V) → List (κ × D) → Prop := Paired fun (p : κ × V) (q : κ × D) => p.1 = q.1 ∧ Fz K H p.2 q.2
theorem KFz.up {κ : Type} {K : PySem.W.Frag} {H H' : Hp} (t : Tups K H H') {l : List (κ × V)} {m : List (κ × D)} (h : KFz K H l m) : KFz K H' l m := Paired.mapP h fun _ _ z => ⟨z.1, z.2.up t⟩
/-- what stands in H at a, as o says -/
def MoOk (K : PySem.W.Frag) (H : Hp) (u : HO) : MO → Prop
  | .lst ds => ∃ xs, u = .lst xs ∧ FzAll K H xs ds
  | .dct kvs => ∃ xs, u = .dK xs ∧ KFz K H xs kvs
  | .dctT kvs => ∃ xs, u = .dT xs ∧ KFz K H xs kvs
  | .ins C dx fs => ∃ gs, u = .ins C dx gs ∧ KFz K H gs fs
  | .opq => True
theorem MoOk.up {K : PySem.W.Frag} {H H' : Hp} {u : HO} {o : MO} (t : Tups K H H') (h : MoOk K H u o) : MoOk K H' u o := by
  cases o with
  | lst ds => obtain ⟨xs, e, f⟩ := h; exact ⟨xs, e, f.up t⟩
  | dct kvs => obtain ⟨xs, e, f⟩ := h; exact ⟨xs, e, KFz.up t f⟩
  | dctT kvs => obtain ⟨xs, e, f⟩ := h; exact ⟨xs, e, KFz.up t f⟩
  | ins C dx fs => obtain ⟨xs, e, f⟩ := h; exact ⟨xs, e, KFz.up t f⟩
  | opq => exact True.intro
def MemOk (K : PySem.W.Frag) (H : Hp) (M : Mp) : Prop := ∀ a o, M a = some o → ∃ u, H a = some u ∧ MoOk K H u o
theorem MemOk.none {K : PySem.W.Frag} {H : Hp} {M : Mp} {a : Addr} (m : MemOk K H M) (h : H a = none) : M a = none := by
  cases e : M a with
  | none => rfl
  | some o =>
    obtain ⟨u, q, _⟩ := m a o e
    rw [h] at q
    cases q
theorem MoOk.mut {K : PySem.W.Frag} {H : Hp} {u : HO} {o : MO} (h : MoOk K H u o) (ho : o ≠ .opq) : Mut (some u) := by
  cases o with
  | lst ds => obtain ⟨xs, rfl, f⟩ := h; exact True.intro
  | dct kvs => obtain ⟨xs, rfl, f⟩ := h; exact True.intro
  | dctT kvs => obtain ⟨xs, rfl, f⟩ := h; exact True.intro
  | ins C dx fs => obtain ⟨xs, rfl, f⟩ := h; exact True.intro
  | opq => exact absurd rfl ho

/-! ### a step: what is not told stays -/
structure Step (K : PySem.W.Frag) (H : Hp) (M : Mp) (H' : Hp) (M' : Mp) : Prop where
  mem : MemOk K H' M'
  tups : Tups K H H'
  fr : ∀ a u, H a = some u → M a = none → H' a = some u ∧ M' a = none
section
variable {K : PySem.W.Frag} {H H1 H2 : Hp} {M M1 M2 : Mp} {p a : Addr} {u : HO} {o o' : MO}
theorem Step.refl (m : MemOk K H M) : Step K H M H M := ⟨m, .refl H, fun _ _ h n => ⟨h, n⟩⟩
theorem Step.trans (s : Step K H M H1 M1) (t : Step K H1 M1 H2 M2) : Step K H M H2 M2 := ⟨t.mem, s.tups.trans t.tups, fun a u h n => let q := s.fr a u h n; t.fr a u q.1 q.2⟩
theorem Tups.new (hp : H p = none) : Tups K H (upd H p u) := .of_keep (fun a xs q => by rw [upd_ne (ne_of_none q hp)]; exact q) (fun a o v q => by rw [upd_ne (ne_of_none q hp)]; exact q) (fun a gs q => by rw [upd_ne (ne_of_none q hp)]; exact q) (fun a φ q => by rw [upd_ne (ne_of_none q hp)]; exact q)
/-- a new object that nobody tracks (a tuple) -/
theorem Step.newT (m : MemOk K H M) (hp : H p = none) : Step K H M (upd H p u) M := by
  have t : Tups K H (upd H p u) := .new hp
  refine ⟨fun a o e => ?_, t, fun a v h n => ⟨by rw [upd_ne (ne_of_none h hp)]; exact h, n⟩⟩
  obtain ⟨v, q, z⟩ := m a o e
  exact ⟨v, by rw [upd_ne (ne_of_none q hp)]; exact q, z.up t⟩
/-- a new object, tracked -/
theorem Step.newM (m : MemOk K H M) (hp : H p = none) (h : MoOk K H u o) : Step K H M (upd H p u) (updM M p o) := by
  have t : Tups K H (upd H p u) := .new hp
  have s : Step K H M (upd H p u) M := .newT m hp
  refine ⟨fun a o' e => ?_, t, fun a v h n => ⟨(s.fr a v h n).1, by rw [updM_ne (ne_of_none h hp)]; exact n⟩⟩
  by_cases ha : a = p
  · subst ha
    rw [updM_same] at e
    cases e
    exact ⟨u, upd_same, h.up t⟩
  · rw [updM_ne ha] at e
    exact s.mem a o' e
/-- a tracked object changes -/
theorem Step.wr (m : MemOk K H M) (hp : M p = some o') (ho : o' ≠ .opq) (h : MoOk K H u o) : Step K H M (upd H p u) (updM M p o) := by
  obtain ⟨v, hv, mv⟩ := m p o' hp
  have mu := mv.mut ho
  have t : Tups K H (upd H p u) := .of_keep (fun a xs q => by
    rw [upd_ne]
    · exact q
    · rintro rfl
      rw [q] at hv; cases hv
      exact mu) (fun a ob w q => by
    rw [upd_ne]
    · exact q
    · rintro rfl
      rw [q] at hv; cases hv
      exact mu) (fun a gs q => by
    rw [upd_ne]
    · exact q
    · rintro rfl
      rw [q] at hv; cases hv
      exact mu) (fun a φ q => by
    rw [upd_ne]
    · exact q
    · rintro rfl
      rw [q] at hv; cases hv
      cases o' with
      | lst ds => obtain ⟨xs, z, _⟩ := mv; cases z
      | dct kvs => obtain ⟨xs, z, _⟩ := mv; cases z
      | dctT kvs => obtain ⟨xs, z, _⟩ := mv; cases z
      | ins C dx fs => obtain ⟨xs, z, _⟩ := mv; cases z
      | opq => exact absurd rfl ho)
  refine ⟨fun a o2 e => ?_, t, fun a w h n => ?_⟩
  · by_cases ha : a = p
    · subst ha
      rw [updM_same] at e
      cases e
      exact ⟨u, upd_same, h.up t⟩
    · rw [updM_ne ha] at e
      obtain ⟨w, q, z⟩ := m a o2 e
      exact ⟨w, by rw [upd_ne ha]; exact q, z.up t⟩
  · have ha : a ≠ p := by
      rintro rfl
      rw [n] at hp; cases hp
    exact ⟨by rw [upd_ne ha]; exact h, by rw [updM_ne ha]; exact n⟩
theorem MemOk.lst {ds : List D} (m : MemOk K H M) (h : M a = some (.lst ds)) : ∃ xs, H a = some (.lst xs) ∧ FzAll K H xs ds := by
  obtain ⟨u, q, xs, rfl, f⟩ := m a _ h
  exact ⟨xs, q, f⟩
end

/-! ### readings over data -/
abbrev DSt := List (Option D)
abbrev KD := D → Mp → Prop
abbrev TED := DSt → Mp → KD → Prop
abbrev TTD := DSt → Mp → (Bool → Mp → Prop) → Prop
abbrev TAD := DSt → Mp → (List D → Mp → Prop) → Prop
abbrev XD := Value → List (Str × D) → Mp → Prop
structure EndD where
  nx : DSt → Mp → Prop
  rt : KD
  bk : DSt → Mp → Prop := fun _ _ => False
  ct : DSt → Mp → Prop := fun _ _ => False
  xc : XD := fun _ _ _ => False
abbrev TSD := EndD → DSt → Mp → Prop
/-- the slots -/
structure RelS (K : PySem.W.Frag) (H : Hp) (σ : St) (ρ : DSt) : Prop where
  len : σ.length = ρ.length
  at_ : ∀ (i : Nat) (d : D), ρ[i]? = some (some d) → ∃ v : V, σ[i]? = some (some v) ∧ Fz K H v d
theorem RelS.up {K : PySem.W.Frag} {H H' : Hp} {σ : St} {ρ : DSt} (h : RelS K H σ ρ) (t : Tups K H H') : RelS K H' σ ρ :=
  ⟨h.len, fun i d e => let ⟨v, q, f⟩ := h.at_ i d e; ⟨v, q, f.up t⟩⟩
theorem RelS.set {K : PySem.W.Frag} {H : Hp} {σ : St} {ρ : DSt} (h : RelS K H σ ρ) (i : Nat) {v : V} {d : D} (f : Fz K H v d) : RelS K H (σ.set i (some v)) (ρ.set i (some d)) := by
  refine ⟨by rw [List.length_set, List.length_set, h.len], fun j e q => ?_⟩
  by_cases hj : i = j
  · subst hj
    by_cases hl : i < ρ.length
    · rw [List.getElem?_set_self hl] at q
      cases q
      exact ⟨v, List.getElem?_set_self (by rw [h.len]; exact hl), f⟩
    · rw [List.getElem?_eq_none (by rw [List.length_set]; omega)] at q
      cases q
  · rw [List.getElem?_set_ne hj] at q
    obtain ⟨w, z, g⟩ := h.at_ j e q
    exact ⟨w, by rw [List.getElem?_set_ne hj]; exact z, g⟩
theorem RelS.wipe {K : PySem.W.Frag} {H : Hp} {σ : St} {ρ : DSt} (h : RelS K H σ ρ) (i : Nat) : RelS K H σ (ρ.set i none) := by
  refine ⟨by rw [List.length_set, h.len], fun j e q => ?_⟩
  by_cases hj : i = j
  · subst hj
    by_cases hl : i < ρ.length
    · rw [List.getElem?_set_self hl] at q; cases q
    · rw [List.getElem?_eq_none (by rw [List.length_set]; omega)] at q; cases q
  · rw [List.getElem?_set_ne hj] at q
    exact h.at_ j e q

/-- what follows, said of data, from what follows, said of H -/
def KLe (K : PySem.W.Frag) (H : Hp) (M : Mp) (Q' : KD) (Q : VK) : Prop := ∀ v H' d M', Fz K H' v d → Step K H M H' M' → Q' d M' → Q v H'
def upE (K : PySem.W.Frag) (t : TED) : TE := fun σ H Q => ∃ ρ M Q', RelS K H σ ρ ∧ MemOk K H M ∧ t ρ M Q' ∧ KLe K H M Q' Q
def upT (K : PySem.W.Frag) (t : TTD) : TT := fun σ H Q => ∃ ρ M Q', RelS K H σ ρ ∧ MemOk K H M ∧ t ρ M Q' ∧ ∀ b H' M', Step K H M H' M' → Q' b M' → Q b H'
def upA (K : PySem.W.Frag) (t : TAD) : TA := fun σ H Q => ∃ ρ M Q', RelS K H σ ρ ∧ MemOk K H M ∧ t ρ M Q' ∧ ∀ vs H' ds M', FzAll K H' vs ds → Step K H M H' M' → Q' ds M' → Q vs H'
def XOk (K : PySem.W.Frag) (H : Hp) (od : Option Addr) (fs : List (Str × D)) : Prop := match od with
  | none => fs = []
  | some d => ∃ xs, H d = some (.xd ((fs.map (·.1)).zip xs)) ∧ FzAll K H xs (fs.map (·.2))
/-- the weakest wish about exceptions -/
def Wc (X : Cx) : WX := fun cls d σ H => ∀ u s', L2.XE X (fun c' d' σ' H' => c' = cls ∧ d' = d ∧ σ' = σ ∧ H' = H) u s' → X.xe u s'
theorem takes_c {X : Cx} : L2.Takes X (Wc X) := fun u s' ⟨a, B, sI, pins, σ, H, cls, d, e, I, nb, up, sky, na, os, ag, w⟩ => w u s' ⟨a, B, sI, pins, σ, H, cls, d, e, I, nb, up, sky, na, os, ag, rfl, rfl, rfl, rfl⟩
theorem Wc.of {X : Cx} {W : WX} (t : L2.Takes X W) {cls : Value} {d : Option Addr} {σ : St} {H : Hp} (h : W cls d σ H) : Wc X cls d σ H := fun u s' ⟨a, B, sI, pins, σ1, H1, cls1, d1, e, I, nb, up, sky, na, os, ag, e1, e2, e3, e4⟩ =>
  t u s' ⟨a, B, sI, pins, σ1, H1, cls1, d1, e, I, nb, up, sky, na, os, ag, by subst e1; subst e2; subst e3; subst e4; exact h⟩
structure EndLe (X : Cx) (H : Hp) (M : Mp) (E' : EndD) (E : Ends) : Prop where
  nx : ∀ σ' ρ' H' M', RelS X.K H' σ' ρ' → Step X.K H M H' M' → E'.nx ρ' M' → E.nx σ' H'
  rt : KLe X.K H M E'.rt E.rt
  bk : ∀ σ' ρ' H' M', RelS X.K H' σ' ρ' → Step X.K H M H' M' → E'.bk ρ' M' → E.bk σ' H'
  ct : ∀ σ' ρ' H' M', RelS X.K H' σ' ρ' → Step X.K H M H' M' → E'.ct ρ' M' → E.ct σ' H'
  xc : ∀ cv od σ' H' fs M', XOk X.K H' od fs → Step X.K H M H' M' → E'.xc cv fs M' → Wc X cv od σ' H'
def upS (X : Cx) (t : TSD) : TS := fun E σ H => ∃ ρ M E', RelS X.K H σ ρ ∧ MemOk X.K H M ∧ t E' ρ M ∧ EndLe X H M E' E
abbrev DE (X : Cx) (e : Expr) (t : TED) : Prop := PE X e (upE X.K t)
abbrev DT (X : Cx) (e : Expr) (t : TTD) : Prop := PT X e (upT X.K t)
abbrev DW (X : Cx) (e : Expr) (t : TTD) : Prop := PW X e (upT X.K t)
abbrev DA (X : Cx) (es : List Expr) (t : TAD) : Prop := PA X es (upA X.K t)
abbrev DS (X : Cx) (st : Stmt) (t : TSD) : Prop := PS X st (upS X t)
abbrev DSs (X : Cx) (st : List Stmt) (t : TSD) : Prop := PSs X st (upS X t)
section
variable {X : Cx} {e : Expr} {es : List Expr} {st : Stmt} {sts : List Stmt}
theorem pe_weak {t t' : TE} (h : PE X e t) (w : ∀ σ H Q, t' σ H Q → t σ H Q) : PE X e t' := ⟨fun pins s σ H Q I q => h.run pins s σ H Q I (w _ _ _ q)⟩
theorem pt_weak {t t' : TT} (h : PT X e t) (w : ∀ σ H Q, t' σ H Q → t σ H Q) : PT X e t' := ⟨fun pins s σ H Q I q => h.run pins s σ H Q I (w _ _ _ q)⟩
theorem pw_weak {t t' : TT} (h : PW X e t) (w : ∀ σ H Q, t' σ H Q → t σ H Q) : PW X e t' := ⟨fun wh pins s σ H Q I q => h.run wh pins s σ H Q I (w _ _ _ q)⟩
theorem pa_weak {t t' : TA} (h : PA X es t) (w : ∀ σ H Q, t' σ H Q → t σ H Q) : PA X es t' := ⟨fun pos pins s σ H Q I q => h.run pos pins s σ H Q I (w _ _ _ q)⟩
theorem ps_weak {t t' : TS} (h : PS X st t) (w : ∀ E σ H, t' E σ H → t E σ H) : PS X st t' := ⟨fun pins s σ H E I q => h.run pins s σ H E I (w _ _ _ q)⟩
theorem pss_weak {t t' : TS} (h : PSs X sts t) (w : ∀ E σ H, t' E σ H → t E σ H) : PSs X sts t' := ⟨fun pins s σ H E I q => h.run pins s σ H E I (w _ _ _ q)⟩
end
/-- from inside a step: the goal's continuation -/
theorem KLe.after {K : PySem.W.Frag} {H H1 : Hp} {M M1 : Mp} {Q' : KD} {Q : VK} (k : KLe K H M Q' Q) (s : Step K H M H1 M1) : KLe K H1 M1 Q' Q := fun v H' d M' f t q => k v H' d M' f (s.trans t) q
theorem EndLe.after {X : Cx} {H H1 : Hp} {M M1 : Mp} {E' : EndD} {E : Ends} (k : EndLe X H M E' E) (s : Step X.K H M H1 M1) : EndLe X H1 M1 E' E :=
  ⟨fun σ' ρ' H' M' r t q => k.nx σ' ρ' H' M' r (s.trans t) q, k.rt.after s, fun σ' ρ' H' M' r t q => k.bk σ' ρ' H' M' r (s.trans t) q, fun σ' ρ' H' M' r t q => k.ct σ' ρ' H' M' r (s.trans t) q, fun cv od σ' H' fs M' x t q => k.xc cv od σ' H' fs M' x (s.trans t) q⟩

/-! ### names, constants -/
def dVar (i : Nat) : TED := fun ρ M Q => match ρ[i]? with
  | some (some d) => Q d M
  | _ => False
def dC (d : D) : TED := fun _ M Q => Q d M
section
variable {X : Cx} {pos : Pos}
theorem dv (i : Nat) {x : Str} (hN : X.N[i]? = some x := by rfl) (hv : Vis X.env.scope x := by first | exact Or.inl rfl | exact Or.inr (Or.inl rfl) | exact Or.inr (Or.inr rfl)) (hd : (x == ("__debug__" : Str)) = false := by decide)
    (hcd : (x == ("__classdict__" : Str)) = false := by decide) : DE X (.Name x pos) (dVar i) :=
  pe_weak (pe_var hN hv hd hcd) fun σ H Q ⟨ρ, M, Q', r, m, h, k⟩ => by
    unfold dVar at h
    split at h
    · rename_i d e
      obtain ⟨v, q, f⟩ := r.at_ i d e
      exact ⟨v, q, k v H d M f (.refl m) h⟩
    · exact h.elim
theorem de_c {e : Expr} {v : V} {d : D} (h : PE X e (tC v)) (f : ∀ H, Fz X.K H v d) : DE X e (dC d) :=
  pe_weak h fun σ H Q ⟨ρ, M, Q', r, m, h, k⟩ => k v H d M (f H) (.refl m) h
theorem de_int {i : Int} {j} : DE X (.Constant (.int i) j pos) (dC (.int i)) := de_c pe_int fun _ => .int _
theorem de_bl {b : Bool} {j} : DE X (.Constant (.bool b) j pos) (dC (.bl b)) := de_c pe_bl fun _ => .bl _
theorem de_non {j} : DE X (.Constant .none j pos) (dC .non) := de_c pe_non fun _ => .non
theorem de_str {x : Str} {j} : DE X (.Constant (.str x) j pos) (dC (.str x)) := de_c pe_str fun _ => .str _
end

/-! ### two-place operations -/
abbrev R2D := D → D → Mp → KD → Prop
/-- r over values is served by rd over data -/
def RLe (K : PySem.W.Frag) (r : R2) (rd : R2D) : Prop := ∀ H M vx vy x y Q' Q, Fz K H vx x → Fz K H vy y → MemOk K H M → rd x y M Q' → KLe K H M Q' Q → r vx vy H Q
def dOp (r : R2D) (ta tb : TED) : TED := fun ρ M Q => ta ρ M fun x M1 => tb ρ M1 fun y M2 => r x y M2 Q
section
variable {X : Cx} {a b c : Expr} {ta tb tc : TED} {pos : Pos} {K : PySem.W.Frag}
theorem up_op {r : R2} {rd : R2D} (h : RLe K r rd) (σ : St) (H : Hp) (Q : VK) (q : upE K (dOp rd ta tb) σ H Q) : tOp r (upE K ta) (upE K tb) σ H Q := by
  obtain ⟨ρ, M, Q', rs, m, t, k⟩ := q
  refine ⟨ρ, M, _, rs, m, t, fun vx H1 x M1 fx s1 t1 => ?_⟩
  refine ⟨ρ, M1, _, rs.up s1.tups, s1.mem, t1, fun vy H2 y M2 fy s2 t2 => ?_⟩
  exact h H2 M2 vx vy x y Q' Q (fx.up s2.tups) fy s2.mem t2 ((k.after s1).after s2)
theorem de_op {op : Operator} {r : R2} {rd : R2D} (ho : OpR X (binaryOp op) r) (h : RLe X.K r rd) (ha : DE X a ta) (hb : DE X b tb) : DE X (.BinOp a op b pos) (dOp rd ta tb) :=
  pe_weak (pe_op ho ha hb) (up_op h)
theorem de_cmp {op : CmpOp} {r : R2} {rd : R2D} (ho : OpR X (compareOp op) r) (h : RLe X.K r rd) (ha : DE X a ta) (hb : DE X b tb) (hm : behindInMarks op b = false) : DE X (.Compare a [op] [b] pos) (dOp rd ta tb) :=
  pe_weak (pe_cmpR ho ha hb hm) (up_op h)
end
end DL

namespace DL
open PySem L2
open PyProof.Rows (b2i)

/-- a branch -/
def br (b : Bool) (A B : Prop) : Prop := match b with
  | true => A
  | false => B
theorem br_of {b : Bool} {A B : Prop} (h1 : b = true → A) (h2 : b = false → B) : br b A B := by
  cases b
  · exact h2 rfl
  · exact h1 rfl
theorem br_t {b : Bool} {A B : Prop} (e : b = true) (h : A) : br b A B := by subst e; exact h
theorem br_f {b : Bool} {A B : Prop} (e : b = false) (h : B) : br b A B := by subst e; exact h
def sg (neg b : Bool) : Bool := match neg with
  | true => !b
  | false => b

/-! ### results -/
section
variable {K : PySem.W.Frag} {H : Hp} {M : Mp} {Q' : KD} {Q : VK}
theorem KLe.val (k : KLe K H M Q' Q) (m : MemOk K H M) {v : V} {d : D} (f : Fz K H v d) (q : Q' d M) : Q v H := k v H d M f (.refl m) q
theorem KLe.newTup (k : KLe K H M Q' Q) (m : MemOk K H M) {xs : List V} {ds : List D} (f : FzAll K H xs ds) (q : Q' (.tup ds) M) {p : Addr} {o : Obj} (hp : H p = none) (ho : o.dict = none) : Q (.ref p) (upd H p (.frz o (.tup xs))) :=
  k _ _ _ _ (.tup (.inl ⟨o, upd_same, ho⟩) (f.up (.new hp))) (.newT m hp) q
theorem KLe.newLst (k : KLe K H M Q' Q) (m : MemOk K H M) {xs : List V} {ds : List D} (f : FzAll K H xs ds) (q : ∀ p, M p = none → Q' (.ref p) (updM M p (.lst ds))) {p : Addr} (hp : H p = none) : Q (.ref p) (upd H p (.lst xs)) :=
  k _ _ _ _ (.ref p) (.newM m hp (show MoOk K H (.lst xs) (.lst ds) from ⟨xs, rfl, f⟩)) (q p (m.none hp))
theorem KLe.wrLst (k : KLe K H M Q' Q) (m : MemOk K H M) {xs : List V} {ds ds' : List D} {p : Addr} {v : V} {d : D} (hp : M p = some (.lst ds)) (f : FzAll K H xs ds') (fv : ∀ H', Fz K H' v d) (q : Q' d (updM M p (.lst ds'))) : Q v (upd H p (.lst xs)) :=
  k _ _ _ _ (fv _) (.wr m hp (fun z => by cases z) (show MoOk K H (.lst xs) (.lst ds') from ⟨xs, rfl, f⟩)) q
end

/-! ### data as the library reads it -/
mutual
inductive Rdm (M : Mp) : D → PyData → Prop
  | non : Rdm M .non .none
  | bl (b : Bool) : Rdm M (.bl b) (.bool b)
  | int (i : Int) : Rdm M (.int i) (.int i)
  | str (x : Str) : Rdm M (.str x) (.str x)
  | tup {ds : List D} {ps : List PyData} : RdmAll M ds ps → Rdm M (.tup ds) (.tuple ps)
  | lst {a : Addr} {ds : List D} {ps : List PyData} : M a = some (.lst ds) → RdmAll M ds ps → Rdm M (.ref a) (.list ps)
  | dct {a : Addr} {kvs : List (Key × D)} {ps : List (PyData × PyData)} : M a = some (.dct kvs) → RdmKv M kvs ps → Rdm M (.ref a) (.dict ps)
inductive RdmAll (M : Mp) : List D → List PyData → Prop
  | nil : RdmAll M [] []
  | cons {d : D} {ds : List D} {p : PyData} {ps : List PyData} : Rdm M d p → RdmAll M ds ps → RdmAll M (d :: ds) (p :: ps)
inductive RdmKv (M : Mp) : List (Key × D) → List (PyData × PyData) → Prop
  | nil : RdmKv M [] []
  | consI {i : Int} {d : D} {r : List (Key × D)} {p : PyData} {ps : List (PyData × PyData)} : Rdm M d p → RdmKv M r ps → RdmKv M ((.inl i, d) :: r) ((.int i, p) :: ps)
  | consS {x : Str} {d : D} {r : List (Key × D)} {p : PyData} {ps : List (PyData × PyData)} : Rdm M d p → RdmKv M r ps → RdmKv M ((.inr x, d) :: r) ((.str x, p) :: ps)
end
mutual
theorem Rdm.dp {K : PySem.W.Frag} {H : Hp} {M : Mp} (m : MemOk K H M) : ∀ (p : PyData) (d : D) (v : V), Rdm M d p → Fz K H v d → p.canLay0 = true → Dp K H v p
  | .none, _, _, h, f, _ => by cases h; cases f; exact .non
  | .bool _, _, _, h, f, _ => by cases h; cases f; exact .bl _
  | .int _, _, _, h, f, _ => by cases h; cases f; exact .int _
  | .str _, _, _, h, f, _ => by cases h; cases f; exact .str _
  | .list ps, _, _, h, f, c => by
    cases h with
    | lst ha hr =>
      cases f
      obtain ⟨xs, e, fs⟩ := m.lst ha
      exact .lst (.of e) (RdmAll.dp m ps _ _ hr fs (by simpa [PyData.canLay0] using c))
  | .tuple ps, _, _, h, f, c => by
    cases h with
    | tup hr =>
      cases f with
      | tup hs fs => exact .tup hs.t (RdmAll.dp m ps _ _ hr fs (by simpa [PyData.canLay0] using c))
  | .dict _, _, _, _, _, c => by simp [PyData.canLay0] at c
theorem RdmAll.dp {K : PySem.W.Frag} {H : Hp} {M : Mp} (m : MemOk K H M) : ∀ (ps : List PyData) (ds : List D) (vs : List V), RdmAll M ds ps → FzAll K H vs ds → PyData.canLayAll0 ps = true → DpAll K H vs ps
  | [], _, _, h, f, _ => by cases h; cases f; exact .nil
  | p :: ps, _, _, h, f, c => by
    cases h with
    | cons h1 h2 =>
      cases f with
      | cons f1 f2 =>
        have c' : p.canLay0 = true ∧ PyData.canLayAll0 ps = true := by simpa [PyData.canLayAll0] using c
        exact .cons (Rdm.dp m p _ _ h1 f1 c'.1) (RdmAll.dp m ps _ _ h2 f2 c'.2)
end

/-! ### two-place operations -/
def BR (X : Cx) (op : Operator) (rd : R2D) : Prop := ∃ r, OpR X (binaryOp op) r ∧ RLe X.K r rd
def IR (X : Cx) (op : Operator) (rd : R2D) : Prop := ∃ r, OpR X (inplaceOp op) r ∧ RLe X.K r rd
def CR (X : Cx) (op : CmpOp) (rd : R2D) : Prop := ∃ r, OpR X (compareOp op) r ∧ RLe X.K r rd
def rInts (g : Int → Int → D) (C : Int → Int → Prop) : R2D := fun x y M Q => match x, y with
  | .int i, .int j => C i j ∧ Q (g i j) M
  | _, _ => False
def rInts0 (g : Int → Int → D) : R2D := fun x y M Q => match x, y with
  | .int i, .int j => Q (g i j) M
  | _, _ => False
def rAdd : R2D := fun x y M Q => match x, y with
  | .int i, .int j => Q (.int (i + j)) M
  | .str a, .str b => a.length + b.length ≤ sizeLine ∧ Q (.str (a ++ b)) M
  | .tup a, .tup b => a.length + b.length ≤ sizeLine ∧ Q (.tup (a ++ b)) M
  | .ref p, .ref q => ∃ a b, M p = some (.lst a) ∧ M q = some (.lst b) ∧ a.length + b.length ≤ sizeLine ∧ ∀ r, M r = none → Q (.ref r) (updM M r (.lst (a ++ b)))
  | .int i, .bl k => Q (.int (i + b2i k)) M
  | _, _ => False
section
variable {X : Cx} {K : PySem.W.Frag}
theorem le_ints {g : Int → Int → D} {g' : Int → Int → V} {C : Int → Int → Prop} (hg : ∀ H i j, Fz K H (g' i j) (g i j)) : RLe K (rI C g') (rInts g C) := by
  intro H M vx vy x y Q' Q fx fy m h k
  unfold rInts at h
  split at h
  · cases fx; cases fy
    exact ⟨_, _, rfl, rfl, h.1, k.val m (hg H _ _) h.2⟩
  · exact h.elim
theorem le_ints0 {g : Int → Int → D} {g' : Int → Int → V} (hg : ∀ H i j, Fz K H (g' i j) (g i j)) : RLe K (rI0 g') (rInts0 g) := by
  intro H M vx vy x y Q' Q fx fy m h k
  unfold rInts0 at h
  split at h
  · cases fx; cases fy
    exact ⟨_, _, rfl, rfl, k.val m (hg H _ _) h⟩
  · exact h.elim
theorem br_add : BR X .Add rAdd := by
  refine ⟨_, (((op_add.or op_add_str).or op_catZ).or op_cat).or op_add_ib, ?_⟩
  intro H M vx vy x y Q' Q fx fy m h k
  unfold rAdd at h
  split at h
  · cases fx; cases fy
    exact .inl (.inl (.inl (.inl ⟨_, _, rfl, rfl, k.val m (.int _) h⟩)))
  · cases fx; cases fy
    exact .inl (.inl (.inl (.inr ⟨_, _, rfl, rfl, h.1, k.val m (.str _) h.2⟩)))
  · rename_i as bs
    cases fx with
    | @tup a xs _ ha fa =>
      cases fy with
      | @tup b ys _ hb fb =>
        refine .inl (.inl (.inr ⟨a, b, xs, ys, rfl, rfl, ha.t, hb.t, by rw [fa.length, fb.length]; exact h.1, fun e => ?_, fun _ e => ?_, fun _ _ p o hp ho => k.newTup m (fa.append fb) h.2 hp ho⟩))
        · subst e
          cases fa
          exact k.val m (.tup hb fb) h.2
        · subst e
          cases fb
          rw [List.append_nil] at h
          exact k.val m (.tup ha fa) h.2
  · obtain ⟨a, b, ha, hb, hz, q⟩ := h
    cases fx; cases fy
    obtain ⟨xs, h1, f1⟩ := m.lst ha
    obtain ⟨ys, h2, f2⟩ := m.lst hb
    exact .inl (.inr ⟨_, _, xs, ys, rfl, rfl, h1, h2, by rw [f1.length, f2.length]; exact hz, fun p hp => k.newLst m (f1.append f2) q hp⟩)
  · cases fx; cases fy
    exact .inr ⟨_, _, rfl, rfl, k.val m (.int _) h⟩
  · exact h.elim
theorem br_sub : BR X .Sub (rInts0 fun i j => .int (i - j)) := ⟨_, op_sub, le_ints0 fun _ _ _ => .int _⟩
/-- one factor below 2 ^ 64 -/
theorem br_mul : BR X .Mult (rInts (fun i j => .int (i * j)) CMul) := ⟨_, op_mul, le_ints fun _ _ _ => .int _⟩
theorem br_mod : BR X .Mod (rInts (fun i j => .int (i % j)) fun _ j => 0 < j) := ⟨_, op_mod, le_ints fun _ _ _ => .int _⟩
theorem br_fdiv : BR X .FloorDiv (rInts (fun i j => .int (i / j)) CDiv) := ⟨_, op_fdiv, le_ints fun _ _ _ => .int _⟩
theorem br_pow : BR X .Pow (rInts (fun i j => .int (i ^ j.toNat)) CPow) := ⟨_, op_pow, le_ints fun _ _ _ => .int _⟩
theorem ir_add : IR X .Add (rInts0 fun i j => .int (i + j)) := ⟨_, iop_add, le_ints0 fun _ _ _ => .int _⟩
theorem cr_lt : CR X .Lt (rInts0 fun i j => .bl (decide (i < j))) := ⟨_, op_lt, le_ints0 fun _ _ _ => .bl _⟩
theorem cr_le : CR X .LtE (rInts0 fun i j => .bl (decide (i ≤ j))) := ⟨_, op_le, le_ints0 fun _ _ _ => .bl _⟩
theorem cr_gt : CR X .Gt (rInts0 fun i j => .bl (decide (j < i))) := ⟨_, op_gt, le_ints0 fun _ _ _ => .bl _⟩
theorem cr_ge : CR X .GtE (rInts0 fun i j => .bl (decide (j ≤ i))) := ⟨_, op_ge, le_ints0 fun _ _ _ => .bl _⟩
/-- ==, != -/
def rEqX (neg : Bool) : R2D := fun x y M Q => match x, y with
  | .int i, .int j => Q (.bl (sg neg (decide (i = j)))) M
  | .str a, .str b => Q (.bl (sg neg (decide (a = b)))) M
  | .bl a, .bl b => Q (.bl (sg neg (decide (a = b)))) M
  | .non, .non => Q (.bl (sg neg true)) M
  | .non, .int _ => Q (.bl (sg neg false)) M
  | .int _, .non => Q (.bl (sg neg false)) M
  | .non, .str _ => Q (.bl (sg neg false)) M
  | .str _, .non => Q (.bl (sg neg false)) M
  | .int _, .str _ => Q (.bl (sg neg false)) M
  | .str _, .int _ => Q (.bl (sg neg false)) M
  | x, y => ∃ p q, Rdm M x p ∧ Rdm M y q ∧ SeqAt.shaped p = true ∧ SeqAt.shaped q = true ∧ Q (.bl (sg neg (PyData.eqv p q))) M
theorem dec_i {i j : Int} : decide (V.int i = V.int j) = decide (i = j) := by simp
theorem dec_s {i j : Str} : decide (V.str i = V.str j) = decide (i = j) := by simp
theorem dec_b {i j : Bool} : decide (V.bl i = V.bl j) = decide (i = j) := by simp
theorem cr_eq (hu : X.A.units + 64 < cLine) : CR X .Eq (rEqX false) := by
  refine ⟨_, op_eq.or (op_eqD hu), ?_⟩
  intro H M vx vy x y Q' Q fx fy m h k
  unfold rEqX at h
  split at h
  · cases fx; cases fy
    exact .inl ⟨rfl, by rw [dec_i]; exact k.val m (.bl _) h⟩
  · cases fx; cases fy
    exact .inl ⟨rfl, by rw [dec_s]; exact k.val m (.bl _) h⟩
  · cases fx; cases fy
    exact .inl ⟨rfl, by rw [dec_b]; exact k.val m (.bl _) h⟩
  · cases fx; cases fy
    exact .inl ⟨rfl, k.val m (.bl _) h⟩
  all_goals first
    | (obtain ⟨p, q, h1, h2, s1, s2, q'⟩ := h
       exact .inr ⟨p, q, h1.dp m _ _ _ fx (SeqAt.canLay_of_shaped s1), h2.dp m _ _ _ fy (SeqAt.canLay_of_shaped s2), s1, s2, k.val m (.bl _) q'⟩)
    | (cases fx; cases fy
       exact .inl ⟨rfl, k.val m (.bl _) h⟩)
theorem cr_ne (hu : X.A.units + 64 < cLine) : CR X .NotEq (rEqX true) := by
  refine ⟨_, op_ne.or (op_neD hu), ?_⟩
  intro H M vx vy x y Q' Q fx fy m h k
  unfold rEqX at h
  split at h
  · cases fx; cases fy
    exact .inl ⟨rfl, by rw [dec_i]; exact k.val m (.bl _) h⟩
  · cases fx; cases fy
    exact .inl ⟨rfl, by rw [dec_s]; exact k.val m (.bl _) h⟩
  · cases fx; cases fy
    exact .inl ⟨rfl, by rw [dec_b]; exact k.val m (.bl _) h⟩
  · cases fx; cases fy
    exact .inl ⟨rfl, k.val m (.bl _) h⟩
  all_goals first
    | (obtain ⟨p, q, h1, h2, s1, s2, q'⟩ := h
       exact .inr ⟨p, q, h1.dp m _ _ _ fx (SeqAt.canLay_of_shaped s1), h2.dp m _ _ _ fy (SeqAt.canLay_of_shaped s2), s1, s2, k.val m (.bl _) q'⟩)
    | (cases fx; cases fy
       exact .inl ⟨rfl, k.val m (.bl _) h⟩)
end

/-! ### comparisons with None, in, tests -/
def isNon : D → Bool
  | .non => true
  | _ => false
def rIsN (neg : Bool) : R2D := fun x y M Q => match y with
  | .non => Q (.bl (sg neg (isNon x))) M
  | _ => False
/-- flat things -/
def flatD : D → Bool
  | .int _ => true
  | .str _ => true
  | .bl _ => true
  | .non => true
  | _ => false
/-- == of flat things -/
def eqF : D → D → Bool
  | .non, .non => true
  | .bl a, .bl b => a == b
  | .bl a, .int b => (if a then 1 else 0) == b
  | .int a, .bl b => a == (if b then 1 else 0)
  | .int a, .int b => a == b
  | .str a, .str b => a == b
  | _, _ => false
def rInX (neg : Bool) : R2D := fun x y M Q => match y with
  | .tup ds => flatD x = true ∧ ds.all flatD = true ∧ Q (.bl (sg neg (ds.any fun z => eqF z x))) M
  | .fl ds => flatD x = true ∧ ds.all flatD = true ∧ Q (.bl (sg neg (ds.any fun z => eqF z x))) M
  | .ref p => ∃ ds, M p = some (.lst ds) ∧ flatD x = true ∧ ds.all flatD = true ∧ Q (.bl (sg neg (ds.any fun z => eqF z x))) M
  | _ => False
section
variable {X : Cx} {K : PySem.W.Frag}
theorem isN_dec {K : PySem.W.Frag} {H : Hp} {v : V} {x : D} (f : Fz K H v x) : decide (v = .non) = isNon x := by
  cases f <;> simp [isNon]
theorem cr_is : CR X .Is (rIsN false) := by
  refine ⟨_, op_isN, ?_⟩
  intro H M vx vy x y Q' Q fx fy m h k
  unfold rIsN at h
  split at h
  · cases fy
    exact ⟨rfl, by rw [isN_dec fx]; exact k.val m (.bl _) h⟩
  · exact h.elim
theorem cr_isnot : CR X .IsNot (rIsN true) := by
  refine ⟨_, op_notN, ?_⟩
  intro H M vx vy x y Q' Q fx fy m h k
  unfold rIsN at h
  split at h
  · cases fy
    exact ⟨rfl, by rw [isN_dec fx]; exact k.val m (.bl _) h⟩
  · exact h.elim
theorem flat_of {H : Hp} {v : V} {x : D} (f : Fz K H v x) (h : flatD x = true) : flatV v = true := by
  cases f <;> first | rfl | (simp [flatD] at h)
theorem eqF_of {H : Hp} {v w : V} {x y : D} (f : Fz K H v x) (g : Fz K H w y) (h : flatD x = true) (h' : flatD y = true) : eqV v w = eqF x y := by
  cases f <;> first | (simp [flatD] at h; done) | skip
  all_goals cases g <;> first | (simp [flatD] at h'; done) | rfl
theorem flats_of {H : Hp} : ∀ {vs : List V} {ds : List D}, FzAll K H vs ds → ds.all flatD = true → vs.all flatV = true
  | _, _, .nil, _ => rfl
  | _, _, .cons f t, h => by
    rw [List.all_cons, Bool.and_eq_true] at h
    rw [List.all_cons, flat_of f h.1, flats_of t h.2]
    rfl
theorem inF_of {H : Hp} {w : V} {y : D} (g : Fz K H w y) (h' : flatD y = true) : ∀ {vs : List V} {ds : List D}, FzAll K H vs ds → ds.all flatD = true → inV w vs = ds.any fun z => eqF z y
  | _, _, .nil, _ => rfl
  | _, _, .cons f t, h => by
    rw [List.all_cons, Bool.and_eq_true] at h
    have ih := inF_of g h' t h.2
    unfold inV at ih ⊢
    rw [List.any_cons, List.any_cons, ih, eqF_of f g h.1 h']
theorem le_in (neg : Bool) : RLe K (rIn K neg) (rInX neg) := by
  intro H M vx vy x y Q' Q fx fy m h k
  have fin : ∀ {xs : List V} {ds : List D}, FzAll K H xs ds → flatD x = true → ds.all flatD = true → Q' (.bl (sg neg (ds.any fun z => eqF z x))) M → Q (.bl (if neg then !inV vx xs else inV vx xs)) H := fun {xs ds} f h1 h2 q => by
    rw [inF_of fx h1 f h2]
    have e : (if neg = true then !(ds.any fun z => eqF z x) else ds.any fun z => eqF z x) = sg neg (ds.any fun z => eqF z x) := by cases neg <;> rfl
    rw [e]
    exact k.val m (.bl _) q
  unfold rInX at h
  split at h
  · cases fy with
    | tup hs f => exact ⟨_, _, rfl, .inr hs.t, flat_of fx h.1, flats_of f h.2.1, fin f h.1 h.2.1 h.2.2⟩
  · cases fy with
    | fl hs f => exact ⟨_, _, rfl, .inl hs.sq, flat_of fx h.1, flats_of f h.2.1, fin f h.1 h.2.1 h.2.2⟩
  · obtain ⟨ds, hp, h1, h2, q⟩ := h
    cases fy
    obtain ⟨xs, e, f⟩ := m.lst hp
    exact ⟨_, _, rfl, .inl (.of e), flat_of fx h1, flats_of f h2, fin f h1 h2 q⟩
  · exact h.elim
theorem cr_in : CR X .In (rInX false) := ⟨_, op_in_seq, le_in false⟩
theorem cr_notin : CR X .NotIn (rInX true) := ⟨_, op_notIn_seq, le_in true⟩
end

/-! ### expressions -/
def dTest (t : TED) : TTD := fun ρ M Q => t ρ M fun d M' => match d with
  | .bl b => Q b M'
  | _ => False
def dAndT (t u : TTD) : TTD := fun ρ M Q => t ρ M fun b M1 => br b (u ρ M1 Q) (Q false M1)
def dOrT (t u : TTD) : TTD := fun ρ M Q => t ρ M fun b M1 => br b (Q true M1) (u ρ M1 Q)
def dNotT (t : TTD) : TTD := fun ρ M Q => t ρ M fun b M1 => Q (!b) M1
def dAndV (t u : TED) : TED := fun ρ M Q => t ρ M fun d M1 => match d with
  | .bl b => br b (u ρ M1 Q) (Q (.bl false) M1)
  | _ => False
def dOrV (t u : TED) : TED := fun ρ M Q => t ρ M fun d M1 => match d with
  | .bl b => br b (Q (.bl true) M1) (u ρ M1 Q)
  | _ => False
def dNotV (t : TED) : TED := fun ρ M Q => t ρ M fun d M1 => match d with
  | .bl b => Q (.bl (!b)) M1
  | _ => False
def dIf (t : TTD) (a b : TED) : TED := fun ρ M Q => t ρ M fun c M1 => br c (a ρ M1 Q) (b ρ M1 Q)
def dChain (r r' : R2D) (ta tb tc : TED) : TED := fun ρ M Q => ta ρ M fun x M1 => tb ρ M1 fun y M2 => r x y M2 fun z M3 => match z with
  | .bl b => br b (tc ρ M3 fun w M4 => r' y w M4 Q) (Q (.bl false) M3)
  | _ => False
section
variable {X : Cx} {a b c : Expr} {ta tb tc : TED} {pos : Pos} {rest : List Expr} {K : PySem.W.Frag} {tt tu : TTD}
theorem de_bin {op : Operator} {rd : R2D} (h : BR X op rd) (ha : DE X a ta) (hb : DE X b tb) : DE X (.BinOp a op b pos) (dOp rd ta tb) := by
  obtain ⟨r, ho, l⟩ := h
  exact de_op ho l ha hb
theorem de_cp {op : CmpOp} {rd : R2D} (h : CR X op rd) (ha : DE X a ta) (hb : DE X b tb) (hm : behindInMarks op b = false := by first | exact nomark _ | with_unfolding_all rfl) : DE X (.Compare a [op] [b] pos) (dOp rd ta tb) := by
  obtain ⟨r, ho, l⟩ := h
  exact de_cmp ho l ha hb hm
theorem up_test {t : TED} (σ : St) (H : Hp) (Q : Bool → Hp → Prop) (h : upT K (dTest t) σ H Q) : tTest (upE K t) σ H Q := by
  obtain ⟨ρ, M, Q', r, m, q, k⟩ := h
  refine ⟨ρ, M, _, r, m, q, fun v H1 d M1 f s q1 => ?_⟩
  cases d with
  | bl b => cases f; exact ⟨b, rfl, k b H1 M1 s q1⟩
  | _ => exact q1.elim
theorem dt_val (h : DE X a ta) (he : ∀ whole, isTrue a X.env whole = (do let v ← whole; standAt a.pos; holding [v] (truthy v)) := by intro _; rfl) : DT X a (dTest ta) :=
  pt_weak (pt_val h he) up_test
theorem dt_cp {op : CmpOp} {rd : R2D} (h : CR X op rd) (ha : DE X a ta) (hb : DE X b tb) (hm : behindInMarks op b = false := by first | exact nomark _ | with_unfolding_all rfl) : DT X (.Compare a [op] [b] pos) (dTest (dOp rd ta tb)) := by
  obtain ⟨r, ho, l⟩ := h
  refine pt_weak (pt_cmpR ho ha hb hm) fun σ H Q q => ?_
  obtain ⟨ρ, M, Q', rs, m, q, k⟩ := q
  refine up_op l σ H _ ⟨ρ, M, _, rs, m, q, fun v H1 d M1 f s q1 => ?_⟩
  cases d with
  | bl b => cases f; exact ⟨b, rfl, k b H1 M1 s q1⟩
  | _ => exact q1.elim
theorem up_chain {r r' : R2} {rd rd' : R2D} (l : RLe K r rd) (l' : RLe K r' rd') (σ : St) (H : Hp) (Q : VK) (q : upE K (dChain rd rd' ta tb tc) σ H Q) : tChain r r' (upE K ta) (upE K tb) (upE K tc) σ H Q := by
  obtain ⟨ρ, M, Q', rs, m, t, k⟩ := q
  refine ⟨ρ, M, _, rs, m, t, fun vx H1 x M1 fx s1 t1 => ?_⟩
  refine ⟨ρ, M1, _, rs.up s1.tups, s1.mem, t1, fun vy H2 y M2 fy s2 t2 => ?_⟩
  refine l H2 M2 vx vy x y _ _ (fx.up s2.tups) fy s2.mem t2 fun vz H3 z M3 fz s3 t3 => ?_
  cases z with
  | bl c =>
    cases fz
    refine ⟨c, rfl, ?_⟩
    cases c with
    | true =>
      refine iteT ⟨ρ, M3, _, ((rs.up s1.tups).up s2.tups).up s3.tups, s3.mem, t3, fun vw H4 w M4 fw s4 t4 => ?_⟩
      exact l' H4 M4 vy vw y w Q' Q ((fy.up s3.tups).up s4.tups) fw s4.mem t4 ((((k.after s1).after s2).after s3).after s4)
    | false => exact iteF ((((k.after s1).after s2).after s3).val s3.mem (.bl _) t3)
  | _ => exact t3.elim
theorem de_chain {op op' : CmpOp} {rd rd' : R2D} (h : CR X op rd) (h' : CR X op' rd') (ha : DE X a ta) (hb : DE X b tb) (hc : DE X c tc) (hm : lastMarks [op, op'] [b, c] = false := by with_unfolding_all rfl) :
    DE X (.Compare a [op, op'] [b, c] pos) (dChain rd rd' ta tb tc) := by
  obtain ⟨r, ho, l⟩ := h
  obtain ⟨r', ho', l'⟩ := h'
  exact pe_weak (pe_chain ho ho' ha hb hc hm) (up_chain l l')
theorem dt_chain {op op' : CmpOp} {rd rd' : R2D} (h : CR X op rd) (h' : CR X op' rd') (ha : DE X a ta) (hb : DE X b tb) (hc : DE X c tc) (hm : lastMarks [op, op'] [b, c] = false := by with_unfolding_all rfl) :
    DT X (.Compare a [op, op'] [b, c] pos) (dTest (dChain rd rd' ta tb tc)) := by
  obtain ⟨r, ho, l⟩ := h
  obtain ⟨r', ho', l'⟩ := h'
  refine pt_weak (pt_chain ho ho' ha hb hc hm) fun σ H Q q => ?_
  obtain ⟨ρ, M, Q', rs, m, q, k⟩ := q
  refine up_chain l l' σ H _ ⟨ρ, M, _, rs, m, q, fun v H1 d M1 f s q1 => ?_⟩
  cases d with
  | bl b => cases f; exact ⟨b, rfl, k b H1 M1 s q1⟩
  | _ => exact q1.elim
theorem dw_and1 (ha : DT X a tt) : DW X (.BoolOp .And [a] pos) tt := pw_and1 ha
theorem dw_or1 (ha : DT X a tt) : DW X (.BoolOp .Or [a] pos) tt := pw_or1 ha
theorem dw_and (ha : DT X a tt) (hb : DW X (.BoolOp .And (b :: rest) pos) tu) : DW X (.BoolOp .And (a :: b :: rest) pos) (dAndT tt tu) :=
  pw_weak (pw_and ha hb) fun σ H Q ⟨ρ, M, Q', rs, m, q, k⟩ => ⟨ρ, M, _, rs, m, q, fun c H1 M1 s q1 => by
    cases c with
    | true => exact iteT ⟨ρ, M1, Q', rs.up s.tups, s.mem, q1, fun d H2 M2 s2 q2 => k d H2 M2 (s.trans s2) q2⟩
    | false => exact iteF (k false H1 M1 s q1)⟩
theorem dw_or (ha : DT X a tt) (hb : DW X (.BoolOp .Or (b :: rest) pos) tu) : DW X (.BoolOp .Or (a :: b :: rest) pos) (dOrT tt tu) :=
  pw_weak (pw_or ha hb) fun σ H Q ⟨ρ, M, Q', rs, m, q, k⟩ => ⟨ρ, M, _, rs, m, q, fun c H1 M1 s q1 => by
    cases c with
    | true => exact iteT (k true H1 M1 s q1)
    | false => exact iteF ⟨ρ, M1, Q', rs.up s.tups, s.mem, q1, fun d H2 M2 s2 q2 => k d H2 M2 (s.trans s2) q2⟩⟩
theorem dt_w (h : DW X a tt) : DT X a tt := PW.pt h
theorem dt_not (ha : DT X a tt) : DT X (.UnaryOp .Not a pos) (dNotT tt) :=
  pt_weak (pt_not ha) fun σ H Q ⟨ρ, M, Q', rs, m, q, k⟩ => ⟨ρ, M, _, rs, m, q, fun c H1 M1 s q1 => k (!c) H1 M1 s q1⟩
theorem de_one {op} (h : DE X a ta) : DE X (.BoolOp op [a] pos) ta := pe_one h
theorem de_and (ha : DE X a ta) (hb : DE X (.BoolOp .And (b :: rest) pos) tb) : DE X (.BoolOp .And (a :: b :: rest) pos) (dAndV ta tb) :=
  pe_weak (pe_and ha hb) fun σ H Q ⟨ρ, M, Q', rs, m, q, k⟩ => ⟨ρ, M, _, rs, m, q, fun v H1 d M1 f s q1 => by
    cases d with
    | bl c =>
      cases f
      refine ⟨c, rfl, ?_⟩
      cases c with
      | true => exact iteT ⟨ρ, M1, Q', rs.up s.tups, s.mem, q1, k.after s⟩
      | false => exact iteF ((k.after s).val s.mem (.bl _) q1)
    | _ => exact q1.elim⟩
theorem de_or (ha : DE X a ta) (hb : DE X (.BoolOp .Or (b :: rest) pos) tb) : DE X (.BoolOp .Or (a :: b :: rest) pos) (dOrV ta tb) :=
  pe_weak (pe_or ha hb) fun σ H Q ⟨ρ, M, Q', rs, m, q, k⟩ => ⟨ρ, M, _, rs, m, q, fun v H1 d M1 f s q1 => by
    cases d with
    | bl c =>
      cases f
      refine ⟨c, rfl, ?_⟩
      cases c with
      | true => exact iteT ((k.after s).val s.mem (.bl _) q1)
      | false => exact iteF ⟨ρ, M1, Q', rs.up s.tups, s.mem, q1, k.after s⟩
    | _ => exact q1.elim⟩
theorem de_not (ha : DE X a ta) : DE X (.UnaryOp .Not a pos) (dNotV ta) :=
  pe_weak (pe_not ha) fun σ H Q ⟨ρ, M, Q', rs, m, q, k⟩ => ⟨ρ, M, _, rs, m, q, fun v H1 d M1 f s q1 => by
    cases d with
    | bl c => cases f; exact ⟨c, rfl, (k.after s).val s.mem (.bl _) q1⟩
    | _ => exact q1.elim⟩
def dNeg (t : TED) : TED := fun ρ M Q => t ρ M fun d M1 => match d with
  | .int i => Q (.int (-i)) M1
  | _ => False
theorem de_neg (ha : DE X a ta) : DE X (.UnaryOp .USub a pos) (dNeg ta) :=
  pe_weak (pe_un un_neg ha) fun σ H Q ⟨ρ, M, Q', rs, m, q, k⟩ => ⟨ρ, M, _, rs, m, q, fun v H1 d M1 f s q1 => by
    cases d with
    | int c => cases f; exact ⟨c, rfl, (k.after s).val s.mem (.int _) q1⟩
    | _ => exact q1.elim⟩
theorem de_if {t : Expr} (ht : DT X t tt) (ha : DE X a ta) (hb : DE X b tb) : DE X (.IfExp t a b pos) (dIf tt ta tb) :=
  pe_weak (pe_ifExp ht ha hb) fun σ H Q ⟨ρ, M, Q', rs, m, q, k⟩ => ⟨ρ, M, _, rs, m, q, fun c H1 M1 s q1 => by
    cases c with
    | true => exact iteT ⟨ρ, M1, Q', rs.up s.tups, s.mem, q1, k.after s⟩
    | false => exact iteF ⟨ρ, M1, Q', rs.up s.tups, s.mem, q1, k.after s⟩⟩
end
end DL

namespace DL
open PySem L2
open PyProof.Rows (b2i)

/-! ### arguments, displays -/
def dNil : TAD := fun _ M Q => Q [] M
def dCons (t : TED) (u : TAD) : TAD := fun ρ M Q => t ρ M fun d M1 => u ρ M1 fun ds M2 => Q (d :: ds) M2
def dTup (t : TAD) : TED := fun ρ M Q => t ρ M fun ds M1 => ds.length ≤ sizeLine ∧ Q (.tup ds) M1
def dLst (t : TAD) : TED := fun ρ M Q => t ρ M fun ds M1 => ds.length ≤ sizeLine ∧ ∀ p, M1 p = none → Q (.ref p) (updM M1 p (.lst ds))
section
variable {X : Cx} {e : Expr} {es : List Expr} {te : TED} {t : TAD} {pos : Pos}
theorem da_nil : DA X [] dNil := pa_weak pa_nil fun σ H Q ⟨ρ, M, Q', r, m, h, k⟩ => k [] H [] M .nil (.refl m) h
theorem da_cons (ha : DE X e te) (hr : DA X es t) (hs : starEach (e :: es) X.env = (false, eval e X.env) :: starEach es X.env := by rfl) : DA X (e :: es) (dCons te t) :=
  pa_weak (pa_cons ha hr hs) fun σ H Q ⟨ρ, M, Q', r, m, h, k⟩ => ⟨ρ, M, _, r, m, h, fun v H1 d M1 f s q => ⟨ρ, M1, _, r.up s.tups, s.mem, q, fun vs H2 ds M2 fs s2 q2 => k _ _ _ _ (.cons (f.up s2.tups) fs) (s.trans s2) q2⟩⟩
theorem de_tup {x1} (h : DA X es t) : DE X (.Tuple es x1 pos) (dTup t) :=
  pe_weak (pe_tupZ h) fun σ H Q ⟨ρ, M, Q', r, m, h, k⟩ => ⟨ρ, M, _, r, m, h, fun vs H1 ds M1 fs s q => ⟨by rw [fs.length]; exact q.1, fun p o hp ho => (k.after s).newTup s.mem fs q.2 hp ho⟩⟩
theorem de_lst (h : DA X es t) : DE X (.List es pos) (dLst t) :=
  pe_weak (pe_lst h) fun σ H Q ⟨ρ, M, Q', r, m, h, k⟩ => ⟨ρ, M, _, r, m, h, fun vs H1 ds M1 fs s q => ⟨by rw [fs.length]; exact q.1, fun p hp => (k.after s).newLst s.mem fs q.2 hp⟩⟩
end

/-! ### items, slices -/
theorem FzAll.atI {K : PySem.W.Frag} {H : Hp} {vs : List V} {ds : List D} {i : Int} {d : D} (f : FzAll K H vs ds) (h : L2.atI ds i = some d) : ∃ v, L2.atI vs i = some v ∧ Fz K H v d := by
  unfold L2.atI at h ⊢
  rw [f.length]
  cases e : ixN ds.length i with
  | none => rw [e] at h; cases h
  | some j =>
    rw [e] at h
    obtain ⟨v, q, g⟩ := f.get (show ds[j]? = some d from h)
    exact ⟨v, q, g⟩
def ixQ (o : Option D) (M : Mp) (Q : KD) : Prop := match o with
  | some d => Q d M
  | none => False
theorem ixQ_of {o : Option D} {d : D} {M : Mp} {Q : KD} (e : o = some d) (q : Q d M) : ixQ o M Q := by subst e; exact q
theorem ixQ_some {o : Option D} {M : Mp} {Q : KD} (q : ixQ o M Q) : ∃ d, o = some d ∧ Q d M := by
  cases o with
  | none => exact q.elim
  | some d => exact ⟨d, rfl, q⟩
def rIxX : R2D := fun x y M Q => match x, y with
  | .tup ds, .int i => ixQ (atI ds i) M Q
  | .fl ds, .int i => ixQ (atI ds i) M Q
  | .ref p, .int i => ∃ ds, M p = some (.lst ds) ∧ ixQ (atI ds i) M Q
  | .str z, .int i => z.length ≤ sizeLine ∧ ∃ c, atI z.cps.toList i = some c ∧ Q (.str ⟨#[c]⟩) M
  | _, _ => False
abbrev TOD := DSt → Mp → (Option Int → Mp → Prop) → Prop
def upO (K : PySem.W.Frag) (t : TOD) : TO := fun σ H Q => ∃ ρ M Q', RelS K H σ ρ ∧ MemOk K H M ∧ t ρ M Q' ∧ ∀ o H' M', Step K H M H' M' → Q' o M' → Q o H'
abbrev DO (X : Cx) (e : Option Expr) (t : TOD) : Prop := PO X e (upO X.K t)
def dNo : TOD := fun _ M Q => Q none M
def dPart (t : TED) : TOD := fun ρ M Q => t ρ M fun d M1 => match d with
  | .int i => Q (some i) M1
  | _ => False
def cutD (ds : List D) (lo hi : Option Int) : List D := (ds.drop (HT.sIx ds.length 0 lo)).take (HT.sIx ds.length ds.length hi - HT.sIx ds.length 0 lo)
theorem cut_fz {K : PySem.W.Frag} {H : Hp} {vs : List V} {ds : List D} (f : FzAll K H vs ds) (lo hi : Option Int) : FzAll K H (cutV vs lo hi) (cutD ds lo hi) := by
  unfold cutV cutD
  rw [f.length]
  exact (f.drop _).take _
theorem cut_whole (ds : List D) (lo hi : Option Int) (h : HT.sIx ds.length 0 lo = 0 ∧ HT.sIx ds.length ds.length hi = ds.length) : cutD ds lo hi = ds := by
  unfold cutD
  rw [h.1, h.2]
  simp
def rSlX (x : D) (lo hi : Option Int) (M : Mp) (Q : KD) : Prop := match x with
  | .tup ds => Q (.tup (cutD ds lo hi)) M
  | .fl ds => ∀ p, M p = none → Q (.ref p) (updM M p (.lst (cutD ds lo hi)))
  | .ref p => ∃ ds, M p = some (.lst ds) ∧ ∀ q, M q = none → Q (.ref q) (updM M q (.lst (cutD ds lo hi)))
  | _ => False
def dSl (te : TED) (lo hi : TOD) : TED := fun ρ M Q => te ρ M fun x M1 => lo ρ M1 fun l M2 => hi ρ M2 fun u M3 => rSlX x l u M3 Q
section
variable {X : Cx} {a b : Expr} {ta tb : TED} {pos p2 : Pos} {lo hi : Option Expr} {tl th : TOD}
theorem de_ix (ha : DE X a ta) (hb : DE X b tb) (hs : PlainIx b := by exact fun _ _ => rfl) : DE X (.Subscript a b pos) (dOp rIxX ta tb) := by
  refine pe_weak (pe_ix ix_seq ha hb hs) (up_op ?_)
  intro H M vx vy x y Q' Q fx fy m h k
  unfold rIxX at h
  split at h
  · obtain ⟨d, e, q⟩ := ixQ_some h
    cases fy
    cases fx with
    | tup hs f =>
      obtain ⟨v, h1, g⟩ := f.atI e
      exact .inr (.inl ⟨_, _, _, v, rfl, rfl, hs.t, h1, k.val m g q⟩)
  · obtain ⟨d, e, q⟩ := ixQ_some h
    cases fy
    cases fx with
    | fl hs f =>
      obtain ⟨v, h1, g⟩ := f.atI e
      exact .inl ⟨_, _, _, v, rfl, rfl, hs.sq, h1, k.val m g q⟩
  · obtain ⟨ds, hp, h⟩ := h
    obtain ⟨d, e, q⟩ := ixQ_some h
    cases fy; cases fx
    obtain ⟨xs, h0, f⟩ := m.lst hp
    obtain ⟨v, h1, g⟩ := f.atI e
    exact .inl ⟨_, _, _, v, rfl, rfl, .of h0, h1, k.val m g q⟩
  · obtain ⟨hz, c, e, q⟩ := h
    cases fy; cases fx
    exact .inr (.inr ⟨_, _, c, rfl, rfl, hz, e, k.val m (.str _) q⟩)
  · exact h.elim
theorem do_none : DO X none dNo := ⟨fun pins s σ H Q I h => po_none.run pins s σ H Q I (by
  obtain ⟨ρ, M, Q', r, m, q, k⟩ := h
  exact k none H M (.refl m) q)⟩
theorem do_some (h : DE X a ta) : DO X (some a) (dPart ta) := ⟨fun pins s σ H Q I hq => (po_some h).run pins s σ H Q I (by
  obtain ⟨ρ, M, Q', r, m, q, k⟩ := hq
  refine ⟨ρ, M, _, r, m, q, fun v H1 d M1 f s q1 => ?_⟩
  cases d with
  | int i => cases f; exact ⟨i, rfl, k _ _ _ s q1⟩
  | _ => exact q1.elim)⟩
theorem de_sl (ha : DE X a ta) (hl : DO X lo tl) (hu : DO X hi th) : DE X (.Subscript a (.Slice lo hi none p2) pos) (dSl ta tl th) := by
  refine pe_weak (pe_slice (sl_list.or sl_tupZ) ha hl hu) fun σ H Q ⟨ρ, M, Q', r, m, h, k⟩ => ?_
  refine ⟨ρ, M, _, r, m, h, fun v H1 x M1 f s q => ⟨ρ, M1, _, r.up s.tups, s.mem, q, fun l H2 M2 s2 q2 => ⟨ρ, M2, _, (r.up s.tups).up s2.tups, s2.mem, q2, fun u H3 M3 s3 q3 => ?_⟩⟩⟩
  have k3 := ((k.after s).after s2).after s3
  have f3 := (f.up s2.tups).up s3.tups
  unfold rSlX at q3
  split at q3
  · cases f3 with
    | tup hs fs =>
      refine .inr ⟨_, _, rfl, hs.t, fun e => ?_, fun e p o hp ho => k3.newTup s3.mem (cut_fz fs l u) q3 hp ho⟩
      rw [fs.length] at e
      rw [cut_whole _ _ _ e] at q3
      exact k3.val s3.mem (.tup hs fs) q3
  · cases f3 with
    | fl hs fs => exact .inl ⟨_, _, rfl, hs.sq, fun p hp => k3.newLst s3.mem (cut_fz fs l u) q3 hp⟩
  · obtain ⟨ds, hp, q⟩ := q3
    cases f3
    obtain ⟨xs, h0, fs⟩ := s3.mem.lst hp
    exact .inl ⟨_, _, rfl, .of h0, fun p hp => k3.newLst s3.mem (cut_fz fs l u) q hp⟩
  · exact q3.elim
end

/-! ### calls of what is built in -/
abbrev RCD := List D → Mp → KD → Prop
def CLe (K : PySem.W.Frag) (r : List V → Hp → VK → Prop) (rd : RCD) : Prop := ∀ H M vs ds Q' Q, FzAll K H vs ds → MemOk K H M → rd ds M Q' → KLe K H M Q' Q → r vs H Q
def CaR (X : Cx) (f : Value) (rd : RCD) : Prop := ∃ r, CallR X f r ∧ CLe X.K r rd
def dCB (r : RCD) (t : TAD) : TED := fun ρ M Q => t ρ M fun ds M1 => r ds M1 Q
section
variable {X : Cx} {x : Str} {p pos : Pos} {e : Expr} {es : List Expr} {t : TAD} {id T : String} {r : RCD}
theorem up_cb {K : PySem.W.Frag} {r0 : List V → Hp → VK → Prop} (l : CLe K r0 r) (σ : St) (H : Hp) (Q : VK) (h : upE K (dCB r t) σ H Q) : tCB r0 (upA K t) σ H Q := by
  obtain ⟨ρ, M, Q', rs, m, h, k⟩ := h
  exact ⟨ρ, M, _, rs, m, h, fun vs H1 ds M1 fs s q => l H1 M1 vs ds Q' Q fs s.mem q (k.after s)⟩
theorem de_cb (hc : CaR X (.builtin id) r) (hg : Gl X x) (hm : X.mg x = none) (hv : bootBuiltins x = some (.builtin id)) (ha : DA X (e :: es) t) (hn : x ≠ "__name__" := by decide) (hdb : (x == ("__debug__" : Str)) = false := by decide)
    (he : starEach (e :: es) X.env = (false, eval e X.env) :: starEach es X.env := by rfl) (hpl : (backTo pos (starEach es X.env)).any (·.1) = false := by rfl) : DE X (.Call (.Name x p) (e :: es) [] pos) (dCB r t) := by
  obtain ⟨r0, hc, l⟩ := hc
  exact pe_weak (pe_callB hc hg hm hv ha hn hdb he hpl) (up_cb l)
theorem de_ct (hc : CaR X (.type T) r) (hg : Gl X x) (hm : X.mg x = none) (hv : bootBuiltins x = some (.type T)) (ha : DA X (e :: es) t) (hn : x ≠ "__name__" := by decide) (hdb : (x == ("__debug__" : Str)) = false := by decide)
    (he : starEach (e :: es) X.env = (false, eval e X.env) :: starEach es X.env := by rfl) (hpl : (backTo pos (starEach es X.env)).any (·.1) = false := by rfl) : DE X (.Call (.Name x p) (e :: es) [] pos) (dCB r t) := by
  obtain ⟨r0, hc, l⟩ := hc
  exact pe_weak (pe_callTy hc hg hm hv ha hn hdb he hpl) (up_cb l)
/-- len -/
def rLenX : RCD := fun ds M Q => match ds with
  | [.tup xs] => Q (.int xs.length) M
  | [.fl xs] => Q (.int xs.length) M
  | [.str z] => z.length ≤ sizeLine ∧ Q (.int z.length) M
  | [.ref p] => ∃ xs, M p = some (.lst xs) ∧ Q (.int xs.length) M
  | _ => False
theorem ca_len : CaR X (.builtin "len") rLenX := by
  refine ⟨_, call_len, ?_⟩
  intro H M vs ds Q' Q fs m h k
  unfold rLenX at h
  split at h
  · cases fs with
    | cons f t =>
      cases t
      cases f with
      | tup hs f => exact ⟨_, _, rfl, .inr ⟨_, hs.t, f.length.symm⟩, k.val m (.int _) h⟩
  · cases fs with
    | cons f t =>
      cases t
      cases f with
      | fl hs f => exact ⟨_, _, rfl, .inl ⟨_, hs.sq, f.length.symm⟩, k.val m (.int _) h⟩
  · cases fs with
    | cons f t =>
      cases t
      cases f
      exact ⟨_, _, rfl, ⟨h.1, rfl⟩, k.val m (.int _) h.2⟩
  · obtain ⟨xs, hp, q⟩ := h
    cases fs with
    | cons f t =>
      cases t
      cases f
      obtain ⟨ys, h0, f⟩ := m.lst hp
      exact ⟨_, _, rfl, .inl ⟨_, .of h0, f.length.symm⟩, k.val m (.int _) q⟩
  · exact h.elim
/-- list(xs), tuple(xs) -/
def rListX : RCD := fun ds M Q => match ds with
  | [.tup xs] => ∀ p, M p = none → Q (.ref p) (updM M p (.lst xs))
  | [.fl xs] => ∀ p, M p = none → Q (.ref p) (updM M p (.lst xs))
  | [.ref p] => ∃ xs, M p = some (.lst xs) ∧ ∀ q, M q = none → Q (.ref q) (updM M q (.lst xs))
  | _ => False
theorem ca_list : CaR X (.type "list") rListX := by
  refine ⟨_, call_list_of, ?_⟩
  intro H M vs ds Q' Q fs m h k
  unfold rListX at h
  split at h
  · cases fs with
    | cons f t =>
      cases t
      cases f with
      | tup hs f => exact ⟨_, _, rfl, .inr hs.t, fun p hp => k.newLst m f h hp⟩
  · cases fs with
    | cons f t =>
      cases t
      cases f with
      | fl hs f => exact ⟨_, _, rfl, .inl hs.sq, fun p hp => k.newLst m f h hp⟩
  · obtain ⟨xs, hp, q⟩ := h
    cases fs with
    | cons f t =>
      cases t
      cases f
      obtain ⟨ys, h0, f⟩ := m.lst hp
      exact ⟨_, _, rfl, .inl (.of h0), fun p hp => k.newLst m f q hp⟩
  · exact h.elim
def rTupX : RCD := fun ds M Q => match ds with
  | [.tup xs] => Q (.tup xs) M
  | [.fl xs] => Q (.tup xs) M
  | [.ref p] => ∃ xs, M p = some (.lst xs) ∧ Q (.tup xs) M
  | _ => False
theorem ca_tuple : CaR X (.type "tuple") rTupX := by
  refine ⟨_, call_tupleZ, ?_⟩
  intro H M vs ds Q' Q fs m h k
  unfold rTupX at h
  split at h
  · cases fs with
    | cons f t =>
      cases t
      cases f with
      | tup hs f => exact ⟨_, _, rfl, .inr ⟨hs.t, k.val m (.tup hs f) h⟩⟩
  · cases fs with
    | cons f t =>
      cases t
      cases f with
      | fl hs f => exact ⟨_, _, rfl, .inl ⟨hs.sq, fun p o hp ho => k.newTup m f h hp ho⟩⟩
  · obtain ⟨xs, hp, q⟩ := h
    cases fs with
    | cons f t =>
      cases t
      cases f
      obtain ⟨ys, h0, f⟩ := m.lst hp
      exact ⟨_, _, rfl, .inl ⟨.of h0, fun p o hp ho => k.newTup m f q hp ho⟩⟩
  · exact h.elim
/-- abs, int, max, min of two ints -/
def rAbsX : RCD := fun ds M Q => match ds with
  | [.int i] => Q (.int (if i < 0 then -i else i)) M
  | _ => False
theorem ca_abs : CaR X (.builtin "abs") rAbsX := by
  refine ⟨_, call_abs, ?_⟩
  intro H M vs ds Q' Q fs m h k
  unfold rAbsX at h
  split at h
  · cases fs with
    | cons f t =>
      cases t
      cases f
      exact ⟨_, rfl, k.val m (.int _) h⟩
  · exact h.elim
def rIntX : RCD := fun ds M Q => match ds with
  | [.int i] => Q (.int i) M
  | [.bl b] => Q (.int (b2i b)) M
  | _ => False
theorem ca_int : CaR X (.type "int") rIntX := by
  refine ⟨_, call_int1, ?_⟩
  intro H M vs ds Q' Q fs m h k
  unfold rIntX at h
  split at h
  · cases fs with
    | cons f t =>
      cases t
      cases f
      exact .inl ⟨_, rfl, k.val m (.int _) h⟩
  · rename_i b
    cases fs with
    | cons f t =>
      cases t
      cases f
      refine .inr ⟨b, rfl, ?_⟩
      cases b <;> exact k.val m (.int _) h
  · exact h.elim
def rMaxX : RCD := fun ds M Q => match ds with
  | [.int i, .int j] => Q (.int (if j > i then j else i)) M
  | _ => False
theorem ca_max2 (hc : X.calm = true) : CaR X (.builtin "max") rMaxX := by
  refine ⟨_, call_max2 hc, ?_⟩
  intro H M vs ds Q' Q fs m h k
  unfold rMaxX at h
  split at h
  · cases fs with
    | cons f t =>
      cases t with
      | cons f2 t =>
        cases t
        cases f
        cases f2
        exact ⟨_, _, rfl, k.val m (.int _) h⟩
  · exact h.elim
def rMinX : RCD := fun ds M Q => match ds with
  | [.int i, .int j] => Q (.int (if j < i then j else i)) M
  | _ => False
theorem ca_min2 (hc : X.calm = true) : CaR X (.builtin "min") rMinX := by
  refine ⟨_, call_min2 hc, ?_⟩
  intro H M vs ds Q' Q fs m h k
  unfold rMinX at h
  split at h
  · cases fs with
    | cons f t =>
      cases t with
      | cons f2 t =>
        cases t
        cases f
        cases f2
        exact ⟨_, _, rfl, k.val m (.int _) h⟩
  · exact h.elim
/-- any, all over a list of bools -/
def rAnyX : RCD := fun ds M Q => match ds with
  | [.ref p] => ∃ bs : List Bool, M p = some (.lst (bs.map D.bl)) ∧ Q (.bl (bs.any fun b => b)) M
  | _ => False
def rAllX : RCD := fun ds M Q => match ds with
  | [.ref p] => ∃ bs : List Bool, M p = some (.lst (bs.map D.bl)) ∧ Q (.bl (bs.all fun b => b)) M
  | _ => False
theorem ca_any (hc : X.calm = true) : CaR X (.builtin "any") rAnyX := by
  refine ⟨_, cr_any hc, ?_⟩
  intro H M vs ds Q' Q fs m h k
  unfold rAnyX at h
  split at h
  · obtain ⟨bs, hp, q⟩ := h
    cases fs with
    | cons f t =>
      cases t
      cases f
      obtain ⟨ys, h0, f⟩ := m.lst hp
      rw [f.bls] at h0
      exact ⟨_, bs, rfl, .of h0, k.val m (.bl _) q⟩
  · exact h.elim
theorem ca_all (hc : X.calm = true) : CaR X (.builtin "all") rAllX := by
  refine ⟨_, cr_all hc, ?_⟩
  intro H M vs ds Q' Q fs m h k
  unfold rAllX at h
  split at h
  · obtain ⟨bs, hp, q⟩ := h
    cases fs with
    | cons f t =>
      cases t
      cases f
      obtain ⟨ys, h0, f⟩ := m.lst hp
      rw [f.bls] at h0
      exact ⟨_, bs, rfl, .of h0, k.val m (.bl _) q⟩
  · exact h.elim
/-- isinstance(x, T), T a built-in type -/
inductive Tg | none | bool | int | str | tuple | list | dict
  deriving DecidableEq
def Tg.nm : Tg → String
  | .none => "NoneType" | .bool => "bool" | .int => "int" | .str => "str" | .tuple => "tuple" | .list => "list" | .dict => "dict"
def isI : Tg → Tg → Bool
  | .none, .none => true | .bool, .bool => true | .bool, .int => true | .int, .int => true | .str, .str => true | .tuple, .tuple => true | .list, .list => true | .dict, .dict => true
  | _, _ => false
def MO.tg : MO → Option Tg
  | .lst _ => some .list
  | .dct _ => some .dict
  | .dctT _ => some .dict
  | _ => Option.none
def rIsX (T : Tg) (d : D) (M : Mp) (Q : KD) : Prop := match d with
  | .non => Q (.bl (isI .none T)) M
  | .bl _ => Q (.bl (isI .bool T)) M
  | .int _ => Q (.bl (isI .int T)) M
  | .str _ => Q (.bl (isI .str T)) M
  | .tup _ => Q (.bl (isI .tuple T)) M
  | .fl _ => Q (.bl (isI .list T)) M
  | .ref p => ∃ o t, M p = some o ∧ o.tg = some t ∧ Q (.bl (isI t T)) M
  | _ => False
theorem tyx_of {K : PySem.W.Frag} {H : Hp} {M : Mp} {p : Addr} {o : MO} {t : Tg} (m : MemOk K H M) (h : M p = some o) (ht : o.tg = some t) : TyX K H (.ref p) (.type t.nm) := by
  obtain ⟨u, e, z⟩ := m p o h
  cases o with
  | lst ds => cases ht; obtain ⟨xs, rfl, _⟩ := z; exact .base (.lst e)
  | dct ds => cases ht; obtain ⟨xs, rfl, _⟩ := z; exact .base (.dK e)
  | dctT ds => cases ht; obtain ⟨xs, rfl, _⟩ := z; exact .base (.dT e)
  | _ => cases ht
theorem tyx_tup {K : PySem.W.Frag} {H : Hp} {p : Addr} {xs : List V} (h : SqT K H p xs) : TyX K H (.ref p) (.type "tuple") := by
  rcases h with (h | ⟨o, h⟩) | ⟨o, _, _, h, c, _⟩
  · exact .base (.tup h)
  · exact .fTuple h
  · exact .kTuple h c
theorem tyx_fl {K : PySem.W.Frag} {H : Hp} {p : Addr} {xs : List V} (h : Fro K H p xs) : TyX K H (.ref p) (.type "list") := by
  rcases h with ⟨o, h⟩ | ⟨o, _, _, h, c, _⟩
  · exact .base (.frz h)
  · exact .kList h c
def dIsi (T : Tg) (t : TED) : TED := fun ρ M Q => t ρ M fun d M1 => rIsX T d M1 Q
/-- isinstance(a, T): hk, hv by decide +kernel -/
theorem de_isi {a : Expr} {ta : TED} {y : Str} {p2 : Pos} (T : Tg) (hk : ∀ t : Tg, kitB t.nm T.nm = some (isI t T)) (hg : Gl X "isinstance") (hm : X.mg "isinstance" = none) (hv : bootBuiltins "isinstance" = some (.builtin "isinstance")) (ha : DE X a ta)
    (hg2 : Gl X y) (hm2 : X.mg y = none) (hv2 : bootBuiltins y = some (.type T.nm)) (hn2 : y ≠ "__name__" := by decide) (hd2 : (y == ("__debug__" : Str)) = false := by decide)
    (he : starEach [a, .Name y p2] X.env = (false, eval a X.env) :: starEach [.Name y p2] X.env := by rfl) (he2 : starEach [.Name y p2] X.env = [(false, eval (.Name y p2) X.env)] := by rfl) (hpl : (backTo pos (starEach [.Name y p2] X.env)).any (·.1) = false := by rfl) :
    DE X (.Call (.Name "isinstance" p) [a, .Name y p2] [] pos) (dIsi T ta) := by
  refine pe_weak (pe_callB call_isi hg hm hv (pa_cons ha (pa_cons (pe_bltn (v := .ty T.nm) hg2 hm2 hv2 rfl hn2 hd2) pa_nil he2) he) (he := he) (hpl := hpl)) fun σ H Q ⟨ρ, M, Q', rs, m, h, k⟩ => ?_
  refine ⟨ρ, M, _, rs, m, h, fun v H1 d M1 f s q => ?_⟩
  have fin : ∀ {tt : Tg}, TyX X.K H1 v (.type tt.nm) → Q' (.bl (isI tt T)) M1 → rIsi X.K [v, .ty T.nm] H1 Q := fun {tt} ty q => ⟨v, .ty T.nm, .type tt.nm, .type T.nm, _, rfl, .ty _, ty, kit_ty (hk tt), (k.after s).val s.mem (.bl _) q⟩
  show rIsi X.K [v, .ty T.nm] H1 Q
  cases d with
  | non => cases f; exact fin (tt := .none) (.base .non) q
  | bl b => cases f; exact fin (tt := .bool) (.base (.bl _)) q
  | int b => cases f; exact fin (tt := .int) (.base (.int _)) q
  | str b => cases f; exact fin (tt := .str) (.base (.str _)) q
  | tup b => cases f with | tup hs _ => exact fin (tt := .tuple) (tyx_tup hs.t) q
  | fl b => cases f with | fl hs _ => exact fin (tt := .list) (tyx_fl hs) q
  | ref p =>
    cases f
    obtain ⟨o, tt, hp, ht, q⟩ := q
    exact fin (tt := tt) (tyx_of s.mem hp ht) q
  | ty n => exact q.elim
  | xo _ _ _ _ => exact q.elim
  | ev _ _ _ _ _ => exact q.elim
  | kt _ => exact q.elim
  | pr n => exact q.elim
end
end DL

namespace DL
open PySem L2
open PyProof.Rows (b2i)

/-! ### methods of lists -/
abbrev RMD := D → List D → Mp → KD → Prop
def MLe (K : PySem.W.Frag) (r : V → List V → Hp → VK → Prop) (rd : RMD) : Prop := ∀ H M v vs d ds Q' Q, Fz K H v d → FzAll K H vs ds → MemOk K H M → rd d ds M Q' → KLe K H M Q' Q → r v vs H Q
def MR (X : Cx) (id : String) (rd : RMD) : Prop := ∃ r, MtR X id r ∧ MLe X.K r rd
def isL (d : D) (M : Mp) : Prop := match d with
  | .ref p => ∃ ds, M p = some (.lst ds)
  | .fl _ => True
  | _ => False
def dML (r : RMD) (to : TED) (t : TAD) : TED := fun ρ M Q => to ρ M fun d M1 => isL d M1 ∧ t ρ M1 fun ds M2 => r d ds M2 Q
section
variable {X : Cx} {o e : Expr} {es : List Expr} {to : TED} {t : TAD} {name : Str} {apos cpos : Pos} {id : String} {r : RMD}
theorem tyV_isL {K : PySem.W.Frag} {H : Hp} {M : Mp} {v : V} {d : D} (f : Fz K H v d) (m : MemOk K H M) (h : isL d M) : tyV K "list" v H := by
  cases d with
  | ref p =>
    cases f
    obtain ⟨ds, h⟩ := h
    obtain ⟨xs, e, _⟩ := m.lst h
    exact .inl ⟨rfl, xs, .of e⟩
  | fl ds =>
    cases f with
    | fl hs _ => exact .inl ⟨rfl, _, hs.sq⟩
  | _ => exact h.elim
theorem de_ml (slot : Slot "list" name id) (hty : typeOf (.builtin id) = pure (.type "method_descriptor")) (hm : MR X id r) (ho : DE X o to) (ha : DA X (e :: es) t)
    (hbase : attributeBase o name X.env (eval o X.env) = eval o X.env := by rfl)
    (hfew : ((backTo cpos (starEach (e :: es) X.env)).all (fun x => !x.1) && (backToKw cpos (keywordEach [] X.env)).all (fun x => x.1.isSome)
      && decide ((e :: es).length + ([] : List Keyword).length + (if ([] : List Keyword).isEmpty then 0 else 1) < 30)) = true := by rfl)
    (hline : (apos.endLine == cpos.line) = true := by rfl) (hs : starEach (e :: es) X.env = (false, eval e X.env) :: starEach es X.env := by rfl) (hplain : (backTo cpos (starEach es X.env)).any (·.1) = false := by rfl) :
    DE X (.Call (.Attribute o name apos) (e :: es) [] cpos) (dML r to t) := by
  obtain ⟨r0, hm, l⟩ := hm
  refine pe_weak (pe_bm PySem.F.plainAttrs_list slot hty hm ho ha hbase hfew hline hs hplain) fun σ H Q ⟨ρ, M, Q', rs, m, h, k⟩ => ?_
  refine ⟨ρ, M, _, rs, m, h, fun v H1 d M1 f s q => ⟨tyV_isL f s.mem q.1, ρ, M1, _, rs.up s.tups, s.mem, q.2, fun vs H2 ds M2 fs s2 q2 => ?_⟩⟩
  exact l H2 M2 v vs d ds Q' Q (f.up s2.tups) fs s2.mem q2 ((k.after s).after s2)
theorem de_ml0 (slot : Slot "list" name id) (hty : typeOf (.builtin id) = pure (.type "method_descriptor")) (hm : MR X id r) (ho : DE X o to)
    (hbase : attributeBase o name X.env (eval o X.env) = eval o X.env := by rfl) (hline : (apos.endLine == cpos.line) = true := by rfl) : DE X (.Call (.Attribute o name apos) [] [] cpos) (dML r to dNil) := by
  obtain ⟨r0, hm, l⟩ := hm
  refine pe_weak (pe_bm0 PySem.F.plainAttrs_list slot hty hm ho hbase hline) fun σ H Q ⟨ρ, M, Q', rs, m, h, k⟩ => ?_
  exact ⟨ρ, M, _, rs, m, h, fun v H1 d M1 f s q => ⟨tyV_isL f s.mem q.1, l H1 M1 v [] d [] Q' Q f .nil s.mem q.2 (k.after s)⟩⟩
def rAppX : RMD := fun d ds M Q => match d, ds with
  | .ref p, [y] => ∃ xs, M p = some (.lst xs) ∧ xs.length < sizeLine ∧ Q .non (updM M p (.lst (xs ++ [y])))
  | _, _ => False
theorem mr_append : MR X "list.append" rAppX := by
  refine ⟨_, mt_append, ?_⟩
  intro H M v vs d ds Q' Q f fs m h k
  unfold rAppX at h
  split at h
  · obtain ⟨xs, hp, hz, q⟩ := h
    cases f
    cases fs with
    | cons f1 t =>
      cases t
      obtain ⟨ys, h0, g⟩ := m.lst hp
      exact ⟨_, ys, _, rfl, rfl, h0, by rw [g.length]; exact hz, k.wrLst m hp (g.append (.cons f1 .nil)) (fun _ => .non) q⟩
  · exact h.elim
def rExtX : RMD := fun d ds M Q => match d, ds with
  | .ref p, [.ref q] => ∃ xs ys, M p = some (.lst xs) ∧ M q = some (.lst ys) ∧ xs.length + ys.length ≤ sizeLine ∧ Q .non (updM M p (.lst (xs ++ ys)))
  | _, _ => False
theorem mr_extend : MR X "list.extend" rExtX := by
  refine ⟨_, mt_extend, ?_⟩
  intro H M v vs d ds Q' Q f fs m h k
  unfold rExtX at h
  split at h
  · obtain ⟨xs, ys, hp, hq, hz, q⟩ := h
    cases f
    cases fs with
    | cons f1 t =>
      cases t
      cases f1
      obtain ⟨as, h0, g⟩ := m.lst hp
      obtain ⟨bs, h1, g1⟩ := m.lst hq
      exact ⟨_, _, as, bs, rfl, rfl, h0, h1, by rw [g.length, g1.length]; exact hz, k.wrLst m hp (g.append g1) (fun _ => .non) q⟩
  · exact h.elim
theorem FzAll.dropLast {K : PySem.W.Frag} {H : Hp} {xs : List V} {as : List D} (f : FzAll K H xs as) : FzAll K H xs.dropLast as.dropLast := by
  rw [List.dropLast_eq_take, List.dropLast_eq_take, f.length]
  exact f.take _
def rPopX : RMD := fun d ds M Q => match d, ds with
  | .ref p, [] => ∃ xs y, M p = some (.lst xs) ∧ xs[xs.length - 1]? = some y ∧ Q y (updM M p (.lst xs.dropLast))
  | _, _ => False
theorem mr_pop : MR X "list.pop" rPopX := by
  refine ⟨_, mt_pop, ?_⟩
  intro H M v vs d ds Q' Q f fs m h k
  unfold rPopX at h
  split at h
  · obtain ⟨xs, y, hp, hy, q⟩ := h
    cases f
    cases fs
    obtain ⟨ys, h0, g⟩ := m.lst hp
    obtain ⟨v, h1, f1⟩ := g.get hy
    rw [← g.length] at h1
    refine ⟨_, ys, v, rfl, rfl, h0, h1, ?_⟩
    refine k _ _ y _ ?_ (.wr m hp (fun z => by cases z) (show MoOk X.K H (.lst ys.dropLast) (.lst xs.dropLast) from ⟨_, rfl, g.dropLast⟩)) q
    exact f1.up (Step.wr m hp (fun z => by cases z) (show MoOk X.K H (.lst ys.dropLast) (.lst xs.dropLast) from ⟨_, rfl, g.dropLast⟩)).tups
  · exact h.elim
def rPopAtX : RMD := fun d ds M Q => match d, ds with
  | .ref p, [.int i] => -(2 ^ 63) ≤ i ∧ i < 2 ^ 63 ∧ ∃ xs k y, M p = some (.lst xs) ∧ seqIndex? i xs.length = some k ∧ xs[k]? = some y ∧ Q y (updM M p (.lst (xs.eraseIdx k)))
  | _, _ => False
theorem mr_popAt : MR X "list.pop" rPopAtX := by
  refine ⟨_, mt_popAt, ?_⟩
  intro H M v vs d ds Q' Q f fs m h k
  unfold rPopAtX at h
  split at h
  · obtain ⟨b1, b2, xs, j, y, hp, hj, hy, q⟩ := h
    cases f
    cases fs with
    | cons f1 t =>
      cases t
      cases f1
      obtain ⟨ys, h0, g⟩ := m.lst hp
      obtain ⟨v, h1, f1⟩ := g.get hy
      refine ⟨_, ys, _, j, v, rfl, rfl, h0, b1, b2, by rw [g.length]; exact hj, h1, ?_⟩
      refine k _ _ y _ ?_ (.wr m hp (fun z => by cases z) (show MoOk X.K H (.lst (ys.eraseIdx j)) (.lst (xs.eraseIdx j)) from ⟨_, rfl, g.eraseIdx j⟩)) q
      exact f1.up (Step.wr m hp (fun z => by cases z) (show MoOk X.K H (.lst (ys.eraseIdx j)) (.lst (xs.eraseIdx j)) from ⟨_, rfl, g.eraseIdx j⟩)).tups
  · exact h.elim
/-- index of flat things, the first place -/
def rIdxX : RMD := fun d ds M Q => match ds with
  | [y] => ∃ ys j z, ((∃ p, d = .ref p ∧ M p = some (.lst ys)) ∨ d = .fl ys) ∧ flatD y = true ∧ ys.all flatD = true ∧ ys[j]? = some z ∧ eqF z y = true ∧ (∀ (n : Nat) (z' : D), n < j → ys[n]? = some z' → eqF z' y = false) ∧ Q (.int (j : Nat)) M
  | _ => False
theorem mr_index : MR X "list.index" rIdxX := by
  refine ⟨_, L2.mt_index, ?_⟩
  intro H M v vs d ds Q' Q f fs m h k
  unfold rIdxX at h
  split at h
  · rename_i y
    obtain ⟨ys, j, z, hd, fy, fys, hj, ez, no, q⟩ := h
    cases fs with
    | cons f1 t =>
      cases t
      obtain ⟨a, xs, rfl, hs, g⟩ : ∃ a xs, v = .ref a ∧ SqL X.K H a xs ∧ FzAll X.K H xs ys := by
        rcases hd with ⟨p, rfl, hp⟩ | rfl
        · cases f
          obtain ⟨xs, e, g⟩ := m.lst hp
          exact ⟨p, xs, rfl, .of e, g⟩
        · cases f with
          | fl hs g => exact ⟨_, _, rfl, hs.sq, g⟩
      obtain ⟨w, hw, fw⟩ := g.get hj
      have fz : ∀ {z'}, z' ∈ ys → flatD z' = true := fun hm => List.all_eq_true.mp fys _ hm
      refine ⟨a, xs, _, j, w, rfl, rfl, hs, flat_of f1 fy, flats_of g fys, hw, by rw [eqF_of fw f1 (fz (List.mem_of_getElem? hj)) fy]; exact ez, fun n w' hn hw' => ?_, k.val m (.int _) q⟩
      obtain ⟨z', hz', fz'⟩ := g.getV hw'
      rw [eqF_of fz' f1 (fz (List.mem_of_getElem? hz')) fy]
      exact no n z' hn hz'
  · exact h.elim
/-- remove, count: whole numbers -/
def rRemX : RMD := fun d ds M Q => match d, ds with
  | .ref p, [.int i] => ∃ ns : List Int, ∃ j : Nat, M p = some (.lst (ns.map D.int)) ∧ ns[j]? = some i ∧ (∀ n : Nat, n < j → ns[n]? ≠ some i) ∧ Q .non (updM M p (.lst ((ns.eraseIdx j).map D.int)))
  | _, _ => False
theorem mr_remove : MR X "list.remove" rRemX := by
  refine ⟨_, mt_remove, ?_⟩
  intro H M v vs d ds Q' Q f fs m h k
  unfold rRemX at h
  split at h
  · obtain ⟨ns, j, hp, hj, no, q⟩ := h
    cases f
    cases fs with
    | cons f1 t =>
      cases t
      cases f1
      obtain ⟨ys, h0, g⟩ := m.lst hp
      rw [g.ints] at h0
      exact ⟨_, ns, _, j, rfl, rfl, h0, hj, no, k.wrLst m hp FzAll.of_ints (fun _ => .non) q⟩
  · exact h.elim
def rCntX : RMD := fun d ds M Q => match d, ds with
  | .ref p, [.int i] => ∃ ns : List Int, M p = some (.lst (ns.map D.int)) ∧ Q (.int (ns.count i : Nat)) M
  | _, _ => False
theorem mr_count : MR X "list.count" rCntX := by
  refine ⟨_, mt_lcount, ?_⟩
  intro H M v vs d ds Q' Q f fs m h k
  unfold rCntX at h
  split at h
  · obtain ⟨ns, hp, q⟩ := h
    cases f
    cases fs with
    | cons f1 t =>
      cases t
      cases f1
      obtain ⟨ys, h0, g⟩ := m.lst hp
      rw [g.ints] at h0
      exact ⟨_, ns, _, rfl, rfl, .of h0, k.val m (.int _) q⟩
  · exact h.elim
end
/-! ### methods of tuples -/
def dTM (r : RMD) (to : TED) (t : TAD) : TED := fun ρ M Q => to ρ M fun d M1 => (∃ zs, d = .tup zs) ∧ t ρ M1 fun ds M2 => r d ds M2 Q
def rTIdx : RMD := fun d ds M Q => match ds with
  | [.int i] => ∃ ns : List Int, d = .tup (ns.map D.int) ∧ i ∈ ns ∧ Q (.int (ns.idxOf i : Nat)) M
  | _ => False
def rTCnt : RMD := fun d ds M Q => match ds with
  | [.int i] => ∃ ns : List Int, d = .tup (ns.map D.int) ∧ Q (.int (ns.count i : Nat)) M
  | _ => False
section
variable {X : Cx} {o e : Expr} {es : List Expr} {to : TED} {t : TAD} {name : Str} {apos cpos : Pos} {id : String} {r : RMD}
theorem mr_tindex : MR X "tuple.index" rTIdx := by
  refine ⟨_, mt_tindex, ?_⟩
  intro H M v vs d ds Q' Q f fs m h k
  unfold rTIdx at h
  split at h
  · obtain ⟨ns, rfl, hi, q⟩ := h
    cases fs with
    | cons f1 t =>
      cases t
      cases f1
      cases f with
      | tup hs g => exact ⟨_, ns, _, rfl, rfl, by rw [← g.ints]; exact hs.t, hi, k.val m (.int _) q⟩
  · exact h.elim
theorem mr_tcount : MR X "tuple.count" rTCnt := by
  refine ⟨_, mt_tcount, ?_⟩
  intro H M v vs d ds Q' Q f fs m h k
  unfold rTCnt at h
  split at h
  · obtain ⟨ns, rfl, q⟩ := h
    cases fs with
    | cons f1 t =>
      cases t
      cases f1
      cases f with
      | tup hs g => exact ⟨_, ns, _, rfl, rfl, by rw [← g.ints]; exact hs.t, k.val m (.int _) q⟩
  · exact h.elim
theorem de_tm (slot : Slot "tuple" name id) (hty : typeOf (.builtin id) = pure (.type "method_descriptor")) (hm : MR X id r) (ho : DE X o to) (ha : DA X (e :: es) t)
    (hbase : attributeBase o name X.env (eval o X.env) = eval o X.env := by rfl)
    (hfew : ((backTo cpos (starEach (e :: es) X.env)).all (fun x => !x.1) && (backToKw cpos (keywordEach [] X.env)).all (fun x => x.1.isSome)
      && decide ((e :: es).length + ([] : List Keyword).length + (if ([] : List Keyword).isEmpty then 0 else 1) < 30)) = true := by rfl)
    (hline : (apos.endLine == cpos.line) = true := by rfl) (hs : starEach (e :: es) X.env = (false, eval e X.env) :: starEach es X.env := by rfl) (hplain : (backTo cpos (starEach es X.env)).any (·.1) = false := by rfl) :
    DE X (.Call (.Attribute o name apos) (e :: es) [] cpos) (dTM r to t) := by
  obtain ⟨r0, hm, l⟩ := hm
  refine pe_weak (pe_tm slot hty hm ho ha hbase hfew hline hs hplain) fun σ H Q ⟨ρ, M, Q', rs, m, h, k⟩ => ?_
  refine ⟨ρ, M, _, rs, m, h, fun v H1 d M1 f s q => ?_⟩
  obtain ⟨⟨zs, rfl⟩, q⟩ := q
  refine ⟨?_, ρ, M1, _, rs.up s.tups, s.mem, q, fun vs H2 ds M2 fs s2 q2 => ?_⟩
  · cases f with
    | tup hs _ => exact ⟨_, _, rfl, hs⟩
  · exact l H2 M2 v vs (.tup zs) ds Q' Q (f.up s2.tups) fs s2.mem q2 ((k.after s).after s2)
end

/-! ### targets -/
abbrev TGD := D → DSt → Mp → (DSt → Mp → Prop) → Prop
abbrev TGsD := List D → DSt → Mp → (DSt → Mp → Prop) → Prop
def SLe (K : PySem.W.Frag) (H : Hp) (M : Mp) (Q' : DSt → Mp → Prop) (Q : St → Hp → Prop) : Prop := ∀ σ' ρ' H' M', RelS K H' σ' ρ' → Step K H M H' M' → Q' ρ' M' → Q σ' H'
def upG (K : PySem.W.Frag) (g : TGD) : TG := fun v σ H Q => ∃ d ρ M Q', Fz K H v d ∧ RelS K H σ ρ ∧ MemOk K H M ∧ g d ρ M Q' ∧ SLe K H M Q' Q
def upGs (K : PySem.W.Frag) (g : TGsD) : TGs := fun vs σ H Q => ∃ ds ρ M Q', FzAll K H vs ds ∧ RelS K H σ ρ ∧ MemOk K H M ∧ g ds ρ M Q' ∧ SLe K H M Q' Q
abbrev DG (X : Cx) (tg : Expr) (g : TGD) : Prop := PG X tg (upG X.K g)
abbrev DGs (X : Cx) (tg : List Expr) (g : TGsD) : Prop := PGs X tg (upGs X.K g)
theorem SLe.after {K : PySem.W.Frag} {H H1 : Hp} {M M1 : Mp} {Q' : DSt → Mp → Prop} {Q : St → Hp → Prop} (k : SLe K H M Q' Q) (s : Step K H M H1 M1) : SLe K H1 M1 Q' Q := fun σ' ρ' H' M' r t q => k σ' ρ' H' M' r (s.trans t) q
def dgName (i : Nat) : TGD := fun d ρ M Q => Q (ρ.set i (some d)) M
def dgNil : TGsD := fun ds ρ M Q => match ds with
  | [] => Q ρ M
  | _ => False
def dgCons (t : TGD) (u : TGsD) : TGsD := fun ds ρ M Q => match ds with
  | d :: r => t d ρ M fun ρ' M' => u r ρ' M' Q
  | _ => False
def dgTup (n : Nat) (t : TGsD) : TGD := fun d ρ M Q => match d with
  | .tup ds => ds.length = n ∧ t ds ρ M Q
  | .pr ds => ds.length = n ∧ t ds ρ M Q
  | .ref p => ∃ ds, M p = some (.lst ds) ∧ ds.length = n ∧ t ds ρ M Q
  | _ => False
section
variable {X : Cx} {pos : Pos}
theorem pg_weak {tg : Expr} {t t' : TG} (h : PG X tg t) (w : ∀ v σ H Q, t' v σ H Q → t v σ H Q) : PG X tg t' := ⟨fun pins s σ H v u Q I r q => h.run pins s σ H v u Q I r (w _ _ _ _ q)⟩
theorem pgs_weak {tg : List Expr} {t t' : TGs} (h : PGs X tg t) (w : ∀ v σ H Q, t' v σ H Q → t v σ H Q) : PGs X tg t' := ⟨fun pins s σ H v u Q I r q => h.run pins s σ H v u Q I r (w _ _ _ _ q)⟩
theorem dg_name {i : Nat} {x : Str} (hN : X.N.Nodup) (hi : X.N[i]? = some x) (hx : Loc X.env.scope x) (hf : X.fn x = true ∨ X.env.scope.names.lookup x = some .local := by first | exact .inl rfl | exact .inr rfl | assumption) : DG X (.Name x pos) (dgName i) :=
  pg_weak (pg_name hN hi hx hf) fun v σ H Q ⟨d, ρ, M, Q', f, r, m, h, k⟩ => k _ _ _ _ (r.set i f) (.refl m) h
theorem dgs_nil : DGs X [] dgNil := pgs_weak pgs_nil fun vs σ H Q ⟨ds, ρ, M, Q', f, r, m, h, k⟩ => by
  cases ds with
  | nil => cases f; exact ⟨rfl, k _ _ _ _ r (.refl m) h⟩
  | cons _ _ => exact h.elim
theorem dgs_cons {e : Expr} {es : List Expr} {t : TGD} {u : TGsD} (h1 : DG X e t) (h2 : DGs X es u) (hs : (assignEach (e :: es) X.env).map (·.2) = assign e X.env :: (assignEach es X.env).map (·.2) := by rfl) : DGs X (e :: es) (dgCons t u) :=
  pgs_weak (pgs_cons h1 h2 hs) fun vs σ H Q ⟨ds, ρ, M, Q', f, r, m, h, k⟩ => by
    cases ds with
    | nil => exact h.elim
    | cons d ds =>
      cases f with
      | cons f fs =>
        exact ⟨_, _, rfl, d, ρ, M, _, f, r, m, h, fun σ' ρ' H' M' r' s q => ⟨ds, ρ', M', Q', fs.up s.tups, r', s.mem, q, k.after s⟩⟩
theorem pg_or {tg : Expr} {t t' : TG} (h : PG X tg t) (h' : PG X tg t') : PG X tg (fun v σ H Q => t v σ H Q ∨ t' v σ H Q) := ⟨fun pins s σ H v u Q I r q => by
  rcases q with q | q
  · exact h.run pins s σ H v u Q I r q
  · exact h'.run pins s σ H v u Q I r q⟩
theorem dg_tup {es : List Expr} {k : Nat} {t : TGsD} {n : Nat} (hc : X.calm = true) (h : DGs X es t) (hn : (assignEach es X.env).length = n := by rfl) (hst : (assignEach es X.env).findIdx? (·.1) = none := by rfl) : DG X (.Tuple es k pos) (dgTup n t) :=
  pg_weak (pg_or (pg_tup hc h hn hst) (pg_unl hc h hn hst)) fun v σ H Q ⟨d, ρ, M, Q', f, r, m, h, k⟩ => by
    cases d with
    | tup ds =>
      cases f with
      | tup hs fs => exact .inl ⟨_, _, rfl, hs.t, by rw [fs.length]; exact h.1, ds, ρ, M, Q', fs, r, m, h.2, k⟩
    | pr ds =>
      cases f with
      | pr hs fs => exact .inl ⟨_, _, rfl, hs, by rw [fs.length]; exact h.1, ds, ρ, M, Q', fs, r, m, h.2, k⟩
    | ref p =>
      cases f
      obtain ⟨ds, hp, hl, q⟩ := h
      obtain ⟨xs, e, fs⟩ := m.lst hp
      exact .inr ⟨_, xs, rfl, .of e, by rw [fs.length]; exact hl, ds, ρ, M, Q', fs, r, m, q, k⟩
    | _ => exact h.elim
/-- o[i] = v -/
abbrev TSetD := D → D → D → Mp → (Mp → Prop) → Prop
def dgSub (to ti : TED) (t : TSetD) : TGD := fun v ρ M Q => to ρ M fun o M1 => ti ρ M1 fun i M2 => t o i v M2 fun M3 => Q ρ M3
def StR (X : Cx) (td : TSetD) : Prop := ∃ t, PSet X t ∧ ∀ H M vo vi vv o i v (Q' : Mp → Prop) (Q : Hp → Prop), Fz X.K H vo o → Fz X.K H vi i → Fz X.K H vv v → MemOk X.K H M → td o i v M Q' → (∀ H' M', Step X.K H M H' M' → Q' M' → Q H') → t vo vi vv H Q
theorem dg_sub {o i : Expr} {to ti : TED} {td : TSetD} (ho : DE X o to) (hi : DE X i ti) (hs : StR X td)
    (ha : ∀ v, assign (.Subscript o i pos) X.env v = (do
      let ov ← holding [v] (eval o X.env)
      let iv ← holding [v, ov] (eval i X.env)
      standAt pos
      holding [v, ov, iv] (setItem ov iv v)
      release [v, ov, iv] []) := by intro _; rfl) : DG X (.Subscript o i pos) (dgSub to ti td) := by
  obtain ⟨t, hs, l⟩ := hs
  refine pg_weak (pg_sub ho hi hs ha) fun v σ H Q ⟨d, ρ, M, Q', f, r, m, h, k⟩ => ?_
  refine ⟨ρ, M, _, r, m, h, fun vo H1 o M1 fo s1 q1 => ⟨ρ, M1, _, r.up s1.tups, s1.mem, q1, fun vi H2 i M2 fi s2 q2 => ?_⟩⟩
  exact l H2 M2 vo vi v o i d _ _ (fo.up s2.tups) fi ((f.up s1.tups).up s2.tups) s2.mem q2 fun H3 M3 s3 q3 => k σ ρ H3 M3 (((r.up s1.tups).up s2.tups).up s3.tups) ((s1.trans s2).trans s3) q3
def rSetLX : TSetD := fun o i v M Q => match o, i with
  | .ref p, .int n => ∃ ds j, M p = some (.lst ds) ∧ ixN ds.length n = some j ∧ Q (updM M p (.lst (ds.set j v)))
  | _, _ => False
theorem st_list : StR X rSetLX := by
  refine ⟨_, set_list, fun H M vo vi vv o i v Q' Q fo fi fv m h k => ?_⟩
  unfold rSetLX at h
  split at h
  · obtain ⟨ds, j, hp, hj, q⟩ := h
    cases fo; cases fi
    obtain ⟨xs, e, fs⟩ := m.lst hp
    exact ⟨_, xs, _, j, rfl, rfl, e, by rw [fs.length]; exact hj, k _ _ (.wr m hp (fun z => by cases z) (show MoOk X.K H (.lst (xs.set j vv)) (.lst (ds.set j v)) from ⟨_, rfl, fs.set fv j⟩)) q⟩
  · exact h.elim
end

/-! ### statements -/
def dNext : TSD := fun E ρ M => E.nx ρ M
def dSeq (t u : TSD) : TSD := fun E ρ M => t { E with nx := u E } ρ M
def dAsg (te : TED) (g : TGD) : TSD := fun E ρ M => te ρ M fun d M1 => g d ρ M1 E.nx
def dPar (i j : Nat) (t : TAD) : TSD := fun E ρ M => t ρ M fun ds M1 => match ds with
  | [v, w] => E.nx ((ρ.set i (some v)).set j (some w)) M1
  | _ => False
def dPar3 (i j l : Nat) (t : TAD) : TSD := fun E ρ M => t ρ M fun ds M1 => match ds with
  | [u, v, w] => E.nx (((ρ.set i (some u)).set j (some v)).set l (some w)) M1
  | _ => False
def dDrop (te : TED) : TSD := fun E ρ M => te ρ M fun _ M1 => E.nx ρ M1
def dRet (te : TED) : TSD := fun E ρ M => te ρ M E.rt
def dRetN : TSD := fun E _ M => E.rt .non M
def dIfS (c : TTD) (t u : TSD) : TSD := fun E ρ M => c ρ M fun b M1 => br b (t E ρ M1) (u E ρ M1)
def dBreak : TSD := fun E ρ M => E.bk ρ M
def dCont : TSD := fun E ρ M => E.ct ρ M
def dAug (i : Nat) (te : TED) (r : R2D) : TSD := fun E ρ M => match ρ[i]? with
  | some (some x) => te ρ M fun y M1 => r x y M1 fun z M2 => E.nx (ρ.set i (some z)) M2
  | _ => False
section
variable {X : Cx} {pos : Pos} {st : Stmt} {rest : List Stmt} {t u : TSD} {e : Expr} {te : TED}
theorem dss_nil : DSs X [] dNext := pss_weak pss_nil fun E σ H ⟨ρ, M, E', r, m, h, k⟩ => k.nx σ ρ H M r (.refl m) h
theorem dss_one (h1 : DS X st t) : DSs X [st] t := pss_one h1
theorem dss_cons (h1 : DS X st t) (h2 : DSs X rest u) : DSs X (st :: rest) (dSeq t u) :=
  pss_weak (pss_cons h1 h2) fun E σ H ⟨ρ, M, E', r, m, h, k⟩ => ⟨ρ, M, { E' with nx := u E' }, r, m, h, ⟨fun σ' ρ' H' M' r' s q => ⟨ρ', M', E', r', s.mem, q, k.after s⟩, k.rt, k.bk, k.ct, k.xc⟩⟩
theorem ds_pass : DS X (.Pass pos) dNext := ps_weak ps_pass fun E σ H ⟨ρ, M, E', r, m, h, k⟩ => k.nx σ ρ H M r (.refl m) h
theorem ds_break : DS X (.Break pos) dBreak := ps_weak ps_break fun E σ H ⟨ρ, M, E', r, m, h, k⟩ => k.bk σ ρ H M r (.refl m) h
theorem ds_continue : DS X (.Continue pos) dCont := ps_weak ps_continue fun E σ H ⟨ρ, M, E', r, m, h, k⟩ => k.ct σ ρ H M r (.refl m) h
theorem ds_set {i : Nat} {x : Str} {pos' : Pos} (hN : X.N.Nodup) (hi : X.N[i]? = some x) (hx : Loc X.env.scope x) (he : DE X e te) (hs : swapsWith e (some (.Name x pos')) pos.line X.env = pure false := by rfl) (hf : X.fn x = true ∨ X.env.scope.names.lookup x = some .local := by first | exact .inl rfl | exact .inr rfl | assumption) :
    DS X (.Assign [.Name x pos'] e pos) (dAsg te (dgName i)) :=
  ps_weak (ps_set hN hi hx he hs hf) fun E σ H ⟨ρ, M, E', r, m, h, k⟩ => ⟨ρ, M, _, r, m, h, fun v H1 d M1 f s q => k.nx _ _ _ _ ((r.up s.tups).set i f) s q⟩
theorem ds_asg {tg : Expr} {g : TGD} (he : DE X e te) (hg : DG X tg g) (hs : swapsWithSole [tg] e pos.line X.env = pure false := by rfl) (hw : swappedStores [tg] e X.env = pure none := by rfl)
    (h1 : (assignEach [tg] X.env).map (·.2) = [assign tg X.env] := by rfl) : DS X (.Assign [tg] e pos) (dAsg te g) :=
  ps_weak (ps_asg he hg hs hw h1) fun E σ H ⟨ρ, M, E', r, m, h, k⟩ => ⟨ρ, M, _, r, m, h, fun v H1 d M1 f s q => ⟨d, ρ, M1, E'.nx, f, r.up s.tups, s.mem, q, fun σ' ρ' H' M' r' s' q' => k.nx σ' ρ' H' M' r' (s.trans s') q'⟩⟩
theorem ds_par {i j : Nat} {x y : Str} {a b : Expr} {ta : TAD} {px py pt : Pos} {kt k2 pt2} (hc : X.calm = true) (hN : X.N.Nodup) (hi : X.N[i]? = some x) (hj : X.N[j]? = some y) (hij : i ≠ j)
    (hx : X.env.scope.names.lookup x = some .local) (hy : X.env.scope.names.lookup y = some .local) (ha : DA X [a, b] ta)
    (hw : swappedStores [.Tuple [.Name x px, .Name y py] kt pt] (.Tuple [a, b] k2 pt2) X.env = pure (some [x, y]))
    (hs : swapsWithSole [.Tuple [.Name x px, .Name y py] kt pt] (.Tuple [a, b] k2 pt2) pos.line X.env = pure false := by rfl) :
    DS X (.Assign [.Tuple [.Name x px, .Name y py] kt pt] (.Tuple [a, b] k2 pt2) pos) (dPar i j ta) :=
  ps_weak (ps_par hc hN hi hj hij hx hy ha hw hs) fun E σ H ⟨ρ, M, E', r, m, h, k⟩ => ⟨ρ, M, _, r, m, h, fun vs H1 ds M1 fs s q => by
    unfold dPar at h
    match ds, fs, q with
    | [v, w], .cons f (.cons g .nil), q => exact ⟨_, _, rfl, k.nx _ _ _ _ (((r.up s.tups).set i f).set j g) s q⟩⟩
theorem ds_par3 {i j l : Nat} {x y z : Str} {a b c : Expr} {ta : TAD} {px py pz pt : Pos} {kt k2 pt2} (hc : X.calm = true) (hN : X.N.Nodup) (hi : X.N[i]? = some x) (hj : X.N[j]? = some y) (hl : X.N[l]? = some z) (hij : i ≠ j) (hil : i ≠ l) (hjl : j ≠ l)
    (hx : X.env.scope.names.lookup x = some .local) (hy : X.env.scope.names.lookup y = some .local) (hz : X.env.scope.names.lookup z = some .local) (ha : DA X [a, b, c] ta)
    (hw : swappedStores [.Tuple [.Name x px, .Name y py, .Name z pz] kt pt] (.Tuple [a, b, c] k2 pt2) X.env = pure (some [x, y, z]))
    (hs : swapsWithSole [.Tuple [.Name x px, .Name y py, .Name z pz] kt pt] (.Tuple [a, b, c] k2 pt2) pos.line X.env = pure false := by rfl) :
    DS X (.Assign [.Tuple [.Name x px, .Name y py, .Name z pz] kt pt] (.Tuple [a, b, c] k2 pt2) pos) (dPar3 i j l ta) :=
  ps_weak (ps_par3 hc hN hi hj hl hij hil hjl hx hy hz ha hw hs) fun E σ H ⟨ρ, M, E', r, m, h, k⟩ => ⟨ρ, M, _, r, m, h, fun vs H1 ds M1 fs s q => by
    match ds, fs, q with
    | [u, v, w], .cons f (.cons g (.cons g' .nil)), q => exact ⟨_, _, _, rfl, k.nx _ _ _ _ ((((r.up s.tups).set i f).set j g).set l g') s q⟩⟩
theorem ds_expr (he : DE X e te) (hs : swapsWith e none pos.line X.env = pure false := by rfl) : DS X (.Expr e pos) (dDrop te) :=
  ps_weak (ps_expr he hs) fun E σ H ⟨ρ, M, E', r, m, h, k⟩ => ⟨ρ, M, _, r, m, h, fun v H1 d M1 f s q => k.nx _ _ _ _ (r.up s.tups) s q⟩
theorem ds_ret (he : DE X e te) : DS X (.Return (some e) pos) (dRet te) :=
  ps_weak (ps_ret he) fun E σ H ⟨ρ, M, E', r, m, h, k⟩ => ⟨ρ, M, _, r, m, h, k.rt⟩
theorem ds_retN : DS X (.Return none pos) dRetN := ps_weak ps_retN fun E σ H ⟨ρ, M, E', r, m, h, k⟩ => k.rt.val m .non h
theorem ds_if {c : Expr} {a b : List Stmt} {tc : TTD} (hc : DT X c tc) (ha : DSs X a t) (hb : DSs X b u) : DS X (.If c a b pos) (dIfS tc t u) :=
  ps_weak (ps_if hc ha hb) fun E σ H ⟨ρ, M, E', r, m, h, k⟩ => ⟨ρ, M, _, r, m, h, fun b H1 M1 s q => by
    cases b with
    | true => exact iteT ⟨ρ, M1, E', r.up s.tups, s.mem, q, k.after s⟩
    | false => exact iteF ⟨ρ, M1, E', r.up s.tups, s.mem, q, k.after s⟩⟩
theorem ds_aug {i : Nat} {x : Str} {op : Operator} {rd : R2D} {pos' : Pos} (hN : X.N.Nodup) (hi : X.N[i]? = some x) (hx : Loc X.env.scope x) (he : DE X e te) (ho : IR X op rd) (hf : X.fn x = true ∨ X.env.scope.names.lookup x = some .local := by first | exact .inl rfl | exact .inr rfl | assumption) :
    DS X (.AugAssign (.Name x pos') op e pos) (dAug i te rd) := by
  obtain ⟨r0, ho, l⟩ := ho
  refine ps_weak (ps_aug (ti := r0) hN hi hx he ho hf) fun E σ H ⟨ρ, M, E', r, m, h, k⟩ => ?_
  unfold dAug at h
  split at h
  · rename_i x0 e0
    obtain ⟨v, q, f⟩ := r.at_ i x0 e0
    refine ⟨v, q, ρ, M, _, r, m, h, fun vy H1 y M1 fy s1 q1 => ?_⟩
    exact l H1 M1 v vy x0 y _ _ (f.up s1.tups) fy s1.mem q1 fun vz H2 z M2 fz s2 q2 => k.nx _ _ _ _ (((r.up s1.tups).up s2.tups).set i fz) (s1.trans s2) q2
  · exact h.elim
end
end DL

namespace DL
open PySem L2
open PyProof.Rows (b2i)

/-! ### what is walked -/
abbrev TID := DSt → Mp → (Nat → (Nat → D → Prop) → (Mp → Prop) → Mp → Prop) → Prop
def YD (K : PySem.W.Frag) (Y : Nat → D → Prop) : Nat → Hp → V → Hp → Prop := fun i H v H' => (∀ M, MemOk K H M → Step K H M H' M) ∧ ∃ d, Fz K H' v d ∧ Y i d
def WalkD (K : PySem.W.Frag) (H1 : Hp) (J : It) (n : Nat) (Y : Nat → D → Prop) (G : Mp → Prop) : Prop := Walk J n (fun H => Tups K H1 H ∧ ∃ M, MemOk K H M ∧ G M) (YD K Y)
def upI (K : PySem.W.Frag) (ti : TID) : TI := fun σ H R => ∃ ρ M Q', RelS K H σ ρ ∧ MemOk K H M ∧ ti ρ M Q' ∧ ∀ n Y G H' M' J, Step K H M H' M' → WalkD K H' J n Y G → Q' n Y G M' → R J H'
abbrev DI (X : Cx) (tg iter : Expr) (ti : TID) : Prop := PI X tg iter (upI X.K ti)
structure ForG (n : Nat) (Y : Nat → D → Prop) (G : Mp → Prop) (g : TGD) (tb : TSD) (E : EndD) (ρ : DSt) (M1 : Mp) : Prop where
  ex : ∃ Pv : Nat → DSt → Mp → Prop, Pv 0 ρ M1 ∧ (∀ i ρ M, i ≤ n → Pv i ρ M → G M) ∧
  (∀ i x ρ M, i < n → Y i x → Pv i ρ M → g x ρ M fun ρ2 M2 => tb { E with nx := Pv (i + 1), ct := Pv (i + 1), bk := E.nx } ρ2 M2) ∧ ∀ ρ M, Pv n ρ M → E.nx ρ M
def dFor (ti : TID) (g : TGD) (tb : TSD) : TSD := fun E ρ M => ti ρ M fun n Y G M1 => ForG n Y G g tb E ρ M1
def dWhile (c : TTD) (tb : TSD) : TSD := fun E ρ M => ∃ (Pv : DSt → Mp → Prop) (μ : DSt → Mp → Nat), Pv ρ M ∧ ∀ ρ M, Pv ρ M → c ρ M fun b M1 => br b (tb { E with nx := fun ρ' M' => Pv ρ' M' ∧ μ ρ' M' < μ ρ M, ct := fun ρ' M' => Pv ρ' M' ∧ μ ρ' M' < μ ρ M, bk := E.nx } ρ M1) (E.nx ρ M1)
section
variable {X : Cx} {tg iter : Expr} {pos : Pos}
theorem pi_weak {t t' : TI} (h : PI X tg iter t) (w : ∀ σ H R, t' σ H R → t σ H R) : PI X tg iter t' := ⟨fun pins s σ H R I q => h.run pins s σ H R I (w _ _ _ q)⟩
theorem pi_or {t t' : TI} (h : PI X tg iter t) (h' : PI X tg iter t') : PI X tg iter (fun σ H R => t σ H R ∨ t' σ H R) := ⟨fun pins s σ H R I q => by
  rcases q with q | q
  · exact h.run pins s σ H R I q
  · exact h'.run pins s σ H R I q⟩
theorem ds_for {body : List Stmt} {ti : TID} {g : TGD} {tb : TSD} (hp : PassesOwn (model X.prog X.w) X.A X.env X.xe) (hc : X.calm = true) (hi : DI X tg iter ti) (hg : DG X tg g) (hb : DSs X body tb)
    (hs : ∀ x, foldedSetIterable iter X.env x = pure x := by intro _; rfl) : DS X (.For tg iter body [] pos) (dFor ti g tb) := by
  refine ps_weak (ps_for hp hc hi hg hb hs) fun E σ H ⟨ρ, M, E', r, m, h, k⟩ => ?_
  refine ⟨ρ, M, _, r, m, h, fun n Y G H1 M1 J s w q => ?_⟩
  obtain ⟨Pv, h0, hG, hs, hd⟩ := q
  refine for_it w (fun i σ' H' => ∃ ρ' M', RelS X.K H' σ' ρ' ∧ Step X.K H1 M1 H' M' ∧ Pv i ρ' M') ⟨ρ, M1, r.up s.tups, .refl s.mem, h0⟩ (fun i σ' H' hi ⟨ρ', M', r', s', q⟩ => ⟨s'.tups, M', s'.mem, hG i ρ' M' hi q⟩) ?_ ?_
  · rintro i v σ' H' H2 hi ⟨ρ', M', r', s', q⟩ ⟨st, d, fd, y⟩
    have s2 := st M' s'.mem
    refine ⟨d, ρ', M', _, fd, r'.up s2.tups, s2.mem, hs i d ρ' M' hi y q, fun σ3 ρ3 H3 M3 r3 s3 q3 => ?_⟩
    refine ⟨ρ3, M3, _, r3, s3.mem, q3, ?_⟩
    have k3 := k.after (((s.trans s').trans s2).trans s3)
    exact ⟨fun σ4 ρ4 H4 M4 r4 s4 q4 => ⟨ρ4, M4, r4, ((s'.trans s2).trans s3).trans s4, q4⟩, k3.rt, k3.nx, fun σ4 ρ4 H4 M4 r4 s4 q4 => ⟨ρ4, M4, r4, ((s'.trans s2).trans s3).trans s4, q4⟩, k3.xc⟩
  · rintro σ' H' ⟨ρ', M', r', s', q⟩
    exact k.nx σ' ρ' H' M' r' (s.trans s') (hd ρ' M' q)
theorem ds_while {c : Expr} {body : List Stmt} {tc : TTD} {tb : TSD} (hp : PassesOwn (model X.prog X.w) X.A X.env X.xe) (hc : DT X c tc) (hb : DSs X body tb) : DS X (.While c body [] pos) (dWhile tc tb) := by
  refine ps_weak (ps_while hp hc hb) fun E σ H ⟨ρ, M, E', r, m, h, k⟩ => ?_
  obtain ⟨Pv, μ, h0, hs⟩ := h
  refine ⟨fun n σ' H' => ∃ ρ' M', RelS X.K H' σ' ρ' ∧ Step X.K H M H' M' ∧ Pv ρ' M' ∧ n = μ ρ' M', ⟨_, ρ, M, r, .refl m, h0, rfl⟩, ?_⟩
  rintro n σ' H' ⟨ρ', M', r', s', p', rfl⟩
  refine ⟨ρ', M', _, r', s'.mem, hs ρ' M' p', fun b H1 M1 s1 q => ?_⟩
  cases b with
  | false => exact iteF (k.nx _ _ _ _ (r'.up s1.tups) (s'.trans s1) q)
  | true =>
    refine iteT ⟨fun σ2 H2 => ∃ ρ2 M2, RelS X.K H2 σ2 ρ2 ∧ Step X.K H M H2 M2 ∧ Pv ρ2 M2 ∧ μ ρ2 M2 < μ ρ' M', fun σ2 H2 ⟨ρ2, M2, r2, s2, p2, l⟩ => ⟨_, l, ρ2, M2, r2, s2, p2, rfl⟩, ρ', M1, _, r'.up s1.tups, s1.mem, q, ?_⟩
    have k3 := k.after (s'.trans s1)
    exact ⟨fun σ4 ρ4 H4 M4 r4 s4 q4 => ⟨ρ4, M4, r4, (s'.trans s1).trans s4, q4.1, q4.2⟩, k3.rt, k3.nx, fun σ4 ρ4 H4 M4 r4 s4 q4 => ⟨ρ4, M4, r4, (s'.trans s1).trans s4, q4.1, q4.2⟩, k3.xc⟩

/-! ### sources -/
def yL (ds : List D) : Nat → D → Prop := fun i d => ds[i]? = some d
def diSeq (te : TED) : TID := fun ρ M Q => te ρ M fun d M1 => match d with
  | .tup ds => Q ds.length (yL ds) (fun _ => True) M1
  | .fl ds => Q ds.length (yL ds) (fun _ => True) M1
  | .ref p => ∃ ds, M1 p = some (.lst ds) ∧ Q ds.length (yL ds) (fun M => M p = some (.lst ds)) M1
  | _ => False
theorem walkD_fix {K : PySem.W.Frag} {H1 : Hp} {J : It} {n : Nat} {xs : List V} {ds : List D} (f : FzAll K H1 xs ds) (hn : n = ds.length) (go : ∀ i H, i < n → Tups K H1 H → J.go i H) (stop : ∀ H, Tups K H1 H → J.stop n H)
    (yld : ∀ i H v H', Tups K H1 H → J.yld i H v H' → H' = H ∧ xs[i]? = some v) : WalkD K H1 J n (yL ds) (fun _ => True) :=
  ⟨fun i H hi q => go i H hi q.1, fun H q => stop H q.1, fun i H v H' hi q y => by
    obtain ⟨rfl, e⟩ := yld i H v H' q.1 y
    obtain ⟨d, e2, g⟩ := f.getV e
    exact ⟨fun M m => .refl m, d, g.up q.1, e2⟩⟩
def iSeq (K : PySem.W.Frag) (tl : TE) : TI := fun σ H R => tl σ H fun x H1 => (∃ a, x = .ref a ∧ (∃ xs, SqL K H1 a xs) ∧ R (Itl K a) H1) ∨ (∃ a, x = .ref a ∧ (∃ xs, SqT K H1 a xs) ∧ R (Itt K a) H1)
/-- a list or a tuple -/
theorem pi_seq {l : Expr} {tl : TE} (hl : PE X l tl) : PI X tg l (iSeq X.K tl) := by
  refine ⟨fun pins s σ H R I h => thn (hl.run pins s σ H _ I h) fun v s1 ⟨x, H1, I1, r1, q1⟩ => ?_⟩
  have own : ∀ b ∈ [s1.heap.objs.size], FpOk X pins H1 b := fun b hb => by
    obtain rfl : b = s1.heap.objs.size := by simpa using hb
    exact I1.fpOk (Nat.le_refl _) (I1.hok.fresh (Nat.le_refl _))
  rcases q1 with ⟨a, rfl, ⟨xs, hq⟩, q⟩ | ⟨a, rfl, ⟨xs, hq⟩, q⟩
  · cases r1
    obtain ⟨its, rv, p, hz⟩ := I1.list hq
    exact wpAny_pyIter_list p.isList ⟨_, [s1.heap.objs.size], _, _, H1, rfl, I1.kept (t' := s1.toks) fun b o e => Heap.get?_push_of_some _ e, turn_list a _, ⟨_, Heap.get?_push_size _ rfl, rfl, rfl⟩, own, q⟩
  · cases r1
    obtain ⟨its, rv, p, hz⟩ := I1.tuple hq
    exact wpAny_pyIter_tuple (show s1.heap.IsTuple a its.toArray from p) ⟨_, [s1.heap.objs.size], _, _, H1, rfl, I1.kept (t' := s1.toks) fun b o e => Heap.get?_push_of_some _ e, turn_tuple a _, ⟨_, Heap.get?_push_size _ rfl, rfl, rfl⟩, own, q⟩
theorem di_seq {e : Expr} {te : TED} (he : DE X e te) : DI X tg e (diSeq te) := by
  refine pi_weak (pi_seq he) fun σ H R ⟨ρ, M, Q', r, m, h, k⟩ => ?_
  refine ⟨ρ, M, _, r, m, h, fun v H1 d M1 f s q => ?_⟩
  cases d with
  | tup ds =>
    cases f with
    | @tup a xs _ hs fs =>
      refine .inr ⟨a, rfl, ⟨xs, hs.t⟩, k _ _ _ _ _ _ s (walkD_fix fs rfl (fun i H hi t => ?_) (fun H t => ?_) fun i H v H' t y => ?_) q⟩
      · have hi : i < xs.length := by rw [fs.length]; exact hi
        exact ⟨xs, xs[i], (t.t _ _ hs).t, by simp [hi]⟩
      · exact ⟨xs, (t.t _ _ hs).t, by rw [fs.length]; exact Nat.le_refl _⟩
      · exact ⟨y.1, y.2 xs (t.t _ _ hs).t⟩
  | fl ds =>
    cases f with
    | @fl a xs _ hs fs =>
      refine .inl ⟨a, rfl, ⟨xs, hs.sq⟩, k _ _ _ _ _ _ s (walkD_fix fs rfl (fun i H hi t => ?_) (fun H t => ?_) fun i H v H' t y => ?_) q⟩
      · have hi : i < xs.length := by rw [fs.length]; exact hi
        exact ⟨xs, xs[i], (t.f _ _ hs).sq, by simp [hi]⟩
      · exact ⟨xs, (t.f _ _ hs).sq, by rw [fs.length]; exact Nat.le_refl _⟩
      · exact ⟨y.1, y.2 xs (t.f _ _ hs).sq⟩
  | ref p =>
    cases f
    obtain ⟨ds, hp, q⟩ := q
    obtain ⟨xs0, e0, _⟩ := s.mem.lst hp
    refine .inl ⟨p, rfl, ⟨xs0, .of e0⟩, k _ _ _ _ _ _ s ⟨fun i H hi g => ?_, fun H g => ?_, fun i H v H' hi g y => ?_⟩ q⟩
    · obtain ⟨_, M', m', g⟩ := g
      obtain ⟨xs, e, fs⟩ := m'.lst g
      have hi : i < xs.length := by rw [fs.length]; exact hi
      exact ⟨xs, xs[i], .of e, by simp [hi]⟩
    · obtain ⟨_, M', m', g⟩ := g
      obtain ⟨xs, e, fs⟩ := m'.lst g
      exact ⟨xs, .of e, by rw [fs.length]; exact Nat.le_refl _⟩
    · obtain ⟨_, M', m', g⟩ := g
      obtain ⟨xs, e, fs⟩ := m'.lst g
      obtain ⟨rfl, y⟩ := y
      obtain ⟨d, e2, fd⟩ := fs.getV (y xs (.of e))
      exact ⟨fun M m => .refl m, d, fd, e2⟩
  | _ => exact q.elim
def yR (lo : Int) : Nat → D → Prop := fun i d => d = .int (lo + i)
theorem walkD_range {K : PySem.W.Frag} {H1 : Hp} {lo : Int} {n : Nat} : WalkD K H1 (Itr lo n) n (yR lo) (fun _ => True) :=
  ⟨fun i H hi _ => hi, fun H _ => Nat.le_refl _, fun i H v H' hi g y => by
    obtain ⟨rfl, rfl⟩ := y
    exact ⟨fun M m => .refl m, _, .int _, rfl⟩⟩
def diRg1 (t : TAD) : TID := fun ρ M Q => t ρ M fun ds M1 => match ds with
  | [.int j] => -(2 ^ 62) ≤ j ∧ j < 2 ^ 62 ∧ Q j.toNat (yR 0) (fun _ => True) M1
  | _ => False
def diRg2 (t : TAD) : TID := fun ρ M Q => t ρ M fun ds M1 => match ds with
  | [.int i, .int j] => (-(2 ^ 62) ≤ i ∧ i < 2 ^ 62 ∧ -(2 ^ 62) ≤ j ∧ j < 2 ^ 62) ∧ Q (j - i).toNat (yR i) (fun _ => True) M1
  | _ => False
theorem di_rg1 {a : Expr} {ta : TAD} {p : Pos} (hg : Gl X "range") (hm : X.mg "range" = none) (ha : DA X [a] ta) (hs : starEach [a] X.env = [(false, eval a X.env)] := by rfl) : DI X tg (.Call (.Name "range" p) [a] [] pos) (diRg1 ta) :=
  pi_weak (pi_range1 hg hm ha hs) fun σ H R ⟨ρ, M, Q', r, m, h, k⟩ => ⟨ρ, M, _, r, m, h, fun vs H1 ds M1 fs s q => by
    match ds, fs, q with
    | [.int j], .cons (.int _) .nil, q => exact ⟨j, rfl, q.1, q.2.1, k _ _ _ _ _ _ s walkD_range q.2.2⟩⟩
theorem di_rg2 {a b : Expr} {ta : TAD} {p : Pos} (hg : Gl X "range") (hm : X.mg "range" = none) (ha : DA X [a, b] ta) (hs : starEach [a, b] X.env = [(false, eval a X.env), (false, eval b X.env)] := by rfl) (hs2 : starEach [b] X.env = [(false, eval b X.env)] := by rfl) :
    DI X tg (.Call (.Name "range" p) [a, b] [] pos) (diRg2 ta) :=
  pi_weak (pi_range2 hg hm ha hs hs2) fun σ H R ⟨ρ, M, Q', r, m, h, k⟩ => ⟨ρ, M, _, r, m, h, fun vs H1 ds M1 fs s q => by
    match ds, fs, q with
    | [.int i, .int j], .cons (.int _) (.cons (.int _) .nil), q => exact ⟨i, j, rfl, q.1, k _ _ _ _ _ _ s walkD_range q.2⟩⟩
/-- enumerate(xs), xs a list -/
def yE (ds : List D) : Nat → D → Prop := fun i d => ∃ x, ds[i]? = some x ∧ d = .pr [.int (i : Nat), x]
def diEnum (te : TAD) : TID := fun ρ M Q => te ρ M fun ds M1 => match ds with
  | [.ref p] => ∃ ds, M1 p = some (.lst ds) ∧ Q ds.length (yE ds) (fun M => M p = some (.lst ds)) M1
  | _ => False
theorem pr2 {K : PySem.W.Frag} {H : Hp} {T : Addr} {x y : V} {a b : D} (hT : H T = none) (f : Fz K H x a) (g : Fz K H y b) :
    (∀ M, MemOk K H M → Step K H M (upd H T (.tup [x, y])) M) ∧ Fz K (upd H T (.tup [x, y])) (.ref T) (.pr [a, b]) :=
  ⟨fun M m => .newT m hT, .pr (.inl (.inl upd_same)) (.cons (f.up (.new hT)) (.cons (g.up (.new hT)) .nil))⟩
theorem di_enum {e : Expr} {ta : TAD} {p pos tpos : Pos} {elts : List Expr} {kk : Nat} (hg : Gl X "enumerate") (hm : X.mg "enumerate" = none) (ha : DA X [e] ta) (hs : starEach [e] X.env = [(false, eval e X.env)] := by rfl) :
    DI X (.Tuple elts kk tpos) (.Call (.Name "enumerate" p) [e] [] pos) (diEnum ta) := by
  refine pi_weak (pi_enum hg hm ha hs) fun σ H R ⟨ρ, M, Q', r, m, h, k⟩ => ?_
  refine ⟨ρ, M, _, r, m, h, fun vs H1 ds M1 fs s q => ?_⟩
  unfold diEnum at h
  split at q
  · obtain ⟨ds, hp, q⟩ := q
    cases fs with
    | cons f fs =>
      cases fs
      cases f
      obtain ⟨xs0, e0, _⟩ := s.mem.lst hp
      refine ⟨_, xs0, rfl, .of e0, k _ _ _ _ _ _ s ⟨fun i H hi g => ?_, fun H g => ?_, fun i H v H' hi g y => ?_⟩ q⟩
      · obtain ⟨_, M', m', g⟩ := g
        obtain ⟨xs, e, fs⟩ := m'.lst g
        have hi : i < xs.length := by rw [fs.length]; exact hi
        exact ⟨xs, xs[i], .of e, by simp [hi]⟩
      · obtain ⟨_, M', m', g⟩ := g
        obtain ⟨xs, e, fs⟩ := m'.lst g
        exact ⟨xs, .of e, by rw [fs.length]; exact Nat.le_refl _⟩
      · obtain ⟨_, M', m', g⟩ := g
        obtain ⟨xs, e, fs⟩ := m'.lst g
        obtain ⟨T, x, rfl, hT, rfl, y⟩ := y
        obtain ⟨d, e2, fd⟩ := fs.getV (y xs (.of e))
        have z := pr2 hT (.int (i : Nat)) fd
        exact ⟨z.1, _, z.2, d, e2, rfl⟩
  · exact q.elim
/-- zip(xs, ys): two lists or two tuples -/
def yZ (ds es : List D) : Nat → D → Prop := fun i d => ∃ x y, ds[i]? = some x ∧ es[i]? = some y ∧ d = .pr [x, y]
def diZip (te : TAD) : TID := fun ρ M Q => te ρ M fun ds M1 => match ds with
  | [.tup as, .tup bs] => Q (min as.length bs.length) (yZ as bs) (fun _ => True) M1
  | [.ref a, .ref b] => ∃ as bs, M1 a = some (.lst as) ∧ M1 b = some (.lst bs) ∧ Q (min as.length bs.length) (yZ as bs) (fun M => M a = some (.lst as) ∧ M b = some (.lst bs)) M1
  | _ => False
theorem di_zip {e e2 : Expr} {ta : TAD} {p pos tpos : Pos} {elts : List Expr} {kk : Nat} (hg : Gl X "zip") (hm : X.mg "zip" = none) (ha : DA X [e, e2] ta)
    (hs : starEach [e, e2] X.env = (false, eval e X.env) :: starEach [e2] X.env := by rfl) (hpl : (backTo pos (starEach [e2] X.env)).any (·.1) = false := by rfl) :
    DI X (.Tuple elts kk tpos) (.Call (.Name "zip" p) [e, e2] [] pos) (diZip ta) := by
  refine pi_weak (RZ.pi_zipA hg hm ha hs hpl) fun σ H R ⟨ρ, M, Q', r, m, h, k⟩ => ?_
  refine ⟨ρ, M, _, r, m, h, fun vs H1 ds M1 fs s q => ?_⟩
  split at q
  · cases fs with
    | cons f fs =>
      cases fs with
      | cons f' fs =>
        cases fs
        cases f with
        | @tup a xs _ hs fs =>
          cases f' with
          | @tup b ys _ hs' fs' =>
            have l1 := fs.length
            have l2 := fs'.length
            refine ⟨a, b, xs, ys, rfl, .inr ⟨hs.t, hs'.t, k _ _ _ _ _ _ s ⟨fun i H hi g => ?_, fun H g => ?_, fun i H v H' hi g y => ?_⟩ q⟩⟩
            · have h1 : i < xs.length := by omega
              have h2 : i < ys.length := by omega
              exact ⟨xs, ys, xs[i], ys[i], (g.1.t _ _ hs).t, (g.1.t _ _ hs').t, by simp [h1], by simp [h2]⟩
            · exact ⟨xs, ys, (g.1.t _ _ hs).t, (g.1.t _ _ hs').t, by omega⟩
            · obtain ⟨T, x, y', rfl, hT, rfl, y1, y2⟩ := y
              obtain ⟨d, e2, fd⟩ := fs.getV (y1 xs (g.1.t _ _ hs).t)
              obtain ⟨d', e2', fd'⟩ := fs'.getV (y2 ys (g.1.t _ _ hs').t)
              have z := pr2 hT (fd.up g.1) (fd'.up g.1)
              exact ⟨z.1, _, z.2, d, d', e2, e2', rfl⟩
  · obtain ⟨as, bs, h1, h2, q⟩ := q
    cases fs with
    | cons f fs =>
      cases fs with
      | cons f' fs =>
        cases fs
        cases f
        cases f'
        obtain ⟨xs0, e0, _⟩ := s.mem.lst h1
        obtain ⟨ys0, e0', _⟩ := s.mem.lst h2
        refine ⟨_, _, xs0, ys0, rfl, .inl ⟨.of e0, .of e0', k _ _ _ _ _ _ s ⟨fun i H hi g => ?_, fun H g => ?_, fun i H v H' hi g y => ?_⟩ q⟩⟩
        · obtain ⟨_, M', m', g1, g2⟩ := g
          obtain ⟨xs, e, fs⟩ := m'.lst g1
          obtain ⟨ys, e', fs'⟩ := m'.lst g2
          have l1 := fs.length
          have l2 := fs'.length
          have h1 : i < xs.length := by omega
          have h2 : i < ys.length := by omega
          exact ⟨xs, ys, xs[i], ys[i], .of e, .of e', by simp [h1], by simp [h2]⟩
        · obtain ⟨_, M', m', g1, g2⟩ := g
          obtain ⟨xs, e, fs⟩ := m'.lst g1
          obtain ⟨ys, e', fs'⟩ := m'.lst g2
          have l1 := fs.length
          have l2 := fs'.length
          exact ⟨xs, ys, .of e, .of e', by omega⟩
        · obtain ⟨_, M', m', g1, g2⟩ := g
          obtain ⟨xs, e, fs⟩ := m'.lst g1
          obtain ⟨ys, e', fs'⟩ := m'.lst g2
          obtain ⟨T, x, y', rfl, hT, rfl, y1, y2⟩ := y
          obtain ⟨d, e2, fd⟩ := fs.getV (y1 xs (.of e))
          obtain ⟨d', e2', fd'⟩ := fs'.getV (y2 ys (.of e'))
          have z := pr2 hT fd fd'
          exact ⟨z.1, _, z.2, d, d', e2, e2', rfl⟩
  · exact q.elim
/-- list(range(..)), tuple(range(..)) -/
abbrev TRD := DSt → Mp → (Int → Int → Mp → Prop) → Prop
def dRg1 (t : TED) : TRD := fun ρ M Q => t ρ M fun d M1 => match d with
  | .int j => Q 0 j M1
  | _ => False
def dRg2 (t u : TED) : TRD := fun ρ M Q => t ρ M fun d M1 => u ρ M1 fun e M2 => match d, e with
  | .int i, .int j => Q i j M2
  | _, _ => False
def rgD (a b : Int) : List D := (List.range (b - a).toNat).map fun i => D.int (a + (i : Nat))
theorem rgD_fz {K : PySem.W.Frag} {H : Hp} (a b : Int) : FzAll K H (rgV a b) (rgD a b) := by
  unfold rgV rgD
  generalize List.range (b - a).toNat = l
  induction l with
  | nil => exact .nil
  | cons x l ih => exact .cons (.int _) ih
def dLstRg (t : TRD) : TED := fun ρ M Q => t ρ M fun a b M1 => RgOk a b ∧ ∀ p, M1 p = none → Q (.ref p) (updM M1 p (.lst (rgD a b)))
def upRg (K : PySem.W.Frag) (t : TRD) : St → Hp → (Int → Int → Hp → Prop) → Prop := fun σ H Q => ∃ ρ M Q', RelS K H σ ρ ∧ MemOk K H M ∧ t ρ M Q' ∧ ∀ a b H' M', Step K H M H' M' → Q' a b M' → Q a b H'
abbrev DRg (X : Cx) (e : Expr) (t : TRD) : Prop := ∃ t0, PRg X e t0 ∧ ∀ σ H Q, upRg X.K t σ H Q → t0 σ H Q
theorem drg_1 {a : Expr} {ta : TED} {p : Pos} (hg : Gl X "range") (hm : X.mg "range" = none) (ha : DE X a ta) (na : starEach [a] X.env = (false, eval a X.env) :: starEach [] X.env := by rfl) : DRg X (.Call (.Name "range" p) [a] [] pos) (dRg1 ta) :=
  ⟨_, prg_1 hg hm ha na, fun σ H Q ⟨ρ, M, Q', r, m, h, k⟩ => ⟨ρ, M, _, r, m, h, fun v H1 d M1 f s q => by
    cases d with
    | int j => cases f; exact ⟨j, rfl, k _ _ _ _ s q⟩
    | _ => exact q.elim⟩⟩
theorem drg_2 {a b : Expr} {ta tb : TED} {p : Pos} (hg : Gl X "range") (hm : X.mg "range" = none) (ha : DE X a ta) (hb : DE X b tb) (na : starEach [a, b] X.env = (false, eval a X.env) :: starEach [b] X.env := by rfl) (nb : starEach [b] X.env = (false, eval b X.env) :: starEach [] X.env := by rfl) (hpl : (backTo pos (starEach [b] X.env)).any (·.1) = false := by rfl) : DRg X (.Call (.Name "range" p) [a, b] [] pos) (dRg2 ta tb) :=
  ⟨_, prg_2 hg hm ha hb na nb hpl, fun σ H Q ⟨ρ, M, Q', r, m, h, k⟩ => ⟨ρ, M, _, r, m, h, fun v H1 d M1 f s q => ⟨ρ, M1, _, r.up s.tups, s.mem, q, fun w H2 e M2 g s2 q2 => by
    cases d with
    | int i =>
      cases e with
      | int j => cases f; cases g; exact ⟨i, j, rfl, rfl, k _ _ _ _ (s.trans s2) q2⟩
      | _ => exact q2.elim
    | _ => exact q2.elim⟩⟩⟩
theorem de_listRg {e : Expr} {te : TRD} {p : Pos} (hc : X.calm = true) (hg : Gl X "list") (hm : X.mg "list" = none) (he : DRg X e te) (na : starEach [e] X.env = (false, eval e X.env) :: starEach [] X.env := by rfl) : DE X (.Call (.Name "list" p) [e] [] pos) (dLstRg te) := by
  obtain ⟨t0, he, w⟩ := he
  refine pe_weak (pe_listRg hc hg hm he na) fun σ H Q ⟨ρ, M, Q', r, m, h, k⟩ => ?_
  exact w σ H _ ⟨ρ, M, _, r, m, h, fun a b H1 M1 s q => ⟨q.1, fun p hp => (k.after s).newLst s.mem (rgD_fz a b) q.2 hp⟩⟩

/-! ### comprehensions -/
theorem RelS.own {K : PySem.W.Frag} {H : Hp} {σ : St} {ρ : DSt} (r : RelS K H σ ρ) (i : Nat) {v : V} {d : D} (f : Fz K H v d) : RelS K H ((σ.set i none).set i (some v)) (ρ.set i (some d)) := by
  rw [List.set_set]
  exact r.set i f
def tYesD : TTD := fun _ M Q => Q true M
/-- [elt for x in .. if ..], x in slot i -/
structure LcG (n : Nat) (Y : Nat → D → Prop) (G : Mp → Prop) (g : D → DSt → Option DSt) (tt : TTD) (te : TED) (ρ : DSt) (M1 : Mp) (Q : KD) : Prop where
  ex : ∃ Pv : Nat → List D → Mp → Prop, Pv 0 [] M1 ∧ (∀ k acc M, k ≤ n → Pv k acc M → G M) ∧
  (∀ k acc x M, k < n → Y k x → Pv k acc M → match g x ρ with
    | some ρ2 => tt ρ2 M fun b M2 => br b (te ρ2 M2 fun y M3 => acc.length < sizeLine ∧ Pv (k + 1) (acc ++ [y]) M3) (Pv (k + 1) acc M2)
    | none => False) ∧ ∀ acc M, Pv n acc M → ∀ p, M p = none → Q (.ref p) (updM M p (.lst acc))
def dLc (ti : TID) (g : D → DSt → Option DSt) (tt : TTD) (te : TED) : TED := fun ρ M Q => ti ρ M fun n Y G M1 => LcG n Y G g tt te ρ M1 Q
/-- the slots of a comprehension's own names, by what comes -/
structure OwnG (K : PySem.W.Frag) (gh : TG) (vs : List Nat) (g : D → DSt → Option DSt) : Prop where
  go : ∀ (x : D) (v : V) (H : Hp) (σ : St) (ρ ρ2 : DSt) (Q : St → Hp → Prop), Fz K H v x → RelS K H σ ρ → g x ρ = some ρ2 → (∀ σ2, L2.wipe σ2 vs = L2.wipe σ vs → RelS K H σ2 ρ2 → Q σ2 H) → gh v (L2.wipe σ vs) H Q
def g1 (i : Nat) : D → DSt → Option DSt := fun x ρ => some (ρ.set i (some x))
def g2 (i j : Nat) : D → DSt → Option DSt := fun x ρ => match x with
  | .tup [a, b] => some ((ρ.set i (some a)).set j (some b))
  | .pr [a, b] => some ((ρ.set i (some a)).set j (some b))
  | _ => none
theorem tp_of {K : PySem.W.Frag} {H : Hp} {v : V} {x : D} {ds : List D} (f : Fz K H v x) (h : x = .tup ds ∨ x = .pr ds) : ∃ a xs, v = .ref a ∧ SqT K H a xs ∧ FzAll K H xs ds := by
  rcases h with rfl | rfl
  · cases f with
    | tup hs fs => exact ⟨_, _, rfl, hs.t, fs⟩
  · cases f with
    | pr hs fs => exact ⟨_, _, rfl, hs, fs⟩
def g3 (i j l : Nat) : D → DSt → Option DSt := fun x ρ => match x with
  | .tup [a, b, c] => some (((ρ.set i (some a)).set j (some b)).set l (some c))
  | _ => none
theorem own1 (K : PySem.W.Frag) (i : Nat) : OwnG K (gName i) [i] (g1 i) := ⟨fun x v H σ ρ ρ2 Q f r e k => by
  cases e
  exact k _ (by show ((σ.set i none).set i (some v)).set i none = σ.set i none; rw [List.set_set, List.set_set]) (r.own i f)⟩
theorem own2 (K : PySem.W.Frag) {i j : Nat} (hij : i ≠ j) : OwnG K (gTup K 2 (gCons (gName i) (gCons (gName j) gNil))) [i, j] (g2 i j) := ⟨fun x v H σ ρ ρ2 Q f r e k => by
  have go : ∀ a b : D, (x = .tup [a, b] ∨ x = .pr [a, b]) → some ((ρ.set i (some a)).set j (some b)) = some ρ2 → gTup K 2 (gCons (gName i) (gCons (gName j) gNil)) v (L2.wipe σ [i, j]) H Q := by
    intro a b hx e
    cases e
    obtain ⟨p, xs, rfl, hs, fs⟩ := tp_of f hx
    cases fs with
    | cons f1 fs =>
      cases fs with
      | cons f2 fs =>
        cases fs
        refine ⟨p, _, rfl, hs, rfl, _, _, rfl, _, _, rfl, rfl, k _ ?_ ?_⟩
        · show (((((σ.set j none).set i none).set i _).set j _).set j none).set i none = (σ.set j none).set i none
          rw [List.set_set, List.set_set, List.set_comm _ _ hij, List.set_set]
          first | done | (rw [List.set_set]; done) | (rw [List.set_comm _ _ hij, List.set_set])
        · show RelS K H ((((σ.set j none).set i none).set i _).set j _) _
          rw [List.set_set, List.set_comm _ _ hij, List.set_set, List.set_comm _ _ (Ne.symm hij)]
          exact (r.set i f1).set j f2
  unfold g2 at e
  split at e
  · exact go _ _ (.inl rfl) e
  · exact go _ _ (.inr rfl) e
  · cases e⟩
section
variable {elt : Expr} {ifs : List Expr} {scope : Scope} {own : List (Str × Nat)} {ti : TID} {gh : TG} {g : D → DSt → Option DSt} {tt : TTD} {te : TED}
theorem up_lc (ow : OwnG X.K gh (own.map (·.2)) g) (σ : St) (H : Hp) (Q : VK) (h : upE X.K (dLc ti g tt te) σ H Q) : tLc (upI X.K ti) gh (upT X.K tt) (upE X.K te) (own.map (·.2)) σ H Q := by
  obtain ⟨ρ, M, Q', r, m, h, k⟩ := h
  refine ⟨ρ, M, _, r, m, h, fun n Y G H1 M1 J s w q D hD => ?_⟩
  obtain ⟨Pv, h0, hG, hs, hd⟩ := q
  have mD1 : M1 D = none := s.mem.none hD
  refine lc_it (g := gh) (tt := upT X.K tt) (te := upE X.K te) w (fun i H' => ∃ acc M' xs, MemOk X.K H' M' ∧ Tups X.K H1 H' ∧ (∀ a u, a ≠ D → H1 a = some u → M1 a = none → H' a = some u ∧ M' a = none) ∧ H' D = some (.lst xs) ∧ M' D = none ∧ FzAll X.K H' xs acc ∧ Pv i acc M') ?_ ?_ ?_ ?_
  · have t := Step.newT (u := .lst []) s.mem hD
    exact ⟨[], M1, [], t.mem, t.tups, fun a u ne e n => t.fr a u e n, upd_same, mD1, .nil, h0⟩
  · rintro i H' hi ⟨acc, M', xs, m', t', fr, eD, nD, fx, p⟩
    exact ⟨t', M', m', hG i acc M' hi p⟩
  · rintro i v H' H2 hi ⟨acc, M', xs, m', t', fr, eD, nD, fx, p⟩ ⟨st, d, fd, y⟩
    have s2 := st M' m'
    have z := hs i acc d M' hi y p
    cases eg : g d ρ with
    | none => rw [eg] at z; exact z.elim
    | some ρ2 =>
      rw [eg] at z
      refine ow.go d v H2 σ ρ ρ2 _ fd (((r.up s.tups).up t').up s2.tups) eg fun σ2 hw r2 => ⟨hw, ρ2, M', _, r2, s2.mem, z, fun b H3 M3 s3 z3 => ?_⟩
      have s23 := s2.trans s3
      have keep : ∀ {H4 : Hp} {M4 : Mp}, Step X.K H' M' H4 M4 → MemOk X.K H4 M4 ∧ Tups X.K H1 H4 ∧ (∀ a u, a ≠ D → H1 a = some u → M1 a = none → H4 a = some u ∧ M4 a = none) ∧ H4 D = some (.lst xs) ∧ M4 D = none ∧ FzAll X.K H4 xs acc := fun {H4 M4} s4 =>
        ⟨s4.mem, t'.trans s4.tups, fun a u ne e n => let q := fr a u ne e n; s4.fr a u q.1 q.2, (s4.fr D _ eD nD).1, (s4.fr D _ eD nD).2, fx.up s4.tups⟩
      cases b with
      | false =>
        obtain ⟨a1, a2, a3, a4, a5, a6⟩ := keep s23
        exact iteF ⟨acc, M3, xs, a1, a2, a3, a4, a5, a6, z3⟩
      | true =>
        refine iteT ⟨ρ2, M3, _, r2.up s3.tups, s3.mem, z3, fun vy H4 dy M4 fy s4 z4 => ?_⟩
        obtain ⟨a1, a2, a3, a4, a5, a6⟩ := keep (s23.trans s4)
        refine ⟨xs, a4, by rw [a6.length]; exact z4.1, acc ++ [dy], M4, xs ++ [vy], ?_⟩
        have mm : MemOk X.K H4 (updM M4 D (.lst acc)) := fun a o e => by
          by_cases ha : a = D
          · subst ha
            rw [updM_same] at e
            cases e
            exact ⟨_, a4, xs, rfl, a6⟩
          · rw [updM_ne ha] at e
            exact a1 a o e
        have w4 := Step.wr (u := .lst (xs ++ [vy])) (o := .lst (acc ++ [dy])) mm updM_same (fun z => by cases z) (show MoOk X.K H4 (.lst (xs ++ [vy])) (.lst (acc ++ [dy])) from ⟨_, rfl, a6.append (.cons fy .nil)⟩)
        refine ⟨fun a o e => ?_, a2.trans w4.tups, fun a u ne e n => ?_, upd_same, a5, (a6.append (.cons fy .nil)).up w4.tups, z4.2⟩
        · have ha : a ≠ D := by rintro rfl; rw [a5] at e; cases e
          exact w4.mem a o (by rw [updM_ne ha, updM_ne ha]; exact e)
        · have q := a3 a u ne e n
          exact ⟨by rw [upd_ne ne]; exact q.1, q.2⟩
  · rintro H' ⟨acc, M', xs, m', t', fr, eD, nD, fx, p⟩
    refine k _ _ _ _ (.ref D) (s.trans ⟨fun a o e => ?_, t', fun a u e n => ?_⟩) (hd acc M' p D nD)
    · by_cases ha : a = D
      · subst ha
        rw [updM_same] at e
        cases e
        exact ⟨_, eD, xs, rfl, fx⟩
      · rw [updM_ne ha] at e
        exact m' a o e
    · have ne : a ≠ D := by rintro rfl; rw [hD] at e; cases e
      have q := fr a u ne e n
      exact ⟨q.1, by rw [updM_ne ne]; exact q.2⟩
theorem de_lc (hc : X.calm = true) (hN : X.N.Nodup) (ow : OwnG X.K gh (own.map (·.2)) g) (hi : DI X tg iter ti) (ok : BlkOk X.N X.env.scope scope own)
    (hg : ∀ (s : Shared) (H : Hp) (C : Addr) (cl : List (Str × Addr)) (fp : List Addr), PG (X.blk s H scope (compEnvC scope cl C X.env) fp) tg gh) (ht : ∀ (s : Shared) (H : Hp) (C : Addr) (cl : List (Str × Addr)) (fp : List Addr), PTs (X.blk s H scope (compEnvC scope cl C X.env) fp) ifs (upT X.K tt))
    (he : ∀ (s : Shared) (H : Hp) (C : Addr) (cl : List (Str × Addr)) (fp : List Addr), DE (X.blk s H scope (compEnvC scope cl C X.env) fp) elt te) (hs : ∀ x, foldedSetIterable iter X.env x = pure x := by intro _; rfl) :
    DE X (.ListComp elt [⟨tg, iter, ifs, 0⟩] scope pos) (dLc ti g tt te) :=
  pe_weak (pe_lc hc hN hi ok hg ht he hs) (up_lc ow)
theorem ds_setLc {i : Nat} {y : Str} {py spos : Pos} (hc : X.calm = true) (hN : X.N.Nodup) (hy : X.N[i]? = some y) (hyl : X.env.scope.names.lookup y = some .local) (hsw : swapsWith (.ListComp elt [⟨tg, iter, ifs, 0⟩] scope pos) (some (.Name y py)) spos.line X.env = pure true)
    (ow : OwnG X.K gh (own.map (·.2)) g) (hi : DI X tg iter ti) (ok : BlkOk X.N X.env.scope scope own)
    (hg : ∀ (s : Shared) (H : Hp) (C : Addr) (cl : List (Str × Addr)) (fp : List Addr), PG (X.blk s H scope (compEnvC scope cl C X.env) fp) tg gh) (ht : ∀ (s : Shared) (H : Hp) (C : Addr) (cl : List (Str × Addr)) (fp : List Addr), PTs (X.blk s H scope (compEnvC scope cl C X.env) fp) ifs (upT X.K tt))
    (he : ∀ (s : Shared) (H : Hp) (C : Addr) (cl : List (Str × Addr)) (fp : List Addr), DE (X.blk s H scope (compEnvC scope cl C X.env) fp) elt te) (hs : ∀ x, foldedSetIterable iter X.env x = pure x := by intro _; rfl) :
    DS X (.Assign [.Name y py] (.ListComp elt [⟨tg, iter, ifs, 0⟩] scope pos) spos) (dAsg (dLc ti g tt te) (dgName i)) := by
  refine ps_weak (ps_setLc (te := upE X.K te) hc hN hy hyl hsw hi ok hg ht he hs) fun E σ H ⟨ρ, M, E', r, m, h, k⟩ => ?_
  exact up_lc ow σ H _ ⟨ρ, M, _, r, m, h, fun v H1 d M1 f s q => k.nx _ _ _ _ ((r.up s.tups).set i f) s q⟩
theorem pts_y {X : Cx} : PTs X [] (upT X.K tYesD) := ⟨fun pins s σ H Q I ⟨ρ, M, Q', r, m, h, k⟩ => pts_nil.run pins s σ H Q I (k true H M (.refl m) h)⟩
theorem pts_1 {X : Cx} {c : Expr} {t : TTD} (h : DT X c t) : PTs X [c] (upT X.K t) := pts_one h
end
end
end DL

namespace DL
open PySem L2
open PyProof.Rows (b2i)

/-! ### repr -/
mutual
inductive RN (h : Heap) : Value → PyData → Prop
  | none : RN h .none .none
  | bool (b : Bool) : RN h (.bool b) (.bool b)
  | int (i : Int) (t : Tok) : RN h (.int i t) (.int i)
  | str (x : Str) (t : Tok) : RN h (.str x t) (.str x)
  | list {a : Addr} {o : Obj} {vs : Array Value} {n : Nat} {xs : List PyData} : h.get? a = some o → o.cls = .type "list" → o.data = .seq vs n → RNs h vs.toList xs → RN h (.ref a) (.list xs)
  | tuple {a : Addr} {o : Obj} {vs : Array Value} {n : Nat} {xs : List PyData} : h.get? a = some o → o.cls = .type "tuple" → o.data = .seq vs n → RNs h vs.toList xs → RN h (.ref a) (.tuple xs)
  | dict {a : Addr} {o : Obj} {es : Array DictEntry} {n : Nat} {kvs : List (PyData × PyData)} : h.get? a = some o → o.cls = .type "dict" → o.data = .dict es n → (a == sysModules) = false →
      RNs h (es.toList.map (·.key)) (kvs.map (·.1)) → RNs h (es.toList.map (·.val)) (kvs.map (·.2)) → RN h (.ref a) (.dict kvs)
inductive RNs (h : Heap) : List Value → List PyData → Prop
  | nil : RNs h [] []
  | cons {v : Value} {vs : List Value} {d : PyData} {ds : List PyData} : RN h v d → RNs h vs ds → RNs h (v :: vs) (d :: ds)
end
section
variable {h : Heap} {prog : Program} {w : World}
mutual
theorem RN.reads : ∀ {v : Value} {d : PyData}, RN h v d → ∃ as, Reads h v d as
  | _, _, .none => ⟨_, .none⟩
  | _, _, .bool b => ⟨_, .bool b⟩
  | _, _, .int i t => ⟨_, .int i t⟩
  | _, _, .str x t => ⟨_, .str x t⟩
  | _, _, .list h1 h2 h3 r => let ⟨_, q⟩ := RNs.reads r; ⟨_, .list h1 h2 h3 q⟩
  | _, _, .tuple h1 h2 h3 r => let ⟨_, q⟩ := RNs.reads r; ⟨_, .tuple h1 h2 h3 q⟩
  | _, _, .dict h1 h2 h3 _ r r' => let ⟨_, q⟩ := RNs.reads r; let ⟨_, q'⟩ := RNs.reads r'; ⟨_, .dict h1 h2 h3 q q'⟩
theorem RNs.reads : ∀ {vs : List Value} {ds : List PyData}, RNs h vs ds → ∃ as, ReadsAll h vs ds as
  | _, _, .nil => ⟨_, .nil⟩
  | _, _, .cons r rs => let ⟨_, q⟩ := RN.reads r; let ⟨_, q'⟩ := RNs.reads rs; ⟨_, .cons q q'⟩
end
/-- one object: what it shows, from what its parts show -/
theorem shows_list {a : Addr} {o : Obj} {vs : Array Value} {n : Nat} {xs : List PyData} {bs : List Addr} (h1 : h.get? a = some o) (h2 : o.cls = .type "list") (h3 : o.data = .seq vs n) (r : RNs h vs.toList xs) (hb : ReadAtMost h (PyData.depthAll xs) bs)
    (hk : ReprAllK prog w bs h (PyData.depthAll xs) vs.toList (PyData.shownAll xs)) : ∃ cs, ReadAtMost h (PyData.list xs).depth cs ∧ ReprK prog w cs h (PyData.list xs).depth (.ref a) (PyData.list xs).shown := by
  obtain ⟨as, q⟩ := RNs.reads r
  have rd : Reads h (.ref a) (.list xs) _ := .list h1 h2 h3 q
  have far : a ∉ bs := not_mem_of_deeper rd (by simp only [PyData.depth]; omega) hb
  refine ⟨a :: bs, ReadAtMost.cons rd (by simp only [PyData.depth]; omega) hb, ?_⟩
  simp only [PyData.depth, PyData.shown]
  obtain ⟨l⟩ := vs
  cases l with
  | nil =>
    have r0 : RNs h [] xs := r
    cases r0
    simp only [PyData.shownAll, listText_nil]
    exact ReprK.listEmpty h1 h2 h3
  | cons x l => exact ReprK.list h1 h2 h3 far (by simpa using hk.length_eq) fun i y e => hk.item i y (by simpa using e)
mutual
theorem RN.shows : ∀ {v : Value} {d : PyData}, RN h v d → d.showable = true → d.shown.length ≤ sizeLine → ∃ bs, ReadAtMost h d.depth bs ∧ ReprK prog w bs h d.depth v d.shown
  | _, _, .none, _, _ => ⟨[], (fun _ m => nomatch m), by simp only [PyData.shown]; exact .of_is ReprIs.none _ _ _⟩
  | _, _, .bool b, _, _ => ⟨[], (fun _ m => nomatch m), by simp only [PyData.shown]; exact .of_is (ReprIs.bool b) _ _ _⟩
  | _, _, .int i t, hs, _ => ⟨[], (fun _ m => nomatch m), by simp only [PyData.shown]; exact .of_is (ReprIs.int t (by simpa [PyData.showable] using hs)) _ _ _⟩
  | _, _, .str x t, _, hz => ⟨[], (fun _ m => nomatch m), by simp only [PyData.shown]; exact .of_is (ReprIs.str x t (by simpa only [PyData.shown] using hz)) _ _ _⟩
  | _, _, .list (xs := xs) h1 h2 h3 r, hs, hz => by
    have z : (listText (PyData.shownAll xs)).length ≤ sizeLine := by simpa only [PyData.shown] using hz
    obtain ⟨bs, hb, hk⟩ := RNs.shows r (by simpa [PyData.showable] using hs) fun t ht => Nat.le_trans (listText_mem_le ht) z
    exact shows_list h1 h2 h3 r hb hk
  | _, _, .tuple (a := a) (xs := xs) h1 h2 h3 r, hs, hz => by
    have z : (tupleText (PyData.shownAll xs)).length ≤ sizeLine := by simpa only [PyData.shown] using hz
    obtain ⟨bs, hb, hk⟩ := RNs.shows r (by simpa [PyData.showable] using hs) fun t ht => Nat.le_trans (tupleText_mem_le ht) z
    obtain ⟨as, q⟩ := RNs.reads r
    have rd : Reads h (.ref a) (.tuple xs) _ := .tuple h1 h2 h3 q
    refine ⟨a :: bs, ReadAtMost.cons rd (by simp only [PyData.depth]; omega) hb, ?_⟩
    simp only [PyData.depth, PyData.shown]
    exact ReprK.tuple h1 h2 h3 (not_mem_of_deeper rd (by simp only [PyData.depth]; omega) hb) hk
  | _, _, .dict (a := a) (es := es) (kvs := kvs) h1 h2 h3 h4 r r', hs, hz => by
    have z : (dictText (PyData.shownKv kvs)).length ≤ sizeLine := by simpa only [PyData.shown] using hz
    obtain ⟨s1, s2⟩ := PyData.showableKv_split kvs (by simpa [PyData.showable] using hs)
    obtain ⟨b1, m1, k1⟩ := RNs.shows r s1 fun t ht => let ⟨p, hp, hl⟩ := PyData.shownKv_key_le kvs t ht; Nat.le_trans hl (Nat.le_trans (dictText_mem_le hp) z)
    obtain ⟨b2, m2, k2⟩ := RNs.shows r' s2 fun t ht => let ⟨p, hp, hl⟩ := PyData.shownKv_val_le kvs t ht; Nat.le_trans hl (Nat.le_trans (dictText_mem_le hp) z)
    obtain ⟨as, q⟩ := RNs.reads r
    obtain ⟨as', q'⟩ := RNs.reads r'
    have rd : Reads h (.ref a) (.dict kvs) _ := .dict h1 h2 h3 q q'
    have mm : ReadAtMost h (PyData.depthKv kvs) (b1 ++ b2) := (m1.mono (PyData.depthAll_keys_le kvs)).append (m2.mono (PyData.depthAll_vals_le kvs))
    refine ⟨a :: (b1 ++ b2), ReadAtMost.cons rd (by simp only [PyData.depth]; omega) mm, ?_⟩
    simp only [PyData.depth, PyData.shown, PyData.shownKv_eq]
    exact ReprK.dict h1 h2 h3 h4 (not_mem_of_deeper rd (by simp only [PyData.depth]; omega) mm) (ReprEntriesK.of_two es.toList _ _
      (k1.more_le (fun b hb => List.mem_append_left _ hb) (PyData.depthAll_keys_le kvs)) (k2.more_le (fun b hb => List.mem_append_right _ hb) (PyData.depthAll_vals_le kvs)))
theorem RNs.shows : ∀ {vs : List Value} {ds : List PyData}, RNs h vs ds → PyData.showableAll ds = true → (∀ t ∈ PyData.shownAll ds, t.length ≤ sizeLine) → ∃ bs, ReadAtMost h (PyData.depthAll ds) bs ∧ ReprAllK prog w bs h (PyData.depthAll ds) vs (PyData.shownAll ds)
  | _, _, .nil, _, _ => ⟨[], (fun _ m => nomatch m), by simp only [PyData.shownAll]; exact .nil⟩
  | _, _, .cons (d := d) (ds := ds) r rs, hs, hz => by
    have s : d.showable = true ∧ PyData.showableAll ds = true := by simpa [PyData.showableAll] using hs
    obtain ⟨b1, m1, k1⟩ := RN.shows r s.1 (hz _ (by simp only [PyData.shownAll]; exact List.mem_cons_self ..))
    obtain ⟨b2, m2, k2⟩ := RNs.shows rs s.2 fun t ht => hz t (by simp only [PyData.shownAll]; exact List.mem_cons_of_mem _ ht)
    have l1 : d.depth ≤ PyData.depthAll (d :: ds) := by simp only [PyData.depthAll]; exact Nat.le_max_left _ _
    have l2 : PyData.depthAll ds ≤ PyData.depthAll (d :: ds) := by simp only [PyData.depthAll]; exact Nat.le_max_right _ _
    refine ⟨b1 ++ b2, (m1.mono l1).append (m2.mono l2), ?_⟩
    simp only [PyData.shownAll]
    exact .cons ((k1.more fun b hb => List.mem_append_left _ hb).level_le l1) (k2.more_le (fun b hb => List.mem_append_right _ hb) l2)
end
/-- repr(x) of an object -/
theorem repr_RN {A : Around} {E : Value → Shared → Prop} {s : Shared} {Q : Value → Shared → Prop} {a : Addr} {d : PyData} (r : RN s.heap (.ref a) d) (hs : d.showable = true) (hg : A.guards = some []) (hu : A.units + (d.depth + 1) < cLine) (hz : d.shown.length ≤ sizeLine)
    (hQ : ∀ h' u tk, (∀ b o, s.heap.get? b = some o → h'.get? b = some o) → Q (.str d.shown u) { s with heap := h', toks := tk }) : wpAny (model prog w) A (call (.builtin "repr") [.ref a]) Q E s := by
  have hg1 : A.in1.guards = some [] := hg
  have hk : ∀ b o, s.heap.get? b = some o → s.heap.get? b = some o := fun _ _ e => e
  cases r with
  | @list _ o vs n xs h1 h2 h3 r =>
    have z : (listText (PyData.shownAll xs)).length ≤ sizeLine := by simpa only [PyData.shown] using hz
    obtain ⟨bs, hb, hK⟩ := RNs.shows (prog := prog) (w := w) r (by simpa [PyData.showable] using hs) fun t ht => Nat.le_trans (listText_mem_le ht) z
    obtain ⟨as, q⟩ := RNs.reads r
    have rd : Reads s.heap (.ref a) (.list xs) _ := .list h1 h2 h3 q
    have far : a ∉ bs := not_mem_of_deeper rd (by simp only [PyData.depth]; omega) hb
    simp only [PyData.depth] at hu
    simp only [PyData.shown] at hQ
    refine call_repr_slot (by omega) ⟨o, h1, h2⟩ F.slot_list_repr.toG ?_
    obtain ⟨l⟩ := vs
    cases l with
    | nil =>
      have r0 : RNs s.heap [] xs := r
      cases r0
      simp only [PyData.shownAll, listText_nil] at hQ
      exact call_list_repr_empty ⟨o, h1, h2⟩ h1 h3 ⟨_, _, rfl, hQ s.heap _ _ hk⟩
    | cons x l =>
      exact call_list_reprK h1 h2 h3 far (by simpa using hK.length_eq) (fun i y e => hK.item i y (by simpa using e)) hg1 (fun b _ => Clear.nil b) (by show A.units + 1 + _ < _; omega) hk (fun h' u tk k => ⟨_, _, rfl, hQ h' u tk k⟩) z
  | @tuple _ o vs n xs h1 h2 h3 r =>
    have z : (tupleText (PyData.shownAll xs)).length ≤ sizeLine := by simpa only [PyData.shown] using hz
    obtain ⟨bs, hb, hK⟩ := RNs.shows (prog := prog) (w := w) r (by simpa [PyData.showable] using hs) fun t ht => Nat.le_trans (tupleText_mem_le ht) z
    obtain ⟨as, q⟩ := RNs.reads r
    have rd : Reads s.heap (.ref a) (.tuple xs) _ := .tuple h1 h2 h3 q
    have far : a ∉ bs := not_mem_of_deeper rd (by simp only [PyData.depth]; omega) hb
    simp only [PyData.depth] at hu
    simp only [PyData.shown] at hQ
    refine call_repr_slot (by omega) ⟨o, h1, h2⟩ F.slot_tuple_repr ?_
    exact call_tuple_reprK h1 h2 h3 far hK hg1 (fun b _ => Clear.nil b) (by show A.units + 1 + _ < _; omega) hk (fun h' u tk k => ⟨_, _, rfl, hQ h' u tk k⟩) z
  | @dict _ o es n kvs h1 h2 h3 h4 r r' =>
    have z : (dictText (PyData.shownKv kvs)).length ≤ sizeLine := by simpa only [PyData.shown] using hz
    obtain ⟨s1, s2⟩ := PyData.showableKv_split kvs (by simpa [PyData.showable] using hs)
    obtain ⟨b1, m1, k1⟩ := RNs.shows (prog := prog) (w := w) r s1 fun t ht => let ⟨p, hp, hl⟩ := PyData.shownKv_key_le kvs t ht; Nat.le_trans hl (Nat.le_trans (dictText_mem_le hp) z)
    obtain ⟨b2, m2, k2⟩ := RNs.shows (prog := prog) (w := w) r' s2 fun t ht => let ⟨p, hp, hl⟩ := PyData.shownKv_val_le kvs t ht; Nat.le_trans hl (Nat.le_trans (dictText_mem_le hp) z)
    obtain ⟨as, q⟩ := RNs.reads r
    obtain ⟨as', q'⟩ := RNs.reads r'
    have rd : Reads s.heap (.ref a) (.dict kvs) _ := .dict h1 h2 h3 q q'
    have mm : ReadAtMost s.heap (PyData.depthKv kvs) (b1 ++ b2) := (m1.mono (PyData.depthAll_keys_le kvs)).append (m2.mono (PyData.depthAll_vals_le kvs))
    have far : a ∉ b1 ++ b2 := not_mem_of_deeper rd (by simp only [PyData.depth]; omega) mm
    simp only [PyData.depth] at hu
    simp only [PyData.shown, PyData.shownKv_eq] at hQ
    refine call_repr_slot (by omega) ⟨o, h1, h2⟩ F.slot_dict_repr ?_
    exact call_dict_reprK h1 h2 h3 h4 far (ReprEntriesK.of_two es.toList _ _
      (k1.more_le (fun b hb => List.mem_append_left _ hb) (PyData.depthAll_keys_le kvs)) (k2.more_le (fun b hb => List.mem_append_right _ hb) (PyData.depthAll_vals_le kvs))) hg1 (fun b _ => Clear.nil b) (by show A.units + 1 + _ < _; omega) hk (fun h' u tk k => ⟨_, _, rfl, hQ h' u tk k⟩) (by rw [← PyData.shownKv_eq]; exact z)
end
section
variable {X : Cx} {pins : List (Addr × Obj)} {σ : St} {H : Hp} {s : Shared} {M : Mp}
theorem pairs_key {es : List DictEntry} {vs : List (Key × Value)} {prog : Program} {w : World} : Pairs (mixKind prog w) es vs → ∀ {kvs : List (Key × D)} {ps : List (PyData × PyData)}, vs.map (·.1) = kvs.map (·.1) → RdmKv M kvs ps → RNs s.heap (es.map (·.key)) (ps.map (·.1)) := by
  intro h
  induction h with
  | nil =>
    intro kvs ps e r
    cases r <;> first | exact .nil | (simp at e)
  | @cons e kv es vs h1 h2 h3 ih =>
    intro kvs ps e' r
    cases r with
    | nil => simp at e'
    | @consI i d r p ps h r =>
      simp only [List.map_cons, List.cons.injEq] at e'
      refine .cons ?_ (ih e'.2 r)
      have z : keyIs kv.1 e.key = true := h1
      rw [e'.1] at z
      rcases keyIs_shape z with ⟨i', t, q1, q2⟩ | ⟨x', t, q1, q2⟩
      · cases q1; show RN s.heap e.key _; rw [q2]; exact .int _ _
      · cases q1
    | @consS i d r p ps h r =>
      simp only [List.map_cons, List.cons.injEq] at e'
      refine .cons ?_ (ih e'.2 r)
      have z : keyIs kv.1 e.key = true := h1
      rw [e'.1] at z
      rcases keyIs_shape z with ⟨i', t, q1, q2⟩ | ⟨x', t, q1, q2⟩
      · cases q1
      · cases q1; show RN s.heap e.key _; rw [q2]; exact .str _ _
theorem pairs_val {es : List DictEntry} {vs : List (Key × Value)} {prog : Program} {w : World} : Pairs (mixKind prog w) es vs → es.map (·.val) = vs.map (·.2) := by
  intro h
  induction h with
  | nil => rfl
  | cons h1 h2 h3 ih => rw [List.map_cons, List.map_cons, ih, h2]
theorem paired_fst {A B : Type} {κ : Type} {P : A → B → Prop} : ∀ {l : List (κ × A)} {m : List (κ × B)}, Paired (fun p q => p.1 = q.1 ∧ P p.2 q.2) l m → l.map (·.1) = m.map (·.1)
  | _, _, .nil => rfl
  | _, _, .cons h t => by rw [List.map_cons, List.map_cons, h.1, paired_fst t]
mutual
theorem Rdm.rn (I : Inv X pins σ H s) (m : MemOk X.K H M) : ∀ (p : PyData) (d : D) (v : V) (u : Value), Rdm M d p → Fz X.K H v d → RelV v u → RN s.heap u p
  | .none, _, _, _, h, f, r => by cases h; cases f; cases r; exact .none
  | .bool _, _, _, _, h, f, r => by cases h; cases f; cases r; exact .bool _
  | .int _, _, _, _, h, f, r => by cases h; cases f; obtain ⟨t, rfl⟩ := r; exact .int _ _
  | .str _, _, _, _, h, f, r => by cases h; cases f; obtain ⟨t, rfl⟩ := r; exact .str _ _
  | .list ps, _, _, _, h, f, r => by
    cases h with
    | lst ha hr =>
      cases f; cases r
      obtain ⟨xs, e, fs⟩ := m.lst ha
      obtain ⟨its, rv, ⟨o, n, ho, hc, _, hd⟩, _⟩ := I.list (.of e)
      exact .list ho hc hd (RdmAll.rn I m ps _ _ _ hr fs rv)
  | .tuple ps, _, _, _, h, f, r => by
    cases h with
    | tup hr =>
      cases f with
      | tup hs fs =>
        cases r
        obtain ⟨its, rv, ⟨o, ho, hc, n, hd⟩, _⟩ := I.tuple hs.t
        exact .tuple ho hc hd (RdmAll.rn I m ps _ _ _ hr fs rv)
  | .dict ps, _, _, _, h, f, r => by
    cases h with
    | @dct a kvs _ ha hr =>
      cases f; cases r
      obtain ⟨u, e, xs, rfl, fs⟩ := m a _ ha
      obtain ⟨_, hsys, vs, kv, o, es, ep, ho, ex, hd, _, pr, _⟩ := I.hok a _ e
      have e1 : xs.map (·.1) = kvs.map (·.1) := paired_fst fs
      have e2 : xs.map (·.1) = vs.map (·.1) := paired_fst kv
      refine .dict ho ex.1 hd hsys (pairs_key pr (e2.symm.trans e1) hr) ?_
      rw [pairs_val pr]
      exact RdmKv.rn I m ps _ _ _ hr fs kv
theorem RdmAll.rn (I : Inv X pins σ H s) (m : MemOk X.K H M) : ∀ (ps : List PyData) (ds : List D) (vs : List V) (us : List Value), RdmAll M ds ps → FzAll X.K H vs ds → Vals vs us → RNs s.heap us ps
  | [], _, _, _, h, f, r => by cases h; cases f; cases r; exact .nil
  | p :: ps, _, _, _, h, f, r => by
    cases h with
    | cons h1 h2 =>
      cases f with
      | cons f1 f2 =>
        cases r with
        | cons r1 r2 => exact .cons (Rdm.rn I m p _ _ _ h1 f1 r1) (RdmAll.rn I m ps _ _ _ h2 f2 r2)
theorem RdmKv.rn (I : Inv X pins σ H s) (m : MemOk X.K H M) : ∀ (ps : List (PyData × PyData)) (kvs : List (Key × D)) (xs : List (Key × V)) (vs : List (Key × Value)), RdmKv M kvs ps → KFz X.K H xs kvs → KV xs vs → RNs s.heap (vs.map (·.2)) (ps.map (·.2))
  | [], _, _, _, h, f, r => by cases h; cases f; cases r; exact .nil
  | (k, p) :: ps, _, _, _, h, f, r => by
    cases h with
    | consI h1 h2 =>
      cases f with
      | cons f1 f2 =>
        cases r with
        | cons r1 r2 => exact .cons (Rdm.rn I m p _ _ _ h1 f1.2 r1.2) (RdmKv.rn I m ps _ _ _ h2 f2 r2)
    | consS h1 h2 =>
      cases f with
      | cons f1 f2 =>
        cases r with
        | cons r1 r2 => exact .cons (Rdm.rn I m p _ _ _ h1 f1.2 r1.2) (RdmKv.rn I m ps _ _ _ h2 f2 r2)
end
end
/-- what repr asks of data -/
def Shw (p : PyData) : Prop := p.showable = true ∧ p.depth ≤ 100 ∧ p.shown.length ≤ sizeLine
def rReprX : RCD := fun ds M Q => match ds with
  | [d] => ∃ p, Rdm M d p ∧ Shw p ∧ Q (.str p.shown) M
  | _ => False
theorem ca_repr {X : Cx} (hg : X.A.guards = some []) (hu : X.A.units + 200 < cLine) : CaR X (.builtin "repr") rReprX := by
  refine ⟨fun vs H Q => ∃ v d M p Q', vs = [v] ∧ Fz X.K H v d ∧ MemOk X.K H M ∧ Rdm M d p ∧ Shw p ∧ Q' (D.str p.shown) M ∧ KLe X.K H M Q' Q, ?_, ?_⟩
  · intro pins s σ H xs us Q I r h
    obtain ⟨v, d, M, p, Q', rfl, f, m, hr, ⟨hs, hd, hz⟩, q, k⟩ := h
    obtain ⟨u, rfl, rv⟩ := vals1 r
    have fin : ∀ h' t tk, (∀ b o, s.heap.get? b = some o → h'.get? b = some o) → EP X pins σ Q (.str p.shown t) { s with heap := h', toks := tk } := fun h' t tk kp => ⟨.str p.shown, H, I.kept kp, ⟨t, rfl⟩, k.val m (.str _) q⟩
    have rn := Rdm.rn I m p d v u hr f rv
    cases rn with
    | none =>
      refine PySem.P.repr_of_none ?_
      simpa only [PyData.shown] using fin s.heap s.toks _ fun _ _ e => e
    | bool b =>
      refine PySem.P.repr_of_bool ?_
      simpa only [PyData.shown] using fin s.heap s.toks _ fun _ _ e => e
    | int i t =>
      refine PySem.P.repr_of_int (by simpa [PyData.showable] using hs) ?_
      simpa only [PyData.shown] using fin s.heap s.toks _ fun _ _ e => e
    | str x t =>
      refine PySem.P.repr_of_str ?_ (by simpa only [PyData.shown] using hz)
      simpa only [PyData.shown] using fin s.heap s.toks _ fun _ _ e => e
    | list h1 h2 h3 r3 => exact repr_RN (.list h1 h2 h3 r3) hs hg (by omega) hz fin
    | tuple h1 h2 h3 r3 => exact repr_RN (.tuple h1 h2 h3 r3) hs hg (by omega) hz fin
    | dict h1 h2 h3 h4 r3 r4 => exact repr_RN (.dict h1 h2 h3 h4 r3 r4) hs hg (by omega) hz fin
  · intro H M vs ds Q' Q fs m h k
    unfold rReprX at h
    split at h
    · obtain ⟨p, hr, hs, q⟩ := h
      cases fs with
      | cons f t =>
        cases t
        exact ⟨_, _, M, p, Q', rfl, f, m, hr, hs, q, k⟩
    · exact h.elim
end DL

namespace DL
open PySem L2
open PySem.Spec PyProof.Rows

/-! ### defs: as the hand layer has them, and nothing is being shown by repr around -/
structure FnG (P : Program) (w : World) (K : PySem.W.Frag) (mg : Str → Option Value) (base : Heap) (CX : CXT) (k : Nat) (f : Addr) (fd : FuncData) (ps : List Str) (sp : Sp) : Prop where
  len : ∀ vs H Q E, sp vs H Q E → vs.length = ps.length
  run : ∀ (A : Around) (outer : List Env) (s : Shared) (H : Hp) (args : Args) (us : List Value) (vs : List V) (Q : VK) (E : XK), Room k A → A.guards = some [] → Env0 P w K mg base A outer s H → BindsTo s fd args (ps.zip us) → Vals vs us → sp vs H Q E →
    codeAny (model P w) A (.call (.ref f) args) (L2.CR CX outer P w H s Q E) s
theorem FnG.mono {P : Program} {w : World} {K : PySem.W.Frag} {mg : Str → Option Value} {base : Heap} {CX : CXT} {j k : Nat} {f : Addr} {fd : FuncData} {ps : List Str} {sp : Sp} (F : FnG P w K mg base CX j f fd ps sp) (h : j ≤ k) : FnG P w K mg base CX k f fd ps sp :=
  ⟨F.len, fun A outer s H args us vs Q E hr hg e0 hb r hs => F.run A outer s H args us vs Q E (hr.mono h) hg e0 hb r hs⟩

theorem fnG_of {CX : CXT} {P : Program} {w : World} {K : PySem.W.Frag} {mg : Str → Option Value} {base : Heap} {k : Nat} {f : Addr} {name qual : Str} {params : Arguments} {body : List Stmt} {scope : Scope} {dV kV doc pm cdv ct oc : Value} {an od : Option Addr}
    {osl : Array (Option Value)} {N ps : List Str} {sp : Sp} (lk : K.lookup f = some ⟨oc, od, .func (PySem.W.fnOf name qual params body scope dV kV doc pm an cdv ct), osl⟩) (hcd : PySem.W.codeIn K cdv qual = true) (S : FnScope N ps scope)
    (len : ∀ vs H Q E, sp vs H Q E → vs.length = ps.length)
    (hbody : ∀ (A : Around) (outer : List Env) (s : Shared) (H : Hp) (vs : List V) (Q : VK) (E : XK), Room k (A.deeper (envOfC qual scope s.heap.objs.size f cdv)) → A.guards = some [] → sp vs H Q E →
      ∃ t, PSs (cxOf CX P w K mg base N qual scope f cdv A outer s H E) body t ∧ t { nx := fun _ H' => Q .non H', rt := Q } (L2.start N vs) H) :
    FnG P w K mg base CX (k + 1) f (PySem.W.fnOf name qual params body scope dV kV doc pm an cdv ct) ps sp := by
  refine ⟨len, fun A outer s H args us vs Q E room gd e0 hb rv hsp => ?_⟩
  have nvs := len _ _ _ _ hsp
  have kin : K.In s.heap := e0.mod.kin.keeps fun b o e => (e0.bs b o e).1
  have nolim : s.heap.NoLimit := e0.mod.nolimit.keeps fun b o e => (e0.bs b o e).1
  have parms : ∀ y ∈ ps.zip us, scope.names.lookup y.1 = some .local ∨ (scope.names.lookup y.1 = some .cell ∧ ((cellsFrom (s.heap.objs.size + 1) scope.names []).lookup y.1).isSome = true) := fun y hy =>
    (S.par y.1 (List.of_mem_zip (show (y.1, y.2) ∈ ps.zip us from hy)).1).elim .inl fun q => .inr ⟨q, PySem.W.cellsFrom_some _ _ _ (.inl q)⟩
  refine codeAny_call_function room.depth (kin _ _ lk) rfl S.co S.gen rfl (PySem.W.codeRec_of kin hcd) (hb _ _ _ _ (wpAny_newFunctionEnv_cells S.kind parms fun env he s1 x => ?_))
  subst he
  refine ⟨nolim.keeps x.toInCall.keep, codeAny_func ?_⟩
  obtain ⟨t, ht, hq⟩ := hbody A outer s H vs Q E (room.deeper _) gd hsp
  refine wpAny_mono (ht.run [] s1 (L2.start N vs) H _ (inv_start S room.hd e0 nvs rv x) hq) (fun fl s' hs => ?_) fun e s' hs => hs
  cases fl with
  | ret u =>
    obtain ⟨v, σ', H', J, rv, q⟩ := hs
    exact ⟨v, H', J.os, J.bare, J.base, J.hok, rv, q⟩
  | next =>
    obtain ⟨σ', H', J, q⟩ := hs
    exact ⟨V.non, H', J.os, J.bare, J.base, J.hok, rfl, q⟩
  | brk =>
    obtain ⟨_, _, _, q⟩ := hs
    exact q.elim
  | cont =>
    obtain ⟨_, _, _, q⟩ := hs
    exact q.elim

/-! ### promises over data -/
abbrev SpD := List D → Mp → KD → XD → Prop
def XLe (K : PySem.W.Frag) (H : Hp) (M : Mp) (E' : XD) (E : XK) : Prop := ∀ cv od H' fs M', XOk K H' od fs → Step K H M H' M' → E' cv fs M' → E cv od H'
def upSp (K : PySem.W.Frag) (sp : SpD) : Sp := fun vs H Q E => ∃ ds M Q' E', FzAll K H vs ds ∧ MemOk K H M ∧ sp ds M Q' E' ∧ KLe K H M Q' Q ∧ XLe K H M E' E
abbrev FnD (P : Program) (w : World) (K : PySem.W.Frag) (mg : Str → Option Value) (base : Heap) (CX : CXT) (k : Nat) (f : Addr) (fd : FuncData) (ps : List Str) (sp : SpD) : Prop := FnG P w K mg base CX k f fd ps (upSp K sp)
abbrev X0 : XD := fun _ _ _ => False
def startD (N : List Str) (ds : List D) : DSt := ds.map some ++ List.replicate (N.length - ds.length) none
theorem relS_start {K : PySem.W.Frag} {H : Hp} {N : List Str} {vs : List V} {ds : List D} (f : FzAll K H vs ds) : RelS K H (L2.start N vs) (startD N ds) := by
  have hl := f.length
  refine ⟨by unfold L2.start startD; simp only [List.length_append, List.length_map, List.length_replicate, hl], fun i d e => ?_⟩
  unfold startD at e
  unfold L2.start
  by_cases hi : i < ds.length
  · rw [List.getElem?_append_left (by simpa using hi), List.getElem?_map] at e
    cases q : ds[i]? with
    | none => rw [q] at e; cases e
    | some d' =>
      rw [q] at e
      cases e
      obtain ⟨v, hv, g⟩ := f.get q
      exact ⟨v, by rw [List.getElem?_append_left (by rw [List.length_map, hl]; exact hi), List.getElem?_map, hv]; rfl, g⟩
  · rw [List.getElem?_append_right (by simpa using hi), List.getElem?_replicate] at e
    split at e <;> cases e
section
variable {P : Program} {w : World} {K : PySem.W.Frag} {mg : Str → Option Value} {base : Heap}
theorem len_up {sp : SpD} {n : Nat} (len : ∀ ds M Q E, sp ds M Q E → ds.length = n) : ∀ vs H Q E, upSp K sp vs H Q E → vs.length = n := fun vs H Q E ⟨ds, M, Q', E', f, m, h, _⟩ => by
  rw [f.length]
  exact len _ _ _ _ h
/-- a def that lets no exception out, by its body -/
theorem okD {x qual : Str} {st : Stmt} {f : Addr} {fd : FuncData} {N ps : List Str} {k : Nat} {sp : SpD} (F : Fun K x qual st f fd) (S : FnScope N ps (defScope st)) (len : ∀ ds M Q E, sp ds M Q E → ds.length = ps.length)
    (hbody : ∀ (cdv : Value) (A : Around) (outer : List Env) (s : Shared) (H : Hp) (E : XK), Room k (A.deeper (envOfC qual (defScope st) s.heap.objs.size f cdv)) → A.guards = some [] → ∀ (ds : List D) (M : Mp) (Q : KD) (E' : XD), sp ds M Q E' →
      ∃ t, DSs (cxOf CX0 P w K mg base N qual (defScope st) f cdv A outer s H E).nox (defBody st) t ∧ t { nx := fun _ M' => Q .non M', rt := Q } (startD N ds) M) : FnD P w K mg base CX0 (k + 1) f fd ps sp := by
  obtain ⟨oc, od, kV, doc, pm, an, cdv, ct, osl, rfl, lk, hcd⟩ := F.ex
  refine fnG_of lk hcd S (len_up len) fun A outer s H vs Q E hr hg ⟨ds, M, Q', E', f, m, h, k1, _⟩ => ?_
  obtain ⟨t, ht, q⟩ := hbody cdv A outer s H E hr hg ds M Q' E' h
  exact ⟨_, ht.nox, startD N ds, M, _, relS_start f, m, q, ⟨fun σ' ρ' H' M' r s q => k1 _ _ _ _ .non s q, k1, fun _ _ _ _ _ _ z => z.elim, fun _ _ _ _ _ _ z => z.elim, fun _ _ _ _ _ _ _ _ z => z.elim⟩⟩
end

/-! ### calls -/
def dCall (sp : SpD) (t : TAD) : TED := fun ρ M Q => t ρ M fun ds M1 => sp ds M1 Q X0
section
variable {X : Cx} {CX : CXT} {k : Nat} {f C : Addr} {fd : FuncData} {ps : List Str} {sp : Sp} {E : XK} {x m : Str} {p pos apos : Pos} {e o : Expr} {es : List Expr} {ta : TE} {t : TA}
theorem run_fnG {pins : List (Addr × Obj)} {σ : L2.St} {H : Hp} {s : Shared} {Q : VK} {us : List Value} {vs : List V} (F : FnG X.prog X.w X.K X.mg X.base CX k f fd ps sp) (hr : Room k X.A) (hgd : X.A.guards = some []) (hb : Binds X.K fd ps []) (hx : Passes CX X E)
    (I : Inv X pins σ H s) (r : Vals vs us) (h : sp vs H Q E) : wpAny (model X.prog X.w) X.A (call (.ref f) us) (EP X pins σ Q) X.xe s := by
  have hl : us.length = ps.length := by rw [← r.length]; exact F.len _ _ _ _ h
  have bt := hb s us I.kIn (by rw [List.append_nil]; exact hl)
  rw [List.append_nil] at bt
  refine wpAny_call (codeAny_mono (F.run X.A X.stack s H ⟨us, []⟩ us vs Q E hr hgd I.env0 bt r h) fun r s' hq => ?_)
  match r, hq with
  | .error e, hq => exact hx pins σ H s e s' I hq
  | .ok (.ret u), hq => exact I.after hq
theorem pe_callG (F : FnG X.prog X.w X.K X.mg X.base CX k f fd ps sp) (hr : Room k X.A) (hgd : X.A.guards = some []) (hg : Gl X x) (hm : X.mg x = some (.ref f)) (hk : PySem.W.keepIn X.K (.ref f) = true) (hb : Binds X.K fd ps []) (hx : Passes CX X E)
    (ha : PA X (e :: es) t) (hdb : (x == ("__debug__" : Str)) = false := by decide) (he : starEach (e :: es) X.env = (false, eval e X.env) :: starEach es X.env := by rfl) (hpl : (backTo pos (starEach es X.env)).any (·.1) = false := by rfl) :
    PE X (.Call (.Name x p) (e :: es) [] pos) (fun σ H Q => t σ H fun vs H1 => sp vs H1 Q E) := by
  refine ⟨fun pins s σ H Q I h => wpAny_Call_Name_kw (ld_glob I hg hm ?_ hdb)⟩
  exact PySem.W.callWith_K (h₀ := X.base) I.ok.mod.kin hk (thn (ha.run pos pins s σ H _ I h) fun us s1 ⟨vs, H1, I1, r, q⟩ => ⟨I1.kIn, run_fnG F hr hgd hb hx I1 r q⟩) he hpl
theorem pe_callG0 (F : FnG X.prog X.w X.K X.mg X.base CX k f fd ps sp) (hr : Room k X.A) (hgd : X.A.guards = some []) (hg : Gl X x) (hm : X.mg x = some (.ref f)) (hk : PySem.W.keepIn X.K (.ref f) = true) (hb : Binds X.K fd ps []) (hx : Passes CX X E)
    (hdb : (x == ("__debug__" : Str)) = false := by decide) : PE X (.Call (.Name x p) [] [] pos) (fun σ H Q => sp [] H Q E) :=
  ⟨fun pins s σ H Q I h => wpAny_Call_Name_kw (ld_glob I hg hm (PySem.W.callWith_K0 I.kIn hk (run_fnG (us := []) F hr hgd hb hx I .nil h)) hdb)⟩
end
section
variable {X : Cx} {k : Nat} {f : Addr} {fd : FuncData} {ps : List Str} {sp : SpD} {x : Str} {p pos : Pos} {e : Expr} {es : List Expr} {t : TAD}
/-- f(e, ..), f a def that lets no exception out -/
theorem de_call (F : FnD X.prog X.w X.K X.mg X.base CX0 k f fd ps sp) (hr : Room k X.A) (hgd : X.A.guards = some []) (hg : Gl X x) (hm : X.mg x = some (.ref f)) (hk : PySem.W.keepIn X.K (.ref f) = true) (hb : Binds X.K fd ps [])
    (ha : DA X (e :: es) t) (hdb : (x == ("__debug__" : Str)) = false := by decide) (he : starEach (e :: es) X.env = (false, eval e X.env) :: starEach es X.env := by rfl) (hpl : (backTo pos (starEach es X.env)).any (·.1) = false := by rfl) :
    DE X (.Call (.Name x p) (e :: es) [] pos) (dCall sp t) :=
  pe_weak (pe_callG F hr hgd hg hm hk hb pass0 ha hdb he hpl) fun σ H Q ⟨ρ, M, Q', r, m, h, k⟩ => ⟨ρ, M, _, r, m, h, fun vs H1 ds M1 fs s q => ⟨ds, M1, Q', X0, fs, s.mem, q, k.after s, fun _ _ _ _ _ _ _ z => z.elim⟩⟩
theorem de_call0 (F : FnD X.prog X.w X.K X.mg X.base CX0 k f fd ps sp) (hr : Room k X.A) (hgd : X.A.guards = some []) (hg : Gl X x) (hm : X.mg x = some (.ref f)) (hk : PySem.W.keepIn X.K (.ref f) = true) (hb : Binds X.K fd ps [])
    (hdb : (x == ("__debug__" : Str)) = false := by decide) : DE X (.Call (.Name x p) [] [] pos) (dCall sp dNil) :=
  pe_weak (pe_callG0 F hr hgd hg hm hk hb pass0 hdb) fun σ H Q ⟨ρ, M, Q', r, m, h, k⟩ => ⟨[], M, Q', X0, .nil, m, h, k, fun _ _ _ _ _ _ _ z => z.elim⟩
end

/-! ### the law -/
/-- at the law's call: the script is a list that nobody writes, nothing else is known -/
theorem law_G {P : Program} {w : World} {K : PySem.W.Frag} {mg mb : Str → Option Value} {CX : CXT} {k : Nat} {fa a : Addr} {fd : FuncData} {x : Str} {sp : SpD} {s₁ : Shared} {vs : List Value} {ns : List Int}
    (KX : K.In s₁.heap) (hns : s₁.heap.Ns mainGlobals mg) (hb : s₁.heap.Ns builtinsNs mb) (hbb : ∀ x : Str, x ≠ "__name__" → mb x = bootBuiltins x) (hlim : s₁.heap.NoLimit) (hg : s₁.gens = #[])
    (ha : s₁.heap.get? a = some { cls := .type "list", data := .seq vs.toArray }) (hi : IntsAre vs ns) (hl : ns.length ≤ sizeLine) (hr : Room k callerA)
    (F : ∀ base : Heap, K.In base → base.Ns mainGlobals mg → FnD P w K mg base CX k fa fd [x] sp) (hbind : ∀ (s : Shared) (u : Value), BindsTo s fd ⟨[u], []⟩ [(x, u)])
    (hsp : sp [.fl (ns.map D.int)] (fun _ => none) (fun d _ => d = .bl true) X0)
    (hCX : ∀ H e s', CX [] H s₁ (fun _ _ _ => False) e s' → False) :
    codeAny (model P w) callerA (.call (.ref fa) ⟨[.ref a], []⟩) (fun r s' => r = .ok (.ret (.bool true)) ∧ OldK s₁.heap s'.heap ∧ s'.os = s₁.os ∧ AllBare s'.gens) s₁ := by
  have lenV := hi.length
  have old : ∀ {Hh : Hp}, Fro K Hh a (ns.map V.int) → Fz K Hh (.ref a) (.fl (ns.map D.int)) := fun q => .fl q FzAll.of_ints
  -- the heap's abstract picture H tracks the script alone, or nothing
  have core : ∀ H : Hp, (∀ b u, H b = some u → b = a ∧ u = .frz { cls := .type "list", data := .seq vs.toArray } (.lst (ns.map V.int))) → Fro K H a (ns.map V.int) → HOk P w H s₁.heap → (H a ≠ none → K.lookup a = none) →
      codeAny (model P w) callerA (.call (.ref fa) ⟨[.ref a], []⟩) (fun r s' => r = .ok (.ret (.bool true)) ∧ OldK s₁.heap s'.heap ∧ s'.os = s₁.os ∧ AllBare s'.gens) s₁ := by
    intro H only hS hok noK
    have un : ∀ {b : Addr} {o : Obj}, s₁.heap.get? b = some o → (∀ its n, o.data ≠ .seq its n) → H b = none := fun {b o} e d => by
      cases q : H b with
      | none => rfl
      | some u =>
        obtain ⟨rfl, _⟩ := only b u q
        rw [ha] at e; cases e
        exact absurd rfl (d _ _)
    have inB : ∀ {b : Addr} {m : Str → Option Value}, s₁.heap.Ns b m → (hidT s₁.heap H).Ns b m := fun ⟨o, es, ep, e, d, r⟩ => ⟨o, es, ep, hidT_get e (un e fun its n z => by rw [d] at z; cases z), d, r⟩
    have kB : K.In (hidT s₁.heap H) := fun b o e => hidT_get (KX b o e) (by
      cases q : H b with
      | none => rfl
      | some u =>
        obtain ⟨rfl, _⟩ := only b u q
        rw [noK (by rw [q]; simp)] at e
        cases e)
    have md : Mod K mg (hidT s₁.heap H) := ⟨kB, inB hns, ⟨mb, inB hb, hbb⟩, let ⟨mc, h1, h2⟩ := hlim; ⟨mc, inB h1, h2⟩⟩
    have e0 : Env0 P w K mg (hidT s₁.heap H) callerA [] s₁ H := ⟨rfl, md, fun b o e => of_hidT e, Nat.le_of_eq (hidT_size _ _), trivial, fun b z => absurd (show b ∈ ([] : List Addr) from z) (by simp), hok, .of_eq hg⟩
    have mem0 : MemOk K H (fun _ => none) := fun b o e => by cases e
    refine codeAny_mono ((F _ kB (inB hns)).run callerA [] s₁ H ⟨[.ref a], []⟩ [.ref a] [.ref a] (fun v H' => v = .bl true ∧ ∀ b u, H b = some u → H' b = some u) (fun _ _ _ => False) hr rfl e0 (hbind s₁ (.ref a)) (.cons rfl .nil)
      ⟨_, _, _, _, .cons (old hS) .nil, mem0, hsp, fun v H' d M' f s q => ?_, fun _ _ _ _ _ _ _ z => z.elim⟩) fun r s' h => ?_
    · subst q
      cases f
      exact ⟨rfl, fun b u e => (s.fr b u e rfl).1⟩
    · match r, h with
      | .error e, h => exact (hCX H e s' h).elim
      | .ok (.ret u), h =>
        obtain ⟨v, H', os, bare, un', hok', r', q, kp⟩ := h
        subst q
        obtain rfl : u = Value.bool true := r'
        refine ⟨rfl, OldK.of_keep fun b o e => ?_, os, bare⟩
        cases q : H b with
        | none => exact un'.keep b o e q (by intro z; exact absurd (show b ∈ ([] : List Addr) from z) (by simp)) (by simp)
        | some u =>
          obtain ⟨rfl, rfl⟩ := only b u q
          obtain ⟨e1, _⟩ := hok b _ q
          obtain ⟨e2, _⟩ := hok' b _ (kp b _ q)
          rw [e] at e1; cases e1
          exact e2
  cases hk : K.lookup a with
  | some o =>
    have e := KX a o hk
    rw [ha] at e
    cases e
    exact core (fun _ => none) (fun b u z => by cases z) (.inr ⟨_, vs.toArray, _, hk, rfl, rfl, rfl, by rw [List.size_toArray, lenV]; exact hl, by simpa using vals_ints hi⟩) (fun b u z => by cases z) fun z => absurd rfl z
  | none =>
    refine core (fun b => if b = a then some (.frz { cls := .type "list", data := .seq vs.toArray } (.lst (ns.map V.int))) else none) (fun b u z => ?_) (.inl ⟨_, if_pos rfl⟩) (fun b u z => ?_) fun _ => hk
    · by_cases hb : b = a
      · rw [if_pos hb] at z
        exact ⟨hb, (Option.some.inj z).symm⟩
      · rw [if_neg hb] at z
        cases z
    · dsimp only at z
      by_cases hb : b = a
      · rw [if_pos hb] at z
        cases z
        subst hb
        exact ⟨ha, by rw [List.length_map]; exact hl, vs, _, vals_ints hi, ha⟩
      · rw [if_neg hb] at z
        cases z
theorem walk_G {l : PySem.W.OpenLaw} {n k : Nat} {q : Program} {loose : List Str} {XP : (Str → Option Value) → Heap → Prop} {YP : World → Heap → Prop} {d : DefRec} {K : Params → PySem.W.Frag} {CX : World → CXT} {sp : SpD} {x : Str}
    (hn : l.most = some n) (hn2 : n ≤ sizeLine) (hdf : d.params.defaults = []) (hr : Room k callerA)
    (hY : ∀ (w : World) (h : Heap), YP w h → (K w.params).In h)
    (F : ∀ (w : World) (mg : Str → Option Value) (fa : Addr) (h : Heap), (K w.params).In h → h.Ns mainGlobals mg → mg d.name = some (.ref fa) →
      ∃ fd : FuncData, (∀ (s : Shared) (u : Value), BindsTo s fd ⟨[u], []⟩ [(x, u)]) ∧
        ∀ base : Heap, (K w.params).In base → base.Ns mainGlobals mg → FnD l.prog w (K w.params) mg base (CX w) k fa fd [x] sp)
    (hsp : ∀ ns : List Int, ns.length ≤ n → sp [.fl (ns.map D.int)] (fun _ => none) (fun d _ => d = .bl true) X0)
    (hCX : ∀ (w : World) (H : Hp) (s : Shared) (e : Value) (s' : Shared), CX w [] H s (fun _ _ _ => False) e s' → False) :
    PySem.W.WalkO q loose XP YP l.row.toRowW d [] (fun f vs => PySem.call f vs) := by
  refine Att.attach_call hn hdf fun w s₀ s₁ mg mb fa o pm cd doc a vs ns G Y ho hd hcd hmg hobj hints hlen hg => ?_
  obtain ⟨fd, hb, hF⟩ := F w mg fa _ (hY w _ Y) G.T.g hmg
  exact law_G (hY w _ Y) G.T.g G.T.b G.T.builtins G.T.nolimit hg hobj hints (Nat.le_trans hlen hn2) hr hF hb (hsp ns hlen) fun H e s' => hCX w H s₁ e s'

/-! ### the module's constants -/
def KC (K : PySem.W.Frag) (mg : Str → Option Value) (x : Str) (d : D) : Prop := ∃ v u, mg x = some u ∧ RelV v u ∧ ∀ H, Fz K H v d
theorem de_k {X : Cx} {x : Str} {d : D} {pos : Pos} (c : KC X.K X.mg x d) (hg : Gl X x := by rfl) (hd : (x == ("__debug__" : Str)) = false := by decide) : DE X (.Name x pos) (dC d) := by
  obtain ⟨v, u, hm, r, f⟩ := c
  exact de_c (pe_glob hg hm r hd) f
theorem kc_int {K : PySem.W.Frag} {mg : Str → Option Value} {x : Str} {i : Int} {t : Tok} (h : mg x = some (.int i t)) : KC K mg x (.int i) := ⟨.int i, _, h, ⟨t, rfl⟩, fun H => .int i⟩
theorem kc_str {K : PySem.W.Frag} {mg : Str → Option Value} {x y : Str} {t : Tok} (h : mg x = some (.str y t)) : KC K mg x (.str y) := ⟨.str y, _, h, ⟨t, rfl⟩, fun H => .str y⟩
theorem kc_tup {K : PySem.W.Frag} {mg : Str → Option Value} {x : Str} {a : Addr} {its : Array Value} {n : Nat} {sl : Array (Option Value)} {vs : List V} {ds : List D} (h : mg x = some (.ref a)) (hl : K.lookup a = some ⟨.type "tuple", none, .seq its n, sl⟩) (hz : its.size ≤ sizeLine)
    (r : Vals vs its.toList) (f : ∀ H, FzAll K H vs ds) : KC K mg x (.tup ds) := ⟨.ref a, _, h, rfl, fun H => .tup (.inr ⟨_, its, n, hl, rfl, rfl, rfl, hz, r⟩) (f H)⟩

theorem ki_int : ∀ t : Tg, kitB t.nm Tg.int.nm = some (isI t .int) := by intro t; cases t <;> decide +kernel
theorem ki_bool : ∀ t : Tg, kitB t.nm Tg.bool.nm = some (isI t .bool) := by intro t; cases t <;> decide +kernel
theorem ki_str : ∀ t : Tg, kitB t.nm Tg.str.nm = some (isI t .str) := by intro t; cases t <;> decide +kernel
theorem ki_tuple : ∀ t : Tg, kitB t.nm Tg.tuple.nm = some (isI t .tuple) := by intro t; cases t <;> decide +kernel
theorem ki_list : ∀ t : Tg, kitB t.nm Tg.list.nm = some (isI t .list) := by intro t; cases t <;> decide +kernel
theorem ki_dict : ∀ t : Tg, kitB t.nm Tg.dict.nm = some (isI t .dict) := by intro t; cases t <;> decide +kernel
end DL

namespace DL
open PySem L2

/-! ### dicts -/
section
variable {κ : Type} [DecidableEq κ]
def valD (kvs : List (κ × D)) (k : κ) : Option D := (kvs.find? fun kv => decide (kv.1 = k)).map (·.2)
def putD (kvs : List (κ × D)) (k : κ) (v : D) : List (κ × D) :=
  if (kvs.any fun kv => decide (kv.1 = k)) = true then kvs.map (fun kv => if kv.1 = k then (kv.1, v) else kv) else kvs ++ [(k, v)]
variable {K : PySem.W.Frag} {H : Hp}
theorem val_fz {k : κ} : ∀ {xs : List (κ × V)} {kvs : List (κ × D)}, KFz K H xs kvs → (valD kvs k = none ∧ valV xs k = none) ∨ ∃ v d, valD kvs k = some d ∧ valV xs k = some v ∧ Fz K H v d
  | _, _, .nil => .inl ⟨rfl, rfl⟩
  | p :: xs, q :: kvs, .cons h t => by
    by_cases e : q.1 = k
    · refine .inr ⟨p.2, q.2, ?_, ?_, h.2⟩
      · unfold valD; rw [List.find?_cons, decide_eq_true e]; rfl
      · unfold valV; rw [List.find?_cons, decide_eq_true (h.1.trans e)]; rfl
    · have e' : ¬ p.1 = k := fun z => e (h.1.symm.trans z)
      have h1 : valD (q :: kvs) k = valD kvs k := by unfold valD; rw [List.find?_cons, decide_eq_false e]
      have h2 : valV (p :: xs) k = valV xs k := by unfold valV; rw [List.find?_cons, decide_eq_false e']
      rw [h1, h2]
      exact val_fz t
theorem any_fz {k : κ} : ∀ {xs : List (κ × V)} {kvs : List (κ × D)}, KFz K H xs kvs → (xs.any fun kv => decide (kv.1 = k)) = kvs.any fun kv => decide (kv.1 = k)
  | _, _, .nil => rfl
  | p :: xs, q :: kvs, .cons h t => by rw [List.any_cons, List.any_cons, any_fz t, h.1]
theorem map_fz {k : κ} {v : V} {d : D} (f : Fz K H v d) : ∀ {xs : List (κ × V)} {kvs : List (κ × D)}, KFz K H xs kvs → KFz K H (xs.map fun kv => if kv.1 = k then (kv.1, v) else kv) (kvs.map fun kv => if kv.1 = k then (kv.1, d) else kv)
  | _, _, .nil => .nil
  | p :: xs, q :: kvs, .cons h t => by
    rw [List.map_cons, List.map_cons]
    refine .cons ?_ (map_fz f t)
    by_cases e : q.1 = k
    · rw [if_pos e, if_pos (h.1.trans e)]
      exact ⟨h.1, f⟩
    · rw [if_neg e, if_neg fun z => e (h.1.symm.trans z)]
      exact h
theorem KFz.snoc {k : κ} {v : V} {d : D} (f : Fz K H v d) : ∀ {xs : List (κ × V)} {kvs : List (κ × D)}, KFz K H xs kvs → KFz K H (xs ++ [(k, v)]) (kvs ++ [(k, d)])
  | _, _, .nil => .cons ⟨rfl, f⟩ .nil
  | _, _, .cons h t => .cons h (KFz.snoc f t)
theorem put_fz {k : κ} {v : V} {d : D} (f : Fz K H v d) {xs : List (κ × V)} {kvs : List (κ × D)} (h : KFz K H xs kvs) : KFz K H (putK xs k v) (putD kvs k d) := by
  unfold putK putD
  rw [any_fz h]
  split
  · exact map_fz f h
  · exact KFz.snoc f h
theorem KFz.length {xs : List (κ × V)} {kvs : List (κ × D)} (h : KFz K H xs kvs) : xs.length = kvs.length := Paired.length h
end
def keyOf : D → Option Key
  | .int i => some (.inl i)
  | .str s => some (.inr s)
  | _ => none
theorem key_fz {K : PySem.W.Frag} {H : Hp} {v : V} {d : D} {k : Key} (f : Fz K H v d) (h : keyOf d = some k) : v = kV k := by
  cases d with
  | int i => cases f; cases h; rfl
  | str s => cases f; cases h; rfl
  | _ => cases h
def mergeD (kvs more : List (Key × D)) : List (Key × D) := more.foldl (fun acc kv => putD acc kv.1 kv.2) kvs
theorem merge_fz {K : PySem.W.Frag} {H : Hp} : ∀ {xs : List (Key × V)} {kvs : List (Key × D)}, KFz K H xs kvs → ∀ {ys : List (Key × V)} {ls : List (Key × D)}, KFz K H ys ls → KFz K H (mergeK ys xs) (mergeD ls kvs)
  | _, _, .nil, _, _, h => h
  | p :: xs, q :: kvs, .cons h t, ys, ls, g => by
    obtain ⟨p1, p2⟩ := p
    obtain ⟨q1, q2⟩ := q
    obtain rfl : p1 = q1 := h.1
    exact merge_fz t (put_fz h.2 g)
def dPairs : List (TED × TED) → DSt → Mp → (List (Key × D) → Mp → Prop) → Prop
  | [], _, M, Q => Q [] M
  | (tk, tv) :: r, ρ, M, Q => tk ρ M fun k M1 => tv ρ M1 fun v M2 => match keyOf k with
    | some key => dPairs r ρ M2 fun kvs M3 => Q ((key, v) :: kvs) M3
    | none => False
def dDisp (trs : List (TED × TED)) : TED := fun ρ M Q => dPairs trs ρ M fun kvs M2 => kvs.length ≤ 15 ∧ ∀ p, M2 p = none → Q (.ref p) (updM M2 p (.dct (mergeD [] kvs)))
def dEmpty : TED := fun _ M Q => ∀ p, M p = none → Q (.ref p) (updM M p (.dct []))
structure DPs (X : Cx) (pos : Pos) (keys : List (Option Expr)) (values : List Expr) (trs : List (TED × TED)) : Prop where
  ps : PPs X pos keys values (trs.map fun p => (upE X.K p.1, upE X.K p.2))
section
variable {X : Cx} {pos : Pos} {k v : Expr} {ks : List (Option Expr)} {vs : List Expr} {tk tv : TED} {trs : List (TED × TED)}
theorem dps_nil : DPs X pos [] [] [] := ⟨pps_nil⟩
theorem dps_cons (hk : DE X k tk) (hv : DE X v tv) (hr : DPs X pos ks vs trs) : DPs X pos (some k :: ks) (v :: vs) ((tk, tv) :: trs) := ⟨pps_cons hk hv hr.ps⟩
theorem up_pairs {K : PySem.W.Frag} {σ : St} {ρ : DSt} : ∀ (trs : List (TED × TED)) (H : Hp) (M : Mp) (Q' : List (Key × D) → Mp → Prop) (Q : List (V × V) → Hp → Prop), RelS K H σ ρ → MemOk K H M → dPairs trs ρ M Q' →
    (∀ xs kvs H' M', KFz K H' xs kvs → Step K H M H' M' → Q' kvs M' → Q (xs.map fun kv => (kV kv.1, kv.2)) H') → tPairs (trs.map fun p => (upE K p.1, upE K p.2)) σ H Q
  | [], H, M, Q', Q, r, m, h, k => k [] [] H M .nil (.refl m) h
  | (tk, tv) :: trs, H, M, Q', Q, r, m, h, k => by
    refine ⟨ρ, M, _, r, m, h, fun vk H1 dk M1 fk s1 h1 => ⟨ρ, M1, _, r.up s1.tups, s1.mem, h1, fun vv H2 dv M2 fv s2 h2 => ?_⟩⟩
    cases e : keyOf dk with
    | none => rw [e] at h2; exact h2.elim
    | some key =>
      rw [e] at h2
      obtain rfl : vk = kV key := key_fz fk e
      exact up_pairs trs H2 M2 _ _ ((r.up s1.tups).up s2.tups) s2.mem h2 fun xs kvs H' M' f s h' => k ((key, vv) :: xs) ((key, dv) :: kvs) H' M' (.cons ⟨rfl, fv.up s.tups⟩ f) ((s1.trans s2).trans s) h'
theorem de_dict (h : DPs X pos ks vs trs) (hall : ks.all (·.isSome) = true := by rfl) (hl : ks.length = vs.length := by rfl) (h0 : ks ≠ [] := by exact fun z => nomatch z) (h15 : ks.length ≤ 15 := by decide) : DE X (.Dict ks vs pos) (dDisp trs) :=
  pe_weak (pe_disp h.ps hall hl h0 h15) fun σ H Q ⟨ρ, M, Q', r, m, h, k⟩ p hp => by
    have s0 := Step.newT (u := .dK []) m hp
    refine up_pairs trs _ M _ _ (r.up s0.tups) s0.mem h fun xs kvs H' M' f s ⟨h15, q⟩ => ?_
    have st := s.fr p _ upd_same (m.none hp)
    refine ⟨st.1, xs, rfl, by rw [f.length]; exact h15, ?_⟩
    have mm : MemOk X.K H' (updM M' p (.dct [])) := fun a o e => by
      by_cases ha : a = p
      · subst ha
        rw [updM_same] at e
        cases e
        exact ⟨_, st.1, [], rfl, .nil⟩
      · rw [updM_ne ha] at e
        exact s.mem a o e
    have w := Step.wr (u := .dK (mergeK [] xs)) (o := .dct (mergeD [] kvs)) mm updM_same (fun z => by cases z) (show MoOk X.K H' (.dK (mergeK [] xs)) (.dct (mergeD [] kvs)) from ⟨_, rfl, merge_fz f .nil⟩)
    rw [updM_upd] at w
    refine k _ _ _ _ (.ref p) ⟨w.mem, (s0.tups.trans s.tups).trans w.tups, fun a u e n => ?_⟩ (q p st.2)
    have ne : a ≠ p := ne_of_none e hp
    have q1 := s.fr a u (by rw [upd_ne ne]; exact e) n
    exact ⟨by rw [upd_ne ne]; exact q1.1, by rw [updM_ne ne]; exact q1.2⟩
theorem de_dict0 : DE X (.Dict [] [] pos) dEmpty :=
  pe_weak pe_dnewK fun σ H Q ⟨ρ, M, Q', r, m, h, k⟩ p hp => k _ _ _ _ (.ref p) (.newM m hp (show MoOk X.K H (.dK []) (.dct []) from ⟨[], rfl, .nil⟩)) (h p (m.none hp))
/-- d[k], keys whole numbers and texts -/
def dDix (td ti : TED) : TED := fun ρ M Q => td ρ M fun d M1 => ti ρ M1 fun i M2 => match d, keyOf i with
  | .ref p, some k => ∃ kvs, M2 p = some (.dct kvs) ∧ ixQ (valD kvs k) M2 Q
  | _, _ => False
variable {o i : Expr} {to ti : TED}
theorem MemOk.dct {K : PySem.W.Frag} {H : Hp} {M : Mp} {p : Addr} {kvs : List (Key × D)} (m : MemOk K H M) (h : M p = some (.dct kvs)) : ∃ xs, H p = some (.dK xs) ∧ KFz K H xs kvs := by
  obtain ⟨u, q, xs, rfl, f⟩ := m p _ h
  exact ⟨xs, q, f⟩
theorem de_dix (hu : X.A.units + 1 < cLine) (ho : DE X o to) (hi : DE X i ti) (hs : NoSl i) : DE X (.Subscript o i pos) (dDix to ti) :=
  pe_weak (pe_dget hu ho hi hs) fun σ H Q ⟨ρ, M, Q', r, m, h, k⟩ => ⟨ρ, M, _, r, m, h, fun vo H1 d M1 fo s1 q1 => ⟨ρ, M1, _, r.up s1.tups, s1.mem, q1, fun vi H2 e M2 fi s2 q2 => by
    cases d with
    | ref p =>
      cases fo
      cases ek : keyOf e with
      | none => rw [ek] at q2; exact q2.elim
      | some key =>
        rw [ek] at q2
        obtain ⟨kvs, hp, q3⟩ := q2
        obtain ⟨x, ex, q3⟩ := ixQ_some q3
        obtain ⟨xs, e2, f⟩ := s2.mem.dct hp
        obtain rfl := key_fz fi ek
        rcases val_fz (k := key) f with ⟨z, _⟩ | ⟨v, d, z1, z2, g⟩
        · rw [z] at ex; cases ex
        · rw [z1] at ex; cases ex
          exact ⟨p, v, rfl, by rw [← z2]; exact .k e2, ((k.after s1).after s2).val s2.mem g q3⟩
    | _ => exact q2.elim⟩⟩
/-- d[k] = v -/
def rSetDX : TSetD := fun o i v M Q => match o, keyOf i with
  | .ref p, some k => ∃ kvs, M p = some (.dct kvs) ∧ kvs.length < sizeLine ∧ Q (updM M p (.dct (putD kvs k v)))
  | _, _ => False
theorem st_dict (hu : X.A.units + 1 < cLine) : StR X rSetDX := by
  refine ⟨_, set_dict hu, fun H M vo vi vv o i v Q' Q fo fi fv m h k => ?_⟩
  unfold rSetDX at h
  split at h
  · rename_i p key ek
    obtain ⟨kvs, hp, hz, q⟩ := h
    cases fo
    obtain rfl := key_fz fi ek
    obtain ⟨xs, e, f⟩ := m.dct hp
    exact ⟨p, _, rfl, .k e (by rw [f.length]; exact hz), k _ _ (.wr m hp (fun z => by cases z) (show MoOk X.K H (.dK (putK xs key vv)) (.dct (putD kvs key v)) from ⟨_, rfl, put_fz fv f⟩)) q⟩
  · exact h.elim
/-- k in d -/
def dDin (neg : Bool) (ti td : TED) : TED := fun ρ M Q => ti ρ M fun i M1 => td ρ M1 fun d M2 => match d, keyOf i with
  | .ref p, some k => ∃ kvs, M2 p = some (.dct kvs) ∧ Q (.bl (sg neg (valD kvs k).isSome)) M2
  | _, _ => False
theorem up_din {K : PySem.W.Frag} {neg : Bool} (σ : St) (H : Hp) (Q : VK) (h : upE K (dDin neg ti to) σ H Q) :
    (upE K ti) σ H fun y H1 => (upE K to) σ H1 fun x H2 => ∃ a ov, x = .ref a ∧ DGet H2 a y ov ∧ Q (.bl (sg neg ov.isSome)) H2 := by
  obtain ⟨ρ, M, Q', r, m, h, k⟩ := h
  refine ⟨ρ, M, _, r, m, h, fun vi H1 e M1 fi s1 q1 => ⟨ρ, M1, _, r.up s1.tups, s1.mem, q1, fun vo H2 d M2 fo s2 q2 => ?_⟩⟩
  cases d with
  | ref p =>
    cases fo
    cases ek : keyOf e with
    | none => rw [ek] at q2; exact q2.elim
    | some key =>
      rw [ek] at q2
      obtain ⟨kvs, hp, q3⟩ := q2
      obtain ⟨xs, e2, f⟩ := s2.mem.dct hp
      obtain rfl := key_fz fi ek
      refine ⟨p, valV xs key, rfl, .k e2, ?_⟩
      rcases val_fz (k := key) f with ⟨z1, z2⟩ | ⟨v, d, z1, z2, g⟩
      · rw [z2]; rw [z1] at q3; exact ((k.after s1).after s2).val s2.mem (.bl _) q3
      · rw [z2]; rw [z1] at q3; exact ((k.after s1).after s2).val s2.mem (.bl _) q3
  | _ => exact q2.elim
theorem de_din (hu : X.A.units + 1 < cLine) (hi : DE X i ti) (ho : DE X o to) (hm : behindInMarks .In o = false := by with_unfolding_all rfl) : DE X (.Compare i [.In] [o] pos) (dDin false ti to) := pe_weak (pe_cmp (pc_din hu hi ho) hm) up_din
theorem de_dnotin (hu : X.A.units + 1 < cLine) (hi : DE X i ti) (ho : DE X o to) (hm : behindInMarks .NotIn o = false := by with_unfolding_all rfl) : DE X (.Compare i [.NotIn] [o] pos) (dDin true ti to) := pe_weak (pe_cmp (pc_dnotin hu hi ho) hm) up_din
theorem dt_din (hu : X.A.units + 1 < cLine) (hi : DE X i ti) (ho : DE X o to) (hm : behindInMarks .In o = false := by with_unfolding_all rfl) : DT X (.Compare i [.In] [o] pos) (dTest (dDin false ti to)) :=
  pt_weak (pt_cmp (pc_din hu hi ho) hm) fun σ H Q q => up_din (neg := false) σ H _ (up_test σ H Q q)
theorem dt_dnotin (hu : X.A.units + 1 < cLine) (hi : DE X i ti) (ho : DE X o to) (hm : behindInMarks .NotIn o = false := by with_unfolding_all rfl) : DT X (.Compare i [.NotIn] [o] pos) (dTest (dDin true ti to)) :=
  pt_weak (pt_cmp (pc_dnotin hu hi ho) hm) fun σ H Q q => up_din (neg := true) σ H _ (up_test σ H Q q)
end

theorem fnD_no {P : Program} {w : World} {K : PySem.W.Frag} {mg : Str → Option Value} {base : Heap} {CX : CXT} {k : Nat} {f : Addr} {fd : FuncData} {ps : List Str} {sp : SpD} (h : ∀ ds M Q E, ¬ sp ds M Q E) : FnD P w K mg base CX k f fd ps sp :=
  ⟨fun vs H Q E ⟨_, _, _, _, _, _, z, _⟩ => (h _ _ _ _ z).elim, fun _ _ _ _ _ _ _ _ _ _ _ _ _ _ ⟨_, _, _, _, _, _, z, _⟩ => (h _ _ _ _ z).elim⟩
end DL

/-! Data of whole numbers: what repr and == ask of them; the law's source of numbers. -/
namespace DL
open PySem L2

structure Sm (d w : Nat) (p : PyData) : Prop where
  lay : p.canLay0 = true
  shrt : p.intsShort 13 = true
  see : p.showable = true
  dep : p.depth ≤ d
  wt : p.weight ≤ w
theorem log2_lt {n k : Nat} (hk : 0 < k) (h : n < 2 ^ k) : n.log2 < k := by
  by_cases h0 : n = 0
  · subst h0
    rw [show Nat.log2 0 = 0 from by decide +kernel]
    exact hk
  · exact (Nat.log2_lt h0).mpr h
theorem Sm.int {i : Int} (h : i.natAbs < 4096) : Sm 0 12 (.int i) := by
  have l := log2_lt (n := i.natAbs) (k := 12) (by decide) h
  refine ⟨rfl, ?_, ?_, Nat.le_refl _, ?_⟩
  · simpa [PyData.intsShort] using PyData.shown_int_le2 (i := i) (by omega) (by omega)
  · simp only [PyData.showable, decide_eq_true_eq]
    omega
  · show (if i == 0 then 0 else i.natAbs.log2 + 1) ≤ 12
    split <;> omega
theorem Sm.bool {b : Bool} : Sm 0 0 (.bool b) := ⟨rfl, rfl, rfl, Nat.le_refl _, Nat.le_refl _⟩
theorem Sm.none : Sm 0 0 .none := ⟨rfl, rfl, rfl, Nat.le_refl _, Nat.le_refl _⟩
theorem Sm.mono {d w d' w' : Nat} {p : PyData} (s : Sm d w p) (h : d ≤ d') (h' : w ≤ w') : Sm d' w' p := ⟨s.lay, s.shrt, s.see, Nat.le_trans s.dep h, Nat.le_trans s.wt h'⟩
theorem sm_all {d w : Nat} : ∀ {ps : List PyData}, (∀ p ∈ ps, Sm d w p) → PyData.canLayAll0 ps = true ∧ PyData.intsShortAll 13 ps = true ∧ PyData.showableAll ps = true ∧ PyData.depthAll ps ≤ d ∧ PyData.weightAll ps ≤ ps.length * (w + 1)
  | [], _ => ⟨rfl, rfl, rfl, Nat.zero_le _, Nat.zero_le _⟩
  | p :: ps, h => by
    obtain ⟨a, b, c, e, f⟩ := sm_all (ps := ps) fun q hq => h q (List.mem_cons_of_mem _ hq)
    have s := h p List.mem_cons_self
    refine ⟨by simp [PyData.canLayAll0, s.lay, a], by simp [PyData.intsShortAll, s.shrt, b], by simp [PyData.showableAll, s.see, c], ?_, ?_⟩
    · simp only [PyData.depthAll]
      exact Nat.max_le.mpr ⟨s.dep, e⟩
    · simp only [PyData.weightAll, List.length_cons, Nat.succ_mul]
      have := s.wt
      omega
theorem Sm.tuple {d w : Nat} {ps : List PyData} (h : ∀ p ∈ ps, Sm d w p) : Sm (d + 1) (ps.length * (w + 1)) (.tuple ps) := by
  obtain ⟨a, b, c, e, f⟩ := sm_all h
  exact ⟨by simpa [PyData.canLay0] using a, by simpa [PyData.intsShort] using b, by simpa [PyData.showable] using c, by simp only [PyData.depth]; omega, by simpa only [PyData.weight] using f⟩
theorem Sm.list {d w : Nat} {ps : List PyData} (h : ∀ p ∈ ps, Sm d w p) : Sm (d + 1) (ps.length * (w + 1)) (.list ps) := by
  obtain ⟨a, b, c, e, f⟩ := sm_all h
  exact ⟨by simpa [PyData.canLay0] using a, by simpa [PyData.intsShort] using b, by simpa [PyData.showable] using c, by simp only [PyData.depth]; omega, by simpa only [PyData.weight] using f⟩
theorem Sm.shw {d w : Nat} {p : PyData} (s : Sm d w p) (hd : d ≤ 64) (hw : w ≤ 1048576) : Shw p := by
  refine ⟨s.see, Nat.le_trans s.dep (by omega), Nat.le_trans (PyData.shown_le_of_layable0 ?_ s.shrt) (by decide)⟩
  simp only [PyData.layable0, Bool.and_eq_true, decide_eq_true_eq]
  exact ⟨⟨s.lay, Nat.le_trans s.dep hd⟩, Nat.le_trans s.wt hw⟩
theorem Sm.shaped {d w : Nat} {p : PyData} (s : Sm d w p) (hd : d ≤ 64) : SeqAt.shaped p = true := by
  simp only [SeqAt.shaped, Bool.and_eq_true, decide_eq_true_eq]
  exact ⟨s.lay, Nat.le_trans s.dep hd⟩

/-! ### tuples of whole numbers, tables -/
abbrev dI (ns : List Int) : D := .tup (ns.map D.int)
abbrev pI (ns : List Int) : PyData := .tuple (ns.map PyData.int)
abbrev pLI (ns : List Int) : PyData := .list (ns.map PyData.int)
abbrev dII (t : List (List Int)) : D := .tup (t.map dI)
abbrev pII (t : List (List Int)) : PyData := .tuple (t.map pI)
theorem rdm_ints {M : Mp} : ∀ ns : List Int, RdmAll M (ns.map D.int) (ns.map PyData.int)
  | [] => .nil
  | _ :: ns => .cons (.int _) (rdm_ints ns)
theorem rdm_bls {M : Mp} : ∀ ns : List Bool, RdmAll M (ns.map D.bl) (ns.map PyData.bool)
  | [] => .nil
  | _ :: ns => .cons (.bl _) (rdm_bls ns)
theorem rdm_I {M : Mp} (ns : List Int) : Rdm M (dI ns) (pI ns) := .tup (rdm_ints ns)
theorem rdm_LI {M : Mp} {a : Addr} {ns : List Int} (h : M a = some (.lst (ns.map D.int))) : Rdm M (.ref a) (pLI ns) := .lst h (rdm_ints ns)
theorem rdm_IIs {M : Mp} : ∀ t : List (List Int), RdmAll M (t.map dI) (t.map pI)
  | [] => .nil
  | r :: t => .cons (rdm_I r) (rdm_IIs t)
theorem rdm_II {M : Mp} (t : List (List Int)) : Rdm M (dII t) (pII t) := .tup (rdm_IIs t)
theorem sm_I {ns : List Int} (h : ∀ i ∈ ns, i.natAbs < 4096) : Sm 1 (ns.length * 13) (pI ns) := by
  have := Sm.tuple (d := 0) (w := 12) (ps := ns.map PyData.int) fun p hp => by
    obtain ⟨i, hi, rfl⟩ := List.mem_map.mp hp
    exact .int (h i hi)
  simpa using this
theorem sm_LI {ns : List Int} (h : ∀ i ∈ ns, i.natAbs < 4096) : Sm 1 (ns.length * 13) (pLI ns) := by
  have := Sm.list (d := 0) (w := 12) (ps := ns.map PyData.int) fun p hp => by
    obtain ⟨i, hi, rfl⟩ := List.mem_map.mp hp
    exact .int (h i hi)
  simpa using this
theorem sm_II {t : List (List Int)} {n : Nat} (h : ∀ r ∈ t, r.length ≤ n ∧ ∀ i ∈ r, i.natAbs < 4096) : Sm 2 (t.length * (n * 13 + 1)) (pII t) := by
  have := Sm.tuple (d := 1) (w := n * 13) (ps := t.map pI) fun p hp => by
    obtain ⟨r, hr, rfl⟩ := List.mem_map.mp hp
    exact (sm_I (h r hr).2).mono (Nat.le_refl _) (Nat.mul_le_mul_right 13 (h r hr).1)
  simpa using this
theorem eqv_ints : ∀ xs ys : List Int, PyData.eqvAll (xs.map .int) (ys.map .int) = decide (xs = ys)
  | [], [] => by simp [PyData.eqvAll]
  | [], _ :: _ => by simp [PyData.eqvAll]
  | _ :: _, [] => by simp [PyData.eqvAll]
  | x :: xs, y :: ys => by
    simp only [List.map_cons, PyData.eqvAll, PyData.eqv, eqv_ints xs ys, List.cons.injEq]
    by_cases h : x = y <;> by_cases h' : xs = ys <;> simp [h, h']
theorem eqv_I (xs ys : List Int) : PyData.eqv (pI xs) (pI ys) = decide (xs = ys) := by
  simp only [PyData.eqv, eqv_ints]
theorem eqv_LI (xs ys : List Int) : PyData.eqv (pLI xs) (pLI ys) = decide (xs = ys) := by
  simp only [PyData.eqv, eqv_ints]
theorem eqv_IIs : ∀ xs ys : List (List Int), PyData.eqvAll (xs.map pI) (ys.map pI) = decide (xs = ys)
  | [], [] => by simp [PyData.eqvAll]
  | [], _ :: _ => by simp [PyData.eqvAll]
  | _ :: _, [] => by simp [PyData.eqvAll]
  | x :: xs, y :: ys => by
    simp only [List.map_cons, PyData.eqvAll, eqv_I, eqv_IIs xs ys, List.cons.injEq]
    by_cases h : x = y <;> by_cases h' : xs = ys <;> simp [h, h']
theorem eqv_II (xs ys : List (List Int)) : PyData.eqv (pII xs) (pII ys) = decide (xs = ys) := by
  simp only [PyData.eqv, eqv_IIs]

/-! ### the law's source of numbers -/
def Bag (M : Mp) (l : Addr) : Prop := ∃ g s c : Int, M l = some (.lst [.int g, .int s, .int c]) ∧ 0 ≤ s ∧ s < 2 ^ 62
def Ext (l : Addr) (M M' : Mp) : Prop := ∀ b o, b ≠ l → M b = some o → M' b = some o
theorem Ext.refl {l : Addr} {M : Mp} : Ext l M M := fun _ _ _ h => h
theorem Ext.trans {l : Addr} {M M1 M2 : Mp} (a : Ext l M M1) (b : Ext l M1 M2) : Ext l M M2 := fun x o n h => b x o n (a x o n h)
theorem Ext.upd {l : Addr} {M : Mp} {o : MO} : Ext l M (updM M l o) := fun b o' n h => by rw [updM_ne n]; exact h
theorem Ext.new {l p : Addr} {M : Mp} {o : MO} (h : M p = none) : Ext l M (updM M p o) := fun b o' n e => by rw [updM_ne (ne_none e h)]; exact e
theorem Bag.some {M : Mp} {l : Addr} (h : Bag M l) : ∃ o, M l = some o := let ⟨_, _, _, e, _⟩ := h; ⟨_, e⟩
theorem Bag.ne {M : Mp} {l p : Addr} (h : Bag M l) (hp : M p = none) : l ≠ p := let ⟨_, e⟩ := h.some; ne_none e hp
theorem Bag.upd {M : Mp} {l p : Addr} {o : MO} (h : Bag M l) (hp : l ≠ p) : Bag (updM M p o) l := let ⟨g, s, c, e, r⟩ := h; ⟨g, s, c, by rw [updM_ne hp]; exact e, r⟩
theorem Bag.new {M : Mp} {l p : Addr} {o : MO} (h : Bag M l) (hp : M p = none) : Bag (updM M p o) l := h.upd (h.ne hp)
/-- 0, 1, .. n - 1 -/
def rg (n : Nat) : List Int := (List.range n).map fun (i : Nat) => (i : Int)
theorem rg_mem {n : Nat} {i : Int} : i ∈ rg n ↔ 0 ≤ i ∧ i < n := by
  unfold rg
  simp only [List.mem_map, List.mem_range]
  exact ⟨fun ⟨k, h, e⟩ => by omega, fun h => ⟨i.toNat, by omega, by omega⟩⟩
theorem rg_length {n : Nat} : (rg n).length = n := by simp [rg]
theorem rg_nodup {n : Nat} : (rg n).Nodup := by
  unfold rg List.Nodup
  rw [List.pairwise_map]
  exact List.Pairwise.imp (fun h e => h (by omega)) (List.nodup_range (n := n))
theorem rgD_rg {n : Int} : rgD 0 n = (rg n.toNat).map D.int := by
  unfold rgD rg
  simp [List.map_map, Function.comp_def]
end DL

/-! Plain laws of permutations and tables. -/
namespace DL
open PySem L2

theorem perm_of : ∀ {l m : List Int}, l.Nodup → (∀ x ∈ l, x ∈ m) → l.length = m.length → l.Perm m
  | [], m, _, _, h => by
    cases m with
    | nil => exact .nil
    | cons _ _ => cases h
  | x :: l, m, hn, hs, hl => by
    have hx := hs x List.mem_cons_self
    have hn' := List.nodup_cons.mp hn
    have p := List.perm_cons_erase hx
    refine .trans (.cons x (perm_of hn'.2 (fun y hy => ?_) ?_)) p.symm
    · have : y ≠ x := fun e => hn'.1 (e ▸ hy)
      exact (List.mem_erase_of_ne this).mpr (hs y (List.mem_cons_of_mem _ hy))
    · have := p.length_eq
      simp only [List.length_cons] at this hl
      omega
theorem er_perm : ∀ {l : List Int} {k : Nat} {x : Int}, l[k]? = some x → (x :: l.eraseIdx k).Perm l
  | [], k, x, h => by simp at h
  | y :: l, 0, x, h => by
    have : y = x := by simpa using h
    subst this
    exact .refl _
  | y :: l, k + 1, x, h => by
    have := er_perm (l := l) (k := k) (x := x) (by simpa using h)
    rw [List.eraseIdx_cons_succ]
    exact (List.Perm.swap y x _).trans (.cons y this)
theorem mix_step {left found : List Int} {k : Nat} {x : Int} (h : left[k]? = some x) : (left.eraseIdx k ++ (found ++ [x])).Perm (left ++ found) := by
  have p := er_perm h
  have q : (left.eraseIdx k ++ (found ++ [x])).Perm (x :: (left.eraseIdx k ++ found)) := by
    rw [← List.append_assoc]
    exact List.perm_append_singleton _ _
  exact q.trans (p.append_right found)
theorem nodup_first {l : List Int} (h : l.Nodup) {j : Nat} {x : Int} (hj : l[j]? = some x) : ∀ n : Nat, n < j → l[n]? ≠ some x := by
  intro n hn e
  obtain ⟨h1, e1⟩ := List.getElem?_eq_some_iff.mp hj
  obtain ⟨h2, e2⟩ := List.getElem?_eq_some_iff.mp e
  exact List.pairwise_iff_getElem.mp h n j h2 h1 hn (by rw [e1, e2])
/-- the numbers of p, moved on by a -/
theorem shift_perm {p : List Int} {n : Nat} (hp : p.Perm (rg n)) (a : Int) : (p.map fun c => (a + c) % n).Perm (rg n) := by
  by_cases h0 : n = 0
  · subst h0
    have : p = [] := by simpa [rg] using hp
    subst this
    exact .refl _
  have hn : (0 : Int) < n := by omega
  refine perm_of ?_ (fun x hx => ?_) ?_
  · unfold List.Nodup
    rw [List.pairwise_map]
    have hnd : p.Nodup := hp.nodup_iff.mpr rg_nodup
    refine List.Pairwise.imp_of_mem (fun {x y} hx hy hne e => hne ?_) hnd
    have hx' := rg_mem.mp (hp.mem_iff.mp hx)
    have hy' := rg_mem.mp (hp.mem_iff.mp hy)
    have e1 := Int.emod_emod_of_dvd (a + x) (Int.dvd_refl (n : Int))
    have d1 := Int.emod_add_mul_ediv (a + x) n
    have d2 := Int.emod_add_mul_ediv (a + y) n
    rw [e] at d1
    have d3 : (n : Int) * ((a + x) / n) - n * ((a + y) / n) = x - y := by omega
    rw [← Int.mul_sub] at d3
    have lt1 : x - y < n := by omega
    have lt2 : -(n : Int) < x - y := by omega
    have z : (a + x) / n - (a + y) / n = 0 := by
      rcases Int.lt_trichotomy ((a + x) / n - (a + y) / n) 0 with h | h | h
      · have : (n : Int) * ((a + x) / n - (a + y) / n) ≤ n * (-1) := Int.mul_le_mul_of_nonneg_left (by omega) (by omega)
        omega
      · exact h
      · have : (n : Int) * 1 ≤ n * ((a + x) / n - (a + y) / n) := Int.mul_le_mul_of_nonneg_left (by omega) (by omega)
        omega
    rw [z] at d3
    omega
  · obtain ⟨c, _, rfl⟩ := List.mem_map.mp hx
    exact rg_mem.mpr ⟨Int.emod_nonneg _ (by omega), Int.emod_lt_of_pos _ hn⟩
  · rw [List.length_map, hp.length_eq]
/-- things by places that are a permutation -/
def at0 (l : List Int) (i : Int) : Int := l[i.toNat]?.getD 0
theorem at0_of {l : List Int} {i : Int} (h : 0 ≤ i) (h' : i < l.length) : l[i.toNat]? = some (at0 l i) := by
  have : i.toNat < l.length := by omega
  unfold at0
  rw [List.getElem?_eq_getElem this]
  rfl
theorem at0_rg {l : List Int} : (rg l.length).map (at0 l) = l := by
  apply List.ext_getElem?
  intro i
  by_cases h : i < l.length
  · simp [rg, at0, h]
  · rw [List.getElem?_eq_none (by simp [rg]; omega), List.getElem?_eq_none (by omega)]
theorem at0_perm {p l : List Int} {n : Nat} (hp : p.Perm (rg n)) (hl : l.length = n) : (p.map (at0 l)).Perm l := by
  subst hl
  exact (hp.map (at0 l)).trans (by rw [at0_rg])

/-! ### tables -/
def col (t : List (List Int)) (j : Nat) : List Int := t.map fun r => r[j]?.getD 0
structure IsTab (n : Nat) (t : List (List Int)) : Prop where
  len : t.length = n
  row : ∀ r ∈ t, r.Perm (rg n)
  col : ∀ j, j < n → (DL.col t j).Perm (rg n)
theorem IsTab.rlen {n : Nat} {t : List (List Int)} (h : IsTab n t) {r : List Int} (hr : r ∈ t) : r.length = n := by rw [(h.row r hr).length_eq, rg_length]
theorem IsTab.mem {n : Nat} {t : List (List Int)} (h : IsTab n t) {r : List Int} (hr : r ∈ t) {x : Int} (hx : x ∈ r) : 0 ≤ x ∧ x < n := rg_mem.mp ((h.row r hr).mem_iff.mp hx)
theorem IsTab.sm {n : Nat} {t : List (List Int)} (h : IsTab n t) (hn : n ≤ 100) : Sm 2 131000 (pII t) := by
  refine (sm_II (n := n) fun r hr => ⟨Nat.le_of_eq (h.rlen hr), fun i hi => ?_⟩).mono (Nat.le_refl _) ?_
  · have := h.mem hr hi
    omega
  · rw [h.len]
    have : n * (n * 13 + 1) ≤ 100 * (100 * 13 + 1) := Nat.mul_le_mul hn (by omega)
    omega
/-- rows and columns of a first table -/
def mkTab (n : Nat) (rows cols things : List Int) : List (List Int) := rows.map fun a => cols.map fun b => at0 things ((a + b) % n)
theorem mkTab_ok {n : Nat} {rows cols things : List Int} (hr : rows.Perm (rg n)) (hc : cols.Perm (rg n)) (ht : things.Perm (rg n)) : IsTab n (mkTab n rows cols things) := by
  have lr : rows.length = n := by rw [hr.length_eq, rg_length]
  have lc : cols.length = n := by rw [hc.length_eq, rg_length]
  have lt : things.length = n := by rw [ht.length_eq, rg_length]
  refine ⟨by simp [mkTab, lr], fun r h => ?_, fun j hj => ?_⟩
  · obtain ⟨a, _, rfl⟩ := List.mem_map.mp h
    have := at0_perm (shift_perm hc a) lt
    rw [List.map_map] at this
    exact this.trans ht
  · have e : col (mkTab n rows cols things) j = rows.map fun a => at0 things ((a + cols[j]) % n) := by
      unfold col mkTab
      rw [List.map_map]
      apply List.map_congr_left
      intro a _
      have hj' : j < cols.length := by omega
      simp [hj']
    rw [e]
    have := at0_perm (shift_perm hr cols[j]) lt
    rw [List.map_map] at this
    refine .trans (.of_eq ?_) (this.trans ht)
    apply List.map_congr_left
    intro a _
    simp only [Function.comp]
    rw [Int.add_comm]
/-- two entries of a list change places -/
theorem swap_perm {l : List Int} {i j : Nat} {a b : Int} (hi : l[i]? = some a) (hj : l[j]? = some b) (hij : i ≠ j) : ((l.set i b).set j a).Perm l := by
  obtain ⟨h1, e1⟩ := List.getElem?_eq_some_iff.mp hi
  obtain ⟨h2, e2⟩ := List.getElem?_eq_some_iff.mp hj
  rw [List.perm_iff_count]
  intro x
  have hl : j < (l.set i b).length := by rw [List.length_set]; exact h2
  rw [List.count_set hl, List.count_set h1]
  have e3 : (l.set i b)[j] = b := by rw [List.getElem_set_ne hij]; exact e2
  rw [e3, e1]
  have ca : (a == x) = true → 0 < l.count x := fun h => by
    have : a = x := by simpa using h
    exact List.count_pos_iff.mpr (this ▸ e1 ▸ List.getElem_mem h1)
  by_cases q : (a == x) = true
  · have := ca q
    simp only [q, if_true]
    by_cases w : (b == x) = true
    · simp only [w, if_true]
      omega
    · simp only [w]
      simp
      omega
  · simp only [q]
    by_cases w : (b == x) = true
    · simp only [w, if_true]
      simp
    · simp only [w]
      simp
theorem at_same {l : List Int} {i : Nat} {a : Int} (h : l[i]? = some a) : l.set i a = l := by
  obtain ⟨h1, e1⟩ := List.getElem?_eq_some_iff.mp h
  rw [← e1, List.set_getElem_self]
theorem col_set {t : List (List Int)} {i : Nat} {r : List Int} {j : Nat} : col (t.set i r) j = (col t j).set i (r[j]?.getD 0) := by
  unfold col
  rw [List.map_set]
theorem col_at {t : List (List Int)} {i j : Nat} {r : List Int} (h : t[i]? = some r) : (col t j)[i]? = some (r[j]?.getD 0) := by
  unfold col
  rw [List.getElem?_map, h]
  rfl
/-- the change in a table that keeps it one -/
def swapT (t : List (List Int)) (r1 r2 : List Int) (one other left right : Nat) (a b : Int) : List (List Int) := (t.set one ((r1.set left b).set right a)).set other ((r2.set left a).set right b)
theorem swapT_ok {n : Nat} {t : List (List Int)} (h : IsTab n t) {r1 r2 : List Int} {one other left right : Nat} {a b : Int} (ho : one ≠ other) (hl : left ≠ right) (e1 : t[one]? = some r1) (e2 : t[other]? = some r2)
    (a1 : r1[left]? = some a) (b1 : r1[right]? = some b) (b2 : r2[left]? = some b) (a2 : r2[right]? = some a) : IsTab n (swapT t r1 r2 one other left right a b) := by
  have m1 := List.mem_of_getElem? e1
  have m2 := List.mem_of_getElem? e2
  refine ⟨by simp [swapT, h.len], fun r hr => ?_, fun j hj => ?_⟩
  · unfold swapT at hr
    rcases List.mem_or_eq_of_mem_set hr with hr | rfl
    · rcases List.mem_or_eq_of_mem_set hr with hr | rfl
      · exact h.row r hr
      · exact (swap_perm a1 b1 hl).trans (h.row _ m1)
    · exact (swap_perm b2 a2 hl).trans (h.row _ m2)
  · unfold swapT
    rw [col_set, col_set]
    have c1 := col_at (j := j) e1
    have c2 := col_at (j := j) e2
    by_cases hjl : j = left
    · subst hjl
      have z1 : ((r1.set j b).set right a)[j]?.getD 0 = b := by
        rw [List.getElem?_set_ne (Ne.symm hl), List.getElem?_set_self (List.getElem?_eq_some_iff.mp a1).1]; rfl
      have z2 : ((r2.set j a).set right b)[j]?.getD 0 = a := by
        rw [List.getElem?_set_ne (Ne.symm hl), List.getElem?_set_self (List.getElem?_eq_some_iff.mp b2).1]; rfl
      rw [z1, z2]
      rw [a1] at c1
      rw [b2] at c2
      exact (swap_perm c1 c2 ho).trans (h.col j hj)
    · by_cases hjr : j = right
      · subst hjr
        have z1 : ((r1.set left b).set j a)[j]?.getD 0 = a := by
          rw [List.getElem?_set_self (by rw [List.length_set]; exact (List.getElem?_eq_some_iff.mp b1).1)]; rfl
        have z2 : ((r2.set left a).set j b)[j]?.getD 0 = b := by
          rw [List.getElem?_set_self (by rw [List.length_set]; exact (List.getElem?_eq_some_iff.mp a2).1)]; rfl
        rw [z1, z2]
        rw [b1] at c1
        rw [a2] at c2
        exact (swap_perm c1 c2 ho).trans (h.col j hj)
      · have z1 : ((r1.set left b).set right a)[j]?.getD 0 = r1[j]?.getD 0 := by
          rw [List.getElem?_set_ne (Ne.symm hjr), List.getElem?_set_ne (Ne.symm hjl)]
        have z2 : ((r2.set left a).set right b)[j]?.getD 0 = r2[j]?.getD 0 := by
          rw [List.getElem?_set_ne (Ne.symm hjr), List.getElem?_set_ne (Ne.symm hjl)]
        rw [z1, z2, at_same c1, at_same c2]
        exact h.col j hj

/-! ### places -/
theorem ixN_nn {n : Nat} {k : Int} (h : 0 ≤ k) (h' : k < n) : ixN n k = some k.toNat := by
  unfold ixN
  rw [if_pos h, if_pos h']
theorem atI_nn {α : Type} {ds : List α} {k : Int} (h : 0 ≤ k) (h' : k < ds.length) : atI ds k = ds[k.toNat]? := by
  unfold atI
  rw [ixN_nn h h']
  rfl
theorem atI_mem {α : Type} {ds : List α} {k : Int} (h : 0 ≤ k) (h' : k < ds.length) : ∃ d, d ∈ ds ∧ atI ds k = some d := by
  have : k.toNat < ds.length := by omega
  refine ⟨ds[k.toNat], List.getElem_mem this, ?_⟩
  rw [atI_nn h h', List.getElem?_eq_getElem this]
theorem atI_last {α : Type} {ds : List α} {d : α} : atI (ds ++ [d]) (-1) = some d := by
  unfold atI ixN
  rw [if_neg (by decide)]
  simp only [List.length_append, List.length_cons, List.length_nil]
  rw [if_pos (by omega)]
  have e : ((-1 : Int) + ((ds.length + (0 + 1) : Nat) : Int)).toNat = ds.length := by omega
  show (ds ++ [d])[((-1 : Int) + ((ds.length + (0 + 1) : Nat) : Int)).toNat]? = some d
  rw [e, List.getElem?_append_right (Nat.le_refl _)]
  simp
theorem atI_map {α β : Type} {f : α → β} {l : List α} {k : Int} : atI (l.map f) k = (atI l k).map f := by
  unfold atI
  rw [List.length_map]
  cases ixN l.length k with
  | none => rfl
  | some j => simp
theorem Ext.updN {l p : Addr} {M M1 : Mp} {o : MO} (h : Ext l M M1) (hp : M p = none) : Ext l M (updM M1 p o) := fun b o' n e => by
  rw [updM_ne (ne_none e hp)]
  exact h b o' n e

/-! ### a list of rows -/
structure Grid (M0 M : Mp) (rs : List Addr) (t : List (List Int)) : Prop where
  len : rs.length = t.length
  nd : rs.Nodup
  new : ∀ a ∈ rs, M0 a = none
  at_ : ∀ (i : Nat) (a : Addr) (r : List Int), rs[i]? = some a → t[i]? = some r → M a = some (.lst (r.map D.int))
theorem Grid.nil {M0 M : Mp} : Grid M0 M [] [] := ⟨rfl, List.nodup_nil, fun _ h => (by cases h), fun _ _ _ h _ => (by simp at h)⟩
theorem Grid.get {M0 M : Mp} {rs : List Addr} {t : List (List Int)} (g : Grid M0 M rs t) {i : Nat} (h : i < t.length) : ∃ a r, rs[i]? = some a ∧ t[i]? = some r ∧ M a = some (.lst (r.map D.int)) := by
  have h' : i < rs.length := by rw [g.len]; exact h
  exact ⟨rs[i], t[i], List.getElem?_eq_getElem h', List.getElem?_eq_getElem h, g.at_ i _ _ (List.getElem?_eq_getElem h') (List.getElem?_eq_getElem h)⟩
theorem Grid.has {M0 M : Mp} {rs : List Addr} {t : List (List Int)} (g : Grid M0 M rs t) {a : Addr} (h : a ∈ rs) : ∃ r, M a = some (.lst r) := by
  obtain ⟨i, hi⟩ := List.mem_iff_getElem?.mp h
  have hl := (List.getElem?_eq_some_iff.mp hi).1
  obtain ⟨a', r, h1, h2, h3⟩ := g.get (i := i) (by rw [← g.len]; exact hl)
  rw [hi] at h1; cases h1
  exact ⟨_, h3⟩
theorem Grid.up {M0 M M' : Mp} {rs : List Addr} {t : List (List Int)} (g : Grid M0 M rs t) (h : ∀ a ∈ rs, ∀ o, M a = some o → M' a = some o) : Grid M0 M' rs t :=
  ⟨g.len, g.nd, g.new, fun i a r h1 h2 => h a (List.mem_of_getElem? h1) _ (g.at_ i a r h1 h2)⟩
theorem Grid.ext {M0 M M' : Mp} {l : Addr} {rs : List Addr} {t : List (List Int)} (g : Grid M0 M rs t) (h : Ext l M M') (hl : M0 l ≠ none) : Grid M0 M' rs t :=
  g.up fun a ha o e => h a o (fun z => hl (z ▸ g.new a ha)) e
theorem Grid.add {M0 M : Mp} {rs : List Addr} {t : List (List Int)} {p : Addr} {o : MO} (g : Grid M0 M rs t) (h : M p = none) : Grid M0 (updM M p o) rs t :=
  g.up fun a ha o' e => by rw [updM_ne (ne_none e h)]; exact e
theorem Grid.snoc {M0 M : Mp} {rs : List Addr} {t : List (List Int)} {p : Addr} {r : List Int} (g : Grid M0 M rs t) (h : M p = none) (h0 : M0 p = none) : Grid M0 (updM M p (.lst (r.map D.int))) (rs ++ [p]) (t ++ [r]) := by
  have hn : p ∉ rs := fun hm => by
    obtain ⟨_, e⟩ := g.has hm
    rw [h] at e; cases e
  refine ⟨by simp [g.len], ?_, fun a ha => ?_, fun i a r' h1 h2 => ?_⟩
  · rw [List.nodup_append]
    exact ⟨g.nd, by simp, fun a ha b hb => by
      obtain rfl : b = p := by simpa using hb
      exact fun e => hn (e ▸ ha)⟩
  · rcases List.mem_append.mp ha with ha | ha
    · exact g.new a ha
    · obtain rfl : a = p := by simpa using ha
      exact h0
  · by_cases hi : i < rs.length
    · rw [List.getElem?_append_left hi] at h1
      rw [List.getElem?_append_left (by rw [← g.len]; exact hi)] at h2
      have := g.at_ i a r' h1 h2
      rw [updM_ne (ne_none this h)]
      exact this
    · rw [List.getElem?_append_right (by omega)] at h1
      rw [List.getElem?_append_right (by rw [← g.len]; omega)] at h2
      rw [← g.len] at h2
      have hz : i - rs.length = 0 := by
        have := (List.getElem?_eq_some_iff.mp h1).1
        simp at this
        omega
      rw [hz] at h1 h2
      obtain rfl : p = a := by simpa using h1
      obtain rfl : r = r' := by simpa using h2
      exact updM_same
theorem Grid.set {M0 M : Mp} {rs : List Addr} {t : List (List Int)} {i : Nat} {a : Addr} {r : List Int} (g : Grid M0 M rs t) (hi : rs[i]? = some a) : Grid M0 (updM M a (.lst (r.map D.int))) rs (t.set i r) := by
  refine ⟨by simp [g.len], g.nd, g.new, fun j b r' h1 h2 => ?_⟩
  by_cases hj : i = j
  · subst hj
    rw [hi] at h1; cases h1
    rw [List.getElem?_set_self (by rw [← g.len]; exact (List.getElem?_eq_some_iff.mp hi).1)] at h2
    cases h2
    exact updM_same
  · rw [List.getElem?_set_ne hj] at h2
    have hb : b ≠ a := fun e => by
      subst e
      obtain ⟨l1, e1⟩ := List.getElem?_eq_some_iff.mp hi
      obtain ⟨l2, e2⟩ := List.getElem?_eq_some_iff.mp h1
      have hp := List.pairwise_iff_getElem.mp g.nd
      rcases Nat.lt_or_gt_of_ne hj with q | q
      · exact hp i j l1 l2 q (by rw [e1, e2])
      · exact hp j i l2 l1 q (by rw [e1, e2])
    rw [updM_ne hb]
    exact g.at_ j b r' h1 h2
theorem Grid.ne {M0 M : Mp} {rs : List Addr} {t : List (List Int)} {l : Addr} (g : Grid M0 M rs t) (hl : M0 l ≠ none) {a : Addr} (h : a ∈ rs) : l ≠ a := fun e => hl (e ▸ g.new a h)
theorem br_join {c : Bool} {ta tb : TED} {ρ : DSt} {M : Mp} {Q : KD} (R : KD) (h1 : ∀ Q' : KD, (∀ d M', R d M' → Q' d M') → c = true → ta ρ M Q') (h2 : ∀ Q' : KD, (∀ d M', R d M' → Q' d M') → c = false → tb ρ M Q') (h : ∀ d M', R d M' → Q d M') :
    br c (ta ρ M Q) (tb ρ M Q) := br_of (h1 Q h) (h2 Q h)
theorem un_of {k : Nat} {A : Around} (h : Room k A) : A.units + 200 < cLine := by
  have := h.un
  omega
theorem map_set_int {r : List Int} {j : Nat} {x : Int} : (r.map D.int).set j (.int x) = (r.set j x).map D.int := by rw [List.map_set]
theorem Ext.updE {l p : Addr} {M M1 : Mp} {o : MO} (h : Ext l M M1) (hp : M p = none) : Ext l M (updM M1 p o) := h.updN hp

/-! ### entries, walks -/
def rowT (t : List (List Int)) (i : Int) : List Int := t[i.toNat]?.getD []
def ent (t : List (List Int)) (i j : Int) : Int := at0 (rowT t i) j
def walkT (t : List (List Int)) (h : Int) (ws : List Int) : Int := ws.foldl (ent t) h
theorem walkT_snoc {t : List (List Int)} {h x : Int} {ws : List Int} : walkT t h (ws ++ [x]) = ent t (walkT t h ws) x := by simp [walkT]
theorem atI_ints {w : List Int} {k : Int} (h0 : 0 ≤ k) (h1 : k < w.length) : atI (w.map D.int) k = some (.int (at0 w k)) := by
  rw [atI_nn h0 (by rw [List.length_map]; exact h1), List.getElem?_map, at0_of h0 h1]; rfl
theorem IsTab.rowm {n : Nat} {t : List (List Int)} (h : IsTab n t) {i : Int} (h0 : 0 ≤ i) (h1 : i < n) : rowT t i ∈ t ∧ t[i.toNat]? = some (rowT t i) := by
  have : i.toNat < t.length := by rw [h.len]; omega
  unfold rowT
  rw [List.getElem?_eq_getElem this]
  exact ⟨List.getElem_mem this, rfl⟩
theorem IsTab.atr {n : Nat} {t : List (List Int)} (h : IsTab n t) {i : Int} (h0 : 0 ≤ i) (h1 : i < n) : atI (t.map dI) i = some (dI (rowT t i)) := by
  rw [atI_nn h0 (by rw [List.length_map, h.len]; exact h1), List.getElem?_map, (h.rowm h0 h1).2]; rfl
theorem IsTab.ate {n : Nat} {t : List (List Int)} (h : IsTab n t) {i j : Int} (h0 : 0 ≤ i) (h1 : i < n) (g0 : 0 ≤ j) (g1 : j < n) : atI ((rowT t i).map D.int) j = some (.int (ent t i j)) := atI_ints g0 (by rw [h.rlen (h.rowm h0 h1).1]; exact g1)
theorem IsTab.bd {n : Nat} {t : List (List Int)} (h : IsTab n t) {i j : Int} (h0 : 0 ≤ i) (h1 : i < n) (g0 : 0 ≤ j) (g1 : j < n) : 0 ≤ ent t i j ∧ ent t i j < n :=
  h.mem (h.rowm h0 h1).1 (List.mem_of_getElem? (at0_of g0 (by rw [h.rlen (h.rowm h0 h1).1]; exact g1)))
theorem IsTab.walk {n : Nat} {t : List (List Int)} (h : IsTab n t) : ∀ (ws : List Int) (i : Int), 0 ≤ i → i < n → (∀ x ∈ ws, 0 ≤ x ∧ x < n) → 0 ≤ walkT t i ws ∧ walkT t i ws < n
  | [], _, h0, h1, _ => ⟨h0, h1⟩
  | x :: ws, i, h0, h1, hw => by
    have b := h.bd h0 h1 (hw x List.mem_cons_self).1 (hw x List.mem_cons_self).2
    exact h.walk ws _ b.1 b.2 fun y hy => hw y (List.mem_cons_of_mem _ hy)
theorem perm_idx {n : Nat} {r : List Int} (h : r.Perm (rg n)) {o : Int} (ho : 0 ≤ o ∧ o < n) : o ∈ r ∧ r.idxOf o < n ∧ ∀ x : Int, 0 ≤ x → x < n → (at0 r x = o ↔ x = (r.idxOf o : Nat)) := by
  have hm : o ∈ r := h.mem_iff.mpr (rg_mem.mpr ho)
  have hl : r.length = n := by rw [h.length_eq, rg_length]
  have hi : r.idxOf o < r.length := List.idxOf_lt_length_of_mem hm
  refine ⟨hm, by omega, fun x x0 x1 => ?_⟩
  have hnd : r.Nodup := h.nodup_iff.mpr rg_nodup
  have hg : r[r.idxOf o]? = some o := by rw [List.getElem?_eq_getElem hi, List.getElem_idxOf hi]
  constructor
  · intro e
    have hx := at0_of (l := r) x0 (by omega)
    rw [e] at hx
    rcases Nat.lt_trichotomy x.toNat (r.idxOf o) with z | z | z
    · exact absurd hx (nodup_first hnd hg _ z)
    · omega
    · exact absurd hg (nodup_first hnd hx _ z)
  · rintro rfl
    unfold at0
    rw [Int.toNat_natCast, hg]
    rfl
theorem rg_succ {k : Nat} : rg (k + 1) = rg k ++ [(k : Int)] := by
  unfold rg
  rw [List.range_succ, List.map_append]
  rfl
theorem filter_one {n d : Nat} (h : d < n) (p : Int → Bool) (hp : ∀ x : Int, 0 ≤ x → x < n → (p x = true ↔ x = (d : Nat))) : (rg n).filter p = [(d : Int)] := by
  induction n with
  | zero => omega
  | succ n ih =>
    rw [rg_succ, List.filter_append]
    by_cases hd : d = n
    · subst hd
      have e1 : (rg d).filter p = [] := by
        rw [List.filter_eq_nil_iff]
        intro x hx hpx
        have b := rg_mem.mp hx
        have := (hp x b.1 (by omega)).mp hpx
        omega
      have e2 : p (d : Int) = true := (hp _ (by omega) (by omega)).mpr rfl
      rw [e1, List.filter_cons, e2]
      rfl
    · have e2 : p (n : Int) = false := by
        cases hb : p (n : Int) with
        | false => rfl
        | true =>
          have := (hp (n : Int) (by omega) (by omega)).mp hb
          omega
      rw [ih (by omega) fun x x0 x1 => hp x x0 (by omega), List.filter_cons, e2]
      rfl
end DL

/-! More of the layer: lists repeated, tuple(range(..)), sum. -/
namespace DL
open PySem PySem.Spec PyProof.Rows L2
section
variable {X : Cx} {K : PySem.W.Frag} {pos : Pos}
theorem FzAll.flat {H : Hp} {xs : List V} {ds : List D} (f : FzAll K H xs ds) : ∀ n : Nat, FzAll K H (List.replicate n xs).flatten (List.replicate n ds).flatten
  | 0 => .nil
  | n + 1 => by
    rw [List.replicate_succ, List.replicate_succ, List.flatten_cons, List.flatten_cons]
    exact f.append (FzAll.flat f n)
/-- xs * k, xs a list -/
def rRepX : R2D := fun x y M Q => match x, y with
  | .ref p, .int k => ∃ xs, M p = some (.lst xs) ∧ 0 ≤ k ∧ k ≤ 100000 ∧ xs.length * k.toNat ≤ sizeLine ∧ ∀ q, M q = none → Q (.ref q) (updM M q (.lst (List.replicate k.toNat xs).flatten))
  | _, _ => False
theorem br_rep : BR X .Mult rRepX := by
  refine ⟨_, op_rep, ?_⟩
  intro H M vx vy x y Q' Q fx fy m h k
  unfold rRepX at h
  split at h
  · obtain ⟨xs, hp, h0, h1, hz, q⟩ := h
    cases fx
    cases fy
    obtain ⟨ys, e, f⟩ := m.lst hp
    exact ⟨_, _, ys, rfl, rfl, e, by omega, by omega, by rw [f.length]; exact hz, fun p hp => k.newLst m (f.flat _) q hp⟩
  · exact h.elim
theorem rep_one {α : Type} {a : α} : ∀ n : Nat, (List.replicate n [a]).flatten = List.replicate n a
  | 0 => rfl
  | n + 1 => by rw [List.replicate_succ, List.flatten_cons, rep_one n]; rfl
/-- tuple(range(..)) -/
def dTupRg (t : TRD) : TED := fun ρ M Q => t ρ M fun a b M1 => RgOk a b ∧ Q (.tup (rgD a b)) M1
def zTupRg (te : L2.St → Hp → (Int → Int → Hp → Prop) → Prop) : TE := fun σ H Q => te σ H fun a b H1 => RgOk a b ∧ ∀ q o, H1 q = none → o.dict = none → Q (.ref q) (upd H1 q (.frz o (.tup (rgV a b))))
theorem pe_tupRgZ {e : Expr} {te : L2.St → Hp → (Int → Int → Hp → Prop) → Prop} {p : Pos} (hc : X.calm = true) (hg : Gl X "tuple") (hm : X.mg "tuple" = none) (he : PRg X e te) (na : starEach [e] X.env = (false, eval e X.env) :: starEach [] X.env := by rfl) :
    PE X (.Call (.Name "tuple" p) [e] [] pos) (zTupRg te) := by
  refine ⟨fun pins s σ H Q I h => Call_ (ld_blt I hg hm boot_tuple (PyProof.Rows.callWith_type1 (args_cons (thn (he pins s σ H _ I h) fun x s1 ⟨r, a, b, t, u, v, H1, ex, hr, I1, ok, q⟩ => args_nil ?_) na) na))⟩
  subst ex
  obtain ⟨b1, b2, b3, b4, b5⟩ := ok
  refine call_tuple_range (n := (b - a).toNat) (I1.ok.hd hc) hr (small_one b1 b2 b3 b4) (rangeSize_nat a b) b5 fun h' tk acc hk hi => ?_
  have I2 : Inv X pins σ H1 { s1 with heap := h', toks := tk } := I1.kept hk
  refine ⟨.ref h'.objs.size, _, I2.laid (t' := tk) (o := .frz ⟨.type "tuple", none, .seq acc 0, #[]⟩ (.tup (rgV a b))) (fun c o e => Heap.get?_push_of_some _ e) (Nat.le_refl _) ⟨Heap.get?_push_size _ rfl, ?_, acc.toList, vals_rg hi, ?_⟩, rfl, q _ _ (I2.hok.fresh (Nat.le_refl _)) rfl⟩
  · rw [rgV_length, sizeLine_eq]; omega
  · rw [Array.toArray_toList]; exact IsTup.new _ _
theorem de_tupRg {e : Expr} {te : TRD} {p : Pos} (hc : X.calm = true) (hg : Gl X "tuple") (hm : X.mg "tuple" = none) (he : DRg X e te) (na : starEach [e] X.env = (false, eval e X.env) :: starEach [] X.env := by rfl) : DE X (.Call (.Name "tuple" p) [e] [] pos) (dTupRg te) := by
  obtain ⟨t0, he, w⟩ := he
  refine pe_weak (pe_tupRgZ hc hg hm he na) fun σ H Q ⟨ρ, M, Q', r, m, h, k⟩ => ?_
  exact w σ H _ ⟨ρ, M, _, r, m, h, fun a b H1 M1 s q => ⟨q.1, fun p o hp ho => (k.after s).newTup s.mem (rgD_fz a b) q.2 hp ho⟩⟩
/-- sum(xs), a list of whole numbers -/
def rSumX : RCD := fun ds M Q => match ds with
  | [.ref p] => ∃ ns : List Int, M p = some (.lst (ns.map D.int)) ∧ Q (.int ns.sum) M
  | _ => False
theorem ca_sum (hc : X.calm = true) : CaR X (.builtin "sum") rSumX := by
  refine ⟨_, cr_sum hc, ?_⟩
  intro H M vs ds Q' Q fs m h k
  unfold rSumX at h
  split at h
  · obtain ⟨ns, hp, q⟩ := h
    cases fs with
    | cons f t =>
      cases t
      cases f
      obtain ⟨ys, h0, f⟩ := m.lst hp
      rw [f.ints] at h0
      exact ⟨_, ns, rfl, .of h0, k.val m (.int _) q⟩
  · exact h.elim
end

/-! ### frames, joins -/
def Keep (M M' : Mp) : Prop := ∀ b o, M b = some o → M' b = some o
theorem Keep.refl {M : Mp} : Keep M M := fun _ _ h => h
theorem Keep.trans {M M1 M2 : Mp} (a : Keep M M1) (b : Keep M1 M2) : Keep M M2 := fun x o h => b x o (a x o h)
theorem Keep.new {p : Addr} {M : Mp} {o : MO} (h : M p = none) : Keep M (updM M p o) := fun b o' e => by rw [updM_ne (ne_none e h)]; exact e
theorem Keep.updN {p : Addr} {M M1 : Mp} {o : MO} (h : Keep M M1) (hp : M p = none) : Keep M (updM M1 p o) := fun b o' e => by
  rw [updM_ne (ne_none e hp)]
  exact h b o' e
theorem Bag.keep {M M' : Mp} {l : Addr} (h : Bag M l) (k : Keep M M') : Bag M' l := let ⟨g, s, c, e, r⟩ := h; ⟨g, s, c, k _ _ e, r⟩
theorem Keep.ext {M M' : Mp} {l : Addr} (h : Keep M M') : Ext l M M' := fun b o _ e => h b o e
theorem if_join {b : Bool} {t u : TSD} {E : EndD} {ρ : DSt} {M : Mp} (R : DSt → Mp → Prop) (h1 : ∀ E' : EndD, (∀ ρ' M', R ρ' M' → E'.nx ρ' M') → b = true → t E' ρ M) (h2 : ∀ E' : EndD, (∀ ρ' M', R ρ' M' → E'.nx ρ' M') → b = false → u E' ρ M)
    (h : ∀ ρ' M', R ρ' M' → E.nx ρ' M') : br b (t E ρ M) (u E ρ M) := br_of (h1 E h) (h2 E h)
theorem cut_ints {l : List Int} {lo hi : Option Int} : ∃ l' : List Int, cutD (l.map D.int) lo hi = l'.map D.int ∧ (∀ x ∈ l', x ∈ l) ∧ l'.length ≤ l.length := by
  unfold cutD
  rw [List.length_map]
  refine ⟨(l.drop (HT.sIx l.length 0 lo)).take (HT.sIx l.length l.length hi - HT.sIx l.length 0 lo), by rw [List.map_take, List.map_drop], fun x hx => List.mem_of_mem_drop (List.mem_of_mem_take hx), ?_⟩
  rw [List.length_take, List.length_drop]
  omega

/-! ### words written by a table -/
def cip (t : List (List Int)) (k : Int) : List Int → List Int
  | [] => []
  | x :: ws => ent t k x :: cip t (ent t k x) ws
def dec (t : List (List Int)) (k : Int) : List Int → List Int
  | [] => []
  | x :: ws => ((rowT t k).idxOf x : Nat) :: dec t x ws
def lstK (k : Int) (ws : List Int) : Int := ws.foldl (fun _ x => x) k
theorem cip_snoc {t : List (List Int)} {x : Int} : ∀ {ws : List Int} {k : Int}, cip t k (ws ++ [x]) = cip t k ws ++ [ent t (walkT t k ws) x]
  | [], k => rfl
  | y :: ws, k => by
    show ent t k y :: cip t (ent t k y) (ws ++ [x]) = _
    rw [cip_snoc (ws := ws)]
    rfl
theorem dec_snoc {t : List (List Int)} {x : Int} : ∀ {ws : List Int} {k : Int}, dec t k (ws ++ [x]) = dec t k ws ++ [(((rowT t (lstK k ws)).idxOf x : Nat) : Int)]
  | [], k => rfl
  | y :: ws, k => by
    show (((rowT t k).idxOf y : Nat) : Int) :: dec t y (ws ++ [x]) = _
    rw [dec_snoc (ws := ws)]
    rfl
theorem lstK_snoc {k x : Int} {ws : List Int} : lstK k (ws ++ [x]) = x := by simp [lstK]
theorem lstK_in {n : Nat} : ∀ {ws : List Int} {k : Int}, 0 ≤ k → k < n → (∀ x ∈ ws, 0 ≤ x ∧ x < n) → 0 ≤ lstK k ws ∧ lstK k ws < n
  | [], k, h0, h1, _ => ⟨h0, h1⟩
  | x :: ws, k, h0, h1, hw => lstK_in (ws := ws) (hw x List.mem_cons_self).1 (hw x List.mem_cons_self).2 fun y hy => hw y (List.mem_cons_of_mem _ hy)
theorem IsTab.idx {n : Nat} {t : List (List Int)} (h : IsTab n t) {k x : Int} (k0 : 0 ≤ k) (k1 : k < n) (x0 : 0 ≤ x) (x1 : x < n) : (rowT t k).idxOf x < n ∧ ent t k ((rowT t k).idxOf x : Nat) = x := by
  obtain ⟨_, b, c⟩ := perm_idx (h.row _ (h.rowm k0 k1).1) (o := x) ⟨x0, x1⟩
  exact ⟨b, (c _ (by omega) (by omega)).mpr rfl⟩
theorem dec_cip {n : Nat} {t : List (List Int)} (h : IsTab n t) : ∀ {ws : List Int} {k : Int}, 0 ≤ k → k < n → (∀ x ∈ ws, 0 ≤ x ∧ x < n) → dec t k (cip t k ws) = ws
  | [], k, _, _, _ => rfl
  | x :: ws, k, h0, h1, hw => by
    have hx := hw x List.mem_cons_self
    have b := h.bd h0 h1 hx.1 hx.2
    obtain ⟨_, _, c⟩ := perm_idx (h.row _ (h.rowm h0 h1).1) (o := ent t k x) b
    show (((rowT t k).idxOf (ent t k x) : Nat) : Int) :: dec t (ent t k x) (cip t (ent t k x) ws) = _
    rw [dec_cip h b.1 b.2 fun y hy => hw y (List.mem_cons_of_mem _ hy), ← (c x hx.1 hx.2).mp rfl]
theorem cip_dec {n : Nat} {t : List (List Int)} (h : IsTab n t) : ∀ {ws : List Int} {k : Int}, 0 ≤ k → k < n → (∀ x ∈ ws, 0 ≤ x ∧ x < n) → cip t k (dec t k ws) = ws
  | [], k, _, _, _ => rfl
  | x :: ws, k, h0, h1, hw => by
    have hx := hw x List.mem_cons_self
    have i := h.idx h0 h1 hx.1 hx.2
    show ent t k ((rowT t k).idxOf x : Nat) :: cip t (ent t k ((rowT t k).idxOf x : Nat)) (dec t x ws) = _
    rw [i.2, cip_dec h hx.1 hx.2 fun y hy => hw y (List.mem_cons_of_mem _ hy)]
theorem cip_in {n : Nat} {t : List (List Int)} (h : IsTab n t) : ∀ {ws : List Int} {k : Int}, 0 ≤ k → k < n → (∀ x ∈ ws, 0 ≤ x ∧ x < n) → (∀ x ∈ cip t k ws, 0 ≤ x ∧ x < n) ∧ (cip t k ws).length = ws.length
  | [], k, _, _, _ => ⟨fun _ h => (by cases h), rfl⟩
  | x :: ws, k, h0, h1, hw => by
    have hx := hw x List.mem_cons_self
    have b := h.bd h0 h1 hx.1 hx.2
    have ih := cip_in h b.1 b.2 (ws := ws) fun y hy => hw y (List.mem_cons_of_mem _ hy)
    refine ⟨fun y hy => ?_, congrArg (· + 1) ih.2⟩
    rcases List.mem_cons.mp hy with rfl | hy
    · exact b
    · exact ih.1 y hy
theorem dec_in {n : Nat} {t : List (List Int)} (h : IsTab n t) : ∀ {ws : List Int} {k : Int}, 0 ≤ k → k < n → (∀ x ∈ ws, 0 ≤ x ∧ x < n) → (∀ x ∈ dec t k ws, 0 ≤ x ∧ x < n) ∧ (dec t k ws).length = ws.length
  | [], k, _, _, _ => ⟨fun _ h => (by cases h), rfl⟩
  | x :: ws, k, h0, h1, hw => by
    have hx := hw x List.mem_cons_self
    have i := h.idx h0 h1 hx.1 hx.2
    have ih := dec_in h hx.1 hx.2 (ws := ws) fun y hy => hw y (List.mem_cons_of_mem _ hy)
    refine ⟨fun y hy => ?_, congrArg (· + 1) ih.2⟩
    rcases List.mem_cons.mp hy with rfl | hy
    · omega
    · exact ih.1 y hy
end DL

/-! xs[i] += e, xs a list. -/
namespace DL
open PySem PySem.Spec PyProof.Rows L2
section
variable {X : Cx} {pos : Pos}
def zGet : V → V → Hp → VK → Prop := fun o i H Q => ∃ p xs k v, o = .ref p ∧ i = .int k ∧ H p = some (.lst xs) ∧ 0 ≤ k ∧ xs[k.toNat]? = some v ∧ Q v H
theorem get_list : PGet X zGet := by
  intro pins s σ H o i ov iv Q I ro ri h
  obtain ⟨p, xs, k, v, rfl, rfl, hp, h0, hv, q⟩ := h
  cases ro
  obtain ⟨t, rfl⟩ := ri
  obtain ⟨its, r, pl, hz⟩ := I.list (.of hp)
  obtain ⟨u, hu, ru⟩ := r.get hv
  have hl := r.length
  have hk := (List.getElem?_eq_some_iff.mp hv).1
  have hn := line63
  refine wpAny_getItem_list (x := u) pl.isList h0 (by omega) (by simpa using hu) ⟨v, H, I, ru, q⟩
def dAugL (to ti te : TED) (rd : R2D) : TSD := fun E ρ M => to ρ M fun o M1 => ti ρ M1 fun i M2 => match o, i with
  | .ref p, .int k => ∃ ds x, M2 p = some (.lst ds) ∧ 0 ≤ k ∧ ds[k.toNat]? = some x ∧ te ρ M2 fun y M3 => rd x y M3 fun z M4 => ∃ es, M4 p = some (.lst es) ∧ k.toNat < es.length ∧ E.nx ρ (updM M4 p (.lst (es.set k.toNat z)))
  | _, _ => False
theorem ds_augL {o i e : Expr} {to ti te : TED} {rd : R2D} {op : Operator} {tpos : Pos} (ho : DE X o to) (hi : DE X i ti) (he : DE X e te) (hp : IR X op rd)
    (ha : ∀ ov iv new, augStore i ov iv new = (do holding [new, ov, iv] (setItem ov iv new); release [new, ov, iv] []; pure .next) := by intros; rfl) : DS X (.AugAssign (.Subscript o i tpos) op e pos) (dAugL to ti te rd) := by
  obtain ⟨r0, hop, l⟩ := hp
  refine ps_weak (ps_augS (tip := r0) ho hi get_list he hop set_list ha) fun E σ H ⟨ρ, M, E', r, m, h, k⟩ => ?_
  refine ⟨ρ, M, _, r, m, h, fun vo H1 od M1 fo s1 q1 => ⟨ρ, M1, _, r.up s1.tups, s1.mem, q1, fun vi H2 id' M2 fi s2 q2 => ?_⟩⟩
  have fo2 := fo.up s2.tups
  split at q2
  · rename_i p' kk
    obtain ⟨ds, x, hp, h0, hx, q2⟩ := q2
    cases fo2
    cases fi
    obtain ⟨xs, e, fs⟩ := s2.mem.lst hp
    obtain ⟨v, hv, fv⟩ := fs.get hx
    refine ⟨_, xs, _, v, rfl, rfl, e, h0, hv, ρ, M2, _, (r.up s1.tups).up s2.tups, s2.mem, q2, fun vy H3 y M3 fy s3 q3 => ?_⟩
    have k0 := k.after ((s1.trans s2).trans s3)
    refine l H3 M3 v vy x y (fun z M4 => ∃ es, M4 p' = some (.lst es) ∧ kk.toNat < es.length ∧ E'.nx ρ (updM M4 p' (.lst (es.set kk.toNat z)))) _ (fv.up s3.tups) fy s3.mem q3 fun vz H4 z M4 fz s4 q4 => ?_
    obtain ⟨es, hp4, hlt, q4⟩ := q4
    obtain ⟨ys, e4, f4⟩ := s4.mem.lst hp4
    refine ⟨_, ys, _, _, rfl, rfl, e4, ixN_nn h0 (by rw [f4.length]; omega), ?_⟩
    have s5 : Step X.K H4 M4 _ _ := Step.wr (u := .lst (ys.set kk.toNat vz)) (o := .lst (es.set kk.toNat z)) s4.mem hp4 (fun z => (by cases z)) ⟨_, rfl, f4.set fz _⟩
    exact (k0.after s4).nx _ _ _ _ (((((r.up s1.tups).up s2.tups).up s3.tups).up s4.tups).up s5.tups) s5 q4
  · exact q2.elim
end

theorem for_join {te : TED} {g : TGD} {tb : TSD} {E : EndD} {ρ : DSt} {M : Mp} (R : KD) (h1 : ∀ Q' : KD, (∀ d M', R d M' → Q' d M') → te ρ M Q') (h : ∀ d M', R d M' → dFor (diSeq (dC d)) g tb E ρ M') : dFor (diSeq te) g tb E ρ M := h1 _ h
theorem cut_take {ds : List D} {k : Int} (h0 : 0 ≤ k) (h1 : k ≤ ds.length) : cutD ds none (some k) = ds.take k.toNat := by
  unfold cutD
  have e1 : HT.sIx ds.length 0 none = 0 := rfl
  have e2 : HT.sIx ds.length ds.length (some k) = k.toNat := by
    simp only [HT.sIx]
    split <;> omega
  rw [e1, e2]
  simp
/-! ### blocks -/
structure BlkOk (n : Nat) (b : List (List Int)) : Prop where
  l0 : 1 ≤ b.length
  l1 : b.length ≤ 60
  row : ∀ r ∈ b, 1 ≤ r.length ∧ r.length ≤ 60 ∧ ∀ x ∈ r, 0 ≤ x ∧ x < n
theorem BlkOk.mono {n m : Nat} {b : List (List Int)} (h : BlkOk n b) (hm : n ≤ m) : BlkOk m b := ⟨h.l0, h.l1, fun r hr => ⟨(h.row r hr).1, (h.row r hr).2.1, fun x hx => by have := (h.row r hr).2.2 x hx; omega⟩⟩
theorem BlkOk.sm {n : Nat} {b : List (List Int)} (h : BlkOk n b) (hn : n ≤ 200) : Sm 2 50000 (pII b) := by
  refine (sm_II (n := 60) fun r hr => ⟨(h.row r hr).2.1, fun i hi => by have := (h.row r hr).2.2 i hi; omega⟩).mono (Nat.le_refl _) ?_
  have := h.l1
  omega
def cntB (b : List (List Int)) (x : Int) : Int := (b.map fun r => ((r.count x : Nat) : Int)).sum
def leastB (b : List (List Int)) (s : Nat) : Int := (b.length : Int) + ((rowT b 0).length : Int) - s
def lackF (b : List (List Int)) (s : Nat) : List Int := (rg s).filter fun x => decide (cntB b x < leastB b s)
theorem cntB_snoc {b : List (List Int)} {r : List Int} {x : Int} : cntB (b ++ [r]) x = cntB b x + ((r.count x : Nat) : Int) := by
  unfold cntB
  rw [List.map_append, List.sum_append]
  simp
theorem rg_get {s k : Nat} (h : k < s) : (rg s)[k]? = some (k : Int) := by simp [rg, h]
theorem set_cnt {s : Nat} {g : Int → Int} {y : Int} (y0 : 0 ≤ y) (y1 : y < s) : (((rg s).map g).map D.int).set y.toNat (.int (g y + 1)) = ((rg s).map fun x => g x + if x = y then 1 else 0).map D.int := by
  apply List.ext_getElem?
  intro i
  by_cases hi : i < s
  · by_cases e : y.toNat = i
    · subst e
      rw [List.getElem?_set_self (by simp [rg_length]; omega), List.getElem?_map, List.getElem?_map, rg_get hi]
      have : ((y.toNat : Nat) : Int) = y := by omega
      simp [this]
    · rw [List.getElem?_set_ne e, List.getElem?_map, List.getElem?_map, List.getElem?_map, List.getElem?_map, rg_get hi]
      have : ¬ ((i : Int) = y) := by omega
      simp [this]
  · rw [List.getElem?_eq_none (by simp [rg_length]; omega), List.getElem?_eq_none (by simp [rg_length]; omega)]
end DL

/-! sorted of whole numbers, a list or a tuple. -/
namespace DL
open PySem PySem.Spec PyProof.Rows L2
section
variable {prog : Program} {w : World} {A : Around} {E : Value → Shared → Prop} {s : Shared}
/-- what sorted takes of a tuple -/
theorem collect_tup {l : Addr} {us : List Value} {R : List Value → Shared → Prop} (t : IsTup s.heap l us.toArray) (hz : us.length ≤ sizeLine)
    (fin : R us { s with heap := (s.heap.push (seqObj "list" #[] 0)).update s.heap.objs.size (Obj.mapSeq (· ++ us.toArray)) }) : wpAny (model prog w) A (collect (.ref l)) R E s := by
  obtain ⟨o, e, hc, k, dat⟩ := id t
  have e1 : (s.heap.push (seqObj "list" #[] 0)).get? l = some o := Heap.get?_push_of_some _ e
  have new : (s.heap.push (seqObj "list" #[] 0)).get? s.heap.objs.size = some (seqObj "list" #[] 0) := Heap.get?_push_size _ rfl
  have fits : ((#[] : Array Value) ++ us.toArray).size ≤ sizeLine + 1 := by simp only [Array.size_append, List.size_toArray, List.length_nil]; omega
  unfold collect; refine wpAny_bind (wpAny_runValue (codeAny_builtin entry_proto_collect' ?_))
  refine (show wpAny _ _ (do again (.builtin "list.__iadd__" ⟨[← newList [], .ref l], []⟩)) _ _ s from ?_)
  refine wpAny_bind (wpAny_newList (wpAny_pure ⟨Code.quiet_builtin _ (by decide +kernel), codeAny_builtin entry_list_iadd' (show wpAny _ _ (Builtin.List.listExtendWith (.ref s.heap.objs.size) (.ref l) (.ref s.heap.objs.size)) _ _ { s with heap := s.heap.push (seqObj "list" #[] 0) } from ?_)⟩))
  unfold Builtin.List.listExtendWith; refine wpAny_bind (wpAny_typeOf (T := "tuple") ⟨o, e1, hc⟩ ?_)
  rw [if_pos (by rw [show (Value.type "tuple" == Value.type "tuple") = true from rfl]; simp)]
  refine wpAny_bind (listItems_at e1 dat (wpAny_bind (listItems_at (xs := #[]) (n := 0) new rfl ?_)))
  rw [if_neg (by simp)]
  refine wpAny_bind (listUpdate_at (xs := #[]) (n := 0) new rfl (wpAny_pure ?_) (Nat.zero_le _) fits)
  refine (show wpAny (model prog w) A (do
      let o ← load s.heap.objs.size
      match o.data with
      | .seq xs _ => pure xs.toList
      | _ => unsupported "internal:collect") R E { s with heap := (s.heap.push (seqObj "list" #[] 0)).update s.heap.objs.size (Obj.mapSeq (· ++ us.toArray)) } from ?_)
  refine wpAny_bind (wpAny_load (get?_update_seq new _) ?_)
  refine (show wpAny _ _ (pure ((#[] : Array Value) ++ us.toArray).toList) R E _ from ?_)
  rw [show ((#[] : Array Value) ++ us.toArray).toList = us by simp]; exact wpAny_pure fin
end
section
variable {prog : Program} {w : World} {A : Around} {E : Value → Shared → Prop} {s : Shared}
/-- sorted(t) of a tuple -/
theorem sorted_tup {l : Addr} {us : List Value} {ns : List Int} {R : Value → Shared → Prop} (t : IsTup s.heap l us.toArray) (hz : us.length ≤ sizeLine) (hi : IntsAre us ns)
    (fin : ∀ out : List Value, SrtO.Srtd SrtO.ltIv out → SrtO.Stb SrtO.ltIv out us → R (.ref (s.heap.objs.size + 1)) { s with heap := sortedAll s.heap us out.toArray }) :
    wpAny (model prog w) A (call (.builtin "sorted") [.ref l]) R E s := by
  refine Calls.call_function_entry kind_sorted plain_sorted entry_sorted (args_sorted1 _) ?_
  unfold Builtin.«sorted»; refine wpAny_bind (m := checkCount "sorted" 1 1 _) (wpAny_pure (wpAny_bind (collect_tup t hz (wpAny_bind (wpAny_newList ?_ hz)))))
  have z1 : ((s.heap.push (seqObj "list" #[] 0)).update s.heap.objs.size (Obj.mapSeq (· ++ us.toArray))).objs.size = s.heap.objs.size + 1 := by rw [Heap.size_update, size_push']
  have e1 : (((s.heap.push (seqObj "list" #[] 0)).update s.heap.objs.size (Obj.mapSeq (· ++ us.toArray))).push (seqObj "list" us.toArray 0)).get? (s.heap.objs.size + 1) = some (seqObj "list" us.toArray 0) := by rw [← z1]; exact Heap.get?_push_size _ rfl
  refine (show wpAny _ _ _ _ _ { s with heap := ((s.heap.push (seqObj "list" #[] 0)).update s.heap.objs.size (Obj.mapSeq (· ++ us.toArray))).push (seqObj "list" us.toArray 0) } from ?_)
  rw [z1]
  refine wpAny_bind (wpAny_holding (wpAny_call_entry slot_list_sort ⟨_, e1, rfl⟩ entry_list_sort (SrtO.list_sort_ord SrtO.swo_int e1 hz (fun h2 => SrtO.ints_sortable hi h2) fun out h1 h2 => ⟨_, rfl, wpAny_pure ⟨_, rfl, fin out h1 h2⟩⟩) (args_list_sort _)))
end
section
variable {X : Cx}
theorem cr_sortedTup : CallR X (.builtin "sorted") (fun vs H Q => ∃ (a : Addr) (ns : List Int), vs = [V.ref a] ∧ SqT X.K H a (ns.map V.int) ∧ ∀ (ns' : List Int) (p : Addr), ns'.Perm ns → ns'.Pairwise (· ≤ ·) → H p = none → Q (.ref p) (upd H p (.lst (ns'.map V.int)))) := by
  intro pins s σ H vs us Q I r h
  obtain ⟨a, ns, rfl, hs, q⟩ := h
  obtain ⟨its, rv, hl, hz⟩ := I.tuple hs
  have hi : IntsAre its ns := intsAre_of rv
  obtain ⟨u, rfl, ru⟩ := vals1 r
  cases ru
  refine sorted_tup hl (by rw [← rv.length]; exact hz) hi fun out h1 h2 => ?_
  obtain ⟨k1, k2, k3⟩ := SrtO.ints_out hi h1 h2
  obtain ⟨ep, old⟩ := PyProof.Rows.sortedAll_at s.heap its out.toArray
  have fit : ((out.map SrtO.iv).map V.int).length ≤ sizeLine := by rw [List.length_map, k2.length_eq]; rw [List.length_map] at hz; exact hz
  exact ⟨.ref _, _, I.laid (t' := s.toks) (o := .lst ((out.map SrtO.iv).map V.int)) (fun _ _ => PyProof.Rows.sortedAll_old) (Nat.le_succ _) ⟨fit, out, ep, vals_of_ints k1, old⟩, rfl, q _ _ k2 k3 (I.hok.fresh (Nat.le_succ _))⟩
/-- sorted(xs), whole numbers: a list or a tuple -/
def rSortX : RCD := fun ds M Q => match ds with
  | [.ref p] => ∃ ns : List Int, M p = some (.lst (ns.map D.int)) ∧ ∀ (ns' : List Int) (q : Addr), ns'.Perm ns → ns'.Pairwise (· ≤ ·) → M q = none → Q (.ref q) (updM M q (.lst (ns'.map D.int)))
  | [.tup xs] => ∃ ns : List Int, xs = ns.map D.int ∧ ∀ (ns' : List Int) (q : Addr), ns'.Perm ns → ns'.Pairwise (· ≤ ·) → M q = none → Q (.ref q) (updM M q (.lst (ns'.map D.int)))
  | _ => False
theorem CallR.both {f : Value} {r r' : List V → Hp → VK → Prop} (h : CallR X f r) (h' : CallR X f r') : CallR X f (fun xs H Q => r xs H Q ∨ r' xs H Q) := by
  intro pins s σ H xs us Q I rx q
  rcases q with q | q
  · exact h pins s σ H xs us Q I rx q
  · exact h' pins s σ H xs us Q I rx q
theorem ca_sorted : CaR X (.builtin "sorted") rSortX := by
  refine ⟨_, CallR.both cr_sortedI cr_sortedTup, ?_⟩
  intro H M vs ds Q' Q fs m h k
  unfold rSortX at h
  split at h
  · obtain ⟨ns, hp, q⟩ := h
    cases fs with
    | cons f t =>
      cases t
      cases f
      obtain ⟨ys, h0, f⟩ := m.lst hp
      rw [f.ints] at h0
      exact .inl ⟨_, ns, rfl, .of h0, fun ns' p hpm hpw hn => k.newLst m FzAll.of_ints (fun p' hp' => q ns' p' hpm hpw hp') hn⟩
  · obtain ⟨ns, rfl, q⟩ := h
    cases fs with
    | cons f t =>
      cases t
      cases f with
      | tup hs g => exact .inr ⟨_, ns, rfl, by rw [← g.ints]; exact hs.t, fun ns' p hpm hpw hn => k.newLst m FzAll.of_ints (fun p' hp' => q ns' p' hpm hpw hp') hn⟩
  · exact h.elim
/-- sorted numbers that are a permutation of 0 .. n - 1 -/
theorem sorted_rg {n : Nat} {l : List Int} (hp : l.Perm (rg n)) (hs : l.Pairwise (· ≤ ·)) : l = rg n := by
  refine List.Perm.eq_of_pairwise (le := fun a b => a ≤ b) (fun a b _ _ h1 h2 => Int.le_antisymm h1 h2) hs ?_ hp
  unfold rg
  rw [List.pairwise_map]
  exact List.Pairwise.imp (fun h => by omega) (List.pairwise_lt_range (n := n))
end
end DL

/-! Three names in a comprehension. -/
namespace DL
open PySem L2
def g3' (i j l : Nat) : D → DSt → Option DSt := fun x ρ => match x with
  | .tup [a, b, c] => some (((ρ.set i (some a)).set j (some b)).set l (some c))
  | .pr [a, b, c] => some (((ρ.set i (some a)).set j (some b)).set l (some c))
  | _ => none
theorem set3 {α : Type} (σ : List α) {i j l : Nat} (hij : i ≠ j) (hil : i ≠ l) (hjl : j ≠ l) (n a b c : α) :
    (((((σ.set l n).set j n).set i n).set i a).set j b).set l c = ((σ.set i a).set j b).set l c := by
  rw [List.set_set]
  rw [List.set_comm _ _ (Ne.symm hij)] 
  rw [List.set_set]
  rw [List.set_comm _ _ (Ne.symm hil), List.set_comm _ _ (Ne.symm hjl), List.set_set]
theorem wipe3 {α : Type} (w : List α) {i j l : Nat} (hij : i ≠ j) (hil : i ≠ l) (hjl : j ≠ l) (n a b c : α) :
    ((((((w.set i a).set j b).set l c).set l n).set j n).set i n) = ((w.set l n).set j n).set i n := by
  rw [List.set_set, List.set_comm _ _ hjl, List.set_set]
  rw [List.set_comm _ _ hil, List.set_comm _ _ hij, List.set_set]
theorem own3 (K : PySem.W.Frag) {i j l : Nat} (hij : i ≠ j) (hil : i ≠ l) (hjl : j ≠ l) : OwnG K (gTup K 3 (gCons (gName i) (gCons (gName j) (gCons (gName l) gNil)))) [i, j, l] (g3' i j l) := ⟨fun x v H σ ρ ρ2 Q f r e k => by
  have go : ∀ a b c : D, (x = .tup [a, b, c] ∨ x = .pr [a, b, c]) → some (((ρ.set i (some a)).set j (some b)).set l (some c)) = some ρ2 → gTup K 3 (gCons (gName i) (gCons (gName j) (gCons (gName l) gNil))) v (L2.wipe σ [i, j, l]) H Q := by
    intro a b c hx e
    cases e
    obtain ⟨p, xs, rfl, hs, fs⟩ := tp_of f hx
    cases fs with
    | cons f1 fs =>
      cases fs with
      | cons f2 fs =>
        cases fs with
        | cons f3 fs =>
          cases fs
          refine ⟨p, _, rfl, hs, rfl, _, _, rfl, _, _, rfl, _, _, rfl, rfl, k _ ?_ ?_⟩
          · show (((((((((σ.set l none).set j none).set i none).set i _).set j _).set l _).set l none).set j none).set i none) = ((σ.set l none).set j none).set i none
            rw [wipe3 _ hij hil hjl]
            apply List.ext_getElem?
            intro m
            simp only [List.getElem?_set, List.length_set]
            repeat' split <;> simp_all
          · show RelS K H ((((((σ.set l none).set j none).set i none).set i _).set j _).set l _) _
            rw [set3 σ hij hil hjl]
            exact ((r.set i f1).set j f2).set l f3
  unfold g3' at e
  split at e
  · exact go _ _ _ (.inl rfl) e
  · exact go _ _ _ (.inr rfl) e
  · cases e⟩
end DL

/-! Tables turned: plain law. -/
namespace DL
open PySem L2
/-- t says: i and j give k -/
def Gives (n : Nat) (t : List (List Int)) (i j k : Int) : Prop := 0 ≤ i ∧ i < n ∧ 0 ≤ j ∧ j < n ∧ ent t i j = k
theorem Gives.k_in {n : Nat} {t : List (List Int)} (h : IsTab n t) {i j k : Int} (g : Gives n t i j k) : 0 ≤ k ∧ k < n := by
  obtain ⟨a, b, c, d, rfl⟩ := g
  exact h.bd a b c d
theorem col_at0 {n : Nat} {t : List (List Int)} (h : IsTab n t) {i j : Int} (i0 : 0 ≤ i) (i1 : i < n) (j0 : 0 ≤ j) (j1 : j < n) : at0 (col t j.toNat) i = ent t i j := by
  have r := h.rowm i0 i1
  have := col_at (t := t) (i := i.toNat) (j := j.toNat) r.2
  unfold at0
  rw [this]
  rfl
/-- two of the three tell the third -/
theorem Gives.one {n : Nat} {t : List (List Int)} (h : IsTab n t) {i j k j' : Int} (g : Gives n t i j k) (g' : Gives n t i j' k) : j = j' := by
  obtain ⟨a, b, c, d, e⟩ := g
  obtain ⟨_, _, c', d', e'⟩ := g'
  have kk := h.bd a b c d
  rw [e] at kk
  obtain ⟨_, _, z⟩ := perm_idx (h.row _ (h.rowm a b).1) (o := k) kk
  exact ((z j c d).mp e).trans ((z j' c' d').mp e').symm
theorem Gives.two {n : Nat} {t : List (List Int)} (h : IsTab n t) {i j k i' : Int} (g : Gives n t i j k) (g' : Gives n t i' j k) : i = i' := by
  obtain ⟨a, b, c, d, e⟩ := g
  obtain ⟨a', b', _, _, e'⟩ := g'
  have kk := h.bd a b c d
  rw [e] at kk
  obtain ⟨_, _, z⟩ := perm_idx (h.col j.toNat (by omega)) (o := k) kk
  exact ((z i a b).mp (by rw [col_at0 h a b c d]; exact e)).trans ((z i' a' b').mp (by rw [col_at0 h a' b' c d]; exact e')).symm
theorem Gives.ex_j {n : Nat} {t : List (List Int)} (h : IsTab n t) {i k : Int} (i0 : 0 ≤ i) (i1 : i < n) (k0 : 0 ≤ k) (k1 : k < n) : ∃ j, Gives n t i j k := by
  obtain ⟨_, l, z⟩ := perm_idx (h.row _ (h.rowm i0 i1).1) (o := k) ⟨k0, k1⟩
  exact ⟨_, i0, i1, by omega, by omega, (z _ (by omega) (by omega)).mpr rfl⟩
theorem Gives.ex_i {n : Nat} {t : List (List Int)} (h : IsTab n t) {j k : Int} (j0 : 0 ≤ j) (j1 : j < n) (k0 : 0 ≤ k) (k1 : k < n) : ∃ i, Gives n t i j k := by
  obtain ⟨_, l, z⟩ := perm_idx (h.col j.toNat (by omega)) (o := k) ⟨k0, k1⟩
  have e := (z _ (by omega) (by omega)).mpr rfl
  rw [col_at0 h (by omega) (by omega) j0 j1] at e
  exact ⟨_, by omega, by omega, j0, j1, e⟩

theorem map_perm_rg {n : Nat} {f : Int → Int} (h : ∀ x : Int, 0 ≤ x → x < n → 0 ≤ f x ∧ f x < n) (inj : ∀ x y : Int, 0 ≤ x → x < n → 0 ≤ y → y < n → f x = f y → x = y) : ((rg n).map f).Perm (rg n) := by
  refine perm_of ?_ (fun x hx => ?_) (by rw [List.length_map])
  · unfold List.Nodup
    rw [List.pairwise_map]
    refine List.Pairwise.imp_of_mem (fun {x y} hx hy hne e => hne ?_) (rg_nodup (n := n))
    have a := rg_mem.mp hx
    have b := rg_mem.mp hy
    exact inj x y a.1 a.2 b.1 b.2 e
  · obtain ⟨y, hy, rfl⟩ := List.mem_map.mp hx
    have b := rg_mem.mp hy
    exact rg_mem.mpr (h y b.1 b.2)
/-- a table by what it gives -/
theorem mk_tab {n : Nat} {f : Int → Int → Int} (h : ∀ a b : Int, 0 ≤ a → a < n → 0 ≤ b → b < n → 0 ≤ f a b ∧ f a b < n)
    (i1 : ∀ a b b' : Int, 0 ≤ a → a < n → 0 ≤ b → b < n → 0 ≤ b' → b' < n → f a b = f a b' → b = b') (i2 : ∀ a a' b : Int, 0 ≤ a → a < n → 0 ≤ a' → a' < n → 0 ≤ b → b < n → f a b = f a' b → a = a') :
    IsTab n ((rg n).map fun a => (rg n).map (f a)) ∧ ∀ a b : Int, 0 ≤ a → a < n → 0 ≤ b → b < n → ent ((rg n).map fun a => (rg n).map (f a)) a b = f a b := by
  have at_ : ∀ {g : Int → Int} {j : Nat}, j < n → ((rg n).map g)[j]? = some (g j) := fun {g j} hj => by
    rw [List.getElem?_map]
    simp [rg, hj]
  refine ⟨⟨by rw [List.length_map, rg_length], fun r hr => ?_, fun j hj => ?_⟩, fun a b a0 a1 b0 b1 => ?_⟩
  · obtain ⟨a, ha, rfl⟩ := List.mem_map.mp hr
    have q := rg_mem.mp ha
    exact map_perm_rg (fun x x0 x1 => h a x q.1 q.2 x0 x1) fun x y x0 x1 y0 y1 e => i1 a x y q.1 q.2 x0 x1 y0 y1 e
  · have e : col ((rg n).map fun a => (rg n).map (f a)) j = (rg n).map fun a => f a j := by
      unfold col
      rw [List.map_map]
      apply List.map_congr_left
      intro a _
      simp only [Function.comp]
      rw [at_ hj]
      rfl
    rw [e]
    exact map_perm_rg (fun x x0 x1 => h x j x0 x1 (by omega) (by omega)) fun x y x0 x1 y0 y1 e => i2 x y j x0 x1 y0 y1 (by omega) (by omega) e
  · unfold ent rowT at0
    have ea : (rg n)[a.toNat]? = some a := by
      rw [rg_get (by omega), show ((a.toNat : Nat) : Int) = a by omega]
    rw [List.getElem?_map, ea]
    show (((rg n).map (f a))[b.toNat]?).getD 0 = f a b
    rw [at_ (by omega), show ((b.toNat : Nat) : Int) = b by omega]
    rfl
/-- place p of three -/
def tri (i j k p : Int) : Int := if p = 0 then i else if p = 1 then j else k
def IsWay (w : List Int) : Prop := w = [0, 1, 2] ∨ w = [0, 2, 1] ∨ w = [1, 0, 2] ∨ w = [1, 2, 0] ∨ w = [2, 0, 1] ∨ w = [2, 1, 0]

theorem turn_ex {n : Nat} {t : List (List Int)} (h : IsTab n t) {w : List Int} (hw : IsWay w) :
    ∃ T, IsTab n T ∧ ∀ i j k, Gives n t i j k → Gives n T (tri i j k (at0 w 0)) (tri i j k (at0 w 1)) (tri i j k (at0 w 2)) := by
  have main : ∀ P : Int → Int → Int → Prop, (∀ a b c, P a b c → 0 ≤ a ∧ a < n ∧ 0 ≤ b ∧ b < n ∧ 0 ≤ c ∧ c < n) → (∀ a b : Int, 0 ≤ a → a < n → 0 ≤ b → b < n → ∃ c, P a b c) → (∀ a b c c', P a b c → P a b c' → c = c') → (∀ a b b' c, P a b c → P a b' c → b = b') → (∀ a a' b c, P a b c → P a' b c → a = a') →
      ∃ T, IsTab n T ∧ ∀ a b c, P a b c → Gives n T a b c := by
    intro P hin hex h1 h2 h3
    have hc : ∀ a b : Int, ∃ c : Int, (0 ≤ a ∧ a < n ∧ 0 ≤ b ∧ b < n) → P a b c := fun a b => by
      by_cases q : 0 ≤ a ∧ a < n ∧ 0 ≤ b ∧ b < n
      · obtain ⟨c, z⟩ := hex a b q.1 q.2.1 q.2.2.1 q.2.2.2
        exact ⟨c, fun _ => z⟩
      · exact ⟨0, fun z => absurd z q⟩
    let f : Int → Int → Int := fun a b => (hc a b).choose
    have hf : ∀ a b : Int, 0 ≤ a → a < n → 0 ≤ b → b < n → P a b (f a b) := fun a b a0 a1 b0 b1 => (hc a b).choose_spec ⟨a0, a1, b0, b1⟩
    obtain ⟨q1, q2⟩ := mk_tab (n := n) (f := f) (fun a b a0 a1 b0 b1 => (hin _ _ _ (hf a b a0 a1 b0 b1)).2.2.2.2) (fun a b b' a0 a1 b0 b1 c0 c1 e => h2 a b b' (f a b) (hf a b a0 a1 b0 b1) (by rw [e]; exact hf a b' a0 a1 c0 c1))
      (fun a a' b a0 a1 c0 c1 b0 b1 e => h3 a a' b (f a b) (hf a b a0 a1 b0 b1) (by rw [e]; exact hf a' b c0 c1 b0 b1))
    refine ⟨_, q1, fun a b c p => ?_⟩
    obtain ⟨a0, a1, b0, b1, _, _⟩ := hin a b c p
    exact ⟨a0, a1, b0, b1, (q2 a b a0 a1 b0 b1).trans (h1 a b _ c (hf a b a0 a1 b0 b1) p)⟩
  have kin : ∀ {i j k}, Gives n t i j k → 0 ≤ i ∧ i < n ∧ 0 ≤ j ∧ j < n ∧ 0 ≤ k ∧ k < n := fun g => ⟨g.1, g.2.1, g.2.2.1, g.2.2.2.1, (g.k_in h).1, (g.k_in h).2⟩
  have out : ∀ {i j k k'}, Gives n t i j k → Gives n t i j k' → k = k' := fun g g' => g.2.2.2.2.symm.trans g'.2.2.2.2
  have ex_k : ∀ {i j : Int}, 0 ≤ i → i < n → 0 ≤ j → j < n → ∃ k, Gives n t i j k := fun a b c d => ⟨_, a, b, c, d, rfl⟩
  rcases hw with rfl | rfl | rfl | rfl | rfl | rfl
  · exact main (fun a b c => Gives n t a b c) (fun _ _ _ g => kin g) (fun _ _ a b c d => ex_k a b c d) (fun _ _ _ _ g g' => out g g') (fun _ _ _ _ g g' => g.one h g') (fun _ _ _ _ g g' => g.two h g')
  · obtain ⟨T, q1, q2⟩ := main (fun a b c => Gives n t a c b) (fun _ _ _ g => by have := kin g; omega) (fun _ _ a b c d => Gives.ex_j h a b c d) (fun _ _ _ _ g g' => g.one h g') (fun _ _ _ _ g g' => out g g') (fun _ _ _ _ g g' => g.two h g')
    exact ⟨T, q1, fun i j k g => q2 _ _ _ g⟩
  · obtain ⟨T, q1, q2⟩ := main (fun a b c => Gives n t b a c) (fun _ _ _ g => by have := kin g; omega) (fun _ _ a b c d => ex_k c d a b) (fun _ _ _ _ g g' => out g g') (fun _ _ _ _ g g' => g.two h g') (fun _ _ _ _ g g' => g.one h g')
    exact ⟨T, q1, fun i j k g => q2 _ _ _ g⟩
  · obtain ⟨T, q1, q2⟩ := main (fun a b c => Gives n t c a b) (fun _ _ _ g => by have := kin g; omega) (fun _ _ a b c d => Gives.ex_i h a b c d) (fun _ _ _ _ g g' => g.two h g') (fun _ _ _ _ g g' => out g g') (fun _ _ _ _ g g' => g.one h g')
    exact ⟨T, q1, fun i j k g => q2 _ _ _ g⟩
  · obtain ⟨T, q1, q2⟩ := main (fun a b c => Gives n t b c a) (fun _ _ _ g => by have := kin g; omega) (fun _ _ a b c d => Gives.ex_j h c d a b) (fun _ _ _ _ g g' => g.one h g') (fun _ _ _ _ g g' => g.two h g') (fun _ _ _ _ g g' => out g g')
    exact ⟨T, q1, fun i j k g => q2 _ _ _ g⟩
  · obtain ⟨T, q1, q2⟩ := main (fun a b c => Gives n t c b a) (fun _ _ _ g => by have := kin g; omega) (fun _ _ a b c d => Gives.ex_i h c d a b) (fun _ _ _ _ g g' => g.two h g') (fun _ _ _ _ g g' => g.one h g') (fun _ _ _ _ g g' => out g g')
    exact ⟨T, q1, fun i j k g => q2 _ _ _ g⟩

theorem turn_onto {n : Nat} {t : List (List Int)} (h : IsTab n t) {w : List Int} (hw : IsWay w) {a b : Int} (a0 : 0 ≤ a) (a1 : a < n) (b0 : 0 ≤ b) (b1 : b < n) :
    ∃ i j k, Gives n t i j k ∧ tri i j k (at0 w 0) = a ∧ tri i j k (at0 w 1) = b := by
  have ex_k : ∀ {i j : Int}, 0 ≤ i → i < n → 0 ≤ j → j < n → ∃ k, Gives n t i j k := fun a b c d => ⟨_, a, b, c, d, rfl⟩
  rcases hw with rfl | rfl | rfl | rfl | rfl | rfl
  · obtain ⟨k, g⟩ := ex_k a0 a1 b0 b1; exact ⟨_, _, _, g, rfl, rfl⟩
  · obtain ⟨k, g⟩ := Gives.ex_j h a0 a1 b0 b1; exact ⟨_, _, _, g, rfl, rfl⟩
  · obtain ⟨k, g⟩ := ex_k b0 b1 a0 a1; exact ⟨_, _, _, g, rfl, rfl⟩
  · obtain ⟨k, g⟩ := Gives.ex_i h a0 a1 b0 b1; exact ⟨_, _, _, g, rfl, rfl⟩
  · obtain ⟨k, g⟩ := Gives.ex_j h b0 b1 a0 a1; exact ⟨_, _, _, g, rfl, rfl⟩
  · obtain ⟨k, g⟩ := Gives.ex_i h b0 b1 a0 a1; exact ⟨_, _, _, g, rfl, rfl⟩
theorem IsTab.ext {n : Nat} {T T' : List (List Int)} (h : IsTab n T) (h' : IsTab n T') (e : ∀ a b : Int, 0 ≤ a → a < n → 0 ≤ b → b < n → ent T a b = ent T' a b) : T = T' := by
  apply List.ext_getElem?
  intro i
  by_cases hi : i < n
  · have r := h.rowm (i := (i : Int)) (by omega) (by omega)
    have r' := h'.rowm (i := (i : Int)) (by omega) (by omega)
    have e1 : T[i]? = some (rowT T i) := r.2
    have e2 : T'[i]? = some (rowT T' i) := r'.2
    rw [e1, e2]
    congr 1
    apply List.ext_getElem?
    intro j
    have l1 := h.rlen r.1
    have l2 := h'.rlen r'.1
    by_cases hj : j < n
    · have z1 : (rowT T i)[j]? = some (ent T i j) := at0_of (l := rowT T i) (i := (j : Int)) (by omega) (by omega)
      have z2 : (rowT T' i)[j]? = some (ent T' i j) := at0_of (l := rowT T' i) (i := (j : Int)) (by omega) (by omega)
      rw [z1, z2, e i j (by omega) (by omega) (by omega) (by omega)]
    · rw [List.getElem?_eq_none (by omega), List.getElem?_eq_none (by omega)]
  · rw [List.getElem?_eq_none (by rw [h.len]; omega), List.getElem?_eq_none (by rw [h'.len]; omega)]
/-- only one table turns t by w -/
theorem turn_one {n : Nat} {t T T' : List (List Int)} (h : IsTab n t) {w : List Int} (hw : IsWay w) (h1 : IsTab n T) (h2 : IsTab n T') (g1 : ∀ i j k, Gives n t i j k → Gives n T (tri i j k (at0 w 0)) (tri i j k (at0 w 1)) (tri i j k (at0 w 2)))
    (g2 : ∀ i j k, Gives n t i j k → Gives n T' (tri i j k (at0 w 0)) (tri i j k (at0 w 1)) (tri i j k (at0 w 2))) : T = T' := by
  refine h1.ext h2 fun a b a0 a1 b0 b1 => ?_
  obtain ⟨i, j, k, g, rfl, rfl⟩ := turn_onto h hw a0 a1 b0 b1
  exact (g1 i j k g).2.2.2.2.trans (g2 i j k g).2.2.2.2.symm
end DL

/-! A list of rows of anything. -/
namespace DL
open PySem L2
structure GridD (M0 M : Mp) (rs : List Addr) (t : List (List D)) : Prop where
  len : rs.length = t.length
  nd : rs.Nodup
  new : ∀ a ∈ rs, M0 a = none
  at_ : ∀ (i : Nat) (a : Addr) (r : List D), rs[i]? = some a → t[i]? = some r → M a = some (.lst r)
theorem GridD.nil {M0 M : Mp} : GridD M0 M [] [] := ⟨rfl, List.nodup_nil, fun _ h => (by cases h), fun _ _ _ h _ => (by simp at h)⟩
theorem GridD.get {M0 M : Mp} {rs : List Addr} {t : List (List D)} (g : GridD M0 M rs t) {i : Nat} (h : i < t.length) : ∃ a r, rs[i]? = some a ∧ t[i]? = some r ∧ M a = some (.lst r) := by
  have h' : i < rs.length := by rw [g.len]; exact h
  exact ⟨rs[i], t[i], List.getElem?_eq_getElem h', List.getElem?_eq_getElem h, g.at_ i _ _ (List.getElem?_eq_getElem h') (List.getElem?_eq_getElem h)⟩
theorem GridD.has {M0 M : Mp} {rs : List Addr} {t : List (List D)} (g : GridD M0 M rs t) {a : Addr} (h : a ∈ rs) : ∃ r, M a = some (.lst r) := by
  obtain ⟨i, hi⟩ := List.mem_iff_getElem?.mp h
  have hl := (List.getElem?_eq_some_iff.mp hi).1
  obtain ⟨a', r, h1, h2, h3⟩ := g.get (i := i) (by rw [← g.len]; exact hl)
  rw [hi] at h1; cases h1
  exact ⟨_, h3⟩
theorem GridD.up {M0 M M' : Mp} {rs : List Addr} {t : List (List D)} (g : GridD M0 M rs t) (h : ∀ a ∈ rs, ∀ o, M a = some o → M' a = some o) : GridD M0 M' rs t :=
  ⟨g.len, g.nd, g.new, fun i a r h1 h2 => h a (List.mem_of_getElem? h1) _ (g.at_ i a r h1 h2)⟩
theorem GridD.ext {M0 M M' : Mp} {l : Addr} {rs : List Addr} {t : List (List D)} (g : GridD M0 M rs t) (h : Ext l M M') (hl : M0 l ≠ none) : GridD M0 M' rs t :=
  g.up fun a ha o e => h a o (fun z => hl (z ▸ g.new a ha)) e
theorem GridD.add {M0 M : Mp} {rs : List Addr} {t : List (List D)} {p : Addr} {o : MO} (g : GridD M0 M rs t) (h : M p = none) : GridD M0 (updM M p o) rs t :=
  g.up fun a ha o' e => by rw [updM_ne (ne_none e h)]; exact e
theorem GridD.snoc {M0 M : Mp} {rs : List Addr} {t : List (List D)} {p : Addr} {r : List D} (g : GridD M0 M rs t) (h : M p = none) (h0 : M0 p = none) : GridD M0 (updM M p (.lst r)) (rs ++ [p]) (t ++ [r]) := by
  have hn : p ∉ rs := fun hm => by
    obtain ⟨_, e⟩ := g.has hm
    rw [h] at e; cases e
  refine ⟨by simp [g.len], ?_, fun a ha => ?_, fun i a r' h1 h2 => ?_⟩
  · rw [List.nodup_append]
    exact ⟨g.nd, by simp, fun a ha b hb => by
      obtain rfl : b = p := by simpa using hb
      exact fun e => hn (e ▸ ha)⟩
  · rcases List.mem_append.mp ha with ha | ha
    · exact g.new a ha
    · obtain rfl : a = p := by simpa using ha
      exact h0
  · by_cases hi : i < rs.length
    · rw [List.getElem?_append_left hi] at h1
      rw [List.getElem?_append_left (by rw [← g.len]; exact hi)] at h2
      have := g.at_ i a r' h1 h2
      rw [updM_ne (ne_none this h)]
      exact this
    · rw [List.getElem?_append_right (by omega)] at h1
      rw [List.getElem?_append_right (by rw [← g.len]; omega)] at h2
      rw [← g.len] at h2
      have hz : i - rs.length = 0 := by
        have := (List.getElem?_eq_some_iff.mp h1).1
        simp at this
        omega
      rw [hz] at h1 h2
      obtain rfl : p = a := by simpa using h1
      obtain rfl : r = r' := by simpa using h2
      exact updM_same
theorem GridD.set {M0 M : Mp} {rs : List Addr} {t : List (List D)} {i : Nat} {a : Addr} {r : List D} (g : GridD M0 M rs t) (hi : rs[i]? = some a) : GridD M0 (updM M a (.lst r)) rs (t.set i r) := by
  refine ⟨by simp [g.len], g.nd, g.new, fun j b r' h1 h2 => ?_⟩
  by_cases hj : i = j
  · subst hj
    rw [hi] at h1; cases h1
    rw [List.getElem?_set_self (by rw [← g.len]; exact (List.getElem?_eq_some_iff.mp hi).1)] at h2
    cases h2
    exact updM_same
  · rw [List.getElem?_set_ne hj] at h2
    have hb : b ≠ a := fun e => by
      subst e
      obtain ⟨l1, e1⟩ := List.getElem?_eq_some_iff.mp hi
      obtain ⟨l2, e2⟩ := List.getElem?_eq_some_iff.mp h1
      have hp := List.pairwise_iff_getElem.mp g.nd
      rcases Nat.lt_or_gt_of_ne hj with q | q
      · exact hp i j l1 l2 q (by rw [e1, e2])
      · exact hp j i l2 l1 q (by rw [e1, e2])
    rw [updM_ne hb]
    exact g.at_ j b r' h1 h2
theorem GridD.ne {M0 M : Mp} {rs : List Addr} {t : List (List D)} {l : Addr} (g : GridD M0 M rs t) (hl : M0 l ≠ none) {a : Addr} (h : a ∈ rs) : l ≠ a := fun e => hl (e ▸ g.new a h)


/-! ### cells -/
def cellD (G : List (List D)) (a b : Int) : Option D := G[a.toNat]?.bind fun r => r[b.toNat]?
structure Sq (n : Nat) (G : List (List D)) : Prop where
  len : G.length = n
  row : ∀ r ∈ G, r.length = n
theorem Sq.set {n : Nat} {G : List (List D)} (h : Sq n G) {i : Nat} {r : List D} (hr : r.length = n) : Sq n (G.set i r) := by
  refine ⟨by rw [List.length_set, h.len], fun q hq => ?_⟩
  rcases List.mem_or_eq_of_mem_set hq with hq | rfl
  · exact h.row q hq
  · exact hr
theorem cell_set {n : Nat} {G : List (List D)} (h : Sq n G) {a b a' b' : Int} {r : List D} {v : D} (e : G[a.toNat]? = some r) (a0 : 0 ≤ a) (b0 : 0 ≤ b) (b1 : b < n) (a0' : 0 ≤ a') (b0' : 0 ≤ b') :
    cellD (G.set a.toNat (r.set b.toNat v)) a' b' = if a' = a ∧ b' = b then some v else cellD G a' b' := by
  have hl := (List.getElem?_eq_some_iff.mp e).1
  have hr := h.row r (List.mem_of_getElem? e)
  unfold cellD
  by_cases ha : a' = a
  · subst ha
    rw [List.getElem?_set_self hl, e]
    by_cases hb : b' = b
    · subst hb
      rw [if_pos ⟨rfl, rfl⟩]
      exact List.getElem?_set_self (by omega)
    · rw [if_neg fun z => hb z.2]
      exact List.getElem?_set_ne (by omega)
  · rw [if_neg fun z => ha z.1, List.getElem?_set_ne (by omega)]
/-- all cells known: the rows of T -/
theorem sq_eq {n : Nat} {G : List (List D)} {T : List (List Int)} (h : Sq n G) (hT : IsTab n T) (e : ∀ a b : Int, 0 ≤ a → a < n → 0 ≤ b → b < n → cellD G a b = some (.int (ent T a b))) : G = T.map fun r => r.map D.int := by
  apply List.ext_getElem?
  intro i
  by_cases hi : i < n
  · have r' := hT.rowm (i := (i : Int)) (by omega) (by omega)
    have e2 : T[i]? = some (rowT T i) := r'.2
    have hg : i < G.length := by rw [h.len]; exact hi
    rw [List.getElem?_map, e2, List.getElem?_eq_getElem hg]
    show some G[i] = some ((rowT T i).map D.int)
    congr 1
    apply List.ext_getElem?
    intro j
    have l1 := h.row _ (List.getElem_mem hg)
    have l2 := hT.rlen r'.1
    by_cases hj : j < n
    · have z := e i j (by omega) (by omega) (by omega) (by omega)
      unfold cellD at z
      simp only [Int.toNat_natCast] at z
      rw [List.getElem?_eq_getElem hg] at z
      have z2 : (rowT T i)[j]? = some (ent T i j) := at0_of (l := rowT T i) (i := (j : Int)) (by omega) (by omega)
      rw [List.getElem?_map, z2]
      exact z
    · rw [List.getElem?_eq_none (by omega), List.getElem?_eq_none (by rw [List.length_map]; omega)]
  · rw [List.getElem?_eq_none (by rw [h.len]; omega), List.getElem?_eq_none (by rw [List.length_map, hT.len]; omega)]
end DL

/-! Short ways: comprehensions and loops over lists, ranges; frames. -/
namespace DL
open PySem L2
theorem getD_map {α : Type} {F : α → D} {xs : List α} {k : Nat} {x : D} (h : yL (xs.map F) k x) : ∃ hk : k < xs.length, x = F xs[k] := by
  unfold yL at h
  rw [List.getElem?_map] at h
  by_cases hk : k < xs.length
  · rw [List.getElem?_eq_getElem hk] at h
    exact ⟨hk, (Option.some.inj h).symm⟩
  · rw [List.getElem?_eq_none (by omega)] at h
    cases h
section
variable {n : Nat} {Y : Nat → D → Prop} {G : Mp → Prop} {g : D → DSt → Option DSt} {tt : TTD} {te : TED} {ρ : DSt} {M1 : Mp} {Q : KD}
/-- a comprehension without a test: P of each item, R of the memory -/
theorem LcG.gen (P : Nat → D → Prop) (R : Mp → Prop) (hn : n ≤ sizeLine) (h0 : R M1) (hG : ∀ M', R M' → G M')
    (hs : ∀ k x M', k < n → Y k x → R M' → ∀ Q' : KD, (∀ y M'', P k y → R M'' → Q' y M'') → match g x ρ with | some ρ2 => te ρ2 M' Q' | none => False)
    (hq : ∀ acc M' p, acc.length = n → (∀ k y, acc[k]? = some y → P k y) → R M' → M' p = none → Q (.ref p) (updM M' p (.lst acc))) : LcG n Y G g tYesD te ρ M1 Q := by
  refine ⟨fun k acc M' => acc.length = k ∧ (∀ i y, acc[i]? = some y → P i y) ∧ R M', ⟨rfl, fun i y e => by simp at e, h0⟩, fun k acc M' _ z => hG M' z.2.2, ?_, fun acc M' z p hp => hq acc M' p z.1 z.2.1 z.2.2 hp⟩
  rintro k acc x M' hk hy ⟨rfl, hP, hR⟩
  have z := hs acc.length x M' hk hy hR (fun y M3 => acc.length < sizeLine ∧ (acc ++ [y]).length = acc.length + 1 ∧ (∀ i z, (acc ++ [y])[i]? = some z → P i z) ∧ R M3) fun y M3 h1 h2 => ⟨by omega, by simp, fun i z e => ?_, h2⟩
  · cases eg : g x ρ with
    | none => rw [eg] at z; exact z.elim
    | some ρ2 => rw [eg] at z; exact z
  · by_cases hi : i < acc.length
    · rw [List.getElem?_append_left hi] at e
      exact hP i z e
    · rw [List.getElem?_append_right (by omega)] at e
      by_cases h0 : i - acc.length = 0
      · rw [h0] at e
        obtain rfl : y = z := by simpa using e
        have : i = acc.length := by omega
        subst this
        exact h1
      · rw [List.getElem?_eq_none (by simp; omega)] at e
        cases e
/-- with a test -/
theorem LcG.genIf (P : Nat → List D → Prop) (R : Mp → Prop) (hn : n ≤ sizeLine) (h0 : R M1) (hP0 : P 0 []) (hG : ∀ M', R M' → G M') (hlen : ∀ k acc, P k acc → acc.length ≤ k)
    (hs : ∀ k acc x M', k < n → Y k x → P k acc → R M' → ∀ (Q' : KD) (Q'' : Mp → Prop), (∀ y M'', P (k + 1) (acc ++ [y]) → R M'' → Q' y M'') → (∀ M'', P (k + 1) acc → R M'' → Q'' M'') →
      match g x ρ with | some ρ2 => tt ρ2 M' fun b M2 => br b (te ρ2 M2 Q') (Q'' M2) | none => False)
    (hq : ∀ acc M' p, P n acc → R M' → M' p = none → Q (.ref p) (updM M' p (.lst acc))) : LcG n Y G g tt te ρ M1 Q := by
  refine ⟨fun k acc M' => P k acc ∧ R M', ⟨hP0, h0⟩, fun k acc M' _ z => hG M' z.2, ?_, fun acc M' z p hp => hq acc M' p z.1 z.2 hp⟩
  rintro k acc x M' hk hy ⟨hP, hR⟩
  have hl := hlen k acc hP
  have z := hs k acc x M' hk hy hP hR (fun y M3 => acc.length < sizeLine ∧ P (k + 1) (acc ++ [y]) ∧ R M3) (fun M3 => P (k + 1) acc ∧ R M3) (fun y M3 h1 h2 => ⟨by omega, h1, h2⟩) fun M3 h1 h2 => ⟨h1, h2⟩
  cases eg : g x ρ with
  | none => rw [eg] at z; exact z.elim
  | some ρ2 => rw [eg] at z; exact z
/-- [f(a) for a in xs] -/
theorem LcG.mapL {α : Type} {xs : List α} {F : α → D} (f : α → D) (R : Mp → Prop) (hn : xs.length ≤ sizeLine) (h0 : R M1) (hG : ∀ M', R M' → G M')
    (hs : ∀ a M', a ∈ xs → R M' → ∀ Q' : KD, (∀ M'', R M'' → Q' (f a) M'') → match g (F a) ρ with | some ρ2 => te ρ2 M' Q' | none => False)
    (hq : ∀ M' p, R M' → M' p = none → Q (.ref p) (updM M' p (.lst (xs.map f)))) : LcG (xs.map F).length (yL (xs.map F)) G g tYesD te ρ M1 Q := by
  refine .gen (fun k y => ∃ a, xs[k]? = some a ∧ y = f a) R (by rw [List.length_map]; exact hn) h0 hG (fun k x M' hk hy hR Q' hQ => ?_) fun acc M' p hl hP hR hp => ?_
  · obtain ⟨hk', rfl⟩ := getD_map hy
    exact hs _ M' (List.getElem_mem hk') hR Q' fun M'' hR' => hQ _ _ ⟨_, List.getElem?_eq_getElem hk', rfl⟩ hR'
  · have : acc = xs.map f := by
      apply List.ext_getElem?
      intro i
      rw [List.length_map] at hl
      by_cases hi : i < xs.length
      · have e : acc[i]? = some (acc[i]'(by omega)) := List.getElem?_eq_getElem (by omega)
        obtain ⟨a, h1, h2⟩ := hP i _ e
        rw [e, List.getElem?_map, h1, h2]
        rfl
      · rw [List.getElem?_eq_none (by omega), List.getElem?_eq_none (by rw [List.length_map]; omega)]
    rw [this]
    exact hq M' p hR hp
/-- [f(a) for a in xs if c(a)] -/
theorem LcG.filtL {α : Type} {xs : List α} {F : α → D} (c : α → Bool) (f : α → D) (R : Mp → Prop) (hn : xs.length ≤ sizeLine) (h0 : R M1) (hG : ∀ M', R M' → G M')
    (hs : ∀ a M', a ∈ xs → R M' → ∀ (Q' : KD) (Q'' : Mp → Prop), (c a = true → ∀ M'', R M'' → Q' (f a) M'') → (c a = false → ∀ M'', R M'' → Q'' M'') → match g (F a) ρ with | some ρ2 => tt ρ2 M' fun b M2 => br b (te ρ2 M2 Q') (Q'' M2) | none => False)
    (hq : ∀ M' p, R M' → M' p = none → Q (.ref p) (updM M' p (.lst ((xs.filter c).map f)))) : LcG (xs.map F).length (yL (xs.map F)) G g tt te ρ M1 Q := by
  refine .genIf (fun k acc => acc = ((xs.take k).filter c).map f) R (by rw [List.length_map]; exact hn) h0 rfl hG (fun k acc e => ?_) (fun k acc x M' hk hy hP hR Q' Q'' hQ' hQ'' => ?_) fun acc M' p hP hR hp => ?_
  · rw [e, List.length_map]
    exact Nat.le_trans (List.length_filter_le ..) (by rw [List.length_take]; omega)
  · obtain ⟨hk', rfl⟩ := getD_map hy
    refine hs _ M' (List.getElem_mem hk') hR Q' Q'' (fun e M'' hR' => hQ' _ _ ?_ hR') fun e M'' hR' => hQ'' _ ?_ hR'
    · rw [hP, List.take_succ_eq_append_getElem hk', List.filter_append, List.map_append, List.filter_cons, if_pos e]
      rfl
    · rw [hP, List.take_succ_eq_append_getElem hk', List.filter_append, List.filter_cons, if_neg (by rw [e]; decide)]
      simp
  · rw [List.length_map, List.take_length] at hP
    rw [hP]
    exact hq M' p hR hp
theorem rg_getE {n k : Nat} (h : k < (rg n).length) : (rg n)[k] = (k : Int) := by
  have := rg_get (s := n) (k := k) (by rw [rg_length] at h; exact h)
  rw [List.getElem?_eq_getElem h] at this
  exact Option.some.inj this
theorem yR_rg {n k : Nat} {x : D} (hk : k < n) (h : yR 0 k x) : yL ((rg n).map D.int) k x := by
  unfold yL
  rw [List.getElem?_map, rg_get hk]
  unfold yR at h
  rw [h, Int.zero_add]
  rfl
/-- [f(i) for i in range(n)] -/
theorem LcG.mapR (f : Int → D) (R : Mp → Prop) (hn : n ≤ sizeLine) (h0 : R M1) (hG : ∀ M', R M' → G M')
    (hs : ∀ i M', 0 ≤ i → i < (n : Int) → R M' → ∀ Q' : KD, (∀ M'', R M'' → Q' (f i) M'') → match g (.int i) ρ with | some ρ2 => te ρ2 M' Q' | none => False)
    (hq : ∀ M' p, R M' → M' p = none → Q (.ref p) (updM M' p (.lst ((rg n).map f)))) : LcG n (yR 0) G g tYesD te ρ M1 Q := by
  have z := LcG.mapL (G := G) (g := g) (te := te) (ρ := ρ) (M1 := M1) (Q := Q) (xs := rg n) (F := D.int) f R (by rw [rg_length]; exact hn) h0 hG (fun a M' ha hR Q' hQ => hs a M' (rg_mem.mp ha).1 (rg_mem.mp ha).2 hR Q' hQ) hq
  obtain ⟨Pv, a, b, c, d⟩ := z
  rw [List.length_map, rg_length] at b c d
  exact ⟨Pv, a, b, fun k acc x M hk hy => c k acc x M hk (yR_rg hk hy), d⟩
theorem LcG.filtR (c : Int → Bool) (f : Int → D) (R : Mp → Prop) (hn : n ≤ sizeLine) (h0 : R M1) (hG : ∀ M', R M' → G M')
    (hs : ∀ i M', 0 ≤ i → i < (n : Int) → R M' → ∀ (Q' : KD) (Q'' : Mp → Prop), (c i = true → ∀ M'', R M'' → Q' (f i) M'') → (c i = false → ∀ M'', R M'' → Q'' M'') → match g (.int i) ρ with | some ρ2 => tt ρ2 M' fun b M2 => br b (te ρ2 M2 Q') (Q'' M2) | none => False)
    (hq : ∀ M' p, R M' → M' p = none → Q (.ref p) (updM M' p (.lst (((rg n).filter c).map f)))) : LcG n (yR 0) G g tt te ρ M1 Q := by
  have z := LcG.filtL (G := G) (g := g) (tt := tt) (te := te) (ρ := ρ) (M1 := M1) (Q := Q) (xs := rg n) (F := D.int) c f R (by rw [rg_length]; exact hn) h0 hG (fun a M' ha hR Q' Q'' hQ hQ' => hs a M' (rg_mem.mp ha).1 (rg_mem.mp ha).2 hR Q' Q'' hQ hQ') hq
  obtain ⟨Pv, a, b, c, d⟩ := z
  rw [List.length_map, rg_length] at b c d
  exact ⟨Pv, a, b, fun k acc x M hk hy => c k acc x M hk (yR_rg hk hy), d⟩
end
section
variable {n : Nat} {Y : Nat → D → Prop} {G : Mp → Prop} {g : TGD} {tb : TSD} {E : EndD} {ρ : DSt} {M1 : Mp}
/-- for a in xs -/
theorem ForG.seqL {α : Type} {xs : List α} {F : α → D} (Pv : Nat → DSt → Mp → Prop) (h0 : Pv 0 ρ M1) (hG : ∀ i ρ M, i ≤ xs.length → Pv i ρ M → G M)
    (hs : ∀ k ρ M (hk : k < xs.length), Pv k ρ M → g (F xs[k]) ρ M fun ρ2 M2 => tb { E with nx := Pv (k + 1), ct := Pv (k + 1), bk := E.nx } ρ2 M2) (hq : ∀ ρ M, Pv xs.length ρ M → E.nx ρ M) : ForG (xs.map F).length (yL (xs.map F)) G g tb E ρ M1 := by
  refine ⟨Pv, h0, fun i ρ M hi z => hG i ρ M (by rw [List.length_map] at hi; exact hi) z, fun k x ρ M hk hy z => ?_, fun ρ M z => hq ρ M (by rw [List.length_map] at z; exact z)⟩
  obtain ⟨hk', rfl⟩ := getD_map hy
  exact hs k ρ M hk' z
/-- for i in range(n) -/
theorem ForG.rngL (Pv : Nat → DSt → Mp → Prop) (h0 : Pv 0 ρ M1) (hG : ∀ i ρ M, i ≤ n → Pv i ρ M → G M)
    (hs : ∀ (k : Nat) ρ M, k < n → Pv k ρ M → g (.int (k : Int)) ρ M fun ρ2 M2 => tb { E with nx := Pv (k + 1), ct := Pv (k + 1), bk := E.nx } ρ2 M2) (hq : ∀ ρ M, Pv n ρ M → E.nx ρ M) : ForG n (yR 0) G g tb E ρ M1 := by
  refine ⟨Pv, h0, hG, fun k x ρ M hk hy z => ?_, hq⟩
  unfold yR at hy
  rw [Int.zero_add] at hy
  subst hy
  exact hs k ρ M hk z
/-- the same holds all along -/
theorem ForG.all (Pv : DSt → Mp → Prop) (h0 : Pv ρ M1) (hG : ∀ ρ M, Pv ρ M → G M) (hs : ∀ k x ρ M, k < n → Y k x → Pv ρ M → g x ρ M fun ρ2 M2 => tb { E with nx := Pv, ct := Pv, bk := E.nx } ρ2 M2) (hq : ∀ ρ M, Pv ρ M → E.nx ρ M) : ForG n Y G g tb E ρ M1 :=
  ⟨fun _ => Pv, h0, fun _ ρ M _ z => hG ρ M z, fun k x ρ M hk hy z => hs k x ρ M hk hy z, hq⟩
end
/-- draws: the bag stays a bag, all else stays -/
structure Bg (l : Addr) (M M' : Mp) : Prop where
  bag : Bag M' l
  ext : Ext l M M'
theorem Bg.refl {l : Addr} {M : Mp} (h : Bag M l) : Bg l M M := ⟨h, .refl⟩
theorem Bg.trans {l : Addr} {M M1 M2 : Mp} (a : Bg l M M1) (b : Bg l M1 M2) : Bg l M M2 := ⟨b.bag, a.ext.trans b.ext⟩
theorem Bg.new {l p : Addr} {M M1 : Mp} {o : MO} (a : Bg l M M1) (h : M1 p = none) : Bg l M (updM M1 p o) := ⟨a.bag.new h, a.ext.trans (.new h)⟩
theorem Bg.keep {l : Addr} {M M1 M2 : Mp} (a : Bg l M M1) (k : Keep M1 M2) : Bg l M M2 := ⟨a.bag.keep k, a.ext.trans k.ext⟩
theorem Bg.updN {l p : Addr} {M M1 : Mp} {o : MO} (a : Bg l M M1) (hp : M p = none) (hl : l ≠ p) : Bg l M (updM M1 p o) := ⟨a.bag.upd hl, a.ext.updN hp⟩
theorem Ext.at_ {l p : Addr} {M M' : Mp} {o : MO} (h : Ext l M M') (hp : p ≠ l) (e : M p = some o) : M' p = some o := h p o hp e
theorem Bg.none {l p : Addr} {M M' : Mp} (h : Bg l M M') (hl : p ≠ l) (e : M' p = none) : M p = none := by
  cases hM : M p with
  | none => rfl
  | some o => rw [h.ext p o hl hM] at e; cases e
theorem Keep.none {p : Addr} {M M' : Mp} (h : Keep M M') (e : M' p = Option.none) : M p = Option.none := by
  cases hM : M p with
  | none => rfl
  | some o => rw [h p o hM] at e; cases e
end DL
namespace DL
open PySem L2
/-! ### == of whole numbers in rows -/
theorem depth_ints : ∀ xs : List Int, PyData.depthAll (xs.map .int) = 0
  | [] => by simp [PyData.depthAll]
  | x :: xs => by simp [PyData.depthAll, PyData.depth, depth_ints xs]
theorem lay_ints : ∀ xs : List Int, PyData.canLayAll0 (xs.map .int) = true
  | [] => by simp [PyData.canLayAll0]
  | x :: xs => by simp [PyData.canLayAll0, PyData.canLay0, lay_ints xs]
theorem shaped_LI (xs : List Int) : SeqAt.shaped (pLI xs) = true := by
  simp [SeqAt.shaped, PyData.canLay0, lay_ints, PyData.depth, depth_ints]
theorem shaped_I (xs : List Int) : SeqAt.shaped (pI xs) = true := by
  simp [SeqAt.shaped, PyData.canLay0, lay_ints, PyData.depth, depth_ints]
theorem lay_IIs : ∀ xs : List (List Int), PyData.canLayAll0 (xs.map pI) = true ∧ PyData.depthAll (xs.map pI) ≤ 1
  | [] => by simp [PyData.canLayAll0, PyData.depthAll]
  | x :: xs => by
    have := lay_IIs xs
    simp [PyData.canLayAll0, PyData.canLay0, lay_ints, PyData.depthAll, PyData.depth, depth_ints, this.1]
    omega
theorem shaped_II (xs : List (List Int)) : SeqAt.shaped (pII xs) = true := by
  have := lay_IIs xs
  simp [SeqAt.shaped, PyData.canLay0, PyData.depth, this.1]
  omega
theorem eqLI {M : Mp} {p q : Addr} {xs ys : List Int} {neg : Bool} {Q : KD} (h1 : M p = some (.lst (xs.map D.int))) (h2 : M q = some (.lst (ys.map D.int))) (h : Q (.bl (sg neg (decide (xs = ys)))) M) :
    ∃ a b, Rdm M (.ref p) a ∧ Rdm M (.ref q) b ∧ SeqAt.shaped a = true ∧ SeqAt.shaped b = true ∧ Q (.bl (sg neg (PyData.eqv a b))) M :=
  ⟨pLI xs, pLI ys, rdm_LI h1, rdm_LI h2, shaped_LI _, shaped_LI _, by rw [eqv_LI]; exact h⟩
theorem eqI {M : Mp} {xs ys : List Int} {neg : Bool} {Q : KD} (h : Q (.bl (sg neg (decide (xs = ys)))) M) :
    ∃ a b, Rdm M (dI xs) a ∧ Rdm M (dI ys) b ∧ SeqAt.shaped a = true ∧ SeqAt.shaped b = true ∧ Q (.bl (sg neg (PyData.eqv a b))) M :=
  ⟨pI xs, pI ys, rdm_I _, rdm_I _, shaped_I _, shaped_I _, by rw [eqv_I]; exact h⟩
theorem eqII {M : Mp} {xs ys : List (List Int)} {neg : Bool} {Q : KD} (h : Q (.bl (sg neg (decide (xs = ys)))) M) :
    ∃ a b, Rdm M (dII xs) a ∧ Rdm M (dII ys) b ∧ SeqAt.shaped a = true ∧ SeqAt.shaped b = true ∧ Q (.bl (sg neg (PyData.eqv a b))) M :=
  ⟨pII xs, pII ys, rdm_II _, rdm_II _, shaped_II _, shaped_II _, by rw [eqv_II]; exact h⟩
theorem sg_ne {α : Type} [DecidableEq α] (x : α) : sg true (decide (x = x)) = false := by simp [sg]
theorem sg_eq {α : Type} [DecidableEq α] (x : α) : sg false (decide (x = x)) = true := by simp [sg]
/-! ### ways -/
theorem IsWay.place {w : List Int} (h : IsWay w) : w.length = 3 ∧ (∀ p ∈ w, 0 ≤ p ∧ p < 3) ∧ ∀ i j k : Int, w.map (tri i j k) = [tri i j k (at0 w 0), tri i j k (at0 w 1), tri i j k (at0 w 2)] := by
  rcases h with rfl | rfl | rfl | rfl | rfl | rfl <;> exact ⟨rfl, by decide, fun _ _ _ => rfl⟩
theorem at_tri {i j k p : Int} (h0 : 0 ≤ p) (h1 : p < 3) : atI [D.int i, D.int j, D.int k] p = some (.int (tri i j k p)) := by
  have : p = 0 ∨ p = 1 ∨ p = 2 := by omega
  rcases this with rfl | rfl | rfl <;> rfl
theorem way_mem {w : List Int} (h : IsWay w) {p : Int} (h0 : 0 ≤ p) (h1 : p < 3) : p ∈ w := by
  have : p = 0 ∨ p = 1 ∨ p = 2 := by omega
  rcases h with rfl | rfl | rfl | rfl | rfl | rfl <;> rcases this with rfl | rfl | rfl <;> decide
theorem IsWay.in_ {w : List Int} (h : IsWay w) {p : Int} (h0 : 0 ≤ p) (h1 : p < 3) : 0 ≤ at0 w p ∧ at0 w p < 3 := by
  have : p = 0 ∨ p = 1 ∨ p = 2 := by omega
  rcases h with rfl | rfl | rfl | rfl | rfl | rfl <;> rcases this with rfl | rfl | rfl <;> decide
def ways : List (List Int) := [[0, 1, 2], [0, 2, 1], [1, 0, 2], [1, 2, 0], [2, 0, 1], [2, 1, 0]]
theorem ways_way {w : List Int} (h : w ∈ ways) : IsWay w := by
  simp only [ways, List.mem_cons, List.not_mem_nil, or_false] at h
  exact h
def backW (w : List Int) : List Int := (rg 3).map fun p => ((w.idxOf p : Nat) : Int)
def turnsTo (n : Nat) (t T : List (List Int)) (w : List Int) : Prop := ∀ i j k, Gives n t i j k → Gives n T (tri i j k (at0 w 0)) (tri i j k (at0 w 1)) (tri i j k (at0 w 2))
theorem backW_way {w : List Int} (h : IsWay w) : IsWay (backW w) := by
  rcases h with rfl | rfl | rfl | rfl | rfl | rfl <;> unfold IsWay <;> decide
theorem turn_back {n : Nat} {t T : List (List Int)} {w : List Int} (h : IsTab n t) (hT : IsTab n T) (hw : IsWay w) (g : turnsTo n t T w) : turnsTo n T t (backW w) := by
  intro a b c gT
  obtain ⟨i, j, k, gt, e1, e2⟩ := turn_onto h hw gT.1 gT.2.1 gT.2.2.1 gT.2.2.2.1
  have g2 := g i j k gt
  have e3 : tri i j k (at0 w 2) = c := by
    rw [e1, e2] at g2
    exact g2.2.2.2.2.symm.trans gT.2.2.2.2
  subst e1 e2 e3
  have e : ∀ p : Int, p = 0 ∨ p = 1 ∨ p = 2 → tri (tri i j k (at0 w 0)) (tri i j k (at0 w 1)) (tri i j k (at0 w 2)) (at0 (backW w) p) = tri i j k p := by
    intro p hp
    rcases hw with rfl | rfl | rfl | rfl | rfl | rfl <;> rcases hp with rfl | rfl | rfl <;> rfl
  rw [e 0 (by decide), e 1 (by decide), e 2 (by decide)]
  exact gt
def compW (w v : List Int) : List Int := [at0 w (at0 v 0), at0 w (at0 v 1), at0 w (at0 v 2)]
theorem compW_way {w v : List Int} (h : IsWay w) (h' : IsWay v) : IsWay (compW w v) := by
  rcases h with rfl | rfl | rfl | rfl | rfl | rfl <;> rcases h' with rfl | rfl | rfl | rfl | rfl | rfl <;> unfold IsWay <;> decide
theorem turn_comp {n : Nat} {t T T' : List (List Int)} {w v : List Int} (hw : IsWay w) (hv : IsWay v) (g : turnsTo n t T w) (g' : turnsTo n T T' v) : turnsTo n t T' (compW w v) := by
  intro i j k gt
  have g2 := g' _ _ _ (g i j k gt)
  have e : ∀ p : Int, p = 0 ∨ p = 1 ∨ p = 2 → tri (tri i j k (at0 w 0)) (tri i j k (at0 w 1)) (tri i j k (at0 w 2)) p = tri i j k (at0 w p) := by
    intro p hp
    rcases hp with rfl | rfl | rfl <;> rfl
  have hv' : ∀ p : Int, p = 0 ∨ p = 1 ∨ p = 2 → at0 v p = 0 ∨ at0 v p = 1 ∨ at0 v p = 2 := fun p hp => by
    have := hv.in_ (p := p) (by omega) (by omega)
    omega
  rw [e _ (hv' 0 (by decide)), e _ (hv' 1 (by decide)), e _ (hv' 2 (by decide))] at g2
  exact g2
end DL

/-! enumerate over tuples. -/
namespace DL
open PySem PySem.Spec PyProof.Rows L2
open Sem (wp)
theorem meets_enum_newB {v : Value} {o : Obj} {H : Heap → Prop} (B : Begins v o H) :
    Meets (Builtin.«enumerate.__new__» ⟨[.type "enumerate", v], []⟩) (fun _ R s => H s.heap ∧
      R (.ok (.ret (.ref (s.heap.push o).objs.size))) { s with heap := (s.heap.push o).push { cls := .type "enumerate", data := .fields #[.none, .bool false, .ref s.heap.objs.size, rawInt 0, .none, .none] } }) :=
  .of_wp fun prog w A R s h => by
    obtain ⟨hp, g, d, tk, os⟩ := s; obtain ⟨h1, h⟩ := h
    have hsub := sub_enumerate
    have q1 : ∀ {A' : Around} {E : Value → Shared → Prop} {Q : Value → Shared → Prop}, Q (.ref hp.objs.size) ⟨hp.push o, g, d, tk, os⟩ → wpAny (model prog w) A' (pyIter v) Q E ⟨hp, g, d, tk, os⟩ :=
      fun q => B.iter prog w _ _ ⟨hp, g, d, tk, os⟩ _ h1 q
    wp_walk using q1
    refine wpAny_stack_any fun st => wpAny_pure ?_
    split
    · rename_i c _ _ _ _ _
      cases (c == Value.type "enumerate")
      · wp_walk using q1
        exact ⟨_, rfl, h⟩
      · wp_walk using q1
        exact ⟨_, rfl, h⟩
    · wp_walk using q1
      exact ⟨_, rfl, h⟩
section
variable {prog : Program} {w : World} {A : Around} {E : Value → Shared → Prop} {s : Shared}
theorem enum_begin1 {v : Value} {o : Obj} {H : Heap → Prop} {Q : Value → Shared → Prop} (B : Begins v o H) (h1 : H s.heap)
    (h : ∀ h', IsEnum h' (s.heap.objs.size + 1) s.heap.objs.size 0 .none → h'.get? s.heap.objs.size = some o → h'.objs.size = s.heap.objs.size + 2 →
      (∀ b o, s.heap.get? b = some o → h'.get? b = some o) → Q (.ref (s.heap.objs.size + 1)) { s with heap := h' }) :
    wpAny (model prog w) A (call (.type "enumerate") [v]) Q E s := by
  refine callType_new F.called_enumerate (by decide) (F.typeCall_enumerate_1 _) (F.newCall_enumerate_1 _) (fun obj => F.args_object_init_2 obj _) F.entry_enumerate_new
    (meets_enum_newB B) ⟨h1, ?_⟩
  have hz : (s.heap.push o).objs.size = s.heap.objs.size + 1 := Heap.size_push ..
  show _ ∧ _
  rw [hz]
  have he : IsEnum ((s.heap.push o).push { cls := .type "enumerate", data := .fields #[.none, .bool false, .ref s.heap.objs.size, rawInt 0, .none, .none] }) (s.heap.objs.size + 1) s.heap.objs.size 0 .none := by
    have := Heap.get?_push_size (s.heap.push o) (o := { cls := .type "enumerate", data := .fields #[.none, .bool false, .ref s.heap.objs.size, rawInt 0, .none, .none] }) rfl
    rw [hz] at this; exact this
  refine ⟨⟨_, he, rfl⟩, h _ he (Heap.get?_push_of_some _ (Heap.get?_push_size _ B.free)) (by rw [Heap.size_push, hz]) fun b o x => Heap.get?_push_of_some _ (Heap.get?_push_of_some _ x)⟩
end
def IteT (K : PySem.W.Frag) (a : Addr) : It :=
  ⟨fun i H => ∃ (xs : List V) (x : V), SqT K H a xs ∧ xs[i]? = some x, fun i H v H' => ∃ T x, v = .ref T ∧ H T = none ∧ H' = upd H T (.tup [.int (i : Nat), x]) ∧ ∀ xs, SqT K H a xs → xs[i]? = some x, fun i H => ∃ xs : List V, SqT K H a xs ∧ xs.length ≤ i⟩
theorem tup_ne_iter {h : Heap} {t it : Addr} {items : Array Value} {i : Nat} (p : h.IsTuple t items) (q : h.IsTupleIter it t i) : t ≠ it := by
  rintro rfl
  obtain ⟨o, h1, h2, h3⟩ := p
  obtain ⟨o', h1', h2', h3'⟩ := q
  rw [h1] at h1'; cases h1'
  rw [h2] at h2'
  simp at h2'
theorem tup_ne_enum {h : Heap} {t e it : Addr} {items : Array Value} {i : Int} {old : Value} (p : h.IsTuple t items) (q : IsEnum h e it i old) : e ≠ t := by
  rintro rfl
  obtain ⟨o, h1, h2, h3⟩ := p
  have q : h.get? e = _ := q
  rw [h1] at q; cases q
  simp at h2
theorem turn_enumT {P : Program} {w : World} {K : PySem.W.Frag} {elts : List Expr} {kk : Nat} {tpos : Pos} (a e it : Addr) :
    Turn P w K (.Tuple elts kk tpos) (IteT K a) [e, it] e (fun i h => (∃ old, IsEnum h e it ((i : Nat) : Int) old) ∧ h.IsTupleIter it a i ∧ e ≠ it) where
  mem := by simp
  obj := fun i h st b hb => by
    obtain ⟨⟨old, he⟩, ⟨o, ho, hc, hd⟩, _⟩ := st
    have e' : b = e ∨ b = it := by simpa using hb
    rcases e' with z | z
    · rw [z]; exact ⟨_, he, fun v q => nomatch q⟩
    · rw [z]; exact ⟨o, ho, fun v q => by rw [hd] at q; cases q⟩
  keep := fun i h h' st k => let ⟨⟨old, he⟩, hi, hne⟩ := st; ⟨⟨old, k e (by simp) _ he⟩, hi.at fun o q => k it (by simp) o q, hne⟩
  item := by
    intro X hP hw hK hc i pins s σ H E I hf st hg
    subst hP hw hK
    obtain ⟨⟨old, he⟩, hit, hne⟩ := st
    obtain ⟨xs, x, hq, hx⟩ := hg
    obtain ⟨its, rv, p, hz⟩ := I.tuple hq
    obtain ⟨u, hu, ru⟩ := rv.get hx
    have p : s.heap.IsTuple a its.toArray := p
    have hel : e < s.heap.objs.size := Heap.lt_size he
    have hil : it < s.heap.objs.size := by obtain ⟨_, q, _⟩ := hit; exact Heap.lt_size q
    have hai := tup_ne_iter p hit
    have hae := tup_ne_enum p he
    have hhd : X.A.in1.handled = none := I.ok.hd hc
    refine wpAny_pyNext_enum_itemD (Draws.tuple hhd it a hai its.toArray) he ⟨hit, p⟩ (by
      have := (List.getElem?_eq_some_iff.mp hu).1
      simpa using this) hne (by simp [hne, hae]) fun v h' tk hv ho hst' hT hsz hk => ?_
    obtain rfl : u = v := by
      have : its[i]? = some v := by simpa using hv
      rw [hu] at this
      exact Option.some.inj this
    have hit' := hst'.1
    refine ⟨_, rfl, wpAny_letOwnedTupleGo_enum (s := { s with heap := h', toks := tk + 1 }) ho fun h'' he' sb => ?_⟩
    have hT2 : h''.get? s.heap.objs.size = some { cls := .type "tuple", data := .seq #[.int i tk, u] } := (sb.2 _ (Nat.ne_of_gt hel)).trans hT
    have new : ObjOk X.prog X.w (upd H s.heap.objs.size (.tup [.int (i : Nat), x])) h'' s.heap.objs.size (.tup [.int (i : Nat), x]) :=
      ⟨by show 2 ≤ sizeLine; decide, [.int i tk, u], .cons ⟨_, rfl⟩ (.cons ru .nil), ⟨_, hT2, rfl, _, rfl⟩⟩
    have I1 : Inv X pins σ (upd H s.heap.objs.size (.tup [.int (i : Nat), x])) { s with heap := h'', toks := tk + 1 } :=
      I.turnedNew (ch := [e, it]) (fun b ob hb q => (sb.2 b (fun z => hb (by simp [z]))).trans (hk b ob (fun z => hb (by simp [z])) (fun z => hb (by simp [z])) q)) hf (Nat.le_refl _) new
    refine ⟨.ref s.heap.objs.size, _, I1, rfl, ⟨_, x, rfl, I.hok.fresh (Nat.le_refl _), rfl, fun ys hy => by rw [I.tuple_inj hy hq]; exact hx⟩, ⟨⟨u, ?_⟩, hit'.at fun o q => (sb.2 it (Ne.symm hne)).trans q, hne⟩, fun b hb => ?_⟩
    · have e1 : ((i + 1 : Nat) : Int) = (i : Int) + 1 := by omega
      rw [e1]; exact he'
    · have hb' : b < s.heap.objs.size := by
        have e' : b = e ∨ b = it := by simpa using hb
        rcases e' with z | z
        · rw [z]; exact hel
        · rw [z]; exact hil
      rw [upd_ne (Nat.ne_of_lt hb')]
      exact (hf b hb).1
  done := by
    intro X hP hw hK hc i pins s σ H E I hf st hg
    subst hP hw hK
    obtain ⟨⟨old, he⟩, hit, hne⟩ := st
    obtain ⟨xs, hq, hx⟩ := hg
    obtain ⟨its, rv, p, hz⟩ := I.tuple hq
    have p : s.heap.IsTuple a its.toArray := p
    obtain ⟨f0, f1, f2, f3, f4, f5⟩ := hf it (by simp)
    have hl := rv.length
    have hai := tup_ne_iter p hit
    have hhd : X.A.in1.handled = none := I.ok.hd hc
    have hT : s.TypeIs (.ref e) "enumerate" := ⟨_, he, rfl⟩
    unfold pyNext
    refine wpAny_bind (wpAny_attempt (wpAny_callSpecial?_slot (name := Str.ofString "__next__") hT F.slot_enumerate_next
      (wpAny_call_entry F.slot_enumerate_next hT F.entry_enumerate_next ?_ (F.args_enumerate_next_1 _))))
    show wpAny _ _ (field (.ref e) 2 >>= _) _ _ _
    refine wpAny_bind (wpAny_field he rfl (x := .ref it) rfl ?_)
    refine wpAny_bind (wpAny_nextOf_tuple_end hhd hit p (by simp; omega) fun h' x he' hx' => ?_)
    obtain ⟨o, ho, hc⟩ := hx'
    refine wpAny_bind (wpAny_isInstance (T := "StopIteration") (b := true) ⟨o, ho, hc⟩ isSubtype_stop ?_)
    exact wpAny_pure ⟨rfl, I.turned (t' := s.toks) (fun b o hb q => he' b o hb q) f0 f1 f3 f4 f5⟩
  self := fun A i s Q E st h => let ⟨⟨_, he⟩, _⟩ := st; wpAny_pyIter_enum he h
def iEnumA (K : PySem.W.Frag) (ta : TA) : TI := fun σ H R => ta σ H fun vs H1 => (∃ a xs, vs = [.ref a] ∧ SqL K H1 a xs ∧ R (Ite K a) H1) ∨ (∃ a xs, vs = [.ref a] ∧ SqT K H1 a xs ∧ R (IteT K a) H1)
theorem pi_enumA {X : Cx} {e : Expr} {ta : TA} {p pos tpos : Pos} {elts : List Expr} {kk : Nat} (hg : Gl X "enumerate") (hm : X.mg "enumerate" = none) (ha : PA X [e] ta) (hs : starEach [e] X.env = [(false, eval e X.env)] := by rfl) :
    PI X (.Tuple elts kk tpos) (.Call (.Name "enumerate" p) [e] [] pos) (iEnumA X.K ta) := by
  refine ⟨fun pins s σ H R I h => ?_⟩
  refine Call_ (ld_blt I hg hm boot_enumerate (PyProof.Rows.callWith_type1 (thn (ha.run pos pins s σ H _ I h) fun us s1 ⟨vs, H1, I1, r1, q1⟩ => ?_) hs rfl))
  have own : ∀ b ∈ [s1.heap.objs.size + 1, s1.heap.objs.size], FpOk X pins H1 b := fun b hb => by
    have e' : b = s1.heap.objs.size + 1 ∨ b = s1.heap.objs.size := by simpa using hb
    have hle : s1.heap.objs.size ≤ b := by
      rcases e' with z | z
      · rw [z]; exact Nat.le_add_right _ _
      · rw [z]; exact Nat.le_refl _
    exact I1.fpOk hle (I1.hok.fresh hle)
  rcases q1 with ⟨a, xs, rfl, hq, q⟩ | ⟨a, xs, rfl, hq, q⟩
  · cases r1 with
    | cons r rr =>
      cases rr
      cases r
      obtain ⟨its, rv, p', hz⟩ := I1.list hq
      refine call_enumerate_list p'.isList fun h' he hit hsz hk => wpAny_pyIter_enum he ?_
      have I2 : Inv X pins σ H1 { s1 with heap := h' } := I1.kept (t' := s1.toks) hk
      exact ⟨s1.heap.objs.size + 1, [s1.heap.objs.size + 1, s1.heap.objs.size], _, _, H1, rfl, I2, turn_enum a (s1.heap.objs.size + 1) s1.heap.objs.size, ⟨⟨.none, he⟩, hit, Nat.succ_ne_self _⟩, own, q⟩
  · cases r1 with
    | cons r rr =>
      cases rr
      cases r
      obtain ⟨its, rv, p', hz⟩ := I1.tuple hq
      have p' : s1.heap.IsTuple a its.toArray := p'
      refine enum_begin1 (begins_tuple a its.toArray) p' fun h' he hit hsz hk => wpAny_pyIter_enum he ?_
      have I2 : Inv X pins σ H1 { s1 with heap := h' } := I1.kept (t' := s1.toks) hk
      exact ⟨s1.heap.objs.size + 1, [s1.heap.objs.size + 1, s1.heap.objs.size], _, _, H1, rfl, I2, turn_enumT a (s1.heap.objs.size + 1) s1.heap.objs.size, ⟨⟨.none, he⟩, ⟨_, hit, rfl, rfl⟩, Nat.succ_ne_self _⟩, own, q⟩
/-- enumerate of a list or of a tuple -/
def diEnumA (te : TAD) : TID := fun ρ M Q => te ρ M fun ds M1 => match ds with
  | [.ref p] => ∃ ds, M1 p = some (.lst ds) ∧ Q ds.length (yE ds) (fun M => M p = some (.lst ds)) M1
  | [.tup ds] => Q ds.length (yE ds) (fun _ => True) M1
  | _ => False
theorem di_enumA {X : Cx} {e : Expr} {ta : TAD} {p pos tpos : Pos} {elts : List Expr} {kk : Nat} (hg : Gl X "enumerate") (hm : X.mg "enumerate" = none) (ha : DA X [e] ta) (hs : starEach [e] X.env = [(false, eval e X.env)] := by rfl) :
    DI X (.Tuple elts kk tpos) (.Call (.Name "enumerate" p) [e] [] pos) (diEnumA ta) := by
  refine pi_weak (pi_enumA hg hm ha hs) fun σ H R ⟨ρ, M, Q', r, m, h, k⟩ => ?_
  refine ⟨ρ, M, _, r, m, h, fun vs H1 ds M1 fs s q => ?_⟩
  split at q
  · obtain ⟨ds, hp, q⟩ := q
    cases fs with
    | cons f fs =>
      cases fs
      cases f
      obtain ⟨xs0, e0, _⟩ := s.mem.lst hp
      refine .inl ⟨_, xs0, rfl, .of e0, k _ _ _ _ _ _ s ⟨fun i H hi g => ?_, fun H g => ?_, fun i H v H' hi g y => ?_⟩ q⟩
      · obtain ⟨_, M', m', g⟩ := g
        obtain ⟨xs, e, fs⟩ := m'.lst g
        have hi : i < xs.length := by rw [fs.length]; exact hi
        exact ⟨xs, xs[i], .of e, by simp [hi]⟩
      · obtain ⟨_, M', m', g⟩ := g
        obtain ⟨xs, e, fs⟩ := m'.lst g
        exact ⟨xs, .of e, by rw [fs.length]; exact Nat.le_refl _⟩
      · obtain ⟨_, M', m', g⟩ := g
        obtain ⟨xs, e, fs⟩ := m'.lst g
        obtain ⟨T, x, rfl, hT, rfl, y⟩ := y
        obtain ⟨d, e2, fd⟩ := fs.getV (y xs (.of e))
        have z := pr2 hT (.int (i : Nat)) fd
        exact ⟨z.1, _, z.2, d, e2, rfl⟩
  · cases fs with
    | cons f fs =>
      cases fs
      cases f with
      | @tup a xs _ hs fs =>
        refine .inr ⟨_, xs, rfl, hs.t, k _ _ _ _ _ _ s ⟨fun i H hi g => ?_, fun H g => ?_, fun i H v H' hi g y => ?_⟩ q⟩
        · have hi : i < xs.length := by rw [fs.length]; exact hi
          exact ⟨xs, xs[i], (g.1.t _ _ hs).t, by simp [hi]⟩
        · exact ⟨xs, (g.1.t _ _ hs).t, by rw [fs.length]; exact Nat.le_refl _⟩
        · obtain ⟨T, x, rfl, hT, rfl, y⟩ := y
          obtain ⟨d, e2, fd⟩ := fs.getV (y xs (g.1.t _ _ hs).t)
          have z := pr2 hT (.int (i : Nat)) (fd.up g.1)
          exact ⟨z.1, _, z.2, d, e2, rfl⟩
  · exact q.elim
/-- for i, a in enumerate(xs) -/
theorem ForG.enmL {α : Type} {xs : List α} {F : α → D} {G : Mp → Prop} {g : TGD} {tb : TSD} {E : EndD} {ρ : DSt} {M1 : Mp} (Pv : Nat → DSt → Mp → Prop) (h0 : Pv 0 ρ M1) (hG : ∀ i ρ M, i ≤ xs.length → Pv i ρ M → G M)
    (hs : ∀ (k : Nat) ρ M (hk : k < xs.length), Pv k ρ M → g (.pr [.int (k : Int), F xs[k]]) ρ M fun ρ2 M2 => tb { E with nx := Pv (k + 1), ct := Pv (k + 1), bk := E.nx } ρ2 M2) (hq : ∀ ρ M, Pv xs.length ρ M → E.nx ρ M) : ForG (xs.map F).length (yE (xs.map F)) G g tb E ρ M1 := by
  refine ⟨Pv, h0, fun i ρ M hi z => hG i ρ M (by rw [List.length_map] at hi; exact hi) z, fun k x ρ M hk hy z => ?_, fun ρ M z => hq ρ M (by rw [List.length_map] at z; exact z)⟩
  obtain ⟨y, hy, rfl⟩ := hy
  obtain ⟨hk', rfl⟩ := getD_map (show yL (xs.map F) k y from hy)
  exact hs k ρ M hk' z
theorem LcG.enmL {α : Type} {xs : List α} {F : α → D} {G : Mp → Prop} {g : D → DSt → Option DSt} {te : TED} {ρ : DSt} {M1 : Mp} {Q : KD} (f : Nat → α → D) (R : Mp → Prop) (hn : xs.length ≤ sizeLine) (h0 : R M1) (hG : ∀ M', R M' → G M')
    (hs : ∀ (k : Nat) (hk : k < xs.length) M', R M' → ∀ Q' : KD, (∀ M'', R M'' → Q' (f k xs[k]) M'') → match g (.pr [.int (k : Int), F xs[k]]) ρ with | some ρ2 => te ρ2 M' Q' | none => False)
    (hq : ∀ M' p, R M' → M' p = none → Q (.ref p) (updM M' p (.lst (xs.mapIdx f)))) : LcG (xs.map F).length (yE (xs.map F)) G g tYesD te ρ M1 Q := by
  refine .gen (fun k y => ∃ a, xs[k]? = some a ∧ y = f k a) R (by rw [List.length_map]; exact hn) h0 hG (fun k x M' hk hy hR Q' hQ => ?_) fun acc M' p hl hP hR hp => ?_
  · obtain ⟨y, hy, rfl⟩ := hy
    obtain ⟨hk', rfl⟩ := getD_map (show yL (xs.map F) k y from hy)
    exact hs k hk' M' hR Q' fun M'' hR' => hQ _ _ ⟨_, List.getElem?_eq_getElem hk', rfl⟩ hR'
  · have : acc = xs.mapIdx f := by
      apply List.ext_getElem?
      intro i
      rw [List.length_map] at hl
      by_cases hi : i < xs.length
      · have e : acc[i]? = some (acc[i]'(by omega)) := List.getElem?_eq_getElem (by omega)
        obtain ⟨a, h1, h2⟩ := hP i _ e
        rw [e, List.getElem?_mapIdx, h1, h2]
        rfl
      · rw [List.getElem?_eq_none (by omega), List.getElem?_eq_none (by rw [List.length_mapIdx]; omega)]
    rw [this]
    exact hq M' p hR hp
end DL

/-! Squares of things; what kinds of tables there are. -/
namespace DL
open PySem L2
structure SqI (n : Nat) (t : List (List Int)) : Prop where
  len : t.length = n
  row : ∀ r ∈ t, r.length = n ∧ ∀ x ∈ r, 0 ≤ x ∧ x < n
theorem IsTab.sq {n : Nat} {t : List (List Int)} (h : IsTab n t) : SqI n t := ⟨h.len, fun _ hr => ⟨h.rlen hr, fun _ hx => h.mem hr hx⟩⟩
section
variable {n : Nat} {t : List (List Int)}
theorem SqI.rowm (h : SqI n t) {i : Int} (h0 : 0 ≤ i) (h1 : i < n) : rowT t i ∈ t ∧ t[i.toNat]? = some (rowT t i) := by
  have hl := h.len
  have e : t[i.toNat]? = some (rowT t i) := by
    unfold rowT
    rw [List.getElem?_eq_getElem (by omega)]
    rfl
  exact ⟨List.mem_of_getElem? e, e⟩
theorem SqI.atr (h : SqI n t) {i : Int} (h0 : 0 ≤ i) (h1 : i < n) : atI (t.map dI) i = some (dI (rowT t i)) := by
  rw [atI_nn h0 (by rw [List.length_map, h.len]; exact h1), List.getElem?_map, (h.rowm h0 h1).2]
  rfl
theorem SqI.ate (h : SqI n t) {i j : Int} (h0 : 0 ≤ i) (h1 : i < n) (g0 : 0 ≤ j) (g1 : j < n) : atI ((rowT t i).map D.int) j = some (.int (ent t i j)) := atI_ints g0 (by rw [(h.row _ (h.rowm h0 h1).1).1]; exact g1)
theorem SqI.bd (h : SqI n t) {i j : Int} (h0 : 0 ≤ i) (h1 : i < n) (g0 : 0 ≤ j) (g1 : j < n) : 0 ≤ ent t i j ∧ ent t i j < n := by
  have r := h.row _ (h.rowm h0 h1).1
  exact r.2 _ (List.mem_of_getElem? (at0_of (l := rowT t i) g0 (by rw [r.1]; exact g1)))
theorem SqI.sm (h : SqI n t) (hn : n ≤ 100) : Sm 2 131000 (pII t) := by
  refine (sm_II (n := n) fun r hr => ⟨Nat.le_of_eq (h.row r hr).1, fun i hi => ?_⟩).mono (Nat.le_refl _) ?_
  · have := (h.row r hr).2 i hi
    omega
  · rw [h.len]
    calc n * (n * 13 + 1) ≤ 100 * (100 * 13 + 1) := Nat.mul_le_mul hn (by omega)
      _ ≤ 131000 := by decide
def grpI (n : Nat) (t : List (List Int)) (i j : Int) : Bool := (rg n).all fun k => decide (ent t (ent t i j) k = ent t i (ent t j k))
def grpT (n : Nat) (t : List (List Int)) : Bool := (rg n).all fun i => (rg n).all fun j => grpI n t i j
def neuI (n : Nat) (t : List (List Int)) (e : Int) : Bool := (rg n).all fun x => decide (ent t e x = x) && decide (ent t x e = x)
def neuT (n : Nat) (t : List (List Int)) : Option Int := (rg n).find? (neuI n t)
def ownT (n : Nat) (t : List (List Int)) : Bool := (rg n).all fun i => decide (ent t i i = i)
def trnT (n : Nat) (t : List (List Int)) : Bool := (rg n).all fun i => decide ((t.map fun r => at0 r i) = rowT t i)
def kindsT (n : Nat) (t : List (List Int)) : List Str := (if grpT n t = true then [("grouped" : Str)] else []) ++ (if (neuT n t).isSome = true then [("neutral" : Str)] else []) ++ (if ownT n t = true then [("own" : Str)] else []) ++ (if trnT n t = true then [("turned" : Str)] else [])
end
theorem all_map {α : Type} {xs : List α} {f : α → Bool} : (xs.map f).all (fun b => b) = xs.all f := by
  induction xs with
  | nil => rfl
  | cons x xs ih => rw [List.map_cons, List.all_cons, List.all_cons, ih]
theorem any_map {α : Type} {xs : List α} {f : α → Bool} : (xs.map f).any (fun b => b) = xs.any f := by
  induction xs with
  | nil => rfl
  | cons x xs ih => rw [List.map_cons, List.any_cons, List.any_cons, ih]
theorem bl_map {α : Type} {xs : List α} {f : α → Bool} : (xs.map fun a => D.bl (f a)) = (xs.map f).map D.bl := by rw [List.map_map]; rfl
theorem int_map {α : Type} {xs : List α} {f : α → Int} : (xs.map fun a => D.int (f a)) = (xs.map f).map D.int := by rw [List.map_map]; rfl
theorem one_nil {α : Type} {xs : List α} {c : α → Bool} : decide (((xs.filter c).map fun _ => (1 : Int)) = []) = xs.all fun a => !c a := by
  rw [Bool.eq_iff_iff, decide_eq_true_eq, List.map_eq_nil_iff, List.filter_eq_nil_iff, List.all_eq_true]
  exact ⟨fun h a ha => by have := h a ha; simpa using this, fun h a ha => by have := h a ha; simpa using this⟩
theorem all_rg {n : Nat} {f : Int → Bool} : (rg n).all f = true ↔ ∀ i : Int, 0 ≤ i → i < n → f i = true := by
  rw [List.all_eq_true]
  exact ⟨fun h i h0 h1 => h i (rg_mem.mpr ⟨h0, h1⟩), fun h i hi => h i (rg_mem.mp hi).1 (rg_mem.mp hi).2⟩
end DL
namespace DL
open PySem L2
/-- tuple(row) for each row of a grid -/
theorem LcG.rowsG {M0 M1 : Mp} {G : Mp → Prop} {g : D → DSt → Option DSt} {te : TED} {ρ : DSt} {Q : KD} {rs : List Addr} {t : List (List Int)} (gr : Grid M0 M1 rs t) (hn : t.length ≤ sizeLine) (hG : ∀ M', Keep M1 M' → G M')
    (hs : ∀ a r M', a ∈ rs → Keep M1 M' → M' a = some (.lst (r.map D.int)) → ∀ Q' : KD, (∀ M'', Keep M1 M'' → Q' (dI r) M'') → match g (.ref a) ρ with | some ρ2 => te ρ2 M' Q' | none => False)
    (hq : ∀ M' p, Keep M1 M' → M' p = none → Q (.ref p) (updM M' p (.lst (t.map dI)))) : LcG (rs.map D.ref).length (yL (rs.map D.ref)) G g tYesD te ρ M1 Q := by
  have hl := gr.len
  refine .gen (fun k y => ∃ r, t[k]? = some r ∧ y = dI r) (fun M' => Keep M1 M') (by rw [List.length_map]; omega) .refl hG (fun k x M' hk hy hR Q' hQ => ?_) fun acc M' p hl' hP hR hp => ?_
  · obtain ⟨hk', rfl⟩ := getD_map hy
    obtain ⟨a, r, ha, hr, ea⟩ := gr.get (i := k) (by omega)
    rw [List.getElem?_eq_getElem hk'] at ha
    obtain rfl := Option.some.inj ha
    exact hs _ r M' (List.getElem_mem hk') hR (hR _ _ ea) Q' fun M'' hR' => hQ _ _ ⟨r, hr, rfl⟩ hR'
  · rw [List.length_map] at hl'
    have : acc = t.map dI := by
      apply List.ext_getElem?
      intro i
      by_cases hi : i < t.length
      · have e : acc[i]? = some (acc[i]'(by omega)) := List.getElem?_eq_getElem (by omega)
        obtain ⟨a, h1, h2⟩ := hP i _ e
        rw [e, List.getElem?_map, h1, h2]
        rfl
      · rw [List.getElem?_eq_none (by omega), List.getElem?_eq_none (by rw [List.length_map]; omega)]
    rw [this]
    exact hq M' p hR hp
theorem eqF_int {a b : Int} : eqF (.int a) (.int b) = decide (a = b) := by
  simp only [eqF]
  by_cases h : a = b <;> simp [h]
theorem flat_ints (ns : List Int) : (ns.map D.int).all flatD = true := by
  rw [List.all_eq_true]
  intro x hx
  obtain ⟨i, _, rfl⟩ := List.mem_map.mp hx
  rfl
/-- xs.index(x), xs a list of whole numbers -/
theorem idxLI {M : Mp} {p : Addr} {ns : List Int} {x : Int} {Q : KD} (e : M p = some (.lst (ns.map D.int))) (hx : x ∈ ns) (h : Q (.int ((ns.idxOf x : Nat) : Int)) M) :
    ∃ (ys : List D) (j : Nat) (z : D), ((∃ q, D.ref p = .ref q ∧ M q = some (.lst ys)) ∨ D.ref p = .fl ys) ∧ flatD (.int x) = true ∧ ys.all flatD = true ∧ ys[j]? = some z ∧ eqF z (.int x) = true ∧ (∀ (n : Nat) (z' : D), n < j → ys[n]? = some z' → eqF z' (.int x) = false) ∧ Q (.int (j : Nat)) M := by
  have hl := List.idxOf_lt_length_of_mem hx
  refine ⟨ns.map D.int, ns.idxOf x, .int x, .inl ⟨p, rfl, e⟩, rfl, flat_ints _, ?_, by simp [eqF_int], fun n z' hn hz => ?_, h⟩
  · rw [List.getElem?_map, List.getElem?_eq_getElem hl, List.getElem_idxOf]
    rfl
  · rw [List.getElem?_map, List.getElem?_eq_getElem (by omega)] at hz
    obtain rfl := Option.some.inj hz
    rw [eqF_int, decide_eq_false_iff_not]
    intro z
    have h2 := List.not_of_lt_findIdx (p := (· == x)) (xs := ns) (i := n) hn
    exact absurd z (by simpa using h2)
/-! ### data without lists: what is read -/
mutual
def rd : D → PyData
  | .non => .none
  | .bl b => .bool b
  | .int i => .int i
  | .str x => .str x
  | .tup ds => .tuple (rdAll ds)
  | _ => .none
def rdAll : List D → List PyData
  | [] => []
  | d :: ds => rd d :: rdAll ds
end
mutual
def pureD : D → Bool
  | .non => true
  | .bl _ => true
  | .int _ => true
  | .str _ => true
  | .tup ds => pureAll ds
  | _ => false
def pureAll : List D → Bool
  | [] => true
  | d :: ds => pureD d && pureAll ds
end
mutual
theorem rdm_rd {M : Mp} : ∀ d : D, pureD d = true → Rdm M d (rd d)
  | .non, _ => by simp only [rd]; exact .non
  | .bl _, _ => by simp only [rd]; exact .bl _
  | .int _, _ => by simp only [rd]; exact .int _
  | .str _, _ => by simp only [rd]; exact .str _
  | .tup ds, h => by simp only [rd]; exact .tup (rdm_rdAll ds (by simpa [pureD] using h))
  | .fl _, h => by simp [pureD] at h
  | .ref _, h => by simp [pureD] at h
  | .ty _, h => by simp [pureD] at h
  | .pr _, h => by simp [pureD] at h
theorem rdm_rdAll {M : Mp} : ∀ ds : List D, pureAll ds = true → RdmAll M ds (rdAll ds)
  | [], _ => by simp only [rdAll]; exact .nil
  | d :: ds, h => by
    have h' : pureD d = true ∧ pureAll ds = true := by simpa [pureAll] using h
    simp only [rdAll]
    exact .cons (rdm_rd d h'.1) (rdm_rdAll ds h'.2)
end
/-! ### the words for kinds -/
def kindsB (a b c d : Bool) : List Str := (if a = true then [("grouped" : Str)] else []) ++ (if b = true then [("neutral" : Str)] else []) ++ (if c = true then [("own" : Str)] else []) ++ (if d = true then [("turned" : Str)] else [])
theorem kindsT_B (n : Nat) (t : List (List Int)) : kindsT n t = kindsB (grpT n t) (neuT n t).isSome (ownT n t) (trnT n t) := rfl
abbrev dSs (ss : List Str) : D := .tup (ss.map D.str)
abbrev pSs (ss : List Str) : PyData := .tuple (ss.map PyData.str)
theorem rdm_strs {M : Mp} : ∀ ss : List Str, RdmAll M (ss.map D.str) (ss.map PyData.str)
  | [] => .nil
  | _ :: ss => .cons (.str _) (rdm_strs ss)
theorem rdm_Ss {M : Mp} (ss : List Str) : Rdm M (dSs ss) (pSs ss) := .tup (rdm_strs ss)
theorem lay_strs : ∀ xs : List Str, (∀ x ∈ xs, PyData.strOk x = true) → PyData.canLayAll0 (xs.map .str) = true ∧ PyData.depthAll (xs.map .str) = 0
  | [], _ => by simp [PyData.canLayAll0, PyData.depthAll]
  | x :: xs, h => by
    have := lay_strs xs fun y hy => h y (List.mem_cons_of_mem _ hy)
    simp [PyData.canLayAll0, PyData.canLay0, PyData.depthAll, PyData.depth, this, h x List.mem_cons_self]
theorem shaped_Ss (xs : List Str) (h : ∀ x ∈ xs, PyData.strOk x = true) : SeqAt.shaped (pSs xs) = true := by
  have := lay_strs xs h
  simp [SeqAt.shaped, PyData.canLay0, PyData.depth, this]
theorem eqv_strs : ∀ xs ys : List Str, PyData.eqvAll (xs.map .str) (ys.map .str) = decide (xs = ys)
  | [], [] => by simp [PyData.eqvAll]
  | [], _ :: _ => by simp [PyData.eqvAll]
  | _ :: _, [] => by simp [PyData.eqvAll]
  | x :: xs, y :: ys => by
    simp only [List.map_cons, PyData.eqvAll, PyData.eqv, eqv_strs xs ys, List.cons.injEq]
    by_cases h : x = y <;> by_cases h' : xs = ys <;> simp [h, h']
theorem eqv_Ss (xs ys : List Str) : PyData.eqv (pSs xs) (pSs ys) = decide (xs = ys) := by
  simp only [PyData.eqv, eqv_strs]
instance (p : PyData) : Decidable (Shw p) := inferInstanceAs (Decidable (_ ∧ _ ∧ _))
theorem kinds_shaped : ∀ a b c d : Bool, SeqAt.shaped (pSs (kindsB a b c d)) = true := by decide +kernel
theorem kinds_shw : ∀ a b c d : Bool, Shw (.list [pSs (kindsB a b c d), pSs (kindsB a b c d)]) := by decide +kernel
def sumT (n : Nat) : List (List Int) := (rg n).map fun i => (rg n).map fun j => (i + j) % n
theorem sq_of {n : Nat} {f : Int → Int → Int} (h : ∀ i j : Int, 0 ≤ i → i < n → 0 ≤ j → j < n → 0 ≤ f i j ∧ f i j < n) : SqI n ((rg n).map fun i => (rg n).map (f i)) ∧ ∀ i j : Int, 0 ≤ i → i < n → 0 ≤ j → j < n → ent ((rg n).map fun i => (rg n).map (f i)) i j = f i j := by
  refine ⟨⟨by rw [List.length_map, rg_length], fun r hr => ?_⟩, fun i j i0 i1 j0 j1 => ?_⟩
  · obtain ⟨i, hi, rfl⟩ := List.mem_map.mp hr
    have hi := rg_mem.mp hi
    refine ⟨by rw [List.length_map, rg_length], fun x hx => ?_⟩
    obtain ⟨j, hj, rfl⟩ := List.mem_map.mp hx
    have hj := rg_mem.mp hj
    exact h i j hi.1 hi.2 hj.1 hj.2
  · unfold ent rowT at0
    rw [List.getElem?_map, rg_get (by omega)]
    show (((rg n).map (f (i.toNat : Nat)))[j.toNat]?).getD 0 = f i j
    rw [List.getElem?_map, rg_get (by omega), show ((i.toNat : Nat) : Int) = i by omega, show ((j.toNat : Nat) : Int) = j by omega]
    rfl
theorem sumT_sq {n : Nat} : SqI n (sumT n) := (sq_of fun i j i0 i1 j0 j1 => ⟨Int.emod_nonneg _ (by omega), Int.emod_lt_of_pos _ (by omega)⟩).1
theorem sumT_ent {n : Nat} {i j : Int} (i0 : 0 ≤ i) (i1 : i < n) (j0 : 0 ≤ j) (j1 : j < n) : ent (sumT n) i j = (i + j) % n := (sq_of (f := fun i j => (i + j) % n) fun i j i0 i1 j0 j1 => ⟨Int.emod_nonneg _ (by omega), Int.emod_lt_of_pos _ (by omega)⟩).2 i j i0 i1 j0 j1
theorem sumT_kinds {n : Nat} (hn : 2 ≤ n) : kindsT n (sumT n) = [("grouped" : Str), ("neutral" : Str), ("turned" : Str)] := by
  have bd := fun (i j : Int) (i0 : 0 ≤ i) (i1 : i < n) (j0 : 0 ≤ j) (j1 : j < n) => (sumT_sq (n := n)).bd i0 i1 j0 j1
  have h1 : grpT n (sumT n) = true := all_rg.mpr fun i i0 i1 => all_rg.mpr fun j j0 j1 => all_rg.mpr fun k k0 k1 => by
    have b1 := bd i j i0 i1 j0 j1
    have b2 := bd j k j0 j1 k0 k1
    rw [decide_eq_true_eq, sumT_ent b1.1 b1.2 k0 k1, sumT_ent i0 i1 b2.1 b2.2, sumT_ent i0 i1 j0 j1, sumT_ent j0 j1 k0 k1, Int.emod_add_emod, Int.add_emod_emod, Int.add_assoc]
  have h2 : (neuT n (sumT n)).isSome = true := by
    unfold neuT
    rw [List.find?_isSome]
    refine ⟨0, rg_mem.mpr ⟨by omega, by omega⟩, all_rg.mpr fun x x0 x1 => ?_⟩
    rw [sumT_ent (by omega) (by omega) x0 x1, sumT_ent x0 x1 (by omega) (by omega), Int.zero_add, Int.add_zero, Int.emod_eq_of_lt x0 x1]
    simp
  have h3 : ownT n (sumT n) = false := by
    rw [Bool.eq_false_iff]
    intro h
    have := all_rg.mp h 1 (by omega) (by omega)
    rw [decide_eq_true_eq, sumT_ent (by omega) (by omega) (by omega) (by omega)] at this
    rcases Nat.lt_or_eq_of_le hn with z | z
    · rw [Int.emod_eq_of_lt (by omega) (by omega)] at this
      omega
    · rw [← z] at this
      exact absurd this (by decide)
  have h4 : trnT n (sumT n) = true := all_rg.mpr fun i i0 i1 => by
    rw [decide_eq_true_eq]
    apply List.ext_getElem?
    intro j
    have hl := (sumT_sq (n := n)).len
    have r := (sumT_sq (n := n)).rowm i0 i1
    have rl := ((sumT_sq (n := n)).row _ r.1).1
    by_cases hj : j < n
    · have rj := (sumT_sq (n := n)).rowm (i := (j : Int)) (by omega) (by omega)
      have e1 : (sumT n)[j]? = some (rowT (sumT n) j) := rj.2
      have e2 : (rowT (sumT n) i)[j]? = some (ent (sumT n) i j) := at0_of (l := rowT (sumT n) i) (i := (j : Int)) (by omega) (by omega)
      rw [List.getElem?_map, e1, e2]
      show some (ent (sumT n) j i) = _
      rw [sumT_ent (by omega) (by omega) i0 i1, sumT_ent i0 i1 (by omega) (by omega), Int.add_comm]
    · rw [List.getElem?_eq_none (by rw [List.length_map]; omega), List.getElem?_eq_none (by omega)]
  rw [kindsT_B, h1, h2, h3, h4]
  rfl
end DL
namespace DL
open PySem L2
/-! ### a grid's cells -/
def setT (t : List (List Int)) (i j v : Int) : List (List Int) := t.set i.toNat ((rowT t i).set j.toNat v)
theorem SqI.setc {n : Nat} {t : List (List Int)} (h : SqI n t) {i j v : Int} (i0 : 0 ≤ i) (i1 : i < n) (v0 : 0 ≤ v) (v1 : v < n) : SqI n (setT t i j v) := by
  unfold setT
  refine ⟨by rw [List.length_set, h.len], fun r hr => ?_⟩
  rcases List.mem_or_eq_of_mem_set hr with hr | rfl
  · exact h.row r hr
  · have q := h.row _ (h.rowm i0 i1).1
    refine ⟨by rw [List.length_set, q.1], fun x hx => ?_⟩
    rcases List.mem_or_eq_of_mem_set hx with hx | rfl
    · exact q.2 x hx
    · exact ⟨v0, v1⟩
theorem Grid.cell {M0 M : Mp} {rs : List Addr} {t : List (List Int)} {n : Nat} (g : Grid M0 M rs t) (h : SqI n t) {i : Int} (i0 : 0 ≤ i) (i1 : i < n) : ∃ a, rs[i.toNat]? = some a ∧ M a = some (.lst ((rowT t i).map D.int)) ∧ atI (rs.map D.ref) i = some (.ref a) ∧ a ∈ rs := by
  have hl := h.len
  have gl := g.len
  obtain ⟨a, r, ha, hr, ea⟩ := g.get (i := i.toNat) (by omega)
  have := (h.rowm i0 i1).2
  rw [hr] at this
  obtain rfl := Option.some.inj this
  refine ⟨a, ha, ea, ?_, List.mem_of_getElem? ha⟩
  rw [atI_nn i0 (by rw [List.length_map]; omega), List.getElem?_map, ha]
  rfl
theorem Grid.kin {M0 M : Mp} {rs : List Addr} {t : List (List Int)} {n : Nat} (g : Grid M0 M rs t) (h : SqI n t) : ∃ ra : Int → Addr, rs.map D.ref = (rg n).map (fun i => D.ref (ra i)) ∧ ∀ i : Int, 0 ≤ i → i < n → M (ra i) = some (.lst ((rowT t i).map D.int)) := by
  have hl := h.len
  have gl := g.len
  refine ⟨fun i => rs[i.toNat]?.getD 0, ?_, fun i i0 i1 => ?_⟩
  · apply List.ext_getElem?
    intro k
    by_cases hk : k < n
    · rw [List.getElem?_map, List.getElem?_map, rg_get hk, List.getElem?_eq_getElem (by omega)]
      simp only [Option.map_some, Int.toNat_natCast]
      rw [List.getElem?_eq_getElem (by omega)]
      rfl
    · rw [List.getElem?_eq_none (by rw [List.length_map]; omega), List.getElem?_eq_none (by rw [List.length_map, rg_length]; omega)]
  · obtain ⟨a, ha, ea, _⟩ := g.cell h i0 i1
    show M (rs[i.toNat]?.getD 0) = _
    rw [ha]
    exact ea
end DL

/-! Words with marks: plain laws. -/
namespace DL
open PySem L2
theorem cut_drop {ds : List D} {k : Int} (h0 : 0 ≤ k) (h1 : k ≤ ds.length) : cutD ds (some k) none = ds.drop k.toNat := by
  unfold cutD
  have e1 : HT.sIx ds.length ds.length none = ds.length := rfl
  have e2 : HT.sIx ds.length 0 (some k) = k.toNat := by
    simp only [HT.sIx]
    split <;> omega
  rw [e1, e2]
  rw [List.take_of_length_le (by rw [List.length_drop]; omega)]
section
variable {n : Nat} {t : List (List Int)}
theorem SqI.walk (h : SqI n t) : ∀ (ws : List Int) (i : Int), 0 ≤ i → i < n → (∀ x ∈ ws, 0 ≤ x ∧ x < n) → 0 ≤ walkT t i ws ∧ walkT t i ws < n
  | [], _, h0, h1, _ => ⟨h0, h1⟩
  | x :: ws, i, h0, h1, hw => by
    have b := h.bd h0 h1 (hw x List.mem_cons_self).1 (hw x List.mem_cons_self).2
    exact h.walk ws _ b.1 b.2 fun y hy => hw y (List.mem_cons_of_mem _ hy)
theorem ent_injL (h : IsTab n t) {i i' x : Int} (i0 : 0 ≤ i) (i1 : i < n) (i0' : 0 ≤ i') (i1' : i' < n) (x0 : 0 ≤ x) (x1 : x < n) (e : ent t i x = ent t i' x) : i = i' :=
  Gives.two h (⟨i0, i1, x0, x1, rfl⟩ : Gives n t i x (ent t i x)) ⟨i0', i1', x0, x1, e.symm⟩
theorem ent_injR (h : IsTab n t) {i x y : Int} (i0 : 0 ≤ i) (i1 : i < n) (x0 : 0 ≤ x) (x1 : x < n) (y0 : 0 ≤ y) (y1 : y < n) (e : ent t i x = ent t i y) : x = y :=
  Gives.one h (⟨i0, i1, x0, x1, rfl⟩ : Gives n t i x (ent t i x)) ⟨i0, i1, y0, y1, e.symm⟩
theorem walk_inj (h : IsTab n t) : ∀ (ws : List Int) (i j : Int), 0 ≤ i → i < n → 0 ≤ j → j < n → (∀ x ∈ ws, 0 ≤ x ∧ x < n) → walkT t i ws = walkT t j ws → i = j
  | [], _, _, _, _, _, _, _, e => e
  | x :: ws, i, j, i0, i1, j0, j1, hw, e => by
    have hx := hw x List.mem_cons_self
    have b := h.bd i0 i1 hx.1 hx.2
    have b' := h.bd j0 j1 hx.1 hx.2
    exact ent_injL h i0 i1 j0 j1 hx.1 hx.2 (walk_inj h ws _ _ b.1 b.2 b'.1 b'.2 (fun y hy => hw y (List.mem_cons_of_mem _ hy)) e)
theorem walk_app {h : Int} {a b : List Int} : walkT t h (a ++ b) = walkT t (walkT t h a) b := by simp [walkT]
/-- one thing altered -/
theorem walk_alter (h : IsTab n t) {i x w : Int} {a b : List Int} (i0 : 0 ≤ i) (i1 : i < n) (ha : ∀ x ∈ a, 0 ≤ x ∧ x < n) (hb : ∀ x ∈ b, 0 ≤ x ∧ x < n) (hx : 0 ≤ x ∧ x < n) (hw : 0 ≤ w ∧ w < n) :
    walkT t i (a ++ [x] ++ b) = walkT t i (a ++ [w] ++ b) ↔ x = w := by
  refine ⟨fun e => ?_, fun e => by rw [e]⟩
  rw [List.append_assoc, List.append_assoc, walk_app, walk_app, walk_app, walk_app] at e
  have z := h.walk a i i0 i1 ha
  have b1 := h.bd z.1 z.2 hx.1 hx.2
  have b2 := h.bd z.1 z.2 hw.1 hw.2
  exact ent_injR h z.1 z.2 hx.1 hx.2 hw.1 hw.2 (walk_inj h b _ _ b1.1 b1.2 b2.1 b2.2 hb e)
/-! ### triples that are missed -/
def hitT (t : List (List Int)) (x : Int × Int × Int) : Bool := decide (ent t (ent t x.1 x.2.1) x.2.2 = ent t (ent t x.1 x.2.2) x.2.1)
def inR3 (n : Nat) (x : Int × Int × Int) : Prop := 0 ≤ x.1 ∧ x.1 < n ∧ 0 ≤ x.2.1 ∧ x.2.1 < x.2.2 ∧ x.2.2 < n
def le3 (a b : Int × Int × Int) : Prop := a.1 < b.1 ∨ a.1 = b.1 ∧ (a.2.1 < b.2.1 ∨ a.2.1 = b.2.1 ∧ a.2.2 ≤ b.2.2)
def Mis (n : Nat) (t : List (List Int)) : Option (Int × Int × Int) → Prop
  | none => ∀ x, inR3 n x → hitT t x = false
  | some y => inR3 n y ∧ hitT t y = true ∧ ∀ x, inR3 n x → hitT t x = true → le3 y x
theorem Mis.one {a b : Option (Int × Int × Int)} (h : Mis n t a) (h' : Mis n t b) : a = b := by
  match a, b, h, h' with
  | none, none, _, _ => rfl
  | none, some y, h, h' =>
    have := h y h'.1
    rw [h'.2.1] at this
    cases this
  | some y, none, h, h' =>
    have := h' y h.1
    rw [h.2.1] at this
    cases this
  | some (a1, a2, a3), some (b1, b2, b3), h, h' =>
    have l1 := h.2.2 _ h'.1 h'.2.1
    have l2 := h'.2.2 _ h.1 h.2.1
    simp only [le3] at l1 l2
    have : a1 = b1 ∧ a2 = b2 ∧ a3 = b3 := by omega
    rw [this.1, this.2.1, this.2.2]
def d3 : Option (Int × Int × Int) → D
  | none => .non
  | some (h, o, u) => dI [h, o, u]
def p3 : Option (Int × Int × Int) → PyData
  | none => .none
  | some (h, o, u) => pI [h, o, u]
theorem rdm_3 {M : Mp} (r : Option (Int × Int × Int)) : Rdm M (d3 r) (p3 r) := by
  match r with
  | none => exact .non
  | some (h, o, u) => exact rdm_I _
theorem Mis.sm {r : Option (Int × Int × Int)} (h : Mis n t r) (hn : n ≤ 100) : Sm 1 100 (p3 r) := by
  match r, h with
  | none, _ => exact Sm.none.mono (by decide) (by decide)
  | some (a, b, c), h =>
    refine (sm_I (ns := [a, b, c]) fun i hi => ?_).mono (Nat.le_refl _) (by simp)
    have := h.1
    simp only [inR3] at this
    simp only [List.mem_cons, List.not_mem_nil, or_false] at hi
    omega
theorem hit_of_none (h : Mis n t none) {i x y : Int} (i0 : 0 ≤ i) (i1 : i < n) (x0 : 0 ≤ x) (x1 : x < n) (y0 : 0 ≤ y) (y1 : y < n) (hne : x ≠ y) : ent t (ent t i x) y ≠ ent t (ent t i y) x := by
  rcases Int.lt_or_gt_of_ne hne with z | z
  · have := h (i, x, y) ⟨i0, i1, x0, z, y1⟩
    simpa [hitT] using this
  · have := h (i, y, x) ⟨i0, i1, y0, z, x1⟩
    have : ent t (ent t i y) x ≠ ent t (ent t i x) y := by simpa [hitT] using this
    exact fun e => this e.symm
/-! ### tables near a sum -/
def NearT (k n : Nat) (t0 t : List (List Int)) : Prop := ∃ S : List (Int × Int), S.length ≤ k ∧ ∀ i j : Int, 0 ≤ i → i < n → 0 ≤ j → j < n → (i, j) ∉ S → ent t i j = ent t0 i j
theorem NearT.refl {k : Nat} : NearT k n t t := ⟨[], Nat.zero_le _, fun _ _ _ _ _ _ _ => rfl⟩
theorem NearT.mono {k k' : Nat} {t0 : List (List Int)} (h : NearT k n t0 t) (hk : k ≤ k') : NearT k' n t0 t := let ⟨S, a, b⟩ := h; ⟨S, Nat.le_trans a hk, b⟩
theorem ent_swap {r1 r2 : List Int} {one other left right : Nat} {a b : Int} (e1 : t[one]? = some r1) (e2 : t[other]? = some r2) {i j : Int} (i0 : 0 ≤ i) (j0 : 0 ≤ j)
    (h : (i, j) ∉ [((one : Int), (left : Int)), ((one : Int), (right : Int)), ((other : Int), (left : Int)), ((other : Int), (right : Int))]) : ent (swapT t r1 r2 one other left right a b) i j = ent t i j := by
  simp only [List.mem_cons, Prod.mk.injEq, List.not_mem_nil, or_false, not_or, not_and] at h
  have l1 := (List.getElem?_eq_some_iff.mp e1).1
  have l2 := (List.getElem?_eq_some_iff.mp e2).1
  have key : ∀ (r : List Int) (c d : Int), j ≠ left → j ≠ right → at0 ((r.set left c).set right d) j = at0 r j := by
    intro r c d hl hr
    unfold at0
    rw [List.getElem?_set_ne (by omega), List.getElem?_set_ne (by omega)]
  unfold ent rowT swapT
  by_cases z2 : i = other
  · have := h.2.2.1 z2
    have := h.2.2.2 z2
    subst z2
    rw [Int.toNat_natCast, List.getElem?_set_self (by rw [List.length_set]; exact l2), e2]
    exact key r2 _ _ (by assumption) (by assumption)
  · rw [List.getElem?_set_ne (by omega)]
    by_cases z1 : i = one
    · have := h.1 z1
      have := h.2.1 z1
      subst z1
      rw [Int.toNat_natCast, List.getElem?_set_self l1, e1]
      exact key r1 _ _ (by assumption) (by assumption)
    · rw [List.getElem?_set_ne (by omega)]
theorem NearT.swap {k : Nat} {t0 : List (List Int)} (h : NearT k n t0 t) {r1 r2 : List Int} {one other left right : Nat} {a b : Int} (e1 : t[one]? = some r1) (e2 : t[other]? = some r2) : NearT (k + 4) n t0 (swapT t r1 r2 one other left right a b) := by
  obtain ⟨S, hS, hE⟩ := h
  refine ⟨[((one : Int), (left : Int)), ((one : Int), (right : Int)), ((other : Int), (left : Int)), ((other : Int), (right : Int))] ++ S, by simp; omega, fun i j i0 i1 j0 j1 hn => ?_⟩
  rw [List.mem_append, not_or] at hn
  rw [ent_swap e1 e2 i0 j0 hn.1]
  exact hE i j i0 i1 j0 j1 hn.2
theorem nodup_le : ∀ {l m : List Int}, l.Nodup → (∀ x ∈ l, x ∈ m) → l.length ≤ m.length
  | [], _, _, _ => Nat.zero_le _
  | x :: l, m, hn, hs => by
    have hx := hs x List.mem_cons_self
    have hn' := List.nodup_cons.mp hn
    have p := (List.perm_cons_erase hx).length_eq
    have := nodup_le (m := m.erase x) hn'.2 fun y hy => (List.mem_erase_of_ne (fun (e : y = x) => hn'.1 (e ▸ hy))).mpr (hs y (List.mem_cons_of_mem _ hy))
    simp only [List.length_cons] at p ⊢
    omega
/-- some number is in none of few -/
theorem out_of {l : List Int} {n : Nat} (h : l.length < n) : ∃ c : Int, 0 ≤ c ∧ c < n ∧ c ∉ l := by
  refine Classical.byContradiction fun hc => ?_
  have hall : ∀ c ∈ rg n, c ∈ l := fun c hm => Classical.byContradiction fun hn => hc ⟨c, (rg_mem.mp hm).1, (rg_mem.mp hm).2, hn⟩
  have := nodup_le (rg_nodup (n := n)) hall
  rw [rg_length] at this
  omega
theorem sum_mod (f : Int → Int) : ∀ l : List Int, ∃ q : Int, (l.map fun z => f z % 60).sum = (l.map f).sum + 60 * q
  | [] => ⟨0, rfl⟩
  | x :: l => by
    obtain ⟨q, h⟩ := sum_mod f l
    refine ⟨q - f x / 60, ?_⟩
    rw [List.map_cons, List.map_cons, List.sum_cons, List.sum_cons, h]
    omega
theorem sum_sub (f : Int → Int) : ∀ l : List Int, (l.map fun z => f z - z).sum = (l.map f).sum - l.sum
  | [] => rfl
  | x :: l => by
    rw [List.map_cons, List.map_cons, List.sum_cons, List.sum_cons, List.sum_cons, sum_sub f l]
    omega
theorem perm_sum {l m : List Int} (h : l.Perm m) : l.sum = m.sum := by
  induction h with
  | nil => rfl
  | cons x _ ih => rw [List.sum_cons, List.sum_cons, ih]
  | swap x y l => simp only [List.sum_cons]; omega
  | trans _ _ ih1 ih2 => exact ih1.trans ih2
/-- of sums modulo 60 two things agree in how far they are moved -/
theorem collide (f : Int → Int) (hf : ((rg 60).map f).Perm (rg 60)) : ∃ z w : Int, 0 ≤ z ∧ z < 60 ∧ 0 ≤ w ∧ w < 60 ∧ z ≠ w ∧ (f z - z) % 60 = (f w - w) % 60 := by
  refine Classical.byContradiction fun hc => ?_
  have hp : ((rg 60).map fun z => (f z - z) % 60).Perm (rg 60) := map_perm_rg (fun x _ _ => ⟨Int.emod_nonneg _ (by decide), Int.emod_lt_of_pos _ (by decide)⟩) fun x y x0 x1 y0 y1 e =>
    Classical.byContradiction fun hne => hc ⟨x, y, x0, x1, y0, y1, hne, e⟩
  have s1 := perm_sum hp
  have s2 := perm_sum hf
  obtain ⟨q, hq⟩ := sum_mod (fun z => f z - z) (rg 60)
  rw [hq, sum_sub, s2] at s1
  have : (rg 60).sum = 1770 := by decide +kernel
  omega
theorem mk_ent {rows cols things : List Int} (hr : rows.length = n) (hc : cols.length = n) {i j : Int} (i0 : 0 ≤ i) (i1 : i < n) (j0 : 0 ≤ j) (j1 : j < n) : ent (mkTab n rows cols things) i j = at0 things ((at0 rows i + at0 cols j) % n) := by
  unfold ent rowT mkTab
  have e1 := at0_of (l := rows) i0 (by omega)
  have e2 := at0_of (l := cols) j0 (by omega)
  rw [List.getElem?_map, e1]
  show at0 (cols.map fun b => at0 things ((at0 rows i + b) % n)) j = _
  show ((cols.map fun b => at0 things ((at0 rows i + b) % n))[j.toNat]?).getD 0 = _
  rw [List.getElem?_map, e2]
  rfl
theorem at_perm {p : List Int} {n : Nat} (hp : p.Perm (rg n)) {x : Int} (x0 : 0 ≤ x) (x1 : x < n) : 0 ≤ at0 p x ∧ at0 p x < n := by
  have l : p.length = n := by rw [hp.length_eq, rg_length]
  exact rg_mem.mp (hp.mem_iff.mp (List.mem_of_getElem? (at0_of (l := p) x0 (by omega))))
theorem near_hit {rows cols things : List Int} (hr : rows.Perm (rg 60)) (hc : cols.Perm (rg 60)) (ht : things.Perm (rg 60)) (h : NearT 16 60 (mkTab 60 rows cols things) t) : ∃ x, inR3 60 x ∧ hitT t x = true := by
  have lr : rows.length = 60 := by rw [hr.length_eq, rg_length]
  have lc : cols.length = 60 := by rw [hc.length_eq, rg_length]
  have lt : things.length = 60 := by rw [ht.length_eq, rg_length]
  obtain ⟨S, hS, hE⟩ := h
  have hσ : ((rg 60).map fun z => at0 rows (at0 things z)).Perm (rg 60) := by
    have e : ((rg 60).map fun z => at0 rows (at0 things z)) = things.map (at0 rows) := by
      have := at0_rg (l := things)
      rw [lt] at this
      calc ((rg 60).map fun z => at0 rows (at0 things z)) = ((rg 60).map (at0 things)).map (at0 rows) := by rw [List.map_map]; rfl
        _ = things.map (at0 rows) := by rw [this]
    rw [e]
    exact (at0_perm ht lr).trans hr
  obtain ⟨z, w, z0, z1, w0, w1, hne, hzw⟩ := collide _ hσ
  have invc : ∀ v : Int, 0 ≤ v → v < 60 → 0 ≤ ((cols.idxOf v : Nat) : Int) ∧ ((cols.idxOf v : Nat) : Int) < 60 ∧ at0 cols (cols.idxOf v : Nat) = v := fun v v0 v1 => by
    obtain ⟨_, l, q⟩ := perm_idx hc (o := v) ⟨v0, v1⟩
    exact ⟨by omega, by omega, (q _ (by omega) (by omega)).mpr rfl⟩
  have invr : ∀ v : Int, 0 ≤ v → v < 60 → ∃ c : Int, 0 ≤ c ∧ c < 60 ∧ at0 rows c = v ∧ ∀ c' : Int, 0 ≤ c' → c' < 60 → at0 rows c' = v → c' = c := fun v v0 v1 => by
    obtain ⟨_, l, q⟩ := perm_idx hr (o := v) ⟨v0, v1⟩
    exact ⟨(rows.idxOf v : Nat), by omega, by omega, (q _ (by omega) (by omega)).mpr rfl, fun c' h0 h1 e => (q c' h0 h1).mp e⟩
  let X : Int → Int := fun c => ((cols.idxOf ((z - at0 rows c) % 60) : Nat) : Int)
  let Y : Int → Int := fun c => ((cols.idxOf ((w - at0 rows c) % 60) : Nat) : Int)
  have m60 : ∀ a : Int, 0 ≤ a % 60 ∧ a % 60 < 60 := fun a => ⟨Int.emod_nonneg _ (by decide), Int.emod_lt_of_pos _ (by decide)⟩
  have hX : ∀ c : Int, 0 ≤ X c ∧ X c < 60 ∧ at0 cols (X c) = (z - at0 rows c) % 60 := fun c => invc _ (m60 _).1 (m60 _).2
  have hY : ∀ c : Int, 0 ≤ Y c ∧ Y c < 60 ∧ at0 cols (Y c) = (w - at0 rows c) % 60 := fun c => invc _ (m60 _).1 (m60 _).2
  let bX : Int → Int := fun k => ((rows.idxOf ((z - at0 cols k) % 60) : Nat) : Int)
  let bY : Int → Int := fun k => ((rows.idxOf ((w - at0 cols k) % 60) : Nat) : Int)
  obtain ⟨c, c0, c1, hcn⟩ := out_of (l := S.map (fun s => s.1) ++ S.map (fun s => bX s.2) ++ S.map (fun s => bY s.2)) (n := 60) (by simp only [List.length_append, List.length_map]; omega)
  rw [List.mem_append, List.mem_append, not_or, not_or] at hcn
  have rc := at_perm hr c0 c1
  have n1 : ∀ k : Int, (c, k) ∉ S := fun k hk => hcn.1.1 (List.mem_map.mpr ⟨_, hk, rfl⟩)
  have back : ∀ v k : Int, at0 cols k = (v - at0 rows c) % 60 → ((rows.idxOf ((v - at0 cols k) % 60) : Nat) : Int) = c := fun v k e => by
    have : (v - at0 cols k) % 60 = at0 rows c := by
      rw [e]
      have := m60 (v - at0 rows c)
      omega
    rw [this]
    obtain ⟨_, l, q⟩ := perm_idx hr (o := at0 rows c) rc
    exact ((q c c0 c1).mp rfl).symm
  have n2 : ∀ i : Int, (i, X c) ∉ S := fun i hi => hcn.1.2 (List.mem_map.mpr ⟨_, hi, back z (X c) (hX c).2.2⟩)
  have n3 : ∀ i : Int, (i, Y c) ∉ S := fun i hi => hcn.2 (List.mem_map.mpr ⟨_, hi, back w (Y c) (hY c).2.2⟩)
  have bz := at_perm ht z0 z1
  have bw := at_perm ht w0 w1
  have E1 : ent t c (X c) = at0 things z := by
    rw [hE c (X c) c0 c1 (hX c).1 (hX c).2.1 (n1 _), mk_ent lr lc c0 c1 (hX c).1 (hX c).2.1, (hX c).2.2]
    congr 1
    have := m60 (z - at0 rows c)
    show (at0 rows c + (z - at0 rows c) % 60) % 60 = z
    omega
  have E2 : ent t c (Y c) = at0 things w := by
    rw [hE c (Y c) c0 c1 (hY c).1 (hY c).2.1 (n1 _), mk_ent lr lc c0 c1 (hY c).1 (hY c).2.1, (hY c).2.2]
    congr 1
    have := m60 (w - at0 rows c)
    show (at0 rows c + (w - at0 rows c) % 60) % 60 = w
    omega
  have E3 : ent t (at0 things z) (Y c) = ent t (at0 things w) (X c) := by
    rw [hE _ (Y c) bz.1 bz.2 (hY c).1 (hY c).2.1 (n3 _), hE _ (X c) bw.1 bw.2 (hX c).1 (hX c).2.1 (n2 _), mk_ent lr lc bz.1 bz.2 (hY c).1 (hY c).2.1, mk_ent lr lc bw.1 bw.2 (hX c).1 (hX c).2.1, (hX c).2.2, (hY c).2.2]
    congr 1
    show (at0 rows (at0 things z) + (w - at0 rows c) % 60) % 60 = (at0 rows (at0 things w) + (z - at0 rows c) % 60) % 60
    generalize at0 rows (at0 things z) = A at hzw ⊢
    generalize at0 rows (at0 things w) = B at hzw ⊢
    omega
  have hxy : X c ≠ Y c := fun e => by
    have h1 := (hX c).2.2
    have h2 := (hY c).2.2
    rw [e, h2] at h1
    omega
  rcases Int.lt_or_gt_of_ne hxy with q | q
  · refine ⟨(c, X c, Y c), ⟨c0, c1, (hX c).1, q, (hY c).2.1⟩, ?_⟩
    simp only [hitT, decide_eq_true_eq]
    rw [E1, E2, E3]
  · refine ⟨(c, Y c, X c), ⟨c0, c1, (hY c).1, q, (hX c).2.1⟩, ?_⟩
    simp only [hitT, decide_eq_true_eq]
    rw [E1, E2, E3]
end
theorem ints_of {P : Int → Prop} : ∀ {acc : List D}, (∀ (k : Nat) (y : D), acc[k]? = some y → ∃ i : Int, y = .int i ∧ P i) → ∃ ws : List Int, acc = ws.map D.int ∧ ∀ x ∈ ws, P x
  | [], _ => ⟨[], rfl, fun x hx => by cases hx⟩
  | d :: acc, h => by
    obtain ⟨i, rfl, hi⟩ := h 0 d rfl
    obtain ⟨ws, rfl, hw⟩ := ints_of (acc := acc) fun k y e => h (k + 1) y (by simpa using e)
    refine ⟨i :: ws, rfl, fun x hx => ?_⟩
    rcases List.mem_cons.mp hx with rfl | hx
    · exact hi
    · exact hw x hx
/-- for i in range(a, n) -/
theorem ForG.rng2 {n : Nat} {G : Mp → Prop} {g : TGD} {tb : TSD} {E : EndD} {ρ : DSt} {M1 : Mp} (lo : Int) (Pv : Nat → DSt → Mp → Prop) (h0 : Pv 0 ρ M1) (hG : ∀ i ρ M, i ≤ n → Pv i ρ M → G M)
    (hs : ∀ (k : Nat) ρ M, k < n → Pv k ρ M → g (.int (lo + (k : Int))) ρ M fun ρ2 M2 => tb { E with nx := Pv (k + 1), ct := Pv (k + 1), bk := E.nx } ρ2 M2) (hq : ∀ ρ M, Pv n ρ M → E.nx ρ M) : ForG n (yR lo) G g tb E ρ M1 := by
  refine ⟨Pv, h0, hG, fun k x ρ M hk hy z => ?_, hq⟩
  unfold yR at hy
  subst hy
  exact hs k ρ M hk z
end DL

/-! len(set(xs)). -/
namespace DL
open PySem PySem.Spec PyProof.Rows L2
theorem step_nd {σ : List Int} {k : Int} (h : σ.Nodup) : (step_dedup σ k).Nodup := by
  unfold step_dedup
  split
  · exact h
  · rename_i hn
    rw [List.nodup_append]
    refine ⟨h, by simp, fun a ha b hb => ?_⟩
    rintro rfl
    have hb : a = k := by simpa using hb
    subst hb
    exact hn (List.any_eq_true.mpr ⟨a, ha, by simp⟩)
theorem firstMet_nd (val : Nat → Int) : ∀ i, (firstMet val i).Nodup
  | 0 => by rw [firstMet_zero]; exact List.nodup_nil
  | i + 1 => by rw [firstMet_succ]; exact step_nd (firstMet_nd val i)
theorem firstMet_mem (ns : List Int) (k : Int) : k ∈ firstMet (fun i => ns.getD i 0) ns.length ↔ k ∈ ns := by
  have h := firstMet_any (fun i => ns.getD i 0) ns.length k
  have e : (List.range ns.length).map (fun i => ns.getD i 0) = ns := by
    apply List.ext_getElem?
    intro i
    by_cases hi : i < ns.length
    · rw [List.getElem?_map, List.getElem?_range hi, List.getElem?_eq_getElem hi]
      simp [List.getD, List.getElem?_eq_getElem hi]
    · rw [List.getElem?_eq_none (by simp; omega), List.getElem?_eq_none (by omega)]
  rw [e] at h
  have a : ∀ l : List Int, l.any (· == k) = true ↔ k ∈ l := fun l => by simp
  rw [← a, ← a, h]
def tLenSetA (K : PySem.W.Frag) (ta : TE) : TE := fun σ H Q => ta σ H fun x H1 => ∃ (l : Addr) (ns : List Int), x = .ref l ∧ (SqL K H1 l (ns.map V.int) ∨ SqT K H1 l (ns.map V.int)) ∧ ns.length ≤ 1000 ∧
  ∀ out : List Int, out.Nodup → (∀ k, k ∈ out ↔ k ∈ ns) → Q (.int (out.length : Nat)) H1
theorem pe_lenSetA {X : Cx} {a : Expr} {ta : TE} {p p2 q pos : Pos} (hg : Gl X "len") (hm : X.mg "len" = none) (hg2 : Gl X "set") (hm2 : X.mg "set" = none) (ha : PE X a ta) (hc : X.calm = true := by rfl)
    (na : starEach [a] X.env = (false, eval a X.env) :: starEach [] X.env := by rfl) : PE X (.Call (.Name "len" p) [.Call (.Name "set" p2) [a] [] q] [] pos) (tLenSetA X.K ta) := by
  refine ⟨fun pins s σ H Q I h => ?_⟩
  refine Call_ (ld_blt I hg hm boot_len ?_)
  refine PyProof.Rows.callWith_builtin1 (PyProof.Rows.args_cons ?_ rfl) rfl rfl
  refine Call_ (ld_blt I hg2 hm2 boot_set ?_)
  refine PyProof.Rows.callWith_type1 (PyProof.Rows.args_cons (thn (ha.run pins s σ H _ I h) fun v s1 ⟨x, H1, I1, r1, q1⟩ => PyProof.Rows.args_nil ?_) na) na rfl
  obtain ⟨l, ns, rfl, hq, hl, q1⟩ := q1
  cases r1
  rcases hq with hq | hq
  · obtain ⟨its, r, pl, hz⟩ := I1.list hq
    have hlen : its.toArray.size = ns.length := by rw [List.size_toArray, ← r.length, List.length_map]
    refine call_set_list (I1.ok.hd hc) pl.isList (by simpa using RZ.intsAre_vals r) (by rw [hlen]; unfold scanBound; omega) fun h' tk hS hk => ?_
    refine PyProof.Rows.args_nil ?_
    rw [hlen] at hS
    obtain ⟨o, es, ep, t, ho, hex, hd, _, _, _, hf, hn⟩ := hS
    have I2 : Inv X pins σ H1 { s1 with heap := h', toks := tk } := I1.kept fun b o e => hk b o (Heap.lt_size e) e
    have hle := firstMet_length_le (fun i => ns.getD i 0) ns.length
    exact call_len_set ho hex hd hf (by rw [hn] <;> omega) ⟨.int (firstMet (fun i => ns.getD i 0) ns.length).length, H1, I2.tok _, ⟨_, by rw [hn]⟩, q1 _ (firstMet_nd _ _) (firstMet_mem ns)⟩
  · obtain ⟨its, r, pl, hz⟩ := I1.tuple hq
    refine call_set_tupI ns (I1.ok.hd hc) (show s1.heap.IsTuple l its.toArray from pl) (ints_of_vals r) (by unfold scanBound; omega) fun h' tk c R1 hcn k => ?_
    refine PyProof.Rows.args_nil ?_
    obtain ⟨o, es, ep, t, ho, hex, hdt, g, nd, hm3, hb, hf, hn, hr, hl2⟩ := R1
    have I2 : Inv X pins σ H1 { s1 with heap := h', toks := tk } := I1.kept k
    have hes : (es.toList.map L2.keyOf).length = es.size := by simp
    refine call_len_set ho hex hdt hf (by rw [hn] <;> omega) ⟨.int (es.toList.map L2.keyOf).length, H1, I2.tok _, ⟨_, by rw [hes]⟩, q1 _ nd fun j => ?_⟩
    rw [← hm3 j]
    simp
/-- len(set(xs)), xs whole numbers in a list or a tuple -/
def dLenSet (t : TED) : TED := fun ρ M Q => t ρ M fun d M1 => match d with
  | .tup xs => ∃ ns : List Int, xs = ns.map D.int ∧ ns.length ≤ 1000 ∧ ∀ out : List Int, out.Nodup → (∀ k, k ∈ out ↔ k ∈ ns) → Q (.int (out.length : Nat)) M1
  | .ref p => ∃ ns : List Int, M1 p = some (.lst (ns.map D.int)) ∧ ns.length ≤ 1000 ∧ ∀ out : List Int, out.Nodup → (∀ k, k ∈ out ↔ k ∈ ns) → Q (.int (out.length : Nat)) M1
  | _ => False
theorem de_lenSet {X : Cx} {a : Expr} {ta : TED} {p p2 q pos : Pos} (hg : Gl X "len") (hm : X.mg "len" = none) (hg2 : Gl X "set") (hm2 : X.mg "set" = none) (ha : DE X a ta) (hc : X.calm = true := by rfl)
    (na : starEach [a] X.env = (false, eval a X.env) :: starEach [] X.env := by rfl) : DE X (.Call (.Name "len" p) [.Call (.Name "set" p2) [a] [] q] [] pos) (dLenSet ta) :=
  pe_weak (pe_lenSetA hg hm hg2 hm2 ha hc na) fun σ H Q ⟨ρ, M, Q', r, m, h, k⟩ => ⟨ρ, M, _, r, m, h, fun v H1 d M1 f s q => by
    cases d with
    | tup xs =>
      obtain ⟨ns, rfl, hl, q⟩ := q
      cases f with
      | tup hs g => exact ⟨_, ns, rfl, .inr (by rw [← g.ints]; exact hs.t), hl, fun out h1 h2 => (k.after s).val s.mem (.int _) (q out h1 h2)⟩
    | ref p =>
      obtain ⟨ns, hp, hl, q⟩ := q
      cases f
      obtain ⟨ys, h0, g⟩ := s.mem.lst hp
      rw [g.ints] at h0
      exact ⟨_, ns, rfl, .inl (.of h0), hl, fun out h1 h2 => (k.after s).val s.mem (.int _) (q out h1 h2)⟩
    | _ => exact q.elim⟩
theorem set_len {out ns : List Int} (h1 : out.Nodup) (h2 : ∀ k, k ∈ out ↔ k ∈ ns) : out.length ≤ ns.length ∧ (out.length = ns.length ↔ ns.Nodup) := by
  have le := nodup_le h1 fun x hx => (h2 x).mp hx
  refine ⟨le, fun e => ?_, fun h => ?_⟩
  · exact (perm_of h1 (fun x hx => (h2 x).mp hx) e).nodup_iff.mp h1
  · exact Nat.le_antisymm le (nodup_le h fun x hx => (h2 x).mpr hx)
end DL

/-! Values of any kind. -/
namespace DL
open PySem L2
mutual
theorem Rdm.mono {M M' : Mp} (h : ∀ a o, M a = some o → M' a = some o) : ∀ (p : PyData) (d : D), Rdm M d p → Rdm M' d p
  | .none, _, r => by cases r; exact .non
  | .bool _, _, r => by cases r; exact .bl _
  | .int _, _, r => by cases r; exact .int _
  | .str _, _, r => by cases r; exact .str _
  | .list ps, _, r => by
    cases r with
    | lst ha hr => exact .lst (h _ _ ha) (RdmAll.mono h ps _ hr)
  | .tuple ps, _, r => by
    cases r with
    | tup hr => exact .tup (RdmAll.mono h ps _ hr)
  | .dict ps, _, r => by
    cases r with
    | dct ha hr => exact .dct (h _ _ ha) (RdmKv.mono h ps _ hr)
theorem RdmAll.mono {M M' : Mp} (h : ∀ a o, M a = some o → M' a = some o) : ∀ (ps : List PyData) (ds : List D), RdmAll M ds ps → RdmAll M' ds ps
  | [], _, r => by cases r; exact .nil
  | p :: ps, _, r => by
    cases r with
    | cons h1 h2 => exact .cons (Rdm.mono h p _ h1) (RdmAll.mono h ps _ h2)
theorem RdmKv.mono {M M' : Mp} (h : ∀ a o, M a = some o → M' a = some o) : ∀ (ps : List (PyData × PyData)) (ds : List (Key × D)), RdmKv M ds ps → RdmKv M' ds ps
  | [], _, r => by cases r; exact .nil
  | (_, p) :: ps, _, r => by
    cases r with
    | consI h1 h2 => exact .consI (Rdm.mono h p _ h1) (RdmKv.mono h ps _ h2)
    | consS h1 h2 => exact .consS (Rdm.mono h p _ h1) (RdmKv.mono h ps _ h2)
end
/-- what can be read -/
def Rd (M : Mp) (d : D) : Prop := ∃ p, Rdm M d p
theorem Rd.keep {M M' : Mp} {d : D} (h : Rd M d) (k : Keep M M') : Rd M' d := let ⟨p, r⟩ := h; ⟨p, r.mono k⟩
theorem rds_mem {M : Mp} : ∀ {ds : List D} {ps : List PyData}, RdmAll M ds ps → ∀ d ∈ ds, Rd M d
  | _, _, .nil, _, h => by cases h
  | _, _, .cons r rs, d, h => by
    rcases List.mem_cons.mp h with rfl | h
    · exact ⟨_, r⟩
    · exact rds_mem rs d h
theorem Rd.items {M : Mp} {ds : List D} (h : Rd M (.tup ds)) : ∀ d ∈ ds, Rd M d := by
  obtain ⟨p, r⟩ := h
  cases r with
  | tup hr => exact rds_mem hr
/-- of what kind -/
inductive Kd (M : Mp) : D → Prop
  | non : Kd M .non
  | bl (b : Bool) : Kd M (.bl b)
  | int (i : Int) : Kd M (.int i)
  | str (x : Str) : Kd M (.str x)
  | tup (ds : List D) : Kd M (.tup ds)
  | lst {a : Addr} {ds : List D} (h : M a = some (.lst ds)) : Kd M (.ref a)
  | dct {a : Addr} {kvs : List (Key × D)} (h : M a = some (.dct kvs)) : Kd M (.ref a)
theorem Rd.kd {M : Mp} {d : D} (h : Rd M d) : Kd M d := by
  obtain ⟨p, r⟩ := h
  cases r with
  | non => exact .non
  | bl b => exact .bl b
  | int i => exact .int i
  | str x => exact .str x
  | tup _ => exact .tup _
  | lst h _ => exact .lst h
  | dct h _ => exact .dct h
/-- memory without the bag -/
def Mx (l : Addr) (M : Mp) : Mp := fun a => if a = l then none else M a
theorem Mx.le {l : Addr} {M : Mp} : ∀ a o, Mx l M a = some o → M a = some o := fun a o h => by
  unfold Mx at h
  split at h
  · cases h
  · exact h
theorem Mx.ext {l : Addr} {M M' : Mp} (e : Ext l M M') : ∀ a o, Mx l M a = some o → Mx l M' a = some o := fun a o h => by
  unfold Mx at h ⊢
  split at h
  · cases h
  · rename_i hn
    rw [if_neg hn]
    exact e a o hn h
theorem Mx.at_ {l a : Addr} {M : Mp} {o : MO} (h : M a = some o) (hn : a ≠ l) : Mx l M a = some o := by
  unfold Mx
  rw [if_neg hn]
  exact h
structure Vl (l : Addr) (M : Mp) (n w : Nat) (d : D) : Prop where
  ex : ∃ p, Rdm (Mx l M) d p ∧ p.showable = true ∧ p.depth ≤ n ∧ p.shown.length ≤ w
section
variable {l : Addr} {M M' : Mp} {n w n' w' : Nat} {d : D} {ds : List D}
theorem Vl.up (h : Vl l M n w d) (e : Ext l M M') : Vl l M' n w d := let ⟨p, a, b⟩ := h; ⟨p, a.mono (Mx.ext e), b⟩
theorem Vl.mono (h : Vl l M n w d) (h1 : n ≤ n') (h2 : w ≤ w') : Vl l M n' w' d := let ⟨p, a, b, c, e⟩ := h; ⟨p, a, b, Nat.le_trans c h1, Nat.le_trans e h2⟩
theorem Vl.toRd (h : Vl l M n w d) : Rd M d := let ⟨p, a, _⟩ := h; ⟨p, a.mono Mx.le⟩
theorem Vl.shw (h : Vl l M n w d) (h1 : n ≤ 100) (h2 : w ≤ sizeLine) : ∃ P, Shw P ∧ ∀ M', Keep M M' → Rdm M' d P := let ⟨p, a, b, c, e⟩ := h; ⟨p, ⟨b, by omega, by omega⟩, fun M' k => (a.mono Mx.le).mono k⟩
theorem Vl.pure (h : pureD d = true) (h1 : (rd d).showable = true) (h2 : (rd d).depth ≤ n) (h3 : (rd d).shown.length ≤ w) : Vl l M n w d := ⟨rd d, rdm_rd d h, h1, h2, h3⟩
theorem vls_all : ∀ {ds : List D}, (∀ d ∈ ds, Vl l M n w d) → ∃ ps, RdmAll (Mx l M) ds ps ∧ PyData.showableAll ps = true ∧ PyData.depthAll ps ≤ n ∧ ((PyData.shownAll ps).map (·.length)).sum ≤ ds.length * w ∧ (PyData.shownAll ps).length = ds.length
  | [], _ => ⟨[], .nil, rfl, Nat.zero_le _, Nat.zero_le _, rfl⟩
  | d :: ds, h => by
    obtain ⟨p, a, b, c, e⟩ := h d List.mem_cons_self
    obtain ⟨ps, a', b', c', e', g⟩ := vls_all (ds := ds) fun x hx => h x (List.mem_cons_of_mem _ hx)
    refine ⟨p :: ps, .cons a a', by simp [PyData.showableAll, b, b'], ?_, ?_, by simp [PyData.shownAll, g]⟩
    · simp only [PyData.depthAll]
      exact Nat.max_le.mpr ⟨c, c'⟩
    · simp only [PyData.shownAll, List.map_cons, List.sum_cons, List.length_cons, Nat.succ_mul]
      omega
theorem Vl.tup (h : ∀ d ∈ ds, Vl l M n w d) : Vl l M (n + 1) (ds.length * (w + 2) + 3) (.tup ds) := by
  obtain ⟨ps, a, b, c, e, g⟩ := vls_all h
  refine ⟨.tuple ps, .tup a, by simpa [PyData.showable] using b, by simp only [PyData.depth]; omega, ?_⟩
  simp only [PyData.shown]
  have := tupleText_len_le (PyData.shownAll ps)
  rw [g] at this
  rw [Nat.mul_add]
  omega
theorem Vl.lst {a : Addr} (e : M a = some (.lst ds)) (hn : a ≠ l) (h : ∀ d ∈ ds, Vl l M n w d) : Vl l M (n + 1) (ds.length * (w + 2) + 3) (.ref a) := by
  obtain ⟨ps, r, b, c, e', g⟩ := vls_all h
  refine ⟨.list ps, .lst (Mx.at_ e hn) r, by simpa [PyData.showable] using b, by simp only [PyData.depth]; omega, ?_⟩
  simp only [PyData.shown]
  have := listText_len_le (PyData.shownAll ps)
  rw [g] at this
  rw [Nat.mul_add]
  omega
theorem Vl.dct0 {a : Addr} (e : M a = some (.dct [])) (hn : a ≠ l) : Vl l M 2 20 (.ref a) := ⟨.dict [], .dct (Mx.at_ e hn) .nil, by decide +kernel, by decide +kernel, by decide +kernel⟩
theorem Vl.dct1 {a : Addr} {x : Str} {i : Int} (e : M a = some (.dct [(.inr x, .int i)])) (hn : a ≠ l) (h1 : (PyData.dict [(.str x, .int i)]).showable = true) (h2 : (PyData.dict [(.str x, .int i)]).depth ≤ 2) (h3 : (PyData.dict [(.str x, .int i)]).shown.length ≤ 20) : Vl l M 2 20 (.ref a) :=
  ⟨.dict [(.str x, .int i)], .dct (Mx.at_ e hn) (.consS (.int _) .nil), h1, h2, h3⟩
theorem Vl.int {i : Int} (h : i.natAbs < 4096) : Vl l M 0 13 (.int i) := by
  refine ⟨.int i, .int i, (Sm.int h).see, Nat.le_refl _, ?_⟩
  have := PyData.shown_int_le2 (i := i) (by omega) (by omega)
  simpa using this
theorem Vl.item (h : Vl l M n w (.tup ds)) : ∀ d ∈ ds, Vl l M n w d := by
  obtain ⟨p, r, b, c, e⟩ := h
  cases r with
  | @tup _ ps hr =>
    have go : ∀ {ds : List D} {ps : List PyData}, RdmAll (Mx l M) ds ps → PyData.showableAll ps = true → PyData.depthAll ps ≤ n → (∀ t ∈ PyData.shownAll ps, t.length ≤ w) → ∀ d ∈ ds, Vl l M n w d := by
      intro ds ps hr
      induction ps generalizing ds with
      | nil => intro _ _ _ d hd; cases hr; cases hd
      | cons p ps ih =>
        intro b c e d hd
        cases hr with
        | cons r rs =>
          have b' : p.showable = true ∧ PyData.showableAll ps = true := by simpa [PyData.showableAll] using b
          simp only [PyData.depthAll] at c
          have c1 : p.depth ≤ n := Nat.le_trans (Nat.le_max_left _ _) c
          have c2 : PyData.depthAll ps ≤ n := Nat.le_trans (Nat.le_max_right _ _) c
          rcases List.mem_cons.mp hd with rfl | hd
          · exact ⟨p, r, b'.1, c1, e _ (by simp [PyData.shownAll])⟩
          · exact ih rs b'.2 c2 (fun t ht => e t (by simp [PyData.shownAll, ht])) d hd
    simp only [PyData.depth] at c
    simp only [PyData.shown] at e
    exact go hr (by simpa [PyData.showable] using b) (by omega) fun t ht => Nat.le_trans (tupleText_mem_le ht) e
end
/-! ### looks -/
def isIntB (d : D) (lo hi : Int) : Bool := match d with
  | .int i => decide (lo ≤ i) && decide (i ≤ hi)
  | _ => false
def getI : D → Int
  | .int i => i
  | _ => 0
theorem ints_all {ds : List D} {lo hi : Int} (h : ds.all (fun d => isIntB d lo hi) = true) : ds = (ds.map getI).map D.int ∧ ∀ x ∈ ds.map getI, lo ≤ x ∧ x ≤ hi := by
  rw [List.all_eq_true] at h
  refine ⟨?_, fun x hx => ?_⟩
  · rw [List.map_map]
    refine Eq.symm ((List.map_congr_left fun d hd => ?_).trans (List.map_id ds))
    have := h d hd
    cases d <;> simp_all [isIntB, getI]
  · obtain ⟨d, hd, rfl⟩ := List.mem_map.mp hx
    have := h d hd
    cases d <;> simp_all [isIntB, getI]
def lenIs (d : D) (n : Int) : Bool := match d with
  | .tup ds => decide (((ds.length : Nat) : Int) = n)
  | _ => false
def areB (d : D) (n size : Int) : Bool := match d with
  | .tup ds => decide (((ds.length : Nat) : Int) = n) && ds.all fun x => isIntB x 0 (size - 1)
  | _ => false
theorem findIdx_of {α : Type} {p : α → Bool} {xs : List α} {k : Nat} (hk : k < xs.length) (hp : p xs[k] = true) (h : ∀ (i : Nat) (hi : i < xs.length), i < k → p xs[i] = false) : xs.findIdx? p = some k := by
  rw [List.findIdx?_eq_some_iff_getElem]
  exact ⟨hk, hp, fun j hj => by rw [h j (by omega) hj]; decide⟩
theorem findIdx_none {α : Type} {p : α → Bool} {xs : List α} (h : ∀ (i : Nat) (hi : i < xs.length), p xs[i] = false) : xs.findIdx? p = none := by
  rw [List.findIdx?_eq_none_iff]
  intro x hx
  obtain ⟨i, hi, rfl⟩ := List.getElem_of_mem hx
  exact h i hi
end DL

/-! t[::-1] of a tuple; more short ways. -/
namespace DL
open PySem PySem.Spec PyProof.Rows L2 HT
open Sem (wp)
section
variable {prog : Program} {w : World} {A : Around} {E : Value → Shared → Prop} {s : Shared}
theorem adj_rev (n : Nat) : Builtin.Slice.sliceAdjust none none (-1) (n : Int) = ((n : Int) - 1, -1) := by
  unfold Builtin.Slice.sliceAdjust
  simp
theorem places_rev (n : Nat) : Builtin.Slice.slicePlaces ((n : Int) - 1) (-1) (-1) = n := by
  unfold Builtin.Slice.slicePlaces
  simp
  omega
theorem fm_range {α : Type} {f : Nat → Option α} {g : Nat → α} : ∀ n, (∀ m, m < n → f m = some (g m)) → (List.range n).filterMap f = (List.range n).map g
  | 0, _ => rfl
  | n + 1, h => by
    rw [List.range_succ, List.filterMap_append, List.map_append, fm_range n fun m hm => h m (by omega)]
    simp [h n (by omega)]
theorem pick_rev (xs : Array Value) : ((List.range xs.size).filterMap fun (m : Nat) => xs[(((xs.size : Nat) : Int) - 1 + (m : Int) * (-1)).toNat]?).toArray = xs.toList.reverse.toArray := by
  congr 1
  rw [fm_range (g := fun m => xs.toList.reverse[m]?.getD default) xs.size fun m hm => ?_]
  · apply List.ext_getElem?
    intro i
    by_cases hi : i < xs.size
    · rw [List.getElem?_map, List.getElem?_range hi]
      have : i < xs.toList.reverse.length := by simpa using hi
      simp only [Option.map_some]
      rw [List.getElem?_eq_getElem this]
      rfl
    · rw [List.getElem?_eq_none (by simp; omega), List.getElem?_eq_none (by simp; omega)]
  · rw [List.getElem?_reverse (by simpa using hm)]
    have : (((xs.size : Nat) : Int) - 1 + (m : Int) * (-1)).toNat = xs.size - 1 - m := by omega
    rw [this]
    have h2 : xs.size - 1 - m < xs.size := by omega
    simp [h2]
theorem sliceApplied_rev {sl : Addr} {vl vu vs : Value} {n : Nat} {Q : Int × Int × Nat → Shared → Prop} (hs : s.heap.IsSliceOf sl vl vu vs) (pl : IsPart vl none) (pu : IsPart vu none) (ps : IsPart vs (some (-1)))
    (h : Q ((n : Int) - 1, -1, n) s) : wpAny (model prog w) A (Builtin.Slice.sliceApplied (.ref sl) (pure (n : Int))) Q E s := by
  obtain ⟨os, hos, hcs, hds⟩ := id hs
  unfold Builtin.Slice.sliceApplied Builtin.Slice.sliceFields
  refine wpAny_bind (wpAny_bind (wpAny_field hos hds (x := vl) rfl (wpAny_bind (wpAny_field hos hds (x := vu) rfl (wpAny_bind (wpAny_field hos hds (x := vs) rfl (wpAny_pure ?_)))))))
  refine wpAny_bind (slicePart_ ps ?_)
  show wpAny _ _ (if ((-1 : Int) == 0) = true then _ else _) _ _ s
  rw [if_neg (by decide)]
  refine wpAny_bind (slicePart_ pl (wpAny_bind (slicePart_ pu (wpAny_bind (wpAny_pure ?_)))))
  show wpAny _ _ (match Builtin.Slice.sliceAdjust none none (-1) (n : Int) with | (lo, hi) => pure (lo, (-1 : Int), Builtin.Slice.slicePlaces lo hi (-1))) _ _ s
  rw [adj_rev n]
  show wpAny _ _ (pure ((n : Int) - 1, (-1 : Int), Builtin.Slice.slicePlaces ((n : Int) - 1) (-1) (-1))) _ _ s
  rw [places_rev]
  exact wpAny_pure h
theorem getItem_tuple_rev {t sl : Addr} {items : Array Value} {vl vu vs : Value} {Q : Value → Shared → Prop} (ht : IsTup s.heap t items) (hs : s.heap.IsSliceOf sl vl vu vs) (pl : IsPart vl none) (pu : IsPart vu none) (ps : IsPart vs (some (-1)))
    (h : Q (.ref s.heap.objs.size) { s with heap := s.heap.push { cls := .type "tuple", data := .seq items.toList.reverse.toArray } })
    (hsz : items.size ≤ sizeLine) : wpAny (model prog w) A (getItem (.ref t) (.ref sl)) Q E s := by
  have htake : sizeOk (.seq items.toList.reverse.toArray) := by
    show items.toList.reverse.toArray.size ≤ sizeLine
    simpa using hsz
  obtain ⟨os, hos, hcs, hds⟩ := id hs
  have hTs : s.TypeIs (.ref sl) "slice" := ⟨os, hos, hcs⟩
  unfold getItem
  try with_reducible refine wpAny_holding ?_
  first | refine wpAny_bind (wpAny_pure ?_) | skip
  refine wpAny_bind (wpAny_sequenceKey ht.typeIs (by decide) ?_)
  refine wpAny_bind (wpAny_callSpecial?_slot (name := Str.ofString "__getitem__") ht.typeIs PyProof.Rows.slot_tuple_getitem
    (wpAny_call_entry PyProof.Rows.slot_tuple_getitem ht.typeIs entry_tuple_getitem ?_ (args_tuple_getitem _ _)))
  show wpAny _ _ (Builtin.Tuple.tupleItemsOf (.ref t) >>= _) _ _ s
  refine wpAny_bind (tupleItemsOf_ ht ?_)
  refine wpAny_bind (wpAny_typeOf hTs ?_)
  rw [if_pos (by decide)]
  refine wpAny_bind (sliceApplied_rev hs pl pu ps ?_)
  have hno : ¬ ((((items.size : Nat) : Int) - 1 == 0 && (-1 : Int) == 1 && items.size == items.size) = true) := by
    intro q
    rw [Bool.and_eq_true, Bool.and_eq_true] at q
    exact absurd q.1.2 (by decide)
  show wpAny _ _ (if (((items.size : Nat) : Int) - 1 == 0 && (-1 : Int) == 1 && items.size == items.size) = true then _ else _) _ _ s
  rw [if_neg hno, pick_rev]
  first
    | exact wpAny_bind (m := Builtin.Tuple.tupleExact _) (wpAny_newObj_type (wpAny_pure ⟨_, rfl, wpAny_pure h⟩) htake)
    | exact wpAny_bind (m := Builtin.Tuple.tupleExact _) (wpAny_newObj_type (wpAny_bind (wpAny_pure (wpAny_pure ⟨_, rfl, wpAny_pure h⟩))) htake)
    | exact wpAny_bind (wpAny_bind (m := Builtin.Tuple.tupleExact _) (wpAny_newObj_type (wpAny_pure (wpAny_pure ⟨_, rfl, wpAny_pure h⟩)) htake))
    | exact wpAny_bind (wpAny_bind (m := Builtin.Tuple.tupleExact _) (wpAny_newObj_type (wpAny_pure ⟨_, rfl, wpAny_pure h⟩) htake))
end
section
variable {X : Cx}
def zRev (K : PySem.W.Frag) (te : TE) : TE := fun σ H Q => te σ H fun x H1 => (∃ a xs, x = .ref a ∧ SqL K H1 a xs ∧ ∀ p, H1 p = none → Q (.ref p) (upd H1 p (.lst xs.reverse))) ∨
  (∃ a xs, x = .ref a ∧ SqT K H1 a xs ∧ ∀ p o, H1 p = none → o.dict = none → Q (.ref p) (upd H1 p (.frz o (.tup xs.reverse))))
theorem pe_revA {e : Expr} {te : TE} {k : Nat} {p1 p2 p3 pos : Pos} (he : PE X e te) : PE X (.Subscript e (.Slice none none (some (.UnaryOp .USub (.Constant (.int 1) k p1) p2)) p3) pos) (zRev X.K te) := by
  refine ⟨fun pins s σ H Q I h => ?_⟩
  refine Subscript_ (thn (he.run pins s σ H _ I h) fun v s1 ⟨x, H1, I1, r1, q1⟩ => ?_)
  have hst : PO X (some (.UnaryOp .USub (.Constant (.int 1) k p1) p2)) (tPart (tUn (rU fun i => .int (-i)) (tC (.int 1)))) := po_some (pe_un un_neg pe_int)
  refine wpAny_Slice (thn (po_none.run pins s1 σ H1 (fun o H2 => o = none ∧ H2 = H1) I1 ⟨rfl, rfl⟩) fun vl s2 ⟨l, H2, I2, pl, el, e2⟩ => ?_)
  subst el e2
  refine thn (po_none.run pins s2 σ H2 (fun o H3 => o = none ∧ H3 = H2) I2 ⟨rfl, rfl⟩) fun vu s3 ⟨u, H3, I3, pu, eu, e3⟩ => ?_
  subst eu e3
  refine thn (hst.run pins s3 σ H3 (fun o H4 => o = some (-1) ∧ H4 = H3) I3 ⟨1, rfl, -1, rfl, rfl, rfl⟩) fun vs s4 ⟨o, H4, I4, ps, eo, e4⟩ => ?_
  subst eo e4
  have I5 : Inv X pins σ H4 { s4 with heap := s4.heap.push { cls := .type "slice", data := .fields #[vl, vu, vs] } } := I4.kept (t' := s4.toks) fun b ob q => Heap.get?_push_of_some _ q
  rcases q1 with ⟨a, xs, ex, hx, q⟩ | ⟨a, xs, ex, hx, q⟩
  · subst ex
    cases r1
    obtain ⟨its, r, ht, hz⟩ := I5.list hx
    have hlen := r.length
    show wpAny (model X.prog X.w) X.A (subscriptTail e (.Slice none none (some (.UnaryOp .USub (.Constant (.int 1) k p1) p2)) p3) (.ref a) (.ref s4.heap.objs.size)) (EP X pins σ Q) X.xe { s4 with heap := s4.heap.push { cls := .type "slice", data := .fields #[vl, vu, vs] } }
    refine tail_any (ops := [.ref a, .ref s4.heap.objs.size]) ht.isList.typeIs (PySem.slot_list_getitem.lookup) ?_ (by with_unfolding_all rfl)
    refine wpAny_getItem_list_slice ht.isList (Heap.IsSliceOf.new _ vl vu vs) pl pu ps (by decide) ?_ (by rw [List.size_toArray]; omega)
    rw [PySem.W.krv_pick]
    refine ⟨.ref _, _, I5.laid (t' := s4.toks) (o := .lst xs.reverse) (fun b ob q => Heap.get?_push_of_some _ q) (Nat.le_refl _) ?_, rfl, q _ (I5.hok.fresh (Nat.le_refl _))⟩
    exact ⟨by rw [List.length_reverse]; exact hz, _, 0, r.reverse, Heap.get?_push_size _ rfl⟩
  · subst ex
    cases r1
    obtain ⟨its, r, ht, hz⟩ := I5.tuple hx
    have hlen := r.length
    show wpAny (model X.prog X.w) X.A (subscriptTail e (.Slice none none (some (.UnaryOp .USub (.Constant (.int 1) k p1) p2)) p3) (.ref a) (.ref s4.heap.objs.size)) (EP X pins σ Q) X.xe { s4 with heap := s4.heap.push { cls := .type "slice", data := .fields #[vl, vu, vs] } }
    refine tail_any (ops := [.ref a, .ref s4.heap.objs.size]) ht.typeIs (PyProof.Rows.slot_tuple_getitem.lookup) ?_ (by with_unfolding_all rfl)
    refine getItem_tuple_rev ht (Heap.IsSliceOf.new _ vl vu vs) pl pu ps ?_ (by rw [List.size_toArray]; omega)
    refine ⟨.ref _, _, I5.laid (t' := s4.toks) (o := .frz ⟨.type "tuple", none, .seq its.reverse.toArray 0, #[]⟩ (.tup xs.reverse)) (fun b ob q => Heap.get?_push_of_some _ q) (Nat.le_refl _) ?_, rfl, q _ _ (I5.hok.fresh (Nat.le_refl _)) rfl⟩
    exact ⟨Heap.get?_push_size _ rfl, by rw [List.length_reverse]; exact hz, _, r.reverse, IsTup.new _ _⟩
theorem FzAll.reverse {K : PySem.W.Frag} {H : Hp} : ∀ {xs : List V} {as : List D}, FzAll K H xs as → FzAll K H xs.reverse as.reverse
  | _, _, .nil => .nil
  | _, _, .cons r t => by
    rw [List.reverse_cons, List.reverse_cons]
    exact (FzAll.reverse t).append (.cons r .nil)
/-- xs[::-1] -/
def dRev (te : TED) : TED := fun ρ M Q => te ρ M fun d M1 => match d with
  | .tup ds => Q (.tup ds.reverse) M1
  | .ref p => ∃ ds, M1 p = some (.lst ds) ∧ ∀ q, M1 q = none → Q (.ref q) (updM M1 q (.lst ds.reverse))
  | _ => False
theorem de_rev {e : Expr} {te : TED} {k : Nat} {p1 p2 p3 pos : Pos} (he : DE X e te) : DE X (.Subscript e (.Slice none none (some (.UnaryOp .USub (.Constant (.int 1) k p1) p2)) p3) pos) (dRev te) :=
  pe_weak (pe_revA he) fun σ H Q ⟨ρ, M, Q', r, m, h, k⟩ => ⟨ρ, M, _, r, m, h, fun v H1 d M1 f s q => by
    cases d with
    | tup ds =>
      cases f with
      | tup hs g => exact .inr ⟨_, _, rfl, hs.t, fun p o hp ho => (k.after s).newTup s.mem g.reverse q hp ho⟩
    | ref p =>
      obtain ⟨ds, hp, q⟩ := q
      cases f
      obtain ⟨ys, h0, g⟩ := s.mem.lst hp
      exact .inl ⟨_, _, rfl, .of h0, fun p hp => (k.after s).newLst s.mem g.reverse q hp⟩
    | _ => exact q.elim⟩
end
/-! ### ways over what is not a map -/
section
variable {n : Nat} {Y : Nat → D → Prop} {G : Mp → Prop} {g : D → DSt → Option DSt} {tt : TTD} {te : TED} {ρ : DSt} {M1 : Mp} {Q : KD} {xs : List D}
theorem LcG.mapD (f : D → D) (R : Mp → Prop) (hn : xs.length ≤ sizeLine) (h0 : R M1) (hG : ∀ M', R M' → G M')
    (hs : ∀ a M', a ∈ xs → R M' → ∀ Q' : KD, (∀ M'', R M'' → Q' (f a) M'') → match g a ρ with | some ρ2 => te ρ2 M' Q' | none => False)
    (hq : ∀ M' p, R M' → M' p = none → Q (.ref p) (updM M' p (.lst (xs.map f)))) : LcG xs.length (yL xs) G g tYesD te ρ M1 Q := by
  have z := LcG.mapL (G := G) (g := g) (te := te) (ρ := ρ) (M1 := M1) (Q := Q) (xs := xs) (F := id) f R hn h0 hG hs hq
  rw [List.map_id] at z
  exact z
theorem LcG.filtD (c : D → Bool) (f : D → D) (R : Mp → Prop) (hn : xs.length ≤ sizeLine) (h0 : R M1) (hG : ∀ M', R M' → G M')
    (hs : ∀ a M', a ∈ xs → R M' → ∀ (Q' : KD) (Q'' : Mp → Prop), (c a = true → ∀ M'', R M'' → Q' (f a) M'') → (c a = false → ∀ M'', R M'' → Q'' M'') → match g a ρ with | some ρ2 => tt ρ2 M' fun b M2 => br b (te ρ2 M2 Q') (Q'' M2) | none => False)
    (hq : ∀ M' p, R M' → M' p = none → Q (.ref p) (updM M' p (.lst ((xs.filter c).map f)))) : LcG xs.length (yL xs) G g tt te ρ M1 Q := by
  have z := LcG.filtL (G := G) (g := g) (tt := tt) (te := te) (ρ := ρ) (M1 := M1) (Q := Q) (xs := xs) (F := id) c f R hn h0 hG hs hq
  rw [List.map_id] at z
  exact z
end
section
variable {G : Mp → Prop} {g : TGD} {tb : TSD} {E : EndD} {ρ : DSt} {M1 : Mp} {xs : List D}
theorem ForG.seqD (Pv : Nat → DSt → Mp → Prop) (h0 : Pv 0 ρ M1) (hG : ∀ i ρ M, i ≤ xs.length → Pv i ρ M → G M)
    (hs : ∀ k ρ M (hk : k < xs.length), Pv k ρ M → g xs[k] ρ M fun ρ2 M2 => tb { E with nx := Pv (k + 1), ct := Pv (k + 1), bk := E.nx } ρ2 M2) (hq : ∀ ρ M, Pv xs.length ρ M → E.nx ρ M) : ForG xs.length (yL xs) G g tb E ρ M1 := by
  refine ⟨Pv, h0, hG, fun k x ρ M hk hy z => ?_, hq⟩
  unfold yL at hy
  rw [List.getElem?_eq_getElem hk] at hy
  obtain rfl := Option.some.inj hy
  exact hs k ρ M hk z
theorem ForG.enmD (Pv : Nat → DSt → Mp → Prop) (h0 : Pv 0 ρ M1) (hG : ∀ i ρ M, i ≤ xs.length → Pv i ρ M → G M)
    (hs : ∀ (k : Nat) ρ M (hk : k < xs.length), Pv k ρ M → g (.pr [.int (k : Int), xs[k]]) ρ M fun ρ2 M2 => tb { E with nx := Pv (k + 1), ct := Pv (k + 1), bk := E.nx } ρ2 M2) (hq : ∀ ρ M, Pv xs.length ρ M → E.nx ρ M) : ForG xs.length (yE xs) G g tb E ρ M1 := by
  refine ⟨Pv, h0, hG, fun k x ρ M hk hy z => ?_, hq⟩
  obtain ⟨y, hy, rfl⟩ := hy
  have hy : xs[k]? = some y := hy
  rw [List.getElem?_eq_getElem hk] at hy
  obtain rfl := Option.some.inj hy
  exact hs k ρ M hk z
end
theorem two_shw {p : PyData} (h1 : p.showable = true) (h2 : p.depth ≤ 98) (h3 : p.shown.length ≤ 1000000) : Shw (.list [p, p]) := by
  refine ⟨by simp [PyData.showable, PyData.showableAll, h1], by simp [PyData.depth, PyData.depthAll]; omega, ?_⟩
  simp only [PyData.shown]
  have := listText_len_le (PyData.shownAll [p, p])
  simp [PyData.shownAll] at this
  have hz : sizeLine = 16777216 := rfl
  simp only [PyData.shownAll]
  omega
theorem Vl.len {l : Addr} {M : Mp} {n w : Nat} {ds : List D} (h : Vl l M n w (.tup ds)) : ds.length ≤ w := by
  obtain ⟨p, r, b, c, e⟩ := h
  cases r with
  | @tup _ ps hr =>
    simp only [PyData.shown] at e
    have h1 := piled_le_tupleText (PyData.shownAll ps)
    have go : ∀ {ds : List D} {ps : List PyData}, RdmAll (Mx l M) ds ps → ds.length ≤ piled (PyData.shownAll ps) := by
      intro ds ps hr
      induction ps generalizing ds with
      | nil => cases hr; simp
      | cons p ps ih =>
        cases hr with
        | cons r rs =>
          have := ih rs
          simp only [PyData.shownAll, List.length_cons]
          have e : piled (p.shown :: PyData.shownAll ps) = p.shown.length + 2 + piled (PyData.shownAll ps) := by simp [piled]
          omega
    exact Nat.le_trans (go hr) (Nat.le_trans h1 e)
theorem Vl.ints {l : Addr} {M : Mp} {ns : List Int} {k : Nat} (h : ∀ i ∈ ns, i.natAbs < 4096) (hk : ns.length ≤ k) : Vl l M 1 (k * 15 + 3) (dI ns) := by
  refine (Vl.tup (n := 0) (w := 13) (ds := ns.map D.int) fun d hd => ?_).mono (Nat.le_refl _) ?_
  · obtain ⟨i, hi, rfl⟩ := List.mem_map.mp hd
    exact .int (h i hi)
  · rw [List.length_map]
    have := Nat.mul_le_mul_right 15 hk
    omega
end DL

/-! Blocks and begun squares judged. -/
namespace DL
open PySem L2
def rowB (size w0 : Int) (r : D) : Bool := match r with
  | .tup xs => decide (1 ≤ ((xs.length : Nat) : Int)) && decide (((xs.length : Nat) : Int) ≤ size) && decide (((xs.length : Nat) : Int) = w0) && (xs.all fun x => isIntB x 0 (size - 1)) && decide ((xs.map getI).Nodup)
  | _ => false
def w0 (rows : List D) : Int := match rows with
  | .tup xs :: _ => (xs.length : Nat)
  | _ => -1
def colB (t : List (List Int)) (j : Int) : Bool := decide ((t.map fun r => at0 r j).Nodup)
def unD (rows : List D) : List (List Int) := rows.map fun r => match r with
  | .tup xs => xs.map getI
  | _ => []
def blkJ (size : Int) (v : D) : D := match v with
  | .tup rows => bif decide (1 ≤ ((rows.length : Nat) : Int)) && decide (((rows.length : Nat) : Int) ≤ size) then
      (match rows.findIdx? (fun r => !rowB size (w0 rows) r) with
      | some k => .tup [.int (k : Nat), .str "row"]
      | none => match (rg (w0 rows).toNat).find? (fun j => !colB (unD rows) j) with
        | some j => .tup [.int j, .str "column"]
        | none => .non)
    else .tup [.non, .str "block"]
  | _ => .tup [.non, .str "block"]
theorem rows_all {size w : Int} {rows : List D} (h : ∀ r ∈ rows, rowB size w r = true) : rows = (unD rows).map dI ∧ ∀ r ∈ unD rows, ((r.length : Nat) : Int) = w ∧ (∀ x ∈ r, 0 ≤ x ∧ x ≤ size - 1) ∧ r.Nodup := by
  refine ⟨?_, fun r hr => ?_⟩
  · unfold unD
    rw [List.map_map]
    refine Eq.symm ((List.map_congr_left fun d hd => ?_).trans (List.map_id rows))
    have := h d hd
    cases d with
    | tup xs =>
      simp only [rowB, Bool.and_eq_true] at this
      show D.tup ((xs.map getI).map D.int) = D.tup xs
      rw [← (ints_all this.1.2).1]
    | _ => simp [rowB] at this
  · obtain ⟨d, hd, rfl⟩ := List.mem_map.mp hr
    have := h d hd
    cases d with
    | tup xs =>
      simp only [rowB, Bool.and_eq_true, decide_eq_true_eq] at this
      refine ⟨by show (((xs.map getI).length : Nat) : Int) = w; rw [List.length_map]; exact this.1.1.2, (ints_all this.1.2).2, this.2⟩
    | _ => simp [rowB] at this
/-- two lists, each of pairs or None -/
theorem blkJ_vl {l : Addr} {M : Mp} {size : Int} {v : D} (hs : size ≤ 4000) : Vl l M 1 100 (blkJ size v) := by
  have pr : ∀ (k : Int) (x : Str), 0 ≤ k → k < 4096 → x = "row" ∨ x = "column" → Vl l M 1 100 (.tup [.int k, .str x]) := by
    intro k x k0 k1 hx
    refine (Vl.tup (n := 0) (w := 20) (ds := [.int k, .str x]) fun d hd => ?_).mono (Nat.le_refl _) (by simp)
    simp only [List.mem_cons, List.not_mem_nil, or_false] at hd
    rcases hd with rfl | rfl
    · exact (Vl.int (by omega)).mono (Nat.le_refl _) (by decide)
    · rcases hx with rfl | rfl
      · exact .pure (by decide +kernel) (by decide +kernel) (by decide +kernel) (by decide +kernel)
      · exact .pure (by decide +kernel) (by decide +kernel) (by decide +kernel) (by decide +kernel)
  have bk : Vl l M 1 100 (.tup [.non, .str "block"]) := .pure (by decide +kernel) (by decide +kernel) (by decide +kernel) (by decide +kernel)
  cases v with
  | tup rows =>
    simp only [blkJ]
    cases e : decide (1 ≤ ((rows.length : Nat) : Int)) && decide (((rows.length : Nat) : Int) ≤ size) with
    | false => exact bk
    | true =>
      simp only [Bool.and_eq_true, decide_eq_true_eq] at e
      simp only [cond_true]
      split
      · rename_i k hk
        have := (List.findIdx?_eq_some_iff_getElem.mp hk).1
        exact pr _ _ (by omega) (by omega) (.inl rfl)
      · rename_i hn
        split
        · rename_i j hj
          have hm := rg_mem.mp (List.mem_of_find?_eq_some hj)
          have hw : w0 rows ≤ size := by
            match rows, e, hn with
            | [], e, _ => exact absurd e.1 (by decide)
            | r :: rs, e, hn =>
              have h0 := List.findIdx?_eq_none_iff.mp hn r List.mem_cons_self
              cases r with
              | tup xs =>
                simp only [rowB, Bool.not_eq_false', Bool.and_eq_true, decide_eq_true_eq] at h0
                exact h0.1.1.1.2
              | _ => simp [rowB] at h0
          exact pr _ _ hm.1 (by omega) (.inr rfl)
        · exact .pure (by decide +kernel) (by decide +kernel) (by decide +kernel) (by decide +kernel)
  | _ => exact bk
end DL
namespace DL
open PySem L2
theorem unD_map (t : List (List Int)) : unD (t.map dI) = t := by
  unfold unD
  rw [List.map_map]
  refine (List.map_congr_left fun r _ => ?_).trans (List.map_id t)
  show (r.map D.int).map getI = r
  rw [List.map_map]
  exact (List.map_congr_left fun x _ => rfl).trans (List.map_id r)
theorem atI0 {α : Type} {x : α} {xs : List α} : atI (x :: xs) 0 = some x := by
  rw [atI_nn (by decide) (by simp)]
  rfl
theorem lt_nodup {out ns : List Int} (h1 : out.Nodup) (h2 : ∀ k, k ∈ out ↔ k ∈ ns) : decide (((out.length : Nat) : Int) < ((ns.length : Nat) : Int)) = !decide ns.Nodup := by
  have := set_len h1 h2
  by_cases h : ns.Nodup
  · rw [decide_eq_true h, decide_eq_false_iff_not.mpr (by have := this.2.mpr h; omega)]
    rfl
  · rw [decide_eq_false h, decide_eq_true_eq.mpr (by have := mt this.2.mp h; omega)]
    rfl
theorem ne_nodup {out ns : List Int} (h1 : out.Nodup) (h2 : ∀ k, k ∈ out ↔ k ∈ ns) : sg true (decide (((out.length : Nat) : Int) = ((ns.length : Nat) : Int))) = !decide ns.Nodup := by
  have := set_len h1 h2
  show (!decide _) = _
  congr 1
  rw [decide_eq_decide, ← this.2]
  omega
theorem blk_row {size : Int} {rows : List D} {k : Nat} (e1 : decide (1 ≤ ((rows.length : Nat) : Int)) = true) (e2 : decide (((rows.length : Nat) : Int) ≤ size) = true) (hk : k < rows.length) (hb : rowB size (w0 rows) rows[k] = false) (h : ∀ (i : Nat) (hi : i < rows.length), i < k → rowB size (w0 rows) rows[i] = true) :
    blkJ size (.tup rows) = .tup [.int (k : Nat), .str "row"] := by
  simp only [blkJ, e1, e2, Bool.and_true, cond_true]
  rw [findIdx_of hk (by rw [hb]; rfl) fun i hi hlt => by rw [h i hi hlt]; rfl]
theorem blk_col {size : Int} {t : List (List Int)} (e1 : decide (1 ≤ (((t.map dI).length : Nat) : Int)) = true) (e2 : decide ((((t.map dI).length : Nat) : Int) ≤ size) = true) (h : ∀ r ∈ t.map dI, rowB size (w0 (t.map dI)) r = true) :
    blkJ size (.tup (t.map dI)) = match (rg (w0 (t.map dI)).toNat).find? (fun j => !colB t j) with
        | some j => .tup [.int j, .str "column"]
        | none => .non := by
  simp only [blkJ, e1, e2, Bool.and_true, cond_true]
  rw [findIdx_none fun i hi => by rw [h _ (List.getElem_mem hi)]; rfl, unD_map]
theorem find_take {n : Nat} {p : Int → Bool} {k : Nat} (hk : k < n) (h : ∀ i : Int, 0 ≤ i → i < k → p i = false) (hp : p k = true) : (rg n).find? p = some (k : Int) := by
  rw [List.find?_eq_some_iff_append]
  refine ⟨hp, rg k, (rg n).drop (k + 1), ?_, fun a ha => ?_⟩
  · have e : rg n = (rg n).take (k + 1) ++ (rg n).drop (k + 1) := (List.take_append_drop ..).symm
    have e2 : (rg n).take (k + 1) = rg k ++ [(k : Int)] := by
      rw [← rg_succ]
      unfold rg
      rw [← List.map_take, List.take_range]
      congr 2
      omega
    rw [e2] at e
    refine e.trans ?_
    rw [List.append_assoc]
    rfl
  · have := rg_mem.mp ha
    rw [h a this.1 this.2]
    rfl
theorem find_none {n : Nat} {p : Int → Bool} (h : ∀ i : Int, 0 ≤ i → i < n → p i = false) : (rg n).find? p = none := by
  rw [List.find?_eq_none]
  intro i hi
  have := rg_mem.mp hi
  rw [h i this.1 this.2]
  decide
end DL
namespace DL
open PySem L2
theorem atI_last1 {α : Type} {ds : List α} (h : 0 < ds.length) : ∃ d, d ∈ ds ∧ atI ds (-1) = some d := by
  rcases List.eq_nil_or_concat ds with rfl | ⟨xs, d, rfl⟩
  · exact absurd h (by simp)
  · rw [List.concat_eq_append]
    refine ⟨d, by simp, ?_⟩
    have := @atI_last
    unfold atI ixN
    rw [if_neg (by decide)]
    simp only [List.length_append, List.length_cons, List.length_nil]
    rw [if_pos (by omega)]
    have e : ((-1 : Int) + ((xs.length + (0 + 1) : Nat) : Int)).toNat = xs.length := by omega
    show (xs ++ [d])[((-1 : Int) + ((xs.length + (0 + 1) : Nat) : Int)).toNat]? = some d
    rw [e, List.getElem?_append_right (Nat.le_refl _)]
    simp
end DL
namespace DL
open PySem L2
theorem upd_facts {M M1 M0 : Mp} {p l : Addr} {o : MO} (h : M p = none) (e : updM M p o = M1) (G : Bg l M0 M) : M1 p = some o ∧ p ≠ l ∧ Bg l M0 M1 ∧ Keep M M1 := by
  subst e
  exact ⟨updM_same, Ne.symm (G.bag.ne h), G.new h, Keep.new h⟩
theorem upd_keep {M M1 M0 : Mp} {p : Addr} {o : MO} (h : M p = none) (e : updM M p o = M1) (G : Keep M0 M) : M1 p = some o ∧ Keep M0 M1 ∧ Keep M M1 := by
  subst e
  exact ⟨updM_same, G.trans (Keep.new h), Keep.new h⟩
theorem Vl.keep {l : Addr} {M M' : Mp} {n w : Nat} {d : D} (h : Vl l M n w d) (k : Keep M M') : Vl l M' n w d := h.up k.ext
end DL
namespace DL
open PySem L2
theorem mem_put {ds : List D} {k : Nat} {d x : D} (h : x ∈ ds.take k ++ [d] ++ ds.drop (k + 1)) : x ∈ ds ∨ x = d := by
  rcases List.mem_append.mp h with h | h
  · rcases List.mem_append.mp h with h | h
    · exact .inl (List.mem_of_mem_take h)
    · exact .inr (by simpa using h)
  · exact .inl (List.mem_of_mem_drop h)
theorem len_put {ds : List D} {k : Nat} {d : D} (h : k < ds.length) : (ds.take k ++ [d] ++ ds.drop (k + 1)).length = ds.length := by
  simp
  omega
theorem Vl.tupn {l : Addr} {M : Mp} {n w k : Nat} {ds : List D} (h : ∀ d ∈ ds, Vl l M n w d) (hk : ds.length ≤ k) : Vl l M (n + 1) (k * (w + 2) + 3) (.tup ds) := (Vl.tup h).mono (Nat.le_refl _) (by have := Nat.mul_le_mul_right (w + 2) hk; omega)
theorem Vl.lstn {l a : Addr} {M : Mp} {n w k : Nat} {ds : List D} (e : M a = some (.lst ds)) (hn : a ≠ l) (h : ∀ d ∈ ds, Vl l M n w d) (hk : ds.length ≤ k) : Vl l M (n + 1) (k * (w + 2) + 3) (.ref a) := (Vl.lst e hn h).mono (Nat.le_refl _) (by have := Nat.mul_le_mul_right (w + 2) hk; omega)
theorem blk_at {n : Nat} {b : List (List Int)} (h : BlkOk n b) {i : Int} (i0 : 0 ≤ i) (i1 : i < b.length) : rowT b i ∈ b ∧ atI (b.map dI) i = some (dI (rowT b i)) := by
  have e : b[i.toNat]? = some (rowT b i) := by
    unfold rowT
    rw [List.getElem?_eq_getElem (by omega)]
    rfl
  refine ⟨List.mem_of_getElem? e, ?_⟩
  rw [atI_nn i0 (by rw [List.length_map]; omega), List.getElem?_map, e]
  rfl
theorem rdm_pj {l : Addr} {M : Mp} {n w : Nat} {d : D} (h : Vl l M n w d) (h1 : n ≤ 98) (h2 : w ≤ 1000000) : ∃ P, Shw P ∧ ∀ M' a, Keep M M' → M' a = some (.lst [d, d]) → Rdm M' (.ref a) P := by
  obtain ⟨p, r, b, c, e⟩ := h
  exact ⟨.list [p, p], two_shw b (by omega) (by omega), fun M' a k ha => .lst ha (.cons ((r.mono Mx.le).mono k) (.cons ((r.mono Mx.le).mono k) .nil))⟩
end DL

/-! tuple * int. -/
namespace DL
open PySem PySem.Spec PyProof.Rows L2
theorem tuple_mul_same (l : Addr) (items : Array Value) (n : Nat) (dd : Option Addr) (sl : Array (Option Value)) (x : Int) (u : Tok) (c0 : (decide (x < -(2 ^ 63)) || decide (x ≥ 2 ^ 63)) = false) (c1 : (items.isEmpty || x == 1) = true) :
    Meets (Builtin.«tuple.__mul__» ⟨[.ref l, .int x u], []⟩) (fun _ R s => s.heap.get? l = some { cls := .type "tuple", dict := dd, data := .seq items n, slots := sl } ∧ R (.ok (.ret (Value.ref l))) s) :=
  .of_wp fun prog w A R s h => by
    obtain ⟨hp, g, d, tk, os⟩ := s
    obtain ⟨hl, h⟩ := h
    have f1 := AutoSeq1.idx_int
    wp_walk using wpAny_loadPart' hl
    repeat (first
      | (refine wpAny_ite_false (decide_eq_false (by rw [c0]; exact Bool.false_ne_true)) ?_; wp_walk using wpAny_loadPart' hl)
      | (refine wpAny_ite_true (decide_eq_true c1) ?_; wp_walk using wpAny_loadPart' hl))
    exact ⟨_, rfl, h⟩
theorem tuple_mul_none (l : Addr) (items : Array Value) (n : Nat) (dd : Option Addr) (sl : Array (Option Value)) (x : Int) (u : Tok) (c0 : (decide (x < -(2 ^ 63)) || decide (x ≥ 2 ^ 63)) = false) (c1 : (items.isEmpty || x == 1) = false) (c2 : (decide (x ≤ 0) || items.isEmpty) = true) :
    Meets (Builtin.«tuple.__mul__» ⟨[.ref l, .int x u], []⟩) (fun _ R s => s.heap.get? l = some { cls := .type "tuple", dict := dd, data := .seq items n, slots := sl } ∧
      R (.ok (.ret (Value.ref s.heap.objs.size))) { s with heap := s.heap.push { cls := Value.type "tuple", data := Data.seq #[] }, toks := s.toks }) :=
  .of_wp fun prog w A R s h => by
    obtain ⟨hp, g, d, tk, os⟩ := s
    obtain ⟨hl, h⟩ := h
    have f1 := AutoSeq1.idx_int
    wp_walk using wpAny_loadPart' hl
    repeat (first
      | (refine wpAny_ite_false (decide_eq_false (by rw [c0]; exact Bool.false_ne_true)) ?_; wp_walk using wpAny_loadPart' hl)
      | (refine wpAny_ite_false (decide_eq_false (by rw [c1]; exact Bool.false_ne_true)) ?_; wp_walk using wpAny_loadPart' hl)
      | (refine wpAny_ite_true (decide_eq_true c2) ?_; wp_walk using wpAny_loadPart' hl))
    exact ⟨_, rfl, h⟩
def zRepT (K : PySem.W.Frag) : R2 := fun x y H Q => ∃ l k xs, x = .ref l ∧ y = .int k ∧ SqT K H l xs ∧ -1000 ≤ k ∧ k ≤ 1000 ∧ xs.length ≤ 1000 ∧ ((xs = [] ∨ k = 1) → Q (.ref l) H) ∧
  (¬ (xs = [] ∨ k = 1) → ∀ p o, H p = none → o.dict = none → Q (.ref p) (upd H p (.frz o (.tup (List.replicate k.toNat xs).flatten))))
section
variable {X : Cx}
theorem op_repZ : OpR X (binaryOp .Mult) (zRepT X.K) := by
  intro pins s σ H x y v u Q I rx ry h
  obtain ⟨l, k, xs, rfl, rfl, hT, h1, h2, hz, q1, q2⟩ := h
  cases rx
  obtain ⟨t, rfl⟩ := ry
  obtain ⟨its, r, ⟨⟨cls, dd, data, sl⟩, ho, hc, n, hd⟩, hs⟩ := I.tuple hT
  simp only at hc hd
  subst hc hd
  have hle : its.length = xs.length := r.length.symm
  have c0 : (decide (k < -(2 ^ 63)) || decide (k ≥ 2 ^ 63)) = false := by
    rw [decide_eq_false (by omega), decide_eq_false (by omega)] <;> rfl
  have go : ∀ {R : Fin → Shared → Prop} {C : Prop}, True := fun {_ _} => trivial
  by_cases hw : xs = [] ∨ k = 1
  · have c1 : (its.toArray.isEmpty || k == 1) = true := by
      rcases hw with rfl | rfl
      · have : its = [] := List.eq_nil_of_length_eq_zero (by rw [hle]; rfl)
        subst this
        rfl
      · simp
    refine wpAny_binaryOp_repeat_ref (T := "tuple") (U := "int") (by decide) ⟨_, ho, rfl⟩ (fun s' => typeIs_int s' k t) noFill_tuple_mul F.fills_int_mul F.slot_int_rmul repeat_tuple F.slot_int_index.lookup
      (call_meets F.slot_int_rmul (typeIs_int s k t) F.entry_int_rmul (F.args_int_rmul_2 _ _) (int_rmul_tuple k t l its.toArray n dd sl)
        ⟨ho, rfl, ⟨_, ho, rfl⟩, call_meets F.slot_tuple_mul ⟨_, ho, rfl⟩ F.entry_tuple_mul (F.args_tuple_mul_2 _ _) (tuple_mul_same l its.toArray n dd sl k t c0 c1) ⟨ho, ?_⟩⟩)
    exact ⟨.ref l, H, I, rfl, q1 hw⟩
  · have hne : xs ≠ [] := fun e => hw (.inl e)
    have hk1 : k ≠ 1 := fun e => hw (.inr e)
    have hn : its ≠ [] := fun e => hne (by
      rw [e] at hle
      exact List.eq_nil_of_length_eq_zero hle.symm)
    have hi : its.toArray.isEmpty = false := by
      cases its with
      | nil => exact absurd rfl hn
      | cons a b => rfl
    have hsz0 : its.toArray.size = xs.length := by rw [List.size_toArray, hle]
    have c1 : (its.toArray.isEmpty || k == 1) = false := by
      rw [hi, Bool.false_or]
      exact beq_eq_false_iff_ne.mpr hk1
    by_cases hk : k ≤ 0
    · have c2 : (decide (k ≤ 0) || its.toArray.isEmpty) = true := by rw [decide_eq_true hk]; rfl
      refine wpAny_binaryOp_repeat_ref (T := "tuple") (U := "int") (by decide) ⟨_, ho, rfl⟩ (fun s' => typeIs_int s' k t) noFill_tuple_mul F.fills_int_mul F.slot_int_rmul repeat_tuple F.slot_int_index.lookup
        (call_meets F.slot_int_rmul (typeIs_int s k t) F.entry_int_rmul (F.args_int_rmul_2 _ _) (int_rmul_tuple k t l its.toArray n dd sl)
          ⟨ho, rfl, ⟨_, ho, rfl⟩, call_meets F.slot_tuple_mul ⟨_, ho, rfl⟩ F.entry_tuple_mul (F.args_tuple_mul_2 _ _) (tuple_mul_none l its.toArray n dd sl k t c0 c1 c2) ⟨ho, ?_⟩⟩)
      have e0 : (List.replicate k.toNat xs).flatten = [] := by rw [show k.toNat = 0 by omega]; rfl
      rw [e0] at q2
      refine ⟨.ref s.heap.objs.size, _, I.laid (t' := s.toks) (o := .frz { cls := .type "tuple", data := .seq #[] } (.tup [])) (fun b ob q => Heap.get?_push_of_some _ q) (Nat.le_refl _) ?_, rfl, q2 hw _ _ (I.hok.fresh (Nat.le_refl _)) rfl⟩
      exact ⟨Heap.get?_push_size _ rfl, Nat.zero_le _, [], .nil, IsTup.new _ _⟩
    · have hm : ((its.toArray.size : Nat) : Int) * k ≤ 1000000 := by
        rw [hsz0]
        have a1 : ((xs.length : Nat) : Int) * k ≤ 1000 * k := Int.mul_le_mul_of_nonneg_right (by omega) (by omega)
        omega
      have flen : (List.replicate k.toNat its).flatten.length ≤ sizeLine := by
        rw [PyProof.Rows.lm_len_rep_flat, hle, sizeLine_eq]
        have a1 : k.toNat * xs.length ≤ 1000 * 1000 := Nat.mul_le_mul (by omega) hz
        omega
      have c2 : (decide (k ≤ 0) || its.toArray.isEmpty) = false := by
        rw [hi, Bool.or_false]
        exact decide_eq_false (by omega)
      have c4 : Builtin.Tuple.tupleTooMany (((its.toArray.size : Nat) : Int) * k) = false := by
        unfold Builtin.Tuple.tupleTooMany
        rw [sizeLine_eq]
        exact decide_eq_false (by omega)
      refine wpAny_binaryOp_repeat_ref (T := "tuple") (U := "int") (by decide) ⟨_, ho, rfl⟩ (fun s' => typeIs_int s' k t) noFill_tuple_mul F.fills_int_mul F.slot_int_rmul repeat_tuple F.slot_int_index.lookup
        (call_meets F.slot_int_rmul (typeIs_int s k t) F.entry_int_rmul (F.args_int_rmul_2 _ _) (int_rmul_tuple k t l its.toArray n dd sl)
          ⟨ho, rfl, ⟨_, ho, rfl⟩, call_meets F.slot_tuple_mul ⟨_, ho, rfl⟩ F.entry_tuple_mul (F.args_tuple_mul_2 _ _) (tuple_mulW l its.toArray n dd sl k t c0 c1 c2 (by omega) c4 (by rw [size_rep, List.size_toArray]; exact flen)) ⟨ho, ?_⟩⟩)
      rw [size_rep]
      refine ⟨.ref s.heap.objs.size, _, I.laid (t' := s.toks) (o := .frz { cls := .type "tuple", data := .seq (List.replicate k.toNat its).flatten.toArray } (.tup (List.replicate k.toNat xs).flatten)) (fun b ob q => Heap.get?_push_of_some _ q) (Nat.le_refl _) ?_, rfl, q2 hw _ _ (I.hok.fresh (Nat.le_refl _)) rfl⟩
      exact ⟨Heap.get?_push_size _ rfl, by rw [PyProof.Rows.lm_len_rep_flat, sizeLine_eq]; have a1 : k.toNat * xs.length ≤ 1000 * 1000 := Nat.mul_le_mul (by omega) hz; omega, _, r.rep k.toNat, IsTup.new _ _⟩
/-- t * k -/
def rRepT : R2D := fun x y M Q => match x, y with
  | .tup xs, .int k => -1000 ≤ k ∧ k ≤ 1000 ∧ xs.length ≤ 1000 ∧ Q (.tup (List.replicate k.toNat xs).flatten) M
  | _, _ => False
theorem br_repT : BR X .Mult rRepT := by
  refine ⟨_, op_repZ, ?_⟩
  intro H M vx vy x y Q' Q fx fy m h k
  unfold rRepT at h
  split at h
  · rename_i xs n
    obtain ⟨h0, h1, hz, q⟩ := h
    cases fy
    cases fx with
    | @tup a vs _ hs f =>
      refine ⟨a, n, vs, rfl, rfl, hs.t, h0, h1, by rw [f.length]; exact hz, fun hw => ?_, fun hw p o hp ho => ?_⟩
      · have e : (List.replicate n.toNat xs).flatten = xs := by
          rcases hw with rfl | rfl
          · cases f
            simp
          · simp
        rw [e] at q
        exact k.val m (.tup hs f) q
      · exact k.newTup m (f.flat _) q hp ho
  · exact h.elim
end
end DL
namespace DL
open PySem L2
/-! ### begun squares -/
def knownD (cells : List D) : List D := cells.filter fun d => !isNon d
def onceB (cells : List D) (size : Int) : Bool := ((knownD cells).all fun x => isIntB x 0 (size - 1)) && decide (((knownD cells).map getI).Nodup)
def rowO (n : Int) (r : D) : Bool := match r with
  | .tup xs => decide (((xs.length : Nat) : Int) = n) && onceB xs n
  | _ => false
def cell1 (j : Int) (r : D) : D := match r with
  | .tup xs => (xs[j.toNat]?).getD .non
  | _ => .non
def colD (rows : List D) (j : Int) : List D := rows.map (cell1 j)
def begJ (v : D) : D := match v with
  | .tup rows => bif decide (1 ≤ ((rows.length : Nat) : Int)) && decide (((rows.length : Nat) : Int) ≤ 30) then
      (match rows.findIdx? (fun r => !rowO (rows.length : Nat) r) with
      | some k => .tup [.int (k : Nat), .str "row"]
      | none => match (rg rows.length).find? (fun j => !onceB (colD rows j) (rows.length : Nat)) with
        | some j => .tup [.int j, .str "column"]
        | none => .non)
    else .tup [.non, .str "square"]
  | _ => .tup [.non, .str "square"]
theorem pair_vl {l : Addr} {M : Mp} {k : Int} {x : Str} (k0 : 0 ≤ k) (k1 : k < 4096) (hx : x = "row" ∨ x = "column") : Vl l M 1 100 (.tup [.int k, .str x]) := by
  refine (Vl.tup (n := 0) (w := 20) (ds := [.int k, .str x]) fun d hd => ?_).mono (Nat.le_refl _) (by simp)
  simp only [List.mem_cons, List.not_mem_nil, or_false] at hd
  rcases hd with rfl | rfl
  · exact (Vl.int (by omega)).mono (Nat.le_refl _) (by decide)
  · rcases hx with rfl | rfl
    · exact .pure (by decide +kernel) (by decide +kernel) (by decide +kernel) (by decide +kernel)
    · exact .pure (by decide +kernel) (by decide +kernel) (by decide +kernel) (by decide +kernel)
theorem begJ_vl {l : Addr} {M : Mp} {v : D} : Vl l M 1 100 (begJ v) := by
  have bk : Vl l M 1 100 (.tup [.non, .str "square"]) := .pure (by decide +kernel) (by decide +kernel) (by decide +kernel) (by decide +kernel)
  cases v with
  | tup rows =>
    simp only [begJ]
    cases e : decide (1 ≤ ((rows.length : Nat) : Int)) && decide (((rows.length : Nat) : Int) ≤ 30) with
    | false => exact bk
    | true =>
      simp only [Bool.and_eq_true, decide_eq_true_eq] at e
      simp only [cond_true]
      split
      · rename_i k hk
        have := (List.findIdx?_eq_some_iff_getElem.mp hk).1
        exact pair_vl (by omega) (by omega) (.inl rfl)
      · split
        · rename_i j hj
          have hm := rg_mem.mp (List.mem_of_find?_eq_some hj)
          exact pair_vl hm.1 (by omega) (.inr rfl)
        · exact .pure (by decide +kernel) (by decide +kernel) (by decide +kernel) (by decide +kernel)
  | _ => exact bk
theorem beg_row {rows : List D} {k : Nat} (e1 : decide (1 ≤ ((rows.length : Nat) : Int)) = true) (e2 : decide (((rows.length : Nat) : Int) ≤ 30) = true) (hk : k < rows.length) (hb : rowO (rows.length : Nat) rows[k] = false) (h : ∀ (i : Nat) (hi : i < rows.length), i < k → rowO (rows.length : Nat) rows[i] = true) :
    begJ (.tup rows) = .tup [.int (k : Nat), .str "row"] := by
  simp only [begJ, e1, e2, Bool.and_true, cond_true]
  rw [findIdx_of hk (by rw [hb]; rfl) fun i hi hlt => by rw [h i hi hlt]; rfl]
theorem beg_col {rows : List D} (e1 : decide (1 ≤ ((rows.length : Nat) : Int)) = true) (e2 : decide (((rows.length : Nat) : Int) ≤ 30) = true) (h : ∀ r ∈ rows, rowO (rows.length : Nat) r = true) :
    begJ (.tup rows) = match (rg rows.length).find? (fun j => !onceB (colD rows j) (rows.length : Nat)) with
        | some j => .tup [.int j, .str "column"]
        | none => .non := by
  simp only [begJ, e1, e2, Bool.and_true, cond_true]
  rw [findIdx_none fun i hi => by rw [h _ (List.getElem_mem hi)]; rfl]
theorem rowO_tup {n : Int} {r : D} (h : rowO n r = true) : ∃ xs, r = .tup xs ∧ ((xs.length : Nat) : Int) = n ∧ onceB xs n = true := by
  cases r with
  | tup xs =>
    simp only [rowO, Bool.and_eq_true, decide_eq_true_eq] at h
    exact ⟨xs, rfl, h.1, h.2⟩
  | _ => simp [rowO] at h
theorem cell_ok {n : Int} {r : D} {j : Int} (h : rowO n r = true) (j0 : 0 ≤ j) (j1 : j < n) : ∃ xs, r = .tup xs ∧ atI xs j = some (cell1 j r) ∧ (isNon (cell1 j r) = true ∨ isIntB (cell1 j r) 0 (n - 1) = true) := by
  obtain ⟨xs, rfl, hl, ho⟩ := rowO_tup h
  have e : xs[j.toNat]? = some (cell1 j (.tup xs)) := by
    show xs[j.toNat]? = some ((xs[j.toNat]?).getD .non)
    rw [List.getElem?_eq_getElem (by omega)]
    rfl
  refine ⟨xs, rfl, by rw [atI_nn j0 (by omega)]; exact e, ?_⟩
  cases hn : isNon (cell1 j (.tup xs)) with
  | true => exact .inl rfl
  | false =>
    refine .inr ?_
    simp only [onceB, Bool.and_eq_true] at ho
    have hm : cell1 j (.tup xs) ∈ knownD xs := List.mem_filter.mpr ⟨List.mem_of_getElem? e, by rw [hn]; rfl⟩
    exact List.all_eq_true.mp ho.1 _ hm
theorem col_ints {n : Int} {rows : List D} {j : Int} (h : ∀ r ∈ rows, rowO n r = true) (j0 : 0 ≤ j) (j1 : j < n) : ((knownD (colD rows j)).all fun x => isIntB x 0 (n - 1)) = true := by
  rw [List.all_eq_true]
  intro x hx
  obtain ⟨hx, hn⟩ := List.mem_filter.mp hx
  obtain ⟨r, hr, rfl⟩ := List.mem_map.mp hx
  obtain ⟨xs, _, _, z⟩ := cell_ok (h r hr) j0 j1
  rcases z with z | z
  · rw [z] at hn
    cases hn
  · exact z
end DL
namespace DL
open PySem L2
theorem eq_nodup {out ns : List Int} (h1 : out.Nodup) (h2 : ∀ k, k ∈ out ↔ k ∈ ns) : sg false (decide (((out.length : Nat) : Int) = ((ns.length : Nat) : Int))) = decide ns.Nodup := by
  have := ne_nodup h1 h2
  show decide _ = _
  have e : (!decide (((out.length : Nat) : Int) = ((ns.length : Nat) : Int))) = !decide ns.Nodup := this
  simpa using e
def SeqD (M : Mp) (c : D) (cells : List D) : Prop := c = .tup cells ∨ ∃ p, c = .ref p ∧ M p = some (.lst cells)
/-- a cell: nothing or a small number -/
def sml (d : D) : Prop := d = .non ∨ ∃ i : Int, d = .int i ∧ i.natAbs < 4096
theorem sml_vl {d : D} (h : sml d) {l : Addr} {M : Mp} : Vl l M 0 13 d := by
  rcases h with rfl | ⟨i, rfl, hi⟩
  · exact .pure (by decide +kernel) (by decide +kernel) (by decide +kernel) (by decide +kernel)
  · exact .int hi
theorem tups_of {P : List D → Prop} : ∀ {acc : List D}, (∀ (k : Nat) (y : D), acc[k]? = some y → ∃ xs, y = .tup xs ∧ P xs) → ∃ bs : List (List D), acc = bs.map D.tup ∧ ∀ x ∈ bs, P x
  | [], _ => ⟨[], rfl, fun x hx => absurd hx List.not_mem_nil⟩
  | d :: acc, h => by
    obtain ⟨xs, rfl, hi⟩ := h 0 d rfl
    obtain ⟨bs, rfl, hw⟩ := tups_of (acc := acc) fun k y e => h (k + 1) y (by simpa using e)
    refine ⟨xs :: bs, rfl, fun x hx => ?_⟩
    rcases List.mem_cons.mp hx with rfl | hx
    · exact hi
    · exact hw x hx
theorem atI_map' {α : Type} {f : α → D} {xs : List α} {i : Int} {x : α} (i0 : 0 ≤ i) (h : xs[i.toNat]? = some x) : atI (xs.map f) i = some (f x) := by
  have hl := (List.getElem?_eq_some_iff.mp h).1
  rw [atI_nn i0 (by rw [List.length_map]; omega), List.getElem?_map, h]
  rfl
end DL
namespace DL
open PySem L2
/-- a square of cells -/
structure SqC (n : Nat) (bs : List (List D)) : Prop where
  len : bs.length = n
  row : ∀ r ∈ bs, r.length = n ∧ ∀ d ∈ r, sml d
theorem SqC.at' {n : Nat} {bs : List (List D)} (h : SqC n bs) {i : Int} (i0 : 0 ≤ i) (i1 : i < n) : ∃ r, r ∈ bs ∧ atI (bs.map D.tup) i = some (.tup r) := by
  have hl := h.len
  have e : bs[i.toNat]? = some bs[i.toNat] := List.getElem?_eq_getElem (by omega)
  exact ⟨_, List.mem_of_getElem? e, atI_map' i0 e⟩
theorem SqC.cell {n : Nat} {bs : List (List D)} (h : SqC n bs) {r : List D} (hr : r ∈ bs) {i : Int} (i0 : 0 ≤ i) (i1 : i < n) : ∃ d, atI r i = some d ∧ sml d := by
  have hl := (h.row r hr).1
  have e : r[i.toNat]? = some r[i.toNat] := List.getElem?_eq_getElem (by omega)
  exact ⟨_, by rw [atI_nn i0 (by omega)]; exact e, (h.row r hr).2 _ (List.getElem_mem _)⟩
theorem SqC.vrow {n : Nat} {bs : List (List D)} (h : SqC n bs) (hn : n ≤ 31) {r : List D} (hr : r ∈ bs) {l : Addr} {M : Mp} : Vl l M 1 500 (.tup r) := by
  have hl := (h.row r hr).1
  exact Vl.mono (Vl.tupn (k := 31) (n := 0) (w := 13) (fun d hd => sml_vl ((h.row r hr).2 d hd)) (by omega)) (by decide) (by decide)
theorem SqC.vl {n : Nat} {bs : List (List D)} (h : SqC n bs) (hn : n ≤ 31) {l : Addr} {M : Mp} : Vl l M 2 16000 (.tup (bs.map .tup)) := by
  have hl := h.len
  exact Vl.mono (Vl.tupn (k := 31) (n := 1) (w := 500) (fun d hd => by
    obtain ⟨r, hr, rfl⟩ := List.mem_map.mp hd
    exact h.vrow hn hr) (by rw [List.length_map]; omega)) (by decide) (by decide)
def padD (m : Int) (d : D) : D := match d with
  | .tup xs => .tup (xs ++ (List.replicate (m - (xs.length : Nat)).toNat [D.non]).flatten)
  | d => d
theorem mem_rep {α : Type} {k : Nat} {xs : List α} {x : α} (h : x ∈ (List.replicate k xs).flatten) : x ∈ xs := by
  obtain ⟨y, hy, hx⟩ := List.mem_flatten.mp h
  rw [List.eq_of_mem_replicate hy] at hx
  exact hx
theorem len_rep1 {α : Type} {k : Nat} {x : α} : (List.replicate k [x]).flatten.length = k := by
  simp
theorem padD_vl {m : Int} {xs : List D} (h : ∀ d ∈ xs, sml d) (hl : xs.length ≤ 31) (hm : m ≤ 31) {l : Addr} {M : Mp} : Vl l M 1 500 (padD m (.tup xs)) := by
  refine Vl.mono (Vl.tupn (k := 31) (n := 0) (w := 13) (fun d hd => sml_vl ?_) ?_) (by decide) (by decide)
  · rcases List.mem_append.mp hd with hd | hd
    · exact h d hd
    · exact .inl (by simpa using mem_rep hd)
  · rw [List.length_append, len_rep1]
    omega
end DL

/-! Formulas; texts of values within lists. -/
namespace DL
open PySem PyProof.Rows L2
theorem within_lt {N : Nat} : ∀ {t : List (Nat × Nat)} {c : Nat}, t.all (fun p => decide (p.2 < N)) = true → Unicode.within t c = true → c < N
  | [], _, _, h => by cases h
  | (a, b) :: t, c, h, h' => by
    rw [List.all_cons, Bool.and_eq_true, decide_eq_true_eq] at h
    unfold Unicode.within at h'
    split at h'
    · cases h'
    · rcases Bool.or_eq_true_iff.mp h' with z | z
      · have : c ≤ b := by simpa using z
        have := h.1
        simp only at this
        omega
      · exact within_lt h.2 z
theorem printable_lt {c : Nat} (h : Unicode.isPrintable c = true) : c < 16 ^ 8 := within_lt (by decide +kernel) h
theorem ofString_lt (x : String) : ∀ c ∈ (Str.ofString x).cps.toList, c < 16 ^ 8 := by
  intro c hc
  rw [signs_ofString] at hc
  obtain ⟨ch, _, rfl⟩ := List.mem_map.mp hc
  exact ch.val.toNat_lt
theorem hexs_lt {w n x : Nat} (h : x ∈ List.replicate (w - ((Nat.toDigits 16 n).map Char.toNat).length) 48 ++ (Nat.toDigits 16 n).map Char.toNat) : x < 16 ^ 8 := by
  rcases List.mem_append.mp h with h | h
  · rw [List.eq_of_mem_replicate h]
    decide
  · obtain ⟨ch, _, rfl⟩ := List.mem_map.mp h
    exact ch.val.toNat_lt
theorem two_lt {a b x : Nat} (ha : a < 16 ^ 8) (hb : b < 16 ^ 8) (h : x ∈ [a, b]) : x < 16 ^ 8 := by
  simp only [List.mem_cons, List.not_mem_nil, or_false] at h
  rcases h with rfl | rfl
  · exact ha
  · exact hb
theorem reprChar_lt {q c x : Nat} (hq : q < 16 ^ 8) (h : x ∈ Builtin.Str.reprChar q c) : x < 16 ^ 8 := by
  unfold Builtin.Str.reprChar at h
  simp only at h
  split at h
  · rename_i e
    have hc : c < 16 ^ 8 := by
      rcases Bool.or_eq_true_iff.mp e with e | e
      · rw [eq_of_beq e]
        exact hq
      · rw [eq_of_beq e]
        decide
    exact two_lt (by decide) hc h
  split at h
  · exact two_lt (by decide) (by decide) h
  split at h
  · exact two_lt (by decide) (by decide) h
  split at h
  · exact two_lt (by decide) (by decide) h
  split at h
  · rename_i e
    obtain rfl : x = c := by simpa using h
    exact printable_lt e
  split at h
  · rcases List.mem_append.mp h with h | h
    · exact two_lt (by decide) (by decide) h
    · exact hexs_lt h
  split at h
  · rcases List.mem_append.mp h with h | h
    · exact two_lt (by decide) (by decide) h
    · exact hexs_lt h
  · rcases List.mem_append.mp h with h | h
    · exact two_lt (by decide) (by decide) h
    · exact hexs_lt h
theorem fold_lt {q : Nat} (hq : q < 16 ^ 8) : ∀ (l : List Nat) (acc : Array Nat), (∀ x ∈ acc.toList, x < 16 ^ 8) → ∀ x ∈ (l.foldl (fun out c => out ++ (Builtin.Str.reprChar q c).toArray) acc).toList, x < 16 ^ 8
  | [], _, h => h
  | c :: l, acc, h => fold_lt hq l _ fun x hx => by
    rw [Array.toList_append, List.mem_append] at hx
    rcases hx with hx | hx
    · exact h x hx
    · exact reprChar_lt hq (by simpa using hx)
theorem reprText_lt (x : Str) : ∀ c ∈ (reprText x).cps.toList, c < 16 ^ 8 := by
  have hq : reprQuote x < 16 ^ 8 := by
    unfold reprQuote
    split <;> decide
  intro c hc
  unfold reprText at hc
  rw [Array.toList_push, List.mem_append, ← Array.foldl_toList] at hc
  rcases hc with hc | hc
  · exact fold_lt hq _ _ (fun y hy => by
      obtain rfl : y = reprQuote x := by simpa using hy
      exact hq) c hc
  · obtain rfl : c = reprQuote x := by simpa using hc
    exact hq
theorem join_lt {sep : Str} {ts : List Str} (hs : ∀ c ∈ sep.cps.toList, c < 16 ^ 8) (h : ∀ t ∈ ts, ∀ c ∈ t.cps.toList, c < 16 ^ 8) : ∀ c ∈ (Str.join sep ts).cps.toList, c < 16 ^ 8 := fun c hc => by
  rcases (mem_join sep c ts).mp hc with ⟨t, ht, hc⟩ | ⟨_, hc⟩
  · exact h t ht c hc
  · exact hs c hc
theorem app_lt {a b : Str} (ha : ∀ c ∈ a.cps.toList, c < 16 ^ 8) (hb : ∀ c ∈ b.cps.toList, c < 16 ^ 8) : ∀ c ∈ (a ++ b).cps.toList, c < 16 ^ 8 := fun c hc => by
  rcases mem_cps_append.mp hc with hc | hc
  · exact ha c hc
  · exact hb c hc
mutual
theorem shown_lt : ∀ (p : PyData), ∀ c ∈ p.shown.cps.toList, c < 16 ^ 8
  | .none => by simp only [PyData.shown]; exact ofString_lt _
  | .bool b => by cases b <;> (simp only [PyData.shown]; exact ofString_lt _)
  | .int i => by rw [PyData.shown_int]; exact ofString_lt _
  | .str x => by rw [PyData.shown_str]; exact reprText_lt x
  | .list ps => by
    simp only [PyData.shown]
    rw [listText_eq_join]
    exact app_lt (app_lt (ofString_lt _) (join_lt (ofString_lt _) (shownAll_lt ps))) (ofString_lt _)
  | .tuple ps => by
    simp only [PyData.shown]
    unfold tupleText
    refine app_lt (app_lt (ofString_lt _) (join_lt (ofString_lt _) (shownAll_lt ps))) ?_
    exact ofString_lt _
  | .dict kvs => by
    simp only [PyData.shown]
    unfold dictText
    exact app_lt (app_lt (ofString_lt _) (join_lt (ofString_lt _) (shownKv_lt kvs))) (ofString_lt _)
theorem shownAll_lt : ∀ (ps : List PyData), ∀ t ∈ PyData.shownAll ps, ∀ c ∈ t.cps.toList, c < 16 ^ 8
  | [], t, h => by simp [PyData.shownAll] at h
  | p :: ps, t, h => by
    simp only [PyData.shownAll, List.mem_cons] at h
    rcases h with rfl | h
    · exact shown_lt p
    · exact shownAll_lt ps t h
theorem shownKv_lt : ∀ (ps : List (PyData × PyData)), ∀ t ∈ PyData.shownKv ps, ∀ c ∈ t.cps.toList, c < 16 ^ 8
  | [], t, h => by simp [PyData.shownKv] at h
  | (k, v) :: ps, t, h => by
    simp only [PyData.shownKv, List.mem_cons] at h
    rcases h with rfl | h
    · exact app_lt (app_lt (shown_lt k) (ofString_lt _)) (shown_lt v)
    · exact shownKv_lt ps t h
end
/-- the text of a text -/
theorem shown2_len (p : PyData) : (PyData.str p.shown).shown.length ≤ 10 * p.shown.length + 2 := by
  rw [PyData.shown_str]
  exact StrLaws.reprText_len _ (shown_lt p)
theorem Vl.strOf {l : Addr} {M : Mp} {p : PyData} {w : Nat} (h : p.shown.length ≤ w) : Vl l M 0 (10 * w + 2) (.str p.shown) :=
  ⟨.str p.shown, .str _, rfl, Nat.le_refl _, Nat.le_trans (shown2_len p) (by omega)⟩
/-- a look's answer twice and the value's text -/
theorem rdm_pjs {l : Addr} {M : Mp} {n w w2 : Nat} {d : D} {p : PyData} (h : Vl l M n w d) (hn : n ≤ 90) (hw : w ≤ 1000) (hp : p.shown.length ≤ w2) (hw2 : w2 ≤ 100000) :
    ∃ P, Shw P ∧ ∀ M' a, Keep M M' → M' a = some (.lst [d, d, .str p.shown]) → Rdm M' (.ref a) P := by
  obtain ⟨q, r, b, c, e⟩ := h
  have h2 := shown2_len p
  refine ⟨.list [q, q, .str p.shown], ⟨by simp [PyData.showable, PyData.showableAll, b], by simp only [PyData.depth, PyData.depthAll]; omega, ?_⟩, fun M' a k ha => .lst ha (.cons ((r.mono Mx.le).mono k) (.cons ((r.mono Mx.le).mono k) (.cons (.str _) .nil)))⟩
  have h1 := listText_len_le (PyData.shownAll [q, q, .str p.shown])
  have hz : sizeLine = 16777216 := rfl
  simp only [PyData.shownAll, List.map_cons, List.map_nil, List.sum_cons, List.sum_nil, List.length_cons, List.length_nil] at h1
  simp only [PyData.shown, PyData.shownAll] at h1 h2 ⊢
  omega
/-- tuples within tuples -/
def Dp : Nat → D → Prop
  | 0, d => ∀ ds, d ≠ .tup ds
  | n + 1, d => ∀ ds, d = .tup ds → ∀ x ∈ ds, Dp n x
theorem dp_all {M : Mp} {n : Nat} (ih : ∀ (d : D) (p : PyData), Rdm M d p → p.depth ≤ n → Dp n d) : ∀ {ds : List D} {ps : List PyData}, RdmAll M ds ps → PyData.depthAll ps ≤ n → ∀ d ∈ ds, Dp n d
  | _, _, .nil, _, d, h => by cases h
  | _, _, .cons r rs, hd, d, h => by
    simp only [PyData.depthAll] at hd
    rcases List.mem_cons.mp h with rfl | h
    · exact ih _ _ r (by omega)
    · exact dp_all ih rs (by omega) d h
theorem rdm_dp {M : Mp} : ∀ (n : Nat) (d : D) (p : PyData), Rdm M d p → p.depth ≤ n → Dp n d
  | 0, d, p, r, h => by
    intro ds e
    subst e
    cases r with
    | tup hr =>
      simp only [PyData.depth] at h
      omega
  | n + 1, d, p, r, h => by
    intro ds e
    subst e
    cases r with
    | tup hr =>
      simp only [PyData.depth] at h
      exact dp_all (rdm_dp n) hr (by omega)
theorem Dp.mono : ∀ {n m : Nat} {d : D}, Dp n d → n ≤ m → Dp m d
  | 0, 0, _, h, _ => h
  | 0, m + 1, _, h, _ => fun ds e => absurd e (h ds)
  | n + 1, 0, _, _, z => absurd z (by omega)
  | n + 1, m + 1, _, h, z => fun ds e x hx => (h ds e x hx).mono (by omega)
theorem Vl.dp {l : Addr} {M : Mp} {n w m : Nat} {d : D} (h : Vl l M n w d) (hm : n ≤ m) : Dp m d := let ⟨p, r, _, c, _⟩ := h; (rdm_dp n d p r c).mono hm
/-! ### looks at formulas -/
def wordB : D → Bool
  | .str x => [D.str "with", .str "behind", .str "ahead"].any fun z => eqF z (.str x)
  | _ => false
def partJ : Nat → Int → D → D
  | _, names, .int i => bif decide (0 ≤ i) && decide (i ≤ names - 1) then .non else .str "name"
  | n + 1, names, .tup [w, x, y] => bif wordB w then (match partJ n names x with | .non => partJ n names y | d => d) else .str "word"
  | _, _, _ => .str "formula"
def sizeJ : Nat → D → Int
  | n + 1, .tup [_, x, y] => 1 + sizeJ n x + sizeJ n y
  | _, _ => 1
def formJ (n : Nat) (names : Int) (v : D) : D := match partJ n names v with
  | .non => bif decide (sizeJ n v > 15) then .str "size" else .non
  | d => d
theorem partJ_tri {n : Nat} {names : Int} {w x y : D} : partJ (n + 1) names (.tup [w, x, y]) = bif wordB w then (match partJ n names x with | .non => partJ n names y | d => d) else .str "word" := by
  rw [partJ]
theorem bif2 (b : Bool) (x y : D) : (bif b then x else y) = x ∨ (bif b then x else y) = y := by
  cases b
  · exact .inr rfl
  · exact .inl rfl
theorem partJ_int {n : Nat} {names i : Int} : partJ n names (.int i) = bif decide (0 ≤ i) && decide (i ≤ names - 1) then .non else .str "name" := by
  cases n <;> rw [partJ]
theorem partJ_cases : ∀ (n : Nat) (names : Int) (v : D), partJ n names v = .non ∨ partJ n names v = .str "name" ∨ partJ n names v = .str "word" ∨ partJ n names v = .str "formula" := by
  intro n
  induction n with
  | zero =>
    intro names v
    cases v with
    | int i =>
      rw [partJ_int]
      exact (bif2 _ _ _).elim .inl fun e => .inr (.inl e)
    | _ => exact .inr (.inr (.inr (by rw [partJ] <;> simp)))
  | succ n ih =>
    intro names v
    by_cases ht : ∃ w x y, v = .tup [w, x, y]
    · obtain ⟨w, x, y, rfl⟩ := ht
      rw [partJ_tri]
      cases wordB w
      · exact .inr (.inr (.inl rfl))
      · rcases ih names x with e | e | e | e
        · simp only [cond_true, e]
          exact ih names y
        · simp only [cond_true, e]
          exact .inr (.inl trivial)
        · simp only [cond_true, e]
          exact .inr (.inr (.inl trivial))
        · simp only [cond_true, e]
          exact .inr (.inr (.inr trivial))
    · cases v with
      | int i =>
        rw [partJ_int]
        exact (bif2 _ _ _).elim .inl fun e => .inr (.inl e)
      | tup ds => exact .inr (.inr (.inr (by
          rw [partJ]
          · intro _ h; cases h
          · intro n' w x y _ h
            cases h
            exact ht ⟨_, _, _, rfl⟩)))
      | _ => exact .inr (.inr (.inr (by rw [partJ] <;> simp)))
theorem formJ_vl {l : Addr} {M : Mp} {n : Nat} {names : Int} {v : D} : Vl l M 0 20 (formJ n names v) := by
  unfold formJ
  rcases partJ_cases n names v with e | e | e | e
  · simp only [e]
    cases decide (sizeJ n v > 15)
    · exact .pure (by decide +kernel) (by decide +kernel) (by decide +kernel) (by decide +kernel)
    · exact .pure (by decide +kernel) (by decide +kernel) (by decide +kernel) (by decide +kernel)
  · simp only [e]
    exact .pure (by decide +kernel) (by decide +kernel) (by decide +kernel) (by decide +kernel)
  · simp only [e]
    exact .pure (by decide +kernel) (by decide +kernel) (by decide +kernel) (by decide +kernel)
  · simp only [e]
    exact .pure (by decide +kernel) (by decide +kernel) (by decide +kernel) (by decide +kernel)
/-- what is no formula's part has an int, or three items -/
theorem part_non {n : Nat} {names : Int} {v : D} (h : partJ n names v = .non) : (∃ i, v = .int i) ∨ ∃ m w x y, n = m + 1 ∧ v = .tup [w, x, y] ∧ partJ m names x = .non ∧ partJ m names y = .non := by
  unfold partJ at h
  split at h
  · exact .inl ⟨_, rfl⟩
  · rename_i m w x y
    refine .inr ⟨m, w, x, y, rfl, rfl, ?_⟩
    cases hw : wordB w with
    | false =>
      rw [hw] at h
      cases h
    | true =>
      rw [hw, cond_true] at h
      rcases partJ_cases m names x with e | e | e | e <;> rw [e] at h <;> simp only at h
      · exact ⟨e, h⟩
      all_goals cases h
  · cases h
theorem sizeJ_le : ∀ (n : Nat) (v : D), 1 ≤ sizeJ n v ∧ sizeJ n v < 2 ^ (n + 1)
  | 0, v => by
    unfold sizeJ
    decide
  | n + 1, v => by
    unfold sizeJ
    split
    · rename_i m w x y e
      cases e
      have a := sizeJ_le n x
      have b := sizeJ_le n y
      have : (2 : Int) ^ (n + 1 + 1) = 2 * 2 ^ (n + 1) := by rw [Int.pow_succ]; omega
      omega
    · refine ⟨by decide, ?_⟩
      have : (1 : Int) ≤ 2 ^ (n + 1) := Int.pow_pos (by decide)
      have : (2 : Int) ^ (n + 1 + 1) = 2 * 2 ^ (n + 1) := by rw [Int.pow_succ]; omega
      omega
/-! ### drawn formulas -/
def isW (x : Str) : Prop := x = "with" ∨ x = "behind" ∨ x = "ahead"
/-- a formula of names below a number, so deep, so wide -/
def Fw : Nat → Nat → Int → D → Prop
  | 0, w, names, d => ∃ i : Int, d = .int i ∧ 0 ≤ i ∧ i < names ∧ 13 ≤ w
  | n + 1, w, names, d => (∃ i : Int, d = .int i ∧ 0 ≤ i ∧ i < names ∧ 13 ≤ w) ∨ ∃ (x : Str) (a b : D) (w1 w2 : Nat), d = .tup [.str x, a, b] ∧ isW x ∧ Fw n w1 names a ∧ Fw n w2 names b ∧ w1 + w2 + 25 ≤ w
theorem Fw.name {n w : Nat} {names i : Int} (h0 : 0 ≤ i) (h1 : i < names) (hw : 13 ≤ w) : Fw n w names (.int i) := by
  cases n with
  | zero => exact ⟨i, rfl, h0, h1, hw⟩
  | succ n => exact .inl ⟨i, rfl, h0, h1, hw⟩
theorem Fw.cases' {n w : Nat} {names : Int} {d : D} (h : Fw n w names d) : (∃ i : Int, d = .int i ∧ 0 ≤ i ∧ i < names ∧ 13 ≤ w) ∨ ∃ (m : Nat) (x : Str) (a b : D) (w1 w2 : Nat), n = m + 1 ∧ d = .tup [.str x, a, b] ∧ isW x ∧ Fw m w1 names a ∧ Fw m w2 names b ∧ w1 + w2 + 25 ≤ w := by
  cases n with
  | zero => exact .inl h
  | succ n =>
    rcases h with h | ⟨x, a, b, w1, w2, h⟩
    · exact .inl h
    · exact .inr ⟨n, x, a, b, w1, w2, rfl, h⟩
theorem isW.vl {x : Str} (h : isW x) {l : Addr} {M : Mp} {n : Nat} : Vl l M n 8 (.str x) := by
  refine Vl.mono (n := 0) (w := 8) ?_ (Nat.zero_le _) (Nat.le_refl _)
  rcases h with rfl | rfl | rfl
  · exact .pure (by decide +kernel) (by decide +kernel) (by decide +kernel) (by decide +kernel)
  · exact .pure (by decide +kernel) (by decide +kernel) (by decide +kernel) (by decide +kernel)
  · exact .pure (by decide +kernel) (by decide +kernel) (by decide +kernel) (by decide +kernel)
theorem Vl.tri {l : Addr} {M : Mp} {n w0 w1 w2 w : Nat} {a b c : D} (h0 : Vl l M n w0 a) (h1 : Vl l M n w1 b) (h2 : Vl l M n w2 c) (hw : w0 + w1 + w2 + 9 ≤ w) : Vl l M (n + 1) w (.tup [a, b, c]) := by
  obtain ⟨p0, r0, s0, d0, e0⟩ := h0
  obtain ⟨p1, r1, s1, d1, e1⟩ := h1
  obtain ⟨p2, r2, s2, d2, e2⟩ := h2
  refine ⟨.tuple [p0, p1, p2], .tup (.cons r0 (.cons r1 (.cons r2 .nil))), by simp [PyData.showable, PyData.showableAll, s0, s1, s2], by simp only [PyData.depth, PyData.depthAll]; omega, ?_⟩
  have h1 := tupleText_len_le (PyData.shownAll [p0, p1, p2])
  simp only [PyData.shownAll, List.map_cons, List.map_nil, List.sum_cons, List.sum_nil, List.length_cons, List.length_nil] at h1
  simp only [PyData.shown, PyData.shownAll]
  omega
theorem Fw.vl : ∀ {n w : Nat} {names : Int} {d : D}, Fw n w names d → names ≤ 4000 → ∀ {l : Addr} {M : Mp}, Vl l M n w d := by
  intro n
  induction n with
  | zero =>
    rintro w names d ⟨i, rfl, h0, h1, hw⟩ hn l M
    exact (Vl.int (by omega)).mono (Nat.le_refl _) hw
  | succ n ih =>
    rintro w names d (⟨i, rfl, h0, h1, hw⟩ | ⟨x, a, b, w1, w2, rfl, hx, ha, hb, hw⟩) hn l M
    · exact (Vl.int (by omega)).mono (Nat.zero_le _) hw
    · exact Vl.tri hx.vl (ih ha hn) (ih hb hn) (by omega)
theorem Fw.mono : ∀ {n m w w' : Nat} {names : Int} {d : D}, Fw n w names d → n ≤ m → w ≤ w' → Fw m w' names d := by
  intro n
  induction n with
  | zero =>
    rintro m w w' names d ⟨i, rfl, h0, h1, hw⟩ hm hw'
    exact .name h0 h1 (by omega)
  | succ n ih =>
    rintro m w w' names d (⟨i, rfl, h0, h1, hw⟩ | ⟨x, a, b, w1, w2, rfl, hx, ha, hb, hw⟩) hm hw'
    · exact .name h0 h1 (by omega)
    · obtain ⟨k, rfl⟩ : ∃ k, m = k + 1 := ⟨m - 1, by omega⟩
      exact .inr ⟨x, a, b, w1, w2, rfl, hx, ih ha (by omega) (Nat.le_refl _), ih hb (by omega) (Nat.le_refl _), by omega⟩
theorem isW.b {x : Str} (h : isW x) : wordB (.str x) = true := by
  rcases h with rfl | rfl | rfl <;> decide +kernel
theorem Fw.part : ∀ {n w : Nat} {names : Int} {d : D}, Fw n w names d → partJ n names d = .non := by
  intro n
  induction n with
  | zero =>
    rintro w names d ⟨i, rfl, h0, h1, hw⟩
    unfold partJ
    simp only [decide_eq_true h0, decide_eq_true (show i ≤ names - 1 by omega), Bool.and_self, cond_true]
  | succ n ih =>
    rintro w names d (⟨i, rfl, h0, h1, hw⟩ | ⟨x, a, b, w1, w2, rfl, hx, ha, hb, hw⟩)
    · unfold partJ
      simp only [decide_eq_true h0, decide_eq_true (show i ≤ names - 1 by omega), Bool.and_self, cond_true]
    · rw [partJ_tri, hx.b, cond_true, ih ha]
      exact ih hb
theorem pick_w {d : D} (h : d ∈ [D.str "with", .str "behind", .str "ahead"]) : ∃ x, d = .str x ∧ isW x := by
  simp only [List.mem_cons, List.not_mem_nil, or_false] at h
  rcases h with rfl | rfl | rfl
  · exact ⟨_, rfl, .inl rfl⟩
  · exact ⟨_, rfl, .inr (.inl rfl)⟩
  · exact ⟨_, rfl, .inr (.inr rfl)⟩
def WF : Nat → Nat
  | 0 => 13
  | n + 1 => 2 * WF n + 25
end DL
namespace DL
open PySem L2
theorem partJ_form {n : Nat} {names : Int} {v : D} (h1 : ∀ i, v ≠ .int i) (h2 : ∀ w x y, v ≠ .tup [w, x, y]) : partJ n names v = .str "formula" := by
  cases v with
  | int i => exact absurd rfl (h1 i)
  | tup ds =>
    cases n with
    | zero => rw [partJ] <;> simp
    | succ n =>
      rw [partJ]
      · intro _ h; cases h
      · intro n' w x y _ h
        exact h2 _ _ _ h
  | _ => cases n <;> rw [partJ] <;> simp
theorem len3 {ds : List D} (h : ¬ ∃ w x y, ds = [w, x, y]) : decide (((ds.length : Nat) : Int) = 3) = false := by
  refine decide_eq_false fun e => h ?_
  match ds, e with
  | [w, x, y], _ => exact ⟨w, x, y, rfl⟩
  | [], e => simp at e
  | [_], e => simp at e
  | [_, _], e => simp at e
  | _ :: _ :: _ :: _ :: _, e => simp at e; omega
theorem sizeJ_tri {n : Nat} {w x y : D} : sizeJ (n + 1) (.tup [w, x, y]) = 1 + sizeJ n x + sizeJ n y := by rw [sizeJ]
theorem sizeJ_int {n : Nat} {i : Int} : sizeJ n (.int i) = 1 := by cases n <;> rw [sizeJ] <;> simp
end DL
namespace DL
open PySem L2
theorem Fw.size : ∀ {n m w : Nat} {names : Int} {d : D}, Fw n w names d → 1 ≤ sizeJ m d ∧ sizeJ m d < 2 ^ (n + 1) := by
  intro n
  induction n with
  | zero =>
    rintro m w names d ⟨i, rfl, _⟩
    rw [sizeJ_int]
    decide
  | succ n ih =>
    have e : (2 : Int) ^ (n + 1 + 1) = 2 * 2 ^ (n + 1) := by rw [Int.pow_succ]; omega
    have p : (1 : Int) ≤ 2 ^ (n + 1) := Int.pow_pos (by decide)
    rintro m w names d (⟨i, rfl, _⟩ | ⟨x, a, b, w1, w2, rfl, hx, ha, hb, hw⟩)
    · rw [sizeJ_int]
      omega
    · cases m with
      | zero =>
        rw [show sizeJ 0 (.tup [.str x, a, b]) = 1 from by rw [sizeJ]; simp]
        omega
      | succ m =>
        rw [sizeJ_tri]
        have a1 := ih (m := m) ha
        have b1 := ih (m := m) hb
        omega
end DL

/-! Givens: pairs of formulas. -/
namespace DL
open PySem L2
theorem formJ_cases (n : Nat) (names : Int) (v : D) : formJ n names v = .non ∨ ∃ x, formJ n names v = .str x := by
  unfold formJ
  rcases partJ_cases n names v with e | e | e | e <;> simp only [e]
  · rcases bif2 (decide (sizeJ n v > 15)) (.str "size") .non with e | e
    · exact .inr ⟨_, e⟩
    · exact .inl e
  all_goals exact .inr ⟨_, rfl⟩
theorem formJ_part {n : Nat} {names : Int} {v : D} (h : formJ n names v = .non) : partJ n names v = .non := by
  unfold formJ at h
  rcases partJ_cases n names v with e | e | e | e
  · exact e
  all_goals
    rw [e] at h
    cases h
def wordG (names : Int) (v : D) : D := match formJ 20 names v with
  | .non => bif decide (sizeJ 20 v > 5) then .str "size" else .non
  | e => e
theorem wordG_str {names : Int} {v : D} {x : Str} (h : formJ 20 names v = .str x) : wordG names v = .str x := by
  unfold wordG
  rw [h]
theorem wordG_non {names : Int} {v : D} (h : formJ 20 names v = .non) : wordG names v = bif decide (sizeJ 20 v > 5) then .str "size" else .non := by
  unfold wordG
  rw [h]
def pairJ (names : Int) (v : D) : D := match v with
  | .tup [x, y] => (match wordG names x with | .non => wordG names y | e => e)
  | _ => .str "pair"
theorem pairJ_pair {names : Int} {v : D} (h : ∀ x y, v ≠ .tup [x, y]) : pairJ names v = .str "pair" := by
  unfold pairJ
  split
  · exact absurd rfl (h _ _)
  · rfl
theorem wordG_vl {l : Addr} {M : Mp} {names : Int} {v : D} : Vl l M 0 20 (wordG names v) := by
  rcases formJ_cases 20 names v with e | ⟨x, e⟩
  · rw [wordG_non e]
    rcases bif2 (decide (sizeJ 20 v > 5)) (.str "size") .non with e | e <;> rw [e]
    · exact .pure (by decide +kernel) (by decide +kernel) (by decide +kernel) (by decide +kernel)
    · exact .pure (by decide +kernel) (by decide +kernel) (by decide +kernel) (by decide +kernel)
  · rw [wordG_str e, ← e]
    exact formJ_vl
theorem pairJ_vl {l : Addr} {M : Mp} {names : Int} {v : D} : Vl l M 0 20 (pairJ names v) := by
  unfold pairJ
  split
  · rename_i x y
    split
    · exact wordG_vl
    · exact wordG_vl
  · exact .pure (by decide +kernel) (by decide +kernel) (by decide +kernel) (by decide +kernel)
theorem pair_at {names : Int} {x y : D} {k : Nat} {s : Str} (hk : k < [x, y].length) (h : ∀ (i : Nat) (hi : i < [x, y].length), i < k → wordG names [x, y][i] = .non) (hb : wordG names [x, y][k] = .str s) : pairJ names (.tup [x, y]) = .str s := by
  match k, hk with
  | 0, _ =>
    have hb : wordG names x = .str s := hb
    simp only [pairJ, hb]
  | 1, _ =>
    have h0 : wordG names x = .non := h 0 (by simp) (by decide)
    have hb : wordG names y = .str s := hb
    simp only [pairJ, h0, hb]
  | k + 2, hk => simp at hk; omega
theorem pair_non {names : Int} {x y : D} (h : ∀ (i : Nat) (hi : i < [x, y].length), wordG names [x, y][i] = .non) : pairJ names (.tup [x, y]) = .non := by
  have h0 : wordG names x = .non := h 0 (by simp)
  have h1 : wordG names y = .non := h 1 (by simp)
  simp only [pairJ, h0, h1]
theorem pairJ_cases (names : Int) (v : D) : pairJ names v = .non ∨ ∃ x, pairJ names v = .str x := by
  have w : ∀ d, wordG names d = .non ∨ ∃ x, wordG names d = .str x := fun d => by
    rcases formJ_cases 20 names d with e | ⟨x, e⟩
    · rw [wordG_non e]
      rcases bif2 (decide (sizeJ 20 d > 5)) (.str "size") .non with e | e
      · exact .inr ⟨_, e⟩
      · exact .inl e
    · exact .inr ⟨x, wordG_str e⟩
  unfold pairJ
  split
  · rename_i x y
    rcases w x with e | ⟨z, e⟩
    · rw [e]
      exact w y
    · rw [e]
      exact .inr ⟨z, rfl⟩
  · exact .inr ⟨_, rfl⟩
def givJ (names : Int) (v : D) : D := match v with
  | .tup ds => bif decide (((ds.length : Nat) : Int) > 3) then .tup [.non, .str "givens"] else
      (match ds.findIdx? (fun d => !isNon (pairJ names d)) with
      | some k => .tup [.int (k : Nat), pairJ names (ds.getD k .non)]
      | none => .non)
  | _ => .tup [.non, .str "givens"]
theorem giv_at {names : Int} {ds : List D} {k : Nat} (h3 : decide (((ds.length : Nat) : Int) > 3) = false) (hk : k < ds.length) {s : Str} (hb : pairJ names ds[k] = .str s) (h : ∀ (i : Nat) (hi : i < ds.length), i < k → pairJ names ds[i] = .non) : givJ names (.tup ds) = .tup [.int (k : Nat), .str s] := by
  simp only [givJ, h3, cond_false]
  rw [findIdx_of hk (by rw [hb]; rfl) fun i hi hlt => by rw [h i hi hlt]; rfl]
  simp only
  rw [List.getD_eq_getElem?_getD, List.getElem?_eq_getElem hk]
  simp only [Option.getD_some, hb]
theorem giv_non {names : Int} {ds : List D} (h3 : decide (((ds.length : Nat) : Int) > 3) = false) (h : ∀ (i : Nat) (hi : i < ds.length), pairJ names ds[i] = .non) : givJ names (.tup ds) = .non := by
  simp only [givJ, h3, cond_false]
  rw [findIdx_none fun i hi => by rw [h i hi]; rfl]
theorem givJ_vl {l : Addr} {M : Mp} {names : Int} {v : D} : Vl l M 1 100 (givJ names v) := by
  have bk : Vl l M 1 100 (.tup [.non, .str "givens"]) := .pure (by decide +kernel) (by decide +kernel) (by decide +kernel) (by decide +kernel)
  cases v with
  | tup ds =>
    simp only [givJ]
    cases e : decide (((ds.length : Nat) : Int) > 3) with
    | true => exact bk
    | false =>
      have := of_decide_eq_false e
      simp only [cond_false]
      split
      · rename_i k hk
        have := (List.findIdx?_eq_some_iff_getElem.mp hk).1
        refine (Vl.tupn (k := 2) (n := 0) (w := 20) (fun d hd => ?_) (by simp)).mono (by decide) (by decide)
        simp only [List.mem_cons, List.not_mem_nil, or_false] at hd
        rcases hd with rfl | rfl
        · exact (Vl.int (by omega)).mono (by decide) (by decide)
        · exact pairJ_vl
      · exact .pure (by decide +kernel) (by decide +kernel) (by decide +kernel) (by decide +kernel)
  | _ => exact bk
/-! ### drawn givens -/
def gpD (p : D × D) : D := .tup [p.1, p.2]
structure Gv (names : Int) (gs : List (D × D)) : Prop where
  len : gs.length ≤ 3
  ok : ∀ p ∈ gs, Fw 3 279 names p.1 ∧ Fw 3 279 names p.2
theorem Fw.shp : ∀ {n w : Nat} {names : Int} {d : D}, Fw n w names d → ∃ p, (∀ M, Rdm M d p) ∧ p.canLay0 = true ∧ p.depth ≤ n := by
  intro n
  induction n with
  | zero =>
    rintro w names d ⟨i, rfl, _⟩
    exact ⟨.int i, fun M => .int i, rfl, Nat.le_refl _⟩
  | succ n ih =>
    rintro w names d (⟨i, rfl, _⟩ | ⟨x, a, b, w1, w2, rfl, hx, ha, hb, hw⟩)
    · exact ⟨.int i, fun M => .int i, rfl, Nat.zero_le _⟩
    · obtain ⟨p, r, c, e⟩ := ih ha
      obtain ⟨p', r', c', e'⟩ := ih hb
      have hs : (PyData.str x).canLay0 = true := by rcases hx with rfl | rfl | rfl <;> decide +kernel
      refine ⟨.tuple [.str x, p, p'], fun M => .tup (.cons (.str x) (.cons (r M) (.cons (r' M) .nil))), ?_, ?_⟩
      · simp [PyData.canLay0, PyData.canLayAll0, c, c'] at hs ⊢
        exact hs
      · simp only [PyData.depth, PyData.depthAll]
        omega
theorem gv_shp {names : Int} : ∀ {gs : List (D × D)}, (∀ p ∈ gs, Fw 3 279 names p.1 ∧ Fw 3 279 names p.2) → ∃ ps, (∀ M, RdmAll M (gs.map gpD) ps) ∧ PyData.canLayAll0 ps = true ∧ PyData.depthAll ps ≤ 4 ∧ ps.length = gs.length
  | [], _ => ⟨[], fun _ => .nil, rfl, Nat.zero_le _, rfl⟩
  | (a, b) :: gs, h => by
    obtain ⟨ps, r, c, e, f⟩ := gv_shp (gs := gs) fun p hp => h p (List.mem_cons_of_mem _ hp)
    obtain ⟨h1, h2⟩ := h (a, b) List.mem_cons_self
    obtain ⟨p1, r1, c1, e1⟩ := h1.shp
    obtain ⟨p2, r2, c2, e2⟩ := h2.shp
    refine ⟨.tuple [p1, p2] :: ps, fun M => .cons (.tup (.cons (r1 M) (.cons (r2 M) .nil))) (r M), ?_, ?_, by simp [f]⟩
    · simp [PyData.canLayAll0, PyData.canLay0, c, c1, c2]
    · simp only [PyData.depth, PyData.depthAll]
      omega
theorem Gv.eq0 {names : Int} {gs : List (D × D)} (h : Gv names gs) (M : Mp) {Q : Bool → Prop} (q : Q (decide (gs.length = 0))) : ∃ p r, Rdm M (.tup (gs.map gpD)) p ∧ Rdm M (.tup []) r ∧ SeqAt.shaped p = true ∧ SeqAt.shaped r = true ∧ Q (PyData.eqv p r) := by
  obtain ⟨ps, r, c, e, f⟩ := gv_shp h.ok
  refine ⟨.tuple ps, .tuple [], .tup (r M), .tup .nil, ?_, by decide +kernel, ?_⟩
  · simp only [SeqAt.shaped, PyData.canLay0, c, PyData.depth, Bool.true_and, decide_eq_true_eq]
    have := e
    refine decide_eq_true ?_
    omega
  · have : PyData.eqv (.tuple ps) (.tuple []) = decide (gs.length = 0) := by
      cases ps with
      | nil =>
        simp only [List.length_nil] at f
        simp [PyData.eqv, PyData.eqvAll, ← f]
      | cons p ps =>
        have : ¬ gs.length = 0 := by rw [← f]; simp
        simp [PyData.eqv, PyData.eqvAll, this]
    rw [this]
    exact q
theorem Gv.vp {names : Int} {gs : List (D × D)} (h : Gv names gs) (hn : names ≤ 4000) {l : Addr} {M : Mp} {p : D × D} (hp : p ∈ gs) : Vl l M 4 600 (gpD p) := by
  obtain ⟨h1, h2⟩ := h.ok p hp
  refine (Vl.tupn (k := 2) (n := 3) (w := 279) (fun d hd => ?_) (by simp)).mono (by decide) (by decide)
  simp only [List.mem_cons, List.not_mem_nil, or_false] at hd
  rcases hd with rfl | rfl
  · exact h1.vl hn
  · exact h2.vl hn
theorem Gv.vall {names : Int} {gs : List (D × D)} (h : Gv names gs) (hn : names ≤ 4000) {l : Addr} {M : Mp} : ∀ d ∈ gs.map gpD, Vl l M 4 600 d := fun d hd => by
  obtain ⟨p, hp, rfl⟩ := List.mem_map.mp hd
  exact h.vp hn hp
theorem Gv.vl {names : Int} {gs : List (D × D)} (h : Gv names gs) (hn : names ≤ 4000) {l : Addr} {M : Mp} : Vl l M 5 1900 (.tup (gs.map gpD)) := 
  (Vl.tupn (k := 3) (n := 4) (w := 600) (h.vall hn) (by rw [List.length_map]; exact h.len)).mono (by decide) (by decide)
theorem Vl.tups {l : Addr} {M : Mp} {n w : Nat} {ds : List D} (h : ∀ d ∈ ds, Vl l M n w d) (hk : ds.length ≤ 3) {n' w' : Nat} (h1 : n + 1 ≤ n') (h2 : 3 * (w + 2) + 3 ≤ w') : Vl l M n' w' (.tup ds) := (Vl.tupn h hk).mono h1 h2
end DL

/-! Rings turned over: two rows of a table exchanged along a ring of columns. -/
namespace DL
open PySem L2
theorem set_perm {xs : List Int} {c : Nat} {x y : Int} (h : xs[c]? = some x) : (x :: xs.set c y).Perm (y :: xs) := by
  induction xs generalizing c with
  | nil => simp at h
  | cons a xs ih =>
    cases c with
    | zero =>
      obtain rfl : a = x := by simpa using h
      exact List.Perm.swap ..
    | succ c =>
      have h : xs[c]? = some x := by simpa using h
      exact (List.Perm.swap ..).trans (((ih h).cons a).trans (List.Perm.swap ..))
/-- in the midst of a ring -/
structure Ring (n : Nat) (u0 v0 u v : List Int) (S : List Nat) (c : Nat) (b x : Int) : Prop where
  lu : u.length = n
  lv : v.length = n
  cS : c ∉ S
  cn : c < n
  nd : S.Nodup
  sn : ∀ i ∈ S, i < n
  inS : ∀ i ∈ S, u[i]? = v0[i]? ∧ v[i]? = u0[i]?
  out : ∀ i, i ∉ S → u[i]? = u0[i]? ∧ v[i]? = v0[i]?
  ux : u[c]? = some x
  pu : (b :: u).Perm (x :: rg n)
  pv : (x :: v).Perm (b :: rg n)
theorem Ring.start {n c : Nat} {u v : List Int} {x : Int} (hu : u.Perm (rg n)) (hv : v.Perm (rg n)) (hc : u[c]? = some x) : Ring n u v u v [] c x x := by
  have lu : u.length = n := by rw [hu.length_eq, rg_length]
  have lv : v.length = n := by rw [hv.length_eq, rg_length]
  have := (List.getElem?_eq_some_iff.mp hc).1
  exact ⟨lu, lv, List.not_mem_nil, by omega, List.nodup_nil, fun i h => absurd h List.not_mem_nil, fun i h => absurd h List.not_mem_nil, fun i _ => ⟨rfl, rfl⟩, hc, hu.cons x, hv.cons x⟩
/-- the same two rows but for columns exchanged -/
structure Swd (n : Nat) (u0 v0 u v : List Int) : Prop where
  pu : u.Perm (rg n)
  pv : v.Perm (rg n)
  ex : ∀ i : Nat, (u[i]? = u0[i]? ∧ v[i]? = v0[i]?) ∨ (u[i]? = v0[i]? ∧ v[i]? = u0[i]?)
section
variable {n : Nat} {u0 v0 u v : List Int} {S : List Nat} {c : Nat} {b x y : Int}
theorem Ring.vy (R : Ring n u0 v0 u v S c b x) : ∃ y, v[c]? = some y ∧ v0[c]? = some y := by
  have e : v[c]? = some (v[c]'(by rw [R.lv]; exact R.cn)) := List.getElem?_eq_getElem _
  exact ⟨_, e, by rw [← (R.out c R.cS).2]; exact e⟩
theorem Ring.mid (R : Ring n u0 v0 u v S c b x) (hy : v[c]? = some y) : (b :: u.set c y).Perm (y :: rg n) ∧ (y :: v.set c x).Perm (b :: rg n) := by
  have a1 := set_perm (y := y) R.ux
  have a2 := set_perm (y := x) hy
  refine ⟨?_, a2.trans R.pv⟩
  have : (x :: b :: u.set c y).Perm (x :: y :: rg n) := ((List.Perm.swap ..).trans (a1.cons b)).trans (((List.Perm.swap ..).trans (R.pu.cons y)).trans (List.Perm.swap ..))
  exact this.cons_inv
theorem Ring.parts (R : Ring n u0 v0 u v S c b x) (hy : v[c]? = some y) : ∀ i, (i ∈ c :: S → (u.set c y)[i]? = v0[i]? ∧ (v.set c x)[i]? = u0[i]?) ∧ (i ∉ c :: S → (u.set c y)[i]? = u0[i]? ∧ (v.set c x)[i]? = v0[i]?) := by
  intro i
  have o := R.out c R.cS
  refine ⟨fun hi => ?_, fun hi => ?_⟩
  · rcases List.mem_cons.mp hi with rfl | hi
    · rw [List.getElem?_set_self (by rw [R.lu]; exact R.cn), List.getElem?_set_self (by rw [R.lv]; exact R.cn), ← o.1, ← o.2, R.ux, hy]
      exact ⟨rfl, rfl⟩
    · have hne : c ≠ i := fun e => R.cS (e ▸ hi)
      rw [List.getElem?_set_ne hne, List.getElem?_set_ne hne]
      exact R.inS i hi
  · have hne : c ≠ i := fun e => hi (e ▸ List.mem_cons_self)
    rw [List.getElem?_set_ne hne, List.getElem?_set_ne hne]
    exact R.out i fun h => hi (List.mem_cons_of_mem _ h)
/-- the ring is closed -/
theorem Ring.close (R : Ring n u0 v0 u v S c b x) (hy : v[c]? = some b) : Swd n u0 v0 (u.set c b) (v.set c x) := by
  have m := R.mid hy
  refine ⟨m.1.cons_inv, m.2.cons_inv, fun i => ?_⟩
  have p := R.parts hy i
  by_cases h : i ∈ c :: S
  · exact .inr (p.1 h)
  · exact .inl (p.2 h)
/-- the next column -/
theorem Ring.next (R : Ring n u0 v0 u v S c b x) (hv0 : v0.Perm (rg n)) (hy : v[c]? = some y) {k : Nat} (hk : k ≠ c) (hky : (u.set c y)[k]? = some y) : Ring n u0 v0 (u.set c y) (v.set c x) (c :: S) k b y := by
  have m := R.mid hy
  have lk : k < n := by
    have := (List.getElem?_eq_some_iff.mp hky).1
    rw [List.length_set, R.lu] at this
    exact this
  have o := R.out c R.cS
  have hv0c : v0[c]? = some y := by rw [← o.2]; exact hy
  have nd0 : v0.Nodup := hv0.nodup_iff.mpr rg_nodup
  refine ⟨by rw [List.length_set]; exact R.lu, by rw [List.length_set]; exact R.lv, fun h => ?_, lk, List.nodup_cons.mpr ⟨R.cS, R.nd⟩, fun i hi => ?_, fun i hi => (R.parts hy i).1 hi, fun i hi => (R.parts hy i).2 hi, hky, m.1, m.2⟩
  · rcases List.mem_cons.mp h with h | h
    · exact hk h
    · have e := ((R.parts hy k).1 (List.mem_cons_of_mem _ h)).1
      rw [hky] at e
      obtain ⟨l1, e1⟩ := List.getElem?_eq_some_iff.mp e.symm
      obtain ⟨l2, e2⟩ := List.getElem?_eq_some_iff.mp hv0c
      rcases Nat.lt_trichotomy k c with z | z | z
      · exact List.pairwise_iff_getElem.mp nd0 _ _ l1 l2 z (e1.trans e2.symm)
      · exact hk z
      · exact List.pairwise_iff_getElem.mp nd0 _ _ l2 l1 z (e2.trans e1.symm)
  · rcases List.mem_cons.mp hi with rfl | hi
    · exact R.cn
    · exact R.sn i hi
/-- there is a next column -/
theorem Ring.more (R : Ring n u0 v0 u v S c b x) (hy : v[c]? = some y) (hb : y ≠ b) : ∃ k, k < n ∧ k ≠ c ∧ (u.set c y)[k]? = some y := by
  have m := (R.mid hy).1
  have hyr : y ∈ rg n := by
    have h1 : y ∈ b :: u.set c y := m.mem_iff.mpr List.mem_cons_self
    have h2 : y ∈ v := List.mem_of_getElem? hy
    have h3 : y ∈ b :: rg n := R.pv.mem_iff.mp (List.mem_cons_of_mem _ h2)
    rcases List.mem_cons.mp h3 with h | h
    · exact absurd h hb
    · exact h
  have wl : (u.set c y).length = n := by rw [List.length_set]; exact R.lu
  have wc : (u.set c y)[c]? = some y := List.getElem?_set_self (by rw [R.lu]; exact R.cn)
  generalize u.set c y = w at *
  refine Classical.byContradiction fun hne => ?_
  have hall : ∀ k, w[k]? = some y → k = c := fun k hk => Classical.byContradiction fun z => hne ⟨k, by have := (List.getElem?_eq_some_iff.mp hk).1; omega, z, hk⟩
  have z := (set_perm (xs := w) (c := c) (x := y) (y := y + 1) wc).count_eq y
  have h0 : List.count y (w.set c (y + 1)) = 0 := by
    rw [List.count_eq_zero]
    intro hm
    obtain ⟨k, hk⟩ := List.getElem?_of_mem hm
    by_cases e : k = c
    · subst e
      rw [List.getElem?_set_self (by rw [wl]; exact R.cn)] at hk
      have := Option.some.inj hk
      omega
    · rw [List.getElem?_set_ne (Ne.symm e)] at hk
      exact e (hall k hk)
  rw [List.count_cons_self, h0, List.count_cons_of_ne (by omega)] at z
  have m1 := m.count_eq y
  rw [List.count_cons_self, List.count_cons_of_ne (Ne.symm hb), ← z] at m1
  have := List.count_pos_iff.mpr hyr
  omega
/-- no more columns than there are -/
theorem Ring.few (R : Ring n u0 v0 u v S c b x) : S.length < n := by
  have nd : ((c :: S).map fun k : Nat => (k : Int)).Nodup := by
    refine List.Pairwise.map _ (fun a b h => ?_) (List.nodup_cons.mpr ⟨R.cS, R.nd⟩)
    intro e
    exact h (by omega)
  have := nodup_le (m := rg n) nd fun x hx => by
    obtain ⟨k, hk, rfl⟩ := List.mem_map.mp hx
    refine rg_mem.mpr ⟨by omega, ?_⟩
    rcases List.mem_cons.mp hk with rfl | hk
    · have := R.cn
      omega
    · have := R.sn k hk
      omega
  rw [List.length_map, List.length_cons, rg_length] at this
  omega
end
theorem Swd.ok {n : Nat} {t : List (List Int)} {u0 v0 u v : List Int} {one other : Nat} (h : IsTab n t) (ho : one ≠ other) (e1 : t[one]? = some u0) (e2 : t[other]? = some v0) (s : Swd n u0 v0 u v) : IsTab n ((t.set one u).set other v) := by
  refine ⟨by simp [h.len], fun r hr => ?_, fun j hj => ?_⟩
  · rcases List.mem_or_eq_of_mem_set hr with hr | rfl
    · rcases List.mem_or_eq_of_mem_set hr with hr | rfl
      · exact h.row r hr
      · exact s.pu
    · exact s.pv
  · rw [col_set, col_set]
    have c1 := col_at (j := j) e1
    have c2 := col_at (j := j) e2
    rcases s.ex j with ⟨z1, z2⟩ | ⟨z1, z2⟩
    · rw [z1, z2, at_same c1, at_same c2]
      exact h.col j hj
    · rw [z1, z2]
      exact (swap_perm c1 c2 ho).trans (h.col j hj)
end DL
namespace DL
open PySem L2
theorem set_at {α : Type} : ∀ {xs : List α} {i : Nat} {x : α}, xs[i]? = some x → xs.set i x = xs
  | [], _, _, h => by simp at h
  | a :: xs, 0, x, h => by
    obtain rfl : a = x := by simpa using h
    rfl
  | a :: xs, i + 1, x, h => by
    rw [List.set_cons_succ, set_at (by simpa using h)]
theorem er_map {α β : Type} {f : α → β} : ∀ {xs : List α} {i : Nat}, (xs.map f).eraseIdx i = (xs.eraseIdx i).map f
  | [], _ => by simp
  | a :: xs, 0 => by simp
  | a :: xs, i + 1 => by simp [er_map (xs := xs)]
theorem seqIx {j : Int} {n : Nat} (h0 : 0 ≤ j) (h1 : j < n) : seqIndex? j n = some j.toNat := by
  have e : (if j < 0 then j + (n : Int) else j) = j := if_neg (by omega)
  unfold seqIndex?
  simp only [e]
  rw [decide_eq_true h0, decide_eq_true h1]
  rfl
end DL
namespace DL
open PySem L2
theorem scale_perm {p : List Int} {n w : Nat} (hp : p.Perm (rg n)) (h0 : 0 < n) (hw : Nat.gcd w n = 1) : (p.map fun c => ((w : Int) * c) % n).Perm (rg n) := by
  have hn : (0 : Int) < n := by omega
  refine perm_of ?_ (fun x hx => ?_) ?_
  · unfold List.Nodup
    rw [List.pairwise_map]
    have hnd : p.Nodup := hp.nodup_iff.mpr rg_nodup
    refine List.Pairwise.imp_of_mem (fun {x y} hx hy hne e => hne ?_) hnd
    have hx' := rg_mem.mp (hp.mem_iff.mp hx)
    have hy' := rg_mem.mp (hp.mem_iff.mp hy)
    have d : (n : Int) ∣ (w : Int) * x - (w : Int) * y := Int.dvd_of_emod_eq_zero (Int.emod_eq_emod_iff_emod_sub_eq_zero.mp e)
    rw [← Int.mul_sub] at d
    have d2 : n ∣ w * (x - y).natAbs := by
      have := Int.natAbs_dvd_natAbs.mpr d
      rwa [Int.natAbs_mul, Int.natAbs_natCast, Int.natAbs_natCast] at this
    have d3 : n ∣ (x - y).natAbs := Nat.Coprime.dvd_of_dvd_mul_left (by rw [Nat.Coprime, Nat.gcd_comm]; exact hw) d2
    rcases Nat.eq_zero_or_pos (x - y).natAbs with z | z
    · omega
    · have := Nat.le_of_dvd z d3
      omega
  · obtain ⟨c, hc, rfl⟩ := List.mem_map.mp hx
    exact rg_mem.mpr ⟨Int.emod_nonneg _ (by omega), Int.emod_lt_of_pos _ hn⟩
  · rw [List.length_map, hp.length_eq]
theorem timTab_ok {m w : Nat} {q0 q1 q2 : List Int} (h0 : q0.Perm (rg m)) (h1 : q1.Perm (rg m)) (h2 : q2.Perm (rg m)) (hm : 0 < m) (hw : Nat.gcd w m = 1) :
    IsTab m ((rg m).map fun x => (rg m).map fun y => at0 q2 ((at0 q0 x + (w : Int) * at0 q1 y) % m)) := by
  have l0 : q0.length = m := by rw [h0.length_eq, rg_length]
  have l1 : q1.length = m := by rw [h1.length_eq, rg_length]
  have e : ((rg m).map fun x => (rg m).map fun y => at0 q2 ((at0 q0 x + (w : Int) * at0 q1 y) % m)) = mkTab m q0 (q1.map fun c => ((w : Int) * c) % m) q2 := by
    unfold mkTab
    have e0 : (rg m).map (at0 q0) = q0 := by rw [← l0]; exact at0_rg
    have e1 : (rg m).map (at0 q1) = q1 := by rw [← l1]; exact at0_rg
    conv => rhs; rw [← e0, ← e1]
    rw [List.map_map]
    refine List.map_congr_left fun x _ => ?_
    show _ = (((rg m).map (at0 q1)).map fun c => ((w : Int) * c) % m).map fun b => at0 q2 ((at0 q0 x + b) % m)
    rw [List.map_map, List.map_map]
    refine List.map_congr_left fun y _ => ?_
    show at0 q2 _ = at0 q2 ((at0 q0 x + ((w : Int) * at0 q1 y) % m) % m)
    rw [Int.add_emod_emod]
  rw [e]
  exact mkTab_ok h0 (scale_perm h1 hm hw) h2
end DL

/-! Tables judged. -/
namespace DL
open PySem L2
def unR : D → List Int
  | .tup xs => xs.map getI
  | _ => []
/-- a row of a table of n things -/
def rowP (n : Int) (r : D) : Bool := areB r n n && decide ((unR r).Nodup)
def tabJ (v : D) : D := match v with
  | .tup rows => bif decide (1 ≤ ((rows.length : Nat) : Int)) && decide (((rows.length : Nat) : Int) ≤ 60) then
      (match rows.findIdx? (fun r => !rowP (rows.length : Nat) r) with
      | some k => .tup [.int (k : Nat), .str "row"]
      | none => match (rg rows.length).find? (fun j => !colB (unD rows) j) with
        | some j => .tup [.int j, .str "column"]
        | none => .non)
    else .tup [.non, .str "table"]
  | _ => .tup [.non, .str "table"]
theorem tabJ_vl {l : Addr} {M : Mp} {v : D} : Vl l M 1 100 (tabJ v) := by
  have bk : Vl l M 1 100 (.tup [.non, .str "table"]) := .pure (by decide +kernel) (by decide +kernel) (by decide +kernel) (by decide +kernel)
  cases v with
  | tup rows =>
    simp only [tabJ]
    cases e : decide (1 ≤ ((rows.length : Nat) : Int)) && decide (((rows.length : Nat) : Int) ≤ 60) with
    | false => exact bk
    | true =>
      simp only [Bool.and_eq_true, decide_eq_true_eq] at e
      simp only [cond_true]
      split
      · rename_i k hk
        have := (List.findIdx?_eq_some_iff_getElem.mp hk).1
        exact pair_vl (by omega) (by omega) (.inl rfl)
      · split
        · rename_i j hj
          have hm := rg_mem.mp (List.mem_of_find?_eq_some hj)
          exact pair_vl hm.1 (by omega) (.inr rfl)
        · exact .pure (by decide +kernel) (by decide +kernel) (by decide +kernel) (by decide +kernel)
  | _ => exact bk
theorem tab_row {rows : List D} {k : Nat} (e1 : decide (1 ≤ ((rows.length : Nat) : Int)) = true) (e2 : decide (((rows.length : Nat) : Int) ≤ 60) = true) (hk : k < rows.length) (hb : rowP (rows.length : Nat) rows[k] = false) (h : ∀ (i : Nat) (hi : i < rows.length), i < k → rowP (rows.length : Nat) rows[i] = true) :
    tabJ (.tup rows) = .tup [.int (k : Nat), .str "row"] := by
  simp only [tabJ, e1, e2, Bool.and_true, cond_true]
  rw [findIdx_of hk (by rw [hb]; rfl) fun i hi hlt => by rw [h i hi hlt]; rfl]
theorem tab_col {rows : List D} (e1 : decide (1 ≤ ((rows.length : Nat) : Int)) = true) (e2 : decide (((rows.length : Nat) : Int) ≤ 60) = true) (h : ∀ r ∈ rows, rowP (rows.length : Nat) r = true) :
    tabJ (.tup rows) = match (rg rows.length).find? (fun j => !colB (unD rows) j) with
        | some j => .tup [.int j, .str "column"]
        | none => .non := by
  simp only [tabJ, e1, e2, Bool.and_true, cond_true]
  rw [findIdx_none fun i hi => by rw [h _ (List.getElem_mem hi)]; rfl]
theorem rowP_tup {n : Int} {r : D} (h : rowP n r = true) : ∃ ns : List Int, r = dI ns ∧ ((ns.length : Nat) : Int) = n ∧ (∀ x ∈ ns, 0 ≤ x ∧ x ≤ n - 1) ∧ ns.Nodup := by
  cases r with
  | tup xs =>
    simp only [rowP, areB, unR, Bool.and_eq_true, decide_eq_true_eq] at h
    obtain ⟨⟨h1, h2⟩, h3⟩ := h
    obtain ⟨ei, hi⟩ := ints_all h2
    exact ⟨xs.map getI, by rw [dI, ← ei], by rw [List.length_map]; exact h1, hi, of_decide_eq_true h3⟩
  | _ => simp [rowP, areB] at h
theorem rows_tab {n : Int} {rows : List D} (h : ∀ r ∈ rows, rowP n r = true) : ∃ t : List (List Int), rows = t.map dI ∧ ∀ r ∈ t, ((r.length : Nat) : Int) = n ∧ (∀ x ∈ r, 0 ≤ x ∧ x ≤ n - 1) ∧ r.Nodup := by
  induction rows with
  | nil => exact ⟨[], rfl, fun r hr => absurd hr List.not_mem_nil⟩
  | cons r rows ih =>
    obtain ⟨t, rfl, ht⟩ := ih fun x hx => h x (List.mem_cons_of_mem _ hx)
    obtain ⟨ns, rfl, h1⟩ := rowP_tup (h r List.mem_cons_self)
    refine ⟨ns :: t, rfl, fun x hx => ?_⟩
    rcases List.mem_cons.mp hx with rfl | hx
    · exact h1
    · exact ht x hx
def LenOk (v : D) : Prop := ∀ rows, v = .tup rows → ∀ r ∈ rows, ∀ xs, r = .tup xs → xs.length ≤ 100000
end DL
namespace DL
open PySem L2
theorem rowP_iff {xs : List D} {n : Nat} (h : xs = (xs.map getI).map D.int) : rowP n (.tup xs) = true ↔ (xs.map getI).Perm (rg n) := by
  constructor
  · intro hb
    obtain ⟨ns, e, hl, hi, hn⟩ := rowP_tup hb
    cases e
    have e2 : (ns.map D.int).map getI = ns := by
      rw [List.map_map]
      exact (List.map_congr_left fun x _ => rfl).trans (List.map_id ns)
    rw [e2]
    exact perm_of hn (fun x hx => rg_mem.mpr ⟨(hi x hx).1, by have := (hi x hx).2; omega⟩) (by rw [rg_length]; omega)
  · intro hp
    have hl := hp.length_eq
    rw [List.length_map, rg_length] at hl
    have hn : (xs.map getI).Nodup := hp.nodup_iff.mpr rg_nodup
    show (areB (.tup xs) _ _ && decide ((xs.map getI).Nodup)) = true
    rw [decide_eq_true hn, Bool.and_true]
    simp only [areB, Bool.and_eq_true, decide_eq_true_eq, List.all_eq_true]
    refine ⟨by omega, fun d hd => ?_⟩
    have hg : getI d ∈ rg n := hp.mem_iff.mp (List.mem_map_of_mem hd)
    have hd' : d = .int (getI d) := by
      rw [h] at hd
      obtain ⟨i, _, rfl⟩ := List.mem_map.mp hd
      rfl
    have := rg_mem.mp hg
    rw [hd']
    simp only [isIntB, Bool.and_eq_true, decide_eq_true_eq]
    omega
theorem rowP_all {xs : List D} {n : Int} (hn : n ≤ 60) (h : rowP n (.tup xs) = true) : (xs.all fun x => isIntB x 0 59) = true := by
  obtain ⟨ns, e, hl, hi, _⟩ := rowP_tup h
  cases e
  rw [List.all_eq_true]
  intro d hd
  obtain ⟨i, hi', rfl⟩ := List.mem_map.mp hd
  have := hi i hi'
  simp only [isIntB, Bool.and_eq_true, decide_eq_true_eq]
  omega
theorem sorted_iff {ns' ns : List Int} {n : Nat} (hp : ns'.Perm ns) (hs : ns'.Pairwise (· ≤ ·)) : ns' = rg n ↔ ns.Perm (rg n) :=
  ⟨fun e => e ▸ hp.symm, fun h => sorted_rg (hp.trans h) hs⟩
theorem colB_iff {t : List (List Int)} {n : Nat} {k : Int} (hl : t.length = n) (ht : ∀ r ∈ t, ((r.length : Nat) : Int) = n ∧ (∀ x ∈ r, 0 ≤ x ∧ x ≤ (n : Int) - 1) ∧ r.Nodup) (k0 : 0 ≤ k) (k1 : k < n) : colB t k = true ↔ (t.map fun r => at0 r k).Perm (rg n) := by
  unfold colB
  rw [decide_eq_true_eq]
  constructor
  · intro h
    refine perm_of h (fun x hx => ?_) (by rw [List.length_map, rg_length]; exact hl)
    obtain ⟨r, hr, rfl⟩ := List.mem_map.mp hx
    have h1 := ht r hr
    have := h1.2.1 _ (List.mem_of_getElem? (at0_of (l := r) k0 (by omega)))
    exact rg_mem.mpr ⟨this.1, by omega⟩
  · intro h
    exact h.nodup_iff.mpr rg_nodup
end DL
namespace DL
open PySem PyProof.Rows L2
/-! ### xs != [] for things of any kind -/
def zNeE (K : PySem.W.Frag) : R2 := fun x y H Q => ∃ a b xs, x = .ref a ∧ y = .ref b ∧ SqL K H a xs ∧ SqL K H b [] ∧ Q (.bl (!xs.isEmpty)) H
theorem op_neE {X : Cx} (hu : X.A.units + 64 < cLine) : OpR X (compareOp .NotEq) (zNeE X.K) := by
  intro pins s σ H x y v u Q I rx ry h
  obtain ⟨a, b, xs, rfl, rfl, ha, hb, q⟩ := h
  cases (show v = Value.ref a from rx)
  cases (show u = Value.ref b from ry)
  obtain ⟨us, r1, p1, _⟩ := I.list ha
  obtain ⟨ws, r2, p2, _⟩ := I.list hb
  cases r2
  cases xs with
  | nil =>
    cases r1
    exact PySem.SeqAt.RcNeAt.lists (e := fun _ => true) p1.isList p2.isList rfl (by omega) (fun j h1 _ => absurd h1 (Nat.not_lt_zero j)) X.prog X.w _ _ ⟨.bl false, H, I, rfl, q⟩
  | cons z zs =>
    cases r1 with
    | cons r1 r3 => exact PySem.SeqAt.RcNeAt.lists_lengths p1.isList p2.isList (by simp) (by omega) X.prog X.w _ _ ⟨.bl true, H, I, rfl, q⟩
def rNeE : R2D := fun x y M Q => match x, y with
  | .ref a, .ref b => ∃ xs, M a = some (.lst xs) ∧ M b = some (.lst []) ∧ Q (.bl (!xs.isEmpty)) M
  | _, _ => False
theorem cr_neE {X : Cx} (hu : X.A.units + 64 < cLine) : CR X .NotEq rNeE := by
  refine ⟨_, op_neE hu, ?_⟩
  intro H M vx vy x y Q' Q fx fy m h k
  unfold rNeE at h
  split at h
  · obtain ⟨xs, h1, h2, q⟩ := h
    cases fx
    cases fy
    obtain ⟨ys, e, f⟩ := m.lst h1
    obtain ⟨zs, e2, f2⟩ := m.lst h2
    cases f2
    have el : ys.isEmpty = xs.isEmpty := by
      have := f.length
      cases ys <;> cases xs <;> simp_all
    refine ⟨_, _, ys, rfl, rfl, .of e, .of e2, ?_⟩
    rw [el]
    exact k.val m (.bl _) q
  · exact h.elim
end DL
namespace DL
theorem flt_empty {xs : List D} {c : D → Bool} : (!(xs.filter fun d => !c d).isEmpty) = !(xs.all c) := by
  induction xs with
  | nil => rfl
  | cons x xs ih =>
    cases h : c x with
    | true => simpa [List.filter_cons, h] using ih
    | false => simp [List.filter_cons, h]
end DL
namespace DL
open PySem L2
theorem wide_ok {m : Nat} (hm : 0 < m) : IsTab m ((rg m).map fun x => (rg m).map fun y => (x + y) % (m : Int)) := by
  have e : ((rg m).map fun x => (rg m).map fun y => (x + y) % (m : Int)) = mkTab m (rg m) (rg m) (rg m) := by
    unfold mkTab
    refine List.map_congr_left fun x _ => List.map_congr_left fun y _ => ?_
    have b0 : 0 ≤ (x + y) % (m : Int) := Int.emod_nonneg _ (by omega)
    have b1 : (x + y) % (m : Int) < m := Int.emod_lt_of_pos _ (by omega)
    have h := at0_of (l := rg m) b0 (by rw [rg_length]; exact b1)
    obtain ⟨l1, e1⟩ := List.getElem?_eq_some_iff.mp h
    rw [rg_getE l1] at e1
    omega
  rw [e]
  exact mkTab_ok (.refl _) (.refl _) (.refl _)
theorem tabJ_non {n : Nat} {t : List (List Int)} (h : IsTab n t) (h0 : 1 ≤ n) (h1 : n ≤ 60) : tabJ (dII t) = .non := by
  have tl := h.len
  have gl : (t.map dI).length = n := by rw [List.length_map, tl]
  have e2 : ∀ ns : List Int, (ns.map D.int).map getI = ns := fun ns => by
    rw [List.map_map]
    exact (List.map_congr_left fun x _ => rfl).trans (List.map_id ns)
  have hall : ∀ r ∈ t.map dI, rowP ((t.map dI).length : Nat) r = true := fun d hd => by
    obtain ⟨r, hr, rfl⟩ := List.mem_map.mp hd
    rw [gl]
    refine (rowP_iff (xs := r.map D.int) (n := n) (by rw [e2])).mpr ?_
    rw [e2]
    exact h.row r hr
  rw [tab_col (decide_eq_true (by omega)) (decide_eq_true (by omega)) hall, unD_map]
  have : (rg (t.map dI).length).find? (fun j => !colB t j) = none := find_none fun i i0 i1 => by
    rw [gl] at i1
    have hb : colB t i = true := by
      refine (colB_iff (n := n) tl (fun r hr => ⟨by rw [h.rlen hr], fun x hx => by have := h.mem hr hx; omega, (h.row r hr).nodup_iff.mpr rg_nodup⟩) i0 i1).mpr ?_
      have := h.col i.toNat (by omega)
      unfold col at this
      exact this
    rw [hb]
    rfl
  rw [this]
end DL

/-! sorted(set(xs)) of tuples of whole numbers; tuples before one another. -/
namespace DL
open PySem PyProof.Rows L2
/-- tuples of whole numbers, by their addresses -/
theorem tups_ks {K : PySem.W.Frag} {H : Hp} : ∀ {ts : List (List Int)} {ys : List V}, FzAll K H ys (ts.map dI) → ∃ ks : List (Addr × List Int), ys = ks.map (fun p => V.ref p.1) ∧ ts = ks.map (·.2) ∧ ∀ p ∈ ks, SqZ K H p.1 (p.2.map V.int)
  | [], _, .nil => ⟨[], rfl, rfl, fun _ h => absurd h List.not_mem_nil⟩
  | ns :: ts, _, .cons f t => by
    obtain ⟨ks, rfl, rfl, h⟩ := tups_ks t
    cases f with
    | tup hs g =>
      rw [g.ints] at hs
      exact ⟨(_, ns) :: ks, rfl, rfl, fun p hp => by
        rcases List.mem_cons.mp hp with rfl | hp
        · exact hs
        · exact h p hp⟩
theorem ks_tups {K : PySem.W.Frag} {H : Hp} : ∀ {ks : List (Addr × List Int)}, (∀ p ∈ ks, SqZ K H p.1 (p.2.map V.int)) → FzAll K H (ks.map fun p => V.ref p.1) ((ks.map (·.2)).map dI)
  | [], _ => .nil
  | p :: ks, h => .cons (.tup (h p List.mem_cons_self) FzAll.of_ints) (ks_tups fun q hq => h q (List.mem_cons_of_mem _ hq))
/-- sorted(set(xs)) of tuples of d whole numbers in [0, B) -/
def dSortSet (t : TED) : TED := fun ρ M Q => t ρ M fun d M1 => match d with
  | .ref p => ∃ (ts : List (List Int)) (d : Nat) (B : Int), M1 p = some (.lst (ts.map dI)) ∧ ts.length < 64 ∧ 1 ≤ d ∧ (∀ r ∈ ts, r.length = d ∧ TS.Bd B r) ∧
    ∀ (ts' : List (List Int)) (q : Addr), (∀ r, r ∈ ts' ↔ r ∈ ts) → ts'.Nodup → ts'.Pairwise (fun a b => TS.code B a ≤ TS.code B b) → M1 q = none → Q (.ref q) (updM M1 q (.lst (ts'.map dI)))
  | _ => False
theorem de_sortSet {X : Cx} {a : Expr} {ta : TED} {p p2 q pos : Pos} (hu : X.A.units + 64 < cLine) (hg : Gl X "sorted") (hm : X.mg "sorted" = none) (hg2 : Gl X "set") (hm2 : X.mg "set" = none) (ha : DE X a ta) (hc : X.calm = true := by rfl)
    (na : starEach [a] X.env = (false, eval a X.env) :: starEach [] X.env := by rfl) (nb : starEach [Expr.Call (.Name "set" p2) [a] [] q] X.env = (false, eval (Expr.Call (.Name "set" p2) [a] [] q) X.env) :: starEach [] X.env := by rfl) : DE X (.Call (.Name "sorted" p) [.Call (.Name "set" p2) [a] [] q] [] pos) (dSortSet ta) := by
  have h1 : PE X (.Call (.Name "set" p2) [a] [] q) (tCB (rSetOfT X.K X.prog X.w) (tCons (upE X.K ta) tNil)) := pe_callTy (cr_setOfT hc hu) hg2 hm2 (by decide +kernel) (pa_cons ha pa_nil na) (by decide) (by decide) na
  have h2 : PE X (.Call (.Name "sorted" p) [.Call (.Name "set" p2) [a] [] q] [] pos) (tCB (rSortedT X.K X.prog X.w) (tCons (tCB (rSetOfT X.K X.prog X.w) (tCons (upE X.K ta) tNil)) tNil)) := pe_callB (cr_sortedT hc) hg hm (by decide +kernel) (pa_cons h1 pa_nil nb) (by decide) (by decide) nb
  refine pe_weak h2 fun σ H Q ⟨ρ, M, Q', r, m, h, k⟩ => ⟨ρ, M, _, r, m, h, fun v H1 d M1 f s z => ?_⟩
  show rSetOfT X.K X.prog X.w [v] H1 fun v2 H2 => rSortedT X.K X.prog X.w [v2] H2 Q
  cases d with
  | ref l =>
    obtain ⟨ts, d, B, hl, h64, hd, hb, z⟩ := z
    cases f
    obtain ⟨ys, e, fa⟩ := s.mem.lst hl
    obtain ⟨ks, rfl, rfl, hk⟩ := tups_ks fa
    refine ⟨l, ks, rfl, .of e, fun p hp => (hk p hp).t, by simpa using h64, fun a L ha hL hK => ?_⟩
    have t1 : Tups X.K H1 (upd H1 a (SetTO X.prog X.w a L)) := Tups.new ha
    refine ⟨a, L, d, B, rfl, upd_same, fun p hp => t1.w _ _ (hk p (hL p hp)).t, hd, fun p hp => hb p.2 (List.mem_map_of_mem (hL p hp)), fun L' p hpm hnd h64' hpw hp => ?_⟩
    have t2 : Tups X.K (upd H1 a (SetTO X.prog X.w a L)) (upd (upd H1 a (SetTO X.prog X.w a L)) p (.lst (L'.map fun q => V.ref q.1))) := Tups.new hp
    have s1 := Step.newT (u := SetTO X.prog X.w a L) s.mem ha
    have fz : FzAll X.K (upd H1 a (SetTO X.prog X.w a L)) (L'.map fun q => V.ref q.1) ((L'.map (·.2)).map dI) := ks_tups fun q hq => t1.t _ _ (hk q (hL q (hpm.mem_iff.mp hq)))
    refine ((k.after s).after s1).newLst s1.mem fz (fun p' hp' => z (L'.map (·.2)) p' (fun r => ?_) hnd (by rw [List.pairwise_map]; exact hpw) hp') hp
    constructor
    · intro hr
      obtain ⟨q, hq, rfl⟩ := List.mem_map.mp hr
      exact List.mem_map_of_mem (hL q (hpm.mem_iff.mp hq))
    · intro hr
      obtain ⟨q, hq, rfl⟩ := List.mem_map.mp hr
      obtain ⟨q2, hq2, e2⟩ := List.mem_map.mp (hK q hq)
      exact e2 ▸ List.mem_map_of_mem (hpm.mem_iff.mpr hq2)
  | _ => exact z.elim
/-! ### ways that meet -/
def dJoin (t : TED) : TED := fun ρ M Q => ∃ R : KD, t ρ M R ∧ ∀ d M', R d M' → Q d M'
theorem de_join {X : Cx} {e : Expr} {t : TED} (h : DE X e t) : DE X e (dJoin t) :=
  pe_weak h fun σ H Q ⟨ρ, M, Q', r, m, ⟨R, h1, h2⟩, k⟩ => ⟨ρ, M, R, r, m, h1, fun v H' d M' f s z => k v H' d M' f s (h2 d M' z)⟩
def dsJoin (t : TSD) : TSD := fun E ρ M => ∃ R : DSt → Mp → Prop, t { E with nx := R } ρ M ∧ ∀ ρ' M', R ρ' M' → E.nx ρ' M'
theorem ds_join {X : Cx} {st : Stmt} {t : TSD} (h : DS X st t) : DS X st (dsJoin t) :=
  ps_weak h fun E σ H ⟨ρ, M, E', r, m, ⟨R, h1, h2⟩, k⟩ => ⟨ρ, M, { E' with nx := R }, r, m, h1, ⟨fun σ' ρ' H' M' r' s z => k.nx σ' ρ' H' M' r' s (h2 _ _ z), k.rt, k.bk, k.ct, k.xc⟩⟩
/-! ### tuples before one another -/
def leT (ns ms : List Int) : Bool := Ob.lexAt (fun j => decide (ns.getD j 0 = ms.getD j 0)) (fun j => decide (ns.getD j 0 ≤ ms.getD j 0)) (decide (ns.length ≤ ms.length)) 0 (min ns.length ms.length)
def rGeT (K : PySem.W.Frag) : R2 := fun x y H Q => ∃ (a b : Addr) (ns ms : List Int), x = .ref a ∧ y = .ref b ∧ SqT K H a (ns.map V.int) ∧ SqT K H b (ms.map V.int) ∧
  Q (.bl (Ob.lexAt (fun j => decide (ns.getD j 0 = ms.getD j 0)) (fun j => decide (ms.getD j 0 ≤ ns.getD j 0)) (decide (ms.length ≤ ns.length)) 0 (min ns.length ms.length))) H
theorem op_geT {X : Cx} (hu : X.A.units < cLine) : OpR X (compareOp .GtE) (rGeT X.K) := by
  intro pins s σ H x y v u Q I rx ry h
  obtain ⟨a, b, ns, ms, rfl, rfl, ha, hb, q⟩ := h
  cases rx
  cases ry
  obtain ⟨its, r1, p1, _⟩ := I.tuple ha
  obtain ⟨its2, r2, p2, _⟩ := I.tuple hb
  have i1 : IntsAre its ns := Vals.ints r1
  have i2 : IntsAre its2 ms := Vals.ints r2
  have e1 : its.toArray.size = ns.length := by rw [List.size_toArray]; exact i1.length
  have e2 : its2.toArray.size = ms.length := by rw [List.size_toArray]; exact i2.length
  have at1 : ∀ j (h1 : j < its.toArray.size), ∃ t, its.toArray[j] = .int (ns.getD j 0) t := fun j h1 => PyProof.Rows.IntsAre.int_at i1 _ _ (by simp at h1; simp [h1])
  have at2 : ∀ j (h1 : j < its2.toArray.size), ∃ t, its2.toArray[j] = .int (ms.getD j 0) t := fun j h1 => PyProof.Rows.IntsAre.int_at i2 _ _ (by simp at h1; simp [h1])
  have R := Ob.RcOp.tuples_ge (A := X.A) (s := s) (e := fun j => decide (ns.getD j 0 = ms.getD j 0)) (r := fun j => decide (ms.getD j 0 ≤ ns.getD j 0)) p1 p2 hu (fun j h1 h2 => by
    obtain ⟨t, et⟩ := at1 j h1
    obtain ⟨t', et'⟩ := at2 j h2
    rw [et, et']
    have z : (ns.getD j 0 == ms.getD j 0) = decide (ns.getD j 0 = ms.getD j 0) := by
      by_cases q : ns.getD j 0 = ms.getD j 0
      · rw [decide_eq_true q]; exact beq_iff_eq.mpr q
      · rw [decide_eq_false q]; exact beq_eq_false_iff_ne.mpr q
    rw [← z]
    exact SeqAt.EqAt.int_int _ _ _ _) (fun j h1 h2 _ => by
    obtain ⟨t, et⟩ := at1 j h1
    obtain ⟨t', et'⟩ := at2 j h2
    rw [et, et']
    exact Ob.RcOp.ge_int _ _ _ _)
  rw [e1, e2] at R
  have z : wpAny (model X.prog X.w) X.A (compareOp .GtE (.ref a) (.ref b)) (EP X pins σ Q) X.xe s := R X.prog X.w X.xe (EP X pins σ Q) ⟨.bl _, H, I, rfl, q⟩
  exact z
theorem leT_flip (ns ms : List Int) : Ob.lexAt (fun j => decide (ns.getD j 0 = ms.getD j 0)) (fun j => decide (ms.getD j 0 ≤ ns.getD j 0)) (decide (ms.length ≤ ns.length)) 0 (min ns.length ms.length) = leT ms ns := by
  unfold leT
  rw [Nat.min_comm]
  congr 1
  funext j
  exact decide_eq_decide.mpr eq_comm
def rLeTX : R2D := fun x y M Q => match x, y with
  | .tup xs, .tup ys => ∃ ns ms : List Int, xs = ns.map D.int ∧ ys = ms.map D.int ∧ Q (.bl (leT ns ms)) M
  | _, _ => False
def rGeTX : R2D := fun x y M Q => match x, y with
  | .tup xs, .tup ys => ∃ ns ms : List Int, xs = ns.map D.int ∧ ys = ms.map D.int ∧ Q (.bl (leT ms ns)) M
  | _, _ => False
theorem cr_leT {X : Cx} (hu : X.A.units + 64 < cLine) : CR X .LtE rLeTX := by
  refine ⟨_, op_leT (by omega), ?_⟩
  intro H M vx vy x y Q' Q fx fy m h k
  unfold rLeTX at h
  split at h
  · obtain ⟨ns, ms, rfl, rfl, q⟩ := h
    cases fx with
    | tup h1 f1 =>
      cases fy with
      | tup h2 f2 => exact ⟨_, _, ns, ms, rfl, rfl, by rw [← f1.ints]; exact h1.t, by rw [← f2.ints]; exact h2.t, k.val m (.bl _) q⟩
  · exact h.elim
theorem cr_geT {X : Cx} (hu : X.A.units + 64 < cLine) : CR X .GtE rGeTX := by
  refine ⟨_, op_geT (by omega), ?_⟩
  intro H M vx vy x y Q' Q fx fy m h k
  unfold rGeTX at h
  split at h
  · obtain ⟨ns, ms, rfl, rfl, q⟩ := h
    cases fx with
    | tup h1 f1 =>
      cases fy with
      | tup h2 f2 => exact ⟨_, _, ns, ms, rfl, rfl, by rw [← f1.ints]; exact h1.t, by rw [← f2.ints]; exact h2.t, by rw [leT_flip]; exact k.val m (.bl _) q⟩
  · exact h.elim
theorem leT_3 {a b c x y z : Int} : leT [a, b, c] [x, y, z] = decide (a < x ∨ a = x ∧ (b < y ∨ b = y ∧ c ≤ z)) := by
  unfold leT
  show (if decide (a = x) = true then (if decide (b = y) = true then (if decide (c = z) = true then true else decide (c ≤ z)) else decide (b ≤ y)) else decide (a ≤ x)) = _
  by_cases h1 : a = x <;> by_cases h2 : b = y <;> by_cases h3 : c = z <;> simp [h1, h2, h3] <;> omega
theorem leT_2 {a b x y : Int} : leT [a, b] [x, y] = decide (a < x ∨ a = x ∧ b ≤ y) := by
  unfold leT
  show (if decide (a = x) = true then (if decide (b = y) = true then true else decide (b ≤ y)) else decide (a ≤ x)) = _
  by_cases h1 : a = x <;> by_cases h2 : b = y <;> simp [h1, h2] <;> omega
theorem code_3 (a b c : Int) : TS.code 64 [a, b, c] = a * 4096 + b * 64 + c := by
  show a * 64 ^ 2 + (b * 64 ^ 1 + (c * 64 ^ 0 + 0)) = _
  have e2 : (64 : Int) ^ 2 = 4096 := by decide
  have e1 : (64 : Int) ^ 1 = 64 := by decide
  have e0 : (64 : Int) ^ 0 = 1 := by decide
  rw [e2, e1, e0]
  omega
/-- strictly before -/
def ltT (ns ms : List Int) : Prop := leT ms ns = false
theorem ltT_3 {r q : List Int} (hr : r.length = 3 ∧ TS.Bd 64 r) (hq : q.length = 3 ∧ TS.Bd 64 q) (hne : r ≠ q) (h : TS.code 64 r ≤ TS.code 64 q) : leT q r = false := by
  obtain ⟨a, b, c, rfl⟩ : ∃ a b c, r = [a, b, c] := by
    match r, hr.1 with
    | [a, b, c], _ => exact ⟨a, b, c, rfl⟩
  obtain ⟨x, y, z, rfl⟩ : ∃ a b c, q = [a, b, c] := by
    match q, hq.1 with
    | [a, b, c], _ => exact ⟨a, b, c, rfl⟩
  have h1 : ∀ m ∈ [a, b, c], 0 ≤ m ∧ m < 64 := hr.2
  have h2 : ∀ m ∈ [x, y, z], 0 ≤ m ∧ m < 64 := hq.2
  rw [code_3, code_3] at h
  simp only [List.mem_cons, List.not_mem_nil, or_false, forall_eq_or_imp, forall_eq] at h1 h2
  have hne : ¬ (a = x ∧ b = y ∧ c = z) := fun e => hne (by rw [e.1, e.2.1, e.2.2])
  rw [leT_3]
  exact decide_eq_false (by omega)
theorem ltT_2 {r q : List Int} (hr : r.length = 2 ∧ TS.Bd 64 r) (hq : q.length = 2 ∧ TS.Bd 64 q) (hne : r ≠ q) (h : TS.code 64 r ≤ TS.code 64 q) : leT q r = false := by
  obtain ⟨a, b, rfl⟩ : ∃ a b, r = [a, b] := by
    match r, hr.1 with
    | [a, b], _ => exact ⟨a, b, rfl⟩
  obtain ⟨x, y, rfl⟩ : ∃ a b, q = [a, b] := by
    match q, hq.1 with
    | [a, b], _ => exact ⟨a, b, rfl⟩
  have h1 : ∀ m ∈ [a, b], 0 ≤ m ∧ m < 64 := hr.2
  have h2 : ∀ m ∈ [x, y], 0 ≤ m ∧ m < 64 := hq.2
  rw [code_pair, code_pair] at h
  simp only [List.mem_cons, List.not_mem_nil, or_false, forall_eq_or_imp, forall_eq] at h1 h2
  have hne : ¬ (a = x ∧ b = y) := fun e => hne (by rw [e.1, e.2])
  rw [leT_2]
  exact decide_eq_false (by omega)
end DL

/-! Facts judged. -/
namespace DL
open PySem L2
/-- the word for row i of rows of facts -/
def rowW (names many : Int) (two : Bool) (w : Str) (rows : List D) (i : Nat) : Option Str :=
  bif !areB (rows.getD i .non) many names then some w else
  bif two && decide (at0 (unR (rows.getD i .non)) 1 ≤ at0 (unR (rows.getD i .non)) 0) then some w else
  bif decide (0 < i) && leT (unR (rows.getD i .non)) (unR (rows.getD (i - 1) .non)) then some ("order" : Str) else none
def rowsJ (most names many : Int) (two : Bool) (w1 w2 : Str) (v : D) : D := match v with
  | .tup rows => bif decide (((rows.length : Nat) : Int) > most) then .tup [.non, .str w1] else
    (match (List.range rows.length).find? (fun i => (rowW names many two w2 rows i).isSome) with
    | some i => .tup [.int (i : Nat), .str ((rowW names many two w2 rows i).getD w2)]
    | none => .non)
  | _ => .tup [.non, .str w1]
def factsJ (v : D) : D := match v with
  | .tup [n, e, u] => bif isIntB n 1 8 then (match rowsJ 10 (getI n) 3 false "entries" "entry" e with | .non => rowsJ 6 (getI n) 2 true "unlike" "pair" u | d => d) else .tup [.non, .str "names"]
  | _ => .tup [.non, .str "facts"]
section
variable {most names many : Int} {two : Bool} {w1 w2 : Str} {rows : List D} {k : Nat}
theorem find_at {p : Nat → Bool} {n k : Nat} (hk : k < n) (hp : p k = true) (h : ∀ i, i < k → p i = false) : (List.range n).find? p = some k := by
  rw [List.find?_range_eq_some]
  exact ⟨hp, List.mem_range.mpr hk, fun j hj => by rw [h j hj]; rfl⟩
theorem rows_at (h3 : decide (((rows.length : Nat) : Int) > most) = false) (hk : k < rows.length) {s : Str} (hb : rowW names many two w2 rows k = some s) (h : ∀ i, i < k → rowW names many two w2 rows i = none) : rowsJ most names many two w1 w2 (.tup rows) = .tup [.int (k : Nat), .str s] := by
  simp only [rowsJ, h3, cond_false]
  rw [find_at hk (by rw [hb]; rfl) fun i hi => by rw [h i hi]; rfl]
  simp only [hb, Option.getD_some]
theorem rows_non (h3 : decide (((rows.length : Nat) : Int) > most) = false) (h : ∀ i, i < rows.length → rowW names many two w2 rows i = none) : rowsJ most names many two w1 w2 (.tup rows) = .non := by
  simp only [rowsJ, h3, cond_false]
  have : (List.range rows.length).find? (fun i => (rowW names many two w2 rows i).isSome) = none := by
    rw [List.find?_eq_none]
    intro i hi
    rw [h i (List.mem_range.mp hi)]
    decide
  rw [this]
theorem getD_in (hk : k < rows.length) : rows.getD k .non = rows[k] := by
  rw [List.getD_eq_getElem?_getD, List.getElem?_eq_getElem hk]
  rfl
theorem rowW_bad (hk : k < rows.length) (h : areB rows[k] many names = false) : rowW names many two w2 rows k = some w2 := by
  simp only [rowW, getD_in hk, h, Bool.not_false, cond_true]
theorem rowW_pair (hk : k < rows.length) (h : areB rows[k] many names = true) (ht : two = true) (hp : at0 (unR rows[k]) 1 ≤ at0 (unR rows[k]) 0) : rowW names many two w2 rows k = some w2 := by
  simp only [rowW, getD_in hk, h, Bool.not_true, cond_false, ht, Bool.true_and, decide_eq_true hp, cond_true]
theorem rowW_ord (hk : k < rows.length) (h : areB rows[k] many names = true) (hp : two = true → at0 (unR rows[k]) 0 < at0 (unR rows[k]) 1) : rowW names many two w2 rows k = bif decide (0 < k) && leT (unR rows[k]) (unR (rows.getD (k - 1) .non)) then some ("order" : Str) else none := by
  have : (two && decide (at0 (unR rows[k]) 1 ≤ at0 (unR rows[k]) 0)) = false := by
    cases two with
    | false => rfl
    | true => rw [decide_eq_false (by have := hp rfl; omega)]; rfl
  simp only [rowW, getD_in hk, h, Bool.not_true, cond_false, this]
theorem rowW_are (hk : k < rows.length) (h : rowW names many two w2 rows k = none) : areB rows[k] many names = true := by
  cases e : areB rows[k] many names with
  | true => rfl
  | false => rw [rowW_bad hk e] at h; cases h
theorem are_ints {r : D} (h : areB r many names = true) : ∃ ns : List Int, r = dI ns ∧ ((ns.length : Nat) : Int) = many ∧ (∀ x ∈ ns, 0 ≤ x ∧ x ≤ names - 1) ∧ unR r = ns := by
  cases r with
  | tup xs =>
    simp only [areB, Bool.and_eq_true, decide_eq_true_eq] at h
    obtain ⟨h1, h2⟩ := h
    obtain ⟨ei, hi⟩ := ints_all h2
    exact ⟨xs.map getI, by rw [dI, ← ei], by rw [List.length_map]; exact h1, hi, rfl⟩
  | _ => simp [areB] at h
theorem are_of {ns : List Int} (h1 : ((ns.length : Nat) : Int) = many) (h2 : ∀ x ∈ ns, 0 ≤ x ∧ x ≤ names - 1) : areB (dI ns) many names = true := by
  simp only [areB, Bool.and_eq_true, decide_eq_true_eq]
  refine ⟨by rw [List.length_map]; exact h1, ?_⟩
  rw [List.all_eq_true]
  intro d hd
  obtain ⟨x, hx, rfl⟩ := List.mem_map.mp hd
  have := h2 x hx
  simp [isIntB, this.1, this.2]
theorem unR_I (ns : List Int) : unR (dI ns) = ns := by
  show (ns.map D.int).map getI = ns
  rw [List.map_map]
  exact (List.map_congr_left fun x _ => rfl).trans (List.map_id ns)
theorem rowsJ_vl {l : Addr} {M : Mp} {v : D} (hm : most ≤ 4000) (h1 : Vl l M 1 60 (.tup [.non, .str w1])) (h2 : Vl l M 0 20 (.str w2)) : Vl l M 1 100 (rowsJ most names many two w1 w2 v) := by
  have bk := h1.mono (n' := 1) (w' := 100) (by decide) (by decide)
  cases v with
  | tup rows =>
    simp only [rowsJ]
    cases e : decide (((rows.length : Nat) : Int) > most) with
    | true => exact bk
    | false =>
      have := of_decide_eq_false e
      simp only [cond_false]
      split
      · rename_i k hk
        have := List.mem_range.mp (List.mem_of_find?_eq_some hk)
        have hs : rowW names many two w2 rows k = some w2 ∨ rowW names many two w2 rows k = some ("order" : Str) ∨ rowW names many two w2 rows k = none := by
          unfold rowW
          generalize (!areB (rows.getD k .non) many names) = b1
          generalize (two && decide (at0 (unR (rows.getD k .non)) 1 ≤ at0 (unR (rows.getD k .non)) 0)) = b2
          generalize (decide (0 < k) && leT (unR (rows.getD k .non)) (unR (rows.getD (k - 1) .non))) = b3
          cases b1 <;> cases b2 <;> cases b3 <;> simp
        have vs : Vl l M 0 20 (.str ((rowW names many two w2 rows k).getD w2)) := by
          rcases hs with e | e | e <;> rw [e]
          · exact h2
          · rw [Option.getD_some]
            exact .pure (by decide +kernel) (by decide +kernel) (by decide +kernel) (by decide +kernel)
          · exact h2
        refine (Vl.tupn (k := 2) (n := 0) (w := 20) (fun d hd => ?_) (by simp)).mono (by decide) (by decide)
        simp only [List.mem_cons, List.not_mem_nil, or_false] at hd
        rcases hd with rfl | rfl
        · exact (Vl.int (by omega)).mono (by decide) (by decide)
        · exact vs
      · exact .pure (by decide +kernel) (by decide +kernel) (by decide +kernel) (by decide +kernel)
  | _ => exact bk
end
theorem factsJ_vl {l : Addr} {M : Mp} {v : D} : Vl l M 1 100 (factsJ v) := by
  have f : Vl l M 1 100 (.tup [.non, .str "facts"]) := .pure (by decide +kernel) (by decide +kernel) (by decide +kernel) (by decide +kernel)
  have n : Vl l M 1 100 (.tup [.non, .str "names"]) := .pure (by decide +kernel) (by decide +kernel) (by decide +kernel) (by decide +kernel)
  unfold factsJ
  split
  · rename_i x e u
    cases isIntB x 1 8 with
    | false => exact n
    | true =>
      simp only [cond_true]
      split
      · exact rowsJ_vl (by decide) (.pure (by decide +kernel) (by decide +kernel) (by decide +kernel) (by decide +kernel)) (.pure (by decide +kernel) (by decide +kernel) (by decide +kernel) (by decide +kernel))
      · exact rowsJ_vl (by decide) (.pure (by decide +kernel) (by decide +kernel) (by decide +kernel) (by decide +kernel)) (.pure (by decide +kernel) (by decide +kernel) (by decide +kernel) (by decide +kernel))
  · exact f
/-! ### facts -/
/-- rows of facts: so many, of so many names, ascending -/
structure Rws (most many : Nat) (names : Int) (ts : List (List Int)) : Prop where
  len : ts.length ≤ most
  row : ∀ r ∈ ts, r.length = many ∧ ∀ x ∈ r, 0 ≤ x ∧ x ≤ names - 1
  asc : ∀ (i : Nat) (hi : i + 1 < ts.length), leT ts[i + 1] ts[i] = false
structure Fcs (names : Int) (es us : List (List Int)) : Prop where
  n0 : 1 ≤ names
  n1 : names ≤ 8
  rs : Rws 10 3 names es
  ws : Rws 6 2 names us
  lt : ∀ r ∈ us, at0 r 0 < at0 r 1
def facD (names : Int) (es us : List (List Int)) : D := .tup [.int names, dII es, dII us]
theorem rowsJ_of {most many : Nat} {names : Int} {two : Bool} {w1 w2 : Str} {ts : List (List Int)} (h : Rws most many names ts) (hp : two = true → ∀ r ∈ ts, at0 r 0 < at0 r 1) : rowsJ most names many two w1 w2 (dII ts) = .non := by
  have hl := h.len
  refine rows_non (decide_eq_false (by rw [List.length_map]; omega)) fun i hi => ?_
  have hi' : i < ts.length := by simpa using hi
  have hr := h.row _ (List.getElem_mem hi')
  have ei : (ts.map dI)[i] = dI ts[i] := List.getElem_map ..
  rw [rowW_ord hi (by rw [ei]; exact are_of (by omega) hr.2) (fun e => by rw [ei, unR_I]; exact hp e _ (List.getElem_mem hi')), ei, unR_I]
  cases i with
  | zero => rfl
  | succ i =>
    have e2 : (ts.map dI).getD (i + 1 - 1) .non = dI ts[i] := by
      rw [getD_in (by rw [List.length_map]; omega)]
      exact List.getElem_map ..
    rw [e2, unR_I, h.asc i hi', Bool.and_false]
    rfl
theorem Fcs.non {names : Int} {es us : List (List Int)} (h : Fcs names es us) : factsJ (facD names es us) = .non := by
  have e1 : isIntB (.int names) 1 8 = true := by simp [isIntB, h.n0, h.n1]
  show (bif isIntB (.int names) 1 8 then (match rowsJ 10 names 3 false "entries" "entry" (dII es) with | .non => rowsJ 6 names 2 true "unlike" "pair" (dII us) | d => d) else .tup [.non, .str "names"]) = _
  have e2 : rowsJ 10 names 3 false "entries" "entry" (dII es) = .non := rowsJ_of (most := 10) (many := 3) h.rs (fun e => by cases e)
  rw [e1, cond_true, e2]
  exact rowsJ_of (most := 6) (many := 2) h.ws fun _ => h.lt
theorem rowsJ_inv {most many : Nat} {names : Int} {two : Bool} {w1 w2 : Str} {v : D} (h : rowsJ most names many two w1 w2 v = .non) : ∃ ts, v = dII ts ∧ Rws most many names ts ∧ (two = true → ∀ r ∈ ts, at0 r 0 < at0 r 1) := by
  cases v with
  | tup rows =>
    cases e : decide (((rows.length : Nat) : Int) > (most : Int)) with
    | true => simp only [rowsJ, e, cond_true] at h; cases h
    | false =>
      have hl := of_decide_eq_false e
      simp only [rowsJ, e, cond_false] at h
      split at h
      · cases h
      · rename_i hf
        have hn : ∀ i, i < rows.length → rowW names many two w2 rows i = none := fun i hi => by
          have := List.find?_eq_none.mp hf i (List.mem_range.mpr hi)
          simpa using this
        have hall : ∀ r ∈ rows, areB r many names = true := fun r hr => by
          obtain ⟨i, hi, rfl⟩ := List.getElem_of_mem hr
          exact rowW_are hi (hn i hi)
        have er : rows = (rows.map unR).map dI := by
          rw [List.map_map]
          refine ((List.map_congr_left fun r hr => ?_).trans (List.map_id rows)).symm
          obtain ⟨ns, rfl, _, _, e⟩ := are_ints (hall r hr)
          show dI (unR (dI ns)) = _
          rw [e]
          rfl
        have hpr : two = true → ∀ (i : Nat) (hi : i < rows.length), at0 (unR rows[i]) 0 < at0 (unR rows[i]) 1 := fun ht i hi => by
          rcases Int.lt_or_le (at0 (unR rows[i]) 0) (at0 (unR rows[i]) 1) with z | z
          · exact z
          · have := rowW_pair (w2 := w2) (two := two) hi (rowW_are hi (hn i hi)) ht z
            rw [hn i hi] at this
            cases this
        refine ⟨rows.map unR, by rw [dII, ← er], ⟨by rw [List.length_map]; omega, fun r hr => ?_, fun i hi => ?_⟩, fun ht r hr => ?_⟩
        · obtain ⟨d, hd, rfl⟩ := List.mem_map.mp hr
          obtain ⟨ns, rfl, h1, h2, e⟩ := are_ints (hall d hd)
          rw [e]
          exact ⟨by omega, h2⟩
        · have hi' : i + 1 < rows.length := by simpa using hi
          have := rowW_ord (w2 := w2) hi' (rowW_are hi' (hn _ hi')) fun ht => hpr ht _ hi'
          rw [hn _ hi', getD_in (k := i + 1 - 1) (by omega)] at this
          simp only [List.getElem_map]
          have h0 : decide (0 < i + 1) = true := decide_eq_true (by omega)
          rw [h0, Bool.true_and] at this
          have e3 : rows[i + 1 - 1]'(by omega) = rows[i]'(by omega) := rfl
          rw [e3] at this
          cases hle : leT (unR rows[i + 1]) (unR rows[i]) with
          | false => rfl
          | true => rw [hle] at this; cases this
        · obtain ⟨d, hd, rfl⟩ := List.mem_map.mp hr
          obtain ⟨i, hi, rfl⟩ := List.getElem_of_mem hd
          exact hpr ht i hi
  | _ => simp [rowsJ] at h
theorem factsJ_inv {v : D} (h : factsJ v = .non) : ∃ names es us, v = facD names es us ∧ Fcs names es us := by
  unfold factsJ at h
  split at h
  · rename_i n e u
    cases hb : isIntB n 1 8 with
    | false => rw [hb] at h; cases h
    | true =>
      rw [hb, cond_true] at h
      cases n with
      | int i =>
        simp only [isIntB, Bool.and_eq_true, decide_eq_true_eq] at hb
        cases he : rowsJ 10 (getI (.int i)) 3 false "entries" "entry" e with
        | non =>
          rw [he] at h
          obtain ⟨es, rfl, h1, _⟩ := rowsJ_inv (most := 10) (many := 3) he
          obtain ⟨us, rfl, h2, h3⟩ := rowsJ_inv (most := 6) (many := 2) h
          exact ⟨i, es, us, rfl, hb.1, hb.2, h1, h2, h3 rfl⟩
        | _ => rw [he] at h; cases h
      | _ => simp [isIntB] at hb
  · cases h
/-- ascending by the code, without repeating -/
theorem Rws.of_code {most many : Nat} {names : Int} {ts : List (List Int)} (hm : many = 3 ∨ many = 2) (hn : names ≤ 60) (hl : ts.length ≤ most) (hr : ∀ r ∈ ts, r.length = many ∧ ∀ x ∈ r, 0 ≤ x ∧ x ≤ names - 1) (hd : ts.Nodup) (hc : ts.Pairwise (fun a b => TS.code 64 a ≤ TS.code 64 b)) : Rws most many names ts := by
  refine ⟨hl, hr, fun i hi => ?_⟩
  have bd : ∀ r ∈ ts, r.length = many ∧ TS.Bd 64 r := fun r h => ⟨(hr r h).1, fun x hx => by have := (hr r h).2 x hx; omega⟩
  have h1 := bd _ (List.getElem_mem (show i < ts.length by omega))
  have h2 := bd _ (List.getElem_mem hi)
  have ne := List.pairwise_iff_getElem.mp hd i (i + 1) (by omega) hi (by omega)
  have le := List.pairwise_iff_getElem.mp hc i (i + 1) (by omega) hi (by omega)
  rcases hm with rfl | rfl
  · exact ltT_3 h1 h2 ne le
  · exact ltT_2 h1 h2 ne le
/-! ### helpers -/
theorem gen_ints {P : Int → Prop} : ∀ {acc : List D}, (∀ (k : Nat) (y : D), acc[k]? = some y → ∃ i, y = .int i ∧ P i) → ∃ xs : List Int, acc = xs.map D.int ∧ ∀ x ∈ xs, P x
  | [], _ => ⟨[], rfl, fun _ h => absurd h List.not_mem_nil⟩
  | d :: acc, h => by
    obtain ⟨xs, rfl, hx⟩ := gen_ints (acc := acc) fun k y e => h (k + 1) y (by simpa using e)
    obtain ⟨i, rfl, hi⟩ := h 0 d rfl
    exact ⟨i :: xs, rfl, fun x hx' => by
      rcases List.mem_cons.mp hx' with rfl | hx'
      · exact hi
      · exact hx x hx'⟩
theorem nodup_leL {α : Type} [BEq α] [LawfulBEq α] : ∀ {xs ys : List α}, xs.Nodup → (∀ x ∈ xs, x ∈ ys) → xs.length ≤ ys.length
  | [], _, _, _ => Nat.zero_le _
  | x :: xs, ys, h, hs => by
    have hx := hs x List.mem_cons_self
    have h' := List.nodup_cons.mp h
    have := nodup_leL (xs := xs) (ys := ys.erase x) h'.2 fun y hy => by
      have hne : y ≠ x := fun e => h'.1 (e ▸ hy)
      exact (List.mem_erase_of_ne hne).mpr (hs y (List.mem_cons_of_mem _ hy))
    rw [List.length_erase_of_mem hx] at this
    have := List.length_pos_of_mem hx
    simp only [List.length_cons]
    omega
theorem cut_takeA {ds : List D} {k : Int} (h0 : 0 ≤ k) : cutD ds none (some k) = ds.take k.toNat := by
  unfold cutD
  have e1 : HT.sIx ds.length 0 none = 0 := rfl
  have e2 : HT.sIx ds.length ds.length (some k) = min k.toNat ds.length := by
    simp only [HT.sIx]
    split <;> omega
  rw [e1, e2, List.drop_zero, Nat.sub_zero]
  rcases Nat.le_total k.toNat ds.length with h | h
  · rw [Nat.min_eq_left h]
  · rw [Nat.min_eq_right h, List.take_length, List.take_of_length_le h]
/-! ### slices -/
theorem cut_mem {ds : List D} {lo hi : Option Int} : ∀ x ∈ cutD ds lo hi, x ∈ ds := fun x hx => List.mem_of_mem_drop (List.mem_of_mem_take hx)
theorem cut_len {ds : List D} {lo hi : Option Int} : (cutD ds lo hi).length ≤ ds.length := by
  unfold cutD
  rw [List.length_take, List.length_drop]
  omega
theorem lenOk_of {l : Addr} {M : Mp} {n w : Nat} {v : D} (h : Vl l M n w v) (hw : w ≤ 100000) : LenOk v := fun rows e r hr xs e2 => by
  subst e
  have := h.item r hr
  rw [e2] at this
  exact Nat.le_trans this.len hw
def LenFc (v : D) : Prop := ∀ ds, v = .tup ds → ∀ d ∈ ds, LenOk d
theorem lenFc_of {l : Addr} {M : Mp} {n w : Nat} {v : D} (h : Vl l M n w v) (hw : w ≤ 100000) : ∀ ds, v = .tup ds → ∀ d ∈ ds, LenOk d := fun ds e d hd => by
  subst e
  exact lenOk_of (h.item d hd) hw
/-! ### one object out of sight -/
def dFrame (t : TED) : TED := fun ρ M Q => ∃ p o, M p = some o ∧ t ρ (Mx p M) fun d M' => M' p = none → Q d (updM M' p o)
theorem step_frame {K : PySem.W.Frag} {H H' : Hp} {M M' : Mp} {p : Addr} {o : MO} (m : MemOk K H M) (hp : M p = some o) (s : Step K H (Mx p M) H' M') : Step K H M H' (updM M' p o) := by
  obtain ⟨u, hu, ho⟩ := m p o hp
  obtain ⟨h1, h2⟩ := s.fr p u hu (by unfold Mx; rw [if_pos rfl])
  refine ⟨fun a o' e => ?_, s.tups, fun a u' hu' hn => ?_⟩
  · by_cases ha : a = p
    · subst ha
      rw [updM_same] at e
      cases e
      exact ⟨u, h1, ho.up s.tups⟩
    · rw [updM_ne ha] at e
      exact s.mem a o' e
  · have ha : a ≠ p := by
      rintro rfl
      rw [hn] at hp
      cases hp
    obtain ⟨g1, g2⟩ := s.fr a u' hu' (by unfold Mx; rw [if_neg ha]; exact hn)
    exact ⟨g1, by rw [updM_ne ha]; exact g2⟩
theorem none_frame {K : PySem.W.Frag} {H H' : Hp} {M M' : Mp} {p : Addr} {o : MO} (m : MemOk K H M) (hp : M p = some o) (s : Step K H (Mx p M) H' M') : M' p = none := by
  obtain ⟨u, hu, ho⟩ := m p o hp
  exact (s.fr p u hu (by unfold Mx; rw [if_pos rfl])).2
theorem keep_split {M M' : Mp} {p : Addr} {o : MO} (h : M p = none) (k : Keep (updM M p o) M') : ∃ M1, M' = updM M1 p o ∧ M1 p = none ∧ Keep M M1 := by
  refine ⟨Mx p M', ?_, by unfold Mx; rw [if_pos rfl], fun b o' e => ?_⟩
  · funext a
    by_cases ha : a = p
    · subst ha
      rw [updM_same]
      exact k _ _ updM_same
    · rw [updM_ne ha]
      unfold Mx
      rw [if_neg ha]
  · have hb : b ≠ p := ne_none e h
    unfold Mx
    rw [if_neg hb]
    exact k _ _ (by rw [updM_ne hb]; exact e)
theorem memOk_mx {K : PySem.W.Frag} {H : Hp} {M : Mp} {p : Addr} (m : MemOk K H M) : MemOk K H (Mx p M) := fun a o' e => m a o' (Mx.le _ _ e)
theorem de_frame {X : Cx} {e : Expr} {t : TED} (h : DE X e t) : DE X e (dFrame t) :=
  pe_weak h fun σ H Q ⟨ρ, M, Q', r, m, ⟨p, o, hp, h⟩, k⟩ => ⟨ρ, Mx p M, _, r, memOk_mx m, h, fun v H' d M' f s q => k v H' d _ f (step_frame m hp s) (q (none_frame m hp s))⟩
def dsFrame (t : TSD) : TSD := fun E ρ M => ∃ p o, M p = some o ∧ t { nx := fun ρ' M' => M' p = none → E.nx ρ' (updM M' p o), rt := fun d M' => M' p = none → E.rt d (updM M' p o), bk := fun ρ' M' => M' p = none → E.bk ρ' (updM M' p o), ct := fun ρ' M' => M' p = none → E.ct ρ' (updM M' p o), xc := fun cv fs M' => M' p = none → E.xc cv fs (updM M' p o) } ρ (Mx p M)
theorem ds_frame {X : Cx} {st : Stmt} {t : TSD} (h : DS X st t) : DS X st (dsFrame t) :=
  ps_weak h fun E σ H ⟨ρ, M, E', r, m, ⟨p, o, hp, h⟩, k⟩ => ⟨ρ, Mx p M, _, r, memOk_mx m, h, ⟨fun σ' ρ' H' M' r' s q => k.nx σ' ρ' H' _ r' (step_frame m hp s) (q (none_frame m hp s)), fun v H' d M' f s q => k.rt v H' d _ f (step_frame m hp s) (q (none_frame m hp s)),
    fun σ' ρ' H' M' r' s q => k.bk σ' ρ' H' _ r' (step_frame m hp s) (q (none_frame m hp s)), fun σ' ρ' H' M' r' s q => k.ct σ' ρ' H' _ r' (step_frame m hp s) (q (none_frame m hp s)), fun cv od σ' H' fs M' x s q => k.xc cv od σ' H' fs _ x (step_frame m hp s) (q (none_frame m hp s))⟩⟩
theorem mx_upd {M : Mp} {p : Addr} {o : MO} (h : M p = none) : Mx p (updM M p o) = M := by
  funext a
  unfold Mx
  by_cases ha : a = p
  · rw [if_pos ha, ha, h]
  · rw [if_neg ha, updM_ne ha]
end DL

/-! Functions as values; what formulas tell in tables. -/
namespace DL
open PySem PySem.Spec PyProof.Rows L2
section
variable {X : Cx} {k : Nat} {f : Addr} {fd : FuncData} {ps : List Str} {sp : SpD} {x : Str} {p pos : Pos} {e : Expr} {es : List Expr} {t t' : TAD}
/-- a def's name as a value -/
theorem de_gfn (hg : Gl X x) (hm : X.mg x = some (.ref f)) (hdb : (x == ("__debug__" : Str)) = false := by decide) : DE X (.Name x p) (dC (.ref f)) :=
  de_c (pe_glob hg hm (v := .ref f) rfl hdb) fun _ => .ref _
/-- g(e, ..), g a name that holds f -/
def dCallL (i : Nat) (f : Addr) (sp : SpD) (t : TAD) : TED := fun ρ M Q => ρ[i]? = some (some (.ref f)) ∧ t ρ M fun ds M1 => sp ds M1 Q X0
theorem de_callL {i : Nat} (F : FnD X.prog X.w X.K X.mg X.base CX0 k f fd ps sp) (hr : Room k X.A) (hgd : X.A.guards = some []) (hk : PySem.W.keepIn X.K (.ref f) = true) (hb : Binds X.K fd ps []) (hN : X.N[i]? = some x) (hv : Vis X.env.scope x)
    (ha : DA X (e :: es) t) (hd : (x == ("__debug__" : Str)) = false := by decide) (hcd : (x == ("__classdict__" : Str)) = false := by decide)
    (he : starEach (e :: es) X.env = (false, eval e X.env) :: starEach es X.env := by rfl) (hpl : (backTo pos (starEach es X.env)).any (·.1) = false := by rfl) :
    DE X (.Call (.Name x p) (e :: es) [] pos) (dCallL i f sp t) := by
  refine ⟨fun pins s σ H Q I h => ?_⟩
  obtain ⟨ρ, M, Q', r, m, ⟨hi, h⟩, kk⟩ := h
  obtain ⟨v, hσ, hf⟩ := r.at_ i _ hi
  cases hf
  refine wpAny_Call_Name_kw (thn ((pe_var hN hv hd hcd).run pins s σ H (fun v H' => v = .ref f ∧ H' = H) I ⟨_, hσ, rfl, rfl⟩) fun u s1 ⟨v, H1, I1, r1, hv1, hH1⟩ => ?_)
  subst hv1
  subst hH1
  cases r1
  refine PySem.W.callWith_K (h₀ := X.base) I1.ok.mod.kin hk (thn (ha.run pos pins s1 σ H1 _ I1 ⟨ρ, M, _, r, m, h, fun vs H2 ds M2 fs s2 q => (show upSp X.K sp vs H2 Q (fun _ _ _ => False) from ⟨ds, M2, Q', X0, fs, s2.mem, q, kk.after s2, fun _ _ _ _ _ _ _ z => z.elim⟩)⟩) fun us s2 ⟨vs, H2, I2, r2, q⟩ => ⟨I2.kIn, run_fnG F hr hgd hb pass0 I2 r2 q⟩) he hpl
/-- one way or another -/
def dAlt (t u : TED) : TED := fun ρ M Q => t ρ M Q ∨ u ρ M Q
theorem de_alt {t u : TED} (h : DE X e t) (h' : DE X e u) : DE X e (dAlt t u) := ⟨fun pins s σ H Q I q => by
  obtain ⟨ρ, M, Q', r, m, h1 | h1, kk⟩ := q
  · exact h.run pins s σ H Q I ⟨ρ, M, Q', r, m, h1, kk⟩
  · exact h'.run pins s σ H Q I ⟨ρ, M, Q', r, m, h1, kk⟩⟩
end
end DL
namespace DL
open PySem L2
/-! ### what formulas tell -/
def bhT (t : List (List Int)) (i o : Int) : Int := ((rowT t i).idxOf o : Nat)
def ahT (t : List (List Int)) (j o : Int) : Int := ((col t j.toNat).idxOf o : Nat)
section
variable {n : Nat} {t : List (List Int)}
theorem IsTab.bh (h : IsTab n t) {i o : Int} (i0 : 0 ≤ i) (i1 : i < n) (o0 : 0 ≤ o) (o1 : o < n) : Gives n t i (bhT t i o) o ∧ o ∈ rowT t i := by
  obtain ⟨hm, l, z⟩ := perm_idx (h.row _ (h.rowm i0 i1).1) (o := o) ⟨o0, o1⟩
  exact ⟨⟨i0, i1, Int.natCast_nonneg _, Int.ofNat_lt.mpr l, (z ((rowT t i).idxOf o : Nat) (Int.natCast_nonneg _) (Int.ofNat_lt.mpr l)).mpr rfl⟩, hm⟩
theorem IsTab.ah (h : IsTab n t) {j o : Int} (j0 : 0 ≤ j) (j1 : j < n) (o0 : 0 ≤ o) (o1 : o < n) : Gives n t (ahT t j o) j o ∧ o ∈ DL.col t j.toNat := by
  obtain ⟨hm, l, z⟩ := perm_idx (h.col j.toNat (by omega)) (o := o) ⟨o0, o1⟩
  have e := (z _ (by omega) (by omega)).mpr rfl
  rw [col_at0 h (by omega) (by omega) j0 j1] at e
  exact ⟨⟨Int.natCast_nonneg _, Int.ofNat_lt.mpr l, j0, j1, e⟩, hm⟩
theorem Gives.bh (h : IsTab n t) {i j k : Int} (g : Gives n t i j k) : bhT t i k = j := by
  have kk := g.k_in h
  exact ((h.bh g.1 g.2.1 kk.1 kk.2).1).one h g
theorem Gives.ah (h : IsTab n t) {i j k : Int} (g : Gives n t i j k) : ahT t j k = i := by
  have kk := g.k_in h
  exact ((h.ah g.2.2.1 g.2.2.2.1 kk.1 kk.2).1).two h g
end
/-- formulas of so many names, so deep at most -/
def Fo (names : Int) : Nat → D → Prop
  | 0, d => ∃ i : Int, d = .int i ∧ 0 ≤ i ∧ i < names
  | n + 1, d => (∃ i : Int, d = .int i ∧ 0 ≤ i ∧ i < names) ∨ ∃ (x : Str) (a b : D), d = .tup [.str x, a, b] ∧ isW x ∧ Fo names n a ∧ Fo names n b
theorem Fo.name {names i : Int} {n : Nat} (h0 : 0 ≤ i) (h1 : i < names) : Fo names n (.int i) := by
  cases n with
  | zero => exact ⟨i, rfl, h0, h1⟩
  | succ n => exact .inl ⟨i, rfl, h0, h1⟩
theorem Fo.cases' {names : Int} {n : Nat} {d : D} (h : Fo names n d) : (∃ i : Int, d = .int i ∧ 0 ≤ i ∧ i < names) ∨ ∃ (m : Nat) (x : Str) (a b : D), n = m + 1 ∧ d = .tup [.str x, a, b] ∧ isW x ∧ Fo names m a ∧ Fo names m b := by
  cases n with
  | zero => exact .inl h
  | succ n =>
    rcases h with h | ⟨x, a, b, h⟩
    · exact .inl h
    · exact .inr ⟨n, x, a, b, rfl, h⟩
theorem Fo.up {names : Int} : ∀ {n : Nat} {d : D}, Fo names n d → Fo names (n + 1) d
  | 0, _, h => .inl h
  | n + 1, _, .inl h => .inl h
  | n + 1, _, .inr ⟨x, a, b, e, hx, ha, hb⟩ => .inr ⟨x, a, b, e, hx, ha.up, hb.up⟩
theorem Fw.fo {names : Int} : ∀ {n w : Nat} {d : D}, Fw n w names d → Fo names n d
  | 0, _, _, ⟨i, e, h0, h1, _⟩ => ⟨i, e, h0, h1⟩
  | n + 1, _, _, .inl ⟨i, e, h0, h1, _⟩ => .inl ⟨i, e, h0, h1⟩
  | n + 1, _, _, .inr ⟨x, a, b, _, _, e, hx, ha, hb, _⟩ => .inr ⟨x, a, b, e, hx, ha.fo, hb.fo⟩
def opT (t : List (List Int)) (x : Str) (i j : Int) : Int := if x = "with" then ent t i j else if x = "behind" then bhT t i j else ahT t i j
def valT (t : List (List Int)) (th : List Int) : Nat → D → Int
  | _, .int i => at0 th i
  | n + 1, .tup [.str x, a, b] => opT t x (valT t th n a) (valT t th n b)
  | _, _ => 0
theorem str_ne1 : ("behind" : Str) ≠ "with" := by decide +kernel
theorem str_ne2 : ("ahead" : Str) ≠ "with" := by decide +kernel
theorem str_ne3 : ("ahead" : Str) ≠ "behind" := by decide +kernel
theorem opT_with {t : List (List Int)} {i j : Int} : opT t "with" i j = ent t i j := if_pos rfl
theorem opT_behind {t : List (List Int)} {i j : Int} : opT t "behind" i j = bhT t i j := by
  unfold opT
  rw [if_neg str_ne1, if_pos rfl]
theorem opT_ahead {t : List (List Int)} {i j : Int} : opT t "ahead" i j = ahT t i j := by
  unfold opT
  rw [if_neg str_ne2, if_neg str_ne3]
theorem valT_int {t : List (List Int)} {th : List Int} {n : Nat} {i : Int} : valT t th n (.int i) = at0 th i := by cases n <;> rfl
theorem opT_in {n : Nat} {t : List (List Int)} (h : IsTab n t) {x : Str} (hx : isW x) {i j : Int} (i0 : 0 ≤ i) (i1 : i < n) (j0 : 0 ≤ j) (j1 : j < n) : 0 ≤ opT t x i j ∧ opT t x i j < n := by
  rcases hx with rfl | rfl | rfl
  · rw [opT_with]; exact h.bd i0 i1 j0 j1
  · rw [opT_behind]; have g := (h.bh i0 i1 j0 j1).1; exact ⟨g.2.2.1, g.2.2.2.1⟩
  · rw [opT_ahead]; have g := (h.ah i0 i1 j0 j1).1; exact ⟨g.1, g.2.1⟩
theorem valT_in {n : Nat} {t : List (List Int)} (h : IsTab n t) {th : List Int} {names : Int} (hl : ((th.length : Nat) : Int) = names) (ht : ∀ x ∈ th, 0 ≤ x ∧ x < (n : Int)) : ∀ {m : Nat} {d : D}, Fo names m d → 0 ≤ valT t th m d ∧ valT t th m d < n := by
  intro m
  induction m with
  | zero =>
    rintro d ⟨i, rfl, h0, h1⟩
    exact ht _ (List.mem_of_getElem? (at0_of (l := th) h0 (by omega)))
  | succ m ih =>
    rintro d (⟨i, rfl, h0, h1⟩ | ⟨x, a, b, rfl, hx, ha, hb⟩)
    · exact ht _ (List.mem_of_getElem? (at0_of (l := th) h0 (by omega)))
    · exact opT_in h hx (ih ha).1 (ih ha).2 (ih hb).1 (ih hb).2
theorem valT_up {t : List (List Int)} {th : List Int} {names : Int} : ∀ {m : Nat} {d : D}, Fo names m d → valT t th (m + 1) d = valT t th m d := by
  intro m
  induction m with
  | zero =>
    rintro d ⟨i, rfl, h0, h1⟩
    rfl
  | succ m ih =>
    rintro d (⟨i, rfl, h0, h1⟩ | ⟨x, a, b, rfl, hx, ha, hb⟩)
    · rfl
    · show opT t x (valT t th (m + 1) a) (valT t th (m + 1) b) = opT t x (valT t th m a) (valT t th m b)
      rw [ih ha, ih hb]
/-- the first of those that answer, if there is just one -/
theorem flt_one {l : List Int} {c : Int → Bool} {x : Int} (hx : x ∈ l) (hc : c x = true) (hu : ∀ y ∈ l, c y = true → y = x) : atI ((l.filter c).map D.int) 0 = some (.int x) := by
  have hm : x ∈ l.filter c := List.mem_filter.mpr ⟨hx, hc⟩
  match hL : l.filter c, hm with
  | y :: L, _ =>
    have hy : y ∈ l.filter c := by rw [hL]; exact List.mem_cons_self
    have := List.mem_filter.mp hy
    rw [hu y this.1 this.2]
    exact atI0
/-- repr of a list of things: the same for each list of them -/
theorem lst_shw {l : Addr} {M : Mp} {n w : Nat} {ds : List D} (h : ∀ d ∈ ds, Vl l M n w d) (hn : n ≤ 90) (hw : ds.length * (w + 2) + 3 ≤ sizeLine) : ∃ P, Shw P ∧ ∀ M' p, Keep M M' → M' p = some (.lst ds) → Rdm M' (.ref p) P := by
  obtain ⟨ps, r, b, c, e', g⟩ := vls_all h
  refine ⟨.list ps, ⟨by simpa [PyData.showable] using b, by simp only [PyData.depth]; omega, ?_⟩, fun M' p k e => .lst e (RdmAll.mono (fun a o ha => k a o (Mx.le a o ha)) ps ds r)⟩
  simp only [PyData.shown]
  have := listText_len_le (PyData.shownAll ps)
  rw [g] at this
  rw [Nat.mul_add] at hw
  omega
theorem ints_vl {l : Addr} {M : Mp} {ns : List Int} (h : ∀ i ∈ ns, i.natAbs < 4096) : ∀ d ∈ ns.map D.int, Vl l M 0 13 d := fun d hd => by
  obtain ⟨i, hi, rfl⟩ := List.mem_map.mp hd
  exact .int (h i hi)
theorem tab_vl {l : Addr} {M : Mp} {n : Nat} {t : List (List Int)} (h : IsTab n t) (hn : n ≤ 61) : Vl l M 2 60000 (dII t) :=
  Vl.mono (Vl.tupn (k := 61) (n := 1) (w := 921) (fun d hd => by
    obtain ⟨r, hr, rfl⟩ := List.mem_map.mp hd
    exact (Vl.ints (k := 61) (fun x hx => by have := h.mem hr hx; omega) (by rw [h.rlen hr]; omega)).mono (by decide) (by decide)) (by rw [List.length_map, h.len]; omega)) (by decide) (by decide)
end DL

/-! Worlds judged. -/
namespace DL
open PySem L2
def lenD : D → Int
  | .tup ds => ((ds.length : Nat) : Int)
  | _ => 0
def unT : D → List (List Int)
  | .tup rows => unD rows
  | _ => []
theorem tabJ_inv {v : D} (h : tabJ v = .non) : ∃ (n : Nat) (t : List (List Int)), v = dII t ∧ IsTab n t ∧ 1 ≤ n ∧ n ≤ 60 := by
  cases v with
  | tup rows =>
    cases e : decide (1 ≤ ((rows.length : Nat) : Int)) && decide (((rows.length : Nat) : Int) ≤ 60) with
    | false =>
      simp only [tabJ, e, cond_false] at h
      cases h
    | true =>
      simp only [tabJ, e, cond_true] at h
      simp only [Bool.and_eq_true, decide_eq_true_eq] at e
      split at h
      · cases h
      · rename_i hf
        split at h
        · cases h
        · rename_i hc
          have hall : ∀ r ∈ rows, rowP (rows.length : Nat) r = true := fun r hr => by
            have := List.findIdx?_eq_none_iff.mp hf r hr
            simpa using this
          obtain ⟨t, rfl, ht⟩ := rows_tab hall
          rw [unD_map, List.length_map] at hc
          rw [List.length_map] at ht e
          refine ⟨t.length, t, rfl, ⟨rfl, fun r hr => ?_, fun j hj => ?_⟩, by omega, by omega⟩
          · obtain ⟨h1, h2, h3⟩ := ht r hr
            exact perm_of h3 (fun x hx => rg_mem.mpr ⟨(h2 x hx).1, by have := (h2 x hx).2; omega⟩) (by rw [rg_length]; omega)
          · have := List.find?_eq_none.mp hc (j : Int) (rg_mem.mpr ⟨by omega, by omega⟩)
            have hb : colB t (j : Int) = true := by simpa using this
            exact (colB_iff (n := t.length) (k := (j : Int)) rfl ht (by omega) (by omega)).mp hb
  | _ => cases h
def entW (t : List (List Int)) (xs : List Int) (r : List Int) : Bool := decide (ent t (at0 xs (at0 r 0)) (at0 xs (at0 r 1)) = at0 xs (at0 r 2))
def oneW (xs : List Int) (r : List Int) : Bool := decide (at0 xs (at0 r 0) = at0 xs (at0 r 1))
def placJ (es us : List (List Int)) (t : List (List Int)) (xs : List Int) : D := match es.findIdx? (fun r => !entW t xs r) with
  | some k => .tup [.int (k : Nat), .str "entry"]
  | none => match us.findIdx? (oneW xs) with
    | some k => .tup [.int (k : Nat), .str "unlike"]
    | none => .non
def worldJ (names : Int) (es us : List (List Int)) (v : D) : D := match v with
  | .tup [tb, th] => (match tabJ tb with
    | .non => bif areB th names (lenD tb) then placJ es us (unT tb) (unR th) else .tup [.non, .str "things"]
    | _ => .tup [.non, .str "table"])
  | _ => .tup [.non, .str "world"]
theorem plac_ent {es us t : List (List Int)} {xs : List Int} {k : Nat} (hk : k < es.length) (h : entW t xs es[k] = false) (hb : ∀ (i : Nat) (hi : i < es.length), i < k → entW t xs es[i] = true) : placJ es us t xs = .tup [.int (k : Nat), .str "entry"] := by
  unfold placJ
  rw [findIdx_of hk (by rw [h]; rfl) fun i hi hlt => by rw [hb i hi hlt]; rfl]
theorem plac_one {es us t : List (List Int)} {xs : List Int} {k : Nat} (he : ∀ (i : Nat) (hi : i < es.length), entW t xs es[i] = true) (hk : k < us.length) (h : oneW xs us[k] = true) (hb : ∀ (i : Nat) (hi : i < us.length), i < k → oneW xs us[i] = false) : placJ es us t xs = .tup [.int (k : Nat), .str "unlike"] := by
  unfold placJ
  rw [findIdx_none fun i hi => by rw [he i hi]; rfl]
  simp only
  rw [findIdx_of hk h hb]
theorem plac_non {es us t : List (List Int)} {xs : List Int} (he : ∀ (i : Nat) (hi : i < es.length), entW t xs es[i] = true) (hb : ∀ (i : Nat) (hi : i < us.length), oneW xs us[i] = false) : placJ es us t xs = .non := by
  unfold placJ
  rw [findIdx_none fun i hi => by rw [he i hi]; rfl]
  simp only
  rw [findIdx_none hb]
theorem placJ_vl {l : Addr} {M : Mp} {es us t : List (List Int)} {xs : List Int} (h1 : es.length ≤ 4000) (h2 : us.length ≤ 4000) : Vl l M 1 100 (placJ es us t xs) := by
  have p2 : ∀ (k : Nat) (s : Str), k ≤ 4000 → Vl l M 0 20 (.str s) → Vl l M 1 100 (.tup [.int (k : Nat), .str s]) := fun k s hk hs => by
    refine (Vl.tupn (k := 2) (n := 0) (w := 20) (fun d hd => ?_) (by simp)).mono (by decide) (by decide)
    simp only [List.mem_cons, List.not_mem_nil, or_false] at hd
    rcases hd with rfl | rfl
    · exact (Vl.int (by omega)).mono (by decide) (by decide)
    · exact hs
  unfold placJ
  split
  · rename_i k hk
    have := (List.findIdx?_eq_some_iff_getElem.mp hk).1
    exact p2 k _ (by omega) (.pure (by decide +kernel) (by decide +kernel) (by decide +kernel) (by decide +kernel))
  · split
    · rename_i k hk
      have := (List.findIdx?_eq_some_iff_getElem.mp hk).1
      exact p2 k _ (by omega) (.pure (by decide +kernel) (by decide +kernel) (by decide +kernel) (by decide +kernel))
    · exact .pure (by decide +kernel) (by decide +kernel) (by decide +kernel) (by decide +kernel)
theorem worldJ_vl {l : Addr} {M : Mp} {names : Int} {es us : List (List Int)} {v : D} (h1 : es.length ≤ 4000) (h2 : us.length ≤ 4000) : Vl l M 1 100 (worldJ names es us v) := by
  unfold worldJ
  split
  · split
    · generalize areB _ _ _ = b
      cases b with
      | true => exact placJ_vl h1 h2
      | false =>
        rw [cond_false]
        exact .pure (by decide +kernel) (by decide +kernel) (by decide +kernel) (by decide +kernel)
    · exact .pure (by decide +kernel) (by decide +kernel) (by decide +kernel) (by decide +kernel)
  · exact .pure (by decide +kernel) (by decide +kernel) (by decide +kernel) (by decide +kernel)
theorem tabJ_cases (v : D) : tabJ v = .non ∨ ∃ ds, tabJ v = .tup ds := by
  unfold tabJ
  split
  · rename_i rows
    cases decide (1 ≤ ((rows.length : Nat) : Int)) && decide (((rows.length : Nat) : Int) ≤ 60) with
    | false => exact .inr ⟨_, rfl⟩
    | true =>
      simp only [cond_true]
      split
      · exact .inr ⟨_, rfl⟩
      · split
        · exact .inr ⟨_, rfl⟩
        · exact .inl rfl
  · exact .inr ⟨_, rfl⟩
end DL

/-! Dicts of the module; sorted keys of a dict. -/
namespace DL
open PySem PySem.Spec PyProof.Rows L2
section
variable {prog : Program} {w : World} {A : Around} {E : Value → Shared → Prop} {s : Shared} {T : String} {r d : Addr} {n : Nat} {P : Nat → Value → Prop} {OK : Heap → Prop}
/-- sorted of what gives whole numbers one by one -/
theorem sorted_src (K : PySem.W.KdlSrc prog w T r d n P OK) (hh : A.handled = none) (hok : OK s.heap) (hn : n ≤ sizeLine) (hP : ∀ i v, P i v → ∃ k t, v = Value.int k t) {R : Value → Shared → Prop}
    (fin : ∀ (h' : Heap) (tk : Nat) (acc : Array Value) (out : List Value), (∀ b o, s.heap.get? b = some o → h'.get? b = some o) → ItemsOf P acc n → SrtO.Srtd SrtO.ltIv out → SrtO.Stb SrtO.ltIv out acc.toList →
      R (.ref h'.objs.size) { s with heap := sortedHeap (h'.push (seqObj "list" acc.toList.toArray 0)) h'.objs.size acc.toList out.toArray, toks := tk }) :
    wpAny (model prog w) A (call (.builtin "sorted") [.ref r]) R E s := by
  refine Calls.call_function_entry kind_sorted plain_sorted entry_sorted (args_sorted1 _) ?_
  unfold Builtin.«sorted»
  refine wpAny_bind (m := checkCount "sorted" 1 1 _) (wpAny_pure ?_)
  refine wpAny_bind (PySem.W.kdu_collect (A := A.in1) K hh hok hn fun h' tk acc hk hacc => ?_)
  have hl : acc.toList.length = n := by rw [Array.length_toList]; exact hacc.1
  refine wpAny_bind (wpAny_newList ?_ (by rw [hl]; exact hn))
  have hall : ∀ v ∈ acc.toList, ∃ i t, v = Value.int i t := fun v hv => by
    obtain ⟨j, hj, rfl⟩ := List.getElem_of_mem hv
    exact hP j _ (hacc.2 j _ (by rw [← Array.getElem?_toList]; exact List.getElem?_eq_getElem hj))
  have hi := SrtO.ints_iv hall
  have e1 : (h'.push (seqObj "list" acc.toList.toArray 0)).get? h'.objs.size = some (seqObj "list" acc.toList.toArray 0) := Heap.get?_push_size _ rfl
  refine (show wpAny _ _ _ _ _ { s with heap := h'.push (seqObj "list" acc.toList.toArray 0), toks := tk } from ?_)
  refine wpAny_bind (wpAny_holding (wpAny_call_entry slot_list_sort ⟨_, e1, rfl⟩ entry_list_sort (SrtO.list_sort_ord SrtO.swo_int e1 (by rw [hl]; exact hn) (fun h2 => SrtO.ints_sortable hi h2) fun out h1 h2 => ⟨_, rfl, wpAny_pure ⟨_, rfl, fin h' tk acc out hk hacc h1 h2⟩⟩) (args_list_sort _)))
end
section
variable {X : Cx}
theorem cr_sortedDI (hc : X.calm = true) : CallR X (.builtin "sorted") (fun vs H Q => ∃ (a : Addr) (kvs : List (Key × V)) (ns : List Int), vs = [V.ref a] ∧ H a = some (.dK kvs) ∧ kvs.map (·.1) = ns.map Sum.inl ∧ ∀ (ns' : List Int) (p : Addr), ns'.Perm ns → ns'.Pairwise (· ≤ ·) → H p = none → Q (.ref p) (upd H p (.lst (ns'.map V.int)))) := by
  intro pins s σ H vs us Q I r h
  obtain ⟨a, kvs, ns, rfl, ha, hk, q⟩ := h
  obtain ⟨u, rfl, rx⟩ := r.one
  cases rx
  obtain ⟨hz, lo, vs, kv, hD⟩ := (show ObjOk X.prog X.w H s.heap a (.dK kvs) from I.hok _ _ ha)
  obtain ⟨ep, hat⟩ := hD.dictAt
  have hl : kvs.length = vs.length := Paired.length kv
  have hns : ns.length = kvs.length := by
    have := congrArg List.length hk
    simpa using this.symm
  have keys : ∀ (i : Nat) (k : Key) (x : Value), vs[i]? = some (k, x) → ∃ m, ns[i]? = some m ∧ k = .inl m := fun i k x e => by
    have h1 : i < vs.length := (List.getElem?_eq_some_iff.mp e).1
    have hkv : kvs[i]? = some kvs[i] := List.getElem?_eq_getElem (by omega)
    obtain ⟨u, hu, _⟩ := kv_get (k := kvs[i].1) (v := kvs[i].2) kv (by rw [hkv])
    rw [e] at hu
    have ek : k = kvs[i].1 := by
      have := Option.some.inj hu
      exact congrArg Prod.fst this
    have hni : ns[i]? = some ns[i] := List.getElem?_eq_getElem (by omega)
    refine ⟨ns[i], hni, ?_⟩
    have e2 : (kvs.map (·.1))[i]? = (ns.map Sum.inl)[i]? := by rw [hk]
    rw [List.getElem?_map, List.getElem?_map, hkv, hni] at e2
    rw [ek]
    exact Option.some.inj e2
  refine sorted_src (PySem.W.kdl_dict (knd := mixKind X.prog X.w) (kvs := vs) (ep := ep) lo) (I.ok.hd hc) hat (by omega) (fun i v ⟨k, x, e, ki⟩ => ?_) fun h' tk acc out kp hacc h1 h2 => ?_
  · obtain ⟨m, _, rfl⟩ := keys i k x e
    rcases keyIs_shape (show keyIs (.inl m) v = true from ki) with ⟨i, t, e1, e2⟩ | ⟨x, t, e1, e2⟩
    · exact ⟨i, t, e2⟩
    · cases e1
  have hlen : acc.toList.length = ns.length := by rw [Array.length_toList, hacc.1]; omega
  have hall : ∀ (j : Nat) (v : Value), acc.toList[j]? = some v → ∃ m t, ns[j]? = some m ∧ v = Value.int m t := fun j v e => by
    obtain ⟨k, x, e2, ki⟩ := hacc.2 j v (by rw [← Array.getElem?_toList]; exact e)
    obtain ⟨m, hm, rfl⟩ := keys j k x e2
    rcases keyIs_shape (show keyIs (.inl m) v = true from ki) with ⟨i, t, e1, e3⟩ | ⟨x, t, e1, e3⟩
    · cases e1
      exact ⟨m, t, hm, e3⟩
    · cases e1
  have hi : IntsAre acc.toList ns := by
    have h0 := SrtO.ints_iv (vs := acc.toList) fun v hv => by
      obtain ⟨j, hj, rfl⟩ := List.getElem_of_mem hv
      obtain ⟨m, t, _, e⟩ := hall j _ (List.getElem?_eq_getElem hj)
      exact ⟨m, t, e⟩
    have e : acc.toList.map SrtO.iv = ns := by
      apply List.ext_getElem?
      intro j
      rw [List.getElem?_map]
      cases hj : acc.toList[j]? with
      | none =>
        have := List.getElem?_eq_none_iff.mp hj
        rw [List.getElem?_eq_none (by omega)]
        rfl
      | some v =>
        obtain ⟨m, t, hm, e⟩ := hall j v hj
        rw [hm, e]
        rfl
    rw [e] at h0
    exact h0
  obtain ⟨k1, k2, k3⟩ := SrtO.ints_out hi h1 h2
  have hob : (h'.push (seqObj "list" acc.toList.toArray 0)).get? h'.objs.size = some (seqObj "list" acc.toList.toArray 0) := Heap.get?_push_size _ rfl
  obtain ⟨e', he'⟩ := sortedHeap_at (vs := acc.toList) (out := out.toArray) hob
  have fit : ((out.map SrtO.iv).map V.int).length ≤ sizeLine := by rw [List.length_map, k2.length_eq]; omega
  have hn0 : H h'.objs.size = none := (I.hok.kept kp).fresh (Nat.le_refl _)
  have hs0 : s.heap.get? h'.objs.size = none := by
    cases e : s.heap.get? h'.objs.size with
    | none => rfl
    | some o => exact absurd (Heap.lt_size (kp _ _ e)) (Nat.lt_irrefl _)
  have keep : ∀ b u, s.heap.get? b = some u → (sortedHeap (h'.push (seqObj "list" acc.toList.toArray 0)) h'.objs.size acc.toList out.toArray).get? b = some u := fun b u e => by
    have hlt := Heap.lt_size (kp _ _ e)
    rw [sortedHeap_old (Nat.ne_of_lt hlt) (by rw [size_push']; exact Nat.lt_succ_of_lt hlt)]
    exact Heap.get?_push_of_some _ (kp _ _ e)
  exact ⟨.ref _, _, I.laidN (t' := tk) (o := .lst ((out.map SrtO.iv).map V.int)) keep hs0 hn0 ⟨fit, out, e', vals_of_ints k1, he'⟩, rfl, q _ _ k2 k3 hn0⟩
/-- sorted(d), the keys whole numbers -/
def rSortDX : RCD := fun ds M Q => match ds with
  | [.ref p] => ∃ (kvs : List (Key × D)) (ns : List Int), M p = some (.dct kvs) ∧ kvs.map (·.1) = ns.map Sum.inl ∧ ∀ (ns' : List Int) (q : Addr), ns'.Perm ns → ns'.Pairwise (· ≤ ·) → M q = none → Q (.ref q) (updM M q (.lst (ns'.map D.int)))
  | _ => False
theorem keys_fz {K : PySem.W.Frag} {H : Hp} : ∀ {xs : List (Key × V)} {kvs : List (Key × D)}, KFz K H xs kvs → xs.map (·.1) = kvs.map (·.1)
  | _, _, .nil => rfl
  | _, _, .cons h t => by rw [List.map_cons, List.map_cons, keys_fz t, h.1]
theorem ca_sortedD (hc : X.calm = true) : CaR X (.builtin "sorted") rSortDX := by
  refine ⟨_, cr_sortedDI hc, ?_⟩
  intro H M vs ds Q' Q fs m h k
  unfold rSortDX at h
  split at h
  · obtain ⟨kvs, ns, hp, hk, q⟩ := h
    cases fs with
    | cons f t =>
      cases t
      cases f
      obtain ⟨xs, e, f⟩ := m.dct hp
      exact ⟨_, xs, ns, rfl, e, (keys_fz f).trans hk, fun ns' p hpm hpw hn => k.newLst m FzAll.of_ints (fun p' hp' => q ns' p' hpm hpw hp') hn⟩
  · exact h.elim
end
/-! ### a dict of the module, its keys texts -/
def KPl (K : PySem.W.Frag) (w : World) (mg : Str → Option Value) (x : Str) (kvs : List (Str × D)) : Prop :=
  ∃ (pd : Addr) (es : Array DictEntry) (n : Nat), mg x = some (.ref pd) ∧ K.lookup pd = some ⟨.type "dict", none, .dict es n, #[]⟩ ∧ PySem.W.KeysLit w.params es.toList ∧ (pd == sysModules) = false ∧
    Vals (kvs.map fun p => V.str p.1) (es.toList.map (·.key)) ∧ es.size ≤ sizeLine ∧ ∀ p ∈ kvs, ∃ u v, PySem.W.nsIn K pd p.1 = some (some u) ∧ RelV v u ∧ ∀ H, Fz K H v p.2
def lkD : List (Str × D) → Str → Option D
  | [], _ => none
  | (y, d) :: r, x => if x = y then some d else lkD r x
theorem lkD_mem : ∀ {kvs : List (Str × D)} {x : Str} {d : D}, lkD kvs x = some d → (x, d) ∈ kvs
  | (y, d') :: r, x, d, h => by
    unfold lkD at h
    split at h
    · rename_i e
      cases h
      rw [e]
      exact List.mem_cons_self
    · exact List.mem_cons_of_mem _ (lkD_mem h)
def dKix (kvs : List (Str × D)) (ti : TED) : TED := fun ρ M Q => ti ρ M fun d M1 => match d with
  | .str x => ixQ (lkD kvs x) M1 Q
  | _ => False
theorem de_kix {X : Cx} {x : Str} {i : Expr} {ti : TED} {p pos : Pos} {kvs : List (Str × D)} (c : KPl X.K X.w X.mg x kvs) (hg : Gl X x) (hi : DE X i ti) (hs : PlainIx i := by exact fun _ _ => rfl) (hd : (x == ("__debug__" : Str)) = false := by decide) :
    DE X (.Subscript (.Name x p) i pos) (dKix kvs ti) := by
  obtain ⟨pd, es, n, hm, hl, hk, lo, hv, hz, hx⟩ := c
  refine pe_weak (pe_ix ix_kdict (pe_glob hg hm (v := .ref pd) rfl hd) hi hs) fun σ H Q ⟨ρ, M, Q', r, m, h, k⟩ => ⟨ρ, M, _, r, m, h, fun v H1 d M1 f s q => ?_⟩
  cases d with
  | str z =>
    obtain ⟨d', e, q⟩ := ixQ_some q
    cases f
    obtain ⟨u, v, hu, rv, fv⟩ := hx _ (lkD_mem e)
    exact ⟨pd, z, v, rfl, rfl, ⟨es, n, u, hl, hk, hu, rv⟩, (k.after s).val s.mem (fv _) q⟩
  | _ => exact q.elim
def ItM (ks : List Str) : It := ⟨fun i _ => i < ks.length, fun i H x H' => H' = H ∧ ∃ k, ks[i]? = some k ∧ x = .str k, fun i _ => ks.length ≤ i⟩
theorem vals_at : ∀ {xs : List V} {us : List Value} {i : Nat} {u : Value}, Vals xs us → us[i]? = some u → ∃ x, xs[i]? = some x ∧ RelV x u
  | _, _, _, _, .nil, e => by simp at e
  | _, _, 0, _, .cons r _, e => by simp at e; subst e; exact ⟨_, rfl, r⟩
  | _, _, i + 1, u, .cons _ t, e => by
    obtain ⟨x, h1, h2⟩ := vals_at (i := i) (u := u) t (by simpa using e)
    exact ⟨x, by simpa using h1, h2⟩
section
variable {P : Program} {w : World} {K : PySem.W.Frag} {tg : Expr} {d : Addr} {es : Array DictEntry} {ep : Nat} {ks : List Str}
theorem turn_kd (it : Addr) (hl : K.lookup d = some ⟨.type "dict", none, .dict es ep, #[]⟩) (hv : Vals (ks.map V.str) (es.toList.map (·.key))) : Turn P w K tg (ItM ks) [it] it (fun i h => h.IsKeyIter it d i ks.length ep) where
  mem := by simp
  obj := fun i h st b hb => by
    have e : b = it := by simpa using hb
    subst e
    obtain ⟨oi, e, c, dd⟩ := st
    exact ⟨oi, e, fun v z => by rw [dd] at z; cases z⟩
  keep := fun i h h' st k => st.at fun oi e => k it (by simp) oi e
  item := by
    intro X hP hw hK hc i pins s σ H E I hf st hi
    subst hP hw hK
    obtain ⟨f0, f1, f2, f3, f4, f5⟩ := hf it (by simp)
    have hsz : es.size = ks.length := by
      have := hv.length
      simpa using this.symm
    have hi : i < ks.length := hi
    have hx : es[i]? = some es[i] := Array.getElem?_eq_getElem (by omega)
    have hkey : (es.toList.map (·.key))[i]? = some es[i].key := by rw [List.getElem?_map, Array.getElem?_toList, hx]; rfl
    obtain ⟨x, hx1, rx⟩ := vals_at hv hkey
    rw [List.getElem?_map, List.getElem?_eq_getElem hi] at hx1
    obtain rfl : V.str ks[i] = x := Option.some.inj hx1
    refine next_key_item st (I.kIn _ _ hl) rfl hsz hx fun h' st' sb => ?_
    have I1 : Inv X pins σ H { s with heap := h' } := I.turned (t' := s.toks) (fun b ob hb e => (sb.2 b hb).trans e) f0 f1 f3 f4 f5
    obtain ⟨oi, e, c, dd⟩ := id st'
    exact ⟨es[i].key, rfl, go_of (s := { s with heap := h' }) e c dd (by decide) ⟨.str ks[i], H, I1, rx, ⟨rfl, ks[i], List.getElem?_eq_getElem hi, rfl⟩, st', fun b hb => (hf b hb).1⟩⟩
  done := by
    intro X hP hw hK hc i pins s σ H E I hf st hi
    subst hP hw hK
    obtain ⟨f0, f1, f2, f3, f4, f5⟩ := hf it (by simp)
    have hsz : es.size = ks.length := by
      have := hv.length
      simpa using this.symm
    have hi : ks.length ≤ i := hi
    refine next_key_end (I.ok.hd hc) st (I.kIn _ _ hl) rfl hsz hi fun h' he' => ⟨rfl, I.turned (t' := s.toks) (fun b ob hb e => he' b ob hb e) f0 f1 f3 f4 f5⟩
  self := fun A i s Q E st h => wpAny_pyIter_keyiter st h
end
def iKd (ks : List Str) : TI := fun σ H R => R (ItM ks) H
theorem pi_kd {X : Cx} {tg : Expr} {x : Str} {p : Pos} {d : Addr} {es : Array DictEntry} {ep : Nat} {ks : List Str} (hg : Gl X x) (hm : X.mg x = some (.ref d)) (hl : X.K.lookup d = some ⟨.type "dict", none, .dict es ep, #[]⟩) (lo : (d == sysModules) = false)
    (hv : Vals (ks.map V.str) (es.toList.map (·.key))) (hd : (x == ("__debug__" : Str)) = false := by decide) : PI X tg (.Name x p) (iKd ks) := by
  refine ⟨fun pins s σ H R I h => ?_⟩
  refine ld_glob I hg hm ?_ hd
  have hsz : es.size = ks.length := by
    have := hv.length
    simpa using this.symm
  refine iter_keys lo (I.kIn _ _ hl) ⟨rfl, rfl, rfl⟩ rfl (pi_one (tk := s.toks) I _ (turn_kd _ hl hv) ⟨_, Heap.get?_push_size _ rfl, rfl, ?_⟩ h)
  rw [hsz]
  rfl
def diK (ks : List Str) : TID := fun _ M Q => Q ks.length (yL (ks.map D.str)) (fun _ => True) M
theorem di_kd {X : Cx} {tg : Expr} {x : Str} {p : Pos} {kvs : List (Str × D)} (c : KPl X.K X.w X.mg x kvs) (hg : Gl X x) (hd : (x == ("__debug__" : Str)) = false := by decide) : DI X tg (.Name x p) (diK (kvs.map (·.1))) := by
  obtain ⟨pd, es, n, hm, hl, hk, lo, hv, hz, hx⟩ := c
  rw [show (kvs.map fun p => V.str p.1) = (kvs.map (·.1)).map V.str by rw [List.map_map]; rfl] at hv
  refine pi_weak (pi_kd hg hm hl lo hv hd) fun σ H R ⟨ρ, M, Q', r, m, h, k⟩ => ?_
  refine k _ _ _ H M _ (.refl m) ?_ h
  refine ⟨fun i H hi _ => hi, fun H _ => Nat.le_refl _, fun i H x H' hi _ y => ?_⟩
  obtain ⟨rfl, kk, e, rfl⟩ := y
  exact ⟨fun M mm => .refl mm, .str kk, .str kk, by unfold yL; rw [List.getElem?_map, e]; rfl⟩
end DL

/-! Formulas turned. -/
namespace DL
open PySem L2
def plcs : List (Str × D) := [("with", dI [0, 1, 2]), ("behind", dI [0, 2, 1]), ("ahead", dI [1, 2, 0])]
def plcI (x : Str) : List Int := if x = "with" then [0, 1, 2] else if x = "behind" then [0, 2, 1] else [1, 2, 0]
theorem plc_with : plcI "with" = [0, 1, 2] := if_pos rfl
theorem plc_behind : plcI "behind" = [0, 2, 1] := by
  unfold plcI
  rw [if_neg str_ne1, if_pos rfl]
theorem plc_ahead : plcI "ahead" = [1, 2, 0] := by
  unfold plcI
  rw [if_neg str_ne2, if_neg str_ne3]
theorem lk_plc {x : Str} (hx : isW x) : lkD plcs x = some (dI (plcI x)) := by
  rcases hx with rfl | rfl | rfl
  · rw [plc_with]
    exact if_pos rfl
  · rw [plc_behind]
    show (if ("behind" : Str) = "with" then _ else if ("behind" : Str) = "behind" then _ else _) = _
    rw [if_neg str_ne1, if_pos rfl]
  · rw [plc_ahead]
    show (if ("ahead" : Str) = "with" then _ else if ("ahead" : Str) = "behind" then _ else if ("ahead" : Str) = "ahead" then _ else _) = _
    rw [if_neg str_ne2, if_neg str_ne3, if_pos rfl]
def nmW (i j : Int) : Str := if i = 0 then (if j = 1 then "with" else "behind") else "ahead"
def ixW (w : List Int) (k : Int) : Int := (w.idxOf k : Nat)
def trnW (w : List Int) (x : Str) (a b : D) : D :=
  if ixW w (at0 (plcI x) 0) < ixW w (at0 (plcI x) 1) then .tup [.str (nmW (ixW w (at0 (plcI x) 0)) (ixW w (at0 (plcI x) 1))), a, b] else .tup [.str (nmW (ixW w (at0 (plcI x) 1)) (ixW w (at0 (plcI x) 0))), b, a]
/-- a formula turned -/
def trnD (w : List Int) : Nat → D → D
  | n + 1, .tup [.str x, a, b] => trnW w x (trnD w n a) (trnD w n b)
  | _, d => d
def szF : Nat → D → Int
  | n + 1, .tup [.str _, a, b] => 1 + szF n a + szF n b
  | _, _ => 1
theorem szF_int {n : Nat} {i : Int} : szF n (.int i) = 1 := by cases n <;> rfl
theorem trnD_int {w : List Int} {n : Nat} {i : Int} : trnD w n (.int i) = .int i := by cases n <;> rfl
theorem isW_nm (i j : Int) : isW (nmW i j) := by
  unfold nmW
  split
  · split
    · exact .inl rfl
    · exact .inr (.inl rfl)
  · exact .inr (.inr rfl)
theorem trnW_cases (w : List Int) (x : Str) (a b : D) : ∃ y, isW y ∧ (trnW w x a b = .tup [.str y, a, b] ∨ trnW w x a b = .tup [.str y, b, a]) := by
  unfold trnW
  split
  · exact ⟨_, isW_nm _ _, .inl rfl⟩
  · exact ⟨_, isW_nm _ _, .inr rfl⟩
theorem trnD_fo {w : List Int} {names : Int} : ∀ {n : Nat} {d : D}, Fo names n d → Fo names n (trnD w n d) ∧ szF n (trnD w n d) = szF n d
  | 0, _, ⟨i, e, h0, h1⟩ => by subst e; exact ⟨⟨i, rfl, h0, h1⟩, rfl⟩
  | n + 1, _, .inl ⟨i, e, h0, h1⟩ => by subst e; exact ⟨.inl ⟨i, rfl, h0, h1⟩, rfl⟩
  | n + 1, _, .inr ⟨x, a, b, e, hx, ha, hb⟩ => by
    subst e
    obtain ⟨fa, sa⟩ := trnD_fo (w := w) ha
    obtain ⟨fb, sb⟩ := trnD_fo (w := w) hb
    obtain ⟨y, hy, e | e⟩ := trnW_cases w x (trnD w n a) (trnD w n b)
    · show Fo names (n + 1) (trnW w x (trnD w n a) (trnD w n b)) ∧ szF (n + 1) (trnW w x (trnD w n a) (trnD w n b)) = 1 + szF n a + szF n b
      rw [e]
      exact ⟨.inr ⟨y, _, _, rfl, hy, fa, fb⟩, by show 1 + szF n _ + szF n _ = _; rw [sa, sb]⟩
    · show Fo names (n + 1) (trnW w x (trnD w n a) (trnD w n b)) ∧ szF (n + 1) (trnW w x (trnD w n a) (trnD w n b)) = 1 + szF n a + szF n b
      rw [e]
      exact ⟨.inr ⟨y, _, _, rfl, hy, fb, fa⟩, by show 1 + szF n _ + szF n _ = _; rw [sa, sb]; omega⟩
theorem trnD_id {names : Int} : ∀ {n : Nat} {d : D}, Fo names n d → trnD [0, 1, 2] n d = d
  | 0, _, ⟨i, e, h0, h1⟩ => by subst e; rfl
  | n + 1, _, .inl ⟨i, e, h0, h1⟩ => by subst e; rfl
  | n + 1, _, .inr ⟨x, a, b, e, hx, ha, hb⟩ => by
    subst e
    show trnW [0, 1, 2] x (trnD [0, 1, 2] n a) (trnD [0, 1, 2] n b) = _
    rw [trnD_id ha, trnD_id hb]
    unfold trnW
    rcases hx with rfl | rfl | rfl
    · rw [plc_with]; rfl
    · rw [plc_behind]; rfl
    · rw [plc_ahead]; rfl
theorem sort2 {ns : List Int} {i j : Int} (hp : ns.Perm [i, j]) (hs : ns.Pairwise (· ≤ ·)) (h : i < j) : ns = [i, j] := by
  have hl := hp.length_eq
  match ns, hl with
  | [a, b], _ =>
    have hab : a ≤ b := (List.pairwise_cons.mp hs).1 b (by simp)
    have h1 : i ∈ [a, b] := hp.mem_iff.mpr (by simp)
    have h2 : j ∈ [a, b] := hp.mem_iff.mpr (by simp)
    have h3 : a ∈ [i, j] := hp.mem_iff.mp (by simp)
    have h4 : b ∈ [i, j] := hp.mem_iff.mp (by simp)
    simp only [List.mem_cons, List.not_mem_nil, or_false] at h1 h2 h3 h4
    have ha : a = i := by omega
    have hb : b = j := by omega
    rw [ha, hb]
/-- widths of drawn formulas, and of those made long -/
theorem Fo.vl {names : Int} (hn : names ≤ 4000) {l : Addr} {M : Mp} : ∀ {n : Nat} {d : D}, Fo names n d → ∃ w : Nat, (w : Int) ≤ 26 * szF n d ∧ Vl l M n w d
  | 0, _, ⟨i, e, h0, h1⟩ => by subst e; exact ⟨13, by simp [szF], Vl.int (by omega)⟩
  | n + 1, _, .inl ⟨i, e, h0, h1⟩ => by subst e; exact ⟨13, by simp [szF], (Vl.int (by omega)).mono (by omega) (by omega)⟩
  | n + 1, _, .inr ⟨x, a, b, e, hx, ha, hb⟩ => by
    subst e
    obtain ⟨wa, h1, va⟩ := Fo.vl hn (l := l) (M := M) ha
    obtain ⟨wb, h2, vb⟩ := Fo.vl hn (l := l) (M := M) hb
    refine ⟨wa + wb + 25, ?_, ?_⟩
    · show ((wa + wb + 25 : Nat) : Int) ≤ 26 * (1 + szF n a + szF n b)
      omega
    · have vx : Vl l M n 8 (.str x) := by
        rcases hx with rfl | rfl | rfl
        · exact Vl.mono (Vl.pure (n := 0) (w := 8) (by decide +kernel) (by decide +kernel) (by decide +kernel) (by decide +kernel)) (Nat.zero_le _) (Nat.le_refl _)
        · exact Vl.mono (Vl.pure (n := 0) (w := 8) (by decide +kernel) (by decide +kernel) (by decide +kernel) (by decide +kernel)) (Nat.zero_le _) (Nat.le_refl _)
        · exact Vl.mono (Vl.pure (n := 0) (w := 8) (by decide +kernel) (by decide +kernel) (by decide +kernel) (by decide +kernel)) (Nat.zero_le _) (Nat.le_refl _)
      exact Vl.tri (n := n) (w0 := 8) (w1 := wa) (w2 := wb) vx va vb (by omega)
theorem ways_ix {w : List Int} (hw : IsWay w) {x : Str} (hx : isW x) : ∃ i j k : Int, ixW w (at0 (plcI x) 0) = i ∧ ixW w (at0 (plcI x) 1) = j ∧ ixW w (at0 (plcI x) 2) = k ∧ (0 ≤ i ∧ i < 3) ∧ (0 ≤ j ∧ j < 3) ∧ (0 ≤ k ∧ k < 3) ∧ i ≠ j ∧ i ≠ k ∧ j ≠ k := by
  rcases hx with rfl | rfl | rfl
  · rw [plc_with]
    rcases hw with rfl | rfl | rfl | rfl | rfl | rfl <;> exact ⟨_, _, _, rfl, rfl, rfl, by decide, by decide, by decide, by decide, by decide, by decide⟩
  · rw [plc_behind]
    rcases hw with rfl | rfl | rfl | rfl | rfl | rfl <;> exact ⟨_, _, _, rfl, rfl, rfl, by decide, by decide, by decide, by decide, by decide, by decide⟩
  · rw [plc_ahead]
    rcases hw with rfl | rfl | rfl | rfl | rfl | rfl <;> exact ⟨_, _, _, rfl, rfl, rfl, by decide, by decide, by decide, by decide, by decide, by decide⟩
theorem plc_in {x : Str} (hx : isW x) : ∃ a b c : Int, plcI x = [a, b, c] ∧ (0 ≤ a ∧ a < 3) ∧ (0 ≤ b ∧ b < 3) ∧ (0 ≤ c ∧ c < 3) := by
  rcases hx with rfl | rfl | rfl
  · exact ⟨_, _, _, plc_with, by decide, by decide, by decide⟩
  · exact ⟨_, _, _, plc_behind, by decide, by decide, by decide⟩
  · exact ⟨_, _, _, plc_ahead, by decide, by decide, by decide⟩
theorem two_keys {i j : Int} (h : i ≠ j) (a b : D) : mergeD [] [(.inl i, a), (.inl j, b)] = [(Sum.inl i, a), (Sum.inl j, b)] := by
  have : ¬ (Sum.inl i : Key) = Sum.inl j := fun e => h (Sum.inl.inj e)
  simp [mergeD, putD, this]
theorem val_i {i j : Int} {a b : D} : valD [(Sum.inl i, a), (Sum.inl j, b)] (Sum.inl i : Key) = some a := by simp [valD]
theorem val_j {i j : Int} (h : i ≠ j) {a b : D} : valD [(Sum.inl i, a), (Sum.inl j, b)] (Sum.inl j : Key) = some b := by
  have : ¬ (Sum.inl i : Key) = Sum.inl j := fun e => h (Sum.inl.inj e)
  simp [valD, this]
theorem flt_nm {lo hi : Int} (h : lo = 0 ∧ hi = 1 ∨ lo = 0 ∧ hi = 2 ∨ lo = 1 ∧ hi = 2) : (([("with" : Str), "behind", "ahead"]).filter fun nm => decide ((plcI nm).take 2 = [lo, hi])) = [nmW lo hi] := by
  simp only [List.filter, plc_with, plc_behind, plc_ahead]
  rcases h with ⟨rfl, rfl⟩ | ⟨rfl, rfl⟩ | ⟨rfl, rfl⟩ <;> rfl
theorem way_in {w : List Int} (hw : IsWay w) {k : Int} (h : 0 ≤ k ∧ k < 3) : k ∈ w := way_mem hw h.1 h.2
theorem Fo.names {a b : Int} (h : a ≤ b) : ∀ {n : Nat} {d : D}, Fo a n d → Fo b n d
  | 0, _, ⟨i, e, h0, h1⟩ => ⟨i, e, h0, by omega⟩
  | n + 1, _, .inl ⟨i, e, h0, h1⟩ => .inl ⟨i, e, h0, by omega⟩
  | n + 1, _, .inr ⟨x, a', b', e, hx, ha, hb⟩ => .inr ⟨x, a', b', e, hx, ha.names h, hb.names h⟩
theorem szF_le {names : Int} : ∀ {n : Nat} {d : D}, Fo names n d → szF n d ≤ 2 ^ (n + 1) - 1
  | 0, _, ⟨i, e, h0, h1⟩ => by subst e; rw [szF_int]; decide
  | n + 1, _, .inl ⟨i, e, h0, h1⟩ => by
    subst e
    rw [szF_int, Int.pow_succ, Int.pow_succ]
    have : 0 < (2 : Int) ^ n := Int.pow_pos (by decide)
    omega
  | n + 1, _, .inr ⟨x, a, b, e, hx, ha, hb⟩ => by
    subst e
    have h1 := szF_le ha
    have h2 := szF_le hb
    show 1 + szF n a + szF n b ≤ _
    rw [Int.pow_succ (2 : Int) (n + 1)]
    omega
theorem Fo.upn {names : Int} {n : Nat} {d : D} (h : Fo names n d) : ∀ k, Fo names (n + k) d
  | 0 => h
  | k + 1 => (h.upn k).up
theorem szF_up {names : Int} : ∀ {n : Nat} {d : D}, Fo names n d → szF (n + 1) d = szF n d
  | 0, _, ⟨i, e, h0, h1⟩ => by subst e; rfl
  | n + 1, _, .inl ⟨i, e, h0, h1⟩ => by subst e; rfl
  | n + 1, _, .inr ⟨x, a, b, e, hx, ha, hb⟩ => by
    subst e
    show 1 + szF (n + 1) a + szF (n + 1) b = 1 + szF n a + szF n b
    rw [szF_up ha, szF_up hb]
theorem szF_upn {names : Int} {n : Nat} {d : D} (h : Fo names n d) : ∀ k, szF (n + k) d = szF n d
  | 0 => rfl
  | k + 1 => (szF_up (h.upn k)).trans (szF_upn h k)
end DL

/-! Texts: the rules; a source of numbers that is a dict. -/
namespace DL
open PySem PySem.Spec PyProof.Rows L2
/-! ### the source of numbers -/
structure Dk (M : Mp) (l pc : Addr) (T : Nat) : Prop where
  ex : ∃ (cells : List Int) (t g : Int), M l = some (.dct [(.inr "cells", .ref pc), (.inr "turn", .int t), (.inr "great", .int g)]) ∧ M pc = some (.lst (cells.map D.int)) ∧ 0 < cells.length ∧ cells.length ≤ 100 ∧ 0 ≤ t ∧ t ≤ (T : Int)
theorem Dk.ne {M : Mp} {l pc : Addr} {T : Nat} (h : Dk M l pc T) : pc ≠ l := by
  obtain ⟨c, t, g, e1, e2, _⟩ := h.ex
  intro e
  rw [e, e1] at e2
  cases e2
theorem Dk.up {M : Mp} {l pc : Addr} {T T' : Nat} (h : Dk M l pc T) (hT : T ≤ T') : Dk M l pc T' := by
  obtain ⟨c, t, g, e1, e2, h1, h2, h3, h4⟩ := h.ex
  exact ⟨c, t, g, e1, e2, h1, h2, h3, by omega⟩
theorem Dk.keep {M M' : Mp} {l pc : Addr} {T : Nat} (h : Dk M l pc T) (k : Keep M M') : Dk M' l pc T := by
  obtain ⟨c, t, g, e1, e2, r⟩ := h.ex
  exact ⟨c, t, g, k _ _ e1, k _ _ e2, r⟩
theorem Dk.new {M : Mp} {l pc p : Addr} {T : Nat} {o : MO} (h : Dk M l pc T) (hp : M p = none) : Dk (updM M p o) l pc T := h.keep (Keep.new hp)
theorem Dk.nl {M : Mp} {l pc p : Addr} {T : Nat} (h : Dk M l pc T) (hp : M p = none) : p ≠ l := by
  obtain ⟨c, t, g, e1, _⟩ := h.ex
  exact Ne.symm (ne_none e1 hp)
/-- draws: T bounds the turns ahead and behind -/
structure Dg (l pc : Addr) (M : Mp) (T' : Nat) (M' : Mp) : Prop where
  dk : Dk M' l pc T'
  ext : Ext l M M'
theorem Dg.refl {l pc : Addr} {M : Mp} {T : Nat} (h : Dk M l pc T) : Dg l pc M T M := ⟨h, .refl⟩
theorem Dg.trans {l pc : Addr} {M M1 M2 : Mp} {T1 T2 : Nat} (a : Dg l pc M T1 M1) (b : Dg l pc M1 T2 M2) : Dg l pc M T2 M2 := ⟨b.dk, a.ext.trans b.ext⟩
theorem Dg.keep {l pc : Addr} {M M1 M2 : Mp} {T : Nat} (a : Dg l pc M T M1) (k : Keep M1 M2) : Dg l pc M T M2 := ⟨a.dk.keep k, a.ext.trans k.ext⟩
theorem Dg.up {l pc : Addr} {M M1 : Mp} {T T' : Nat} (a : Dg l pc M T M1) (h : T ≤ T') : Dg l pc M T' M1 := ⟨a.dk.up h, a.ext⟩
theorem upd_dk {M M1 M0 : Mp} {p l pc : Addr} {T : Nat} {o : MO} (h : M p = none) (e : updM M p o = M1) (G : Dg l pc M0 T M) : M1 p = some o ∧ p ≠ l ∧ Dg l pc M0 T M1 ∧ Keep M M1 := by
  subst e
  exact ⟨updM_same, G.dk.nl h, G.keep (Keep.new h), Keep.new h⟩
/-! ### texts -/
section
variable {X : Cx} {o e : Expr} {to te : TED} {apos pos : Pos}
/-- a method of a text, one argument -/
def dS1 (r : Str → D → Mp → KD → Prop) (to te : TED) : TED := fun ρ M Q => to ρ M fun d M1 => match d with
  | .str a => te ρ M1 fun y M2 => r a y M2 Q
  | _ => False
def rSplitX : Str → D → Mp → KD → Prop := fun a y M Q => match y with
  | .str b => (b.length == 0) = false ∧ a.length + 2 ≤ sizeLine ∧ ∀ p, M p = none → Q (.ref p) (updM M p (.lst ((Txt.split a b).map D.str)))
  | _ => False
theorem strs_fz {K : PySem.W.Frag} {H : Hp} : ∀ {ys : List Str}, FzAll K H (ys.map V.str) (ys.map D.str)
  | [] => .nil
  | _ :: _ => .cons (.str _) strs_fz
theorem de_split (ho : DE X o to) (he : DE X e te) (hs : starEach [e] X.env = [(false, eval e X.env)] := by rfl) (hbase : attributeBase o "split" X.env (eval o X.env) = eval o X.env := by rfl) (hline : (apos.endLine == pos.line) = true := by rfl) :
    DE X (.Call (.Attribute o "split" apos) [e] [] pos) (dS1 rSplitX to te) :=
  pe_weak (pe_split ho he hs hbase hline) fun σ H Q ⟨ρ, M, Q', r, m, h, k⟩ => ⟨ρ, M, _, r, m, h, fun v H1 d M1 f s q => by
    cases d with
    | str a =>
      cases f
      refine ⟨⟨a, rfl⟩, ρ, M1, _, r.up s.tups, s.mem, q, fun v2 H2 d2 M2 f2 s2 q2 => ?_⟩
      cases d2 with
      | str b =>
        cases f2
        obtain ⟨h1, h2, h3⟩ := q2
        exact ⟨a, b, rfl, rfl, h1, h2, fun p hp => ((k.after s).after s2).newLst s2.mem strs_fz h3 hp⟩
      | _ => exact q2.elim
    | _ => exact q.elim⟩
def rJoinX : Str → D → Mp → KD → Prop := fun a y M Q => match y with
  | .ref p => ∃ ys : List Str, M p = some (.lst (ys.map D.str)) ∧ (ys.map (·.length)).sum + ys.length * a.length ≤ 16777216 ∧ Q (.str (Txt.join a ys)) M
  | .tup xs => ∃ ys : List Str, xs = ys.map D.str ∧ (ys.map (·.length)).sum + ys.length * a.length ≤ 16777216 ∧ Q (.str (Txt.join a ys)) M
  | _ => False
theorem de_joinS (ho : DE X o to) (he : DE X e te) (hs : starEach [e] X.env = [(false, eval e X.env)] := by rfl) (hbase : attributeBase o "join" X.env (eval o X.env) = eval o X.env := by rfl) (hline : (apos.endLine == pos.line) = true := by rfl) :
    DE X (.Call (.Attribute o "join" apos) [e] [] pos) (dS1 rJoinX to te) :=
  pe_weak (pe_join ho he hs hbase hline) fun σ H Q ⟨ρ, M, Q', r, m, h, k⟩ => ⟨ρ, M, _, r, m, h, fun v H1 d M1 f s q => by
    cases d with
    | str a =>
      cases f
      refine ⟨⟨a, rfl⟩, ρ, M1, _, r.up s.tups, s.mem, q, fun v2 H2 d2 M2 f2 s2 q2 => ?_⟩
      cases d2 with
      | ref p =>
        cases f2
        obtain ⟨ys, hp, h1, h2⟩ := q2
        obtain ⟨xs, e0, g⟩ := s2.mem.lst hp
        rw [g.strs] at e0
        exact ⟨a, p, ys, rfl, rfl, .inl (.of e0), h1, ((k.after s).after s2).val s2.mem (.str _) h2⟩
      | tup xs =>
        obtain ⟨ys, rfl, h1, h2⟩ := q2
        cases f2 with
        | tup hs g =>
          rw [g.strs] at hs
          exact ⟨a, _, ys, rfl, rfl, .inr hs.t, h1, ((k.after s).after s2).val s2.mem (.str _) h2⟩
      | _ => exact q2.elim
    | _ => exact q.elim⟩
/-- str(i) -/
def rStrX : RCD := fun ds M Q => match ds with
  | [.int i] => i.natAbs.log2 < 1920 ∧ Q (.str (toString i)) M
  | _ => False
theorem ca_strI : CaR X (.type "str") rStrX := by
  refine ⟨_, call_str_int, ?_⟩
  intro H M vs ds Q' Q fs m h k
  unfold rStrX at h
  split at h
  · cases fs with
    | cons f t =>
      cases t
      cases f
      exact ⟨_, rfl, h.1, k.val m (.str _) h.2⟩
  · exact h.elim
/-- int(text) -/
def rIntS : RCD := fun ds M Q => match ds with
  | [.str a] => ∃ n, PySem.intText? a = some n ∧ a.length ≤ 640 ∧ Q (.int n) M
  | _ => False
theorem ca_intS : CaR X (.type "int") rIntS := by
  refine ⟨_, call_int_str, ?_⟩
  intro H M vs ds Q' Q fs m h k
  unfold rIntS at h
  split at h
  · obtain ⟨n, h1, h2, h3⟩ := h
    cases fs with
    | cons f t =>
      cases t
      cases f
      exact ⟨_, n, rfl, h1, h2, k.val m (.int _) h3⟩
  · exact h.elim
/-- text * n -/
def rMulS : R2D := fun x y M Q => match x, y with
  | .str a, .int n => 0 ≤ n ∧ n ≤ 100 ∧ a.length ≤ 100 ∧ Q (.str (Txt.mul a n)) M
  | _, _ => False
theorem op_mulS : OpR X (binaryOp .Mult) (fun x y H Q => ∃ a n, x = .str a ∧ y = .int n ∧ 0 ≤ n ∧ n ≤ 100 ∧ a.length ≤ 100 ∧ Q (.str (Txt.mul a n)) H) := by
  intro pins s σ H x y v u Q I rx ry h
  obtain ⟨a, n, rfl, rfl, h0, h1, h2, q⟩ := h
  obtain ⟨t, rfl⟩ := rx
  obtain ⟨t', rfl⟩ := ry
  refine PySem.SB.mul ⟨?_, fun h3 _ => ?_, fun h3 _ => ?_⟩ fun t' k => ⟨.str _, H, I.tok _, ⟨_, rfl⟩, q⟩
  · rw [decide_eq_false (by omega), decide_eq_false (by omega)]; rfl
  · have : ((2 : Int) ^ 63 - 1) / n ≥ 100 := by
      have hn : n = 1 ∨ 1 < n := by omega
      refine Int.le_ediv_of_mul_le (by omega) ?_
      have : (100 : Int) * n ≤ 100 * 100 := Int.mul_le_mul_of_nonneg_left h1 (by decide)
      omega
    omega
  · have : a.length * n.toNat ≤ 100 * 100 := Nat.mul_le_mul h2 (by omega)
    have hz : sizeLine = 16777216 := rfl
    unfold PySem.Builtin.Str.tooLong
    simp
    omega
theorem br_mulS : BR X .Mult rMulS := by
  refine ⟨_, op_mulS, ?_⟩
  intro H M vx vy x y Q' Q fx fy m h k
  unfold rMulS at h
  split at h
  · cases fx
    cases fy
    obtain ⟨h0, h1, h2, q⟩ := h
    exact ⟨_, _, rfl, rfl, h0, h1, h2, k.val m (.str _) q⟩
  · exact h.elim
/-- a sign in a text -/
def rInS (neg : Bool) : R2D := fun x y M Q => match x, y with
  | .str a, .str z => ∃ c, a = ⟨#[c]⟩ ∧ Q (.bl (sg neg (decide (c ∈ z.cps.toList)))) M
  | _, _ => False
theorem cr_inS : CR X .In (rInS false) := by
  refine ⟨_, op_in_sign, ?_⟩
  intro H M vx vy x y Q' Q fx fy m h k
  unfold rInS at h
  split at h
  · cases fx
    cases fy
    obtain ⟨c, rfl, q⟩ := h
    exact ⟨c, _, rfl, rfl, k.val m (.bl _) q⟩
  · exact h.elim
theorem cr_notinS : CR X .NotIn (rInS true) := by
  refine ⟨_, op_notIn_sign, ?_⟩
  intro H M vx vy x y Q' Q fx fy m h k
  unfold rInS at h
  split at h
  · cases fx
    cases fy
    obtain ⟨c, rfl, q⟩ := h
    exact ⟨c, _, rfl, rfl, k.val m (.bl _) q⟩
  · exact h.elim
/-- for c in text -/
def yS (z : Str) : Nat → D → Prop := fun i d => ∃ c, z.cps[i]? = some c ∧ d = .str ⟨#[c]⟩
def diStr (te : TED) : TID := fun ρ M Q => te ρ M fun d M1 => match d with
  | .str z => Q z.cps.size (yS z) (fun _ => True) M1
  | _ => False
theorem di_str {tg : Expr} (he : DE X e te) : DI X tg e (diStr te) := by
  refine pi_weak (pi_str he) fun σ H R ⟨ρ, M, Q', r, m, h, k⟩ => ⟨ρ, M, _, r, m, h, fun v H1 d M1 f s q => ?_⟩
  cases d with
  | str z =>
    cases f
    refine ⟨z, rfl, k _ _ _ _ M1 _ s ?_ q⟩
    have w := walk_str (z := z)
    refine ⟨fun i H hi _ => w.goes i H hi trivial, fun H _ => w.stops H trivial, fun i H x H' hi _ y => ?_⟩
    obtain ⟨rfl, c, e, rfl⟩ := w.yields i H x H' hi trivial y
    exact ⟨fun M mm => .refl mm, .str ⟨#[c]⟩, .str _, c, e, rfl⟩
  | _ => exact q.elim
/-- a statement that is never come to -/
theorem ds_no {st : Stmt} : DS X st (fun _ _ _ => False) := ⟨fun pins s σ H E I ⟨_, _, _, _, _, z, _⟩ => z.elim⟩
end
end DL

/-! Words of texts. -/
namespace DL
open PySem L2
def blk (L : List Nat) : List (List Nat) := (TL.spl [32] 0 [] L).filter fun l => !l.isEmpty
theorem spl_cat : ∀ (A B acc : List Nat), TL.spl [32] 0 acc (A ++ 32 :: B) = TL.spl [32] 0 acc A ++ TL.spl [32] 0 [] B
  | [], B, acc => by
    rw [List.nil_append, TL.spl_hit (by simp [TL.pre]), TL.spl_nil]
    rfl
  | c :: A, B, acc => by
    rw [List.cons_append]
    by_cases hc : c = 32
    · subst hc
      rw [TL.spl_hit (by simp [TL.pre]), TL.spl_hit (by simp [TL.pre])]
      show acc :: TL.spl [32] 0 [] (A ++ 32 :: B) = (acc :: TL.spl [32] 0 [] A) ++ TL.spl [32] 0 [] B
      rw [spl_cat A B []]
      rfl
    · have h1 : TL.pre [32] (c :: (A ++ 32 :: B)) = false := by simp [TL.pre, hc]
      have h2 : TL.pre [32] (c :: A) = false := by simp [TL.pre, hc]
      rw [TL.spl_miss h1, TL.spl_miss h2, spl_cat A B (acc ++ [c])]
theorem blk_cat (A B : List Nat) : blk (A ++ 32 :: B) = blk A ++ blk B := by
  unfold blk
  rw [spl_cat, List.filter_append]
theorem blk_word {w : List Nat} (h : w ≠ []) (hw : 32 ∉ w) : blk w = [w] := by
  unfold blk
  rw [TL.spl_last1 hw, List.nil_append]
  cases w with
  | nil => exact absurd rfl h
  | cons a w => rfl
theorem blk_nil : blk [] = [] := rfl
theorem blk_rep : ∀ k : Nat, blk (List.replicate k 32) = []
  | 0 => rfl
  | k + 1 => by
    have := blk_cat [] (List.replicate k 32)
    rw [List.nil_append] at this
    rw [List.replicate_succ, this, blk_rep k]
    rfl
theorem blk_tail (w : List Nat) : ∀ k : Nat, blk (w ++ List.replicate k 32) = blk w
  | 0 => by rw [List.replicate_zero, List.append_nil]
  | k + 1 => by rw [List.replicate_succ, blk_cat, blk_rep, List.append_nil]
/-- the words of a line -/
def wds (a : Str) : List Str := (Txt.split a " ").filter fun w => !decide (w = "")
theorem tl_blank : TL.tl (" " : Str) = [32] := rfl
theorem str_empty {w : Str} : decide (w = "") = (TL.tl w).isEmpty := by
  by_cases h : w = ""
  · subst h; rfl
  · rw [decide_eq_false h]
    cases e : TL.tl w with
    | nil => exact absurd (TL.ext_tl (y := "") (e.trans rfl)) h
    | cons _ _ => rfl
theorem wds_tl (a : Str) : (wds a).map TL.tl = blk (TL.tl a) := by
  unfold wds blk
  rw [← tl_blank, ← TL.split_spl a " " (by rw [tl_blank]; simp) (TL.kind_ok (by decide +kernel)), List.filter_map]
  congr 1
  refine List.filter_congr fun w _ => ?_
  rw [str_empty]
  rfl
theorem wds_of {a : Str} {ws : List Str} (h : blk (TL.tl a) = ws.map TL.tl) : wds a = ws := TL.map_tl_inj ((wds_tl a).trans h)
theorem wds_cat (a b : Str) : wds (a ++ " " ++ b) = wds a ++ wds b := by
  refine wds_of ?_
  rw [TL.tl_append, TL.tl_append, tl_blank, List.append_assoc, List.map_append, wds_tl, wds_tl]
  exact blk_cat _ _
theorem wds_word {a : Str} (h : TL.tl a ≠ []) (hw : 32 ∉ TL.tl a) : wds a = [a] := wds_of (blk_word h hw)
/-- blanks -/
def sps (k : Int) : Str := Txt.mul " " k
theorem tl_sps {k : Int} (h0 : 0 ≤ k) (h1 : k ≤ 2) : TL.tl (sps k) = List.replicate k.toNat 32 := by
  have : k = 0 ∨ k = 1 ∨ k = 2 := by omega
  rcases this with rfl | rfl | rfl <;> rfl
/-- words with blanks between them -/
def wide : List (Nat × List Nat) → Nat → List Nat
  | [], k => List.replicate k 32
  | (k, w) :: r, e => List.replicate k 32 ++ 32 :: (w ++ wide r e)
theorem blk_wide : ∀ (r : List (Nat × List Nat)) (e : Nat), (∀ p ∈ r, p.2 ≠ [] ∧ 32 ∉ p.2) → (∀ w : List Nat, blk (w ++ wide r e) = blk w ++ r.map (·.2)) ∧ blk (wide r e) = r.map (·.2)
  | [], e, _ => ⟨fun w => by show blk (w ++ List.replicate e 32) = _; rw [blk_tail]; simp, blk_rep e⟩
  | (k, w) :: r, e, h => by
    obtain ⟨ih, _⟩ := blk_wide r e fun p hp => h p (List.mem_cons_of_mem _ hp)
    obtain ⟨h1, h2⟩ := h (k, w) List.mem_cons_self
    have e1 : blk (w ++ wide r e) = w :: r.map (·.2) := by rw [ih w, blk_word h1 h2]; rfl
    refine ⟨fun v => ?_, ?_⟩
    · show blk (v ++ (List.replicate k 32 ++ 32 :: (w ++ wide r e))) = _
      rw [← List.append_assoc, blk_cat, blk_tail, e1]
      rfl
    · show blk (List.replicate k 32 ++ 32 :: (w ++ wide r e)) = _
      rw [blk_cat, blk_rep, e1]
      rfl
/-! ### numbers in words -/
def numS (i : Int) : Str := toString i
theorem tl_numS {i : Int} (h0 : 0 ≤ i) (h1 : i < 10) : TL.tl (numS i) = [48 + i.toNat] := by
  obtain ⟨n, rfl⟩ : ∃ n : Nat, i = n := ⟨i.toNat, by omega⟩
  show TL.tl (Str.ofString (toString ((n : Nat) : Int))) = _
  rw [TL.tl_num, TL.numL_lt (by omega), Int.toNat_natCast]
theorem numS_eq {i : Int} (h0 : 0 ≤ i) (h1 : i < 10) : numS i = ⟨#[48 + i.toNat]⟩ := TL.ext_tl (tl_numS h0 h1)
theorem int_numS {i : Int} (h0 : 0 ≤ i) (h1 : i < 10) : intText? (numS i) = some i := by
  obtain ⟨n, rfl⟩ : ∃ n : Nat, i = n := ⟨i.toNat, by omega⟩
  exact TL.int_num (by rw [TL.numL_lt (by omega)]; simp)
/-! ### texts of formulas -/
def wdD : Nat → D → List Str
  | n + 1, .tup [.str x, a, b] => x :: (wdD n a ++ wdD n b)
  | _, .int i => [numS i]
  | _, _ => []
def txD : Nat → D → Str
  | n + 1, .tup [.str x, a, b] => x ++ " " ++ txD n a ++ " " ++ txD n b
  | _, .int i => numS i
  | _, _ => ""
theorem wdD_int {n : Nat} {i : Int} : wdD n (.int i) = [numS i] := by cases n <;> rfl
theorem txD_int {n : Nat} {i : Int} : txD n (.int i) = numS i := by cases n <;> rfl
theorem isW_tl {x : Str} (h : isW x) : TL.tl x ≠ [] ∧ 32 ∉ TL.tl x ∧ (TL.tl x).length ≤ 6 := by
  rcases h with rfl | rfl | rfl <;> decide +kernel
theorem wds_tx {names : Int} (hn : names ≤ 10) : ∀ {n : Nat} {d : D}, Fo names n d → wds (txD n d) = wdD n d
  | 0, _, ⟨i, e, h0, h1⟩ => by
    subst e
    have := tl_numS h0 (by omega)
    exact wds_word (by show TL.tl (numS i) ≠ []; rw [this]; simp) (by show 32 ∉ TL.tl (numS i); rw [this]; simp; omega)
  | n + 1, _, .inl ⟨i, e, h0, h1⟩ => by
    subst e
    have := tl_numS h0 (by omega)
    exact wds_word (by show TL.tl (numS i) ≠ []; rw [this]; simp) (by show 32 ∉ TL.tl (numS i); rw [this]; simp; omega)
  | n + 1, _, .inr ⟨x, a, b, e, hx, ha, hb⟩ => by
    subst e
    obtain ⟨h1, h2, _⟩ := isW_tl hx
    show wds (x ++ " " ++ txD n a ++ " " ++ txD n b) = x :: (wdD n a ++ wdD n b)
    rw [wds_cat, wds_cat, wds_word h1 h2, wds_tx hn ha, wds_tx hn hb]
    rfl
theorem wdD_ok {names : Int} (hn : names ≤ 10) : ∀ {n : Nat} {d : D}, Fo names n d → ∀ w ∈ wdD n d, (∃ i : Int, w = numS i ∧ 0 ≤ i ∧ i < names) ∨ isW w
  | 0, _, ⟨i, e, h0, h1⟩, w, hw => by
    subst e
    rw [wdD_int] at hw
    exact .inl ⟨i, by simpa using hw, h0, h1⟩
  | n + 1, _, .inl ⟨i, e, h0, h1⟩, w, hw => by
    subst e
    rw [wdD_int] at hw
    exact .inl ⟨i, by simpa using hw, h0, h1⟩
  | n + 1, _, .inr ⟨x, a, b, e, hx, ha, hb⟩, w, hw => by
    subst e
    rcases List.mem_cons.mp hw with rfl | hw
    · exact .inr hx
    · rcases List.mem_append.mp hw with hw | hw
      · exact wdD_ok hn ha w hw
      · exact wdD_ok hn hb w hw
theorem wdD_len {names : Int} : ∀ {n : Nat} {d : D}, Fo names n d → (((wdD n d).length : Nat) : Int) = szF n d
  | 0, _, ⟨i, e, h0, h1⟩ => by subst e; rfl
  | n + 1, _, .inl ⟨i, e, h0, h1⟩ => by subst e; rfl
  | n + 1, _, .inr ⟨x, a, b, e, hx, ha, hb⟩ => by
    subst e
    have h1 := wdD_len ha
    have h2 := wdD_len hb
    show (((x :: (wdD n a ++ wdD n b)).length : Nat) : Int) = 1 + szF n a + szF n b
    rw [List.length_cons, List.length_append]
    omega
theorem txD_len {names : Int} (hn : names ≤ 10) : ∀ {n : Nat} {d : D}, Fo names n d → (((txD n d).length : Nat) : Int) ≤ 8 * szF n d
  | 0, _, ⟨i, e, h0, h1⟩ => by
    subst e
    rw [txD_int, TL.len_tl, tl_numS h0 (by omega)]
    simp [szF]
  | n + 1, _, .inl ⟨i, e, h0, h1⟩ => by
    subst e
    rw [txD_int, TL.len_tl, tl_numS h0 (by omega)]
    simp [szF]
  | n + 1, _, .inr ⟨x, a, b, e, hx, ha, hb⟩ => by
    subst e
    have h1 := txD_len hn ha
    have h2 := txD_len hn hb
    have h3 := (isW_tl hx).2.2
    show (((x ++ " " ++ txD n a ++ " " ++ txD n b).length : Nat) : Int) ≤ 8 * (1 + szF n a + szF n b)
    rw [TL.len_tl] at h1 h2 ⊢
    rw [TL.tl_append, TL.tl_append, TL.tl_append, TL.tl_append, tl_blank]
    simp only [List.length_append, List.length_cons, List.length_nil]
    omega
/-! ### more rules -/
theorem de_dix_ {X : Cx} {o i : Expr} {to ti : TED} {pos : Pos} (hu : X.A.units + 64 < cLine) (ho : DE X o to) (hi : DE X i ti) (hs : NoSl i := by exact fun _ _ => rfl) : DE X (.Subscript o i pos) (dDix to ti) := de_dix (by omega) ho hi hs
theorem st_dict_ {X : Cx} (hu : X.A.units + 64 < cLine) : StR X rSetDX := st_dict (by omega)
theorem len_app (a b : Str) : (a ++ b).length = a.length + b.length := by rw [TL.len_tl, TL.len_tl, TL.len_tl, TL.tl_append, List.length_append]
theorem spl_len : ∀ (L acc : List Nat), (TL.spl [32] 0 acc L).length ≤ L.length + 1
  | [], acc => by rw [TL.spl_nil]; simp
  | c :: L, acc => by
    by_cases hc : c = 32
    · subst hc
      rw [TL.spl_hit (by simp [TL.pre])]
      have := spl_len L []
      simp only [List.length_cons]
      exact Nat.succ_le_succ this
    · rw [TL.spl_miss (by simp [TL.pre, hc])]
      have := spl_len L (acc ++ [c])
      simp only [List.length_cons]
      omega
theorem split_len (a : Str) : (Txt.split a " ").length ≤ a.length + 1 := by
  have h := TL.split_spl a " " (by rw [tl_blank]; simp) (TL.kind_ok (by decide +kernel))
  have h2 := congrArg List.length h
  rw [List.length_map] at h2
  rw [h2, TL.len_tl]
  exact spl_len _ _
/-- a text as a thing shown -/
theorem Vl.txt {l : Addr} {M : Mp} {x : Str} {w : Nat} (h : ∀ c ∈ TL.tl x, c < 16 ^ 8) (hw : 10 * x.length + 2 ≤ w) : Vl l M 0 w (.str x) :=
  ⟨.str x, .str _, rfl, Nat.le_refl _, by
    rw [PyData.shown_str]
    exact Nat.le_trans (StrLaws.reprText_len _ h) hw⟩
theorem log2_10 {i : Int} (h0 : 0 ≤ i) (h1 : i < 10) : i.natAbs.log2 < 1920 := Nat.lt_of_lt_of_le (log2_lt (k := 4) (by decide) (by omega)) (by decide)
section
variable {X : Cx}
theorem reads_ints {h : Heap} : ∀ {ns : List Int} {us : List Value}, Vals (ns.map V.int) us → PySem.ReadsAll h us (ns.map PyData.int) []
  | [], _, .nil => .nil
  | n :: ns, _, .cons r t => by
    obtain ⟨tk, rfl⟩ := r
    exact .cons (as := []) (.int n tk) (reads_ints t)
theorem cr_maxT (hc : X.calm = true) (hu : X.A.units + 64 < cLine) : CallR X (.builtin "max") (fun vs H Q => ∃ (a : Addr) (ns : List Int), vs = [V.ref a] ∧ SqT X.K H a (ns.map V.int) ∧ ns ≠ [] ∧ ∀ m ∈ ns, Q (.int m) H) := by
  intro pins s σ H vs us Q I r h
  obtain ⟨a, ns, rfl, hs, hne, q⟩ := h
  obtain ⟨its, rv, hl, hz⟩ := I.tuple hs
  rw [Vals.ref1 r]
  cases ns with
  | nil => exact absurd rfl hne
  | cons n ns =>
  have hr : PySem.ReadsAll s.heap its.toArray.toList ((n :: ns).map PyData.int) [] := by
    rw [List.toList_toArray]
    exact reads_ints rv
  have hd : PyData.depthAll ((n :: ns).map PyData.int) = 0 := depth_ints _
  refine PySem.W.max_tuple_data (x := .int n) (xs := ns.map PyData.int) (as := []) (I.ok.hd hc) hl hr ⟨fun x hx y hy => ?_, fun x hx => ?_⟩ (by rw [show PyData.int n :: ns.map PyData.int = (n :: ns).map PyData.int from rfl, hd]; omega) fun i v h' tk bs hv _ hk => ?_
  · obtain ⟨x', _, rfl⟩ := List.mem_map.mp (show x ∈ (n :: ns).map PyData.int from hx)
    obtain ⟨y', _, rfl⟩ := List.mem_map.mp (show y ∈ (n :: ns).map PyData.int from hy)
    rfl
  · obtain ⟨x', _, rfl⟩ := List.mem_map.mp (show x ∈ (n :: ns).map PyData.int from hx)
    rintro ⟨⟩
  · have hv : its[i]? = some v := by simpa using hv
    obtain ⟨x, hx, rx⟩ := vals_at rv hv
    have hm : x ∈ (n :: ns).map V.int := List.mem_of_getElem? hx
    obtain ⟨m, hm2, rfl⟩ := List.mem_map.mp hm
    exact ⟨.int m, H, I.kept hk, rx, q m hm2⟩
def rMaxT : RCD := fun ds M Q => match ds with
  | [.tup xs] => ∃ ns : List Int, xs = ns.map D.int ∧ ns ≠ [] ∧ ∀ m ∈ ns, Q (.int m) M
  | _ => False
theorem ca_maxT (hc : X.calm = true) (hu : X.A.units + 64 < cLine) : CaR X (.builtin "max") rMaxT := by
  refine ⟨_, cr_maxT hc hu, ?_⟩
  intro H M vs ds Q' Q fs m h k
  unfold rMaxT at h
  split at h
  · obtain ⟨ns, rfl, hne, q⟩ := h
    cases fs with
    | cons f t =>
      cases t
      cases f with
      | tup hs g => exact ⟨_, ns, rfl, by rw [← g.ints]; exact hs.t, hne, fun mm hm => k.val m (.int _) (q mm hm)⟩
  · exact h.elim
/-- max(xs), xs a list of whole numbers -/
def rMaxL : RCD := fun ds M Q => match ds with
  | [.ref p] => ∃ ns : List Int, M p = some (.lst (ns.map D.int)) ∧ 0 < ns.length ∧ ∀ m, m ∈ ns → (∀ y ∈ ns, y ≤ m) → Q (.int m) M
  | _ => False
theorem ca_maxL (hc : X.calm = true) : CaR X (.builtin "max") rMaxL := by
  refine ⟨_, cr_max hc, ?_⟩
  intro H M vs ds Q' Q fs m h k
  unfold rMaxL at h
  split at h
  · obtain ⟨ns, hp, hne, q⟩ := h
    cases fs with
    | cons f t =>
      cases t
      cases f
      obtain ⟨ys, h0, g⟩ := m.lst hp
      rw [g.ints] at h0
      exact ⟨_, ns, rfl, .of h0, hne, fun mm h1 h2 => k.val m (.int _) (q mm h1 h2)⟩
  · exact h.elim
end
/-- bounds of the turns that a formula takes -/
def CT : Nat → Nat
  | 0 => 4
  | n + 1 => 2 * CT n + 4
end DL

/-! Texts of formulas read again. -/
namespace DL
open PySem L2
section
variable {n : Nat} {Y : Nat → D → Prop} {G : Mp → Prop} {g : D → DSt → Option DSt} {tt : TTD} {te : TED} {ρ : DSt} {M1 : Mp} {Q : KD}
/-- a comprehension without a test: R counts the steps -/
theorem LcG.genI (P : Nat → D → Prop) (R : Nat → Mp → Prop) (hn : n ≤ sizeLine) (h0 : R 0 M1) (hG : ∀ k M', k ≤ n → R k M' → G M')
    (hs : ∀ k x M', k < n → Y k x → R k M' → ∀ Q' : KD, (∀ y M'', P k y → R (k + 1) M'' → Q' y M'') → match g x ρ with | some ρ2 => te ρ2 M' Q' | none => False)
    (hq : ∀ acc M' p, acc.length = n → (∀ k y, acc[k]? = some y → P k y) → R n M' → M' p = none → Q (.ref p) (updM M' p (.lst acc))) : LcG n Y G g tYesD te ρ M1 Q := by
  refine ⟨fun k acc M' => acc.length = k ∧ (∀ i y, acc[i]? = some y → P i y) ∧ R k M', ⟨rfl, fun i y e => by simp at e, h0⟩, fun k acc M' hk z => hG k M' hk z.2.2, ?_, fun acc M' z p hp => hq acc M' p z.1 z.2.1 z.2.2 hp⟩
  rintro k acc x M' hk hy ⟨rfl, hP, hR⟩
  have z := hs acc.length x M' hk hy hR (fun y M3 => acc.length < sizeLine ∧ (acc ++ [y]).length = acc.length + 1 ∧ (∀ i z, (acc ++ [y])[i]? = some z → P i z) ∧ R (acc.length + 1) M3) fun y M3 h1 h2 => ⟨by omega, by simp, fun i z e => ?_, h2⟩
  · cases eg : g x ρ with
    | none => rw [eg] at z; exact z.elim
    | some ρ2 => rw [eg] at z; exact z
  · by_cases hi : i < acc.length
    · rw [List.getElem?_append_left hi] at e
      exact hP i z e
    · rw [List.getElem?_append_right (by omega)] at e
      by_cases h0 : i - acc.length = 0
      · rw [h0] at e
        obtain rfl : y = z := by simpa using e
        have : i = acc.length := by omega
        subst this
        exact h1
      · rw [List.getElem?_eq_none (by simp; omega)] at e
        cases e
end
/-! ### figures -/
def fig (c : Nat) : Bool := decide (c ∈ ("0123456789" : Str).cps.toList)
theorem fig_num {i : Int} (h0 : 0 ≤ i) (h1 : i < 10) : fig (48 + i.toNat) = true := by
  have : ∀ k : Fin 10, fig (48 + k.val) = true := by decide +kernel
  exact this ⟨i.toNat, by omega⟩
theorem fig_word {x : Str} (hx : isW x) {k c : Nat} (h : x.cps[k]? = some c) : fig c = false := by
  have h : c ∈ x.cps.toList := List.mem_of_getElem? (i := k) (by rw [← h]; simp)
  rcases hx with rfl | rfl | rfl
  · exact (by decide +kernel : ∀ c ∈ ("with" : Str).cps.toList, fig c = false) c h
  · exact (by decide +kernel : ∀ c ∈ ("behind" : Str).cps.toList, fig c = false) c h
  · exact (by decide +kernel : ∀ c ∈ ("ahead" : Str).cps.toList, fig c = false) c h
/-- the number in a word -/
def nW (w : Str) : Bool := (intText? w).isSome
def vW (w : Str) : Int := (intText? w).getD 0
theorem nW_num {i : Int} (h0 : 0 ≤ i) (h1 : i < 10) : nW (numS i) = true := by unfold nW; rw [int_numS h0 h1]; rfl
theorem vW_num {i : Int} (h0 : 0 ≤ i) (h1 : i < 10) : vW (numS i) = i := by unfold vW; rw [int_numS h0 h1]; rfl
theorem nW_word {x : Str} (hx : isW x) : nW x = false := by rcases hx with rfl | rfl | rfl <;> decide +kernel
/-- what a word of a formula is -/
def tokW (names : Int) (w : Str) : Prop := (∃ i : Int, w = numS i ∧ 0 ≤ i ∧ i < names) ∨ isW w
theorem num_len {i : Int} (h0 : 0 ≤ i) (h1 : i < 10) : (numS i).length = 1 := by rw [TL.len_tl, tl_numS h0 h1]; rfl
theorem num_cps {i : Int} (h0 : 0 ≤ i) (h1 : i < 10) : (numS i).cps = #[48 + i.toNat] := by rw [numS_eq h0 h1]
theorem tokW.len {names : Int} (hn : names ≤ 10) {w : Str} (h : tokW names w) : w.length ≤ 6 ∧ TL.tl w ≠ [] ∧ 32 ∉ TL.tl w := by
  rcases h with ⟨i, rfl, h0, h1⟩ | h
  · rw [num_len h0 (by omega), tl_numS h0 (by omega)]
    exact ⟨by decide, by simp, by simp; omega⟩
  · have := isW_tl h
    rw [TL.len_tl]
    exact ⟨this.2.2, this.1, this.2.1⟩
theorem wdD_tok {names : Int} (hn : names ≤ 10) {n : Nat} {d : D} (h : Fo names n d) : ∀ w ∈ wdD n d, tokW names w := wdD_ok hn h
/-- one word is a number -/
theorem wdD_num {names : Int} : ∀ {n : Nat} {d : D}, Fo names n d → ∃ i : Int, numS i ∈ wdD n d ∧ 0 ≤ i ∧ i < names
  | 0, _, ⟨i, e, h0, h1⟩ => by subst e; exact ⟨i, by rw [wdD_int]; simp, h0, h1⟩
  | n + 1, _, .inl ⟨i, e, h0, h1⟩ => by subst e; exact ⟨i, by rw [wdD_int]; simp, h0, h1⟩
  | n + 1, _, .inr ⟨x, a, b, e, hx, ha, hb⟩ => by
    subst e
    obtain ⟨i, hi, h⟩ := wdD_num ha
    exact ⟨i, by show _ ∈ x :: (wdD n a ++ wdD n b); simp [hi], h⟩
/-- how many parts are due -/
def dueW : Int → List Str → Prop
  | k, [] => k = 0
  | k, w :: r => 0 < k ∧ dueW (if nW w = true then k - 1 else k + 1) r
theorem due_tx {names : Int} (hn : names ≤ 10) : ∀ {n : Nat} {d : D} {k : Int} {r : List Str}, Fo names n d → 0 ≤ k → dueW k r → dueW (k + 1) (wdD n d ++ r)
  | 0, _, k, r, ⟨i, e, h0, h1⟩, hk, h => by
    subst e
    show 0 < k + 1 ∧ dueW (if nW (numS i) = true then k + 1 - 1 else k + 1 + 1) r
    rw [nW_num h0 (by omega), if_pos rfl]
    exact ⟨by omega, by rw [show k + 1 - 1 = k by omega]; exact h⟩
  | n + 1, _, k, r, .inl ⟨i, e, h0, h1⟩, hk, h => by
    subst e
    show 0 < k + 1 ∧ dueW (if nW (numS i) = true then k + 1 - 1 else k + 1 + 1) r
    rw [nW_num h0 (by omega), if_pos rfl]
    exact ⟨by omega, by rw [show k + 1 - 1 = k by omega]; exact h⟩
  | n + 1, _, k, r, .inr ⟨x, a, b, e, hx, ha, hb⟩, hk, h => by
    subst e
    show 0 < k + 1 ∧ dueW (if nW x = true then k + 1 - 1 else k + 1 + 1) ((wdD n a ++ wdD n b) ++ r)
    rw [nW_word hx, if_neg (by decide), List.append_assoc]
    exact ⟨by omega, due_tx hn ha (by omega) (due_tx hn hb hk h)⟩
theorem szF_pos {names : Int} : ∀ {n : Nat} {d : D}, Fo names n d → 1 ≤ szF n d
  | 0, _, ⟨i, e, h0, h1⟩ => by subst e; rw [szF_int]; decide
  | n + 1, _, .inl ⟨i, e, h0, h1⟩ => by subst e; rw [szF_int]; decide
  | n + 1, _, .inr ⟨x, a, b, e, hx, ha, hb⟩ => by
    subst e
    have h1 := szF_pos ha
    have h2 := szF_pos hb
    show 1 ≤ 1 + szF n a + szF n b
    omega
/-! ### wide texts -/
theorem joinE_cons (a : List Nat) (r : List (List Nat)) : TL.joinL [] (a :: r) = a ++ TL.joinL [] r := by
  cases r with
  | nil => show a = a ++ []; simp
  | cons b r => rfl
theorem wide_of {names : Int} (hn : names ≤ 10) : ∀ (ws : List Str) (ys : List D), ys.length = ws.length → (∀ (k : Nat) (y : D), ys[k]? = some y → ∃ (i : Int) (w : Str), ws[k]? = some w ∧ y = D.str (sps i ++ " " ++ w) ∧ 0 ≤ i ∧ i ≤ 2) → (∀ w ∈ ws, tokW names w) →
    ∃ (ss : List Str) (r : List (Nat × List Nat)), ys = ss.map D.str ∧ r.map (·.2) = ws.map TL.tl ∧ (∀ e, TL.joinL [] (ss.map TL.tl) ++ List.replicate e 32 = wide r e) ∧ (ss.map (·.length)).sum ≤ 9 * ws.length
  | [], ys, hl, _, _ => by
    cases ys with
    | nil => exact ⟨[], [], rfl, rfl, fun e => rfl, by simp⟩
    | cons _ _ => cases hl
  | w :: ws, ys, hl, hy, ht => by
    cases ys with
    | nil => cases hl
    | cons y ys =>
    obtain ⟨i, w', hw, rfl, h0, h1⟩ := hy 0 y rfl
    cases hw
    obtain ⟨ss, r, rfl, e2, e3, e4⟩ := wide_of hn ws ys (by simpa using hl) (fun k z hz => hy (k + 1) z hz) fun x hx => ht x (List.mem_cons_of_mem _ hx)
    have hs := tl_sps h0 h1
    have et : TL.tl (sps i ++ " " ++ w) = List.replicate i.toNat 32 ++ 32 :: TL.tl w := by
      rw [TL.tl_append, TL.tl_append, hs, tl_blank, List.append_assoc]
      rfl
    have hw6 := (ht w List.mem_cons_self).len hn
    refine ⟨(sps i ++ " " ++ w) :: ss, (i.toNat, TL.tl w) :: r, rfl, by rw [List.map_cons, List.map_cons, e2], fun e => ?_, ?_⟩
    · rw [List.map_cons, joinE_cons, et, List.append_assoc, e3]
      show (List.replicate i.toNat 32 ++ 32 :: TL.tl w) ++ wide r e = List.replicate i.toNat 32 ++ 32 :: (TL.tl w ++ wide r e)
      rw [List.append_assoc]
      rfl
    · have : (sps i ++ " " ++ w).length ≤ 9 := by
        have h6 := hw6.1
        rw [TL.len_tl] at h6 ⊢
        rw [et]
        simp only [List.length_append, List.length_replicate, List.length_cons]
        omega
      rw [List.map_cons, List.sum_cons, List.length_cons]
      omega
theorem tl_join0 (ss : List Str) : TL.tl (Txt.join "" ss) = TL.joinL [] (ss.map TL.tl) := by
  rw [TL.join_eq, TL.tl_join]
  rfl
theorem wds_wide {names : Int} (hn : names ≤ 10) {ws ss : List Str} {r : List (Nat × List Nat)} {k : Int} (h0 : 0 ≤ k) (h1 : k ≤ 2) (e2 : r.map (·.2) = ws.map TL.tl) (e3 : ∀ e, TL.joinL [] (ss.map TL.tl) ++ List.replicate e 32 = wide r e) (ht : ∀ w ∈ ws, tokW names w) :
    wds (Txt.join "" ss ++ sps k) = ws := by
  refine wds_of ?_
  rw [TL.tl_append, tl_join0, tl_sps h0 h1, e3, (blk_wide r k.toNat fun p hp => ?_).2, e2]
  have : p.2 ∈ ws.map TL.tl := by rw [← e2]; exact List.mem_map_of_mem hp
  obtain ⟨w, hw, e⟩ := List.mem_map.mp this
  rw [← e]
  exact ((ht w hw).len hn).2
theorem len_join0 (ss : List Str) : (Txt.join "" ss).length = (ss.map (·.length)).sum := by
  rw [TL.len_tl, tl_join0]
  induction ss with
  | nil => rfl
  | cons s ss ih => rw [List.map_cons, joinE_cons, List.length_append, ih, List.map_cons, List.sum_cons, TL.len_tl]
theorem sps_len {k : Int} (h0 : 0 ≤ k) (h1 : k ≤ 2) : (sps k).length ≤ 2 := by rw [TL.len_tl, tl_sps h0 h1, List.length_replicate]; omega
theorem wds_tail (a : Str) : wds (a ++ "  ") = wds a := by
  refine wds_of ?_
  rw [TL.tl_append, wds_tl]
  exact blk_tail _ 2
theorem tx_cps {names : Int} (hn : names ≤ 10) : ∀ {n : Nat} {d : D}, Fo names n d → ∀ c ∈ TL.tl (txD n d), c < 16 ^ 8
  | 0, _, ⟨i, e, h0, h1⟩, c, hc => by
    subst e
    rw [txD_int, tl_numS h0 (by omega)] at hc
    simp at hc
    omega
  | n + 1, _, .inl ⟨i, e, h0, h1⟩, c, hc => by
    subst e
    rw [txD_int, tl_numS h0 (by omega)] at hc
    simp at hc
    omega
  | n + 1, _, .inr ⟨x, a, b, e, hx, ha, hb⟩, c, hc => by
    subst e
    have hc : c ∈ TL.tl (x ++ " " ++ txD n a ++ " " ++ txD n b) := hc
    rw [TL.tl_append, TL.tl_append, TL.tl_append, TL.tl_append, tl_blank] at hc
    simp only [List.mem_append, List.mem_singleton] at hc
    rcases hc with (((hc | hc) | hc) | hc) | hc
    · have hw : ∀ c ∈ TL.tl x, c < 16 ^ 8 := by rcases hx with rfl | rfl | rfl <;> decide +kernel
      exact hw c hc
    · omega
    · exact tx_cps hn ha c hc
    · omega
    · exact tx_cps hn hb c hc
theorem in_word {x : Str} (hx : isW x) : (([D.str (Str.ofString "with"), D.str (Str.ofString "behind"), D.str (Str.ofString "ahead")] : List D).any fun z => eqF z (D.str x)) = true := by
  rcases hx with rfl | rfl | rfl <;> decide +kernel
theorem in_num {i : Int} (h0 : 0 ≤ i) (h1 : i < 10) : (([D.str (Str.ofString "with"), D.str (Str.ofString "behind"), D.str (Str.ofString "ahead")] : List D).any fun z => eqF z (D.str (numS i))) = false := by
  have : ∀ k : Fin 10, (([D.str (Str.ofString "with"), D.str (Str.ofString "behind"), D.str (Str.ofString "ahead")] : List D).any fun z => eqF z (D.str (numS k.val))) = false := by decide +kernel
  have := this ⟨i.toNat, by omega⟩
  simp only [] at this
  rwa [Int.toNat_of_nonneg h0] at this
theorem cut_past {x : D} {A B : List D} {k : Int} (h : k = 1 + ((A.length : Nat) : Int)) : cutD (x :: (A ++ B)) (some k) none = B := by
  rw [cut_drop (by omega) (by rw [List.length_cons, List.length_append]; omega), show k.toNat = A.length + 1 by omega, List.drop_succ_cons]
  exact List.drop_left ..
theorem Dk.nls {M : Mp} {l pc p : Addr} {T : Nat} {xs : List D} (h : Dk M l pc T) (e : M p = some (.lst xs)) : p ≠ l := by
  obtain ⟨c, t, g, e1, _⟩ := h.ex
  rintro rfl
  rw [e] at e1
  cases e1
end DL

/-! f-strings; lists of texts; texts of facts. -/
namespace DL
open PySem L2
section
variable {X : Cx}
def dFmt (te : TED) : TED := fun ρ M Q => te ρ M fun d M1 => match d with
  | .str y => y.length ≤ sizeLine ∧ Q (.str y) M1
  | .int i => i.natAbs.log2 < 1920 ∧ Q (.str (toString i)) M1
  | _ => False
theorem de_fmt {e : Expr} {te : TED} {pos : Pos} (he : DE X e te) : DE X (.FormattedValue e (-1) none pos) (dFmt te) :=
  pe_weak (pe_fmt he) fun σ H Q ⟨ρ, M, Q', r, m, h, k⟩ => ⟨ρ, M, _, r, m, h, fun v H1 d M1 f s q => by
    cases d with
    | str y =>
      cases f
      exact .inl ⟨y, rfl, q.1, k _ _ _ _ (.str y) s q.2⟩
    | int i =>
      cases f
      exact .inr ⟨i, rfl, q.1, k _ _ _ _ (.str _) s q.2⟩
    | _ => exact q.elim⟩
inductive DJ (X : Cx) : List Expr → List TED → Prop where
  | nil : DJ X [] []
  | cons {e : Expr} {t : TED} {es : List Expr} {ts : List TED} (h : DE X e t) (r : DJ X es ts) : DJ X (e :: es) (t :: ts)
theorem DJ.pj {es : List Expr} {ts : List TED} (h : DJ X es ts) : PJ X es (ts.map (upE X.K)) := by
  induction h with
  | nil => exact .nil
  | cons h _ ih => exact .cons h ih
def dJs : List TED → Str → DSt → Mp → (Str → Mp → Prop) → Prop
  | [], acc, _, M, Q => Q acc M
  | t :: ts, acc, ρ, M, Q => t ρ M fun d M1 => match d with
    | .str y => (acc ++ y).length ≤ sizeLine ∧ dJs ts (acc ++ y) ρ M1 Q
    | _ => False
theorem tJs_of {K : PySem.W.Frag} : ∀ (ts : List TED) (acc : Str) (σ : St) (H : Hp) (ρ : DSt) (M : Mp) (Q' : Str → Mp → Prop) (Q : Str → Hp → Prop), RelS K H σ ρ → MemOk K H M → dJs ts acc ρ M Q' → (∀ out H1 M1, Step K H M H1 M1 → Q' out M1 → Q out H1) → tJs (ts.map (upE K)) acc σ H Q
  | [], acc, σ, H, ρ, M, Q', Q, r, m, q, k => k acc H M (.refl m) q
  | t :: ts, acc, σ, H, ρ, M, Q', Q, r, m, q, k => ⟨ρ, M, _, r, m, q, fun v H1 d M1 f s q => by
    cases d with
    | str y =>
      cases f
      exact ⟨y, rfl, q.1, tJs_of ts _ σ H1 ρ M1 Q' Q (r.up s.tups) s.mem q.2 fun out H2 M2 s2 q2 => k out H2 M2 (s.trans s2) q2⟩
    | _ => exact q.elim⟩
theorem de_fstr {v1 v2 : Expr} {rest : List Expr} {ts : List TED} {pos : Pos} (h : DJ X (v1 :: v2 :: rest) ts) : DE X (.JoinedStr (v1 :: v2 :: rest) pos) (fun ρ M Q => dJs ts Str.empty ρ M fun out M1 => Q (.str out) M1) :=
  pe_weak (pe_joined h.pj) fun σ H Q ⟨ρ, M, Q', r, m, h, k⟩ => tJs_of ts _ σ H ρ M _ _ r m h fun out H1 M1 s q => k _ _ _ _ (.str out) s q
end
/-! ### lists of texts, compared -/
abbrev pLS (ns : List Str) : PyData := .list (ns.map PyData.str)
theorem rdm_LS {M : Mp} {a : Addr} {ns : List Str} (h : M a = some (.lst (ns.map D.str))) : Rdm M (.ref a) (pLS ns) := .lst h (rdm_strs ns)
theorem eqv_LS (xs ys : List Str) : PyData.eqv (pLS xs) (pLS ys) = decide (xs = ys) := by
  simp only [PyData.eqv, eqv_strs]
theorem shaped_LS (xs : List Str) (h : ∀ x ∈ xs, PyData.strOk x = true) : SeqAt.shaped (pLS xs) = true := by
  have := lay_strs xs h
  simp [SeqAt.shaped, PyData.canLay0, PyData.depth, this.1, this.2]
theorem strOk_of {x : Str} (h : ∀ c ∈ TL.tl x, c < 1114112) : PyData.strOk x = true := by
  unfold PyData.strOk
  rw [Array.all_eq_true]
  intro i hi
  exact decide_eq_true (h _ (List.mem_of_getElem? (i := i) (by show x.cps.toList[i]? = _; simp)))
/-! ### lines -/
theorem tl_nl : TL.tl ("\n" : Str) = [10] := rfl
theorem split_lines {L : List Str} (hne : L ≠ []) (h : ∀ x ∈ L, 10 ∉ TL.tl x) : Txt.split (Txt.join "\n" L) "\n" = L := by
  refine TL.map_tl_inj ?_
  rw [TL.split_spl _ "\n" (by rw [tl_nl]; simp) (TL.kind_ok (by decide +kernel)), TL.join_eq, TL.tl_join, tl_nl]
  refine TL.spl_join (by simpa using hne) fun p hp => ?_
  obtain ⟨x, hx, rfl⟩ := List.mem_map.mp hp
  exact h x hx
theorem join_len : ∀ (L : List Str) (k : Nat), (∀ x ∈ L, x.length ≤ k) → (Txt.join "\n" L).length ≤ L.length * (k + 1)
  | L, k, h => by
    rw [TL.join_eq]
    induction L with
    | nil => exact Nat.zero_le _
    | cons x L ih =>
      have h1 := h x List.mem_cons_self
      have h2 := ih fun y hy => h y (List.mem_cons_of_mem _ hy)
      cases L with
      | nil => show x.length ≤ _; simp; omega
      | cons y L =>
        show (x ++ "\n" ++ Str.join "\n" (y :: L)).length ≤ _
        rw [len_app, len_app, show ("\n" : Str).length = 1 from rfl, List.length_cons, Nat.add_mul]
        omega
/-! ### facts -/
def lineI : List Int → Str
  | [a, b, c] => numS a ++ " with " ++ numS b ++ " gives " ++ numS c
  | [a, b] => numS a ++ " unlike " ++ numS b
  | _ => ""
def wordI : List Int → List Str
  | [a, b, c] => [numS a, "with", numS b, "gives", numS c]
  | [a, b] => [numS a, "unlike", numS b]
  | _ => []
def lineN (n : Int) : Str := "names " ++ numS n
def wordN (n : Int) : List Str := ["names", numS n]
def itOk (r : List Int) : Prop := (r.length = 3 ∨ r.length = 2) ∧ ∀ x ∈ r, 0 ≤ x ∧ x < 10
theorem itOk.cases' {r : List Int} (h : itOk r) : (∃ a b c : Int, r = [a, b, c] ∧ (0 ≤ a ∧ a < 10) ∧ (0 ≤ b ∧ b < 10) ∧ (0 ≤ c ∧ c < 10)) ∨ ∃ a b : Int, r = [a, b] ∧ (0 ≤ a ∧ a < 10) ∧ (0 ≤ b ∧ b < 10) := by
  obtain ⟨h1 | h1, h2⟩ := h
  · match r, h1 with
    | [a, b, c], _ => exact .inl ⟨a, b, c, rfl, h2 a (by simp), h2 b (by simp), h2 c (by simp)⟩
  · match r, h1 with
    | [a, b], _ => exact .inr ⟨a, b, rfl, h2 a (by simp), h2 b (by simp)⟩
/-- a plain word -/
structure Wrd (w : Str) : Prop where
  len : w.length ≤ 6
  ne : TL.tl w ≠ []
  sp : 32 ∉ TL.tl w
  nl : 10 ∉ TL.tl w
  sm : ∀ c ∈ TL.tl w, c < 1114112
theorem Wrd.num {i : Int} (h : 0 ≤ i ∧ i < 10) : Wrd (numS i) := by
  have e := tl_numS h.1 h.2
  refine ⟨by rw [num_len h.1 h.2]; decide, by rw [e]; simp, by rw [e]; simp; omega, by rw [e]; simp; omega, fun c hc => ?_⟩
  rw [e] at hc
  simp at hc
  omega
theorem Wrd.lit {w : Str} (h : (decide (w.length ≤ 6) && !(TL.tl w).isEmpty && (TL.tl w).all fun c => decide (c ≠ 32) && decide (c ≠ 10) && decide (c < 1114112)) = true) : Wrd w := by
  simp only [Bool.and_eq_true, decide_eq_true_eq, List.all_eq_true] at h
  obtain ⟨⟨h1, h2⟩, h3⟩ := h
  refine ⟨h1, fun e => ?_, fun hm => (h3 _ hm).1.1 rfl, fun hm => (h3 _ hm).1.2 rfl, fun c hc => (h3 _ hc).2⟩
  rw [e] at h2
  cases h2
theorem wrd_with : Wrd "with" := .lit (by decide +kernel)
theorem wrd_gives : Wrd "gives" := .lit (by decide +kernel)
theorem wrd_unlike : Wrd "unlike" := .lit (by decide +kernel)
theorem wrd_names : Wrd "names" := .lit (by decide +kernel)
theorem wordI_wrd {r : List Int} (h : itOk r) : ∀ w ∈ wordI r, Wrd w := by
  rcases h.cases' with ⟨a, b, c, rfl, ha, hb, hc⟩ | ⟨a, b, rfl, ha, hb⟩
  · intro w hw
    simp only [wordI, List.mem_cons, List.not_mem_nil, or_false] at hw
    rcases hw with rfl | rfl | rfl | rfl | rfl
    · exact .num ha
    · exact wrd_with
    · exact .num hb
    · exact wrd_gives
    · exact .num hc
  · intro w hw
    simp only [wordI, List.mem_cons, List.not_mem_nil, or_false] at hw
    rcases hw with rfl | rfl | rfl
    · exact .num ha
    · exact wrd_unlike
    · exact .num hb
theorem wordN_wrd {n : Int} (h : 0 ≤ n ∧ n < 10) : ∀ w ∈ wordN n, Wrd w := by
  intro w hw
  simp only [wordN, List.mem_cons, List.not_mem_nil, or_false] at hw
  rcases hw with rfl | rfl
  · exact wrd_names
  · exact .num h
theorem tl_lineI3 (a b c : Int) : TL.tl (lineI [a, b, c]) = TL.tl (numS a) ++ 32 :: (TL.tl "with" ++ 32 :: (TL.tl (numS b) ++ 32 :: (TL.tl "gives" ++ 32 :: TL.tl (numS c)))) := by
  show TL.tl (numS a ++ " with " ++ numS b ++ " gives " ++ numS c) = _
  rw [TL.tl_append, TL.tl_append, TL.tl_append, TL.tl_append, show TL.tl (" with " : Str) = 32 :: (TL.tl "with" ++ [32]) from rfl, show TL.tl (" gives " : Str) = 32 :: (TL.tl "gives" ++ [32]) from rfl]
  simp
theorem tl_lineI2 (a b : Int) : TL.tl (lineI [a, b]) = TL.tl (numS a) ++ 32 :: (TL.tl "unlike" ++ 32 :: TL.tl (numS b)) := by
  show TL.tl (numS a ++ " unlike " ++ numS b) = _
  rw [TL.tl_append, TL.tl_append, show TL.tl (" unlike " : Str) = 32 :: (TL.tl "unlike" ++ [32]) from rfl]
  simp
theorem tl_lineN (n : Int) : TL.tl (lineN n) = TL.tl "names" ++ 32 :: TL.tl (numS n) := by
  show TL.tl ("names " ++ numS n) = _
  rw [TL.tl_append, show TL.tl ("names " : Str) = TL.tl "names" ++ [32] from rfl]
  simp
theorem blk_w {w : Str} (h : Wrd w) : blk (TL.tl w) = [TL.tl w] := blk_word h.ne h.sp
theorem wds_lineI {r : List Int} (h : itOk r) : wds (lineI r) = wordI r := by
  rcases h.cases' with ⟨a, b, c, rfl, ha, hb, hc⟩ | ⟨a, b, rfl, ha, hb⟩
  · refine wds_of ?_
    rw [tl_lineI3, blk_cat, blk_cat, blk_cat, blk_cat, blk_w (.num ha), blk_w (.num hb), blk_w (.num hc), blk_w wrd_with, blk_w wrd_gives]
    rfl
  · refine wds_of ?_
    rw [tl_lineI2, blk_cat, blk_cat, blk_w (.num ha), blk_w (.num hb), blk_w wrd_unlike]
    rfl
theorem wds_lineN {n : Int} (h : 0 ≤ n ∧ n < 10) : wds (lineN n) = wordN n := by
  refine wds_of ?_
  rw [tl_lineN, blk_cat, blk_w (.num h), blk_w wrd_names]
  rfl
/-- lines -/
structure Lne (w : Str) : Prop where
  len : w.length ≤ 60
  nl : 10 ∉ TL.tl w
  sm : ∀ c ∈ TL.tl w, c < 1114112
theorem Lne.of {x : Str} {ws : List Str} (h : ∀ w ∈ ws, Wrd w) (hl : ws.length ≤ 5) (e : TL.tl x = TL.joinL [32] (ws.map TL.tl)) : Lne x := by
  have key : ∀ ws : List Str, (∀ w ∈ ws, Wrd w) → (TL.joinL [32] (ws.map TL.tl)).length ≤ 7 * ws.length ∧ ∀ c ∈ TL.joinL [32] (ws.map TL.tl), c ≠ 10 ∧ c < 1114112 := by
    intro ws
    induction ws with
    | nil => exact fun _ => ⟨Nat.le_refl _, fun c hc => absurd hc List.not_mem_nil⟩
    | cons w ws ih =>
      intro h
      have hw := h w List.mem_cons_self
      have hl := hw.len
      rw [TL.len_tl] at hl
      obtain ⟨i1, i2⟩ := ih fun y hy => h y (List.mem_cons_of_mem _ hy)
      have hc0 : ∀ c ∈ TL.tl w, c ≠ 10 ∧ c < 1114112 := fun c hc => ⟨fun e => hw.nl (e ▸ hc), hw.sm c hc⟩
      cases ws with
      | nil =>
        refine ⟨?_, hc0⟩
        show (TL.tl w).length ≤ _
        simp only [List.length_cons, List.length_nil]
        omega
      | cons y ws =>
        refine ⟨?_, fun c hc => ?_⟩
        · show (TL.tl w ++ ([32] ++ TL.joinL [32] ((y :: ws).map TL.tl))).length ≤ _
          rw [List.length_append, List.length_append, List.length_cons]
          simp only [List.length_cons, List.length_nil] at i1 ⊢
          omega
        · have hc : c ∈ TL.tl w ++ ([32] ++ TL.joinL [32] ((y :: ws).map TL.tl)) := hc
          rcases List.mem_append.mp hc with hc | hc
          · exact hc0 c hc
          · rcases List.mem_append.mp hc with hc | hc
            · obtain rfl := List.mem_singleton.mp hc
              exact ⟨by decide, by decide⟩
            · exact i2 c hc
  obtain ⟨k1, k2⟩ := key ws h
  refine ⟨by rw [TL.len_tl, e]; omega, fun hm => ?_, fun c hc => ?_⟩
  · rw [e] at hm
    exact (k2 10 hm).1 rfl
  · rw [e] at hc
    exact (k2 c hc).2
theorem lne_I {r : List Int} (h : itOk r) : Lne (lineI r) := by
  have hw := wordI_wrd h
  rcases h.cases' with ⟨a, b, c, rfl, ha, hb, hc⟩ | ⟨a, b, rfl, ha, hb⟩
  · exact .of hw (Nat.le_refl _) (tl_lineI3 a b c)
  · exact .of hw (Nat.le_of_ble_eq_true rfl) (tl_lineI2 a b)
theorem lne_N {n : Int} (h : 0 ≤ n ∧ n < 10) : Lne (lineN n) := .of (wordN_wrd h) (Nat.le_of_ble_eq_true rfl) (tl_lineN n)
/-! ### numbers among words -/
structure Nfw (w : Str) : Prop where
  l1 : 1 ≤ w.length
  l2 : w.length ≤ 100
  nf : ∀ (k c : Nat), w.cps[k]? = some c → fig c = false
  nn : nW w = false
theorem Nfw.lit {w : Str} (h : (decide (1 ≤ w.length) && decide (w.length ≤ 100) && (w.cps.toList.all fun c => !fig c) && !nW w) = true) : Nfw w := by
  simp only [Bool.and_eq_true, decide_eq_true_eq, List.all_eq_true, Bool.not_eq_true'] at h
  obtain ⟨⟨⟨h1, h2⟩, h3⟩, h4⟩ := h
  exact ⟨h1, h2, fun k c hc => h3 c (List.mem_of_getElem? (i := k) (by rw [← hc]; simp)), h4⟩
theorem nfw_with : Nfw "with" := .lit (by decide +kernel)
theorem nfw_gives : Nfw "gives" := .lit (by decide +kernel)
theorem nfw_unlike : Nfw "unlike" := .lit (by decide +kernel)
theorem nfw_names : Nfw "names" := .lit (by decide +kernel)
def numW (w : Str) : Prop := (∃ i : Int, w = numS i ∧ 0 ≤ i ∧ i < 10) ∨ Nfw w
theorem wordI_num {r : List Int} (h : itOk r) : (∀ w ∈ wordI r, numW w) ∧ ((wordI r).filter nW).map vW = r := by
  rcases h.cases' with ⟨a, b, c, rfl, ha, hb, hc⟩ | ⟨a, b, rfl, ha, hb⟩
  · refine ⟨fun w hw => ?_, ?_⟩
    · simp only [wordI, List.mem_cons, List.not_mem_nil, or_false] at hw
      rcases hw with rfl | rfl | rfl | rfl | rfl
      · exact .inl ⟨a, rfl, ha⟩
      · exact .inr nfw_with
      · exact .inl ⟨b, rfl, hb⟩
      · exact .inr nfw_gives
      · exact .inl ⟨c, rfl, hc⟩
    · simp only [wordI, List.filter, nW_num ha.1 ha.2, nW_num hb.1 hb.2, nW_num hc.1 hc.2, nfw_with.nn, nfw_gives.nn, List.map_cons, List.map_nil, vW_num ha.1 ha.2, vW_num hb.1 hb.2, vW_num hc.1 hc.2]
  · refine ⟨fun w hw => ?_, ?_⟩
    · simp only [wordI, List.mem_cons, List.not_mem_nil, or_false] at hw
      rcases hw with rfl | rfl | rfl
      · exact .inl ⟨a, rfl, ha⟩
      · exact .inr nfw_unlike
      · exact .inl ⟨b, rfl, hb⟩
    · simp only [wordI, List.filter, nW_num ha.1 ha.2, nW_num hb.1 hb.2, nfw_unlike.nn, List.map_cons, List.map_nil, vW_num ha.1 ha.2, vW_num hb.1 hb.2]
end DL

/-! Exceptions: defs that may raise, raise, try with named handlers. -/
namespace DL
open PySem PySem.Spec PyProof.Rows L2
section
variable {P : Program} {w : World} {K : PySem.W.Frag} {mg : Str → Option Value} {base : Heap}
/-- a def that may raise, by its body -/
theorem okDX {x qual : Str} {st : Stmt} {f : Addr} {fd : FuncData} {N ps : List Str} {k : Nat} {sp : SpD} (F : Fun K x qual st f fd) (S : FnScope N ps (defScope st)) (len : ∀ ds M Q E, sp ds M Q E → ds.length = ps.length)
    (hbody : ∀ (cdv : Value) (A : Around) (outer : List Env) (s : Shared) (H : Hp) (E : XK), Room k (A.deeper (envOfC qual (defScope st) s.heap.objs.size f cdv)) → A.guards = some [] → ∀ (ds : List D) (M : Mp) (Q : KD) (E' : XD), sp ds M Q E' →
      ∃ t, DSs (cxOf (L2.CX P w) P w K mg base N qual (defScope st) f cdv A outer s H E) (defBody st) t ∧ t { nx := fun _ M' => Q .non M', rt := Q, xc := E' } (startD N ds) M) : FnD P w K mg base (L2.CX P w) (k + 1) f fd ps sp := by
  obtain ⟨oc, od, kV, doc, pm, an, cdv, ct, osl, rfl, lk, hcd⟩ := F.ex
  refine fnG_of lk hcd S (len_up len) fun A outer s H vs Q E hr hg ⟨ds, M, Q', E', f, m, h, k1, k2⟩ => ?_
  obtain ⟨t, ht, q⟩ := hbody cdv A outer s H E hr hg ds M Q' E' h
  exact ⟨_, ht, startD N ds, M, _, relS_start f, m, q, ⟨fun σ' ρ' H' M' r s q => k1 _ _ _ _ .non s q, k1, fun _ _ _ _ _ _ z => z.elim, fun _ _ _ _ _ _ z => z.elim,
    fun cv od σ' H' fs M' x s q => Wc.of (L2.takes_of rfl rfl rfl rfl) (k2 cv od H' fs M' x s q)⟩⟩
end

/-! ### expressions that may raise -/
abbrev TEX := DSt → Mp → KD → XD → Prop
def upX (X : Cx) (t : TEX) : TE := fun σ H Q => ∃ ρ M Q' E', RelS X.K H σ ρ ∧ MemOk X.K H M ∧ t ρ M Q' E' ∧ KLe X.K H M Q' Q ∧ ∀ cv od σ' H' fs M', XOk X.K H' od fs → Step X.K H M H' M' → E' cv fs M' → Wc X cv od σ' H'
abbrev DX (X : Cx) (e : Expr) (t : TEX) : Prop := PE X e (upX X t)
abbrev TAX := DSt → Mp → (List D → Mp → Prop) → XD → Prop
def upAX (X : Cx) (t : TAX) : TA := fun σ H Q => ∃ ρ M Q' E', RelS X.K H σ ρ ∧ MemOk X.K H M ∧ t ρ M Q' E' ∧ (∀ vs H' ds M', FzAll X.K H' vs ds → Step X.K H M H' M' → Q' ds M' → Q vs H') ∧ ∀ cv od σ' H' fs M', XOk X.K H' od fs → Step X.K H M H' M' → E' cv fs M' → Wc X cv od σ' H'
abbrev DAX (X : Cx) (es : List Expr) (t : TAX) : Prop := PA X es (upAX X t)
section
variable {X : Cx} {k : Nat} {f : Addr} {fd : FuncData} {ps : List Str} {sp : SpD} {x : Str} {p pos pos2 : Pos} {e : Expr} {es : List Expr} {te : TED} {tx ux : TEX} {ta : TAD} {tax : TAX}
/-- what does not raise -/
def xE (t : TED) : TEX := fun ρ M Q _ => t ρ M Q
theorem dx_of (h : DE X e te) : DX X e (xE te) := pe_weak h fun σ H Q ⟨ρ, M, Q', E', r, m, q, k, _⟩ => ⟨ρ, M, Q', r, m, q, k⟩
def xA (t : TAD) : TAX := fun ρ M Q _ => t ρ M Q
theorem dax_of (h : DA X es ta) : DAX X es (xA ta) := pa_weak h fun σ H Q ⟨ρ, M, Q', E', r, m, q, k, _⟩ => ⟨ρ, M, Q', r, m, q, k⟩
/-- f(..), f may raise -/
def xCall (sp : SpD) (t : TAD) : TEX := fun ρ M Q E => t ρ M fun ds M1 => sp ds M1 Q E
theorem dx_call (F : FnD X.prog X.w X.K X.mg X.base (L2.CX X.prog X.w) k f fd ps sp) (hr : Room k X.A) (hgd : X.A.guards = some []) (hg : Gl X x) (hm : X.mg x = some (.ref f)) (hk : PySem.W.keepIn X.K (.ref f) = true) (hb : Binds X.K fd ps [])
    (ha : DA X (e :: es) ta) (hdb : (x == ("__debug__" : Str)) = false := by decide) (he : starEach (e :: es) X.env = (false, eval e X.env) :: starEach es X.env := by rfl) (hpl : (backTo pos (starEach es X.env)).any (·.1) = false := by rfl) :
    DX X (.Call (.Name x p) (e :: es) [] pos) (xCall sp ta) :=
  pe_weak (pe_callG F hr hgd hg hm hk hb (L2.passes_call (E := fun cls d H => ∀ σ, Wc X cls d σ H) takes_c fun cls d σ H h => h σ) ha hdb he hpl) fun σ H Q ⟨ρ, M, Q', E', r, m, h, k, kx⟩ =>
    ⟨ρ, M, _, r, m, h, fun vs H1 ds M1 fs s q => ⟨ds, M1, Q', E', fs, s.mem, q, k.after s, fun cv od H' fs' M' y t q' σ' => kx cv od σ' H' fs' M' y (s.trans t) q'⟩⟩
def xCons (t : TEX) (u : TAX) : TAX := fun ρ M Q E => t ρ M (fun d M1 => u ρ M1 (fun ds M2 => Q (d :: ds) M2) E) E
def xNil : TAX := fun _ M Q _ => Q [] M
theorem dax_nil : DAX X [] xNil := pa_weak pa_nil fun σ H Q ⟨ρ, M, Q', E', r, m, h, k, _⟩ => k [] H [] M .nil (.refl m) h
theorem dax_cons (h1 : DX X e tx) (h2 : DAX X es tax) (hs : starEach (e :: es) X.env = (false, eval e X.env) :: starEach es X.env := by rfl) : DAX X (e :: es) (xCons tx tax) :=
  pa_weak (pa_cons h1 h2 hs) fun σ H Q ⟨ρ, M, Q', E', r, m, h, k, kx⟩ => ⟨ρ, M, _, E', r, m, h, fun v H1 d M1 f s q =>
    ⟨ρ, M1, _, E', r.up s.tups, s.mem, q, fun vs H2 ds M2 fs s2 q2 => k (v :: vs) H2 (d :: ds) M2 (.cons (f.up s2.tups) fs) (s.trans s2) q2, fun cv od σ' H' fs' M' y t q' => kx cv od σ' H' fs' M' y (s.trans t) q'⟩, kx⟩
def xLst (t : TAX) : TEX := fun ρ M Q E => t ρ M (fun ds M1 => ds.length ≤ sizeLine ∧ ∀ p, M1 p = none → Q (.ref p) (updM M1 p (.lst ds))) E
theorem dx_lst (h : DAX X es tax) : DX X (.List es pos) (xLst tax) :=
  pe_weak (pe_lst h) fun σ H Q ⟨ρ, M, Q', E', r, m, h, k, kx⟩ => ⟨ρ, M, _, E', r, m, h, fun vs H1 ds M1 fs s q => ⟨by rw [fs.length]; exact q.1, fun p hp => (k.after s).newLst s.mem fs q.2 hp⟩, kx⟩
def xTup (t : TAX) : TEX := fun ρ M Q E => t ρ M (fun ds M1 => ds.length ≤ sizeLine ∧ Q (.tup ds) M1) E
theorem dx_tup {x1} (h : DAX X es tax) : DX X (.Tuple es x1 pos) (xTup tax) :=
  pe_weak (pe_tupZ h) fun σ H Q ⟨ρ, M, Q', E', r, m, h, k, kx⟩ => ⟨ρ, M, _, E', r, m, h, fun vs H1 ds M1 fs s q => ⟨by rw [fs.length]; exact q.1, fun p o hp ho => (k.after s).newTup s.mem fs q.2 hp ho⟩, kx⟩
/-- return e -/
def dRetX (t : TEX) : TSD := fun E ρ M => t ρ M E.rt E.xc
theorem ds_retX (h : DX X e tx) : DS X (.Return (some e) pos) (dRetX tx) :=
  ps_weak (ps_ret h) fun E σ H ⟨ρ, M, E', r, m, h, k⟩ => ⟨ρ, M, E'.rt, E'.xc, r, m, h, k.rt, k.xc⟩
/-- e as a statement -/
def dDropX (t : TEX) : TSD := fun E ρ M => t ρ M (fun _ M2 => E.nx ρ M2) E.xc
theorem ds_exprX (h : DX X e tx) (hs : swapsWith e none pos.line X.env = pure false := by rfl) : DS X (.Expr e pos) (dDropX tx) :=
  ps_weak (ps_expr h hs) fun E σ H ⟨ρ, M, E', r, m, h, k⟩ => ⟨ρ, M, _, E'.xc, r, m, h, fun v H' d M' f t q => k.nx _ _ _ _ (r.up t.tups) t q, k.xc⟩
/-- x = e -/
def dSetX (i : Nat) (t : TEX) : TSD := fun E ρ M => t ρ M (fun d M2 => E.nx (ρ.set i (some d)) M2) E.xc
theorem ds_setX {i : Nat} {y : Str} {pos' : Pos} (hN : X.N.Nodup) (hi : X.N[i]? = some y) (hy : Loc X.env.scope y) (he : DX X e tx) (hs : swapsWith e (some (.Name y pos')) pos.line X.env = pure false := by rfl) (hf : X.fn y = true ∨ X.env.scope.names.lookup y = some .local := by first | exact .inl rfl | exact .inr rfl | assumption) :
    DS X (.Assign [.Name y pos'] e pos) (dSetX i tx) :=
  ps_weak (ps_set hN hi hy he hs hf) fun E σ H ⟨ρ, M, E', r, m, h, k⟩ => ⟨ρ, M, _, E'.xc, r, m, h, fun v H1 d M1 f s q => k.nx _ _ _ _ ((r.up s.tups).set i f) s q, k.xc⟩
end

/-! ### error classes of the text -/
/-- the class named x stands at C, its own __init__ at f; its instances' fields are ns -/
structure ErrC (K : PySem.W.Frag) (mg : Str → Option Value) (x : Str) (C f : Addr) (ns : List Str) : Prop where
  g : mg x = some (.ref C)
  ox : L2.OexC K C
  xf : L2.XfC K C
  ini : PySem.W.findIn K (.ref C) "__init__" = some (some (.ref f))
  tI : PySem.W.typeIn K (.ref f) = some (.type "function")
  no : ∀ n ∈ ns, PySem.W.findIn K (.ref C) n = some none
/-- what __init__ does: it stores what it is handed -/
def spI1 (C : Addr) (a1 : Str) : Sp := fun vs H Q _ => ∃ (p : Addr) (v : V), vs = [.ref p, v] ∧ H p = some (exo p C none) ∧ ∀ d, H d = none → d ≠ p → Q .non (upd (upd H d (exd d [(a1, v)])) p (exo p C (some d)))
def spI2 (C : Addr) (a1 a2 : Str) : Sp := fun vs H Q _ => ∃ (p : Addr) (v u : V), vs = [.ref p, v, u] ∧ H p = some (exo p C none) ∧ ∀ d, H d = none → d ≠ p → Q .non (upd (upd (upd H d (exd d [(a1, v)])) p (exo p C (some d))) d (exd d [(a2, u), (a1, v)]))
def flds (ns : List Str) (ds : List D) : List (Str × D) := (ns.zip ds).reverse
theorem FzAll.rev {K : PySem.W.Frag} {H : Hp} : ∀ {vs : List V} {ds : List D}, FzAll K H vs ds → FzAll K H vs.reverse ds.reverse
  | _, _, .nil => .nil
  | _, _, .cons f r => by
    rw [List.reverse_cons, List.reverse_cons]
    exact (FzAll.rev r).append (.cons f .nil)
section
variable {P : Program} {w : World} {K : PySem.W.Frag} {mg : Str → Option Value} {base : Heap} {qual : Str} {st : Stmt} {f C : Addr} {fd : FuncData} {a1 a2 : Str} {N : List Str}
theorem okI1 (F : Fun K "__init__" qual st f fd) (S : FnScope N ["self", a1] (defScope st)) (ox : L2.OexC K C) (n1 : PySem.W.findIn K (.ref C) a1 = some none)
    (hd : ∀ cdv A outer s H E, PSs (cxOf CX0 P w K mg base N qual (defScope st) f cdv A outer s H E).nox (defBody st) (tOst K a1 (tVar 0) (tVar 1))) : FnOk P w K mg base CX0 1 f fd ["self", a1] (spI1 C a1) := by
  refine F.ok S (fun vs H Q E h => ?_) (fun cdv A outer s H vs Q E hr h => ⟨_, hd cdv A outer s H E, ?_⟩)
  · obtain ⟨p, v, rfl, _⟩ := h; rfl
  · obtain ⟨p, v, rfl, e, q⟩ := h
    exact ⟨_, rfl, _, rfl, p, C, rfl, ox, n1, .inl ⟨e, fun d hd hne => q d hd hne⟩⟩
theorem okI2 (F : Fun K "__init__" qual st f fd) (S : FnScope N ["self", a1, a2] (defScope st)) (ox : L2.OexC K C) (n1 : PySem.W.findIn K (.ref C) a1 = some none) (n2 : PySem.W.findIn K (.ref C) a2 = some none)
    (hd : ∀ cdv A outer s H E, PSs (cxOf CX0 P w K mg base N qual (defScope st) f cdv A outer s H E).nox (defBody st) (tSeq (tOst K a1 (tVar 0) (tVar 1)) (tOst K a2 (tVar 0) (tVar 2)))) : FnOk P w K mg base CX0 1 f fd ["self", a1, a2] (spI2 C a1 a2) := by
  refine F.ok S (fun vs H Q E h => ?_) (fun cdv A outer s H vs Q E hr h => ⟨_, hd cdv A outer s H E, ?_⟩)
  · obtain ⟨p, v, u, rfl, _⟩ := h; rfl
  · obtain ⟨p, v, u, rfl, e, q⟩ := h
    exact ⟨_, rfl, _, rfl, p, C, rfl, ox, n1, .inl ⟨e, fun d hd hne => ⟨_, rfl, _, rfl, p, C, rfl, ox, n2, .inr ⟨d, _, upd_same, by rw [upd_ne hne]; exact upd_same, by show 1 ≤ 900; omega, q d hd hne⟩⟩⟩⟩
end
/-- a class x of errors is what 'except x' names, or is not -/
theorem exmD {K : PySem.W.Frag} {S C : Addr} {b : Bool} (h1 : PySem.W.subIn K (.ref C) (.type "BaseException") = some true) (h2 : PySem.W.isClsIn K C = true) (h3 : PySem.W.typeIn K (.ref C) = some (.type "type")) (h4 : PySem.W.subIn K (.ref S) (.ref C) = some b) :
    PySem.W.exmOne K (.ref S) (.ref C) = some b := by
  have e1 : (PySem.W.subIn K (.ref C) (.type "BaseException") == some true) = true := by rw [h1] <;> rfl
  have h2' : (PySem.W.clsIn K C).isSome = true := h2
  have e2 : ((PySem.W.clsIn K C).isSome && PySem.W.typeIn K (.ref C) == some (.type "type")) = true := by rw [h2', h3] <;> rfl
  unfold PySem.W.exmOne PySem.W.kitCls
  rw [if_pos e1]
  show (if _ then PySem.W.subIn K (.ref S) (.ref C) else none) = some b
  rw [if_pos e2]
  exact h4
theorem zip_rev {α β : Type} : ∀ {a : List α} {b : List β}, a.length = b.length → (a.zip b).reverse = a.reverse.zip b.reverse
  | [], [], _ => rfl
  | [], _ :: _, h => by cases h
  | _ :: _, [], h => by cases h
  | x :: a, y :: b, h => by
    have h : a.length = b.length := by simpa using h
    rw [List.zip_cons_cons, List.reverse_cons, List.reverse_cons, List.reverse_cons, List.zip_append (by simp [h]), zip_rev h]
    rfl
theorem look_put {α : Type} (f g : Str) (y : α) (fs : List (Str × α)) : ((f, y) :: fs).lookup g = if g = f then some y else fs.lookup g := by
  by_cases h : g = f
  · subst h
    simp [List.lookup]
  · have e : (g == f) = false := by simpa using h
    rw [if_neg h]
    simp [List.lookup, e]
/-- raise C(..) -/
def dRaise (C : Addr) (ns : List Str) (t : TAD) : TSD := fun E ρ M => t ρ M fun ds M1 => ds.length = ns.length ∧ E.xc (.ref C) (flds ns ds) M1
section
variable {X : Cx} {x : Str} {C f : Addr} {fd : FuncData} {k : Nat} {e1 e2 : Expr} {ta : TAD} {p pos pos2 : Pos} {a1 a2 : Str}
theorem raise_end {ns : List Str} {vs : List V} {ds : List D} {M M1 : Mp} {E' : EndD} {E : Ends} {σ : L2.St} {H H1 : Hp} {d : Addr} (k : EndLe X H M E' E) (s : Step X.K H M H1 M1) (fs : FzAll X.K H1 vs ds) (hd : H1 d = none) (hl : ds.length = ns.length)
    (q : E'.xc (.ref C) (flds ns ds) M1) : Wc X (.ref C) (some d) σ (upd H1 d (.xd (ns.zip vs).reverse)) := by
  have st : Step X.K H1 M1 (upd H1 d (.xd (ns.zip vs).reverse)) M1 := .newT s.mem hd
  have e : (flds ns ds).map (·.1) = ns.reverse ∧ (flds ns ds).map (·.2) = ds.reverse := by
    unfold flds
    rw [List.map_reverse, List.map_reverse, List.map_fst_zip (by omega), List.map_snd_zip (by omega)]
    exact ⟨rfl, rfl⟩
  refine k.xc _ (some d) σ _ _ M1 ⟨vs.reverse, ?_, ?_⟩ (s.trans st) q
  · rw [e.1, upd_same, zip_rev (by rw [fs.length]; omega)]
  · rw [e.2]
    exact (fs.up st.tups).rev
theorem ds_raise1 (hc : X.calm = true) (T : ErrC X.K X.mg x C f [a1]) (F : FnOk X.prog X.w X.K X.mg X.base CX0 k f fd ["self", a1] (spI1 C a1)) (hb : Binds X.K fd ["self", a1] []) (hr : Room (k + 1) X.A) (hg : Gl X x) (ha : DA X [e1] ta)
    (hdb : (x == ("__debug__" : Str)) = false := by decide) (he : starEach (e1 :: []) X.env = (false, eval e1 X.env) :: starEach [] X.env := by rfl) (hpl : (backTo pos (starEach [] X.env)).any (·.1) = false := by rfl) :
    DS X (.Raise (some (.Call (.Name x p) [e1] [] pos)) none pos2) (dRaise C [a1] ta) := by
  refine ps_weak (ps_raise hc takes_c (pmk_oex (dvs := []) T.ox T.ini T.tI F hr hb .nil pass0 hg T.g ha hdb he hpl)) fun E σ H ⟨ρ, M, E', r, m, h, k⟩ => ?_
  refine ⟨ρ, M, _, r, m, h, fun vs H1 ds M1 fs s q => ?_⟩
  have hl := fs.length.trans q.1
  match vs, hl, fs with
  | [v], _, fs =>
    refine ⟨by show 1 ≤ 1000; omega, fun a na => ⟨a, v, rfl, upd_same, fun d hd hne => ⟨rfl, d, [(a1, v)], upd_same, by rw [upd_ne hne]; exact upd_same, by rw [upd_ne hne] at hd; exact hd, ?_⟩⟩⟩
    rw [upd_ne hne] at hd
    have z := raise_end (ns := [a1]) (σ := σ) k s fs hd q.1 q.2
    have e : upd (del (upd (upd (upd H1 a (exo a C none)) d (exd d [(a1, v)])) a (exo a C (some d))) a) d (.xd [(a1, v)]) = upd H1 d (.xd [(a1, v)]) := by
      funext b
      by_cases h1 : b = d
      · rw [h1, upd_same, upd_same]
      · rw [upd_ne h1, upd_ne h1]
        by_cases h2 : b = a
        · rw [h2, del_same, na]
        · rw [del_ne h2, upd_ne h2, upd_ne h1, upd_ne h2]
    rw [e]
    exact z
theorem ds_raise2 (hc : X.calm = true) (T : ErrC X.K X.mg x C f [a1, a2]) (F : FnOk X.prog X.w X.K X.mg X.base CX0 k f fd ["self", a1, a2] (spI2 C a1 a2)) (hb : Binds X.K fd ["self", a1, a2] []) (hr : Room (k + 1) X.A) (hg : Gl X x) (ha : DA X [e1, e2] ta)
    (hdb : (x == ("__debug__" : Str)) = false := by decide) (he : starEach (e1 :: [e2]) X.env = (false, eval e1 X.env) :: starEach [e2] X.env := by rfl) (hpl : (backTo pos (starEach [e2] X.env)).any (·.1) = false := by rfl) :
    DS X (.Raise (some (.Call (.Name x p) [e1, e2] [] pos)) none pos2) (dRaise C [a1, a2] ta) := by
  refine ps_weak (ps_raise hc takes_c (pmk_oex (dvs := []) T.ox T.ini T.tI F hr hb .nil pass0 hg T.g ha hdb he hpl)) fun E σ H ⟨ρ, M, E', r, m, h, k⟩ => ?_
  refine ⟨ρ, M, _, r, m, h, fun vs H1 ds M1 fs s q => ?_⟩
  have hl := fs.length.trans q.1
  match vs, hl, fs with
  | [v, u], _, fs =>
    refine ⟨by show 2 ≤ 1000; omega, fun a na => ⟨a, v, u, rfl, upd_same, fun d hd hne => ⟨rfl, d, [(a2, u), (a1, v)], by rw [upd_ne (Ne.symm hne)]; exact upd_same, upd_same, by rw [upd_ne hne] at hd; exact hd, ?_⟩⟩⟩
    rw [upd_ne hne] at hd
    have z := raise_end (ns := [a1, a2]) (σ := σ) k s fs hd q.1 q.2
    have e : upd (del (upd (upd (upd (upd H1 a (exo a C none)) d (exd d [(a1, v)])) a (exo a C (some d))) d (exd d [(a2, u), (a1, v)])) a) d (.xd [(a2, u), (a1, v)]) = upd H1 d (.xd [(a2, u), (a1, v)]) := by
      funext b
      by_cases h1 : b = d
      · rw [h1, upd_same, upd_same]
      · rw [upd_ne h1, upd_ne h1]
        by_cases h2 : b = a
        · rw [h2, del_same, na]
        · rw [del_ne h2, upd_ne h1, upd_ne h2, upd_ne h1, upd_ne h2]
    rw [e]
    exact z
end

/-! ### except X as n -/
theorem takes_len {X : Cx} {W : WX} (t : L2.Takes X W) : L2.Takes X (fun c d σ H => σ.length = X.N.length → W c d σ H) := fun u s' ⟨a, B, sI, pins, σ, H, cls, d, e, I, nb, up, sky, na, os, ag, w⟩ =>
  t u s' ⟨a, B, sI, pins, σ, H, cls, d, e, I, nb, up, sky, na, os, ag, w I.len⟩
/-- the exception at a stands on the ground, the state without it is sI -/
structure Lnd (X : Cx) (pins : List (Addr × Obj)) (σ : L2.St) (H : Hp) (cls : Value) (d : Option Addr) (a : Addr) (B : Heap) (sI s : Shared) : Prop where
  inv : Inv X pins σ H sI
  nb : ∀ b o, sI.heap.get? b = some o → b ∉ frs X.stack → B.get? b = some o
  up : sI.heap.UpToSlots s.heap
  fl : HandSPX.FlyingZ B (X.env :: X.outer) a (Zc cls d) s.heap
  na : H a = none
  os : s.os = sI.os
  ag : AllBare s.gens
/-- handlers that serve the wish w -/
def HandOk (X : Cx) (De : Ends) (hds : List ExceptHandler) (w : WX) : Prop := ∀ pins σ H cls d a B sI s, Lnd X pins σ H cls d a B sI s → w cls d σ H → wpAny (model X.prog X.w) X.A (handleBy (.ref a) X.env hds) (SP X pins De) X.xe s
section
variable {X : Cx} {De : Ends} {pins : List (Addr × Obj)} {σ : L2.St} {H : Hp} {cls : Value} {d : Option Addr} {a : Addr} {B : Heap} {sI s : Shared}
theorem Lnd.inv' (L : Lnd X pins σ H cls d a B sI s) : Inv X pins σ H s := L.inv.landed L.nb L.fl.1 L.up L.os L.ag
theorem Lnd.notFr (L : Lnd X pins σ H cls d a B sI s) : a ∉ frs (X.env :: X.outer) := fun hm => by
  obtain ⟨oe, vs, he, _, hd⟩ := L.fl.there
  obtain ⟨_, o', e', hnf⟩ := L.fl.2.2.1.mem hm
  rw [he] at e'
  cases e'
  exact hnf _ hd
theorem Lnd.suite (hf : X.env.frame = some X.env.locals) (L : Lnd X pins σ H cls d a B sI s) : ∃ oe, Zc cls d oe ∧ (∃ vs, oe.data = .fields vs) ∧ s.heap.get? a = some oe ∧ Inv (X.suite a ((a, oe) :: (X.pn ++ pins))) [] σ H s := by
  obtain ⟨oe, vs, he, hz, hd⟩ := L.fl.there
  refine ⟨oe, hz, ⟨vs, hd⟩, he, L.inv'.suite he hd L.na (fun z => L.notFr (List.mem_filterMap.mpr ⟨X.env, List.mem_cons_self, by rw [hf, z]⟩)) fun hm => ?_⟩
  obtain ⟨e, he, q⟩ := List.mem_filterMap.mp hm
  exact L.notFr (List.mem_filterMap.mpr ⟨e, List.mem_cons_of_mem _ he, q⟩)
theorem hand_nil {W : WX} (hs : X.stack = X.env :: X.outer) (hf : X.env.frame = some X.env.locals) (tk : L2.Takes X W) : HandOk X De [] W := fun pins σ H cls d a B sI s L w => by
  refine wpAny_handleBy_nil ?_
  obtain ⟨k1, k2, k3, oe, vs, T, oT, ts', he, hz, hd, h1, hr⟩ := id L.fl
  have last : wpAny (model X.prog X.w) X.A (setFlight (.ref a) X.env.frame) (fun _ s4 => wpAny (model X.prog X.w) X.A (throw (.ref a) : Sem Flow) (SP X pins De) X.xe s4) X.xe s := by
    rw [hf]
    exact HandSPX.setFlight_upZ L.fl fun h4 hh4 up4 => wpAny_throw (tk _ _ ⟨a, B, sI, pins, σ, H, cls, d, rfl, L.inv, L.nb, L.up.trans up4, .inr (.inr (by rw [hs]; exact hh4)), L.na, L.os, L.ag, w⟩)
  unfold PySem.passOn
  refine wpAny_bind (wpAny_field he hd h1 ?_)
  rw [if_neg (show ¬ ((Value.ref T == Value.none) = true) from by simp)]
  first | exact wpAny_bind (wpAny_pure (wpAny_bind last)) | exact wpAny_bind last
/-- the wish of 'except x as n: suite', then the others' -/
def wNamed (K : PySem.W.Frag) (c : Value) (i : Nat) (ts : Addr → Value → Option Addr → TS) (w : WX) (De : Ends) : WX := fun cls d σ H => ∃ b, PySem.W.exmOne K cls c = some b ∧
  (b = true → ∀ a, H a = none → ts a cls d { nx := fun σ' H' => De.nx (σ'.set i none) H', rt := De.rt, bk := fun σ' H' => De.bk (σ'.set i none) H', ct := fun σ' H' => De.ct (σ'.set i none) H' } (σ.set i (some (.ref a))) H) ∧ (b = false → w cls d σ H)
theorem hand_as {x n : Str} {c : Value} {i : Nat} {b₀ : Stmt} {su : List Stmt} {np hp : Pos} {hds : List ExceptHandler} {w : WX} {ts : Addr → Value → Option Addr → TS} (hf : X.env.frame = some X.env.locals) (hN : X.N.Nodup) (hi : X.N[i]? = some n) (hl : X.env.kindOf n = some .local)
    (hc : Names X x c) (hsu : ∀ (a : Addr) (oe : Obj) (cls : Value) (d : Option Addr) (pn : List (Addr × Obj)), Zc cls d oe → (∃ vs, oe.data = .fields vs) → PSs (X.suite a ((a, oe) :: pn)) (b₀ :: su) (ts a cls d))
    (hr : HandOk X De hds w) : HandOk X De (.ExceptHandler (some (.Name x np)) (some n) (b₀ :: su) hp :: hds) (wNamed X.K c i ts w De) := fun pins σ H cls d a B sI s L ww => by
  obtain ⟨b, hb, yes, no⟩ := ww
  obtain ⟨oe, hz, hd, he, S⟩ := L.suite hf
  refine wpAny_handleBy_cons (codeAny_handlers_test ?_) (by intro q; cases q)
  have named : ∀ {Q : Value → Shared → Prop} {E : Value → Shared → Prop}, Q c s → wpAny (model X.prog X.w) (X.A.mark (some (.ref a))) (eval (.Name x np) X.env) Q E s := fun {Q E} q => by
    obtain ⟨hg, hdbg, hm | ⟨hm, hv, hnn⟩⟩ := hc
    · exact ld_glob (X := X.suite a ((a, oe) :: (X.pn ++ pins))) S hg hm q hdbg
    · exact ld_blt (X := X.suite a ((a, oe) :: (X.pn ++ pins))) S hg hm hv q hnn hdbg
  have ty : PySem.W.Looks (model X.prog X.w) s.heap (typeOf (.ref a)) cls := fun A Q E s' k q => wpAny_typeOf_ref (k _ _ he) (by rw [hz.1]; exact q)
  refine named ((PySem.W.exm_one (M := model X.prog X.w) L.inv'.kIn ty hb).here ?_)
  cases b with
  | false => exact hr pins σ H cls d a B sI s L (no rfl)
  | true =>
    refine codeAny_handlers_suite_as (HandSPX.lands_againZ L.fl fun h4 fl4 up4 => ?_)
    have L4 : Lnd X pins σ H cls d a B sI { s with heap := h4 } := ⟨L.inv, L.nb, L.up.trans up4, fl4, L.na, L.os, L.ag⟩
    obtain ⟨oe4, hz4, hd4, he4, S4⟩ := L4.suite hf
    refine store_ok (X := X.suite a ((a, oe4) :: (X.pn ++ pins))) (v := .ref a) S4 hN hi (.inl hl) rfl (fun s5 S5 => ?_) (.inr hl)
    refine wpAny_mono ((hsu a oe4 cls d (X.pn ++ pins) hz4 hd4).run [] s5 _ H _ S5 (yes rfl a L.na)) (fun f s6 q => ?_) fun _ _ z => False.elim z
    have gone : ∀ {σ6 : L2.St} {H6 : Hp} {Q : Shared → Prop}, Inv (X.suite a ((a, oe4) :: (X.pn ++ pins))) [] σ6 H6 s6 → (∀ s7, Inv X pins (σ6.set i none) H6 s7 → Q s7) →
        wpAny (model X.prog X.w) X.A (do bindName X.env n .none; unbindBehindTheSuite X.env n hp) (fun _ s7 => Q s7) X.xe s6 := fun S6 hq => gone_ok (S6.unsuite L.inv.ok) hN hi hl hq
    cases f with
    | next => obtain ⟨_, _, J, z⟩ := q; exact gone J fun s7 J7 => ⟨_, _, J7, z⟩
    | brk => obtain ⟨_, _, J, z⟩ := q; exact gone J fun s7 J7 => ⟨_, _, J7, z⟩
    | cont => obtain ⟨_, _, J, z⟩ := q; exact gone J fun s7 J7 => ⟨_, _, J7, z⟩
    | ret u => obtain ⟨_, _, _, J, rv, z⟩ := q; exact gone J fun s7 J7 => ⟨_, _, _, J7, rv, z⟩
theorem try_of {body : List Stmt} {h₀ : ExceptHandler} {hds : List ExceptHandler} {w : Ends → WX} {tb : WX → TS} {pos : Pos} (hs : X.stack = X.env :: X.outer) (hf : X.env.frame = some X.env.locals)
    (hb : ∀ (W : WX) (pn : List (Addr × Obj)) (xe : Value → Shared → Prop), L2.Takes (X.tr pn xe) W → PassesOwn (model X.prog X.w) X.A X.env xe → PSs (X.tr pn xe) body (tb W)) (hh : ∀ De, HandOk X De (h₀ :: hds) (w De)) :
    PS X (.Try body (h₀ :: hds) [] [] pos) (fun D σ H => tb (w D) D σ H) := by
  refine ⟨fun pins s σ H D I h => wpAny_Try_except ?_⟩
  have fr : X.A.frames = some (X.env :: X.outer) := by rw [I.ok.frames, hs]
  have run := hb (w D) (X.pn ++ pins) (fun e s₁ => wpAny (model X.prog X.w) X.A (noteFrame e X.env) (fun _ s₂ => wpAny (model X.prog X.w) X.A (setFlight e none) (fun _ s₃ => wpAny (model X.prog X.w) X.A (handleBy e X.env (h₀ :: hds)) (SP X pins D) X.xe s₃) X.xe s₂) X.xe s₁)
    (fun u s' xx => by
      obtain ⟨a, B, sI, pins', σ', H', cls, d, rfl, J, nb, up, sky, na, os, ag, ww⟩ := xx
      exact Sky.land Zc.steady fr hf (by rw [← hs]; exact sky) fun h3 fl3 up3 => hh D pins σ' H' cls d a B sI _ ⟨J.ofTry I.ok, nb, up.trans up3, fl3, na, os, ag⟩ ww) PassesOwn.looking
  refine wpAny_mono (run.run [] s σ H D (I.toTry _) h) (fun f s1 q => ?_) fun e s1 he => he
  cases f with
  | next => obtain ⟨_, _, J, z⟩ := q; exact wpAny_execs_nil ⟨_, _, J.ofTry I.ok, z⟩
  | brk => obtain ⟨_, _, J, z⟩ := q; exact ⟨_, _, J.ofTry I.ok, z⟩
  | cont => obtain ⟨_, _, J, z⟩ := q; exact ⟨_, _, J.ofTry I.ok, z⟩
  | ret u => obtain ⟨_, _, _, J, rv, z⟩ := q; exact ⟨_, _, _, J.ofTry I.ok, rv, z⟩
end

/-! ### over data -/
/-- the caught exception -/
def XoD (a : Addr) (od : Option Addr) (fs : List (Str × D)) (x : D) : Prop := match od with
  | none => fs = [] ∧ x = .ref a
  | some d => x = .xo a d (fs.map (·.1)) (fs.map (·.2))
def wipeE (i : Nat) (E : EndD) : EndD := { nx := fun ρ M => E.nx (ρ.set i none) M, rt := E.rt, bk := fun ρ M => E.bk (ρ.set i none) M, ct := fun ρ M => E.ct (ρ.set i none) M }
abbrev HdL := List (Value × Nat × (Addr → Value → Option Addr → TSD))
/-- what the handlers ask of the exception cv with the fields fs; n slots -/
def dHand (K : PySem.W.Frag) (n : Nat) : HdL → EndD → XD
  | [], E => E.xc
  | (c, i, ts) :: r, E => fun cv fs M => ∃ b, PySem.W.exmOne K cv c = some b ∧ (b = true → ∀ a od x, XoD a od fs x → ts a cv od (wipeE i E) ((List.replicate n none).set i (some x)) M) ∧ (b = false → dHand K n r E cv fs M)
/-- a suite in which nothing is raised -/
structure SuLe (K : PySem.W.Frag) (H : Hp) (M : Mp) (E' : EndD) (E : Ends) : Prop where
  nx : ∀ σ' ρ' H' M', RelS K H' σ' ρ' → Step K H M H' M' → E'.nx ρ' M' → E.nx σ' H'
  rt : KLe K H M E'.rt E.rt
  bk : ∀ σ' ρ' H' M', RelS K H' σ' ρ' → Step K H M H' M' → E'.bk ρ' M' → E.bk σ' H'
  ct : ∀ σ' ρ' H' M', RelS K H' σ' ρ' → Step K H M H' M' → E'.ct ρ' M' → E.ct σ' H'
  xc : ∀ cv fs M', ¬ E'.xc cv fs M'
def upSu (K : PySem.W.Frag) (t : TSD) : TS := fun E σ H => ∃ ρ M E', RelS K H σ ρ ∧ MemOk K H M ∧ t E' ρ M ∧ SuLe K H M E' E
theorem pss_su {X : Cx} {su : List Stmt} {t : TSD} (h : DSs X su t) : PSs X su (upSu X.K t) := pss_weak h fun E σ H ⟨ρ, M, E', r, m, q, k⟩ => ⟨ρ, M, E', r, m, q, k.nx, k.rt, k.bk, k.ct, fun _ _ _ _ _ _ _ _ z => (k.xc _ _ _ z).elim⟩
theorem RelS.wipe2 {K : PySem.W.Frag} {H : Hp} {σ : L2.St} {ρ : DSt} (h : RelS K H σ ρ) (i : Nat) : RelS K H (σ.set i none) (ρ.set i none) := by
  refine ⟨by rw [List.length_set, List.length_set, h.len], fun j e q => ?_⟩
  by_cases hj : i = j
  · subst hj
    by_cases hl : i < ρ.length
    · rw [List.getElem?_set_self hl] at q; cases q
    · rw [List.getElem?_eq_none (by rw [List.length_set]; omega)] at q; cases q
  · rw [List.getElem?_set_ne hj] at q
    obtain ⟨w, z, g⟩ := h.at_ j e q
    exact ⟨w, by rw [List.getElem?_set_ne hj]; exact z, g⟩
theorem RelS.nil {K : PySem.W.Frag} {H : Hp} {σ : L2.St} {n : Nat} (h : σ.length = n) : RelS K H σ (List.replicate n none) :=
  ⟨by rw [List.length_replicate, h], fun i d e => by rw [List.getElem?_replicate] at e; split at e <;> cases e⟩
inductive HdD (X : Cx) : List ExceptHandler → HdL → Prop
  | nil : HdD X [] []
  | cons {x n : Str} {c : Value} {i : Nat} {b₀ : Stmt} {su : List Stmt} {np hp : Pos} {hds : List ExceptHandler} {ts : Addr → Value → Option Addr → TSD} {l : HdL} (hN : X.N.Nodup) (hi : X.N[i]? = some n) (hl : X.env.kindOf n = some .local) (hc : Names X x c)
      (hsu : ∀ (a : Addr) (oe : Obj) (cls : Value) (d : Option Addr) (pn : List (Addr × Obj)), Zc cls d oe → (∃ vs, oe.data = .fields vs) → DSs (X.suite a ((a, oe) :: pn)) (b₀ :: su) (ts a cls d)) (r : HdD X hds l) :
      HdD X (.ExceptHandler (some (.Name x np)) (some n) (b₀ :: su) hp :: hds) ((c, i, ts) :: l)
def dTry (K : PySem.W.Frag) (n : Nat) (l : HdL) (tb : TSD) : TSD := fun E ρ M => tb { E with xc := dHand K n l E } ρ M
/-- what is wished of the body's exceptions -/
def wHd (X : Cx) (l : HdL) (De : Ends) : WX := fun cv od σ H => σ.length = X.N.length → ∃ (H0 : Hp) (M0 : Mp) (E : EndD) (fs : List (Str × D)) (M : Mp), EndLe X H0 M0 E De ∧ XOk X.K H od fs ∧ Step X.K H0 M0 H M ∧ dHand X.K X.N.length l E cv fs M
theorem xo_fz {K : PySem.W.Frag} {H : Hp} {a : Addr} {od : Option Addr} {fs : List (Str × D)} (h : XOk K H od fs) : ∃ x, XoD a od fs x ∧ Fz K H (.ref a) x := by
  cases od with
  | none => exact ⟨.ref a, ⟨h, rfl⟩, .ref a⟩
  | some d =>
    obtain ⟨xs, e, f⟩ := h
    exact ⟨_, rfl, .xo e f⟩
theorem HandOk.weak {X : Cx} {De : Ends} {hds : List ExceptHandler} {w w' : WX} (h : HandOk X De hds w) (g : ∀ c d σ H, σ.length = X.N.length → w' c d σ H → w c d σ H) : HandOk X De hds w' :=
  fun pins σ H cls d a B sI s L q => h pins σ H cls d a B sI s L (g _ _ _ _ L.inv.len q)
theorem hd_ok {X : Cx} {hds : List ExceptHandler} {l : HdL} (hs : X.stack = X.env :: X.outer) (hf : X.env.frame = some X.env.locals) (h : HdD X hds l) : ∀ De, HandOk X De hds (wHd X l De) := by
  induction h with
  | nil =>
    intro D
    refine hand_nil hs hf ((takes_len takes_c).imp fun c d σ H q hl => ?_)
    obtain ⟨H0, M0, E, fs, M, k, x, s, q⟩ := q hl
    exact k.xc c d σ H fs M x s q
  | @cons x n c i b₀ su np hp hds ts l hN hi hl hc hsu r ih =>
    intro D
    refine (hand_as (ts := fun a cls d => upSu X.K (ts a cls d)) hf hN hi hl hc (fun a oe cls d pn hz hd => pss_su (hsu a oe cls d pn hz hd)) (ih D)).weak fun cv od σ H len q => ?_
    obtain ⟨H0, M0, E, fs, M, k, xk, s, b, hb, yes, no⟩ := q len
    refine ⟨b, hb, fun hb a na => ?_, fun hb _ => ⟨H0, M0, E, fs, M, k, xk, s, no hb⟩⟩
    obtain ⟨x, hx, fx⟩ := xo_fz (a := a) xk
    refine ⟨_, M, _, (RelS.nil len).set i fx, s.mem, yes hb a od x hx, ⟨fun σ' ρ' H' M' r t q => k.nx _ _ _ _ (r.wipe2 i) (s.trans t) q, fun v H' d M' f t q => k.rt v H' d M' f (s.trans t) q,
      fun σ' ρ' H' M' r t q => k.bk _ _ _ _ (r.wipe2 i) (s.trans t) q, fun σ' ρ' H' M' r t q => k.ct _ _ _ _ (r.wipe2 i) (s.trans t) q, fun _ _ _ z => z⟩⟩
/-- try: body; except X as n: .. -/
theorem ds_try {X : Cx} {body : List Stmt} {h₀ : ExceptHandler} {hds : List ExceptHandler} {l : HdL} {tb : TSD} {pos : Pos} (hs : X.stack = X.env :: X.outer) (hf : X.env.frame = some X.env.locals)
    (hb : ∀ (pn : List (Addr × Obj)) (xe : Value → Shared → Prop), PassesOwn (model X.prog X.w) X.A X.env xe → DSs (X.tr pn xe) body tb) (hh : HdD X (h₀ :: hds) l) : DS X (.Try body (h₀ :: hds) [] [] pos) (dTry X.K X.N.length l tb) := by
  refine ps_weak (try_of (w := wHd X l) (tb := fun W D σ H => ∃ ρ M E', RelS X.K H σ ρ ∧ MemOk X.K H M ∧ tb E' ρ M ∧ (∀ σ' ρ' H' M', RelS X.K H' σ' ρ' → Step X.K H M H' M' → E'.nx ρ' M' → D.nx σ' H') ∧ KLe X.K H M E'.rt D.rt ∧
    (∀ σ' ρ' H' M', RelS X.K H' σ' ρ' → Step X.K H M H' M' → E'.bk ρ' M' → D.bk σ' H') ∧ (∀ σ' ρ' H' M', RelS X.K H' σ' ρ' → Step X.K H M H' M' → E'.ct ρ' M' → D.ct σ' H') ∧
    (∀ cv od σ' H' fs M', σ'.length = X.N.length → XOk X.K H' od fs → Step X.K H M H' M' → E'.xc cv fs M' → W cv od σ' H')) hs hf ?_ (hd_ok hs hf hh)) ?_
  · refine fun W pn xe tk po => pss_weak (hb pn xe po) fun E σ H ⟨ρ, M, E', r, m, q, k1, k2, k3, k4, k5⟩ => ⟨ρ, M, E', r, m, q, ⟨k1, k2, k3, k4, fun cv od σ' H' fs M' x s z => ?_⟩⟩
    exact Wc.of (takes_len tk) fun hl => k5 cv od σ' H' fs M' hl x s z
  · exact fun E σ H ⟨ρ, M, E', r, m, q, k⟩ => ⟨ρ, M, _, r, m, q, k.nx, k.rt, k.bk, k.ct, fun cv od σ' H' fs M' hl x s z _ => ⟨H, M, E', fs, M', k, x, s, z⟩⟩
/-- e.f, e the caught exception -/
def dXf (a : Addr) (cls : Value) (od : Option Addr) (C : Addr) (f : Str) (te : TED) : TED := fun ρ M Q => te ρ M fun x M1 => cls = .ref C ∧ match x with
  | .xo a' d ns ds => a' = a ∧ od = some d ∧ match (ns.zip ds).lookup f with
    | some v => Q v M1
    | none => False
  | _ => False
theorem fz_lookup {K : PySem.W.Frag} {H : Hp} {f : Str} {d : D} : ∀ {ns : List Str} {xs : List V} {ds : List D}, FzAll K H xs ds → (ns.zip ds).lookup f = some d → ∃ v, (ns.zip xs).lookup f = some v ∧ Fz K H v d
  | [], _, _, _, e => by cases e
  | _ :: _, _, _, .nil, e => by cases e
  | n :: ns, _, _, .cons g r, e => by
    rw [List.zip_cons_cons, look_put] at e ⊢
    by_cases h : f = n
    · rw [if_pos h] at e ⊢
      cases e
      exact ⟨_, rfl, g⟩
    · rw [if_neg h] at e ⊢
      exact fz_lookup r e
theorem de_xf {X : Cx} {a C : Addr} {oe : Obj} {cls : Value} {d : Option Addr} {pn : List (Addr × Obj)} {e : Expr} {te : TED} {pos : Pos} {n : Str} (T : L2.XfC X.K C) (hno : PySem.W.findIn X.K (.ref C) n = some none) (hz : Zc cls d oe) (hf : ∃ vs, oe.data = .fields vs)
    (he : DE (X.suite a ((a, oe) :: pn)) e te) (hb : attributeBase e n X.env (eval e X.env) = eval e X.env := by rfl) : DE (X.suite a ((a, oe) :: pn)) (.Attribute e n pos) (dXf a cls d C n te) :=
  pe_weak (pe_xf T hno hz hf he hb) fun σ H Q ⟨ρ, M, Q', r, m, q, k⟩ => ⟨ρ, M, _, r, m, q, fun v H1 x M1 f s q => by
    obtain ⟨ec, q⟩ := q
    cases x with
    | xo a' d' ns ds =>
      obtain ⟨rfl, rfl, q1⟩ := q
      cases hl : (ns.zip ds).lookup n with
      | none => rw [hl] at q1; exact q1.elim
      | some v =>
        rw [hl] at q1
        cases f with
        | xo hd fa =>
          obtain ⟨u, hu, fu⟩ := fz_lookup fa hl
          exact ⟨rfl, ec, d', _, u, rfl, hd, hu, k u _ v _ fu s q1⟩
    | _ => exact q.elim⟩
end DL

/-! Classes of the text: made, their fields, their methods; dicts whose keys are tuples. -/
namespace DL
open PySem PySem.Spec PyProof.Rows L2
/-- a class of the text with its own __init__ at f -/
structure ClsC (K : PySem.W.Frag) (mg : Str → Option Value) (x : Str) (C f : Addr) : Prop where
  g : mg x = some (.ref C)
  cl : Cls K C
  mks : Mk K C f
def lkQ (o : Option D) (M : Mp) (Q : KD) : Prop := match o with
  | some d => Q d M
  | none => False
section
variable {K : PySem.W.Frag} {H : Hp} {M : Mp} {p C dx : Addr} {fs : List (Str × D)}
theorem MemOk.ins (m : MemOk K H M) (h : M p = some (.ins C dx fs)) : ∃ gs, H p = some (.ins C dx gs) ∧ KFz K H gs fs := by
  obtain ⟨u, q, gs, rfl, f⟩ := m p _ h
  exact ⟨gs, q, f⟩
theorem fz_look : ∀ {gs : List (Str × V)} {fs : List (Str × D)} {f : Str}, KFz K H gs fs → (fs.lookup f = none → gs.lookup f = none) ∧ ∀ d, fs.lookup f = some d → ∃ v, gs.lookup f = some v ∧ Fz K H v d
  | _, _, f, .nil => ⟨fun _ => rfl, fun d e => by cases e⟩
  | (a, v) :: gs, (b, e) :: fs, f, .cons h t => by
    obtain ⟨h1, h2⟩ := h
    have h1 : a = b := h1
    subst h1
    obtain ⟨ih1, ih2⟩ := fz_look (f := f) t
    simp only [List.lookup]
    cases f == a with
    | true =>
      refine ⟨fun z => ?_, fun d z => ?_⟩
      · cases z
      · cases z
        exact ⟨v, rfl, h2⟩
    | false => exact ⟨ih1, ih2⟩
def putFD (f : Str) (d : D) : List (Str × D) → List (Str × D)
  | [] => [(f, d)]
  | (g, x) :: r => if g = f then (g, d) :: r else (g, x) :: putFD f d r
theorem fz_putF {v : V} {d : D} (r : Fz K H v d) : ∀ {gs : List (Str × V)} {fs : List (Str × D)} {f : Str}, KFz K H gs fs → KFz K H (putF f v gs) (putFD f d fs)
  | _, _, f, .nil => .cons ⟨rfl, r⟩ .nil
  | (a, u) :: gs, (b, e) :: fs, f, .cons h t => by
    obtain ⟨h1, h2⟩ := h
    have h1 : a = b := h1
    subst h1
    simp only [putF, putFD]
    split
    · exact .cons ⟨rfl, r⟩ t
    · exact .cons ⟨rfl, h2⟩ (fz_putF r t)
theorem kfz_len : ∀ {gs : List (Str × V)} {fs : List (Str × D)}, KFz K H gs fs → gs.length = fs.length
  | _, _, .nil => rfl
  | _, _, .cons _ t => by rw [List.length_cons, List.length_cons, kfz_len t]
end
/-- e.f, a field of an instance -/
def dFld (C : Addr) (f : Str) (te : TED) : TED := fun ρ M Q => te ρ M fun d M1 => match d with
  | .ref p => ∃ dx fs, M1 p = some (.ins C dx fs) ∧ lkQ (fs.lookup f) M1 Q
  | _ => False
/-- e.f = v -/
def dsFld (C : Addr) (f : Str) (te tv : TED) : TSD := fun E ρ M => tv ρ M fun v M1 => te ρ M1 fun d M2 => match d with
  | .ref p => ∃ dx fs, M2 p = some (.ins C dx fs) ∧ fs.length < 1000 ∧ E.nx ρ (updM M2 p (.ins C dx (putFD f v fs)))
  | _ => False
/-- e.m(..) -/
def dMeth (C : Addr) (m : Str) (sp : SpD) (te : TED) (t : TAD) : TED := fun ρ M Q => te ρ M fun d M1 => match d with
  | .ref p => ∃ dx fs, M1 p = some (.ins C dx fs) ∧ fs.lookup m = none ∧ t ρ M1 fun ds M2 => sp (.ref p :: ds) M2 Q X0
  | _ => False
/-- C(..) -/
def dMake (C : Addr) (sp : SpD) (t : TAD) : TED := fun ρ M Q => t ρ M fun ds M1 => ∀ x dx, M1 x = none → sp (.ref x :: ds) (updM M1 x (.ins C dx [])) (fun d M2 => d = .non ∧ Q (.ref x) M2) X0
section
variable {X : Cx} {CX : CXT} {k : Nat} {f C : Addr} {fd : FuncData} {ps : List Str} {sp : Sp} {E : XK} {x m : Str} {p pos pos' apos : Pos} {e o v : Expr} {es : List Expr} {ta : TE} {t : TA}
theorem pe_methG {pl : Sem Bool} (he : PE X o ta) (c : Cls X.K C) (hm : Meth X.K C m f) (F : FnG X.prog X.w X.K X.mg X.base CX k f fd ps sp) (hr : Room k X.A) (hgd : X.A.guards = some []) (hb : Binds X.K fd ps []) (hx : Passes CX X E) (ha : PA X (e :: es) t)
    (hst : starEach (e :: es) X.env = (false, eval e X.env) :: starEach es X.env := by rfl) (hpl : (backTo pos (starEach es X.env)).any (·.1) = false := by rfl)
    (ht : eval (.Call (.Attribute o m apos) (e :: es) [] pos) X.env = (do
      let ov ← eval o X.env
      standAt apos.atName
      let (f, first) ← holding [ov] (getMethod ov m pl)
      callWith pos f first (backTo pos (starEach (e :: es) X.env)) (backToKw pos (keywordEach [] X.env))) := by rfl) :
    PE X (.Call (.Attribute o m apos) (e :: es) [] pos) (fun σ H Q => ta σ H fun x H1 => ∃ a dx fs, x = .ref a ∧ H1 a = some (.ins C dx fs) ∧ fs.lookup m = none ∧ t σ H1 fun vs H2 => sp (x :: vs) H2 Q E) := by
  refine ⟨fun pins s σ H Q I h => ?_⟩
  refine PySem.W.methodCall_KW (pl := pl) (thn (he.run pins s σ H _ I h) fun u s1 ⟨x, H1, I1, rx, a, dx, fs, ex, ea, l, q⟩ => ?_) ht
  subst ex
  obtain rfl : u = Value.ref a := rx
  refine getmeth_ok I1 ea c hm l ?_
  refine PySem.W.callWith_K (first := [.ref a]) (h₀ := X.base) I.ok.mod.kin hm.kp (thn (ha.run pos pins s1 σ H1 _ I1 q) fun us s2 ⟨vs, H2, I2, r, q2⟩ => ⟨I2.kIn, ?_⟩) hst hpl
  exact run_fnG (us := .ref a :: us) (vs := .ref a :: vs) F hr hgd hb hx I2 (.cons rfl r) q2
theorem pe_methG0 {pl : Sem Bool} (he : PE X o ta) (c : Cls X.K C) (hm : Meth X.K C m f) (F : FnG X.prog X.w X.K X.mg X.base CX k f fd ps sp) (hr : Room k X.A) (hgd : X.A.guards = some []) (hb : Binds X.K fd ps []) (hx : Passes CX X E)
    (ht : eval (.Call (.Attribute o m apos) [] [] pos) X.env = (do
      let ov ← eval o X.env
      standAt apos.atName
      let (f, first) ← holding [ov] (getMethod ov m pl)
      callWith pos f first (backTo pos (starEach [] X.env)) (backToKw pos (keywordEach [] X.env))) := by rfl) :
    PE X (.Call (.Attribute o m apos) [] [] pos) (fun σ H Q => ta σ H fun x H1 => ∃ a dx fs, x = .ref a ∧ H1 a = some (.ins C dx fs) ∧ fs.lookup m = none ∧ sp [x] H1 Q E) := by
  refine ⟨fun pins s σ H Q I h => ?_⟩
  refine PySem.W.methodCall_KW (pl := pl) (thn (he.run pins s σ H _ I h) fun u s1 ⟨x, H1, I1, rx, a, dx, fs, ex, ea, l, q⟩ => ?_) ht
  subst ex
  obtain rfl : u = Value.ref a := rx
  refine getmeth_ok I1 ea c hm l ?_
  exact PySem.W.callWith_K0 (first := [.ref a]) I1.kIn hm.kp (run_fnG (us := [.ref a]) (vs := [.ref a]) F hr hgd hb hx I1 (.cons rfl .nil) q)
theorem run_makeG {pins : List (Addr × Obj)} {σ : L2.St} {H : Hp} {s : Shared} {Q : VK} {us : List Value} {vs : List V} (M : Mk X.K C f) (F : FnG X.prog X.w X.K X.mg X.base CX k f fd ps sp) (hr : Room (k + 1) X.A) (hgd : X.A.guards = some []) (hb : Binds X.K fd ps [])
    (hx : Passes CX X E) (I : Inv X pins σ H s) (r : Vals vs us)
    (h : ∀ x dx, H x = none → H dx = none → dx ≠ x → sp (.ref x :: vs) (upd (upd H dx (.own x)) x (.ins C dx [])) (fun v H2 => v = .non ∧ Q (.ref x) H2) E) :
    wpAny (model X.prog X.w) X.A (call (.ref C) us) (EP X pins σ Q) X.xe s := by
  have hq := h (s.heap.objs.size + 1) s.heap.objs.size (I.hok.fresh (Nat.le_succ _)) (I.hok.fresh (Nat.le_refl _)) (Nat.ne_of_lt (Nat.lt_succ_self _))
  have I2 := Inv.made (C := C) I
  have r2 : Vals (V.ref (s.heap.objs.size + 1) :: vs) (Value.ref (s.heap.objs.size + 1) :: us) := .cons rfl r
  have hl : (Value.ref (s.heap.objs.size + 1) :: us).length = ps.length := by
    have e := r2.length
    rw [F.len _ _ _ _ hq] at e
    exact e.symm
  have bt := hb _ (Value.ref (s.heap.objs.size + 1) :: us) I2.kIn (by rw [List.append_nil]; exact hl)
  rw [List.append_nil] at bt
  refine wpAny_call (make_map (f := f) I.kIn M.makes M.init (beq_iff_eq.mp M.fn) (codeAny_mono (F.run _ X.stack _ _ ⟨Value.ref (s.heap.objs.size + 1) :: us, []⟩ (Value.ref (s.heap.objs.size + 1) :: us) _ _ E (hr.make C us [])
    hgd (I2.env0.make C us []) bt r2 hq) fun r s' hq' => ?_))
  cases r with
  | error e => exact hx pins σ _ _ e s' I2 hq'
  | ok fl =>
    cases fl with
    | ret u =>
      obtain ⟨v, H', I3, rv, ev, q3⟩ := I2.after hq'
      subst ev
      exact ⟨rv, ⟨V.ref (s.heap.objs.size + 1), H', I3, rfl, q3⟩⟩
    | next => exact False.elim hq'
    | brk => exact False.elim hq'
    | cont => exact False.elim hq'
theorem pe_makeG (M : Mk X.K C f) (F : FnG X.prog X.w X.K X.mg X.base CX k f fd ps sp) (hr : Room (k + 1) X.A) (hgd : X.A.guards = some []) (hg : Gl X x) (hm : X.mg x = some (.ref C)) (hb : Binds X.K fd ps []) (hx : Passes CX X E)
    (ha : PA X (e :: es) t) (hdb : (x == ("__debug__" : Str)) = false := by decide) (he : starEach (e :: es) X.env = (false, eval e X.env) :: starEach es X.env := by rfl) (hpl : (backTo pos (starEach es X.env)).any (·.1) = false := by rfl) :
    PE X (.Call (.Name x p) (e :: es) [] pos) (fun σ H Q => t σ H fun vs H1 => ∀ x dx, H1 x = none → H1 dx = none → dx ≠ x → sp (.ref x :: vs) (upd (upd H1 dx (.own x)) x (.ins C dx [])) (fun v H2 => v = .non ∧ Q (.ref x) H2) E) := by
  refine ⟨fun pins s σ H Q I h => ?_⟩
  refine wpAny_Call_Name_kw (ld_glob I hg hm ?_ hdb)
  refine PySem.W.callWith_K (h₀ := X.base) I.ok.mod.kin M.kp (thn (ha.run pos pins s σ H _ I h) fun us s1 ⟨vs, H1, I1, r, q⟩ => ⟨I1.kIn, ?_⟩) he hpl
  exact run_makeG M F hr hgd hb hx I1 r q
end
section
variable {X : Cx} {k : Nat} {f C : Addr} {fd : FuncData} {ps : List Str} {sp : SpD} {x m fn : Str} {p pos pos' apos : Pos} {e o v : Expr} {es : List Expr} {te tv : TED} {t : TAD}
theorem de_fldI (c : Cls X.K C) (n : NoAttr X.K C fn) (he : DE X e te) (hb : attributeBase e fn X.env (eval e X.env) = eval e X.env := by rfl) : DE X (.Attribute e fn pos) (dFld C fn te) :=
  pe_weak (pe_fld he hb) fun σ H Q ⟨ρ, M, Q', r, mm, h, k⟩ => ⟨ρ, M, _, r, mm, h, fun u H1 d M1 fz s q => by
    cases d with
    | ref a =>
      obtain ⟨dx, fs, e, q⟩ := q
      cases fz
      obtain ⟨gs, e2, kf⟩ := s.mem.ins e
      cases hl : fs.lookup fn with
      | none => rw [hl] at q; exact q.elim
      | some d =>
        rw [hl] at q
        obtain ⟨w, hw, fw⟩ := (fz_look kf).2 d hl
        exact ⟨a, C, dx, gs, w, rfl, e2, c, n, hw, (k.after s).val s.mem fw q⟩
    | _ => exact q.elim⟩
theorem ds_fldI (c : Cls X.K C) (n : NoAttr X.K C fn) (ho : DE X o te) (hv : DE X v tv) (hs : swapsWith v (some (.Attribute o fn pos')) pos.line X.env = pure false := by rfl) : DS X (.Assign [.Attribute o fn pos'] v pos) (dsFld C fn te tv) :=
  ps_weak (ps_fld ho hv hs) fun E σ H ⟨ρ, M, E', r, mm, h, k⟩ => ⟨ρ, M, _, r, mm, h, fun y H1 dy M1 fy s1 q => ⟨ρ, M1, _, r.up s1.tups, s1.mem, q, fun u H2 d M2 fz s2 q => by
    cases d with
    | ref a =>
      obtain ⟨dx, fs, e, hl, q⟩ := q
      cases fz
      obtain ⟨gs, e2, kf⟩ := s2.mem.ins e
      refine ⟨a, C, dx, gs, rfl, e2, c, n, by rw [kfz_len kf]; exact hl, ?_⟩
      have w := Step.wr (u := .ins C dx (putF fn y gs)) (o := .ins C dx (putFD fn dy fs)) s2.mem e (fun z => by cases z) ⟨_, rfl, fz_putF (fy.up s2.tups) kf⟩
      exact k.nx _ _ _ _ (r.up ((s1.trans s2).trans w).tups) ((s1.trans s2).trans w) q
    | _ => exact q.elim⟩⟩
theorem de_meth (c : Cls X.K C) (hm : Meth X.K C m f) (F : FnD X.prog X.w X.K X.mg X.base CX0 k f fd ps sp) (hr : Room k X.A) (hgd : X.A.guards = some []) (hb : Binds X.K fd ps []) (ho : DE X o te) (ha : DA X (e :: es) t) {pl : Sem Bool}
    (hst : starEach (e :: es) X.env = (false, eval e X.env) :: starEach es X.env := by rfl) (hpl : (backTo pos (starEach es X.env)).any (·.1) = false := by rfl)
    (ht : eval (.Call (.Attribute o m apos) (e :: es) [] pos) X.env = (do
      let ov ← eval o X.env
      standAt apos.atName
      let (f, first) ← holding [ov] (getMethod ov m pl)
      callWith pos f first (backTo pos (starEach (e :: es) X.env)) (backToKw pos (keywordEach [] X.env))) := by rfl) :
    DE X (.Call (.Attribute o m apos) (e :: es) [] pos) (dMeth C m sp te t) :=
  pe_weak (pe_methG (pl := pl) ho c hm F hr hgd hb pass0 ha hst hpl ht) fun σ H Q ⟨ρ, M, Q', r, mm, h, k⟩ => ⟨ρ, M, _, r, mm, h, fun u H1 d M1 fz s q => by
    cases d with
    | ref a =>
      obtain ⟨dx, fs, e, hl, q⟩ := q
      cases fz
      obtain ⟨gs, e2, kf⟩ := s.mem.ins e
      exact ⟨a, dx, gs, rfl, e2, (fz_look kf).1 hl, ρ, M1, _, r.up s.tups, s.mem, q, fun vs H2 ds M2 fs s2 q => ⟨.ref a :: ds, M2, Q', X0, .cons (.ref a) fs, s2.mem, q, (k.after s).after s2, fun _ _ _ _ _ _ _ z => z.elim⟩⟩
    | _ => exact q.elim⟩
theorem de_meth0 (c : Cls X.K C) (hm : Meth X.K C m f) (F : FnD X.prog X.w X.K X.mg X.base CX0 k f fd ps sp) (hr : Room k X.A) (hgd : X.A.guards = some []) (hb : Binds X.K fd ps []) (ho : DE X o te) {pl : Sem Bool}
    (ht : eval (.Call (.Attribute o m apos) [] [] pos) X.env = (do
      let ov ← eval o X.env
      standAt apos.atName
      let (f, first) ← holding [ov] (getMethod ov m pl)
      callWith pos f first (backTo pos (starEach [] X.env)) (backToKw pos (keywordEach [] X.env))) := by rfl) :
    DE X (.Call (.Attribute o m apos) [] [] pos) (dMeth C m sp te dNil) :=
  pe_weak (pe_methG0 (pl := pl) ho c hm F hr hgd hb pass0 ht) fun σ H Q ⟨ρ, M, Q', r, mm, h, k⟩ => ⟨ρ, M, _, r, mm, h, fun u H1 d M1 fz s q => by
    cases d with
    | ref a =>
      obtain ⟨dx, fs, e, hl, q⟩ := q
      cases fz
      obtain ⟨gs, e2, kf⟩ := s.mem.ins e
      exact ⟨a, dx, gs, rfl, e2, (fz_look kf).1 hl, [.ref a], M1, Q', X0, .cons (.ref a) .nil, s.mem, q, k.after s, fun _ _ _ _ _ _ _ z => z.elim⟩
    | _ => exact q.elim⟩
theorem de_make (c : ClsC X.K X.mg x C f) (F : FnD X.prog X.w X.K X.mg X.base CX0 k f fd ps sp) (hr : Room (k + 1) X.A) (hgd : X.A.guards = some []) (hg : Gl X x) (hb : Binds X.K fd ps []) (ha : DA X (e :: es) t)
    (hdb : (x == ("__debug__" : Str)) = false := by decide) (he : starEach (e :: es) X.env = (false, eval e X.env) :: starEach es X.env := by rfl) (hpl : (backTo pos (starEach es X.env)).any (·.1) = false := by rfl) :
    DE X (.Call (.Name x p) (e :: es) [] pos) (dMake C sp t) :=
  pe_weak (pe_makeG c.mks F hr hgd hg c.g hb pass0 ha hdb he hpl) fun σ H Q ⟨ρ, M, Q', r, mm, h, k⟩ => ⟨ρ, M, _, r, mm, h, fun vs H1 ds M1 fs s q x dx hx hdx ne => by
    have s1 : Step X.K H1 M1 (upd H1 dx (.own x)) M1 := .newT s.mem hdx
    have s2 : Step X.K (upd H1 dx (.own x)) M1 (upd (upd H1 dx (.own x)) x (.ins C dx [])) (updM M1 x (.ins C dx [])) := .newM s1.mem (by rw [upd_ne (Ne.symm ne)]; exact hx) ⟨[], rfl, .nil⟩
    have st := (s1.trans s2)
    refine ⟨.ref x :: ds, _, _, X0, .cons (.ref x) (fs.up st.tups), s2.mem, q x dx (s.mem.none hx), fun v H' d M' fv s' q => ?_, fun _ _ _ _ _ _ _ z => z.elim⟩
    obtain ⟨rfl, q⟩ := q
    cases fv
    exact ⟨rfl, ((k.after s).after st) _ _ _ _ (.ref x) s' q⟩⟩
end
/-! ### dicts whose keys are tuples -/
def kD : Key → D
  | .inl i => .int i
  | .inr x => .str x
/-- whole numbers and texts, as keys -/
def keysOf : List D → Option (List Key)
  | [] => some []
  | .int i :: r => (keysOf r).map (.inl i :: ·)
  | .str x :: r => (keysOf r).map (.inr x :: ·)
  | _ :: _ => none
theorem keysOf_fz {K : PySem.W.Frag} {H : Hp} : ∀ {xs : List V} {ds : List D} {ks : List Key}, FzAll K H xs ds → keysOf ds = some ks → xs = ks.map kV
  | _, [], _, .nil, e => by cases e; rfl
  | _ :: _, d :: ds, ks, .cons f fs, e => by
    cases d with
    | int i =>
      cases f
      cases h : keysOf ds with
      | none => rw [keysOf, h] at e; cases e
      | some k => rw [keysOf, h] at e; cases e; rw [keysOf_fz fs h]; rfl
    | str i =>
      cases f
      cases h : keysOf ds with
      | none => rw [keysOf, h] at e; cases e
      | some k => rw [keysOf, h] at e; cases e; rw [keysOf_fz fs h]; rfl
    | _ => cases e
/-- a tuple made to be a key -/
def dTupK (t : TAD) : TED := fun ρ M Q => t ρ M fun ds M1 => ds.length ≤ sizeLine ∧ match keysOf ds with
  | some ks => Q (.kt ks) M1
  | none => False
def dNewT : TED := fun _ M Q => ∀ p, M p = none → Q (.ref p) (updM M p (.dctT []))
def dTin (neg : Bool) (ti td : TED) : TED := fun ρ M Q => ti ρ M fun i M1 => td ρ M1 fun d M2 => match d, i with
  | .ref p, .kt ks => ∃ kvs, M2 p = some (.dctT kvs) ∧ Q (.bl (sg neg (valD kvs ks).isSome)) M2
  | _, _ => False
def dTix (td ti : TED) : TED := fun ρ M Q => td ρ M fun d M1 => ti ρ M1 fun i M2 => match d, i with
  | .ref p, .kt ks => ∃ kvs, M2 p = some (.dctT kvs) ∧ ixQ (valD kvs ks) M2 Q
  | _, _ => False
def rSetTX : TSetD := fun o i v M Q => match o, i with
  | .ref p, .kt ks => ∃ kvs, M p = some (.dctT kvs) ∧ kvs.length < sizeLine ∧ Q (updM M p (.dctT (putD kvs ks v)))
  | _, _ => False
theorem MemOk.dctT {K : PySem.W.Frag} {H : Hp} {M : Mp} {p : Addr} {kvs : List (List Key × D)} (m : MemOk K H M) (h : M p = some (.dctT kvs)) : ∃ xs, H p = some (.dT xs) ∧ KFz K H xs kvs := by
  obtain ⟨u, q, xs, rfl, f⟩ := m p _ h
  exact ⟨xs, q, f⟩
section
variable {X : Cx} {o i : Expr} {es : List Expr} {to ti : TED} {t : TAD} {pos : Pos}
theorem de_newT : DE X (.Dict [] [] pos) dNewT :=
  pe_weak pe_dnewT fun σ H Q ⟨ρ, M, Q', r, m, h, k⟩ p hp => k _ _ _ _ (.ref p) (.newM m hp (show MoOk X.K H (.dT []) (.dctT []) from ⟨[], rfl, .nil⟩)) (h p (m.none hp))
theorem de_tix (hu : X.A.units + 1 < cLine) (ho : DE X o to) (hi : DE X i ti) (hs : NoSl i) : DE X (.Subscript o i pos) (dTix to ti) :=
  pe_weak (pe_dget hu ho hi hs) fun σ H Q ⟨ρ, M, Q', r, m, h, k⟩ => ⟨ρ, M, _, r, m, h, fun vo H1 d M1 fo s1 q1 => ⟨ρ, M1, _, r.up s1.tups, s1.mem, q1, fun vi H2 e M2 fi s2 q2 => by
    cases d with
    | ref p =>
      cases e with
      | kt key =>
        cases fo
        obtain ⟨kvs, hp, q3⟩ := q2
        obtain ⟨x, ex, q3⟩ := ixQ_some q3
        obtain ⟨xs, e2, f⟩ := s2.mem.dctT hp
        cases fi with
        | kt hb =>
          rcases val_fz (k := key) f with ⟨z, _⟩ | ⟨v, d, z1, z2, g⟩
          · rw [z] at ex; cases ex
          · rw [z1] at ex; cases ex
            exact ⟨p, v, rfl, by rw [← z2]; exact .t e2 hb, ((k.after s1).after s2).val s2.mem g q3⟩
      | _ => exact q2.elim
    | _ => exact q2.elim⟩⟩
theorem st_dictT (hu : X.A.units + 1 < cLine) : StR X rSetTX := by
  refine ⟨_, set_dict hu, fun H M vo vi vv o i v Q' Q fo fi fv m h k => ?_⟩
  unfold rSetTX at h
  split at h
  · rename_i p key
    obtain ⟨kvs, hp, hz, q⟩ := h
    cases fo
    cases fi with
    | kt hb =>
      obtain ⟨xs, e, f⟩ := m.dctT hp
      exact ⟨p, _, rfl, .t e hb (by rw [f.length]; exact hz), k _ _ (.wr m hp (fun z => by cases z) (show MoOk X.K H (.dT (putK xs key vv)) (.dctT (putD kvs key v)) from ⟨_, rfl, put_fz fv f⟩)) q⟩
  · exact h.elim
theorem up_tin {K : PySem.W.Frag} {neg : Bool} (σ : L2.St) (H : Hp) (Q : VK) (h : upE K (dTin neg ti to) σ H Q) :
    (upE K ti) σ H fun y H1 => (upE K to) σ H1 fun x H2 => ∃ a ov, x = .ref a ∧ DGet H2 a y ov ∧ Q (.bl (sg neg ov.isSome)) H2 := by
  obtain ⟨ρ, M, Q', r, m, h, k⟩ := h
  refine ⟨ρ, M, _, r, m, h, fun vi H1 e M1 fi s1 q1 => ⟨ρ, M1, _, r.up s1.tups, s1.mem, q1, fun vo H2 d M2 fo s2 q2 => ?_⟩⟩
  cases d with
  | ref p =>
    cases e with
    | kt key =>
      cases fo
      obtain ⟨kvs, hp, q3⟩ := q2
      obtain ⟨xs, e2, f⟩ := s2.mem.dctT hp
      cases fi with
      | kt hb =>
        refine ⟨p, valV xs key, rfl, .t e2 (s2.tups.u _ _ hb), ?_⟩
        rcases val_fz (k := key) f with ⟨z1, z2⟩ | ⟨v, d, z1, z2, g⟩
        · rw [z2]; rw [z1] at q3; exact ((k.after s1).after s2).val s2.mem (.bl _) q3
        · rw [z2]; rw [z1] at q3; exact ((k.after s1).after s2).val s2.mem (.bl _) q3
    | _ => exact q2.elim
  | _ => exact q2.elim
theorem de_tin (hu : X.A.units + 1 < cLine) (hi : DE X i ti) (ho : DE X o to) (hm : behindInMarks .In o = false := by with_unfolding_all rfl) : DE X (.Compare i [.In] [o] pos) (dTin false ti to) := pe_weak (pe_cmp (pc_din hu hi ho) hm) up_tin
theorem de_tnotin (hu : X.A.units + 1 < cLine) (hi : DE X i ti) (ho : DE X o to) (hm : behindInMarks .NotIn o = false := by with_unfolding_all rfl) : DE X (.Compare i [.NotIn] [o] pos) (dTin true ti to) := pe_weak (pe_cmp (pc_dnotin hu hi ho) hm) up_tin
theorem dt_tin (hu : X.A.units + 1 < cLine) (hi : DE X i ti) (ho : DE X o to) (hm : behindInMarks .In o = false := by with_unfolding_all rfl) : DT X (.Compare i [.In] [o] pos) (dTest (dTin false ti to)) :=
  pt_weak (pt_cmp (pc_din hu hi ho) hm) fun σ H Q q => up_tin (neg := false) σ H _ (up_test σ H Q q)
theorem dt_tnotin (hu : X.A.units + 1 < cLine) (hi : DE X i ti) (ho : DE X o to) (hm : behindInMarks .NotIn o = false := by with_unfolding_all rfl) : DT X (.Compare i [.NotIn] [o] pos) (dTest (dTin true ti to)) :=
  pt_weak (pt_cmp (pc_dnotin hu hi ho) hm) fun σ H Q q => up_tin (neg := true) σ H _ (up_test σ H Q q)
end
section
variable {X : Cx} {es : List Expr} {t : TAD} {pos : Pos}
theorem de_tupK {x1} (h : DA X es t) : DE X (.Tuple es x1 pos) (dTupK t) :=
  pe_weak (pe_tup h) fun σ H Q ⟨ρ, M, Q', r, m, h, k⟩ => ⟨ρ, M, _, r, m, h, fun vs H1 ds M1 fs s q => by
    obtain ⟨hz, q⟩ := q
    cases e : keysOf ds with
    | none => rw [e] at q; exact q.elim
    | some ks =>
      rw [e] at q
      refine ⟨by rw [fs.length]; exact hz, fun p hp => ?_⟩
      rw [keysOf_fz fs e]
      exact (k.after s) _ _ _ _ (.kt upd_same) (.newT s.mem hp) q⟩
end
end DL

/-! Closings, in plain Lean: marks of things, rows of three things. -/
namespace DL
open PySem L2
theorem at0_map {l : List Int} {f : Int → Int} {i : Int} (h : 0 ≤ i) (h' : i < l.length) : at0 (l.map f) i = f (at0 l i) := by
  unfold at0
  rw [List.getElem?_map, List.getElem?_eq_getElem (by omega)]
  rfl
theorem at0_ext {l l' : List Int} (h : l.length = l'.length) (e : ∀ i : Int, 0 ≤ i → i < l.length → at0 l i = at0 l' i) : l = l' := by
  apply List.ext_getElem?
  intro i
  by_cases hi : i < l.length
  · have e1 := at0_of (l := l) (i := (i : Int)) (by omega) (by omega)
    have e2 := at0_of (l := l') (i := (i : Int)) (by omega) (by omega)
    have e3 := e (i : Int) (by omega) (by omega)
    simp only [Int.toNat_natCast] at e1 e2
    rw [e1, e2, e3]
  · rw [List.getElem?_eq_none (by omega), List.getElem?_eq_none (by omega)]
theorem at0_mem {l : List Int} {i : Int} (h : 0 ≤ i) (h' : i < l.length) : at0 l i ∈ l := List.mem_of_getElem? (at0_of h h')
theorem mem_at0 {l : List Int} {x : Int} (h : x ∈ l) : ∃ i : Int, 0 ≤ i ∧ i < l.length ∧ at0 l i = x := by
  obtain ⟨i, hi, e⟩ := List.getElem_of_mem h
  refine ⟨(i : Int), by omega, by omega, ?_⟩
  unfold at0
  rw [Int.toNat_natCast, List.getElem?_eq_getElem hi, e]
  rfl

/-! ### marks -/
/-- each thing has a mark, the least thing of those of its mark -/
structure Mk' (n : Nat) (m : List Int) : Prop where
  len : m.length = n
  at_ : ∀ i : Int, 0 ≤ i → i < n → 0 ≤ at0 m i ∧ at0 m i ≤ i ∧ at0 m (at0 m i) = at0 m i
theorem Mk'.lt {n : Nat} {m : List Int} (h : Mk' n m) {i : Int} (h0 : 0 ≤ i) (h1 : i < n) : 0 ≤ at0 m i ∧ at0 m i < n := by
  have := h.at_ i h0 h1
  omega
theorem rg_at {n : Nat} {i : Int} (h0 : 0 ≤ i) (h1 : i < n) : at0 (rg n) i = i := by
  have e := at0_of (l := rg n) h0 (by rw [rg_length]; exact h1)
  have e2 : (rg n)[i.toNat]? = some ((i.toNat : Nat) : Int) := by
    unfold rg
    rw [List.getElem?_map, List.getElem?_range (by omega)]
    rfl
  rw [e2] at e
  have := Option.some.inj e
  omega
theorem Mk'.rg (n : Nat) : Mk' n (rg n) := ⟨rg_length, fun i h0 h1 => by
  have e := rg_at (n := n) h0 h1
  exact ⟨by omega, by omega, by rw [e]; exact e⟩⟩
/-- the mark hi becomes lo -/
def mgM (m : List Int) (lo hi : Int) : List Int := m.map fun x => if x = hi then lo else x
theorem mgM_at {m : List Int} {lo hi i : Int} (h0 : 0 ≤ i) (h1 : i < m.length) : at0 (mgM m lo hi) i = if at0 m i = hi then lo else at0 m i := at0_map h0 h1
theorem mgM_self {m : List Int} {x : Int} : mgM m x x = m := by
  unfold mgM
  rw [List.map_congr_left (g := id) (fun y _ => by
    by_cases h : y = x
    · rw [if_pos h, h]; rfl
    · rw [if_neg h]; rfl), List.map_id]
theorem Mk'.mg {n : Nat} {m : List Int} (h : Mk' n m) {lo hi : Int} (l0 : 0 ≤ lo) (lh : lo < hi) (hn : hi < n) (el : at0 m lo = lo) (eh : at0 m hi = hi) : Mk' n (mgM m lo hi) := by
  refine ⟨by unfold mgM; rw [List.length_map]; exact h.len, fun i h0 h1 => ?_⟩
  have hi' := h.at_ i h0 h1
  have hm := h.len
  rw [mgM_at h0 (by omega)]
  by_cases e : at0 m i = hi
  · rw [if_pos e, mgM_at l0 (by omega), el, if_neg (by omega)]
    omega
  · rw [if_neg e, mgM_at hi'.1 (by omega), hi'.2.2, if_neg e]
    exact ⟨hi'.1, hi'.2.1, Eq.refl _⟩
def cntM (m : List Int) : Nat := (rg m.length).countP fun i => decide (at0 m i = i)
theorem countP_lt' {α : Type} {p q : α → Bool} : ∀ {l : List α}, (∀ x ∈ l, p x = true → q x = true) → (∃ x ∈ l, q x = true ∧ p x = false) → l.countP p < l.countP q
  | [], _, ⟨x, h, _⟩ => absurd h List.not_mem_nil
  | a :: l, h, ⟨x, hx, hq, hp⟩ => by
    have hle : l.countP p ≤ l.countP q := List.countP_mono_left fun y hy => h y (List.mem_cons_of_mem _ hy)
    rw [List.countP_cons, List.countP_cons]
    rcases List.mem_cons.mp hx with rfl | hx
    · rw [hq, hp]
      simp only [Bool.false_eq_true, if_false, if_true]
      omega
    · have := countP_lt' (fun y hy => h y (List.mem_cons_of_mem _ hy)) ⟨x, hx, hq, hp⟩
      have ha := h a List.mem_cons_self
      cases hpa : p a with
      | false => simp only [Bool.false_eq_true, if_false]; split <;> omega
      | true => rw [ha hpa]; simp only [if_true]; omega
theorem cnt_mg {n : Nat} {m : List Int} (h : Mk' n m) {lo hi : Int} (l0 : 0 ≤ lo) (lh : lo < hi) (hn : hi < n) (el : at0 m lo = lo) (eh : at0 m hi = hi) : cntM (mgM m lo hi) < cntM m := by
  have hl : (mgM m lo hi).length = m.length := by unfold mgM; rw [List.length_map]
  have hm := h.len
  unfold cntM
  rw [hl]
  refine countP_lt' (fun i hi' e => ?_) ⟨hi, rg_mem.mpr (by omega), decide_eq_true eh, ?_⟩
  · have := rg_mem.mp hi'
    have e := of_decide_eq_true e
    rw [mgM_at this.1 this.2] at e
    refine decide_eq_true ?_
    by_cases z : at0 m i = hi
    · rw [if_pos z] at e
      subst e
      omega
    · rw [if_neg z] at e
      exact e
  · refine decide_eq_false ?_
    rw [mgM_at (by omega) (by omega), if_pos eh]
    omega
theorem cnt_le {m : List Int} : cntM m ≤ m.length := by
  unfold cntM
  have := List.countP_le_length (p := fun i : Int => decide (at0 m i = i)) (l := rg m.length)
  rw [rg_length] at this
  exact this
theorem cnt_pos {n : Nat} {m : List Int} (h : Mk' n m) (hn : 0 < n) : 0 < cntM m := by
  unfold cntM
  refine List.countP_pos_iff.mpr ⟨0, rg_mem.mpr (by rw [h.len]; omega), decide_eq_true ?_⟩
  have := h.at_ 0 (by omega) (by omega)
  omega

/-! ### rows -/
/-- three places: by the first two the third is told -/
def Pl (i j k : Int) : Prop := (i = 0 ∧ j = 1 ∧ k = 2) ∨ (i = 0 ∧ j = 2 ∧ k = 1) ∨ (i = 1 ∧ j = 2 ∧ k = 0)
theorem Pl.in_ {i j k : Int} (h : Pl i j k) : 0 ≤ i ∧ i < 3 ∧ 0 ≤ j ∧ j < 3 ∧ 0 ≤ k ∧ k < 3 := by
  rcases h with h | h | h <;> omega
/-- rows of three things below n -/
def Rows (n : Nat) (R : List (List Int)) : Prop := ∀ r ∈ R, r.length = 3 ∧ ∀ x ∈ r, 0 ≤ x ∧ x < (n : Int)
theorem Rows.at_ {n : Nat} {R : List (List Int)} (h : Rows n R) {r : List Int} (hr : r ∈ R) {p : Int} (h0 : 0 ≤ p) (h1 : p < 3) : 0 ≤ at0 r p ∧ at0 r p < n := (h r hr).2 _ (at0_mem h0 (by rw [(h r hr).1]; exact h1))
def img (μ : Int → Int) (R : List (List Int)) : List (List Int) := R.map fun r => r.map μ
/-- by two places the third is told -/
def ClF (X : List (List Int)) : Prop := ∀ x ∈ X, ∀ y ∈ X, ∀ i j k : Int, Pl i j k → at0 x i = at0 y i → at0 x j = at0 y j → at0 x k = at0 y k
def Cls' (R : List (List Int)) (μ : Int → Int) : Prop := ∀ r ∈ R, ∀ s ∈ R, ∀ i j k : Int, Pl i j k → μ (at0 r i) = μ (at0 s i) → μ (at0 r j) = μ (at0 s j) → μ (at0 r k) = μ (at0 s k)
theorem cls_img {n : Nat} {R : List (List Int)} (h : Rows n R) {μ : Int → Int} : Cls' R μ ↔ ClF (img μ R) := by
  have e : ∀ r ∈ R, ∀ p : Int, 0 ≤ p → p < 3 → at0 (r.map μ) p = μ (at0 r p) := fun r hr p h0 h1 => at0_map h0 (by rw [(h r hr).1]; exact h1)
  constructor
  · intro c x hx y hy i j k hp h1 h2
    obtain ⟨r, hr, rfl⟩ := List.mem_map.mp hx
    obtain ⟨s, hs, rfl⟩ := List.mem_map.mp hy
    obtain ⟨a, b, c', d, f, g⟩ := hp.in_
    rw [e r hr _ a b, e s hs _ a b] at h1
    rw [e r hr _ c' d, e s hs _ c' d] at h2
    rw [e r hr _ f g, e s hs _ f g]
    exact c r hr s hs i j k hp h1 h2
  · intro c r hr s hs i j k hp h1 h2
    obtain ⟨a, b, c', d, f, g⟩ := hp.in_
    have := c _ (List.mem_map.mpr ⟨r, hr, rfl⟩) _ (List.mem_map.mpr ⟨s, hs, rfl⟩) i j k hp
    rw [e r hr _ a b, e s hs _ a b, e r hr _ c' d, e s hs _ c' d, e r hr _ f g, e s hs _ f g] at this
    exact this h1 h2
theorem ClF.congr {X Y : List (List Int)} (h : ∀ x, x ∈ X ↔ x ∈ Y) (c : ClF X) : ClF Y := fun x hx y hy => c x ((h x).mpr hx) y ((h y).mpr hy)
/-- μ tells a thing and its mark alike -/
def Resp (n : Nat) (m : List Int) (μ : Int → Int) : Prop := ∀ i : Int, 0 ≤ i → i < n → μ (at0 m i) = μ i
theorem Resp.rg {n : Nat} {μ : Int → Int} : Resp n (rg n) μ := fun i h0 h1 => by rw [rg_at h0 h1]
theorem Mk'.resp {n : Nat} {m : List Int} (h : Mk' n m) : Resp n m (at0 m) := fun i h0 h1 => (h.at_ i h0 h1).2.2
theorem Resp.mg {n : Nat} {m : List Int} {μ : Int → Int} (h : Resp n m μ) (hm : m.length = n) {lo hi : Int} (e : μ lo = μ hi) : Resp n (mgM m lo hi) μ := fun i h0 h1 => by
  rw [mgM_at h0 (by omega)]
  have := h i h0 h1
  split
  · rename_i z
    rw [e, ← z]
    exact this
  · exact this
/-- m' is coarser than m -/
theorem Resp.of_le {n : Nat} {m m' : List Int} (h : Mk' n m) {μ : Int → Int} (h1 : Resp n m (at0 m')) (h2 : Resp n m' μ) : Resp n m μ := fun i i0 i1 => by
  have a := h.lt i0 i1
  rw [← h2 _ a.1 a.2, h1 i i0 i1, h2 i i0 i1]

/-! ### a closing -/
structure Clo (n : Nat) (R : List (List Int)) (m : List Int) : Prop where
  mks : Mk' n m
  sound : ∀ μ : Int → Int, Cls' R μ → Resp n m μ
  cls : Cls' R (at0 m)
theorem Clo.unique {n : Nat} {R : List (List Int)} {m m' : List Int} (h : Clo n R m) (h' : Clo n R m') : m = m' := by
  refine at0_ext (by rw [h.mks.len, h'.mks.len]) fun i h0 h1 => ?_
  have h1 : i < n := by rw [← h.mks.len]; exact h1
  have a := h.mks.at_ i h0 h1
  have b := h'.mks.at_ i h0 h1
  have s1 := h.sound _ h'.cls i h0 h1
  have s2 := h'.sound _ h.cls i h0 h1
  have a2 := h'.mks.at_ (at0 m i) a.1 (by omega)
  have b2 := h.mks.at_ (at0 m' i) b.1 (by omega)
  omega
theorem Clo.iff {n : Nat} {R : List (List Int)} {m : List Int} (h : Clo n R m) {i j : Int} (i0 : 0 ≤ i) (i1 : i < n) (j0 : 0 ≤ j) (j1 : j < n) : at0 m i = at0 m j ↔ ∀ μ : Int → Int, Cls' R μ → μ i = μ j :=
  ⟨fun e μ c => by rw [← h.sound μ c i i0 i1, ← h.sound μ c j j0 j1, e], fun e => e _ h.cls⟩

/-! ### elders -/
structure El (n : Nat) (el m : List Int) : Prop where
  len : el.length = n
  mks : Mk' n m
  at_ : ∀ i : Int, 0 ≤ i → i < n → 0 ≤ at0 el i ∧ at0 el i ≤ i ∧ at0 m i = if at0 el i = i then i else at0 m (at0 el i)
theorem El.init (n : Nat) : El n (rg n) (rg n) := ⟨rg_length, Mk'.rg n, fun i h0 h1 => by
  have e := rg_at h0 h1
  exact ⟨by omega, by omega, by rw [e, if_pos rfl]⟩⟩
theorem El.root {n : Nat} {el m : List Int} (h : El n el m) {i : Int} (h0 : 0 ≤ i) (h1 : i < n) (e : at0 m i = i) : at0 el i = i := by
  have a := h.at_ i h0 h1
  by_cases z : at0 el i = i
  · exact z
  · rw [if_neg z] at a
    have b := h.mks.at_ (at0 el i) a.1 (by omega)
    omega
theorem El.top {n : Nat} {el m : List Int} (h : El n el m) {i : Int} (h0 : 0 ≤ i) (h1 : i < n) (e : at0 el i = i) : at0 m i = i := by
  have a := h.at_ i h0 h1
  rw [if_pos e] at a
  exact a.2.2
theorem at0_set' {xs : List Int} {i j v : Int} (i0 : 0 ≤ i) (j0 : 0 ≤ j) (hj : j < xs.length) : at0 (xs.set j.toNat v) i = if i = j then v else at0 xs i := by
  unfold at0
  by_cases e : i = j
  · subst e
    rw [if_pos rfl, List.getElem?_set_self (by omega)]
    rfl
  · rw [if_neg e, List.getElem?_set_ne (by omega)]
theorem El.join {n : Nat} {el m : List Int} (h : El n el m) {lo hi : Int} (l0 : 0 ≤ lo) (lh : lo ≤ hi) (hn : hi < n) (el' : at0 m lo = lo) (eh : at0 m hi = hi) : El n (el.set hi.toNat lo) (mgM m lo hi) := by
  have hl := h.len
  have hm := h.mks.len
  rcases Int.lt_or_eq_of_le lh with lt | rfl
  · refine ⟨by rw [List.length_set]; exact hl, h.mks.mg l0 lt hn el' eh, fun i h0 h1 => ?_⟩
    have a := h.at_ i h0 h1
    rw [at0_set' h0 (by omega) (by omega), mgM_at h0 (by omega)]
    by_cases e : i = hi
    · subst e
      rw [if_pos rfl, eh, if_pos rfl, if_neg (by omega), mgM_at l0 (by omega), el', if_neg (by omega)]
      omega
    · rw [if_neg e, mgM_at a.1 (by omega)]
      by_cases z : at0 el i = i
      · have := h.top h0 h1 z
        rw [z, if_pos rfl, this, if_neg e]
        omega
      · rw [if_neg z] at a ⊢
        rw [a.2.2]
        omega
  · rw [mgM_self]
    have e : el.set lo.toNat lo = el := by
      refine at0_ext (by rw [List.length_set]) fun i h0 h1 => ?_
      rw [List.length_set] at h1
      rw [at0_set' h0 l0 (by omega)]
      split
      · rename_i z
        rw [z]
        exact (h.root l0 hn el').symm
      · rfl
    rw [e]
    exact h
/-- rows, ascending, each once -/
def SrtS (R : List (List Int)) : Prop := R.Nodup ∧ R.Pairwise fun a b => TS.code 64 a ≤ TS.code 64 b
theorem srt_uniq {n : Nat} {R S : List (List Int)} (hn : n ≤ 64) (hr : Rows n R) (h : SrtS R) (h' : SrtS S) (e : ∀ x, x ∈ R ↔ x ∈ S) : R = S := by
  have hp : R.Perm S := (List.perm_ext_iff_of_nodup h.1 h'.1).mpr e
  refine List.Perm.eq_of_pairwise (le := fun a b => TS.code 64 a ≤ TS.code 64 b) (fun a b ha hb h1 h2 => ?_) h.2 h'.2 hp
  have b' := (e b).mpr hb
  have bd : ∀ r ∈ R, r.length = 3 ∧ TS.Bd 64 r := fun r hr' => ⟨(hr r hr').1, fun x hx => by have := (hr r hr').2 x hx; omega⟩
  by_cases z : a = b
  · exact z
  · have l1 := ltT_3 (bd a ha) (bd b b') z h1
    have l2 := ltT_3 (bd b b') (bd a ha) (Ne.symm z) h2
    obtain ⟨x, y, w, rfl⟩ : ∃ x y w, a = [x, y, w] := by
      match a, (bd a ha).1 with
      | [x, y, w], _ => exact ⟨x, y, w, rfl⟩
    obtain ⟨x', y', w', rfl⟩ : ∃ x y w, b = [x, y, w] := by
      match b, (bd b b').1 with
      | [x, y, w], _ => exact ⟨x, y, w, rfl⟩
    rw [leT_3] at l1 l2
    have l1 := of_decide_eq_false l1
    have l2 := of_decide_eq_false l2
    omega
theorem Rows.img {n : Nat} {R : List (List Int)} (h : Rows n R) {m : List Int} (hm : Mk' n m) : Rows n (img (at0 m) R) := fun r hr => by
  obtain ⟨s, hs, rfl⟩ := List.mem_map.mp hr
  refine ⟨by rw [List.length_map]; exact (h s hs).1, fun x hx => ?_⟩
  obtain ⟨y, hy, rfl⟩ := List.mem_map.mp hx
  have := (h s hs).2 y hy
  exact hm.lt this.1 this.2
theorem img_img {n : Nat} {R : List (List Int)} (h : Rows n R) {m : List Int} {μ : Int → Int} (hr : Resp n m μ) : img μ (img (at0 m) R) = img μ R := by
  unfold img
  rw [List.map_map]
  refine List.map_congr_left fun r hr' => ?_
  show (r.map (at0 m)).map μ = r.map μ
  rw [List.map_map]
  refine List.map_congr_left fun x hx => ?_
  have := (h r hr').2 x hx
  exact hr x this.1 this.2
theorem img_mem {μ : Int → Int} {R S : List (List Int)} (e : ∀ x, x ∈ R ↔ x ∈ S) (x : List Int) : x ∈ img μ R ↔ x ∈ img μ S := by
  constructor
  · intro h
    obtain ⟨r, hr, rfl⟩ := List.mem_map.mp h
    exact List.mem_map_of_mem ((e r).mp hr)
  · intro h
    obtain ⟨r, hr, rfl⟩ := List.mem_map.mp h
    exact List.mem_map_of_mem ((e r).mpr hr)

/-! ### the object -/
structure CloO (C : Addr) (M : Mp) (c pe : Addr) (n : Nat) (m : List Int) (R : List (List Int)) : Prop where
  ex : ∃ dx pr el, M c = some (.ins C dx [("elder", .ref pe), ("rows", .ref pr)]) ∧ M pe = some (.lst (el.map D.int)) ∧ M pr = some (.lst (R.map dI)) ∧ pr ≠ pe ∧ El n el m
  rows : Rows n R
  few : R.length < 64
  small : n ≤ 60
theorem CloO.keep {C : Addr} {M M' : Mp} {c pe : Addr} {n : Nat} {m : List Int} {R : List (List Int)} (h : CloO C M c pe n m R) (k : Keep M M') : CloO C M' c pe n m R := by
  obtain ⟨dx, pr, el, e1, e2, e3, e4⟩ := h.ex
  exact ⟨⟨dx, pr, el, k _ _ e1, k _ _ e2, k _ _ e3, e4⟩, h.rows, h.few, h.small⟩
theorem CloO.mks {C : Addr} {M : Mp} {c pe : Addr} {n : Nat} {m : List Int} {R : List (List Int)} (h : CloO C M c pe n m R) : Mk' n m := by
  obtain ⟨dx, pr, el, e1, e2, e3, e4, E⟩ := h.ex
  exact E.mks
theorem CloO.updT {C : Addr} {M : Mp} {c pe p : Addr} {n : Nat} {m : List Int} {R : List (List Int)} {kvs kvs' : List (List Key × D)} (h : CloO C M c pe n m R) (e : M p = some (.dctT kvs)) : CloO C (updM M p (.dctT kvs')) c pe n m R := by
  obtain ⟨dx, pr, el, e1, e2, e3, e4⟩ := h.ex
  exact ⟨⟨dx, pr, el, by rw [updM_ne (by rintro rfl; rw [e1] at e; cases e)]; exact e1, by rw [updM_ne (by rintro rfl; rw [e2] at e; cases e)]; exact e2, by rw [updM_ne (by rintro rfl; rw [e3] at e; cases e)]; exact e3, e4⟩, h.rows, h.few, h.small⟩
/-- all but one object -/
def Kp1 (p : Addr) (M M' : Mp) : Prop := ∀ b o, b ≠ p → M b = some o → M' b = some o
theorem Kp1.refl {p : Addr} {M : Mp} : Kp1 p M M := fun _ _ _ h => h
theorem Kp1.trans {p : Addr} {M M1 M2 : Mp} (a : Kp1 p M M1) (b : Kp1 p M1 M2) : Kp1 p M M2 := fun x o h e => b x o h (a x o h e)
theorem Keep.kp {p : Addr} {M M' : Mp} (k : Keep M M') : Kp1 p M M' := fun b o _ e => k b o e
theorem Kp1.none {p b : Addr} {M M' : Mp} (k : Kp1 p M M') (h : M' b = none) (hb : b ≠ p) : M b = none := by
  cases e : M b with
  | none => rfl
  | some o => rw [k b o hb e] at h; cases h
/-- all but two objects -/
def Kp2 (c p : Addr) (M M' : Mp) : Prop := ∀ b o, b ≠ c → b ≠ p → M b = some o → M' b = some o
theorem Kp2.refl {c p : Addr} {M : Mp} : Kp2 c p M M := fun _ _ _ _ h => h
theorem Kp2.trans {c p : Addr} {M M1 M2 : Mp} (a : Kp2 c p M M1) (b : Kp2 c p M1 M2) : Kp2 c p M M2 := fun x o h h' e => b x o h h' (a x o h h' e)
theorem Kp1.kp2 {c p : Addr} {M M' : Mp} (k : Kp1 p M M') : Kp2 c p M M' := fun b o _ h e => k b o h e
theorem CloO.setR {C : Addr} {M : Mp} {c pe p : Addr} {n : Nat} {m : List Int} {R R' : List (List Int)} (h : CloO C M c pe n m R) (e : M p = some (.lst (R'.map dI))) (hp : p ≠ pe) (hr : Rows n R') (hl : R'.length < 64) :
    ∃ dx fs, M c = some (.ins C dx fs) ∧ fs.length < 1000 ∧ CloO C (updM M c (.ins C dx (putFD "rows" (.ref p) fs))) c pe n m R' ∧ Kp2 c pe M (updM M c (.ins C dx (putFD "rows" (.ref p) fs))) := by
  obtain ⟨dx, pr, el, e1, e2, e3, ne, E⟩ := h.ex
  refine ⟨dx, _, e1, (show 2 < 1000 by decide), ⟨⟨dx, p, el, updM_same, ?_, ?_, hp, E⟩, hr, hl, h.small⟩, fun b o hb _ eb => by rw [updM_ne hb]; exact eb⟩
  · rw [updM_ne (by rintro rfl; rw [e1] at e2; cases e2)]; exact e2
  · rw [updM_ne (by rintro rfl; rw [e1] at e; cases e)]; exact e
def unI : D → Int
  | .int i => i
  | _ => 0
def cntD (o : Option MO) : Nat := match o with
  | some (.lst ds) => cntM (ds.map unI)
  | _ => 0
theorem El.cnt {n : Nat} {el m : List Int} (h : El n el m) : cntD (some (.lst (el.map D.int))) = cntM m := by
  show cntM ((el.map D.int).map unI) = cntM m
  have e : (el.map D.int).map unI = el := by rw [List.map_map]; exact List.map_id' el
  rw [e]
  unfold cntM
  rw [h.len, h.mks.len]
  refine List.countP_congr fun i hi => ?_
  have hi := rg_mem.mp hi
  simp only [decide_eq_true_eq]
  exact ⟨h.top hi.1 hi.2, h.root hi.1 hi.2⟩
theorem CloO.cnt {C : Addr} {M : Mp} {c pe : Addr} {n : Nat} {m : List Int} {R : List (List Int)} (h : CloO C M c pe n m R) : cntD (M pe) = cntM m := by
  obtain ⟨dx, pr, el, e1, e2, e3, ne, E⟩ := h.ex
  rw [e2]
  exact E.cnt
def ClsAt (i j k : Int) (R : List (List Int)) (m : List Int) : Prop := ∀ r ∈ R, ∀ s ∈ R, at0 m (at0 r i) = at0 m (at0 s i) → at0 m (at0 r j) = at0 m (at0 s j) → at0 m (at0 r k) = at0 m (at0 s k)
def plN : Nat → Int × Int × Int
  | 0 => (0, 1, 2)
  | 1 => (0, 2, 1)
  | _ => (1, 2, 0)
theorem cls_at {R : List (List Int)} {m : List Int} (h : ∀ t, t < 3 → ClsAt (plN t).1 (plN t).2.1 (plN t).2.2 R m) : Cls' R (at0 m) := fun r hr s hs i j k hp => by
  rcases hp with ⟨rfl, rfl, rfl⟩ | ⟨rfl, rfl, rfl⟩ | ⟨rfl, rfl, rfl⟩
  · exact h 0 (by decide) r hr s hs
  · exact h 1 (by decide) r hr s hs
  · exact h 2 (by decide) r hr s hs
theorem pl_N (t : Nat) : Pl (plN t).1 (plN t).2.1 (plN t).2.2 := by
  match t with
  | 0 => exact .inl ⟨rfl, rfl, rfl⟩
  | 1 => exact .inr (.inl ⟨rfl, rfl, rfl⟩)
  | _ + 2 => exact .inr (.inr ⟨rfl, rfl, rfl⟩)
/-- the rows' images stay the same -/
def Img (R S : List (List Int)) (μ : Int → Int) : Prop := ∀ x, x ∈ img μ R ↔ x ∈ img μ S
theorem Img.cls {n : Nat} {R S : List (List Int)} {μ : Int → Int} (h : Img R S μ) (hr : Rows n R) (hs : Rows n S) : Cls' R μ ↔ Cls' S μ := by
  rw [cls_img hr, cls_img hs]
  exact ⟨ClF.congr h, ClF.congr fun x => (h x).symm⟩
end DL

/-! Formulas, and their plain forms, in plain Lean. -/
namespace DL
open PySem L2
inductive Wd where
  | w | b | a
deriving DecidableEq
inductive Fm where
  | nm (i : Int)
  | op (w : Wd) (x y : Fm)
deriving DecidableEq
def Wd.str : Wd → Str
  | .w => "with"
  | .b => "behind"
  | .a => "ahead"
def Wd.pl : Wd → Int × Int × Int
  | .w => (0, 1, 2)
  | .b => (0, 2, 1)
  | .a => (1, 2, 0)
theorem Wd.pl_ok (w : Wd) : Pl w.pl.1 w.pl.2.1 w.pl.2.2 := by cases w <;> (unfold Pl; decide)
def fD : Fm → D
  | .nm i => .int i
  | .op w x y => .tup [.str w.str, fD x, fD y]
def rdF : Fm → PyData
  | .nm i => .int i
  | .op w x y => .tuple [.str w.str, rdF x, rdF y]
def Fm.dep : Fm → Nat
  | .nm _ => 0
  | .op _ x y => max x.dep y.dep + 1
def Fm.sz : Fm → Nat
  | .nm _ => 1
  | .op _ x y => x.sz + y.sz + 1
def Fm.In (n : Int) : Fm → Prop
  | .nm i => 0 ≤ i ∧ i < n
  | .op _ x y => x.In n ∧ y.In n
def Fm.isNm : Fm → Bool
  | .nm _ => true
  | .op _ _ _ => false
theorem rdm_F {M : Mp} : ∀ f : Fm, Rdm M (fD f) (rdF f)
  | .nm _ => .int _
  | .op _ x y => .tup (.cons (.str _) (.cons (rdm_F x) (.cons (rdm_F y) .nil)))
theorem rdF_lay : ∀ f : Fm, (rdF f).canLay0 = true ∧ (rdF f).depth ≤ f.dep
  | .nm _ => ⟨rfl, Nat.le_refl _⟩
  | .op w x y => by
    obtain ⟨a, b⟩ := rdF_lay x
    obtain ⟨c, d⟩ := rdF_lay y
    have hw : (PyData.str w.str).canLay0 = true := by cases w <;> decide +kernel
    refine ⟨?_, ?_⟩
    · simp [rdF, PyData.canLay0, PyData.canLayAll0, a, c, hw]
      simpa [PyData.canLay0] using hw
    · simp only [rdF, PyData.depth, PyData.depthAll, Fm.dep]
      omega
theorem shaped_F {f : Fm} (h : f.dep ≤ 60) : SeqAt.shaped (rdF f) = true := by
  simp only [SeqAt.shaped, Bool.and_eq_true, decide_eq_true_eq]
  have := rdF_lay f
  exact ⟨this.1, by omega⟩
theorem eqv_wd (w v : Wd) : PyData.eqv (.str w.str) (.str v.str) = decide (w = v) := by cases w <;> cases v <;> decide +kernel
theorem eqv_F : ∀ f g : Fm, PyData.eqv (rdF f) (rdF g) = decide (f = g)
  | .nm i, .nm j => by
    simp only [rdF, PyData.eqv]
    by_cases h : i = j <;> simp [h]
  | .nm i, .op w x y => by simp [rdF, PyData.eqv]
  | .op w x y, .nm j => by simp [rdF, PyData.eqv]
  | .op w x y, .op v u t => by
    have h1 := eqv_F x u
    have h2 := eqv_F y t
    have h3 := eqv_wd w v
    simp only [rdF, PyData.eqv, PyData.eqvAll] at h3 ⊢
    rw [h1, h2, h3]
    by_cases a : w = v <;> by_cases b : x = u <;> by_cases c : y = t <;> simp [a, b, c]
/-- ==, != of formulas -/
def rEqF (neg : Bool) : R2D := fun x y M Q => ∃ f g : Fm, x = fD f ∧ y = fD g ∧ f.dep ≤ 60 ∧ g.dep ≤ 60 ∧ Q (.bl (sg neg (decide (f = g)))) M
theorem le_eqF {neg : Bool} {x y : D} {M : Mp} {Q : KD} (h : rEqF neg x y M Q) : rEqX neg x y M Q := by
  obtain ⟨f, g, rfl, rfl, hf, hg, q⟩ := h
  have gen : ∀ {x y : D}, x = fD f → y = fD g → (∃ p q, Rdm M x p ∧ Rdm M y q ∧ SeqAt.shaped p = true ∧ SeqAt.shaped q = true ∧ Q (.bl (sg neg (PyData.eqv p q))) M) := fun e1 e2 => by
    subst e1 e2
    exact ⟨rdF f, rdF g, rdm_F f, rdm_F g, shaped_F hf, shaped_F hg, by rw [eqv_F]; exact q⟩
  cases f with
  | nm i =>
    cases g with
    | nm j =>
      show Q (.bl (sg neg (decide (i = j)))) M
      have e : decide (i = j) = decide (Fm.nm i = Fm.nm j) := decide_eq_decide.mpr ⟨fun e => by rw [e], fun e => Fm.nm.inj e⟩
      rw [e]
      exact q
    | op w a b => exact gen rfl rfl
  | op w a b =>
    cases g with
    | nm j => exact gen rfl rfl
    | op v c d => exact gen rfl rfl
theorem cr_eqF {X : Cx} (hu : X.A.units + 64 < cLine) : CR X .Eq (rEqF false) := by
  obtain ⟨r, h1, h2⟩ := cr_eq (X := X) hu
  exact ⟨r, h1, fun H M vx vy x y Q' Q fx fy m h k => h2 H M vx vy x y Q' Q fx fy m (le_eqF h) k⟩
theorem cr_neF {X : Cx} (hu : X.A.units + 64 < cLine) : CR X .NotEq (rEqF true) := by
  obtain ⟨r, h1, h2⟩ := cr_ne (X := X) hu
  exact ⟨r, h1, fun H M vx vy x y Q' Q fx fy m h k => h2 H M vx vy x y Q' Q fx fy m (le_eqF h) k⟩

/-! ### drawn formulas are such -/
theorem isW.wd {x : Str} (h : isW x) : ∃ w : Wd, x = w.str := by
  rcases h with rfl | rfl | rfl
  · exact ⟨.w, rfl⟩
  · exact ⟨.b, rfl⟩
  · exact ⟨.a, rfl⟩
theorem Wd.isW (w : Wd) : DL.isW w.str := by
  cases w
  · exact .inl rfl
  · exact .inr (.inl rfl)
  · exact .inr (.inr rfl)
theorem Fo.fm {names : Int} : ∀ {n : Nat} {d : D}, Fo names n d → ∃ f : Fm, d = fD f ∧ f.In names ∧ f.dep ≤ n
  | 0, _, ⟨i, e, h0, h1⟩ => ⟨.nm i, e, ⟨h0, h1⟩, Nat.le_refl _⟩
  | n + 1, _, .inl ⟨i, e, h0, h1⟩ => ⟨.nm i, e, ⟨h0, h1⟩, Nat.zero_le _⟩
  | n + 1, _, .inr ⟨x, a, b, e, hx, ha, hb⟩ => by
    obtain ⟨f, rfl, f1, f2⟩ := ha.fm
    obtain ⟨g, rfl, g1, g2⟩ := hb.fm
    obtain ⟨w, rfl⟩ := hx.wd
    exact ⟨.op w f g, e, ⟨f1, g1⟩, by simp only [Fm.dep]; omega⟩
theorem Fm.fo {names : Int} : ∀ {f : Fm} {n : Nat}, f.In names → f.dep ≤ n → Fo names n (fD f)
  | .nm i, n, h, _ => .name h.1 h.2
  | .op w x y, 0, _, h => by simp only [Fm.dep] at h; omega
  | .op w x y, n + 1, h, hd => by
    simp only [Fm.dep] at hd
    exact .inr ⟨w.str, fD x, fD y, rfl, w.isW, Fm.fo h.1 (by omega), Fm.fo h.2 (by omega)⟩
theorem fm_szF : ∀ {f : Fm} {n : Nat}, f.dep ≤ n → szF n (fD f) = (f.sz : Int)
  | .nm i, n, _ => by simp only [fD, Fm.sz]; cases n <;> rfl
  | .op w x y, 0, h => by simp only [Fm.dep] at h; omega
  | .op w x y, n + 1, hd => by
    simp only [Fm.dep] at hd
    have h1 := fm_szF (f := x) (n := n) (by omega)
    have h2 := fm_szF (f := y) (n := n) (by omega)
    show 1 + szF n (fD x) + szF n (fD y) = _
    rw [h1, h2]
    simp only [Fm.sz]
    omega
theorem Fm.vl {names : Int} (hn : names ≤ 4000) {f : Fm} (h : f.In names) {l : Addr} {M : Mp} : Vl l M f.dep (26 * f.sz) (fD f) := by
  obtain ⟨w, hw, v⟩ := Fo.vl hn (l := l) (M := M) (Fm.fo h (Nat.le_refl _))
  rw [fm_szF (Nat.le_refl _)] at hw
  exact v.mono (Nat.le_refl _) (by omega)
theorem Fm.dep_sz : ∀ f : Fm, f.dep + 1 ≤ f.sz
  | .nm _ => Nat.le_refl _
  | .op _ x y => by
    have := x.dep_sz
    have := y.dep_sz
    simp only [Fm.dep, Fm.sz]
    omega
theorem Fm.In.mono {n n' : Int} (h : n ≤ n') : ∀ {f : Fm}, f.In n → f.In n'
  | .nm _, ⟨a, b⟩ => ⟨a, by omega⟩
  | .op _ _ _, ⟨a, b⟩ => ⟨a.mono h, b.mono h⟩

/-! ### plain forms -/
/-- the first row with two things at two places -/
def tldR (R : List (List Int)) (i j k x y : Int) : Option Int := (R.find? fun r => decide (at0 r i = x) && decide (at0 r j = y)).map fun r => at0 r k
def entT (m : List Int) (R : List (List Int)) (w : Wd) : Fm → Fm → Option Fm
  | .nm x, .nm y => (tldR R w.pl.1 w.pl.2.1 w.pl.2.2 (at0 m x) (at0 m y)).map .nm
  | _, _ => none
def ruleB (w : Wd) (A B : Fm) : Option Fm := match w, B with
  | .w, .op .b X Y => if X = A then some Y else none
  | .b, .op .w X Y => if X = A then some Y else none
  | .a, .op .w X Y => if Y = A then some X else none
  | _, _ => none
def ruleA (w : Wd) (A B : Fm) : Option Fm := match w, A with
  | .w, .op .a X Y => if X = B then some Y else none
  | .b, .op .a X Y => if Y = B then some X else none
  | .a, .op .b X Y => if Y = B then some X else none
  | _, _ => none
def ruleT (w : Wd) (A B : Fm) : Option Fm := (ruleB w A B).or (ruleA w A B)
def topT (m : List Int) (R : List (List Int)) (w : Wd) (A B : Fm) : Option Fm := (entT m R w A B).or (ruleT w A B)
def shorT (m : List Int) (R : List (List Int)) : Fm → Option Fm
  | .nm i => if at0 m i = i then none else some (.nm (at0 m i))
  | .op w A B => topT m R w A B
def stepT (m : List Int) (R : List (List Int)) : Fm → Option Fm
  | .nm i => if at0 m i = i then none else some (.nm (at0 m i))
  | .op w A B => match stepT m R A with
    | some A' => some (.op w A' B)
    | none => match stepT m R B with
      | some B' => some (.op w A B')
      | none => topT m R w A B
def NF (m : List Int) (R : List (List Int)) : Fm → Fm
  | .nm i => .nm (at0 m i)
  | .op w A B => (topT m R w (NF m R A) (NF m R B)).getD (.op w (NF m R A) (NF m R B))
/-- a rule tells a part of one of the two -/
theorem ruleT_part {w : Wd} {A B s : Fm} (h : ruleT w A B = some s) : (∃ v X Y, (A = .op v X Y ∨ B = .op v X Y) ∧ (s = X ∨ s = Y)) := by
  unfold ruleT at h
  rcases Option.or_eq_some_iff.mp h with h | ⟨_, h⟩
  · unfold ruleB at h
    split at h <;> (try split at h) <;> first
      | (cases h; done)
      | (cases h; exact ⟨_, _, _, .inr rfl, by first | exact .inl rfl | exact .inr rfl⟩)
  · unfold ruleA at h
    split at h <;> (try split at h) <;> first
      | (cases h; done)
      | (cases h; exact ⟨_, _, _, .inl rfl, by first | exact .inl rfl | exact .inr rfl⟩)
/-- the word within by which a rule goes -/
def Wd.inB : Wd → Wd
  | .w => .b
  | _ => .w
def Wd.inA : Wd → Wd
  | .a => .b
  | _ => .a
def isMd (f : Fm) (w : Wd) : Bool := match f with
  | .nm _ => false
  | .op v _ _ => decide (v = w)
theorem isMd_t {f : Fm} {w : Wd} (h : isMd f w = true) : ∃ X Y, f = .op w X Y := by
  cases f with
  | nm i => cases h
  | op v X Y => exact ⟨X, Y, by rw [of_decide_eq_true h]⟩
theorem ruleB_no {w : Wd} {A B : Fm} (h : isMd B w.inB = false) : ruleT w A B = ruleA w A B := by
  have : ruleB w A B = none := by
    unfold ruleB
    split <;> first
      | (cases h; done)
      | rfl
  unfold ruleT
  rw [this]
  rfl
theorem ruleA_no {w : Wd} {A B : Fm} (h : isMd A w.inA = false) : ruleA w A B = none := by
  unfold ruleA
  split <;> first
    | (cases h; done)
    | rfl
/-- a closing whose rows hold least things -/
structure Rted (n : Nat) (m : List Int) (R : List (List Int)) : Prop where
  mks : Mk' n m
  rows : Rows n R
  fix : ∀ r ∈ R, ∀ x ∈ r, at0 m x = x
section
variable {n : Nat} {m : List Int} {R : List (List Int)}
theorem tldR_in (h : Rows n R) {w : Wd} {x y z : Int} (e : tldR R w.pl.1 w.pl.2.1 w.pl.2.2 x y = some z) : ∃ r ∈ R, z ∈ r ∧ 0 ≤ z ∧ z < n := by
  unfold tldR at e
  obtain ⟨r, hr, rfl⟩ := Option.map_eq_some_iff.mp e
  have hr := List.mem_of_find?_eq_some hr
  obtain ⟨_, _, _, _, k0, k1⟩ := w.pl_ok.in_
  exact ⟨r, hr, at0_mem k0 (by rw [(h r hr).1]; exact k1), h.at_ hr k0 k1⟩
theorem step_none (h : Rted n m R) : ∀ {f : Fm}, stepT m R f = none → NF m R f = f
  | .nm i, e => by
    unfold stepT at e
    split at e
    · rename_i z
      show Fm.nm (at0 m i) = _
      rw [z]
    · cases e
  | .op w A B, e => by
    unfold stepT at e
    split at e
    · cases e
    · rename_i hA
      split at e
      · cases e
      · rename_i hB
        show (topT m R w (NF m R A) (NF m R B)).getD (.op w (NF m R A) (NF m R B)) = _
        rw [step_none h hA, step_none h hB, e]
        rfl
theorem step_sub {w : Wd} {A B : Fm} (e : stepT m R (.op w A B) = none) : stepT m R A = none ∧ stepT m R B = none ∧ topT m R w A B = none := by
  unfold stepT at e
  split at e
  · cases e
  · rename_i hA
    split at e
    · cases e
    · rename_i hB
      exact ⟨hA, hB, e⟩
theorem entT_fix (h : Rted n m R) {w : Wd} {A B s : Fm} (e : entT m R w A B = some s) : ∃ z, s = .nm z ∧ 0 ≤ z ∧ z < n ∧ at0 m z = z := by
  unfold entT at e
  split at e
  · obtain ⟨z, hz, rfl⟩ := Option.map_eq_some_iff.mp e
    obtain ⟨r, hr, hzr, z0, z1⟩ := tldR_in h.rows hz
    exact ⟨z, rfl, z0, z1, h.fix r hr z hzr⟩
  · cases e
theorem top_plain (h : Rted n m R) {w : Wd} {A B s : Fm} (hA : stepT m R A = none) (hB : stepT m R B = none) (e : topT m R w A B = some s) : NF m R s = s := by
  unfold topT at e
  cases he : entT m R w A B with
  | some z =>
    rw [he] at e
    cases e
    obtain ⟨z, rfl, _, _, hz⟩ := entT_fix h he
    show Fm.nm (at0 m z) = _
    rw [hz]
  | none =>
    rw [he] at e
    obtain ⟨v, X, Y, hv, hs⟩ := ruleT_part (e : ruleT w A B = some s)
    rcases hv with rfl | rfl
    · obtain ⟨h1, h2, _⟩ := step_sub hA
      rcases hs with rfl | rfl
      · exact step_none h h1
      · exact step_none h h2
    · obtain ⟨h1, h2, _⟩ := step_sub hB
      rcases hs with rfl | rfl
      · exact step_none h h1
      · exact step_none h h2
theorem step_NF (h : Rted n m R) : ∀ {f g : Fm}, f.In n → stepT m R f = some g → NF m R g = NF m R f
  | .nm i, g, hi, e => by
    unfold stepT at e
    split at e
    · cases e
    · cases e
      show Fm.nm (at0 m (at0 m i)) = Fm.nm (at0 m i)
      rw [(h.mks.at_ i hi.1 hi.2).2.2]
  | .op w A B, g, hi, e => by
    unfold stepT at e
    split at e
    · rename_i A' hA
      cases e
      show (topT m R w (NF m R A') (NF m R B)).getD _ = (topT m R w (NF m R A) (NF m R B)).getD _
      rw [step_NF h hi.1 hA]
    · rename_i hA
      split at e
      · rename_i B' hB
        cases e
        show (topT m R w (NF m R A) (NF m R B')).getD _ = (topT m R w (NF m R A) (NF m R B)).getD _
        rw [step_NF h hi.2 hB]
      · rename_i hB
        show NF m R g = (topT m R w (NF m R A) (NF m R B)).getD _
        rw [step_none h hA, step_none h hB, e]
        exact top_plain h hA hB e
/-- how much is left to be done -/
def mzF (m : List Int) : Fm → Nat
  | .nm i => if at0 m i = i then 1 else 2
  | .op _ A B => mzF m A + mzF m B + 3
theorem mzF_pos (m : List Int) : ∀ f : Fm, 1 ≤ mzF m f
  | .nm i => by unfold mzF; split <;> omega
  | .op _ A B => by unfold mzF; omega
theorem mzF_le (m : List Int) : ∀ f : Fm, mzF m f ≤ 3 * f.sz
  | .nm i => by unfold mzF Fm.sz; split <;> omega
  | .op _ A B => by
    have := mzF_le m A
    have := mzF_le m B
    unfold mzF Fm.sz
    omega
theorem step_lt (h : Rted n m R) : ∀ {f g : Fm}, f.In n → stepT m R f = some g → mzF m g < mzF m f ∧ g.In n ∧ g.dep ≤ f.dep ∧ g.sz ≤ f.sz
  | .nm i, g, hi, e => by
    unfold stepT at e
    split at e
    · cases e
    · rename_i hne
      cases e
      have := h.mks.lt hi.1 hi.2
      refine ⟨?_, this, Nat.le_refl _, Nat.le_refl _⟩
      unfold mzF
      rw [if_neg hne, if_pos (h.mks.at_ i hi.1 hi.2).2.2]
      decide
  | .op w A B, g, hi, e => by
    unfold stepT at e
    split at e
    · rename_i A' hA
      cases e
      obtain ⟨h1, h2, h3, h4⟩ := step_lt h hi.1 hA
      refine ⟨by unfold mzF; omega, ⟨h2, hi.2⟩, ?_, ?_⟩
      · simp only [Fm.dep]; omega
      · simp only [Fm.sz]; omega
    · rename_i hA
      split at e
      · rename_i B' hB
        cases e
        obtain ⟨h1, h2, h3, h4⟩ := step_lt h hi.2 hB
        refine ⟨by unfold mzF; omega, ⟨hi.1, h2⟩, ?_, ?_⟩
        · simp only [Fm.dep]; omega
        · simp only [Fm.sz]; omega
      · rename_i hB
        unfold topT at e
        cases he : entT m R w A B with
        | some z =>
          rw [he] at e
          cases e
          obtain ⟨z, rfl, z0, z1, hz⟩ := entT_fix h he
          refine ⟨?_, ⟨z0, z1⟩, Nat.zero_le _, ?_⟩
          · have := mzF_pos m A
            have := mzF_pos m B
            unfold mzF
            rw [if_pos hz]
            omega
          · have := A.dep_sz
            simp only [Fm.sz]; omega
        | none =>
          rw [he] at e
          obtain ⟨v, X, Y, hv, hs⟩ := ruleT_part (e : ruleT w A B = some g)
          have pA := mzF_pos m A
          have pB := mzF_pos m B
          rcases hv with rfl | rfl
          · rcases hs with rfl | rfl
            · refine ⟨by simp only [mzF]; omega, hi.1.1, ?_, ?_⟩
              · simp only [Fm.dep]; omega
              · simp only [Fm.sz]; omega
            · refine ⟨by simp only [mzF]; omega, hi.1.2, ?_, ?_⟩
              · simp only [Fm.dep]; omega
              · simp only [Fm.sz]; omega
          · rcases hs with rfl | rfl
            · refine ⟨by simp only [mzF]; omega, hi.2.1, ?_, ?_⟩
              · simp only [Fm.dep]; omega
              · simp only [Fm.sz]; omega
            · refine ⟨by simp only [mzF]; omega, hi.2.2, ?_, ?_⟩
              · simp only [Fm.dep]; omega
              · simp only [Fm.sz]; omega
end
end DL

/-! sorted of lists of data that are alike. -/
namespace DL
open PySem PySem.Spec PyProof.Rows L2
section
variable {K : PySem.W.Frag} {H : Hp}
theorem each_of {R : Value → D → Prop} : ∀ {xs : List V} {us : List Value} {ds : List D}, Vals xs us → FzAll K H xs ds → (∀ x u d, RelV x u → Fz K H x d → d ∈ ds → R u d) → PySem.W.EachIs R us ds
  | _, _, _, .nil, .nil, _ => .nil
  | _, _, _, .cons r rs, .cons f fs, h => .cons (h _ _ _ r f List.mem_cons_self) (each_of rs fs fun x u d r f hd => h x u d r f (List.mem_cons_of_mem _ hd))
theorem of_each : ∀ {us : List Value} {ds : List D}, PySem.W.EachIs (fun v d => ∃ x, RelV x v ∧ Fz K H x d) us ds → ∃ ys, Vals ys us ∧ FzAll K H ys ds
  | _, _, .nil => ⟨[], .nil, .nil⟩
  | _, _, .cons ⟨x, r, f⟩ t => by
    obtain ⟨ys, rs, fs⟩ := of_each t
    exact ⟨x :: ys, .cons r rs, .cons f fs⟩
end
def rSortGV (K : PySem.W.Frag) : List V → Hp → VK → Prop := fun vs H Q => ∃ (a : Addr) (xs : List V) (ds : List D), vs = [V.ref a] ∧ SqL K H a xs ∧ FzAll K H xs ds ∧ (∀ x d, Fz K H x d → d ∈ ds → L2.Dp K H x (rd d)) ∧ PySem.W.AllAlike (ds.map rd) ∧ PySem.W.Sortable (ds.map rd) ∧ (∀ d ∈ ds, (rd d).depth ≤ 20) ∧
  ∀ (ys : List V) (p : Addr), FzAll K H ys (ds.mergeSort (PySem.W.dataLe false rd)) → H p = none → Q (.ref p) (upd H p (.lst ys))
theorem cr_sortG {X : Cx} (hu : X.A.units + 64 < cLine) : CallR X (.builtin "sorted") (rSortGV X.K) := by
  intro pins s σ H vs us Q I r h
  obtain ⟨a, xs, ds, rfl, hs, hf, hd, hal, hso, hdp, q⟩ := h
  obtain ⟨its, rv, p, hz⟩ := I.list hs
  obtain ⟨u, rfl, ru⟩ := r.one
  cases ru
  have hlen : ds.length = its.length := by rw [← hf.length]; exact rv.length
  have hz : xs.length ≤ sizeLine := hz
  have hzl : ds.length ≤ sizeLine := by rw [← hf.length]; exact hz
  refine PySem.W.sorted_data (vs := its) (bs := ds) (enc := rd) (R := fun v d => ∃ x, RelV x v ∧ Fz X.K H x d) p.isList (each_of rv hf fun x u d r f _ => ⟨x, r, f⟩) (each_of rv hf fun x u d r f hd' => L2.Dp.reads I _ _ _ (hd x d f hd') r) hal hso hzl (fun b hb => by have := hdp b hb; omega) fun out hl he => ?_
  obtain ⟨ys, r2, f2⟩ := of_each he
  obtain ⟨ep, old⟩ := PyProof.Rows.sortedAll_at s.heap its out.toArray
  have fit : ys.length ≤ sizeLine := by rw [r2.length, hl]; exact hzl
  exact ⟨.ref _, _, I.laid (t' := s.toks) (o := .lst ys) (fun _ _ => PyProof.Rows.sortedAll_old) (Nat.le_succ _) ⟨fit, out, ep, r2, old⟩, rfl, q ys _ f2 (I.hok.fresh (Nat.le_succ _))⟩
/-- sorted(xs), a list of data that are alike -/
def rSortGX : RCD := fun ds M Q => match ds with
  | [.ref p] => ∃ xs : List D, M p = some (.lst xs) ∧ (∀ d ∈ xs, pureD d = true ∧ (rd d).canLay0 = true ∧ (rd d).depth ≤ 20) ∧ PySem.W.AllAlike (xs.map rd) ∧ PySem.W.Sortable (xs.map rd) ∧ ∀ q, M q = none → Q (.ref q) (updM M q (.lst (xs.mergeSort (PySem.W.dataLe false rd))))
  | _ => False
theorem ca_sortG {X : Cx} (hu : X.A.units + 64 < cLine) : CaR X (.builtin "sorted") rSortGX := by
  refine ⟨_, cr_sortG hu, ?_⟩
  intro H M vs ds Q' Q fs m h k
  unfold rSortGX at h
  split at h
  · obtain ⟨xs, hp, hx, hal, hso, q⟩ := h
    cases fs with
    | cons f t =>
      cases t
      cases f
      obtain ⟨ys, h0, f⟩ := m.lst hp
      exact ⟨_, ys, xs, rfl, .of h0, f, fun x d fx hd => Rdm.dp m _ _ _ (rdm_rd d (hx d hd).1) fx (hx d hd).2.1, hal, hso, fun d hd => (hx d hd).2.2, fun zs p fz hp' => k.newLst m fz (fun p' hp' => q p' hp') hp'⟩
  · exact h.elim
/-! ### xs == [] for things of any kind -/
theorem op_eqE {X : Cx} (hu : X.A.units + 64 < cLine) : OpR X (compareOp .Eq) (fun x y H Q => ∃ a b xs, x = .ref a ∧ y = .ref b ∧ SqL X.K H a xs ∧ SqL X.K H b [] ∧ Q (.bl xs.isEmpty) H) := by
  intro pins s σ H x y v u Q I rx ry h
  obtain ⟨a, b, xs, rfl, rfl, ha, hb, q⟩ := h
  cases (show v = Value.ref a from rx)
  cases (show u = Value.ref b from ry)
  obtain ⟨us, r1, p1, _⟩ := I.list ha
  obtain ⟨ws, r2, p2, _⟩ := I.list hb
  cases r2
  cases xs with
  | nil =>
    cases r1
    exact PySem.SeqAt.RcAt.lists (e := fun _ => true) p1.isList p2.isList rfl (by omega) (fun j h1 _ => absurd h1 (Nat.not_lt_zero j)) X.prog X.w _ _ ⟨.bl true, H, I, rfl, q⟩
  | cons z zs =>
    cases r1 with
    | cons r1 r3 => exact PySem.SeqAt.RcAt.lists_lengths p1.isList p2.isList (by simp) (by omega) X.prog X.w _ _ ⟨.bl false, H, I, rfl, q⟩
def rEqE : R2D := fun x y M Q => match x, y with
  | .ref a, .ref b => ∃ xs, M a = some (.lst xs) ∧ M b = some (.lst []) ∧ Q (.bl xs.isEmpty) M
  | _, _ => False
theorem cr_eqE {X : Cx} (hu : X.A.units + 64 < cLine) : CR X .Eq rEqE := by
  refine ⟨_, op_eqE hu, ?_⟩
  intro H M vx vy x y Q' Q fx fy m h k
  unfold rEqE at h
  split at h
  · obtain ⟨xs, h1, h2, q⟩ := h
    cases fx
    cases fy
    obtain ⟨ys, e, f⟩ := m.lst h1
    obtain ⟨zs, e2, f2⟩ := m.lst h2
    cases f2
    have el : ys.isEmpty = xs.isEmpty := by
      have := f.length
      cases ys <;> cases xs <;> simp_all
    refine ⟨_, _, ys, rfl, rfl, .of e, .of e2, ?_⟩
    rw [el]
    exact k.val m (.bl _) q
  · exact h.elim
/-! ### one name, and two in a tuple, in a comprehension -/
def g12 (i j l : Nat) : D → DSt → Option DSt := fun x ρ => match x with
  | .pr [a, .tup [b, c]] => some (((ρ.set i (some a)).set j (some b)).set l (some c))
  | _ => none
theorem own12 (K : PySem.W.Frag) {i j l : Nat} (hij : i ≠ j) (hil : i ≠ l) (hjl : j ≠ l) : OwnG K (gTup K 2 (gCons (gName i) (gCons (gTup K 2 (gCons (gName j) (gCons (gName l) gNil))) gNil))) [i, j, l] (g12 i j l) := ⟨fun x v H σ ρ ρ2 Q f r e k => by
  unfold g12 at e
  split at e
  · cases e
    obtain ⟨p, xs, rfl, hs, fs⟩ := tp_of f (.inr rfl)
    cases fs with
    | cons f1 fs =>
      cases fs with
      | cons f2 fs =>
        cases fs
        obtain ⟨p2, ys, rfl, hs2, fs2⟩ := tp_of f2 (.inl rfl)
        cases fs2 with
        | cons f3 fs =>
          cases fs with
          | cons f4 fs =>
            cases fs
            refine ⟨p, _, rfl, hs, rfl, _, _, rfl, _, _, rfl, p2, _, rfl, hs2, rfl, _, _, rfl, _, _, rfl, rfl, rfl, k _ ?_ ?_⟩
            · show (((((((((σ.set l none).set j none).set i none).set i _).set j _).set l _).set l none).set j none).set i none) = ((σ.set l none).set j none).set i none
              rw [wipe3 _ hij hil hjl]
              apply List.ext_getElem?
              intro m
              simp only [List.getElem?_set, List.length_set]
              repeat' split <;> simp_all
            · show RelS K H ((((((σ.set l none).set j none).set i none).set i _).set j _).set l _) _
              rw [set3 σ hij hil hjl]
              exact ((r.set i f1).set j f3).set l f4
  · cases e⟩
end DL

namespace DL
open PySem PySem.Spec PyProof.Rows L2
/-! ### plain forms by rows and rules gone through in turn -/
theorem Fm.dep_sz2 : ∀ f : Fm, 2 * f.dep + 1 ≤ f.sz
  | .nm _ => Nat.le_refl _
  | .op _ x y => by
    have := x.dep_sz2
    have := y.dep_sz2
    simp only [Fm.dep, Fm.sz]
    omega
section
variable {n : Nat} {m : List Int} {R : List (List Int)}
theorem stop_nm {i : Int} (h : stepT m R (.nm i) = none) : at0 m i = i := by
  unfold stepT at h
  split at h
  · assumption
  · cases h
theorem NF_ok (h : Rted n m R) : ∀ {f : Fm}, f.In n → (NF m R f).In n ∧ (NF m R f).dep ≤ f.dep ∧ (NF m R f).sz ≤ f.sz ∧ stepT m R (NF m R f) = none
  | .nm i, hi => by
    refine ⟨h.mks.lt hi.1 hi.2, Nat.le_refl _, Nat.le_refl _, ?_⟩
    show stepT m R (.nm (at0 m i)) = none
    unfold stepT
    rw [if_pos (h.mks.at_ i hi.1 hi.2).2.2]
  | .op w A B, hi => by
    obtain ⟨a1, a2, a3, a4⟩ := NF_ok h hi.1
    obtain ⟨b1, b2, b3, b4⟩ := NF_ok h hi.2
    have dd : (Fm.op w A B).dep = max A.dep B.dep + 1 := rfl
    have zz : (Fm.op w A B).sz = A.sz + B.sz + 1 := rfl
    rw [dd, zz]
    unfold NF
    generalize NF m R A = A' at *
    generalize NF m R B = B' at *
    have dA := A'.dep_sz
    have dB := B'.dep_sz
    cases e : topT m R w A' B' with
    | none =>
      show (Fm.op w A' B').In n ∧ _
      refine ⟨⟨a1, b1⟩, ?_, ?_, ?_⟩
      · show max A'.dep B'.dep + 1 ≤ _
        omega
      · show A'.sz + B'.sz + 1 ≤ _
        omega
      · show stepT m R (.op w A' B') = none
        unfold stepT
        rw [a4, b4]
        exact e
    | some s =>
      show s.In n ∧ s.dep ≤ _ ∧ s.sz ≤ _ ∧ stepT m R s = none
      unfold topT at e
      cases he : entT m R w A' B' with
      | some z =>
        rw [he] at e
        cases e
        obtain ⟨z, rfl, z0, z1, hz⟩ := entT_fix h he
        refine ⟨⟨z0, z1⟩, Nat.zero_le _, ?_, ?_⟩
        · show 1 ≤ _
          omega
        · unfold stepT
          rw [if_pos hz]
      | none =>
        rw [he] at e
        obtain ⟨v, X, Y, hv, hs⟩ := ruleT_part (e : ruleT w A' B' = some s)
        rcases hv with rfl | rfl
        · obtain ⟨h1, h2, _⟩ := step_sub a4
          have dX : (Fm.op v X Y).dep = max X.dep Y.dep + 1 := rfl
          have zX : (Fm.op v X Y).sz = X.sz + Y.sz + 1 := rfl
          rw [dX] at a2
          rw [zX] at a3
          rcases hs with rfl | rfl
          · exact ⟨a1.1, by omega, by omega, h1⟩
          · exact ⟨a1.2, by omega, by omega, h2⟩
        · obtain ⟨h1, h2, _⟩ := step_sub b4
          have dX : (Fm.op v X Y).dep = max X.dep Y.dep + 1 := rfl
          have zX : (Fm.op v X Y).sz = X.sz + Y.sz + 1 := rfl
          rw [dX] at b2
          rw [zX] at b3
          rcases hs with rfl | rfl
          · exact ⟨b1.1, by omega, by omega, h1⟩
          · exact ⟨b1.2, by omega, by omega, h2⟩
theorem NF_idem (h : Rted n m R) {f : Fm} (hf : f.In n) : NF m R (NF m R f) = NF m R f := step_none h (NF_ok h hf).2.2.2
def hitR (w : Wd) (A B : Fm) (r : List Int) : Bool := decide (Fm.nm (at0 r w.pl.1) = A) && decide (Fm.nm (at0 r w.pl.2.1) = B)
theorem entT_hit {w : Wd} {A B : Fm} (hA : stepT m R A = none) (hB : stepT m R B = none) : entT m R w A B = (R.find? (hitR w A B)).map fun r => .nm (at0 r w.pl.2.2) := by
  have no : (∀ r, hitR w A B r = false) → (R.find? (hitR w A B)).map (fun r => Fm.nm (at0 r w.pl.2.2)) = none := fun z => by
    rw [List.find?_eq_none.mpr fun r _ => by rw [z r]; exact Bool.false_ne_true]
    rfl
  cases A with
  | op v X Y => exact (no fun r => rfl).symm
  | nm x =>
    cases B with
    | op v X Y => exact (no fun r => Bool.and_false _).symm
    | nm y =>
      show (tldR R _ _ _ (at0 m x) (at0 m y)).map Fm.nm = _
      rw [stop_nm hA, stop_nm hB]
      unfold tldR
      rw [Option.map_map]
      have e : (fun r => decide (at0 r w.pl.1 = x) && decide (at0 r w.pl.2.1 = y)) = hitR w (.nm x) (.nm y) := by
        funext r
        unfold hitR
        rw [decide_eq_decide.mpr (⟨fun z => by rw [z], fun z => Fm.nm.inj z⟩ : at0 r w.pl.1 = x ↔ Fm.nm (at0 r w.pl.1) = .nm x), decide_eq_decide.mpr (⟨fun z => by rw [z], fun z => Fm.nm.inj z⟩ : at0 r w.pl.2.1 = y ↔ Fm.nm (at0 r w.pl.2.1) = .nm y)]
      rw [e]
      rfl
end
def ruleLB : Fm → List (Fm × Fm)
  | .op _ X Y => [(.op .w X (.op .b X Y), Y), (.op .b X (.op .w X Y), Y), (.op .a Y (.op .w X Y), X)]
  | .nm _ => []
def ruleLA : Fm → List (Fm × Fm)
  | .op _ X Y => [(.op .w (.op .a X Y) X, Y), (.op .b (.op .a X Y) Y, X), (.op .a (.op .b X Y) Y, X)]
  | .nm _ => []
def ruleLs (A B : Fm) : List (Fm × Fm) := ruleLB B ++ ruleLA A
theorem find3 {p : Fm × Fm → Bool} {x y z : Fm × Fm} : [x, y, z].find? p = if p x then some x else if p y then some y else if p z then some z else none := by
  simp only [List.find?_cons, List.find?_nil]
  cases p x <;> cases p y <;> cases p z <;> rfl
theorem ruleLB_find (w : Wd) (A B : Fm) : ((ruleLB B).find? fun p => decide (p.1 = .op w A B)).map (·.2) = ruleB w A B := by
  cases B with
  | nm i => cases w <;> rfl
  | op v X Y =>
    show ([_, _, _].find? _).map _ = _
    rw [find3]
    cases w <;> cases v <;> simp [ruleB]
    all_goals first
      | rfl
      | (split <;> rfl)
theorem ruleLA_find (w : Wd) (A B : Fm) : ((ruleLA A).find? fun p => decide (p.1 = .op w A B)).map (·.2) = ruleA w A B := by
  cases A with
  | nm i => cases w <;> rfl
  | op v X Y =>
    show ([_, _, _].find? _).map _ = _
    rw [find3]
    cases w <;> cases v <;> simp [ruleA]
    all_goals first
      | rfl
      | (split <;> rfl)
theorem ruleLs_find (w : Wd) (A B : Fm) : ((ruleLs A B).find? fun p => decide (p.1 = .op w A B)).map (·.2) = ruleT w A B := by
  unfold ruleLs ruleT
  rw [List.find?_append, ← ruleLB_find, ← ruleLA_find]
  cases (ruleLB B).find? fun p => decide (p.1 = .op w A B) <;> rfl
def prF (p : Fm × Fm) : D := .tup [fD p.1, fD p.2]
theorem find_atP {α : Type} {p : α → Bool} {xs : List α} {t : Nat} (ht : t < xs.length) (hp : p xs[t] = true) (hno : ∀ u (hu : u < xs.length), u < t → p xs[u] = false) : xs.find? p = some xs[t] := by
  refine List.find?_eq_some_iff_append.mpr ⟨hp, xs.take t, xs.drop (t + 1), ?_, fun r hr => ?_⟩
  · rw [← List.drop_eq_getElem_cons ht, List.take_append_drop]
  · obtain ⟨u, hu, rfl⟩ := List.getElem_of_mem hr
    rw [List.length_take] at hu
    rw [List.getElem_take, hno u (by omega) (by omega)]
    rfl
theorem find_noP {α : Type} {p : α → Bool} {xs : List α} (hno : ∀ u (hu : u < xs.length), u < xs.length → p xs[u] = false) : xs.find? p = none :=
  List.find?_eq_none.mpr fun r hr => by
    obtain ⟨u, hu, rfl⟩ := List.getElem_of_mem hr
    rw [hno u hu hu]
    exact Bool.false_ne_true
theorem upd_again {M M0 M1 : Mp} {p : Addr} {o : MO} (e : updM M p o = M1) (h : M0 p = none) (K : Keep M0 M) : M1 p = some o ∧ Keep M0 M1 := by
  subst e
  exact ⟨updM_same, Keep.updN K h⟩
theorem ruleLs_dep {A B : Fm} {p : Fm × Fm} (h : p ∈ ruleLs A B) : p.1.dep ≤ max A.dep B.dep + 1 := by
  rcases List.mem_append.mp h with h | h
  · cases B with
    | nm i => exact absurd h List.not_mem_nil
    | op v X Y =>
      simp only [ruleLB, List.mem_cons, List.not_mem_nil, or_false] at h
      rcases h with rfl | rfl | rfl <;> simp only [Fm.dep] <;> omega
  · cases A with
    | nm i => exact absurd h List.not_mem_nil
    | op v X Y =>
      simp only [ruleLA, List.mem_cons, List.not_mem_nil, or_false] at h
      rcases h with rfl | rfl | rfl <;> simp only [Fm.dep] <;> omega
end DL

/-! Formulas put among closed things; what always, never holds. -/
namespace DL
open PySem L2
/-- pairs of things below n -/
def Prs (n : Nat) (U : List (List Int)) : Prop := ∀ r ∈ U, r.length = 2 ∧ ∀ x ∈ r, 0 ≤ x ∧ x < (n : Int)
def tornN (m : List Int) (U : List (List Int)) : Option Nat := U.findIdx? fun r => decide (at0 m (at0 r 0) = at0 m (at0 r 1))
theorem at0_app {xs ys : List Int} {i : Int} (h0 : 0 ≤ i) (h1 : i < xs.length) : at0 (xs ++ ys) i = at0 xs i := by
  unfold at0
  rw [List.getElem?_append_left (by omega)]
theorem at0_end {xs : List Int} {v : Int} : at0 (xs ++ [v]) (xs.length : Nat) = v := by
  unfold at0
  rw [Int.toNat_natCast, List.getElem?_append_right (Nat.le_refl _), Nat.sub_self]
  rfl
theorem at0_snoc {xs : List Int} {v i : Int} (h0 : 0 ≤ i) (h1 : i < (xs ++ [v]).length) : at0 (xs ++ [v]) i = if i = (xs.length : Nat) then v else at0 xs i := by
  rw [List.length_append] at h1
  have h1 : i < ((xs.length + 1 : Nat) : Int) := h1
  by_cases e : i = (xs.length : Nat)
  · rw [if_pos e, e, at0_end]
  · rw [if_neg e, at0_app h0 (by omega)]
structure Cl3 {α : Type} (T : α → α → α → Prop) : Prop where
  c : ∀ {x y z z' : α}, T x y z → T x y z' → z = z'
  b : ∀ {x y y' z : α}, T x y z → T x y' z → y = y'
  a : ∀ {x x' y z : α}, T x y z → T x' y z → x = x'
/-- a triple, by a word: two things and what they tell -/
def TW {α : Type} (T : α → α → α → Prop) (w : Wd) (x y z : α) : Prop := match w with
  | .w => T x y z
  | .b => T x z y
  | .a => T z x y
theorem Cl3.tw {α : Type} {T : α → α → α → Prop} (h : Cl3 T) {w : Wd} {x y z z' : α} (h1 : TW T w x y z) (h2 : TW T w x y z') : z = z' := by
  cases w
  · exact h.c h1 h2
  · exact h.b h1 h2
  · exact h.a h1 h2
def rwW (w : Wd) (x y z : Int) : List Int := match w with
  | .w => [x, y, z]
  | .b => [x, z, y]
  | .a => [z, x, y]
def RT (R : List (List Int)) (x y z : Int) : Prop := [x, y, z] ∈ R
theorem tw_row {R : List (List Int)} {w : Wd} {x y z : Int} : TW (RT R) w x y z ↔ rwW w x y z ∈ R := by cases w <;> exact Iff.rfl
theorem row3 {r : List Int} (h : r.length = 3) : r = [at0 r 0, at0 r 1, at0 r 2] := by
  match r, h with
  | [x, y, z], _ => rfl
theorem tld_T {n : Nat} {R : List (List Int)} (h : Rows n R) {w : Wd} {x y z : Int} (e : tldR R w.pl.1 w.pl.2.1 w.pl.2.2 x y = some z) : TW (RT R) w x y z := by
  unfold tldR at e
  obtain ⟨r, hr, rfl⟩ := Option.map_eq_some_iff.mp e
  have hm := List.mem_of_find?_eq_some hr
  have hp := List.find?_some hr
  obtain ⟨h1, h2⟩ := Bool.and_eq_true_iff.mp hp
  have h1 := of_decide_eq_true h1
  have h2 := of_decide_eq_true h2
  have h3 := row3 (h r hm).1
  rw [tw_row, ← h1, ← h2]
  cases w <;> exact h3 ▸ hm
theorem tld_no {R : List (List Int)} {w : Wd} {x y : Int} (e : tldR R w.pl.1 w.pl.2.1 w.pl.2.2 x y = none) (z : Int) : ¬ TW (RT R) w x y z := fun h => by
  rw [tw_row] at h
  unfold tldR at e
  have := List.find?_eq_none.mp (Option.map_eq_none_iff.mp e) _ h
  refine this (Bool.and_eq_true_iff.mpr ⟨decide_eq_true ?_, decide_eq_true ?_⟩) <;> cases w <;> rfl
/-- things with marks, and rows of marks -/
abbrev PS := List Int × List (List Int)
structure SOk (s : PS) : Prop where
  rt : Rted s.1.length s.1 s.2
  cl : Cl3 (RT s.2)
structure PLe (s s' : PS) : Prop where
  pre : ∃ e, s'.1 = s.1 ++ e
  sub : ∀ r ∈ s.2, r ∈ s'.2
theorem PLe.refl {s : PS} : PLe s s := ⟨⟨[], by rw [List.append_nil]⟩, fun _ h => h⟩
theorem PLe.trans {s t u : PS} (a : PLe s t) (b : PLe t u) : PLe s u := by
  obtain ⟨e, he⟩ := a.pre
  obtain ⟨e', he'⟩ := b.pre
  exact ⟨⟨e ++ e', by rw [he', he, List.append_assoc]⟩, fun r hr => b.sub r (a.sub r hr)⟩
theorem PLe.len {s t : PS} (a : PLe s t) : s.1.length ≤ t.1.length := by
  obtain ⟨e, he⟩ := a.pre
  rw [he, List.length_append]
  omega
theorem PLe.at_ {s t : PS} (a : PLe s t) {i : Int} (h0 : 0 ≤ i) (h1 : i < s.1.length) : at0 t.1 i = at0 s.1 i := by
  obtain ⟨e, he⟩ := a.pre
  rw [he, at0_app h0 h1]
def thirdS (w : Wd) (s : PS) (x y : Int) : Int × PS := match tldR s.2 w.pl.1 w.pl.2.1 w.pl.2.2 x y with
  | some z => (z, s)
  | none => ((s.1.length : Nat), (s.1 ++ [((s.1.length : Nat) : Int)], s.2 ++ [rwW w x y (s.1.length : Nat)]))
def putS : Fm → PS → Int × PS
  | .nm i, s => (at0 s.1 i, s)
  | .op w A B, s => thirdS w (putS B (putS A s).2).2 (putS A s).1 (putS B (putS A s).2).1
theorem cl3_snoc {R : List (List Int)} (h : Cl3 (RT R)) {w : Wd} {x y N : Int} (key : ∀ {p q r : Int}, [p, q, r] ∈ R → p < N ∧ q < N ∧ r < N) (no : ∀ z, ¬ TW (RT R) w x y z) (xN : x < N) (yN : y < N) : Cl3 (RT (R ++ [rwW w x y N])) := by
  have mm : ∀ {p q r a b c : Int}, [p, q, r] ∈ R ++ [[a, b, c]] → [p, q, r] ∈ R ∨ (p = a ∧ q = b ∧ r = c) := fun h => by
    rcases List.mem_append.mp h with h | h
    · exact .inl h
    · have := List.mem_singleton.mp h
      simp only [List.cons.injEq, and_true] at this
      exact .inr this
  cases w
  all_goals
    constructor
    all_goals
      intro p q r r' h1 h2
      rcases mm h1 with h1 | ⟨a1, b1, c1⟩ <;> rcases mm h2 with h2 | ⟨a2, b2, c2⟩
      all_goals first
        | exact h.c h1 h2
        | exact h.b h1 h2
        | exact h.a h1 h2
        | (have k := key h1; omega)
        | (have k := key h2; omega)
        | omega
        | (rw [a1, b1] at h2; exact absurd h2 (no _))
        | (rw [a2, b2] at h1; exact absurd h1 (no _))
        | (rw [a1, c1] at h2; exact absurd h2 (no _))
        | (rw [a2, c2] at h1; exact absurd h1 (no _))
        | (rw [b1, c1] at h2; exact absurd h2 (no _))
        | (rw [b2, c2] at h1; exact absurd h1 (no _))
structure TOk (s : PS) (x : Int) : Prop where
  h0 : 0 ≤ x
  h1 : x < s.1.length
  fix : at0 s.1 x = x
theorem TOk.le {s t : PS} {x : Int} (h : TOk s x) (a : PLe s t) : TOk t x := ⟨h.h0, by have := a.len; have := h.h1; omega, by rw [a.at_ h.h0 h.h1]; exact h.fix⟩
theorem SOk.key {s : PS} (h : SOk s) {p q r : Int} (e : [p, q, r] ∈ s.2) : (0 ≤ p ∧ p < s.1.length) ∧ (0 ≤ q ∧ q < s.1.length) ∧ 0 ≤ r ∧ r < s.1.length := by
  have := (h.rt.rows _ e).2
  exact ⟨this p (by simp), this q (by simp), this r (by simp)⟩
theorem SOk.tw {s : PS} (h : SOk s) {w : Wd} {x y z : Int} (e : TW (RT s.2) w x y z) : TOk s z := by
  rw [tw_row] at e
  have hr := (h.rt.rows _ e).2
  have hf := h.rt.fix _ e
  have hz : z ∈ rwW w x y z := by cases w <;> simp [rwW]
  exact ⟨(hr z hz).1, (hr z hz).2, hf z hz⟩
theorem third_ok {s : PS} (h : SOk s) {w : Wd} {x y : Int} (hx : TOk s x) (hy : TOk s y) : SOk (thirdS w s x y).2 ∧ PLe s (thirdS w s x y).2 ∧ TOk (thirdS w s x y).2 (thirdS w s x y).1 ∧
    TW (RT (thirdS w s x y).2.2) w x y (thirdS w s x y).1 ∧ (thirdS w s x y).2.1.length ≤ s.1.length + 1 ∧ (thirdS w s x y).2.2.length ≤ s.2.length + 1 := by
  unfold thirdS
  cases e : tldR s.2 w.pl.1 w.pl.2.1 w.pl.2.2 x y with
  | some z =>
    have t := tld_T h.rt.rows e
    exact ⟨h, .refl, h.tw t, t, Nat.le_succ _, Nat.le_succ _⟩
  | none =>
    have no := tld_no e
    have x0 := hx.h0
    have x1 := hx.h1
    have y0 := hy.h0
    have y1 := hy.h1
    have hl : (s.1 ++ [((s.1.length : Nat) : Int)]).length = s.1.length + 1 := by rw [List.length_append]; rfl
    have en : at0 (s.1 ++ [((s.1.length : Nat) : Int)]) (s.1.length : Nat) = (s.1.length : Nat) := at0_end
    have mks : Mk' (s.1 ++ [((s.1.length : Nat) : Int)]).length (s.1 ++ [((s.1.length : Nat) : Int)]) := ⟨rfl, fun i h0 h1 => by
      rw [at0_snoc h0 h1]
      by_cases z : i = (s.1.length : Nat)
      · rw [if_pos z, en]
        omega
      · rw [if_neg z]
        have := h.rt.mks.at_ i h0 (by omega)
        rw [at0_app this.1 (by omega)]
        exact this⟩
    have mem : ∀ r ∈ s.2 ++ [rwW w x y (s.1.length : Nat)], r ∈ s.2 ∨ (r.length = 3 ∧ ∀ z ∈ r, z = x ∨ z = y ∨ z = (s.1.length : Nat)) := fun r hr => by
      rcases List.mem_append.mp hr with hr | hr
      · exact .inl hr
      · obtain rfl := List.mem_singleton.mp hr
        refine .inr ⟨by cases w <;> rfl, fun z hz => ?_⟩
        cases w <;> simp only [rwW, List.mem_cons, List.not_mem_nil, or_false] at hz <;> omega
    refine ⟨⟨⟨mks, fun r hr => ?_, fun r hr z hz => ?_⟩, ?_⟩, ⟨⟨_, rfl⟩, fun r hr => List.mem_append_left _ hr⟩, ⟨by show (0 : Int) ≤ ((s.1.length : Nat) : Int); omega, by show ((s.1.length : Nat) : Int) < (((s.1 ++ [((s.1.length : Nat) : Int)]).length : Nat) : Int); omega, en⟩, ?_, by show (s.1 ++ [((s.1.length : Nat) : Int)]).length ≤ s.1.length + 1; omega, by show (s.2 ++ [_]).length ≤ _; rw [List.length_append]; exact Nat.le_refl _⟩
    · rcases mem r hr with hr | ⟨h3, hz⟩
      · exact ⟨(h.rt.rows r hr).1, fun x hx => by have := (h.rt.rows r hr).2 x hx; show _ ∧ x < (((s.1 ++ [((s.1.length : Nat) : Int)]).length : Nat) : Int); omega⟩
      · refine ⟨h3, fun z hz' => ?_⟩
        show _ ∧ z < (((s.1 ++ [((s.1.length : Nat) : Int)]).length : Nat) : Int)
        rcases hz z hz' with rfl | rfl | rfl <;> omega
    · rcases mem r hr with hr | ⟨h3, hz'⟩
      · have := (h.rt.rows r hr).2 z hz
        show at0 (s.1 ++ _) z = z
        rw [at0_app this.1 this.2]
        exact h.rt.fix r hr z hz
      · show at0 (s.1 ++ _) z = z
        rcases hz' z hz with rfl | rfl | rfl
        · rw [at0_app x0 x1]; exact hx.fix
        · rw [at0_app y0 y1]; exact hy.fix
        · exact en
    · exact cl3_snoc h.cl (fun e => by have := h.key e; omega) no x1 y1
    · rw [tw_row]
      exact List.mem_append_right _ (List.mem_singleton.mpr rfl)
structure POk (f : Fm) (s : PS) (t : Int × PS) : Prop where
  ok : SOk t.2
  le : PLe s t.2
  th : TOk t.2 t.1
  len : t.2.1.length + 1 ≤ s.1.length + f.sz
  lenR : t.2.2.length + 1 ≤ s.2.length + f.sz
theorem put_ok {n : Int} : ∀ {f : Fm} {s : PS}, SOk s → f.In n → n ≤ s.1.length → POk f s (putS f s)
  | .nm i, s, h, hf, hn => by
    have := h.rt.mks.at_ i hf.1 (by have := hf.2; omega)
    refine ⟨h, .refl, ⟨this.1, by have := hf.2; show at0 s.1 i < ((s.1.length : Nat) : Int); omega, this.2.2⟩, Nat.le_refl _, Nat.le_refl _⟩
  | .op w A B, s, h, hf, hn => by
    have a := put_ok h hf.1 hn
    have b := put_ok a.ok hf.2 (by have := a.le.len; omega)
    obtain ⟨t1, t2, t3, _, t5, t6⟩ := third_ok b.ok (w := w) (a.th.le b.le) b.th
    have l1 := a.len
    have l2 := b.len
    have l3 := a.lenR
    have l4 := b.lenR
    refine ⟨t1, (a.le.trans b.le).trans t2, t3, ?_, ?_⟩
    · show (thirdS _ _ _ _).2.1.length + 1 ≤ s.1.length + (A.sz + B.sz + 1)
      omega
    · show (thirdS _ _ _ _).2.2.length + 1 ≤ s.2.length + (A.sz + B.sz + 1)
      omega

/-! ### what formulas tell where entries hold -/
section
variable {α : Type}
def Val (T : α → α → α → Prop) (μ : Int → α) : Fm → α → Prop
  | .nm i, v => v = μ i
  | .op w A B, v => ∃ a b, Val T μ A a ∧ Val T μ B b ∧ TW T w a b v
def RowsIn (T : α → α → α → Prop) (μ : Int → α) (R : List (List Int)) : Prop := ∀ x y z, [x, y, z] ∈ R → T (μ x) (μ y) (μ z)
def RespA (n : Int) (μ : Int → α) (m : List Int) : Prop := ∀ i : Int, 0 ≤ i → i < n → μ (at0 m i) = μ i
variable {T : α → α → α → Prop} {μ μ' : Int → α}
theorem RowsIn.tw {R : List (List Int)} (h : RowsIn T μ R) {w : Wd} {x y z : Int} (e : TW (RT R) w x y z) : TW T w (μ x) (μ y) (μ z) := by
  cases w
  · exact h _ _ _ e
  · exact h _ _ _ e
  · exact h _ _ _ e
theorem Val.uniq (h : Cl3 T) : ∀ {f : Fm} {v v' : α}, Val T μ f v → Val T μ f v' → v = v'
  | .nm i, v, v', h1, h2 => h1.trans h2.symm
  | .op w A B, v, v', ⟨a, b, h1, h2, h3⟩, ⟨a', b', h1', h2', h3'⟩ => by
    obtain rfl := Val.uniq h h1 h1'
    obtain rfl := Val.uniq h h2 h2'
    exact h.tw h3 h3'
theorem Val.congr {n : Int} (e : ∀ i : Int, 0 ≤ i → i < n → μ' i = μ i) : ∀ {f : Fm} {v : α}, f.In n → Val T μ f v → Val T μ' f v
  | .nm i, v, hf, h => by
    show v = μ' i
    rw [e i hf.1 hf.2]
    exact h
  | .op w A B, v, hf, ⟨a, b, h1, h2, h3⟩ => ⟨a, b, Val.congr e hf.1 h1, Val.congr e hf.2 h2, h3⟩
theorem val_fwd (hT : Cl3 T) {n : Int} : ∀ {f : Fm} {s : PS} {μ : Int → α} {v : α}, SOk s → f.In n → n ≤ s.1.length → RowsIn T μ s.2 → RespA s.1.length μ s.1 → Val T μ f v →
    ∃ μ' : Int → α, (∀ i : Int, 0 ≤ i → i < s.1.length → μ' i = μ i) ∧ RowsIn T μ' (putS f s).2.2 ∧ RespA (putS f s).2.1.length μ' (putS f s).2.1 ∧ μ' (putS f s).1 = v
  | .nm i, s, μ, v, ok, hf, hn, hr, hp, hv => ⟨μ, fun _ _ _ => rfl, hr, hp, by rw [show v = μ i from hv]; exact hp i hf.1 (by have := hf.2; omega)⟩
  | .op w A B, s, μ, v, ok, hf, hn, hr, hp, ⟨a, b, hA, hB, hw⟩ => by
    have oa := put_ok ok hf.1 hn
    have la := oa.le.len
    have ob := put_ok oa.ok hf.2 (by omega : n ≤ _)
    obtain ⟨μ1, e1, r1, p1, v1⟩ := val_fwd hT ok hf.1 hn hr hp hA
    obtain ⟨μ2, e2, r2, p2, v2⟩ := val_fwd hT oa.ok hf.2 (by omega : n ≤ _) r1 p1 (Val.congr (n := n) (fun i h0 h1 => e1 i h0 (by omega)) hf.2 hB)
    have x2 : μ2 (putS A s).1 = a := by rw [e2 _ oa.th.h0 oa.th.h1]; exact v1
    have old : ∀ i : Int, 0 ≤ i → i < s.1.length → μ2 i = μ i := fun i h0 h1 => by rw [e2 i h0 (by omega), e1 i h0 h1]
    have lb := ob.le.len
    have tx := oa.th.le ob.le
    have ty := ob.th
    show ∃ μ' : Int → α, _ ∧ RowsIn T μ' (thirdS w _ _ _).2.2 ∧ RespA (thirdS w _ _ _).2.1.length μ' (thirdS w _ _ _).2.1 ∧ μ' (thirdS w _ _ _).1 = v
    have okb := ob.ok
    generalize (putS B (putS A s).2).2 = u at *
    generalize (putS B (putS A s).2).1 = y at *
    generalize (putS A s).1 = x at *
    unfold thirdS
    cases e : tldR u.2 w.pl.1 w.pl.2.1 w.pl.2.2 x y with
    | some z =>
      have t := r2.tw (tld_T okb.rt.rows e)
      rw [x2, v2] at t
      exact ⟨μ2, old, r2, p2, hT.tw t hw⟩
    | none =>
      have ev : ∀ i : Int, i < u.1.length → (fun i : Int => if i = (u.1.length : Nat) then v else μ2 i) i = μ2 i := fun i h => if_neg (by omega)
      refine ⟨fun i => if i = (u.1.length : Nat) then v else μ2 i, fun i h0 h1 => by rw [ev i (by omega)]; exact old i h0 h1, fun p q r hm => ?_, fun i h0 h1 => ?_, if_pos rfl⟩
      · have hm' : [p, q, r] ∈ u.2 ∨ [p, q, r] = rwW w x y (u.1.length : Nat) := by
          rcases List.mem_append.mp hm with hm | hm
          · exact .inl hm
          · exact .inr (List.mem_singleton.mp hm)
        rcases hm' with hm' | hm'
        · have k := okb.key hm'
          rw [ev p k.1.2, ev q k.2.1.2, ev r k.2.2.2]
          exact r2 p q r hm'
        · have ex : (if x = (u.1.length : Nat) then v else μ2 x) = a := (ev x tx.h1).trans x2
          have ey : (if y = (u.1.length : Nat) then v else μ2 y) = b := (ev y ty.h1).trans v2
          have en : (if ((u.1.length : Nat) : Int) = (u.1.length : Nat) then v else μ2 (u.1.length : Nat)) = v := if_pos rfl
          cases w <;> simp only [rwW, List.cons.injEq, and_true] at hm' <;> obtain ⟨rfl, rfl, rfl⟩ := hm'
          · show T (if _ then _ else _) (if _ then _ else _) (if _ then _ else _)
            rw [ex, ey, en]; exact hw
          · show T (if _ then _ else _) (if _ then _ else _) (if _ then _ else _)
            rw [ex, ey, en]; exact hw
          · show T (if _ then _ else _) (if _ then _ else _) (if _ then _ else _)
            rw [ex, ey, en]; exact hw
      · have h1' : i < (((u.1 ++ [((u.1.length : Nat) : Int)]).length : Nat) : Int) := h1
        show (fun i : Int => if i = (u.1.length : Nat) then v else μ2 i) (at0 (u.1 ++ [((u.1.length : Nat) : Int)]) i) = _
        rw [at0_snoc h0 (by omega)]
        by_cases z : i = (u.1.length : Nat)
        · rw [if_pos z, z]
        · have hl : (u.1 ++ [((u.1.length : Nat) : Int)]).length = u.1.length + 1 := by rw [List.length_append]; rfl
          have k := okb.rt.mks.at_ i h0 (by omega)
          rw [if_neg z, ev _ (by omega)]
          show _ = if i = (u.1.length : Nat) then v else μ2 i
          rw [if_neg z]
          exact p2 i h0 (by omega)
theorem val_bwd {n : Int} : ∀ {f : Fm} {s : PS}, SOk s → f.In n → n ≤ s.1.length → RowsIn T μ (putS f s).2.2 → RespA n μ s.1 → Val T μ f (μ (putS f s).1)
  | .nm i, s, ok, hf, hn, hr, hp => hp i hf.1 hf.2
  | .op w A B, s, ok, hf, hn, hr, hp => by
    have oa := put_ok ok hf.1 hn
    have la := oa.le.len
    have ob := put_ok oa.ok hf.2 (by omega : n ≤ _)
    obtain ⟨t1, t2, t3, t4, t5, t6⟩ := third_ok ob.ok (w := w) (oa.th.le ob.le) ob.th
    have rb : RowsIn T μ (putS B (putS A s).2).2.2 := fun x y z e => hr x y z (t2.sub _ e)
    have ra : RowsIn T μ (putS A s).2.2 := fun x y z e => rb x y z (ob.le.sub _ e)
    exact ⟨_, _, val_bwd ok hf.1 hn ra hp, val_bwd oa.ok hf.2 (by omega : n ≤ _) rb (fun i h0 h1 => by rw [oa.le.at_ h0 (by omega)]; exact hp i h0 h1), RowsIn.tw hr t4⟩
end
/-- entries hold: things for the names, triples -/
structure Itp (s : PS) (T : Int → Int → Int → Prop) (μ : Int → Int) : Prop where
  cl : Cl3 T
  rows : RowsIn T μ s.2
  resp : RespA s.1.length μ s.1
def SemAl (s : PS) (f g : Fm) : Prop := ∀ (T : Int → Int → Int → Prop) (μ : Int → Int) (x y : Int), Itp s T μ → Val T μ f x → Val T μ g y → x = y
def SemNv (s : PS) (U : List (List Int)) (f g : Fm) : Prop := ∃ r ∈ U, ∀ (T : Int → Int → Int → Prop) (μ : Int → Int) (x : Int), Itp s T μ → Val T μ f x → Val T μ g x → μ (at0 r 0) = μ (at0 r 1)
open Classical in
noncomputable def vdS (s : PS) (U : List (List Int)) (f g : Fm) : Str := if SemAl s f g then "always" else if SemNv s U f g then "never" else "open"
theorem SemAl.symm {s : PS} {f g : Fm} : SemAl s f g ↔ SemAl s g f := ⟨fun h T μ x y i a b => (h T μ y x i b a).symm, fun h T μ x y i a b => (h T μ y x i b a).symm⟩
theorem SemNv.symm {s : PS} {U : List (List Int)} {f g : Fm} : SemNv s U f g ↔ SemNv s U g f := ⟨fun ⟨r, hr, h⟩ => ⟨r, hr, fun T μ x i a b => h T μ x i b a⟩, fun ⟨r, hr, h⟩ => ⟨r, hr, fun T μ x i a b => h T μ x i b a⟩⟩
theorem vdS_symm {s : PS} {U : List (List Int)} {f g : Fm} : vdS s U f g = vdS s U g f := by
  unfold vdS
  rw [propext SemAl.symm, propext SemNv.symm]
theorem al_iff {s : PS} (ok : SOk s) {f g : Fm} (hf : f.In (s.1.length : Nat)) (hg : g.In (s.1.length : Nat)) : SemAl s f g ↔ (putS f s).1 = (putS g (putS f s).2).1 := by
  have of_ := put_ok ok hf (Int.le_refl _)
  have lf := of_.le.len
  have og := put_ok of_.ok hg (by omega)
  constructor
  · intro h
    have sub := of_.le.trans og.le
    have i : Itp s (RT (putS g (putS f s).2).2.2) (at0 (putS g (putS f s).2).2.1) := by
      refine ⟨og.ok.cl, fun x y z e => ?_, fun i h0 h1 => ?_⟩
      · have e' := sub.sub _ e
        have fx := og.ok.rt.fix _ e'
        rw [fx x (by simp), fx y (by simp), fx z (by simp)]
        exact e'
      · have k := ok.rt.mks.at_ i h0 h1
        rw [sub.at_ k.1 (by omega), sub.at_ h0 h1]
        exact k.2.2
    have r2 : RowsIn (RT (putS g (putS f s).2).2.2) (at0 (putS g (putS f s).2).2.1) (putS g (putS f s).2).2.2 := fun x y z e => by
      have fx := og.ok.rt.fix _ e
      rw [fx x (by simp), fx y (by simp), fx z (by simp)]
      exact e
    have vf := val_bwd ok hf (Int.le_refl _) (fun x y z e => r2 x y z (og.le.sub _ e)) i.resp
    have vg := val_bwd of_.ok hg (by omega) r2 (fun i' h0 h1 => by rw [of_.le.at_ h0 h1]; exact i.resp i' h0 h1)
    have := h _ _ _ _ i vf vg
    rw [(of_.th.le og.le).fix, og.th.fix] at this
    exact this
  · intro e T μ x y i vf vg
    obtain ⟨μ1, e1, r1, p1, v1⟩ := val_fwd i.cl ok hf (Int.le_refl _) i.rows i.resp vf
    obtain ⟨μ2, e2, r2, p2, v2⟩ := val_fwd i.cl of_.ok hg (by omega) r1 p1 (Val.congr (n := (s.1.length : Nat)) e1 hg vg)
    rw [← v1, ← v2, ← e2 _ of_.th.h0 of_.th.h1, e]
/-- the closing of marks that are made coarser -/
structure CloFrom (n : Nat) (m0 : List Int) (R : List (List Int)) (m : List Int) : Prop where
  mks : Mk' n m
  le : Resp n m0 (at0 m)
  sound : ∀ μ : Int → Int, Cls' R μ → Resp n m0 μ → Resp n m μ
  cls : Cls' R (at0 m)
theorem cls_of {n : Nat} {R : List (List Int)} (hR : Rows n R) {T : Int → Int → Int → Prop} {μ : Int → Int} (hT : Cl3 T) (h : RowsIn T μ R) : Cls' R μ := by
  intro r hr s hs i j k hp h1 h2
  have tr := h (at0 r 0) (at0 r 1) (at0 r 2) (row3 (hR r hr).1 ▸ hr)
  have ts := h (at0 s 0) (at0 s 1) (at0 s 2) (row3 (hR s hs).1 ▸ hs)
  rcases hp with ⟨rfl, rfl, rfl⟩ | ⟨rfl, rfl, rfl⟩ | ⟨rfl, rfl, rfl⟩
  · rw [h1, h2] at tr; exact hT.c tr ts
  · rw [h1, h2] at tr; exact hT.b tr ts
  · rw [h1, h2] at tr; exact hT.a tr ts
/-- triples of marks -/
def imT (m : List Int) (R : List (List Int)) (x y z : Int) : Prop := ∃ a b c, [a, b, c] ∈ R ∧ x = at0 m a ∧ y = at0 m b ∧ z = at0 m c
theorem imT_cl {m : List Int} {R : List (List Int)} (h : Cls' R (at0 m)) : Cl3 (imT m R) := by
  constructor
  · rintro _ _ _ _ ⟨a, b, c, e, rfl, rfl, rfl⟩ ⟨a', b', c', e', h1, h2, rfl⟩
    exact h _ e _ e' 0 1 2 (.inl ⟨rfl, rfl, rfl⟩) h1 h2
  · rintro _ _ _ _ ⟨a, b, c, e, rfl, rfl, rfl⟩ ⟨a', b', c', e', h1, rfl, h2⟩
    exact h _ e _ e' 0 2 1 (.inr (.inl ⟨rfl, rfl, rfl⟩)) h1 h2
  · rintro _ _ _ _ ⟨a, b, c, e, rfl, rfl, rfl⟩ ⟨a', b', c', e', rfl, h1, h2⟩
    exact h _ e _ e' 1 2 0 (.inr (.inr ⟨rfl, rfl, rfl⟩)) h1 h2
theorem nv_iff {s : PS} (ok : SOk s) {f g : Fm} (hf : f.In (s.1.length : Nat)) (hg : g.In (s.1.length : Nat)) {U : List (List Int)} (hU : Prs s.1.length U) {lo hi : Int} {m : List Int}
    (hlh : (putS f s).1 = lo ∧ (putS g (putS f s).2).1 = hi ∨ (putS f s).1 = hi ∧ (putS g (putS f s).2).1 = lo) (hc : CloFrom (putS g (putS f s).2).2.1.length (mgM (putS g (putS f s).2).2.1 lo hi) (putS g (putS f s).2).2.2 m) :
    SemNv s U f g ↔ tornN m U ≠ none := by
  have of_ := put_ok ok hf (Int.le_refl _)
  have lf := of_.le.len
  have og := put_ok of_.ok hg (by omega)
  have lg := og.le.len
  have sub := of_.le.trans og.le
  have tf := of_.th.le og.le
  have tg := og.th
  have tors : tornN m U ≠ none ↔ ∃ r ∈ U, at0 m (at0 r 0) = at0 m (at0 r 1) := by
    unfold tornN
    constructor
    · intro z
      by_cases y : ∃ r ∈ U, at0 m (at0 r 0) = at0 m (at0 r 1)
      · exact y
      · exact absurd (List.findIdx?_eq_none_iff.mpr fun r hr => decide_eq_false fun e => y ⟨r, hr, e⟩) z
    · rintro ⟨r, hr, e⟩ z
      have := List.findIdx?_eq_none_iff.mp z r hr
      rw [decide_eq_true e] at this
      cases this
  rw [tors]
  have pair : ∀ r ∈ U, (0 ≤ at0 r 0 ∧ at0 r 0 < s.1.length) ∧ 0 ≤ at0 r 1 ∧ at0 r 1 < s.1.length := fun r hr => by
    have := hU r hr
    exact ⟨this.2 _ (at0_mem (by decide) (by omega)), this.2 _ (at0_mem (by decide) (by omega))⟩
  constructor
  · rintro ⟨r, hr, h⟩
    refine ⟨r, hr, ?_⟩
    have mrg : at0 m lo = at0 m hi := by
      have k := hc.le hi (by rcases hlh with ⟨_, rfl⟩ | ⟨rfl, _⟩; exact tg.h0; exact tf.h0) (by rcases hlh with ⟨_, rfl⟩ | ⟨rfl, _⟩; exact tg.h1; exact tf.h1)
      rw [mgM_at (by rcases hlh with ⟨_, rfl⟩ | ⟨rfl, _⟩; exact tg.h0; exact tf.h0) (by rcases hlh with ⟨_, rfl⟩ | ⟨rfl, _⟩; exact tg.h1; exact tf.h1), if_pos (by rcases hlh with ⟨_, rfl⟩ | ⟨rfl, _⟩; exact tg.fix; exact tf.fix)] at k
      exact k
    have rsp : ∀ i : Int, 0 ≤ i → i < (putS g (putS f s).2).2.1.length → at0 m (at0 (putS g (putS f s).2).2.1 i) = at0 m i := fun i h0 h1 => by
      have k := hc.le i h0 h1
      rw [mgM_at h0 h1] at k
      split at k
      · rename_i e
        rw [e, ← mrg]
        exact k
      · exact k
    have i : Itp s (imT m (putS g (putS f s).2).2.2) (at0 m) := ⟨imT_cl hc.cls, fun x y z e => ⟨x, y, z, sub.sub _ e, rfl, rfl, rfl⟩, fun i h0 h1 => by
      have := rsp i h0 (by omega)
      rw [sub.at_ h0 h1] at this
      exact this⟩
    have r2 : RowsIn (imT m (putS g (putS f s).2).2.2) (at0 m) (putS g (putS f s).2).2.2 := fun x y z e => ⟨x, y, z, e, rfl, rfl, rfl⟩
    have vf := val_bwd ok hf (Int.le_refl _) (fun x y z e => r2 x y z (og.le.sub _ e)) i.resp
    have vg := val_bwd of_.ok hg (by omega) r2 (fun i' h0 h1 => by rw [of_.le.at_ h0 h1]; exact i.resp i' h0 h1)
    have ev : at0 m (putS f s).1 = at0 m (putS g (putS f s).2).1 := by
      rcases hlh with ⟨e1, e2⟩ | ⟨e1, e2⟩
      · rw [e1, e2, mrg]
      · rw [e1, e2, mrg]
    rw [← ev] at vg
    exact h _ _ _ i vf vg
  · rintro ⟨r, hr, h⟩
    refine ⟨r, hr, fun T μ v i vf vg => ?_⟩
    obtain ⟨μ1, e1, r1, p1, v1⟩ := val_fwd i.cl ok hf (Int.le_refl _) i.rows i.resp vf
    obtain ⟨μ2, e2, r2, p2, v2⟩ := val_fwd i.cl of_.ok hg (by omega) r1 p1 (Val.congr (n := (s.1.length : Nat)) e1 hg vg)
    have hx : μ2 (putS f s).1 = v := by rw [e2 _ of_.th.h0 of_.th.h1]; exact v1
    have el : μ2 lo = μ2 hi := by
      rcases hlh with ⟨a, b⟩ | ⟨a, b⟩
      · rw [← a, ← b, hx, v2]
      · rw [← a, ← b, hx, v2]
    have rp : Resp (putS g (putS f s).2).2.1.length (mgM (putS g (putS f s).2).2.1 lo hi) μ2 := Resp.mg p2 rfl el
    have sd := hc.sound μ2 (cls_of og.ok.rt.rows i.cl r2) rp
    have p := pair r hr
    have k1 := sd (at0 r 0) p.1.1 (by omega)
    have k2 := sd (at0 r 1) p.2.1 (by omega)
    have o1 : μ2 (at0 r 0) = μ (at0 r 0) := by rw [e2 _ p.1.1 (by omega), e1 _ p.1.1 p.1.2]
    have o2 : μ2 (at0 r 1) = μ (at0 r 1) := by rw [e2 _ p.2.1 (by omega), e1 _ p.2.1 p.2.2]
    rw [← o1, ← o2, ← k1, ← k2, h]
end DL

/-! A closing all of whose parts are new. -/
namespace DL
open PySem L2
/-- the rows' list is new -/
def RowsNew (C : Addr) (M M' : Mp) (c : Addr) : Prop := ∀ dx pe pr, M' c = some (.ins C dx [("elder", .ref pe), ("rows", .ref pr)]) → M pr = none
theorem kp2_none {c pe p : Addr} {M M' : Mp} (k : Kp2 c pe M M') (h : M' p = none) (h1 : p ≠ c) (h2 : p ≠ pe) : M p = none := by
  cases e : M p with
  | none => rfl
  | some o => rw [k p o h1 h2 e] at h; cases h
theorem rowsNew_set {C c pe p dx : Addr} {M M4 : Mp} {n : Nat} {m : List Int} {R : List (List Int)} {fs : List (Str × D)} (h : CloO C M4 c pe n m R) (e : M4 c = some (.ins C dx fs)) (hn : M p = none) :
    RowsNew C M (updM M4 c (.ins C dx (putFD "rows" (.ref p) fs))) c := by
  intro dx' pe' pr' e'
  obtain ⟨dx0, pr0, el, e1, _⟩ := h.ex
  rw [e1] at e
  cases e
  rw [updM_same] at e'
  have e2 : putFD "rows" (.ref p) ([("elder", D.ref pe), ("rows", D.ref pr0)] : List (Str × D)) = ([("elder", D.ref pe), ("rows", D.ref p)] : List (Str × D)) := rfl
  rw [e2] at e'
  cases e'
  exact hn
structure CloQ (C : Addr) (M0 M : Mp) (c : Addr) (s : PS) : Prop where
  ex : ∃ dx pe pr el, M c = some (.ins C dx [("elder", .ref pe), ("rows", .ref pr)]) ∧ M pe = some (.lst (el.map D.int)) ∧ M pr = some (.lst (s.2.map dI)) ∧ pr ≠ pe ∧ El s.1.length el s.1 ∧ M0 c = none ∧ M0 pe = none ∧ M0 pr = none
  kp : Keep M0 M
  rows : Rows s.1.length s.2
  few : s.2.length < 64
  small : s.1.length ≤ 60
section
variable {C c : Addr} {M0 M M' : Mp} {s : PS}
theorem CloQ.keep (h : CloQ C M0 M c s) (k : Keep M M') : CloQ C M0 M' c s := by
  obtain ⟨dx, pe, pr, el, e1, e2, e3, e4⟩ := h.ex
  exact ⟨⟨dx, pe, pr, el, k _ _ e1, k _ _ e2, k _ _ e3, e4⟩, h.kp.trans k, h.rows, h.few, h.small⟩
theorem CloQ.base (h : CloQ C M M' c s) (k : Keep M0 M) : CloQ C M0 M' c s := by
  obtain ⟨dx, pe, pr, el, e1, e2, e3, e4, e5, h1, h2, h3⟩ := h.ex
  exact ⟨⟨dx, pe, pr, el, e1, e2, e3, e4, e5, k.none h1, k.none h2, k.none h3⟩, k.trans h.kp, h.rows, h.few, h.small⟩
theorem CloQ.of {pe : Addr} {n : Nat} {m : List Int} {R : List (List Int)} (h : CloO C M' c pe n m R) (hc : M c = none) (hp : M pe = none) (hr : RowsNew C M M' c) (k : Keep M M') : CloQ C M M' c (m, R) := by
  have hm := h.mks.len
  obtain ⟨dx, pr, el, e1, e2, e3, e4, E⟩ := h.ex
  subst hm
  exact ⟨⟨dx, pe, pr, el, e1, e2, e3, e4, E, hc, hp, hr _ _ _ e1⟩, k, h.rows, h.few, h.small⟩
theorem CloQ.o (h : CloQ C M0 M c s) : ∃ pe, CloO C M c pe s.1.length s.1 s.2 ∧ M0 c = none ∧ M0 pe = none ∧ ∀ M' m', CloO C M' c pe s.1.length m' s.2 → Kp1 pe M M' → CloQ C M0 M' c (m', s.2) := by
  obtain ⟨dx, pe, pr, el, e1, e2, e3, e4, E, h1, h2, h3⟩ := h.ex
  refine ⟨pe, ⟨⟨dx, pr, el, e1, e2, e3, e4, E⟩, h.rows, h.few, h.small⟩, h1, h2, fun M' m' hO k => ?_⟩
  have hl := hO.mks.len
  have nc : c ≠ pe := by
    rintro rfl
    rw [e1] at e2
    cases e2
  refine CloQ.of (M := M0) (n := s.1.length) hO h1 h2 (fun dx' pe' pr' e' => ?_) fun b o e => k b o (by rintro rfl; rw [h2] at e; cases e) (h.kp b o e)
  rw [k _ _ nc e1] at e'
  cases e'
  exact h3
theorem CloQ.settled {pe : Addr} {n : Nat} {m : List Int} {R : List (List Int)} (h : CloQ C M0 M c s) (hO : CloO C M' c pe n m R) (hp : M0 pe = none) (k : Kp2 c pe M M') (hr : RowsNew C M M' c) : CloQ C M0 M' c (m, R) := by
  obtain ⟨dx, pe', pr, el, e1, e2, e3, e4, E, h1, h2, h3⟩ := h.ex
  exact .of hO h1 hp (fun dx' pe' pr' e' => h.kp.none (hr _ _ _ e')) fun b o e => k b o (by rintro rfl; rw [h1] at e; cases e) (by rintro rfl; rw [hp] at e; cases e) (h.kp b o e)
/-- a new thing and a new row -/
theorem El.snoc {n : Nat} {el m : List Int} (h : El n el m) (hm : Mk' (n + 1) (m ++ [((n : Nat) : Int)])) : El (n + 1) (el ++ [((n : Nat) : Int)]) (m ++ [((n : Nat) : Int)]) := by
  have hl := h.len
  have ml := h.mks.len
  refine ⟨by rw [List.length_append, hl]; rfl, hm, fun i h0 h1 => ?_⟩
  have e1 : (el ++ [((n : Nat) : Int)]).length = n + 1 := by rw [List.length_append, hl]; rfl
  have e2 : (m ++ [((n : Nat) : Int)]).length = n + 1 := by rw [List.length_append, ml]; rfl
  rw [at0_snoc h0 (by omega), at0_snoc h0 (by omega), hl, ml]
  by_cases z : i = (n : Nat)
  · rw [if_pos z, if_pos z, if_pos z.symm, ← z]
    omega
  · rw [if_neg z, if_neg z]
    have a := h.at_ i h0 (by omega)
    rw [at0_app a.1 (by omega)]
    exact a
end
/-- the closing of facts, and its rows -/
structure ClR (n : Nat) (R : List (List Int)) (m : List Int) (R' : List (List Int)) : Prop where
  clo : Clo n R m
  srt : SrtS R'
  mem : ∀ x, x ∈ R' ↔ x ∈ img (at0 m) R
theorem ClR.rows {n : Nat} {R : List (List Int)} {m : List Int} {R' : List (List Int)} (h : ClR n R m R') (hr : Rows n R) : Rows n R' := fun r hr' => hr.img h.clo.mks r ((h.mem r).mp hr')
theorem ClR.uniq {n : Nat} {R : List (List Int)} {m m2 : List Int} {R' R2 : List (List Int)} (h : ClR n R m R') (h2 : ClR n R m2 R2) (hr : Rows n R) (hn : n ≤ 64) : m2 = m ∧ R2 = R' := by
  obtain rfl := h2.clo.unique h.clo
  exact ⟨rfl, srt_uniq hn (h2.rows hr) h2.srt h.srt fun x => (h2.mem x).trans (h.mem x).symm⟩
theorem rted_of {n : Nat} {R R' : List (List Int)} {m : List Int} (h : Clo n R m) (hr : Rows n R) (hm : ∀ x, x ∈ R' ↔ x ∈ img (at0 m) R) : Rted n m R' := by
  refine ⟨h.mks, fun r hr' => hr.img h.mks r ((hm r).mp hr'), fun r hr' x hx => ?_⟩
  obtain ⟨s, hs, rfl⟩ := List.mem_map.mp ((hm r).mp hr')
  obtain ⟨y, hy, rfl⟩ := List.mem_map.mp hx
  have := (hr s hs).2 y hy
  exact (h.mks.at_ y this.1 this.2).2.2
theorem ClR.rted {n : Nat} {R : List (List Int)} {m : List Int} {R' : List (List Int)} (h : ClR n R m R') (hr : Rows n R) : Rted n m R' := rted_of h.clo hr h.mem
theorem sok_of {n : Nat} {R R' : List (List Int)} {m : List Int} (h : Clo n R m) (hr : Rows n R) (hm : ∀ x, x ∈ R' ↔ x ∈ img (at0 m) R) : SOk (m, R') := by
  have hl := h.mks.len
  have im : ∀ {x y z : Int}, RT R' x y z → imT m R x y z := fun {x y z} e => by
    obtain ⟨s, hs, e⟩ := List.mem_map.mp ((hm _).mp e)
    have e3 := row3 (hr s hs).1
    rw [e3] at e
    simp only [List.map_cons, List.map_nil, List.cons.injEq, and_true] at e
    exact ⟨at0 s 0, at0 s 1, at0 s 2, e3 ▸ hs, e.1.symm, e.2.1.symm, e.2.2.symm⟩
  have c := imT_cl h.cls
  refine ⟨?_, fun a b => c.c (im a) (im b), fun a b => c.b (im a) (im b), fun a b => c.a (im a) (im b)⟩
  have := rted_of h hr hm
  show Rted m.length m R'
  rw [hl]
  exact this
theorem itp_congr {m : List Int} {R R' : List (List Int)} (e : ∀ x, x ∈ R ↔ x ∈ R') {T : Int → Int → Int → Prop} {μ : Int → Int} : Itp (m, R) T μ ↔ Itp (m, R') T μ :=
  ⟨fun h => ⟨h.cl, fun x y z r => h.rows x y z ((e _).mpr r), h.resp⟩, fun h => ⟨h.cl, fun x y z r => h.rows x y z ((e _).mp r), h.resp⟩⟩
theorem vdS_congr {m : List Int} {R R' U : List (List Int)} (e : ∀ x, x ∈ R ↔ x ∈ R') {f g : Fm} : vdS (m, R) U f g = vdS (m, R') U f g := by
  have h1 : SemAl (m, R) f g ↔ SemAl (m, R') f g := ⟨fun h T μ x y i => h T μ x y ((itp_congr e).mpr i), fun h T μ x y i => h T μ x y ((itp_congr e).mp i)⟩
  have h2 : SemNv (m, R) U f g ↔ SemNv (m, R') U f g := ⟨fun ⟨r, hr, h⟩ => ⟨r, hr, fun T μ x i => h T μ x ((itp_congr e).mpr i)⟩, fun ⟨r, hr, h⟩ => ⟨r, hr, fun T μ x i => h T μ x ((itp_congr e).mp i)⟩⟩
  unfold vdS
  rw [propext h1, propext h2]
/-- the verdict of facts -/
def VdF (n : Nat) (R U : List (List Int)) (f g : Fm) (v : Str) : Prop := ∃ m, Clo n R m ∧ v = vdS (m, img (at0 m) R) U f g
theorem VdF.uniq {n : Nat} {R U : List (List Int)} {f g : Fm} {v v' : Str} (h : VdF n R U f g v) (h' : VdF n R U f g v') : v = v' := by
  obtain ⟨m, c, rfl⟩ := h
  obtain ⟨m', c', rfl⟩ := h'
  rw [c.unique c']
theorem VdF.symm {n : Nat} {R U : List (List Int)} {f g : Fm} {v : Str} (h : VdF n R U f g v) : VdF n R U g f v := by
  obtain ⟨m, c, rfl⟩ := h
  exact ⟨m, c, vdS_symm⟩
theorem VdF.lit {n : Nat} {R U : List (List Int)} {f g : Fm} {v : Str} (h : VdF n R U f g v) : v = "always" ∨ v = "never" ∨ v = "open" := by
  obtain ⟨m, c, rfl⟩ := h
  unfold vdS
  split
  · exact .inl rfl
  · split
    · exact .inr (.inl rfl)
    · exact .inr (.inr rfl)
/-- two formulas put, made one, closed -/
structure PutT (s : PS) (f g : Fm) (m : List Int) : Prop where
  ex : ∃ lo hi, ((putS f s).1 = lo ∧ (putS g (putS f s).2).1 = hi ∨ (putS f s).1 = hi ∧ (putS g (putS f s).2).1 = lo) ∧ CloFrom (putS g (putS f s).2).2.1.length (mgM (putS g (putS f s).2).2.1 lo hi) (putS g (putS f s).2).2.2 m
theorem vd_al {n : Nat} {R R' U : List (List Int)} {m : List Int} (h : Clo n R m) (hr : Rows n R) (hm : ∀ x, x ∈ R' ↔ x ∈ img (at0 m) R) {f g : Fm} (hf : f.In n) (hg : g.In n) (e : (putS f (m, R')).1 = (putS g (putS f (m, R')).2).1) : VdF n R U f g "always" := by
  have hl := h.mks.len
  subst hl
  have ok := sok_of h hr hm
  refine ⟨m, h, ?_⟩
  rw [← vdS_congr hm]
  unfold vdS
  rw [if_pos ((al_iff ok hf hg).mpr e)]
theorem vd_no {n : Nat} {R R' U : List (List Int)} {m m' : List Int} (h : Clo n R m) (hr : Rows n R) (hU : Prs n U) (hm : ∀ x, x ∈ R' ↔ x ∈ img (at0 m) R) {f g : Fm} (hf : f.In n) (hg : g.In n) (e : (putS f (m, R')).1 ≠ (putS g (putS f (m, R')).2).1) (ht : PutT (m, R') f g m') :
    VdF n R U f g (if tornN m' U = none then "open" else "never") := by
  have hl := h.mks.len
  subst hl
  have ok := sok_of h hr hm
  refine ⟨m, h, ?_⟩
  rw [← vdS_congr hm]
  unfold vdS
  obtain ⟨lo, hi, hlh, hc⟩ := ht.ex
  rw [if_neg fun z => e ((al_iff ok hf hg).mp z)]
  have k := nv_iff ok hf hg hU hlh hc
  by_cases z : tornN m' U = none
  · rw [if_pos z, if_neg fun y => k.mp y z]
  · rw [if_neg z, if_pos (k.mpr z)]
theorem Fm.sz_dep : ∀ f : Fm, f.sz + 1 ≤ 2 ^ (f.dep + 1)
  | .nm _ => Nat.le_of_ble_eq_true rfl
  | .op _ x y => by
    have h1 := x.sz_dep
    have h2 := y.sz_dep
    have e1 : 2 ^ (x.dep + 1) ≤ 2 ^ (max x.dep y.dep + 1) := Nat.pow_le_pow_right (by decide) (by omega)
    have e2 : 2 ^ (y.dep + 1) ≤ 2 ^ (max x.dep y.dep + 1) := Nat.pow_le_pow_right (by decide) (by omega)
    show x.sz + y.sz + 1 + 1 ≤ 2 ^ (max x.dep y.dep + 1 + 1)
    rw [Nat.pow_succ 2 (max x.dep y.dep + 1)]
    omega
end DL

/-! Entries taken raw; entries that are spare; plain forms are told apart by some entries. -/
namespace DL
open PySem L2
theorem itp_raw {n : Nat} {R : List (List Int)} {m : List Int} (h : Clo n R m) (hr : Rows n R) {T : Int → Int → Int → Prop} {μ : Int → Int} : Itp (m, img (at0 m) R) T μ ↔ Cl3 T ∧ RowsIn T μ R := by
  have hl := h.mks.len
  constructor
  · intro i
    refine ⟨i.cl, fun x y z e => ?_⟩
    have hx := (hr _ e).2
    have t := i.rows (at0 m x) (at0 m y) (at0 m z) (List.mem_map.mpr ⟨_, e, rfl⟩)
    have k : ∀ u ∈ [x, y, z], μ (at0 m u) = μ u := fun u hu => i.resp u (hx u hu).1 (by show u < ((m.length : Nat) : Int); rw [hl]; exact (hx u hu).2)
    rw [k x (by simp), k y (by simp), k z (by simp)] at t
    exact t
  · rintro ⟨hT, hR⟩
    have rs := h.sound μ (cls_of hr hT hR)
    refine ⟨hT, fun x y z e => ?_, fun i h0 h1 => rs i h0 (by have h1 : i < ((m.length : Nat) : Int) := h1; rw [hl] at h1; exact h1)⟩
    obtain ⟨r, hr', e⟩ := List.mem_map.mp e
    have r3 := row3 (hr r hr').1
    rw [r3] at e
    simp only [List.map_cons, List.map_nil, List.cons.injEq, and_true] at e
    obtain ⟨e1, e2, e3⟩ := e
    have hx := (hr r hr').2
    have k : ∀ p : Int, 0 ≤ p → p < 3 → μ (at0 m (at0 r p)) = μ (at0 r p) := fun p p0 p1 => rs _ (hr.at_ hr' p0 p1).1 (hr.at_ hr' p0 p1).2
    rw [← e1, ← e2, ← e3, k 0 (by decide) (by decide), k 1 (by decide) (by decide), k 2 (by decide) (by decide)]
    exact hR _ _ _ (r3 ▸ hr')
/-- the same interpretations -/
theorem vd_same {n : Nat} {R R' U : List (List Int)} {m m' : List Int} (h : Clo n R m) (h' : Clo n R' m') (hr : Rows n R) (hr' : Rows n R') (e : ∀ (T : Int → Int → Int → Prop) (μ : Int → Int), Cl3 T → (RowsIn T μ R ↔ RowsIn T μ R')) {f g : Fm} :
    vdS (m, img (at0 m) R) U f g = vdS (m', img (at0 m') R') U f g := by
  have k : ∀ (T : Int → Int → Int → Prop) (μ : Int → Int), Itp (m, img (at0 m) R) T μ ↔ Itp (m', img (at0 m') R') T μ := fun T μ => by
    rw [itp_raw h hr, itp_raw h' hr']
    exact ⟨fun ⟨a, b⟩ => ⟨a, (e T μ a).mp b⟩, fun ⟨a, b⟩ => ⟨a, (e T μ a).mpr b⟩⟩
  have h1 : SemAl (m, img (at0 m) R) f g ↔ SemAl (m', img (at0 m') R') f g := ⟨fun h T μ x y i => h T μ x y ((k T μ).mpr i), fun h T μ x y i => h T μ x y ((k T μ).mp i)⟩
  have h2 : SemNv (m, img (at0 m) R) U f g ↔ SemNv (m', img (at0 m') R') U f g := ⟨fun ⟨r, hr, h⟩ => ⟨r, hr, fun T μ x i => h T μ x ((k T μ).mpr i)⟩, fun ⟨r, hr, h⟩ => ⟨r, hr, fun T μ x i => h T μ x ((k T μ).mp i)⟩⟩
  unfold vdS
  rw [propext h1, propext h2]
theorem VdF.same {n : Nat} {R R' U : List (List Int)} (hr : Rows n R) (hr' : Rows n R') (e : ∀ (T : Int → Int → Int → Prop) (μ : Int → Int), Cl3 T → (RowsIn T μ R ↔ RowsIn T μ R')) {f g : Fm} {v v' : Str} (h : VdF n R U f g v) (h' : VdF n R' U f g v') : v = v' := by
  obtain ⟨m, c, rfl⟩ := h
  obtain ⟨m', c', rfl⟩ := h'
  exact vd_same c c' hr hr' e
theorem vdS_always {s : PS} {U : List (List Int)} {f g : Fm} (h : vdS s U f g = "always") : SemAl s f g := by
  unfold vdS at h
  split at h
  · assumption
  · split at h
    · cases h
    · cases h
/-- an entry that stands always by the others holds wherever they do -/
theorem spare_rows {n : Nat} {R' U : List (List Int)} (hr : Rows n R') {x y z : Int} (h : VdF n R' U (.op .w (.nm x) (.nm y)) (.nm z) "always") {T : Int → Int → Int → Prop} {μ : Int → Int} (hT : Cl3 T) (hR : RowsIn T μ R') : T (μ x) (μ y) (μ z) := by
  obtain ⟨m, c, e⟩ := h
  have al := vdS_always e.symm
  by_cases ex : ∃ t, T (μ x) (μ y) t
  · obtain ⟨t, ht⟩ := ex
    have := al T μ t (μ z) ((itp_raw c hr).mpr ⟨hT, hR⟩) ⟨_, _, rfl, rfl, ht⟩ rfl
    rw [← this]
    exact ht
  · have no : ∀ t, ¬ T (μ x) (μ y) t := fun t ht => ex ⟨t, ht⟩
    have hT2 : Cl3 (fun a b c : Int => (∃ i j k, T i j k ∧ a = 2 * i ∧ b = 2 * j ∧ c = 2 * k) ∨ (a = 2 * μ x ∧ b = 2 * μ y ∧ c = 1)) := by
      constructor
      · rintro p q r r' (⟨i, j, k, t, h1, h2, h3⟩ | ⟨h1, h2, h3⟩) (⟨i', j', k', t', h1', h2', h3'⟩ | ⟨h1', h2', h3'⟩)
        · obtain rfl : i = i' := by omega
          obtain rfl : j = j' := by omega
          rw [h3, h3', hT.c t t']
        · obtain rfl : i = μ x := by omega
          obtain rfl : j = μ y := by omega
          exact absurd t (no _)
        · obtain rfl : i' = μ x := by omega
          obtain rfl : j' = μ y := by omega
          exact absurd t' (no _)
        · rw [h3, h3']
      · rintro p q q' r (⟨i, j, k, t, h1, h2, h3⟩ | ⟨h1, h2, h3⟩) (⟨i', j', k', t', h1', h2', h3'⟩ | ⟨h1', h2', h3'⟩)
        · obtain rfl : i = i' := by omega
          obtain rfl : k = k' := by omega
          rw [h2, h2', hT.b t t']
        · omega
        · omega
        · omega
      · rintro p p' q r (⟨i, j, k, t, h1, h2, h3⟩ | ⟨h1, h2, h3⟩) (⟨i', j', k', t', h1', h2', h3'⟩ | ⟨h1', h2', h3'⟩)
        · obtain rfl : j = j' := by omega
          obtain rfl : k = k' := by omega
          rw [h1, h1', hT.a t t']
        · omega
        · omega
        · omega
    have := al _ (fun i => 2 * μ i) 1 (2 * μ z) ((itp_raw c hr).mpr ⟨hT2, fun a b c e => .inl ⟨_, _, _, hR a b c e, rfl, rfl, rfl⟩⟩) ⟨_, _, rfl, rfl, .inr ⟨rfl, rfl, rfl⟩⟩ rfl
    omega
/-- fewer entries, fewer clashes -/
theorem torn_sub {n : Nat} {R R' U : List (List Int)} {m m' : List Int} (h : Clo n R m) (h' : Clo n R' m') (sub : ∀ r ∈ R', r ∈ R) (hU : Prs n U) (ht : tornN m U = none) : tornN m' U = none := by
  have rs := h'.sound (at0 m) fun r hr s hs => h.cls r (sub r hr) s (sub s hs)
  unfold tornN at ht ⊢
  refine List.findIdx?_eq_none_iff.mpr fun r hr => decide_eq_false fun e => ?_
  have := List.findIdx?_eq_none_iff.mp ht r hr
  refine absurd ?_ (of_decide_eq_false this)
  have a0 := (hU r hr).2 _ (at0_mem (i := 0) (by decide) (by have := (hU r hr).1; omega))
  have a1 := (hU r hr).2 _ (at0_mem (i := 1) (by decide) (by have := (hU r hr).1; omega))
  rw [← rs _ a0.1 a0.2, ← rs _ a1.1 a1.2, e]

/-! ### plain forms -/
theorem al_gen {α : Type} {T : α → α → α → Prop} {μ : Int → α} {s : PS} (ok : SOk s) {f g : Fm} (hf : f.In (s.1.length : Nat)) (hg : g.In (s.1.length : Nat)) (hT : Cl3 T) (rows : RowsIn T μ s.2) (resp : RespA s.1.length μ s.1)
    (e : (putS f s).1 = (putS g (putS f s).2).1) {x y : α} (vf : Val T μ f x) (vg : Val T μ g y) : x = y := by
  have of_ := put_ok ok hf (Int.le_refl _)
  have lf := of_.le.len
  obtain ⟨μ1, e1, r1, p1, v1⟩ := val_fwd hT ok hf (Int.le_refl _) rows resp vf
  obtain ⟨μ2, e2, r2, p2, v2⟩ := val_fwd hT of_.ok hg (by omega) r1 p1 (Val.congr (n := (s.1.length : Nat)) e1 hg vg)
  rw [← v1, ← v2, ← e2 _ of_.th.h0 of_.th.h1, e]
section
variable {n : Nat} {m : List Int} {R : List (List Int)}
theorem val_NF {T : Int → Int → Int → Prop} {μ : Int → Int} (h : Rted n m R) (hT : Cl3 T) (hR : RowsIn T μ R) (hp : RespA n μ m) : ∀ {f : Fm} {v : Int}, f.In n → Val T μ f v → Val T μ (NF m R f) v
  | .nm i, v, hf, hv => by
    show v = μ (at0 m i)
    rw [hp i hf.1 hf.2]
    exact hv
  | .op w A B, v, hf, ⟨a, b, hA, hB, hw⟩ => by
    have vA := val_NF h hT hR hp hf.1 hA
    have vB := val_NF h hT hR hp hf.2 hB
    have oA := NF_ok h hf.1
    have oB := NF_ok h hf.2
    show Val T μ ((topT m R w (NF m R A) (NF m R B)).getD (.op w (NF m R A) (NF m R B))) v
    generalize NF m R A = A' at *
    generalize NF m R B = B' at *
    cases e : topT m R w A' B' with
    | none => exact ⟨a, b, vA, vB, hw⟩
    | some s =>
      show Val T μ s v
      unfold topT at e
      cases he : entT m R w A' B' with
      | some z =>
        rw [he] at e
        cases e
        unfold entT at he
        split at he
        · rename_i x y
          obtain ⟨z, hz, rfl⟩ := Option.map_eq_some_iff.mp he
          have t := hR.tw (tld_T h.rows hz)
          rw [hp x oA.1.1 oA.1.2, hp y oB.1.1 oB.1.2, ← show a = μ x from vA, ← show b = μ y from vB] at t
          exact hT.tw hw t
        · cases he
      | none =>
        rw [he] at e
        have e : ruleT w A' B' = some s := e
        unfold ruleT at e
        rcases Option.or_eq_some_iff.mp e with e | ⟨_, e⟩
        · unfold ruleB at e
          split at e
          · split at e
            · rename_i hX
              cases e
              subst hX
              obtain ⟨a', c, v1, v2, t⟩ := vB
              obtain rfl := Val.uniq hT v1 vA
              rw [hT.c hw t]
              exact v2
            · cases e
          · split at e
            · rename_i hX
              cases e
              subst hX
              obtain ⟨a', c, v1, v2, t⟩ := vB
              obtain rfl := Val.uniq hT v1 vA
              rw [hT.b hw t]
              exact v2
            · cases e
          · split at e
            · rename_i hX
              cases e
              subst hX
              obtain ⟨a', c, v1, v2, t⟩ := vB
              obtain rfl := Val.uniq hT v2 vA
              rw [hT.a hw t]
              exact v1
            · cases e
          · cases e
        · unfold ruleA at e
          split at e
          · split at e
            · rename_i hX
              cases e
              subst hX
              obtain ⟨a', c, v1, v2, t⟩ := vA
              obtain rfl := Val.uniq hT v1 vB
              rw [hT.c hw t]
              exact v2
            · cases e
          · split at e
            · rename_i hX
              cases e
              subst hX
              obtain ⟨a', c, v1, v2, t⟩ := vA
              obtain rfl := Val.uniq hT v2 vB
              rw [hT.b hw t]
              exact v1
            · cases e
          · split at e
            · rename_i hX
              cases e
              subst hX
              obtain ⟨a', c, v1, v2, t⟩ := vA
              obtain rfl := Val.uniq hT v2 vB
              rw [hT.a hw t]
              exact v1
            · cases e
          · cases e
/-- plain formulas as things -/
def TM (m : List Int) (R : List (List Int)) (p q r : Fm) : Prop :=
  (∃ x y z, p = .nm x ∧ q = .nm y ∧ r = .nm z ∧ [x, y, z] ∈ R) ∨ (r = .op .w p q ∧ stepT m R r = none) ∨ (q = .op .b p r ∧ stepT m R q = none) ∨ (p = .op .a q r ∧ stepT m R p = none)
theorem plain_row (h : Rted n m R) {w : Wd} {x y : Int} (e : stepT m R (.op w (.nm x) (.nm y)) = none) (z : Int) : ¬ TW (RT R) w x y z := fun t => by
  obtain ⟨_, _, e⟩ := step_sub e
  have hx := (h.fix _ (tw_row.mp t))
  have fx : at0 m x = x := hx x (by cases w <;> simp [rwW])
  have fy : at0 m y = y := hx y (by cases w <;> simp [rwW])
  unfold topT at e
  have e1 : entT m R w (.nm x) (.nm y) = none := (Option.or_eq_none_iff.mp e).1
  have e1 := Option.map_eq_none_iff.mp (show (tldR R w.pl.1 w.pl.2.1 w.pl.2.2 (at0 m x) (at0 m y)).map Fm.nm = none from e1)
  rw [fx, fy] at e1
  exact tld_no e1 z t
theorem plain_rule {w : Wd} {A B : Fm} (e : stepT m R (.op w A B) = none) : ruleB w A B = none ∧ ruleA w A B = none := by
  obtain ⟨_, _, e⟩ := step_sub e
  exact Option.or_eq_none_iff.mp (show (ruleB w A B).or (ruleA w A B) = none from (Option.or_eq_none_iff.mp e).2)
theorem op_neL {w : Wd} {A B : Fm} : ∀ {C : Fm}, C = A ∨ C = B → C ≠ .op w A B := fun {C} h e => by
  have := congrArg Fm.sz e
  have e2 : (Fm.op w A B).sz = A.sz + B.sz + 1 := rfl
  rw [e2] at this
  rcases h with rfl | rfl <;> omega
theorem TM_cl (h : Rted n m R) (hc : Cl3 (RT R)) : Cl3 (TM m R) := by
  have sw : ∀ {w : Wd} {A B : Fm}, (Fm.op w A B).sz = A.sz + B.sz + 1 := rfl
  have pw : ∀ {p q : Fm}, stepT m R (.op .w p q) = none → (∀ z, q ≠ .op .b p z) ∧ ∀ z, p ≠ .op .a q z := fun {p q} e => by
    obtain ⟨h1, h2⟩ := plain_rule e
    refine ⟨fun z hz => ?_, fun z hz => ?_⟩
    · subst hz; simp [ruleB] at h1
    · rw [hz] at h2; simp [ruleA] at h2
  have pb : ∀ {p r : Fm}, stepT m R (.op .b p r) = none → (∀ z, r ≠ .op .w p z) ∧ ∀ z, p ≠ .op .a z r := fun {p r} e => by
    obtain ⟨h1, h2⟩ := plain_rule e
    refine ⟨fun z hz => ?_, fun z hz => ?_⟩
    · subst hz; simp [ruleB] at h1
    · rw [hz] at h2; simp [ruleA] at h2
  have pa : ∀ {q r : Fm}, stepT m R (.op .a q r) = none → (∀ z, r ≠ .op .w z q) ∧ ∀ z, q ≠ .op .b z r := fun {q r} e => by
    obtain ⟨h1, h2⟩ := plain_rule e
    refine ⟨fun z hz => ?_, fun z hz => ?_⟩
    · subst hz; simp [ruleB] at h1
    · rw [hz] at h2; simp [ruleA] at h2
  constructor
  · rintro p q r r' (⟨x, y, z, rfl, rfl, rfl, e⟩ | ⟨rfl, e⟩ | ⟨e0, e⟩ | ⟨e0, e⟩) (⟨x', y', z', e1, e2, rfl, e'⟩ | ⟨rfl, e'⟩ | ⟨e1, e'⟩ | ⟨e1, e'⟩)
    · cases e1; cases e2; rw [hc.c e e']
    · exact absurd e (plain_row h e' z)
    · cases e1
    · cases e1
    · subst e1; subst e2; exact absurd e' (plain_row h e z')
    · rfl
    · exact absurd e1 ((pw e).1 _)
    · exact absurd e1 ((pw e).2 _)
    · rw [e2] at e0; cases e0
    · exact absurd e0 ((pw e').1 _)
    · rw [e0] at e1; cases e1; rfl
    · have s1 := congrArg Fm.sz e0; have s2 := congrArg Fm.sz e1; rw [sw] at s1 s2; omega
    · rw [e1] at e0; cases e0
    · exact absurd e0 ((pw e').2 _)
    · have s1 := congrArg Fm.sz e0; have s2 := congrArg Fm.sz e1; rw [sw] at s1 s2; omega
    · rw [e0] at e1; cases e1; rfl
  · rintro p q q' r (⟨x, y, z, rfl, rfl, rfl, e⟩ | ⟨e0, e⟩ | ⟨rfl, e⟩ | ⟨e0, e⟩) (⟨x', y', z', e1, rfl, e2, e'⟩ | ⟨e1, e'⟩ | ⟨rfl, e'⟩ | ⟨e1, e'⟩)
    · cases e1; cases e2; rw [hc.b e e']
    · cases e1
    · exact absurd e (plain_row (w := .b) h e' y)
    · cases e1
    · rw [e2] at e0; cases e0
    · rw [e0] at e1; cases e1; rfl
    · exact absurd e0 ((pb e').1 _)
    · have s1 := congrArg Fm.sz e0; have s2 := congrArg Fm.sz e1; rw [sw] at s1 s2; omega
    · subst e1; subst e2; exact absurd e' (plain_row (w := .b) h e y')
    · exact absurd e1 ((pb e).1 _)
    · rfl
    · exact absurd e1 ((pb e).2 _)
    · rw [e1] at e0; cases e0
    · have s1 := congrArg Fm.sz e0; have s2 := congrArg Fm.sz e1; rw [sw] at s1 s2; omega
    · exact absurd e0 ((pb e').2 _)
    · rw [e0] at e1; cases e1; rfl
  · rintro p p' q r (⟨x, y, z, rfl, rfl, rfl, e⟩ | ⟨e0, e⟩ | ⟨e0, e⟩ | ⟨rfl, e⟩) (⟨x', y', z', rfl, e1, e2, e'⟩ | ⟨e1, e'⟩ | ⟨e1, e'⟩ | ⟨rfl, e'⟩)
    · cases e1; cases e2; rw [hc.a e e']
    · cases e1
    · cases e1
    · exact absurd e (plain_row (w := .a) h e' x)
    · rw [e2] at e0; cases e0
    · rw [e0] at e1; cases e1; rfl
    · have s1 := congrArg Fm.sz e0; have s2 := congrArg Fm.sz e1; rw [sw] at s1 s2; omega
    · exact absurd e0 ((pa e').1 _)
    · rw [e1] at e0; cases e0
    · have s1 := congrArg Fm.sz e0; have s2 := congrArg Fm.sz e1; rw [sw] at s1 s2; omega
    · rw [e0] at e1; cases e1; rfl
    · exact absurd e0 ((pa e').2 _)
    · subst e1; subst e2; exact absurd e' (plain_row (w := .a) h e x')
    · exact absurd e1 ((pa e).1 _)
    · exact absurd e1 ((pa e).2 _)
    · rfl
theorem TM_NF (h : Rted n m R) : ∀ {f : Fm}, f.In n → Val (TM m R) (fun i => .nm (at0 m i)) f (NF m R f)
  | .nm i, hf => rfl
  | .op w A B, hf => by
    have oA := NF_ok h hf.1
    have oB := NF_ok h hf.2
    refine ⟨_, _, TM_NF h hf.1, TM_NF h hf.2, ?_⟩
    show TW (TM m R) w (NF m R A) (NF m R B) ((topT m R w (NF m R A) (NF m R B)).getD (.op w (NF m R A) (NF m R B)))
    generalize NF m R A = A' at *
    generalize NF m R B = B' at *
    cases e : topT m R w A' B' with
    | none =>
      have pl : stepT m R (.op w A' B') = none := by
        unfold stepT
        rw [oA.2.2.2, oB.2.2.2]
        exact e
      cases w
      · exact .inr (.inl ⟨rfl, pl⟩)
      · exact .inr (.inr (.inl ⟨rfl, pl⟩))
      · exact .inr (.inr (.inr ⟨rfl, pl⟩))
    | some s =>
      show TW (TM m R) w A' B' s
      unfold topT at e
      cases he : entT m R w A' B' with
      | some z =>
        rw [he] at e
        cases e
        unfold entT at he
        split at he
        · rename_i x y
          obtain ⟨z, hz, rfl⟩ := Option.map_eq_some_iff.mp he
          rw [stop_nm oA.2.2.2, stop_nm oB.2.2.2] at hz
          have t := tld_T h.rows hz
          cases w
          · exact .inl ⟨_, _, _, rfl, rfl, rfl, t⟩
          · exact .inl ⟨_, _, _, rfl, rfl, rfl, t⟩
          · exact .inl ⟨_, _, _, rfl, rfl, rfl, t⟩
        · cases he
      | none =>
        rw [he] at e
        have e : ruleT w A' B' = some s := e
        unfold ruleT at e
        rcases Option.or_eq_some_iff.mp e with e | ⟨_, e⟩
        · unfold ruleB at e
          split at e
          · split at e
            · rename_i hX
              cases e
              subst hX
              exact .inr (.inr (.inl ⟨rfl, oB.2.2.2⟩))
            · cases e
          · split at e
            · rename_i hX
              cases e
              subst hX
              exact .inr (.inl ⟨rfl, oB.2.2.2⟩)
            · cases e
          · split at e
            · rename_i hX
              cases e
              subst hX
              exact .inr (.inl ⟨rfl, oB.2.2.2⟩)
            · cases e
          · cases e
        · unfold ruleA at e
          split at e
          · split at e
            · rename_i hX
              cases e
              subst hX
              exact .inr (.inr (.inr ⟨rfl, oA.2.2.2⟩))
            · cases e
          · split at e
            · rename_i hX
              cases e
              subst hX
              exact .inr (.inr (.inr ⟨rfl, oA.2.2.2⟩))
            · cases e
          · split at e
            · rename_i hX
              cases e
              subst hX
              exact .inr (.inr (.inl ⟨rfl, oA.2.2.2⟩))
            · cases e
          · cases e
end
/-- plain forms are the same just where the things put are -/
theorem same_iff {s : PS} (ok : SOk s) {f g : Fm} (hf : f.In (s.1.length : Nat)) (hg : g.In (s.1.length : Nat)) : NF s.1 s.2 f = NF s.1 s.2 g ↔ (putS f s).1 = (putS g (putS f s).2).1 := by
  constructor
  · intro e
    refine (al_iff ok hf hg).mp fun T μ x y i vf vg => ?_
    have a := val_NF ok.rt i.cl i.rows i.resp hf vf
    have b := val_NF ok.rt i.cl i.rows i.resp hg vg
    rw [← e] at b
    exact Val.uniq i.cl a b
  · intro e
    refine al_gen ok hf hg (T := TM s.1 s.2) (μ := fun i => .nm (at0 s.1 i)) (TM_cl ok.rt ok.cl) (fun x y z e => ?_) (fun i h0 h1 => ?_) e (TM_NF ok.rt hf) (TM_NF ok.rt hg)
    · have fx := ok.rt.fix _ e
      show TM _ _ (.nm (at0 s.1 x)) (.nm (at0 s.1 y)) (.nm (at0 s.1 z))
      rw [fx x (by simp), fx y (by simp), fx z (by simp)]
      exact .inl ⟨x, y, z, rfl, rfl, rfl, e⟩
    · show Fm.nm (at0 s.1 (at0 s.1 i)) = .nm (at0 s.1 i)
      rw [(ok.rt.mks.at_ i h0 h1).2.2]
theorem tw_canL {α : Type} {T : α → α → α → Prop} (h : Cl3 T) {w : Wd} {x x' y z : α} (a : TW T w x y z) (b : TW T w x' y z) : x = x' := by
  cases w
  · exact h.a a b
  · exact h.a a b
  · exact h.b a b
theorem tw_canR {α : Type} {T : α → α → α → Prop} (h : Cl3 T) {w : Wd} {x y y' z : α} (a : TW T w x y z) (b : TW T w x y' z) : y = y' := by
  cases w
  · exact h.b a b
  · exact h.c a b
  · exact h.c a b
theorem NF_canL {n : Nat} {m : List Int} {R : List (List Int)} (h : Rted n m R) (hc : Cl3 (RT R)) {w : Wd} {f g o : Fm} (hf : f.In n) (hg : g.In n) (ho : o.In n) : NF m R (.op w f o) = NF m R (.op w g o) ↔ NF m R f = NF m R g := by
  have hT := TM_cl h hc
  constructor
  · intro e
    obtain ⟨a, b, v1, v2, t1⟩ := TM_NF h (f := .op w f o) ⟨hf, ho⟩
    obtain ⟨a', b', v1', v2', t2⟩ := TM_NF h (f := .op w g o) ⟨hg, ho⟩
    obtain rfl := Val.uniq hT v2 v2'
    rw [← e] at t2
    obtain rfl := tw_canL hT t1 t2
    rw [Val.uniq hT (TM_NF h hf) v1, Val.uniq hT (TM_NF h hg) v1']
  · intro e
    unfold NF
    rw [e]
theorem NF_canR {n : Nat} {m : List Int} {R : List (List Int)} (h : Rted n m R) (hc : Cl3 (RT R)) {w : Wd} {f g o : Fm} (hf : f.In n) (hg : g.In n) (ho : o.In n) : NF m R (.op w o f) = NF m R (.op w o g) ↔ NF m R f = NF m R g := by
  have hT := TM_cl h hc
  constructor
  · intro e
    obtain ⟨a, b, v1, v2, t1⟩ := TM_NF h (f := .op w o f) ⟨ho, hf⟩
    obtain ⟨a', b', v1', v2', t2⟩ := TM_NF h (f := .op w o g) ⟨ho, hg⟩
    obtain rfl := Val.uniq hT v1 v1'
    rw [← e] at t2
    obtain rfl := tw_canR hT t1 t2
    rw [Val.uniq hT (TM_NF h hf) v2, Val.uniq hT (TM_NF h hg) v2']
  · intro e
    unfold NF
    rw [e]
/-- whether two formulas are the same by facts -/
def SmF (n : Nat) (R : List (List Int)) (f g : Fm) (b : Bool) : Prop := ∃ m, Clo n R m ∧ (b = true ↔ SemAl (m, img (at0 m) R) f g)
theorem SmF.uniq {n : Nat} {R : List (List Int)} {f g : Fm} {b b' : Bool} (h : SmF n R f g b) (h' : SmF n R f g b') : b = b' := by
  obtain ⟨m, c, e⟩ := h
  obtain ⟨m', c', e'⟩ := h'
  obtain rfl := c.unique c'
  have := e.trans e'.symm
  cases b <;> cases b' <;> simp_all
theorem SmF.symm {n : Nat} {R : List (List Int)} {f g : Fm} {b : Bool} (h : SmF n R f g b) : SmF n R g f b := by
  obtain ⟨m, c, e⟩ := h
  exact ⟨m, c, e.trans SemAl.symm⟩
theorem SmF.self {n : Nat} {R : List (List Int)} {f : Fm} {b : Bool} (h : SmF n R f f b) : b = true := by
  obtain ⟨m, c, e⟩ := h
  exact e.mpr fun T μ x y i a b => Val.uniq i.cl a b
theorem sem_NF {n : Nat} {R R' : List (List Int)} {m : List Int} (h : Clo n R m) (hr : Rows n R) (hm : ∀ x, x ∈ R' ↔ x ∈ img (at0 m) R) {f g : Fm} (hf : f.In n) (hg : g.In n) : NF m R' f = NF m R' g ↔ SemAl (m, img (at0 m) R) f g := by
  have ok := sok_of h hr hm
  have hl := h.mks.len
  have h1 : SemAl (m, R') f g ↔ SemAl (m, img (at0 m) R) f g := ⟨fun h T μ x y i => h T μ x y ((itp_congr hm).mpr i), fun h T μ x y i => h T μ x y ((itp_congr hm).mp i)⟩
  have hf' : f.In (((m, R') : PS).1.length : Nat) := by show f.In ((m.length : Nat) : Int); rw [hl]; exact hf
  have hg' : g.In (((m, R') : PS).1.length : Nat) := by show g.In ((m.length : Nat) : Int); rw [hl]; exact hg
  rw [← h1, al_iff ok hf' hg', ← same_iff ok hf' hg']
theorem SmF.of {n : Nat} {R R' : List (List Int)} {m : List Int} (h : Clo n R m) (hr : Rows n R) (hm : ∀ x, x ∈ R' ↔ x ∈ img (at0 m) R) {f g : Fm} (hf : f.In n) (hg : g.In n) : SmF n R f g (decide (NF m R' f = NF m R' g)) :=
  ⟨m, h, by rw [decide_eq_true_iff]; exact sem_NF h hr hm hf hg⟩
theorem SmF.ofP {n : Nat} {R R' : List (List Int)} {m : List Int} (h : Clo n R m) (hr : Rows n R) (hm : ∀ x, x ∈ R' ↔ x ∈ img (at0 m) R) {f g : Fm} (hf : f.In n) (hg : g.In n) : SmF n R f g (decide ((putS f (m, R')).1 = (putS g (putS f (m, R')).2).1)) := by
  have hl := h.mks.len
  have e := same_iff (sok_of h hr hm) (f := f) (g := g) (by show f.In ((m.length : Nat) : Int); rw [hl]; exact hf) (by show g.In ((m.length : Nat) : Int); rw [hl]; exact hg)
  refine ⟨m, h, ?_⟩
  rw [decide_eq_true_iff, ← e]
  exact sem_NF h hr hm hf hg
theorem SmF.canL {n : Nat} {R : List (List Int)} (hr : Rows n R) {w : Wd} {f g o : Fm} (hf : f.In n) (hg : g.In n) (ho : o.In n) {b : Bool} (h : SmF n R (.op w f o) (.op w g o) b) : SmF n R f g b := by
  obtain ⟨m, c, e⟩ := h
  refine ⟨m, c, e.trans ?_⟩
  have hm : ∀ x, x ∈ img (at0 m) R ↔ x ∈ img (at0 m) R := fun _ => Iff.rfl
  rw [← sem_NF c hr hm hf hg, ← sem_NF c hr hm (f := .op w f o) (g := .op w g o) ⟨hf, ho⟩ ⟨hg, ho⟩]
  exact NF_canL (rted_of c hr hm) (sok_of c hr hm).cl hf hg ho
theorem SmF.canR {n : Nat} {R : List (List Int)} (hr : Rows n R) {w : Wd} {f g o : Fm} (hf : f.In n) (hg : g.In n) (ho : o.In n) {b : Bool} (h : SmF n R (.op w o f) (.op w o g) b) : SmF n R f g b := by
  obtain ⟨m, c, e⟩ := h
  refine ⟨m, c, e.trans ?_⟩
  have hm : ∀ x, x ∈ img (at0 m) R ↔ x ∈ img (at0 m) R := fun _ => Iff.rfl
  rw [← sem_NF c hr hm hf hg, ← sem_NF c hr hm (f := .op w o f) (g := .op w o g) ⟨ho, hf⟩ ⟨ho, hg⟩]
  exact NF_canR (rted_of c hr hm) (sok_of c hr hm).cl hf hg ho
end DL

namespace LK
open PySem L2 DL

local macro_rules | `(tactic| walk_at "go") => `(tactic| (conv => whnf))
local macro_rules | `(tactic| walk_at "br") => `(tactic| ((conv => whnf); refine br_of ?_ ?_))
local macro_rules | `(tactic| walk_at "st") => `(tactic| ((conv => whnf); first
  | (refine ⟨Nat.le_of_ble_eq_true rfl, ?_⟩; walk_at "st")
  | (refine ⟨rfl, ?_⟩; walk_at "st")
  | skip))
local macro_rules | `(tactic| walk_at "vls") => `(tactic| first
  | exact fun _ h => absurd h List.not_mem_nil
  | (refine List.forall_mem_append.mpr ⟨?_, ?_⟩ <;> walk_at "vls")
  | (refine List.forall_mem_cons.mpr ⟨?_, ?_⟩; rotate_left; walk_at "vls")
  | skip)
local macro_rules | `(tactic| walk_at "vl") => `(tactic| first
  | exact Vl.pure (by decide +kernel) (by decide +kernel) (by decide +kernel) (by decide +kernel)
  | exact Vl.mono ‹Vl _ _ _ _ _› (by decide) (by decide)
  | exact Vl.mono (Vl.int (by omega)) (by decide) (by decide))
local macro_rules | `(tactic| walk_at "mem") => `(tactic| first
  | assumption
  | exact updM_same
  | (refine (Keep.new ‹_›) _ _ ?_; walk_at "mem")
  | (refine ‹Keep _ _› _ _ ?_; walk_at "mem")
  | (refine (Bg.ext ‹Bg _ _ _›) _ _ (by first | assumption | exact Ne.symm ‹_›) ?_; walk_at "mem")
  | (refine ‹Ext _ _ _› _ _ (by first | assumption | exact Ne.symm ‹_›) ?_; walk_at "mem")
  | (rw [updM_ne (by first | assumption | exact Ne.symm ‹_›)]; walk_at "mem"))

def top (i : Nat) : Stmt := PySem.Challenge.pw_solvedbothsides_k11_same_by_closing.main.body.getD i (.Pass ⟨0, 0, 0, 0⟩)
abbrev s_wall : Stmt := top 0
theorem sc_wall : FnScope ["k"] ["k"] (defScope s_wall) := ⟨rfl, rfl, rfl, by decide +kernel, rfl, by decide +kernel, by decide +kernel⟩
abbrev s_choices : Stmt := top 5
theorem sc_choices : FnScope ["many", "count", "rows", "turn", "longer", "row", "first", "number"] ["many", "count"] (defScope s_choices) := ⟨rfl, rfl, rfl, by decide +kernel, rfl, by decide +kernel, by decide +kernel⟩
abbrev s_is_name : Stmt := top 7
theorem sc_is_name : FnScope ["formula"] ["formula"] (defScope s_is_name) := ⟨rfl, rfl, rfl, by decide +kernel, rfl, by decide +kernel, by decide +kernel⟩
abbrev s_Closing_xinit : Stmt := inClass (top 10) 0
theorem sc_Closing_xinit : FnScope ["self", "many", "entries"] ["self", "many", "entries"] (defScope s_Closing_xinit) := ⟨rfl, rfl, rfl, by decide +kernel, rfl, by decide +kernel, by decide +kernel⟩
abbrev s_Closing_root : Stmt := inClass (top 10) 1
theorem sc_Closing_root : FnScope ["self", "thing"] ["self", "thing"] (defScope s_Closing_root) := ⟨rfl, rfl, rfl, by decide +kernel, rfl, by decide +kernel, by decide +kernel⟩
abbrev s_Closing_join : Stmt := inClass (top 10) 2
theorem sc_Closing_join : FnScope ["self", "one", "other", "low", "high"] ["self", "one", "other"] (defScope s_Closing_join) := ⟨rfl, rfl, rfl, by decide +kernel, rfl, by decide +kernel, by decide +kernel⟩
abbrev s_Closing_rooted : Stmt := inClass (top 10) 3
theorem sc_Closing_rooted : FnScope ["self", "row", "thing"] ["self"] (defScope s_Closing_rooted) := ⟨rfl, rfl, rfl, by decide +kernel, rfl, by decide +kernel, by decide +kernel⟩
abbrev s_Closing_is_joined : Stmt := inClass (top 10) 4
theorem sc_Closing_is_joined : FnScope ["self", "places", "found", "is_new", "row", "key"] ["self", "places"] (defScope s_Closing_is_joined) := ⟨rfl, rfl, rfl, by decide +kernel, rfl, by decide +kernel, by decide +kernel⟩
abbrev s_Closing_settle : Stmt := inClass (top 10) 5
theorem sc_Closing_settle : FnScope ["self", "word"] ["self"] (defScope s_Closing_settle) := ⟨rfl, rfl, rfl, by decide +kernel, rfl, by decide +kernel, by decide +kernel⟩
abbrev s_Closing_told : Stmt := inClass (top 10) 6
theorem sc_Closing_told : FnScope ["self", "places", "one", "other", "row"] ["self", "places", "one", "other"] (defScope s_Closing_told) := ⟨rfl, rfl, rfl, by decide +kernel, rfl, by decide +kernel, by decide +kernel⟩
abbrev s_Closing_third : Stmt := inClass (top 10) 7
theorem sc_Closing_third : FnScope ["self", "places", "one", "other", "found", "row"] ["self", "places", "one", "other"] (defScope s_Closing_third) := ⟨rfl, rfl, rfl, by decide +kernel, rfl, by decide +kernel, by decide +kernel⟩
abbrev s_Closing_thing_of : Stmt := inClass (top 10) 8
theorem sc_Closing_thing_of : FnScope ["self", "formula"] ["self", "formula"] (defScope s_Closing_thing_of) := ⟨rfl, rfl, rfl, by decide +kernel, rfl, by decide +kernel, by decide +kernel⟩
abbrev s_Closing_put_together : Stmt := inClass (top 10) 9
theorem sc_Closing_put_together : FnScope ["self", "one", "other"] ["self", "one", "other"] (defScope s_Closing_put_together) := ⟨rfl, rfl, rfl, by decide +kernel, rfl, by decide +kernel, by decide +kernel⟩
abbrev s_Closing_numbered : Stmt := inClass (top 10) 10
theorem sc_Closing_numbered : FnScope ["self"] ["self"] (defScope s_Closing_numbered) := ⟨rfl, rfl, rfl, by decide +kernel, rfl, by decide +kernel, by decide +kernel⟩
abbrev s_closing_by : Stmt := top 12
theorem sc_closing_by : FnScope ["facts", "numbers", "number"] ["facts", "numbers"] (defScope s_closing_by) := ⟨rfl, rfl, rfl, by decide +kernel, rfl, by decide +kernel, by decide +kernel⟩
abbrev s_closing_of : Stmt := top 13
theorem sc_closing_of : FnScope ["facts"] ["facts"] (defScope s_closing_of) := ⟨rfl, rfl, rfl, by decide +kernel, rfl, by decide +kernel, by decide +kernel⟩
abbrev s_lots_of : Stmt := top 14
theorem sc_lots_of : FnScope ["facts", "found", "count"] ["facts"] (defScope s_lots_of) := ⟨rfl, rfl, rfl, by decide +kernel, rfl, by decide +kernel, by decide +kernel⟩
abbrev s_are_one : Stmt := top 15
theorem sc_are_one : FnScope ["closing", "pair"] ["closing", "pair"] (defScope s_are_one) := ⟨rfl, rfl, rfl, by decide +kernel, rfl, by decide +kernel, by decide +kernel⟩
abbrev s_torn_by : Stmt := top 16
theorem sc_torn_by : FnScope ["facts", "closing", "number", "pair"] ["facts", "closing"] (defScope s_torn_by) := ⟨rfl, rfl, rfl, by decide +kernel, rfl, by decide +kernel, by decide +kernel⟩
abbrev s_clash : Stmt := top 17
theorem sc_clash : FnScope ["facts", "numbers", "pair"] ["facts"] (defScope s_clash) := ⟨rfl, rfl, rfl, by decide +kernel, rfl, by decide +kernel, by decide +kernel⟩
abbrev s_closed : Stmt := top 18
theorem sc_closed : FnScope ["facts", "found"] ["facts"] (defScope s_closed) := ⟨rfl, rfl, rfl, by decide +kernel, rfl, by decide +kernel, by decide +kernel⟩
abbrev s_entry_told : Stmt := top 20
theorem sc_entry_told : FnScope ["closing", "formula", "word", "one", "other"] ["closing", "formula"] (defScope s_entry_told) := ⟨rfl, rfl, rfl, by decide +kernel, rfl, by decide +kernel, by decide +kernel⟩
abbrev s_is_made : Stmt := top 21
theorem sc_is_made : FnScope ["formula", "word"] ["formula", "word"] (defScope s_is_made) := ⟨rfl, rfl, rfl, by decide +kernel, rfl, by decide +kernel, by decide +kernel⟩
abbrev s_rule_told : Stmt := top 22
theorem sc_rule_told : FnScope ["formula", "word", "one", "other"] ["formula"] (defScope s_rule_told) := ⟨rfl, rfl, rfl, by decide +kernel, rfl, by decide +kernel, by decide +kernel⟩
abbrev s_shorter : Stmt := top 23
theorem sc_shorter : FnScope ["closing", "formula", "found"] ["closing", "formula"] (defScope s_shorter) := ⟨rfl, rfl, rfl, by decide +kernel, rfl, by decide +kernel, by decide +kernel⟩
abbrev s_first_step : Stmt := top 24
theorem sc_first_step : FnScope ["closing", "formula", "word", "one", "other", "found"] ["closing", "formula"] (defScope s_first_step) := ⟨rfl, rfl, rfl, by decide +kernel, rfl, by decide +kernel, by decide +kernel⟩
abbrev s_steps : Stmt := top 25
theorem sc_steps : FnScope ["closing", "formula", "found", "after"] ["closing", "formula"] (defScope s_steps) := ⟨rfl, rfl, rfl, by decide +kernel, rfl, by decide +kernel, by decide +kernel⟩
abbrev s_same : Stmt := top 26
theorem sc_same : FnScope ["facts", "one", "other", "closing"] ["facts", "one", "other"] (defScope s_same) := ⟨rfl, rfl, rfl, by decide +kernel, rfl, by decide +kernel, by decide +kernel⟩
abbrev s_l_bag : Stmt := top 28
theorem sc_l_bag : FnScope ["_law_script", "_law_great", "_law_small", "_law_cell"] ["_law_script"] (defScope s_l_bag) := ⟨rfl, rfl, rfl, by decide +kernel, rfl, by decide +kernel, by decide +kernel⟩
abbrev s_l_draw : Stmt := top 29
theorem sc_l_draw : FnScope ["_law_bag_here", "_law_limit", "_law_digit", "_law_mixed"] ["_law_bag_here", "_law_limit"] (defScope s_l_draw) := ⟨rfl, rfl, rfl, by decide +kernel, rfl, by decide +kernel, by decide +kernel⟩
abbrev s_l_pick : Stmt := top 30
theorem sc_l_pick : FnScope ["_law_bag_here", "_law_items"] ["_law_bag_here", "_law_items"] (defScope s_l_pick) := ⟨rfl, rfl, rfl, by decide +kernel, rfl, by decide +kernel, by decide +kernel⟩
abbrev s_l_divisor : Stmt := top 31
theorem sc_l_divisor : FnScope ["_law_one", "_law_other", "_law_turn"] ["_law_one", "_law_other"] (defScope s_l_divisor) := ⟨rfl, rfl, rfl, by decide +kernel, rfl, by decide +kernel, by decide +kernel⟩
abbrev s_l_turned : Stmt := top 32
theorem sc_l_turned : FnScope ["_law_bag_here", "_law_many", "_law_rest", "_law_found", "_law_turn"] ["_law_bag_here", "_law_many"] (defScope s_l_turned) := ⟨rfl, rfl, rfl, by decide +kernel, rfl, by decide +kernel, by decide +kernel⟩
abbrev s_l_turn_over : Stmt := top 33
theorem sc_l_turn_over : FnScope ["_law_bag_here", "_law_rows", "_law_size", "_law_one", "_law_other", "_law_column", "_law_begin", "_law_turn", "_law_k"] ["_law_bag_here", "_law_rows", "_law_size"] (defScope s_l_turn_over) := ⟨rfl, rfl, rfl, by decide +kernel, rfl, by decide +kernel, by decide +kernel⟩
abbrev s_l_table : Stmt := top 34
theorem sc_l_table : FnScope ["_law_bag_here", "_law_size", "_law_times", "_law_orders", "_law_found", "_law_turn", "_law_own", "_law_x", "_law_y", "_law_row"] ["_law_bag_here", "_law_size"] (defScope s_l_table) := ⟨rfl, rfl, rfl, by decide +kernel, rfl, by decide +kernel, by decide +kernel⟩
abbrev s_l_things : Stmt := top 35
theorem sc_l_things : FnScope ["_law_bag_here", "_law_many", "_law_size", "_law_k"] ["_law_bag_here", "_law_many", "_law_size"] (defScope s_l_things) := ⟨rfl, rfl, rfl, by decide +kernel, rfl, by decide +kernel, by decide +kernel⟩
abbrev s_l_formula : Stmt := top 36
theorem sc_l_formula : FnScope ["_law_bag_here", "_law_names", "_law_deep", "_law_word"] ["_law_bag_here", "_law_names", "_law_deep"] (defScope s_l_formula) := ⟨rfl, rfl, rfl, by decide +kernel, rfl, by decide +kernel, by decide +kernel⟩
abbrev s_l_count : Stmt := top 37
theorem sc_l_count : FnScope ["_law_value"] ["_law_value"] (defScope s_l_count) := ⟨rfl, rfl, rfl, by decide +kernel, rfl, by decide +kernel, by decide +kernel⟩
abbrev s_l_facts : Stmt := top 38
theorem sc_l_facts : FnScope ["_law_bag_here", "_law_names", "_law_size", "_law_table_here", "_law_things_here", "_law_entries", "_law_turn", "_law_x", "_law_y", "_law_some", "_law_unlike", "_law_k"] ["_law_bag_here", "_law_names"] (defScope s_l_facts) := ⟨rfl, rfl, rfl, by decide +kernel, rfl, by decide +kernel, by decide +kernel⟩
abbrev s_l_close : Stmt := top 39
theorem sc_l_close : FnScope ["_law_marks_here", "_law_rows", "_law_turn", "_law_pairs", "_law_one", "_law_other", "_law_first", "_law_second", "_law_third", "_law_low", "_law_high", "_law_thing"] ["_law_marks_here", "_law_rows"] (defScope s_l_close) := ⟨rfl, rfl, rfl, by decide +kernel, rfl, by decide +kernel, by decide +kernel⟩
abbrev s_l_marks : Stmt := top 40
theorem sc_l_marks : FnScope ["_law_facts_here", "_law_numbers", "_law_number"] ["_law_facts_here", "_law_numbers"] (defScope s_l_marks) := ⟨rfl, rfl, rfl, by decide +kernel, rfl, by decide +kernel, by decide +kernel⟩
abbrev s_l_all_marks : Stmt := top 41
theorem sc_l_all_marks : FnScope ["_law_facts_here"] ["_law_facts_here"] (defScope s_l_all_marks) := ⟨rfl, rfl, rfl, by decide +kernel, rfl, by decide +kernel, by decide +kernel⟩
abbrev s_l_lots : Stmt := top 42
theorem sc_l_lots : FnScope ["_law_many", "_law_found", "_law_number", "_law_lot", "_law_size"] ["_law_many"] (defScope s_l_lots) := ⟨rfl, rfl, rfl, by decide +kernel, rfl, by decide +kernel, by decide +kernel⟩
abbrev s_l_clash : Stmt := top 43
theorem sc_l_clash : FnScope ["_law_facts_here", "_law_lot", "_law_marks_here", "_law_some", "_law_one", "_law_other", "_law_number"] ["_law_facts_here"] (defScope s_l_clash) := ⟨rfl, rfl, rfl, by decide +kernel, rfl, by decide +kernel, by decide +kernel⟩
abbrev s_l_good_facts : Stmt := top 44
theorem sc_l_good_facts : FnScope ["_law_bag_here", "_law_names", "_law_facts_here", "_law_turn"] ["_law_bag_here", "_law_names"] (defScope s_l_good_facts) := ⟨rfl, rfl, rfl, by decide +kernel, rfl, by decide +kernel, by decide +kernel⟩
abbrev s_l_put : Stmt := top 45
theorem sc_l_put : FnScope ["_law_marks_here", "_law_rows", "_law_formula_here", "_law_word", "_law_one", "_law_other", "_law_first", "_law_second", "_law_here", "_law_there", "_law_last", "_law_row"] ["_law_marks_here", "_law_rows", "_law_formula_here"] (defScope s_l_put) := ⟨rfl, rfl, rfl, by decide +kernel, rfl, by decide +kernel, by decide +kernel⟩
abbrev s_l_near : Stmt := top 46
theorem sc_l_near : FnScope ["_law_bag_here", "_law_formula_here", "_law_names", "_law_way", "_law_own", "_law_some"] ["_law_bag_here", "_law_formula_here", "_law_names"] (defScope s_l_near) := ⟨rfl, rfl, rfl, by decide +kernel, rfl, by decide +kernel, by decide +kernel⟩
abbrev s_l_is_same : Stmt := top 47
theorem sc_l_is_same : FnScope ["_law_facts_here", "_law_one", "_law_other", "_law_marks_here", "_law_rows", "_law_first", "_law_second"] ["_law_facts_here", "_law_one", "_law_other"] (defScope s_l_is_same) := ⟨rfl, rfl, rfl, by decide +kernel, rfl, by decide +kernel, by decide +kernel⟩
abbrev s_law : Stmt := top 48
theorem sc_law : FnScope ["_law_script", "_law_bag_here", "_law_turn", "_law_names", "_law_facts_here", "_law_again", "_law_one", "_law_other", "_law_due", "_law_word", "_law_own"] ["_law_script"] (defScope s_law) := ⟨rfl, rfl, rfl, by decide +kernel, rfl, by decide +kernel, by decide +kernel⟩
structure Ad where
  f_wall : Addr
  d_wall : FuncData
  f_choices : Addr
  d_choices : FuncData
  f_is_name : Addr
  d_is_name : FuncData
  f_Closing_xinit : Addr
  d_Closing_xinit : FuncData
  f_Closing_root : Addr
  d_Closing_root : FuncData
  f_Closing_join : Addr
  d_Closing_join : FuncData
  f_Closing_rooted : Addr
  d_Closing_rooted : FuncData
  f_Closing_is_joined : Addr
  d_Closing_is_joined : FuncData
  f_Closing_settle : Addr
  d_Closing_settle : FuncData
  f_Closing_told : Addr
  d_Closing_told : FuncData
  f_Closing_third : Addr
  d_Closing_third : FuncData
  f_Closing_thing_of : Addr
  d_Closing_thing_of : FuncData
  f_Closing_put_together : Addr
  d_Closing_put_together : FuncData
  f_Closing_numbered : Addr
  d_Closing_numbered : FuncData
  f_closing_by : Addr
  d_closing_by : FuncData
  f_closing_of : Addr
  d_closing_of : FuncData
  f_lots_of : Addr
  d_lots_of : FuncData
  f_are_one : Addr
  d_are_one : FuncData
  f_torn_by : Addr
  d_torn_by : FuncData
  f_clash : Addr
  d_clash : FuncData
  f_closed : Addr
  d_closed : FuncData
  f_entry_told : Addr
  d_entry_told : FuncData
  f_is_made : Addr
  d_is_made : FuncData
  f_rule_told : Addr
  d_rule_told : FuncData
  f_shorter : Addr
  d_shorter : FuncData
  f_first_step : Addr
  d_first_step : FuncData
  f_steps : Addr
  d_steps : FuncData
  f_same : Addr
  d_same : FuncData
  f_l_bag : Addr
  d_l_bag : FuncData
  f_l_draw : Addr
  d_l_draw : FuncData
  f_l_pick : Addr
  d_l_pick : FuncData
  f_l_divisor : Addr
  d_l_divisor : FuncData
  f_l_turned : Addr
  d_l_turned : FuncData
  f_l_turn_over : Addr
  d_l_turn_over : FuncData
  f_l_table : Addr
  d_l_table : FuncData
  f_l_things : Addr
  d_l_things : FuncData
  f_l_formula : Addr
  d_l_formula : FuncData
  f_l_count : Addr
  d_l_count : FuncData
  f_l_facts : Addr
  d_l_facts : FuncData
  f_l_close : Addr
  d_l_close : FuncData
  f_l_marks : Addr
  d_l_marks : FuncData
  f_l_all_marks : Addr
  d_l_all_marks : FuncData
  f_l_lots : Addr
  d_l_lots : FuncData
  f_l_clash : Addr
  d_l_clash : FuncData
  f_l_good_facts : Addr
  d_l_good_facts : FuncData
  f_l_put : Addr
  d_l_put : FuncData
  f_l_near : Addr
  d_l_near : FuncData
  f_l_is_same : Addr
  d_l_is_same : FuncData
  f_law : Addr
  d_law : FuncData
  c_Closing : Addr
structure Txt (K : PySem.W.Frag) (mg : Str → Option Value) (a : Ad) (w : World) : Prop where
  F_wall : Fun K "_wall" "_wall" s_wall a.f_wall a.d_wall
  B_wall : Binds K a.d_wall ["k"] []
  G_wall : mg "_wall" = some (.ref a.f_wall)
  F_choices : Fun K "choices" "choices" s_choices a.f_choices a.d_choices
  B_choices : Binds K a.d_choices ["many", "count"] []
  G_choices : mg "choices" = some (.ref a.f_choices)
  F_is_name : Fun K "is_name" "is_name" s_is_name a.f_is_name a.d_is_name
  B_is_name : Binds K a.d_is_name ["formula"] []
  G_is_name : mg "is_name" = some (.ref a.f_is_name)
  F_Closing_xinit : Fun K "__init__" "Closing.__init__" s_Closing_xinit a.f_Closing_xinit a.d_Closing_xinit
  B_Closing_xinit : Binds K a.d_Closing_xinit ["self", "many", "entries"] []
  F_Closing_root : Fun K "root" "Closing.root" s_Closing_root a.f_Closing_root a.d_Closing_root
  B_Closing_root : Binds K a.d_Closing_root ["self", "thing"] []
  F_Closing_join : Fun K "join" "Closing.join" s_Closing_join a.f_Closing_join a.d_Closing_join
  B_Closing_join : Binds K a.d_Closing_join ["self", "one", "other"] []
  F_Closing_rooted : Fun K "rooted" "Closing.rooted" s_Closing_rooted a.f_Closing_rooted a.d_Closing_rooted
  B_Closing_rooted : Binds K a.d_Closing_rooted ["self"] []
  F_Closing_is_joined : Fun K "is_joined" "Closing.is_joined" s_Closing_is_joined a.f_Closing_is_joined a.d_Closing_is_joined
  B_Closing_is_joined : Binds K a.d_Closing_is_joined ["self", "places"] []
  F_Closing_settle : Fun K "settle" "Closing.settle" s_Closing_settle a.f_Closing_settle a.d_Closing_settle
  B_Closing_settle : Binds K a.d_Closing_settle ["self"] []
  F_Closing_told : Fun K "told" "Closing.told" s_Closing_told a.f_Closing_told a.d_Closing_told
  B_Closing_told : Binds K a.d_Closing_told ["self", "places", "one", "other"] []
  F_Closing_third : Fun K "third" "Closing.third" s_Closing_third a.f_Closing_third a.d_Closing_third
  B_Closing_third : Binds K a.d_Closing_third ["self", "places", "one", "other"] []
  F_Closing_thing_of : Fun K "thing_of" "Closing.thing_of" s_Closing_thing_of a.f_Closing_thing_of a.d_Closing_thing_of
  B_Closing_thing_of : Binds K a.d_Closing_thing_of ["self", "formula"] []
  F_Closing_put_together : Fun K "put_together" "Closing.put_together" s_Closing_put_together a.f_Closing_put_together a.d_Closing_put_together
  B_Closing_put_together : Binds K a.d_Closing_put_together ["self", "one", "other"] []
  F_Closing_numbered : Fun K "numbered" "Closing.numbered" s_Closing_numbered a.f_Closing_numbered a.d_Closing_numbered
  B_Closing_numbered : Binds K a.d_Closing_numbered ["self"] []
  F_closing_by : Fun K "closing_by" "closing_by" s_closing_by a.f_closing_by a.d_closing_by
  B_closing_by : Binds K a.d_closing_by ["facts", "numbers"] []
  G_closing_by : mg "closing_by" = some (.ref a.f_closing_by)
  F_closing_of : Fun K "closing_of" "closing_of" s_closing_of a.f_closing_of a.d_closing_of
  B_closing_of : Binds K a.d_closing_of ["facts"] []
  G_closing_of : mg "closing_of" = some (.ref a.f_closing_of)
  F_lots_of : Fun K "lots_of" "lots_of" s_lots_of a.f_lots_of a.d_lots_of
  B_lots_of : Binds K a.d_lots_of ["facts"] []
  G_lots_of : mg "lots_of" = some (.ref a.f_lots_of)
  F_are_one : Fun K "are_one" "are_one" s_are_one a.f_are_one a.d_are_one
  B_are_one : Binds K a.d_are_one ["closing", "pair"] []
  G_are_one : mg "are_one" = some (.ref a.f_are_one)
  F_torn_by : Fun K "torn_by" "torn_by" s_torn_by a.f_torn_by a.d_torn_by
  B_torn_by : Binds K a.d_torn_by ["facts", "closing"] []
  G_torn_by : mg "torn_by" = some (.ref a.f_torn_by)
  F_clash : Fun K "clash" "clash" s_clash a.f_clash a.d_clash
  B_clash : Binds K a.d_clash ["facts"] []
  G_clash : mg "clash" = some (.ref a.f_clash)
  F_closed : Fun K "closed" "closed" s_closed a.f_closed a.d_closed
  B_closed : Binds K a.d_closed ["facts"] []
  G_closed : mg "closed" = some (.ref a.f_closed)
  F_entry_told : Fun K "entry_told" "entry_told" s_entry_told a.f_entry_told a.d_entry_told
  B_entry_told : Binds K a.d_entry_told ["closing", "formula"] []
  G_entry_told : mg "entry_told" = some (.ref a.f_entry_told)
  F_is_made : Fun K "is_made" "is_made" s_is_made a.f_is_made a.d_is_made
  B_is_made : Binds K a.d_is_made ["formula", "word"] []
  G_is_made : mg "is_made" = some (.ref a.f_is_made)
  F_rule_told : Fun K "rule_told" "rule_told" s_rule_told a.f_rule_told a.d_rule_told
  B_rule_told : Binds K a.d_rule_told ["formula"] []
  G_rule_told : mg "rule_told" = some (.ref a.f_rule_told)
  F_shorter : Fun K "shorter" "shorter" s_shorter a.f_shorter a.d_shorter
  B_shorter : Binds K a.d_shorter ["closing", "formula"] []
  G_shorter : mg "shorter" = some (.ref a.f_shorter)
  F_first_step : Fun K "first_step" "first_step" s_first_step a.f_first_step a.d_first_step
  B_first_step : Binds K a.d_first_step ["closing", "formula"] []
  G_first_step : mg "first_step" = some (.ref a.f_first_step)
  F_steps : Fun K "steps" "steps" s_steps a.f_steps a.d_steps
  B_steps : Binds K a.d_steps ["closing", "formula"] []
  G_steps : mg "steps" = some (.ref a.f_steps)
  F_same : Fun K "same" "same" s_same a.f_same a.d_same
  B_same : Binds K a.d_same ["facts", "one", "other"] []
  G_same : mg "same" = some (.ref a.f_same)
  F_l_bag : Fun K "_law_bag" "_law_bag" s_l_bag a.f_l_bag a.d_l_bag
  B_l_bag : Binds K a.d_l_bag ["_law_script"] []
  G_l_bag : mg "_law_bag" = some (.ref a.f_l_bag)
  F_l_draw : Fun K "_law_draw" "_law_draw" s_l_draw a.f_l_draw a.d_l_draw
  B_l_draw : Binds K a.d_l_draw ["_law_bag_here", "_law_limit"] []
  G_l_draw : mg "_law_draw" = some (.ref a.f_l_draw)
  F_l_pick : Fun K "_law_pick" "_law_pick" s_l_pick a.f_l_pick a.d_l_pick
  B_l_pick : Binds K a.d_l_pick ["_law_bag_here", "_law_items"] []
  G_l_pick : mg "_law_pick" = some (.ref a.f_l_pick)
  F_l_divisor : Fun K "_law_divisor" "_law_divisor" s_l_divisor a.f_l_divisor a.d_l_divisor
  B_l_divisor : Binds K a.d_l_divisor ["_law_one", "_law_other"] []
  G_l_divisor : mg "_law_divisor" = some (.ref a.f_l_divisor)
  F_l_turned : Fun K "_law_turned" "_law_turned" s_l_turned a.f_l_turned a.d_l_turned
  B_l_turned : Binds K a.d_l_turned ["_law_bag_here", "_law_many"] []
  G_l_turned : mg "_law_turned" = some (.ref a.f_l_turned)
  F_l_turn_over : Fun K "_law_turn_over" "_law_turn_over" s_l_turn_over a.f_l_turn_over a.d_l_turn_over
  B_l_turn_over : Binds K a.d_l_turn_over ["_law_bag_here", "_law_rows", "_law_size"] []
  G_l_turn_over : mg "_law_turn_over" = some (.ref a.f_l_turn_over)
  F_l_table : Fun K "_law_table" "_law_table" s_l_table a.f_l_table a.d_l_table
  B_l_table : Binds K a.d_l_table ["_law_bag_here", "_law_size"] []
  G_l_table : mg "_law_table" = some (.ref a.f_l_table)
  F_l_things : Fun K "_law_things" "_law_things" s_l_things a.f_l_things a.d_l_things
  B_l_things : Binds K a.d_l_things ["_law_bag_here", "_law_many", "_law_size"] []
  G_l_things : mg "_law_things" = some (.ref a.f_l_things)
  F_l_formula : Fun K "_law_formula" "_law_formula" s_l_formula a.f_l_formula a.d_l_formula
  B_l_formula : Binds K a.d_l_formula ["_law_bag_here", "_law_names", "_law_deep"] []
  G_l_formula : mg "_law_formula" = some (.ref a.f_l_formula)
  F_l_count : Fun K "_law_count" "_law_count" s_l_count a.f_l_count a.d_l_count
  B_l_count : Binds K a.d_l_count ["_law_value"] []
  G_l_count : mg "_law_count" = some (.ref a.f_l_count)
  F_l_facts : Fun K "_law_facts" "_law_facts" s_l_facts a.f_l_facts a.d_l_facts
  B_l_facts : Binds K a.d_l_facts ["_law_bag_here", "_law_names"] []
  G_l_facts : mg "_law_facts" = some (.ref a.f_l_facts)
  F_l_close : Fun K "_law_close" "_law_close" s_l_close a.f_l_close a.d_l_close
  B_l_close : Binds K a.d_l_close ["_law_marks_here", "_law_rows"] []
  G_l_close : mg "_law_close" = some (.ref a.f_l_close)
  F_l_marks : Fun K "_law_marks" "_law_marks" s_l_marks a.f_l_marks a.d_l_marks
  B_l_marks : Binds K a.d_l_marks ["_law_facts_here", "_law_numbers"] []
  G_l_marks : mg "_law_marks" = some (.ref a.f_l_marks)
  F_l_all_marks : Fun K "_law_all_marks" "_law_all_marks" s_l_all_marks a.f_l_all_marks a.d_l_all_marks
  B_l_all_marks : Binds K a.d_l_all_marks ["_law_facts_here"] []
  G_l_all_marks : mg "_law_all_marks" = some (.ref a.f_l_all_marks)
  F_l_lots : Fun K "_law_lots" "_law_lots" s_l_lots a.f_l_lots a.d_l_lots
  B_l_lots : Binds K a.d_l_lots ["_law_many"] []
  G_l_lots : mg "_law_lots" = some (.ref a.f_l_lots)
  F_l_clash : Fun K "_law_clash" "_law_clash" s_l_clash a.f_l_clash a.d_l_clash
  B_l_clash : Binds K a.d_l_clash ["_law_facts_here"] []
  G_l_clash : mg "_law_clash" = some (.ref a.f_l_clash)
  F_l_good_facts : Fun K "_law_good_facts" "_law_good_facts" s_l_good_facts a.f_l_good_facts a.d_l_good_facts
  B_l_good_facts : Binds K a.d_l_good_facts ["_law_bag_here", "_law_names"] []
  G_l_good_facts : mg "_law_good_facts" = some (.ref a.f_l_good_facts)
  F_l_put : Fun K "_law_put" "_law_put" s_l_put a.f_l_put a.d_l_put
  B_l_put : Binds K a.d_l_put ["_law_marks_here", "_law_rows", "_law_formula_here"] []
  G_l_put : mg "_law_put" = some (.ref a.f_l_put)
  F_l_near : Fun K "_law_near" "_law_near" s_l_near a.f_l_near a.d_l_near
  B_l_near : Binds K a.d_l_near ["_law_bag_here", "_law_formula_here", "_law_names"] []
  G_l_near : mg "_law_near" = some (.ref a.f_l_near)
  F_l_is_same : Fun K "_law_is_same" "_law_is_same" s_l_is_same a.f_l_is_same a.d_l_is_same
  B_l_is_same : Binds K a.d_l_is_same ["_law_facts_here", "_law_one", "_law_other"] []
  G_l_is_same : mg "_law_is_same" = some (.ref a.f_l_is_same)
  F_law : Fun K "law" "law" s_law a.f_law a.d_law
  B_law : Binds K a.d_law ["_law_script"] []
  G_law : mg "law" = some (.ref a.f_law)
  X_Closing : ClsC K mg "Closing" a.c_Closing a.f_Closing_xinit
  n_Closing_elder : NoAttr K a.c_Closing "elder"
  n_Closing_rows : NoAttr K a.c_Closing "rows"
  m_Closing_root : Meth K a.c_Closing "root" a.f_Closing_root
  m_Closing_join : Meth K a.c_Closing "join" a.f_Closing_join
  m_Closing_rooted : Meth K a.c_Closing "rooted" a.f_Closing_rooted
  m_Closing_is_joined : Meth K a.c_Closing "is_joined" a.f_Closing_is_joined
  m_Closing_settle : Meth K a.c_Closing "settle" a.f_Closing_settle
  m_Closing_told : Meth K a.c_Closing "told" a.f_Closing_told
  m_Closing_third : Meth K a.c_Closing "third" a.f_Closing_third
  m_Closing_thing_of : Meth K a.c_Closing "thing_of" a.f_Closing_thing_of
  m_Closing_put_together : Meth K a.c_Closing "put_together" a.f_Closing_put_together
  m_Closing_numbered : Meth K a.c_Closing "numbered" a.f_Closing_numbered
  z_abs : mg "abs" = none
  z_any : mg "any" = none
  z_enumerate : mg "enumerate" = none
  z_int : mg "int" = none
  z_isinstance : mg "isinstance" = none
  z_len : mg "len" = none
  z_list : mg "list" = none
  z_max : mg "max" = none
  z_min : mg "min" = none
  z_range : mg "range" = none
  z_repr : mg "repr" = none
  z_set : mg "set" = none
  z_sorted : mg "sorted" = none
  z_tuple : mg "tuple" = none
  c_PLACES : KPl K w mg "PLACES" plcs
section
variable {P : Program} {w : World} {K : PySem.W.Frag} {mg : Str → Option Value} {base : Heap} {a : Ad}

def sp_Closing_root (a : Ad) : SpD := fun ds M Q _ => match ds with
  | [.ref c, .int i] => ∃ pe n m R, CloO a.c_Closing M c pe n m R ∧ 0 ≤ i ∧ i < (n : Int) ∧ Q (.int (at0 m i)) M
  | _ => False

theorem ok_Closing_root (T : Txt K mg a w) : FnD P w K mg base CX0 1 a.f_Closing_root a.d_Closing_root ["self", "thing"] (sp_Closing_root a) := by
  refine okD T.F_Closing_root sc_Closing_root (fun ds M Q E h => ?_) (fun cdv A outer s H E hr hgd ds M Q E' h => ?_)
  · unfold sp_Closing_root at h; split at h <;> first | rfl | exact h.elim
  refine ⟨_, (dss_cons (ds_while PassesOwn.never (dt_cp (cr_ne hr.units) (de_ix (de_fldI T.X_Closing.cl T.n_Closing_elder (dv 0)) (dv 1)) (dv 1))
      (dss_one (ds_set (i := 1) sc_Closing_root.nd rfl (Or.inl rfl) (de_ix (de_fldI T.X_Closing.cl T.n_Closing_elder (dv 0)) (dv 1)))))
      (dss_one (ds_ret (dv 1)))), ?_⟩
  unfold sp_Closing_root at h
  split at h
  rotate_left
  · exact h.elim
  rename_i c i
  obtain ⟨pe, n, m, R, C, i0, i1, q⟩ := h
  obtain ⟨dx, pr, el, ec, ee, er, ne, E⟩ := C.ex
  have hl := E.len
  walk_at "go"
  refine ⟨fun ρ M' => M' = M ∧ ∃ j : Int, ρ = [some (.ref c), some (.int j)] ∧ 0 ≤ j ∧ j < n ∧ at0 m j = at0 m i, fun ρ _ => match ρ with
    | [_, some (.int j)] => j.toNat
    | _ => 0, ⟨rfl, i, rfl, i0, i1, rfl⟩, ?_⟩
  rintro ρ M' ⟨rfl, j, rfl, j0, j1, ej⟩
  have hE := E.at_ j j0 j1
  walk_at "st"
  refine ⟨_, _, ec, ?_⟩
  walk_at "st"
  refine ⟨_, ee, ixQ_of (atI_ints j0 (by omega)) ?_⟩
  walk_at "br"
  · intro hb
    have hne : at0 el j ≠ j := by simpa [sg] using hb
    rw [if_neg hne] at hE
    walk_at "st"
    refine ⟨_, _, ec, ?_⟩
    walk_at "st"
    refine ⟨_, ee, ixQ_of (atI_ints j0 (by omega)) ?_⟩
    walk_at "st"
    refine ⟨⟨rfl, _, rfl, hE.1, by omega, by rw [← ej, hE.2.2]⟩, ?_⟩
    show (at0 el j).toNat < j.toNat
    omega
  · intro hb
    have he : at0 el j = j := by simpa [sg] using hb
    walk_at "st"
    rw [← E.top j0 j1 he, ej]
    exact q


def sp_Closing_join (a : Ad) : SpD := fun ds M Q _ => match ds with
  | [.ref c, .int x, .int y] => ∃ pe n m R, CloO a.c_Closing M c pe n m R ∧ 0 ≤ x ∧ x < (n : Int) ∧ 0 ≤ y ∧ y < (n : Int) ∧
      ∀ lo hi M', (at0 m x = lo ∧ at0 m y = hi ∨ at0 m x = hi ∧ at0 m y = lo) → lo ≤ hi → CloO a.c_Closing M' c pe n (mgM m lo hi) R → Kp1 pe M M' → Q (.bl (decide (lo < hi))) M'
  | _ => False
theorem two_perm {xs : List Int} {u v : Int} (h : xs.Perm [u, v]) (hs : xs.Pairwise (· ≤ ·)) : ∃ lo hi, xs = [lo, hi] ∧ lo ≤ hi ∧ (u = lo ∧ v = hi ∨ u = hi ∧ v = lo) := by
  have hl := h.length_eq
  match xs, hl with
  | [p, q], _ =>
    have hpq : p ≤ q := by
      have := List.pairwise_cons.mp hs
      exact this.1 q List.mem_cons_self
    refine ⟨p, q, rfl, hpq, ?_⟩
    have hp := h.mem_iff.mp (List.mem_cons_self (a := p) (l := [q]))
    have hq : q ∈ [u, v] := h.mem_iff.mp (List.mem_cons_of_mem _ List.mem_cons_self)
    have hu := h.mem_iff.mpr (List.mem_cons_self (a := u) (l := [v]))
    have hv : v ∈ [p, q] := h.mem_iff.mpr (List.mem_cons_of_mem _ List.mem_cons_self)
    simp only [List.mem_cons, List.not_mem_nil, or_false] at hp hq hu hv
    omega

theorem ok_Closing_join (T : Txt K mg a w) : FnD P w K mg base CX0 2 a.f_Closing_join a.d_Closing_join ["self", "one", "other"] (sp_Closing_join a) := by
  refine okD T.F_Closing_join sc_Closing_join (fun ds M Q E h => ?_) (fun cdv A outer s H E hr hgd ds M Q E' h => ?_)
  · unfold sp_Closing_join at h; split at h <;> first | rfl | exact h.elim
  refine ⟨_, (dss_cons (ds_asg (de_cb (ca_sorted) (by rfl) T.z_sorted (by decide +kernel) (da_cons (de_lst (da_cons (de_meth T.X_Closing.cl T.m_Closing_root (ok_Closing_root T) (hr.mono (by omega)) hgd T.B_Closing_root (dv 0) (da_cons (dv 1) da_nil)) (da_cons (de_meth T.X_Closing.cl T.m_Closing_root (ok_Closing_root T) (hr.mono (by omega)) hgd T.B_Closing_root (dv 0) (da_cons (dv 2) da_nil)) da_nil))) da_nil)) (dg_tup rfl (dgs_cons (dg_name (i := 3) sc_Closing_join.nd rfl (Or.inl rfl)) (dgs_cons (dg_name (i := 4) sc_Closing_join.nd rfl (Or.inl rfl)) dgs_nil))))
      (dss_cons (ds_asg (dv 3) (dg_sub (de_fldI T.X_Closing.cl T.n_Closing_elder (dv 0)) (dv 4) st_list))
      (dss_one (ds_ret (de_cp cr_lt (dv 3) (dv 4)))))), ?_⟩
  unfold sp_Closing_join at h
  split at h
  rotate_left
  · exact h.elim
  rename_i c x y
  obtain ⟨pe, n, m, R, C, x0, x1, y0, y1, q⟩ := h
  have hm := C.mks
  have ax := hm.at_ x x0 x1
  have ay := hm.at_ y y0 y1
  obtain ⟨dx, pr, el, ec, ee, er, ne, E⟩ := C.ex
  walk_at "st"
  refine ⟨_, _, ec, ?_⟩
  walk_at "st"
  refine ⟨pe, n, m, R, C, x0, x1, ?_⟩
  walk_at "st"
  refine ⟨_, _, ec, ?_⟩
  walk_at "st"
  refine ⟨pe, n, m, R, C, y0, y1, ?_⟩
  walk_at "st"
  intro p1 h1
  generalize hM1 : updM M p1 _ = M1
  obtain ⟨e1, K1, k1⟩ := upd_keep h1 hM1 .refl
  walk_at "st"
  refine ⟨[at0 m x, at0 m y], e1, fun xs p2 hp hs h2 => ?_⟩
  generalize hM2 : updM M1 p2 _ = M2
  obtain ⟨e2, K2, k2⟩ := upd_keep h2 hM2 K1
  obtain ⟨lo, hi, rfl, lh, hc⟩ := two_perm hp hs
  have hlo : 0 ≤ lo ∧ lo < n ∧ at0 m lo = lo := by
    rcases hc with ⟨rfl, _⟩ | ⟨_, rfl⟩
    · exact ⟨by omega, by omega, ax.2.2⟩
    · exact ⟨by omega, by omega, ay.2.2⟩
  have hhi : 0 ≤ hi ∧ hi < n ∧ at0 m hi = hi := by
    rcases hc with ⟨_, rfl⟩ | ⟨rfl, _⟩
    · exact ⟨by omega, by omega, ay.2.2⟩
    · exact ⟨by omega, by omega, ax.2.2⟩
  have C2 := C.keep K2
  obtain ⟨dx, pr, el, ec, ee, er, ne, E⟩ := C2.ex
  have hl := E.len
  walk_at "st"
  refine ⟨_, e2, rfl, ?_⟩
  walk_at "st"
  refine ⟨_, _, ec, ?_⟩
  walk_at "st"
  refine ⟨_, hi.toNat, ee, by rw [List.length_map]; exact ixN_nn hhi.1 (by omega), ?_⟩
  have es : (el.map D.int).set hi.toNat (.int lo) = (el.set hi.toNat lo).map D.int := by rw [List.map_set]
  rw [es]
  have ne2 : c ≠ pe := by
    intro z
    rw [z, ee] at ec
    cases ec
  walk_at "st"
  refine q lo hi _ hc lh ?_ ?_
  · exact ⟨⟨dx, pr, _, by rw [updM_ne ne2]; exact ec, updM_same, by rw [updM_ne ne]; exact er, ne, E.join hlo.1 lh hhi.2.1 hlo.2.2 hhi.2.2⟩, C.rows, C.few, C.small⟩
  · exact fun b o hb e => by rw [updM_ne hb]; exact K2 _ _ e


def sp_Closing_rooted (a : Ad) : SpD := fun ds M Q _ => match ds with
  | [.ref c] => ∃ pe n m R, CloO a.c_Closing M c pe n m R ∧ ∀ p M' R', Keep M M' → M p = none → M' p = some (.lst (R'.map dI)) → SrtS R' → (∀ x, x ∈ R' ↔ x ∈ img (at0 m) R) → Q (.ref p) M'
  | _ => False

theorem ok_Closing_rooted (T : Txt K mg a w) : FnD P w K mg base CX0 2 a.f_Closing_rooted a.d_Closing_rooted ["self"] (sp_Closing_rooted a) := by
  refine okD T.F_Closing_rooted sc_Closing_rooted (fun ds M Q E h => ?_) (fun cdv A outer s H E hr hgd ds M Q E' h => ?_)
  · unfold sp_Closing_rooted at h; split at h <;> first | rfl | exact h.elim
  refine ⟨_, (dss_one (ds_ret (de_sortSet hr.units (by rfl) T.z_sorted (by rfl) T.z_set (de_lc rfl sc_Closing_rooted.nd (own := [("row", 1)]) (own1 _ 1) (di_seq (de_fldI T.X_Closing.cl T.n_Closing_rows (dv 0))) (blkOk_by (by kernel_rfl)) (fun _ _ _ _ _ => (pg_name (i := 1) sc_Closing_rooted.nd rfl (Or.inl rfl))) (fun _ _ _ _ _ => pts_y) (fun _ _ _ _ _ => (de_ct ca_tuple (by rfl) T.z_tuple PyProof.Rows.boot_tuple (da_cons (de_lc rfl sc_Closing_rooted.nd (own := [("thing", 2)]) (own1 _ 2) (di_seq (dv 1)) (blkOk_by (by kernel_rfl)) (fun _ _ _ _ _ => (pg_name (i := 2) sc_Closing_rooted.nd rfl (Or.inl rfl))) (fun _ _ _ _ _ => pts_y) (fun _ _ _ _ _ => (de_meth T.X_Closing.cl T.m_Closing_root (ok_Closing_root T) (hr.mono (by omega)) hgd T.B_Closing_root (dv 0) (da_cons (dv 2) da_nil)))) da_nil))))))), ?_⟩
  unfold sp_Closing_rooted at h
  split at h
  rotate_left
  · exact h.elim
  rename_i c
  obtain ⟨pe, n, m, R, C, q⟩ := h
  obtain ⟨dx, pr, el, ec, ee, er, ne, E⟩ := C.ex
  walk_at "st"
  refine ⟨_, _, ec, ?_⟩
  walk_at "st"
  refine ⟨_, er, ?_⟩
  refine .mapL (xs := R) (F := dI) (fun r => dI (r.map (at0 m))) (fun M' => Keep M M') (by have := C.few; have hz : sizeLine = 16777216 := rfl; omega) .refl (fun _ k => k _ _ er) ?_ ?_
  · intro r M1 hr k1 Q' hQ'
    have hrl := C.rows r hr
    walk_at "st"
    refine .mapL (xs := r) (F := D.int) (fun x => .int (at0 m x)) (fun M' => M' = M1) (by rw [hrl.1]; decide) rfl (fun _ _ => trivial) ?_ ?_
    · rintro x _ hx rfl Q2 hQ2
      have := hrl.2 x hx
      walk_at "st"
      refine ⟨_, _, k1 _ _ ec, ?_⟩
      walk_at "st"
      exact ⟨pe, n, m, R, C.keep k1, this.1, this.2, hQ2 _ rfl⟩
    rintro _ p2 rfl h2
    generalize hM2 : updM _ p2 _ = M2
    obtain ⟨e2, K2, k2⟩ := upd_keep h2 hM2 k1
    have e2 : M2 p2 = some (.lst ((r.map (at0 m)).map D.int)) := by rw [List.map_map]; exact e2
    walk_at "st"
    refine ⟨_, e2, ?_⟩
    exact hQ' _ K2
  intro M1 p1 k1 h1
  generalize hM2 : updM M1 p1 _ = M2
  obtain ⟨e2, K2, k2⟩ := upd_keep h1 hM2 k1
  have e2 : M2 p1 = some (.lst ((img (at0 m) R).map dI)) := by unfold img; rw [List.map_map]; exact e2
  have hR := C.rows.img C.mks
  have hn := C.small
  walk_at "go"
  refine ⟨img (at0 m) R, 3, 64, e2, by unfold img; rw [List.length_map]; exact C.few, by decide, fun r hr => ⟨(hR r hr).1, fun x hx => by have := (hR r hr).2 x hx; omega⟩, fun R' p3 hmem hnd hpw h3 => ?_⟩
  generalize hM3 : updM M2 p3 _ = M3
  obtain ⟨e3, K3, k3⟩ := upd_keep h3 hM3 K2
  exact q p3 M3 R' K3 (K2.none h3) e3 ⟨hnd, hpw⟩ hmem


theorem dt_tnotin_ {X : Cx} {o i : Expr} {to ti : TED} {pos : Pos} (hu : X.A.units + 64 < cLine) (hi : DE X i ti) (ho : DE X o to) (hm : behindInMarks .NotIn o = false := by with_unfolding_all rfl) : DT X (.Compare i [.NotIn] [o] pos) (dTest (dTin true ti to)) := dt_tnotin (by omega) hi ho hm
theorem st_dictT_ {X : Cx} (hu : X.A.units + 64 < cLine) : StR X rSetTX := st_dictT (by omega)
theorem de_tix_ {X : Cx} {o i : Expr} {to ti : TED} {pos : Pos} (hu : X.A.units + 64 < cLine) (ho : DE X o to) (hi : DE X i ti) (hs : NoSl i := by exact fun _ _ => rfl) : DE X (.Subscript o i pos) (dTix to ti) := de_tix (by omega) ho hi hs
def sp_Closing_is_joined (a : Ad) : SpD := fun ds M Q _ => match ds with
  | [.ref c, .tup [.int i, .int j, .int k]] => ∃ pe n m R, CloO a.c_Closing M c pe n m R ∧ Pl i j k ∧
      ∀ b m' M', CloO a.c_Closing M' c pe n m' R → Kp1 pe M M' → Resp n m (at0 m') → (∀ μ, Cls' R μ → Resp n m μ → Resp n m' μ) →
        (b = false → m' = m ∧ ∀ r ∈ R, ∀ s ∈ R, at0 m (at0 r i) = at0 m (at0 s i) → at0 m (at0 r j) = at0 m (at0 s j) → at0 m (at0 r k) = at0 m (at0 s k)) → cntM m' ≤ cntM m → (b = true → cntM m' < cntM m) → Q (.bl b) M'
  | _ => False
def fdK (F : List ((Int × Int) × Int)) : List (List L2.Key × D) := F.map fun p => ([.inl p.1.1, .inl p.1.2], .int p.2)
def fdAt (F : List ((Int × Int) × Int)) (x y : Int) : Option ((Int × Int) × Int) := F.find? fun p => decide (p.1 = (x, y))
theorem fdK_val (x y : Int) : ∀ F : List ((Int × Int) × Int), valD (fdK F) [.inl x, .inl y] = (fdAt F x y).map fun p => D.int p.2
  | [] => rfl
  | p :: F => by
    have ih := fdK_val x y F
    unfold valD fdK fdAt at ih ⊢
    rw [List.map_cons, List.find?_cons, List.find?_cons]
    by_cases h : p.1 = (x, y)
    · rw [decide_eq_true h, decide_eq_true (by rw [h])]; rfl
    · rw [decide_eq_false h, decide_eq_false (fun z => h (by
        have z1 := List.cons.inj z
        have z2 := List.cons.inj z1.2
        exact Prod.ext (Sum.inl.inj z1.1) (Sum.inl.inj z2.1)))]
      exact ih
theorem fdK_put {x y v : Int} {F : List ((Int × Int) × Int)} (h : fdAt F x y = none) : putD (fdK F) [.inl x, .inl y] (.int v) = fdK (F ++ [((x, y), v)]) := by
  unfold putD
  rw [if_neg]
  · unfold fdK; rw [List.map_append]; rfl
  · intro z
    obtain ⟨q, hq, e⟩ := List.any_eq_true.mp z
    obtain ⟨p, hp, rfl⟩ := List.mem_map.mp hq
    have e := of_decide_eq_true e
    have z1 := List.cons.inj e
    have z2 := List.cons.inj z1.2
    exact absurd (List.find?_eq_none.mp h p hp) (by simp; exact Prod.ext (Sum.inl.inj z1.1) (Sum.inl.inj z2.1))
theorem fdAt_snoc {F : List ((Int × Int) × Int)} {x y u w v : Int} : fdAt (F ++ [((u, w), v)]) x y = (fdAt F x y).or (if (u, w) = (x, y) then some ((u, w), v) else none) := by
  unfold fdAt
  rw [List.find?_append]
  congr 1
  rw [List.find?_cons]
  by_cases h : (u, w) = (x, y)
  · rw [if_pos h, decide_eq_true h]
  · rw [if_neg h, decide_eq_false h]; rfl
theorem fdAt_some {F : List ((Int × Int) × Int)} {x y : Int} {p : (Int × Int) × Int} (h : fdAt F x y = some p) : p ∈ F ∧ p.1.1 = x ∧ p.1.2 = y := by
  have := List.find?_some h
  have e := of_decide_eq_true this
  exact ⟨List.mem_of_find?_eq_some h, by rw [e], by rw [e]⟩

theorem ok_Closing_is_joined (T : Txt K mg a w) : FnD P w K mg base CX0 3 a.f_Closing_is_joined a.d_Closing_is_joined ["self", "places"] (sp_Closing_is_joined a) := by
  refine okD T.F_Closing_is_joined sc_Closing_is_joined (fun ds M Q E h => ?_) (fun cdv A outer s H E hr hgd ds M Q E' h => ?_)
  · unfold sp_Closing_is_joined at h; split at h <;> first | rfl | exact h.elim
  refine ⟨_, (dss_cons (ds_par (i := 2) (j := 3) rfl sc_Closing_is_joined.nd rfl rfl (by decide) rfl rfl (da_cons de_newT (da_cons de_bl da_nil)) (by rfl))
      (dss_cons (ds_for PassesOwn.never rfl (di_seq (de_fldI T.X_Closing.cl T.n_Closing_rows (dv 0))) (dg_name (i := 4) sc_Closing_is_joined.nd rfl (Or.inl rfl))
      (dss_cons (ds_set (i := 5) sc_Closing_is_joined.nd rfl (Or.inl rfl) (de_tupK (da_cons (de_meth T.X_Closing.cl T.m_Closing_root (ok_Closing_root T) (hr.mono (by omega)) hgd T.B_Closing_root (dv 0) (da_cons (de_ix (dv 4) (de_ix (dv 1) de_int)) da_nil)) (da_cons (de_meth T.X_Closing.cl T.m_Closing_root (ok_Closing_root T) (hr.mono (by omega)) hgd T.B_Closing_root (dv 0) (da_cons (de_ix (dv 4) (de_ix (dv 1) de_int)) da_nil)) da_nil))))
      (dss_one (ds_if (dt_tnotin_ hr.units (dv 5) (dv 2))
      (dss_one (ds_asg (de_ix (dv 4) (de_ix (dv 1) de_int)) (dg_sub (dv 2) (dv 5) (st_dictT_ hr.units))))
      (dss_one (ds_if (dt_val (de_meth T.X_Closing.cl T.m_Closing_join (ok_Closing_join T) (hr.mono (by omega)) hgd T.B_Closing_join (dv 0) (da_cons ((de_tix_ hr.units) (dv 2) (dv 5)) (da_cons (de_ix (dv 4) (de_ix (dv 1) de_int)) da_nil))))
      (dss_one (ds_set (i := 3) sc_Closing_is_joined.nd rfl (Or.inl rfl) de_bl))
      dss_nil))))))
      (dss_one (ds_ret (dv 3))))), ?_⟩
  unfold sp_Closing_is_joined at h
  split at h
  rotate_left
  · exact h.elim
  rename_i c i j k
  obtain ⟨pe, n, m, R, C, hp, q⟩ := h
  obtain ⟨i0, i1, j0, j1, k0, kk1⟩ := hp.in_
  obtain ⟨dx, pr, el, ec, ee, er, ne, E⟩ := C.ex
  have few := C.few
  have hz : sizeLine = 16777216 := rfl
  walk_at "st"
  intro p1 h1
  generalize hM1 : updM M p1 _ = M1
  obtain ⟨e1, K1, k1⟩ := upd_keep h1 hM1 .refl
  have hpe : p1 ≠ pe := Ne.symm (ne_none ee h1)
  walk_at "st"
  refine ⟨_, _, K1 _ _ ec, ?_⟩
  walk_at "st"
  refine ⟨_, K1 _ _ er, ?_⟩
  refine .seqL (xs := R) (F := dI) (fun t ρ M' => ∃ b m' F, CloO a.c_Closing M' c pe n m' R ∧ Kp1 pe M M' ∧ M' pr = some (.lst (R.map dI)) ∧ M' p1 = some (.dctT (fdK F)) ∧ F.length ≤ t ∧ Resp n m (at0 m') ∧ (∀ μ, Cls' R μ → Resp n m μ → Resp n m' μ) ∧
    (∀ p ∈ F, ∃ r ∈ R, p.2 = at0 r k ∧ ∀ μ, Cls' R μ → Resp n m μ → μ (at0 r i) = μ p.1.1 ∧ μ (at0 r j) = μ p.1.2) ∧
    (b = false → m' = m ∧ ∀ u (hu : u < R.length), u < t → ∃ p, fdAt F (at0 m (at0 R[u] i)) (at0 m (at0 R[u] j)) = some p ∧ at0 m p.2 = at0 m (at0 R[u] k)) ∧ cntM m' ≤ cntM m ∧ (b = true → cntM m' < cntM m) ∧
    ∃ c4 c5, ρ = [some (.ref c), some (.tup [.int i, .int j, .int k]), some (.ref p1), some (.bl b), c4, c5])
    ⟨false, m, [], C.keep K1, K1.kp, K1 _ _ er, e1, Nat.le_refl _, C.mks.resp, fun _ _ h => h, fun _ h => absurd h List.not_mem_nil, fun _ => ⟨rfl, fun _ _ h => absurd h (Nat.not_lt_zero _)⟩, Nat.le_refl _, fun z => (by cases z), _, _, rfl⟩ (fun _ _ _ _ ⟨_, _, _, _, _, z, _⟩ => z) ?_ ?_
  rotate_left
  · rintro ρ M' ⟨b, m', F, C', kp, er', ef, fl, hL, hS, hF, hb, hc, ht, c4, c5, rfl⟩
    walk_at "st"
    refine q b m' M' C' kp hL hS (fun z => ?_) hc ht
    obtain ⟨rfl, hb⟩ := hb z
    refine ⟨rfl, fun r hr s hs h1 h2 => ?_⟩
    obtain ⟨u, hu, rfl⟩ := List.getElem_of_mem hr
    obtain ⟨v, hv, rfl⟩ := List.getElem_of_mem hs
    obtain ⟨p, e1, e2⟩ := hb u hu hu
    obtain ⟨p', e1', e2'⟩ := hb v hv hv
    rw [h1, h2, e1'] at e1
    obtain rfl := Option.some.inj e1
    rw [← e2, ← e2']
  rintro t ρ M' ht ⟨b, m', F, C', kp, er', ef, fl, hL, hS, hF, hb, hc, hbt, c4, c5, rfl⟩
  obtain ⟨dx', pr', el', ec', _, _, _, E'⟩ := C'.ex
  have hs := List.getElem_mem ht
  generalize hrow : R[t] = s at *
  have hsl := (C.rows s hs).1
  have si := C.rows.at_ hs i0 i1
  have sj := C.rows.at_ hs j0 j1
  have sk := C.rows.at_ hs k0 kk1
  have ai : atI (s.map D.int) i = some (.int (at0 s i)) := atI_ints i0 (by omega)
  have aj : atI (s.map D.int) j = some (.int (at0 s j)) := atI_ints j0 (by omega)
  have ak : atI (s.map D.int) k = some (.int (at0 s k)) := atI_ints k0 (by omega)
  walk_at "st"
  refine ⟨_, _, ec', ?_⟩
  walk_at "st"
  rw [ai]
  walk_at "st"
  refine ⟨pe, n, m', R, C', si.1, si.2, ?_⟩
  walk_at "st"
  refine ⟨_, _, ec', ?_⟩
  walk_at "st"
  rw [aj]
  walk_at "st"
  refine ⟨pe, n, m', R, C', sj.1, sj.2, ?_⟩
  walk_at "st"
  refine ⟨_, ef, ?_⟩
  rw [fdK_val]
  have hM' := C'.mks
  cases hf : fdAt F (at0 m' (at0 s i)) (at0 m' (at0 s j)) with
  | none =>
    walk_at "st"
    rw [ak]
    walk_at "st"
    refine ⟨_, ef, by unfold fdK; rw [List.length_map]; omega, ?_⟩
    rw [fdK_put hf]
    refine ⟨b, m', _, ?_, fun x o hx e => by rw [updM_ne (by rintro rfl; rw [h1] at e; cases e)]; exact kp x o hx e, ?_, updM_same, by rw [List.length_append]; exact Nat.succ_le_succ fl, hL, hS, ?_, ?_, hc, hbt, _, _, rfl⟩
    · exact C'.updT ef
    · rw [updM_ne (by rintro rfl; rw [er'] at ef; cases ef)]; exact er'
    · intro p hp
      rcases List.mem_append.mp hp with hp | hp
      · exact hF p hp
      · obtain rfl := List.mem_singleton.mp hp
        refine ⟨s, hs, rfl, fun μ hμ hr => ?_⟩
        have := hS μ hμ hr
        exact ⟨(this _ si.1 si.2).symm, (this _ sj.1 sj.2).symm⟩
    · intro z
      obtain ⟨rfl, hb⟩ := hb z
      refine ⟨rfl, fun u hu ut => ?_⟩
      rw [fdAt_snoc]
      rcases Nat.lt_or_ge u t with lt | ge
      · obtain ⟨p, e, e'⟩ := hb u hu lt
        exact ⟨p, by rw [e]; rfl, e'⟩
      · obtain rfl : u = t := by omega
        rw [hrow, hf, if_pos rfl]
        exact ⟨_, rfl, rfl⟩
  | some p =>
    obtain ⟨hpF, hp1, hp2⟩ := fdAt_some hf
    obtain ⟨r, hr, er2, hμ⟩ := hF p hpF
    have rk := C.rows.at_ hr k0 kk1
    walk_at "st"
    refine ⟨_, _, ec', ?_⟩
    walk_at "st"
    refine ⟨_, ef, ?_⟩
    rw [fdK_val, hf]
    walk_at "st"
    rw [ak]
    walk_at "st"
    refine ⟨pe, n, m', R, C', by rw [er2]; exact rk.1, by rw [er2]; exact rk.2, sk.1, sk.2, fun lo hi M2 hc2 lh C2 kp2 => ?_⟩
    have er2' : M2 pr = some (.lst (R.map dI)) := kp2 _ _ ne er'
    have ef2 : M2 p1 = some (.dctT (fdK F)) := kp2 _ _ hpe ef
    have kp' := kp.trans kp2
    have ap := hM'.at_ _ (by rw [er2]; exact rk.1 : 0 ≤ p.2) (by rw [er2]; exact rk.2)
    have as := hM'.at_ _ sk.1 sk.2
    have hlo : 0 ≤ lo ∧ lo < n ∧ at0 m' lo = lo := by
      rcases hc2 with ⟨rfl, _⟩ | ⟨_, rfl⟩
      · exact ⟨by omega, by rw [er2] at ap ⊢; omega, ap.2.2⟩
      · exact ⟨by omega, by omega, as.2.2⟩
    have hhi : 0 ≤ hi ∧ hi < n ∧ at0 m' hi = hi := by
      rcases hc2 with ⟨_, rfl⟩ | ⟨rfl, _⟩
      · exact ⟨by omega, by omega, as.2.2⟩
      · exact ⟨by omega, by rw [er2] at ap ⊢; omega, ap.2.2⟩
    have hS2 : ∀ μ, Cls' R μ → Resp n m μ → Resp n (mgM m' lo hi) μ := fun μ c1 c2 => by
      have rs := hS μ c1 c2
      refine rs.mg hM'.len ?_
      have u := hμ μ c1 c2
      have z := c1 r hr s hs i j k hp (by rw [u.1, hp1]; exact rs _ si.1 si.2) (by rw [u.2, hp2]; exact rs _ sj.1 sj.2)
      have z1 := rs _ rk.1 rk.2
      have z2 := rs _ sk.1 sk.2
      rw [er2] at hc2
      rcases hc2 with ⟨rfl, rfl⟩ | ⟨rfl, rfl⟩
      · rw [z1, z2, z]
      · rw [z1, z2, z]
    have hL2 : Resp n m (at0 (mgM m' lo hi)) := fun x x0 x1 => by
      have := C.mks.lt x0 x1
      have hl := hM'.len
      rw [mgM_at this.1 (by omega), mgM_at x0 (by omega), hL x x0 x1]
    walk_at "br"
    · intro hlt
      have hlt := of_decide_eq_true hlt
      have hcn := cnt_mg hM' hlo.1 hlt hhi.2.1 hlo.2.2 hhi.2.2
      walk_at "st"
      exact ⟨true, _, F, C2, kp', er2', ef2, Nat.le_succ_of_le fl, hL2, hS2, hF, fun z => (by cases z), by omega, fun _ => by omega, _, _, rfl⟩
    · intro hlt
      have hlt := of_decide_eq_false hlt
      obtain rfl : lo = hi := by omega
      rw [mgM_self] at *
      walk_at "st"
      refine ⟨b, m', F, C2, kp', er2', ef2, Nat.le_succ_of_le fl, hL, hS, hF, fun z => ?_, hc, hbt, _, _, rfl⟩
      obtain ⟨rfl, hb⟩ := hb z
      refine ⟨rfl, fun u hu ut => ?_⟩
      rcases Nat.lt_or_ge u t with lt | ge
      · exact hb u hu lt
      · obtain rfl : u = t := by omega
        rw [hrow]
        exact ⟨p, hf, by omega⟩


def sp_Closing_settle (a : Ad) : SpD := fun ds M Q _ => match ds with
  | [.ref c] => ∃ pe n m R, CloO a.c_Closing M c pe n m R ∧ ∀ m' R' M', CloO a.c_Closing M' c pe n m' R' → Kp2 c pe M M' → Resp n m (at0 m') → (∀ μ, Cls' R μ → Resp n m μ → Resp n m' μ) → Cls' R (at0 m') → SrtS R' → (∀ x, x ∈ R' ↔ x ∈ img (at0 m') R) → RowsNew a.c_Closing M M' c → Q .non M'
  | _ => False

theorem ok_Closing_settle (T : Txt K mg a w) : FnD P w K mg base CX0 4 a.f_Closing_settle a.d_Closing_settle ["self"] (sp_Closing_settle a) := by
  refine okD T.F_Closing_settle sc_Closing_settle (fun ds M Q E h => ?_) (fun cdv A outer s H E hr hgd ds M Q E' h => ?_)
  · unfold sp_Closing_settle at h; split at h <;> first | rfl | exact h.elim
  refine ⟨_, (dss_cons (ds_while PassesOwn.never (dt_val (de_cb (ca_any rfl) (by rfl) T.z_any (by decide +kernel) (da_cons (de_lc rfl sc_Closing_settle.nd (own := [("word", 1)]) (own1 _ 1) (di_kd T.c_PLACES (by rfl)) (blkOk_by (by kernel_rfl)) (fun _ _ _ _ _ => (pg_name (i := 1) sc_Closing_settle.nd rfl (Or.inl rfl))) (fun _ _ _ _ _ => pts_y) (fun _ _ _ _ _ => (de_meth T.X_Closing.cl T.m_Closing_is_joined (ok_Closing_is_joined T) (hr.mono (by omega)) hgd T.B_Closing_is_joined (dv 0) (da_cons (de_kix T.c_PLACES (by rfl) (dv 1)) da_nil)))) da_nil)))
      (dss_one (ds_fldI T.X_Closing.cl T.n_Closing_rows (dv 0) (de_meth0 T.X_Closing.cl T.m_Closing_rooted (ok_Closing_rooted T) (hr.mono (by omega)) hgd T.B_Closing_rooted (dv 0)))))
      (dss_one (ds_fldI T.X_Closing.cl T.n_Closing_rows (dv 0) (de_meth0 T.X_Closing.cl T.m_Closing_rooted (ok_Closing_rooted T) (hr.mono (by omega)) hgd T.B_Closing_rooted (dv 0))))), ?_⟩
  unfold sp_Closing_settle at h
  split at h
  rotate_left
  · exact h.elim
  rename_i c
  obtain ⟨pe, n, m, R, C, q⟩ := h
  walk_at "go"
  refine ⟨fun ρ M' => ∃ m1 R1, CloO a.c_Closing M' c pe n m1 R1 ∧ Kp2 c pe M M' ∧ Resp n m (at0 m1) ∧ (∀ μ, Cls' R μ → Resp n m μ → Resp n m1 μ) ∧ (∀ μ, Resp n m1 μ → Img R1 R μ) ∧ ∃ c1, ρ = [some (.ref c), c1], fun _ M' => cntD (M' pe),
    ⟨m, R, C, .refl, C.mks.resp, fun _ _ h => h, fun _ _ _ => .rfl, _, rfl⟩, ?_⟩
  rintro ρ M1 ⟨m1, R1, C1, kp1, L1, S1, I1, c1, rfl⟩
  walk_at "st"
  refine ⟨fun k acc M' => ∃ bs m2, acc = bs.map D.bl ∧ bs.length = k ∧ CloO a.c_Closing M' c pe n m2 R1 ∧ Kp1 pe M1 M' ∧ Resp n m1 (at0 m2) ∧ (∀ μ, Cls' R1 μ → Resp n m1 μ → Resp n m2 μ) ∧ cntM m2 ≤ cntM m1 ∧ (true ∈ bs → cntM m2 < cntM m1) ∧ (true ∉ bs → m2 = m1 ∧ ∀ t, t < k → ClsAt (plN t).1 (plN t).2.1 (plN t).2.2 R1 m1),
    ⟨[], m1, rfl, rfl, C1, .refl, C1.mks.resp, fun _ _ h => h, Nat.le_refl _, fun h => absurd h List.not_mem_nil, fun _ => ⟨rfl, fun t h => absurd h (Nat.not_lt_zero _)⟩⟩, fun _ _ _ _ _ => trivial, ?_, ?_⟩
  · rintro k acc x M2 hk hx ⟨bs, m2, rfl, hbl, C2, kp2, L2', S2, cl, ct, cf⟩
    obtain ⟨dx, pr, el, ec, _⟩ := C2.ex
    have hk : k < 3 := hk
    obtain rfl | rfl | rfl : k = 0 ∨ k = 1 ∨ k = 2 := by omega
    all_goals
      cases hx
      walk_at "st"
      refine ⟨_, _, ec, ?_⟩
      walk_at "st"
      refine ⟨pe, n, m2, R1, C2, by unfold Pl; decide, fun b m3 M3 C3 kp3 L3 S3 cf3 cl3 ct3 => ?_⟩
      refine ⟨by rw [List.length_map, hbl]; decide, bs ++ [b], m3, by rw [List.map_append]; rfl, by rw [List.length_append, hbl]; rfl, C3, kp2.trans kp3, Resp.of_le C1.mks L2' L3, fun μ c1 c2 => S3 μ c1 (S2 μ c1 c2), by omega, fun hb => ?_, fun hb => ?_⟩
      · rcases List.mem_append.mp hb with hb | hb
        · have := ct hb
          omega
        · have := ct3 (List.mem_singleton.mp hb).symm
          omega
      · have hb1 : true ∉ bs := fun z => hb (List.mem_append_left _ z)
        have hb2 : b = false := by
          cases b with
          | false => rfl
          | true => exact absurd (List.mem_append_right _ List.mem_cons_self) hb
        obtain ⟨rfl, cf⟩ := cf hb1
        obtain ⟨rfl, cf3⟩ := cf3 hb2
        refine ⟨rfl, fun t ht => ?_⟩
        rcases Nat.lt_or_eq_of_le (Nat.le_of_lt_succ ht) with lt | rfl
        · exact cf t lt
        · exact cf3
  rintro acc M2 ⟨bs, m2, rfl, hbl, C2, kp2, L2', S2, cl, ct, cf⟩ p3 h3
  generalize hM3 : updM M2 p3 _ = M3
  obtain ⟨e3, K3, k3⟩ := upd_keep h3 hM3 .refl
  have C3 := C2.keep k3
  have kp3 : Kp2 c pe M1 M3 := (kp2.trans k3.kp).kp2
  obtain ⟨dx, pr, el, ec, ee, _, _, _⟩ := C3.ex
  walk_at "st"
  refine ⟨bs, e3, ?_⟩
  have RW := C3.rows
  have RI := RW.img C3.mks
  have small := C3.small
  walk_at "br"
  · intro hb
    have hb : true ∈ bs := by
      obtain ⟨b, h1, h2⟩ := List.any_eq_true.mp hb
      rw [h2] at h1
      exact h1
    have hlt := ct hb
    walk_at "st"
    refine ⟨_, _, ec, ?_⟩
    walk_at "st"
    refine ⟨pe, n, m2, R1, C3, fun p4 M4 R4 K4 h4 e4 s4 i4 => ?_⟩
    have C4 := C3.keep K4
    have hne : p4 ≠ pe := Ne.symm (ne_none ee h4)
    have R4s : Rows n R4 := fun r hr => RI r ((i4 r).mp hr)
    have R4l : R4.length < 64 := by
      have := nodup_leL s4.1 fun x hx => (i4 x).mp hx
      have h1 := C3.few
      unfold img at this
      rw [List.length_map] at this
      omega
    obtain ⟨dx4, fs4, ec4, fl4, C5, kp5⟩ := C4.setR e4 hne R4s R4l
    walk_at "st"
    refine ⟨dx4, fs4, ec4, fl4, ?_⟩
    refine ⟨⟨m2, R4, C5, kp1.trans (kp3.trans (K4.kp.kp2.trans kp5)), Resp.of_le C.mks L1 L2', fun μ c1 c2 => ?_, fun μ hr x => ?_, _, rfl⟩, ?_⟩
    · have r1 := S1 μ c1 c2
      exact S2 μ (((I1 μ r1).cls C1.rows C.rows).mpr c1) r1
    · have r1 := Resp.of_le C1.mks L2' hr
      have e1 : img μ (img (at0 m2) R1) = img μ R1 := img_img C1.rows hr
      refine (img_mem i4 x).trans ?_
      rw [e1]
      exact I1 μ r1 x
    · show cntD _ < cntD _
      rw [C5.cnt, C1.cnt]
      exact hlt
  · intro hb
    have hb : true ∉ bs := fun z => by
      have : (bs.any fun b => b) = true := List.any_eq_true.mpr ⟨true, z, rfl⟩
      rw [this] at hb
      cases hb
    obtain ⟨rfl, cf⟩ := cf hb
    have hcl := cls_at cf
    have hI := I1 _ C1.mks.resp
    walk_at "st"
    refine ⟨_, _, ec, ?_⟩
    walk_at "st"
    refine ⟨pe, n, m2, R1, C3, fun p4 M4 R4 K4 h4 e4 s4 i4 => ?_⟩
    have C4 := C3.keep K4
    have hne : p4 ≠ pe := Ne.symm (ne_none ee h4)
    have R4s : Rows n R4 := fun r hr => RI r ((i4 r).mp hr)
    have R4l : R4.length < 64 := by
      have := nodup_leL s4.1 fun x hx => (i4 x).mp hx
      have h1 := C3.few
      unfold img at this
      rw [List.length_map] at this
      omega
    obtain ⟨dx4, fs4, ec4, fl4, C5, kp5⟩ := C4.setR e4 hne R4s R4l
    walk_at "st"
    refine ⟨dx4, fs4, ec4, fl4, ?_⟩
    exact q m2 R4 _ C5 (kp1.trans (kp3.trans (K4.kp.kp2.trans kp5))) L1 S1 ((hI.cls C1.rows C.rows).mp hcl) s4 (fun x => (i4 x).trans (hI x)) (rowsNew_set C4 ec4 (kp2_none (kp1.trans kp3) h4 (Ne.symm (ne_none ec h4)) hne))


def sp_Closing_xinit (a : Ad) : SpD := fun ds M Q _ => match ds with
  | [.ref c, .int i, d] => ∃ (n : Nat) (dx : Addr) (R : List (List Int)), i = (n : Int) ∧ M c = some (.ins a.c_Closing dx []) ∧ n ≤ 60 ∧ Rows n R ∧ R.length < 64 ∧ (d = dII R ∨ ∃ p, d = .ref p ∧ M p = some (.lst (R.map dI))) ∧
      ∀ pe m' R' M', CloO a.c_Closing M' c pe n m' R' → Kp1 c M M' → M pe = none → Clo n R m' → SrtS R' → (∀ x, x ∈ R' ↔ x ∈ img (at0 m') R) → RowsNew a.c_Closing M M' c → Q .non M'
  | _ => False

theorem ok_Closing_xinit (T : Txt K mg a w) : FnD P w K mg base CX0 5 a.f_Closing_xinit a.d_Closing_xinit ["self", "many", "entries"] (sp_Closing_xinit a) := by
  refine okD T.F_Closing_xinit sc_Closing_xinit (fun ds M Q E h => ?_) (fun cdv A outer s H E hr hgd ds M Q E' h => ?_)
  · unfold sp_Closing_xinit at h; split at h <;> first | rfl | exact h.elim
  refine ⟨_, (dss_cons (ds_fldI T.X_Closing.cl T.n_Closing_elder (dv 0) (de_listRg rfl (by rfl) T.z_list (drg_1 (by rfl) T.z_range (dv 1))))
      (dss_cons (ds_fldI T.X_Closing.cl T.n_Closing_rows (dv 0) (de_ct ca_list (by rfl) T.z_list PyProof.Rows.boot_list (da_cons (dv 2) da_nil)))
      (dss_one (ds_expr (de_meth0 T.X_Closing.cl T.m_Closing_settle (ok_Closing_settle T) (hr.mono (by omega)) hgd T.B_Closing_settle (dv 0)))))), ?_⟩
  unfold sp_Closing_xinit at h
  split at h
  rotate_left
  · exact h.elim
  rename_i c i d
  obtain ⟨n, dx, R, rfl, ec, hn, hR, hl, hd, q⟩ := h
  have hz : sizeLine = 16777216 := rfl
  walk_at "st"
  refine ⟨RgOk.of_le (by decide) (by omega) (by decide) (by omega), ?_⟩
  rw [rgD_rg, Int.toNat_natCast]
  intro p1 h1
  generalize hM1 : updM M p1 _ = M1
  obtain ⟨e1, K1, k1⟩ := upd_keep h1 hM1 .refl
  have nc1 : c ≠ p1 := ne_none ec h1
  have ec1 := k1 _ _ ec
  walk_at "st"
  refine ⟨_, _, ec1, (show 0 < 1000 by decide), ?_⟩
  have ec2 : updM M1 c (.ins a.c_Closing dx (putFD "elder" (.ref p1) [])) c = some (.ins a.c_Closing dx [("elder", .ref p1)]) := updM_same
  have K2 : Kp1 c M1 (updM M1 c (.ins a.c_Closing dx (putFD "elder" (.ref p1) []))) := fun b o hb e => by rw [updM_ne hb]; exact e
  generalize updM M1 c (.ins a.c_Closing dx (putFD "elder" (.ref p1) [])) = M2 at *
  have e1b := K2 _ _ (Ne.symm nc1) e1
  have fin : ∀ p3 M3, M2 p3 = none → updM M2 p3 (.lst (R.map dI)) = M3 → ∃ M4, M4 = updM M3 c (.ins a.c_Closing dx (putFD "rows" (.ref p3) [("elder", .ref p1)])) ∧ M3 c = some (.ins a.c_Closing dx [("elder", .ref p1)]) ∧ CloO a.c_Closing M4 c p1 n (rg n) R ∧ Kp1 c M M4 := by
    rintro p3 M3 h3 rfl
    have k3 : Keep M2 (updM M2 p3 (.lst (R.map dI))) := Keep.new h3
    have ec3 := k3 _ _ ec2
    have n1 : p1 ≠ p3 := ne_none e1b h3
    have n3 : c ≠ p3 := ne_none ec2 h3
    refine ⟨_, rfl, ec3, ⟨⟨dx, p3, rg n, updM_same, ?_, ?_, Ne.symm n1, El.init n⟩, hR, hl, hn⟩, fun b o hb e => ?_⟩
    · rw [updM_ne (Ne.symm nc1)]; exact k3 _ _ e1b
    · rw [updM_ne (Ne.symm n3)]; exact updM_same
    · rw [updM_ne hb]; exact k3 _ _ (K2 _ _ hb (k1 _ _ e))
  have go : ∀ (p3 : Addr) (M4 : Mp), CloO a.c_Closing M4 c p1 n (rg n) R → Kp1 c M M4 → ∀ m' R' M', CloO a.c_Closing M' c p1 n m' R' → Kp2 c p1 M4 M' → (∀ μ, Cls' R μ → Resp n (rg n) μ → Resp n m' μ) → Cls' R (at0 m') → SrtS R' → (∀ x, x ∈ R' ↔ x ∈ img (at0 m') R) → RowsNew a.c_Closing M4 M' c → Q .non M' :=
    fun p3 M4 C4 kp4 m' R' M' C' kp' S' cl' s' i' rn => q p1 m' R' M' C' (fun b o hb e => kp' _ _ hb (ne_none e h1) (kp4 _ _ hb e)) h1 ⟨C'.mks, fun μ hμ => S' μ hμ .rg, cl'⟩ s' i' fun dx' pe' pr' e' => by
      have h4 := rn _ _ _ e'
      by_cases z : pr' = c
      · obtain ⟨_, _, _, x, _⟩ := C4.ex
        rw [z, x] at h4
        cases h4
      · exact kp4.none h4 z
  rcases hd with rfl | ⟨p, rfl, ep⟩
  all_goals
    walk_at "st"
    try refine ⟨_, K2 _ _ (by rintro rfl; rw [ec] at ep; cases ep) (k1 _ _ ep), ?_⟩
    try walk_at "st"
    intro p3 h3
    obtain ⟨M4, e4, ec3, C4, kp4⟩ := fin p3 _ h3 rfl
    walk_at "st"
    refine ⟨_, _, ec3, (show 1 < 1000 by decide), ?_⟩
    rw [← e4]
    obtain ⟨dx', pr', el', ec', _⟩ := C4.ex
    walk_at "st"
    refine ⟨_, _, ec', ?_⟩
    walk_at "st"
    exact ⟨p1, n, rg n, R, C4, fun m' R' M' C' kp' _ S' cl' s' i' rn => go p3 M4 C4 kp4 m' R' M' C' kp' S' cl' s' i' rn⟩


def optI : Option Int → D
  | some x => .int x
  | none => .non
def sp_Closing_told (a : Ad) : SpD := fun ds M Q _ => match ds with
  | [.ref c, .tup [.int i, .int j, .int k], .int x, .int y] => ∃ pe n m R, CloO a.c_Closing M c pe n m R ∧ Pl i j k ∧ Q (optI (tldR R i j k x y)) M
  | _ => False

theorem ok_Closing_told (T : Txt K mg a w) : FnD P w K mg base CX0 1 a.f_Closing_told a.d_Closing_told ["self", "places", "one", "other"] (sp_Closing_told a) := by
  refine okD T.F_Closing_told sc_Closing_told (fun ds M Q E h => ?_) (fun cdv A outer s H E hr hgd ds M Q E' h => ?_)
  · unfold sp_Closing_told at h; split at h <;> first | rfl | exact h.elim
  refine ⟨_, (dss_cons (ds_for PassesOwn.never rfl (di_seq (de_fldI T.X_Closing.cl T.n_Closing_rows (dv 0))) (dg_name (i := 4) sc_Closing_told.nd rfl (Or.inl rfl))
      (dss_one (ds_if (dt_w (dw_and (dt_cp (cr_eq hr.units) (de_ix (dv 4) (de_ix (dv 1) de_int)) (dv 2)) (dw_and1 (dt_cp (cr_eq hr.units) (de_ix (dv 4) (de_ix (dv 1) de_int)) (dv 3)))))
      (dss_one (ds_ret (de_ix (dv 4) (de_ix (dv 1) de_int))))
      dss_nil)))
      (dss_one (ds_ret de_non))), ?_⟩
  unfold sp_Closing_told at h
  split at h
  rotate_left
  · exact h.elim
  rename_i c i j k x y
  obtain ⟨pe, n, m, R, C, hp, q⟩ := h
  obtain ⟨i0, i1, j0, j1, k0, kk1⟩ := hp.in_
  obtain ⟨dx, pr, el, ec, ee, er, ne, E⟩ := C.ex
  walk_at "st"
  refine ⟨_, _, ec, ?_⟩
  walk_at "st"
  refine ⟨_, er, ?_⟩
  refine .seqL (xs := R) (F := dI) (fun t ρ M' => M' = M ∧ (∀ u (hu : u < R.length), u < t → ¬ (at0 R[u] i = x ∧ at0 R[u] j = y)) ∧ ∃ c4, ρ = [some (.ref c), some (.tup [.int i, .int j, .int k]), some (.int x), some (.int y), c4])
    ⟨rfl, fun _ _ h => absurd h (Nat.not_lt_zero _), _, rfl⟩ (fun _ _ _ _ z => by rw [z.1]; exact er) ?_ ?_
  rotate_left
  · rintro ρ M' ⟨rfl, hno, c4, rfl⟩
    have e : tldR R i j k x y = none := by
      unfold tldR
      rw [List.find?_eq_none.mpr fun r hr => ?_]
      · rfl
      · obtain ⟨u, hu, rfl⟩ := List.getElem_of_mem hr
        have := hno u hu hu
        simpa using this
    rw [e] at q
    walk_at "st"
    exact q
  rintro t ρ M' ht ⟨rfl, hno, c4, rfl⟩
  have hs := List.getElem_mem ht
  generalize hrow : R[t] = s at *
  have hsl := (C.rows s hs).1
  have ai : atI (s.map D.int) i = some (.int (at0 s i)) := atI_ints i0 (by omega)
  have aj : atI (s.map D.int) j = some (.int (at0 s j)) := atI_ints j0 (by omega)
  have ak : atI (s.map D.int) k = some (.int (at0 s k)) := atI_ints k0 (by omega)
  have stay : ¬ (at0 s i = x ∧ at0 s j = y) → (∀ u (hu : u < R.length), u < t + 1 → ¬ (at0 R[u] i = x ∧ at0 R[u] j = y)) := fun hn u hu ut => by
    rcases Nat.lt_or_ge u t with lt | ge
    · exact hno u hu lt
    · obtain rfl : u = t := by omega
      rw [hrow]
      exact hn
  walk_at "st"
  rw [ai]
  walk_at "br"
  · intro h1
    have h1 : at0 s i = x := of_decide_eq_true h1
    walk_at "st"
    rw [aj]
    walk_at "br"
    · intro h2
      have h2 : at0 s j = y := of_decide_eq_true h2
      have e : tldR R i j k x y = some (at0 s k) := by
        unfold tldR
        have : R.find? (fun r => decide (at0 r i = x) && decide (at0 r j = y)) = some s := by
          refine List.find?_eq_some_iff_append.mpr ⟨by simp [h1, h2], R.take t, R.drop (t + 1), ?_, fun r hr => ?_⟩
          · rw [← hrow, ← List.drop_eq_getElem_cons ht, List.take_append_drop]
          · obtain ⟨u, hu, rfl⟩ := List.getElem_of_mem hr
            rw [List.length_take] at hu
            have := hno u (by omega) (by omega)
            rw [List.getElem_take]
            rw [Bool.not_eq_true', Bool.eq_false_iff]
            exact fun z => this (by
              obtain ⟨a, b⟩ := Bool.and_eq_true_iff.mp z
              exact ⟨of_decide_eq_true a, of_decide_eq_true b⟩)
        rw [this]
        rfl
      rw [e] at q
      walk_at "st"
      rw [ak]
      walk_at "st"
      exact q
    · intro h2
      have h2 : at0 s j ≠ y := of_decide_eq_false h2
      walk_at "st"
      exact ⟨stay fun z => h2 z.2, _, rfl⟩
  · intro h1
    have h1 : at0 s i ≠ x := of_decide_eq_false h1
    walk_at "st"
    exact ⟨stay fun z => h1 z.1, _, rfl⟩


theorem updM_none {M : Mp} {c p : Addr} {o : MO} (hc : M c = none) (h : updM M c o p = none) : M p = none := by
  by_cases z : p = c
  · rw [z]; exact hc
  · rw [updM_ne z] at h; exact h
def sp_closing_of (a : Ad) : SpD := fun ds M Q _ => match ds with
  | [.tup [.int i, .tup es, .tup us]] => ∃ (n : Nat) (R : List (List Int)), i = (n : Int) ∧ es = R.map dI ∧ n ≤ 60 ∧ Rows n R ∧ R.length < 64 ∧
      ∀ c m R' M', CloQ a.c_Closing M M' c (m, R') → Clo n R m → SrtS R' → (∀ x, x ∈ R' ↔ x ∈ img (at0 m) R) → Q (.ref c) M'
  | _ => False

theorem ok_closing_of (T : Txt K mg a w) : FnD P w K mg base CX0 7 a.f_closing_of a.d_closing_of ["facts"] (sp_closing_of a) := by
  refine okD T.F_closing_of sc_closing_of (fun ds M Q E h => ?_) (fun cdv A outer s H E hr hgd ds M Q E' h => ?_)
  · unfold sp_closing_of at h; split at h <;> first | rfl | exact h.elim
  refine ⟨_, (dss_one (ds_ret (de_make T.X_Closing (ok_Closing_xinit T) (hr.mono (by omega)) hgd (by rfl) T.B_Closing_xinit (da_cons (de_ix (dv 0) de_int) (da_cons (de_ix (dv 0) de_int) da_nil))))), ?_⟩
  unfold sp_closing_of at h
  split at h
  rotate_left
  · exact h.elim
  rename_i i es us
  obtain ⟨n, R, rfl, rfl, hn, hR, hl, q⟩ := h
  walk_at "st"
  intro c dx hc
  walk_at "st"
  refine ⟨n, dx, R, rfl, updM_same, hn, hR, hl, .inl rfl, fun pe m R' M' C' kp hpe cl s' i' rn => ?_⟩
  refine ⟨rfl, ?_⟩
  refine q c m R' M' (.of C' hc (updM_none hc hpe) (fun dx' pe' pr' e' => updM_none hc (rn _ _ _ e')) (fun b o e => ?_)) cl s' i'
  have ne : b ≠ c := ne_none e hc
  exact kp b o ne (by rw [updM_ne ne]; exact e)


def sp_are_one (a : Ad) : SpD := fun ds M Q _ => match ds with
  | [.ref c, .tup [.int x, .int y]] => ∃ pe n m R, CloO a.c_Closing M c pe n m R ∧ 0 ≤ x ∧ x < (n : Int) ∧ 0 ≤ y ∧ y < (n : Int) ∧ Q (.bl (decide (at0 m x = at0 m y))) M
  | _ => False

theorem ok_are_one (T : Txt K mg a w) : FnD P w K mg base CX0 2 a.f_are_one a.d_are_one ["closing", "pair"] (sp_are_one a) := by
  refine okD T.F_are_one sc_are_one (fun ds M Q E h => ?_) (fun cdv A outer s H E hr hgd ds M Q E' h => ?_)
  · unfold sp_are_one at h; split at h <;> first | rfl | exact h.elim
  refine ⟨_, (dss_one (ds_ret (de_cp (cr_eq hr.units) (de_meth T.X_Closing.cl T.m_Closing_root (ok_Closing_root T) (hr.mono (by omega)) hgd T.B_Closing_root (dv 0) (da_cons (de_ix (dv 1) de_int) da_nil)) (de_meth T.X_Closing.cl T.m_Closing_root (ok_Closing_root T) (hr.mono (by omega)) hgd T.B_Closing_root (dv 0) (da_cons (de_ix (dv 1) de_int) da_nil))))), ?_⟩
  unfold sp_are_one at h
  split at h
  rotate_left
  · exact h.elim
  rename_i c x y
  obtain ⟨pe, n, m, R, C, x0, x1, y0, y1, q⟩ := h
  obtain ⟨dx, pr, el, ec, ee, er, ne, E⟩ := C.ex
  walk_at "st"
  refine ⟨_, _, ec, ?_⟩
  walk_at "st"
  refine ⟨pe, n, m, R, C, x0, x1, ?_⟩
  walk_at "st"
  refine ⟨_, _, ec, ?_⟩
  walk_at "st"
  refine ⟨pe, n, m, R, C, y0, y1, ?_⟩
  walk_at "st"
  exact q


def optN : Option Nat → D
  | some x => .int (x : Int)
  | none => .non
def sp_torn_by (a : Ad) : SpD := fun ds M Q _ => match ds with
  | [.tup [.int i, es, .tup us], .ref c] => ∃ pe n m R U, us = U.map dI ∧ CloO a.c_Closing M c pe n m R ∧ Prs n U ∧ Q (optN (tornN m U)) M
  | _ => False

theorem ok_torn_by (T : Txt K mg a w) : FnD P w K mg base CX0 3 a.f_torn_by a.d_torn_by ["facts", "closing"] (sp_torn_by a) := by
  refine okD T.F_torn_by sc_torn_by (fun ds M Q E h => ?_) (fun cdv A outer s H E hr hgd ds M Q E' h => ?_)
  · unfold sp_torn_by at h; split at h <;> first | rfl | exact h.elim
  refine ⟨_, (dss_cons (ds_for PassesOwn.never rfl (di_enumA (by rfl) T.z_enumerate (da_cons (de_ix (dv 0) de_int) da_nil)) (dg_tup rfl (dgs_cons (dg_name (i := 2) sc_torn_by.nd rfl (Or.inl rfl)) (dgs_cons (dg_name (i := 3) sc_torn_by.nd rfl (Or.inl rfl)) dgs_nil)))
      (dss_one (ds_if (dt_val (de_call (ok_are_one T) (hr.mono (by omega)) hgd (by rfl) T.G_are_one T.F_are_one.kp T.B_are_one (da_cons (dv 1) (da_cons (dv 3) da_nil))))
      (dss_one (ds_ret (dv 2)))
      dss_nil)))
      (dss_one (ds_ret de_non))), ?_⟩
  unfold sp_torn_by at h
  split at h
  rotate_left
  · exact h.elim
  rename_i i es us c
  obtain ⟨pe, n, m, R, U, rfl, C, hU, q⟩ := h
  walk_at "go"
  refine .enmL (xs := U) (F := dI) (fun t ρ M' => M' = M ∧ (∀ u (hu : u < U.length), u < t → ¬ at0 m (at0 U[u] 0) = at0 m (at0 U[u] 1)) ∧ ∃ c2 c3, ρ = [some (.tup [.int i, es, .tup (U.map dI)]), some (.ref c), c2, c3])
    ⟨rfl, fun _ _ h => absurd h (Nat.not_lt_zero _), _, _, rfl⟩ (fun _ _ _ _ _ => trivial) ?_ ?_
  rotate_left
  · rintro ρ M' ⟨rfl, hno, c2, c3, rfl⟩
    have e : tornN m U = none := by
      unfold tornN
      refine List.findIdx?_eq_none_iff.mpr fun r hr => ?_
      obtain ⟨u, hu, rfl⟩ := List.getElem_of_mem hr
      exact decide_eq_false (hno u hu hu)
    rw [e] at q
    walk_at "st"
    exact q
  rintro t ρ M' ht ⟨rfl, hno, c2, c3, rfl⟩
  have hs := List.getElem_mem ht
  obtain ⟨x, y, hxy⟩ : ∃ x y, U[t] = [x, y] := by
    have := (hU _ hs).1
    match U[t], this with
    | [x, y], _ => exact ⟨x, y, rfl⟩
  have hr := (hU _ hs).2
  rw [hxy] at hr
  have hx := hr x List.mem_cons_self
  have hy := hr y (List.mem_cons_of_mem _ List.mem_cons_self)
  rw [hxy]
  walk_at "st"
  refine ⟨pe, n, m, R, C, hx.1, hx.2, hy.1, hy.2, ?_⟩
  walk_at "br"
  · intro hb
    have hb := of_decide_eq_true hb
    have e : tornN m U = some t := by
      unfold tornN
      refine List.findIdx?_eq_some_iff_getElem.mpr ⟨ht, ?_, fun u hu => ?_⟩
      · rw [hxy]; exact decide_eq_true hb
      · have := hno u (by omega) hu
        simpa using this
    rw [e] at q
    walk_at "st"
    exact q
  · intro hb
    have hb := of_decide_eq_false hb
    walk_at "st"
    refine ⟨fun u hu ut => ?_, _, _, rfl⟩
    rcases Nat.lt_or_ge u t with lt | ge
    · exact hno u hu lt
    · obtain rfl : u = t := by omega
      rw [hxy]
      exact hb


def FctO (n : Nat) (R U : List (List Int)) : Prop := n ≤ 60 ∧ Rows n R ∧ R.length < 64 ∧ Prs n U
def sp_clash (a : Ad) : SpD := fun ds M Q _ => match ds with
  | [.tup [.int i, .tup es, .tup us]] => ∃ (n : Nat) (R U : List (List Int)), i = (n : Int) ∧ es = R.map dI ∧ us = U.map dI ∧ FctO n R U ∧ (∀ m, Clo n R m → tornN m U = none) ∧
      ∀ M', Keep M M' → Q .non M'
  | _ => False

theorem ok_clash (T : Txt K mg a w) : FnD P w K mg base CX0 8 a.f_clash a.d_clash ["facts"] (sp_clash a) := by
  refine okD T.F_clash sc_clash (fun ds M Q E h => ?_) (fun cdv A outer s H E hr hgd ds M Q E' h => ?_)
  · unfold sp_clash at h; split at h <;> first | rfl | exact h.elim
  refine ⟨_, (dss_cons (ds_if (dt_cp cr_is (de_call (ok_torn_by T) (hr.mono (by omega)) hgd (by rfl) T.G_torn_by T.F_torn_by.kp T.B_torn_by (da_cons (dv 0) (da_cons (de_call (ok_closing_of T) (hr.mono (by omega)) hgd (by rfl) T.G_closing_of T.F_closing_of.kp T.B_closing_of (da_cons (dv 0) da_nil)) da_nil))) de_non)
      (dss_one (ds_ret de_non))
      dss_nil)
      (dss_cons ds_no
      (dss_one (ds_ret de_non)))), ?_⟩
  unfold sp_clash at h
  split at h
  rotate_left
  · exact h.elim
  rename_i i es us
  obtain ⟨n, R, U, rfl, rfl, rfl, ⟨hn, hR, hl, hU⟩, ht, q⟩ := h
  walk_at "go"
  refine ⟨n, R, rfl, rfl, hn, hR, hl, fun c m R' M1 C1 cl s1 i1 => ?_⟩
  obtain ⟨pe, CO, _⟩ := C1.o
  walk_at "st"
  refine ⟨pe, _, m, R', U, rfl, CO, by show Prs m.length U; rw [cl.mks.len]; exact hU, ?_⟩
  rw [ht m cl]
  walk_at "st"
  exact q _ C1.kp


def sp_closed (a : Ad) : SpD := fun ds M Q _ => match ds with
  | [.tup [.int i, .tup es, .tup us]] => ∃ (n : Nat) (R U : List (List Int)), i = (n : Int) ∧ es = R.map dI ∧ us = U.map dI ∧ FctO n R U ∧ (∀ m, Clo n R m → tornN m U = none) ∧
      ∀ c m R' M', CloQ a.c_Closing M M' c (m, R') → Clo n R m → SrtS R' → (∀ x, x ∈ R' ↔ x ∈ img (at0 m) R) → Q (.ref c) M'
  | _ => False

theorem ok_closed (T : Txt K mg a w) : FnD P w K mg base CX0 9 a.f_closed a.d_closed ["facts"] (sp_closed a) := by
  refine okD T.F_closed sc_closed (fun ds M Q E h => ?_) (fun cdv A outer s H E hr hgd ds M Q E' h => ?_)
  · unfold sp_closed at h; split at h <;> first | rfl | exact h.elim
  refine ⟨_, (dss_cons (ds_set (i := 1) sc_closed.nd rfl (Or.inl rfl) (de_call (ok_clash T) (hr.mono (by omega)) hgd (by rfl) T.G_clash T.F_clash.kp T.B_clash (da_cons (dv 0) da_nil)))
      (dss_cons (ds_if (dt_cp cr_isnot (dv 1) de_non)
      (dss_one ds_no)
      dss_nil)
      (dss_one (ds_ret (de_call (ok_closing_of T) (hr.mono (by omega)) hgd (by rfl) T.G_closing_of T.F_closing_of.kp T.B_closing_of (da_cons (dv 0) da_nil)))))), ?_⟩
  unfold sp_closed at h
  split at h
  rotate_left
  · exact h.elim
  rename_i i es us
  obtain ⟨n, R, U, rfl, rfl, rfl, hF, ht, q⟩ := h
  walk_at "go"
  refine ⟨n, R, U, rfl, rfl, rfl, hF, ht, fun M1 k1 => ?_⟩
  walk_at "st"
  refine ⟨n, R, rfl, rfl, hF.1, hF.2.1, hF.2.2.1, fun c m R' M2 C2 cl s2 i2 => ?_⟩
  exact q c m R' M2 (C2.base k1) cl s2 i2


def sp_is_name : SpD := fun ds M Q _ => match ds with
  | [v] => ∃ f : Fm, v = fD f ∧ Q (.bl f.isNm) M
  | _ => False

theorem ok_is_name (T : Txt K mg a w) : FnD P w K mg base CX0 1 a.f_is_name a.d_is_name ["formula"] sp_is_name := by
  refine okD T.F_is_name sc_is_name (fun ds M Q E h => ?_) (fun cdv A outer s H E hr hgd ds M Q E' h => ?_)
  · unfold sp_is_name at h; split at h <;> first | rfl | exact h.elim
  refine ⟨_, (dss_one (ds_ret (de_isi .int ki_int (by rfl) T.z_isinstance (by decide +kernel) (dv 0) (by rfl) T.z_int (by decide +kernel)))), ?_⟩
  unfold sp_is_name at h
  split at h
  rotate_left
  · exact h.elim
  obtain ⟨f, rfl, q⟩ := h
  cases f with
  | nm i => walk_at "go"; exact q
  | op w x y => walk_at "go"; exact q


def optF : Option Fm → D
  | some f => fD f
  | none => .non
theorem optF_I (o : Option Int) : optF (o.map .nm) = optI o := by cases o <;> rfl
def sp_entry_told (a : Ad) : SpD := fun ds M Q _ => match ds with
  | [.ref c, .tup [.str x, u, v]] => ∃ pe n m R w A B, CloO a.c_Closing M c pe n m R ∧ x = Wd.str w ∧ u = fD A ∧ v = fD B ∧ A.In n ∧ B.In n ∧ Q (optF (entT m R w A B)) M
  | _ => False

theorem ok_entry_told (T : Txt K mg a w) : FnD P w K mg base CX0 2 a.f_entry_told a.d_entry_told ["closing", "formula"] (sp_entry_told a) := by
  refine okD T.F_entry_told sc_entry_told (fun ds M Q E h => ?_) (fun cdv A outer s H E hr hgd ds M Q E' h => ?_)
  · unfold sp_entry_told at h; split at h <;> first | rfl | exact h.elim
  refine ⟨_, (dss_cons (ds_asg (dv 1) (dg_tup rfl (dgs_cons (dg_name (i := 2) sc_entry_told.nd rfl (Or.inl rfl)) (dgs_cons (dg_name (i := 3) sc_entry_told.nd rfl (Or.inl rfl)) (dgs_cons (dg_name (i := 4) sc_entry_told.nd rfl (Or.inl rfl)) dgs_nil)))))
      (dss_cons (ds_if (dt_w (dw_or (dt_not (dt_val (de_call (ok_is_name T) (hr.mono (by omega)) hgd (by rfl) T.G_is_name T.F_is_name.kp T.B_is_name (da_cons (dv 3) da_nil)))) (dw_or1 (dt_not (dt_val (de_call (ok_is_name T) (hr.mono (by omega)) hgd (by rfl) T.G_is_name T.F_is_name.kp T.B_is_name (da_cons (dv 4) da_nil)))))))
      (dss_one (ds_ret de_non))
      dss_nil)
      (dss_one (ds_ret (de_meth T.X_Closing.cl T.m_Closing_told (ok_Closing_told T) (hr.mono (by omega)) hgd T.B_Closing_told (dv 0) (da_cons (de_kix T.c_PLACES (by rfl) (dv 2)) (da_cons (de_meth T.X_Closing.cl T.m_Closing_root (ok_Closing_root T) (hr.mono (by omega)) hgd T.B_Closing_root (dv 0) (da_cons (dv 3) da_nil)) (da_cons (de_meth T.X_Closing.cl T.m_Closing_root (ok_Closing_root T) (hr.mono (by omega)) hgd T.B_Closing_root (dv 0) (da_cons (dv 4) da_nil)) da_nil)))))))), ?_⟩
  unfold sp_entry_told at h
  split at h
  rotate_left
  · exact h.elim
  rename_i c x u v
  obtain ⟨pe, n, m, R, w, A, B, C, rfl, rfl, rfl, hA, hB, q⟩ := h
  obtain ⟨dx, pr, el, ec, ee, er, ne, E⟩ := C.ex
  walk_at "st"
  refine ⟨A, rfl, ?_⟩
  cases A with
  | op _ _ _ => walk_at "st"; exact q
  | nm x =>
  walk_at "st"
  refine ⟨B, rfl, ?_⟩
  cases B with
  | op _ _ _ => walk_at "st"; exact q
  | nm y =>
  have e : optF (entT m R w (.nm x) (.nm y)) = optI (tldR R w.pl.1 w.pl.2.1 w.pl.2.2 (at0 m x) (at0 m y)) := optF_I _
  rw [e] at q
  have hp := w.pl_ok
  cases w
  all_goals
    walk_at "st"
    refine ⟨_, _, ec, ?_⟩
    walk_at "st"
    refine ⟨_, _, ec, ?_⟩
    walk_at "st"
    refine ⟨pe, n, m, R, C, hA.1, hA.2, ?_⟩
    walk_at "st"
    refine ⟨_, _, ec, ?_⟩
    walk_at "st"
    refine ⟨pe, n, m, R, C, hB.1, hB.2, ?_⟩
    walk_at "st"
    exact ⟨pe, n, m, R, C, hp, q⟩


def sp_is_made : SpD := fun ds M Q _ => match ds with
  | [v, .str x] => ∃ (f : Fm) (w : Wd), v = fD f ∧ x = w.str ∧ Q (.bl (isMd f w)) M
  | _ => False

theorem ok_is_made (T : Txt K mg a w) : FnD P w K mg base CX0 2 a.f_is_made a.d_is_made ["formula", "word"] sp_is_made := by
  refine okD T.F_is_made sc_is_made (fun ds M Q E h => ?_) (fun cdv A outer s H E hr hgd ds M Q E' h => ?_)
  · unfold sp_is_made at h; split at h <;> first | rfl | exact h.elim
  refine ⟨_, (dss_one (ds_ret (de_and (de_not (de_call (ok_is_name T) (hr.mono (by omega)) hgd (by rfl) T.G_is_name T.F_is_name.kp T.B_is_name (da_cons (dv 0) da_nil))) (de_one (de_cp (cr_eq hr.units) (de_ix (dv 0) de_int) (dv 1)))))), ?_⟩
  unfold sp_is_made at h
  split at h
  rotate_left
  · exact h.elim
  rename_i v x
  obtain ⟨f, w, rfl, rfl, q⟩ := h
  walk_at "st"
  refine ⟨f, rfl, ?_⟩
  cases f with
  | nm i => walk_at "st"; exact q
  | op v X Y =>
    have e : decide (v.str = w.str) = decide (v = w) := by cases v <;> cases w <;> decide +kernel
    walk_at "st"
    rw [e]
    exact q


def sp_rule_told : SpD := fun ds M Q _ => match ds with
  | [.tup [.str x, u, v]] => ∃ w A B, x = Wd.str w ∧ u = fD A ∧ v = fD B ∧ A.dep ≤ 60 ∧ B.dep ≤ 60 ∧ Q (optF (ruleT w A B)) M
  | _ => False

theorem ok_rule_told (T : Txt K mg a w) : FnD P w K mg base CX0 3 a.f_rule_told a.d_rule_told ["formula"] sp_rule_told := by
  refine okD T.F_rule_told sc_rule_told (fun ds M Q E h => ?_) (fun cdv A outer s H E hr hgd ds M Q E' h => ?_)
  · unfold sp_rule_told at h; split at h <;> first | rfl | exact h.elim
  refine ⟨_, (dss_cons (ds_asg (dv 0) (dg_tup rfl (dgs_cons (dg_name (i := 1) sc_rule_told.nd rfl (Or.inl rfl)) (dgs_cons (dg_name (i := 2) sc_rule_told.nd rfl (Or.inl rfl)) (dgs_cons (dg_name (i := 3) sc_rule_told.nd rfl (Or.inl rfl)) dgs_nil)))))
      (dss_cons (ds_if (dt_cp (cr_eq hr.units) (dv 1) de_str)
      (dss_cons (ds_if (dt_w (dw_and (dt_val (de_call (ok_is_made T) (hr.mono (by omega)) hgd (by rfl) T.G_is_made T.F_is_made.kp T.B_is_made (da_cons (dv 3) (da_cons de_str da_nil)))) (dw_and1 (dt_cp (cr_eqF hr.units) (de_ix (dv 3) de_int) (dv 2)))))
      (dss_one (ds_ret (de_ix (dv 3) de_int)))
      dss_nil)
      (dss_one (ds_ret (de_if (dt_w (dw_and (dt_val (de_call (ok_is_made T) (hr.mono (by omega)) hgd (by rfl) T.G_is_made T.F_is_made.kp T.B_is_made (da_cons (dv 2) (da_cons de_str da_nil)))) (dw_and1 (dt_cp (cr_eqF hr.units) (de_ix (dv 2) de_int) (dv 3))))) (de_ix (dv 2) de_int) de_non))))
      dss_nil)
      (dss_cons (ds_if (dt_cp (cr_eq hr.units) (dv 1) de_str)
      (dss_cons (ds_if (dt_w (dw_and (dt_val (de_call (ok_is_made T) (hr.mono (by omega)) hgd (by rfl) T.G_is_made T.F_is_made.kp T.B_is_made (da_cons (dv 3) (da_cons de_str da_nil)))) (dw_and1 (dt_cp (cr_eqF hr.units) (de_ix (dv 3) de_int) (dv 2)))))
      (dss_one (ds_ret (de_ix (dv 3) de_int)))
      dss_nil)
      (dss_one (ds_ret (de_if (dt_w (dw_and (dt_val (de_call (ok_is_made T) (hr.mono (by omega)) hgd (by rfl) T.G_is_made T.F_is_made.kp T.B_is_made (da_cons (dv 2) (da_cons de_str da_nil)))) (dw_and1 (dt_cp (cr_eqF hr.units) (de_ix (dv 2) de_int) (dv 3))))) (de_ix (dv 2) de_int) de_non))))
      dss_nil)
      (dss_cons (ds_if (dt_w (dw_and (dt_val (de_call (ok_is_made T) (hr.mono (by omega)) hgd (by rfl) T.G_is_made T.F_is_made.kp T.B_is_made (da_cons (dv 3) (da_cons de_str da_nil)))) (dw_and1 (dt_cp (cr_eqF hr.units) (de_ix (dv 3) de_int) (dv 2)))))
      (dss_one (ds_ret (de_ix (dv 3) de_int)))
      dss_nil)
      (dss_one (ds_ret (de_if (dt_w (dw_and (dt_val (de_call (ok_is_made T) (hr.mono (by omega)) hgd (by rfl) T.G_is_made T.F_is_made.kp T.B_is_made (da_cons (dv 2) (da_cons de_str da_nil)))) (dw_and1 (dt_cp (cr_eqF hr.units) (de_ix (dv 2) de_int) (dv 3))))) (de_ix (dv 2) de_int) de_non))))))), ?_⟩
  unfold sp_rule_told at h
  split at h
  rotate_left
  · exact h.elim
  rename_i x u v
  obtain ⟨w, A, B, rfl, rfl, rfl, hA, hB, q⟩ := h
  have dp : ∀ {v : Wd} {X Y : Fm}, (Fm.op v X Y).dep ≤ 60 → X.dep ≤ 60 ∧ Y.dep ≤ 60 := fun h => by simp only [Fm.dep] at h; omega
  cases w with
  | w =>
    walk_at "st"
    refine ⟨B, .b, rfl, rfl, ?_⟩
    cases hb : isMd B .b with
    | true =>
      obtain ⟨X, Y, rfl⟩ := isMd_t hb
      walk_at "st"
      refine ⟨X, A, rfl, rfl, (dp hB).1, hA, ?_⟩
      walk_at "br"
      · intro e
        have e : X = A := of_decide_eq_true e
        have z : ruleT .w A (.op .b X Y) = some Y := by
          have z : ruleB .w A (.op .b X Y) = some Y := if_pos e
          unfold ruleT
          rw [z]
          rfl
        rw [z] at q
        walk_at "st"
        exact q
      · intro e
        have e : X ≠ A := of_decide_eq_false e
        have z : ruleT .w A (.op .b X Y) = ruleA .w A (.op .b X Y) := by
          have z : ruleB .w A (.op .b X Y) = none := if_neg e
          unfold ruleT
          rw [z]
          rfl
        rw [z] at q
        walk_at "st"
        refine ⟨A, .a, rfl, rfl, ?_⟩
        cases ha : isMd A .a with
        | true =>
          obtain ⟨U, V, rfl⟩ := isMd_t ha
          walk_at "st"
          refine ⟨U, (.op .b X Y), rfl, rfl, (dp hA).1, hB, ?_⟩
          walk_at "br"
          · intro e2
            have e2 : U = (.op .b X Y) := of_decide_eq_true e2
            have z2 : ruleA .w (.op .a U V) (.op .b X Y) = some V := if_pos e2
            rw [z2] at q
            walk_at "st"
            exact q
          · intro e2
            have e2 : U ≠ (.op .b X Y) := of_decide_eq_false e2
            have z2 : ruleA .w (.op .a U V) (.op .b X Y) = none := if_neg e2
            rw [z2] at q
            walk_at "st"
            exact q
        | false =>
          rw [ruleA_no ha] at q
          walk_at "st"
          exact q
    | false =>
      rw [ruleB_no hb] at q
      walk_at "st"
      refine ⟨A, .a, rfl, rfl, ?_⟩
      cases ha : isMd A .a with
      | true =>
        obtain ⟨U, V, rfl⟩ := isMd_t ha
        walk_at "st"
        refine ⟨U, B, rfl, rfl, (dp hA).1, hB, ?_⟩
        walk_at "br"
        · intro e2
          have e2 : U = B := of_decide_eq_true e2
          have z2 : ruleA .w (.op .a U V) B = some V := if_pos e2
          rw [z2] at q
          walk_at "st"
          exact q
        · intro e2
          have e2 : U ≠ B := of_decide_eq_false e2
          have z2 : ruleA .w (.op .a U V) B = none := if_neg e2
          rw [z2] at q
          walk_at "st"
          exact q
      | false =>
        rw [ruleA_no ha] at q
        walk_at "st"
        exact q
  | b =>
    walk_at "st"
    refine ⟨B, .w, rfl, rfl, ?_⟩
    cases hb : isMd B .w with
    | true =>
      obtain ⟨X, Y, rfl⟩ := isMd_t hb
      walk_at "st"
      refine ⟨X, A, rfl, rfl, (dp hB).1, hA, ?_⟩
      walk_at "br"
      · intro e
        have e : X = A := of_decide_eq_true e
        have z : ruleT .b A (.op .w X Y) = some Y := by
          have z : ruleB .b A (.op .w X Y) = some Y := if_pos e
          unfold ruleT
          rw [z]
          rfl
        rw [z] at q
        walk_at "st"
        exact q
      · intro e
        have e : X ≠ A := of_decide_eq_false e
        have z : ruleT .b A (.op .w X Y) = ruleA .b A (.op .w X Y) := by
          have z : ruleB .b A (.op .w X Y) = none := if_neg e
          unfold ruleT
          rw [z]
          rfl
        rw [z] at q
        walk_at "st"
        refine ⟨A, .a, rfl, rfl, ?_⟩
        cases ha : isMd A .a with
        | true =>
          obtain ⟨U, V, rfl⟩ := isMd_t ha
          walk_at "st"
          refine ⟨V, (.op .w X Y), rfl, rfl, (dp hA).2, hB, ?_⟩
          walk_at "br"
          · intro e2
            have e2 : V = (.op .w X Y) := of_decide_eq_true e2
            have z2 : ruleA .b (.op .a U V) (.op .w X Y) = some U := if_pos e2
            rw [z2] at q
            walk_at "st"
            exact q
          · intro e2
            have e2 : V ≠ (.op .w X Y) := of_decide_eq_false e2
            have z2 : ruleA .b (.op .a U V) (.op .w X Y) = none := if_neg e2
            rw [z2] at q
            walk_at "st"
            exact q
        | false =>
          rw [ruleA_no ha] at q
          walk_at "st"
          exact q
    | false =>
      rw [ruleB_no hb] at q
      walk_at "st"
      refine ⟨A, .a, rfl, rfl, ?_⟩
      cases ha : isMd A .a with
      | true =>
        obtain ⟨U, V, rfl⟩ := isMd_t ha
        walk_at "st"
        refine ⟨V, B, rfl, rfl, (dp hA).2, hB, ?_⟩
        walk_at "br"
        · intro e2
          have e2 : V = B := of_decide_eq_true e2
          have z2 : ruleA .b (.op .a U V) B = some U := if_pos e2
          rw [z2] at q
          walk_at "st"
          exact q
        · intro e2
          have e2 : V ≠ B := of_decide_eq_false e2
          have z2 : ruleA .b (.op .a U V) B = none := if_neg e2
          rw [z2] at q
          walk_at "st"
          exact q
      | false =>
        rw [ruleA_no ha] at q
        walk_at "st"
        exact q
  | a =>
    walk_at "st"
    refine ⟨B, .w, rfl, rfl, ?_⟩
    cases hb : isMd B .w with
    | true =>
      obtain ⟨X, Y, rfl⟩ := isMd_t hb
      walk_at "st"
      refine ⟨Y, A, rfl, rfl, (dp hB).2, hA, ?_⟩
      walk_at "br"
      · intro e
        have e : Y = A := of_decide_eq_true e
        have z : ruleT .a A (.op .w X Y) = some X := by
          have z : ruleB .a A (.op .w X Y) = some X := if_pos e
          unfold ruleT
          rw [z]
          rfl
        rw [z] at q
        walk_at "st"
        exact q
      · intro e
        have e : Y ≠ A := of_decide_eq_false e
        have z : ruleT .a A (.op .w X Y) = ruleA .a A (.op .w X Y) := by
          have z : ruleB .a A (.op .w X Y) = none := if_neg e
          unfold ruleT
          rw [z]
          rfl
        rw [z] at q
        walk_at "st"
        refine ⟨A, .b, rfl, rfl, ?_⟩
        cases ha : isMd A .b with
        | true =>
          obtain ⟨U, V, rfl⟩ := isMd_t ha
          walk_at "st"
          refine ⟨V, (.op .w X Y), rfl, rfl, (dp hA).2, hB, ?_⟩
          walk_at "br"
          · intro e2
            have e2 : V = (.op .w X Y) := of_decide_eq_true e2
            have z2 : ruleA .a (.op .b U V) (.op .w X Y) = some U := if_pos e2
            rw [z2] at q
            walk_at "st"
            exact q
          · intro e2
            have e2 : V ≠ (.op .w X Y) := of_decide_eq_false e2
            have z2 : ruleA .a (.op .b U V) (.op .w X Y) = none := if_neg e2
            rw [z2] at q
            walk_at "st"
            exact q
        | false =>
          rw [ruleA_no ha] at q
          walk_at "st"
          exact q
    | false =>
      rw [ruleB_no hb] at q
      walk_at "st"
      refine ⟨A, .b, rfl, rfl, ?_⟩
      cases ha : isMd A .b with
      | true =>
        obtain ⟨U, V, rfl⟩ := isMd_t ha
        walk_at "st"
        refine ⟨V, B, rfl, rfl, (dp hA).2, hB, ?_⟩
        walk_at "br"
        · intro e2
          have e2 : V = B := of_decide_eq_true e2
          have z2 : ruleA .a (.op .b U V) B = some U := if_pos e2
          rw [z2] at q
          walk_at "st"
          exact q
        · intro e2
          have e2 : V ≠ B := of_decide_eq_false e2
          have z2 : ruleA .a (.op .b U V) B = none := if_neg e2
          rw [z2] at q
          walk_at "st"
          exact q
      | false =>
        rw [ruleA_no ha] at q
        walk_at "st"
        exact q


def sp_shorter (a : Ad) : SpD := fun ds M Q _ => match ds with
  | [.ref c, v] => ∃ pe n m R f, CloO a.c_Closing M c pe n m R ∧ v = fD f ∧ f.In n ∧ f.dep ≤ 60 ∧ Q (optF (shorT m R f)) M
  | _ => False

theorem ok_shorter (T : Txt K mg a w) : FnD P w K mg base CX0 4 a.f_shorter a.d_shorter ["closing", "formula"] (sp_shorter a) := by
  refine okD T.F_shorter sc_shorter (fun ds M Q E h => ?_) (fun cdv A outer s H E hr hgd ds M Q E' h => ?_)
  · unfold sp_shorter at h; split at h <;> first | rfl | exact h.elim
  refine ⟨_, (dss_cons (ds_if (dt_val (de_call (ok_is_name T) (hr.mono (by omega)) hgd (by rfl) T.G_is_name T.F_is_name.kp T.B_is_name (da_cons (dv 1) da_nil)))
      (dss_one (ds_ret (de_if (dt_cp (cr_eq hr.units) (de_meth T.X_Closing.cl T.m_Closing_root (ok_Closing_root T) (hr.mono (by omega)) hgd T.B_Closing_root (dv 0) (da_cons (dv 1) da_nil)) (dv 1)) de_non (de_meth T.X_Closing.cl T.m_Closing_root (ok_Closing_root T) (hr.mono (by omega)) hgd T.B_Closing_root (dv 0) (da_cons (dv 1) da_nil)))))
      dss_nil)
      (dss_cons (ds_set (i := 2) sc_shorter.nd rfl (Or.inl rfl) (de_call (ok_entry_told T) (hr.mono (by omega)) hgd (by rfl) T.G_entry_told T.F_entry_told.kp T.B_entry_told (da_cons (dv 0) (da_cons (dv 1) da_nil))))
      (dss_one (ds_ret (de_if (dt_cp cr_is (dv 2) de_non) (de_call (ok_rule_told T) (hr.mono (by omega)) hgd (by rfl) T.G_rule_told T.F_rule_told.kp T.B_rule_told (da_cons (dv 1) da_nil)) (dv 2)))))), ?_⟩
  unfold sp_shorter at h
  split at h
  rotate_left
  · exact h.elim
  rename_i c v
  obtain ⟨pe, n, m, R, f, C, rfl, hf, hd, q⟩ := h
  obtain ⟨dx, pr, el, ec, ee, er, ne, E⟩ := C.ex
  walk_at "st"
  refine ⟨f, rfl, ?_⟩
  cases f with
  | nm i =>
    have q : Q (optF (if at0 m i = i then none else some (.nm (at0 m i)))) M := q
    walk_at "st"
    refine ⟨_, _, ec, ?_⟩
    walk_at "st"
    refine ⟨pe, n, m, R, C, hf.1, hf.2, ?_⟩
    walk_at "br"
    · intro e
      have e : at0 m i = i := of_decide_eq_true e
      rw [if_pos e] at q
      walk_at "st"
      exact q
    · intro e
      have e : at0 m i ≠ i := of_decide_eq_false e
      rw [if_neg e] at q
      walk_at "st"
      refine ⟨_, _, ec, ?_⟩
      walk_at "st"
      exact ⟨pe, n, m, R, C, hf.1, hf.2, q⟩
  | op w A B =>
    have q : Q (optF (topT m R w A B)) M := q
    have dp : A.dep ≤ 60 ∧ B.dep ≤ 60 := by simp only [Fm.dep] at hd; omega
    walk_at "st"
    refine ⟨pe, n, m, R, w, A, B, C, rfl, rfl, rfl, hf.1, hf.2, ?_⟩
    unfold topT at q
    cases he : entT m R w A B with
    | none =>
      rw [he] at q
      walk_at "st"
      exact ⟨w, A, B, rfl, rfl, rfl, dp.1, dp.2, q⟩
    | some z =>
      rw [he] at q
      obtain ⟨i, rfl⟩ : ∃ i, z = .nm i := by
        unfold entT at he
        split at he
        · obtain ⟨i, _, rfl⟩ := Option.map_eq_some_iff.mp he
          exact ⟨i, rfl⟩
        · cases he
      walk_at "st"
      exact q


def sp_first_step_ (a : Ad) (k : Nat) : SpD := fun ds M Q _ => match ds with
  | [.ref c, v] => ∃ pe n m R f, CloO a.c_Closing M c pe n m R ∧ v = fD f ∧ f.In n ∧ f.dep ≤ k ∧ f.dep ≤ 60 ∧ Q (optF (stepT m R f)) M
  | _ => False
theorem optF_cases (o : Option Fm) : (o = none ∧ optF o = .non) ∨ (∃ i, o = some (.nm i) ∧ optF o = .int i) ∨ ∃ w x y, o = some (.op w x y) ∧ optF o = .tup [.str w.str, fD x, fD y] := by
  match o with
  | none => exact .inl ⟨rfl, rfl⟩
  | some (.nm i) => exact .inr (.inl ⟨i, rfl, rfl⟩)
  | some (.op w x y) => exact .inr (.inr ⟨w, x, y, rfl, rfl⟩)

def sp_first_step (a : Ad) : Nat → SpD
  | 0 => fun _ _ _ _ => False
  | n + 1 => sp_first_step_ a n
theorem ok_first_step (T : Txt K mg a w) : ∀ n : Nat, FnD P w K mg base CX0 (5 + n) a.f_first_step a.d_first_step ["closing", "formula"] (sp_first_step a n) := by
  intro n
  induction n with
  | zero => exact fnD_no fun _ _ _ _ z => z
  | succ n ih =>
  refine okD (k := 5 + n) T.F_first_step sc_first_step (fun ds M Q E h => ?_) (fun cdv A outer s H E hr hgd ds M Q E' h => ?_)
  · change sp_first_step_ a n ds M Q E at h
    unfold sp_first_step_ at h; split at h <;> first | rfl | exact h.elim
  change sp_first_step_ a n ds M Q E' at h
  refine ⟨_, (dss_cons (ds_if (dt_not (dt_val (de_call (ok_is_name T) (hr.mono (by omega)) hgd (by rfl) T.G_is_name T.F_is_name.kp T.B_is_name (da_cons (dv 1) da_nil))))
      (dss_cons (ds_asg (dv 1) (dg_tup rfl (dgs_cons (dg_name (i := 2) sc_first_step.nd rfl (Or.inl rfl)) (dgs_cons (dg_name (i := 3) sc_first_step.nd rfl (Or.inl rfl)) (dgs_cons (dg_name (i := 4) sc_first_step.nd rfl (Or.inl rfl)) dgs_nil)))))
      (dss_cons (ds_set (i := 5) sc_first_step.nd rfl (Or.inl rfl) (de_call ih (hr.mono (by omega)) hgd (by rfl) T.G_first_step T.F_first_step.kp T.B_first_step (da_cons (dv 0) (da_cons (dv 3) da_nil))))
      (dss_cons (ds_if (dt_cp cr_isnot (dv 5) de_non)
      (dss_one (ds_ret (de_tup (da_cons (dv 2) (da_cons (dv 5) (da_cons (dv 4) da_nil))))))
      dss_nil)
      (dss_cons (ds_set (i := 5) sc_first_step.nd rfl (Or.inl rfl) (de_call ih (hr.mono (by omega)) hgd (by rfl) T.G_first_step T.F_first_step.kp T.B_first_step (da_cons (dv 0) (da_cons (dv 4) da_nil))))
      (dss_one (ds_if (dt_cp cr_isnot (dv 5) de_non)
      (dss_one (ds_ret (de_tup (da_cons (dv 2) (da_cons (dv 3) (da_cons (dv 5) da_nil))))))
      dss_nil))))))
      dss_nil)
      (dss_one (ds_ret (de_call (ok_shorter T) (hr.mono (by omega)) hgd (by rfl) T.G_shorter T.F_shorter.kp T.B_shorter (da_cons (dv 0) (da_cons (dv 1) da_nil)))))), ?_⟩
  unfold sp_first_step_ at h
  split at h
  rotate_left
  · exact h.elim
  rename_i c v
  obtain ⟨pe, nn, m, R, f, C, rfl, hf, hk, hd, q⟩ := h
  walk_at "st"
  refine ⟨f, rfl, ?_⟩
  cases f with
  | nm i =>
    walk_at "st"
    exact ⟨pe, nn, m, R, .nm i, C, rfl, hf, hd, q⟩
  | op w A B =>
    have dp : A.dep ≤ n - 1 ∧ B.dep ≤ n - 1 ∧ A.dep ≤ 60 ∧ B.dep ≤ 60 ∧ 0 < n := by simp only [Fm.dep] at hd hk; omega
    obtain ⟨k, rfl⟩ : ∃ k, n = k + 1 := ⟨n - 1, by omega⟩
    have q : Q (optF (match stepT m R A with
      | some A' => some (.op w A' B)
      | none => match stepT m R B with
        | some B' => some (.op w A B')
        | none => topT m R w A B)) M := q
    walk_at "st"
    refine ⟨pe, nn, m, R, A, C, rfl, hf.1, by omega, by omega, ?_⟩
    rcases optF_cases (stepT m R A) with ⟨e, e'⟩ | ⟨i, e, e'⟩ | ⟨w', x, y, e, e'⟩
    · rw [e'] 
      rw [e] at q
      walk_at "st"
      refine ⟨pe, nn, m, R, B, C, rfl, hf.2, by omega, by omega, ?_⟩
      rcases optF_cases (stepT m R B) with ⟨e, e'⟩ | ⟨i, e, e'⟩ | ⟨w', x, y, e, e'⟩
      · rw [e']
        rw [e] at q
        walk_at "st"
        exact ⟨pe, nn, m, R, .op w A B, C, rfl, hf, hd, q⟩
      · rw [e']
        rw [e] at q
        walk_at "st"
        exact q
      · rw [e']
        rw [e] at q
        walk_at "st"
        exact q
    · rw [e'] 
      rw [e] at q
      walk_at "st"
      exact q
    · rw [e'] 
      rw [e] at q
      walk_at "st"
      exact q


/-- what a formula becomes, move by move -/
def stpL (m : List Int) (R : List (List Int)) : Nat → Fm → List Fm
  | 0, f => [f]
  | k + 1, f => match stepT m R f with
    | some g => f :: stpL m R k g
    | none => [f]
def rstL (m : List Int) (R : List (List Int)) (k : Nat) (f : Fm) : List Fm := match stepT m R f with
  | some g => stpL m R k g
  | none => []
theorem stpL_eq {m : List Int} {R : List (List Int)} {k : Nat} {f : Fm} : stpL m R (k + 1) f = f :: rstL m R k f := by
  unfold stpL rstL
  cases stepT m R f <;> rfl
def sp_steps (a : Ad) : SpD := fun ds M Q _ => match ds with
  | [.ref c, v] => ∃ pe n m R f, CloO a.c_Closing M c pe n m R ∧ Rted n m R ∧ v = fD f ∧ f.In n ∧ f.dep ≤ 8 ∧ f.sz ≤ 20 ∧
      ∀ p M' gs h, Keep M M' → M p = none → M' p = some (.lst ((stpL m R 60 f).map fD)) → stpL m R 60 f = gs ++ [h] → h = NF m R f → (stpL m R 60 f).length ≤ 61 → (∀ g ∈ stpL m R 60 f, g.In n ∧ g.dep ≤ f.dep ∧ g.sz ≤ f.sz) → Q (.ref p) M'
  | _ => False

theorem ok_steps (T : Txt K mg a w) : FnD P w K mg base CX0 15 a.f_steps a.d_steps ["closing", "formula"] (sp_steps a) := by
  refine okD T.F_steps sc_steps (fun ds M Q E h => ?_) (fun cdv A outer s H E hr hgd ds M Q E' h => ?_)
  · unfold sp_steps at h; split at h <;> first | rfl | exact h.elim
  refine ⟨_, (dss_cons (ds_set (i := 2) sc_steps.nd rfl (Or.inl rfl) (de_lst (da_cons (dv 1) da_nil)))
      (dss_cons (ds_set (i := 3) sc_steps.nd rfl (Or.inl rfl) (de_call (ok_first_step T 9) (hr.mono (by omega)) hgd (by rfl) T.G_first_step T.F_first_step.kp T.B_first_step (da_cons (dv 0) (da_cons (dv 1) da_nil))))
      (dss_cons (ds_while PassesOwn.never (dt_cp cr_isnot (dv 3) de_non)
      (dss_cons (ds_expr (de_ml PySem.F.slot_list_append PySem.F.type_list_append mr_append (dv 2) (da_cons (dv 3) da_nil)))
      (dss_one (ds_set (i := 3) sc_steps.nd rfl (Or.inl rfl) (de_call (ok_first_step T 9) (hr.mono (by omega)) hgd (by rfl) T.G_first_step T.F_first_step.kp T.B_first_step (da_cons (dv 0) (da_cons (dv 3) da_nil)))))))
      (dss_one (ds_ret (dv 2)))))), ?_⟩
  unfold sp_steps at h
  split at h
  rotate_left
  · exact h.elim
  rename_i c v
  obtain ⟨pe, n, m, R, f, C, hR, rfl, hf, hd, hz, q⟩ := h
  have hz2 : sizeLine = 16777216 := rfl
  walk_at "st"
  intro p1 h1
  generalize hM1 : updM M p1 _ = M1
  obtain ⟨e1, K1, k1⟩ := upd_keep h1 hM1 .refl
  have e1 : M1 p1 = some (.lst ([f].map fD)) := e1
  have m0 := mzF_le m f
  walk_at "st"
  refine ⟨pe, n, m, R, f, C.keep K1, rfl, hf, by omega, by omega, ?_⟩
  walk_at "go"
  refine ⟨fun ρ M' => ∃ gs h k, ρ = [some (.ref c), some (fD f), some (.ref p1), some (optF (stepT m R h))] ∧ Keep M M' ∧ M' p1 = some (.lst ((gs ++ [h]).map fD)) ∧ stpL m R 60 f = gs ++ h :: rstL m R k h ∧ mzF m h ≤ k + 1 ∧ k + gs.length = 59 ∧ NF m R h = NF m R f ∧ h.In n ∧ h.dep ≤ f.dep ∧ h.sz ≤ f.sz ∧ (∀ g ∈ gs, g.In n ∧ g.dep ≤ f.dep ∧ g.sz ≤ f.sz),
    fun _ M' => match M' p1 with
      | some (.lst ds) => 62 - ds.length
      | _ => 0, ⟨[], f, 59, rfl, K1, e1, stpL_eq, by omega, rfl, rfl, hf, Nat.le_refl _, Nat.le_refl _, fun _ h => absurd h List.not_mem_nil⟩, ?_⟩
  rintro ρ M2 ⟨gs, h, k, rfl, K2, e2, es, hm, hk, hN, hI, hdp, hsz, hgs⟩
  have len2 : ((gs ++ [h]).map fD).length = gs.length + 1 := by rw [List.length_map, List.length_append]; rfl
  have more : ∀ g, stepT m R h = some g → updM M2 p1 (.lst ((gs ++ [h]).map fD ++ [fD g])) p1 = some (.lst ((gs ++ [h] ++ [g]).map fD)) ∧ Keep M (updM M2 p1 (.lst ((gs ++ [h]).map fD ++ [fD g]))) ∧
      ∃ k', stpL m R 60 f = (gs ++ [h]) ++ g :: rstL m R k' g ∧ mzF m g ≤ k' + 1 ∧ k' + (gs ++ [h]).length = 59 ∧ NF m R g = NF m R f ∧ g.In n ∧ g.dep ≤ f.dep ∧ g.sz ≤ f.sz ∧ (∀ x ∈ gs ++ [h], x.In n ∧ x.dep ≤ f.dep ∧ x.sz ≤ f.sz) ∧
        (match updM M2 p1 (.lst ((gs ++ [h]).map fD ++ [fD g])) p1 with | some (.lst ds) => 62 - ds.length | _ => 0) < (match M2 p1 with | some (.lst ds) => 62 - ds.length | _ => 0) := fun g e => by
    obtain ⟨h1', h2', h3', h4'⟩ := step_lt hR hI e
    obtain ⟨k', rfl⟩ : ∃ k', k = k' + 1 := ⟨k - 1, by have := mzF_pos m g; omega⟩
    refine ⟨by rw [updM_same, List.map_append (l₂ := [g])]; rfl, K2.updN h1, k', ?_, by omega, by rw [List.length_append]; show k' + (gs.length + 1) = 59; omega, by rw [← hN]; exact step_NF hR hI e, h2', by omega, by omega, fun x hx => ?_, ?_⟩
    · rw [es]
      unfold rstL
      rw [e]
      show gs ++ h :: stpL m R (k' + 1) g = gs ++ [h] ++ g :: rstL m R k' g
      rw [stpL_eq, List.append_assoc]
      rfl
    · rcases List.mem_append.mp hx with hx | hx
      · exact hgs x hx
      · obtain rfl := List.mem_singleton.mp hx
        exact ⟨hI, hdp, hsz⟩
    · rw [updM_same, e2]
      show 62 - ((gs ++ [h]).map fD ++ [fD g]).length < 62 - ((gs ++ [h]).map fD).length
      rw [List.length_append, len2]
      show 62 - (gs.length + 1 + 1) < _
      omega
  have ez : rstL m R k h = match stepT m R h with
    | some g => stpL m R k g
    | none => [] := rfl
  rcases optF_cases (stepT m R h) with ⟨e, e'⟩ | ⟨i, e, e'⟩ | ⟨w', x, y, e, e'⟩
  · rw [e']
    rw [e] at ez
    rw [ez] at es
    walk_at "st"
    refine q p1 M2 gs h K2 h1 (by rw [es]; exact e2) es ?_ (by rw [es, List.length_append]; show gs.length + 1 ≤ 61; omega) fun g hg => ?_
    · rw [← hN, step_none hR e]
    · rw [es] at hg
      rcases List.mem_append.mp hg with hg | hg
      · exact hgs g hg
      · obtain rfl := List.mem_singleton.mp hg
        exact ⟨hI, hdp, hsz⟩
  · rw [e']
    obtain ⟨e3, K3, k', es', hm', hk', hN', hI', hd', hz', hg', hlt⟩ := more (.nm i) e
    walk_at "st"
    refine ⟨⟨_, e2⟩, ?_⟩
    walk_at "st"
    refine ⟨_, e2, by rw [len2]; omega, ?_⟩
    walk_at "st"
    refine ⟨pe, n, m, R, .nm i, C.keep K3, rfl, hI', Nat.le_trans hd' hd, Nat.le_trans hd' (Nat.le_trans hd (by decide)), ?_⟩
    exact ⟨⟨gs ++ [h], .nm i, k', rfl, K3, e3, es', hm', hk', hN', hI', hd', hz', hg'⟩, hlt⟩
  · rw [e']
    obtain ⟨e3, K3, k', es', hm', hk', hN', hI', hd', hz', hg', hlt⟩ := more (.op w' x y) e
    walk_at "st"
    refine ⟨⟨_, e2⟩, ?_⟩
    walk_at "st"
    refine ⟨_, e2, by rw [len2]; omega, ?_⟩
    walk_at "st"
    refine ⟨pe, n, m, R, .op w' x y, C.keep K3, rfl, hI', Nat.le_trans hd' hd, Nat.le_trans hd' (Nat.le_trans hd (by decide)), ?_⟩
    exact ⟨⟨gs ++ [h], .op w' x y, k', rfl, K3, e3, es', hm', hk', hN', hI', hd', hz', hg'⟩, hlt⟩


/-- facts that do not clash, formulas of few words -/
structure FcG (n : Nat) (R U : List (List Int)) : Prop where
  small : n ≤ 9
  rows : Rows n R
  few : R.length ≤ 12
  prs : Prs n U
  torn : ∀ m, Clo n R m → tornN m U = none
theorem FcG.o {n : Nat} {R U : List (List Int)} (h : FcG n R U) : FctO n R U := ⟨by have := h.small; omega, h.rows, by have := h.few; omega, h.prs⟩
structure FmG (n : Nat) (f : Fm) : Prop where
  in_ : f.In (n : Nat)
  dep : f.dep ≤ 8
  sz : f.sz ≤ 20

/-- facts that do not clash, formulas of few words -/
def sp_same (a : Ad) : SpD := fun ds M Q _ => match ds with
  | [.tup [.int i, .tup es, .tup us], u, v] => ∃ (n : Nat) (R U : List (List Int)) (f g : Fm), i = (n : Int) ∧ es = R.map dI ∧ us = U.map dI ∧ FcG n R U ∧ u = fD f ∧ v = fD g ∧ FmG n f ∧ FmG n g ∧
      ∀ b M', Keep M M' → SmF n R f g b → Q (.bl b) M'
  | _ => False

theorem ok_same (T : Txt K mg a w) : FnD P w K mg base CX0 16 a.f_same a.d_same ["facts", "one", "other"] (sp_same a) := by
  refine okD T.F_same sc_same (fun ds M Q E h => ?_) (fun cdv A outer s H E hr hgd ds M Q E' h => ?_)
  · unfold sp_same at h; split at h <;> first | rfl | exact h.elim
  refine ⟨_, (dss_cons (ds_set (i := 3) sc_same.nd rfl (Or.inl rfl) (de_call (ok_closed T) (hr.mono (by omega)) hgd (by rfl) T.G_closed T.F_closed.kp T.B_closed (da_cons (dv 0) da_nil)))
      (dss_one (ds_ret (de_cp (cr_eqF hr.units) (de_ix (de_call (ok_steps T) (hr.mono (by omega)) hgd (by rfl) T.G_steps T.F_steps.kp T.B_steps (da_cons (dv 3) (da_cons (dv 1) da_nil))) (de_neg de_int)) (de_ix (de_call (ok_steps T) (hr.mono (by omega)) hgd (by rfl) T.G_steps T.F_steps.kp T.B_steps (da_cons (dv 3) (da_cons (dv 2) da_nil))) (de_neg de_int)))))), ?_⟩
  unfold sp_same at h
  split at h
  rotate_left
  · exact h.elim
  rename_i i es us u v
  obtain ⟨n, R, U, f, g, rfl, rfl, rfl, hF, rfl, rfl, hf, hg, q⟩ := h
  walk_at "go"
  refine ⟨n, R, U, rfl, rfl, rfl, hF.o, hF.torn, fun c m R' M1 Cq cl s1 i1 => ?_⟩
  obtain ⟨pe, C1, _⟩ := Cq.o
  have k1 := Cq.kp
  have C1 : CloO a.c_Closing M1 c pe n m R' := cl.mks.len ▸ C1
  have hT := rted_of cl hF.rows i1
  have df := (NF_ok hT hf.in_).2.1
  have dg := (NF_ok hT hg.in_).2.1
  have d1 := hf.dep
  have d2 := hg.dep
  walk_at "st"
  refine ⟨pe, n, m, R', f, C1, hT, rfl, hf.in_, hf.dep, hf.sz, fun p M2 gs h k2 hp ep e eh hl hg' => ?_⟩
  subst eh
  walk_at "st"
  refine ⟨_, ep, ?_⟩
  have e1 : atI ((stpL m R' 60 f).map fD) (-1) = some (fD (NF m R' f)) := by rw [e, List.map_append]; exact atI_last
  refine ixQ_of e1 ?_
  walk_at "st"
  refine ⟨pe, n, m, R', g, C1.keep k2, hT, rfl, hg.in_, hg.dep, hg.sz, fun p2 M3 gs2 h2 k3 hp2 ep2 e2 eh2 hl2 hg2 => ?_⟩
  subst eh2
  walk_at "st"
  refine ⟨_, ep2, ?_⟩
  have e3 : atI ((stpL m R' 60 g).map fD) (-1) = some (fD (NF m R' g)) := by rw [e2, List.map_append]; exact atI_last
  refine ixQ_of e3 ?_
  refine ⟨_, _, rfl, rfl, by omega, by omega, ?_⟩
  exact q _ M3 (k1.trans (k2.trans k3)) (.of cl hF.rows i1 hf.in_ hg.in_)


def sp_l_bag : SpD := fun ds M Q _ => match ds with
  | [.fl xs] => ∃ ns : List Int, xs = ns.map D.int ∧ ns.length ≤ sizeLine ∧ ∀ l M', Bag M' l → Q (.ref l) M'
  | _ => False

theorem ok_l_bag (T : Txt K mg a w) : FnD P w K mg base CX0 1 a.f_l_bag a.d_l_bag ["_law_script"] sp_l_bag := by
  refine okD T.F_l_bag sc_l_bag (fun ds M Q E h => ?_) (fun cdv A outer s H E hr hgd ds M Q E' h => ?_)
  · unfold sp_l_bag at h; split at h <;> first | rfl | exact h.elim
  refine ⟨_, (dss_cons (ds_par (i := 1) (j := 2) rfl sc_l_bag.nd rfl rfl (by decide) rfl rfl (da_cons de_int (da_cons (de_bin br_add de_int (de_bin br_mul de_int (de_cb (ca_len) (by rfl) T.z_len PySem.boot_len (da_cons (dv 0) da_nil)))) da_nil)) (by rfl))
      (dss_cons (ds_for PassesOwn.never rfl (di_seq (de_sl (dv 0) do_none (do_some de_int))) (dg_name (i := 3) sc_l_bag.nd rfl (Or.inl rfl))
      (dss_one (ds_if (dt_cp cr_ge (dv 3) (de_bin br_pow de_int de_int))
      (dss_one (ds_set (i := 1) sc_l_bag.nd rfl (Or.inl rfl) (de_bin br_sub (de_bin br_add (de_bin br_mul (dv 1) de_int) (dv 3)) (de_bin br_pow de_int de_int))))
      (dss_cons (ds_set (i := 2) sc_l_bag.nd rfl (Or.inl rfl) (de_bin br_add (de_bin br_add (de_bin br_mul (dv 2) de_int) (de_bin br_mul de_int (de_cb (ca_abs) (by rfl) T.z_abs (by decide +kernel) (da_cons (dv 3) da_nil)))) (de_ct ca_int (by rfl) T.z_int (by decide +kernel) (da_cons (de_cp cr_lt (dv 3) de_int) da_nil))))
      (dss_one (ds_set (i := 2) sc_l_bag.nd rfl (Or.inl rfl) (de_bin br_mod (de_ct ca_int (by rfl) T.z_int (by decide +kernel) (da_cons (dv 2) da_nil)) de_int)))))))
      (dss_one (ds_ret (de_lst (da_cons (dv 1) (da_cons (dv 2) (da_cons de_int da_nil)))))))), ?_⟩
  unfold sp_l_bag at h
  split at h
  rotate_left
  · exact h.elim
  obtain ⟨ns, rfl, hn, q⟩ := h
  walk_at "go"
  refine ⟨.inl ⟨by decide, by decide⟩, ?_⟩
  walk_at "go"
  intro p hp
  refine ⟨_, updM_same, ?_⟩
  have hz : sizeLine = 16777216 := rfl
  refine ⟨fun _ ρ M1 => M1 p = some (.lst (cutD (ns.map D.int) none (some 63))) ∧ ∃ g s : Int, 0 ≤ s ∧ s < 2 ^ 62 ∧ ∃ c, ρ = [some (.fl (ns.map D.int)), some (.int g), some (.int s), c], ⟨updM_same, 0, _, ?_, ?_, none, rfl⟩, fun i ρ M1 _ z => z.1, ?_, ?_⟩
  · have : (ns.map D.int).length = ns.length := List.length_map ..
    show (0 : Int) ≤ 11236 + 67 * ((ns.map D.int).length : Nat)
    omega
  · have : (ns.map D.int).length = ns.length := List.length_map ..
    show (11236 : Int) + 67 * ((ns.map D.int).length : Nat) < 2 ^ 62
    omega
  · intro i x ρ M1 hi hx hP
    obtain ⟨hM, g, s, h0, h1, c, rfl⟩ := hP
    obtain ⟨n, _, rfl⟩ := List.mem_map.mp (List.mem_of_mem_drop (List.mem_of_mem_take (List.mem_of_getElem? hx)))
    walk_at "go"
    refine ⟨⟨by decide, by decide, by decide⟩, ?_⟩
    walk_at "br"
    · intro _
      walk_at "go"
      refine ⟨.inr ⟨by decide, by decide⟩, ?_⟩
      walk_at "go"
      refine ⟨⟨by decide, by decide, by decide⟩, ?_⟩
      walk_at "go"
      exact ⟨hM, _, s, h0, h1, _, rfl⟩
    · intro _
      walk_at "go"
      refine ⟨.inr ⟨by decide, by decide⟩, ?_⟩
      walk_at "go"
      refine ⟨.inl ⟨by decide, by decide⟩, ?_⟩
      walk_at "go"
      refine ⟨by dsimp only; decide, ?_⟩
      walk_at "go"
      exact ⟨hM, g, _, Int.emod_nonneg _ (by decide), Int.lt_trans (Int.emod_lt_of_pos _ (by decide)) (by decide), _, rfl⟩
  · rintro ρ M1 ⟨hM, g, s, h0, h1, c, rfl⟩
    walk_at "go"
    refine ⟨Nat.le_of_ble_eq_true rfl, fun r hr => ?_⟩
    exact q r _ ⟨g, s, 0, updM_same, h0, h1⟩


def sp_l_draw : SpD := fun ds M Q _ => match ds with
  | [.ref l, .int n] => Bag M l ∧ 0 < n ∧ n < 1073741824 ∧ ∀ k M', 0 ≤ k → k < n → Bag M' l → Ext l M M' → Q (.int k) M'
  | _ => False

theorem ok_l_draw (T : Txt K mg a w) : FnD P w K mg base CX0 1 a.f_l_draw a.d_l_draw ["_law_bag_here", "_law_limit"] sp_l_draw := by
  refine okD T.F_l_draw sc_l_draw (fun ds M Q E h => ?_) (fun cdv A outer s H E hr hgd ds M Q E' h => ?_)
  · unfold sp_l_draw at h; split at h <;> first | rfl | exact h.elim
  refine ⟨_, (dss_cons (ds_if (dt_cp cr_gt (de_ix (dv 0) de_int) de_int)
      (dss_cons (ds_set (i := 2) sc_l_draw.nd rfl (Or.inl rfl) (de_bin br_mod (de_ct ca_int (by rfl) T.z_int (by decide +kernel) (da_cons (de_ix (dv 0) de_int) da_nil)) (dv 1)))
      (dss_cons (ds_asg (de_bin br_fdiv (de_ix (dv 0) de_int) (dv 1)) (dg_sub (dv 0) de_int st_list))
      (dss_one (ds_ret (dv 2)))))
      dss_nil)
      (dss_cons (ds_asg (de_bin br_add (de_ix (dv 0) de_int) de_int) (dg_sub (dv 0) de_int st_list))
      (dss_cons (ds_set (i := 3) sc_l_draw.nd rfl (Or.inl rfl) (de_bin br_add (de_bin br_mul (de_ix (dv 0) de_int) de_int) (de_bin br_mul de_int (de_ix (dv 0) de_int))))
      (dss_cons (ds_asg (de_bin br_mod (de_ct ca_int (by rfl) T.z_int (by decide +kernel) (da_cons (dv 3) da_nil)) de_int) (dg_sub (dv 0) de_int st_list))
      (dss_one (ds_ret (de_bin br_mod (de_bin br_fdiv (de_bin br_mod (de_ct ca_int (by rfl) T.z_int (by decide +kernel) (da_cons (de_bin br_mul (de_ix (dv 0) de_int) (de_ix (dv 0) de_int)) da_nil)) de_int) de_int) (dv 1)))))))), ?_⟩
  unfold sp_l_draw at h
  split at h
  rotate_left
  · exact h.elim
  obtain ⟨⟨g, s, c, e, h0, h1⟩, hn, hn2, q⟩ := h
  walk_at "go"
  refine ⟨_, e, ?_⟩
  walk_at "br"
  · intro _
    walk_at "go"
    refine ⟨_, e, ?_⟩
    walk_at "go"
    refine ⟨hn, ?_⟩
    walk_at "go"
    refine ⟨_, e, ?_⟩
    walk_at "go"
    refine ⟨⟨hn, hn2⟩, ?_⟩
    walk_at "go"
    refine ⟨_, _, e, rfl, ?_⟩
    walk_at "go"
    exact q _ _ (Int.emod_nonneg _ (by omega)) (Int.emod_lt_of_pos _ hn) ⟨_, s, c, updM_same, h0, h1⟩ .upd
  · intro _
    walk_at "go"
    refine ⟨_, e, ?_⟩
    walk_at "go"
    refine ⟨_, _, e, rfl, ?_⟩
    walk_at "go"
    refine ⟨_, updM_same, ?_⟩
    walk_at "go"
    refine ⟨.inr ⟨by decide, by decide⟩, ?_⟩
    walk_at "go"
    refine ⟨_, updM_same, ?_⟩
    walk_at "go"
    refine ⟨.inl ⟨by decide, by decide⟩, ?_⟩
    walk_at "go"
    refine ⟨by dsimp only; decide, ?_⟩
    walk_at "go"
    refine ⟨_, _, updM_same, rfl, ?_⟩
    walk_at "go"
    refine ⟨_, updM_same, ?_⟩
    walk_at "go"
    refine ⟨_, updM_same, ?_⟩
    walk_at "go"
    have b0 : ∀ x : Int, 0 ≤ x % 2305843009213693951 := fun x => Int.emod_nonneg _ (by decide)
    have b1 : ∀ x : Int, x % 2305843009213693951 < 2305843009213693951 := fun x => Int.emod_lt_of_pos _ (by decide)
    refine ⟨.inl ⟨Int.lt_of_lt_of_le (by decide) (b0 _), Int.lt_trans (b1 _) (by decide)⟩, ?_⟩
    walk_at "go"
    refine ⟨by dsimp only; decide, ?_⟩
    walk_at "go"
    refine ⟨⟨by decide, by decide⟩, ?_⟩
    walk_at "go"
    refine ⟨hn, ?_⟩
    walk_at "go"
    exact q _ _ (Int.emod_nonneg _ (by omega)) (Int.emod_lt_of_pos _ hn) ⟨g, _, _, updM_same, b0 _, Int.lt_trans (b1 _) (by decide)⟩ (Ext.upd.trans .upd)


def SeqIs (M : Mp) (l : Addr) (x : D) (ds : List D) : Prop := x = .tup ds ∨ ∃ p, x = .ref p ∧ p ≠ l ∧ M p = some (.lst ds)
def sp_l_pick : SpD := fun ds M Q _ => match ds with
  | [.ref l, x] => Bag M l ∧ ∃ ds, SeqIs M l x ds ∧ 0 < ds.length ∧ ds.length < 1073741824 ∧ ∀ d M', d ∈ ds → Bag M' l → Ext l M M' → Q d M'
  | _ => False

theorem ok_l_pick (T : Txt K mg a w) : FnD P w K mg base CX0 2 a.f_l_pick a.d_l_pick ["_law_bag_here", "_law_items"] sp_l_pick := by
  refine okD T.F_l_pick sc_l_pick (fun ds M Q E h => ?_) (fun cdv A outer s H E hr hgd ds M Q E' h => ?_)
  · unfold sp_l_pick at h; split at h <;> first | rfl | exact h.elim
  refine ⟨_, (dss_one (ds_ret (de_ix (dv 1) (de_call (ok_l_draw T) (hr.mono (by omega)) hgd (by rfl) T.G_l_draw T.F_l_draw.kp T.B_l_draw (da_cons (dv 0) (da_cons (de_cb (ca_len) (by rfl) T.z_len PySem.boot_len (da_cons (dv 1) da_nil)) da_nil)))))), ?_⟩
  unfold sp_l_pick at h
  split at h
  rotate_left
  · exact h.elim
  obtain ⟨hB, ds, hs, h0, h1, q⟩ := h
  rcases hs with rfl | ⟨p, rfl, hp, e⟩
  · walk_at "go"
    refine ⟨hB, by omega, by omega, fun k M' k0 k1 hB' hE => ?_⟩
    walk_at "go"
    obtain ⟨d, hd, e⟩ := atI_mem k0 k1
    exact ixQ_of e (q d M' hd hB' hE)
  · walk_at "go"
    refine ⟨_, e, ?_⟩
    walk_at "go"
    refine ⟨hB, by omega, by omega, fun k M' k0 k1 hB' hE => ?_⟩
    walk_at "go"
    obtain ⟨d, hd, e'⟩ := atI_mem k0 k1
    exact ⟨_, hE p _ hp e, ixQ_of e' (q d M' hd hB' hE)⟩


def sp_l_divisor : SpD := fun ds M Q _ => match ds with
  | [.int a, .int b] => ∃ x y : Nat, a = x ∧ b = y ∧ y ≤ 150 ∧ Q (.int (Nat.gcd x y : Nat)) M
  | _ => False

theorem ok_l_divisor (T : Txt K mg a w) : FnD P w K mg base CX0 1 a.f_l_divisor a.d_l_divisor ["_law_one", "_law_other"] sp_l_divisor := by
  refine okD T.F_l_divisor sc_l_divisor (fun ds M Q E h => ?_) (fun cdv A outer s H E hr hgd ds M Q E' h => ?_)
  · unfold sp_l_divisor at h; split at h <;> first | rfl | exact h.elim
  refine ⟨_, (dss_cons (ds_for PassesOwn.never rfl (di_rg1 (by rfl) T.z_range (da_cons de_int da_nil)) (dg_name (i := 2) sc_l_divisor.nd rfl (Or.inl rfl))
      (dss_cons (ds_if (dt_cp (cr_eq hr.units) (dv 1) de_int)
      (dss_one ds_break)
      dss_nil)
      (dss_one (ds_par (i := 0) (j := 1) rfl sc_l_divisor.nd rfl rfl (by decide) rfl rfl (da_cons (dv 1) (da_cons (de_bin br_mod (de_ct ca_int (by rfl) T.z_int (by decide +kernel) (da_cons (dv 0) da_nil)) (dv 1)) da_nil)) (by rfl)))))
      (dss_one (ds_ret (dv 0)))), ?_⟩
  unfold sp_l_divisor at h
  split at h
  rotate_left
  · exact h.elim
  obtain ⟨x0, y0, rfl, rfl, hy, q⟩ := h
  walk_at "go"
  refine ⟨by decide, by decide, ?_⟩
  refine .rngL (n := 200) (fun k ρ M' => M' = M ∧ ∃ (x y : Nat) (c : Option D), ρ = [some (.int (x : Int)), some (.int (y : Int)), c] ∧ Nat.gcd x y = Nat.gcd x0 y0 ∧ y + k ≤ 150) ⟨rfl, x0, y0, _, rfl, rfl, by omega⟩ (fun _ _ _ _ _ => trivial) ?_ ?_
  · rintro k ρ M1 hk ⟨rfl, x, y, c, rfl, hg, hb⟩
    walk_at "br"
    · intro e
      have e : decide ((y : Int) = 0) = true := by simpa [sg] using e
      have e := of_decide_eq_true e
      obtain rfl : y = 0 := by omega
      walk_at "go"
      rw [← hg, Nat.gcd_zero_right] at q
      exact q
    · intro e
      have e : decide ((y : Int) = 0) = false := by simpa [sg] using e
      have e := of_decide_eq_false e
      have y0 : 0 < y := by omega
      walk_at "go"
      refine ⟨by dsimp only; omega, ?_⟩
      walk_at "go"
      have em : (x : Int) % (y : Int) = ((x % y : Nat) : Int) := (Int.natCast_emod x y).symm
      refine ⟨rfl, y, x % y, _, by rw [← em]; rfl, ?_, ?_⟩
      · rw [← hg, Nat.gcd_comm y, ← Nat.gcd_rec y x, Nat.gcd_comm]
      · have := Nat.mod_lt x y0
        omega
  rintro ρ M1 ⟨rfl, x, y, c, rfl, hg, hb⟩
  omega


def sp_l_turned : SpD := fun ds M Q _ => match ds with
  | [.ref l, .int n] => Bag M l ∧ 0 ≤ n ∧ n ≤ 1000 ∧ ∀ (p : List Int) M', p.Perm (rg n.toNat) → Bg l M M' → Q (dI p) M'
  | _ => False

theorem ok_l_turned (T : Txt K mg a w) : FnD P w K mg base CX0 2 a.f_l_turned a.d_l_turned ["_law_bag_here", "_law_many"] sp_l_turned := by
  refine okD T.F_l_turned sc_l_turned (fun ds M Q E h => ?_) (fun cdv A outer s H E hr hgd ds M Q E' h => ?_)
  · unfold sp_l_turned at h; split at h <;> first | rfl | exact h.elim
  refine ⟨_, (dss_cons (ds_par (i := 2) (j := 3) rfl sc_l_turned.nd rfl rfl (by decide) rfl rfl (da_cons (de_listRg rfl (by rfl) T.z_list (drg_1 (by rfl) T.z_range (dv 1))) (da_cons (de_lst da_nil) da_nil)) (by rfl))
      (dss_cons (ds_for PassesOwn.never rfl (di_rg1 (by rfl) T.z_range (da_cons (dv 1) da_nil)) (dg_name (i := 4) sc_l_turned.nd rfl (Or.inl rfl))
      (dss_one (ds_expr (de_ml PySem.F.slot_list_append PySem.F.type_list_append mr_append (dv 3) (da_cons (de_ml PySem.F.slot_list_pop PySem.F.type_list_pop mr_popAt (dv 2) (da_cons (de_call (ok_l_draw T) (hr.mono (by omega)) hgd (by rfl) T.G_l_draw T.F_l_draw.kp T.B_l_draw (da_cons (dv 0) (da_cons (de_cb (ca_len) (by rfl) T.z_len PySem.boot_len (da_cons (dv 2) da_nil)) da_nil))) da_nil)) da_nil)))))
      (dss_one (ds_ret (de_ct ca_tuple (by rfl) T.z_tuple PyProof.Rows.boot_tuple (da_cons (dv 3) da_nil)))))), ?_⟩
  unfold sp_l_turned at h
  split at h
  rotate_left
  · exact h.elim
  rename_i l n
  obtain ⟨hB, n0, n1, q⟩ := h
  have hz : sizeLine = 16777216 := rfl
  obtain ⟨m, rfl⟩ : ∃ m : Nat, n = m := ⟨n.toNat, by omega⟩
  rw [Int.toNat_natCast] at q
  walk_at "go"
  refine ⟨.of_le (by decide) (by omega) (by decide) n0, fun a ha => ?_⟩
  walk_at "go"
  refine ⟨Nat.le_of_ble_eq_true rfl, fun b hb => ?_⟩
  have hab : a ≠ b := ne_none updM_same hb
  have hb' : M b = none := by rw [updM_ne (Ne.symm hab)] at hb; exact hb
  have hla := hB.ne ha
  have hlb := hB.ne hb'
  walk_at "go"
  refine ⟨by omega, by omega, ?_⟩
  refine .rngL (n := m) (fun k ρ M1 => ∃ (left found : List Int) (c : Option D), ρ = [some (.ref l), some (.int (m : Int)), some (.ref a), some (.ref b), c] ∧ M1 a = some (.lst (left.map D.int)) ∧ M1 b = some (.lst (found.map D.int)) ∧ Bg l M M1 ∧ (left ++ found).Perm (rg m) ∧ left.length + k = m) ⟨rg m, [], _, rfl, ?_, updM_same, ⟨(hB.new ha).new hb, (Ext.refl.updN ha).updN hb'⟩, ?_, ?_⟩ (fun _ _ _ _ _ => trivial) ?_ ?_
  · rw [updM_ne hab, updM_same, rgD_rg]
    rfl
  · rw [List.append_nil]
  · rw [rg_length]
    rfl
  · rintro k ρ M1 hk ⟨left, found, c, rfl, ea, eb, G1, hp, hl⟩
    have hlen : left.length + found.length = m := by
      have := hp.length_eq
      rw [List.length_append, rg_length] at this
      exact this
    walk_at "go"
    refine ⟨⟨_, eb⟩, ?_⟩
    walk_at "go"
    refine ⟨⟨_, ea⟩, ?_⟩
    walk_at "go"
    refine ⟨_, ea, ?_⟩
    walk_at "go"
    refine ⟨G1.bag, by rw [List.length_map]; omega, by rw [List.length_map]; omega, fun j M3 k0 k1 hB3 hE3 => ?_⟩
    rw [List.length_map] at k1
    have G3 := G1.trans ⟨hB3, hE3⟩
    obtain ⟨x, hx⟩ : ∃ x, left[j.toNat]? = some x := ⟨left[j.toNat]'(by omega), List.getElem?_eq_getElem (by omega)⟩
    have ea3 : M3 a = some (.lst (left.map D.int)) := hE3 a _ (Ne.symm hla) ea
    have eb3 : M3 b = some (.lst (found.map D.int)) := hE3 b _ (Ne.symm hlb) eb
    walk_at "go"
    refine ⟨by omega, by omega, _, j.toNat, .int x, ea3, by rw [List.length_map]; exact seqIx k0 (by omega), by rw [List.getElem?_map, hx]; rfl, ?_⟩
    walk_at "go"
    refine ⟨_, by rw [updM_ne (Ne.symm hab)]; exact eb3, by rw [List.length_map]; omega, ?_⟩
    refine ⟨left.eraseIdx j.toNat, found ++ [x], _, rfl, ?_, ?_, (G3.updN ha hla).updN hb' hlb, (mix_step hx).trans hp, ?_⟩
    · rw [updM_ne hab, updM_same, er_map]
    · rw [updM_same, List.map_append]
      rfl
    · rw [List.length_eraseIdx_of_lt (by omega)]
      omega
  rintro ρ M1 ⟨left, found, c, rfl, ea, eb, G1, hp, hl⟩
  obtain rfl : left = [] := List.eq_nil_of_length_eq_zero (by omega)
  walk_at "go"
  refine ⟨_, eb, ?_⟩
  exact q found _ hp G1


def sp_l_turn_over : SpD := fun ds M Q _ => match ds with
  | [.ref l, .ref f, .int n] => ∃ (m : Nat) (M0 : Mp) (t : List (List Int)) (rs : List Addr), n = m ∧ 1 ≤ m ∧ m ≤ 200 ∧ IsTab m t ∧ Grid M0 M rs t ∧ M f = some (.lst (rs.map D.ref)) ∧ f ≠ l ∧ f ∉ rs ∧ M0 l ≠ none ∧ Bag M l ∧ Ext l M0 M ∧
    ∀ t' M', IsTab m t' → Grid M0 M' rs t' → M' f = some (.lst (rs.map D.ref)) → Bag M' l → Ext l M0 M' → Q .non M'
  | _ => False

theorem ok_l_turn_over (T : Txt K mg a w) : FnD P w K mg base CX0 2 a.f_l_turn_over a.d_l_turn_over ["_law_bag_here", "_law_rows", "_law_size"] sp_l_turn_over := by
  refine okD T.F_l_turn_over sc_l_turn_over (fun ds M Q E h => ?_) (fun cdv A outer s H E hr hgd ds M Q E' h => ?_)
  · unfold sp_l_turn_over at h; split at h <;> first | rfl | exact h.elim
  refine ⟨_, (dss_cons (ds_asg (de_tup (da_cons (de_call (ok_l_draw T) (hr.mono (by omega)) hgd (by rfl) T.G_l_draw T.F_l_draw.kp T.B_l_draw (da_cons (dv 0) (da_cons (dv 2) da_nil))) (da_cons (de_call (ok_l_draw T) (hr.mono (by omega)) hgd (by rfl) T.G_l_draw T.F_l_draw.kp T.B_l_draw (da_cons (dv 0) (da_cons (dv 2) da_nil))) da_nil))) (dg_tup rfl (dgs_cons (dg_name (i := 3) sc_l_turn_over.nd rfl (Or.inr rfl)) (dgs_cons (dg_name (i := 4) sc_l_turn_over.nd rfl (Or.inl rfl)) dgs_nil))))
      (dss_cons (ds_set (i := 5) sc_l_turn_over.nd rfl (Or.inr rfl) (de_call (ok_l_draw T) (hr.mono (by omega)) hgd (by rfl) T.G_l_draw T.F_l_draw.kp T.B_l_draw (da_cons (dv 0) (da_cons (dv 2) da_nil))))
      (dss_one (ds_if (dt_cp (cr_ne hr.units) (dv 3) (dv 4))
      (dss_cons (ds_set (i := 6) sc_l_turn_over.nd rfl (Or.inl rfl) (de_ix (de_ix (dv 1) (dv 3)) (dv 5)))
      (dss_one (ds_for PassesOwn.never rfl (di_rg1 (by rfl) T.z_range (da_cons (dv 2) da_nil)) (dg_name (i := 7) sc_l_turn_over.nd rfl (Or.inl rfl))
      (dss_cons (ds_asg (de_tup (da_cons (de_ix (de_ix (dv 1) (dv 4)) (dv 5)) (da_cons (de_ix (de_ix (dv 1) (dv 3)) (dv 5)) da_nil))) (dg_tup rfl (dgs_cons (dg_sub (de_ix (dv 1) (dv 3)) (dv 5) st_list) (dgs_cons (dg_sub (de_ix (dv 1) (dv 4)) (dv 5) st_list) dgs_nil))))
      (dss_cons (ds_if (dt_cp (cr_eq hr.units) (de_ix (de_ix (dv 1) (dv 3)) (dv 5)) (dv 6))
      (dss_one ds_break)
      dss_nil)
      (dss_one (ds_set (i := 5) sc_l_turn_over.nd rfl (Or.inr rfl) (de_ix (de_lc rfl sc_l_turn_over.nd (own := [("_law_k", 8)]) (own1 _ 8) (di_rg1 (by rfl) T.z_range (da_cons (dv 2) da_nil)) (blkOk_by (by kernel_rfl)) (fun _ _ _ _ _ => (pg_name (i := 8) sc_l_turn_over.nd rfl (Or.inl rfl))) (fun _ _ _ _ _ => (pts_1 (dt_w (dw_and (dt_cp (cr_ne hr.units) (dv 8) (dv 5)) (dw_and1 (dt_cp (cr_eq hr.units) (de_ix (de_ix (dv 1) (dv 3)) (dv 8)) (de_ix (de_ix (dv 1) (dv 3)) (dv 5)))))))) (fun _ _ _ _ _ => (dv 8))) de_int))))))))
      dss_nil)))), ?_⟩
  unfold sp_l_turn_over at h
  split at h
  rotate_left
  · exact h.elim
  rename_i l f n
  obtain ⟨m, M0, t, rs, rfl, m0, m1, hT, g, hf, hfl, hfr, hl0, hB, hE, q⟩ := h
  have hz : sizeLine = 16777216 := rfl
  walk_at "go"
  refine ⟨hB, by omega, by omega, fun k1 M1 k10 k11 hB1 hE1 => ?_⟩
  walk_at "go"
  refine ⟨hB1, by omega, by omega, fun k2 M2 k20 k21 hB2 hE2 => ?_⟩
  walk_at "st"
  refine ⟨hB2, by omega, by omega, fun k3 M3 k30 k31 hB3 hE3 => ?_⟩
  have EA : Ext l M M3 := (hE1.trans hE2).trans hE3
  have g3 := g.ext EA hl0
  have hf3 : M3 f = some (.lst (rs.map D.ref)) := EA f _ hfl hf
  have hE3' := hE.trans EA
  have tl := hT.len
  have lrs : rs.length = m := by rw [g3.len, tl]
  clear g hf hE hB hE1 hE2 hE3 EA
  walk_at "br"
  rotate_left
  · intro _
    walk_at "go"
    exact q t M3 hT g3 hf3 hB3 hE3'
  intro hc1
  have c1 : k1.toNat ≠ k2.toNat := by
    have : k1 ≠ k2 := by simpa [sg] using hc1
    omega
  obtain ⟨a1, u0, ha1, hu0, ea1⟩ := g3.get (i := k1.toNat) (by omega)
  obtain ⟨a2, v0, ha2, hv0, ea2⟩ := g3.get (i := k2.toNat) (by omega)
  have pu0 := hT.row u0 (List.mem_of_getElem? hu0)
  have pv0 := hT.row v0 (List.mem_of_getElem? hv0)
  have lu0 : u0.length = m := by rw [pu0.length_eq, rg_length]
  have ix1 : atI (rs.map D.ref) k1 = some (.ref a1) := by rw [atI_nn k10 (by rw [List.length_map]; omega), List.getElem?_map, ha1]; rfl
  have ix2 : atI (rs.map D.ref) k2 = some (.ref a2) := by rw [atI_nn k20 (by rw [List.length_map]; omega), List.getElem?_map, ha2]; rfl
  have iw : ∀ (w : List Int) (k : Int) (x : Int), 0 ≤ k → w[k.toNat]? = some x → atI (w.map D.int) k = some (.int x) := fun w k x h0 h1 => by
    have := (List.getElem?_eq_some_iff.mp h1).1
    rw [atI_nn h0 (by rw [List.length_map]; omega), List.getElem?_map, h1]; rfl
  have ra1 := List.mem_of_getElem? ha1
  have ra2 := List.mem_of_getElem? ha2
  have a12 : a2 ≠ a1 := fun e => by
    subst e
    obtain ⟨q1, e1⟩ := List.getElem?_eq_some_iff.mp ha1
    obtain ⟨q2, e2⟩ := List.getElem?_eq_some_iff.mp ha2
    have hp := List.pairwise_iff_getElem.mp g3.nd
    rcases Nat.lt_or_gt_of_ne c1 with z | z
    · exact hp _ _ q1 q2 z (by rw [e1, e2])
    · exact hp _ _ q2 q1 z (by rw [e1, e2])
  have fa1 : f ≠ a1 := fun e => hfr (e ▸ ra1)
  have fa2 : f ≠ a2 := fun e => hfr (e ▸ ra2)
  obtain ⟨b, hb⟩ : ∃ b, u0[k3.toNat]? = some b := ⟨_, List.getElem?_eq_getElem (by omega)⟩
  walk_at "go"
  refine ⟨_, hf3, ixQ_of ix1 ?_⟩
  walk_at "go"
  refine ⟨_, ea1, ixQ_of (iw _ _ _ k30 hb) ?_⟩
  walk_at "go"
  refine ⟨by omega, by omega, ?_⟩
  have R0 := Ring.start pu0 pv0 hb
  refine .rngL (n := m) (fun k ρ M' => ∃ (u v : List Int) (S : List Nat) (c : Int) (x : Int) (c7 c8 : Option D), ρ = [some (.ref l), some (.ref f), some (.int (m : Int)), some (.int k1), some (.int k2), some (.int c), some (.int b), c7, c8] ∧ 0 ≤ c ∧ S.length = k ∧ Ring m u0 v0 u v S c.toNat b x ∧ Grid M0 M' rs ((t.set k1.toNat u).set k2.toNat v) ∧ M' f = some (.lst (rs.map D.ref)) ∧ Bag M' l ∧ Ext l M0 M')
    ⟨u0, v0, [], k3, b, _, _, rfl, k30, rfl, R0, ?_, hf3, hB3, hE3'⟩ (fun _ _ _ _ _ => trivial) ?_ ?_
  · rw [set_at hu0, set_at hv0]
    exact g3
  · rintro k ρ M4 hk ⟨u, v, S, c, x, c7, c8, rfl, c0, hS, R, g4, hf4, hB4, hE4⟩
    have cn := R.cn
    have gu : ((t.set k1.toNat u).set k2.toNat v)[k1.toNat]? = some u := by
      rw [List.getElem?_set_ne (Ne.symm c1), List.getElem?_set_self (by omega)]
    have gv : ((t.set k1.toNat u).set k2.toNat v)[k2.toNat]? = some v := List.getElem?_set_self (by rw [List.length_set]; omega)
    have eu := g4.at_ _ _ _ ha1 gu
    have ev := g4.at_ _ _ _ ha2 gv
    obtain ⟨y, hy, hy0⟩ := R.vy
    have hx := R.ux
    walk_at "go"
    refine ⟨_, hf4, ixQ_of ix2 ?_⟩
    walk_at "go"
    refine ⟨_, ev, ixQ_of (iw _ _ _ c0 hy) ?_⟩
    walk_at "go"
    refine ⟨_, hf4, ixQ_of ix1 ?_⟩
    walk_at "go"
    refine ⟨_, eu, ixQ_of (iw _ _ _ c0 hx) ?_⟩
    walk_at "st"
    refine ⟨_, hf4, ixQ_of ix1 ?_⟩
    walk_at "go"
    refine ⟨_, c.toNat, eu, by rw [List.length_map]; exact ixN_nn c0 (by rw [R.lu]; omega), ?_⟩
    walk_at "go"
    refine ⟨_, by rw [updM_ne fa1]; exact hf4, ixQ_of ix2 ?_⟩
    walk_at "go"
    refine ⟨_, c.toNat, by rw [updM_ne a12]; exact ev, by rw [List.length_map]; exact ixN_nn c0 (by rw [R.lv]; omega), ?_⟩
    rw [map_set_int, map_set_int]
    have g5 := (g4.set (r := u.set c.toNat y) ha1).set (r := v.set c.toNat x) ha2
    have et : (((t.set k1.toNat u).set k2.toNat v).set k1.toNat (u.set c.toNat y)).set k2.toNat (v.set c.toNat x) = (t.set k1.toNat (u.set c.toNat y)).set k2.toNat (v.set c.toNat x) := by
      rw [List.set_comm _ _ (Ne.symm c1), List.set_set, List.set_set]
    rw [et] at g5
    have hf5 : updM (updM M4 a1 (.lst ((u.set c.toNat y).map D.int))) a2 (.lst ((v.set c.toNat x).map D.int)) f = some (.lst (rs.map D.ref)) := by rw [updM_ne fa2, updM_ne fa1]; exact hf4
    have hB5 := (hB4.upd (o := .lst ((u.set c.toNat y).map D.int)) (g4.ne hl0 ra1)).upd (o := .lst ((v.set c.toNat x).map D.int)) (g4.ne hl0 ra2)
    have hE5 := (hE4.updN (o := .lst ((u.set c.toNat y).map D.int)) (g4.new a1 ra1)).updN (o := .lst ((v.set c.toNat x).map D.int)) (g4.new a2 ra2)
    have eu5 := g5.at_ _ _ (u.set c.toNat y) ha1 (by rw [List.getElem?_set_ne (Ne.symm c1), List.getElem?_set_self (by omega)])
    generalize updM (updM M4 a1 (.lst ((u.set c.toNat y).map D.int))) a2 (.lst ((v.set c.toNat x).map D.int)) = M5 at *
    have wl : (u.set c.toNat y).length = m := by rw [List.length_set]; exact R.lu
    have wc : (u.set c.toNat y)[c.toNat]? = some y := List.getElem?_set_self (by rw [R.lu]; omega)
    have Rn := fun k hk hky => R.next (k := k) pv0 hy hk hky
    have Rc := fun (e : y = b) => R.close (e ▸ hy)
    have Rm := fun hb => R.more hy hb
    walk_at "go"
    refine ⟨_, hf5, ixQ_of ix1 ?_⟩
    walk_at "go"
    refine ⟨_, eu5, ixQ_of (iw _ _ _ c0 wc) ?_⟩
    walk_at "br"
    · intro e
      have e : decide (y = b) = true := by simpa [sg] using e
      obtain rfl : y = b := of_decide_eq_true e
      walk_at "go"
      exact q _ _ ((Rc rfl).ok hT c1 hu0 hv0) g5 hf5 hB5 hE5
    intro e
    have e : decide (y = b) = false := by simpa [sg] using e
    have hyb := of_decide_eq_false e
    obtain ⟨kk, kk1, kk2, kk3⟩ := Rm hyb
    generalize u.set c.toNat y = w at *
    walk_at "go"
    refine ⟨by omega, by omega, ?_⟩
    refine .filtR (n := m) (fun i => !decide (i = c) && decide (at0 w i = y)) D.int (fun M' => M' = M5) (by omega) rfl (fun _ _ => trivial) ?_ ?_
    · rintro i _ i0 i1 rfl Q1 Q2 h1 h2
      obtain ⟨z, hz'⟩ : ∃ z, w[i.toNat]? = some z := ⟨_, List.getElem?_eq_getElem (by omega)⟩
      have ez : at0 w i = z := by
        unfold at0
        rw [hz']
        rfl
      rw [ez] at h1 h2
      walk_at "go"
      cases hic : decide (i = c) with
      | true =>
        rw [hic] at h2
        walk_at "go"
        exact h2 rfl _ rfl
      | false =>
        rw [hic] at h1 h2
        walk_at "go"
        refine ⟨_, hf5, ixQ_of ix1 ?_⟩
        walk_at "go"
        refine ⟨_, eu5, ixQ_of (iw _ _ _ i0 hz') ?_⟩
        walk_at "go"
        refine ⟨_, hf5, ixQ_of ix1 ?_⟩
        walk_at "go"
        refine ⟨_, eu5, ixQ_of (iw _ _ _ c0 wc) ?_⟩
        cases hzy : decide (z = y) with
        | true =>
          rw [hzy] at h1
          walk_at "go"
          rw [hzy]
          walk_at "go"
          exact h1 rfl _ rfl
        | false =>
          rw [hzy] at h2
          walk_at "go"
          rw [hzy]
          walk_at "go"
          exact h2 rfl _ rfl
    rintro M6 p rfl hp
    obtain ⟨i, hi, ei⟩ : ∃ i, i ∈ (rg m).filter (fun i => !decide (i = c) && decide (at0 w i = y)) ∧ atI (((rg m).filter (fun i => !decide (i = c) && decide (at0 w i = y))).map D.int) 0 = some (.int i) := by
      have hk' : (kk : Int) ∈ (rg m).filter (fun i => !decide (i = c) && decide (at0 w i = y)) := by
        refine List.mem_filter.mpr ⟨rg_mem.mpr ⟨by omega, by omega⟩, ?_⟩
        have e1 : decide ((kk : Int) = c) = false := decide_eq_false (by omega)
        have e2 : at0 w (kk : Int) = y := by
          unfold at0
          rw [Int.toNat_natCast, kk3]
          rfl
        rw [e1, e2]
        simp
      match hL : (rg m).filter (fun i => !decide (i = c) && decide (at0 w i = y)), hk' with
      | i :: L, _ => exact ⟨i, List.mem_cons_self, atI0⟩
    obtain ⟨hi1, hi2⟩ := List.mem_filter.mp hi
    have hi1 := rg_mem.mp hi1
    simp only [Bool.and_eq_true, Bool.not_eq_true', decide_eq_false_iff_not, decide_eq_true_eq] at hi2
    have hiy : w[i.toNat]? = some y := by
      obtain ⟨z, hz'⟩ : ∃ z, w[i.toNat]? = some z := ⟨_, List.getElem?_eq_getElem (by omega)⟩
      rw [hz', ← hi2.2]
      unfold at0
      rw [hz']
      rfl
    walk_at "go"
    refine ⟨_, updM_same, ixQ_of ei ?_⟩
    have hne : i.toNat ≠ c.toNat := fun e => hi2.1 ((Int.toNat_of_nonneg hi1.1).symm.trans ((congrArg (fun n : Nat => (n : Int)) e).trans (Int.toNat_of_nonneg c0)))
    exact ⟨w, _, _, i, y, _, _, rfl, hi1.1, by rw [List.length_cons, hS], Rn _ hne hiy, g5.add hp, by rw [updM_ne (ne_none hf5 hp)]; exact hf5, hB5.new hp, hE5.trans (Ext.new hp)⟩
  rintro ρ M4 ⟨u, v, S, c, x, c7, c8, rfl, c0, hS, R, g4, hf4, hB4, hE4⟩
  have := R.few
  omega


def sp_l_table : SpD := fun ds M Q _ => match ds with
  | [.ref l, .int n] => Bag M l ∧ 1 ≤ n ∧ n ≤ 150 ∧ ∀ t M', IsTab n.toNat t → Bag M' l → Ext l M M' → Q (dII t) M'
  | _ => False

theorem ok_l_table (T : Txt K mg a w) : FnD P w K mg base CX0 3 a.f_l_table a.d_l_table ["_law_bag_here", "_law_size"] sp_l_table := by
  refine okD T.F_l_table sc_l_table (fun ds M Q E h => ?_) (fun cdv A outer s H E hr hgd ds M Q E' h => ?_)
  · unfold sp_l_table at h; split at h <;> first | rfl | exact h.elim
  refine ⟨_, (dss_cons (ds_set (i := 2) sc_l_table.nd rfl (Or.inr rfl) (de_call (ok_l_pick T) (hr.mono (by omega)) hgd (by rfl) T.G_l_pick T.F_l_pick.kp T.B_l_pick (da_cons (dv 0) (da_cons (de_lc rfl sc_l_table.nd (own := [("_law_own", 6)]) (own1 _ 6) (di_rg2 (by rfl) T.z_range (da_cons de_int (da_cons (de_bin br_add (dv 1) de_int) da_nil))) (blkOk_by (by kernel_rfl)) (fun _ _ _ _ _ => (pg_name (i := 6) sc_l_table.nd rfl (Or.inl rfl))) (fun _ _ _ _ _ => (pts_1 (dt_cp (cr_eq hr.units) (de_call (ok_l_divisor T) (hr.mono (by omega)) hgd (by rfl) T.G_l_divisor T.F_l_divisor.kp T.B_l_divisor (da_cons (dv 6) (da_cons (dv 1) da_nil))) de_int))) (fun _ _ _ _ _ => (dv 6))) da_nil))))
      (dss_cons (ds_set (i := 3) sc_l_table.nd rfl (Or.inr rfl) (de_lc rfl sc_l_table.nd (own := [("_law_turn", 5)]) (own1 _ 5) (di_rg1 (by rfl) T.z_range (da_cons de_int da_nil)) (blkOk_by (by kernel_rfl)) (fun _ _ _ _ _ => (pg_name (i := 5) sc_l_table.nd rfl (Or.inl rfl))) (fun _ _ _ _ _ => pts_y) (fun _ _ _ _ _ => (de_call (ok_l_turned T) (hr.mono (by omega)) hgd (by rfl) T.G_l_turned T.F_l_turned.kp T.B_l_turned (da_cons (dv 0) (da_cons (dv 1) da_nil))))))
      (dss_cons (ds_setLc (i := 4) rfl sc_l_table.nd rfl rfl (sw_true rfl rfl rfl (by decide +kernel)) (own := [("_law_x", 7)]) (own1 _ 7) (di_rg1 (by rfl) T.z_range (da_cons (dv 1) da_nil)) (blkOk_by (by kernel_rfl)) (fun _ _ _ _ _ => (pg_name (i := 7) sc_l_table.nd rfl (Or.inr rfl))) (fun _ _ _ _ _ => pts_y) (fun _ _ _ _ _ => (de_lc rfl sc_l_table.nd (own := [("_law_y", 8)]) (own1 _ 8) (di_rg1 (by rfl) T.z_range (da_cons (dv 1) da_nil)) (blkOk_by (by kernel_rfl)) (fun _ _ _ _ _ => (pg_name (i := 8) sc_l_table.nd rfl (Or.inl rfl))) (fun _ _ _ _ _ => pts_y) (fun _ _ _ _ _ => (de_ix (de_ix (dv 3) de_int) (de_bin br_mod (de_ct ca_int (by rfl) T.z_int (by decide +kernel) (da_cons (de_bin br_add (de_ix (de_ix (dv 3) de_int) (dv 7)) (de_bin br_mul (dv 2) (de_ix (de_ix (dv 3) de_int) (dv 8)))) da_nil)) (dv 1)))))))
      (dss_cons (ds_for PassesOwn.never rfl (di_rg1 (by rfl) T.z_range (da_cons (de_call (ok_l_draw T) (hr.mono (by omega)) hgd (by rfl) T.G_l_draw T.F_l_draw.kp T.B_l_draw (da_cons (dv 0) (da_cons (de_bin br_mul de_int (dv 1)) da_nil))) da_nil)) (dg_name (i := 5) sc_l_table.nd rfl (Or.inl rfl))
      (dss_one (ds_expr (de_call (ok_l_turn_over T) (hr.mono (by omega)) hgd (by rfl) T.G_l_turn_over T.F_l_turn_over.kp T.B_l_turn_over (da_cons (dv 0) (da_cons (dv 4) (da_cons (dv 1) da_nil)))))))
      (dss_one (ds_ret (de_ct ca_tuple (by rfl) T.z_tuple PyProof.Rows.boot_tuple (da_cons (de_lc rfl sc_l_table.nd (own := [("_law_row", 9)]) (own1 _ 9) (di_seq (dv 4)) (blkOk_by (by kernel_rfl)) (fun _ _ _ _ _ => (pg_name (i := 9) sc_l_table.nd rfl (Or.inl rfl))) (fun _ _ _ _ _ => pts_y) (fun _ _ _ _ _ => (de_ct ca_tuple (by rfl) T.z_tuple PyProof.Rows.boot_tuple (da_cons (dv 9) da_nil)))) da_nil)))))))), ?_⟩
  unfold sp_l_table at h
  split at h
  rotate_left
  · exact h.elim
  rename_i l n
  obtain ⟨hB, n0, n1, q⟩ := h
  have hl0 : M l ≠ none := fun z => by
    obtain ⟨_, e⟩ := hB.some
    rw [z] at e; cases e
  have hz : sizeLine = 16777216 := rfl
  obtain ⟨m, rfl⟩ : ∃ m : Nat, n = m := ⟨n.toNat, by omega⟩
  rw [Int.toNat_natCast] at q
  have m0 : 0 < m := by omega
  walk_at "go"
  refine ⟨⟨by decide, by decide, by omega, by omega⟩, ?_⟩
  have em : ((m : Int) + 1 - 1).toNat = m := by omega
  rw [em]
  refine .genIf (fun k acc => acc.length ≤ k ∧ (0 < k → 0 < acc.length) ∧ ∀ d ∈ acc, ∃ w : Nat, d = .int (w : Int) ∧ w ≤ m ∧ Nat.gcd w m = 1) (fun M' => M' = M) (by omega) rfl ⟨Nat.le_refl _, fun z => absurd z (by decide), fun d hd => absurd hd List.not_mem_nil⟩ (fun _ _ => trivial) (fun k acc z => z.1) ?_ ?_
  · rintro k acc x _ hk rfl ⟨z1, z2, z3⟩ rfl Q1 Q2 h1 h2
    walk_at "go"
    refine ⟨1 + k, m, rfl, rfl, by omega, ?_⟩
    walk_at "go"
    cases hg : decide (((Nat.gcd (1 + k) m : Nat) : Int) = 1) with
    | true =>
      have hg := of_decide_eq_true hg
      walk_at "go"
      refine h1 _ _ ⟨by simp; omega, fun _ => by simp, fun d hd => ?_⟩ rfl
      rcases List.mem_append.mp hd with hd | hd
      · exact z3 d hd
      · obtain rfl : d = .int (1 + (k : Int)) := by simpa using hd
        exact ⟨1 + k, rfl, by omega, by omega⟩
    | false =>
      have hg := of_decide_eq_false hg
      walk_at "go"
      refine h2 _ ⟨by omega, fun _ => ?_, z3⟩ rfl
      rcases Nat.eq_zero_or_pos k with z | z
      · subst z
        exact absurd (show ((Nat.gcd (1 + 0) m : Nat) : Int) = 1 by rw [Nat.add_zero, Nat.gcd_one_left]; rfl) hg
      · exact z2 z
  rintro acc My p ⟨z1, z2, z3⟩ eM hp
  rw [eM] at hp ⊢
  have hal : l ≠ p := hB.ne hp
  have za := z2 m0
  generalize hM1 : updM M p _ = M1
  obtain ⟨e1, np, G1, k1⟩ := upd_facts hp hM1 (Bg.refl hB)
  walk_at "go"
  refine ⟨G1.bag, _, .inr ⟨p, rfl, np, e1⟩, za, by omega, fun d M2 hd hB2 hE2 => ?_⟩
  obtain ⟨w, rfl, hw1, hw2⟩ := z3 d hd
  have G2 := G1.trans ⟨hB2, hE2⟩
  walk_at "go"
  refine ⟨by decide, by decide, ?_⟩
  refine .gen (fun k y => ∃ q, y = dI q ∧ q.Perm (rg m)) (fun M' => Bg l M2 M') (by decide) (.refl hB2) (fun _ _ => trivial) ?_ ?_
  · rintro k x M3 hk rfl G3 Q1 hQ1
    walk_at "go"
    refine ⟨G3.bag, by omega, by omega, fun q M4 hq G4 => ?_⟩
    exact hQ1 _ _ ⟨q, rfl, hq⟩ (G3.trans G4)
  intro acc3 M3 p3 hl3 hP3 G3 hp3
  obtain ⟨q0, q1, q2, rfl, hq0, hq1, hq2⟩ : ∃ q0 q1 q2, acc3 = [dI q0, dI q1, dI q2] ∧ q0.Perm (rg m) ∧ q1.Perm (rg m) ∧ q2.Perm (rg m) := by
    have hl3 : acc3.length = 3 := hl3
    match acc3, hl3, hP3 with
    | [x, y, z], _, hP3 =>
      obtain ⟨q0, rfl, h0⟩ := hP3 0 x rfl
      obtain ⟨q1, rfl, h1⟩ := hP3 1 y rfl
      obtain ⟨q2, rfl, h2⟩ := hP3 2 z rfl
      exact ⟨q0, q1, q2, rfl, h0, h1, h2⟩
  generalize hM4 : updM M3 p3 _ = M4
  obtain ⟨e4, np3, G4, k4⟩ := upd_facts hp3 hM4 (G2.trans G3)
  have l0 : q0.length = m := by rw [hq0.length_eq, rg_length]
  have l1 : q1.length = m := by rw [hq1.length_eq, rg_length]
  have l2 : q2.length = m := by rw [hq2.length_eq, rg_length]
  walk_at "go"
  refine ⟨by omega, by omega, ?_⟩
  walk_at "go"
  refine ⟨fun k acc M5 => ∃ rs : List Addr, acc = rs.map D.ref ∧ Grid M M5 rs ((rg k).map fun x => (rg m).map fun y => at0 q2 ((at0 q0 x + (w : Int) * at0 q1 y) % m)) ∧ Bag M5 l ∧ Ext l M M5 ∧ M5 p3 = some (.lst [dI q0, dI q1, dI q2]),
    ⟨[], rfl, .nil, G4.bag, G4.ext, e4⟩, fun _ _ _ _ _ => trivial, ?_, ?_⟩
  · rintro k acc x M5 hk rfl ⟨rs, rfl, g, hB5, hE5, g4⟩
    have hk1 : k < m := by omega
    walk_at "go"
    refine ⟨by omega, by omega, ?_⟩
    walk_at "go"
    refine ⟨fun j acc M6 => M6 = M5 ∧ acc = ((rg j).map fun y => at0 q2 ((at0 q0 k + (w : Int) * at0 q1 y) % m)).map D.int, ⟨rfl, rfl⟩, fun _ _ _ _ _ => trivial, ?_, ?_⟩
    · rintro j acc x M6 hj rfl ⟨rfl, rfl⟩
      have hj2 : j < m := by omega
      have s0 := atI_ints (w := q0) (k := (k : Int)) (by omega) (by omega)
      have s1 := atI_ints (w := q1) (k := (j : Int)) (by omega) (by omega)
      walk_at "go"
      refine ⟨_, g4, ixQ_of (d := dI q2) rfl ?_⟩
      walk_at "go"
      refine ⟨_, g4, ixQ_of (d := dI q0) rfl ?_⟩
      walk_at "go"
      rw [show (0 + (k : Int)) = k by omega, s0]
      walk_at "go"
      refine ⟨_, g4, ixQ_of (d := dI q1) rfl ?_⟩
      walk_at "go"
      rw [show (0 + (j : Int)) = j by omega, s1]
      walk_at "go"
      refine ⟨.inl ⟨Int.lt_of_lt_of_le (by decide) (Int.natCast_nonneg w), Int.lt_of_le_of_lt (show (w : Int) ≤ 150 by omega) (by decide)⟩, ?_⟩
      walk_at "go"
      refine ⟨by dsimp only; omega, ?_⟩
      have b0 : 0 ≤ (at0 q0 k + (w : Int) * at0 q1 j) % (m : Int) := Int.emod_nonneg _ (by omega)
      have b1 : (at0 q0 k + (w : Int) * at0 q1 j) % (m : Int) < m := Int.emod_lt_of_pos _ (by omega)
      walk_at "go"
      rw [atI_ints (w := q2) b0 (by omega)]
      refine ⟨by rw [List.length_map, List.length_map, rg_length]; omega, rfl, ?_⟩
      rw [rg_succ, List.map_append, List.map_append]
      rfl
    · rintro acc M6 ⟨rfl, rfl⟩ a ha
      have hgl := g.len
      simp only [List.length_map, rg_length] at hgl
      refine ⟨by simp; omega, rs ++ [a], by simp, ?_, hB5.new ha, hE5.trans (Ext.new ha), ?_⟩
      · rw [rg_succ, List.map_append]
        refine g.snoc ha ?_
        cases hM : M a with
        | none => rfl
        | some o =>
          have := hE5 a o (Ne.symm (hB5.ne ha)) hM
          rw [ha] at this; cases this
      · rw [updM_ne (ne_none g4 ha)]; exact g4
  rintro acc M5 ⟨rs, rfl, g, hB5, hE5, _⟩ f hf
  rw [Int.toNat_natCast] at g
  have hT := timTab_ok hq0 hq1 hq2 m0 hw2
  have hfr : f ∉ rs := fun ha => by
    obtain ⟨_, z⟩ := g.has ha
    rw [hf] at z; cases z
  have hfl : f ≠ l := Ne.symm (hB5.ne hf)
  have hM0f : M f = none := by
    cases hM : M f with
    | none => rfl
    | some o =>
      have := hE5 f o hfl hM
      rw [hf] at this; cases this
  walk_at "go"
  refine ⟨.inl ⟨by decide, by decide⟩, ?_⟩
  walk_at "go"
  refine ⟨hB5.new hf, by omega, by omega, fun kk M6 kk0 kk1 hB6 hE6 => ?_⟩
  walk_at "go"
  refine ⟨by omega, by omega, ?_⟩
  refine .all (fun ρ M' => ∃ t c2 c5 c6 c7 c8 c9, ρ = [some (.ref l), some (.int (m : Int)), c2, some (.ref p3), some (.ref f), c5, c6, c7, c8, c9] ∧ IsTab m t ∧ Grid M M' rs t ∧ M' f = some (.lst (rs.map D.ref)) ∧ Bag M' l ∧ Ext l M M')
    ⟨_, _, _, _, _, _, _, rfl, hT, (g.add hf).ext hE6 hl0, hE6 f _ hfl updM_same, hB6, (hE5.trans (Ext.new hf)).trans hE6⟩ (fun _ _ _ => trivial) ?_ ?_
  · rintro i x ρ M7 hi rfl ⟨t, c2, c5, c6, c7, c8, c9, rfl, hT7, g7, hf7, hB7, hE7⟩
    walk_at "go"
    refine ⟨m, M, t, rs, rfl, by omega, by omega, hT7, g7, hf7, hfl, hfr, hl0, hB7, hE7, fun t' M' h1 h2 h3 h4 h5 => ?_⟩
    exact ⟨t', _, _, _, _, _, _, rfl, h1, h2, h3, h4, h5⟩
  · rintro ρ M6 ⟨t, c2, c5, c6, c7, c8, c9, rfl, hT6, g6, hf6, hB6, hE6⟩
    walk_at "go"
    refine ⟨_, hf6, ?_⟩
    have lrs : rs.length = t.length := g6.len
    have tl := hT6.len
    refine ⟨fun k acc M' => M' = M6 ∧ acc = (t.take k).map dI, ⟨rfl, by rw [List.take_zero]; rfl⟩, fun k acc M' _ z => z.1 ▸ hf6, ?_, ?_⟩
    · rintro k acc x M' hk hx ⟨rfl, rfl⟩
      rw [List.length_map] at hk
      have hk' : k < t.length := by omega
      obtain ⟨a, w, ha, hw, ea⟩ := g6.get hk'
      obtain rfl : x = .ref a := by
        unfold yL at hx
        rw [List.getElem?_map, ha] at hx
        exact (Option.some.inj hx).symm
      walk_at "go"
      refine ⟨_, ea, ?_⟩
      walk_at "go"
      refine ⟨by simp; omega, rfl, ?_⟩
      rw [List.take_succ_eq_append_getElem hk', List.map_append]
      have : t[k] = w := by
        obtain ⟨_, e⟩ := List.getElem?_eq_some_iff.mp hw
        exact e
      rw [this]
      rfl
    · rintro acc M' ⟨rfl, rfl⟩ r hr
      walk_at "go"
      refine ⟨_, updM_same, ?_⟩
      rw [List.length_map, lrs, List.take_length]
      exact q t _ hT6 (hB6.new hr) (hE6.trans (Ext.new hr))


def sp_l_things : SpD := fun ds M Q _ => match ds with
  | [.ref l, .int m, .int s] => Bag M l ∧ 0 ≤ m ∧ m ≤ 100 ∧ 1 ≤ s ∧ s ≤ 1000 ∧ ∀ (xs : List Int) M', xs.length = m.toNat → (∀ x ∈ xs, 0 ≤ x ∧ x < s) → Bg l M M' → Q (dI xs) M'
  | _ => False

theorem ok_l_things (T : Txt K mg a w) : FnD P w K mg base CX0 2 a.f_l_things a.d_l_things ["_law_bag_here", "_law_many", "_law_size"] sp_l_things := by
  refine okD T.F_l_things sc_l_things (fun ds M Q E h => ?_) (fun cdv A outer s H E hr hgd ds M Q E' h => ?_)
  · unfold sp_l_things at h; split at h <;> first | rfl | exact h.elim
  refine ⟨_, (dss_one (ds_ret (de_ct ca_tuple (by rfl) T.z_tuple PyProof.Rows.boot_tuple (da_cons (de_lc rfl sc_l_things.nd (own := [("_law_k", 3)]) (own1 _ 3) (di_rg1 (by rfl) T.z_range (da_cons (dv 1) da_nil)) (blkOk_by (by kernel_rfl)) (fun _ _ _ _ _ => (pg_name (i := 3) sc_l_things.nd rfl (Or.inl rfl))) (fun _ _ _ _ _ => pts_y) (fun _ _ _ _ _ => (de_call (ok_l_draw T) (hr.mono (by omega)) hgd (by rfl) T.G_l_draw T.F_l_draw.kp T.B_l_draw (da_cons (dv 0) (da_cons (dv 2) da_nil))))) da_nil)))), ?_⟩
  unfold sp_l_things at h
  split at h
  rotate_left
  · exact h.elim
  rename_i l m s
  obtain ⟨hB, m0, m1, s0, s1, q⟩ := h
  have hz : sizeLine = 16777216 := rfl
  walk_at "go"
  refine ⟨by omega, by omega, ?_⟩
  refine .gen (fun k y => ∃ i, y = .int i ∧ 0 ≤ i ∧ i < s) (fun M' => Bg l M M') (by omega) (.refl hB) (fun _ _ => trivial) ?_ ?_
  · rintro k x M1 hk rfl G1 Q1 hQ1
    walk_at "go"
    refine ⟨G1.bag, by omega, by omega, fun i M2 i0 i1 hB2 hE2 => ?_⟩
    exact hQ1 _ _ ⟨i, rfl, i0, i1⟩ (G1.trans ⟨hB2, hE2⟩)
  intro acc M1 p hl hP G1 hp
  obtain ⟨xs, rfl, hx⟩ := gen_ints hP
  rw [List.length_map] at hl
  walk_at "go"
  refine ⟨_, updM_same, ?_⟩
  exact q xs _ hl hx (G1.new hp)


def sp_l_formula_ (n : Nat) : SpD := fun ds M Q _ => match ds with
  | [.ref l, .int names, .int deep] => Bag M l ∧ 1 ≤ names ∧ names ≤ 4000 ∧ 0 ≤ deep ∧ deep ≤ n ∧ ∀ d M', Fw n (WF n) names d → Bg l M M' → Q d M'
  | _ => False

def sp_l_formula : Nat → SpD
  | 0 => fun _ _ _ _ => False
  | n + 1 => sp_l_formula_ n
theorem ok_l_formula (T : Txt K mg a w) : ∀ n : Nat, FnD P w K mg base CX0 (3 + n) a.f_l_formula a.d_l_formula ["_law_bag_here", "_law_names", "_law_deep"] (sp_l_formula n) := by
  intro n
  induction n with
  | zero => exact fnD_no fun _ _ _ _ z => z
  | succ n ih =>
  refine okD (k := 3 + n) T.F_l_formula sc_l_formula (fun ds M Q E h => ?_) (fun cdv A outer s H E hr hgd ds M Q E' h => ?_)
  · change sp_l_formula_ n ds M Q E at h
    unfold sp_l_formula_ at h; split at h <;> first | rfl | exact h.elim
  change sp_l_formula_ n ds M Q E' at h
  refine ⟨_, (dss_cons (ds_if (dt_w (dw_or (dt_cp (cr_eq hr.units) (dv 2) de_int) (dw_or1 (dt_cp (cr_eq hr.units) (de_call (ok_l_draw T) (hr.mono (by omega)) hgd (by rfl) T.G_l_draw T.F_l_draw.kp T.B_l_draw (da_cons (dv 0) (da_cons de_int da_nil))) de_int))))
      (dss_one (ds_ret (de_call (ok_l_draw T) (hr.mono (by omega)) hgd (by rfl) T.G_l_draw T.F_l_draw.kp T.B_l_draw (da_cons (dv 0) (da_cons (dv 1) da_nil)))))
      dss_nil)
      (dss_cons (ds_set (i := 3) sc_l_formula.nd rfl (Or.inl rfl) (de_call (ok_l_pick T) (hr.mono (by omega)) hgd (by rfl) T.G_l_pick T.F_l_pick.kp T.B_l_pick (da_cons (dv 0) (da_cons (de_lst (da_cons de_str (da_cons de_str (da_cons de_str da_nil)))) da_nil))))
      (dss_one (ds_ret (de_tup (da_cons (dv 3) (da_cons (de_call ih (hr.mono (by omega)) hgd (by rfl) T.G_l_formula T.F_l_formula.kp T.B_l_formula (da_cons (dv 0) (da_cons (dv 1) (da_cons (de_bin br_sub (dv 2) de_int) da_nil)))) (da_cons (de_call ih (hr.mono (by omega)) hgd (by rfl) T.G_l_formula T.F_l_formula.kp T.B_l_formula (da_cons (dv 0) (da_cons (dv 1) (da_cons (de_bin br_sub (dv 2) de_int) da_nil)))) da_nil)))))))), ?_⟩
  unfold sp_l_formula_ at h
  split at h
  rotate_left
  · exact h.elim
  rename_i l names deep
  obtain ⟨hB, n0, n1, d0, d1, q⟩ := h
  have wf0 : 13 ≤ WF n := by cases n <;> simp only [WF] <;> omega
  walk_at "go"
  cases hd : decide (deep = 0) with
  | true =>
    walk_at "go"
    exact ⟨hB, by omega, by omega, fun k M1 k0 k1 hB1 hE1 => q _ _ (.name k0 k1 wf0) ⟨hB1, hE1⟩⟩
  | false =>
  have hd := of_decide_eq_false hd
  walk_at "go"
  refine ⟨hB, by decide, by decide, fun k0 M1 _ _ hB1 hE1 => ?_⟩
  walk_at "br"
  · intro _
    walk_at "go"
    exact ⟨hB1, by omega, by omega, fun k M2 k0 k1 hB2 hE2 => q _ _ (.name k0 k1 wf0) ⟨hB2, hE1.trans hE2⟩⟩
  intro _
  obtain ⟨m, rfl⟩ : ∃ m, n = m + 1 := ⟨n - 1, by omega⟩
  have G1 : Bg l M M1 := ⟨hB1, hE1⟩
  walk_at "st"
  intro p2 h2
  generalize hM2 : updM M1 p2 _ = M2
  obtain ⟨e2, n2, G2, k2⟩ := upd_facts h2 hM2 G1
  walk_at "go"
  refine ⟨G2.bag, _, .inr ⟨p2, rfl, n2, e2⟩, Nat.le_of_ble_eq_true rfl, Nat.le_of_ble_eq_true rfl, fun d M3 hd3 hB3 hE3 => ?_⟩
  obtain ⟨x, rfl, hx⟩ := pick_w hd3
  have G3 := G2.trans ⟨hB3, hE3⟩
  walk_at "go"
  refine ⟨hB3, n0, n1, by omega, by omega, fun a M4 ha G4 => ?_⟩
  walk_at "go"
  refine ⟨G4.bag, n0, n1, by omega, by omega, fun b M5 hb G5 => ?_⟩
  walk_at "st"
  exact q _ _ (.inr ⟨x, a, b, _, _, rfl, hx, ha, hb, by simp only [WF]; omega⟩) ((G3.trans G4).trans G5)


def sp_l_count_ (n : Nat) : SpD := fun ds M Q _ => match ds with
  | [v] => ∃ f : Fm, v = fD f ∧ f.dep ≤ n ∧ Q (.int (f.sz : Nat)) M
  | _ => False

def sp_l_count : Nat → SpD
  | 0 => fun _ _ _ _ => False
  | n + 1 => sp_l_count_ n
theorem ok_l_count (T : Txt K mg a w) : ∀ n : Nat, FnD P w K mg base CX0 (1 + n) a.f_l_count a.d_l_count ["_law_value"] (sp_l_count n) := by
  intro n
  induction n with
  | zero => exact fnD_no fun _ _ _ _ z => z
  | succ n ih =>
  refine okD (k := 1 + n) T.F_l_count sc_l_count (fun ds M Q E h => ?_) (fun cdv A outer s H E hr hgd ds M Q E' h => ?_)
  · change sp_l_count_ n ds M Q E at h
    unfold sp_l_count_ at h; split at h <;> first | rfl | exact h.elim
  change sp_l_count_ n ds M Q E' at h
  refine ⟨_, (dss_one (ds_ret (de_if (dt_val (de_isi .tuple ki_tuple (by rfl) T.z_isinstance (by decide +kernel) (dv 0) (by rfl) T.z_tuple (by decide +kernel))) (de_bin br_add (de_bin br_add de_int (de_call ih (hr.mono (by omega)) hgd (by rfl) T.G_l_count T.F_l_count.kp T.B_l_count (da_cons (de_ix (dv 0) de_int) da_nil))) (de_call ih (hr.mono (by omega)) hgd (by rfl) T.G_l_count T.F_l_count.kp T.B_l_count (da_cons (de_ix (dv 0) de_int) da_nil))) de_int))), ?_⟩
  unfold sp_l_count_ at h
  split at h
  rotate_left
  · exact h.elim
  obtain ⟨f, rfl, hk, q⟩ := h
  cases f with
  | nm i =>
    walk_at "st"
    exact q
  | op w A B =>
    have hk : max A.dep B.dep + 1 ≤ n := hk
    obtain ⟨k, rfl⟩ : ∃ k, n = k + 1 := ⟨n - 1, by omega⟩
    have q : Q (.int ((A.sz + B.sz + 1 : Nat) : Int)) M := q
    walk_at "st"
    refine ⟨A, rfl, by omega, ?_⟩
    walk_at "st"
    refine ⟨B, rfl, by omega, ?_⟩
    walk_at "st"
    have e : 1 + (A.sz : Int) + (B.sz : Int) = ((A.sz + B.sz + 1 : Nat) : Int) := by omega
    rw [e]
    exact q


def sp_l_facts : SpD := fun ds M Q _ => match ds with
  | [.ref l, .int n] => Bag M l ∧ 1 ≤ n ∧ n ≤ 8 ∧ ∀ es us M', Fcs n es us → Bg l M M' → Q (facD n es us) M'
  | _ => False

theorem ok_l_facts (T : Txt K mg a w) : FnD P w K mg base CX0 4 a.f_l_facts a.d_l_facts ["_law_bag_here", "_law_names"] sp_l_facts := by
  refine okD T.F_l_facts sc_l_facts (fun ds M Q E h => ?_) (fun cdv A outer s H E hr hgd ds M Q E' h => ?_)
  · unfold sp_l_facts at h; split at h <;> first | rfl | exact h.elim
  refine ⟨_, (dss_cons (ds_set (i := 2) sc_l_facts.nd rfl (Or.inl rfl) (de_bin br_add de_int (de_call (ok_l_draw T) (hr.mono (by omega)) hgd (by rfl) T.G_l_draw T.F_l_draw.kp T.B_l_draw (da_cons (dv 0) (da_cons de_int da_nil)))))
      (dss_cons (ds_asg (de_tup (da_cons (de_call (ok_l_table T) (hr.mono (by omega)) hgd (by rfl) T.G_l_table T.F_l_table.kp T.B_l_table (da_cons (dv 0) (da_cons (dv 2) da_nil))) (da_cons (de_call (ok_l_things T) (hr.mono (by omega)) hgd (by rfl) T.G_l_things T.F_l_things.kp T.B_l_things (da_cons (dv 0) (da_cons (dv 1) (da_cons (dv 2) da_nil)))) (da_cons (de_lst da_nil) da_nil)))) (dg_tup rfl (dgs_cons (dg_name (i := 3) sc_l_facts.nd rfl (Or.inr rfl)) (dgs_cons (dg_name (i := 4) sc_l_facts.nd rfl (Or.inr rfl)) (dgs_cons (dg_name (i := 5) sc_l_facts.nd rfl (Or.inl rfl)) dgs_nil)))))
      (dss_cons (ds_for PassesOwn.never rfl (di_rg1 (by rfl) T.z_range (da_cons (de_call (ok_l_pick T) (hr.mono (by omega)) hgd (by rfl) T.G_l_pick T.F_l_pick.kp T.B_l_pick (da_cons (dv 0) (da_cons (de_lst (da_cons de_int (da_cons de_int (da_cons de_int (da_cons de_int da_nil))))) da_nil))) da_nil)) (dg_name (i := 6) sc_l_facts.nd rfl (Or.inl rfl))
      (dss_cons (ds_asg (de_tup (da_cons (de_call (ok_l_draw T) (hr.mono (by omega)) hgd (by rfl) T.G_l_draw T.F_l_draw.kp T.B_l_draw (da_cons (dv 0) (da_cons (dv 1) da_nil))) (da_cons (de_call (ok_l_draw T) (hr.mono (by omega)) hgd (by rfl) T.G_l_draw T.F_l_draw.kp T.B_l_draw (da_cons (dv 0) (da_cons (dv 1) da_nil))) da_nil))) (dg_tup rfl (dgs_cons (dg_name (i := 7) sc_l_facts.nd rfl (Or.inr rfl)) (dgs_cons (dg_name (i := 8) sc_l_facts.nd rfl (Or.inr rfl)) dgs_nil))))
      (dss_cons (ds_setLc (i := 9) rfl sc_l_facts.nd rfl rfl (sw_true rfl rfl rfl (by decide +kernel)) (own := [("_law_k", 11)]) (own1 _ 11) (di_rg1 (by rfl) T.z_range (da_cons (dv 1) da_nil)) (blkOk_by (by kernel_rfl)) (fun _ _ _ _ _ => (pg_name (i := 11) sc_l_facts.nd rfl (Or.inl rfl))) (fun _ _ _ _ _ => (pts_1 (dt_cp (cr_eq hr.units) (de_ix (dv 4) (dv 11)) (de_ix (de_ix (dv 3) (de_ix (dv 4) (dv 7))) (de_ix (dv 4) (dv 8)))))) (fun _ _ _ _ _ => (dv 11)))
      (dss_one (ds_expr (de_ml PySem.F.slot_list_append PySem.F.type_list_append mr_append (dv 5) (da_cons (de_tup (da_cons (dv 7) (da_cons (dv 8) (da_cons (de_call (ok_l_pick T) (hr.mono (by omega)) hgd (by rfl) T.G_l_pick T.F_l_pick.kp T.B_l_pick (da_cons (dv 0) (da_cons (de_bin br_add (dv 9) (de_bin br_rep (de_lst (da_cons (de_call (ok_l_draw T) (hr.mono (by omega)) hgd (by rfl) T.G_l_draw T.F_l_draw.kp T.B_l_draw (da_cons (dv 0) (da_cons (dv 1) da_nil))) da_nil)) (de_join (de_ct ca_int (by rfl) T.z_int (by decide +kernel) (da_cons (de_or (de_cp (cr_eq hr.units) (dv 9) (de_lst da_nil)) (de_one (de_cp (cr_eq hr.units) (de_call (ok_l_draw T) (hr.mono (by omega)) hgd (by rfl) T.G_l_draw T.F_l_draw.kp T.B_l_draw (da_cons (dv 0) (da_cons de_int da_nil))) de_int))) da_nil))))) da_nil))) da_nil)))) da_nil)))))))
      (dss_cons (ds_set (i := 10) sc_l_facts.nd rfl (Or.inl rfl) (de_lst da_nil))
      (dss_cons (ds_for PassesOwn.never rfl (di_rg1 (by rfl) T.z_range (da_cons (de_call (ok_l_draw T) (hr.mono (by omega)) hgd (by rfl) T.G_l_draw T.F_l_draw.kp T.B_l_draw (da_cons (dv 0) (da_cons de_int da_nil))) da_nil)) (dg_name (i := 6) sc_l_facts.nd rfl (Or.inl rfl))
      (dss_cons (ds_asg (de_tup (da_cons (de_call (ok_l_draw T) (hr.mono (by omega)) hgd (by rfl) T.G_l_draw T.F_l_draw.kp T.B_l_draw (da_cons (dv 0) (da_cons (dv 1) da_nil))) (da_cons (de_call (ok_l_draw T) (hr.mono (by omega)) hgd (by rfl) T.G_l_draw T.F_l_draw.kp T.B_l_draw (da_cons (dv 0) (da_cons (dv 1) da_nil))) da_nil))) (dg_tup rfl (dgs_cons (dg_name (i := 7) sc_l_facts.nd rfl (Or.inr rfl)) (dgs_cons (dg_name (i := 8) sc_l_facts.nd rfl (Or.inr rfl)) dgs_nil))))
      (dss_one (ds_if (dt_cp (cr_ne hr.units) (de_ix (dv 4) (dv 7)) (de_ix (dv 4) (dv 8)))
      (dss_one (ds_expr (de_ml PySem.F.slot_list_append PySem.F.type_list_append mr_append (dv 10) (da_cons (de_tup (da_cons (de_cb (ca_min2 rfl) (by rfl) T.z_min (by decide +kernel) (da_cons (dv 7) (da_cons (dv 8) da_nil))) (da_cons (de_cb (ca_max2 rfl) (by rfl) T.z_max (by decide +kernel) (da_cons (dv 7) (da_cons (dv 8) da_nil))) da_nil))) da_nil))))
      dss_nil))))
      (dss_one (ds_ret (de_tup (da_cons (dv 1) (da_cons (de_sl (de_ct ca_tuple (by rfl) T.z_tuple PyProof.Rows.boot_tuple (da_cons (de_sortSet hr.units (by rfl) T.z_sorted (by rfl) T.z_set (dv 5)) da_nil)) do_none (do_some de_int)) (da_cons (de_ct ca_tuple (by rfl) T.z_tuple PyProof.Rows.boot_tuple (da_cons (de_sortSet hr.units (by rfl) T.z_sorted (by rfl) T.z_set (dv 10)) da_nil)) da_nil))))))))))), ?_⟩
  unfold sp_l_facts at h
  split at h
  rotate_left
  · exact h.elim
  rename_i l n
  obtain ⟨hB, n0, n1, q⟩ := h
  have hz : sizeLine = 16777216 := rfl
  obtain ⟨m, rfl⟩ : ∃ m : Nat, n = m := ⟨n.toNat, by omega⟩
  walk_at "st"
  refine ⟨hB, by decide, by decide, fun s M1 s0 s1 hB1 hE1 => ?_⟩
  walk_at "st"
  refine ⟨hB1, by omega, by omega, fun t M2 hT hB2 hE2 => ?_⟩
  obtain ⟨z, hzs⟩ : ∃ z : Nat, 2 + s = z := ⟨(2 + s).toNat, by omega⟩
  rw [hzs] at hT ⊢
  rw [Int.toNat_natCast] at hT
  walk_at "st"
  refine ⟨hB2, by omega, by omega, by omega, by omega, fun th M3 hth1 hth2 G3 => ?_⟩
  rw [Int.toNat_natCast] at hth1
  have G3' : Bg l M M3 := Bg.trans ⟨hB2, hE1.trans hE2⟩ G3
  walk_at "st"
  intro p4 h4
  generalize hM4 : updM M3 p4 _ = M4
  obtain ⟨e4, n4, G4, k4⟩ := upd_facts h4 hM4 G3'
  walk_at "st"
  intro p5 h5
  generalize hM5 : updM M4 p5 _ = M5
  obtain ⟨e5, n5, G5, k5⟩ := upd_facts h5 hM5 G4
  walk_at "st"
  refine ⟨G5.bag, _, .inr ⟨p5, rfl, n5, e5⟩, by decide, by decide, fun d M6 hd hB6 hE6 => ?_⟩
  obtain ⟨c, hc, rfl⟩ : ∃ c : Nat, c ≤ 30 ∧ d = .int (c : Int) := by
    obtain ⟨x, hx, rfl⟩ := List.mem_map.mp (show d ∈ ([0, 3, 8, 30] : List Int).map D.int from hd)
    have key : ∀ x ∈ ([0, 3, 8, 30] : List Int), 0 ≤ x ∧ x ≤ 30 := by decide
    have := key x hx
    exact ⟨x.toNat, by omega, by congr 1; omega⟩
  have G6 : Bg l M3 M6 := ⟨hB6, (k4.trans k5).ext.trans hE6⟩
  have e6 : M6 p4 = some (.lst []) := hE6 _ _ n4 (k5 _ _ e4)
  walk_at "st"
  refine ⟨by omega, by omega, ?_⟩
  rw [Int.toNat_natCast]
  refine .rngL (n := c) (fun k ρ M' => Bg l M3 M' ∧ ∃ es : List (List Int), M' p4 = some (.lst (es.map dI)) ∧ es.length ≤ k ∧ (∀ r ∈ es, r.length = 3 ∧ ∀ x ∈ r, 0 ≤ x ∧ x < (m : Int)) ∧ ∃ c6 c7 c8 c9 c10 c11, ρ = [some (.ref l), some (.int (m : Int)), some (.int (z : Int)), some (dII t), some (dI th), some (.ref p4), c6, c7, c8, c9, c10, c11]) ⟨G6, [], e6, by simp, fun r hr => absurd hr List.not_mem_nil, _, _, _, _, _, _, rfl⟩ (fun _ _ _ _ _ => trivial) ?_ ?_
  · rintro k ρ M7 hk ⟨G7, es, e7, hle, hes, c6, c7, c8, c9, c10, c11, rfl⟩
    walk_at "st"
    refine ⟨G7.bag, by omega, by omega, fun x M8 x0 x1 hB8 hE8 => ?_⟩
    walk_at "st"
    refine ⟨hB8, by omega, by omega, fun y M9 y0 y1 hB9 hE9 => ?_⟩
    have G9 := G7.trans ⟨hB9, hE8.trans hE9⟩
    have e9 : M9 p4 = some (.lst (es.map dI)) := (hE8.trans hE9) _ _ n4 e7
    walk_at "st"
    refine ⟨by omega, by omega, ?_⟩
    have bth : ∀ i : Int, 0 ≤ i → i < m → 0 ≤ at0 th i ∧ at0 th i < z := fun i i0 i1 => by
      have := hth2 _ (List.mem_of_getElem? (at0_of (l := th) i0 (by omega)))
      omega
    refine .filtR (n := m) (fun i => decide (at0 th i = ent t (at0 th x) (at0 th y))) D.int (fun M' => M' = M9) (by omega) rfl (fun _ _ => trivial) ?_ ?_
    · rintro i _ i0 i1 rfl Q1 Q2 h1 h2
      walk_at "st"
      rw [atI_ints i0 (by omega)]
      walk_at "st"
      rw [atI_ints x0 (by omega)]
      walk_at "st"
      rw [hT.atr (bth x x0 x1).1 (bth x x0 x1).2]
      walk_at "st"
      rw [atI_ints y0 (by omega)]
      walk_at "st"
      rw [hT.ate (bth x x0 x1).1 (bth x x0 x1).2 (bth y y0 y1).1 (bth y y0 y1).2]
      walk_at "st"
      cases hb : decide (at0 th i = ent t (at0 th x) (at0 th y)) with
      | true =>
        rw [hb] at h1
        walk_at "st"
        exact h1 rfl _ rfl
      | false =>
        rw [hb] at h2
        walk_at "st"
        exact h2 rfl _ rfl
    rintro M10 p10 rfl h10
    have hin : ∀ i ∈ (rg m).filter (fun i => decide (at0 th i = ent t (at0 th x) (at0 th y))), 0 ≤ i ∧ i < (m : Int) := fun i hi => rg_mem.mp (List.mem_filter.mp hi).1
    have hfl : ((rg m).filter (fun i => decide (at0 th i = ent t (at0 th x) (at0 th y)))).length ≤ m := Nat.le_trans (List.length_filter_le ..) (by rw [rg_length]; exact Nat.le_refl _)
    generalize (rg m).filter (fun i => decide (at0 th i = ent t (at0 th x) (at0 th y))) = some_ at *
    generalize hM11 : updM M10 p10 _ = M11
    obtain ⟨e11, n11, G11, k11⟩ := upd_facts h10 hM11 G9
    have e11' : M11 p4 = _ := k11 _ _ e9
    walk_at "st"
    refine ⟨⟨_, e11'⟩, ?_⟩
    walk_at "st"
    refine ⟨G11.bag, by omega, by omega, fun w M12 w0 w1 hB12 hE12 => ?_⟩
    have G12 := G11.trans ⟨hB12, hE12⟩
    walk_at "st"
    intro p13 h13
    generalize hM13 : updM M12 p13 _ = M13
    obtain ⟨e13, n13, G13, k13⟩ := upd_facts h13 hM13 G12
    walk_at "st"
    refine ⟨fun d M' => ∃ b : Nat, d = .int (b : Int) ∧ b ≤ 1 ∧ (some_ = [] → b = 1) ∧ Bg l M13 M', ?_, ?_⟩
    · have e11a : M13 p10 = _ := k13 _ _ (hE12 _ _ n11 e11)
      walk_at "st"
      intro p14 h14
      generalize hM14 : updM M13 p14 _ = M14
      obtain ⟨e14, n14, G14, k14⟩ := upd_facts h14 hM14 G13
      walk_at "st"
      refine ⟨_, _, rdm_LI (ns := some_) (k14 _ _ e11a), rdm_LI (ns := []) e14, shaped_LI _, shaped_LI _, ?_⟩
      rw [eqv_LI]
      have kb : Bg l M13 M14 := ⟨G14.bag, k14.ext⟩
      cases hb : decide (some_ = []) with
      | true =>
        walk_at "st"
        exact ⟨1, rfl, by decide, fun _ => rfl, kb⟩
      | false =>
        have hne := of_decide_eq_false hb
        walk_at "st"
        refine ⟨G14.bag, by decide, by decide, fun v M15 v0 v1 hB15 hE15 => ?_⟩
        have G15 := kb.trans ⟨hB15, hE15⟩
        walk_at "st"
        cases decide (v = 0) with
        | true => exact ⟨1, rfl, by decide, fun _ => rfl, G15⟩
        | false => exact ⟨0, rfl, by decide, fun z => absurd z hne, G15⟩
    rintro d M16 ⟨b, rfl, b1, b2, G16⟩
    have G16' := G13.trans G16
    have x13 : Ext l M13 M16 := G16.ext
    have e13' : M16 p13 = some (.lst [.int w]) := x13 _ _ n13 e13
    have e10' : M16 p10 = some (.lst (some_.map D.int)) := x13 _ _ n11 (k13 _ _ (hE12 _ _ n11 e11))
    have e4' : M16 p4 = some (.lst (es.map dI)) := x13 _ _ n4 (k13 _ _ (hE12 _ _ n4 e11'))
    walk_at "st"
    refine ⟨_, e13', by omega, by omega, by simp; omega, ?_⟩
    intro p17 h17
    generalize hM17 : updM M16 p17 _ = M17
    obtain ⟨e17, n17, G17, k17⟩ := upd_facts h17 hM17 G16'
    rw [Int.toNat_natCast] at e17
    walk_at "st"
    refine ⟨_, _, k17 _ _ e10', e17, by simp; omega, ?_⟩
    intro p18 h18
    generalize hM18 : updM M17 p18 _ = M18
    obtain ⟨e18, n18, G18, k18⟩ := upd_facts h18 hM18 G17
    have hne : 0 < (some_.map D.int ++ (List.replicate b [D.int w]).flatten).length := by
      rcases Nat.eq_zero_or_pos some_.length with z0 | z0
      · have : some_ = [] := List.length_eq_zero_iff.mp z0
        rw [b2 this]
        simp
      · simp; omega
    walk_at "st"
    refine ⟨G18.bag, _, .inr ⟨p18, rfl, n18, e18⟩, hne, by simp; omega, fun d M19 hd hB19 hE19 => ?_⟩
    obtain ⟨o, rfl, o0, o1⟩ : ∃ o, d = .int o ∧ 0 ≤ o ∧ o < (m : Int) := by
      rcases List.mem_append.mp hd with hd | hd
      · obtain ⟨i, hi, rfl⟩ := List.mem_map.mp hd
        exact ⟨i, rfl, (hin i hi).1, (hin i hi).2⟩
      · obtain rfl : d = _ := List.mem_singleton.mp (mem_rep hd)
        exact ⟨w, rfl, w0, w1⟩
    have G19 := G18.trans ⟨hB19, hE19⟩
    have e19 : M19 p4 = some (.lst (es.map dI)) := hE19 _ _ n4 ((k17.trans k18) _ _ e4')
    walk_at "st"
    refine ⟨_, e19, by simp; omega, ?_⟩
    walk_at "st"
    refine ⟨G19.updN h4 (Ne.symm n4), es ++ [[x, y, o]], by rw [updM_same, List.map_append]; rfl, by simp; omega, fun r hr => ?_, _, _, _, _, _, _, rfl⟩
    rcases List.mem_append.mp hr with hr | hr
    · exact hes r hr
    · obtain rfl : r = [x, y, o] := List.mem_singleton.mp hr
      refine ⟨rfl, fun v hv => ?_⟩
      simp only [List.mem_cons, List.not_mem_nil, or_false] at hv
      rcases hv with rfl | rfl | rfl
      · exact ⟨x0, x1⟩
      · exact ⟨y0, y1⟩
      · exact ⟨o0, o1⟩
  rintro ρ M7 ⟨G7, es, e7, hle, hes, c6, c7, c8, c9, c10, c11, rfl⟩
  have G7' := G3'.trans G7
  walk_at "st"
  intro p20 h20
  generalize hM20 : updM M7 p20 _ = M20
  obtain ⟨e20, n20, G20, k20⟩ := upd_facts h20 hM20 G7'
  walk_at "st"
  refine ⟨G20.bag, by decide, by decide, fun c M21 c0 c1 hB21 hE21 => ?_⟩
  obtain ⟨c', rfl⟩ : ∃ c' : Nat, c = c' := ⟨c.toNat, by omega⟩
  have G21 : Bg l M7 M21 := ⟨hB21, k20.ext.trans hE21⟩
  have e21 : M21 p20 = some (.lst []) := hE21 _ _ n20 e20
  walk_at "st"
  refine ⟨by omega, by omega, ?_⟩
  rw [Int.toNat_natCast]
  refine .rngL (n := c') (fun k ρ M' => Bg l M7 M' ∧ ∃ us : List (List Int), M' p20 = some (.lst (us.map dI)) ∧ us.length ≤ k ∧ (∀ r ∈ us, ∃ x y, r = [x, y] ∧ 0 ≤ x ∧ x < y ∧ y < (m : Int)) ∧ ∃ c6 c7 c8 c9 c11, ρ = [some (.ref l), some (.int (m : Int)), some (.int (z : Int)), some (dII t), some (dI th), some (.ref p4), c6, c7, c8, c9, some (.ref p20), c11]) ⟨G21, [], e21, by simp, fun r hr => absurd hr List.not_mem_nil, _, _, _, _, _, rfl⟩ (fun _ _ _ _ _ => trivial) ?_ ?_
  · rintro k ρ M8 hk ⟨G8, us, e8, hlu, hus, c6, c7, c8, c9, c11, rfl⟩
    walk_at "st"
    refine ⟨G8.bag, by omega, by omega, fun x M9 x0 x1 hB9 hE9 => ?_⟩
    walk_at "st"
    refine ⟨hB9, by omega, by omega, fun y M10 y0 y1 hB10 hE10 => ?_⟩
    have G10 := G8.trans ⟨hB10, hE9.trans hE10⟩
    have e10 : M10 p20 = some (.lst (us.map dI)) := (hE9.trans hE10) _ _ n20 e8
    walk_at "st"
    rw [atI_ints x0 (by omega)]
    walk_at "st"
    rw [atI_ints y0 (by omega)]
    walk_at "st"
    cases hb : decide (at0 th x = at0 th y) with
    | true =>
      walk_at "st"
      exact ⟨G10, us, e10, by omega, hus, _, _, _, _, _, rfl⟩
    | false =>
      have hne : x ≠ y := fun z => of_decide_eq_false hb (by rw [z])
      walk_at "st"
      refine ⟨⟨_, e10⟩, ?_⟩
      walk_at "st"
      refine ⟨_, e10, by simp; omega, ?_⟩
      walk_at "st"
      refine ⟨G10.updN h20 (Ne.symm n20), us ++ [[if y < x then y else x, if y > x then y else x]], by rw [updM_same, List.map_append]; rfl, by simp; omega, fun r hr => ?_, _, _, _, _, _, rfl⟩
      rcases List.mem_append.mp hr with hr | hr
      · exact hus r hr
      · obtain rfl : r = [if y < x then y else x, if y > x then y else x] := List.mem_singleton.mp hr
        exact ⟨_, _, rfl, by split <;> omega, by split <;> split <;> omega, by split <;> omega⟩
  rintro ρ M8 ⟨G8, us, e8, hlu, hus, c6, c7, c8, c9, c11, rfl⟩
  have G8' := G7'.trans G8
  have e8' : M8 p4 = some (.lst (es.map dI)) := G8.ext _ _ n4 e7
  walk_at "st"
  refine ⟨es, 3, 64, e8', by omega, by decide, fun r hr => ⟨(hes r hr).1, fun x hx => by have := (hes r hr).2 x hx; omega⟩, fun es' p22 hm hnd hpw h22 => ?_⟩
  generalize hM22 : updM M8 p22 _ = M22
  obtain ⟨e22, n22, G22, k22⟩ := upd_facts h22 hM22 G8'
  have e22' : M22 p20 = some (.lst (us.map dI)) := k22 _ _ e8
  walk_at "st"
  refine ⟨_, e22, ?_⟩
  walk_at "st"
  refine ⟨us, 2, 64, e22', by omega, by decide, fun r hr => ?_, fun us' p23 hm2 hnd2 hpw2 h23 => ?_⟩
  · obtain ⟨x, y, rfl, x0, xy, y1⟩ := hus r hr
    refine ⟨rfl, fun v hv => ?_⟩
    simp only [List.mem_cons, List.not_mem_nil, or_false] at hv
    omega
  generalize hM23 : updM M22 p23 _ = M23
  obtain ⟨e23, n23, G23, k23⟩ := upd_facts h23 hM23 G22
  walk_at "st"
  refine ⟨_, e23, ?_⟩
  walk_at "st"
  have el : us'.length ≤ us.length := nodup_leL hnd2 fun x hx => (hm2 x).mp hx
  have ecut : cutD (es'.map dI) none (some 10) = (es'.take 10).map dI := by rw [cut_takeA (by decide), List.map_take]; rfl
  rw [ecut]
  refine q (es'.take 10) us' _ ⟨n0, n1, ?_, ?_, ?_⟩ G23
  · refine Rws.of_code (.inl rfl) (by omega) (by rw [List.length_take]; omega) (fun r hr => ?_) (hnd.sublist (List.take_sublist ..)) (hpw.sublist (List.take_sublist ..))
    have := hes r ((hm r).mp (List.mem_of_mem_take hr))
    exact ⟨this.1, fun x hx => by have := this.2 x hx; omega⟩
  · refine Rws.of_code (.inr rfl) (by omega) (by omega) (fun r hr => ?_) hnd2 hpw2
    obtain ⟨x, y, rfl, x0, xy, y1⟩ := hus r ((hm2 r).mp hr)
    refine ⟨rfl, fun v hv => ?_⟩
    simp only [List.mem_cons, List.not_mem_nil, or_false] at hv
    omega
  · intro r hr
    obtain ⟨x, y, rfl, x0, xy, y1⟩ := hus r ((hm2 r).mp hr)
    exact xy


def Bad (m : List Int) (r s : List Int) (v : Nat) : Prop := at0 m (at0 r (plN v).1) = at0 m (at0 s (plN v).1) ∧ at0 m (at0 r (plN v).2.1) = at0 m (at0 s (plN v).2.1) ∧ at0 m (at0 r (plN v).2.2) < at0 m (at0 s (plN v).2.2)
def GoodP (m : List Int) (R : List (List Int)) (P : List (Int × Int)) : Prop := ∀ p ∈ P, ∃ r ∈ R, ∃ s ∈ R, ∃ v, Bad m r s v ∧ p = (at0 m (at0 r (plN v).2.2), at0 m (at0 s (plN v).2.2))
def prD (P : List (Int × Int)) : List D := P.map fun p => dI [p.1, p.2]
theorem bad_none {R : List (List Int)} {m : List Int} (h : ∀ r ∈ R, ∀ s ∈ R, ∀ v, v < 3 → ¬ Bad m r s v) : Cls' R (at0 m) := cls_at fun t ht r hr s hs h1 h2 => by
  have a := h r hr s hs t ht
  have b := h s hs r hr t ht
  unfold Bad at a b
  rw [h1, h2] at a b
  simp only [true_and] at a b
  omega
def sp_l_close : SpD := fun ds M Q _ => match ds with
  | [.ref p, .ref q] => ∃ n m R, M p = some (.lst (m.map D.int)) ∧ M q = some (.lst (R.map dI)) ∧ p ≠ q ∧ Mk' n m ∧ Rows n R ∧ n ≤ 60 ∧ R.length ≤ 60 ∧
      ∀ m' M', M' p = some (.lst (m'.map D.int)) → Kp1 p M M' → Mk' n m' → Resp n m (at0 m') → (∀ μ, Cls' R μ → Resp n m μ → Resp n m' μ) → Cls' R (at0 m') → Q (.ref p) M'
  | _ => False

theorem ok_l_close (T : Txt K mg a w) : FnD P w K mg base CX0 1 a.f_l_close a.d_l_close ["_law_marks_here", "_law_rows"] sp_l_close := by
  refine okD T.F_l_close sc_l_close (fun ds M Q E h => ?_) (fun cdv A outer s H E hr hgd ds M Q E' h => ?_)
  · unfold sp_l_close at h; split at h <;> first | rfl | exact h.elim
  refine ⟨_, (dss_cons (ds_for PassesOwn.never rfl (di_rg1 (by rfl) T.z_range (da_cons (de_cb (ca_len) (by rfl) T.z_len PySem.boot_len (da_cons (dv 0) da_nil)) da_nil)) (dg_name (i := 2) sc_l_close.nd rfl (Or.inl rfl))
      (dss_cons (ds_set (i := 3) sc_l_close.nd rfl (Or.inl rfl) (de_lst da_nil))
      (dss_cons (ds_for PassesOwn.never rfl (di_seq (dv 1)) (dg_name (i := 4) sc_l_close.nd rfl (Or.inl rfl))
      (dss_one (ds_for PassesOwn.never rfl (di_seq (dv 1)) (dg_name (i := 5) sc_l_close.nd rfl (Or.inl rfl))
      (dss_one (ds_for PassesOwn.never rfl (di_seq (de_lst (da_cons (de_tup (da_cons de_int (da_cons de_int (da_cons de_int da_nil)))) (da_cons (de_tup (da_cons de_int (da_cons de_int (da_cons de_int da_nil)))) (da_cons (de_tup (da_cons de_int (da_cons de_int (da_cons de_int da_nil)))) da_nil))))) (dg_tup rfl (dgs_cons (dg_name (i := 6) sc_l_close.nd rfl (Or.inl rfl)) (dgs_cons (dg_name (i := 7) sc_l_close.nd rfl (Or.inl rfl)) (dgs_cons (dg_name (i := 8) sc_l_close.nd rfl (Or.inl rfl)) dgs_nil))))
      (dss_one (ds_if (dt_w (dw_and (dt_cp (cr_eq hr.units) (de_ix (dv 0) (de_ix (dv 4) (dv 6))) (de_ix (dv 0) (de_ix (dv 5) (dv 6)))) (dw_and1 (dt_cp (cr_eq hr.units) (de_ix (dv 0) (de_ix (dv 4) (dv 7))) (de_ix (dv 0) (de_ix (dv 5) (dv 7)))))))
      (dss_one (ds_if (dt_cp cr_lt (de_ix (dv 0) (de_ix (dv 4) (dv 8))) (de_ix (dv 0) (de_ix (dv 5) (dv 8))))
      (dss_one (ds_expr (de_ml PySem.F.slot_list_append PySem.F.type_list_append mr_append (dv 3) (da_cons (de_tup (da_cons (de_ix (dv 0) (de_ix (dv 4) (dv 8))) (da_cons (de_ix (dv 0) (de_ix (dv 5) (dv 8))) da_nil))) da_nil))))
      dss_nil))
      dss_nil)))))))
      (dss_cons (ds_if (dt_cp (cr_eqE hr.units) (dv 3) (de_lst da_nil))
      (dss_one ds_break)
      dss_nil)
      (dss_cons (ds_asg (de_ix (dv 3) de_int) (dg_tup rfl (dgs_cons (dg_name (i := 9) sc_l_close.nd rfl (Or.inl rfl)) (dgs_cons (dg_name (i := 10) sc_l_close.nd rfl (Or.inl rfl)) dgs_nil))))
      (dss_one (ds_for PassesOwn.never rfl (di_rg1 (by rfl) T.z_range (da_cons (de_cb (ca_len) (by rfl) T.z_len PySem.boot_len (da_cons (dv 0) da_nil)) da_nil)) (dg_name (i := 11) sc_l_close.nd rfl (Or.inl rfl))
      (dss_one (ds_if (dt_cp (cr_eq hr.units) (de_ix (dv 0) (dv 11)) (dv 10))
      (dss_one (ds_asg (dv 9) (dg_sub (dv 0) (dv 11) st_list)))
      dss_nil)))))))))
      (dss_one (ds_ret (dv 0)))), ?_⟩
  unfold sp_l_close at h
  split at h
  rotate_left
  · exact h.elim
  rename_i p q0
  obtain ⟨n, m, R, ep, eq, npq, hm, hR, hn, hl, q⟩ := h
  have hz : sizeLine = 16777216 := rfl
  walk_at "st"
  refine ⟨_, ep, ?_⟩
  rw [List.length_map, hm.len]
  walk_at "st"
  refine ⟨by omega, by omega, ?_⟩
  refine .rngL (n := n) (fun t ρ M' => ∃ mt, M' p = some (.lst (mt.map D.int)) ∧ Kp1 p M M' ∧ Mk' n mt ∧ Resp n m (at0 mt) ∧ (∀ μ, Cls' R μ → Resp n m μ → Resp n mt μ) ∧ cntM mt + t ≤ n ∧ ∃ c2 c3 c4 c5 c6 c7 c8 c9 c10 c11, ρ = [some (.ref p), some (.ref q0), c2, c3, c4, c5, c6, c7, c8, c9, c10, c11])
    ⟨m, ep, .refl, hm, hm.resp, fun _ _ h => h, by have := cnt_le (m := m); rw [hm.len] at this; omega, _, _, _, _, _, _, _, _, _, _, rfl⟩ (fun _ _ _ _ _ => trivial) ?_ ?_
  rotate_left
  · rintro ρ M' ⟨mt, e1, kp, hmt, h1, h2, hc, c2, c3, c4, c5, c6, c7, c8, c9, c10, c11, rfl⟩
    walk_at "st"
    refine q mt M' e1 kp hmt h1 h2 ?_
    rcases Nat.eq_zero_or_pos n with h0 | h0
    · intro r hr
      have := hR.at_ hr (p := 0) (by decide) (by decide)
      omega
    · have := cnt_pos hmt h0
      omega
  rintro t ρ M1 ht ⟨mt, e1, kp1, hmt, hL, hS, hc, c2, c3, c4, c5, c6, c7, c8, c9, c10, c11, rfl⟩
  have hml := hmt.len
  walk_at "st"
  intro p2 h2
  generalize hM2 : updM M1 p2 _ = M2
  obtain ⟨e2, K2, k2⟩ := upd_keep h2 hM2 .refl
  have e2q := k2 _ _ (kp1 _ _ (Ne.symm npq) eq)
  have e2p := k2 _ _ e1
  have hp2 : p ≠ p2 := ne_none e1 h2
  have hq2 : q0 ≠ p2 := ne_none (kp1 _ _ (Ne.symm npq) eq) h2
  have e2 : M2 p2 = some (.lst (prD [])) := e2
  walk_at "go"
  refine ⟨_, e2q, ?_⟩
  refine .seqL (xs := R) (F := dI) (fun u ρ M' => ∃ P, M' p2 = some (.lst (prD P)) ∧ Kp1 p2 M2 M' ∧ GoodP mt R P ∧ P.length ≤ u * R.length * 3 ∧ (P = [] → ∀ b (hb : b < R.length), b < u → ∀ s ∈ R, ∀ v, v < 3 → ¬ Bad mt R[b] s v) ∧
    ∃ c4 c5 c6 c7 c8, ρ = [some (.ref p), some (.ref q0), some (.int (t : Int)), some (.ref p2), c4, c5, c6, c7, c8, c9, c10, c11])
    ⟨[], e2, .refl, fun _ h => absurd h List.not_mem_nil, Nat.zero_le _, fun _ _ _ h => absurd h (Nat.not_lt_zero _), _, _, _, _, _, rfl⟩ (fun _ _ _ _ ⟨_, _, z, _⟩ => z _ _ hq2 e2q) ?_ ?_
  · rintro u ρ M3 hu ⟨P3, e3, kp3, g3, l3, n3, d4, d5, d6, d7, d8, rfl⟩
    have hr := List.getElem_mem hu
    have e3q := kp3 _ _ hq2 e2q
    walk_at "go"
    refine ⟨_, e3q, ?_⟩
    refine .seqL (xs := R) (F := dI) (fun w ρ M' => ∃ P, M' p2 = some (.lst (prD P)) ∧ Kp1 p2 M2 M' ∧ GoodP mt R P ∧ P.length ≤ u * R.length * 3 + w * 3 ∧ (P = [] → (∀ b (hb : b < R.length), b < u → ∀ s ∈ R, ∀ v, v < 3 → ¬ Bad mt R[b] s v) ∧ ∀ b (hb : b < R.length), b < w → ∀ v, v < 3 → ¬ Bad mt R[u] R[b] v) ∧
      ∃ c5 c6 c7 c8, ρ = [some (.ref p), some (.ref q0), some (.int (t : Int)), some (.ref p2), some (dI R[u]), c5, c6, c7, c8, c9, c10, c11])
      ⟨P3, e3, kp3, g3, by omega, fun z => ⟨n3 z, fun _ _ h => absurd h (Nat.not_lt_zero _)⟩, _, _, _, _, rfl⟩ (fun _ _ _ _ ⟨_, _, z, _⟩ => z _ _ hq2 e2q) ?_ ?_
    rotate_left
    · rintro ρ M4 ⟨P4, e4, kp4, g4, l4, n4, f5, f6, f7, f8, rfl⟩
      refine ⟨P4, e4, kp4, g4, by rw [Nat.succ_mul, Nat.add_mul]; exact l4, fun z b hb hbu => ?_, _, _, _, _, _, rfl⟩
      obtain ⟨z1, z2⟩ := n4 z
      rcases Nat.lt_or_ge b u with lt | ge
      · exact z1 b hb lt
      · obtain rfl : b = u := by omega
        intro s hs v hv
        obtain ⟨x, hx, rfl⟩ := List.getElem_of_mem hs
        exact z2 x hx hx v hv
    rintro w ρ M4 hw ⟨P4, e4, kp4, g4, l4, n4, f5, f6, f7, f8, rfl⟩
    have hs := List.getElem_mem hw
    walk_at "st"
    intro p5 h5
    generalize hM5 : updM M4 p5 _ = M5
    obtain ⟨e5, K5, k5⟩ := upd_keep h5 hM5 .refl
    have e5 : M5 p5 = some (.lst ([0, 1, 2].map fun v => D.tup [.int (plN v).1, .int (plN v).2.1, .int (plN v).2.2])) := e5
    have hp5 : p5 ≠ p2 := Ne.symm (ne_none e4 h5)
    walk_at "go"
    refine ⟨_, e5, ?_⟩
    refine .seqL (xs := [0, 1, 2]) (F := fun v => D.tup [.int (plN v).1, .int (plN v).2.1, .int (plN v).2.2]) (fun x ρ M' => ∃ P, M' p2 = some (.lst (prD P)) ∧ Kp1 p2 M5 M' ∧ GoodP mt R P ∧ P.length ≤ u * R.length * 3 + w * 3 + x ∧ (P = [] → P4 = [] ∧ ∀ v, v < x → ¬ Bad mt R[u] R[w] v) ∧
      ∃ c6 c7 c8, ρ = [some (.ref p), some (.ref q0), some (.int (t : Int)), some (.ref p2), some (dI R[u]), some (dI R[w]), c6, c7, c8, c9, c10, c11])
      ⟨P4, k5 _ _ e4, .refl, g4, by omega, fun z => ⟨z, fun _ h => absurd h (Nat.not_lt_zero _)⟩, _, _, _, rfl⟩ (fun _ _ _ _ ⟨_, _, z, _⟩ => z _ _ hp5 e5) ?_ ?_
    rotate_left
    · rintro ρ M6 ⟨P6, e6, kp6, g6, l6, n6, f6, f7, f8, rfl⟩
      refine ⟨P6, e6, kp4.trans (k5.kp.trans kp6), g6, by have : [0, 1, 2].length = 3 := rfl; omega, fun z => ?_, _, _, _, _, rfl⟩
      obtain ⟨z1, z2⟩ := n6 z
      obtain ⟨z3, z4⟩ := n4 z1
      refine ⟨z3, fun b hb hbw v hv => ?_⟩
      rcases Nat.lt_or_ge b w with lt | ge
      · exact z4 b hb lt v hv
      · obtain rfl : b = w := by omega
        exact z2 v hv
    rintro x ρ M6 hx ⟨P6, e6, kp6, g6, l6, n6, f6, f7, f8, rfl⟩
    have hx3 : x < 3 := hx
    have ex : ([0, 1, 2] : List Nat)[x] = x := by
      obtain rfl | rfl | rfl : x = 0 ∨ x = 1 ∨ x = 2 := by omega
      all_goals rfl
    rw [ex]
    have hbad : Bad mt R[u] R[w] x ↔ at0 mt (at0 R[u] (plN x).1) = at0 mt (at0 R[w] (plN x).1) ∧ at0 mt (at0 R[u] (plN x).2.1) = at0 mt (at0 R[w] (plN x).2.1) ∧ at0 mt (at0 R[u] (plN x).2.2) < at0 mt (at0 R[w] (plN x).2.2) := Iff.rfl
    have hgood : Bad mt R[u] R[w] x → ∃ r ∈ R, ∃ s ∈ R, ∃ v, Bad mt r s v ∧ (at0 mt (at0 R[u] (plN x).2.2), at0 mt (at0 R[w] (plN x).2.2)) = (at0 mt (at0 r (plN v).2.2), at0 mt (at0 s (plN v).2.2)) := fun h => ⟨_, hr, _, hs, x, h, rfl⟩
    obtain ⟨i0, i1, j0, j1, k0, k1⟩ := (pl_N x).in_
    generalize R[u] = r at *
    generalize R[w] = s at *
    have rl := (hR r hr).1
    have sl := (hR s hs).1
    generalize (plN x).1 = i at *
    generalize (plN x).2.1 = j at *
    generalize (plN x).2.2 = k at *
    have ri := hR.at_ hr i0 i1
    have rj := hR.at_ hr j0 j1
    have rk := hR.at_ hr k0 k1
    have si := hR.at_ hs i0 i1
    have sj := hR.at_ hs j0 j1
    have sk := hR.at_ hs k0 k1
    have ari : atI (r.map D.int) i = some (.int (at0 r i)) := atI_ints i0 (by omega)
    have arj : atI (r.map D.int) j = some (.int (at0 r j)) := atI_ints j0 (by omega)
    have ark : atI (r.map D.int) k = some (.int (at0 r k)) := atI_ints k0 (by omega)
    have asi : atI (s.map D.int) i = some (.int (at0 s i)) := atI_ints i0 (by omega)
    have asj : atI (s.map D.int) j = some (.int (at0 s j)) := atI_ints j0 (by omega)
    have ask : atI (s.map D.int) k = some (.int (at0 s k)) := atI_ints k0 (by omega)
    have e6p : M6 p = some (.lst (mt.map D.int)) := kp6 _ _ hp2 (k5 _ _ (kp4 _ _ hp2 e2p))
    have stay : ¬ Bad mt r s x → P6 = [] → P4 = [] ∧ ∀ v, v < x + 1 → ¬ Bad mt r s v := fun hb z => by
      obtain ⟨z1, z2⟩ := n6 z
      refine ⟨z1, fun v hv => ?_⟩
      rcases Nat.lt_or_ge v x with lt | ge
      · exact z2 v lt
      · obtain rfl : v = x := by omega
        exact hb
    walk_at "st"
    rw [ari]
    walk_at "st"
    refine ⟨_, e6p, ixQ_of (atI_ints ri.1 (by omega)) ?_⟩
    walk_at "st"
    rw [asi]
    walk_at "st"
    refine ⟨_, e6p, ixQ_of (atI_ints si.1 (by omega)) ?_⟩
    walk_at "br"
    · intro hb1
      have hb1 : at0 mt (at0 r i) = at0 mt (at0 s i) := of_decide_eq_true hb1
      walk_at "st"
      rw [arj]
      walk_at "st"
      refine ⟨_, e6p, ixQ_of (atI_ints rj.1 (by omega)) ?_⟩
      walk_at "st"
      rw [asj]
      walk_at "st"
      refine ⟨_, e6p, ixQ_of (atI_ints sj.1 (by omega)) ?_⟩
      walk_at "br"
      · intro hb2
        have hb2 : at0 mt (at0 r j) = at0 mt (at0 s j) := of_decide_eq_true hb2
        walk_at "st"
        rw [ark]
        walk_at "st"
        refine ⟨_, e6p, ixQ_of (atI_ints rk.1 (by omega)) ?_⟩
        walk_at "st"
        rw [ask]
        walk_at "st"
        refine ⟨_, e6p, ixQ_of (atI_ints sk.1 (by omega)) ?_⟩
        walk_at "br"
        · intro hb3
          have hb3 := of_decide_eq_true hb3
          have hB := hbad.mpr ⟨hb1, hb2, hb3⟩
          walk_at "st"
          refine ⟨⟨_, e6⟩, ?_⟩
          walk_at "st"
          rw [ark]
          walk_at "st"
          refine ⟨_, e6p, ixQ_of (atI_ints rk.1 (by omega)) ?_⟩
          walk_at "st"
          rw [ask]
          walk_at "st"
          refine ⟨_, e6p, ixQ_of (atI_ints sk.1 (by omega)) ?_⟩
          walk_at "st"
          have hL2 : R.length * R.length ≤ 60 * 60 := Nat.mul_le_mul hl hl
          have hL3 : u * R.length ≤ R.length * R.length := Nat.mul_le_mul_right _ (by omega)
          refine ⟨_, e6, by unfold prD; rw [List.length_map]; omega, ?_⟩
          refine ⟨P6 ++ [(at0 mt (at0 r k), at0 mt (at0 s k))], by rw [updM_same]; unfold prD; rw [List.map_append]; rfl, fun b o hb e => by rw [updM_ne hb]; exact kp6 _ _ hb e, fun z hz => ?_, by rw [List.length_append]; show P6.length + 1 ≤ _; omega, fun z => by simp at z, _, _, _, rfl⟩
          rcases List.mem_append.mp hz with hz | hz
          · exact g6 z hz
          · rw [List.mem_singleton.mp hz]
            exact hgood hB
        · intro hb3
          have hb3 := of_decide_eq_false hb3
          have hB : ¬ Bad mt r s x := fun z => hb3 (hbad.mp z).2.2
          walk_at "st"
          exact ⟨P6, e6, kp6, g6, by omega, stay hB, _, _, _, rfl⟩
      · intro hb2
        have hb2 : at0 mt (at0 r j) ≠ at0 mt (at0 s j) := of_decide_eq_false hb2
        have hB : ¬ Bad mt r s x := fun z => hb2 (hbad.mp z).2.1
        walk_at "st"
        exact ⟨P6, e6, kp6, g6, by omega, stay hB, _, _, _, rfl⟩
    · intro hb1
      have hb1 : at0 mt (at0 r i) ≠ at0 mt (at0 s i) := of_decide_eq_false hb1
      have hB : ¬ Bad mt r s x := fun z => hb1 (hbad.mp z).1
      walk_at "st"
      exact ⟨P6, e6, kp6, g6, by omega, stay hB, _, _, _, rfl⟩
  rintro ρ M3 ⟨P, e3, kp3, g3, l3, n3, d4, d5, d6, d7, d8, rfl⟩
  have e3p := kp3 _ _ hp2 e2p
  walk_at "st"
  intro p4 h4
  generalize hM4 : updM M3 p4 _ = M4
  obtain ⟨e4, K4, k4⟩ := upd_keep h4 hM4 .refl
  have e4p := k4 _ _ e3p
  have kp4 : Kp1 p M M4 := kp1.trans fun b o hb e => k4 _ _ (kp3 _ _ (ne_none e h2) (k2 _ _ e))
  refine ⟨_, k4 _ _ e3, e4, ?_⟩
  cases P with
  | nil =>
    walk_at "st"
    refine q mt M4 e4p kp4 hmt hL hS (bad_none fun r hr s hs v hv => ?_)
    obtain ⟨b, hb, rfl⟩ := List.getElem_of_mem hr
    exact n3 rfl b hb hb s hs v hv
  | cons p0 P' =>
  obtain ⟨r, hr, s, hs, v, hbad, rfl⟩ := g3 _ List.mem_cons_self
  obtain ⟨i0, i1, j0, j1, k0, kk1⟩ := (pl_N v).in_
  have rk := hR.at_ hr k0 kk1
  have sk := hR.at_ hs k0 kk1
  have ar := hmt.at_ _ rk.1 rk.2
  have as := hmt.at_ _ sk.1 sk.2
  obtain ⟨hb1, hb2, hb3⟩ := hbad
  have hSb : ∀ μ, Cls' R μ → Resp n m μ → μ (at0 mt (at0 r (plN v).2.2)) = μ (at0 mt (at0 s (plN v).2.2)) := fun μ c1 c2 => by
    have rs := hS μ c1 c2
    rw [rs _ rk.1 rk.2, rs _ sk.1 sk.2]
    refine c1 r hr s hs _ _ _ (pl_N v) ?_ ?_
    · have a1 := hR.at_ hr i0 i1
      have a2 := hR.at_ hs i0 i1
      rw [← rs _ a1.1 a1.2, hb1, rs _ a2.1 a2.2]
    · have a1 := hR.at_ hr j0 j1
      have a2 := hR.at_ hs j0 j1
      rw [← rs _ a1.1 a1.2, hb2, rs _ a2.1 a2.2]
  generalize at0 mt (at0 r (plN v).2.2) = lo at *
  generalize at0 mt (at0 s (plN v).2.2) = hi at *
  have e3' : M4 p2 = some (.lst (D.tup [.int lo, .int hi] :: prD P')) := k4 _ _ e3
  have hm2 := hmt.mg ar.1 hb3 (by omega) ar.2.2 as.2.2
  have hc2 := cnt_mg hmt ar.1 hb3 (by omega) ar.2.2 as.2.2
  have hL2 : Resp n m (at0 (mgM mt lo hi)) := fun x x0 x1 => by
    have := hm.lt x0 x1
    rw [mgM_at this.1 (by omega), mgM_at x0 (by omega), hL x x0 x1]
  walk_at "st"
  refine ⟨_, e3', ixQ_of atI0 ?_⟩
  walk_at "st"
  refine ⟨_, e4p, ?_⟩
  rw [List.length_map, hml]
  walk_at "st"
  refine ⟨by omega, by omega, ?_⟩
  refine .rngL (n := n) (fun y ρ M' => ∃ mx : List Int, M' p = some (.lst (mx.map D.int)) ∧ Kp1 p M4 M' ∧ mx.length = n ∧ (∀ z : Int, 0 ≤ z → z < n → at0 mx z = if z < y then (if at0 mt z = hi then lo else at0 mt z) else at0 mt z) ∧
    ∃ c4 c5 c6 c7 c8 c11, ρ = [some (.ref p), some (.ref q0), some (.int (t : Int)), some (.ref p2), c4, c5, c6, c7, c8, some (.int lo), some (.int hi), c11])
    ⟨mt, e4p, .refl, hml, fun z z0 z1 => by rw [if_neg (by omega)], _, _, _, _, _, _, rfl⟩ (fun _ _ _ _ _ => trivial) ?_ ?_
  rotate_left
  · rintro ρ M5 ⟨mx, e5, kp5, l5, a5, f4, f5, f6, f7, f8, f11, rfl⟩
    have em : mx = mgM mt lo hi := by
      refine at0_ext (by rw [l5, hm2.len]) fun z z0 z1 => ?_
      rw [l5] at z1
      rw [a5 z z0 z1, if_pos z1, mgM_at z0 (by omega)]
    subst em
    refine ⟨_, e5, kp4.trans kp5, hm2, hL2, fun μ c1 c2 => (hS μ c1 c2).mg hml (hSb μ c1 c2), by omega, _, _, _, _, _, _, _, _, _, _, rfl⟩
  rintro y ρ M5 hy ⟨mx, e5, kp5, l5, a5, f4, f5, f6, f7, f8, f11, rfl⟩
  have ay := a5 (y : Int) (by omega) (by omega)
  rw [if_neg (by omega)] at ay
  walk_at "st"
  refine ⟨_, e5, ixQ_of (atI_ints (by omega) (by omega)) ?_⟩
  rw [ay]
  walk_at "br"
  · intro hb
    have hb : at0 mt (y : Int) = hi := of_decide_eq_true hb
    walk_at "st"
    refine ⟨_, y, e5, by rw [List.length_map]; exact ixN_nn (by omega) (by omega), ?_⟩
    have es : (mx.map D.int).set y (.int lo) = (mx.set y lo).map D.int := by rw [List.map_set]
    rw [es]
    refine ⟨mx.set y lo, updM_same, fun b o hb e => by rw [updM_ne hb]; exact kp5 _ _ hb e, by rw [List.length_set]; exact l5, fun z z0 z1 => ?_, _, _, _, _, _, _, rfl⟩
    have := at0_set' (xs := mx) (i := z) (j := (y : Int)) (v := lo) z0 (by omega) (by omega)
    rw [Int.toNat_natCast] at this
    rw [this]
    by_cases e : z = (y : Int)
    · rw [if_pos e, if_pos (by omega), e, if_pos hb]
    · rw [if_neg e, a5 z z0 z1]
      by_cases e2 : z < (y : Int)
      · rw [if_pos e2, if_pos (show z < ((y + 1 : Nat) : Int) by omega)]
      · rw [if_neg e2, if_neg (show ¬ z < ((y + 1 : Nat) : Int) by omega)]
  · intro hb
    have hb : at0 mt (y : Int) ≠ hi := of_decide_eq_false hb
    walk_at "st"
    refine ⟨mx, e5, kp5, l5, fun z z0 z1 => ?_, _, _, _, _, _, _, rfl⟩
    rw [a5 z z0 z1]
    by_cases e : z = (y : Int)
    · rw [if_neg (by omega), if_pos (show z < ((y + 1 : Nat) : Int) by omega), e, if_neg hb]
    · by_cases e2 : z < (y : Int)
      · rw [if_pos e2, if_pos (show z < ((y + 1 : Nat) : Int) by omega)]
      · rw [if_neg e2, if_neg (show ¬ z < ((y + 1 : Nat) : Int) by omega)]


/-- rows of some numbers -/
def rowsAt (R : List (List Int)) (L : List Int) : List (List Int) := L.map fun x => R[x.toNat]?.getD []
theorem rowsAt_rg (R : List (List Int)) : rowsAt R (rg R.length) = R := by
  unfold rowsAt rg
  rw [List.map_map]
  apply List.ext_getElem?
  intro i
  rw [List.getElem?_map]
  by_cases h : i < R.length
  · rw [List.getElem?_range h, List.getElem?_eq_getElem h]
    show some (R[((i : Nat) : Int).toNat]?.getD []) = _
    rw [Int.toNat_natCast, List.getElem?_eq_getElem h]
    rfl
  · rw [List.getElem?_eq_none (by rw [List.length_range]; omega), List.getElem?_eq_none (by omega)]
    rfl
theorem rowsAt_ok {n : Nat} {R : List (List Int)} (h : Rows n R) {L : List Int} (hL : ∀ x ∈ L, 0 ≤ x ∧ x < (R.length : Int)) : Rows n (rowsAt R L) := fun r hr => by
  obtain ⟨x, hx, rfl⟩ := List.mem_map.mp hr
  have := hL x hx
  have hi : x.toNat < R.length := by omega
  rw [List.getElem?_eq_getElem hi]
  exact h _ (List.getElem_mem hi)
/-- a row of whole numbers: a tuple or a list -/
def SeqI (M : Mp) (d : D) (L : List Int) : Prop := d = dI L ∨ ∃ p, d = .ref p ∧ M p = some (.lst (L.map D.int))
def sp_l_marks : SpD := fun ds M Q _ => match ds with
  | [.tup [.int i, .tup es, us], d] => ∃ (n : Nat) (R : List (List Int)) (L : List Int), i = (n : Int) ∧ es = R.map dI ∧ n ≤ 60 ∧ Rows n R ∧ SeqI M d L ∧ L.length ≤ 60 ∧ (∀ x ∈ L, 0 ≤ x ∧ x < (R.length : Int)) ∧
      ∀ p m M', Keep M M' → M p = none → M' p = some (.lst (m.map D.int)) → Clo n (rowsAt R L) m → Q (.ref p) M'
  | _ => False

theorem ok_l_marks (T : Txt K mg a w) : FnD P w K mg base CX0 2 a.f_l_marks a.d_l_marks ["_law_facts_here", "_law_numbers"] sp_l_marks := by
  refine okD T.F_l_marks sc_l_marks (fun ds M Q E h => ?_) (fun cdv A outer s H E hr hgd ds M Q E' h => ?_)
  · unfold sp_l_marks at h; split at h <;> first | rfl | exact h.elim
  refine ⟨_, (dss_one (ds_ret (de_call (ok_l_close T) (hr.mono (by omega)) hgd (by rfl) T.G_l_close T.F_l_close.kp T.B_l_close (da_cons (de_listRg rfl (by rfl) T.z_list (drg_1 (by rfl) T.z_range (de_ix (dv 0) de_int))) (da_cons (de_lc rfl sc_l_marks.nd (own := [("_law_number", 2)]) (own1 _ 2) (di_seq (dv 1)) (blkOk_by (by kernel_rfl)) (fun _ _ _ _ _ => (pg_name (i := 2) sc_l_marks.nd rfl (Or.inl rfl))) (fun _ _ _ _ _ => pts_y) (fun _ _ _ _ _ => (de_ix (de_ix (dv 0) de_int) (dv 2)))) da_nil))))), ?_⟩
  unfold sp_l_marks at h
  split at h
  rotate_left
  · exact h.elim
  rename_i i es us d
  obtain ⟨n, R, L, rfl, rfl, hn, hR, hd, hl, hL, q⟩ := h
  have hz : sizeLine = 16777216 := rfl
  walk_at "st"
  refine ⟨RgOk.of_le (by decide) (by omega) (by decide) (by omega), ?_⟩
  rw [rgD_rg, Int.toNat_natCast]
  intro p1 h1
  generalize hM1 : updM M p1 _ = M1
  obtain ⟨e1, K1, k1⟩ := upd_keep h1 hM1 .refl
  have fin : ∀ p2 M2, M1 p2 = none → updM M1 p2 (.lst ((rowsAt R L).map dI)) = M2 → sp_l_close [.ref p1, .ref p2] M2 Q X0 := fun p2 M2 h2 hM2 => by
    obtain ⟨e2, K2, k2⟩ := upd_keep h2 hM2 K1
    refine ⟨n, rg n, rowsAt R L, k2 _ _ e1, e2, ne_none e1 h2, Mk'.rg n, rowsAt_ok hR hL, hn, by unfold rowsAt; rw [List.length_map]; exact hl, fun m' M' e' kp hm hr hs hc => ?_⟩
    exact q p1 m' M' (fun b o e => kp _ _ (ne_none e h1) (K2 _ _ e)) h1 e' ⟨hm, fun μ hμ => hs μ hμ .rg, hc⟩
  have item : ∀ x ∈ L, atI (R.map dI) x = some (dI (R[x.toNat]?.getD [])) := fun x hx => by
    have := hL x hx
    have hi : x.toNat < R.length := by omega
    rw [atI_map, atI_nn this.1 this.2, List.getElem?_eq_getElem hi]
    rfl
  rcases hd with rfl | ⟨p, rfl, ep⟩
  · walk_at "st"
    refine .mapL (xs := L) (F := D.int) (fun x => dI (R[x.toNat]?.getD [])) (fun M' => M' = M1) (by omega) rfl (fun _ _ => trivial) ?_ ?_
    · rintro x _ hx rfl Q' hQ'
      walk_at "st"
      rw [item x hx]
      exact hQ' _ rfl
    intro M2 p2 hE h2
    rw [hE] at h2 ⊢
    have := fin p2 _ h2 rfl
    unfold rowsAt at this
    rw [List.map_map] at this
    exact this
  · walk_at "st"
    refine ⟨_, K1 _ _ ep, ?_⟩
    refine .mapL (xs := L) (F := D.int) (fun x => dI (R[x.toNat]?.getD [])) (fun M' => M' = M1) (by omega) rfl (fun _ h => by rw [h]; exact K1 _ _ ep) ?_ ?_
    · rintro x _ hx rfl Q' hQ'
      walk_at "st"
      rw [item x hx]
      exact hQ' _ rfl
    intro M2 p2 hE h2
    rw [hE] at h2 ⊢
    have := fin p2 _ h2 rfl
    unfold rowsAt at this
    rw [List.map_map] at this
    exact this


def sp_l_all_marks : SpD := fun ds M Q _ => match ds with
  | [.tup [.int i, .tup es, us]] => ∃ (n : Nat) (R : List (List Int)), i = (n : Int) ∧ es = R.map dI ∧ n ≤ 60 ∧ Rows n R ∧ R.length ≤ 60 ∧
      ∀ p m M', Keep M M' → M p = none → M' p = some (.lst (m.map D.int)) → Clo n R m → Q (.ref p) M'
  | _ => False

theorem ok_l_all_marks (T : Txt K mg a w) : FnD P w K mg base CX0 3 a.f_l_all_marks a.d_l_all_marks ["_law_facts_here"] sp_l_all_marks := by
  refine okD T.F_l_all_marks sc_l_all_marks (fun ds M Q E h => ?_) (fun cdv A outer s H E hr hgd ds M Q E' h => ?_)
  · unfold sp_l_all_marks at h; split at h <;> first | rfl | exact h.elim
  refine ⟨_, (dss_one (ds_ret (de_call (ok_l_marks T) (hr.mono (by omega)) hgd (by rfl) T.G_l_marks T.F_l_marks.kp T.B_l_marks (da_cons (dv 0) (da_cons (de_listRg rfl (by rfl) T.z_list (drg_1 (by rfl) T.z_range (de_cb (ca_len) (by rfl) T.z_len PySem.boot_len (da_cons (de_ix (dv 0) de_int) da_nil)))) da_nil))))), ?_⟩
  unfold sp_l_all_marks at h
  split at h
  rotate_left
  · exact h.elim
  rename_i i es us
  obtain ⟨n, R, rfl, rfl, hn, hR, hl, q⟩ := h
  walk_at "st"
  rw [List.length_map]
  refine ⟨RgOk.of_le (by decide) (by omega) (by decide) (by omega), ?_⟩
  rw [rgD_rg, Int.toNat_natCast]
  intro p1 h1
  generalize hM1 : updM M p1 _ = M1
  obtain ⟨e1, K1, k1⟩ := upd_keep h1 hM1 .refl
  walk_at "st"
  refine ⟨n, R, rg R.length, rfl, rfl, hn, hR, .inr ⟨p1, rfl, e1⟩, by rw [rg_length]; exact hl, fun x hx => rg_mem.mp hx, fun p m M' k hp e c => ?_⟩
  rw [rowsAt_rg] at c
  exact q p m M' (K1.trans k) (K1.none hp) e c


def lotsL : Nat → List (List Int)
  | 0 => [[]]
  | k + 1 => lotsL k ++ (lotsL k).map fun l => l ++ [(k : Int)]
def lotD (l : List Int) : D := .tup [.int (l.length : Nat), dI l]
def unLot : D → List Int
  | .tup [_, .tup xs] => xs.map unI
  | _ => []
theorem unLot_D (l : List Int) : unLot (lotD l) = l := by
  show (l.map D.int).map unI = l
  rw [List.map_map]
  exact List.map_id' l
/-- all ascending tuples, the shorter first, of these the lesser -/
def lotS (k : Nat) : List (List Int) := (((lotsL k).map lotD).mergeSort (PySem.W.dataLe false rd)).map unLot
theorem lotS_perm (k : Nat) : (lotS k).Perm (lotsL k) := by
  have h := (List.mergeSort_perm ((lotsL k).map lotD) (PySem.W.dataLe false rd)).map unLot
  rw [List.map_map] at h
  have e : (lotsL k).map (unLot ∘ lotD) = lotsL k := (List.map_congr_left (g := id) fun l _ => unLot_D l).trans (List.map_id _)
  rw [e] at h
  exact h
theorem lotS_map (k : Nat) : (lotS k).map lotD = ((lotsL k).map lotD).mergeSort (PySem.W.dataLe false rd) := by
  unfold lotS
  rw [List.map_map]
  refine (List.map_congr_left (g := id) fun d hd => ?_).trans (List.map_id _)
  have := (List.mergeSort_perm ((lotsL k).map lotD) (PySem.W.dataLe false rd)).mem_iff.mp hd
  obtain ⟨l, _, rfl⟩ := List.mem_map.mp this
  show lotD (unLot (lotD l)) = _
  rw [unLot_D]
  rfl
theorem lots_len : ∀ k, (lotsL k).length = 2 ^ k
  | 0 => rfl
  | k + 1 => by
    rw [lotsL, List.length_append, List.length_map, lots_len k, Nat.pow_succ]
    omega
theorem lots_ok : ∀ k, ∀ l ∈ lotsL k, l.length ≤ k ∧ ∀ x ∈ l, 0 ≤ x ∧ x < (k : Int)
  | 0, l, h => by
    obtain rfl := List.mem_singleton.mp h
    exact ⟨Nat.le_refl _, fun x hx => absurd hx List.not_mem_nil⟩
  | k + 1, l, h => by
    rcases List.mem_append.mp h with h | h
    · have := lots_ok k l h
      exact ⟨by omega, fun x hx => by have := this.2 x hx; omega⟩
    · obtain ⟨l', h', rfl⟩ := List.mem_map.mp h
      have := lots_ok k l' h'
      refine ⟨by rw [List.length_append]; show l'.length + 1 ≤ _; omega, fun x hx => ?_⟩
      rcases List.mem_append.mp hx with hx | hx
      · have := this.2 x hx; omega
      · have := List.mem_singleton.mp hx; omega
theorem lots_full : ∀ k, rg k ∈ lotsL k
  | 0 => List.mem_singleton.mpr rfl
  | k + 1 => by
    refine List.mem_append_right _ (List.mem_map.mpr ⟨rg k, lots_full k, ?_⟩)
    unfold rg
    rw [List.range_succ, List.map_append]
    rfl
theorem rdAll_ints : ∀ ns : List Int, rdAll (ns.map D.int) = ns.map PyData.int
  | [] => by simp only [List.map_nil, rdAll]
  | n :: ns => by simp only [List.map_cons, rdAll, rd, rdAll_ints ns]
theorem rd_lot (l : List Int) : rd (lotD l) = .tuple [.int (l.length : Nat), pI l] := by
  unfold lotD
  simp only [rd, rdAll, rdAll_ints]
theorem lay_ints : ∀ ns : List Int, PyData.canLayAll0 (ns.map PyData.int) = true ∧ PyData.depthAll (ns.map PyData.int) = 0
  | [] => ⟨rfl, rfl⟩
  | n :: ns => by
    obtain ⟨a, b⟩ := lay_ints ns
    simp [PyData.canLayAll0, PyData.canLay0, PyData.depthAll, PyData.depth, a, b]
theorem pure_ints : ∀ ns : List Int, pureAll (ns.map D.int) = true
  | [] => rfl
  | n :: ns => by simp [pureAll, pureD, pure_ints ns]
theorem lot_data (l : List Int) : pureD (lotD l) = true ∧ (rd (lotD l)).canLay0 = true ∧ (rd (lotD l)).depth ≤ 20 := by
  obtain ⟨a, b⟩ := lay_ints l
  refine ⟨?_, ?_, ?_⟩
  · simp [lotD, pureD, pureAll, pure_ints]
  · rw [rd_lot]
    simp [PyData.canLay0, PyData.canLayAll0, a]
  · rw [rd_lot]
    simp [PyData.depth, PyData.depthAll, b]
theorem lots_alike (ls : List (List Int)) : PySem.W.AllAlike ((ls.map lotD).map rd) := fun d hd d' hd' => by
  obtain ⟨x, hx, rfl⟩ := List.mem_map.mp hd
  obtain ⟨l, _, rfl⟩ := List.mem_map.mp hx
  obtain ⟨x, hx, rfl⟩ := List.mem_map.mp hd'
  obtain ⟨l', _, rfl⟩ := List.mem_map.mp hx
  rw [rd_lot, rd_lot]
  simp only [PySem.W.alike, PySem.W.alikeAll, PySem.W.alike_ints, Bool.and_self]
theorem lots_sortable (ls : List (List Int)) : PySem.W.Sortable ((ls.map lotD).map rd) := .inl fun d hd => by
  obtain ⟨x, hx, rfl⟩ := List.mem_map.mp hd
  obtain ⟨l, _, rfl⟩ := List.mem_map.mp hx
  exact ⟨_, _, rd_lot l⟩
def sp_l_lots : SpD := fun ds M Q _ => match ds with
  | [.int i] => ∃ k : Nat, i = (k : Int) ∧ k ≤ 10 ∧ ∀ p M', Keep M M' → M p = none → M' p = some (.lst ((lotS k).map dI)) → Q (.ref p) M'
  | _ => False

theorem ok_l_lots (T : Txt K mg a w) : FnD P w K mg base CX0 1 a.f_l_lots a.d_l_lots ["_law_many"] sp_l_lots := by
  refine okD T.F_l_lots sc_l_lots (fun ds M Q E h => ?_) (fun cdv A outer s H E hr hgd ds M Q E' h => ?_)
  · unfold sp_l_lots at h; split at h <;> first | rfl | exact h.elim
  refine ⟨_, (dss_cons (ds_set (i := 1) sc_l_lots.nd rfl (Or.inl rfl) (de_lst (da_cons (de_tup da_nil) da_nil)))
      (dss_cons (ds_for PassesOwn.never rfl (di_rg1 (by rfl) T.z_range (da_cons (dv 0) da_nil)) (dg_name (i := 2) sc_l_lots.nd rfl (Or.inr rfl))
      (dss_one (ds_set (i := 1) sc_l_lots.nd rfl (Or.inl rfl) (de_bin br_add (dv 1) (de_lc rfl sc_l_lots.nd (own := [("_law_lot", 3)]) (own1 _ 3) (di_seq (dv 1)) (blkOk_by (by kernel_rfl)) (fun _ _ _ _ _ => (pg_name (i := 3) sc_l_lots.nd rfl (Or.inl rfl))) (fun _ _ _ _ _ => pts_y) (fun _ _ _ _ _ => (de_bin br_add (dv 3) (de_tup (da_cons (dv 2) da_nil)))))))))
      (dss_one (ds_ret (de_lc rfl sc_l_lots.nd (own := [("_law_size", 4), ("_law_lot", 3)]) (own2 _ (i := 4) (j := 3) (by decide)) (di_seq (de_cb (ca_sortG hr.units) (by rfl) T.z_sorted (by decide +kernel) (da_cons (de_lc rfl sc_l_lots.nd (own := [("_law_lot", 3)]) (own1 _ 3) (di_seq (dv 1)) (blkOk_by (by kernel_rfl)) (fun _ _ _ _ _ => (pg_name (i := 3) sc_l_lots.nd rfl (Or.inl rfl))) (fun _ _ _ _ _ => pts_y) (fun _ _ _ _ _ => (de_tup (da_cons (de_cb (ca_len) (by rfl) T.z_len PySem.boot_len (da_cons (dv 3) da_nil)) (da_cons (dv 3) da_nil))))) da_nil))) (blkOk_by (by kernel_rfl)) (fun _ _ _ _ _ => (pg_tup rfl (pgs_cons (pg_name (i := 4) sc_l_lots.nd rfl (Or.inl rfl)) (pgs_cons (pg_name (i := 3) sc_l_lots.nd rfl (Or.inl rfl)) pgs_nil)))) (fun _ _ _ _ _ => pts_y) (fun _ _ _ _ _ => (dv 3))))))), ?_⟩
  unfold sp_l_lots at h
  split at h
  rotate_left
  · exact h.elim
  rename_i i
  obtain ⟨k, rfl, hk, q⟩ := h
  have hz : sizeLine = 16777216 := rfl
  walk_at "st"
  intro p1 h1
  generalize hM1 : updM M p1 _ = M1
  obtain ⟨e1, K1, k1⟩ := upd_keep h1 hM1 .refl
  have e1 : M1 p1 = some (.lst ((lotsL 0).map dI)) := e1
  walk_at "st"
  refine ⟨by omega, by omega, ?_⟩
  refine .rngL (n := k) (fun t ρ M' => ∃ p, Keep M M' ∧ M p = none ∧ M' p = some (.lst ((lotsL t).map dI)) ∧ ∃ c2 c3 c4, ρ = [some (.int (k : Int)), some (.ref p), c2, c3, c4]) ⟨p1, K1, h1, e1, _, _, _, rfl⟩ (fun _ _ _ _ _ => trivial) ?_ ?_
  · rintro t ρ M2 ht ⟨p, K2, hp, e2, c2, c3, c4, rfl⟩
    have ll := lots_len t
    have lp : 2 ^ t ≤ 2 ^ 10 := Nat.pow_le_pow_right (by decide) (by omega)
    walk_at "st"
    refine ⟨_, e2, ?_⟩
    refine .mapL (xs := lotsL t) (F := dI) (fun l => dI (l ++ [(t : Int)])) (fun M' => M' = M2) (by omega) rfl (fun _ h => by rw [h]; exact e2) ?_ ?_
    · rintro l _ hl rfl Q' hQ'
      have := lots_ok t l hl
      walk_at "st"
      refine ⟨by rw [List.length_map]; show l.length + 1 ≤ _; omega, ?_⟩
      have := hQ' _ rfl
      unfold dI at this
      rw [List.map_append] at this
      exact this
    intro M3 p3 hE h3
    rw [hE] at h3 ⊢
    generalize hM4 : updM M2 p3 _ = M4
    obtain ⟨e4, K4, k4⟩ := upd_keep h3 hM4 K2
    walk_at "st"
    refine ⟨_, _, k4 _ _ e2, e4, by rw [List.length_map, List.length_map]; omega, ?_⟩
    intro p5 h5
    generalize hM5 : updM M4 p5 _ = M5
    obtain ⟨e5, K5, k5⟩ := upd_keep h5 hM5 K4
    refine ⟨p5, K5, K4.none h5, ?_, _, _, _, rfl⟩
    rw [e5, lotsL, List.map_append, List.map_map]
    rfl
  rintro ρ M2 ⟨p, K2, hp, e2, c2, c3, c4, rfl⟩
  have ll := lots_len k
  have lp : 2 ^ k ≤ 2 ^ 10 := Nat.pow_le_pow_right (by decide) hk
  walk_at "st"
  refine ⟨_, e2, ?_⟩
  refine .mapL (xs := lotsL k) (F := dI) lotD (fun M' => M' = M2) (by omega) rfl (fun _ h => by rw [h]; exact e2) ?_ ?_
  · rintro l _ hl rfl Q' hQ'
    walk_at "st"
    rw [List.length_map]
    exact hQ' _ rfl
  intro M3 p3 hE h3
  rw [hE] at h3 ⊢
  generalize hM4 : updM M2 p3 _ = M4
  obtain ⟨e4, K4, k4⟩ := upd_keep h3 hM4 K2
  walk_at "st"
  refine ⟨_, e4, fun d hd => ?_, lots_alike _, lots_sortable _, ?_⟩
  · obtain ⟨l, _, rfl⟩ := List.mem_map.mp hd
    exact lot_data l
  rw [← lotS_map]
  intro p6 h6
  generalize hM6 : updM M4 p6 _ = M6
  obtain ⟨e6, K6, k6⟩ := upd_keep h6 hM6 K4
  have ls : (lotS k).length = 2 ^ k := by rw [(lotS_perm k).length_eq]; exact ll
  walk_at "st"
  refine ⟨_, e6, ?_⟩
  refine .mapL (xs := lotS k) (F := lotD) dI (fun M' => M' = M6) (by omega) rfl (fun _ h => by rw [h]; exact e6) ?_ ?_
  · rintro l _ hl rfl Q' hQ'
    walk_at "st"
    exact hQ' _ rfl
  intro M7 p7 hE h7
  rw [hE] at h7 ⊢
  exact q p7 _ (K6.trans (Keep.new h7)) (K6.none h7) updM_same


open Classical in
/-- the two names of a row are one thing -/
noncomputable def oneB (n : Nat) (R : List (List Int)) (r : List Int) : Bool := decide (∀ m, Clo n R m → at0 m (at0 r 0) = at0 m (at0 r 1))
theorem oneB_of {n : Nat} {R : List (List Int)} {m : List Int} (h : Clo n R m) (r : List Int) : oneB n R r = decide (at0 m (at0 r 0) = at0 m (at0 r 1)) := by
  unfold oneB
  exact decide_eq_decide.mpr ⟨fun z => z m h, fun z m' h' => by rw [h'.unique h]; exact z⟩
theorem torn_none {m : List Int} {U : List (List Int)} : tornN m U = none ↔ ∀ r ∈ U, at0 m (at0 r 0) ≠ at0 m (at0 r 1) := by
  unfold tornN
  rw [List.findIdx?_eq_none_iff]
  exact ⟨fun h r hr z => absurd (h r hr) (by rw [decide_eq_true z]; exact fun y => Bool.noConfusion y), fun h r hr => decide_eq_false (h r hr)⟩
theorem pr_at {r : List Int} (h : r.length = 2) : r = [at0 r 0, at0 r 1] := by
  match r, h with
  | [x, y], _ => rfl
def sp_l_clash : SpD := fun ds M Q _ => match ds with
  | [.tup [.int i, .tup es, .tup us]] => ∃ (n : Nat) (R U : List (List Int)), i = (n : Int) ∧ es = R.map dI ∧ us = U.map dI ∧ n ≤ 60 ∧ Rows n R ∧ R.length ≤ 10 ∧ Prs n U ∧ U.length ≤ 60 ∧
      ∀ d M', Keep M M' → ((d = .non ∧ ∀ m, Clo n R m → tornN m U = none) ∨ ((∃ x l, d = .tup [.int x, dI l]) ∧ ∀ m, Clo n R m → tornN m U ≠ none)) → Q d M'
  | _ => False

theorem ok_l_clash (T : Txt K mg a w) : FnD P w K mg base CX0 4 a.f_l_clash a.d_l_clash ["_law_facts_here"] sp_l_clash := by
  refine okD T.F_l_clash sc_l_clash (fun ds M Q E h => ?_) (fun cdv A outer s H E hr hgd ds M Q E' h => ?_)
  · unfold sp_l_clash at h; split at h <;> first | rfl | exact h.elim
  refine ⟨_, (dss_cons (ds_if (dt_cp (cr_eqE hr.units) (de_lc rfl sc_l_clash.nd (own := [("_law_one", 4), ("_law_other", 5)]) (own2 _ (i := 4) (j := 5) (by decide)) (di_seq (de_ix (dv 0) de_int)) (blkOk_by (by kernel_rfl)) (fun _ _ _ _ _ => (pg_tup rfl (pgs_cons (pg_name (i := 4) sc_l_clash.nd rfl (Or.inl rfl)) (pgs_cons (pg_name (i := 5) sc_l_clash.nd rfl (Or.inl rfl)) pgs_nil)))) (fun _ _ _ _ _ => (pts_1 (dt_cp (cr_eq hr.units) (de_ix (de_call (ok_l_all_marks T) (hr.mono (by omega)) hgd (by rfl) T.G_l_all_marks T.F_l_all_marks.kp T.B_l_all_marks (da_cons (dv 0) da_nil)) (dv 4)) (de_ix (de_call (ok_l_all_marks T) (hr.mono (by omega)) hgd (by rfl) T.G_l_all_marks T.F_l_all_marks.kp T.B_l_all_marks (da_cons (dv 0) da_nil)) (dv 5))))) (fun _ _ _ _ _ => de_int)) (de_lst da_nil))
      (dss_one (ds_ret de_non))
      dss_nil)
      (dss_cons (ds_for PassesOwn.never rfl (di_seq (de_call (ok_l_lots T) (hr.mono (by omega)) hgd (by rfl) T.G_l_lots T.F_l_lots.kp T.B_l_lots (da_cons (de_cb (ca_len) (by rfl) T.z_len PySem.boot_len (da_cons (de_ix (dv 0) de_int) da_nil)) da_nil))) (dg_name (i := 1) sc_l_clash.nd rfl (Or.inl rfl))
      (dss_cons (ds_set (i := 2) sc_l_clash.nd rfl (Or.inr rfl) (de_call (ok_l_marks T) (hr.mono (by omega)) hgd (by rfl) T.G_l_marks T.F_l_marks.kp T.B_l_marks (da_cons (dv 0) (da_cons (dv 1) da_nil))))
      (dss_cons (ds_setLc (i := 3) rfl sc_l_clash.nd rfl rfl (sw_true rfl rfl rfl (by decide +kernel)) (own := [("_law_number", 6), ("_law_one", 4), ("_law_other", 5)]) (own12 _ (i := 6) (j := 4) (l := 5) (by decide) (by decide) (by decide)) (di_enumA (by rfl) T.z_enumerate (da_cons (de_ix (dv 0) de_int) da_nil)) (blkOk_by (by kernel_rfl)) (fun _ _ _ _ _ => (pg_tup rfl (pgs_cons (pg_name (i := 6) sc_l_clash.nd rfl (Or.inl rfl)) (pgs_cons (pg_tup rfl (pgs_cons (pg_name (i := 4) sc_l_clash.nd rfl (Or.inl rfl)) (pgs_cons (pg_name (i := 5) sc_l_clash.nd rfl (Or.inl rfl)) pgs_nil))) pgs_nil)))) (fun _ _ _ _ _ => (pts_1 (dt_cp (cr_eq hr.units) (de_ix (dv 2) (dv 4)) (de_ix (dv 2) (dv 5))))) (fun _ _ _ _ _ => (dv 6)))
      (dss_one (ds_if (dt_cp (cr_neE hr.units) (dv 3) (de_lst da_nil))
      (dss_one (ds_ret (de_tup (da_cons (de_ix (dv 3) de_int) (da_cons (dv 1) da_nil)))))
      dss_nil)))))
      (dss_one (ds_ret de_non)))), ?_⟩
  unfold sp_l_clash at h
  split at h
  rotate_left
  · exact h.elim
  rename_i i es us
  obtain ⟨n, R, U, rfl, rfl, rfl, hn, hR, hl, hU, hu, q⟩ := h
  have hz : sizeLine = 16777216 := rfl
  have prs : ∀ r ∈ U, r = [at0 r 0, at0 r 1] ∧ (0 ≤ at0 r 0 ∧ at0 r 0 < n) ∧ 0 ≤ at0 r 1 ∧ at0 r 1 < n := fun r hr => by
    have h := hU r hr
    have e := pr_at h.1
    refine ⟨e, ?_, ?_⟩
    · exact h.2 _ (at0_mem (by decide) (by omega))
    · exact h.2 _ (at0_mem (by decide) (by omega))
  walk_at "st"
  refine .filtL (xs := U) (F := dI) (oneB n R) (fun _ => .int 1) (fun M' => Keep M M') (by omega) .refl (fun _ _ => trivial) ?_ ?_
  · rintro r M1 hr k1 Q1 Q2 h1 h2
    obtain ⟨er, a0, a1⟩ := prs r hr
    rw [er]
    generalize at0 r 0 = x at *
    generalize at0 r 1 = y at *
    walk_at "st"
    refine ⟨n, R, rfl, rfl, hn, hR, by omega, fun p2 m M2 k2 hp2 e2 c2 => ?_⟩
    have ml := c2.mks.len
    walk_at "st"
    refine ⟨_, e2, ixQ_of (atI_ints a0.1 (by omega)) ?_⟩
    walk_at "st"
    refine ⟨n, R, rfl, rfl, hn, hR, by omega, fun p3 m3 M3 k3 hp3 e3 c3 => ?_⟩
    obtain rfl := c3.unique c2
    walk_at "st"
    refine ⟨_, e3, ixQ_of (atI_ints a1.1 (by omega)) ?_⟩
    have ob : oneB n R r = decide (at0 m3 x = at0 m3 y) := by
      rw [oneB_of c2, er]
      rfl
    rw [er] at ob
    walk_at "br"
    · intro hb
      have hb := of_decide_eq_true hb
      walk_at "st"
      exact h1 (by rw [er, ob]; exact decide_eq_true hb) _ (k1.trans (k2.trans k3))
    · intro hb
      have hb := of_decide_eq_false hb
      exact h2 (by rw [er, ob]; exact decide_eq_false hb) _ (k1.trans (k2.trans k3))
  intro M1 p1 k1 h1
  generalize hM2 : updM M1 p1 _ = M2
  obtain ⟨e2, K2, k2⟩ := upd_keep h1 hM2 k1
  walk_at "st"
  intro p3 h3
  generalize hM3 : updM M2 p3 _ = M3
  obtain ⟨e3, K3, k3⟩ := upd_keep h3 hM3 K2
  walk_at "st"
  refine ⟨_, k3 _ _ e2, e3, ?_⟩
  cases hf : U.filter (oneB n R) with
  | nil =>
    have hno := List.filter_eq_nil_iff.mp hf
    walk_at "st"
    refine q _ _ K3 (.inl ⟨rfl, fun m c => torn_none.mpr fun r hr z => ?_⟩)
    have := hno r hr
    rw [oneB_of c] at this
    exact this (decide_eq_true z)
  | cons r0 rest =>
    have h0 := List.mem_filter.mp (show r0 ∈ U.filter (oneB n R) by rw [hf]; exact List.mem_cons_self)
    have hyes : ∀ m, Clo n R m → tornN m U ≠ none := fun m c z => by
      have := h0.2
      rw [oneB_of c] at this
      exact torn_none.mp z r0 h0.1 (of_decide_eq_true this)
    walk_at "st"
    rw [List.length_map]
    walk_at "st"
    refine ⟨R.length, rfl, hl, fun p4 M4 k4 h4 e4 => ?_⟩
    walk_at "go"
    refine ⟨_, e4, ?_⟩
    have lots : ∀ l ∈ lotS R.length, l.length ≤ R.length ∧ ∀ x ∈ l, 0 ≤ x ∧ x < (R.length : Int) := fun l hl => lots_ok _ l ((lotS_perm _).mem_iff.mp hl)
    refine .seqL (xs := lotS R.length) (F := dI) (fun t ρ M' => Keep M4 M' ∧ (∀ u (hu : u < (lotS R.length).length), u < t → lotS R.length ≠ [] → (lotS R.length)[u] ≠ rg R.length) ∧ ∃ c1 c2 c3 c4 c5 c6, ρ = [some (.tup [.int (n : Int), .tup (R.map dI), .tup (U.map dI)]), c1, c2, c3, c4, c5, c6])
      ⟨.refl, fun _ _ h => absurd h (Nat.not_lt_zero _), _, _, _, _, _, _, rfl⟩ (fun _ _ _ _ z => z.1 _ _ e4) ?_ ?_
    rotate_left
    · rintro ρ M5 ⟨k5, hno, c1, c2, c3, c4, c5, c6, rfl⟩
      have := (lotS_perm R.length).mem_iff.mpr (lots_full R.length)
      obtain ⟨u, hu, e⟩ := List.getElem_of_mem this
      exact absurd e (hno u hu hu (fun z => by rw [z] at this; exact absurd this List.not_mem_nil))
    rintro t ρ M5 ht ⟨k5, hno, c1, c2, c3, c4, c5, c6, rfl⟩
    have hlt := lots _ (List.getElem_mem ht)
    generalize hlo : (lotS R.length)[t] = lo at *
    walk_at "st"
    refine ⟨n, R, lo, rfl, rfl, hn, hR, .inl rfl, by omega, hlt.2, fun p6 m M6 k6 hp6 e6 cl => ?_⟩
    have ml := cl.mks.len
    walk_at "st"
    refine .genIf (n := (U.map dI).length) (fun k acc => (∀ d ∈ acc, ∃ x, d = D.int x) ∧ acc.length ≤ k ∧ ∀ j (hj : j < U.length), j < k → at0 m (at0 U[j] 0) = at0 m (at0 U[j] 1) → acc ≠ []) (fun M' => M' = M6) (by rw [List.length_map]; omega) rfl ⟨fun d hd => absurd hd List.not_mem_nil, Nat.le_refl _, fun _ _ h => absurd h (Nat.not_lt_zero _)⟩ (fun _ _ => trivial) (fun k acc z => z.2.1) ?_ ?_
    · rintro k acc x M7 hk ⟨y, hy, rfl⟩ ⟨a1, a2, a3⟩ rfl Q1 Q2 h1 h2
      obtain ⟨hk', rfl⟩ := getD_map (show yL (U.map dI) k y from hy)
      obtain ⟨er, x0, x1⟩ := prs _ (List.getElem_mem hk')
      rw [er]
      have a4 : ∀ j (hj : j < U.length), j < k + 1 → at0 m (at0 U[k] 0) ≠ at0 m (at0 U[k] 1) → at0 m (at0 U[j] 0) = at0 m (at0 U[j] 1) → acc ≠ [] := fun j hj hjk hne e => by
        rcases Nat.lt_or_ge j k with lt | ge
        · exact a3 j hj lt e
        · obtain rfl : j = k := by omega
          exact absurd e hne
      generalize at0 U[k] 0 = x at *
      generalize at0 U[k] 1 = y at *
      walk_at "st"
      refine ⟨_, e6, ixQ_of (atI_ints x0.1 (by omega)) ?_⟩
      walk_at "st"
      refine ⟨_, e6, ixQ_of (atI_ints x1.1 (by omega)) ?_⟩
      walk_at "br"
      · intro hb
        walk_at "st"
        refine h1 _ _ ⟨fun d hd => ?_, by rw [List.length_append]; exact Nat.succ_le_succ a2, fun _ _ _ _ z => by simp at z⟩ rfl
        rcases List.mem_append.mp hd with hd | hd
        · exact a1 d hd
        · exact ⟨_, List.mem_singleton.mp hd⟩
      · intro hb
        have hb := of_decide_eq_false hb
        exact h2 _ ⟨a1, by omega, fun j hj hjk e => a4 j hj hjk hb e⟩ rfl
    rintro acc M7 p7 ⟨a1, a2, a3⟩ rfl h7
    generalize hM8 : updM M7 p7 _ = M8
    obtain ⟨e8, K8, k8⟩ := upd_keep h7 hM8 (k5.trans k6)
    walk_at "st"
    intro p9 h9
    generalize hM9 : updM M8 p9 _ = M9
    obtain ⟨e9, K9, k9⟩ := upd_keep h9 hM9 K8
    refine ⟨_, k9 _ _ e8, e9, ?_⟩
    cases acc with
    | nil =>
      walk_at "st"
      refine ⟨K9, fun u hu ut ne => ?_, _, _, _, _, _, _, rfl⟩
      rcases Nat.lt_or_ge u t with lt | ge
      · exact hno u hu lt ne
      · obtain rfl : u = t := by omega
        rw [hlo]
        intro e
        rw [e, rowsAt_rg] at cl
        refine hyes m cl (torn_none.mpr fun r hr z => ?_)
        obtain ⟨j, hj, rfl⟩ := List.getElem_of_mem hr
        exact a3 j hj (by rw [List.length_map]; exact hj) z rfl
    | cons d ds =>
      obtain ⟨x, rfl⟩ := a1 d List.mem_cons_self
      walk_at "st"
      refine ⟨_, k9 _ _ e8, ixQ_of atI0 ?_⟩
      walk_at "st"
      exact q _ _ (K3.trans (k4.trans K9)) (.inr ⟨⟨x, lo, rfl⟩, hyes⟩)


/-- facts of drawn names -/
structure Gfc (n : Nat) (R U : List (List Int)) : Prop where
  n0 : 1 ≤ n
  n1 : n ≤ 8
  rows : Rows n R
  few : R.length ≤ 10
  prs : Prs n U
  fewU : U.length ≤ 6
theorem Gfc.drop {n : Nat} {R U : List (List Int)} (h : Gfc n R U) (k : Nat) : Gfc n R (U.drop k) := ⟨h.n0, h.n1, h.rows, h.few, fun r hr => h.prs r (List.mem_of_mem_drop hr), by rw [List.length_drop]; have := h.fewU; omega⟩
def sp_l_good_facts : SpD := fun ds M Q _ => match ds with
  | [.ref l, .int i] => ∃ n : Nat, i = (n : Int) ∧ Bag M l ∧ 1 ≤ n ∧ n ≤ 8 ∧ ∀ R U M', Gfc n R U → (∀ m, Clo n R m → tornN m U = none) → Bg l M M' → Q (facD (n : Int) R U) M'
  | _ => False

theorem ok_l_good_facts (T : Txt K mg a w) : FnD P w K mg base CX0 5 a.f_l_good_facts a.d_l_good_facts ["_law_bag_here", "_law_names"] sp_l_good_facts := by
  refine okD T.F_l_good_facts sc_l_good_facts (fun ds M Q E h => ?_) (fun cdv A outer s H E hr hgd ds M Q E' h => ?_)
  · unfold sp_l_good_facts at h; split at h <;> first | rfl | exact h.elim
  refine ⟨_, (dss_cons (ds_set (i := 2) sc_l_good_facts.nd rfl (Or.inl rfl) (de_call (ok_l_facts T) (hr.mono (by omega)) hgd (by rfl) T.G_l_facts T.F_l_facts.kp T.B_l_facts (da_cons (dv 0) (da_cons (dv 1) da_nil))))
      (dss_cons (ds_for PassesOwn.never rfl (di_rg1 (by rfl) T.z_range (da_cons de_int da_nil)) (dg_name (i := 3) sc_l_good_facts.nd rfl (Or.inl rfl))
      (dss_cons (ds_if (dt_cp cr_is (de_call (ok_l_clash T) (hr.mono (by omega)) hgd (by rfl) T.G_l_clash T.F_l_clash.kp T.B_l_clash (da_cons (dv 2) da_nil)) de_non)
      (dss_one ds_break)
      dss_nil)
      (dss_one (ds_set (i := 2) sc_l_good_facts.nd rfl (Or.inl rfl) (de_tup (da_cons (dv 1) (da_cons (de_ix (dv 2) de_int) (da_cons (de_sl (de_ix (dv 2) de_int) (do_some de_int) do_none) da_nil))))))))
      (dss_one (ds_ret (dv 2))))), ?_⟩
  unfold sp_l_good_facts at h
  split at h
  rotate_left
  · exact h.elim
  rename_i l i
  obtain ⟨n, rfl, hB, n0, n1, q⟩ := h
  walk_at "st"
  refine ⟨hB, by omega, by omega, fun es us M1 F G1 => ?_⟩
  have hg : Gfc n es us := ⟨n0, n1, fun r hr => ⟨(F.rs.row r hr).1, fun x hx => by have := (F.rs.row r hr).2 x hx; omega⟩, F.rs.len, fun r hr => ⟨(F.ws.row r hr).1, fun x hx => by have := (F.ws.row r hr).2 x hx; omega⟩, F.ws.len⟩
  walk_at "st"
  refine ⟨by decide, by decide, ?_⟩
  refine .rngL (n := 20) (fun t ρ M' => Bg l M M' ∧ ∃ c, ρ = [some (.ref l), some (.int (n : Int)), some (facD (n : Int) es (us.drop t)), c]) ⟨G1, _, rfl⟩ (fun _ _ _ _ _ => trivial) ?_ ?_
  · rintro t ρ M2 ht ⟨G2, c, rfl⟩
    have hg2 := hg.drop t
    have dd : (us.drop t).drop 1 = us.drop (t + 1) := by rw [List.drop_drop]
    generalize us.drop t = U at *
    walk_at "st"
    refine ⟨n, es, U, rfl, rfl, rfl, by omega, hg.rows, hg.few, hg2.prs, by have := hg2.fewU; omega, fun d M3 k3 hd => ?_⟩
    rcases hd with ⟨rfl, hno⟩ | ⟨⟨x, lo, rfl⟩, hyes⟩
    · walk_at "st"
      exact q _ _ _ hg2 hno (G2.keep k3)
    · walk_at "st"
      have ec : cutD (U.map dI) (some 1) none = (us.drop (t + 1)).map dI := by
        rw [← dd, List.map_drop]
        cases U with
        | nil => rfl
        | cons r U => exact cut_drop (by decide) (by rw [List.length_map, List.length_cons]; omega)
      rw [ec]
      exact ⟨G2.keep k3, _, rfl⟩
  rintro ρ M2 ⟨G2, c, rfl⟩
  have e : us.drop 20 = [] := List.drop_eq_nil_of_le (by have := hg.fewU; omega)
  rw [e]
  walk_at "st"
  exact q _ _ _ (e ▸ hg.drop 20) (fun m _ => rfl) G2


/-- raw rows behind rows of marks -/
structure RawT (s : PS) (T : List (List Int)) : Prop where
  rows : Rows s.1.length T
  mem : ∀ x, x ∈ s.2 ↔ x ∈ img (at0 s.1) T
theorem raw_hit {s : PS} {T : List (List Int)} (h : RawT s T) (ok : SOk s) {w : Wd} {x y : Int} {r : List Int} (hr : r ∈ T) (e1 : at0 s.1 (at0 r w.pl.1) = x) (e2 : at0 s.1 (at0 r w.pl.2.1) = y) : thirdS w s x y = (at0 s.1 (at0 r w.pl.2.2), s) := by
  have r3 := row3 (h.rows r hr).1
  have hm : r.map (at0 s.1) ∈ s.2 := (h.mem _).mpr (List.mem_map.mpr ⟨r, hr, rfl⟩)
  have t : TW (RT s.2) w x y (at0 s.1 (at0 r w.pl.2.2)) := by
    rw [tw_row, ← e1, ← e2]
    rw [r3] at hm
    cases w <;> exact hm
  unfold thirdS
  cases e : tldR s.2 w.pl.1 w.pl.2.1 w.pl.2.2 x y with
  | some z => rw [ok.cl.tw (tld_T ok.rt.rows e) t]
  | none => exact absurd t (tld_no e _)
theorem raw_no {s : PS} {T : List (List Int)} (h : RawT s T) (ok : SOk s) {w : Wd} {x y : Int} (no : ∀ r ∈ T, ¬ (at0 s.1 (at0 r w.pl.1) = x ∧ at0 s.1 (at0 r w.pl.2.1) = y)) :
    thirdS w s x y = (((s.1.length : Nat) : Int), (s.1 ++ [((s.1.length : Nat) : Int)], s.2 ++ [rwW w x y (s.1.length : Nat)])) := by
  unfold thirdS
  cases e : tldR s.2 w.pl.1 w.pl.2.1 w.pl.2.2 x y with
  | none => rfl
  | some z =>
    have t := tld_T ok.rt.rows e
    rw [tw_row] at t
    obtain ⟨r, hr, er⟩ := List.mem_map.mp ((h.mem _).mp t)
    have r3 := row3 (h.rows r hr).1
    rw [r3] at er
    refine absurd ?_ (no r hr)
    cases w <;> simp only [rwW, List.map_cons, List.map_nil, List.cons.injEq, and_true] at er
    · exact ⟨er.1, er.2.1⟩
    · exact ⟨er.1, er.2.2⟩
    · exact ⟨er.2.1, er.2.2⟩
theorem raw_snoc {s : PS} {T : List (List Int)} (h : RawT s T) {w : Wd} {u v x y : Int} (hu : 0 ≤ u ∧ u < s.1.length) (hv : 0 ≤ v ∧ v < s.1.length) (eu : at0 s.1 u = x) (ev : at0 s.1 v = y) :
    RawT (s.1 ++ [((s.1.length : Nat) : Int)], s.2 ++ [rwW w x y (s.1.length : Nat)]) (T ++ [rwW w u v (s.1.length : Nat)]) := by
  have l1 : (s.1 ++ [((s.1.length : Nat) : Int)]).length = s.1.length + 1 := by rw [List.length_append]; rfl
  have eI : img (at0 (s.1 ++ [((s.1.length : Nat) : Int)])) (T ++ [rwW w u v (s.1.length : Nat)]) = img (at0 s.1) T ++ [rwW w x y (s.1.length : Nat)] := by
    unfold img
    rw [List.map_append]
    congr 1
    · exact List.map_congr_left fun r hr => List.map_congr_left fun z hz => at0_app ((h.rows r hr).2 z hz).1 ((h.rows r hr).2 z hz).2
    · rw [List.map_cons, List.map_nil]
      cases w <;> simp only [rwW, List.map_cons, List.map_nil, at0_app hu.1 hu.2, at0_app hv.1 hv.2, at0_end, eu, ev]
  refine ⟨fun r hr => ?_, fun z => ?_⟩
  · show r.length = 3 ∧ ∀ z ∈ r, 0 ≤ z ∧ z < (((s.1 ++ [((s.1.length : Nat) : Int)]).length : Nat) : Int)
    rw [l1]
    rcases List.mem_append.mp hr with hr | hr
    · exact ⟨(h.rows r hr).1, fun z hz => by have := (h.rows r hr).2 z hz; omega⟩
    · obtain rfl := List.mem_singleton.mp hr
      refine ⟨by cases w <;> rfl, fun z hz => ?_⟩
      cases w <;> simp only [rwW, List.mem_cons, List.not_mem_nil, or_false] at hz <;> omega
  · show z ∈ s.2 ++ _ ↔ z ∈ img (at0 (s.1 ++ _)) _
    rw [eI, List.mem_append, List.mem_append, h.mem]
def sp_l_put_ (k : Nat) : SpD := fun ds M Q _ => match ds with
  | [.ref p, .ref q, v] => ∃ (s : PS) (T : List (List Int)) (f : Fm) (nn : Int), M p = some (.lst (s.1.map D.int)) ∧ M q = some (.lst (T.map dI)) ∧ p ≠ q ∧ SOk s ∧ RawT s T ∧ v = fD f ∧ f.In nn ∧ nn ≤ (s.1.length : Nat) ∧ f.dep ≤ k ∧ s.1.length + f.sz ≤ 100 ∧ T.length + f.sz ≤ 100 ∧
      ∀ y T' M', M' p = some (.lst ((putS f s).2.1.map D.int)) → M' q = some (.lst (T'.map dI)) → RawT (putS f s).2 T' → 0 ≤ y → y < (((putS f s).2.1.length : Nat) : Int) → at0 (putS f s).2.1 y = (putS f s).1 → T'.length + 1 ≤ T.length + f.sz → Kp2 p q M M' → Q (.int y) M'
  | _ => False

def sp_l_put : Nat → SpD
  | 0 => fun _ _ _ _ => False
  | n + 1 => sp_l_put_ n
theorem ok_l_put (T : Txt K mg a w) : ∀ n : Nat, FnD P w K mg base CX0 (1 + n) a.f_l_put a.d_l_put ["_law_marks_here", "_law_rows", "_law_formula_here"] (sp_l_put n) := by
  intro n
  induction n with
  | zero => exact fnD_no fun _ _ _ _ z => z
  | succ n ih =>
  refine okD (k := 1 + n) T.F_l_put sc_l_put (fun ds M Q E h => ?_) (fun cdv A outer s H E hr hgd ds M Q E' h => ?_)
  · change sp_l_put_ n ds M Q E at h
    unfold sp_l_put_ at h; split at h <;> first | rfl | exact h.elim
  change sp_l_put_ n ds M Q E' at h
  refine ⟨_, (dss_cons (ds_if (dt_val (de_isi .int ki_int (by rfl) T.z_isinstance (by decide +kernel) (dv 2) (by rfl) T.z_int (by decide +kernel)))
      (dss_one (ds_ret (dv 2)))
      dss_nil)
      (dss_cons (ds_asg (dv 2) (dg_tup rfl (dgs_cons (dg_name (i := 3) sc_l_put.nd rfl (Or.inl rfl)) (dgs_cons (dg_name (i := 4) sc_l_put.nd rfl (Or.inl rfl)) (dgs_cons (dg_name (i := 5) sc_l_put.nd rfl (Or.inl rfl)) dgs_nil)))))
      (dss_cons (ds_par (i := 6) (j := 7) rfl sc_l_put.nd rfl rfl (by decide) rfl rfl (da_cons (de_call ih (hr.mono (by omega)) hgd (by rfl) T.G_l_put T.F_l_put.kp T.B_l_put (da_cons (dv 0) (da_cons (dv 1) (da_cons (dv 4) da_nil)))) (da_cons (de_call ih (hr.mono (by omega)) hgd (by rfl) T.G_l_put T.F_l_put.kp T.B_l_put (da_cons (dv 0) (da_cons (dv 1) (da_cons (dv 5) da_nil)))) da_nil)) (by rfl))
      (dss_cons (ds_asg (de_dix_ hr.units (de_dict (dps_cons de_str (de_tup (da_cons de_int (da_cons de_int (da_cons de_int da_nil)))) (dps_cons de_str (de_tup (da_cons de_int (da_cons de_int (da_cons de_int da_nil)))) (dps_cons de_str (de_tup (da_cons de_int (da_cons de_int (da_cons de_int da_nil)))) dps_nil)))) (dv 3)) (dg_tup rfl (dgs_cons (dg_name (i := 8) sc_l_put.nd rfl (Or.inl rfl)) (dgs_cons (dg_name (i := 9) sc_l_put.nd rfl (Or.inl rfl)) (dgs_cons (dg_name (i := 10) sc_l_put.nd rfl (Or.inl rfl)) dgs_nil)))))
      (dss_cons (ds_for PassesOwn.never rfl (di_seq (dv 1)) (dg_name (i := 11) sc_l_put.nd rfl (Or.inl rfl))
      (dss_one (ds_if (dt_w (dw_and (dt_cp (cr_eq hr.units) (de_ix (dv 0) (de_ix (dv 11) (dv 8))) (de_ix (dv 0) (dv 6))) (dw_and1 (dt_cp (cr_eq hr.units) (de_ix (dv 0) (de_ix (dv 11) (dv 9))) (de_ix (dv 0) (dv 7))))))
      (dss_one (ds_ret (de_ix (dv 11) (dv 10))))
      dss_nil)))
      (dss_cons (ds_set (i := 11) sc_l_put.nd rfl (Or.inl rfl) (de_bin br_rep (de_lst (da_cons (de_cb (ca_len) (by rfl) T.z_len PySem.boot_len (da_cons (dv 0) da_nil)) da_nil)) de_int))
      (dss_cons (ds_asg (de_tup (da_cons (dv 6) (da_cons (dv 7) da_nil))) (dg_tup rfl (dgs_cons (dg_sub (dv 11) (dv 8) st_list) (dgs_cons (dg_sub (dv 11) (dv 9) st_list) dgs_nil))))
      (dss_cons (ds_expr (de_ml PySem.F.slot_list_append PySem.F.type_list_append mr_append (dv 1) (da_cons (de_ct ca_tuple (by rfl) T.z_tuple PyProof.Rows.boot_tuple (da_cons (dv 11) da_nil)) da_nil)))
      (dss_cons (ds_expr (de_ml PySem.F.slot_list_append PySem.F.type_list_append mr_append (dv 0) (da_cons (de_cb (ca_len) (by rfl) T.z_len PySem.boot_len (da_cons (dv 0) da_nil)) da_nil)))
      (dss_one (ds_ret (de_bin br_sub (de_cb (ca_len) (by rfl) T.z_len PySem.boot_len (da_cons (dv 0) da_nil)) de_int)))))))))))), ?_⟩
  unfold sp_l_put_ at h
  split at h
  rotate_left
  · exact h.elim
  rename_i p q0 v
  obtain ⟨s, T, f, nn, ep, eq, npq, hS, hT, rfl, hf, hn, hk, hl, hl', q⟩ := h
  have hz : sizeLine = 16777216 := rfl
  cases f with
  | nm i =>
    walk_at "st"
    exact q i T M ep eq hT hf.1 (by have := hf.2; show i < ((s.1.length : Nat) : Int); omega) rfl (Nat.le_refl _) .refl
  | op w A B =>
    have hk : max A.dep B.dep + 1 ≤ n := hk
    have hl : s.1.length + (A.sz + B.sz + 1) ≤ 100 := hl
    have hl' : T.length + (A.sz + B.sz + 1) ≤ 100 := hl'
    obtain ⟨k, rfl⟩ : ∃ k, n = k + 1 := ⟨n - 1, by omega⟩
    have oa := put_ok hS hf.1 hn
    have l1 := oa.le.len
    have l2 := oa.len
    have ob := put_ok oa.ok hf.2 (by omega : nn ≤ _)
    have l4 := ob.len
    have q : ∀ y T' M', M' p = some (.lst ((thirdS w (putS B (putS A s).2).2 (putS A s).1 (putS B (putS A s).2).1).2.1.map D.int)) → M' q0 = some (.lst (T'.map dI)) → RawT (thirdS w (putS B (putS A s).2).2 (putS A s).1 (putS B (putS A s).2).1).2 T' → 0 ≤ y → y < (((thirdS w (putS B (putS A s).2).2 (putS A s).1 (putS B (putS A s).2).1).2.1.length : Nat) : Int) → at0 (thirdS w (putS B (putS A s).2).2 (putS A s).1 (putS B (putS A s).2).1).2.1 y = (thirdS w (putS B (putS A s).2).2 (putS A s).1 (putS B (putS A s).2).1).1 → T'.length + 1 ≤ T.length + (A.sz + B.sz + 1) → Kp2 p q0 M M' → Q (.int y) M' := q
    walk_at "st"
    refine ⟨s, T, A, nn, ep, eq, npq, hS, hT, rfl, hf.1, hn, by omega, by omega, by omega, fun u T1 M1 ep1 eq1 hT1 u0 u1 eu lT1 K1 => ?_⟩
    walk_at "st"
    refine ⟨_, T1, B, nn, ep1, eq1, npq, oa.ok, hT1, rfl, hf.2, by omega, by omega, by omega, by omega, fun v T2 M2 ep2 eq2 hT2 v0 v1 ev lT2 K2 => ?_⟩
    have K12 := K1.trans K2
    have eu2 : at0 (putS B (putS A s).2).2.1 u = (putS A s).1 := by rw [ob.le.at_ u0 u1]; exact eu
    have u2 : u < (((putS B (putS A s).2).2.1.length : Nat) : Int) := by have := ob.le.len; omega
    have hS2 := ob.ok
    generalize (putS A s).1 = x at *
    generalize (putS B (putS A s).2).1 = y at *
    generalize (putS B (putS A s).2).2 = S at *
    walk_at "st"
    intro p3 h3
    generalize hM3 : updM M2 p3 _ = M3
    obtain ⟨e3, K3, k3⟩ := upd_keep h3 hM3 .refl
    have e3 : M3 p3 = some (.dct [(.inr "with", D.tup [.int 0, .int 1, .int 2]), (.inr "behind", D.tup [.int 0, .int 2, .int 1]), (.inr "ahead", D.tup [.int 1, .int 2, .int 0])]) := e3
    have vl : valD (κ := L2.Key) [(.inr "with", D.tup [.int 0, .int 1, .int 2]), (.inr "behind", D.tup [.int 0, .int 2, .int 1]), (.inr "ahead", D.tup [.int 1, .int 2, .int 0])] (.inr w.str) = some (.tup [.int w.pl.1, .int w.pl.2.1, .int w.pl.2.2]) := by cases w <;> rfl
    have ep3 := k3 _ _ ep2
    have eq3 := k3 _ _ eq2
    have kp3 : Kp2 p q0 M M3 := K12.trans k3.kp.kp2
    walk_at "st"
    refine ⟨_, e3, ?_⟩
    rw [vl]
    obtain ⟨i0, i1, j0, j1, k0, kk1⟩ := w.pl_ok.in_
    walk_at "st"
    refine ⟨_, eq3, ?_⟩
    refine .seqL (xs := T2) (F := dI) (fun t ρ M' => M' = M3 ∧ (∀ u' (hu : u' < T2.length), u' < t → ¬ (at0 S.1 (at0 T2[u'] w.pl.1) = x ∧ at0 S.1 (at0 T2[u'] w.pl.2.1) = y)) ∧ ∃ c11, ρ = [some (.ref p), some (.ref q0), some (fD (.op w A B)), some (.str w.str), some (fD A), some (fD B), some (.int u), some (.int v), some (.int w.pl.1), some (.int w.pl.2.1), some (.int w.pl.2.2), c11])
      ⟨rfl, fun _ _ h => absurd h (Nat.not_lt_zero _), _, rfl⟩ (fun _ _ _ _ z => by rw [z.1]; exact eq3) ?_ ?_
    · rintro t ρ M4 ht ⟨rfl, hno, c11, rfl⟩
      have hr := List.getElem_mem ht
      have stay : ¬ (at0 S.1 (at0 T2[t] w.pl.1) = x ∧ at0 S.1 (at0 T2[t] w.pl.2.1) = y) → ∀ u' (hu : u' < T2.length), u' < t + 1 → ¬ (at0 S.1 (at0 T2[u'] w.pl.1) = x ∧ at0 S.1 (at0 T2[u'] w.pl.2.1) = y) := fun hn u' hu ut => by
        rcases Nat.lt_or_ge u' t with lt | ge
        · exact hno u' hu lt
        · obtain rfl : u' = t := by omega
          exact hn
      generalize T2[t] = r at *
      have rl := (hT2.rows r hr).1
      have ri := hT2.rows.at_ hr i0 i1
      have rj := hT2.rows.at_ hr j0 j1
      have rk := hT2.rows.at_ hr k0 kk1
      have ari : atI (r.map D.int) w.pl.1 = some (.int (at0 r w.pl.1)) := atI_ints i0 (by omega)
      have arj : atI (r.map D.int) w.pl.2.1 = some (.int (at0 r w.pl.2.1)) := atI_ints j0 (by omega)
      have ark : atI (r.map D.int) w.pl.2.2 = some (.int (at0 r w.pl.2.2)) := atI_ints k0 (by omega)
      walk_at "st"
      rw [ari]
      walk_at "st"
      refine ⟨_, ep3, ixQ_of (atI_ints ri.1 ri.2) ?_⟩
      walk_at "st"
      refine ⟨_, ep3, ixQ_of (atI_ints u0 u2) ?_⟩
      rw [eu2]
      walk_at "br"
      · intro g1
        have g1 : at0 S.1 (at0 r w.pl.1) = x := of_decide_eq_true g1
        walk_at "st"
        rw [arj]
        walk_at "st"
        refine ⟨_, ep3, ixQ_of (atI_ints rj.1 rj.2) ?_⟩
        walk_at "st"
        refine ⟨_, ep3, ixQ_of (atI_ints v0 v1) ?_⟩
        rw [ev]
        walk_at "br"
        · intro g2
          have g2 : at0 S.1 (at0 r w.pl.2.1) = y := of_decide_eq_true g2
          rw [raw_hit hT2 hS2 hr g1 g2] at q
          walk_at "st"
          rw [ark]
          walk_at "st"
          exact q _ T2 _ ep3 eq3 hT2 rk.1 rk.2 rfl (by omega) kp3
        · intro g2
          have g2 : at0 S.1 (at0 r w.pl.2.1) ≠ y := of_decide_eq_false g2
          walk_at "st"
          exact ⟨stay fun z => g2 z.2, _, rfl⟩
      · intro g1
        have g1 : at0 S.1 (at0 r w.pl.1) ≠ x := of_decide_eq_false g1
        walk_at "st"
        exact ⟨stay fun z => g1 z.1, _, rfl⟩
    rintro ρ M4 ⟨rfl, hno, c11, rfl⟩
    rw [raw_no hT2 hS2 (fun r hr => by
      obtain ⟨u', hu, rfl⟩ := List.getElem_of_mem hr
      exact hno u' hu hu)] at q
    have hT3 := raw_snoc hT2 (w := w) ⟨u0, u2⟩ ⟨v0, v1⟩ eu2 ev
    have l1 : (S.1 ++ [((S.1.length : Nat) : Int)]).length = S.1.length + 1 := by rw [List.length_append]; rfl
    walk_at "st"
    refine ⟨_, ep3, ?_⟩
    rw [List.length_map]
    walk_at "st"
    intro p5 h5
    generalize hM5 : updM M4 p5 _ = M5
    obtain ⟨e5, K5, k5⟩ := upd_keep h5 hM5 .refl
    walk_at "st"
    refine ⟨_, e5, by decide, by decide, Nat.le_of_ble_eq_true rfl, ?_⟩
    intro p6 h6
    generalize hM6 : updM M5 p6 _ = M6
    obtain ⟨e6, K6, k6⟩ := upd_keep h6 hM6 k5
    have e6 : M6 p6 = some (.lst [.int ((S.1.length : Nat) : Int), .int ((S.1.length : Nat) : Int), .int ((S.1.length : Nat) : Int)]) := e6
    walk_at "st"
    refine ⟨_, w.pl.1.toNat, e6, ixN_nn i0 i1, ?_⟩
    generalize hM7 : updM M6 p6 _ = M7
    obtain ⟨e7, K7⟩ := upd_again hM7 h6 k6
    walk_at "st"
    refine ⟨_, w.pl.2.1.toNat, e7, by rw [List.length_set]; exact ixN_nn j0 j1, ?_⟩
    generalize hM8 : updM M7 p6 _ = M8
    obtain ⟨e8, K8⟩ := upd_again hM8 h6 K7
    have e8 : M8 p6 = some (.lst ((rwW w u v (S.1.length : Nat)).map D.int)) := by rw [e8]; cases w <;> rfl
    have K48 := k5.trans K8
    have ep8 := K48 _ _ ep3
    have eq8 := K48 _ _ eq3
    walk_at "st"
    refine ⟨⟨_, eq8⟩, ?_⟩
    walk_at "st"
    refine ⟨_, e8, ?_⟩
    walk_at "st"
    refine ⟨_, eq8, by rw [List.length_map]; omega, ?_⟩
    have er : T2.map dI ++ [D.tup ((rwW w u v (S.1.length : Nat)).map D.int)] = (T2 ++ [rwW w u v (S.1.length : Nat)]).map dI := by rw [List.map_append]; rfl
    rw [er]
    generalize hM9 : updM M8 q0 _ = M9
    have eq9 : M9 q0 = some (.lst ((T2 ++ [rwW w u v (S.1.length : Nat)]).map dI)) := by rw [← hM9]; exact updM_same
    have ep9 : M9 p = some (.lst (S.1.map D.int)) := by rw [← hM9, updM_ne npq]; exact ep8
    walk_at "st"
    refine ⟨⟨_, ep9⟩, ?_⟩
    walk_at "st"
    refine ⟨_, ep9, ?_⟩
    rw [List.length_map]
    walk_at "st"
    refine ⟨_, ep9, by rw [List.length_map]; omega, ?_⟩
    have en : S.1.map D.int ++ [D.int ((S.1.length : Nat) : Int)] = (S.1 ++ [((S.1.length : Nat) : Int)]).map D.int := by rw [List.map_append]; rfl
    rw [en]
    generalize hM10 : updM M9 p _ = M10
    have ep10 : M10 p = some (.lst ((S.1 ++ [((S.1.length : Nat) : Int)]).map D.int)) := by rw [← hM10]; exact updM_same
    have eq10 : M10 q0 = some (.lst ((T2 ++ [rwW w u v (S.1.length : Nat)]).map dI)) := by rw [← hM10, updM_ne (Ne.symm npq)]; exact eq9
    walk_at "st"
    refine ⟨_, ep10, ?_⟩
    rw [List.length_map, l1]
    walk_at "st"
    have ei : ((S.1.length + 1 : Nat) : Int) - 1 = ((S.1.length : Nat) : Int) := by omega
    show Q (.int (((S.1.length + 1 : Nat) : Int) - 1)) M10
    rw [ei]
    refine q _ _ _ ep10 eq10 hT3 (by omega) (by show ((S.1.length : Nat) : Int) < (((S.1 ++ [((S.1.length : Nat) : Int)]).length : Nat) : Int); omega) at0_end (by rw [List.length_append]; show T2.length + 1 + 1 ≤ _; omega) fun b o b1 b2 e => ?_
    rw [← hM10, updM_ne b1, ← hM9, updM_ne b2]
    exact K48 _ _ (kp3 _ _ b1 b2 e)


def sp_l_is_same : SpD := fun ds M Q _ => match ds with
  | [.tup [.int i, .tup es, .tup us], u, v] => ∃ (n : Nat) (R U : List (List Int)) (f g : Fm), i = (n : Int) ∧ es = R.map dI ∧ us = U.map dI ∧ FcG n R U ∧ u = fD f ∧ v = fD g ∧ FmG n f ∧ FmG n g ∧
      ∀ b M', Keep M M' → SmF n R f g b → Q (.bl b) M'
  | _ => False

theorem ok_l_is_same (T : Txt K mg a w) : FnD P w K mg base CX0 11 a.f_l_is_same a.d_l_is_same ["_law_facts_here", "_law_one", "_law_other"] sp_l_is_same := by
  refine okD T.F_l_is_same sc_l_is_same (fun ds M Q E h => ?_) (fun cdv A outer s H E hr hgd ds M Q E' h => ?_)
  · unfold sp_l_is_same at h; split at h <;> first | rfl | exact h.elim
  refine ⟨_, (dss_cons (ds_par (i := 3) (j := 4) rfl sc_l_is_same.nd rfl rfl (by decide) rfl rfl (da_cons (de_call (ok_l_all_marks T) (hr.mono (by omega)) hgd (by rfl) T.G_l_all_marks T.F_l_all_marks.kp T.B_l_all_marks (da_cons (dv 0) da_nil)) (da_cons (de_ct ca_list (by rfl) T.z_list PyProof.Rows.boot_list (da_cons (de_ix (dv 0) de_int) da_nil)) da_nil)) (by rfl))
      (dss_cons (ds_par (i := 5) (j := 6) rfl sc_l_is_same.nd rfl rfl (by decide) rfl rfl (da_cons (de_call (ok_l_put T 9) (hr.mono (by omega)) hgd (by rfl) T.G_l_put T.F_l_put.kp T.B_l_put (da_cons (dv 3) (da_cons (dv 4) (da_cons (dv 1) da_nil)))) (da_cons (de_call (ok_l_put T 9) (hr.mono (by omega)) hgd (by rfl) T.G_l_put T.F_l_put.kp T.B_l_put (da_cons (dv 3) (da_cons (dv 4) (da_cons (dv 2) da_nil)))) da_nil)) (by rfl))
      (dss_one (ds_ret (de_cp (cr_eq hr.units) (de_ix (dv 3) (dv 5)) (de_ix (dv 3) (dv 6))))))), ?_⟩
  unfold sp_l_is_same at h
  split at h
  rotate_left
  · exact h.elim
  rename_i i es us u v
  obtain ⟨n, R, U, f, g, rfl, rfl, rfl, hF, rfl, rfl, hf, hg, q⟩ := h
  have hz : sizeLine = 16777216 := rfl
  have hn := hF.small
  have hl := hF.few
  have sf := hf.sz
  have sg := hg.sz
  walk_at "go"
  refine ⟨n, R, rfl, rfl, by omega, hF.rows, by omega, fun p1 m M1 K1 h1 e1 cl => ?_⟩
  have ml := cl.mks.len
  walk_at "st"
  intro p2 h2
  generalize hM2 : updM M1 p2 _ = M2
  obtain ⟨e2, K2, k2⟩ := upd_keep h2 hM2 K1
  have e12 := k2 _ _ e1
  have n12 : p1 ≠ p2 := ne_none e1 h2
  have hI : ∀ x, x ∈ img (at0 m) R ↔ x ∈ img (at0 m) R := fun _ => Iff.rfl
  have hS := sok_of cl hF.rows hI
  have hT : RawT (m, img (at0 m) R) R := ⟨by show Rows m.length R; rw [ml]; exact hF.rows, fun _ => Iff.rfl⟩
  have nn : (n : Int) ≤ (((m, img (at0 m) R) : PS).1.length : Nat) := by show (n : Int) ≤ ((m.length : Nat) : Int); omega
  have of_ := put_ok hS hf.in_ nn
  have l1 : m.length ≤ _ := of_.le.len
  have l2 : _ ≤ m.length + _ := of_.len
  have og := put_ok of_.ok hg.in_ (by omega : (n : Int) ≤ _)
  have l4 := og.len
  walk_at "st"
  refine ⟨_, R, f, n, e12, e2, n12, hS, hT, rfl, hf.in_, nn, hf.dep, by show m.length + _ ≤ 100; omega, by omega, fun y T1 M3 ep3 eq3 hT1 y0 y1 ey lT1 K3 => ?_⟩
  walk_at "st"
  refine ⟨_, T1, g, n, ep3, eq3, n12, of_.ok, hT1, rfl, hg.in_, by omega, hg.dep, by omega, by omega, fun z T2 M4 ep4 eq4 hT2 z0 z1 ez lT2 K4 => ?_⟩
  have K14 : Keep M M4 := fun b o e => K4 _ _ (ne_none e h1) (ne_none (K1 _ _ e) h2) (K3 _ _ (ne_none e h1) (ne_none (K1 _ _ e) h2) (K2 _ _ e))
  have ey2 : at0 (putS g (putS f (m, img (at0 m) R)).2).2.1 y = (putS f (m, img (at0 m) R)).1 := by rw [og.le.at_ y0 y1]; exact ey
  have y2 : y < (((putS g (putS f (m, img (at0 m) R)).2).2.1.length : Nat) : Int) := by have := og.le.len; omega
  walk_at "st"
  refine ⟨_, ep4, ixQ_of (atI_ints y0 y2) ?_⟩
  walk_at "st"
  refine ⟨_, ep4, ixQ_of (atI_ints z0 z1) ?_⟩
  rw [ey2, ez]
  walk_at "st"
  exact q _ _ K14 (.ofP cl hF.rows hI hf.in_ hg.in_)


def nearL (f : Fm) (o : Int) : List Fm := [.op .w (.nm o) (.op .b (.nm o) f), .op .w (.op .a (.nm o) f) (.nm o), .op .b (.nm o) (.op .w (.nm o) f), .op .b (.op .a f (.nm o)) (.nm o), .op .a (.nm o) (.op .w f (.nm o)), .op .a (.op .b f (.nm o)) (.nm o)]
theorem nearL_ok {n : Int} {f g : Fm} {o : Int} (hf : f.In n) (o0 : 0 ≤ o) (o1 : o < n) (h : g ∈ nearL f o) : g.In n ∧ g.dep ≤ f.dep + 2 := by
  simp only [nearL, List.mem_cons, List.not_mem_nil, or_false] at h
  rcases h with rfl | rfl | rfl | rfl | rfl | rfl
  all_goals
    refine ⟨?_, ?_⟩
    · simp only [Fm.In, hf, o0, o1, and_self]
    · simp only [Fm.dep]; omega
def sp_l_near_ (k : Nat) : SpD := fun ds M Q _ => match ds with
  | [.ref l, v, .int i] => ∃ (n : Nat) (f : Fm), i = (n : Int) ∧ v = fD f ∧ Bag M l ∧ 1 ≤ n ∧ n ≤ 8 ∧ f.In n ∧ f.dep ≤ k ∧ ∀ (g : Fm) M', g.In n → g.dep ≤ f.dep + 3 → Bg l M M' → Q (fD g) M'
  | _ => False

def sp_l_near : Nat → SpD
  | 0 => fun _ _ _ _ => False
  | n + 1 => sp_l_near_ n
theorem ok_l_near (T : Txt K mg a w) : ∀ n : Nat, FnD P w K mg base CX0 (8 + n) a.f_l_near a.d_l_near ["_law_bag_here", "_law_formula_here", "_law_names"] (sp_l_near n) := by
  intro n
  induction n with
  | zero => exact fnD_no fun _ _ _ _ z => z
  | succ n ih =>
  refine okD (k := 8 + n) T.F_l_near sc_l_near (fun ds M Q E h => ?_) (fun cdv A outer s H E hr hgd ds M Q E' h => ?_)
  · change sp_l_near_ n ds M Q E at h
    unfold sp_l_near_ at h; split at h <;> first | rfl | exact h.elim
  change sp_l_near_ n ds M Q E' at h
  refine ⟨_, (dss_cons (ds_par (i := 3) (j := 4) rfl sc_l_near.nd rfl rfl (by decide) rfl rfl (da_cons (de_call (ok_l_draw T) (hr.mono (by omega)) hgd (by rfl) T.G_l_draw T.F_l_draw.kp T.B_l_draw (da_cons (dv 0) (da_cons de_int da_nil))) (da_cons (de_call (ok_l_draw T) (hr.mono (by omega)) hgd (by rfl) T.G_l_draw T.F_l_draw.kp T.B_l_draw (da_cons (dv 0) (da_cons (dv 2) da_nil))) da_nil)) (by rfl))
      (dss_cons (ds_set (i := 5) sc_l_near.nd rfl (Or.inl rfl) (de_lst (da_cons (de_tup (da_cons de_str (da_cons (dv 4) (da_cons (de_tup (da_cons de_str (da_cons (dv 4) (da_cons (dv 1) da_nil)))) da_nil)))) (da_cons (de_tup (da_cons de_str (da_cons (de_tup (da_cons de_str (da_cons (dv 4) (da_cons (dv 1) da_nil)))) (da_cons (dv 4) da_nil)))) (da_cons (de_tup (da_cons de_str (da_cons (dv 4) (da_cons (de_tup (da_cons de_str (da_cons (dv 4) (da_cons (dv 1) da_nil)))) da_nil)))) da_nil)))))
      (dss_cons (ds_set (i := 5) sc_l_near.nd rfl (Or.inl rfl) (de_bin br_add (dv 5) (de_lst (da_cons (de_tup (da_cons de_str (da_cons (de_tup (da_cons de_str (da_cons (dv 1) (da_cons (dv 4) da_nil)))) (da_cons (dv 4) da_nil)))) (da_cons (de_tup (da_cons de_str (da_cons (dv 4) (da_cons (de_tup (da_cons de_str (da_cons (dv 1) (da_cons (dv 4) da_nil)))) da_nil)))) da_nil)))))
      (dss_cons (ds_set (i := 5) sc_l_near.nd rfl (Or.inl rfl) (de_bin br_add (dv 5) (de_lst (da_cons (de_tup (da_cons de_str (da_cons (de_tup (da_cons de_str (da_cons (dv 1) (da_cons (dv 4) da_nil)))) (da_cons (dv 4) da_nil)))) da_nil))))
      (dss_cons (ds_if (dt_cp cr_lt (dv 3) de_int)
      (dss_one (ds_ret (de_ix (dv 5) (dv 3))))
      dss_nil)
      (dss_cons (ds_if (dt_w (dw_or (dt_val (de_isi .int ki_int (by rfl) T.z_isinstance (by decide +kernel) (dv 1) (by rfl) T.z_int (by decide +kernel))) (dw_or1 (dt_cp (cr_eq hr.units) (dv 3) de_int))))
      (dss_one (ds_ret (de_call (ok_l_formula T 4) (hr.mono (by omega)) hgd (by rfl) T.G_l_formula T.F_l_formula.kp T.B_l_formula (da_cons (dv 0) (da_cons (dv 2) (da_cons de_int da_nil))))))
      dss_nil)
      (dss_one (ds_ret (de_tup (da_cons (de_ix (dv 1) de_int) (da_cons (de_call ih (hr.mono (by omega)) hgd (by rfl) T.G_l_near T.F_l_near.kp T.B_l_near (da_cons (dv 0) (da_cons (de_ix (dv 1) de_int) (da_cons (dv 2) da_nil)))) (da_cons (de_ix (dv 1) de_int) da_nil)))))))))))), ?_⟩
  unfold sp_l_near_ at h
  split at h
  rotate_left
  · exact h.elim
  rename_i l v i
  obtain ⟨nn, f, rfl, rfl, hB, n0, n1, hf, hk, q⟩ := h
  walk_at "st"
  refine ⟨hB, by decide, by decide, fun w M1 w0 w1 hB1 hE1 => ?_⟩
  have G1 : Bg l M M1 := ⟨hB1, hE1⟩
  walk_at "st"
  refine ⟨hB1, by omega, by omega, fun o M2 o0 o1 hB2 hE2 => ?_⟩
  have G2 := G1.trans ⟨hB2, hE2⟩
  walk_at "st"
  intro p3 h3
  generalize hM3 : updM M2 p3 _ = M3
  obtain ⟨e3, n3, G3, k3⟩ := upd_facts h3 hM3 G2
  walk_at "st"
  intro p4 h4
  generalize hM4 : updM M3 p4 _ = M4
  obtain ⟨e4, n4, G4, k4⟩ := upd_facts h4 hM4 G3
  walk_at "st"
  refine ⟨_, _, k4 _ _ e3, e4, Nat.le_of_ble_eq_true rfl, ?_⟩
  intro p5 h5
  generalize hM5 : updM M4 p5 _ = M5
  obtain ⟨e5, n5, G5, k5⟩ := upd_facts h5 hM5 G4
  walk_at "st"
  intro p6 h6
  generalize hM6 : updM M5 p6 _ = M6
  obtain ⟨e6, n6, G6, k6⟩ := upd_facts h6 hM6 G5
  walk_at "st"
  refine ⟨_, _, k6 _ _ e5, e6, Nat.le_of_ble_eq_true rfl, ?_⟩
  intro p7 h7
  generalize hM7 : updM M6 p7 _ = M7
  obtain ⟨e7, n7, G7, k7⟩ := upd_facts h7 hM7 G6
  have e7 : M7 p7 = some (.lst ((nearL f o).map fD)) := e7
  walk_at "br"
  · intro hw
    have hw : w < 6 := of_decide_eq_true hw
    have hi : w.toNat < (nearL f o).length := by show w.toNat < 6; omega
    have item : atI ((nearL f o).map fD) w = some (fD (nearL f o)[w.toNat]) := by
      rw [atI_map, atI_nn w0 (by show w < 6; exact hw), List.getElem?_eq_getElem hi]
      rfl
    have ok := nearL_ok hf o0 o1 (List.getElem_mem hi)
    walk_at "st"
    refine ⟨_, e7, ixQ_of item ?_⟩
    walk_at "st"
    exact q _ _ ok.1 (by omega) G7
  · intro hw
    cases f with
    | nm j =>
      walk_at "st"
      refine ⟨G7.bag, by omega, by omega, by decide, by decide, fun d M8 hd G8 => ?_⟩
      obtain ⟨g, rfl, g1, g2⟩ := hd.fo.fm
      exact q g M8 g1 (Nat.le_trans g2 (Nat.le_add_left _ _)) (G7.trans G8)
    | op w' A B =>
      have hk : max A.dep B.dep + 1 ≤ n := hk
      have fd : (Fm.op w' A B).dep = max A.dep B.dep + 1 := rfl
      obtain ⟨k, rfl⟩ : ∃ k, n = k + 1 := ⟨n - 1, by omega⟩
      walk_at "br"
      · intro _
        walk_at "st"
        refine ⟨G7.bag, by omega, by omega, by decide, by decide, fun d M8 hd G8 => ?_⟩
        obtain ⟨g, rfl, g1, g2⟩ := hd.fo.fm
        exact q g M8 g1 (Nat.le_trans g2 (Nat.le_add_left _ _)) (G7.trans G8)
      · intro _
        walk_at "st"
        refine ⟨nn, A, rfl, rfl, G7.bag, n0, n1, hf.1, by omega, fun g M8 g1 g2 G8 => ?_⟩
        walk_at "st"
        exact q (.op w' g B) M8 ⟨g1, hf.2⟩ (by rw [fd]; show max g.dep B.dep + 1 ≤ _; omega) (G7.trans G8)


theorem Gfc.fcg {n : Nat} {R U : List (List Int)} (h : Gfc n R U) (ht : ∀ m, Clo n R m → tornN m U = none) : FcG n R U := ⟨by have := h.n1; omega, h.rows, by have := h.few; omega, h.prs, ht⟩
theorem bl_vl {b : Bool} {l : Addr} {M : Mp} : Vl l M 0 100 (.bl b) := by
  cases b <;> exact Vl.pure (by decide +kernel) (by decide +kernel) (by decide +kernel) (by decide +kernel)
def sp_law : SpD := fun ds M Q _ => match ds with
  | [.fl xs] => ∃ ns : List Int, xs = ns.map D.int ∧ ns.length ≤ sizeLine ∧ ∀ M', Q (.bl true) M'
  | _ => False

theorem ok_law (T : Txt K mg a w) : FnD P w K mg base CX0 20 a.f_law a.d_law ["_law_script"] sp_law := by
  refine okD T.F_law sc_law (fun ds M Q E h => ?_) (fun cdv A outer s H E hr hgd ds M Q E' h => ?_)
  · unfold sp_law at h; split at h <;> first | rfl | exact h.elim
  refine ⟨_, (dss_cons (ds_set (i := 1) sc_law.nd rfl (Or.inl rfl) (de_call (ok_l_bag T) (hr.mono (by omega)) hgd (by rfl) T.G_l_bag T.F_l_bag.kp T.B_l_bag (da_cons (dv 0) da_nil)))
      (dss_cons (ds_for PassesOwn.never rfl (di_rg1 (by rfl) T.z_range (da_cons de_int da_nil)) (dg_name (i := 2) sc_law.nd rfl (Or.inl rfl))
      (dss_cons (ds_set (i := 3) sc_law.nd rfl (Or.inl rfl) (de_bin br_add de_int (de_call (ok_l_draw T) (hr.mono (by omega)) hgd (by rfl) T.G_l_draw T.F_l_draw.kp T.B_l_draw (da_cons (dv 1) (da_cons de_int da_nil)))))
      (dss_cons (ds_set (i := 4) sc_law.nd rfl (Or.inl rfl) (de_call (ok_l_good_facts T) (hr.mono (by omega)) hgd (by rfl) T.G_l_good_facts T.F_l_good_facts.kp T.B_l_good_facts (da_cons (dv 1) (da_cons (dv 3) da_nil))))
      (dss_one (ds_for PassesOwn.never rfl (di_rg1 (by rfl) T.z_range (da_cons de_int da_nil)) (dg_name (i := 5) sc_law.nd rfl (Or.inl rfl))
      (dss_cons (ds_set (i := 6) sc_law.nd rfl (Or.inl rfl) (de_call (ok_l_formula T 4) (hr.mono (by omega)) hgd (by rfl) T.G_l_formula T.F_l_formula.kp T.B_l_formula (da_cons (dv 1) (da_cons (dv 3) (da_cons (de_call (ok_l_draw T) (hr.mono (by omega)) hgd (by rfl) T.G_l_draw T.F_l_draw.kp T.B_l_draw (da_cons (dv 1) (da_cons de_int da_nil))) da_nil)))))
      (dss_cons (ds_set (i := 7) sc_law.nd rfl (Or.inl rfl) (de_call (ok_l_pick T) (hr.mono (by omega)) hgd (by rfl) T.G_l_pick T.F_l_pick.kp T.B_l_pick (da_cons (dv 1) (da_cons (de_lst (da_cons (de_call (ok_l_near T 11) (hr.mono (by omega)) hgd (by rfl) T.G_l_near T.F_l_near.kp T.B_l_near (da_cons (dv 1) (da_cons (dv 6) (da_cons (dv 3) da_nil)))) (da_cons (de_call (ok_l_formula T 4) (hr.mono (by omega)) hgd (by rfl) T.G_l_formula T.F_l_formula.kp T.B_l_formula (da_cons (dv 1) (da_cons (dv 3) (da_cons de_int da_nil)))) (da_cons (de_call (ok_l_draw T) (hr.mono (by omega)) hgd (by rfl) T.G_l_draw T.F_l_draw.kp T.B_l_draw (da_cons (dv 1) (da_cons (dv 3) da_nil))) da_nil)))) da_nil))))
      (dss_one (ds_if (dt_cp cr_le (de_call (ok_l_count T 14) (hr.mono (by omega)) hgd (by rfl) T.G_l_count T.F_l_count.kp T.B_l_count (da_cons (dv 7) da_nil)) de_int)
      (dss_cons (ds_set (i := 8) sc_law.nd rfl (Or.inl rfl) (de_call (ok_l_is_same T) (hr.mono (by omega)) hgd (by rfl) T.G_l_is_same T.F_l_is_same.kp T.B_l_is_same (da_cons (dv 4) (da_cons (dv 6) (da_cons (dv 7) da_nil)))))
      (dss_cons (ds_if (dt_cp (cr_ne hr.units) (de_cb (ca_repr hgd (un_of hr)) (by rfl) T.z_repr (by decide +kernel) (da_cons (de_lst (da_cons (de_call (ok_same T) (hr.mono (by omega)) hgd (by rfl) T.G_same T.F_same.kp T.B_same (da_cons (dv 4) (da_cons (dv 6) (da_cons (dv 7) da_nil)))) (da_cons (de_call (ok_same T) (hr.mono (by omega)) hgd (by rfl) T.G_same T.F_same.kp T.B_same (da_cons (dv 4) (da_cons (dv 7) (da_cons (dv 6) da_nil)))) (da_cons (de_call (ok_same T) (hr.mono (by omega)) hgd (by rfl) T.G_same T.F_same.kp T.B_same (da_cons (dv 4) (da_cons (dv 6) (da_cons (dv 6) da_nil)))) da_nil)))) da_nil)) (de_cb (ca_repr hgd (un_of hr)) (by rfl) T.z_repr (by decide +kernel) (da_cons (de_lst (da_cons (dv 8) (da_cons (dv 8) (da_cons de_bl da_nil)))) da_nil)))
      (dss_one (ds_ret de_bl))
      dss_nil)
      (dss_cons (ds_par (i := 9) (j := 10) rfl sc_law.nd rfl rfl (by decide) rfl rfl (da_cons (de_call (ok_l_pick T) (hr.mono (by omega)) hgd (by rfl) T.G_l_pick T.F_l_pick.kp T.B_l_pick (da_cons (dv 1) (da_cons (de_lst (da_cons de_str (da_cons de_str (da_cons de_str da_nil)))) da_nil))) (da_cons (de_call (ok_l_draw T) (hr.mono (by omega)) hgd (by rfl) T.G_l_draw T.F_l_draw.kp T.B_l_draw (da_cons (dv 1) (da_cons (dv 3) da_nil))) da_nil)) (by rfl))
      (dss_cons (ds_if (dt_cp (cr_ne hr.units) (de_call (ok_same T) (hr.mono (by omega)) hgd (by rfl) T.G_same T.F_same.kp T.B_same (da_cons (dv 4) (da_cons (de_tup (da_cons (dv 9) (da_cons (dv 6) (da_cons (dv 10) da_nil)))) (da_cons (de_tup (da_cons (dv 9) (da_cons (dv 7) (da_cons (dv 10) da_nil)))) da_nil)))) (dv 8))
      (dss_one (ds_ret de_bl))
      dss_nil)
      (dss_one (ds_if (dt_cp (cr_ne hr.units) (de_call (ok_same T) (hr.mono (by omega)) hgd (by rfl) T.G_same T.F_same.kp T.B_same (da_cons (dv 4) (da_cons (de_tup (da_cons (dv 9) (da_cons (dv 10) (da_cons (dv 6) da_nil)))) (da_cons (de_tup (da_cons (dv 9) (da_cons (dv 10) (da_cons (dv 7) da_nil)))) da_nil)))) (dv 8))
      (dss_one (ds_ret de_bl))
      dss_nil))))))
      dss_nil)))))))))
      (dss_one (ds_ret de_bl)))), ?_⟩
  unfold sp_law at h
  split at h
  rotate_left
  · exact h.elim
  obtain ⟨ns, rfl, hn, q⟩ := h
  have hz : sizeLine = 16777216 := rfl
  walk_at "go"
  refine ⟨ns, rfl, hn, fun l M1 hB1 => ?_⟩
  walk_at "st"
  refine ⟨by decide, by decide, ?_⟩
  refine .all (fun ρ M' => Bag M' l ∧ ∃ c2 c3 c4 c5 c6 c7 c8 c9 c10, ρ = [some (.fl (ns.map D.int)), some (.ref l), c2, c3, c4, c5, c6, c7, c8, c9, c10]) ⟨hB1, _, _, _, _, _, _, _, _, _, rfl⟩ (fun _ _ _ => trivial) ?_ fun _ M' _ => q M'
  rintro i x ρ M2 hi rfl ⟨hB2, c2, c3, c4, c5, c6, c7, c8, c9, c10, rfl⟩
  walk_at "st"
  refine ⟨hB2, by decide, by decide, fun k M3 k0 k1 hB3 hE3 => ?_⟩
  obtain ⟨n, hn'⟩ : ∃ n : Nat, 1 + k = n := ⟨(1 + k).toNat, by omega⟩
  walk_at "st"
  rw [hn']
  refine ⟨n, rfl, hB3, by omega, by omega, fun R U M4 hg hno G4 => ?_⟩
  have few := hg.few
  have hF := hg.fcg hno
  walk_at "st"
  refine ⟨by decide, by decide, ?_⟩
  refine .all (fun ρ M' => Bag M' l ∧ ∃ c2 c5 c6 c7 c8 c9 c10, ρ = [some (.fl (ns.map D.int)), some (.ref l), c2, some (.int n), some (facD n R U), c5, c6, c7, c8, c9, c10]) ⟨G4.bag, _, _, _, _, _, _, _, rfl⟩ (fun _ _ _ => trivial) ?_ ?_
  rotate_left
  · rintro ρ M5 ⟨hB5, d2, d5, d6, d7, d8, d9, d10, rfl⟩
    exact ⟨hB5, _, _, _, _, _, _, _, _, _, rfl⟩
  rintro j x ρ M5 hj rfl ⟨hB5, d2, d5, d6, d7, d8, d9, d10, rfl⟩
  walk_at "st"
  refine ⟨hB5, by decide, by decide, fun dp M6 d0 d1 hB6 hE6 => ?_⟩
  walk_at "st"
  refine ⟨hB6, by omega, by omega, by omega, by show dp ≤ 3; omega, fun d M7 hd G7 => ?_⟩
  obtain ⟨f, rfl, hf, fd⟩ := hd.fo.fm
  have fd : f.dep ≤ 3 := fd
  have fz : f.sz + 1 ≤ 2 ^ 4 := Nat.le_trans f.sz_dep (Nat.pow_le_pow_right (by decide) (by omega))
  have fG : FmG n f := ⟨hf, by omega, by omega⟩
  walk_at "st"
  refine ⟨n, f, rfl, rfl, G7.bag, by omega, by omega, hf, by show f.dep ≤ 10; omega, fun g1 M8 hg1 gd1 G8 => ?_⟩
  walk_at "st"
  refine ⟨G8.bag, by omega, by omega, by decide, by decide, fun d M9 hd G9 => ?_⟩
  obtain ⟨g2, rfl, hg2, gd2⟩ := hd.fo.fm
  have gd2 : g2.dep ≤ 3 := gd2
  walk_at "st"
  refine ⟨G9.bag, by omega, by omega, fun x3 M10 x30 x31 hB10 hE10 => ?_⟩
  walk_at "st"
  intro p12 h12
  generalize hM12 : updM M10 p12 _ = M12
  obtain ⟨e12, n12, G12, k12⟩ := upd_facts h12 hM12 (Bg.refl hB10)
  have e12 : M12 p12 = some (.lst ([g1, g2, .nm x3].map fD)) := e12
  walk_at "st"
  refine ⟨G12.bag, _, .inr ⟨p12, rfl, n12, e12⟩, Nat.le_of_ble_eq_true rfl, Nat.le_of_ble_eq_true rfl, fun d M13 hd hB13 hE13 => ?_⟩
  obtain ⟨g, hgm, rfl⟩ := List.mem_map.mp hd
  have hg' : g.In n ∧ g.dep ≤ 13 := by
    simp only [List.mem_cons, List.not_mem_nil, or_false] at hgm
    rcases hgm with rfl | rfl | rfl
    · exact ⟨hg1, by omega⟩
    · exact ⟨hg2, by omega⟩
    · exact ⟨⟨x30, x31⟩, Nat.zero_le _⟩
  walk_at "st"
  refine ⟨g, rfl, hg'.2, ?_⟩
  walk_at "br"
  rotate_left
  · intro _
    walk_at "st"
    exact ⟨hB13, _, _, _, _, _, _, _, rfl⟩
  intro hc
  have hc : (g.sz : Int) ≤ 13 := of_decide_eq_true hc
  have dz := g.dep_sz2
  have gG : FmG n g := ⟨hg'.1, by omega, by omega⟩
  walk_at "st"
  refine ⟨n, R, U, f, g, rfl, rfl, rfl, hF, rfl, rfl, fG, gG, fun b M14 K14 V14 => ?_⟩
  walk_at "st"
  refine ⟨n, R, U, f, g, rfl, rfl, rfl, hF, rfl, rfl, fG, gG, fun b2 M15 K15 V15 => ?_⟩
  obtain rfl := V15.uniq V14
  walk_at "st"
  refine ⟨n, R, U, g, f, rfl, rfl, rfl, hF, rfl, rfl, gG, fG, fun b3 M16 K16 V16 => ?_⟩
  obtain rfl := V16.symm.uniq V14
  walk_at "st"
  refine ⟨n, R, U, f, f, rfl, rfl, rfl, hF, rfl, rfl, fG, fG, fun b4 M17 K17 V17 => ?_⟩
  obtain rfl := V17.self
  have K17 := K14.trans (K15.trans (K16.trans K17))
  walk_at "st"
  intro p18 h18
  generalize hM18 : updM M17 p18 _ = M18
  obtain ⟨e18, K18, k18⟩ := upd_keep h18 hM18 K17
  obtain ⟨P, sP, rP⟩ := lst_shw (l := l) (M := M13) (n := 0) (w := 100) (ds := [.bl b3, .bl b3, .bl true]) (by
    walk_at "vls" <;> exact bl_vl) (by decide) (by simp only [List.length_cons, List.length_nil]; omega)
  walk_at "st"
  refine ⟨P, rP _ _ K18 e18, sP, ?_⟩
  walk_at "st"
  intro p19 h19
  generalize hM19 : updM M18 p19 _ = M19
  obtain ⟨e19, K19, k19⟩ := upd_keep h19 hM19 K18
  walk_at "st"
  refine ⟨P, rP _ _ K19 e19, sP, ?_⟩
  walk_at "st"
  refine br_f (sg_ne _) ?_
  have hB19 := hB13.keep K19
  walk_at "st"
  intro p20 h20
  generalize hM20 : updM M19 p20 _ = M20
  obtain ⟨e20, n20, G20, k20⟩ := upd_facts h20 hM20 (Bg.refl hB19)
  have e20 : M20 p20 = some (.lst [.str "with", .str "behind", .str "ahead"]) := e20
  walk_at "st"
  refine ⟨G20.bag, _, .inr ⟨p20, rfl, n20, e20⟩, Nat.le_of_ble_eq_true rfl, Nat.le_of_ble_eq_true rfl, fun d M21 hd hB21 hE21 => ?_⟩
  obtain ⟨w, rfl⟩ : ∃ w : Wd, d = .str w.str := by
    simp only [List.mem_cons, List.not_mem_nil, or_false] at hd
    rcases hd with rfl | rfl | rfl
    · exact ⟨.w, rfl⟩
    · exact ⟨.b, rfl⟩
    · exact ⟨.a, rfl⟩
  walk_at "st"
  refine ⟨hB21, by omega, by omega, fun o M22 o0 o1 hB22 hE22 => ?_⟩
  have ho : (Fm.nm o).In n := ⟨o0, o1⟩
  have sw : ∀ f g : Fm, (Fm.op w f g).sz = f.sz + g.sz + 1 := fun _ _ => rfl
  have dw : ∀ f g : Fm, (Fm.op w f g).dep = max f.dep g.dep + 1 := fun _ _ => rfl
  have so : (Fm.nm o).sz = 1 := rfl
  have do_ : (Fm.nm o).dep = 0 := rfl
  have hop : ∀ f : Fm, f.In n → f.dep ≤ 7 → f.sz ≤ 16 → FmG n (.op w f (.nm o)) ∧ FmG n (.op w (.nm o) f) := fun f h1 h2 h3 => by
    refine ⟨⟨⟨h1, ho⟩, ?_, ?_⟩, ⟨⟨ho, h1⟩, ?_, ?_⟩⟩
    · rw [dw, do_]; omega
    · rw [sw, so]; omega
    · rw [dw, do_]; omega
    · rw [sw, so]; omega
  have of_ := hop f hf (by omega) (by omega)
  have og := hop g hg'.1 (by omega) (by omega)
  walk_at "st"
  refine ⟨n, R, U, .op w f (.nm o), .op w g (.nm o), rfl, rfl, rfl, hF, rfl, rfl, of_.1, og.1, fun b5 M23 K23 V23 => ?_⟩
  obtain rfl := (V23.canL hF.rows hf hg'.1 ho).uniq V14
  walk_at "st"
  refine br_f (by cases b5 <;> rfl) ?_
  walk_at "st"
  refine ⟨n, R, U, .op w (.nm o) f, .op w (.nm o) g, rfl, rfl, rfl, hF, rfl, rfl, of_.2, og.2, fun b6 M24 K24 V24 => ?_⟩
  obtain rfl := (V24.canR hF.rows hf hg'.1 ho).uniq V14
  walk_at "st"
  refine br_f (by cases b6 <;> rfl) ?_
  exact ⟨hB22.keep (K23.trans K24), _, _, _, _, _, _, _, rfl⟩

end
theorem all_mk {l : PySem.W.OpenLaw} {w : World} {K : PySem.W.Frag} {h : Heap} {mg : Str → Option Value} {fa : Addr} (X : K.In h) (G : h.Ns mainGlobals mg) (hfa : mg "law" = some (.ref fa))
    {f1 f2 f3 f4 f5 f6 f7 f8 f9 f10 f11 f12 f13 f14 f15 f16 f17 f18 f19 f20 f21 f22 f23 f24 f25 f26 f27 f28 f29 f30 f31 f32 f33 f34 f35 f36 f37 f38 f39 f40 f41 f42 f43 f44 f45 f46 f47 f48 f49 : Addr} {od1 an1 od2 an2 od3 an3 od4 an4 od5 an5 od6 an6 od7 an7 od8 an8 od9 an9 od10 an10 od11 an11 od12 an12 od13 an13 od14 an14 od15 an15 od16 an16 od17 an17 od18 an18 od19 an19 od20 an20 od21 an21 od22 an22 od23 an23 od24 an24 od25 an25 od26 an26 od27 an27 od28 an28 od29 an29 od30 an30 od31 an31 od32 an32 od33 an33 od34 an34 od35 an35 od36 an36 od37 an37 od38 an38 od39 an39 od40 an40 od41 an41 od42 an42 od43 an43 od44 an44 od45 an45 od46 an46 od47 an47 od48 an48 od49 an49 : Option Addr} {sl1 sl2 sl3 sl4 sl5 sl6 sl7 sl8 sl9 sl10 sl11 sl12 sl13 sl14 sl15 sl16 sl17 sl18 sl19 sl20 sl21 sl22 sl23 sl24 sl25 sl26 sl27 sl28 sl29 sl30 sl31 sl32 sl33 sl34 sl35 sl36 sl37 sl38 sl39 sl40 sl41 sl42 sl43 sl44 sl45 sl46 sl47 sl48 sl49 : Array (Option Value)} {oc1 kV1 dc1 pm1 cd1 ct1 oc2 kV2 dc2 pm2 cd2 ct2 oc3 kV3 dc3 pm3 cd3 ct3 oc4 kV4 dc4 pm4 cd4 ct4 oc5 kV5 dc5 pm5 cd5 ct5 oc6 kV6 dc6 pm6 cd6 ct6 oc7 kV7 dc7 pm7 cd7 ct7 oc8 kV8 dc8 pm8 cd8 ct8 oc9 kV9 dc9 pm9 cd9 ct9 oc10 kV10 dc10 pm10 cd10 ct10 oc11 kV11 dc11 pm11 cd11 ct11 oc12 kV12 dc12 pm12 cd12 ct12 oc13 kV13 dc13 pm13 cd13 ct13 oc14 kV14 dc14 pm14 cd14 ct14 oc15 kV15 dc15 pm15 cd15 ct15 oc16 kV16 dc16 pm16 cd16 ct16 oc17 kV17 dc17 pm17 cd17 ct17 oc18 kV18 dc18 pm18 cd18 ct18 oc19 kV19 dc19 pm19 cd19 ct19 oc20 kV20 dc20 pm20 cd20 ct20 oc21 kV21 dc21 pm21 cd21 ct21 oc22 kV22 dc22 pm22 cd22 ct22 oc23 kV23 dc23 pm23 cd23 ct23 oc24 kV24 dc24 pm24 cd24 ct24 oc25 kV25 dc25 pm25 cd25 ct25 oc26 kV26 dc26 pm26 cd26 ct26 oc27 kV27 dc27 pm27 cd27 ct27 oc28 kV28 dc28 pm28 cd28 ct28 oc29 kV29 dc29 pm29 cd29 ct29 oc30 kV30 dc30 pm30 cd30 ct30 oc31 kV31 dc31 pm31 cd31 ct31 oc32 kV32 dc32 pm32 cd32 ct32 oc33 kV33 dc33 pm33 cd33 ct33 oc34 kV34 dc34 pm34 cd34 ct34 oc35 kV35 dc35 pm35 cd35 ct35 oc36 kV36 dc36 pm36 cd36 ct36 oc37 kV37 dc37 pm37 cd37 ct37 oc38 kV38 dc38 pm38 cd38 ct38 oc39 kV39 dc39 pm39 cd39 ct39 oc40 kV40 dc40 pm40 cd40 ct40 oc41 kV41 dc41 pm41 cd41 ct41 oc42 kV42 dc42 pm42 cd42 ct42 oc43 kV43 dc43 pm43 cd43 ct43 oc44 kV44 dc44 pm44 cd44 ct44 oc45 kV45 dc45 pm45 cd45 ct45 oc46 kV46 dc46 pm46 cd46 ct46 oc47 kV47 dc47 pm47 cd47 ct47 oc48 kV48 dc48 pm48 cd48 ct48 oc49 kV49 dc49 pm49 cd49 ct49 : Value}
    {CO1 : Addr} (oa1 : PySem.W.nsIn K mainGlobals "Closing" = some (some (.ref CO1))) (ob1 : PySem.W.plainGet K CO1 Str.empty = true) (oc1_ : PySem.W.hasDictIn K CO1 = true) (od1_ : PySem.W.plainOver K CO1 = true) (oe1 : PySem.W.findIn K (.ref CO1) "__setattr__" = some (some (.builtin "object.__setattr__"))) (of1 : PySem.W.makesIn K CO1 = true) (og1 : PySem.W.keepIn K (.ref CO1) = true)
    (on1_0 : PySem.W.findIn K (.ref CO1) "elder" = some none)
    (on1_1 : PySem.W.findIn K (.ref CO1) "rows" = some none)
    (a1 : PySem.W.nsIn K mainGlobals "_wall" = some (some (.ref f1))) (l1 : K.lookup f1 = some ⟨oc1, od1, .func (PySem.W.fnOf "_wall" "_wall" (defArgs s_wall) (defBody s_wall) (defScope s_wall) .none kV1 dc1 pm1 an1 cd1 ct1), sl1⟩) (c1 : PySem.W.codeIn K cd1 "_wall" = true) (k1 : PySem.W.keepIn K (.ref f1) = true)
    (a2 : PySem.W.nsIn K mainGlobals "choices" = some (some (.ref f2))) (l2 : K.lookup f2 = some ⟨oc2, od2, .func (PySem.W.fnOf "choices" "choices" (defArgs s_choices) (defBody s_choices) (defScope s_choices) .none kV2 dc2 pm2 an2 cd2 ct2), sl2⟩) (c2 : PySem.W.codeIn K cd2 "choices" = true) (k2 : PySem.W.keepIn K (.ref f2) = true)
    (a3 : PySem.W.nsIn K mainGlobals "is_name" = some (some (.ref f3))) (l3 : K.lookup f3 = some ⟨oc3, od3, .func (PySem.W.fnOf "is_name" "is_name" (defArgs s_is_name) (defBody s_is_name) (defScope s_is_name) .none kV3 dc3 pm3 an3 cd3 ct3), sl3⟩) (c3 : PySem.W.codeIn K cd3 "is_name" = true) (k3 : PySem.W.keepIn K (.ref f3) = true)
    (a4 : PySem.W.findIn K (.ref CO1) "__init__" = some (some (.ref f4))) (i4 : PySem.W.isFn K (.ref f4) = true) (l4 : K.lookup f4 = some ⟨oc4, od4, .func (PySem.W.fnOf "__init__" "Closing.__init__" (defArgs s_Closing_xinit) (defBody s_Closing_xinit) (defScope s_Closing_xinit) .none kV4 dc4 pm4 an4 cd4 ct4), sl4⟩) (c4 : PySem.W.codeIn K cd4 "Closing.__init__" = true) (k4 : PySem.W.keepIn K (.ref f4) = true)
    (a5 : PySem.W.findIn K (.ref CO1) "root" = some (some (.ref f5))) (i5 : PySem.W.isFn K (.ref f5) = true) (l5 : K.lookup f5 = some ⟨oc5, od5, .func (PySem.W.fnOf "root" "Closing.root" (defArgs s_Closing_root) (defBody s_Closing_root) (defScope s_Closing_root) .none kV5 dc5 pm5 an5 cd5 ct5), sl5⟩) (c5 : PySem.W.codeIn K cd5 "Closing.root" = true) (k5 : PySem.W.keepIn K (.ref f5) = true)
    (a6 : PySem.W.findIn K (.ref CO1) "join" = some (some (.ref f6))) (i6 : PySem.W.isFn K (.ref f6) = true) (l6 : K.lookup f6 = some ⟨oc6, od6, .func (PySem.W.fnOf "join" "Closing.join" (defArgs s_Closing_join) (defBody s_Closing_join) (defScope s_Closing_join) .none kV6 dc6 pm6 an6 cd6 ct6), sl6⟩) (c6 : PySem.W.codeIn K cd6 "Closing.join" = true) (k6 : PySem.W.keepIn K (.ref f6) = true)
    (a7 : PySem.W.findIn K (.ref CO1) "rooted" = some (some (.ref f7))) (i7 : PySem.W.isFn K (.ref f7) = true) (l7 : K.lookup f7 = some ⟨oc7, od7, .func (PySem.W.fnOf "rooted" "Closing.rooted" (defArgs s_Closing_rooted) (defBody s_Closing_rooted) (defScope s_Closing_rooted) .none kV7 dc7 pm7 an7 cd7 ct7), sl7⟩) (c7 : PySem.W.codeIn K cd7 "Closing.rooted" = true) (k7 : PySem.W.keepIn K (.ref f7) = true)
    (a8 : PySem.W.findIn K (.ref CO1) "is_joined" = some (some (.ref f8))) (i8 : PySem.W.isFn K (.ref f8) = true) (l8 : K.lookup f8 = some ⟨oc8, od8, .func (PySem.W.fnOf "is_joined" "Closing.is_joined" (defArgs s_Closing_is_joined) (defBody s_Closing_is_joined) (defScope s_Closing_is_joined) .none kV8 dc8 pm8 an8 cd8 ct8), sl8⟩) (c8 : PySem.W.codeIn K cd8 "Closing.is_joined" = true) (k8 : PySem.W.keepIn K (.ref f8) = true)
    (a9 : PySem.W.findIn K (.ref CO1) "settle" = some (some (.ref f9))) (i9 : PySem.W.isFn K (.ref f9) = true) (l9 : K.lookup f9 = some ⟨oc9, od9, .func (PySem.W.fnOf "settle" "Closing.settle" (defArgs s_Closing_settle) (defBody s_Closing_settle) (defScope s_Closing_settle) .none kV9 dc9 pm9 an9 cd9 ct9), sl9⟩) (c9 : PySem.W.codeIn K cd9 "Closing.settle" = true) (k9 : PySem.W.keepIn K (.ref f9) = true)
    (a10 : PySem.W.findIn K (.ref CO1) "told" = some (some (.ref f10))) (i10 : PySem.W.isFn K (.ref f10) = true) (l10 : K.lookup f10 = some ⟨oc10, od10, .func (PySem.W.fnOf "told" "Closing.told" (defArgs s_Closing_told) (defBody s_Closing_told) (defScope s_Closing_told) .none kV10 dc10 pm10 an10 cd10 ct10), sl10⟩) (c10 : PySem.W.codeIn K cd10 "Closing.told" = true) (k10 : PySem.W.keepIn K (.ref f10) = true)
    (a11 : PySem.W.findIn K (.ref CO1) "third" = some (some (.ref f11))) (i11 : PySem.W.isFn K (.ref f11) = true) (l11 : K.lookup f11 = some ⟨oc11, od11, .func (PySem.W.fnOf "third" "Closing.third" (defArgs s_Closing_third) (defBody s_Closing_third) (defScope s_Closing_third) .none kV11 dc11 pm11 an11 cd11 ct11), sl11⟩) (c11 : PySem.W.codeIn K cd11 "Closing.third" = true) (k11 : PySem.W.keepIn K (.ref f11) = true)
    (a12 : PySem.W.findIn K (.ref CO1) "thing_of" = some (some (.ref f12))) (i12 : PySem.W.isFn K (.ref f12) = true) (l12 : K.lookup f12 = some ⟨oc12, od12, .func (PySem.W.fnOf "thing_of" "Closing.thing_of" (defArgs s_Closing_thing_of) (defBody s_Closing_thing_of) (defScope s_Closing_thing_of) .none kV12 dc12 pm12 an12 cd12 ct12), sl12⟩) (c12 : PySem.W.codeIn K cd12 "Closing.thing_of" = true) (k12 : PySem.W.keepIn K (.ref f12) = true)
    (a13 : PySem.W.findIn K (.ref CO1) "put_together" = some (some (.ref f13))) (i13 : PySem.W.isFn K (.ref f13) = true) (l13 : K.lookup f13 = some ⟨oc13, od13, .func (PySem.W.fnOf "put_together" "Closing.put_together" (defArgs s_Closing_put_together) (defBody s_Closing_put_together) (defScope s_Closing_put_together) .none kV13 dc13 pm13 an13 cd13 ct13), sl13⟩) (c13 : PySem.W.codeIn K cd13 "Closing.put_together" = true) (k13 : PySem.W.keepIn K (.ref f13) = true)
    (a14 : PySem.W.findIn K (.ref CO1) "numbered" = some (some (.ref f14))) (i14 : PySem.W.isFn K (.ref f14) = true) (l14 : K.lookup f14 = some ⟨oc14, od14, .func (PySem.W.fnOf "numbered" "Closing.numbered" (defArgs s_Closing_numbered) (defBody s_Closing_numbered) (defScope s_Closing_numbered) .none kV14 dc14 pm14 an14 cd14 ct14), sl14⟩) (c14 : PySem.W.codeIn K cd14 "Closing.numbered" = true) (k14 : PySem.W.keepIn K (.ref f14) = true)
    (a15 : PySem.W.nsIn K mainGlobals "closing_by" = some (some (.ref f15))) (l15 : K.lookup f15 = some ⟨oc15, od15, .func (PySem.W.fnOf "closing_by" "closing_by" (defArgs s_closing_by) (defBody s_closing_by) (defScope s_closing_by) .none kV15 dc15 pm15 an15 cd15 ct15), sl15⟩) (c15 : PySem.W.codeIn K cd15 "closing_by" = true) (k15 : PySem.W.keepIn K (.ref f15) = true)
    (a16 : PySem.W.nsIn K mainGlobals "closing_of" = some (some (.ref f16))) (l16 : K.lookup f16 = some ⟨oc16, od16, .func (PySem.W.fnOf "closing_of" "closing_of" (defArgs s_closing_of) (defBody s_closing_of) (defScope s_closing_of) .none kV16 dc16 pm16 an16 cd16 ct16), sl16⟩) (c16 : PySem.W.codeIn K cd16 "closing_of" = true) (k16 : PySem.W.keepIn K (.ref f16) = true)
    (a17 : PySem.W.nsIn K mainGlobals "lots_of" = some (some (.ref f17))) (l17 : K.lookup f17 = some ⟨oc17, od17, .func (PySem.W.fnOf "lots_of" "lots_of" (defArgs s_lots_of) (defBody s_lots_of) (defScope s_lots_of) .none kV17 dc17 pm17 an17 cd17 ct17), sl17⟩) (c17 : PySem.W.codeIn K cd17 "lots_of" = true) (k17 : PySem.W.keepIn K (.ref f17) = true)
    (a18 : PySem.W.nsIn K mainGlobals "are_one" = some (some (.ref f18))) (l18 : K.lookup f18 = some ⟨oc18, od18, .func (PySem.W.fnOf "are_one" "are_one" (defArgs s_are_one) (defBody s_are_one) (defScope s_are_one) .none kV18 dc18 pm18 an18 cd18 ct18), sl18⟩) (c18 : PySem.W.codeIn K cd18 "are_one" = true) (k18 : PySem.W.keepIn K (.ref f18) = true)
    (a19 : PySem.W.nsIn K mainGlobals "torn_by" = some (some (.ref f19))) (l19 : K.lookup f19 = some ⟨oc19, od19, .func (PySem.W.fnOf "torn_by" "torn_by" (defArgs s_torn_by) (defBody s_torn_by) (defScope s_torn_by) .none kV19 dc19 pm19 an19 cd19 ct19), sl19⟩) (c19 : PySem.W.codeIn K cd19 "torn_by" = true) (k19 : PySem.W.keepIn K (.ref f19) = true)
    (a20 : PySem.W.nsIn K mainGlobals "clash" = some (some (.ref f20))) (l20 : K.lookup f20 = some ⟨oc20, od20, .func (PySem.W.fnOf "clash" "clash" (defArgs s_clash) (defBody s_clash) (defScope s_clash) .none kV20 dc20 pm20 an20 cd20 ct20), sl20⟩) (c20 : PySem.W.codeIn K cd20 "clash" = true) (k20 : PySem.W.keepIn K (.ref f20) = true)
    (a21 : PySem.W.nsIn K mainGlobals "closed" = some (some (.ref f21))) (l21 : K.lookup f21 = some ⟨oc21, od21, .func (PySem.W.fnOf "closed" "closed" (defArgs s_closed) (defBody s_closed) (defScope s_closed) .none kV21 dc21 pm21 an21 cd21 ct21), sl21⟩) (c21 : PySem.W.codeIn K cd21 "closed" = true) (k21 : PySem.W.keepIn K (.ref f21) = true)
    (a22 : PySem.W.nsIn K mainGlobals "entry_told" = some (some (.ref f22))) (l22 : K.lookup f22 = some ⟨oc22, od22, .func (PySem.W.fnOf "entry_told" "entry_told" (defArgs s_entry_told) (defBody s_entry_told) (defScope s_entry_told) .none kV22 dc22 pm22 an22 cd22 ct22), sl22⟩) (c22 : PySem.W.codeIn K cd22 "entry_told" = true) (k22 : PySem.W.keepIn K (.ref f22) = true)
    (a23 : PySem.W.nsIn K mainGlobals "is_made" = some (some (.ref f23))) (l23 : K.lookup f23 = some ⟨oc23, od23, .func (PySem.W.fnOf "is_made" "is_made" (defArgs s_is_made) (defBody s_is_made) (defScope s_is_made) .none kV23 dc23 pm23 an23 cd23 ct23), sl23⟩) (c23 : PySem.W.codeIn K cd23 "is_made" = true) (k23 : PySem.W.keepIn K (.ref f23) = true)
    (a24 : PySem.W.nsIn K mainGlobals "rule_told" = some (some (.ref f24))) (l24 : K.lookup f24 = some ⟨oc24, od24, .func (PySem.W.fnOf "rule_told" "rule_told" (defArgs s_rule_told) (defBody s_rule_told) (defScope s_rule_told) .none kV24 dc24 pm24 an24 cd24 ct24), sl24⟩) (c24 : PySem.W.codeIn K cd24 "rule_told" = true) (k24 : PySem.W.keepIn K (.ref f24) = true)
    (a25 : PySem.W.nsIn K mainGlobals "shorter" = some (some (.ref f25))) (l25 : K.lookup f25 = some ⟨oc25, od25, .func (PySem.W.fnOf "shorter" "shorter" (defArgs s_shorter) (defBody s_shorter) (defScope s_shorter) .none kV25 dc25 pm25 an25 cd25 ct25), sl25⟩) (c25 : PySem.W.codeIn K cd25 "shorter" = true) (k25 : PySem.W.keepIn K (.ref f25) = true)
    (a26 : PySem.W.nsIn K mainGlobals "first_step" = some (some (.ref f26))) (l26 : K.lookup f26 = some ⟨oc26, od26, .func (PySem.W.fnOf "first_step" "first_step" (defArgs s_first_step) (defBody s_first_step) (defScope s_first_step) .none kV26 dc26 pm26 an26 cd26 ct26), sl26⟩) (c26 : PySem.W.codeIn K cd26 "first_step" = true) (k26 : PySem.W.keepIn K (.ref f26) = true)
    (a27 : PySem.W.nsIn K mainGlobals "steps" = some (some (.ref f27))) (l27 : K.lookup f27 = some ⟨oc27, od27, .func (PySem.W.fnOf "steps" "steps" (defArgs s_steps) (defBody s_steps) (defScope s_steps) .none kV27 dc27 pm27 an27 cd27 ct27), sl27⟩) (c27 : PySem.W.codeIn K cd27 "steps" = true) (k27 : PySem.W.keepIn K (.ref f27) = true)
    (a28 : PySem.W.nsIn K mainGlobals "same" = some (some (.ref f28))) (l28 : K.lookup f28 = some ⟨oc28, od28, .func (PySem.W.fnOf "same" "same" (defArgs s_same) (defBody s_same) (defScope s_same) .none kV28 dc28 pm28 an28 cd28 ct28), sl28⟩) (c28 : PySem.W.codeIn K cd28 "same" = true) (k28 : PySem.W.keepIn K (.ref f28) = true)
    (a29 : PySem.W.nsIn K mainGlobals "_law_bag" = some (some (.ref f29))) (l29 : K.lookup f29 = some ⟨oc29, od29, .func (PySem.W.fnOf "_law_bag" "_law_bag" (defArgs s_l_bag) (defBody s_l_bag) (defScope s_l_bag) .none kV29 dc29 pm29 an29 cd29 ct29), sl29⟩) (c29 : PySem.W.codeIn K cd29 "_law_bag" = true) (k29 : PySem.W.keepIn K (.ref f29) = true)
    (a30 : PySem.W.nsIn K mainGlobals "_law_draw" = some (some (.ref f30))) (l30 : K.lookup f30 = some ⟨oc30, od30, .func (PySem.W.fnOf "_law_draw" "_law_draw" (defArgs s_l_draw) (defBody s_l_draw) (defScope s_l_draw) .none kV30 dc30 pm30 an30 cd30 ct30), sl30⟩) (c30 : PySem.W.codeIn K cd30 "_law_draw" = true) (k30 : PySem.W.keepIn K (.ref f30) = true)
    (a31 : PySem.W.nsIn K mainGlobals "_law_pick" = some (some (.ref f31))) (l31 : K.lookup f31 = some ⟨oc31, od31, .func (PySem.W.fnOf "_law_pick" "_law_pick" (defArgs s_l_pick) (defBody s_l_pick) (defScope s_l_pick) .none kV31 dc31 pm31 an31 cd31 ct31), sl31⟩) (c31 : PySem.W.codeIn K cd31 "_law_pick" = true) (k31 : PySem.W.keepIn K (.ref f31) = true)
    (a32 : PySem.W.nsIn K mainGlobals "_law_divisor" = some (some (.ref f32))) (l32 : K.lookup f32 = some ⟨oc32, od32, .func (PySem.W.fnOf "_law_divisor" "_law_divisor" (defArgs s_l_divisor) (defBody s_l_divisor) (defScope s_l_divisor) .none kV32 dc32 pm32 an32 cd32 ct32), sl32⟩) (c32 : PySem.W.codeIn K cd32 "_law_divisor" = true) (k32 : PySem.W.keepIn K (.ref f32) = true)
    (a33 : PySem.W.nsIn K mainGlobals "_law_turned" = some (some (.ref f33))) (l33 : K.lookup f33 = some ⟨oc33, od33, .func (PySem.W.fnOf "_law_turned" "_law_turned" (defArgs s_l_turned) (defBody s_l_turned) (defScope s_l_turned) .none kV33 dc33 pm33 an33 cd33 ct33), sl33⟩) (c33 : PySem.W.codeIn K cd33 "_law_turned" = true) (k33 : PySem.W.keepIn K (.ref f33) = true)
    (a34 : PySem.W.nsIn K mainGlobals "_law_turn_over" = some (some (.ref f34))) (l34 : K.lookup f34 = some ⟨oc34, od34, .func (PySem.W.fnOf "_law_turn_over" "_law_turn_over" (defArgs s_l_turn_over) (defBody s_l_turn_over) (defScope s_l_turn_over) .none kV34 dc34 pm34 an34 cd34 ct34), sl34⟩) (c34 : PySem.W.codeIn K cd34 "_law_turn_over" = true) (k34 : PySem.W.keepIn K (.ref f34) = true)
    (a35 : PySem.W.nsIn K mainGlobals "_law_table" = some (some (.ref f35))) (l35 : K.lookup f35 = some ⟨oc35, od35, .func (PySem.W.fnOf "_law_table" "_law_table" (defArgs s_l_table) (defBody s_l_table) (defScope s_l_table) .none kV35 dc35 pm35 an35 cd35 ct35), sl35⟩) (c35 : PySem.W.codeIn K cd35 "_law_table" = true) (k35 : PySem.W.keepIn K (.ref f35) = true)
    (a36 : PySem.W.nsIn K mainGlobals "_law_things" = some (some (.ref f36))) (l36 : K.lookup f36 = some ⟨oc36, od36, .func (PySem.W.fnOf "_law_things" "_law_things" (defArgs s_l_things) (defBody s_l_things) (defScope s_l_things) .none kV36 dc36 pm36 an36 cd36 ct36), sl36⟩) (c36 : PySem.W.codeIn K cd36 "_law_things" = true) (k36 : PySem.W.keepIn K (.ref f36) = true)
    (a37 : PySem.W.nsIn K mainGlobals "_law_formula" = some (some (.ref f37))) (l37 : K.lookup f37 = some ⟨oc37, od37, .func (PySem.W.fnOf "_law_formula" "_law_formula" (defArgs s_l_formula) (defBody s_l_formula) (defScope s_l_formula) .none kV37 dc37 pm37 an37 cd37 ct37), sl37⟩) (c37 : PySem.W.codeIn K cd37 "_law_formula" = true) (k37 : PySem.W.keepIn K (.ref f37) = true)
    (a38 : PySem.W.nsIn K mainGlobals "_law_count" = some (some (.ref f38))) (l38 : K.lookup f38 = some ⟨oc38, od38, .func (PySem.W.fnOf "_law_count" "_law_count" (defArgs s_l_count) (defBody s_l_count) (defScope s_l_count) .none kV38 dc38 pm38 an38 cd38 ct38), sl38⟩) (c38 : PySem.W.codeIn K cd38 "_law_count" = true) (k38 : PySem.W.keepIn K (.ref f38) = true)
    (a39 : PySem.W.nsIn K mainGlobals "_law_facts" = some (some (.ref f39))) (l39 : K.lookup f39 = some ⟨oc39, od39, .func (PySem.W.fnOf "_law_facts" "_law_facts" (defArgs s_l_facts) (defBody s_l_facts) (defScope s_l_facts) .none kV39 dc39 pm39 an39 cd39 ct39), sl39⟩) (c39 : PySem.W.codeIn K cd39 "_law_facts" = true) (k39 : PySem.W.keepIn K (.ref f39) = true)
    (a40 : PySem.W.nsIn K mainGlobals "_law_close" = some (some (.ref f40))) (l40 : K.lookup f40 = some ⟨oc40, od40, .func (PySem.W.fnOf "_law_close" "_law_close" (defArgs s_l_close) (defBody s_l_close) (defScope s_l_close) .none kV40 dc40 pm40 an40 cd40 ct40), sl40⟩) (c40 : PySem.W.codeIn K cd40 "_law_close" = true) (k40 : PySem.W.keepIn K (.ref f40) = true)
    (a41 : PySem.W.nsIn K mainGlobals "_law_marks" = some (some (.ref f41))) (l41 : K.lookup f41 = some ⟨oc41, od41, .func (PySem.W.fnOf "_law_marks" "_law_marks" (defArgs s_l_marks) (defBody s_l_marks) (defScope s_l_marks) .none kV41 dc41 pm41 an41 cd41 ct41), sl41⟩) (c41 : PySem.W.codeIn K cd41 "_law_marks" = true) (k41 : PySem.W.keepIn K (.ref f41) = true)
    (a42 : PySem.W.nsIn K mainGlobals "_law_all_marks" = some (some (.ref f42))) (l42 : K.lookup f42 = some ⟨oc42, od42, .func (PySem.W.fnOf "_law_all_marks" "_law_all_marks" (defArgs s_l_all_marks) (defBody s_l_all_marks) (defScope s_l_all_marks) .none kV42 dc42 pm42 an42 cd42 ct42), sl42⟩) (c42 : PySem.W.codeIn K cd42 "_law_all_marks" = true) (k42 : PySem.W.keepIn K (.ref f42) = true)
    (a43 : PySem.W.nsIn K mainGlobals "_law_lots" = some (some (.ref f43))) (l43 : K.lookup f43 = some ⟨oc43, od43, .func (PySem.W.fnOf "_law_lots" "_law_lots" (defArgs s_l_lots) (defBody s_l_lots) (defScope s_l_lots) .none kV43 dc43 pm43 an43 cd43 ct43), sl43⟩) (c43 : PySem.W.codeIn K cd43 "_law_lots" = true) (k43 : PySem.W.keepIn K (.ref f43) = true)
    (a44 : PySem.W.nsIn K mainGlobals "_law_clash" = some (some (.ref f44))) (l44 : K.lookup f44 = some ⟨oc44, od44, .func (PySem.W.fnOf "_law_clash" "_law_clash" (defArgs s_l_clash) (defBody s_l_clash) (defScope s_l_clash) .none kV44 dc44 pm44 an44 cd44 ct44), sl44⟩) (c44 : PySem.W.codeIn K cd44 "_law_clash" = true) (k44 : PySem.W.keepIn K (.ref f44) = true)
    (a45 : PySem.W.nsIn K mainGlobals "_law_good_facts" = some (some (.ref f45))) (l45 : K.lookup f45 = some ⟨oc45, od45, .func (PySem.W.fnOf "_law_good_facts" "_law_good_facts" (defArgs s_l_good_facts) (defBody s_l_good_facts) (defScope s_l_good_facts) .none kV45 dc45 pm45 an45 cd45 ct45), sl45⟩) (c45 : PySem.W.codeIn K cd45 "_law_good_facts" = true) (k45 : PySem.W.keepIn K (.ref f45) = true)
    (a46 : PySem.W.nsIn K mainGlobals "_law_put" = some (some (.ref f46))) (l46 : K.lookup f46 = some ⟨oc46, od46, .func (PySem.W.fnOf "_law_put" "_law_put" (defArgs s_l_put) (defBody s_l_put) (defScope s_l_put) .none kV46 dc46 pm46 an46 cd46 ct46), sl46⟩) (c46 : PySem.W.codeIn K cd46 "_law_put" = true) (k46 : PySem.W.keepIn K (.ref f46) = true)
    (a47 : PySem.W.nsIn K mainGlobals "_law_near" = some (some (.ref f47))) (l47 : K.lookup f47 = some ⟨oc47, od47, .func (PySem.W.fnOf "_law_near" "_law_near" (defArgs s_l_near) (defBody s_l_near) (defScope s_l_near) .none kV47 dc47 pm47 an47 cd47 ct47), sl47⟩) (c47 : PySem.W.codeIn K cd47 "_law_near" = true) (k47 : PySem.W.keepIn K (.ref f47) = true)
    (a48 : PySem.W.nsIn K mainGlobals "_law_is_same" = some (some (.ref f48))) (l48 : K.lookup f48 = some ⟨oc48, od48, .func (PySem.W.fnOf "_law_is_same" "_law_is_same" (defArgs s_l_is_same) (defBody s_l_is_same) (defScope s_l_is_same) .none kV48 dc48 pm48 an48 cd48 ct48), sl48⟩) (c48 : PySem.W.codeIn K cd48 "_law_is_same" = true) (k48 : PySem.W.keepIn K (.ref f48) = true)
    (a49 : PySem.W.nsIn K mainGlobals "law" = some (some (.ref f49))) (l49 : K.lookup f49 = some ⟨oc49, od49, .func (PySem.W.fnOf "law" "law" (defArgs s_law) (defBody s_law) (defScope s_law) .none kV49 dc49 pm49 an49 cd49 ct49), sl49⟩) (c49 : PySem.W.codeIn K cd49 "law" = true) (k49 : PySem.W.keepIn K (.ref f49) = true)
    (z1 : PySem.W.nsIn K mainGlobals "abs" = some none)
    (z2 : PySem.W.nsIn K mainGlobals "any" = some none)
    (z3 : PySem.W.nsIn K mainGlobals "enumerate" = some none)
    (z4 : PySem.W.nsIn K mainGlobals "int" = some none)
    (z5 : PySem.W.nsIn K mainGlobals "isinstance" = some none)
    (z6 : PySem.W.nsIn K mainGlobals "len" = some none)
    (z7 : PySem.W.nsIn K mainGlobals "list" = some none)
    (z8 : PySem.W.nsIn K mainGlobals "max" = some none)
    (z9 : PySem.W.nsIn K mainGlobals "min" = some none)
    (z10 : PySem.W.nsIn K mainGlobals "range" = some none)
    (z11 : PySem.W.nsIn K mainGlobals "repr" = some none)
    (z12 : PySem.W.nsIn K mainGlobals "set" = some none)
    (z13 : PySem.W.nsIn K mainGlobals "sorted" = some none)
    (z14 : PySem.W.nsIn K mainGlobals "tuple" = some none)
    {wa1 : Addr} {wn1 : Nat} {es1 : Array DictEntry} (m1 : PySem.W.nsIn K mainGlobals "PLACES" = some (some (.ref wa1))) (v1 : K.lookup wa1 = some ⟨.type "dict", none, .dict es1 wn1, #[]⟩) (y1 : PySem.W.KeysLit w.params es1.toList) (lo1 : (wa1 == sysModules) = false) (ks1 : Vals [V.str "with", V.str "behind", V.str "ahead"] (es1.toList.map (·.key))) (sz1 : es1.size ≤ sizeLine)
    {b1_0 : Addr} {n1_0 : Nat} {sl1_0 : Array (Option Value)} {tk1_0_0 tk1_0_1 tk1_0_2 : Tok} (g1_0 : PySem.W.nsIn K wa1 "with" = some (some (.ref b1_0))) (u1_0 : K.lookup b1_0 = some ⟨.type "tuple", none, .seq #[.int 0 tk1_0_0, .int 1 tk1_0_1, .int 2 tk1_0_2] n1_0, sl1_0⟩)
    {b1_1 : Addr} {n1_1 : Nat} {sl1_1 : Array (Option Value)} {tk1_1_0 tk1_1_1 tk1_1_2 : Tok} (g1_1 : PySem.W.nsIn K wa1 "behind" = some (some (.ref b1_1))) (u1_1 : K.lookup b1_1 = some ⟨.type "tuple", none, .seq #[.int 0 tk1_1_0, .int 2 tk1_1_1, .int 1 tk1_1_2] n1_1, sl1_1⟩)
    {b1_2 : Addr} {n1_2 : Nat} {sl1_2 : Array (Option Value)} {tk1_2_0 tk1_2_1 tk1_2_2 : Tok} (g1_2 : PySem.W.nsIn K wa1 "ahead" = some (some (.ref b1_2))) (u1_2 : K.lookup b1_2 = some ⟨.type "tuple", none, .seq #[.int 1 tk1_2_0, .int 2 tk1_2_1, .int 0 tk1_2_2] n1_2, sl1_2⟩) :
    ∃ fd : FuncData, (∀ (s : Shared) (v : Value), BindsTo s fd ⟨[v], []⟩ [("_law_script", v)]) ∧ ∀ base : Heap, K.In base → base.Ns mainGlobals mg → FnD l.prog w K mg base CX0 20 fa fd ["_law_script"] sp_law := by
  have e := hfa.symm.trans (PySem.W.mg_of X G a49)
  cases e
  have F1 := fun_mk (st := s_wall) l1 c1 k1
  have b1 := F1.binds (ps := ["k"]) fun _ _ _ _ _ _ us hl => match us, hl with | [_], _ => rfl
  have F2 := fun_mk (st := s_choices) l2 c2 k2
  have b2 := F2.binds (ps := ["many", "count"]) fun _ _ _ _ _ _ us hl => match us, hl with | [_, _], _ => rfl
  have F3 := fun_mk (st := s_is_name) l3 c3 k3
  have b3 := F3.binds (ps := ["formula"]) fun _ _ _ _ _ _ us hl => match us, hl with | [_], _ => rfl
  have F4 := fun_mk (st := s_Closing_xinit) l4 c4 k4
  have b4 := F4.binds (ps := ["self", "many", "entries"]) fun _ _ _ _ _ _ us hl => match us, hl with | [_, _, _], _ => rfl
  have F5 := fun_mk (st := s_Closing_root) l5 c5 k5
  have b5 := F5.binds (ps := ["self", "thing"]) fun _ _ _ _ _ _ us hl => match us, hl with | [_, _], _ => rfl
  have F6 := fun_mk (st := s_Closing_join) l6 c6 k6
  have b6 := F6.binds (ps := ["self", "one", "other"]) fun _ _ _ _ _ _ us hl => match us, hl with | [_, _, _], _ => rfl
  have F7 := fun_mk (st := s_Closing_rooted) l7 c7 k7
  have b7 := F7.binds (ps := ["self"]) fun _ _ _ _ _ _ us hl => match us, hl with | [_], _ => rfl
  have F8 := fun_mk (st := s_Closing_is_joined) l8 c8 k8
  have b8 := F8.binds (ps := ["self", "places"]) fun _ _ _ _ _ _ us hl => match us, hl with | [_, _], _ => rfl
  have F9 := fun_mk (st := s_Closing_settle) l9 c9 k9
  have b9 := F9.binds (ps := ["self"]) fun _ _ _ _ _ _ us hl => match us, hl with | [_], _ => rfl
  have F10 := fun_mk (st := s_Closing_told) l10 c10 k10
  have b10 := F10.binds (ps := ["self", "places", "one", "other"]) fun _ _ _ _ _ _ us hl => match us, hl with | [_, _, _, _], _ => rfl
  have F11 := fun_mk (st := s_Closing_third) l11 c11 k11
  have b11 := F11.binds (ps := ["self", "places", "one", "other"]) fun _ _ _ _ _ _ us hl => match us, hl with | [_, _, _, _], _ => rfl
  have F12 := fun_mk (st := s_Closing_thing_of) l12 c12 k12
  have b12 := F12.binds (ps := ["self", "formula"]) fun _ _ _ _ _ _ us hl => match us, hl with | [_, _], _ => rfl
  have F13 := fun_mk (st := s_Closing_put_together) l13 c13 k13
  have b13 := F13.binds (ps := ["self", "one", "other"]) fun _ _ _ _ _ _ us hl => match us, hl with | [_, _, _], _ => rfl
  have F14 := fun_mk (st := s_Closing_numbered) l14 c14 k14
  have b14 := F14.binds (ps := ["self"]) fun _ _ _ _ _ _ us hl => match us, hl with | [_], _ => rfl
  have F15 := fun_mk (st := s_closing_by) l15 c15 k15
  have b15 := F15.binds (ps := ["facts", "numbers"]) fun _ _ _ _ _ _ us hl => match us, hl with | [_, _], _ => rfl
  have F16 := fun_mk (st := s_closing_of) l16 c16 k16
  have b16 := F16.binds (ps := ["facts"]) fun _ _ _ _ _ _ us hl => match us, hl with | [_], _ => rfl
  have F17 := fun_mk (st := s_lots_of) l17 c17 k17
  have b17 := F17.binds (ps := ["facts"]) fun _ _ _ _ _ _ us hl => match us, hl with | [_], _ => rfl
  have F18 := fun_mk (st := s_are_one) l18 c18 k18
  have b18 := F18.binds (ps := ["closing", "pair"]) fun _ _ _ _ _ _ us hl => match us, hl with | [_, _], _ => rfl
  have F19 := fun_mk (st := s_torn_by) l19 c19 k19
  have b19 := F19.binds (ps := ["facts", "closing"]) fun _ _ _ _ _ _ us hl => match us, hl with | [_, _], _ => rfl
  have F20 := fun_mk (st := s_clash) l20 c20 k20
  have b20 := F20.binds (ps := ["facts"]) fun _ _ _ _ _ _ us hl => match us, hl with | [_], _ => rfl
  have F21 := fun_mk (st := s_closed) l21 c21 k21
  have b21 := F21.binds (ps := ["facts"]) fun _ _ _ _ _ _ us hl => match us, hl with | [_], _ => rfl
  have F22 := fun_mk (st := s_entry_told) l22 c22 k22
  have b22 := F22.binds (ps := ["closing", "formula"]) fun _ _ _ _ _ _ us hl => match us, hl with | [_, _], _ => rfl
  have F23 := fun_mk (st := s_is_made) l23 c23 k23
  have b23 := F23.binds (ps := ["formula", "word"]) fun _ _ _ _ _ _ us hl => match us, hl with | [_, _], _ => rfl
  have F24 := fun_mk (st := s_rule_told) l24 c24 k24
  have b24 := F24.binds (ps := ["formula"]) fun _ _ _ _ _ _ us hl => match us, hl with | [_], _ => rfl
  have F25 := fun_mk (st := s_shorter) l25 c25 k25
  have b25 := F25.binds (ps := ["closing", "formula"]) fun _ _ _ _ _ _ us hl => match us, hl with | [_, _], _ => rfl
  have F26 := fun_mk (st := s_first_step) l26 c26 k26
  have b26 := F26.binds (ps := ["closing", "formula"]) fun _ _ _ _ _ _ us hl => match us, hl with | [_, _], _ => rfl
  have F27 := fun_mk (st := s_steps) l27 c27 k27
  have b27 := F27.binds (ps := ["closing", "formula"]) fun _ _ _ _ _ _ us hl => match us, hl with | [_, _], _ => rfl
  have F28 := fun_mk (st := s_same) l28 c28 k28
  have b28 := F28.binds (ps := ["facts", "one", "other"]) fun _ _ _ _ _ _ us hl => match us, hl with | [_, _, _], _ => rfl
  have F29 := fun_mk (st := s_l_bag) l29 c29 k29
  have b29 := F29.binds (ps := ["_law_script"]) fun _ _ _ _ _ _ us hl => match us, hl with | [_], _ => rfl
  have F30 := fun_mk (st := s_l_draw) l30 c30 k30
  have b30 := F30.binds (ps := ["_law_bag_here", "_law_limit"]) fun _ _ _ _ _ _ us hl => match us, hl with | [_, _], _ => rfl
  have F31 := fun_mk (st := s_l_pick) l31 c31 k31
  have b31 := F31.binds (ps := ["_law_bag_here", "_law_items"]) fun _ _ _ _ _ _ us hl => match us, hl with | [_, _], _ => rfl
  have F32 := fun_mk (st := s_l_divisor) l32 c32 k32
  have b32 := F32.binds (ps := ["_law_one", "_law_other"]) fun _ _ _ _ _ _ us hl => match us, hl with | [_, _], _ => rfl
  have F33 := fun_mk (st := s_l_turned) l33 c33 k33
  have b33 := F33.binds (ps := ["_law_bag_here", "_law_many"]) fun _ _ _ _ _ _ us hl => match us, hl with | [_, _], _ => rfl
  have F34 := fun_mk (st := s_l_turn_over) l34 c34 k34
  have b34 := F34.binds (ps := ["_law_bag_here", "_law_rows", "_law_size"]) fun _ _ _ _ _ _ us hl => match us, hl with | [_, _, _], _ => rfl
  have F35 := fun_mk (st := s_l_table) l35 c35 k35
  have b35 := F35.binds (ps := ["_law_bag_here", "_law_size"]) fun _ _ _ _ _ _ us hl => match us, hl with | [_, _], _ => rfl
  have F36 := fun_mk (st := s_l_things) l36 c36 k36
  have b36 := F36.binds (ps := ["_law_bag_here", "_law_many", "_law_size"]) fun _ _ _ _ _ _ us hl => match us, hl with | [_, _, _], _ => rfl
  have F37 := fun_mk (st := s_l_formula) l37 c37 k37
  have b37 := F37.binds (ps := ["_law_bag_here", "_law_names", "_law_deep"]) fun _ _ _ _ _ _ us hl => match us, hl with | [_, _, _], _ => rfl
  have F38 := fun_mk (st := s_l_count) l38 c38 k38
  have b38 := F38.binds (ps := ["_law_value"]) fun _ _ _ _ _ _ us hl => match us, hl with | [_], _ => rfl
  have F39 := fun_mk (st := s_l_facts) l39 c39 k39
  have b39 := F39.binds (ps := ["_law_bag_here", "_law_names"]) fun _ _ _ _ _ _ us hl => match us, hl with | [_, _], _ => rfl
  have F40 := fun_mk (st := s_l_close) l40 c40 k40
  have b40 := F40.binds (ps := ["_law_marks_here", "_law_rows"]) fun _ _ _ _ _ _ us hl => match us, hl with | [_, _], _ => rfl
  have F41 := fun_mk (st := s_l_marks) l41 c41 k41
  have b41 := F41.binds (ps := ["_law_facts_here", "_law_numbers"]) fun _ _ _ _ _ _ us hl => match us, hl with | [_, _], _ => rfl
  have F42 := fun_mk (st := s_l_all_marks) l42 c42 k42
  have b42 := F42.binds (ps := ["_law_facts_here"]) fun _ _ _ _ _ _ us hl => match us, hl with | [_], _ => rfl
  have F43 := fun_mk (st := s_l_lots) l43 c43 k43
  have b43 := F43.binds (ps := ["_law_many"]) fun _ _ _ _ _ _ us hl => match us, hl with | [_], _ => rfl
  have F44 := fun_mk (st := s_l_clash) l44 c44 k44
  have b44 := F44.binds (ps := ["_law_facts_here"]) fun _ _ _ _ _ _ us hl => match us, hl with | [_], _ => rfl
  have F45 := fun_mk (st := s_l_good_facts) l45 c45 k45
  have b45 := F45.binds (ps := ["_law_bag_here", "_law_names"]) fun _ _ _ _ _ _ us hl => match us, hl with | [_, _], _ => rfl
  have F46 := fun_mk (st := s_l_put) l46 c46 k46
  have b46 := F46.binds (ps := ["_law_marks_here", "_law_rows", "_law_formula_here"]) fun _ _ _ _ _ _ us hl => match us, hl with | [_, _, _], _ => rfl
  have F47 := fun_mk (st := s_l_near) l47 c47 k47
  have b47 := F47.binds (ps := ["_law_bag_here", "_law_formula_here", "_law_names"]) fun _ _ _ _ _ _ us hl => match us, hl with | [_, _, _], _ => rfl
  have F48 := fun_mk (st := s_l_is_same) l48 c48 k48
  have b48 := F48.binds (ps := ["_law_facts_here", "_law_one", "_law_other"]) fun _ _ _ _ _ _ us hl => match us, hl with | [_, _, _], _ => rfl
  have F49 := fun_mk (st := s_law) l49 c49 k49
  have b49 := F49.binds (ps := ["_law_script"]) fun _ _ _ _ _ _ us hl => match us, hl with | [_], _ => rfl
  let a : Ad := { c_Closing := CO1, f_wall := f1, d_wall := PySem.W.fnOf "_wall" "_wall" (defArgs s_wall) (defBody s_wall) (defScope s_wall) .none kV1 dc1 pm1 an1 cd1 ct1, f_choices := f2, d_choices := PySem.W.fnOf "choices" "choices" (defArgs s_choices) (defBody s_choices) (defScope s_choices) .none kV2 dc2 pm2 an2 cd2 ct2, f_is_name := f3, d_is_name := PySem.W.fnOf "is_name" "is_name" (defArgs s_is_name) (defBody s_is_name) (defScope s_is_name) .none kV3 dc3 pm3 an3 cd3 ct3, f_Closing_xinit := f4, d_Closing_xinit := PySem.W.fnOf "__init__" "Closing.__init__" (defArgs s_Closing_xinit) (defBody s_Closing_xinit) (defScope s_Closing_xinit) .none kV4 dc4 pm4 an4 cd4 ct4, f_Closing_root := f5, d_Closing_root := PySem.W.fnOf "root" "Closing.root" (defArgs s_Closing_root) (defBody s_Closing_root) (defScope s_Closing_root) .none kV5 dc5 pm5 an5 cd5 ct5, f_Closing_join := f6, d_Closing_join := PySem.W.fnOf "join" "Closing.join" (defArgs s_Closing_join) (defBody s_Closing_join) (defScope s_Closing_join) .none kV6 dc6 pm6 an6 cd6 ct6, f_Closing_rooted := f7, d_Closing_rooted := PySem.W.fnOf "rooted" "Closing.rooted" (defArgs s_Closing_rooted) (defBody s_Closing_rooted) (defScope s_Closing_rooted) .none kV7 dc7 pm7 an7 cd7 ct7, f_Closing_is_joined := f8, d_Closing_is_joined := PySem.W.fnOf "is_joined" "Closing.is_joined" (defArgs s_Closing_is_joined) (defBody s_Closing_is_joined) (defScope s_Closing_is_joined) .none kV8 dc8 pm8 an8 cd8 ct8, f_Closing_settle := f9, d_Closing_settle := PySem.W.fnOf "settle" "Closing.settle" (defArgs s_Closing_settle) (defBody s_Closing_settle) (defScope s_Closing_settle) .none kV9 dc9 pm9 an9 cd9 ct9, f_Closing_told := f10, d_Closing_told := PySem.W.fnOf "told" "Closing.told" (defArgs s_Closing_told) (defBody s_Closing_told) (defScope s_Closing_told) .none kV10 dc10 pm10 an10 cd10 ct10, f_Closing_third := f11, d_Closing_third := PySem.W.fnOf "third" "Closing.third" (defArgs s_Closing_third) (defBody s_Closing_third) (defScope s_Closing_third) .none kV11 dc11 pm11 an11 cd11 ct11, f_Closing_thing_of := f12, d_Closing_thing_of := PySem.W.fnOf "thing_of" "Closing.thing_of" (defArgs s_Closing_thing_of) (defBody s_Closing_thing_of) (defScope s_Closing_thing_of) .none kV12 dc12 pm12 an12 cd12 ct12, f_Closing_put_together := f13, d_Closing_put_together := PySem.W.fnOf "put_together" "Closing.put_together" (defArgs s_Closing_put_together) (defBody s_Closing_put_together) (defScope s_Closing_put_together) .none kV13 dc13 pm13 an13 cd13 ct13, f_Closing_numbered := f14, d_Closing_numbered := PySem.W.fnOf "numbered" "Closing.numbered" (defArgs s_Closing_numbered) (defBody s_Closing_numbered) (defScope s_Closing_numbered) .none kV14 dc14 pm14 an14 cd14 ct14, f_closing_by := f15, d_closing_by := PySem.W.fnOf "closing_by" "closing_by" (defArgs s_closing_by) (defBody s_closing_by) (defScope s_closing_by) .none kV15 dc15 pm15 an15 cd15 ct15, f_closing_of := f16, d_closing_of := PySem.W.fnOf "closing_of" "closing_of" (defArgs s_closing_of) (defBody s_closing_of) (defScope s_closing_of) .none kV16 dc16 pm16 an16 cd16 ct16, f_lots_of := f17, d_lots_of := PySem.W.fnOf "lots_of" "lots_of" (defArgs s_lots_of) (defBody s_lots_of) (defScope s_lots_of) .none kV17 dc17 pm17 an17 cd17 ct17, f_are_one := f18, d_are_one := PySem.W.fnOf "are_one" "are_one" (defArgs s_are_one) (defBody s_are_one) (defScope s_are_one) .none kV18 dc18 pm18 an18 cd18 ct18, f_torn_by := f19, d_torn_by := PySem.W.fnOf "torn_by" "torn_by" (defArgs s_torn_by) (defBody s_torn_by) (defScope s_torn_by) .none kV19 dc19 pm19 an19 cd19 ct19, f_clash := f20, d_clash := PySem.W.fnOf "clash" "clash" (defArgs s_clash) (defBody s_clash) (defScope s_clash) .none kV20 dc20 pm20 an20 cd20 ct20, f_closed := f21, d_closed := PySem.W.fnOf "closed" "closed" (defArgs s_closed) (defBody s_closed) (defScope s_closed) .none kV21 dc21 pm21 an21 cd21 ct21, f_entry_told := f22, d_entry_told := PySem.W.fnOf "entry_told" "entry_told" (defArgs s_entry_told) (defBody s_entry_told) (defScope s_entry_told) .none kV22 dc22 pm22 an22 cd22 ct22, f_is_made := f23, d_is_made := PySem.W.fnOf "is_made" "is_made" (defArgs s_is_made) (defBody s_is_made) (defScope s_is_made) .none kV23 dc23 pm23 an23 cd23 ct23, f_rule_told := f24, d_rule_told := PySem.W.fnOf "rule_told" "rule_told" (defArgs s_rule_told) (defBody s_rule_told) (defScope s_rule_told) .none kV24 dc24 pm24 an24 cd24 ct24, f_shorter := f25, d_shorter := PySem.W.fnOf "shorter" "shorter" (defArgs s_shorter) (defBody s_shorter) (defScope s_shorter) .none kV25 dc25 pm25 an25 cd25 ct25, f_first_step := f26, d_first_step := PySem.W.fnOf "first_step" "first_step" (defArgs s_first_step) (defBody s_first_step) (defScope s_first_step) .none kV26 dc26 pm26 an26 cd26 ct26, f_steps := f27, d_steps := PySem.W.fnOf "steps" "steps" (defArgs s_steps) (defBody s_steps) (defScope s_steps) .none kV27 dc27 pm27 an27 cd27 ct27, f_same := f28, d_same := PySem.W.fnOf "same" "same" (defArgs s_same) (defBody s_same) (defScope s_same) .none kV28 dc28 pm28 an28 cd28 ct28, f_l_bag := f29, d_l_bag := PySem.W.fnOf "_law_bag" "_law_bag" (defArgs s_l_bag) (defBody s_l_bag) (defScope s_l_bag) .none kV29 dc29 pm29 an29 cd29 ct29, f_l_draw := f30, d_l_draw := PySem.W.fnOf "_law_draw" "_law_draw" (defArgs s_l_draw) (defBody s_l_draw) (defScope s_l_draw) .none kV30 dc30 pm30 an30 cd30 ct30, f_l_pick := f31, d_l_pick := PySem.W.fnOf "_law_pick" "_law_pick" (defArgs s_l_pick) (defBody s_l_pick) (defScope s_l_pick) .none kV31 dc31 pm31 an31 cd31 ct31, f_l_divisor := f32, d_l_divisor := PySem.W.fnOf "_law_divisor" "_law_divisor" (defArgs s_l_divisor) (defBody s_l_divisor) (defScope s_l_divisor) .none kV32 dc32 pm32 an32 cd32 ct32, f_l_turned := f33, d_l_turned := PySem.W.fnOf "_law_turned" "_law_turned" (defArgs s_l_turned) (defBody s_l_turned) (defScope s_l_turned) .none kV33 dc33 pm33 an33 cd33 ct33, f_l_turn_over := f34, d_l_turn_over := PySem.W.fnOf "_law_turn_over" "_law_turn_over" (defArgs s_l_turn_over) (defBody s_l_turn_over) (defScope s_l_turn_over) .none kV34 dc34 pm34 an34 cd34 ct34, f_l_table := f35, d_l_table := PySem.W.fnOf "_law_table" "_law_table" (defArgs s_l_table) (defBody s_l_table) (defScope s_l_table) .none kV35 dc35 pm35 an35 cd35 ct35, f_l_things := f36, d_l_things := PySem.W.fnOf "_law_things" "_law_things" (defArgs s_l_things) (defBody s_l_things) (defScope s_l_things) .none kV36 dc36 pm36 an36 cd36 ct36, f_l_formula := f37, d_l_formula := PySem.W.fnOf "_law_formula" "_law_formula" (defArgs s_l_formula) (defBody s_l_formula) (defScope s_l_formula) .none kV37 dc37 pm37 an37 cd37 ct37, f_l_count := f38, d_l_count := PySem.W.fnOf "_law_count" "_law_count" (defArgs s_l_count) (defBody s_l_count) (defScope s_l_count) .none kV38 dc38 pm38 an38 cd38 ct38, f_l_facts := f39, d_l_facts := PySem.W.fnOf "_law_facts" "_law_facts" (defArgs s_l_facts) (defBody s_l_facts) (defScope s_l_facts) .none kV39 dc39 pm39 an39 cd39 ct39, f_l_close := f40, d_l_close := PySem.W.fnOf "_law_close" "_law_close" (defArgs s_l_close) (defBody s_l_close) (defScope s_l_close) .none kV40 dc40 pm40 an40 cd40 ct40, f_l_marks := f41, d_l_marks := PySem.W.fnOf "_law_marks" "_law_marks" (defArgs s_l_marks) (defBody s_l_marks) (defScope s_l_marks) .none kV41 dc41 pm41 an41 cd41 ct41, f_l_all_marks := f42, d_l_all_marks := PySem.W.fnOf "_law_all_marks" "_law_all_marks" (defArgs s_l_all_marks) (defBody s_l_all_marks) (defScope s_l_all_marks) .none kV42 dc42 pm42 an42 cd42 ct42, f_l_lots := f43, d_l_lots := PySem.W.fnOf "_law_lots" "_law_lots" (defArgs s_l_lots) (defBody s_l_lots) (defScope s_l_lots) .none kV43 dc43 pm43 an43 cd43 ct43, f_l_clash := f44, d_l_clash := PySem.W.fnOf "_law_clash" "_law_clash" (defArgs s_l_clash) (defBody s_l_clash) (defScope s_l_clash) .none kV44 dc44 pm44 an44 cd44 ct44, f_l_good_facts := f45, d_l_good_facts := PySem.W.fnOf "_law_good_facts" "_law_good_facts" (defArgs s_l_good_facts) (defBody s_l_good_facts) (defScope s_l_good_facts) .none kV45 dc45 pm45 an45 cd45 ct45, f_l_put := f46, d_l_put := PySem.W.fnOf "_law_put" "_law_put" (defArgs s_l_put) (defBody s_l_put) (defScope s_l_put) .none kV46 dc46 pm46 an46 cd46 ct46, f_l_near := f47, d_l_near := PySem.W.fnOf "_law_near" "_law_near" (defArgs s_l_near) (defBody s_l_near) (defScope s_l_near) .none kV47 dc47 pm47 an47 cd47 ct47, f_l_is_same := f48, d_l_is_same := PySem.W.fnOf "_law_is_same" "_law_is_same" (defArgs s_l_is_same) (defBody s_l_is_same) (defScope s_l_is_same) .none kV48 dc48 pm48 an48 cd48 ct48, f_law := fa, d_law := PySem.W.fnOf "law" "law" (defArgs s_law) (defBody s_law) (defScope s_law) .none kV49 dc49 pm49 an49 cd49 ct49 }
  have cP1 : KPl K w mg "PLACES" plcs := ⟨wa1, es1, wn1, PySem.W.mg_of X G m1, v1, y1, lo1, ks1, sz1, (by
    intro p hp
    simp only [plcs, List.mem_cons, List.not_mem_nil, or_false] at hp
    rcases hp with rfl | rfl | rfl
    · exact ⟨.ref b1_0, .ref b1_0, g1_0, rfl, fun H => .tup (.inr ⟨_, _, _, u1_0, rfl, rfl, rfl, Nat.le_of_ble_eq_true rfl, (.cons (a := V.int _) ⟨_, rfl⟩ (.cons (a := V.int _) ⟨_, rfl⟩ (.cons (a := V.int _) ⟨_, rfl⟩ .nil)))⟩) (.cons (.int _) (.cons (.int _) (.cons (.int _) .nil)))⟩
    · exact ⟨.ref b1_1, .ref b1_1, g1_1, rfl, fun H => .tup (.inr ⟨_, _, _, u1_1, rfl, rfl, rfl, Nat.le_of_ble_eq_true rfl, (.cons (a := V.int _) ⟨_, rfl⟩ (.cons (a := V.int _) ⟨_, rfl⟩ (.cons (a := V.int _) ⟨_, rfl⟩ .nil)))⟩) (.cons (.int _) (.cons (.int _) (.cons (.int _) .nil)))⟩
    · exact ⟨.ref b1_2, .ref b1_2, g1_2, rfl, fun H => .tup (.inr ⟨_, _, _, u1_2, rfl, rfl, rfl, Nat.le_of_ble_eq_true rfl, (.cons (a := V.int _) ⟨_, rfl⟩ (.cons (a := V.int _) ⟨_, rfl⟩ (.cons (a := V.int _) ⟨_, rfl⟩ .nil)))⟩) (.cons (.int _) (.cons (.int _) (.cons (.int _) .nil)))⟩)⟩
  have T : Txt K mg a w := { F_wall := F1, B_wall := b1, G_wall := PySem.W.mg_of X G a1, F_choices := F2, B_choices := b2, G_choices := PySem.W.mg_of X G a2, F_is_name := F3, B_is_name := b3, G_is_name := PySem.W.mg_of X G a3, F_Closing_xinit := F4, B_Closing_xinit := b4, F_Closing_root := F5, B_Closing_root := b5, F_Closing_join := F6, B_Closing_join := b6, F_Closing_rooted := F7, B_Closing_rooted := b7, F_Closing_is_joined := F8, B_Closing_is_joined := b8, F_Closing_settle := F9, B_Closing_settle := b9, F_Closing_told := F10, B_Closing_told := b10, F_Closing_third := F11, B_Closing_third := b11, F_Closing_thing_of := F12, B_Closing_thing_of := b12, F_Closing_put_together := F13, B_Closing_put_together := b13, F_Closing_numbered := F14, B_Closing_numbered := b14, F_closing_by := F15, B_closing_by := b15, G_closing_by := PySem.W.mg_of X G a15, F_closing_of := F16, B_closing_of := b16, G_closing_of := PySem.W.mg_of X G a16, F_lots_of := F17, B_lots_of := b17, G_lots_of := PySem.W.mg_of X G a17, F_are_one := F18, B_are_one := b18, G_are_one := PySem.W.mg_of X G a18, F_torn_by := F19, B_torn_by := b19, G_torn_by := PySem.W.mg_of X G a19, F_clash := F20, B_clash := b20, G_clash := PySem.W.mg_of X G a20, F_closed := F21, B_closed := b21, G_closed := PySem.W.mg_of X G a21, F_entry_told := F22, B_entry_told := b22, G_entry_told := PySem.W.mg_of X G a22, F_is_made := F23, B_is_made := b23, G_is_made := PySem.W.mg_of X G a23, F_rule_told := F24, B_rule_told := b24, G_rule_told := PySem.W.mg_of X G a24, F_shorter := F25, B_shorter := b25, G_shorter := PySem.W.mg_of X G a25, F_first_step := F26, B_first_step := b26, G_first_step := PySem.W.mg_of X G a26, F_steps := F27, B_steps := b27, G_steps := PySem.W.mg_of X G a27, F_same := F28, B_same := b28, G_same := PySem.W.mg_of X G a28, F_l_bag := F29, B_l_bag := b29, G_l_bag := PySem.W.mg_of X G a29, F_l_draw := F30, B_l_draw := b30, G_l_draw := PySem.W.mg_of X G a30, F_l_pick := F31, B_l_pick := b31, G_l_pick := PySem.W.mg_of X G a31, F_l_divisor := F32, B_l_divisor := b32, G_l_divisor := PySem.W.mg_of X G a32, F_l_turned := F33, B_l_turned := b33, G_l_turned := PySem.W.mg_of X G a33, F_l_turn_over := F34, B_l_turn_over := b34, G_l_turn_over := PySem.W.mg_of X G a34, F_l_table := F35, B_l_table := b35, G_l_table := PySem.W.mg_of X G a35, F_l_things := F36, B_l_things := b36, G_l_things := PySem.W.mg_of X G a36, F_l_formula := F37, B_l_formula := b37, G_l_formula := PySem.W.mg_of X G a37, F_l_count := F38, B_l_count := b38, G_l_count := PySem.W.mg_of X G a38, F_l_facts := F39, B_l_facts := b39, G_l_facts := PySem.W.mg_of X G a39, F_l_close := F40, B_l_close := b40, G_l_close := PySem.W.mg_of X G a40, F_l_marks := F41, B_l_marks := b41, G_l_marks := PySem.W.mg_of X G a41, F_l_all_marks := F42, B_l_all_marks := b42, G_l_all_marks := PySem.W.mg_of X G a42, F_l_lots := F43, B_l_lots := b43, G_l_lots := PySem.W.mg_of X G a43, F_l_clash := F44, B_l_clash := b44, G_l_clash := PySem.W.mg_of X G a44, F_l_good_facts := F45, B_l_good_facts := b45, G_l_good_facts := PySem.W.mg_of X G a45, F_l_put := F46, B_l_put := b46, G_l_put := PySem.W.mg_of X G a46, F_l_near := F47, B_l_near := b47, G_l_near := PySem.W.mg_of X G a47, F_l_is_same := F48, B_l_is_same := b48, G_l_is_same := PySem.W.mg_of X G a48, F_law := F49, B_law := b49, G_law := PySem.W.mg_of X G a49, X_Closing := ⟨PySem.W.mg_of X G oa1, ⟨ob1, oc1_, od1_, oe1⟩, ⟨of1, a4, i4, og1⟩⟩, n_Closing_elder := on1_0, n_Closing_rows := on1_1, m_Closing_root := ⟨a5, i5, k5⟩, m_Closing_join := ⟨a6, i6, k6⟩, m_Closing_rooted := ⟨a7, i7, k7⟩, m_Closing_is_joined := ⟨a8, i8, k8⟩, m_Closing_settle := ⟨a9, i9, k9⟩, m_Closing_told := ⟨a10, i10, k10⟩, m_Closing_third := ⟨a11, i11, k11⟩, m_Closing_thing_of := ⟨a12, i12, k12⟩, m_Closing_put_together := ⟨a13, i13, k13⟩, m_Closing_numbered := ⟨a14, i14, k14⟩, z_abs := PySem.W.mg_none_of X G z1, z_any := PySem.W.mg_none_of X G z2, z_enumerate := PySem.W.mg_none_of X G z3, z_int := PySem.W.mg_none_of X G z4, z_isinstance := PySem.W.mg_none_of X G z5, z_len := PySem.W.mg_none_of X G z6, z_list := PySem.W.mg_none_of X G z7, z_max := PySem.W.mg_none_of X G z8, z_min := PySem.W.mg_none_of X G z9, z_range := PySem.W.mg_none_of X G z10, z_repr := PySem.W.mg_none_of X G z11, z_set := PySem.W.mg_none_of X G z12, z_sorted := PySem.W.mg_none_of X G z13, z_tuple := PySem.W.mg_none_of X G z14, c_PLACES := cP1 }
  exact ⟨a.d_law, fun s v => .of_eq rfl, fun base _ _ => ok_law T⟩
theorem walk {l : PySem.W.OpenLaw} {q : Program} {loose : List Str} {XP : (Str → Option Value) → Heap → Prop} {YP : World → Heap → Prop} {d : DefRec} {K : Params → PySem.W.Frag} (hn : l.most = some 63) (hdf : d.params.defaults = [])
    (hY : ∀ (w : World) (h : Heap), YP w h → (K w.params).In h)
    (F : ∀ (w : World) (mg : Str → Option Value) (fa : Addr) (h : Heap), (K w.params).In h → h.Ns mainGlobals mg → mg d.name = some (.ref fa) →
      ∃ fd : FuncData, (∀ (s : Shared) (u : Value), BindsTo s fd ⟨[u], []⟩ [("_law_script", u)]) ∧ ∀ base : Heap, (K w.params).In base → base.Ns mainGlobals mg → FnD l.prog w (K w.params) mg base CX0 20 fa fd ["_law_script"] sp_law) :
    PySem.W.WalkO q loose XP YP l.row.toRowW d [] (fun f vs => PySem.call f vs) :=
  walk_G (n := 63) (k := 20) (x := "_law_script") (CX := fun _ => CX0) (sp := sp_law) hn (by decide) hdf ⟨rfl, by decide, by decide⟩ hY F (fun ns hl => ⟨ns, rfl, Nat.le_trans hl (by decide), fun _ => rfl⟩) fun _ _ _ _ _ z => z
end LK

open PySem PySem.W PyProof.Rows in
set_option maxRecDepth 100000 in
set_option maxHeartbeats 0 in
theorem PySem.Challenge.cw_solvedbothsides_k11_same_by_closing_holds : PySem.Challenge.rw_solvedbothsides_k11_same_by_closing.Holds := by
  w_on; o_law; k_head; (case hw => w_witness2)
  k_fill
  refine LK.walk (l := PySem.Challenge.rw_solvedbothsides_k11_same_by_closing) rfl rfl (fun w h Y => PySem.W.kIn_of Y) ?F
  case F =>
    intro w mg fa h KX G hmg
    refine' LK.all_mk KX G hmg ?oa1 ?ob1 ?oc1_ ?od1_ ?oe1 ?of1 ?og1 ?on1_0 ?on1_1 ?a1 ?l1 ?c1 ?k1 ?a2 ?l2 ?c2 ?k2 ?a3 ?l3 ?c3 ?k3 ?a4 ?i4 ?l4 ?c4 ?k4 ?a5 ?i5 ?l5 ?c5 ?k5 ?a6 ?i6 ?l6 ?c6 ?k6 ?a7 ?i7 ?l7 ?c7 ?k7 ?a8 ?i8 ?l8 ?c8 ?k8 ?a9 ?i9 ?l9 ?c9 ?k9 ?a10 ?i10 ?l10 ?c10 ?k10 ?a11 ?i11 ?l11 ?c11 ?k11 ?a12 ?i12 ?l12 ?c12 ?k12 ?a13 ?i13 ?l13 ?c13 ?k13 ?a14 ?i14 ?l14 ?c14 ?k14 ?a15 ?l15 ?c15 ?k15 ?a16 ?l16 ?c16 ?k16 ?a17 ?l17 ?c17 ?k17 ?a18 ?l18 ?c18 ?k18 ?a19 ?l19 ?c19 ?k19 ?a20 ?l20 ?c20 ?k20 ?a21 ?l21 ?c21 ?k21 ?a22 ?l22 ?c22 ?k22 ?a23 ?l23 ?c23 ?k23 ?a24 ?l24 ?c24 ?k24 ?a25 ?l25 ?c25 ?k25 ?a26 ?l26 ?c26 ?k26 ?a27 ?l27 ?c27 ?k27 ?a28 ?l28 ?c28 ?k28 ?a29 ?l29 ?c29 ?k29 ?a30 ?l30 ?c30 ?k30 ?a31 ?l31 ?c31 ?k31 ?a32 ?l32 ?c32 ?k32 ?a33 ?l33 ?c33 ?k33 ?a34 ?l34 ?c34 ?k34 ?a35 ?l35 ?c35 ?k35 ?a36 ?l36 ?c36 ?k36 ?a37 ?l37 ?c37 ?k37 ?a38 ?l38 ?c38 ?k38 ?a39 ?l39 ?c39 ?k39 ?a40 ?l40 ?c40 ?k40 ?a41 ?l41 ?c41 ?k41 ?a42 ?l42 ?c42 ?k42 ?a43 ?l43 ?c43 ?k43 ?a44 ?l44 ?c44 ?k44 ?a45 ?l45 ?c45 ?k45 ?a46 ?l46 ?c46 ?k46 ?a47 ?l47 ?c47 ?k47 ?a48 ?l48 ?c48 ?k48 ?a49 ?l49 ?c49 ?k49 ?z1 ?z2 ?z3 ?z4 ?z5 ?z6 ?z7 ?z8 ?z9 ?z10 ?z11 ?z12 ?z13 ?z14 ?m1 ?v1 ?y1 ?lo1 ?ks1 ?sz1 ?g1_0 ?u1_0 ?g1_1 ?u1_1 ?g1_2 ?u1_2
    (case oa1 => k_is)
    (case ob1 => k_is)
    (case oc1_ => k_is)
    (case od1_ => k_is)
    (case oe1 => k_is)
    (case of1 => k_is)
    (case og1 => k_is)
    (case on1_0 => k_is)
    (case on1_1 => k_is)
    (case a1 => k_is)
    (case l1 => k_is)
    (case c1 => k_is)
    (case k1 => k_is)
    (case a2 => k_is)
    (case l2 => k_is)
    (case c2 => k_is)
    (case k2 => k_is)
    (case a3 => k_is)
    (case l3 => k_is)
    (case c3 => k_is)
    (case k3 => k_is)
    (case a4 => k_is)
    (case i4 => k_is)
    (case l4 => k_is)
    (case c4 => k_is)
    (case k4 => k_is)
    (case a5 => k_is)
    (case i5 => k_is)
    (case l5 => k_is)
    (case c5 => k_is)
    (case k5 => k_is)
    (case a6 => k_is)
    (case i6 => k_is)
    (case l6 => k_is)
    (case c6 => k_is)
    (case k6 => k_is)
    (case a7 => k_is)
    (case i7 => k_is)
    (case l7 => k_is)
    (case c7 => k_is)
    (case k7 => k_is)
    (case a8 => k_is)
    (case i8 => k_is)
    (case l8 => k_is)
    (case c8 => k_is)
    (case k8 => k_is)
    (case a9 => k_is)
    (case i9 => k_is)
    (case l9 => k_is)
    (case c9 => k_is)
    (case k9 => k_is)
    (case a10 => k_is)
    (case i10 => k_is)
    (case l10 => k_is)
    (case c10 => k_is)
    (case k10 => k_is)
    (case a11 => k_is)
    (case i11 => k_is)
    (case l11 => k_is)
    (case c11 => k_is)
    (case k11 => k_is)
    (case a12 => k_is)
    (case i12 => k_is)
    (case l12 => k_is)
    (case c12 => k_is)
    (case k12 => k_is)
    (case a13 => k_is)
    (case i13 => k_is)
    (case l13 => k_is)
    (case c13 => k_is)
    (case k13 => k_is)
    (case a14 => k_is)
    (case i14 => k_is)
    (case l14 => k_is)
    (case c14 => k_is)
    (case k14 => k_is)
    (case a15 => k_is)
    (case l15 => k_is)
    (case c15 => k_is)
    (case k15 => k_is)
    (case a16 => k_is)
    (case l16 => k_is)
    (case c16 => k_is)
    (case k16 => k_is)
    (case a17 => k_is)
    (case l17 => k_is)
    (case c17 => k_is)
    (case k17 => k_is)
    (case a18 => k_is)
    (case l18 => k_is)
    (case c18 => k_is)
    (case k18 => k_is)
    (case a19 => k_is)
    (case l19 => k_is)
    (case c19 => k_is)
    (case k19 => k_is)
    (case a20 => k_is)
    (case l20 => k_is)
    (case c20 => k_is)
    (case k20 => k_is)
    (case a21 => k_is)
    (case l21 => k_is)
    (case c21 => k_is)
    (case k21 => k_is)
    (case a22 => k_is)
    (case l22 => k_is)
    (case c22 => k_is)
    (case k22 => k_is)
    (case a23 => k_is)
    (case l23 => k_is)
    (case c23 => k_is)
    (case k23 => k_is)
    (case a24 => k_is)
    (case l24 => k_is)
    (case c24 => k_is)
    (case k24 => k_is)
    (case a25 => k_is)
    (case l25 => k_is)
    (case c25 => k_is)
    (case k25 => k_is)
    (case a26 => k_is)
    (case l26 => k_is)
    (case c26 => k_is)
    (case k26 => k_is)
    (case a27 => k_is)
    (case l27 => k_is)
    (case c27 => k_is)
    (case k27 => k_is)
    (case a28 => k_is)
    (case l28 => k_is)
    (case c28 => k_is)
    (case k28 => k_is)
    (case a29 => k_is)
    (case l29 => k_is)
    (case c29 => k_is)
    (case k29 => k_is)
    (case a30 => k_is)
    (case l30 => k_is)
    (case c30 => k_is)
    (case k30 => k_is)
    (case a31 => k_is)
    (case l31 => k_is)
    (case c31 => k_is)
    (case k31 => k_is)
    (case a32 => k_is)
    (case l32 => k_is)
    (case c32 => k_is)
    (case k32 => k_is)
    (case a33 => k_is)
    (case l33 => k_is)
    (case c33 => k_is)
    (case k33 => k_is)
    (case a34 => k_is)
    (case l34 => k_is)
    (case c34 => k_is)
    (case k34 => k_is)
    (case a35 => k_is)
    (case l35 => k_is)
    (case c35 => k_is)
    (case k35 => k_is)
    (case a36 => k_is)
    (case l36 => k_is)
    (case c36 => k_is)
    (case k36 => k_is)
    (case a37 => k_is)
    (case l37 => k_is)
    (case c37 => k_is)
    (case k37 => k_is)
    (case a38 => k_is)
    (case l38 => k_is)
    (case c38 => k_is)
    (case k38 => k_is)
    (case a39 => k_is)
    (case l39 => k_is)
    (case c39 => k_is)
    (case k39 => k_is)
    (case a40 => k_is)
    (case l40 => k_is)
    (case c40 => k_is)
    (case k40 => k_is)
    (case a41 => k_is)
    (case l41 => k_is)
    (case c41 => k_is)
    (case k41 => k_is)
    (case a42 => k_is)
    (case l42 => k_is)
    (case c42 => k_is)
    (case k42 => k_is)
    (case a43 => k_is)
    (case l43 => k_is)
    (case c43 => k_is)
    (case k43 => k_is)
    (case a44 => k_is)
    (case l44 => k_is)
    (case c44 => k_is)
    (case k44 => k_is)
    (case a45 => k_is)
    (case l45 => k_is)
    (case c45 => k_is)
    (case k45 => k_is)
    (case a46 => k_is)
    (case l46 => k_is)
    (case c46 => k_is)
    (case k46 => k_is)
    (case a47 => k_is)
    (case l47 => k_is)
    (case c47 => k_is)
    (case k47 => k_is)
    (case a48 => k_is)
    (case l48 => k_is)
    (case c48 => k_is)
    (case k48 => k_is)
    (case a49 => k_is)
    (case l49 => k_is)
    (case c49 => k_is)
    (case k49 => k_is)
    (case z1 => k_is)
    (case z2 => k_is)
    (case z3 => k_is)
    (case z4 => k_is)
    (case z5 => k_is)
    (case z6 => k_is)
    (case z7 => k_is)
    (case z8 => k_is)
    (case z9 => k_is)
    (case z10 => k_is)
    (case z11 => k_is)
    (case z12 => k_is)
    (case z13 => k_is)
    (case z14 => k_is)
    (case m1 => k_is)
    (case v1 => k_is)
    (case y1 => k_keys)
    (case lo1 => decide)
    (case ks1 => exact (.cons (a := L2.V.str _) ⟨_, rfl⟩ (.cons (a := L2.V.str _) ⟨_, rfl⟩ (.cons (a := L2.V.str _) ⟨_, rfl⟩ .nil))))
    (case sz1 => exact Nat.le_of_ble_eq_true rfl)
    (case g1_0 => k_is)
    (case u1_0 => k_is)
    (case g1_1 => k_is)
    (case u1_1 => k_is)
    (case g1_2 => k_is)
    (case u1_2 => k_is)
