import PyProof.Rows.All
import Wide.All
import OpenK.AllK
import Wide.FinOn
import HandS.List
import HandS.Conv
import HandS.Text
import HandS.Strs
import HandS.Zip
import HandS.TupAny
import HandS.ForMost
import HandS.ForExc
import HandS.Evl
import KE.KDictKeyed
import KE.KeyNested
import HandS.IsInst
import HandS.TupMul
import HandS.Deep
import HandS.Wide
import HandS.WideBits
import HandS.Defaults
import HandS.TupLe
import HandS.Style
import PyProof.EqKinds
import HandS.Head0
import HandS.Head1
import HandS.Head2
import HandS.HeadEnd
import HandS.HeadHook1
import HandS.HeadHook2
import HandS.EndBits
import PyProof.ListStr
import PyProof.TupleOfStr
import HandS.ExcValue
import HandS.ExcField
import KE.KExcIs
import HandS.HeadHook4
import HandS.ExcInit
import HandS.HeadHook3
import HandS.Replace
import PyProof.SumAnyB
import HandS.SortRule
import KE.KSortTupG
import PyProof.TupleOfSeq
import HandS.Dict
import HandS.DictTup
import HandS.TryOnly
import KE.KDictDisplayH
import PySem.Challenge.RW_wishladder_k43_books_of_any_things
set_option Elab.async false
set_option linter.all false
set_option maxRecDepth 100000
set_option maxHeartbeats 1000000
/-! tuples whose object is known to have no dict of its own -/
namespace Dt
open PySem PySem.Spec L2 PyProof.Rows
/-- a new tuple, its object without a dict -/
abbrev Nt (H : Hp) (xs : List V) (Q : VK) : Prop := ∀ (p : Addr) (o : Obj), o.dict = none → H p = none → Q (.ref p) (upd H p (.frz o (.tup xs)))
section
variable {X : Cx}
theorem laidN {pins : List (Addr × Obj)} {s : Shared} {σ : L2.St} {H : Hp} {h' : Heap} {t' : Tok} {us : List Value} {xs : List V} {Q : VK} {ob : Obj} {p : Addr} (I : Inv X pins σ H s) (hk : ∀ b o, s.heap.get? b = some o → h'.get? b = some o) (hp : s.heap.objs.size ≤ p) (r : Vals xs us) (hz : xs.length ≤ sizeLine)
    (hg : h'.get? p = some ob) (hc : ob.cls = .type "tuple") (hd : ob.dict = none) (hn : ∃ n, ob.data = .seq us.toArray n) (q : Nt H xs Q) : EP X pins σ Q (.ref p) { s with heap := h', toks := t' } :=
  ⟨.ref p, _, I.laid (t' := t') (o := .frz ob (.tup xs)) hk hp ⟨hg, hz, us, r, ob, hg, hc, hn⟩, rfl, q p ob hd (I.hok.fresh hp)⟩
def tTupN (t : TA) : TE := fun σ H Q => t σ H fun xs H1 => xs.length ≤ sizeLine ∧ Nt H1 xs Q
theorem pe_tupN {es : List Expr} {t : TA} {pos : Pos} {x1} (h : PA X es t) : PE X (.Tuple es x1 pos) (tTupN t) := by
  refine ⟨fun pins s σ H Q I hq => ?_⟩
  refine wpAny_Tuple_spliced (thn (h.run pos pins s σ H _ I hq) fun us s1 ⟨xs, H1, I1, r, z, q⟩ => ⟨by rw [← r.length]; exact z, ?_⟩)
  exact laidN (t' := s1.toks) I1 (fun b u e => Heap.get?_push_of_some _ e) (Nat.le_refl _) r z (Heap.get?_push_size _ rfl) rfl rfl ⟨_, rfl⟩ q
/-- t + u -/
def rCatN (K : PySem.W.Frag) : R2 := fun x y H Q => ∃ a b xs ys, x = .ref a ∧ y = .ref b ∧ SqT K H a xs ∧ SqT K H b ys ∧ xs.length + ys.length ≤ sizeLine ∧
  (xs = [] → Q (.ref b) H) ∧ (xs ≠ [] → ys = [] → Q (.ref a) H) ∧ (xs ≠ [] → ys ≠ [] → Nt H (xs ++ ys) Q)
theorem op_catN : OpR X (binaryOp .Add) (rCatN X.K) := by
  intro pins s σ H x y v u Q I rx ry h
  obtain ⟨a, b, xs, ys, rfl, rfl, ha, hb, hz, q0, q1, q2⟩ := h
  by_cases hx : xs = []
  · exact op_catA pins s σ H _ _ v u Q I rx ry ⟨a, b, xs, ys, rfl, rfl, ha, hb, hz, q0, fun z => absurd hx z, fun z => absurd hx z⟩
  · obtain rfl : v = Value.ref a := rx
    obtain rfl : u = Value.ref b := ry
    obtain ⟨ia, ra, pa, _⟩ := I.tuple ha
    obtain ⟨ib, rb, pb, _⟩ := I.tuple hb
    have hl : ia.length + ib.length ≤ sizeLine := by rw [← ra.length, ← rb.length]; exact hz
    refine HT.cat_tup pa pb (fun z => hx (ra.nil_iff.mp z)) (fun z => ?_) (fun z => ?_) hl
    · exact ⟨.ref a, H, I, rfl, q1 hx (rb.nil_iff.mp z)⟩
    · exact laidN (t' := s.toks) I (fun c ob e => Heap.get?_push_of_some _ e) (Nat.le_refl _) (ra.append rb) (by rw [List.length_append]; exact hz) (Heap.get?_push_size _ rfl) rfl rfl ⟨_, rfl⟩ (q2 hx fun w => z (rb.nil_iff.mpr w))
/-- t[lo:hi] -/
def rSlN (K : PySem.W.Frag) : V → Option Int → Option Int → Hp → VK → Prop := fun x lo hi H Q => ∃ a xs, x = .ref a ∧ SqT K H a xs ∧
  (HT.sIx xs.length 0 lo = 0 ∧ HT.sIx xs.length xs.length hi = xs.length → Q (.ref a) H) ∧ (¬ (HT.sIx xs.length 0 lo = 0 ∧ HT.sIx xs.length xs.length hi = xs.length) → Nt H (cutV xs lo hi) Q)
theorem sl_tupN : SlR X (rSlN X.K) := by
  intro pins s σ H x v vl vu lo hi sl Q I rx hs pl pu h
  obtain ⟨a, xs, rfl, hx, q1, q2⟩ := h
  by_cases hw : HT.sIx xs.length 0 lo = 0 ∧ HT.sIx xs.length xs.length hi = xs.length
  · exact sl_tupA pins s σ H _ v vl vu lo hi sl Q I rx hs pl pu ⟨a, xs, rfl, hx, q1, fun z => absurd hw z⟩
  · obtain rfl : v = Value.ref a := rx
    obtain ⟨ia, ra, pa, hz⟩ := I.tuple hx
    have hn : ia.toArray.size = xs.length := by rw [List.size_toArray, ra.length]
    refine ⟨"tuple", _, slot_tuple_getitem.lookup, pa.typeIs, HT.getItem_tuple_cut pa hs pl pu (by rw [hn]; exact hw) ?_ (by rw [hn]; exact hz)⟩
    rw [hn]
    have rc : Vals (cutV xs lo hi) ((ia.drop (HT.sIx xs.length 0 lo)).take (HT.sIx xs.length xs.length hi - HT.sIx xs.length 0 lo)) := (ra.drop _).take _
    exact laidN (t' := s.toks) I (fun c ob e => Heap.get?_push_of_some _ e) (Nat.le_refl _) rc (Nat.le_trans (cutV_length xs lo hi) hz) (Heap.get?_push_size _ rfl) rfl rfl ⟨_, rfl⟩ (q2 hw)
/-- tuple(x) of a list, of a tuple -/
def rTupleN (K : PySem.W.Frag) : List V → Hp → VK → Prop := fun xs H Q => ∃ p ys, xs = [.ref p] ∧ ((SqL K H p ys ∧ Nt H ys Q) ∨ (SqT K H p ys ∧ Q (.ref p) H))
theorem call_tupleN : CallR X (.type "tuple") (rTupleN X.K) := by
  intro pins s σ H xs us Q I r h
  obtain ⟨p, ys, rfl, h⟩ := h
  obtain ⟨u, rfl, ru⟩ := vals1 r
  rcases h with ⟨hs, q⟩ | ⟨hs, q⟩
  · obtain rfl : u = Value.ref p := ru
    obtain ⟨ia, ra, pl, hz⟩ := I.list hs
    refine call_tuple_list pl.isList (fun h' hk => ?_) (by rw [List.size_toArray, ← ra.length]; exact hz)
    have J : Inv X pins σ H { s with heap := h' } := I.kept (t' := s.toks) hk
    exact laidN (s := { s with heap := h' }) (t' := s.toks) J (fun c ob e => Heap.get?_push_of_some _ e) (Nat.le_refl _) ra hz (Heap.get?_push_size _ rfl) rfl rfl ⟨_, rfl⟩ q
  · exact rl_tuple pins s σ H _ u Q I ru (.inr ⟨p, ys, rfl, hs, q⟩)
theorem laid3 {pins : List (Addr × Obj)} {s : Shared} {σ : L2.St} {H : Hp} {x y z : Str} {t u v : Tok} {k : Nat} {Q : VK} (I : Inv X pins σ H s) (q : Nt H [.str x, .str y, .str z] Q) :
    EP X pins σ Q (.ref s.heap.objs.size) { s with toks := k, heap := s.heap.push { cls := .type "tuple", data := .seq [Value.str x t, .str y u, .str z v].toArray } } := by
  have r : Vals [.str x, .str y, .str z] [Value.str x t, .str y u, .str z v] := .cons (show RelV (.str x) _ from ⟨t, rfl⟩) (.cons (show RelV (.str y) _ from ⟨u, rfl⟩) (.cons (show RelV (.str z) _ from ⟨v, rfl⟩) .nil))
  exact laidN (t' := k) I (fun c ob e => Heap.get?_push_of_some _ e) (Nat.le_refl _) r (by show 3 ≤ sizeLine; decide) (Heap.get?_push_size _ rfl) rfl rfl ⟨_, rfl⟩ q
/-- x.partition(y) -/
theorem mt_partN : MtR X "str.partition" (fun x xs H Q => ∃ a b, x = .str a ∧ xs = [.str b] ∧ (b.length == 0) = false ∧ a.length ≤ sizeLine ∧
    Nt H [.str (Txt.partition a b).1, .str (Txt.partition a b).2.1, .str (Txt.partition a b).2.2] Q) := by
  intro pins s σ H x xs v us Q I rx rs h
  obtain ⟨a, b, rfl, rfl, hb, hz, h⟩ := h
  obtain ⟨t, rfl⟩ := rx
  obtain ⟨u, rfl, k, rfl⟩ := vals1 rs
  refine call_meets F.slot_str_partition (typeIs_str _ _ _) F.entry_str_partition (F.args_str_partition_2 _ _) (meets_str_partition a b t k hb hz) ?_
  unfold Txt.partition at h
  revert h
  cases Builtin.Str.occurrences a b 0 a.length 1 with
  | nil =>
    intro h
    exact laid3 I h
  | cons i r =>
    intro h
    exact laid3 I h
/-! ### a method of such a tuple -/
/-- a tuple whose object has no dict -/
def SqN (K : PySem.W.Frag) (H : Hp) (a : Addr) (xs : List V) : Prop := (∃ o, H a = some (.frz o (.tup xs)) ∧ o.dict = none) ∨
  ∃ (o : Obj) (its : Array Value) (n : Nat), K.lookup a = some o ∧ o.cls = .type "tuple" ∧ o.dict = none ∧ o.data = .seq its n ∧ its.size ≤ sizeLine ∧ Vals xs its.toList
theorem SqN.sq {K : PySem.W.Frag} {H : Hp} {a : Addr} {xs : List V} (h : SqN K H a xs) : SqT K H a xs := by
  rcases h with ⟨o, h, _⟩ | ⟨o, its, n, h1, h2, _, h3, h4, h5⟩
  · exact .inl (.inr ⟨o, h⟩)
  · exact .inr ⟨o, its, n, h1, h2, h3, h4, h5⟩
theorem SqN.obj {pins : List (Addr × Obj)} {σ : L2.St} {H : Hp} {s : Shared} {a : Addr} {xs : List V} (I : Inv X pins σ H s) (h : SqN X.K H a xs) : ∃ ob, s.heap.get? a = some ob ∧ ob.dict = none := by
  rcases h with ⟨o, h, hd⟩ | ⟨o, its, n, h1, h2, hd, _⟩
  · exact ⟨o, (I.hok a _ h).1, hd⟩
  · exact ⟨o, I.kIn a o h1, hd⟩
def tTM (K : PySem.W.Frag) (r : V → List V → Hp → VK → Prop) (to : TE) (t : TA) : TE := fun σ H Q => to σ H fun x H1 => (∃ a xs, x = .ref a ∧ SqN K H1 a xs) ∧ t σ H1 fun xs H2 => r x xs H2 Q
theorem pe_tm {o e : Expr} {es : List Expr} {to : TE} {t : TA} {name : Str} {apos cpos : Pos} {id : String} {r : V → List V → Hp → VK → Prop} (slot : Slot "tuple" name id) (hty : typeOf (.builtin id) = pure (.type "method_descriptor")) (hm : MtR X id r) (ho : PE X o to) (ha : PA X (e :: es) t)
    (hbase : attributeBase o name X.env (eval o X.env) = eval o X.env := by rfl)
    (hfew : ((backTo cpos (starEach (e :: es) X.env)).all (fun x => !x.1) && (backToKw cpos (keywordEach [] X.env)).all (fun x => x.1.isSome) && decide ((e :: es).length + ([] : List Keyword).length + (if ([] : List Keyword).isEmpty then 0 else 1) < 30)) = true := by rfl)
    (hline : (apos.endLine == cpos.line) = true := by rfl) (hs : starEach (e :: es) X.env = (false, eval e X.env) :: starEach es X.env := by rfl) (hplain : (backTo cpos (starEach es X.env)).any (·.1) = false := by rfl) :
    PE X (.Call (.Attribute o name apos) (e :: es) [] cpos) (tTM X.K r to t) := by
  refine ⟨fun pins s σ H Q I h => ?_⟩
  refine wpAny_Call_method_late hbase hfew hline rfl (thn (ho.run pins s σ H _ I h) fun v s1 ⟨x, H1, I1, r1, ty, q1⟩ => ?_)
  obtain ⟨a, xs, rfl, hN⟩ := ty
  obtain rfl : v = Value.ref a := r1
  obtain ⟨its, _, pl, _⟩ := I1.tuple hN.sq
  refine ⟨"tuple", id, PySem.F.plainAttrs_tuple, slot, hty, pl.typeIs, fun c e => ?_, ?_⟩
  · cases e
    exact hN.obj I1
  · have hA := ha.run cpos pins s1 σ H1 _ I1 q1
    rw [hs] at hA ⊢
    have hp : ((false, eval e X.env) :: backTo cpos (starEach es X.env)).any (·.1) = false := by rw [List.any_cons, hplain]; rfl
    refine Calls.callWith_builtin hp (Calls.evalArgs_plain ?_)
    exact thn hA fun us s2 ⟨vs, H2, I2, r2, q2⟩ => hm pins s2 σ H2 (.ref a) vs (.ref a) us Q I2 rfl r2 q2
end
end Dt
/-! Dt: a layer of plain data over the hand layer: slots hold data or owned lists, a def is a function over data. -/
namespace Dt
open PySem PySem.Spec L2 Evl

abbrev Pd := PyData
/-- the program and the world that the proof speaks of (what texts hash to hangs on the world) -/
class WD where
  P : Program
  w : World
variable [WD]
/-- a dict whose keys are tuples, by its entries -/
def DkN (a : Addr) (xs : List (NestedKey × Addr × Value)) : HO := .ext fun h => (a == sysModules) = false ∧ xs.length ≤ sizeLine ∧ (xs.map (·.1)).Nodup ∧ (∀ x ∈ xs, x.1.depth ≤ 8) ∧
  ∃ o es ep, h.get? a = some o ∧ o.ExactDict ∧ o.data = .dict es ep ∧ es.toList = xs.map (entryOfKey (nestedKind WD.P WD.w))
/-- a key of a dict as data -/
def kD : Key → Pd
  | .inl i => .int i
  | .inr x => .str x

mutual
/-- the value v stands for the data d in the heap H -/
inductive RD (K : PySem.W.Frag) (H : Hp) : V → Pd → Prop
  | non : RD K H .non .none
  | bl (b : Bool) : RD K H (.bl b) (.bool b)
  | int (i : Int) : RD K H (.int i) (.int i)
  | str (x : Str) : RD K H (.str x) (.str x)
  | lst {a : Addr} {xs : List V} {ds : List Pd} (h : SqL K H a xs) (hs : RDs K H xs ds) : RD K H (.ref a) (.list ds)
  | tup {a : Addr} {xs : List V} {ds : List Pd} (h : SqN K H a xs) (hs : RDs K H xs ds) : RD K H (.ref a) (.tuple ds)
  | dct {a : Addr} {o : Obj} {kvs : List (Key × V)} {ds : List (Pd × Pd)} (h : H a = some (.frz o (.dK kvs))) (hs : RKs K H kvs ds) : RD K H (.ref a) (.dict ds)
inductive RDs (K : PySem.W.Frag) (H : Hp) : List V → List Pd → Prop
  | nil : RDs K H [] []
  | cons {v : V} {vs : List V} {d : Pd} {ds : List Pd} (h : RD K H v d) (hs : RDs K H vs ds) : RDs K H (v :: vs) (d :: ds)
inductive RKs (K : PySem.W.Frag) (H : Hp) : List (Key × V) → List (Pd × Pd) → Prop
  | nil : RKs K H [] []
  | cons {k : Key} {v : V} {vs : List (Key × V)} {d : Pd} {ds : List (Pd × Pd)} (h : RD K H v d) (hs : RKs K H vs ds) : RKs K H ((k, v) :: vs) ((kD k, d) :: ds)
end

section
variable {K : PySem.W.Frag} {H H' : Hp}
theorem ex_n {a : Addr} {xs : List V} (e : Ex H H') (h : SqN K H a xs) : SqN K H' a xs := by
  rcases h with ⟨o, h, hd⟩ | h
  · exact .inl ⟨o, e _ _ h, hd⟩
  · exact .inr h
theorem sn_of {a : Addr} {xs : List V} {o : Obj} (h : H a = some (.frz o (.tup xs))) (hd : o.dict = none) : SqN K H a xs := .inl ⟨o, h, hd⟩
mutual
theorem RD.mono (e : Ex H H') : ∀ {v : V} {d : Pd}, RD K H v d → RD K H' v d
  | _, _, .non => .non
  | _, _, .bl b => .bl b
  | _, _, .int i => .int i
  | _, _, .str x => .str x
  | _, _, .lst h hs => .lst (ex_l e h) (RDs.mono e hs)
  | _, _, .tup h hs => .tup (ex_n e h) (RDs.mono e hs)
  | _, _, .dct h hs => .dct (e _ _ h) (RKs.mono e hs)
theorem RDs.mono (e : Ex H H') : ∀ {v : List V} {d : List Pd}, RDs K H v d → RDs K H' v d
  | _, _, .nil => .nil
  | _, _, .cons h hs => .cons (RD.mono e h) (RDs.mono e hs)
theorem RKs.mono (e : Ex H H') : ∀ {v : List (Key × V)} {d : List (Pd × Pd)}, RKs K H v d → RKs K H' v d
  | _, _, .nil => .nil
  | _, _, .cons h hs => .cons (RD.mono e h) (RKs.mono e hs)
end
theorem RDs.length : ∀ {vs : List V} {ds : List Pd}, RDs K H vs ds → vs.length = ds.length
  | _, _, .nil => rfl
  | _, _, .cons _ t => congrArg Nat.succ (RDs.length t)
theorem RDs.get : ∀ {vs : List V} {ds : List Pd} {i : Nat} {d : Pd}, RDs K H vs ds → ds[i]? = some d → ∃ v, vs[i]? = some v ∧ RD K H v d
  | _, _, _, _, .nil, e => by simp at e
  | _, _, 0, _, .cons r _, e => by simp at e; subst e; exact ⟨_, rfl, r⟩
  | _, _, i + 1, d, .cons _ t, e => by
    obtain ⟨u, h1, h2⟩ := RDs.get (i := i) (d := d) t (by simpa using e)
    exact ⟨u, by simpa using h1, h2⟩
theorem RDs.get' : ∀ {vs : List V} {ds : List Pd} {i : Nat} {v : V}, RDs K H vs ds → vs[i]? = some v → ∃ d, ds[i]? = some d ∧ RD K H v d
  | _, _, _, _, .nil, e => by simp at e
  | _, _, 0, _, .cons r _, e => by simp at e; subst e; exact ⟨_, rfl, r⟩
  | _, _, i + 1, d, .cons _ t, e => by
    obtain ⟨u, h1, h2⟩ := RDs.get' (i := i) (v := d) t (by simpa using e)
    exact ⟨u, by simpa using h1, h2⟩
theorem RDs.append : ∀ {vs us : List V} {ds es : List Pd}, RDs K H vs ds → RDs K H us es → RDs K H (vs ++ us) (ds ++ es)
  | _, _, _, _, .nil, s => s
  | _, _, _, _, .cons r t, s => .cons r (RDs.append t s)
theorem RDs.take : ∀ {vs : List V} {ds : List Pd} (n : Nat), RDs K H vs ds → RDs K H (vs.take n) (ds.take n)
  | _, _, 0, _ => .nil
  | _, _, _ + 1, .nil => .nil
  | _, _, n + 1, .cons r t => .cons r (RDs.take n t)
theorem RDs.drop : ∀ {vs : List V} {ds : List Pd} (n : Nat), RDs K H vs ds → RDs K H (vs.drop n) (ds.drop n)
  | _, _, 0, r => r
  | _, _, _ + 1, .nil => .nil
  | _, _, n + 1, .cons _ t => RDs.drop n t
theorem RDs.set {x : V} {u : Pd} (r : RD K H x u) : ∀ {vs : List V} {ds : List Pd} (i : Nat), RDs K H vs ds → RDs K H (vs.set i x) (ds.set i u)
  | _, _, _, .nil => .nil
  | _, _, 0, .cons _ t => .cons r t
  | _, _, i + 1, .cons q t => .cons q (RDs.set r i t)
theorem RDs.ofMem : ∀ {vs : List V} {ds : List Pd}, vs.length = ds.length → (∀ (i : Nat) v d, vs[i]? = some v → ds[i]? = some d → RD K H v d) → RDs K H vs ds
  | [], [], _, _ => .nil
  | v :: vs, d :: ds, hl, h => .cons (h 0 v d rfl rfl) (RDs.ofMem (by simpa using hl) fun i a b e1 e2 => h (i + 1) a b (by simpa using e1) (by simpa using e2))
  | [], _ :: _, hl, _ => by simp at hl
  | _ :: _, [], hl, _ => by simp at hl
theorem RDs.reverse {vs : List V} {ds : List Pd} (h : RDs K H vs ds) : RDs K H vs.reverse ds.reverse := by
  refine RDs.ofMem (by simp [h.length]) fun i v d e1 e2 => ?_
  have hl := h.length
  obtain ⟨h1, e1⟩ := List.getElem?_eq_some_iff.mp e1
  obtain ⟨h2, e2⟩ := List.getElem?_eq_some_iff.mp e2
  rw [List.getElem_reverse] at e1 e2
  obtain ⟨v', q1, q2⟩ := h.get (i := vs.length - 1 - i) (d := d) (by rw [← e2, hl, List.getElem?_eq_getElem])
  have : v' = v := by
    have := q1.symm.trans (by rw [List.getElem?_eq_getElem (by simp at h1; omega), e1])
    exact Option.some.inj this
  exact this ▸ q2
theorem RDs.flat : ∀ {ns : List Int}, RDs K H (ns.map V.int) (ns.map PyData.int)
  | [] => .nil
  | n :: ns => .cons (.int n) RDs.flat
end

/-- an exception: its class's name, its fields -/
structure XD where
  c : Str
  fs : Option (List (Str × Pd))
/-- a thing that may be changed: a list, a dict (n: its keys are tuples; else whole numbers and texts), an object of an own class; dat: data in a field -/
inductive Mo where
  | dat (x : Pd)
  | lst (xs : List Pd)
  | dct (n : Bool) (kvs : List (Pd × Pd))
  | obj (c : Str) (fs : List (Str × Mo))
/-- a slot: empty, data, a list that this def owns (io: handed in, to be changed), an exception that was caught, or another thing that this def owns -/
inductive Sl where
  | no
  | d (x : Pd)
  | own (io : Bool) (xs : List Pd)
  | x (e : XD)
  | m (io : Bool) (o : Mo)
abbrev Rho := List Sl
/-- what an expression gives: data, or the list of an owned slot -/
inductive AV where
  | d (x : Pd)
  | sl (i : Nat)
inductive R (A : Type) where
  | bad
  | ok (a : A) (p : Rho)
  | ex (e : XD) (p : Rho)
def R.bind {A B : Type} (r : R A) (k : A → Rho → R B) : R B :=
  match r with
  | .bad => .bad
  | .ok a p => k a p
  | .ex e p => .ex e p

inductive RF (K : PySem.W.Frag) (H : Hp) : List (Str × V) → List (Str × Pd) → Prop
  | nil : RF K H [] []
  | cons {k : Str} {v : V} {vs : List (Str × V)} {d : Pd} {ds : List (Str × Pd)} (h : RD K H v d) (hs : RF K H vs ds) : RF K H ((k, v) :: vs) ((k, d) :: ds)
theorem RF.mono {K : PySem.W.Frag} {H H' : Hp} (e : Ex H H') : ∀ {vs : List (Str × V)} {ds : List (Str × Pd)}, RF K H vs ds → RF K H' vs ds
  | _, _, .nil => .nil
  | _, _, .cons h hs => .cons (h.mono e) (RF.mono e hs)
/-- where the class of a name stands -/
def cA (K : PySem.W.Frag) (x : Str) : Addr := match PySem.W.nsIn K mainGlobals x with
  | some (some (.ref a)) => a
  | _ => 0
/-- an exception object that was caught: its class, its dict -/
def ExN (cls : Value) (d : Option Addr) (a : Addr) : HO := .ext fun h => ∃ (oe : Obj) (vs : Array Value), h.get? a = some oe ∧ Zc cls d oe ∧ oe.data = .fields vs
/-- at a stands the exception e -/
def XH (K : PySem.W.Frag) (Hf : Hp) (a : Addr) (e : XD) : Prop := match e.fs with
  | none => Hf a = some (ExN (.ref (cA K e.c)) none a)
  | some fs => ∃ dd vs, Hf a = some (ExN (.ref (cA K e.c)) (some dd) a) ∧ Hf dd = some (.xd vs) ∧ RF K Hf vs fs
theorem XH.mono {K : PySem.W.Frag} {Hf Hf' : Hp} {a : Addr} {e : XD} (h : XH K Hf a e) (x : Ex Hf Hf') : XH K Hf' a e := by
  unfold XH at h ⊢
  cases ef : e.fs with
  | none => rw [ef] at h; exact x _ _ h
  | some fs =>
    rw [ef] at h
    obtain ⟨dd, vs, h1, h2, h3⟩ := h
    exact ⟨dd, vs, x _ _ h1, x _ _ h2, h3.mono x⟩
/-- entries of a dict with keys that are tuples, as data -/
inductive RNs (K : PySem.W.Frag) (Hf : Hp) : List (NestedKey × Addr × Value) → List (Pd × Pd) → Prop
  | nil : RNs K Hf [] []
  | cons {k : NestedKey} {b : Addr} {u : Value} {v : V} {kd d : Pd} {xs : List (NestedKey × Addr × Value)} {ds : List (Pd × Pd)} (hk : RD K Hf (.ref b) kd) (ek : k.data = kd) (ru : RelV v u) (hv : RD K Hf v d) (hs : RNs K Hf xs ds) : RNs K Hf ((k, b, u) :: xs) ((kd, d) :: ds)
theorem RNs.mono {K : PySem.W.Frag} {H H' : Hp} (e : Ex H H') : ∀ {xs : List (NestedKey × Addr × Value)} {ds : List (Pd × Pd)}, RNs K H xs ds → RNs K H' xs ds
  | _, _, .nil => .nil
  | _, _, .cons hk ek ru hv hs => .cons (hk.mono e) ek ru (hv.mono e) (RNs.mono e hs)
mutual
/-- the value v stands for the thing o; fp: the addresses that may be changed with it -/
inductive RM (K : PySem.W.Frag) (Hf H : Hp) : V → Mo → List Addr → Prop
  | dat {v : V} {x : Pd} (h : RD K Hf v x) : RM K Hf H v (.dat x) []
  | lst {l : Addr} {vs : List V} {xs : List Pd} (h : H l = some (.lst vs)) (r : RDs K Hf vs xs) : RM K Hf H (.ref l) (.lst xs) [l]
  | dk {l : Addr} {kvs : List (Key × V)} {ds : List (Pd × Pd)} (h : H l = some (.dK kvs)) (r : RKs K Hf kvs ds) : RM K Hf H (.ref l) (.dct false ds) [l]
  | dn {l : Addr} {xs : List (NestedKey × Addr × Value)} {ds : List (Pd × Pd)} (h : H l = some (DkN l xs)) (r : RNs K Hf xs ds) : RM K Hf H (.ref l) (.dct true ds) [l]
  | obj {a dx : Addr} {c : Str} {fvs : List (Str × V)} {fs : List (Str × Mo)} {fp : List Addr} (h : H a = some (.ins (cA K c) dx fvs)) (r : RMs K Hf H fvs fs fp) : RM K Hf H (.ref a) (.obj c fs) (a :: fp)
inductive RMs (K : PySem.W.Frag) (Hf H : Hp) : List (Str × V) → List (Str × Mo) → List Addr → Prop
  | nil : RMs K Hf H [] [] []
  | cons {f : Str} {v : V} {o : Mo} {vs : List (Str × V)} {os : List (Str × Mo)} {fp fq : List Addr} (h : RM K Hf H v o fp) (hs : RMs K Hf H vs os fq) : RMs K Hf H ((f, v) :: vs) ((f, o) :: os) (fp ++ fq)
end
mutual
theorem RM.mono {K : PySem.W.Frag} {Hf H Hf' H' : Hp} (e : Ex Hf Hf') : ∀ {v : V} {o : Mo} {fp : List Addr}, RM K Hf H v o fp → (∀ a ∈ fp, ∀ u, H a = some u → H' a = some u) → RM K Hf' H' v o fp
  | _, _, _, .dat h, _ => .dat (h.mono e)
  | _, _, _, .lst h r, k => .lst (k _ (by simp) _ h) (r.mono e)
  | _, _, _, .dk h r, k => .dk (k _ (by simp) _ h) (RKs.mono e r)
  | _, _, _, .dn h r, k => .dn (k _ (by simp) _ h) (r.mono e)
  | _, _, _, .obj h r, k => .obj (k _ (by simp) _ h) (RMs.mono e r fun a ha => k a (List.mem_cons_of_mem _ ha))
theorem RMs.mono {K : PySem.W.Frag} {Hf H Hf' H' : Hp} (e : Ex Hf Hf') : ∀ {v : List (Str × V)} {o : List (Str × Mo)} {fp : List Addr}, RMs K Hf H v o fp → (∀ a ∈ fp, ∀ u, H a = some u → H' a = some u) → RMs K Hf' H' v o fp
  | _, _, _, .nil, _ => .nil
  | _, _, _, .cons h hs, k => .cons (RM.mono e h fun a ha => k a (List.mem_append_left _ ha)) (RMs.mono e hs fun a ha => k a (List.mem_append_right _ ha))
end
/-- the things that may be changed stand apart: w tells which slot an address belongs to -/
def MR (K : PySem.W.Frag) (Hf H : Hp) (O : Addr → Prop) (σ : St) (ρ : Rho) : Prop := ∃ w : Addr → Option Nat,
  (∀ (i : Nat) b o, ρ[i]? = some (.m b o) → ∃ v fp, σ[i]? = some (some v) ∧ RM K Hf H v o fp ∧ fp.Nodup ∧ ∀ a ∈ fp, O a ∧ w a = some i) ∧
  ∀ (i : Nat) b xs l, ρ[i]? = some (.own b xs) → σ[i]? = some (some (.ref l)) → w l = none
theorem MR.none {K : PySem.W.Frag} {Hf H : Hp} {O : Addr → Prop} {σ : St} {ρ : Rho} (h : ∀ (i : Nat) b o, ρ[i]? ≠ some (.m b o)) : MR K Hf H O σ ρ :=
  ⟨fun _ => Option.none, fun i b o e => (h i b o e).elim, fun _ _ _ _ _ _ => rfl⟩
theorem MR.gen {K : PySem.W.Frag} {Hf H Hf' H' : Hp} {O O' : Addr → Prop} {σ σ' : St} {ρ ρ' : Rho} (m : MR K Hf H O σ ρ) (e : Ex Hf Hf')
    (hm : ∀ (i : Nat) b o, ρ'[i]? = some (.m b o) → ρ[i]? = some (.m b o) ∧ σ'[i]? = σ[i]?)
    (ho : ∀ (i : Nat) b xs, ρ'[i]? = some (.own b xs) → (∃ c ys, ρ[i]? = some (.own c ys)) ∧ σ'[i]? = σ[i]?)
    (kp : ∀ a u, O a → (∀ (i : Nat) b xs, ρ[i]? = some (.own b xs) → σ[i]? ≠ some (some (.ref a))) → H a = some u → H' a = some u)
    (kO : ∀ a, O a → (∀ (i : Nat) b xs, ρ[i]? = some (.own b xs) → σ[i]? ≠ some (some (.ref a))) → O' a) : MR K Hf' H' O' σ' ρ' := by
  obtain ⟨w, h1, h2⟩ := m
  refine ⟨w, fun i b o q => ?_, fun i b xs l q q2 => ?_⟩
  · obtain ⟨q, es⟩ := hm i b o q
    obtain ⟨v, fp, a1, a2, a3, a4⟩ := h1 i b o q
    have no : ∀ a ∈ fp, ∀ (j : Nat) c xs, ρ[j]? = some (.own c xs) → σ[j]? ≠ some (some (.ref a)) := fun a ha j c xs q1 q2 => by
      have z := h2 j c xs a q1 q2
      rw [(a4 a ha).2] at z; cases z
    exact ⟨v, fp, es.trans a1, a2.mono e fun a ha u hu => kp a u (a4 a ha).1 (no a ha) hu, a3, fun a ha => ⟨kO a (a4 a ha).1 (no a ha), (a4 a ha).2⟩⟩
  · obtain ⟨⟨c, ys, q1⟩, es⟩ := ho i b xs q
    exact h2 i c ys l q1 (es ▸ q2)
/-- .. where slots change alone -/
theorem MR.slots {K : PySem.W.Frag} {Hf H : Hp} {O : Addr → Prop} {σ σ' : St} {ρ ρ' : Rho} (m : MR K Hf H O σ ρ)
    (hm : ∀ (i : Nat) b o, ρ'[i]? = some (.m b o) → ρ[i]? = some (.m b o) ∧ σ'[i]? = σ[i]?)
    (ho : ∀ (i : Nat) b xs, ρ'[i]? = some (.own b xs) → (∃ c ys, ρ[i]? = some (.own c ys)) ∧ σ'[i]? = σ[i]?) : MR K Hf H O σ' ρ' :=
  m.gen (Ex.refl _) hm ho (fun _ _ _ _ h => h) fun _ h _ => h
/-- .. where the heap changes alone -/
theorem MR.heap {K : PySem.W.Frag} {Hf H Hf' H' : Hp} {O O' : Addr → Prop} {σ : St} {ρ : Rho} (m : MR K Hf H O σ ρ) (e : Ex Hf Hf')
    (kp : ∀ a u, O a → (∀ (i : Nat) b xs, ρ[i]? = some (.own b xs) → σ[i]? ≠ some (some (.ref a))) → H a = some u → H' a = some u)
    (kO : ∀ a, O a → (∀ (i : Nat) b xs, ρ[i]? = some (.own b xs) → σ[i]? ≠ some (some (.ref a))) → O' a) : MR K Hf' H' O' σ ρ :=
  m.gen e (fun _ _ _ h => ⟨h, rfl⟩) (fun _ b xs h => ⟨⟨b, xs, h⟩, rfl⟩) kp kO
/-- .. where a slot takes what is neither -/
theorem MR.setS {K : PySem.W.Frag} {Hf H : Hp} {O : Addr → Prop} {σ : St} {ρ : Rho} (m : MR K Hf H O σ ρ) (i : Nat) (u : Option V) {s : Sl} (n1 : ∀ b o, s ≠ .m b o) (n2 : ∀ b o, s ≠ .own b o) : MR K Hf H O (σ.set i u) (ρ.set i s) := by
  have back : ∀ {j : Nat} {t : Sl}, (ρ.set i s)[j]? = some t → t ≠ s → i ≠ j ∧ ρ[j]? = some t := fun {j t} h n => by
    by_cases z : i = j
    · subst z
      by_cases hi : i < ρ.length
      · rw [List.getElem?_set_self hi] at h
        cases h
        exact (n rfl).elim
      · rw [List.getElem?_eq_none (by simpa using hi)] at h; cases h
    · rw [List.getElem?_set_ne z] at h; exact ⟨z, h⟩
  refine m.slots (fun j b o h => ?_) fun j b xs h => ?_
  · obtain ⟨z, q⟩ := back h fun z => n1 b o z.symm
    exact ⟨q, List.getElem?_set_ne z⟩
  · obtain ⟨z, q⟩ := back h fun z => n2 b xs z.symm
    exact ⟨⟨b, xs, q⟩, List.getElem?_set_ne z⟩
/-- slots and heap hold what the data say; Hf: the part that nobody changes any more; O: the addresses of owned lists -/
structure SR (K : PySem.W.Frag) (Hf H : Hp) (O : Addr → Prop) (σ : St) (ρ : Rho) : Prop where
  ex : Ex Hf H
  otr : ∀ a, O a → (∃ o, H a = some o) ∧ Hf a = none
  len : σ.length = ρ.length
  slot : ∀ (i : Nat) x, ρ[i]? = some (.d x) → ∃ v, σ[i]? = some (some v) ∧ RD K Hf v x
  own : ∀ (i : Nat) b xs, ρ[i]? = some (.own b xs) → ∃ l vs, σ[i]? = some (some (.ref l)) ∧ O l ∧ H l = some (.lst vs) ∧ RDs K Hf vs xs
  dis : ∀ (i j : Nat) b c xs ys l, ρ[i]? = some (.own b xs) → ρ[j]? = some (.own c ys) → σ[i]? = some (some (.ref l)) → σ[j]? = some (some (.ref l)) → i = j
  exc : ∀ (i : Nat) e, ρ[i]? = some (.x e) → ∃ a, σ[i]? = some (some (.ref a)) ∧ XH K Hf a e
  mr : MR K Hf H O σ ρ

/-- how the heap may change: all but the owned lists stays -/
structure Gr (O : Addr → Prop) (Hf H Hf' H' : Hp) : Prop where
  ex : Ex Hf Hf'
  fm : ∀ a o, H a = some o → ¬ O a → H' a = some o
  tr : ∀ a o, H a = some o → ∃ o', H' a = some o'
  nw : ∀ a o, Hf' a = some o → Hf a = some o ∨ H a = none ∨ O a
theorem Gr.refl {O : Addr → Prop} {Hf H : Hp} : Gr O Hf H Hf H := ⟨Ex.refl _, fun _ _ h _ => h, fun _ o h => ⟨o, h⟩, fun _ _ h => .inl h⟩
def Orl (O : Addr → Prop) (H : Hp) (O' : Addr → Prop) : Prop := ∀ a, O' a → O a ∨ H a = none
theorem Orl.refl {O : Addr → Prop} {H : Hp} : Orl O H O := fun _ h => .inl h
theorem Gr.gone {O : Addr → Prop} {Hf H Hf' H' : Hp} (g : Gr O Hf H Hf' H') {a : Addr} (h : H' a = none) : H a = none := by
  cases e : H a with
  | none => rfl
  | some o => obtain ⟨o', q⟩ := g.tr a o e; rw [h] at q; cases q
theorem Gr.transO {O O1 : Addr → Prop} {Hf H Hf1 H1 Hf2 H2 : Hp} (a : Gr O Hf H Hf1 H1) (b : Gr O1 Hf1 H1 Hf2 H2) (o : Orl O H O1) : Gr O Hf H Hf2 H2 where
  ex := a.ex.trans b.ex
  fm := fun x u h n => b.fm x u (a.fm x u h n) fun z => by
    rcases o x z with z | z
    · exact n z
    · rw [z] at h; cases h
  tr := fun x u h => by obtain ⟨u1, h1⟩ := a.tr x u h; exact b.tr x u1 h1
  nw := fun x u h => by
    rcases b.nw x u h with z | z | z
    · exact a.nw x u z
    · exact .inr (.inl (a.gone z))
    · rcases o x z with z | z
      · exact .inr (.inr z)
      · exact .inr (.inl z)
theorem Gr.trans {O : Addr → Prop} {Hf H Hf1 H1 Hf2 H2 : Hp} (a : Gr O Hf H Hf1 H1) (b : Gr O Hf1 H1 Hf2 H2) : Gr O Hf H Hf2 H2 := a.transO b Orl.refl
theorem Orl.trans {O O1 O2 : Addr → Prop} {Hf H Hf1 H1 : Hp} (a : Orl O H O1) (b : Orl O1 H1 O2) (g : Gr O Hf H Hf1 H1) : Orl O H O2 := fun x h => by
  rcases b x h with z | z
  · exact a x z
  · exact .inr (g.gone z)
/-- new objects alone -/
structure Pg (Hf H Hf' H' : Hp) : Prop where
  ef : Ex Hf Hf'
  eh : Ex H H'
  ex : Ex Hf' H'
  nw : ∀ a o, Hf' a = some o → Hf a = some o ∨ H a = none
theorem Pg.refl {Hf H : Hp} (h : Ex Hf H) : Pg Hf H Hf H := ⟨Ex.refl _, Ex.refl _, h, fun _ _ q => .inl q⟩
theorem Pg.gr {O : Addr → Prop} {Hf H Hf' H' : Hp} (g : Pg Hf H Hf' H') : Gr O Hf H Hf' H' := ⟨g.ef, fun a o h _ => g.eh a o h, fun a o h => ⟨o, g.eh a o h⟩, fun a o h => (g.nw a o h).elim .inl fun z => .inr (.inl z)⟩
/-- a new object, frozen at once -/
theorem Pg.new {Hf H : Hp} {p : Addr} {o : HO} (e : Ex Hf H) (n : H p = none) : Pg Hf H (upd Hf p o) (upd H p o) := by
  refine ⟨Ex.new (fresh_back e n), Ex.new n, fun a u h => ?_, fun a u h => ?_⟩
  · by_cases z : a = p
    · subst z; rw [upd_same] at h ⊢; exact h
    · rw [upd_ne z] at h ⊢; exact e a u h
  · by_cases z : a = p
    · subst z; exact .inr n
    · rw [upd_ne z] at h; exact .inl h
/-- a new object, not frozen -/
theorem Pg.lay {Hf H : Hp} {p : Addr} {o : HO} (e : Ex Hf H) (n : H p = none) : Pg Hf H Hf (upd H p o) :=
  ⟨Ex.refl _, Ex.new n, e.trans (Ex.new n), fun _ _ h => .inl h⟩
theorem Pg.trans {Hf H Hf1 H1 Hf2 H2 : Hp} (a : Pg Hf H Hf1 H1) (b : Pg Hf1 H1 Hf2 H2) : Pg Hf H Hf2 H2 := by
  refine ⟨a.ef.trans b.ef, a.eh.trans b.eh, b.ex, fun x o h => ?_⟩
  rcases b.nw x o h with z | z
  · exact a.nw x o z
  · exact .inr (fresh_back a.eh z)
theorem SR.grow {K : PySem.W.Frag} {Hf H Hf' H' : Hp} {O : Addr → Prop} {σ : St} {ρ : Rho} (s : SR K Hf H O σ ρ) (g : Pg Hf H Hf' H') : SR K Hf' H' O σ ρ where
  ex := g.ex
  otr := fun a h => by
    obtain ⟨⟨o, h1⟩, h2⟩ := s.otr a h
    refine ⟨⟨o, g.eh a o h1⟩, ?_⟩
    cases e : Hf' a with
    | none => rfl
    | some u =>
      rcases g.nw a u e with z | z
      · rw [h2] at z; cases z
      · rw [h1] at z; cases z
  len := s.len
  slot := fun i x h => by obtain ⟨v, h1, h2⟩ := s.slot i x h; exact ⟨v, h1, h2.mono g.ef⟩
  own := fun i b xs h => by obtain ⟨l, vs, h1, h2, h3, h4⟩ := s.own i b xs h; exact ⟨l, vs, h1, h2, g.eh _ _ h3, h4.mono g.ef⟩
  dis := s.dis
  exc := fun i e h => by obtain ⟨a, h1, h2⟩ := s.exc i e h; exact ⟨a, h1, h2.mono g.ef⟩
  mr := s.mr.heap g.ef (fun a u _ _ h => g.eh a u h) fun _ h _ => h

/-- the written part, and where the classes of exceptions stand -/
structure Zx where
  K : PySem.W.Frag
  C : Str → Addr
def XR (Z : Zx) (Hf H : Hp) (cls : Value) (d : Option Addr) (e : XD) : Prop :=
  cls = .ref (cA Z.K e.c) ∧ match e.fs with
    | none => d = none
    | some fs => ∃ a vs, d = some a ∧ Hf a = some (.xd vs) ∧ RF Z.K Hf vs fs
/-- the slots that were handed in to be changed stay so -/
def Kp (ρ ρ' : Rho) : Prop := (∀ (i : Nat) xs, ρ[i]? = some (.own true xs) → ∃ ys, ρ'[i]? = some (.own true ys)) ∧ ∀ (i : Nat) o, ρ[i]? = some (.m true o) → ∃ u, ρ'[i]? = some (.m true u)
omit [WD] in
theorem Kp.refl {ρ : Rho} : Kp ρ ρ := ⟨fun _ xs h => ⟨xs, h⟩, fun _ o h => ⟨o, h⟩⟩
omit [WD] in
theorem Kp.trans {a b c : Rho} (h : Kp a b) (g : Kp b c) : Kp a c := ⟨fun i xs e => by obtain ⟨ys, q⟩ := h.1 i xs e; exact g.1 i ys q, fun i xs e => by obtain ⟨ys, q⟩ := h.2 i xs e; exact g.2 i ys q⟩

/-- what is wanted behind an expression -/
def PostG {A : Type} (Z : Zx) (W : WX) (O : Addr → Prop) (σ : St) (ρ : Rho) (Hf H : Hp) (S : A → Rho → Hp → Hp → Prop) : R A → Prop
  | .bad => False
  | .ok a ρ' => ∀ Hf' H', SR Z.K Hf' H' O σ ρ' → Gr O Hf H Hf' H' → Kp ρ ρ' → S a ρ' Hf' H'
  | .ex e ρ' => ∀ cls d Hf' H', SR Z.K Hf' H' O σ ρ' → Gr O Hf H Hf' H' → Kp ρ ρ' → XR Z Hf' H' cls d e → W cls d σ H'
theorem PostG.shift {A : Type} {Z : Zx} {W : WX} {O : Addr → Prop} {σ : St} {ρ ρ1 : Rho} {Hf H Hf1 H1 : Hp} {S : A → Rho → Hp → Hp → Prop} {r : R A} (h : PostG Z W O σ ρ Hf H S r) (g : Gr O Hf H Hf1 H1) (k : Kp ρ ρ1) : PostG Z W O σ ρ1 Hf1 H1 S r := by
  cases r with
  | bad => exact h
  | ok a ρ' => exact fun Hf' H' s g' k' => h Hf' H' s (g.trans g') (k.trans k')
  | ex e ρ' => exact fun cls d Hf' H' s g' k' x => h cls d Hf' H' s (g.trans g') (k.trans k') x

/-- the judgement: the reading t does what f says; Rel ties what comes with what is told (H0: the heap ahead) -/
def DJ {C A : Type} (Z : Zx) (W : WX) (Rel : Hp → Hp → Hp → St → C → A → Prop) (t : St → Hp → (C → Hp → Prop) → Prop) (f : Rho → R A) : Prop :=
  ∀ Hf H O σ ρ, SR Z.K Hf H O σ ρ → ∀ Q : C → Hp → Prop, PostG Z W O σ ρ Hf H (fun a _ Hf' H' => ∀ v, Rel H Hf' H' σ v a → Q v H') (f ρ) → t σ H Q
theorem DJ.bind {C A B : Type} {Z : Zx} {W : WX} {Rel : Hp → Hp → Hp → St → C → A → Prop} {t : St → Hp → (C → Hp → Prop) → Prop} {f : Rho → R A} (h : DJ Z W Rel t f) {Hf H : Hp} {O : Addr → Prop} {σ : St} {ρ : Rho} (s : SR Z.K Hf H O σ ρ)
    {S : B → Rho → Hp → Hp → Prop} {k : A → Rho → R B} (p : PostG Z W O σ ρ Hf H S ((f ρ).bind k)) {Q : C → Hp → Prop}
    (c : ∀ a ρ1 v Hf1 H1, SR Z.K Hf1 H1 O σ ρ1 → Gr O Hf H Hf1 H1 → Kp ρ ρ1 → Rel H Hf1 H1 σ v a → PostG Z W O σ ρ1 Hf1 H1 S (k a ρ1) → Q v H1) : t σ H Q := by
  refine h Hf H O σ ρ s Q ?_
  cases e : f ρ with
  | bad => rw [e] at p; exact p
  | ok a ρ1 =>
    rw [e] at p
    exact fun Hf1 H1 s1 g1 k1 v rv => c a ρ1 v Hf1 H1 s1 g1 k1 rv (PostG.shift p g1 k1)
  | ex x ρ1 => rw [e] at p; exact p

def RA (K : PySem.W.Frag) (Hf : Hp) (σ : St) (v : V) : AV → Prop
  | .d x => RD K Hf v x
  | .sl i => σ[i]? = some (some v)
theorem RA.mono {K : PySem.W.Frag} {Hf Hf' : Hp} {σ : St} {v : V} {a : AV} (h : RA K Hf σ v a) (e : Ex Hf Hf') : RA K Hf' σ v a := by
  cases a with
  | d x => exact RD.mono e h
  | sl i => exact h
inductive RAs (K : PySem.W.Frag) (Hf : Hp) (σ : St) : List V → List AV → Prop
  | nil : RAs K Hf σ [] []
  | cons {v : V} {vs : List V} {a : AV} {as : List AV} (h : RA K Hf σ v a) (hs : RAs K Hf σ vs as) : RAs K Hf σ (v :: vs) (a :: as)
def DE (Z : Zx) (W : WX) (t : TE) (f : Rho → R AV) : Prop := DJ Z W (fun _ Hf _ σ v a => RA Z.K Hf σ v a) t f
def DT (Z : Zx) (W : WX) (t : TT) (f : Rho → R Bool) : Prop := DJ Z W (fun _ _ _ _ v a => v = a) t f
def DA (Z : Zx) (W : WX) (t : TA) (f : Rho → R (List AV)) : Prop := DJ Z W (fun _ Hf _ σ v a => RAs Z.K Hf σ v a) t f
/-- a new list -/
def RL (K : PySem.W.Frag) (H0 Hf H : Hp) (v : V) (xs : List Pd) : Prop := ∃ l vs, v = .ref l ∧ H0 l = none ∧ H l = some (.lst vs) ∧ Hf l = none ∧ RDs K Hf vs xs
def DL (Z : Zx) (W : WX) (t : TE) (f : Rho → R (List Pd)) : Prop := DJ Z W (fun H0 Hf H _ v a => RL Z.K H0 Hf H v a) t f

/-- what an alias stands for now -/
def res (ρ : Rho) : AV → Option Pd
  | .d x => some x
  | .sl i => match ρ[i]? with
    | some (.own _ xs) => some (.list xs)
    | some (.d x) => some x
    | _ => none
/-- v stands for x, or is an owned list of it -/
def RX (K : PySem.W.Frag) (Hf H : Hp) (v : V) (x : Pd) : Prop := RD K Hf v x ∨ ∃ l vs xs, v = .ref l ∧ x = .list xs ∧ H l = some (.lst vs) ∧ RDs K Hf vs xs
theorem res_ok {K : PySem.W.Frag} {Hf H : Hp} {O : Addr → Prop} {σ : St} {ρ : Rho} {v : V} {a : AV} {x : Pd} (s : SR K Hf H O σ ρ) (h : RA K Hf σ v a) (e : res ρ a = some x) : RX K Hf H v x := by
  cases a with
  | d y => cases e; exact .inl h
  | sl i =>
    simp only [res] at e
    cases q : ρ[i]? with
    | none => rw [q] at e; cases e
    | some z =>
      rw [q] at e
      cases z with
      | no => cases e
      | x _ => cases e
      | m _ _ => cases e
      | d y =>
        cases e
        obtain ⟨u, h1, h2⟩ := s.slot i _ q
        rw [show σ[i]? = some (some v) from h] at h1
        cases h1
        exact .inl h2
      | own b xs =>
        cases e
        obtain ⟨l, vs, h1, h2, h3, h4⟩ := s.own i b xs q
        rw [show σ[i]? = some (some v) from h] at h1
        cases h1
        exact .inr ⟨l, vs, xs, rfl, rfl, h3, h4⟩
theorem RX.list {K : PySem.W.Frag} {Hf H : Hp} {v : V} {xs : List Pd} (e : Ex Hf H) (h : RX K Hf H v (.list xs)) : ∃ l vs, v = .ref l ∧ SqL K H l vs ∧ RDs K Hf vs xs := by
  rcases h with h | ⟨l, vs, ys, rfl, q, h1, h2⟩
  · cases h with
    | lst h hs => exact ⟨_, _, rfl, ex_l e h, hs⟩
  · cases q
    exact ⟨l, vs, rfl, sq_of h1, h2⟩
theorem RX.tuple {K : PySem.W.Frag} {Hf H : Hp} {v : V} {xs : List Pd} (e : Ex Hf H) (h : RX K Hf H v (.tuple xs)) : ∃ l vs, v = .ref l ∧ SqN K Hf l vs ∧ SqT K H l vs ∧ RDs K Hf vs xs := by
  rcases h with h | ⟨l, vs, ys, rfl, q, h1, h2⟩
  · cases h with
    | tup h hs => exact ⟨_, _, rfl, h, ex_t e h.sq, hs⟩
  · cases q
theorem RX.int {K : PySem.W.Frag} {Hf H : Hp} {v : V} {i : Int} (h : RX K Hf H v (.int i)) : v = .int i := by
  rcases h with h | ⟨_, _, _, _, q, _⟩
  · cases h; rfl
  · cases q
theorem RX.str {K : PySem.W.Frag} {Hf H : Hp} {v : V} {i : Str} (h : RX K Hf H v (.str i)) : v = .str i := by
  rcases h with h | ⟨_, _, _, _, q, _⟩
  · cases h; rfl
  · cases q
theorem RX.bool {K : PySem.W.Frag} {Hf H : Hp} {v : V} {i : Bool} (h : RX K Hf H v (.bool i)) : v = .bl i := by
  rcases h with h | ⟨_, _, _, _, q, _⟩
  · cases h; rfl
  · cases q
theorem RX.non {K : PySem.W.Frag} {Hf H : Hp} {v : V} (h : RX K Hf H v .none) : v = .non := by
  rcases h with h | ⟨_, _, _, _, q, _⟩
  · cases h; rfl
  · cases q
theorem RX.full {K : PySem.W.Frag} {Hf H : Hp} {v : V} {x : Pd} (e : Ex Hf H) (h : RX K Hf H v x) : RD K H v x := by
  rcases h with h | ⟨l, vs, xs, rfl, rfl, h1, h2⟩
  · exact h.mono e
  · exact .lst (sq_of h1) (h2.mono e)
end Dt
set_option maxHeartbeats 4000000
/-! locking a dict that is data from now on -/
namespace Dt
open PySem PySem.Spec L2 Evl PyProof.Rows
def lockK (Q : VK) : VK := fun x H1 => ∃ a kvs, x = .ref a ∧ H1 a = some (.dK kvs) ∧ ∀ o, Q x (upd H1 a (.frz o (.dK kvs)))
def tLockD (te : TE) : TE := fun σ H Q => te σ H (lockK Q)
theorem upd_twice {H : Hp} {a : Addr} {x y : HO} : upd (upd H a x) a y = upd H a y := by
  funext b
  by_cases z : b = a
  · subst z; rw [upd_same, upd_same]
  · rw [upd_ne z, upd_ne z, upd_ne z]
section
variable {X : Cx}
theorem pe_lockD {e : Expr} {te : TE} (he : PE X e te) : PE X e (tLockD te) := ⟨fun pins s σ H Q I h => thn (he.run pins s σ H _ I h) fun u s1 ⟨x, H1, I1, rx, a, kvs, ex, ha, q⟩ => by
  obtain ⟨od, I2⟩ := I1.lock ha True.intro
  exact ⟨x, _, I2, rx, q od⟩⟩
theorem call_lockD {c : Value} {r : List V → Hp → VK → Prop} (hc : CallR X c r) : CallR X c (fun xs H Q => r xs H (lockK Q)) := fun pins s σ H xs us Q I rv h => thn (hc pins s σ H xs us _ I rv h) fun u s1 ⟨x, H1, I1, rx, a, kvs, ex, ha, q⟩ => by
  obtain ⟨od, I2⟩ := I1.lock ha True.intro
  exact ⟨x, _, I2, rx, q od⟩
def tLockS (i : Nat) (t : TS) : TS := fun D σ H => (∃ a kvs, σ[i]? = some (some (.ref a)) ∧ H a = some (.dK kvs) ∧ ∀ o, t D σ (upd H a (.frz o (.dK kvs)))) ∨ t D σ H
theorem ps_lockS {i : Nat} {st : Stmt} {t : TS} (h : PS X st t) : PS X st (tLockS i t) := ⟨fun pins s σ H D I q => by
  rcases q with ⟨a, kvs, _, ha, q⟩ | q
  · obtain ⟨od, I2⟩ := I.lock ha True.intro
    exact h.run pins s σ _ D I2 (q od)
  · exact h.run pins s σ H D I q⟩
end
end Dt
namespace Dt
open PySem PySem.Spec L2 Evl
variable [WD]
section
variable {Z : Zx} {W : WX}
/-! ### names, constants -/
def fVar (i : Nat) : Rho → R AV := fun ρ => match ρ[i]? with
  | some (.d x) => .ok (.d x) ρ
  | _ => .bad
theorem d_var (i : Nat) : DE Z W (tVar i) (fVar i) := by
  intro Hf H O σ ρ s Q p
  unfold fVar at p
  cases e : ρ[i]? with
  | none => rw [e] at p; exact p.elim
  | some z =>
    rw [e] at p
    cases z with
    | no => exact p.elim
    | x _ => exact p.elim
    | m _ _ => exact p.elim
    | own b xs => exact p.elim
    | d x =>
      obtain ⟨v, h1, h2⟩ := s.slot i x e
      exact ⟨v, h1, p Hf H s Gr.refl Kp.refl v h2⟩
def fOwn (i : Nat) : Rho → R AV := fun ρ => match ρ[i]? with
  | some (.own _ _) => .ok (.sl i) ρ
  | _ => .bad
theorem d_own (i : Nat) : DE Z W (tVar i) (fOwn i) := by
  intro Hf H O σ ρ s Q p
  unfold fOwn at p
  cases e : ρ[i]? with
  | none => rw [e] at p; exact p.elim
  | some z =>
    rw [e] at p
    cases z with
    | no => exact p.elim
    | x _ => exact p.elim
    | m _ _ => exact p.elim
    | d x => exact p.elim
    | own b xs =>
      obtain ⟨l, vs, h1, h2, h3, h4⟩ := s.own i b xs e
      exact ⟨.ref l, h1, p Hf H s Gr.refl Kp.refl (.ref l) h1⟩
def fC (x : Pd) : Rho → R AV := fun ρ => .ok (.d x) ρ
theorem d_c {v : V} {x : Pd} (h : ∀ H, RD Z.K H v x) : DE Z W (tC v) (fC x) := fun Hf H O σ ρ s Q p => p Hf H s Gr.refl Kp.refl v (h Hf)
theorem d_int (i : Int) : DE Z W (tC (.int i)) (fC (.int i)) := d_c fun _ => .int i
theorem d_str (i : Str) : DE Z W (tC (.str i)) (fC (.str i)) := d_c fun _ => .str i
theorem d_bl (i : Bool) : DE Z W (tC (.bl i)) (fC (.bool i)) := d_c fun _ => .bl i
theorem d_non : DE Z W (tC .non) (fC .none) := d_c fun _ => .non

/-! ### an operator -/
/-- a pure operation by values and by data -/
def ROp (K : PySem.W.Frag) (r : R2) (h : Pd → Pd → Option Pd) : Prop := ∀ Hf H x y dx dy z, Ex Hf H → RX K Hf H x dx → RX K Hf H y dy → h dx dy = some z →
  ∀ Q : VK, (∀ v Hf' H', Pg Hf H Hf' H' → RD K Hf' v z → Q v H') → r x y H Q
def op2 (h : Pd → Pd → Option Pd) (a b : AV) : Rho → R AV := fun ρ =>
  match res ρ a, res ρ b with
  | some x, some y => match h x y with
    | some z => .ok (.d z) ρ
    | none => .bad
  | _, _ => .bad
def f2 (h : Pd → Pd → Option Pd) (fa fb : Rho → R AV) : Rho → R AV := fun ρ => (fa ρ).bind fun a ρ1 => (fb ρ1).bind fun b ρ2 => op2 h a b ρ2
theorem op2_use {h : Pd → Pd → Option Pd} {r : R2} (hr : ROp Z.K r h) {Hf H Hf0 H0 : Hp} {O : Addr → Prop} {σ : L2.St} {ρ ρ0 : Rho} {a b : AV} {x y : V} (s : SR Z.K Hf H O σ ρ) (hx : RA Z.K Hf σ x a) (hy : RA Z.K Hf σ y b) {Q : VK}
    (p : PostG Z W O σ ρ Hf H (fun a _ Hf' H' => ∀ v, RA Z.K Hf' σ v a → Q v H') (op2 h a b ρ)) : r x y H Q := by
  unfold op2 at p
  cases ea : res ρ a with
  | none => rw [ea] at p; exact p.elim
  | some dx =>
    cases eb : res ρ b with
    | none => rw [ea, eb] at p; exact p.elim
    | some dy =>
      rw [ea, eb] at p
      simp only at p
      cases ez : h dx dy with
      | none => rw [ez] at p; exact p.elim
      | some z =>
        rw [ez] at p
        exact hr Hf H x y dx dy z s.ex (res_ok s hx ea) (res_ok s hy eb) ez Q fun v Hf' H' g rv => p Hf' H' (s.grow g) g.gr Kp.refl v rv
theorem d_op {ta tb : TE} {fa fb : Rho → R AV} {h : Pd → Pd → Option Pd} {r : R2} (hr : ROp Z.K r h) (ha : DE Z W ta fa) (hb : DE Z W tb fb) : DE Z W (tOp r ta tb) (f2 h fa fb) := by
  intro Hf H O σ ρ s Q p
  refine ha.bind s p fun a ρ1 x Hf1 H1 s1 g1 k1 rx p1 => ?_
  refine hb.bind s1 p1 fun b ρ2 y Hf2 H2 s2 g2 k2 ry p2 => ?_
  exact op2_use (Hf0 := Hf) (H0 := H) (ρ0 := ρ) hr s2 (RA.mono rx g2.ex) ry p2
def op1 (h : Pd → Option Pd) (a : AV) : Rho → R AV := fun ρ =>
  match res ρ a with
  | some x => match h x with
    | some z => .ok (.d z) ρ
    | none => .bad
  | _ => .bad
def f1 (h : Pd → Option Pd) (fa : Rho → R AV) : Rho → R AV := fun ρ => (fa ρ).bind fun a ρ1 => op1 h a ρ1
def RUn (K : PySem.W.Frag) (r : V → Hp → VK → Prop) (h : Pd → Option Pd) : Prop := ∀ Hf H x dx z, Ex Hf H → RX K Hf H x dx → h dx = some z →
  ∀ Q : VK, (∀ v Hf' H', Pg Hf H Hf' H' → RD K Hf' v z → Q v H') → r x H Q
theorem op1_use {h : Pd → Option Pd} {r : V → Hp → VK → Prop} (hr : RUn Z.K r h) {Hf H : Hp} {O : Addr → Prop} {σ : L2.St} {ρ : Rho} {a : AV} {x : V} (s : SR Z.K Hf H O σ ρ) (hx : RA Z.K Hf σ x a) {Q : VK}
    (p : PostG Z W O σ ρ Hf H (fun a _ Hf' H' => ∀ v, RA Z.K Hf' σ v a → Q v H') (op1 h a ρ)) : r x H Q := by
  unfold op1 at p
  cases ea : res ρ a with
  | none => rw [ea] at p; exact p.elim
  | some dx =>
    rw [ea] at p
    simp only at p
    cases ez : h dx with
    | none => rw [ez] at p; exact p.elim
    | some z =>
      rw [ez] at p
      exact hr Hf H x dx z s.ex (res_ok s hx ea) ez Q fun v Hf' H' g rv => p Hf' H' (s.grow g) g.gr Kp.refl v rv
theorem d_un {ta : TE} {fa : Rho → R AV} {h : Pd → Option Pd} {r : V → Hp → VK → Prop} (hr : RUn Z.K r h) (ha : DE Z W ta fa) : DE Z W (tUn r ta) (f1 h fa) := by
  intro Hf H O σ ρ s Q p
  refine ha.bind s p fun a ρ1 x Hf1 H1 s1 g1 k1 rx p1 => ?_
  exact op1_use hr s1 rx p1
/-! ### arguments -/
def fNil : Rho → R (List AV) := fun ρ => .ok [] ρ
def fCons (fa : Rho → R AV) (fr : Rho → R (List AV)) : Rho → R (List AV) := fun ρ => (fa ρ).bind fun a ρ1 => (fr ρ1).bind fun as ρ2 => .ok (a :: as) ρ2
theorem d_nil : DA Z W tNil fNil := fun Hf H O σ ρ s Q p => p Hf H s Gr.refl Kp.refl [] .nil
theorem d_cons {ta : TE} {tr : TA} {fa : Rho → R AV} {fr : Rho → R (List AV)} (ha : DE Z W ta fa) (hr : DA Z W tr fr) : DA Z W (tCons ta tr) (fCons fa fr) := by
  intro Hf H O σ ρ s Q p
  refine ha.bind s p fun a ρ1 x Hf1 H1 s1 g1 k1 rx p1 => ?_
  refine hr.bind s1 p1 fun as ρ2 xs Hf2 H2 s2 g2 k2 rxs p2 => ?_
  exact p2 Hf2 H2 s2 Gr.refl Kp.refl _ (.cons (RA.mono rx g2.ex) rxs)
/-! ### data out of arguments -/
def ress (ρ : Rho) : List AV → Option (List Pd)
  | [] => some []
  | a :: as => match res ρ a, ress ρ as with
    | some x, some xs => some (x :: xs)
    | _, _ => none
/-- the arguments must be data (an owned list can't be kept in a display) -/
def datas : List AV → Option (List Pd)
  | [] => some []
  | .d x :: as => match datas as with
    | some xs => some (x :: xs)
    | none => none
  | .sl _ :: _ => none
theorem datas_ok {K : PySem.W.Frag} {Hf : Hp} {σ : L2.St} : ∀ {vs : List V} {as : List AV} {xs : List Pd}, RAs K Hf σ vs as → datas as = some xs → RDs K Hf vs xs
  | _, _, _, .nil, e => by cases e; exact .nil
  | _, _, _, .cons (a := .d x) (as := as) h hs, e => by
    simp only [datas] at e
    cases q : datas as with
    | none => rw [q] at e; cases e
    | some ys => rw [q] at e; cases e; exact .cons h (datas_ok hs q)
  | _, _, _, .cons (a := .sl i) h hs, e => by cases e
inductive RXs (K : PySem.W.Frag) (Hf H : Hp) : List V → List Pd → Prop
  | nil : RXs K Hf H [] []
  | cons {v : V} {vs : List V} {d : Pd} {ds : List Pd} (h : RX K Hf H v d) (hs : RXs K Hf H vs ds) : RXs K Hf H (v :: vs) (d :: ds)
theorem ress_ok {K : PySem.W.Frag} {Hf H : Hp} {O : Addr → Prop} {σ : L2.St} {ρ : Rho} (s : SR K Hf H O σ ρ) : ∀ {vs : List V} {as : List AV} {xs : List Pd}, RAs K Hf σ vs as → ress ρ as = some xs → RXs K Hf H vs xs
  | _, _, _, .nil, e => by cases e; exact .nil
  | _, _, _, .cons (a := a) (as := as) h hs, e => by
    simp only [ress] at e
    cases q : res ρ a with
    | none => rw [q] at e; cases e
    | some y =>
      cases q2 : ress ρ as with
      | none => rw [q, q2] at e; cases e
      | some ys => rw [q, q2] at e; cases e; exact .cons (res_ok s h q) (ress_ok s hs q2)
/-! ### displays -/
def fTup (fa : Rho → R (List AV)) : Rho → R AV := fun ρ => (fa ρ).bind fun as ρ1 => match datas as with
  | some xs => if xs.length ≤ sizeLine then .ok (.d (.tuple xs)) ρ1 else .bad
  | none => .bad
theorem d_tup {t : TA} {fa : Rho → R (List AV)} (ha : DA Z W t fa) : DE Z W (tTupN t) (fTup fa) := by
  intro Hf H O σ ρ s Q p
  refine ha.bind s p fun as ρ1 vs Hf1 H1 s1 g1 k1 rs p1 => ?_
  cases e : datas as with
  | none => rw [e] at p1; exact p1.elim
  | some xs =>
    rw [e] at p1
    simp only at p1
    by_cases hz : xs.length ≤ sizeLine
    · rw [if_pos hz] at p1
      have r := datas_ok rs e
      refine ⟨by rw [r.length]; exact hz, fun q o hd nq => ?_⟩
      have g := Pg.new (o := .frz o (.tup vs)) s1.ex nq
      exact p1 _ _ (s1.grow g) g.gr Kp.refl _ (.tup (sn_of upd_same hd) (r.mono g.ef))
    · rw [if_neg hz] at p1; exact p1.elim
def fLst (fa : Rho → R (List AV)) : Rho → R (List Pd) := fun ρ => (fa ρ).bind fun as ρ1 => match datas as with
  | some xs => if xs.length ≤ sizeLine then .ok xs ρ1 else .bad
  | none => .bad
theorem l_lst {t : TA} {fa : Rho → R (List AV)} (ha : DA Z W t fa) : DL Z W (tLst t) (fLst fa) := by
  intro Hf H O σ ρ s Q p
  refine ha.bind s p fun as ρ1 vs Hf1 H1 s1 g1 k1 rs p1 => ?_
  cases e : datas as with
  | none => rw [e] at p1; exact p1.elim
  | some xs =>
    rw [e] at p1
    simp only at p1
    by_cases hz : xs.length ≤ sizeLine
    · rw [if_pos hz] at p1
      have r := datas_ok rs e
      refine ⟨by rw [r.length]; exact hz, fun q nq => ?_⟩
      have g := Pg.lay (o := .lst vs) s1.ex nq
      exact p1 _ _ (s1.grow g) g.gr Kp.refl _ ⟨q, vs, rfl, g1.gone nq, upd_same, fresh_back s1.ex nq, r⟩
    · rw [if_neg hz] at p1; exact p1.elim
/-- a new list, frozen at once -/
def fL (f : Rho → R (List Pd)) : Rho → R AV := fun ρ => (f ρ).bind fun xs ρ1 => .ok (.d (.list xs)) ρ1
theorem SR.freeze {K : PySem.W.Frag} {Hf H : Hp} {O : Addr → Prop} {σ : L2.St} {ρ : Rho} (s : SR K Hf H O σ ρ) {l : Addr} {o : HO} (hl : H l = some o) (hf : Hf l = none) (no : ¬ O l) : SR K (upd Hf l o) H O σ ρ where
  ex := fun a u h => by
    by_cases z : a = l
    · subst z; rw [upd_same] at h; cases h; exact hl
    · rw [upd_ne z] at h; exact s.ex a u h
  otr := fun a h => ⟨(s.otr a h).1, by
    have z : a ≠ l := fun z => no (by rw [← z]; exact h)
    rw [upd_ne z]; exact (s.otr a h).2⟩
  len := s.len
  slot := fun i x h => by obtain ⟨v, h1, h2⟩ := s.slot i x h; exact ⟨v, h1, h2.mono (Ex.new hf)⟩
  own := fun i b xs h => by obtain ⟨k, vs, h1, h2, h3, h4⟩ := s.own i b xs h; exact ⟨k, vs, h1, h2, h3, h4.mono (Ex.new hf)⟩
  dis := s.dis
  exc := fun i e h => by obtain ⟨a, h1, h2⟩ := s.exc i e h; exact ⟨a, h1, h2.mono (Ex.new hf)⟩
  mr := s.mr.heap (Ex.new hf) (fun _ _ _ _ h => h) fun _ h _ => h
theorem d_ofL {t : TE} {f : Rho → R (List Pd)} (h : DL Z W t f) : DE Z W t (fL f) := by
  intro Hf H O σ ρ s Q p
  refine h Hf H O σ ρ s Q ?_
  unfold fL at p
  cases e : f ρ with
  | bad => rw [e] at p; exact p
  | ex x ρ1 => rw [e] at p; exact p
  | ok xs ρ1 =>
    rw [e] at p
    intro Hf1 H1 s1 g1 k1 v rl
    obtain ⟨l, vs, rfl, h0, h1, hf, r⟩ := rl
    have no : ¬ O l := fun z => by
      obtain ⟨⟨o, q⟩, _⟩ := s.otr l z
      rw [h0] at q; cases q
    refine p (upd Hf1 l (.lst vs)) H1 (s1.freeze h1 hf no) ⟨g1.ex.trans (Ex.new hf), g1.fm, g1.tr, fun a o q => ?_⟩ k1 _ (.lst (sq_of upd_same) (r.mono (Ex.new hf)))
    by_cases z : a = l
    · subst z; exact .inr (.inl h0)
    · rw [upd_ne z] at q; exact g1.nw a o q
end
end Dt
namespace Dt
open PySem PySem.Spec L2 Evl
variable [WD]
section
variable {Z : Zx} {W : WX}
/-! ### tests -/
def rB (a : AV) (ρ : Rho) : R Bool := match res ρ a with
  | some (.bool b) => .ok b ρ
  | _ => .bad
def fTest (f : Rho → R AV) : Rho → R Bool := fun ρ => (f ρ).bind rB
theorem rB_ok {a : AV} {ρ : Rho} {Hf H : Hp} {O : Addr → Prop} {σ : L2.St} {B : Type} {x : V} (s : SR Z.K Hf H O σ ρ) (hx : RA Z.K Hf σ x a) {S : B → Rho → Hp → Hp → Prop} {k : Bool → Rho → R B}
    (p : PostG Z W O σ ρ Hf H S ((rB a ρ).bind k)) : ∃ b, x = .bl b ∧ rB a ρ = .ok b ρ ∧ PostG Z W O σ ρ Hf H S (k b ρ) := by
  unfold rB at p ⊢
  cases e : res ρ a with
  | none => rw [e] at p; exact p.elim
  | some y =>
    rw [e] at p
    cases y with
    | bool b => exact ⟨b, (res_ok s hx e).bool, rfl, p⟩
    | _ => exact p.elim
omit [WD] in
theorem R.bind_ok {A : Type} (r : R A) : r.bind (fun a ρ => .ok a ρ) = r := by cases r <;> rfl
theorem dt_test {t : TE} {f : Rho → R AV} (h : DE Z W t f) : DT Z W (tTest t) (fTest f) := by
  intro Hf H O σ ρ s Q p
  refine h.bind s p fun a ρ1 x Hf1 H1 s1 g1 k1 rx p1 => ?_
  rw [← R.bind_ok (rB a ρ1)] at p1
  obtain ⟨b, rfl, _, p2⟩ := rB_ok s1 rx p1
  exact ⟨b, rfl, p2 Hf1 H1 s1 Gr.refl Kp.refl b rfl⟩
theorem dt_tB {t : TE} {f : Rho → R AV} (h : DE Z W t f) : DT Z W (tB t) (fTest f) := dt_test h
def fAnd (f g : Rho → R Bool) : Rho → R Bool := fun ρ => (f ρ).bind fun b ρ1 => if b = true then g ρ1 else .ok false ρ1
def fOr (f g : Rho → R Bool) : Rho → R Bool := fun ρ => (f ρ).bind fun b ρ1 => if b = true then .ok true ρ1 else g ρ1
def fNot (f : Rho → R Bool) : Rho → R Bool := fun ρ => (f ρ).bind fun b ρ1 => .ok (!b) ρ1
theorem dt_and {t u : TT} {f g : Rho → R Bool} (h : DT Z W t f) (k : DT Z W u g) : DT Z W (tAnd t u) (fAnd f g) := by
  intro Hf H O σ ρ s Q p
  refine h.bind s p fun a ρ1 x Hf1 H1 s1 g1 k1 rx p1 => ?_
  subst rx
  show if x = true then u σ H1 Q else Q false H1
  cases x with
  | true => exact k Hf1 H1 O σ ρ1 s1 Q p1
  | false => exact p1 Hf1 H1 s1 Gr.refl Kp.refl false rfl
theorem dt_or {t u : TT} {f g : Rho → R Bool} (h : DT Z W t f) (k : DT Z W u g) : DT Z W (tOr t u) (fOr f g) := by
  intro Hf H O σ ρ s Q p
  refine h.bind s p fun a ρ1 x Hf1 H1 s1 g1 k1 rx p1 => ?_
  subst rx
  show if x = true then Q true H1 else u σ H1 Q
  cases x with
  | false => exact k Hf1 H1 O σ ρ1 s1 Q p1
  | true => exact p1 Hf1 H1 s1 Gr.refl Kp.refl true rfl
theorem dt_not {t : TT} {f : Rho → R Bool} (h : DT Z W t f) : DT Z W (tNot t) (fNot f) := by
  intro Hf H O σ ρ s Q p
  refine h.bind s p fun a ρ1 x Hf1 H1 s1 g1 k1 rx p1 => ?_
  subst rx
  exact p1 Hf1 H1 s1 Gr.refl Kp.refl _ rfl
theorem dt_yes : DT Z W tYes (fun ρ => .ok true ρ) := fun Hf H O σ ρ s Q p => p Hf H s Gr.refl Kp.refl true rfl
/-! ### and, or, not as values -/
def fAndV (f g : Rho → R AV) : Rho → R AV := fun ρ => (f ρ).bind fun a ρ1 => (rB a ρ1).bind fun b ρ2 => if b = true then g ρ2 else .ok (.d (.bool false)) ρ2
def fOrV (f g : Rho → R AV) : Rho → R AV := fun ρ => (f ρ).bind fun a ρ1 => (rB a ρ1).bind fun b ρ2 => if b = true then .ok (.d (.bool true)) ρ2 else g ρ2
def fNotV (f : Rho → R AV) : Rho → R AV := fun ρ => (f ρ).bind fun a ρ1 => (rB a ρ1).bind fun b ρ2 => .ok (.d (.bool (!b))) ρ2
theorem d_and {ta tb : TE} {f g : Rho → R AV} (h : DE Z W ta f) (k : DE Z W tb g) : DE Z W (tAndV ta tb) (fAndV f g) := by
  intro Hf H O σ ρ s Q p
  refine h.bind s p fun a ρ1 x Hf1 H1 s1 g1 k1 rx p1 => ?_
  obtain ⟨b, rfl, _, p2⟩ := rB_ok s1 rx p1
  refine ⟨b, rfl, ?_⟩
  cases b with
  | true => exact k Hf1 H1 O σ ρ1 s1 Q p2
  | false => exact p2 Hf1 H1 s1 Gr.refl Kp.refl _ (.bl false)
theorem d_or {ta tb : TE} {f g : Rho → R AV} (h : DE Z W ta f) (k : DE Z W tb g) : DE Z W (tOrV ta tb) (fOrV f g) := by
  intro Hf H O σ ρ s Q p
  refine h.bind s p fun a ρ1 x Hf1 H1 s1 g1 k1 rx p1 => ?_
  obtain ⟨b, rfl, _, p2⟩ := rB_ok s1 rx p1
  refine ⟨b, rfl, ?_⟩
  cases b with
  | false => exact k Hf1 H1 O σ ρ1 s1 Q p2
  | true => exact p2 Hf1 H1 s1 Gr.refl Kp.refl _ (.bl true)
theorem d_not {ta : TE} {f : Rho → R AV} (h : DE Z W ta f) : DE Z W (tNotV ta) (fNotV f) := by
  intro Hf H O σ ρ s Q p
  refine h.bind s p fun a ρ1 x Hf1 H1 s1 g1 k1 rx p1 => ?_
  obtain ⟨b, rfl, _, p2⟩ := rB_ok s1 rx p1
  exact ⟨b, rfl, p2 Hf1 H1 s1 Gr.refl Kp.refl _ (.bl (!b))⟩
def fIf (c : Rho → R Bool) (f g : Rho → R AV) : Rho → R AV := fun ρ => (c ρ).bind fun b ρ1 => if b = true then f ρ1 else g ρ1
theorem d_if {t : TT} {ta tb : TE} {c : Rho → R Bool} {f g : Rho → R AV} (hc : DT Z W t c) (h : DE Z W ta f) (k : DE Z W tb g) : DE Z W (tIf t ta tb) (fIf c f g) := by
  intro Hf H O σ ρ s Q p
  refine hc.bind s p fun a ρ1 x Hf1 H1 s1 g1 k1 rx p1 => ?_
  subst rx
  cases x with
  | true => exact h Hf1 H1 O σ ρ1 s1 Q p1
  | false => exact k Hf1 H1 O σ ρ1 s1 Q p1
/-! ### a chain of two comparisons -/
def fChain (h h' : Pd → Pd → Option Pd) (fa fb fc : Rho → R AV) : Rho → R AV := fun ρ => (fa ρ).bind fun a ρ1 => (fb ρ1).bind fun b ρ2 => (op2 h a b ρ2).bind fun z ρ3 => (rB z ρ3).bind fun k ρ4 =>
  if k = true then (fc ρ4).bind fun c ρ5 => op2 h' b c ρ5 else .ok (.d (.bool false)) ρ4
theorem d_chain {ta tb tc : TE} {fa fb fc : Rho → R AV} {h h' : Pd → Pd → Option Pd} {r r' : R2} (hr : ROp Z.K r h) (hr' : ROp Z.K r' h') (ha : DE Z W ta fa) (hb : DE Z W tb fb) (hc : DE Z W tc fc) : DE Z W (tChain r r' ta tb tc) (fChain h h' fa fb fc) := by
  intro Hf H O σ ρ s Q p
  refine ha.bind s p fun a ρ1 x Hf1 H1 s1 g1 k1 rx p1 => ?_
  refine hb.bind s1 p1 fun b ρ2 y Hf2 H2 s2 g2 k2 ry p2 => ?_
  unfold op2 at p2
  cases ea : res ρ2 a with
  | none => rw [ea] at p2; exact p2.elim
  | some dx =>
    cases eb : res ρ2 b with
    | none => rw [ea, eb] at p2; exact p2.elim
    | some dy =>
      rw [ea, eb] at p2
      simp only at p2
      cases ez : h dx dy with
      | none => rw [ez] at p2; exact p2.elim
      | some z =>
        rw [ez] at p2
        refine hr Hf2 H2 x y dx dy z s2.ex (res_ok s2 (RA.mono rx g2.ex) ea) (res_ok s2 ry eb) ez _ fun v Hf3 H3 g3 rv => ?_
        have s3 := s2.grow g3
        obtain ⟨k, rfl, _, p3⟩ := rB_ok (a := .d z) s3 rv (PostG.shift p2 g3.gr Kp.refl)
        refine ⟨k, rfl, ?_⟩
        cases k with
        | false => exact p3 Hf3 H3 s3 Gr.refl Kp.refl _ (.bl false)
        | true =>
          refine hc.bind s3 p3 fun c ρ5 w Hf5 H5 s5 g5 k5 rw5 p5 => ?_
          exact op2_use (Hf0 := Hf) (H0 := H) (ρ0 := ρ) hr' s5 (RA.mono ry (g3.ef.trans g5.ex)) rw5 p5
/-! ### built-in functions -/
def RCall (K : PySem.W.Frag) (r : List V → Hp → VK → Prop) (h : List Pd → Option Pd) : Prop := ∀ Hf H vs xs z, Ex Hf H → RXs K Hf H vs xs → h xs = some z →
  ∀ Q : VK, (∀ v Hf' H', Pg Hf H Hf' H' → RD K Hf' v z → Q v H') → r vs H Q
def RCallL (K : PySem.W.Frag) (r : List V → Hp → VK → Prop) (h : List Pd → Option (List Pd)) : Prop := ∀ Hf H vs xs z, Ex Hf H → RXs K Hf H vs xs → h xs = some z →
  ∀ Q : VK, (∀ l ws H', Ex Hf H' → Ex H H' → H l = none → H' l = some (.lst ws) → RDs K Hf ws z → Q (.ref l) H') → r vs H Q
def fCB (h : List Pd → Option Pd) (fa : Rho → R (List AV)) : Rho → R AV := fun ρ => (fa ρ).bind fun as ρ1 => match ress ρ1 as with
  | some xs => match h xs with
    | some z => .ok (.d z) ρ1
    | none => .bad
  | none => .bad
def fCBL (h : List Pd → Option (List Pd)) (fa : Rho → R (List AV)) : Rho → R (List Pd) := fun ρ => (fa ρ).bind fun as ρ1 => match ress ρ1 as with
  | some xs => match h xs with
    | some z => .ok z ρ1
    | none => .bad
  | none => .bad
theorem d_cb {t : TA} {fa : Rho → R (List AV)} {r : List V → Hp → VK → Prop} {h : List Pd → Option Pd} (hr : RCall Z.K r h) (ha : DA Z W t fa) : DE Z W (tCB r t) (fCB h fa) := by
  intro Hf H O σ ρ s Q p
  refine ha.bind s p fun as ρ1 vs Hf1 H1 s1 g1 k1 rs p1 => ?_
  cases e : ress ρ1 as with
  | none => rw [e] at p1; exact p1.elim
  | some xs =>
    rw [e] at p1
    simp only at p1
    cases ez : h xs with
    | none => rw [ez] at p1; exact p1.elim
    | some z =>
      rw [ez] at p1
      exact hr Hf1 H1 vs xs z s1.ex (ress_ok s1 rs e) ez Q fun v Hf' H' g rv => p1 Hf' H' (s1.grow g) g.gr Kp.refl v rv
theorem l_cb {t : TA} {fa : Rho → R (List AV)} {r : List V → Hp → VK → Prop} {h : List Pd → Option (List Pd)} (hr : RCallL Z.K r h) (ha : DA Z W t fa) : DL Z W (tCB r t) (fCBL h fa) := by
  intro Hf H O σ ρ s Q p
  refine ha.bind s p fun as ρ1 vs Hf1 H1 s1 g1 k1 rs p1 => ?_
  cases e : ress ρ1 as with
  | none => rw [e] at p1; exact p1.elim
  | some xs =>
    rw [e] at p1
    simp only at p1
    cases ez : h xs with
    | none => rw [ez] at p1; exact p1.elim
    | some z =>
      rw [ez] at p1
      refine hr Hf1 H1 vs xs z s1.ex (ress_ok s1 rs e) ez Q fun l ws H' eF eH n hl rd => ?_
      have g : Pg Hf1 H1 Hf1 H' := ⟨Ex.refl _, eH, eF, fun _ _ q => .inl q⟩
      exact p1 Hf1 H' (s1.grow g) g.gr Kp.refl _ ⟨l, ws, rfl, g1.gone n, hl, fresh_back s1.ex n, rd⟩
/-! ### slices -/
def DO (Z : Zx) (W : WX) (t : TO) (f : Rho → R (Option Int)) : Prop := DJ Z W (fun _ _ _ _ v a => v = a) t f
def fNoPart : Rho → R (Option Int) := fun ρ => .ok none ρ
def fPart (f : Rho → R AV) : Rho → R (Option Int) := fun ρ => (f ρ).bind fun a ρ1 => match res ρ1 a with
  | some (.int i) => .ok (some i) ρ1
  | _ => .bad
theorem do_none : DO Z W tNoPart fNoPart := fun Hf H O σ ρ s Q p => p Hf H s Gr.refl Kp.refl none rfl
theorem do_some {t : TE} {f : Rho → R AV} (h : DE Z W t f) : DO Z W (tPart t) (fPart f) := by
  intro Hf H O σ ρ s Q p
  refine h.bind s p fun a ρ1 x Hf1 H1 s1 g1 k1 rx p1 => ?_
  cases e : res ρ1 a with
  | none => rw [e] at p1; exact p1.elim
  | some y =>
    rw [e] at p1
    cases y with
    | int i => exact ⟨i, (res_ok s1 rx e).int, p1 Hf1 H1 s1 Gr.refl Kp.refl _ rfl⟩
    | _ => exact p1.elim
def RSl (K : PySem.W.Frag) (r : V → Option Int → Option Int → Hp → VK → Prop) (h : Pd → Option Int → Option Int → Option Pd) : Prop := ∀ Hf H x lo hi dx z, Ex Hf H → RX K Hf H x dx → h dx lo hi = some z →
  ∀ Q : VK, (∀ v Hf' H', Pg Hf H Hf' H' → RD K Hf' v z → Q v H') → r x lo hi H Q
def fSl (h : Pd → Option Int → Option Int → Option Pd) (fe : Rho → R AV) (fl fh : Rho → R (Option Int)) : Rho → R AV := fun ρ => (fe ρ).bind fun a ρ1 => (fl ρ1).bind fun lo ρ2 => (fh ρ2).bind fun hi ρ3 => match res ρ3 a with
  | some x => match h x lo hi with
    | some z => .ok (.d z) ρ3
    | none => .bad
  | none => .bad
theorem d_sl {te : TE} {tl th : TO} {fe : Rho → R AV} {fl fh : Rho → R (Option Int)} {r : V → Option Int → Option Int → Hp → VK → Prop} {h : Pd → Option Int → Option Int → Option Pd} (hr : RSl Z.K r h) (he : DE Z W te fe) (hl : DO Z W tl fl) (hh : DO Z W th fh) :
    DE Z W (tSl r te tl th) (fSl h fe fl fh) := by
  intro Hf H O σ ρ s Q p
  refine he.bind s p fun a ρ1 x Hf1 H1 s1 g1 k1 rx p1 => ?_
  refine hl.bind s1 p1 fun lo ρ2 l Hf2 H2 s2 g2 k2 rl p2 => ?_
  refine hh.bind s2 p2 fun hi ρ3 u Hf3 H3 s3 g3 k3 rh p3 => ?_
  subst rl rh
  cases e : res ρ3 a with
  | none => rw [e] at p3; exact p3.elim
  | some dx =>
    rw [e] at p3
    simp only at p3
    cases ez : h dx l u with
    | none => rw [ez] at p3; exact p3.elim
    | some z =>
      rw [ez] at p3
      exact hr Hf3 H3 x l u dx z s3.ex (res_ok s3 (RA.mono rx (g2.ex.trans g3.ex)) e) ez Q fun v Hf' H' g rv => p3 Hf' H' (s3.grow g) g.gr Kp.refl v rv
/-! ### methods of built-in types -/
def RMt (K : PySem.W.Frag) (T : String) (r : V → List V → Hp → VK → Prop) (h : Pd → List Pd → Option Pd) : Prop := ∀ Hf H x vs dx xs z, Ex Hf H → RX K Hf H x dx → RXs K Hf H vs xs → h dx xs = some z →
  ∀ Q : VK, (∀ v Hf' H', Pg Hf H Hf' H' → RD K Hf' v z → Q v H') → r x vs H Q
/-- which receivers are of the type -/
def tyD (T : String) : Pd → Bool
  | .str _ => T == "str"
  | .list _ => T == "list"
  | _ => false
theorem tyD_ok {K : PySem.W.Frag} {T : String} {Hf H : Hp} {x : V} {d : Pd} (e : Ex Hf H) (h : RX K Hf H x d) (t : tyD T d = true) : tyV K T x H := by
  cases d with
  | str z => obtain rfl := h.str; exact beq_iff_eq.mp t
  | list xs =>
    obtain ⟨l, vs, rfl, h1, _⟩ := h.list e
    exact .inl ⟨beq_iff_eq.mp t, vs, h1⟩
  | _ => cases t
def fBM (T : String) (h : Pd → List Pd → Option Pd) (fo : Rho → R AV) (fa : Rho → R (List AV)) : Rho → R AV := fun ρ => (fo ρ).bind fun o ρ1 => match res ρ1 o with
  | some d0 => if tyD T d0 = true then (fa ρ1).bind fun as ρ2 => match res ρ2 o, ress ρ2 as with
      | some d, some xs => match h d xs with
        | some z => .ok (.d z) ρ2
        | none => .bad
      | _, _ => .bad
    else .bad
  | none => .bad
theorem d_bm {T : String} {to : TE} {t : TA} {fo : Rho → R AV} {fa : Rho → R (List AV)} {r : V → List V → Hp → VK → Prop} {h : Pd → List Pd → Option Pd} (hr : RMt Z.K T r h) (ho : DE Z W to fo) (ha : DA Z W t fa) : DE Z W (tBM Z.K T r to t) (fBM T h fo fa) := by
  intro Hf H O σ ρ s Q p
  refine ho.bind s p fun o ρ1 x Hf1 H1 s1 g1 k1 rx p1 => ?_
  cases e0 : res ρ1 o with
  | none => rw [e0] at p1; exact p1.elim
  | some d0 =>
    rw [e0] at p1
    simp only at p1
    by_cases ht : tyD T d0 = true
    · rw [if_pos ht] at p1
      refine ⟨tyD_ok s1.ex (res_ok s1 rx e0) ht, ?_⟩
      refine ha.bind s1 p1 fun as ρ2 vs Hf2 H2 s2 g2 k2 rs p2 => ?_
      cases e : res ρ2 o with
      | none => rw [e] at p2; exact p2.elim
      | some d =>
        cases e2 : ress ρ2 as with
        | none => rw [e, e2] at p2; exact p2.elim
        | some xs =>
          rw [e, e2] at p2
          simp only at p2
          cases ez : h d xs with
          | none => rw [ez] at p2; exact p2.elim
          | some z =>
            rw [ez] at p2
            exact hr Hf2 H2 x vs d xs z s2.ex (res_ok s2 (RA.mono rx g2.ex) e) (ress_ok s2 rs e2) ez Q fun v Hf' H' g rv => p2 Hf' H' (s2.grow g) g.gr Kp.refl v rv
    · rw [if_neg ht] at p1; exact p1.elim
theorem d_bm0 {T : String} {to : TE} {fo : Rho → R AV} {r : V → List V → Hp → VK → Prop} {h : Pd → List Pd → Option Pd} (hr : RMt Z.K T r h) (ho : DE Z W to fo) : DE Z W (tBM0 Z.K T r to) (fBM T h fo fNil) := d_bm hr ho d_nil
/-- .. of a text, by the layer's short forms -/
def fM1 (h : Pd → List Pd → Option Pd) (fo fa : Rho → R AV) : Rho → R AV := fun ρ => (fo ρ).bind fun o ρ1 => match res ρ1 o with
  | some (.str x) => (fa ρ1).bind fun a ρ2 => match res ρ2 a with
      | some y => match h (.str x) [y] with
        | some z => .ok (.d z) ρ2
        | none => .bad
      | _ => .bad
  | _ => .bad
theorem d_m1 {T : String} {to te : TE} {fo fa : Rho → R AV} {r : V → List V → Hp → VK → Prop} {h : Pd → List Pd → Option Pd} (hr : RMt Z.K T r h) (ho : DE Z W to fo) (ha : DE Z W te fa) : DE Z W (tM1 r to te) (fM1 h fo fa) := by
  intro Hf H O σ ρ s Q p
  refine ho.bind s p fun o ρ1 x Hf1 H1 s1 g1 k1 rx p1 => ?_
  cases e0 : res ρ1 o with
  | none => rw [e0] at p1; exact p1.elim
  | some d0 =>
    rw [e0] at p1
    cases d0 with
    | str z =>
      simp only at p1
      obtain rfl := (res_ok s1 rx e0).str
      refine ⟨⟨z, rfl⟩, ?_⟩
      refine ha.bind s1 p1 fun a ρ2 v Hf2 H2 s2 g2 k2 ra p2 => ?_
      cases e2 : res ρ2 a with
      | none => rw [e2] at p2; exact p2.elim
      | some y =>
        rw [e2] at p2
        simp only at p2
        cases ez : h (.str z) [y] with
        | none => rw [ez] at p2; exact p2.elim
        | some q =>
          rw [ez] at p2
          exact hr Hf2 H2 _ _ _ _ q s2.ex (.inl (.str z)) (.cons (res_ok s2 ra e2) .nil) ez Q fun v Hf' H' g rv => p2 Hf' H' (s2.grow g) g.gr Kp.refl v rv
    | _ => exact p1.elim
def fM0 (h : Pd → List Pd → Option Pd) (fo : Rho → R AV) : Rho → R AV := fun ρ => (fo ρ).bind fun o ρ1 => match res ρ1 o with
  | some (.str x) => match h (.str x) [] with
        | some z => .ok (.d z) ρ1
        | none => .bad
  | _ => .bad
theorem d_m0 {T : String} {to : TE} {fo : Rho → R AV} {r : V → List V → Hp → VK → Prop} {h : Pd → List Pd → Option Pd} (hr : RMt Z.K T r h) (ho : DE Z W to fo) : DE Z W (tM0 r to) (fM0 h fo) := by
  intro Hf H O σ ρ s Q p
  refine ho.bind s p fun o ρ1 x Hf1 H1 s1 g1 k1 rx p1 => ?_
  cases e0 : res ρ1 o with
  | none => rw [e0] at p1; exact p1.elim
  | some d0 =>
    rw [e0] at p1
    cases d0 with
    | str z =>
      simp only at p1
      obtain rfl := (res_ok s1 rx e0).str
      refine ⟨⟨z, rfl⟩, ?_⟩
      cases ez : h (.str z) [] with
      | none => rw [ez] at p1; exact p1.elim
      | some q =>
        rw [ez] at p1
        exact hr Hf1 H1 _ _ _ _ q s1.ex (.inl (.str z)) .nil ez Q fun v Hf' H' g rv => p1 Hf' H' (s1.grow g) g.gr Kp.refl v rv
    | _ => exact p1.elim
end
end Dt
namespace Dt
open PySem PySem.Spec L2 Evl
variable [WD]
/-! ### what is walked -/
/-- v stands for d, or is (wk) a pair that was just made -/
def RDw (wk : Bool) (K : PySem.W.Frag) (H : Hp) (v : V) (d : Pd) : Prop := RD K H v d ∨ (wk = true ∧ ∃ a xs ds, v = .ref a ∧ d = .tuple ds ∧ SqT K H a xs ∧ RDs K H xs ds)
/-- the iterator J gives the data xs, one by one, whatever else becomes of the heap -/
def Dlv (wk : Bool) (K : PySem.W.Frag) (J : It) (Hf : Hp) (xs : List Pd) : Prop := ∀ (i : Nat) (Hf' H' : Hp), Ex Hf Hf' → Ex Hf' H' →
  (i < xs.length → J.go i H') ∧ (xs.length ≤ i → J.stop i H') ∧
  ∀ v H'', J.yld i H' v H'' → ∀ x, xs[i]? = some x → ∃ Hf'', Pg Hf' H' Hf'' H'' ∧ RDw wk K Hf'' v x
def DI (wk : Bool) (Z : Zx) (W : WX) (t : TI) (f : Rho → R (List Pd)) : Prop := DJ Z W (fun _ Hf _ _ J xs => Dlv wk Z.K J Hf xs) t f
theorem dlv_list {K : PySem.W.Frag} {Hf : Hp} {a : Addr} {vs : List V} {xs : List Pd} (h : SqL K Hf a vs) (r : RDs K Hf vs xs) : Dlv false K (Itl K a) Hf xs := by
  intro i Hf' H' e1 e2
  have hs : SqL K H' a vs := ex_l (e1.trans e2) h
  refine ⟨fun hi => ?_, fun hi => ⟨vs, hs, by rw [r.length]; exact hi⟩, fun v H'' hy x hx => ?_⟩
  · obtain ⟨v, e, _⟩ := r.get (List.getElem?_eq_getElem hi)
    exact ⟨vs, v, hs, e⟩
  · obtain ⟨rfl, hy⟩ := hy
    have e := hy vs hs
    obtain ⟨v', e', rv⟩ := r.get hx
    rw [e] at e'; cases e'
    exact ⟨Hf', Pg.refl e2, (.inl (rv.mono e1))⟩
theorem dlv_tup {K : PySem.W.Frag} {Hf : Hp} {a : Addr} {vs : List V} {xs : List Pd} (h : SqT K Hf a vs) (r : RDs K Hf vs xs) : Dlv false K (Itt K a) Hf xs := by
  intro i Hf' H' e1 e2
  have hs : SqT K H' a vs := ex_t (e1.trans e2) h
  refine ⟨fun hi => ?_, fun hi => ⟨vs, hs, by rw [r.length]; exact hi⟩, fun v H'' hy x hx => ?_⟩
  · obtain ⟨v, e, _⟩ := r.get (List.getElem?_eq_getElem hi)
    exact ⟨vs, v, hs, e⟩
  · obtain ⟨rfl, hy⟩ := hy
    have e := hy vs hs
    obtain ⟨v', e', rv⟩ := r.get hx
    rw [e] at e'; cases e'
    exact ⟨Hf', Pg.refl e2, (.inl (rv.mono e1))⟩
/-- the signs of a text, each a text -/
def chars (x : Str) : List Pd := x.cps.toList.map fun c => .str ⟨#[c]⟩
theorem dlv_str {K : PySem.W.Frag} {Hf : Hp} {x : Str} : Dlv false K (Its x) Hf (chars x) := by
  intro i Hf' H' e1 e2
  have hl : (chars x).length = x.cps.size := by simp [chars]
  refine ⟨fun hi => ?_, fun hi => ?_, fun v H'' hy y hx => ?_⟩
  · show i < x.cps.size
    omega
  · show x.cps.size ≤ i
    omega
  · obtain ⟨rfl, c, ec, rfl⟩ := hy
    refine ⟨Hf', Pg.refl e2, ?_⟩
    unfold chars at hx
    rw [List.getElem?_map, Array.getElem?_toList, ec] at hx
    cases hx
    exact .inl (.str _)
def nums (lo : Int) (n : Nat) : List Pd := (List.range n).map fun (k : Nat) => .int (lo + (k : Int))
theorem dlv_rng {K : PySem.W.Frag} {Hf : Hp} {lo : Int} {n : Nat} : Dlv false K (Itr lo n) Hf (nums lo n) := by
  intro i Hf' H' e1 e2
  have hl : (nums lo n).length = n := by simp [nums]
  refine ⟨fun hi => ?_, fun hi => ?_, fun v H'' hy y hx => ?_⟩
  · show i < n
    omega
  · show n ≤ i
    omega
  · obtain ⟨rfl, rfl⟩ := hy
    refine ⟨Hf', Pg.refl e2, ?_⟩
    unfold nums at hx
    have hi : i < n := by
      rcases Nat.lt_or_ge i n with h | h
      · exact h
      · rw [List.getElem?_eq_none (by simpa using h)] at hx; cases hx
    rw [List.getElem?_map, List.getElem?_range hi] at hx
    cases hx
    exact .inl (.int _)
theorem dlv_zip {K : PySem.W.Frag} {Hf : Hp} {a b : Addr} {vs us : List V} {xs ys : List Pd} (h : SqL K Hf a vs) (r : RDs K Hf vs xs) (h2 : SqL K Hf b us) (r2 : RDs K Hf us ys) : Dlv true K (Itz K a b) Hf ((xs.zip ys).map fun p => .tuple [p.1, p.2]) := by
  intro i Hf' H' e1 e2
  have hs : SqL K H' a vs := ex_l (e1.trans e2) h
  have hs2 : SqL K H' b us := ex_l (e1.trans e2) h2
  have l1 := r.length
  have l2 := r2.length
  refine ⟨fun hi => ?_, fun hi => ?_, fun v H'' hy x hx => ?_⟩
  · rw [List.length_map, List.length_zip] at hi
    obtain ⟨v, e, _⟩ := r.get (List.getElem?_eq_getElem (show i < xs.length by omega))
    obtain ⟨u, e', _⟩ := r2.get (List.getElem?_eq_getElem (show i < ys.length by omega))
    exact ⟨vs, us, v, u, hs, hs2, e, e'⟩
  · rw [List.length_map, List.length_zip] at hi
    refine ⟨vs, us, hs, hs2, ?_⟩
    omega
  · obtain ⟨T, x1, x2, rfl, nT, rfl, f1, f2⟩ := hy
    have q1 := f1 vs hs
    have q2 := f2 us hs2
    obtain ⟨d1, g1, rd1⟩ := r.get' q1
    obtain ⟨d2, g2, rd2⟩ := r2.get' q2
    have : x = .tuple [d1, d2] := by
      rw [List.getElem?_map] at hx
      have z : (xs.zip ys)[i]? = some (d1, d2) := by
        rw [List.getElem?_zip_eq_some]; exact ⟨g1, g2⟩
      rw [z] at hx
      cases hx
      rfl
    subst this
    have g := Pg.new (o := .tup [x1, x2]) e2 nT
    exact ⟨_, g, .inr ⟨rfl, _, _, _, rfl, rfl, st_of upd_same, .cons ((rd1.mono e1).mono g.ef) (.cons ((rd2.mono e1).mono g.ef) .nil)⟩⟩
section
variable {Z : Zx} {W : WX}
def fItL (f : Rho → R AV) : Rho → R (List Pd) := fun ρ => (f ρ).bind fun a ρ1 => match a with
  | .d (.list xs) => .ok xs ρ1
  | _ => .bad
def fItT (f : Rho → R AV) : Rho → R (List Pd) := fun ρ => (f ρ).bind fun a ρ1 => match a with
  | .d (.tuple xs) => .ok xs ρ1
  | _ => .bad
def fItS (f : Rho → R AV) : Rho → R (List Pd) := fun ρ => (f ρ).bind fun a ρ1 => match a with
  | .d (.str x) => .ok (chars x) ρ1
  | _ => .bad
theorem i_list {t : TE} {f : Rho → R AV} (h : DE Z W t f) : DI false Z W (iList Z.K t) (fItL f) := by
  intro Hf H O σ ρ s Q p
  refine h.bind s p fun a ρ1 x Hf1 H1 s1 g1 k1 rx p1 => ?_
  match a, rx, p1 with
  | .d (.list xs), rx, p1 =>
    cases rx with
    | lst h1 h2 => exact ⟨_, rfl, ⟨_, ex_l s1.ex h1⟩, p1 Hf1 H1 s1 Gr.refl Kp.refl _ (dlv_list h1 h2)⟩
  | .d .none, _, p1 => exact p1.elim
  | .d (.bool _), _, p1 => exact p1.elim
  | .d (.int _), _, p1 => exact p1.elim
  | .d (.str _), _, p1 => exact p1.elim
  | .d (.tuple _), _, p1 => exact p1.elim
  | .d (.dict _), _, p1 => exact p1.elim
  | .sl _, _, p1 => exact p1.elim
theorem i_tup {t : TE} {f : Rho → R AV} (h : DE Z W t f) : DI false Z W (iTup Z.K t) (fItT f) := by
  intro Hf H O σ ρ s Q p
  refine h.bind s p fun a ρ1 x Hf1 H1 s1 g1 k1 rx p1 => ?_
  match a, rx, p1 with
  | .d (.tuple xs), rx, p1 =>
    cases rx with
    | tup h1 h2 => exact ⟨_, rfl, ⟨_, ex_t s1.ex h1.sq⟩, p1 Hf1 H1 s1 Gr.refl Kp.refl _ (dlv_tup h1.sq h2)⟩
  | .d .none, _, p1 => exact p1.elim
  | .d (.bool _), _, p1 => exact p1.elim
  | .d (.int _), _, p1 => exact p1.elim
  | .d (.str _), _, p1 => exact p1.elim
  | .d (.list _), _, p1 => exact p1.elim
  | .d (.dict _), _, p1 => exact p1.elim
  | .sl _, _, p1 => exact p1.elim
theorem i_str {t : TE} {f : Rho → R AV} (h : DE Z W t f) : DI false Z W (iStr t) (fItS f) := by
  intro Hf H O σ ρ s Q p
  refine h.bind s p fun a ρ1 x Hf1 H1 s1 g1 k1 rx p1 => ?_
  match a, rx, p1 with
  | .d (.str z), rx, p1 =>
    cases rx with
    | str _ => exact ⟨_, rfl, p1 Hf1 H1 s1 Gr.refl Kp.refl _ dlv_str⟩
  | .d .none, _, p1 => exact p1.elim
  | .d (.bool _), _, p1 => exact p1.elim
  | .d (.int _), _, p1 => exact p1.elim
  | .d (.tuple _), _, p1 => exact p1.elim
  | .d (.list _), _, p1 => exact p1.elim
  | .d (.dict _), _, p1 => exact p1.elim
  | .sl _, _, p1 => exact p1.elim
def fRng1 (f : Rho → R (List AV)) : Rho → R (List Pd) := fun ρ => (f ρ).bind fun as ρ1 => match as with
  | [.d (.int j)] => if -(2 ^ 62) ≤ j ∧ j < 2 ^ 62 then .ok (nums 0 j.toNat) ρ1 else .bad
  | _ => .bad
theorem i_rng1 {t : TA} {f : Rho → R (List AV)} (h : DA Z W t f) : DI false Z W (iRng1 t) (fRng1 f) := by
  intro Hf H O σ ρ s Q p
  refine h.bind s p fun as ρ1 vs Hf1 H1 s1 g1 k1 rs p1 => ?_
  split at p1
  · rename_i j
    cases rs with
    | cons r1 r2 =>
      cases r2
      cases r1 with
      | int _ =>
        by_cases hj : -(2 ^ 62) ≤ j ∧ j < 2 ^ 62
        · rw [if_pos hj] at p1
          exact ⟨j, rfl, hj.1, hj.2, p1 Hf1 H1 s1 Gr.refl Kp.refl _ dlv_rng⟩
        · rw [if_neg hj] at p1; exact p1.elim
  · exact p1.elim
def fRng2 (f : Rho → R (List AV)) : Rho → R (List Pd) := fun ρ => (f ρ).bind fun as ρ1 => match as with
  | [.d (.int i), .d (.int j)] => if (-(2 ^ 62) ≤ i ∧ i < 2 ^ 62) ∧ -(2 ^ 62) ≤ j ∧ j < 2 ^ 62 then .ok (nums i (j - i).toNat) ρ1 else .bad
  | _ => .bad
theorem i_rng2 {t : TA} {f : Rho → R (List AV)} (h : DA Z W t f) : DI false Z W (iRng2 t) (fRng2 f) := by
  intro Hf H O σ ρ s Q p
  refine h.bind s p fun as ρ1 vs Hf1 H1 s1 g1 k1 rs p1 => ?_
  split at p1
  · rename_i i j
    cases rs with
    | cons r1 r2 =>
      cases r2 with
      | cons r2 r3 =>
        cases r3
        cases r1 with
        | int _ =>
          cases r2 with
          | int _ =>
            by_cases hj : (-(2 ^ 62) ≤ i ∧ i < 2 ^ 62) ∧ -(2 ^ 62) ≤ j ∧ j < 2 ^ 62
            · rw [if_pos hj] at p1
              exact ⟨i, j, rfl, ⟨hj.1.1, hj.1.2, hj.2.1, hj.2.2⟩, p1 Hf1 H1 s1 Gr.refl Kp.refl _ dlv_rng⟩
            · rw [if_neg hj] at p1; exact p1.elim
  · exact p1.elim
end
/-! ### targets -/
/-- slots outside js stay -/
def Off (js : List Nat) (σ σ' : L2.St) : Prop := σ'.length = σ.length ∧ ∀ i, i ∉ js → σ'[i]? = σ[i]?
omit [WD] in
theorem Off.refl {js : List Nat} {σ : L2.St} : Off js σ σ := ⟨rfl, fun _ _ => rfl⟩
omit [WD] in
theorem Off.trans {js : List Nat} {a b c : L2.St} (h : Off js a b) (g : Off js b c) : Off js a c := ⟨g.1.trans h.1, fun i hi => (g.2 i hi).trans (h.2 i hi)⟩
/-- slots that were handed in to be changed stay so, and hold what they held -/
def Kq (ρ ρ' : Rho) (σ σ' : L2.St) : Prop := (∀ (i : Nat) xs, ρ[i]? = some (.own true xs) → (∃ ys, ρ'[i]? = some (.own true ys)) ∧ σ'[i]? = σ[i]?) ∧
  ∀ (i : Nat) o, ρ[i]? = some (.m true o) → (∃ u, ρ'[i]? = some (.m true u)) ∧ σ'[i]? = σ[i]?
omit [WD] in
theorem Kq.refl {ρ : Rho} {σ : L2.St} : Kq ρ ρ σ σ := ⟨fun _ xs h => ⟨⟨xs, h⟩, rfl⟩, fun _ xs h => ⟨⟨xs, h⟩, rfl⟩⟩
omit [WD] in
theorem Kq.trans {a b c : Rho} {x y z : L2.St} (h : Kq a b x y) (g : Kq b c y z) : Kq a c x z := ⟨fun i xs e => by
  obtain ⟨⟨ys, q⟩, e1⟩ := h.1 i xs e
  obtain ⟨r, e2⟩ := g.1 i ys q
  exact ⟨r, e2.trans e1⟩, fun i xs e => by
  obtain ⟨⟨ys, q⟩, e1⟩ := h.2 i xs e
  obtain ⟨r, e2⟩ := g.2 i ys q
  exact ⟨r, e2.trans e1⟩⟩
omit [WD] in
theorem Kp.kq {ρ ρ' : Rho} {σ : L2.St} (h : Kp ρ ρ') : Kq ρ ρ' σ σ := ⟨fun i xs e => ⟨h.1 i xs e, rfl⟩, fun i xs e => ⟨h.2 i xs e, rfl⟩⟩
omit [WD] in
theorem Kq.kp {ρ ρ' : Rho} {σ σ' : L2.St} (h : Kq ρ ρ' σ σ') : Kp ρ ρ' := ⟨fun i xs e => (h.1 i xs e).1, fun i xs e => (h.2 i xs e).1⟩
omit [WD] in
/-- a slot that was not handed in to be changed takes another -/
theorem Kq.setS {ρ : Rho} {σ : L2.St} {i : Nat} {s : Sl} {u : Option V} (n1 : ∀ xs, ρ[i]? ≠ some (.own true xs)) (n2 : ∀ o, ρ[i]? ≠ some (.m true o)) : Kq ρ (ρ.set i s) σ (σ.set i u) := by
  refine ⟨fun j xs e => ?_, fun j xs e => ?_⟩
  · have z : i ≠ j := fun z => n1 xs (by rw [z]; exact e)
    rw [List.getElem?_set_ne z, List.getElem?_set_ne z]
    exact ⟨⟨xs, e⟩, rfl⟩
  · have z : i ≠ j := fun z => n2 xs (by rw [z]; exact e)
    rw [List.getElem?_set_ne z, List.getElem?_set_ne z]
    exact ⟨⟨xs, e⟩, rfl⟩
/-- a target for data; js: the slots that it may store to -/
def DG (wk : Bool) (K : PySem.W.Frag) (js : List Nat) (g : TG) (h : Pd → Rho → Option Rho) : Prop := ∀ Hf H O σ ρ v x ρ', SR K Hf H O σ ρ → RDw wk K Hf v x → h x ρ = some ρ' →
  ∀ Q : L2.St → Hp → Prop, (∀ σ', SR K Hf H O σ' ρ' → Off js σ σ' → (∀ i, i ∉ js → ρ'[i]? = ρ[i]?) → Kq ρ ρ' σ σ' → Q σ' H) → g v σ H Q
def DGs (K : PySem.W.Frag) (js : List Nat) (g : TGs) (h : List Pd → Rho → Option Rho) : Prop := ∀ Hf H O σ ρ vs xs ρ', SR K Hf H O σ ρ → RDs K Hf vs xs → h xs ρ = some ρ' →
  ∀ Q : L2.St → Hp → Prop, (∀ σ', SR K Hf H O σ' ρ' → Off js σ σ' → (∀ i, i ∉ js → ρ'[i]? = ρ[i]?) → Kq ρ ρ' σ σ' → Q σ' H) → g vs σ H Q
/-- data into a slot (not one that was handed in to be changed) -/
def put (i : Nat) (x : Pd) (ρ : Rho) : Option Rho := match ρ[i]? with
  | some (.own true _) => none
  | some (.m true _) => none
  | some _ => some (ρ.set i (.d x))
  | none => none
theorem SR.putD {K : PySem.W.Frag} {Hf H : Hp} {O : Addr → Prop} {σ : L2.St} {ρ : Rho} (s : SR K Hf H O σ ρ) {i : Nat} {v : V} {x : Pd} (hi : i < ρ.length) (r : RD K Hf v x) : SR K Hf H O (σ.set i (some v)) (ρ.set i (.d x)) where
  ex := s.ex
  otr := s.otr
  len := by simp [s.len]
  slot := fun j y h => by
    by_cases z : i = j
    · subst z
      rw [List.getElem?_set_self hi] at h
      cases h
      exact ⟨v, List.getElem?_set_self (by rw [s.len]; exact hi), r⟩
    · rw [List.getElem?_set_ne z] at h ⊢; exact s.slot j y h
  own := fun j b xs h => by
    by_cases z : i = j
    · subst z
      rw [List.getElem?_set_self hi] at h
      cases h
    · rw [List.getElem?_set_ne z] at h ⊢; exact s.own j b xs h
  dis := fun j k b c xs ys l h1 h2 h3 h4 => by
    by_cases z : i = j
    · subst z
      rw [List.getElem?_set_self hi] at h1
      cases h1
    · by_cases z2 : i = k
      · subst z2
        rw [List.getElem?_set_self hi] at h2
        cases h2
      · rw [List.getElem?_set_ne z] at h1 h3
        rw [List.getElem?_set_ne z2] at h2 h4
        exact s.dis j k b c xs ys l h1 h2 h3 h4
  exc := fun j e h => by
    by_cases z : i = j
    · subst z
      rw [List.getElem?_set_self hi] at h
      cases h
    · rw [List.getElem?_set_ne z] at h ⊢; exact s.exc j e h
  mr := s.mr.setS i _ (fun _ _ z => by cases z) fun _ _ z => by cases z
omit [WD] in
theorem put_some {i : Nat} {x : Pd} {ρ ρ' : Rho} (h : put i x ρ = some ρ') : i < ρ.length ∧ ρ' = ρ.set i (.d x) ∧ (∀ xs, ρ[i]? ≠ some (.own true xs)) ∧ ∀ o, ρ[i]? ≠ some (.m true o) := by
  unfold put at h
  cases e : ρ[i]? with
  | none => rw [e] at h; cases h
  | some z =>
    rw [e] at h
    have hi := (List.getElem?_eq_some_iff.mp e).1
    cases z with
    | no => cases h; exact ⟨hi, rfl, (fun _ q => by cases q), fun _ q => by cases q⟩
    | x _ => cases h; exact ⟨hi, rfl, (fun _ q => by cases q), fun _ q => by cases q⟩
    | m b _ =>
      cases b with
      | true => cases h
      | false => cases h; exact ⟨hi, rfl, (fun _ q => by cases q), fun _ q => by cases q⟩
    | d y => cases h; exact ⟨hi, rfl, (fun _ q => by cases q), fun _ q => by cases q⟩
    | own b xs =>
      cases b with
      | true => cases h
      | false => cases h; exact ⟨hi, rfl, (fun _ q => by cases q), fun _ q => by cases q⟩
section
variable {K : PySem.W.Frag}
theorem g_name (i : Nat) : DG false K [i] (gName i) (put i) := by
  intro Hf H O σ ρ v x ρ' s r0 h Q q
  have r : RD K Hf v x := r0.elim id fun z => by cases z.1
  obtain ⟨hi, rfl, ni⟩ := put_some h
  refine q _ (s.putD hi r) ⟨by simp, fun j hj => ?_⟩ (fun j hj => ?_) (Kq.setS ni.1 ni.2)
  · rw [List.getElem?_set_ne (fun z => hj (by simp [z]))]
  · rw [List.getElem?_set_ne (fun z => hj (by simp [z]))]
def putNil : List Pd → Rho → Option Rho
  | [], ρ => some ρ
  | _ :: _, _ => none
def putCons (h : Pd → Rho → Option Rho) (k : List Pd → Rho → Option Rho) : List Pd → Rho → Option Rho
  | [], _ => none
  | x :: xs, ρ => match h x ρ with
    | some ρ1 => k xs ρ1
    | none => none
theorem gs_nil : DGs K [] gNil putNil := by
  intro Hf H O σ ρ vs xs ρ' s r h Q q
  cases r with
  | nil => cases h; exact ⟨rfl, q σ s Off.refl (fun _ _ => rfl) Kq.refl⟩
  | cons _ _ => cases h
theorem gs_cons {js ks : List Nat} {g : TG} {gs : TGs} {h : Pd → Rho → Option Rho} {k : List Pd → Rho → Option Rho} {wk : Bool} (hg : DG wk K js g h) (hs : DGs K ks gs k) : DGs K (js ++ ks) (gCons g gs) (putCons h k) := by
  intro Hf H O σ ρ vs xs ρ' s r e Q q
  cases r with
  | nil => cases e
  | cons r1 r2 =>
    rename_i v vs x xs
    simp only [putCons] at e
    cases e1 : h x ρ with
    | none => rw [e1] at e; cases e
    | some ρ1 =>
      rw [e1] at e
      refine ⟨_, _, rfl, hg Hf H O σ ρ _ _ ρ1 s (.inl r1) e1 _ fun σ1 s1 o1 z1 k1 => ?_⟩
      refine hs Hf H O σ1 ρ1 _ _ ρ' s1 r2 e Q fun σ2 s2 o2 z2 k2 => q σ2 s2 ⟨o2.1.trans o1.1, fun i hi => ?_⟩ (fun i hi => ?_) (k1.trans k2)
      · exact (o2.2 i fun z => hi (List.mem_append_right _ z)).trans (o1.2 i fun z => hi (List.mem_append_left _ z))
      · exact (z2 i fun z => hi (List.mem_append_right _ z)).trans (z1 i fun z => hi (List.mem_append_left _ z))
def putTup (n : Nat) (k : List Pd → Rho → Option Rho) : Pd → Rho → Option Rho
  | .tuple xs, ρ => if xs.length = n then k xs ρ else none
  | _, _ => none
theorem g_tup {n : Nat} {js : List Nat} {gs : TGs} {k : List Pd → Rho → Option Rho} {wk : Bool} (hs : DGs K js gs k) : DG wk K js (gTup K n gs) (putTup n k) := by
  intro Hf H O σ ρ v x ρ' s r0 e Q q
  rcases r0 with r | ⟨_, a, vs, xs, rfl, rfl, h1, h2⟩
  case inr =>
    simp only [putTup] at e
    by_cases hn : xs.length = n
    · rw [if_pos hn] at e
      exact ⟨_, _, rfl, ex_t s.ex h1, by rw [h2.length]; exact hn, hs Hf H O σ ρ _ _ ρ' s h2 e Q q⟩
    · rw [if_neg hn] at e; cases e
  cases r with
  | tup h1 h2 =>
    rename_i a vs xs
    simp only [putTup] at e
    by_cases hn : xs.length = n
    · rw [if_pos hn] at e
      exact ⟨_, _, rfl, ex_t s.ex h1.sq, by rw [h2.length]; exact hn, hs Hf H O σ ρ _ _ ρ' s h2 e Q q⟩
    · rw [if_neg hn] at e; cases e
  | _ => cases e
end
end Dt
namespace Dt
open PySem PySem.Spec L2 Evl
variable [WD]
/-! ### slots wiped -/
def wipeR (ρ : Rho) : List Nat → Rho
  | [] => ρ
  | v :: vs => (wipeR ρ vs).set v .no
omit [WD] in
theorem wipeR_length (ρ : Rho) : ∀ vs : List Nat, (wipeR ρ vs).length = ρ.length
  | [] => rfl
  | v :: vs => by unfold wipeR; rw [List.length_set, wipeR_length ρ vs]
omit [WD] in
theorem wipeR_in {ρ : Rho} {i : Nat} : ∀ {vs : List Nat}, i ∈ vs → (wipeR ρ vs)[i]? = some .no ∨ (wipeR ρ vs)[i]? = none
  | v :: vs, h => by
    unfold wipeR
    by_cases z : v = i
    · subst z
      by_cases hv : v < (wipeR ρ vs).length
      · exact .inl (List.getElem?_set_self hv)
      · exact .inr (List.getElem?_eq_none (by simpa using hv))
    · rw [List.getElem?_set_ne z]
      exact wipeR_in ((List.mem_cons.mp h).resolve_left fun e => z e.symm)
omit [WD] in
theorem wipeR_out {ρ : Rho} {i : Nat} : ∀ {vs : List Nat}, i ∉ vs → (wipeR ρ vs)[i]? = ρ[i]?
  | [], _ => rfl
  | v :: vs, h => by
    unfold wipeR
    rw [List.getElem?_set_ne (fun z => h (by simp [z])), wipeR_out fun z => h (List.mem_cons_of_mem _ z)]
theorem wipe_out {σ : L2.St} {i : Nat} : ∀ {vs : List Nat}, i ∉ vs → (wipe σ vs)[i]? = σ[i]?
  | [], _ => rfl
  | v :: vs, h => by
    unfold wipe
    rw [List.getElem?_set_ne (fun z => h (by simp [z])), wipe_out fun z => h (List.mem_cons_of_mem _ z)]
theorem wipe_in {σ : L2.St} {i : Nat} : ∀ {vs : List Nat}, i ∈ vs → (wipe σ vs)[i]? = if i < σ.length then some none else none
  | v :: vs, h => by
    unfold wipe
    by_cases z : v = i
    · subst z
      by_cases hv : v < σ.length
      · rw [List.getElem?_set_self (by rw [wipe_length]; exact hv), if_pos hv]
      · rw [if_neg hv, List.getElem?_eq_none (by rw [List.length_set, wipe_length]; omega)]
    · rw [List.getElem?_set_ne z]
      exact wipe_in ((List.mem_cons.mp h).resolve_left fun e => z e.symm)
theorem wipe_off {js vs : List Nat} {a b : L2.St} (h : Off js (wipe a vs) b) (hj : ∀ j ∈ js, j ∈ vs) : wipe b vs = wipe a vs := by
  apply List.ext_getElem?
  intro i
  have hl : b.length = a.length := h.1.trans (wipe_length a vs)
  by_cases hi : i ∈ vs
  · rw [wipe_in hi, wipe_in hi, hl]
  · rw [wipe_out hi, h.2 i fun z => hi (hj i z)]
section
variable {K : PySem.W.Frag} {Hf H : Hp} {O : Addr → Prop} {σ : L2.St} {ρ : Rho} {vs : List Nat}
theorem SR.wipe (s : SR K Hf H O σ ρ) : SR K Hf H O (wipe σ vs) (wipeR ρ vs) where
  ex := s.ex
  otr := s.otr
  len := by rw [wipe_length, wipeR_length, s.len]
  slot := fun i x h => by
    by_cases hi : i ∈ vs
    · rcases wipeR_in (ρ := ρ) hi with z | z <;> rw [z] at h <;> cases h
    · rw [wipeR_out hi] at h; rw [wipe_out hi]; exact s.slot i x h
  own := fun i b x h => by
    by_cases hi : i ∈ vs
    · rcases wipeR_in (ρ := ρ) hi with z | z <;> rw [z] at h <;> cases h
    · rw [wipeR_out hi] at h; rw [wipe_out hi]; exact s.own i b x h
  dis := fun i j b c x y l h1 h2 h3 h4 => by
    by_cases hi : i ∈ vs
    · rcases wipeR_in (ρ := ρ) hi with z | z <;> rw [z] at h1 <;> cases h1
    · by_cases hj : j ∈ vs
      · rcases wipeR_in (ρ := ρ) hj with z | z <;> rw [z] at h2 <;> cases h2
      · rw [wipeR_out hi] at h1; rw [wipe_out hi] at h3; rw [wipeR_out hj] at h2; rw [wipe_out hj] at h4
        exact s.dis i j b c x y l h1 h2 h3 h4
  exc := fun i e h => by
    by_cases hi : i ∈ vs
    · rcases wipeR_in (ρ := ρ) hi with z | z <;> rw [z] at h <;> cases h
    · rw [wipeR_out hi] at h; rw [wipe_out hi]; exact s.exc i e h
  mr := s.mr.slots (fun i b o h => by
    by_cases hi : i ∈ vs
    · rcases wipeR_in (ρ := ρ) hi with z | z <;> rw [z] at h <;> cases h
    · rw [wipeR_out hi] at h; rw [wipe_out hi]; exact ⟨h, rfl⟩) fun i b o h => by
    by_cases hi : i ∈ vs
    · rcases wipeR_in (ρ := ρ) hi with z | z <;> rw [z] at h <;> cases h
    · rw [wipeR_out hi] at h; rw [wipe_out hi]; exact ⟨⟨b, o, h⟩, rfl⟩
theorem SR.unwipe (s : SR K Hf H O (L2.wipe σ vs) (wipeR ρ vs)) : SR K Hf H O σ (wipeR ρ vs) where
  ex := s.ex
  otr := s.otr
  len := by rw [← s.len, wipe_length]
  slot := fun i x h => by
    by_cases hi : i ∈ vs
    · rcases wipeR_in (ρ := ρ) hi with z | z <;> rw [z] at h <;> cases h
    · have := s.slot i x h; rw [wipe_out hi] at this; exact this
  own := fun i b x h => by
    by_cases hi : i ∈ vs
    · rcases wipeR_in (ρ := ρ) hi with z | z <;> rw [z] at h <;> cases h
    · have := s.own i b x h; rw [wipe_out hi] at this; exact this
  dis := fun i j b c x y l h1 h2 h3 h4 => by
    by_cases hi : i ∈ vs
    · rcases wipeR_in (ρ := ρ) hi with z | z <;> rw [z] at h1 <;> cases h1
    · by_cases hj : j ∈ vs
      · rcases wipeR_in (ρ := ρ) hj with z | z <;> rw [z] at h2 <;> cases h2
      · exact s.dis i j b c x y l h1 h2 (by rw [wipe_out hi]; exact h3) (by rw [wipe_out hj]; exact h4)
  exc := fun i e h => by
    by_cases hi : i ∈ vs
    · rcases wipeR_in (ρ := ρ) hi with z | z <;> rw [z] at h <;> cases h
    · have := s.exc i e h; rw [wipe_out hi] at this; exact this
  mr := s.mr.slots (fun i b o h => by
    by_cases hi : i ∈ vs
    · rcases wipeR_in (ρ := ρ) hi with z | z <;> rw [z] at h <;> cases h
    · rw [wipe_out hi]; exact ⟨h, rfl⟩) fun i b o h => by
    by_cases hi : i ∈ vs
    · rcases wipeR_in (ρ := ρ) hi with z | z <;> rw [z] at h <;> cases h
    · rw [wipe_out hi]; exact ⟨⟨b, o, h⟩, rfl⟩
/-- an object that nobody of these knows may change -/
theorem SR.other (s : SR K Hf H O σ ρ) {a : Addr} {o o' : HO} (h : H a = some o) (hf : Hf a = none) (no : ¬ O a) : SR K Hf (upd H a o') O σ ρ where
  ex := fun b u q => by rw [upd_ne (ne_of_none q hf)]; exact s.ex b u q
  otr := fun b hb => by
    have z : b ≠ a := fun z => no (by rw [← z]; exact hb)
    rw [upd_ne z]; exact s.otr b hb
  len := s.len
  slot := s.slot
  own := fun i b xs q => by
    obtain ⟨l, vs, h1, h2, h3, h4⟩ := s.own i b xs q
    have z : l ≠ a := fun z => no (by rw [← z]; exact h2)
    exact ⟨l, vs, h1, h2, by rw [upd_ne z]; exact h3, h4⟩
  dis := s.dis
  exc := s.exc
  mr := s.mr.heap (Ex.refl _) (fun b u hb _ q => by
    have z : b ≠ a := fun z => no (by rw [← z]; exact hb)
    rw [upd_ne z]; exact q) fun _ h _ => h
end
theorem Gr.upd {O : Addr → Prop} {Hf H Hf1 H1 : Hp} (g : Gr O Hf H Hf1 H1) {a : Addr} {o : HO} (h : H a = none) : Gr O Hf H Hf1 (L2.upd H1 a o) where
  ex := g.ex
  fm := fun b u q n => by rw [upd_ne (ne_of_none q h)]; exact g.fm b u q n
  tr := fun b u q => by rw [upd_ne (ne_of_none q h)]; exact g.tr b u q
  nw := g.nw
theorem Gr.stays {O : Addr → Prop} {Hf H Hf1 H1 : Hp} (g : Gr O Hf H Hf1 H1) {a : Addr} {o : HO} (h : H a = some o) (hf : Hf a = none) (no : ¬ O a) : Hf1 a = none := by
  cases e : Hf1 a with
  | none => rfl
  | some u =>
    rcases g.nw a u e with z | z | z
    · rw [hf] at z; cases z
    · rw [h] at z; cases z
    · exact (no z).elim
/-! ### a list comprehension -/
def lcRun (h : Pd → Rho → Option Rho) (ft : Rho → R Bool) (fe : Rho → R AV) (vs : List Nat) : List Pd → List Pd → Rho → R (List Pd)
  | [], acc, ρ => .ok acc ρ
  | x :: xs, acc, ρ => match h x ρ with
    | none => .bad
    | some ρ1 => match ft ρ1 with
      | .ok true ρ2 => match fe ρ2 with
        | .ok (.d y) ρ3 => if acc.length < sizeLine then lcRun h ft fe vs xs (acc ++ [y]) (wipeR ρ3 vs) else .bad
        | _ => .bad
      | .ok false ρ2 => lcRun h ft fe vs xs acc (wipeR ρ2 vs)
      | _ => .bad
def okW (ρ : Rho) (vs : List Nat) : Bool := vs.all fun v => match ρ[v]? with
  | some (.own _ _) => false
  | some (.m _ _) => false
  | _ => true
omit [WD] in
theorem okW_kp {ρ ρ1 : Rho} {vs : List Nat} (h : okW ρ vs = true) (k : Kp ρ ρ1) : Kp ρ (wipeR ρ1 vs) := ⟨fun i xs e => by
  have hi : i ∉ vs := fun z => by
    have q := List.all_eq_true.mp h i z
    rw [e] at q; cases q
  rw [wipeR_out hi]
  exact k.1 i xs e, fun i xs e => by
  have hi : i ∉ vs := fun z => by
    have q := List.all_eq_true.mp h i z
    rw [e] at q; cases q
  rw [wipeR_out hi]
  exact k.2 i xs e⟩
def fLc (fi : Rho → R (List Pd)) (h : Pd → Rho → Option Rho) (ft : Rho → R Bool) (fe : Rho → R AV) (vs : List Nat) : Rho → R (List Pd) := fun ρ =>
  if okW ρ vs = true then (fi ρ).bind fun xs ρ1 => lcRun h ft fe vs xs [] (wipeR ρ1 vs) else .bad
/-- no exception -/
def W0 : WX := fun _ _ _ _ => False
theorem l_lc {Z : Zx} {W : WX} {wi : TI} {g : TG} {tt : TT} {te : TE} {vs js : List Nat} {fi : Rho → R (List Pd)} {h : Pd → Rho → Option Rho} {ft : Rho → R Bool} {fe : Rho → R AV} {wk : Bool} (hi : DI wk Z W wi fi) (hg : DG wk Z.K js g h) (hj : ∀ j ∈ js, j ∈ vs)
    (ht : DT Z W0 tt ft) (he : DE Z W0 te fe) : DL Z W (tLc wi g tt te vs) (fLc fi h ft fe vs) := by
  intro Hf H O σ ρ s Q p
  unfold fLc at p
  by_cases hw : okW ρ vs = true
  case neg => rw [if_neg hw] at p; exact p.elim
  rw [if_pos hw] at p
  refine hi Hf H O σ ρ s _ ?_
  cases e : fi ρ with
  | bad => rw [e] at p; exact p
  | ex x ρ1 => rw [e] at p; exact p
  | ok xs ρ1 =>
    rw [e] at p
    intro Hf1 H1 s1 g1 k1 J dlv D nD
    have nD0 : H D = none := g1.gone nD
    have noD : ¬ O D := fun z => by
      obtain ⟨⟨o, q⟩, _⟩ := s.otr D z
      rw [nD0] at q; cases q
    have p : PostG Z W O σ ρ Hf H (fun a _ Hf' H' => ∀ v, RL Z.K H Hf' H' v a → Q v H') (lcRun h ft fe vs xs [] (wipeR ρ1 vs)) := p
    refine ⟨fun i m H' => m + i = xs.length ∧ ∃ Hf' ρ' acc us, SR Z.K Hf' H' O (wipe σ vs) ρ' ∧ SR Z.K Hf' H' O σ ρ' ∧ Ex Hf1 Hf' ∧ Gr O Hf H Hf' H' ∧ Kp ρ ρ' ∧ H' D = some (.lst us) ∧ Hf' D = none ∧ RDs Z.K Hf' us acc ∧
      PostG Z W O σ ρ Hf H (fun a _ Hf' H' => ∀ v, RL Z.K H Hf' H' v a → Q v H') (lcRun h ft fe vs (xs.drop i) acc ρ'), ⟨xs.length, by omega, Hf1, wipeR ρ1 vs, [], [], ?_, ?_, Ex.refl _, g1.upd nD0, okW_kp hw k1, upd_same, fresh_back s1.ex nD, .nil, by simpa using p⟩, ?_⟩
    · exact (s1.grow (Pg.lay s1.ex nD)).wipe
    · exact (s1.grow (Pg.lay s1.ex nD)).wipe.unwipe
    · rintro i m H' ⟨em, Hf', ρ', acc, us, sw, so, e1, g', k', hD, fD, rd, p'⟩
      obtain ⟨d1, d2, d3⟩ := dlv i Hf' H' e1 sw.ex
      by_cases hlt : i < xs.length
      case neg =>
        refine .inl ⟨d2 (by omega), ?_⟩
        rw [List.drop_eq_nil_of_le (by omega)] at p'
        exact p' Hf' H' so g' k' _ ⟨D, us, rfl, nD0, hD, fD, rd⟩
      refine .inr ⟨d1 hlt, fun H'' => ∃ Hf' ρ' acc us, SR Z.K Hf' H'' O (wipe σ vs) ρ' ∧ SR Z.K Hf' H'' O σ ρ' ∧ Ex Hf1 Hf' ∧ Gr O Hf H Hf' H'' ∧ Kp ρ ρ' ∧ H'' D = some (.lst us) ∧ Hf' D = none ∧ RDs Z.K Hf' us acc ∧
        PostG Z W O σ ρ Hf H (fun a _ Hf' H' => ∀ v, RL Z.K H Hf' H' v a → Q v H') (lcRun h ft fe vs (xs.drop (i + 1)) acc ρ'), fun H'' q => ⟨m - 1, by omega, by omega, q⟩, fun v H2 hy => ?_⟩
      obtain ⟨Hf2, pg, rv⟩ := d3 v H2 hy _ (List.getElem?_eq_getElem hlt)
      rw [List.drop_eq_getElem_cons hlt] at p'
      simp only [lcRun] at p'
      cases eh : h xs[i] ρ' with
      | none => rw [eh] at p'; exact p'.elim
      | some ρ2 =>
        rw [eh] at p'
        simp only at p'
        have hD2 : H2 D = some (.lst us) := pg.eh _ _ hD
        have fD2 : Hf2 D = none := (pg.gr (O := O)).stays hD fD noD
        refine hg Hf2 H2 O (wipe σ vs) ρ' v _ ρ2 (sw.grow pg) rv eh _ fun σ2 s2 off oth _ => ⟨wipe_off off hj, ?_⟩
        have ew : wipe σ2 vs = wipe σ vs := wipe_off off hj
        -- own slots that were handed in lie outside the block's own
        have kp2 : Kp ρ ρ2 := ⟨fun j ys ej => by
          have nj : j ∉ vs := fun z => by
            have q := List.all_eq_true.mp hw j z
            rw [ej] at q; cases q
          rw [oth j fun z => nj (hj j z)]
          exact k'.1 j ys ej, fun j ys ej => by
          have nj : j ∉ vs := fun z => by
            have q := List.all_eq_true.mp hw j z
            rw [ej] at q; cases q
          rw [oth j fun z => nj (hj j z)]
          exact k'.2 j ys ej⟩
        refine ht Hf2 H2 O σ2 ρ2 s2 _ ?_
        cases et : ft ρ2 with
        | bad => rw [et] at p'; exact p'.elim
        | ex x ρ3 => rw [et] at p'; exact p'.elim
        | ok b ρ3 =>
          rw [et] at p'
          intro Hf3 H3 s3 g3 k3 b' rb
          subst rb
          cases b' with
          | false =>
            have sw3 : SR Z.K Hf3 H3 O (wipe σ vs) (wipeR ρ3 vs) := ew ▸ s3.wipe
            refine ⟨Hf3, wipeR ρ3 vs, acc, us, sw3, sw3.unwipe, e1.trans (pg.ef.trans g3.ex), g'.trans (pg.gr.trans g3), okW_kp hw (kp2.trans k3), g3.fm _ _ hD2 noD, g3.stays hD2 fD2 noD, rd.mono (pg.ef.trans g3.ex), p'⟩
          | true =>
            simp only at p'
            refine he Hf3 H3 O σ2 ρ3 s3 _ ?_
            cases ee : fe ρ3 with
            | bad => rw [ee] at p'; exact p'.elim
            | ex x ρ4 => rw [ee] at p'; exact p'.elim
            | ok a ρ4 =>
              rw [ee] at p'
              cases a with
              | sl j => exact p'.elim
              | d y =>
                simp only at p'
                intro Hf4 H4 s4 g4 k4 w rw4
                by_cases hz : acc.length < sizeLine
                case neg => rw [if_neg hz] at p'; exact p'.elim
                rw [if_pos hz] at p'
                have gg := (pg.gr (O := O)).trans (g3.trans g4)
                have hD4 : H4 D = some (.lst us) := gg.fm _ _ hD noD
                have fD4 : Hf4 D = none := gg.stays hD fD noD
                have sw4 : SR Z.K Hf4 H4 O (wipe σ vs) (wipeR ρ4 vs) := ew ▸ s4.wipe
                refine ⟨us, hD4, by rw [rd.length]; exact hz, Hf4, wipeR ρ4 vs, acc ++ [y], us ++ [w], sw4.other hD4 fD4 noD, sw4.unwipe.other hD4 fD4 noD, e1.trans gg.ex, (g'.trans gg).upd nD0, okW_kp hw (kp2.trans (k3.trans k4)), upd_same, fD4, (rd.mono gg.ex).append (.cons rw4 .nil), p'⟩
end Dt
namespace Dt
open PySem PySem.Spec L2 Evl
variable [WD]
/-- how a statement ends: it goes on, breaks, continues, returns data, returns a new list -/
inductive Fl where
  | nx | bk | ct
  | rt (x : Pd)
  | rl (xs : List Pd)
  | rm (o : Mo)
def EndS (Z : Zx) (En : Ends) (H0 Hf H : Hp) (O : Addr → Prop) (σ : L2.St) : Fl → Prop
  | .nx => En.nx σ H
  | .bk => En.bk σ H
  | .ct => En.ct σ H
  | .rt x => ∀ v, RD Z.K Hf v x → En.rt v H
  | .rl xs => ∀ l vs, H0 l = none → H l = some (.lst vs) → Hf l = none → ¬ O l → RDs Z.K Hf vs xs → En.rt (.ref l) H
  | .rm o => ∀ v fp, RM Z.K Hf H v o fp → fp.Nodup → (∀ a ∈ fp, (H0 a = none ∨ O a) ∧ Hf a = none ∧ ∃ u, H a = some u) → En.rt v H
def PostS (Z : Zx) (W : WX) (O : Addr → Prop) (σ : L2.St) (ρ : Rho) (Hf H : Hp) (En : Ends) : R Fl → Prop
  | .bad => False
  | .ok fl ρ' => ∀ Hf' H' O' σ', SR Z.K Hf' H' O' σ' ρ' → Gr O Hf H Hf' H' → Orl O H O' → Kq ρ ρ' σ σ' → EndS Z En H Hf' H' O' σ' fl
  | .ex e ρ' => ∀ cls d Hf' H' O' σ', SR Z.K Hf' H' O' σ' ρ' → Gr O Hf H Hf' H' → Orl O H O' → Kq ρ ρ' σ σ' → XR Z Hf' H' cls d e → W cls d σ' H'
theorem PostS.shift {Z : Zx} {W : WX} {O O1 : Addr → Prop} {σ σ1 : L2.St} {ρ ρ1 : Rho} {Hf H Hf1 H1 : Hp} {En : Ends} {r : R Fl} (p : PostS Z W O σ ρ Hf H En r) (g : Gr O Hf H Hf1 H1) (o : Orl O H O1) (k : Kq ρ ρ1 σ σ1) :
    PostS Z W O1 σ1 ρ1 Hf1 H1 En r := by
  cases r with
  | bad => exact p
  | ex e ρ' => exact fun cls d Hf' H' O' σ' s' g' o' k' x => p cls d Hf' H' O' σ' s' (g.transO g' o) (o.trans o' g) (k.trans k') x
  | ok fl ρ' =>
    intro Hf' H' O' σ' s' g' o' k'
    have q := p Hf' H' O' σ' s' (g.transO g' o) (o.trans o' g) (k.trans k')
    cases fl with
    | nx => exact q
    | bk => exact q
    | ct => exact q
    | rt x => exact q
    | rl xs => exact fun l vs h0 h1 h2 h3 h4 => q l vs (g.gone h0) h1 h2 h3 h4
    | rm o => exact fun v fp h0 h1 h2 => q v fp h0 h1 fun a ha => ⟨(h2 a ha).1.imp g.gone id, (h2 a ha).2⟩
def DS (Z : Zx) (W : WX) (t : TS) (f : Rho → R Fl) : Prop := ∀ Hf H O σ ρ, SR Z.K Hf H O σ ρ → ∀ En, PostS Z W O σ ρ Hf H En (f ρ) → t En σ H
theorem DJ.bindS {C A : Type} {Z : Zx} {W : WX} {Rel : Hp → Hp → Hp → L2.St → C → A → Prop} {t : L2.St → Hp → (C → Hp → Prop) → Prop} {f : Rho → R A} (h : DJ Z W Rel t f) {Hf H : Hp} {O : Addr → Prop} {σ : L2.St} {ρ : Rho} (s : SR Z.K Hf H O σ ρ)
    {En : Ends} {k : A → Rho → R Fl} (p : PostS Z W O σ ρ Hf H En ((f ρ).bind k)) {Q : C → Hp → Prop}
    (c : ∀ a ρ1 v Hf1 H1, SR Z.K Hf1 H1 O σ ρ1 → Gr O Hf H Hf1 H1 → Kp ρ ρ1 → Rel H Hf1 H1 σ v a → PostS Z W O σ ρ Hf H En (k a ρ1) → Q v H1) : t σ H Q := by
  refine h Hf H O σ ρ s Q ?_
  cases e : f ρ with
  | bad => rw [e] at p; exact p
  | ok a ρ1 =>
    rw [e] at p
    exact fun Hf1 H1 s1 g1 k1 v rv => c a ρ1 v Hf1 H1 s1 g1 k1 rv p
  | ex x ρ1 =>
    rw [e] at p
    exact fun cls d Hf1 H1 s1 g1 k1 xr => p cls d Hf1 H1 O σ s1 g1 Orl.refl k1.kq xr
section
variable {Z : Zx} {W : WX}
/-! ### rows of statements -/
def fNx : Rho → R Fl := fun ρ => .ok .nx ρ
theorem s_nx : DS Z W tNext fNx := fun Hf H O σ ρ s En p => p Hf H O σ s Gr.refl Orl.refl Kq.refl
def fSeq (f g : Rho → R Fl) : Rho → R Fl := fun ρ => match f ρ with
  | .ok .nx ρ1 => g ρ1
  | r => r
theorem s_seq {t u : TS} {f g : Rho → R Fl} (h : DS Z W t f) (k : DS Z W u g) : DS Z W (tSeq t u) (fSeq f g) := by
  intro Hf H O σ ρ s En p
  refine h Hf H O σ ρ s { En with nx := u En } ?_
  unfold fSeq at p
  cases e : f ρ with
  | bad => rw [e] at p; exact p
  | ex x ρ1 => rw [e] at p; exact p
  | ok fl ρ1 =>
    rw [e] at p
    cases fl with
    | nx => exact fun Hf1 H1 O1 σ1 s1 g1 o1 k1 => k Hf1 H1 O1 σ1 ρ1 s1 En (PostS.shift p g1 o1 k1)
    | bk => exact p
    | ct => exact p
    | rt x => exact p
    | rl xs => exact p
    | rm o => exact p
def fIfS (c : Rho → R Bool) (f g : Rho → R Fl) : Rho → R Fl := fun ρ => (c ρ).bind fun b ρ1 => if b = true then f ρ1 else g ρ1
theorem s_if {c : TT} {t u : TS} {fc : Rho → R Bool} {f g : Rho → R Fl} (hc : DT Z W c fc) (h : DS Z W t f) (k : DS Z W u g) : DS Z W (tIfS c t u) (fIfS fc f g) := by
  intro Hf H O σ ρ s En p
  refine DJ.bindS hc s p fun b ρ1 v Hf1 H1 s1 g1 k1 rv p1 => ?_
  subst rv
  cases v with
  | true => exact h Hf1 H1 O σ ρ1 s1 En (PostS.shift p1 g1 Orl.refl k1.kq)
  | false => exact k Hf1 H1 O σ ρ1 s1 En (PostS.shift p1 g1 Orl.refl k1.kq)
def fRet (f : Rho → R AV) : Rho → R Fl := fun ρ => (f ρ).bind fun a ρ1 => match a with
  | .d x => .ok (.rt x) ρ1
  | .sl _ => .bad
theorem s_ret {t : TE} {f : Rho → R AV} (h : DE Z W t f) : DS Z W (tRet t) (fRet f) := by
  intro Hf H O σ ρ s En p
  refine DJ.bindS h s p fun a ρ1 v Hf1 H1 s1 g1 k1 rv p1 => ?_
  cases a with
  | d x => exact p1 Hf1 H1 O σ s1 g1 Orl.refl k1.kq v rv
  | sl i => exact p1.elim
def fRetL (f : Rho → R (List Pd)) : Rho → R Fl := fun ρ => (f ρ).bind fun xs ρ1 => .ok (.rl xs) ρ1
theorem s_retL {t : TE} {f : Rho → R (List Pd)} (h : DL Z W t f) : DS Z W (tRet t) (fRetL f) := by
  intro Hf H O σ ρ s En p
  refine DJ.bindS h s p fun a ρ1 v Hf1 H1 s1 g1 k1 rv p1 => ?_
  obtain ⟨l, vs, rfl, h0, h1, h2, h3⟩ := rv
  refine p1 Hf1 H1 O σ s1 g1 Orl.refl k1.kq l vs h0 h1 h2 (fun z => ?_) h3
  obtain ⟨⟨o, q⟩, _⟩ := s.otr l z
  rw [h0] at q; cases q
def fRetN : Rho → R Fl := fun ρ => .ok (.rt .none) ρ
theorem s_retN : DS Z W tRetN fRetN := fun Hf H O σ ρ s En p => p Hf H O σ s Gr.refl Orl.refl Kq.refl .non .non
def fDrop (f : Rho → R AV) : Rho → R Fl := fun ρ => (f ρ).bind fun _ ρ1 => .ok .nx ρ1
theorem s_drop {t : TE} {f : Rho → R AV} (h : DE Z W t f) : DS Z W (tDrop t) (fDrop f) := by
  intro Hf H O σ ρ s En p
  refine DJ.bindS h s p fun a ρ1 v Hf1 H1 s1 g1 k1 rv p1 => ?_
  exact p1 Hf1 H1 O σ s1 g1 Orl.refl k1.kq
theorem s_never : DS Z W tNever (fun _ => .bad) := fun Hf H O σ ρ s En p => p
theorem s_bk : DS Z W tBreak (fun ρ => .ok .bk ρ) := fun Hf H O σ ρ s En p => p Hf H O σ s Gr.refl Orl.refl Kq.refl
theorem s_ct : DS Z W tCont (fun ρ => .ok .ct ρ) := fun Hf H O σ ρ s En p => p Hf H O σ s Gr.refl Orl.refl Kq.refl
/-! ### assignments -/
def fAsg (f : Rho → R AV) (h : Pd → Rho → Option Rho) : Rho → R Fl := fun ρ => (f ρ).bind fun a ρ1 => match a with
  | .d x => match h x ρ1 with
    | some ρ2 => .ok .nx ρ2
    | none => .bad
  | .sl _ => .bad
theorem s_asg {js : List Nat} {t : TE} {g : TG} {f : Rho → R AV} {h : Pd → Rho → Option Rho} {wk : Bool} (he : DE Z W t f) (hg : DG wk Z.K js g h) : DS Z W (tAsg t g) (fAsg f h) := by
  intro Hf H O σ ρ s En p
  refine DJ.bindS he s p fun a ρ1 v Hf1 H1 s1 g1 k1 rv p1 => ?_
  cases a with
  | sl i => exact p1.elim
  | d x =>
    simp only at p1
    cases e : h x ρ1 with
    | none => rw [e] at p1; exact p1.elim
    | some ρ2 =>
      rw [e] at p1
      exact hg Hf1 H1 O σ ρ1 v x ρ2 s1 (.inl rv) e _ fun σ' s2 _ _ k2 => p1 Hf1 H1 O σ' s2 g1 Orl.refl (Kq.trans k1.kq k2)
/-- a new list into a slot: owned from now on -/
def putOwn (i : Nat) (xs : List Pd) (ρ : Rho) : Option Rho := match ρ[i]? with
  | some (.own true _) => none
  | some (.m true _) => none
  | some _ => some (ρ.set i (.own false xs))
  | none => none
omit [WD] in
theorem putOwn_some {i : Nat} {x : List Pd} {ρ ρ' : Rho} (h : putOwn i x ρ = some ρ') : i < ρ.length ∧ ρ' = ρ.set i (.own false x) ∧ (∀ xs, ρ[i]? ≠ some (.own true xs)) ∧ ∀ o, ρ[i]? ≠ some (.m true o) := by
  unfold putOwn at h
  cases e : ρ[i]? with
  | none => rw [e] at h; cases h
  | some z =>
    rw [e] at h
    have hi := (List.getElem?_eq_some_iff.mp e).1
    cases z with
    | no => cases h; exact ⟨hi, rfl, (fun _ q => by cases q), fun _ q => by cases q⟩
    | x _ => cases h; exact ⟨hi, rfl, (fun _ q => by cases q), fun _ q => by cases q⟩
    | m b _ =>
      cases b with
      | true => cases h
      | false => cases h; exact ⟨hi, rfl, (fun _ q => by cases q), fun _ q => by cases q⟩
    | d y => cases h; exact ⟨hi, rfl, (fun _ q => by cases q), fun _ q => by cases q⟩
    | own b xs =>
      cases b with
      | true => cases h
      | false => cases h; exact ⟨hi, rfl, (fun _ q => by cases q), fun _ q => by cases q⟩
def fSetO (f : Rho → R (List Pd)) (i : Nat) : Rho → R Fl := fun ρ => (f ρ).bind fun xs ρ1 => match putOwn i xs ρ1 with
  | some ρ2 => .ok .nx ρ2
  | none => .bad
theorem SR.putO {K : PySem.W.Frag} {Hf H : Hp} {O : Addr → Prop} {σ : L2.St} {ρ : Rho} (s : SR K Hf H O σ ρ) {i : Nat} {l : Addr} {vs : List V} {xs : List Pd} (hi : i < ρ.length) (h1 : H l = some (.lst vs)) (h2 : Hf l = none) (no : ¬ O l) (r : RDs K Hf vs xs) :
    SR K Hf H (fun a => O a ∨ a = l) (σ.set i (some (.ref l))) (ρ.set i (.own false xs)) where
  ex := s.ex
  otr := fun a h => by
    rcases h with h | h
    · exact s.otr a h
    · subst h; exact ⟨⟨_, h1⟩, h2⟩
  len := by simp [s.len]
  slot := fun j y h => by
    by_cases z : i = j
    · subst z
      rw [List.getElem?_set_self hi] at h
      cases h
    · rw [List.getElem?_set_ne z] at h ⊢; exact s.slot j y h
  own := fun j b ys h => by
    by_cases z : i = j
    · subst z
      rw [List.getElem?_set_self hi] at h
      cases h
      exact ⟨l, vs, List.getElem?_set_self (by rw [s.len]; exact hi), .inr rfl, h1, r⟩
    · rw [List.getElem?_set_ne z] at h ⊢
      obtain ⟨k, us, q1, q2, q3⟩ := s.own j b ys h
      exact ⟨k, us, q1, .inl q2, q3⟩
  dis := fun j k b c xs ys m h1 h2 h3 h4 => by
    have ne : ∀ {j : Nat} {b ys}, i ≠ j → (ρ.set i (.own false xs))[j]? = some (.own b ys) → (σ.set i (some (.ref l)))[j]? = some (some (.ref m)) → m ≠ l := fun {j b ys} z q1 q2 e => by
      rw [List.getElem?_set_ne z] at q1 q2
      obtain ⟨k, us, e1, e2, _⟩ := s.own j b ys q1
      rw [q2] at e1
      cases e1
      rw [e] at e2
      exact no e2
    by_cases z : i = j
    · by_cases z2 : i = k
      · rw [← z, ← z2]
      · subst z
        rw [List.getElem?_set_self (by rw [s.len]; exact hi)] at h3
        cases h3
        rw [List.getElem?_set_ne z2] at h2 h4
        obtain ⟨k', us, e1, e2, _⟩ := s.own k c ys h2
        rw [h4] at e1
        cases e1
        exact (no e2).elim
    · by_cases z2 : i = k
      · subst z2
        rw [List.getElem?_set_self (by rw [s.len]; exact hi)] at h4
        cases h4
        rw [List.getElem?_set_ne z] at h1 h3
        obtain ⟨k', us, e1, e2, _⟩ := s.own j b xs h1
        rw [h3] at e1
        cases e1
        exact (no e2).elim
      · rw [List.getElem?_set_ne z] at h1 h3
        rw [List.getElem?_set_ne z2] at h2 h4
        exact s.dis j k b c xs ys m h1 h2 h3 h4
  exc := fun j e h => by
    by_cases z : i = j
    · subst z
      rw [List.getElem?_set_self hi] at h
      cases h
    · rw [List.getElem?_set_ne z] at h ⊢; exact s.exc j e h
  mr := by
    obtain ⟨w, h1', h2'⟩ := s.mr
    refine ⟨fun a => if a = l then none else w a, fun j b o h => ?_, fun j b ys k h h3 => ?_⟩
    · by_cases z : i = j
      · subst z
        rw [List.getElem?_set_self hi] at h
        cases h
      · rw [List.getElem?_set_ne z] at h ⊢
        obtain ⟨v, fp, q1, q2, q3, q4⟩ := h1' j b o h
        refine ⟨v, fp, q1, q2, q3, fun a ha => ⟨.inl (q4 a ha).1, ?_⟩⟩
        show (if a = l then none else w a) = _
        rw [if_neg (fun z => no (by rw [← z]; exact (q4 a ha).1))]
        exact (q4 a ha).2
    · show (if k = l then none else w k) = none
      by_cases zk : k = l
      · rw [if_pos zk]
      · rw [if_neg zk]
        by_cases z : i = j
        · subst z
          rw [List.getElem?_set_self (by rw [s.len]; exact hi)] at h3
          cases h3
          exact (zk rfl).elim
        · rw [List.getElem?_set_ne z] at h h3
          exact h2' j b ys k h h3
theorem s_setO {i : Nat} {t : TE} {f : Rho → R (List Pd)} (he : DL Z W t f) : DS Z W (tAsg t (gName i)) (fSetO f i) := by
  intro Hf H O σ ρ s En p
  refine DJ.bindS he s p fun xs ρ1 v Hf1 H1 s1 g1 k1 rv p1 => ?_
  obtain ⟨l, vs, rfl, h0, h1, h2, h3⟩ := rv
  cases e : putOwn i xs ρ1 with
  | none => rw [e] at p1; exact p1.elim
  | some ρ2 =>
    rw [e] at p1
    obtain ⟨hi, rfl, ni⟩ := putOwn_some e
    have no : ¬ O l := fun z => by
      obtain ⟨⟨o, q⟩, _⟩ := s.otr l z
      rw [h0] at q; cases q
    exact p1 Hf1 H1 _ _ (s1.putO hi h1 h2 no h3) g1 (fun a z => z.elim .inl fun z => .inr (by rw [z]; exact h0)) (Kq.trans k1.kq (Kq.setS ni.1 ni.2))
/-! ### an owned list is changed -/
theorem SR.chg {K : PySem.W.Frag} {Hf H : Hp} {O : Addr → Prop} {σ : L2.St} {ρ : Rho} (s : SR K Hf H O σ ρ) {i : Nat} {b : Bool} {xs ys : List Pd} {l : Addr} {vs us : List V} (e : ρ[i]? = some (.own b xs)) (hs : σ[i]? = some (some (.ref l))) (h1 : H l = some (.lst vs)) (r : RDs K Hf us ys) :
    SR K Hf (upd H l (.lst us)) O σ (ρ.set i (.own b ys)) := by
  have hi := (List.getElem?_eq_some_iff.mp e).1
  obtain ⟨l', vs', q1, q2, q3, q4⟩ := s.own i b xs e
  rw [hs] at q1
  cases q1
  have hf := (s.otr l q2).2
  refine ⟨fun a u h => ?_, fun a h => ?_, by simp [s.len], fun j y h => ?_, fun j c zs h => ?_, fun j k c d x y m a1 a2 a3 a4 => ?_, fun j e' h => ?_, ?mu⟩
  case mu =>
    refine s.mr.gen (Ex.refl _) (fun j c o h => ?_) (fun j c o h => ?_) (fun a u _ n h => ?_) fun _ h _ => h
    · by_cases z : i = j
      · subst z; rw [List.getElem?_set_self hi] at h; cases h
      · rw [List.getElem?_set_ne z] at h; exact ⟨h, rfl⟩
    · by_cases z : i = j
      · subst z; exact ⟨⟨b, xs, e⟩, rfl⟩
      · rw [List.getElem?_set_ne z] at h; exact ⟨⟨c, o, h⟩, rfl⟩
    · have z : a ≠ l := fun z => n i b xs e (by rw [z]; exact hs)
      rw [upd_ne z]; exact h
  · rw [upd_ne (ne_of_none h hf)]; exact s.ex a u h
  · refine ⟨?_, (s.otr a h).2⟩
    by_cases z : a = l
    · subst z; exact ⟨_, upd_same⟩
    · rw [upd_ne z]; exact (s.otr a h).1
  · by_cases z : i = j
    · subst z
      rw [List.getElem?_set_self hi] at h
      cases h
    · rw [List.getElem?_set_ne z] at h; exact s.slot j y h
  · by_cases z : i = j
    · subst z
      rw [List.getElem?_set_self hi] at h
      cases h
      exact ⟨l, us, hs, q2, upd_same, r⟩
    · rw [List.getElem?_set_ne z] at h
      obtain ⟨k, ws, b1, b2, b3, b4⟩ := s.own j c zs h
      have z2 : k ≠ l := fun z2 => z (s.dis i j b c xs zs l e h hs (by rw [← z2]; exact b1))
      exact ⟨k, ws, b1, b2, by rw [upd_ne z2]; exact b3, b4⟩
  · have back : ∀ {j : Nat} {c x}, (ρ.set i (.own b ys))[j]? = some (.own c x) → ∃ c x, ρ[j]? = some (.own c x) := fun {j c x} q => by
      by_cases z : i = j
      · subst z; exact ⟨b, xs, e⟩
      · rw [List.getElem?_set_ne z] at q; exact ⟨c, x, q⟩
    obtain ⟨c1, x1, a1⟩ := back a1
    obtain ⟨c2, x2, a2⟩ := back a2
    exact s.dis j k c1 c2 x1 x2 m a1 a2 a3 a4
  · by_cases z : i = j
    · subst z
      rw [List.getElem?_set_self hi] at h
      cases h
    · rw [List.getElem?_set_ne z] at h; exact s.exc j e' h
theorem Gr.chg {O : Addr → Prop} {Hf H Hf1 H1 : Hp} (g : Gr O Hf H Hf1 H1) {l : Addr} {o : HO} (ho : O l) : Gr O Hf H Hf1 (L2.upd H1 l o) where
  ex := g.ex
  fm := fun a u q n => by
    have z : a ≠ l := fun z => n (by rw [z]; exact ho)
    rw [upd_ne z]; exact g.fm a u q n
  tr := fun a u q => by
    by_cases z : a = l
    · subst z; exact ⟨_, upd_same⟩
    · rw [upd_ne z]; exact g.tr a u q
  nw := g.nw
omit [WD] in
theorem kp_chg {ρ : Rho} {i : Nat} {b : Bool} {xs ys : List Pd} (e : ρ[i]? = some (.own b xs)) : Kp ρ (ρ.set i (.own b ys)) := ⟨fun j zs q => by
  have hi := (List.getElem?_eq_some_iff.mp e).1
  by_cases z : i = j
  · subst z
    rw [e] at q
    cases q
    exact ⟨ys, List.getElem?_set_self hi⟩
  · exact ⟨zs, by rw [List.getElem?_set_ne z]; exact q⟩, fun j zs q => by
  by_cases z : i = j
  · subst z
    rw [e] at q
    cases q
  · exact ⟨zs, by rw [List.getElem?_set_ne z]; exact q⟩⟩
/-- x.append(e), x in the slot i -/
def fApp (i : Nat) (f : Rho → R AV) : Rho → R Fl := fun ρ => match ρ[i]? with
  | some (.own _ _) => (f ρ).bind fun a ρ1 => match a, ρ1[i]? with
    | .d y, some (.own b xs) => if xs.length < sizeLine then .ok .nx (ρ1.set i (.own b (xs ++ [y]))) else .bad
    | _, _ => .bad
  | _ => .bad
theorem s_app {i : Nat} {t : TE} {f : Rho → R AV} (he : DE Z W t f) : DS Z W (tDrop (tBM Z.K "list" rAppend (tVar i) (tCons t tNil))) (fApp i f) := by
  intro Hf H O σ ρ s En p
  unfold fApp at p
  cases e0 : ρ[i]? with
  | none => rw [e0] at p; exact p.elim
  | some z0 =>
    rw [e0] at p
    cases z0 with
    | no => exact p.elim
    | x _ => exact p.elim
    | m _ _ => exact p.elim
    | d y => exact p.elim
    | own b0 xs0 =>
      simp only at p
      obtain ⟨l, vs, h1, h2, h3, h4⟩ := s.own i b0 xs0 e0
      refine ⟨.ref l, h1, .inl ⟨rfl, vs, .inl (.inl h3)⟩, ?_⟩
      refine DJ.bindS he s p fun a ρ1 v Hf1 H1 s1 g1 k1 rv p1 => ?_
      show rAppend (.ref l) [v] H1 (fun _ H2 => En.nx σ H2)
      cases a with
      | sl j => exact p1.elim
      | d y =>
        cases e1 : ρ1[i]? with
        | none => rw [e1] at p1; exact p1.elim
        | some z1 =>
          rw [e1] at p1
          cases z1 with
          | no => exact p1.elim
          | x _ => exact p1.elim
          | m _ _ => exact p1.elim
          | d y => exact p1.elim
          | own b xs =>
            simp only at p1
            obtain ⟨l', us, q1, q2, q3, q4⟩ := s1.own i b xs e1
            rw [h1] at q1
            cases q1
            by_cases hz : xs.length < sizeLine
            · rw [if_pos hz] at p1
              exact ⟨l, us, v, rfl, rfl, q3, by rw [q4.length]; exact hz, p1 Hf1 _ O σ (s1.chg e1 h1 q3 (q4.append (.cons rv .nil))) (g1.chg q2) Orl.refl (Kq.trans k1.kq (kp_chg e1).kq)⟩
            · rw [if_neg hz] at p1; exact p1.elim
/-- x.extend(e), e a new list -/
def fExt (i : Nat) (f : Rho → R (List Pd)) : Rho → R Fl := fun ρ => match ρ[i]? with
  | some (.own _ _) => (f ρ).bind fun ys ρ1 => match ρ1[i]? with
    | some (.own b xs) => if xs.length + ys.length ≤ sizeLine then .ok .nx (ρ1.set i (.own b (xs ++ ys))) else .bad
    | _ => .bad
  | _ => .bad
theorem s_ext {i : Nat} {t : TE} {f : Rho → R (List Pd)} (he : DL Z W t f) : DS Z W (tDrop (tBM Z.K "list" rExtend (tVar i) (tCons t tNil))) (fExt i f) := by
  intro Hf H O σ ρ s En p
  unfold fExt at p
  cases e0 : ρ[i]? with
  | none => rw [e0] at p; exact p.elim
  | some z0 =>
    rw [e0] at p
    cases z0 with
    | no => exact p.elim
    | x _ => exact p.elim
    | m _ _ => exact p.elim
    | d y => exact p.elim
    | own b0 xs0 =>
      simp only at p
      obtain ⟨l, vs, h1, h2, h3, h4⟩ := s.own i b0 xs0 e0
      refine ⟨.ref l, h1, .inl ⟨rfl, vs, .inl (.inl h3)⟩, ?_⟩
      refine DJ.bindS he s p fun ys ρ1 v Hf1 H1 s1 g1 k1 rv p1 => ?_
      obtain ⟨m, ws, rfl, m0, m1, m2, m3⟩ := rv
      show rExtend (.ref l) [.ref m] H1 (fun _ H2 => En.nx σ H2)
      cases e1 : ρ1[i]? with
      | none => rw [e1] at p1; exact p1.elim
      | some z1 =>
        rw [e1] at p1
        cases z1 with
        | no => exact p1.elim
        | x _ => exact p1.elim
        | m _ _ => exact p1.elim
        | d y => exact p1.elim
        | own b xs =>
          simp only at p1
          obtain ⟨l', us, q1, q2, q3, q4⟩ := s1.own i b xs e1
          rw [h1] at q1
          cases q1
          by_cases hz : xs.length + ys.length ≤ sizeLine
          · rw [if_pos hz] at p1
            exact ⟨l, m, us, ws, rfl, rfl, q3, m1, by rw [q4.length, m3.length]; exact hz, p1 Hf1 _ O σ (s1.chg e1 h1 q3 (q4.append m3)) (g1.chg q2) Orl.refl (Kq.trans k1.kq (kp_chg e1).kq)⟩
          · rw [if_neg hz] at p1; exact p1.elim
/-- x[k] = e, x in the slot i -/
def fSetI (i : Nat) (f fk : Rho → R AV) : Rho → R Fl := fun ρ => (f ρ).bind fun a ρ1 => match a, ρ1[i]? with
  | .d y, some (.own _ _) => (fk ρ1).bind fun k ρ2 => match k, ρ2[i]? with
    | .d (.int n), some (.own b xs) => match ixN xs.length n with
      | some j => .ok .nx (ρ2.set i (.own b (xs.set j y)))
      | none => .bad
    | _, _ => .bad
  | _, _ => .bad
theorem s_setI {i : Nat} {t tk : TE} {f fk : Rho → R AV} (he : DE Z W t f) (hk : DE Z W tk fk) : DS Z W (tAsg t (gSub (tVar i) tk rSetL)) (fSetI i f fk) := by
  intro Hf H O σ ρ s En p
  refine DJ.bindS he s p fun a ρ1 v Hf1 H1 s1 g1 k1 rv p1 => ?_
  cases a with
  | sl j => exact p1.elim
  | d y =>
    cases e1 : ρ1[i]? with
    | none => rw [e1] at p1; exact p1.elim
    | some z1 =>
      rw [e1] at p1
      cases z1 with
      | no => exact p1.elim
      | x _ => exact p1.elim
      | m _ _ => exact p1.elim
      | d y => exact p1.elim
      | own b1 xs1 =>
        simp only at p1
        obtain ⟨l, vs, h1, h2, h3, h4⟩ := s1.own i b1 xs1 e1
        refine ⟨.ref l, h1, ?_⟩
        refine DJ.bindS hk s1 (PostS.shift p1 g1 Orl.refl k1.kq) fun k ρ2 kv Hf2 H2 s2 g2 k2 rk p2 => ?_
        match k, rk, p2 with
        | .d (.int n), rk, p2 =>
          cases e2 : ρ2[i]? with
          | none => rw [e2] at p2; exact p2.elim
          | some z2 =>
            rw [e2] at p2
            cases z2 with
            | no => exact p2.elim
            | x _ => exact p2.elim
            | m _ _ => exact p2.elim
            | d y => exact p2.elim
            | own b xs =>
              simp only at p2
              obtain ⟨l', us, q1, q2, q3, q4⟩ := s2.own i b xs e2
              rw [h1] at q1
              cases q1
              cases en : ixN xs.length n with
              | none => rw [en] at p2; exact p2.elim
              | some j =>
                rw [en] at p2
                cases rk
                exact ⟨l, us, n, j, rfl, rfl, q3, by rw [q4.length]; exact en, p2 Hf2 _ O σ (s2.chg e2 h1 q3 (RDs.set (RD.mono g2.ex rv) j q4)) (g2.chg q2) Orl.refl (Kq.trans k2.kq (kp_chg e2).kq)⟩
        | .d .none, _, p2 => exact p2.elim
        | .d (.bool _), _, p2 => exact p2.elim
        | .d (.str _), _, p2 => exact p2.elim
        | .d (.tuple _), _, p2 => exact p2.elim
        | .d (.list _), _, p2 => exact p2.elim
        | .d (.dict _), _, p2 => exact p2.elim
        | .sl _, _, p2 => exact p2.elim
/-! ### an owned list is owned no more: from here on it is data -/
def frz (i : Nat) (ρ : Rho) : Rho := match ρ[i]? with
  | some (.own false xs) => ρ.set i (.d (.list xs))
  | _ => ρ
theorem SR.frz {K : PySem.W.Frag} {Hf H : Hp} {O : Addr → Prop} {σ : L2.St} {ρ : Rho} (s : SR K Hf H O σ ρ) (i : Nat) : ∃ Hf' O', SR K Hf' H O' σ (Dt.frz i ρ) ∧ Gr O Hf H Hf' H ∧ Orl O H O' ∧ Kp ρ (Dt.frz i ρ) := by
  unfold Dt.frz
  split
  · rename_i xs e
    have hi := (List.getElem?_eq_some_iff.mp e).1
    obtain ⟨l, vs, h1, h2, h3, h4⟩ := s.own i false xs e
    have hf := (s.otr l h2).2
    refine ⟨upd Hf l (.lst vs), fun a => O a ∧ a ≠ l, ⟨fun a u h => ?_, fun a h => ?_, by simp [s.len], fun j y h => ?_, fun j c zs h => ?_, fun j k c d x y m a1 a2 a3 a4 => ?_, fun j e' h => ?_, ?mu⟩, ⟨Ex.new hf, fun _ _ h _ => h, fun _ o h => ⟨o, h⟩, fun a o h => ?_⟩, fun a h => .inl h.1, ⟨fun j ys q => ?_, fun j ys q => ?_⟩⟩
    case mu =>
      refine s.mr.gen (Ex.new hf) (fun j c o h => ?_) (fun j c o h => ?_) (fun a u _ n h => h) fun a h n => ⟨h, fun z => n i false xs e (by rw [z]; exact h1)⟩
      · by_cases z : i = j
        · subst z; rw [List.getElem?_set_self hi] at h; cases h
        · rw [List.getElem?_set_ne z] at h; exact ⟨h, rfl⟩
      · by_cases z : i = j
        · subst z; rw [List.getElem?_set_self hi] at h; cases h
        · rw [List.getElem?_set_ne z] at h; exact ⟨⟨c, o, h⟩, rfl⟩
    · by_cases z : a = l
      · subst z; rw [upd_same] at h; cases h; exact h3
      · rw [upd_ne z] at h; exact s.ex a u h
    · refine ⟨(s.otr a h.1).1, ?_⟩
      rw [upd_ne h.2]; exact (s.otr a h.1).2
    · by_cases z : i = j
      · subst z
        rw [List.getElem?_set_self hi] at h
        cases h
        exact ⟨_, h1, .lst (sq_of upd_same) (h4.mono (Ex.new hf))⟩
      · rw [List.getElem?_set_ne z] at h
        obtain ⟨v, q1, q2⟩ := s.slot j y h
        exact ⟨v, q1, q2.mono (Ex.new hf)⟩
    · by_cases z : i = j
      · subst z
        rw [List.getElem?_set_self hi] at h
        cases h
      · rw [List.getElem?_set_ne z] at h
        obtain ⟨k, ws, b1, b2, b3, b4⟩ := s.own j c zs h
        exact ⟨k, ws, b1, ⟨b2, fun z2 => z (s.dis i j false c xs zs l e h h1 (by rw [← z2]; exact b1))⟩, b3, b4.mono (Ex.new hf)⟩
    · by_cases z : i = j
      · subst z
        rw [List.getElem?_set_self hi] at a1
        cases a1
      · by_cases z2 : i = k
        · subst z2
          rw [List.getElem?_set_self hi] at a2
          cases a2
        · rw [List.getElem?_set_ne z] at a1
          rw [List.getElem?_set_ne z2] at a2
          exact s.dis j k c d x y m a1 a2 a3 a4
    · by_cases z : i = j
      · subst z
        rw [List.getElem?_set_self hi] at h
        cases h
      · rw [List.getElem?_set_ne z] at h
        obtain ⟨v, q1, q2⟩ := s.exc j e' h
        exact ⟨v, q1, q2.mono (Ex.new hf)⟩
    · by_cases z : a = l
      · subst z; exact .inr (.inr h2)
      · rw [upd_ne z] at h; exact .inl h
    · have z : i ≠ j := fun z => by rw [z, q] at e; cases e
      exact ⟨ys, by rw [List.getElem?_set_ne z]; exact q⟩
    · have z : i ≠ j := fun z => by rw [z, q] at e; cases e
      exact ⟨ys, by rw [List.getElem?_set_ne z]; exact q⟩
  · exact ⟨Hf, O, s, Gr.refl, Orl.refl, Kp.refl⟩
def fFrz (i : Nat) (f : Rho → R Fl) : Rho → R Fl := fun ρ => f (frz i ρ)
theorem s_frz (i : Nat) {t : TS} {f : Rho → R Fl} (h : DS Z W t f) : DS Z W t (fFrz i f) := by
  intro Hf H O σ ρ s En p
  obtain ⟨Hf', O', s', g', o', k'⟩ := s.frz i
  exact h Hf' H O' σ _ s' En (PostS.shift p g' o' k'.kq)
/-! ### for -/
def forRun (h : Pd → Rho → Option Rho) (fb : Rho → R Fl) : List Pd → Rho → R Fl
  | [], ρ => .ok .nx ρ
  | x :: xs, ρ => match h x ρ with
    | none => .bad
    | some ρ1 => match fb ρ1 with
      | .ok .nx ρ2 => forRun h fb xs ρ2
      | .ok .ct ρ2 => forRun h fb xs ρ2
      | .ok .bk ρ2 => .ok .nx ρ2
      | r => r
def fFor (fi : Rho → R (List Pd)) (h : Pd → Rho → Option Rho) (fb : Rho → R Fl) : Rho → R Fl := fun ρ => (fi ρ).bind fun xs ρ1 => forRun h fb xs ρ1
theorem s_for {wi : TI} {g : TG} {tb : TS} {js : List Nat} {fi : Rho → R (List Pd)} {h : Pd → Rho → Option Rho} {fb : Rho → R Fl} {wk : Bool} (hi : DI wk Z W wi fi) (hg : DG wk Z.K js g h) (hb : DS Z W tb fb) : DS Z W (tFor wi g tb) (fFor fi h fb) := by
  intro Hf H O σ ρ s En p
  refine DJ.bindS hi s p fun xs ρ1 J Hf1 H1 s1 g1 k1 dlv p1 => ?_
  refine ⟨fun i m σ' H' => m + i = xs.length ∧ ∃ Hf' O' ρ', SR Z.K Hf' H' O' σ' ρ' ∧ Ex Hf1 Hf' ∧ Gr O Hf H Hf' H' ∧ Orl O H O' ∧ Kq ρ ρ' σ σ' ∧ PostS Z W O σ ρ Hf H En (forRun h fb (xs.drop i) ρ'),
    ⟨xs.length, by omega, Hf1, O, ρ1, s1, Ex.refl _, g1, Orl.refl, k1.kq, by simpa using p1⟩, ?_⟩
  rintro i m σ' H' ⟨em, Hf', O', ρ', s', e1, g', o', k', p'⟩
  obtain ⟨d1, d2, d3⟩ := dlv i Hf' H' e1 s'.ex
  by_cases hlt : i < xs.length
  case neg =>
    refine .inl ⟨d2 (by omega), ?_⟩
    rw [List.drop_eq_nil_of_le (by omega)] at p'
    exact p' Hf' H' O' σ' s' g' o' k'
  refine .inr ⟨d1 hlt, fun σ2 H2 => ∃ Hf' O' ρ', SR Z.K Hf' H2 O' σ2 ρ' ∧ Ex Hf1 Hf' ∧ Gr O Hf H Hf' H2 ∧ Orl O H O' ∧ Kq ρ ρ' σ σ2 ∧ PostS Z W O σ ρ Hf H En (forRun h fb (xs.drop (i + 1)) ρ'), fun σ2 H2 q => ⟨m - 1, by omega, by omega, q⟩, fun v H2 hy => ?_⟩
  obtain ⟨Hf2, pg, rv⟩ := d3 v H2 hy _ (List.getElem?_eq_getElem hlt)
  rw [List.drop_eq_getElem_cons hlt] at p'
  simp only [forRun] at p'
  cases eh : h xs[i] ρ' with
  | none => rw [eh] at p'; exact p'.elim
  | some ρ2 =>
    rw [eh] at p'
    simp only at p'
    refine hg Hf2 H2 O' σ' ρ' v _ ρ2 (s'.grow pg) rv eh _ fun σ2 s2 _ _ kq2 => ?_
    refine hb Hf2 H2 O' σ2 ρ2 s2 _ ?_
    have gA : Gr O Hf H Hf2 H2 := g'.transO pg.gr o'
    cases eb : fb ρ2 with
    | bad => rw [eb] at p'; exact p'
    | ex x ρ3 =>
      rw [eb] at p'
      exact fun cls d Hf3 H3 O3 σ3 s3 g3 o3 k3 xr => p' cls d Hf3 H3 O3 σ3 s3 (gA.transO g3 o') (o'.trans o3 gA) (k'.trans (kq2.trans k3)) xr
    | ok fl ρ3 =>
      rw [eb] at p'
      intro Hf3 H3 O3 σ3 s3 g3 o3 k3
      have gB := gA.transO g3 o'
      have oB := o'.trans o3 gA
      have kB := k'.trans (kq2.trans k3)
      cases fl with
      | nx => exact ⟨Hf3, O3, ρ3, s3, e1.trans (pg.ef.trans g3.ex), gB, oB, kB, p'⟩
      | ct => exact ⟨Hf3, O3, ρ3, s3, e1.trans (pg.ef.trans g3.ex), gB, oB, kB, p'⟩
      | bk => exact p' Hf3 H3 O3 σ3 s3 gB oB kB
      | rt x => exact p' Hf3 H3 O3 σ3 s3 gB oB kB
      | rl ys => exact fun l vs h0 h1 h2 h3 h4 => p' Hf3 H3 O3 σ3 s3 gB oB kB l vs (gA.gone h0) h1 h2 h3 h4
      | rm o => exact fun v fp h0 h1 h2 => p' Hf3 H3 O3 σ3 s3 gB oB kB v fp h0 h1 fun a ha => ⟨(h2 a ha).1.imp gA.gone id, (h2 a ha).2⟩
end
end Dt
namespace Dt
open PySem PySem.Spec L2 Evl
variable [WD]
/-- what a def hands back: data, or a new list -/
inductive RV where
  | d (x : Pd)
  | l (xs : List Pd)
  | m (o : Mo)
/-- the lists that were handed in to be changed, as they are behind -/
def outs : Rho → Rho → Rho
  | [], _ => []
  | .own true _ :: as, z :: ρ => z :: outs as ρ
  | a :: as, _ :: ρ => a :: outs as ρ
  | a :: as, [] => a :: as
omit [WD] in
theorem outs_length : ∀ as ρ : Rho, (outs as ρ).length = as.length
  | [], _ => rfl
  | .own true _ :: as, z :: ρ => congrArg Nat.succ (outs_length as ρ)
  | .own false _ :: as, z :: ρ => congrArg Nat.succ (outs_length as ρ)
  | .no :: as, z :: ρ => congrArg Nat.succ (outs_length as ρ)
  | .d _ :: as, z :: ρ => congrArg Nat.succ (outs_length as ρ)
  | .x _ :: as, z :: ρ => congrArg Nat.succ (outs_length as ρ)
  | .m _ _ :: as, z :: ρ => congrArg Nat.succ (outs_length as ρ)
  | .own true _ :: as, [] => rfl
  | .own false _ :: as, [] => rfl
  | .no :: as, [] => rfl
  | .x _ :: as, [] => rfl
  | .m _ _ :: as, [] => rfl
  | .d _ :: as, [] => rfl
omit [WD] in
theorem outs_io : ∀ {as ρ : Rho} {i : Nat} {xs : List Pd} {z : Sl}, as[i]? = some (.own true xs) → ρ[i]? = some z → (outs as ρ)[i]? = some z
  | a :: as, y :: ρ, 0, xs, z, h, g => by
    cases h
    exact g
  | a :: as, y :: ρ, i + 1, xs, z, h, g => by
    have q := outs_io (as := as) (ρ := ρ) (i := i) h g
    cases a with
    | own b _ => cases b <;> exact q
    | no => exact q
    | x _ => exact q
    | m _ _ => exact q
    | d _ => exact q
  | [], _, _, _, _, h, _ => by simp at h
  | _ :: _, [], _, _, _, _, g => by simp at g
omit [WD] in
theorem outs_other : ∀ {as ρ : Rho} {i : Nat}, (∀ xs, as[i]? ≠ some (.own true xs)) → (outs as ρ)[i]? = as[i]?
  | [], _, _, _ => rfl
  | .own true _ :: as, [], i, _ => rfl
  | .own false _ :: as, [], i, _ => rfl
  | .no :: as, [], i, _ => rfl
  | .x _ :: as, [], i, _ => rfl
  | .m _ _ :: as, [], i, _ => rfl
  | .d _ :: as, [], i, _ => rfl
  | a :: as, y :: ρ, 0, h => by
    cases a with
    | own b xs =>
      cases b with
      | true => exact (h xs rfl).elim
      | false => rfl
    | no => rfl
    | x _ => rfl
    | m _ _ => rfl
    | d _ => rfl
  | a :: as, y :: ρ, i + 1, h => by
    have q := outs_other (as := as) (ρ := ρ) (i := i) h
    cases a with
    | own b _ => cases b <;> exact q
    | no => exact q
    | x _ => exact q
    | m _ _ => exact q
    | d _ => exact q
/-- the body's ends as a def's -/
def endF (as : Rho) : R Fl → R RV
  | .ok (.rt x) ρ => .ok (.d x) (outs as ρ)
  | .ok (.rl xs) ρ => .ok (.l xs) (outs as ρ)
  | .ok .nx ρ => .ok (.d .none) (outs as ρ)
  | .ex e ρ => .ex e (outs as ρ)
  | _ => .bad
def gOf (n : Nat) (fb : Rho → R Fl) : Rho → R RV := fun as => endF as (fb (as ++ List.replicate (n - as.length) .no))
structure IoOk (O : Addr → Prop) (σ : L2.St) (as : Rho) : Prop where
  only : ∀ (i : Nat) b xs, as[i]? = some (.own b xs) → b = true
  nom : ∀ (i : Nat) b o, as[i]? ≠ some (.m b o)
  cov : ∀ a, O a → ∃ (i : Nat) (xs : List Pd), as[i]? = some (.own true xs) ∧ σ[i]? = some (some (.ref a))
def PostF (Z : Zx) (O : Addr → Prop) (σ : L2.St) (Hf H : Hp) (Q : VK) (E : XK) : R RV → Prop
  | .bad => False
  | .ok (.d x) as' => ∀ v Hf' H', SR Z.K Hf' H' O σ as' → Gr O Hf H Hf' H' → RD Z.K Hf' v x → Q v H'
  | .ok (.l xs) as' => ∀ v Hf' H', SR Z.K Hf' H' O σ as' → Gr O Hf H Hf' H' → RL Z.K H Hf' H' v xs → Q v H'
  | .ok (.m _) _ => False
  | .ex e as' => ∀ cls d Hf' H', SR Z.K Hf' H' O σ as' → Gr O Hf H Hf' H' → XR Z Hf' H' cls d e → E cls d H'
/-- the promise: with such slots as arguments the def does what g says -/
def spF (Z : Zx) (n : Nat) (g : Rho → R RV) : Sp := fun vs H Q E => vs.length = n ∧ ∃ Hf O as, SR Z.K Hf H O (vs.map some) as ∧ IoOk O (vs.map some) as ∧ PostF Z O (vs.map some) Hf H Q E (g as)
theorem SR.start {K : PySem.W.Frag} {Hf H : Hp} {O : Addr → Prop} {σ : L2.St} {as : Rho} (s : SR K Hf H O σ as) (n m : Nat) (e : n = m) : SR K Hf H O (σ ++ List.replicate n none) (as ++ List.replicate m .no) where
  ex := s.ex
  otr := s.otr
  len := by simp [s.len, e]
  slot := fun i x h => by
    by_cases hi : i < as.length
    · rw [List.getElem?_append_left hi] at h
      rw [List.getElem?_append_left (by rw [s.len]; exact hi)]
      exact s.slot i x h
    · rw [List.getElem?_append_right (by omega), List.getElem?_replicate] at h
      split at h <;> cases h
  own := fun i b x h => by
    by_cases hi : i < as.length
    · rw [List.getElem?_append_left hi] at h
      rw [List.getElem?_append_left (by rw [s.len]; exact hi)]
      exact s.own i b x h
    · rw [List.getElem?_append_right (by omega), List.getElem?_replicate] at h
      split at h <;> cases h
  dis := fun i j b c x y l h1 h2 h3 h4 => by
    by_cases hi : i < as.length
    · by_cases hj : j < as.length
      · rw [List.getElem?_append_left hi] at h1
        rw [List.getElem?_append_left hj] at h2
        rw [List.getElem?_append_left (by rw [s.len]; exact hi)] at h3
        rw [List.getElem?_append_left (by rw [s.len]; exact hj)] at h4
        exact s.dis i j b c x y l h1 h2 h3 h4
      · rw [List.getElem?_append_right (by omega), List.getElem?_replicate] at h2
        split at h2 <;> cases h2
    · rw [List.getElem?_append_right (by omega), List.getElem?_replicate] at h1
      split at h1 <;> cases h1
  exc := fun i e' h => by
    by_cases hi : i < as.length
    · rw [List.getElem?_append_left hi] at h
      rw [List.getElem?_append_left (by rw [s.len]; exact hi)]
      exact s.exc i e' h
    · rw [List.getElem?_append_right (by omega), List.getElem?_replicate] at h
      split at h <;> cases h
  mr := s.mr.slots (fun i b o h => by
    by_cases hi : i < as.length
    · rw [List.getElem?_append_left hi] at h
      rw [List.getElem?_append_left (by rw [s.len]; exact hi)]
      exact ⟨h, rfl⟩
    · rw [List.getElem?_append_right (by omega), List.getElem?_replicate] at h
      split at h <;> cases h) fun i b o h => by
    by_cases hi : i < as.length
    · rw [List.getElem?_append_left hi] at h
      rw [List.getElem?_append_left (by rw [s.len]; exact hi)]
      exact ⟨⟨b, o, h⟩, rfl⟩
    · rw [List.getElem?_append_right (by omega), List.getElem?_replicate] at h
      split at h <;> cases h
/-- the arguments' slots behind the body -/
theorem SR.back {K : PySem.W.Frag} {Hf H Hf' H' : Hp} {O O' : Addr → Prop} {σ σ' : L2.St} {as ρ' : Rho} {n : Nat} (s : SR K Hf H O σ as) (io : IoOk O σ as) (s' : SR K Hf' H' O' σ' ρ') (g : Gr O Hf H Hf' H')
    (k : Kq (as ++ List.replicate n .no) ρ' (σ ++ List.replicate n none) σ') : SR K Hf' H' O σ (outs as ρ') := by
  have at_ : ∀ {i : Nat} {xs : List Pd}, as[i]? = some (.own true xs) → ∃ ys, ρ'[i]? = some (.own true ys) ∧ σ'[i]? = σ[i]? := fun {i xs} h => by
    have hi := (List.getElem?_eq_some_iff.mp h).1
    obtain ⟨⟨ys, q⟩, e⟩ := k.1 i xs (by rw [List.getElem?_append_left hi]; exact h)
    exact ⟨ys, q, by rw [e, List.getElem?_append_left (by rw [s.len]; exact hi)]⟩
  have own_ : ∀ {i : Nat} {b : Bool} {ys : List Pd}, (outs as ρ')[i]? = some (.own b ys) → ∃ xs, as[i]? = some (.own true xs) ∧ ρ'[i]? = some (.own b ys) := fun {i b ys} h => by
    by_cases hx : ∃ xs, as[i]? = some (.own true xs)
    · obtain ⟨xs, hx⟩ := hx
      obtain ⟨zs, q, _⟩ := at_ hx
      rw [outs_io hx q] at h
      cases h
      exact ⟨xs, hx, q⟩
    · rw [outs_other fun xs z => hx ⟨xs, z⟩] at h
      have := io.only i b ys h
      subst this
      exact (hx ⟨_, h⟩).elim
  refine ⟨s'.ex, fun a h => ?_, by rw [outs_length, s.len], fun i x h => ?_, fun i b ys h => ?_, fun i j b c x y l h1 h2 h3 h4 => ?_, fun i e' h => ?_, MR.none fun i b o h => ?_⟩
  · obtain ⟨i, xs, h1, h2⟩ := io.cov a h
    obtain ⟨ys, q1, q2⟩ := at_ h1
    obtain ⟨l, vs, e1, e2, e3, e4⟩ := s'.own i true ys q1
    rw [q2, h2] at e1
    cases e1
    exact s'.otr _ e2
  · by_cases hx : ∃ xs, as[i]? = some (.own true xs)
    · obtain ⟨xs, hx⟩ := hx
      obtain ⟨zs, q, _⟩ := at_ hx
      rw [outs_io hx q] at h
      cases h
    · rw [outs_other fun xs z => hx ⟨xs, z⟩] at h
      obtain ⟨v, q1, q2⟩ := s.slot i x h
      exact ⟨v, q1, q2.mono g.ex⟩
  · obtain ⟨xs, h1, h2⟩ := own_ h
    obtain ⟨zs, q1, q2⟩ := at_ h1
    obtain ⟨l, vs, e1, e2, e3, e4⟩ := s'.own i b ys h2
    obtain ⟨l0, vs0, d1, d2, _⟩ := s.own i true xs h1
    rw [q2, d1] at e1
    cases e1
    exact ⟨l, vs, d1, d2, e3, e4⟩
  · obtain ⟨xs, a1, a2⟩ := own_ h1
    obtain ⟨ys, b1, b2⟩ := own_ h2
    exact s.dis i j true true xs ys l a1 b1 h3 h4
  · by_cases hx : ∃ xs, as[i]? = some (.own true xs)
    · obtain ⟨xs, hx⟩ := hx
      obtain ⟨zs, q, _⟩ := at_ hx
      rw [outs_io hx q] at h
      cases h
    · rw [outs_other fun xs z => hx ⟨xs, z⟩] at h
      obtain ⟨v, q1, q2⟩ := s.exc i e' h
      exact ⟨v, q1, q2.mono g.ex⟩
  · by_cases hx : ∃ xs, as[i]? = some (.own true xs)
    · obtain ⟨xs, hx⟩ := hx
      obtain ⟨zs, q, _⟩ := at_ hx
      rw [outs_io hx q] at h
      cases h
    · rw [outs_other fun xs z => hx ⟨xs, z⟩] at h
      exact io.nom i b o h
section
variable {P : Program} {w : World} {K : PySem.W.Frag} {C : Str → Addr} {mg : Str → Option Value} {base : Heap} {x qual : Str} {params : Arguments} {body : List Stmt} {scope : Scope} {f : Addr} {fd : FuncData}
theorem fn_ok {N ps : List Str} {k : Nat} {fb : Rho → R Fl} (F : FunD K x qual params body scope [] [] f fd) (S : FnScope N ps scope)
    (hb : ∀ (cdv : Value) (A : Around) (outer : List Env) (s : Shared) (H : Hp) (E : XK), Room k (A.deeper (PyProof.Rows.envOfC qual scope s.heap.objs.size f cdv)) →
      Takes (cxOf (L2.CX P w) P w K mg base N qual scope f cdv A outer s H E) (fun cls d _ H => E cls d H) →
      PassesOwn (model P w) (A.deeper (PyProof.Rows.envOfC qual scope s.heap.objs.size f cdv)) (PyProof.Rows.envOfC qual scope s.heap.objs.size f cdv) (cxOf (L2.CX P w) P w K mg base N qual scope f cdv A outer s H E).xe →
      ∃ t, PSs (cxOf (L2.CX P w) P w K mg base N qual scope f cdv A outer s H E) body t ∧ DS ⟨K, C⟩ (fun cls d _ H => E cls d H) t fb) :
    FnOk P w K mg base (L2.CX P w) (k + 1) f fd ps (spF ⟨K, C⟩ ps.length (gOf N.length fb)) := by
  refine F.ok S (fun vs H Q E h => h.1) (fun cdv A outer s H vs Q E hr h => ?_)
  obtain ⟨hl, Hf, O, as, s0, io, p⟩ := h
  obtain ⟨t, h1, h2⟩ := hb cdv A outer s H E hr (takes_of rfl rfl rfl rfl) (passes_of (X := cxOf (L2.CX P w) P w K mg base N qual scope f cdv A outer s H E) rfl)
  refine ⟨t, h1, ?_⟩
  have hal : as.length = vs.length := by rw [← s0.len, List.length_map]
  have st : SR K Hf H O (L2.start N vs) (as ++ List.replicate (N.length - as.length) .no) := s0.start _ _ (by rw [hal])
  refine h2 Hf H O (L2.start N vs) _ st _ ?_
  unfold gOf at p
  have bk : ∀ {Hf' H' O' σ' ρ'}, SR K Hf' H' O' σ' ρ' → Gr O Hf H Hf' H' → Kq (as ++ List.replicate (N.length - as.length) .no) ρ' (L2.start N vs) σ' → SR K Hf' H' O (vs.map some) (outs as ρ') := fun {Hf' H' O' σ' ρ'} s' g' k' => s0.back io s' g' (n := N.length - as.length) (by
    unfold L2.start at k'
    rw [← hal] at k'
    exact k')
  cases e : fb (as ++ List.replicate (N.length - as.length) .no) with
  | bad => rw [e] at p; exact p
  | ex y ρ' =>
    rw [e] at p
    exact fun cls d Hf' H' O' σ' s' g' o' k' xr => p cls d Hf' H' (bk s' g' k') g' xr
  | ok fl ρ' =>
    rw [e] at p
    intro Hf' H' O' σ' s' g' o' k'
    cases fl with
    | nx => exact p .non Hf' H' (bk s' g' k') g' .non
    | bk => exact p.elim
    | ct => exact p.elim
    | rt y => exact fun v rv => p v Hf' H' (bk s' g' k') g' rv
    | rl ys => exact fun l vs h0 h1 h2 h3 h4 => p _ Hf' H' (bk s' g' k') g' ⟨l, vs, rfl, h0, h1, h2, h4⟩
    | rm o => exact p.elim
end
/-! ### calls -/
section
variable {Z : Zx} {W : WX}
theorem RDs.args {K : PySem.W.Frag} {Hf H : Hp} {vs : List V} {xs : List Pd} (r : RDs K Hf vs xs) (e : Ex Hf H) : SR K Hf H (fun _ => False) (vs.map some) (xs.map Sl.d) where
  ex := e
  otr := fun a h => h.elim
  len := by simp [r.length]
  slot := fun i x h => by
    rw [List.getElem?_map] at h
    cases q : xs[i]? with
    | none => rw [q] at h; cases h
    | some y =>
      rw [q] at h
      cases h
      obtain ⟨v, h1, h2⟩ := r.get q
      exact ⟨v, by rw [List.getElem?_map, h1]; rfl, h2⟩
  own := fun i b x h => by
    rw [List.getElem?_map] at h
    cases q : xs[i]? <;> rw [q] at h <;> cases h
  dis := fun i j b c x y l h1 => by
    rw [List.getElem?_map] at h1
    cases q : xs[i]? <;> rw [q] at h1 <;> cases h1
  exc := fun i e' h => by
    rw [List.getElem?_map] at h
    cases q : xs[i]? <;> rw [q] at h <;> cases h
  mr := MR.none fun i b o h => by
    rw [List.getElem?_map] at h
    cases q : xs[i]? <;> rw [q] at h <;> cases h
omit [WD] in
theorem ioArgs {xs : List Pd} {σ : L2.St} : IoOk (fun _ => False) σ (xs.map Sl.d) where
  only := fun i b x h => by
    rw [List.getElem?_map] at h
    cases q : xs[i]? <;> rw [q] at h <;> cases h
  nom := fun i b o h => by
    rw [List.getElem?_map] at h
    cases q : xs[i]? <;> rw [q] at h <;> cases h
  cov := fun a h => h.elim
theorem Gr.pg {Hf H Hf' H' : Hp} (g : Gr (fun _ => False) Hf H Hf' H') (e : Ex Hf' H') : Pg Hf H Hf' H' :=
  ⟨g.ex, fun a o h => g.fm a o h fun z => z, e, fun a o h => by rcases g.nw a o h with z | z | z; exact .inl z; exact .inr z; exact z.elim⟩
/-- the arguments as data -/
def argsD (n : Nat) (as : List AV) : Option (List Pd) := match datas as with
  | some xs => if xs.length = n then some xs else none
  | none => none
theorem argsD_ok {K : PySem.W.Frag} {Hf : Hp} {σ : L2.St} {n : Nat} {vs : List V} {as : List AV} {xs : List Pd} (h : RAs K Hf σ vs as) (e : argsD n as = some xs) : RDs K Hf vs xs ∧ vs.length = n := by
  unfold argsD at e
  cases q : datas as with
  | none => rw [q] at e; cases e
  | some ys =>
    rw [q] at e
    simp only at e
    split at e
    · rename_i hn
      cases e
      have r := datas_ok h q
      exact ⟨r, r.length.trans hn⟩
    · cases e
/-- f(e, ..), all arguments data; what comes is data -/
def kCall (g : Rho → R RV) (o : Option (List Pd)) (ρ1 : Rho) : R AV := match o with
  | some xs => match g (xs.map Sl.d) with
    | .ok (.d x) _ => .ok (.d x) ρ1
    | .ex e _ => .ex e ρ1
    | _ => .bad
  | none => .bad
def fCall (n : Nat) (g : Rho → R RV) (fa : Rho → R (List AV)) : Rho → R AV := fun ρ => (fa ρ).bind fun as ρ1 => kCall g (argsD n as) ρ1
theorem d_call {n : Nat} {g : Rho → R RV} {t : TA} {fa : Rho → R (List AV)} (ha : DA Z W t fa) : DE Z W (tCallS (spF Z n g) (WE W) t) (fCall n g fa) := by
  intro Hf H O σ ρ s Q p
  refine ha.bind s p fun as ρ1 vs Hf1 H1 s1 g1 k1 rs p1 => ?_
  unfold kCall at p1
  cases ed : argsD n as with
  | none => rw [ed] at p1; exact p1.elim
  | some xs =>
    rw [ed] at p1
    simp only at p1
    obtain ⟨r, hl⟩ := argsD_ok rs ed
    refine ⟨hl, Hf1, fun _ => False, xs.map Sl.d, r.args s1.ex, ioArgs, ?_⟩
    cases eg : g (xs.map Sl.d) with
    | bad => rw [eg] at p1; exact p1.elim
    | ex y as' =>
      rw [eg] at p1
      intro cls d Hf' H' s' g' xr
      have pg := g'.pg s'.ex
      exact p1 cls d Hf' H' (s1.grow pg) pg.gr Kp.refl xr
    | ok rv as' =>
      rw [eg] at p1
      cases rv with
      | l ys => exact p1.elim
      | m ys => exact p1.elim
      | d y =>
        intro v Hf' H' s' g' rd
        have pg := g'.pg s'.ex
        exact p1 Hf' H' (s1.grow pg) pg.gr Kp.refl v rd
/-- .. a new list -/
def kCallL (g : Rho → R RV) (o : Option (List Pd)) (ρ1 : Rho) : R (List Pd) := match o with
  | some xs => match g (xs.map Sl.d) with
    | .ok (.l x) _ => .ok x ρ1
    | .ex e _ => .ex e ρ1
    | _ => .bad
  | none => .bad
def fCallL (n : Nat) (g : Rho → R RV) (fa : Rho → R (List AV)) : Rho → R (List Pd) := fun ρ => (fa ρ).bind fun as ρ1 => kCallL g (argsD n as) ρ1
theorem l_call {n : Nat} {g : Rho → R RV} {t : TA} {fa : Rho → R (List AV)} (ha : DA Z W t fa) : DL Z W (tCallS (spF Z n g) (WE W) t) (fCallL n g fa) := by
  intro Hf H O σ ρ s Q p
  refine ha.bind s p fun as ρ1 vs Hf1 H1 s1 g1 k1 rs p1 => ?_
  unfold kCallL at p1
  cases ed : argsD n as with
  | none => rw [ed] at p1; exact p1.elim
  | some xs =>
    rw [ed] at p1
    simp only at p1
    obtain ⟨r, hl⟩ := argsD_ok rs ed
    refine ⟨hl, Hf1, fun _ => False, xs.map Sl.d, r.args s1.ex, ioArgs, ?_⟩
    cases eg : g (xs.map Sl.d) with
    | bad => rw [eg] at p1; exact p1.elim
    | ex y as' =>
      rw [eg] at p1
      intro cls d Hf' H' s' g' xr
      have pg := g'.pg s'.ex
      exact p1 cls d Hf' H' (s1.grow pg) pg.gr Kp.refl xr
    | ok rv as' =>
      rw [eg] at p1
      cases rv with
      | d y => exact p1.elim
      | m ys => exact p1.elim
      | l ys =>
        intro v Hf' H' s' g' rd
        have pg := g'.pg s'.ex
        obtain ⟨l, us, rfl, h0, h1, h2, h3⟩ := rd
        exact p1 Hf' H' (s1.grow pg) pg.gr Kp.refl _ ⟨l, us, rfl, g1.gone h0, h1, h2, h3⟩
/-- the slots of a call that changes the list of the slot i: that list, then data -/
theorem SR.argsP {K : PySem.W.Frag} {Hf H : Hp} {O : Addr → Prop} {σ : L2.St} {ρ : Rho} (s : SR K Hf H O σ ρ) {i : Nat} {b : Bool} {ps : List Pd} (e : ρ[i]? = some (.own b ps)) {l : Addr} (hl : σ[i]? = some (some (.ref l))) {vs : List V} {xs : List Pd} (r : RDs K Hf vs xs) :
    SR K Hf H (fun a => a = l) ((V.ref l :: vs).map some) (.own true ps :: xs.map Sl.d) := by
  obtain ⟨l', us, h1, h2, h3, h4⟩ := s.own i b ps e
  rw [hl] at h1
  cases h1
  have ra := r.args s.ex
  refine ⟨s.ex, fun a h => ?_, by simp [r.length], fun j x h => ?_, fun j c x h => ?_, fun j k c d x y m a1 a2 _ _ => ?_, fun j e' h => ?_, MR.none fun j c o h => ?mu⟩
  case mu =>
    cases j with
    | zero => cases h
    | succ j =>
      have h : (xs.map Sl.d)[j]? = some (.m c o) := h
      rw [List.getElem?_map] at h
      cases q : xs[j]? <;> rw [q] at h <;> cases h
  · subst h
    exact ⟨⟨_, h3⟩, (s.otr _ h2).2⟩
  · cases j with
    | zero => cases h
    | succ j => exact ra.slot j x h
  · cases j with
    | zero => cases h; exact ⟨l, us, rfl, rfl, h3, h4⟩
    | succ j => obtain ⟨_, _, _, z, _⟩ := ra.own j c x h; exact z.elim
  · cases j with
    | succ j => obtain ⟨_, _, _, z, _⟩ := ra.own j c x a1; exact z.elim
    | zero =>
      cases k with
      | zero => rfl
      | succ k => obtain ⟨_, _, _, z, _⟩ := ra.own k d y a2; exact z.elim
  · cases j with
    | zero => cases h
    | succ j => exact ra.exc j e' h
theorem ioArgsP {ps xs : List Pd} {l : Addr} {vs : List V} : IoOk (fun a => a = l) ((V.ref l :: vs).map some) (.own true ps :: xs.map Sl.d) where
  only := fun i b x h => by
    cases i with
    | zero => cases h; rfl
    | succ i =>
      have h : (xs.map Sl.d)[i]? = some (.own b x) := h
      rw [List.getElem?_map] at h
      cases q : xs[i]? <;> rw [q] at h <;> cases h
  nom := fun i b o h => by
    cases i with
    | zero => cases h
    | succ i =>
      have h : (xs.map Sl.d)[i]? = some (.m b o) := h
      rw [List.getElem?_map] at h
      cases q : xs[i]? <;> rw [q] at h <;> cases h
  cov := fun a h => ⟨0, ps, rfl, by rw [h]; rfl⟩
/-- the caller's state behind such a call -/
theorem SR.backP {K : PySem.W.Frag} {Hf H Hf' H' : Hp} {O : Addr → Prop} {σ : L2.St} {ρ : Rho} (s : SR K Hf H O σ ρ) {i : Nat} {b : Bool} {ps : List Pd} (e : ρ[i]? = some (.own b ps)) {l : Addr} (hl : σ[i]? = some (some (.ref l))) {vs : List V} {c : Bool} {ps' : List Pd} {as' : Rho}
    (s' : SR K Hf' H' (fun a => a = l) ((V.ref l :: vs).map some) (.own c ps' :: as')) (g : Gr (fun a => a = l) Hf H Hf' H') : SR K Hf' H' O σ (ρ.set i (.own b ps')) ∧ Gr O Hf H Hf' H' := by
  obtain ⟨l', us, h1, h2, h3, h4⟩ := s.own i b ps e
  rw [hl] at h1
  cases h1
  have hi := (List.getElem?_eq_some_iff.mp e).1
  obtain ⟨l1, us1, q1, q2, q3, q4⟩ := s'.own 0 c ps' rfl
  subst q2
  have fl := (s'.otr l1 rfl).2
  have other : ∀ a, a ≠ l1 → O a → Hf' a = none := fun a ha hO => by
    cases e1 : Hf' a with
    | none => rfl
    | some u =>
      obtain ⟨⟨o, t1⟩, t2⟩ := s.otr a hO
      rcases g.nw a u e1 with z | z | z
      · rw [t2] at z; cases z
      · rw [t1] at z; cases z
      · exact (ha z).elim
  refine ⟨⟨s'.ex, fun a h => ?_, by simp [s.len], fun j x h => ?_, fun j d x h => ?_, fun j k d d' x y m a1 a2 a3 a4 => ?_, fun j e' h => ?_, s.mr.gen g.ex (fun j c o h => ?mu1) (fun j c o h => ?mu2) (fun a u _ n h => g.fm a u h fun z => n i b ps e (by rw [z]; exact hl)) fun _ h _ => h⟩, ⟨g.ex, fun a o h n => g.fm a o h fun z => n (by rw [z]; exact h2), g.tr, fun a o h => ?_⟩⟩
  case mu1 =>
    by_cases z : i = j
    · subst z; rw [List.getElem?_set_self hi] at h; cases h
    · rw [List.getElem?_set_ne z] at h; exact ⟨h, rfl⟩
  case mu2 =>
    by_cases z : i = j
    · subst z; exact ⟨⟨b, ps, e⟩, rfl⟩
    · rw [List.getElem?_set_ne z] at h; exact ⟨⟨c, o, h⟩, rfl⟩
  · obtain ⟨⟨o, t1⟩, t2⟩ := s.otr a h
    refine ⟨g.tr a o t1, ?_⟩
    by_cases z : a = l1
    · rw [z]; exact fl
    · exact other a z h
  · by_cases z : i = j
    · subst z
      rw [List.getElem?_set_self hi] at h
      cases h
    · rw [List.getElem?_set_ne z] at h
      obtain ⟨v, t1, t2⟩ := s.slot j x h
      exact ⟨v, t1, t2.mono g.ex⟩
  · by_cases z : i = j
    · subst z
      rw [List.getElem?_set_self hi] at h
      cases h
      exact ⟨l1, us1, hl, h2, q3, q4⟩
    · rw [List.getElem?_set_ne z] at h
      obtain ⟨k, ws, b1, b2, b3, b4⟩ := s.own j d x h
      have z2 : k ≠ l1 := fun z2 => z (s.dis i j b d ps x l1 e h hl (by rw [← z2]; exact b1))
      exact ⟨k, ws, b1, b2, g.fm _ _ b3 z2, b4.mono g.ex⟩
  · have back : ∀ {j : Nat} {d x}, (ρ.set i (.own b ps'))[j]? = some (.own d x) → ∃ d x, ρ[j]? = some (.own d x) := fun {j d x} q => by
      by_cases z : i = j
      · subst z; exact ⟨b, ps, e⟩
      · rw [List.getElem?_set_ne z] at q; exact ⟨d, x, q⟩
    obtain ⟨c1, x1, a1⟩ := back a1
    obtain ⟨c2, x2, a2⟩ := back a2
    exact s.dis j k c1 c2 x1 x2 m a1 a2 a3 a4
  · by_cases z : i = j
    · subst z
      rw [List.getElem?_set_self hi] at h
      cases h
    · rw [List.getElem?_set_ne z] at h
      obtain ⟨v, t1, t2⟩ := s.exc j e' h
      exact ⟨v, t1, t2.mono g.ex⟩
  · rcases g.nw a o h with z | z | z
    · exact .inl z
    · exact .inr (.inl z)
    · exact .inr (.inr (by rw [z]; exact h2))
/-- f(x, e, ..): the list of the slot i is changed, the other arguments are data -/
def kCallP (i : Nat) (g : Rho → R RV) (o : Option (List Pd)) (ρ1 : Rho) : R AV := match o, ρ1[i]? with
  | some xs, some (.own b ps) => match g (.own true ps :: xs.map Sl.d) with
    | .ok (.d x) (.own _ ps' :: _) => .ok (.d x) (ρ1.set i (.own b ps'))
    | .ex e (.own _ ps' :: _) => .ex e (ρ1.set i (.own b ps'))
    | _ => .bad
  | _, _ => .bad
def fCallP (n i : Nat) (g : Rho → R RV) (fa : Rho → R (List AV)) : Rho → R AV := fun ρ => match ρ[i]? with
  | some (.own _ _) => (fa ρ).bind fun as ρ1 => kCallP i g (argsD n as) ρ1
  | _ => .bad
theorem d_callP {n i : Nat} {g : Rho → R RV} {t : TA} {fa : Rho → R (List AV)} (ha : DA Z W t fa) : DE Z W (tCallS (spF Z (n + 1) g) (WE W) (tCons (tVar i) t)) (fCallP n i g fa) := by
  intro Hf H O σ ρ s Q p
  unfold fCallP at p
  cases e0 : ρ[i]? with
  | none => rw [e0] at p; exact p.elim
  | some z0 =>
    rw [e0] at p
    cases z0 with
    | no => exact p.elim
    | x _ => exact p.elim
    | m _ _ => exact p.elim
    | d y => exact p.elim
    | own b0 ps0 =>
      simp only at p
      obtain ⟨l, vs0, h1, h2, h3, h4⟩ := s.own i b0 ps0 e0
      refine ⟨.ref l, h1, ?_⟩
      refine ha.bind s p fun as ρ1 vs Hf1 H1 s1 g1 k1 rs p1 => ?_
      unfold kCallP at p1
      cases ed : argsD n as with
      | none => rw [ed] at p1; exact p1.elim
      | some xs =>
        cases e1 : ρ1[i]? with
        | none => rw [ed, e1] at p1; exact p1.elim
        | some z1 =>
          rw [ed, e1] at p1
          cases z1 with
          | no => exact p1.elim
          | x _ => exact p1.elim
          | m _ _ => exact p1.elim
          | d y => exact p1.elim
          | own b ps =>
            simp only at p1
            obtain ⟨r, hl⟩ := argsD_ok rs ed
            refine ⟨congrArg Nat.succ hl, Hf1, fun a => a = l, .own true ps :: xs.map Sl.d, s1.argsP e1 h1 r, ioArgsP, ?_⟩
            cases eg : g (.own true ps :: xs.map Sl.d) with
            | bad => rw [eg] at p1; exact p1.elim
            | ex y as' =>
              rw [eg] at p1
              match as', p1 with
              | [], p1 => exact p1.elim
              | .no :: _, p1 => exact p1.elim
              | .d _ :: _, p1 => exact p1.elim
              | .own c ps' :: as'', p1 =>
                intro cls d Hf' H' s' g' xr
                obtain ⟨sb, gb⟩ := s1.backP e1 h1 s' g'
                exact p1 cls d Hf' H' sb gb (kp_chg e1) xr
            | ok rv as' =>
              rw [eg] at p1
              cases rv with
              | l ys => exact p1.elim
              | m ys => exact p1.elim
              | d y =>
                match as', p1 with
                | [], p1 => exact p1.elim
                | .no :: _, p1 => exact p1.elim
                | .d _ :: _, p1 => exact p1.elim
                | .own c ps' :: as'', p1 =>
                  intro v Hf' H' s' g' rd
                  obtain ⟨sb, gb⟩ := s1.backP e1 h1 s' g'
                  exact p1 Hf' H' sb gb (kp_chg e1) v rd
/-- .. a new list -/
def kCallPL (i : Nat) (g : Rho → R RV) (o : Option (List Pd)) (ρ1 : Rho) : R (List Pd) := match o, ρ1[i]? with
  | some xs, some (.own b ps) => match g (.own true ps :: xs.map Sl.d) with
    | .ok (.l x) (.own _ ps' :: _) => .ok x (ρ1.set i (.own b ps'))
    | .ex e (.own _ ps' :: _) => .ex e (ρ1.set i (.own b ps'))
    | _ => .bad
  | _, _ => .bad
def fCallPL (n i : Nat) (g : Rho → R RV) (fa : Rho → R (List AV)) : Rho → R (List Pd) := fun ρ => match ρ[i]? with
  | some (.own _ _) => (fa ρ).bind fun as ρ1 => kCallPL i g (argsD n as) ρ1
  | _ => .bad
theorem l_callP {n i : Nat} {g : Rho → R RV} {t : TA} {fa : Rho → R (List AV)} (ha : DA Z W t fa) : DL Z W (tCallS (spF Z (n + 1) g) (WE W) (tCons (tVar i) t)) (fCallPL n i g fa) := by
  intro Hf H O σ ρ s Q p
  unfold fCallPL at p
  cases e0 : ρ[i]? with
  | none => rw [e0] at p; exact p.elim
  | some z0 =>
    rw [e0] at p
    cases z0 with
    | no => exact p.elim
    | x _ => exact p.elim
    | m _ _ => exact p.elim
    | d y => exact p.elim
    | own b0 ps0 =>
      simp only at p
      obtain ⟨l, vs0, h1, h2, h3, h4⟩ := s.own i b0 ps0 e0
      refine ⟨.ref l, h1, ?_⟩
      refine ha.bind s p fun as ρ1 vs Hf1 H1 s1 g1 k1 rs p1 => ?_
      unfold kCallPL at p1
      cases ed : argsD n as with
      | none => rw [ed] at p1; exact p1.elim
      | some xs =>
        cases e1 : ρ1[i]? with
        | none => rw [ed, e1] at p1; exact p1.elim
        | some z1 =>
          rw [ed, e1] at p1
          cases z1 with
          | no => exact p1.elim
          | x _ => exact p1.elim
          | m _ _ => exact p1.elim
          | d y => exact p1.elim
          | own b ps =>
            simp only at p1
            obtain ⟨r, hl⟩ := argsD_ok rs ed
            refine ⟨congrArg Nat.succ hl, Hf1, fun a => a = l, .own true ps :: xs.map Sl.d, s1.argsP e1 h1 r, ioArgsP, ?_⟩
            cases eg : g (.own true ps :: xs.map Sl.d) with
            | bad => rw [eg] at p1; exact p1.elim
            | ex y as' =>
              rw [eg] at p1
              match as', p1 with
              | [], p1 => exact p1.elim
              | .no :: _, p1 => exact p1.elim
              | .d _ :: _, p1 => exact p1.elim
              | .own c ps' :: as'', p1 =>
                intro cls d Hf' H' s' g' xr
                obtain ⟨sb, gb⟩ := s1.backP e1 h1 s' g'
                exact p1 cls d Hf' H' sb gb (kp_chg e1) xr
            | ok rv as' =>
              rw [eg] at p1
              cases rv with
              | d y => exact p1.elim
              | m ys => exact p1.elim
              | l ys =>
                match as', p1 with
                | [], p1 => exact p1.elim
                | .no :: _, p1 => exact p1.elim
                | .d _ :: _, p1 => exact p1.elim
                | .own c ps' :: as'', p1 =>
                  intro v Hf' H' s' g' rd
                  obtain ⟨sb, gb⟩ := s1.backP e1 h1 s' g'
                  obtain ⟨m, us, rfl, m0, m1, m2, m3⟩ := rd
                  exact p1 Hf' H' sb gb (kp_chg e1) _ ⟨m, us, rfl, g1.gone m0, m1, m2, m3⟩
end
end Dt
/-! A call that changes a list handed in at any place: f(e, .., x, e, ..). -/
namespace Dt
open PySem PySem.Spec L2 Evl
variable [WD]
/-- the arguments: data, the slot i's list once, data -/
def argsQ (i : Nat) : List AV → Option (List Pd × List Pd)
  | [] => none
  | .d x :: as => match argsQ i as with
    | some q => some (x :: q.1, q.2)
    | none => none
  | .sl j :: as => if j = i then (match datas as with
    | some ws => some ([], ws)
    | none => none) else none
theorem argsQ_ok {K : PySem.W.Frag} {Hf : Hp} {σ : L2.St} {i : Nat} {l : Addr} (hl : σ[i]? = some (some (.ref l))) : ∀ {vs : List V} {as : List AV} {us ws : List Pd}, RAs K Hf σ vs as → argsQ i as = some (us, ws) →
    ∃ vu vw, vs = vu ++ V.ref l :: vw ∧ RDs K Hf vu us ∧ RDs K Hf vw ws
  | _, _, us, ws, .nil, e => by cases e
  | _, _, us, ws, .cons (v := v) (vs := vs) (a := a) (as := as) h hs, e => by
    cases a with
    | d x =>
      unfold argsQ at e
      cases q : argsQ i as with
      | none => rw [q] at e; cases e
      | some z =>
        rw [q] at e
        cases e
        obtain ⟨vu, vw, e1, e2, e3⟩ := argsQ_ok hl (us := z.1) (ws := z.2) hs q
        exact ⟨v :: vu, vw, by rw [e1]; rfl, .cons h e2, e3⟩
    | sl j =>
      unfold argsQ at e
      by_cases z : j = i
      · rw [if_pos z] at e
        cases q : datas as with
        | none => rw [q] at e; cases e
        | some zs =>
          rw [q] at e
          cases e
          have h : σ[j]? = some (some v) := h
          rw [z, hl] at h
          cases h
          exact ⟨[], vs, rfl, .nil, datas_ok hs q⟩
      · rw [if_neg z] at e; cases e
omit [WD] in
theorem midD {us ws : List Pd} {ps : List Pd} {j : Nat} {z : Sl} (h : (us.map Sl.d ++ .own true ps :: ws.map Sl.d)[j]? = some z) : (j = us.length ∧ z = .own true ps) ∨ (j ≠ us.length ∧ ∃ x, z = .d x) := by
  by_cases h1 : j < us.length
  · rw [List.getElem?_append_left (by simpa using h1), List.getElem?_map] at h
    cases q : us[j]? with
    | none => rw [q] at h; cases h
    | some x => rw [q] at h; cases h; exact .inr ⟨by omega, x, rfl⟩
  · rw [List.getElem?_append_right (by simpa using h1)] at h
    simp only [List.length_map] at h
    cases e : j - us.length with
    | zero => rw [e] at h; cases h; exact .inl ⟨by omega, rfl⟩
    | succ k =>
      rw [e] at h
      have h : (ws.map Sl.d)[k]? = some z := h
      rw [List.getElem?_map] at h
      cases q : ws[k]? with
      | none => rw [q] at h; cases h
      | some x => rw [q] at h; cases h; exact .inr ⟨by omega, x, rfl⟩
theorem midR {K : PySem.W.Frag} {Hf : Hp} : ∀ {us ws : List Pd} {vu vw : List V} {l : Addr} {ps : List Pd} (_ : RDs K Hf vu us) (_ : RDs K Hf vw ws) {j : Nat} {x : Pd}, (us.map Sl.d ++ .own true ps :: ws.map Sl.d)[j]? = some (.d x) → ∃ v, ((vu ++ V.ref l :: vw).map some)[j]? = some (some v) ∧ RD K Hf v x
  | [], ws, _, vw, l, ps, .nil, r, 0, x, h => by cases h
  | [], ws, _, vw, l, ps, .nil, r, j + 1, x, h => by
    have ra := r.args (H := Hf) (K := K) (Ex.refl Hf)
    exact ra.slot j x h
  | u :: us, ws, _, vw, l, ps, .cons (v := v) a b, r, 0, x, h => by cases h; exact ⟨v, rfl, a⟩
  | u :: us, ws, _, vw, l, ps, .cons (v := v) a b, r, j + 1, x, h => midR (us := us) (l := l) (ps := ps) b r (j := j) (x := x) h
theorem SR.argsQ {K : PySem.W.Frag} {Hf H : Hp} {O : Addr → Prop} {σ : L2.St} {ρ : Rho} (s : SR K Hf H O σ ρ) {i : Nat} {b : Bool} {ps : List Pd} (e : ρ[i]? = some (.own b ps)) {l : Addr} (hl : σ[i]? = some (some (.ref l))) {vu vw : List V} {us ws : List Pd} (ru : RDs K Hf vu us) (rw' : RDs K Hf vw ws) :
    SR K Hf H (fun a => a = l) ((vu ++ V.ref l :: vw).map some) (us.map Sl.d ++ .own true ps :: ws.map Sl.d) := by
  obtain ⟨l', us', h1, h2, h3, h4⟩ := s.own i b ps e
  rw [hl] at h1
  cases h1
  have at_ : ((vu ++ V.ref l :: vw).map some)[us.length]? = some (some (.ref l)) := by
    rw [← ru.length]; simp
  refine ⟨s.ex, fun a h => ?_, by simp [ru.length, rw'.length], fun j x h => midR ru rw' h, fun j c x h => ?_, fun j k c d x y m a1 a2 _ _ => ?_, fun j e' h => ?_, MR.none fun j c o h => ?_⟩
  · subst h
    exact ⟨⟨_, h3⟩, (s.otr _ h2).2⟩
  · rcases midD h with ⟨z1, z2⟩ | ⟨_, y, z2⟩
    · cases z2; rw [z1]; exact ⟨l, us', at_, rfl, h3, h4⟩
    · cases z2
  · rcases midD a1 with ⟨z1, z2⟩ | ⟨_, w, z2⟩
    · rcases midD a2 with ⟨z3, z4⟩ | ⟨_, w, z4⟩
      · rw [z1, z3]
      · cases z4
    · cases z2
  · rcases midD h with ⟨z1, z2⟩ | ⟨_, y, z2⟩ <;> cases z2
  · rcases midD h with ⟨z1, z2⟩ | ⟨_, y, z2⟩ <;> cases z2
omit [WD] in
theorem ioArgsQ {us ws ps : List Pd} {l : Addr} {vu vw : List V} (e : vu.length = us.length) : IoOk (fun a => a = l) ((vu ++ V.ref l :: vw).map some) (us.map Sl.d ++ .own true ps :: ws.map Sl.d) where
  only := fun i b x h => by
    rcases midD h with ⟨z1, z2⟩ | ⟨_, y, z2⟩
    · cases z2; rfl
    · cases z2
  nom := fun i b o h => by rcases midD h with ⟨z1, z2⟩ | ⟨_, y, z2⟩ <;> cases z2
  cov := fun a h => ⟨us.length, ps, by simp, by rw [h, ← e]; simp⟩
theorem SR.one {K : PySem.W.Frag} {Hf H : Hp} {l : Addr} {τ : L2.St} {as : Rho} (s : SR K Hf H (fun a => a = l) τ as) {p : Nat} (h : τ[p]? = some (some (.ref l))) {c : Bool} {ps : List Pd} (e : as[p]? = some (.own c ps)) :
    SR K Hf H (fun a => a = l) ((V.ref l :: []).map some) (.own c ps :: []) := by
  obtain ⟨l', us', h1, h2, h3, h4⟩ := s.own p c ps e
  rw [h] at h1
  cases h1
  refine ⟨s.ex, s.otr, rfl, fun j x h => ?_, fun j c x h => ?_, fun j k c d x y m a1 a2 _ _ => ?_, fun j e' h => ?_, MR.none fun j c o h => ?_⟩
  · cases j with
    | zero => cases h
    | succ j => cases h
  · cases j with
    | zero => cases h; exact ⟨l, us', rfl, rfl, h3, h4⟩
    | succ j => cases h
  · cases j with
    | zero =>
      cases k with
      | zero => rfl
      | succ k => cases a2
    | succ j => cases a1
  · cases j with
    | zero => cases h
    | succ j => cases h
  · cases j with
    | zero => cases h
    | succ j => cases h
def kCallQ (n p i : Nat) (g : Rho → R RV) (o : Option (List Pd × List Pd)) (ρ1 : Rho) : R AV := match o, ρ1[i]? with
  | some (us, ws), some (.own b ps) => if us.length = p ∧ us.length + 1 + ws.length = n then (match g (us.map Sl.d ++ .own true ps :: ws.map Sl.d) with
    | .ok (.d x) as' => (match as'[p]? with
      | some (.own _ ps') => .ok (.d x) (ρ1.set i (.own b ps'))
      | _ => .bad)
    | .ex e as' => (match as'[p]? with
      | some (.own _ ps') => .ex e (ρ1.set i (.own b ps'))
      | _ => .bad)
    | _ => .bad) else .bad
  | _, _ => .bad
def fCallQ (n p i : Nat) (g : Rho → R RV) (fa : Rho → R (List AV)) : Rho → R AV := fun ρ => (fa ρ).bind fun as ρ1 => kCallQ n p i g (argsQ i as) ρ1
section
variable {Z : Zx} {W : WX}
theorem d_callQ {n p i : Nat} {g : Rho → R RV} {t : TA} {fa : Rho → R (List AV)} (ha : DA Z W t fa) : DE Z W (tCallS (spF Z n g) (WE W) t) (fCallQ n p i g fa) := by
  intro Hf H O σ ρ s Q pq
  refine ha.bind s pq fun as ρ1 vs Hf1 H1 s1 g1 k1 rs p1 => ?_
  unfold kCallQ at p1
  cases ed : argsQ i as with
  | none => rw [ed] at p1; exact p1.elim
  | some q =>
    obtain ⟨us, ws⟩ := q
    cases e1 : ρ1[i]? with
    | none => rw [ed, e1] at p1; exact p1.elim
    | some z1 =>
      rw [ed, e1] at p1
      cases z1 with
      | no => exact p1.elim
      | x _ => exact p1.elim
      | m _ _ => exact p1.elim
      | d y => exact p1.elim
      | own b ps =>
        simp only at p1
        obtain ⟨l, vs0, h1, h2, h3, h4⟩ := s1.own i b ps e1
        by_cases hn : us.length = p ∧ us.length + 1 + ws.length = n
        · rw [if_pos hn] at p1
          obtain ⟨vu, vw, ev, ru, rw'⟩ := argsQ_ok h1 rs ed
          subst ev
          obtain ⟨hp, hl⟩ := hn
          have at_ : ((vu ++ V.ref l :: vw).map some)[p]? = some (some (.ref l)) := by
            rw [← hp, ← ru.length]; simp
          refine ⟨by simp [ru.length, rw'.length]; omega, Hf1, fun a => a = l, us.map Sl.d ++ .own true ps :: ws.map Sl.d, s1.argsQ e1 h1 ru rw', ioArgsQ ru.length, ?_⟩
          cases eg : g (us.map Sl.d ++ .own true ps :: ws.map Sl.d) with
          | bad => rw [eg] at p1; exact p1.elim
          | ex y as' =>
            rw [eg] at p1
            simp only at p1
            cases e2 : as'[p]? with
            | none => rw [e2] at p1; exact p1.elim
            | some z =>
              rw [e2] at p1
              cases z with
              | no => exact p1.elim
              | x _ => exact p1.elim
              | m _ _ => exact p1.elim
              | d y => exact p1.elim
              | own c ps' =>
                intro cls d Hf' H' s' g' xr
                obtain ⟨sb, gb⟩ := s1.backP e1 h1 (s'.one at_ e2) g'
                exact p1 cls d Hf' H' sb gb (kp_chg e1) xr
          | ok rv as' =>
            rw [eg] at p1
            cases rv with
            | l ys => exact p1.elim
            | m ys => exact p1.elim
            | d y =>
              simp only at p1
              cases e2 : as'[p]? with
              | none => rw [e2] at p1; exact p1.elim
              | some z =>
                rw [e2] at p1
                cases z with
                | no => exact p1.elim
                | x _ => exact p1.elim
                | m _ _ => exact p1.elim
                | d y => exact p1.elim
                | own c ps' =>
                  intro v Hf' H' s' g' rd
                  obtain ⟨sb, gb⟩ := s1.backP e1 h1 (s'.one at_ e2) g'
                  exact p1 Hf' H' sb gb (kp_chg e1) v rd
        · rw [if_neg hn] at p1; exact p1.elim
end
/-! ### equations -/
omit [WD] in
theorem fCallQ_ok {n p i : Nat} {g : Rho → R RV} {fa : Rho → R (List AV)} {ρ ρ1 : Rho} {as : List AV} {us ws ps ps' : List Pd} {b c : Bool} {x : Pd} {as' : Rho} (h : fa ρ = .ok as ρ1) (ha : argsQ i as = some (us, ws)) (e : ρ1[i]? = some (.own b ps)) (hp : us.length = p) (hn : us.length + 1 + ws.length = n)
    (hg : g (us.map Sl.d ++ .own true ps :: ws.map Sl.d) = .ok (.d x) as') (e2 : as'[p]? = some (.own c ps')) : fCallQ n p i g fa ρ = .ok (.d x) (ρ1.set i (.own b ps')) := by
  unfold fCallQ
  rw [h]
  unfold R.bind kCallQ
  simp only [ha, e]
  rw [if_pos ⟨hp, hn⟩, hg]
  simp only [e2]
end Dt
namespace Dt
open PySem PySem.Spec L2 Evl
variable [WD]
open PySem.AutoSeq1 (wpAny_loadPart')
/-! ### a dict is no text -/
theorem str_eq_dict (b : Str) (u : Tok) (l : Addr) (c : Value) (es : Array DictEntry) (ep : Nat) (dd : Option Addr) (sl : Array (Option Value)) :
    Meets (Builtin.«str.__eq__» ⟨[.str b u, .ref l], []⟩) (fun _ R s => s.heap.get? l = some { cls := c, dict := dd, data := .dict es ep, slots := sl } ∧ R (.ok (.ret .notImplemented)) s) :=
  .of_wp fun prog w A R s h => by obtain ⟨hp, g, d, tk, os⟩ := s; obtain ⟨hl, h⟩ := h; wp_walk using wpAny_loadPart' hl, wpAny_load hl; exact ⟨_, rfl, h⟩
def rEqDS : R2 := fun x y H Q => ∃ a o kvs z, x = .ref a ∧ y = .str z ∧ H a = some (.frz o (.dK kvs)) ∧ Q (.bl false) H
theorem op_eqDS {X : Cx} (hu : X.A.units < cLine) : OpR X (compareOp .Eq) rEqDS := by
  intro pins s σ H x y v u Q I rx ry h
  obtain ⟨a, oo, kvs, z, rfl, rfl, ea, q⟩ := h
  obtain rfl : v = Value.ref a := rx
  obtain ⟨t, rfl⟩ : ∃ t, u = Value.str z t := ry
  obtain ⟨_, _, _, _, ep0, vs0, _, _, _, hm⟩ := I.frzK ea
  have da : s.heap.DictOf (mixKind X.prog X.w) a vs0 := by
    obtain ⟨o', es', ho', hx', hd', r'⟩ := hm
    exact ⟨o', es', ep0, ho', hx', hd', r'⟩
  obtain ⟨⟨cls, dd, data, sl⟩, es, ep, ho, hx, hd, _⟩ := id da
  have hd' : data = .dict es ep := hd
  subst hd'
  refine SeqAt.rc_eq_decline_or (k := false) da.typeIs (typeIs_str s z t) (by decide) F.sub_str_dict F.slot_dict_eq F.slot_str_eq_refl
    (fun _ hq => wpAny_call_entry PySem.F.slot_dict_eq da.typeIs PySem.F.entry_dict_eq ?_ (PySem.F.args_dict_eq_2 _ _))
    (fun _ hq => call_meets F.slot_str_eq_refl (typeIs_str s z t) F.entry_str_eq (F.args_str_eq_2 _ _) (str_eq_dict z t a cls es ep dd sl) ⟨ho, hq⟩)
    (fun _ hq => wpAny_of_eq (rfl : isSame (.ref a) (.str z t) = pure false) hq) (.inr hu) (fin_bl I q rfl)
  show wpAny _ _ (Builtin.Dict.dictSlotArgs "__eq__" ⟨[.ref a, .str z t], []⟩ >>= _) _ _ s
  refine wpAny_bind ?_
  unfold Builtin.Dict.dictSlotArgs
  refine wpAny_bind (wpAny_notOrdered_dict da.typeIs ?_)
  show wpAny _ _ (pure (Value.ref a, Value.str z t)) _ _ s
  refine wpAny_pure ?_
  refine wpAny_bind (wpAny_isInstance (T := "str") (typeIs_str s z t) PySem.F.sub_str_dict ?_)
  simp only [Bool.not_false, if_true]
  refine wpAny_bind (wpAny_rule ?_)
  exact wpAny_pure ⟨_, rfl, hq⟩
end Dt
namespace Dt
open PySem PySem.Spec L2 Evl
variable [WD]
/-! ### data that == may look at -/
def sh : Nat → Pd → Bool
  | _, .none => true
  | _, .bool _ => true
  | _, .int _ => true
  | _, .str x => PyData.strOk x
  | n + 1, .list xs => xs.all (sh n)
  | n + 1, .tuple xs => xs.all (sh n)
  | _, _ => false
omit [WD] in
theorem canLayAll_of {xs : List Pd} (h : ∀ x ∈ xs, PyData.canLay0 x = true) : PyData.canLayAll0 xs = true := by
  induction xs with
  | nil => rfl
  | cons x xs ih =>
    simp only [PyData.canLayAll0, Bool.and_eq_true]
    exact ⟨h x List.mem_cons_self, ih fun y hy => h y (List.mem_cons_of_mem _ hy)⟩
omit [WD] in
theorem depthAll_of {xs : List Pd} {n : Nat} (h : ∀ x ∈ xs, PyData.depth x ≤ n) : PyData.depthAll xs ≤ n := by
  induction xs with
  | nil => exact Nat.zero_le _
  | cons x xs ih =>
    simp only [PyData.depthAll]
    exact Nat.max_le.mpr ⟨h x List.mem_cons_self, ih fun y hy => h y (List.mem_cons_of_mem _ hy)⟩
omit [WD] in
theorem sh_ok : ∀ (n : Nat) (d : Pd), sh n d = true → PyData.canLay0 d = true ∧ PyData.depth d ≤ n
  | n, .none, _ => ⟨rfl, Nat.zero_le _⟩
  | n, .bool _, _ => ⟨rfl, Nat.zero_le _⟩
  | n, .int _, _ => ⟨rfl, Nat.zero_le _⟩
  | n, .str x, h => ⟨by cases n <;> exact h, Nat.zero_le _⟩
  | n + 1, .list xs, h => by
    have h : ∀ x ∈ xs, sh n x = true := List.all_eq_true.mp h
    refine ⟨canLayAll_of fun x hx => (sh_ok n x (h x hx)).1, ?_⟩
    have := depthAll_of fun x hx => (sh_ok n x (h x hx)).2
    show PyData.depthAll xs + 1 ≤ n + 1
    omega
  | n + 1, .tuple xs, h => by
    have h : ∀ x ∈ xs, sh n x = true := List.all_eq_true.mp h
    refine ⟨canLayAll_of fun x hx => (sh_ok n x (h x hx)).1, ?_⟩
    have := depthAll_of fun x hx => (sh_ok n x (h x hx)).2
    show PyData.depthAll xs + 1 ≤ n + 1
    omega
  | 0, .list _, h => by cases h
  | 0, .tuple _, h => by cases h
  | n, .dict _, h => by cases n <;> cases h
omit [WD] in
theorem sh_shaped {d : Pd} (h : sh 60 d = true) : SeqAt.shaped d = true := by
  obtain ⟨h1, h2⟩ := sh_ok 60 d h
  unfold SeqAt.shaped
  rw [h1, decide_eq_true (show d.depth ≤ 64 by omega)]
  rfl
mutual
theorem RD.dp {K : PySem.W.Frag} {H : Hp} : ∀ {v : V} {d : Pd}, RD K H v d → PyData.canLay0 d = true → Dp K H v d
  | _, _, .non, _ => .non
  | _, _, .bl b, _ => .bl b
  | _, _, .int i, _ => .int i
  | _, _, .str x, _ => .str x
  | _, _, .lst h hs, c => .lst h (RDs.dp hs c)
  | _, _, .tup h hs, c => .tup h.sq (RDs.dp hs c)
  | _, _, .dct _ _, c => by cases c
theorem RDs.dp {K : PySem.W.Frag} {H : Hp} : ∀ {v : List V} {d : List Pd}, RDs K H v d → PyData.canLayAll0 d = true → DpAll K H v d
  | _, _, .nil, _ => .nil
  | _, _, .cons h hs, c => by
    simp only [PyData.canLayAll0, Bool.and_eq_true] at c
    exact .cons (RD.dp h c.1) (RDs.dp hs c.2)
end
theorem sh_dp {K : PySem.W.Frag} {Hf H : Hp} {v : V} {d : Pd} (e : Ex Hf H) (h : RX K Hf H v d) (c : sh 60 d = true) : Dp K H v d := (h.full e).dp (sh_ok 60 d c).1
section
variable {K : PySem.W.Frag}
/-! ### + -/
def addD : Pd → Pd → Option Pd
  | .int i, .int j => some (.int (i + j))
  | .str a, .str b => if a.length + b.length ≤ sizeLine then some (.str (a ++ b)) else none
  | .tuple a, .tuple b => if a.length + b.length ≤ sizeLine then some (.tuple (a ++ b)) else none
  | .list a, .list b => if a.length + b.length ≤ sizeLine then some (.list (a ++ b)) else none
  | _, _ => none
/-- two lists to be read -/
def rCatS (K : PySem.W.Frag) : R2 := fun x y H Q => ∃ l b xs zs, x = .ref l ∧ y = .ref b ∧ SqL K H l xs ∧ SqL K H b zs ∧ xs.length + zs.length ≤ sizeLine ∧ ∀ p, H p = none → Q (.ref p) (upd H p (.lst (xs ++ zs)))
theorem op_catS {X : Cx} : OpR X (binaryOp .Add) (rCatS X.K) := by
  intro pins s σ H x y v u Q I rx ry h
  obtain ⟨l, b, xs, zs, rfl, rfl, hl, hb, hz, q⟩ := h
  cases rx
  cases ry
  obtain ⟨its, r, ⟨o1, n, e, c1, _, d1⟩, _⟩ := I.list hl
  obtain ⟨its2, r2, ⟨o2, n2, e2, c2, _, d2⟩, _⟩ := I.list hb
  have l1 := r.length
  have l2 := r2.length
  obtain ⟨ca, da, ta, sa⟩ := o1
  obtain ⟨cb, db, tb, sb⟩ := o2
  simp only at c1 d1 c2 d2
  subst c1 d1 c2 d2
  refine concat_meets ⟨_, e, rfl⟩ ⟨_, e2, rfl⟩ noFill_list_add seq_list_add PySem.F.slot_list_add PySem.F.entry_list_add (PySem.F.args_list_add_2 _ _) (PyProof.Rows.list_addW l b its.toArray its2.toArray n n2 da db sa sb (by simp only [List.size_toArray]; omega)) ⟨e, e2, ?_⟩
  rw [show its.toArray ++ its2.toArray = (its ++ its2).toArray by simp]
  exact ⟨.ref _, _, I.lnew (t' := s.toks) (r.append r2) (by simp only [List.length_append]; omega), rfl, q _ I.fresh⟩
abbrev rAddA (K : PySem.W.Frag) : R2 := fun x y H Q => rI0 (fun i j => .int (i + j)) x y H Q ∨ (∃ i j, x = .str i ∧ y = .str j ∧ i.length + j.length ≤ sizeLine ∧ Q (.str (i ++ j)) H) ∨ rCatN K x y H Q ∨ rCatS K x y H Q
theorem opAdd {X : Cx} : OpR X (binaryOp .Add) (rAddA X.K) := op_add.or (op_add_str.or (op_catN.or op_catS))
theorem ro_add : ROp K (rAddA K) addD := by
  intro Hf H x y dx dy z e hx hy h Q q
  unfold addD at h
  split at h
  · cases h
    exact .inl ⟨_, _, hx.int, hy.int, q _ Hf H (Pg.refl e) (.int _)⟩
  · split at h
    · cases h
      exact .inr (.inl ⟨_, _, hx.str, hy.str, by assumption, q _ Hf H (Pg.refl e) (.str _)⟩)
    · cases h
  · rename_i a b
    split at h
    · rename_i hz
      cases h
      obtain ⟨l, vs, rfl, t1, t2, r1⟩ := hx.tuple e
      obtain ⟨m, us, rfl, w1, w2, r2⟩ := hy.tuple e
      refine .inr (.inr (.inl ⟨l, m, vs, us, rfl, rfl, t2, w2, by rw [r1.length, r2.length]; exact hz, fun z => ?_, fun z1 z2 => ?_, fun z1 z2 p o hd np => ?_⟩))
      · subst z
        cases r1
        exact q _ Hf H (Pg.refl e) (.tup w1 r2)
      · subst z2
        cases r2
        exact q _ Hf H (Pg.refl e) (by rw [List.append_nil]; exact .tup t1 r1)
      · have g := Pg.new (o := .frz o (.tup (vs ++ us))) e np
        exact q _ _ _ g (.tup (sn_of upd_same hd) ((r1.append r2).mono g.ef))
    · cases h
  · rename_i a b
    split at h
    · rename_i hz
      cases h
      obtain ⟨l, vs, rfl, t2, r1⟩ := hx.list e
      obtain ⟨m, us, rfl, w2, r2⟩ := hy.list e
      refine .inr (.inr (.inr ⟨l, m, vs, us, rfl, rfl, t2, w2, by rw [r1.length, r2.length]; exact hz, fun p np => ?_⟩))
      have g := Pg.new (o := .lst (vs ++ us)) e np
      exact q _ _ _ g (.lst (sq_of upd_same) ((r1.append r2).mono g.ef))
    · cases h
  · cases h
/-! ### - * // % ** and comparisons of intsD -/
def intD (c : Int → Int → Bool) (f : Int → Int → Pd) : Pd → Pd → Option Pd
  | .int i, .int j => if c i j = true then some (f i j) else none
  | _, _ => none
theorem ro_int {C : Int → Int → Prop} {c : Int → Int → Bool} {g : Int → Int → V} {f : Int → Int → Pd} (hc : ∀ i j, c i j = true → C i j) (hf : ∀ K H i j, RD K H (g i j) (f i j)) : ROp K (rI C g) (intD c f) := by
  intro Hf H x y dx dy z e hx hy h Q q
  unfold intD at h
  split at h
  · split at h
    · rename_i hcc
      cases h
      exact ⟨_, _, hx.int, hy.int, hc _ _ hcc, q _ Hf H (Pg.refl e) (hf _ _ _ _)⟩
    · cases h
  · cases h
theorem ro_int0 {g : Int → Int → V} {f : Int → Int → Pd} (hf : ∀ K H i j, RD K H (g i j) (f i j)) : ROp K (rI0 g) (intD (fun _ _ => true) f) := by
  intro Hf H x y dx dy z e hx hy h Q q
  unfold intD at h
  split at h
  · split at h
    · rename_i hcc
      cases h
      exact ⟨_, _, hx.int, hy.int, q _ Hf H (Pg.refl e) (hf _ _ _ _)⟩
    · cases h
  · cases h
abbrev subD := intD (fun _ _ => true) fun i j => .int (i - j)
theorem ro_sub : ROp K (rI0 fun i j => .int (i - j)) subD := ro_int0 fun _ _ _ _ => .int _
abbrev bits := Builtin.Int.intBits
def mulOk (i j : Int) : Bool := decide (bits i ≤ 64) || decide (bits j ≤ 64) || decide (bits i + bits j ≤ 134217728)
omit [WD] in
theorem mulOk_ok {i j : Int} (h : mulOk i j = true) : IntMulOk i j := by
  unfold mulOk at h
  simp only [Bool.or_eq_true, decide_eq_true_eq] at h
  rcases h with (h | h) | h
  · exact .of_left h
  · exact .of_right h
  · exact CMulX.ok (show (bits i : Int) + (bits j : Int) ≤ 134217728 by omega)
theorem op_mulG {X : Cx} : OpR X (binaryOp .Mult) (rI IntMulOk fun i j => .int (i * j)) := opI fun _ _ _ _ _ _ _ hc q => PyProof.Rows.mul_int q hc
def mulD := intD mulOk fun i j => .int (i * j)
theorem ro_mul : ROp K (rI IntMulOk fun i j => .int (i * j)) mulD := ro_int (fun _ _ => mulOk_ok) fun _ _ _ _ => .int _
def modD := intD (fun _ j => decide (0 < j)) fun i j => .int (i % j)
theorem ro_mod : ROp K (rI (fun _ j => 0 < j) fun i j => .int (i % j)) modD := ro_int (fun _ _ h => of_decide_eq_true h) fun _ _ _ _ => .int _
def fdivD := intD (fun _ j => decide (0 < j ∧ j.natAbs.log2 < 9000)) fun i j => .int (i / j)
theorem ro_fdiv : ROp K (rI CDivW fun i j => .int (i / j)) fdivD := ro_int (fun i j h => (of_decide_eq_true h : 0 < j ∧ j.natAbs.log2 < 9000)) fun _ _ _ _ => .int _
def powD := intD (fun i j => decide (0 ≤ j ∧ j ≤ 1000000 ∧ i.natAbs < 2 ^ 64)) fun i j => .int (i ^ j.toNat)
theorem ro_pow : ROp K (rI CPow fun i j => .int (i ^ j.toNat)) powD := ro_int (fun i j h => (of_decide_eq_true h : 0 ≤ j ∧ j ≤ 1000000 ∧ i.natAbs < 2 ^ 64)) fun _ _ _ _ => .int _
def shlD := intD (fun i j => decide (0 ≤ j ∧ j ≤ 1000000 ∧ i.natAbs < 2 ^ 64)) fun i j => .int (i * 2 ^ j.toNat)
theorem ro_shl : ROp K (rI CPow fun i j => .int (i * 2 ^ j.toNat)) shlD := ro_int (fun i j h => (of_decide_eq_true h : 0 ≤ j ∧ j ≤ 1000000 ∧ i.natAbs < 2 ^ 64)) fun _ _ _ _ => .int _
def leD := intD (fun _ _ => true) fun i j => .bool (decide (i ≤ j))
theorem ro_le : ROp K (rI0 fun i j => .bl (decide (i ≤ j))) leD := ro_int0 fun _ _ _ _ => .bl _
def gtD := intD (fun _ _ => true) fun i j => .bool (decide (j < i))
theorem ro_gt : ROp K (rI0 fun i j => .bl (decide (j < i))) gtD := ro_int0 fun _ _ _ _ => .bl _
def geD := intD (fun _ _ => true) fun i j => .bool (decide (j ≤ i))
theorem ro_ge : ROp K (rI0 fun i j => .bl (decide (j ≤ i))) geD := ro_int0 fun _ _ _ _ => .bl _
/-- < of intsD, of texts -/
def ltD : Pd → Pd → Option Pd
  | .int i, .int j => some (.bool (decide (i < j)))
  | .str a, .str b => some (.bool (decide (a.cps.toList < b.cps.toList)))
  | _, _ => none
abbrev rLtA : R2 := fun x y H Q => rI0 (fun i j => .bl (decide (i < j))) x y H Q ∨ ∃ i j, x = .str i ∧ y = .str j ∧ Q (.bl (decide (i.cps.toList < j.cps.toList))) H
theorem opLt {X : Cx} : OpR X (compareOp .Lt) rLtA := op_lt.or op_lt_str
theorem ro_lt : ROp K rLtA ltD := by
  intro Hf H x y dx dy z e hx hy h Q q
  unfold ltD at h
  split at h
  · cases h
    exact .inl ⟨_, _, hx.int, hy.int, q _ Hf H (Pg.refl e) (.bl _)⟩
  · cases h
    exact .inr ⟨_, _, hx.str, hy.str, q _ Hf H (Pg.refl e) (.bl _)⟩
  · cases h
/-! ### == and != -/
def eqB : Pd → Pd → Option Bool
  | .int i, .int j => some (decide (i = j))
  | .str i, .str j => some (decide (i = j))
  | .bool i, .bool j => some (decide (i = j))
  | .none, .none => some true
  | .str _, .int _ => some false
  | .int _, .str _ => some false
  | .none, .str _ => some false
  | .str _, .none => some false
  | .none, .int _ => some false
  | .int _, .none => some false
  | d, e => if sh 60 d = true ∧ sh 60 e = true then some (PyData.eqv d e) else none
def eqD : Pd → Pd → Option Pd
  | .dict _, .str _ => some (.bool false)
  | d, e => (eqB d e).map .bool
def neD (d e : Pd) : Option Pd := (eqB d e).map fun b => .bool (!b)
abbrev rEqA (K : PySem.W.Frag) : R2 := fun x y H Q => rEq x y H Q ∨ rEqD K x y H Q ∨ rEqDS x y H Q
abbrev rNeA (K : PySem.W.Frag) : R2 := fun x y H Q => rNe x y H Q ∨ rNeD K x y H Q
theorem opEq {X : Cx} (hu : X.A.units + 64 < cLine) : OpR X (compareOp .Eq) (rEqA X.K) := op_eq.or ((op_eqD hu).or (op_eqDS (Nat.lt_of_le_of_lt (Nat.le_add_right ..) hu)))
theorem opNe {X : Cx} (hu : X.A.units + 64 < cLine) : OpR X (compareOp .NotEq) (rNeA X.K) := op_ne.or (op_neD hu)
theorem eqB_ok {Hf H : Hp} {x y : V} {dx dy : Pd} {b : Bool} (e : Ex Hf H) (hx : RX K Hf H x dx) (hy : RX K Hf H y dy) (h : eqB dx dy = some b) :
    (scal x y = true ∧ decide (x = y) = b) ∨ (Dp K H x dx ∧ Dp K H y dy ∧ SeqAt.shaped dx = true ∧ SeqAt.shaped dy = true ∧ PyData.eqv dx dy = b) := by
  unfold eqB at h
  split at h
  · cases h; obtain rfl := hx.int; obtain rfl := hy.int; exact .inl ⟨rfl, by simp⟩
  · cases h; obtain rfl := hx.str; obtain rfl := hy.str; exact .inl ⟨rfl, by simp⟩
  · cases h; obtain rfl := hx.bool; obtain rfl := hy.bool; exact .inl ⟨rfl, by simp⟩
  · cases h; obtain rfl := hx.non; obtain rfl := hy.non; exact .inl ⟨rfl, by simp⟩
  · cases h; obtain rfl := hx.str; obtain rfl := hy.int; exact .inl ⟨rfl, by simp⟩
  · cases h; obtain rfl := hx.int; obtain rfl := hy.str; exact .inl ⟨rfl, by simp⟩
  · cases h; obtain rfl := hx.non; obtain rfl := hy.str; exact .inl ⟨rfl, by simp⟩
  · cases h; obtain rfl := hx.str; obtain rfl := hy.non; exact .inl ⟨rfl, by simp⟩
  · cases h; obtain rfl := hx.non; obtain rfl := hy.int; exact .inl ⟨rfl, by simp⟩
  · cases h; obtain rfl := hx.int; obtain rfl := hy.non; exact .inl ⟨rfl, by simp⟩
  · split at h
    · rename_i hs
      cases h
      exact .inr ⟨sh_dp e hx hs.1, sh_dp e hy hs.2, sh_shaped hs.1, sh_shaped hs.2, rfl⟩
    · cases h
theorem ro_eq : ROp K (rEqA K) eqD := by
  intro Hf H x y dx dy z e hx hy h Q q
  unfold eqD at h
  split at h
  · cases h
    obtain rfl := hy.str
    rcases hx with hx | ⟨_, _, _, _, q', _⟩
    · cases hx with
      | dct hh _ => exact .inr (.inr ⟨_, _, _, _, rfl, rfl, e _ _ hh, q _ Hf H (Pg.refl e) (.bl _)⟩)
    · cases q'
  · cases eb : eqB dx dy with
    | none => rw [eb] at h; cases h
    | some b =>
      rw [eb] at h
      cases h
      have k := q (.bl b) Hf H (Pg.refl e) (.bl b)
      rcases eqB_ok e hx hy eb with ⟨h1, h2⟩ | ⟨h1, h2, h3, h4, h5⟩
      · exact .inl ⟨h1, by rw [h2]; exact k⟩
      · exact .inr (.inl ⟨_, _, h1, h2, h3, h4, by rw [h5]; exact k⟩)
theorem ro_ne : ROp K (rNeA K) neD := by
  intro Hf H x y dx dy z e hx hy h Q q
  unfold neD at h
  cases eb : eqB dx dy with
  | none => rw [eb] at h; cases h
  | some b =>
    rw [eb] at h
    cases h
    have k := q (.bl (!b)) Hf H (Pg.refl e) (.bl (!b))
    rcases eqB_ok e hx hy eb with ⟨h1, h2⟩ | ⟨h1, h2, h3, h4, h5⟩
    · exact .inl ⟨h1, by rw [h2]; exact k⟩
    · exact .inr ⟨_, _, h1, h2, h3, h4, by rw [h5]; exact k⟩
/-! ### in -/
/-- a text in a text -/
def inStr (a z : Str) : Bool := match a.cps.toList with
  | [c] => decide (c ∈ z.cps.toList)
  | _ => !(Builtin.Str.occurrences z a 0 z.length 1).isEmpty
def flatD : Pd → Bool
  | .none => true
  | .bool _ => true
  | .int _ => true
  | .str _ => true
  | _ => false
theorem RD.flat {H H' : Hp} {v : V} {d : Pd} (h : RD K H v d) (f : flatD d = true) : RD K H' v d := by
  cases h with
  | non => exact .non
  | bl b => exact .bl b
  | int i => exact .int i
  | str x => exact .str x
  | lst _ _ => cases f
  | tup _ _ => cases f
  | dct _ _ => cases f
theorem RX.flat {Hf H : Hp} {v : V} {d : Pd} (h : RX K Hf H v d) (f : flatD d = true) : RD K Hf v d := by
  rcases h with h | ⟨_, _, _, _, rfl, _⟩
  · exact h
  · cases f
theorem RD.flatV {H : Hp} {v : V} {d : Pd} (h : RD K H v d) (f : flatD d = true) : flatV v = true := by
  cases h with
  | non => rfl
  | bl b => rfl
  | int i => rfl
  | str x => rfl
  | lst _ _ => cases f
  | tup _ _ => cases f
  | dct _ _ => cases f
theorem RD.eqV {H H' : Hp} {v u : V} {d e : Pd} (h : RD K H v d) (g : RD K H' u e) (f : flatD d = true) (f' : flatD e = true) : L2.eqV v u = PyData.eqv d e := by
  cases h with
  | lst _ _ => cases f
  | tup _ _ => cases f
  | dct _ _ => cases f
  | non => cases g with
    | lst _ _ => cases f'
    | tup _ _ => cases f'
    | dct _ _ => cases f'
    | _ => simp [L2.eqV, PyData.eqv]
  | bl b => cases g with
    | lst _ _ => cases f'
    | tup _ _ => cases f'
    | dct _ _ => cases f'
    | _ => simp [L2.eqV, PyData.eqv]
  | int i => cases g with
    | lst _ _ => cases f'
    | tup _ _ => cases f'
    | dct _ _ => cases f'
    | _ => simp [L2.eqV, PyData.eqv]
  | str z => cases g with
    | lst _ _ => cases f'
    | tup _ _ => cases f'
    | dct _ _ => cases f'
    | _ => simp [L2.eqV, PyData.eqv]
theorem RDs.all_flat {H : Hp} : ∀ {vs : List V} {ds : List Pd}, RDs K H vs ds → ds.all flatD = true → vs.all flatV = true
  | _, _, .nil, _ => rfl
  | _, _, .cons h hs, f => by
    simp only [List.all_cons, Bool.and_eq_true] at f ⊢
    exact ⟨h.flatV f.1, RDs.all_flat hs f.2⟩
theorem RDs.inV {H H' : Hp} {v : V} {d : Pd} (h : RD K H' v d) (fd : flatD d = true) : ∀ {vs : List V} {ds : List Pd}, RDs K H vs ds → ds.all flatD = true → L2.inV v vs = ds.any fun y => PyData.eqv y d
  | _, _, .nil, _ => rfl
  | _, _, .cons g gs, f => by
    simp only [List.all_cons, Bool.and_eq_true] at f
    have ih := RDs.inV h fd gs f.2
    unfold L2.inV at ih ⊢
    rw [List.any_cons, List.any_cons, ih, g.eqV h f.1 fd]
/-- x in y -/
def inB : Pd → Pd → Option Bool
  | .str a, .str z => some (inStr a z)
  | d, .list xs => if flatD d = true ∧ xs.all flatD = true then some (xs.any fun y => PyData.eqv y d) else if sh 60 d = true ∧ sh 60 (.list xs) = true then some (xs.any fun y => PyData.eqv y d) else none
  | d, .tuple xs => if flatD d = true ∧ xs.all flatD = true then some (xs.any fun y => PyData.eqv y d) else if sh 60 d = true ∧ sh 60 (.tuple xs) = true then some (xs.any fun y => PyData.eqv y d) else none
  | _, _ => none
def inD (d e : Pd) : Option Pd := (inB d e).map .bool
def notInD (d e : Pd) : Option Pd := (inB d e).map fun b => .bool (!b)
def rInTx (n : Bool) : R2 := fun x y H Q => (∃ (c : Nat) (z : Str), x = .str ⟨#[c]⟩ ∧ y = .str z ∧ Q (.bl (if n then !decide (c ∈ z.cps.toList) else decide (c ∈ z.cps.toList))) H) ∨
  ∃ i j, x = .str i ∧ y = .str j ∧ Q (.bl (if n then !(!(Builtin.Str.occurrences j i 0 j.length 1).isEmpty) else !(Builtin.Str.occurrences j i 0 j.length 1).isEmpty)) H
theorem op_inTx {X : Cx} : OpR X (compareOp .In) (rInTx false) := op_in_sign.or op_in_str
theorem op_notInTx {X : Cx} : OpR X (compareOp .NotIn) (rInTx true) := op_notIn_sign.or op_notin_str
/-- in a tuple, by data -/
def rInDT (K : PySem.W.Frag) (n : Bool) : R2 := fun x y H Q => ∃ d ds, Dp K H x d ∧ Dp K H y (.tuple ds) ∧ SeqAt.shaped d = true ∧ SeqAt.shaped (.tuple ds) = true ∧ Q (.bl (if n then !ds.any (fun z => PyData.eqv z d) else ds.any fun z => PyData.eqv z d)) H
omit [WD] in
theorem room_t {d : Pd} {ds : List Pd} {A : Around} (h : SeqAt.shaped d = true) (hu : A.units + 65 < cLine) : A.units + 1 + min (PyData.depthAll ds) d.depth < cLine := by
  have h1 := SeqAt.depth_of_shaped h
  have h2 : min (PyData.depthAll ds) d.depth ≤ d.depth := Nat.min_le_right _ _
  omega
theorem op_inDT {X : Cx} (hu : X.A.units + 65 < cLine) : OpR X (compareOp .In) (rInDT X.K false) := by
  intro pins s σ H x y v u Q I rx ry h
  obtain ⟨d, ds, hd, he, sd, se, q⟩ := h
  obtain ⟨_, r1⟩ := Dp.reads I d x v hd rx
  obtain ⟨_, r2⟩ := Dp.reads I (.tuple ds) y u he ry
  exact SeqAt.in_tuple_reads r2 r1 (SeqAt.canLay_of_shaped se) (SeqAt.canLay_of_shaped sd) (room_t sd hu) ⟨.bl _, H, I, rfl, q⟩
theorem op_notInDT {X : Cx} (hu : X.A.units + 65 < cLine) : OpR X (compareOp .NotIn) (rInDT X.K true) := by
  intro pins s σ H x y v u Q I rx ry h
  obtain ⟨d, ds, hd, he, sd, se, q⟩ := h
  obtain ⟨_, r1⟩ := Dp.reads I d x v hd rx
  obtain ⟨_, r2⟩ := Dp.reads I (.tuple ds) y u he ry
  exact SeqAt.notIn_tuple_reads r2 r1 (SeqAt.canLay_of_shaped se) (SeqAt.canLay_of_shaped sd) (room_t sd hu) ⟨.bl _, H, I, rfl, q⟩
abbrev rInA (K : PySem.W.Frag) : R2 := fun x y H Q => rInTx false x y H Q ∨ rIn K false x y H Q ∨ rInD K x y H Q ∨ rInDT K false x y H Q
abbrev rNotInA (K : PySem.W.Frag) : R2 := fun x y H Q => rInTx true x y H Q ∨ rIn K true x y H Q ∨ rNotInD K x y H Q ∨ rInDT K true x y H Q
theorem opIn {X : Cx} (hu : X.A.units + 65 < cLine) : OpR X (compareOp .In) (rInA X.K) := op_inTx.or (op_in_seq.or ((op_inD hu).or (op_inDT hu)))
theorem opNotIn {X : Cx} (hu : X.A.units + 65 < cLine) : OpR X (compareOp .NotIn) (rNotInA X.K) := op_notInTx.or (op_notIn_seq.or ((op_notInD hu).or (op_notInDT hu)))
theorem inStr_ok {n : Bool} {a z : Str} {H : Hp} {Q : VK} (q : Q (.bl (if n then !inStr a z else inStr a z)) H) : rInTx n (.str a) (.str z) H Q := by
  unfold inStr at q
  cases e : a.cps.toList with
  | nil => rw [e] at q; exact .inr ⟨a, z, rfl, rfl, q⟩
  | cons c r =>
    cases r with
    | cons c2 r => rw [e] at q; exact .inr ⟨a, z, rfl, rfl, q⟩
    | nil =>
      rw [e] at q
      have ea : a = ⟨#[c]⟩ := by
        obtain ⟨cps⟩ := a
        have : cps = #[c] := by
          apply Array.ext'
          exact e
        rw [this]
      exact .inl ⟨c, z, by rw [ea], rfl, q⟩
theorem inB_ok {Hf H : Hp} {x y : V} {dx dy : Pd} {b : Bool} (e : Ex Hf H) (hx : RX K Hf H x dx) (hy : RX K Hf H y dy) (h : inB dx dy = some b) {Q : VK} (n : Bool) (q : Q (.bl (if n then !b else b)) H) :
    rInTx n x y H Q ∨ rIn K n x y H Q ∨ (∃ ds, dy = .list ds ∧ Dp K H x dx ∧ Dp K H y (.list ds) ∧ SeqAt.shaped dx = true ∧ SeqAt.shaped (.list ds) = true ∧ (ds.any fun z => PyData.eqv z dx) = b) ∨ rInDT K n x y H Q := by
  unfold inB at h
  split at h
  · cases h; obtain rfl := hx.str; obtain rfl := hy.str; exact .inl (inStr_ok q)
  · rename_i xs _
    split at h
    · rename_i hf
      cases h
      obtain ⟨l, vs, rfl, t, r⟩ := hy.list e
      have rx := hx.flat hf.1
      refine .inr (.inl ⟨l, vs, rfl, .inl t, rx.flatV hf.1, r.all_flat hf.2, ?_⟩)
      rw [RDs.inV rx hf.1 r hf.2]
      exact q
    · split at h
      · rename_i hs
        cases h
        exact .inr (.inr (.inl ⟨_, rfl, sh_dp e hx hs.1, sh_dp e hy hs.2, sh_shaped hs.1, sh_shaped hs.2, rfl⟩))
      · cases h
  · rename_i xs _
    split at h
    · rename_i hf
      cases h
      obtain ⟨l, vs, rfl, _, t, r⟩ := hy.tuple e
      have rx := hx.flat hf.1
      refine .inr (.inl ⟨l, vs, rfl, .inr t, rx.flatV hf.1, r.all_flat hf.2, ?_⟩)
      rw [RDs.inV rx hf.1 r hf.2]
      exact q
    · split at h
      · rename_i hs
        cases h
        exact .inr (.inr (.inr ⟨_, _, sh_dp e hx hs.1, sh_dp e hy hs.2, sh_shaped hs.1, sh_shaped hs.2, q⟩))
      · cases h
  · cases h
theorem ro_in : ROp K (rInA K) inD := by
  intro Hf H x y dx dy z e hx hy h Q q
  unfold inD at h
  cases eb : inB dx dy with
  | none => rw [eb] at h; cases h
  | some b =>
    rw [eb] at h
    cases h
    have k := q (.bl b) Hf H (Pg.refl e) (.bl b)
    rcases inB_ok e hx hy eb false k with h1 | h1 | ⟨ds, rfl, h1, h2, h3, h4, h5⟩ | h1
    · exact .inl h1
    · exact .inr (.inl h1)
    · exact .inr (.inr (.inl ⟨_, _, h1, h2, h3, h4, by rw [h5]; exact k⟩))
    · exact .inr (.inr (.inr h1))
theorem ro_notIn : ROp K (rNotInA K) notInD := by
  intro Hf H x y dx dy z e hx hy h Q q
  unfold notInD at h
  cases eb : inB dx dy with
  | none => rw [eb] at h; cases h
  | some b =>
    rw [eb] at h
    cases h
    have k := q (.bl (!b)) Hf H (Pg.refl e) (.bl (!b))
    rcases inB_ok e hx hy eb true k with h1 | h1 | ⟨ds, rfl, h1, h2, h3, h4, h5⟩ | h1
    · exact .inl h1
    · exact .inr (.inl h1)
    · exact .inr (.inr (.inl ⟨_, _, h1, h2, h3, h4, by rw [h5]; exact k⟩))
    · exact .inr (.inr (.inr h1))
/-! ### is None -/
def isNon : Pd → Bool
  | .none => true
  | _ => false
def isNoneD : Pd → Pd → Option Pd
  | d, .none => some (.bool (isNon d))
  | _, _ => none
def notNoneD : Pd → Pd → Option Pd
  | d, .none => some (.bool (!isNon d))
  | _, _ => none
theorem RX.isNon {Hf H : Hp} {x : V} {d : Pd} (h : RX K Hf H x d) : decide (x = .non) = isNon d := by
  rcases h with h | ⟨l, _, _, rfl, rfl, _⟩
  · cases h <;> simp [Dt.isNon]
  · simp [Dt.isNon]
theorem ro_isNone : ROp K (fun x y H Q => y = .non ∧ Q (.bl (decide (x = .non))) H) isNoneD := by
  intro Hf H x y dx dy z e hx hy h Q q
  unfold isNoneD at h
  split at h
  · cases h
    refine ⟨hy.non, ?_⟩
    rw [hx.isNon]
    exact q _ Hf H (Pg.refl e) (.bl _)
  · cases h
theorem ro_notNone : ROp K (fun x y H Q => y = .non ∧ Q (.bl (!decide (x = .non))) H) notNoneD := by
  intro Hf H x y dx dy z e hx hy h Q q
  unfold notNoneD at h
  split at h
  · rename_i d
    cases h
    refine ⟨hy.non, ?_⟩
    rw [hx.isNon]
    exact q _ Hf H (Pg.refl e) (.bl _)
  · cases h
/-! ### x[i] -/
def ixD : Pd → Pd → Option Pd
  | .list xs, .int i => atI xs i
  | .tuple xs, .int i => atI xs i
  | .str z, .int i => if z.length ≤ sizeLine then (atI z.cps.toList i).map fun c => .str ⟨#[c]⟩ else none
  | _, _ => none
theorem RDs.atI {H : Hp} {vs : List V} {ds : List Pd} (r : RDs K H vs ds) {i : Int} {d : Pd} (h : L2.atI ds i = some d) : ∃ v, L2.atI vs i = some v ∧ RD K H v d := by
  unfold L2.atI at h ⊢
  rw [r.length]
  cases e : ixN ds.length i with
  | none => rw [e] at h; cases h
  | some j => rw [e] at h; exact r.get h
theorem ro_ix : ROp K (rIx K) ixD := by
  intro Hf H x y dx dy z e hx hy h Q q
  unfold ixD at h
  split at h
  · obtain ⟨l, vs, rfl, t, r⟩ := hx.list e
    obtain ⟨v, h1, h2⟩ := r.atI h
    exact .inl ⟨l, vs, _, v, rfl, hy.int, t, h1, q v Hf H (Pg.refl e) h2⟩
  · obtain ⟨l, vs, rfl, _, t, r⟩ := hx.tuple e
    obtain ⟨v, h1, h2⟩ := r.atI h
    exact .inr (.inl ⟨l, vs, _, v, rfl, hy.int, t, h1, q v Hf H (Pg.refl e) h2⟩)
  · split at h
    · rename_i w i hz
      cases ec : L2.atI w.cps.toList i with
      | none => rw [ec] at h; cases h
      | some c =>
        rw [ec] at h
        cases h
        exact .inr (.inr ⟨w, i, c, hx.str, hy.int, hz, ec, q _ Hf H (Pg.refl e) (.str _)⟩)
    · cases h
  · cases h
/-! ### slices -/
def cutD (xs : List Pd) (lo hi : Option Int) : List Pd := (xs.drop (HT.sIx xs.length 0 lo)).take (HT.sIx xs.length xs.length hi - HT.sIx xs.length 0 lo)
def slD : Pd → Option Int → Option Int → Option Pd
  | .list xs, lo, hi => some (.list (cutD xs lo hi))
  | .tuple xs, lo, hi => some (.tuple (cutD xs lo hi))
  | .str z, lo, hi => if z.length ≤ sizeLine then some (.str (cutS z lo hi)) else none
  | _, _, _ => none
theorem RDs.cut {H : Hp} {vs : List V} {ds : List Pd} (r : RDs K H vs ds) (lo hi : Option Int) : RDs K H (cutV vs lo hi) (cutD ds lo hi) := by
  unfold cutV cutD
  rw [r.length]
  exact (r.drop _).take _
omit [WD] in
theorem cutD_whole {xs : List Pd} {lo hi : Option Int} (h : HT.sIx xs.length 0 lo = 0 ∧ HT.sIx xs.length xs.length hi = xs.length) : cutD xs lo hi = xs := by
  unfold cutD
  rw [h.1, h.2]
  simp
abbrev rSlAll (K : PySem.W.Frag) : V → Option Int → Option Int → Hp → VK → Prop := fun x lo hi H Q => rSlL K x lo hi H Q ∨ rSlN K x lo hi H Q ∨ rSlS x lo hi H Q
theorem slAll {X : Cx} : SlR X (rSlAll X.K) := sl_list.or (sl_tupN.or sl_str)
theorem rs_sl : RSl K (rSlAll K) slD := by
  intro Hf H x lo hi dx z e hx h Q q
  unfold slD at h
  split at h
  · cases h
    obtain ⟨l, vs, rfl, t, r⟩ := hx.list e
    refine .inl ⟨l, vs, rfl, t, fun p np => ?_⟩
    have g := Pg.new (o := .lst (cutV vs lo hi)) e np
    exact q _ _ _ g (.lst (sq_of upd_same) ((r.cut lo hi).mono g.ef))
  · cases h
    obtain ⟨l, vs, rfl, t1, t, r⟩ := hx.tuple e
    refine .inr (.inl ⟨l, vs, rfl, t, fun hw => ?_, fun hw p o hd np => ?_⟩)
    · rw [r.length] at hw
      exact q _ Hf H (Pg.refl e) (by rw [cutD_whole hw]; exact .tup t1 r)
    · have g := Pg.new (o := .frz o (.tup (cutV vs lo hi))) e np
      exact q _ _ _ g (.tup (sn_of upd_same hd) ((r.cut lo hi).mono g.ef))
  · split at h
    · cases h
      exact .inr (.inr ⟨_, hx.str, by assumption, q _ Hf H (Pg.refl e) (.str _)⟩)
    · cases h
  · cases h
/-! ### built-in functions -/
theorem RXs.one {Hf H : Hp} {vs : List V} {d : Pd} (h : RXs K Hf H vs [d]) : ∃ v, vs = [v] ∧ RX K Hf H v d := by
  cases h with
  | cons h hs => cases hs; exact ⟨_, rfl, h⟩
theorem RXs.two {Hf H : Hp} {vs : List V} {d e : Pd} (h : RXs K Hf H vs [d, e]) : ∃ v u, vs = [v, u] ∧ RX K Hf H v d ∧ RX K Hf H u e := by
  cases h with
  | cons h hs =>
    obtain ⟨u, rfl, k⟩ := hs.one
    exact ⟨_, _, rfl, h, k⟩
def lenD : List Pd → Option Pd
  | [.list xs] => some (.int xs.length)
  | [.tuple xs] => some (.int xs.length)
  | [.str z] => if z.length ≤ sizeLine then some (.int z.length) else none
  | _ => none
abbrev rLenA (K : PySem.W.Frag) : List V → Hp → VK → Prop := fun xs H Q => (∃ p ys, xs = [.ref p] ∧ (SqL K H p ys ∨ SqT K H p ys) ∧ Q (.int ys.length) H) ∨ (∃ z, xs = [.str z] ∧ z.length ≤ sizeLine ∧ Q (.int z.length) H)
theorem callLen {X : Cx} : CallR X (.builtin "len") (rLenA X.K) := call_len_seq.or call_len_str
theorem rc_len : RCall K (rLenA K) lenD := by
  intro Hf H vs xs z e hx h Q q
  unfold lenD at h
  split at h
  · cases h
    obtain ⟨v, rfl, hv⟩ := hx.one
    obtain ⟨l, us, rfl, t, r⟩ := hv.list e
    exact .inl ⟨l, us, rfl, .inl t, by rw [r.length]; exact q _ Hf H (Pg.refl e) (.int _)⟩
  · cases h
    obtain ⟨v, rfl, hv⟩ := hx.one
    obtain ⟨l, us, rfl, _, t, r⟩ := hv.tuple e
    exact .inl ⟨l, us, rfl, .inr t, by rw [r.length]; exact q _ Hf H (Pg.refl e) (.int _)⟩
  · split at h
    · cases h
      obtain ⟨v, rfl, hv⟩ := hx.one
      obtain rfl := hv.str
      exact .inr ⟨_, rfl, by assumption, q _ Hf H (Pg.refl e) (.int _)⟩
    · cases h
  · cases h
def absD : List Pd → Option Pd
  | [.int i] => some (.int (if i < 0 then -i else i))
  | _ => none
theorem rc_abs : RCall K (fun xs H Q => ∃ i, xs = [.int i] ∧ Q (.int (if i < 0 then -i else i)) H) absD := by
  intro Hf H vs xs z e hx h Q q
  unfold absD at h
  split at h
  · cases h
    obtain ⟨v, rfl, hv⟩ := hx.one
    obtain rfl := hv.int
    exact ⟨_, rfl, q _ Hf H (Pg.refl e) (.int _)⟩
  · cases h
def strD : List Pd → Option Pd
  | [.int i] => if i.natAbs.log2 < 1920 then some (.str (toString i)) else none
  | _ => none
theorem rc_str : RCall K (fun xs H Q => ∃ i, xs = [.int i] ∧ i.natAbs.log2 < 1920 ∧ Q (.str (toString i)) H) strD := by
  intro Hf H vs xs z e hx h Q q
  unfold strD at h
  split at h
  · split at h
    · cases h
      obtain ⟨v, rfl, hv⟩ := hx.one
      obtain rfl := hv.int
      exact ⟨_, rfl, by assumption, q _ Hf H (Pg.refl e) (.str _)⟩
    · cases h
  · cases h
def boolsD : List Pd → Option (List Bool)
  | [] => some []
  | .bool b :: xs => match boolsD xs with
    | some bs => some (b :: bs)
    | none => none
  | _ :: _ => none
theorem bools_ok {H : Hp} : ∀ {vs : List V} {ds : List Pd} {bs : List Bool}, RDs K H vs ds → boolsD ds = some bs → vs = bs.map V.bl
  | _, _, _, .nil, h => by cases h; rfl
  | _, _, _, .cons (d := .bool b) (ds := ds) g gs, h => by
    simp only [boolsD] at h
    cases e : boolsD ds with
    | none => rw [e] at h; cases h
    | some bs =>
      rw [e] at h
      cases h
      cases g
      rw [bools_ok gs e]
      rfl
  | _, _, _, .cons (d := .none) _ _, h => by cases h
  | _, _, _, .cons (d := .int _) _ _, h => by cases h
  | _, _, _, .cons (d := .str _) _ _, h => by cases h
  | _, _, _, .cons (d := .list _) _ _, h => by cases h
  | _, _, _, .cons (d := .tuple _) _ _, h => by cases h
  | _, _, _, .cons (d := .dict _) _ _, h => by cases h
def allD : List Pd → Option Pd
  | [.list xs] => (boolsD xs).map fun bs => .bool (bs.all id)
  | _ => none
def anyD : List Pd → Option Pd
  | [.list xs] => (boolsD xs).map fun bs => .bool (bs.any id)
  | _ => none
theorem rc_all : RCall K (rAll K) allD := by
  intro Hf H vs xs z e hx h Q q
  unfold allD at h
  split at h
  · rename_i ys
    obtain ⟨v, rfl, hv⟩ := hx.one
    obtain ⟨l, us, rfl, t, r⟩ := hv.list e
    cases eb : boolsD ys with
    | none => rw [eb] at h; cases h
    | some bs =>
      rw [eb] at h
      cases h
      obtain rfl := bools_ok r eb
      exact ⟨l, bs, rfl, t, q _ Hf H (Pg.refl e) (.bl _)⟩
  · cases h
theorem rc_any : RCall K (rAny K) anyD := by
  intro Hf H vs xs z e hx h Q q
  unfold anyD at h
  split at h
  · rename_i ys
    obtain ⟨v, rfl, hv⟩ := hx.one
    obtain ⟨l, us, rfl, t, r⟩ := hv.list e
    cases eb : boolsD ys with
    | none => rw [eb] at h; cases h
    | some bs =>
      rw [eb] at h
      cases h
      obtain rfl := bools_ok r eb
      exact ⟨l, bs, rfl, t, q _ Hf H (Pg.refl e) (.bl _)⟩
  · cases h
def intsD : List Pd → Option (List Int)
  | [] => some []
  | .int b :: xs => match intsD xs with
    | some bs => some (b :: bs)
    | none => none
  | _ :: _ => none
theorem ints_ok {H : Hp} : ∀ {vs : List V} {ds : List Pd} {bs : List Int}, RDs K H vs ds → intsD ds = some bs → vs = bs.map V.int
  | _, _, _, .nil, h => by cases h; rfl
  | _, _, _, .cons (d := .int b) (ds := ds) g gs, h => by
    simp only [intsD] at h
    cases e : intsD ds with
    | none => rw [e] at h; cases h
    | some bs =>
      rw [e] at h
      cases h
      cases g
      rw [ints_ok gs e]
      rfl
  | _, _, _, .cons (d := .none) _ _, h => by cases h
  | _, _, _, .cons (d := .bool _) _ _, h => by cases h
  | _, _, _, .cons (d := .str _) _ _, h => by cases h
  | _, _, _, .cons (d := .list _) _ _, h => by cases h
  | _, _, _, .cons (d := .tuple _) _ _, h => by cases h
  | _, _, _, .cons (d := .dict _) _ _, h => by cases h
def sumD : List Pd → Option Pd
  | [.list xs] => (intsD xs).map fun bs => .int bs.sum
  | _ => none
theorem rc_sum : RCall K (rSum K) sumD := by
  intro Hf H vs xs z e hx h Q q
  unfold sumD at h
  split at h
  · rename_i ys
    obtain ⟨v, rfl, hv⟩ := hx.one
    obtain ⟨l, us, rfl, t, r⟩ := hv.list e
    cases eb : intsD ys with
    | none => rw [eb] at h; cases h
    | some bs =>
      rw [eb] at h
      cases h
      obtain rfl := ints_ok r eb
      exact ⟨l, bs, rfl, t, q _ Hf H (Pg.refl e) (.int _)⟩
  · cases h
def strsD : List Pd → Option (List Str)
  | [] => some []
  | .str b :: xs => match strsD xs with
    | some bs => some (b :: bs)
    | none => none
  | _ :: _ => none
theorem strs_ok {H : Hp} : ∀ {vs : List V} {ds : List Pd} {bs : List Str}, RDs K H vs ds → strsD ds = some bs → vs = bs.map V.str
  | _, _, _, .nil, h => by cases h; rfl
  | _, _, _, .cons (d := .str b) (ds := ds) g gs, h => by
    simp only [strsD] at h
    cases e : strsD ds with
    | none => rw [e] at h; cases h
    | some bs =>
      rw [e] at h
      cases h
      cases g
      rw [strs_ok gs e]
      rfl
  | _, _, _, .cons (d := .none) _ _, h => by cases h
  | _, _, _, .cons (d := .bool _) _ _, h => by cases h
  | _, _, _, .cons (d := .int _) _ _, h => by cases h
  | _, _, _, .cons (d := .list _) _ _, h => by cases h
  | _, _, _, .cons (d := .tuple _) _ _, h => by cases h
  | _, _, _, .cons (d := .dict _) _ _, h => by cases h
/-- tuple(x) of a list or a tuple -/
def tupleD : List Pd → Option Pd
  | [.list xs] => some (.tuple xs)
  | [.tuple xs] => some (.tuple xs)
  | _ => none
abbrev rTupleA (K : PySem.W.Frag) : List V → Hp → VK → Prop := rTupleN K
theorem rc_tuple : RCall K (rTupleA K) tupleD := by
  intro Hf H vs xs z e hx h Q q
  unfold tupleD at h
  split at h
  · cases h
    obtain ⟨v, rfl, hv⟩ := hx.one
    obtain ⟨l, us, rfl, t, r⟩ := hv.list e
    refine ⟨l, us, rfl, .inl ⟨t, fun p o hd np => ?_⟩⟩
    have g := Pg.new (o := .frz o (.tup us)) e np
    exact q _ _ _ g (.tup (sn_of upd_same hd) (r.mono g.ef))
  · cases h
    obtain ⟨v, rfl, hv⟩ := hx.one
    obtain ⟨l, us, rfl, t1, t, r⟩ := hv.tuple e
    exact ⟨l, us, rfl, .inr ⟨t, q _ Hf H (Pg.refl e) (.tup t1 r)⟩⟩
  · cases h
/-- list(x) of a list or a tuple: a new list -/
def listD : List Pd → Option (List Pd)
  | [.list xs] => some xs
  | [.tuple xs] => some xs
  | _ => none
abbrev rListA (K : PySem.W.Frag) : List V → Hp → VK → Prop := fun xs H Q => ∃ p ys, xs = [.ref p] ∧ (SqL K H p ys ∨ SqT K H p ys) ∧ ∀ l, H l = none → Q (.ref l) (upd H l (.lst ys))
theorem rcl_list : RCallL K (rListA K) listD := by
  intro Hf H vs xs z e hx h Q q
  unfold listD at h
  split at h
  · cases h
    obtain ⟨v, rfl, hv⟩ := hx.one
    obtain ⟨l, us, rfl, t, r⟩ := hv.list e
    exact ⟨l, us, rfl, .inl t, fun p np => q p us _ (e.trans (Ex.new np)) (Ex.new np) np upd_same r⟩
  · cases h
    obtain ⟨v, rfl, hv⟩ := hx.one
    obtain ⟨l, us, rfl, t1, t, r⟩ := hv.tuple e
    exact ⟨l, us, rfl, .inr t, fun p np => q p us _ (e.trans (Ex.new np)) (Ex.new np) np upd_same r⟩
  · cases h
/-! ### methods of texts -/
def upperD : Pd → List Pd → Option Pd
  | .str a, [] => if a.length ≤ 5592405 then some (.str (Txt.upper a)) else none
  | _, _ => none
theorem rm_upper : RMt K "str" (fun x xs H Q => ∃ a, x = .str a ∧ xs = [] ∧ a.length ≤ 5592405 ∧ Q (.str (Txt.upper a)) H) upperD := by
  intro Hf H x vs dx xs z e hx hs h Q q
  unfold upperD at h
  split at h
  · split at h
    · cases h
      cases hs
      exact ⟨_, hx.str, rfl, by assumption, q _ Hf H (Pg.refl e) (.str _)⟩
    · cases h
  · cases h
def joinD : Pd → List Pd → Option Pd
  | .str a, [.list xs] => match strsD xs with
    | some ys => if (ys.map (·.length)).sum + ys.length * a.length ≤ 16777216 then some (.str (Txt.join a ys)) else none
    | none => none
  | .str a, [.tuple xs] => match strsD xs with
    | some ys => if (ys.map (·.length)).sum + ys.length * a.length ≤ 16777216 then some (.str (Txt.join a ys)) else none
    | none => none
  | _, _ => none
abbrev rJoinA (K : PySem.W.Frag) : V → List V → Hp → VK → Prop := fun x xs H Q => ∃ a p, ∃ ys : List Str, x = .str a ∧ xs = [.ref p] ∧ (SqL K H p (ys.map V.str) ∨ SqT K H p (ys.map V.str)) ∧
    (ys.map (·.length)).sum + ys.length * a.length ≤ 16777216 ∧ Q (.str (Txt.join a ys)) H
theorem rm_join : RMt K "str" (rJoinA K) joinD := by
  intro Hf H x vs dx xs z e hx hs h Q q
  unfold joinD at h
  split at h
  · split at h
    · rename_i ys es
      split at h
      · cases h
        obtain ⟨v, rfl, hv⟩ := hs.one
        obtain ⟨l, us, rfl, t, r⟩ := hv.list e
        obtain rfl := strs_ok r es
        exact ⟨_, l, ys, hx.str, rfl, .inl t, by assumption, q _ Hf H (Pg.refl e) (.str _)⟩
      · cases h
    · cases h
  · split at h
    · rename_i ys es
      split at h
      · cases h
        obtain ⟨v, rfl, hv⟩ := hs.one
        obtain ⟨l, us, rfl, _, t, r⟩ := hv.tuple e
        obtain rfl := strs_ok r es
        exact ⟨_, l, ys, hx.str, rfl, .inr t, by assumption, q _ Hf H (Pg.refl e) (.str _)⟩
      · cases h
    · cases h
  · cases h
end
end Dt
namespace Dt
open PySem PySem.Spec L2 Evl
variable [WD]
section
variable {Z : Zx} {W : WX}
/-! ### isinstance -/
def tyName : Pd → String
  | .none => "NoneType"
  | .bool _ => "bool"
  | .int _ => "int"
  | .str _ => "str"
  | .list _ => "list"
  | .tuple _ => "tuple"
  | .dict _ => "dict"
theorem ty_of {K : PySem.W.Frag} {Hf H : Hp} {v : V} {d : Pd} (e : Ex Hf H) (h : RX K Hf H v d) : TyX K H v (.type (tyName d)) := by
  have h0 := h.full e
  clear h
  cases h0 with
  | non => exact .base .non
  | bl b => exact .base (.bl b)
  | int i => exact .base (.int i)
  | str x => exact .base (.str x)
  | lst hh _ =>
    rcases hh with (h | ⟨o, h⟩) | ⟨o, its, n, h1, h2, _⟩
    · exact .base (.lst h)
    · exact .base (.frz h)
    · exact .kList h1 h2
  | tup hh _ =>
    rcases hh.sq with (h | ⟨o, h⟩) | ⟨o, its, n, h1, h2, _⟩
    · exact .base (.tup h)
    · exact .fTuple h
    · exact .kTuple h1 h2
  | dct hh _ => exact .fDict hh
def isiD (T : String) (d : Pd) : Option Pd := (kitB (tyName d) T).map .bool
theorem d_isi {T : String} {ta : TE} {fa : Rho → R AV} (ha : DE Z W ta fa) : DE Z W (tCB (rIsi Z.K) (tCons ta (tCons (tC (.ty T)) tNil))) (f1 (isiD T) fa) := by
  intro Hf H O σ ρ s Q p
  refine ha.bind s p fun a ρ1 x Hf1 H1 s1 g1 k1 rx p1 => ?_
  refine op1_use (r := fun x H Q => rIsi Z.K [x, .ty T] H Q) ?_ s1 rx p1
  intro Hf H x dx z e hx h Q q
  unfold isiD at h
  cases eb : kitB (tyName dx) T with
  | none => rw [eb] at h; cases h
  | some b =>
    rw [eb] at h
    cases h
    exact ⟨x, .ty T, .type (tyName dx), .type T, b, rfl, .ty T, ty_of e hx, kit_ty eb, q _ Hf H (Pg.refl e) (.bl b)⟩
def isIntD : Pd → Bool
  | .int _ => true
  | .bool _ => true
  | _ => false
def isBoolD : Pd → Bool
  | .bool _ => true
  | _ => false
def isStrD : Pd → Bool
  | .str _ => true
  | _ => false
def isTupD : Pd → Bool
  | .tuple _ => true
  | _ => false
def isLstD : Pd → Bool
  | .list _ => true
  | _ => false
omit [WD] in
theorem isi_of {T : String} {f : Pd → Bool} (h : ∀ d, kitB (tyName d) T = some (f d)) (d : Pd) : isiD T d = some (.bool (f d)) := by
  unfold isiD
  rw [h d]
  rfl
omit [WD] in
theorem isi_int (d : Pd) : isiD "int" d = some (.bool (isIntD d)) := isi_of (fun d => by
  cases d <;> simp only [tyName, isIntD] <;> decide +kernel) d
omit [WD] in
theorem isi_bool (d : Pd) : isiD "bool" d = some (.bool (isBoolD d)) := isi_of (fun d => by
  cases d <;> simp only [tyName, isBoolD] <;> decide +kernel) d
omit [WD] in
theorem isi_str (d : Pd) : isiD "str" d = some (.bool (isStrD d)) := isi_of (fun d => by
  cases d <;> simp only [tyName, isStrD] <;> decide +kernel) d
omit [WD] in
theorem isi_tuple (d : Pd) : isiD "tuple" d = some (.bool (isTupD d)) := isi_of (fun d => by
  cases d <;> simp only [tyName, isTupD] <;> decide +kernel) d
omit [WD] in
theorem isi_list (d : Pd) : isiD "list" d = some (.bool (isLstD d)) := isi_of (fun d => by
  cases d <;> simp only [tyName, isLstD] <;> decide +kernel) d
/-! ### dicts written -/
theorem d_dict0 : DE Z W (tLockD tDNewK) (fC (.dict [])) := by
  intro Hf H O σ ρ s Q p q nq
  refine ⟨q, [], rfl, upd_same, fun o => ?_⟩
  rw [upd_twice]
  have g := Pg.new (o := .frz o (.dK [])) s.ex nq
  exact p _ _ (s.grow g) g.gr Kp.refl _ (.dct upd_same .nil)
def keyD : Pd → Option Key
  | .int i => some (.inl i)
  | .str x => some (.inr x)
  | _ => none
theorem keyD_ok {K : PySem.W.Frag} {H : Hp} {v : V} {d : Pd} {k : Key} (h : RD K H v d) (e : keyD d = some k) : v = kV k ∧ d = kD k := by
  cases h <;> cases e <;> exact ⟨rfl, rfl⟩
def kDisp1 : AV → AV → Rho → R AV
  | .d k, .d v, ρ2 => match keyD k with
    | some _ => .ok (.d (.dict [(k, v)])) ρ2
    | none => .bad
  | _, _, _ => .bad
def fDisp1 (fk fv : Rho → R AV) : Rho → R AV := fun ρ => (fk ρ).bind fun a ρ1 => (fv ρ1).bind fun b ρ2 => kDisp1 a b ρ2
theorem d_dict1 {tk tv : TE} {fk fv : Rho → R AV} (hk : DE Z W tk fk) (hv : DE Z W tv fv) : DE Z W (tLockD (tDisp [(tk, tv)])) (fDisp1 fk fv) := by
  intro Hf H O σ ρ s Q p q nq
  have no : ¬ O q := fun z => by
    obtain ⟨⟨o, t⟩, _⟩ := s.otr q z
    rw [nq] at t; cases t
  have g0 := Pg.lay (o := .dK []) s.ex nq
  have s0 := s.grow g0
  refine hk Hf _ O σ ρ s0 _ ?_
  have fq0 := fresh_back s.ex nq
  unfold fDisp1 at p
  cases ek : fk ρ with
  | bad => rw [ek] at p; exact p
  | ex x ρ1 => rw [ek] at p; exact fun cls d Hf' H' s' g' k' xr => p cls d Hf' H' s' (g0.gr.trans g') k' xr
  | ok a ρ1 =>
    rw [ek] at p
    intro Hf1 H1 s1 g1 k1 x rx
    refine hv Hf1 H1 O σ ρ1 s1 _ ?_
    have p : PostG Z W O σ ρ Hf H (fun a _ Hf' H' => ∀ v, RA Z.K Hf' σ v a → Q v H') ((fv ρ1).bind fun b ρ2 => kDisp1 a b ρ2) := p
    cases ev : fv ρ1 with
    | bad => rw [ev] at p; exact p
    | ex x ρ2 => rw [ev] at p; exact fun cls d Hf' H' s' g' k' xr => p cls d Hf' H' s' (g0.gr.trans (g1.trans g')) (k1.trans k') xr
    | ok b ρ2 =>
      rw [ev] at p
      intro Hf2 H2 s2 g2 k2 y ry
      cases a with
      | sl i => exact p.elim
      | d k =>
        cases b with
        | sl i => exact p.elim
        | d v =>
          have p : PostG Z W O σ ρ Hf H (fun a _ Hf' H' => ∀ v, RA Z.K Hf' σ v a → Q v H') (match keyD k with
            | some _ => .ok (.d (.dict [(k, v)])) ρ2
            | none => .bad) := p
          cases e : keyD k with
          | none => rw [e] at p; exact p.elim
          | some kk =>
            rw [e] at p
            obtain ⟨ex, rfl⟩ := keyD_ok (show RD Z.K Hf1 x k from rx) e
            have gg := g1.trans g2
            have hq2 : H2 q = some (.dK []) := gg.fm _ _ upd_same no
            have fq2 : Hf2 q = none := gg.stays upd_same fq0 no
            refine ⟨hq2, [(kk, y)], by rw [ex]; rfl, by simp, q, [(kk, y)], rfl, upd_same, fun o => ?_⟩
            rw [show mergeK [] [(kk, y)] = [(kk, y)] from rfl, upd_twice]
            have s3 := s2.other (o' := .frz o (.dK [(kk, y)])) hq2 fq2 no
            have s4 := s3.freeze upd_same fq2 no
            refine p _ _ s4 ⟨(g0.gr.trans gg).ex.trans (Ex.new fq2), ((g0.gr.trans gg).upd nq).fm, ((g0.gr.trans gg).upd nq).tr, fun a o h => ?_⟩ (k1.trans k2) _ (.dct upd_same (.cons (RD.mono (Ex.new fq2) ry) .nil))
            by_cases z : a = q
            · subst z; exact .inr (.inl nq)
            · rw [upd_ne z] at h; exact (g0.gr.trans gg).nw a o h
end
end Dt
namespace Dt
open PySem PySem.Spec L2 Evl
variable [WD]
/-- a def of the top, as it stands -/
structure FnI (K : PySem.W.Frag) (mg : Str → Option Value) (x : Str) (st : Stmt) where
  f : Addr
  fd : FuncData
  F : FunD K x x (defArgs st) (defBody st) (defScope st) [] [] f fd
  g : mg x = some (.ref f)
omit [WD] in
theorem u65 {k : Nat} {A : Around} (r : Room k A) : A.units + 65 < cLine := by have := r.un; omega
theorem bt_all : bootBuiltins "all" = some (.builtin "all") := by decide +kernel
theorem bt_any : bootBuiltins "any" = some (.builtin "any") := by decide +kernel
theorem bt_sum : bootBuiltins "sum" = some (.builtin "sum") := by decide +kernel
theorem bt_sorted : bootBuiltins "sorted" = some (.builtin "sorted") := by decide +kernel
theorem bt_max : bootBuiltins "max" = some (.builtin "max") := by decide +kernel
theorem bt_min : bootBuiltins "min" = some (.builtin "min") := by decide +kernel
def negD : Pd → Option Pd
  | .int i => some (.int (-i))
  | _ => none
theorem ru_neg {K : PySem.W.Frag} : RUn K (rU fun i => .int (-i)) negD := by
  intro Hf H x dx z e hx h Q q
  unfold negD at h
  split at h
  · cases h
    exact ⟨_, hx.int, q _ Hf H (Pg.refl e) (.int _)⟩
  · cases h
/-- int(x) of an int or a truth -/
def intOfD : List Pd → Option Pd
  | [.int i] => some (.int i)
  | [.bool b] => some (.int (if b then 1 else 0))
  | _ => none
theorem rc_intOf {K : PySem.W.Frag} : RCall K (fun xs H Q => (∃ i, xs = [.int i] ∧ Q (.int i) H) ∨ ∃ k, xs = [.bl k] ∧ Q (.int (if k then 1 else 0)) H) intOfD := by
  intro Hf H vs xs z e hx h Q q
  unfold intOfD at h
  split at h
  · cases h
    obtain ⟨v, rfl, hv⟩ := hx.one
    obtain rfl := hv.int
    exact .inl ⟨_, rfl, q _ Hf H (Pg.refl e) (.int _)⟩
  · cases h
    obtain ⟨v, rfl, hv⟩ := hx.one
    obtain rfl := hv.bool
    exact .inr ⟨_, rfl, q _ Hf H (Pg.refl e) (.int _)⟩
  · cases h
/-! ### the rules that look at the written part, by its name -/
section
variable {X : Cx}
theorem kAdd (K : PySem.W.Frag) (hK : X.K = K := by rfl) : OpR X (binaryOp .Add) (rAddA K) := by subst hK; exact opAdd
theorem kEq (K : PySem.W.Frag) (hu : X.A.units + 64 < cLine) (hK : X.K = K := by rfl) : OpR X (compareOp .Eq) (rEqA K) := by subst hK; exact opEq hu
theorem kNe (K : PySem.W.Frag) (hu : X.A.units + 64 < cLine) (hK : X.K = K := by rfl) : OpR X (compareOp .NotEq) (rNeA K) := by subst hK; exact opNe hu
theorem kIn (K : PySem.W.Frag) (hu : X.A.units + 65 < cLine) (hK : X.K = K := by rfl) : OpR X (compareOp .In) (rInA K) := by subst hK; exact opIn hu
theorem kNotIn (K : PySem.W.Frag) (hu : X.A.units + 65 < cLine) (hK : X.K = K := by rfl) : OpR X (compareOp .NotIn) (rNotInA K) := by subst hK; exact opNotIn hu
theorem kIx (K : PySem.W.Frag) (hK : X.K = K := by rfl) : IxR X (rIx K) := by subst hK; exact ix_seq
theorem kSl (K : PySem.W.Frag) (hK : X.K = K := by rfl) : SlR X (rSlAll K) := by subst hK; exact slAll
theorem kLen (K : PySem.W.Frag) (hK : X.K = K := by rfl) : CallR X (.builtin "len") (rLenA K) := by subst hK; exact callLen
theorem kAll (K : PySem.W.Frag) (hc : X.calm = true) (hK : X.K = K := by rfl) : CallR X (.builtin "all") (rAll K) := by subst hK; exact cr_all hc
theorem kAny (K : PySem.W.Frag) (hc : X.calm = true) (hK : X.K = K := by rfl) : CallR X (.builtin "any") (rAny K) := by subst hK; exact cr_any hc
theorem kSum (K : PySem.W.Frag) (hc : X.calm = true) (hK : X.K = K := by rfl) : CallR X (.builtin "sum") (rSum K) := by subst hK; exact cr_sum hc
theorem kIsi (K : PySem.W.Frag) (hK : X.K = K := by rfl) : CallR X (.builtin "isinstance") (rIsi K) := by subst hK; exact call_isi
theorem kTuple (K : PySem.W.Frag) (hK : X.K = K := by rfl) : CallR X (.type "tuple") (rTupleA K) := by subst hK; exact call_tupleN
theorem kList (K : PySem.W.Frag) (hK : X.K = K := by rfl) : CallR X (.type "list") (rListA K) := by subst hK; exact call_list_of
theorem kJoin (K : PySem.W.Frag) (hK : X.K = K := by rfl) : MtR X "str.join" (rJoinA K) := by subst hK; exact mt_join
end
/-- the law's promise from its meaning: over every script it hands back True -/
theorem law_sp {K : PySem.W.Frag} {C : Str → Addr} {m : Rho → R RV} {H : Hp} {a : Addr} {ns : List Int} {E : XK} (h : SqL K H a (ns.map V.int)) (as' : Rho) (e : m [.d (.list (ns.map PyData.int))] = .ok (.d (.bool true)) as') :
    spF ⟨K, C⟩ 1 m [.ref a] H (fun v _ => v = .bl true) E := by
  have r : RDs K H [.ref a] [.list (ns.map PyData.int)] := .cons (.lst h RDs.flat) .nil
  refine ⟨rfl, H, fun _ => False, [.d (.list (ns.map PyData.int))], r.args (Ex.refl _), ioArgs (xs := [.list (ns.map PyData.int)]), ?_⟩
  rw [e]
  intro v Hf' H' s' g' rv
  cases rv
  rfl
omit [WD] in
/-- the walk of a law, its meaning being True over every script -/
theorem walk_D {l : PySem.W.OpenLaw} {n k : Nat} {q : Program} {loose : List Str} {XP : (Str → Option Value) → Heap → Prop} {YP : World → Heap → Prop} {d : DefRec} {x : Str} {m : Rho → R RV}
    (hn : l.most = some n) (hn2 : n ≤ sizeLine) (hdf : d.params.defaults = []) (hr : Room k callerA)
    (F : ∀ (w : World) (mg : Str → Option Value) (fa : Addr) (h : Heap), YP w h → h.Ns mainGlobals mg → mg d.name = some (.ref fa) →
      ∃ (K : PySem.W.Frag) (C : Str → Addr) (fd : FuncData), K.In h ∧ (∀ (s : Shared) (u : Value), BindsTo s fd ⟨[u], []⟩ [(x, u)]) ∧
        ∀ base : Heap, K.In base → base.Ns mainGlobals mg → FnOk l.prog w K mg base (L2.CX l.prog w) k fa fd [x] (@spF ⟨l.prog, w⟩ ⟨K, C⟩ 1 m))
    (math : ∀ ns : List Int, ns.length ≤ n → (∀ z ∈ ns, bits z ≤ 1048576) → ∃ as', m [.d (.list (ns.map PyData.int))] = .ok (.d (.bool true)) as') :
    PySem.W.WalkO q loose XP YP l.row.toRowW d [] (fun f vs => PySem.call f vs) := by
  refine Att.attach_callB hn hdf fun w s0 s1 mg mb fa o pm cd doc a vs ns G Y ho hd hcd hmg hobj hints hlen hbits hg => ?_
  letI : WD := ⟨l.prog, w⟩
  obtain ⟨K, C, fd, KX, hb, hF⟩ := F w mg fa _ Y G.T.g hmg
  obtain ⟨as', e⟩ := math ns hlen hbits
  exact law_call KX G.T.g G.T.b G.T.builtins G.T.nolimit hg hobj hints (Nat.le_trans hlen hn2) hr hF hb (fun H _ hS => law_sp hS as' e) fun H u s' z => by
    obtain ⟨_, _, _, _, _, _, _, _, _, _, _, _, q⟩ := z
    exact q
end Dt
namespace Dt
open PySem PySem.Spec L2 Evl RZ
variable [WD]
section
variable {K : PySem.W.Frag}
/-! ### max, min of two ints -/
def maxD : List Pd → Option Pd
  | [.int i, .int j] => some (.int (if j > i then j else i))
  | _ => none
def minD : List Pd → Option Pd
  | [.int i, .int j] => some (.int (if j < i then j else i))
  | _ => none
theorem rc_max : RCall K (fun xs H Q => ∃ i j, xs = [.int i, .int j] ∧ Q (.int (if j > i then j else i)) H) maxD := by
  intro Hf H vs xs z e hx h Q q
  unfold maxD at h
  split at h
  · cases h
    obtain ⟨v, u, rfl, hv, hu⟩ := hx.two
    obtain rfl := hv.int
    obtain rfl := hu.int
    exact ⟨_, _, rfl, q _ Hf H (Pg.refl e) (.int _)⟩
  · cases h
theorem rc_min : RCall K (fun xs H Q => ∃ i j, xs = [.int i, .int j] ∧ Q (.int (if j < i then j else i)) H) minD := by
  intro Hf H vs xs z e hx h Q q
  unfold minD at h
  split at h
  · cases h
    obtain ⟨v, u, rfl, hv, hu⟩ := hx.two
    obtain rfl := hv.int
    obtain rfl := hu.int
    exact ⟨_, _, rfl, q _ Hf H (Pg.refl e) (.int _)⟩
  · cases h
/-! ### sorted(texts) -/
def leS (a b : Str) : Bool := !ltCps b.cps.toList a.cps.toList
def insS (x : Str) : List Str → List Str
  | [] => [x]
  | y :: r => if leS x y = true then x :: y :: r else y :: insS x r
def sortS : List Str → List Str
  | [] => []
  | x :: r => insS x (sortS r)
omit [WD] in
theorem insS_perm (x : Str) : ∀ l, (insS x l).Perm (x :: l)
  | [] => .refl _
  | y :: r => by
    unfold insS
    split
    · exact .refl _
    · exact ((insS_perm x r).cons y).trans (.swap x y r)
omit [WD] in
theorem sortS_perm : ∀ l, (sortS l).Perm l
  | [] => .refl _
  | x :: r => (insS_perm x (sortS r)).trans ((sortS_perm r).cons x)
omit [WD] in
theorem ltCps_iff (a b : List Nat) : ltCps a b = true ↔ a < b := by
  rw [PyProof.Rows.ltCps_eq, decide_eq_true_eq]
omit [WD] in
theorem leS_iff (a b : Str) : leS a b = true ↔ a.cps.toList ≤ b.cps.toList := by
  unfold leS
  rw [Bool.not_eq_true', ← Bool.not_eq_true, ltCps_iff]
  exact Iff.rfl
omit [WD] in
theorem leS_total (a b : Str) : leS a b = true ∨ leS b a = true := by
  rw [leS_iff, leS_iff]
  exact List.le_total _ _
omit [WD] in
theorem leS_trans {a b c : Str} (h : leS a b = true) (g : leS b c = true) : leS a c = true := by
  rw [leS_iff] at *
  exact List.le_trans h g
omit [WD] in
theorem leS_anti {a b : Str} (h : leS a b = true) (g : leS b a = true) : a = b := by
  rw [leS_iff] at *
  have : a.cps.toList = b.cps.toList := List.le_antisymm h g
  obtain ⟨x⟩ := a
  obtain ⟨y⟩ := b
  have : x = y := Array.ext' this
  rw [this]
omit [WD] in
theorem insS_sorted (x : Str) : ∀ {l : List Str}, l.Pairwise (fun a b => leS a b = true) → (insS x l).Pairwise (fun a b => leS a b = true)
  | [], _ => List.pairwise_singleton _ _
  | y :: r, h => by
    unfold insS
    rw [List.pairwise_cons] at h
    split
    · rename_i hxy
      refine List.pairwise_cons.mpr ⟨fun z hz => ?_, List.pairwise_cons.mpr h⟩
      rcases List.mem_cons.mp hz with rfl | hz
      · exact hxy
      · exact leS_trans hxy (h.1 z hz)
    · rename_i hxy
      refine List.pairwise_cons.mpr ⟨fun z hz => ?_, insS_sorted x h.2⟩
      rcases List.mem_cons.mp ((insS_perm x r).mem_iff.mp hz) with rfl | hz
      · exact (leS_total z y).resolve_left hxy
      · exact h.1 z hz
omit [WD] in
theorem sortS_sorted : ∀ l, (sortS l).Pairwise (fun a b => leS a b = true)
  | [] => .nil
  | x :: r => insS_sorted x (sortS_sorted r)
omit [WD] in
theorem rising_pw : ∀ (l : List Str) (p : Str), PyProof.Rows.risingS p l = true → (p :: l).Pairwise (fun a b => leS a b = true)
  | [], p, _ => List.pairwise_singleton _ _
  | x :: r, p, h => by
    simp only [PyProof.Rows.risingS, Bool.and_eq_true] at h
    have ih := rising_pw r x h.2
    have hpx : leS p x = true := h.1
    refine List.pairwise_cons.mpr ⟨fun z hz => ?_, ih⟩
    rcases List.mem_cons.mp hz with rfl | hz
    · exact hpx
    · exact leS_trans hpx ((List.pairwise_cons.mp ih).1 z hz)
omit [WD] in
theorem sorted_unique {xs ys : List Str} (p : ys.Perm xs) (s : PyProof.Rows.sortedS ys = true) : ys = sortS xs := by
  refine List.Perm.eq_of_pairwise (le := fun a b => leS a b = true) (fun a b _ _ h g => leS_anti h g) ?_ (sortS_sorted xs) (p.trans (sortS_perm xs).symm)
  cases ys with
  | nil => exact .nil
  | cons y r => exact rising_pw r y s
def sortedD : List Pd → Option (List Pd)
  | [.list xs] => match strsD xs with
    | some ys => if ys.length < 64 then some ((sortS ys).map .str) else none
    | none => none
  | _ => none
theorem RDs.strs {H : Hp} : ∀ (ys : List Str), RDs K H (ys.map V.str) (ys.map PyData.str)
  | [] => .nil
  | y :: ys => .cons (.str y) (RDs.strs ys)
theorem rcl_sorted : RCallL K (rSortedS K) sortedD := by
  intro Hf H vs xs z e hx h Q q
  unfold sortedD at h
  split at h
  · rename_i us
    split at h
    · rename_i ys es
      split at h
      · rename_i hl
        cases h
        obtain ⟨v, rfl, hv⟩ := hx.one
        obtain ⟨l, ws, rfl, t, r⟩ := hv.list e
        obtain rfl := strs_ok r es
        refine ⟨l, ys, rfl, t, hl, fun zs p pm so np => ?_⟩
        rw [sorted_unique pm so]
        exact q p _ _ (e.trans (Ex.new np)) (Ex.new np) np upd_same (RDs.strs _)
      · cases h
    · cases h
  · cases h
/-! ### * of a text, a tuple, a list with an int -/
def mulA : Pd → Pd → Option Pd
  | .int i, .int j => if mulOk i j = true then some (.int (i * j)) else none
  | .str a, .int n => if 0 ≤ n ∧ n ≤ 1000 ∧ a.length ≤ 1000 then some (.str (Txt.mul a n)) else none
  | .tuple xs, .int n => if n = 1 then some (.tuple xs) else if xs ≠ [] ∧ 2 ≤ n ∧ n ≤ 1000 ∧ xs.length ≤ 1000 then some (.tuple (List.replicate n.toNat xs).flatten) else none
  | .list xs, .int n => if 0 ≤ n ∧ n ≤ 1000 ∧ xs.length ≤ 1000 then some (.list (List.replicate n.toNat xs).flatten) else none
  | _, _ => none
def rMulS : R2 := fun x y H Q => ∃ a n, x = .str a ∧ y = .int n ∧ MulOk a n ∧ Q (.str (Txt.mul a n)) H
theorem op_mulS {X : Cx} : OpR X (binaryOp .Mult) rMulS := by
  intro pins s σ H x y v u Q I rx ry h
  obtain ⟨a, n, rfl, rfl, hm, q⟩ := h
  obtain ⟨t, rfl⟩ := rx
  obtain ⟨t2, rfl⟩ := ry
  exact SB.mul hm fun t' k => ⟨.str _, H, I.tok k, ⟨_, rfl⟩, q⟩
omit [WD] in
theorem mulOk_str {a : Str} {n : Int} (h0 : 0 ≤ n) (h1 : n ≤ 1000) (ha : a.length ≤ 1000) : MulOk a n := by
  refine ⟨?_, fun h _ => ?_, fun _ _ => ?_⟩
  · rw [decide_eq_false (by omega), decide_eq_false (by omega)]
    rfl
  · have hn : 1 ≤ n := by omega
    intro z
    have : (2 ^ 63 - 1) / n ≥ (2 ^ 63 - 1) / 1000 := by
      have h3 : (1000 : Int) * ((2 ^ 63 - 1) / 1000) ≤ 2 ^ 63 - 1 := by decide
      have h4 : 0 ≤ ((2 ^ 63 - 1) / 1000 : Int) := by decide
      refine (Int.le_ediv_iff_mul_le (by omega)).mpr ?_
      refine Int.le_trans ?_ h3
      rw [Int.mul_comm]
      exact Int.mul_le_mul_of_nonneg_right h1 h4
    have h5 : ((2 ^ 63 - 1) / 1000 : Int) > 1000 := by decide
    omega
  · have hm : a.length * n.toNat ≤ 1000 * 1000 := Nat.mul_le_mul ha (by omega)
    show decide (_ > _) = false
    refine decide_eq_false ?_
    show ¬ (_ > sizeLine)
    simp only [sizeLine]
    omega
abbrev rMulA (K : PySem.W.Frag) : R2 := fun x y H Q => rI IntMulOk (fun i j => .int (i * j)) x y H Q ∨ rMulS x y H Q ∨ rRepT K x y H Q
theorem kMul {X : Cx} (K : PySem.W.Frag) (hK : X.K = K := by rfl) : OpR X (binaryOp .Mult) (rMulA K) := by
  subst hK
  exact op_mulG.or (op_mulS.or op_repT)
/-- what is served: ints, texts, tuples twice or more -/
def mulB : Pd → Pd → Option Pd
  | .int i, .int j => if mulOk i j = true then some (.int (i * j)) else none
  | .str a, .int n => if 0 ≤ n ∧ n ≤ 1000 ∧ a.length ≤ 1000 then some (.str (Txt.mul a n)) else none
  | _, _ => none
theorem RDs.reps {H : Hp} {vs : List V} {xs : List Pd} (r : RDs K H vs xs) : ∀ n : Nat, RDs K H (List.replicate n vs).flatten (List.replicate n xs).flatten
  | 0 => .nil
  | n + 1 => by
    rw [List.replicate_succ, List.replicate_succ, List.flatten_cons, List.flatten_cons]
    exact r.append (RDs.reps r n)
theorem ro_mulB : ROp K (rMulA K) mulB := by
  intro Hf H x y dx dy z e hx hy h Q q
  unfold mulB at h
  split at h
  · split at h
    · rename_i hm
      cases h
      exact .inl ⟨_, _, hx.int, hy.int, mulOk_ok hm, q _ Hf H (Pg.refl e) (.int _)⟩
    · cases h
  · split at h
    · rename_i hm
      cases h
      exact .inr (.inl ⟨_, _, hx.str, hy.int, mulOk_str hm.1 hm.2.1 hm.2.2, q _ Hf H (Pg.refl e) (.str _)⟩)
    · cases h
  · cases h
/-! ### list(text), tuple(text) -/
theorem sign_vals {x : Str} {acc : Array Value} (h : ItemsOf (SignAt x) acc x.cps.size) : Vals (x.cps.toList.map fun c => V.str ⟨#[c]⟩) acc.toList := by
  have hl : acc.toList.length = x.cps.toList.length := by simp [h.1]
  have all : ∀ (j : Nat) v, acc.toList[j]? = some v → ∃ c u, x.cps.toList[j]? = some c ∧ v = .str ⟨#[c]⟩ u := fun j v e => by
    rw [Array.getElem?_toList] at e
    obtain ⟨c, u, h1, h2⟩ := h.2 j v e
    exact ⟨c, u, by rw [Array.getElem?_toList]; exact h1, h2⟩
  revert hl all
  generalize x.cps.toList = cs
  generalize acc.toList = vs
  induction cs generalizing vs with
  | nil =>
    intro hl _
    cases vs with
    | nil => exact .nil
    | cons _ _ => simp at hl
  | cons c cs ih =>
    intro hl all
    cases vs with
    | nil => simp at hl
    | cons v vs =>
      obtain ⟨c', u, e1, e2⟩ := all 0 v rfl
      have e1 : c = c' := Option.some.inj e1
      subst e1
      exact .cons ⟨u, e2⟩ (ih vs (by simpa using hl) fun j w e => all (j + 1) w e)
def rListTx : List V → Hp → VK → Prop := fun xs H Q => ∃ z, xs = [.str z] ∧ z.length ≤ sizeLine ∧ ∀ l, H l = none → Q (.ref l) (upd H l (.lst (z.cps.toList.map fun c => V.str ⟨#[c]⟩)))
theorem call_listTx {X : Cx} (hc : X.calm = true) : CallR X (.type "list") rListTx := by
  intro pins s σ H xs us Q I r h
  obtain ⟨z, rfl, hz, q⟩ := h
  cases r with
  | cons r1 r2 =>
    cases r2
    obtain ⟨t, rfl⟩ := r1
    refine PySem.call_list_str (I.ok.hd hc) z t (hn := hz) fun h' tk acc c hk hS hacc => ?_
    have rv := sign_vals hacc
    refine ⟨.ref s.heap.objs.size, _, I.laid (a := s.heap.objs.size) (o := .lst (z.cps.toList.map fun c => V.str ⟨#[c]⟩)) (t' := tk) hk (Nat.le_refl _) ?_, rfl, q _ I.fresh⟩
    exact ⟨by rw [List.length_map, Array.length_toList]; exact hz, acc.toList, c, rv, by simpa using hS⟩
def rTupTx : List V → Hp → VK → Prop := fun xs H Q => ∃ z, xs = [.str z] ∧ z.length ≤ sizeLine ∧ Nt H (z.cps.toList.map fun c => V.str ⟨#[c]⟩) Q
theorem call_tupTx {X : Cx} (hc : X.calm = true) : CallR X (.type "tuple") rTupTx := by
  intro pins s σ H xs us Q I r h
  obtain ⟨z, rfl, hz, q⟩ := h
  cases r with
  | cons r1 r2 =>
    cases r2
    obtain ⟨t, rfl⟩ := r1
    refine PySem.call_tuple_str (I.ok.hd hc) z t (hsz := hz) fun h' tk acc hk hacc => ?_
    have rv := sign_vals hacc
    have I1 : L2.Inv X pins σ H { s with heap := h', toks := tk } := I.kept hk
    exact laidN (s := { s with heap := h', toks := tk }) (t' := tk) I1 (fun b o e => Heap.get?_push_of_some _ e) (Nat.le_refl _) rv (by rw [List.length_map, Array.length_toList]; exact hz) (Heap.get?_push_size _ rfl) rfl rfl ⟨0, by simp⟩ q
theorem RDs.signs {H : Hp} : ∀ (cs : List Nat), RDs K H (cs.map fun c => V.str ⟨#[c]⟩) (cs.map fun c => PyData.str ⟨#[c]⟩)
  | [] => .nil
  | c :: cs => .cons (.str _) (RDs.signs cs)
/-- list(x), tuple(x) of a list, a tuple, a text -/
def listA : List Pd → Option (List Pd)
  | [.list xs] => some xs
  | [.tuple xs] => some xs
  | [.str z] => if z.length ≤ sizeLine then some (chars z) else none
  | _ => none
abbrev rListB (K : PySem.W.Frag) : List V → Hp → VK → Prop := fun xs H Q => rListA K xs H Q ∨ rListTx xs H Q
theorem kListB {X : Cx} (K : PySem.W.Frag) (hc : X.calm = true) (hK : X.K = K := by rfl) : CallR X (.type "list") (rListB K) := by
  subst hK
  exact call_list_of.or (call_listTx hc)
theorem rcl_listA : RCallL K (rListB K) listA := by
  intro Hf H vs xs z e hx h Q q
  unfold listA at h
  split at h
  · exact .inl (rcl_list Hf H vs _ z e hx h Q q)
  · exact .inl (rcl_list Hf H vs _ z e hx h Q q)
  · split at h
    · rename_i hz
      cases h
      obtain ⟨v, rfl, hv⟩ := hx.one
      obtain rfl := hv.str
      exact .inr ⟨_, rfl, hz, fun p np => q p _ _ (e.trans (Ex.new np)) (Ex.new np) np upd_same (RDs.signs _)⟩
    · cases h
  · cases h
def tupleA : List Pd → Option Pd
  | [.list xs] => some (.tuple xs)
  | [.tuple xs] => some (.tuple xs)
  | [.str z] => if z.length ≤ sizeLine then some (.tuple (chars z)) else none
  | _ => none
abbrev rTupleB (K : PySem.W.Frag) : List V → Hp → VK → Prop := fun xs H Q => rTupleA K xs H Q ∨ rTupTx xs H Q
theorem kTupleB {X : Cx} (K : PySem.W.Frag) (hc : X.calm = true) (hK : X.K = K := by rfl) : CallR X (.type "tuple") (rTupleB K) := by
  subst hK
  exact call_tupleN.or (call_tupTx hc)
theorem rc_tupleA : RCall K (rTupleB K) tupleA := by
  intro Hf H vs xs z e hx h Q q
  unfold tupleA at h
  split at h
  · exact .inl (rc_tuple Hf H vs _ z e hx h Q q)
  · exact .inl (rc_tuple Hf H vs _ z e hx h Q q)
  · split at h
    · rename_i w hz
      cases h
      obtain ⟨v, rfl, hv⟩ := hx.one
      obtain rfl := hv.str
      refine .inr ⟨_, rfl, hz, fun p o hd np => ?_⟩
      have g := Pg.new (o := .frz o (.tup (w.cps.toList.map fun c => V.str ⟨#[c]⟩))) e np
      exact q _ _ _ g (.tup (sn_of upd_same hd) (RDs.signs _))
    · cases h
  · cases h
theorem kSorted {X : Cx} (K : PySem.W.Frag) (hK : X.K = K := by rfl) : CallR X (.builtin "sorted") (rSortedS K) := by subst hK; exact cr_sortedS
end
/-! ### zip of two lists or two tuples -/
theorem dlv_zipT {K : PySem.W.Frag} {Hf : Hp} {a b : Addr} {vs us : List V} {xs ys : List Pd} (h : SqT K Hf a vs) (r : RDs K Hf vs xs) (h2 : SqT K Hf b us) (r2 : RDs K Hf us ys) : Dlv true K (ItzT K a b) Hf ((xs.zip ys).map fun p => .tuple [p.1, p.2]) := by
  intro i Hf' H' e1 e2
  have hs : SqT K H' a vs := ex_t (e1.trans e2) h
  have hs2 : SqT K H' b us := ex_t (e1.trans e2) h2
  have l1 := r.length
  have l2 := r2.length
  refine ⟨fun hi => ?_, fun hi => ?_, fun v H'' hy x hx => ?_⟩
  · rw [List.length_map, List.length_zip] at hi
    obtain ⟨v, e, _⟩ := r.get (List.getElem?_eq_getElem (show i < xs.length by omega))
    obtain ⟨u, e', _⟩ := r2.get (List.getElem?_eq_getElem (show i < ys.length by omega))
    exact ⟨vs, us, v, u, hs, hs2, e, e'⟩
  · rw [List.length_map, List.length_zip] at hi
    exact ⟨vs, us, hs, hs2, by omega⟩
  · obtain ⟨T, x1, x2, rfl, nT, rfl, f1, f2⟩ := hy
    obtain ⟨d1, g1, rd1⟩ := r.get' (f1 vs hs)
    obtain ⟨d2, g2, rd2⟩ := r2.get' (f2 us hs2)
    have : x = .tuple [d1, d2] := by
      have z : (xs.zip ys)[i]? = some (d1, d2) := by
        rw [List.getElem?_zip_eq_some]; exact ⟨g1, g2⟩
      rw [List.getElem?_map, z] at hx
      cases hx
      rfl
    subst this
    have g := Pg.new (o := .tup [x1, x2]) e2 nT
    exact ⟨_, g, .inr ⟨rfl, _, _, _, rfl, rfl, st_of upd_same, .cons ((rd1.mono e1).mono g.ef) (.cons ((rd2.mono e1).mono g.ef) .nil)⟩⟩
section
variable {Z : Zx} {W : WX}
def zipK : List AV → Option (List Pd)
  | [.d (.list xs), .d (.list ys)] => some ((xs.zip ys).map fun p => .tuple [p.1, p.2])
  | [.d (.tuple xs), .d (.tuple ys)] => some ((xs.zip ys).map fun p => .tuple [p.1, p.2])
  | _ => none
def fZip (f : Rho → R (List AV)) : Rho → R (List Pd) := fun ρ => (f ρ).bind fun as ρ1 => match zipK as with
  | some xs => .ok xs ρ1
  | none => .bad
theorem i_zip {t : TA} {f : Rho → R (List AV)} (h : DA Z W t f) : DI true Z W (iZipA Z.K t) (fZip f) := by
  intro Hf H O σ ρ s Q p
  refine h.bind s p fun as ρ1 vs Hf1 H1 s1 g1 k1 rs p1 => ?_
  cases e : zipK as with
  | none => rw [e] at p1; exact p1.elim
  | some zs =>
    rw [e] at p1
    unfold zipK at e
    split at e
    · cases e
      cases rs with
      | cons r1 r2 =>
        cases r2 with
        | cons r2 r3 =>
          cases r3
          cases r1 with
          | lst a1 a2 =>
            cases r2 with
            | lst b1 b2 => exact ⟨_, _, _, _, rfl, .inl ⟨ex_l s1.ex a1, ex_l s1.ex b1, p1 Hf1 H1 s1 Gr.refl Kp.refl _ (dlv_zip a1 a2 b1 b2)⟩⟩
    · cases e
      cases rs with
      | cons r1 r2 =>
        cases r2 with
        | cons r2 r3 =>
          cases r3
          cases r1 with
          | tup a1 a2 =>
            cases r2 with
            | tup b1 b2 => exact ⟨_, _, _, _, rfl, .inr ⟨ex_t s1.ex a1.sq, ex_t s1.ex b1.sq, p1 Hf1 H1 s1 Gr.refl Kp.refl _ (dlv_zipT a1.sq a2 b1.sq b2)⟩⟩
    · cases e
/-! ### a call that reads owned lists: what comes is flat -/
def flatL (xs : List Pd) : Bool := xs.all flatD
theorem RDs.flatL {K : PySem.W.Frag} {H H' : Hp} : ∀ {vs : List V} {xs : List Pd}, RDs K H vs xs → Dt.flatL xs = true → RDs K H' vs xs
  | _, _, .nil, _ => .nil
  | _, _, .cons h hs, f => by
    simp only [Dt.flatL, List.all_cons, Bool.and_eq_true] at f
    exact .cons (h.flat f.1) (RDs.flatL hs f.2)
/-- the heap with all owned lists but one frozen -/
noncomputable def lentH (Hf H : Hp) (O : Addr → Prop) (l : Option Addr) : Hp := fun a => by
  classical
  exact if O a ∧ some a ≠ l then H a else Hf a
theorem lent_ex {K : PySem.W.Frag} {Hf H : Hp} {O : Addr → Prop} {σ : L2.St} {ρ : Rho} (s : SR K Hf H O σ ρ) (l : Option Addr) : Ex Hf (lentH Hf H O l) ∧ Ex (lentH Hf H O l) H := by
  refine ⟨fun a o h => ?_, fun a o h => ?_⟩
  · unfold lentH
    rw [if_neg fun z => by rw [(s.otr a z.1).2] at h; cases h]
    exact h
  · unfold lentH at h
    split at h
    · exact h
    · exact s.ex a o h
theorem RX.lent {K : PySem.W.Frag} {Hf H : Hp} {O : Addr → Prop} {σ : L2.St} {ρ : Rho} (s : SR K Hf H O σ ρ) {l : Option Addr} {v : V} {a : AV} {x : Pd} (h : RA K Hf σ v a) (e : res ρ a = some x) (hne : ∀ i b xs, a = .sl i → ρ[i]? = some (.own b xs) → ∀ m, l = some m → σ[i]? ≠ some (some (.ref m))) : RD K (lentH Hf H O l) v x := by
  have ex := lent_ex s l
  cases a with
  | d y => cases e; exact RD.mono ex.1 h
  | sl i =>
    simp only [res] at e
    cases q : ρ[i]? with
    | none => rw [q] at e; cases e
    | some z =>
      rw [q] at e
      cases z with
      | no => cases e
      | x _ => cases e
      | m _ _ => cases e
      | d y =>
        cases e
        obtain ⟨u, h1, h2⟩ := s.slot i _ q
        rw [show σ[i]? = some (some v) from h] at h1
        cases h1
        exact h2.mono ex.1
      | own b xs =>
        cases e
        obtain ⟨m, vs, h1, h2, h3, h4⟩ := s.own i b xs q
        have hm := hne i b xs rfl q
        rw [show σ[i]? = some (some v) from h] at h1
        cases h1
        refine .lst (sq_of ?_) (h4.mono ex.1)
        unfold lentH
        rw [if_pos ⟨h2, fun z => hm m z.symm (by rw [show σ[i]? = some (some (.ref m)) from h])⟩]
        exact h3
def noSl (i : Nat) : List AV → Bool
  | [] => true
  | .sl j :: as => decide (j ≠ i) && noSl i as
  | .d _ :: as => noSl i as
theorem lent_args {K : PySem.W.Frag} {Hf H : Hp} {O : Addr → Prop} {σ : L2.St} {ρ : Rho} (s : SR K Hf H O σ ρ) {i : Nat} {b : Bool} {ps : List Pd} (ei : ρ[i]? = some (.own b ps)) {l : Addr} (hl : σ[i]? = some (some (.ref l))) :
    ∀ {vs : List V} {as : List AV} {xs : List Pd}, RAs K Hf σ vs as → ress ρ as = some xs → noSl i as = true → RDs K (lentH Hf H O (some l)) vs xs
  | _, _, _, .nil, e, _ => by cases e; exact .nil
  | _, _, _, .cons (a := a) (as := as) h hs, e, n => by
    simp only [ress] at e
    cases q : res ρ a with
    | none => rw [q] at e; cases e
    | some y =>
      cases q2 : ress ρ as with
      | none => rw [q, q2] at e; cases e
      | some ys =>
        rw [q, q2] at e
        cases e
        have n2 : noSl i as = true := by
          cases a with
          | d z => exact n
          | sl j =>
            simp only [noSl, Bool.and_eq_true] at n
            exact n.2
        refine .cons (RX.lent s h q fun j c us ea ej m em hj => ?_) (lent_args s ei hl hs q2 n2)
        subst ea
        cases em
        simp only [noSl, Bool.and_eq_true, decide_eq_true_eq] at n
        exact n.1 (s.dis j i c b us ps l ej ei hj hl)
def kCallPB (n i : Nat) (g : Rho → R RV) (as : List AV) (ρ1 : Rho) : R AV :=
  if noSl i as = true ∧ as.length = n then match ress ρ1 as, ρ1[i]? with
    | some xs, some (.own b ps) => match g (.own true ps :: xs.map Sl.d) with
      | .ok (.d x) (.own _ ps' :: _) => if flatD x = true ∧ flatL ps' = true then .ok (.d x) (ρ1.set i (.own b ps')) else .bad
      | _ => .bad
    | _, _ => .bad
  else .bad
/-- f(x, e, ..): the list of the slot i is changed, other owned lists are read; flat data come -/
def fCallPB (n i : Nat) (g : Rho → R RV) (fa : Rho → R (List AV)) : Rho → R AV := fun ρ => match ρ[i]? with
  | some (.own _ _) => (fa ρ).bind fun as ρ1 => kCallPB n i g as ρ1
  | _ => .bad
theorem RAs.length {K : PySem.W.Frag} {Hf : Hp} {σ : L2.St} : ∀ {vs : List V} {as : List AV}, RAs K Hf σ vs as → vs.length = as.length
  | _, _, .nil => rfl
  | _, _, .cons _ hs => congrArg Nat.succ (RAs.length hs)
theorem d_callPB {n i : Nat} {g : Rho → R RV} {t : TA} {fa : Rho → R (List AV)} (ha : DA Z W t fa) : DE Z W (tCallS (spF Z (n + 1) g) (WE W) (tCons (tVar i) t)) (fCallPB n i g fa) := by
  intro Hf H O σ ρ s Q p
  unfold fCallPB at p
  cases e0 : ρ[i]? with
  | none => rw [e0] at p; exact p.elim
  | some z0 =>
    rw [e0] at p
    cases z0 with
    | no => exact p.elim
    | x _ => exact p.elim
    | m _ _ => exact p.elim
    | d y => exact p.elim
    | own b0 ps0 =>
      simp only at p
      obtain ⟨l, vs0, h1, h2, h3, h4⟩ := s.own i b0 ps0 e0
      refine ⟨.ref l, h1, ?_⟩
      refine ha.bind s p fun as ρ1 vs Hf1 H1 s1 g1 k1 rs p1 => ?_
      unfold kCallPB at p1
      by_cases hc : noSl i as = true ∧ as.length = n
      case neg => rw [if_neg hc] at p1; exact p1.elim
      rw [if_pos hc] at p1
      cases ed : ress ρ1 as with
      | none => rw [ed] at p1; exact p1.elim
      | some xs =>
        cases e1 : ρ1[i]? with
        | none => rw [ed, e1] at p1; exact p1.elim
        | some z1 =>
          rw [ed, e1] at p1
          cases z1 with
          | no => exact p1.elim
          | x _ => exact p1.elim
          | m _ _ => exact p1.elim
          | d y => exact p1.elim
          | own b ps =>
            simp only at p1
            obtain ⟨l', us1, m1, m2, m3, m4⟩ := s1.own i b ps e1
            rw [h1] at m1
            cases m1
            have ex := lent_ex s1 (some l)
            have r := lent_args s1 e1 h1 rs ed hc.1
            have hfl : Hf1 l = none := (s1.otr l m2).2
            have hcl : lentH Hf1 H1 O (some l) l = none := by
              unfold lentH
              rw [if_neg fun z => z.2 rfl]
              exact hfl
            have ra := r.args ex.2
            have sc : SR Z.K (lentH Hf1 H1 O (some l)) H1 (fun a => a = l) ((V.ref l :: vs).map some) (.own true ps :: xs.map Sl.d) := by
              refine ⟨ex.2, fun a h => ?_, by simp [r.length], fun j x h => ?_, fun j c x h => ?_, fun j k c d x y m a1 a2 _ _ => ?_, fun j e' h => ?_, MR.none fun j c o h => ?mu⟩
              case mu =>
                cases j with
                | zero => cases h
                | succ j => exact ioArgs (xs := xs) (σ := []) |>.nom j c o h
              · subst h
                exact ⟨⟨_, m3⟩, hcl⟩
              · cases j with
                | zero => cases h
                | succ j => exact ra.slot j x h
              · cases j with
                | zero => cases h; exact ⟨l, us1, rfl, rfl, m3, m4.mono ex.1⟩
                | succ j => obtain ⟨_, _, _, z, _⟩ := ra.own j c x h; exact z.elim
              · cases j with
                | succ j => obtain ⟨_, _, _, z, _⟩ := ra.own j c x a1; exact z.elim
                | zero =>
                  cases k with
                  | zero => rfl
                  | succ k => obtain ⟨_, _, _, z, _⟩ := ra.own k d y a2; exact z.elim
              · cases j with
                | zero => cases h
                | succ j => exact ra.exc j e' h
            refine ⟨by simp [RAs.length rs, hc.2], lentH Hf1 H1 O (some l), fun a => a = l, .own true ps :: xs.map Sl.d, sc, ioArgsP, ?_⟩
            cases eg : g (.own true ps :: xs.map Sl.d) with
            | bad => rw [eg] at p1; exact p1.elim
            | ex y as' => rw [eg] at p1; exact p1.elim
            | ok rv as' =>
              rw [eg] at p1
              cases rv with
              | l ys => exact p1.elim
              | m ys => exact p1.elim
              | d y =>
                match as', p1 with
                | [], p1 => exact p1.elim
                | .no :: _, p1 => exact p1.elim
                | .x _ :: _, p1 => exact p1.elim
                | .m _ _ :: _, p1 => exact p1.elim
                | .d _ :: _, p1 => exact p1.elim
                | .own c ps' :: as'', p1 =>
                  by_cases hff : flatD y = true ∧ flatL ps' = true
                  case neg =>
                    simp only [if_neg hff] at p1
                    exact p1.elim
                  simp only [if_pos hff] at p1
                  intro v Hf' H' s' g' rd
                  obtain ⟨l1, us', q1, q2, q3, q4⟩ := s'.own 0 c ps' rfl
                  subst q2
                  have hi := (List.getElem?_eq_some_iff.mp e1).1
                  have sb : SR Z.K Hf1 H' O σ (ρ1.set i (.own b ps')) := by
                    refine ⟨fun a o h => ?_, fun a h => ?_, by simp [s1.len], fun j x h => ?_, fun j d x h => ?_, fun j k d d' x y m a1 a2 a3 a4 => ?_, fun j e' h => ?_, s1.mr.gen (Ex.refl _) (fun j c o h => ?mu1) (fun j c o h => ?mu2) (fun a u _ n h => g'.fm a u h fun z => n i b ps e1 (by rw [z]; exact h1)) fun _ h _ => h⟩
                    case mu1 =>
                      by_cases z : i = j
                      · subst z; rw [List.getElem?_set_self hi] at h; cases h
                      · rw [List.getElem?_set_ne z] at h; exact ⟨h, rfl⟩
                    case mu2 =>
                      by_cases z : i = j
                      · subst z; exact ⟨⟨b, ps, e1⟩, rfl⟩
                      · rw [List.getElem?_set_ne z] at h; exact ⟨⟨c, o, h⟩, rfl⟩
                    · exact g'.fm a o (s1.ex a o h) fun z => by rw [z, hfl] at h; cases h
                    · obtain ⟨⟨o, t1⟩, t2⟩ := s1.otr a h
                      exact ⟨g'.tr a o t1, t2⟩
                    · by_cases z : i = j
                      · subst z
                        rw [List.getElem?_set_self hi] at h
                        cases h
                      · rw [List.getElem?_set_ne z] at h
                        exact s1.slot j x h
                    · by_cases z : i = j
                      · subst z
                        rw [List.getElem?_set_self hi] at h
                        cases h
                        exact ⟨l1, us', h1, m2, q3, q4.flatL hff.2⟩
                      · rw [List.getElem?_set_ne z] at h
                        obtain ⟨k, ws, b1, b2, b3, b4⟩ := s1.own j d x h
                        exact ⟨k, ws, b1, b2, g'.fm _ _ b3 fun z2 => z (s1.dis i j b d ps x l1 e1 h h1 (by rw [← z2]; exact b1)), b4⟩
                    · have back : ∀ {j : Nat} {d x}, (ρ1.set i (.own b ps'))[j]? = some (.own d x) → ∃ d x, ρ1[j]? = some (.own d x) := fun {j d x} q => by
                        by_cases z : i = j
                        · subst z; exact ⟨b, ps, e1⟩
                        · rw [List.getElem?_set_ne z] at q; exact ⟨d, x, q⟩
                      obtain ⟨c1, x1, a1⟩ := back a1
                      obtain ⟨c2, x2, a2⟩ := back a2
                      exact s1.dis j k c1 c2 x1 x2 m a1 a2 a3 a4
                    · by_cases z : i = j
                      · subst z
                        rw [List.getElem?_set_self hi] at h
                        cases h
                      · rw [List.getElem?_set_ne z] at h
                        exact s1.exc j e' h
                  exact p1 Hf1 H' sb ⟨Ex.refl _, fun a o h n => g'.fm a o h fun z => n (by rw [z]; exact m2), g'.tr, fun a o h => .inl h⟩ (kp_chg e1) v (rd.flat hff.1)
end
/-! ### walks and targets, the written part by its name -/
section
variable {X : Cx} {tg l : Expr}
theorem kPiList (K : PySem.W.Frag) {tl : TE} (hl : PE X l tl) (hK : X.K = K := by rfl) : PI X tg l (iList K tl) := by subst hK; exact pi_list hl
theorem kPiTup (K : PySem.W.Frag) {tl : TE} (hl : PE X l tl) (hK : X.K = K := by rfl) : PI X tg l (iTup K tl) := by subst hK; exact pi_tup hl
theorem kPiZip (K : PySem.W.Frag) {e e2 : Expr} {ta : TA} {p pos tpos : Pos} {elts : List Expr} {kk : Nat} (hg : Gl X "zip") (hm : X.mg "zip" = none) (ha : PA X [e, e2] ta)
    (hs : starEach [e, e2] X.env = (false, eval e X.env) :: starEach [e2] X.env := by rfl) (hpl : (backTo pos (starEach [e2] X.env)).any (·.1) = false := by rfl) (hK : X.K = K := by rfl) :
    PI X (.Tuple elts kk tpos) (.Call (.Name "zip" p) [e, e2] [] pos) (iZipA K ta) := by subst hK; exact pi_zipA hg hm ha hs hpl
theorem kgTup (K : PySem.W.Frag) {es : List Expr} {k n : Nat} {pos : Pos} {t : TGs} (hc : X.calm = true) (h : PGs X es t) (hn : (assignEach es X.env).length = n := by rfl) (hst : (assignEach es X.env).findIdx? (·.1) = none := by rfl) (hK : X.K = K := by rfl) :
    PG X (.Tuple es k pos) (gTup K n t) := by subst hK; exact pg_tup hc h hn hst
end
/-! ### x[0], y = divmod(x[0], e): an owned list of one number -/
section
variable {Z : Zx} {W : WX}
abbrev rDivmod : List V → Hp → VK → Prop := fun xs H Q => ∃ i j, xs = [.int i, .int j] ∧ CDiv i j ∧ ∀ p, H p = none → Q (.ref p) (upd H p (.tup [.int (i / j), .int (i % j)]))
/-- the slot i holds the list, the slot j takes the rest -/
def fTake (i j : Nat) (fe : Rho → R AV) : Rho → R Fl := fun ρ => match ρ[i]? with
  | some (.own _ [.int n]) => (fe ρ).bind fun a ρ1 => match a, ρ1[i]? with
    | .d (.int m), some (.own b [_]) => if 0 < m ∧ m < 1073741824 then
        match put j (.int (n % m)) (ρ1.set i (.own b [.int (n / m)])) with
        | some ρ2 => .ok .nx ρ2
        | none => .bad
      else .bad
    | _, _ => .bad
  | _ => .bad
theorem s_take {i j : Nat} {te : TE} {fe : Rho → R AV} (he : DE Z W te fe) :
    DS Z W (tAsg (tCB rDivmod (tCons (tOp (rIx Z.K) (tVar i) (tC (.int 0))) (tCons te tNil))) (gTup Z.K 2 (gCons (gSub (tVar i) (tC (.int 0)) rSetL) (gCons (gName j) gNil)))) (fTake i j fe) := by
  intro Hf H O σ ρ s En p
  unfold fTake at p
  split at p
  case h_2 => exact p.elim
  rename_i b0 n0 e0
  obtain ⟨l, vs, h1, h2, h3, h4⟩ := s.own i b0 _ e0
  cases h4 with
  | cons r0 rn =>
    cases rn
    cases r0
    -- x[0]
    refine ⟨.ref l, h1, .inl ⟨l, _, 0, .int n0, rfl, rfl, sq_of h3, rfl, ?_⟩⟩
    refine DJ.bindS he s p fun a ρ1 v Hf1 H1 s1 g1 k1 rv p1 => ?_
    split at p1
    case h_2 => exact p1.elim
    rename_i m b x e1
    cases rv
    by_cases hm : 0 < m ∧ m < 1073741824
    case neg => rw [if_neg hm] at p1; exact p1.elim
    rw [if_pos hm] at p1
    refine ⟨n0, m, rfl, hm, fun t nt => ?_⟩
    obtain ⟨l', us, q1, q2, q3, q4⟩ := s1.own i b [x] e1
    rw [h1] at q1
    cases q1
    cases q4 with
    | cons rx rn =>
      cases rn
      rename_i w
      have pg := Pg.lay (o := .tup [.int (n0 / m), .int (n0 % m)]) s1.ex nt
      have s2 := s1.grow pg
      have hl2 : upd H1 t (.tup [.int (n0 / m), .int (n0 % m)]) l = some (.lst [w]) := pg.eh _ _ q3
      have s3 := s2.chg (us := [.int (n0 / m)]) (ys := [.int (n0 / m)]) e1 h1 hl2 (.cons (.int _) .nil)
      refine ⟨t, _, rfl, st_of upd_same, rfl, _, _, rfl, .ref l, h1, l, [w], 0, 0, rfl, rfl, hl2, rfl, _, _, rfl, rfl, ?_⟩
      cases ep : put j (.int (n0 % m)) (ρ1.set i (.own b [.int (n0 / m)])) with
      | none => rw [ep] at p1; exact p1.elim
      | some ρ2 =>
        rw [ep] at p1
        obtain ⟨hj, rfl, nj⟩ := put_some ep
        exact p1 Hf1 _ O _ (s3.putD hj (.int _)) ((g1.trans pg.gr).chg q2) Orl.refl (Kq.trans (Kq.trans k1.kq (kp_chg (ys := [.int (n0 / m)]) e1).kq) (Kq.setS nj.1 nj.2))
end
/-! ### f(new list, e, ..): the new list is changed and then forgotten -/
section
variable {Z : Zx} {W : WX}
theorem SR.temp {K : PySem.W.Frag} {Hf H Hf2 H2 Hf' H' : Hp} {O : Addr → Prop} {σ : L2.St} {ρ2 : Rho} {l : Addr} (h0 : H l = none) (no : ¬ O l) (s2 : SR K Hf2 H2 O σ ρ2) (g2 : Gr O Hf H Hf2 H2) (e' : Ex Hf' H') (g : Gr (fun a => a = l) Hf2 H2 Hf' H') : SR K Hf' H' O σ ρ2 ∧ Gr O Hf H Hf' H' := by
  refine ⟨⟨e', fun a h => ?_, s2.len, fun i x h => ?_, fun i b xs h => ?_, s2.dis, fun i e' h => ?_, s2.mr.heap g.ex (fun a u ha _ h => g.fm a u h fun z => no (by rw [← z]; exact ha)) fun _ h _ => h⟩, ⟨g2.ex.trans g.ex, fun a o h n => ?_, fun a o h => ?_, fun a o h => ?_⟩⟩
  · obtain ⟨⟨o, t1⟩, t2⟩ := s2.otr a h
    refine ⟨g.tr a o t1, ?_⟩
    cases e1 : Hf' a with
    | none => rfl
    | some u =>
      rcases g.nw a u e1 with z | z | z
      · rw [t2] at z; cases z
      · rw [t1] at z; cases z
      · rw [z] at h; exact (no h).elim
  · obtain ⟨v, t1, t2⟩ := s2.slot i x h
    exact ⟨v, t1, t2.mono g.ex⟩
  · obtain ⟨k, ws, b1, b2, b3, b4⟩ := s2.own i b xs h
    exact ⟨k, ws, b1, b2, g.fm _ _ b3 fun z => no (by rw [← z]; exact b2), b4.mono g.ex⟩
  · obtain ⟨v, t1, t2⟩ := s2.exc i e' h
    exact ⟨v, t1, t2.mono g.ex⟩
  · refine g.fm a o (g2.fm a o h n) fun z => ?_
    rw [z, h0] at h; cases h
  · obtain ⟨o1, h1⟩ := g2.tr a o h
    exact g.tr a o1 h1
  · rcases g.nw a o h with z | z | z
    · exact g2.nw a o z
    · exact .inr (.inl (g2.gone z))
    · exact .inr (.inl (by rw [z]; exact h0))
def kCallT (g : Rho → R RV) (ps : List Pd) (o : Option (List Pd)) (ρ1 : Rho) : R AV := match o with
  | some xs => match g (.own true ps :: xs.map Sl.d) with
    | .ok (.d x) _ => .ok (.d x) ρ1
    | .ex e _ => .ex e ρ1
    | _ => .bad
  | none => .bad
def fCallT (n : Nat) (g : Rho → R RV) (fl : Rho → R (List Pd)) (fa : Rho → R (List AV)) : Rho → R AV := fun ρ => (fl ρ).bind fun ps ρ1 => (fa ρ1).bind fun as ρ2 => kCallT g ps (argsD n as) ρ2
theorem d_callT {n : Nat} {g : Rho → R RV} {tl : TE} {t : TA} {fl : Rho → R (List Pd)} {fa : Rho → R (List AV)} (hl : DL Z W tl fl) (ha : DA Z W t fa) : DE Z W (tCallS (spF Z (n + 1) g) (WE W) (tCons tl t)) (fCallT n g fl fa) := by
  intro Hf H O σ ρ s Q p
  refine hl Hf H O σ ρ s _ ?_
  unfold fCallT at p
  cases el : fl ρ with
  | bad => rw [el] at p; exact p
  | ex x ρ1 => rw [el] at p; exact p
  | ok ps ρ1 =>
    rw [el] at p
    intro Hf1 H1 s1 g1 k1 lv rl
    obtain ⟨l, us, rfl, h0, h1, h2, h3⟩ := rl
    have no : ¬ O l := fun z => by
      obtain ⟨⟨o, q⟩, _⟩ := s.otr l z
      rw [h0] at q; cases q
    have p : PostG Z W O σ ρ Hf H (fun a _ Hf' H' => ∀ v, RA Z.K Hf' σ v a → Q v H') ((fa ρ1).bind fun as ρ2 => kCallT g ps (argsD n as) ρ2) := p
    refine ha Hf1 H1 O σ ρ1 s1 _ ?_
    cases ea : fa ρ1 with
    | bad => rw [ea] at p; exact p
    | ex x ρ2 => rw [ea] at p; exact fun cls d Hf' H' s' g' k' xr => p cls d Hf' H' s' (g1.trans g') (k1.trans k') xr
    | ok as ρ2 =>
      rw [ea] at p
      intro Hf2 H2 s2 g2 k2 vs rs
      have p : PostG Z W O σ ρ Hf H (fun a _ Hf' H' => ∀ v, RA Z.K Hf' σ v a → Q v H') (kCallT g ps (argsD n as) ρ2) := p
      unfold kCallT at p
      cases ed : argsD n as with
      | none => rw [ed] at p; exact p.elim
      | some xs =>
        rw [ed] at p
        simp only at p
        obtain ⟨r, hn⟩ := argsD_ok rs ed
        have hl2 : H2 l = some (.lst us) := g2.fm _ _ h1 no
        have fl2 : Hf2 l = none := g2.stays h1 h2 no
        have ra := r.args s2.ex
        have sc : SR Z.K Hf2 H2 (fun a => a = l) ((V.ref l :: vs).map some) (.own true ps :: xs.map Sl.d) := by
          refine ⟨s2.ex, fun a h => ?_, by simp [r.length], fun j x h => ?_, fun j c x h => ?_, fun j k c d x y m a1 a2 _ _ => ?_, fun j e' h => ?_, MR.none fun j c o h => ?mu⟩
          case mu =>
            cases j with
            | zero => cases h
            | succ j => exact ioArgs (xs := xs) (σ := []) |>.nom j c o h
          · subst h
            exact ⟨⟨_, hl2⟩, fl2⟩
          · cases j with
            | zero => cases h
            | succ j => exact ra.slot j x h
          · cases j with
            | zero => cases h; exact ⟨l, us, rfl, rfl, hl2, h3.mono g2.ex⟩
            | succ j => obtain ⟨_, _, _, z, _⟩ := ra.own j c x h; exact z.elim
          · cases j with
            | succ j => obtain ⟨_, _, _, z, _⟩ := ra.own j c x a1; exact z.elim
            | zero =>
              cases k with
              | zero => rfl
              | succ k => obtain ⟨_, _, _, z, _⟩ := ra.own k d y a2; exact z.elim
          · cases j with
            | zero => cases h
            | succ j => exact ra.exc j e' h
        refine ⟨congrArg Nat.succ hn, Hf2, fun a => a = l, .own true ps :: xs.map Sl.d, sc, ioArgsP, ?_⟩
        cases eg : g (.own true ps :: xs.map Sl.d) with
        | bad => rw [eg] at p; exact p.elim
        | ex y as' =>
          rw [eg] at p
          intro cls d Hf' H' s' g' xr
          obtain ⟨sb, gb⟩ := SR.temp h0 no s2 (g1.trans g2) s'.ex g'
          exact p cls d Hf' H' sb gb (k1.trans k2) xr
        | ok rv as' =>
          rw [eg] at p
          cases rv with
          | l ys => exact p.elim
          | m ys => exact p.elim
          | d y =>
            intro v Hf' H' s' g' rd
            obtain ⟨sb, gb⟩ := SR.temp h0 no s2 (g1.trans g2) s'.ex g'
            exact p Hf' H' sb gb (k1.trans k2) v rd
end
end Dt
/-! more operations: slices back to front -/
namespace Dt
open PySem PySem.Spec L2 Evl PyProof.Rows
variable [WD]
section
variable {prog : Program} {w : World} {A : Around} {E : Value → Shared → Prop} {s : Shared}
theorem sliceApplied_back {sl : Addr} {vl vu vs : Value} {n : Nat} {Q : Int × Int × Nat → Shared → Prop} (hs : s.heap.IsSliceOf sl vl vu vs) (pl : IsPart vl none) (pu : IsPart vu none) (ps : IsPart vs (some (-1)))
    (h : Q ((n : Int) - 1, -1, n) s) : wpAny (model prog w) A (Builtin.Slice.sliceApplied (.ref sl) (pure (n : Int))) Q E s := by
  obtain ⟨os, hos, hcs, hds⟩ := id hs
  unfold Builtin.Slice.sliceApplied Builtin.Slice.sliceFields
  refine wpAny_bind (wpAny_bind (wpAny_field hos hds (x := vl) rfl (wpAny_bind (wpAny_field hos hds (x := vu) rfl (wpAny_bind (wpAny_field hos hds (x := vs) rfl (wpAny_pure ?_)))))))
  refine wpAny_bind (HT.slicePart_ ps ?_)
  show wpAny _ _ (if ((-1 : Int) == 0) = true then _ else _) _ _ s
  rw [if_neg (by decide)]
  refine wpAny_bind (HT.slicePart_ pl (wpAny_bind (HT.slicePart_ pu (wpAny_bind (wpAny_pure ?_)))))
  have e : Builtin.Slice.sliceAdjust none none (-1) (n : Int) = ((n : Int) - 1, -1) := rfl
  show wpAny _ _ (match Builtin.Slice.sliceAdjust none none (-1) (n : Int) with | (lo, hi) => pure (lo, (-1 : Int), Builtin.Slice.slicePlaces lo hi (-1))) _ _ s
  rw [e]
  show wpAny _ _ (pure ((n : Int) - 1, (-1 : Int), Builtin.Slice.slicePlaces ((n : Int) - 1) (-1) (-1))) _ _ s
  have e2 : Builtin.Slice.slicePlaces ((n : Int) - 1) (-1) (-1) = n := by
    unfold Builtin.Slice.slicePlaces
    simp only [show ¬ ((-1 : Int) > 0) by omega, if_false]
    split <;> simp <;> omega
  rw [e2]
  exact wpAny_pure h
theorem pick_back (xs : Array Value) : ((List.range xs.size).filterMap fun (m : Nat) => xs[((xs.size : Int) - 1 + (m : Int) * (-1)).toNat]?).toArray = xs.toList.reverse.toArray := by
  have e : (List.range xs.size).filterMap (fun (m : Nat) => xs[((xs.size : Int) - 1 + (m : Int) * (-1)).toNat]?) = ((List.range xs.size).map fun m => xs.size - 1 - m).filterMap (xs[·]?) := by
    rw [List.filterMap_map]
    have key : ∀ l : List Nat, (∀ m ∈ l, m < xs.size) → l.filterMap (fun (m : Nat) => xs[((xs.size : Int) - 1 + (m : Int) * (-1)).toNat]?) = l.filterMap ((fun x => xs[x]?) ∘ fun m => xs.size - 1 - m) := by
      intro l
      induction l with
      | nil => intro _; rfl
      | cons m l ih =>
        intro h
        have hm := h m List.mem_cons_self
        have : ((xs.size : Int) - 1 + (m : Int) * (-1)).toNat = xs.size - 1 - m := by omega
        rw [List.filterMap_cons, List.filterMap_cons, ih fun y hy => h y (List.mem_cons_of_mem _ hy), this]
        rfl
    exact key _ fun m hm => List.mem_range.mp hm
  rw [e, PySem.W.krv_range, List.filterMap_reverse, PySem.W.krv_all]
theorem getItem_tuple_back {t sl : Addr} {items : Array Value} {vl vu vs : Value} {Q : Value → Shared → Prop} (ht : IsTup s.heap t items) (hs : s.heap.IsSliceOf sl vl vu vs) (pl : IsPart vl none) (pu : IsPart vu none) (ps : IsPart vs (some (-1)))
    (h : Q (.ref s.heap.objs.size) { s with heap := s.heap.push { cls := .type "tuple", data := .seq items.toList.reverse.toArray } })
    (hsz : items.size ≤ sizeLine) : wpAny (model prog w) A (getItem (.ref t) (.ref sl)) Q E s := by
  have htake : sizeOk (.seq items.toList.reverse.toArray) := by
    show items.toList.reverse.toArray.size ≤ sizeLine
    rw [List.size_toArray, List.length_reverse, Array.length_toList]
    omega
  obtain ⟨os, hos, hcs, hds⟩ := id hs
  have hTs : s.TypeIs (.ref sl) "slice" := ⟨os, hos, hcs⟩
  unfold getItem
  try with_reducible refine wpAny_holding ?_
  first | refine wpAny_bind (wpAny_pure ?_) | skip
  refine wpAny_bind (wpAny_sequenceKey ht.typeIs (by decide) ?_)
  refine wpAny_bind (wpAny_callSpecial?_slot (name := Str.ofString "__getitem__") ht.typeIs PyProof.Rows.slot_tuple_getitem
    (wpAny_call_entry PyProof.Rows.slot_tuple_getitem ht.typeIs entry_tuple_getitem ?_ (args_tuple_getitem _ _)))
  show wpAny _ _ (Builtin.Tuple.tupleItemsOf (.ref t) >>= _) _ _ s
  refine wpAny_bind (tupleItemsOf_ ht ?_)
  refine wpAny_bind (wpAny_typeOf hTs ?_)
  rw [if_pos (by decide)]
  refine wpAny_bind (sliceApplied_back hs pl pu ps ?_)
  have hno : ¬ (((((items.size : Nat) : Int) - 1) == 0 && (-1 : Int) == 1 && items.size == items.size) = true) := by
    intro q
    rw [Bool.and_eq_true, Bool.and_eq_true] at q
    exact absurd q.1.2 (by decide)
  show wpAny _ _ (if ((((items.size : Nat) : Int) - 1) == 0 && (-1 : Int) == 1 && items.size == items.size) = true then _ else _) _ _ s
  rw [if_neg hno, pick_back]
  first
    | exact wpAny_bind (m := Builtin.Tuple.tupleExact _) (wpAny_newObj_type (wpAny_pure ⟨_, rfl, wpAny_pure h⟩) htake)
    | exact wpAny_bind (m := Builtin.Tuple.tupleExact _) (wpAny_newObj_type (wpAny_bind (wpAny_pure (wpAny_pure ⟨_, rfl, wpAny_pure h⟩))) htake)
    | exact wpAny_bind (wpAny_bind (m := Builtin.Tuple.tupleExact _) (wpAny_newObj_type (wpAny_pure (wpAny_pure ⟨_, rfl, wpAny_pure h⟩)) htake))
    | exact wpAny_bind (wpAny_bind (m := Builtin.Tuple.tupleExact _) (wpAny_newObj_type (wpAny_pure ⟨_, rfl, wpAny_pure h⟩) htake))
end
/-! ### x[::-1] -/
def revS (z : Str) : Str := ⟨z.cps.toList.reverse.toArray⟩
omit [WD] in
theorem revS_eq (z : Str) (u : Tok) : Txt.sliceBy z none none (-1, u) = revS z := by
  have h := step_rev_list z u
  have : (Txt.sliceBy z none none (-1, u)).cps.toList = z.cps.toList.reverse := by
    rw [h]
    apply List.ext_getElem
    · simp [Str.length]
    · intro i h1 h2
      rw [List.getElem_map, List.getElem_range, List.getElem_reverse]
      have hi : i < z.cps.size := by simpa using h2
      have hz : z.length = z.cps.size := rfl
      rw [hz]
      have hlt : z.cps.size - 1 - i < z.cps.size := by omega
      show z.cps.getD (z.cps.size - 1 - i) 0 = z.cps.toList[z.cps.size - 1 - i]
      rw [Array.getD_eq_getD_getElem?, Array.getElem?_eq_getElem hlt]
      rfl
  unfold revS
  rw [← this]
def rRev (K : PySem.W.Frag) : V → Hp → VK → Prop := fun x H Q =>
  (∃ a xs, x = .ref a ∧ SqL K H a xs ∧ ∀ p, H p = none → Q (.ref p) (upd H p (.lst xs.reverse))) ∨ (∃ a xs, x = .ref a ∧ SqT K H a xs ∧ Nt H xs.reverse Q) ∨ (∃ z, x = .str z ∧ z.length ≤ sizeLine ∧ Q (.str (revS z)) H)
section
variable {X : Cx}
theorem pe_rev (K : PySem.W.Frag) {e : Expr} {te : TE} {k : Nat} {p1 p2 p3 pos : Pos} (he : PE X e te) (hK : X.K = K := by rfl) : PE X (.Subscript e (.Slice none none (some (.UnaryOp .USub (.Constant (.int 1) k p1) p2)) p3) pos) (tUn (rRev K) te) := by
  subst hK
  refine ⟨fun pins s σ H Q I h => ?_⟩
  refine Subscript_ (thn (he.run pins s σ H _ I h) fun v s1 ⟨x, H1, I1, r1, q1⟩ => ?_)
  have hst : PO X (some (.UnaryOp .USub (.Constant (.int 1) k p1) p2)) (tPart (tUn (rU fun i => .int (-i)) (tC (.int 1)))) := po_some (pe_un un_neg pe_int)
  refine wpAny_Slice (thn (po_none.run pins s1 σ H1 (fun o H2 => o = none ∧ H2 = H1) I1 ⟨rfl, rfl⟩) fun vl s2 ⟨l, H2, I2, pl, el, e2⟩ => ?_)
  subst el e2
  refine thn (po_none.run pins s2 σ H2 (fun o H3 => o = none ∧ H3 = H2) I2 ⟨rfl, rfl⟩) fun vu s3 ⟨u, H3, I3, pu, eu, e3⟩ => ?_
  subst eu e3
  refine thn (hst.run pins s3 σ H3 (fun o H4 => o = some (-1) ∧ H4 = H3) I3 ⟨1, rfl, -1, rfl, rfl, rfl⟩) fun vs s4 ⟨o, H4, I4, ps, eo, e4⟩ => ?_
  subst eo e4
  have I5 : Inv X pins σ H4 { s4 with heap := s4.heap.push { cls := .type "slice", data := .fields #[vl, vu, vs] } } := I4.kept (t' := s4.toks) fun b ob q => Heap.get?_push_of_some _ q
  rcases q1 with ⟨a, xs, ex, hx, q⟩ | ⟨a, xs, ex, hx, q⟩ | ⟨z, ex, hz, q⟩
  · subst ex
    cases r1
    obtain ⟨its, r, ht, hz⟩ := I5.list hx
    have hlen := r.length
    show wpAny (model X.prog X.w) X.A (subscriptTail e (.Slice none none (some (.UnaryOp .USub (.Constant (.int 1) k p1) p2)) p3) (.ref a) (.ref s4.heap.objs.size)) (EP X pins σ Q) X.xe { s4 with heap := s4.heap.push { cls := .type "slice", data := .fields #[vl, vu, vs] } }
    refine tail_any (ops := [.ref a, .ref s4.heap.objs.size]) ht.isList.typeIs (PySem.slot_list_getitem.lookup) ?_ (by with_unfolding_all rfl)
    refine wpAny_getItem_list_slice ht.isList (Heap.IsSliceOf.new _ vl vu vs) pl pu ps (by decide) ?_ (by rw [List.size_toArray]; omega)
    rw [PySem.W.krv_pick]
    refine ⟨.ref _, _, I5.laid (t' := s4.toks) (o := .lst xs.reverse) (fun b ob q => Heap.get?_push_of_some _ q) (Nat.le_refl _) ?_, rfl, q _ (I5.hok.fresh (Nat.le_refl _))⟩
    exact ⟨by rw [List.length_reverse]; exact hz, _, 0, r.reverse, Heap.get?_push_size _ rfl⟩
  · subst ex
    cases r1
    obtain ⟨its, r, ht, hz⟩ := I5.tuple hx
    have hlen := r.length
    show wpAny (model X.prog X.w) X.A (subscriptTail e (.Slice none none (some (.UnaryOp .USub (.Constant (.int 1) k p1) p2)) p3) (.ref a) (.ref s4.heap.objs.size)) (EP X pins σ Q) X.xe { s4 with heap := s4.heap.push { cls := .type "slice", data := .fields #[vl, vu, vs] } }
    refine tail_any (ops := [.ref a, .ref s4.heap.objs.size]) ht.typeIs (PyProof.Rows.slot_tuple_getitem.lookup) ?_ (by with_unfolding_all rfl)
    refine getItem_tuple_back ht (Heap.IsSliceOf.new _ vl vu vs) pl pu ps ?_ (by rw [List.size_toArray]; omega)
    exact laidN (s := { s4 with heap := s4.heap.push { cls := .type "slice", data := .fields #[vl, vu, vs] } }) (t' := s4.toks) I5 (fun b ob e => Heap.get?_push_of_some _ e) (Nat.le_refl _) r.reverse (by rw [List.length_reverse]; exact hz) (Heap.get?_push_size _ rfl) rfl rfl ⟨_, rfl⟩ q
  · subst ex
    obtain ⟨t, rfl⟩ := r1
    show wpAny (model X.prog X.w) X.A (subscriptTail e (.Slice none none (some (.UnaryOp .USub (.Constant (.int 1) k p1) p2)) p3) (.str z t) (.ref s4.heap.objs.size)) (EP X pins σ Q) X.xe { s4 with heap := s4.heap.push { cls := .type "slice", data := .fields #[vl, vu, vs] } }
    cases pl
    cases pu
    cases ps with
    | int i uk =>
      refine tail_any (ops := [.ref s4.heap.objs.size, .str z t]) (typeIs_str _ _ _) F.slot_str_getitem.lookup (wpAny_getItem_str_slice (l := none) (u := none) (st := some (-1, uk)) ⟨_, Heap.get?_push_size _ rfl, rfl, rfl⟩ rfl
        (post_val_or_str ⟨Nat.le_trans (Txt.sliceBy_le z _ _ (-1, uk) (by show (-1 : Int) ≠ 0; decide)) hz, fun t' c => ?_⟩)) (by with_unfolding_all rfl)
      show EP X pins σ Q (Value.str (Txt.sliceBy z none none (-1, uk)) t') _
      rw [revS_eq]
      exact ⟨.str _, H4, I5.tok _, ⟨_, rfl⟩, q⟩
end
def revD : Pd → Option Pd
  | .list xs => some (.list xs.reverse)
  | .tuple xs => some (.tuple xs.reverse)
  | .str z => if z.length ≤ sizeLine then some (.str (revS z)) else none
  | _ => none
section
variable {K : PySem.W.Frag}
theorem ru_rev : RUn K (rRev K) revD := by
  intro Hf H x dx z e hx h Q q
  cases dx with
  | list xs =>
    cases h
    obtain ⟨l, vs, rfl, h1, h2⟩ := hx.list e
    refine .inl ⟨l, vs, rfl, h1, fun p np => ?_⟩
    exact q _ _ _ (Pg.new e np) (.lst (sq_of upd_same) (h2.reverse.mono (Pg.new (o := .lst vs.reverse) e np).ef))
  | tuple xs =>
    cases h
    obtain ⟨l, vs, rfl, h0, h1, h2⟩ := hx.tuple e
    refine .inr (.inl ⟨l, vs, rfl, h1, fun p o hd np => ?_⟩)
    exact q _ _ _ (Pg.new e np) (.tup (sn_of upd_same hd) (h2.reverse.mono (Pg.new (o := .frz o (.tup vs.reverse)) e np).ef))
  | str y =>
    have h' : (if y.length ≤ sizeLine then some (PyData.str (revS y)) else none) = some z := h
    by_cases hl : y.length ≤ sizeLine
    · rw [if_pos hl] at h'
      cases h'
      obtain rfl := hx.str
      exact .inr (.inr ⟨y, rfl, hl, q _ _ _ (Pg.refl e) (.str _)⟩)
    · rw [if_neg hl] at h'; cases h'
  | _ => cases h
end
/-! ### a tuple once -/
theorem tuple_mul1 (l : Addr) (items : Array Value) (n : Nat) (dd : Option Addr) (sl : Array (Option Value)) (u : Tok) :
    Meets (Builtin.«tuple.__mul__» ⟨[.ref l, .int 1 u], []⟩) (fun _ R s => s.heap.get? l = some { cls := .type "tuple", dict := dd, data := .seq items n, slots := sl } ∧ R (.ok (.ret (Value.ref l))) s) :=
  .of_wp fun prog w A R s h => by
    obtain ⟨hp, g, d, tk, os⟩ := s
    obtain ⟨hl, h⟩ := h
    have f1 := AutoSeq1.idx_int
    have c0 : (decide ((1 : Int) < -(2 ^ 63)) || decide ((1 : Int) ≥ 2 ^ 63)) = false := by decide
    have c1 : (items.isEmpty || (1 : Int) == 1) = true := by simp
    wp_walk using AutoSeq1.wpAny_loadPart' hl
    repeat (first
      | (refine wpAny_ite_false (decide_eq_false (by rw [c0]; exact Bool.false_ne_true)) ?_; wp_walk using AutoSeq1.wpAny_loadPart' hl)
      | (refine wpAny_ite_true (decide_eq_true c1) ?_; wp_walk using AutoSeq1.wpAny_loadPart' hl))
    exact ⟨_, rfl, h⟩
def rOnceT (K : PySem.W.Frag) : R2 := fun x y H Q => ∃ l xs, x = .ref l ∧ y = .int 1 ∧ SqT K H l xs ∧ Q (.ref l) H
theorem op_onceT {X : Cx} : OpR X (binaryOp .Mult) (rOnceT X.K) := by
  intro pins s σ H x y v u Q I rx ry h
  obtain ⟨l, xs, rfl, rfl, hT, q⟩ := h
  cases rx
  obtain ⟨t, rfl⟩ := ry
  obtain ⟨its, r, ⟨⟨cls, dd, data, sl⟩, ho, hc, n, hd⟩, hs⟩ := I.tuple hT
  simp only at hc hd
  subst hc hd
  refine wpAny_binaryOp_repeat_ref (T := "tuple") (U := "int") (by decide) ⟨_, ho, rfl⟩ (fun s' => typeIs_int s' 1 t) noFill_tuple_mul F.fills_int_mul F.slot_int_rmul repeat_tuple F.slot_int_index.lookup
    (call_meets F.slot_int_rmul (typeIs_int s 1 t) F.entry_int_rmul (F.args_int_rmul_2 _ _) (int_rmul_tuple 1 t l its.toArray n dd sl)
      ⟨ho, rfl, ⟨_, ho, rfl⟩, call_meets F.slot_tuple_mul ⟨_, ho, rfl⟩ F.entry_tuple_mul (F.args_tuple_mul_2 _ _) (tuple_mul1 l its.toArray n dd sl t) ⟨ho, ?_⟩⟩)
  exact ⟨.ref l, H, I, rfl, q⟩
abbrev rMulC (K : PySem.W.Frag) : R2 := fun x y H Q => rMulA K x y H Q ∨ rOnceT K x y H Q
theorem kMulC {X : Cx} (K : PySem.W.Frag) (hK : X.K = K := by rfl) : OpR X (binaryOp .Mult) (rMulC K) := by
  subst hK
  exact (kMul X.K).or op_onceT
/-- .. and a tuple once -/
def mulC : Pd → Pd → Option Pd
  | .tuple xs, .int 1 => some (.tuple xs)
  | x, y => mulB x y
theorem ro_mulC {K : PySem.W.Frag} : ROp K (rMulC K) mulC := by
  intro Hf H x y dx dy z e hx hy h Q q
  unfold mulC at h
  split at h
  · cases h
    obtain ⟨l, vs, rfl, t1, t2, r1⟩ := hx.tuple e
    exact .inr ⟨l, vs, rfl, hy.int, t2, q _ Hf H (Pg.refl e) (.tup t1 r1)⟩
  · exact .inl (ro_mulB Hf H x y _ _ z e hx hy h Q q)
end Dt
/-! more operations: is True, dicts read, lists many times, texts cut -/
namespace Dt
open PySem PySem.Spec L2 Evl PyProof.Rows
variable [WD]
omit [WD] in
theorem u1 {k : Nat} {A : Around} (r : Room k A) : A.units + 1 < cLine := by have := r.un; omega
/-! ### x is True -/
def rIsB (n : Bool) : R2 := fun x y H Q => ∃ a b, x = .bl a ∧ y = .bl b ∧ Q (.bl (if n then a != b else a == b)) H
theorem op_isB {X : Cx} : OpR X (compareOp .Is) (rIsB false) := by
  intro pins s σ H x y v u Q I rx ry h
  obtain ⟨a, b, rfl, rfl, q⟩ := h
  cases rx
  cases ry
  exact is_bool (fin_bl I q rfl)
theorem op_isNotB {X : Cx} : OpR X (compareOp .IsNot) (rIsB true) := by
  intro pins s σ H x y v u Q I rx ry h
  obtain ⟨a, b, rfl, rfl, q⟩ := h
  cases rx
  cases ry
  exact isnot_bool (fin_bl I q rfl)
def isBD : Pd → Pd → Option Pd
  | .bool a, .bool b => some (.bool (a == b))
  | _, _ => none
def isNotBD : Pd → Pd → Option Pd
  | .bool a, .bool b => some (.bool (a != b))
  | _, _ => none
omit [WD] in
@[simp] theorem isBD_b {a b : Bool} : isBD (.bool a) (.bool b) = some (.bool (a == b)) := rfl
omit [WD] in
@[simp] theorem isNotBD_b {a b : Bool} : isNotBD (.bool a) (.bool b) = some (.bool (a != b)) := rfl
section
variable {K : PySem.W.Frag}
theorem ro_isB : ROp K (rIsB false) isBD := by
  intro Hf H x y dx dy z e hx hy h Q q
  unfold isBD at h
  split at h
  · cases h; exact ⟨_, _, hx.bool, hy.bool, q _ Hf H (Pg.refl e) (.bl _)⟩
  · cases h
theorem ro_isNotB : ROp K (rIsB true) isNotBD := by
  intro Hf H x y dx dy z e hx hy h Q q
  unfold isNotBD at h
  split at h
  · cases h; exact ⟨_, _, hx.bool, hy.bool, q _ Hf H (Pg.refl e) (.bl _)⟩
  · cases h
/-! ### dicts -/
theorem RX.dict {Hf H : Hp} {v : V} {ds : List (Pd × Pd)} (h : RX K Hf H v (.dict ds)) : ∃ a o kvs, v = .ref a ∧ Hf a = some (.frz o (.dK kvs)) ∧ RKs K Hf kvs ds := by
  rcases h with h | ⟨l, vs, ys, rfl, q, h1, h2⟩
  · cases h with
    | dct h hs => exact ⟨_, _, _, rfl, h, hs⟩
  · cases q
def lookD (k : Key) : List (Pd × Pd) → Option Pd
  | [] => none
  | (kd, v) :: r => if keyD kd = some k then some v else lookD k r
omit [WD] in
theorem keyD_kD (k : Key) : keyD (kD k) = some k := by cases k <;> rfl
theorem RKs.look {H : Hp} (k : Key) : ∀ {kvs : List (Key × V)} {ds : List (Pd × Pd)}, RKs K H kvs ds → match lookD k ds with | some d => ∃ v, valV kvs k = some v ∧ RD K H v d | none => valV kvs k = none
  | _, _, .nil => rfl
  | _, _, .cons (k := k') (v := v) (vs := vs) (d := d) (ds := ds) h hs => by
    have ih := RKs.look k hs
    simp only [lookD, keyD_kD, Option.some.injEq]
    by_cases e : k' = k
    · rw [if_pos e]; exact ⟨v, valV_pos e, h⟩
    · rw [if_neg e, valV_neg (p := (k', v)) e]; exact ih
def rDGet : R2 := fun x y H Q => ∃ a v, x = .ref a ∧ DGet H a y (some v) ∧ Q v H
theorem kDGet {X : Cx} {o i : Expr} {td ty : TE} {pos : Pos} (hu : X.A.units + 1 < cLine) (ho : PE X o td) (hi : PE X i ty) (hs : NoSl i) : PE X (.Subscript o i pos) (tOp rDGet td ty) := pe_dget hu ho hi hs
def dgetD : Pd → Pd → Option Pd
  | .dict ds, k => match keyD k with
    | some k => lookD k ds
    | none => none
  | _, _ => none
theorem ro_dget : ROp K rDGet dgetD := by
  intro Hf H x y dx dy z e hx hy h Q q
  cases dx with
  | dict ds =>
    have h : (match keyD dy with | some k => lookD k ds | none => none) = some z := h
    cases ek : keyD dy with
    | none => rw [ek] at h; cases h
    | some kk =>
      rw [ek] at h
      obtain ⟨a, oo, kvs, rfl, h1, h2⟩ := hx.dict
      have hl := RKs.look kk h2
      have h : lookD kk ds = some z := h
      rw [h] at hl
      obtain ⟨v, hv, rv⟩ := hl
      have hyr : RD K Hf y dy := by
        rcases hy with hy | ⟨l, vs, ys, rfl, e2, _⟩
        · exact hy
        · subst e2; cases ek
      obtain ⟨rfl, _⟩ := keyD_ok hyr ek
      exact ⟨a, v, rfl, .inl ⟨kvs, kk, .inr ⟨_, e a _ h1⟩, rfl, hv.symm⟩, q _ Hf H (Pg.refl e) rv⟩
  | _ => cases h
/-! ### dict(pairs) -/
def pairsD : List Pd → Option (List (Key × Pd))
  | [] => some []
  | .tuple [k, v] :: r => match keyD k, pairsD r with
    | some k, some r => some ((k, v) :: r)
    | _, _ => none
  | _ => none
def rDictP (K : PySem.W.Frag) : List V → Hp → VK → Prop := fun xs H Q => ∃ (a : Addr) (ps : List Addr) (kvs : List (Key × V)), xs = [.ref a] ∧ SqL K H a (ps.map V.ref) ∧ Paired (fun p kv => SqT K H p [kV kv.1, kv.2]) ps kvs ∧
    ∀ p, H p = none → Q (.ref p) (upd H p (.dK (mergeK [] kvs)))
theorem kDictP {X : Cx} (K : PySem.W.Frag) (hc : X.calm = true) (hK : X.K = K := by rfl) : CallR X (.type "dict") (rDictP K) := by subst hK; exact call_dictP hc
def rDictPL (K : PySem.W.Frag) : List V → Hp → VK → Prop := fun xs H Q => rDictP K xs H (lockK Q)
theorem kDictPL {X : Cx} (K : PySem.W.Frag) (hc : X.calm = true) (hK : X.K = K := by rfl) : CallR X (.type "dict") (rDictPL K) := call_lockD (kDictP K hc hK)
def dictD : List Pd → Option Pd
  | [.list ps] => match pairsD ps with
    | some kvs => if (kvs.map (·.1)).Nodup then some (.dict (kvs.map fun p => (kD p.1, p.2))) else none
    | none => none
  | _ => none
theorem merge_new : ∀ (more acc : List (Key × V)), ((acc ++ more).map (·.1)).Nodup → mergeK acc more = acc ++ more
  | [], acc, _ => by simp [mergeK]
  | (k, v) :: r, acc, h => by
    have hn : (acc.any fun kv => decide (kv.1 = k)) = false := by
      rw [List.any_eq_false]
      intro p hp e
      have e := of_decide_eq_true e
      rw [List.map_append, List.nodup_append] at h
      exact h.2.2 p.1 (List.mem_map_of_mem hp) k (by simp) e
    show mergeK (putK acc k v) r = _
    have : putK acc k v = acc ++ [(k, v)] := by unfold putK; rw [hn]; rfl
    rw [this, merge_new r (acc ++ [(k, v)]) (by simpa using h)]
    simp
theorem pairs_ok {Hf H : Hp} (e : Ex Hf H) : ∀ {vs : List V} {ps : List Pd} {kvs : List (Key × Pd)}, RDs K Hf vs ps → pairsD ps = some kvs → ∃ (as : List Addr) (ws : List (Key × V)), vs = as.map V.ref ∧ Paired (fun p kv => SqT K H p [kV kv.1, kv.2]) as ws ∧ ws.map (·.1) = kvs.map (·.1) ∧ RKs K Hf ws (kvs.map fun p => (kD p.1, p.2))
  | _, _, _, .nil, h => by cases h; exact ⟨[], [], rfl, .nil, rfl, .nil⟩
  | _, _, kvs, .cons (v := v) (vs := vs) (d := d) (ds := ds) r rs, h => by
    cases r with
    | tup hs hr =>
      rename_i a xs es
      cases hr with
      | nil => simp [pairsD] at h
      | cons r1 r2 =>
        cases r2 with
        | nil => simp [pairsD] at h
        | cons r2 r3 =>
          cases r3 with
          | cons _ _ => simp [pairsD] at h
          | nil =>
            rename_i kv kd vv vd
            simp only [pairsD] at h
            split at h
            · rename_i k rr hk hrr
              cases h
              obtain ⟨as, ws, rfl, hp, hm, hk2⟩ := pairs_ok e rs hrr
              obtain ⟨rfl, rfl⟩ := keyD_ok r1 hk
              exact ⟨a :: as, (k, vv) :: ws, rfl, .cons (ex_t e hs.sq) hp, by simp [hm], .cons r2 hk2⟩
            · cases h
    | _ => simp [pairsD] at h
theorem rc_dict : RCall K (rDictPL K) dictD := by
  intro Hf H vs xs z e hs h Q q
  unfold dictD at h
  split at h
  · rename_i ps
    split at h
    · rename_i kvs hk
      split at h
      · rename_i hnd
        cases h
        obtain ⟨v, rfl, hv⟩ := hs.one
        obtain ⟨l, us, rfl, t, r⟩ := hv.list e
        obtain ⟨as, ws, rfl, hp, hm, hr⟩ := pairs_ok e r hk
        refine ⟨l, as, ws, rfl, t, hp, fun p np => ?_⟩
        rw [merge_new ws [] (by rw [List.nil_append, hm]; exact hnd), List.nil_append]
        refine ⟨p, ws, rfl, upd_same, fun o => ?_⟩
        rw [upd_twice]
        have g := Pg.new (o := .frz o (.dK ws)) e np
        exact q _ _ _ g (.dct upd_same (hr.mono g.ef))
      · cases h
    · cases h
  · cases h
/-! ### texts cut -/
def splitD : Pd → List Pd → Option Pd
  | .str a, [.str b] => if (b.length == 0) = false ∧ a.length + 2 ≤ sizeLine then some (.list ((Txt.split a b).map .str)) else none
  | _, _ => none
def partD : Pd → List Pd → Option Pd
  | .str a, [.str b] => if (b.length == 0) = false ∧ a.length ≤ sizeLine then some (.tuple [.str (Txt.partition a b).1, .str (Txt.partition a b).2.1, .str (Txt.partition a b).2.2]) else none
  | _, _ => none
abbrev rSplit : V → List V → Hp → VK → Prop := fun x xs H Q => ∃ a b, x = .str a ∧ xs = [.str b] ∧ (b.length == 0) = false ∧ a.length + 2 ≤ sizeLine ∧ rNewStrs (Txt.split a b) H Q
abbrev rPart : V → List V → Hp → VK → Prop := fun x xs H Q => ∃ a b, x = .str a ∧ xs = [.str b] ∧ (b.length == 0) = false ∧ a.length ≤ sizeLine ∧
      Nt H [.str (Txt.partition a b).1, .str (Txt.partition a b).2.1, .str (Txt.partition a b).2.2] Q
theorem rm_split : RMt K "str" rSplit splitD := by
  intro Hf H x vs dx xs z e hx hs h Q q
  unfold splitD at h
  split at h
  · split at h
    · rename_i a b hc
      cases h
      obtain ⟨v, rfl, hv⟩ := hs.one
      refine ⟨a, b, hx.str, by rw [hv.str], hc.1, hc.2, fun p np => ?_⟩
      have g := Pg.new (o := .lst ((Txt.split a b).map V.str)) e np
      exact q _ _ _ g (.lst (sq_of upd_same) (RDs.strs _))
    · cases h
  · cases h
theorem rm_part : RMt K "str" rPart partD := by
  intro Hf H x vs dx xs z e hx hs h Q q
  unfold partD at h
  split at h
  · split at h
    · rename_i a b hc
      cases h
      obtain ⟨v, rfl, hv⟩ := hs.one
      refine ⟨a, b, hx.str, by rw [hv.str], hc.1, hc.2, fun p o hd np => ?_⟩
      have g := Pg.new (o := .frz o (.tup [.str (Txt.partition a b).1, .str (Txt.partition a b).2.1, .str (Txt.partition a b).2.2])) e np
      exact q _ _ _ g (.tup (sn_of upd_same hd) (.cons (.str _) (.cons (.str _) (.cons (.str _) .nil))))
    · cases h
  · cases h
end
/-! ### [..] * n -/
section
variable {Z : Zx} {W : WX}
def kRepL (xs : List Pd) (a : AV) (ρ : Rho) : R (List Pd) := match a with
  | .d (.int k) => if 0 ≤ k ∧ k ≤ 1000 ∧ xs.length ≤ 1000 then .ok (List.replicate k.toNat xs).flatten ρ else .bad
  | _ => .bad
def fRepL (fl : Rho → R (List Pd)) (fk : Rho → R AV) : Rho → R (List Pd) := fun ρ => (fl ρ).bind fun xs ρ1 => (fk ρ1).bind fun a ρ2 => kRepL xs a ρ2
theorem l_rep {tl tk : TE} {fl : Rho → R (List Pd)} {fk : Rho → R AV} (hl : DL Z W tl fl) (hk : DE Z W tk fk) : DL Z W (tOp rRep tl tk) (fRepL fl fk) := by
  intro Hf H O σ ρ s Q p
  refine hl Hf H O σ ρ s _ ?_
  unfold fRepL at p
  cases el : fl ρ with
  | bad => rw [el] at p; exact p
  | ex x ρ1 => rw [el] at p; exact p
  | ok ps ρ1 =>
    rw [el] at p
    intro Hf1 H1 s1 g1 k1 lv rl
    obtain ⟨l, us, rfl, h0, h1, h2, h3⟩ := rl
    have no : ¬ O l := fun z => by
      obtain ⟨⟨o, q⟩, _⟩ := s.otr l z
      rw [h0] at q; cases q
    have p : PostG Z W O σ ρ Hf H (fun a _ Hf' H' => ∀ v, RL Z.K H Hf' H' v a → Q v H') ((fk ρ1).bind fun a ρ2 => kRepL ps a ρ2) := p
    refine hk Hf1 H1 O σ ρ1 s1 _ ?_
    cases ea : fk ρ1 with
    | bad => rw [ea] at p; exact p
    | ex x ρ2 => rw [ea] at p; exact fun cls d Hf' H' s' g' k' xr => p cls d Hf' H' s' (g1.trans g') (k1.trans k') xr
    | ok a ρ2 =>
      rw [ea] at p
      intro Hf2 H2 s2 g2 k2 v rv
      have p : PostG Z W O σ ρ Hf H (fun a _ Hf' H' => ∀ v, RL Z.K H Hf' H' v a → Q v H') (kRepL ps a ρ2) := p
      cases a with
      | sl _ => exact p.elim
      | d da =>
      cases da with
      | int k =>
        have p : PostG Z W O σ ρ Hf H (fun a _ Hf' H' => ∀ v, RL Z.K H Hf' H' v a → Q v H') (if 0 ≤ k ∧ k ≤ 1000 ∧ ps.length ≤ 1000 then .ok (List.replicate k.toNat ps).flatten ρ2 else .bad) := p
        by_cases hc : 0 ≤ k ∧ k ≤ 1000 ∧ ps.length ≤ 1000
        · rw [if_pos hc] at p
          have hl2 : H2 l = some (.lst us) := g2.fm _ _ h1 no
          have ev : v = .int k := by
            have rv : RD Z.K Hf2 v (.int k) := rv
            cases rv; rfl
          have hul := h3.length
          refine ⟨l, k, us, rfl, ev, hl2, by omega, by omega, ?_, fun q nq => ?_⟩
          · show us.length * k.toNat ≤ 16777216
            have : us.length * k.toNat ≤ 1000 * 1000 := Nat.mul_le_mul (by omega) (by omega)
            omega
          · have g := Pg.lay (o := .lst (List.replicate k.toNat us).flatten) s2.ex nq
            exact p Hf2 _ (s2.grow g) ((g1.trans g2).trans g.gr) (k1.trans k2) _ ⟨q, _, rfl, (g1.trans g2).gone nq, upd_same, fresh_back s2.ex nq, (h3.mono g2.ex).reps _⟩
        · rw [if_neg hc] at p; exact p.elim
      | _ => exact p.elim
end
/-! ### d.get(k, x) -/
section
variable {Z : Zx} {W : WX}
def kDGet2 (a b c : AV) (ρ : Rho) : R AV := match a, b, c with
  | .d (.dict ds), .d k, .d x => (match keyD k with
    | some k => .ok (.d ((lookD k ds).getD x)) ρ
    | none => .bad)
  | _, _, _ => .bad
def isDct : AV → Bool
  | .d (.dict _) => true
  | _ => false
def fDGet2 (fd fy fx : Rho → R AV) : Rho → R AV := fun ρ => (fd ρ).bind fun a ρ1 => if isDct a = true then (fy ρ1).bind fun b ρ2 => (fx ρ2).bind fun c ρ3 => kDGet2 a b c ρ3 else .bad
theorem d_dget2 {td ty tx : TE} {fd fy fx : Rho → R AV} (hd : DE Z W td fd) (hy : DE Z W ty fy) (hx : DE Z W tx fx) : DE Z W (tDGet2 td ty tx) (fDGet2 fd fy fx) := by
  intro Hf H O σ ρ s Q p
  refine hd.bind s p fun a ρ1 x Hf1 H1 s1 g1 k1 rx p1 => ?_
  by_cases hc : isDct a = true
  · rw [if_pos hc] at p1
    cases a with
    | sl _ => cases hc
    | d da =>
      cases da with
      | dict ds =>
        have rx : RD Z.K Hf1 x (.dict ds) := rx
        cases rx with
        | dct h hs =>
          rename_i kvs aa
          refine ⟨_, rfl, .inl ⟨_, .inr ⟨_, s1.ex _ _ h⟩⟩, ?_⟩
          refine hy.bind s1 p1 fun b ρ2 y Hf2 H2 s2 g2 k2 ry p2 => ?_
          refine hx.bind s2 p2 fun c ρ3 z Hf3 H3 s3 g3 k3 rz p3 => ?_
          cases b with
          | sl _ => exact p3.elim
          | d k =>
            cases c with
            | sl _ => exact p3.elim
            | d xd =>
              cases ek : keyD k with
              | none =>
                unfold kDGet2 at p3
                simp only [ek] at p3
                exact p3.elim
              | some kk =>
                unfold kDGet2 at p3
                simp only [ek] at p3
                obtain ⟨rfl, _⟩ := keyD_ok (show RD Z.K Hf2 y k from ry) ek
                have h3 : Hf3 _ = some (.frz _ (.dK _)) := g3.ex _ _ (g2.ex _ _ h)
                refine ⟨_, .inl ⟨_, kk, .inr ⟨_, s3.ex _ _ h3⟩, rfl, rfl⟩, ?_⟩
                have hl := RKs.look kk (hs.mono (g2.ex.trans g3.ex))
                cases el : lookD kk ds with
                | none =>
                  rw [el] at hl p3
                  rw [hl]
                  exact p3 Hf3 H3 s3 Gr.refl Kp.refl _ rz
                | some v =>
                  rw [el] at hl p3
                  obtain ⟨w, hw, rw'⟩ := hl
                  rw [hw]
                  exact p3 Hf3 H3 s3 Gr.refl Kp.refl _ rw'
      | _ => cases hc
  · rw [if_neg hc] at p1; exact p1.elim
end
section
variable {ρ : Rho} {xs : List Pd}
omit [WD] in
@[simp] theorem fDGet2_ap {fd fy fx : Rho → R AV} : fDGet2 fd fy fx ρ = (fd ρ).bind fun a ρ1 => if isDct a = true then (fy ρ1).bind fun b ρ2 => (fx ρ2).bind fun c ρ3 => kDGet2 a b c ρ3 else .bad := rfl
omit [WD] in
@[simp] theorem isDct_d {ds : List (Pd × Pd)} : isDct (.d (.dict ds)) = true := rfl
omit [WD] in
@[simp] theorem kDGet2_s {ds : List (Pd × Pd)} {k : Str} {x : Pd} : kDGet2 (.d (.dict ds)) (.d (.str k)) (.d x) ρ = .ok (.d ((lookD (.inr k) ds).getD x)) ρ := rfl
omit [WD] in
@[simp] theorem fRepL_ap {fl : Rho → R (List Pd)} {fk : Rho → R AV} : fRepL fl fk ρ = (fl ρ).bind fun xs ρ1 => (fk ρ1).bind fun a ρ2 => kRepL xs a ρ2 := rfl
omit [WD] in
@[simp] theorem kRepL_int {k : Int} : kRepL xs (.d (.int k)) ρ = if 0 ≤ k ∧ k ≤ 1000 ∧ xs.length ≤ 1000 then .ok (List.replicate k.toNat xs).flatten ρ else .bad := rfl
omit [WD] in
@[simp] theorem dgetD_str {ds : List (Pd × Pd)} {x : Str} : dgetD (.dict ds) (.str x) = lookD (.inr x) ds := rfl
omit [WD] in
@[simp] theorem lookD_nil {k : Key} : lookD k [] = none := rfl
omit [WD] in
@[simp] theorem lookD_cons {k : Key} {kd v : Pd} {r : List (Pd × Pd)} : lookD k ((kd, v) :: r) = if keyD kd = some k then some v else lookD k r := rfl
omit [WD] in
@[simp] theorem keyD_str {x : Str} : keyD (.str x) = some (.inr x) := rfl
omit [WD] in
@[simp] theorem dictD_list : dictD [.list xs] = (match pairsD xs with | some kvs => if (kvs.map (·.1)).Nodup then some (.dict (kvs.map fun p => (kD p.1, p.2))) else none | none => none) := rfl
omit [WD] in
@[simp] theorem splitD_str {a b : Str} : splitD (.str a) [.str b] = if (b.length == 0) = false ∧ a.length + 2 ≤ sizeLine then some (.list ((Txt.split a b).map .str)) else none := rfl
omit [WD] in
@[simp] theorem partD_str {a b : Str} : partD (.str a) [.str b] = if (b.length == 0) = false ∧ a.length ≤ sizeLine then some (.tuple [.str (Txt.partition a b).1, .str (Txt.partition a b).2.1, .str (Txt.partition a b).2.2]) else none := rfl
end
end Dt
set_option maxHeartbeats 2000000
/-! exceptions: raised, caught and kept, asked -/
namespace Dt
open PySem PySem.Spec L2 Evl PyProof.Rows
variable [WD]
section
variable {X : Cx} {pins : List (Addr × Obj)} {σ : L2.St} {H : Hp} {s : Shared}
/-- an object that came since the entry and isn't tracked yet may be tracked -/
theorem Inv_track {a : Addr} {o : HO} {oe : Obj} {vs : Array Value} (I : L2.Inv X pins σ H s) (n0 : X.s_0.heap.get? a = none) (na : H a = none) (nL : a ≠ X.env.locals) (he : s.heap.get? a = some oe) (hd : oe.data = .fields vs) (np : ∀ p ∈ X.pn ++ pins, p.1 ≠ a)
    (new : ObjOk X.prog X.w (upd H a o) s.heap a o) : L2.Inv X pins σ (upd H a o) s := by
  have ne0 : ∀ b ob, X.s_0.heap.get? b = some ob → b ≠ a := fun b ob e z => by rw [z, n0] at e; cases e
  have nec : ∀ x c, X.env.cells.lookup x = some c → c ≠ a := fun x c e z => by
    obtain ⟨v, ob, ho, hc⟩ := I.cell x c e
    rw [z, he] at ho
    cases ho
    rw [hd] at hc
    cases hc
  refine ⟨I.ok, I.os, I.bare, ⟨I.base.keep, I.base.slot, fun b ob e n hx => ?_, I.base.there, fun b xs e => ?_, fun b ob u e => ?_, fun b ps e => ?_⟩, I.loc, I.cell, ?_, fun x c e => ?_, fun p hp => ?_, I.hok.laidN (fun _ _ q => q) na new, I.len⟩
  · rw [upd_ne (ne0 b ob e)]; exact I.base.free b ob e n hx
  · have q := I.base.tups b xs e; rw [upd_ne (ne_of_none q na)]; exact q
  · have q := I.base.frzs b ob u e; rw [upd_ne (ne_of_none q na)]; exact q
  · obtain ⟨m, q⟩ := I.base.tbls b ps e; exact ⟨m, by rw [upd_ne (ne_of_none q na)]; exact q⟩
  · rw [upd_ne (Ne.symm nL)]; exact I.free
  · rw [upd_ne (nec x c e)]; exact I.freeC x c e
  · obtain ⟨e, n, r⟩ := I.pin p hp
    exact ⟨e, by rw [upd_ne (np p hp)]; exact n, r⟩
theorem exN_ok {P : Program} {w : World} {H : Hp} {h : Heap} {a : Addr} {cls : Value} {d : Option Addr} {oe : Obj} {vs : Array Value} (e : h.get? a = some oe) (z : Zc cls d oe) (hd : oe.data = .fields vs) : ObjOk P w H h a (ExN cls d a) :=
  ⟨⟨oe, vs, e, z, hd⟩, ⟨oe, e⟩, fun _ _ ⟨o, v, q, r⟩ k => ⟨o, v, k o q, r⟩⟩
end
/-- .. a caught exception is kept, tracked at its address -/
def wAsT (K : PySem.W.Frag) (c : Value) (i : Nat) (ts : Addr → Value → Option Addr → TS) (Wout : WX) (D : Ends) : WX := fun cls d σ H =>
  ∃ b, PySem.W.exmOne K cls c = some b ∧ (b = true → ∀ a, H a = none → ts a cls d { nx := fun σ' H' => D.nx (σ'.set i none) (upd H' a (ExN cls d a)), rt := fun _ _ => False, bk := fun _ _ => False, ct := fun _ _ => False } (σ.set i (some (.ref a))) H) ∧
    (b = false → Wout cls d σ H)
section
variable {X : Cx} {x n : Str} {c : Value} {i : Nat} {body suite : List Stmt} {b₀ : Stmt} {np pos pos' : Pos} {tb : WX → TS} {ts : Addr → Value → Option Addr → TS} {Wout : WX}
theorem ps_try_T (hs : X.stack = X.env :: X.outer) (hf : X.env.frame = some X.env.locals) (hex : X.ex = []) (hN : X.N.Nodup) (hi : X.N[i]? = some n) (hln : X.env.kindOf n = some .local) (hc : Names X x c) (tk : Takes X Wout)
    (hb : ∀ (W : WX) (pn : List (Addr × Obj)) (xe : Value → Shared → Prop), Takes (X.tr pn xe) W → PassesOwn (model X.prog X.w) X.A X.env xe → PSs (X.tr pn xe) body (tb W))
    (hsu : ∀ (a : Addr) (oe : Obj) (cls : Value) (d : Option Addr) (pn : List (Addr × Obj)), Zc cls d oe → (∃ vs, oe.data = .fields vs) → PSs (X.suite a ((a, oe) :: pn)) (b₀ :: suite) (ts a cls d)) :
    PS X (.Try body [.ExceptHandler (some (.Name x np)) (some n) (b₀ :: suite) pos'] [] [] pos) (fun D σ H => tb (wAsT X.K c i ts Wout D) D σ H) := by
  refine ⟨fun pins s σ H D I h => ?_⟩
  have ok := I.ok
  have hfr : X.A.frames = some (X.env :: X.outer) := by rw [ok.frames, hs]
  have hloc : Loc X.env.scope n := .inl hln
  refine wpAny_Try_except ?_
  refine wpAny_mono ((hb (wAsT X.K c i ts Wout D) (X.pn ++ pins) (fun e s₁ => wpAny (model X.prog X.w) X.A (noteFrame e X.env) (fun _ s₂ => wpAny (model X.prog X.w) X.A (setFlight e none) (fun _ s₃ =>
    wpAny (model X.prog X.w) X.A (handleBy e X.env [.ExceptHandler (some (.Name x np)) (some n) (b₀ :: suite) pos']) (SP X pins D) X.xe s₃) X.xe s₂) X.xe s₁) (fun u s' xx => ?_) PassesOwn.looking).run [] s σ H D (I.toTry _) h) (fun f s1 hsp => ?_) (fun e s1 he => he)
  · -- the catch
    obtain ⟨a, B, sI, pins', σ', H', cls, d, rfl, J', nb, up, sky, na, os, ag, b, hb1, hyes, hno⟩ := xx
    have J : L2.Inv X pins σ' H' sI := J'.ofTry ok
    have sky' : Sky B (X.env :: X.outer) a (Zc cls d) X.env.locals s'.heap := by rw [← hs]; exact sky
    show wpAny (model X.prog X.w) X.A (noteFrame (.ref a) X.env) _ _ _
    refine Sky.land Zc.steady hfr hf sky' fun h3 fl3 up3 => ?_
    have J3 : L2.Inv X pins σ' H' { s' with heap := h3 } := J.landed nb fl3.1 (up.trans up3) os ag
    obtain ⟨oe3, vs3, he3, hz3, hd3⟩ := fl3.there
    have notFr : ∀ {h : Heap} {o : Obj} {vs : Array Value}, h.FunFrames B (X.env :: X.outer) → h.get? a = some o → o.data = .fields vs → a ∉ frs (X.env :: X.outer) := fun {h o vs} ff e dd hm => by
      obtain ⟨_, o', e', hnf⟩ := ff.mem hm
      rw [e] at e'; cases e'
      exact hnf _ dd
    have nfr := notFr fl3.2.2.1 he3 hd3
    have nL : a ≠ X.env.locals := fun z => nfr (List.mem_filterMap.mpr ⟨X.env, List.mem_cons_self, by rw [hf, z]⟩)
    have nF : a ∉ X.fs := fun hm => by
      obtain ⟨e, he, q⟩ := List.mem_filterMap.mp hm
      exact nfr (List.mem_filterMap.mpr ⟨e, List.mem_cons_of_mem _ he, q⟩)
    -- it is new
    have nI : sI.heap.get? a = none := by
      cases e : sI.heap.get? a with
      | none => rfl
      | some o =>
        have := nb a o e (by rw [hs]; exact nfr)
        rw [fl3.2.1] at this
        cases this
    have n0 : X.s_0.heap.get? a = none := by
      cases e : X.s_0.heap.get? a with
      | none => rfl
      | some o =>
        obtain ⟨o', q⟩ := J.base.there a o e (by rw [hex]; exact fun z => nomatch z)
        rw [nI] at q; cases q
    have npin : ∀ p ∈ X.pn ++ pins, p.1 ≠ a := fun p hp z => by
      obtain ⟨q, _⟩ := J.pin p hp
      rw [z, nI] at q; cases q
    have S3 := J3.suite he3 hd3 na nL nF
    refine wpAny_handleBy_cons (codeAny_handlers_test ?_) (by intro q; cases q)
    have LT : PySem.W.Looks (model X.prog X.w) h3 (typeOf (.ref a)) cls := fun A Q E s k q => wpAny_typeOf_ref (k _ _ he3) (by rw [hz3.1]; exact q)
    have LM := PySem.W.exm_one (M := model X.prog X.w) (J3.kIn) LT hb1
    have test : ∀ {Q : Value → Shared → Prop} {E : Value → Shared → Prop}, Q c { s' with heap := h3 } → wpAny (model X.prog X.w) (X.A.mark (some (.ref a))) (eval (.Name x np) X.env) Q E { s' with heap := h3 } := fun {Q E} q => by
      obtain ⟨hg, hdbg, hm | ⟨hm, hv, hnn⟩⟩ := hc
      · exact ld_glob (X := X.suite a ((a, oe3) :: (X.pn ++ pins))) S3 hg hm q hdbg
      · exact ld_blt (X := X.suite a ((a, oe3) :: (X.pn ++ pins))) S3 hg hm hv q hnn hdbg
    refine test (LM.here ?_)
    cases b with
    | true =>
      refine codeAny_handlers_suite_as ?_
      refine HandSPX.lands_againZ fl3 fun h4 fl4 up4 => ?_
      have J4 : L2.Inv X pins σ' H' { s' with heap := h4 } := J.landed nb fl4.1 ((up.trans up3).trans up4) os ag
      obtain ⟨oe4, vs4, he4, hz4, hd4⟩ := fl4.there
      have S4 := J4.suite he4 hd4 na nL nF
      refine store_ok (X := X.suite a ((a, oe4) :: (X.pn ++ pins))) (v := .ref a) S4 hN hi hloc rfl (fun s5 S5 => ?_) (.inr hln)
      refine wpAny_mono ((hsu a oe4 cls d (X.pn ++ pins) hz4 ⟨_, hd4⟩).run [] s5 _ H' _ S5 (hyes rfl a na)) (fun f s6 hsp => ?_) (fun _ _ z => False.elim z)
      cases f with
      | next =>
        obtain ⟨σ6, H6, S6, q6⟩ := hsp
        obtain ⟨ha6, na6, _⟩ := S6.pin (a, oe4) (List.mem_append_left _ List.mem_cons_self)
        have J6 := Inv_track (S6.unsuite ok) n0 na6 nL ha6 hd4 npin (exN_ok (P := X.prog) (w := X.w) (H := upd H6 a (ExN cls d a)) ha6 hz4 hd4)
        exact gone_ok J6 hN hi hln fun s7 J7 => ⟨_, _, J7, q6⟩
      | brk =>
        obtain ⟨σ6, H6, S6, q6⟩ := hsp
        exact q6.elim
      | cont =>
        obtain ⟨σ6, H6, S6, q6⟩ := hsp
        exact q6.elim
      | ret u =>
        obtain ⟨v6, σ6, H6, S6, r6, q6⟩ := hsp
        exact q6.elim
    | false =>
      show wpAny _ X.A (handleBy (.ref a) X.env []) _ _ _
      refine wpAny_handleBy_nil ?_
      obtain ⟨k1, k2, k3, oe, vs, T, oT, ts', he, hz, hd, h1, hr⟩ := id fl3
      unfold PySem.passOn
      refine wpAny_bind (wpAny_field he hd h1 ?_)
      rw [if_neg (show ¬ ((Value.ref T == Value.none) = true) from by simp)]
      have fin : wpAny (model X.prog X.w) X.A (setFlight (.ref a) X.env.frame) (fun _ s4 => wpAny (model X.prog X.w) X.A (throw (.ref a) : Sem Flow) (SP X pins D) X.xe s4) X.xe { s' with heap := h3 } := by
        rw [hf]
        refine HandSPX.setFlight_upZ fl3 fun h4 hh4 up4 => wpAny_throw (tk _ _ ?_)
        exact ⟨a, B, sI, pins, σ', H', cls, d, rfl, J, nb, (up.trans up3).trans up4, .inr (.inr (by rw [hs]; exact hh4)), na, os, ag, hno rfl⟩
      first
        | exact wpAny_bind (wpAny_pure (wpAny_bind fin))
        | exact wpAny_bind fin
  · cases f with
    | next =>
      obtain ⟨σ', H', J', q⟩ := hsp
      exact wpAny_execs_nil ⟨σ', H', J'.ofTry ok, q⟩
    | brk =>
      obtain ⟨σ', H', J', q⟩ := hsp
      exact ⟨σ', H', J'.ofTry ok, q⟩
    | cont =>
      obtain ⟨σ', H', J', q⟩ := hsp
      exact ⟨σ', H', J'.ofTry ok, q⟩
    | ret u =>
      obtain ⟨v, σ', H', J', r, q⟩ := hsp
      exact ⟨v, σ', H', J'.ofTry ok, r, q⟩
end
/-! ### isinstance of a kept exception -/
/-- what the class D must say, so that isinstance asks its instances rightly -/
structure XcC (K : PySem.W.Frag) (D : Addr) : Prop where
  cl : (PySem.W.clsIn K D).isSome = true
  hg : PySem.W.findIn K (.ref D) "__getattribute__" = some (some (.builtin "BaseException.__getattribute__"))
  hk : PySem.W.findIn K (.ref D) "__getattr__" = some none
  hs : PySem.W.subIn K (.ref D) (.type "BaseException") = some true
  hd : PySem.W.hasDictIn K D = true
  ha : PySem.W.findIn K (.ref D) "__class__" = some (some (.builtin "object.__class__"))
  hn : PySem.W.specialIn K (.builtin "object.__class__") "__get__" = some (some (.builtin "getset_descriptor.__get__"))
  ht : PySem.W.takesIn K (.builtin "object.__class__") = some true
  hm : PySem.W.mroIn K D (.type "object") = some true
def xcB (K : PySem.W.Frag) (D : Addr) : Bool :=
  (PySem.W.clsIn K D).isSome && (decide (PySem.W.findIn K (.ref D) "__getattribute__" = some (some (.builtin "BaseException.__getattribute__"))) && (decide (PySem.W.findIn K (.ref D) "__getattr__" = some none) && (decide (PySem.W.subIn K (.ref D) (.type "BaseException") = some true) && (PySem.W.hasDictIn K D && (decide (PySem.W.findIn K (.ref D) "__class__" = some (some (.builtin "object.__class__"))) && (decide (PySem.W.specialIn K (.builtin "object.__class__") "__get__" = some (some (.builtin "getset_descriptor.__get__"))) && (decide (PySem.W.takesIn K (.builtin "object.__class__") = some true) && decide (PySem.W.mroIn K D (.type "object") = some true))))))))
theorem xcB_ok {K : PySem.W.Frag} {D : Addr} (h : xcB K D = true) : XcC K D := by
  unfold xcB at h
  simp only [Bool.and_eq_true, decide_eq_true_eq] at h
  obtain ⟨h1, h2, h3, h4, h5, h6, h7, h8, h9⟩ := h
  exact ⟨h1, h2, h3, h4, h5, h6, h7, h8, h9⟩
/-- isinstance(e, c) of an exception that is kept -/
def rIsT (K : PySem.W.Frag) : List V → Hp → VK → Prop := fun xs H Q => ∃ (a D : Addr) (d : Option Addr) (c : V) (cv : Value) (b : Bool), xs = [.ref a, c] ∧ H a = some (ExN (.ref D) d a) ∧ (∀ dd, d = some dd → ∃ fs, H dd = some (.xd fs)) ∧ XcC K D ∧ (∀ u, RelV c u → u = cv) ∧ PySem.W.kitOne K (.ref D) cv = some b ∧ Q (.bl b) H
theorem call_isT {X : Cx} : CallR X (.builtin "isinstance") (rIsT X.K) := by
  intro pins s σ H xs us Q I r h
  obtain ⟨a, D, d, c, cv, b, rfl, hH, hdx, C, hcv, e, q⟩ := h
  cases r with
  | cons rx rr =>
    cases rr with
    | cons rt rr =>
      cases rr
      cases rx
      have ec := hcv _ rt
      subst ec
      obtain ⟨⟨oe, vs, hget, hz, hv⟩, _, _⟩ := I.hok a _ hH
      have J : ∃ od, PySem.W.InstAt s.heap a oe D od := by
        obtain ⟨oc, od, oda, osl⟩ := oe
        obtain ⟨h1, h2⟩ := hz
        dsimp only at h1 h2 hv
        subst h1 h2 hv
        cases od with
        | none => exact ⟨none, hget, rfl, rfl, trivial⟩
        | some dd =>
          obtain ⟨fs, hf⟩ := hdx dd rfl
          obtain ⟨mA, hns, _⟩ := I.hok dd _ hf
          obtain ⟨o, _, _, ho, _⟩ := id hns
          exact ⟨some o, hget, rfl, rfl, ho⟩
      obtain ⟨od, J⟩ := J
      exact PySem.W.kia_one (PySem.W.kitx_exc C.cl C.hg C.hk C.hs C.ha C.hn C.ht C.hm) I.kIn J e (fun z => nomatch z) fun tk => ⟨.bl b, H, I.kept (t' := tk) fun _ _ z => z, rfl, q⟩
end Dt
/-! exceptions over data -/
namespace Dt
open PySem PySem.Spec L2 Evl PyProof.Rows
variable [WD]
/-- what the head tells of an exception's class -/
structure ExF (K : PySem.W.Frag) (mg : Str → Option Value) (x : Str) : Prop where
  g : mg x = some (.ref (cA K x))
  q : PySem.W.excIn K (cA K x) He.veBase "ValueError.__new__" = true
  k : PySem.W.keepIn K (.ref (cA K x)) = true
  s : PySem.W.subIn K (.ref (cA K x)) (.type "BaseException") = some true
  t : PySem.W.typeIn K (.ref (cA K x)) = some (.type "type")
section
variable {Z : Zx} {W : WX}
/-! ### raise C(text) -/
def fRaise (e : XD) : Rho → R Fl := fun ρ => .ex e ρ
theorem s_raise {c : Str} : DS Z W (fun _ σ H => W (.ref (cA Z.K c)) none σ H) (fRaise ⟨c, none⟩) := fun Hf H O σ ρ s En p => p _ _ Hf H O σ s Gr.refl Orl.refl Kq.refl ⟨rfl, rfl⟩
theorem k_raise {X : Cx} {W : WX} (K : PySem.W.Frag) {x m : Str} {j : Nat} {p p2 pos pos' : Pos} (hc : X.calm = true) (tk : Takes X W) (F : ExF K X.mg x) (hg : Gl X x) (hdb : (x == ("__debug__" : Str)) = false := by decide) (hK : X.K = K := by rfl) :
    PS X (.Raise (some (.Call (.Name x p) [.Constant (.str m) j p2] [] pos)) none pos') (fun _ σ H => W (.ref (cA K x)) none σ H) := by
  subst hK
  exact ps_raise hc tk (pmk_own PySem.F.excBase_ValueError F.q F.g F.k (raises_own F.s F.t) hg hdb)
/-! ### try: .. except C as n: y = n -/
def ioS : Sl → Bool
  | .own true _ => true
  | .m true _ => true
  | _ => false
def fTryN (sub : Str → Option Bool) (fb : Rho → R Fl) (i j : Nat) : Rho → R Fl := fun ρ => match fb ρ with
  | .ex e ρ1 => (match sub e.c with
    | some true => (match ρ1[i]?, ρ1[j]? with
      | some si, some sj => if (ioS si || ioS sj || decide (i = j)) = true then .bad else .ok .nx ((ρ1.set j (.x e)).set i .no)
      | _, _ => .bad)
    | some false => .ex e ρ1
    | none => .bad)
  | r => r
theorem SR.putX {K : PySem.W.Frag} {Hf H : Hp} {O : Addr → Prop} {σ : L2.St} {ρ : Rho} (s : SR K Hf H O σ ρ) {i : Nat} {a : Addr} {e : XD} (hi : i < ρ.length) (r : XH K Hf a e) : SR K Hf H O (σ.set i (some (.ref a))) (ρ.set i (.x e)) where
  ex := s.ex
  otr := s.otr
  len := by simp [s.len]
  slot := fun j y h => by
    by_cases z : i = j
    · subst z; rw [List.getElem?_set_self hi] at h; cases h
    · rw [List.getElem?_set_ne z] at h ⊢; exact s.slot j y h
  own := fun j b xs h => by
    by_cases z : i = j
    · subst z; rw [List.getElem?_set_self hi] at h; cases h
    · rw [List.getElem?_set_ne z] at h ⊢; exact s.own j b xs h
  dis := fun j k b c xs ys l h1 h2 h3 h4 => by
    by_cases z : i = j
    · subst z; rw [List.getElem?_set_self hi] at h1; cases h1
    · by_cases z2 : i = k
      · subst z2; rw [List.getElem?_set_self hi] at h2; cases h2
      · rw [List.getElem?_set_ne z] at h1 h3
        rw [List.getElem?_set_ne z2] at h2 h4
        exact s.dis j k b c xs ys l h1 h2 h3 h4
  exc := fun j e' h => by
    by_cases z : i = j
    · subst z
      rw [List.getElem?_set_self hi] at h
      cases h
      exact ⟨a, List.getElem?_set_self (by rw [s.len]; exact hi), r⟩
    · rw [List.getElem?_set_ne z] at h ⊢; exact s.exc j e' h
  mr := s.mr.setS i _ (fun _ _ z => by cases z) fun _ _ z => by cases z
/-- a slot forgotten -/
theorem SR.drop {K : PySem.W.Frag} {Hf H : Hp} {O : Addr → Prop} {σ : L2.St} {ρ : Rho} (s : SR K Hf H O σ ρ) {i : Nat} {u : Option V} (hi : i < ρ.length) : SR K Hf H O (σ.set i u) (ρ.set i .no) where
  ex := s.ex
  otr := s.otr
  len := by simp [s.len]
  slot := fun j y h => by
    by_cases z : i = j
    · subst z; rw [List.getElem?_set_self hi] at h; cases h
    · rw [List.getElem?_set_ne z] at h ⊢; exact s.slot j y h
  own := fun j b xs h => by
    by_cases z : i = j
    · subst z; rw [List.getElem?_set_self hi] at h; cases h
    · rw [List.getElem?_set_ne z] at h ⊢; exact s.own j b xs h
  dis := fun j k b c xs ys l h1 h2 h3 h4 => by
    by_cases z : i = j
    · subst z; rw [List.getElem?_set_self hi] at h1; cases h1
    · by_cases z2 : i = k
      · subst z2; rw [List.getElem?_set_self hi] at h2; cases h2
      · rw [List.getElem?_set_ne z] at h1 h3
        rw [List.getElem?_set_ne z2] at h2 h4
        exact s.dis j k b c xs ys l h1 h2 h3 h4
  exc := fun j e' h => by
    by_cases z : i = j
    · subst z; rw [List.getElem?_set_self hi] at h; cases h
    · rw [List.getElem?_set_ne z] at h ⊢; exact s.exc j e' h
  mr := s.mr.setS i _ (fun _ _ z => by cases z) fun _ _ z => by cases z
theorem s_tryN {tb : WX → TS} {fb : Rho → R Fl} {c : Str} {i j : Nat} {sub : Str → Option Bool} (hsub : ∀ n b, sub n = some b → PySem.W.exmOne Z.K (.ref (cA Z.K n)) (.ref (cA Z.K c)) = some b) (hb : ∀ W', DS Z W' (tb W') fb) :
    DS Z W (fun D σ H => tb (wAsT Z.K (.ref (cA Z.K c)) i (fun _ _ _ => tAsg (tVar i) (gName j)) W D) D σ H) (fTryN sub fb i j) := by
  intro Hf H O σ ρ s En p
  refine hb _ Hf H O σ ρ s En ?_
  unfold fTryN at p
  cases ef : fb ρ with
  | bad => rw [ef] at p; exact p
  | ok fl ρ1 => rw [ef] at p; exact p
  | ex e ρ1 =>
    rw [ef] at p
    intro cls d Hf1 H1 O1 σ1 s1 g1 o1 k1 xr
    obtain ⟨rfl, xf⟩ := xr
    simp only at p
    cases es : sub e.c with
    | none => rw [es] at p; exact p.elim
    | some b =>
      rw [es] at p
      refine ⟨b, hsub _ _ es, fun hbt a na => ?_, fun hbf => ?_⟩
      · subst hbt
        cases ei : ρ1[i]? with
        | none => rw [ei] at p; exact p.elim
        | some si =>
          cases ej : ρ1[j]? with
          | none => rw [ei, ej] at p; exact p.elim
          | some sj =>
            rw [ei, ej] at p
            have p : PostS Z W O σ ρ Hf H En (if (ioS si || ioS sj || decide (i = j)) = true then .bad else .ok .nx ((ρ1.set j (.x e)).set i .no)) := p
            by_cases hc : (ioS si || ioS sj || decide (i = j)) = true
            · rw [if_pos hc] at p; exact p.elim
            · rw [if_neg hc] at p
              simp only [Bool.or_eq_true, not_or, decide_eq_true_eq] at hc
              obtain ⟨⟨c1, c2⟩, c3⟩ := hc
              have hi := (List.getElem?_eq_some_iff.mp ei).1
              have hj := (List.getElem?_eq_some_iff.mp ej).1
              have g2 := Pg.new (o := ExN (.ref (cA Z.K e.c)) d a) s1.ex na
              have s2 := s1.grow g2
              have xh : XH Z.K (upd Hf1 a (ExN (.ref (cA Z.K e.c)) d a)) a e := by
                unfold XH
                cases efs : e.fs with
                | none =>
                  rw [efs] at xf
                  have xf : d = none := xf
                  subst xf
                  exact upd_same
                | some fs =>
                  rw [efs] at xf
                  obtain ⟨dd, vs, rfl, h1, h2⟩ := xf
                  exact ⟨dd, vs, upd_same, g2.ef _ _ h1, h2.mono g2.ef⟩
              have s3 := (s2.putX hj xh).drop (i := i) (u := none) (by simpa using hi)
              show ∃ v, (σ1.set i (some (.ref a)))[i]? = some (some v) ∧ _
              refine ⟨.ref a, List.getElem?_set_self (by rw [s1.len]; exact hi), ?_⟩
              show En.nx (((σ1.set i (some (.ref a))).set j (some (.ref a))).set i none) _
              have eσ : ((σ1.set i (some (.ref a))).set j (some (.ref a))).set i none = (σ1.set j (some (.ref a))).set i none := by
                rw [List.set_comm _ _ (fun z => c3 z), List.set_set]
              rw [eσ]
              have kj : Kq ρ1 (ρ1.set j (.x e)) σ1 (σ1.set j (some (.ref a))) := Kq.setS (fun xs ek => by rw [ej] at ek; cases ek; exact c2 rfl) fun xs ek => by rw [ej] at ek; cases ek; exact c2 rfl
              have ei' : (ρ1.set j (.x e))[i]? = some si := by rw [List.getElem?_set_ne (fun z => c3 z.symm)]; exact ei
              have ki : Kq (ρ1.set j (.x e)) ((ρ1.set j (.x e)).set i .no) (σ1.set j (some (.ref a))) ((σ1.set j (some (.ref a))).set i none) := Kq.setS (fun xs ek => by rw [ei'] at ek; cases ek; exact c1 rfl) fun xs ek => by rw [ei'] at ek; cases ek; exact c1 rfl
              exact p _ _ O1 _ s3 (g1.transO g2.gr o1) o1 (k1.trans (kj.trans ki))
      · subst hbf
        exact p _ d Hf1 H1 O1 σ1 s1 g1 o1 k1 ⟨rfl, xf⟩
/-! ### isinstance(e, C), e is None -/
def fIsX (sub : Str → Option Bool) (i : Nat) : Rho → R AV := fun ρ => match ρ[i]? with
  | some (.x e) => (match sub e.c with
    | some b => .ok (.d (.bool b)) ρ
    | none => .bad)
  | _ => .bad
theorem d_isX {i : Nat} {cv : V} {cu : Value} {sub : Str → Option Bool} (hcv : ∀ u, RelV cv u → u = cu) (hsub : ∀ n b, sub n = some b → XcC Z.K (cA Z.K n) ∧ PySem.W.kitOne Z.K (.ref (cA Z.K n)) cu = some b) :
    DE Z W (tCB (rIsT Z.K) (tCons (tVar i) (tCons (tC cv) tNil))) (fIsX sub i) := by
  intro Hf H O σ ρ s Q p
  unfold fIsX at p
  cases e0 : ρ[i]? with
  | none => rw [e0] at p; exact p.elim
  | some z =>
    rw [e0] at p
    cases z with
    | no => exact p.elim
    | d _ => exact p.elim
    | own _ _ => exact p.elim
    | m _ _ => exact p.elim
    | x e =>
      simp only at p
      cases es : sub e.c with
      | none => rw [es] at p; exact p.elim
      | some b =>
        rw [es] at p
        obtain ⟨a, h1, h2⟩ := s.exc i e e0
        obtain ⟨hx, hk⟩ := hsub _ _ es
        refine ⟨.ref a, h1, ?_⟩
        have q := p Hf H s Gr.refl Kp.refl (.bl b) (RD.bl b)
        unfold XH at h2
        cases efs : e.fs with
        | none =>
          rw [efs] at h2
          exact ⟨a, _, none, cv, cu, b, rfl, s.ex _ _ h2, (fun dd z => by cases z), hx, hcv, hk, q⟩
        | some fs =>
          rw [efs] at h2
          obtain ⟨dd, vs, h3, h4, h5⟩ := h2
          exact ⟨a, _, some dd, cv, cu, b, rfl, s.ex _ _ h3, (fun d' z => by cases z; exact ⟨vs, s.ex _ _ h4⟩), hx, hcv, hk, q⟩
def fIsNX (i : Nat) : Rho → R AV := fun ρ => match ρ[i]? with
  | some (.x _) => .ok (.d (.bool false)) ρ
  | some (.d v) => .ok (.d (.bool (isNon v))) ρ
  | _ => .bad
theorem d_isNX {i : Nat} : DE Z W (tOp (fun x y H Q => y = .non ∧ Q (.bl (decide (x = .non))) H) (tVar i) (tC .non)) (fIsNX i) := by
  intro Hf H O σ ρ s Q p
  unfold fIsNX at p
  cases e0 : ρ[i]? with
  | none => rw [e0] at p; exact p.elim
  | some z =>
    rw [e0] at p
    cases z with
    | no => exact p.elim
    | own _ _ => exact p.elim
    | m _ _ => exact p.elim
    | d v =>
      obtain ⟨u, h1, h2⟩ := s.slot i v e0
      refine ⟨u, h1, rfl, ?_⟩
      have := RX.isNon (K := Z.K) (H := H) (.inl h2)
      rw [this]
      exact p Hf H s Gr.refl Kp.refl _ (RD.bl _)
    | x e =>
      obtain ⟨a, h1, h2⟩ := s.exc i e e0
      refine ⟨.ref a, h1, rfl, ?_⟩
      exact p Hf H s Gr.refl Kp.refl _ (RD.bl _)
/-! ### f(e, ..): an exception handed on -/
def kCallX (g : Rho → R RV) (s0 : Option Sl) (o : Option (List Pd)) (ρ1 : Rho) : R AV := match s0, o with
  | some (.x e), some xs => (match g (.x e :: xs.map Sl.d) with
    | .ok (.d x) _ => .ok (.d x) ρ1
    | .ex e _ => .ex e ρ1
    | _ => .bad)
  | _, _ => .bad
def fCallX (n i : Nat) (g : Rho → R RV) (fa : Rho → R (List AV)) : Rho → R AV := fun ρ => match ρ[i]? with
  | some (.x _) => (fa ρ).bind fun as ρ1 => kCallX g ρ1[i]? (argsD n as) ρ1
  | _ => .bad
theorem d_callX {n i : Nat} {g : Rho → R RV} {t : TA} {fa : Rho → R (List AV)} (ha : DA Z W t fa) : DE Z W (tCallS (spF Z (n + 1) g) (WE W) (tCons (tVar i) t)) (fCallX n i g fa) := by
  intro Hf H O σ ρ s Q p
  unfold fCallX at p
  cases e0 : ρ[i]? with
  | none => rw [e0] at p; exact p.elim
  | some z0 =>
    rw [e0] at p
    cases z0 with
    | no => exact p.elim
    | d _ => exact p.elim
    | own _ _ => exact p.elim
    | m _ _ => exact p.elim
    | x e0' =>
      simp only at p
      obtain ⟨a0, h1, h2⟩ := s.exc i e0' e0
      refine ⟨.ref a0, h1, ?_⟩
      refine ha.bind s p fun as ρ1 vs Hf1 H1 s1 g1 k1 rs p1 => ?_
      cases e1 : ρ1[i]? with
      | none => rw [e1] at p1; exact p1.elim
      | some z1 =>
        rw [e1] at p1
        cases z1 with
        | no => exact p1.elim
        | d _ => exact p1.elim
        | own _ _ => exact p1.elim
        | m _ _ => exact p1.elim
        | x e =>
          obtain ⟨a, q1, q2⟩ := s1.exc i e e1
          rw [h1] at q1
          cases q1
          cases ed : argsD n as with
          | none => rw [ed] at p1; exact p1.elim
          | some xs =>
            rw [ed] at p1
            obtain ⟨r, hn⟩ := argsD_ok rs ed
            have ra := r.args s1.ex
            have sc : SR Z.K Hf1 H1 (fun _ => False) ((V.ref a0 :: vs).map some) (.x e :: xs.map Sl.d) := by
              refine ⟨s1.ex, fun a h => h.elim, by simp [r.length], fun j x h => ?_, fun j c x h => ?_, fun j k c d x y m b1 b2 _ _ => ?_, fun j e' h => ?_, MR.none fun j c o h => ?mu⟩
              case mu =>
                cases j with
                | zero => cases h
                | succ j => exact ioArgs (xs := xs) (σ := []) |>.nom j c o h
              · cases j with
                | zero => cases h
                | succ j => exact ra.slot j x h
              · cases j with
                | zero => cases h
                | succ j => obtain ⟨_, _, _, z, _⟩ := ra.own j c x h; exact z.elim
              · cases j with
                | zero => cases b1
                | succ j => obtain ⟨_, _, _, z, _⟩ := ra.own j c x b1; exact z.elim
              · cases j with
                | zero => cases h; exact ⟨a0, rfl, q2⟩
                | succ j => exact ra.exc j e' h
            have io : IoOk (fun _ => False) ((V.ref a0 :: vs).map some) (.x e :: xs.map Sl.d) := by
              refine ⟨fun j b x h => ?_, fun j c o h => ?_, fun a h => h.elim⟩
              · cases j with
                | zero => cases h
                | succ j => obtain ⟨_, _, _, z, _⟩ := ra.own j b x h; exact z.elim
              · cases j with
                | zero => cases h
                | succ j => exact ioArgs (xs := xs) (σ := []) |>.nom j c o h
            refine ⟨congrArg Nat.succ hn, Hf1, fun _ => False, .x e :: xs.map Sl.d, sc, io, ?_⟩
            unfold kCallX at p1
            simp only at p1
            cases eg : g (.x e :: xs.map Sl.d) with
            | bad => rw [eg] at p1; exact p1.elim
            | ex y as' =>
              rw [eg] at p1
              intro cls d Hf' H' s' g' xr
              have gp := g'.pg s'.ex
              exact p1 cls d Hf' H' (s1.grow gp) gp.gr Kp.refl xr
            | ok rv as' =>
              rw [eg] at p1
              cases rv with
              | l ys => exact p1.elim
              | m ys => exact p1.elim
              | d y =>
                intro v Hf' H' s' g' rd
                have gp := g'.pg s'.ex
                exact p1 Hf' H' (s1.grow gp) gp.gr Kp.refl v rd
end
section
variable {ρ : Rho} {i j n : Nat}
omit [WD] in
@[simp] theorem fRaise_ap {e : XD} : fRaise e ρ = .ex e ρ := rfl
omit [WD] in
@[simp] theorem fIsX_ap {sub : Str → Option Bool} : fIsX sub i ρ = (match ρ[i]? with | some (.x e) => (match sub e.c with | some b => .ok (.d (.bool b)) ρ | none => .bad) | _ => .bad) := rfl
omit [WD] in
@[simp] theorem fIsNX_ap : fIsNX i ρ = (match ρ[i]? with | some (.x _) => .ok (.d (.bool false)) ρ | some (.d v) => .ok (.d (.bool (isNon v))) ρ | _ => .bad) := rfl
omit [WD] in
@[simp] theorem fCallX_ap {g : Rho → R RV} {fa : Rho → R (List AV)} : fCallX n i g fa ρ = (match ρ[i]? with | some (.x _) => (fa ρ).bind fun as ρ1 => kCallX g ρ1[i]? (argsD n as) ρ1 | _ => .bad) := rfl
omit [WD] in
@[simp] theorem kCallX_some {g : Rho → R RV} {e : XD} {xs : List Pd} : kCallX g (some (.x e)) (some xs) ρ = (match g (.x e :: xs.map Sl.d) with | .ok (.d x) _ => .ok (.d x) ρ | .ex e _ => .ex e ρ | _ => .bad) := rfl
omit [WD] in
theorem fTryN_ok {sub : Str → Option Bool} {fb : Rho → R Fl} {fl : Fl} {ρ1 : Rho} (h : fb ρ = .ok fl ρ1) : fTryN sub fb i j ρ = .ok fl ρ1 := by
  unfold fTryN; rw [h]
omit [WD] in
theorem fTryN_ex {sub : Str → Option Bool} {fb : Rho → R Fl} {e : XD} {ρ1 : Rho} {si sj : Sl} (h : fb ρ = .ex e ρ1) (hs : sub e.c = some true) (hi : ρ1[i]? = some si) (hj : ρ1[j]? = some sj) (ni : ioS si = false) (nj : ioS sj = false) (hij : i ≠ j) :
    fTryN sub fb i j ρ = .ok .nx ((ρ1.set j (.x e)).set i .no) := by
  unfold fTryN
  rw [h]
  simp only [hs, hi, hj, ni, nj]
  simp [hij]
end
/-! ### which class lies under which, as the head tells it -/
def sbG (raised : List Str) (up : List (Str × Str)) (c n : Str) : Option Bool := if n ∈ raised then some (decide ((n, c) ∈ up)) else none
def okIs (K : PySem.W.Frag) (raised tested : List Str) (up : List (Str × Str)) : Bool := raised.all fun n => xcB K (cA K n) && tested.all fun c => decide (PySem.W.kitOne K (.ref (cA K n)) (.ref (cA K c)) = some (decide ((n, c) ∈ up)))
def okIsB (K : PySem.W.Frag) (raised : List Str) (c : Str) (v : Value) (up : List (Str × Str)) : Bool := raised.all fun n => xcB K (cA K n) && decide (PySem.W.kitOne K (.ref (cA K n)) v = some (decide ((n, c) ∈ up)))
def okEx (K : PySem.W.Frag) (raised caught : List Str) (up : List (Str × Str)) : Bool := raised.all fun n => caught.all fun c => decide (PySem.W.exmOne K (.ref (cA K n)) (.ref (cA K c)) = some (decide ((n, c) ∈ up)))
omit [WD] in
theorem sbG_some {raised : List Str} {up : List (Str × Str)} {c n : Str} {b : Bool} (h : sbG raised up c n = some b) : n ∈ raised ∧ b = decide ((n, c) ∈ up) := by
  unfold sbG at h
  split at h
  · next z => exact ⟨z, (Option.some.inj h).symm⟩
  · cases h
theorem okIs_ok {K : PySem.W.Frag} {raised tested : List Str} {up : List (Str × Str)} (h : okIs K raised tested up = true) (c : Str) (hc : decide (c ∈ tested) = true) (n : Str) (b : Bool) (e : sbG raised up c n = some b) : XcC K (cA K n) ∧ PySem.W.kitOne K (.ref (cA K n)) (.ref (cA K c)) = some b := by
  obtain ⟨hn, rfl⟩ := sbG_some e
  have := List.all_eq_true.mp h n hn
  simp only [Bool.and_eq_true] at this
  exact ⟨xcB_ok this.1, of_decide_eq_true (List.all_eq_true.mp this.2 c (of_decide_eq_true hc))⟩
theorem okIsB_ok {K : PySem.W.Frag} {raised : List Str} {c : Str} {v : Value} {up : List (Str × Str)} (h : okIsB K raised c v up = true) (n : Str) (b : Bool) (e : sbG raised up c n = some b) : XcC K (cA K n) ∧ PySem.W.kitOne K (.ref (cA K n)) v = some b := by
  obtain ⟨hn, rfl⟩ := sbG_some e
  have := List.all_eq_true.mp h n hn
  simp only [Bool.and_eq_true] at this
  exact ⟨xcB_ok this.1, of_decide_eq_true this.2⟩
theorem okEx_ok {K : PySem.W.Frag} {raised caught : List Str} {up : List (Str × Str)} (h : okEx K raised caught up = true) (c : Str) (hc : decide (c ∈ caught) = true) (n : Str) (b : Bool) (e : sbG raised up c n = some b) : PySem.W.exmOne K (.ref (cA K n)) (.ref (cA K c)) = some b := by
  obtain ⟨hn, rfl⟩ := sbG_some e
  exact of_decide_eq_true (List.all_eq_true.mp (List.all_eq_true.mp h n hn) c (of_decide_eq_true hc))
theorem kIsT {X : Cx} (K : PySem.W.Frag) (hK : X.K = K := by rfl) : CallR X (.builtin "isinstance") (rIsT K) := by subst hK; exact call_isT
end Dt
/-! exceptions with a field: made by an own __init__, the field read of a kept one -/
namespace Dt
open PySem PySem.Spec L2 Evl PyProof.Rows
variable [WD]
section
variable {X : Cx} {o e : Expr} {es : List Expr} {to te : TE} {ta : TA} {f x : Str} {p p' p1 p2 pos : Pos} {L : Addr}
/-- what the head tells of the class whose __init__ is called -/
structure BaC (K : PySem.W.Frag) (L : Addr) : Prop where
  g : PySem.W.specialIn K (.ref L) "__getattribute__" = some (some (.builtin "type.__getattribute__"))
  r : PySem.W.readsIn K L (.type "type") = true
  i : (match PySem.W.findCls K (.ref L) (.type "type") "__init__" with | some (.val v) => v == .builtin "ValueError.__init__" | _ => false) = true
theorem BaC.init {K : PySem.W.Frag} (B : BaC K L) : PySem.W.findCls K (.ref L) (.type "type") "__init__" = some (.val (.builtin "ValueError.__init__")) := by
  have h := B.i
  split at h
  · next v e => rw [e, eq_of_beq h]
  · cases h
/-- L.__init__(self, ..), L an own class over ValueError -/
theorem pe_leinit {pl : Sem Bool} (hg : Gl X x) (hm : X.mg x = some (.ref L)) (B : BaC X.K L) (ha : PA X (e :: es) ta)
    (hc : eval (.Call (.Attribute (.Name x p1) "__init__" p2) (e :: es) [] pos) X.env = (do
      let ov ← eval (.Name x p1) X.env
      standAt p2.atName
      let (f, first) ← holding [ov] (getMethod ov "__init__" pl)
      callWith pos f first (backTo pos (starEach (e :: es) X.env)) (backToKw pos (keywordEach [] X.env))) := by rfl)
    (hdb : (x == ("__debug__" : Str)) = false := by decide)
    (he : starEach (e :: es) X.env = (false, eval e X.env) :: starEach es X.env := by rfl) (hpl : (backTo pos (starEach es X.env)).any (·.1) = false := by rfl) :
    PE X (.Call (.Attribute (.Name x p1) "__init__" p2) (e :: es) [] pos) (tVeI X.K ta) := by
  refine ⟨fun pins s σ H Q I h => ?_⟩
  refine PySem.W.methodCall_KW (ld_glob I hg hm ?_ hdb) hc
  refine PySem.W.method_cls I.kIn B.g (PySem.W.cls_value I.kIn B.r B.init (by decide +kernel) ?_)
  show wpAny _ _ (callWith pos (Value.builtin "ValueError.__init__") [] (backTo pos (starEach (e :: es) X.env)) []) _ _ _
  refine PyProof.Rows.callWith_method1 (thn (ha.run pos pins _ σ H _ (I.tok _) h) fun us s1 ⟨vs, H1, I1, r1, a, C, ws, ev, hl, T, ea, q⟩ => ?_) he hpl
  subst ev
  cases r1 with
  | @cons _ u0 _ ur ra rw' =>
    obtain rfl : u0 = Value.ref a := ra
    have hlen : ur.length ≤ sizeLine := by
      rw [← Paired.length rw', sizeLine_eq]
      omega
    exact oinit_ok T I1 ea hlen fun s' J => ⟨.non, H1, J, rfl, q⟩
/-! ### e.f of a kept exception -/
def tXfT (K : PySem.W.Frag) (f : Str) (te : TE) : TE := fun σ H Q => te σ H fun x H1 => ∃ (a C dd : Addr) (fs : List (Str × V)) (v : V), x = .ref a ∧ H1 a = some (ExN (.ref C) (some dd) a) ∧ XfC K C ∧ PySem.W.findIn K (.ref C) f = some none ∧ H1 dd = some (.xd fs) ∧ fs.lookup f = some v ∧ Q v H1
theorem pe_xfT {n : Str} (he : PE X e te) (hb : attributeBase e n X.env (eval e X.env) = eval e X.env := by rfl) : PE X (.Attribute e n pos) (tXfT X.K n te) := by
  refine ⟨fun pins s σ H Q I h => ?_⟩
  refine attr_of hb (thn (he.run pins s σ H _ I h) fun u s1 hh => ?_)
  obtain ⟨x, H1, I1, rx, a, C, dd, fs, v, ex, ha, T, hno, ea, l, q⟩ := hh
  subst ex
  obtain rfl : u = Value.ref a := rx
  obtain ⟨⟨oe, vs, hget, hz, hd⟩, _, _⟩ := I1.hok a _ ha
  have hx : ObjOk X.prog X.w H1 s1.heap dd (.xd fs) := I1.hok dd _ ea
  obtain ⟨mA, hns, hr⟩ := hx
  obtain ⟨od, ho, hl⟩ := lookIn_ns hns
  obtain ⟨u, hu, ru⟩ := RelO.some_of (v := v) (o := mA n) (by rw [← l]; exact hr n)
  have J : PySem.W.InstAt s1.heap a oe C (some od) := ⟨hget, hz.1, by unfold PySem.W.notCls; rw [hd] <;> rfl, by rw [hz.2]; exact ho⟩
  exact HandSPX.exc_get I1.kIn J T.ga T.gg T.exC (PySem.W.findObj_own T.hdC hno rfl (by rw [hl, hu])) (handed_of ru) ⟨v, H1, I1.tok _, ru, q⟩
end
/-! ### the __init__ that keeps one field; raise C(x) -/
def spI (C : Addr) (f : Str) : Sp := fun vs H Q _ => ∃ (a : Addr) (v : V), vs = [.ref a, v] ∧ H a = some (exo a C none) ∧ ∀ d, H d = none → d ≠ a → Q .non (upd (upd H d (exd d [(f, v)])) a (exo a C (some d)))
theorem init_ok {P : Program} {w : World} {K : PySem.W.Frag} {mg : Str → Option Value} {base : Heap} {x qual f : Str} {params : Arguments} {body : List Stmt} {scope : Scope} {fI C : Addr} {fd : FuncData} {ps : List Str} (F : FunD K x qual params body scope [] [] fI fd) (S : FnScope ps ps scope) (hl : ps.length = 2)
    (T : OexC K C) (hno : PySem.W.findIn K (.ref C) f = some none)
    (hb : ∀ (cdv : Value) (A : Around) (outer : List Env) (s : Shared) (H : Hp) (E : XK), PSs (cxOf (L2.CX P w) P w K mg base ps qual scope fI cdv A outer s H E) body (tSeq (tDrop (tVeI K (tCons (tVar 0) (tCons (tC (.str t)) tNil)))) (tOst K f (tVar 0) (tVar 1)))) :
    FnOk P w K mg base (L2.CX P w) 1 fI fd ps (spI C f) := by
  refine F.ok S (fun vs H Q E h => ?_) (fun cdv A outer s H vs Q E hr h => ?_)
  · obtain ⟨a, v, rfl, _⟩ := h
    rw [hl]; rfl
  · obtain ⟨a, v, rfl, ha, q⟩ := h
    refine ⟨_, hb cdv A outer s H E, ?_⟩
    have e0 : (L2.start ps [V.ref a, v])[0]? = some (some (.ref a)) := rfl
    have e1 : (L2.start ps [V.ref a, v])[1]? = some (some v) := rfl
    exact ⟨.ref a, e0, a, C, [.str t], rfl, by simp, T, ha, v, e1, .ref a, e0, a, C, rfl, T, hno, .inl ⟨ha, fun dx n ne => q dx n ne⟩⟩
def fRaiseP (c f : Str) (fe : Rho → R AV) : Rho → R Fl := fun ρ => (fe ρ).bind fun a ρ1 => match a with
  | .d x => .ex ⟨c, some [(f, x)]⟩ ρ1
  | .sl _ => .bad
theorem s_raiseP {Z : Zx} {W : WX} {c f : Str} {te : TE} {fe : Rho → R AV} (he : DE Z W te fe) : DS Z W (fun _ σ H => tMkO (cA Z.K c) (spI (cA Z.K c) f) [] (tCons te tNil) σ H fun cls d H' => W cls d σ H') (fRaiseP c f fe) := by
  intro Hf H O σ ρ s En p
  refine DJ.bindS he s p fun a ρ1 v Hf1 H1 s1 g1 k1 rv p1 => ?_
  cases a with
  | sl i => exact p1.elim
  | d x =>
    refine ⟨by simp, fun a na => ?_⟩
    refine ⟨a, v, rfl, upd_same, fun d nd ne => ⟨rfl, d, [(f, v)], upd_same, by rw [upd_ne ne, upd_same], by rw [upd_ne ne] at nd; exact nd, ?_⟩⟩
    rw [upd_ne ne] at nd
    have eh : upd (del (upd (upd (upd H1 a (exo a (cA Z.K c) none)) d (exd d [(f, v)])) a (exo a (cA Z.K c) (some d))) a) d (.xd [(f, v)]) = upd H1 d (.xd [(f, v)]) := by
      funext b
      by_cases hb : b = d
      · subst hb; rw [upd_same, upd_same]
      · rw [upd_ne hb, upd_ne hb]
        by_cases ha : b = a
        · subst ha; rw [del_same, na]
        · rw [del_ne ha, upd_ne ha, upd_ne hb, upd_ne ha]
    rw [eh]
    have g2 := Pg.new (o := HO.xd [(f, v)]) s1.ex nd
    exact p1 _ (some d) _ _ O σ (s1.grow g2) (g1.trans g2.gr) Orl.refl k1.kq ⟨rfl, d, [(f, v)], rfl, upd_same, .cons (RD.mono g2.ef rv) .nil⟩
/-- what the head tells of a class with its own __init__ -/
structure ExI (K : PySem.W.Frag) (mg : Str → Option Value) (x : Str) (fI : Addr) : Prop where
  g : mg x = some (.ref (cA K x))
  o : OexC K (cA K x)
  i : PySem.W.findIn K (.ref (cA K x)) "__init__" = some (some (.ref fI))
  t : PySem.W.typeIn K (.ref fI) = some (.type "function")
theorem k_raiseP {X : Cx} {W : WX} (K : PySem.W.Frag) {x f : Str} {e : Expr} {te : TE} {k : Nat} {fI : Addr} {fd : FuncData} {ps : List Str} {p pos pos' : Pos} (hc : X.calm = true) (tk : Takes X W) (F : ExI K X.mg x fI)
    (F1 : FnOk X.prog X.w K X.mg X.base (L2.CX X.prog X.w) k fI fd ps (spI (cA K x) f)) (hr : Room (k + 1) X.A) (hb : Binds K fd ps []) (hx : Passes (L2.CX X.prog X.w) X (fun _ _ _ => False)) (hg : Gl X x) (he : PE X e te)
    (hdb : (x == ("__debug__" : Str)) = false := by decide) (hst : starEach [e] X.env = (false, eval e X.env) :: starEach [] X.env := by rfl) (hpl : (backTo pos (starEach [] X.env)).any (·.1) = false := by rfl) (hK : X.K = K := by rfl) :
    PS X (.Raise (some (.Call (.Name x p) [e] [] pos)) none pos') (fun _ σ H => tMkO (cA K x) (spI (cA K x) f) [] (tCons te tNil) σ H fun cls d H' => W cls d σ H') := by
  subst hK
  exact ps_raise hc tk (pmk_oex F.o F.i F.t F1 hr hb .nil hx hg F.g (pa_cons he pa_nil (by exact hst)) hdb hst hpl)
/-! ### the field read -/
theorem RF.look {K : PySem.W.Frag} {H : Hp} {f : Str} {d : Pd} : ∀ {vs : List (Str × V)} {ds : List (Str × Pd)}, RF K H vs ds → ds.lookup f = some d → ∃ v, vs.lookup f = some v ∧ RD K H v d
  | _, _, .nil, h => by cases h
  | _, _, .cons (k := k) (v := v) (vs := vs) (d := d') (ds := ds) r rs, h => by
    rw [List.lookup_cons] at h ⊢
    cases e : f == k with
    | true => rw [e] at h; cases h; exact ⟨v, rfl, r⟩
    | false => rw [e] at h; exact RF.look rs h
def fXf (ok : Str → Bool) (i : Nat) (f : Str) : Rho → R AV := fun ρ => match ρ[i]? with
  | some (.x e) => (match ok e.c, e.fs with
    | true, some fs => (match fs.lookup f with
      | some v => .ok (.d v) ρ
      | none => .bad)
    | _, _ => .bad)
  | _ => .bad
theorem d_xf {Z : Zx} {W : WX} {i : Nat} {f : Str} {ok : Str → Bool} (hok : ∀ n, ok n = true → XfC Z.K (cA Z.K n) ∧ PySem.W.findIn Z.K (.ref (cA Z.K n)) f = some none) : DE Z W (tXfT Z.K f (tVar i)) (fXf ok i f) := by
  intro Hf H O σ ρ s Q p
  unfold fXf at p
  cases e0 : ρ[i]? with
  | none => rw [e0] at p; exact p.elim
  | some z =>
    rw [e0] at p
    cases z with
    | no => exact p.elim
    | d _ => exact p.elim
    | own _ _ => exact p.elim
    | m _ _ => exact p.elim
    | x e =>
      simp only at p
      cases eo : ok e.c with
      | false => rw [eo] at p; exact p.elim
      | true =>
        rw [eo] at p
        obtain ⟨hx, hn⟩ := hok _ eo
        obtain ⟨a, h1, h2⟩ := s.exc i e e0
        unfold XH at h2
        cases efs : e.fs with
        | none => rw [efs] at p; exact p.elim
        | some fs =>
          rw [efs] at p h2
          obtain ⟨dd, vs, h3, h4, h5⟩ := h2
          simp only at p
          cases el : fs.lookup f with
          | none => rw [el] at p; exact p.elim
          | some d =>
            rw [el] at p
            obtain ⟨v, hv, rd⟩ := h5.look el
            exact ⟨.ref a, h1, a, _, dd, vs, v, rfl, s.ex _ _ h3, hx, hn, s.ex _ _ h4, hv, p Hf H s Gr.refl Kp.refl v rd⟩
theorem kXf {X : Cx} (K : PySem.W.Frag) {e : Expr} {te : TE} {n : Str} {pos : Pos} (he : PE X e te) (hb : attributeBase e n X.env (eval e X.env) = eval e X.env := by rfl) (hK : X.K = K := by rfl) : PE X (.Attribute e n pos) (tXfT K n te) := by
  subst hK
  exact pe_xfT he hb
section
variable {ρ : Rho} {i : Nat}
omit [WD] in
@[simp] theorem fRaiseP_ap {c f : Str} {fe : Rho → R AV} : fRaiseP c f fe ρ = (fe ρ).bind fun a ρ1 => (match a with | .d x => .ex ⟨c, some [(f, x)]⟩ ρ1 | .sl _ => .bad) := rfl
omit [WD] in
@[simp] theorem fXf_ap {ok : Str → Bool} {f : Str} : fXf ok i f ρ = (match ρ[i]? with
  | some (.x e) => (match ok e.c, e.fs with
    | true, some fs => (match fs.lookup f with
      | some v => .ok (.d v) ρ
      | none => .bad)
    | _, _ => .bad)
  | _ => .bad) := rfl
end
/-! ### the head's checks -/
def oexC0 (K : PySem.W.Frag) (C : Addr) : Bool := match K.lookup C with
  | some ⟨.type "type", _, .cls cd, sl⟩ => (match cd.mro, sl.toList with
    | .ref C' :: bm, [_, _, _, _, some (.builtin n), _] => C' == C && n == "ValueError.__new__" && !cd.hasDel && cd.hasDict && PySem.HandSPX.refsVE bm
    | _, _ => false)
  | _ => false
def oexB (K : PySem.W.Frag) (C : Addr) : Bool := oexC0 K C && (decide (PySem.W.findIn K (.ref C) "__setattr__" = some (some (.builtin "object.__setattr__"))) && (decide (PySem.W.subIn K (.ref C) (.type "BaseException") = some true) && (decide (PySem.W.typeIn K (.ref C) = some (.type "type")) && PySem.W.keepIn K (.ref C))))
theorem oexB_ok {K : PySem.W.Frag} {C : Addr} (h : oexB K C = true) : OexC K C := by
  unfold oexB at h
  simp only [Bool.and_eq_true, decide_eq_true_eq] at h
  obtain ⟨q, h2, h3, h4, h5⟩ := h
  refine ⟨?_, h2, h3, h4, h5⟩
  unfold oexC0 at q
  split at q
  · rename_i dd cd sl ho
    split at q
    · rename_i C' bm k0 k1 k2 k3 n k5 hm hs
      simp only [Bool.and_eq_true, beq_iff_eq, Bool.not_eq_true'] at q
      obtain ⟨⟨⟨⟨rfl, rfl⟩, hdel⟩, hdi⟩, ht⟩ := q
      obtain ⟨nm, bs, mro, ns, qn, hd, sn, sub, ab, col, del⟩ := cd
      dsimp only at hm hdel hdi
      subst hm hdel hdi
      have hsl : sl = #[k0, k1, k2, k3, some (.builtin "ValueError.__new__"), k5] := by
        obtain ⟨l⟩ := sl
        simp only at hs
        rw [hs]
      subst hsl
      exact ⟨nm, qn, ns, bs, bm, sn, sub, ab, col, dd, k0, k1, k2, k3, k5, ho, ht⟩
    · cases q
  · cases q
def bacB (K : PySem.W.Frag) (L : Addr) : Bool := decide (PySem.W.specialIn K (.ref L) "__getattribute__" = some (some (.builtin "type.__getattribute__"))) && (PySem.W.readsIn K L (.type "type") && (match PySem.W.findCls K (.ref L) (.type "type") "__init__" with | some (.val v) => v == .builtin "ValueError.__init__" | _ => false))
theorem bacB_ok {K : PySem.W.Frag} {L : Addr} (h : bacB K L = true) : BaC K L := by
  unfold bacB at h
  obtain ⟨h1, h⟩ := Bool.and_eq_true_iff.mp h
  obtain ⟨h2, h3⟩ := Bool.and_eq_true_iff.mp h
  exact ⟨of_decide_eq_true h1, h2, h3⟩
/-- a class with an own __init__ that keeps the field f, over the class b -/
def iniB (K : PySem.W.Frag) (x b f : Str) : Bool := oexB K (cA K x) && (bacB K (cA K b) && (decide (PySem.W.findIn K (.ref (cA K x)) "__init__" = some (some (.ref (He.ma K (cA K x) "__init__")))) && (decide (PySem.W.typeIn K (.ref (He.ma K (cA K x) "__init__")) = some (.type "function")) && (decide (PySem.W.findIn K (.ref (cA K x)) f = some none) && xfB K (cA K x)))))
/-- .. as the walk has it -/
structure InI (K : PySem.W.Frag) (mg : Str → Option Value) (x b f q : Str) (st : Stmt) where
  fd : FuncData
  F : FunD K "__init__" q (defArgs st) (defBody st) (defScope st) [] [] (He.ma K (cA K x) "__init__") fd
  E : ExI K mg x (He.ma K (cA K x) "__init__")
  B : BaC K (cA K b)
  no : PySem.W.findIn K (.ref (cA K x)) f = some none
  xf : XfC K (cA K x)
def InI.of {K : PySem.W.Frag} {mg : Str → Option Value} {x b f q : Str} {st : Stmt} {fd : FuncData} (F : FunD K "__init__" q (defArgs st) (defBody st) (defScope st) [] [] (He.ma K (cA K x) "__init__") fd) (g : mg x = some (.ref (cA K x))) (h : iniB K x b f = true) : InI K mg x b f q st := by
  unfold iniB at h
  simp only [Bool.and_eq_true, decide_eq_true_eq] at h
  exact ⟨fd, F, ⟨g, oexB_ok h.1, h.2.2.1, h.2.2.2.1⟩, bacB_ok h.2.1, h.2.2.2.2.1, xfB_ok h.2.2.2.2.2⟩
theorem passNo {X : Cx} {W : WX} (tk : Takes X W) : Passes (L2.CX X.prog X.w) X (fun _ _ _ => False) := fun _ σ _ _ e s' I c => tk e s' (XE.of_call I (fun _ _ _ h => h.elim) c)
/-! ### a hook whose fragment holds the interpreter's statics -/
def asE (g : Addr → Option Obj) (n : Nat) : List Addr := He.asD g n ++ [cStatics]
def obsE (n : Nat) (fa : List He.Fa) (fn : List He.DefD) (ex : PySem.W.Frag → Bool) (g : Addr → Option Obj) : He.AlD × Bool := (He.obsD fa fn (He.frG g (asE g n)), ex (He.frG g (asE g n)))
def hookE (n : Nat) (fa : List He.Fa) (fn : List He.DefD) (ex : PySem.W.Frag → Bool) : PySem.W.Hook where
  α := He.AlD × Bool
  obs := fun s => obsE n fa fn ex s.heap.get?
  val := fun _ => (He.valD fn, true)
  says := fun _ h => ∃ K : PySem.W.Frag, K.In h ∧ He.SaysD fa fn K ∧ ex K = true
  of := fun _ _ e => ⟨_, He.frG_in, congrArg Prod.fst e, congrArg Prod.snd e⟩
  keeps := fun _ _ _ ⟨K, hK, c⟩ k => ⟨K, PySem.W.Frag.In.keeps hK k, c⟩
omit [WD] in
theorem obsE_eq {n : Nat} {fa : List He.Fa} {fn : List He.DefD} {ex : PySem.W.Frag → Bool} {g : Addr → Option Obj} {s : Shared} (h : ∀ a, g a = s.heap.get? a) : obsE n fa fn ex g = (hookE n fa fn ex).obs s := by
  have e : g = s.heap.get? := funext h
  rw [e] <;> rfl
end Dt
namespace Dt
open PySem PySem.Spec PyProof.Rows
variable [WD]
/-! ### a set of texts -/
/-- how many of the first i texts are met for the first time -/
def newN (zs : List Str) : Nat → Nat
  | 0 => 0
  | i + 1 => if (zs.take i).any (· == zs.getD i Str.empty) = true then newN zs i else newN zs i + 1
omit [WD] in
theorem newN_le (zs : List Str) : ∀ i, newN zs i ≤ i
  | 0 => Nat.le_refl _
  | i + 1 => by
    have := newN_le zs i
    unfold newN
    split <;> omega
omit [WD] in
theorem take_any (zs : List Str) {i : Nat} (hi : i < zs.length) (q : Str) : ((zs.take i).any (· == q) || decide (q = zs.getD i Str.empty)) = (zs.take (i + 1)).any (· == q) := by
  rw [List.take_add_one, List.getD_eq_getElem?_getD, List.getElem?_eq_getElem hi, List.any_append]
  congr 1
  simp only [Option.getD_some, Option.toList_some, List.any_cons, List.any_nil, Bool.or_false]
  rw [Bool.eq_iff_iff, decide_eq_true_eq, beq_iff_eq]
  exact eq_comm
section
variable {prog : Program} {w : World} {A : Around} {R : Result → Shared → Prop} {J : Addr} {fp wr : List Addr} {G : Array GenState → Array GenState → Prop} {n : Nat} {Pr : Nat → Value → Prop} {St : Nat → Shared → Prop}
theorem strs_loop (V : WalksS prog w A.in1 J fp wr G n Pr St) (S : Addr) (nf : S ∉ fp) (zs : List Str) (hz : zs.length = n) (hb : n ≤ 1000) (hv : ∀ i v, Pr i v → ∃ t, v = .str (zs.getD i Str.empty) t) :
    ∀ (m i : Nat) (s : Shared), n - i = m → i ≤ n → St i s → s.heap.SetOf (PySem.strKind prog w) S (fun q => (zs.take i).any (· == q)) (newN zs i) →
      (∀ s2, Moved (S :: wr) G s s2 → s2.heap.SetOf (PySem.strKind prog w) S (fun q => (zs.take n).any (· == q)) (newN zs n) → R (.ok (.ret .none)) s2) →
      codeAny (model prog w) A (.builtin "set.update.loop" ⟨[.ref S, .ref J], []⟩) R s := by
  have nw : S ∉ wr := fun z => nf (V.sub _ z)
  have up : ∀ b ∈ wr, b ∈ S :: wr := fun b z => List.mem_cons_of_mem _ z
  intro m
  induction m with
  | zero =>
    intro i s hm hi st hS k
    obtain rfl : i = n := by omega
    refine codeAny_builtin PyProof.Rows.F.entry_set_update_loop ?_
    rw [Around.under_plainId PyProof.Rows.F.plain_set_update_loop _]
    show wpAny _ A.in1 (pyNext (.ref J) >>= _) _ _ s
    refine wpAny_bind (V.done s _ _ st fun s2 mv => ?_)
    obtain ⟨o, es, ep, t, ho, more⟩ := hS
    exact wpAny_pure (k s2 (mv.mono up) ⟨o, es, ep, t, mv.heap S _ nw ho, more⟩)
  | succ m ih =>
    intro i s hm hi st hS k
    have lt : i < n := by omega
    have le := newN_le zs i
    refine codeAny_builtin PyProof.Rows.F.entry_set_update_loop ?_
    rw [Around.under_plainId PyProof.Rows.F.plain_set_update_loop _]
    show wpAny _ A.in1 (pyNext (.ref J) >>= _) _ _ s
    refine wpAny_bind (V.item i s _ _ lt st fun v s2 hP st2 mv => ?_)
    obtain ⟨t, rfl⟩ := hv i v hP
    have hS2 : s2.heap.SetOf (PySem.strKind prog w) S (fun q => (zs.take i).any (· == q)) (newN zs i) := by
      obtain ⟨o, es, ep, tb, ho, more⟩ := hS
      exact ⟨o, es, ep, tb, mv.heap S _ nw ho, more⟩
    show wpAny _ A.in1 (holding [Value.str (zs.getD i Str.empty) t] (setAdd S (.str (zs.getD i Str.empty) t)) >>= _) _ _ s2
    refine wpAny_bind (wpAny_holding ?_)
    unfold setAdd
    refine wpAny_holding (wpAny_bind ((PySem.strKind prog w).pyHash (k := zs.getD i Str.empty) (strKind_is _ _ _ _) ?_))
    refine wpAny_setAddHashed_of (knd := PySem.strKind prog w) (s := { s2 with toks := s2.toks + 1 }) (strKind_is _ _ _ _) rfl hS2 (by unfold scanBound; omega) fun h3 sb hS3 => ?_
    have hS4 : h3.SetOf (PySem.strKind prog w) S (fun q => (zs.take (i + 1)).any (· == q)) (newN zs (i + 1)) := SetOf_congr hS3 (fun q => take_any zs (by omega) q) rfl
    refine wpAny_pure ⟨plainId_quiet PyProof.Rows.F.plain_set_update_loop _, ih (i + 1) _ (by omega) lt (V.frame _ s2 _ _ st2 (Nat.le_succ _) fun b hb o e => ?_) hS4 fun s4 mv4 hS5 => ?_⟩
    · rw [sb.2 b (fun z : b = S => nf (by rw [← z]; exact hb))]
      exact e
    · refine k s4 (Moved.trans V.gtrans ((mv.mono up).then_heap (Nat.le_succ _) fun b o hb e => ?_) mv4) hS5
      rw [sb.2 b (fun z : b = S => hb (by rw [z]; exact List.mem_cons_self))]
      exact e
end
section
variable {prog : Program} {w : World} {A : Around} {E : Value → Shared → Prop} {s : Shared}
abbrev nSet (led : Bool) : Obj := { cls := .type "set", dict := none, data := .set #[] 0 (.fresh 0 0 led) }
set_option maxHeartbeats 3200000 in
theorem call_set_strs {l : Addr} {its : Array Value} {zs : List Str} {Q : Value → Shared → Prop} (hh : A.handled = none) (hl : s.heap.IsList l its) (hi : PyProof.Rows.StrsAre its.toList zs) (hb : zs.length ≤ 1000)
    (k : ∀ (h2 : Heap) (tk : Nat), h2.SetOf (PySem.strKind prog w) s.heap.objs.size (fun q => (zs.take its.size).any (· == q)) (newN zs its.size) → (∀ b o, b < s.heap.objs.size → s.heap.get? b = some o → h2.get? b = some o) →
      Q (.ref s.heap.objs.size) { s with heap := h2, toks := tk }) : wpAny (model prog w) A (call (.type "set") [.ref l]) Q E s := by
  obtain ⟨_, _, f0⟩ := PySem.F.called_set.mro
  have f1 := PySem.F.called_set.made
  have f2 := PySem.F.called_set.sub
  refine wpAny_call (codeAny_of_tree ?_)
  show wpAny _ _ (callAny (.type "set") _) _ _ _
  refine wpAny_pure ⟨Code.quiet_builtin _ (by decide +kernel), codeAny_builtin PySem.F.entry_type_call ?_⟩
  rw [Around.under_plain (weight_type_call_type "set" [.ref l] []) rfl]
  have f3 := PySem.F.called_set.notType
  have f4 := PySem.F.called_set.canCreate
  have f5 := PySem.F.typeCall_set_1 (.ref l)
  repeat (any_goals (first | assumption | wp_step))
  refine codeAny_mono (code_set_new_1 (.ref l) (E := E) (Q₁ := fun z s1 => ∃ led : Bool, z = .ref s.heap.objs.size ∧ s1 = { s with heap := s.heap.push (nSet led) }) fun led => ⟨led, rfl, rfl⟩) fun r s1 hr => ?_
  cases r with
  | error e => exact hr
  | ok fl =>
    cases fl with
    | ret z =>
      obtain ⟨led, rfl, rfl⟩ := hr
      have hS : (s.heap.push (nSet led)).get? s.heap.objs.size = some (nSet led) := Heap.get?_push_size _ rfl
      have hT : Shared.TypeIs { s with heap := s.heap.push (nSet led) } (.ref s.heap.objs.size) "set" := ⟨_, hS, rfl⟩
      have f6 := PySem.F.called_set.init.lookup
      have f7 := PySem.F.called_set.init.bind (.ref s.heap.objs.size)
      repeat (any_goals (first | assumption | wp_step))
      refine codeAny_mono (codeAny_call_builtin (R := wants (fun r s3 => r = .none ∧ ∃ h2 tk, s3 = { s with heap := h2, toks := tk } ∧
          h2.SetOf (PySem.strKind prog w) s.heap.objs.size (fun q => (zs.take its.size).any (· == q)) (newN zs its.size) ∧ (∀ b o, b < s.heap.objs.size → s.heap.get? b = some o → h2.get? b = some o)) E)
          PySem.F.called_set.init.plain PySem.F.entry_set_init (check_set_init_1 hT ?_)) fun r2 s2 hr2 => ?_
      · obtain ⟨⟨oc, od, ox, os⟩, ho, hc, n0, hd⟩ := hl
        simp only at hc hd
        subst hc
        subst hd
        have ho2 : (s.heap.push (nSet led)).get? l = some ⟨.type "list", od, .seq its n0, os⟩ := Heap.get?_push_of_some _ ho
        have g1 := PySem.F.sub_list_set
        have g2 := PySem.F.sub_list_frozenset
        have g3 : (Value.type "list" == Value.type "dict") = false := by decide
        have hl2 : (s.heap.push (nSet led)).IsList l its := ⟨_, ho2, rfl, n0, rfl⟩
        unfold Builtin.«set.__init__» noKeywords Builtin.Frozenset.updateFrom
        generalize hp : pyIter = pI
        wp_walk
        subst hp
        refine wpAny_pyIter_list hl2 (wpAny_bind (wpAny_runValue ?_))
        have hlt : l < s.heap.objs.size := Heap.lt_size ho
        have hh3 : A.in1.in1.in1.handled = none := by simp [hh]
        have ne : l ≠ (s.heap.push (nSet led)).objs.size := by
          rw [Heap.size_push]
          exact Nat.ne_of_lt (Nat.lt_succ_of_lt hlt)
        have nf : s.heap.objs.size ∉ [(s.heap.push (nSet led)).objs.size, l] := by
          rw [Heap.size_push]
          simp only [List.mem_cons, List.not_mem_nil, or_false, not_or]
          exact ⟨Nat.ne_of_lt (Nat.lt_succ_self _), Nat.ne_of_gt hlt⟩
        have hz : zs.length = its.size := by rw [← StrsAre.len_eq hi, Array.length_toList]
        refine strs_loop ((Walks.list hh3 _ l ne its).toS) s.heap.objs.size nf zs hz (by rw [← hz]; exact hb)
          (fun i v h => SS.strs_at hi i v (by rw [Array.getElem?_toList]; exact h)) (its.size - 0) 0 _ (by omega) (Nat.zero_le _) ⟨⟨_, Heap.get?_push_size _ rfl, rfl, rfl⟩, hl2.push _⟩ ?_ ?_
        · refine SetOf_congr ((setObjOf_fresh (knd := PySem.strKind prog w) led).setOf (h := (s.heap.push (nSet led)).push { cls := .type "list_iterator", data := .fields #[.ref l, .int 0 0] }) (Heap.get?_push_of_some _ hS) (by unfold scanBound; omega)) (fun _ => rfl) rfl
        · intro s4 mv hS4
          obtain ⟨h4, g4, d4, t4, o4⟩ := s4
          obtain rfl : g4 = s.gens := mv.gens
          obtain rfl : d4 = s.drawn := mv.drawn
          obtain rfl : o4 = s.os := mv.os
          show wpAny _ _ _ _ _ _
          refine wpAny_pure ?_
          show wpAny _ _ (ret Value.none) _ _ _
          refine wpAny_pure ⟨rfl, h4, t4, rfl, hS4, fun b o lb e => ?_⟩
          refine mv.heap b o ?_ (Heap.get?_push_of_some _ (Heap.get?_push_of_some _ e))
          simp only [List.mem_cons, List.not_mem_nil, or_false, not_or]
          exact ⟨Nat.ne_of_lt lb, by rw [Heap.size_push]; exact Nat.ne_of_lt (Nat.lt_succ_of_lt lb)⟩
      · cases r2 with
        | error e => exact hr2
        | ok fl2 =>
          cases fl2 with
          | ret r =>
            obtain ⟨rfl, h2, tk, rfl, hS2, hk2⟩ := hr2
            repeat (any_goals (first | assumption | wp_step))
            exact k _ _ hS2 hk2
          | _ => exact hr2.elim
    | _ => exact hr.elim
end
end Dt
namespace Dt
open PySem PySem.Spec L2 Evl
variable [WD]
/-! ### len(set(..)) of texts -/
def rLenSet (K : PySem.W.Frag) : V → Hp → VK → Prop := fun x H Q => ∃ l, ∃ zs : List Str, x = .ref l ∧ SqL K H l (zs.map V.str) ∧ zs.length ≤ 1000 ∧ Q (.int (newN zs zs.length)) H
theorem pe_lenSetT {X : Cx} {a : Expr} {ta : TE} {p p2 q pos : Pos} (K : PySem.W.Frag) (hc : X.calm = true) (hg : Gl X "len") (hm : X.mg "len" = none) (hg2 : Gl X "set") (hm2 : X.mg "set" = none) (ha : PE X a ta)
    (na : starEach [a] X.env = (false, eval a X.env) :: starEach [] X.env := by rfl) (hK : X.K = K := by rfl) : PE X (.Call (.Name "len" p) [.Call (.Name "set" p2) [a] [] q] [] pos) (tUn (rLenSet K) ta) := by
  subst hK
  refine ⟨fun pins s σ H Q I h => PyProof.Rows.Call_ (ld_blt I hg hm boot_len ?_)⟩
  refine PyProof.Rows.callWith_builtin1 (PyProof.Rows.args_cons (PyProof.Rows.Call_ (ld_blt I hg2 hm2 PyProof.Rows.boot_set ?_)) rfl) rfl rfl
  refine PyProof.Rows.callWith_type1 (PyProof.Rows.args_cons (thn (ha.run pins s σ H _ I h) fun v s1 ⟨x, H1, I1, r1, q1⟩ => PyProof.Rows.args_nil ?_) na) na rfl
  obtain ⟨l, zs, rfl, sq, hl, q2⟩ := q1
  cases r1
  obtain ⟨its, r, pl, _⟩ := I1.list sq
  have hn : its.toArray.size = zs.length := by rw [List.size_toArray, ← r.length, List.length_map]
  refine call_set_strs (I1.ok.hd hc) pl.isList (zs := zs) (by simpa using strsAre_of r) hl fun h2 tk hS hk => ?_
  rw [hn] at hS
  have le := newN_le zs zs.length
  obtain ⟨o, es, ep, t, ho, ox, od, _, _, _, hf, hz⟩ := hS
  have J : Inv X pins σ H1 { s1 with heap := h2, toks := tk } := I1.kept fun b o e => hk b o (Heap.lt_size e) e
  exact PyProof.Rows.args_nil (call_len_set ho ox od hf (by rw [hz] <;> omega) ⟨.int (newN zs zs.length), H1, J.tok _, ⟨_, by rw [hz]⟩, q2⟩)
def lenSetD : Pd → Option Pd
  | .list xs => match strsD xs with
    | some zs => if zs.length ≤ 1000 then some (.int (newN zs zs.length)) else none
    | none => none
  | _ => none
theorem ru_lenSet {K : PySem.W.Frag} : RUn K (rLenSet K) lenSetD := by
  intro Hf H x dx z e hx h Q q
  unfold lenSetD at h
  split at h
  · split at h
    · rename_i zs ez
      split at h
      · cases h
        obtain ⟨l, us, rfl, t, r⟩ := hx.list e
        obtain rfl := strs_ok r ez
        exact ⟨l, zs, rfl, t, by assumption, q _ Hf H (Pg.refl e) (.int _)⟩
      · cases h
    · cases h
  · cases h
omit [WD] in
@[simp] theorem lenSetD_list {xs : List Pd} : lenSetD (.list xs) = match strsD xs with
    | some zs => if zs.length ≤ 1000 then some (.int (newN zs zs.length)) else none
    | none => none := rfl
/-! ### a dict of the module: texts to ints -/
structure TabK (K : PySem.W.Frag) (w : World) (a : Addr) (kvs : List (Str × Int)) : Prop where
  kd : ∃ es n, KDict K w a es n
  no : ∀ z, kvs.lookup z = none → PySem.W.nsIn K a z = some none
  yes : ∀ z i, kvs.lookup z = some i → ∃ t, PySem.W.nsIn K a z = some (some (.int i t))
structure TabI (K : PySem.W.Frag) (mg : Str → Option Value) (w : World) (x : Str) (kvs : List (Str × Int)) where
  a : Addr
  g : mg x = some (.ref a)
  t : TabK K w a kvs
abbrev rKIn (K : PySem.W.Frag) (d : Addr) (n : Bool) : R2 := fun x y H Q => ∃ (z : Str) (r : Option Value), x = .str z ∧ y = .ref d ∧ PySem.W.nsIn K d z = some r ∧ Q (.bl (if n then !r.isSome else r.isSome)) H
section
variable {X : Cx} {d : Addr} {kvs : List (Str × Int)} {w : World} {K : PySem.W.Frag}
theorem kInT (T : TabK K w d kvs) (hK : X.K = K := by rfl) (hw : X.w = w := by rfl) : OpR X (compareOp .In) (rKIn K d false) := by
  subst hK hw
  obtain ⟨es, n, D⟩ := T.kd
  exact op_in_kd D
theorem kNotInT (T : TabK K w d kvs) (hK : X.K = K := by rfl) (hw : X.w = w := by rfl) : OpR X (compareOp .NotIn) (rKIn K d true) := by
  subst hK hw
  obtain ⟨es, n, D⟩ := T.kd
  exact op_notIn_kd D
theorem kIxT (K : PySem.W.Frag) (w : World) (hK : X.K = K := by rfl) (hw : X.w = w := by rfl) : IxR X (rIxD K w) := by
  subst hK hw
  exact ix_kdict
end
def inT (kvs : List (Str × Int)) (n : Bool) : Pd → Option Pd
  | .str z => some (.bool (if n then !(kvs.lookup z).isSome else (kvs.lookup z).isSome))
  | _ => none
def getT (kvs : List (Str × Int)) : Pd → Option Pd
  | .str z => (kvs.lookup z).map .int
  | _ => none
section
variable {Z : Zx} {W : WX} {d : Addr} {kvs : List (Str × Int)} {w : World} {n : Bool}
theorem ru_inT (T : TabK Z.K w d kvs) : RUn Z.K (fun x H Q => rKIn Z.K d n x (.ref d) H Q) (inT kvs n) := by
  intro Hf H x dx z e hx h Q q
  unfold inT at h
  split at h
  · rename_i z
    cases h
    have k := q _ Hf H (Pg.refl e) (.bl _)
    cases el : kvs.lookup z with
    | none =>
      rw [el] at k
      exact ⟨z, none, hx.str, rfl, T.no z el, k⟩
    | some i =>
      rw [el] at k
      obtain ⟨t, ht⟩ := T.yes z i el
      exact ⟨z, _, hx.str, rfl, ht, k⟩
  · cases h
theorem d_inT (T : TabK Z.K w d kvs) {ta : TE} {fa : Rho → R AV} (ha : DE Z W ta fa) : DE Z W (tOp (rKIn Z.K d n) ta (tC (.ref d))) (f1 (inT kvs n) fa) := by
  intro Hf H O σ ρ s Q p
  refine ha.bind s p fun a ρ1 x Hf1 H1 s1 g1 k1 rx p1 => ?_
  exact op1_use (ru_inT T) s1 rx p1
theorem ru_getT (T : TabK Z.K w d kvs) : RUn Z.K (fun x H Q => rIxD Z.K w (.ref d) x H Q) (getT kvs) := by
  intro Hf H x dx z e hx h Q q
  unfold getT at h
  split at h
  · rename_i z
    cases el : kvs.lookup z with
    | none => rw [el] at h; cases h
    | some i =>
      rw [el] at h
      cases h
      obtain ⟨es, m, D⟩ := T.kd
      obtain ⟨t, ht⟩ := T.yes z i el
      exact ⟨d, z, .int i, rfl, hx.str, ⟨es, m, _, D.at_, D.lit, ht, ⟨t, rfl⟩⟩, q _ Hf H (Pg.refl e) (.int _)⟩
  · cases h
theorem d_getT (T : TabK Z.K w d kvs) {ta : TE} {fa : Rho → R AV} (ha : DE Z W ta fa) : DE Z W (tOp (rIxD Z.K w) (tC (.ref d)) ta) (f1 (getT kvs) fa) := by
  intro Hf H O σ ρ s Q p
  refine ha.bind s p fun a ρ1 x Hf1 H1 s1 g1 k1 rx p1 => ?_
  exact op1_use (ru_getT T) s1 rx p1
end
omit [WD] in
@[simp] theorem inT_str {kvs : List (Str × Int)} {n : Bool} {z : Str} : inT kvs n (.str z) = some (.bool (if n then !(kvs.lookup z).isSome else (kvs.lookup z).isSome)) := rfl
omit [WD] in
@[simp] theorem getT_str {kvs : List (Str × Int)} {z : Str} : getT kvs (.str z) = (kvs.lookup z).map .int := rfl
/-! ### a def that calls itself -/
theorem fn_bad {P : Program} {w : World} {K : PySem.W.Frag} {mg : Str → Option Value} {base : Heap} {CX : CXT} {k n : Nat} {f : Addr} {fd : FuncData} {ps : List Str} {Z : Zx} : FnOk P w K mg base CX k f fd ps (spF Z n fun _ => .bad) :=
  ⟨fun vs H Q E h => by obtain ⟨_, _, _, _, _, _, z⟩ := h; exact z.elim, fun A outer s H args us vs Q E _ _ _ _ h => by obtain ⟨_, _, _, _, _, _, z⟩ := h; exact z.elim⟩
/-! ### the head: tables, exceptions -/
abbrev TabD : Type := Str × List (Str × Int)
def tabB (K : PySem.W.Frag) (t : TabD) : Bool := t.2.all fun q => match PySem.W.nsIn K (He.ga K t.1) q.1 with
  | some (some (.int j _)) => decide (j = q.2)
  | _ => false
abbrev AlF : Type := He.AlD × Bool × List (Option (List (Option (Str × Int))))
def obsK (fa : List He.Fa) (fn : List He.DefD) (ex : PySem.W.Frag → Bool) (ts : List TabD) (K : PySem.W.Frag) : AlF := (He.obsD fa fn K, ex K && ts.all (tabB K), ts.map fun t => He.dicW K (He.ga K t.1))
def valK (fn : List He.DefD) (ts : List TabD) (w : World) : AlF := (He.valD fn, true, ts.map fun t => some (He.keysIn w.params (t.2.map (·.1))))
def obsF (n : Nat) (fa : List He.Fa) (fn : List He.DefD) (ex : PySem.W.Frag → Bool) (ts : List TabD) (g : Addr → Option Obj) : AlF := obsK fa fn ex ts (He.frG g (asE g n))
def hookF (n : Nat) (fa : List He.Fa) (fn : List He.DefD) (ex : PySem.W.Frag → Bool) (ts : List TabD) : PySem.W.Hook where
  α := AlF
  obs := fun s => obsF n fa fn ex ts s.heap.get?
  val := fun w => valK fn ts w
  says := fun w h => ∃ K : PySem.W.Frag, K.In h ∧ obsK fa fn ex ts K = valK fn ts w
  of := fun _ _ e => ⟨_, He.frG_in, e⟩
  keeps := fun _ _ _ ⟨K, hK, c⟩ k => ⟨K, PySem.W.Frag.In.keeps hK k, c⟩
omit [WD] in
theorem obsF_eq {n : Nat} {fa : List He.Fa} {fn : List He.DefD} {ex : PySem.W.Frag → Bool} {ts : List TabD} {g : Addr → Option Obj} {s : Shared} (h : ∀ a, g a = s.heap.get? a) : obsF n fa fn ex ts g = (hookF n fa fn ex ts).obs s := by
  have e : g = s.heap.get? := funext h
  rw [e] <;> rfl
section
variable {fa : List He.Fa} {fn : List He.DefD} {ex : PySem.W.Frag → Bool} {ts : List TabD} {w : World} {K : PySem.W.Frag}
omit [WD] in
theorem saysF_d (c : obsK fa fn ex ts K = valK fn ts w) : He.SaysD fa fn K := congrArg (fun z : AlF => z.1) c
omit [WD] in
theorem saysF_x (c : obsK fa fn ex ts K = valK fn ts w) : ex K = true := (Bool.and_eq_true_iff.mp (show (ex K && ts.all (tabB K)) = true from congrArg (fun z : AlF => z.2.1) c)).1
theorem key_of {P : Params} : ∀ {l : List DictEntry} {ks : List Str}, l.map He.keyOf = He.keysIn P ks → ∀ e ∈ l, ∃ x t, e.key = .str x t ∧ x ∈ ks
  | [], _, _, e, h => by simp at h
  | a :: r, [], h, _, _ => by cases h
  | a :: r, k :: ks, h, e, he => by
    have h1 : He.keyOf a :: r.map He.keyOf = some (k, PyData.keyHash P k) :: He.keysIn P ks := h
    injection h1 with h2 h3
    rcases List.mem_cons.mp he with rfl | he
    · unfold He.keyOf at h2
      split at h2
      · rename_i x t q
        have h4 := (Prod.mk.inj (Option.some.inj h2)).1
        exact ⟨x, t, q, by rw [h4]; exact List.mem_cons_self⟩
      · cases h2
    · obtain ⟨x, t, q, hx⟩ := key_of h3 e he
      exact ⟨x, t, q, List.mem_cons_of_mem _ hx⟩
omit [WD] in
theorem lookup_no {kvs : List (Str × Int)} {z : Str} (h : kvs.lookup z = none) : z ∉ kvs.map (·.1) := by
  induction kvs with
  | nil => simp
  | cons p r ih =>
    obtain ⟨x, i⟩ := p
    rw [List.lookup_cons] at h
    split at h
    · cases h
    · rename_i hx
      intro hm
      rcases List.mem_cons.mp hm with e | hm
      · have : z = x := e
        rw [this] at hx
        simp at hx
      · exact ih h hm
omit [WD] in
theorem lookup_yes {kvs : List (Str × Int)} {z : Str} {i : Int} (h : kvs.lookup z = some i) : (z, i) ∈ kvs := by
  induction kvs with
  | nil => cases h
  | cons p r ih =>
    obtain ⟨x, j⟩ := p
    rw [List.lookup_cons] at h
    split at h
    · rename_i hx
      cases h
      rw [eq_of_beq hx]
      exact List.mem_cons_self
    · exact List.mem_cons_of_mem _ (ih h)
theorem saysF_t (c : obsK fa fn ex ts K = valK fn ts w) (i : Nat) {t : TabD} (h : ts[i]? = some t := by rfl) : TabK K w (He.ga K t.1) t.2 := by
  have e : ts.map (fun t => He.dicW K (He.ga K t.1)) = ts.map fun t => some (He.keysIn w.params (t.2.map (·.1))) := congrArg (fun z : AlF => z.2.2) c
  have e2 : (ts.map fun t => He.dicW K (He.ga K t.1))[i]? = (ts.map fun t => some (He.keysIn w.params (t.2.map (·.1))))[i]? := by rw [e]
  rw [List.getElem?_map, List.getElem?_map, h] at e2
  have e3 : He.dicW K (He.ga K t.1) = some (He.keysIn w.params (t.2.map (·.1))) := Option.some.inj e2
  have hv : tabB K t = true := List.all_eq_true.mp (Bool.and_eq_true_iff.mp (show (ex K && ts.all (tabB K)) = true from congrArg (fun z : AlF => z.2.1) c)).2 t (List.mem_of_getElem? h)
  obtain ⟨es, n, D⟩ := He.dicW_ok e3
  have hk : es.toList.map He.keyOf = He.keysIn w.params (t.2.map (·.1)) := by
    unfold He.dicW at e3
    rw [D.at_] at e3
    simp only [D.low] at e3
    exact Option.some.inj e3
  refine ⟨⟨es, n, D⟩, fun z hz => ?_, fun z j hz => ?_⟩
  · have hn := lookup_no hz
    have ks := key_of hk
    unfold PySem.W.nsIn
    rw [D.at_]
    have f1 : es.toList.find? (·.key.isStr z) = none := by
      rw [List.find?_eq_none]
      intro a ha hs
      obtain ⟨x, u, q, hx⟩ := ks a ha
      rw [q] at hs
      have : x = z := by simpa [Value.isStr] using hs
      rw [this] at hx
      exact hn hx
    have f2 : es.toList.any (·.refKey) = false := by
      rw [List.any_eq_false]
      intro a ha hs
      obtain ⟨x, u, q, hx⟩ := ks a ha
      unfold DictEntry.refKey at hs
      rw [q] at hs
      cases hs
    simp only [f1, f2, Bool.false_eq_true, if_false]
  · have hq := List.all_eq_true.mp hv (z, j) (lookup_yes hz)
    simp only at hq
    split at hq
    · rename_i j' t' he
      have : j' = j := of_decide_eq_true hq
      rw [this] at he
      exact ⟨t', he⟩
    · cases hq
end
end Dt
namespace Dt
open PySem PySem.Spec L2 Evl
section
variable {A B : Type} {ρ ρ1 : Rho} {i j n : Nat} {x y : Pd}
@[simp] theorem bind_ok' {a : A} {k : A → Rho → R B} : (R.ok a ρ).bind k = k a ρ := rfl
@[simp] theorem bind_bad' {k : A → Rho → R B} : (R.bad : R A).bind k = .bad := rfl
@[simp] theorem bind_ex' {e : XD} {k : A → Rho → R B} : (R.ex e ρ : R A).bind k = .ex e ρ := rfl
theorem fVar_d (h : ρ[i]? = some (.d x)) : fVar i ρ = .ok (.d x) ρ := by unfold fVar; rw [h]
theorem fOwn_o {b : Bool} {xs : List Pd} (h : ρ[i]? = some (.own b xs)) : fOwn i ρ = .ok (.sl i) ρ := by unfold fOwn; rw [h]
@[simp] theorem fVar_ap : fVar i ρ = (match ρ[i]? with | some (.d x) => .ok (.d x) ρ | _ => .bad) := rfl
@[simp] theorem fOwn_ap : fOwn i ρ = (match ρ[i]? with | some (.own _ _) => .ok (.sl i) ρ | _ => .bad) := rfl
@[simp] theorem fC_ap : fC x ρ = .ok (.d x) ρ := rfl
@[simp] theorem res_d : res ρ (.d x) = some x := rfl
@[simp] theorem res_sl : res ρ (.sl i) = (match ρ[i]? with | some (.own _ xs) => some (.list xs) | some (.d x) => some x | _ => none) := rfl
@[simp] theorem f2_ap {h : Pd → Pd → Option Pd} {fa fb : Rho → R AV} : f2 h fa fb ρ = (fa ρ).bind fun a ρ1 => (fb ρ1).bind fun b ρ2 => op2 h a b ρ2 := rfl
@[simp] theorem op2_ap {h : Pd → Pd → Option Pd} {a b : AV} : op2 h a b ρ = (match res ρ a, res ρ b with | some x, some y => (match h x y with | some z => .ok (.d z) ρ | none => .bad) | _, _ => .bad) := rfl
@[simp] theorem f1_ap {h : Pd → Option Pd} {fa : Rho → R AV} : f1 h fa ρ = (fa ρ).bind fun a ρ1 => op1 h a ρ1 := rfl
@[simp] theorem op1_ap {h : Pd → Option Pd} {a : AV} : op1 h a ρ = (match res ρ a with | some x => (match h x with | some z => .ok (.d z) ρ | none => .bad) | _ => .bad) := rfl
@[simp] theorem fNil_ap : fNil ρ = .ok [] ρ := rfl
@[simp] theorem fCons_ap {fa : Rho → R AV} {fr : Rho → R (List AV)} : fCons fa fr ρ = (fa ρ).bind fun a ρ1 => (fr ρ1).bind fun as ρ2 => .ok (a :: as) ρ2 := rfl
@[simp] theorem ress_nil : ress ρ [] = some [] := rfl
@[simp] theorem ress_cons {a : AV} {as : List AV} : ress ρ (a :: as) = (match res ρ a, ress ρ as with | some x, some xs => some (x :: xs) | _, _ => none) := rfl
@[simp] theorem datas_nil : datas [] = some [] := rfl
@[simp] theorem datas_cons {as : List AV} : datas (.d x :: as) = (match datas as with | some xs => some (x :: xs) | none => none) := rfl
@[simp] theorem fTup_ap {fa : Rho → R (List AV)} : fTup fa ρ = (fa ρ).bind fun as ρ1 => (match datas as with | some xs => if xs.length ≤ sizeLine then .ok (.d (.tuple xs)) ρ1 else .bad | none => .bad) := rfl
@[simp] theorem fLst_ap {fa : Rho → R (List AV)} : fLst fa ρ = (fa ρ).bind fun as ρ1 => (match datas as with | some xs => if xs.length ≤ sizeLine then .ok xs ρ1 else .bad | none => .bad) := rfl
@[simp] theorem fL_ap {f : Rho → R (List Pd)} : fL f ρ = (f ρ).bind fun xs ρ1 => .ok (.d (.list xs)) ρ1 := rfl
@[simp] theorem rB_ap {a : AV} : rB a ρ = (match res ρ a with | some (.bool b) => .ok b ρ | _ => .bad) := rfl
@[simp] theorem fTest_ap {f : Rho → R AV} : fTest f ρ = (f ρ).bind rB := rfl
@[simp] theorem fAnd_ap {f g : Rho → R Bool} : fAnd f g ρ = (f ρ).bind fun b ρ1 => if b = true then g ρ1 else .ok false ρ1 := rfl
@[simp] theorem fOr_ap {f g : Rho → R Bool} : fOr f g ρ = (f ρ).bind fun b ρ1 => if b = true then .ok true ρ1 else g ρ1 := rfl
@[simp] theorem fNot_ap {f : Rho → R Bool} : fNot f ρ = (f ρ).bind fun b ρ1 => .ok (!b) ρ1 := rfl
@[simp] theorem fAndV_ap {f g : Rho → R AV} : fAndV f g ρ = (f ρ).bind fun a ρ1 => (rB a ρ1).bind fun b ρ2 => if b = true then g ρ2 else .ok (.d (.bool false)) ρ2 := rfl
@[simp] theorem fOrV_ap {f g : Rho → R AV} : fOrV f g ρ = (f ρ).bind fun a ρ1 => (rB a ρ1).bind fun b ρ2 => if b = true then .ok (.d (.bool true)) ρ2 else g ρ2 := rfl
@[simp] theorem fNotV_ap {f : Rho → R AV} : fNotV f ρ = (f ρ).bind fun a ρ1 => (rB a ρ1).bind fun b ρ2 => .ok (.d (.bool (!b))) ρ2 := rfl
@[simp] theorem fIf_ap {c : Rho → R Bool} {f g : Rho → R AV} : fIf c f g ρ = (c ρ).bind fun b ρ1 => if b = true then f ρ1 else g ρ1 := rfl
@[simp] theorem fChain_ap {h h' : Pd → Pd → Option Pd} {fa fb fc : Rho → R AV} : fChain h h' fa fb fc ρ = (fa ρ).bind fun a ρ1 => (fb ρ1).bind fun b ρ2 => (op2 h a b ρ2).bind fun z ρ3 => (rB z ρ3).bind fun k ρ4 =>
  if k = true then (fc ρ4).bind fun c ρ5 => op2 h' b c ρ5 else .ok (.d (.bool false)) ρ4 := rfl
@[simp] theorem fCB_ap {h : List Pd → Option Pd} {fa : Rho → R (List AV)} : fCB h fa ρ = (fa ρ).bind fun as ρ1 => (match ress ρ1 as with | some xs => (match h xs with | some z => .ok (.d z) ρ1 | none => .bad) | none => .bad) := rfl
@[simp] theorem fCBL_ap {h : List Pd → Option (List Pd)} {fa : Rho → R (List AV)} : fCBL h fa ρ = (fa ρ).bind fun as ρ1 => (match ress ρ1 as with | some xs => (match h xs with | some z => .ok z ρ1 | none => .bad) | none => .bad) := rfl
@[simp] theorem fNoPart_ap : fNoPart ρ = .ok none ρ := rfl
@[simp] theorem fPart_ap {f : Rho → R AV} : fPart f ρ = (f ρ).bind fun a ρ1 => (match res ρ1 a with | some (.int i) => .ok (some i) ρ1 | _ => .bad) := rfl
@[simp] theorem fSl_ap {h : Pd → Option Int → Option Int → Option Pd} {fe : Rho → R AV} {fl fh : Rho → R (Option Int)} : fSl h fe fl fh ρ = (fe ρ).bind fun a ρ1 => (fl ρ1).bind fun lo ρ2 => (fh ρ2).bind fun hi ρ3 => (match res ρ3 a with | some x => (match h x lo hi with | some z => .ok (.d z) ρ3 | none => .bad) | none => .bad) := rfl
@[simp] theorem fM1_ap {h : Pd → List Pd → Option Pd} {fo fa : Rho → R AV} : fM1 h fo fa ρ = (fo ρ).bind fun o ρ1 => (match res ρ1 o with
  | some (.str x) => (fa ρ1).bind fun a ρ2 => (match res ρ2 a with | some y => (match h (.str x) [y] with | some z => .ok (.d z) ρ2 | none => .bad) | _ => .bad)
  | _ => .bad) := rfl
@[simp] theorem fM0_ap {h : Pd → List Pd → Option Pd} {fo : Rho → R AV} : fM0 h fo ρ = (fo ρ).bind fun o ρ1 => (match res ρ1 o with | some (.str x) => (match h (.str x) [] with | some z => .ok (.d z) ρ1 | none => .bad) | _ => .bad) := rfl
@[simp] theorem fItL_ap {f : Rho → R AV} : fItL f ρ = (f ρ).bind fun a ρ1 => (match a with | .d (.list xs) => .ok xs ρ1 | _ => .bad) := rfl
@[simp] theorem fItT_ap {f : Rho → R AV} : fItT f ρ = (f ρ).bind fun a ρ1 => (match a with | .d (.tuple xs) => .ok xs ρ1 | _ => .bad) := rfl
@[simp] theorem fItS_ap {f : Rho → R AV} : fItS f ρ = (f ρ).bind fun a ρ1 => (match a with | .d (.str x) => .ok (chars x) ρ1 | _ => .bad) := rfl
@[simp] theorem fRng1_ap {f : Rho → R (List AV)} : fRng1 f ρ = (f ρ).bind fun as ρ1 => (match as with | [.d (.int j)] => if -(2 ^ 62) ≤ j ∧ j < 2 ^ 62 then .ok (nums 0 j.toNat) ρ1 else .bad | _ => .bad) := rfl
@[simp] theorem fRng2_ap {f : Rho → R (List AV)} : fRng2 f ρ = (f ρ).bind fun as ρ1 => (match as with | [.d (.int i), .d (.int j)] => if (-(2 ^ 62) ≤ i ∧ i < 2 ^ 62) ∧ -(2 ^ 62) ≤ j ∧ j < 2 ^ 62 then .ok (nums i (j - i).toNat) ρ1 else .bad | _ => .bad) := rfl
@[simp] theorem fLc_ap {fi : Rho → R (List Pd)} {h : Pd → Rho → Option Rho} {ft : Rho → R Bool} {fe : Rho → R AV} {vs : List Nat} : fLc fi h ft fe vs ρ = if okW ρ vs = true then (fi ρ).bind fun xs ρ1 => lcRun h ft fe vs xs [] (wipeR ρ1 vs) else .bad := rfl
@[simp] theorem okW_nil : okW ρ [] = true := rfl
@[simp] theorem okW_cons {v : Nat} {vs : List Nat} : okW ρ (v :: vs) = ((match ρ[v]? with | some (.own _ _) => false | some (.m _ _) => false | _ => true) && okW ρ vs) := rfl
@[simp] theorem wipeR_nil : wipeR ρ [] = ρ := rfl
@[simp] theorem wipeR_cons {v : Nat} {vs : List Nat} : wipeR ρ (v :: vs) = (wipeR ρ vs).set v .no := rfl
@[simp] theorem lcRun_nil {h : Pd → Rho → Option Rho} {ft : Rho → R Bool} {fe : Rho → R AV} {vs : List Nat} {acc : List Pd} : lcRun h ft fe vs [] acc ρ = .ok acc ρ := rfl
@[simp] theorem fNx_ap : fNx ρ = .ok .nx ρ := rfl
@[simp] theorem fSeq_ap {f g : Rho → R Fl} : fSeq f g ρ = (match f ρ with | .ok .nx ρ1 => g ρ1 | r => r) := rfl
@[simp] theorem fIfS_ap {c : Rho → R Bool} {f g : Rho → R Fl} : fIfS c f g ρ = (c ρ).bind fun b ρ1 => if b = true then f ρ1 else g ρ1 := rfl
@[simp] theorem fRet_ap {f : Rho → R AV} : fRet f ρ = (f ρ).bind fun a ρ1 => (match a with | .d x => .ok (.rt x) ρ1 | .sl _ => .bad) := rfl
@[simp] theorem fRetL_ap {f : Rho → R (List Pd)} : fRetL f ρ = (f ρ).bind fun xs ρ1 => .ok (.rl xs) ρ1 := rfl
@[simp] theorem fRetN_ap : fRetN ρ = .ok (.rt .none) ρ := rfl
@[simp] theorem fDrop_ap {f : Rho → R AV} : fDrop f ρ = (f ρ).bind fun _ ρ1 => .ok .nx ρ1 := rfl
@[simp] theorem fAsg_ap {f : Rho → R AV} {h : Pd → Rho → Option Rho} : fAsg f h ρ = (f ρ).bind fun a ρ1 => (match a with | .d x => (match h x ρ1 with | some ρ2 => .ok .nx ρ2 | none => .bad) | .sl _ => .bad) := rfl
@[simp] theorem fSetO_ap {f : Rho → R (List Pd)} : fSetO f i ρ = (f ρ).bind fun xs ρ1 => (match putOwn i xs ρ1 with | some ρ2 => .ok .nx ρ2 | none => .bad) := rfl
@[simp] theorem fApp_ap {f : Rho → R AV} : fApp i f ρ = (match ρ[i]? with
  | some (.own _ _) => (f ρ).bind fun a ρ1 => (match a, ρ1[i]? with | .d y, some (.own b xs) => if xs.length < sizeLine then .ok .nx (ρ1.set i (.own b (xs ++ [y]))) else .bad | _, _ => .bad)
  | _ => .bad) := rfl
@[simp] theorem fExt_ap {f : Rho → R (List Pd)} : fExt i f ρ = (match ρ[i]? with
  | some (.own _ _) => (f ρ).bind fun ys ρ1 => (match ρ1[i]? with | some (.own b xs) => if xs.length + ys.length ≤ sizeLine then .ok .nx (ρ1.set i (.own b (xs ++ ys))) else .bad | _ => .bad)
  | _ => .bad) := rfl
@[simp] theorem fSetI_ap {f fk : Rho → R AV} : fSetI i f fk ρ = (f ρ).bind fun a ρ1 => (match a, ρ1[i]? with
  | .d y, some (.own _ _) => (fk ρ1).bind fun k ρ2 => (match k, ρ2[i]? with | .d (.int n), some (.own b xs) => (match ixN xs.length n with | some j => .ok .nx (ρ2.set i (.own b (xs.set j y))) | none => .bad) | _, _ => .bad)
  | _, _ => .bad) := rfl
@[simp] theorem fFrz_ap {f : Rho → R Fl} : fFrz i f ρ = f (frz i ρ) := rfl
@[simp] theorem frz_ap : frz i ρ = (match ρ[i]? with | some (.own false xs) => ρ.set i (.d (.list xs)) | _ => ρ) := rfl
@[simp] theorem fFor_ap {fi : Rho → R (List Pd)} {h : Pd → Rho → Option Rho} {fb : Rho → R Fl} : fFor fi h fb ρ = (fi ρ).bind fun xs ρ1 => forRun h fb xs ρ1 := rfl
@[simp] theorem forRun_nil {h : Pd → Rho → Option Rho} {fb : Rho → R Fl} : forRun h fb [] ρ = .ok .nx ρ := rfl
@[simp] theorem fCall_ap {g : Rho → R RV} {fa : Rho → R (List AV)} : fCall n g fa ρ = (fa ρ).bind fun as ρ1 => kCall g (argsD n as) ρ1 := rfl
@[simp] theorem fCallL_ap {g : Rho → R RV} {fa : Rho → R (List AV)} : fCallL n g fa ρ = (fa ρ).bind fun as ρ1 => kCallL g (argsD n as) ρ1 := rfl
@[simp] theorem fCallP_ap {g : Rho → R RV} {fa : Rho → R (List AV)} : fCallP n i g fa ρ = (match ρ[i]? with | some (.own _ _) => (fa ρ).bind fun as ρ1 => kCallP i g (argsD n as) ρ1 | _ => .bad) := rfl
@[simp] theorem fCallPL_ap {g : Rho → R RV} {fa : Rho → R (List AV)} : fCallPL n i g fa ρ = (match ρ[i]? with | some (.own _ _) => (fa ρ).bind fun as ρ1 => kCallPL i g (argsD n as) ρ1 | _ => .bad) := rfl
@[simp] theorem argsD_ap {as : List AV} : argsD n as = (match datas as with | some xs => if xs.length = n then some xs else none | none => none) := rfl
@[simp] theorem kCall_some {g : Rho → R RV} {xs : List Pd} : kCall g (some xs) ρ = (match g (xs.map Sl.d) with | .ok (.d x) _ => .ok (.d x) ρ | .ex e _ => .ex e ρ | _ => .bad) := rfl
@[simp] theorem kCallL_some {g : Rho → R RV} {xs : List Pd} : kCallL g (some xs) ρ = (match g (xs.map Sl.d) with | .ok (.l x) _ => .ok x ρ | .ex e _ => .ex e ρ | _ => .bad) := rfl
@[simp] theorem kCallP_some {g : Rho → R RV} {xs : List Pd} : kCallP i g (some xs) ρ = (match ρ[i]? with
  | some (.own b ps) => (match g (.own true ps :: xs.map Sl.d) with | .ok (.d x) (.own _ ps' :: _) => .ok (.d x) (ρ.set i (.own b ps')) | .ex e (.own _ ps' :: _) => .ex e (ρ.set i (.own b ps')) | _ => .bad)
  | _ => .bad) := by
  unfold kCallP
  cases e : ρ[i]? with
  | none => rfl
  | some z => cases z <;> rfl
@[simp] theorem kCallPL_some {g : Rho → R RV} {xs : List Pd} : kCallPL i g (some xs) ρ = (match ρ[i]? with
  | some (.own b ps) => (match g (.own true ps :: xs.map Sl.d) with | .ok (.l x) (.own _ ps' :: _) => .ok x (ρ.set i (.own b ps')) | .ex e (.own _ ps' :: _) => .ex e (ρ.set i (.own b ps')) | _ => .bad)
  | _ => .bad) := by
  unfold kCallPL
  cases e : ρ[i]? with
  | none => rfl
  | some z => cases z <;> rfl
/-- a slot that may be stored to -/
def isIo : Sl → Bool
  | .own true _ => true
  | .m true _ => true
  | _ => false
@[simp] theorem isIo_no : isIo .no = false := rfl
@[simp] theorem isIo_d : isIo (.d x) = false := rfl
@[simp] theorem isIo_x {e : XD} : isIo (.x e) = false := rfl
@[simp] theorem isIo_mf {o : Mo} : isIo (.m false o) = false := rfl
@[simp] theorem isIo_of {xs : List Pd} : isIo (.own false xs) = false := rfl
theorem put_eq : put i x ρ = (match ρ[i]? with | some s => if isIo s = true then none else some (ρ.set i (.d x)) | none => none) := by
  unfold put
  cases e : ρ[i]? with
  | none => rfl
  | some s => cases s with
    | no => rfl
    | x _ => rfl
    | m b _ => cases b <;> rfl
    | d y => rfl
    | own b xs => cases b <;> rfl
theorem putOwn_eq {xs : List Pd} : putOwn i xs ρ = (match ρ[i]? with | some s => if isIo s = true then none else some (ρ.set i (.own false xs)) | none => none) := by
  unfold putOwn
  cases e : ρ[i]? with
  | none => rfl
  | some s => cases s with
    | no => rfl
    | x _ => rfl
    | m b _ => cases b <;> rfl
    | d y => rfl
    | own b xs => cases b <;> rfl
@[simp] theorem putNil_nil : putNil [] ρ = some ρ := rfl
@[simp] theorem putCons_cons {h : Pd → Rho → Option Rho} {k : List Pd → Rho → Option Rho} {xs : List Pd} : putCons h k (x :: xs) ρ = (match h x ρ with | some ρ1 => k xs ρ1 | none => none) := rfl
@[simp] theorem putTup_tup {k : List Pd → Rho → Option Rho} {xs : List Pd} : putTup n k (.tuple xs) ρ = if xs.length = n then k xs ρ else none := rfl
@[simp] theorem endF_rt {as : Rho} : endF as (.ok (.rt x) ρ) = .ok (.d x) (outs as ρ) := rfl
@[simp] theorem endF_rl {as : Rho} {xs : List Pd} : endF as (.ok (.rl xs) ρ) = .ok (.l xs) (outs as ρ) := rfl
@[simp] theorem endF_nx {as : Rho} : endF as (.ok .nx ρ) = .ok (.d .none) (outs as ρ) := rfl
@[simp] theorem endF_ex {as : Rho} {e : XD} : endF as (.ex e ρ) = .ex e (outs as ρ) := rfl
@[simp] theorem outs_nil : outs [] ρ = [] := rfl
@[simp] theorem outs_d {as : Rho} {z : Sl} : outs (.d x :: as) (z :: ρ) = .d x :: outs as ρ := rfl
@[simp] theorem outs_x {as : Rho} {e : XD} {z : Sl} : outs (.x e :: as) (z :: ρ) = .x e :: outs as ρ := rfl
@[simp] theorem outs_o {as : Rho} {z : Sl} {xs : List Pd} : outs (.own true xs :: as) (z :: ρ) = z :: outs as ρ := rfl
end
/-! ### data operations at known kinds -/
section
variable {i j : Int} {a b : Str} {xs ys : List Pd} {x y : Pd}
@[simp] theorem addD_int : addD (.int i) (.int j) = some (.int (i + j)) := rfl
@[simp] theorem addD_str : addD (.str a) (.str b) = if a.length + b.length ≤ sizeLine then some (.str (a ++ b)) else none := rfl
@[simp] theorem addD_list : addD (.list xs) (.list ys) = if xs.length + ys.length ≤ sizeLine then some (.list (xs ++ ys)) else none := rfl
@[simp] theorem addD_tuple : addD (.tuple xs) (.tuple ys) = if xs.length + ys.length ≤ sizeLine then some (.tuple (xs ++ ys)) else none := rfl
@[simp] theorem subD_int : subD (.int i) (.int j) = some (.int (i - j)) := rfl
@[simp] theorem mulD_int : mulD (.int i) (.int j) = if mulOk i j = true then some (.int (i * j)) else none := rfl
@[simp] theorem modD_int : modD (.int i) (.int j) = if 0 < j then some (.int (i % j)) else none := by simp [modD, intD]
@[simp] theorem fdivD_int : fdivD (.int i) (.int j) = if 0 < j ∧ j.natAbs.log2 < 9000 then some (.int (i / j)) else none := by simp [fdivD, intD]
@[simp] theorem powD_int : powD (.int i) (.int j) = if 0 ≤ j ∧ j ≤ 1000000 ∧ i.natAbs < 2 ^ 64 then some (.int (i ^ j.toNat)) else none := by simp [powD, intD]
@[simp] theorem leD_int : leD (.int i) (.int j) = some (.bool (decide (i ≤ j))) := rfl
@[simp] theorem gtD_int : gtD (.int i) (.int j) = some (.bool (decide (j < i))) := rfl
@[simp] theorem geD_int : geD (.int i) (.int j) = some (.bool (decide (j ≤ i))) := rfl
@[simp] theorem ltD_int : ltD (.int i) (.int j) = some (.bool (decide (i < j))) := rfl
@[simp] theorem ltD_str : ltD (.str a) (.str b) = some (.bool (decide (a.cps.toList < b.cps.toList))) := rfl
@[simp] theorem negD_int : negD (.int i) = some (.int (-i)) := rfl
@[simp] theorem eqD_int : eqD (.int i) (.int j) = some (.bool (decide (i = j))) := rfl
@[simp] theorem eqD_str : eqD (.str a) (.str b) = some (.bool (decide (a = b))) := rfl
@[simp] theorem neD_int : neD (.int i) (.int j) = some (.bool (!decide (i = j))) := rfl
@[simp] theorem neD_str : neD (.str a) (.str b) = some (.bool (!decide (a = b))) := rfl
theorem eqB_list : eqB (.list xs) (.list ys) = if sh 60 (.list xs) = true ∧ sh 60 (.list ys) = true then some (PyData.eqvAll xs ys) else none := rfl
theorem eqB_tuple : eqB (.tuple xs) (.tuple ys) = if sh 60 (.tuple xs) = true ∧ sh 60 (.tuple ys) = true then some (PyData.eqvAll xs ys) else none := rfl
theorem sh_list {n : Nat} : sh (n + 1) (.list xs) = xs.all (sh n) := rfl
theorem sh_tuple {n : Nat} : sh (n + 1) (.tuple xs) = xs.all (sh n) := rfl
@[simp] theorem sh_int {n : Nat} : sh n (.int i) = true := by cases n <;> rfl
@[simp] theorem sh_bool {n : Nat} {k : Bool} : sh n (.bool k) = true := by cases n <;> rfl
@[simp] theorem sh_none {n : Nat} : sh n .none = true := by cases n <;> rfl
@[simp] theorem sh_str {n : Nat} : sh n (.str a) = PyData.strOk a := by cases n <;> rfl
@[simp] theorem ixD_list : ixD (.list xs) (.int i) = atI xs i := rfl
@[simp] theorem ixD_tuple : ixD (.tuple xs) (.int i) = atI xs i := rfl
@[simp] theorem ixD_str : ixD (.str a) (.int i) = if a.length ≤ sizeLine then (atI a.cps.toList i).map fun c => .str ⟨#[c]⟩ else none := rfl
@[simp] theorem slD_list {lo hi : Option Int} : slD (.list xs) lo hi = some (.list (cutD xs lo hi)) := rfl
@[simp] theorem slD_tuple {lo hi : Option Int} : slD (.tuple xs) lo hi = some (.tuple (cutD xs lo hi)) := rfl
@[simp] theorem slD_str {lo hi : Option Int} : slD (.str a) lo hi = if a.length ≤ sizeLine then some (.str (cutS a lo hi)) else none := rfl
@[simp] theorem lenD_list : lenD [.list xs] = some (.int xs.length) := rfl
@[simp] theorem lenD_tuple : lenD [.tuple xs] = some (.int xs.length) := rfl
@[simp] theorem lenD_str : lenD [.str a] = if a.length ≤ sizeLine then some (.int a.length) else none := rfl
@[simp] theorem absD_int : absD [.int i] = some (.int (if i < 0 then -i else i)) := rfl
@[simp] theorem strD_int : strD [.int i] = if i.natAbs.log2 < 1920 then some (.str (toString i)) else none := rfl
@[simp] theorem tupleD_list : tupleD [.list xs] = some (.tuple xs) := rfl
@[simp] theorem tupleD_tuple : tupleD [.tuple xs] = some (.tuple xs) := rfl
@[simp] theorem listD_list : listD [.list xs] = some xs := rfl
@[simp] theorem listD_tuple : listD [.tuple xs] = some xs := rfl
@[simp] theorem allD_list : allD [.list xs] = (boolsD xs).map fun bs => .bool (bs.all id) := rfl
@[simp] theorem anyD_list : anyD [.list xs] = (boolsD xs).map fun bs => .bool (bs.any id) := rfl
@[simp] theorem sumD_list : sumD [.list xs] = (intsD xs).map fun bs => .int bs.sum := rfl
@[simp] theorem upperD_str : upperD (.str a) [] = if a.length ≤ 5592405 then some (.str (Txt.upper a)) else none := rfl
@[simp] theorem isiD_int (d : Pd) : isiD "int" d = some (.bool (isIntD d)) := isi_int d
@[simp] theorem isiD_bool (d : Pd) : isiD "bool" d = some (.bool (isBoolD d)) := isi_bool d
@[simp] theorem isiD_str (d : Pd) : isiD "str" d = some (.bool (isStrD d)) := isi_str d
@[simp] theorem isiD_tuple (d : Pd) : isiD "tuple" d = some (.bool (isTupD d)) := isi_tuple d
@[simp] theorem isiD_list (d : Pd) : isiD "list" d = some (.bool (isLstD d)) := isi_list d
theorem boolsD_map (f : Pd → Bool) (l : List Pd) : boolsD (l.map fun x => .bool (f x)) = some (l.map f) := by
  induction l with
  | nil => rfl
  | cons x l ih => simp only [List.map_cons, boolsD]; rw [ih]
theorem boolsD_all (f : Pd → Bool) (l : List Pd) : allD [.list (l.map fun x => .bool (f x))] = some (.bool (l.all f)) := by
  rw [allD_list, boolsD_map]
  simp
theorem bits_le {i : Int} {n : Nat} (h : i.natAbs < 2 ^ n) : bits i ≤ n := PyProof.Rows.intBits_le h
end
end Dt
namespace Dt
open PySem PySem.Spec L2 Evl PyProof.Rows
variable [WD]
/-! ### a + b, a new list that is owned -/
section
variable {Z : Zx} {W : WX}
def kCat (a b : AV) (ρ : Rho) : R (List Pd) := match res ρ a, res ρ b with
  | some (.list xs), some (.list ys) => if xs.length + ys.length ≤ sizeLine then .ok (xs ++ ys) ρ else .bad
  | _, _ => .bad
def fCatL (fa fb : Rho → R AV) : Rho → R (List Pd) := fun ρ => (fa ρ).bind fun a ρ1 => (fb ρ1).bind fun b ρ2 => kCat a b ρ2
theorem l_cat {ta tb : TE} {fa fb : Rho → R AV} (ha : DE Z W ta fa) (hb : DE Z W tb fb) : DL Z W (tOp (rAddA Z.K) ta tb) (fCatL fa fb) := by
  intro Hf H O σ ρ s Q p
  refine ha.bind s p fun a ρ1 x Hf1 H1 s1 g1 k1 rx p1 => ?_
  refine hb.bind s1 p1 fun b ρ2 y Hf2 H2 s2 g2 k2 ry p2 => ?_
  unfold kCat at p2
  cases ea : res ρ2 a with
  | none => rw [ea] at p2; exact p2.elim
  | some dx =>
    cases eb : res ρ2 b with
    | none => rw [ea, eb] at p2; cases dx <;> exact p2.elim
    | some dy =>
      rw [ea, eb] at p2
      cases dx with
      | list xs =>
        cases dy with
        | list ys =>
          simp only at p2
          by_cases hz : xs.length + ys.length ≤ sizeLine
          · rw [if_pos hz] at p2
            obtain ⟨l, vs, rfl, t2, r1⟩ := (res_ok s2 (RA.mono rx g2.ex) ea).list s2.ex
            obtain ⟨m, us, rfl, w2, r2⟩ := (res_ok s2 ry eb).list s2.ex
            refine .inr (.inr (.inr ⟨l, m, vs, us, rfl, rfl, t2, w2, by rw [r1.length, r2.length]; exact hz, fun q nq => ?_⟩))
            have g := Pg.lay (o := .lst (vs ++ us)) s2.ex nq
            exact p2 Hf2 _ (s2.grow g) g.gr Kp.refl _ ⟨q, _, rfl, g1.gone (g2.gone nq), upd_same, fresh_back s2.ex nq, r1.append r2⟩
          · rw [if_neg hz] at p2; exact p2.elim
        | _ => exact p2.elim
      | _ => exact p2.elim
end
omit [WD] in
@[simp] theorem fCatL_ap {ρ : Rho} {fa fb : Rho → R AV} : fCatL fa fb ρ = (fa ρ).bind fun a ρ1 => (fb ρ1).bind fun b ρ2 => kCat a b ρ2 := rfl
omit [WD] in
@[simp] theorem kCat_ap {ρ : Rho} {a b : AV} : kCat a b ρ = (match res ρ a, res ρ b with
  | some (.list xs), some (.list ys) => if xs.length + ys.length ≤ sizeLine then .ok (xs ++ ys) ρ else .bad
  | _, _ => .bad) := rfl
/-! ### sorted(text) -/
def sgL (z : Str) : List Str := z.cps.toList.map fun c => (⟨#[c]⟩ : Str)
def rSortTx : List V → Hp → VK → Prop := fun vs H Q => ∃ z, vs = [.str z] ∧ z.length < 64 ∧ ∀ (ys : List Str) (p : Addr), ys.Perm (sgL z) → PyProof.Rows.sortedS ys = true → H p = none → Q (.ref p) (upd H p (.lst (ys.map V.str)))
theorem cr_sortTx {X : Cx} (hc : X.calm = true) : CallR X (.builtin "sorted") rSortTx := by
  intro pins s σ H vs us Q I r h
  obtain ⟨z, rfl, hz, q⟩ := h
  cases r with
  | cons r1 r2 =>
    cases r2
    obtain ⟨t, rfl⟩ := r1
    have hz2 : z.cps.size < 64 := hz
    refine Calls.call_function_entry PyProof.Rows.kind_sorted PyProof.Rows.plain_sorted PyProof.Rows.entry_sorted (PyProof.Rows.args_sorted1 _) ?_
    unfold Builtin.«sorted»
    refine wpAny_bind (m := checkCount "sorted" 1 1 _) (wpAny_pure (wpAny_bind (wpAny_collect_str (A := X.A.in1) (I.ok.hd hc) z t (fun s2 acc hk hg hd ho hacc => ?_) (by rw [sizeLine_eq]; omega))))
    obtain ⟨h2, g2, d2, tk, o2⟩ := s2
    obtain rfl : g2 = s.gens := hg
    obtain rfl : d2 = s.drawn := hd
    obtain rfl : o2 = s.os := ho
    have rv : Vals ((sgL z).map V.str) acc.toList := by
      have := sign_vals hacc
      unfold sgL
      rw [List.map_map]
      exact this
    have hS : PyProof.Rows.StrsAre acc.toList (sgL z) := strsAre_of rv
    have hal : acc.toList.length = (sgL z).length := by rw [← rv.length, List.length_map]
    have h64 : (sgL z).length < 64 := by unfold sgL; rw [List.length_map, Array.length_toList]; exact hz2
    have J : Inv X pins σ H { s with heap := h2, toks := tk } := I.kept hk
    refine wpAny_bind (wpAny_newList ?_ (by rw [hal, sizeLine_eq]; omega))
    have hL : (h2.push (seqObj "list" acc.toList.toArray 0)).get? h2.objs.size = some (seqObj "list" acc.toList.toArray 0) := Heap.get?_push_size _ rfl
    show wpAny _ _ _ _ _ { s with heap := h2.push (seqObj "list" acc.toList.toArray 0), toks := tk }
    refine wpAny_bind (wpAny_holding (wpAny_call_entry PyProof.Rows.slot_list_sort ⟨_, hL, rfl⟩ PyProof.Rows.entry_list_sort
      (list_sort_treeK strKind_oneLt (s := { s with heap := h2.push (seqObj "list" acc.toList.toArray 0), toks := tk }) hL hS.keysOf (fun v1 v2 rest e => keyKind_strs (by rw [← e]; exact hS)) (by rw [hal]; exact h64) fun st hp hs => ⟨_, rfl, ?_⟩) (PyProof.Rows.args_list_sort _)))
    obtain ⟨ys, k1, k2, k3⟩ := sorted_out_str hS hp hs
    obtain ⟨e1, he1⟩ := PyProof.Rows.sortedHeap_at (vs := acc.toList) (out := (arrOf st).map (·.2)) hL
    have hlen : (ys.map V.str).length ≤ sizeLine := by rw [List.length_map, k2.length_eq, sizeLine_eq]; omega
    refine wpAny_pure ⟨_, rfl, .ref h2.objs.size, upd H h2.objs.size (.lst (ys.map V.str)), J.laid (t' := tk) (fun b u e => ?_) (Nat.le_refl _)
      (show ObjOk X.prog X.w _ _ _ (.lst (ys.map V.str)) from ⟨hlen, ((arrOf st).map (·.2)).toList, e1, vals_of_strs k1, by rw [Array.toArray_toList]; exact he1⟩), rfl, q ys _ k2 k3 (J.hok.fresh (Nat.le_refl _))⟩
    have lb : b < h2.objs.size := Heap.lt_size e
    rw [PyProof.Rows.sortedHeap_old (Nat.ne_of_lt lb) (by rw [size_push']; exact Nat.lt_succ_of_lt lb)]
    exact Heap.get?_push_of_some _ e
def sortedE : List Pd → Option (List Pd)
  | [.str z] => if z.length < 64 then some ((sortS (sgL z)).map .str) else none
  | xs => sortedD xs
abbrev rSortedE (K : PySem.W.Frag) : List V → Hp → VK → Prop := fun vs H Q => rSortedS K vs H Q ∨ rSortTx vs H Q
theorem kSortedE {X : Cx} (K : PySem.W.Frag) (hc : X.calm = true) (hK : X.K = K := by rfl) : CallR X (.builtin "sorted") (rSortedE K) := by
  subst hK
  exact cr_sortedS.or (cr_sortTx hc)
theorem rcl_sortedE {K : PySem.W.Frag} : RCallL K (rSortedE K) sortedE := by
  intro Hf H vs xs z e hx h Q q
  unfold sortedE at h
  split at h
  · rename_i u
    split at h
    · rename_i hl
      cases h
      obtain ⟨v, rfl, hv⟩ := hx.one
      obtain rfl := hv.str
      refine .inr ⟨u, rfl, hl, fun ys p pm so np => ?_⟩
      rw [sorted_unique pm so]
      exact q p _ _ (e.trans (Ex.new np)) (Ex.new np) np upd_same (RDs.strs _)
    · cases h
  · exact .inl (rcl_sorted Hf H vs xs z e hx h Q q)
omit [WD] in
@[simp] theorem sortedE_str {z : Str} : sortedE [.str z] = if z.length < 64 then some ((sortS (sgL z)).map .str) else none := rfl
end Dt
namespace Dt
open PySem PySem.Spec L2 Evl
variable [WD]
/-! ### sum of truths -/
def cntT : List Bool → Int
  | [] => 0
  | b :: bs => (if b = true then 1 else 0) + cntT bs
def bI (bs : List Bool) (i : Nat) : Int := if bs.getD i false = true then 1 else 0
omit [WD] in
theorem preSum_cons (b : Bool) (bs : List Bool) : ∀ n, preSum (bI (b :: bs)) (n + 1) = (if b = true then 1 else 0) + preSum (bI bs) n
  | 0 => by show (0 : Int) + bI (b :: bs) 0 = _ + 0; show (0 : Int) + (if b = true then 1 else 0) = _; omega
  | n + 1 => by
    show preSum (bI (b :: bs)) (n + 1) + bI (b :: bs) (n + 1) = _
    rw [preSum_cons b bs n]
    show _ + bI bs n = _ + (preSum (bI bs) n + bI bs n)
    omega
omit [WD] in
theorem preSum_cnt : ∀ bs : List Bool, preSum (bI bs) bs.length = cntT bs
  | [] => rfl
  | b :: bs => by rw [List.length_cons, preSum_cons, preSum_cnt bs]; rfl
def rSumB (K : PySem.W.Frag) : List V → Hp → VK → Prop := fun vs H Q => ∃ (a : Addr) (bs : List Bool), vs = [V.ref a] ∧ SqL K H a (bs.map V.bl) ∧ Q (.int (cntT bs)) H
theorem bl_at : ∀ {bs : List Bool} {us : List Value}, Vals (bs.map V.bl) us → ∀ (i : Nat) (v : Value), us[i]? = some v → v = .bool (bs.getD i false)
  | [], _, .nil, i, v, h => by simp at h
  | b :: bs, _, .cons r t, 0, v, h => by
    simp at h
    subst h
    cases r
    rfl
  | b :: bs, _, .cons r t, i + 1, v, h => by
    have := bl_at t i v (by simpa using h)
    simpa using this
theorem cr_sumB {X : Cx} (hc : X.calm = true) : CallR X (.builtin "sum") (rSumB X.K) := by
  intro pins s σ H vs us Q I r h
  obtain ⟨a, bs, rfl, sq, q⟩ := h
  rw [Vals.ref1 r]
  obtain ⟨its, rv, pl, _⟩ := I.list sq
  have hl := pl.isList
  have hz : its.toArray.size = bs.length := by rw [List.size_toArray, ← rv.length, List.length_map]
  have hlt : a < s.heap.objs.size := by
    obtain ⟨o, ho, _⟩ := hl
    exact Heap.lt_size ho
  have hh : X.A.in1.handled = none := by simp [I.ok.hd hc]
  refine call_sum_walkAnyB (wpAny_pyIter_list hl ?_)
  refine ⟨_, _, _, _, _, _, _, bI bs, rfl, (Walks.list hh _ a (Nat.ne_of_lt hlt) its.toArray).toS, ⟨⟨_, Heap.get?_push_size _ rfl, rfl, rfl⟩, hl.push _⟩, ?_, ?_, ?_⟩
  · intro b hb
    simp only [List.mem_cons, List.not_mem_nil, or_false] at hb
    show b < (s.heap.push _).objs.size
    rw [Heap.size_push]
    rcases hb with rfl | rfl
    · exact Nat.lt_succ_self _
    · exact Nat.lt_succ_of_lt hlt
  · intro i v hP
    refine .inr ⟨bs.getD i false, bl_at rv i v ?_, rfl⟩
    have : its.toArray[i]? = some v := hP
    simpa using this
  · intro s2 t2 mv
    obtain ⟨h2, g2, d2, tk, o2⟩ := s2
    obtain rfl : g2 = s.gens := mv.gens
    obtain rfl : d2 = s.drawn := mv.drawn
    obtain rfl : o2 = s.os := mv.os
    rw [hz, preSum_cnt]
    refine ⟨.int (cntT bs), H, I.kept fun b o e => ?_, ⟨_, rfl⟩, q⟩
    refine mv.heap b o ?_ (Heap.get?_push_of_some _ e)
    have lb := Heap.lt_size e
    simp only [List.mem_cons, List.not_mem_nil, or_false]
    exact Nat.ne_of_lt lb
def sumE : List Pd → Option Pd
  | [.list xs] => match boolsD xs with
    | some bs => some (.int (cntT bs))
    | none => sumD [.list xs]
  | xs => sumD xs
abbrev rSumE (K : PySem.W.Frag) : List V → Hp → VK → Prop := fun vs H Q => rSum K vs H Q ∨ rSumB K vs H Q
theorem kSumE {X : Cx} (K : PySem.W.Frag) (hc : X.calm = true) (hK : X.K = K := by rfl) : CallR X (.builtin "sum") (rSumE K) := by
  subst hK
  exact (cr_sum hc).or (cr_sumB hc)
theorem rc_sumE {K : PySem.W.Frag} : RCall K (rSumE K) sumE := by
  intro Hf H vs xs z e hx h Q q
  unfold sumE at h
  split at h
  · rename_i us
    split at h
    · rename_i bs eb
      cases h
      obtain ⟨v, rfl, hv⟩ := hx.one
      obtain ⟨l, ws, rfl, t, r⟩ := hv.list e
      obtain rfl := bools_ok r eb
      exact .inr ⟨l, bs, rfl, t, q _ Hf H (Pg.refl e) (.int _)⟩
    · exact .inl (rc_sum Hf H vs _ z e hx h Q q)
  · exact .inl (rc_sum Hf H vs xs z e hx h Q q)
/-! ### e is not None, an exception kept -/
section
variable {Z : Zx} {W : WX} {ρ : Rho}
def fIsNNX (i : Nat) : Rho → R AV := fun ρ => match ρ[i]? with
  | some (.x _) => .ok (.d (.bool true)) ρ
  | some (.d v) => .ok (.d (.bool (!isNon v))) ρ
  | _ => .bad
theorem d_isNNX {i : Nat} : DE Z W (tOp (fun x y H Q => y = .non ∧ Q (.bl (!decide (x = .non))) H) (tVar i) (tC .non)) (fIsNNX i) := by
  intro Hf H O σ ρ s Q p
  unfold fIsNNX at p
  cases e0 : ρ[i]? with
  | none => rw [e0] at p; exact p.elim
  | some z =>
    rw [e0] at p
    cases z with
    | no => exact p.elim
    | own _ _ => exact p.elim
    | m _ _ => exact p.elim
    | d v =>
      obtain ⟨u, h1, h2⟩ := s.slot i v e0
      refine ⟨u, h1, rfl, ?_⟩
      have := RX.isNon (K := Z.K) (H := H) (.inl h2)
      rw [this]
      exact p Hf H s Gr.refl Kp.refl _ (RD.bl _)
    | x e =>
      obtain ⟨a, h1, h2⟩ := s.exc i e e0
      refine ⟨.ref a, h1, rfl, ?_⟩
      exact p Hf H s Gr.refl Kp.refl _ (RD.bl _)
omit [WD] in
@[simp] theorem fIsNNX_ap {i : Nat} : fIsNNX i ρ = (match ρ[i]? with | some (.x _) => .ok (.d (.bool true)) ρ | some (.d v) => .ok (.d (.bool (!isNon v))) ρ | _ => .bad) := rfl
end
/-! ### index -/
def indexD : Pd → List Pd → Option Pd
  | .list xs, [d] => if flatD d = true ∧ xs.all flatD = true then (xs.findIdx? fun y => PyData.eqv y d).map fun j => .int (j : Nat) else none
  | _, _ => none
theorem rm_index {K : PySem.W.Frag} : RMt K "list" (rIndex K) indexD := by
  intro Hf H x vs dx xs z e hx hs h Q q
  unfold indexD at h
  split at h
  · rename_i ys d
    split at h
    · rename_i hf
      cases ef : ys.findIdx? fun y => PyData.eqv y d with
      | none => rw [ef] at h; cases h
      | some j =>
        rw [ef] at h
        cases h
        obtain ⟨v, rfl, hv⟩ := hs.one
        obtain ⟨l, ws, rfl, t, r⟩ := hx.list e
        have rv := hv.flat hf.1
        obtain ⟨hj, hp, hno⟩ := List.findIdx?_eq_some_iff_getElem.mp ef
        obtain ⟨w, ew, rw_⟩ := r.get (List.getElem?_eq_getElem hj)
        have fy := List.all_eq_true.mp hf.2
        refine ⟨l, ws, v, j, w, rfl, rfl, t, rv.flatV hf.1, r.all_flat hf.2, ew, ?_, fun m z2 hm ez => ?_, q _ Hf H (Pg.refl e) (.int _)⟩
        · rw [rw_.eqV rv (fy _ (List.getElem_mem hj)) hf.1]
          exact hp
        · have hmx : m < ys.length := by omega
          obtain ⟨w2, ew2, rw2⟩ := r.get (List.getElem?_eq_getElem hmx)
          rw [ez] at ew2
          cases ew2
          rw [rw2.eqV rv (fy _ (List.getElem_mem hmx)) hf.1]
          simpa using hno m hm
    · cases h
  · cases h
def sindexD : Pd → List Pd → Option Pd
  | .str a, [.str b] => match Builtin.Str.occurrences a b 0 a.length 1 with
    | i :: _ => some (.int (i : Nat))
    | [] => none
  | _, _ => none
theorem rm_sindex {K : PySem.W.Frag} : RMt K "str" (fun x xs H Q => ∃ a b i rest, x = .str a ∧ xs = [.str b] ∧ Builtin.Str.occurrences a b 0 a.length 1 = i :: rest ∧ Q (.int (i : Nat)) H) sindexD := by
  intro Hf H x vs dx xs z e hx hs h Q q
  unfold sindexD at h
  split at h
  · rename_i a b
    split at h
    · rename_i i rest eo
      cases h
      obtain ⟨v, rfl, hv⟩ := hs.one
      obtain rfl := hx.str
      obtain rfl := hv.str
      exact ⟨a, b, i, rest, rfl, rfl, eo, q _ Hf H (Pg.refl e) (.int _)⟩
    · cases h
  · cases h
end Dt
set_option maxHeartbeats 2000000
/-! try with a handler of more than one statement, the caught exception tracked in it -/
namespace Dt
open PySem PySem.Spec L2 Evl PyProof.Rows
variable [WD]
theorem Inv_suite0 {X : Cx} {pins : List (Addr × Obj)} {σ : L2.St} {H : Hp} {s : Shared} (I : L2.Inv X pins σ H s) (a : Addr) : L2.Inv (X.suite a (X.pn ++ pins)) [] σ H s :=
  ⟨I.ok.suite _ _, I.os, I.bare, I.base, I.loc, I.cell, I.free, I.freeC, fun p hp => by
    have hp' : p ∈ X.pn ++ pins := by rw [List.append_nil] at hp; exact hp
    exact I.pin p hp', I.hok, I.len⟩
theorem Inv_unsuite0 {X : Cx} {pins pn' : List (Addr × Obj)} {σ : L2.St} {H : Hp} {s : Shared} {a : Addr} (I : L2.Inv (X.suite a (X.pn ++ pins)) pn' σ H s) (ok : X.Ok) : L2.Inv X pins σ H s :=
  ⟨ok, I.os, I.bare, I.base, I.loc, I.cell, I.free, I.freeC, fun p hp => I.pin p (List.mem_append_left _ hp), I.hok, I.len⟩
def wAsTT (K : PySem.W.Frag) (c : Value) (i : Nat) (ts : TS) (Wout : WX) (D : Ends) : WX := fun cls d σ H =>
  ∃ b, PySem.W.exmOne K cls c = some b ∧ (b = true → ∀ a, H a = none → ts { nx := fun σ' H' => D.nx (σ'.set i none) H', rt := fun _ _ => False, bk := fun _ _ => False, ct := fun _ _ => False } (σ.set i (some (.ref a))) (upd H a (ExN cls d a))) ∧
    (b = false → Wout cls d σ H)
section
variable {X : Cx} {x n : Str} {c : Value} {i : Nat} {body suite : List Stmt} {b₀ : Stmt} {np pos pos' : Pos} {tb : WX → TS} {ts : TS} {Wout : WX}
theorem ps_try_TT (hs : X.stack = X.env :: X.outer) (hf : X.env.frame = some X.env.locals) (hex : X.ex = []) (hN : X.N.Nodup) (hi : X.N[i]? = some n) (hln : X.env.kindOf n = some .local) (hc : Names X x c) (tk : Takes X Wout)
    (hb : ∀ (W : WX) (pn : List (Addr × Obj)) (xe : Value → Shared → Prop), Takes (X.tr pn xe) W → PassesOwn (model X.prog X.w) X.A X.env xe → PSs (X.tr pn xe) body (tb W))
    (hsu : ∀ (a : Addr) (pn : List (Addr × Obj)), PSs (X.suite a pn) (b₀ :: suite) ts) :
    PS X (.Try body [.ExceptHandler (some (.Name x np)) (some n) (b₀ :: suite) pos'] [] [] pos) (fun D σ H => tb (wAsTT X.K c i ts Wout D) D σ H) := by
  refine ⟨fun pins s σ H D I h => ?_⟩
  have ok := I.ok
  have hfr : X.A.frames = some (X.env :: X.outer) := by rw [ok.frames, hs]
  have hloc : Loc X.env.scope n := .inl hln
  refine wpAny_Try_except ?_
  refine wpAny_mono ((hb (wAsTT X.K c i ts Wout D) (X.pn ++ pins) (fun e s₁ => wpAny (model X.prog X.w) X.A (noteFrame e X.env) (fun _ s₂ => wpAny (model X.prog X.w) X.A (setFlight e none) (fun _ s₃ =>
    wpAny (model X.prog X.w) X.A (handleBy e X.env [.ExceptHandler (some (.Name x np)) (some n) (b₀ :: suite) pos']) (SP X pins D) X.xe s₃) X.xe s₂) X.xe s₁) (fun u s' xx => ?_) PassesOwn.looking).run [] s σ H D (I.toTry _) h) (fun f s1 hsp => ?_) (fun e s1 he => he)
  · -- the catch
    obtain ⟨a, B, sI, pins', σ', H', cls, d, rfl, J', nb, up, sky, na, os, ag, b, hb1, hyes, hno⟩ := xx
    have J : L2.Inv X pins σ' H' sI := J'.ofTry ok
    have sky' : Sky B (X.env :: X.outer) a (Zc cls d) X.env.locals s'.heap := by rw [← hs]; exact sky
    show wpAny (model X.prog X.w) X.A (noteFrame (.ref a) X.env) _ _ _
    refine Sky.land Zc.steady hfr hf sky' fun h3 fl3 up3 => ?_
    have J3 : L2.Inv X pins σ' H' { s' with heap := h3 } := J.landed nb fl3.1 (up.trans up3) os ag
    obtain ⟨oe3, vs3, he3, hz3, hd3⟩ := fl3.there
    have notFr : ∀ {h : Heap} {o : Obj} {vs : Array Value}, h.FunFrames B (X.env :: X.outer) → h.get? a = some o → o.data = .fields vs → a ∉ frs (X.env :: X.outer) := fun {h o vs} ff e dd hm => by
      obtain ⟨_, o', e', hnf⟩ := ff.mem hm
      rw [e] at e'; cases e'
      exact hnf _ dd
    have nfr := notFr fl3.2.2.1 he3 hd3
    have nL : a ≠ X.env.locals := fun z => nfr (List.mem_filterMap.mpr ⟨X.env, List.mem_cons_self, by rw [hf, z]⟩)
    have nF : a ∉ X.fs := fun hm => by
      obtain ⟨e, he, q⟩ := List.mem_filterMap.mp hm
      exact nfr (List.mem_filterMap.mpr ⟨e, List.mem_cons_of_mem _ he, q⟩)
    have nI : sI.heap.get? a = none := by
      cases e : sI.heap.get? a with
      | none => rfl
      | some o =>
        have := nb a o e (by rw [hs]; exact nfr)
        rw [fl3.2.1] at this
        cases this
    have n0 : X.s_0.heap.get? a = none := by
      cases e : X.s_0.heap.get? a with
      | none => rfl
      | some o =>
        obtain ⟨o', q⟩ := J.base.there a o e (by rw [hex]; exact fun z => nomatch z)
        rw [nI] at q; cases q
    have npin : ∀ p ∈ X.pn ++ pins, p.1 ≠ a := fun p hp z => by
      obtain ⟨q, _⟩ := J.pin p hp
      rw [z, nI] at q; cases q
    have S3 := J3.suite he3 hd3 na nL nF
    refine wpAny_handleBy_cons (codeAny_handlers_test ?_) (by intro q; cases q)
    have LT : PySem.W.Looks (model X.prog X.w) h3 (typeOf (.ref a)) cls := fun A Q E s k q => wpAny_typeOf_ref (k _ _ he3) (by rw [hz3.1]; exact q)
    have LM := PySem.W.exm_one (M := model X.prog X.w) (J3.kIn) LT hb1
    have test : ∀ {Q : Value → Shared → Prop} {E : Value → Shared → Prop}, Q c { s' with heap := h3 } → wpAny (model X.prog X.w) (X.A.mark (some (.ref a))) (eval (.Name x np) X.env) Q E { s' with heap := h3 } := fun {Q E} q => by
      obtain ⟨hg, hdbg, hm | ⟨hm, hv, hnn⟩⟩ := hc
      · exact ld_glob (X := X.suite a ((a, oe3) :: (X.pn ++ pins))) S3 hg hm q hdbg
      · exact ld_blt (X := X.suite a ((a, oe3) :: (X.pn ++ pins))) S3 hg hm hv q hnn hdbg
    refine test (LM.here ?_)
    cases b with
    | true =>
      refine codeAny_handlers_suite_as ?_
      refine HandSPX.lands_againZ fl3 fun h4 fl4 up4 => ?_
      have J4 : L2.Inv X pins σ' H' { s' with heap := h4 } := J.landed nb fl4.1 ((up.trans up3).trans up4) os ag
      obtain ⟨oe4, vs4, he4, hz4, hd4⟩ := fl4.there
      have J5 := Inv_track J4 n0 na nL he4 hd4 npin (exN_ok (P := X.prog) (w := X.w) (H := upd H' a (ExN cls d a)) he4 hz4 hd4)
      have S4 := Inv_suite0 J5 a
      refine store_ok (X := X.suite a (X.pn ++ pins)) (v := .ref a) S4 hN hi hloc rfl (fun s5 S5 => ?_) (.inr hln)
      refine wpAny_mono ((hsu a (X.pn ++ pins)).run [] s5 _ (upd H' a (ExN cls d a)) _ S5 (hyes rfl a na)) (fun f s6 hsp => ?_) (fun _ _ z => False.elim z)
      cases f with
      | next =>
        obtain ⟨σ6, H6, S6, q6⟩ := hsp
        exact gone_ok (Inv_unsuite0 S6 ok) hN hi hln fun s7 J7 => ⟨_, _, J7, q6⟩
      | brk =>
        obtain ⟨σ6, H6, S6, q6⟩ := hsp
        exact q6.elim
      | cont =>
        obtain ⟨σ6, H6, S6, q6⟩ := hsp
        exact q6.elim
      | ret u =>
        obtain ⟨v6, σ6, H6, S6, r6, q6⟩ := hsp
        exact q6.elim
    | false =>
      show wpAny _ X.A (handleBy (.ref a) X.env []) _ _ _
      refine wpAny_handleBy_nil ?_
      obtain ⟨k1, k2, k3, oe, vs, T, oT, ts', he, hz, hd, h1, hr⟩ := id fl3
      unfold PySem.passOn
      refine wpAny_bind (wpAny_field he hd h1 ?_)
      rw [if_neg (show ¬ ((Value.ref T == Value.none) = true) from by simp)]
      have fin : wpAny (model X.prog X.w) X.A (setFlight (.ref a) X.env.frame) (fun _ s4 => wpAny (model X.prog X.w) X.A (throw (.ref a) : Sem Flow) (SP X pins D) X.xe s4) X.xe { s' with heap := h3 } := by
        rw [hf]
        refine HandSPX.setFlight_upZ fl3 fun h4 hh4 up4 => wpAny_throw (tk _ _ ?_)
        exact ⟨a, B, sI, pins, σ', H', cls, d, rfl, J, nb, (up.trans up3).trans up4, .inr (.inr (by rw [hs]; exact hh4)), na, os, ag, hno rfl⟩
      first
        | exact wpAny_bind (wpAny_pure (wpAny_bind fin))
        | exact wpAny_bind fin
  · cases f with
    | next =>
      obtain ⟨σ', H', J', q⟩ := hsp
      exact wpAny_execs_nil ⟨σ', H', J'.ofTry ok, q⟩
    | brk =>
      obtain ⟨σ', H', J', q⟩ := hsp
      exact ⟨σ', H', J'.ofTry ok, q⟩
    | cont =>
      obtain ⟨σ', H', J', q⟩ := hsp
      exact ⟨σ', H', J'.ofTry ok, q⟩
    | ret u =>
      obtain ⟨v, σ', H', J', r, q⟩ := hsp
      exact ⟨v, σ', H', J'.ofTry ok, r, q⟩
end
def fTryH (sub : Str → Option Bool) (fb : Rho → R Fl) (i : Nat) (fh : Rho → R Fl) : Rho → R Fl := fun ρ => match fb ρ with
  | .ex e ρ1 => (match sub e.c with
    | some true => (match ρ1[i]? with
      | some si => if ioS si = true then .bad else (match fh (ρ1.set i (.x e)) with
        | .ok .nx ρ2 => (match ρ2[i]? with
          | some s2 => if ioS s2 = true then .bad else .ok .nx (ρ2.set i .no)
          | none => .bad)
        | _ => .bad)
      | none => .bad)
    | some false => .ex e ρ1
    | none => .bad)
  | r => r
section
variable {Z : Zx} {W : WX}
theorem s_tryH {tb : WX → TS} {th : TS} {fb fh : Rho → R Fl} {c : Str} {i : Nat} {sub : Str → Option Bool} (hsub : ∀ n b, sub n = some b → PySem.W.exmOne Z.K (.ref (cA Z.K n)) (.ref (cA Z.K c)) = some b) (hb : ∀ W', DS Z W' (tb W') fb) (hh : DS Z (fun _ _ _ _ => False) th fh) :
    DS Z W (fun D σ H => tb (wAsTT Z.K (.ref (cA Z.K c)) i th W D) D σ H) (fTryH sub fb i fh) := by
  intro Hf H O σ ρ s En p
  refine hb _ Hf H O σ ρ s En ?_
  unfold fTryH at p
  cases ef : fb ρ with
  | bad => rw [ef] at p; exact p
  | ok fl ρ1 => rw [ef] at p; exact p
  | ex e ρ1 =>
    rw [ef] at p
    intro cls d Hf1 H1 O1 σ1 s1 g1 o1 k1 xr
    obtain ⟨rfl, xf⟩ := xr
    simp only at p
    cases es : sub e.c with
    | none => rw [es] at p; exact p.elim
    | some b =>
      rw [es] at p
      refine ⟨b, hsub _ _ es, fun hbt a na => ?_, fun hbf => ?_⟩
      · subst hbt
        cases ei : ρ1[i]? with
        | none => rw [ei] at p; exact p.elim
        | some si =>
          rw [ei] at p
          simp only at p
          by_cases hc : ioS si = true
          · rw [if_pos hc] at p; exact p.elim
          · rw [if_neg hc] at p
            have hi := (List.getElem?_eq_some_iff.mp ei).1
            have g2 := Pg.new (o := ExN (.ref (cA Z.K e.c)) d a) s1.ex na
            have s2 := s1.grow g2
            have xh : XH Z.K (upd Hf1 a (ExN (.ref (cA Z.K e.c)) d a)) a e := by
              unfold XH
              cases efs : e.fs with
              | none =>
                rw [efs] at xf
                have xf : d = none := xf
                subst xf
                exact upd_same
              | some fs =>
                rw [efs] at xf
                obtain ⟨dd, vs, rfl, h1, h2⟩ := xf
                exact ⟨dd, vs, upd_same, g2.ef _ _ h1, h2.mono g2.ef⟩
            have s3 := s2.putX (i := i) hi xh
            have k3 : Kq ρ (ρ1.set i (.x e)) σ (σ1.set i (some (.ref a))) := k1.trans (Kq.setS (fun xs ek => by rw [ei] at ek; cases ek; exact hc rfl) fun xs ek => by rw [ei] at ek; cases ek; exact hc rfl)
            refine hh _ _ _ _ _ s3 _ ?_
            cases eh : fh (ρ1.set i (.x e)) with
            | bad => rw [eh] at p; exact p.elim
            | ex x r => rw [eh] at p; exact p.elim
            | ok fl ρ2 =>
              rw [eh] at p
              cases fl with
              | nx =>
                simp only at p
                cases e2 : ρ2[i]? with
                | none => rw [e2] at p; exact p.elim
                | some sj =>
                  rw [e2] at p
                  simp only at p
                  by_cases hc2 : ioS sj = true
                  · rw [if_pos hc2] at p; exact p.elim
                  · rw [if_neg hc2] at p
                    have hi2 := (List.getElem?_eq_some_iff.mp e2).1
                    intro Hf4 H4 O4 σ4 s4 g4 o4 k4
                    have s5 := s4.drop (i := i) (u := none) hi2
                    have gg := g1.transO g2.gr o1
                    show En.nx (σ4.set i none) H4
                    refine p _ _ O4 _ s5 (gg.transO g4 o1) (o1.trans (fun x hx => ?_) g1) ((k3.trans k4).trans (Kq.setS (fun xs ek => by rw [e2] at ek; cases ek; exact hc2 rfl) fun xs ek => by rw [e2] at ek; cases ek; exact hc2 rfl))
                    · rcases o4 x hx with z | z
                      · exact .inl z
                      · exact .inr (g2.gr (O := O1).gone z)
              | _ => exact p.elim
      · subst hbf
        exact p _ d Hf1 H1 O1 σ1 s1 g1 o1 k1 ⟨rfl, xf⟩
end
omit [WD] in
theorem fTryH_ok {sub : Str → Option Bool} {fb fh : Rho → R Fl} {i : Nat} {fl : Fl} {ρ ρ1 : Rho} (h : fb ρ = .ok fl ρ1) : fTryH sub fb i fh ρ = .ok fl ρ1 := by
  unfold fTryH; rw [h]
omit [WD] in
theorem fTryH_ex {sub : Str → Option Bool} {fb fh : Rho → R Fl} {i : Nat} {e : XD} {ρ ρ1 ρ2 : Rho} {si sj : Sl} (h : fb ρ = .ex e ρ1) (hs : sub e.c = some true) (hi : ρ1[i]? = some si) (ni : ioS si = false) (hh : fh (ρ1.set i (.x e)) = .ok .nx ρ2) (hj : ρ2[i]? = some sj) (nj : ioS sj = false) :
    fTryH sub fb i fh ρ = .ok .nx (ρ2.set i .no) := by
  unfold fTryH
  rw [h]
  simp only [hs, hi, ni, hh, hj, nj]
  rfl
end Dt
/-! text.split(..) as an owned list; x.pop(); text.find(..); int(text); a dict of texts to whole numbers, written -/
namespace Dt
open PySem PySem.Spec L2 Evl PyProof.Rows
variable [WD]
section
variable {Z : Zx} {W : WX}
def kSplitL (x : Str) (b : AV) (ρ : Rho) : R (List Pd) := match res ρ b with
  | some (.str y) => if (y.length == 0) = false ∧ x.length + 2 ≤ sizeLine then .ok ((Txt.split x y).map PyData.str) ρ else .bad
  | _ => .bad
def fSplitL (fo fa : Rho → R AV) : Rho → R (List Pd) := fun ρ => (fo ρ).bind fun o ρ1 => match res ρ1 o with
  | some (.str x) => (fa ρ1).bind fun a ρ2 => kSplitL x a ρ2
  | _ => .bad
theorem l_split {to te : TE} {fo fa : Rho → R AV} (ho : DE Z W to fo) (ha : DE Z W te fa) : DL Z W (tM1 rSplit to te) (fSplitL fo fa) := by
  intro Hf H O σ ρ s Q p
  refine ho.bind s p fun o ρ1 x Hf1 H1 s1 g1 k1 rx p1 => ?_
  cases e0 : res ρ1 o with
  | none => rw [e0] at p1; exact p1.elim
  | some d0 =>
    rw [e0] at p1
    cases d0 with
    | str z =>
      simp only at p1
      obtain rfl := (res_ok s1 rx e0).str
      refine ⟨⟨z, rfl⟩, ?_⟩
      refine ha.bind s1 p1 fun a ρ2 v Hf2 H2 s2 g2 k2 ra p2 => ?_
      unfold kSplitL at p2
      cases e2 : res ρ2 a with
      | none => rw [e2] at p2; exact p2.elim
      | some y =>
        rw [e2] at p2
        cases y with
        | str y =>
          simp only at p2
          obtain rfl := (res_ok s2 ra e2).str
          by_cases hc : (y.length == 0) = false ∧ z.length + 2 ≤ sizeLine
          · rw [if_pos hc] at p2
            refine ⟨z, y, rfl, rfl, hc.1, hc.2, fun q nq => ?_⟩
            have g := Pg.lay (o := .lst ((Txt.split z y).map V.str)) s2.ex nq
            exact p2 Hf2 _ (s2.grow g) g.gr Kp.refl _ ⟨q, _, rfl, g1.gone (g2.gone nq), upd_same, fresh_back s2.ex nq, RDs.strs _⟩
          · rw [if_neg hc] at p2; exact p2.elim
        | _ => exact p2.elim
    | _ => exact p1.elim
/-! ### x.pop() -/
theorem RDs.dropLast {K : PySem.W.Frag} {H : Hp} {vs : List V} {ds : List Pd} (h : RDs K H vs ds) : RDs K H vs.dropLast ds.dropLast := by
  rw [List.dropLast_eq_take, List.dropLast_eq_take, h.length]
  exact h.take _
def fPop (i : Nat) : Rho → R AV := fun ρ => match ρ[i]? with
  | some (.own b xs) => (match xs[xs.length - 1]? with
    | some y => .ok (.d y) (ρ.set i (.own b xs.dropLast))
    | none => .bad)
  | _ => .bad
theorem d_pop {i : Nat} : DE Z W (tBM0 Z.K "list" rPop (tVar i)) (fPop i) := by
  intro Hf H O σ ρ s Q p
  unfold fPop at p
  cases e0 : ρ[i]? with
  | none => rw [e0] at p; exact p.elim
  | some z0 =>
    rw [e0] at p
    cases z0 with
    | no => exact p.elim
    | x _ => exact p.elim
    | m _ _ => exact p.elim
    | d y => exact p.elim
    | own b xs =>
      simp only at p
      obtain ⟨l, vs, h1, h2, h3, h4⟩ := s.own i b xs e0
      refine ⟨.ref l, h1, .inl ⟨rfl, vs, .inl (.inl h3)⟩, ?_⟩
      cases ey : xs[xs.length - 1]? with
      | none => rw [ey] at p; exact p.elim
      | some y =>
        rw [ey] at p
        obtain ⟨v, ev, rv⟩ := h4.get ey
        exact ⟨l, vs, v, rfl, rfl, h3, by rw [h4.length]; exact ev, p Hf _ (s.chg e0 h1 h3 h4.dropLast) (Gr.refl.chg h2) (kp_chg e0) v rv⟩
/-! ### a dict, written -/
theorem mergeK_new : ∀ (more acc : List (Key × V)), ((acc ++ more).map (·.1)).Nodup → mergeK acc more = acc ++ more
  | [], acc, _ => by simp [mergeK]
  | kv :: more, acc, h => by
    have hn : (acc.any fun x => decide (x.1 = kv.1)) = false := by
      rw [List.any_eq_false]
      intro x hx
      simp only [decide_eq_true_eq]
      rw [List.map_append, List.map_cons] at h
      exact (List.nodup_append.mp h).2.2 x.1 (List.mem_map.mpr ⟨x, hx, rfl⟩) kv.1 (by simp)
    show mergeK (putK acc kv.1 kv.2) more = _
    unfold putK
    rw [if_neg (by rw [hn]; exact Bool.false_ne_true), mergeK_new more (acc ++ [(kv.1, kv.2)]) (by simpa using h)]
    simp
def dcV (ps : List (Str × Int)) : List (Key × V) := ps.map fun kv => (.inr kv.1, .int kv.2)
def dcD (ps : List (Str × Int)) : List (Pd × Pd) := ps.map fun kv => (.str kv.1, .int kv.2)
theorem dc_rel {K : PySem.W.Frag} {H : Hp} : ∀ ps : List (Str × Int), RKs K H (dcV ps) (dcD ps)
  | [] => .nil
  | kv :: ps => .cons (.int _) (dc_rel ps)
theorem tPairs_c {σ : L2.St} {H : Hp} : ∀ (ps : List (Str × Int)) {Q : List (V × V) → Hp → Prop}, Q (ps.map fun kv => (.str kv.1, .int kv.2)) H → tPairs (ps.map fun kv => (tC (.str kv.1), tC (.int kv.2))) σ H Q
  | [], Q, h => h
  | kv :: ps, Q, h => tPairs_c ps (Q := fun qs H' => Q ((.str kv.1, .int kv.2) :: qs) H') h
theorem d_dispC (ps : List (Str × Int)) (hl : ps.length ≤ 15) (hn : (ps.map (·.1)).Nodup) : DE Z W (tLockD (tDisp (ps.map fun kv => (tC (.str kv.1), tC (.int kv.2))))) (fC (.dict (dcD ps))) := by
  intro Hf H O σ ρ s Q p q nq
  have no : ¬ O q := fun z => by
    obtain ⟨⟨o, t⟩, _⟩ := s.otr q z
    rw [nq] at t; cases t
  have g0 := Pg.lay (o := .dK []) s.ex nq
  have s0 := s.grow g0
  have fq0 := fresh_back s.ex nq
  refine tPairs_c ps ⟨upd_same, dcV ps, ?_, by simpa [dcV] using hl, ?_⟩
  · unfold dcV
    rw [List.map_map]
    rfl
  · rw [mergeK_new _ _ (by
      rw [List.nil_append]
      unfold dcV
      rw [List.map_map]
      have e : ((fun x : Key × V => x.1) ∘ fun kv : Str × Int => ((.inr kv.1 : Key), V.int kv.2)) = (fun x : Str => (.inr x : Key)) ∘ fun kv : Str × Int => kv.1 := rfl
      rw [e, ← List.map_map]
      exact List.Pairwise.map _ (fun a b h e => h (Sum.inr.inj e)) hn), List.nil_append]
    refine ⟨q, dcV ps, rfl, upd_same, fun o => ?_⟩
    rw [upd_twice]
    have s3 := s0.other (o' := .frz o (.dK (dcV ps))) upd_same fq0 no
    have s4 := s3.freeze upd_same fq0 no
    refine p _ _ s4 ⟨(g0.gr (O := O)).ex.trans (Ex.new fq0), ((g0.gr (O := O)).upd nq).fm, ((g0.gr (O := O)).upd nq).tr, fun a o h => ?_⟩ Kp.refl _ (.dct upd_same (dc_rel ps))
    by_cases z : a = q
    · subst z; exact .inr (.inl nq)
    · rw [upd_ne z] at h; exact (g0.gr (O := O)).nw a o h
end
/-! ### text.find(..), int(text) -/
def findD : Pd → List Pd → Option Pd
  | .str a, [.str b] => some (.int (Txt.find a b))
  | _, _ => none
theorem rm_find {K : PySem.W.Frag} : RMt K "str" (fun x xs H Q => ∃ a b, x = .str a ∧ xs = [.str b] ∧ Q (.int (Txt.find a b)) H) findD := by
  intro Hf H x vs dx xs z e hx hs h Q q
  unfold findD at h
  split at h
  · rename_i a b
    cases h
    obtain ⟨v, rfl, hv⟩ := hs.one
    exact ⟨a, b, hx.str, by rw [hv.str], q _ Hf H (Pg.refl e) (.int _)⟩
  · cases h
def intSD : List Pd → Option Pd
  | [.str a] => if a.length ≤ 640 then (PySem.intText? a).map PyData.int else none
  | _ => none
theorem rc_intS {K : PySem.W.Frag} : RCall K (fun xs H Q => ∃ a n, xs = [.str a] ∧ PySem.intText? a = some n ∧ a.length ≤ 640 ∧ Q (.int n) H) intSD := by
  intro Hf H vs xs z e hx h Q q
  unfold intSD at h
  split at h
  · rename_i a
    split at h
    · rename_i hl
      cases hi : PySem.intText? a with
      | none => rw [hi] at h; cases h
      | some n =>
        rw [hi] at h
        cases h
        obtain ⟨v, rfl, hv⟩ := hx.one
        obtain rfl := hv.str
        exact ⟨a, n, rfl, hi, hl, q _ Hf H (Pg.refl e) (.int _)⟩
    · cases h
  · cases h
section
variable {ρ : Rho}
omit [WD] in
@[simp] theorem fSplitL_ap {fo fa : Rho → R AV} : fSplitL fo fa ρ = (fo ρ).bind fun o ρ1 => (match res ρ1 o with
  | some (.str x) => (fa ρ1).bind fun a ρ2 => kSplitL x a ρ2
  | _ => .bad) := rfl
omit [WD] in
@[simp] theorem kSplitL_s {x y : Str} : kSplitL x (.d (.str y)) ρ = if (y.length == 0) = false ∧ x.length + 2 ≤ sizeLine then .ok ((Txt.split x y).map PyData.str) ρ else .bad := rfl
omit [WD] in
@[simp] theorem fPop_ap {i : Nat} : fPop i ρ = (match ρ[i]? with
  | some (.own b xs) => (match xs[xs.length - 1]? with
    | some y => .ok (.d y) (ρ.set i (.own b xs.dropLast))
    | none => .bad)
  | _ => .bad) := rfl
omit [WD] in
@[simp] theorem findD_str {a b : Str} : findD (.str a) [.str b] = some (.int (Txt.find a b)) := rfl
end
end Dt
/-! a comprehension over an owned list, which stays owned -/
namespace Dt
open PySem PySem.Spec L2 Evl PyProof.Rows
variable [WD]
def lcRunO (i0 : Nat) (h : Pd → Rho → Option Rho) (ft : Rho → R Bool) (fe : Rho → R AV) (vs : List Nat) : Nat → Nat → List Pd → Rho → R (List Pd)
  | 0, _, _, _ => .bad
  | n + 1, k, acc, ρ => match ρ[i0]? with
    | some (.own _ xs) => (match xs[k]? with
      | none => .ok acc ρ
      | some x => (match h x ρ with
        | none => .bad
        | some ρ1 => (match ft ρ1 with
          | .ok true ρ2 => (match fe ρ2 with
            | .ok (.d y) ρ3 => if acc.length < sizeLine then lcRunO i0 h ft fe vs n (k + 1) (acc ++ [y]) (wipeR ρ3 vs) else .bad
            | _ => .bad)
          | .ok false ρ2 => lcRunO i0 h ft fe vs n (k + 1) acc (wipeR ρ2 vs)
          | _ => .bad)))
    | _ => .bad
def fLcO (i0 : Nat) (h : Pd → Rho → Option Rho) (ft : Rho → R Bool) (fe : Rho → R AV) (vs : List Nat) : Rho → R (List Pd) := fun ρ =>
  if okW ρ vs = true then (match ρ[i0]? with
    | some (.own _ xs) => lcRunO i0 h ft fe vs (xs.length + 1) 0 [] (wipeR ρ vs)
    | _ => .bad) else .bad
theorem l_lcO {Z : Zx} {W : WX} {i0 : Nat} {g : TG} {tt : TT} {te : TE} {vs js : List Nat} {h : Pd → Rho → Option Rho} {ft : Rho → R Bool} {fe : Rho → R AV} {wk : Bool} (hg : DG wk Z.K js g h) (hj : ∀ j ∈ js, j ∈ vs)
    (ht : DT Z W0 tt ft) (he : DE Z W0 te fe) : DL Z W (tLc (iList Z.K (tVar i0)) g tt te vs) (fLcO i0 h ft fe vs) := by
  intro Hf H O σ ρ s Q p
  unfold fLcO at p
  by_cases hw : okW ρ vs = true
  case neg => rw [if_neg hw] at p; exact p.elim
  rw [if_pos hw] at p
  cases e0 : ρ[i0]? with
  | none => rw [e0] at p; exact p.elim
  | some z0 =>
    rw [e0] at p
    cases z0 with
    | no => exact p.elim
    | x _ => exact p.elim
    | m _ _ => exact p.elim
    | d y => exact p.elim
    | own b0 xs0 =>
      have p : PostG Z W O σ ρ Hf H (fun a _ Hf' H' => ∀ v, RL Z.K H Hf' H' v a → Q v H') (lcRunO i0 h ft fe vs (xs0.length + 1) 0 [] (wipeR ρ vs)) := p
      obtain ⟨l, vs0, h1, h2, h3, h4⟩ := s.own i0 b0 xs0 e0
      refine ⟨.ref l, h1, l, rfl, ⟨vs0, sq_of h3⟩, ?_⟩
      intro D nD
      have noD : ¬ O D := fun z => by
        obtain ⟨⟨o, q⟩, _⟩ := s.otr D z
        rw [nD] at q; cases q
      refine ⟨fun i m H' => ∃ Hf' ρ' acc us, SR Z.K Hf' H' O (wipe σ vs) ρ' ∧ SR Z.K Hf' H' O σ ρ' ∧ Ex Hf Hf' ∧ Gr O Hf H Hf' H' ∧ Kp ρ ρ' ∧ H' D = some (.lst us) ∧ Hf' D = none ∧ RDs Z.K Hf' us acc ∧
        PostG Z W O σ ρ Hf H (fun a _ Hf' H' => ∀ v, RL Z.K H Hf' H' v a → Q v H') (lcRunO i0 h ft fe vs m i acc ρ'), ⟨xs0.length + 1, Hf, wipeR ρ vs, [], [], ?_, ?_, Ex.refl _, Gr.refl.upd nD, okW_kp hw Kp.refl, upd_same, fresh_back s.ex nD, .nil, p⟩, ?_⟩
      · exact (s.grow (Pg.lay s.ex nD)).wipe
      · exact (s.grow (Pg.lay s.ex nD)).wipe.unwipe
      · rintro i m H' ⟨Hf', ρ', acc, us, sw, so, e1, g', k', hD, fD, rd, p'⟩
        cases m with
        | zero => exact p'.elim
        | succ m =>
          unfold lcRunO at p'
          cases ei : ρ'[i0]? with
          | none => rw [ei] at p'; exact p'.elim
          | some z1 =>
            rw [ei] at p'
            cases z1 with
            | no => exact p'.elim
            | x _ => exact p'.elim
            | m _ _ => exact p'.elim
            | d y => exact p'.elim
            | own b xs =>
              simp only at p'
              obtain ⟨l', vs', q1, q2, q3, q4⟩ := so.own i0 b xs ei
              rw [h1] at q1
              cases q1
              have hs : SqL Z.K H' l vs' := sq_of q3
              cases ex : xs[i]? with
              | none =>
                rw [ex] at p'
                have hle : xs.length ≤ i := List.getElem?_eq_none_iff.mp ex
                exact .inl ⟨⟨vs', hs, by rw [q4.length]; exact hle⟩, p' Hf' H' so g' k' _ ⟨D, us, rfl, nD, hD, fD, rd⟩⟩
              | some x0 =>
                rw [ex] at p'
                obtain ⟨v0, ev0, rv0⟩ := q4.get ex
                refine .inr ⟨⟨vs', v0, hs, ev0⟩, fun H'' => ∃ Hf' ρ' acc us, SR Z.K Hf' H'' O (wipe σ vs) ρ' ∧ SR Z.K Hf' H'' O σ ρ' ∧ Ex Hf Hf' ∧ Gr O Hf H Hf' H'' ∧ Kp ρ ρ' ∧ H'' D = some (.lst us) ∧ Hf' D = none ∧ RDs Z.K Hf' us acc ∧
                  PostG Z W O σ ρ Hf H (fun a _ Hf' H' => ∀ v, RL Z.K H Hf' H' v a → Q v H') (lcRunO i0 h ft fe vs m (i + 1) acc ρ'), fun H'' q => ⟨m, by omega, q⟩, fun v H2 hy => ?_⟩
                obtain ⟨rfl, hy⟩ := hy
                have ev := hy vs' hs
                rw [ev0] at ev
                cases ev
                simp only at p'
                cases eh : h x0 ρ' with
                | none => rw [eh] at p'; exact p'.elim
                | some ρ2 =>
                  rw [eh] at p'
                  simp only at p'
                  refine hg Hf' _ O (wipe σ vs) ρ' _ _ ρ2 sw (.inl rv0) eh _ fun σ2 s2 off oth _ => ⟨wipe_off off hj, ?_⟩
                  have ew : wipe σ2 vs = wipe σ vs := wipe_off off hj
                  have kp2 : Kp ρ ρ2 := ⟨fun j ys ej => by
                    have nj : j ∉ vs := fun z => by
                      have q := List.all_eq_true.mp hw j z
                      rw [ej] at q; cases q
                    rw [oth j fun z => nj (hj j z)]
                    exact k'.1 j ys ej, fun j ys ej => by
                    have nj : j ∉ vs := fun z => by
                      have q := List.all_eq_true.mp hw j z
                      rw [ej] at q; cases q
                    rw [oth j fun z => nj (hj j z)]
                    exact k'.2 j ys ej⟩
                  refine ht Hf' _ O σ2 ρ2 s2 _ ?_
                  cases et : ft ρ2 with
                  | bad => rw [et] at p'; exact p'.elim
                  | ex x ρ3 => rw [et] at p'; exact p'.elim
                  | ok b ρ3 =>
                    rw [et] at p'
                    intro Hf3 H3 s3 g3 k3 b' rb
                    subst rb
                    cases b' with
                    | false =>
                      have sw3 : SR Z.K Hf3 H3 O (wipe σ vs) (wipeR ρ3 vs) := ew ▸ s3.wipe
                      refine ⟨Hf3, wipeR ρ3 vs, acc, us, sw3, sw3.unwipe, e1.trans g3.ex, g'.trans g3, okW_kp hw (kp2.trans k3), g3.fm _ _ hD noD, g3.stays hD fD noD, rd.mono g3.ex, p'⟩
                    | true =>
                      simp only at p'
                      refine he Hf3 H3 O σ2 ρ3 s3 _ ?_
                      cases ee : fe ρ3 with
                      | bad => rw [ee] at p'; exact p'.elim
                      | ex x ρ4 => rw [ee] at p'; exact p'.elim
                      | ok a ρ4 =>
                        rw [ee] at p'
                        cases a with
                        | sl j => exact p'.elim
                        | d y =>
                          simp only at p'
                          intro Hf4 H4 s4 g4 k4 w rw4
                          by_cases hz : acc.length < sizeLine
                          case neg => rw [if_neg hz] at p'; exact p'.elim
                          rw [if_pos hz] at p'
                          have gg := g3.trans g4
                          have hD4 : H4 D = some (.lst us) := gg.fm _ _ hD noD
                          have fD4 : Hf4 D = none := gg.stays hD fD noD
                          have sw4 : SR Z.K Hf4 H4 O (wipe σ vs) (wipeR ρ4 vs) := ew ▸ s4.wipe
                          refine ⟨us, hD4, by rw [rd.length]; exact hz, Hf4, wipeR ρ4 vs, acc ++ [y], us ++ [w], sw4.other hD4 fD4 noD, sw4.unwipe.other hD4 fD4 noD, e1.trans gg.ex, (g'.trans gg).upd nD, okW_kp hw (kp2.trans (k3.trans k4)), upd_same, fD4, (rd.mono gg.ex).append (.cons rw4 .nil), p'⟩
omit [WD] in
/-- such a comprehension, element by element -/
theorem lcO_map {i0 : Nat} {h : Pd → Rho → Option Rho} {fe : Rho → R AV} {vs : List Nat} {b : Bool} {xs : List Pd} (g : Pd → Pd) {ρ : Rho} (h0 : ρ[i0]? = some (.own b xs)) (hl : xs.length ≤ 16777216)
    (H : ∀ x ∈ xs, ∃ ρ1 ρ3, h x ρ = some ρ1 ∧ fe ρ1 = .ok (.d (g x)) ρ3 ∧ wipeR ρ3 vs = ρ) : ∀ (m k : Nat), k + m = xs.length → lcRunO i0 h (fun ρ => .ok true ρ) fe vs (m + 1) k ((xs.take k).map g) ρ = .ok (xs.map g) ρ
  | 0, k, e => by
    have e1 : xs[k]? = none := List.getElem?_eq_none (by omega)
    unfold lcRunO
    simp only [h0, e1]
    rw [List.take_of_length_le (by omega)]
  | m + 1, k, e => by
    have hk : k < xs.length := by omega
    have e1 : xs[k]? = some xs[k] := List.getElem?_eq_getElem hk
    obtain ⟨ρ1, ρ3, a1, a2, a3⟩ := H xs[k] (List.getElem_mem hk)
    have ih := lcO_map g h0 hl H m (k + 1) (by omega)
    have et : (xs.take (k + 1)).map g = (xs.take k).map g ++ [g xs[k]] := by
      rw [List.take_succ_eq_append_getElem hk, List.map_append]
      rfl
    rw [et] at ih
    unfold lcRunO
    simp only [h0, e1, a1, a2, a3]
    rw [if_pos (show _ < sizeLine by rw [List.length_map, List.length_take]; simp only [sizeLine]; omega), ih]
omit [WD] in
theorem fLcO_map {i0 : Nat} {h : Pd → Rho → Option Rho} {fe : Rho → R AV} {vs : List Nat} {b : Bool} {xs : List Pd} (g : Pd → Pd) {ρ : Rho} (hw : okW ρ vs = true) (h0 : ρ[i0]? = some (.own b xs)) (hl : xs.length ≤ 16777216) (hv : wipeR ρ vs = ρ)
    (H : ∀ x ∈ xs, ∃ ρ1 ρ3, h x ρ = some ρ1 ∧ fe ρ1 = .ok (.d (g x)) ρ3 ∧ wipeR ρ3 vs = ρ) : fLcO i0 h (fun ρ => .ok true ρ) fe vs ρ = .ok (xs.map g) ρ := by
  have := lcO_map g h0 hl H xs.length 0 (by omega)
  unfold fLcO
  rw [if_pos hw, h0, hv]
  simpa using this
end Dt
namespace Dt
open PySem PySem.Spec L2 Evl
/-! ### comprehensions and loops by what they leave -/
section
variable {h : Pd → Rho → Option Rho} {ft : Rho → R Bool} {fe : Rho → R AV} {vs : List Nat} {fb : Rho → R Fl}
theorem lc_cons_yes {x y : Pd} {xs acc : List Pd} {ρ ρ1 ρ2 ρ3 : Rho} (e1 : h x ρ = some ρ1) (e2 : ft ρ1 = .ok true ρ2) (e3 : fe ρ2 = .ok (.d y) ρ3) (hl : acc.length < sizeLine) :
    lcRun h ft fe vs (x :: xs) acc ρ = lcRun h ft fe vs xs (acc ++ [y]) (wipeR ρ3 vs) := by
  simp only [lcRun, e1, e2, e3, if_pos hl]
theorem lc_cons_no {x : Pd} {xs acc : List Pd} {ρ ρ1 ρ2 : Rho} (e1 : h x ρ = some ρ1) (e2 : ft ρ1 = .ok false ρ2) :
    lcRun h ft fe vs (x :: xs) acc ρ = lcRun h ft fe vs xs acc (wipeR ρ2 vs) := by
  simp only [lcRun, e1, e2]
theorem lc_inv (I : Nat → List Pd → Rho → Prop) {xs : List Pd} (step : ∀ (i : Nat) x acc ρ, xs[i]? = some x → I i acc ρ →
      ∃ ρ1 ρ2 ρ3 y, h x ρ = some ρ1 ∧ ft ρ1 = .ok true ρ2 ∧ fe ρ2 = .ok (.d y) ρ3 ∧ acc.length < sizeLine ∧ I (i + 1) (acc ++ [y]) (wipeR ρ3 vs)) :
    ∀ (k : Nat) (acc : List Pd) (ρ : Rho), I k acc ρ → k ≤ xs.length → ∃ acc' ρ', lcRun h ft fe vs (xs.drop k) acc ρ = .ok acc' ρ' ∧ I xs.length acc' ρ' := by
  suffices H : ∀ (n k : Nat), xs.length - k = n → ∀ (acc : List Pd) (ρ : Rho), I k acc ρ → k ≤ xs.length → ∃ acc' ρ', lcRun h ft fe vs (xs.drop k) acc ρ = .ok acc' ρ' ∧ I xs.length acc' ρ' from fun k acc ρ hI hk => H _ k rfl acc ρ hI hk
  intro n
  induction n with
  | zero =>
    intro k e acc ρ hI hk
    have : k = xs.length := by omega
    subst this
    rw [List.drop_length]
    exact ⟨acc, ρ, rfl, hI⟩
  | succ n ih =>
    intro k e acc ρ hI hk
    have hlt : k < xs.length := by omega
    rw [List.drop_eq_getElem_cons hlt]
    obtain ⟨ρ1, ρ2, ρ3, y, e1, e2, e3, hl, hI'⟩ := step k _ acc ρ (List.getElem?_eq_getElem hlt) hI
    rw [lc_cons_yes e1 e2 e3 hl]
    exact ih (k + 1) (by omega) _ _ hI' (by omega)
theorem lc_inv0 (I : Nat → List Pd → Rho → Prop) {xs : List Pd} {ρ : Rho} (h0 : I 0 [] ρ) (step : ∀ (i : Nat) x acc ρ, xs[i]? = some x → I i acc ρ →
      ∃ ρ1 ρ2 ρ3 y, h x ρ = some ρ1 ∧ ft ρ1 = .ok true ρ2 ∧ fe ρ2 = .ok (.d y) ρ3 ∧ acc.length < sizeLine ∧ I (i + 1) (acc ++ [y]) (wipeR ρ3 vs)) :
    ∃ acc' ρ', lcRun h ft fe vs xs [] ρ = .ok acc' ρ' ∧ I xs.length acc' ρ' := lc_inv I step 0 [] ρ h0 (Nat.zero_le _)
/-- each item goes over by g, the slots come back as they were -/
theorem lc_map (g : Pd → Pd) {ρ : Rho} : ∀ {xs acc : List Pd}, (∀ x ∈ xs, ∃ ρ1 ρ2 ρ3, h x ρ = some ρ1 ∧ ft ρ1 = .ok true ρ2 ∧ fe ρ2 = .ok (.d (g x)) ρ3 ∧ wipeR ρ3 vs = ρ) → acc.length + xs.length ≤ sizeLine →
    lcRun h ft fe vs xs acc ρ = .ok (acc ++ xs.map g) ρ
  | [], acc, _, _ => by simp [lcRun]
  | x :: xs, acc, H, hl => by
    obtain ⟨ρ1, ρ2, ρ3, e1, e2, e3, e4⟩ := H x List.mem_cons_self
    rw [lc_cons_yes e1 e2 e3 (by simp at hl; omega), e4, lc_map g (fun y hy => H y (List.mem_cons_of_mem _ hy)) (by simp at hl ⊢; omega)]
    simp
/-- .. of those that p lets by -/
theorem lc_filter (p : Pd → Bool) (g : Pd → Pd) {ρ : Rho} : ∀ {xs acc : List Pd}, (∀ x ∈ xs, ∃ ρ1 ρ2, h x ρ = some ρ1 ∧ ft ρ1 = .ok (p x) ρ2 ∧ (p x = false → wipeR ρ2 vs = ρ) ∧ (p x = true → ∃ ρ3, fe ρ2 = .ok (.d (g x)) ρ3 ∧ wipeR ρ3 vs = ρ)) → acc.length + xs.length ≤ sizeLine →
    lcRun h ft fe vs xs acc ρ = .ok (acc ++ (xs.filter p).map g) ρ
  | [], acc, _, _ => by simp [lcRun]
  | x :: xs, acc, H, hl => by
    obtain ⟨ρ1, ρ2, e1, e2, e3, e4⟩ := H x List.mem_cons_self
    have hz : acc.length < sizeLine := by simp at hl; omega
    cases hp : p x with
    | true =>
      rw [hp] at e2
      obtain ⟨ρ3, e5, e6⟩ := e4 hp
      rw [lc_cons_yes e1 e2 e5 hz, e6, lc_filter p g (fun y hy => H y (List.mem_cons_of_mem _ hy)) (by simp at hl ⊢; omega)]
      simp [List.filter_cons, hp]
    | false =>
      rw [hp] at e2
      rw [lc_cons_no e1 e2, e3 hp, lc_filter p g (fun y hy => H y (List.mem_cons_of_mem _ hy)) (by simp at hl ⊢; omega)]
      simp [List.filter_cons, hp]
/-- a loop all of whose turns go on -/
theorem for_inv (I : Nat → Rho → Prop) {xs : List Pd} (step : ∀ (i : Nat) x ρ, xs[i]? = some x → I i ρ → ∃ ρ1 ρ2, h x ρ = some ρ1 ∧ (fb ρ1 = .ok .nx ρ2 ∨ fb ρ1 = .ok .ct ρ2) ∧ I (i + 1) ρ2) {ρ : Rho} (h0 : I 0 ρ) :
    ∃ ρ', forRun h fb xs ρ = .ok .nx ρ' ∧ I xs.length ρ' := by
  suffices H : ∀ (n k : Nat), xs.length - k = n → k ≤ xs.length → ∀ ρ, I k ρ → ∃ ρ', forRun h fb (xs.drop k) ρ = .ok .nx ρ' ∧ I xs.length ρ' from H _ 0 rfl (Nat.zero_le _) ρ h0
  intro n
  induction n with
  | zero =>
    intro k e hk ρ hI
    have : k = xs.length := by omega
    subst this
    rw [List.drop_length]
    exact ⟨ρ, rfl, hI⟩
  | succ n ih =>
    intro k e hk ρ hI
    have hlt : k < xs.length := by omega
    rw [List.drop_eq_getElem_cons hlt]
    obtain ⟨ρ1, ρ2, e1, e2, hI'⟩ := step k _ ρ (List.getElem?_eq_getElem hlt) hI
    have e3 : forRun h fb (xs[k] :: xs.drop (k + 1)) ρ = forRun h fb (xs.drop (k + 1)) ρ2 := by
      rcases e2 with e2 | e2 <;> simp only [forRun, e1, e2]
    rw [e3]
    exact ih (k + 1) (by omega) (by omega) _ hI'
end
/-! ### texts by their signs -/
open TL (tl joinL tl_join tl_ofString join_eq tl_append len_tl)
theorem tl_cut (z : Str) (lo hi : Option Int) : tl (cutS z lo hi) = ((tl z).drop (HT.sIx (tl z).length 0 lo)).take (HT.sIx (tl z).length (tl z).length hi - HT.sIx (tl z).length 0 lo) := by
  unfold cutS
  rw [len_tl]
theorem sIx_some (n d : Nat) (k : Int) (h : 0 ≤ k) : HT.sIx n d (some k) = min k.toNat n := by
  show (if k < 0 then (k + (n : Int)).toNat else min k.toNat n) = _
  rw [if_neg (by omega)]
/-- z[:k] -/
theorem tl_take (z : Str) (k : Int) (h : 0 ≤ k) : tl (cutS z none (some k)) = (tl z).take k.toNat := by
  rw [tl_cut, sIx_some _ _ _ h]
  show (tl z).take (min k.toNat (tl z).length - 0) = _
  rw [Nat.sub_zero]
  simp
/-- z[k:m] -/
theorem tl_mid (z : Str) (k m : Int) (h : 0 ≤ k) (h2 : 0 ≤ m) : tl (cutS z (some k) (some m)) = ((tl z).drop k.toNat).take (m.toNat - k.toNat) := by
  rw [tl_cut, sIx_some _ _ _ h, sIx_some _ _ _ h2]
  apply List.ext_getElem?
  intro i
  simp only [List.getElem?_take, List.getElem?_drop]
  split
  · rename_i h1
    rw [if_pos (by omega)]
    congr 1
    omega
  · rename_i h1
    split
    · rename_i h3
      rw [List.getElem?_eq_none (by omega)]
    · rfl
theorem tl_drop (z : Str) (k : Int) (h : 0 ≤ k) : tl (cutS z (some k) none) = (tl z).drop k.toNat := by
  rw [tl_cut, sIx_some _ _ _ h]
  show ((tl z).drop (min k.toNat (tl z).length)).take ((tl z).length - min k.toNat (tl z).length) = _
  apply List.ext_getElem?
  intro i
  simp only [List.getElem?_take, List.getElem?_drop]
  split
  · congr 1
    omega
  · rw [List.getElem?_eq_none (by omega)]
theorem tl_one (c : Nat) : tl (⟨#[c]⟩ : Str) = [c] := rfl
theorem str_ext {a b : Str} (h : tl a = tl b) : a = b := by
  obtain ⟨x⟩ := a
  obtain ⟨y⟩ := b
  have : x = y := Array.ext' h
  rw [this]
theorem joinL_nil : ∀ l : List (List Nat), joinL [] l = l.flatten
  | [] => rfl
  | [p] => by simp [joinL]
  | p :: q :: r => by simp [joinL, joinL_nil (q :: r)]
theorem tl_join0 (ys : List Str) : tl (Txt.join (Str.ofString "") ys) = (ys.map tl).flatten := by
  rw [join_eq, tl_join, tl_ofString]
  exact joinL_nil _
theorem inStr_one (c : Nat) (z : Str) : inStr ⟨#[c]⟩ z = decide (c ∈ tl z) := rfl
theorem atI_some {α : Type} {xs : List α} {i : Int} (h0 : 0 ≤ i) (h : i < xs.length) : ∃ x, atI xs i = some x ∧ x ∈ xs := by
  have h1 : i.toNat < xs.length := by omega
  refine ⟨xs[i.toNat], ?_, List.getElem_mem h1⟩
  unfold atI ixN
  rw [if_pos h0, if_pos h]
  show xs[i.toNat]? = _
  exact List.getElem?_eq_getElem h1
theorem strsD_map (ys : List Str) : strsD (ys.map PyData.str) = some ys := by
  induction ys with
  | nil => rfl
  | cons y ys ih => simp only [List.map_cons, strsD]; rw [ih]
/-- a text of one to eight small letters, by its signs -/
def nameL (l : List Nat) : Prop := 1 ≤ l.length ∧ l.length ≤ 8 ∧ ∀ c ∈ l, 97 ≤ c ∧ c ≤ 122
instance (l : List Nat) : Decidable (nameL l) := inferInstanceAs (Decidable (_ ∧ _ ∧ _))
abbrev abc : Str := Str.ofString "abcdefghijklmnopqrstuvwxyz"
theorem tl_abc : tl abc = [97, 98, 99, 100, 101, 102, 103, 104, 105, 106, 107, 108, 109, 110, 111, 112, 113, 114, 115, 116, 117, 118, 119, 120, 121, 122] := by
  decide +kernel
theorem mem_abc (c : Nat) : c ∈ tl abc ↔ 97 ≤ c ∧ c ≤ 122 := by
  rw [tl_abc]
  simp
  omega
theorem up1_small {c : Nat} (h : 97 ≤ c) (h2 : c ≤ 122) : PyProof.Rows.up1 c = c - 32 := by
  unfold PyProof.Rows.up1
  simp [h, h2]
theorem tl_upper {x : Str} (hA : ∀ c ∈ tl x, 97 ≤ c ∧ c ≤ 122) : tl (Txt.upper x) = (tl x).map (· - 32) := by
  rw [PyProof.Rows.upper_ascii (fun c hc => by have := hA c hc; omega)]
  show (x.cps.map PyProof.Rows.up1).toList = _
  rw [Array.toList_map]
  exact List.map_congr_left fun c hc => up1_small (hA c hc).1 (hA c hc).2
/-- a number's text has a sign that is no letter -/
theorem num_sign (i : Int) : ∃ c ∈ tl (Str.ofString (toString i)), c < 97 := by
  rw [tl_ofString]
  cases i with
  | ofNat n =>
    have : (toString (Int.ofNat n)).toList = Nat.toDigits 10 n := by
      show (Nat.repr n).toList = _
      rw [Nat.toList_repr]
    rw [this]
    cases e : Nat.toDigits 10 n with
    | nil => exact absurd e (Nat.toDigits_ne_nil)
    | cons d r =>
      refine ⟨d.toNat, by simp, ?_⟩
      have hd : d.isDigit = true := Nat.isDigit_of_mem_toDigits (b := 10) (n := n) (by omega) (by omega) (by rw [e]; simp)
      simp only [Char.isDigit, Bool.and_eq_true, decide_eq_true_eq] at hd
      have h2 := hd.2
      have : d.val.toNat ≤ 57 := by simpa [UInt32.le_iff_toNat_le] using h2
      show d.val.toNat < 97
      omega
  | negSucc n =>
    refine ⟨'-'.toNat, ?_, by decide⟩
    show _ ∈ (("-" ++ Nat.repr (n + 1) : String)).toList.map Char.toNat
    simp
theorem num_len (i : Int) (h : i.natAbs < 10 ^ 20) : (Str.ofString (toString i)).length ≤ 21 := by
  rw [len_tl, tl_ofString, List.length_map]
  cases i with
  | ofNat n =>
    have : (toString (Int.ofNat n)).toList = Nat.toDigits 10 n := by
      show (Nat.repr n).toList = _
      rw [Nat.toList_repr]
    rw [this]
    have := (Nat.length_toDigits_le_iff (b := 10) (n := n) (k := 20) (by omega) (by omega)).mpr h
    omega
  | negSucc n =>
    show (("-" ++ Nat.repr (n + 1) : String)).toList.length ≤ 21
    have := (Nat.length_toDigits_le_iff (b := 10) (n := n + 1) (k := 20) (by omega) (by omega)).mpr (by simpa using h)
    simp [Nat.toList_repr]
    omega
end Dt
namespace Dt
open PySem PySem.Spec L2 Evl
open TL (tl joinL tl_join tl_ofString join_eq tl_append len_tl)
section
variable {A B : Type} {ρ ρ1 : Rho} {i j n : Nat} {x y : Pd} {a b : Str} {xs ys : List Pd} {k m : Int}
@[simp] theorem mulB_int : mulB (.int k) (.int m) = if mulOk k m = true then some (.int (k * m)) else none := rfl
@[simp] theorem mulB_str : mulB (.str a) (.int m) = if 0 ≤ m ∧ m ≤ 1000 ∧ a.length ≤ 1000 then some (.str (Txt.mul a m)) else none := rfl
@[simp] theorem tupleA_list : tupleA [.list xs] = some (.tuple xs) := rfl
@[simp] theorem tupleA_tuple : tupleA [.tuple xs] = some (.tuple xs) := rfl
@[simp] theorem tupleA_str : tupleA [.str a] = if a.length ≤ sizeLine then some (.tuple (chars a)) else none := rfl
@[simp] theorem listA_list : listA [.list xs] = some xs := rfl
@[simp] theorem listA_tuple : listA [.tuple xs] = some xs := rfl
@[simp] theorem listA_str : listA [.str a] = if a.length ≤ sizeLine then some (chars a) else none := rfl
@[simp] theorem maxD_int : maxD [.int k, .int m] = some (.int (if m > k then m else k)) := rfl
@[simp] theorem minD_int : minD [.int k, .int m] = some (.int (if m < k then m else k)) := rfl
@[simp] theorem shlD_int : shlD (.int k) (.int m) = if 0 ≤ m ∧ m ≤ 1000000 ∧ k.natAbs < 2 ^ 64 then some (.int (k * 2 ^ m.toNat)) else none := by simp [shlD, intD]
@[simp] theorem fZip_ap {f : Rho → R (List AV)} : fZip f ρ = (f ρ).bind fun as ρ1 => (match zipK as with | some xs => .ok xs ρ1 | none => .bad) := rfl
@[simp] theorem fTake_ap {fe : Rho → R AV} : fTake i j fe ρ = (match ρ[i]? with
  | some (.own _ [.int n]) => (fe ρ).bind fun a ρ1 => (match a, ρ1[i]? with
    | .d (.int m), some (.own b [_]) => if 0 < m ∧ m < 1073741824 then
        (match put j (.int (n % m)) (ρ1.set i (.own b [.int (n / m)])) with
        | some ρ2 => .ok .nx ρ2
        | none => .bad)
      else .bad
    | _, _ => .bad)
  | _ => .bad) := rfl
@[simp] theorem fCallT_ap {g : Rho → R RV} {fl : Rho → R (List Pd)} {fa : Rho → R (List AV)} : fCallT n g fl fa ρ = (fl ρ).bind fun ps ρ1 => (fa ρ1).bind fun as ρ2 => kCallT g ps (argsD n as) ρ2 := rfl
@[simp] theorem kCallT_some {g : Rho → R RV} : kCallT g ys (some xs) ρ = (match g (.own true ys :: xs.map Sl.d) with | .ok (.d x) _ => .ok (.d x) ρ | .ex e _ => .ex e ρ | _ => .bad) := rfl
@[simp] theorem fCallPB_ap {g : Rho → R RV} {fa : Rho → R (List AV)} : fCallPB n i g fa ρ = (match ρ[i]? with | some (.own _ _) => (fa ρ).bind fun as ρ1 => kCallPB n i g as ρ1 | _ => .bad) := rfl
@[simp] theorem kCallPB_ap {g : Rho → R RV} {as : List AV} : kCallPB n i g as ρ = if noSl i as = true ∧ as.length = n then (match ress ρ as, ρ[i]? with
    | some xs, some (.own b ps) => (match g (.own true ps :: xs.map Sl.d) with
      | .ok (.d x) (.own _ ps' :: _) => if flatD x = true ∧ flatL ps' = true then .ok (.d x) (ρ.set i (.own b ps')) else .bad
      | _ => .bad)
    | _, _ => .bad)
  else .bad := rfl
@[simp] theorem noSl_nil : noSl i [] = true := rfl
@[simp] theorem noSl_sl {as : List AV} : noSl i (.sl j :: as) = (decide (j ≠ i) && noSl i as) := rfl
@[simp] theorem noSl_d {as : List AV} : noSl i (.d x :: as) = noSl i as := rfl
theorem eqv_str (a b : Str) : PyData.eqv (.str a) (.str b) = decide (a = b) := by
  simp [PyData.eqv]
  by_cases h : a = b <;> simp [h]
theorem in_strs (a : Str) (l : List Str) : inB (.str a) (.list (l.map PyData.str)) = some (decide (a ∈ l)) := by
  have f : (l.map PyData.str).all flatD = true := by
    rw [List.all_map]
    exact List.all_eq_true.mpr fun _ _ => rfl
  unfold inB
  simp only [flatD, f, and_self, if_true]
  congr 1
  rw [List.any_map]
  induction l with
  | nil => rfl
  | cons b l ih =>
    have f' : (l.map PyData.str).all flatD = true := by
      rw [List.all_map]
      exact List.all_eq_true.mpr fun _ _ => rfl
    rw [List.any_cons, ih f']
    show (PyData.eqv (.str b) (.str a) || _) = _
    rw [eqv_str]
    by_cases h : b = a <;> by_cases h2 : a ∈ l <;> simp [h, h2]
    · exact fun z => h z.symm
theorem inD_strs (a : Str) (l : List Str) : inD (.str a) (.list (l.map PyData.str)) = some (.bool (decide (a ∈ l))) := by unfold inD; rw [in_strs]; rfl
theorem notInD_strs (a : Str) (l : List Str) : notInD (.str a) (.list (l.map PyData.str)) = some (.bool (!decide (a ∈ l))) := by unfold notInD; rw [in_strs]; rfl
/-- a comprehension whose test may change the slots -/
theorem lc_invF {h : Pd → Rho → Option Rho} {ft : Rho → R Bool} {fe : Rho → R AV} {vs : List Nat} (I : Nat → List Pd → Rho → Prop) {xs : List Pd} (step : ∀ (i : Nat) x acc ρ, xs[i]? = some x → I i acc ρ →
      ∃ ρ1 ρ2, h x ρ = some ρ1 ∧ ((ft ρ1 = .ok false ρ2 ∧ I (i + 1) acc (wipeR ρ2 vs)) ∨ (ft ρ1 = .ok true ρ2 ∧ ∃ ρ3 y, fe ρ2 = .ok (.d y) ρ3 ∧ acc.length < sizeLine ∧ I (i + 1) (acc ++ [y]) (wipeR ρ3 vs)))) {ρ : Rho} (h0 : I 0 [] ρ) :
    ∃ acc' ρ', lcRun h ft fe vs xs [] ρ = .ok acc' ρ' ∧ I xs.length acc' ρ' := by
  suffices H : ∀ (n k : Nat), xs.length - k = n → k ≤ xs.length → ∀ (acc : List Pd) (ρ : Rho), I k acc ρ → ∃ acc' ρ', lcRun h ft fe vs (xs.drop k) acc ρ = .ok acc' ρ' ∧ I xs.length acc' ρ' from H _ 0 rfl (Nat.zero_le _) [] ρ h0
  intro n
  induction n with
  | zero =>
    intro k e hk acc ρ hI
    have : k = xs.length := by omega
    subst this
    rw [List.drop_length]
    exact ⟨acc, ρ, rfl, hI⟩
  | succ n ih =>
    intro k e hk acc ρ hI
    have hlt : k < xs.length := by omega
    rw [List.drop_eq_getElem_cons hlt]
    obtain ⟨ρ1, ρ2, e1, c⟩ := step k _ acc ρ (List.getElem?_eq_getElem hlt) hI
    rcases c with ⟨e2, hI'⟩ | ⟨e2, ρ3, y, e3, hl, hI'⟩
    · rw [lc_cons_no e1 e2]
      exact ih (k + 1) (by omega) (by omega) _ _ hI'
    · rw [lc_cons_yes e1 e2 e3 hl]
      exact ih (k + 1) (by omega) (by omega) _ _ hI'
theorem sum_ones {A : Type} {f : A → Nat} : ∀ {l : List A}, (∀ y ∈ l, f y = 1) → (l.map f).sum = l.length
  | [], _ => rfl
  | a :: l, h => by
    rw [List.map_cons, List.sum_cons, h a List.mem_cons_self, sum_ones fun y hy => h y (List.mem_cons_of_mem _ hy), List.length_cons]
    omega
/-- signs joined to a text -/
def ofL (cs : List Nat) : Str := ⟨cs.toArray⟩
theorem tl_ofL (cs : List Nat) : tl (ofL cs) = cs := rfl
abbrev sg1 (c : Nat) : Str := ⟨#[c]⟩
theorem join_signs (cs : List Nat) (h : cs.length ≤ 1000) : joinD (.str (Str.ofString "")) [.list ((cs.map sg1).map PyData.str)] = some (.str (ofL cs)) := by
  have e : Txt.join (Str.ofString "") (cs.map sg1) = ofL cs := by
    refine str_ext ?_
    rw [tl_join0, tl_ofL, List.map_map]
    induction cs with
    | nil => rfl
    | cons c cs ih =>
      rw [List.map_cons, List.flatten_cons, ih (by simp at h; omega)]
      rfl
  have hs : ((cs.map sg1).map (·.length)).sum = cs.length := by
    rw [List.map_map]
    exact sum_ones fun _ _ => rfl
  simp only [joinD]
  rw [strsD_map]
  simp only
  rw [if_pos (by rw [hs, List.length_map]; show cs.length + cs.length * 0 ≤ 16777216; omega), e]
theorem chars_eq (s : Str) : chars s = ((tl s).map sg1).map PyData.str := by unfold chars; rw [List.map_map]; rfl
@[simp] theorem mulC_int : mulC (.int k) (.int m) = if mulOk k m = true then some (.int (k * m)) else none := rfl
@[simp] theorem mulC_str : mulC (.str a) (.int m) = if 0 ≤ m ∧ m ≤ 1000 ∧ a.length ≤ 1000 then some (.str (Txt.mul a m)) else none := rfl
theorem mulC_tup1 : mulC (.tuple xs) (.int 1) = some (.tuple xs) := rfl
@[simp] theorem revD_list : revD (.list xs) = some (.list xs.reverse) := rfl
@[simp] theorem revD_tuple : revD (.tuple xs) = some (.tuple xs.reverse) := rfl
@[simp] theorem revD_str : revD (.str a) = if a.length ≤ sizeLine then some (.str (revS a)) else none := rfl
/-- a loop that folds -/
theorem for_foldI {α β : Type} {h : Pd → Rho → Option Rho} {fb : Rho → R Fl} (d : α → Pd) (I : β → Rho → Prop) (f : β → α → β) : ∀ {xs : List α}, (∀ b x ρ, x ∈ xs → I b ρ → ∃ ρ1 ρ2, h (d x) ρ = some ρ1 ∧ fb ρ1 = .ok .nx ρ2 ∧ I (f b x) ρ2) → ∀ {b : β} {ρ : Rho}, I b ρ →
    ∃ ρ', forRun h fb (xs.map d) ρ = .ok .nx ρ' ∧ I (xs.foldl f b) ρ'
  | [], _, b, ρ, h0 => ⟨ρ, rfl, h0⟩
  | x :: xs, step, b, ρ, h0 => by
    obtain ⟨ρ1, ρ2, e1, e2, h1⟩ := step b x ρ List.mem_cons_self h0
    obtain ⟨ρ', e3, h2⟩ := for_foldI d I f (xs := xs) (fun b y ρ hy => step b y ρ (List.mem_cons_of_mem _ hy)) h1
    refine ⟨ρ', ?_, h2⟩
    rw [List.map_cons]
    simp only [forRun, e1, e2]
    exact e3
/-- a comprehension over things told as data -/
theorem lc_mapM {α : Type} {h : Pd → Rho → Option Rho} {fe : Rho → R AV} {vs : List Nat} (d : α → Pd) (g : α → Pd) {ρ : Rho} {l : List α} (H : ∀ x ∈ l, ∃ ρ1 ρ3, h (d x) ρ = some ρ1 ∧ fe ρ1 = .ok (.d (g x)) ρ3 ∧ wipeR ρ3 vs = ρ) (hl : l.length ≤ 16777216) :
    lcRun h (fun ρ => R.ok true ρ) fe vs (l.map d) [] ρ = .ok (l.map g) ρ := by
  have key : ∀ (l : List α) (acc : List Pd), (∀ x ∈ l, ∃ ρ1 ρ3, h (d x) ρ = some ρ1 ∧ fe ρ1 = .ok (.d (g x)) ρ3 ∧ wipeR ρ3 vs = ρ) → acc.length + l.length ≤ 16777216 → lcRun h (fun ρ => R.ok true ρ) fe vs (l.map d) acc ρ = .ok (acc ++ l.map g) ρ := by
    intro l
    induction l with
    | nil => intro acc _ _; simp
    | cons x l ih =>
      intro acc H hl
      obtain ⟨ρ1, ρ3, e1, e2, e3⟩ := H x List.mem_cons_self
      rw [List.map_cons, lc_cons_yes e1 rfl e2 (by simp [sizeLine] at hl ⊢; omega), e3, ih _ (fun y hy => H y (List.mem_cons_of_mem _ hy)) (by simp at hl ⊢; omega)]
      simp
  have := key l [] H (by simpa using hl)
  simpa using this
theorem cut_take (xs : List Pd) (k : Int) (h : 0 ≤ k) : cutD xs none (some k) = xs.take k.toNat := by
  unfold cutD
  rw [sIx_some _ _ _ h]
  show List.take (min k.toNat xs.length - 0) (xs.drop 0) = _
  rw [Nat.sub_zero, List.drop_zero]
  simp
theorem cut_drop (xs : List Pd) (k : Int) (h : 0 ≤ k) : cutD xs (some k) none = xs.drop k.toNat := by
  unfold cutD
  rw [sIx_some _ _ _ h]
  show (xs.drop (min k.toNat xs.length)).take (xs.length - min k.toNat xs.length) = _
  apply List.ext_getElem?
  intro i
  simp only [List.getElem?_take, List.getElem?_drop]
  split
  · congr 1
    omega
  · rw [List.getElem?_eq_none (by omega)]
theorem cut_mid (xs : List Pd) (k m : Int) (h : 0 ≤ k) (h2 : 0 ≤ m) : cutD xs (some k) (some m) = (xs.drop k.toNat).take (m.toNat - k.toNat) := by
  unfold cutD
  rw [sIx_some _ _ _ h, sIx_some _ _ _ h2]
  apply List.ext_getElem?
  intro i
  simp only [List.getElem?_take, List.getElem?_drop]
  split
  · rename_i h1
    rw [if_pos (by omega)]
    congr 1
    omega
  · rename_i h1
    split
    · rename_i h3
      rw [List.getElem?_eq_none (by omega)]
    · rfl
theorem forRun_cons {h : Pd → Rho → Option Rho} {fb : Rho → R Fl} : forRun h fb (x :: xs) ρ = (match h x ρ with
    | none => .bad
    | some ρ1 => match fb ρ1 with
      | .ok .nx ρ2 => forRun h fb xs ρ2
      | .ok .ct ρ2 => forRun h fb xs ρ2
      | .ok .bk ρ2 => .ok .nx ρ2
      | r => r) := rfl
theorem for_go {h : Pd → Rho → Option Rho} {fb : Rho → R Fl} {ρ2 : Rho} (e1 : h x ρ = some ρ1) (e2 : fb ρ1 = .ok .nx ρ2) : forRun h fb (x :: xs) ρ = forRun h fb xs ρ2 := by
  simp only [forRun, e1, e2]
theorem for_ret {h : Pd → Rho → Option Rho} {fb : Rho → R Fl} {ρ2 : Rho} (e1 : h x ρ = some ρ1) (e2 : fb ρ1 = .ok (.rt y) ρ2) : forRun h fb (x :: xs) ρ = .ok (.rt y) ρ2 := by
  simp only [forRun, e1, e2]
end
end Dt
namespace Dt
open PySem PySem.Spec L2 Evl PyProof.Rows
variable [WD]
/-! ### sorted of tuples of ints and texts -/
abbrev Ik := List (Int ⊕ List Nat)
def keyV : List V → Option Ik
  | [] => some []
  | .int n :: r => (keyV r).map (Sum.inl n :: ·)
  | .str x :: r => (keyV r).map (Sum.inr x.cps.toList :: ·)
  | _ :: _ => none
abbrev ltI (a b : Ik) : Bool := PyProof.Rows.lexLt PyProof.Rows.itemOrd a b
def shp (l : Ik) : List Bool := l.map Sum.isRight
theorem keyV_items : ∀ {ys : List V} {its : List Value} {l : Ik} {shape : Nat → Bool} {j : Nat}, Vals ys its → keyV ys = some l → (∀ i b, (shp l)[i]? = some b → shape (j + i) = b) → PyProof.Rows.tupItems shape j its = some l
  | _, _, l, shape, j, .nil, h, _ => by cases h; rfl
  | v :: ys, u :: its, l, shape, j, .cons r t, h, hs => by
    cases v with
    | int n =>
      obtain ⟨tk, rfl⟩ := r
      simp only [keyV] at h
      cases e : keyV ys with
      | none => rw [e] at h; cases h
      | some l' =>
        rw [e] at h
        cases h
        have h0 : shape j = false := by simpa using hs 0 false rfl
        have ih := keyV_items (shape := shape) (j := j + 1) t e (fun i b q => by have := hs (i + 1) b (by simpa [shp] using q); rwa [show j + 1 + i = j + (i + 1) by omega])
        simp [PyProof.Rows.tupItems, h0, ih]
    | str x =>
      obtain ⟨tk, rfl⟩ := r
      simp only [keyV] at h
      cases e : keyV ys with
      | none => rw [e] at h; cases h
      | some l' =>
        rw [e] at h
        cases h
        have h0 : shape j = true := by simpa using hs 0 true rfl
        have ih := keyV_items (shape := shape) (j := j + 1) t e (fun i b q => by have := hs (i + 1) b (by simpa [shp] using q); rwa [show j + 1 + i = j + (i + 1) by omega])
        simp [PyProof.Rows.tupItems, h0, ih]
    | _ => cases h
omit [WD] in
theorem swoI {α : Type} (k : α → Ik) : SrtO.Swo (fun v u : α => ltI (k v) (k u)) := by
  refine ⟨fun x y h => ?_, fun x y z h1 h2 => ?_⟩
  · cases e : ltI (k y) (k x) with
    | false => rfl
    | true =>
      have := (PyProof.Rows.listOrd PyProof.Rows.itemOrd).trans _ _ _ h e
      rw [(PyProof.Rows.listOrd PyProof.Rows.itemOrd).irrefl] at this
      cases this
  · cases e : ltI (k z) (k x) with
    | false => rfl
    | true =>
      rcases (PyProof.Rows.listOrd PyProof.Rows.itemOrd).negTrans _ (k y) _ e with q | q
      · exact q.symm.trans h2
      · exact q.symm.trans h1
/-- a tuple in the heap with such items -/
def IsK (h : Heap) (v : Value) (l : Ik) : Prop := ∃ a o ys its n, v = .ref a ∧ h.get? a = some o ∧ o.cls = .type "tuple" ∧ o.data = .seq its n ∧ Vals ys its.toList ∧ keyV ys = some l
theorem IsK.keeps {h h' : Heap} {v : Value} {l : Ik} (x : IsK h v l) (k : ∀ b o, v = .ref b → h.get? b = some o → h'.get? b = some o) : IsK h' v l := by
  obtain ⟨a, o, ys, its, n, rfl, h1, h2, h3, h4, h5⟩ := x
  exact ⟨a, o, ys, its, n, rfl, k a o rfl h1, h2, h3, h4, h5⟩
theorem IsK.key {h : Heap} {v : Value} {l : Ik} {shape : Nat → Bool} (x : IsK h v l) (hs : ∀ i b, (shp l)[i]? = some b → shape i = b) : PyProof.Rows.G.tupKeyC h shape v = some l := by
  obtain ⟨a, o, ys, its, n, rfl, h1, h2, h3, h4, h5⟩ := x
  have e := keyV_items (shape := shape) (j := 0) h4 h5 (fun i b q => by rw [Nat.zero_add]; exact hs i b q)
  unfold PyProof.Rows.G.tupKeyC
  have ht : PyProof.Rows.G.isTupObj h (.ref a) = true := by simp [PyProof.Rows.G.isTupObj, h1, h2]
  rw [if_pos ht]
  simp only [PyProof.Rows.tupKey, h1, h3]
  exact e
theorem IsK.tupOf {h : Heap} {v : Value} {l : Ik} {shape : Nat → Bool} (x : IsK h v l) (hs : ∀ i b, (shp l)[i]? = some b → shape i = b) (hl : l ≠ []) : ∃ f, PyProof.Rows.TupOf h shape v f := by
  obtain ⟨a, o, ys, its, n, rfl, h1, h2, h3, h4, h5⟩ := x
  obtain ⟨itl⟩ := its
  cases ys with
  | nil => cases h5; exact absurd rfl hl
  | cons y ys =>
    cases h4 with
    | cons r t =>
      rename_i u us
      refine ⟨u, a, o, ⟨u :: us⟩, n, rfl, h1, h2, h3, rfl, fun q => ?_, fun q => ?_⟩
      · cases y with
        | int k => obtain ⟨tk, rfl⟩ := r; exact ⟨_, _, rfl⟩
        | str z =>
          simp only [keyV] at h5
          cases e : keyV ys with
          | none => rw [e] at h5; cases h5
          | some l' =>
            rw [e] at h5
            cases h5
            have := hs 0 true rfl
            rw [q] at this
            cases this
        | _ => cases h5
      · cases y with
        | str k => obtain ⟨tk, rfl⟩ := r; exact ⟨_, _, rfl⟩
        | int z =>
          simp only [keyV] at h5
          cases e : keyV ys with
          | none => rw [e] at h5; cases h5
          | some l' =>
            rw [e] at h5
            cases h5
            have := hs 0 false rfl
            rw [q] at this
            cases this
        | _ => cases h5
theorem tupsOf_all {h : Heap} {shape : Nat → Bool} : ∀ {vs : List Value}, (∀ v ∈ vs, ∃ f, PyProof.Rows.TupOf h shape v f) → ∃ fs, PyProof.Rows.TupsOf h shape vs fs
  | [], _ => ⟨[], .nil⟩
  | v :: vs, hv => by
    obtain ⟨f, hf⟩ := hv v List.mem_cons_self
    obtain ⟨fs, hfs⟩ := tupsOf_all (vs := vs) fun u hu => hv u (List.mem_cons_of_mem _ hu)
    exact ⟨f :: fs, .cons hf hfs⟩
section
variable {prog : Program} {w : World} {A : Around} {E : Value → Shared → Prop} {s : Shared}
theorem keys_sortable {a : Addr} {vs : List Value} {k : Value → Ik} {sh0 : List Bool} (h2 : 2 ≤ vs.length) (h0 : sh0 ≠ []) (hp : ∀ v ∈ vs, IsK s.heap v (k v) ∧ shp (k v) = sh0) (ha : ∀ o, s.heap.get? a = some o → o.cls ≠ .type "tuple") : SrtO.SortableO prog w A s a vs fun v u => ltI (k v) (k u) := by
  intro h' keep
  have hsh : ∀ v ∈ vs, ∀ i b, (shp (k v))[i]? = some b → sh0.getD i false = b := fun v hv i b q => by
    rw [(hp v hv).2] at q
    rw [List.getD_eq_getElem?_getD, q]
    rfl
  have hp' : ∀ v ∈ vs, IsK h' v (k v) := fun v hv => by
    obtain ⟨x, o, ys, its, n, rfl, q1, q2, q3, q4, q5⟩ := (hp v hv).1
    exact ⟨x, o, ys, its, n, rfl, keep x o (fun z => by subst z; exact ha o q1 q2) q1, q2, q3, q4, q5⟩
  obtain ⟨fs, hfs⟩ := tupsOf_all (h := h') (shape := fun i => sh0.getD i false) (vs := vs) fun v hv => (hp' v hv).tupOf (hsh v hv) (fun z => by
    have := (hp v hv).2
    rw [z] at this
    exact h0 this.symm)
  refine ⟨PyProof.Rows.tuples' true, fun Q E hq => PyProof.Rows.tup_kind (s := { s with heap := h' }) (by rw [PyProof.Rows.G.TupsOf.length hfs]; omega) hfs hq, fun p q hm hm' => ?_⟩
  exact PyProof.Rows.G.tupC_ltAt (s := { s with heap := h' }) (h := h') (shape := fun i => sh0.getD i false) true (PyProof.Rows.G.KeepsTups.refl _) A _ p.1 q.1 (k p.1) (k q.1) ((hp' _ hm).key (hsh _ hm)) ((hp' _ hm').key (hsh _ hm')) ⟨rfl, rfl⟩
end
omit [WD] in
theorem perm_lift {α β : Type} {f : α → β} : ∀ {m : List β} {l : List α}, m.Perm (l.map f) → ∃ l' : List α, l'.Perm l ∧ l'.map f = m
  | [], l, h => by
    have : l.map f = [] := h.symm.eq_nil
    exact ⟨[], by rw [List.map_eq_nil_iff.mp this], rfl⟩
  | b :: m, l, h => by
    obtain ⟨a, ha, e⟩ := List.mem_map.mp (h.mem_iff.mp List.mem_cons_self)
    obtain ⟨l1, l2, rfl⟩ := List.append_of_mem ha
    have h2 : (b :: m).Perm (b :: (l1 ++ l2).map f) := by
      refine h.trans ?_
      rw [List.map_append, List.map_cons, e, List.map_append]
      exact List.perm_middle
    obtain ⟨l', p, q⟩ := perm_lift (m := m) (l := l1 ++ l2) h2.cons_inv
    exact ⟨a :: l', (p.cons a).trans List.perm_middle.symm, by rw [List.map_cons, q, e]⟩
def rSortedK (K : PySem.W.Frag) : List V → Hp → VK → Prop := fun vs H Q => ∃ (a : Addr) (ps : List (V × Ik)) (sh0 : List Bool), vs = [V.ref a] ∧ SqL K H a (ps.map Prod.fst) ∧ sh0 ≠ [] ∧ (∀ p ∈ ps, ∃ t ys, p.1 = V.ref t ∧ SqT K H t ys ∧ keyV ys = some p.2 ∧ shp p.2 = sh0) ∧
  ∀ qs p, qs.Perm ps → SrtO.Srtd (fun x y => ltI x.2 y.2) qs → H p = none → Q (.ref p) (upd H p (.lst (qs.map Prod.fst)))
theorem ps_back {k : Value → Ik} : ∀ {ps : List (V × Ik)} {its : List Value}, Vals (ps.map Prod.fst) its → (∀ p ∈ ps, ∃ t, p.1 = V.ref t ∧ k (.ref t) = p.2) → ps = its.map fun u => (backV u, k u)
  | [], _, .nil, _ => rfl
  | p :: ps, _, .cons r t, h => by
    obtain ⟨x, e1, e2⟩ := h p List.mem_cons_self
    have ih := ps_back t fun q hq => h q (List.mem_cons_of_mem _ hq)
    obtain ⟨v, l⟩ := p
    simp only at e1 e2
    subst e1
    cases (show _ = Value.ref x from r)
    rw [List.map_cons, ← ih, e2]
    rfl
theorem cr_sortedK {X : Cx} : CallR X (.builtin "sorted") (rSortedK X.K) := by
  intro pins s σ H vs us Q I r h
  obtain ⟨a, ps, sh0, rfl, hs, h0, hx, q⟩ := h
  obtain ⟨its, rv, hl, hz⟩ := I.list hs
  obtain ⟨u, rfl, ru⟩ := vals1 r
  obtain rfl : u = Value.ref a := ru
  have hK : ∀ p ∈ ps, ∃ t, p.1 = V.ref t ∧ IsK s.heap (.ref t) p.2 ∧ shp p.2 = sh0 := fun p hp => by
    obtain ⟨t, ys, e, ht, hk, hsh⟩ := hx p hp
    obtain ⟨its2, r2, pl, _⟩ := I.tuple ht
    obtain ⟨o, ho, hc, n, hd⟩ := pl
    exact ⟨t, e, ⟨t, o, ys, its2.toArray, n, rfl, ho, hc, hd, by simpa using r2, hk⟩, hsh⟩
  have hsh : ∀ p ∈ ps, ∀ i b, (shp p.2)[i]? = some b → sh0.getD i false = b := fun p hp i b z => by
    obtain ⟨_, _, _, e⟩ := hK p hp
    rw [e] at z
    rw [List.getD_eq_getElem?_getD, z]
    rfl
  obtain ⟨k, hk⟩ : ∃ k : Value → Ik, k = fun u => (PyProof.Rows.G.tupKeyC s.heap (fun i => sh0.getD i false) u).getD [] := ⟨_, rfl⟩
  have e1 : ps = its.map fun u => (backV u, k u) := ps_back (k := k) rv fun p hp => by
    obtain ⟨t, e, z, _⟩ := hK p hp
    refine ⟨t, e, ?_⟩
    rw [hk]
    simp only [z.key (hsh p hp), Option.getD_some]
  have e2 : ∀ v ∈ its, (∃ t, v = Value.ref t) ∧ IsK s.heap v (k v) ∧ shp (k v) = sh0 := fun v hv => by
    have hm : (backV v, k v) ∈ ps := by rw [e1]; exact List.mem_map.mpr ⟨v, hv, rfl⟩
    obtain ⟨t, e, z, w⟩ := hK _ hm
    cases v with
    | ref y =>
      have e' : V.ref y = V.ref t := e
      cases e'
      exact ⟨⟨t, rfl⟩, z, w⟩
    | _ => cases e
  refine SrtO.sorted_ord (swoI k) hl.isList (by rw [← rv.length]; exact hz) (fun h2 h₁ b hb kk => ?_) fun out hso hb => ?_
  · refine keys_sortable (s := { s with heap := h₁ }) h2 h0 (fun v hm => ⟨(e2 v hm).2.1.keeps fun c o _ e => (kk c o e).2, (e2 v hm).2.2⟩) fun o e => ?_
    have e' : some o = some (seqObj "list" its.toArray 0) := e.symm.trans hb
    cases e'
    intro c
    exact absurd (Value.type.inj c) (by decide)
  · have h3 : ∀ u ∈ out, ∃ a, u = Value.ref a := fun u hu => (e2 u (hb.perm.mem_iff.mp hu)).1
    obtain ⟨n, hn⟩ := sortedAll_at s.heap its out.toArray
    have hpm : (out.map fun u => (backV u, k u)).Perm ps := by
      rw [e1]
      exact hb.perm.map _
    have hm : (out.map fun u => (backV u, k u)).map Prod.fst = out.map backV := by rw [List.map_map]; rfl
    have qq := q (out.map fun u => (backV u, k u)) (s.heap.objs.size + 1) hpm (List.pairwise_map.mpr hso) (I.hok.fresh (Nat.le_succ _))
    rw [hm] at qq
    refine ⟨.ref (s.heap.objs.size + 1), upd H (s.heap.objs.size + 1) (.lst (out.map backV)), I.laid (t' := s.toks) (fun b o e => sortedAll_old e) (Nat.le_succ _) ⟨?_, out, n, vals_back h3, hn⟩, rfl, qq⟩
    rw [List.length_map, hb.perm.length_eq, ← rv.length]
    exact hz
/-! ### sorted of a tuple of texts -/
def rSortTu (K : PySem.W.Frag) : List V → Hp → VK → Prop := fun vs H Q => ∃ a zs, vs = [.ref a] ∧ SqT K H a (zs.map V.str) ∧ zs.length < 64 ∧ ∀ (ys : List Str) (p : Addr), ys.Perm zs → PyProof.Rows.sortedS ys = true → H p = none → Q (.ref p) (upd H p (.lst (ys.map V.str)))
theorem cr_sortTu {X : Cx} : CallR X (.builtin "sorted") (rSortTu X.K) := by
  intro pins s σ H vs us Q I r h
  obtain ⟨a, zs, rfl, hq, hz, q⟩ := h
  obtain ⟨u, rfl, ru⟩ := vals1 r
  obtain rfl : u = Value.ref a := ru
  obtain ⟨its, rv, pl, hsz⟩ := I.tuple hq
  obtain ⟨o, ho, hc, n, hd⟩ := pl
  have hS : PyProof.Rows.StrsAre its zs := strsAre_of rv
  have hal : its.length = zs.length := by rw [← rv.length, List.length_map]
  refine Calls.call_function_entry PyProof.Rows.kind_sorted PyProof.Rows.plain_sorted PyProof.Rows.entry_sorted (PyProof.Rows.args_sorted1 _) ?_
  unfold Builtin.«sorted»
  refine wpAny_bind (m := checkCount "sorted" 1 1 _) (wpAny_pure (wpAny_bind (wpAny_collect_seq a (T := "tuple") (.inr rfl) ho hc hd (fun h2 hk => ?_) (by rw [List.size_toArray, hal, sizeLine_eq]; omega))))
  have J : Inv X pins σ H { s with heap := h2 } := I.kept (t' := s.toks) hk
  refine wpAny_bind (wpAny_newList ?_ (by rw [List.toList_toArray, hal, sizeLine_eq]; omega))
  have hL : (h2.push (seqObj "list" its.toArray 0)).get? h2.objs.size = some (seqObj "list" its.toArray 0) := Heap.get?_push_size _ rfl
  show wpAny _ _ _ _ _ { s with heap := h2.push (seqObj "list" its.toArray 0) }
  refine wpAny_bind (wpAny_holding (wpAny_call_entry PyProof.Rows.slot_list_sort ⟨_, hL, rfl⟩ PyProof.Rows.entry_list_sort
    (list_sort_treeK strKind_oneLt (s := { s with heap := h2.push (seqObj "list" its.toArray 0) }) hL hS.keysOf (fun v1 v2 rest e => keyKind_strs (by rw [← e]; exact hS)) (by rw [hal]; exact hz) fun st hp hs => ⟨_, rfl, ?_⟩) (PyProof.Rows.args_list_sort _)))
  obtain ⟨ys, k1, k2, k3⟩ := sorted_out_str hS hp hs
  obtain ⟨e1, he1⟩ := PyProof.Rows.sortedHeap_at (vs := its) (out := (arrOf st).map (·.2)) hL
  have hlen : (ys.map V.str).length ≤ sizeLine := by rw [List.length_map, k2.length_eq, sizeLine_eq]; omega
  refine wpAny_pure ⟨_, rfl, .ref h2.objs.size, upd H h2.objs.size (.lst (ys.map V.str)), J.laid (t' := s.toks) (fun b u e => ?_) (Nat.le_refl _)
    (show ObjOk X.prog X.w _ _ _ (.lst (ys.map V.str)) from ⟨hlen, ((arrOf st).map (·.2)).toList, e1, vals_of_strs k1, by rw [Array.toArray_toList]; exact he1⟩), rfl, q ys _ k2 k3 (J.hok.fresh (Nat.le_refl _))⟩
  have lb : b < h2.objs.size := Heap.lt_size e
  rw [PyProof.Rows.sortedHeap_old (Nat.ne_of_lt lb) (by rw [size_push']; exact Nat.lt_succ_of_lt lb)]
  exact Heap.get?_push_of_some _ e
/-! ### over data -/
def keyP : List Pd → Option Ik
  | [] => some []
  | .int n :: r => (keyP r).map (Sum.inl n :: ·)
  | .str x :: r => (keyP r).map (Sum.inr x.cps.toList :: ·)
  | _ :: _ => none
def tupK : Pd → Option Ik
  | .tuple ys => keyP ys
  | _ => none
def kOf (d : Pd) : Ik := (tupK d).getD []
omit [WD] in
theorem keyP_inj : ∀ {xs ys : List Pd} {l : Ik}, keyP xs = some l → keyP ys = some l → xs = ys := by
  intro xs
  induction xs with
  | nil =>
    intro ys l h1 h2
    cases h1
    cases ys with
    | nil => rfl
    | cons y ys =>
      cases y with
      | int n => simp only [keyP] at h2; cases e : keyP ys <;> rw [e] at h2 <;> cases h2
      | str n => simp only [keyP] at h2; cases e : keyP ys <;> rw [e] at h2 <;> cases h2
      | _ => cases h2
  | cons x xs ih =>
    intro ys l h1 h2
    cases x with
    | int n =>
      simp only [keyP] at h1
      cases e : keyP xs with
      | none => rw [e] at h1; cases h1
      | some l' =>
        rw [e] at h1
        cases h1
        cases ys with
        | nil => cases h2
        | cons y ys =>
          cases y with
          | int m =>
            simp only [keyP] at h2
            cases e2 : keyP ys with
            | none => rw [e2] at h2; cases h2
            | some l2 =>
              rw [e2] at h2
              have h3 := Option.some.inj h2
              have h4 : m = n := Sum.inl.inj (List.cons.inj h3).1
              have h5 : l2 = l' := (List.cons.inj h3).2
              rw [h4, ih e (by rw [e2, h5])]
          | str m =>
            simp only [keyP] at h2
            cases e2 : keyP ys with
            | none => rw [e2] at h2; cases h2
            | some l2 =>
              rw [e2] at h2
              have h3 := Option.some.inj h2
              cases (List.cons.inj h3).1
          | _ => cases h2
    | str n =>
      simp only [keyP] at h1
      cases e : keyP xs with
      | none => rw [e] at h1; cases h1
      | some l' =>
        rw [e] at h1
        cases h1
        cases ys with
        | nil => cases h2
        | cons y ys =>
          cases y with
          | str m =>
            simp only [keyP] at h2
            cases e2 : keyP ys with
            | none => rw [e2] at h2; cases h2
            | some l2 =>
              rw [e2] at h2
              have h3 := Option.some.inj h2
              have h4 : m.cps.toList = n.cps.toList := Sum.inr.inj (List.cons.inj h3).1
              have h5 : l2 = l' := (List.cons.inj h3).2
              have h6 : m = n := by
                obtain ⟨p⟩ := m
                obtain ⟨q⟩ := n
                have : p = q := Array.ext' h4
                rw [this]
              rw [h6, ih e (by rw [e2, h5])]
          | int m =>
            simp only [keyP] at h2
            cases e2 : keyP ys with
            | none => rw [e2] at h2; cases h2
            | some l2 =>
              rw [e2] at h2
              have h3 := Option.some.inj h2
              cases (List.cons.inj h3).1
          | _ => cases h2
    | _ => cases h1
omit [WD] in
theorem tupK_inj {x y : Pd} {l : Ik} (h1 : tupK x = some l) (h2 : tupK y = some l) : x = y := by
  cases x with
  | tuple xs =>
    cases y with
    | tuple ys => rw [keyP_inj (show keyP xs = some l from h1) (show keyP ys = some l from h2)]
    | _ => cases h2
  | _ => cases h1
theorem keyP_V {K : PySem.W.Frag} {H : Hp} : ∀ {vs : List V} {ds : List Pd} {l : Ik}, RDs K H vs ds → keyP ds = some l → keyV vs = some l
  | _, _, _, .nil, h => h
  | _, _, l, .cons (d := d) (ds := ds) (vs := vs) r t, h => by
    cases d with
    | int n =>
      cases r
      simp only [keyP] at h
      simp only [keyV]
      cases e : keyP ds with
      | none => rw [e] at h; cases h
      | some l' => rw [e] at h; rw [keyP_V t e]; exact h
    | str n =>
      cases r
      simp only [keyP] at h
      simp only [keyV]
      cases e : keyP ds with
      | none => rw [e] at h; cases h
      | some l' => rw [e] at h; rw [keyP_V t e]; exact h
    | _ => cases h
def insT (x : Pd) : List Pd → List Pd
  | [] => [x]
  | y :: r => if ltI (kOf y) (kOf x) = true then y :: insT x r else x :: y :: r
def sortT : List Pd → List Pd
  | [] => []
  | x :: r => insT x (sortT r)
omit [WD] in
theorem insT_perm (x : Pd) : ∀ l, (insT x l).Perm (x :: l)
  | [] => List.Perm.refl _
  | y :: r => by
    unfold insT
    split
    · exact ((insT_perm x r).cons y).trans (List.Perm.swap x y r)
    · exact List.Perm.refl _
omit [WD] in
theorem sortT_perm : ∀ l, (sortT l).Perm l
  | [] => List.Perm.refl _
  | x :: r => (insT_perm x _).trans ((sortT_perm r).cons x)
abbrev leT (x y : Pd) : Prop := ltI (kOf y) (kOf x) = false
omit [WD] in
theorem leT_trans {x y z : Pd} (h1 : leT x y) (h2 : leT y z) : leT x z := (swoI kOf).tr x y z h1 h2
omit [WD] in
theorem insT_sorted (x : Pd) : ∀ {l : List Pd}, l.Pairwise leT → (insT x l).Pairwise leT
  | [], _ => List.pairwise_singleton _ _
  | y :: r, h => by
    unfold insT
    rw [List.pairwise_cons] at h
    split
    · rename_i hxy
      refine List.pairwise_cons.mpr ⟨fun z hz => ?_, insT_sorted x h.2⟩
      rcases List.mem_cons.mp ((insT_perm x r).mem_iff.mp hz) with rfl | hz
      · exact (swoI kOf).asym _ _ hxy
      · exact h.1 z hz
    · rename_i hxy
      have hxy' : leT x y := by simpa using hxy
      refine List.pairwise_cons.mpr ⟨fun z hz => ?_, List.pairwise_cons.mpr h⟩
      rcases List.mem_cons.mp hz with rfl | hz
      · exact hxy'
      · exact leT_trans hxy' (h.1 z hz)
omit [WD] in
theorem sortT_sorted : ∀ l, (sortT l).Pairwise leT
  | [] => .nil
  | x :: r => insT_sorted x (sortT_sorted r)
omit [WD] in
theorem sortT_uniq {xs ys : List Pd} (hk : ∀ x ∈ xs, ∃ l, tupK x = some l) (p : ys.Perm xs) (s : ys.Pairwise leT) : ys = sortT xs := by
  refine List.Perm.eq_of_pairwise (le := leT) (fun a b ha hb h g => ?_) s (sortT_sorted xs) (p.trans (sortT_perm xs).symm)
  obtain ⟨l1, e1⟩ := hk a (p.mem_iff.mp ha)
  obtain ⟨l2, e2⟩ := hk b ((sortT_perm xs).mem_iff.mp hb)
  have h' : ltI l2 l1 = false := by have : ltI (kOf b) (kOf a) = false := h; simpa [kOf, e1, e2] using this
  have g' : ltI l1 l2 = false := by have : ltI (kOf a) (kOf b) = false := g; simpa [kOf, e1, e2] using this
  have : l1 = l2 := (PyProof.Rows.listOrd PyProof.Rows.itemOrd).total _ _ g' h'
  exact tupK_inj e1 (by rw [e2, this])
def sortOk (xs : List Pd) : Bool := match xs with
  | [] => false
  | x :: _ => !(kOf x).isEmpty && xs.all fun y => match tupK y with
    | some l => decide (shp l = shp (kOf x))
    | none => false
def sortedT : List Pd → Option (List Pd)
  | [.list xs] => if sortOk xs = true then some (sortT xs) else sortedD [.list xs]
  | [.tuple xs] => match strsD xs with
    | some ys => if ys.length < 64 then some ((sortS ys).map .str) else none
    | none => none
  | _ => none
abbrev rSortedT (K : PySem.W.Frag) : List V → Hp → VK → Prop := fun vs H Q => rSortedS K vs H Q ∨ rSortTu K vs H Q ∨ rSortedK K vs H Q
theorem kSortedT {X : Cx} (K : PySem.W.Frag) (hK : X.K = K := by rfl) : CallR X (.builtin "sorted") (rSortedT K) := by
  subst hK
  exact cr_sortedS.or (cr_sortTu.or cr_sortedK)
theorem RDs.pairs {K : PySem.W.Frag} {H : Hp} : ∀ {ps : List (V × Pd)}, (∀ p ∈ ps, RD K H p.1 p.2) → RDs K H (ps.map Prod.fst) (ps.map Prod.snd)
  | [], _ => .nil
  | p :: ps, h => .cons (h p List.mem_cons_self) (RDs.pairs fun q hq => h q (List.mem_cons_of_mem _ hq))
theorem RDs.zip {K : PySem.W.Frag} {H : Hp} : ∀ {vs : List V} {ds : List Pd}, RDs K H vs ds → (∀ p ∈ vs.zip ds, RD K H p.1 p.2) ∧ (vs.zip ds).map Prod.fst = vs ∧ (vs.zip ds).map Prod.snd = ds
  | _, _, .nil => ⟨fun p hp => by simp at hp, rfl, rfl⟩
  | _, _, .cons r t => by
    obtain ⟨h1, h2, h3⟩ := RDs.zip t
    refine ⟨fun p hp => ?_, ?_, ?_⟩
    · rw [List.zip_cons_cons] at hp
      rcases List.mem_cons.mp hp with rfl | hp
      · exact r
      · exact h1 p hp
    · rw [List.zip_cons_cons, List.map_cons, h2]
    · rw [List.zip_cons_cons, List.map_cons, h3]
theorem rcl_sortedT {K : PySem.W.Frag} : RCallL K (rSortedT K) sortedT := by
  intro Hf H vs xs z e hx h Q q
  unfold sortedT at h
  split at h
  · rename_i us
    split at h
    · rename_i hok
      cases h
      obtain ⟨v, rfl, hv⟩ := hx.one
      obtain ⟨l, ws, rfl, t, r⟩ := hv.list e
      obtain ⟨z1, z2, z3⟩ := r.zip
      unfold sortOk at hok
      cases us with
      | nil => cases hok
      | cons x us =>
        simp only [Bool.and_eq_true] at hok
        have hk : ∀ y ∈ x :: us, ∃ l, tupK y = some l ∧ shp l = shp (kOf x) := fun y hy => by
          have := List.all_eq_true.mp hok.2 y hy
          cases ek : tupK y with
          | none => rw [ek] at this; cases this
          | some l => rw [ek] at this; exact ⟨l, rfl, of_decide_eq_true this⟩
        refine .inr (.inr ⟨l, (ws.zip (x :: us)).map fun p => (p.1, kOf p.2), shp (kOf x), rfl, ?_, ?_, fun p hp => ?_, fun qs p pm so np => ?_⟩)
        · rw [List.map_map]
          have : (Prod.fst ∘ fun p : V × Pd => (p.1, kOf p.2)) = Prod.fst := rfl
          rw [this, z2]
          exact t
        · intro z
          have : kOf x = [] := by simpa [shp] using z
          rw [this] at hok
          simp at hok
        · obtain ⟨⟨v, d⟩, hm, rfl⟩ := List.mem_map.mp hp
          have hd : d ∈ x :: us := by rw [← z3]; exact List.mem_map.mpr ⟨(v, d), hm, rfl⟩
          obtain ⟨l, ek, es⟩ := hk d hd
          have rv : RD K Hf v d := z1 _ hm
          have eo : kOf d = l := by simp [kOf, ek]
          cases d with
          | tuple ds =>
            cases rv with
            | tup hT hs => exact ⟨_, _, rfl, ex_t e hT.sq, by show keyV _ = some (kOf _); rw [eo]; exact keyP_V hs ek, by show shp (kOf _) = _; rw [eo]; exact es⟩
          | _ => cases ek
        · obtain ⟨l', pm', rfl⟩ := perm_lift pm
          have hz : l'.map Prod.snd = sortT (x :: us) := by
            refine sortT_uniq (fun y hy => ?_) ?_ ?_
            · obtain ⟨l, ek, _⟩ := hk y hy; exact ⟨l, ek⟩
            · have := pm'.map Prod.snd
              rwa [z3] at this
            · have so' : List.Pairwise (fun x y : V × Ik => ltI y.2 x.2 = false) (l'.map fun p => (p.1, kOf p.2)) := so
              have s2 := List.pairwise_map.mp so'
              exact List.pairwise_map.mpr s2
          have rr : RDs K Hf (l'.map Prod.fst) (l'.map Prod.snd) := RDs.pairs fun p hp => z1 p (pm'.mem_iff.mp hp)
          rw [hz] at rr
          have em : (l'.map fun p => (p.1, kOf p.2)).map Prod.fst = l'.map Prod.fst := by rw [List.map_map]; rfl
          rw [em]
          exact q p _ _ (e.trans (Ex.new np)) (Ex.new np) np upd_same rr
    · exact .inl (rcl_sorted Hf H vs _ z e hx h Q q)
  · rename_i us
    split at h
    · rename_i ys es
      split at h
      · rename_i hl
        cases h
        obtain ⟨v, rfl, hv⟩ := hx.one
        obtain ⟨l, ws, rfl, _, t, r⟩ := hv.tuple e
        obtain rfl := strs_ok r es
        refine .inr (.inl ⟨l, ys, rfl, t, hl, fun zs p pm so np => ?_⟩)
        rw [sorted_unique pm so]
        exact q p _ _ (e.trans (Ex.new np)) (Ex.new np) np upd_same (RDs.strs _)
      · cases h
    · cases h
  · cases h
end Dt
namespace Dt
open PySem PySem.Spec L2 Evl PyProof.Rows
variable [WD]
open PySem.AutoSeq1 (wpAny_loadPart')
/-! ### isinstance(e, (A, B, ..)) of a kept exception -/
def rIsTT (K : PySem.W.Frag) : List V → Hp → VK → Prop := fun xs H Q => ∃ (a D : Addr) (d : Option Addr) (tp : Addr) (cs : List V) (us : List Value) (b : Bool), xs = [.ref a, .ref tp] ∧ H a = some (ExN (.ref D) d a) ∧ (∀ dd, d = some dd → ∃ fs, H dd = some (.xd fs)) ∧ XcC K D ∧
  H tp = some (.tup cs) ∧ Paired ClsV cs us ∧ PySem.W.kitAny K (.ref D) us = some b ∧ Q (.bl b) H
theorem call_isTT {X : Cx} : CallR X (.builtin "isinstance") (rIsTT X.K) := by
  intro pins s σ H xs us Q I r h
  obtain ⟨a, D, d, tp, cs, ws, b, rfl, hH, hdx, C, hT, k, e, q⟩ := h
  obtain ⟨u1, u2, rfl, r1, r2⟩ := vals2 r
  cases (show u1 = Value.ref a from r1)
  cases (show u2 = Value.ref tp from r2)
  obtain ⟨⟨oe, vs, hget, hz, hv⟩, _, _⟩ := I.hok a _ hH
  have J : ∃ od, PySem.W.InstAt s.heap a oe D od := by
    obtain ⟨oc, od, oda, osl⟩ := oe
    obtain ⟨h1, h2⟩ := hz
    dsimp only at h1 h2 hv
    subst h1 h2 hv
    cases od with
    | none => exact ⟨none, hget, rfl, rfl, trivial⟩
    | some dd =>
      obtain ⟨fs, hf⟩ := hdx dd rfl
      obtain ⟨mA, hns, _⟩ := I.hok dd _ hf
      obtain ⟨o, _, _, ho, _⟩ := id hns
      exact ⟨some o, hget, rfl, rfl, ho⟩
  obtain ⟨od, J⟩ := J
  obtain ⟨_, its, rv, o, h1, h2, n, h3⟩ := (show ObjOk X.prog X.w H s.heap tp (.tup cs) from I.hok tp _ hT)
  have e3 := ClsV.all k rv
  subst e3
  obtain ⟨oc, od2, dt, sl⟩ := o
  simp only at h2 h3
  subst h2 h3
  exact PySem.W.kia_tup (PySem.W.kitx_exc C.cl C.hg C.hk C.hs C.ha C.hn C.ht C.hm) I.kIn J h1 e (fun z => nomatch z) fun tk => ⟨.bl b, H, I.kept (t' := tk) fun _ _ z => z, rfl, q⟩
theorem kIsTT {X : Cx} (K : PySem.W.Frag) (hK : X.K = K := by rfl) : CallR X (.builtin "isinstance") (rIsTT K) := by subst hK; exact call_isTT
def tCs : List V → TA
  | [] => tNil
  | c :: cs => tCons (tC c) (tCs cs)
theorem tCs_run {σ : L2.St} {H : Hp} : ∀ (cs : List V) {Q : List V → Hp → Prop}, Q cs H → tCs cs σ H Q
  | [], _, q => q
  | c :: cs, Q, q => tCs_run cs (Q := fun xs H2 => Q (c :: xs) H2) q
def sbAny (sb : Str → Str → Option Bool) (n : Str) : List Str → Option Bool
  | [] => some false
  | c :: r => match sb c n with
    | some true => some true
    | some false => sbAny sb n r
    | none => none
theorem sbAny_ok {K : PySem.W.Frag} {sb : Str → Str → Option Bool} {n : Str} : ∀ {cs : List Str} {b : Bool}, (∀ c ∈ cs, ∀ b, sb c n = some b → PySem.W.kitOne K (.ref (cA K n)) (.ref (cA K c)) = some b) → sbAny sb n cs = some b →
    PySem.W.kitAny K (.ref (cA K n)) (cs.map fun c => .ref (cA K c)) = some b
  | [], b, _, h => by cases h; rfl
  | c :: cs, b, hs, h => by
    simp only [sbAny] at h
    cases e : sb c n with
    | none => rw [e] at h; cases h
    | some t =>
      rw [e] at h
      refine kitAny_cons (hs c List.mem_cons_self t e) (fun ht => ?_) (fun ht => ?_)
      · subst ht
        exact sbAny_ok (fun c' hc => hs c' (List.mem_cons_of_mem _ hc)) h
      · subst ht
        cases h
        rfl
omit [WD] in
theorem all_in {cs ts : List Str} (h : cs.all (fun c => decide (c ∈ ts)) = true) : ∀ c ∈ cs, decide (c ∈ ts) = true := fun c hc => List.all_eq_true.mp h c hc
theorem paired_cls {K : PySem.W.Frag} : ∀ cs : List Str, Paired ClsV (cs.map fun c => V.ref (cA K c)) (cs.map fun c => Value.ref (cA K c))
  | [] => .nil
  | _ :: cs => .cons (.own _) (paired_cls cs)
section
variable {Z : Zx} {W : WX}
theorem d_isXT {i : Nat} {sb : Str → Str → Option Bool} {c0 : Str} {cs : List Str} (hz : (c0 :: cs).length ≤ sizeLine) (hsub : ∀ c ∈ c0 :: cs, ∀ n b, sb c n = some b → XcC Z.K (cA Z.K n) ∧ PySem.W.kitOne Z.K (.ref (cA Z.K n)) (.ref (cA Z.K c)) = some b) :
    DE Z W (tCB (rIsTT Z.K) (tCons (tVar i) (tCons (tTup (tCs ((c0 :: cs).map fun c => V.ref (cA Z.K c)))) tNil))) (fIsX (fun n => sbAny sb n (c0 :: cs)) i) := by
  intro Hf H O σ ρ s Q p
  unfold fIsX at p
  cases e0 : ρ[i]? with
  | none => rw [e0] at p; exact p.elim
  | some z =>
    rw [e0] at p
    cases z with
    | no => exact p.elim
    | d _ => exact p.elim
    | own _ _ => exact p.elim
    | m _ _ => exact p.elim
    | x e =>
      simp only at p
      cases es : sbAny sb e.c (c0 :: cs) with
      | none => rw [es] at p; exact p.elim
      | some b =>
        rw [es] at p
        have hx : XcC Z.K (cA Z.K e.c) := by
          simp only [sbAny] at es
          cases e1 : sb c0 e.c with
          | none => rw [e1] at es; cases es
          | some t => exact (hsub c0 List.mem_cons_self _ _ e1).1
        have hk := sbAny_ok (K := Z.K) (fun c hc b hb => (hsub c hc _ b hb).2) es
        obtain ⟨a, h1, h2⟩ := s.exc i e e0
        refine ⟨.ref a, h1, tCs_run (Q := fun xs H1 => xs.length ≤ sizeLine ∧ ∀ p, H1 p = none → _) _ ⟨by rw [List.length_map]; exact hz, fun tp np => ?_⟩⟩
        have gL : Pg Hf H Hf (upd H tp (.tup ((c0 :: cs).map fun c => V.ref (cA Z.K c)))) := Pg.lay s.ex np
        have q := p Hf _ (s.grow gL) gL.gr Kp.refl (.bl b) (RD.bl b)
        unfold XH at h2
        cases efs : e.fs with
        | none =>
          rw [efs] at h2
          exact ⟨a, _, none, tp, _, _, b, rfl, gL.ex _ _ h2, (fun dd z => by cases z), hx, upd_same, paired_cls _, hk, q⟩
        | some fs =>
          rw [efs] at h2
          obtain ⟨dd, vs, h3, h4, h5⟩ := h2
          exact ⟨a, _, some dd, tp, _, _, b, rfl, gL.ex _ _ h3, (fun d' z => by cases z; exact ⟨vs, gL.ex _ _ h4⟩), hx, upd_same, paired_cls _, hk, q⟩
end
/-! ### t < u of tuples of ints -/
def ltE : Pd → Pd → Option Pd
  | .tuple xs, .tuple ys => match intsD xs, intsD ys with
    | some ns, some ms => some (.bool (HT.lexLt ns ms))
    | _, _ => none
  | d, e => ltD d e
abbrev rLtE (K : PySem.W.Frag) : R2 := fun x y H Q => rLtA x y H Q ∨ rLtT K x y H Q
theorem kLtE {X : Cx} (K : PySem.W.Frag) (hu : X.A.units + 64 < cLine) (hK : X.K = K := by rfl) : OpR X (compareOp .Lt) (rLtE K) := by
  subst hK
  exact opLt.or (op_ltT (Nat.lt_of_le_of_lt (Nat.le_add_right ..) hu))
theorem ro_ltE {K : PySem.W.Frag} : ROp K (rLtE K) ltE := by
  intro Hf H x y dx dy z e hx hy h Q q
  unfold ltE at h
  split at h
  · rename_i xs ys
    split at h
    · rename_i ns ms e1 e2
      cases h
      obtain ⟨l, ws, rfl, _, t, r⟩ := hx.tuple e
      obtain ⟨l2, ws2, rfl, _, t2, r2⟩ := hy.tuple e
      obtain rfl := ints_ok r e1
      obtain rfl := ints_ok r2 e2
      exact .inr ⟨l, l2, ns, ms, rfl, rfl, t, t2, q _ Hf H (Pg.refl e) (.bl _)⟩
    · cases h
  · exact .inl (ro_lt Hf H x y dx dy z e hx hy h Q q)
/-! ### t.index(x) of a tuple of texts -/
section
variable {Z : Zx} {W : WX}
def fTM (h : Pd → List Pd → Option Pd) (fo : Rho → R AV) (fa : Rho → R (List AV)) : Rho → R AV := fun ρ => (fo ρ).bind fun o ρ1 => match res ρ1 o with
  | some (.tuple ts) => (fa ρ1).bind fun as ρ2 => match ress ρ2 as with
      | some xs => match h (.tuple ts) xs with
        | some z => .ok (.d z) ρ2
        | none => .bad
      | none => .bad
  | _ => .bad
theorem d_tm {to : TE} {t : TA} {fo : Rho → R AV} {fa : Rho → R (List AV)} {r : V → List V → Hp → VK → Prop} {h : Pd → List Pd → Option Pd} (hr : RMt Z.K "tuple" r h) (ho : DE Z W to fo) (ha : DA Z W t fa) : DE Z W (tTM Z.K r to t) (fTM h fo fa) := by
  intro Hf H O σ ρ s Q p
  refine ho.bind s p fun o ρ1 x Hf1 H1 s1 g1 k1 rx p1 => ?_
  cases e0 : res ρ1 o with
  | none => rw [e0] at p1; exact p1.elim
  | some d0 =>
    rw [e0] at p1
    cases d0 with
    | tuple ts =>
      simp only at p1
      obtain ⟨l, vs0, rfl, hN, hT, hR⟩ := (res_ok s1 rx e0).tuple s1.ex
      refine ⟨⟨l, vs0, rfl, ex_n s1.ex hN⟩, ?_⟩
      refine ha.bind s1 p1 fun as ρ2 vs Hf2 H2 s2 g2 k2 rs p2 => ?_
      cases e2 : ress ρ2 as with
      | none => rw [e2] at p2; exact p2.elim
      | some xs =>
        rw [e2] at p2
        simp only at p2
        cases ez : h (.tuple ts) xs with
        | none => rw [ez] at p2; exact p2.elim
        | some z =>
          rw [ez] at p2
          exact hr Hf2 H2 _ vs _ xs z s2.ex (.inl ((RD.tup hN hR).mono g2.ex)) (ress_ok s2 rs e2) ez Q fun v Hf' H' g rv => p2 Hf' H' (s2.grow g) g.gr Kp.refl v rv
    | _ => exact p1.elim
end
def indexT : Pd → List Pd → Option Pd
  | .tuple xs, [.str z] => match strsD xs with
    | some ys => (ys.findIdx? fun y => decide (y = z)).map fun j => .int (j : Nat)
    | none => none
  | _, _ => none
def rTIx (K : PySem.W.Frag) : V → List V → Hp → VK → Prop := fun x xs H Q => ∃ p, ∃ ys : List Str, ∃ z j, x = .ref p ∧ xs = [.str z] ∧ SqT K H p (ys.map V.str) ∧ ys[j]? = some z ∧ (∀ m, m < j → ys[m]? ≠ some z) ∧ Q (.int (j : Nat)) H
theorem kTIx {X : Cx} (K : PySem.W.Frag) (hK : X.K = K := by rfl) : MtR X "tuple.index" (rTIx K) := by subst hK; exact mt_tup_index
theorem pe_tmK {X : Cx} (K : PySem.W.Frag) {o e : Expr} {es : List Expr} {to : TE} {t : TA} {name : Str} {apos cpos : Pos} {id : String} {r : V → List V → Hp → VK → Prop} (slot : Slot "tuple" name id) (hty : typeOf (.builtin id) = pure (.type "method_descriptor")) (hm : MtR X id r) (ho : PE X o to) (ha : PA X (e :: es) t) (hK : X.K = K := by rfl)
    (hbase : attributeBase o name X.env (eval o X.env) = eval o X.env := by rfl)
    (hfew : ((backTo cpos (starEach (e :: es) X.env)).all (fun x => !x.1) && (backToKw cpos (keywordEach [] X.env)).all (fun x => x.1.isSome) && decide ((e :: es).length + ([] : List Keyword).length + (if ([] : List Keyword).isEmpty then 0 else 1) < 30)) = true := by rfl)
    (hline : (apos.endLine == cpos.line) = true := by rfl) (hs : starEach (e :: es) X.env = (false, eval e X.env) :: starEach es X.env := by rfl) (hplain : (backTo cpos (starEach es X.env)).any (·.1) = false := by rfl) :
    PE X (.Call (.Attribute o name apos) (e :: es) [] cpos) (tTM K r to t) := by
  subst hK
  exact pe_tm slot hty hm ho ha hbase hfew hline hs hplain
theorem rm_tix {K : PySem.W.Frag} : RMt K "tuple" (rTIx K) indexT := by
  intro Hf H x vs dx xs z e hx hs h Q q
  unfold indexT at h
  split at h
  · rename_i ts y
    split at h
    · rename_i ys es
      cases ef : ys.findIdx? fun w => decide (w = y) with
      | none => rw [ef] at h; cases h
      | some j =>
        rw [ef] at h
        cases h
        obtain ⟨v, rfl, hv⟩ := hs.one
        obtain rfl := hv.str
        obtain ⟨l, ws, rfl, _, t, r⟩ := hx.tuple e
        obtain rfl := strs_ok r es
        obtain ⟨hj, h1, h2⟩ := List.findIdx?_eq_some_iff_getElem.mp ef
        refine ⟨l, ys, y, j, rfl, rfl, t, ?_, fun m hm => ?_, q _ Hf H (Pg.refl e) (.int _)⟩
        · rw [List.getElem?_eq_getElem hj, of_decide_eq_true h1]
        · have hml : m < ys.length := Nat.lt_trans hm hj
          rw [List.getElem?_eq_getElem hml]
          intro z
          have := h2 m hm
          simp [Option.some.inj z] at this
    · cases h
  · cases h
/-! ### a dict is none of some tuples -/
theorem tuple_eq_dict (b : Addr) (items : Array Value) (n : Nat) (dd2 : Option Addr) (sl2 : Array (Option Value)) (l : Addr) (es : Array DictEntry) (ep : Nat) (dd : Option Addr) (sl : Array (Option Value)) :
    Meets (Builtin.«tuple.__eq__» ⟨[.ref b, .ref l], []⟩) (fun _ R s => s.heap.get? b = some { cls := .type "tuple", dict := dd2, data := .seq items n, slots := sl2 } ∧ s.heap.get? l = some { cls := .type "dict", dict := dd, data := .dict es ep, slots := sl } ∧ R (.ok (.ret .notImplemented)) s) :=
  .of_wp fun prog w A R s h => by obtain ⟨hp, g, d, tk, os⟩ := s; obtain ⟨hb, hl, h⟩ := h; wp_walk using wpAny_loadPart' hb, wpAny_load hb, wpAny_loadPart' hl, wpAny_load hl; exact wpAny_of_eq PySem.F.sub_dict_tuple (by wp_walk; exact ⟨_, rfl, h⟩)
theorem EqAt.tuple_dict {X : Cx} {pins : List (Addr × Obj)} {σ : L2.St} {H : Hp} {s : Shared} {A : Around} {l a : Addr} {items : Array Value} {oo : Obj} {kvs : List (Key × V)} (I : Inv X pins σ H s) (hl : s.heap.IsTuple l items) (ea : H a = some (.frz oo (.dK kvs))) (hu : A.units < cLine) : SeqAt.EqAt A s (.ref l) (.ref a) false := fun prog w E Q h => by
  obtain ⟨⟨cls2, dd2, data2, sl2⟩, ho2, hc2, n, hd2⟩ := id hl
  simp only at hc2 hd2
  subst hc2 hd2
  obtain ⟨_, _, _, _, ep0, vs0, _, _, _, hm⟩ := I.frzK ea
  have da : s.heap.DictOf (mixKind X.prog X.w) a vs0 := by
    obtain ⟨o', es', ho', hx', hd', r'⟩ := hm
    exact ⟨o', es', ep0, ho', hx', hd', r'⟩
  obtain ⟨⟨cls, dd, data, sl⟩, es, ep, ho, hx, hd, _⟩ := id da
  have hd' : data = .dict es ep := hd
  subst hd'
  have hc : cls = .type "dict" := by
    obtain ⟨o', h1, h2⟩ := da.typeIs
    rw [ho] at h1
    cases h1
    exact h2
  subst hc
  have hne : l ≠ a := by
    intro z
    subst z
    rw [ho] at ho2
    have := congrArg Obj.cls (Option.some.inj ho2)
    exact absurd (Value.type.inj this) (by decide)
  unfold eqBool
  refine wpAny_holding ?_
  refine wpAny_ite_split (fun hab => absurd (Value.ref.inj (eq_of_beq hab)) hne) (fun _ => ?_)
  refine wpAny_bind ?_
  refine SeqAt.rc_eq_decline_or (k := false) ⟨_, ho2, rfl⟩ da.typeIs (by decide) F.sub_dict_tuple F.slot_tuple_eq F.slot_dict_eq_refl
    (fun _ hq => call_meets F.slot_tuple_eq ⟨_, ho2, rfl⟩ F.entry_tuple_eq (F.args_tuple_eq_2 _ _) (tuple_eq_dict l items n dd2 sl2 a es ep dd sl) ⟨ho2, ho, hq⟩)
    (fun _ hq => wpAny_call_entry PySem.F.slot_dict_eq da.typeIs PySem.F.entry_dict_eq ?_ (PySem.F.args_dict_eq_2 _ _))
    (fun _ hq => SeqAt.wpAny_isSame_ref_other' hne ho2 ho (by simp) hq) (.inr hu) (wpAny_truthy_bool h)
  · show wpAny _ _ (Builtin.Dict.dictSlotArgs "__eq__" ⟨[.ref a, .ref l], []⟩ >>= _) _ _ s
    refine wpAny_bind ?_
    unfold Builtin.Dict.dictSlotArgs
    refine wpAny_bind (wpAny_notOrdered_dict da.typeIs ?_)
    show wpAny _ _ (pure (Value.ref a, Value.ref l)) _ _ s
    refine wpAny_pure ?_
    refine wpAny_bind (wpAny_isInstance (T := "tuple") ⟨_, ho2, rfl⟩ PySem.F.sub_tuple_dict ?_)
    simp only [Bool.not_false, if_true]
    refine wpAny_bind (wpAny_rule ?_)
    exact wpAny_pure ⟨_, rfl, hq⟩
/-- a dict is looked for among tuples -/
def rInDc (K : PySem.W.Frag) (n : Bool) : R2 := fun x y H Q => ∃ a oo kvs l ys, x = .ref a ∧ y = .ref l ∧ H a = some (.frz oo (.dK kvs)) ∧ SqT K H l ys ∧ (∀ y ∈ ys, ∃ t zs, y = V.ref t ∧ SqT K H t zs) ∧ Q (.bl n) H
theorem vals_mem {vs : List V} {us : List Value} (r : Vals vs us) : ∀ u ∈ us, ∃ v ∈ vs, RelV v u := by
  induction r with
  | nil => intro u hu; cases hu
  | cons r t ih =>
    intro u hu
    rcases List.mem_cons.mp hu with rfl | hu
    · exact ⟨_, List.mem_cons_self, r⟩
    · obtain ⟨v, hv, h⟩ := ih u hu; exact ⟨v, List.mem_cons_of_mem _ hv, h⟩
theorem inDc_all {X : Cx} {pins : List (Addr × Obj)} {σ : L2.St} {H : Hp} {s : Shared} {a : Addr} {oo : Obj} {kvs : List (Key × V)} {ys : List V} {its : List Value} (I : Inv X pins σ H s) (ea : H a = some (.frz oo (.dK kvs))) (r : Vals ys its) (hy : ∀ y ∈ ys, ∃ t zs, y = V.ref t ∧ SqT X.K H t zs) (hu : X.A.units + 1 < cLine) :
    ∀ y, y ∈ its.toArray → SeqAt.EqAt X.A.in1 s y (.ref a) false := fun y hm => by
  obtain ⟨v, hv, rv⟩ := vals_mem r y (by simpa using hm)
  obtain ⟨t, zs, rfl, ht⟩ := hy v hv
  obtain rfl : y = Value.ref t := rv
  obtain ⟨its2, r2, pl2, _⟩ := I.tuple ht
  exact EqAt.tuple_dict I pl2 ea hu
theorem op_inDc {X : Cx} (hu : X.A.units + 1 < cLine) : OpR X (compareOp .In) (rInDc X.K false) := by
  intro pins s σ H x y v u Q I rx ry h
  obtain ⟨a, oo, kvs, l, ys, rfl, rfl, ea, hl, hy, q⟩ := h
  obtain rfl : v = Value.ref a := rx
  obtain rfl : u = Value.ref l := ry
  obtain ⟨its, r, pl, _⟩ := I.tuple hl
  exact SeqAt.in_tupleAt (fun _ => false) pl (inDc_all I ea r hy hu) (by
    have : its.toArray.any (fun _ => false) = false := by simp
    rw [this]
    exact ⟨.bl false, H, I, rfl, q⟩)
theorem op_notInDc {X : Cx} (hu : X.A.units + 1 < cLine) : OpR X (compareOp .NotIn) (rInDc X.K true) := by
  intro pins s σ H x y v u Q I rx ry h
  obtain ⟨a, oo, kvs, l, ys, rfl, rfl, ea, hl, hy, q⟩ := h
  obtain rfl : v = Value.ref a := rx
  obtain rfl : u = Value.ref l := ry
  obtain ⟨its, r, pl, _⟩ := I.tuple hl
  exact SeqAt.notIn_tupleAt (fun _ => false) pl (inDc_all I ea r hy hu) (by
    have : its.toArray.any (fun _ => false) = false := by simp
    rw [this]
    exact ⟨.bl true, H, I, rfl, q⟩)
def isTup : Pd → Bool
  | .tuple _ => true
  | _ => false
def inE : Pd → Pd → Option Pd
  | .dict _, .tuple xs => if xs.all isTup = true then some (.bool false) else none
  | d, e => inD d e
def notInE : Pd → Pd → Option Pd
  | .dict _, .tuple xs => if xs.all isTup = true then some (.bool true) else none
  | d, e => notInD d e
abbrev rInE (K : PySem.W.Frag) : R2 := fun x y H Q => rInA K x y H Q ∨ rInDc K false x y H Q
abbrev rNotInE (K : PySem.W.Frag) : R2 := fun x y H Q => rNotInA K x y H Q ∨ rInDc K true x y H Q
theorem kInE {X : Cx} (K : PySem.W.Frag) (hu : X.A.units + 65 < cLine) (hK : X.K = K := by rfl) : OpR X (compareOp .In) (rInE K) := by
  subst hK
  exact (opIn hu).or (op_inDc (by omega))
theorem kNotInE {X : Cx} (K : PySem.W.Frag) (hu : X.A.units + 65 < cLine) (hK : X.K = K := by rfl) : OpR X (compareOp .NotIn) (rNotInE K) := by
  subst hK
  exact (opNotIn hu).or (op_notInDc (by omega))
theorem RDs.tups {K : PySem.W.Frag} {Hf H : Hp} (e : Ex Hf H) : ∀ {vs : List V} {ds : List Pd}, RDs K Hf vs ds → ds.all isTup = true → ∀ y ∈ vs, ∃ t zs, y = V.ref t ∧ SqT K H t zs
  | _, _, .nil, _ => fun y hy => by cases hy
  | _, _, .cons (d := d) r t, h => fun y hy => by
    simp only [List.all_cons, Bool.and_eq_true] at h
    rcases List.mem_cons.mp hy with rfl | hy
    · cases d with
      | tuple ds => cases r with
        | tup hN _ => exact ⟨_, _, rfl, ex_t e hN.sq⟩
      | _ => cases h.1
    · exact RDs.tups e t h.2 y hy
theorem inDc_ok {K : PySem.W.Frag} {Hf H : Hp} {x y : V} {ks : List (Pd × Pd)} {xs : List Pd} (e : Ex Hf H) (hx : RX K Hf H x (.dict ks)) (hy : RX K Hf H y (.tuple xs)) (h : xs.all isTup = true) {n : Bool} {Q : VK} (q : Q (.bl n) H) : rInDc K n x y H Q := by
  obtain ⟨l, ws, rfl, _, t, r⟩ := hy.tuple e
  rcases hx with hx | ⟨_, _, _, _, q', _⟩
  · cases hx with
    | dct hh _ => exact ⟨_, _, _, l, ws, rfl, rfl, e _ _ hh, t, RDs.tups e r h, q⟩
  · cases q'
theorem ro_inE {K : PySem.W.Frag} : ROp K (rInE K) inE := by
  intro Hf H x y dx dy z e hx hy h Q q
  unfold inE at h
  split at h
  · split at h
    · rename_i ha
      cases h
      exact .inr (inDc_ok e hx hy ha (q _ Hf H (Pg.refl e) (.bl _)))
    · cases h
  · exact .inl (ro_in Hf H x y dx dy z e hx hy h Q q)
theorem ro_notInE {K : PySem.W.Frag} : ROp K (rNotInE K) notInE := by
  intro Hf H x y dx dy z e hx hy h Q q
  unfold notInE at h
  split at h
  · split at h
    · rename_i ha
      cases h
      exact .inr (inDc_ok e hx hy ha (q _ Hf H (Pg.refl e) (.bl _)))
    · cases h
  · exact .inl (ro_notIn Hf H x y dx dy z e hx hy h Q q)
end Dt
/-! dicts whose keys are tuples (of whole numbers, texts, None, tuples): read, stored to -/
namespace Dt
open PySem PySem.Spec L2 Evl PyProof.Rows
variable [WD]
mutual
/-- the value v is the key k -/
inductive NkIs (K : PySem.W.Frag) (H : Hp) : NestedKey → V → Prop
  | non : NkIs K H .none .non
  | num (i : Int) : NkIs K H (.num i) (.int i)
  | text (x : Str) : NkIs K H (.text x) (.str x)
  | tup {a : Addr} {xs : List V} {ks : List NestedKey} (h : SqT K H a xs) (hs : NkAll K H ks xs) : NkIs K H (.tup ks) (.ref a)
inductive NkAll (K : PySem.W.Frag) (H : Hp) : List NestedKey → List V → Prop
  | nil : NkAll K H [] []
  | cons {k : NestedKey} {v : V} {ks : List NestedKey} {vs : List V} (h : NkIs K H k v) (hs : NkAll K H ks vs) : NkAll K H (k :: ks) (v :: vs)
end
mutual
theorem nk_inv {X : Cx} {pins : List (Addr × Obj)} {σ : L2.St} {H : Hp} {s : Shared} (I : Inv X pins σ H s) : ∀ {k : NestedKey} {v : V} {u : Value}, NkIs X.K H k v → RelV v u → NestedIs s.heap k u
  | _, _, _, .non, r => by cases r; exact .none
  | _, _, _, .num i, r => by obtain ⟨t, rfl⟩ := r; exact .int i t
  | _, _, _, .text x, r => by obtain ⟨t, rfl⟩ := r; exact .text x t
  | _, _, _, .tup h hs, r => by
    cases r
    obtain ⟨its, rv, ⟨o, h1, h2, n, h3⟩, _⟩ := I.tuple h
    exact .tup h1 h2 h3 (by simpa using nks_inv I hs rv)
theorem nks_inv {X : Cx} {pins : List (Addr × Obj)} {σ : L2.St} {H : Hp} {s : Shared} (I : Inv X pins σ H s) : ∀ {k : List NestedKey} {v : List V} {u : List Value}, NkAll X.K H k v → Vals v u → NestedAll s.heap k u
  | _, _, _, .nil, r => by cases r; exact .nil
  | _, _, _, .cons h hs, r => by
    cases r with
    | cons r1 r2 => exact .cons (nk_inv I h r1) (nks_inv I hs r2)
end
mutual
theorem rd_nk {K : PySem.W.Frag} {Hf H : Hp} (e : Ex Hf H) : ∀ {k : NestedKey} {v : V}, RD K Hf v k.data → NkIs K H k v
  | .none, _, h => by
    simp only [NestedKey.data] at h
    cases h; exact .non
  | .num i, _, h => by
    simp only [NestedKey.data] at h
    cases h; exact .num i
  | .text x, _, h => by
    simp only [NestedKey.data] at h
    cases h; exact .text x
  | .tup ks, _, h => by
    simp only [NestedKey.data] at h
    cases h with
    | tup hN hs => exact .tup (ex_t e hN.sq) (rds_nk e hs)
theorem rds_nk {K : PySem.W.Frag} {Hf H : Hp} (e : Ex Hf H) : ∀ {ks : List NestedKey} {vs : List V}, RDs K Hf vs (NestedKey.datas ks) → NkAll K H ks vs
  | [], _, h => by
    simp only [NestedKey.datas] at h
    cases h; exact .nil
  | k :: ks, _, h => by
    simp only [NestedKey.datas] at h
    cases h with
    | cons h1 h2 => exact .cons (rd_nk e h1) (rds_nk e h2)
end
/-! ### such a dict in a state -/
abbrev Ent := NestedKey × Addr × Value
/-- every entry's key is one -/
def KsN (K : PySem.W.Frag) (H : Hp) (xs : List Ent) : Prop := ∀ x ∈ xs, NkIs K H x.1 (.ref x.2.1)
section
variable {X : Cx} {pins : List (Addr × Obj)} {σ : L2.St} {H : Hp} {s : Shared} {a b : Addr} {xs : List Ent} {k : NestedKey}
theorem dn_of (I : Inv X pins σ H s) (e : H a = some (DkN a xs)) (ks : KsN X.K H xs) : (a == sysModules) = false ∧ xs.length ≤ sizeLine ∧ s.heap.DictOfH (nestedKind WD.P WD.w) a xs ∧ ∀ x ∈ xs, x.1.depth ≤ 8 := by
  obtain ⟨⟨h1, h2, h3, h4, o, es, ep, h5, h6, h7, h8⟩, _, _⟩ := I.hok a _ e
  exact ⟨h1, h2, ⟨o, es, ep, h5, h6, h7, h8, fun x hx => ⟨nk_inv I (ks x hx) rfl, h4 x hx⟩, h3⟩, h4⟩
theorem dn_is (I : Inv X pins σ H s) (h : NkIs X.K H k (.ref b)) (hd : k.depth ≤ 8) : (nestedKind WD.P WD.w).is s.heap k b := ⟨nk_inv I h rfl, hd⟩
theorem storedH_depth {xs : List Ent} {k : NestedKey} {b : Addr} {u : Value} (h : ∀ x ∈ xs, x.1.depth ≤ 8) (hk : k.depth ≤ 8) : ∀ x ∈ storedH xs k b u, x.1.depth ≤ 8 := fun x hx => by
  rcases mem_storedH_key hx with ⟨y, hy, e, _⟩ | ⟨e, _⟩
  · rw [e]; exact h y hy
  · rw [e]; exact hk
/-- how the dict may be read at a key -/
def NGet (K : PySem.W.Frag) (H : Hp) (a : Addr) (y : V) (xs : List Ent) (k : NestedKey) : Prop := H a = some (DkN a xs) ∧ KsN K H xs ∧ (∃ b, y = .ref b) ∧ NkIs K H k y ∧ k.depth ≤ 8
variable {A : Around} {E : Value → Shared → Prop} {y v : V} {u r : Value}
theorem n_getItem {p : Addr × Value} {Q : Value → Shared → Prop} (hu : A.units + 9 < cLine) (I : Inv X pins σ H s) (g : NGet X.K H a y xs k) (hp : atKey xs k = some p) (rv : RelV v p.2) (ry : RelV y u) (h : ∀ w' s', Inv X pins σ H s' → RelV v w' → Q w' s') :
    wpAny (model WD.P WD.w) A (getItem (.ref a) u) Q E s := by
  obtain ⟨e, ks, ⟨b, rfl⟩, hk, hd⟩ := g
  obtain rfl : u = Value.ref b := ry
  obtain ⟨_, _, dd, _⟩ := dn_of I e ks
  exact wpAny_getItem_heap (show A.in1.units + 8 < cLine from by show A.units + 1 + 8 < cLine; omega) (dn_is I hk hd) dd hp (h _ _ (I.tok _) rv)
theorem n_in {Q : Value → Shared → Prop} (hu : A.units + 9 < cLine) (I : Inv X pins σ H s) (g : NGet X.K H a y xs k) (ry : RelV y u) (h : ∀ s', Inv X pins σ H s' → Q (.bool (atKey xs k).isSome) s') :
    wpAny (model WD.P WD.w) A (compareOp .In u (.ref a)) Q E s := by
  obtain ⟨e, ks, ⟨b, rfl⟩, hk, hd⟩ := g
  obtain rfl : u = Value.ref b := ry
  obtain ⟨hs, _, dd, _⟩ := dn_of I e ks
  exact wpAny_in_heap (show A.in1.units + 8 < cLine from by show A.units + 1 + 8 < cLine; omega) (dn_is I hk hd) hs dd (h _ (I.tok _))
theorem n_notIn {Q : Value → Shared → Prop} (hu : A.units + 9 < cLine) (I : Inv X pins σ H s) (g : NGet X.K H a y xs k) (ry : RelV y u) (h : ∀ s', Inv X pins σ H s' → Q (.bool (!(atKey xs k).isSome)) s') :
    wpAny (model WD.P WD.w) A (compareOp .NotIn u (.ref a)) Q E s := by
  obtain ⟨e, ks, ⟨b, rfl⟩, hk, hd⟩ := g
  obtain rfl : u = Value.ref b := ry
  obtain ⟨hs, _, dd, _⟩ := dn_of I e ks
  refine notIn_keyed (kvs := pairsH xs) (show A.in1.units + 8 < cLine from by show A.units + 1 + 8 < cLine; omega) (dn_is I hk hd) hs ⟨xs, dd, rfl⟩ ?_
  rw [valueAt_pairsH, Option.isSome_map]
  exact h _ (I.tok _)
theorem n_get1 {Q : Value → Shared → Prop} (hu : A.units + 9 < cLine) (I : Inv X pins σ H s) (g : NGet X.K H a y xs k) (ry : RelV y u) (h : ∀ s', Inv X pins σ H s' → Q (((atKey xs k).map (·.2)).getD .none) s') :
    wpAny (model WD.P WD.w) A (call (.builtin "dict.get") [.ref a, u]) Q E s := by
  obtain ⟨e, ks, ⟨b, rfl⟩, hk, hd⟩ := g
  obtain rfl : u = Value.ref b := ry
  obtain ⟨hs, _, dd, _⟩ := dn_of I e ks
  refine get_keyed (kvs := pairsH xs) (show A.in1.units + 8 < cLine from by show A.units + 1 + 8 < cLine; omega) (dn_is I hk hd) hs ⟨xs, dd, rfl⟩ ?_
  rw [valueAt_pairsH]
  exact h _ (I.tok _)
theorem n_get2 {Q : Value → Shared → Prop} (hu : A.units + 9 < cLine) (I : Inv X pins σ H s) (g : NGet X.K H a y xs k) (ry : RelV y u) (h : ∀ s', Inv X pins σ H s' → Q (((atKey xs k).map (·.2)).getD r) s') :
    wpAny (model WD.P WD.w) A (call (.builtin "dict.get") [.ref a, u, r]) Q E s := by
  obtain ⟨e, ks, ⟨b, rfl⟩, hk, hd⟩ := g
  obtain rfl : u = Value.ref b := ry
  obtain ⟨hs, _, dd, _⟩ := dn_of I e ks
  refine getOr_keyed (kvs := pairsH xs) (show A.in1.units + 8 < cLine from by show A.units + 1 + 8 < cLine; omega) (dn_is I hk hd) hs ⟨xs, dd, rfl⟩ ?_
  rw [valueAt_pairsH]
  exact h _ (I.tok _)
theorem dn_new {P : Program} {w : World} {H' : Hp} {h' : Heap} (hs : (a == sysModules) = false) (z : xs.length ≤ sizeLine) (dd : h'.DictOfH (nestedKind WD.P WD.w) a xs) (hd : ∀ x ∈ xs, x.1.depth ≤ 8) : ObjOk P w H' h' a (DkN a xs) := by
  obtain ⟨o, es, ep, h5, h6, h7, h8, h9, h10⟩ := dd
  exact ⟨⟨hs, z, h10, hd, o, es, ep, h5, h6, h7, h8⟩, ⟨o, h5⟩, fun h1 h2 ⟨q1, q2, q3, q4, o', es', ep', q5, q6⟩ keep => ⟨q1, q2, q3, q4, o', es', ep', keep _ q5, q6⟩⟩
/-- d[y] = v; the key that is kept is the first one -/
theorem n_setItem {Q : Unit → Shared → Prop} (hu : A.units + 9 < cLine) (I : Inv X pins σ H s) (g : NGet X.K H a (.ref b) xs k) (hl : xs.length < sizeLine) (h : ∀ s', Inv X pins σ (upd H a (DkN a (storedH xs k b r))) s' → Q () s') :
    wpAny (model WD.P WD.w) A (setItem (.ref a) (.ref b) r) Q E s := by
  obtain ⟨e, ks, _, hk, hd⟩ := g
  obtain ⟨hs, hz, dd, hall⟩ := dn_of I e ks
  refine wpAny_setItem_heap (hsz := hz) (show A.in1.units + 8 < cLine from by show A.units + 1 + 8 < cLine; omega) (dn_is I hk hd) dd fun h' hm' sb => ?_
  refine h _ (I.write (x := a) (e := a) (by rw [e]; exact True.intro) (.inl rfl) (fun c q hb z => (sb.2 c hb).trans z) (by obtain ⟨o, _, _, q, _⟩ := hm'; exact ⟨o, q⟩) ?_)
  refine dn_new hs ?_ hm' (storedH_depth hall hd)
  have := storedH_length xs k b r
  omega
end
/-! ### the readings -/
def tNGet (K : PySem.W.Frag) (td ty : TE) : TE := fun σ H Q => td σ H fun x H1 => ty σ H1 fun y H2 => ∃ a xs k p v, x = .ref a ∧ NGet K H2 a y xs k ∧ atKey xs k = some p ∧ RelV v p.2 ∧ Q v H2
def tNIn (K : PySem.W.Frag) (ty td : TE) : TE := fun σ H Q => ty σ H fun y H1 => td σ H1 fun x H2 => ∃ a xs k, x = .ref a ∧ NGet K H2 a y xs k ∧ Q (.bl (atKey xs k).isSome) H2
def tNNotIn (K : PySem.W.Frag) (ty td : TE) : TE := fun σ H Q => ty σ H fun y H1 => td σ H1 fun x H2 => ∃ a xs k, x = .ref a ∧ NGet K H2 a y xs k ∧ Q (.bl (!(atKey xs k).isSome)) H2
def tNGet2 (K : PySem.W.Frag) (td ty tx : TE) : TE := fun σ H Q => td σ H fun x H1 => ∃ a xs, x = .ref a ∧ H1 a = some (DkN a xs) ∧ ty σ H1 fun y H2 => tx σ H2 fun z H3 => ∃ k, NGet K H3 a y xs k ∧
  (∀ p, atKey xs k = some p → ∃ v, RelV v p.2 ∧ Q v H3) ∧ (atKey xs k = none → Q z H3)
def sNPut (K : PySem.W.Frag) (td ty tv : TE) : TS := fun D σ H => tv σ H fun v H1 => td σ H1 fun x H2 => ty σ H2 fun y H3 => ∃ a b xs k, x = .ref a ∧ y = .ref b ∧ NGet K H3 a y xs k ∧ xs.length < sizeLine ∧ ∀ r, RelV v r → D.nx σ (upd H3 a (DkN a (storedH xs k b r)))
def tNewN : TE := fun _ H Q => ∀ p, H p = none → Q (.ref p) (upd H p (DkN p []))
section
variable {X : Cx} {o i e f value : Expr} {pos pos' tpos apos cpos : Pos} {td ty tv tx : TE}
theorem modelW (hP : X.prog = WD.P) (hw : X.w = WD.w) : model X.prog X.w = model WD.P WD.w := by rw [hP, hw]
theorem pe_nget (K : PySem.W.Frag) (hu : X.A.units + 9 < cLine) (ho : PE X o td) (hi : PE X i ty) (hs : NoSl i) (hK : X.K = K := by rfl) (hP : X.prog = WD.P := by rfl) (hw : X.w = WD.w := by rfl) : PE X (.Subscript o i pos) (tNGet K td ty) := by
  subst hK
  refine ⟨fun pins s σ H Q I h => ?_⟩
  refine subD_of PySem.F.slot_dict_getitem.lookup hs (thn (ho.run pins s σ H _ I h) fun u s1 ⟨x, H1, I1, rx, q1⟩ => thn (hi.run pins s1 σ H1 _ I1 q1) fun iv s2 ⟨y, H2, I2, ry, a, xs, k, p, v, ex, g, hp, rv, q2⟩ => ?_)
  subst ex
  obtain rfl : u = Value.ref a := rx
  refine ⟨?_, ?_⟩
  · obtain ⟨_, _, dd, _⟩ := dn_of I2 g.1 g.2.1
    exact dd.typeIs
  · rw [modelW hP hw]
    exact n_getItem hu I2 g hp rv ry fun w' s3 I3 rw' => ⟨v, H2, I3, rw', q2⟩
theorem pc_nin (K : PySem.W.Frag) (hu : X.A.units + 9 < cLine) (hi : PE X i ty) (ho : PE X o td) (hK : X.K = K := by rfl) (hP : X.prog = WD.P := by rfl) (hw : X.w = WD.w := by rfl) : PC X .In i o (tNIn K ty td) := by
  subst hK
  refine ⟨fun pins s σ H Q I h => ?_⟩
  refine thn (hi.run pins s σ H _ I h) fun iv s1 ⟨y, H1, I1, ry, q1⟩ => thn (ho.run pins s1 σ H1 _ I1 q1) fun u s2 ⟨x, H2, I2, rx, a, xs, k, ex, g, q2⟩ => ?_
  subst ex
  obtain rfl : u = Value.ref a := rx
  rw [modelW hP hw]
  exact n_in hu I2 g ry fun s3 I3 => ⟨.bl _, H2, I3, rfl, q2⟩
theorem pc_nnotin (K : PySem.W.Frag) (hu : X.A.units + 9 < cLine) (hi : PE X i ty) (ho : PE X o td) (hK : X.K = K := by rfl) (hP : X.prog = WD.P := by rfl) (hw : X.w = WD.w := by rfl) : PC X .NotIn i o (tNNotIn K ty td) := by
  subst hK
  refine ⟨fun pins s σ H Q I h => ?_⟩
  refine thn (hi.run pins s σ H _ I h) fun iv s1 ⟨y, H1, I1, ry, q1⟩ => thn (ho.run pins s1 σ H1 _ I1 q1) fun u s2 ⟨x, H2, I2, rx, a, xs, k, ex, g, q2⟩ => ?_
  subst ex
  obtain rfl : u = Value.ref a := rx
  rw [modelW hP hw]
  exact n_notIn hu I2 g ry fun s3 I3 => ⟨.bl _, H2, I3, rfl, q2⟩
theorem ps_nput (K : PySem.W.Frag) (hu : X.A.units + 9 < cLine) (ho : PE X o td) (hi : PE X i ty) (hv : PE X value tv) (hs : swapsWith value (some (.Subscript o i pos')) pos.line X.env = pure false) (hK : X.K = K := by rfl) (hP : X.prog = WD.P := by rfl) (hw : X.w = WD.w := by rfl) :
    PS X (.Assign [.Subscript o i pos'] value pos) (sNPut K td ty tv) := by
  subst hK
  refine ⟨fun pins s σ H D I h => ?_⟩
  refine wpAny_Assign_Subscript (thn (hv.run pins s σ H _ I h) fun r s1 ⟨v, H1, I1, rv, q1⟩ => thn (ho.run pins s1 σ H1 _ I1 q1) fun u s2 ⟨x, H2, I2, rx, q2⟩ => thn (hi.run pins s2 σ H2 _ I2 q2) fun iv s3 ⟨y, H3, I3, ry, a, b, xs, k, ex, ey, g, hl, q3⟩ => ?_) hs
  subst ex ey
  obtain rfl : u = Value.ref a := rx
  obtain rfl : iv = Value.ref b := ry
  rw [modelW hP hw]
  exact n_setItem hu I3 g hl fun s4 I4 => ⟨σ, _, I4, q3 r rv⟩
theorem dn_empty {P : Program} {w : World} {H : Hp} (h : Heap) (hb : sysModules < h.objs.size) : ObjOk P w H (h.push { cls := .type "dict", data := .dict #[] }) h.objs.size (DkN h.objs.size []) :=
  dn_new (beq_eq_false_iff_ne.mpr (Ne.symm (Nat.ne_of_lt hb))) (Nat.zero_le _) (Heap.DictOfH.new h) (fun _ hx => by cases hx)
theorem pe_newN : PE X (.Dict [] [] pos) tNewN := ⟨fun pins s σ H Q I h =>
  wpAny_Dict_empty ⟨.ref s.heap.objs.size, _, I.laid (a := s.heap.objs.size) (o := DkN _ []) (t' := s.toks) (fun _ _ q => Heap.get?_push_of_some _ q) (Nat.le_refl _) (dn_empty s.heap I.big), rfl, h _ (I.hok.fresh (Nat.le_refl _))⟩⟩
end
end Dt
/-! slots that hold things to be changed: dicts, objects -/
namespace Dt
open PySem PySem.Spec L2 Evl PyProof.Rows
variable [WD]
section
variable {K : PySem.W.Frag} {Hf H : Hp} {O : Addr → Prop} {σ : L2.St} {ρ : Rho}
/-- the thing of the slot i, and how it may be put anew -/
theorem SR.putM (s : SR K Hf H O σ ρ) {i : Nat} {b : Bool} {o : Mo} (e : ρ[i]? = some (.m b o)) : ∃ v fp, σ[i]? = some (some v) ∧ RM K Hf H v o fp ∧ fp.Nodup ∧ (∀ a ∈ fp, O a) ∧
    ∀ (Hf' H' : Hp) (O' : Addr → Prop) (o' : Mo) (fp' : List Addr), Ex Hf Hf' → Ex Hf' H' → (∀ a, O' a → (∃ u, H' a = some u) ∧ Hf' a = none) → (∀ a u, O a → a ∉ fp → H a = some u → H' a = some u) → (∀ a, O a → a ∉ fp → O' a) →
      RM K Hf' H' v o' fp' → fp'.Nodup → (∀ a ∈ fp', O' a ∧ (a ∈ fp ∨ ¬ O a)) → SR K Hf' H' O' σ (ρ.set i (.m b o')) := by
  have hi := (List.getElem?_eq_some_iff.mp e).1
  obtain ⟨w, h1, h2⟩ := s.mr
  obtain ⟨v, fp, q1, q2, q3, q4⟩ := h1 i b o e
  refine ⟨v, fp, q1, q2, q3, fun a ha => (q4 a ha).1, fun Hf' H' O' o' fp' x1 x2 x3 x4 x5 x6 x7 x8 => ?_⟩
  have back : ∀ {j : Nat} {t : Sl}, (ρ.set i (.m b o'))[j]? = some t → (∀ c u, t ≠ .m c u) → ρ[j]? = some t := fun {j t} h n => by
    by_cases z : i = j
    · subst z; rw [List.getElem?_set_self hi] at h; cases h; exact (n _ _ rfl).elim
    · rw [List.getElem?_set_ne z] at h; exact h
  have ownOut : ∀ {j : Nat} {c xs l}, ρ[j]? = some (.own c xs) → σ[j]? = some (some (.ref l)) → l ∉ fp := fun {j c xs l} p1 p2 z => by
    have t := h2 j c xs l p1 p2
    rw [(q4 l z).2] at t; cases t
  refine ⟨x2, x3, by simp [s.len], fun j y h => ?_, fun j c xs h => ?_, fun j k c d xs ys l a1 a2 a3 a4 => ?_, fun j y h => ?_, ?_⟩
  · obtain ⟨u, p1, p2⟩ := s.slot j y (back h fun _ _ z => by cases z)
    exact ⟨u, p1, p2.mono x1⟩
  · have h' := back h fun _ _ z => by cases z
    obtain ⟨l, vs, p1, p2, p3, p4⟩ := s.own j c xs h'
    exact ⟨l, vs, p1, x5 l p2 (ownOut h' p1), x4 l _ p2 (ownOut h' p1) p3, p4.mono x1⟩
  · exact s.dis j k c d xs ys l (back a1 fun _ _ z => by cases z) (back a2 fun _ _ z => by cases z) a3 a4
  · obtain ⟨u, p1, p2⟩ := s.exc j y (back h fun _ _ z => by cases z)
    exact ⟨u, p1, p2.mono x1⟩
  · refine ⟨fun a => if a ∈ fp' then some i else w a, fun j c u h => ?_, fun j c xs l h p2 => ?_⟩
    · by_cases z : i = j
      · subst z
        rw [List.getElem?_set_self hi] at h
        cases h
        exact ⟨v, fp', q1, x6, x7, fun a ha => ⟨(x8 a ha).1, if_pos ha⟩⟩
      · rw [List.getElem?_set_ne z] at h
        obtain ⟨u', fq, p1, p2, p3, p4⟩ := h1 j c u h
        have nf : ∀ a ∈ fq, a ∉ fp := fun a ha y => by
          have t := (p4 a ha).2
          rw [(q4 a y).2] at t
          cases t
          exact z rfl
        have nf' : ∀ a ∈ fq, a ∉ fp' := fun a ha y => by
          rcases (x8 a y).2 with t | t
          · exact nf a ha t
          · exact t (p4 a ha).1
        refine ⟨u', fq, p1, p2.mono x1 fun a ha t ht => x4 a t (p4 a ha).1 (nf a ha) ht, p3, fun a ha => ⟨x5 a (p4 a ha).1 (nf a ha), ?_⟩⟩
        show (if a ∈ fp' then some i else w a) = _
        rw [if_neg (nf' a ha)]
        exact (p4 a ha).2
    · have h' := back h fun _ _ z => by cases z
      obtain ⟨l', vs, p1, p3, _⟩ := s.own j c xs h'
      rw [p2] at p1
      cases p1
      show (if l ∈ fp' then some i else w l) = none
      rw [if_neg fun y => by
        rcases (x8 l y).2 with t | t
        · exact ownOut h' p2 t
        · exact t p3]
      exact h2 j c xs l h' p2
omit [WD] in
theorem kp_putM {ρ : Rho} {i : Nat} {b : Bool} {o o' : Mo} (e : ρ[i]? = some (.m b o)) : Kp ρ (ρ.set i (.m b o')) := by
  have hi := (List.getElem?_eq_some_iff.mp e).1
  refine ⟨fun j xs q => ?_, fun j u q => ?_⟩
  · by_cases z : i = j
    · subst z; rw [e] at q; cases q
    · exact ⟨xs, by rw [List.getElem?_set_ne z]; exact q⟩
  · by_cases z : i = j
    · subst z; rw [e] at q; cases q; exact ⟨o', List.getElem?_set_self hi⟩
    · exact ⟨u, by rw [List.getElem?_set_ne z]; exact q⟩
/-! ### a field of an object -/
omit [WD] in
def lookM (f : Str) : List (Str × Mo) → Option Mo
  | [] => none
  | (g, o) :: fs => if g = f then some o else lookM f fs
omit [WD] in
/-- in its place, or at the end -/
def putFM (f : Str) (o : Mo) : List (Str × Mo) → List (Str × Mo)
  | [] => [(f, o)]
  | (g, u) :: fs => if g = f then (g, o) :: fs else (g, u) :: putFM f o fs
theorem RMs.look {f : Str} : ∀ {fvs : List (Str × V)} {fs : List (Str × Mo)} {fp : List Addr} {o : Mo}, RMs K Hf H fvs fs fp → lookM f fs = some o → ∃ v fq, fvs.lookup f = some v ∧ RM K Hf H v o fq ∧ (∀ a ∈ fq, a ∈ fp)
  | _, _, _, _, .nil, h => by cases h
  | _, _, _, o, .cons (f := g) (v := v) (o := u) (fp := fp) (fq := fq) hm hs, h => by
    simp only [lookM] at h
    by_cases z : g = f
    · rw [if_pos z] at h
      cases h
      exact ⟨v, fp, by subst z; simp [List.lookup], hm, fun a ha => List.mem_append_left _ ha⟩
    · rw [if_neg z] at h
      obtain ⟨v', fr, p1, p2, p3⟩ := RMs.look hs h
      refine ⟨v', fr, ?_, p2, fun a ha => List.mem_append_right _ (p3 a ha)⟩
      have : (f == g) = false := beq_eq_false_iff_ne.mpr fun y => z y.symm
      simp only [List.lookup, this]
      exact p1
theorem RMs.none {f : Str} : ∀ {fvs : List (Str × V)} {fs : List (Str × Mo)} {fp : List Addr}, RMs K Hf H fvs fs fp → lookM f fs = none → fvs.lookup f = none
  | _, _, _, .nil, _ => rfl
  | _, _, _, .cons (f := g) hm hs, h => by
    simp only [lookM] at h
    by_cases z : g = f
    · rw [if_pos z] at h; cases h
    · rw [if_neg z] at h
      have : (f == g) = false := beq_eq_false_iff_ne.mpr fun y => z y.symm
      simp only [List.lookup, this]
      exact RMs.none hs h
theorem RMs.length : ∀ {fvs : List (Str × V)} {fs : List (Str × Mo)} {fp : List Addr}, RMs K Hf H fvs fs fp → fvs.length = fs.length
  | _, _, _, .nil => rfl
  | _, _, _, .cons _ hs => congrArg Nat.succ (RMs.length hs)
/-- a field's value is replaced: the heap is changed at fresh places alone -/
theorem RMs.put {f : Str} {v : V} {o : Mo} {fn : List Addr} {Hf' H' : Hp} (e : Ex Hf Hf') (hv : RM K Hf' H' v o fn) (dn : fn.Nodup) : ∀ {fvs : List (Str × V)} {fs : List (Str × Mo)} {fp : List Addr}, RMs K Hf H fvs fs fp → fp.Nodup → (∀ a ∈ fp, ∀ u, H a = some u → H' a = some u) → (∀ a ∈ fn, a ∉ fp) →
    ∃ fp', RMs K Hf' H' (putF f v fvs) (putFM f o fs) fp' ∧ fp'.Nodup ∧ ∀ a ∈ fp', a ∈ fp ∨ a ∈ fn
  | _, _, _, .nil, _, _, _ => ⟨fn ++ [], .cons hv .nil, by simpa using dn, fun a ha => .inr (by simpa using ha)⟩
  | _, _, _, .cons (f := g) (v := x) (o := u) (vs := vs) (os := os) (fp := fp) (fq := fq) hm hs, nd, k, dj => by
    obtain ⟨n1, n2, n3⟩ := List.nodup_append.mp nd
    simp only [putF, putFM]
    by_cases z : g = f
    · rw [if_pos z, if_pos z]
      refine ⟨fn ++ fq, .cons hv (RMs.mono e hs fun a ha => k a (List.mem_append_right _ ha)), List.nodup_append.mpr ⟨dn, n2, fun a ha b hb y => dj a ha (List.mem_append_right _ (y ▸ hb))⟩, fun a ha => ?_⟩
      rcases List.mem_append.mp ha with t | t
      · exact .inr t
      · exact .inl (List.mem_append_right _ t)
    · rw [if_neg z, if_neg z]
      obtain ⟨fp', r1, r2, r3⟩ := RMs.put e hv dn (f := f) hs n2 (fun a ha => k a (List.mem_append_right _ ha)) fun a ha y => dj a ha (List.mem_append_right _ y)
      refine ⟨fp ++ fp', .cons (RM.mono e hm fun a ha => k a (List.mem_append_left _ ha)) r1, List.nodup_append.mpr ⟨n1, r2, fun a ha b hb y => ?_⟩, fun a ha => ?_⟩
      · subst y
        rcases r3 a hb with t | t
        · exact n3 a ha a t rfl
        · exact dj a t (List.mem_append_left _ ha)
      · rcases List.mem_append.mp ha with t | t
        · exact .inl (List.mem_append_left _ t)
        · rcases r3 a t with t | t
          · exact .inl (List.mem_append_right _ t)
          · exact .inr t
/-- a field's thing is changed where it stands -/
theorem RMs.chg {f : Str} {H' : Hp} {o o' : Mo} : ∀ {fvs : List (Str × V)} {fs : List (Str × Mo)} {fp : List Addr}, RMs K Hf H fvs fs fp → fp.Nodup → lookM f fs = some o →
    ∃ v fq, fvs.lookup f = some v ∧ RM K Hf H v o fq ∧ (∀ a ∈ fq, a ∈ fp) ∧ (RM K Hf H' v o' fq → (∀ a ∈ fp, a ∉ fq → ∀ u, H a = some u → H' a = some u) → RMs K Hf H' fvs (putFM f o' fs) fp)
  | _, _, _, .nil, _, h => by cases h
  | _, _, _, .cons (f := g) (v := x) (o := u) (vs := vs) (os := os) (fp := fp) (fq := fq) hm hs, nd, h => by
    obtain ⟨n1, n2, n3⟩ := List.nodup_append.mp nd
    simp only [lookM] at h
    by_cases z : g = f
    · rw [if_pos z] at h
      cases h
      refine ⟨x, fp, by subst z; simp [List.lookup], hm, fun a ha => List.mem_append_left _ ha, fun r k => ?_⟩
      simp only [putFM]
      rw [if_pos z]
      exact .cons r (RMs.mono (Ex.refl _) hs fun a ha => k a (List.mem_append_right _ ha) fun y => n3 a y a ha rfl)
    · rw [if_neg z] at h
      obtain ⟨v', fr, p1, p2, p3, p4⟩ := RMs.chg (f := f) (H' := H') (o' := o') hs n2 h
      have hb : (f == g) = false := beq_eq_false_iff_ne.mpr fun y => z y.symm
      refine ⟨v', fr, by simp only [List.lookup, hb]; exact p1, p2, fun a ha => List.mem_append_right _ (p3 a ha), fun r k => ?_⟩
      simp only [putFM]
      rw [if_neg z]
      exact .cons (RM.mono (Ex.refl _) hm fun a ha => k a (List.mem_append_left _ ha) fun y => n3 a ha a (p3 a y) rfl) (p4 r fun a ha na => k a (List.mem_append_right _ ha) na)
end
/-! ### a place: a slot, or a field of a slot's object; what stands there is one list or dict -/
structure Pl where
  i : Nat
  f : Option Str
def Pl.get (p : Pl) (ρ : Rho) : Option Mo := match ρ[p.i]? with
  | some (.m _ o) => (match p.f with
    | none => some o
    | some f => match o with
      | .obj _ fs => lookM f fs
      | _ => none)
  | _ => none
def Pl.put (p : Pl) (o' : Mo) (ρ : Rho) : Rho := match ρ[p.i]? with
  | some (.m b o) => (match p.f with
    | none => ρ.set p.i (.m b o')
    | some f => match o with
      | .obj c fs => ρ.set p.i (.m b (.obj c (putFM f o' fs)))
      | _ => ρ)
  | _ => ρ
/-- the class of the place's object is known -/
def Pl.ok (p : Pl) (c : Str) (ρ : Rho) : Bool := match p.f with
  | none => true
  | some _ => match ρ[p.i]? with
    | some (.m _ (.obj d _)) => decide (d = c)
    | _ => false
def Mo.leaf : Mo → Bool
  | .lst _ => true
  | .dct _ _ => true
  | _ => false
/-- the reading t gives what stands at the place -/
def DPl (Z : Zx) (c : Str) (t : TE) (p : Pl) : Prop := ∀ Hf H O σ ρ o, SR Z.K Hf H O σ ρ → p.get ρ = some o → p.ok c ρ = true → o.leaf = true → ∀ Q : VK,
  (∀ l, RM Z.K Hf H (.ref l) o [l] → O l → (∀ Hf' H' ob o', Pg Hf H Hf' H' → RM Z.K Hf' (upd H' l ob) (.ref l) o' [l] → SR Z.K Hf' (upd H' l ob) O σ (p.put o' ρ)) → Q (.ref l) H) → t σ H Q
theorem leaf_fp {K : PySem.W.Frag} {Hf H : Hp} {v : V} {o : Mo} {fp : List Addr} (h : RM K Hf H v o fp) (l : o.leaf = true) : ∃ a, v = .ref a ∧ fp = [a] := by
  cases h with
  | dat _ => cases l
  | obj _ _ => cases l
  | lst _ _ => exact ⟨_, rfl, rfl⟩
  | dk _ _ => exact ⟨_, rfl, rfl⟩
  | dn _ _ => exact ⟨_, rfl, rfl⟩
section
variable {Z : Zx}
/-- what a write at one owned place leaves -/
theorem otr_upd {K : PySem.W.Frag} {Hf H Hf' H' : Hp} {O : Addr → Prop} {σ : L2.St} {ρ : Rho} {l : Addr} {ob : HO} (s : SR K Hf H O σ ρ) (g : Pg Hf H Hf' H') : ∀ a, O a → (∃ u, upd H' l ob a = some u) ∧ Hf' a = none := fun a h => by
  obtain ⟨⟨u, h1⟩, h2⟩ := (s.grow g).otr a h
  refine ⟨?_, h2⟩
  by_cases z : a = l
  · subst z; exact ⟨_, upd_same⟩
  · rw [upd_ne z]; exact ⟨u, h1⟩
theorem ex_upd {K : PySem.W.Frag} {Hf H Hf' H' : Hp} {O : Addr → Prop} {σ : L2.St} {ρ : Rho} {l : Addr} {ob : HO} (s : SR K Hf H O σ ρ) (g : Pg Hf H Hf' H') (hl : O l) : Ex Hf' (upd H' l ob) := fun a u h => by
  have hf := ((s.grow g).otr l hl).2
  rw [upd_ne (ne_of_none h hf)]
  exact g.ex a u h
theorem pl_slot (c : Str) (i : Nat) : DPl Z c (tVar i) ⟨i, none⟩ := by
  intro Hf H O σ ρ o s hg _ hl Q q
  unfold Pl.get at hg
  cases e : ρ[i]? with
  | none => rw [show ρ[(⟨i, none⟩ : Pl).i]? = none from e] at hg; cases hg
  | some z =>
    rw [show ρ[(⟨i, none⟩ : Pl).i]? = some z from e] at hg
    cases z with
    | m b u =>
      cases hg
      obtain ⟨v, fp, q1, q2, q3, q4, q5⟩ := s.putM e
      obtain ⟨l, rfl, rfl⟩ := leaf_fp q2 hl
      have hO : O l := q4 l (by simp)
      refine ⟨.ref l, q1, q l q2 hO fun Hf' H' ob o' g r => ?_⟩
      have : Pl.put ⟨i, none⟩ o' ρ = ρ.set i (.m b o') := by
        unfold Pl.put
        rw [show ρ[(⟨i, none⟩ : Pl).i]? = some (.m b o) from e]
      rw [this]
      refine q5 Hf' _ O o' [l] g.ef (ex_upd s g hO) (otr_upd s g) (fun a u _ na h => ?_) (fun _ h _ => h) r (by simp) (fun a ha => ?_)
      · rw [upd_ne (fun z => na (by simp [z]))]; exact g.eh a u h
      · obtain rfl : a = l := by simpa using ha
        exact ⟨hO, .inl (by simp)⟩
    | _ => cases hg
theorem pl_fld {c f : Str} (hc : Cls Z.K (cA Z.K c)) (hn : NoAttr Z.K (cA Z.K c) f) (i : Nat) : DPl Z c (tFld Z.K (tVar i) f) ⟨i, some f⟩ := by
  intro Hf H O σ ρ o s hg hok hl Q q
  unfold Pl.get at hg
  unfold Pl.ok at hok
  cases e : ρ[i]? with
  | none => rw [show ρ[(⟨i, some f⟩ : Pl).i]? = none from e] at hg; cases hg
  | some z =>
    rw [show ρ[(⟨i, some f⟩ : Pl).i]? = some z from e] at hg hok
    cases z with
    | m b u =>
      cases u with
      | obj d fs =>
        have hg : lookM f fs = some o := hg
        have hok : decide (d = c) = true := hok
        obtain rfl := of_decide_eq_true hok
        obtain ⟨v, fp, q1, q2, q3, q4, q5⟩ := s.putM e
        cases q2 with
        | @obj a dx _ fvs _ fq h r =>
          rw [List.nodup_cons] at q3
          obtain ⟨v, fr, p1, p2, p3⟩ := r.look hg
          obtain ⟨l, rfl, rfl⟩ := leaf_fp p2 hl
          have hlf : l ∈ fq := p3 l (by simp)
          have hO : O l := q4 l (List.mem_cons_of_mem _ hlf)
          have hal : a ≠ l := fun z => q3.1 (z ▸ hlf)
          refine ⟨.ref a, q1, a, _, dx, fvs, .ref l, rfl, h, hc, hn, p1, q l p2 hO fun Hf' H' ob o' g rr => ?_⟩
          have : Pl.put ⟨i, some f⟩ o' ρ = ρ.set i (.m b (.obj d (putFM f o' fs))) := by
            unfold Pl.put
            rw [show ρ[(⟨i, some f⟩ : Pl).i]? = some (.m b (.obj d fs)) from e]
          rw [this]
          have r' : RMs Z.K Hf' H' fvs fs fq := RMs.mono g.ef r fun x hx u hu => g.eh x u hu
          obtain ⟨v2, fr2, t1, t2, t3, t4⟩ := r'.chg (H' := upd H' l ob) (o' := o') q3.2 hg
          rw [p1] at t1
          cases t1
          obtain ⟨l2, z2, rfl⟩ := leaf_fp t2 hl
          cases z2
          refine q5 Hf' _ O _ (a :: fq) g.ef (ex_upd s g hO) (otr_upd s g) (fun x u _ na hx => ?_) (fun _ h _ => h) (.obj (by rw [upd_ne hal]; exact g.eh _ _ h) (t4 rr fun x hx nx u hu => ?_)) (List.nodup_cons.mpr q3) (fun x hx => ⟨q4 x hx, .inl hx⟩)
          · rw [upd_ne (fun z : x = l => na (List.mem_cons_of_mem _ (by rw [z]; exact hlf)))]; exact g.eh x u hx
          · rw [upd_ne (fun z => nx (by simp [z]))]; exact hu
      | _ => cases hg
    | _ => cases hg
omit [WD] in
theorem Pl.kp {p : Pl} {ρ : Rho} {o o' : Mo} (h : p.get ρ = some o) : Kp ρ (p.put o' ρ) := by
  unfold Pl.get at h
  unfold Pl.put
  cases e : ρ[p.i]? with
  | none => rw [e] at h; cases h
  | some z =>
    rw [e] at h
    cases z with
    | m b u =>
      cases ef : p.f with
      | none => simp only; exact kp_putM e
      | some f =>
        rw [ef] at h
        cases u with
        | obj c fs => simp only; exact kp_putM e
        | _ => cases h
    | _ => cases h
end
end Dt
/-! dicts and objects in slots: the rules over data -/
namespace Dt
open PySem PySem.Spec L2 Evl PyProof.Rows
/-! ### keys that are tuples -/
mutual
def keyN : Pd → Option NestedKey
  | .none => some .none
  | .int i => some (.num i)
  | .str x => some (.text x)
  | .tuple xs => (keysN xs).map .tup
  | _ => none
def keysN : List Pd → Option (List NestedKey)
  | [] => some []
  | x :: xs => match keyN x, keysN xs with
    | some k, some ks => some (k :: ks)
    | _, _ => none
end
mutual
theorem keyN_data : ∀ {d : Pd} {k : NestedKey}, keyN d = some k → k.data = d
  | .none, _, h => by simp only [keyN] at h; cases h; rfl
  | .int i, _, h => by simp only [keyN] at h; cases h; rfl
  | .str x, _, h => by simp only [keyN] at h; cases h; rfl
  | .tuple xs, _, h => by
    simp only [keyN] at h
    obtain ⟨ks, e, rfl⟩ := Option.map_eq_some_iff.mp h
    simp only [NestedKey.data]
    rw [keysN_data e]
  | .bool _, _, h => by simp only [keyN] at h; cases h
  | .list _, _, h => by simp only [keyN] at h; cases h
  | .dict _, _, h => by simp only [keyN] at h; cases h
theorem keysN_data : ∀ {ds : List Pd} {ks : List NestedKey}, keysN ds = some ks → NestedKey.datas ks = ds
  | [], _, h => by simp only [keysN] at h; cases h; rfl
  | x :: xs, ks, h => by
    simp only [keysN] at h
    cases e1 : keyN x with
    | none => rw [e1] at h; cases h
    | some k =>
      cases e2 : keysN xs with
      | none => rw [e1, e2] at h; cases h
      | some r =>
        rw [e1, e2] at h
        cases h
        simp only [NestedKey.datas]
        rw [keyN_data e1, keysN_data e2]
end
mutual
theorem keyN_of : ∀ k : NestedKey, keyN k.data = some k
  | .none => rfl
  | .num _ => rfl
  | .text _ => rfl
  | .tup ks => by simp only [NestedKey.data, keyN, keysN_of ks, Option.map_some]
theorem keysN_of : ∀ ks : List NestedKey, keysN (NestedKey.datas ks) = some ks
  | [] => rfl
  | k :: ks => by simp only [NestedKey.datas, keysN, keyN_of k, keysN_of ks]
end
/-! ### a dict over data: n tells that its keys are tuples -/
def keyM (n : Bool) (d : Pd) : Option NestedKey := if n = true then (match d with
    | .tuple xs => (match keyN (.tuple xs) with
      | some k => if k.depth ≤ 8 then some k else none
      | none => none)
    | _ => none)
  else (match d with
    | .int i => some (.num i)
    | .str x => some (.text x)
    | _ => none)
theorem keyM_keyN {n : Bool} {d : Pd} {k : NestedKey} (h : keyM n d = some k) : keyN d = some k := by
  unfold keyM at h
  cases n with
  | true =>
    rw [if_pos rfl] at h
    cases d with
    | tuple xs =>
      simp only at h
      cases e : keyN (.tuple xs) with
      | none => rw [e] at h; cases h
      | some k' =>
        rw [e] at h
        simp only at h
        split at h
        · cases h; rfl
        · cases h
    | _ => cases h
  | false =>
    rw [if_neg (by decide)] at h
    cases d with
    | int i => cases h; rfl
    | str x => cases h; rfl
    | _ => cases h
def getN (ds : List (Pd × Pd)) (k : NestedKey) : Option Pd := (ds.find? fun p => decide (keyN p.1 = some k)).map (·.2)
def putN (ds : List (Pd × Pd)) (kd : Pd) (k : NestedKey) (d : Pd) : List (Pd × Pd) := if (getN ds k).isSome = true then ds.map (fun p => if keyN p.1 = some k then (p.1, d) else p) else ds ++ [(kd, d)]
theorem getN_nil (k : NestedKey) : getN [] k = none := rfl
theorem getN_pos {p : Pd × Pd} {ds : List (Pd × Pd)} {k : NestedKey} (h : keyN p.1 = some k) : getN (p :: ds) k = some p.2 := by simp [getN, List.find?_cons, h]
theorem getN_neg {p : Pd × Pd} {ds : List (Pd × Pd)} {k : NestedKey} (h : keyN p.1 ≠ some k) : getN (p :: ds) k = getN ds k := by simp [getN, List.find?_cons, h]
theorem getN_map (k j : NestedKey) (d : Pd) : ∀ ds : List (Pd × Pd), getN (ds.map fun p => if keyN p.1 = some k then (p.1, d) else p) j = (getN ds j).map fun x => if j = k then d else x
  | [] => rfl
  | p :: ds => by
    have ih := getN_map k j d ds
    rw [List.map_cons]
    by_cases h : keyN p.1 = some k
    · rw [if_pos h]
      by_cases e : j = k
      · rw [getN_pos (p := (p.1, d)) (by rw [e]; exact h), getN_pos (by rw [e]; exact h), Option.map_some, if_pos e]
      · have n : keyN p.1 ≠ some j := fun z => e (by rw [h] at z; exact (Option.some.inj z).symm)
        rw [getN_neg (p := (p.1, d)) n, getN_neg n, ih]
    · rw [if_neg h]
      by_cases e : keyN p.1 = some j
      · have n : j ≠ k := fun z => h (by rw [e, z])
        rw [getN_pos e, getN_pos e, Option.map_some, if_neg n]
      · rw [getN_neg e, getN_neg e, ih]
theorem getN_snoc {kd : Pd} {k : NestedKey} (hk : keyN kd = some k) (j : NestedKey) (d : Pd) : ∀ ds : List (Pd × Pd), getN ds k = none → getN (ds ++ [(kd, d)]) j = if j = k then some d else getN ds j
  | [], _ => by
    by_cases e : j = k
    · rw [if_pos e]; exact getN_pos (p := (kd, d)) (by rw [e]; exact hk)
    · rw [if_neg e]; exact getN_neg (p := (kd, d)) fun z => e (by rw [hk] at z; exact (Option.some.inj z).symm)
  | p :: ds, h => by
    by_cases q : keyN p.1 = some k
    · rw [getN_pos q] at h; cases h
    · rw [getN_neg q] at h
      have ih := getN_snoc hk j d ds h
      rw [List.cons_append]
      by_cases e : keyN p.1 = some j
      · have n : j ≠ k := fun z => q (by rw [e, z])
        rw [getN_pos e, getN_pos e, if_neg n]
      · rw [getN_neg e, getN_neg e, ih]
/-- what a dict tells behind a store -/
theorem getN_put {ds : List (Pd × Pd)} {kd : Pd} {k : NestedKey} (hk : keyN kd = some k) (d : Pd) (j : NestedKey) : getN (putN ds kd k d) j = if j = k then some d else getN ds j := by
  unfold putN
  split
  · rename_i h
    rw [getN_map]
    by_cases e : j = k
    · subst e
      obtain ⟨x, hx⟩ := Option.isSome_iff_exists.mp h
      rw [hx, if_pos rfl]; simp
    · simp only [if_neg e]; simp
  · rename_i h
    exact getN_snoc hk j d ds (by simpa using h)
theorem putN_length (ds : List (Pd × Pd)) (kd : Pd) (k : NestedKey) (d : Pd) : (putN ds kd k d).length ≤ ds.length + 1 := by
  unfold putN
  split <;> simp
variable [WD]
section
variable {K : PySem.W.Frag} {Hf : Hp}
theorem RNs.length : ∀ {xs : List Ent} {ds : List (Pd × Pd)}, RNs K Hf xs ds → xs.length = ds.length
  | _, _, .nil => rfl
  | _, _, .cons _ _ _ _ hs => congrArg Nat.succ (RNs.length hs)
theorem RNs.keys {H : Hp} (e : Ex Hf H) : ∀ {xs : List Ent} {ds : List (Pd × Pd)}, RNs K Hf xs ds → KsN K H xs
  | _, _, .nil => fun x hx => by cases hx
  | _, _, .cons hk ek _ _ hs => fun x hx => by
    rcases List.mem_cons.mp hx with rfl | hx
    · exact rd_nk e (by rw [ek]; exact hk)
    · exact RNs.keys e hs x hx
theorem RNs.at {k : NestedKey} : ∀ {xs : List Ent} {ds : List (Pd × Pd)}, RNs K Hf xs ds → (getN ds k = none ∧ atKey xs k = none) ∨ ∃ d p v, getN ds k = some d ∧ atKey xs k = some p ∧ RelV v p.2 ∧ RD K Hf v d
  | _, _, .nil => .inl ⟨rfl, rfl⟩
  | _, _, .cons (k := j) (b := b) (u := u) (v := v) (kd := kd) (d := d) (xs := xs) (ds := ds) hk ek ru hv hs => by
    have hj : keyN kd = some j := by rw [← ek]; exact keyN_of j
    by_cases z : j = k
    · subst z
      exact .inr ⟨d, (b, u), v, getN_pos hj, by simp [atKey], ru, hv⟩
    · have h1 : getN ((kd, d) :: ds) k = getN ds k := getN_neg fun y => z (by rw [hj] at y; exact Option.some.inj y)
      have h2 : atKey ((j, b, u) :: xs) k = atKey xs k := by simp [atKey, List.find?_cons, z]
      rw [h1, h2]
      exact RNs.at hs
theorem RNs.map {k : NestedKey} {v : V} {r : Value} {d : Pd} (rv : RelV v r) (hd : RD K Hf v d) : ∀ {xs : List Ent} {ds : List (Pd × Pd)}, RNs K Hf xs ds → RNs K Hf (xs.map (putAt k r)) (ds.map fun p => if keyN p.1 = some k then (p.1, d) else p)
  | _, _, .nil => .nil
  | _, _, .cons (k := j) (b := b) (u := u) (kd := kd) hk ek ru hv hs => by
    have hj : keyN kd = some j := by rw [← ek]; exact keyN_of j
    rw [List.map_cons, List.map_cons]
    unfold putAt
    by_cases z : j = k
    · rw [if_pos z, if_pos (by rw [← z]; exact hj)]
      exact .cons hk ek rv hd (RNs.map rv hd hs)
    · rw [if_neg z, if_neg (fun y => z (by rw [hj] at y; exact Option.some.inj y))]
      exact .cons hk ek ru hv (RNs.map rv hd hs)
theorem RNs.snoc {k : NestedKey} {b : Addr} {kd : Pd} {v : V} {r : Value} {d : Pd} (hk : RD K Hf (.ref b) kd) (ek : k.data = kd) (rv : RelV v r) (hd : RD K Hf v d) : ∀ {xs : List Ent} {ds : List (Pd × Pd)}, RNs K Hf xs ds → RNs K Hf (xs ++ [(k, b, r)]) (ds ++ [(kd, d)])
  | _, _, .nil => .cons hk ek rv hd .nil
  | _, _, .cons a1 a2 a3 a4 hs => .cons a1 a2 a3 a4 (RNs.snoc hk ek rv hd hs)
theorem RNs.put {k : NestedKey} {b : Addr} {kd : Pd} {v : V} {r : Value} {d : Pd} (hk : RD K Hf (.ref b) kd) (ek : k.data = kd) (rv : RelV v r) (hd : RD K Hf v d) {xs : List Ent} {ds : List (Pd × Pd)} (h : RNs K Hf xs ds) : RNs K Hf (storedH xs k b r) (putN ds kd k d) := by
  unfold storedH putN
  rcases h.at (k := k) with ⟨h1, h2⟩ | ⟨d', p, v', h1, h2, _, _⟩
  · rw [h1, h2]
    exact h.snoc hk ek rv hd
  · rw [h1, h2]
    exact h.map rv hd
/-! ### .. whose keys are whole numbers and texts -/
def nkK : Key → NestedKey
  | .inl i => .num i
  | .inr x => .text x
omit [WD] in
theorem keyN_kD (k : Key) : keyN (kD k) = some (nkK k) := by cases k <;> rfl
omit [WD] in
theorem nkK_inj {a b : Key} (h : nkK a = nkK b) : a = b := by
  cases a <;> cases b <;> cases h <;> rfl
omit [WD] in
theorem keyM_kD {d : Pd} {k : NestedKey} (h : keyM false d = some k) : ∃ j : Key, d = kD j ∧ k = nkK j := by
  unfold keyM at h
  rw [if_neg (by decide)] at h
  cases d with
  | int i => cases h; exact ⟨.inl i, rfl, rfl⟩
  | str x => cases h; exact ⟨.inr x, rfl, rfl⟩
  | _ => cases h
theorem RKs.at {j : Key} : ∀ {kvs : List (Key × V)} {ds : List (Pd × Pd)}, RKs K Hf kvs ds → (getN ds (nkK j) = none ∧ valV kvs j = none) ∨ ∃ d v, getN ds (nkK j) = some d ∧ valV kvs j = some v ∧ RD K Hf v d
  | _, _, .nil => .inl ⟨rfl, rfl⟩
  | _, _, .cons (k := i) (v := v) (vs := vs) (d := d) (ds := ds) h hs => by
    by_cases z : i = j
    · subst z
      exact .inr ⟨d, v, getN_pos (keyN_kD i), valV_pos rfl, h⟩
    · have h1 : getN ((kD i, d) :: ds) (nkK j) = getN ds (nkK j) := getN_neg fun y => z (by rw [keyN_kD] at y; exact nkK_inj (Option.some.inj y))
      rw [h1, valV_neg (show ¬ ((i, v) : Key × V).1 = j from z)]
      exact RKs.at hs
theorem RKs.map {j : Key} {v : V} {d : Pd} (hd : RD K Hf v d) : ∀ {kvs : List (Key × V)} {ds : List (Pd × Pd)}, RKs K Hf kvs ds → RKs K Hf (kvs.map fun kv => if kv.1 = j then (kv.1, v) else kv) (ds.map fun p => if keyN p.1 = some (nkK j) then (p.1, d) else p)
  | _, _, .nil => .nil
  | _, _, .cons (k := i) h hs => by
    rw [List.map_cons, List.map_cons]
    by_cases z : i = j
    · rw [if_pos z, if_pos (by rw [← z]; exact keyN_kD i)]
      exact .cons hd (RKs.map hd hs)
    · rw [if_neg z, if_neg (fun y => z (by rw [keyN_kD] at y; exact nkK_inj (Option.some.inj y)))]
      exact .cons h (RKs.map hd hs)
theorem RKs.snoc {j : Key} {v : V} {d : Pd} (hd : RD K Hf v d) : ∀ {kvs : List (Key × V)} {ds : List (Pd × Pd)}, RKs K Hf kvs ds → RKs K Hf (kvs ++ [(j, v)]) (ds ++ [(kD j, d)])
  | _, _, .nil => .cons hd .nil
  | _, _, .cons h hs => .cons h (RKs.snoc hd hs)
theorem RKs.put {j : Key} {v : V} {d : Pd} (hd : RD K Hf v d) {kvs : List (Key × V)} {ds : List (Pd × Pd)} (h : RKs K Hf kvs ds) : RKs K Hf (putK kvs j v) (putN ds (kD j) (nkK j) d) := by
  unfold putK putN
  rw [valV_any]
  rcases h.at (j := j) with ⟨h1, h2⟩ | ⟨d', v', h1, h2, _⟩
  · rw [h1, h2]
    exact h.snoc hd
  · rw [h1, h2]
    exact h.map hd
theorem RKs.length' : ∀ {kvs : List (Key × V)} {ds : List (Pd × Pd)}, RKs K Hf kvs ds → kvs.length = ds.length
  | _, _, .nil => rfl
  | _, _, .cons _ hs => congrArg Nat.succ (RKs.length' hs)
end
/-! ### expressions that only lay new things: keys, values behind a place -/
def DK (Z : Zx) (t : TE) (g : Rho → Option Pd) : Prop := ∀ Hf H O σ ρ x, SR Z.K Hf H O σ ρ → g ρ = some x → ∀ Q : VK, (∀ v Hf' H', Pg Hf H Hf' H' → RD Z.K Hf' v x → Q v H') → t σ H Q
def DKs (Z : Zx) (t : TA) (g : Rho → Option (List Pd)) : Prop := ∀ Hf H O σ ρ x, SR Z.K Hf H O σ ρ → g ρ = some x → ∀ Q : List V → Hp → Prop, (∀ v Hf' H', Pg Hf H Hf' H' → RDs Z.K Hf' v x → Q v H') → t σ H Q
def gVar (i : Nat) (ρ : Rho) : Option Pd := match ρ[i]? with
  | some (.d x) => some x
  | _ => none
def gNil : Rho → Option (List Pd) := fun _ => some []
def gCons' (g : Rho → Option Pd) (gs : Rho → Option (List Pd)) (ρ : Rho) : Option (List Pd) := match g ρ, gs ρ with
  | some x, some xs => some (x :: xs)
  | _, _ => none
def gTup' (gs : Rho → Option (List Pd)) (ρ : Rho) : Option Pd := match gs ρ with
  | some xs => if xs.length ≤ sizeLine then some (.tuple xs) else none
  | none => none
section
variable {Z : Zx} {W : WX}
theorem k_var (i : Nat) : DK Z (tVar i) (gVar i) := by
  intro Hf H O σ ρ x s h Q q
  unfold gVar at h
  cases e : ρ[i]? with
  | none => rw [e] at h; cases h
  | some z =>
    rw [e] at h
    cases z with
    | d y =>
      cases h
      obtain ⟨v, h1, h2⟩ := s.slot i x e
      exact ⟨v, h1, q v Hf H (Pg.refl s.ex) h2⟩
    | _ => cases h
theorem k_c {v : V} {x : Pd} (h : ∀ H, RD Z.K H v x) : DK Z (tC v) (fun _ => some x) := fun Hf H O σ ρ y s e Q q => by
  cases e; exact q v Hf H (Pg.refl s.ex) (h Hf)
theorem k_int (i : Int) : DK Z (tC (.int i)) (fun _ => some (.int i)) := k_c fun _ => .int i
theorem k_str (i : Str) : DK Z (tC (.str i)) (fun _ => some (.str i)) := k_c fun _ => .str i
theorem ks_nil : DKs Z tNil gNil := fun Hf H O σ ρ x s e Q q => by cases e; exact q [] Hf H (Pg.refl s.ex) .nil
theorem ks_cons {t : TE} {ts : TA} {g : Rho → Option Pd} {gs : Rho → Option (List Pd)} (h : DK Z t g) (hs : DKs Z ts gs) : DKs Z (tCons t ts) (gCons' g gs) := by
  intro Hf H O σ ρ x s e Q q
  unfold gCons' at e
  cases e1 : g ρ with
  | none => rw [e1] at e; cases e
  | some y =>
    cases e2 : gs ρ with
    | none => rw [e1, e2] at e; cases e
    | some ys =>
      rw [e1, e2] at e
      cases e
      refine h Hf H O σ ρ y s e1 _ fun v Hf1 H1 g1 r1 => ?_
      exact hs Hf1 H1 O σ ρ ys (s.grow g1) e2 _ fun vs Hf2 H2 g2 r2 => q _ Hf2 H2 (g1.trans g2) (.cons (r1.mono g2.ef) r2)
theorem k_tup {ts : TA} {gs : Rho → Option (List Pd)} (hs : DKs Z ts gs) : DK Z (tTupN ts) (gTup' gs) := by
  intro Hf H O σ ρ x s e Q q
  unfold gTup' at e
  cases e1 : gs ρ with
  | none => rw [e1] at e; cases e
  | some ys =>
    rw [e1] at e
    simp only at e
    split at e
    · rename_i hz
      cases e
      refine hs Hf H O σ ρ ys s e1 _ fun vs Hf1 H1 g1 r1 => ⟨by rw [r1.length]; exact hz, fun p o hd np => ?_⟩
      have g2 := Pg.new (o := .frz o (.tup vs)) g1.ex np
      exact q _ _ _ (g1.trans g2) (.tup (sn_of upd_same hd) (r1.mono g2.ef))
    · cases e
/-! ### place[k], k in place, place[k] = v -/
def fPGet (p : Pl) (n : Bool) (c : Str) (gk : Rho → Option Pd) : Rho → R AV := fun ρ => match p.get ρ with
  | some (.dct m ds) => if m = n ∧ p.ok c ρ = true then (match gk ρ with
      | some kd => (match keyM n kd with
        | some k => (match getN ds k with
          | some d => .ok (.d d) ρ
          | none => .bad)
        | none => .bad)
      | none => .bad) else .bad
  | _ => .bad
theorem nget_of {Hf H : Hp} {l : Addr} {xs : List Ent} {ds : List (Pd × Pd)} {y : V} {kd : Pd} {k : NestedKey} (e : Ex Hf H) (h : H l = some (DkN l xs)) (r : RNs Z.K Hf xs ds) (ry : RD Z.K Hf y kd) (hk : keyM true kd = some k) : NGet Z.K H l y xs k ∧ k.data = kd ∧ ∃ b, y = .ref b := by
  have hN := keyM_keyN hk
  have hd := keyN_data hN
  unfold keyM at hk
  rw [if_pos rfl] at hk
  cases kd with
  | tuple us =>
    simp only [hN] at hk
    split at hk
    · rename_i h8
      have hb : ∃ b, y = .ref b := by cases ry; exact ⟨_, rfl⟩
      exact ⟨⟨h, r.keys e, hb, rd_nk e (by rw [hd]; exact ry), h8⟩, hd, hb⟩
    · cases hk
  | _ => cases hk
theorem d_pgetN {c : Str} {tp tk : TE} {p : Pl} {gk : Rho → Option Pd} (hp : DPl Z c tp p) (hk : DK Z tk gk) : DE Z W (tNGet Z.K tp tk) (fPGet p true c gk) := by
  intro Hf H O σ ρ s Q q
  unfold fPGet at q
  cases e1 : p.get ρ with
  | none => rw [e1] at q; exact q.elim
  | some o =>
    rw [e1] at q
    cases o with
    | dct m ds =>
      simp only at q
      split at q
      · rename_i hc
        obtain ⟨rfl, hok⟩ := hc
        cases e2 : gk ρ with
        | none => rw [e2] at q; exact q.elim
        | some kd =>
          rw [e2] at q
          simp only at q
          cases e3 : keyM true kd with
          | none => rw [e3] at q; exact q.elim
          | some k =>
            rw [e3] at q
            simp only at q
            refine hp Hf H O σ ρ _ s e1 hok rfl _ fun l rm _ _ => ?_
            refine hk Hf H O σ ρ kd s e2 _ fun y Hf1 H1 g1 ry => ?_
            cases rm with
            | @dn _ xs _ h r =>
              obtain ⟨ng, hd, hb⟩ := nget_of (Z := Z) g1.ex (g1.eh _ _ h) (r.mono g1.ef) ry e3
              rcases (r.mono g1.ef).at (k := k) with ⟨h1, _⟩ | ⟨d, pp, v, h1, h2, h3, h4⟩
              · rw [h1] at q; exact q.elim
              · rw [h1] at q
                exact ⟨l, xs, k, pp, v, rfl, ng, h2, h3, q Hf1 H1 (s.grow g1) g1.gr Kp.refl v h4⟩
      · exact q.elim
    | _ => exact q.elim
theorem d_pgetK {c : Str} {tp tk : TE} {p : Pl} {gk : Rho → Option Pd} (hp : DPl Z c tp p) (hk : DK Z tk gk) : DE Z W (tDGet tp tk) (fPGet p false c gk) := by
  intro Hf H O σ ρ s Q q
  unfold fPGet at q
  cases e1 : p.get ρ with
  | none => rw [e1] at q; exact q.elim
  | some o =>
    rw [e1] at q
    cases o with
    | dct m ds =>
      simp only at q
      split at q
      · rename_i hc
        obtain ⟨rfl, hok⟩ := hc
        cases e2 : gk ρ with
        | none => rw [e2] at q; exact q.elim
        | some kd =>
          rw [e2] at q
          simp only at q
          cases e3 : keyM false kd with
          | none => rw [e3] at q; exact q.elim
          | some k =>
            rw [e3] at q
            simp only at q
            obtain ⟨j, rfl, rfl⟩ := keyM_kD e3
            refine hp Hf H O σ ρ _ s e1 hok rfl _ fun l rm _ _ => ?_
            refine hk Hf H O σ ρ _ s e2 _ fun y Hf1 H1 g1 ry => ?_
            cases rm with
            | @dk _ kvs _ h r =>
              obtain rfl : y = kV j := (keyD_ok ry (k := j) (by cases j <;> rfl)).1
              rcases (RKs.mono g1.ef r).at (j := j) with ⟨h1, _⟩ | ⟨d, v, h1, h2, h4⟩
              · rw [h1] at q; exact q.elim
              · rw [h1] at q
                exact ⟨l, v, rfl, .inl ⟨kvs, j, .inl (g1.eh _ _ h), rfl, h2.symm⟩, q Hf1 H1 (s.grow g1) g1.gr Kp.refl v h4⟩
      · exact q.elim
    | _ => exact q.elim
/-- neg: not in -/
def kPIn (p : Pl) (n : Bool) (c : Str) (neg : Bool) (a : AV) (ρ : Rho) : R AV := match a, p.get ρ with
  | .d kd, some (.dct m ds) => if m = n ∧ p.ok c ρ = true then (match keyM n kd with
      | some k => .ok (.d (.bool (xor neg (getN ds k).isSome))) ρ
      | none => .bad) else .bad
  | _, _ => .bad
def fPIn (p : Pl) (n : Bool) (c : Str) (neg : Bool) (fk : Rho → R AV) : Rho → R AV := fun ρ => (fk ρ).bind fun a ρ1 => kPIn p n c neg a ρ1
theorem pinN {c : Str} {tp : TE} {p : Pl} {neg : Bool} {Hf H : Hp} {O : Addr → Prop} {σ : L2.St} {ρ : Rho} {y : V} {a : AV} (hp : DPl Z c tp p) (s : SR Z.K Hf H O σ ρ) (ry : RA Z.K Hf σ y a) {Q : VK}
    (q : PostG Z W O σ ρ Hf H (fun a _ Hf' H' => ∀ v, RA Z.K Hf' σ v a → Q v H') (kPIn p true c neg a ρ)) : tp σ H fun x H2 => ∃ a xs k, x = .ref a ∧ NGet Z.K H2 a y xs k ∧ Q (.bl (xor neg (atKey xs k).isSome)) H2 := by
  unfold kPIn at q
  cases a with
  | sl i => exact q.elim
  | d kd =>
    cases e1 : p.get ρ with
    | none => rw [e1] at q; exact q.elim
    | some o =>
      rw [e1] at q
      cases o with
      | dct m ds =>
        simp only at q
        split at q
        · rename_i hc
          obtain ⟨rfl, hok⟩ := hc
          cases e3 : keyM true kd with
          | none => rw [e3] at q; exact q.elim
          | some k =>
            rw [e3] at q
            simp only at q
            refine hp Hf H O σ ρ _ s e1 hok rfl _ fun l rm _ _ => ?_
            cases rm with
            | @dn _ xs _ h r =>
              obtain ⟨ng, hd, hb⟩ := nget_of (Z := Z) s.ex h r ry e3
              refine ⟨l, xs, k, rfl, ng, ?_⟩
              rcases r.at (k := k) with ⟨h1, h2⟩ | ⟨d, pp, v, h1, h2, _, _⟩
              · rw [h1] at q; rw [h2]; exact q Hf H s Gr.refl Kp.refl _ (.bl _)
              · rw [h1] at q; rw [h2]; exact q Hf H s Gr.refl Kp.refl _ (.bl _)
        · exact q.elim
      | _ => exact q.elim
theorem d_pinN {c : Str} {tp tk : TE} {p : Pl} {fk : Rho → R AV} (hk : DE Z W tk fk) (hp : DPl Z c tp p) : DE Z W (tNIn Z.K tk tp) (fPIn p true c false fk) := by
  intro Hf H O σ ρ s Q q
  refine hk.bind s q fun a ρ1 y Hf1 H1 s1 g1 k1 ry q1 => ?_
  have := pinN (neg := false) (Q := Q) hp s1 ry q1
  simpa using this
theorem d_pninN {c : Str} {tp tk : TE} {p : Pl} {fk : Rho → R AV} (hk : DE Z W tk fk) (hp : DPl Z c tp p) : DE Z W (tNNotIn Z.K tk tp) (fPIn p true c true fk) := by
  intro Hf H O σ ρ s Q q
  refine hk.bind s q fun a ρ1 y Hf1 H1 s1 g1 k1 ry q1 => ?_
  have := pinN (neg := true) (Q := Q) hp s1 ry q1
  simpa using this
theorem pinK {c : Str} {tp : TE} {p : Pl} {neg : Bool} {Hf H : Hp} {O : Addr → Prop} {σ : L2.St} {ρ : Rho} {y : V} {a : AV} (hp : DPl Z c tp p) (s : SR Z.K Hf H O σ ρ) (ry : RA Z.K Hf σ y a) {Q : VK}
    (q : PostG Z W O σ ρ Hf H (fun a _ Hf' H' => ∀ v, RA Z.K Hf' σ v a → Q v H') (kPIn p false c neg a ρ)) : tp σ H fun x H2 => ∃ a o, x = .ref a ∧ DGet H2 a y o ∧ Q (.bl (xor neg o.isSome)) H2 := by
  unfold kPIn at q
  cases a with
  | sl i => exact q.elim
  | d kd =>
    cases e1 : p.get ρ with
    | none => rw [e1] at q; exact q.elim
    | some o =>
      rw [e1] at q
      cases o with
      | dct m ds =>
        simp only at q
        split at q
        · rename_i hc
          obtain ⟨rfl, hok⟩ := hc
          cases e3 : keyM false kd with
          | none => rw [e3] at q; exact q.elim
          | some k =>
            rw [e3] at q
            simp only at q
            obtain ⟨j, rfl, rfl⟩ := keyM_kD e3
            refine hp Hf H O σ ρ _ s e1 hok rfl _ fun l rm _ _ => ?_
            cases rm with
            | @dk _ kvs _ h r =>
              obtain rfl : y = kV j := (keyD_ok (show RD Z.K Hf y (kD j) from ry) (k := j) (by cases j <;> rfl)).1
              refine ⟨l, valV kvs j, rfl, .inl ⟨kvs, j, .inl h, rfl, rfl⟩, ?_⟩
              rcases r.at (j := j) with ⟨h1, h2⟩ | ⟨d, v, h1, h2, _⟩
              · rw [h1] at q; rw [h2]; exact q Hf H s Gr.refl Kp.refl _ (.bl _)
              · rw [h1] at q; rw [h2]; exact q Hf H s Gr.refl Kp.refl _ (.bl _)
        · exact q.elim
      | _ => exact q.elim
theorem d_pinK {c : Str} {tp tk : TE} {p : Pl} {fk : Rho → R AV} (hk : DE Z W tk fk) (hp : DPl Z c tp p) : DE Z W (tDIn tk tp) (fPIn p false c false fk) := by
  intro Hf H O σ ρ s Q q
  refine hk.bind s q fun a ρ1 y Hf1 H1 s1 g1 k1 ry q1 => ?_
  have := pinK (neg := false) (Q := Q) hp s1 ry q1
  simpa using this
theorem d_pninK {c : Str} {tp tk : TE} {p : Pl} {fk : Rho → R AV} (hk : DE Z W tk fk) (hp : DPl Z c tp p) : DE Z W (tDNotIn tk tp) (fPIn p false c true fk) := by
  intro Hf H O σ ρ s Q q
  refine hk.bind s q fun a ρ1 y Hf1 H1 s1 g1 k1 ry q1 => ?_
  have := pinK (neg := true) (Q := Q) hp s1 ry q1
  simpa using this
def kPPut (p : Pl) (n : Bool) (c : Str) (gk : Rho → Option Pd) (a : AV) (ρ : Rho) : R Fl := match a, p.get ρ with
  | .d y, some (.dct m ds) => if m = n ∧ p.ok c ρ = true ∧ ds.length < sizeLine then (match gk ρ with
      | some kd => (match keyM n kd with
        | some k => .ok .nx (p.put (.dct n (putN ds kd k y)) ρ)
        | none => .bad)
      | none => .bad) else .bad
  | _, _ => .bad
def fPPut (p : Pl) (n : Bool) (c : Str) (gk : Rho → Option Pd) (fv : Rho → R AV) : Rho → R Fl := fun ρ => (fv ρ).bind fun a ρ1 => kPPut p n c gk a ρ1
theorem s_pputN {c : Str} {tp tk tv : TE} {p : Pl} {gk : Rho → Option Pd} {fv : Rho → R AV} (hv : DE Z W tv fv) (hp : DPl Z c tp p) (hk : DK Z tk gk) : DS Z W (sNPut Z.K tp tk tv) (fPPut p true c gk fv) := by
  intro Hf H O σ ρ s En q
  refine DJ.bindS hv s q fun a ρ1 v Hf1 H1 s1 g1 k1 rv q1 => ?_
  unfold kPPut at q1
  cases a with
  | sl i => exact q1.elim
  | d y =>
    cases e1 : p.get ρ1 with
    | none => rw [e1] at q1; exact q1.elim
    | some o =>
      rw [e1] at q1
      cases o with
      | dct m ds =>
        simp only at q1
        split at q1
        · rename_i hc
          obtain ⟨rfl, hok, hz⟩ := hc
          cases e2 : gk ρ1 with
          | none => rw [e2] at q1; exact q1.elim
          | some kd =>
            rw [e2] at q1
            simp only at q1
            cases e3 : keyM true kd with
            | none => rw [e3] at q1; exact q1.elim
            | some k =>
              rw [e3] at q1
              refine hp Hf1 H1 O σ ρ1 _ s1 e1 hok rfl _ fun l rm hO wb => ?_
              refine hk Hf1 H1 O σ ρ1 kd s1 e2 _ fun yv Hf2 H2 g2 ry => ?_
              cases rm with
              | @dn _ xs _ h r =>
                obtain ⟨ng, hd, b, rfl⟩ := nget_of (Z := Z) g2.ex (g2.eh _ _ h) (r.mono g2.ef) ry e3
                refine ⟨l, b, xs, k, rfl, rfl, ng, by rw [r.length]; exact hz, fun u ru => ?_⟩
                have r2 := (r.mono g2.ef).put (b := b) (k := k) (kd := kd) (v := v) (r := u) ry hd ru (RD.mono g2.ef (show RD Z.K Hf1 v y from rv))
                exact q1 Hf2 _ O σ (wb Hf2 H2 _ _ g2 (.dn upd_same r2)) ((g1.trans g2.gr).chg hO) Orl.refl ((k1.trans (Pl.kp e1)).kq)
        · exact q1.elim
      | _ => exact q1.elim
theorem s_pputK {c : Str} {tp tk tv : TE} {p : Pl} {gk : Rho → Option Pd} {fv : Rho → R AV} (hv : DE Z W tv fv) (hp : DPl Z c tp p) (hk : DK Z tk gk) : DS Z W (sDPut tp tk tv) (fPPut p false c gk fv) := by
  intro Hf H O σ ρ s En q
  refine DJ.bindS hv s q fun a ρ1 v Hf1 H1 s1 g1 k1 rv q1 => ?_
  unfold kPPut at q1
  cases a with
  | sl i => exact q1.elim
  | d y =>
    cases e1 : p.get ρ1 with
    | none => rw [e1] at q1; exact q1.elim
    | some o =>
      rw [e1] at q1
      cases o with
      | dct m ds =>
        simp only at q1
        split at q1
        · rename_i hc
          obtain ⟨rfl, hok, hz⟩ := hc
          cases e2 : gk ρ1 with
          | none => rw [e2] at q1; exact q1.elim
          | some kd =>
            rw [e2] at q1
            simp only at q1
            cases e3 : keyM false kd with
            | none => rw [e3] at q1; exact q1.elim
            | some k =>
              rw [e3] at q1
              obtain ⟨j, rfl, rfl⟩ := keyM_kD e3
              refine hp Hf1 H1 O σ ρ1 _ s1 e1 hok rfl _ fun l rm hO wb => ?_
              refine hk Hf1 H1 O σ ρ1 _ s1 e2 _ fun yv Hf2 H2 g2 ry => ?_
              cases rm with
              | @dk _ kvs _ h r =>
                obtain rfl : yv = kV j := (keyD_ok ry (k := j) (by cases j <;> rfl)).1
                have r2 := (RKs.mono g2.ef r).put (j := j) (RD.mono g2.ef (show RD Z.K Hf1 v y from rv))
                exact ⟨l, _, rfl, DPut.k (g2.eh _ _ h) (by rw [r.length']; exact hz), q1 Hf2 _ O σ (wb Hf2 H2 _ _ g2 (.dk upd_same r2)) ((g1.trans g2.gr).chg hO) Orl.refl ((k1.trans (Pl.kp e1)).kq)⟩
        · exact q1.elim
      | _ => exact q1.elim
end
end Dt
/-! new things, fields, while, defs that take or give things -/
namespace Dt
open PySem PySem.Spec L2 Evl PyProof.Rows
variable [WD]
/-- v stands for the new thing o -/
def RMn (K : PySem.W.Frag) (H0 Hf H : Hp) (v : V) (o : Mo) : Prop := ∃ fp, RM K Hf H v o fp ∧ fp.Nodup ∧ ∀ a ∈ fp, H0 a = none ∧ Hf a = none ∧ ∃ u, H a = some u
def DM (Z : Zx) (W : WX) (t : TE) (f : Rho → R Mo) : Prop := DJ Z W (fun H0 Hf H _ v a => RMn Z.K H0 Hf H v a) t f
section
variable {Z : Zx} {W : WX}
def fNewD (n : Bool) : Rho → R Mo := fun ρ => .ok (.dct n []) ρ
theorem m_newN : DM Z W tNewN (fNewD true) := by
  intro Hf H O σ ρ s Q p q nq
  have g := Pg.lay (o := DkN q []) s.ex nq
  exact p _ _ (s.grow g) g.gr Kp.refl _ ⟨[q], .dn upd_same .nil, by simp, fun a ha => by
    obtain rfl : a = q := by simpa using ha
    exact ⟨nq, fresh_back s.ex nq, _, upd_same⟩⟩
theorem m_newK : DM Z W tDNewK (fNewD false) := by
  intro Hf H O σ ρ s Q p q nq
  have g := Pg.lay (o := .dK []) s.ex nq
  exact p _ _ (s.grow g) g.gr Kp.refl _ ⟨[q], .dk upd_same .nil, by simp, fun a ha => by
    obtain rfl : a = q := by simpa using ha
    exact ⟨nq, fresh_back s.ex nq, _, upd_same⟩⟩
def fNewL (f : Rho → R (List Pd)) : Rho → R Mo := fun ρ => (f ρ).bind fun xs ρ1 => .ok (.lst xs) ρ1
theorem m_newL {t : TE} {f : Rho → R (List Pd)} (h : DL Z W t f) : DM Z W t (fNewL f) := by
  intro Hf H O σ ρ s Q p
  refine DJ.bind h s p fun xs ρ1 v Hf1 H1 s1 g1 k1 rl p1 => ?_
  obtain ⟨l, vs, rfl, h0, h1, h2, h3⟩ := rl
  exact p1 Hf1 H1 s1 Gr.refl Kp.refl _ ⟨[l], .lst h1 h3, by simp, fun a ha => by
    obtain rfl : a = l := by simpa using ha
    exact ⟨h0, h2, _, h1⟩⟩
/-! ### into a slot -/
theorem SR.newM {K : PySem.W.Frag} {Hf H : Hp} {O : Addr → Prop} {σ : L2.St} {ρ : Rho} (s : SR K Hf H O σ ρ) {i : Nat} {v : V} {o : Mo} {fp : List Addr} (hi : i < ρ.length) (r : RM K Hf H v o fp) (nd : fp.Nodup) (fr : ∀ a ∈ fp, ¬ O a ∧ Hf a = none ∧ ∃ u, H a = some u) :
    SR K Hf H (fun a => O a ∨ a ∈ fp) (σ.set i (some v)) (ρ.set i (.m false o)) := by
  have back : ∀ {j : Nat} {t : Sl}, (ρ.set i (.m false o))[j]? = some t → (∀ c u, t ≠ .m c u) → i ≠ j ∧ ρ[j]? = some t := fun {j t} h n => by
    by_cases z : i = j
    · subst z; rw [List.getElem?_set_self hi] at h; cases h; exact (n _ _ rfl).elim
    · rw [List.getElem?_set_ne z] at h; exact ⟨z, h⟩
  refine ⟨s.ex, fun a h => ?_, by simp [s.len], fun j y h => ?_, fun j c xs h => ?_, fun j k c d xs ys l a1 a2 a3 a4 => ?_, fun j y h => ?_, ?_⟩
  · rcases h with h | h
    · exact s.otr a h
    · exact ⟨(fr a h).2.2, (fr a h).2.1⟩
  · obtain ⟨z, h⟩ := back h fun _ _ z => by cases z
    rw [List.getElem?_set_ne z]
    exact s.slot j y h
  · obtain ⟨z, h⟩ := back h fun _ _ z => by cases z
    obtain ⟨l, vs, p1, p2, p3, p4⟩ := s.own j c xs h
    exact ⟨l, vs, by rw [List.getElem?_set_ne z]; exact p1, .inl p2, p3, p4⟩
  · obtain ⟨z1, b1⟩ := back a1 fun _ _ z => by cases z
    obtain ⟨z2, b2⟩ := back a2 fun _ _ z => by cases z
    rw [List.getElem?_set_ne z1] at a3
    rw [List.getElem?_set_ne z2] at a4
    exact s.dis j k c d xs ys l b1 b2 a3 a4
  · obtain ⟨z, h⟩ := back h fun _ _ z => by cases z
    rw [List.getElem?_set_ne z]
    exact s.exc j y h
  · obtain ⟨w, h1, h2⟩ := s.mr
    refine ⟨fun a => if a ∈ fp then some i else w a, fun j c u h => ?_, fun j c xs l h p2 => ?_⟩
    · by_cases z : i = j
      · subst z
        rw [List.getElem?_set_self hi] at h
        cases h
        exact ⟨v, fp, List.getElem?_set_self (by rw [s.len]; exact hi), r, nd, fun a ha => ⟨.inr ha, if_pos ha⟩⟩
      · rw [List.getElem?_set_ne z] at h ⊢
        obtain ⟨u', fq, p1, p2, p3, p4⟩ := h1 j c u h
        refine ⟨u', fq, p1, p2, p3, fun a ha => ⟨.inl (p4 a ha).1, ?_⟩⟩
        show (if a ∈ fp then some i else w a) = _
        rw [if_neg fun y => (fr a y).1 (p4 a ha).1]
        exact (p4 a ha).2
    · obtain ⟨z, h⟩ := back h fun _ _ z => by cases z
      rw [List.getElem?_set_ne z] at p2
      obtain ⟨l', vs, q1, q2, _⟩ := s.own j c xs h
      rw [p2] at q1
      cases q1
      show (if l ∈ fp then some i else w l) = none
      rw [if_neg fun y => (fr l y).1 q2]
      exact h2 j c xs l h p2
omit [WD] in
/-- a new thing into a slot: owned from now on -/
def putMo (i : Nat) (o : Mo) (ρ : Rho) : Option Rho := match ρ[i]? with
  | some (.own true _) => none
  | some (.m true _) => none
  | some _ => some (ρ.set i (.m false o))
  | none => none
omit [WD] in
theorem putMo_some {i : Nat} {x : Mo} {ρ ρ' : Rho} (h : putMo i x ρ = some ρ') : i < ρ.length ∧ ρ' = ρ.set i (.m false x) ∧ (∀ xs, ρ[i]? ≠ some (.own true xs)) ∧ ∀ o, ρ[i]? ≠ some (.m true o) := by
  unfold putMo at h
  cases e : ρ[i]? with
  | none => rw [e] at h; cases h
  | some z =>
    rw [e] at h
    have hi := (List.getElem?_eq_some_iff.mp e).1
    cases z with
    | no => cases h; exact ⟨hi, rfl, (fun _ q => by cases q), fun _ q => by cases q⟩
    | x _ => cases h; exact ⟨hi, rfl, (fun _ q => by cases q), fun _ q => by cases q⟩
    | m b _ =>
      cases b with
      | true => cases h
      | false => cases h; exact ⟨hi, rfl, (fun _ q => by cases q), fun _ q => by cases q⟩
    | d y => cases h; exact ⟨hi, rfl, (fun _ q => by cases q), fun _ q => by cases q⟩
    | own b xs =>
      cases b with
      | true => cases h
      | false => cases h; exact ⟨hi, rfl, (fun _ q => by cases q), fun _ q => by cases q⟩
def fSetM (f : Rho → R Mo) (i : Nat) : Rho → R Fl := fun ρ => (f ρ).bind fun o ρ1 => match putMo i o ρ1 with
  | some ρ2 => .ok .nx ρ2
  | none => .bad
theorem fresh_no {K : PySem.W.Frag} {Hf H : Hp} {O : Addr → Prop} {σ : L2.St} {ρ : Rho} (s : SR K Hf H O σ ρ) {a : Addr} (h : H a = none) : ¬ O a := fun z => by
  obtain ⟨⟨o, q⟩, _⟩ := s.otr a z
  rw [h] at q; cases q
theorem s_setM {i : Nat} {t : TE} {f : Rho → R Mo} (he : DM Z W t f) : DS Z W (tAsg t (gName i)) (fSetM f i) := by
  intro Hf H O σ ρ s En p
  refine DJ.bindS he s p fun o ρ1 v Hf1 H1 s1 g1 k1 rv p1 => ?_
  obtain ⟨fp, r1, r2, r3⟩ := rv
  cases e : putMo i o ρ1 with
  | none => rw [e] at p1; exact p1.elim
  | some ρ2 =>
    rw [e] at p1
    obtain ⟨hi, rfl, ni⟩ := putMo_some e
    exact p1 Hf1 H1 _ _ (s1.newM hi r1 r2 fun a ha => ⟨fresh_no s (r3 a ha).1, (r3 a ha).2⟩) g1 (fun a z => z.elim .inl fun z => .inr (r3 a z).1) (Kq.trans k1.kq (Kq.setS ni.1 ni.2))
def fRetM (f : Rho → R Mo) : Rho → R Fl := fun ρ => (f ρ).bind fun o ρ1 => .ok (.rm o) ρ1
theorem s_retM {t : TE} {f : Rho → R Mo} (he : DM Z W t f) : DS Z W (tRet t) (fRetM f) := by
  intro Hf H O σ ρ s En p
  refine DJ.bindS he s p fun o ρ1 v Hf1 H1 s1 g1 k1 rv p1 => ?_
  obtain ⟨fp, r1, r2, r3⟩ := rv
  exact p1 Hf1 H1 O σ s1 g1 Orl.refl k1.kq v fp r1 r2 fun a ha => ⟨.inl (r3 a ha).1, (r3 a ha).2⟩
/-- return x, x an owned thing of this def -/
def fRetV (i : Nat) : Rho → R Fl := fun ρ => match ρ[i]? with
  | some (.m false o) => .ok (.rm o) ρ
  | _ => .bad
theorem s_retV {i : Nat} : DS Z W (tRet (tVar i)) (fRetV i) := by
  intro Hf H O σ ρ s En p
  unfold fRetV at p
  cases e : ρ[i]? with
  | none => rw [e] at p; exact p.elim
  | some z =>
    rw [e] at p
    cases z with
    | m b o =>
      cases b with
      | true => exact p.elim
      | false =>
        obtain ⟨v, fp, q1, q2, q3, q4, _⟩ := s.putM e
        exact ⟨v, q1, p Hf H O σ s Gr.refl Orl.refl Kq.refl v fp q2 q3 fun a ha => ⟨.inr (q4 a ha), (s.otr a (q4 a ha)).2, (s.otr a (q4 a ha)).1⟩⟩
    | _ => exact p.elim
/-! ### fields -/
def fFld (i : Nat) (c f : Str) : Rho → R AV := fun ρ => match ρ[i]? with
  | some (.m _ (.obj d fs)) => if d = c then (match lookM f fs with
      | some (.dat x) => .ok (.d x) ρ
      | _ => .bad) else .bad
  | _ => .bad
theorem d_fld {i : Nat} {c f : Str} (hc : Cls Z.K (cA Z.K c)) (hn : NoAttr Z.K (cA Z.K c) f) : DE Z W (tFld Z.K (tVar i) f) (fFld i c f) := by
  intro Hf H O σ ρ s Q p
  unfold fFld at p
  cases e : ρ[i]? with
  | none => rw [e] at p; exact p.elim
  | some z =>
    rw [e] at p
    cases z with
    | m b o =>
      cases o with
      | obj d fs =>
        simp only at p
        split at p
        · rename_i hd
          subst hd
          cases el : lookM f fs with
          | none => rw [el] at p; exact p.elim
          | some u =>
            rw [el] at p
            cases u with
            | dat x =>
              obtain ⟨v, fp, q1, q2, q3, q4, _⟩ := s.putM e
              cases q2 with
              | @obj a dx _ fvs _ fq h r =>
                obtain ⟨v, fr, p1, p2, p3⟩ := r.look el
                cases p2 with
                | dat rd => exact ⟨.ref a, q1, a, _, dx, fvs, v, rfl, h, hc, hn, p1, p Hf H s Gr.refl Kp.refl v rd⟩
            | _ => exact p.elim
        · exact p.elim
      | _ => exact p.elim
    | _ => exact p.elim
/-- .. as a value behind a place -/
def gFld (i : Nat) (c f : Str) (ρ : Rho) : Option Pd := match ρ[i]? with
  | some (.m _ (.obj d fs)) => if d = c then (match lookM f fs with
      | some (.dat x) => some x
      | _ => none) else none
  | _ => none
def putFS (i : Nat) (c f : Str) (u : Mo) (ρ : Rho) : Option Rho := match ρ[i]? with
  | some (.m b (.obj d fs)) => if d = c ∧ fs.length < 1000 then some (ρ.set i (.m b (.obj d (putFM f u fs)))) else none
  | _ => none
theorem fld_put {i : Nat} {c f : Str} {u : Mo} {Hf H : Hp} {O : Addr → Prop} {σ : L2.St} {ρ ρ' : Rho} (hc : Cls Z.K (cA Z.K c)) (hn : NoAttr Z.K (cA Z.K c) f) (s : SR Z.K Hf H O σ ρ) (e : putFS i c f u ρ = some ρ') {y : V} {fn : List Addr} (r : RM Z.K Hf H y u fn) (dn : fn.Nodup) (fr : ∀ a ∈ fn, ¬ O a ∧ Hf a = none ∧ ∃ u, H a = some u) :
    ∃ a dx fs, σ[i]? = some (some (.ref a)) ∧ H a = some (.ins (cA Z.K c) dx fs) ∧ fs.length < 1000 ∧ O a ∧ SR Z.K Hf (upd H a (.ins (cA Z.K c) dx (putF f y fs))) (fun x => O x ∨ x ∈ fn) σ ρ' ∧ Kp ρ ρ' := by
  unfold putFS at e
  cases e0 : ρ[i]? with
  | none => rw [e0] at e; cases e
  | some z =>
    rw [e0] at e
    cases z with
    | m b o =>
      cases o with
      | obj d fs =>
        simp only at e
        split at e
        · rename_i hd
          obtain ⟨rfl, hz⟩ := hd
          cases e
          obtain ⟨v, fp, q1, q2, q3, q4, q5⟩ := s.putM e0
          cases q2 with
          | @obj a dx _ fvs _ fq h rs =>
            rw [List.nodup_cons] at q3
            have hOa : O a := q4 a (by simp)
            have ha : ∀ x, ¬ O x → x ≠ a := fun x hx z => hx (z ▸ hOa)
            have r' : RM Z.K Hf (upd H a (.ins (cA Z.K d) dx (putF f y fvs))) y u fn := r.mono (Ex.refl _) fun x hx t ht => by rw [upd_ne (ha x (fr x hx).1)]; exact ht
            obtain ⟨fp', t1, t2, t3⟩ := RMs.put (f := f) (Ex.refl Hf) r' dn rs q3.2 (fun x hx t ht => by rw [upd_ne (fun z : x = a => q3.1 (by rw [← z]; exact hx))]; exact ht) (fun x hx y => (fr x hx).1 (q4 x (List.mem_cons_of_mem _ y)))
            have hna : a ∉ fp' := fun y => by
              rcases t3 a y with z | z
              · exact q3.1 z
              · exact (fr a z).1 hOa
            refine ⟨a, dx, fvs, q1, h, by rw [rs.length]; exact hz, hOa, q5 Hf _ _ _ (a :: fp') (Ex.refl _) (fun x t ht => ?_) (fun x hx => ?_) (fun x t _ nx ht => ?_) (fun x hx _ => .inl hx) (.obj upd_same t1) (List.nodup_cons.mpr ⟨hna, t2⟩) (fun x hx => ?_), kp_putM e0⟩
            · rw [upd_ne (ne_of_none ht (s.otr a hOa).2)]; exact s.ex x t ht
            · have hx' : (∃ o, H x = some o) ∧ Hf x = none := hx.elim (s.otr x) fun z => ⟨(fr x z).2.2, (fr x z).2.1⟩
              refine ⟨?_, hx'.2⟩
              by_cases z : x = a
              · subst z; exact ⟨_, upd_same⟩
              · rw [upd_ne z]; exact hx'.1
            · rw [upd_ne (fun z => nx (by simp [z]))]; exact ht
            · rcases List.mem_cons.mp hx with rfl | hx
              · exact ⟨.inl hOa, .inl (by simp)⟩
              · rcases t3 x hx with z | z
                · exact ⟨.inl (q4 x (List.mem_cons_of_mem _ z)), .inl (List.mem_cons_of_mem _ z)⟩
                · exact ⟨.inr z, .inr (fr x z).1⟩
        · cases e
      | _ => cases e
    | _ => cases e
def fFSetD (i : Nat) (c f : Str) (fv : Rho → R AV) : Rho → R Fl := fun ρ => (fv ρ).bind fun a ρ1 => match a with
  | .d x => (match putFS i c f (.dat x) ρ1 with
    | some ρ2 => .ok .nx ρ2
    | none => .bad)
  | .sl _ => .bad
theorem s_fsetD {i : Nat} {c f : Str} {tv : TE} {fv : Rho → R AV} (hc : Cls Z.K (cA Z.K c)) (hn : NoAttr Z.K (cA Z.K c) f) (hv : DE Z W tv fv) : DS Z W (sFld Z.K (tVar i) tv f) (fFSetD i c f fv) := by
  intro Hf H O σ ρ s En p
  refine DJ.bindS hv s p fun a ρ1 v Hf1 H1 s1 g1 k1 rv p1 => ?_
  cases a with
  | sl j => exact p1.elim
  | d x =>
    simp only at p1
    cases e : putFS i c f (.dat x) ρ1 with
    | none => rw [e] at p1; exact p1.elim
    | some ρ2 =>
      rw [e] at p1
      obtain ⟨a, dx, fs, h1, h2, h3, h4, h5, h6⟩ := fld_put hc hn s1 e (.dat rv) (by simp) (fun _ h => by cases h)
      exact ⟨.ref a, h1, a, _, dx, fs, rfl, h2, hc, hn, h3, p1 Hf1 _ _ σ h5 (g1.chg h4) (fun x hx => .inl (hx.elim id fun z => by cases z)) (k1.trans h6).kq⟩
def fFSetM (i : Nat) (c f : Str) (fv : Rho → R Mo) : Rho → R Fl := fun ρ => (fv ρ).bind fun o ρ1 => match putFS i c f o ρ1 with
  | some ρ2 => .ok .nx ρ2
  | none => .bad
theorem s_fsetM {i : Nat} {c f : Str} {tv : TE} {fv : Rho → R Mo} (hc : Cls Z.K (cA Z.K c)) (hn : NoAttr Z.K (cA Z.K c) f) (hv : DM Z W tv fv) : DS Z W (sFld Z.K (tVar i) tv f) (fFSetM i c f fv) := by
  intro Hf H O σ ρ s En p
  refine DJ.bindS hv s p fun o ρ1 v Hf1 H1 s1 g1 k1 rv p1 => ?_
  obtain ⟨fn, r1, r2, r3⟩ := rv
  cases e : putFS i c f o ρ1 with
  | none => rw [e] at p1; exact p1.elim
  | some ρ2 =>
    rw [e] at p1
    obtain ⟨a, dx, fs, h1, h2, h3, h4, h5, h6⟩ := fld_put hc hn s1 e r1 r2 (fun x hx => ⟨fresh_no s (r3 x hx).1, (r3 x hx).2⟩)
    exact ⟨.ref a, h1, a, _, dx, fs, rfl, h2, hc, hn, h3, p1 Hf1 _ _ σ h5 (g1.chg h4) (fun x hx => hx.elim .inl fun z => .inr (r3 x z).1) (k1.trans h6).kq⟩
end
/-! ### while -/
def whRun (c : Rho → R Bool) (fb : Rho → R Fl) : Nat → Rho → R Fl
  | 0, _ => .bad
  | n + 1, ρ => match c ρ with
    | .bad => .bad
    | .ex e ρ1 => .ex e ρ1
    | .ok false ρ1 => .ok .nx ρ1
    | .ok true ρ1 => match fb ρ1 with
      | .ok .nx ρ2 => whRun c fb n ρ2
      | .ok .ct ρ2 => whRun c fb n ρ2
      | .ok .bk ρ2 => .ok .nx ρ2
      | r => r
open Classical in
noncomputable def fWhile (c : Rho → R Bool) (fb : Rho → R Fl) : Rho → R Fl := fun ρ => if h : ∃ n, whRun c fb n ρ ≠ .bad then whRun c fb (choose h) ρ else .bad
omit [WD] in
theorem whRun_more {c : Rho → R Bool} {fb : Rho → R Fl} : ∀ {n : Nat} {ρ : Rho}, whRun c fb n ρ ≠ .bad → ∀ m, n ≤ m → whRun c fb m ρ = whRun c fb n ρ
  | 0, _, h, _, _ => (h rfl).elim
  | n + 1, ρ, h, 0, hm => by omega
  | n + 1, ρ, h, m + 1, hm => by
    simp only [whRun] at h ⊢
    cases e : c ρ with
    | bad => rfl
    | ex _ _ => rfl
    | ok b ρ1 =>
      rw [e] at h
      cases b with
      | false => rfl
      | true =>
        simp only at h ⊢
        cases e2 : fb ρ1 with
        | bad => rfl
        | ex _ _ => rfl
        | ok fl ρ2 =>
          rw [e2] at h
          cases fl with
          | nx => exact whRun_more h m (by omega)
          | ct => exact whRun_more h m (by omega)
          | _ => rfl
omit [WD] in
/-- a while that ends -/
theorem fWhile_of {c : Rho → R Bool} {fb : Rho → R Fl} {n : Nat} {ρ : Rho} {r : R Fl} (h : whRun c fb n ρ = r) (hr : r ≠ .bad) : fWhile c fb ρ = r := by
  have hx : ∃ n, whRun c fb n ρ ≠ .bad := ⟨n, by rw [h]; exact hr⟩
  unfold fWhile
  rw [dif_pos hx]
  have hc := Classical.choose_spec hx
  rcases Nat.le_total (Classical.choose hx) n with l | l
  · rw [← whRun_more hc n l]; exact h
  · rw [whRun_more (by rw [h]; exact hr) _ l]; exact h
section
variable {Z : Zx} {W : WX}
theorem s_while {tc : TT} {tb : TS} {c : Rho → R Bool} {fb : Rho → R Fl} (hc : DT Z W tc c) (hb : DS Z W tb fb) : DS Z W (tWhile tc tb) (fWhile c fb) := by
  intro Hf H O σ ρ s En p
  unfold fWhile at p
  split at p
  case isFalse => exact p.elim
  rename_i hx
  refine ⟨fun m σ' H' => ∃ Hf' O' ρ', SR Z.K Hf' H' O' σ' ρ' ∧ Gr O Hf H Hf' H' ∧ Orl O H O' ∧ Kq ρ ρ' σ σ' ∧ PostS Z W O σ ρ Hf H En (whRun c fb m ρ'), ⟨_, Hf, O, ρ, s, Gr.refl, Orl.refl, Kq.refl, p⟩, ?_⟩
  rintro m σ' H' ⟨Hf', O', ρ', s', g', o', k', p'⟩
  cases m with
  | zero => exact p'.elim
  | succ m =>
    simp only [whRun] at p'
    refine hc Hf' H' O' σ' ρ' s' _ ?_
    cases ec : c ρ' with
    | bad => rw [ec] at p'; exact p'.elim
    | ex e ρ1 =>
      rw [ec] at p'
      exact fun cls d Hf1 H1 s1 g1 k1 xr => p' cls d Hf1 H1 O' σ' s1 (g'.transO g1 o') o' (k'.trans k1.kq) xr
    | ok b ρ1 =>
      rw [ec] at p'
      intro Hf1 H1 s1 g1 k1 v rv
      subst rv
      have gA := g'.transO g1 o'
      have kA := k'.trans (Kp.kq (σ := σ') k1)
      cases v with
      | false => exact p' Hf1 H1 O' σ' s1 gA o' kA
      | true =>
        simp only at p'
        show ∃ N : L2.St → Hp → Prop, _ ∧ tb _ σ' H1
        refine ⟨fun σ2 H2 => ∃ Hf' O' ρ', SR Z.K Hf' H2 O' σ2 ρ' ∧ Gr O Hf H Hf' H2 ∧ Orl O H O' ∧ Kq ρ ρ' σ σ2 ∧ PostS Z W O σ ρ Hf H En (whRun c fb m ρ'), fun σ2 H2 q => ⟨m, Nat.lt_succ_self m, q⟩, ?_⟩
        refine hb Hf1 H1 O' σ' ρ1 s1 _ ?_
        cases eb : fb ρ1 with
        | bad => rw [eb] at p'; exact p'.elim
        | ex e ρ2 =>
          rw [eb] at p'
          exact fun cls d Hf2 H2 O2 σ2 s2 g2 o2 k2 xr => p' cls d Hf2 H2 O2 σ2 s2 (gA.transO g2 o') (o'.trans o2 gA) (kA.trans k2) xr
        | ok fl ρ2 =>
          rw [eb] at p'
          intro Hf2 H2 O2 σ2 s2 g2 o2 k2
          have gB := gA.transO g2 o'
          have oB := o'.trans o2 gA
          have kB := kA.trans k2
          cases fl with
          | nx => exact ⟨Hf2, O2, ρ2, s2, gB, oB, kB, p'⟩
          | ct => exact ⟨Hf2, O2, ρ2, s2, gB, oB, kB, p'⟩
          | bk => exact p' Hf2 H2 O2 σ2 s2 gB oB kB
          | rt x => exact p' Hf2 H2 O2 σ2 s2 gB oB kB
          | rl ys => exact fun l vs h0 h1 h2 h3 h4 => p' Hf2 H2 O2 σ2 s2 gB oB kB l vs (gA.gone h0) h1 h2 h3 h4
          | rm o => exact fun v fp h0 h1 h2 => p' Hf2 H2 O2 σ2 s2 gB oB kB v fp h0 h1 fun a ha => ⟨(h2 a ha).1.imp gA.gone id, (h2 a ha).2⟩
end
end Dt
/-! methods, constructors, defs that hand back a thing or change one -/
namespace Dt
open PySem PySem.Spec L2 Evl PyProof.Rows
/-! ### method calls and constructors where what is raised is wished for at the slots -/
section
variable {X : Cx} {CX : CXT} {k : Nat} {f C : Addr} {fd : FuncData} {ps : List Str} {sp : Sp} {E : L2.St → XK} {x m : Str} {p pos apos : Pos} {e o : Expr} {es : List Expr} {ta : TE} {t : TA}
def tMethE (C : Addr) (m : Str) (sp : Sp) (E : L2.St → XK) (ta : TE) (t : TA) : TE := fun σ H Q => ta σ H fun x H1 => ∃ a dx fs, x = .ref a ∧ H1 a = some (.ins C dx fs) ∧ fs.lookup m = none ∧ t σ H1 fun vs H2 => sp (x :: vs) H2 Q (E σ)
theorem pe_methE {pl : Sem Bool} (he : PE X o ta) (c : Cls X.K C) (hm : Meth X.K C m f) (F : FnOk X.prog X.w X.K X.mg X.base CX k f fd ps sp) (hr : Room k X.A) (hb : Binds X.K fd ps []) (hx : ∀ σ, PassesAt CX X σ (E σ)) (ha : PA X (e :: es) t)
    (hst : starEach (e :: es) X.env = (false, eval e X.env) :: starEach es X.env := by rfl) (hpl : (backTo pos (starEach es X.env)).any (·.1) = false := by rfl)
    (ht : eval (.Call (.Attribute o m apos) (e :: es) [] pos) X.env = (do
      let ov ← eval o X.env
      standAt apos.atName
      let (f, first) ← holding [ov] (getMethod ov m pl)
      callWith pos f first (backTo pos (starEach (e :: es) X.env)) (backToKw pos (keywordEach [] X.env))) := by rfl) :
    PE X (.Call (.Attribute o m apos) (e :: es) [] pos) (tMethE C m sp E ta t) := by
  refine ⟨fun pins s σ H Q I h => ?_⟩
  refine PySem.W.methodCall_KW (pl := pl) (thn (he.run pins s σ H _ I h) fun u s1 ⟨x, H1, I1, rx, a, dx, fs, ex, ea, l, q⟩ => ?_) ht
  subst ex
  obtain rfl : u = Value.ref a := rx
  refine getmeth_ok I1 ea c hm l ?_
  refine PySem.W.callWith_K (first := [.ref a]) (h₀ := X.base) I.ok.mod.kin hm.kp (thn (ha.run pos pins s1 σ H1 _ I1 q) fun us s2 ⟨vs, H2, I2, r, q2⟩ => ⟨I2.kIn, ?_⟩) hst hpl
  exact run_fnS (us := .ref a :: us) (vs := .ref a :: vs) F hr hb (hx σ) I2 (.cons rfl r) q2
theorem pe_methE0 {pl : Sem Bool} (he : PE X o ta) (c : Cls X.K C) (hm : Meth X.K C m f) (F : FnOk X.prog X.w X.K X.mg X.base CX k f fd ps sp) (hr : Room k X.A) (hb : Binds X.K fd ps []) (hx : ∀ σ, PassesAt CX X σ (E σ))
    (ht : eval (.Call (.Attribute o m apos) [] [] pos) X.env = (do
      let ov ← eval o X.env
      standAt apos.atName
      let (f, first) ← holding [ov] (getMethod ov m pl)
      callWith pos f first (backTo pos (starEach [] X.env)) (backToKw pos (keywordEach [] X.env))) := by rfl) :
    PE X (.Call (.Attribute o m apos) [] [] pos) (tMethE C m sp E ta tNil) := by
  refine ⟨fun pins s σ H Q I h => ?_⟩
  refine PySem.W.methodCall_KW (pl := pl) (thn (he.run pins s σ H _ I h) fun u s1 ⟨x, H1, I1, rx, a, dx, fs, ex, ea, l, q⟩ => ?_) ht
  subst ex
  obtain rfl : u = Value.ref a := rx
  refine getmeth_ok I1 ea c hm l ?_
  exact PySem.W.callWith_K0 (first := [.ref a]) I1.kIn hm.kp (run_fnS (us := [.ref a]) (vs := [.ref a]) F hr hb (hx σ) I1 (.cons rfl .nil) q)
def tMakeE (C : Addr) (sp : Sp) (E : L2.St → XK) (t : TA) : TE := fun σ H Q => t σ H fun vs H1 => ∀ x dx, H1 x = none → H1 dx = none → dx ≠ x →
  sp (.ref x :: vs) (upd (upd H1 dx (.own x)) x (.ins C dx [])) (fun v H2 => v = .non ∧ Q (.ref x) H2) (E σ)
theorem run_makeE {pins : List (Addr × Obj)} {σ : L2.St} {H : Hp} {s : Shared} {Q : VK} {us : List Value} {vs : List V} (M : Mk X.K C f) (F : FnOk X.prog X.w X.K X.mg X.base CX k f fd ps sp) (hr : Room (k + 1) X.A) (hb : Binds X.K fd ps [])
    (hx : PassesAt CX X σ (E σ)) (I : Inv X pins σ H s) (r : Vals vs us)
    (h : ∀ x dx, H x = none → H dx = none → dx ≠ x → sp (.ref x :: vs) (upd (upd H dx (.own x)) x (.ins C dx [])) (fun v H2 => v = .non ∧ Q (.ref x) H2) (E σ)) :
    wpAny (model X.prog X.w) X.A (call (.ref C) us) (EP X pins σ Q) X.xe s := by
  have hq := h (s.heap.objs.size + 1) s.heap.objs.size (I.hok.fresh (Nat.le_succ _)) (I.hok.fresh (Nat.le_refl _)) (Nat.ne_of_lt (Nat.lt_succ_self _))
  have I2 := Inv.made (C := C) I
  have r2 : Vals (V.ref (s.heap.objs.size + 1) :: vs) (Value.ref (s.heap.objs.size + 1) :: us) := .cons rfl r
  have hl : (Value.ref (s.heap.objs.size + 1) :: us).length = ps.length := by
    have e := r2.length
    rw [F.len _ _ _ _ hq] at e
    exact e.symm
  have hbd := hb _ (Value.ref (s.heap.objs.size + 1) :: us) I2.kIn (by rw [List.append_nil]; exact hl)
  rw [List.append_nil] at hbd
  refine wpAny_call (make_map (f := f) I.kIn M.makes M.init (beq_iff_eq.mp M.fn) (codeAny_mono (F.run _ X.stack _ _ ⟨Value.ref (s.heap.objs.size + 1) :: us, []⟩ (Value.ref (s.heap.objs.size + 1) :: us) _ _ (E σ) (hr.make C us [])
    (I2.env0.make C us []) hbd r2 hq) fun r s' hq' => ?_))
  cases r with
  | error e => exact hx pins _ _ e s' I2 hq'
  | ok fl =>
    cases fl with
    | ret u =>
      obtain ⟨v, H', I3, rv, ev, q3⟩ := I2.after hq'
      subst ev
      exact ⟨rv, ⟨V.ref (s.heap.objs.size + 1), H', I3, rfl, q3⟩⟩
    | next => exact False.elim hq'
    | brk => exact False.elim hq'
    | cont => exact False.elim hq'
theorem pe_makeE (M : Mk X.K C f) (F : FnOk X.prog X.w X.K X.mg X.base CX k f fd ps sp) (hr : Room (k + 1) X.A) (hg : Gl X x) (hm : X.mg x = some (.ref C)) (hb : Binds X.K fd ps []) (hx : ∀ σ, PassesAt CX X σ (E σ))
    (ha : PA X (e :: es) t) (hdb : (x == ("__debug__" : Str)) = false := by decide) (he : starEach (e :: es) X.env = (false, eval e X.env) :: starEach es X.env := by rfl) (hpl : (backTo pos (starEach es X.env)).any (·.1) = false := by rfl) :
    PE X (.Call (.Name x p) (e :: es) [] pos) (tMakeE C sp E t) := by
  refine ⟨fun pins s σ H Q I h => ?_⟩
  refine wpAny_Call_Name_kw (ld_glob I hg hm ?_ hdb)
  refine PySem.W.callWith_K (h₀ := X.base) I.ok.mod.kin M.kp (thn (ha.run pos pins s σ H _ I h) fun us s1 ⟨vs, H1, I1, r, q⟩ => ⟨I1.kIn, ?_⟩) he hpl
  exact run_makeE M F hr hb (hx σ) I1 r q
end
variable [WD]
/-! ### a def of data that may hand back a new thing -/
def endO : R Fl → R RV
  | .ok (.rt x) _ => .ok (.d x) []
  | .ok (.rl xs) _ => .ok (.l xs) []
  | .ok (.rm o) _ => .ok (.m o) []
  | .ok .nx _ => .ok (.d .none) []
  | .ex e _ => .ex e []
  | _ => .bad
def gO (n : Nat) (fb : Rho → R Fl) : Rho → R RV := fun as => endO (fb (as ++ List.replicate (n - as.length) .no))
def PostO (Z : Zx) (Hf H : Hp) (Q : VK) (E : XK) : R RV → Prop
  | .bad => False
  | .ok (.d x) _ => ∀ v Hf' H', Pg Hf H Hf' H' → RD Z.K Hf' v x → Q v H'
  | .ok (.l xs) _ => ∀ v Hf' H', Pg Hf H Hf' H' → RL Z.K H Hf' H' v xs → Q v H'
  | .ok (.m o) _ => ∀ v Hf' H', Pg Hf H Hf' H' → RMn Z.K H Hf' H' v o → Q v H'
  | .ex e _ => ∀ cls d Hf' H', Pg Hf H Hf' H' → XR Z Hf' H' cls d e → E cls d H'
def spO (Z : Zx) (n : Nat) (g : Rho → R RV) : Sp := fun vs H Q E => vs.length = n ∧ ∃ Hf xs, Ex Hf H ∧ RDs Z.K Hf vs xs ∧ PostO Z Hf H Q E (g (xs.map Sl.d))
section
variable {P : Program} {w : World} {K : PySem.W.Frag} {C : Str → Addr} {mg : Str → Option Value} {base : Heap} {x qual : Str} {params : Arguments} {body : List Stmt} {scope : Scope} {f : Addr} {fd : FuncData}
theorem fn_okO {N ps : List Str} {k : Nat} {fb : Rho → R Fl} (F : FunD K x qual params body scope [] [] f fd) (S : FnScope N ps scope)
    (hb : ∀ (cdv : Value) (A : Around) (outer : List Env) (s : Shared) (H : Hp) (E : XK), Room k (A.deeper (PyProof.Rows.envOfC qual scope s.heap.objs.size f cdv)) →
      Takes (cxOf (L2.CX P w) P w K mg base N qual scope f cdv A outer s H E) (fun cls d _ H => E cls d H) →
      PassesOwn (model P w) (A.deeper (PyProof.Rows.envOfC qual scope s.heap.objs.size f cdv)) (PyProof.Rows.envOfC qual scope s.heap.objs.size f cdv) (cxOf (L2.CX P w) P w K mg base N qual scope f cdv A outer s H E).xe →
      ∃ t, PSs (cxOf (L2.CX P w) P w K mg base N qual scope f cdv A outer s H E) body t ∧ DS ⟨K, C⟩ (fun cls d _ H => E cls d H) t fb) :
    FnOk P w K mg base (L2.CX P w) (k + 1) f fd ps (spO ⟨K, C⟩ ps.length (gO N.length fb)) := by
  refine F.ok S (fun vs H Q E h => h.1) (fun cdv A outer s H vs Q E hr h => ?_)
  obtain ⟨hl, Hf, xs, ex, r, p⟩ := h
  obtain ⟨t, h1, h2⟩ := hb cdv A outer s H E hr (takes_of rfl rfl rfl rfl) (passes_of (X := cxOf (L2.CX P w) P w K mg base N qual scope f cdv A outer s H E) rfl)
  refine ⟨t, h1, ?_⟩
  have s0 := r.args ex
  have hal : (xs.map Sl.d).length = vs.length := by rw [List.length_map, r.length]
  have st : SR K Hf H (fun _ => False) (L2.start N vs) (xs.map Sl.d ++ List.replicate (N.length - (xs.map Sl.d).length) .no) := s0.start _ _ (by rw [hal])
  refine h2 Hf H _ (L2.start N vs) _ st _ ?_
  unfold gO at p
  cases e : fb (xs.map Sl.d ++ List.replicate (N.length - (xs.map Sl.d).length) .no) with
  | bad => rw [e] at p; exact p
  | ex y ρ' =>
    rw [e] at p
    exact fun cls d Hf' H' O' σ' s' g' o' k' xr => p cls d Hf' H' (g'.pg s'.ex) xr
  | ok fl ρ' =>
    rw [e] at p
    intro Hf' H' O' σ' s' g' o' k'
    cases fl with
    | nx => exact p .non Hf' H' (g'.pg s'.ex) .non
    | bk => exact p.elim
    | ct => exact p.elim
    | rt y => exact fun v rv => p v Hf' H' (g'.pg s'.ex) rv
    | rl ys => exact fun l vs h0 h1 h2 h3 h4 => p _ Hf' H' (g'.pg s'.ex) ⟨l, vs, rfl, h0, h1, h2, h4⟩
    | rm o => exact fun v fp h0 h1 h2 => p v Hf' H' (g'.pg s'.ex) ⟨fp, h0, h1, fun a ha => ⟨(h2 a ha).1.elim id fun z => (o' a z).elim (fun y => y.elim) id, (h2 a ha).2⟩⟩
end
section
variable {Z : Zx} {W : WX}
def kCallO (g : Rho → R RV) (o : Option (List Pd)) (ρ1 : Rho) : R Mo := match o with
  | some xs => match g (xs.map Sl.d) with
    | .ok (.m x) _ => .ok x ρ1
    | .ex e _ => .ex e ρ1
    | _ => .bad
  | none => .bad
def fCallO (n : Nat) (g : Rho → R RV) (fa : Rho → R (List AV)) : Rho → R Mo := fun ρ => (fa ρ).bind fun as ρ1 => kCallO g (argsD n as) ρ1
theorem m_call {n : Nat} {g : Rho → R RV} {t : TA} {fa : Rho → R (List AV)} (ha : DA Z W t fa) : DM Z W (tCallS (spO Z n g) (WE W) t) (fCallO n g fa) := by
  intro Hf H O σ ρ s Q p
  refine ha.bind s p fun as ρ1 vs Hf1 H1 s1 g1 k1 rs p1 => ?_
  unfold kCallO at p1
  cases ed : argsD n as with
  | none => rw [ed] at p1; exact p1.elim
  | some xs =>
    rw [ed] at p1
    simp only at p1
    obtain ⟨r, hl⟩ := argsD_ok rs ed
    refine ⟨hl, Hf1, xs, s1.ex, r, ?_⟩
    cases eg : g (xs.map Sl.d) with
    | bad => rw [eg] at p1; exact p1.elim
    | ex y as' =>
      rw [eg] at p1
      exact fun cls d Hf' H' pg xr => p1 cls d Hf' H' (s1.grow pg) pg.gr Kp.refl xr
    | ok rv as' =>
      rw [eg] at p1
      cases rv with
      | d y => exact p1.elim
      | l ys => exact p1.elim
      | m o =>
        intro v Hf' H' pg ⟨fp, r1, r2, r3⟩
        exact p1 Hf' H' (s1.grow pg) pg.gr Kp.refl v ⟨fp, r1, r2, fun a ha => ⟨g1.gone (r3 a ha).1, (r3 a ha).2⟩⟩
end
/-! ### a def that changes a thing among its arguments -/
def argM (xs : List Pd) (o : Mo) (ys : List Pd) : Rho := xs.map Sl.d ++ .m true o :: ys.map Sl.d
omit [WD] in
theorem argM_at (xs : List Pd) (o : Mo) (ys : List Pd) {i : Nat} {s : Sl} (h : (argM xs o ys)[i]? = some s) : (i = xs.length ∧ s = .m true o) ∨ ∃ x, s = .d x := by
  unfold argM at h
  by_cases h1 : i < xs.length
  · rw [List.getElem?_append_left (by simpa using h1), List.getElem?_map] at h
    cases q : xs[i]? with
    | none => rw [q] at h; cases h
    | some y => rw [q] at h; cases h; exact .inr ⟨y, rfl⟩
  · rw [List.getElem?_append_right (by simpa using h1), List.length_map] at h
    cases e : i - xs.length with
    | zero => rw [e] at h; cases h; exact .inl ⟨by omega, rfl⟩
    | succ j =>
      rw [e] at h
      have h : (ys.map Sl.d)[j]? = some s := h
      rw [List.getElem?_map] at h
      cases q : ys[j]? with
      | none => rw [q] at h; cases h
      | some y => rw [q] at h; cases h; exact .inr ⟨y, rfl⟩
omit [WD] in
theorem argM_m (xs : List Pd) (o : Mo) (ys : List Pd) : (argM xs o ys)[xs.length]? = some (.m true o) := by
  unfold argM
  rw [List.getElem?_append_right (by simp), List.length_map, Nat.sub_self]
  rfl
/-- the arguments behind the body -/
def outsM : Rho → Rho → Rho
  | [], _ => []
  | .m true _ :: as, z :: ρ => z :: outsM as ρ
  | a :: as, _ :: ρ => a :: outsM as ρ
  | a :: as, [] => a :: as
omit [WD] in
theorem outsM_at : ∀ {as ρ : Rho} (i : Nat), (outsM as ρ)[i]? = (match as[i]?, ρ[i]? with
    | some (.m true _), some z => some z
    | s, _ => s)
  | [], ρ, i => by
    show none = _
    cases ρ[i]? <;> rfl
  | a :: as, [], i => by
    show (outsM (a :: as) [])[i]? = _
    have : outsM (a :: as) [] = a :: as := by cases a with
      | m b o => cases b <;> rfl
      | _ => rfl
    rw [this]
    show _ = (match (a :: as)[i]?, (none : Option Sl) with
    | some (.m true _), some z => some z
    | s, _ => s)
    split
    · rename_i h; cases h
    · rfl
  | a :: as, z :: ρ, 0 => by
    cases a with
    | m b o => cases b <;> rfl
    | _ => rfl
  | a :: as, z :: ρ, i + 1 => by
    have ih := outsM_at (as := as) (ρ := ρ) i
    cases a with
    | m b o => cases b <;> exact ih
    | _ => exact ih
omit [WD] in
theorem outsM_length : ∀ {as ρ : Rho}, (outsM as ρ).length = as.length
  | [], _ => rfl
  | a :: as, [] => by cases a with
    | m b o => cases b <;> rfl
    | _ => rfl
  | a :: as, z :: ρ => by
    have ih := outsM_length (as := as) (ρ := ρ)
    cases a with
    | m b o => cases b <;> exact congrArg Nat.succ ih
    | _ => exact congrArg Nat.succ ih
def endM (as : Rho) : R Fl → R RV
  | .ok (.rt x) ρ => .ok (.d x) (outsM as ρ)
  | .ok (.rl xs) ρ => .ok (.l xs) (outsM as ρ)
  | .ok .nx ρ => .ok (.d .none) (outsM as ρ)
  | .ex e ρ => .ex e (outsM as ρ)
  | _ => .bad
def gM (n : Nat) (fb : Rho → R Fl) : Rho → R RV := fun as => endM as (fb (as ++ List.replicate (n - as.length) .no))
def PostM (Z : Zx) (O : Addr → Prop) (σ : L2.St) (Hf H : Hp) (Q : VK) (E : XK) : R RV → Prop
  | .bad => False
  | .ok (.d x) as' => ∀ v Hf' H' O', SR Z.K Hf' H' O' σ as' → Gr O Hf H Hf' H' → Orl O H O' → RD Z.K Hf' v x → Q v H'
  | .ok (.l xs) as' => ∀ v Hf' H' O', SR Z.K Hf' H' O' σ as' → Gr O Hf H Hf' H' → Orl O H O' → RL Z.K H Hf' H' v xs → (∀ l, v = .ref l → ¬ O' l) → Q v H'
  | .ok (.m _) _ => False
  | .ex e as' => ∀ cls d Hf' H' O', SR Z.K Hf' H' O' σ as' → Gr O Hf H Hf' H' → Orl O H O' → XR Z Hf' H' cls d e → E cls d H'
def spM (Z : Zx) (n : Nat) (g : Rho → R RV) : Sp := fun vs H Q E => vs.length = n ∧ ∃ Hf O xs o ys, SR Z.K Hf H O (vs.map some) (argM xs o ys) ∧ PostM Z O (vs.map some) Hf H Q E (g (argM xs o ys))
theorem SR.backM {K : PySem.W.Frag} {Hf H Hf' H' : Hp} {O O' : Addr → Prop} {σ σ' : L2.St} {xs ys : List Pd} {o : Mo} {ρ' : Rho} {n : Nat} (s : SR K Hf H O σ (argM xs o ys)) (s' : SR K Hf' H' O' σ' ρ') (g : Gr O Hf H Hf' H')
    (k : Kq (argM xs o ys ++ List.replicate n .no) ρ' (σ ++ List.replicate n none) σ') : SR K Hf' H' O' σ (outsM (argM xs o ys) ρ') := by
  have hm := argM_m xs o ys
  have hi := (List.getElem?_eq_some_iff.mp hm).1
  obtain ⟨⟨u, q⟩, eσ⟩ := k.2 xs.length o (by rw [List.getElem?_append_left hi]; exact hm)
  rw [List.getElem?_append_left (by rw [s.len]; exact hi)] at eσ
  have at_ : ∀ {i : Nat} {t : Sl}, (outsM (argM xs o ys) ρ')[i]? = some t → (i = xs.length ∧ t = .m true u) ∨ ((argM xs o ys)[i]? = some t ∧ ∃ x, t = .d x) := fun {i t} h => by
    rw [outsM_at i] at h
    cases ea : (argM xs o ys)[i]? with
    | none => rw [ea] at h; cases ρ'[i]? <;> cases h
    | some z =>
      rw [ea] at h
      rcases argM_at xs o ys ea with ⟨rfl, rfl⟩ | ⟨x, rfl⟩
      · rw [q] at h
        cases h
        exact .inl ⟨rfl, rfl⟩
      · cases h
        exact .inr ⟨rfl, x, rfl⟩
  refine ⟨s'.ex, s'.otr, by rw [outsM_length, s.len], fun i x h => ?_, fun i b x h => ?_, fun i j b c x y l h1 => ?_, fun i e h => ?_, s'.mr.slots (fun i b t h => ?_) fun i b t h => ?_⟩
  · rcases at_ h with ⟨_, z⟩ | ⟨h', _⟩
    · cases z
    · obtain ⟨v, q1, q2⟩ := s.slot i x h'
      exact ⟨v, q1, q2.mono g.ex⟩
  · rcases at_ h with ⟨_, z⟩ | ⟨_, _, z⟩ <;> cases z
  · rcases at_ h1 with ⟨_, z⟩ | ⟨_, _, z⟩ <;> cases z
  · rcases at_ h with ⟨_, z⟩ | ⟨_, _, z⟩ <;> cases z
  · rcases at_ h with ⟨rfl, z⟩ | ⟨_, _, z⟩
    · cases z; exact ⟨q, eσ.symm⟩
    · cases z
  · rcases at_ h with ⟨_, z⟩ | ⟨_, _, z⟩ <;> cases z
section
variable {P : Program} {w : World} {K : PySem.W.Frag} {C : Str → Addr} {mg : Str → Option Value} {base : Heap} {x qual : Str} {params : Arguments} {body : List Stmt} {scope : Scope} {f : Addr} {fd : FuncData}
theorem fn_okM {N ps : List Str} {k : Nat} {fb : Rho → R Fl} (F : FunD K x qual params body scope [] [] f fd) (S : FnScope N ps scope)
    (hb : ∀ (cdv : Value) (A : Around) (outer : List Env) (s : Shared) (H : Hp) (E : XK), Room k (A.deeper (PyProof.Rows.envOfC qual scope s.heap.objs.size f cdv)) →
      Takes (cxOf (L2.CX P w) P w K mg base N qual scope f cdv A outer s H E) (fun cls d _ H => E cls d H) →
      PassesOwn (model P w) (A.deeper (PyProof.Rows.envOfC qual scope s.heap.objs.size f cdv)) (PyProof.Rows.envOfC qual scope s.heap.objs.size f cdv) (cxOf (L2.CX P w) P w K mg base N qual scope f cdv A outer s H E).xe →
      ∃ t, PSs (cxOf (L2.CX P w) P w K mg base N qual scope f cdv A outer s H E) body t ∧ DS ⟨K, C⟩ (fun cls d _ H => E cls d H) t fb):
    FnOk P w K mg base (L2.CX P w) (k + 1) f fd ps (spM ⟨K, C⟩ ps.length (gM N.length fb)) := by
  refine F.ok S (fun vs H Q E h => h.1) (fun cdv A outer s H vs Q E hr h => ?_)
  obtain ⟨hl, Hf, O, xs, o, ys, s0, p⟩ := h
  obtain ⟨t, h1, h2⟩ := hb cdv A outer s H E hr (takes_of rfl rfl rfl rfl) (passes_of (X := cxOf (L2.CX P w) P w K mg base N qual scope f cdv A outer s H E) rfl)
  refine ⟨t, h1, ?_⟩
  have hal : (argM xs o ys).length = vs.length := by rw [← s0.len, List.length_map]
  have st : SR K Hf H O (L2.start N vs) (argM xs o ys ++ List.replicate (N.length - (argM xs o ys).length) .no) := s0.start _ _ (by rw [hal])
  refine h2 Hf H O (L2.start N vs) _ st _ ?_
  unfold gM at p
  have bk : ∀ {Hf' H' O' σ' ρ'}, SR K Hf' H' O' σ' ρ' → Gr O Hf H Hf' H' → Kq (argM xs o ys ++ List.replicate (N.length - (argM xs o ys).length) .no) ρ' (L2.start N vs) σ' → SR K Hf' H' O' (vs.map some) (outsM (argM xs o ys) ρ') := fun {Hf' H' O' σ' ρ'} s' g' k' => s0.backM s' g' (n := N.length - (argM xs o ys).length) (by
    unfold L2.start at k'
    rw [← hal] at k'
    exact k')
  cases e : fb (argM xs o ys ++ List.replicate (N.length - (argM xs o ys).length) .no) with
  | bad => rw [e] at p; exact p
  | ex y ρ' =>
    rw [e] at p
    intro cls d Hf' H' O' σ' s' g' o' k' xr
    exact p cls d Hf' H' O' (bk s' g' k') g' o' xr
  | ok fl ρ' =>
    rw [e] at p
    intro Hf' H' O' σ' s' g' o' k'
    cases fl with
    | nx => exact p .non Hf' H' O' (bk s' g' k') g' o' .non
    | bk => exact p.elim
    | ct => exact p.elim
    | rt y => exact fun v rv => p v Hf' H' O' (bk s' g' k') g' o' rv
    | rl ys => exact fun l vs h0 h1 h2 h3 h4 => p _ Hf' H' O' (bk s' g' k') g' o' ⟨l, vs, rfl, h0, h1, h2, h4⟩ fun l' e => by cases e; exact h3
    | rm o => exact p.elim
end
end Dt
/-! calls that change a thing, by the caller -/
namespace Dt
open PySem PySem.Spec L2 Evl PyProof.Rows
variable [WD]
section
variable {K : PySem.W.Frag} {Hf H : Hp} {O : Addr → Prop} {σ : L2.St} {ρ : Rho}
theorem SR.argM' {v : V} {o : Mo} {fp : List Addr} {us1 us2 : List V} {xs ys : List Pd} (ex : Ex Hf H) (r : RM K Hf H v o fp) (nd : fp.Nodup) (hf : ∀ a ∈ fp, (∃ u, H a = some u) ∧ Hf a = none) (r1 : RDs K Hf us1 xs) (r2 : RDs K Hf us2 ys) :
    SR K Hf H (fun a => a ∈ fp) ((us1 ++ v :: us2).map some) (argM xs o ys) := by
  have hlen : ((us1 ++ v :: us2).map some).length = (argM xs o ys).length := by unfold argM; simp [r1.length, r2.length]
  have own_no : ∀ {i : Nat} {b : Bool} {zs : List Pd}, (argM xs o ys)[i]? = some (.own b zs) → False := fun {i b zs} h => by
    rcases argM_at xs o ys h with ⟨_, z⟩ | ⟨_, z⟩ <;> cases z
  refine ⟨ex, fun a h => hf a h, hlen, fun i x h => ?_, fun i b x h => (own_no h).elim, fun i j b c x y l h => (own_no h).elim, fun i e h => ?_, ⟨fun _ => some xs.length, fun i b u h => ?_, fun i b x l h => (own_no h).elim⟩⟩
  · unfold argM at h
    by_cases h1 : i < xs.length
    · rw [List.getElem?_append_left (by simpa using h1), List.getElem?_map] at h
      cases q : xs[i]? with
      | none => rw [q] at h; cases h
      | some y =>
        rw [q] at h
        cases h
        obtain ⟨u, e1, e2⟩ := r1.get q
        exact ⟨u, by rw [List.map_append, List.getElem?_append_left (by simpa [r1.length] using h1), List.getElem?_map, e1]; rfl, e2⟩
    · rw [List.getElem?_append_right (by simpa using h1), List.length_map] at h
      cases e : i - xs.length with
      | zero => rw [e] at h; cases h
      | succ j =>
        rw [e] at h
        have h : (ys.map Sl.d)[j]? = some (.d x) := h
        rw [List.getElem?_map] at h
        cases q : ys[j]? with
        | none => rw [q] at h; cases h
        | some y =>
          rw [q] at h
          cases h
          obtain ⟨u, e1, e2⟩ := r2.get q
          refine ⟨u, ?_, e2⟩
          rw [List.map_append, List.getElem?_append_right (by simp [r1.length]; omega), List.length_map, r1.length, e]
          show ((us2.map some))[j]? = _
          rw [List.getElem?_map, e1]
          rfl
  · rcases argM_at xs o ys h with ⟨_, z⟩ | ⟨_, z⟩ <;> cases z
  · rcases argM_at xs o ys h with ⟨rfl, z⟩ | ⟨_, z⟩
    · cases z
      refine ⟨v, fp, ?_, r, nd, fun a ha => ⟨ha, rfl⟩⟩
      rw [List.map_append, List.getElem?_append_right (by simp [r1.length]), List.length_map, r1.length, Nat.sub_self]
      rfl
    · cases z
/-- the caller's state is left alone by a call that owns nothing of it -/
theorem SR.frame {Hf' H' : Hp} {Oc : Addr → Prop} (s : SR K Hf H O σ ρ) (g : Gr Oc Hf H Hf' H') (no : ∀ a, Oc a → ¬ O a) (e' : Ex Hf' H') : SR K Hf' H' O σ ρ := by
  refine ⟨e', fun a h => ?_, s.len, fun i x h => ?_, fun i b xs h => ?_, s.dis, fun i e' h => ?_, s.mr.heap g.ex (fun a u ha _ h => g.fm a u h fun z => no a z ha) fun _ h _ => h⟩
  · obtain ⟨⟨o, t1⟩, t2⟩ := s.otr a h
    refine ⟨g.tr a o t1, ?_⟩
    cases e1 : Hf' a with
    | none => rfl
    | some u =>
      rcases g.nw a u e1 with z | z | z
      · rw [t2] at z; cases z
      · rw [t1] at z; cases z
      · exact (no a z h).elim
  · obtain ⟨v, t1, t2⟩ := s.slot i x h
    exact ⟨v, t1, t2.mono g.ex⟩
  · obtain ⟨k, ws, b1, b2, b3, b4⟩ := s.own i b xs h
    exact ⟨k, ws, b1, b2, g.fm _ _ b3 fun z => no k z b2, b4.mono g.ex⟩
  · obtain ⟨v, t1, t2⟩ := s.exc i e' h
    exact ⟨v, t1, t2.mono g.ex⟩
/-- the caller's state behind a call that changed the thing of the slot i -/
theorem SR.backC {i : Nat} {b : Bool} {o : Mo} {v : V} {us1 us2 : List V} {xs : List Pd} (s : SR K Hf H O σ ρ) (e : ρ[i]? = some (.m b o)) (hv : σ[i]? = some (some v)) (hl : us1.length = xs.length) :
    ∃ fp, RM K Hf H v o fp ∧ fp.Nodup ∧ (∀ a ∈ fp, O a) ∧ ∀ (Hf' H' : Hp) (O' : Addr → Prop) (as' : Rho), SR K Hf' H' O' ((us1 ++ v :: us2).map some) as' → Gr (fun a => a ∈ fp) Hf H Hf' H' → Orl (fun a => a ∈ fp) H O' →
      ∀ c o', as'[xs.length]? = some (.m c o') → ∃ O'', SR K Hf' H' O'' σ (ρ.set i (.m b o')) ∧ Gr O Hf H Hf' H' ∧ Orl O H O'' ∧ (∀ a, O'' a → O a ∨ O' a) ∧ ((∀ a, O' a ↔ a ∈ fp) → SR K Hf' H' O σ (ρ.set i (.m b o'))) := by
  obtain ⟨v', fp, q1, q2, q3, q4, q5⟩ := s.putM e
  rw [hv] at q1
  cases q1
  refine ⟨fp, q2, q3, q4, fun Hf' H' O' as' s' g o' c u h => ?_⟩
  obtain ⟨w', h1, _⟩ := s'.mr
  obtain ⟨v2, fp', p1, p2, p3, p4⟩ := h1 xs.length c u h
  rw [List.map_append, List.getElem?_append_right (by simp [hl]), List.length_map, hl, Nat.sub_self] at p1
  cases p1
  have gO : Gr O Hf H Hf' H' := ⟨g.ex, fun a t ht n => g.fm a t ht fun z => n (q4 a z), g.tr, fun a t ht => by
    rcases g.nw a t ht with z | z | z
    · exact .inl z
    · exact .inr (.inl z)
    · exact .inr (.inr (q4 a z))⟩
  have keepO : ∀ a, O a → a ∉ fp → (∃ t, H' a = some t) ∧ Hf' a = none := fun a ha na => by
    obtain ⟨⟨t, t1⟩, t2⟩ := s.otr a ha
    refine ⟨g.tr a t t1, ?_⟩
    cases e1 : Hf' a with
    | none => rfl
    | some y =>
      rcases g.nw a y e1 with z | z | z
      · rw [t2] at z; cases z
      · rw [t1] at z; cases z
      · exact (na z).elim
  have cases' : ∀ a ∈ fp', a ∈ fp ∨ ¬ O a := fun a ha => by
    rcases o' a (p4 a ha).1 with z | z
    · exact .inl z
    · exact .inr (fresh_no s z)
  refine ⟨fun a => (O a ∧ a ∉ fp) ∨ a ∈ fp', q5 Hf' H' _ u fp' g.ex s'.ex (fun a ha => ?_) (fun a t _ na ht => g.fm a t ht na) (fun a ha na => .inl ⟨ha, na⟩) p2 p3 (fun a ha => ⟨.inr ha, cases' a ha⟩), gO, fun a ha => ?_, fun a ha => ?_, fun sub => ?_⟩
  · rcases ha with ⟨ha, na⟩ | ha
    · exact keepO a ha na
    · exact s'.otr a (p4 a ha).1
  · rcases ha with ⟨ha, _⟩ | ha
    · exact .inl ha
    · rcases o' a (p4 a ha).1 with z | z
      · exact .inl (q4 a z)
      · exact .inr z
  · rcases ha with ⟨ha, _⟩ | ha
    · exact .inl ha
    · exact .inr (p4 a ha).1
  · refine q5 Hf' H' O u fp' g.ex s'.ex (fun a ha => ?_) (fun a t _ na ht => g.fm a t ht na) (fun a ha _ => ha) p2 p3 (fun a ha => ⟨q4 a ((sub a).mp (p4 a ha).1), .inl ((sub a).mp (p4 a ha).1)⟩)
    by_cases z : a ∈ fp
    · exact s'.otr a ((sub a).mpr z)
    · exact keepO a ha z
end
/-! ### an expression that may change what the def owns -/
def PostX (Z : Zx) (W : WX) (O : Addr → Prop) (σ : L2.St) (ρ : Rho) (Hf H : Hp) (Q : VK) : R RV → Prop
  | .bad => False
  | .ok (.d x) ρ' => ∀ v Hf' H' O', SR Z.K Hf' H' O' σ ρ' → Gr O Hf H Hf' H' → Orl O H O' → Kp ρ ρ' → RD Z.K Hf' v x → Q v H'
  | .ok (.l xs) ρ' => ∀ v Hf' H' O', SR Z.K Hf' H' O' σ ρ' → Gr O Hf H Hf' H' → Orl O H O' → Kp ρ ρ' → RL Z.K H Hf' H' v xs → (∀ l, v = .ref l → ¬ O' l) → Q v H'
  | .ok (.m _) _ => False
  | .ex e ρ' => ∀ cls d Hf' H' O', SR Z.K Hf' H' O' σ ρ' → Gr O Hf H Hf' H' → Orl O H O' → Kp ρ ρ' → XR Z Hf' H' cls d e → W cls d σ H'
def DX (Z : Zx) (W : WX) (t : TE) (f : Rho → R RV) : Prop := ∀ Hf H O σ ρ, SR Z.K Hf H O σ ρ → ∀ Q : VK, PostX Z W O σ ρ Hf H Q (f ρ) → t σ H Q
section
variable {Z : Zx} {W : WX}
/-- the result of a call that changed the thing of the slot i, the p-th argument -/
def kBack (i p : Nat) (b : Bool) (ρ1 : Rho) : R RV → R RV
  | .ok (.d x) as' => (match as'[p]? with
    | some (.m _ o') => .ok (.d x) (ρ1.set i (.m b o'))
    | _ => .bad)
  | .ok (.l x) as' => (match as'[p]? with
    | some (.m _ o') => .ok (.l x) (ρ1.set i (.m b o'))
    | _ => .bad)
  | .ex e as' => (match as'[p]? with
    | some (.m _ o') => .ex e (ρ1.set i (.m b o'))
    | _ => .bad)
  | _ => .bad
theorem callC {i : Nat} {b : Bool} {o : Mo} {v : V} {us1 us2 : List V} {xs ys : List Pd} {g : Rho → R RV} {n : Nat} {Hf0 H0 Hf H : Hp} {O : Addr → Prop} {σ : L2.St} {ρ0 ρ : Rho} {Q : VK} (s : SR Z.K Hf H O σ ρ) (g0 : Gr O Hf0 H0 Hf H) (k0 : Kp ρ0 ρ) (e : ρ[i]? = some (.m b o)) (hv : σ[i]? = some (some v))
    (r1 : RDs Z.K Hf us1 xs) (r2 : RDs Z.K Hf us2 ys) (hn : (us1 ++ v :: us2).length = n) (p : PostX Z W O σ ρ0 Hf0 H0 Q (kBack i xs.length b ρ (g (argM xs o ys)))) : spM Z n g (us1 ++ v :: us2) H Q (WE W σ) := by
  obtain ⟨fp, rm, nd, hO, back⟩ := s.backC (xs := xs) (us1 := us1) (us2 := us2) e hv r1.length
  refine ⟨hn, Hf, fun a => a ∈ fp, xs, o, ys, SR.argM' s.ex rm nd (fun a ha => s.otr a (hO a ha)) r1 r2, ?_⟩
  cases eg : g (argM xs o ys) with
  | bad => rw [eg] at p; exact p.elim
  | ex y as' =>
    rw [eg] at p
    unfold kBack at p
    cases ea : as'[xs.length]? with
    | none => simp only [ea] at p; exact p.elim
    | some z =>
      simp only [ea] at p
      cases z with
      | m c u =>
        intro cls d Hf' H' O' s' g' o' xr
        obtain ⟨O2, b1, b2, b3, _⟩ := back Hf' H' O' as' s' g' o' c u ea
        exact p cls d Hf' H' O2 b1 (g0.trans b2) (Orl.trans Orl.refl b3 g0) (k0.trans (kp_putM e)) xr
      | _ => exact p.elim
  | ok rv as' =>
    rw [eg] at p
    unfold kBack at p
    cases rv with
    | m _ => exact p.elim
    | d x =>
      cases ea : as'[xs.length]? with
      | none => simp only [ea] at p; exact p.elim
      | some z =>
        simp only [ea] at p
        cases z with
        | m c u =>
          intro w Hf' H' O' s' g' o' rd
          obtain ⟨O2, b1, b2, b3, _⟩ := back Hf' H' O' as' s' g' o' c u ea
          exact p w Hf' H' O2 b1 (g0.trans b2) (Orl.trans Orl.refl b3 g0) (k0.trans (kp_putM e)) rd
        | _ => exact p.elim
    | l x =>
      cases ea : as'[xs.length]? with
      | none => simp only [ea] at p; exact p.elim
      | some z =>
        simp only [ea] at p
        cases z with
        | m c u =>
          intro w Hf' H' O' s' g' o' rl no
          obtain ⟨O2, b1, b2, b3, b4, _⟩ := back Hf' H' O' as' s' g' o' c u ea
          obtain ⟨l, ws, rfl, l0, l1, l2, l3⟩ := rl
          refine p _ Hf' H' O2 b1 (g0.trans b2) (Orl.trans Orl.refl b3 g0) (k0.trans (kp_putM e)) ⟨l, ws, rfl, g0.gone l0, l1, l2, l3⟩ fun l' el => ?_
          cases el
          intro z
          rcases b4 l z with z | z
          · exact fresh_no s l0 z
          · exact no l rfl z
        | _ => exact p.elim
/-- one owned thing among the arguments -/
def splitM : List AV → Option (List Pd × Nat × List Pd)
  | [] => none
  | .d x :: as => match splitM as with
    | some (a, i, b) => some (x :: a, i, b)
    | none => none
  | .sl i :: as => match datas as with
    | some b => some ([], i, b)
    | none => none
theorem splitM_ok {K : PySem.W.Frag} {Hf : Hp} {σ : L2.St} : ∀ {vs : List V} {as : List AV} {xs ys : List Pd} {i : Nat}, RAs K Hf σ vs as → splitM as = some (xs, i, ys) → ∃ us1 v us2, vs = us1 ++ v :: us2 ∧ σ[i]? = some (some v) ∧ RDs K Hf us1 xs ∧ RDs K Hf us2 ys
  | _, _, _, _, _, .nil, h => by cases h
  | _, _, xs, ys, i, .cons (v := v) (vs := vs) (a := .d x) (as := as) h1 h2, h => by
    simp only [splitM] at h
    cases e : splitM as with
    | none => rw [e] at h; cases h
    | some t =>
      obtain ⟨a, j, b⟩ := t
      rw [e] at h
      cases h
      obtain ⟨us1, u, us2, rfl, q1, q2, q3⟩ := splitM_ok h2 e
      exact ⟨v :: us1, u, us2, rfl, q1, .cons h1 q2, q3⟩
  | _, _, xs, ys, i, .cons (v := v) (vs := vs) (a := .sl j) (as := as) h1 h2, h => by
    simp only [splitM] at h
    cases e : datas as with
    | none => rw [e] at h; cases h
    | some b =>
      rw [e] at h
      cases h
      exact ⟨[], v, vs, rfl, h1, .nil, datas_ok h2 e⟩
def fMv (i : Nat) : Rho → R AV := fun ρ => match ρ[i]? with
  | some (.m _ _) => .ok (.sl i) ρ
  | _ => .bad
theorem d_mv (i : Nat) : DE Z W (tVar i) (fMv i) := by
  intro Hf H O σ ρ s Q p
  unfold fMv at p
  cases e : ρ[i]? with
  | none => rw [e] at p; exact p.elim
  | some z =>
    rw [e] at p
    cases z with
    | m b o =>
      obtain ⟨v, fp, q1, _⟩ := s.putM e
      exact ⟨v, q1, p Hf H s Gr.refl Kp.refl v q1⟩
    | _ => exact p.elim
def kCallM (n : Nat) (g : Rho → R RV) (as : List AV) (ρ1 : Rho) : R RV := match splitM as with
  | some (xs, i, ys) => (match ρ1[i]? with
    | some (.m b o) => if as.length = n then kBack i xs.length b ρ1 (g (argM xs o ys)) else .bad
    | _ => .bad)
  | none => .bad
def fCallM (n : Nat) (g : Rho → R RV) (fa : Rho → R (List AV)) : Rho → R RV := fun ρ => (fa ρ).bind fun as ρ1 => kCallM n g as ρ1
theorem bindX {C A : Type} {Rel : Hp → Hp → Hp → L2.St → C → A → Prop} {t : L2.St → Hp → (C → Hp → Prop) → Prop} {f : Rho → R A} (h : DJ Z W Rel t f) {Hf H : Hp} {O : Addr → Prop} {σ : L2.St} {ρ : Rho} (s : SR Z.K Hf H O σ ρ) {k : A → Rho → R RV} {Q0 : VK} (p : PostX Z W O σ ρ Hf H Q0 ((f ρ).bind k)) {Q : C → Hp → Prop}
    (c : ∀ a ρ1 v Hf1 H1, SR Z.K Hf1 H1 O σ ρ1 → Gr O Hf H Hf1 H1 → Kp ρ ρ1 → Rel H Hf1 H1 σ v a → PostX Z W O σ ρ Hf H Q0 (k a ρ1) → Q v H1) : t σ H Q := by
  refine h Hf H O σ ρ s Q ?_
  cases e : f ρ with
  | bad => rw [e] at p; exact p
  | ok a ρ1 =>
    rw [e] at p
    exact fun Hf1 H1 s1 g1 k1 v rv => c a ρ1 v Hf1 H1 s1 g1 k1 rv p
  | ex x ρ1 =>
    rw [e] at p
    exact fun cls d Hf1 H1 s1 g1 k1 xr => p cls d Hf1 H1 O s1 g1 Orl.refl k1 xr
theorem RAs.length' {K : PySem.W.Frag} {Hf : Hp} {σ : L2.St} : ∀ {vs : List V} {as : List AV}, RAs K Hf σ vs as → vs.length = as.length
  | _, _, .nil => rfl
  | _, _, .cons _ h => congrArg Nat.succ (RAs.length' h)
theorem x_call {n : Nat} {g : Rho → R RV} {t : TA} {fa : Rho → R (List AV)} (ha : DA Z W t fa) : DX Z W (tCallS (spM Z n g) (WE W) t) (fCallM n g fa) := by
  intro Hf H O σ ρ s Q p
  refine bindX ha s p fun as ρ1 vs Hf1 H1 s1 g1 k1 rs p1 => ?_
  unfold kCallM at p1
  cases e1 : splitM as with
  | none => rw [e1] at p1; exact p1.elim
  | some z =>
    obtain ⟨xs, i, ys⟩ := z
    rw [e1] at p1
    simp only at p1
    cases e2 : ρ1[i]? with
    | none => rw [e2] at p1; exact p1.elim
    | some z =>
      rw [e2] at p1
      cases z with
      | m b o =>
        simp only at p1
        split at p1
        · rename_i hn
          obtain ⟨us1, v, us2, rfl, hv, r1, r2⟩ := splitM_ok rs e1
          exact callC s1 g1 k1 e2 hv r1 r2 (by rw [RAs.length' rs, hn]) p1
        · exact p1.elim
      | _ => exact p1.elim
/-- x.m(e, ..), x in the slot i -/
def okMeth (i : Nat) (c m : Str) (ρ : Rho) : Bool := match ρ[i]? with
  | some (.m _ (.obj d fs)) => decide (d = c) && (lookM m fs).isNone
  | _ => false
theorem okMeth_ok {i : Nat} {c m : Str} {Hf H : Hp} {O : Addr → Prop} {σ : L2.St} {ρ : Rho} (s : SR Z.K Hf H O σ ρ) (h : okMeth i c m ρ = true) : ∃ a dx fvs, σ[i]? = some (some (.ref a)) ∧ H a = some (.ins (cA Z.K c) dx fvs) ∧ fvs.lookup m = none := by
  unfold okMeth at h
  cases e : ρ[i]? with
  | none => rw [e] at h; cases h
  | some z =>
    rw [e] at h
    cases z with
    | m b o =>
      cases o with
      | obj d fs =>
        simp only [Bool.and_eq_true, decide_eq_true_eq, Option.isNone_iff_eq_none] at h
        obtain ⟨rfl, h2⟩ := h
        obtain ⟨v, fp, q1, q2, _⟩ := s.putM e
        cases q2 with
        | obj hh r => exact ⟨_, _, _, q1, hh, r.none h2⟩
      | _ => cases h
    | _ => cases h
def kMeth (n i : Nat) (g : Rho → R RV) (o : Option (List Pd)) (ρ1 : Rho) : R RV := match o, ρ1[i]? with
  | some ys, some (.m b o) => kBack i 0 b ρ1 (g (argM [] o ys))
  | _, _ => .bad
def fMeth (n i : Nat) (c m : Str) (g : Rho → R RV) (fa : Rho → R (List AV)) : Rho → R RV := fun ρ => if okMeth i c m ρ = true then (fa ρ).bind fun as ρ1 => kMeth n i g (argsD n as) ρ1 else .bad
theorem x_meth {n i : Nat} {c m : Str} {g : Rho → R RV} {t : TA} {fa : Rho → R (List AV)} (ha : DA Z W t fa) : DX Z W (tMethE (cA Z.K c) m (spM Z (n + 1) g) (WE W) (tVar i) t) (fMeth n i c m g fa) := by
  intro Hf H O σ ρ s Q p
  unfold fMeth at p
  split at p
  case isFalse => exact p.elim
  rename_i hok
  obtain ⟨a, dx, fvs, h1, h2, h3⟩ := okMeth_ok s hok
  refine ⟨.ref a, h1, a, dx, fvs, rfl, h2, h3, ?_⟩
  refine bindX ha s p fun as ρ1 vs Hf1 H1 s1 g1 k1 rs p1 => ?_
  unfold kMeth at p1
  cases ed : argsD n as with
  | none => rw [ed] at p1; exact p1.elim
  | some ys =>
    cases e2 : ρ1[i]? with
    | none => rw [ed, e2] at p1; exact p1.elim
    | some z =>
      rw [ed, e2] at p1
      cases z with
      | m b o =>
        obtain ⟨r, hl⟩ := argsD_ok rs ed
        exact callC (us1 := []) (xs := []) s1 g1 k1 e2 h1 .nil r (congrArg Nat.succ hl) p1
      | _ => exact p1.elim
/-! ### .. as statements -/
def kDropX : R RV → R Fl
  | .ok (.d _) ρ => .ok .nx ρ
  | .ok (.l _) ρ => .ok .nx ρ
  | .ex e ρ => .ex e ρ
  | _ => .bad
def fDropX (f : Rho → R RV) : Rho → R Fl := fun ρ => kDropX (f ρ)
theorem s_dropX {t : TE} {f : Rho → R RV} (h : DX Z W t f) : DS Z W (tDrop t) (fDropX f) := by
  intro Hf H O σ ρ s En p
  refine h Hf H O σ ρ s _ ?_
  unfold fDropX at p
  cases e : f ρ with
  | bad => rw [e] at p; exact p.elim
  | ex x ρ' => rw [e] at p; exact fun cls d Hf' H' O' s' g' o' k' xr => p cls d Hf' H' O' σ s' g' o' k'.kq xr
  | ok r ρ' =>
    rw [e] at p
    cases r with
    | d x => exact fun v Hf' H' O' s' g' o' k' rd => p Hf' H' O' σ s' g' o' k'.kq
    | l x => exact fun v Hf' H' O' s' g' o' k' rd _ => p Hf' H' O' σ s' g' o' k'.kq
    | m x => exact p.elim
def kAsgX (h : Pd → Rho → Option Rho) : R RV → R Fl
  | .ok (.d x) ρ => (match h x ρ with
    | some ρ2 => .ok .nx ρ2
    | none => .bad)
  | .ex e ρ => .ex e ρ
  | _ => .bad
def fAsgX (f : Rho → R RV) (h : Pd → Rho → Option Rho) : Rho → R Fl := fun ρ => kAsgX h (f ρ)
theorem s_asgX {js : List Nat} {t : TE} {g : TG} {f : Rho → R RV} {h : Pd → Rho → Option Rho} {wk : Bool} (he : DX Z W t f) (hg : DG wk Z.K js g h) : DS Z W (tAsg t g) (fAsgX f h) := by
  intro Hf H O σ ρ s En p
  refine he Hf H O σ ρ s _ ?_
  unfold fAsgX at p
  cases e : f ρ with
  | bad => rw [e] at p; exact p.elim
  | ex x ρ' => rw [e] at p; exact fun cls d Hf' H' O' s' g' o' k' xr => p cls d Hf' H' O' σ s' g' o' k'.kq xr
  | ok r ρ' =>
    rw [e] at p
    cases r with
    | l x => exact p.elim
    | m x => exact p.elim
    | d x =>
      intro v Hf' H' O' s' g' o' k' rd
      unfold kAsgX at p
      simp only at p
      cases eh : h x ρ' with
      | none => rw [eh] at p; exact p.elim
      | some ρ2 =>
        rw [eh] at p
        exact hg Hf' H' O' σ ρ' v x ρ2 s' (.inl rd) eh _ fun σ' s2 _ _ k2 => p Hf' H' O' σ' s2 g' o' (Kq.trans k'.kq k2)
def kRetX : R RV → R Fl
  | .ok (.d x) ρ => .ok (.rt x) ρ
  | .ok (.l x) ρ => .ok (.rl x) ρ
  | .ex e ρ => .ex e ρ
  | _ => .bad
def fRetX (f : Rho → R RV) : Rho → R Fl := fun ρ => kRetX (f ρ)
theorem s_retX {t : TE} {f : Rho → R RV} (he : DX Z W t f) : DS Z W (tRet t) (fRetX f) := by
  intro Hf H O σ ρ s En p
  refine he Hf H O σ ρ s _ ?_
  unfold fRetX at p
  cases e : f ρ with
  | bad => rw [e] at p; exact p.elim
  | ex x ρ' => rw [e] at p; exact fun cls d Hf' H' O' s' g' o' k' xr => p cls d Hf' H' O' σ s' g' o' k'.kq xr
  | ok r ρ' =>
    rw [e] at p
    cases r with
    | m x => exact p.elim
    | d x => exact fun v Hf' H' O' s' g' o' k' rd => p Hf' H' O' σ s' g' o' k'.kq v rd
    | l x =>
      intro v Hf' H' O' s' g' o' k' rl no
      obtain ⟨l, ws, rfl, l0, l1, l2, l3⟩ := rl
      exact p Hf' H' O' σ s' g' o' k'.kq l ws l0 l1 l2 (no l rfl) l3
def kIfX (f1 f2 : Rho → R Fl) : R RV → R Fl
  | .ok (.d (.bool b)) ρ => if b = true then f1 ρ else f2 ρ
  | .ex e ρ => .ex e ρ
  | _ => .bad
def fIfX (f : Rho → R RV) (f1 f2 : Rho → R Fl) : Rho → R Fl := fun ρ => kIfX f1 f2 (f ρ)
theorem s_ifX {t : TE} {u1 u2 : TS} {f : Rho → R RV} {f1 f2 : Rho → R Fl} (he : DX Z W t f) (h1 : DS Z W u1 f1) (h2 : DS Z W u2 f2) : DS Z W (tIfS (tB t) u1 u2) (fIfX f f1 f2) := by
  intro Hf H O σ ρ s En p
  refine he Hf H O σ ρ s _ ?_
  unfold fIfX at p
  cases e : f ρ with
  | bad => rw [e] at p; exact p.elim
  | ex x ρ' => rw [e] at p; exact fun cls d Hf' H' O' s' g' o' k' xr => p cls d Hf' H' O' σ s' g' o' k'.kq xr
  | ok r ρ' =>
    rw [e] at p
    cases r with
    | m x => exact p.elim
    | l x => exact p.elim
    | d x =>
      cases x with
      | bool b =>
        intro v Hf' H' O' s' g' o' k' rd
        cases rd
        refine ⟨b, rfl, ?_⟩
        cases b with
        | true => exact h1 Hf' H' O' σ ρ' s' En (PostS.shift p g' o' k'.kq)
        | false => exact h2 Hf' H' O' σ ρ' s' En (PostS.shift p g' o' k'.kq)
      | _ => exact p.elim
/-! ### of a new thing: f(..).m(e, ..), C(..) -/
def kMethT (g : Rho → R RV) (o : Mo) (ys : Option (List Pd)) (ρ2 : Rho) : R AV := match ys with
  | some ys => (match g (argM [] o ys) with
    | .ok (.d x) _ => .ok (.d x) ρ2
    | .ex e _ => .ex e ρ2
    | _ => .bad)
  | none => .bad
def fMethT (n : Nat) (c m : Str) (g : Rho → R RV) (fo : Rho → R Mo) (fa : Rho → R (List AV)) : Rho → R AV := fun ρ => (fo ρ).bind fun o ρ1 => match o with
  | .obj d fs => if d = c ∧ lookM m fs = none then (fa ρ1).bind fun as ρ2 => kMethT g (.obj d fs) (argsD n as) ρ2 else .bad
  | _ => .bad
theorem d_methT {n : Nat} {c m : Str} {g : Rho → R RV} {to : TE} {t : TA} {fo : Rho → R Mo} {fa : Rho → R (List AV)} (ho : DM Z W to fo) (ha : DA Z W t fa) : DE Z W (tMethE (cA Z.K c) m (spM Z (n + 1) g) (WE W) to t) (fMethT n c m g fo fa) := by
  intro Hf H O σ ρ s Q p
  unfold fMethT at p
  refine ho Hf H O σ ρ s _ ?_
  cases eo : fo ρ with
  | bad => rw [eo] at p; exact p
  | ex x ρ1 => rw [eo] at p; exact p
  | ok o ρ1 =>
    rw [eo] at p
    intro Hf1 H1 s1 g1 k1 v rv
    obtain ⟨fp, r1, r2, r3⟩ := rv
    cases o with
    | obj d fs =>
      have p2 : PostG Z W O σ ρ Hf H (fun a _ Hf' H' => ∀ v, RA Z.K Hf' σ v a → Q v H') (if d = c ∧ lookM m fs = none then (fa ρ1).bind fun as ρ2 => kMethT g (.obj d fs) (argsD n as) ρ2 else .bad) := p
      clear p
      by_cases hc : d = c ∧ lookM m fs = none
      case neg => rw [if_neg hc] at p2; exact p2.elim
      rw [if_pos hc] at p2
      have p := p2
      clear p2
      obtain ⟨rfl, hm⟩ := hc
      cases r1 with
      | @obj a dx _ fvs _ fq h rs =>
        refine ⟨a, dx, fvs, rfl, h, rs.none hm, ?_⟩
        refine ha Hf1 H1 O σ ρ1 s1 _ ?_
        cases ea : fa ρ1 with
        | bad => rw [ea] at p; exact p
        | ex x ρ2 => rw [ea] at p; exact fun cls d Hf' H' s' g' k' xr => p cls d Hf' H' s' (g1.trans g') (k1.trans k') xr
        | ok as ρ2 =>
          rw [ea] at p
          intro Hf2 H2 s2 g2 k2 vs rvs
          have p : PostG Z W O σ ρ Hf H (fun a _ Hf' H' => ∀ v, RA Z.K Hf' σ v a → Q v H') (kMethT g (.obj d fs) (argsD n as) ρ2) := p
          unfold kMethT at p
          cases ed : argsD n as with
          | none => rw [ed] at p; exact p.elim
          | some ys =>
            rw [ed] at p
            simp only at p
            obtain ⟨r, hl⟩ := argsD_ok rvs ed
            have no : ∀ x ∈ (a :: fq), ¬ O x := fun x hx => fresh_no s (r3 x hx).1
            have rm2 : RM Z.K Hf2 H2 (.ref a) (.obj d fs) (a :: fq) := RM.mono g2.ex (.obj h rs) fun x hx u hu => g2.fm x u hu (no x hx)
            have hf2 : ∀ x ∈ (a :: fq), (∃ u, H2 x = some u) ∧ Hf2 x = none := fun x hx => by
              obtain ⟨_, e2, u, e3⟩ := r3 x hx
              exact ⟨⟨u, g2.fm x u e3 (no x hx)⟩, g2.stays e3 e2 (no x hx)⟩
            refine ⟨congrArg Nat.succ hl, Hf2, fun x => x ∈ (a :: fq), [], .obj d fs, ys, SR.argM' (us1 := []) (xs := []) s2.ex rm2 r2 hf2 .nil r, ?_⟩
            have grO : ∀ {Hf' H' : Hp}, Gr (fun x => x ∈ (a :: fq)) Hf2 H2 Hf' H' → Gr O Hf H Hf' H' := fun {Hf' H'} g' => by
              have gA := g1.trans g2
              refine ⟨gA.ex.trans g'.ex, fun x u hx n => g'.fm x u (gA.fm x u hx n) fun z => ?_, fun x u hx => ?_, fun x u hx => ?_⟩
              · rw [(r3 x z).1] at hx; cases hx
              · obtain ⟨u1, q⟩ := gA.tr x u hx
                exact g'.tr x u1 q
              · rcases g'.nw x u hx with z | z | z
                · exact gA.nw x u z
                · exact .inr (.inl (gA.gone z))
                · exact .inr (.inl (r3 x z).1)
            cases eg : g (argM [] (.obj d fs) ys) with
            | bad => rw [eg] at p; exact p.elim
            | ex y as' =>
              rw [eg] at p
              intro cls dd Hf' H' O' s' g' o' xr
              exact p cls dd Hf' H' (s2.frame g' no s'.ex) (grO g') (k1.trans k2) xr
            | ok rv as' =>
              rw [eg] at p
              cases rv with
              | l _ => exact p.elim
              | m _ => exact p.elim
              | d x =>
                intro w Hf' H' O' s' g' o' rd
                exact p Hf' H' (s2.frame g' no s'.ex) (grO g') (k1.trans k2) w rd
    | _ => exact p.elim
/-- C(e, ..): the __init__ fills the new object -/
def kMake (c : Str) (g : Rho → R RV) (ys : Option (List Pd)) (ρ1 : Rho) : R Mo := match ys with
  | some ys => (match g (argM [] (.obj c []) ys) with
    | .ok (.d .none) (.m _ o :: _) => .ok o ρ1
    | .ex e _ => .ex e ρ1
    | _ => .bad)
  | none => .bad
def fMake (n : Nat) (c : Str) (g : Rho → R RV) (fa : Rho → R (List AV)) : Rho → R Mo := fun ρ => (fa ρ).bind fun as ρ1 => kMake c g (argsD n as) ρ1
theorem m_make {n : Nat} {c : Str} {g : Rho → R RV} {t : TA} {fa : Rho → R (List AV)} (ha : DA Z W t fa) : DM Z W (tMakeE (cA Z.K c) (spM Z (n + 1) g) (WE W) t) (fMake n c g fa) := by
  intro Hf H O σ ρ s Q p
  refine DJ.bind ha s p fun as ρ1 vs Hf1 H1 s1 g1 k1 rs p1 => ?_
  unfold kMake at p1
  cases ed : argsD n as with
  | none => rw [ed] at p1; exact p1.elim
  | some ys =>
    rw [ed] at p1
    simp only at p1
    obtain ⟨r, hl⟩ := argsD_ok rs ed
    intro x dx nx ndx hne
    have pg1 := Pg.lay (o := .own x) s1.ex ndx
    have nx2 : upd H1 dx (.own x) x = none := by rw [upd_ne (fun z => hne z.symm)]; exact nx
    have pg2 := Pg.lay (o := .ins (cA Z.K c) dx []) pg1.ex nx2
    have pg := pg1.trans pg2
    have s2 := s1.grow pg
    have hfx : Hf1 x = none := fresh_back s1.ex nx
    refine ⟨congrArg Nat.succ hl, Hf1, fun a => a ∈ [x], [], .obj c [], ys, SR.argM' (us1 := []) (xs := []) s2.ex (.obj upd_same .nil) (by simp) (fun a ha => ?_) .nil r, ?_⟩
    · obtain rfl : a = x := by simpa using ha
      exact ⟨⟨_, upd_same⟩, hfx⟩
    have no : ∀ a, a ∈ [x] → ¬ O a := fun a ha => by
      obtain rfl : a = x := by simpa using ha
      exact fresh_no s1 nx
    have grO : ∀ {Hf' H' : Hp}, Gr (fun a => a ∈ [x]) Hf1 (upd (upd H1 dx (.own x)) x (.ins (cA Z.K c) dx [])) Hf' H' → Gr O Hf1 H1 Hf' H' := fun {Hf' H'} g' => by
      refine ⟨g'.ex, fun a u hx n => g'.fm a u (pg.eh a u hx) fun z => ?_, fun a u hx => g'.tr a u (pg.eh a u hx), fun a u hx => ?_⟩
      · obtain rfl : a = x := by simpa using z
        rw [nx] at hx; cases hx
      · rcases g'.nw a u hx with z | z | z
        · exact .inl z
        · exact .inr (.inl (fresh_back pg.eh z))
        · obtain rfl : a = x := by simpa using z
          exact .inr (.inl nx)
    cases eg : g (argM [] (.obj c []) ys) with
    | bad => rw [eg] at p1; exact p1.elim
    | ex y as' =>
      rw [eg] at p1
      intro cls dd Hf' H' O' s' g' o' xr
      exact p1 cls dd Hf' H' (s2.frame g' no s'.ex) (grO g') Kp.refl xr
    | ok rv as' =>
      rw [eg] at p1
      cases rv with
      | l _ => exact p1.elim
      | m _ => exact p1.elim
      | d y =>
        cases y with
        | none =>
          cases as' with
          | nil => exact p1.elim
          | cons z as' =>
            cases z with
            | m b o =>
              intro w Hf' H' O' s' g' o' rd
              cases rd
              obtain ⟨w', h1, _⟩ := s'.mr
              obtain ⟨v2, fp', q1, q2, q3, q4⟩ := h1 0 b o rfl
              cases q1
              refine ⟨rfl, p1 Hf' H' (s2.frame g' no s'.ex) (grO g') Kp.refl _ ⟨fp', q2, q3, fun a ha => ⟨?_, (s'.otr a (q4 a ha).1).2, (s'.otr a (q4 a ha).1).1⟩⟩⟩
              rcases o' a (q4 a ha).1 with z | z
              · obtain rfl : a = x := by simpa using z
                exact g1.gone nx
              · exact g1.gone (fresh_back pg.eh z)
            | _ => exact p1.elim
        | _ => exact p1.elim
end
/-! ### methods that leave the object be: return e -/
def gS (n : Nat) (fe : Rho → R AV) : Rho → R RV := fun as => match fe (as ++ List.replicate (n - as.length) .no) with
  | .ok (.d x) ρ' => .ok (.d x) (ρ'.take as.length)
  | .ex e ρ' => .ex e (ρ'.take as.length)
  | _ => .bad
def spS (Z : Zx) (n : Nat) (g : Rho → R RV) : Sp := fun vs H Q E => vs.length = n ∧ ∃ Hf O o ys, SR Z.K Hf H O (vs.map some) (argM [] o ys) ∧ PostF Z O (vs.map some) Hf H Q E (g (argM [] o ys))
theorem SR.take {K : PySem.W.Frag} {Hf H : Hp} {O : Addr → Prop} {σ τ : L2.St} {ρ : Rho} (s : SR K Hf H O (σ ++ τ) ρ) : SR K Hf H O σ (ρ.take σ.length) := by
  have hl : σ.length ≤ ρ.length := by rw [← s.len]; simp
  have at_ : ∀ {i : Nat} {t : Sl}, (ρ.take σ.length)[i]? = some t → i < σ.length ∧ ρ[i]? = some t := fun {i t} h => by
    rw [List.getElem?_take] at h
    split at h
    · exact ⟨by assumption, h⟩
    · cases h
  refine ⟨s.ex, s.otr, by simp [hl], fun i x h => ?_, fun i b xs h => ?_, fun i j b c xs ys l h1 h2 h3 h4 => ?_, fun i e h => ?_, s.mr.slots (fun i b o h => ?_) fun i b o h => ?_⟩
  · obtain ⟨z, h⟩ := at_ h
    have := s.slot i x h
    rwa [List.getElem?_append_left z] at this
  · obtain ⟨z, h⟩ := at_ h
    have := s.own i b xs h
    rwa [List.getElem?_append_left z] at this
  · obtain ⟨z1, h1⟩ := at_ h1
    obtain ⟨z2, h2⟩ := at_ h2
    exact s.dis i j b c xs ys l h1 h2 (by rw [List.getElem?_append_left z1]; exact h3) (by rw [List.getElem?_append_left z2]; exact h4)
  · obtain ⟨z, h⟩ := at_ h
    have := s.exc i e h
    rwa [List.getElem?_append_left z] at this
  · obtain ⟨z, h⟩ := at_ h
    exact ⟨h, (List.getElem?_append_left z).symm⟩
  · obtain ⟨z, h⟩ := at_ h
    exact ⟨⟨b, o, h⟩, (List.getElem?_append_left z).symm⟩
section
variable {P : Program} {w : World} {K : PySem.W.Frag} {C : Str → Addr} {mg : Str → Option Value} {base : Heap} {x qual : Str} {params : Arguments} {body : List Stmt} {scope : Scope} {f : Addr} {fd : FuncData}
theorem fn_okS {N ps : List Str} {k : Nat} {fe : Rho → R AV} (F : FunD K x qual params body scope [] [] f fd) (S : FnScope N ps scope)
    (hb : ∀ (cdv : Value) (A : Around) (outer : List Env) (s : Shared) (H : Hp) (E : XK), Room k (A.deeper (PyProof.Rows.envOfC qual scope s.heap.objs.size f cdv)) →
      Takes (cxOf (L2.CX P w) P w K mg base N qual scope f cdv A outer s H E) (fun cls d _ H => E cls d H) →
      PassesOwn (model P w) (A.deeper (PyProof.Rows.envOfC qual scope s.heap.objs.size f cdv)) (PyProof.Rows.envOfC qual scope s.heap.objs.size f cdv) (cxOf (L2.CX P w) P w K mg base N qual scope f cdv A outer s H E).xe →
      ∃ t, PSs (cxOf (L2.CX P w) P w K mg base N qual scope f cdv A outer s H E) body (tRet t) ∧ DE ⟨K, C⟩ (fun cls d _ H => E cls d H) t fe) :
    FnOk P w K mg base (L2.CX P w) (k + 1) f fd ps (spS ⟨K, C⟩ ps.length (gS N.length fe)) := by
  refine F.ok S (fun vs H Q E h => h.1) (fun cdv A outer s H vs Q E hr h => ?_)
  obtain ⟨hl, Hf, O, o, ys, s0, p⟩ := h
  obtain ⟨t, h1, h2⟩ := hb cdv A outer s H E hr (takes_of rfl rfl rfl rfl) (passes_of (X := cxOf (L2.CX P w) P w K mg base N qual scope f cdv A outer s H E) rfl)
  refine ⟨_, h1, ?_⟩
  have hal : (argM [] o ys).length = (vs.map some).length := s0.len.symm
  have hal2 : (argM [] o ys).length = vs.length := by rw [hal, List.length_map]
  have st : SR K Hf H O (L2.start N vs) (argM [] o ys ++ List.replicate (N.length - (argM [] o ys).length) .no) := s0.start _ _ (by rw [hal2])
  have bk : ∀ {Hf' H' ρ'}, SR K Hf' H' O (L2.start N vs) ρ' → SR K Hf' H' O (vs.map some) (ρ'.take (argM [] o ys).length) := fun {Hf' H' ρ'} s' => by
    rw [hal]
    exact SR.take (τ := List.replicate (N.length - vs.length) none) s'
  refine h2 Hf H O (L2.start N vs) _ st _ ?_
  unfold gS at p
  cases e : fe (argM [] o ys ++ List.replicate (N.length - (argM [] o ys).length) .no) with
  | bad => rw [e] at p; exact p
  | ex y ρ' =>
    rw [e] at p
    exact fun cls d Hf' H' s' g' k' xr => p cls d Hf' H' (bk s') g' xr
  | ok a ρ' =>
    rw [e] at p
    cases a with
    | sl _ => exact p.elim
    | d x => exact fun Hf' H' s' g' k' v rd => p v Hf' H' (bk s') g' rd
end
section
variable {Z : Zx} {W : WX}
def kMethS (i : Nat) (g : Rho → R RV) (o : Option (List Pd)) (ρ1 : Rho) : R AV := match o, ρ1[i]? with
  | some ys, some (.m b o) => (match g (argM [] o ys) with
    | .ok (.d x) (.m _ o' :: _) => .ok (.d x) (ρ1.set i (.m b o'))
    | .ex e (.m _ o' :: _) => .ex e (ρ1.set i (.m b o'))
    | _ => .bad)
  | _, _ => .bad
def fMethS (n i : Nat) (c m : Str) (g : Rho → R RV) (fa : Rho → R (List AV)) : Rho → R AV := fun ρ => if okMeth i c m ρ = true then (fa ρ).bind fun as ρ1 => kMethS i g (argsD n as) ρ1 else .bad
theorem d_methS {n i : Nat} {c m : Str} {g : Rho → R RV} {t : TA} {fa : Rho → R (List AV)} (ha : DA Z W t fa) : DE Z W (tMethE (cA Z.K c) m (spS Z (n + 1) g) (WE W) (tVar i) t) (fMethS n i c m g fa) := by
  intro Hf H O σ ρ s Q p
  unfold fMethS at p
  split at p
  case isFalse => exact p.elim
  rename_i hok
  obtain ⟨a, dx, fvs, h1, h2, h3⟩ := okMeth_ok s hok
  refine ⟨.ref a, h1, a, dx, fvs, rfl, h2, h3, ?_⟩
  refine DJ.bind ha s p fun as ρ1 vs Hf1 H1 s1 g1 k1 rs p1 => ?_
  unfold kMethS at p1
  cases ed : argsD n as with
  | none => rw [ed] at p1; exact p1.elim
  | some ys =>
    cases e2 : ρ1[i]? with
    | none => rw [ed, e2] at p1; exact p1.elim
    | some z =>
      rw [ed, e2] at p1
      cases z with
      | m b o =>
        simp only at p1
        obtain ⟨r, hl⟩ := argsD_ok rs ed
        obtain ⟨fp, rm, nd, hO, back⟩ := s1.backC (xs := []) (us1 := []) (us2 := vs) e2 h1 rfl
        refine ⟨congrArg Nat.succ hl, Hf1, fun x => x ∈ fp, o, ys, SR.argM' (us1 := []) (xs := []) s1.ex rm nd (fun x hx => s1.otr x (hO x hx)) .nil r, ?_⟩
        cases eg : g (argM [] o ys) with
        | bad => rw [eg] at p1; exact p1.elim
        | ex y as' =>
          rw [eg] at p1
          match as', p1 with
          | .m c' u :: as'', p1 =>
            intro cls d Hf' H' s' g' xr
            obtain ⟨O2, b1, b2, b3, b4, b5⟩ := back Hf' H' _ _ s' g' Orl.refl c' u rfl
            exact p1 cls d Hf' H' (b5 fun x => Iff.rfl) b2 (kp_putM e2) xr
          | [], p1 => exact p1.elim
          | .no :: _, p1 => exact p1.elim
          | .d _ :: _, p1 => exact p1.elim
          | .own _ _ :: _, p1 => exact p1.elim
          | .x _ :: _, p1 => exact p1.elim
        | ok rv as' =>
          rw [eg] at p1
          cases rv with
          | l _ => exact p1.elim
          | m _ => exact p1.elim
          | d x =>
            match as', p1 with
            | .m c' u :: as'', p1 =>
              intro v Hf' H' s' g' rd
              obtain ⟨O2, b1, b2, b3, b4, b5⟩ := back Hf' H' _ _ s' g' Orl.refl c' u rfl
              exact p1 Hf' H' (b5 fun x => Iff.rfl) b2 (kp_putM e2) v rd
            | [], p1 => exact p1.elim
            | .no :: _, p1 => exact p1.elim
            | .d _ :: _, p1 => exact p1.elim
            | .own _ _ :: _, p1 => exact p1.elim
            | .x _ :: _, p1 => exact p1.elim
      | _ => exact p1.elim
end
end Dt
/-! range with a step, x.pop(i), dicts owned no more, the facts of a class -/
namespace Dt
open PySem PySem.Spec L2 Evl PyProof.Rows
/-- lo, lo + c, .. -/
def numsC (lo c : Int) (n : Nat) : List Pd := (List.range n).map fun (k : Nat) => .int (lo + (k : Int) * c)
variable [WD]
theorem dlv_rngC {K : PySem.W.Frag} {Hf : Hp} {lo c : Int} {n : Nat} : Dlv false K (Itc lo c n) Hf (numsC lo c n) := by
  intro i Hf' H' e1 e2
  have hl : (numsC lo c n).length = n := by simp [numsC]
  refine ⟨fun hi => ?_, fun hi => ?_, fun v H'' hy y hx => ?_⟩
  · show i < n
    omega
  · show n ≤ i
    omega
  · obtain ⟨rfl, rfl⟩ := hy
    refine ⟨Hf', Pg.refl e2, ?_⟩
    unfold numsC at hx
    have hi : i < n := by
      rcases Nat.lt_or_ge i n with h | h
      · exact h
      · rw [List.getElem?_eq_none (by simpa using h)] at hx; cases hx
    rw [List.getElem?_map, List.getElem?_range hi] at hx
    cases hx
    exact .inl (.int _)
section
variable {Z : Zx} {W : WX}
def fRng3 (f : Rho → R (List AV)) : Rho → R (List Pd) := fun ρ => (f ρ).bind fun as ρ1 => match as with
  | [.d (.int i), .d (.int j), .d (.int c)] => if (-4611686018427387904 ≤ i ∧ i < 4611686018427387904) ∧ (-4611686018427387904 ≤ j ∧ j < 4611686018427387904) ∧ c ≠ 0 ∧ c.natAbs < 1073741824 ∧ Builtin.Range.small i j c = true ∧ 0 ≤ Builtin.Range.rangeSize i j c then .ok (numsC i c (Builtin.Range.rangeSize i j c).toNat) ρ1 else .bad
  | _ => .bad
theorem i_rng3 {t : TA} {f : Rho → R (List AV)} (h : DA Z W t f) : DI false Z W (iRng3 t) (fRng3 f) := by
  intro Hf H O σ ρ s Q p
  refine h.bind s p fun as ρ1 vs Hf1 H1 s1 g1 k1 rs p1 => ?_
  split at p1
  · rename_i i j c
    cases rs with
    | cons r1 r2 =>
      cases r2 with
      | cons r2 r3 =>
        cases r3 with
        | cons r3 r4 =>
          cases r4
          cases r1 with
          | int _ =>
            cases r2 with
            | int _ =>
              cases r3 with
              | int _ =>
                split at p1
                · rename_i hj
                  exact ⟨i, j, c, _, rfl, ⟨hj.2.2.1, hj.2.2.2.1, hj.2.2.2.2.1, (Int.toNat_of_nonneg hj.2.2.2.2.2).symm⟩, p1 Hf1 H1 s1 Gr.refl Kp.refl _ dlv_rngC⟩
                · exact p1.elim
  · exact p1.elim
/-! ### x.pop(i) -/
theorem RDs.eraseIdx {K : PySem.W.Frag} {H : Hp} : ∀ {vs : List V} {ds : List Pd} (k : Nat), RDs K H vs ds → RDs K H (vs.eraseIdx k) (ds.eraseIdx k)
  | _, _, k, .nil => by simpa using (RDs.nil : RDs K H [] [])
  | _, _, 0, .cons _ t => t
  | _, _, k + 1, .cons r t => .cons r (RDs.eraseIdx k t)
def kPopAt (i : Nat) (a : AV) (ρ : Rho) : R AV := match a, ρ[i]? with
  | .d (.int n), some (.own b xs) => if 0 ≤ n ∧ n < 1000000 then (match xs[n.toNat]? with
      | some y => .ok (.d y) (ρ.set i (.own b (xs.eraseIdx n.toNat)))
      | none => .bad) else .bad
  | _, _ => .bad
def fPopAt (i : Nat) (fe : Rho → R AV) : Rho → R AV := fun ρ => match ρ[i]? with
  | some (.own _ _) => (fe ρ).bind fun a ρ1 => kPopAt i a ρ1
  | _ => .bad
omit [WD] in
theorem sqI {n : Int} {k : Nat} (h0 : 0 ≤ n) (h1 : n.toNat < k) : seqIndex? n k = some n.toNat := by
  have a : (if n < 0 then n + (k : Int) else n) = n := if_neg (by omega)
  have b : (decide (0 ≤ n) && decide (n < (k : Int))) = true := by
    rw [Bool.and_eq_true, decide_eq_true_iff, decide_eq_true_iff]
    exact ⟨h0, by omega⟩
  simp only [seqIndex?, a, b, if_true]
theorem d_popAt {i : Nat} {te : TE} {fe : Rho → R AV} (he : DE Z W te fe) : DE Z W (tBM Z.K "list" rPopAt (tVar i) (tCons te tNil)) (fPopAt i fe) := by
  intro Hf H O σ ρ s Q p
  unfold fPopAt at p
  cases e0 : ρ[i]? with
  | none => rw [e0] at p; exact p.elim
  | some z0 =>
    rw [e0] at p
    cases z0 with
    | own b0 xs0 =>
      simp only at p
      obtain ⟨l, vs, h1, h2, h3, h4⟩ := s.own i b0 xs0 e0
      refine ⟨.ref l, h1, .inl ⟨rfl, vs, .inl (.inl h3)⟩, ?_⟩
      refine DJ.bind he s p fun a ρ1 v Hf1 H1 s1 g1 k1 rv p1 => ?_
      unfold kPopAt at p1
      cases a with
      | sl j => exact p1.elim
      | d y =>
        cases y with
        | int n =>
          cases e1 : ρ1[i]? with
          | none => rw [e1] at p1; exact p1.elim
          | some z1 =>
            rw [e1] at p1
            cases z1 with
            | own b xs =>
              simp only at p1
              split at p1
              · rename_i hn
                obtain ⟨l', us, q1, q2, q3, q4⟩ := s1.own i b xs e1
                rw [h1] at q1
                cases q1
                cases ey : xs[n.toNat]? with
                | none => rw [ey] at p1; exact p1.elim
                | some y =>
                  rw [ey] at p1
                  obtain ⟨u, eu, ru⟩ := q4.get ey
                  cases rv
                  have hl : n.toNat < us.length := (List.getElem?_eq_some_iff.mp eu).1
                  refine ⟨l, us, n, n.toNat, u, rfl, rfl, q3, by omega, by omega, ?_, eu, p1 Hf1 _ (s1.chg e1 h1 q3 (q4.eraseIdx _)) (Gr.refl.chg q2) (kp_chg e1) u ru⟩
                  exact sqI hn.1 hl
              · exact p1.elim
            | _ => exact p1.elim
        | _ => exact p1.elim
    | _ => exact p.elim
/-! ### a dict is owned no more: from here on it is data -/
def frzM (i : Nat) (ρ : Rho) : Rho := match ρ[i]? with
  | some (.m false (.dct false ds)) => ρ.set i (.d (.dict ds))
  | _ => ρ
theorem SR.frzM {K : PySem.W.Frag} {Hf H : Hp} {O : Addr → Prop} {σ : L2.St} {ρ : Rho} (s : SR K Hf H O σ ρ) (i : Nat) : (∃ l kvs, σ[i]? = some (some (.ref l)) ∧ H l = some (.dK kvs) ∧ ∀ ob, ∃ Hf' O', SR K Hf' (upd H l (.frz ob (.dK kvs))) O' σ (Dt.frzM i ρ) ∧ Gr O Hf H Hf' (upd H l (.frz ob (.dK kvs))) ∧ Orl O H O' ∧ Kp ρ (Dt.frzM i ρ)) ∨ Dt.frzM i ρ = ρ := by
  unfold Dt.frzM
  split
  · rename_i ds e
    have hi := (List.getElem?_eq_some_iff.mp e).1
    obtain ⟨v, fp, q1, q2, q3, q4, q5⟩ := s.putM e
    cases q2 with
    | @dk l kvs _ h r =>
      have hO : O l := q4 l (by simp)
      have hf := (s.otr l hO).2
      refine .inl ⟨l, kvs, q1, h, fun ob => ?_⟩
      have ex' : Ex (upd Hf l (.frz ob (.dK kvs))) (upd H l (.frz ob (.dK kvs))) := fun a u ha => by
        by_cases z : a = l
        · subst z; rw [upd_same] at ha ⊢; exact ha
        · rw [upd_ne z] at ha ⊢; exact s.ex a u ha
      have s1 := q5 (upd Hf l (.frz ob (.dK kvs))) (upd H l (.frz ob (.dK kvs))) (fun a => O a ∧ a ≠ l) (.dat (.dict ds)) [] (Ex.new hf) ex' (fun a ha => ⟨by rw [upd_ne ha.2]; exact (s.otr a ha.1).1, by rw [upd_ne ha.2]; exact (s.otr a ha.1).2⟩) (fun a u _ na hu => by rw [upd_ne (fun z => na (by simp [z]))]; exact hu) (fun a ha na => ⟨ha, fun z => na (by simp [z])⟩)
        (.dat (.dct upd_same (RKs.mono (Ex.new hf) r))) (by simp) (fun a ha => by cases ha)
      refine ⟨upd Hf l (.frz ob (.dK kvs)), fun a => O a ∧ a ≠ l, ?_, ⟨Ex.new hf, fun a u h2 no => by
        rw [upd_ne (fun z => no (by rw [z]; exact hO))]; exact h2, fun a o h2 => by
        by_cases z : a = l
        · subst z; exact ⟨_, upd_same⟩
        · exact ⟨o, by rw [upd_ne z]; exact h2⟩, fun a o h => ?_⟩, fun a h => .inl h.1, ?_⟩
      · have s2 := s1.putD (i := i) (v := .ref l) (x := .dict ds) (by simpa using hi) (.dct upd_same (RKs.mono (Ex.new hf) r))
        rw [List.set_set] at s2
        have : σ.set i (some (.ref l)) = σ := by
          apply List.ext_getElem?
          intro j
          by_cases z : i = j
          · subst z; rw [List.getElem?_set_self (by rw [s.len]; exact hi)]; exact q1.symm
          · rw [List.getElem?_set_ne z]
        rwa [this] at s2
      · by_cases z : a = l
        · subst z; exact .inr (.inr hO)
        · rw [upd_ne z] at h; exact .inl h
      · refine ⟨fun j xs q => ?_, fun j o q => ?_⟩
        · have z : i ≠ j := fun z => by rw [z, q] at e; cases e
          exact ⟨xs, by rw [List.getElem?_set_ne z]; exact q⟩
        · have z : i ≠ j := fun z => by rw [z, q] at e; cases e
          exact ⟨o, by rw [List.getElem?_set_ne z]; exact q⟩
  · exact .inr rfl
def fFrzM (i : Nat) (f : Rho → R Fl) : Rho → R Fl := fun ρ => f (frzM i ρ)
theorem s_frzM (i : Nat) {t : TS} {f : Rho → R Fl} (h : DS Z W t f) : DS Z W (tLockS i t) (fFrzM i f) := by
  intro Hf H O σ ρ s En p
  rcases s.frzM i with ⟨l, kvs, h1, h2, h3⟩ | he
  · refine .inl ⟨l, kvs, h1, h2, fun ob => ?_⟩
    obtain ⟨Hf', O', s', g', o', k'⟩ := h3 ob
    exact h Hf' _ O' σ _ s' En (PostS.shift p g' o' k'.kq)
  · refine .inr (h Hf H O σ ρ s En ?_)
    have p : PostS Z W O σ ρ Hf H En (f (Dt.frzM i ρ)) := p
    rwa [he] at p
end
/-! ### what the head tells of a class, of a method -/
structure ClsI (K : PySem.W.Frag) (mg : Str → Option Value) (c : Str) : Prop where
  g : mg c = some (.ref (cA K c))
  cl : Cls K (cA K c)
  mkr : Mk K (cA K c) (He.ma K (cA K c) "__init__")
structure FnM (K : PySem.W.Frag) (c m qual : Str) (st : Stmt) where
  fd : FuncData
  F : FunD K m qual (defArgs st) (defBody st) (defScope st) [] [] (He.ma K (cA K c) m) fd
def clsBody : Stmt → List Stmt
  | .ClassDef (body := b) .. => b
  | _ => []
section
variable {X : Cx}
theorem kFld (K : PySem.W.Frag) {e : Expr} {te : TE} {f : Str} {pos : Pos} (he : PE X e te) (hK : X.K = K := by rfl) (hb : attributeBase e f X.env (eval e X.env) = eval e X.env := by rfl) : PE X (.Attribute e f pos) (tFld K te f) := by subst hK; exact pe_fld he hb
theorem kFldS (K : PySem.W.Frag) {o value : Expr} {ta tv : TE} {f : Str} {pos pos' : Pos} (ha : PE X o ta) (hv : PE X value tv) (hK : X.K = K := by rfl) (hs : swapsWith value (some (.Attribute o f pos')) pos.line X.env = pure false := by rfl) : PS X (.Assign [.Attribute o f pos'] value pos) (sFld K ta tv f) := by subst hK; exact ps_fld ha hv hs
end
omit [WD] in
theorem pe_bmK {X : Cx} (K : PySem.W.Frag) {T : String} {o e : Expr} {es : List Expr} {to : TE} {t : TA} {name : Str} {apos cpos : Pos} {id : String} {r : V → List V → Hp → VK → Prop} (pa : PlainAttrs T) (slot : Slot T name id) (hty : typeOf (.builtin id) = pure (.type "method_descriptor")) (hm : MtR X id r) (ho : PE X o to) (ha : PA X (e :: es) t) (hK : X.K = K := by rfl)
    (hbase : attributeBase o name X.env (eval o X.env) = eval o X.env := by rfl)
    (hfew : ((backTo cpos (starEach (e :: es) X.env)).all (fun x => !x.1) && (backToKw cpos (keywordEach [] X.env)).all (fun x => x.1.isSome)
      && decide ((e :: es).length + ([] : List Keyword).length + (if ([] : List Keyword).isEmpty then 0 else 1) < 30)) = true := by rfl)
    (hline : (apos.endLine == cpos.line) = true := by rfl) (hs : starEach (e :: es) X.env = (false, eval e X.env) :: starEach es X.env := by rfl) (hplain : (backTo cpos (starEach es X.env)).any (·.1) = false := by rfl) :
    PE X (.Call (.Attribute o name apos) (e :: es) [] cpos) (tBM K T r to t) := by
  subst hK
  exact pe_bm pa slot hty hm ho ha hbase hfew hline hs hplain
theorem u9 {k : Nat} {A : Around} (r : Room k A) : A.units + 9 < cLine := by have := r.un; omega
end Dt
/-! what the meanings of things, methods, whiles come to -/
namespace Dt
open PySem PySem.Spec L2 Evl
variable {n i : Nat} {c m f : Str} {ρ ρ1 : Rho} {b : Bool} {xs : List Pd}
theorem fCallO_ap {g : Rho → R RV} {fa : Rho → R (List AV)} : fCallO n g fa ρ = (fa ρ).bind fun as ρ1 => kCallO g (argsD n as) ρ1 := rfl
@[simp] theorem kCallO_some {g : Rho → R RV} : kCallO g (some xs) ρ = (match g (xs.map Sl.d) with | .ok (.m x) _ => .ok x ρ | .ex e _ => .ex e ρ | _ => .bad) := rfl
@[simp] theorem fRetM_ap {g : Rho → R Mo} : fRetM g ρ = (g ρ).bind fun o ρ1 => .ok (.rm o) ρ1 := rfl
@[simp] theorem fSetM_ap {g : Rho → R Mo} : fSetM g i ρ = (g ρ).bind fun o ρ1 => (match putMo i o ρ1 with | some ρ2 => .ok .nx ρ2 | none => .bad) := rfl
@[simp] theorem fMake_ap {g : Rho → R RV} {fa : Rho → R (List AV)} : fMake n c g fa ρ = (fa ρ).bind fun as ρ1 => kMake c g (argsD n as) ρ1 := rfl
@[simp] theorem kMake_some {g : Rho → R RV} : kMake c g (some xs) ρ = (match g (.m true (.obj c []) :: xs.map Sl.d) with
    | .ok (.d .none) (.m _ o :: _) => .ok o ρ
    | .ex e _ => .ex e ρ
    | _ => .bad) := rfl
@[simp] theorem fMethT_ap {g : Rho → R RV} {fo : Rho → R Mo} {fa : Rho → R (List AV)} : fMethT n c m g fo fa ρ = (fo ρ).bind fun o ρ1 => (match o with
  | .obj d fs => if d = c ∧ lookM m fs = none then (fa ρ1).bind fun as ρ2 => kMethT g (.obj d fs) (argsD n as) ρ2 else .bad
  | _ => .bad) := rfl
@[simp] theorem kMethT_some {g : Rho → R RV} {o : Mo} : kMethT g o (some xs) ρ = (match g (.m true o :: xs.map Sl.d) with
    | .ok (.d x) _ => .ok (.d x) ρ
    | .ex e _ => .ex e ρ
    | _ => .bad) := rfl
@[simp] theorem fDropX_ap {g : Rho → R RV} : fDropX g ρ = kDropX (g ρ) := rfl
@[simp] theorem fIfX_ap {g : Rho → R RV} {f1 f2 : Rho → R Fl} : fIfX g f1 f2 ρ = kIfX f1 f2 (g ρ) := rfl
@[simp] theorem fAsgX_ap {g : Rho → R RV} {h : Pd → Rho → Option Rho} : fAsgX g h ρ = kAsgX h (g ρ) := rfl
@[simp] theorem fRetX_ap {g : Rho → R RV} : fRetX g ρ = kRetX (g ρ) := rfl
theorem fMeth_ap {g : Rho → R RV} {fa : Rho → R (List AV)} : fMeth n i c m g fa ρ = if okMeth i c m ρ = true then (fa ρ).bind fun as ρ1 => kMeth n i g (argsD n as) ρ1 else .bad := rfl
theorem fMethS_ap {g : Rho → R RV} {fa : Rho → R (List AV)} : fMethS n i c m g fa ρ = if okMeth i c m ρ = true then (fa ρ).bind fun as ρ1 => kMethS i g (argsD n as) ρ1 else .bad := rfl
/-- a while, turn by turn -/
theorem fWhile_no {cd : Rho → R Bool} {fb : Rho → R Fl} (h : cd ρ = .ok false ρ1) : fWhile cd fb ρ = .ok .nx ρ1 :=
  fWhile_of (n := 1) (by simp [whRun, h]) (fun z => by cases z)
theorem fWhile_go {cd : Rho → R Bool} {fb : Rho → R Fl} {ρ2 : Rho} (h : cd ρ = .ok true ρ1) (h2 : fb ρ1 = .ok .nx ρ2) {r : R Fl} (h3 : fWhile cd fb ρ2 = r) (hr : r ≠ .bad) : fWhile cd fb ρ = r := by
  have hx : ∃ n, whRun cd fb n ρ2 ≠ .bad := by
    apply Classical.byContradiction
    intro z
    rw [show fWhile cd fb ρ2 = .bad by unfold fWhile; rw [dif_neg z]] at h3
    exact hr h3.symm
  obtain ⟨n, hn⟩ := hx
  have e : fWhile cd fb ρ2 = whRun cd fb n ρ2 := fWhile_of rfl hn
  exact fWhile_of (n := n + 1) (by simp only [whRun, h, h2]; rw [← e]; exact h3) hr
end Dt
set_option maxHeartbeats 4000000
/-! a tuple many times, its object without a dict -/
namespace Dt
open PySem PySem.Spec L2 Evl PyProof.Rows
def rRepN (K : PySem.W.Frag) : R2 := fun x y H Q => ∃ l k xs, x = .ref l ∧ y = .int k ∧ SqT K H l xs ∧ xs ≠ [] ∧ 2 ≤ k ∧ k ≤ 1000 ∧ xs.length ≤ 1000 ∧ Nt H (List.replicate k.toNat xs).flatten Q
theorem op_repN {X : Cx} : OpR X (binaryOp .Mult) (rRepN X.K) := by
  intro pins s σ H x y v u Q I rx ry h
  obtain ⟨l, k, xs, rfl, rfl, hT, hne, h1, h2, hz, q⟩ := h
  cases rx
  obtain ⟨t, rfl⟩ := ry
  obtain ⟨its, r, ⟨⟨cls, dd, data, sl⟩, ho, hc, n, hd⟩, hs⟩ := I.tuple hT
  simp only at hc hd
  subst hc hd
  have hle : its.length = xs.length := r.length.symm
  have hn : its ≠ [] := fun e => hne (by
    rw [e] at hle
    exact List.eq_nil_of_length_eq_zero hle.symm)
  have hi : its.toArray.isEmpty = false := by
    cases its with
    | nil => exact absurd rfl hn
    | cons a b => rfl
  have hsz0 : its.toArray.size = xs.length := by rw [List.size_toArray, hle]
  have hm : ((its.toArray.size : Nat) : Int) * k ≤ 1000000 := by
    rw [hsz0]
    have a1 : ((xs.length : Nat) : Int) * k ≤ 1000 * k := Int.mul_le_mul_of_nonneg_right (by omega) (by omega)
    omega
  have fl2 : ∀ {α : Type} (ys : List α), ys.length = xs.length → (List.replicate k.toNat ys).flatten.length ≤ sizeLine := fun ys hy => by
    rw [PyProof.Rows.lm_len_rep_flat, hy, sizeLine_eq]
    have a1 : k.toNat * xs.length ≤ 1000 * 1000 := Nat.mul_le_mul (by omega) hz
    omega
  have flen : (List.replicate k.toNat its).flatten.length ≤ sizeLine := fl2 its hle
  have c0 : (decide (k < -(2 ^ 63)) || decide (k ≥ 2 ^ 63)) = false := by
    rw [decide_eq_false (by omega), decide_eq_false (by omega)] <;> rfl
  have c1 : (its.toArray.isEmpty || k == 1) = false := by
    rw [hi, Bool.false_or]
    exact beq_eq_false_iff_ne.mpr (by omega)
  have c2 : (decide (k ≤ 0) || its.toArray.isEmpty) = false := by
    rw [hi, Bool.or_false]
    exact decide_eq_false (by omega)
  have c4 : Builtin.Tuple.tupleTooMany (((its.toArray.size : Nat) : Int) * k) = false := by
    unfold Builtin.Tuple.tupleTooMany
    rw [sizeLine_eq]
    exact decide_eq_false (by omega)
  refine wpAny_binaryOp_repeat_ref (T := "tuple") (U := "int") (by decide) ⟨_, ho, rfl⟩ (fun s' => typeIs_int s' k t) noFill_tuple_mul F.fills_int_mul F.slot_int_rmul repeat_tuple F.slot_int_index.lookup
    (call_meets F.slot_int_rmul (typeIs_int s k t) F.entry_int_rmul (F.args_int_rmul_2 _ _) (int_rmul_tuple k t l its.toArray n dd sl)
      ⟨ho, rfl, ⟨_, ho, rfl⟩, call_meets F.slot_tuple_mul ⟨_, ho, rfl⟩ F.entry_tuple_mul (F.args_tuple_mul_2 _ _) (tuple_mulW l its.toArray n dd sl k t c0 c1 c2 (by omega) c4 (by rw [size_rep, List.size_toArray]; exact flen)) ⟨ho, ?_⟩⟩)
  rw [size_rep]
  exact laidN (t' := s.toks) I (fun b ob q => Heap.get?_push_of_some _ q) (Nat.le_refl _) (r.rep k.toNat) (fl2 xs rfl) (Heap.get?_push_size _ rfl) rfl rfl ⟨_, rfl⟩ q
variable [WD]
abbrev rMulT (K : PySem.W.Frag) : R2 := fun x y H Q => rMulC K x y H Q ∨ rRepN K x y H Q
theorem kMulT {X : Cx} (K : PySem.W.Frag) (hK : X.K = K := by rfl) : OpR X (binaryOp .Mult) (rMulT K) := by
  subst hK
  exact (kMulC X.K).or op_repN
def mulT : Pd → Pd → Option Pd
  | .tuple xs, .int n => if n = 1 then some (.tuple xs) else if xs ≠ [] ∧ 2 ≤ n ∧ n ≤ 1000 ∧ xs.length ≤ 1000 then some (.tuple (List.replicate n.toNat xs).flatten) else none
  | x, y => mulC x y
theorem ro_mulT {K : PySem.W.Frag} : ROp K (rMulT K) mulT := by
  intro Hf H x y dx dy z e hx hy h Q q
  unfold mulT at h
  split at h
  · rename_i xs0 n0
    split at h
    · rename_i h1
      subst h1
      exact .inl (ro_mulC Hf H x y _ _ z e hx hy h Q q)
    · split at h
      · rename_i hc
        cases h
        obtain ⟨l, vs, rfl, t1, t2, r1⟩ := hx.tuple e
        refine .inr ⟨l, _, vs, rfl, hy.int, t2, fun z => ?_, hc.2.1, hc.2.2.1, by rw [r1.length]; exact hc.2.2.2, fun p o hd np => ?_⟩
        · subst z
          cases r1
          exact hc.1 rfl
        · have g := Pg.new (o := .frz o (.tup (List.replicate n0.toNat vs).flatten)) e np
          exact q _ _ _ g (.tup (sn_of upd_same hd) ((r1.reps _).mono g.ef))
      · cases h
  · exact .inl (ro_mulC Hf H x y _ _ z e hx hy h Q q)
omit [WD] in
@[simp] theorem mulT_int {k m : Int} : mulT (.int k) (.int m) = mulC (.int k) (.int m) := rfl
omit [WD] in
@[simp] theorem mulT_str {a : Str} {m : Int} : mulT (.str a) (.int m) = mulC (.str a) (.int m) := rfl
omit [WD] in
theorem mulT_tup {xs : List Pd} {m : Int} (h : xs ≠ []) (h1 : 1 ≤ m) (h2 : m ≤ 1000) (h3 : xs.length ≤ 1000) : mulT (.tuple xs) (.int m) = some (.tuple (List.replicate m.toNat xs).flatten) := by
  show (if m = 1 then _ else _) = _
  by_cases e : m = 1
  · subst e
    rw [if_pos rfl]
    simp
  · rw [if_neg e, if_pos ⟨h, by omega, h2, h3⟩]
theorem kLIndex {X : Cx} (K : PySem.W.Frag) (hK : X.K = K := by rfl) : MtR X "list.index" (rIndex K) := by
  subst hK
  exact mt_index
end Dt
/-! place.get(k, x) of an owned dict by texts and numbers -/
namespace Dt
open PySem PySem.Spec L2 Evl PyProof.Rows
variable [WD]
section
variable {Z : Zx} {W : WX}
def fPGet2 (p : Pl) (c : Str) (gk gx : Rho → Option Pd) : Rho → R AV := fun ρ => match p.get ρ with
  | some (.dct false ds) => if p.ok c ρ = true then (match gk ρ, gx ρ with
      | some kd, some x => (match keyM false kd with
        | some k => .ok (.d ((getN ds k).getD x)) ρ
        | none => .bad)
      | _, _ => .bad) else .bad
  | _ => .bad
theorem d_pget2K {c : Str} {tp tk tx : TE} {p : Pl} {gk gx : Rho → Option Pd} (hp : DPl Z c tp p) (hk : DK Z tk gk) (hx : DK Z tx gx) : DE Z W (tDGet2 tp tk tx) (fPGet2 p c gk gx) := by
  intro Hf H O σ ρ s Q q
  unfold fPGet2 at q
  cases e1 : p.get ρ with
  | none => rw [e1] at q; exact q.elim
  | some o =>
    rw [e1] at q
    cases o with
    | dct m ds =>
      cases m with
      | true => exact q.elim
      | false =>
      simp only at q
      split at q
      · rename_i hok
        cases e2 : gk ρ with
        | none => rw [e2] at q; exact q.elim
        | some kd =>
          cases e4 : gx ρ with
          | none => rw [e2, e4] at q; exact q.elim
          | some x =>
          rw [e2, e4] at q
          simp only at q
          cases e3 : keyM false kd with
          | none => rw [e3] at q; exact q.elim
          | some k =>
            rw [e3] at q
            simp only at q
            obtain ⟨j, rfl, rfl⟩ := keyM_kD e3
            refine hp Hf H O σ ρ _ s e1 hok rfl _ fun l rm _ _ => ?_
            cases rm with
            | @dk _ kvs _ h r =>
              refine ⟨l, rfl, .inl ⟨kvs, .inl h⟩, ?_⟩
              refine hk Hf H O σ ρ _ s e2 _ fun y Hf1 H1 g1 ry => ?_
              refine hx Hf1 H1 O σ ρ _ (s.grow g1) e4 _ fun z Hf2 H2 g2 rz => ?_
              obtain rfl : y = kV j := (keyD_ok ry (k := j) (by cases j <;> rfl)).1
              have g := g1.trans g2
              refine ⟨_, .inl ⟨kvs, j, .inl (g.eh _ _ h), rfl, rfl⟩, ?_⟩
              rcases (RKs.mono g.ef r).at (j := j) with ⟨h1, h2⟩ | ⟨d, v, h1, h2, h4⟩
              · rw [h1] at q
                rw [h2]
                exact q Hf2 H2 (s.grow g) g.gr Kp.refl z rz
              · rw [h1] at q
                rw [h2]
                exact q Hf2 H2 (s.grow g) g.gr Kp.refl v h4
      · exact q.elim
    | _ => exact q.elim
end
/-! ### a, b, c = a list -/
def putLst (n : Nat) (k : List Pd → Rho → Option Rho) : Pd → Rho → Option Rho
  | .list xs, ρ => if xs.length = n then k xs ρ else none
  | _, _ => none
theorem g_lst {K : PySem.W.Frag} {n : Nat} {js : List Nat} {gs : TGs} {k : List Pd → Rho → Option Rho} {wk : Bool} (hs : DGs K js gs k) : DG wk K js (gLst K n gs) (putLst n k) := by
  intro Hf H O σ ρ v x ρ' s r0 e Q q
  rcases r0 with r | ⟨_, a, vs, xs, rfl, rfl, h1, h2⟩
  case inr => simp only [putLst] at e; cases e
  cases r with
  | lst h1 h2 =>
    rename_i a vs xs
    simp only [putLst] at e
    by_cases hn : xs.length = n
    · rw [if_pos hn] at e
      exact ⟨_, _, rfl, ex_l s.ex h1, by rw [h2.length]; exact hn, hs Hf H O σ ρ _ _ ρ' s h2 e Q q⟩
    · rw [if_neg hn] at e; cases e
  | _ => cases e
theorem kgLst {X : Cx} (K : PySem.W.Frag) {es : List Expr} {k n : Nat} {pos : Pos} {t : TGs} (hc : X.calm = true) (h : PGs X es t) (hn : (assignEach es X.env).length = n := by rfl) (hst : (assignEach es X.env).findIdx? (·.1) = none := by rfl) (hK : X.K = K := by rfl) :
    PG X (.Tuple es k pos) (gLst K n t) := by subst hK; exact pg_lst hc h hn hst
end Dt
namespace Dt
open PySem PySem.Spec L2 Evl PyProof.Rows
variable [WD]
/-! ### a new dict: a copy, a pair -/
def rDictC : List V → Hp → VK → Prop := fun xs H Q => ∃ (a : Addr) (kvs : List (Key × V)), xs = [.ref a] ∧ Rd H a (.dK kvs) ∧ ∀ p, H p = none → Q (.ref p) (upd H p (.dK kvs))
omit [WD] in
theorem kDictC {X : Cx} : CallR X (.type "dict") rDictC := call_dictD
section
variable {Z : Zx} {W : WX}
def kNewDC (a : AV) (ρ : Rho) : R Mo := match a with
  | .d (.dict ds) => .ok (.dct false ds) ρ
  | _ => .bad
def fNewDC (fe : Rho → R AV) : Rho → R Mo := fun ρ => (fe ρ).bind fun a ρ1 => kNewDC a ρ1
theorem m_dictC {te : TE} {fe : Rho → R AV} (he : DE Z W te fe) : DM Z W (tCB rDictC (tCons te tNil)) (fNewDC fe) := by
  intro Hf H O σ ρ s Q p
  refine DJ.bind he s p fun a ρ1 v Hf1 H1 s1 g1 k1 rv p1 => ?_
  unfold kNewDC at p1
  cases a with
  | sl i => exact p1.elim
  | d da =>
    cases da with
    | dict ds =>
      have rv : RD Z.K Hf1 v (.dict ds) := rv
      cases rv with
      | dct h hs =>
        rename_i l oo kvs
        refine ⟨l, kvs, rfl, .inr ⟨_, s1.ex _ _ h⟩, fun q nq => ?_⟩
        have g := Pg.lay (o := .dK kvs) s1.ex nq
        exact p1 _ _ (s1.grow g) g.gr Kp.refl _ ⟨[q], .dk upd_same hs, by simp, fun a ha => by
          obtain rfl : a = q := by simpa using ha
          exact ⟨g1.gone nq, fresh_back s1.ex nq, _, upd_same⟩⟩
    | _ => exact p1.elim
def kNewD1 : AV → AV → Rho → R Mo
  | .d k, .d v, ρ2 => match keyD k with
    | some _ => .ok (.dct false [(k, v)]) ρ2
    | none => .bad
  | _, _, _ => .bad
def fNewD1 (fk fv : Rho → R AV) : Rho → R Mo := fun ρ => (fk ρ).bind fun a ρ1 => (fv ρ1).bind fun b ρ2 => kNewD1 a b ρ2
theorem m_disp1 {tk tv : TE} {fk fv : Rho → R AV} (hk : DE Z W tk fk) (hv : DE Z W tv fv) : DM Z W (tDisp [(tk, tv)]) (fNewD1 fk fv) := by
  intro Hf H O σ ρ s Q p q nq
  have no : ¬ O q := fun z => by
    obtain ⟨⟨o, t⟩, _⟩ := s.otr q z
    rw [nq] at t; cases t
  have g0 := Pg.lay (o := .dK []) s.ex nq
  have s0 := s.grow g0
  refine hk Hf _ O σ ρ s0 _ ?_
  have fq0 := fresh_back s.ex nq
  unfold fNewD1 at p
  cases ek : fk ρ with
  | bad => rw [ek] at p; exact p
  | ex x ρ1 => rw [ek] at p; exact fun cls d Hf' H' s' g' k' xr => p cls d Hf' H' s' (g0.gr.trans g') k' xr
  | ok a ρ1 =>
    rw [ek] at p
    intro Hf1 H1 s1 g1 k1 x rx
    refine hv Hf1 H1 O σ ρ1 s1 _ ?_
    have p : PostG Z W O σ ρ Hf H (fun a _ Hf' H' => ∀ v, RMn Z.K H Hf' H' v a → Q v H') ((fv ρ1).bind fun b ρ2 => kNewD1 a b ρ2) := p
    cases ev : fv ρ1 with
    | bad => rw [ev] at p; exact p
    | ex x ρ2 => rw [ev] at p; exact fun cls d Hf' H' s' g' k' xr => p cls d Hf' H' s' (g0.gr.trans (g1.trans g')) (k1.trans k') xr
    | ok b ρ2 =>
      rw [ev] at p
      intro Hf2 H2 s2 g2 k2 y ry
      cases a with
      | sl i => exact p.elim
      | d k =>
        cases b with
        | sl i => exact p.elim
        | d v =>
          have p : PostG Z W O σ ρ Hf H (fun a _ Hf' H' => ∀ v, RMn Z.K H Hf' H' v a → Q v H') (match keyD k with
            | some _ => .ok (.dct false [(k, v)]) ρ2
            | none => .bad) := p
          cases e : keyD k with
          | none => rw [e] at p; exact p.elim
          | some kk =>
            rw [e] at p
            obtain ⟨ex, rfl⟩ := keyD_ok (show RD Z.K Hf1 x k from rx) e
            have gg := g1.trans g2
            have hq2 : H2 q = some (.dK []) := gg.fm _ _ upd_same no
            have fq2 : Hf2 q = none := gg.stays upd_same fq0 no
            refine ⟨hq2, [(kk, y)], by rw [ex]; rfl, by simp, ?_⟩
            have s3 := s2.other (o' := .dK [(kk, y)]) hq2 fq2 no
            refine p _ _ s3 ?_ (k1.trans k2) _ ⟨[q], .dk upd_same (.cons ry .nil), by simp, fun a ha => ?_⟩
            · exact (g0.gr.trans gg).upd nq
            · obtain rfl : a = q := by simpa using ha
              exact ⟨nq, fq2, _, upd_same⟩
end
end Dt
set_option maxHeartbeats 4000000
/-! a, b = x, y with plain names -/
namespace Dt
open PySem PySem.Spec L2 Evl PyProof.Rows
variable [WD]
section
variable {Z : Zx} {W : WX}
theorem s_par {i j : Nat} {t : TA} {fa : Rho → R (List AV)} (ha : DA Z W t fa) : DS Z W (tPar i j t) (fAsg (fTup fa) (putTup 2 (putCons (put i) (putCons (put j) putNil)))) := by
  intro Hf H O σ ρ s En p
  have e0 : ∀ ρ, fAsg (fTup fa) (putTup 2 (putCons (put i) (putCons (put j) putNil))) ρ = (fa ρ).bind fun as ρ1 => (match datas as with
      | some xs => if xs.length ≤ sizeLine then R.ok (AV.d (.tuple xs)) ρ1 else R.bad
      | none => R.bad).bind fun a ρ2 => match a with
        | .d x => match (putTup 2 (putCons (put i) (putCons (put j) putNil))) x ρ2 with
          | some ρ3 => .ok .nx ρ3
          | none => .bad
        | .sl _ => .bad := by
    intro ρ
    unfold fAsg fTup
    cases fa ρ <;> rfl
  rw [e0] at p
  refine DJ.bindS ha s p fun as ρ1 vs Hf1 H1 s1 g1 k1 rs p1 => ?_
  cases e : datas as with
  | none => rw [e] at p1; exact p1.elim
  | some xs =>
    rw [e] at p1
    simp only at p1
    by_cases hz : xs.length ≤ sizeLine
    case neg => rw [if_neg hz] at p1; exact p1.elim
    rw [if_pos hz] at p1
    simp only [R.bind, putTup] at p1
    by_cases h2 : xs.length = 2
    case neg => rw [if_neg h2] at p1; exact p1.elim
    rw [if_pos h2] at p1
    have r := datas_ok rs e
    cases r with
    | nil => cases h2
    | cons r1 rr =>
      rename_i v vs x xs
      cases rr with
      | nil => cases h2
      | cons r2 rr2 =>
        rename_i w vs2 y xs2
        cases rr2 with
        | cons _ _ => simp at h2
        | nil =>
          simp only [putCons] at p1
          cases e1 : put i x ρ1 with
          | none => rw [e1] at p1; exact p1.elim
          | some ρ2 =>
            rw [e1] at p1
            simp only at p1
            cases e2 : put j y ρ2 with
            | none => rw [e2] at p1; exact p1.elim
            | some ρ3 =>
              rw [e2] at p1
              simp only [putNil] at p1
              obtain ⟨hi, rfl, ni⟩ := put_some e1
              obtain ⟨hj, rfl, nj⟩ := put_some e2
              have s2 := s1.putD hi r1
              have s3 := s2.putD hj r2
              have k2 : Kq ρ1 (ρ1.set i (.d x)) σ (σ.set i (some v)) := Kq.setS ni.1 ni.2
              have k3 : Kq (ρ1.set i (.d x)) ((ρ1.set i (.d x)).set j (.d y)) (σ.set i (some v)) ((σ.set i (some v)).set j (some w)) := Kq.setS nj.1 nj.2
              exact ⟨v, w, rfl, p1 Hf1 H1 O _ s3 g1 Orl.refl (Kq.trans k1.kq (k2.trans k3))⟩
end
end Dt
namespace Dt
open PySem PySem.Spec L2 Evl PyProof.Rows
variable [WD]
/-! ### a new dict out of a list of pairs -/
section
variable {Z : Zx} {W : WX}
def kNewDP (a : AV) (ρ : Rho) : R Mo := match a with
  | .d (.list ps) => (match pairsD ps with
    | some kvs => if (kvs.map (·.1)).Nodup then .ok (.dct false (kvs.map fun p => (kD p.1, p.2))) ρ else .bad
    | none => .bad)
  | _ => .bad
def fNewDP (fe : Rho → R AV) : Rho → R Mo := fun ρ => (fe ρ).bind fun a ρ1 => kNewDP a ρ1
theorem m_dictP {te : TE} {fe : Rho → R AV} (he : DE Z W te fe) : DM Z W (tCB (rDictP Z.K) (tCons te tNil)) (fNewDP fe) := by
  intro Hf H O σ ρ s Q p
  refine DJ.bind he s p fun a ρ1 v Hf1 H1 s1 g1 k1 rv p1 => ?_
  unfold kNewDP at p1
  cases a with
  | sl i => exact p1.elim
  | d da =>
    cases da with
    | list ps =>
      have rv : RD Z.K Hf1 v (.list ps) := rv
      simp only at p1
      cases hk : pairsD ps with
      | none => rw [hk] at p1; exact p1.elim
      | some kvs =>
        rw [hk] at p1
        simp only at p1
        by_cases hnd : (kvs.map (·.1)).Nodup
        case neg => rw [if_neg hnd] at p1; exact p1.elim
        rw [if_pos hnd] at p1
        cases rv with
        | lst h1 h2 =>
          rename_i l us
          obtain ⟨as, ws, rfl, hp, hm, hr⟩ := pairs_ok s1.ex h2 hk
          refine ⟨l, as, ws, rfl, ex_l s1.ex h1, hp, fun q nq => ?_⟩
          rw [merge_new ws [] (by rw [List.nil_append, hm]; exact hnd), List.nil_append]
          have g := Pg.lay (o := .dK ws) s1.ex nq
          exact p1 _ _ (s1.grow g) g.gr Kp.refl _ ⟨[q], .dk upd_same hr, by simp, fun a ha => by
            obtain rfl : a = q := by simpa using ha
            exact ⟨g1.gone nq, fresh_back s1.ex nq, _, upd_same⟩⟩
    | _ => exact p1.elim
end
end Dt
set_option maxHeartbeats 4000000
/-! lists that stand at a place: a field of an object -/
namespace Dt
open PySem PySem.Spec L2 Evl PyProof.Rows
variable [WD]
section
variable {Z : Zx} {W : WX}
def kOne (z : Option Pd) (ρ : Rho) : R AV := match z with
  | some z => .ok (.d z) ρ
  | none => .bad
/-- what stands at the place: a list -/
def plL (p : Pl) (c : Str) (ρ : Rho) : Option Pd := match p.get ρ with
  | some (.lst xs) => if p.ok c ρ = true then some (.list xs) else none
  | _ => none
theorem pl_rx {c : Str} {tp : TE} {p : Pl} (hp : DPl Z c tp p) {Hf H : Hp} {O : Addr → Prop} {σ : L2.St} {ρ : Rho} (s : SR Z.K Hf H O σ ρ) {x : Pd} (e : plL p c ρ = some x) {Q : VK} (q : ∀ l, RX Z.K Hf H (.ref l) x → Q (.ref l) H) : tp σ H Q := by
  unfold plL at e
  cases e1 : p.get ρ with
  | none => rw [e1] at e; cases e
  | some o =>
    rw [e1] at e
    cases o with
    | lst xs =>
      simp only at e
      split at e
      · rename_i hok
        cases e
        refine hp Hf H O σ ρ _ s e1 hok rfl _ fun l rm _ _ => ?_
        cases rm with
        | lst h r => exact q l (.inr ⟨l, _, xs, rfl, rfl, h, r⟩)
      · cases e
    | _ => cases e
theorem RX.up {Hf H Hf' H' : Hp} {v : V} {x : Pd} (h : RX Z.K Hf H v x) (g : Pg Hf H Hf' H') : RX Z.K Hf' H' v x := by
  rcases h with h | ⟨l, vs, xs, e1, e2, h1, h2⟩
  · exact .inl (h.mono g.ef)
  · exact .inr ⟨l, vs, xs, e1, e2, g.eh _ _ h1, h2.mono g.ef⟩
/-- a built-in over the list at a place -/
def fPCB (p : Pl) (c : Str) (h : List Pd → Option Pd) : Rho → R AV := fun ρ => match plL p c ρ with
  | some x => kOne (h [x]) ρ
  | none => .bad
theorem d_plCB {c : Str} {tp : TE} {p : Pl} {r : List V → Hp → VK → Prop} {h : List Pd → Option Pd} (hr : RCall Z.K r h) (hp : DPl Z c tp p) : DE Z W (tCB r (tCons tp tNil)) (fPCB p c h) := by
  intro Hf H O σ ρ s Q q
  unfold fPCB at q
  cases e : plL p c ρ with
  | none => rw [e] at q; exact q.elim
  | some x =>
    rw [e] at q
    simp only at q
    cases ez : h [x] with
    | none => rw [ez] at q; exact q.elim
    | some z =>
      rw [ez] at q
      refine pl_rx hp s e fun l rx => ?_
      exact hr Hf H [.ref l] [x] z s.ex (.cons rx .nil) ez Q fun v Hf' H' g rv => q Hf' H' (s.grow g) g.gr Kp.refl v rv
/-- an operation, the list at a place ahead -/
def fPOp (p : Pl) (c : Str) (h : Pd → Pd → Option Pd) (gk : Rho → Option Pd) : Rho → R AV := fun ρ => match plL p c ρ, gk ρ with
  | some x, some y => kOne (h x y) ρ
  | _, _ => .bad
theorem d_plOp {c : Str} {tp tk : TE} {p : Pl} {gk : Rho → Option Pd} {r : R2} {h : Pd → Pd → Option Pd} (hr : ROp Z.K r h) (hp : DPl Z c tp p) (hk : DK Z tk gk) : DE Z W (tOp r tp tk) (fPOp p c h gk) := by
  intro Hf H O σ ρ s Q q
  unfold fPOp at q
  cases e : plL p c ρ with
  | none => rw [e] at q; exact q.elim
  | some x =>
    cases e2 : gk ρ with
    | none => rw [e, e2] at q; exact q.elim
    | some y =>
      rw [e, e2] at q
      simp only at q
      cases ez : h x y with
      | none => rw [ez] at q; exact q.elim
      | some z =>
        rw [ez] at q
        refine pl_rx hp s e fun l rx => ?_
        refine hk Hf H O σ ρ y s e2 _ fun yv Hf1 H1 g1 ry => ?_
        exact hr Hf1 H1 (.ref l) yv x y z g1.ex (rx.up g1) (.inl ry) ez Q fun v Hf' H' g rv => q Hf' H' ((s.grow g1).grow g) (g1.gr.trans g.gr) Kp.refl v rv
/-- an operation by readings -/
def gOp2 (h : Pd → Pd → Option Pd) (ga gb : Rho → Option Pd) : Rho → Option Pd := fun ρ => match ga ρ, gb ρ with
  | some x, some y => h x y
  | _, _ => none
theorem k_op {ta tb : TE} {ga gb : Rho → Option Pd} {r : R2} {h : Pd → Pd → Option Pd} (hr : ROp Z.K r h) (ha : DK Z ta ga) (hb : DK Z tb gb) : DK Z (tOp r ta tb) (gOp2 h ga gb) := by
  intro Hf H O σ ρ z s e Q q
  unfold gOp2 at e
  cases e1 : ga ρ with
  | none => rw [e1] at e; cases e
  | some x =>
    cases e2 : gb ρ with
    | none => rw [e1, e2] at e; cases e
    | some y =>
      rw [e1, e2] at e
      refine ha Hf H O σ ρ x s e1 _ fun xv Hf1 H1 g1 rx => ?_
      refine hb Hf1 H1 O σ ρ y (s.grow g1) e2 _ fun yv Hf2 H2 g2 ry => ?_
      exact hr Hf2 H2 xv yv x y z g2.ex (.inl (rx.mono g2.ef)) (.inl ry) e Q fun v Hf' H' g rv => q v Hf' H' ((g1.trans g2).trans g) rv
/-- a built-in over an own list, as a reading -/
def gCBO (h : List Pd → Option Pd) (i : Nat) : Rho → Option Pd := fun ρ => match ρ[i]? with
  | some (.own _ xs) => h [.list xs]
  | _ => none
theorem k_cbo {i : Nat} {r : List V → Hp → VK → Prop} {h : List Pd → Option Pd} (hr : RCall Z.K r h) : DK Z (tCB r (tCons (tVar i) tNil)) (gCBO h i) := by
  intro Hf H O σ ρ z s e Q q
  unfold gCBO at e
  cases e1 : ρ[i]? with
  | none => rw [e1] at e; cases e
  | some y =>
    rw [e1] at e
    cases y with
    | own b xs =>
      obtain ⟨l, vs, h1, h2, h3, h4⟩ := s.own i b xs e1
      exact ⟨.ref l, h1, hr Hf H [.ref l] [.list xs] z s.ex (.cons (.inr ⟨l, vs, xs, rfl, rfl, h3, h4⟩) .nil) e Q fun v Hf' H' g rv => q v Hf' H' g rv⟩
    | _ => cases e
/-- a slice of the list at a place -/
def gPart : Option (Rho → Option Pd) → Rho → Option (Option Int)
  | none, _ => some none
  | some g, ρ => match g ρ with
    | some (.int i) => some (some i)
    | _ => none
def DKo (Z : Zx) (t : TO) (g : Option (Rho → Option Pd)) : Prop := ∀ Hf H O σ ρ i, SR Z.K Hf H O σ ρ → gPart g ρ = some i → ∀ Q : Option Int → Hp → Prop, (∀ Hf' H', Pg Hf H Hf' H' → Q i H') → t σ H Q
theorem ko_none : DKo Z tNoPart none := fun Hf H O σ ρ i s e Q q => by
  cases e
  exact q Hf H (Pg.refl s.ex)
theorem ko_some {t : TE} {g : Rho → Option Pd} (hk : DK Z t g) : DKo Z (tPart t) (some g) := fun Hf H O σ ρ i s e Q q => by
  have e : (match g ρ with | some (.int i) => some (some i) | _ => none) = some i := e
  cases e1 : g ρ with
  | none => rw [e1] at e; cases e
  | some y =>
    rw [e1] at e
    cases y with
    | int j =>
      cases e
      exact hk Hf H O σ ρ (.int j) s e1 _ fun v Hf' H' g' rv => ⟨j, RX.int (show RX Z.K Hf' H' v (.int j) from .inl rv), q Hf' H' g'⟩
    | _ => cases e
def fPSl (p : Pl) (c : Str) (h : Pd → Option Int → Option Int → Option Pd) (gl gh : Option (Rho → Option Pd)) : Rho → R AV := fun ρ => match plL p c ρ, gPart gl ρ, gPart gh ρ with
  | some x, some lo, some hi => kOne (h x lo hi) ρ
  | _, _, _ => .bad
theorem d_plSl {c : Str} {tp : TE} {tl th : TO} {p : Pl} {gl gh : Option (Rho → Option Pd)} {r : V → Option Int → Option Int → Hp → VK → Prop} {h : Pd → Option Int → Option Int → Option Pd} (hr : RSl Z.K r h) (hp : DPl Z c tp p) (hl : DKo Z tl gl) (hh : DKo Z th gh) : DE Z W (tSl r tp tl th) (fPSl p c h gl gh) := by
  intro Hf H O σ ρ s Q q
  unfold fPSl at q
  cases e : plL p c ρ with
  | none => rw [e] at q; exact q.elim
  | some x =>
    cases e1 : gPart gl ρ with
    | none => rw [e, e1] at q; exact q.elim
    | some lo =>
      cases e2 : gPart gh ρ with
      | none => rw [e, e1, e2] at q; exact q.elim
      | some hi =>
        rw [e, e1, e2] at q
        simp only at q
        cases ez : h x lo hi with
        | none => rw [ez] at q; exact q.elim
        | some z =>
          rw [ez] at q
          refine pl_rx hp s e fun l rx => ?_
          refine hl Hf H O σ ρ lo s e1 _ fun Hf1 H1 g1 => ?_
          refine hh Hf1 H1 O σ ρ hi (s.grow g1) e2 _ fun Hf2 H2 g2 => ?_
          exact hr Hf2 H2 (.ref l) lo hi x z g2.ex ((rx.up g1).up g2) ez Q fun v Hf' H' g rv => q Hf' H' (((s.grow g1).grow g2).grow g) ((g1.gr.trans g2.gr).trans g.gr) Kp.refl v rv
/-- append to the list at a place -/
def fPApp (p : Pl) (c : Str) (gk : Rho → Option Pd) : Rho → R Fl := fun ρ => match p.get ρ, gk ρ with
  | some (.lst xs), some y => if p.ok c ρ = true ∧ xs.length < sizeLine then .ok .nx (p.put (.lst (xs ++ [y])) ρ) else .bad
  | _, _ => .bad
theorem s_papp {c : Str} {tp tk : TE} {p : Pl} {gk : Rho → Option Pd} (hp : DPl Z c tp p) (hk : DK Z tk gk) : DS Z W (tDrop (tBM Z.K "list" rAppend tp (tCons tk tNil))) (fPApp p c gk) := by
  intro Hf H O σ ρ s En q
  unfold fPApp at q
  cases e1 : p.get ρ with
  | none => rw [e1] at q; exact q.elim
  | some o =>
    rw [e1] at q
    cases o with
    | lst xs =>
      cases e2 : gk ρ with
      | none => rw [e2] at q; exact q.elim
      | some y =>
        rw [e2] at q
        simp only at q
        split at q
        · rename_i hc
          obtain ⟨hok, hz⟩ := hc
          refine hp Hf H O σ ρ _ s e1 hok rfl _ fun l rm hO wb => ?_
          cases rm with
          | @lst _ vs _ h r =>
            refine ⟨.inl ⟨rfl, vs, .inl (.inl h)⟩, ?_⟩
            refine hk Hf H O σ ρ y s e2 _ fun v Hf1 H1 g1 rv => ?_
            have h1 := g1.eh _ _ h
            have r1 : RDs Z.K Hf1 (vs ++ [v]) (xs ++ [y]) := (r.mono g1.ef).append (.cons rv .nil)
            exact ⟨l, vs, v, rfl, rfl, h1, by rw [r.length]; exact hz, q Hf1 _ O σ (wb Hf1 H1 (.lst (vs ++ [v])) (.lst (xs ++ [y])) g1 (.lst upd_same r1)) (g1.gr.chg hO) Orl.refl ((Pl.kp e1).kq)⟩
        · exact q.elim
    | _ => exact q.elim
end
end Dt
set_option maxHeartbeats 4000000
/-! {k: v}, the key a tuple -/
namespace Dt
open PySem PySem.Spec L2 Evl PyProof.Rows
variable [WD]
def tDispN (K : PySem.W.Frag) (tk tv : TE) : TE := fun σ H Q => ∀ p, H p = none → tPairs [(tk, tv)] σ (upd H p (DkN p [])) fun ps H2 => H2 p = some (DkN p []) ∧ ∃ b k v, ps = [(.ref b, v)] ∧ NkIs K H2 k (.ref b) ∧ k.depth ≤ 8 ∧ ∀ r, RelV v r → Q (.ref p) (upd H2 p (DkN p [(k, b, r)]))
section
variable {X : Cx} {pos : Pos} {ek ev : Expr} {tk tv : TE}
theorem pe_dispN (K : PySem.W.Frag) (hu : X.A.units + 9 < cLine) (hk : PE X ek tk) (hv : PE X ev tv) (hK : X.K = K := by rfl) (hP : X.prog = WD.P := by rfl) (hw : X.w = WD.w := by rfl) : PE X (.Dict [some ek] [ev] pos) (tDispN K tk tv) := by
  subst hK
  refine ⟨fun pins s σ H Q I q => ?_⟩
  have hn := I.hok.fresh (Nat.le_refl s.heap.objs.size)
  have I1 := I.laid (a := s.heap.objs.size) (o := DkN s.heap.objs.size []) (h' := s.heap.push { cls := .type "dict", data := .dict #[] }) (t' := s.toks) (fun _ _ q => Heap.get?_push_of_some _ q) (Nat.le_refl _) (dn_empty s.heap I.big)
  have hrun := (pps_cons (pos := pos) hk hv pps_nil).run pins _ σ _ _ I1 (q _ hn)
  rw [arm_eval_Dict, zip_pairTrees [some ek] [ev] X.env pos rfl rfl, dictDisplay_pairs (pairTrees [some ek] [ev] X.env pos) (by simp [pairTrees]) (by simp [pairTrees])]
  rw [modelW hP hw] at hrun ⊢
  refine wpAny_bind (wpAny_standAt (wpAny_bind (wpAny_subDictH (knd := nestedKind WD.P WD.w) (Q := fun d s' => wpAny (model WD.P WD.w) X.A (pure (Value.ref d)) (EP X pins σ Q) X.xe s') (show X.A.units + 8 < cLine by omega) (by simp [pairTrees]) (thn hrun fun ws s2 ⟨ps, H2, I2, rel, e, b, k, v, ep, nk, dp, q2⟩ => ?_))))
  subst ep
  cases rel with
  | @cons _ u _ ws h t =>
    cases t
    obtain ⟨u1, u2⟩ := u
    obtain ⟨h1, h2⟩ := h
    have h1 : u1 = Value.ref b := h1
    subst h1
    obtain ⟨hs, hz, dd, hall⟩ := dn_of I2 e (fun x hx => by cases hx)
    refine ⟨[(k, b, u2)], ⟨rfl, rfl, dn_is I2 nk dp, trivial⟩, dd, fun h' tk' hd' sb => wpAny_pure ?_⟩
    have hd' : h'.DictOfH (nestedKind WD.P WD.w) s.heap.objs.size [(k, b, u2)] := hd'
    refine ⟨.ref s.heap.objs.size, _, ?_, rfl, q2 u2 h2⟩
    refine I2.write (x := s.heap.objs.size) (e := s.heap.objs.size) (by rw [e]; exact True.intro) (.inl rfl) (fun c q hb z => (sb.2 c hb).trans z) (by obtain ⟨o, _, _, q, _⟩ := hd'; exact ⟨o, q⟩) ?_
    exact dn_new hs (by simp [sizeLine]) hd' (fun x hx => by rw [List.mem_singleton.mp hx]; exact dp)
end
end Dt
namespace Dt
open PySem PySem.Spec L2 Evl PyProof.Rows
variable [WD]
section
variable {Z : Zx} {W : WX}
def kNewDN1 : AV → AV → Rho → R Mo
  | .d k, .d v, ρ2 => match keyM true k with
    | some _ => .ok (.dct true [(k, v)]) ρ2
    | none => .bad
  | _, _, _ => .bad
def fNewDN1 (fk fv : Rho → R AV) : Rho → R Mo := fun ρ => (fk ρ).bind fun a ρ1 => (fv ρ1).bind fun b ρ2 => kNewDN1 a b ρ2
theorem m_dispN {tk tv : TE} {fk fv : Rho → R AV} (hk : DE Z W tk fk) (hv : DE Z W tv fv) : DM Z W (tDispN Z.K tk tv) (fNewDN1 fk fv) := by
  intro Hf H O σ ρ s Q p q nq
  have no : ¬ O q := fun z => by
    obtain ⟨⟨o, t⟩, _⟩ := s.otr q z
    rw [nq] at t; cases t
  have g0 := Pg.lay (o := DkN q []) s.ex nq
  have s0 := s.grow g0
  refine hk Hf _ O σ ρ s0 _ ?_
  have fq0 := fresh_back s.ex nq
  unfold fNewDN1 at p
  cases ek : fk ρ with
  | bad => rw [ek] at p; exact p
  | ex x ρ1 => rw [ek] at p; exact fun cls d Hf' H' s' g' k' xr => p cls d Hf' H' s' (g0.gr.trans g') k' xr
  | ok a ρ1 =>
    rw [ek] at p
    intro Hf1 H1 s1 g1 k1 x rx
    refine hv Hf1 H1 O σ ρ1 s1 _ ?_
    have p : PostG Z W O σ ρ Hf H (fun a _ Hf' H' => ∀ v, RMn Z.K H Hf' H' v a → Q v H') ((fv ρ1).bind fun b ρ2 => kNewDN1 a b ρ2) := p
    cases ev : fv ρ1 with
    | bad => rw [ev] at p; exact p
    | ex x ρ2 => rw [ev] at p; exact fun cls d Hf' H' s' g' k' xr => p cls d Hf' H' s' (g0.gr.trans (g1.trans g')) (k1.trans k') xr
    | ok b ρ2 =>
      rw [ev] at p
      intro Hf2 H2 s2 g2 k2 y ry
      cases a with
      | sl i => exact p.elim
      | d k =>
        cases b with
        | sl i => exact p.elim
        | d v =>
          have p : PostG Z W O σ ρ Hf H (fun a _ Hf' H' => ∀ v, RMn Z.K H Hf' H' v a → Q v H') (match keyM true k with
            | some _ => .ok (.dct true [(k, v)]) ρ2
            | none => .bad) := p
          cases e : keyM true k with
          | none => rw [e] at p; exact p.elim
          | some kk =>
            rw [e] at p
            have gg := g1.trans g2
            have hq2 : H2 q = some (DkN q []) := gg.fm _ _ upd_same no
            have fq2 : Hf2 q = none := gg.stays upd_same fq0 no
            have rx2 : RD Z.K Hf2 x k := RD.mono g2.ex (show RD Z.K Hf1 x k from rx)
            obtain ⟨ng, hd, bb, rfl⟩ := nget_of (Z := Z) s2.ex hq2 (RNs.nil : RNs Z.K Hf2 [] []) rx2 e
            obtain ⟨_, _, _, nk, dp⟩ := ng
            refine ⟨hq2, bb, kk, y, rfl, nk, dp, fun r rv => ?_⟩
            have s3 := s2.other (o' := DkN q [(kk, bb, r)]) hq2 fq2 no
            refine p _ _ s3 ?_ (k1.trans k2) _ ⟨[q], .dn upd_same (.cons rx2 hd rv ry .nil), by simp, fun a ha => ?_⟩
            · exact (g0.gr.trans gg).upd nq
            · obtain rfl : a = q := by simpa using ha
              exact ⟨nq, fq2, _, upd_same⟩
end
end Dt
set_option maxHeartbeats 4000000
/-! walking the keys of a dict that is data -/
namespace Dt
open PySem PySem.Spec L2 Evl PyProof.Rows
variable [WD]
section
variable {Z : Zx} {W : WX}
theorem RKs.get {K : PySem.W.Frag} {H : Hp} : ∀ {kvs : List (Key × V)} {ds : List (Pd × Pd)}, RKs K H kvs ds → kvs.length = ds.length ∧ ∀ (i : Nat) (k : Key) (v : V), kvs[i]? = some (k, v) → (ds.map (·.1))[i]? = some (kD k)
  | _, _, .nil => ⟨rfl, fun i k v h => by simp at h⟩
  | _, _, .cons (k := k0) (v := v0) (d := d0) _ hs => by
    obtain ⟨i1, i2⟩ := RKs.get hs
    refine ⟨congrArg Nat.succ i1, fun i k v h => ?_⟩
    cases i with
    | zero => cases h; rfl
    | succ i => exact i2 i k v h
theorem rd_kD {K : PySem.W.Frag} {H : Hp} (k : Key) : RD K H (kV k) (kD k) := by
  cases k with
  | inl i => exact .int i
  | inr x => exact .str x
theorem dlv_keys {K : PySem.W.Frag} {Hf : Hp} {l : Addr} {o : Obj} {kvs : List (Key × V)} {ds : List (Pd × Pd)} (h : Hf l = some (.frz o (.dK kvs))) (hs : RKs K Hf kvs ds) : Dlv false K (Itk l o kvs) Hf (ds.map (·.1)) := by
  intro i Hf' H' e1 e2
  obtain ⟨hl, hg⟩ := hs.get
  have hH : H' l = some (.frz o (.dK kvs)) := e2 _ _ (e1 _ _ h)
  refine ⟨fun hi => ⟨hH, by rw [hl]; simpa using hi⟩, fun hi => ⟨hH, by rw [hl]; simpa using hi⟩, fun v H'' hy x hx => ?_⟩
  obtain ⟨rfl, k, w, hk, rfl⟩ := hy
  rw [hg i k w hk] at hx
  cases hx
  exact ⟨Hf', Pg.refl e2, .inl (rd_kD k)⟩
def fItK (fe : Rho → R AV) : Rho → R (List Pd) := fun ρ => (fe ρ).bind fun a ρ1 => match a with
  | .d (.dict ds) => .ok (ds.map (·.1)) ρ1
  | _ => .bad
theorem i_keys {td : TE} {fe : Rho → R AV} (he : DE Z W td fe) : DI false Z W (iKeys td) (fItK fe) := by
  intro Hf H O σ ρ s Q p
  refine DJ.bind he s p fun a ρ1 v Hf1 H1 s1 g1 k1 rv p1 => ?_
  cases a with
  | sl i => exact p1.elim
  | d da =>
    cases da with
    | dict ds =>
      have rv : RD Z.K Hf1 v (.dict ds) := rv
      cases rv with
      | @dct l o kvs _ h hs =>
        exact ⟨l, o, rfl, .inl ⟨kvs, s1.ex _ _ h, p1 Hf1 H1 s1 Gr.refl Kp.refl _ (dlv_keys h hs)⟩⟩
    | _ => exact p1.elim
end
end Dt
namespace Lw
open PySem PySem.Spec L2 Evl Dt
def raisedC : List Str := ["NoBook"]
def testedC : List Str := ["NoBook", "NoCall", "NoForm", "NoKept", "NoNumber", "NoOrder", "NoTelling", "NoText", "NoWeights", "NoWord", "TooMany"]
def caughtC : List Str := ["LadderError"]
def upC : List (Str × Str) := [("NoBook", "NoBook"), ("NoBook", "LadderError"), ("NoBook", "ValueError")]
def sb (c : Str) : Str → Option Bool := sbG raisedC upC c
def topS (i : Nat) : Stmt := PySem.Challenge.pw_wishladder_k43_books_of_any_things.main.body.getD i (.Pass ⟨0, 0, 0, 0⟩)
/-! ### _law_take -/
abbrev st__law_take : Stmt := topS 67
abbrev N__law_take : List Str := ["_law_pack_here", "_law_size", "_law_digit"]
theorem sc__law_take : FnScope N__law_take ["_law_pack_here", "_law_size"] (defScope st__law_take) := ⟨rfl, rfl, rfl, by decide +kernel, rfl, by decide +kernel, by decide +kernel⟩
def w__law_take : Rho → R Fl :=
  (fSeq (fTake 0 2 (fVar 1))
  (fRet (fVar 2)))
def m__law_take : Rho → R RV := gOf 3 w__law_take
/-! ### _law_names -/
abbrev st__law_names : Stmt := topS 68
abbrev N__law_names : List Str := ["_law_pack_here", "_law_amount", "_law_letters", "_law_turn", "_law_pick", "_law_size", "_law_k"]
theorem sc__law_names : FnScope N__law_names ["_law_pack_here", "_law_amount"] (defScope st__law_names) := ⟨rfl, rfl, rfl, by decide +kernel, rfl, by decide +kernel, by decide +kernel⟩
def ce__law_names_2 : Rho → R AV :=
  (f2 addD (fSl slD (fVar 2) (fPart (fC (.int 5))) (fPart (f2 addD (fC (.int 5)) (fVar 5)))) (f2 ixD (fVar 2) (fVar 6)))
def ce__law_names_1 : Rho → R AV :=
  (f2 addD (f2 ixD (fVar 2) (fVar 6)) (fSl slD (fVar 2) (fPart (fC (.int 5))) (fPart (f2 addD (fC (.int 5)) (f2 modD (f2 addD (fVar 5) (f2 mulC (fC (.int 3)) (fVar 6))) (fC (.int 8)))))))
def ce__law_names_0 : Rho → R AV :=
  (f2 mulC (f2 ixD (fVar 2) (fC (.int 0))) (f2 addD (fC (.int 1)) (f2 modD (f2 addD (fVar 5) (fVar 6)) (fC (.int 8)))))
def w__law_names : Rho → R Fl :=
  (fSeq (fAsg (fC (.str "abcdefghijklmnopqrstuvwxyz")) (put 2))
  (fSeq (fAsg (fCallP 1 0 m__law_take (fCons (fC (.int 26)) fNil)) (put 3))
  (fSeq (fAsg (f2 addD (fSl slD (fVar 2) (fPart (fVar 3)) fNoPart) (fSl slD (fVar 2) fNoPart (fPart (fVar 3)))) (put 2))
  (fSeq (fAsg (fCallP 1 0 m__law_take (fCons (fC (.int 3)) fNil)) (put 4))
  (fSeq (fAsg (fCallP 1 0 m__law_take (fCons (fC (.int 8)) fNil)) (put 5))
  (fSeq (fIfS (fTest (f2 eqD (fVar 4) (fC (.int 0)))) (fRetL (fLc (fRng1 (fCons (fVar 1) fNil)) (put 6) (fun ρ => .ok true ρ) ce__law_names_0 [6])) fNx)
  (fSeq (fIfS (fTest (f2 eqD (fVar 4) (fC (.int 1)))) (fRetL (fLc (fRng1 (fCons (fVar 1) fNil)) (put 6) (fun ρ => .ok true ρ) ce__law_names_1 [6])) fNx)
  (fRetL (fLc (fRng1 (fCons (fVar 1) fNil)) (put 6) (fun ρ => .ok true ρ) ce__law_names_2 [6])))))))))
def m__law_names : Rho → R RV := gOf 7 w__law_names
/-! ### _law_set -/
abbrev st__law_set : Stmt := topS 69
abbrev N__law_set : List Str := ["_law_pack_here", "_law_signs", "_law_number", "_law_k"]
theorem sc__law_set : FnScope N__law_set ["_law_pack_here", "_law_signs"] (defScope st__law_set) := ⟨rfl, rfl, rfl, by decide +kernel, rfl, by decide +kernel, by decide +kernel⟩
def ct__law_set_0 : Rho → R Bool :=
  (fTest (f2 eqD (f2 modD (f2 fdivD (fVar 2) (f2 shlD (fC (.int 1)) (fVar 3))) (fC (.int 2))) (fC (.int 1))))
def ce__law_set_0 : Rho → R AV :=
  (f2 ixD (fVar 1) (fVar 3))
def w__law_set : Rho → R Fl :=
  (fSeq (fAsg (f2 addD (fC (.int 1)) (fCallP 1 0 m__law_take (fCons (f2 subD (f2 shlD (fC (.int 1)) (fCB lenD (fCons (fVar 1) fNil))) (fC (.int 1))) fNil))) (put 2))
  (fRet (fM1 joinD (fC (.str "")) (fL (fLc (fRng1 (fCons (fCB lenD (fCons (fVar 1) fNil)) fNil)) (put 3) ct__law_set_0 ce__law_set_0 [3])))))
def m__law_set : Rho → R RV := gOf 4 w__law_set
/-! ### _law_pattern -/
abbrev st__law_pattern : Stmt := topS 70
abbrev N__law_pattern : List Str := ["_law_pack_here", "_law_signs", "_law_kind"]
theorem sc__law_pattern : FnScope N__law_pattern ["_law_pack_here", "_law_signs"] (defScope st__law_pattern) := ⟨rfl, rfl, rfl, by decide +kernel, rfl, by decide +kernel, by decide +kernel⟩
def w__law_pattern : Rho → R Fl :=
  (fSeq (fAsg (f2 ixD (fL (fLst (fCons (fC (.str "sign")) (fCons (fC (.str "drop")) (fCons (fC (.str "add")) (fCons (fC (.str "change")) (fCons (fC (.str "beside")) (fCons (fC (.str "beside")) fNil)))))))) (fCallP 1 0 m__law_take (fCons (fC (.int 6)) fNil))) (put 2))
  (fSeq (fIfS (fTest (f2 eqD (fVar 2) (fC (.str "beside")))) (fRet (fTup (fCons (fVar 2) (fCons (fCallP 1 0 m__law_set (fCons (f2 addD (fC (.str "#")) (fVar 1)) fNil)) (fCons (fCallP 1 0 m__law_set (fCons (f2 addD (fC (.str "#")) (fVar 1)) fNil)) fNil))))) fNx)
  (fSeq (fIfS (fTest (f2 eqD (fVar 2) (fC (.str "change")))) (fRet (fTup (fCons (fVar 2) (fCons (fCallP 1 0 m__law_set (fCons (fVar 1) fNil)) (fCons (fCallP 1 0 m__law_set (fCons (fVar 1) fNil)) fNil))))) fNx)
  (fRet (fTup (fCons (fVar 2) (fCons (fCallP 1 0 m__law_set (fCons (fVar 1) fNil)) fNil)))))))
def m__law_pattern : Rho → R RV := gOf 3 w__law_pattern
/-! ### _law_code -/
abbrev st__law_code : Stmt := topS 71
abbrev N__law_code : List Str := ["_law_pack_here", "_law_most", "_law_signs", "_law_names_here", "_law_whole", "_law_wishes", "_law_name", "_law_patterns", "_law_turn", "_law_little"]
theorem sc__law_code : FnScope N__law_code ["_law_pack_here", "_law_most"] (defScope st__law_code) := ⟨rfl, rfl, rfl, by decide +kernel, rfl, by decide +kernel, by decide +kernel⟩
def fb__law_code_1 : Rho → R Fl :=
  (fApp 7 (fTup (fCons (fCallP 1 0 m__law_pattern (fCons (fVar 2) fNil)) (fCons (f2 addD (fC (.int 1)) (f2 fdivD (fCallP 1 0 m__law_take (fCons (fC (.int 6)) fNil)) (fC (.int 4)))) fNil))))
def fb__law_code_0 : Rho → R Fl :=
  (fSeq (fSetO (fLst fNil) 7)
  (fSeq (fFor (fRng1 (fCons (f2 addD (fC (.int 1)) (f2 fdivD (fCallP 1 0 m__law_take (fCons (fC (.int 6)) fNil)) (fC (.int 3)))) fNil)) (put 8) fb__law_code_1)
  (fApp 5 (fTup (fCons (fVar 6) (fCons (fCB tupleA (fCons (fOwn 7) fNil)) fNil))))))
def w__law_code : Rho → R Fl :=
  (fSeq (fAsg (f2 ixD (fL (fLst (fCons (fC (.str "a")) (fCons (fC (.str "ab")) (fCons (fC (.str "ab")) (fCons (fC (.str "abc")) (fCons (fC (.str "mz")) (fCons (fC (.str "bxy")) fNil)))))))) (fCallP 1 0 m__law_take (fCons (fC (.int 6)) fNil))) (put 2))
  (fSeq (fAsg (fL (fCallPL 1 0 m__law_names (fCons (f2 addD (fC (.int 1)) (fCallP 1 0 m__law_take (fCons (fVar 1) fNil))) fNil))) (put 3))
  (fSeq (fAsg (fCallP 1 0 m__law_take (fCons (fC (.int 3)) fNil)) (put 4))
  (fSeq (fSetO (fLst fNil) 5)
  (fSeq (fFor (fItL (fVar 3)) (put 6) fb__law_code_0)
  (fSeq (fIfS (fAnd (fTest (f2 gtD (fVar 4) (fC (.int 0)))) (fTest (f2 gtD (fCB lenD (fCons (fOwn 5) fNil)) (fC (.int 1))))) (fSeq (fAsg (fTup (fCons (fTup (fCons (fTup (fCons (fC (.str "drop")) (fCons (fVar 2) fNil))) (fCons (fC (.int 1)) fNil))) (fCons (fTup (fCons (fTup (fCons (fC (.str "add")) (fCons (fVar 2) fNil))) (fCons (fC (.int 1)) fNil))) (fCons (fTup (fCons (fTup (fCons (fC (.str "change")) (fCons (fVar 2) (fCons (fVar 2) fNil)))) (fCons (fC (.int 1)) fNil))) fNil)))) (put 9))
  (fSetI 5 (fTup (fCons (f2 ixD (f2 ixD (fOwn 5) (f1 negD (fC (.int 1)))) (fC (.int 0))) (fCons (fSl slD (fVar 9) fNoPart (fPart (f2 addD (fVar 4) (fC (.int 1))))) fNil))) (f1 negD (fC (.int 1))))) fNx)
  (fRet (fTup (fCons (fVar 2) (fCons (fCB tupleA (fCons (fOwn 5) fNil)) fNil))))))))))
def m__law_code : Rho → R RV := gOf 10 w__law_code
/-! ### _law_mixed -/
abbrev st__law_mixed : Stmt := topS 65
abbrev N__law_mixed : List Str := ["_law_cell"]
theorem sc__law_mixed : FnScope N__law_mixed ["_law_cell"] (defScope st__law_mixed) := ⟨rfl, rfl, rfl, by decide +kernel, rfl, by decide +kernel, by decide +kernel⟩
def w__law_mixed : Rho → R Fl :=
  (fRet (f2 modD (f2 mulC (fVar 0) (fC (.int 405465108108164381978013115464349136571990423462494197614017))) (f2 powD (fC (.int 10)) (fC (.int 60)))))
def m__law_mixed : Rho → R RV := gOf 1 w__law_mixed
/-! ### _law_pack -/
abbrev st__law_pack : Stmt := topS 66
abbrev N__law_pack : List Str := ["_law_script", "_law_k"]
theorem sc__law_pack : FnScope N__law_pack ["_law_script", "_law_k"] (defScope st__law_pack) := ⟨rfl, rfl, rfl, by decide +kernel, rfl, by decide +kernel, by decide +kernel⟩
def w__law_pack : Rho → R Fl :=
  (fSeq (fIfS (fTest (f2 ltD (fVar 1) (fCB lenD (fCons (fVar 0) fNil)))) (fRetL (fLst (fCons (fCall 1 m__law_mixed (fCons (f2 addD (f2 ixD (fVar 0) (fVar 1)) (f2 mulC (fC (.int 41)) (fVar 1))) fNil)) fNil))) fNx)
  (fRetL (fLst (fCons (fCall 1 m__law_mixed (fCons (f2 addD (f2 mulC (fC (.int 6131)) (fVar 1)) (fC (.int 17))) fNil)) fNil))))
def m__law_pack : Rho → R RV := gOf 2 w__law_pack
/-! ### _law_leaf -/
abbrev st__law_leaf : Stmt := topS 75
abbrev N__law_leaf : List Str := ["_law_pack_here", "_law_thing", "_law_pick"]
theorem sc__law_leaf : FnScope N__law_leaf ["_law_pack_here", "_law_thing"] (defScope st__law_leaf) := ⟨rfl, rfl, rfl, by decide +kernel, rfl, by decide +kernel, by decide +kernel⟩
def w__law_leaf : Rho → R Fl :=
  (fSeq (fAsg (fCallP 1 0 m__law_take (fCons (fC (.int 8)) fNil)) (put 2))
  (fSeq (fIfS (fTest (f1 (isiD "str") (fVar 1))) (fRet (f2 ixD (fL (fLst (fCons (f2 addD (fVar 1) (fC (.str "a"))) (fCons (fC (.str "")) (fCons (fC (.str "#")) (fCons (fC .none) (fCons (fC (.str "q")) (fCons (fC (.int 0)) (fCons (fL (fLst (fCons (fVar 1) fNil))) (fCons (f2 addD (fM0 upperD (fVar 1)) (fC (.str "Z"))) fNil)))))))))) (fVar 2))) fNx)
  (fRet (f2 ixD (fL (fLst (fCons (fC .none) (fCons (fL (fLst fNil)) (fCons (fC (.str "")) (fCons (fC (.int 0)) (fCons (fC (.bool true)) (fCons (fC (.dict [])) (fCons (fTup (fCons (fC (.str "")) fNil)) (fCons (fL (fCBL listA (fCons (fVar 1) fNil))) fNil)))))))))) (fVar 2)))))
def m__law_leaf : Rho → R RV := gOf 3 w__law_leaf
/-! ### _law_bent -/
abbrev st__law_bent : Stmt := topS 76
abbrev N__law_bent : List Str := ["_law_pack_here", "_law_thing", "_law_under", "_law_at", "_law_pick"]
theorem sc__law_bent : FnScope N__law_bent ["_law_pack_here", "_law_thing", "_law_under"] (defScope st__law_bent) := ⟨rfl, rfl, rfl, by decide +kernel, rfl, by decide +kernel, by decide +kernel⟩
def w__law_bent (mf : Rho → R RV) : Rho → R Fl :=
  (fSeq (fIfS (fOr (fTest (f2 eqD (fVar 2) (fC (.int 0)))) (fOr (fTest (f1 (isiD "str") (fVar 1))) (fOr (fTest (f2 eqD (fVar 1) (fTup fNil))) (fTest (f2 eqD (fCallP 1 0 m__law_take (fCons (fC (.int 5)) fNil)) (fC (.int 0))))))) (fRet (fCallP 1 0 m__law_leaf (fCons (fVar 1) fNil))) fNx)
  (fSeq (fAsg (fCallP 1 0 m__law_take (fCons (fCB lenD (fCons (fVar 1) fNil)) fNil)) (put 3))
  (fSeq (fAsg (fCallP 1 0 m__law_take (fCons (fC (.int 5)) fNil)) (put 4))
  (fSeq (fIfS (fTest (f2 eqD (fVar 4) (fC (.int 0)))) (fRet (f2 addD (fSl slD (fVar 1) fNoPart (fPart (fVar 3))) (fSl slD (fVar 1) (fPart (f2 addD (fVar 3) (fC (.int 1)))) fNoPart))) fNx)
  (fSeq (fIfS (fTest (f2 eqD (fVar 4) (fC (.int 1)))) (fRet (f2 addD (f2 addD (fSl slD (fVar 1) fNoPart (fPart (fVar 3))) (fSl slD (fVar 1) (fPart (fVar 3)) (fPart (f2 addD (fVar 3) (fC (.int 1)))))) (fSl slD (fVar 1) (fPart (fVar 3)) fNoPart))) fNx)
  (fRet (f2 addD (f2 addD (fSl slD (fVar 1) fNoPart (fPart (fVar 3))) (fTup (fCons (fCallP 2 0 mf (fCons (f2 ixD (fVar 1) (fVar 3)) (fCons (f2 subD (fVar 2) (fC (.int 1))) fNil))) fNil))) (fSl slD (fVar 1) (fPart (f2 addD (fVar 3) (fC (.int 1)))) fNoPart))))))))
def m__law_bent : Nat → Rho → R RV
  | 0 => fun _ => .bad
  | k + 1 => gOf 5 (w__law_bent (m__law_bent k))
/-! ### _law_telling -/
abbrev st__law_telling : Stmt := topS 73
abbrev N__law_telling : List Str := ["_law_pack_here", "_law_signs", "_law_word_here", "_law_found", "_law_sign", "_law_turn"]
theorem sc__law_telling : FnScope N__law_telling ["_law_pack_here", "_law_signs", "_law_word_here"] (defScope st__law_telling) := ⟨rfl, rfl, rfl, by decide +kernel, rfl, by decide +kernel, by decide +kernel⟩
def fb__law_telling_1 : Rho → R Fl :=
  (fApp 3 (fTup (fCons (fC (.str "")) (fCons (f2 ixD (fVar 1) (fCallP 1 0 m__law_take (fCons (fCB lenD (fCons (fVar 1) fNil)) fNil))) fNil))))
def fb__law_telling_0 : Rho → R Fl :=
  (fSeq (fFor (fRng1 (fCons (f2 fdivD (fCallP 1 0 m__law_take (fCons (fC (.int 4)) fNil)) (fC (.int 2))) fNil)) (put 5) fb__law_telling_1)
  (fIfS (fTest (f2 neD (fVar 4) (fC (.str "")))) (fApp 3 (fTup (fCons (fVar 4) (fCons (f2 ixD (f2 addD (f2 addD (fL (fLst (fCons (fVar 4) fNil))) (fL (fCBL listA (fCons (fVar 1) fNil)))) (fL (fLst (fCons (fC (.str "")) fNil)))) (fCallP 1 0 m__law_take (fCons (f2 addD (fCB lenD (fCons (fVar 1) fNil)) (fC (.int 2))) fNil))) fNil)))) fNx))
def w__law_telling : Rho → R Fl :=
  (fSeq (fSetO (fLst fNil) 3)
  (fSeq (fFor (fItL (f2 addD (fL (fCBL listA (fCons (fVar 2) fNil))) (fL (fLst (fCons (fC (.str "")) fNil))))) (put 4) fb__law_telling_0)
  (fRet (fCB tupleA (fCons (fOwn 3) fNil)))))
def m__law_telling : Rho → R RV := gOf 6 w__law_telling
/-! ### is_part -/
abbrev st_is_part : Stmt := topS 22
abbrev N_is_part : List Str := ["code", "thing"]
theorem sc_is_part : FnScope N_is_part ["code", "thing"] (defScope st_is_part) := ⟨rfl, rfl, rfl, by decide +kernel, rfl, by decide +kernel, by decide +kernel⟩
def w_is_part : Rho → R Fl :=
  (fRet (fAndV (f1 (isiD "str") (fVar 1)) (fAndV (f2 leD (fCB lenD (fCons (fVar 1) fNil)) (fC (.int 1))) (f2 inD (fVar 1) (f2 ixD (fVar 0) (fC (.int 0)))))))
def m_is_part : Rho → R RV := gOf 2 w_is_part
/-! ### is_step -/
abbrev st_is_step : Stmt := topS 23
abbrev N_is_step : List Str := ["code", "thing", "part"]
theorem sc_is_step : FnScope N_is_step ["code", "thing"] (defScope st_is_step) := ⟨rfl, rfl, rfl, by decide +kernel, rfl, by decide +kernel, by decide +kernel⟩
def ce_is_step_0 : Rho → R AV :=
  (fCall 2 m_is_part (fCons (fVar 0) (fCons (fVar 2) fNil)))
def w_is_step : Rho → R Fl :=
  (fSeq (fIfS (fOr (fNot (fTest (f1 (isiD "tuple") (fVar 1)))) (fOr (fTest (f2 neD (fCB lenD (fCons (fVar 1) fNil)) (fC (.int 2)))) (fNot (fTest (fCB allD (fCons (fL (fLc (fItT (fVar 1)) (put 2) (fun ρ => .ok true ρ) ce_is_step_0 [2])) fNil)))))) (fRet (fC (.bool false))) fNx)
  (fRet (f2 neD (fVar 1) (fTup (fCons (fC (.str "")) (fCons (fC (.str "")) fNil))))))
def m_is_step : Rho → R RV := gOf 3 w_is_step
/-! ### is_steps -/
abbrev st_is_steps : Stmt := topS 24
abbrev N_is_steps : List Str := ["code", "thing", "step"]
theorem sc_is_steps : FnScope N_is_steps ["code", "thing"] (defScope st_is_steps) := ⟨rfl, rfl, rfl, by decide +kernel, rfl, by decide +kernel, by decide +kernel⟩
def ce_is_steps_0 : Rho → R AV :=
  (fCall 2 m_is_step (fCons (fVar 0) (fCons (fVar 2) fNil)))
def w_is_steps : Rho → R Fl :=
  (fRet (fAndV (f1 (isiD "tuple") (fVar 1)) (fCB allD (fCons (fL (fLc (fItT (fVar 1)) (put 2) (fun ρ => .ok true ρ) ce_is_steps_0 [2])) fNil))))
def m_is_steps : Rho → R RV := gOf 3 w_is_steps
/-! ### is_text_of -/
abbrev st_is_text_of : Stmt := topS 15
abbrev N_is_text_of : List Str := ["thing", "signs", "sign"]
theorem sc_is_text_of : FnScope N_is_text_of ["thing", "signs"] (defScope st_is_text_of) := ⟨rfl, rfl, rfl, by decide +kernel, rfl, by decide +kernel, by decide +kernel⟩
def ce_is_text_of_0 : Rho → R AV :=
  (f2 inD (fVar 2) (fVar 1))
def w_is_text_of : Rho → R Fl :=
  (fRet (fAndV (f1 (isiD "str") (fVar 0)) (fCB allD (fCons (fL (fLc (fItS (fVar 0)) (put 2) (fun ρ => .ok true ρ) ce_is_text_of_0 [2])) fNil))))
def m_is_text_of : Rho → R RV := gOf 3 w_is_text_of
/-! ### is_word -/
abbrev st_is_word : Stmt := topS 18
abbrev N_is_word : List Str := ["code", "thing"]
theorem sc_is_word : FnScope N_is_word ["code", "thing"] (defScope st_is_word) := ⟨rfl, rfl, rfl, by decide +kernel, rfl, by decide +kernel, by decide +kernel⟩
def w_is_word : Rho → R Fl :=
  (fRet (fAndV (fCall 2 m_is_text_of (fCons (fVar 1) (fCons (f2 ixD (fVar 0) (fC (.int 0))) fNil))) (f2 leD (fCB lenD (fCons (fVar 1) fNil)) (fC (.int 8)))))
def m_is_word : Rho → R RV := gOf 2 w_is_word
/-! ### word_of -/
abbrev st_word_of : Stmt := topS 27
abbrev N_word_of : List Str := ["telling", "step"]
theorem sc_word_of : FnScope N_word_of ["telling"] (defScope st_word_of) := ⟨rfl, rfl, rfl, by decide +kernel, rfl, by decide +kernel, by decide +kernel⟩
def ce_word_of_0 : Rho → R AV :=
  (f2 ixD (fVar 1) (fC (.int 0)))
def w_word_of : Rho → R Fl :=
  (fRet (fM1 joinD (fC (.str "")) (fL (fLc (fItT (fVar 0)) (put 1) (fun ρ => .ok true ρ) ce_word_of_0 [1]))))
def m_word_of : Rho → R RV := gOf 2 w_word_of
/-! ### is_telling -/
abbrev st_is_telling : Stmt := topS 25
abbrev N_is_telling : List Str := ["code", "thing"]
theorem sc_is_telling : FnScope N_is_telling ["code", "thing"] (defScope st_is_telling) := ⟨rfl, rfl, rfl, by decide +kernel, rfl, by decide +kernel, by decide +kernel⟩
def w_is_telling : Rho → R Fl :=
  (fRet (fAndV (fCall 2 m_is_steps (fCons (fVar 0) (fCons (fVar 1) fNil))) (fCall 2 m_is_word (fCons (fVar 0) (fCons (fCall 1 m_word_of (fCons (fVar 1) fNil)) fNil)))))
def m_is_telling : Rho → R RV := gOf 2 w_is_telling
/-! ### are_tellings -/
abbrev st_are_tellings : Stmt := topS 48
abbrev N_are_tellings : List Str := ["code", "thing", "one"]
theorem sc_are_tellings : FnScope N_are_tellings ["code", "thing"] (defScope st_are_tellings) := ⟨rfl, rfl, rfl, by decide +kernel, rfl, by decide +kernel, by decide +kernel⟩
def ce_are_tellings_0 : Rho → R AV :=
  (fAndV (fCall 2 m_is_telling (fCons (fVar 0) (fCons (fVar 2) fNil))) (f2 leD (fCB lenD (fCons (fCall 1 m_word_of (fCons (fVar 2) fNil)) fNil)) (fC (.int 6))))
def w_are_tellings : Rho → R Fl :=
  (fSeq (fIfS (fOr (fNot (fTest (f1 (isiD "tuple") (fVar 1)))) (fNot (fTest (fChain leD leD (fC (.int 1)) (fCB lenD (fCons (fVar 1) fNil)) (fC (.int 6)))))) (fRet (fC (.bool false))) fNx)
  (fRet (fCB allD (fCons (fL (fLc (fItT (fVar 1)) (put 2) (fun ρ => .ok true ρ) ce_are_tellings_0 [2])) fNil))))
def m_are_tellings : Rho → R RV := gOf 3 w_are_tellings
/-! ### is_book -/
abbrev st_is_book : Stmt := topS 56
abbrev N_is_book : List Str := ["code", "thing"]
theorem sc_is_book : FnScope N_is_book ["code", "thing"] (defScope st_is_book) := ⟨rfl, rfl, rfl, by decide +kernel, rfl, by decide +kernel, by decide +kernel⟩
def w_is_book : Rho → R Fl :=
  (fRet (fCall 2 m_are_tellings (fCons (fVar 0) (fCons (fVar 1) fNil))))
def m_is_book : Rho → R RV := gOf 2 w_is_book
/-! ### _law_is_book -/
abbrev st__law_is_book : Stmt := topS 74
abbrev N__law_is_book : List Str := ["_law_code_here", "_law_thing", "_law_telling_here", "_law_word_here", "_law_step", "_law_part"]
theorem sc__law_is_book : FnScope N__law_is_book ["_law_code_here", "_law_thing"] (defScope st__law_is_book) := ⟨rfl, rfl, rfl, by decide +kernel, rfl, by decide +kernel, by decide +kernel⟩
def fb__law_is_book_2 : Rho → R Fl :=
  (fIfS (fOr (fNot (fTest (f1 (isiD "str") (fVar 5)))) (fTest (f2 notInD (fVar 5) (f2 addD (fL (fLst (fCons (fC (.str "")) fNil))) (fL (fCBL listA (fCons (f2 ixD (fVar 0) (fC (.int 0))) fNil))))))) (fRet (fC (.bool false))) fNx)
def fb__law_is_book_1 : Rho → R Fl :=
  (fSeq (fIfS (fOr (fNot (fTest (f1 (isiD "tuple") (fVar 4)))) (fOr (fTest (f2 neD (fCB lenD (fCons (fVar 4) fNil)) (fC (.int 2)))) (fTest (f2 eqD (fVar 4) (fTup (fCons (fC (.str "")) (fCons (fC (.str "")) fNil))))))) (fRet (fC (.bool false))) fNx)
  (fSeq (fFor (fItT (fVar 4)) (put 5) fb__law_is_book_2)
  (fAsg (f2 addD (fVar 3) (f2 ixD (fVar 4) (fC (.int 0)))) (put 3))))
def fb__law_is_book_0 : Rho → R Fl :=
  (fSeq (fIfS (fNot (fTest (f1 (isiD "tuple") (fVar 2)))) (fRet (fC (.bool false))) fNx)
  (fSeq (fAsg (fC (.str "")) (put 3))
  (fSeq (fFor (fItT (fVar 2)) (put 4) fb__law_is_book_1)
  (fIfS (fTest (f2 gtD (fCB lenD (fCons (fVar 3) fNil)) (fC (.int 6)))) (fRet (fC (.bool false))) fNx))))
def w__law_is_book : Rho → R Fl :=
  (fSeq (fIfS (fOr (fNot (fTest (f1 (isiD "tuple") (fVar 1)))) (fNot (fTest (fChain leD leD (fC (.int 1)) (fCB lenD (fCons (fVar 1) fNil)) (fC (.int 6)))))) (fRet (fC (.bool false))) fNx)
  (fSeq (fFor (fItT (fVar 1)) (put 2) fb__law_is_book_0)
  (fRet (fC (.bool true)))))
def m__law_is_book : Rho → R RV := gOf 6 w__law_is_book
/-! ### check_book -/
abbrev st_check_book : Stmt := topS 49
abbrev N_check_book : List Str := ["code", "thing"]
theorem sc_check_book : FnScope N_check_book ["code", "thing"] (defScope st_check_book) := ⟨rfl, rfl, rfl, by decide +kernel, rfl, by decide +kernel, by decide +kernel⟩
def w_check_book : Rho → R Fl :=
  (fIfS (fNot (fTest (fCall 2 m_are_tellings (fCons (fVar 0) (fCons (fVar 1) fNil))))) (fRaise ⟨"NoBook", none⟩) fNx)
def m_check_book : Rho → R RV := gOf 2 w_check_book
/-! ### needs -/
abbrev st_needs : Stmt := topS 52
abbrev N_needs : List Str := ["code", "book", "found", "telling", "need", "rival"]
theorem sc_needs : FnScope N_needs ["code", "book"] (defScope st_needs) := ⟨rfl, rfl, rfl, by decide +kernel, rfl, by decide +kernel, by decide +kernel⟩
def w_needs : Rho → R Fl :=
  (fSeq (fDrop (fCall 2 m_check_book (fCons (fVar 0) (fCons (fVar 1) fNil))))
  (fun _ => .bad))
def m_needs : Rho → R RV := gOf 6 w_needs
/-! ### layered -/
abbrev st_layered : Stmt := topS 61
abbrev N_layered : List Str := ["code", "book", "names", "known", "layers", "rest", "numbers", "some", "rivals"]
theorem sc_layered : FnScope N_layered ["code", "book"] (defScope st_layered) := ⟨rfl, rfl, rfl, by decide +kernel, rfl, by decide +kernel, by decide +kernel⟩
def w_layered : Rho → R Fl :=
  (fSeq (fDrop (fCall 2 m_check_book (fCons (fVar 0) (fCons (fVar 1) fNil))))
  (fun _ => .bad))
def m_layered : Rho → R RV := gOf 9 w_layered
/-! ### telling_orders -/
abbrev st_telling_orders : Stmt := topS 63
abbrev N_telling_orders : List Str := ["code", "book", "wanted"]
theorem sc_telling_orders : FnScope N_telling_orders ["code", "book"] (defScope st_telling_orders) := ⟨rfl, rfl, rfl, by decide +kernel, rfl, by decide +kernel, by decide +kernel⟩
def w_telling_orders : Rho → R Fl :=
  (fSeq (fAsg (fCall 2 m_needs (fCons (fVar 0) (fCons (fVar 1) fNil))) (put 2))
  (fun _ => .bad))
def m_telling_orders : Rho → R RV := gOf 3 w_telling_orders
/-! ### _law_seen -/
abbrev st__law_seen : Stmt := topS 77
abbrev N__law_seen : List Str := ["_law_ask", "_law_code_here", "_law_thing", "_law_seen_so", "e", "_law_others"]
theorem sc__law_seen : FnScope N__law_seen ["_law_ask", "_law_code_here", "_law_thing"] (defScope st__law_seen) := ⟨rfl, rfl, rfl, by decide +kernel, rfl, by decide +kernel, by decide +kernel⟩
def ft__law_seen : Rho → R Fl :=
  (fIfS (fTest (f2 eqD (fVar 0) (fC (.int 0)))) (fDrop (fCall 2 m_needs (fCons (fVar 1) (fCons (fVar 2) fNil)))) (fIfS (fTest (f2 eqD (fVar 0) (fC (.int 1)))) (fDrop (fCall 2 m_layered (fCons (fVar 1) (fCons (fVar 2) fNil)))) (fDrop (fCall 2 m_telling_orders (fCons (fVar 1) (fCons (fVar 2) fNil))))))
def fh__law_seen : Rho → R Fl :=
  (fSeq (fAsg (fIsX (fun n => sbAny sb n ["NoCall", "NoForm", "NoKept", "NoNumber", "NoOrder", "NoTelling", "NoText", "NoWeights", "NoWord"]) 4) (put 5))
  (fSeq (fAsg (fC (.str "wrong")) (put 3))
  (fSeq (fIfS (fAnd (fTest (fIsX (sb "NoBook") 4)) (fAnd (fTest (fIsX (sb "ValueError") 4)) (fAnd (fNot (fTest (fVar 5))) (fNot (fTest (fIsX (sb "TooMany") 4)))))) (fAsg (fC (.str "refused")) (put 3)) fNx)
  (fIfS (fAnd (fTest (fIsX (sb "TooMany") 4)) (fNot (fTest (fIsX (sb "NoBook") 4)))) (fAsg (fC (.str "many")) (put 3)) fNx))))
def w__law_seen : Rho → R Fl :=
  (fSeq (fAsg (fC (.str "told")) (put 3))
  (fSeq (fTryH (sb "LadderError") ft__law_seen 4 fh__law_seen)
  (fRet (fVar 3))))
def m__law_seen : Rho → R RV := gOf 6 w__law_seen
/-! ### _law_right -/
abbrev st__law_right : Stmt := topS 78
abbrev N__law_right : List Str := ["_law_code_here", "_law_thing", "_law_pack_here", "_law_found"]
theorem sc__law_right : FnScope N__law_right ["_law_code_here", "_law_thing", "_law_pack_here"] (defScope st__law_right) := ⟨rfl, rfl, rfl, by decide +kernel, rfl, by decide +kernel, by decide +kernel⟩
def w__law_right : Rho → R Fl :=
  (fSeq (fAsg (fCall 2 m_is_book (fCons (fVar 0) (fCons (fVar 1) fNil))) (put 3))
  (fSeq (fIfS (fOr (fNot (fTest (f1 (isiD "bool") (fVar 3)))) (fTest (f2 neD (fVar 3) (fCall 2 m__law_is_book (fCons (fVar 0) (fCons (fVar 1) fNil)))))) (fRet (fC (.bool false))) fNx)
  (fRet (fOrV (fVar 3) (f2 eqD (fCall 3 m__law_seen (fCons (fCallP 1 2 m__law_take (fCons (fC (.int 3)) fNil)) (fCons (fVar 0) (fCons (fVar 1) fNil)))) (fC (.str "refused")))))))
def m__law_right : Rho → R RV := gOf 4 w__law_right
/-! ### _law_word -/
abbrev st__law_word : Stmt := topS 72
abbrev N__law_word : List Str := ["_law_pack_here", "_law_signs", "_law_most", "_law_k"]
theorem sc__law_word : FnScope N__law_word ["_law_pack_here", "_law_signs", "_law_most"] (defScope st__law_word) := ⟨rfl, rfl, rfl, by decide +kernel, rfl, by decide +kernel, by decide +kernel⟩
def ce__law_word_0 : Rho → R AV :=
  (f2 ixD (fVar 1) (fCallP 1 0 m__law_take (fCons (fCB lenD (fCons (fVar 1) fNil)) fNil)))
def w__law_word : Rho → R Fl :=
  (fRet (fM1 joinD (fC (.str "")) (fL (fLc (fRng1 (fCons (fCallP 1 0 m__law_take (fCons (f2 addD (fVar 2) (fC (.int 1))) fNil)) fNil)) (put 3) (fun ρ => .ok true ρ) ce__law_word_0 [3]))))
def m__law_word : Rho → R RV := gOf 4 w__law_word
/-! ### law -/
abbrev st_law : Stmt := topS 79
abbrev N_law : List Str := ["_law_script", "_law_code_here", "_law_k", "_law_pack_here", "_law_book", "_law_turn", "_law_more", "_law_things", "_law_signs", "_law_thing", "_law_sign"]
theorem sc_law : FnScope N_law ["_law_script"] (defScope st_law) := ⟨rfl, rfl, rfl, by decide +kernel, rfl, by decide +kernel, by decide +kernel⟩
def ce_law_4 : Rho → R AV :=
  (fCallQ 3 2 3 m__law_right (fCons (fVar 1) (fCons (fVar 9) (fCons (fOwn 3) fNil))))
def ce_law_3 : Rho → R AV :=
  (fCallP 2 3 (m__law_bent 5) (fCons (fVar 4) (fCons (fC (.int 4)) fNil)))
def ce_law_2 : Rho → R AV :=
  (fTup (fCons (fVar 10) (fCons (fVar 10) fNil)))
def fb_law_1 : Rho → R Fl :=
  (fSeq (fSetO (fCallL 2 m__law_pack (fCons (fVar 0) (fCons (f2 addD (f2 addD (fC (.int 4)) (f2 mulC (fC (.int 6)) (fVar 2))) (fVar 5)) fNil))) 6)
  (fAsg (f2 addD (fVar 4) (fTup (fCons (fCallP 2 6 m__law_telling (fCons (f2 ixD (fVar 1) (fC (.int 0))) (fCons (fCallP 2 6 m__law_word (fCons (f2 ixD (fVar 1) (fC (.int 0))) (fCons (fC (.int 6)) fNil))) fNil))) fNil))) (put 4)))
def fb_law_0 : Rho → R Fl :=
  (fSeq (fSetO (fCallL 2 m__law_pack (fCons (fVar 0) (fCons (fVar 2) fNil))) 3)
  (fSeq (fAsg (fTup fNil) (put 4))
  (fSeq (fFor (fRng1 (fCons (f2 addD (fC (.int 1)) (fCallP 1 3 m__law_take (fCons (fC (.int 6)) fNil))) fNil)) (put 5) fb_law_1)
  (fSeq (fSetO (fLst (fCons (fVar 4) (fCons (fL (fCBL listA (fCons (fVar 4) fNil))) (fCons (f2 mulT (fVar 4) (fC (.int 7))) (fCons (f2 ixD (fVar 4) (fC (.int 0))) (fCons (fTup fNil) (fCons (fC .none) (fCons (fC (.str "")) (fCons (fC (.dict [])) (fCons (fTup (fCons (fVar 4) fNil)) (fCons (f2 addD (fSl slD (fVar 4) fNoPart (fPart (fC (.int 1)))) (fTup (fCons (fTup (fCons (fTup (fCons (fC (.str "q")) (fCons (fC (.str "")) fNil))) fNil)) fNil))) fNil))))))))))) 7)
  (fSeq (fApp 7 (fTup (fCons (f2 mulT (fTup (fCons (fTup (fCons (fC (.str "")) (fCons (f2 ixD (f2 ixD (fVar 1) (fC (.int 0))) (fC (.int 0))) fNil))) fNil)) (fC (.int 20))) fNil)))
  (fSeq (fAsg (fSl slD (f2 ixD (fVar 1) (fC (.int 0))) fNoPart (fPart (fC (.int 2)))) (put 8))
  (fSeq (fExt 7 (fLst (fCons (fTup (fCons (fTup (fCons (fTup (fCons (fC (.str "")) (fCons (fVar 8) fNil))) fNil)) fNil)) (fCons (fTup (fCons (fTup (fCons (fTup (fCons (fVar 8) (fCons (f2 ixD (f2 ixD (fVar 1) (fC (.int 0))) (fC (.int 0))) fNil))) fNil)) fNil)) (fCons (fTup (fCons (fTup (fCons (fTup (fCons (f2 ixD (f2 ixD (fVar 1) (fC (.int 0))) (fC (.int 0))) (fCons (fVar 8) fNil))) fNil)) fNil)) (fCons (fTup (fCons (fTup (fCons (fTup (fCons (fVar 8) (fCons (fVar 8) fNil))) fNil)) fNil)) fNil))))))
  (fSeq (fApp 7 (fTup (fCons (fCB tupleA (fCons (fL (fLc (fItS (f2 mulC (f2 ixD (f2 ixD (fVar 1) (fC (.int 0))) (fC (.int 0))) (fC (.int 7)))) (put 10) (fun ρ => .ok true ρ) ce_law_2 [10])) fNil)) fNil)))
  (fSeq (fExt 7 (fLc (fRng1 (fCons (fC (.int 5)) fNil)) (put 5) (fun ρ => .ok true ρ) ce_law_3 [5]))
  (fFrz 7 (fIfS (fNot (fTest (fCB allD (fCons (fL (fLc (fItL (fVar 7)) (put 9) (fun ρ => .ok true ρ) ce_law_4 [9])) fNil)))) (fRet (fC (.bool false))) fNx)))))))))))
def w_law : Rho → R Fl :=
  (fSeq (fAsg (fCallT 1 m__law_code (fCallL 2 m__law_pack (fCons (fVar 0) (fCons (fC (.int 0)) fNil))) (fCons (fC (.int 4)) fNil)) (put 1))
  (fSeq (fFor (fRng2 (fCons (fC (.int 1)) (fCons (fCB maxD (fCons (fC (.int 2)) (fCons (fCB minD (fCons (fCB lenD (fCons (fVar 0) fNil)) (fCons (fC (.int 4)) fNil))) fNil))) fNil))) (put 2) fb_law_0)
  (fRet (fC (.bool true)))))
def m_law : Rho → R RV := gOf 11 w_law
end Lw
namespace Lw
open PySem PySem.Spec L2 Evl Dt PyProof.Rows
structure TX [WD] (K : PySem.W.Frag) (mg : Str → Option Value) where
  f__law_take : FnI K mg "_law_take" st__law_take
  f__law_names : FnI K mg "_law_names" st__law_names
  f__law_set : FnI K mg "_law_set" st__law_set
  f__law_pattern : FnI K mg "_law_pattern" st__law_pattern
  f__law_code : FnI K mg "_law_code" st__law_code
  f__law_mixed : FnI K mg "_law_mixed" st__law_mixed
  f__law_pack : FnI K mg "_law_pack" st__law_pack
  f__law_leaf : FnI K mg "_law_leaf" st__law_leaf
  f__law_bent : FnI K mg "_law_bent" st__law_bent
  f__law_telling : FnI K mg "_law_telling" st__law_telling
  f_is_part : FnI K mg "is_part" st_is_part
  f_is_step : FnI K mg "is_step" st_is_step
  f_is_steps : FnI K mg "is_steps" st_is_steps
  f_is_text_of : FnI K mg "is_text_of" st_is_text_of
  f_is_word : FnI K mg "is_word" st_is_word
  f_word_of : FnI K mg "word_of" st_word_of
  f_is_telling : FnI K mg "is_telling" st_is_telling
  f_are_tellings : FnI K mg "are_tellings" st_are_tellings
  f_is_book : FnI K mg "is_book" st_is_book
  f__law_is_book : FnI K mg "_law_is_book" st__law_is_book
  f_check_book : FnI K mg "check_book" st_check_book
  f_needs : FnI K mg "needs" st_needs
  f_layered : FnI K mg "layered" st_layered
  f_telling_orders : FnI K mg "telling_orders" st_telling_orders
  f__law_seen : FnI K mg "_law_seen" st__law_seen
  f__law_right : FnI K mg "_law_right" st__law_right
  f__law_word : FnI K mg "_law_word" st__law_word
  f_law : FnI K mg "law" st_law
  m_ValueError : mg "ValueError" = none
  m_all : mg "all" = none
  m_bool : mg "bool" = none
  m_divmod : mg "divmod" = none
  m_isinstance : mg "isinstance" = none
  m_len : mg "len" = none
  m_list : mg "list" = none
  m_max : mg "max" = none
  m_min : mg "min" = none
  m_range : mg "range" = none
  m_str : mg "str" = none
  m_tuple : mg "tuple" = none
  y_LadderError : mg "LadderError" = some (.ref (cA K "LadderError"))
  y_NoBook : mg "NoBook" = some (.ref (cA K "NoBook"))
  y_NoCall : mg "NoCall" = some (.ref (cA K "NoCall"))
  y_NoForm : mg "NoForm" = some (.ref (cA K "NoForm"))
  y_NoKept : mg "NoKept" = some (.ref (cA K "NoKept"))
  y_NoNumber : mg "NoNumber" = some (.ref (cA K "NoNumber"))
  y_NoOrder : mg "NoOrder" = some (.ref (cA K "NoOrder"))
  y_NoTelling : mg "NoTelling" = some (.ref (cA K "NoTelling"))
  y_NoText : mg "NoText" = some (.ref (cA K "NoText"))
  y_NoWeights : mg "NoWeights" = some (.ref (cA K "NoWeights"))
  y_NoWord : mg "NoWord" = some (.ref (cA K "NoWord"))
  y_TooMany : mg "TooMany" = some (.ref (cA K "TooMany"))
  c_MOST_SIGNS : ∃ t, mg "MOST_SIGNS" = some (.int 6 t)
  c_MOST_TELLINGS : ∃ t, mg "MOST_TELLINGS" = some (.int 6 t)
  c_MOST_WORD : ∃ t, mg "MOST_WORD" = some (.int 8 t)
  x_NoBook : ExF K mg "NoBook"
  x_is : ∀ c, (decide (c ∈ testedC)) = true → ∀ n b, sb c n = some b → XcC K (cA K n) ∧ PySem.W.kitOne K (.ref (cA K n)) (.ref (cA K c)) = some b
  x_ex : ∀ c, (decide (c ∈ caughtC)) = true → ∀ n b, sb c n = some b → PySem.W.exmOne K (.ref (cA K n)) (.ref (cA K c)) = some b
  x_isValueError : ∀ n b, sb "ValueError" n = some b → XcC K (cA K n) ∧ PySem.W.kitOne K (.ref (cA K n)) (.type "ValueError") = some b
section
variable [WD] {K : PySem.W.Frag} {C : Str → Addr} {mg : Str → Option Value} {base : Heap}
theorem b__law_take (T : TX K mg) : Binds K T.f__law_take.fd ["_law_pack_here", "_law_size"] [] := T.f__law_take.F.bindsN fun _ _ _ _ _ _ us hl => match us, hl with | [_, _], _ => rfl
set_option maxHeartbeats 4000000 in
theorem ok__law_take (T : TX K mg) : FnOk WD.P WD.w K mg base (L2.CX WD.P WD.w) 1 T.f__law_take.f T.f__law_take.fd ["_law_pack_here", "_law_size"] (spF ⟨K, C⟩ 2 m__law_take) := by
  refine fn_ok T.f__law_take.F sc__law_take (fun cdv A outer s H E hr tk po => ⟨_, (pss_cons (ps_asg (pe_callB call_divmod (by rfl) T.m_divmod boot_divmod (pa_cons (pe_ix (kIx K) (pv 0) pe_int (fun _ _ => rfl)) (pa_cons (pv 1) pa_nil))) (kgTup K rfl (pgs_cons (pg_sub (pv 0) pe_int set_list) (pgs_cons (pg_name (i := 2) sc__law_take.nd rfl (Or.inl rfl)) pgs_nil))))
      (pss_one (ps_ret (pv 2)))), ?_⟩)
  exact (s_seq (s_take (d_var 1))
      (s_ret (d_var 2)))
theorem b__law_names (T : TX K mg) : Binds K T.f__law_names.fd ["_law_pack_here", "_law_amount"] [] := T.f__law_names.F.bindsN fun _ _ _ _ _ _ us hl => match us, hl with | [_, _], _ => rfl
set_option maxHeartbeats 4000000 in
theorem ok__law_names (T : TX K mg) : FnOk WD.P WD.w K mg base (L2.CX WD.P WD.w) 2 T.f__law_names.f T.f__law_names.fd ["_law_pack_here", "_law_amount"] (spF ⟨K, C⟩ 2 m__law_names) := by
  refine fn_ok T.f__law_names.F sc__law_names (fun cdv A outer s H E hr tk po => ⟨_, (pss_cons (ps_set (i := 2) sc__law_names.nd rfl (Or.inr rfl) pe_str)
      (pss_cons (ps_set (i := 3) sc__law_names.nd rfl (Or.inl rfl) (pe_callS (ok__law_take (C := C) T) (hr.mono (by decide)) (by rfl) T.f__law_take.g T.f__law_take.F.kp (b__law_take T) (fun σ => passAt tk σ) (pa_cons (pv 0) (pa_cons pe_int pa_nil))))
      (pss_cons (ps_set (i := 2) sc__law_names.nd rfl (Or.inr rfl) (pe_op (kAdd K) (pe_slice (kSl K) (pv 2) (po_some (pv 3)) po_none) (pe_slice (kSl K) (pv 2) po_none (po_some (pv 3)))))
      (pss_cons (ps_set (i := 4) sc__law_names.nd rfl (Or.inl rfl) (pe_callS (ok__law_take (C := C) T) (hr.mono (by decide)) (by rfl) T.f__law_take.g T.f__law_take.F.kp (b__law_take T) (fun σ => passAt tk σ) (pa_cons (pv 0) (pa_cons pe_int pa_nil))))
      (pss_cons (ps_set (i := 5) sc__law_names.nd rfl (Or.inr rfl) (pe_callS (ok__law_take (C := C) T) (hr.mono (by decide)) (by rfl) T.f__law_take.g T.f__law_take.F.kp (b__law_take T) (fun σ => passAt tk σ) (pa_cons (pv 0) (pa_cons pe_int pa_nil))))
      (pss_cons (ps_if (pt_cmpR (kEq K (hu := hr.units)) (pv 4) pe_int (nomark _)) (pss_one (ps_ret (pe_lc (own := [("_law_k", 6)]) rfl sc__law_names.nd (pi_range1 (by rfl) T.m_range (pa_cons (pv 1) pa_nil)) (blkOk_by (own := [("_law_k", 6)]) (N := N__law_names) (sc := defScope st__law_names) (by decide +kernel)) (fun _ _ _ _ _ => (pg_name (i := 6) sc__law_names.nd rfl (by first | exact Or.inl rfl | exact Or.inr rfl))) (fun _ _ _ _ _ => pts_nil) (fun _ _ _ _ _ => (pe_op (kMulC K) (pe_ix (kIx K) (pv 2) pe_int (fun _ _ => rfl)) (pe_op (kAdd K) pe_int (pe_op op_mod (pe_op (kAdd K) (pv 5) (pv 6)) pe_int))))))) pss_nil)
      (pss_cons (ps_if (pt_cmpR (kEq K (hu := hr.units)) (pv 4) pe_int (nomark _)) (pss_one (ps_ret (pe_lc (own := [("_law_k", 6)]) rfl sc__law_names.nd (pi_range1 (by rfl) T.m_range (pa_cons (pv 1) pa_nil)) (blkOk_by (own := [("_law_k", 6)]) (N := N__law_names) (sc := defScope st__law_names) (by decide +kernel)) (fun _ _ _ _ _ => (pg_name (i := 6) sc__law_names.nd rfl (by first | exact Or.inl rfl | exact Or.inr rfl))) (fun _ _ _ _ _ => pts_nil) (fun _ _ _ _ _ => (pe_op (kAdd K) (pe_ix (kIx K) (pv 2) (pv 6) (fun _ _ => rfl)) (pe_slice (kSl K) (pv 2) (po_some pe_int) (po_some (pe_op (kAdd K) pe_int (pe_op op_mod (pe_op (kAdd K) (pv 5) (pe_op (kMulC K) pe_int (pv 6))) pe_int))))))))) pss_nil)
      (pss_one (ps_ret (pe_lc (own := [("_law_k", 6)]) rfl sc__law_names.nd (pi_range1 (by rfl) T.m_range (pa_cons (pv 1) pa_nil)) (blkOk_by (own := [("_law_k", 6)]) (N := N__law_names) (sc := defScope st__law_names) (by decide +kernel)) (fun _ _ _ _ _ => (pg_name (i := 6) sc__law_names.nd rfl (by first | exact Or.inl rfl | exact Or.inr rfl))) (fun _ _ _ _ _ => pts_nil) (fun _ _ _ _ _ => (pe_op (kAdd K) (pe_slice (kSl K) (pv 2) (po_some pe_int) (po_some (pe_op (kAdd K) pe_int (pv 5)))) (pe_ix (kIx K) (pv 2) (pv 6) (fun _ _ => rfl)))))))))))))), ?_⟩)
  exact (s_seq (s_asg (d_str _) (g_name 2))
      (s_seq (s_asg (d_callP (d_cons (d_int 26) d_nil)) (g_name 3))
      (s_seq (s_asg (d_op ro_add (d_sl rs_sl (d_var 2) (do_some (d_var 3)) do_none) (d_sl rs_sl (d_var 2) do_none (do_some (d_var 3)))) (g_name 2))
      (s_seq (s_asg (d_callP (d_cons (d_int 3) d_nil)) (g_name 4))
      (s_seq (s_asg (d_callP (d_cons (d_int 8) d_nil)) (g_name 5))
      (s_seq (s_if (dt_test (d_op ro_eq (d_var 4) (d_int 0))) (s_retL (l_lc (i_rng1 (d_cons (d_var 1) d_nil)) (g_name 6) (by decide) dt_yes (d_op ro_mulC (d_op ro_ix (d_var 2) (d_int 0)) (d_op ro_add (d_int 1) (d_op ro_mod (d_op ro_add (d_var 5) (d_var 6)) (d_int 8)))))) s_nx)
      (s_seq (s_if (dt_test (d_op ro_eq (d_var 4) (d_int 1))) (s_retL (l_lc (i_rng1 (d_cons (d_var 1) d_nil)) (g_name 6) (by decide) dt_yes (d_op ro_add (d_op ro_ix (d_var 2) (d_var 6)) (d_sl rs_sl (d_var 2) (do_some (d_int 5)) (do_some (d_op ro_add (d_int 5) (d_op ro_mod (d_op ro_add (d_var 5) (d_op ro_mulC (d_int 3) (d_var 6))) (d_int 8)))))))) s_nx)
      (s_retL (l_lc (i_rng1 (d_cons (d_var 1) d_nil)) (g_name 6) (by decide) dt_yes (d_op ro_add (d_sl rs_sl (d_var 2) (do_some (d_int 5)) (do_some (d_op ro_add (d_int 5) (d_var 5)))) (d_op ro_ix (d_var 2) (d_var 6))))))))))))
theorem b__law_set (T : TX K mg) : Binds K T.f__law_set.fd ["_law_pack_here", "_law_signs"] [] := T.f__law_set.F.bindsN fun _ _ _ _ _ _ us hl => match us, hl with | [_, _], _ => rfl
set_option maxHeartbeats 4000000 in
theorem ok__law_set (T : TX K mg) : FnOk WD.P WD.w K mg base (L2.CX WD.P WD.w) 2 T.f__law_set.f T.f__law_set.fd ["_law_pack_here", "_law_signs"] (spF ⟨K, C⟩ 2 m__law_set) := by
  refine fn_ok T.f__law_set.F sc__law_set (fun cdv A outer s H E hr tk po => ⟨_, (pss_cons (ps_set (i := 2) sc__law_set.nd rfl (Or.inr rfl) (pe_op (kAdd K) pe_int (pe_callS (ok__law_take (C := C) T) (hr.mono (by decide)) (by rfl) T.f__law_take.g T.f__law_take.F.kp (b__law_take T) (fun σ => passAt tk σ) (pa_cons (pv 0) (pa_cons (pe_op op_sub (pe_op op_shl pe_int (pe_callB (kLen K) (by rfl) T.m_len PySem.boot_len (pa_cons (pv 1) pa_nil))) pe_int) pa_nil)))))
      (pss_one (ps_ret (pe_m1 PySem.F.slot_str_join PySem.F.type_str_join (kJoin K) pe_str (pe_lc (own := [("_law_k", 3)]) rfl sc__law_set.nd (pi_range1 (by rfl) T.m_range (pa_cons (pe_callB (kLen K) (by rfl) T.m_len PySem.boot_len (pa_cons (pv 1) pa_nil)) pa_nil)) (blkOk_by (own := [("_law_k", 3)]) (N := N__law_set) (sc := defScope st__law_set) (by decide +kernel)) (fun _ _ _ _ _ => (pg_name (i := 3) sc__law_set.nd rfl (by first | exact Or.inl rfl | exact Or.inr rfl))) (fun _ _ _ _ _ => (pts_one (pt_cmpR (kEq K (hu := hr.units)) (pe_op op_mod (pe_op op_fdivW (pv 2) (pe_op op_shl pe_int (pv 3))) pe_int) pe_int (nomark _)))) (fun _ _ _ _ _ => (pe_ix (kIx K) (pv 1) (pv 3) (fun _ _ => rfl)))))))), ?_⟩)
  exact (s_seq (s_asg (d_op ro_add (d_int 1) (d_callP (d_cons (d_op ro_sub (d_op ro_shl (d_int 1) (d_cb rc_len (d_cons (d_var 1) d_nil))) (d_int 1)) d_nil))) (g_name 2))
      (s_ret (d_m1 rm_join (d_str _) (d_ofL (l_lc (i_rng1 (d_cons (d_cb rc_len (d_cons (d_var 1) d_nil)) d_nil)) (g_name 3) (by decide) (dt_test (d_op ro_eq (d_op ro_mod (d_op ro_fdiv (d_var 2) (d_op ro_shl (d_int 1) (d_var 3))) (d_int 2)) (d_int 1))) (d_op ro_ix (d_var 1) (d_var 3)))))))
theorem b__law_pattern (T : TX K mg) : Binds K T.f__law_pattern.fd ["_law_pack_here", "_law_signs"] [] := T.f__law_pattern.F.bindsN fun _ _ _ _ _ _ us hl => match us, hl with | [_, _], _ => rfl
set_option maxHeartbeats 4000000 in
theorem ok__law_pattern (T : TX K mg) : FnOk WD.P WD.w K mg base (L2.CX WD.P WD.w) 3 T.f__law_pattern.f T.f__law_pattern.fd ["_law_pack_here", "_law_signs"] (spF ⟨K, C⟩ 2 m__law_pattern) := by
  refine fn_ok T.f__law_pattern.F sc__law_pattern (fun cdv A outer s H E hr tk po => ⟨_, (pss_cons (ps_set (i := 2) sc__law_pattern.nd rfl (Or.inl rfl) (pe_ix (kIx K) (pe_lst (pa_cons pe_str (pa_cons pe_str (pa_cons pe_str (pa_cons pe_str (pa_cons pe_str (pa_cons pe_str pa_nil))))))) (pe_callS (ok__law_take (C := C) T) (hr.mono (by decide)) (by rfl) T.f__law_take.g T.f__law_take.F.kp (b__law_take T) (fun σ => passAt tk σ) (pa_cons (pv 0) (pa_cons pe_int pa_nil))) (fun _ _ => rfl)))
      (pss_cons (ps_if (pt_cmpR (kEq K (hu := hr.units)) (pv 2) pe_str (nomark _)) (pss_one (ps_ret (pe_tupN (pa_cons (pv 2) (pa_cons (pe_callS (ok__law_set (C := C) T) (hr.mono (by decide)) (by rfl) T.f__law_set.g T.f__law_set.F.kp (b__law_set T) (fun σ => passAt tk σ) (pa_cons (pv 0) (pa_cons (pe_op (kAdd K) pe_str (pv 1)) pa_nil))) (pa_cons (pe_callS (ok__law_set (C := C) T) (hr.mono (by decide)) (by rfl) T.f__law_set.g T.f__law_set.F.kp (b__law_set T) (fun σ => passAt tk σ) (pa_cons (pv 0) (pa_cons (pe_op (kAdd K) pe_str (pv 1)) pa_nil))) pa_nil)))))) pss_nil)
      (pss_cons (ps_if (pt_cmpR (kEq K (hu := hr.units)) (pv 2) pe_str (nomark _)) (pss_one (ps_ret (pe_tupN (pa_cons (pv 2) (pa_cons (pe_callS (ok__law_set (C := C) T) (hr.mono (by decide)) (by rfl) T.f__law_set.g T.f__law_set.F.kp (b__law_set T) (fun σ => passAt tk σ) (pa_cons (pv 0) (pa_cons (pv 1) pa_nil))) (pa_cons (pe_callS (ok__law_set (C := C) T) (hr.mono (by decide)) (by rfl) T.f__law_set.g T.f__law_set.F.kp (b__law_set T) (fun σ => passAt tk σ) (pa_cons (pv 0) (pa_cons (pv 1) pa_nil))) pa_nil)))))) pss_nil)
      (pss_one (ps_ret (pe_tupN (pa_cons (pv 2) (pa_cons (pe_callS (ok__law_set (C := C) T) (hr.mono (by decide)) (by rfl) T.f__law_set.g T.f__law_set.F.kp (b__law_set T) (fun σ => passAt tk σ) (pa_cons (pv 0) (pa_cons (pv 1) pa_nil))) pa_nil)))))))), ?_⟩)
  exact (s_seq (s_asg (d_op ro_ix (d_ofL (l_lst (d_cons (d_str _) (d_cons (d_str _) (d_cons (d_str _) (d_cons (d_str _) (d_cons (d_str _) (d_cons (d_str _) d_nil)))))))) (d_callP (d_cons (d_int 6) d_nil))) (g_name 2))
      (s_seq (s_if (dt_test (d_op ro_eq (d_var 2) (d_str _))) (s_ret (d_tup (d_cons (d_var 2) (d_cons (d_callP (d_cons (d_op ro_add (d_str _) (d_var 1)) d_nil)) (d_cons (d_callP (d_cons (d_op ro_add (d_str _) (d_var 1)) d_nil)) d_nil))))) s_nx)
      (s_seq (s_if (dt_test (d_op ro_eq (d_var 2) (d_str _))) (s_ret (d_tup (d_cons (d_var 2) (d_cons (d_callP (d_cons (d_var 1) d_nil)) (d_cons (d_callP (d_cons (d_var 1) d_nil)) d_nil))))) s_nx)
      (s_ret (d_tup (d_cons (d_var 2) (d_cons (d_callP (d_cons (d_var 1) d_nil)) d_nil)))))))
theorem b__law_code (T : TX K mg) : Binds K T.f__law_code.fd ["_law_pack_here", "_law_most"] [] := T.f__law_code.F.bindsN fun _ _ _ _ _ _ us hl => match us, hl with | [_, _], _ => rfl
set_option maxHeartbeats 4000000 in
theorem ok__law_code (T : TX K mg) : FnOk WD.P WD.w K mg base (L2.CX WD.P WD.w) 4 T.f__law_code.f T.f__law_code.fd ["_law_pack_here", "_law_most"] (spF ⟨K, C⟩ 2 m__law_code) := by
  refine fn_ok T.f__law_code.F sc__law_code (fun cdv A outer s H E hr tk po => ⟨_, (pss_cons (ps_set (i := 2) sc__law_code.nd rfl (Or.inl rfl) (pe_ix (kIx K) (pe_lst (pa_cons pe_str (pa_cons pe_str (pa_cons pe_str (pa_cons pe_str (pa_cons pe_str (pa_cons pe_str pa_nil))))))) (pe_callS (ok__law_take (C := C) T) (hr.mono (by decide)) (by rfl) T.f__law_take.g T.f__law_take.F.kp (b__law_take T) (fun σ => passAt tk σ) (pa_cons (pv 0) (pa_cons pe_int pa_nil))) (fun _ _ => rfl)))
      (pss_cons (ps_set (i := 3) sc__law_code.nd rfl (Or.inl rfl) (pe_callS (ok__law_names (C := C) T) (hr.mono (by decide)) (by rfl) T.f__law_names.g T.f__law_names.F.kp (b__law_names T) (fun σ => passAt tk σ) (pa_cons (pv 0) (pa_cons (pe_op (kAdd K) pe_int (pe_callS (ok__law_take (C := C) T) (hr.mono (by decide)) (by rfl) T.f__law_take.g T.f__law_take.F.kp (b__law_take T) (fun σ => passAt tk σ) (pa_cons (pv 0) (pa_cons (pv 1) pa_nil)))) pa_nil))))
      (pss_cons (ps_set (i := 4) sc__law_code.nd rfl (Or.inl rfl) (pe_callS (ok__law_take (C := C) T) (hr.mono (by decide)) (by rfl) T.f__law_take.g T.f__law_take.F.kp (b__law_take T) (fun σ => passAt tk σ) (pa_cons (pv 0) (pa_cons pe_int pa_nil))))
      (pss_cons (ps_set (i := 5) sc__law_code.nd rfl (Or.inl rfl) (pe_lst pa_nil))
      (pss_cons (ps_for po rfl (kPiList K (pv 3)) (pg_name (i := 6) sc__law_code.nd rfl (Or.inl rfl)) (pss_cons (ps_set (i := 7) sc__law_code.nd rfl (Or.inl rfl) (pe_lst pa_nil))
      (pss_cons (ps_for po rfl (pi_range1 (by rfl) T.m_range (pa_cons (pe_op (kAdd K) pe_int (pe_op op_fdivW (pe_callS (ok__law_take (C := C) T) (hr.mono (by decide)) (by rfl) T.f__law_take.g T.f__law_take.F.kp (b__law_take T) (fun σ => passAt tk σ) (pa_cons (pv 0) (pa_cons pe_int pa_nil))) pe_int)) pa_nil)) (pg_name (i := 8) sc__law_code.nd rfl (Or.inl rfl)) (pss_one (ps_expr (pe_bm PySem.F.plainAttrs_list PySem.F.slot_list_append PySem.F.type_list_append mt_append (pv 7) (pa_cons (pe_tupN (pa_cons (pe_callS (ok__law_pattern (C := C) T) (hr.mono (by decide)) (by rfl) T.f__law_pattern.g T.f__law_pattern.F.kp (b__law_pattern T) (fun σ => passAt tk σ) (pa_cons (pv 0) (pa_cons (pv 2) pa_nil))) (pa_cons (pe_op (kAdd K) pe_int (pe_op op_fdivW (pe_callS (ok__law_take (C := C) T) (hr.mono (by decide)) (by rfl) T.f__law_take.g T.f__law_take.F.kp (b__law_take T) (fun σ => passAt tk σ) (pa_cons (pv 0) (pa_cons pe_int pa_nil))) pe_int)) pa_nil))) pa_nil)))))
      (pss_one (ps_expr (pe_bm PySem.F.plainAttrs_list PySem.F.slot_list_append PySem.F.type_list_append mt_append (pv 5) (pa_cons (pe_tupN (pa_cons (pv 6) (pa_cons (pe_callTy (kTupleB K (hc := rfl)) (by rfl) T.m_tuple boot_tuple (pa_cons (pv 7) pa_nil)) pa_nil))) pa_nil)))))))
      (pss_cons (ps_if ((pw_and (pt_cmpR op_gt (pv 4) pe_int (nomark _)) (pw_and1 (pt_cmpR op_gt (pe_callB (kLen K) (by rfl) T.m_len PySem.boot_len (pa_cons (pv 5) pa_nil)) pe_int (nomark _))))).pt (pss_cons (ps_set (i := 9) sc__law_code.nd rfl (Or.inl rfl) (pe_tupN (pa_cons (pe_tupN (pa_cons (pe_tupN (pa_cons pe_str (pa_cons (pv 2) pa_nil))) (pa_cons pe_int pa_nil))) (pa_cons (pe_tupN (pa_cons (pe_tupN (pa_cons pe_str (pa_cons (pv 2) pa_nil))) (pa_cons pe_int pa_nil))) (pa_cons (pe_tupN (pa_cons (pe_tupN (pa_cons pe_str (pa_cons (pv 2) (pa_cons (pv 2) pa_nil)))) (pa_cons pe_int pa_nil))) pa_nil)))))
      (pss_one (ps_asg (pe_tupN (pa_cons (pe_ix (kIx K) (pe_ix (kIx K) (pv 5) (pe_un un_neg pe_int) (fun _ _ => rfl)) pe_int (fun _ _ => rfl)) (pa_cons (pe_slice (kSl K) (pv 9) po_none (po_some (pe_op (kAdd K) (pv 4) pe_int))) pa_nil))) (pg_sub (pv 5) (pe_un un_neg pe_int) set_list)))) pss_nil)
      (pss_one (ps_ret (pe_tupN (pa_cons (pv 2) (pa_cons (pe_callTy (kTupleB K (hc := rfl)) (by rfl) T.m_tuple boot_tuple (pa_cons (pv 5) pa_nil)) pa_nil))))))))))), ?_⟩)
  exact (s_seq (s_asg (d_op ro_ix (d_ofL (l_lst (d_cons (d_str _) (d_cons (d_str _) (d_cons (d_str _) (d_cons (d_str _) (d_cons (d_str _) (d_cons (d_str _) d_nil)))))))) (d_callP (d_cons (d_int 6) d_nil))) (g_name 2))
      (s_seq (s_asg (d_ofL (l_callP (d_cons (d_op ro_add (d_int 1) (d_callP (d_cons (d_var 1) d_nil))) d_nil))) (g_name 3))
      (s_seq (s_asg (d_callP (d_cons (d_int 3) d_nil)) (g_name 4))
      (s_seq (s_setO (l_lst d_nil))
      (s_seq (s_for (i_list (d_var 3)) (g_name 6) (s_seq (s_setO (l_lst d_nil))
      (s_seq (s_for (i_rng1 (d_cons (d_op ro_add (d_int 1) (d_op ro_fdiv (d_callP (d_cons (d_int 6) d_nil)) (d_int 3))) d_nil)) (g_name 8) (s_app (d_tup (d_cons (d_callP (d_cons (d_var 2) d_nil)) (d_cons (d_op ro_add (d_int 1) (d_op ro_fdiv (d_callP (d_cons (d_int 6) d_nil)) (d_int 4))) d_nil)))))
      (s_app (d_tup (d_cons (d_var 6) (d_cons (d_cb rc_tupleA (d_cons (d_own 7) d_nil)) d_nil)))))))
      (s_seq (s_if (dt_and (dt_test (d_op ro_gt (d_var 4) (d_int 0))) (dt_test (d_op ro_gt (d_cb rc_len (d_cons (d_own 5) d_nil)) (d_int 1)))) (s_seq (s_asg (d_tup (d_cons (d_tup (d_cons (d_tup (d_cons (d_str _) (d_cons (d_var 2) d_nil))) (d_cons (d_int 1) d_nil))) (d_cons (d_tup (d_cons (d_tup (d_cons (d_str _) (d_cons (d_var 2) d_nil))) (d_cons (d_int 1) d_nil))) (d_cons (d_tup (d_cons (d_tup (d_cons (d_str _) (d_cons (d_var 2) (d_cons (d_var 2) d_nil)))) (d_cons (d_int 1) d_nil))) d_nil)))) (g_name 9))
      (s_setI (d_tup (d_cons (d_op ro_ix (d_op ro_ix (d_own 5) (d_un ru_neg (d_int 1))) (d_int 0)) (d_cons (d_sl rs_sl (d_var 9) do_none (do_some (d_op ro_add (d_var 4) (d_int 1)))) d_nil))) (d_un ru_neg (d_int 1)))) s_nx)
      (s_ret (d_tup (d_cons (d_var 2) (d_cons (d_cb rc_tupleA (d_cons (d_own 5) d_nil)) d_nil))))))))))
theorem b__law_mixed (T : TX K mg) : Binds K T.f__law_mixed.fd ["_law_cell"] [] := T.f__law_mixed.F.bindsN fun _ _ _ _ _ _ us hl => match us, hl with | [_], _ => rfl
set_option maxHeartbeats 4000000 in
theorem ok__law_mixed (T : TX K mg) : FnOk WD.P WD.w K mg base (L2.CX WD.P WD.w) 1 T.f__law_mixed.f T.f__law_mixed.fd ["_law_cell"] (spF ⟨K, C⟩ 1 m__law_mixed) := by
  refine fn_ok T.f__law_mixed.F sc__law_mixed (fun cdv A outer s H E hr tk po => ⟨_, (pss_one (ps_ret (pe_op op_mod (pe_op (kMulC K) (pv 0) pe_int) (pe_op op_pow pe_int pe_int)))), ?_⟩)
  exact (s_ret (d_op ro_mod (d_op ro_mulC (d_var 0) (d_int 405465108108164381978013115464349136571990423462494197614017)) (d_op ro_pow (d_int 10) (d_int 60))))
theorem b__law_pack (T : TX K mg) : Binds K T.f__law_pack.fd ["_law_script", "_law_k"] [] := T.f__law_pack.F.bindsN fun _ _ _ _ _ _ us hl => match us, hl with | [_, _], _ => rfl
set_option maxHeartbeats 4000000 in
theorem ok__law_pack (T : TX K mg) : FnOk WD.P WD.w K mg base (L2.CX WD.P WD.w) 2 T.f__law_pack.f T.f__law_pack.fd ["_law_script", "_law_k"] (spF ⟨K, C⟩ 2 m__law_pack) := by
  refine fn_ok T.f__law_pack.F sc__law_pack (fun cdv A outer s H E hr tk po => ⟨_, (pss_cons (ps_if (pt_cmpR opLt (pv 1) (pe_callB (kLen K) (by rfl) T.m_len PySem.boot_len (pa_cons (pv 0) pa_nil)) (nomark _)) (pss_one (ps_ret (pe_lst (pa_cons (pe_callS (ok__law_mixed (C := C) T) (hr.mono (by decide)) (by rfl) T.f__law_mixed.g T.f__law_mixed.F.kp (b__law_mixed T) (fun σ => passAt tk σ) (pa_cons (pe_op (kAdd K) (pe_ix (kIx K) (pv 0) (pv 1) (fun _ _ => rfl)) (pe_op (kMulC K) pe_int (pv 1))) pa_nil)) pa_nil)))) pss_nil)
      (pss_one (ps_ret (pe_lst (pa_cons (pe_callS (ok__law_mixed (C := C) T) (hr.mono (by decide)) (by rfl) T.f__law_mixed.g T.f__law_mixed.F.kp (b__law_mixed T) (fun σ => passAt tk σ) (pa_cons (pe_op (kAdd K) (pe_op (kMulC K) pe_int (pv 1)) pe_int) pa_nil)) pa_nil))))), ?_⟩)
  exact (s_seq (s_if (dt_test (d_op ro_lt (d_var 1) (d_cb rc_len (d_cons (d_var 0) d_nil)))) (s_retL (l_lst (d_cons (d_call (d_cons (d_op ro_add (d_op ro_ix (d_var 0) (d_var 1)) (d_op ro_mulC (d_int 41) (d_var 1))) d_nil)) d_nil))) s_nx)
      (s_retL (l_lst (d_cons (d_call (d_cons (d_op ro_add (d_op ro_mulC (d_int 6131) (d_var 1)) (d_int 17)) d_nil)) d_nil))))
theorem b__law_leaf (T : TX K mg) : Binds K T.f__law_leaf.fd ["_law_pack_here", "_law_thing"] [] := T.f__law_leaf.F.bindsN fun _ _ _ _ _ _ us hl => match us, hl with | [_, _], _ => rfl
set_option maxHeartbeats 4000000 in
theorem ok__law_leaf (T : TX K mg) : FnOk WD.P WD.w K mg base (L2.CX WD.P WD.w) 2 T.f__law_leaf.f T.f__law_leaf.fd ["_law_pack_here", "_law_thing"] (spF ⟨K, C⟩ 2 m__law_leaf) := by
  refine fn_ok T.f__law_leaf.F sc__law_leaf (fun cdv A outer s H E hr tk po => ⟨_, (pss_cons (ps_set (i := 2) sc__law_leaf.nd rfl (Or.inl rfl) (pe_callS (ok__law_take (C := C) T) (hr.mono (by decide)) (by rfl) T.f__law_take.g T.f__law_take.F.kp (b__law_take T) (fun σ => passAt tk σ) (pa_cons (pv 0) (pa_cons pe_int pa_nil))))
      (pss_cons (ps_if (pt_val (pe_callB (kIsi K) (by rfl) T.m_isinstance boot_isinstance (pa_cons (pv 1) (pa_cons (pe_bltn (v := .ty "str") (by rfl) T.m_str boot_str rfl) pa_nil)))) (pss_one (ps_ret (pe_ix (kIx K) (pe_lst (pa_cons (pe_op (kAdd K) (pv 1) pe_str) (pa_cons pe_str (pa_cons pe_str (pa_cons pe_non (pa_cons pe_str (pa_cons pe_int (pa_cons (pe_lst (pa_cons (pv 1) pa_nil)) (pa_cons (pe_op (kAdd K) (pe_upper (pv 1)) pe_str) pa_nil))))))))) (pv 2) (fun _ _ => rfl)))) pss_nil)
      (pss_one (ps_ret (pe_ix (kIx K) (pe_lst (pa_cons pe_non (pa_cons (pe_lst pa_nil) (pa_cons pe_str (pa_cons pe_int (pa_cons pe_bl (pa_cons (pe_lockD pe_dnewK) (pa_cons (pe_tupN (pa_cons pe_str pa_nil)) (pa_cons (pe_callTy (kListB K (hc := rfl)) (by rfl) T.m_list boot_list (pa_cons (pv 1) pa_nil)) pa_nil))))))))) (pv 2) (fun _ _ => rfl)))))), ?_⟩)
  exact (s_seq (s_asg (d_callP (d_cons (d_int 8) d_nil)) (g_name 2))
      (s_seq (s_if (dt_tB (d_isi (d_var 1))) (s_ret (d_op ro_ix (d_ofL (l_lst (d_cons (d_op ro_add (d_var 1) (d_str _)) (d_cons (d_str _) (d_cons (d_str _) (d_cons d_non (d_cons (d_str _) (d_cons (d_int 0) (d_cons (d_ofL (l_lst (d_cons (d_var 1) d_nil))) (d_cons (d_op ro_add (d_m0 rm_upper (d_var 1)) (d_str _)) d_nil)))))))))) (d_var 2))) s_nx)
      (s_ret (d_op ro_ix (d_ofL (l_lst (d_cons d_non (d_cons (d_ofL (l_lst d_nil)) (d_cons (d_str _) (d_cons (d_int 0) (d_cons (d_bl true) (d_cons d_dict0 (d_cons (d_tup (d_cons (d_str _) d_nil)) (d_cons (d_ofL (l_cb rcl_listA (d_cons (d_var 1) d_nil))) d_nil)))))))))) (d_var 2)))))
theorem b__law_bent (T : TX K mg) : Binds K T.f__law_bent.fd ["_law_pack_here", "_law_thing", "_law_under"] [] := T.f__law_bent.F.bindsN fun _ _ _ _ _ _ us hl => match us, hl with | [_, _, _], _ => rfl
set_option maxHeartbeats 4000000 in
theorem ok__law_bent (T : TX K mg) : ∀ k : Nat, FnOk WD.P WD.w K mg base (L2.CX WD.P WD.w) (3 + k) T.f__law_bent.f T.f__law_bent.fd ["_law_pack_here", "_law_thing", "_law_under"] (spF ⟨K, C⟩ 3 (m__law_bent k))
  | 0 => fn_bad
  | k + 1 => by
    have ih := ok__law_bent T k
    refine fn_ok (k := 3 + k) T.f__law_bent.F sc__law_bent (fun cdv A outer s H E hr tk po => ⟨_, (pss_cons (ps_if ((pw_or (pt_cmpR (kEq K (hu := hr.units)) (pv 2) pe_int (nomark _)) (pw_or (pt_val (pe_callB (kIsi K) (by rfl) T.m_isinstance boot_isinstance (pa_cons (pv 1) (pa_cons (pe_bltn (v := .ty "str") (by rfl) T.m_str boot_str rfl) pa_nil)))) (pw_or (pt_cmpR (kEq K (hu := hr.units)) (pv 1) (pe_tupN pa_nil) (nomark _)) (pw_or1 (pt_cmpR (kEq K (hu := hr.units)) (pe_callS (ok__law_take (C := C) T) (hr.mono (by omega)) (by rfl) T.f__law_take.g T.f__law_take.F.kp (b__law_take T) (fun σ => passAt tk σ) (pa_cons (pv 0) (pa_cons pe_int pa_nil))) pe_int (nomark _))))))).pt (pss_one (ps_ret (pe_callS (ok__law_leaf (C := C) T) (hr.mono (by omega)) (by rfl) T.f__law_leaf.g T.f__law_leaf.F.kp (b__law_leaf T) (fun σ => passAt tk σ) (pa_cons (pv 0) (pa_cons (pv 1) pa_nil))))) pss_nil)
      (pss_cons (ps_set (i := 3) sc__law_bent.nd rfl (Or.inl rfl) (pe_callS (ok__law_take (C := C) T) (hr.mono (by omega)) (by rfl) T.f__law_take.g T.f__law_take.F.kp (b__law_take T) (fun σ => passAt tk σ) (pa_cons (pv 0) (pa_cons (pe_callB (kLen K) (by rfl) T.m_len PySem.boot_len (pa_cons (pv 1) pa_nil)) pa_nil))))
      (pss_cons (ps_set (i := 4) sc__law_bent.nd rfl (Or.inl rfl) (pe_callS (ok__law_take (C := C) T) (hr.mono (by omega)) (by rfl) T.f__law_take.g T.f__law_take.F.kp (b__law_take T) (fun σ => passAt tk σ) (pa_cons (pv 0) (pa_cons pe_int pa_nil))))
      (pss_cons (ps_if (pt_cmpR (kEq K (hu := hr.units)) (pv 4) pe_int (nomark _)) (pss_one (ps_ret (pe_op (kAdd K) (pe_slice (kSl K) (pv 1) po_none (po_some (pv 3))) (pe_slice (kSl K) (pv 1) (po_some (pe_op (kAdd K) (pv 3) pe_int)) po_none)))) pss_nil)
      (pss_cons (ps_if (pt_cmpR (kEq K (hu := hr.units)) (pv 4) pe_int (nomark _)) (pss_one (ps_ret (pe_op (kAdd K) (pe_op (kAdd K) (pe_slice (kSl K) (pv 1) po_none (po_some (pv 3))) (pe_slice (kSl K) (pv 1) (po_some (pv 3)) (po_some (pe_op (kAdd K) (pv 3) pe_int)))) (pe_slice (kSl K) (pv 1) (po_some (pv 3)) po_none)))) pss_nil)
      (pss_one (ps_ret (pe_op (kAdd K) (pe_op (kAdd K) (pe_slice (kSl K) (pv 1) po_none (po_some (pv 3))) (pe_tupN (pa_cons (pe_callS ih (hr.mono (Nat.le_refl _)) (by rfl) T.f__law_bent.g T.f__law_bent.F.kp (b__law_bent T) (fun σ => passAt tk σ) (pa_cons (pv 0) (pa_cons (pe_ix (kIx K) (pv 1) (pv 3) (fun _ _ => rfl)) (pa_cons (pe_op op_sub (pv 2) pe_int) pa_nil)))) pa_nil))) (pe_slice (kSl K) (pv 1) (po_some (pe_op (kAdd K) (pv 3) pe_int)) po_none))))))))), ?_⟩)
    exact (s_seq (s_if (dt_or (dt_test (d_op ro_eq (d_var 2) (d_int 0))) (dt_or (dt_tB (d_isi (d_var 1))) (dt_or (dt_test (d_op ro_eq (d_var 1) (d_tup d_nil))) (dt_test (d_op ro_eq (d_callP (d_cons (d_int 5) d_nil)) (d_int 0)))))) (s_ret (d_callP (d_cons (d_var 1) d_nil))) s_nx)
      (s_seq (s_asg (d_callP (d_cons (d_cb rc_len (d_cons (d_var 1) d_nil)) d_nil)) (g_name 3))
      (s_seq (s_asg (d_callP (d_cons (d_int 5) d_nil)) (g_name 4))
      (s_seq (s_if (dt_test (d_op ro_eq (d_var 4) (d_int 0))) (s_ret (d_op ro_add (d_sl rs_sl (d_var 1) do_none (do_some (d_var 3))) (d_sl rs_sl (d_var 1) (do_some (d_op ro_add (d_var 3) (d_int 1))) do_none))) s_nx)
      (s_seq (s_if (dt_test (d_op ro_eq (d_var 4) (d_int 1))) (s_ret (d_op ro_add (d_op ro_add (d_sl rs_sl (d_var 1) do_none (do_some (d_var 3))) (d_sl rs_sl (d_var 1) (do_some (d_var 3)) (do_some (d_op ro_add (d_var 3) (d_int 1))))) (d_sl rs_sl (d_var 1) (do_some (d_var 3)) do_none))) s_nx)
      (s_ret (d_op ro_add (d_op ro_add (d_sl rs_sl (d_var 1) do_none (do_some (d_var 3))) (d_tup (d_cons (d_callP (d_cons (d_op ro_ix (d_var 1) (d_var 3)) (d_cons (d_op ro_sub (d_var 2) (d_int 1)) d_nil))) d_nil))) (d_sl rs_sl (d_var 1) (do_some (d_op ro_add (d_var 3) (d_int 1))) do_none))))))))
theorem b__law_telling (T : TX K mg) : Binds K T.f__law_telling.fd ["_law_pack_here", "_law_signs", "_law_word_here"] [] := T.f__law_telling.F.bindsN fun _ _ _ _ _ _ us hl => match us, hl with | [_, _, _], _ => rfl
set_option maxHeartbeats 4000000 in
theorem ok__law_telling (T : TX K mg) : FnOk WD.P WD.w K mg base (L2.CX WD.P WD.w) 2 T.f__law_telling.f T.f__law_telling.fd ["_law_pack_here", "_law_signs", "_law_word_here"] (spF ⟨K, C⟩ 3 m__law_telling) := by
  refine fn_ok T.f__law_telling.F sc__law_telling (fun cdv A outer s H E hr tk po => ⟨_, (pss_cons (ps_set (i := 3) sc__law_telling.nd rfl (Or.inl rfl) (pe_lst pa_nil))
      (pss_cons (ps_for po rfl (kPiList K (pe_op (kAdd K) (pe_callTy (kListB K (hc := rfl)) (by rfl) T.m_list boot_list (pa_cons (pv 2) pa_nil)) (pe_lst (pa_cons pe_str pa_nil)))) (pg_name (i := 4) sc__law_telling.nd rfl (Or.inl rfl)) (pss_cons (ps_for po rfl (pi_range1 (by rfl) T.m_range (pa_cons (pe_op op_fdivW (pe_callS (ok__law_take (C := C) T) (hr.mono (by decide)) (by rfl) T.f__law_take.g T.f__law_take.F.kp (b__law_take T) (fun σ => passAt tk σ) (pa_cons (pv 0) (pa_cons pe_int pa_nil))) pe_int) pa_nil)) (pg_name (i := 5) sc__law_telling.nd rfl (Or.inl rfl)) (pss_one (ps_expr (pe_bm PySem.F.plainAttrs_list PySem.F.slot_list_append PySem.F.type_list_append mt_append (pv 3) (pa_cons (pe_tupN (pa_cons pe_str (pa_cons (pe_ix (kIx K) (pv 1) (pe_callS (ok__law_take (C := C) T) (hr.mono (by decide)) (by rfl) T.f__law_take.g T.f__law_take.F.kp (b__law_take T) (fun σ => passAt tk σ) (pa_cons (pv 0) (pa_cons (pe_callB (kLen K) (by rfl) T.m_len PySem.boot_len (pa_cons (pv 1) pa_nil)) pa_nil))) (fun _ _ => rfl)) pa_nil))) pa_nil)))))
      (pss_one (ps_if (pt_cmpR (kNe K (hu := hr.units)) (pv 4) pe_str (nomark _)) (pss_one (ps_expr (pe_bm PySem.F.plainAttrs_list PySem.F.slot_list_append PySem.F.type_list_append mt_append (pv 3) (pa_cons (pe_tupN (pa_cons (pv 4) (pa_cons (pe_ix (kIx K) (pe_op (kAdd K) (pe_op (kAdd K) (pe_lst (pa_cons (pv 4) pa_nil)) (pe_callTy (kListB K (hc := rfl)) (by rfl) T.m_list boot_list (pa_cons (pv 1) pa_nil))) (pe_lst (pa_cons pe_str pa_nil))) (pe_callS (ok__law_take (C := C) T) (hr.mono (by decide)) (by rfl) T.f__law_take.g T.f__law_take.F.kp (b__law_take T) (fun σ => passAt tk σ) (pa_cons (pv 0) (pa_cons (pe_op (kAdd K) (pe_callB (kLen K) (by rfl) T.m_len PySem.boot_len (pa_cons (pv 1) pa_nil)) pe_int) pa_nil))) (fun _ _ => rfl)) pa_nil))) pa_nil)))) pss_nil))))
      (pss_one (ps_ret (pe_callTy (kTupleB K (hc := rfl)) (by rfl) T.m_tuple boot_tuple (pa_cons (pv 3) pa_nil)))))), ?_⟩)
  exact (s_seq (s_setO (l_lst d_nil))
      (s_seq (s_for (i_list (d_op ro_add (d_ofL (l_cb rcl_listA (d_cons (d_var 2) d_nil))) (d_ofL (l_lst (d_cons (d_str _) d_nil))))) (g_name 4) (s_seq (s_for (i_rng1 (d_cons (d_op ro_fdiv (d_callP (d_cons (d_int 4) d_nil)) (d_int 2)) d_nil)) (g_name 5) (s_app (d_tup (d_cons (d_str _) (d_cons (d_op ro_ix (d_var 1) (d_callP (d_cons (d_cb rc_len (d_cons (d_var 1) d_nil)) d_nil))) d_nil)))))
      (s_if (dt_test (d_op ro_ne (d_var 4) (d_str _))) (s_app (d_tup (d_cons (d_var 4) (d_cons (d_op ro_ix (d_op ro_add (d_op ro_add (d_ofL (l_lst (d_cons (d_var 4) d_nil))) (d_ofL (l_cb rcl_listA (d_cons (d_var 1) d_nil)))) (d_ofL (l_lst (d_cons (d_str _) d_nil)))) (d_callP (d_cons (d_op ro_add (d_cb rc_len (d_cons (d_var 1) d_nil)) (d_int 2)) d_nil))) d_nil)))) s_nx)))
      (s_ret (d_cb rc_tupleA (d_cons (d_own 3) d_nil)))))
theorem b_is_part (T : TX K mg) : Binds K T.f_is_part.fd ["code", "thing"] [] := T.f_is_part.F.bindsN fun _ _ _ _ _ _ us hl => match us, hl with | [_, _], _ => rfl
set_option maxHeartbeats 4000000 in
theorem ok_is_part (T : TX K mg) : FnOk WD.P WD.w K mg base (L2.CX WD.P WD.w) 1 T.f_is_part.f T.f_is_part.fd ["code", "thing"] (spF ⟨K, C⟩ 2 m_is_part) := by
  refine fn_ok T.f_is_part.F sc_is_part (fun cdv A outer s H E hr tk po => ⟨_, (pss_one (ps_ret (pe_and (pe_callB (kIsi K) (by rfl) T.m_isinstance boot_isinstance (pa_cons (pv 1) (pa_cons (pe_bltn (v := .ty "str") (by rfl) T.m_str boot_str rfl) pa_nil))) (pe_and (pe_cmpR op_le (pe_callB (kLen K) (by rfl) T.m_len PySem.boot_len (pa_cons (pv 1) pa_nil)) pe_int (nomark _)) (pe_one (pe_cmpR (kIn K (hu := u65 hr)) (pv 1) (pe_ix (kIx K) (pv 0) pe_int (fun _ _ => rfl)) (by rfl))))))), ?_⟩)
  exact (s_ret (d_and (d_isi (d_var 1)) (d_and (d_op ro_le (d_cb rc_len (d_cons (d_var 1) d_nil)) (d_int 1)) (d_op ro_in (d_var 1) (d_op ro_ix (d_var 0) (d_int 0))))))
theorem b_is_step (T : TX K mg) : Binds K T.f_is_step.fd ["code", "thing"] [] := T.f_is_step.F.bindsN fun _ _ _ _ _ _ us hl => match us, hl with | [_, _], _ => rfl
set_option maxHeartbeats 4000000 in
theorem ok_is_step (T : TX K mg) : FnOk WD.P WD.w K mg base (L2.CX WD.P WD.w) 2 T.f_is_step.f T.f_is_step.fd ["code", "thing"] (spF ⟨K, C⟩ 2 m_is_step) := by
  refine fn_ok T.f_is_step.F sc_is_step (fun cdv A outer s H E hr tk po => ⟨_, (pss_cons (ps_if ((pw_or (pt_not (pt_val (pe_callB (kIsi K) (by rfl) T.m_isinstance boot_isinstance (pa_cons (pv 1) (pa_cons (pe_bltn (v := .ty "tuple") (by rfl) T.m_tuple boot_tuple rfl) pa_nil))))) (pw_or (pt_cmpR (kNe K (hu := hr.units)) (pe_callB (kLen K) (by rfl) T.m_len PySem.boot_len (pa_cons (pv 1) pa_nil)) pe_int (nomark _)) (pw_or1 (pt_not (pt_val (pe_callB (kAll K (hc := rfl)) (by rfl) T.m_all bt_all (pa_cons (pe_lc (own := [("part", 2)]) rfl sc_is_step.nd (kPiTup K (pv 1)) (blkOk_by (own := [("part", 2)]) (N := N_is_step) (sc := defScope st_is_step) (by decide +kernel)) (fun _ _ _ _ _ => (pg_name (i := 2) sc_is_step.nd rfl (by first | exact Or.inl rfl | exact Or.inr rfl))) (fun _ _ _ _ _ => pts_nil) (fun _ _ _ _ _ => (pe_callS (ok_is_part (C := C) T) (hr.mono (by decide)) (by rfl) T.f_is_part.g T.f_is_part.F.kp (b_is_part T) (fun σ => passAt takes0 σ) (pa_cons (pv 0) (pa_cons (pv 2) pa_nil))))) pa_nil)))))))).pt (pss_one (ps_ret pe_bl)) pss_nil)
      (pss_one (ps_ret (pe_cmpR (kNe K (hu := hr.units)) (pv 1) (pe_tupN (pa_cons pe_str (pa_cons pe_str pa_nil))) (nomark _))))), ?_⟩)
  exact (s_seq (s_if (dt_or (dt_not (dt_tB (d_isi (d_var 1)))) (dt_or (dt_test (d_op ro_ne (d_cb rc_len (d_cons (d_var 1) d_nil)) (d_int 2))) (dt_not (dt_tB (d_cb rc_all (d_cons (d_ofL (l_lc (i_tup (d_var 1)) (g_name 2) (by decide) dt_yes (d_call (d_cons (d_var 0) (d_cons (d_var 2) d_nil))))) d_nil)))))) (s_ret (d_bl false)) s_nx)
      (s_ret (d_op ro_ne (d_var 1) (d_tup (d_cons (d_str _) (d_cons (d_str _) d_nil))))))
theorem b_is_steps (T : TX K mg) : Binds K T.f_is_steps.fd ["code", "thing"] [] := T.f_is_steps.F.bindsN fun _ _ _ _ _ _ us hl => match us, hl with | [_, _], _ => rfl
set_option maxHeartbeats 4000000 in
theorem ok_is_steps (T : TX K mg) : FnOk WD.P WD.w K mg base (L2.CX WD.P WD.w) 3 T.f_is_steps.f T.f_is_steps.fd ["code", "thing"] (spF ⟨K, C⟩ 2 m_is_steps) := by
  refine fn_ok T.f_is_steps.F sc_is_steps (fun cdv A outer s H E hr tk po => ⟨_, (pss_one (ps_ret (pe_and (pe_callB (kIsi K) (by rfl) T.m_isinstance boot_isinstance (pa_cons (pv 1) (pa_cons (pe_bltn (v := .ty "tuple") (by rfl) T.m_tuple boot_tuple rfl) pa_nil))) (pe_one (pe_callB (kAll K (hc := rfl)) (by rfl) T.m_all bt_all (pa_cons (pe_lc (own := [("step", 2)]) rfl sc_is_steps.nd (kPiTup K (pv 1)) (blkOk_by (own := [("step", 2)]) (N := N_is_steps) (sc := defScope st_is_steps) (by decide +kernel)) (fun _ _ _ _ _ => (pg_name (i := 2) sc_is_steps.nd rfl (by first | exact Or.inl rfl | exact Or.inr rfl))) (fun _ _ _ _ _ => pts_nil) (fun _ _ _ _ _ => (pe_callS (ok_is_step (C := C) T) (hr.mono (by decide)) (by rfl) T.f_is_step.g T.f_is_step.F.kp (b_is_step T) (fun σ => passAt takes0 σ) (pa_cons (pv 0) (pa_cons (pv 2) pa_nil))))) pa_nil)))))), ?_⟩)
  exact (s_ret (d_and (d_isi (d_var 1)) (d_cb rc_all (d_cons (d_ofL (l_lc (i_tup (d_var 1)) (g_name 2) (by decide) dt_yes (d_call (d_cons (d_var 0) (d_cons (d_var 2) d_nil))))) d_nil))))
theorem b_is_text_of (T : TX K mg) : Binds K T.f_is_text_of.fd ["thing", "signs"] [] := T.f_is_text_of.F.bindsN fun _ _ _ _ _ _ us hl => match us, hl with | [_, _], _ => rfl
set_option maxHeartbeats 4000000 in
theorem ok_is_text_of (T : TX K mg) : FnOk WD.P WD.w K mg base (L2.CX WD.P WD.w) 1 T.f_is_text_of.f T.f_is_text_of.fd ["thing", "signs"] (spF ⟨K, C⟩ 2 m_is_text_of) := by
  refine fn_ok T.f_is_text_of.F sc_is_text_of (fun cdv A outer s H E hr tk po => ⟨_, (pss_one (ps_ret (pe_and (pe_callB (kIsi K) (by rfl) T.m_isinstance boot_isinstance (pa_cons (pv 0) (pa_cons (pe_bltn (v := .ty "str") (by rfl) T.m_str boot_str rfl) pa_nil))) (pe_one (pe_callB (kAll K (hc := rfl)) (by rfl) T.m_all bt_all (pa_cons (pe_lc (own := [("sign", 2)]) rfl sc_is_text_of.nd (pi_str (pv 0)) (blkOk_by (own := [("sign", 2)]) (N := N_is_text_of) (sc := defScope st_is_text_of) (by decide +kernel)) (fun _ _ _ _ _ => (pg_name (i := 2) sc_is_text_of.nd rfl (by first | exact Or.inl rfl | exact Or.inr rfl))) (fun _ _ _ _ _ => pts_nil) (fun _ _ _ _ _ => (pe_cmpR (kIn K (hu := u65 hr)) (pv 2) (pv 1) (by rfl)))) pa_nil)))))), ?_⟩)
  exact (s_ret (d_and (d_isi (d_var 0)) (d_cb rc_all (d_cons (d_ofL (l_lc (i_str (d_var 0)) (g_name 2) (by decide) dt_yes (d_op ro_in (d_var 2) (d_var 1)))) d_nil))))
theorem b_is_word (T : TX K mg) : Binds K T.f_is_word.fd ["code", "thing"] [] := T.f_is_word.F.bindsN fun _ _ _ _ _ _ us hl => match us, hl with | [_, _], _ => rfl
set_option maxHeartbeats 4000000 in
theorem ok_is_word (T : TX K mg) : FnOk WD.P WD.w K mg base (L2.CX WD.P WD.w) 2 T.f_is_word.f T.f_is_word.fd ["code", "thing"] (spF ⟨K, C⟩ 2 m_is_word) := by
  obtain ⟨t_MOST_WORD, c_MOST_WORD⟩ := T.c_MOST_WORD
  refine fn_ok T.f_is_word.F sc_is_word (fun cdv A outer s H E hr tk po => ⟨_, (pss_one (ps_ret (pe_and (pe_callS (ok_is_text_of (C := C) T) (hr.mono (by decide)) (by rfl) T.f_is_text_of.g T.f_is_text_of.F.kp (b_is_text_of T) (fun σ => passAt tk σ) (pa_cons (pv 1) (pa_cons (pe_ix (kIx K) (pv 0) pe_int (fun _ _ => rfl)) pa_nil))) (pe_one (pe_cmpR op_le (pe_callB (kLen K) (by rfl) T.m_len PySem.boot_len (pa_cons (pv 1) pa_nil)) (pe_glob (v := .int 8) (by rfl) c_MOST_WORD ⟨_, rfl⟩) (nomark _)))))), ?_⟩)
  exact (s_ret (d_and (d_call (d_cons (d_var 1) (d_cons (d_op ro_ix (d_var 0) (d_int 0)) d_nil))) (d_op ro_le (d_cb rc_len (d_cons (d_var 1) d_nil)) (d_int 8))))
theorem b_word_of (T : TX K mg) : Binds K T.f_word_of.fd ["telling"] [] := T.f_word_of.F.bindsN fun _ _ _ _ _ _ us hl => match us, hl with | [_], _ => rfl
set_option maxHeartbeats 4000000 in
theorem ok_word_of (T : TX K mg) : FnOk WD.P WD.w K mg base (L2.CX WD.P WD.w) 1 T.f_word_of.f T.f_word_of.fd ["telling"] (spF ⟨K, C⟩ 1 m_word_of) := by
  refine fn_ok T.f_word_of.F sc_word_of (fun cdv A outer s H E hr tk po => ⟨_, (pss_one (ps_ret (pe_m1 PySem.F.slot_str_join PySem.F.type_str_join (kJoin K) pe_str (pe_lc (own := [("step", 1)]) rfl sc_word_of.nd (kPiTup K (pv 0)) (blkOk_by (own := [("step", 1)]) (N := N_word_of) (sc := defScope st_word_of) (by decide +kernel)) (fun _ _ _ _ _ => (pg_name (i := 1) sc_word_of.nd rfl (by first | exact Or.inl rfl | exact Or.inr rfl))) (fun _ _ _ _ _ => pts_nil) (fun _ _ _ _ _ => (pe_ix (kIx K) (pv 1) pe_int (fun _ _ => rfl))))))), ?_⟩)
  exact (s_ret (d_m1 rm_join (d_str _) (d_ofL (l_lc (i_tup (d_var 0)) (g_name 1) (by decide) dt_yes (d_op ro_ix (d_var 1) (d_int 0))))))
theorem b_is_telling (T : TX K mg) : Binds K T.f_is_telling.fd ["code", "thing"] [] := T.f_is_telling.F.bindsN fun _ _ _ _ _ _ us hl => match us, hl with | [_, _], _ => rfl
set_option maxHeartbeats 4000000 in
theorem ok_is_telling (T : TX K mg) : FnOk WD.P WD.w K mg base (L2.CX WD.P WD.w) 4 T.f_is_telling.f T.f_is_telling.fd ["code", "thing"] (spF ⟨K, C⟩ 2 m_is_telling) := by
  refine fn_ok T.f_is_telling.F sc_is_telling (fun cdv A outer s H E hr tk po => ⟨_, (pss_one (ps_ret (pe_and (pe_callS (ok_is_steps (C := C) T) (hr.mono (by decide)) (by rfl) T.f_is_steps.g T.f_is_steps.F.kp (b_is_steps T) (fun σ => passAt tk σ) (pa_cons (pv 0) (pa_cons (pv 1) pa_nil))) (pe_one (pe_callS (ok_is_word (C := C) T) (hr.mono (by decide)) (by rfl) T.f_is_word.g T.f_is_word.F.kp (b_is_word T) (fun σ => passAt tk σ) (pa_cons (pv 0) (pa_cons (pe_callS (ok_word_of (C := C) T) (hr.mono (by decide)) (by rfl) T.f_word_of.g T.f_word_of.F.kp (b_word_of T) (fun σ => passAt tk σ) (pa_cons (pv 1) pa_nil)) pa_nil))))))), ?_⟩)
  exact (s_ret (d_and (d_call (d_cons (d_var 0) (d_cons (d_var 1) d_nil))) (d_call (d_cons (d_var 0) (d_cons (d_call (d_cons (d_var 1) d_nil)) d_nil)))))
theorem b_are_tellings (T : TX K mg) : Binds K T.f_are_tellings.fd ["code", "thing"] [] := T.f_are_tellings.F.bindsN fun _ _ _ _ _ _ us hl => match us, hl with | [_, _], _ => rfl
set_option maxHeartbeats 4000000 in
theorem ok_are_tellings (T : TX K mg) : FnOk WD.P WD.w K mg base (L2.CX WD.P WD.w) 5 T.f_are_tellings.f T.f_are_tellings.fd ["code", "thing"] (spF ⟨K, C⟩ 2 m_are_tellings) := by
  obtain ⟨t_MOST_SIGNS, c_MOST_SIGNS⟩ := T.c_MOST_SIGNS
  obtain ⟨t_MOST_TELLINGS, c_MOST_TELLINGS⟩ := T.c_MOST_TELLINGS
  refine fn_ok T.f_are_tellings.F sc_are_tellings (fun cdv A outer s H E hr tk po => ⟨_, (pss_cons (ps_if ((pw_or (pt_not (pt_val (pe_callB (kIsi K) (by rfl) T.m_isinstance boot_isinstance (pa_cons (pv 1) (pa_cons (pe_bltn (v := .ty "tuple") (by rfl) T.m_tuple boot_tuple rfl) pa_nil))))) (pw_or1 (pt_not (pt_chain op_le op_le pe_int (pe_callB (kLen K) (by rfl) T.m_len PySem.boot_len (pa_cons (pv 1) pa_nil)) (pe_glob (v := .int 6) (by rfl) c_MOST_TELLINGS ⟨_, rfl⟩)))))).pt (pss_one (ps_ret pe_bl)) pss_nil)
      (pss_one (ps_ret (pe_callB (kAll K (hc := rfl)) (by rfl) T.m_all bt_all (pa_cons (pe_lc (own := [("one", 2)]) rfl sc_are_tellings.nd (kPiTup K (pv 1)) (blkOk_by (own := [("one", 2)]) (N := N_are_tellings) (sc := defScope st_are_tellings) (by decide +kernel)) (fun _ _ _ _ _ => (pg_name (i := 2) sc_are_tellings.nd rfl (by first | exact Or.inl rfl | exact Or.inr rfl))) (fun _ _ _ _ _ => pts_nil) (fun _ _ _ _ _ => (pe_and (pe_callS (ok_is_telling (C := C) T) (hr.mono (by decide)) (by rfl) T.f_is_telling.g T.f_is_telling.F.kp (b_is_telling T) (fun σ => passAt takes0 σ) (pa_cons (pv 0) (pa_cons (pv 2) pa_nil))) (pe_one (pe_cmpR op_le (pe_callB (kLen K) (by rfl) T.m_len PySem.boot_len (pa_cons (pe_callS (ok_word_of (C := C) T) (hr.mono (by decide)) (by rfl) T.f_word_of.g T.f_word_of.F.kp (b_word_of T) (fun σ => passAt takes0 σ) (pa_cons (pv 2) pa_nil)) pa_nil)) (pe_glob (v := .int 6) (by rfl) c_MOST_SIGNS ⟨_, rfl⟩) (nomark _)))))) pa_nil))))), ?_⟩)
  exact (s_seq (s_if (dt_or (dt_not (dt_tB (d_isi (d_var 1)))) (dt_not (dt_test (d_chain ro_le ro_le (d_int 1) (d_cb rc_len (d_cons (d_var 1) d_nil)) (d_int 6))))) (s_ret (d_bl false)) s_nx)
      (s_ret (d_cb rc_all (d_cons (d_ofL (l_lc (i_tup (d_var 1)) (g_name 2) (by decide) dt_yes (d_and (d_call (d_cons (d_var 0) (d_cons (d_var 2) d_nil))) (d_op ro_le (d_cb rc_len (d_cons (d_call (d_cons (d_var 2) d_nil)) d_nil)) (d_int 6))))) d_nil))))
theorem b_is_book (T : TX K mg) : Binds K T.f_is_book.fd ["code", "thing"] [] := T.f_is_book.F.bindsN fun _ _ _ _ _ _ us hl => match us, hl with | [_, _], _ => rfl
set_option maxHeartbeats 4000000 in
theorem ok_is_book (T : TX K mg) : FnOk WD.P WD.w K mg base (L2.CX WD.P WD.w) 6 T.f_is_book.f T.f_is_book.fd ["code", "thing"] (spF ⟨K, C⟩ 2 m_is_book) := by
  refine fn_ok T.f_is_book.F sc_is_book (fun cdv A outer s H E hr tk po => ⟨_, (pss_one (ps_ret (pe_callS (ok_are_tellings (C := C) T) (hr.mono (by decide)) (by rfl) T.f_are_tellings.g T.f_are_tellings.F.kp (b_are_tellings T) (fun σ => passAt tk σ) (pa_cons (pv 0) (pa_cons (pv 1) pa_nil))))), ?_⟩)
  exact (s_ret (d_call (d_cons (d_var 0) (d_cons (d_var 1) d_nil))))
theorem b__law_is_book (T : TX K mg) : Binds K T.f__law_is_book.fd ["_law_code_here", "_law_thing"] [] := T.f__law_is_book.F.bindsN fun _ _ _ _ _ _ us hl => match us, hl with | [_, _], _ => rfl
set_option maxHeartbeats 4000000 in
theorem ok__law_is_book (T : TX K mg) : FnOk WD.P WD.w K mg base (L2.CX WD.P WD.w) 1 T.f__law_is_book.f T.f__law_is_book.fd ["_law_code_here", "_law_thing"] (spF ⟨K, C⟩ 2 m__law_is_book) := by
  refine fn_ok T.f__law_is_book.F sc__law_is_book (fun cdv A outer s H E hr tk po => ⟨_, (pss_cons (ps_if ((pw_or (pt_not (pt_val (pe_callB (kIsi K) (by rfl) T.m_isinstance boot_isinstance (pa_cons (pv 1) (pa_cons (pe_bltn (v := .ty "tuple") (by rfl) T.m_tuple boot_tuple rfl) pa_nil))))) (pw_or1 (pt_not (pt_chain op_le op_le pe_int (pe_callB (kLen K) (by rfl) T.m_len PySem.boot_len (pa_cons (pv 1) pa_nil)) pe_int))))).pt (pss_one (ps_ret pe_bl)) pss_nil)
      (pss_cons (ps_for po rfl (kPiTup K (pv 1)) (pg_name (i := 2) sc__law_is_book.nd rfl (Or.inl rfl)) (pss_cons (ps_if (pt_not (pt_val (pe_callB (kIsi K) (by rfl) T.m_isinstance boot_isinstance (pa_cons (pv 2) (pa_cons (pe_bltn (v := .ty "tuple") (by rfl) T.m_tuple boot_tuple rfl) pa_nil))))) (pss_one (ps_ret pe_bl)) pss_nil)
      (pss_cons (ps_set (i := 3) sc__law_is_book.nd rfl (Or.inl rfl) pe_str)
      (pss_cons (ps_for po rfl (kPiTup K (pv 2)) (pg_name (i := 4) sc__law_is_book.nd rfl (Or.inl rfl)) (pss_cons (ps_if ((pw_or (pt_not (pt_val (pe_callB (kIsi K) (by rfl) T.m_isinstance boot_isinstance (pa_cons (pv 4) (pa_cons (pe_bltn (v := .ty "tuple") (by rfl) T.m_tuple boot_tuple rfl) pa_nil))))) (pw_or (pt_cmpR (kNe K (hu := hr.units)) (pe_callB (kLen K) (by rfl) T.m_len PySem.boot_len (pa_cons (pv 4) pa_nil)) pe_int (nomark _)) (pw_or1 (pt_cmpR (kEq K (hu := hr.units)) (pv 4) (pe_tupN (pa_cons pe_str (pa_cons pe_str pa_nil))) (nomark _)))))).pt (pss_one (ps_ret pe_bl)) pss_nil)
      (pss_cons (ps_for po rfl (kPiTup K (pv 4)) (pg_name (i := 5) sc__law_is_book.nd rfl (Or.inl rfl)) (pss_one (ps_if ((pw_or (pt_not (pt_val (pe_callB (kIsi K) (by rfl) T.m_isinstance boot_isinstance (pa_cons (pv 5) (pa_cons (pe_bltn (v := .ty "str") (by rfl) T.m_str boot_str rfl) pa_nil))))) (pw_or1 (pt_cmpR (kNotIn K (hu := u65 hr)) (pv 5) (pe_op (kAdd K) (pe_lst (pa_cons pe_str pa_nil)) (pe_callTy (kListB K (hc := rfl)) (by rfl) T.m_list boot_list (pa_cons (pe_ix (kIx K) (pv 0) pe_int (fun _ _ => rfl)) pa_nil))) (by rfl))))).pt (pss_one (ps_ret pe_bl)) pss_nil)))
      (pss_one (ps_set (i := 3) sc__law_is_book.nd rfl (Or.inl rfl) (pe_op (kAdd K) (pv 3) (pe_ix (kIx K) (pv 4) pe_int (fun _ _ => rfl))))))))
      (pss_one (ps_if (pt_cmpR op_gt (pe_callB (kLen K) (by rfl) T.m_len PySem.boot_len (pa_cons (pv 3) pa_nil)) pe_int (nomark _)) (pss_one (ps_ret pe_bl)) pss_nil))))))
      (pss_one (ps_ret pe_bl)))), ?_⟩)
  exact (s_seq (s_if (dt_or (dt_not (dt_tB (d_isi (d_var 1)))) (dt_not (dt_test (d_chain ro_le ro_le (d_int 1) (d_cb rc_len (d_cons (d_var 1) d_nil)) (d_int 6))))) (s_ret (d_bl false)) s_nx)
      (s_seq (s_for (i_tup (d_var 1)) (g_name 2) (s_seq (s_if (dt_not (dt_tB (d_isi (d_var 2)))) (s_ret (d_bl false)) s_nx)
      (s_seq (s_asg (d_str _) (g_name 3))
      (s_seq (s_for (i_tup (d_var 2)) (g_name 4) (s_seq (s_if (dt_or (dt_not (dt_tB (d_isi (d_var 4)))) (dt_or (dt_test (d_op ro_ne (d_cb rc_len (d_cons (d_var 4) d_nil)) (d_int 2))) (dt_test (d_op ro_eq (d_var 4) (d_tup (d_cons (d_str _) (d_cons (d_str _) d_nil))))))) (s_ret (d_bl false)) s_nx)
      (s_seq (s_for (i_tup (d_var 4)) (g_name 5) (s_if (dt_or (dt_not (dt_tB (d_isi (d_var 5)))) (dt_test (d_op ro_notIn (d_var 5) (d_op ro_add (d_ofL (l_lst (d_cons (d_str _) d_nil))) (d_ofL (l_cb rcl_listA (d_cons (d_op ro_ix (d_var 0) (d_int 0)) d_nil))))))) (s_ret (d_bl false)) s_nx))
      (s_asg (d_op ro_add (d_var 3) (d_op ro_ix (d_var 4) (d_int 0))) (g_name 3)))))
      (s_if (dt_test (d_op ro_gt (d_cb rc_len (d_cons (d_var 3) d_nil)) (d_int 6))) (s_ret (d_bl false)) s_nx)))))
      (s_ret (d_bl true))))
theorem b_check_book (T : TX K mg) : Binds K T.f_check_book.fd ["code", "thing"] [] := T.f_check_book.F.bindsN fun _ _ _ _ _ _ us hl => match us, hl with | [_, _], _ => rfl
set_option maxHeartbeats 4000000 in
theorem ok_check_book (T : TX K mg) : FnOk WD.P WD.w K mg base (L2.CX WD.P WD.w) 6 T.f_check_book.f T.f_check_book.fd ["code", "thing"] (spF ⟨K, C⟩ 2 m_check_book) := by
  refine fn_ok T.f_check_book.F sc_check_book (fun cdv A outer s H E hr tk po => ⟨_, (pss_one (ps_if (pt_not (pt_val (pe_callS (ok_are_tellings (C := C) T) (hr.mono (by decide)) (by rfl) T.f_are_tellings.g T.f_are_tellings.F.kp (b_are_tellings T) (fun σ => passAt tk σ) (pa_cons (pv 0) (pa_cons (pv 1) pa_nil))))) (pss_one (k_raise K rfl tk T.x_NoBook (by rfl))) pss_nil)), ?_⟩)
  exact (s_if (dt_not (dt_tB (d_call (d_cons (d_var 0) (d_cons (d_var 1) d_nil))))) s_raise s_nx)
theorem b_needs (T : TX K mg) : Binds K T.f_needs.fd ["code", "book"] [] := T.f_needs.F.bindsN fun _ _ _ _ _ _ us hl => match us, hl with | [_, _], _ => rfl
set_option maxHeartbeats 4000000 in
theorem ok_needs (T : TX K mg) : FnOk WD.P WD.w K mg base (L2.CX WD.P WD.w) 7 T.f_needs.f T.f_needs.fd ["code", "book"] (spF ⟨K, C⟩ 2 m_needs) := by
  refine fn_ok T.f_needs.F sc_needs (fun cdv A outer s H E hr tk po => ⟨_, (pss_cons (ps_expr (pe_callS (ok_check_book (C := C) T) (hr.mono (by decide)) (by rfl) T.f_check_book.g T.f_check_book.F.kp (b_check_book T) (fun σ => passAt tk σ) (pa_cons (pv 0) (pa_cons (pv 1) pa_nil))))
      pss_never), ?_⟩)
  exact (s_seq (s_drop (d_call (d_cons (d_var 0) (d_cons (d_var 1) d_nil))))
      s_never)
theorem b_layered (T : TX K mg) : Binds K T.f_layered.fd ["code", "book"] [] := T.f_layered.F.bindsN fun _ _ _ _ _ _ us hl => match us, hl with | [_, _], _ => rfl
set_option maxHeartbeats 4000000 in
theorem ok_layered (T : TX K mg) : FnOk WD.P WD.w K mg base (L2.CX WD.P WD.w) 7 T.f_layered.f T.f_layered.fd ["code", "book"] (spF ⟨K, C⟩ 2 m_layered) := by
  refine fn_ok T.f_layered.F sc_layered (fun cdv A outer s H E hr tk po => ⟨_, (pss_cons (ps_expr (pe_callS (ok_check_book (C := C) T) (hr.mono (by decide)) (by rfl) T.f_check_book.g T.f_check_book.F.kp (b_check_book T) (fun σ => passAt tk σ) (pa_cons (pv 0) (pa_cons (pv 1) pa_nil))))
      pss_never), ?_⟩)
  exact (s_seq (s_drop (d_call (d_cons (d_var 0) (d_cons (d_var 1) d_nil))))
      s_never)
theorem b_telling_orders (T : TX K mg) : Binds K T.f_telling_orders.fd ["code", "book"] [] := T.f_telling_orders.F.bindsN fun _ _ _ _ _ _ us hl => match us, hl with | [_, _], _ => rfl
set_option maxHeartbeats 4000000 in
theorem ok_telling_orders (T : TX K mg) : FnOk WD.P WD.w K mg base (L2.CX WD.P WD.w) 8 T.f_telling_orders.f T.f_telling_orders.fd ["code", "book"] (spF ⟨K, C⟩ 2 m_telling_orders) := by
  refine fn_ok T.f_telling_orders.F sc_telling_orders (fun cdv A outer s H E hr tk po => ⟨_, (pss_cons (ps_set (i := 2) sc_telling_orders.nd rfl (Or.inr rfl) (pe_callS (ok_needs (C := C) T) (hr.mono (by decide)) (by rfl) T.f_needs.g T.f_needs.F.kp (b_needs T) (fun σ => passAt tk σ) (pa_cons (pv 0) (pa_cons (pv 1) pa_nil))))
      pss_never), ?_⟩)
  exact (s_seq (s_asg (d_call (d_cons (d_var 0) (d_cons (d_var 1) d_nil))) (g_name 2))
      s_never)
theorem b__law_seen (T : TX K mg) : Binds K T.f__law_seen.fd ["_law_ask", "_law_code_here", "_law_thing"] [] := T.f__law_seen.F.bindsN fun _ _ _ _ _ _ us hl => match us, hl with | [_, _, _], _ => rfl
set_option maxHeartbeats 4000000 in
theorem ok__law_seen (T : TX K mg) : FnOk WD.P WD.w K mg base (L2.CX WD.P WD.w) 9 T.f__law_seen.f T.f__law_seen.fd ["_law_ask", "_law_code_here", "_law_thing"] (spF ⟨K, C⟩ 3 m__law_seen) := by
  refine fn_ok T.f__law_seen.F sc__law_seen (fun cdv A outer s H E hr tk po => ⟨_, (pss_cons (ps_set (i := 3) sc__law_seen.nd rfl (Or.inl rfl) pe_str)
      (pss_cons (ps_try_TT (i := 4) rfl rfl rfl sc__law_seen.nd rfl rfl ⟨by rfl, by decide, Or.inl T.y_LadderError⟩ tk (fun W pn xe tk po => (pss_one (ps_if (pt_cmpR (kEq K (hu := hr.units)) (pv 0) pe_int (nomark _)) (pss_one (ps_expr (pe_callS (ok_needs (C := C) T) (hr.mono (by decide)) (by rfl) T.f_needs.g T.f_needs.F.kp (b_needs T) (fun σ => passAt tk σ) (pa_cons (pv 1) (pa_cons (pv 2) pa_nil))))) (pss_one (ps_if (pt_cmpR (kEq K (hu := hr.units)) (pv 0) pe_int (nomark _)) (pss_one (ps_expr (pe_callS (ok_layered (C := C) T) (hr.mono (by decide)) (by rfl) T.f_layered.g T.f_layered.F.kp (b_layered T) (fun σ => passAt tk σ) (pa_cons (pv 1) (pa_cons (pv 2) pa_nil))))) (pss_one (ps_expr (pe_callS (ok_telling_orders (C := C) T) (hr.mono (by decide)) (by rfl) T.f_telling_orders.g T.f_telling_orders.F.kp (b_telling_orders T) (fun σ => passAt tk σ) (pa_cons (pv 1) (pa_cons (pv 2) pa_nil)))))))))) (fun a pn => (pss_cons (ps_set (i := 5) sc__law_seen.nd rfl (Or.inl rfl) (pe_callB (kIsTT K) (by rfl) T.m_isinstance boot_isinstance (pa_cons (pv 4) (pa_cons (pe_tup (pa_cons (pe_glob (v := .ref (cA K "NoCall")) (by rfl) T.y_NoCall rfl) (pa_cons (pe_glob (v := .ref (cA K "NoForm")) (by rfl) T.y_NoForm rfl) (pa_cons (pe_glob (v := .ref (cA K "NoKept")) (by rfl) T.y_NoKept rfl) (pa_cons (pe_glob (v := .ref (cA K "NoNumber")) (by rfl) T.y_NoNumber rfl) (pa_cons (pe_glob (v := .ref (cA K "NoOrder")) (by rfl) T.y_NoOrder rfl) (pa_cons (pe_glob (v := .ref (cA K "NoTelling")) (by rfl) T.y_NoTelling rfl) (pa_cons (pe_glob (v := .ref (cA K "NoText")) (by rfl) T.y_NoText rfl) (pa_cons (pe_glob (v := .ref (cA K "NoWeights")) (by rfl) T.y_NoWeights rfl) (pa_cons (pe_glob (v := .ref (cA K "NoWord")) (by rfl) T.y_NoWord rfl) pa_nil)))))))))) pa_nil))))
      (pss_cons (ps_set (i := 3) sc__law_seen.nd rfl (Or.inl rfl) pe_str)
      (pss_cons (ps_if ((pw_and (pt_val (pe_callB (kIsT K) (by rfl) T.m_isinstance boot_isinstance (pa_cons (pv 4) (pa_cons (pe_glob (v := .ref (cA K "NoBook")) (by rfl) T.y_NoBook rfl) pa_nil)))) (pw_and (pt_val (pe_callB (kIsT K) (by rfl) T.m_isinstance boot_isinstance (pa_cons (pv 4) (pa_cons (pe_bltn (v := .ty "ValueError") (by rfl) T.m_ValueError (by rfl) rfl) pa_nil)))) (pw_and (pt_not (pt_val (pv 5))) (pw_and1 (pt_not (pt_val (pe_callB (kIsT K) (by rfl) T.m_isinstance boot_isinstance (pa_cons (pv 4) (pa_cons (pe_glob (v := .ref (cA K "TooMany")) (by rfl) T.y_TooMany rfl) pa_nil)))))))))).pt (pss_one (ps_set (i := 3) sc__law_seen.nd rfl (Or.inl rfl) pe_str)) pss_nil)
      (pss_one (ps_if ((pw_and (pt_val (pe_callB (kIsT K) (by rfl) T.m_isinstance boot_isinstance (pa_cons (pv 4) (pa_cons (pe_glob (v := .ref (cA K "TooMany")) (by rfl) T.y_TooMany rfl) pa_nil)))) (pw_and1 (pt_not (pt_val (pe_callB (kIsT K) (by rfl) T.m_isinstance boot_isinstance (pa_cons (pv 4) (pa_cons (pe_glob (v := .ref (cA K "NoBook")) (by rfl) T.y_NoBook rfl) pa_nil)))))))).pt (pss_one (ps_set (i := 3) sc__law_seen.nd rfl (Or.inl rfl) pe_str)) pss_nil)))))))
      (pss_one (ps_ret (pv 3))))), ?_⟩)
  exact (s_seq (s_asg (d_str _) (g_name 3))
      (s_seq (s_tryH (c := "LadderError") (T.x_ex "LadderError" (by decide)) (fun W => (s_if (dt_test (d_op ro_eq (d_var 0) (d_int 0))) (s_drop (d_call (d_cons (d_var 1) (d_cons (d_var 2) d_nil)))) (s_if (dt_test (d_op ro_eq (d_var 0) (d_int 1))) (s_drop (d_call (d_cons (d_var 1) (d_cons (d_var 2) d_nil)))) (s_drop (d_call (d_cons (d_var 1) (d_cons (d_var 2) d_nil))))))) (s_seq (s_asg (d_isXT (sb := sb) (by decide) (fun c hc => T.x_is c (all_in (cs := ["NoCall", "NoForm", "NoKept", "NoNumber", "NoOrder", "NoTelling", "NoText", "NoWeights", "NoWord"]) (by decide) c hc))) (g_name 5))
      (s_seq (s_asg (d_str _) (g_name 3))
      (s_seq (s_if (dt_and (dt_tB (d_isX (cv := .ref (cA K "NoBook")) (cu := .ref (cA K "NoBook")) (fun _ h => h) (T.x_is "NoBook" (by decide)))) (dt_and (dt_tB (d_isX (cv := .ty "ValueError") (cu := .type "ValueError") (fun _ h => h) T.x_isValueError)) (dt_and (dt_not (dt_tB (d_var 5))) (dt_not (dt_tB (d_isX (cv := .ref (cA K "TooMany")) (cu := .ref (cA K "TooMany")) (fun _ h => h) (T.x_is "TooMany" (by decide)))))))) (s_asg (d_str _) (g_name 3)) s_nx)
      (s_if (dt_and (dt_tB (d_isX (cv := .ref (cA K "TooMany")) (cu := .ref (cA K "TooMany")) (fun _ h => h) (T.x_is "TooMany" (by decide)))) (dt_not (dt_tB (d_isX (cv := .ref (cA K "NoBook")) (cu := .ref (cA K "NoBook")) (fun _ h => h) (T.x_is "NoBook" (by decide)))))) (s_asg (d_str _) (g_name 3)) s_nx)))))
      (s_ret (d_var 3))))
theorem b__law_right (T : TX K mg) : Binds K T.f__law_right.fd ["_law_code_here", "_law_thing", "_law_pack_here"] [] := T.f__law_right.F.bindsN fun _ _ _ _ _ _ us hl => match us, hl with | [_, _, _], _ => rfl
set_option maxHeartbeats 4000000 in
theorem ok__law_right (T : TX K mg) : FnOk WD.P WD.w K mg base (L2.CX WD.P WD.w) 10 T.f__law_right.f T.f__law_right.fd ["_law_code_here", "_law_thing", "_law_pack_here"] (spF ⟨K, C⟩ 3 m__law_right) := by
  refine fn_ok T.f__law_right.F sc__law_right (fun cdv A outer s H E hr tk po => ⟨_, (pss_cons (ps_set (i := 3) sc__law_right.nd rfl (Or.inl rfl) (pe_callS (ok_is_book (C := C) T) (hr.mono (by decide)) (by rfl) T.f_is_book.g T.f_is_book.F.kp (b_is_book T) (fun σ => passAt tk σ) (pa_cons (pv 0) (pa_cons (pv 1) pa_nil))))
      (pss_cons (ps_if ((pw_or (pt_not (pt_val (pe_callB (kIsi K) (by rfl) T.m_isinstance boot_isinstance (pa_cons (pv 3) (pa_cons (pe_bltn (v := .ty "bool") (by rfl) T.m_bool boot_bool rfl) pa_nil))))) (pw_or1 (pt_cmpR (kNe K (hu := hr.units)) (pv 3) (pe_callS (ok__law_is_book (C := C) T) (hr.mono (by decide)) (by rfl) T.f__law_is_book.g T.f__law_is_book.F.kp (b__law_is_book T) (fun σ => passAt tk σ) (pa_cons (pv 0) (pa_cons (pv 1) pa_nil))) (nomark _))))).pt (pss_one (ps_ret pe_bl)) pss_nil)
      (pss_one (ps_ret (pe_or (pv 3) (pe_one (pe_cmpR (kEq K (hu := hr.units)) (pe_callS (ok__law_seen (C := C) T) (hr.mono (by decide)) (by rfl) T.f__law_seen.g T.f__law_seen.F.kp (b__law_seen T) (fun σ => passAt tk σ) (pa_cons (pe_callS (ok__law_take (C := C) T) (hr.mono (by decide)) (by rfl) T.f__law_take.g T.f__law_take.F.kp (b__law_take T) (fun σ => passAt tk σ) (pa_cons (pv 2) (pa_cons pe_int pa_nil))) (pa_cons (pv 0) (pa_cons (pv 1) pa_nil)))) pe_str (nomark _)))))))), ?_⟩)
  exact (s_seq (s_asg (d_call (d_cons (d_var 0) (d_cons (d_var 1) d_nil))) (g_name 3))
      (s_seq (s_if (dt_or (dt_not (dt_tB (d_isi (d_var 3)))) (dt_test (d_op ro_ne (d_var 3) (d_call (d_cons (d_var 0) (d_cons (d_var 1) d_nil)))))) (s_ret (d_bl false)) s_nx)
      (s_ret (d_or (d_var 3) (d_op ro_eq (d_call (d_cons (d_callP (d_cons (d_int 3) d_nil)) (d_cons (d_var 0) (d_cons (d_var 1) d_nil)))) (d_str _))))))
theorem b__law_word (T : TX K mg) : Binds K T.f__law_word.fd ["_law_pack_here", "_law_signs", "_law_most"] [] := T.f__law_word.F.bindsN fun _ _ _ _ _ _ us hl => match us, hl with | [_, _, _], _ => rfl
set_option maxHeartbeats 4000000 in
theorem ok__law_word (T : TX K mg) : FnOk WD.P WD.w K mg base (L2.CX WD.P WD.w) 2 T.f__law_word.f T.f__law_word.fd ["_law_pack_here", "_law_signs", "_law_most"] (spF ⟨K, C⟩ 3 m__law_word) := by
  refine fn_ok T.f__law_word.F sc__law_word (fun cdv A outer s H E hr tk po => ⟨_, (pss_one (ps_ret (pe_m1 PySem.F.slot_str_join PySem.F.type_str_join (kJoin K) pe_str (pe_lc (own := [("_law_k", 3)]) rfl sc__law_word.nd (pi_range1 (by rfl) T.m_range (pa_cons (pe_callS (ok__law_take (C := C) T) (hr.mono (by decide)) (by rfl) T.f__law_take.g T.f__law_take.F.kp (b__law_take T) (fun σ => passAt tk σ) (pa_cons (pv 0) (pa_cons (pe_op (kAdd K) (pv 2) pe_int) pa_nil))) pa_nil)) (blkOk_by (own := [("_law_k", 3)]) (N := N__law_word) (sc := defScope st__law_word) (by decide +kernel)) (fun _ _ _ _ _ => (pg_name (i := 3) sc__law_word.nd rfl (by first | exact Or.inl rfl | exact Or.inr rfl))) (fun _ _ _ _ _ => pts_nil) (fun _ _ _ _ _ => (pe_ix (kIx K) (pv 1) (pe_callS (ok__law_take (C := C) T) (hr.mono (by decide)) (by rfl) T.f__law_take.g T.f__law_take.F.kp (b__law_take T) (fun σ => passAt takes0 σ) (pa_cons (pv 0) (pa_cons (pe_callB (kLen K) (by rfl) T.m_len PySem.boot_len (pa_cons (pv 1) pa_nil)) pa_nil))) (fun _ _ => rfl))))))), ?_⟩)
  exact (s_ret (d_m1 rm_join (d_str _) (d_ofL (l_lc (i_rng1 (d_cons (d_callP (d_cons (d_op ro_add (d_var 2) (d_int 1)) d_nil)) d_nil)) (g_name 3) (by decide) dt_yes (d_op ro_ix (d_var 1) (d_callP (d_cons (d_cb rc_len (d_cons (d_var 1) d_nil)) d_nil)))))))
theorem b_law (T : TX K mg) : Binds K T.f_law.fd ["_law_script"] [] := T.f_law.F.bindsN fun _ _ _ _ _ _ us hl => match us, hl with | [_], _ => rfl
set_option maxHeartbeats 4000000 in
theorem ok_law (T : TX K mg) : FnOk WD.P WD.w K mg base (L2.CX WD.P WD.w) 11 T.f_law.f T.f_law.fd ["_law_script"] (spF ⟨K, C⟩ 1 m_law) := by
  refine fn_ok T.f_law.F sc_law (fun cdv A outer s H E hr tk po => ⟨_, (pss_cons (ps_set (i := 1) sc_law.nd rfl (Or.inr rfl) (pe_callS (ok__law_code (C := C) T) (hr.mono (by decide)) (by rfl) T.f__law_code.g T.f__law_code.F.kp (b__law_code T) (fun σ => passAt tk σ) (pa_cons (pe_callS (ok__law_pack (C := C) T) (hr.mono (by decide)) (by rfl) T.f__law_pack.g T.f__law_pack.F.kp (b__law_pack T) (fun σ => passAt tk σ) (pa_cons (pv 0) (pa_cons pe_int pa_nil))) (pa_cons pe_int pa_nil))))
      (pss_cons (ps_for po rfl (pi_range2 (by rfl) T.m_range (pa_cons pe_int (pa_cons (pe_callB (call_max2 rfl) (by rfl) T.m_max bt_max (pa_cons pe_int (pa_cons (pe_callB (call_min2 rfl) (by rfl) T.m_min bt_min (pa_cons (pe_callB (kLen K) (by rfl) T.m_len PySem.boot_len (pa_cons (pv 0) pa_nil)) (pa_cons pe_int pa_nil))) pa_nil))) pa_nil))) (pg_name (i := 2) sc_law.nd rfl (Or.inl rfl)) (pss_cons (ps_set (i := 3) sc_law.nd rfl (Or.inr rfl) (pe_callS (ok__law_pack (C := C) T) (hr.mono (by decide)) (by rfl) T.f__law_pack.g T.f__law_pack.F.kp (b__law_pack T) (fun σ => passAt tk σ) (pa_cons (pv 0) (pa_cons (pv 2) pa_nil))))
      (pss_cons (ps_set (i := 4) sc_law.nd rfl (Or.inr rfl) (pe_tupN pa_nil))
      (pss_cons (ps_for po rfl (pi_range1 (by rfl) T.m_range (pa_cons (pe_op (kAdd K) pe_int (pe_callS (ok__law_take (C := C) T) (hr.mono (by decide)) (by rfl) T.f__law_take.g T.f__law_take.F.kp (b__law_take T) (fun σ => passAt tk σ) (pa_cons (pv 3) (pa_cons pe_int pa_nil)))) pa_nil)) (pg_name (i := 5) sc_law.nd rfl (Or.inl rfl)) (pss_cons (ps_set (i := 6) sc_law.nd rfl (Or.inl rfl) (pe_callS (ok__law_pack (C := C) T) (hr.mono (by decide)) (by rfl) T.f__law_pack.g T.f__law_pack.F.kp (b__law_pack T) (fun σ => passAt tk σ) (pa_cons (pv 0) (pa_cons (pe_op (kAdd K) (pe_op (kAdd K) pe_int (pe_op (kMulC K) pe_int (pv 2))) (pv 5)) pa_nil))))
      (pss_one (ps_set (i := 4) sc_law.nd rfl (Or.inr rfl) (pe_op (kAdd K) (pv 4) (pe_tupN (pa_cons (pe_callS (ok__law_telling (C := C) T) (hr.mono (by decide)) (by rfl) T.f__law_telling.g T.f__law_telling.F.kp (b__law_telling T) (fun σ => passAt tk σ) (pa_cons (pv 6) (pa_cons (pe_ix (kIx K) (pv 1) pe_int (fun _ _ => rfl)) (pa_cons (pe_callS (ok__law_word (C := C) T) (hr.mono (by decide)) (by rfl) T.f__law_word.g T.f__law_word.F.kp (b__law_word T) (fun σ => passAt tk σ) (pa_cons (pv 6) (pa_cons (pe_ix (kIx K) (pv 1) pe_int (fun _ _ => rfl)) (pa_cons pe_int pa_nil)))) pa_nil)))) pa_nil)))))))
      (pss_cons (ps_set (i := 7) sc_law.nd rfl (Or.inl rfl) (pe_lst (pa_cons (pv 4) (pa_cons (pe_callTy (kListB K (hc := rfl)) (by rfl) T.m_list boot_list (pa_cons (pv 4) pa_nil)) (pa_cons (pe_op (kMulT K) (pv 4) pe_int) (pa_cons (pe_ix (kIx K) (pv 4) pe_int (fun _ _ => rfl)) (pa_cons (pe_tupN pa_nil) (pa_cons pe_non (pa_cons pe_str (pa_cons (pe_lockD pe_dnewK) (pa_cons (pe_tupN (pa_cons (pv 4) pa_nil)) (pa_cons (pe_op (kAdd K) (pe_slice (kSl K) (pv 4) po_none (po_some pe_int)) (pe_tupN (pa_cons (pe_tupN (pa_cons (pe_tupN (pa_cons pe_str (pa_cons pe_str pa_nil))) pa_nil)) pa_nil))) pa_nil))))))))))))
      (pss_cons (ps_expr (pe_bm PySem.F.plainAttrs_list PySem.F.slot_list_append PySem.F.type_list_append mt_append (pv 7) (pa_cons (pe_tupN (pa_cons (pe_op (kMulT K) (pe_tupN (pa_cons (pe_tupN (pa_cons pe_str (pa_cons (pe_ix (kIx K) (pe_ix (kIx K) (pv 1) pe_int (fun _ _ => rfl)) pe_int (fun _ _ => rfl)) pa_nil))) pa_nil)) pe_int) pa_nil)) pa_nil)))
      (pss_cons (ps_set (i := 8) sc_law.nd rfl (Or.inl rfl) (pe_slice (kSl K) (pe_ix (kIx K) (pv 1) pe_int (fun _ _ => rfl)) po_none (po_some pe_int)))
      (pss_cons (ps_expr (pe_bm PySem.F.plainAttrs_list PySem.F.slot_list_extend PySem.F.type_list_extend mt_extend (pv 7) (pa_cons (pe_lst (pa_cons (pe_tupN (pa_cons (pe_tupN (pa_cons (pe_tupN (pa_cons pe_str (pa_cons (pv 8) pa_nil))) pa_nil)) pa_nil)) (pa_cons (pe_tupN (pa_cons (pe_tupN (pa_cons (pe_tupN (pa_cons (pv 8) (pa_cons (pe_ix (kIx K) (pe_ix (kIx K) (pv 1) pe_int (fun _ _ => rfl)) pe_int (fun _ _ => rfl)) pa_nil))) pa_nil)) pa_nil)) (pa_cons (pe_tupN (pa_cons (pe_tupN (pa_cons (pe_tupN (pa_cons (pe_ix (kIx K) (pe_ix (kIx K) (pv 1) pe_int (fun _ _ => rfl)) pe_int (fun _ _ => rfl)) (pa_cons (pv 8) pa_nil))) pa_nil)) pa_nil)) (pa_cons (pe_tupN (pa_cons (pe_tupN (pa_cons (pe_tupN (pa_cons (pv 8) (pa_cons (pv 8) pa_nil))) pa_nil)) pa_nil)) pa_nil))))) pa_nil)))
      (pss_cons (ps_expr (pe_bm PySem.F.plainAttrs_list PySem.F.slot_list_append PySem.F.type_list_append mt_append (pv 7) (pa_cons (pe_tupN (pa_cons (pe_callTy (kTupleB K (hc := rfl)) (by rfl) T.m_tuple boot_tuple (pa_cons (pe_lc (own := [("_law_sign", 10)]) rfl sc_law.nd (pi_str (pe_op (kMulC K) (pe_ix (kIx K) (pe_ix (kIx K) (pv 1) pe_int (fun _ _ => rfl)) pe_int (fun _ _ => rfl)) pe_int)) (blkOk_by (own := [("_law_sign", 10)]) (N := N_law) (sc := defScope st_law) (by decide +kernel)) (fun _ _ _ _ _ => (pg_name (i := 10) sc_law.nd rfl (by first | exact Or.inl rfl | exact Or.inr rfl))) (fun _ _ _ _ _ => pts_nil) (fun _ _ _ _ _ => (pe_tupN (pa_cons (pv 10) (pa_cons (pv 10) pa_nil))))) pa_nil)) pa_nil)) pa_nil)))
      (pss_cons (ps_expr (pe_bm PySem.F.plainAttrs_list PySem.F.slot_list_extend PySem.F.type_list_extend mt_extend (pv 7) (pa_cons (pe_lc (own := [("_law_turn", 5)]) rfl sc_law.nd (pi_range1 (by rfl) T.m_range (pa_cons pe_int pa_nil)) (blkOk_by (own := [("_law_turn", 5)]) (N := N_law) (sc := defScope st_law) (by decide +kernel)) (fun _ _ _ _ _ => (pg_name (i := 5) sc_law.nd rfl (by first | exact Or.inl rfl | exact Or.inr rfl))) (fun _ _ _ _ _ => pts_nil) (fun _ _ _ _ _ => (pe_callS (ok__law_bent (C := C) T 5) (hr.mono (by decide)) (by rfl) T.f__law_bent.g T.f__law_bent.F.kp (b__law_bent T) (fun σ => passAt takes0 σ) (pa_cons (pv 3) (pa_cons (pv 4) (pa_cons pe_int pa_nil)))))) pa_nil)))
      (pss_one (ps_if (pt_not (pt_val (pe_callB (kAll K (hc := rfl)) (by rfl) T.m_all bt_all (pa_cons (pe_lc (own := [("_law_thing", 9)]) rfl sc_law.nd (kPiList K (pv 7)) (blkOk_by (own := [("_law_thing", 9)]) (N := N_law) (sc := defScope st_law) (by decide +kernel)) (fun _ _ _ _ _ => (pg_name (i := 9) sc_law.nd rfl (by first | exact Or.inl rfl | exact Or.inr rfl))) (fun _ _ _ _ _ => pts_nil) (fun _ _ _ _ _ => (pe_callS (ok__law_right (C := C) T) (hr.mono (by decide)) (by rfl) T.f__law_right.g T.f__law_right.F.kp (b__law_right T) (fun σ => passAt takes0 σ) (pa_cons (pv 1) (pa_cons (pv 9) (pa_cons (pv 3) pa_nil)))))) pa_nil)))) (pss_one (ps_ret pe_bl)) pss_nil))))))))))))
      (pss_one (ps_ret pe_bl)))), ?_⟩)
  exact (s_seq (s_asg (d_callT (l_call (d_cons (d_var 0) (d_cons (d_int 0) d_nil))) (d_cons (d_int 4) d_nil)) (g_name 1))
      (s_seq (s_for (i_rng2 (d_cons (d_int 1) (d_cons (d_cb rc_max (d_cons (d_int 2) (d_cons (d_cb rc_min (d_cons (d_cb rc_len (d_cons (d_var 0) d_nil)) (d_cons (d_int 4) d_nil))) d_nil))) d_nil))) (g_name 2) (s_seq (s_setO (l_call (d_cons (d_var 0) (d_cons (d_var 2) d_nil))))
      (s_seq (s_asg (d_tup d_nil) (g_name 4))
      (s_seq (s_for (i_rng1 (d_cons (d_op ro_add (d_int 1) (d_callP (d_cons (d_int 6) d_nil))) d_nil)) (g_name 5) (s_seq (s_setO (l_call (d_cons (d_var 0) (d_cons (d_op ro_add (d_op ro_add (d_int 4) (d_op ro_mulC (d_int 6) (d_var 2))) (d_var 5)) d_nil))))
      (s_asg (d_op ro_add (d_var 4) (d_tup (d_cons (d_callP (d_cons (d_op ro_ix (d_var 1) (d_int 0)) (d_cons (d_callP (d_cons (d_op ro_ix (d_var 1) (d_int 0)) (d_cons (d_int 6) d_nil))) d_nil))) d_nil))) (g_name 4))))
      (s_seq (s_setO (l_lst (d_cons (d_var 4) (d_cons (d_ofL (l_cb rcl_listA (d_cons (d_var 4) d_nil))) (d_cons (d_op ro_mulT (d_var 4) (d_int 7)) (d_cons (d_op ro_ix (d_var 4) (d_int 0)) (d_cons (d_tup d_nil) (d_cons d_non (d_cons (d_str _) (d_cons d_dict0 (d_cons (d_tup (d_cons (d_var 4) d_nil)) (d_cons (d_op ro_add (d_sl rs_sl (d_var 4) do_none (do_some (d_int 1))) (d_tup (d_cons (d_tup (d_cons (d_tup (d_cons (d_str _) (d_cons (d_str _) d_nil))) d_nil)) d_nil))) d_nil))))))))))))
      (s_seq (s_app (d_tup (d_cons (d_op ro_mulT (d_tup (d_cons (d_tup (d_cons (d_str _) (d_cons (d_op ro_ix (d_op ro_ix (d_var 1) (d_int 0)) (d_int 0)) d_nil))) d_nil)) (d_int 20)) d_nil)))
      (s_seq (s_asg (d_sl rs_sl (d_op ro_ix (d_var 1) (d_int 0)) do_none (do_some (d_int 2))) (g_name 8))
      (s_seq (s_ext (l_lst (d_cons (d_tup (d_cons (d_tup (d_cons (d_tup (d_cons (d_str _) (d_cons (d_var 8) d_nil))) d_nil)) d_nil)) (d_cons (d_tup (d_cons (d_tup (d_cons (d_tup (d_cons (d_var 8) (d_cons (d_op ro_ix (d_op ro_ix (d_var 1) (d_int 0)) (d_int 0)) d_nil))) d_nil)) d_nil)) (d_cons (d_tup (d_cons (d_tup (d_cons (d_tup (d_cons (d_op ro_ix (d_op ro_ix (d_var 1) (d_int 0)) (d_int 0)) (d_cons (d_var 8) d_nil))) d_nil)) d_nil)) (d_cons (d_tup (d_cons (d_tup (d_cons (d_tup (d_cons (d_var 8) (d_cons (d_var 8) d_nil))) d_nil)) d_nil)) d_nil))))))
      (s_seq (s_app (d_tup (d_cons (d_cb rc_tupleA (d_cons (d_ofL (l_lc (i_str (d_op ro_mulC (d_op ro_ix (d_op ro_ix (d_var 1) (d_int 0)) (d_int 0)) (d_int 7))) (g_name 10) (by decide) dt_yes (d_tup (d_cons (d_var 10) (d_cons (d_var 10) d_nil))))) d_nil)) d_nil)))
      (s_seq (s_ext (l_lc (i_rng1 (d_cons (d_int 5) d_nil)) (g_name 5) (by decide) dt_yes (d_callP (d_cons (d_var 4) (d_cons (d_int 4) d_nil)))))
      (s_frz 7 (s_if (dt_not (dt_tB (d_cb rc_all (d_cons (d_ofL (l_lc (i_list (d_var 7)) (g_name 9) (by decide) dt_yes (d_callQ (d_cons (d_var 1) (d_cons (d_var 9) (d_cons (d_own 3) d_nil)))))) d_nil)))) (s_ret (d_bl false)) s_nx))))))))))))
      (s_ret (d_bl true))))
end
/-! ### the head -/
def d__law_take : He.DefD := ⟨("_law_take", none), "_law_take", "_law_take", defArgs st__law_take, defBody st__law_take, defScope st__law_take, [], []⟩
def d__law_names : He.DefD := ⟨("_law_names", none), "_law_names", "_law_names", defArgs st__law_names, defBody st__law_names, defScope st__law_names, [], []⟩
def d__law_set : He.DefD := ⟨("_law_set", none), "_law_set", "_law_set", defArgs st__law_set, defBody st__law_set, defScope st__law_set, [], []⟩
def d__law_pattern : He.DefD := ⟨("_law_pattern", none), "_law_pattern", "_law_pattern", defArgs st__law_pattern, defBody st__law_pattern, defScope st__law_pattern, [], []⟩
def d__law_code : He.DefD := ⟨("_law_code", none), "_law_code", "_law_code", defArgs st__law_code, defBody st__law_code, defScope st__law_code, [], []⟩
def d__law_mixed : He.DefD := ⟨("_law_mixed", none), "_law_mixed", "_law_mixed", defArgs st__law_mixed, defBody st__law_mixed, defScope st__law_mixed, [], []⟩
def d__law_pack : He.DefD := ⟨("_law_pack", none), "_law_pack", "_law_pack", defArgs st__law_pack, defBody st__law_pack, defScope st__law_pack, [], []⟩
def d__law_leaf : He.DefD := ⟨("_law_leaf", none), "_law_leaf", "_law_leaf", defArgs st__law_leaf, defBody st__law_leaf, defScope st__law_leaf, [], []⟩
def d__law_bent : He.DefD := ⟨("_law_bent", none), "_law_bent", "_law_bent", defArgs st__law_bent, defBody st__law_bent, defScope st__law_bent, [], []⟩
def d__law_telling : He.DefD := ⟨("_law_telling", none), "_law_telling", "_law_telling", defArgs st__law_telling, defBody st__law_telling, defScope st__law_telling, [], []⟩
def d_is_part : He.DefD := ⟨("is_part", none), "is_part", "is_part", defArgs st_is_part, defBody st_is_part, defScope st_is_part, [], []⟩
def d_is_step : He.DefD := ⟨("is_step", none), "is_step", "is_step", defArgs st_is_step, defBody st_is_step, defScope st_is_step, [], []⟩
def d_is_steps : He.DefD := ⟨("is_steps", none), "is_steps", "is_steps", defArgs st_is_steps, defBody st_is_steps, defScope st_is_steps, [], []⟩
def d_is_text_of : He.DefD := ⟨("is_text_of", none), "is_text_of", "is_text_of", defArgs st_is_text_of, defBody st_is_text_of, defScope st_is_text_of, [], []⟩
def d_is_word : He.DefD := ⟨("is_word", none), "is_word", "is_word", defArgs st_is_word, defBody st_is_word, defScope st_is_word, [], []⟩
def d_word_of : He.DefD := ⟨("word_of", none), "word_of", "word_of", defArgs st_word_of, defBody st_word_of, defScope st_word_of, [], []⟩
def d_is_telling : He.DefD := ⟨("is_telling", none), "is_telling", "is_telling", defArgs st_is_telling, defBody st_is_telling, defScope st_is_telling, [], []⟩
def d_are_tellings : He.DefD := ⟨("are_tellings", none), "are_tellings", "are_tellings", defArgs st_are_tellings, defBody st_are_tellings, defScope st_are_tellings, [], []⟩
def d_is_book : He.DefD := ⟨("is_book", none), "is_book", "is_book", defArgs st_is_book, defBody st_is_book, defScope st_is_book, [], []⟩
def d__law_is_book : He.DefD := ⟨("_law_is_book", none), "_law_is_book", "_law_is_book", defArgs st__law_is_book, defBody st__law_is_book, defScope st__law_is_book, [], []⟩
def d_check_book : He.DefD := ⟨("check_book", none), "check_book", "check_book", defArgs st_check_book, defBody st_check_book, defScope st_check_book, [], []⟩
def d_needs : He.DefD := ⟨("needs", none), "needs", "needs", defArgs st_needs, defBody st_needs, defScope st_needs, [], []⟩
def d_layered : He.DefD := ⟨("layered", none), "layered", "layered", defArgs st_layered, defBody st_layered, defScope st_layered, [], []⟩
def d_telling_orders : He.DefD := ⟨("telling_orders", none), "telling_orders", "telling_orders", defArgs st_telling_orders, defBody st_telling_orders, defScope st_telling_orders, [], []⟩
def d__law_seen : He.DefD := ⟨("_law_seen", none), "_law_seen", "_law_seen", defArgs st__law_seen, defBody st__law_seen, defScope st__law_seen, [], []⟩
def d__law_right : He.DefD := ⟨("_law_right", none), "_law_right", "_law_right", defArgs st__law_right, defBody st__law_right, defScope st__law_right, [], []⟩
def d__law_word : He.DefD := ⟨("_law_word", none), "_law_word", "_law_word", defArgs st__law_word, defBody st__law_word, defScope st__law_word, [], []⟩
def d_law : He.DefD := ⟨("law", none), "law", "law", defArgs st_law, defBody st_law, defScope st_law, [], []⟩
def fn : List He.DefD := [d__law_take, d__law_names, d__law_set, d__law_pattern, d__law_code, d__law_mixed, d__law_pack, d__law_leaf, d__law_bent, d__law_telling, d_is_part, d_is_step, d_is_steps, d_is_text_of, d_is_word, d_word_of, d_is_telling, d_are_tellings, d_is_book, d__law_is_book, d_check_book, d_needs, d_layered, d_telling_orders, d__law_seen, d__law_right, d__law_word, d_law]
def exB (K : PySem.W.Frag) : Bool := okIs K raisedC testedC upC && (okEx K raisedC caughtC upC && (okIsB K raisedC "ValueError" (.type "ValueError") upC))
def fa : List He.Fa := [.glo "_law_take", .glo "_law_names", .glo "_law_set", .glo "_law_pattern", .glo "_law_code", .glo "_law_mixed", .glo "_law_pack", .glo "_law_leaf", .glo "_law_bent", .glo "_law_telling", .glo "is_part", .glo "is_step", .glo "is_steps", .glo "is_text_of", .glo "is_word", .glo "word_of", .glo "is_telling", .glo "are_tellings", .glo "is_book", .glo "_law_is_book", .glo "check_book", .glo "needs", .glo "layered", .glo "telling_orders", .glo "_law_seen", .glo "_law_right", .glo "_law_word", .glo "law", .free "ValueError", .free "all", .free "bool", .free "divmod", .free "isinstance", .free "len", .free "list", .free "max", .free "min", .free "range", .free "str", .free "tuple", .glo "LadderError", .glo "NoBook", .glo "NoCall", .glo "NoForm", .glo "NoKept", .glo "NoNumber", .glo "NoOrder", .glo "NoTelling", .glo "NoText", .glo "NoWeights", .glo "NoWord", .glo "TooMany", .int "MOST_SIGNS" 6, .int "MOST_TELLINGS" 6, .int "MOST_WORD" 8, .glo "NoBook", .exc "NoBook"]
end Lw
namespace Lw
open PySem PySem.Spec L2 Evl Dt
open TL (tl joinL tl_join tl_ofString join_eq tl_append len_tl)
/-! ### the family of laws that take out of a pack; the pack's number keeps below 10 ** 60 -/
abbrev NB : Type := { n : Int // 0 ≤ n ∧ n < 1000000000000000000000000000000000000000000000000000000000000 }
instance : Coe NB Int := ⟨Subtype.val⟩
abbrev S (s : String) : Str := Str.ofString s
/-- a name that no law draws -/
def zzL : List Nat := [122, 122, 122, 122, 122, 122, 122, 121]
theorem pow_add {a b : Int} {N : Nat} (ha : a.natAbs < 2 ^ N) (hb : b.natAbs < 4096) (hN : 12 ≤ N) : (a + b).natAbs < 2 ^ (N + 1) := by
  have h := Nat.pow_le_pow_right (n := 2) (by omega) hN
  rw [Nat.pow_succ]
  generalize 2 ^ N = P at *
  have h12 : 2 ^ 12 = 4096 := rfl
  omega
theorem bits_add {a b : Int} {N : Nat} (ha : Dt.bits a ≤ N) (hb : b.natAbs < 4096) (hN : 12 ≤ N) : Dt.bits (a + b) ≤ N + 1 :=
  bits_le (pow_add (Nat.lt_of_lt_of_le (PyProof.Rows.natAbs_lt_pow_bits a) (Nat.pow_le_pow_right (by omega) ha)) hb hN)
theorem m_mixed (c : Int) (hc : Dt.bits c ≤ 1048577) : m__law_mixed [.d (.int c)] = .ok (.d (.int (c * 405465108108164381978013115464349136571990423462494197614017 % 1000000000000000000000000000000000000000000000000000000000000))) [.d (.int c)] := by
  have hb : Dt.bits 405465108108164381978013115464349136571990423462494197614017 ≤ 200 := bits_le (by decide +kernel)
  have hm : mulOk c 405465108108164381978013115464349136571990423462494197614017 = true := by
    simp only [mulOk, Bool.or_eq_true, decide_eq_true_eq]
    exact .inr (by omega)
  have e1 : ((10 : Int) ^ (60 : Int).toNat) = 1000000000000000000000000000000000000000000000000000000000000 := by decide +kernel
  have e2 : (0 : Int) < 1000000000000000000000000000000000000000000000000000000000000 := by decide +kernel
  simp [m__law_mixed, gOf, w__law_mixed, hm]
theorem atI_nat {α : Type} {xs : List α} {k : Nat} (h : k < xs.length) : atI xs (k : Int) = some xs[k] := by
  unfold atI ixN
  rw [if_pos (by omega), if_pos (by omega)]
  show xs[(k : Int).toNat]? = _
  simp [h]
theorem m_pack (ns : List Int) (hb : ∀ z ∈ ns, Dt.bits z ≤ 1048576) (k : Nat) (hk : k < 64) : ∃ n : NB, m__law_pack [.d (.list (ns.map PyData.int)), .d (.int k)] = .ok (.l [.int n]) [.d (.list (ns.map PyData.int)), .d (.int k)] := by
  have m1 : mulOk 41 (k : Int) = true := by
    have : Dt.bits (41 : Int) ≤ 64 := bits_le (by decide)
    simp [mulOk, this]
  have m2 : mulOk 6131 (k : Int) = true := by
    have : Dt.bits (6131 : Int) ≤ 64 := bits_le (by decide)
    simp [mulOk, this]
  by_cases h : k < ns.length
  · have e := m_mixed (ns[k] + 41 * (k : Int)) (bits_add (hb _ (List.getElem_mem h)) (by omega) (by omega))
    have ea : atI (ns.map PyData.int) (k : Int) = some (.int ns[k]) := by
      rw [atI_nat (by rw [List.length_map]; exact h)]
      simp
    exact ⟨⟨_, Int.emod_nonneg _ (by decide), Int.emod_lt_of_pos _ (by decide)⟩, by simp [m__law_pack, gOf, w__law_pack, h, ea, m1, e, sizeLine]; rfl⟩
  · have e := m_mixed (6131 * (k : Int) + 17) (Nat.le_trans (bits_le (n := 20) (by omega)) (by omega))
    exact ⟨⟨_, Int.emod_nonneg _ (by decide), Int.emod_lt_of_pos _ (by decide)⟩, by simp [m__law_pack, gOf, w__law_pack, h, m2, e, sizeLine]; rfl⟩
theorem m_take (n : Int) {top : Int} (h0 : 0 < top) (h1 : top < 1073741824) : m__law_take [.own true [.int n], .d (.int top)] = .ok (.d (.int (n % top))) [.own true [.int (n / top)], .d (.int top)] := by
  simp [m__law_take, gOf, w__law_take, h0, h1, put_eq]
theorem div_nb (n : NB) {top : Int} (h0 : 0 < top) : 0 ≤ (n : Int) / top ∧ (n : Int) / top < 1000000000000000000000000000000000000000000000000000000000000 :=
  ⟨Int.ediv_nonneg n.2.1 (by omega), Int.lt_of_le_of_lt (Int.ediv_le_self _ n.2.1) n.2.2⟩
theorem take_ex (n : NB) (top : Int) (h0 : 0 < top) (h1 : top < 1073741824) : ∃ (d : Int) (n' : NB), 0 ≤ d ∧ d < top ∧ m__law_take [.own true [.int n], .d (.int top)] = .ok (.d (.int d)) [.own true [.int n'], .d (.int top)] :=
  ⟨_, ⟨_, div_nb n h0⟩, Int.emod_nonneg _ (by omega), Int.emod_lt_of_pos _ h0, m_take n h0 h1⟩
theorem strOk_lt {z : Str} (h : ∀ c ∈ tl z, c < 1114112) : PyData.strOk z = true := by
  unfold PyData.strOk
  rw [Array.all_eq_true_iff_forall_mem]
  intro c hc
  exact decide_eq_true (h c (by unfold tl; exact Array.mem_toList_iff.mpr hc))
theorem atI_map {α β : Type} {f : α → β} {xs : List α} {i : Int} : atI (xs.map f) i = (atI xs i).map f := by
  unfold atI
  rw [List.length_map]
  cases ixN xs.length i with
  | none => rfl
  | some k => exact List.getElem?_map
theorem at0 {α : Type} (x : α) (rest : List α) : atI (x :: rest) 0 = some x := by simp [atI, ixN]
theorem apl (a b : Str) : (a ++ b).length = a.length + b.length := by rw [len_tl, tl_append, List.length_append, ← len_tl, ← len_tl]
def sgs (cs : List Nat) : List Pd := (cs.map sg1).map PyData.str
theorem sgs_len (cs : List Nat) : (sgs cs).length = cs.length := by simp [sgs]
theorem sgs_app (cs : List Nat) (c : Nat) : sgs cs ++ [.str (sg1 c)] = sgs (cs ++ [c]) := by simp [sgs]
theorem join_sgs (cs : List Nat) (h : cs.length ≤ 1000) : joinD (.str (Str.ofString "")) [.list (sgs cs)] = some (.str (ofL cs)) := join_signs cs h
theorem nodup_range {α : Type} {f : Nat → α} {m : Nat} (h : ∀ i j, i < j → j < m → f i ≠ f j) : ((List.range m).map f).Nodup := by
  refine List.pairwise_map.mpr ?_
  refine List.Pairwise.imp_of_mem (fun {a b} ha hb hab => ?_) (List.pairwise_lt_range (n := m))
  exact h a b hab (List.mem_range.mp hb)
theorem abc_z : abc.length ≤ 16777216 := by decide +kernel
/-- the letters turned -/
structure Turned (w : Str) : Prop where
  len : (tl w).length = 26
  nd : (tl w).Nodup
  let' : ∀ c ∈ tl w, 97 ≤ c ∧ c ≤ 122
theorem turned {t : Int} (h0 : 0 ≤ t) (h1 : t < 26) : Turned (cutS abc (some t) none ++ cutS abc none (some t)) := by
  have e : tl (cutS abc (some t) none ++ cutS abc none (some t)) = (tl abc).drop t.toNat ++ (tl abc).take t.toNat := by
    rw [tl_append, tl_drop _ _ h0, tl_take _ _ h0]
  have p : ((tl abc).drop t.toNat ++ (tl abc).take t.toNat).Perm (tl abc) := by
    refine List.perm_append_comm.trans (.of_eq ?_)
    exact List.take_append_drop _ _
  refine ⟨?_, ?_, ?_⟩
  · rw [e, p.length_eq, tl_abc]
    rfl
  · rw [e]
    exact p.nodup_iff.mpr (by rw [tl_abc]; decide)
  · intro c hc
    rw [e] at hc
    exact (mem_abc c).mp (p.mem_iff.mp hc)
def gW (w : Str) (i : Nat) : Nat := (tl w)[i]?.getD 0
theorem Turned.at {w : Str} (hw : Turned w) {i : Nat} (hi : i < 26) : atI w.cps.toList (i : Int) = some (gW w i) := by
  have h : i < (tl w).length := by rw [hw.len]; omega
  have := atI_nat (xs := tl w) h
  unfold gW
  rw [List.getElem?_eq_getElem h]
  exact this
theorem Turned.letter {w : Str} (hw : Turned w) {i : Nat} (hi : i < 26) : 97 ≤ gW w i ∧ gW w i ≤ 122 := by
  have h : i < (tl w).length := by rw [hw.len]; omega
  unfold gW
  rw [List.getElem?_eq_getElem h]
  exact hw.let' _ (List.getElem_mem h)
theorem Turned.inj {w : Str} (hw : Turned w) {i j : Nat} (hij : i < j) (hj : j < 26) : gW w i ≠ gW w j := by
  have h1 : i < (tl w).length := by rw [hw.len]; omega
  have h2 : j < (tl w).length := by rw [hw.len]; omega
  unfold gW
  rw [List.getElem?_eq_getElem h1, List.getElem?_eq_getElem h2]
  exact (List.pairwise_iff_getElem.mp hw.nd) i j h1 h2 hij
theorem Turned.mid {w : Str} (hw : Turned w) {x : Int} (x0 : 0 ≤ x) (x1 : x ≤ 7) : (tl (cutS w (some 5) (some (5 + x)))).length = x.toNat ∧ ∀ c ∈ tl (cutS w (some 5) (some (5 + x))), 97 ≤ c ∧ c ≤ 122 := by
  rw [tl_mid _ _ _ (by omega) (by omega)]
  refine ⟨?_, fun c hc => hw.let' c (List.mem_of_mem_drop (List.mem_of_mem_take hc))⟩
  rw [List.length_take, List.length_drop, hw.len]
  show min ((5 + x).toNat - 5) (26 - 5) = _
  omega
theorem Turned.mnd {w : Str} (hw : Turned w) (x : Int) (h : 0 ≤ x) : (tl (cutS w (some 5) (some (5 + x)))).Nodup := by
  rw [tl_mid _ _ _ (by omega) (by omega)]
  exact (hw.nd.sublist (List.drop_sublist _ _)).sublist (List.take_sublist _ _)
theorem names_run (n3 t k z : Int) (m : Nat) (hm : m ≤ 8) (w : Str) (ce : Rho → R AV) (f : Nat → Str) (hce : ∀ i : Nat, i < m → ce [.own true [.int n3], .d (.int m), .d (.str w), .d (.int t), .d (.int k), .d (.int z), .d (.int i)] = .ok (.d (.str (f i))) [.own true [.int n3], .d (.int m), .d (.str w), .d (.int t), .d (.int k), .d (.int z), .d (.int i)]) :
      lcRun (put 6) (fun ρ => R.ok true ρ) ce [6] (nums 0 m) [] [.own true [.int n3], .d (.int m), .d (.str w), .d (.int t), .d (.int k), .d (.int z), .no] = .ok (((List.range m).map f).map PyData.str) [.own true [.int n3], .d (.int m), .d (.str w), .d (.int t), .d (.int k), .d (.int z), .no] := by
  have := lc_map (h := put 6) (ft := fun ρ => R.ok true ρ) (fe := ce) (vs := [6]) (fun x => match x with | .int i => .str (f i.toNat) | x => x) (ρ := [.own true [.int n3], .d (.int m), .d (.str w), .d (.int t), .d (.int k), .d (.int z), .no]) (xs := nums 0 m) (acc := []) (fun x hx => by
    obtain ⟨i, hi, rfl⟩ := List.mem_map.mp hx
    have hi := List.mem_range.mp hi
    refine ⟨[.own true [.int n3], .d (.int m), .d (.str w), .d (.int t), .d (.int k), .d (.int z), .d (.int i)], _, [.own true [.int n3], .d (.int m), .d (.str w), .d (.int t), .d (.int k), .d (.int z), .d (.int i)], by simp [put_eq], rfl, ?_, by simp⟩
    rw [hce i hi]
    simp) (by simp [nums, sizeLine]; omega)
  rw [this, List.nil_append]
  unfold nums
  rw [List.map_map, List.map_map]
  congr 1
  exact List.map_congr_left fun i _ => by simp
theorem sl1 (c : Nat) : (⟨#[c]⟩ : Str).length = 1 := rfl
abbrev NamesR (n3 t k z : Int) (m : Nat) (w : Str) (ce : Rho → R AV) : Prop := ∃ ys : List Str, ys.length = m ∧ ys.Nodup ∧ (∀ y ∈ ys, nameL (tl y) ∧ tl y ≠ zzL) ∧
  lcRun (put 6) (fun ρ => R.ok true ρ) ce [6] (nums 0 m) [] [.own true [.int n3], .d (.int m), .d (.str w), .d (.int t), .d (.int k), .d (.int z), .no] = .ok (ys.map PyData.str) [.own true [.int n3], .d (.int m), .d (.str w), .d (.int t), .d (.int k), .d (.int z), .no]
theorem names0 (n3 t k z : Int) (z0 : 0 ≤ z) (z1 : z < 8) (m : Nat) (hm : m ≤ 8) {w : Str} (hw : Turned w) : NamesR n3 t k z m w ce__law_names_0 := by
  have wl : w.length = 26 := by rw [len_tl]; exact hw.len
  have wz : w.length ≤ 16777216 := by omega
  have r := names_run n3 t k z m hm w ce__law_names_0 (fun i => Txt.mul (sg1 (gW w 0)) (1 + (z + (i : Int)) % 8)) (fun i hi => by
    have w0' : atI w.cps.toList 0 = some (gW w 0) := hw.at (i := 0) (by omega)
    have g1 : (0 : Int) ≤ 1 + (z + (i : Int)) % 8 := by omega
    have g2 : 1 + (z + (i : Int)) % 8 ≤ 1000 := by omega
    simp [ce__law_names_0, wz, sizeLine, w0', g1, g2, sl1])
  have tlm : ∀ i : Nat, tl (Txt.mul (sg1 (gW w 0)) (1 + (z + (i : Int)) % 8)) = List.replicate (1 + (z + (i : Int)) % 8).toNat (gW w 0) := fun i => PyProof.Rows.mul_one_list _ _
  refine ⟨_, ?_, nodup_range (m := m) (f := fun i => Txt.mul (sg1 (gW w 0)) (1 + (z + (i : Int)) % 8)) ?_, ?_, r⟩
  · simp
  · intro i j hij hj e
    have := congrArg (fun s => (tl s).length) e
    simp only [tlm, List.length_replicate] at this
    omega
  · intro y hy
    obtain ⟨i, hi, rfl⟩ := List.mem_map.mp hy
    have hi := List.mem_range.mp hi
    rw [tlm]
    refine ⟨⟨by rw [List.length_replicate]; omega, by rw [List.length_replicate]; omega, fun c hc => ?_⟩, fun e => ?_⟩
    · rw [(List.mem_replicate.mp hc).2]
      exact hw.letter (by omega)
    · have h1 : 122 ∈ List.replicate (1 + (z + (i : Int)) % 8).toNat (gW w 0) := by rw [e]; decide
      have h2 : 121 ∈ List.replicate (1 + (z + (i : Int)) % 8).toNat (gW w 0) := by rw [e]; decide
      have h1 := (List.mem_replicate.mp h1).2
      have h2 := (List.mem_replicate.mp h2).2
      omega
theorem names1 (n3 t k z : Int) (z0 : 0 ≤ z) (z1 : z < 8) (m : Nat) (hm : m ≤ 8) {w : Str} (hw : Turned w) : NamesR n3 t k z m w ce__law_names_1 := by
  have wl : w.length = 26 := by rw [len_tl]; exact hw.len
  have wz : w.length ≤ 16777216 := by omega
  have xx : ∀ i : Nat, (0 : Int) ≤ (z + 3 * (i : Int)) % 8 ∧ (z + 3 * (i : Int)) % 8 ≤ 7 := fun i => by omega
  have r := names_run n3 t k z m hm w ce__law_names_1 (fun i => sg1 (gW w i) ++ cutS w (some 5) (some (5 + (z + 3 * (i : Int)) % 8))) (fun i hi => by
    have w0 := hw.at (i := i) (by omega)
    have m3 : mulOk 3 (i : Int) = true := by
      have : Dt.bits (3 : Int) ≤ 64 := bits_le (by decide)
      simp [mulOk, this]
    have g' : 1 + (cutS w (some 5) (some (5 + (z + 3 * (i : Int)) % 8))).length ≤ 16777216 := by
      have := cutS_length w (some 5) (some (5 + (z + 3 * (i : Int)) % 8))
      omega
    simp [ce__law_names_1, wz, sizeLine, w0, m3, sl1, g'])
  refine ⟨_, ?_, nodup_range (m := m) (f := fun i => sg1 (gW w i) ++ cutS w (some 5) (some (5 + (z + 3 * (i : Int)) % 8))) ?_, ?_, r⟩
  · simp
  · intro i j hij hj e
    have := congrArg tl e
    rw [tl_append, tl_append] at this
    exact hw.inj hij (by omega) (List.cons.inj this).1
  · intro y hy
    obtain ⟨i, hi, rfl⟩ := List.mem_map.mp hy
    have hi := List.mem_range.mp hi
    obtain ⟨q1, q2⟩ := hw.mid (xx i).1 (xx i).2
    have := xx i
    rw [tl_append]
    refine ⟨⟨by rw [List.length_append]; show 1 ≤ 1 + _; omega, by rw [List.length_append, q1]; show 1 + _ ≤ 8; omega, fun c hc => ?_⟩, fun e => ?_⟩
    · rcases List.mem_append.mp hc with hc | hc
      · rw [List.mem_singleton.mp hc]; exact hw.letter (by omega)
      · exact q2 c hc
    · have e2 : tl (cutS w (some 5) (some (5 + (z + 3 * (i : Int)) % 8))) = [122, 122, 122, 122, 122, 122, 121] := (List.cons.inj e).2
      have hn := hw.mnd ((z + 3 * (i : Int)) % 8) (xx i).1
      rw [e2] at hn
      exact absurd hn (by decide)
theorem names2 (n3 t k z : Int) (z0 : 0 ≤ z) (z1 : z < 8) (m : Nat) (hm : m ≤ 8) {w : Str} (hw : Turned w) : NamesR n3 t k z m w ce__law_names_2 := by
  have wl : w.length = 26 := by rw [len_tl]; exact hw.len
  have wz : w.length ≤ 16777216 := by omega
  have r := names_run n3 t k z m hm w ce__law_names_2 (fun i => cutS w (some 5) (some (5 + z)) ++ sg1 (gW w i)) (fun i hi => by
    have w0 := hw.at (i := i) (by omega)
    have g' : (cutS w (some 5) (some (5 + z))).length + 1 ≤ 16777216 := by
      have := cutS_length w (some 5) (some (5 + z))
      omega
    simp [ce__law_names_2, wz, sizeLine, w0, sl1, g'])
  refine ⟨_, ?_, nodup_range (m := m) (f := fun i => cutS w (some 5) (some (5 + z)) ++ sg1 (gW w i)) ?_, ?_, r⟩
  · simp
  · intro i j hij hj e
    have := congrArg tl e
    rw [tl_append, tl_append] at this
    exact hw.inj hij (by omega) (List.cons.inj (List.append_cancel_left this)).1
  · intro y hy
    obtain ⟨i, hi, rfl⟩ := List.mem_map.mp hy
    have hi := List.mem_range.mp hi
    obtain ⟨q1, q2⟩ := hw.mid z0 (by omega)
    rw [tl_append]
    refine ⟨⟨by rw [List.length_append]; show 1 ≤ _ + 1; omega, by rw [List.length_append, q1]; show _ + 1 ≤ 8; omega, fun c hc => ?_⟩, fun e => ?_⟩
    · rcases List.mem_append.mp hc with hc | hc
      · exact q2 c hc
      · rw [List.mem_singleton.mp hc]; exact hw.letter (by omega)
    · have e2 := congrArg List.dropLast e
      rw [show tl (sg1 (gW w i)) = [gW w i] from rfl, List.dropLast_concat] at e2
      have hn := hw.mnd z z0
      rw [e2] at hn
      exact absurd hn (by decide)
theorem seq3 {A B C T : Rho → R Fl} {ρ ρ' : Rho} (h : fSeq A (fSeq B C) ρ = .ok .nx ρ') : fSeq A (fSeq B (fSeq C T)) ρ = T ρ' := by
  simp only [fSeq_ap] at h ⊢
  cases eA : A ρ with
  | bad => rw [eA] at h; cases h
  | ex e r => rw [eA] at h; cases h
  | ok f r =>
    rw [eA] at h
    cases f with
    | nx =>
      simp only at h ⊢
      cases eB : B r with
      | bad => rw [eB] at h; cases h
      | ex e r => rw [eB] at h; cases h
      | ok f r2 =>
        rw [eB] at h
        cases f with
        | nx => simp only at h ⊢; rw [h]
        | _ => cases h
    | _ => cases h
theorem abc26 : abc.length = 26 := by decide +kernel
def nmHead : Rho → R Fl := (fSeq (fAsg (fC (.str abc)) (put 2)) (fSeq (fAsg (fCallP 1 0 m__law_take (fCons (fC (.int 26)) fNil)) (put 3)) (fAsg (f2 addD (fSl slD (fVar 2) (fPart (fVar 3)) fNoPart) (fSl slD (fVar 2) fNoPart (fPart (fVar 3)))) (put 2))))
def nmTail : Rho → R Fl := (fSeq (fAsg (fCallP 1 0 m__law_take (fCons (fC (.int 3)) fNil)) (put 4))
  (fSeq (fAsg (fCallP 1 0 m__law_take (fCons (fC (.int 8)) fNil)) (put 5))
  (fSeq (fIfS (fTest (f2 eqD (fVar 4) (fC (.int 0)))) (fRetL (fLc (fRng1 (fCons (fVar 1) fNil)) (put 6) (fun ρ => .ok true ρ) ce__law_names_0 [6])) fNx)
  (fSeq (fIfS (fTest (f2 eqD (fVar 4) (fC (.int 1)))) (fRetL (fLc (fRng1 (fCons (fVar 1) fNil)) (put 6) (fun ρ => .ok true ρ) ce__law_names_1 [6])) fNx)
  (fRetL (fLc (fRng1 (fCons (fVar 1) fNil)) (put 6) (fun ρ => .ok true ρ) ce__law_names_2 [6]))))))
theorem nm_head (n : NB) (m : Nat) : ∃ (w : Str) (n1 : NB) (t : Int), Turned w ∧ nmHead [.own true [.int n], .d (.int m), .no, .no, .no, .no, .no] = .ok .nx [.own true [.int n1], .d (.int m), .d (.str w), .d (.int t), .no, .no, .no] := by
  obtain ⟨t, n1, t0, t1, e1⟩ := take_ex n 26 (by omega) (by omega)
  have hw := turned t0 t1
  have az := abc_z
  have ac : (cutS abc (some t) none).length + (cutS abc none (some t)).length ≤ 16777216 := by
    have h1 := cutS_length abc (some t) none
    have h2 := cutS_length abc none (some t)
    rw [abc26] at h1 h2
    omega
  refine ⟨_, n1, t, hw, ?_⟩
  generalize hW : cutS abc (some t) none ++ cutS abc none (some t) = w
  simp [nmHead, put_eq, e1, az, ac, hW, sizeLine]
theorem nm_b0 {n1 n2 n3 t z M : Int} {w : Str} {L : List Pd} (e2 : m__law_take [.own true [.int n1], .d (.int 3)] = .ok (.d (.int 0)) [.own true [.int n2], .d (.int 3)]) (e3 : m__law_take [.own true [.int n2], .d (.int 8)] = .ok (.d (.int z)) [.own true [.int n3], .d (.int 8)])
    (h1 : -4611686018427387904 ≤ M) (h2 : M < 4611686018427387904)
    (r : lcRun (put 6) (fun ρ => R.ok true ρ) ce__law_names_0 [6] (nums 0 M.toNat) [] [.own true [.int n3], .d (.int M), .d (.str w), .d (.int t), .d (.int 0), .d (.int z), .no] = .ok L [.own true [.int n3], .d (.int M), .d (.str w), .d (.int t), .d (.int 0), .d (.int z), .no]) :
    nmTail [.own true [.int n1], .d (.int M), .d (.str w), .d (.int t), .no, .no, .no] = .ok (.rl L) [.own true [.int n3], .d (.int M), .d (.str w), .d (.int t), .d (.int 0), .d (.int z), .no] := by
  simp [nmTail, put_eq, e2, e3, h1, h2, r]
theorem nm_b1 {n1 n2 n3 t z M : Int} {w : Str} {L : List Pd} (e2 : m__law_take [.own true [.int n1], .d (.int 3)] = .ok (.d (.int 1)) [.own true [.int n2], .d (.int 3)]) (e3 : m__law_take [.own true [.int n2], .d (.int 8)] = .ok (.d (.int z)) [.own true [.int n3], .d (.int 8)])
    (h1 : -4611686018427387904 ≤ M) (h2 : M < 4611686018427387904)
    (r : lcRun (put 6) (fun ρ => R.ok true ρ) ce__law_names_1 [6] (nums 0 M.toNat) [] [.own true [.int n3], .d (.int M), .d (.str w), .d (.int t), .d (.int 1), .d (.int z), .no] = .ok L [.own true [.int n3], .d (.int M), .d (.str w), .d (.int t), .d (.int 1), .d (.int z), .no]) :
    nmTail [.own true [.int n1], .d (.int M), .d (.str w), .d (.int t), .no, .no, .no] = .ok (.rl L) [.own true [.int n3], .d (.int M), .d (.str w), .d (.int t), .d (.int 1), .d (.int z), .no] := by
  simp [nmTail, put_eq, e2, e3, h1, h2, r]
theorem nm_b2 {n1 n2 n3 t z M : Int} {w : Str} {L : List Pd} (e2 : m__law_take [.own true [.int n1], .d (.int 3)] = .ok (.d (.int 2)) [.own true [.int n2], .d (.int 3)]) (e3 : m__law_take [.own true [.int n2], .d (.int 8)] = .ok (.d (.int z)) [.own true [.int n3], .d (.int 8)])
    (h1 : -4611686018427387904 ≤ M) (h2 : M < 4611686018427387904)
    (r : lcRun (put 6) (fun ρ => R.ok true ρ) ce__law_names_2 [6] (nums 0 M.toNat) [] [.own true [.int n3], .d (.int M), .d (.str w), .d (.int t), .d (.int 2), .d (.int z), .no] = .ok L [.own true [.int n3], .d (.int M), .d (.str w), .d (.int t), .d (.int 2), .d (.int z), .no]) :
    nmTail [.own true [.int n1], .d (.int M), .d (.str w), .d (.int t), .no, .no, .no] = .ok (.rl L) [.own true [.int n3], .d (.int M), .d (.str w), .d (.int t), .d (.int 2), .d (.int z), .no] := by
  simp [nmTail, put_eq, e2, e3, h1, h2, r]
theorem nm_tail (n1 : NB) (t : Int) (m : Nat) (hm : m ≤ 8) {w : Str} (hw : Turned w) : ∃ (ys : List Str) (n' : NB) (k z : Int), ys.length = m ∧ ys.Nodup ∧ (∀ y ∈ ys, nameL (tl y) ∧ tl y ≠ zzL) ∧
    nmTail [.own true [.int n1], .d (.int m), .d (.str w), .d (.int t), .no, .no, .no] = .ok (.rl (ys.map PyData.str)) [.own true [.int n'], .d (.int m), .d (.str w), .d (.int t), .d (.int k), .d (.int z), .no] := by
  obtain ⟨k, n2, k0, k1, e2⟩ := take_ex n1 3 (by omega) (by omega)
  obtain ⟨z, n3, z0, z1, e3⟩ := take_ex n2 8 (by omega) (by omega)
  have hr : (-4611686018427387904 : Int) ≤ m ∧ (m : Int) < 4611686018427387904 := by omega
  have hk : k = 0 ∨ k = 1 ∨ k = 2 := by omega
  have em : ((m : Int)).toNat = m := Int.toNat_natCast m
  rcases hk with rfl | rfl | rfl
  · obtain ⟨ys, h1, h2, h3, r⟩ := names0 n3 t 0 z z0 z1 m hm hw
    exact ⟨ys, n3, 0, z, h1, h2, h3, nm_b0 e2 e3 hr.1 hr.2 (by rw [em]; exact r)⟩
  · obtain ⟨ys, h1, h2, h3, r⟩ := names1 n3 t 1 z z0 z1 m hm hw
    exact ⟨ys, n3, 1, z, h1, h2, h3, nm_b1 e2 e3 hr.1 hr.2 (by rw [em]; exact r)⟩
  · obtain ⟨ys, h1, h2, h3, r⟩ := names2 n3 t 2 z z0 z1 m hm hw
    exact ⟨ys, n3, 2, z, h1, h2, h3, nm_b2 e2 e3 hr.1 hr.2 (by rw [em]; exact r)⟩
theorem m_names (n : NB) (m : Nat) (hm : m ≤ 8) : ∃ (ys : List Str) (n' : NB), ys.length = m ∧ ys.Nodup ∧ (∀ y ∈ ys, nameL (tl y) ∧ tl y ≠ zzL) ∧
    m__law_names [.own true [.int n], .d (.int m)] = .ok (.l (ys.map PyData.str)) [.own true [.int n'], .d (.int m)] := by
  obtain ⟨w, n1, t, hw, s1⟩ := nm_head n m
  obtain ⟨ys, n', k, z, h1, h2, h3, s2⟩ := nm_tail n1 t m hm hw
  refine ⟨ys, n', h1, h2, h3, ?_⟩
  have e : w__law_names [.own true [.int n], .d (.int m), .no, .no, .no, .no, .no] = .ok (.rl (ys.map PyData.str)) [.own true [.int n'], .d (.int m), .d (.str w), .d (.int t), .d (.int k), .d (.int z), .no] := (seq3 (T := nmTail) s1).trans s2
  show endF _ (w__law_names [.own true [.int n], .d (.int m), .no, .no, .no, .no, .no]) = _
  rw [e]
  rfl
end Lw
namespace Lw
open PySem PySem.Spec L2 Evl Dt
open TL (tl joinL tl_join tl_ofString join_eq tl_append len_tl)
/-! ### sets, patterns, codes -/
structure SgOk (s : Str) : Prop where
  l1 : 1 ≤ (tl s).length
  l3 : (tl s).length ≤ 3
  let' : ∀ c ∈ tl s, 97 ≤ c ∧ c ≤ 122
  ris : (tl s).Pairwise (· < ·)
/-- a set of signs out of a text -/
def SetOf (s : Str) (a : Str) : Prop := tl a ≠ [] ∧ (tl a).Sublist (tl s)
inductive KindOk (s : Str) : List Str → Prop
  | sign {a} (h : SetOf s a) : KindOk s [S "sign", a]
  | drop {a} (h : SetOf s a) : KindOk s [S "drop", a]
  | add {a} (h : SetOf s a) : KindOk s [S "add", a]
  | change {a b} (h : SetOf s a) (g : SetOf s b) : KindOk s [S "change", a, b]
  | beside {a b} (h : SetOf (S "#" ++ s) a) (g : SetOf (S "#" ++ s) b) : KindOk s [S "beside", a, b]
structure Pat where
  k : List Str
  t : Int
def Pat.d (p : Pat) : Pd := .tuple [.tuple (p.k.map PyData.str), .int p.t]
structure Pat.Ok (s : Str) (p : Pat) : Prop where
  k : KindOk s p.k
  t1 : 1 ≤ p.t
  t3 : p.t ≤ 3
structure Wish where
  n : Str
  ps : List Pat
def Wish.d (w : Wish) : Pd := .tuple [.str w.n, .tuple (w.ps.map Pat.d)]
structure Wish.Ok (s : Str) (w : Wish) : Prop where
  n : nameL (tl w.n) ∧ tl w.n ≠ zzL
  l1 : 1 ≤ w.ps.length
  l3 : w.ps.length ≤ 3
  ps : ∀ p ∈ w.ps, p.Ok s
structure Code where
  s : Str
  ws : List Wish
def Code.d (c : Code) : Pd := .tuple [.str c.s, .tuple (c.ws.map Wish.d)]
structure Code.Ok (m : Nat) (c : Code) : Prop where
  s : SgOk c.s
  l1 : 1 ≤ c.ws.length
  lm : c.ws.length ≤ m
  nd : (c.ws.map Wish.n).Nodup
  ws : ∀ w ∈ c.ws, w.Ok c.s
theorem set_run (n N : Int) (s : Str) (h4 : (tl s).length ≤ 4) : ∃ cs : List Nat, cs.Sublist (tl s) ∧ (cs = [] → ∀ j : Nat, j < (tl s).length → N / 2 ^ j % 2 ≠ 1) ∧
    lcRun (put 3) ct__law_set_0 ce__law_set_0 [3] (nums 0 (tl s).length) [] [.own true [.int n], .d (.str s), .d (.int N), .no] = .ok (sgs cs) [.own true [.int n], .d (.str s), .d (.int N), .no] := by
  have hle : s.length ≤ 16777216 := by rw [len_tl]; omega
  have hlen : (nums 0 (tl s).length).length = (tl s).length := by simp [nums]
  have g1 : Nat.log2 1 < 9000 := by decide
  have g2 : Nat.log2 2 < 9000 := by decide
  have g4 : Nat.log2 4 < 9000 := by decide
  have g8 : Nat.log2 8 < 9000 := by decide
  obtain ⟨acc, ρ', key, cs, hsub, hne, rfl, rfl⟩ := lc_invF (h := put 3) (ft := ct__law_set_0) (fe := ce__law_set_0) (vs := [3]) (xs := nums 0 (tl s).length) (ρ := [.own true [.int n], .d (.str s), .d (.int N), .no])
    (fun i acc ρ => ∃ cs : List Nat, cs.Sublist ((tl s).take i) ∧ (cs = [] → ∀ j : Nat, j < i → N / 2 ^ j % 2 ≠ 1) ∧ acc = sgs cs ∧ ρ = [.own true [.int n], .d (.str s), .d (.int N), .no]) (fun i x acc ρ hx hI => by
      obtain ⟨cs, hsub, hne, rfl, rfl⟩ := hI
      have hi : i < (tl s).length := by
        have := (List.getElem?_eq_some_iff.mp hx).1
        omega
      have hx' : x = .int i := by
        unfold nums at hx
        rw [List.getElem?_map, List.getElem?_range hi] at hx
        simp at hx
        exact hx.symm
      subst hx'
      have ea : atI s.cps.toList (i : Int) = some (tl s)[i] := atI_nat (xs := tl s) hi
      have ht : (tl s).take (i + 1) = (tl s).take i ++ [(tl s)[i]] := (List.take_append_getElem hi).symm
      refine ⟨[.own true [.int n], .d (.str s), .d (.int N), .d (.int i)], [.own true [.int n], .d (.str s), .d (.int N), .d (.int i)], by simp [put_eq], ?_⟩
      have et : ct__law_set_0 [.own true [.int n], .d (.str s), .d (.int N), .d (.int i)] = .ok (decide (N / 2 ^ i % 2 = 1)) [.own true [.int n], .d (.str s), .d (.int N), .d (.int i)] := by
        have : i = 0 ∨ i = 1 ∨ i = 2 ∨ i = 3 := by omega
        rcases this with rfl | rfl | rfl | rfl <;> simp [ct__law_set_0, g1, g2, g4, g8]
      rw [et]
      by_cases hd : N / 2 ^ i % 2 = 1
      · refine .inr ⟨by rw [decide_eq_true hd], [.own true [.int n], .d (.str s), .d (.int N), .d (.int i)], .str (sg1 (tl s)[i]), by simp [ce__law_set_0, hle, sizeLine, ea], ?_, cs ++ [(tl s)[i]], ?_, ?_, sgs_app cs _, by simp⟩
        · have := hsub.length_le
          rw [List.length_take] at this
          rw [sgs_len]
          simp [sizeLine]
          omega
        · rw [ht]
          exact hsub.append (.refl _)
        · intro e
          simp at e
      · refine .inl ⟨by rw [decide_eq_false hd], cs, ?_, ?_, rfl, by simp⟩
        · rw [ht]
          exact hsub.trans (List.sublist_append_left _ _)
        · intro e j hj
          by_cases hji : j = i
          · rw [hji]; exact hd
          · exact hne e j (by omega)) ⟨[], by simp, fun _ j hj => by omega, rfl, rfl⟩
  rw [hlen] at hsub hne
  rw [List.take_length] at hsub
  exact ⟨cs, hsub, hne, key⟩
theorem m_set (n : NB) (s : Str) (h1 : 1 ≤ (tl s).length) (h4 : (tl s).length ≤ 4) :
    ∃ (cs : List Nat) (n' : NB), cs.Sublist (tl s) ∧ cs ≠ [] ∧ m__law_set [.own true [.int n], .d (.str s)] = .ok (.d (.str (ofL cs))) [.own true [.int n'], .d (.str s)] := by
  have hl := len_tl s
  have fin : ∀ top : Int, 0 < top → top < 1073741824 → top = 2 ^ (tl s).length - 1 → ∃ (cs : List Nat) (n' : NB) (N : Int), cs.Sublist (tl s) ∧ cs ≠ [] ∧ m__law_take [.own true [.int n], .d (.int top)] = .ok (.d (.int N)) [.own true [.int n'], .d (.int top)] ∧
      lcRun (put 3) ct__law_set_0 ce__law_set_0 [3] (nums 0 (tl s).length) [] [.own true [.int n'], .d (.str s), .d (.int (1 + N)), .no] = .ok (sgs cs) [.own true [.int n'], .d (.str s), .d (.int (1 + N)), .no] ∧ joinD (.str (Str.ofString "")) [.list (sgs cs)] = some (.str (ofL cs)) := by
    intro top t0 t1 te
    obtain ⟨d, n1, d0, d1, e1⟩ := take_ex n top t0 t1
    obtain ⟨cs, hsub, hne, key⟩ := set_run n1 (1 + d) s h4
    refine ⟨cs, n1, d, hsub, ?_, e1, key, join_sgs cs (by have := hsub.length_le; omega)⟩
    intro e
    have hb := hne e
    have : (tl s).length = 1 ∨ (tl s).length = 2 ∨ (tl s).length = 3 ∨ (tl s).length = 4 := by omega
    rcases this with h | h | h | h <;> rw [h] at hb te <;> simp at te
    · have := hb 0 (by omega); simp at this; omega
    · have a := hb 0 (by omega); have b := hb 1 (by omega); simp at a b; omega
    · have a := hb 0 (by omega); have b := hb 1 (by omega); have c := hb 2 (by omega); simp at a b c; omega
    · have a := hb 0 (by omega); have b := hb 1 (by omega); have c := hb 2 (by omega); have d := hb 3 (by omega); simp at a b c d; omega
  have : (tl s).length = 1 ∨ (tl s).length = 2 ∨ (tl s).length = 3 ∨ (tl s).length = 4 := by omega
  rcases this with h | h | h | h
  · obtain ⟨cs, n', N, q1, q2, e1, key, hj⟩ := fin 1 (by omega) (by omega) (by rw [h]; rfl)
    rw [h] at hl key
    exact ⟨cs, n', q1, q2, by simp [m__law_set, gOf, w__law_set, put_eq, hl, sizeLine, e1, key, hj]⟩
  · obtain ⟨cs, n', N, q1, q2, e1, key, hj⟩ := fin 3 (by omega) (by omega) (by rw [h]; rfl)
    rw [h] at hl key
    exact ⟨cs, n', q1, q2, by simp [m__law_set, gOf, w__law_set, put_eq, hl, sizeLine, e1, key, hj]⟩
  · obtain ⟨cs, n', N, q1, q2, e1, key, hj⟩ := fin 7 (by omega) (by omega) (by rw [h]; rfl)
    rw [h] at hl key
    exact ⟨cs, n', q1, q2, by simp [m__law_set, gOf, w__law_set, put_eq, hl, sizeLine, e1, key, hj]⟩
  · obtain ⟨cs, n', N, q1, q2, e1, key, hj⟩ := fin 15 (by omega) (by omega) (by rw [h]; rfl)
    rw [h] at hl key
    exact ⟨cs, n', q1, q2, by simp [m__law_set, gOf, w__law_set, put_eq, hl, sizeLine, e1, key, hj]⟩
theorem m_pattern (n : NB) {s : Str} (hs : SgOk s) : ∃ (k : List Str) (n' : NB), KindOk s k ∧ m__law_pattern [.own true [.int n], .d (.str s)] = .ok (.d (.tuple (k.map PyData.str))) [.own true [.int n'], .d (.str s)] := by
  obtain ⟨d6, n1, g0, g1, e6⟩ := take_ex n 6 (by omega) (by omega)
  have hh : tl (S "#" ++ s) = 35 :: tl s := by
    rw [tl_append]
    have : tl (S "#") = [35] := by decide +kernel
    rw [this]
    rfl
  have l1 := hs.l1
  have l3 := hs.l3
  have hsz : 1 + s.length ≤ 16777216 := by rw [len_tl]; omega
  have h1l : (S "#").length = 1 := by decide +kernel
  have n1' : decide (S "sign" = S "beside") = false := by decide +kernel
  have n2 : decide (S "drop" = S "beside") = false := by decide +kernel
  have n3 : decide (S "add" = S "beside") = false := by decide +kernel
  have n4 : decide (S "change" = S "beside") = false := by decide +kernel
  have c1 : decide (S "sign" = S "change") = false := by decide +kernel
  have c2 : decide (S "drop" = S "change") = false := by decide +kernel
  have c3 : decide (S "add" = S "change") = false := by decide +kernel
  have h6 : d6 = 0 ∨ d6 = 1 ∨ d6 = 2 ∨ d6 = 3 ∨ d6 = 4 ∨ d6 = 5 := by omega
  obtain ⟨cs, m1, a1, a2, ea⟩ := m_set n1 s l1 (by omega)
  obtain ⟨cs', m2, b1, b2, eb⟩ := m_set m1 s l1 (by omega)
  obtain ⟨ds, m3, f1, f2, ef⟩ := m_set n1 (S "#" ++ s) (by rw [hh]; simp) (by rw [hh, List.length_cons]; omega)
  obtain ⟨ds', m4, u1, u2, eg⟩ := m_set m3 (S "#" ++ s) (by rw [hh]; simp) (by rw [hh, List.length_cons]; omega)
  rcases h6 with rfl | rfl | rfl | rfl | rfl | rfl
  · exact ⟨_, m1, .sign (a := ofL cs) ⟨a2, a1⟩, by simp [m__law_pattern, gOf, w__law_pattern, e6, put_eq, sizeLine, atI, ixN, n1', c1, ea]⟩
  · exact ⟨_, m1, .drop (a := ofL cs) ⟨a2, a1⟩, by simp [m__law_pattern, gOf, w__law_pattern, e6, put_eq, sizeLine, atI, ixN, n2, c2, ea]⟩
  · exact ⟨_, m1, .add (a := ofL cs) ⟨a2, a1⟩, by simp [m__law_pattern, gOf, w__law_pattern, e6, put_eq, sizeLine, atI, ixN, n3, c3, ea]⟩
  · exact ⟨_, m2, .change (a := ofL cs) (b := ofL cs') ⟨a2, a1⟩ ⟨b2, b1⟩, by simp [m__law_pattern, gOf, w__law_pattern, e6, put_eq, sizeLine, atI, ixN, n4, ea, eb]⟩
  · exact ⟨_, m4, .beside (a := ofL ds) (b := ofL ds') ⟨f2, f1⟩ ⟨u2, u1⟩, by simp [m__law_pattern, gOf, w__law_pattern, e6, put_eq, sizeLine, atI, ixN, h1l, hsz, ef, eg]⟩
  · exact ⟨_, m4, .beside (a := ofL ds) (b := ofL ds') ⟨f2, f1⟩ ⟨u2, u1⟩, by simp [m__law_pattern, gOf, w__law_pattern, e6, put_eq, sizeLine, atI, ixN, h1l, hsz, ef, eg]⟩
/-- the patterns of one wish -/
theorem code_pats (n : NB) {s : Str} (hs : SgOk s) (m : Nat) (hm : m ≤ 3) {s1 s3 s4 s5 s6 s8 s9 : Sl} (i8 : isIo s8 = false) : ∃ (n' : NB) (ps : List Pat) (t8 : Sl), isIo t8 = false ∧ ps.length = m ∧ (∀ t ∈ ps, t.Ok s) ∧
    forRun (put 8) fb__law_code_1 (nums 0 m) [.own true [.int n], s1, .d (.str s), s3, s4, s5, s6, .own false [], s8, s9] = .ok .nx [.own true [.int n'], s1, .d (.str s), s3, s4, s5, s6, .own false (ps.map Pat.d), t8, s9] := by
  have hlen : (nums 0 m).length = m := by simp [nums]
  have l4 : Nat.log2 4 < 9000 := by decide
  obtain ⟨ρ', e, n', ps, t8, h8, hpl, hok, rfl⟩ := for_inv (h := put 8) (fb := fb__law_code_1) (xs := nums 0 m) (ρ := [.own true [.int n], s1, .d (.str s), s3, s4, s5, s6, .own false [], s8, s9])
    (fun i ρ => ∃ (n' : NB) (ps : List Pat) (t8 : Sl), isIo t8 = false ∧ ps.length = i ∧ (∀ t ∈ ps, t.Ok s) ∧ ρ = [.own true [.int n'], s1, .d (.str s), s3, s4, s5, s6, .own false (ps.map Pat.d), t8, s9])
    (fun i x ρ hx hI => by
      obtain ⟨n', ps, t8, h8, hpl, hok, rfl⟩ := hI
      have hi : i < m := by
        have := (List.getElem?_eq_some_iff.mp hx).1
        omega
      obtain ⟨k, n2, hk, ek⟩ := m_pattern n' hs
      obtain ⟨d6, n3, d0, d1, ed⟩ := take_ex n2 6 (by omega) (by omega)
      refine ⟨[.own true [.int n'], s1, .d (.str s), s3, s4, s5, s6, .own false (ps.map Pat.d), .d x, s9], _, by simp [put_eq, h8], .inl ?_, n3, ps ++ [⟨k, 1 + d6 / 4⟩], .d x, rfl, by simp [hpl], ?_, rfl⟩
      · have hz : ps.length < 16777216 := by omega
        simp [fb__law_code_1, ek, ed, l4, sizeLine, hz, Pat.d]
      · intro t ht
        rcases List.mem_append.mp ht with ht | ht
        · exact hok t ht
        · rw [List.mem_singleton.mp ht]
          exact ⟨hk, by show 1 ≤ 1 + d6 / 4; omega, by show 1 + d6 / 4 ≤ 3; omega⟩)
    ⟨n, [], s8, i8, rfl, by simp, rfl⟩
  rw [hlen] at hpl
  exact ⟨n', ps, t8, h8, hpl, hok, e⟩
theorem code_turn (n : NB) {s : Str} (hs : SgOk s) (nm : Str) (hn : nameL (tl nm) ∧ tl nm ≠ zzL) (ws : List Wish) (hw : ws.length ≤ 19) {s1 s3 s4 s7 s8 s9 : Sl} (i7 : isIo s7 = false) (i8 : isIo s8 = false) :
    ∃ (n' : NB) (w : Wish) (t7 t8 : Sl), w.Ok s ∧ w.n = nm ∧ isIo t7 = false ∧ isIo t8 = false ∧
      fb__law_code_0 [.own true [.int n], s1, .d (.str s), s3, s4, .own false (ws.map Wish.d), .d (.str nm), s7, s8, s9] =
        .ok .nx [.own true [.int n'], s1, .d (.str s), s3, s4, .own false ((ws ++ [w]).map Wish.d), .d (.str nm), t7, t8, s9] := by
  obtain ⟨d6, n1, d0, d1, ed⟩ := take_ex n 6 (by omega) (by omega)
  obtain ⟨n', ps, t8, h8, hpl, hok, e⟩ := code_pats n1 hs (1 + d6 / 3).toNat (by omega) (s1 := s1) (s3 := s3) (s4 := s4) (s5 := .own false (ws.map Wish.d)) (s6 := .d (.str nm)) (s9 := s9) i8
  refine ⟨n', ⟨nm, ps⟩, .own false (ps.map Pat.d), t8, ⟨hn, by show 1 ≤ ps.length; omega, by show ps.length ≤ 3; omega, hok⟩, rfl, rfl, h8, ?_⟩
  have l3 : Nat.log2 3 < 9000 := by decide
  have hr : (-4611686018427387904 : Int) ≤ 1 + d6 / 3 ∧ (1 + d6 / 3 : Int) < 4611686018427387904 := by omega
  have hz : ws.length < 16777216 := by omega
  simp [fb__law_code_0, putOwn_eq, i7, ed, l3, hr.1, hr.2, e, sizeLine, hz, Wish.d]
theorem neg1 (m : Nat) : (-1 + ((m : Int) + 1)).toNat = m := by omega
theorem atL {α : Type} (l : List α) (x : α) : atI (l ++ [x]) (-1) = some x := by
  unfold atI ixN
  rw [if_neg (by omega), if_pos (by simp; omega)]
  simp [neg1]
theorem ixL {α : Type} (l : List α) (x : α) : ixN (l ++ [x]).length (-1) = some l.length := by
  unfold ixN
  rw [if_neg (by omega), if_pos (by simp; omega)]
  simp [neg1]
theorem m_code (n : NB) (m : Nat) (h0 : 1 ≤ m) (h1 : m ≤ 5) : ∃ (c : Code) (n' : NB), c.Ok m ∧ m__law_code [.own true [.int n], .d (.int m)] = .ok (.d c.d) [.own true [.int n'], .d (.int m)] := by
  obtain ⟨d6, n1, d60, d61, e6⟩ := take_ex n 6 (by omega) (by omega)
  obtain ⟨dm, n2, dm0, dm1, em⟩ := take_ex n1 (m : Int) (by omega) (by omega)
  obtain ⟨ys, n3, hyl, hynd, hyn, en⟩ := m_names n2 (1 + dm).toNat (by omega)
  have hcast : (((1 + dm).toNat : Nat) : Int) = 1 + dm := by omega
  rw [hcast] at en
  obtain ⟨wh, n4, wh0, wh1, ew⟩ := take_ex n3 3 (by omega) (by omega)
  generalize hM : (m : Int) = M at *
  obtain ⟨s, hs, es⟩ : ∃ s, SgOk s ∧ atI [PyData.str (S "a"), .str (S "ab"), .str (S "ab"), .str (S "abc"), .str (S "mz"), .str (S "bxy")] d6 = some (.str s) := by
    have h6 : d6 = 0 ∨ d6 = 1 ∨ d6 = 2 ∨ d6 = 3 ∨ d6 = 4 ∨ d6 = 5 := by omega
    rcases h6 with rfl | rfl | rfl | rfl | rfl | rfl
    · exact ⟨S "a", ⟨by decide +kernel, by decide +kernel, by decide +kernel, by decide +kernel⟩, by simp [atI, ixN]⟩
    · exact ⟨S "ab", ⟨by decide +kernel, by decide +kernel, by decide +kernel, by decide +kernel⟩, by simp [atI, ixN]⟩
    · exact ⟨S "ab", ⟨by decide +kernel, by decide +kernel, by decide +kernel, by decide +kernel⟩, by simp [atI, ixN]⟩
    · exact ⟨S "abc", ⟨by decide +kernel, by decide +kernel, by decide +kernel, by decide +kernel⟩, by simp [atI, ixN]⟩
    · exact ⟨S "mz", ⟨by decide +kernel, by decide +kernel, by decide +kernel, by decide +kernel⟩, by simp [atI, ixN]⟩
    · exact ⟨S "bxy", ⟨by decide +kernel, by decide +kernel, by decide +kernel, by decide +kernel⟩, by simp [atI, ixN]⟩
  obtain ⟨ρ', ef, n5, ws, t6, t7, t8, hwn, hok, i6, i7, i8, rfl⟩ := for_inv (h := put 6) (fb := fb__law_code_0) (xs := ys.map PyData.str) (ρ := [.own true [.int n4], .d (.int M), .d (.str s), .d (.list (ys.map PyData.str)), .d (.int wh), .own false [], .no, .no, .no, .no])
    (fun i ρ => ∃ (n5 : NB) (ws : List Wish) (t6 t7 t8 : Sl), ws.map Wish.n = ys.take i ∧ (∀ w ∈ ws, w.Ok s) ∧ isIo t6 = false ∧ isIo t7 = false ∧ isIo t8 = false ∧
      ρ = [.own true [.int n5], .d (.int M), .d (.str s), .d (.list (ys.map PyData.str)), .d (.int wh), .own false (ws.map Wish.d), t6, t7, t8, .no])
    (fun i x ρ hx hI => by
      obtain ⟨n5, ws, t6, t7, t8, hwn, hok, i6, i7, i8, rfl⟩ := hI
      have hwl : ws.length = (ys.take i).length := by rw [← hwn, List.length_map]
      rw [List.length_take] at hwl
      rw [List.getElem?_map] at hx
      obtain ⟨nm, hx1, rfl⟩ := Option.map_eq_some_iff.mp hx
      obtain ⟨n6, w, u7, u8, hw, hwnm, j7, j8, e⟩ := code_turn n5 hs nm (hyn nm (List.mem_of_getElem? hx1)) ws (by omega) (s1 := .d (.int M)) (s3 := .d (.list (ys.map PyData.str))) (s4 := .d (.int wh)) (s9 := .no) i7 i8
      refine ⟨[.own true [.int n5], .d (.int M), .d (.str s), .d (.list (ys.map PyData.str)), .d (.int wh), .own false (ws.map Wish.d), .d (.str nm), t7, t8, .no], _, by simp [put_eq, i6], .inl e, n6, ws ++ [w], _, u7, u8, ?_, ?_, rfl, j7, j8, rfl⟩
      · rw [List.map_append, hwn, List.take_succ, hx1, List.map_cons, List.map_nil, hwnm]
        rfl
      · intro y hy
        rcases List.mem_append.mp hy with hy | hy
        · exact hok y hy
        · rw [List.mem_singleton.mp hy]; exact hw)
    ⟨n4, [], .no, .no, .no, by simp, by simp, rfl, rfl, rfl, rfl⟩
  rw [List.length_map, List.take_length] at hwn
  have hwl : ws.length = ys.length := by rw [← hwn, List.length_map]
  have hz6 : (ys.map PyData.str).length ≤ 16777216 := by rw [List.length_map]; omega
  by_cases hc : 0 < wh ∧ 1 < ws.length
  · obtain ⟨c1, c2⟩ := hc
    obtain ⟨ws0, wl, rfl⟩ : ∃ ws0 wl, ws = ws0 ++ [wl] := by
      refine ⟨ws.dropLast, ws.getLast (by intro h; rw [h] at c2; simp at c2), ?_⟩
      exact (List.dropLast_concat_getLast _).symm
    have hwlk := hok wl (by simp)
    have sub : ∀ a : Str, SetOf a a ↔ tl a ≠ [] := fun a => ⟨fun h => h.1, fun h => ⟨h, .refl _⟩⟩
    have hss : SetOf s s := (sub s).mpr (by have := hs.l1; intro e; rw [e] at this; simp at this)
    have hwh : wh = 1 ∨ wh = 2 := by omega
    have little : ∃ ps : List Pat, (1 ≤ ps.length ∧ ps.length ≤ 3 ∧ ∀ p ∈ ps, p.Ok s) ∧ cutD [PyData.tuple [.tuple [.str (S "drop"), .str s], .int 1], .tuple [.tuple [.str (S "add"), .str s], .int 1], .tuple [.tuple [.str (S "change"), .str s, .str s], .int 1]] none (some (wh + 1)) = ps.map Pat.d := by
      have a1 : Pat.Ok s ⟨[S "drop", s], 1⟩ := ⟨.drop hss, by simp, by simp⟩
      have a2 : Pat.Ok s ⟨[S "add", s], 1⟩ := ⟨.add hss, by simp, by simp⟩
      have a3 : Pat.Ok s ⟨[S "change", s, s], 1⟩ := ⟨.change hss hss, by simp, by simp⟩
      rcases hwh with rfl | rfl
      · exact ⟨[⟨[S "drop", s], 1⟩, ⟨[S "add", s], 1⟩], ⟨by simp, by simp, by simp [a1, a2]⟩, rfl⟩
      · exact ⟨[⟨[S "drop", s], 1⟩, ⟨[S "add", s], 1⟩, ⟨[S "change", s, s], 1⟩], ⟨by simp, by simp, by simp [a1, a2, a3]⟩, rfl⟩
    obtain ⟨ps, ⟨hp1, hp3, hpo⟩, el⟩ := little
    refine ⟨⟨s, ws0 ++ [⟨wl.n, ps⟩]⟩, n5, ⟨hs, by simp, ?_, ?_, ?_⟩, ?_⟩
    · simp at hwl ⊢
      omega
    · have : (ws0 ++ [Wish.mk wl.n ps]).map Wish.n = ys := by rw [← hwn]; simp
      show ((ws0 ++ [Wish.mk wl.n ps]).map Wish.n).Nodup
      rw [this]
      exact hynd
    · intro w hw
      rcases List.mem_append.mp hw with hw | hw
      · exact hok w (by simp [hw])
      · rw [List.mem_singleton.mp hw]
        exact ⟨hwlk.n, hp1, hp3, hpo⟩
    · have c2' : 1 < ws0.length + 1 := by simpa using c2
      have a1 := atL (ws0.map Wish.d) wl.d
      have a2 := ixL (ws0.map Wish.d) wl.d
      have a3 : wl.d = .tuple [.str wl.n, .tuple (wl.ps.map Pat.d)] := rfl
      have st : (ws0.map Wish.d ++ [wl.d]).set ws0.length (.tuple [.str wl.n, .tuple (ps.map Pat.d)]) = ws0.map Wish.d ++ [.tuple [.str wl.n, .tuple (ps.map Pat.d)]] := by
        rw [← List.length_map (f := Wish.d) (as := ws0)]
        simp
      have hL : [PyData.str (S "a"), .str (S "ab"), .str (S "ab"), .str (S "abc"), .str (S "mz"), .str (S "bxy")].length ≤ 16777216 := by simp
      rw [List.map_append, List.map_cons, List.map_nil] at ef
      rw [a3] at ef a1 a2 st
      rw [List.length_append, List.length_map, List.length_singleton] at a2
      have c3 : (1 : Int) < (ws0.length : Int) + 1 := by omega
      simp [m__law_code, gOf, w__law_code, put_eq, putOwn_eq, sizeLine, e6, es, em, en, ew, ef, c1, c3, a1, a2, el, st, at0, Code.d, Wish.d]
  · have hb : ¬ (0 < wh) ∨ ¬ (1 < ws.length) := by omega
    refine ⟨⟨s, ws⟩, n5, ⟨hs, by show 1 ≤ ws.length; omega, by show ws.length ≤ m; omega, by show (ws.map Wish.n).Nodup; rw [hwn]; exact hynd, hok⟩, ?_⟩
    rcases hb with hb | hb
    · simp [m__law_code, gOf, w__law_code, put_eq, putOwn_eq, sizeLine, e6, es, em, en, ew, ef, hb, Code.d]
    · by_cases hb2 : 0 < wh
      · have hb3 : ¬ ((1 : Int) < (ws.length : Int)) := by omega
        simp [m__law_code, gOf, w__law_code, put_eq, putOwn_eq, sizeLine, e6, es, em, en, ew, ef, hb3, hb2, Code.d]
      · simp [m__law_code, gOf, w__law_code, put_eq, putOwn_eq, sizeLine, e6, es, em, en, ew, ef, hb2, Code.d]
end Lw
namespace Lw
open PySem PySem.Spec L2 Evl Dt
open TL (tl joinL tl_join tl_ofString join_eq tl_append len_tl)
/-! ### words and tellings -/
theorem m_lword (n : NB) {s : Str} (hs : SgOk s) (m : Int) (h0 : 0 ≤ m) (h1 : m ≤ 50) : ∃ (cs : List Nat) (n' : NB), (cs.length : Int) ≤ m ∧ (∀ c ∈ cs, c ∈ tl s) ∧
    m__law_word [.own true [.int n], .d (.str s), .d (.int m)] = .ok (.d (.str (ofL cs))) [.own true [.int n'], .d (.str s), .d (.int m)] := by
  obtain ⟨d, n1, g0, g1, e1⟩ := take_ex n (m + 1) (by omega) (by omega)
  have hlen : (nums 0 d.toNat).length = d.toNat := by simp [nums]
  have l1 := hs.l1
  have l3 := hs.l3
  have hsl := len_tl s
  have hz : s.length ≤ 16777216 := by omega
  obtain ⟨acc, ρ', key1, n2, cs, rfl, rfl, hly, hys⟩ := lc_inv0 (h := put 3) (ft := fun ρ => R.ok true ρ) (fe := ce__law_word_0) (vs := [3]) (xs := nums 0 d.toNat) (ρ := [.own true [.int n1], .d (.str s), .d (.int m), .no])
    (fun i acc ρ => ∃ (n2 : NB) (cs : List Nat), ρ = [.own true [.int n2], .d (.str s), .d (.int m), .no] ∧ acc = sgs cs ∧ cs.length = i ∧ ∀ c ∈ cs, c ∈ tl s)
    ⟨n1, [], rfl, rfl, rfl, by simp⟩ (fun i x acc ρ hx hI => by
      obtain ⟨n2, cs, rfl, rfl, hl, hys⟩ := hI
      have hi : i < d.toNat := by
        have := (List.getElem?_eq_some_iff.mp hx).1
        omega
      obtain ⟨d', n3, d0, d1, ed⟩ := take_ex n2 (s.length : Int) (by omega) (by omega)
      obtain ⟨c, ec, hc⟩ := atI_some (xs := tl s) d0 (by omega)
      have ec' : atI s.cps.toList d' = some c := ec
      refine ⟨[.own true [.int n2], .d (.str s), .d (.int m), .d x], _, [.own true [.int n3], .d (.str s), .d (.int m), .d x], .str (sg1 c), by simp [put_eq], rfl, ?_, by simp [sgs_len, hl, sizeLine]; omega, n3, cs ++ [c], by simp, sgs_app cs c, by simp [hl], fun y hy => ?_⟩
      · simp [ce__law_word_0, hz, sizeLine, ed, ec']
      · rcases List.mem_append.mp hy with hy | hy
        · exact hys y hy
        · rw [List.mem_singleton.mp hy]; exact hc)
  rw [hlen] at hly
  have hj : joinD (.str (Str.ofString "")) [.list (sgs cs)] = some (.str (ofL cs)) := join_sgs cs (by omega)
  refine ⟨cs, n2, by omega, hys, ?_⟩
  have hr : (-4611686018427387904 : Int) ≤ d ∧ (d : Int) < 4611686018427387904 := by omega
  simp [m__law_word, gOf, w__law_word, put_eq, e1, hr.1, hr.2, key1, hj]
end Lw
namespace Lw
open PySem PySem.Spec L2 Evl Dt
open TL (tl joinL tl_join tl_ofString join_eq tl_append len_tl)
/-! ### what a comprehension leaves, over things told as data -/
theorem lc_filterM {α : Type} {h : Pd → Rho → Option Rho} {ft : Rho → R Bool} {fe : Rho → R AV} {vs : List Nat} (d : α → Pd) (p : α → Bool) (g : α → Pd) {ρ : Rho} : ∀ {l : List α} {acc : List Pd}, (∀ x ∈ l, ∃ ρ1 ρ2, h (d x) ρ = some ρ1 ∧ ft ρ1 = .ok (p x) ρ2 ∧ (p x = false → wipeR ρ2 vs = ρ) ∧ (p x = true → ∃ ρ3, fe ρ2 = .ok (.d (g x)) ρ3 ∧ wipeR ρ3 vs = ρ)) →
    acc.length + l.length ≤ 16777216 → lcRun h ft fe vs (l.map d) acc ρ = .ok (acc ++ (l.filter p).map g) ρ
  | [], acc, _, _ => by simp
  | x :: l, acc, H, hl => by
    obtain ⟨ρ1, ρ2, e1, e2, e3, e4⟩ := H x List.mem_cons_self
    have hl' : acc.length + l.length + 1 ≤ 16777216 := by simp at hl; omega
    have hz : acc.length < sizeLine := by simp [sizeLine]; omega
    rw [List.map_cons]
    cases hp : p x with
    | true =>
      rw [hp] at e2
      obtain ⟨ρ3, e5, e6⟩ := e4 hp
      rw [lc_cons_yes e1 e2 e5 hz, e6, lc_filterM d p g (fun y hy => H y (List.mem_cons_of_mem _ hy)) (by simp; omega)]
      simp [List.filter_cons, hp]
    | false =>
      rw [hp] at e2
      rw [lc_cons_no e1 e2, e3 hp, lc_filterM d p g (fun y hy => H y (List.mem_cons_of_mem _ hy)) (by omega)]
      simp [List.filter_cons, hp]
theorem at1 (x y : Pd) (rest : List Pd) : atI (x :: y :: rest) 1 = some y := by
  unfold atI ixN
  rw [if_pos (by omega), if_pos (by simp only [List.length_cons]; omega)]
  rfl
theorem at2 (x y z : Pd) (rest : List Pd) : atI (x :: y :: z :: rest) 2 = some z := by
  unfold atI ixN
  rw [if_pos (by omega), if_pos (by simp only [List.length_cons]; omega)]
  rfl
theorem intsD_map {α : Type} (f : α → Int) (l : List α) : intsD (l.map fun x => .int (f x)) = some (l.map f) := by
  induction l with
  | nil => rfl
  | cons x l ih => simp only [List.map_cons, intsD]; rw [ih]
theorem inD_str (a b : Str) : inD (.str a) (.str b) = some (.bool (inStr a b)) := rfl
theorem eqvAll_ints : ∀ l : List Int, PyData.eqvAll (l.map PyData.int) (l.map PyData.int) = true
  | [] => by simp [PyData.eqvAll]
  | a :: l => by
    have := eqvAll_ints l
    simp [PyData.eqvAll, this, PyData.eqv]
theorem ne_ints (l : List Int) : neD (.tuple (l.map PyData.int)) (.tuple (l.map PyData.int)) = some (.bool false) := by
  have hs : sh 60 (.tuple (l.map PyData.int)) = true := by
    rw [sh_tuple, List.all_map, List.all_eq_true]
    intro c hc
    exact sh_int
  have h2 := eqvAll_ints l
  simp [neD, eqB_tuple, hs, h2]
abbrev E0 : Str := S ""
end Lw
namespace Lw
open PySem PySem.Spec L2 Evl Dt
open TL (tl joinL tl_join tl_ofString join_eq tl_append len_tl)
/-! ### equations for laws without class Road -/
theorem chars_sgs (s : Str) : chars s = sgs (tl s) := chars_eq s
theorem fCallP_ok {n i : Nat} {g : Rho → R RV} {fa : Rho → R (List AV)} {ρ ρ1 as' : Rho} {as : List AV} {xs ps0 ps ps' : List Pd} {b0 b c : Bool} {x : Pd} (h0 : ρ[i]? = some (.own b0 ps0)) (ha : fa ρ = .ok as ρ1) (hx : argsD n as = some xs) (h1 : ρ1[i]? = some (.own b ps))
    (hg : g (.own true ps :: xs.map Sl.d) = .ok (.d x) (.own c ps' :: as')) : fCallP n i g fa ρ = .ok (.d x) (ρ1.set i (.own b ps')) := by
  unfold fCallP
  rw [h0]
  show (fa ρ).bind _ = _
  rw [ha]
  show kCallP i g (argsD n as) ρ1 = _
  unfold kCallP
  rw [hx, h1]
  simp only
  rw [hg]
theorem fSeq_nx {f g : Rho → R Fl} {ρ ρ1 : Rho} (h : f ρ = .ok .nx ρ1) : fSeq f g ρ = g ρ1 := by
  unfold fSeq
  rw [h]
theorem fCallT_ok {n : Nat} {g : Rho → R RV} {fl : Rho → R (List Pd)} {fa : Rho → R (List AV)} {ρ ρ1 ρ2 as' : Rho} {as : List AV} {ps xs : List Pd} {x : Pd} (hl : fl ρ = .ok ps ρ1) (ha : fa ρ1 = .ok as ρ2) (hx : argsD n as = some xs) (hg : g (.own true ps :: xs.map Sl.d) = .ok (.d x) as') : fCallT n g fl fa ρ = .ok (.d x) ρ2 := by
  rw [fCallT_ap, hl]
  show (fa ρ1).bind _ = _
  rw [ha]
  show kCallT g ps (argsD n as) ρ2 = _
  rw [hx, kCallT_some, hg]
end Lw
namespace Lw
open PySem PySem.Spec L2 Evl Dt
open TL (tl joinL tl_join tl_ofString join_eq tl_append len_tl)
/-! ### a telling drawn -/
/-- a step: the signs told and the signs said -/
structure Stp where
  a : List Nat
  b : List Nat
def Stp.d (t : Stp) : Pd := .tuple [.str (ofL t.a), .str (ofL t.b)]
structure Stp.Ok (s : Str) (t : Stp) : Prop where
  a1 : t.a.length ≤ 1
  b1 : t.b.length ≤ 1
  ne : t.a ++ t.b ≠ []
  ina : ∀ c ∈ t.a, c ∈ tl s
  inb : ∀ c ∈ t.b, c ∈ tl s
theorem ofL_nil : ofL [] = S "" := rfl
theorem tel_add (n : NB) {s : Str} (hs : SgOk s) (ts : List Stp) (hts : ts.length ≤ 1000) (m : Nat) (hm : m ≤ 1) {s2 s4 s5 : Sl} (i5 : isIo s5 = false) : ∃ (n' : NB) (us : List Stp) (t5 : Sl), isIo t5 = false ∧ us.length = m ∧ (∀ t ∈ us, t.Ok s ∧ t.a = []) ∧
    forRun (put 5) fb__law_telling_1 (nums 0 m) [.own true [.int n], .d (.str s), s2, .own false (ts.map Stp.d), s4, s5] = .ok .nx [.own true [.int n'], .d (.str s), s2, .own false ((ts ++ us).map Stp.d), s4, t5] := by
  have hlen : (nums 0 m).length = m := by simp [nums]
  have l1 := hs.l1
  have l3 := hs.l3
  have hsl := len_tl s
  have hz : s.length ≤ 16777216 := by omega
  obtain ⟨ρ', e, n', us, t5, h5, hul, hok, rfl⟩ := for_inv (h := put 5) (fb := fb__law_telling_1) (xs := nums 0 m) (ρ := [.own true [.int n], .d (.str s), s2, .own false (ts.map Stp.d), s4, s5])
    (fun i ρ => ∃ (n' : NB) (us : List Stp) (t5 : Sl), isIo t5 = false ∧ us.length = i ∧ (∀ t ∈ us, t.Ok s ∧ t.a = []) ∧ ρ = [.own true [.int n'], .d (.str s), s2, .own false ((ts ++ us).map Stp.d), s4, t5])
    (fun i x ρ hx hI => by
      obtain ⟨n', us, t5, h5, hul, hok, rfl⟩ := hI
      have hi : i < m := by
        have := (List.getElem?_eq_some_iff.mp hx).1
        omega
      obtain ⟨d', n3, d0, d1, ed⟩ := take_ex n' (s.length : Int) (by omega) (by omega)
      obtain ⟨c, ec, hc⟩ := atI_some (xs := tl s) d0 (by omega)
      have ec' : atI s.cps.toList d' = some c := ec
      refine ⟨[.own true [.int n'], .d (.str s), s2, .own false ((ts ++ us).map Stp.d), s4, .d x], _, by simp [put_eq, h5], .inl ?_, n3, us ++ [⟨[], [c]⟩], .d x, rfl, by simp [hul], ?_, rfl⟩
      · have hz2 : ts.length + us.length < 16777216 := by omega
        have e1 : Stp.d ⟨[], [c]⟩ = .tuple [.str (S ""), .str (sg1 c)] := rfl
        simp [fb__law_telling_1, hz, sizeLine, ed, ec', hz2, e1]
      · intro t ht
        rcases List.mem_append.mp ht with ht | ht
        · exact hok t ht
        · rw [List.mem_singleton.mp ht]
          exact ⟨⟨by simp, by simp, by simp, by simp, by simpa using hc⟩, rfl⟩)
    ⟨n, [], s5, i5, rfl, by simp, by simp⟩
  rw [hlen] at hul
  exact ⟨n', us, t5, h5, hul, hok, e⟩
theorem tel_at {s : Str} {c : Nat} {d : Int} (h0 : 0 ≤ d) (h1 : d < s.length + 2) : ∃ b : List Nat, b.length ≤ 1 ∧ (∀ x ∈ b, x = c ∨ x ∈ tl s) ∧ atI (PyData.str (sg1 c) :: (chars s ++ [.str (S "")])) d = some (.str (ofL b)) := by
  have e : PyData.str (sg1 c) :: (chars s ++ [.str (S "")]) = ([c] :: ((tl s).map fun x => [x]) ++ [[]]).map fun b => PyData.str (ofL b) := by
    rw [chars_sgs]
    unfold sgs
    simp
    exact ⟨rfl, fun _ _ => rfl, rfl⟩
  obtain ⟨b, eb, hb⟩ := atI_some (xs := [c] :: ((tl s).map fun x => [x]) ++ [[]]) h0 (by rw [len_tl] at h1; simp at h1 ⊢; omega)
  refine ⟨b, ?_, ?_, ?_⟩
  · simp at hb
    rcases hb with rfl | ⟨x, _, rfl⟩ | rfl <;> simp
  · simp at hb
    rcases hb with rfl | ⟨x, hx, rfl⟩ | rfl
    · simp
    · intro y hy
      rw [List.mem_singleton.mp hy]
      exact .inr (by simpa using hx)
    · simp
  · rw [e, atI_map, eb]
    rfl
theorem tel_turn (n : NB) {s : Str} (hs : SgOk s) (ts : List Stp) (hts : ts.length ≤ 900) (x : List Nat) (hx : x.length ≤ 1) (hxs : ∀ c ∈ x, c ∈ tl s) {s2 s5 : Sl} (i5 : isIo s5 = false) : ∃ (n' : NB) (us : List Stp) (t5 : Sl), isIo t5 = false ∧ us.length ≤ 1 + x.length ∧ (∀ t ∈ us, t.Ok s) ∧ us.flatMap Stp.a = x ∧
    fb__law_telling_0 [.own true [.int n], .d (.str s), s2, .own false (ts.map Stp.d), .d (.str (ofL x)), s5] = .ok .nx [.own true [.int n'], .d (.str s), s2, .own false ((ts ++ us).map Stp.d), .d (.str (ofL x)), t5] := by
  have l1 := hs.l1
  have l3 := hs.l3
  have hsl := len_tl s
  have hz : s.length ≤ 16777216 := by omega
  obtain ⟨d4, n1, d0, d1, e4⟩ := take_ex n 4 (by omega) (by omega)
  obtain ⟨n2, us, t5, h5, hul, hok, e⟩ := tel_add n1 hs ts (by omega) (d4 / 2).toNat (by omega) (s2 := s2) (s4 := .d (.str (ofL x))) i5
  have hfa : us.flatMap Stp.a = [] := by
    rw [List.flatMap_eq_nil_iff]
    exact fun t ht => (hok t ht).2
  have l2 : Nat.log2 2 < 9000 := by decide
  have hr : (-4611686018427387904 : Int) ≤ d4 / 2 ∧ (d4 / 2 : Int) < 4611686018427387904 := by omega
  cases x with
  | nil =>
    have ee : decide (S "" = S "") = true := by simp
    refine ⟨n2, us, t5, h5, by simp; omega, fun t ht => (hok t ht).1, hfa, ?_⟩
    rw [ofL_nil] at e ⊢
    simp [fb__law_telling_0, e4, l2, hr.1, hr.2, e]
  | cons c r =>
    have hr' : r = [] := by
      cases r with
      | nil => rfl
      | cons _ _ => simp at hx
    subst hr'
    have ne : ¬ (ofL [c] = Str.ofString "") := fun h => by
      have : tl (ofL [c]) = tl (ofL []) := congrArg tl h
      cases this
    obtain ⟨d, n3, g0, g1, ed⟩ := take_ex n2 (s.length + 2 : Int) (by omega) (by omega)
    obtain ⟨b, hb1, hb2, eb⟩ := tel_at (s := s) (c := c) g0 g1
    have hzc : (chars s).length = s.length := by rw [chars_sgs, sgs_len, hsl]
    refine ⟨n3, us ++ [⟨[c], b⟩], t5, h5, by simp; omega, ?_, ?_, ?_⟩
    · intro t ht
      rcases List.mem_append.mp ht with ht | ht
      · exact (hok t ht).1
      · rw [List.mem_singleton.mp ht]
        have hcs := hxs c (by simp)
        exact ⟨by simp, hb1, by simp, by simpa using hcs, fun y hy => by
          rcases hb2 y hy with h | h
          · rw [h]; exact hcs
          · exact h⟩
    · rw [List.flatMap_append, hfa]
      simp
    · have z1 : 1 + s.length ≤ 16777216 := by omega
      have z2 : s.length + 1 + 1 ≤ 16777216 := by omega
      have z3 : ts.length + us.length < 16777216 := by omega
      have eo : ofL [c] = sg1 c := rfl
      have e1 : Stp.d ⟨[c], b⟩ = .tuple [.str (sg1 c), .str (ofL b)] := rfl
      rw [eo] at ne e
      rw [eo]
      simp only [List.map_append, List.map_cons, List.map_nil, e1] at e ⊢
      simp [fb__law_telling_0, e4, l2, hr.1, hr.2, e, ne, hz, sizeLine, z1, z2, z3, hzc, ed, eb]
theorem m_tellingS (n : NB) {s : Str} (hs : SgOk s) (cs : List Nat) (hcs : ∀ c ∈ cs, c ∈ tl s) (hl : cs.length ≤ 100) : ∃ (n' : NB) (ts : List Stp), ts.length ≤ 2 * cs.length + 1 ∧ (∀ t ∈ ts, t.Ok s) ∧ ts.flatMap Stp.a = cs ∧
    m__law_telling [.own true [.int n], .d (.str s), .d (.str (ofL cs))] = .ok (.d (.tuple (ts.map Stp.d))) [.own true [.int n'], .d (.str s), .d (.str (ofL cs))] := by
  have ex : chars (ofL cs) ++ [PyData.str (S "")] = (cs.map (fun c => [c]) ++ [[]]).map fun x => PyData.str (ofL x) := by
    rw [chars_sgs, tl_ofL]
    unfold sgs
    simp
    exact ⟨fun _ _ => rfl, rfl⟩
  have hlx : ((cs.map (fun c => [c]) ++ [[]]).map fun x => PyData.str (ofL x)).length = cs.length + 1 := by simp
  obtain ⟨ρ', e, n', ts, t4, t5, h4, h5, htl, hok, hfl, rfl⟩ := for_inv (h := put 4) (fb := fb__law_telling_0) (xs := (cs.map (fun c => [c]) ++ [[]]).map fun x => PyData.str (ofL x)) (ρ := [.own true [.int n], .d (.str s), .d (.str (ofL cs)), .own false [], .no, .no])
    (fun i ρ => ∃ (n' : NB) (ts : List Stp) (t4 t5 : Sl), isIo t4 = false ∧ isIo t5 = false ∧ ts.length ≤ i + min i cs.length ∧ (∀ t ∈ ts, t.Ok s) ∧ ts.flatMap Stp.a = cs.take i ∧ ρ = [.own true [.int n'], .d (.str s), .d (.str (ofL cs)), .own false (ts.map Stp.d), t4, t5])
    (fun i x ρ hx hI => by
      obtain ⟨n', ts, t4, t5, h4, h5, htl, hok, hfl, rfl⟩ := hI
      have hi : i < cs.length + 1 := by
        have := (List.getElem?_eq_some_iff.mp hx).1
        omega
      rw [List.getElem?_map] at hx
      obtain ⟨y, hy, rfl⟩ := Option.map_eq_some_iff.mp hx
      have hyy : y.length ≤ 1 ∧ (∀ c ∈ y, c ∈ tl s) ∧ cs.take (i + 1) = cs.take i ++ y ∧ (y.length + min i cs.length ≤ min (i + 1) cs.length) := by
        by_cases hic : i < cs.length
        · rw [List.getElem?_append_left (by simpa using hic), List.getElem?_map, List.getElem?_eq_getElem hic] at hy
          simp at hy
          subst hy
          refine ⟨by simp, by simpa using hcs _ (List.getElem_mem hic), (List.take_append_getElem hic).symm, by simp; omega⟩
        · have : i = cs.length := by omega
          subst this
          rw [List.getElem?_append_right (by simp)] at hy
          simp at hy
          subst hy
          refine ⟨by simp, by simp, by simp [List.take_of_length_le (Nat.le_succ cs.length)], by simp⟩
      obtain ⟨y1, y2, y3, y4⟩ := hyy
      obtain ⟨n2, us, u5, j5, hul, huk, huf, eu⟩ := tel_turn n' hs ts (by omega) y y1 y2 (s2 := .d (.str (ofL cs))) h5
      refine ⟨[.own true [.int n'], .d (.str s), .d (.str (ofL cs)), .own false (ts.map Stp.d), .d (.str (ofL y)), t5], _, by simp [put_eq, h4], .inl eu, n2, ts ++ us, _, u5, rfl, j5, ?_, ?_, ?_, rfl⟩
      · rw [List.length_append]
        omega
      · intro t ht
        rcases List.mem_append.mp ht with ht | ht
        · exact hok t ht
        · exact huk t ht
      · rw [List.flatMap_append, hfl, huf, y3])
    ⟨n, [], .no, .no, rfl, rfl, by simp, by simp, by simp, by simp⟩
  rw [hlx] at htl hfl
  refine ⟨n', ts, by omega, hok, by rw [hfl]; exact List.take_of_length_le (by omega), ?_⟩
  have z1 : (ofL cs).length ≤ 16777216 := by rw [len_tl, tl_ofL]; omega
  have z2 : (chars (ofL cs)).length + 1 ≤ 16777216 := by rw [chars_sgs, sgs_len, tl_ofL]; omega
  simp only [← ex] at e
  simp [m__law_telling, gOf, w__law_telling, put_eq, putOwn_eq, sizeLine, z1, z2, e]
end Lw
namespace Lw
open PySem PySem.Spec L2 Evl Dt
open TL (tl joinL tl_join tl_ofString join_eq tl_append len_tl)
/-! ### texts of signs -/
/-- a code as data: its signs, whatever its wishes -/
abbrev cdW (s : Str) (W : Pd) : Pd := .tuple [.str s, W]
def okP : Pd → Bool
  | .str x => decide (x.length ≤ 1000)
  | _ => true
def isTextD (s : Str) : Pd → Bool
  | .str z => decide (∀ c ∈ tl z, c ∈ tl s)
  | _ => false
def isWordD (s : Str) : Pd → Bool
  | .str z => decide (∀ c ∈ tl z, c ∈ tl s) && decide ((z.length : Int) ≤ 8)
  | _ => false
def inTx (s : Str) : Pd → Bool
  | .str z => inStr z s
  | _ => false
theorem chars_all (z s : Str) : (chars z).all (inTx s) = decide (∀ c ∈ tl z, c ∈ tl s) := by
  unfold chars
  rw [List.all_map, Bool.eq_iff_iff, List.all_eq_true]
  simp only [decide_eq_true_eq]
  refine forall_congr' fun c => imp_congr_right fun _ => ?_
  show inStr ⟨#[c]⟩ s = true ↔ _
  rw [inStr_one, decide_eq_true_eq]
theorem m_text (d : Pd) (s : Str) (hd : okP d = true) : m_is_text_of [.d d, .d (.str s)] = .ok (.d (.bool (isTextD s d))) [.d d, .d (.str s)] := by
  cases d with
  | str z =>
    have hs : z.length ≤ 1000 := by simpa [okP] using hd
    have key : lcRun (put 2) (fun ρ => R.ok true ρ) ce_is_text_of_0 [2] (chars z) [] [.d (.str z), .d (.str s), .no] = .ok ([] ++ (chars z).map fun x => .bool (inTx s x)) [.d (.str z), .d (.str s), .no] := by
      refine lc_map _ (fun x hx => ?_) ?_
      · obtain ⟨c, hc, rfl⟩ := List.mem_map.mp hx
        exact ⟨[.d (.str z), .d (.str s), .d (.str ⟨#[c]⟩)], [.d (.str z), .d (.str s), .d (.str ⟨#[c]⟩)], [.d (.str z), .d (.str s), .d (.str ⟨#[c]⟩)], by simp [put_eq], rfl, by simp [ce_is_text_of_0, inD, inB, inTx], by simp⟩
      · have : (chars z).length = z.length := by simp [chars, len_tl]
        simp [sizeLine]
        omega
    have ea := boolsD_all (inTx s) (chars z)
    rw [chars_all, allD_list] at ea
    simp only [List.nil_append] at key
    simp [m_is_text_of, gOf, w_is_text_of, isStrD, key, ea, isTextD]
  | _ => simp [m_is_text_of, gOf, w_is_text_of, isStrD, isTextD]
theorem m_word (s : Str) (W : Pd) (d : Pd) (hd : okP d = true) : m_is_word [.d (cdW s W), .d d] = .ok (.d (.bool (isWordD s d))) [.d (cdW s W), .d d] := by
  have mt := m_text d s hd
  cases d with
  | str z =>
    have hz : z.length ≤ 16777216 := by
      have : z.length ≤ 1000 := by simpa [okP] using hd
      omega
    have hw : isWordD s (.str z) = (isTextD s (.str z) && decide ((z.length : Int) ≤ 8)) := rfl
    rw [hw]
    generalize isTextD s (.str z) = B at mt ⊢
    cases B <;> simp [m_is_word, gOf, w_is_word, cdW, at0, mt, hz, sizeLine]
  | _ => simp [isTextD] at mt; simp [m_is_word, gOf, w_is_word, cdW, at0, mt, isWordD]
/-! ### parts, steps -/
def partB (s : Str) : Pd → Bool
  | .str x => decide ((x.length : Int) ≤ 1) && inStr x s
  | _ => false
def isE : Pd → Bool
  | .str x => decide (x = E0)
  | _ => false
def stepB (s : Str) : Pd → Bool
  | .tuple [x, y] => partB s x && (partB s y && !(isE x && isE y))
  | _ => false
def okS : Pd → Bool
  | .tuple xs => xs.all okP
  | _ => true
def okT : Pd → Bool
  | .tuple xs => decide (xs.length ≤ 1000) && xs.all okS
  | _ => true
theorem m_part (s : Str) (W : Pd) (d : Pd) (hd : okP d = true) : m_is_part [.d (cdW s W), .d d] = .ok (.d (.bool (partB s d))) [.d (cdW s W), .d d] := by
  cases d with
  | str z =>
    have hz : z.length ≤ 16777216 := by
      have : z.length ≤ 1000 := by simpa [okP] using hd
      omega
    by_cases h : (z.length : Int) ≤ 1
    · simp [m_is_part, gOf, w_is_part, cdW, at0, isStrD, hz, sizeLine, h, inD_str, partB]
    · simp [m_is_part, gOf, w_is_part, cdW, at0, isStrD, hz, sizeLine, h, inD_str, partB]
  | _ => simp [m_is_part, gOf, w_is_part, isStrD, partB]
theorem inStr_cases {s x : Str} (h1 : (x.length : Int) ≤ 1) (h : inStr x s = true) : ∃ a : List Nat, x = ofL a ∧ a.length ≤ 1 ∧ ∀ c ∈ a, c ∈ tl s := by
  rw [len_tl] at h1
  refine ⟨tl x, rfl, by omega, ?_⟩
  cases e : tl x with
  | nil => simp
  | cons c r =>
    rw [e] at h1
    cases r with
    | nil =>
      intro d hd
      rw [List.mem_singleton.mp hd]
      have ex : x = ⟨#[c]⟩ := str_ext e
      rw [ex, inStr_one] at h
      exact of_decide_eq_true h
    | cons _ _ => simp at h1; omega
theorem inStr_nil (s : Str) : inStr (ofL []) s = true :=
  (PySem.StrLaws.found_iff s (ofL [])).mpr ⟨0, Nat.zero_le _, by simp [Builtin.Str.subAt, ofL, Str.length]⟩
theorem inStr_ofL {s : Str} {a : List Nat} (h1 : a.length ≤ 1) (h : ∀ c ∈ a, c ∈ tl s) : inStr (ofL a) s = true := by
  cases a with
  | nil => exact inStr_nil s
  | cons c r =>
    cases r with
    | nil => exact (inStr_one c s).trans (decide_eq_true (h c (by simp)))
    | cons _ _ => simp at h1
theorem ofL_E {a : List Nat} : (ofL a = E0) ↔ a = [] := by
  constructor
  · intro h
    have : tl (ofL a) = tl (ofL []) := congrArg tl h
    exact this
  · intro h; subst h; rfl
theorem stepB_of {s : Str} {t : Stp} (h : t.Ok s) : stepB s t.d = true := by
  have l1 : ((ofL t.a).length : Int) ≤ 1 := by rw [len_tl, tl_ofL]; have := h.a1; omega
  have l2 : ((ofL t.b).length : Int) ≤ 1 := by rw [len_tl, tl_ofL]; have := h.b1; omega
  have e1 := inStr_ofL h.a1 h.ina
  have e2 := inStr_ofL h.b1 h.inb
  have hne := h.ne
  simp only [stepB, Stp.d, partB, isE, decide_eq_true l1, decide_eq_true l2, e1, e2, Bool.true_and, Bool.not_eq_true', ofL_E]
  by_cases ha : t.a = []
  · by_cases hb : t.b = []
    · rw [ha, hb] at hne; exact absurd rfl hne
    · simp [hb]
  · simp [ha]
theorem stepB_ex {s : Str} {x : Pd} (h : stepB s x = true) : ∃ t : Stp, x = t.d ∧ t.Ok s := by
  unfold stepB at h
  split at h
  · rename_i x y
    rw [Bool.and_eq_true, Bool.and_eq_true] at h
    obtain ⟨hx, hy, hn⟩ := h
    cases x with
    | str u =>
      cases y with
      | str v =>
        simp only [partB, Bool.and_eq_true, decide_eq_true_eq] at hx hy
        obtain ⟨a, rfl, a1, a2⟩ := inStr_cases hx.1 hx.2
        obtain ⟨b, rfl, b1, b2⟩ := inStr_cases hy.1 hy.2
        refine ⟨⟨a, b⟩, rfl, a1, b1, ?_, a2, b2⟩
        intro e
        obtain ⟨rfl, rfl⟩ := List.append_eq_nil_iff.mp e
        simp [isE, ofL_E] at hn
      | _ => cases hy
    | _ => cases hx
  · cases h
theorem stepsB_ex {s : Str} : ∀ {xs : List Pd}, xs.all (stepB s) = true → ∃ ts : List Stp, xs = ts.map Stp.d ∧ ∀ t ∈ ts, t.Ok s
  | [], _ => ⟨[], rfl, by simp⟩
  | x :: xs, h => by
    rw [List.all_cons, Bool.and_eq_true] at h
    obtain ⟨t, rfl, ht⟩ := stepB_ex h.1
    obtain ⟨ts, rfl, hts⟩ := stepsB_ex h.2
    exact ⟨t :: ts, rfl, by
      intro u hu
      rcases List.mem_cons.mp hu with rfl | hu
      · exact ht
      · exact hts u hu⟩
theorem stepsB_of {s : Str} {ts : List Stp} (h : ∀ t ∈ ts, t.Ok s) : (ts.map Stp.d).all (stepB s) = true := by
  rw [List.all_map, List.all_eq_true]
  exact fun t ht => stepB_of (h t ht)
theorem stp_ok {s : Str} (hs : SgOk s) {t : Stp} (h : t.Ok s) : PyData.strOk (ofL t.a) = true ∧ PyData.strOk (ofL t.b) = true := by
  constructor
  · exact strOk_lt fun c hc => by have := hs.let' c (h.ina c hc); omega
  · exact strOk_lt fun c hc => by have := hs.let' c (h.inb c hc); omega
theorem E0_ok : PyData.strOk E0 = true := by decide +kernel
theorem m_step {s : Str} (W : Pd) (hs : SgOk s) (d : Pd) (hd : okS d = true) : m_is_step [.d (cdW s W), .d d] = .ok (.d (.bool (stepB s d))) [.d (cdW s W), .d d] := by
  cases d with
  | tuple xs =>
    by_cases hl : xs.length = 2
    · obtain ⟨x, y, rfl⟩ : ∃ x y, xs = [x, y] := by
        cases xs with
        | nil => simp at hl
        | cons x r =>
          cases r with
          | nil => simp at hl
          | cons y r =>
            cases r with
            | nil => exact ⟨x, y, rfl⟩
            | cons _ _ => simp at hl
      simp only [okS, List.all_cons, List.all_nil, Bool.and_true, Bool.and_eq_true] at hd
      have key := lc_map (h := put 2) (ft := fun ρ => R.ok true ρ) (fe := ce_is_step_0) (vs := [2]) (fun p => .bool (partB s p)) (ρ := [.d (cdW s W), .d (.tuple [x, y]), .no]) (xs := [x, y]) (acc := []) (fun p hp => by
        have hpo : okP p = true := by
          rcases List.mem_cons.mp hp with rfl | hp
          · exact hd.1
          · rw [List.mem_singleton.mp hp]; exact hd.2
        have mp := m_part s W p hpo
        exact ⟨[.d (cdW s W), .d (.tuple [x, y]), .d p], _, [.d (cdW s W), .d (.tuple [x, y]), .d p], by simp [put_eq], rfl, by simp [ce_is_step_0, mp], by simp⟩) (by simp [sizeLine])
      rw [List.nil_append] at key
      have eb := boolsD_map (partB s) [x, y]
      simp only [List.map_cons, List.map_nil] at key eb
      cases hx : partB s x with
      | false =>
        rw [hx] at key eb
        simp [m_is_step, gOf, w_is_step, isTupD, key, eb, stepB, hx]
      | true =>
        cases hy : partB s y with
        | false =>
          rw [hx, hy] at key eb
          simp [m_is_step, gOf, w_is_step, isTupD, key, eb, stepB, hx, hy]
        | true =>
          rw [hx, hy] at key eb
          cases x with
          | str u =>
            cases y with
            | str v =>
              simp only [partB, Bool.and_eq_true, decide_eq_true_eq] at hx hy
              obtain ⟨a, rfl, a1, a2⟩ := inStr_cases hx.1 hx.2
              obtain ⟨b, rfl, b1, b2⟩ := inStr_cases hy.1 hy.2
              have o1 : PyData.strOk (ofL a) = true := strOk_lt fun c hc => by have := hs.let' c (a2 c hc); omega
              have o2 : PyData.strOk (ofL b) = true := strOk_lt fun c hc => by have := hs.let' c (b2 c hc); omega
              have o3 := E0_ok
              have en : neD (.tuple [.str (ofL a), .str (ofL b)]) (.tuple [.str E0, .str E0]) = some (.bool (!(isE (.str (ofL a)) && isE (.str (ofL b))))) := by
                simp [neD, eqB_tuple, sh_tuple, o1, o2, o3, PyData.eqvAll, eqv_str, isE]
              have e1 : partB s (.str (ofL a)) = true := by simp only [partB, decide_eq_true hx.1, hx.2, Bool.and_self]
              have e2 : partB s (.str (ofL b)) = true := by simp only [partB, decide_eq_true hy.1, hy.2, Bool.and_self]
              simp [m_is_step, gOf, w_is_step, isTupD, key, eb, stepB, e1, e2, sizeLine, en]
            | _ => simp [partB] at hy
          | _ => simp [partB] at hx
    · have hl' : ¬ ((xs.length : Int) = 2) := by omega
      have e : stepB s (.tuple xs) = false := by
        unfold stepB
        split
        · rename_i h
          cases h
          simp at hl
        · rfl
      simp [m_is_step, gOf, w_is_step, isTupD, hl', e]
  | _ => simp [m_is_step, gOf, w_is_step, isTupD, stepB]
theorem m_steps' {s : Str} (W : Pd) (hs : SgOk s) (d : Pd) (hd : okT d = true) : m_is_steps [.d (cdW s W), .d d] = .ok (.d (.bool (match d with | .tuple xs => xs.all (stepB s) | _ => false))) [.d (cdW s W), .d d] := by
  cases d with
  | tuple xs =>
    simp only [okT, Bool.and_eq_true, decide_eq_true_eq] at hd
    have hz : xs.length ≤ 16777216 := by omega
    have key := lc_map (h := put 2) (ft := fun ρ => R.ok true ρ) (fe := ce_is_steps_0) (vs := [2]) (fun p => .bool (stepB s p)) (ρ := [.d (cdW s W), .d (.tuple xs), .no]) (xs := xs) (acc := []) (fun p hp => by
      have mp := m_step W hs p (List.all_eq_true.mp hd.2 p hp)
      exact ⟨[.d (cdW s W), .d (.tuple xs), .d p], _, [.d (cdW s W), .d (.tuple xs), .d p], by simp [put_eq], rfl, by simp [ce_is_steps_0, mp], by simp⟩) (by simp [sizeLine]; omega)
    rw [List.nil_append] at key
    have eb := boolsD_map (stepB s) xs
    simp [m_is_steps, gOf, w_is_steps, isTupD, key, eb]
  | _ => simp [m_is_steps, gOf, w_is_steps, isTupD]
/-! ### words of tellings -/
theorem tl_joinOf (l : List (List Nat)) : Txt.join (Str.ofString "") (l.map ofL) = ofL l.flatten := by
  refine str_ext ?_
  rw [tl_join0, tl_ofL, List.map_map]
  congr 1
  conv => rhs; rw [← List.map_id l]
  exact List.map_congr_left fun _ _ => rfl
theorem join_of (l : List (List Nat)) (h : l.length ≤ 1000) (h1 : ∀ x ∈ l, x.length ≤ 1) : joinD (.str (Str.ofString "")) [.list (l.map fun x => PyData.str (ofL x))] = some (.str (ofL l.flatten)) := by
  have e : (l.map fun x => PyData.str (ofL x)) = (l.map ofL).map PyData.str := by rw [List.map_map]; rfl
  have hs : ((l.map ofL).map (·.length)).sum ≤ l.length := by
    rw [List.map_map]
    clear e h
    induction l with
    | nil => simp
    | cons a l ih =>
      have := ih fun x hx => h1 x (List.mem_cons_of_mem _ hx)
      have ha := h1 a List.mem_cons_self
      have el : (ofL a).length = a.length := by rw [len_tl, tl_ofL]
      simp only [List.map_cons, List.sum_cons, List.length_cons, Function.comp_apply] at this ⊢
      omega
  rw [e]
  simp only [joinD]
  rw [strsD_map]
  simp only
  rw [if_pos (by rw [List.length_map]; show _ + l.length * 0 ≤ 16777216; omega), tl_joinOf]
theorem m_wordof {s : Str} (ts : List Stp) (hl : ts.length ≤ 1000) (hok : ∀ t ∈ ts, t.Ok s) : m_word_of [.d (.tuple (ts.map Stp.d))] = .ok (.d (.str (ofL (ts.flatMap Stp.a)))) [.d (.tuple (ts.map Stp.d))] := by
  have key := lc_map (h := put 1) (ft := fun ρ => R.ok true ρ) (fe := ce_word_of_0) (vs := [1]) (fun x => match x with | .tuple [a, _] => a | x => x) (ρ := [.d (.tuple (ts.map Stp.d)), .no]) (xs := ts.map Stp.d) (acc := []) (fun x hx => by
    obtain ⟨t, ht, rfl⟩ := List.mem_map.mp hx
    exact ⟨[.d (.tuple (ts.map Stp.d)), .d t.d], _, [.d (.tuple (ts.map Stp.d)), .d t.d], by simp [put_eq], rfl, by simp [ce_word_of_0, Stp.d, at0], by simp⟩) (by simp [sizeLine]; omega)
  have e : (ts.map Stp.d).map (fun x => match x with | .tuple [a, _] => a | x => x) = (ts.map Stp.a).map fun x => PyData.str (ofL x) := by
    rw [List.map_map, List.map_map]
    exact List.map_congr_left fun _ _ => rfl
  rw [List.nil_append, e] at key
  have hj := join_of (ts.map Stp.a) (by rw [List.length_map]; exact hl) (fun x hx => by
    obtain ⟨t, ht, rfl⟩ := List.mem_map.mp hx
    exact (hok t ht).a1)
  rw [← List.flatMap_def] at hj
  simp only [m_word_of, gOf, w_word_of, fRet_ap, fM1_ap, fC_ap, bind_ok', res_d, fL_ap, fLc_ap]
  simp [key, hj, -List.map_map]
theorem flat_le {ts : List Stp} {s : Str} (h : ∀ t ∈ ts, t.Ok s) : (ts.flatMap Stp.a).length ≤ ts.length := by
  induction ts with
  | nil => simp
  | cons t ts ih =>
    have h1 := (h t List.mem_cons_self).a1
    have h2 := ih fun u hu => h u (List.mem_cons_of_mem _ hu)
    rw [List.flatMap_cons, List.length_append, List.length_cons]
    omega
/-- how many signs are told by a step -/
def fst1 : Pd → Nat
  | .tuple (.str x :: _) => x.length
  | _ => 0
theorem fst1_sum (ts : List Stp) : ((ts.map Stp.d).map fst1).sum = (ts.flatMap Stp.a).length := by
  induction ts with
  | nil => rfl
  | cons t ts ih =>
    have e : fst1 t.d = t.a.length := by
      show (ofL t.a).length = _
      rw [len_tl, tl_ofL]
    rw [List.map_cons, List.map_cons, List.sum_cons, ih, List.flatMap_cons, List.length_append, e]
def telB (s : Str) : Pd → Bool
  | .tuple xs => xs.all (stepB s) && decide (((xs.map fst1).sum : Int) ≤ 8)
  | _ => false
theorem m_istel {s : Str} (W : Pd) (hs : SgOk s) (d : Pd) (hd : okT d = true) : m_is_telling [.d (cdW s W), .d d] = .ok (.d (.bool (telB s d))) [.d (cdW s W), .d d] := by
  have ms := m_steps' W hs d hd
  cases d with
  | tuple xs =>
    simp only at ms
    cases h : xs.all (stepB s) with
    | false =>
      rw [h] at ms
      simp [m_is_telling, gOf, w_is_telling, ms, telB, h]
    | true =>
      rw [h] at ms
      obtain ⟨ts, rfl, hts⟩ := stepsB_ex h
      simp only [okT, Bool.and_eq_true, decide_eq_true_eq, List.length_map] at hd
      have mw := m_wordof ts hd.1 hts
      have hfl := flat_le hts
      have hok : okP (.str (ofL (ts.flatMap Stp.a))) = true := by
        simp only [okP, decide_eq_true_eq]
        rw [len_tl, tl_ofL]
        omega
      have mi := m_word s W (.str (ofL (ts.flatMap Stp.a))) hok
      have hin : ∀ x ∈ tl (ofL (ts.flatMap Stp.a)), x ∈ tl s := by
        intro x hx
        rw [tl_ofL] at hx
        obtain ⟨t, ht, hxt⟩ := List.mem_flatMap.mp hx
        exact (hts t ht).ina x hxt
      have ef := fst1_sum ts
      have el : (ofL (ts.flatMap Stp.a)).length = (ts.flatMap Stp.a).length := by rw [len_tl, tl_ofL]
      simp only [isWordD, decide_eq_true hin, Bool.true_and, el] at mi
      have et : telB s (.tuple (ts.map Stp.d)) = decide (((ts.flatMap Stp.a).length : Int) ≤ 8) := by
        simp only [telB, h, ef, Bool.true_and]
      rw [et]
      generalize ts.map Stp.d = D at *
      generalize ts.flatMap Stp.a = W at *
      simp [m_is_telling, gOf, w_is_telling, ms, mw, mi]
  | _ => simp at ms; simp [m_is_telling, gOf, w_is_telling, ms, telB]
/-- a telling's steps told as data -/
abbrev telD (ts : List Stp) : Pd := .tuple (ts.map Stp.d)
theorem okT_tel {ts : List Stp} {s : Str} (hl : ts.length ≤ 1000) (h : ∀ t ∈ ts, t.Ok s) : okT (telD ts) = true := by
  simp only [okT, Bool.and_eq_true, decide_eq_true_eq, List.length_map]
  refine ⟨hl, ?_⟩
  rw [List.all_map, List.all_eq_true]
  intro t ht
  have := h t ht
  have e1 : (ofL t.a).length ≤ 1000 := by rw [len_tl, tl_ofL]; have := this.a1; omega
  have e2 : (ofL t.b).length ≤ 1000 := by rw [len_tl, tl_ofL]; have := this.b1; omega
  simp [okS, Stp.d, okP, e1, e2]
theorem telB_of {ts : List Stp} {s : Str} (h : ∀ t ∈ ts, t.Ok s) (h8 : (ts.flatMap Stp.a).length ≤ 8) : telB s (telD ts) = true := by
  have e := stepsB_of h
  have ef := fst1_sum ts
  simp only [telB, e, ef, Bool.true_and, decide_eq_true_eq]
  omega
end Lw
namespace Lw
open PySem PySem.Spec L2 Evl Dt
theorem fRng1_of {f : Rho → Dt.R (List AV)} {ρ ρ1 : Rho} {j : Int} (e : f ρ = .ok [.d (.int j)] ρ1) (h : -4611686018427387904 ≤ j ∧ j < 4611686018427387904) : fRng1 f ρ = .ok (nums 0 j.toNat) ρ1 := by
  rw [fRng1_ap, e]
  show (if _ then _ else _) = _
  rw [if_pos]
  have e62 : (2 : Int) ^ 62 = 4611686018427387904 := by decide
  rw [e62]
  exact h
end Lw
namespace Lw
open PySem PySem.Spec L2 Evl Dt
open TL (tl joinL tl_join tl_ofString join_eq tl_append len_tl)
/-! ### books over any data -/
def gP (d : Pd) : Bool := okP d && sh 59 d
def gS : Pd → Bool
  | .tuple xs => xs.all gP
  | _ => true
def gT : Pd → Bool
  | .tuple xs => decide (xs.length ≤ 1000) && xs.all gS
  | _ => true
def gB : Pd → Bool
  | .tuple xs => decide (xs.length ≤ 1000) && xs.all gT
  | _ => true
theorem gS_ok {d : Pd} (h : gS d = true) : okS d = true := by
  cases d with
  | tuple xs =>
    simp only [gS, List.all_eq_true] at h
    simp only [okS, List.all_eq_true]
    exact fun x hx => (Bool.and_eq_true _ _ ▸ h x hx : okP x = true ∧ _).1
  | _ => rfl
theorem gT_ok {d : Pd} (h : gT d = true) : okT d = true := by
  cases d with
  | tuple xs =>
    simp only [gT, Bool.and_eq_true, List.all_eq_true] at h
    simp only [okT, Bool.and_eq_true, List.all_eq_true]
    exact ⟨h.1, fun x hx => gS_ok (h.2 x hx)⟩
  | _ => rfl
def tel6 (s : Str) : Pd → Bool
  | .tuple xs => xs.all (stepB s) && decide (((xs.map fst1).sum : Int) ≤ 6)
  | _ => false
def bookB (s : Str) : Pd → Bool
  | .tuple xs => decide ((1 : Int) ≤ xs.length) && (decide ((xs.length : Int) ≤ 6) && xs.all (tel6 s))
  | _ => false
theorem one_tel {s : Str} (W : Pd) (hs : SgOk s) (T p : Pd) (hd : gT p = true) : ce_are_tellings_0 [.d (cdW s W), .d T, .d p] = .ok (.d (.bool (tel6 s p))) [.d (cdW s W), .d T, .d p] := by
  have mt := m_istel W hs p (gT_ok hd)
  cases h : telB s p with
  | false =>
    rw [h] at mt
    have e : tel6 s p = false := by
      cases p with
      | tuple xs =>
        simp only [telB] at h
        simp only [tel6]
        cases hx : xs.all (stepB s) with
        | false => rfl
        | true =>
          rw [hx, Bool.true_and, decide_eq_false_iff_not] at h
          rw [Bool.true_and, decide_eq_false_iff_not]
          omega
      | _ => rfl
    rw [e]
    simp [ce_are_tellings_0, mt]
  | true =>
    rw [h] at mt
    cases p with
    | tuple xs =>
      simp only [telB, Bool.and_eq_true] at h
      obtain ⟨ts, rfl, hts⟩ := stepsB_ex h.1
      simp only [gT, Bool.and_eq_true, decide_eq_true_eq, List.length_map] at hd
      have mw := m_wordof ts hd.1 hts
      have ef := fst1_sum ts
      have el : (ofL (ts.flatMap Stp.a)).length = (ts.flatMap Stp.a).length := by rw [len_tl, tl_ofL]
      have hfl := flat_le hts
      have et : tel6 s (.tuple (ts.map Stp.d)) = decide (((ts.flatMap Stp.a).length : Int) ≤ 6) := by
        simp only [tel6, h.1, ef, Bool.true_and]
      rw [et]
      have hz : (ts.flatMap Stp.a).length ≤ 16777216 := by omega
      generalize ts.map Stp.d = D at *
      generalize ts.flatMap Stp.a = W at *
      simp [ce_are_tellings_0, mt, mw, el, hz, sizeLine]
    | _ => simp [telB] at h
theorem m_aretell {s : Str} (W : Pd) (hs : SgOk s) (d : Pd) (hd : gB d = true) : m_are_tellings [.d (cdW s W), .d d] = .ok (.d (.bool (bookB s d))) [.d (cdW s W), .d d] := by
  cases d with
  | tuple xs =>
    simp only [gB, Bool.and_eq_true, decide_eq_true_eq, List.all_eq_true] at hd
    have hz : xs.length ≤ 16777216 := by omega
    have key := lc_map (h := put 2) (ft := fun ρ => R.ok true ρ) (fe := ce_are_tellings_0) (vs := [2]) (fun p => .bool (tel6 s p)) (ρ := [.d (cdW s W), .d (.tuple xs), .no]) (xs := xs) (acc := []) (fun p hp => by
      have mp := one_tel W hs (.tuple xs) p (hd.2 p hp)
      exact ⟨[.d (cdW s W), .d (.tuple xs), .d p], _, [.d (cdW s W), .d (.tuple xs), .d p], by simp [put_eq], rfl, mp, by simp⟩) (by simp [sizeLine]; omega)
    rw [List.nil_append] at key
    have eb := boolsD_map (tel6 s) xs
    have ebk : bookB s (.tuple xs) = (decide ((1 : Int) ≤ xs.length) && (decide ((xs.length : Int) ≤ 6) && xs.all (tel6 s))) := rfl
    rw [ebk]
    by_cases h1 : (1 : Int) ≤ xs.length
    · by_cases h6 : (xs.length : Int) ≤ 6
      · simp [m_are_tellings, gOf, w_are_tellings, isTupD, key, eb, hz, sizeLine, h1, h6]
      · simp [m_are_tellings, gOf, w_are_tellings, isTupD, hz, sizeLine, h1, h6]
    · simp [m_are_tellings, gOf, w_are_tellings, isTupD, hz, sizeLine, h1]
  | _ => simp [m_are_tellings, gOf, w_are_tellings, isTupD, bookB]
/-! ### as the law looks at them -/
theorem outs2 (x y : Pd) (ρ : Rho) : outs [.d x, .d y] ρ = [.d x, .d y] := by
  cases ρ with
  | nil => rfl
  | cons _ r => cases r <;> rfl
theorem sg_len {s : Str} (hs : SgOk s) : s.length ≤ 16777216 ∧ 1 + s.length ≤ 16777216 ∧ (chars s).length = s.length := by
  have l3 := hs.l3
  have hsl := len_tl s
  refine ⟨by omega, by omega, ?_⟩
  rw [chars_sgs, sgs_len, hsl]
theorem in_parts {s : Str} (x : Str) : decide (x ∈ E0 :: (tl s).map sg1) = (decide ((x.length : Int) ≤ 1) && inStr x s) := by
  rw [Bool.eq_iff_iff, decide_eq_true_eq, Bool.and_eq_true, decide_eq_true_eq]
  constructor
  · intro h
    rcases List.mem_cons.mp h with rfl | h
    · exact ⟨by decide +kernel, inStr_nil s⟩
    · obtain ⟨c, hc, rfl⟩ := List.mem_map.mp h
      exact ⟨by show ((1 : Nat) : Int) ≤ 1; omega, (inStr_one c s).trans (decide_eq_true hc)⟩
  · intro ⟨h1, h2⟩
    obtain ⟨a, rfl, a1, a2⟩ := inStr_cases h1 h2
    cases a with
    | nil => exact List.mem_cons_self
    | cons c r =>
      cases r with
      | nil => exact List.mem_cons_of_mem _ (List.mem_map.mpr ⟨c, a2 c (by simp), rfl⟩)
      | cons _ _ => simp at a1
theorem law_part {s : Str} (hs : SgOk s) (W T t w st p : Pd) : fb__law_is_book_2 [.d (cdW s W), .d T, .d t, .d w, .d st, .d p] = if partB s p = true then .ok .nx [.d (cdW s W), .d T, .d t, .d w, .d st, .d p] else .ok (.rt (.bool false)) [.d (cdW s W), .d T, .d t, .d w, .d st, .d p] := by
  obtain ⟨z1, z2, z3⟩ := sg_len hs
  cases p with
  | str x =>
    have e : PyData.str (S "") :: chars s = (E0 :: (tl s).map sg1).map PyData.str := by rw [chars_eq]; rfl
    have hn := notInD_strs x (E0 :: (tl s).map sg1)
    rw [in_parts, ← e] at hn
    have ep : partB s (.str x) = (decide ((x.length : Int) ≤ 1) && inStr x s) := rfl
    rw [ep]
    generalize (decide ((x.length : Int) ≤ 1) && inStr x s) = B at *
    cases B <;> simp [fb__law_is_book_2, isStrD, at0, z1, sizeLine, z3, z2, hn]
  | _ => simp [fb__law_is_book_2, isStrD, partB]
/-- the text that a step tells -/
def fstS : Pd → Str
  | .tuple (.str x :: _) => x
  | _ => E0
theorem eqv_E (x : Pd) : PyData.eqv x (.str E0) = isE x := by
  cases x with
  | str z => rw [eqv_str]; rfl
  | _ => rfl
theorem eq_EE {x y : Pd} (hx : sh 59 x = true) (hy : sh 59 y = true) : eqD (.tuple [x, y]) (.tuple [.str E0, .str E0]) = some (.bool (isE x && isE y)) := by
  have o3 := E0_ok
  have s1 : sh 60 (.tuple [x, y]) = true := by rw [sh_tuple]; simp [hx, hy]
  have s2 : sh 60 (.tuple [.str E0, .str E0]) = true := by rw [sh_tuple]; simp [sh, o3]
  show (eqB _ _).map PyData.bool = _
  rw [eqB_tuple, if_pos ⟨s1, s2⟩]
  show some (PyData.bool (PyData.eqv x (.str E0) && (PyData.eqv y (.str E0) && true))) = _
  rw [eqv_E, eqv_E, Bool.and_true]
theorem law_step {s : Str} (hs : SgOk s) (W T t st : Pd) (hg : gS st = true) (w : Str) (hw : w.length ≤ 1000000) {s5 : Sl} (i5 : isIo s5 = false) :
    (stepB s st = true → ∃ t5, isIo t5 = false ∧ (fstS st).length = fst1 st ∧ fst1 st ≤ 1 ∧ fb__law_is_book_1 [.d (cdW s W), .d T, .d t, .d (.str w), .d st, s5] = .ok .nx [.d (cdW s W), .d T, .d t, .d (.str (w ++ fstS st)), .d st, t5]) ∧
    (stepB s st = false → ∃ ρ', fb__law_is_book_1 [.d (cdW s W), .d T, .d t, .d (.str w), .d st, s5] = .ok (.rt (.bool false)) ρ') := by
  cases st with
  | tuple xs =>
    by_cases hl : xs.length = 2
    · obtain ⟨x, y, rfl⟩ : ∃ x y, xs = [x, y] := by
        cases xs with
        | nil => simp at hl
        | cons x r =>
          cases r with
          | nil => simp at hl
          | cons y r =>
            cases r with
            | nil => exact ⟨x, y, rfl⟩
            | cons _ _ => simp at hl
      simp only [gS, gP, List.all_cons, List.all_nil, Bool.and_true, Bool.and_eq_true] at hg
      have q := eq_EE hg.1.2 hg.2.2
      have p1 := law_part hs W T t (.str w) (.tuple [x, y]) x
      have p2 := law_part hs W T t (.str w) (.tuple [x, y]) y
      have es : stepB s (.tuple [x, y]) = (partB s x && (partB s y && !(isE x && isE y))) := rfl
      rw [es]
      cases he : (isE x && isE y) with
      | true =>
        rw [he] at q
        exact ⟨fun h => by simp at h, fun _ => ⟨_, by simp [fb__law_is_book_1, isTupD, sizeLine, q]; rfl⟩⟩
      | false =>
        rw [he] at q
        cases hx : partB s x with
        | false =>
          rw [hx] at p1
          simp only [Bool.false_eq_true, if_false] at p1
          have e : forRun (put 5) fb__law_is_book_2 [x, y] [.d (cdW s W), .d T, .d t, .d (.str w), .d (.tuple [x, y]), s5] = .ok (.rt (.bool false)) [.d (cdW s W), .d T, .d t, .d (.str w), .d (.tuple [x, y]), .d x] := for_ret (by simp [put_eq, i5]) p1
          exact ⟨fun h => by simp at h, fun _ => ⟨_, by simp [fb__law_is_book_1, isTupD, sizeLine, q, e]; rfl⟩⟩
        | true =>
          rw [hx] at p1
          simp only [if_true] at p1
          cases hy : partB s y with
          | false =>
            rw [hy] at p2
            simp only [Bool.false_eq_true, if_false] at p2
            have e : forRun (put 5) fb__law_is_book_2 [x, y] [.d (cdW s W), .d T, .d t, .d (.str w), .d (.tuple [x, y]), s5] = .ok (.rt (.bool false)) [.d (cdW s W), .d T, .d t, .d (.str w), .d (.tuple [x, y]), .d y] := (for_go (by simp [put_eq, i5]) p1).trans (for_ret (by simp [put_eq]) p2)
            exact ⟨fun h => by simp at h, fun _ => ⟨_, by simp [fb__law_is_book_1, isTupD, sizeLine, q, e]; rfl⟩⟩
          | true =>
            rw [hy] at p2
            simp only [if_true] at p2
            have e : forRun (put 5) fb__law_is_book_2 [x, y] [.d (cdW s W), .d T, .d t, .d (.str w), .d (.tuple [x, y]), s5] = .ok .nx [.d (cdW s W), .d T, .d t, .d (.str w), .d (.tuple [x, y]), .d y] := (for_go (by simp [put_eq, i5]) p1).trans (for_go (by simp [put_eq]) p2)
            cases x with
            | str u =>
              have hu : u.length ≤ 1 := by
                simp only [partB, Bool.and_eq_true, decide_eq_true_eq] at hx
                omega
              have zl : w.length + u.length ≤ 16777216 := by omega
              exact ⟨fun _ => ⟨.d y, rfl, rfl, hu, by simp [fb__law_is_book_1, isTupD, sizeLine, q, e, at0, zl, put_eq, fstS]⟩, fun h => by simp at h⟩
            | _ => simp [partB] at hx
    · have hl' : ¬ ((xs.length : Int) = 2) := by omega
      have e : stepB s (.tuple xs) = false := by
        unfold stepB
        split
        · rename_i h
          cases h
          simp at hl
        · rfl
      exact ⟨fun h => (by rw [e] at h; cases h), fun _ => ⟨_, by simp [fb__law_is_book_1, isTupD, hl']; rfl⟩⟩
  | _ => exact ⟨fun h => by simp [stepB] at h, fun _ => ⟨_, by simp [fb__law_is_book_1, isTupD]; rfl⟩⟩
theorem law_steps {s : Str} (hs : SgOk s) (W T t : Pd) : ∀ (xs : List Pd) (_ : xs.all gS = true) (w : Str) (_ : w.length + xs.length ≤ 1000000) {s4 s5 : Sl}, isIo s4 = false → isIo s5 = false →
    (xs.all (stepB s) = true → ∃ (w' : Str) (t4 t5 : Sl), isIo t4 = false ∧ isIo t5 = false ∧ w'.length = w.length + (xs.map fst1).sum ∧ w'.length ≤ w.length + xs.length ∧ forRun (put 4) fb__law_is_book_1 xs [.d (cdW s W), .d T, .d t, .d (.str w), s4, s5] = .ok .nx [.d (cdW s W), .d T, .d t, .d (.str w'), t4, t5]) ∧
    (xs.all (stepB s) = false → ∃ ρ', forRun (put 4) fb__law_is_book_1 xs [.d (cdW s W), .d T, .d t, .d (.str w), s4, s5] = .ok (.rt (.bool false)) ρ')
  | [], _, w, _, s4, s5, i4, i5 => ⟨fun _ => ⟨w, s4, s5, i4, i5, by simp, by simp, by simp⟩, fun h => by simp at h⟩
  | x :: xs, hg, w, hw, s4, s5, i4, i5 => by
    simp only [List.all_cons, Bool.and_eq_true] at hg
    simp only [List.length_cons] at hw
    obtain ⟨g1, g2⟩ := law_step hs W T t x hg.1 w (by omega) i5
    cases hx : stepB s x with
    | false =>
      obtain ⟨ρ', e⟩ := g2 hx
      refine ⟨fun h => by simp [hx] at h, fun _ => ⟨ρ', for_ret (ρ1 := [.d (cdW s W), .d T, .d t, .d (.str w), .d x, s5]) (by simp [put_eq, i4]) e⟩⟩
    | true =>
      obtain ⟨t5, h5, l1, l2, e⟩ := g1 hx
      have e' : forRun (put 4) fb__law_is_book_1 (x :: xs) [.d (cdW s W), .d T, .d t, .d (.str w), s4, s5] = forRun (put 4) fb__law_is_book_1 xs [.d (cdW s W), .d T, .d t, .d (.str (w ++ fstS x)), .d x, t5] := for_go (ρ1 := [.d (cdW s W), .d T, .d t, .d (.str w), .d x, s5]) (by simp [put_eq, i4]) e
      have la := apl w (fstS x)
      obtain ⟨r1, r2⟩ := law_steps hs W T t xs hg.2 (w ++ fstS x) (by omega) (s4 := .d x) rfl h5
      rw [e']
      refine ⟨fun h => ?_, fun h => ?_⟩
      · obtain ⟨w', u4, u5, j4, j5, k1, k2, e2⟩ := r1 (by simpa [hx] using h)
        refine ⟨w', u4, u5, j4, j5, ?_, ?_, e2⟩
        · rw [List.map_cons, List.sum_cons]; omega
        · rw [List.length_cons]; omega
      · exact r2 (by simpa [hx] using h)
theorem law_tel {s : Str} (hs : SgOk s) (W T t : Pd) (hg : gT t = true) {s3 s4 s5 : Sl} (i3 : isIo s3 = false) (i4 : isIo s4 = false) (i5 : isIo s5 = false) :
    (tel6 s t = true → ∃ t3 t4 t5, isIo t3 = false ∧ isIo t4 = false ∧ isIo t5 = false ∧ fb__law_is_book_0 [.d (cdW s W), .d T, .d t, s3, s4, s5] = .ok .nx [.d (cdW s W), .d T, .d t, t3, t4, t5]) ∧
    (tel6 s t = false → ∃ ρ', fb__law_is_book_0 [.d (cdW s W), .d T, .d t, s3, s4, s5] = .ok (.rt (.bool false)) ρ') := by
  cases t with
  | tuple xs =>
    simp only [gT, Bool.and_eq_true, decide_eq_true_eq] at hg
    have l0 : E0.length = 0 := rfl
    obtain ⟨r1, r2⟩ := law_steps hs W T (.tuple xs) xs hg.2 E0 (by omega) i4 i5
    cases h : xs.all (stepB s) with
    | false =>
      obtain ⟨ρ', e⟩ := r2 h
      have et : tel6 s (.tuple xs) = false := by simp only [tel6, h, Bool.false_and]
      rw [et]
      exact ⟨fun h => (by cases h), fun _ => ⟨ρ', by simp [fb__law_is_book_0, isTupD, put_eq, i3, e]⟩⟩
    | true =>
      obtain ⟨w', t4, t5, j4, j5, k1, k2, e⟩ := r1 h
      have et : tel6 s (.tuple xs) = decide ((w'.length : Int) ≤ 6) := by
        simp only [tel6, h, Bool.true_and]
        have : (xs.map fst1).sum = w'.length := by omega
        rw [this]
      rw [et]
      have hz : w'.length ≤ 16777216 := by omega
      by_cases h6 : (w'.length : Int) ≤ 6
      · have h6' : ¬ ((6 : Int) < w'.length) := by omega
        exact ⟨fun _ => ⟨.d (.str w'), t4, t5, rfl, j4, j5, by simp [fb__law_is_book_0, isTupD, put_eq, i3, e, hz, sizeLine, h6']⟩, fun h => by simp [h6] at h⟩
      · have h6' : ((6 : Int) < w'.length) := by omega
        exact ⟨fun h => by simp [h6] at h, fun _ => ⟨_, by simp [fb__law_is_book_0, isTupD, put_eq, i3, e, hz, sizeLine, h6']; rfl⟩⟩
  | _ => exact ⟨fun h => by simp [tel6] at h, fun _ => ⟨_, by simp [fb__law_is_book_0, isTupD]; rfl⟩⟩
theorem law_tels {s : Str} (hs : SgOk s) (W T : Pd) : ∀ (xs : List Pd) (_ : xs.all gT = true) {s2 s3 s4 s5 : Sl}, isIo s2 = false → isIo s3 = false → isIo s4 = false → isIo s5 = false →
    (xs.all (tel6 s) = true → ∃ ρ', forRun (put 2) fb__law_is_book_0 xs [.d (cdW s W), .d T, s2, s3, s4, s5] = .ok .nx ρ') ∧
    (xs.all (tel6 s) = false → ∃ ρ', forRun (put 2) fb__law_is_book_0 xs [.d (cdW s W), .d T, s2, s3, s4, s5] = .ok (.rt (.bool false)) ρ')
  | [], _, s2, s3, s4, s5, _, _, _, _ => ⟨fun _ => ⟨[.d (cdW s W), .d T, s2, s3, s4, s5], by simp⟩, fun h => by simp at h⟩
  | x :: xs, hg, s2, s3, s4, s5, i2, i3, i4, i5 => by
    simp only [List.all_cons, Bool.and_eq_true] at hg
    obtain ⟨g1, g2⟩ := law_tel hs W T x hg.1 i3 i4 i5
    cases hx : tel6 s x with
    | false =>
      obtain ⟨ρ', e⟩ := g2 hx
      refine ⟨fun h => by simp [hx] at h, fun _ => ⟨ρ', for_ret (ρ1 := [.d (cdW s W), .d T, .d x, s3, s4, s5]) (by simp [put_eq, i2]) e⟩⟩
    | true =>
      obtain ⟨t3, t4, t5, h3, h4, h5, e⟩ := g1 hx
      have e' : forRun (put 2) fb__law_is_book_0 (x :: xs) [.d (cdW s W), .d T, s2, s3, s4, s5] = forRun (put 2) fb__law_is_book_0 xs [.d (cdW s W), .d T, .d x, t3, t4, t5] := for_go (ρ1 := [.d (cdW s W), .d T, .d x, s3, s4, s5]) (by simp [put_eq, i2]) e
      obtain ⟨r1, r2⟩ := law_tels hs W T xs hg.2 (s2 := .d x) rfl h3 h4 h5
      rw [e']
      exact ⟨fun h => r1 (by simpa [hx] using h), fun h => r2 (by simpa [hx] using h)⟩
theorem m_lisbook {s : Str} (hs : SgOk s) (W d : Pd) (hg : gB d = true) : m__law_is_book [.d (cdW s W), .d d] = .ok (.d (.bool (bookB s d))) [.d (cdW s W), .d d] := by
  cases d with
  | tuple xs =>
    simp only [gB, Bool.and_eq_true, decide_eq_true_eq] at hg
    have hz : xs.length ≤ 16777216 := by omega
    have ebk : bookB s (.tuple xs) = (decide ((1 : Int) ≤ xs.length) && (decide ((xs.length : Int) ≤ 6) && xs.all (tel6 s))) := rfl
    rw [ebk]
    obtain ⟨r1, r2⟩ := law_tels hs W (.tuple xs) xs hg.2 (s2 := .no) (s3 := .no) (s4 := .no) (s5 := .no) rfl rfl rfl rfl
    by_cases h1 : (1 : Int) ≤ xs.length
    · by_cases h6 : (xs.length : Int) ≤ 6
      · cases h : xs.all (tel6 s) with
        | false =>
          obtain ⟨ρ', e⟩ := r2 h
          have ew : w__law_is_book [.d (cdW s W), .d (.tuple xs), .no, .no, .no, .no] = .ok (.rt (.bool false)) ρ' := by simp [w__law_is_book, isTupD, put_eq, e, hz, sizeLine, h1, h6]
          show endF [.d (cdW s W), .d (.tuple xs)] (w__law_is_book [.d (cdW s W), .d (.tuple xs), .no, .no, .no, .no]) = _
          rw [ew]
          simp [endF, outs2]
        | true =>
          obtain ⟨ρ', e⟩ := r1 h
          have ew : w__law_is_book [.d (cdW s W), .d (.tuple xs), .no, .no, .no, .no] = .ok (.rt (.bool true)) ρ' := by simp [w__law_is_book, isTupD, put_eq, e, hz, sizeLine, h1, h6]
          show endF [.d (cdW s W), .d (.tuple xs)] (w__law_is_book [.d (cdW s W), .d (.tuple xs), .no, .no, .no, .no]) = _
          rw [ew]
          simp [endF, outs2, h1, h6]
      · simp [m__law_is_book, gOf, w__law_is_book, isTupD, hz, sizeLine, h1, h6]
    · simp [m__law_is_book, gOf, w__law_is_book, isTupD, hz, sizeLine, h1]
  | _ => simp [m__law_is_book, gOf, w__law_is_book, isTupD, bookB]
end Lw
namespace Lw
open PySem PySem.Spec L2 Evl Dt
open TL (tl joinL tl_join tl_ofString join_eq tl_append len_tl)
/-! ### a thing with one part put otherwise -/
def Og : Nat → Pd → Prop
  | 0, d => ∃ z : Str, d = .str z ∧ z.length ≤ 1 ∧ ∀ c ∈ tl z, 97 ≤ c ∧ c ≤ 122
  | k + 1, d => ∃ xs, d = .tuple xs ∧ xs.length ≤ 20 ∧ ∀ x ∈ xs, Og k x
def Gk : Nat → Pd → Bool
  | 0 => gP
  | 1 => gS
  | 2 => gT
  | _ => gB
theorem sh_str (n : Nat) (z : Str) : sh n (.str z) = PyData.strOk z := by cases n <;> rfl
theorem og_sh : ∀ (k n : Nat) {d : Pd}, Og k d → sh (n + k) d = true
  | 0, n, d, h => by
    obtain ⟨z, rfl, h1, h2⟩ := h
    rw [sh_str]
    exact strOk_lt fun c hc => by have := h2 c hc; omega
  | k + 1, n, d, h => by
    obtain ⟨xs, rfl, h1, h2⟩ := h
    show xs.all (sh (n + k)) = true
    rw [List.all_eq_true]
    exact fun x hx => og_sh k n (h2 x hx)
theorem Gk_tup {k : Nat} (hk : k ≤ 2) {ys : List Pd} (hl : ys.length ≤ 1000) (h : ∀ y ∈ ys, Gk k y = true) : Gk (k + 1) (.tuple ys) = true := by
  have hk : k = 0 ∨ k = 1 ∨ k = 2 := by omega
  rcases hk with rfl | rfl | rfl
  · show ys.all gP = true
    exact List.all_eq_true.mpr h
  · show (decide _ && ys.all gS) = true
    rw [Bool.and_eq_true]
    exact ⟨decide_eq_true hl, List.all_eq_true.mpr h⟩
  · show (decide _ && ys.all gT) = true
    rw [Bool.and_eq_true]
    exact ⟨decide_eq_true hl, List.all_eq_true.mpr h⟩
theorem og_g : ∀ (k : Nat) (_ : k ≤ 3) {d : Pd}, Og k d → Gk k d = true
  | 0, _, d, h => by
    have hs := og_sh 0 59 h
    obtain ⟨z, rfl, h1, h2⟩ := h
    show (decide _ && sh 59 _) = true
    rw [Bool.and_eq_true]
    exact ⟨decide_eq_true (by omega), hs⟩
  | k + 1, hk, d, h => by
    obtain ⟨xs, rfl, h1, h2⟩ := h
    exact Gk_tup (by omega) (by omega) fun y hy => og_g k (by omega) (h2 y hy)
theorem gP_str {z : Str} (h : PyData.strOk z = true) (hl : z.length ≤ 1000) : gP (.str z) = true := by
  show (decide _ && sh 59 _) = true
  rw [Bool.and_eq_true, sh_str]
  exact ⟨decide_eq_true hl, h⟩
theorem pickL {L : List Pd} {d : Int} {k : Nat} (hl : L.length = k) (h0 : 0 ≤ d) (h1 : d < k) : ∃ X ∈ L, ixD (.list L) (.int d) = some X := by
  have hd : d = (d.toNat : Nat) := (Int.toNat_of_nonneg h0).symm
  have h : d.toNat < L.length := by omega
  refine ⟨L[d.toNat], List.getElem_mem h, ?_⟩
  show atI L d = _
  have := atI_nat h
  rw [← hd] at this
  exact this
def lfS (z : Str) : List Pd := [.str (z ++ S "a"), .str (S ""), .str (S "#"), .none, .str (S "q"), .int 0, .list [.str z], .str (Txt.upper z ++ S "Z")]
theorem m_leaf0 (n : NB) {d : Pd} (h : Og 0 d) : ∃ (X : Pd) (n' : NB), gP X = true ∧ m__law_leaf [.own true [.int n], .d d] = .ok (.d X) [.own true [.int n'], .d d] := by
  obtain ⟨z, rfl, h1, h2⟩ := h
  obtain ⟨d, n1, d0, d1, e1⟩ := take_ex n 8 (by omega) (by omega)
  obtain ⟨X, mX, iX⟩ := pickL (L := lfS z) (k := 8) rfl d0 (by omega)
  have hz : PyData.strOk z = true := strOk_lt fun c hc => by have := h2 c hc; omega
  have hu : tl (Txt.upper z) = (tl z).map (· - 32) := tl_upper h2
  have hul : (Txt.upper z).length = z.length := by rw [len_tl, hu, List.length_map, len_tl]
  have lz : z.length = (tl z).length := len_tl z
  have q1 : addD (.str z) (.str (S "a")) = some (.str (z ++ S "a")) := by
    have : (S "a").length = 1 := rfl
    rw [addD_str, if_pos (by simp only [sizeLine]; omega)]
  have q2 : upperD (.str z) [] = some (.str (Txt.upper z)) := by rw [upperD_str, if_pos (by omega)]
  have q3 : addD (.str (Txt.upper z)) (.str (S "Z")) = some (.str (Txt.upper z ++ S "Z")) := by
    have : (S "Z").length = 1 := rfl
    rw [addD_str, if_pos (by simp only [sizeLine]; omega)]
  refine ⟨X, n1, ?_, ?_⟩
  · unfold lfS at mX
    simp only [List.mem_cons, List.not_mem_nil, or_false] at mX
    have la : (S "a").length = 1 := rfl
    have lZ : (S "Z").length = 1 := rfl
    rcases mX with rfl | rfl | rfl | rfl | rfl | rfl | rfl | rfl
    · refine gP_str (strOk_lt fun c hc => ?_) (by rw [apl]; omega)
      rw [tl_append] at hc
      rcases List.mem_append.mp hc with hc | hc
      · have := h2 c hc; omega
      · have : tl (S "a") = [97] := rfl
        rw [this] at hc; simp at hc; omega
    · exact (by decide +kernel : gP (.str (S "")) = true)
    · exact (by decide +kernel : gP (.str (S "#")) = true)
    · rfl
    · exact (by decide +kernel : gP (.str (S "q")) = true)
    · rfl
    · show (true && sh 59 (.list [.str z])) = true
      show (true && (sh 58 (.str z) && true)) = true
      rw [sh_str, hz]; rfl
    · refine gP_str (strOk_lt fun c hc => ?_) (by rw [apl]; omega)
      rw [tl_append, hu] at hc
      rcases List.mem_append.mp hc with hc | hc
      · obtain ⟨x, hx, rfl⟩ := List.mem_map.mp hc
        have := h2 x hx; omega
      · have : tl (S "Z") = [90] := rfl
        rw [this] at hc; simp at hc; omega
  · unfold lfS at iX
    generalize Txt.upper z = U at *
    generalize z ++ S "a" = ZA at *
    generalize U ++ S "Z" = UZ at *
    generalize (n : Int) = n0 at *
    generalize (n1 : Int) = n1' at *
    have r1 : fAsg (fCallP 1 0 m__law_take (fCons (fC (.int 8)) fNil)) (put 2) [.own true [.int n0], .d (.str z), .no] = .ok .nx [.own true [.int n1'], .d (.str z), .d (.int d)] := by
      simp [e1, put_eq]
    have r2 : w__law_leaf [.own true [.int n0], .d (.str z), .no] = .ok (.rt X) [.own true [.int n1'], .d (.str z), .d (.int d)] := by
      unfold w__law_leaf
      rw [fSeq_nx r1]
      generalize ixD = ix at *
      generalize addD = ad at *
      generalize upperD = ud at *
      simp [fSeq, isStrD, q1, q2, q3, iX, sizeLine]
    show endF [.own true [.int n0], .d (.str z)] (w__law_leaf [.own true [.int n0], .d (.str z), .no]) = _
    rw [r2]
    rfl
def lfT (xs : List Pd) : List Pd := [.none, .list [], .str (S ""), .int 0, .bool true, .dict [], .tuple [.str (S "")], .list xs]
theorem m_leaf1 (n : NB) {xs : List Pd} (hl : xs.length ≤ 1000) : ∃ (X : Pd) (n' : NB), (gS X = true ∧ gT X = true ∧ gB X = true) ∧ m__law_leaf [.own true [.int n], .d (.tuple xs)] = .ok (.d X) [.own true [.int n'], .d (.tuple xs)] := by
  obtain ⟨d, n1, d0, d1, e1⟩ := take_ex n 8 (by omega) (by omega)
  obtain ⟨X, mX, iX⟩ := pickL (L := lfT xs) (k := 8) rfl d0 (by omega)
  refine ⟨X, n1, ?_, ?_⟩
  · unfold lfT at mX
    simp only [List.mem_cons, List.not_mem_nil, or_false] at mX
    have gE : gP (.str (S "")) = true := by decide +kernel
    rcases mX with rfl | rfl | rfl | rfl | rfl | rfl | rfl | rfl
    · exact ⟨rfl, rfl, rfl⟩
    · exact ⟨rfl, rfl, rfl⟩
    · exact ⟨rfl, rfl, rfl⟩
    · exact ⟨rfl, rfl, rfl⟩
    · exact ⟨rfl, rfl, rfl⟩
    · exact ⟨rfl, rfl, rfl⟩
    · refine ⟨?_, rfl, rfl⟩
      show (gP (.str (S "")) && true) = true
      rw [gE]; rfl
    · exact ⟨rfl, rfl, rfl⟩
  · unfold lfT at iX
    have hz : xs.length ≤ 16777216 := by omega
    generalize (n : Int) = n0 at *
    generalize (n1 : Int) = n1' at *
    have r1 : fAsg (fCallP 1 0 m__law_take (fCons (fC (.int 8)) fNil)) (put 2) [.own true [.int n0], .d (.tuple xs), .no] = .ok .nx [.own true [.int n1'], .d (.tuple xs), .d (.int d)] := by
      simp [e1, put_eq]
    have r2 : w__law_leaf [.own true [.int n0], .d (.tuple xs), .no] = .ok (.rt X) [.own true [.int n1'], .d (.tuple xs), .d (.int d)] := by
      unfold w__law_leaf
      rw [fSeq_nx r1]
      generalize ixD = ix at *
      simp [fSeq, isStrD, iX, sizeLine, hz]
    show endF [.own true [.int n0], .d (.tuple xs)] (w__law_leaf [.own true [.int n0], .d (.tuple xs), .no]) = _
    rw [r2]
    rfl
theorem leafK {k : Nat} (hk : k ≤ 3) (n : NB) {d : Pd} (h : Og k d) : ∃ (X : Pd) (n' : NB), Gk k X = true ∧ m__law_leaf [.own true [.int n], .d d] = .ok (.d X) [.own true [.int n'], .d d] := by
  cases k with
  | zero => exact m_leaf0 n h
  | succ k =>
    obtain ⟨xs, rfl, h1, h2⟩ := h
    obtain ⟨X, n', ⟨g1, g2, g3⟩, e⟩ := m_leaf1 n (xs := xs) (by omega)
    refine ⟨X, n', ?_, e⟩
    have hk : k = 0 ∨ k = 1 ∨ k = 2 := by omega
    rcases hk with rfl | rfl | rfl
    · exact g1
    · exact g2
    · exact g3
theorem cutD_mem {xs : List Pd} {lo hi : Option Int} {x : Pd} (h : x ∈ cutD xs lo hi) : x ∈ xs := List.mem_of_mem_drop (List.mem_of_mem_take h)
theorem cutD_len (xs : List Pd) (lo hi : Option Int) : (cutD xs lo hi).length ≤ xs.length := by
  unfold cutD
  rw [List.length_take, List.length_drop]
  omega
theorem m_bent : ∀ (k : Nat) (_ : k ≤ 3) (f : Nat) (_ : k < f) (n : NB) (d : Pd) (_ : Og k d) (u : Int) (_ : u = (k : Int) + 1), ∃ (X : Pd) (n' : NB), Gk k X = true ∧ m__law_bent f [.own true [.int n], .d d, .d (.int u)] = .ok (.d X) [.own true [.int n'], .d d, .d (.int u)]
  | k, hk, 0, hf, n, d, h, u, hu => by omega
  | 0, hk, f + 1, hf, n, d, h, u, hu => by
    obtain ⟨X, n', g, e⟩ := m_leaf0 n h
    obtain ⟨z, rfl, h1, h2⟩ := h
    refine ⟨X, n', g, ?_⟩
    have u0 : ¬ (u = 0) := by omega
    show endF [.own true [.int n], .d (.str z), .d (.int u)] (w__law_bent (m__law_bent f) [.own true [.int n], .d (.str z), .d (.int u), .no, .no]) = _
    have r : w__law_bent (m__law_bent f) [.own true [.int n], .d (.str z), .d (.int u), .no, .no] = .ok (.rt X) [.own true [.int n'], .d (.str z), .d (.int u), .no, .no] := by
      unfold w__law_bent
      simp [u0, isStrD, e]
    rw [r]
    rfl
  | k + 1, hk, f + 1, hf, n, d, h, u, hu => by
    have hog := h
    have hsh := og_sh (k + 1) (59 - k) h
    have e60 : 59 - k + (k + 1) = 60 := by omega
    rw [e60] at hsh
    obtain ⟨xs, rfl, h1, h2⟩ := h
    have u0 : ¬ (u = 0) := by omega
    have hq : eqD (.tuple xs) (.tuple []) = some (.bool (decide (xs = []))) := by
      show (eqB _ _).map PyData.bool = _
      rw [eqB_tuple, if_pos ⟨hsh, rfl⟩]
      cases xs with
      | nil => rfl
      | cons _ _ => simp [PyData.eqvAll]
    by_cases hx : xs = []
    · obtain ⟨X, n', g, e⟩ := leafK hk n hog
      rw [decide_eq_true hx] at hq
      refine ⟨X, n', g, ?_⟩
      show endF [.own true [.int n], .d (.tuple xs), .d (.int u)] (w__law_bent (m__law_bent f) [.own true [.int n], .d (.tuple xs), .d (.int u), .no, .no]) = _
      have r : w__law_bent (m__law_bent f) [.own true [.int n], .d (.tuple xs), .d (.int u), .no, .no] = .ok (.rt X) [.own true [.int n'], .d (.tuple xs), .d (.int u), .no, .no] := by
        unfold w__law_bent
        simp [u0, isStrD, e, hq]
      rw [r]
      rfl
    · rw [decide_eq_false hx] at hq
      obtain ⟨d1, n1, d10, d11, e1⟩ := take_ex n 5 (by omega) (by omega)
      by_cases hd : d1 = 0
      · obtain ⟨X, n', g, e⟩ := leafK hk n1 hog
        refine ⟨X, n', g, ?_⟩
        show endF [.own true [.int n], .d (.tuple xs), .d (.int u)] (w__law_bent (m__law_bent f) [.own true [.int n], .d (.tuple xs), .d (.int u), .no, .no]) = _
        have r : w__law_bent (m__law_bent f) [.own true [.int n], .d (.tuple xs), .d (.int u), .no, .no] = .ok (.rt X) [.own true [.int n'], .d (.tuple xs), .d (.int u), .no, .no] := by
          unfold w__law_bent
          simp [u0, isStrD, e, hq, e1, hd]
        rw [r]
        rfl
      · have hl : 0 < xs.length := List.length_pos_iff.mpr hx
        obtain ⟨a, n2, a0, a1, e2⟩ := take_ex n1 (xs.length : Int) (by omega) (by omega)
        obtain ⟨p, n3, p0, p1, e3⟩ := take_ex n2 5 (by omega) (by omega)
        have hz : xs.length ≤ 16777216 := by omega
        have s1 : fIfS (fOr (fTest (f2 eqD (fVar 2) (fC (.int 0)))) (fOr (fTest (f1 (isiD "str") (fVar 1))) (fOr (fTest (f2 eqD (fVar 1) (fTup fNil))) (fTest (f2 eqD (fCallP 1 0 m__law_take (fCons (fC (.int 5)) fNil)) (fC (.int 0))))))) (fRet (fCallP 1 0 m__law_leaf (fCons (fVar 1) fNil))) fNx [.own true [.int n], .d (.tuple xs), .d (.int u), .no, .no]
            = .ok .nx [.own true [.int n1], .d (.tuple xs), .d (.int u), .no, .no] := by
          simp [u0, isStrD, hq, e1, hd]
        have s2 : fAsg (fCallP 1 0 m__law_take (fCons (fCB lenD (fCons (fVar 1) fNil)) fNil)) (put 3) [.own true [.int n1], .d (.tuple xs), .d (.int u), .no, .no] = .ok .nx [.own true [.int n2], .d (.tuple xs), .d (.int u), .d (.int a), .no] := by
          simp [hz, sizeLine, e2, put_eq]
        have s3 : fAsg (fCallP 1 0 m__law_take (fCons (fC (.int 5)) fNil)) (put 4) [.own true [.int n2], .d (.tuple xs), .d (.int u), .d (.int a), .no] = .ok .nx [.own true [.int n3], .d (.tuple xs), .d (.int u), .d (.int a), .d (.int p)] := by
          simp [e3, put_eq]
        have c1 := cutD_len xs none (some a)
        have c2 := cutD_len xs (some (a + 1)) none
        have c3 := cutD_len xs (some a) (some (a + 1))
        have c4 := cutD_len xs (some a) none
        have hg : ∀ y ∈ xs, Gk k y = true := fun y hy => og_g k (by omega) (h2 y hy)
        have z12 : (cutD xs none (some a)).length + (cutD xs (some (a + 1)) none).length ≤ 16777216 := by omega
        by_cases hp0 : p = 0
        · refine ⟨.tuple (cutD xs none (some a) ++ cutD xs (some (a + 1)) none), n3, Gk_tup (by omega) (by rw [List.length_append]; omega) (fun y hy => ?_), ?_⟩
          · rcases List.mem_append.mp hy with hy | hy
            · exact hg y (cutD_mem hy)
            · exact hg y (cutD_mem hy)
          · show endF [.own true [.int n], .d (.tuple xs), .d (.int u)] (w__law_bent (m__law_bent f) [.own true [.int n], .d (.tuple xs), .d (.int u), .no, .no]) = _
            have r : w__law_bent (m__law_bent f) [.own true [.int n], .d (.tuple xs), .d (.int u), .no, .no] = .ok (.rt (.tuple (cutD xs none (some a) ++ cutD xs (some (a + 1)) none))) [.own true [.int n3], .d (.tuple xs), .d (.int u), .d (.int a), .d (.int p)] := by
              unfold w__law_bent
              rw [fSeq_nx s1, fSeq_nx s2, fSeq_nx s3]
              simp [fSeq, hp0, sizeLine, z12]
            rw [r]
            rfl
        · by_cases hp1 : p = 1
          · refine ⟨.tuple (cutD xs none (some a) ++ cutD xs (some a) (some (a + 1)) ++ cutD xs (some a) none), n3, Gk_tup (by omega) (by rw [List.length_append, List.length_append]; omega) (fun y hy => ?_), ?_⟩
            · rcases List.mem_append.mp hy with hy | hy
              · rcases List.mem_append.mp hy with hy | hy
                · exact hg y (cutD_mem hy)
                · exact hg y (cutD_mem hy)
              · exact hg y (cutD_mem hy)
            · show endF [.own true [.int n], .d (.tuple xs), .d (.int u)] (w__law_bent (m__law_bent f) [.own true [.int n], .d (.tuple xs), .d (.int u), .no, .no]) = _
              have z3 : (cutD xs none (some a)).length + (cutD xs (some a) (some (a + 1))).length ≤ 16777216 := by omega
              have z4 : (cutD xs none (some a)).length + ((cutD xs (some a) (some (a + 1))).length + (cutD xs (some a) none).length) ≤ 16777216 := by omega
              have z5 : (cutD xs none (some a)).length + (cutD xs (some a) (some (a + 1))).length + (cutD xs (some a) none).length ≤ 16777216 := by omega
              have r : w__law_bent (m__law_bent f) [.own true [.int n], .d (.tuple xs), .d (.int u), .no, .no] = .ok (.rt (.tuple (cutD xs none (some a) ++ cutD xs (some a) (some (a + 1)) ++ cutD xs (some a) none))) [.own true [.int n3], .d (.tuple xs), .d (.int u), .d (.int a), .d (.int p)] := by
                unfold w__law_bent
                rw [fSeq_nx s1, fSeq_nx s2, fSeq_nx s3]
                simp [fSeq, hp0, hp1, sizeLine, z3, z4, z5]
              rw [r]
              rfl
          · have ha : a = (a.toNat : Nat) := (Int.toNat_of_nonneg a0).symm
            have hal : a.toNat < xs.length := by omega
            have hat : atI xs a = some xs[a.toNat] := by
              have := atI_nat hal
              rw [← ha] at this
              exact this
            obtain ⟨X, n4, gX, eX⟩ := m_bent k (by omega) f (by omega) n3 xs[a.toNat] (h2 _ (List.getElem_mem hal)) (u - 1) (by omega)
            refine ⟨.tuple (cutD xs none (some a) ++ X :: cutD xs (some (a + 1)) none), n4, Gk_tup (by omega) (by rw [List.length_append, List.length_cons]; omega) (fun y hy => ?_), ?_⟩
            · rcases List.mem_append.mp hy with hy | hy
              · exact hg y (cutD_mem hy)
              · rcases List.mem_cons.mp hy with rfl | hy
                · exact gX
                · exact hg y (cutD_mem hy)
            · show endF [.own true [.int n], .d (.tuple xs), .d (.int u)] (w__law_bent (m__law_bent f) [.own true [.int n], .d (.tuple xs), .d (.int u), .no, .no]) = _
              have z3 : (cutD xs none (some a)).length + 1 ≤ 16777216 := by omega
              have z5 : (cutD xs none (some a)).length + 1 + (cutD xs (some (a + 1)) none).length ≤ 16777216 := by omega
              have z6 : (cutD xs none (some a)).length + (1 + (cutD xs (some (a + 1)) none).length) ≤ 16777216 := by omega
              generalize xs[a.toNat] = x0 at *
              generalize m__law_bent f = mf at *
              have r : w__law_bent mf [.own true [.int n], .d (.tuple xs), .d (.int u), .no, .no] = .ok (.rt (.tuple (cutD xs none (some a) ++ X :: cutD xs (some (a + 1)) none))) [.own true [.int n4], .d (.tuple xs), .d (.int u), .d (.int a), .d (.int p)] := by
                unfold w__law_bent
                rw [fSeq_nx s1, fSeq_nx s2, fSeq_nx s3]
                simp [fSeq, hp0, hp1, sizeLine, hat, eX, z3, z5, z6]
              rw [r]
              rfl
end Lw
namespace Lw
open PySem PySem.Spec L2 Evl Dt
open TL (tl joinL tl_join tl_ofString join_eq tl_append len_tl)
/-! ### what becomes of a book -/
theorem ck_no {cd x : Pd} {r : Rho} (h : m_are_tellings [.d cd, .d x] = .ok (.d (.bool false)) r) : m_check_book [.d cd, .d x] = .ex ⟨"NoBook", none⟩ [.d cd, .d x] := by
  simp [m_check_book, gOf, w_check_book, h]
theorem ask_no {cd x : Pd} {r : Rho} (h : m_are_tellings [.d cd, .d x] = .ok (.d (.bool false)) r) (a : Int) (T : Pd) : ft__law_seen [.d (.int a), .d cd, .d x, .d T, .no, .no] = .ex ⟨"NoBook", none⟩ [.d (.int a), .d cd, .d x, .d T, .no, .no] := by
  have ck := ck_no h
  have n1 : m_needs [.d cd, .d x] = .ex ⟨"NoBook", none⟩ [.d cd, .d x] := by simp [m_needs, gOf, w_needs, fSeq, ck]
  have n2 : m_layered [.d cd, .d x] = .ex ⟨"NoBook", none⟩ [.d cd, .d x] := by simp [m_layered, gOf, w_layered, fSeq, ck]
  have n3 : m_telling_orders [.d cd, .d x] = .ex ⟨"NoBook", none⟩ [.d cd, .d x] := by simp [m_telling_orders, gOf, w_telling_orders, fSeq, n1]
  by_cases h0 : a = 0
  · simp [ft__law_seen, h0, n1]
  · by_cases h1 : a = 1
    · simp [ft__law_seen, h1, n2]
    · simp [ft__law_seen, h0, h1, n3]
theorem seen_no {cd x : Pd} {r : Rho} (h : m_are_tellings [.d cd, .d x] = .ok (.d (.bool false)) r) (a : Int) : ∃ as, m__law_seen [.d (.int a), .d cd, .d x] = .ok (.d (.str "refused")) as := by
  have e1 := ask_no h a (.str "told")
  have q1 : sbAny sb "NoBook" ["NoCall", "NoForm", "NoKept", "NoNumber", "NoOrder", "NoTelling", "NoText", "NoWeights", "NoWord"] = some false := by rfl
  have q2 : sb "NoBook" "NoBook" = some true := by rfl
  have q3 : sb "ValueError" "NoBook" = some true := by rfl
  have q4 : sb "TooMany" "NoBook" = some false := by rfl
  have q5 : sb "LadderError" "NoBook" = some true := by rfl
  have e2 : fh__law_seen [.d (.int a), .d cd, .d x, .d (.str "told"), .x ⟨"NoBook", none⟩, .no] = .ok .nx [.d (.int a), .d cd, .d x, .d (.str "refused"), .x ⟨"NoBook", none⟩, .d (.bool false)] := by
    have a1 : fAsg (fIsX (fun n => sbAny sb n ["NoCall", "NoForm", "NoKept", "NoNumber", "NoOrder", "NoTelling", "NoText", "NoWeights", "NoWord"]) 4) (put 5) [.d (.int a), .d cd, .d x, .d (.str "told"), .x ⟨"NoBook", none⟩, .no] = .ok .nx [.d (.int a), .d cd, .d x, .d (.str "told"), .x ⟨"NoBook", none⟩, .d (.bool false)] := by
      simp [q1, put_eq]
    have a2 : fAsg (fC (.str "wrong")) (put 3) [.d (.int a), .d cd, .d x, .d (.str "told"), .x ⟨"NoBook", none⟩, .d (.bool false)] = .ok .nx [.d (.int a), .d cd, .d x, .d (.str "wrong"), .x ⟨"NoBook", none⟩, .d (.bool false)] := by
      simp [put_eq]
    have a3 : fIfS (fAnd (fTest (fIsX (sb "NoBook") 4)) (fAnd (fTest (fIsX (sb "ValueError") 4)) (fAnd (fNot (fTest (fVar 5))) (fNot (fTest (fIsX (sb "TooMany") 4)))))) (fAsg (fC (.str "refused")) (put 3)) fNx [.d (.int a), .d cd, .d x, .d (.str "wrong"), .x ⟨"NoBook", none⟩, .d (.bool false)]
        = .ok .nx [.d (.int a), .d cd, .d x, .d (.str "refused"), .x ⟨"NoBook", none⟩, .d (.bool false)] := by
      simp [q2, q3, q4, put_eq]
    unfold fh__law_seen
    rw [fSeq_nx a1, fSeq_nx a2, fSeq_nx a3]
    simp [q4]
  have e3 : fTryH (sb "LadderError") ft__law_seen 4 fh__law_seen [.d (.int a), .d cd, .d x, .d (.str "told"), .no, .no] = .ok .nx [.d (.int a), .d cd, .d x, .d (.str "refused"), .no, .d (.bool false)] :=
    (fTryH_ex (sub := sb "LadderError") (fh := fh__law_seen) (i := 4) (ρ2 := [.d (.int a), .d cd, .d x, .d (.str "refused"), .x ⟨"NoBook", none⟩, .d (.bool false)]) e1 q5 rfl rfl e2 rfl rfl).trans rfl
  have e0 : fAsg (fC (.str "told")) (put 3) [.d (.int a), .d cd, .d x, .no, .no, .no] = .ok .nx [.d (.int a), .d cd, .d x, .d (.str "told"), .no, .no] := by simp [put_eq]
  have e : w__law_seen [.d (.int a), .d cd, .d x, .no, .no, .no] = .ok (.rt (.str "refused")) [.d (.int a), .d cd, .d x, .d (.str "refused"), .no, .d (.bool false)] := by
    unfold w__law_seen
    rw [fSeq_nx e0, fSeq_nx e3]
    simp
  refine ⟨[.d (.int a), .d cd, .d x], ?_⟩
  show Dt.endF _ (w__law_seen [.d (.int a), .d cd, .d x, .no, .no, .no]) = _
  rw [e]
  rfl
theorem m_right (n : NB) {c : Code} (hs : SgOk c.s) (x : Pd) (hx : gB x = true) : ∃ n' : NB, m__law_right [.d c.d, .d x, .own true [.int n]] = .ok (.d (.bool true)) [.d c.d, .d x, .own true [.int n']] := by
  have ea : m_are_tellings [.d c.d, .d x] = .ok (.d (.bool (bookB c.s x))) [.d c.d, .d x] := m_aretell _ hs x hx
  have el : m__law_is_book [.d c.d, .d x] = .ok (.d (.bool (bookB c.s x))) [.d c.d, .d x] := m_lisbook hs _ x hx
  have eb : m_is_book [.d c.d, .d x] = .ok (.d (.bool (bookB c.s x))) [.d c.d, .d x] := by simp [m_is_book, gOf, w_is_book, ea]
  obtain ⟨a, n1, a0, a1, et⟩ := take_ex n 3 (by omega) (by omega)
  generalize c.d = cd at *
  generalize bookB c.s x = B at *
  have i1 : isiD "bool" (.bool B) = some (.bool true) := rfl
  have q1 : neD (.bool B) (.bool B) = some (.bool false) := by cases B <;> rfl
  have s1 : fAsg (fCall 2 m_is_book (fCons (fVar 0) (fCons (fVar 1) fNil))) (put 3) [.d cd, .d x, .own true [.int n], .no] = .ok .nx [.d cd, .d x, .own true [.int n], .d (.bool B)] := by simp [eb, put_eq]
  have s2 : fIfS (fOr (fNot (fTest (f1 (isiD "bool") (fVar 3)))) (fTest (f2 neD (fVar 3) (fCall 2 m__law_is_book (fCons (fVar 0) (fCons (fVar 1) fNil)))))) (fRet (fC (.bool false))) fNx [.d cd, .d x, .own true [.int n], .d (.bool B)] = .ok .nx [.d cd, .d x, .own true [.int n], .d (.bool B)] := by
    generalize neD = ne at *
    generalize isiD "bool" = ib at *
    simp [el, i1, q1]
  cases B with
  | true =>
    refine ⟨n, ?_⟩
    have e : w__law_right [.d cd, .d x, .own true [.int n], .no] = .ok (.rt (.bool true)) [.d cd, .d x, .own true [.int n], .d (.bool true)] := by
      unfold w__law_right
      rw [fSeq_nx s1, fSeq_nx s2]
      simp
    show Dt.endF _ (w__law_right [.d cd, .d x, .own true [.int n], .no]) = _
    rw [e]
    rfl
  | false =>
    obtain ⟨as, es⟩ := seen_no ea a
    refine ⟨n1, ?_⟩
    have q := fCallP_ok (n := 1) (i := 2) (g := m__law_take) (fa := fCons (fC (.int 3)) fNil) (ρ := [.d cd, .d x, .own true [.int n], .d (.bool false)]) (ρ1 := [.d cd, .d x, .own true [.int n], .d (.bool false)]) (as := [.d (.int 3)]) (xs := [.int 3]) rfl (by simp) rfl rfl et
    have e : w__law_right [.d cd, .d x, .own true [.int n], .no] = .ok (.rt (.bool true)) [.d cd, .d x, .own true [.int n1], .d (.bool false)] := by
      unfold w__law_right
      rw [fSeq_nx s1, fSeq_nx s2]
      generalize fCallP 1 2 m__law_take (fCons (fC (.int 3)) fNil) = g at *
      simp [q, es]
    show Dt.endF _ (w__law_right [.d cd, .d x, .own true [.int n], .no]) = _
    rw [e]
    rfl
end Lw
namespace Lw
open PySem PySem.Spec L2 Evl Dt
open TL (tl joinL tl_join tl_ofString join_eq tl_append len_tl)
/-! ### the law -/
theorem stp_og {s : Str} (hs : SgOk s) {t : Stp} (h : t.Ok s) : Og 1 t.d := by
  refine ⟨[.str (ofL t.a), .str (ofL t.b)], rfl, by simp, fun x hx => ?_⟩
  simp only [List.mem_cons, List.not_mem_nil, or_false] at hx
  rcases hx with rfl | rfl
  · exact ⟨_, rfl, by rw [len_tl, tl_ofL]; exact h.a1, fun c hc => hs.let' c (h.ina c (by rw [tl_ofL] at hc; exact hc))⟩
  · exact ⟨_, rfl, by rw [len_tl, tl_ofL]; exact h.b1, fun c hc => hs.let' c (h.inb c (by rw [tl_ofL] at hc; exact hc))⟩
theorem tel_og {s : Str} (hs : SgOk s) {ts : List Stp} (hl : ts.length ≤ 20) (h : ∀ t ∈ ts, t.Ok s) : Og 2 (.tuple (ts.map Stp.d)) := by
  refine ⟨ts.map Stp.d, rfl, by rw [List.length_map]; exact hl, fun x hx => ?_⟩
  obtain ⟨t, ht, rfl⟩ := List.mem_map.mp hx
  exact stp_og hs (h t ht)
theorem kmul {k : Nat} (hk : k ≤ 3) : mulC (.int 6) (.int (k : Int)) = some (.int ((6 * k : Nat) : Int)) := by
  have : k = 0 ∨ k = 1 ∨ k = 2 ∨ k = 3 := by omega
  rcases this with rfl | rfl | rfl | rfl <;> rfl
theorem book_turn (ns : List Int) (hb : ∀ z ∈ ns, Dt.bits z ≤ 1048576) {c : Code} (hs : SgOk c.s) (k : Nat) (hk : k ≤ 3) (j : Nat) (hj : j ≤ 5) (P : List Pd) (xs : List Pd) (hx : ∀ x ∈ xs, Og 2 x) (hxl : xs.length ≤ 10) {s6 s7 s8 s9 s10 : Sl} (i6 : isIo s6 = false) :
    ∃ (y : Pd) (n6 : NB), Og 2 y ∧ fb_law_1 [.d (.list (ns.map PyData.int)), .d c.d, .d (.int (k : Int)), .own false P, .d (.tuple xs), .d (.int (j : Int)), s6, s7, s8, s9, s10]
      = .ok .nx [.d (.list (ns.map PyData.int)), .d c.d, .d (.int (k : Int)), .own false P, .d (.tuple (xs ++ [y])), .d (.int (j : Int)), .own false [.int n6], s7, s8, s9, s10] := by
  obtain ⟨n0, e0⟩ := m_pack ns hb (4 + 6 * k + j) (by omega)
  obtain ⟨cs, n1, l1, m1, e1⟩ := m_lword n0 hs 6 (by omega) (by omega)
  obtain ⟨n2, ts, l2, k2, f2', e2⟩ := m_tellingS n1 hs cs m1 (by omega)
  have og := tel_og hs (by omega) k2
  refine ⟨.tuple (ts.map Stp.d), n2, og, ?_⟩
  have a1 := kmul hk
  have a2 : addD (.int 4) (.int ((6 * k : Nat) : Int)) = some (.int ((4 + 6 * k : Nat) : Int)) := by
    show some (PyData.int (4 + ((6 * k : Nat) : Int))) = _
    congr 2
  have a3 : addD (.int ((4 + 6 * k : Nat) : Int)) (.int (j : Int)) = some (.int ((4 + 6 * k + j : Nat) : Int)) := rfl
  have hcd : ixD c.d (.int 0) = some (.str c.s) := by
    show atI _ 0 = _
    exact at0 _ _
  have a4 : addD (.tuple xs) (.tuple [.tuple (ts.map Stp.d)]) = some (.tuple (xs ++ [.tuple (ts.map Stp.d)])) := by
    rw [addD_tuple, if_pos (by simp [sizeLine]; omega)]
  generalize ((4 + 6 * k + j : Nat) : Int) = J at *
  generalize ((4 + 6 * k : Nat) : Int) = K4 at *
  generalize ((6 * k : Nat) : Int) = K6 at *
  generalize PyData.tuple (ts.map Stp.d) = T at *
  generalize c.d = cd at *
  generalize c.s = sg at *
  generalize ofL cs = w at *
  generalize (n0 : Int) = n0' at *
  generalize (n1 : Int) = n1' at *
  generalize (n2 : Int) = n2' at *
  generalize ns.map PyData.int = NS at *
  have s1 : fSetO (fCallL 2 m__law_pack (fCons (fVar 0) (fCons (f2 addD (f2 addD (fC (.int 4)) (f2 mulC (fC (.int 6)) (fVar 2))) (fVar 5)) fNil))) 6 [.d (.list NS), .d cd, .d (.int (k : Int)), .own false P, .d (.tuple xs), .d (.int (j : Int)), s6, s7, s8, s9, s10]
      = .ok .nx [.d (.list NS), .d cd, .d (.int (k : Int)), .own false P, .d (.tuple xs), .d (.int (j : Int)), .own false [.int n0'], s7, s8, s9, s10] := by
    generalize addD = ad at *
    generalize mulC = mc at *
    simp [a1, a2, a3, e0, putOwn_eq, i6]
  have q1 := fCallP_ok (n := 2) (i := 6) (g := m__law_word) (fa := fCons (f2 ixD (fVar 1) (fC (.int 0))) (fCons (fC (.int 6)) fNil)) (ρ := [.d (.list NS), .d cd, .d (.int (k : Int)), .own false P, .d (.tuple xs), .d (.int (j : Int)), .own false [.int n0'], s7, s8, s9, s10]) (ρ1 := [.d (.list NS), .d cd, .d (.int (k : Int)), .own false P, .d (.tuple xs), .d (.int (j : Int)), .own false [.int n0'], s7, s8, s9, s10])
    (as := [.d (.str sg), .d (.int 6)]) (xs := [.str sg, .int 6]) rfl (by simp [hcd]) rfl rfl e1
  have q2 := fCallP_ok (n := 2) (i := 6) (g := m__law_telling) (fa := fCons (f2 ixD (fVar 1) (fC (.int 0))) (fCons (fCallP 2 6 m__law_word (fCons (f2 ixD (fVar 1) (fC (.int 0))) (fCons (fC (.int 6)) fNil))) fNil)) (ρ := [.d (.list NS), .d cd, .d (.int (k : Int)), .own false P, .d (.tuple xs), .d (.int (j : Int)), .own false [.int n0'], s7, s8, s9, s10]) (ρ1 := [.d (.list NS), .d cd, .d (.int (k : Int)), .own false P, .d (.tuple xs), .d (.int (j : Int)), .own false [.int n1'], s7, s8, s9, s10])
    (as := [.d (.str sg), .d (.str w)]) (xs := [.str sg, .str w]) rfl (by
      generalize fCallP 2 6 m__law_word (fCons (f2 ixD (fVar 1) (fC (.int 0))) (fCons (fC (.int 6)) fNil)) = g at *
      simp [hcd, q1]) rfl rfl e2
  have s2 : fAsg (f2 addD (fVar 4) (fTup (fCons (fCallP 2 6 m__law_telling (fCons (f2 ixD (fVar 1) (fC (.int 0))) (fCons (fCallP 2 6 m__law_word (fCons (f2 ixD (fVar 1) (fC (.int 0))) (fCons (fC (.int 6)) fNil))) fNil))) fNil))) (put 4) [.d (.list NS), .d cd, .d (.int (k : Int)), .own false P, .d (.tuple xs), .d (.int (j : Int)), .own false [.int n0'], s7, s8, s9, s10]
      = .ok .nx [.d (.list NS), .d cd, .d (.int (k : Int)), .own false P, .d (.tuple (xs ++ [T])), .d (.int (j : Int)), .own false [.int n2'], s7, s8, s9, s10] := by
    generalize addD = ad at *
    generalize fCallP 2 6 m__law_telling (fCons (f2 ixD (fVar 1) (fC (.int 0))) (fCons (fCallP 2 6 m__law_word (fCons (f2 ixD (fVar 1) (fC (.int 0))) (fCons (fC (.int 6)) fNil))) fNil)) = g at *
    simp [q2, a4, put_eq, sizeLine]
  unfold fb_law_1
  rw [fSeq_nx s1]
  exact s2
/-! ### the things -/
theorem gB_tup {ys : List Pd} (hl : ys.length ≤ 1000) (h : ∀ y ∈ ys, gT y = true) : gB (.tuple ys) = true := by
  show (decide _ && ys.all gT) = true
  rw [Bool.and_eq_true]
  exact ⟨decide_eq_true hl, List.all_eq_true.mpr h⟩
theorem gT_tup {ys : List Pd} (hl : ys.length ≤ 1000) (h : ∀ y ∈ ys, gS y = true) : gT (.tuple ys) = true := by
  show (decide _ && ys.all gS) = true
  rw [Bool.and_eq_true]
  exact ⟨decide_eq_true hl, List.all_eq_true.mpr h⟩
def ss (x y : Str) : Pd := .tuple [.str x, .str y]
theorem ss_g {x y : Str} (hx : gP (.str x) = true) (hy : gP (.str y) = true) : gS (ss x y) = true := by
  show (gP _ && (gP _ && true)) = true
  rw [hx, hy]; rfl
theorem one_g {ys : List Pd} (hl : ys.length ≤ 1000) (h : ∀ y ∈ ys, gS y = true) : gB (.tuple [.tuple ys]) = true :=
  gB_tup (by simp only [List.length_cons, List.length_nil]; omega) fun y hy => by
    rw [List.mem_singleton.mp hy]
    exact gT_tup hl h
theorem sg1_g {c : Nat} (h : c < 1114112) : gP (.str (sg1 c)) = true :=
  gP_str (strOk_lt fun x hx => by rw [List.mem_singleton.mp hx]; exact h) (by show (1 : Nat) ≤ 1000; omega)
def thingsL (xs : List Pd) (x0 : Pd) : List Pd := [.tuple xs, .list xs, .tuple (List.replicate 7 xs).flatten, x0, .tuple [], .none, .str (S ""), .dict [], .tuple [.tuple xs], .tuple (cutD xs none (some 1) ++ [.tuple [ss (S "q") (S "")]])]
theorem things_g {xs : List Pd} (hx : ∀ x ∈ xs, Og 2 x) (hl : xs.length ≤ 6) {x0 : Pd} (h0 : x0 ∈ xs) : ∀ y ∈ thingsL xs x0, gB y = true := by
  have g2 : ∀ x ∈ xs, gT x = true := fun x h => og_g 2 (by omega) (hx x h)
  intro y hy
  unfold thingsL at hy
  simp only [List.mem_cons, List.not_mem_nil, or_false] at hy
  rcases hy with rfl | rfl | rfl | rfl | rfl | rfl | rfl | rfl | rfl | rfl
  · exact gB_tup (by omega) g2
  · rfl
  · refine gB_tup ?_ fun y hy => ?_
    · rw [List.length_flatten, List.map_replicate, List.sum_replicate_nat]; omega
    · obtain ⟨l, hl, hyl⟩ := List.mem_flatten.mp hy
      rw [List.eq_of_mem_replicate hl] at hyl
      exact g2 y hyl
  · obtain ⟨ts, rfl, h1, h2⟩ := hx _ h0
    refine gB_tup (by omega) fun y hy => ?_
    obtain ⟨ps, rfl, h3, h4⟩ := h2 y hy
    refine gT_tup (by omega) fun z hz => ?_
    obtain ⟨p, rfl, _⟩ := h4 z hz
    rfl
  · rfl
  · rfl
  · rfl
  · rfl
  · refine gB_tup (by simp only [List.length_cons, List.length_nil]; omega) fun y hy => ?_
    rw [List.mem_singleton.mp hy]
    refine gT_tup (by omega) fun z hz => ?_
    have hog := hx z hz
    obtain ⟨ts, rfl, h1, h2⟩ := hog
    show ts.all gP = true
    rw [List.all_eq_true]
    intro t ht
    have hsh := og_sh 1 58 (h2 t ht)
    obtain ⟨ps, rfl, h3, h4⟩ := h2 t ht
    show (true && sh 59 _) = true
    rw [hsh]; rfl
  · refine gB_tup ?_ fun y hy => ?_
    · have := cutD_len xs none (some 1)
      rw [List.length_append]; simp; omega
    · rcases List.mem_append.mp hy with hy | hy
      · exact g2 y (cutD_mem hy)
      · rw [List.mem_singleton.mp hy]
        refine gT_tup (by simp only [List.length_cons, List.length_nil]; omega) fun z hz => ?_
        rw [List.mem_singleton.mp hz]
        exact ss_g (by decide +kernel) (by decide +kernel)
end Lw
namespace Lw
open PySem PySem.Spec L2 Evl Dt
open TL (tl joinL tl_join tl_ofString join_eq tl_append len_tl)
/-! ### a turn of the law -/
def nw : Sl → Bool
  | .own _ _ => false
  | .m _ _ => false
  | _ => true
theorem nw_io {s : Sl} (h : nw s = true) : isIo s = false := by
  cases s with
  | own _ _ => cases h
  | m _ _ => cases h
  | _ => rfl
theorem okW5 {a b c d e s : Sl} {r : List Sl} (h : nw s = true) : okW (a :: b :: c :: d :: e :: s :: r) [5] = true := by
  cases s with
  | own _ _ => cases h
  | m _ _ => cases h
  | _ => rfl
theorem book_loop (ns : List Int) (hb : ∀ z ∈ ns, Dt.bits z ≤ 1048576) {c : Code} (hs : SgOk c.s) (k : Nat) (hk : k ≤ 3) (m : Nat) (hm : m ≤ 6) (P : List Pd) {s5 s6 s7 s8 s9 s10 : Sl} (i5 : nw s5 = true) (i6 : isIo s6 = false) :
    ∃ (xs : List Pd) (t5 t6 : Sl), nw t5 = true ∧ isIo t6 = false ∧ xs.length = m ∧ (∀ x ∈ xs, Og 2 x) ∧ forRun (put 5) fb_law_1 (nums 0 m) [.d (.list (ns.map PyData.int)), .d c.d, .d (.int (k : Int)), .own false P, .d (.tuple []), s5, s6, s7, s8, s9, s10]
      = .ok .nx [.d (.list (ns.map PyData.int)), .d c.d, .d (.int (k : Int)), .own false P, .d (.tuple xs), t5, t6, s7, s8, s9, s10] := by
  have hN : (nums 0 m).length = m := by simp [nums]
  obtain ⟨ρ', e, xs, t5, t6, h5, h6, hl, hx, rfl⟩ := for_inv (h := put 5) (fb := fb_law_1) (xs := nums 0 m) (ρ := [.d (.list (ns.map PyData.int)), .d c.d, .d (.int (k : Int)), .own false P, .d (.tuple []), s5, s6, s7, s8, s9, s10])
    (fun i ρ => ∃ (xs : List Pd) (t5 t6 : Sl), nw t5 = true ∧ isIo t6 = false ∧ xs.length = i ∧ (∀ x ∈ xs, Og 2 x) ∧ ρ = [.d (.list (ns.map PyData.int)), .d c.d, .d (.int (k : Int)), .own false P, .d (.tuple xs), t5, t6, s7, s8, s9, s10])
    (fun i x ρ hx ⟨xs, t5, t6, h5, h6, hl, hxs, er⟩ => by
      have hi : i < m := by
        have := (List.getElem?_eq_some_iff.mp hx).1
        omega
      have hx' : x = .int (i : Int) := by
        unfold nums at hx
        simp only [List.getElem?_map] at hx
        rw [List.getElem?_range (by simpa using hi)] at hx
        cases hx
        simp
      subst hx' er
      obtain ⟨y, n6, hy, eb⟩ := book_turn ns hb hs k hk i (by omega) P xs hxs (by omega) (s6 := t6) (s7 := s7) (s8 := s8) (s9 := s9) (s10 := s10) h6
      refine ⟨[.d (.list (ns.map PyData.int)), .d c.d, .d (.int (k : Int)), .own false P, .d (.tuple xs), .d (.int (i : Int)), t6, s7, s8, s9, s10], _, by simp [put_eq, nw_io h5], .inl eb, xs ++ [y], .d (.int (i : Int)), .own false [.int n6], rfl, rfl, by simp [hl], fun z hz => ?_, rfl⟩
      rcases List.mem_append.mp hz with hz | hz
      · exact hxs z hz
      · rw [List.mem_singleton.mp hz]; exact hy)
    ⟨[], s5, s6, i5, i6, rfl, by simp, rfl⟩
  rw [hN] at hl
  exact ⟨xs, t5, t6, h5, h6, hl, hx, e⟩
theorem bents (n : NB) {d : Pd} (h : Og 3 d) {NS cd k s5 s6 s7 s8 s9 s10 : Sl} (i5 : nw s5 = true) : ∃ (ys : List Pd) (n' : NB), ys.length = 5 ∧ (∀ y ∈ ys, gB y = true) ∧
    fLc (fRng1 (fCons (fC (.int 5)) fNil)) (put 5) (fun ρ => .ok true ρ) ce_law_3 [5] [NS, cd, k, .own false [.int n], .d d, s5, s6, s7, s8, s9, s10] = .ok ys [NS, cd, k, .own false [.int n'], .d d, .no, s6, s7, s8, s9, s10] := by
  have hlen : (nums 0 5).length = 5 := by simp [nums]
  obtain ⟨acc, ρ', key, n2, rfl, hl, hg⟩ := lc_inv0 (h := put 5) (ft := fun ρ => R.ok true ρ) (fe := ce_law_3) (vs := [5]) (xs := nums 0 5) (ρ := [NS, cd, k, .own false [.int n], .d d, .no, s6, s7, s8, s9, s10])
    (fun i acc ρ => ∃ (n2 : NB), ρ = [NS, cd, k, .own false [.int n2], .d d, .no, s6, s7, s8, s9, s10] ∧ acc.length = i ∧ ∀ y ∈ acc, gB y = true)
    ⟨n, rfl, rfl, by simp⟩ (fun i x acc ρ hx ⟨n2, er, hl, hg⟩ => by
      have hi : i < 5 := by
        have := (List.getElem?_eq_some_iff.mp hx).1
        omega
      subst er
      obtain ⟨X, n3, gX, eX⟩ := m_bent 3 (by omega) 5 (by omega) n2 d h 4 (by omega)
      have q := fCallP_ok (n := 2) (i := 3) (g := m__law_bent 5) (fa := fCons (fVar 4) (fCons (fC (.int 4)) fNil)) (ρ := [NS, cd, k, .own false [.int n2], .d d, .d x, s6, s7, s8, s9, s10]) (ρ1 := [NS, cd, k, .own false [.int n2], .d d, .d x, s6, s7, s8, s9, s10]) (as := [.d d, .d (.int 4)]) (xs := [d, .int 4]) rfl (by simp) rfl rfl eX
      refine ⟨[NS, cd, k, .own false [.int n2], .d d, .d x, s6, s7, s8, s9, s10], _, [NS, cd, k, .own false [.int n3], .d d, .d x, s6, s7, s8, s9, s10], X, by simp [put_eq], rfl, q, by simp [sizeLine]; omega, n3, by simp, by simp [hl], fun y hy => ?_⟩
      rcases List.mem_append.mp hy with hy | hy
      · exact hg y hy
      · rw [List.mem_singleton.mp hy]; exact gX)
  rw [hlen] at hl
  refine ⟨acc, n2, hl, hg, ?_⟩
  have hN : fRng1 (fCons (fC (.int 5)) fNil) [NS, cd, k, .own false [.int n], .d d, s5, s6, s7, s8, s9, s10] = .ok (nums 0 5) [NS, cd, k, .own false [.int n], .d d, s5, s6, s7, s8, s9, s10] := fRng1_of (j := 5) (by simp) (by omega)
  rw [fLc_ap, if_pos (okW5 i5), hN]
  exact key
theorem all_right (n : NB) {c : Code} (hs : SgOk c.s) {TL : List Pd} (hl : TL.length ≤ 1000) (hg : ∀ y ∈ TL, gB y = true) {NS k s4 s5 s6 s8 s9 s10 : Sl} (o9 : okW [NS, .d c.d, k, .own false [.int n], s4, s5, s6, .d (.list TL), s8, s9, s10] [9] = true) : ∃ (n' : NB),
    fLc (fItL (fVar 7)) (put 9) (fun ρ => .ok true ρ) ce_law_4 [9] [NS, .d c.d, k, .own false [.int n], s4, s5, s6, .d (.list TL), s8, s9, s10] = .ok (TL.map fun _ => .bool true) [NS, .d c.d, k, .own false [.int n'], s4, s5, s6, .d (.list TL), s8, .no, s10] := by
  obtain ⟨acc, ρ', key, n2, rfl, rfl⟩ := lc_inv0 (h := put 9) (ft := fun ρ => R.ok true ρ) (fe := ce_law_4) (vs := [9]) (xs := TL) (ρ := [NS, .d c.d, k, .own false [.int n], s4, s5, s6, .d (.list TL), s8, .no, s10])
    (fun i acc ρ => ∃ (n2 : NB), ρ = [NS, .d c.d, k, .own false [.int n2], s4, s5, s6, .d (.list TL), s8, .no, s10] ∧ acc = (TL.take i).map fun _ => .bool true)
    ⟨n, rfl, rfl⟩ (fun i x acc ρ hx ⟨n2, er, ea⟩ => by
      have hi := (List.getElem?_eq_some_iff.mp hx).1
      subst er ea
      have hxm : x ∈ TL := List.mem_of_getElem? hx
      obtain ⟨n3, e3⟩ := m_right n2 hs x (hg x hxm)
      have q := fCallQ_ok (n := 3) (p := 2) (i := 3) (g := m__law_right) (fa := fCons (fVar 1) (fCons (fVar 9) (fCons (fOwn 3) fNil))) (ρ := [NS, .d c.d, k, .own false [.int n2], s4, s5, s6, .d (.list TL), s8, .d x, s10]) (ρ1 := [NS, .d c.d, k, .own false [.int n2], s4, s5, s6, .d (.list TL), s8, .d x, s10])
        (as := [.d c.d, .d x, .sl 3]) (us := [c.d, x]) (ws := []) (b := false) (c := true) (ps := [.int n2]) (ps' := [.int n3]) (by simp [fOwn]) rfl rfl rfl rfl e3 rfl
      refine ⟨[NS, .d c.d, k, .own false [.int n2], s4, s5, s6, .d (.list TL), s8, .d x, s10], _, [NS, .d c.d, k, .own false [.int n3], s4, s5, s6, .d (.list TL), s8, .d x, s10], .bool true, by simp [put_eq], rfl, q, by simp [sizeLine]; omega, n3, by simp, ?_⟩
      rw [List.take_add_one, hx]
      simp)
  refine ⟨n2, ?_⟩
  rw [List.take_length] at key
  have hN : fItL (fVar 7) [NS, .d c.d, k, .own false [.int n], s4, s5, s6, .d (.list TL), s8, s9, s10] = .ok TL [NS, .d c.d, k, .own false [.int n], s4, s5, s6, .d (.list TL), s8, s9, s10] := by simp
  rw [fLc_ap, if_pos o9, hN]
  exact key
theorem law_body (ns : List Int) (hb : ∀ z ∈ ns, Dt.bits z ≤ 1048576) {c : Code} (hc : c.Ok 4) (k : Nat) (hk : k ≤ 3) {s3 s4 s5 s6 s7 s8 s9 s10 : Sl} (i3 : isIo s3 = false) (i4 : isIo s4 = false) (i5 : nw s5 = true) (i6 : isIo s6 = false) (i7 : isIo s7 = false) (i8 : isIo s8 = false) (i9 : s9 = .no) (i10 : s10 = .no) :
    ∃ u3 u4 u5 u6 u7 u8, isIo u3 = false ∧ isIo u4 = false ∧ nw u5 = true ∧ isIo u6 = false ∧ isIo u7 = false ∧ isIo u8 = false ∧
      fb_law_0 [.d (.list (ns.map PyData.int)), .d c.d, .d (.int (k : Int)), s3, s4, s5, s6, s7, s8, s9, s10] = .ok .nx [.d (.list (ns.map PyData.int)), .d c.d, .d (.int (k : Int)), u3, u4, u5, u6, u7, u8, .no, .no] := by
  subst i9 i10
  have hs := hc.s
  obtain ⟨n0, e0⟩ := m_pack ns hb k (by omega)
  obtain ⟨d, n1, d0, d1, e1⟩ := take_ex n0 6 (by omega) (by omega)
  obtain ⟨m, hm⟩ : ∃ m : Nat, (1 : Int) + d = (m : Int) := ⟨(1 + d).toNat, by omega⟩
  obtain ⟨xs, t5, t6, h5, h6, hxl, hx, e3⟩ := book_loop ns hb hs k hk m (by omega) [.int n1] (s7 := s7) (s8 := s8) (s9 := .no) (s10 := .no) i5 i6
  have hne : xs ≠ [] := fun e => by rw [e] at hxl; simp at hxl; omega
  obtain ⟨x0, rest, ex⟩ : ∃ x0 rest, xs = x0 :: rest := by
    cases xs with
    | nil => exact absurd rfl hne
    | cons a b => exact ⟨a, b, rfl⟩
  have hx0 : x0 ∈ xs := by rw [ex]; exact List.mem_cons_self
  have gth := things_g hx (by omega) hx0
  -- the code's signs
  obtain ⟨a, as, hsg⟩ : ∃ a as, tl c.s = a :: as := by
    have := hs.l1
    cases h : tl c.s with
    | nil => rw [h] at this; simp at this
    | cons a b => exact ⟨a, b, rfl⟩
  have ha := hs.let' a (by rw [hsg]; exact List.mem_cons_self)
  have lsg := len_tl c.s
  have l3 := hs.l3
  have hcd : ixD c.d (.int 0) = some (.str c.s) := by
    show atI _ 0 = _
    exact at0 _ _
  have hc0 : ixD (.str c.s) (.int 0) = some (.str (sg1 a)) := by
    have : c.s.cps.toList = a :: as := hsg
    have hz : c.s.length ≤ 16777216 := by omega
    simp [this, at0, hz, sizeLine]
  have hcut : slD (.str c.s) none (some 2) = some (.str (cutS c.s none (some 2))) := by
    rw [slD_str, if_pos (by simp only [sizeLine]; omega)]
  have htc : tl (cutS c.s none (some 2)) = (tl c.s).take 2 := tl_take c.s 2 (by omega)
  have gc : gP (.str (cutS c.s none (some 2))) = true := gP_str (strOk_lt fun x hx => by
    rw [htc] at hx
    have := hs.let' x (List.mem_of_mem_take hx); omega) (by rw [len_tl, htc, List.length_take]; omega)
  have ga : gP (.str (sg1 a)) = true := sg1_g (by omega)
  have gE : gP (.str (S "")) = true := by decide +kernel
  have hm7 : mulC (.str (sg1 a)) (.int 7) = some (.str (Txt.mul (sg1 a) 7)) := rfl
  have t7 : tl (Txt.mul (sg1 a) 7) = List.replicate 7 a := PyProof.Rows.mul_one_list _ _
  have ch7 : chars (Txt.mul (sg1 a) 7) = List.replicate 7 (.str (sg1 a)) := by
    rw [chars_eq, t7, List.map_replicate, List.map_replicate]
  have mt1 : mulT (.tuple xs) (.int 7) = some (.tuple (List.replicate 7 xs).flatten) := mulT_tup hne (by omega) (by omega) (by omega)
  have mt2 : mulT (.tuple [ss (S "") (sg1 a)]) (.int 20) = some (.tuple (List.replicate 20 [ss (S "") (sg1 a)]).flatten) := mulT_tup (by simp) (by omega) (by omega) (by simp)
  have hx0' : ixD (.tuple xs) (.int 0) = some x0 := by
    show atI xs 0 = _
    rw [ex]; exact at0 _ _
  have cl := cutD_len xs none (some 1)
  have ad1 : addD (.tuple (cutD xs none (some 1))) (.tuple [.tuple [ss (S "q") (S "")]]) = some (.tuple (cutD xs none (some 1) ++ [.tuple [ss (S "q") (S "")]])) := by
    rw [addD_tuple, if_pos (by simp only [sizeLine, List.length_cons, List.length_nil]; omega)]
  have hz : xs.length ≤ 16777216 := by omega
  -- the turns
  have a1 : fSetO (fCallL 2 m__law_pack (fCons (fVar 0) (fCons (fVar 2) fNil))) 3 [.d (.list (ns.map PyData.int)), .d c.d, .d (.int (k : Int)), s3, s4, s5, s6, s7, s8, .no, .no] = .ok .nx [.d (.list (ns.map PyData.int)), .d c.d, .d (.int (k : Int)), .own false [.int n0], s4, s5, s6, s7, s8, .no, .no] := by
    simp [e0, putOwn_eq, i3]
  have a2 : fAsg (fTup fNil) (put 4) [.d (.list (ns.map PyData.int)), .d c.d, .d (.int (k : Int)), .own false [.int n0], s4, s5, s6, s7, s8, .no, .no] = .ok .nx [.d (.list (ns.map PyData.int)), .d c.d, .d (.int (k : Int)), .own false [.int n0], .d (.tuple []), s5, s6, s7, s8, .no, .no] := by
    simp [put_eq, i4, sizeLine]
  generalize ns.map PyData.int = NS at *
  generalize (k : Int) = k0 at *
  have q3 := fCallP_ok (n := 1) (i := 3) (g := m__law_take) (fa := fCons (fC (.int 6)) fNil) (ρ := [.d (.list NS), .d c.d, .d (.int k0), .own false [.int n0], .d (.tuple []), s5, s6, s7, s8, .no, .no]) (ρ1 := [.d (.list NS), .d c.d, .d (.int k0), .own false [.int n0], .d (.tuple []), s5, s6, s7, s8, .no, .no]) (as := [.d (.int 6)]) (xs := [.int 6]) rfl (by simp) rfl rfl e1
  have a3 : fFor (fRng1 (fCons (f2 addD (fC (.int 1)) (fCallP 1 3 m__law_take (fCons (fC (.int 6)) fNil))) fNil)) (put 5) fb_law_1 [.d (.list NS), .d c.d, .d (.int k0), .own false [.int n0], .d (.tuple []), s5, s6, s7, s8, .no, .no] = .ok .nx [.d (.list NS), .d c.d, .d (.int k0), .own false [.int n1], .d (.tuple xs), t5, t6, s7, s8, .no, .no] := by
    have hN : fRng1 (fCons (f2 addD (fC (.int 1)) (fCallP 1 3 m__law_take (fCons (fC (.int 6)) fNil))) fNil) [.d (.list NS), .d c.d, .d (.int k0), .own false [.int n0], .d (.tuple []), s5, s6, s7, s8, .no, .no] = .ok (nums 0 (1 + d).toNat) [.d (.list NS), .d c.d, .d (.int k0), .own false [.int n1], .d (.tuple []), s5, s6, s7, s8, .no, .no] := fRng1_of (j := 1 + d) (by
      generalize fCallP 1 3 m__law_take (fCons (fC (.int 6)) fNil) = g at *
      simp [q3]) (by omega)
    have hm' : (1 + d).toNat = m := by omega
    rw [hm'] at hN
    rw [fFor_ap, hN]
    exact e3
  have a4 : fSetO (fLst (fCons (fVar 4) (fCons (fL (fCBL listA (fCons (fVar 4) fNil))) (fCons (f2 mulT (fVar 4) (fC (.int 7))) (fCons (f2 ixD (fVar 4) (fC (.int 0))) (fCons (fTup fNil) (fCons (fC .none) (fCons (fC (.str "")) (fCons (fC (.dict [])) (fCons (fTup (fCons (fVar 4) fNil)) (fCons (f2 addD (fSl slD (fVar 4) fNoPart (fPart (fC (.int 1)))) (fTup (fCons (fTup (fCons (fTup (fCons (fC (.str "q")) (fCons (fC (.str "")) fNil))) fNil)) fNil))) fNil))))))))))) 7
      [.d (.list NS), .d c.d, .d (.int k0), .own false [.int n1], .d (.tuple xs), t5, t6, s7, s8, .no, .no] = .ok .nx [.d (.list NS), .d c.d, .d (.int k0), .own false [.int n1], .d (.tuple xs), t5, t6, .own false (thingsL xs x0), s8, .no, .no] := by
    generalize mulT = mt at *
    generalize ixD = ix at *
    generalize addD = ad at *
    unfold thingsL ss at *
    simp [mt1, hx0', ad1, sizeLine, hz, putOwn_eq, i7]
  have a5 : fApp 7 (fTup (fCons (f2 mulT (fTup (fCons (fTup (fCons (fC (.str "")) (fCons (f2 ixD (f2 ixD (fVar 1) (fC (.int 0))) (fC (.int 0))) fNil))) fNil)) (fC (.int 20))) fNil)) [.d (.list NS), .d c.d, .d (.int k0), .own false [.int n1], .d (.tuple xs), t5, t6, .own false (thingsL xs x0), s8, .no, .no]
      = .ok .nx [.d (.list NS), .d c.d, .d (.int k0), .own false [.int n1], .d (.tuple xs), t5, t6, .own false (thingsL xs x0 ++ [.tuple [.tuple (List.replicate 20 [ss (S "") (sg1 a)]).flatten]]), s8, .no, .no] := by
    have hl10 : (thingsL xs x0).length = 10 := rfl
    generalize thingsL xs x0 = L at *
    generalize (List.replicate 20 [ss (S "") (sg1 a)]).flatten = F at *
    generalize c.d = cd at *
    generalize c.s = sg at *
    generalize mulT = mt at *
    generalize ixD = ix at *
    unfold ss at *
    simp [mt2, hcd, hc0, sizeLine, hl10]
  have a6 : fAsg (fSl slD (f2 ixD (fVar 1) (fC (.int 0))) fNoPart (fPart (fC (.int 2)))) (put 8) [.d (.list NS), .d c.d, .d (.int k0), .own false [.int n1], .d (.tuple xs), t5, t6, .own false (thingsL xs x0 ++ [.tuple [.tuple (List.replicate 20 [ss (S "") (sg1 a)]).flatten]]), s8, .no, .no]
      = .ok .nx [.d (.list NS), .d c.d, .d (.int k0), .own false [.int n1], .d (.tuple xs), t5, t6, .own false (thingsL xs x0 ++ [.tuple [.tuple (List.replicate 20 [ss (S "") (sg1 a)]).flatten]]), .d (.str (cutS c.s none (some 2))), .no, .no] := by
    generalize thingsL xs x0 ++ [.tuple [.tuple (List.replicate 20 [ss (S "") (sg1 a)]).flatten]] = L at *
    generalize c.d = cd at *
    generalize c.s = sg at *
    generalize ixD = ix at *
    generalize slD = sl at *
    simp [hcd, hcut, put_eq, i8]
  obtain ⟨L1, hL1⟩ : ∃ L1, L1 = thingsL xs x0 ++ [.tuple [.tuple (List.replicate 20 [ss (S "") (sg1 a)]).flatten]] := ⟨_, rfl⟩
  have lL1 : L1.length = 11 := by rw [hL1]; rfl
  have gL1 : ∀ y ∈ L1, gB y = true := fun y hy => by
    rw [hL1] at hy
    rcases List.mem_append.mp hy with hy | hy
    · exact gth y hy
    · rw [List.mem_singleton.mp hy]
      refine one_g (by rw [List.length_flatten, List.map_replicate, List.sum_replicate_nat]; simp) fun z hz => ?_
      obtain ⟨l, hl, hzl⟩ := List.mem_flatten.mp hz
      rw [List.eq_of_mem_replicate hl] at hzl
      rw [List.mem_singleton.mp hzl]
      exact ss_g gE ga
  rw [← hL1] at a5 a6
  generalize thingsL xs x0 = T0 at *
  clear hL1
  -- four more
  have a7 : fExt 7 (fLst (fCons (fTup (fCons (fTup (fCons (fTup (fCons (fC (.str "")) (fCons (fVar 8) fNil))) fNil)) fNil)) (fCons (fTup (fCons (fTup (fCons (fTup (fCons (fVar 8) (fCons (f2 ixD (f2 ixD (fVar 1) (fC (.int 0))) (fC (.int 0))) fNil))) fNil)) fNil)) (fCons (fTup (fCons (fTup (fCons (fTup (fCons (f2 ixD (f2 ixD (fVar 1) (fC (.int 0))) (fC (.int 0))) (fCons (fVar 8) fNil))) fNil)) fNil)) (fCons (fTup (fCons (fTup (fCons (fTup (fCons (fVar 8) (fCons (fVar 8) fNil))) fNil)) fNil)) fNil)))))
      [.d (.list NS), .d c.d, .d (.int k0), .own false [.int n1], .d (.tuple xs), t5, t6, .own false L1, .d (.str (cutS c.s none (some 2))), .no, .no]
      = .ok .nx [.d (.list NS), .d c.d, .d (.int k0), .own false [.int n1], .d (.tuple xs), t5, t6, .own false (L1 ++ [.tuple [.tuple [ss (S "") (cutS c.s none (some 2))]], .tuple [.tuple [ss (cutS c.s none (some 2)) (sg1 a)]], .tuple [.tuple [ss (sg1 a) (cutS c.s none (some 2))]], .tuple [.tuple [ss (cutS c.s none (some 2)) (cutS c.s none (some 2))]]]), .d (.str (cutS c.s none (some 2))), .no, .no] := by
    generalize cutS c.s none (some 2) = cu at *
    generalize c.d = cd at *
    generalize c.s = sg at *
    generalize ixD = ix at *
    unfold ss at *
    simp [hcd, hc0, sizeLine, lL1]
  obtain ⟨L2, hL2⟩ : ∃ L2, L2 = L1 ++ [.tuple [.tuple [ss (S "") (cutS c.s none (some 2))]], .tuple [.tuple [ss (cutS c.s none (some 2)) (sg1 a)]], .tuple [.tuple [ss (sg1 a) (cutS c.s none (some 2))]], .tuple [.tuple [ss (cutS c.s none (some 2)) (cutS c.s none (some 2))]]] := ⟨_, rfl⟩
  have lL2 : L2.length = 15 := by rw [hL2, List.length_append, lL1]; rfl
  have gL2 : ∀ y ∈ L2, gB y = true := fun y hy => by
    rw [hL2] at hy
    rcases List.mem_append.mp hy with hy | hy
    · exact gL1 y hy
    · simp only [List.mem_cons, List.not_mem_nil, or_false] at hy
      have one : ∀ x y : Str, gP (.str x) = true → gP (.str y) = true → gB (.tuple [.tuple [ss x y]]) = true := fun x y h1 h2 => one_g (by simp) fun z hz => by
        rw [List.mem_singleton.mp hz]; exact ss_g h1 h2
      rcases hy with rfl | rfl | rfl | rfl
      · exact one _ _ gE gc
      · exact one _ _ gc ga
      · exact one _ _ ga gc
      · exact one _ _ gc gc
  rw [← hL2] at a7
  clear hL2
  have a8 : fApp 7 (fTup (fCons (fCB tupleA (fCons (fL (fLc (fItS (f2 mulC (f2 ixD (f2 ixD (fVar 1) (fC (.int 0))) (fC (.int 0))) (fC (.int 7)))) (put 10) (fun ρ => .ok true ρ) ce_law_2 [10])) fNil)) fNil)) [.d (.list NS), .d c.d, .d (.int k0), .own false [.int n1], .d (.tuple xs), t5, t6, .own false L2, .d (.str (cutS c.s none (some 2))), .no, .no]
      = .ok .nx [.d (.list NS), .d c.d, .d (.int k0), .own false [.int n1], .d (.tuple xs), t5, t6, .own false (L2 ++ [.tuple [.tuple (List.replicate 7 (ss (sg1 a) (sg1 a)))]]), .d (.str (cutS c.s none (some 2))), .no, .no] := by
    have key := lc_map (h := put 10) (ft := fun ρ => R.ok true ρ) (fe := ce_law_2) (vs := [10]) (fun p => .tuple [p, p]) (ρ := [.d (.list NS), .d c.d, .d (.int k0), .own false [.int n1], .d (.tuple xs), t5, t6, .own false L2, .d (.str (cutS c.s none (some 2))), .no, .no]) (xs := List.replicate 7 (.str (sg1 a))) (acc := []) (fun p hp => by
      exact ⟨[.d (.list NS), .d c.d, .d (.int k0), .own false [.int n1], .d (.tuple xs), t5, t6, .own false L2, .d (.str (cutS c.s none (some 2))), .no, .d p], _, [.d (.list NS), .d c.d, .d (.int k0), .own false [.int n1], .d (.tuple xs), t5, t6, .own false L2, .d (.str (cutS c.s none (some 2))), .no, .d p], by simp [put_eq], rfl, by simp [ce_law_2, sizeLine], by simp⟩) (by simp [sizeLine])
    rw [List.nil_append, List.map_replicate] at key
    rw [← ch7] at key
    generalize Txt.mul (sg1 a) 7 = U at *
    generalize cutS c.s none (some 2) = cu at *
    generalize c.d = cd at *
    generalize c.s = sg at *
    generalize ixD = ix at *
    generalize mulC = mc at *
    unfold ss at *
    have l7 : (List.replicate 7 (PyData.tuple [.str (sg1 a), .str (sg1 a)])).length ≤ sizeLine := by simp [sizeLine]
    generalize List.replicate 7 (PyData.tuple [.str (sg1 a), .str (sg1 a)]) = R7 at *
    generalize ce_law_2 = ce at *
    have hk : lcRun (put 10) (fun ρ => R.ok true ρ) ce [10] (chars U) [] [.d (.list NS), .d cd, .d (.int k0), .own false [.int n1], .d (.tuple xs), t5, t6, .own false L2, .d (.str cu), .no, .no] = .ok R7 [.d (.list NS), .d cd, .d (.int k0), .own false [.int n1], .d (.tuple xs), t5, t6, .own false L2, .d (.str cu), .no, .no] := key
    simp only [sizeLine] at l7
    simp [hcd, hc0, hm7, hk, sizeLine, lL2, l7]
  obtain ⟨L3, hL3⟩ : ∃ L3, L3 = L2 ++ [.tuple [.tuple (List.replicate 7 (ss (sg1 a) (sg1 a)))]] := ⟨_, rfl⟩
  have lL3 : L3.length = 16 := by rw [hL3, List.length_append, lL2]; rfl
  have gL3 : ∀ y ∈ L3, gB y = true := fun y hy => by
    rw [hL3] at hy
    rcases List.mem_append.mp hy with hy | hy
    · exact gL2 y hy
    · rw [List.mem_singleton.mp hy]
      exact one_g (by simp) fun z hz => by
        rw [List.eq_of_mem_replicate hz]; exact ss_g ga ga
  rw [← hL3] at a8
  clear hL3
  have og3 : Og 3 (.tuple xs) := ⟨xs, rfl, by omega, hx⟩
  obtain ⟨ys, n2, hyl, hyg, ey⟩ := bents n1 og3 (NS := .d (.list NS)) (cd := .d c.d) (k := .d (.int k0)) (s5 := t5) (s6 := t6) (s7 := .own false L3) (s8 := .d (.str (cutS c.s none (some 2)))) (s9 := .no) (s10 := .no) h5
  have a9 : fExt 7 (fLc (fRng1 (fCons (fC (.int 5)) fNil)) (put 5) (fun ρ => .ok true ρ) ce_law_3 [5]) [.d (.list NS), .d c.d, .d (.int k0), .own false [.int n1], .d (.tuple xs), t5, t6, .own false L3, .d (.str (cutS c.s none (some 2))), .no, .no]
      = .ok .nx [.d (.list NS), .d c.d, .d (.int k0), .own false [.int n2], .d (.tuple xs), .no, t6, .own false (L3 ++ ys), .d (.str (cutS c.s none (some 2))), .no, .no] := by
    generalize fLc (fRng1 (fCons (fC (.int 5)) fNil)) (put 5) (fun ρ => R.ok true ρ) ce_law_3 [5] = g at *
    simp [ey, sizeLine, lL3, hyl]
  have gL4 : ∀ y ∈ L3 ++ ys, gB y = true := fun y hy => by
    rcases List.mem_append.mp hy with hy | hy
    · exact gL3 y hy
    · exact hyg y hy
  have lL4 : (L3 ++ ys).length = 21 := by rw [List.length_append, lL3, hyl]
  generalize L3 ++ ys = L4 at *
  obtain ⟨n3, e10⟩ := all_right n2 hs (TL := L4) (by omega) gL4 (NS := .d (.list NS)) (k := .d (.int k0)) (s4 := .d (.tuple xs)) (s5 := .no) (s6 := t6) (s8 := .d (.str (cutS c.s none (some 2)))) (s9 := .no) (s10 := .no) rfl
  have eall := boolsD_all (fun _ => true) L4
  have hall : L4.all (fun _ => true) = true := List.all_eq_true.mpr fun _ _ => rfl
  rw [hall] at eall
  have a10 : fFrz 7 (fIfS (fNot (fTest (fCB allD (fCons (fL (fLc (fItL (fVar 7)) (put 9) (fun ρ => .ok true ρ) ce_law_4 [9])) fNil)))) (fRet (fC (.bool false))) fNx) [.d (.list NS), .d c.d, .d (.int k0), .own false [.int n2], .d (.tuple xs), .no, t6, .own false L4, .d (.str (cutS c.s none (some 2))), .no, .no]
      = .ok .nx [.d (.list NS), .d c.d, .d (.int k0), .own false [.int n3], .d (.tuple xs), .no, t6, .d (.list L4), .d (.str (cutS c.s none (some 2))), .no, .no] := by
    rw [fFrz_ap]
    have hf : frz 7 [.d (.list NS), .d c.d, .d (.int k0), .own false [.int n2], .d (.tuple xs), .no, t6, .own false L4, .d (.str (cutS c.s none (some 2))), .no, .no] = [.d (.list NS), .d c.d, .d (.int k0), .own false [.int n2], .d (.tuple xs), .no, t6, .d (.list L4), .d (.str (cutS c.s none (some 2))), .no, .no] := rfl
    rw [hf]
    generalize fLc (fItL (fVar 7)) (put 9) (fun ρ => R.ok true ρ) ce_law_4 [9] = g at *
    generalize allD = al at *
    simp [e10, eall]
  refine ⟨.own false [.int n3], .d (.tuple xs), .no, t6, .d (.list L4), .d (.str (cutS c.s none (some 2))), rfl, rfl, rfl, h6, rfl, rfl, ?_⟩
  unfold fb_law_0
  rw [fSeq_nx a1, fSeq_nx a2, fSeq_nx a3, fSeq_nx a4, fSeq_nx a5, fSeq_nx a6, fSeq_nx a7, fSeq_nx a8, fSeq_nx a9]
  exact a10
theorem math (ns : List Int) (h : ns.length ≤ 63) (hb : ∀ z ∈ ns, Dt.bits z ≤ 1048576) : ∃ as', m_law [.d (.list (ns.map PyData.int))] = .ok (.d (.bool true)) as' := by
  obtain ⟨m1, J, hJ0, hJ1, emin, emax⟩ : ∃ m1 J : Int, 2 ≤ J ∧ J ≤ 4 ∧ minD [.int (ns.length : Int), .int 4] = some (.int m1) ∧ maxD [.int 2, .int m1] = some (.int J) := by
    refine ⟨_, _, ?_, ?_, minD_int, maxD_int⟩ <;> (repeat' split) <;> omega
  obtain ⟨n0, e0⟩ := m_pack ns hb 0 (by omega)
  obtain ⟨c, n0', hc, ec⟩ := m_code n0 4 (by omega) (by omega)
  have hlen : (nums 1 (J - 1).toNat).length = (J - 1).toNat := by simp [nums]
  obtain ⟨ρ', e, t2, t3, t4, t5, t6, t7, t8, i2, i3, i4, i5, i6, i7, i8, er⟩ := for_inv (h := put 2) (fb := fb_law_0) (xs := nums 1 (J - 1).toNat)
    (fun i ρ => ∃ t2 t3 t4 t5 t6 t7 t8 : Sl, isIo t2 = false ∧ isIo t3 = false ∧ isIo t4 = false ∧ nw t5 = true ∧ isIo t6 = false ∧ isIo t7 = false ∧ isIo t8 = false ∧ ρ = [.d (.list (ns.map PyData.int)), .d c.d, t2, t3, t4, t5, t6, t7, t8, .no, .no])
    (fun i x ρ hx ⟨t2, t3, t4, t5, t6, t7, t8, i2, i3, i4, i5, i6, i7, i8, e⟩ => by
      have hi : i < (J - 1).toNat := by
        have := (List.getElem?_eq_some_iff.mp hx).1
        omega
      have hx' : x = .int ((i + 1 : Nat) : Int) := by
        unfold nums at hx
        simp only [List.getElem?_map] at hx
        rw [List.getElem?_range (by simpa using hi)] at hx
        cases hx
        show PyData.int _ = PyData.int _
        congr 1
        simp
        omega
      subst hx' e
      obtain ⟨u3, u4, u5, u6, u7, u8, j3, j4, j5, j6, j7, j8, eb⟩ := law_body ns hb hc (i + 1) (by omega) i3 i4 i5 i6 i7 i8 rfl rfl
      exact ⟨[.d (.list (ns.map PyData.int)), .d c.d, .d (.int ((i + 1 : Nat) : Int)), t3, t4, t5, t6, t7, t8, .no, .no], _, by simp [put_eq, i2], .inl eb, .d (.int ((i + 1 : Nat) : Int)), u3, u4, u5, u6, u7, u8, rfl, j3, j4, j5, j6, j7, j8, rfl⟩)
    (ρ := [.d (.list (ns.map PyData.int)), .d c.d, .no, .no, .no, .no, .no, .no, .no, .no, .no]) ⟨.no, .no, .no, .no, .no, .no, .no, rfl, rfl, rfl, rfl, rfl, rfl, rfl, rfl⟩
  subst er
  have el : lenD [.list (ns.map PyData.int)] = some (.int (ns.length : Int)) := by
    have : (ns.map PyData.int).length ≤ 16777216 := by rw [List.length_map]; omega
    simp only [lenD_list, sizeLine, List.length_map] at *
  refine ⟨[.d (.list (ns.map PyData.int))], ?_⟩
  have h44 : ((4 : Nat) : Int) = 4 := rfl
  have h00 : ((0 : Nat) : Int) = 0 := rfl
  rw [h44] at ec
  rw [h00] at e0
  generalize (ns.length : Int) = LN at *
  generalize ns.map PyData.int = NS at *
  generalize c.d = cd at *
  have p0 : fCallL 2 m__law_pack (fCons (fVar 0) (fCons (fC (.int 0)) fNil)) [.d (.list NS), .no, .no, .no, .no, .no, .no, .no, .no, .no, .no] = .ok [.int n0] [.d (.list NS), .no, .no, .no, .no, .no, .no, .no, .no, .no, .no] := by
    simp [e0]
  have s1 : fAsg (fCallT 1 m__law_code (fCallL 2 m__law_pack (fCons (fVar 0) (fCons (fC (.int 0)) fNil))) (fCons (fC (.int 4)) fNil)) (put 1) [.d (.list NS), .no, .no, .no, .no, .no, .no, .no, .no, .no, .no] = .ok .nx [.d (.list NS), .d cd, .no, .no, .no, .no, .no, .no, .no, .no, .no] := by
    have q := fCallT_ok (n := 1) (g := m__law_code) (fa := fCons (fC (.int 4)) fNil) (as := [.d (.int 4)]) (xs := [.int 4]) (ρ2 := [.d (.list NS), .no, .no, .no, .no, .no, .no, .no, .no, .no, .no]) p0 (by simp) rfl ec
    generalize fCallT 1 m__law_code (fCallL 2 m__law_pack (fCons (fVar 0) (fCons (fC (.int 0)) fNil))) (fCons (fC (.int 4)) fNil) = g at *
    simp [q, put_eq]
  have s2 : fFor (fRng2 (fCons (fC (.int 1)) (fCons (fCB maxD (fCons (fC (.int 2)) (fCons (fCB minD (fCons (fCB lenD (fCons (fVar 0) fNil)) (fCons (fC (.int 4)) fNil))) fNil))) fNil))) (put 2) fb_law_0 [.d (.list NS), .d cd, .no, .no, .no, .no, .no, .no, .no, .no, .no] = .ok .nx [.d (.list NS), .d cd, t2, t3, t4, t5, t6, t7, t8, .no, .no] := by
    have hN : fRng2 (fCons (fC (.int 1)) (fCons (fCB maxD (fCons (fC (.int 2)) (fCons (fCB minD (fCons (fCB lenD (fCons (fVar 0) fNil)) (fCons (fC (.int 4)) fNil))) fNil))) fNil)) [.d (.list NS), .d cd, .no, .no, .no, .no, .no, .no, .no, .no, .no] = .ok (nums 1 (J - 1).toNat) [.d (.list NS), .d cd, .no, .no, .no, .no, .no, .no, .no, .no, .no] := by
      generalize lenD = ld at *
      generalize minD = md at *
      generalize maxD = xd at *
      have hr : (-4611686018427387904 ≤ J ∧ J < 4611686018427387904) := by omega
      simp [el, emin, emax, hr.1, hr.2]
    rw [fFor_ap, hN]
    exact e
  have ew : w_law [.d (.list NS), .no, .no, .no, .no, .no, .no, .no, .no, .no, .no] = .ok (.rt (.bool true)) [.d (.list NS), .d cd, t2, t3, t4, t5, t6, t7, t8, .no, .no] := by
    unfold w_law
    rw [fSeq_nx s1, fSeq_nx s2]
    rfl
  show Dt.endF _ (w_law [.d (.list NS), .no, .no, .no, .no, .no, .no, .no, .no, .no, .no]) = _
  rw [ew]
  rfl
end Lw
namespace Lw
open PySem PySem.Spec L2 Evl Dt
abbrev Rr : PySem.W.OpenRow := PySem.W.OpenLaw.row PySem.Challenge.rw_wishladder_k43_books_of_any_things
abbrev hk : PySem.W.Hook := hookE 4 fa fn exB
def ob (s : PySem.W.SharedT) : He.AlD × Bool := obsE 4 fa fn exB (HandSHeadRun.getT s)
theorem ob_eq (s : PySem.W.SharedT) : ob s = hk.obs s.abs := obsE_eq (HandSHeadRun.getT_eq s)
theorem run (w : World) : HandSHeadRun.RunEq Rr (PySem.W.view Rr.prog [79]) hk ob 6000 [("LadderError" : PySem.Str), ("NoText" : PySem.Str), ("NoOrder" : PySem.Str), ("NoWord" : PySem.Str), ("NoNumber" : PySem.Str), ("NoForm" : PySem.Str), ("NoTelling" : PySem.Str), ("NoBook" : PySem.Str), ("TooMany" : PySem.Str), ("NoWeights" : PySem.Str), ("NoCall" : PySem.Str), ("NoKept" : PySem.Str), ("EDGE" : PySem.Str), ("is_text_of" : PySem.Str), ("MOST_WORD" : PySem.Str), ("is_word" : PySem.Str), ("check_word" : PySem.Str), ("wish_names" : PySem.Str), ("is_part" : PySem.Str), ("is_step" : PySem.Str), ("is_steps" : PySem.Str), ("is_telling" : PySem.Str), ("check_telling" : PySem.Str), ("word_of" : PySem.Str), ("lasts" : PySem.Str), ("behind" : PySem.Str), ("steps_of" : PySem.Str), ("is_met" : PySem.Str), ("step_counts" : PySem.Str), ("is_ended" : PySem.Str), ("end_counts" : PySem.Str), ("added" : PySem.Str), ("counts" : PySem.Str), ("MOST_CONTENDERS" : PySem.Str), ("is_nowhere_greater" : PySem.Str), ("with_one" : PySem.Str), ("closed_by_adding" : PySem.Str), ("gone_on" : PySem.Str), ("contending" : PySem.Str), ("MOST_TELLINGS" : PySem.Str), ("MOST_SIGNS" : PySem.Str), ("are_tellings" : PySem.Str), ("check_book" : PySem.Str), ("need_of" : PySem.Str), ("needs_of_telling" : PySem.Str), ("needs" : PySem.Str), ("all_orders" : PySem.Str), ("is_book" : PySem.Str), ("layers_of" : PySem.Str), ("numbered_needs" : PySem.Str), ("bars" : PySem.Str), ("least_quarrel" : PySem.Str), ("layered" : PySem.Str), ("keeps_all" : PySem.Str), ("telling_orders" : PySem.Str), ("_law_mixed" : PySem.Str), ("_law_pack" : PySem.Str), ("_law_take" : PySem.Str), ("_law_names" : PySem.Str), ("_law_set" : PySem.Str), ("_law_pattern" : PySem.Str), ("_law_code" : PySem.Str), ("_law_word" : PySem.Str), ("_law_telling" : PySem.Str), ("_law_is_book" : PySem.Str), ("_law_leaf" : PySem.Str), ("_law_bent" : PySem.Str), ("_law_seen" : PySem.Str), ("_law_right" : PySem.Str)] w := by
  intro os
  kernel_rfl
theorem facts [WD] {K : PySem.W.Frag} {h : Heap} {mg : Str → Option Value} {f : Addr} (X : K.In h) (G : h.Ns mainGlobals mg) (hfa : mg ("law" : Str) = some (.ref f)) (c : He.SaysD fa fn K) (xb : exB K = true) :
    ∃ (C : Str → Addr) (fd : FuncData), (∀ (s : Shared) (v : Value), BindsTo s fd ⟨[v], []⟩ [("_law_script", v)]) ∧ ∀ base : Heap, K.In base → base.Ns mainGlobals mg → FnOk WD.P WD.w K mg base (L2.CX WD.P WD.w) 11 f fd ["_law_script"] (spF ⟨K, C⟩ 1 m_law) := by
  obtain ⟨fd0, F0⟩ := c.def_ 0 (d := d__law_take) rfl
  obtain ⟨fd1, F1⟩ := c.def_ 1 (d := d__law_names) rfl
  obtain ⟨fd2, F2⟩ := c.def_ 2 (d := d__law_set) rfl
  obtain ⟨fd3, F3⟩ := c.def_ 3 (d := d__law_pattern) rfl
  obtain ⟨fd4, F4⟩ := c.def_ 4 (d := d__law_code) rfl
  obtain ⟨fd5, F5⟩ := c.def_ 5 (d := d__law_mixed) rfl
  obtain ⟨fd6, F6⟩ := c.def_ 6 (d := d__law_pack) rfl
  obtain ⟨fd7, F7⟩ := c.def_ 7 (d := d__law_leaf) rfl
  obtain ⟨fd8, F8⟩ := c.def_ 8 (d := d__law_bent) rfl
  obtain ⟨fd9, F9⟩ := c.def_ 9 (d := d__law_telling) rfl
  obtain ⟨fd10, F10⟩ := c.def_ 10 (d := d_is_part) rfl
  obtain ⟨fd11, F11⟩ := c.def_ 11 (d := d_is_step) rfl
  obtain ⟨fd12, F12⟩ := c.def_ 12 (d := d_is_steps) rfl
  obtain ⟨fd13, F13⟩ := c.def_ 13 (d := d_is_text_of) rfl
  obtain ⟨fd14, F14⟩ := c.def_ 14 (d := d_is_word) rfl
  obtain ⟨fd15, F15⟩ := c.def_ 15 (d := d_word_of) rfl
  obtain ⟨fd16, F16⟩ := c.def_ 16 (d := d_is_telling) rfl
  obtain ⟨fd17, F17⟩ := c.def_ 17 (d := d_are_tellings) rfl
  obtain ⟨fd18, F18⟩ := c.def_ 18 (d := d_is_book) rfl
  obtain ⟨fd19, F19⟩ := c.def_ 19 (d := d__law_is_book) rfl
  obtain ⟨fd20, F20⟩ := c.def_ 20 (d := d_check_book) rfl
  obtain ⟨fd21, F21⟩ := c.def_ 21 (d := d_needs) rfl
  obtain ⟨fd22, F22⟩ := c.def_ 22 (d := d_layered) rfl
  obtain ⟨fd23, F23⟩ := c.def_ 23 (d := d_telling_orders) rfl
  obtain ⟨fd24, F24⟩ := c.def_ 24 (d := d__law_seen) rfl
  obtain ⟨fd25, F25⟩ := c.def_ 25 (d := d__law_right) rfl
  obtain ⟨fd26, F26⟩ := c.def_ 26 (d := d__law_word) rfl
  obtain ⟨fd27, F27⟩ := c.def_ 27 (d := d_law) rfl
  let T : TX K mg := {
    f__law_take := ⟨_, fd0, F0, He.glo_ok X G (c.fact 0 (f := .glo "_law_take") rfl)⟩,
    f__law_names := ⟨_, fd1, F1, He.glo_ok X G (c.fact 1 (f := .glo "_law_names") rfl)⟩,
    f__law_set := ⟨_, fd2, F2, He.glo_ok X G (c.fact 2 (f := .glo "_law_set") rfl)⟩,
    f__law_pattern := ⟨_, fd3, F3, He.glo_ok X G (c.fact 3 (f := .glo "_law_pattern") rfl)⟩,
    f__law_code := ⟨_, fd4, F4, He.glo_ok X G (c.fact 4 (f := .glo "_law_code") rfl)⟩,
    f__law_mixed := ⟨_, fd5, F5, He.glo_ok X G (c.fact 5 (f := .glo "_law_mixed") rfl)⟩,
    f__law_pack := ⟨_, fd6, F6, He.glo_ok X G (c.fact 6 (f := .glo "_law_pack") rfl)⟩,
    f__law_leaf := ⟨_, fd7, F7, He.glo_ok X G (c.fact 7 (f := .glo "_law_leaf") rfl)⟩,
    f__law_bent := ⟨_, fd8, F8, He.glo_ok X G (c.fact 8 (f := .glo "_law_bent") rfl)⟩,
    f__law_telling := ⟨_, fd9, F9, He.glo_ok X G (c.fact 9 (f := .glo "_law_telling") rfl)⟩,
    f_is_part := ⟨_, fd10, F10, He.glo_ok X G (c.fact 10 (f := .glo "is_part") rfl)⟩,
    f_is_step := ⟨_, fd11, F11, He.glo_ok X G (c.fact 11 (f := .glo "is_step") rfl)⟩,
    f_is_steps := ⟨_, fd12, F12, He.glo_ok X G (c.fact 12 (f := .glo "is_steps") rfl)⟩,
    f_is_text_of := ⟨_, fd13, F13, He.glo_ok X G (c.fact 13 (f := .glo "is_text_of") rfl)⟩,
    f_is_word := ⟨_, fd14, F14, He.glo_ok X G (c.fact 14 (f := .glo "is_word") rfl)⟩,
    f_word_of := ⟨_, fd15, F15, He.glo_ok X G (c.fact 15 (f := .glo "word_of") rfl)⟩,
    f_is_telling := ⟨_, fd16, F16, He.glo_ok X G (c.fact 16 (f := .glo "is_telling") rfl)⟩,
    f_are_tellings := ⟨_, fd17, F17, He.glo_ok X G (c.fact 17 (f := .glo "are_tellings") rfl)⟩,
    f_is_book := ⟨_, fd18, F18, He.glo_ok X G (c.fact 18 (f := .glo "is_book") rfl)⟩,
    f__law_is_book := ⟨_, fd19, F19, He.glo_ok X G (c.fact 19 (f := .glo "_law_is_book") rfl)⟩,
    f_check_book := ⟨_, fd20, F20, He.glo_ok X G (c.fact 20 (f := .glo "check_book") rfl)⟩,
    f_needs := ⟨_, fd21, F21, He.glo_ok X G (c.fact 21 (f := .glo "needs") rfl)⟩,
    f_layered := ⟨_, fd22, F22, He.glo_ok X G (c.fact 22 (f := .glo "layered") rfl)⟩,
    f_telling_orders := ⟨_, fd23, F23, He.glo_ok X G (c.fact 23 (f := .glo "telling_orders") rfl)⟩,
    f__law_seen := ⟨_, fd24, F24, He.glo_ok X G (c.fact 24 (f := .glo "_law_seen") rfl)⟩,
    f__law_right := ⟨_, fd25, F25, He.glo_ok X G (c.fact 25 (f := .glo "_law_right") rfl)⟩,
    f__law_word := ⟨_, fd26, F26, He.glo_ok X G (c.fact 26 (f := .glo "_law_word") rfl)⟩,
    f_law := ⟨_, fd27, F27, He.glo_ok X G (c.fact 27 (f := .glo "law") rfl)⟩,
    m_ValueError := He.free_ok X G (c.fact 28 (f := .free "ValueError") rfl),
    m_all := He.free_ok X G (c.fact 29 (f := .free "all") rfl),
    m_bool := He.free_ok X G (c.fact 30 (f := .free "bool") rfl),
    m_divmod := He.free_ok X G (c.fact 31 (f := .free "divmod") rfl),
    m_isinstance := He.free_ok X G (c.fact 32 (f := .free "isinstance") rfl),
    m_len := He.free_ok X G (c.fact 33 (f := .free "len") rfl),
    m_list := He.free_ok X G (c.fact 34 (f := .free "list") rfl),
    m_max := He.free_ok X G (c.fact 35 (f := .free "max") rfl),
    m_min := He.free_ok X G (c.fact 36 (f := .free "min") rfl),
    m_range := He.free_ok X G (c.fact 37 (f := .free "range") rfl),
    m_str := He.free_ok X G (c.fact 38 (f := .free "str") rfl),
    m_tuple := He.free_ok X G (c.fact 39 (f := .free "tuple") rfl),
    y_LadderError := He.glo_ok X G (c.fact 40 (f := .glo "LadderError") rfl),
    y_NoBook := He.glo_ok X G (c.fact 41 (f := .glo "NoBook") rfl),
    y_NoCall := He.glo_ok X G (c.fact 42 (f := .glo "NoCall") rfl),
    y_NoForm := He.glo_ok X G (c.fact 43 (f := .glo "NoForm") rfl),
    y_NoKept := He.glo_ok X G (c.fact 44 (f := .glo "NoKept") rfl),
    y_NoNumber := He.glo_ok X G (c.fact 45 (f := .glo "NoNumber") rfl),
    y_NoOrder := He.glo_ok X G (c.fact 46 (f := .glo "NoOrder") rfl),
    y_NoTelling := He.glo_ok X G (c.fact 47 (f := .glo "NoTelling") rfl),
    y_NoText := He.glo_ok X G (c.fact 48 (f := .glo "NoText") rfl),
    y_NoWeights := He.glo_ok X G (c.fact 49 (f := .glo "NoWeights") rfl),
    y_NoWord := He.glo_ok X G (c.fact 50 (f := .glo "NoWord") rfl),
    y_TooMany := He.glo_ok X G (c.fact 51 (f := .glo "TooMany") rfl),
    c_MOST_SIGNS := He.int_ok X G (c.fact 52 (f := .int "MOST_SIGNS" 6) rfl),
    c_MOST_TELLINGS := He.int_ok X G (c.fact 53 (f := .int "MOST_TELLINGS" 6) rfl),
    c_MOST_WORD := He.int_ok X G (c.fact 54 (f := .int "MOST_WORD" 8) rfl),
    x_NoBook := (fun z => ⟨He.glo_ok X G (c.fact 55 (f := .glo "NoBook") rfl), z.1, z.2.1, z.2.2.1, z.2.2.2⟩) (He.exc_ok (c.fact 56 (f := .exc "NoBook") rfl)),
    x_is := okIs_ok (Bool.and_eq_true_iff.mp xb).1,
    x_ex := okEx_ok (Bool.and_eq_true_iff.mp (Bool.and_eq_true_iff.mp xb).2).1,
    x_isValueError := okIsB_ok (Bool.and_eq_true_iff.mp (Bool.and_eq_true_iff.mp xb).2).2 }
  have e := hfa.symm.trans (He.glo_ok X G (c.fact 27 (f := .glo "law") rfl))
  cases e
  have b := FunD.bindsA (ps := ["_law_script"]) F27 fun _ _ _ _ _ _ us hl => match us, hl with | [_], _ => rfl
  exact ⟨fun _ => 0, fd27, fun s v => b s [v] rfl, fun base _ _ => ok_law T⟩
end Lw
open PySem PySem.W PySem.Calls PyProof.Rows
set_option maxHeartbeats 0 in
theorem PySem.Challenge.cw_wishladder_k43_books_of_any_things_holds : PySem.Challenge.rw_wishladder_k43_books_of_any_things.Holds := by
  w_on; o_law
  refine HandSHeadRun.head_any (r := OpenLaw.row PySem.Challenge.rw_wishladder_k43_books_of_any_things) (q := view (OpenLaw.row PySem.Challenge.rw_wishladder_k43_books_of_any_things).prog [79]) (H := Lw.hk) (ob := Lw.ob) (M := 6000) (loose := [("LadderError" : PySem.Str), ("NoText" : PySem.Str), ("NoOrder" : PySem.Str), ("NoWord" : PySem.Str), ("NoNumber" : PySem.Str), ("NoForm" : PySem.Str), ("NoTelling" : PySem.Str), ("NoBook" : PySem.Str), ("TooMany" : PySem.Str), ("NoWeights" : PySem.Str), ("NoCall" : PySem.Str), ("NoKept" : PySem.Str), ("EDGE" : PySem.Str), ("is_text_of" : PySem.Str), ("MOST_WORD" : PySem.Str), ("is_word" : PySem.Str), ("check_word" : PySem.Str), ("wish_names" : PySem.Str), ("is_part" : PySem.Str), ("is_step" : PySem.Str), ("is_steps" : PySem.Str), ("is_telling" : PySem.Str), ("check_telling" : PySem.Str), ("word_of" : PySem.Str), ("lasts" : PySem.Str), ("behind" : PySem.Str), ("steps_of" : PySem.Str), ("is_met" : PySem.Str), ("step_counts" : PySem.Str), ("is_ended" : PySem.Str), ("end_counts" : PySem.Str), ("added" : PySem.Str), ("counts" : PySem.Str), ("MOST_CONTENDERS" : PySem.Str), ("is_nowhere_greater" : PySem.Str), ("with_one" : PySem.Str), ("closed_by_adding" : PySem.Str), ("gone_on" : PySem.Str), ("contending" : PySem.Str), ("MOST_TELLINGS" : PySem.Str), ("MOST_SIGNS" : PySem.Str), ("are_tellings" : PySem.Str), ("check_book" : PySem.Str), ("need_of" : PySem.Str), ("needs_of_telling" : PySem.Str), ("needs" : PySem.Str), ("all_orders" : PySem.Str), ("is_book" : PySem.Str), ("layers_of" : PySem.Str), ("numbered_needs" : PySem.Str), ("bars" : PySem.Str), ("least_quarrel" : PySem.Str), ("layered" : PySem.Str), ("keeps_all" : PySem.Str), ("telling_orders" : PySem.Str), ("_law_mixed" : PySem.Str), ("_law_pack" : PySem.Str), ("_law_take" : PySem.Str), ("_law_names" : PySem.Str), ("_law_set" : PySem.Str), ("_law_pattern" : PySem.Str), ("_law_code" : PySem.Str), ("_law_word" : PySem.Str), ("_law_telling" : PySem.Str), ("_law_is_book" : PySem.Str), ("_law_leaf" : PySem.Str), ("_law_bent" : PySem.Str), ("_law_seen" : PySem.Str), ("_law_right" : PySem.Str)]) (d := HandSHeadRun.topDef (OpenLaw.row PySem.Challenge.rw_wishladder_k43_books_of_any_things).prog 79) (kwd := []) Lw.ob_eq
    (by kernel_rfl) (fun s => by kernel_rfl) Lw.run (by kernel_rfl) (by kernel_rfl) (by kernel_rfl) (by rfl) (by first | assumption | decide +kernel) (by decide +kernel) ⟨rfl, rfl, rfl, rfl, rfl, by decide +kernel⟩ ?hw ?hc
  case hw => w_witness2
  case hc =>
    refine Dt.walk_D (l := PySem.Challenge.rw_wishladder_k43_books_of_any_things) (n := 63) (k := 11) (x := "_law_script") (m := Lw.m_law) rfl (by decide) (by kernel_rfl) ⟨rfl, by decide, by decide⟩ ?F Lw.math
    intro w mg fa h Y G hmg0
    obtain ⟨K, KX, c⟩ := Y
    have hmg : mg ("law" : PySem.Str) = some (.ref fa) := by
      have e : (HandSHeadRun.topDef (OpenLaw.row PySem.Challenge.rw_wishladder_k43_books_of_any_things).prog 79).name = ("law" : PySem.Str) := by kernel_rfl
      rw [← e]
      exact hmg0
    letI : Dt.WD := ⟨(PySem.Challenge.rw_wishladder_k43_books_of_any_things).prog, w⟩
    obtain ⟨C, fd, hb, hF⟩ := Lw.facts KX G hmg c.1 c.2
    exact ⟨K, C, fd, KX, hb, hF⟩
