import PyProof.Rows.All
import Wide.All
import OpenK.AllK
import Wide.FinOn
import HandS.List
import HandS.Conv
import HandS.Text
import HandS.Strs
import HandS.Zip
import HandS.TupAny
import HandS.ForMost
import HandS.ForExc
import HandS.Evl
import KE.KDictKeyed
import KE.KeyNested
import HandS.IsInst
import HandS.TupMul
import HandS.Deep
import HandS.Wide
import HandS.WideBits
import HandS.Defaults
import HandS.TupLe
import HandS.Style
import PyProof.EqKinds
import HandS.Head0
import HandS.Head1
import HandS.Head2
import HandS.HeadEnd
import HandS.HeadHook1
import HandS.HeadHook2
import HandS.EndBits
import PyProof.ListStr
import PyProof.TupleOfStr
import HandS.ExcValue
import HandS.ExcField
import KE.KExcIs
import HandS.HeadHook4
import HandS.ExcInit
import HandS.HeadHook3
import HandS.Replace
import PyProof.SumAnyB
import HandS.SortRule
import KE.KSortTupG
import PyProof.TupleOfSeq
import HandS.Dict
import HandS.DictTup
import HandS.TryOnly
import KE.KDictDisplayH
import HandS.WordsDict
import KE.KDictZip
import KE.GoesEnum
import PyProof.TupleOfGen
import HandS.CallLocal
import HandS.More
import KE.DataMinMax
import KE.KEqSeq
import HandS.SortKw
import KE.SortData
import KE.DataCmp
import KE.KDictWalk
import KE.KDictItemsList
import PySem.Challenge.RW_wishladder_k53_words_that_are_none
set_option Elab.async false
set_option linter.all false
set_option maxRecDepth 100000
set_option maxHeartbeats 1000000
namespace Dt
open PySem PySem.Spec L2 PyProof.Rows
abbrev Nt (H : Hp) (xs : List V) (Q : VK) : Prop := ∀ (p : Addr) (o : Obj), o.dict = none → H p = none → Q (.ref p) (upd H p (.frz o (.tup xs)))
section
variable {X : Cx}
theorem laidN {pins : List (Addr × Obj)} {s : Shared} {σ : L2.St} {H : Hp} {h' : Heap} {t' : Tok} {us : List Value} {xs : List V} {Q : VK} {ob : Obj} {p : Addr} (I : Inv X pins σ H s) (hk : ∀ b o, s.heap.get? b = some o → h'.get? b = some o) (hp : s.heap.objs.size ≤ p) (r : Vals xs us) (hz : xs.length ≤ sizeLine)
    (hg : h'.get? p = some ob) (hc : ob.cls = .type "tuple") (hd : ob.dict = none) (hn : ∃ n, ob.data = .seq us.toArray n) (q : Nt H xs Q) : EP X pins σ Q (.ref p) { s with heap := h', toks := t' } :=
  ⟨.ref p, _, I.laid (t' := t') (o := .frz ob (.tup xs)) hk hp ⟨hg, hz, us, r, ob, hg, hc, hn⟩, rfl, q p ob hd (I.hok.fresh hp)⟩
def tTupN (t : TA) : TE := fun σ H Q => t σ H fun xs H1 => xs.length ≤ sizeLine ∧ Nt H1 xs Q
theorem pe_tupN {es : List Expr} {t : TA} {pos : Pos} {x1} (h : PA X es t) : PE X (.Tuple es x1 pos) (tTupN t) := by
  refine ⟨fun pins s σ H Q I hq => ?_⟩
  refine wpAny_Tuple_spliced (thn (h.run pos pins s σ H _ I hq) fun us s1 ⟨xs, H1, I1, r, z, q⟩ => ⟨by rw [← r.length]; exact z, ?_⟩)
  exact laidN (t' := s1.toks) I1 (fun b u e => Heap.get?_push_of_some _ e) (Nat.le_refl _) r z (Heap.get?_push_size _ rfl) rfl rfl ⟨_, rfl⟩ q
def rCatN (K : PySem.W.Frag) : R2 := fun x y H Q => ∃ a b xs ys, x = .ref a ∧ y = .ref b ∧ SqT K H a xs ∧ SqT K H b ys ∧ xs.length + ys.length ≤ sizeLine ∧
  (xs = [] → Q (.ref b) H) ∧ (xs ≠ [] → ys = [] → Q (.ref a) H) ∧ (xs ≠ [] → ys ≠ [] → Nt H (xs ++ ys) Q)
theorem op_catN : OpR X (binaryOp .Add) (rCatN X.K) := by
  intro pins s σ H x y v u Q I rx ry h
  obtain ⟨a, b, xs, ys, rfl, rfl, ha, hb, hz, q0, q1, q2⟩ := h
  by_cases hx : xs = []
  · exact op_catA pins s σ H _ _ v u Q I rx ry ⟨a, b, xs, ys, rfl, rfl, ha, hb, hz, q0, fun z => absurd hx z, fun z => absurd hx z⟩
  · obtain rfl : v = Value.ref a := rx
    obtain rfl : u = Value.ref b := ry
    obtain ⟨ia, ra, pa, _⟩ := I.tuple ha
    obtain ⟨ib, rb, pb, _⟩ := I.tuple hb
    have hl : ia.length + ib.length ≤ sizeLine := by rw [← ra.length, ← rb.length]; exact hz
    refine HT.cat_tup pa pb (fun z => hx (ra.nil_iff.mp z)) (fun z => ?_) (fun z => ?_) hl
    · exact ⟨.ref a, H, I, rfl, q1 hx (rb.nil_iff.mp z)⟩
    · exact laidN (t' := s.toks) I (fun c ob e => Heap.get?_push_of_some _ e) (Nat.le_refl _) (ra.append rb) (by rw [List.length_append]; exact hz) (Heap.get?_push_size _ rfl) rfl rfl ⟨_, rfl⟩ (q2 hx fun w => z (rb.nil_iff.mpr w))
def rSlN (K : PySem.W.Frag) : V → Option Int → Option Int → Hp → VK → Prop := fun x lo hi H Q => ∃ a xs, x = .ref a ∧ SqT K H a xs ∧
  (HT.sIx xs.length 0 lo = 0 ∧ HT.sIx xs.length xs.length hi = xs.length → Q (.ref a) H) ∧ (¬ (HT.sIx xs.length 0 lo = 0 ∧ HT.sIx xs.length xs.length hi = xs.length) → Nt H (cutV xs lo hi) Q)
theorem sl_tupN : SlR X (rSlN X.K) := by
  intro pins s σ H x v vl vu lo hi sl Q I rx hs pl pu h
  obtain ⟨a, xs, rfl, hx, q1, q2⟩ := h
  by_cases hw : HT.sIx xs.length 0 lo = 0 ∧ HT.sIx xs.length xs.length hi = xs.length
  · exact sl_tupA pins s σ H _ v vl vu lo hi sl Q I rx hs pl pu ⟨a, xs, rfl, hx, q1, fun z => absurd hw z⟩
  · obtain rfl : v = Value.ref a := rx
    obtain ⟨ia, ra, pa, hz⟩ := I.tuple hx
    have hn : ia.toArray.size = xs.length := by rw [List.size_toArray, ra.length]
    refine ⟨"tuple", _, slot_tuple_getitem.lookup, pa.typeIs, HT.getItem_tuple_cut pa hs pl pu (by rw [hn]; exact hw) ?_ (by rw [hn]; exact hz)⟩
    rw [hn]
    have rc : Vals (cutV xs lo hi) ((ia.drop (HT.sIx xs.length 0 lo)).take (HT.sIx xs.length xs.length hi - HT.sIx xs.length 0 lo)) := (ra.drop _).take _
    exact laidN (t' := s.toks) I (fun c ob e => Heap.get?_push_of_some _ e) (Nat.le_refl _) rc (Nat.le_trans (cutV_length xs lo hi) hz) (Heap.get?_push_size _ rfl) rfl rfl ⟨_, rfl⟩ (q2 hw)
def rTupleN (K : PySem.W.Frag) : List V → Hp → VK → Prop := fun xs H Q => ∃ p ys, xs = [.ref p] ∧ ((SqL K H p ys ∧ Nt H ys Q) ∨ (SqT K H p ys ∧ Q (.ref p) H))
theorem call_tupleN : CallR X (.type "tuple") (rTupleN X.K) := by
  intro pins s σ H xs us Q I r h
  obtain ⟨p, ys, rfl, h⟩ := h
  obtain ⟨u, rfl, ru⟩ := vals1 r
  rcases h with ⟨hs, q⟩ | ⟨hs, q⟩
  · obtain rfl : u = Value.ref p := ru
    obtain ⟨ia, ra, pl, hz⟩ := I.list hs
    refine call_tuple_list pl.isList (fun h' hk => ?_) (by rw [List.size_toArray, ← ra.length]; exact hz)
    have J : Inv X pins σ H { s with heap := h' } := I.kept (t' := s.toks) hk
    exact laidN (s := { s with heap := h' }) (t' := s.toks) J (fun c ob e => Heap.get?_push_of_some _ e) (Nat.le_refl _) ra hz (Heap.get?_push_size _ rfl) rfl rfl ⟨_, rfl⟩ q
  · exact rl_tuple pins s σ H _ u Q I ru (.inr ⟨p, ys, rfl, hs, q⟩)
def SqN (K : PySem.W.Frag) (H : Hp) (a : Addr) (xs : List V) : Prop := (∃ o, H a = some (.frz o (.tup xs)) ∧ o.dict = none) ∨
  ∃ (o : Obj) (its : Array Value) (n : Nat), K.lookup a = some o ∧ o.cls = .type "tuple" ∧ o.dict = none ∧ o.data = .seq its n ∧ its.size ≤ sizeLine ∧ Vals xs its.toList
theorem SqN.sq {K : PySem.W.Frag} {H : Hp} {a : Addr} {xs : List V} (h : SqN K H a xs) : SqT K H a xs := by
  rcases h with ⟨o, h, _⟩ | ⟨o, its, n, h1, h2, _, h3, h4, h5⟩
  · exact .inl (.inr ⟨o, h⟩)
  · exact .inr ⟨o, its, n, h1, h2, h3, h4, h5⟩
theorem SqN.obj {pins : List (Addr × Obj)} {σ : L2.St} {H : Hp} {s : Shared} {a : Addr} {xs : List V} (I : Inv X pins σ H s) (h : SqN X.K H a xs) : ∃ ob, s.heap.get? a = some ob ∧ ob.dict = none := by
  rcases h with ⟨o, h, hd⟩ | ⟨o, its, n, h1, h2, hd, _⟩
  · exact ⟨o, (I.hok a _ h).1, hd⟩
  · exact ⟨o, I.kIn a o h1, hd⟩
def tTM (K : PySem.W.Frag) (r : V → List V → Hp → VK → Prop) (to : TE) (t : TA) : TE := fun σ H Q => to σ H fun x H1 => (∃ a xs, x = .ref a ∧ SqN K H1 a xs) ∧ t σ H1 fun xs H2 => r x xs H2 Q
theorem pe_tm {o e : Expr} {es : List Expr} {to : TE} {t : TA} {name : Str} {apos cpos : Pos} {id : String} {r : V → List V → Hp → VK → Prop} (slot : Slot "tuple" name id) (hty : typeOf (.builtin id) = pure (.type "method_descriptor")) (hm : MtR X id r) (ho : PE X o to) (ha : PA X (e :: es) t)
    (hbase : attributeBase o name X.env (eval o X.env) = eval o X.env := by rfl)
    (hfew : ((backTo cpos (starEach (e :: es) X.env)).all (fun x => !x.1) && (backToKw cpos (keywordEach [] X.env)).all (fun x => x.1.isSome) && decide ((e :: es).length + ([] : List Keyword).length + (if ([] : List Keyword).isEmpty then 0 else 1) < 30)) = true := by rfl)
    (hline : (apos.endLine == cpos.line) = true := by rfl) (hs : starEach (e :: es) X.env = (false, eval e X.env) :: starEach es X.env := by rfl) (hplain : (backTo cpos (starEach es X.env)).any (·.1) = false := by rfl) :
    PE X (.Call (.Attribute o name apos) (e :: es) [] cpos) (tTM X.K r to t) := by
  refine ⟨fun pins s σ H Q I h => ?_⟩
  refine wpAny_Call_method_late hbase hfew hline rfl (thn (ho.run pins s σ H _ I h) fun v s1 ⟨x, H1, I1, r1, ty, q1⟩ => ?_)
  obtain ⟨a, xs, rfl, hN⟩ := ty
  obtain rfl : v = Value.ref a := r1
  obtain ⟨its, _, pl, _⟩ := I1.tuple hN.sq
  refine ⟨"tuple", id, PySem.F.plainAttrs_tuple, slot, hty, pl.typeIs, fun c e => ?_, ?_⟩
  · cases e
    exact hN.obj I1
  · have hA := ha.run cpos pins s1 σ H1 _ I1 q1
    rw [hs] at hA ⊢
    have hp : ((false, eval e X.env) :: backTo cpos (starEach es X.env)).any (·.1) = false := by rw [List.any_cons, hplain]; rfl
    refine Calls.callWith_builtin hp (Calls.evalArgs_plain ?_)
    exact thn hA fun us s2 ⟨vs, H2, I2, r2, q2⟩ => hm pins s2 σ H2 (.ref a) vs (.ref a) us Q I2 rfl r2 q2
end
end Dt
namespace Dt
open PySem PySem.Spec L2 Evl
abbrev Pd := PyData
class WD where
  P : Program
  w : World
variable [WD]
def DkN (a : Addr) (xs : List (NestedKey × Addr × Value)) : HO := .ext fun h => (a == sysModules) = false ∧ xs.length ≤ sizeLine ∧ (xs.map (·.1)).Nodup ∧ (∀ x ∈ xs, x.1.depth ≤ 8) ∧
  ∃ o es ep, h.get? a = some o ∧ o.ExactDict ∧ o.data = .dict es ep ∧ es.toList = xs.map (entryOfKey (nestedKind WD.P WD.w))
def kD : Key → Pd
  | .inl i => .int i
  | .inr x => .str x
mutual
inductive RD (K : PySem.W.Frag) (H : Hp) : V → Pd → Prop
  | non : RD K H .non .none
  | bl (b : Bool) : RD K H (.bl b) (.bool b)
  | int (i : Int) : RD K H (.int i) (.int i)
  | str (x : Str) : RD K H (.str x) (.str x)
  | lst {a : Addr} {xs : List V} {ds : List Pd} (h : SqL K H a xs) (hs : RDs K H xs ds) : RD K H (.ref a) (.list ds)
  | tup {a : Addr} {xs : List V} {ds : List Pd} (h : SqN K H a xs) (hs : RDs K H xs ds) : RD K H (.ref a) (.tuple ds)
  | dct {a : Addr} {o : Obj} {kvs : List (Key × V)} {ds : List (Pd × Pd)} (h : H a = some (.frz o (.dK kvs))) (hs : RKs K H kvs ds) : RD K H (.ref a) (.dict ds)
  | dcn {a : Addr} {o : Obj} {xs : List (NestedKey × Addr × Value)} {ds : List (Pd × Pd)} (h : H a = some (.frz o (DkN a xs))) (hs : RNs K H xs ds) : RD K H (.ref a) (.dict ((.none, .none) :: ds))
inductive RDs (K : PySem.W.Frag) (H : Hp) : List V → List Pd → Prop
  | nil : RDs K H [] []
  | cons {v : V} {vs : List V} {d : Pd} {ds : List Pd} (h : RD K H v d) (hs : RDs K H vs ds) : RDs K H (v :: vs) (d :: ds)
inductive RKs (K : PySem.W.Frag) (H : Hp) : List (Key × V) → List (Pd × Pd) → Prop
  | nil : RKs K H [] []
  | cons {k : Key} {v : V} {vs : List (Key × V)} {d : Pd} {ds : List (Pd × Pd)} (h : RD K H v d) (hs : RKs K H vs ds) : RKs K H ((k, v) :: vs) ((kD k, d) :: ds)
inductive RNs (K : PySem.W.Frag) (H : Hp) : List (NestedKey × Addr × Value) → List (Pd × Pd) → Prop
  | nil : RNs K H [] []
  | cons {k : NestedKey} {b : Addr} {u : Value} {v : V} {kd d : Pd} {xs : List (NestedKey × Addr × Value)} {ds : List (Pd × Pd)} (hk : RD K H (.ref b) kd) (ek : k.data = kd) (ru : RelV v u) (hv : RD K H v d) (hs : RNs K H xs ds) : RNs K H ((k, b, u) :: xs) ((kd, d) :: ds)
end
abbrev ndD (ds : List (Pd × Pd)) : Pd := .dict ((.none, .none) :: ds)
def ndB : List (Pd × Pd) → Bool
  | (.none, _) :: _ => true
  | _ => false
section
variable {K : PySem.W.Frag} {H H' : Hp}
theorem ex_n {a : Addr} {xs : List V} (e : Ex H H') (h : SqN K H a xs) : SqN K H' a xs := by
  rcases h with ⟨o, h, hd⟩ | h
  · exact .inl ⟨o, e _ _ h, hd⟩
  · exact .inr h
theorem sn_of {a : Addr} {xs : List V} {o : Obj} (h : H a = some (.frz o (.tup xs))) (hd : o.dict = none) : SqN K H a xs := .inl ⟨o, h, hd⟩
mutual
theorem RD.mono (e : Ex H H') : ∀ {v : V} {d : Pd}, RD K H v d → RD K H' v d
  | _, _, .non => .non
  | _, _, .bl b => .bl b
  | _, _, .int i => .int i
  | _, _, .str x => .str x
  | _, _, .lst h hs => .lst (ex_l e h) (RDs.mono e hs)
  | _, _, .tup h hs => .tup (ex_n e h) (RDs.mono e hs)
  | _, _, .dct h hs => .dct (e _ _ h) (RKs.mono e hs)
  | _, _, .dcn h hs => .dcn (e _ _ h) (RNs.mono e hs)
theorem RDs.mono (e : Ex H H') : ∀ {v : List V} {d : List Pd}, RDs K H v d → RDs K H' v d
  | _, _, .nil => .nil
  | _, _, .cons h hs => .cons (RD.mono e h) (RDs.mono e hs)
theorem RKs.mono (e : Ex H H') : ∀ {v : List (Key × V)} {d : List (Pd × Pd)}, RKs K H v d → RKs K H' v d
  | _, _, .nil => .nil
  | _, _, .cons h hs => .cons (RD.mono e h) (RKs.mono e hs)
theorem RNs.mono (e : Ex H H') : ∀ {xs : List (NestedKey × Addr × Value)} {ds : List (Pd × Pd)}, RNs K H xs ds → RNs K H' xs ds
  | _, _, .nil => .nil
  | _, _, .cons hk ek ru hv hs => .cons (RD.mono e hk) ek ru (RD.mono e hv) (RNs.mono e hs)
end
theorem RKs.nd : ∀ {kvs : List (Key × V)} {ds : List (Pd × Pd)}, RKs K H kvs ds → ndB ds = false
  | _, _, .nil => rfl
  | _, _, .cons (k := k) _ _ => by cases k <;> rfl
theorem RDs.length : ∀ {vs : List V} {ds : List Pd}, RDs K H vs ds → vs.length = ds.length
  | _, _, .nil => rfl
  | _, _, .cons _ t => congrArg Nat.succ (RDs.length t)
theorem RDs.get : ∀ {vs : List V} {ds : List Pd} {i : Nat} {d : Pd}, RDs K H vs ds → ds[i]? = some d → ∃ v, vs[i]? = some v ∧ RD K H v d
  | _, _, _, _, .nil, e => by simp at e
  | _, _, 0, _, .cons r _, e => by simp at e; subst e; exact ⟨_, rfl, r⟩
  | _, _, i + 1, d, .cons _ t, e => by
    obtain ⟨u, h1, h2⟩ := RDs.get (i := i) (d := d) t (by simpa using e)
    exact ⟨u, by simpa using h1, h2⟩
theorem RDs.get' : ∀ {vs : List V} {ds : List Pd} {i : Nat} {v : V}, RDs K H vs ds → vs[i]? = some v → ∃ d, ds[i]? = some d ∧ RD K H v d
  | _, _, _, _, .nil, e => by simp at e
  | _, _, 0, _, .cons r _, e => by simp at e; subst e; exact ⟨_, rfl, r⟩
  | _, _, i + 1, d, .cons _ t, e => by
    obtain ⟨u, h1, h2⟩ := RDs.get' (i := i) (v := d) t (by simpa using e)
    exact ⟨u, by simpa using h1, h2⟩
theorem RDs.append : ∀ {vs us : List V} {ds es : List Pd}, RDs K H vs ds → RDs K H us es → RDs K H (vs ++ us) (ds ++ es)
  | _, _, _, _, .nil, s => s
  | _, _, _, _, .cons r t, s => .cons r (RDs.append t s)
theorem RDs.take : ∀ {vs : List V} {ds : List Pd} (n : Nat), RDs K H vs ds → RDs K H (vs.take n) (ds.take n)
  | _, _, 0, _ => .nil
  | _, _, _ + 1, .nil => .nil
  | _, _, n + 1, .cons r t => .cons r (RDs.take n t)
theorem RDs.drop : ∀ {vs : List V} {ds : List Pd} (n : Nat), RDs K H vs ds → RDs K H (vs.drop n) (ds.drop n)
  | _, _, 0, r => r
  | _, _, _ + 1, .nil => .nil
  | _, _, n + 1, .cons _ t => RDs.drop n t
theorem RDs.set {x : V} {u : Pd} (r : RD K H x u) : ∀ {vs : List V} {ds : List Pd} (i : Nat), RDs K H vs ds → RDs K H (vs.set i x) (ds.set i u)
  | _, _, _, .nil => .nil
  | _, _, 0, .cons _ t => .cons r t
  | _, _, i + 1, .cons q t => .cons q (RDs.set r i t)
theorem RDs.ofMem : ∀ {vs : List V} {ds : List Pd}, vs.length = ds.length → (∀ (i : Nat) v d, vs[i]? = some v → ds[i]? = some d → RD K H v d) → RDs K H vs ds
  | [], [], _, _ => .nil
  | v :: vs, d :: ds, hl, h => .cons (h 0 v d rfl rfl) (RDs.ofMem (by simpa using hl) fun i a b e1 e2 => h (i + 1) a b (by simpa using e1) (by simpa using e2))
  | [], _ :: _, hl, _ => by simp at hl
  | _ :: _, [], hl, _ => by simp at hl
theorem RDs.reverse {vs : List V} {ds : List Pd} (h : RDs K H vs ds) : RDs K H vs.reverse ds.reverse := by
  refine RDs.ofMem (by simp [h.length]) fun i v d e1 e2 => ?_
  have hl := h.length
  obtain ⟨h1, e1⟩ := List.getElem?_eq_some_iff.mp e1
  obtain ⟨h2, e2⟩ := List.getElem?_eq_some_iff.mp e2
  rw [List.getElem_reverse] at e1 e2
  obtain ⟨v', q1, q2⟩ := h.get (i := vs.length - 1 - i) (d := d) (by rw [← e2, hl, List.getElem?_eq_getElem])
  have : v' = v := by
    have := q1.symm.trans (by rw [List.getElem?_eq_getElem (by simp at h1; omega), e1])
    exact Option.some.inj this
  exact this ▸ q2
theorem RDs.flat : ∀ {ns : List Int}, RDs K H (ns.map V.int) (ns.map PyData.int)
  | [] => .nil
  | n :: ns => .cons (.int n) RDs.flat
end
structure XD where
  c : Str
  fs : Option (List (Str × Pd))
inductive Mo where
  | dat (x : Pd)
  | lst (xs : List Pd)
  | dct (n : Bool) (kvs : List (Pd × Pd))
  | obj (c : Str) (fs : List (Str × Mo))
  | dcl (kvs : List (Pd × List Pd))
inductive Sl where
  | no
  | d (x : Pd)
  | own (io : Bool) (xs : List Pd)
  | x (e : XD)
  | m (io : Bool) (o : Mo)
abbrev Rho := List Sl
inductive AV where
  | d (x : Pd)
  | sl (i : Nat)
inductive R (A : Type) where
  | bad
  | ok (a : A) (p : Rho)
  | ex (e : XD) (p : Rho)
def R.bind {A B : Type} (r : R A) (k : A → Rho → R B) : R B :=
  match r with
  | .bad => .bad
  | .ok a p => k a p
  | .ex e p => .ex e p
inductive RF (K : PySem.W.Frag) (H : Hp) : List (Str × V) → List (Str × Pd) → Prop
  | nil : RF K H [] []
  | cons {k : Str} {v : V} {vs : List (Str × V)} {d : Pd} {ds : List (Str × Pd)} (h : RD K H v d) (hs : RF K H vs ds) : RF K H ((k, v) :: vs) ((k, d) :: ds)
theorem RF.mono {K : PySem.W.Frag} {H H' : Hp} (e : Ex H H') : ∀ {vs : List (Str × V)} {ds : List (Str × Pd)}, RF K H vs ds → RF K H' vs ds
  | _, _, .nil => .nil
  | _, _, .cons h hs => .cons (h.mono e) (RF.mono e hs)
def cA (K : PySem.W.Frag) (x : Str) : Addr := match PySem.W.nsIn K mainGlobals x with
  | some (some (.ref a)) => a
  | _ => 0
def ExN (cls : Value) (d : Option Addr) (a : Addr) : HO := .ext fun h => ∃ (oe : Obj) (vs : Array Value), h.get? a = some oe ∧ Zc cls d oe ∧ oe.data = .fields vs
def XH (K : PySem.W.Frag) (Hf : Hp) (a : Addr) (e : XD) : Prop := match e.fs with
  | none => Hf a = some (ExN (.ref (cA K e.c)) none a)
  | some fs => ∃ dd vs, Hf a = some (ExN (.ref (cA K e.c)) (some dd) a) ∧ Hf dd = some (.xd vs) ∧ RF K Hf vs fs
theorem XH.mono {K : PySem.W.Frag} {Hf Hf' : Hp} {a : Addr} {e : XD} (h : XH K Hf a e) (x : Ex Hf Hf') : XH K Hf' a e := by
  unfold XH at h ⊢
  cases ef : e.fs with
  | none => rw [ef] at h; exact x _ _ h
  | some fs =>
    rw [ef] at h
    obtain ⟨dd, vs, h1, h2, h3⟩ := h
    exact ⟨dd, vs, x _ _ h1, x _ _ h2, h3.mono x⟩
inductive RLs (K : PySem.W.Frag) (Hf H : Hp) : List (NestedKey × Addr × Value) → List (Pd × List Pd) → List Addr → Prop
  | nil : RLs K Hf H [] [] []
  | cons {k : NestedKey} {b a : Addr} {vs : List V} {kd : Pd} {ys : List Pd} {xs : List (NestedKey × Addr × Value)} {ds : List (Pd × List Pd)} {fp : List Addr} (hk : RD K Hf (.ref b) kd) (ek : k.data = kd) (ha : H a = some (.lst vs)) (hv : RDs K Hf vs ys) (hs : RLs K Hf H xs ds fp) : RLs K Hf H ((k, b, .ref a) :: xs) ((kd, ys) :: ds) (a :: fp)
theorem RLs.mono {K : PySem.W.Frag} {Hf H Hf' H' : Hp} (e : Ex Hf Hf') : ∀ {xs : List (NestedKey × Addr × Value)} {ds : List (Pd × List Pd)} {fp : List Addr}, RLs K Hf H xs ds fp → (∀ a ∈ fp, ∀ u, H a = some u → H' a = some u) → RLs K Hf' H' xs ds fp
  | _, _, _, .nil, _ => .nil
  | _, _, _, .cons hk ek ha hv hs, k => .cons (RD.mono e hk) ek (k _ (by simp) _ ha) (hv.mono e) (RLs.mono e hs fun a h => k a (List.mem_cons_of_mem _ h))
mutual
inductive RM (K : PySem.W.Frag) (Hf H : Hp) : V → Mo → List Addr → Prop
  | dat {v : V} {x : Pd} (h : RD K Hf v x) : RM K Hf H v (.dat x) []
  | lst {l : Addr} {vs : List V} {xs : List Pd} (h : H l = some (.lst vs)) (r : RDs K Hf vs xs) : RM K Hf H (.ref l) (.lst xs) [l]
  | dk {l : Addr} {kvs : List (Key × V)} {ds : List (Pd × Pd)} (h : H l = some (.dK kvs)) (r : RKs K Hf kvs ds) : RM K Hf H (.ref l) (.dct false ds) [l]
  | dn {l : Addr} {xs : List (NestedKey × Addr × Value)} {ds : List (Pd × Pd)} (h : H l = some (DkN l xs)) (r : RNs K Hf xs ds) : RM K Hf H (.ref l) (.dct true ds) [l]
  | dl {l : Addr} {xs : List (NestedKey × Addr × Value)} {ds : List (Pd × List Pd)} {fp : List Addr} (h : H l = some (DkN l xs)) (r : RLs K Hf H xs ds fp) : RM K Hf H (.ref l) (.dcl ds) (l :: fp)
  | obj {a dx : Addr} {c : Str} {fvs : List (Str × V)} {fs : List (Str × Mo)} {fp : List Addr} (h : H a = some (.ins (cA K c) dx fvs)) (r : RMs K Hf H fvs fs fp) : RM K Hf H (.ref a) (.obj c fs) (a :: fp)
inductive RMs (K : PySem.W.Frag) (Hf H : Hp) : List (Str × V) → List (Str × Mo) → List Addr → Prop
  | nil : RMs K Hf H [] [] []
  | cons {f : Str} {v : V} {o : Mo} {vs : List (Str × V)} {os : List (Str × Mo)} {fp fq : List Addr} (h : RM K Hf H v o fp) (hs : RMs K Hf H vs os fq) : RMs K Hf H ((f, v) :: vs) ((f, o) :: os) (fp ++ fq)
end
mutual
theorem RM.mono {K : PySem.W.Frag} {Hf H Hf' H' : Hp} (e : Ex Hf Hf') : ∀ {v : V} {o : Mo} {fp : List Addr}, RM K Hf H v o fp → (∀ a ∈ fp, ∀ u, H a = some u → H' a = some u) → RM K Hf' H' v o fp
  | _, _, _, .dat h, _ => .dat (h.mono e)
  | _, _, _, .lst h r, k => .lst (k _ (by simp) _ h) (r.mono e)
  | _, _, _, .dk h r, k => .dk (k _ (by simp) _ h) (RKs.mono e r)
  | _, _, _, .dn h r, k => .dn (k _ (by simp) _ h) (r.mono e)
  | _, _, _, .dl h r, k => .dl (k _ (by simp) _ h) (r.mono e fun a ha => k a (List.mem_cons_of_mem _ ha))
  | _, _, _, .obj h r, k => .obj (k _ (by simp) _ h) (RMs.mono e r fun a ha => k a (List.mem_cons_of_mem _ ha))
theorem RMs.mono {K : PySem.W.Frag} {Hf H Hf' H' : Hp} (e : Ex Hf Hf') : ∀ {v : List (Str × V)} {o : List (Str × Mo)} {fp : List Addr}, RMs K Hf H v o fp → (∀ a ∈ fp, ∀ u, H a = some u → H' a = some u) → RMs K Hf' H' v o fp
  | _, _, _, .nil, _ => .nil
  | _, _, _, .cons h hs, k => .cons (RM.mono e h fun a ha => k a (List.mem_append_left _ ha)) (RMs.mono e hs fun a ha => k a (List.mem_append_right _ ha))
end
def MR (K : PySem.W.Frag) (Hf H : Hp) (O : Addr → Prop) (σ : St) (ρ : Rho) : Prop := ∃ w : Addr → Option Nat,
  (∀ (i : Nat) b o, ρ[i]? = some (.m b o) → ∃ v fp, σ[i]? = some (some v) ∧ RM K Hf H v o fp ∧ fp.Nodup ∧ ∀ a ∈ fp, O a ∧ w a = some i) ∧
  ∀ (i : Nat) b xs l, ρ[i]? = some (.own b xs) → σ[i]? = some (some (.ref l)) → w l = none
theorem MR.none {K : PySem.W.Frag} {Hf H : Hp} {O : Addr → Prop} {σ : St} {ρ : Rho} (h : ∀ (i : Nat) b o, ρ[i]? ≠ some (.m b o)) : MR K Hf H O σ ρ :=
  ⟨fun _ => Option.none, fun i b o e => (h i b o e).elim, fun _ _ _ _ _ _ => rfl⟩
theorem MR.gen {K : PySem.W.Frag} {Hf H Hf' H' : Hp} {O O' : Addr → Prop} {σ σ' : St} {ρ ρ' : Rho} (m : MR K Hf H O σ ρ) (e : Ex Hf Hf')
    (hm : ∀ (i : Nat) b o, ρ'[i]? = some (.m b o) → ρ[i]? = some (.m b o) ∧ σ'[i]? = σ[i]?)
    (ho : ∀ (i : Nat) b xs, ρ'[i]? = some (.own b xs) → (∃ c ys, ρ[i]? = some (.own c ys)) ∧ σ'[i]? = σ[i]?)
    (kp : ∀ a u, O a → (∀ (i : Nat) b xs, ρ[i]? = some (.own b xs) → σ[i]? ≠ some (some (.ref a))) → H a = some u → H' a = some u)
    (kO : ∀ a, O a → (∀ (i : Nat) b xs, ρ[i]? = some (.own b xs) → σ[i]? ≠ some (some (.ref a))) → O' a) : MR K Hf' H' O' σ' ρ' := by
  obtain ⟨w, h1, h2⟩ := m
  refine ⟨w, fun i b o q => ?_, fun i b xs l q q2 => ?_⟩
  · obtain ⟨q, es⟩ := hm i b o q
    obtain ⟨v, fp, a1, a2, a3, a4⟩ := h1 i b o q
    have no : ∀ a ∈ fp, ∀ (j : Nat) c xs, ρ[j]? = some (.own c xs) → σ[j]? ≠ some (some (.ref a)) := fun a ha j c xs q1 q2 => by
      have z := h2 j c xs a q1 q2
      rw [(a4 a ha).2] at z; cases z
    exact ⟨v, fp, es.trans a1, a2.mono e fun a ha u hu => kp a u (a4 a ha).1 (no a ha) hu, a3, fun a ha => ⟨kO a (a4 a ha).1 (no a ha), (a4 a ha).2⟩⟩
  · obtain ⟨⟨c, ys, q1⟩, es⟩ := ho i b xs q
    exact h2 i c ys l q1 (es ▸ q2)
theorem MR.slots {K : PySem.W.Frag} {Hf H : Hp} {O : Addr → Prop} {σ σ' : St} {ρ ρ' : Rho} (m : MR K Hf H O σ ρ)
    (hm : ∀ (i : Nat) b o, ρ'[i]? = some (.m b o) → ρ[i]? = some (.m b o) ∧ σ'[i]? = σ[i]?)
    (ho : ∀ (i : Nat) b xs, ρ'[i]? = some (.own b xs) → (∃ c ys, ρ[i]? = some (.own c ys)) ∧ σ'[i]? = σ[i]?) : MR K Hf H O σ' ρ' :=
  m.gen (Ex.refl _) hm ho (fun _ _ _ _ h => h) fun _ h _ => h
theorem MR.heap {K : PySem.W.Frag} {Hf H Hf' H' : Hp} {O O' : Addr → Prop} {σ : St} {ρ : Rho} (m : MR K Hf H O σ ρ) (e : Ex Hf Hf')
    (kp : ∀ a u, O a → (∀ (i : Nat) b xs, ρ[i]? = some (.own b xs) → σ[i]? ≠ some (some (.ref a))) → H a = some u → H' a = some u)
    (kO : ∀ a, O a → (∀ (i : Nat) b xs, ρ[i]? = some (.own b xs) → σ[i]? ≠ some (some (.ref a))) → O' a) : MR K Hf' H' O' σ ρ :=
  m.gen e (fun _ _ _ h => ⟨h, rfl⟩) (fun _ b xs h => ⟨⟨b, xs, h⟩, rfl⟩) kp kO
theorem MR.setS {K : PySem.W.Frag} {Hf H : Hp} {O : Addr → Prop} {σ : St} {ρ : Rho} (m : MR K Hf H O σ ρ) (i : Nat) (u : Option V) {s : Sl} (n1 : ∀ b o, s ≠ .m b o) (n2 : ∀ b o, s ≠ .own b o) : MR K Hf H O (σ.set i u) (ρ.set i s) := by
  have back : ∀ {j : Nat} {t : Sl}, (ρ.set i s)[j]? = some t → t ≠ s → i ≠ j ∧ ρ[j]? = some t := fun {j t} h n => by
    by_cases z : i = j
    · subst z
      by_cases hi : i < ρ.length
      · rw [List.getElem?_set_self hi] at h
        cases h
        exact (n rfl).elim
      · rw [List.getElem?_eq_none (by simpa using hi)] at h; cases h
    · rw [List.getElem?_set_ne z] at h; exact ⟨z, h⟩
  refine m.slots (fun j b o h => ?_) fun j b xs h => ?_
  · obtain ⟨z, q⟩ := back h fun z => n1 b o z.symm
    exact ⟨q, List.getElem?_set_ne z⟩
  · obtain ⟨z, q⟩ := back h fun z => n2 b xs z.symm
    exact ⟨⟨b, xs, q⟩, List.getElem?_set_ne z⟩
structure SR (K : PySem.W.Frag) (Hf H : Hp) (O : Addr → Prop) (σ : St) (ρ : Rho) : Prop where
  ex : Ex Hf H
  otr : ∀ a, O a → (∃ o, H a = some o) ∧ Hf a = none
  len : σ.length = ρ.length
  slot : ∀ (i : Nat) x, ρ[i]? = some (.d x) → ∃ v, σ[i]? = some (some v) ∧ RD K Hf v x
  own : ∀ (i : Nat) b xs, ρ[i]? = some (.own b xs) → ∃ l vs, σ[i]? = some (some (.ref l)) ∧ O l ∧ H l = some (.lst vs) ∧ RDs K Hf vs xs
  dis : ∀ (i j : Nat) b c xs ys l, ρ[i]? = some (.own b xs) → ρ[j]? = some (.own c ys) → σ[i]? = some (some (.ref l)) → σ[j]? = some (some (.ref l)) → i = j
  exc : ∀ (i : Nat) e, ρ[i]? = some (.x e) → ∃ a, σ[i]? = some (some (.ref a)) ∧ XH K Hf a e
  mr : MR K Hf H O σ ρ
structure Gr (O : Addr → Prop) (Hf H Hf' H' : Hp) : Prop where
  ex : Ex Hf Hf'
  fm : ∀ a o, H a = some o → ¬ O a → H' a = some o
  tr : ∀ a o, H a = some o → ∃ o', H' a = some o'
  nw : ∀ a o, Hf' a = some o → Hf a = some o ∨ H a = none ∨ O a
theorem Gr.refl {O : Addr → Prop} {Hf H : Hp} : Gr O Hf H Hf H := ⟨Ex.refl _, fun _ _ h _ => h, fun _ o h => ⟨o, h⟩, fun _ _ h => .inl h⟩
def Orl (O : Addr → Prop) (H : Hp) (O' : Addr → Prop) : Prop := ∀ a, O' a → O a ∨ H a = none
theorem Orl.refl {O : Addr → Prop} {H : Hp} : Orl O H O := fun _ h => .inl h
theorem Gr.gone {O : Addr → Prop} {Hf H Hf' H' : Hp} (g : Gr O Hf H Hf' H') {a : Addr} (h : H' a = none) : H a = none := by
  cases e : H a with
  | none => rfl
  | some o => obtain ⟨o', q⟩ := g.tr a o e; rw [h] at q; cases q
theorem Gr.transO {O O1 : Addr → Prop} {Hf H Hf1 H1 Hf2 H2 : Hp} (a : Gr O Hf H Hf1 H1) (b : Gr O1 Hf1 H1 Hf2 H2) (o : Orl O H O1) : Gr O Hf H Hf2 H2 where
  ex := a.ex.trans b.ex
  fm := fun x u h n => b.fm x u (a.fm x u h n) fun z => by
    rcases o x z with z | z
    · exact n z
    · rw [z] at h; cases h
  tr := fun x u h => by obtain ⟨u1, h1⟩ := a.tr x u h; exact b.tr x u1 h1
  nw := fun x u h => by
    rcases b.nw x u h with z | z | z
    · exact a.nw x u z
    · exact .inr (.inl (a.gone z))
    · rcases o x z with z | z
      · exact .inr (.inr z)
      · exact .inr (.inl z)
theorem Gr.trans {O : Addr → Prop} {Hf H Hf1 H1 Hf2 H2 : Hp} (a : Gr O Hf H Hf1 H1) (b : Gr O Hf1 H1 Hf2 H2) : Gr O Hf H Hf2 H2 := a.transO b Orl.refl
theorem Orl.trans {O O1 O2 : Addr → Prop} {Hf H Hf1 H1 : Hp} (a : Orl O H O1) (b : Orl O1 H1 O2) (g : Gr O Hf H Hf1 H1) : Orl O H O2 := fun x h => by
  rcases b x h with z | z
  · exact a x z
  · exact .inr (g.gone z)
structure Pg (Hf H Hf' H' : Hp) : Prop where
  ef : Ex Hf Hf'
  eh : Ex H H'
  ex : Ex Hf' H'
  nw : ∀ a o, Hf' a = some o → Hf a = some o ∨ H a = none
theorem Pg.refl {Hf H : Hp} (h : Ex Hf H) : Pg Hf H Hf H := ⟨Ex.refl _, Ex.refl _, h, fun _ _ q => .inl q⟩
theorem Pg.gr {O : Addr → Prop} {Hf H Hf' H' : Hp} (g : Pg Hf H Hf' H') : Gr O Hf H Hf' H' := ⟨g.ef, fun a o h _ => g.eh a o h, fun a o h => ⟨o, g.eh a o h⟩, fun a o h => (g.nw a o h).elim .inl fun z => .inr (.inl z)⟩
theorem Pg.new {Hf H : Hp} {p : Addr} {o : HO} (e : Ex Hf H) (n : H p = none) : Pg Hf H (upd Hf p o) (upd H p o) := by
  refine ⟨Ex.new (fresh_back e n), Ex.new n, fun a u h => ?_, fun a u h => ?_⟩
  · by_cases z : a = p
    · subst z; rw [upd_same] at h ⊢; exact h
    · rw [upd_ne z] at h ⊢; exact e a u h
  · by_cases z : a = p
    · subst z; exact .inr n
    · rw [upd_ne z] at h; exact .inl h
theorem Pg.lay {Hf H : Hp} {p : Addr} {o : HO} (e : Ex Hf H) (n : H p = none) : Pg Hf H Hf (upd H p o) :=
  ⟨Ex.refl _, Ex.new n, e.trans (Ex.new n), fun _ _ h => .inl h⟩
theorem Pg.trans {Hf H Hf1 H1 Hf2 H2 : Hp} (a : Pg Hf H Hf1 H1) (b : Pg Hf1 H1 Hf2 H2) : Pg Hf H Hf2 H2 := by
  refine ⟨a.ef.trans b.ef, a.eh.trans b.eh, b.ex, fun x o h => ?_⟩
  rcases b.nw x o h with z | z
  · exact a.nw x o z
  · exact .inr (fresh_back a.eh z)
theorem SR.grow {K : PySem.W.Frag} {Hf H Hf' H' : Hp} {O : Addr → Prop} {σ : St} {ρ : Rho} (s : SR K Hf H O σ ρ) (g : Pg Hf H Hf' H') : SR K Hf' H' O σ ρ where
  ex := g.ex
  otr := fun a h => by
    obtain ⟨⟨o, h1⟩, h2⟩ := s.otr a h
    refine ⟨⟨o, g.eh a o h1⟩, ?_⟩
    cases e : Hf' a with
    | none => rfl
    | some u =>
      rcases g.nw a u e with z | z
      · rw [h2] at z; cases z
      · rw [h1] at z; cases z
  len := s.len
  slot := fun i x h => by obtain ⟨v, h1, h2⟩ := s.slot i x h; exact ⟨v, h1, h2.mono g.ef⟩
  own := fun i b xs h => by obtain ⟨l, vs, h1, h2, h3, h4⟩ := s.own i b xs h; exact ⟨l, vs, h1, h2, g.eh _ _ h3, h4.mono g.ef⟩
  dis := s.dis
  exc := fun i e h => by obtain ⟨a, h1, h2⟩ := s.exc i e h; exact ⟨a, h1, h2.mono g.ef⟩
  mr := s.mr.heap g.ef (fun a u _ _ h => g.eh a u h) fun _ h _ => h
structure Zx where
  K : PySem.W.Frag
  C : Str → Addr
def XR (Z : Zx) (Hf H : Hp) (cls : Value) (d : Option Addr) (e : XD) : Prop :=
  cls = .ref (cA Z.K e.c) ∧ match e.fs with
    | none => d = none
    | some fs => ∃ a vs, d = some a ∧ Hf a = some (.xd vs) ∧ RF Z.K Hf vs fs
def Kp (ρ ρ' : Rho) : Prop := (∀ (i : Nat) xs, ρ[i]? = some (.own true xs) → ∃ ys, ρ'[i]? = some (.own true ys)) ∧ ∀ (i : Nat) o, ρ[i]? = some (.m true o) → ∃ u, ρ'[i]? = some (.m true u)
omit [WD] in
theorem Kp.refl {ρ : Rho} : Kp ρ ρ := ⟨fun _ xs h => ⟨xs, h⟩, fun _ o h => ⟨o, h⟩⟩
omit [WD] in
theorem Kp.trans {a b c : Rho} (h : Kp a b) (g : Kp b c) : Kp a c := ⟨fun i xs e => by obtain ⟨ys, q⟩ := h.1 i xs e; exact g.1 i ys q, fun i xs e => by obtain ⟨ys, q⟩ := h.2 i xs e; exact g.2 i ys q⟩
def PostG {A : Type} (Z : Zx) (W : WX) (O : Addr → Prop) (σ : St) (ρ : Rho) (Hf H : Hp) (S : A → Rho → Hp → Hp → Prop) : R A → Prop
  | .bad => False
  | .ok a ρ' => ∀ Hf' H', SR Z.K Hf' H' O σ ρ' → Gr O Hf H Hf' H' → Kp ρ ρ' → S a ρ' Hf' H'
  | .ex e ρ' => ∀ cls d Hf' H', SR Z.K Hf' H' O σ ρ' → Gr O Hf H Hf' H' → Kp ρ ρ' → XR Z Hf' H' cls d e → W cls d σ H'
theorem PostG.shift {A : Type} {Z : Zx} {W : WX} {O : Addr → Prop} {σ : St} {ρ ρ1 : Rho} {Hf H Hf1 H1 : Hp} {S : A → Rho → Hp → Hp → Prop} {r : R A} (h : PostG Z W O σ ρ Hf H S r) (g : Gr O Hf H Hf1 H1) (k : Kp ρ ρ1) : PostG Z W O σ ρ1 Hf1 H1 S r := by
  cases r with
  | bad => exact h
  | ok a ρ' => exact fun Hf' H' s g' k' => h Hf' H' s (g.trans g') (k.trans k')
  | ex e ρ' => exact fun cls d Hf' H' s g' k' x => h cls d Hf' H' s (g.trans g') (k.trans k') x
def DJ {C A : Type} (Z : Zx) (W : WX) (Rel : Hp → Hp → Hp → St → C → A → Prop) (t : St → Hp → (C → Hp → Prop) → Prop) (f : Rho → R A) : Prop :=
  ∀ Hf H O σ ρ, SR Z.K Hf H O σ ρ → ∀ Q : C → Hp → Prop, PostG Z W O σ ρ Hf H (fun a _ Hf' H' => ∀ v, Rel H Hf' H' σ v a → Q v H') (f ρ) → t σ H Q
theorem DJ.bind {C A B : Type} {Z : Zx} {W : WX} {Rel : Hp → Hp → Hp → St → C → A → Prop} {t : St → Hp → (C → Hp → Prop) → Prop} {f : Rho → R A} (h : DJ Z W Rel t f) {Hf H : Hp} {O : Addr → Prop} {σ : St} {ρ : Rho} (s : SR Z.K Hf H O σ ρ)
    {S : B → Rho → Hp → Hp → Prop} {k : A → Rho → R B} (p : PostG Z W O σ ρ Hf H S ((f ρ).bind k)) {Q : C → Hp → Prop}
    (c : ∀ a ρ1 v Hf1 H1, SR Z.K Hf1 H1 O σ ρ1 → Gr O Hf H Hf1 H1 → Kp ρ ρ1 → Rel H Hf1 H1 σ v a → PostG Z W O σ ρ1 Hf1 H1 S (k a ρ1) → Q v H1) : t σ H Q := by
  refine h Hf H O σ ρ s Q ?_
  cases e : f ρ with
  | bad => rw [e] at p; exact p
  | ok a ρ1 =>
    rw [e] at p
    exact fun Hf1 H1 s1 g1 k1 v rv => c a ρ1 v Hf1 H1 s1 g1 k1 rv (PostG.shift p g1 k1)
  | ex x ρ1 => rw [e] at p; exact p
def RA (K : PySem.W.Frag) (Hf : Hp) (σ : St) (v : V) : AV → Prop
  | .d x => RD K Hf v x
  | .sl i => σ[i]? = some (some v)
theorem RA.mono {K : PySem.W.Frag} {Hf Hf' : Hp} {σ : St} {v : V} {a : AV} (h : RA K Hf σ v a) (e : Ex Hf Hf') : RA K Hf' σ v a := by
  cases a with
  | d x => exact RD.mono e h
  | sl i => exact h
inductive RAs (K : PySem.W.Frag) (Hf : Hp) (σ : St) : List V → List AV → Prop
  | nil : RAs K Hf σ [] []
  | cons {v : V} {vs : List V} {a : AV} {as : List AV} (h : RA K Hf σ v a) (hs : RAs K Hf σ vs as) : RAs K Hf σ (v :: vs) (a :: as)
def DE (Z : Zx) (W : WX) (t : TE) (f : Rho → R AV) : Prop := DJ Z W (fun _ Hf _ σ v a => RA Z.K Hf σ v a) t f
def DT (Z : Zx) (W : WX) (t : TT) (f : Rho → R Bool) : Prop := DJ Z W (fun _ _ _ _ v a => v = a) t f
def DA (Z : Zx) (W : WX) (t : TA) (f : Rho → R (List AV)) : Prop := DJ Z W (fun _ Hf _ σ v a => RAs Z.K Hf σ v a) t f
def RL (K : PySem.W.Frag) (H0 Hf H : Hp) (v : V) (xs : List Pd) : Prop := ∃ l vs, v = .ref l ∧ H0 l = none ∧ H l = some (.lst vs) ∧ Hf l = none ∧ RDs K Hf vs xs
def DL (Z : Zx) (W : WX) (t : TE) (f : Rho → R (List Pd)) : Prop := DJ Z W (fun H0 Hf H _ v a => RL Z.K H0 Hf H v a) t f
def res (ρ : Rho) : AV → Option Pd
  | .d x => some x
  | .sl i => match ρ[i]? with
    | some (.own _ xs) => some (.list xs)
    | some (.d x) => some x
    | _ => none
def RX (K : PySem.W.Frag) (Hf H : Hp) (v : V) (x : Pd) : Prop := RD K Hf v x ∨ ∃ l vs xs, v = .ref l ∧ x = .list xs ∧ H l = some (.lst vs) ∧ RDs K Hf vs xs
theorem res_ok {K : PySem.W.Frag} {Hf H : Hp} {O : Addr → Prop} {σ : St} {ρ : Rho} {v : V} {a : AV} {x : Pd} (s : SR K Hf H O σ ρ) (h : RA K Hf σ v a) (e : res ρ a = some x) : RX K Hf H v x := by
  cases a with
  | d y => cases e; exact .inl h
  | sl i =>
    simp only [res] at e
    cases q : ρ[i]? with
    | none => rw [q] at e; cases e
    | some z =>
      rw [q] at e
      cases z with
      | no => cases e
      | x _ => cases e
      | m _ _ => cases e
      | d y =>
        cases e
        obtain ⟨u, h1, h2⟩ := s.slot i _ q
        rw [show σ[i]? = some (some v) from h] at h1
        cases h1
        exact .inl h2
      | own b xs =>
        cases e
        obtain ⟨l, vs, h1, h2, h3, h4⟩ := s.own i b xs q
        rw [show σ[i]? = some (some v) from h] at h1
        cases h1
        exact .inr ⟨l, vs, xs, rfl, rfl, h3, h4⟩
theorem RX.list {K : PySem.W.Frag} {Hf H : Hp} {v : V} {xs : List Pd} (e : Ex Hf H) (h : RX K Hf H v (.list xs)) : ∃ l vs, v = .ref l ∧ SqL K H l vs ∧ RDs K Hf vs xs := by
  rcases h with h | ⟨l, vs, ys, rfl, q, h1, h2⟩
  · cases h with
    | lst h hs => exact ⟨_, _, rfl, ex_l e h, hs⟩
  · cases q
    exact ⟨l, vs, rfl, sq_of h1, h2⟩
theorem RX.tuple {K : PySem.W.Frag} {Hf H : Hp} {v : V} {xs : List Pd} (e : Ex Hf H) (h : RX K Hf H v (.tuple xs)) : ∃ l vs, v = .ref l ∧ SqN K Hf l vs ∧ SqT K H l vs ∧ RDs K Hf vs xs := by
  rcases h with h | ⟨l, vs, ys, rfl, q, h1, h2⟩
  · cases h with
    | tup h hs => exact ⟨_, _, rfl, h, ex_t e h.sq, hs⟩
  · cases q
theorem RX.int {K : PySem.W.Frag} {Hf H : Hp} {v : V} {i : Int} (h : RX K Hf H v (.int i)) : v = .int i := by
  rcases h with h | ⟨_, _, _, _, q, _⟩
  · cases h; rfl
  · cases q
theorem RX.str {K : PySem.W.Frag} {Hf H : Hp} {v : V} {i : Str} (h : RX K Hf H v (.str i)) : v = .str i := by
  rcases h with h | ⟨_, _, _, _, q, _⟩
  · cases h; rfl
  · cases q
theorem RX.bool {K : PySem.W.Frag} {Hf H : Hp} {v : V} {i : Bool} (h : RX K Hf H v (.bool i)) : v = .bl i := by
  rcases h with h | ⟨_, _, _, _, q, _⟩
  · cases h; rfl
  · cases q
theorem RX.non {K : PySem.W.Frag} {Hf H : Hp} {v : V} (h : RX K Hf H v .none) : v = .non := by
  rcases h with h | ⟨_, _, _, _, q, _⟩
  · cases h; rfl
  · cases q
theorem RX.full {K : PySem.W.Frag} {Hf H : Hp} {v : V} {x : Pd} (e : Ex Hf H) (h : RX K Hf H v x) : RD K H v x := by
  rcases h with h | ⟨l, vs, xs, rfl, rfl, h1, h2⟩
  · exact h.mono e
  · exact .lst (sq_of h1) (h2.mono e)
end Dt
set_option maxHeartbeats 4000000
namespace Dt
open PySem PySem.Spec L2 Evl PyProof.Rows
def lockK (Q : VK) : VK := fun x H1 => ∃ a kvs, x = .ref a ∧ H1 a = some (.dK kvs) ∧ ∀ o, Q x (upd H1 a (.frz o (.dK kvs)))
def tLockD (te : TE) : TE := fun σ H Q => te σ H (lockK Q)
theorem upd_twice {H : Hp} {a : Addr} {x y : HO} : upd (upd H a x) a y = upd H a y := by
  funext b
  by_cases z : b = a
  · subst z; rw [upd_same, upd_same]
  · rw [upd_ne z, upd_ne z, upd_ne z]
section
variable {X : Cx}
theorem pe_lockD {e : Expr} {te : TE} (he : PE X e te) : PE X e (tLockD te) := ⟨fun pins s σ H Q I h => thn (he.run pins s σ H _ I h) fun u s1 ⟨x, H1, I1, rx, a, kvs, ex, ha, q⟩ => by
  obtain ⟨od, I2⟩ := I1.lock ha True.intro
  exact ⟨x, _, I2, rx, q od⟩⟩
end
end Dt
namespace Dt
open PySem PySem.Spec L2 Evl
variable [WD]
section
variable {Z : Zx} {W : WX}
def fVar (i : Nat) : Rho → R AV := fun ρ => match ρ[i]? with
  | some (.d x) => .ok (.d x) ρ
  | _ => .bad
theorem d_var (i : Nat) : DE Z W (tVar i) (fVar i) := by
  intro Hf H O σ ρ s Q p
  unfold fVar at p
  cases e : ρ[i]? with
  | none => rw [e] at p; exact p.elim
  | some z =>
    rw [e] at p
    cases z with
    | no => exact p.elim
    | x _ => exact p.elim
    | m _ _ => exact p.elim
    | own b xs => exact p.elim
    | d x =>
      obtain ⟨v, h1, h2⟩ := s.slot i x e
      exact ⟨v, h1, p Hf H s Gr.refl Kp.refl v h2⟩
def fOwn (i : Nat) : Rho → R AV := fun ρ => match ρ[i]? with
  | some (.own _ _) => .ok (.sl i) ρ
  | _ => .bad
theorem d_own (i : Nat) : DE Z W (tVar i) (fOwn i) := by
  intro Hf H O σ ρ s Q p
  unfold fOwn at p
  cases e : ρ[i]? with
  | none => rw [e] at p; exact p.elim
  | some z =>
    rw [e] at p
    cases z with
    | no => exact p.elim
    | x _ => exact p.elim
    | m _ _ => exact p.elim
    | d x => exact p.elim
    | own b xs =>
      obtain ⟨l, vs, h1, h2, h3, h4⟩ := s.own i b xs e
      exact ⟨.ref l, h1, p Hf H s Gr.refl Kp.refl (.ref l) h1⟩
def fC (x : Pd) : Rho → R AV := fun ρ => .ok (.d x) ρ
theorem d_c {v : V} {x : Pd} (h : ∀ H, RD Z.K H v x) : DE Z W (tC v) (fC x) := fun Hf H O σ ρ s Q p => p Hf H s Gr.refl Kp.refl v (h Hf)
theorem d_int (i : Int) : DE Z W (tC (.int i)) (fC (.int i)) := d_c fun _ => .int i
theorem d_str (i : Str) : DE Z W (tC (.str i)) (fC (.str i)) := d_c fun _ => .str i
theorem d_bl (i : Bool) : DE Z W (tC (.bl i)) (fC (.bool i)) := d_c fun _ => .bl i
theorem d_non : DE Z W (tC .non) (fC .none) := d_c fun _ => .non
def ROp (K : PySem.W.Frag) (r : R2) (h : Pd → Pd → Option Pd) : Prop := ∀ Hf H x y dx dy z, Ex Hf H → RX K Hf H x dx → RX K Hf H y dy → h dx dy = some z →
  ∀ Q : VK, (∀ v Hf' H', Pg Hf H Hf' H' → RD K Hf' v z → Q v H') → r x y H Q
def op2 (h : Pd → Pd → Option Pd) (a b : AV) : Rho → R AV := fun ρ =>
  match res ρ a, res ρ b with
  | some x, some y => match h x y with
    | some z => .ok (.d z) ρ
    | none => .bad
  | _, _ => .bad
def f2 (h : Pd → Pd → Option Pd) (fa fb : Rho → R AV) : Rho → R AV := fun ρ => (fa ρ).bind fun a ρ1 => (fb ρ1).bind fun b ρ2 => op2 h a b ρ2
theorem op2_use {h : Pd → Pd → Option Pd} {r : R2} (hr : ROp Z.K r h) {Hf H Hf0 H0 : Hp} {O : Addr → Prop} {σ : L2.St} {ρ ρ0 : Rho} {a b : AV} {x y : V} (s : SR Z.K Hf H O σ ρ) (hx : RA Z.K Hf σ x a) (hy : RA Z.K Hf σ y b) {Q : VK}
    (p : PostG Z W O σ ρ Hf H (fun a _ Hf' H' => ∀ v, RA Z.K Hf' σ v a → Q v H') (op2 h a b ρ)) : r x y H Q := by
  unfold op2 at p
  cases ea : res ρ a with
  | none => rw [ea] at p; exact p.elim
  | some dx =>
    cases eb : res ρ b with
    | none => rw [ea, eb] at p; exact p.elim
    | some dy =>
      rw [ea, eb] at p
      simp only at p
      cases ez : h dx dy with
      | none => rw [ez] at p; exact p.elim
      | some z =>
        rw [ez] at p
        exact hr Hf H x y dx dy z s.ex (res_ok s hx ea) (res_ok s hy eb) ez Q fun v Hf' H' g rv => p Hf' H' (s.grow g) g.gr Kp.refl v rv
theorem d_op {ta tb : TE} {fa fb : Rho → R AV} {h : Pd → Pd → Option Pd} {r : R2} (hr : ROp Z.K r h) (ha : DE Z W ta fa) (hb : DE Z W tb fb) : DE Z W (tOp r ta tb) (f2 h fa fb) := by
  intro Hf H O σ ρ s Q p
  refine ha.bind s p fun a ρ1 x Hf1 H1 s1 g1 k1 rx p1 => ?_
  refine hb.bind s1 p1 fun b ρ2 y Hf2 H2 s2 g2 k2 ry p2 => ?_
  exact op2_use (Hf0 := Hf) (H0 := H) (ρ0 := ρ) hr s2 (RA.mono rx g2.ex) ry p2
def op1 (h : Pd → Option Pd) (a : AV) : Rho → R AV := fun ρ =>
  match res ρ a with
  | some x => match h x with
    | some z => .ok (.d z) ρ
    | none => .bad
  | _ => .bad
def f1 (h : Pd → Option Pd) (fa : Rho → R AV) : Rho → R AV := fun ρ => (fa ρ).bind fun a ρ1 => op1 h a ρ1
def RUn (K : PySem.W.Frag) (r : V → Hp → VK → Prop) (h : Pd → Option Pd) : Prop := ∀ Hf H x dx z, Ex Hf H → RX K Hf H x dx → h dx = some z →
  ∀ Q : VK, (∀ v Hf' H', Pg Hf H Hf' H' → RD K Hf' v z → Q v H') → r x H Q
theorem op1_use {h : Pd → Option Pd} {r : V → Hp → VK → Prop} (hr : RUn Z.K r h) {Hf H : Hp} {O : Addr → Prop} {σ : L2.St} {ρ : Rho} {a : AV} {x : V} (s : SR Z.K Hf H O σ ρ) (hx : RA Z.K Hf σ x a) {Q : VK}
    (p : PostG Z W O σ ρ Hf H (fun a _ Hf' H' => ∀ v, RA Z.K Hf' σ v a → Q v H') (op1 h a ρ)) : r x H Q := by
  unfold op1 at p
  cases ea : res ρ a with
  | none => rw [ea] at p; exact p.elim
  | some dx =>
    rw [ea] at p
    simp only at p
    cases ez : h dx with
    | none => rw [ez] at p; exact p.elim
    | some z =>
      rw [ez] at p
      exact hr Hf H x dx z s.ex (res_ok s hx ea) ez Q fun v Hf' H' g rv => p Hf' H' (s.grow g) g.gr Kp.refl v rv
theorem d_un {ta : TE} {fa : Rho → R AV} {h : Pd → Option Pd} {r : V → Hp → VK → Prop} (hr : RUn Z.K r h) (ha : DE Z W ta fa) : DE Z W (tUn r ta) (f1 h fa) := by
  intro Hf H O σ ρ s Q p
  refine ha.bind s p fun a ρ1 x Hf1 H1 s1 g1 k1 rx p1 => ?_
  exact op1_use hr s1 rx p1
def fNil : Rho → R (List AV) := fun ρ => .ok [] ρ
def fCons (fa : Rho → R AV) (fr : Rho → R (List AV)) : Rho → R (List AV) := fun ρ => (fa ρ).bind fun a ρ1 => (fr ρ1).bind fun as ρ2 => .ok (a :: as) ρ2
theorem d_nil : DA Z W tNil fNil := fun Hf H O σ ρ s Q p => p Hf H s Gr.refl Kp.refl [] .nil
theorem d_cons {ta : TE} {tr : TA} {fa : Rho → R AV} {fr : Rho → R (List AV)} (ha : DE Z W ta fa) (hr : DA Z W tr fr) : DA Z W (tCons ta tr) (fCons fa fr) := by
  intro Hf H O σ ρ s Q p
  refine ha.bind s p fun a ρ1 x Hf1 H1 s1 g1 k1 rx p1 => ?_
  refine hr.bind s1 p1 fun as ρ2 xs Hf2 H2 s2 g2 k2 rxs p2 => ?_
  exact p2 Hf2 H2 s2 Gr.refl Kp.refl _ (.cons (RA.mono rx g2.ex) rxs)
def ress (ρ : Rho) : List AV → Option (List Pd)
  | [] => some []
  | a :: as => match res ρ a, ress ρ as with
    | some x, some xs => some (x :: xs)
    | _, _ => none
def datas : List AV → Option (List Pd)
  | [] => some []
  | .d x :: as => match datas as with
    | some xs => some (x :: xs)
    | none => none
  | .sl _ :: _ => none
theorem datas_ok {K : PySem.W.Frag} {Hf : Hp} {σ : L2.St} : ∀ {vs : List V} {as : List AV} {xs : List Pd}, RAs K Hf σ vs as → datas as = some xs → RDs K Hf vs xs
  | _, _, _, .nil, e => by cases e; exact .nil
  | _, _, _, .cons (a := .d x) (as := as) h hs, e => by
    simp only [datas] at e
    cases q : datas as with
    | none => rw [q] at e; cases e
    | some ys => rw [q] at e; cases e; exact .cons h (datas_ok hs q)
  | _, _, _, .cons (a := .sl i) h hs, e => by cases e
inductive RXs (K : PySem.W.Frag) (Hf H : Hp) : List V → List Pd → Prop
  | nil : RXs K Hf H [] []
  | cons {v : V} {vs : List V} {d : Pd} {ds : List Pd} (h : RX K Hf H v d) (hs : RXs K Hf H vs ds) : RXs K Hf H (v :: vs) (d :: ds)
theorem ress_ok {K : PySem.W.Frag} {Hf H : Hp} {O : Addr → Prop} {σ : L2.St} {ρ : Rho} (s : SR K Hf H O σ ρ) : ∀ {vs : List V} {as : List AV} {xs : List Pd}, RAs K Hf σ vs as → ress ρ as = some xs → RXs K Hf H vs xs
  | _, _, _, .nil, e => by cases e; exact .nil
  | _, _, _, .cons (a := a) (as := as) h hs, e => by
    simp only [ress] at e
    cases q : res ρ a with
    | none => rw [q] at e; cases e
    | some y =>
      cases q2 : ress ρ as with
      | none => rw [q, q2] at e; cases e
      | some ys => rw [q, q2] at e; cases e; exact .cons (res_ok s h q) (ress_ok s hs q2)
def fTup (fa : Rho → R (List AV)) : Rho → R AV := fun ρ => (fa ρ).bind fun as ρ1 => match datas as with
  | some xs => if xs.length ≤ sizeLine then .ok (.d (.tuple xs)) ρ1 else .bad
  | none => .bad
theorem d_tup {t : TA} {fa : Rho → R (List AV)} (ha : DA Z W t fa) : DE Z W (tTupN t) (fTup fa) := by
  intro Hf H O σ ρ s Q p
  refine ha.bind s p fun as ρ1 vs Hf1 H1 s1 g1 k1 rs p1 => ?_
  cases e : datas as with
  | none => rw [e] at p1; exact p1.elim
  | some xs =>
    rw [e] at p1
    simp only at p1
    by_cases hz : xs.length ≤ sizeLine
    · rw [if_pos hz] at p1
      have r := datas_ok rs e
      refine ⟨by rw [r.length]; exact hz, fun q o hd nq => ?_⟩
      have g := Pg.new (o := .frz o (.tup vs)) s1.ex nq
      exact p1 _ _ (s1.grow g) g.gr Kp.refl _ (.tup (sn_of upd_same hd) (r.mono g.ef))
    · rw [if_neg hz] at p1; exact p1.elim
def fLst (fa : Rho → R (List AV)) : Rho → R (List Pd) := fun ρ => (fa ρ).bind fun as ρ1 => match datas as with
  | some xs => if xs.length ≤ sizeLine then .ok xs ρ1 else .bad
  | none => .bad
theorem l_lst {t : TA} {fa : Rho → R (List AV)} (ha : DA Z W t fa) : DL Z W (tLst t) (fLst fa) := by
  intro Hf H O σ ρ s Q p
  refine ha.bind s p fun as ρ1 vs Hf1 H1 s1 g1 k1 rs p1 => ?_
  cases e : datas as with
  | none => rw [e] at p1; exact p1.elim
  | some xs =>
    rw [e] at p1
    simp only at p1
    by_cases hz : xs.length ≤ sizeLine
    · rw [if_pos hz] at p1
      have r := datas_ok rs e
      refine ⟨by rw [r.length]; exact hz, fun q nq => ?_⟩
      have g := Pg.lay (o := .lst vs) s1.ex nq
      exact p1 _ _ (s1.grow g) g.gr Kp.refl _ ⟨q, vs, rfl, g1.gone nq, upd_same, fresh_back s1.ex nq, r⟩
    · rw [if_neg hz] at p1; exact p1.elim
def fL (f : Rho → R (List Pd)) : Rho → R AV := fun ρ => (f ρ).bind fun xs ρ1 => .ok (.d (.list xs)) ρ1
theorem SR.freeze {K : PySem.W.Frag} {Hf H : Hp} {O : Addr → Prop} {σ : L2.St} {ρ : Rho} (s : SR K Hf H O σ ρ) {l : Addr} {o : HO} (hl : H l = some o) (hf : Hf l = none) (no : ¬ O l) : SR K (upd Hf l o) H O σ ρ where
  ex := fun a u h => by
    by_cases z : a = l
    · subst z; rw [upd_same] at h; cases h; exact hl
    · rw [upd_ne z] at h; exact s.ex a u h
  otr := fun a h => ⟨(s.otr a h).1, by
    have z : a ≠ l := fun z => no (by rw [← z]; exact h)
    rw [upd_ne z]; exact (s.otr a h).2⟩
  len := s.len
  slot := fun i x h => by obtain ⟨v, h1, h2⟩ := s.slot i x h; exact ⟨v, h1, h2.mono (Ex.new hf)⟩
  own := fun i b xs h => by obtain ⟨k, vs, h1, h2, h3, h4⟩ := s.own i b xs h; exact ⟨k, vs, h1, h2, h3, h4.mono (Ex.new hf)⟩
  dis := s.dis
  exc := fun i e h => by obtain ⟨a, h1, h2⟩ := s.exc i e h; exact ⟨a, h1, h2.mono (Ex.new hf)⟩
  mr := s.mr.heap (Ex.new hf) (fun _ _ _ _ h => h) fun _ h _ => h
theorem d_ofL {t : TE} {f : Rho → R (List Pd)} (h : DL Z W t f) : DE Z W t (fL f) := by
  intro Hf H O σ ρ s Q p
  refine h Hf H O σ ρ s Q ?_
  unfold fL at p
  cases e : f ρ with
  | bad => rw [e] at p; exact p
  | ex x ρ1 => rw [e] at p; exact p
  | ok xs ρ1 =>
    rw [e] at p
    intro Hf1 H1 s1 g1 k1 v rl
    obtain ⟨l, vs, rfl, h0, h1, hf, r⟩ := rl
    have no : ¬ O l := fun z => by
      obtain ⟨⟨o, q⟩, _⟩ := s.otr l z
      rw [h0] at q; cases q
    refine p (upd Hf1 l (.lst vs)) H1 (s1.freeze h1 hf no) ⟨g1.ex.trans (Ex.new hf), g1.fm, g1.tr, fun a o q => ?_⟩ k1 _ (.lst (sq_of upd_same) (r.mono (Ex.new hf)))
    by_cases z : a = l
    · subst z; exact .inr (.inl h0)
    · rw [upd_ne z] at q; exact g1.nw a o q
end
end Dt
namespace Dt
open PySem PySem.Spec L2 Evl
variable [WD]
section
variable {Z : Zx} {W : WX}
def rB (a : AV) (ρ : Rho) : R Bool := match res ρ a with
  | some (.bool b) => .ok b ρ
  | _ => .bad
def fTest (f : Rho → R AV) : Rho → R Bool := fun ρ => (f ρ).bind rB
theorem rB_ok {a : AV} {ρ : Rho} {Hf H : Hp} {O : Addr → Prop} {σ : L2.St} {B : Type} {x : V} (s : SR Z.K Hf H O σ ρ) (hx : RA Z.K Hf σ x a) {S : B → Rho → Hp → Hp → Prop} {k : Bool → Rho → R B}
    (p : PostG Z W O σ ρ Hf H S ((rB a ρ).bind k)) : ∃ b, x = .bl b ∧ rB a ρ = .ok b ρ ∧ PostG Z W O σ ρ Hf H S (k b ρ) := by
  unfold rB at p ⊢
  cases e : res ρ a with
  | none => rw [e] at p; exact p.elim
  | some y =>
    rw [e] at p
    cases y with
    | bool b => exact ⟨b, (res_ok s hx e).bool, rfl, p⟩
    | _ => exact p.elim
omit [WD] in
theorem R.bind_ok {A : Type} (r : R A) : r.bind (fun a ρ => .ok a ρ) = r := by cases r <;> rfl
theorem dt_test {t : TE} {f : Rho → R AV} (h : DE Z W t f) : DT Z W (tTest t) (fTest f) := by
  intro Hf H O σ ρ s Q p
  refine h.bind s p fun a ρ1 x Hf1 H1 s1 g1 k1 rx p1 => ?_
  rw [← R.bind_ok (rB a ρ1)] at p1
  obtain ⟨b, rfl, _, p2⟩ := rB_ok s1 rx p1
  exact ⟨b, rfl, p2 Hf1 H1 s1 Gr.refl Kp.refl b rfl⟩
theorem dt_tB {t : TE} {f : Rho → R AV} (h : DE Z W t f) : DT Z W (tB t) (fTest f) := dt_test h
def fAnd (f g : Rho → R Bool) : Rho → R Bool := fun ρ => (f ρ).bind fun b ρ1 => if b = true then g ρ1 else .ok false ρ1
def fOr (f g : Rho → R Bool) : Rho → R Bool := fun ρ => (f ρ).bind fun b ρ1 => if b = true then .ok true ρ1 else g ρ1
def fNot (f : Rho → R Bool) : Rho → R Bool := fun ρ => (f ρ).bind fun b ρ1 => .ok (!b) ρ1
theorem dt_and {t u : TT} {f g : Rho → R Bool} (h : DT Z W t f) (k : DT Z W u g) : DT Z W (tAnd t u) (fAnd f g) := by
  intro Hf H O σ ρ s Q p
  refine h.bind s p fun a ρ1 x Hf1 H1 s1 g1 k1 rx p1 => ?_
  subst rx
  show if x = true then u σ H1 Q else Q false H1
  cases x with
  | true => exact k Hf1 H1 O σ ρ1 s1 Q p1
  | false => exact p1 Hf1 H1 s1 Gr.refl Kp.refl false rfl
theorem dt_or {t u : TT} {f g : Rho → R Bool} (h : DT Z W t f) (k : DT Z W u g) : DT Z W (tOr t u) (fOr f g) := by
  intro Hf H O σ ρ s Q p
  refine h.bind s p fun a ρ1 x Hf1 H1 s1 g1 k1 rx p1 => ?_
  subst rx
  show if x = true then Q true H1 else u σ H1 Q
  cases x with
  | false => exact k Hf1 H1 O σ ρ1 s1 Q p1
  | true => exact p1 Hf1 H1 s1 Gr.refl Kp.refl true rfl
theorem dt_not {t : TT} {f : Rho → R Bool} (h : DT Z W t f) : DT Z W (tNot t) (fNot f) := by
  intro Hf H O σ ρ s Q p
  refine h.bind s p fun a ρ1 x Hf1 H1 s1 g1 k1 rx p1 => ?_
  subst rx
  exact p1 Hf1 H1 s1 Gr.refl Kp.refl _ rfl
theorem dt_yes : DT Z W tYes (fun ρ => .ok true ρ) := fun Hf H O σ ρ s Q p => p Hf H s Gr.refl Kp.refl true rfl
def fAndV (f g : Rho → R AV) : Rho → R AV := fun ρ => (f ρ).bind fun a ρ1 => (rB a ρ1).bind fun b ρ2 => if b = true then g ρ2 else .ok (.d (.bool false)) ρ2
def fOrV (f g : Rho → R AV) : Rho → R AV := fun ρ => (f ρ).bind fun a ρ1 => (rB a ρ1).bind fun b ρ2 => if b = true then .ok (.d (.bool true)) ρ2 else g ρ2
def fNotV (f : Rho → R AV) : Rho → R AV := fun ρ => (f ρ).bind fun a ρ1 => (rB a ρ1).bind fun b ρ2 => .ok (.d (.bool (!b))) ρ2
theorem d_and {ta tb : TE} {f g : Rho → R AV} (h : DE Z W ta f) (k : DE Z W tb g) : DE Z W (tAndV ta tb) (fAndV f g) := by
  intro Hf H O σ ρ s Q p
  refine h.bind s p fun a ρ1 x Hf1 H1 s1 g1 k1 rx p1 => ?_
  obtain ⟨b, rfl, _, p2⟩ := rB_ok s1 rx p1
  refine ⟨b, rfl, ?_⟩
  cases b with
  | true => exact k Hf1 H1 O σ ρ1 s1 Q p2
  | false => exact p2 Hf1 H1 s1 Gr.refl Kp.refl _ (.bl false)
def fIf (c : Rho → R Bool) (f g : Rho → R AV) : Rho → R AV := fun ρ => (c ρ).bind fun b ρ1 => if b = true then f ρ1 else g ρ1
def fChain (h h' : Pd → Pd → Option Pd) (fa fb fc : Rho → R AV) : Rho → R AV := fun ρ => (fa ρ).bind fun a ρ1 => (fb ρ1).bind fun b ρ2 => (op2 h a b ρ2).bind fun z ρ3 => (rB z ρ3).bind fun k ρ4 =>
  if k = true then (fc ρ4).bind fun c ρ5 => op2 h' b c ρ5 else .ok (.d (.bool false)) ρ4
theorem d_chain {ta tb tc : TE} {fa fb fc : Rho → R AV} {h h' : Pd → Pd → Option Pd} {r r' : R2} (hr : ROp Z.K r h) (hr' : ROp Z.K r' h') (ha : DE Z W ta fa) (hb : DE Z W tb fb) (hc : DE Z W tc fc) : DE Z W (tChain r r' ta tb tc) (fChain h h' fa fb fc) := by
  intro Hf H O σ ρ s Q p
  refine ha.bind s p fun a ρ1 x Hf1 H1 s1 g1 k1 rx p1 => ?_
  refine hb.bind s1 p1 fun b ρ2 y Hf2 H2 s2 g2 k2 ry p2 => ?_
  unfold op2 at p2
  cases ea : res ρ2 a with
  | none => rw [ea] at p2; exact p2.elim
  | some dx =>
    cases eb : res ρ2 b with
    | none => rw [ea, eb] at p2; exact p2.elim
    | some dy =>
      rw [ea, eb] at p2
      simp only at p2
      cases ez : h dx dy with
      | none => rw [ez] at p2; exact p2.elim
      | some z =>
        rw [ez] at p2
        refine hr Hf2 H2 x y dx dy z s2.ex (res_ok s2 (RA.mono rx g2.ex) ea) (res_ok s2 ry eb) ez _ fun v Hf3 H3 g3 rv => ?_
        have s3 := s2.grow g3
        obtain ⟨k, rfl, _, p3⟩ := rB_ok (a := .d z) s3 rv (PostG.shift p2 g3.gr Kp.refl)
        refine ⟨k, rfl, ?_⟩
        cases k with
        | false => exact p3 Hf3 H3 s3 Gr.refl Kp.refl _ (.bl false)
        | true =>
          refine hc.bind s3 p3 fun c ρ5 w Hf5 H5 s5 g5 k5 rw5 p5 => ?_
          exact op2_use (Hf0 := Hf) (H0 := H) (ρ0 := ρ) hr' s5 (RA.mono ry (g3.ef.trans g5.ex)) rw5 p5
def RCall (K : PySem.W.Frag) (r : List V → Hp → VK → Prop) (h : List Pd → Option Pd) : Prop := ∀ Hf H vs xs z, Ex Hf H → RXs K Hf H vs xs → h xs = some z →
  ∀ Q : VK, (∀ v Hf' H', Pg Hf H Hf' H' → RD K Hf' v z → Q v H') → r vs H Q
def RCallL (K : PySem.W.Frag) (r : List V → Hp → VK → Prop) (h : List Pd → Option (List Pd)) : Prop := ∀ Hf H vs xs z, Ex Hf H → RXs K Hf H vs xs → h xs = some z →
  ∀ Q : VK, (∀ l ws H', Ex Hf H' → Ex H H' → H l = none → H' l = some (.lst ws) → RDs K Hf ws z → Q (.ref l) H') → r vs H Q
def fCB (h : List Pd → Option Pd) (fa : Rho → R (List AV)) : Rho → R AV := fun ρ => (fa ρ).bind fun as ρ1 => match ress ρ1 as with
  | some xs => match h xs with
    | some z => .ok (.d z) ρ1
    | none => .bad
  | none => .bad
def fCBL (h : List Pd → Option (List Pd)) (fa : Rho → R (List AV)) : Rho → R (List Pd) := fun ρ => (fa ρ).bind fun as ρ1 => match ress ρ1 as with
  | some xs => match h xs with
    | some z => .ok z ρ1
    | none => .bad
  | none => .bad
theorem d_cb {t : TA} {fa : Rho → R (List AV)} {r : List V → Hp → VK → Prop} {h : List Pd → Option Pd} (hr : RCall Z.K r h) (ha : DA Z W t fa) : DE Z W (tCB r t) (fCB h fa) := by
  intro Hf H O σ ρ s Q p
  refine ha.bind s p fun as ρ1 vs Hf1 H1 s1 g1 k1 rs p1 => ?_
  cases e : ress ρ1 as with
  | none => rw [e] at p1; exact p1.elim
  | some xs =>
    rw [e] at p1
    simp only at p1
    cases ez : h xs with
    | none => rw [ez] at p1; exact p1.elim
    | some z =>
      rw [ez] at p1
      exact hr Hf1 H1 vs xs z s1.ex (ress_ok s1 rs e) ez Q fun v Hf' H' g rv => p1 Hf' H' (s1.grow g) g.gr Kp.refl v rv
theorem l_cb {t : TA} {fa : Rho → R (List AV)} {r : List V → Hp → VK → Prop} {h : List Pd → Option (List Pd)} (hr : RCallL Z.K r h) (ha : DA Z W t fa) : DL Z W (tCB r t) (fCBL h fa) := by
  intro Hf H O σ ρ s Q p
  refine ha.bind s p fun as ρ1 vs Hf1 H1 s1 g1 k1 rs p1 => ?_
  cases e : ress ρ1 as with
  | none => rw [e] at p1; exact p1.elim
  | some xs =>
    rw [e] at p1
    simp only at p1
    cases ez : h xs with
    | none => rw [ez] at p1; exact p1.elim
    | some z =>
      rw [ez] at p1
      refine hr Hf1 H1 vs xs z s1.ex (ress_ok s1 rs e) ez Q fun l ws H' eF eH n hl rd => ?_
      have g : Pg Hf1 H1 Hf1 H' := ⟨Ex.refl _, eH, eF, fun _ _ q => .inl q⟩
      exact p1 Hf1 H' (s1.grow g) g.gr Kp.refl _ ⟨l, ws, rfl, g1.gone n, hl, fresh_back s1.ex n, rd⟩
def DO (Z : Zx) (W : WX) (t : TO) (f : Rho → R (Option Int)) : Prop := DJ Z W (fun _ _ _ _ v a => v = a) t f
def fNoPart : Rho → R (Option Int) := fun ρ => .ok none ρ
def fPart (f : Rho → R AV) : Rho → R (Option Int) := fun ρ => (f ρ).bind fun a ρ1 => match res ρ1 a with
  | some (.int i) => .ok (some i) ρ1
  | _ => .bad
theorem do_none : DO Z W tNoPart fNoPart := fun Hf H O σ ρ s Q p => p Hf H s Gr.refl Kp.refl none rfl
theorem do_some {t : TE} {f : Rho → R AV} (h : DE Z W t f) : DO Z W (tPart t) (fPart f) := by
  intro Hf H O σ ρ s Q p
  refine h.bind s p fun a ρ1 x Hf1 H1 s1 g1 k1 rx p1 => ?_
  cases e : res ρ1 a with
  | none => rw [e] at p1; exact p1.elim
  | some y =>
    rw [e] at p1
    cases y with
    | int i => exact ⟨i, (res_ok s1 rx e).int, p1 Hf1 H1 s1 Gr.refl Kp.refl _ rfl⟩
    | _ => exact p1.elim
def RSl (K : PySem.W.Frag) (r : V → Option Int → Option Int → Hp → VK → Prop) (h : Pd → Option Int → Option Int → Option Pd) : Prop := ∀ Hf H x lo hi dx z, Ex Hf H → RX K Hf H x dx → h dx lo hi = some z →
  ∀ Q : VK, (∀ v Hf' H', Pg Hf H Hf' H' → RD K Hf' v z → Q v H') → r x lo hi H Q
def fSl (h : Pd → Option Int → Option Int → Option Pd) (fe : Rho → R AV) (fl fh : Rho → R (Option Int)) : Rho → R AV := fun ρ => (fe ρ).bind fun a ρ1 => (fl ρ1).bind fun lo ρ2 => (fh ρ2).bind fun hi ρ3 => match res ρ3 a with
  | some x => match h x lo hi with
    | some z => .ok (.d z) ρ3
    | none => .bad
  | none => .bad
theorem d_sl {te : TE} {tl th : TO} {fe : Rho → R AV} {fl fh : Rho → R (Option Int)} {r : V → Option Int → Option Int → Hp → VK → Prop} {h : Pd → Option Int → Option Int → Option Pd} (hr : RSl Z.K r h) (he : DE Z W te fe) (hl : DO Z W tl fl) (hh : DO Z W th fh) :
    DE Z W (tSl r te tl th) (fSl h fe fl fh) := by
  intro Hf H O σ ρ s Q p
  refine he.bind s p fun a ρ1 x Hf1 H1 s1 g1 k1 rx p1 => ?_
  refine hl.bind s1 p1 fun lo ρ2 l Hf2 H2 s2 g2 k2 rl p2 => ?_
  refine hh.bind s2 p2 fun hi ρ3 u Hf3 H3 s3 g3 k3 rh p3 => ?_
  subst rl rh
  cases e : res ρ3 a with
  | none => rw [e] at p3; exact p3.elim
  | some dx =>
    rw [e] at p3
    simp only at p3
    cases ez : h dx l u with
    | none => rw [ez] at p3; exact p3.elim
    | some z =>
      rw [ez] at p3
      exact hr Hf3 H3 x l u dx z s3.ex (res_ok s3 (RA.mono rx (g2.ex.trans g3.ex)) e) ez Q fun v Hf' H' g rv => p3 Hf' H' (s3.grow g) g.gr Kp.refl v rv
def RMt (K : PySem.W.Frag) (T : String) (r : V → List V → Hp → VK → Prop) (h : Pd → List Pd → Option Pd) : Prop := ∀ Hf H x vs dx xs z, Ex Hf H → RX K Hf H x dx → RXs K Hf H vs xs → h dx xs = some z →
  ∀ Q : VK, (∀ v Hf' H', Pg Hf H Hf' H' → RD K Hf' v z → Q v H') → r x vs H Q
def fM1 (h : Pd → List Pd → Option Pd) (fo fa : Rho → R AV) : Rho → R AV := fun ρ => (fo ρ).bind fun o ρ1 => match res ρ1 o with
  | some (.str x) => (fa ρ1).bind fun a ρ2 => match res ρ2 a with
      | some y => match h (.str x) [y] with
        | some z => .ok (.d z) ρ2
        | none => .bad
      | _ => .bad
  | _ => .bad
theorem d_m1 {T : String} {to te : TE} {fo fa : Rho → R AV} {r : V → List V → Hp → VK → Prop} {h : Pd → List Pd → Option Pd} (hr : RMt Z.K T r h) (ho : DE Z W to fo) (ha : DE Z W te fa) : DE Z W (tM1 r to te) (fM1 h fo fa) := by
  intro Hf H O σ ρ s Q p
  refine ho.bind s p fun o ρ1 x Hf1 H1 s1 g1 k1 rx p1 => ?_
  cases e0 : res ρ1 o with
  | none => rw [e0] at p1; exact p1.elim
  | some d0 =>
    rw [e0] at p1
    cases d0 with
    | str z =>
      simp only at p1
      obtain rfl := (res_ok s1 rx e0).str
      refine ⟨⟨z, rfl⟩, ?_⟩
      refine ha.bind s1 p1 fun a ρ2 v Hf2 H2 s2 g2 k2 ra p2 => ?_
      cases e2 : res ρ2 a with
      | none => rw [e2] at p2; exact p2.elim
      | some y =>
        rw [e2] at p2
        simp only at p2
        cases ez : h (.str z) [y] with
        | none => rw [ez] at p2; exact p2.elim
        | some q =>
          rw [ez] at p2
          exact hr Hf2 H2 _ _ _ _ q s2.ex (.inl (.str z)) (.cons (res_ok s2 ra e2) .nil) ez Q fun v Hf' H' g rv => p2 Hf' H' (s2.grow g) g.gr Kp.refl v rv
    | _ => exact p1.elim
def fM0 (h : Pd → List Pd → Option Pd) (fo : Rho → R AV) : Rho → R AV := fun ρ => (fo ρ).bind fun o ρ1 => match res ρ1 o with
  | some (.str x) => match h (.str x) [] with
        | some z => .ok (.d z) ρ1
        | none => .bad
  | _ => .bad
end
end Dt
namespace Dt
open PySem PySem.Spec L2 Evl
variable [WD]
def RDw (wk : Bool) (K : PySem.W.Frag) (H : Hp) (v : V) (d : Pd) : Prop := RD K H v d ∨ (wk = true ∧ ∃ a xs ds, v = .ref a ∧ d = .tuple ds ∧ SqT K H a xs ∧ RDs K H xs ds)
def Dlv (wk : Bool) (K : PySem.W.Frag) (J : It) (Hf : Hp) (xs : List Pd) : Prop := ∀ (i : Nat) (Hf' H' : Hp), Ex Hf Hf' → Ex Hf' H' →
  (i < xs.length → J.go i H') ∧ (xs.length ≤ i → J.stop i H') ∧
  ∀ v H'', J.yld i H' v H'' → ∀ x, xs[i]? = some x → ∃ Hf'', Pg Hf' H' Hf'' H'' ∧ RDw wk K Hf'' v x
def DI (wk : Bool) (Z : Zx) (W : WX) (t : TI) (f : Rho → R (List Pd)) : Prop := DJ Z W (fun _ Hf _ _ J xs => Dlv wk Z.K J Hf xs) t f
theorem dlv_list {K : PySem.W.Frag} {Hf : Hp} {a : Addr} {vs : List V} {xs : List Pd} (h : SqL K Hf a vs) (r : RDs K Hf vs xs) : Dlv false K (Itl K a) Hf xs := by
  intro i Hf' H' e1 e2
  have hs : SqL K H' a vs := ex_l (e1.trans e2) h
  refine ⟨fun hi => ?_, fun hi => ⟨vs, hs, by rw [r.length]; exact hi⟩, fun v H'' hy x hx => ?_⟩
  · obtain ⟨v, e, _⟩ := r.get (List.getElem?_eq_getElem hi)
    exact ⟨vs, v, hs, e⟩
  · obtain ⟨rfl, hy⟩ := hy
    have e := hy vs hs
    obtain ⟨v', e', rv⟩ := r.get hx
    rw [e] at e'; cases e'
    exact ⟨Hf', Pg.refl e2, (.inl (rv.mono e1))⟩
theorem dlv_tup {K : PySem.W.Frag} {Hf : Hp} {a : Addr} {vs : List V} {xs : List Pd} (h : SqT K Hf a vs) (r : RDs K Hf vs xs) : Dlv false K (Itt K a) Hf xs := by
  intro i Hf' H' e1 e2
  have hs : SqT K H' a vs := ex_t (e1.trans e2) h
  refine ⟨fun hi => ?_, fun hi => ⟨vs, hs, by rw [r.length]; exact hi⟩, fun v H'' hy x hx => ?_⟩
  · obtain ⟨v, e, _⟩ := r.get (List.getElem?_eq_getElem hi)
    exact ⟨vs, v, hs, e⟩
  · obtain ⟨rfl, hy⟩ := hy
    have e := hy vs hs
    obtain ⟨v', e', rv⟩ := r.get hx
    rw [e] at e'; cases e'
    exact ⟨Hf', Pg.refl e2, (.inl (rv.mono e1))⟩
def chars (x : Str) : List Pd := x.cps.toList.map fun c => .str ⟨#[c]⟩
theorem dlv_str {K : PySem.W.Frag} {Hf : Hp} {x : Str} : Dlv false K (Its x) Hf (chars x) := by
  intro i Hf' H' e1 e2
  have hl : (chars x).length = x.cps.size := by simp [chars]
  refine ⟨fun hi => ?_, fun hi => ?_, fun v H'' hy y hx => ?_⟩
  · show i < x.cps.size
    omega
  · show x.cps.size ≤ i
    omega
  · obtain ⟨rfl, c, ec, rfl⟩ := hy
    refine ⟨Hf', Pg.refl e2, ?_⟩
    unfold chars at hx
    rw [List.getElem?_map, Array.getElem?_toList, ec] at hx
    cases hx
    exact .inl (.str _)
def nums (lo : Int) (n : Nat) : List Pd := (List.range n).map fun (k : Nat) => .int (lo + (k : Int))
theorem dlv_rng {K : PySem.W.Frag} {Hf : Hp} {lo : Int} {n : Nat} : Dlv false K (Itr lo n) Hf (nums lo n) := by
  intro i Hf' H' e1 e2
  have hl : (nums lo n).length = n := by simp [nums]
  refine ⟨fun hi => ?_, fun hi => ?_, fun v H'' hy y hx => ?_⟩
  · show i < n
    omega
  · show n ≤ i
    omega
  · obtain ⟨rfl, rfl⟩ := hy
    refine ⟨Hf', Pg.refl e2, ?_⟩
    unfold nums at hx
    have hi : i < n := by
      rcases Nat.lt_or_ge i n with h | h
      · exact h
      · rw [List.getElem?_eq_none (by simpa using h)] at hx; cases hx
    rw [List.getElem?_map, List.getElem?_range hi] at hx
    cases hx
    exact .inl (.int _)
theorem dlv_zip {K : PySem.W.Frag} {Hf : Hp} {a b : Addr} {vs us : List V} {xs ys : List Pd} (h : SqL K Hf a vs) (r : RDs K Hf vs xs) (h2 : SqL K Hf b us) (r2 : RDs K Hf us ys) : Dlv true K (Itz K a b) Hf ((xs.zip ys).map fun p => .tuple [p.1, p.2]) := by
  intro i Hf' H' e1 e2
  have hs : SqL K H' a vs := ex_l (e1.trans e2) h
  have hs2 : SqL K H' b us := ex_l (e1.trans e2) h2
  have l1 := r.length
  have l2 := r2.length
  refine ⟨fun hi => ?_, fun hi => ?_, fun v H'' hy x hx => ?_⟩
  · rw [List.length_map, List.length_zip] at hi
    obtain ⟨v, e, _⟩ := r.get (List.getElem?_eq_getElem (show i < xs.length by omega))
    obtain ⟨u, e', _⟩ := r2.get (List.getElem?_eq_getElem (show i < ys.length by omega))
    exact ⟨vs, us, v, u, hs, hs2, e, e'⟩
  · rw [List.length_map, List.length_zip] at hi
    refine ⟨vs, us, hs, hs2, ?_⟩
    omega
  · obtain ⟨T, x1, x2, rfl, nT, rfl, f1, f2⟩ := hy
    have q1 := f1 vs hs
    have q2 := f2 us hs2
    obtain ⟨d1, g1, rd1⟩ := r.get' q1
    obtain ⟨d2, g2, rd2⟩ := r2.get' q2
    have : x = .tuple [d1, d2] := by
      rw [List.getElem?_map] at hx
      have z : (xs.zip ys)[i]? = some (d1, d2) := by
        rw [List.getElem?_zip_eq_some]; exact ⟨g1, g2⟩
      rw [z] at hx
      cases hx
      rfl
    subst this
    have g := Pg.new (o := .tup [x1, x2]) e2 nT
    exact ⟨_, g, .inr ⟨rfl, _, _, _, rfl, rfl, st_of upd_same, .cons ((rd1.mono e1).mono g.ef) (.cons ((rd2.mono e1).mono g.ef) .nil)⟩⟩
section
variable {Z : Zx} {W : WX}
def fItL (f : Rho → R AV) : Rho → R (List Pd) := fun ρ => (f ρ).bind fun a ρ1 => match a with
  | .d (.list xs) => .ok xs ρ1
  | _ => .bad
def fItT (f : Rho → R AV) : Rho → R (List Pd) := fun ρ => (f ρ).bind fun a ρ1 => match a with
  | .d (.tuple xs) => .ok xs ρ1
  | _ => .bad
def fItS (f : Rho → R AV) : Rho → R (List Pd) := fun ρ => (f ρ).bind fun a ρ1 => match a with
  | .d (.str x) => .ok (chars x) ρ1
  | _ => .bad
theorem i_list {t : TE} {f : Rho → R AV} (h : DE Z W t f) : DI false Z W (iList Z.K t) (fItL f) := by
  intro Hf H O σ ρ s Q p
  refine h.bind s p fun a ρ1 x Hf1 H1 s1 g1 k1 rx p1 => ?_
  match a, rx, p1 with
  | .d (.list xs), rx, p1 =>
    cases rx with
    | lst h1 h2 => exact ⟨_, rfl, ⟨_, ex_l s1.ex h1⟩, p1 Hf1 H1 s1 Gr.refl Kp.refl _ (dlv_list h1 h2)⟩
  | .d .none, _, p1 => exact p1.elim
  | .d (.bool _), _, p1 => exact p1.elim
  | .d (.int _), _, p1 => exact p1.elim
  | .d (.str _), _, p1 => exact p1.elim
  | .d (.tuple _), _, p1 => exact p1.elim
  | .d (.dict _), _, p1 => exact p1.elim
  | .sl _, _, p1 => exact p1.elim
theorem i_tup {t : TE} {f : Rho → R AV} (h : DE Z W t f) : DI false Z W (iTup Z.K t) (fItT f) := by
  intro Hf H O σ ρ s Q p
  refine h.bind s p fun a ρ1 x Hf1 H1 s1 g1 k1 rx p1 => ?_
  match a, rx, p1 with
  | .d (.tuple xs), rx, p1 =>
    cases rx with
    | tup h1 h2 => exact ⟨_, rfl, ⟨_, ex_t s1.ex h1.sq⟩, p1 Hf1 H1 s1 Gr.refl Kp.refl _ (dlv_tup h1.sq h2)⟩
  | .d .none, _, p1 => exact p1.elim
  | .d (.bool _), _, p1 => exact p1.elim
  | .d (.int _), _, p1 => exact p1.elim
  | .d (.str _), _, p1 => exact p1.elim
  | .d (.list _), _, p1 => exact p1.elim
  | .d (.dict _), _, p1 => exact p1.elim
  | .sl _, _, p1 => exact p1.elim
theorem i_str {t : TE} {f : Rho → R AV} (h : DE Z W t f) : DI false Z W (iStr t) (fItS f) := by
  intro Hf H O σ ρ s Q p
  refine h.bind s p fun a ρ1 x Hf1 H1 s1 g1 k1 rx p1 => ?_
  match a, rx, p1 with
  | .d (.str z), rx, p1 =>
    cases rx with
    | str _ => exact ⟨_, rfl, p1 Hf1 H1 s1 Gr.refl Kp.refl _ dlv_str⟩
  | .d .none, _, p1 => exact p1.elim
  | .d (.bool _), _, p1 => exact p1.elim
  | .d (.int _), _, p1 => exact p1.elim
  | .d (.tuple _), _, p1 => exact p1.elim
  | .d (.list _), _, p1 => exact p1.elim
  | .d (.dict _), _, p1 => exact p1.elim
  | .sl _, _, p1 => exact p1.elim
def fRng1 (f : Rho → R (List AV)) : Rho → R (List Pd) := fun ρ => (f ρ).bind fun as ρ1 => match as with
  | [.d (.int j)] => if -(2 ^ 62) ≤ j ∧ j < 2 ^ 62 then .ok (nums 0 j.toNat) ρ1 else .bad
  | _ => .bad
theorem i_rng1 {t : TA} {f : Rho → R (List AV)} (h : DA Z W t f) : DI false Z W (iRng1 t) (fRng1 f) := by
  intro Hf H O σ ρ s Q p
  refine h.bind s p fun as ρ1 vs Hf1 H1 s1 g1 k1 rs p1 => ?_
  split at p1
  · rename_i j
    cases rs with
    | cons r1 r2 =>
      cases r2
      cases r1 with
      | int _ =>
        by_cases hj : -(2 ^ 62) ≤ j ∧ j < 2 ^ 62
        · rw [if_pos hj] at p1
          exact ⟨j, rfl, hj.1, hj.2, p1 Hf1 H1 s1 Gr.refl Kp.refl _ dlv_rng⟩
        · rw [if_neg hj] at p1; exact p1.elim
  · exact p1.elim
def fRng2 (f : Rho → R (List AV)) : Rho → R (List Pd) := fun ρ => (f ρ).bind fun as ρ1 => match as with
  | [.d (.int i), .d (.int j)] => if (-(2 ^ 62) ≤ i ∧ i < 2 ^ 62) ∧ -(2 ^ 62) ≤ j ∧ j < 2 ^ 62 then .ok (nums i (j - i).toNat) ρ1 else .bad
  | _ => .bad
theorem i_rng2 {t : TA} {f : Rho → R (List AV)} (h : DA Z W t f) : DI false Z W (iRng2 t) (fRng2 f) := by
  intro Hf H O σ ρ s Q p
  refine h.bind s p fun as ρ1 vs Hf1 H1 s1 g1 k1 rs p1 => ?_
  split at p1
  · rename_i i j
    cases rs with
    | cons r1 r2 =>
      cases r2 with
      | cons r2 r3 =>
        cases r3
        cases r1 with
        | int _ =>
          cases r2 with
          | int _ =>
            by_cases hj : (-(2 ^ 62) ≤ i ∧ i < 2 ^ 62) ∧ -(2 ^ 62) ≤ j ∧ j < 2 ^ 62
            · rw [if_pos hj] at p1
              exact ⟨i, j, rfl, ⟨hj.1.1, hj.1.2, hj.2.1, hj.2.2⟩, p1 Hf1 H1 s1 Gr.refl Kp.refl _ dlv_rng⟩
            · rw [if_neg hj] at p1; exact p1.elim
  · exact p1.elim
end
def Off (js : List Nat) (σ σ' : L2.St) : Prop := σ'.length = σ.length ∧ ∀ i, i ∉ js → σ'[i]? = σ[i]?
omit [WD] in
theorem Off.refl {js : List Nat} {σ : L2.St} : Off js σ σ := ⟨rfl, fun _ _ => rfl⟩
omit [WD] in
theorem Off.trans {js : List Nat} {a b c : L2.St} (h : Off js a b) (g : Off js b c) : Off js a c := ⟨g.1.trans h.1, fun i hi => (g.2 i hi).trans (h.2 i hi)⟩
def Kq (ρ ρ' : Rho) (σ σ' : L2.St) : Prop := (∀ (i : Nat) xs, ρ[i]? = some (.own true xs) → (∃ ys, ρ'[i]? = some (.own true ys)) ∧ σ'[i]? = σ[i]?) ∧
  ∀ (i : Nat) o, ρ[i]? = some (.m true o) → (∃ u, ρ'[i]? = some (.m true u)) ∧ σ'[i]? = σ[i]?
omit [WD] in
theorem Kq.refl {ρ : Rho} {σ : L2.St} : Kq ρ ρ σ σ := ⟨fun _ xs h => ⟨⟨xs, h⟩, rfl⟩, fun _ xs h => ⟨⟨xs, h⟩, rfl⟩⟩
omit [WD] in
theorem Kq.trans {a b c : Rho} {x y z : L2.St} (h : Kq a b x y) (g : Kq b c y z) : Kq a c x z := ⟨fun i xs e => by
  obtain ⟨⟨ys, q⟩, e1⟩ := h.1 i xs e
  obtain ⟨r, e2⟩ := g.1 i ys q
  exact ⟨r, e2.trans e1⟩, fun i xs e => by
  obtain ⟨⟨ys, q⟩, e1⟩ := h.2 i xs e
  obtain ⟨r, e2⟩ := g.2 i ys q
  exact ⟨r, e2.trans e1⟩⟩
omit [WD] in
theorem Kp.kq {ρ ρ' : Rho} {σ : L2.St} (h : Kp ρ ρ') : Kq ρ ρ' σ σ := ⟨fun i xs e => ⟨h.1 i xs e, rfl⟩, fun i xs e => ⟨h.2 i xs e, rfl⟩⟩
omit [WD] in
theorem Kq.kp {ρ ρ' : Rho} {σ σ' : L2.St} (h : Kq ρ ρ' σ σ') : Kp ρ ρ' := ⟨fun i xs e => (h.1 i xs e).1, fun i xs e => (h.2 i xs e).1⟩
omit [WD] in
theorem Kq.setS {ρ : Rho} {σ : L2.St} {i : Nat} {s : Sl} {u : Option V} (n1 : ∀ xs, ρ[i]? ≠ some (.own true xs)) (n2 : ∀ o, ρ[i]? ≠ some (.m true o)) : Kq ρ (ρ.set i s) σ (σ.set i u) := by
  refine ⟨fun j xs e => ?_, fun j xs e => ?_⟩
  · have z : i ≠ j := fun z => n1 xs (by rw [z]; exact e)
    rw [List.getElem?_set_ne z, List.getElem?_set_ne z]
    exact ⟨⟨xs, e⟩, rfl⟩
  · have z : i ≠ j := fun z => n2 xs (by rw [z]; exact e)
    rw [List.getElem?_set_ne z, List.getElem?_set_ne z]
    exact ⟨⟨xs, e⟩, rfl⟩
def DG (wk : Bool) (K : PySem.W.Frag) (js : List Nat) (g : TG) (h : Pd → Rho → Option Rho) : Prop := ∀ Hf H O σ ρ v x ρ', SR K Hf H O σ ρ → RDw wk K Hf v x → h x ρ = some ρ' →
  ∀ Q : L2.St → Hp → Prop, (∀ σ', SR K Hf H O σ' ρ' → Off js σ σ' → (∀ i, i ∉ js → ρ'[i]? = ρ[i]?) → Kq ρ ρ' σ σ' → Q σ' H) → g v σ H Q
def DGs (K : PySem.W.Frag) (js : List Nat) (g : TGs) (h : List Pd → Rho → Option Rho) : Prop := ∀ Hf H O σ ρ vs xs ρ', SR K Hf H O σ ρ → RDs K Hf vs xs → h xs ρ = some ρ' →
  ∀ Q : L2.St → Hp → Prop, (∀ σ', SR K Hf H O σ' ρ' → Off js σ σ' → (∀ i, i ∉ js → ρ'[i]? = ρ[i]?) → Kq ρ ρ' σ σ' → Q σ' H) → g vs σ H Q
def put (i : Nat) (x : Pd) (ρ : Rho) : Option Rho := match ρ[i]? with
  | some (.own true _) => none
  | some (.m true _) => none
  | some _ => some (ρ.set i (.d x))
  | none => none
theorem SR.putD {K : PySem.W.Frag} {Hf H : Hp} {O : Addr → Prop} {σ : L2.St} {ρ : Rho} (s : SR K Hf H O σ ρ) {i : Nat} {v : V} {x : Pd} (hi : i < ρ.length) (r : RD K Hf v x) : SR K Hf H O (σ.set i (some v)) (ρ.set i (.d x)) where
  ex := s.ex
  otr := s.otr
  len := by simp [s.len]
  slot := fun j y h => by
    by_cases z : i = j
    · subst z
      rw [List.getElem?_set_self hi] at h
      cases h
      exact ⟨v, List.getElem?_set_self (by rw [s.len]; exact hi), r⟩
    · rw [List.getElem?_set_ne z] at h ⊢; exact s.slot j y h
  own := fun j b xs h => by
    by_cases z : i = j
    · subst z
      rw [List.getElem?_set_self hi] at h
      cases h
    · rw [List.getElem?_set_ne z] at h ⊢; exact s.own j b xs h
  dis := fun j k b c xs ys l h1 h2 h3 h4 => by
    by_cases z : i = j
    · subst z
      rw [List.getElem?_set_self hi] at h1
      cases h1
    · by_cases z2 : i = k
      · subst z2
        rw [List.getElem?_set_self hi] at h2
        cases h2
      · rw [List.getElem?_set_ne z] at h1 h3
        rw [List.getElem?_set_ne z2] at h2 h4
        exact s.dis j k b c xs ys l h1 h2 h3 h4
  exc := fun j e h => by
    by_cases z : i = j
    · subst z
      rw [List.getElem?_set_self hi] at h
      cases h
    · rw [List.getElem?_set_ne z] at h ⊢; exact s.exc j e h
  mr := s.mr.setS i _ (fun _ _ z => by cases z) fun _ _ z => by cases z
omit [WD] in
theorem put_some {i : Nat} {x : Pd} {ρ ρ' : Rho} (h : put i x ρ = some ρ') : i < ρ.length ∧ ρ' = ρ.set i (.d x) ∧ (∀ xs, ρ[i]? ≠ some (.own true xs)) ∧ ∀ o, ρ[i]? ≠ some (.m true o) := by
  unfold put at h
  cases e : ρ[i]? with
  | none => rw [e] at h; cases h
  | some z =>
    rw [e] at h
    have hi := (List.getElem?_eq_some_iff.mp e).1
    cases z with
    | no => cases h; exact ⟨hi, rfl, (fun _ q => by cases q), fun _ q => by cases q⟩
    | x _ => cases h; exact ⟨hi, rfl, (fun _ q => by cases q), fun _ q => by cases q⟩
    | m b _ =>
      cases b with
      | true => cases h
      | false => cases h; exact ⟨hi, rfl, (fun _ q => by cases q), fun _ q => by cases q⟩
    | d y => cases h; exact ⟨hi, rfl, (fun _ q => by cases q), fun _ q => by cases q⟩
    | own b xs =>
      cases b with
      | true => cases h
      | false => cases h; exact ⟨hi, rfl, (fun _ q => by cases q), fun _ q => by cases q⟩
section
variable {K : PySem.W.Frag}
theorem g_name (i : Nat) : DG false K [i] (gName i) (put i) := by
  intro Hf H O σ ρ v x ρ' s r0 h Q q
  have r : RD K Hf v x := r0.elim id fun z => by cases z.1
  obtain ⟨hi, rfl, ni⟩ := put_some h
  refine q _ (s.putD hi r) ⟨by simp, fun j hj => ?_⟩ (fun j hj => ?_) (Kq.setS ni.1 ni.2)
  · rw [List.getElem?_set_ne (fun z => hj (by simp [z]))]
  · rw [List.getElem?_set_ne (fun z => hj (by simp [z]))]
def putNil : List Pd → Rho → Option Rho
  | [], ρ => some ρ
  | _ :: _, _ => none
def putCons (h : Pd → Rho → Option Rho) (k : List Pd → Rho → Option Rho) : List Pd → Rho → Option Rho
  | [], _ => none
  | x :: xs, ρ => match h x ρ with
    | some ρ1 => k xs ρ1
    | none => none
theorem gs_nil : DGs K [] gNil putNil := by
  intro Hf H O σ ρ vs xs ρ' s r h Q q
  cases r with
  | nil => cases h; exact ⟨rfl, q σ s Off.refl (fun _ _ => rfl) Kq.refl⟩
  | cons _ _ => cases h
theorem gs_cons {js ks : List Nat} {g : TG} {gs : TGs} {h : Pd → Rho → Option Rho} {k : List Pd → Rho → Option Rho} {wk : Bool} (hg : DG wk K js g h) (hs : DGs K ks gs k) : DGs K (js ++ ks) (gCons g gs) (putCons h k) := by
  intro Hf H O σ ρ vs xs ρ' s r e Q q
  cases r with
  | nil => cases e
  | cons r1 r2 =>
    rename_i v vs x xs
    simp only [putCons] at e
    cases e1 : h x ρ with
    | none => rw [e1] at e; cases e
    | some ρ1 =>
      rw [e1] at e
      refine ⟨_, _, rfl, hg Hf H O σ ρ _ _ ρ1 s (.inl r1) e1 _ fun σ1 s1 o1 z1 k1 => ?_⟩
      refine hs Hf H O σ1 ρ1 _ _ ρ' s1 r2 e Q fun σ2 s2 o2 z2 k2 => q σ2 s2 ⟨o2.1.trans o1.1, fun i hi => ?_⟩ (fun i hi => ?_) (k1.trans k2)
      · exact (o2.2 i fun z => hi (List.mem_append_right _ z)).trans (o1.2 i fun z => hi (List.mem_append_left _ z))
      · exact (z2 i fun z => hi (List.mem_append_right _ z)).trans (z1 i fun z => hi (List.mem_append_left _ z))
def putTup (n : Nat) (k : List Pd → Rho → Option Rho) : Pd → Rho → Option Rho
  | .tuple xs, ρ => if xs.length = n then k xs ρ else none
  | _, _ => none
theorem g_tup {n : Nat} {js : List Nat} {gs : TGs} {k : List Pd → Rho → Option Rho} {wk : Bool} (hs : DGs K js gs k) : DG wk K js (gTup K n gs) (putTup n k) := by
  intro Hf H O σ ρ v x ρ' s r0 e Q q
  rcases r0 with r | ⟨_, a, vs, xs, rfl, rfl, h1, h2⟩
  case inr =>
    simp only [putTup] at e
    by_cases hn : xs.length = n
    · rw [if_pos hn] at e
      exact ⟨_, _, rfl, ex_t s.ex h1, by rw [h2.length]; exact hn, hs Hf H O σ ρ _ _ ρ' s h2 e Q q⟩
    · rw [if_neg hn] at e; cases e
  cases r with
  | tup h1 h2 =>
    rename_i a vs xs
    simp only [putTup] at e
    by_cases hn : xs.length = n
    · rw [if_pos hn] at e
      exact ⟨_, _, rfl, ex_t s.ex h1.sq, by rw [h2.length]; exact hn, hs Hf H O σ ρ _ _ ρ' s h2 e Q q⟩
    · rw [if_neg hn] at e; cases e
  | _ => cases e
end
end Dt
namespace Dt
open PySem PySem.Spec L2 Evl
variable [WD]
def wipeR (ρ : Rho) : List Nat → Rho
  | [] => ρ
  | v :: vs => (wipeR ρ vs).set v .no
omit [WD] in
theorem wipeR_length (ρ : Rho) : ∀ vs : List Nat, (wipeR ρ vs).length = ρ.length
  | [] => rfl
  | v :: vs => by unfold wipeR; rw [List.length_set, wipeR_length ρ vs]
omit [WD] in
theorem wipeR_in {ρ : Rho} {i : Nat} : ∀ {vs : List Nat}, i ∈ vs → (wipeR ρ vs)[i]? = some .no ∨ (wipeR ρ vs)[i]? = none
  | v :: vs, h => by
    unfold wipeR
    by_cases z : v = i
    · subst z
      by_cases hv : v < (wipeR ρ vs).length
      · exact .inl (List.getElem?_set_self hv)
      · exact .inr (List.getElem?_eq_none (by simpa using hv))
    · rw [List.getElem?_set_ne z]
      exact wipeR_in ((List.mem_cons.mp h).resolve_left fun e => z e.symm)
omit [WD] in
theorem wipeR_out {ρ : Rho} {i : Nat} : ∀ {vs : List Nat}, i ∉ vs → (wipeR ρ vs)[i]? = ρ[i]?
  | [], _ => rfl
  | v :: vs, h => by
    unfold wipeR
    rw [List.getElem?_set_ne (fun z => h (by simp [z])), wipeR_out fun z => h (List.mem_cons_of_mem _ z)]
theorem wipe_out {σ : L2.St} {i : Nat} : ∀ {vs : List Nat}, i ∉ vs → (wipe σ vs)[i]? = σ[i]?
  | [], _ => rfl
  | v :: vs, h => by
    unfold wipe
    rw [List.getElem?_set_ne (fun z => h (by simp [z])), wipe_out fun z => h (List.mem_cons_of_mem _ z)]
theorem wipe_in {σ : L2.St} {i : Nat} : ∀ {vs : List Nat}, i ∈ vs → (wipe σ vs)[i]? = if i < σ.length then some none else none
  | v :: vs, h => by
    unfold wipe
    by_cases z : v = i
    · subst z
      by_cases hv : v < σ.length
      · rw [List.getElem?_set_self (by rw [wipe_length]; exact hv), if_pos hv]
      · rw [if_neg hv, List.getElem?_eq_none (by rw [List.length_set, wipe_length]; omega)]
    · rw [List.getElem?_set_ne z]
      exact wipe_in ((List.mem_cons.mp h).resolve_left fun e => z e.symm)
theorem wipe_off {js vs : List Nat} {a b : L2.St} (h : Off js (wipe a vs) b) (hj : ∀ j ∈ js, j ∈ vs) : wipe b vs = wipe a vs := by
  apply List.ext_getElem?
  intro i
  have hl : b.length = a.length := h.1.trans (wipe_length a vs)
  by_cases hi : i ∈ vs
  · rw [wipe_in hi, wipe_in hi, hl]
  · rw [wipe_out hi, h.2 i fun z => hi (hj i z)]
section
variable {K : PySem.W.Frag} {Hf H : Hp} {O : Addr → Prop} {σ : L2.St} {ρ : Rho} {vs : List Nat}
theorem SR.wipe (s : SR K Hf H O σ ρ) : SR K Hf H O (wipe σ vs) (wipeR ρ vs) where
  ex := s.ex
  otr := s.otr
  len := by rw [wipe_length, wipeR_length, s.len]
  slot := fun i x h => by
    by_cases hi : i ∈ vs
    · rcases wipeR_in (ρ := ρ) hi with z | z <;> rw [z] at h <;> cases h
    · rw [wipeR_out hi] at h; rw [wipe_out hi]; exact s.slot i x h
  own := fun i b x h => by
    by_cases hi : i ∈ vs
    · rcases wipeR_in (ρ := ρ) hi with z | z <;> rw [z] at h <;> cases h
    · rw [wipeR_out hi] at h; rw [wipe_out hi]; exact s.own i b x h
  dis := fun i j b c x y l h1 h2 h3 h4 => by
    by_cases hi : i ∈ vs
    · rcases wipeR_in (ρ := ρ) hi with z | z <;> rw [z] at h1 <;> cases h1
    · by_cases hj : j ∈ vs
      · rcases wipeR_in (ρ := ρ) hj with z | z <;> rw [z] at h2 <;> cases h2
      · rw [wipeR_out hi] at h1; rw [wipe_out hi] at h3; rw [wipeR_out hj] at h2; rw [wipe_out hj] at h4
        exact s.dis i j b c x y l h1 h2 h3 h4
  exc := fun i e h => by
    by_cases hi : i ∈ vs
    · rcases wipeR_in (ρ := ρ) hi with z | z <;> rw [z] at h <;> cases h
    · rw [wipeR_out hi] at h; rw [wipe_out hi]; exact s.exc i e h
  mr := s.mr.slots (fun i b o h => by
    by_cases hi : i ∈ vs
    · rcases wipeR_in (ρ := ρ) hi with z | z <;> rw [z] at h <;> cases h
    · rw [wipeR_out hi] at h; rw [wipe_out hi]; exact ⟨h, rfl⟩) fun i b o h => by
    by_cases hi : i ∈ vs
    · rcases wipeR_in (ρ := ρ) hi with z | z <;> rw [z] at h <;> cases h
    · rw [wipeR_out hi] at h; rw [wipe_out hi]; exact ⟨⟨b, o, h⟩, rfl⟩
theorem SR.unwipe (s : SR K Hf H O (L2.wipe σ vs) (wipeR ρ vs)) : SR K Hf H O σ (wipeR ρ vs) where
  ex := s.ex
  otr := s.otr
  len := by rw [← s.len, wipe_length]
  slot := fun i x h => by
    by_cases hi : i ∈ vs
    · rcases wipeR_in (ρ := ρ) hi with z | z <;> rw [z] at h <;> cases h
    · have := s.slot i x h; rw [wipe_out hi] at this; exact this
  own := fun i b x h => by
    by_cases hi : i ∈ vs
    · rcases wipeR_in (ρ := ρ) hi with z | z <;> rw [z] at h <;> cases h
    · have := s.own i b x h; rw [wipe_out hi] at this; exact this
  dis := fun i j b c x y l h1 h2 h3 h4 => by
    by_cases hi : i ∈ vs
    · rcases wipeR_in (ρ := ρ) hi with z | z <;> rw [z] at h1 <;> cases h1
    · by_cases hj : j ∈ vs
      · rcases wipeR_in (ρ := ρ) hj with z | z <;> rw [z] at h2 <;> cases h2
      · exact s.dis i j b c x y l h1 h2 (by rw [wipe_out hi]; exact h3) (by rw [wipe_out hj]; exact h4)
  exc := fun i e h => by
    by_cases hi : i ∈ vs
    · rcases wipeR_in (ρ := ρ) hi with z | z <;> rw [z] at h <;> cases h
    · have := s.exc i e h; rw [wipe_out hi] at this; exact this
  mr := s.mr.slots (fun i b o h => by
    by_cases hi : i ∈ vs
    · rcases wipeR_in (ρ := ρ) hi with z | z <;> rw [z] at h <;> cases h
    · rw [wipe_out hi]; exact ⟨h, rfl⟩) fun i b o h => by
    by_cases hi : i ∈ vs
    · rcases wipeR_in (ρ := ρ) hi with z | z <;> rw [z] at h <;> cases h
    · rw [wipe_out hi]; exact ⟨⟨b, o, h⟩, rfl⟩
theorem SR.other (s : SR K Hf H O σ ρ) {a : Addr} {o o' : HO} (h : H a = some o) (hf : Hf a = none) (no : ¬ O a) : SR K Hf (upd H a o') O σ ρ where
  ex := fun b u q => by rw [upd_ne (ne_of_none q hf)]; exact s.ex b u q
  otr := fun b hb => by
    have z : b ≠ a := fun z => no (by rw [← z]; exact hb)
    rw [upd_ne z]; exact s.otr b hb
  len := s.len
  slot := s.slot
  own := fun i b xs q => by
    obtain ⟨l, vs, h1, h2, h3, h4⟩ := s.own i b xs q
    have z : l ≠ a := fun z => no (by rw [← z]; exact h2)
    exact ⟨l, vs, h1, h2, by rw [upd_ne z]; exact h3, h4⟩
  dis := s.dis
  exc := s.exc
  mr := s.mr.heap (Ex.refl _) (fun b u hb _ q => by
    have z : b ≠ a := fun z => no (by rw [← z]; exact hb)
    rw [upd_ne z]; exact q) fun _ h _ => h
end
theorem Gr.upd {O : Addr → Prop} {Hf H Hf1 H1 : Hp} (g : Gr O Hf H Hf1 H1) {a : Addr} {o : HO} (h : H a = none) : Gr O Hf H Hf1 (L2.upd H1 a o) where
  ex := g.ex
  fm := fun b u q n => by rw [upd_ne (ne_of_none q h)]; exact g.fm b u q n
  tr := fun b u q => by rw [upd_ne (ne_of_none q h)]; exact g.tr b u q
  nw := g.nw
theorem Gr.stays {O : Addr → Prop} {Hf H Hf1 H1 : Hp} (g : Gr O Hf H Hf1 H1) {a : Addr} {o : HO} (h : H a = some o) (hf : Hf a = none) (no : ¬ O a) : Hf1 a = none := by
  cases e : Hf1 a with
  | none => rfl
  | some u =>
    rcases g.nw a u e with z | z | z
    · rw [hf] at z; cases z
    · rw [h] at z; cases z
    · exact (no z).elim
def lcRun (h : Pd → Rho → Option Rho) (ft : Rho → R Bool) (fe : Rho → R AV) (vs : List Nat) : List Pd → List Pd → Rho → R (List Pd)
  | [], acc, ρ => .ok acc ρ
  | x :: xs, acc, ρ => match h x ρ with
    | none => .bad
    | some ρ1 => match ft ρ1 with
      | .ok true ρ2 => match fe ρ2 with
        | .ok (.d y) ρ3 => if acc.length < sizeLine then lcRun h ft fe vs xs (acc ++ [y]) (wipeR ρ3 vs) else .bad
        | _ => .bad
      | .ok false ρ2 => lcRun h ft fe vs xs acc (wipeR ρ2 vs)
      | _ => .bad
def okW (ρ : Rho) (vs : List Nat) : Bool := vs.all fun v => match ρ[v]? with
  | some (.own _ _) => false
  | some (.m _ _) => false
  | _ => true
omit [WD] in
theorem okW_kp {ρ ρ1 : Rho} {vs : List Nat} (h : okW ρ vs = true) (k : Kp ρ ρ1) : Kp ρ (wipeR ρ1 vs) := ⟨fun i xs e => by
  have hi : i ∉ vs := fun z => by
    have q := List.all_eq_true.mp h i z
    rw [e] at q; cases q
  rw [wipeR_out hi]
  exact k.1 i xs e, fun i xs e => by
  have hi : i ∉ vs := fun z => by
    have q := List.all_eq_true.mp h i z
    rw [e] at q; cases q
  rw [wipeR_out hi]
  exact k.2 i xs e⟩
def fLc (fi : Rho → R (List Pd)) (h : Pd → Rho → Option Rho) (ft : Rho → R Bool) (fe : Rho → R AV) (vs : List Nat) : Rho → R (List Pd) := fun ρ =>
  if okW ρ vs = true then (fi ρ).bind fun xs ρ1 => lcRun h ft fe vs xs [] (wipeR ρ1 vs) else .bad
def W0 : WX := fun _ _ _ _ => False
theorem l_lc {Z : Zx} {W : WX} {wi : TI} {g : TG} {tt : TT} {te : TE} {vs js : List Nat} {fi : Rho → R (List Pd)} {h : Pd → Rho → Option Rho} {ft : Rho → R Bool} {fe : Rho → R AV} {wk : Bool} (hi : DI wk Z W wi fi) (hg : DG wk Z.K js g h) (hj : ∀ j ∈ js, j ∈ vs)
    (ht : DT Z W0 tt ft) (he : DE Z W0 te fe) : DL Z W (tLc wi g tt te vs) (fLc fi h ft fe vs) := by
  intro Hf H O σ ρ s Q p
  unfold fLc at p
  by_cases hw : okW ρ vs = true
  case neg => rw [if_neg hw] at p; exact p.elim
  rw [if_pos hw] at p
  refine hi Hf H O σ ρ s _ ?_
  cases e : fi ρ with
  | bad => rw [e] at p; exact p
  | ex x ρ1 => rw [e] at p; exact p
  | ok xs ρ1 =>
    rw [e] at p
    intro Hf1 H1 s1 g1 k1 J dlv D nD
    have nD0 : H D = none := g1.gone nD
    have noD : ¬ O D := fun z => by
      obtain ⟨⟨o, q⟩, _⟩ := s.otr D z
      rw [nD0] at q; cases q
    have p : PostG Z W O σ ρ Hf H (fun a _ Hf' H' => ∀ v, RL Z.K H Hf' H' v a → Q v H') (lcRun h ft fe vs xs [] (wipeR ρ1 vs)) := p
    refine ⟨fun i m H' => m + i = xs.length ∧ ∃ Hf' ρ' acc us, SR Z.K Hf' H' O (wipe σ vs) ρ' ∧ SR Z.K Hf' H' O σ ρ' ∧ Ex Hf1 Hf' ∧ Gr O Hf H Hf' H' ∧ Kp ρ ρ' ∧ H' D = some (.lst us) ∧ Hf' D = none ∧ RDs Z.K Hf' us acc ∧
      PostG Z W O σ ρ Hf H (fun a _ Hf' H' => ∀ v, RL Z.K H Hf' H' v a → Q v H') (lcRun h ft fe vs (xs.drop i) acc ρ'), ⟨xs.length, by omega, Hf1, wipeR ρ1 vs, [], [], ?_, ?_, Ex.refl _, g1.upd nD0, okW_kp hw k1, upd_same, fresh_back s1.ex nD, .nil, by simpa using p⟩, ?_⟩
    · exact (s1.grow (Pg.lay s1.ex nD)).wipe
    · exact (s1.grow (Pg.lay s1.ex nD)).wipe.unwipe
    · rintro i m H' ⟨em, Hf', ρ', acc, us, sw, so, e1, g', k', hD, fD, rd, p'⟩
      obtain ⟨d1, d2, d3⟩ := dlv i Hf' H' e1 sw.ex
      by_cases hlt : i < xs.length
      case neg =>
        refine .inl ⟨d2 (by omega), ?_⟩
        rw [List.drop_eq_nil_of_le (by omega)] at p'
        exact p' Hf' H' so g' k' _ ⟨D, us, rfl, nD0, hD, fD, rd⟩
      refine .inr ⟨d1 hlt, fun H'' => ∃ Hf' ρ' acc us, SR Z.K Hf' H'' O (wipe σ vs) ρ' ∧ SR Z.K Hf' H'' O σ ρ' ∧ Ex Hf1 Hf' ∧ Gr O Hf H Hf' H'' ∧ Kp ρ ρ' ∧ H'' D = some (.lst us) ∧ Hf' D = none ∧ RDs Z.K Hf' us acc ∧
        PostG Z W O σ ρ Hf H (fun a _ Hf' H' => ∀ v, RL Z.K H Hf' H' v a → Q v H') (lcRun h ft fe vs (xs.drop (i + 1)) acc ρ'), fun H'' q => ⟨m - 1, by omega, by omega, q⟩, fun v H2 hy => ?_⟩
      obtain ⟨Hf2, pg, rv⟩ := d3 v H2 hy _ (List.getElem?_eq_getElem hlt)
      rw [List.drop_eq_getElem_cons hlt] at p'
      simp only [lcRun] at p'
      cases eh : h xs[i] ρ' with
      | none => rw [eh] at p'; exact p'.elim
      | some ρ2 =>
        rw [eh] at p'
        simp only at p'
        have hD2 : H2 D = some (.lst us) := pg.eh _ _ hD
        have fD2 : Hf2 D = none := (pg.gr (O := O)).stays hD fD noD
        refine hg Hf2 H2 O (wipe σ vs) ρ' v _ ρ2 (sw.grow pg) rv eh _ fun σ2 s2 off oth _ => ⟨wipe_off off hj, ?_⟩
        have ew : wipe σ2 vs = wipe σ vs := wipe_off off hj
        have kp2 : Kp ρ ρ2 := ⟨fun j ys ej => by
          have nj : j ∉ vs := fun z => by
            have q := List.all_eq_true.mp hw j z
            rw [ej] at q; cases q
          rw [oth j fun z => nj (hj j z)]
          exact k'.1 j ys ej, fun j ys ej => by
          have nj : j ∉ vs := fun z => by
            have q := List.all_eq_true.mp hw j z
            rw [ej] at q; cases q
          rw [oth j fun z => nj (hj j z)]
          exact k'.2 j ys ej⟩
        refine ht Hf2 H2 O σ2 ρ2 s2 _ ?_
        cases et : ft ρ2 with
        | bad => rw [et] at p'; exact p'.elim
        | ex x ρ3 => rw [et] at p'; exact p'.elim
        | ok b ρ3 =>
          rw [et] at p'
          intro Hf3 H3 s3 g3 k3 b' rb
          subst rb
          cases b' with
          | false =>
            have sw3 : SR Z.K Hf3 H3 O (wipe σ vs) (wipeR ρ3 vs) := ew ▸ s3.wipe
            refine ⟨Hf3, wipeR ρ3 vs, acc, us, sw3, sw3.unwipe, e1.trans (pg.ef.trans g3.ex), g'.trans (pg.gr.trans g3), okW_kp hw (kp2.trans k3), g3.fm _ _ hD2 noD, g3.stays hD2 fD2 noD, rd.mono (pg.ef.trans g3.ex), p'⟩
          | true =>
            simp only at p'
            refine he Hf3 H3 O σ2 ρ3 s3 _ ?_
            cases ee : fe ρ3 with
            | bad => rw [ee] at p'; exact p'.elim
            | ex x ρ4 => rw [ee] at p'; exact p'.elim
            | ok a ρ4 =>
              rw [ee] at p'
              cases a with
              | sl j => exact p'.elim
              | d y =>
                simp only at p'
                intro Hf4 H4 s4 g4 k4 w rw4
                by_cases hz : acc.length < sizeLine
                case neg => rw [if_neg hz] at p'; exact p'.elim
                rw [if_pos hz] at p'
                have gg := (pg.gr (O := O)).trans (g3.trans g4)
                have hD4 : H4 D = some (.lst us) := gg.fm _ _ hD noD
                have fD4 : Hf4 D = none := gg.stays hD fD noD
                have sw4 : SR Z.K Hf4 H4 O (wipe σ vs) (wipeR ρ4 vs) := ew ▸ s4.wipe
                refine ⟨us, hD4, by rw [rd.length]; exact hz, Hf4, wipeR ρ4 vs, acc ++ [y], us ++ [w], sw4.other hD4 fD4 noD, sw4.unwipe.other hD4 fD4 noD, e1.trans gg.ex, (g'.trans gg).upd nD0, okW_kp hw (kp2.trans (k3.trans k4)), upd_same, fD4, (rd.mono gg.ex).append (.cons rw4 .nil), p'⟩
end Dt
namespace Dt
open PySem PySem.Spec L2 Evl
variable [WD]
inductive Fl where
  | nx | bk | ct
  | rt (x : Pd)
  | rl (xs : List Pd)
  | rm (o : Mo)
def EndS (Z : Zx) (En : Ends) (H0 Hf H : Hp) (O : Addr → Prop) (σ : L2.St) : Fl → Prop
  | .nx => En.nx σ H
  | .bk => En.bk σ H
  | .ct => En.ct σ H
  | .rt x => ∀ v, RD Z.K Hf v x → En.rt v H
  | .rl xs => ∀ l vs, H0 l = none → H l = some (.lst vs) → Hf l = none → ¬ O l → RDs Z.K Hf vs xs → En.rt (.ref l) H
  | .rm o => ∀ v fp, RM Z.K Hf H v o fp → fp.Nodup → (∀ a ∈ fp, (H0 a = none ∨ O a) ∧ Hf a = none ∧ ∃ u, H a = some u) → En.rt v H
def PostS (Z : Zx) (W : WX) (O : Addr → Prop) (σ : L2.St) (ρ : Rho) (Hf H : Hp) (En : Ends) : R Fl → Prop
  | .bad => False
  | .ok fl ρ' => ∀ Hf' H' O' σ', SR Z.K Hf' H' O' σ' ρ' → Gr O Hf H Hf' H' → Orl O H O' → Kq ρ ρ' σ σ' → EndS Z En H Hf' H' O' σ' fl
  | .ex e ρ' => ∀ cls d Hf' H' O' σ', SR Z.K Hf' H' O' σ' ρ' → Gr O Hf H Hf' H' → Orl O H O' → Kq ρ ρ' σ σ' → XR Z Hf' H' cls d e → W cls d σ' H'
theorem PostS.shift {Z : Zx} {W : WX} {O O1 : Addr → Prop} {σ σ1 : L2.St} {ρ ρ1 : Rho} {Hf H Hf1 H1 : Hp} {En : Ends} {r : R Fl} (p : PostS Z W O σ ρ Hf H En r) (g : Gr O Hf H Hf1 H1) (o : Orl O H O1) (k : Kq ρ ρ1 σ σ1) :
    PostS Z W O1 σ1 ρ1 Hf1 H1 En r := by
  cases r with
  | bad => exact p
  | ex e ρ' => exact fun cls d Hf' H' O' σ' s' g' o' k' x => p cls d Hf' H' O' σ' s' (g.transO g' o) (o.trans o' g) (k.trans k') x
  | ok fl ρ' =>
    intro Hf' H' O' σ' s' g' o' k'
    have q := p Hf' H' O' σ' s' (g.transO g' o) (o.trans o' g) (k.trans k')
    cases fl with
    | nx => exact q
    | bk => exact q
    | ct => exact q
    | rt x => exact q
    | rl xs => exact fun l vs h0 h1 h2 h3 h4 => q l vs (g.gone h0) h1 h2 h3 h4
    | rm o => exact fun v fp h0 h1 h2 => q v fp h0 h1 fun a ha => ⟨(h2 a ha).1.imp g.gone id, (h2 a ha).2⟩
def DS (Z : Zx) (W : WX) (t : TS) (f : Rho → R Fl) : Prop := ∀ Hf H O σ ρ, SR Z.K Hf H O σ ρ → ∀ En, PostS Z W O σ ρ Hf H En (f ρ) → t En σ H
theorem DJ.bindS {C A : Type} {Z : Zx} {W : WX} {Rel : Hp → Hp → Hp → L2.St → C → A → Prop} {t : L2.St → Hp → (C → Hp → Prop) → Prop} {f : Rho → R A} (h : DJ Z W Rel t f) {Hf H : Hp} {O : Addr → Prop} {σ : L2.St} {ρ : Rho} (s : SR Z.K Hf H O σ ρ)
    {En : Ends} {k : A → Rho → R Fl} (p : PostS Z W O σ ρ Hf H En ((f ρ).bind k)) {Q : C → Hp → Prop}
    (c : ∀ a ρ1 v Hf1 H1, SR Z.K Hf1 H1 O σ ρ1 → Gr O Hf H Hf1 H1 → Kp ρ ρ1 → Rel H Hf1 H1 σ v a → PostS Z W O σ ρ Hf H En (k a ρ1) → Q v H1) : t σ H Q := by
  refine h Hf H O σ ρ s Q ?_
  cases e : f ρ with
  | bad => rw [e] at p; exact p
  | ok a ρ1 =>
    rw [e] at p
    exact fun Hf1 H1 s1 g1 k1 v rv => c a ρ1 v Hf1 H1 s1 g1 k1 rv p
  | ex x ρ1 =>
    rw [e] at p
    exact fun cls d Hf1 H1 s1 g1 k1 xr => p cls d Hf1 H1 O σ s1 g1 Orl.refl k1.kq xr
section
variable {Z : Zx} {W : WX}
def fNx : Rho → R Fl := fun ρ => .ok .nx ρ
theorem s_nx : DS Z W tNext fNx := fun Hf H O σ ρ s En p => p Hf H O σ s Gr.refl Orl.refl Kq.refl
def fSeq (f g : Rho → R Fl) : Rho → R Fl := fun ρ => match f ρ with
  | .ok .nx ρ1 => g ρ1
  | r => r
theorem s_seq {t u : TS} {f g : Rho → R Fl} (h : DS Z W t f) (k : DS Z W u g) : DS Z W (tSeq t u) (fSeq f g) := by
  intro Hf H O σ ρ s En p
  refine h Hf H O σ ρ s { En with nx := u En } ?_
  unfold fSeq at p
  cases e : f ρ with
  | bad => rw [e] at p; exact p
  | ex x ρ1 => rw [e] at p; exact p
  | ok fl ρ1 =>
    rw [e] at p
    cases fl with
    | nx => exact fun Hf1 H1 O1 σ1 s1 g1 o1 k1 => k Hf1 H1 O1 σ1 ρ1 s1 En (PostS.shift p g1 o1 k1)
    | bk => exact p
    | ct => exact p
    | rt x => exact p
    | rl xs => exact p
    | rm o => exact p
def fIfS (c : Rho → R Bool) (f g : Rho → R Fl) : Rho → R Fl := fun ρ => (c ρ).bind fun b ρ1 => if b = true then f ρ1 else g ρ1
theorem s_if {c : TT} {t u : TS} {fc : Rho → R Bool} {f g : Rho → R Fl} (hc : DT Z W c fc) (h : DS Z W t f) (k : DS Z W u g) : DS Z W (tIfS c t u) (fIfS fc f g) := by
  intro Hf H O σ ρ s En p
  refine DJ.bindS hc s p fun b ρ1 v Hf1 H1 s1 g1 k1 rv p1 => ?_
  subst rv
  cases v with
  | true => exact h Hf1 H1 O σ ρ1 s1 En (PostS.shift p1 g1 Orl.refl k1.kq)
  | false => exact k Hf1 H1 O σ ρ1 s1 En (PostS.shift p1 g1 Orl.refl k1.kq)
def fRet (f : Rho → R AV) : Rho → R Fl := fun ρ => (f ρ).bind fun a ρ1 => match a with
  | .d x => .ok (.rt x) ρ1
  | .sl _ => .bad
theorem s_ret {t : TE} {f : Rho → R AV} (h : DE Z W t f) : DS Z W (tRet t) (fRet f) := by
  intro Hf H O σ ρ s En p
  refine DJ.bindS h s p fun a ρ1 v Hf1 H1 s1 g1 k1 rv p1 => ?_
  cases a with
  | d x => exact p1 Hf1 H1 O σ s1 g1 Orl.refl k1.kq v rv
  | sl i => exact p1.elim
def fRetL (f : Rho → R (List Pd)) : Rho → R Fl := fun ρ => (f ρ).bind fun xs ρ1 => .ok (.rl xs) ρ1
theorem s_retL {t : TE} {f : Rho → R (List Pd)} (h : DL Z W t f) : DS Z W (tRet t) (fRetL f) := by
  intro Hf H O σ ρ s En p
  refine DJ.bindS h s p fun a ρ1 v Hf1 H1 s1 g1 k1 rv p1 => ?_
  obtain ⟨l, vs, rfl, h0, h1, h2, h3⟩ := rv
  refine p1 Hf1 H1 O σ s1 g1 Orl.refl k1.kq l vs h0 h1 h2 (fun z => ?_) h3
  obtain ⟨⟨o, q⟩, _⟩ := s.otr l z
  rw [h0] at q; cases q
def fRetN : Rho → R Fl := fun ρ => .ok (.rt .none) ρ
def fDrop (f : Rho → R AV) : Rho → R Fl := fun ρ => (f ρ).bind fun _ ρ1 => .ok .nx ρ1
theorem s_drop {t : TE} {f : Rho → R AV} (h : DE Z W t f) : DS Z W (tDrop t) (fDrop f) := by
  intro Hf H O σ ρ s En p
  refine DJ.bindS h s p fun a ρ1 v Hf1 H1 s1 g1 k1 rv p1 => ?_
  exact p1 Hf1 H1 O σ s1 g1 Orl.refl k1.kq
def fAsg (f : Rho → R AV) (h : Pd → Rho → Option Rho) : Rho → R Fl := fun ρ => (f ρ).bind fun a ρ1 => match a with
  | .d x => match h x ρ1 with
    | some ρ2 => .ok .nx ρ2
    | none => .bad
  | .sl _ => .bad
theorem s_asg {js : List Nat} {t : TE} {g : TG} {f : Rho → R AV} {h : Pd → Rho → Option Rho} {wk : Bool} (he : DE Z W t f) (hg : DG wk Z.K js g h) : DS Z W (tAsg t g) (fAsg f h) := by
  intro Hf H O σ ρ s En p
  refine DJ.bindS he s p fun a ρ1 v Hf1 H1 s1 g1 k1 rv p1 => ?_
  cases a with
  | sl i => exact p1.elim
  | d x =>
    simp only at p1
    cases e : h x ρ1 with
    | none => rw [e] at p1; exact p1.elim
    | some ρ2 =>
      rw [e] at p1
      exact hg Hf1 H1 O σ ρ1 v x ρ2 s1 (.inl rv) e _ fun σ' s2 _ _ k2 => p1 Hf1 H1 O σ' s2 g1 Orl.refl (Kq.trans k1.kq k2)
def putOwn (i : Nat) (xs : List Pd) (ρ : Rho) : Option Rho := match ρ[i]? with
  | some (.own true _) => none
  | some (.m true _) => none
  | some _ => some (ρ.set i (.own false xs))
  | none => none
omit [WD] in
theorem putOwn_some {i : Nat} {x : List Pd} {ρ ρ' : Rho} (h : putOwn i x ρ = some ρ') : i < ρ.length ∧ ρ' = ρ.set i (.own false x) ∧ (∀ xs, ρ[i]? ≠ some (.own true xs)) ∧ ∀ o, ρ[i]? ≠ some (.m true o) := by
  unfold putOwn at h
  cases e : ρ[i]? with
  | none => rw [e] at h; cases h
  | some z =>
    rw [e] at h
    have hi := (List.getElem?_eq_some_iff.mp e).1
    cases z with
    | no => cases h; exact ⟨hi, rfl, (fun _ q => by cases q), fun _ q => by cases q⟩
    | x _ => cases h; exact ⟨hi, rfl, (fun _ q => by cases q), fun _ q => by cases q⟩
    | m b _ =>
      cases b with
      | true => cases h
      | false => cases h; exact ⟨hi, rfl, (fun _ q => by cases q), fun _ q => by cases q⟩
    | d y => cases h; exact ⟨hi, rfl, (fun _ q => by cases q), fun _ q => by cases q⟩
    | own b xs =>
      cases b with
      | true => cases h
      | false => cases h; exact ⟨hi, rfl, (fun _ q => by cases q), fun _ q => by cases q⟩
def fSetO (f : Rho → R (List Pd)) (i : Nat) : Rho → R Fl := fun ρ => (f ρ).bind fun xs ρ1 => match putOwn i xs ρ1 with
  | some ρ2 => .ok .nx ρ2
  | none => .bad
theorem SR.putO {K : PySem.W.Frag} {Hf H : Hp} {O : Addr → Prop} {σ : L2.St} {ρ : Rho} (s : SR K Hf H O σ ρ) {i : Nat} {l : Addr} {vs : List V} {xs : List Pd} (hi : i < ρ.length) (h1 : H l = some (.lst vs)) (h2 : Hf l = none) (no : ¬ O l) (r : RDs K Hf vs xs) :
    SR K Hf H (fun a => O a ∨ a = l) (σ.set i (some (.ref l))) (ρ.set i (.own false xs)) where
  ex := s.ex
  otr := fun a h => by
    rcases h with h | h
    · exact s.otr a h
    · subst h; exact ⟨⟨_, h1⟩, h2⟩
  len := by simp [s.len]
  slot := fun j y h => by
    by_cases z : i = j
    · subst z
      rw [List.getElem?_set_self hi] at h
      cases h
    · rw [List.getElem?_set_ne z] at h ⊢; exact s.slot j y h
  own := fun j b ys h => by
    by_cases z : i = j
    · subst z
      rw [List.getElem?_set_self hi] at h
      cases h
      exact ⟨l, vs, List.getElem?_set_self (by rw [s.len]; exact hi), .inr rfl, h1, r⟩
    · rw [List.getElem?_set_ne z] at h ⊢
      obtain ⟨k, us, q1, q2, q3⟩ := s.own j b ys h
      exact ⟨k, us, q1, .inl q2, q3⟩
  dis := fun j k b c xs ys m h1 h2 h3 h4 => by
    have ne : ∀ {j : Nat} {b ys}, i ≠ j → (ρ.set i (.own false xs))[j]? = some (.own b ys) → (σ.set i (some (.ref l)))[j]? = some (some (.ref m)) → m ≠ l := fun {j b ys} z q1 q2 e => by
      rw [List.getElem?_set_ne z] at q1 q2
      obtain ⟨k, us, e1, e2, _⟩ := s.own j b ys q1
      rw [q2] at e1
      cases e1
      rw [e] at e2
      exact no e2
    by_cases z : i = j
    · by_cases z2 : i = k
      · rw [← z, ← z2]
      · subst z
        rw [List.getElem?_set_self (by rw [s.len]; exact hi)] at h3
        cases h3
        rw [List.getElem?_set_ne z2] at h2 h4
        obtain ⟨k', us, e1, e2, _⟩ := s.own k c ys h2
        rw [h4] at e1
        cases e1
        exact (no e2).elim
    · by_cases z2 : i = k
      · subst z2
        rw [List.getElem?_set_self (by rw [s.len]; exact hi)] at h4
        cases h4
        rw [List.getElem?_set_ne z] at h1 h3
        obtain ⟨k', us, e1, e2, _⟩ := s.own j b xs h1
        rw [h3] at e1
        cases e1
        exact (no e2).elim
      · rw [List.getElem?_set_ne z] at h1 h3
        rw [List.getElem?_set_ne z2] at h2 h4
        exact s.dis j k b c xs ys m h1 h2 h3 h4
  exc := fun j e h => by
    by_cases z : i = j
    · subst z
      rw [List.getElem?_set_self hi] at h
      cases h
    · rw [List.getElem?_set_ne z] at h ⊢; exact s.exc j e h
  mr := by
    obtain ⟨w, h1', h2'⟩ := s.mr
    refine ⟨fun a => if a = l then none else w a, fun j b o h => ?_, fun j b ys k h h3 => ?_⟩
    · by_cases z : i = j
      · subst z
        rw [List.getElem?_set_self hi] at h
        cases h
      · rw [List.getElem?_set_ne z] at h ⊢
        obtain ⟨v, fp, q1, q2, q3, q4⟩ := h1' j b o h
        refine ⟨v, fp, q1, q2, q3, fun a ha => ⟨.inl (q4 a ha).1, ?_⟩⟩
        show (if a = l then none else w a) = _
        rw [if_neg (fun z => no (by rw [← z]; exact (q4 a ha).1))]
        exact (q4 a ha).2
    · show (if k = l then none else w k) = none
      by_cases zk : k = l
      · rw [if_pos zk]
      · rw [if_neg zk]
        by_cases z : i = j
        · subst z
          rw [List.getElem?_set_self (by rw [s.len]; exact hi)] at h3
          cases h3
          exact (zk rfl).elim
        · rw [List.getElem?_set_ne z] at h h3
          exact h2' j b ys k h h3
theorem s_setO {i : Nat} {t : TE} {f : Rho → R (List Pd)} (he : DL Z W t f) : DS Z W (tAsg t (gName i)) (fSetO f i) := by
  intro Hf H O σ ρ s En p
  refine DJ.bindS he s p fun xs ρ1 v Hf1 H1 s1 g1 k1 rv p1 => ?_
  obtain ⟨l, vs, rfl, h0, h1, h2, h3⟩ := rv
  cases e : putOwn i xs ρ1 with
  | none => rw [e] at p1; exact p1.elim
  | some ρ2 =>
    rw [e] at p1
    obtain ⟨hi, rfl, ni⟩ := putOwn_some e
    have no : ¬ O l := fun z => by
      obtain ⟨⟨o, q⟩, _⟩ := s.otr l z
      rw [h0] at q; cases q
    exact p1 Hf1 H1 _ _ (s1.putO hi h1 h2 no h3) g1 (fun a z => z.elim .inl fun z => .inr (by rw [z]; exact h0)) (Kq.trans k1.kq (Kq.setS ni.1 ni.2))
theorem SR.chg {K : PySem.W.Frag} {Hf H : Hp} {O : Addr → Prop} {σ : L2.St} {ρ : Rho} (s : SR K Hf H O σ ρ) {i : Nat} {b : Bool} {xs ys : List Pd} {l : Addr} {vs us : List V} (e : ρ[i]? = some (.own b xs)) (hs : σ[i]? = some (some (.ref l))) (h1 : H l = some (.lst vs)) (r : RDs K Hf us ys) :
    SR K Hf (upd H l (.lst us)) O σ (ρ.set i (.own b ys)) := by
  have hi := (List.getElem?_eq_some_iff.mp e).1
  obtain ⟨l', vs', q1, q2, q3, q4⟩ := s.own i b xs e
  rw [hs] at q1
  cases q1
  have hf := (s.otr l q2).2
  refine ⟨fun a u h => ?_, fun a h => ?_, by simp [s.len], fun j y h => ?_, fun j c zs h => ?_, fun j k c d x y m a1 a2 a3 a4 => ?_, fun j e' h => ?_, ?mu⟩
  case mu =>
    refine s.mr.gen (Ex.refl _) (fun j c o h => ?_) (fun j c o h => ?_) (fun a u _ n h => ?_) fun _ h _ => h
    · by_cases z : i = j
      · subst z; rw [List.getElem?_set_self hi] at h; cases h
      · rw [List.getElem?_set_ne z] at h; exact ⟨h, rfl⟩
    · by_cases z : i = j
      · subst z; exact ⟨⟨b, xs, e⟩, rfl⟩
      · rw [List.getElem?_set_ne z] at h; exact ⟨⟨c, o, h⟩, rfl⟩
    · have z : a ≠ l := fun z => n i b xs e (by rw [z]; exact hs)
      rw [upd_ne z]; exact h
  · rw [upd_ne (ne_of_none h hf)]; exact s.ex a u h
  · refine ⟨?_, (s.otr a h).2⟩
    by_cases z : a = l
    · subst z; exact ⟨_, upd_same⟩
    · rw [upd_ne z]; exact (s.otr a h).1
  · by_cases z : i = j
    · subst z
      rw [List.getElem?_set_self hi] at h
      cases h
    · rw [List.getElem?_set_ne z] at h; exact s.slot j y h
  · by_cases z : i = j
    · subst z
      rw [List.getElem?_set_self hi] at h
      cases h
      exact ⟨l, us, hs, q2, upd_same, r⟩
    · rw [List.getElem?_set_ne z] at h
      obtain ⟨k, ws, b1, b2, b3, b4⟩ := s.own j c zs h
      have z2 : k ≠ l := fun z2 => z (s.dis i j b c xs zs l e h hs (by rw [← z2]; exact b1))
      exact ⟨k, ws, b1, b2, by rw [upd_ne z2]; exact b3, b4⟩
  · have back : ∀ {j : Nat} {c x}, (ρ.set i (.own b ys))[j]? = some (.own c x) → ∃ c x, ρ[j]? = some (.own c x) := fun {j c x} q => by
      by_cases z : i = j
      · subst z; exact ⟨b, xs, e⟩
      · rw [List.getElem?_set_ne z] at q; exact ⟨c, x, q⟩
    obtain ⟨c1, x1, a1⟩ := back a1
    obtain ⟨c2, x2, a2⟩ := back a2
    exact s.dis j k c1 c2 x1 x2 m a1 a2 a3 a4
  · by_cases z : i = j
    · subst z
      rw [List.getElem?_set_self hi] at h
      cases h
    · rw [List.getElem?_set_ne z] at h; exact s.exc j e' h
theorem Gr.chg {O : Addr → Prop} {Hf H Hf1 H1 : Hp} (g : Gr O Hf H Hf1 H1) {l : Addr} {o : HO} (ho : O l) : Gr O Hf H Hf1 (L2.upd H1 l o) where
  ex := g.ex
  fm := fun a u q n => by
    have z : a ≠ l := fun z => n (by rw [z]; exact ho)
    rw [upd_ne z]; exact g.fm a u q n
  tr := fun a u q => by
    by_cases z : a = l
    · subst z; exact ⟨_, upd_same⟩
    · rw [upd_ne z]; exact g.tr a u q
  nw := g.nw
omit [WD] in
theorem kp_chg {ρ : Rho} {i : Nat} {b : Bool} {xs ys : List Pd} (e : ρ[i]? = some (.own b xs)) : Kp ρ (ρ.set i (.own b ys)) := ⟨fun j zs q => by
  have hi := (List.getElem?_eq_some_iff.mp e).1
  by_cases z : i = j
  · subst z
    rw [e] at q
    cases q
    exact ⟨ys, List.getElem?_set_self hi⟩
  · exact ⟨zs, by rw [List.getElem?_set_ne z]; exact q⟩, fun j zs q => by
  by_cases z : i = j
  · subst z
    rw [e] at q
    cases q
  · exact ⟨zs, by rw [List.getElem?_set_ne z]; exact q⟩⟩
def fApp (i : Nat) (f : Rho → R AV) : Rho → R Fl := fun ρ => match ρ[i]? with
  | some (.own _ _) => (f ρ).bind fun a ρ1 => match a, ρ1[i]? with
    | .d y, some (.own b xs) => if xs.length < sizeLine then .ok .nx (ρ1.set i (.own b (xs ++ [y]))) else .bad
    | _, _ => .bad
  | _ => .bad
theorem s_app {i : Nat} {t : TE} {f : Rho → R AV} (he : DE Z W t f) : DS Z W (tDrop (tBM Z.K "list" rAppend (tVar i) (tCons t tNil))) (fApp i f) := by
  intro Hf H O σ ρ s En p
  unfold fApp at p
  cases e0 : ρ[i]? with
  | none => rw [e0] at p; exact p.elim
  | some z0 =>
    rw [e0] at p
    cases z0 with
    | no => exact p.elim
    | x _ => exact p.elim
    | m _ _ => exact p.elim
    | d y => exact p.elim
    | own b0 xs0 =>
      simp only at p
      obtain ⟨l, vs, h1, h2, h3, h4⟩ := s.own i b0 xs0 e0
      refine ⟨.ref l, h1, .inl ⟨rfl, vs, .inl (.inl h3)⟩, ?_⟩
      refine DJ.bindS he s p fun a ρ1 v Hf1 H1 s1 g1 k1 rv p1 => ?_
      show rAppend (.ref l) [v] H1 (fun _ H2 => En.nx σ H2)
      cases a with
      | sl j => exact p1.elim
      | d y =>
        cases e1 : ρ1[i]? with
        | none => rw [e1] at p1; exact p1.elim
        | some z1 =>
          rw [e1] at p1
          cases z1 with
          | no => exact p1.elim
          | x _ => exact p1.elim
          | m _ _ => exact p1.elim
          | d y => exact p1.elim
          | own b xs =>
            simp only at p1
            obtain ⟨l', us, q1, q2, q3, q4⟩ := s1.own i b xs e1
            rw [h1] at q1
            cases q1
            by_cases hz : xs.length < sizeLine
            · rw [if_pos hz] at p1
              exact ⟨l, us, v, rfl, rfl, q3, by rw [q4.length]; exact hz, p1 Hf1 _ O σ (s1.chg e1 h1 q3 (q4.append (.cons rv .nil))) (g1.chg q2) Orl.refl (Kq.trans k1.kq (kp_chg e1).kq)⟩
            · rw [if_neg hz] at p1; exact p1.elim
def fExt (i : Nat) (f : Rho → R (List Pd)) : Rho → R Fl := fun ρ => match ρ[i]? with
  | some (.own _ _) => (f ρ).bind fun ys ρ1 => match ρ1[i]? with
    | some (.own b xs) => if xs.length + ys.length ≤ sizeLine then .ok .nx (ρ1.set i (.own b (xs ++ ys))) else .bad
    | _ => .bad
  | _ => .bad
theorem s_ext {i : Nat} {t : TE} {f : Rho → R (List Pd)} (he : DL Z W t f) : DS Z W (tDrop (tBM Z.K "list" rExtend (tVar i) (tCons t tNil))) (fExt i f) := by
  intro Hf H O σ ρ s En p
  unfold fExt at p
  cases e0 : ρ[i]? with
  | none => rw [e0] at p; exact p.elim
  | some z0 =>
    rw [e0] at p
    cases z0 with
    | no => exact p.elim
    | x _ => exact p.elim
    | m _ _ => exact p.elim
    | d y => exact p.elim
    | own b0 xs0 =>
      simp only at p
      obtain ⟨l, vs, h1, h2, h3, h4⟩ := s.own i b0 xs0 e0
      refine ⟨.ref l, h1, .inl ⟨rfl, vs, .inl (.inl h3)⟩, ?_⟩
      refine DJ.bindS he s p fun ys ρ1 v Hf1 H1 s1 g1 k1 rv p1 => ?_
      obtain ⟨m, ws, rfl, m0, m1, m2, m3⟩ := rv
      show rExtend (.ref l) [.ref m] H1 (fun _ H2 => En.nx σ H2)
      cases e1 : ρ1[i]? with
      | none => rw [e1] at p1; exact p1.elim
      | some z1 =>
        rw [e1] at p1
        cases z1 with
        | no => exact p1.elim
        | x _ => exact p1.elim
        | m _ _ => exact p1.elim
        | d y => exact p1.elim
        | own b xs =>
          simp only at p1
          obtain ⟨l', us, q1, q2, q3, q4⟩ := s1.own i b xs e1
          rw [h1] at q1
          cases q1
          by_cases hz : xs.length + ys.length ≤ sizeLine
          · rw [if_pos hz] at p1
            exact ⟨l, m, us, ws, rfl, rfl, q3, m1, by rw [q4.length, m3.length]; exact hz, p1 Hf1 _ O σ (s1.chg e1 h1 q3 (q4.append m3)) (g1.chg q2) Orl.refl (Kq.trans k1.kq (kp_chg e1).kq)⟩
          · rw [if_neg hz] at p1; exact p1.elim
def fSetI (i : Nat) (f fk : Rho → R AV) : Rho → R Fl := fun ρ => (f ρ).bind fun a ρ1 => match a, ρ1[i]? with
  | .d y, some (.own _ _) => (fk ρ1).bind fun k ρ2 => match k, ρ2[i]? with
    | .d (.int n), some (.own b xs) => match ixN xs.length n with
      | some j => .ok .nx (ρ2.set i (.own b (xs.set j y)))
      | none => .bad
    | _, _ => .bad
  | _, _ => .bad
theorem s_setI {i : Nat} {t tk : TE} {f fk : Rho → R AV} (he : DE Z W t f) (hk : DE Z W tk fk) : DS Z W (tAsg t (gSub (tVar i) tk rSetL)) (fSetI i f fk) := by
  intro Hf H O σ ρ s En p
  refine DJ.bindS he s p fun a ρ1 v Hf1 H1 s1 g1 k1 rv p1 => ?_
  cases a with
  | sl j => exact p1.elim
  | d y =>
    cases e1 : ρ1[i]? with
    | none => rw [e1] at p1; exact p1.elim
    | some z1 =>
      rw [e1] at p1
      cases z1 with
      | no => exact p1.elim
      | x _ => exact p1.elim
      | m _ _ => exact p1.elim
      | d y => exact p1.elim
      | own b1 xs1 =>
        simp only at p1
        obtain ⟨l, vs, h1, h2, h3, h4⟩ := s1.own i b1 xs1 e1
        refine ⟨.ref l, h1, ?_⟩
        refine DJ.bindS hk s1 (PostS.shift p1 g1 Orl.refl k1.kq) fun k ρ2 kv Hf2 H2 s2 g2 k2 rk p2 => ?_
        match k, rk, p2 with
        | .d (.int n), rk, p2 =>
          cases e2 : ρ2[i]? with
          | none => rw [e2] at p2; exact p2.elim
          | some z2 =>
            rw [e2] at p2
            cases z2 with
            | no => exact p2.elim
            | x _ => exact p2.elim
            | m _ _ => exact p2.elim
            | d y => exact p2.elim
            | own b xs =>
              simp only at p2
              obtain ⟨l', us, q1, q2, q3, q4⟩ := s2.own i b xs e2
              rw [h1] at q1
              cases q1
              cases en : ixN xs.length n with
              | none => rw [en] at p2; exact p2.elim
              | some j =>
                rw [en] at p2
                cases rk
                exact ⟨l, us, n, j, rfl, rfl, q3, by rw [q4.length]; exact en, p2 Hf2 _ O σ (s2.chg e2 h1 q3 (RDs.set (RD.mono g2.ex rv) j q4)) (g2.chg q2) Orl.refl (Kq.trans k2.kq (kp_chg e2).kq)⟩
        | .d .none, _, p2 => exact p2.elim
        | .d (.bool _), _, p2 => exact p2.elim
        | .d (.str _), _, p2 => exact p2.elim
        | .d (.tuple _), _, p2 => exact p2.elim
        | .d (.list _), _, p2 => exact p2.elim
        | .d (.dict _), _, p2 => exact p2.elim
        | .sl _, _, p2 => exact p2.elim
def frz (i : Nat) (ρ : Rho) : Rho := match ρ[i]? with
  | some (.own false xs) => ρ.set i (.d (.list xs))
  | _ => ρ
theorem SR.frz {K : PySem.W.Frag} {Hf H : Hp} {O : Addr → Prop} {σ : L2.St} {ρ : Rho} (s : SR K Hf H O σ ρ) (i : Nat) : ∃ Hf' O', SR K Hf' H O' σ (Dt.frz i ρ) ∧ Gr O Hf H Hf' H ∧ Orl O H O' ∧ Kp ρ (Dt.frz i ρ) := by
  unfold Dt.frz
  split
  · rename_i xs e
    have hi := (List.getElem?_eq_some_iff.mp e).1
    obtain ⟨l, vs, h1, h2, h3, h4⟩ := s.own i false xs e
    have hf := (s.otr l h2).2
    refine ⟨upd Hf l (.lst vs), fun a => O a ∧ a ≠ l, ⟨fun a u h => ?_, fun a h => ?_, by simp [s.len], fun j y h => ?_, fun j c zs h => ?_, fun j k c d x y m a1 a2 a3 a4 => ?_, fun j e' h => ?_, ?mu⟩, ⟨Ex.new hf, fun _ _ h _ => h, fun _ o h => ⟨o, h⟩, fun a o h => ?_⟩, fun a h => .inl h.1, ⟨fun j ys q => ?_, fun j ys q => ?_⟩⟩
    case mu =>
      refine s.mr.gen (Ex.new hf) (fun j c o h => ?_) (fun j c o h => ?_) (fun a u _ n h => h) fun a h n => ⟨h, fun z => n i false xs e (by rw [z]; exact h1)⟩
      · by_cases z : i = j
        · subst z; rw [List.getElem?_set_self hi] at h; cases h
        · rw [List.getElem?_set_ne z] at h; exact ⟨h, rfl⟩
      · by_cases z : i = j
        · subst z; rw [List.getElem?_set_self hi] at h; cases h
        · rw [List.getElem?_set_ne z] at h; exact ⟨⟨c, o, h⟩, rfl⟩
    · by_cases z : a = l
      · subst z; rw [upd_same] at h; cases h; exact h3
      · rw [upd_ne z] at h; exact s.ex a u h
    · refine ⟨(s.otr a h.1).1, ?_⟩
      rw [upd_ne h.2]; exact (s.otr a h.1).2
    · by_cases z : i = j
      · subst z
        rw [List.getElem?_set_self hi] at h
        cases h
        exact ⟨_, h1, .lst (sq_of upd_same) (h4.mono (Ex.new hf))⟩
      · rw [List.getElem?_set_ne z] at h
        obtain ⟨v, q1, q2⟩ := s.slot j y h
        exact ⟨v, q1, q2.mono (Ex.new hf)⟩
    · by_cases z : i = j
      · subst z
        rw [List.getElem?_set_self hi] at h
        cases h
      · rw [List.getElem?_set_ne z] at h
        obtain ⟨k, ws, b1, b2, b3, b4⟩ := s.own j c zs h
        exact ⟨k, ws, b1, ⟨b2, fun z2 => z (s.dis i j false c xs zs l e h h1 (by rw [← z2]; exact b1))⟩, b3, b4.mono (Ex.new hf)⟩
    · by_cases z : i = j
      · subst z
        rw [List.getElem?_set_self hi] at a1
        cases a1
      · by_cases z2 : i = k
        · subst z2
          rw [List.getElem?_set_self hi] at a2
          cases a2
        · rw [List.getElem?_set_ne z] at a1
          rw [List.getElem?_set_ne z2] at a2
          exact s.dis j k c d x y m a1 a2 a3 a4
    · by_cases z : i = j
      · subst z
        rw [List.getElem?_set_self hi] at h
        cases h
      · rw [List.getElem?_set_ne z] at h
        obtain ⟨v, q1, q2⟩ := s.exc j e' h
        exact ⟨v, q1, q2.mono (Ex.new hf)⟩
    · by_cases z : a = l
      · subst z; exact .inr (.inr h2)
      · rw [upd_ne z] at h; exact .inl h
    · have z : i ≠ j := fun z => by rw [z, q] at e; cases e
      exact ⟨ys, by rw [List.getElem?_set_ne z]; exact q⟩
    · have z : i ≠ j := fun z => by rw [z, q] at e; cases e
      exact ⟨ys, by rw [List.getElem?_set_ne z]; exact q⟩
  · exact ⟨Hf, O, s, Gr.refl, Orl.refl, Kp.refl⟩
def fFrz (i : Nat) (f : Rho → R Fl) : Rho → R Fl := fun ρ => f (frz i ρ)
theorem s_frz (i : Nat) {t : TS} {f : Rho → R Fl} (h : DS Z W t f) : DS Z W t (fFrz i f) := by
  intro Hf H O σ ρ s En p
  obtain ⟨Hf', O', s', g', o', k'⟩ := s.frz i
  exact h Hf' H O' σ _ s' En (PostS.shift p g' o' k'.kq)
def forRun (h : Pd → Rho → Option Rho) (fb : Rho → R Fl) : List Pd → Rho → R Fl
  | [], ρ => .ok .nx ρ
  | x :: xs, ρ => match h x ρ with
    | none => .bad
    | some ρ1 => match fb ρ1 with
      | .ok .nx ρ2 => forRun h fb xs ρ2
      | .ok .ct ρ2 => forRun h fb xs ρ2
      | .ok .bk ρ2 => .ok .nx ρ2
      | r => r
def fFor (fi : Rho → R (List Pd)) (h : Pd → Rho → Option Rho) (fb : Rho → R Fl) : Rho → R Fl := fun ρ => (fi ρ).bind fun xs ρ1 => forRun h fb xs ρ1
theorem s_for {wi : TI} {g : TG} {tb : TS} {js : List Nat} {fi : Rho → R (List Pd)} {h : Pd → Rho → Option Rho} {fb : Rho → R Fl} {wk : Bool} (hi : DI wk Z W wi fi) (hg : DG wk Z.K js g h) (hb : DS Z W tb fb) : DS Z W (tFor wi g tb) (fFor fi h fb) := by
  intro Hf H O σ ρ s En p
  refine DJ.bindS hi s p fun xs ρ1 J Hf1 H1 s1 g1 k1 dlv p1 => ?_
  refine ⟨fun i m σ' H' => m + i = xs.length ∧ ∃ Hf' O' ρ', SR Z.K Hf' H' O' σ' ρ' ∧ Ex Hf1 Hf' ∧ Gr O Hf H Hf' H' ∧ Orl O H O' ∧ Kq ρ ρ' σ σ' ∧ PostS Z W O σ ρ Hf H En (forRun h fb (xs.drop i) ρ'),
    ⟨xs.length, by omega, Hf1, O, ρ1, s1, Ex.refl _, g1, Orl.refl, k1.kq, by simpa using p1⟩, ?_⟩
  rintro i m σ' H' ⟨em, Hf', O', ρ', s', e1, g', o', k', p'⟩
  obtain ⟨d1, d2, d3⟩ := dlv i Hf' H' e1 s'.ex
  by_cases hlt : i < xs.length
  case neg =>
    refine .inl ⟨d2 (by omega), ?_⟩
    rw [List.drop_eq_nil_of_le (by omega)] at p'
    exact p' Hf' H' O' σ' s' g' o' k'
  refine .inr ⟨d1 hlt, fun σ2 H2 => ∃ Hf' O' ρ', SR Z.K Hf' H2 O' σ2 ρ' ∧ Ex Hf1 Hf' ∧ Gr O Hf H Hf' H2 ∧ Orl O H O' ∧ Kq ρ ρ' σ σ2 ∧ PostS Z W O σ ρ Hf H En (forRun h fb (xs.drop (i + 1)) ρ'), fun σ2 H2 q => ⟨m - 1, by omega, by omega, q⟩, fun v H2 hy => ?_⟩
  obtain ⟨Hf2, pg, rv⟩ := d3 v H2 hy _ (List.getElem?_eq_getElem hlt)
  rw [List.drop_eq_getElem_cons hlt] at p'
  simp only [forRun] at p'
  cases eh : h xs[i] ρ' with
  | none => rw [eh] at p'; exact p'.elim
  | some ρ2 =>
    rw [eh] at p'
    simp only at p'
    refine hg Hf2 H2 O' σ' ρ' v _ ρ2 (s'.grow pg) rv eh _ fun σ2 s2 _ _ kq2 => ?_
    refine hb Hf2 H2 O' σ2 ρ2 s2 _ ?_
    have gA : Gr O Hf H Hf2 H2 := g'.transO pg.gr o'
    cases eb : fb ρ2 with
    | bad => rw [eb] at p'; exact p'
    | ex x ρ3 =>
      rw [eb] at p'
      exact fun cls d Hf3 H3 O3 σ3 s3 g3 o3 k3 xr => p' cls d Hf3 H3 O3 σ3 s3 (gA.transO g3 o') (o'.trans o3 gA) (k'.trans (kq2.trans k3)) xr
    | ok fl ρ3 =>
      rw [eb] at p'
      intro Hf3 H3 O3 σ3 s3 g3 o3 k3
      have gB := gA.transO g3 o'
      have oB := o'.trans o3 gA
      have kB := k'.trans (kq2.trans k3)
      cases fl with
      | nx => exact ⟨Hf3, O3, ρ3, s3, e1.trans (pg.ef.trans g3.ex), gB, oB, kB, p'⟩
      | ct => exact ⟨Hf3, O3, ρ3, s3, e1.trans (pg.ef.trans g3.ex), gB, oB, kB, p'⟩
      | bk => exact p' Hf3 H3 O3 σ3 s3 gB oB kB
      | rt x => exact p' Hf3 H3 O3 σ3 s3 gB oB kB
      | rl ys => exact fun l vs h0 h1 h2 h3 h4 => p' Hf3 H3 O3 σ3 s3 gB oB kB l vs (gA.gone h0) h1 h2 h3 h4
      | rm o => exact fun v fp h0 h1 h2 => p' Hf3 H3 O3 σ3 s3 gB oB kB v fp h0 h1 fun a ha => ⟨(h2 a ha).1.imp gA.gone id, (h2 a ha).2⟩
end
end Dt
namespace Dt
open PySem PySem.Spec L2 Evl
variable [WD]
inductive RV where
  | d (x : Pd)
  | l (xs : List Pd)
  | m (o : Mo)
def outs : Rho → Rho → Rho
  | [], _ => []
  | .own true _ :: as, z :: ρ => z :: outs as ρ
  | a :: as, _ :: ρ => a :: outs as ρ
  | a :: as, [] => a :: as
omit [WD] in
theorem outs_length : ∀ as ρ : Rho, (outs as ρ).length = as.length
  | [], _ => rfl
  | .own true _ :: as, z :: ρ => congrArg Nat.succ (outs_length as ρ)
  | .own false _ :: as, z :: ρ => congrArg Nat.succ (outs_length as ρ)
  | .no :: as, z :: ρ => congrArg Nat.succ (outs_length as ρ)
  | .d _ :: as, z :: ρ => congrArg Nat.succ (outs_length as ρ)
  | .x _ :: as, z :: ρ => congrArg Nat.succ (outs_length as ρ)
  | .m _ _ :: as, z :: ρ => congrArg Nat.succ (outs_length as ρ)
  | .own true _ :: as, [] => rfl
  | .own false _ :: as, [] => rfl
  | .no :: as, [] => rfl
  | .x _ :: as, [] => rfl
  | .m _ _ :: as, [] => rfl
  | .d _ :: as, [] => rfl
omit [WD] in
theorem outs_io : ∀ {as ρ : Rho} {i : Nat} {xs : List Pd} {z : Sl}, as[i]? = some (.own true xs) → ρ[i]? = some z → (outs as ρ)[i]? = some z
  | a :: as, y :: ρ, 0, xs, z, h, g => by
    cases h
    exact g
  | a :: as, y :: ρ, i + 1, xs, z, h, g => by
    have q := outs_io (as := as) (ρ := ρ) (i := i) h g
    cases a with
    | own b _ => cases b <;> exact q
    | no => exact q
    | x _ => exact q
    | m _ _ => exact q
    | d _ => exact q
  | [], _, _, _, _, h, _ => by simp at h
  | _ :: _, [], _, _, _, _, g => by simp at g
omit [WD] in
theorem outs_other : ∀ {as ρ : Rho} {i : Nat}, (∀ xs, as[i]? ≠ some (.own true xs)) → (outs as ρ)[i]? = as[i]?
  | [], _, _, _ => rfl
  | .own true _ :: as, [], i, _ => rfl
  | .own false _ :: as, [], i, _ => rfl
  | .no :: as, [], i, _ => rfl
  | .x _ :: as, [], i, _ => rfl
  | .m _ _ :: as, [], i, _ => rfl
  | .d _ :: as, [], i, _ => rfl
  | a :: as, y :: ρ, 0, h => by
    cases a with
    | own b xs =>
      cases b with
      | true => exact (h xs rfl).elim
      | false => rfl
    | no => rfl
    | x _ => rfl
    | m _ _ => rfl
    | d _ => rfl
  | a :: as, y :: ρ, i + 1, h => by
    have q := outs_other (as := as) (ρ := ρ) (i := i) h
    cases a with
    | own b _ => cases b <;> exact q
    | no => exact q
    | x _ => exact q
    | m _ _ => exact q
    | d _ => exact q
def endF (as : Rho) : R Fl → R RV
  | .ok (.rt x) ρ => .ok (.d x) (outs as ρ)
  | .ok (.rl xs) ρ => .ok (.l xs) (outs as ρ)
  | .ok .nx ρ => .ok (.d .none) (outs as ρ)
  | .ex e ρ => .ex e (outs as ρ)
  | _ => .bad
def gOf (n : Nat) (fb : Rho → R Fl) : Rho → R RV := fun as => endF as (fb (as ++ List.replicate (n - as.length) .no))
structure IoOk (O : Addr → Prop) (σ : L2.St) (as : Rho) : Prop where
  only : ∀ (i : Nat) b xs, as[i]? = some (.own b xs) → b = true
  nom : ∀ (i : Nat) b o, as[i]? ≠ some (.m b o)
  cov : ∀ a, O a → ∃ (i : Nat) (xs : List Pd), as[i]? = some (.own true xs) ∧ σ[i]? = some (some (.ref a))
def PostF (Z : Zx) (O : Addr → Prop) (σ : L2.St) (Hf H : Hp) (Q : VK) (E : XK) : R RV → Prop
  | .bad => False
  | .ok (.d x) as' => ∀ v Hf' H', SR Z.K Hf' H' O σ as' → Gr O Hf H Hf' H' → RD Z.K Hf' v x → Q v H'
  | .ok (.l xs) as' => ∀ v Hf' H', SR Z.K Hf' H' O σ as' → Gr O Hf H Hf' H' → RL Z.K H Hf' H' v xs → Q v H'
  | .ok (.m _) _ => False
  | .ex e as' => ∀ cls d Hf' H', SR Z.K Hf' H' O σ as' → Gr O Hf H Hf' H' → XR Z Hf' H' cls d e → E cls d H'
def spF (Z : Zx) (n : Nat) (g : Rho → R RV) : Sp := fun vs H Q E => vs.length = n ∧ ∃ Hf O as, SR Z.K Hf H O (vs.map some) as ∧ IoOk O (vs.map some) as ∧ PostF Z O (vs.map some) Hf H Q E (g as)
theorem SR.start {K : PySem.W.Frag} {Hf H : Hp} {O : Addr → Prop} {σ : L2.St} {as : Rho} (s : SR K Hf H O σ as) (n m : Nat) (e : n = m) : SR K Hf H O (σ ++ List.replicate n none) (as ++ List.replicate m .no) where
  ex := s.ex
  otr := s.otr
  len := by simp [s.len, e]
  slot := fun i x h => by
    by_cases hi : i < as.length
    · rw [List.getElem?_append_left hi] at h
      rw [List.getElem?_append_left (by rw [s.len]; exact hi)]
      exact s.slot i x h
    · rw [List.getElem?_append_right (by omega), List.getElem?_replicate] at h
      split at h <;> cases h
  own := fun i b x h => by
    by_cases hi : i < as.length
    · rw [List.getElem?_append_left hi] at h
      rw [List.getElem?_append_left (by rw [s.len]; exact hi)]
      exact s.own i b x h
    · rw [List.getElem?_append_right (by omega), List.getElem?_replicate] at h
      split at h <;> cases h
  dis := fun i j b c x y l h1 h2 h3 h4 => by
    by_cases hi : i < as.length
    · by_cases hj : j < as.length
      · rw [List.getElem?_append_left hi] at h1
        rw [List.getElem?_append_left hj] at h2
        rw [List.getElem?_append_left (by rw [s.len]; exact hi)] at h3
        rw [List.getElem?_append_left (by rw [s.len]; exact hj)] at h4
        exact s.dis i j b c x y l h1 h2 h3 h4
      · rw [List.getElem?_append_right (by omega), List.getElem?_replicate] at h2
        split at h2 <;> cases h2
    · rw [List.getElem?_append_right (by omega), List.getElem?_replicate] at h1
      split at h1 <;> cases h1
  exc := fun i e' h => by
    by_cases hi : i < as.length
    · rw [List.getElem?_append_left hi] at h
      rw [List.getElem?_append_left (by rw [s.len]; exact hi)]
      exact s.exc i e' h
    · rw [List.getElem?_append_right (by omega), List.getElem?_replicate] at h
      split at h <;> cases h
  mr := s.mr.slots (fun i b o h => by
    by_cases hi : i < as.length
    · rw [List.getElem?_append_left hi] at h
      rw [List.getElem?_append_left (by rw [s.len]; exact hi)]
      exact ⟨h, rfl⟩
    · rw [List.getElem?_append_right (by omega), List.getElem?_replicate] at h
      split at h <;> cases h) fun i b o h => by
    by_cases hi : i < as.length
    · rw [List.getElem?_append_left hi] at h
      rw [List.getElem?_append_left (by rw [s.len]; exact hi)]
      exact ⟨⟨b, o, h⟩, rfl⟩
    · rw [List.getElem?_append_right (by omega), List.getElem?_replicate] at h
      split at h <;> cases h
theorem SR.back {K : PySem.W.Frag} {Hf H Hf' H' : Hp} {O O' : Addr → Prop} {σ σ' : L2.St} {as ρ' : Rho} {n : Nat} (s : SR K Hf H O σ as) (io : IoOk O σ as) (s' : SR K Hf' H' O' σ' ρ') (g : Gr O Hf H Hf' H')
    (k : Kq (as ++ List.replicate n .no) ρ' (σ ++ List.replicate n none) σ') : SR K Hf' H' O σ (outs as ρ') := by
  have at_ : ∀ {i : Nat} {xs : List Pd}, as[i]? = some (.own true xs) → ∃ ys, ρ'[i]? = some (.own true ys) ∧ σ'[i]? = σ[i]? := fun {i xs} h => by
    have hi := (List.getElem?_eq_some_iff.mp h).1
    obtain ⟨⟨ys, q⟩, e⟩ := k.1 i xs (by rw [List.getElem?_append_left hi]; exact h)
    exact ⟨ys, q, by rw [e, List.getElem?_append_left (by rw [s.len]; exact hi)]⟩
  have own_ : ∀ {i : Nat} {b : Bool} {ys : List Pd}, (outs as ρ')[i]? = some (.own b ys) → ∃ xs, as[i]? = some (.own true xs) ∧ ρ'[i]? = some (.own b ys) := fun {i b ys} h => by
    by_cases hx : ∃ xs, as[i]? = some (.own true xs)
    · obtain ⟨xs, hx⟩ := hx
      obtain ⟨zs, q, _⟩ := at_ hx
      rw [outs_io hx q] at h
      cases h
      exact ⟨xs, hx, q⟩
    · rw [outs_other fun xs z => hx ⟨xs, z⟩] at h
      have := io.only i b ys h
      subst this
      exact (hx ⟨_, h⟩).elim
  refine ⟨s'.ex, fun a h => ?_, by rw [outs_length, s.len], fun i x h => ?_, fun i b ys h => ?_, fun i j b c x y l h1 h2 h3 h4 => ?_, fun i e' h => ?_, MR.none fun i b o h => ?_⟩
  · obtain ⟨i, xs, h1, h2⟩ := io.cov a h
    obtain ⟨ys, q1, q2⟩ := at_ h1
    obtain ⟨l, vs, e1, e2, e3, e4⟩ := s'.own i true ys q1
    rw [q2, h2] at e1
    cases e1
    exact s'.otr _ e2
  · by_cases hx : ∃ xs, as[i]? = some (.own true xs)
    · obtain ⟨xs, hx⟩ := hx
      obtain ⟨zs, q, _⟩ := at_ hx
      rw [outs_io hx q] at h
      cases h
    · rw [outs_other fun xs z => hx ⟨xs, z⟩] at h
      obtain ⟨v, q1, q2⟩ := s.slot i x h
      exact ⟨v, q1, q2.mono g.ex⟩
  · obtain ⟨xs, h1, h2⟩ := own_ h
    obtain ⟨zs, q1, q2⟩ := at_ h1
    obtain ⟨l, vs, e1, e2, e3, e4⟩ := s'.own i b ys h2
    obtain ⟨l0, vs0, d1, d2, _⟩ := s.own i true xs h1
    rw [q2, d1] at e1
    cases e1
    exact ⟨l, vs, d1, d2, e3, e4⟩
  · obtain ⟨xs, a1, a2⟩ := own_ h1
    obtain ⟨ys, b1, b2⟩ := own_ h2
    exact s.dis i j true true xs ys l a1 b1 h3 h4
  · by_cases hx : ∃ xs, as[i]? = some (.own true xs)
    · obtain ⟨xs, hx⟩ := hx
      obtain ⟨zs, q, _⟩ := at_ hx
      rw [outs_io hx q] at h
      cases h
    · rw [outs_other fun xs z => hx ⟨xs, z⟩] at h
      obtain ⟨v, q1, q2⟩ := s.exc i e' h
      exact ⟨v, q1, q2.mono g.ex⟩
  · by_cases hx : ∃ xs, as[i]? = some (.own true xs)
    · obtain ⟨xs, hx⟩ := hx
      obtain ⟨zs, q, _⟩ := at_ hx
      rw [outs_io hx q] at h
      cases h
    · rw [outs_other fun xs z => hx ⟨xs, z⟩] at h
      exact io.nom i b o h
section
variable {P : Program} {w : World} {K : PySem.W.Frag} {C : Str → Addr} {mg : Str → Option Value} {base : Heap} {x qual : Str} {params : Arguments} {body : List Stmt} {scope : Scope} {f : Addr} {fd : FuncData}
theorem fn_ok {N ps : List Str} {k : Nat} {fb : Rho → R Fl} (F : FunD K x qual params body scope [] [] f fd) (S : FnScope N ps scope)
    (hb : ∀ (cdv : Value) (A : Around) (outer : List Env) (s : Shared) (H : Hp) (E : XK), Room k (A.deeper (PyProof.Rows.envOfC qual scope s.heap.objs.size f cdv)) →
      Takes (cxOf (L2.CX P w) P w K mg base N qual scope f cdv A outer s H E) (fun cls d _ H => E cls d H) →
      PassesOwn (model P w) (A.deeper (PyProof.Rows.envOfC qual scope s.heap.objs.size f cdv)) (PyProof.Rows.envOfC qual scope s.heap.objs.size f cdv) (cxOf (L2.CX P w) P w K mg base N qual scope f cdv A outer s H E).xe →
      ∃ t, PSs (cxOf (L2.CX P w) P w K mg base N qual scope f cdv A outer s H E) body t ∧ DS ⟨K, C⟩ (fun cls d _ H => E cls d H) t fb) :
    FnOk P w K mg base (L2.CX P w) (k + 1) f fd ps (spF ⟨K, C⟩ ps.length (gOf N.length fb)) := by
  refine F.ok S (fun vs H Q E h => h.1) (fun cdv A outer s H vs Q E hr h => ?_)
  obtain ⟨hl, Hf, O, as, s0, io, p⟩ := h
  obtain ⟨t, h1, h2⟩ := hb cdv A outer s H E hr (takes_of rfl rfl rfl rfl) (passes_of (X := cxOf (L2.CX P w) P w K mg base N qual scope f cdv A outer s H E) rfl)
  refine ⟨t, h1, ?_⟩
  have hal : as.length = vs.length := by rw [← s0.len, List.length_map]
  have st : SR K Hf H O (L2.start N vs) (as ++ List.replicate (N.length - as.length) .no) := s0.start _ _ (by rw [hal])
  refine h2 Hf H O (L2.start N vs) _ st _ ?_
  unfold gOf at p
  have bk : ∀ {Hf' H' O' σ' ρ'}, SR K Hf' H' O' σ' ρ' → Gr O Hf H Hf' H' → Kq (as ++ List.replicate (N.length - as.length) .no) ρ' (L2.start N vs) σ' → SR K Hf' H' O (vs.map some) (outs as ρ') := fun {Hf' H' O' σ' ρ'} s' g' k' => s0.back io s' g' (n := N.length - as.length) (by
    unfold L2.start at k'
    rw [← hal] at k'
    exact k')
  cases e : fb (as ++ List.replicate (N.length - as.length) .no) with
  | bad => rw [e] at p; exact p
  | ex y ρ' =>
    rw [e] at p
    exact fun cls d Hf' H' O' σ' s' g' o' k' xr => p cls d Hf' H' (bk s' g' k') g' xr
  | ok fl ρ' =>
    rw [e] at p
    intro Hf' H' O' σ' s' g' o' k'
    cases fl with
    | nx => exact p .non Hf' H' (bk s' g' k') g' .non
    | bk => exact p.elim
    | ct => exact p.elim
    | rt y => exact fun v rv => p v Hf' H' (bk s' g' k') g' rv
    | rl ys => exact fun l vs h0 h1 h2 h3 h4 => p _ Hf' H' (bk s' g' k') g' ⟨l, vs, rfl, h0, h1, h2, h4⟩
    | rm o => exact p.elim
end
section
variable {Z : Zx} {W : WX}
theorem RDs.args {K : PySem.W.Frag} {Hf H : Hp} {vs : List V} {xs : List Pd} (r : RDs K Hf vs xs) (e : Ex Hf H) : SR K Hf H (fun _ => False) (vs.map some) (xs.map Sl.d) where
  ex := e
  otr := fun a h => h.elim
  len := by simp [r.length]
  slot := fun i x h => by
    rw [List.getElem?_map] at h
    cases q : xs[i]? with
    | none => rw [q] at h; cases h
    | some y =>
      rw [q] at h
      cases h
      obtain ⟨v, h1, h2⟩ := r.get q
      exact ⟨v, by rw [List.getElem?_map, h1]; rfl, h2⟩
  own := fun i b x h => by
    rw [List.getElem?_map] at h
    cases q : xs[i]? <;> rw [q] at h <;> cases h
  dis := fun i j b c x y l h1 => by
    rw [List.getElem?_map] at h1
    cases q : xs[i]? <;> rw [q] at h1 <;> cases h1
  exc := fun i e' h => by
    rw [List.getElem?_map] at h
    cases q : xs[i]? <;> rw [q] at h <;> cases h
  mr := MR.none fun i b o h => by
    rw [List.getElem?_map] at h
    cases q : xs[i]? <;> rw [q] at h <;> cases h
omit [WD] in
theorem ioArgs {xs : List Pd} {σ : L2.St} : IoOk (fun _ => False) σ (xs.map Sl.d) where
  only := fun i b x h => by
    rw [List.getElem?_map] at h
    cases q : xs[i]? <;> rw [q] at h <;> cases h
  nom := fun i b o h => by
    rw [List.getElem?_map] at h
    cases q : xs[i]? <;> rw [q] at h <;> cases h
  cov := fun a h => h.elim
theorem Gr.pg {Hf H Hf' H' : Hp} (g : Gr (fun _ => False) Hf H Hf' H') (e : Ex Hf' H') : Pg Hf H Hf' H' :=
  ⟨g.ex, fun a o h => g.fm a o h fun z => z, e, fun a o h => by rcases g.nw a o h with z | z | z; exact .inl z; exact .inr z; exact z.elim⟩
def argsD (n : Nat) (as : List AV) : Option (List Pd) := match datas as with
  | some xs => if xs.length = n then some xs else none
  | none => none
theorem argsD_ok {K : PySem.W.Frag} {Hf : Hp} {σ : L2.St} {n : Nat} {vs : List V} {as : List AV} {xs : List Pd} (h : RAs K Hf σ vs as) (e : argsD n as = some xs) : RDs K Hf vs xs ∧ vs.length = n := by
  unfold argsD at e
  cases q : datas as with
  | none => rw [q] at e; cases e
  | some ys =>
    rw [q] at e
    simp only at e
    split at e
    · rename_i hn
      cases e
      have r := datas_ok h q
      exact ⟨r, r.length.trans hn⟩
    · cases e
def kCall (g : Rho → R RV) (o : Option (List Pd)) (ρ1 : Rho) : R AV := match o with
  | some xs => match g (xs.map Sl.d) with
    | .ok (.d x) _ => .ok (.d x) ρ1
    | .ex e _ => .ex e ρ1
    | _ => .bad
  | none => .bad
def fCall (n : Nat) (g : Rho → R RV) (fa : Rho → R (List AV)) : Rho → R AV := fun ρ => (fa ρ).bind fun as ρ1 => kCall g (argsD n as) ρ1
theorem d_call {n : Nat} {g : Rho → R RV} {t : TA} {fa : Rho → R (List AV)} (ha : DA Z W t fa) : DE Z W (tCallS (spF Z n g) (WE W) t) (fCall n g fa) := by
  intro Hf H O σ ρ s Q p
  refine ha.bind s p fun as ρ1 vs Hf1 H1 s1 g1 k1 rs p1 => ?_
  unfold kCall at p1
  cases ed : argsD n as with
  | none => rw [ed] at p1; exact p1.elim
  | some xs =>
    rw [ed] at p1
    simp only at p1
    obtain ⟨r, hl⟩ := argsD_ok rs ed
    refine ⟨hl, Hf1, fun _ => False, xs.map Sl.d, r.args s1.ex, ioArgs, ?_⟩
    cases eg : g (xs.map Sl.d) with
    | bad => rw [eg] at p1; exact p1.elim
    | ex y as' =>
      rw [eg] at p1
      intro cls d Hf' H' s' g' xr
      have pg := g'.pg s'.ex
      exact p1 cls d Hf' H' (s1.grow pg) pg.gr Kp.refl xr
    | ok rv as' =>
      rw [eg] at p1
      cases rv with
      | l ys => exact p1.elim
      | m ys => exact p1.elim
      | d y =>
        intro v Hf' H' s' g' rd
        have pg := g'.pg s'.ex
        exact p1 Hf' H' (s1.grow pg) pg.gr Kp.refl v rd
def kCallL (g : Rho → R RV) (o : Option (List Pd)) (ρ1 : Rho) : R (List Pd) := match o with
  | some xs => match g (xs.map Sl.d) with
    | .ok (.l x) _ => .ok x ρ1
    | .ex e _ => .ex e ρ1
    | _ => .bad
  | none => .bad
def fCallL (n : Nat) (g : Rho → R RV) (fa : Rho → R (List AV)) : Rho → R (List Pd) := fun ρ => (fa ρ).bind fun as ρ1 => kCallL g (argsD n as) ρ1
theorem l_call {n : Nat} {g : Rho → R RV} {t : TA} {fa : Rho → R (List AV)} (ha : DA Z W t fa) : DL Z W (tCallS (spF Z n g) (WE W) t) (fCallL n g fa) := by
  intro Hf H O σ ρ s Q p
  refine ha.bind s p fun as ρ1 vs Hf1 H1 s1 g1 k1 rs p1 => ?_
  unfold kCallL at p1
  cases ed : argsD n as with
  | none => rw [ed] at p1; exact p1.elim
  | some xs =>
    rw [ed] at p1
    simp only at p1
    obtain ⟨r, hl⟩ := argsD_ok rs ed
    refine ⟨hl, Hf1, fun _ => False, xs.map Sl.d, r.args s1.ex, ioArgs, ?_⟩
    cases eg : g (xs.map Sl.d) with
    | bad => rw [eg] at p1; exact p1.elim
    | ex y as' =>
      rw [eg] at p1
      intro cls d Hf' H' s' g' xr
      have pg := g'.pg s'.ex
      exact p1 cls d Hf' H' (s1.grow pg) pg.gr Kp.refl xr
    | ok rv as' =>
      rw [eg] at p1
      cases rv with
      | d y => exact p1.elim
      | m ys => exact p1.elim
      | l ys =>
        intro v Hf' H' s' g' rd
        have pg := g'.pg s'.ex
        obtain ⟨l, us, rfl, h0, h1, h2, h3⟩ := rd
        exact p1 Hf' H' (s1.grow pg) pg.gr Kp.refl _ ⟨l, us, rfl, g1.gone h0, h1, h2, h3⟩
theorem SR.argsP {K : PySem.W.Frag} {Hf H : Hp} {O : Addr → Prop} {σ : L2.St} {ρ : Rho} (s : SR K Hf H O σ ρ) {i : Nat} {b : Bool} {ps : List Pd} (e : ρ[i]? = some (.own b ps)) {l : Addr} (hl : σ[i]? = some (some (.ref l))) {vs : List V} {xs : List Pd} (r : RDs K Hf vs xs) :
    SR K Hf H (fun a => a = l) ((V.ref l :: vs).map some) (.own true ps :: xs.map Sl.d) := by
  obtain ⟨l', us, h1, h2, h3, h4⟩ := s.own i b ps e
  rw [hl] at h1
  cases h1
  have ra := r.args s.ex
  refine ⟨s.ex, fun a h => ?_, by simp [r.length], fun j x h => ?_, fun j c x h => ?_, fun j k c d x y m a1 a2 _ _ => ?_, fun j e' h => ?_, MR.none fun j c o h => ?mu⟩
  case mu =>
    cases j with
    | zero => cases h
    | succ j =>
      have h : (xs.map Sl.d)[j]? = some (.m c o) := h
      rw [List.getElem?_map] at h
      cases q : xs[j]? <;> rw [q] at h <;> cases h
  · subst h
    exact ⟨⟨_, h3⟩, (s.otr _ h2).2⟩
  · cases j with
    | zero => cases h
    | succ j => exact ra.slot j x h
  · cases j with
    | zero => cases h; exact ⟨l, us, rfl, rfl, h3, h4⟩
    | succ j => obtain ⟨_, _, _, z, _⟩ := ra.own j c x h; exact z.elim
  · cases j with
    | succ j => obtain ⟨_, _, _, z, _⟩ := ra.own j c x a1; exact z.elim
    | zero =>
      cases k with
      | zero => rfl
      | succ k => obtain ⟨_, _, _, z, _⟩ := ra.own k d y a2; exact z.elim
  · cases j with
    | zero => cases h
    | succ j => exact ra.exc j e' h
theorem ioArgsP {ps xs : List Pd} {l : Addr} {vs : List V} : IoOk (fun a => a = l) ((V.ref l :: vs).map some) (.own true ps :: xs.map Sl.d) where
  only := fun i b x h => by
    cases i with
    | zero => cases h; rfl
    | succ i =>
      have h : (xs.map Sl.d)[i]? = some (.own b x) := h
      rw [List.getElem?_map] at h
      cases q : xs[i]? <;> rw [q] at h <;> cases h
  nom := fun i b o h => by
    cases i with
    | zero => cases h
    | succ i =>
      have h : (xs.map Sl.d)[i]? = some (.m b o) := h
      rw [List.getElem?_map] at h
      cases q : xs[i]? <;> rw [q] at h <;> cases h
  cov := fun a h => ⟨0, ps, rfl, by rw [h]; rfl⟩
theorem SR.backP {K : PySem.W.Frag} {Hf H Hf' H' : Hp} {O : Addr → Prop} {σ : L2.St} {ρ : Rho} (s : SR K Hf H O σ ρ) {i : Nat} {b : Bool} {ps : List Pd} (e : ρ[i]? = some (.own b ps)) {l : Addr} (hl : σ[i]? = some (some (.ref l))) {vs : List V} {c : Bool} {ps' : List Pd} {as' : Rho}
    (s' : SR K Hf' H' (fun a => a = l) ((V.ref l :: vs).map some) (.own c ps' :: as')) (g : Gr (fun a => a = l) Hf H Hf' H') : SR K Hf' H' O σ (ρ.set i (.own b ps')) ∧ Gr O Hf H Hf' H' := by
  obtain ⟨l', us, h1, h2, h3, h4⟩ := s.own i b ps e
  rw [hl] at h1
  cases h1
  have hi := (List.getElem?_eq_some_iff.mp e).1
  obtain ⟨l1, us1, q1, q2, q3, q4⟩ := s'.own 0 c ps' rfl
  subst q2
  have fl := (s'.otr l1 rfl).2
  have other : ∀ a, a ≠ l1 → O a → Hf' a = none := fun a ha hO => by
    cases e1 : Hf' a with
    | none => rfl
    | some u =>
      obtain ⟨⟨o, t1⟩, t2⟩ := s.otr a hO
      rcases g.nw a u e1 with z | z | z
      · rw [t2] at z; cases z
      · rw [t1] at z; cases z
      · exact (ha z).elim
  refine ⟨⟨s'.ex, fun a h => ?_, by simp [s.len], fun j x h => ?_, fun j d x h => ?_, fun j k d d' x y m a1 a2 a3 a4 => ?_, fun j e' h => ?_, s.mr.gen g.ex (fun j c o h => ?mu1) (fun j c o h => ?mu2) (fun a u _ n h => g.fm a u h fun z => n i b ps e (by rw [z]; exact hl)) fun _ h _ => h⟩, ⟨g.ex, fun a o h n => g.fm a o h fun z => n (by rw [z]; exact h2), g.tr, fun a o h => ?_⟩⟩
  case mu1 =>
    by_cases z : i = j
    · subst z; rw [List.getElem?_set_self hi] at h; cases h
    · rw [List.getElem?_set_ne z] at h; exact ⟨h, rfl⟩
  case mu2 =>
    by_cases z : i = j
    · subst z; exact ⟨⟨b, ps, e⟩, rfl⟩
    · rw [List.getElem?_set_ne z] at h; exact ⟨⟨c, o, h⟩, rfl⟩
  · obtain ⟨⟨o, t1⟩, t2⟩ := s.otr a h
    refine ⟨g.tr a o t1, ?_⟩
    by_cases z : a = l1
    · rw [z]; exact fl
    · exact other a z h
  · by_cases z : i = j
    · subst z
      rw [List.getElem?_set_self hi] at h
      cases h
    · rw [List.getElem?_set_ne z] at h
      obtain ⟨v, t1, t2⟩ := s.slot j x h
      exact ⟨v, t1, t2.mono g.ex⟩
  · by_cases z : i = j
    · subst z
      rw [List.getElem?_set_self hi] at h
      cases h
      exact ⟨l1, us1, hl, h2, q3, q4⟩
    · rw [List.getElem?_set_ne z] at h
      obtain ⟨k, ws, b1, b2, b3, b4⟩ := s.own j d x h
      have z2 : k ≠ l1 := fun z2 => z (s.dis i j b d ps x l1 e h hl (by rw [← z2]; exact b1))
      exact ⟨k, ws, b1, b2, g.fm _ _ b3 z2, b4.mono g.ex⟩
  · have back : ∀ {j : Nat} {d x}, (ρ.set i (.own b ps'))[j]? = some (.own d x) → ∃ d x, ρ[j]? = some (.own d x) := fun {j d x} q => by
      by_cases z : i = j
      · subst z; exact ⟨b, ps, e⟩
      · rw [List.getElem?_set_ne z] at q; exact ⟨d, x, q⟩
    obtain ⟨c1, x1, a1⟩ := back a1
    obtain ⟨c2, x2, a2⟩ := back a2
    exact s.dis j k c1 c2 x1 x2 m a1 a2 a3 a4
  · by_cases z : i = j
    · subst z
      rw [List.getElem?_set_self hi] at h
      cases h
    · rw [List.getElem?_set_ne z] at h
      obtain ⟨v, t1, t2⟩ := s.exc j e' h
      exact ⟨v, t1, t2.mono g.ex⟩
  · rcases g.nw a o h with z | z | z
    · exact .inl z
    · exact .inr (.inl z)
    · exact .inr (.inr (by rw [z]; exact h2))
def kCallP (i : Nat) (g : Rho → R RV) (o : Option (List Pd)) (ρ1 : Rho) : R AV := match o, ρ1[i]? with
  | some xs, some (.own b ps) => match g (.own true ps :: xs.map Sl.d) with
    | .ok (.d x) (.own _ ps' :: _) => .ok (.d x) (ρ1.set i (.own b ps'))
    | .ex e (.own _ ps' :: _) => .ex e (ρ1.set i (.own b ps'))
    | _ => .bad
  | _, _ => .bad
def fCallP (n i : Nat) (g : Rho → R RV) (fa : Rho → R (List AV)) : Rho → R AV := fun ρ => match ρ[i]? with
  | some (.own _ _) => (fa ρ).bind fun as ρ1 => kCallP i g (argsD n as) ρ1
  | _ => .bad
theorem d_callP {n i : Nat} {g : Rho → R RV} {t : TA} {fa : Rho → R (List AV)} (ha : DA Z W t fa) : DE Z W (tCallS (spF Z (n + 1) g) (WE W) (tCons (tVar i) t)) (fCallP n i g fa) := by
  intro Hf H O σ ρ s Q p
  unfold fCallP at p
  cases e0 : ρ[i]? with
  | none => rw [e0] at p; exact p.elim
  | some z0 =>
    rw [e0] at p
    cases z0 with
    | no => exact p.elim
    | x _ => exact p.elim
    | m _ _ => exact p.elim
    | d y => exact p.elim
    | own b0 ps0 =>
      simp only at p
      obtain ⟨l, vs0, h1, h2, h3, h4⟩ := s.own i b0 ps0 e0
      refine ⟨.ref l, h1, ?_⟩
      refine ha.bind s p fun as ρ1 vs Hf1 H1 s1 g1 k1 rs p1 => ?_
      unfold kCallP at p1
      cases ed : argsD n as with
      | none => rw [ed] at p1; exact p1.elim
      | some xs =>
        cases e1 : ρ1[i]? with
        | none => rw [ed, e1] at p1; exact p1.elim
        | some z1 =>
          rw [ed, e1] at p1
          cases z1 with
          | no => exact p1.elim
          | x _ => exact p1.elim
          | m _ _ => exact p1.elim
          | d y => exact p1.elim
          | own b ps =>
            simp only at p1
            obtain ⟨r, hl⟩ := argsD_ok rs ed
            refine ⟨congrArg Nat.succ hl, Hf1, fun a => a = l, .own true ps :: xs.map Sl.d, s1.argsP e1 h1 r, ioArgsP, ?_⟩
            cases eg : g (.own true ps :: xs.map Sl.d) with
            | bad => rw [eg] at p1; exact p1.elim
            | ex y as' =>
              rw [eg] at p1
              match as', p1 with
              | [], p1 => exact p1.elim
              | .no :: _, p1 => exact p1.elim
              | .d _ :: _, p1 => exact p1.elim
              | .own c ps' :: as'', p1 =>
                intro cls d Hf' H' s' g' xr
                obtain ⟨sb, gb⟩ := s1.backP e1 h1 s' g'
                exact p1 cls d Hf' H' sb gb (kp_chg e1) xr
            | ok rv as' =>
              rw [eg] at p1
              cases rv with
              | l ys => exact p1.elim
              | m ys => exact p1.elim
              | d y =>
                match as', p1 with
                | [], p1 => exact p1.elim
                | .no :: _, p1 => exact p1.elim
                | .d _ :: _, p1 => exact p1.elim
                | .own c ps' :: as'', p1 =>
                  intro v Hf' H' s' g' rd
                  obtain ⟨sb, gb⟩ := s1.backP e1 h1 s' g'
                  exact p1 Hf' H' sb gb (kp_chg e1) v rd
def kCallPL (i : Nat) (g : Rho → R RV) (o : Option (List Pd)) (ρ1 : Rho) : R (List Pd) := match o, ρ1[i]? with
  | some xs, some (.own b ps) => match g (.own true ps :: xs.map Sl.d) with
    | .ok (.l x) (.own _ ps' :: _) => .ok x (ρ1.set i (.own b ps'))
    | .ex e (.own _ ps' :: _) => .ex e (ρ1.set i (.own b ps'))
    | _ => .bad
  | _, _ => .bad
def fCallPL (n i : Nat) (g : Rho → R RV) (fa : Rho → R (List AV)) : Rho → R (List Pd) := fun ρ => match ρ[i]? with
  | some (.own _ _) => (fa ρ).bind fun as ρ1 => kCallPL i g (argsD n as) ρ1
  | _ => .bad
theorem l_callP {n i : Nat} {g : Rho → R RV} {t : TA} {fa : Rho → R (List AV)} (ha : DA Z W t fa) : DL Z W (tCallS (spF Z (n + 1) g) (WE W) (tCons (tVar i) t)) (fCallPL n i g fa) := by
  intro Hf H O σ ρ s Q p
  unfold fCallPL at p
  cases e0 : ρ[i]? with
  | none => rw [e0] at p; exact p.elim
  | some z0 =>
    rw [e0] at p
    cases z0 with
    | no => exact p.elim
    | x _ => exact p.elim
    | m _ _ => exact p.elim
    | d y => exact p.elim
    | own b0 ps0 =>
      simp only at p
      obtain ⟨l, vs0, h1, h2, h3, h4⟩ := s.own i b0 ps0 e0
      refine ⟨.ref l, h1, ?_⟩
      refine ha.bind s p fun as ρ1 vs Hf1 H1 s1 g1 k1 rs p1 => ?_
      unfold kCallPL at p1
      cases ed : argsD n as with
      | none => rw [ed] at p1; exact p1.elim
      | some xs =>
        cases e1 : ρ1[i]? with
        | none => rw [ed, e1] at p1; exact p1.elim
        | some z1 =>
          rw [ed, e1] at p1
          cases z1 with
          | no => exact p1.elim
          | x _ => exact p1.elim
          | m _ _ => exact p1.elim
          | d y => exact p1.elim
          | own b ps =>
            simp only at p1
            obtain ⟨r, hl⟩ := argsD_ok rs ed
            refine ⟨congrArg Nat.succ hl, Hf1, fun a => a = l, .own true ps :: xs.map Sl.d, s1.argsP e1 h1 r, ioArgsP, ?_⟩
            cases eg : g (.own true ps :: xs.map Sl.d) with
            | bad => rw [eg] at p1; exact p1.elim
            | ex y as' =>
              rw [eg] at p1
              match as', p1 with
              | [], p1 => exact p1.elim
              | .no :: _, p1 => exact p1.elim
              | .d _ :: _, p1 => exact p1.elim
              | .own c ps' :: as'', p1 =>
                intro cls d Hf' H' s' g' xr
                obtain ⟨sb, gb⟩ := s1.backP e1 h1 s' g'
                exact p1 cls d Hf' H' sb gb (kp_chg e1) xr
            | ok rv as' =>
              rw [eg] at p1
              cases rv with
              | d y => exact p1.elim
              | m ys => exact p1.elim
              | l ys =>
                match as', p1 with
                | [], p1 => exact p1.elim
                | .no :: _, p1 => exact p1.elim
                | .d _ :: _, p1 => exact p1.elim
                | .own c ps' :: as'', p1 =>
                  intro v Hf' H' s' g' rd
                  obtain ⟨sb, gb⟩ := s1.backP e1 h1 s' g'
                  obtain ⟨m, us, rfl, m0, m1, m2, m3⟩ := rd
                  exact p1 Hf' H' sb gb (kp_chg e1) _ ⟨m, us, rfl, g1.gone m0, m1, m2, m3⟩
end
end Dt
namespace Dt
open PySem PySem.Spec L2 Evl
variable [WD]
def argsQ (i : Nat) : List AV → Option (List Pd × List Pd)
  | [] => none
  | .d x :: as => match argsQ i as with
    | some q => some (x :: q.1, q.2)
    | none => none
  | .sl j :: as => if j = i then (match datas as with
    | some ws => some ([], ws)
    | none => none) else none
omit [WD] in
theorem midD {us ws : List Pd} {ps : List Pd} {j : Nat} {z : Sl} (h : (us.map Sl.d ++ .own true ps :: ws.map Sl.d)[j]? = some z) : (j = us.length ∧ z = .own true ps) ∨ (j ≠ us.length ∧ ∃ x, z = .d x) := by
  by_cases h1 : j < us.length
  · rw [List.getElem?_append_left (by simpa using h1), List.getElem?_map] at h
    cases q : us[j]? with
    | none => rw [q] at h; cases h
    | some x => rw [q] at h; cases h; exact .inr ⟨by omega, x, rfl⟩
  · rw [List.getElem?_append_right (by simpa using h1)] at h
    simp only [List.length_map] at h
    cases e : j - us.length with
    | zero => rw [e] at h; cases h; exact .inl ⟨by omega, rfl⟩
    | succ k =>
      rw [e] at h
      have h : (ws.map Sl.d)[k]? = some z := h
      rw [List.getElem?_map] at h
      cases q : ws[k]? with
      | none => rw [q] at h; cases h
      | some x => rw [q] at h; cases h; exact .inr ⟨by omega, x, rfl⟩
theorem midR {K : PySem.W.Frag} {Hf : Hp} : ∀ {us ws : List Pd} {vu vw : List V} {l : Addr} {ps : List Pd} (_ : RDs K Hf vu us) (_ : RDs K Hf vw ws) {j : Nat} {x : Pd}, (us.map Sl.d ++ .own true ps :: ws.map Sl.d)[j]? = some (.d x) → ∃ v, ((vu ++ V.ref l :: vw).map some)[j]? = some (some v) ∧ RD K Hf v x
  | [], ws, _, vw, l, ps, .nil, r, 0, x, h => by cases h
  | [], ws, _, vw, l, ps, .nil, r, j + 1, x, h => by
    have ra := r.args (H := Hf) (K := K) (Ex.refl Hf)
    exact ra.slot j x h
  | u :: us, ws, _, vw, l, ps, .cons (v := v) a b, r, 0, x, h => by cases h; exact ⟨v, rfl, a⟩
  | u :: us, ws, _, vw, l, ps, .cons (v := v) a b, r, j + 1, x, h => midR (us := us) (l := l) (ps := ps) b r (j := j) (x := x) h
theorem SR.argsQ {K : PySem.W.Frag} {Hf H : Hp} {O : Addr → Prop} {σ : L2.St} {ρ : Rho} (s : SR K Hf H O σ ρ) {i : Nat} {b : Bool} {ps : List Pd} (e : ρ[i]? = some (.own b ps)) {l : Addr} (hl : σ[i]? = some (some (.ref l))) {vu vw : List V} {us ws : List Pd} (ru : RDs K Hf vu us) (rw' : RDs K Hf vw ws) :
    SR K Hf H (fun a => a = l) ((vu ++ V.ref l :: vw).map some) (us.map Sl.d ++ .own true ps :: ws.map Sl.d) := by
  obtain ⟨l', us', h1, h2, h3, h4⟩ := s.own i b ps e
  rw [hl] at h1
  cases h1
  have at_ : ((vu ++ V.ref l :: vw).map some)[us.length]? = some (some (.ref l)) := by
    rw [← ru.length]; simp
  refine ⟨s.ex, fun a h => ?_, by simp [ru.length, rw'.length], fun j x h => midR ru rw' h, fun j c x h => ?_, fun j k c d x y m a1 a2 _ _ => ?_, fun j e' h => ?_, MR.none fun j c o h => ?_⟩
  · subst h
    exact ⟨⟨_, h3⟩, (s.otr _ h2).2⟩
  · rcases midD h with ⟨z1, z2⟩ | ⟨_, y, z2⟩
    · cases z2; rw [z1]; exact ⟨l, us', at_, rfl, h3, h4⟩
    · cases z2
  · rcases midD a1 with ⟨z1, z2⟩ | ⟨_, w, z2⟩
    · rcases midD a2 with ⟨z3, z4⟩ | ⟨_, w, z4⟩
      · rw [z1, z3]
      · cases z4
    · cases z2
  · rcases midD h with ⟨z1, z2⟩ | ⟨_, y, z2⟩ <;> cases z2
  · rcases midD h with ⟨z1, z2⟩ | ⟨_, y, z2⟩ <;> cases z2
theorem SR.one {K : PySem.W.Frag} {Hf H : Hp} {l : Addr} {τ : L2.St} {as : Rho} (s : SR K Hf H (fun a => a = l) τ as) {p : Nat} (h : τ[p]? = some (some (.ref l))) {c : Bool} {ps : List Pd} (e : as[p]? = some (.own c ps)) :
    SR K Hf H (fun a => a = l) ((V.ref l :: []).map some) (.own c ps :: []) := by
  obtain ⟨l', us', h1, h2, h3, h4⟩ := s.own p c ps e
  rw [h] at h1
  cases h1
  refine ⟨s.ex, s.otr, rfl, fun j x h => ?_, fun j c x h => ?_, fun j k c d x y m a1 a2 _ _ => ?_, fun j e' h => ?_, MR.none fun j c o h => ?_⟩
  · cases j with
    | zero => cases h
    | succ j => cases h
  · cases j with
    | zero => cases h; exact ⟨l, us', rfl, rfl, h3, h4⟩
    | succ j => cases h
  · cases j with
    | zero =>
      cases k with
      | zero => rfl
      | succ k => cases a2
    | succ j => cases a1
  · cases j with
    | zero => cases h
    | succ j => cases h
  · cases j with
    | zero => cases h
    | succ j => cases h
section
variable {Z : Zx} {W : WX}
end
end Dt
namespace Dt
open PySem PySem.Spec L2 Evl
variable [WD]
open PySem.AutoSeq1 (wpAny_loadPart')
theorem str_eq_dict (b : Str) (u : Tok) (l : Addr) (c : Value) (es : Array DictEntry) (ep : Nat) (dd : Option Addr) (sl : Array (Option Value)) :
    Meets (Builtin.«str.__eq__» ⟨[.str b u, .ref l], []⟩) (fun _ R s => s.heap.get? l = some { cls := c, dict := dd, data := .dict es ep, slots := sl } ∧ R (.ok (.ret .notImplemented)) s) :=
  .of_wp fun prog w A R s h => by obtain ⟨hp, g, d, tk, os⟩ := s; obtain ⟨hl, h⟩ := h; wp_walk using wpAny_loadPart' hl, wpAny_load hl; exact ⟨_, rfl, h⟩
def rEqDS : R2 := fun x y H Q => ∃ a o kvs z, x = .ref a ∧ y = .str z ∧ H a = some (.frz o (.dK kvs)) ∧ Q (.bl false) H
theorem op_eqDS {X : Cx} (hu : X.A.units < cLine) : OpR X (compareOp .Eq) rEqDS := by
  intro pins s σ H x y v u Q I rx ry h
  obtain ⟨a, oo, kvs, z, rfl, rfl, ea, q⟩ := h
  obtain rfl : v = Value.ref a := rx
  obtain ⟨t, rfl⟩ : ∃ t, u = Value.str z t := ry
  obtain ⟨_, _, _, _, ep0, vs0, _, _, _, hm⟩ := I.frzK ea
  have da : s.heap.DictOf (mixKind X.prog X.w) a vs0 := by
    obtain ⟨o', es', ho', hx', hd', r'⟩ := hm
    exact ⟨o', es', ep0, ho', hx', hd', r'⟩
  obtain ⟨⟨cls, dd, data, sl⟩, es, ep, ho, hx, hd, _⟩ := id da
  have hd' : data = .dict es ep := hd
  subst hd'
  refine SeqAt.rc_eq_decline_or (k := false) da.typeIs (typeIs_str s z t) (by decide) F.sub_str_dict F.slot_dict_eq F.slot_str_eq_refl
    (fun _ hq => wpAny_call_entry PySem.F.slot_dict_eq da.typeIs PySem.F.entry_dict_eq ?_ (PySem.F.args_dict_eq_2 _ _))
    (fun _ hq => call_meets F.slot_str_eq_refl (typeIs_str s z t) F.entry_str_eq (F.args_str_eq_2 _ _) (str_eq_dict z t a cls es ep dd sl) ⟨ho, hq⟩)
    (fun _ hq => wpAny_of_eq (rfl : isSame (.ref a) (.str z t) = pure false) hq) (.inr hu) (fin_bl I q rfl)
  show wpAny _ _ (Builtin.Dict.dictSlotArgs "__eq__" ⟨[.ref a, .str z t], []⟩ >>= _) _ _ s
  refine wpAny_bind ?_
  unfold Builtin.Dict.dictSlotArgs
  refine wpAny_bind (wpAny_notOrdered_dict da.typeIs ?_)
  show wpAny _ _ (pure (Value.ref a, Value.str z t)) _ _ s
  refine wpAny_pure ?_
  refine wpAny_bind (wpAny_isInstance (T := "str") (typeIs_str s z t) PySem.F.sub_str_dict ?_)
  simp only [Bool.not_false, if_true]
  refine wpAny_bind (wpAny_rule ?_)
  exact wpAny_pure ⟨_, rfl, hq⟩
end Dt
namespace Dt
open PySem PySem.Spec L2 Evl
variable [WD]
def sh : Nat → Pd → Bool
  | _, .none => true
  | _, .bool _ => true
  | _, .int _ => true
  | _, .str x => PyData.strOk x
  | n + 1, .list xs => xs.all (sh n)
  | n + 1, .tuple xs => xs.all (sh n)
  | _, _ => false
omit [WD] in
theorem canLayAll_of {xs : List Pd} (h : ∀ x ∈ xs, PyData.canLay0 x = true) : PyData.canLayAll0 xs = true := by
  induction xs with
  | nil => rfl
  | cons x xs ih =>
    simp only [PyData.canLayAll0, Bool.and_eq_true]
    exact ⟨h x List.mem_cons_self, ih fun y hy => h y (List.mem_cons_of_mem _ hy)⟩
omit [WD] in
theorem depthAll_of {xs : List Pd} {n : Nat} (h : ∀ x ∈ xs, PyData.depth x ≤ n) : PyData.depthAll xs ≤ n := by
  induction xs with
  | nil => exact Nat.zero_le _
  | cons x xs ih =>
    simp only [PyData.depthAll]
    exact Nat.max_le.mpr ⟨h x List.mem_cons_self, ih fun y hy => h y (List.mem_cons_of_mem _ hy)⟩
omit [WD] in
theorem sh_ok : ∀ (n : Nat) (d : Pd), sh n d = true → PyData.canLay0 d = true ∧ PyData.depth d ≤ n
  | n, .none, _ => ⟨rfl, Nat.zero_le _⟩
  | n, .bool _, _ => ⟨rfl, Nat.zero_le _⟩
  | n, .int _, _ => ⟨rfl, Nat.zero_le _⟩
  | n, .str x, h => ⟨by cases n <;> exact h, Nat.zero_le _⟩
  | n + 1, .list xs, h => by
    have h : ∀ x ∈ xs, sh n x = true := List.all_eq_true.mp h
    refine ⟨canLayAll_of fun x hx => (sh_ok n x (h x hx)).1, ?_⟩
    have := depthAll_of fun x hx => (sh_ok n x (h x hx)).2
    show PyData.depthAll xs + 1 ≤ n + 1
    omega
  | n + 1, .tuple xs, h => by
    have h : ∀ x ∈ xs, sh n x = true := List.all_eq_true.mp h
    refine ⟨canLayAll_of fun x hx => (sh_ok n x (h x hx)).1, ?_⟩
    have := depthAll_of fun x hx => (sh_ok n x (h x hx)).2
    show PyData.depthAll xs + 1 ≤ n + 1
    omega
  | 0, .list _, h => by cases h
  | 0, .tuple _, h => by cases h
  | n, .dict _, h => by cases n <;> cases h
omit [WD] in
theorem sh_shaped {d : Pd} (h : sh 60 d = true) : SeqAt.shaped d = true := by
  obtain ⟨h1, h2⟩ := sh_ok 60 d h
  unfold SeqAt.shaped
  rw [h1, decide_eq_true (show d.depth ≤ 64 by omega)]
  rfl
mutual
theorem RD.dp {K : PySem.W.Frag} {H : Hp} : ∀ {v : V} {d : Pd}, RD K H v d → PyData.canLay0 d = true → Dp K H v d
  | _, _, .non, _ => .non
  | _, _, .bl b, _ => .bl b
  | _, _, .int i, _ => .int i
  | _, _, .str x, _ => .str x
  | _, _, .lst h hs, c => .lst h (RDs.dp hs c)
  | _, _, .tup h hs, c => .tup h.sq (RDs.dp hs c)
  | _, _, .dct _ _, c => by cases c
  | _, _, .dcn _ _, c => by cases c
theorem RDs.dp {K : PySem.W.Frag} {H : Hp} : ∀ {v : List V} {d : List Pd}, RDs K H v d → PyData.canLayAll0 d = true → DpAll K H v d
  | _, _, .nil, _ => .nil
  | _, _, .cons h hs, c => by
    simp only [PyData.canLayAll0, Bool.and_eq_true] at c
    exact .cons (RD.dp h c.1) (RDs.dp hs c.2)
end
theorem sh_dp {K : PySem.W.Frag} {Hf H : Hp} {v : V} {d : Pd} (e : Ex Hf H) (h : RX K Hf H v d) (c : sh 60 d = true) : Dp K H v d := (h.full e).dp (sh_ok 60 d c).1
section
variable {K : PySem.W.Frag}
def addD : Pd → Pd → Option Pd
  | .int i, .int j => some (.int (i + j))
  | .str a, .str b => if a.length + b.length ≤ sizeLine then some (.str (a ++ b)) else none
  | .tuple a, .tuple b => if a.length + b.length ≤ sizeLine then some (.tuple (a ++ b)) else none
  | .list a, .list b => if a.length + b.length ≤ sizeLine then some (.list (a ++ b)) else none
  | _, _ => none
def rCatS (K : PySem.W.Frag) : R2 := fun x y H Q => ∃ l b xs zs, x = .ref l ∧ y = .ref b ∧ SqL K H l xs ∧ SqL K H b zs ∧ xs.length + zs.length ≤ sizeLine ∧ ∀ p, H p = none → Q (.ref p) (upd H p (.lst (xs ++ zs)))
theorem op_catS {X : Cx} : OpR X (binaryOp .Add) (rCatS X.K) := by
  intro pins s σ H x y v u Q I rx ry h
  obtain ⟨l, b, xs, zs, rfl, rfl, hl, hb, hz, q⟩ := h
  cases rx
  cases ry
  obtain ⟨its, r, ⟨o1, n, e, c1, _, d1⟩, _⟩ := I.list hl
  obtain ⟨its2, r2, ⟨o2, n2, e2, c2, _, d2⟩, _⟩ := I.list hb
  have l1 := r.length
  have l2 := r2.length
  obtain ⟨ca, da, ta, sa⟩ := o1
  obtain ⟨cb, db, tb, sb⟩ := o2
  simp only at c1 d1 c2 d2
  subst c1 d1 c2 d2
  refine concat_meets ⟨_, e, rfl⟩ ⟨_, e2, rfl⟩ noFill_list_add seq_list_add PySem.F.slot_list_add PySem.F.entry_list_add (PySem.F.args_list_add_2 _ _) (PyProof.Rows.list_addW l b its.toArray its2.toArray n n2 da db sa sb (by simp only [List.size_toArray]; omega)) ⟨e, e2, ?_⟩
  rw [show its.toArray ++ its2.toArray = (its ++ its2).toArray by simp]
  exact ⟨.ref _, _, I.lnew (t' := s.toks) (r.append r2) (by simp only [List.length_append]; omega), rfl, q _ I.fresh⟩
abbrev rAddA (K : PySem.W.Frag) : R2 := fun x y H Q => rI0 (fun i j => .int (i + j)) x y H Q ∨ (∃ i j, x = .str i ∧ y = .str j ∧ i.length + j.length ≤ sizeLine ∧ Q (.str (i ++ j)) H) ∨ rCatN K x y H Q ∨ rCatS K x y H Q
theorem opAdd {X : Cx} : OpR X (binaryOp .Add) (rAddA X.K) := op_add.or (op_add_str.or (op_catN.or op_catS))
theorem ro_add : ROp K (rAddA K) addD := by
  intro Hf H x y dx dy z e hx hy h Q q
  unfold addD at h
  split at h
  · cases h
    exact .inl ⟨_, _, hx.int, hy.int, q _ Hf H (Pg.refl e) (.int _)⟩
  · split at h
    · cases h
      exact .inr (.inl ⟨_, _, hx.str, hy.str, by assumption, q _ Hf H (Pg.refl e) (.str _)⟩)
    · cases h
  · rename_i a b
    split at h
    · rename_i hz
      cases h
      obtain ⟨l, vs, rfl, t1, t2, r1⟩ := hx.tuple e
      obtain ⟨m, us, rfl, w1, w2, r2⟩ := hy.tuple e
      refine .inr (.inr (.inl ⟨l, m, vs, us, rfl, rfl, t2, w2, by rw [r1.length, r2.length]; exact hz, fun z => ?_, fun z1 z2 => ?_, fun z1 z2 p o hd np => ?_⟩))
      · subst z
        cases r1
        exact q _ Hf H (Pg.refl e) (.tup w1 r2)
      · subst z2
        cases r2
        exact q _ Hf H (Pg.refl e) (by rw [List.append_nil]; exact .tup t1 r1)
      · have g := Pg.new (o := .frz o (.tup (vs ++ us))) e np
        exact q _ _ _ g (.tup (sn_of upd_same hd) ((r1.append r2).mono g.ef))
    · cases h
  · rename_i a b
    split at h
    · rename_i hz
      cases h
      obtain ⟨l, vs, rfl, t2, r1⟩ := hx.list e
      obtain ⟨m, us, rfl, w2, r2⟩ := hy.list e
      refine .inr (.inr (.inr ⟨l, m, vs, us, rfl, rfl, t2, w2, by rw [r1.length, r2.length]; exact hz, fun p np => ?_⟩))
      have g := Pg.new (o := .lst (vs ++ us)) e np
      exact q _ _ _ g (.lst (sq_of upd_same) ((r1.append r2).mono g.ef))
    · cases h
  · cases h
def intD (c : Int → Int → Bool) (f : Int → Int → Pd) : Pd → Pd → Option Pd
  | .int i, .int j => if c i j = true then some (f i j) else none
  | _, _ => none
theorem ro_int {C : Int → Int → Prop} {c : Int → Int → Bool} {g : Int → Int → V} {f : Int → Int → Pd} (hc : ∀ i j, c i j = true → C i j) (hf : ∀ K H i j, RD K H (g i j) (f i j)) : ROp K (rI C g) (intD c f) := by
  intro Hf H x y dx dy z e hx hy h Q q
  unfold intD at h
  split at h
  · split at h
    · rename_i hcc
      cases h
      exact ⟨_, _, hx.int, hy.int, hc _ _ hcc, q _ Hf H (Pg.refl e) (hf _ _ _ _)⟩
    · cases h
  · cases h
theorem ro_int0 {g : Int → Int → V} {f : Int → Int → Pd} (hf : ∀ K H i j, RD K H (g i j) (f i j)) : ROp K (rI0 g) (intD (fun _ _ => true) f) := by
  intro Hf H x y dx dy z e hx hy h Q q
  unfold intD at h
  split at h
  · split at h
    · rename_i hcc
      cases h
      exact ⟨_, _, hx.int, hy.int, q _ Hf H (Pg.refl e) (hf _ _ _ _)⟩
    · cases h
  · cases h
abbrev subD := intD (fun _ _ => true) fun i j => .int (i - j)
theorem ro_sub : ROp K (rI0 fun i j => .int (i - j)) subD := ro_int0 fun _ _ _ _ => .int _
abbrev bits := Builtin.Int.intBits
def mulOk (i j : Int) : Bool := decide (bits i ≤ 64) || decide (bits j ≤ 64) || decide (bits i + bits j ≤ 134217728)
omit [WD] in
theorem mulOk_ok {i j : Int} (h : mulOk i j = true) : IntMulOk i j := by
  unfold mulOk at h
  simp only [Bool.or_eq_true, decide_eq_true_eq] at h
  rcases h with (h | h) | h
  · exact .of_left h
  · exact .of_right h
  · exact CMulX.ok (show (bits i : Int) + (bits j : Int) ≤ 134217728 by omega)
theorem op_mulG {X : Cx} : OpR X (binaryOp .Mult) (rI IntMulOk fun i j => .int (i * j)) := opI fun _ _ _ _ _ _ _ hc q => PyProof.Rows.mul_int q hc
def mulD := intD mulOk fun i j => .int (i * j)
def modD := intD (fun _ j => decide (0 < j)) fun i j => .int (i % j)
theorem ro_mod : ROp K (rI (fun _ j => 0 < j) fun i j => .int (i % j)) modD := ro_int (fun _ _ h => of_decide_eq_true h) fun _ _ _ _ => .int _
def fdivD := intD (fun _ j => decide (0 < j ∧ j.natAbs.log2 < 9000)) fun i j => .int (i / j)
theorem ro_fdiv : ROp K (rI CDivW fun i j => .int (i / j)) fdivD := ro_int (fun i j h => (of_decide_eq_true h : 0 < j ∧ j.natAbs.log2 < 9000)) fun _ _ _ _ => .int _
def powD := intD (fun i j => decide (0 ≤ j ∧ j ≤ 1000000 ∧ i.natAbs < 2 ^ 64)) fun i j => .int (i ^ j.toNat)
theorem ro_pow : ROp K (rI CPow fun i j => .int (i ^ j.toNat)) powD := ro_int (fun i j h => (of_decide_eq_true h : 0 ≤ j ∧ j ≤ 1000000 ∧ i.natAbs < 2 ^ 64)) fun _ _ _ _ => .int _
def shlD := intD (fun i j => decide (0 ≤ j ∧ j ≤ 1000000 ∧ i.natAbs < 2 ^ 64)) fun i j => .int (i * 2 ^ j.toNat)
theorem ro_shl : ROp K (rI CPow fun i j => .int (i * 2 ^ j.toNat)) shlD := ro_int (fun i j h => (of_decide_eq_true h : 0 ≤ j ∧ j ≤ 1000000 ∧ i.natAbs < 2 ^ 64)) fun _ _ _ _ => .int _
def leD := intD (fun _ _ => true) fun i j => .bool (decide (i ≤ j))
theorem ro_le : ROp K (rI0 fun i j => .bl (decide (i ≤ j))) leD := ro_int0 fun _ _ _ _ => .bl _
def gtD := intD (fun _ _ => true) fun i j => .bool (decide (j < i))
theorem ro_gt : ROp K (rI0 fun i j => .bl (decide (j < i))) gtD := ro_int0 fun _ _ _ _ => .bl _
def geD := intD (fun _ _ => true) fun i j => .bool (decide (j ≤ i))
def ltD : Pd → Pd → Option Pd
  | .int i, .int j => some (.bool (decide (i < j)))
  | .str a, .str b => some (.bool (decide (a.cps.toList < b.cps.toList)))
  | _, _ => none
abbrev rLtA : R2 := fun x y H Q => rI0 (fun i j => .bl (decide (i < j))) x y H Q ∨ ∃ i j, x = .str i ∧ y = .str j ∧ Q (.bl (decide (i.cps.toList < j.cps.toList))) H
theorem opLt {X : Cx} : OpR X (compareOp .Lt) rLtA := op_lt.or op_lt_str
theorem ro_lt : ROp K rLtA ltD := by
  intro Hf H x y dx dy z e hx hy h Q q
  unfold ltD at h
  split at h
  · cases h
    exact .inl ⟨_, _, hx.int, hy.int, q _ Hf H (Pg.refl e) (.bl _)⟩
  · cases h
    exact .inr ⟨_, _, hx.str, hy.str, q _ Hf H (Pg.refl e) (.bl _)⟩
  · cases h
def eqB : Pd → Pd → Option Bool
  | .int i, .int j => some (decide (i = j))
  | .str i, .str j => some (decide (i = j))
  | .bool i, .bool j => some (decide (i = j))
  | .none, .none => some true
  | .str _, .int _ => some false
  | .int _, .str _ => some false
  | .none, .str _ => some false
  | .str _, .none => some false
  | .none, .int _ => some false
  | .int _, .none => some false
  | d, e => if sh 60 d = true ∧ sh 60 e = true then some (PyData.eqv d e) else none
def eqD : Pd → Pd → Option Pd
  | .dict ds, .str _ => if ndB ds = true then none else some (.bool false)
  | d, e => (eqB d e).map .bool
def neD (d e : Pd) : Option Pd := (eqB d e).map fun b => .bool (!b)
abbrev rEqA (K : PySem.W.Frag) : R2 := fun x y H Q => rEq x y H Q ∨ rEqD K x y H Q ∨ rEqDS x y H Q
abbrev rNeA (K : PySem.W.Frag) : R2 := fun x y H Q => rNe x y H Q ∨ rNeD K x y H Q
theorem opEq {X : Cx} (hu : X.A.units + 64 < cLine) : OpR X (compareOp .Eq) (rEqA X.K) := op_eq.or ((op_eqD hu).or (op_eqDS (Nat.lt_of_le_of_lt (Nat.le_add_right ..) hu)))
theorem opNe {X : Cx} (hu : X.A.units + 64 < cLine) : OpR X (compareOp .NotEq) (rNeA X.K) := op_ne.or (op_neD hu)
theorem eqB_ok {Hf H : Hp} {x y : V} {dx dy : Pd} {b : Bool} (e : Ex Hf H) (hx : RX K Hf H x dx) (hy : RX K Hf H y dy) (h : eqB dx dy = some b) :
    (scal x y = true ∧ decide (x = y) = b) ∨ (Dp K H x dx ∧ Dp K H y dy ∧ SeqAt.shaped dx = true ∧ SeqAt.shaped dy = true ∧ PyData.eqv dx dy = b) := by
  unfold eqB at h
  split at h
  · cases h; obtain rfl := hx.int; obtain rfl := hy.int; exact .inl ⟨rfl, by simp⟩
  · cases h; obtain rfl := hx.str; obtain rfl := hy.str; exact .inl ⟨rfl, by simp⟩
  · cases h; obtain rfl := hx.bool; obtain rfl := hy.bool; exact .inl ⟨rfl, by simp⟩
  · cases h; obtain rfl := hx.non; obtain rfl := hy.non; exact .inl ⟨rfl, by simp⟩
  · cases h; obtain rfl := hx.str; obtain rfl := hy.int; exact .inl ⟨rfl, by simp⟩
  · cases h; obtain rfl := hx.int; obtain rfl := hy.str; exact .inl ⟨rfl, by simp⟩
  · cases h; obtain rfl := hx.non; obtain rfl := hy.str; exact .inl ⟨rfl, by simp⟩
  · cases h; obtain rfl := hx.str; obtain rfl := hy.non; exact .inl ⟨rfl, by simp⟩
  · cases h; obtain rfl := hx.non; obtain rfl := hy.int; exact .inl ⟨rfl, by simp⟩
  · cases h; obtain rfl := hx.int; obtain rfl := hy.non; exact .inl ⟨rfl, by simp⟩
  · split at h
    · rename_i hs
      cases h
      exact .inr ⟨sh_dp e hx hs.1, sh_dp e hy hs.2, sh_shaped hs.1, sh_shaped hs.2, rfl⟩
    · cases h
theorem ro_eq : ROp K (rEqA K) eqD := by
  intro Hf H x y dx dy z e hx hy h Q q
  unfold eqD at h
  split at h
  · split at h
    · cases h
    rename_i hnd
    cases h
    obtain rfl := hy.str
    rcases hx with hx | ⟨_, _, _, _, q', _⟩
    · cases hx with
      | dcn _ _ => exact absurd rfl hnd
      | dct hh _ => exact .inr (.inr ⟨_, _, _, _, rfl, rfl, e _ _ hh, q _ Hf H (Pg.refl e) (.bl _)⟩)
    · cases q'
  · cases eb : eqB dx dy with
    | none => rw [eb] at h; cases h
    | some b =>
      rw [eb] at h
      cases h
      have k := q (.bl b) Hf H (Pg.refl e) (.bl b)
      rcases eqB_ok e hx hy eb with ⟨h1, h2⟩ | ⟨h1, h2, h3, h4, h5⟩
      · exact .inl ⟨h1, by rw [h2]; exact k⟩
      · exact .inr (.inl ⟨_, _, h1, h2, h3, h4, by rw [h5]; exact k⟩)
theorem ro_ne : ROp K (rNeA K) neD := by
  intro Hf H x y dx dy z e hx hy h Q q
  unfold neD at h
  cases eb : eqB dx dy with
  | none => rw [eb] at h; cases h
  | some b =>
    rw [eb] at h
    cases h
    have k := q (.bl (!b)) Hf H (Pg.refl e) (.bl (!b))
    rcases eqB_ok e hx hy eb with ⟨h1, h2⟩ | ⟨h1, h2, h3, h4, h5⟩
    · exact .inl ⟨h1, by rw [h2]; exact k⟩
    · exact .inr ⟨_, _, h1, h2, h3, h4, by rw [h5]; exact k⟩
def inStr (a z : Str) : Bool := match a.cps.toList with
  | [c] => decide (c ∈ z.cps.toList)
  | _ => !(Builtin.Str.occurrences z a 0 z.length 1).isEmpty
def flatD : Pd → Bool
  | .none => true
  | .bool _ => true
  | .int _ => true
  | .str _ => true
  | _ => false
theorem RD.flat {H H' : Hp} {v : V} {d : Pd} (h : RD K H v d) (f : flatD d = true) : RD K H' v d := by
  cases h with
  | non => exact .non
  | bl b => exact .bl b
  | int i => exact .int i
  | str x => exact .str x
  | lst _ _ => cases f
  | tup _ _ => cases f
  | dct _ _ => cases f
  | dcn _ _ => cases f
theorem RX.flat {Hf H : Hp} {v : V} {d : Pd} (h : RX K Hf H v d) (f : flatD d = true) : RD K Hf v d := by
  rcases h with h | ⟨_, _, _, _, rfl, _⟩
  · exact h
  · cases f
theorem RD.flatV {H : Hp} {v : V} {d : Pd} (h : RD K H v d) (f : flatD d = true) : flatV v = true := by
  cases h with
  | non => rfl
  | bl b => rfl
  | int i => rfl
  | str x => rfl
  | lst _ _ => cases f
  | tup _ _ => cases f
  | dct _ _ => cases f
  | dcn _ _ => cases f
theorem RD.eqV {H H' : Hp} {v u : V} {d e : Pd} (h : RD K H v d) (g : RD K H' u e) (f : flatD d = true) (f' : flatD e = true) : L2.eqV v u = PyData.eqv d e := by
  cases h with
  | lst _ _ => cases f
  | tup _ _ => cases f
  | dct _ _ => cases f
  | dcn _ _ => cases f
  | non => cases g with
    | lst _ _ => cases f'
    | tup _ _ => cases f'
    | dct _ _ => cases f'
    | dcn _ _ => cases f'
    | _ => simp [L2.eqV, PyData.eqv]
  | bl b => cases g with
    | lst _ _ => cases f'
    | tup _ _ => cases f'
    | dct _ _ => cases f'
    | dcn _ _ => cases f'
    | _ => simp [L2.eqV, PyData.eqv]
  | int i => cases g with
    | lst _ _ => cases f'
    | tup _ _ => cases f'
    | dct _ _ => cases f'
    | dcn _ _ => cases f'
    | _ => simp [L2.eqV, PyData.eqv]
  | str z => cases g with
    | lst _ _ => cases f'
    | tup _ _ => cases f'
    | dct _ _ => cases f'
    | dcn _ _ => cases f'
    | _ => simp [L2.eqV, PyData.eqv]
theorem RDs.all_flat {H : Hp} : ∀ {vs : List V} {ds : List Pd}, RDs K H vs ds → ds.all flatD = true → vs.all flatV = true
  | _, _, .nil, _ => rfl
  | _, _, .cons h hs, f => by
    simp only [List.all_cons, Bool.and_eq_true] at f ⊢
    exact ⟨h.flatV f.1, RDs.all_flat hs f.2⟩
theorem RDs.inV {H H' : Hp} {v : V} {d : Pd} (h : RD K H' v d) (fd : flatD d = true) : ∀ {vs : List V} {ds : List Pd}, RDs K H vs ds → ds.all flatD = true → L2.inV v vs = ds.any fun y => PyData.eqv y d
  | _, _, .nil, _ => rfl
  | _, _, .cons g gs, f => by
    simp only [List.all_cons, Bool.and_eq_true] at f
    have ih := RDs.inV h fd gs f.2
    unfold L2.inV at ih ⊢
    rw [List.any_cons, List.any_cons, ih, g.eqV h f.1 fd]
def inB : Pd → Pd → Option Bool
  | .str a, .str z => some (inStr a z)
  | d, .list xs => if flatD d = true ∧ xs.all flatD = true then some (xs.any fun y => PyData.eqv y d) else if sh 60 d = true ∧ sh 60 (.list xs) = true then some (xs.any fun y => PyData.eqv y d) else none
  | d, .tuple xs => if flatD d = true ∧ xs.all flatD = true then some (xs.any fun y => PyData.eqv y d) else if sh 60 d = true ∧ sh 60 (.tuple xs) = true then some (xs.any fun y => PyData.eqv y d) else none
  | _, _ => none
def inD (d e : Pd) : Option Pd := (inB d e).map .bool
def notInD (d e : Pd) : Option Pd := (inB d e).map fun b => .bool (!b)
def rInTx (n : Bool) : R2 := fun x y H Q => (∃ (c : Nat) (z : Str), x = .str ⟨#[c]⟩ ∧ y = .str z ∧ Q (.bl (if n then !decide (c ∈ z.cps.toList) else decide (c ∈ z.cps.toList))) H) ∨
  ∃ i j, x = .str i ∧ y = .str j ∧ Q (.bl (if n then !(!(Builtin.Str.occurrences j i 0 j.length 1).isEmpty) else !(Builtin.Str.occurrences j i 0 j.length 1).isEmpty)) H
theorem op_inTx {X : Cx} : OpR X (compareOp .In) (rInTx false) := op_in_sign.or op_in_str
theorem op_notInTx {X : Cx} : OpR X (compareOp .NotIn) (rInTx true) := op_notIn_sign.or op_notin_str
def rInDT (K : PySem.W.Frag) (n : Bool) : R2 := fun x y H Q => ∃ d ds, Dp K H x d ∧ Dp K H y (.tuple ds) ∧ SeqAt.shaped d = true ∧ SeqAt.shaped (.tuple ds) = true ∧ Q (.bl (if n then !ds.any (fun z => PyData.eqv z d) else ds.any fun z => PyData.eqv z d)) H
omit [WD] in
theorem room_t {d : Pd} {ds : List Pd} {A : Around} (h : SeqAt.shaped d = true) (hu : A.units + 65 < cLine) : A.units + 1 + min (PyData.depthAll ds) d.depth < cLine := by
  have h1 := SeqAt.depth_of_shaped h
  have h2 : min (PyData.depthAll ds) d.depth ≤ d.depth := Nat.min_le_right _ _
  omega
theorem op_inDT {X : Cx} (hu : X.A.units + 65 < cLine) : OpR X (compareOp .In) (rInDT X.K false) := by
  intro pins s σ H x y v u Q I rx ry h
  obtain ⟨d, ds, hd, he, sd, se, q⟩ := h
  obtain ⟨_, r1⟩ := Dp.reads I d x v hd rx
  obtain ⟨_, r2⟩ := Dp.reads I (.tuple ds) y u he ry
  exact SeqAt.in_tuple_reads r2 r1 (SeqAt.canLay_of_shaped se) (SeqAt.canLay_of_shaped sd) (room_t sd hu) ⟨.bl _, H, I, rfl, q⟩
theorem op_notInDT {X : Cx} (hu : X.A.units + 65 < cLine) : OpR X (compareOp .NotIn) (rInDT X.K true) := by
  intro pins s σ H x y v u Q I rx ry h
  obtain ⟨d, ds, hd, he, sd, se, q⟩ := h
  obtain ⟨_, r1⟩ := Dp.reads I d x v hd rx
  obtain ⟨_, r2⟩ := Dp.reads I (.tuple ds) y u he ry
  exact SeqAt.notIn_tuple_reads r2 r1 (SeqAt.canLay_of_shaped se) (SeqAt.canLay_of_shaped sd) (room_t sd hu) ⟨.bl _, H, I, rfl, q⟩
abbrev rInA (K : PySem.W.Frag) : R2 := fun x y H Q => rInTx false x y H Q ∨ rIn K false x y H Q ∨ rInD K x y H Q ∨ rInDT K false x y H Q
abbrev rNotInA (K : PySem.W.Frag) : R2 := fun x y H Q => rInTx true x y H Q ∨ rIn K true x y H Q ∨ rNotInD K x y H Q ∨ rInDT K true x y H Q
theorem opIn {X : Cx} (hu : X.A.units + 65 < cLine) : OpR X (compareOp .In) (rInA X.K) := op_inTx.or (op_in_seq.or ((op_inD hu).or (op_inDT hu)))
theorem opNotIn {X : Cx} (hu : X.A.units + 65 < cLine) : OpR X (compareOp .NotIn) (rNotInA X.K) := op_notInTx.or (op_notIn_seq.or ((op_notInD hu).or (op_notInDT hu)))
theorem inStr_ok {n : Bool} {a z : Str} {H : Hp} {Q : VK} (q : Q (.bl (if n then !inStr a z else inStr a z)) H) : rInTx n (.str a) (.str z) H Q := by
  unfold inStr at q
  cases e : a.cps.toList with
  | nil => rw [e] at q; exact .inr ⟨a, z, rfl, rfl, q⟩
  | cons c r =>
    cases r with
    | cons c2 r => rw [e] at q; exact .inr ⟨a, z, rfl, rfl, q⟩
    | nil =>
      rw [e] at q
      have ea : a = ⟨#[c]⟩ := by
        obtain ⟨cps⟩ := a
        have : cps = #[c] := by
          apply Array.ext'
          exact e
        rw [this]
      exact .inl ⟨c, z, by rw [ea], rfl, q⟩
theorem inB_ok {Hf H : Hp} {x y : V} {dx dy : Pd} {b : Bool} (e : Ex Hf H) (hx : RX K Hf H x dx) (hy : RX K Hf H y dy) (h : inB dx dy = some b) {Q : VK} (n : Bool) (q : Q (.bl (if n then !b else b)) H) :
    rInTx n x y H Q ∨ rIn K n x y H Q ∨ (∃ ds, dy = .list ds ∧ Dp K H x dx ∧ Dp K H y (.list ds) ∧ SeqAt.shaped dx = true ∧ SeqAt.shaped (.list ds) = true ∧ (ds.any fun z => PyData.eqv z dx) = b) ∨ rInDT K n x y H Q := by
  unfold inB at h
  split at h
  · cases h; obtain rfl := hx.str; obtain rfl := hy.str; exact .inl (inStr_ok q)
  · rename_i xs _
    split at h
    · rename_i hf
      cases h
      obtain ⟨l, vs, rfl, t, r⟩ := hy.list e
      have rx := hx.flat hf.1
      refine .inr (.inl ⟨l, vs, rfl, .inl t, rx.flatV hf.1, r.all_flat hf.2, ?_⟩)
      rw [RDs.inV rx hf.1 r hf.2]
      exact q
    · split at h
      · rename_i hs
        cases h
        exact .inr (.inr (.inl ⟨_, rfl, sh_dp e hx hs.1, sh_dp e hy hs.2, sh_shaped hs.1, sh_shaped hs.2, rfl⟩))
      · cases h
  · rename_i xs _
    split at h
    · rename_i hf
      cases h
      obtain ⟨l, vs, rfl, _, t, r⟩ := hy.tuple e
      have rx := hx.flat hf.1
      refine .inr (.inl ⟨l, vs, rfl, .inr t, rx.flatV hf.1, r.all_flat hf.2, ?_⟩)
      rw [RDs.inV rx hf.1 r hf.2]
      exact q
    · split at h
      · rename_i hs
        cases h
        exact .inr (.inr (.inr ⟨_, _, sh_dp e hx hs.1, sh_dp e hy hs.2, sh_shaped hs.1, sh_shaped hs.2, q⟩))
      · cases h
  · cases h
theorem ro_in : ROp K (rInA K) inD := by
  intro Hf H x y dx dy z e hx hy h Q q
  unfold inD at h
  cases eb : inB dx dy with
  | none => rw [eb] at h; cases h
  | some b =>
    rw [eb] at h
    cases h
    have k := q (.bl b) Hf H (Pg.refl e) (.bl b)
    rcases inB_ok e hx hy eb false k with h1 | h1 | ⟨ds, rfl, h1, h2, h3, h4, h5⟩ | h1
    · exact .inl h1
    · exact .inr (.inl h1)
    · exact .inr (.inr (.inl ⟨_, _, h1, h2, h3, h4, by rw [h5]; exact k⟩))
    · exact .inr (.inr (.inr h1))
theorem ro_notIn : ROp K (rNotInA K) notInD := by
  intro Hf H x y dx dy z e hx hy h Q q
  unfold notInD at h
  cases eb : inB dx dy with
  | none => rw [eb] at h; cases h
  | some b =>
    rw [eb] at h
    cases h
    have k := q (.bl (!b)) Hf H (Pg.refl e) (.bl (!b))
    rcases inB_ok e hx hy eb true k with h1 | h1 | ⟨ds, rfl, h1, h2, h3, h4, h5⟩ | h1
    · exact .inl h1
    · exact .inr (.inl h1)
    · exact .inr (.inr (.inl ⟨_, _, h1, h2, h3, h4, by rw [h5]; exact k⟩))
    · exact .inr (.inr (.inr h1))
def isNon : Pd → Bool
  | .none => true
  | _ => false
theorem RX.isNon {Hf H : Hp} {x : V} {d : Pd} (h : RX K Hf H x d) : decide (x = .non) = isNon d := by
  rcases h with h | ⟨l, _, _, rfl, rfl, _⟩
  · cases h <;> simp [Dt.isNon]
  · simp [Dt.isNon]
def ixD : Pd → Pd → Option Pd
  | .list xs, .int i => atI xs i
  | .tuple xs, .int i => atI xs i
  | .str z, .int i => if z.length ≤ sizeLine then (atI z.cps.toList i).map fun c => .str ⟨#[c]⟩ else none
  | _, _ => none
theorem RDs.atI {H : Hp} {vs : List V} {ds : List Pd} (r : RDs K H vs ds) {i : Int} {d : Pd} (h : L2.atI ds i = some d) : ∃ v, L2.atI vs i = some v ∧ RD K H v d := by
  unfold L2.atI at h ⊢
  rw [r.length]
  cases e : ixN ds.length i with
  | none => rw [e] at h; cases h
  | some j => rw [e] at h; exact r.get h
theorem ro_ix : ROp K (rIx K) ixD := by
  intro Hf H x y dx dy z e hx hy h Q q
  unfold ixD at h
  split at h
  · obtain ⟨l, vs, rfl, t, r⟩ := hx.list e
    obtain ⟨v, h1, h2⟩ := r.atI h
    exact .inl ⟨l, vs, _, v, rfl, hy.int, t, h1, q v Hf H (Pg.refl e) h2⟩
  · obtain ⟨l, vs, rfl, _, t, r⟩ := hx.tuple e
    obtain ⟨v, h1, h2⟩ := r.atI h
    exact .inr (.inl ⟨l, vs, _, v, rfl, hy.int, t, h1, q v Hf H (Pg.refl e) h2⟩)
  · split at h
    · rename_i w i hz
      cases ec : L2.atI w.cps.toList i with
      | none => rw [ec] at h; cases h
      | some c =>
        rw [ec] at h
        cases h
        exact .inr (.inr ⟨w, i, c, hx.str, hy.int, hz, ec, q _ Hf H (Pg.refl e) (.str _)⟩)
    · cases h
  · cases h
def cutD (xs : List Pd) (lo hi : Option Int) : List Pd := (xs.drop (HT.sIx xs.length 0 lo)).take (HT.sIx xs.length xs.length hi - HT.sIx xs.length 0 lo)
def slD : Pd → Option Int → Option Int → Option Pd
  | .list xs, lo, hi => some (.list (cutD xs lo hi))
  | .tuple xs, lo, hi => some (.tuple (cutD xs lo hi))
  | .str z, lo, hi => if z.length ≤ sizeLine then some (.str (cutS z lo hi)) else none
  | _, _, _ => none
theorem RDs.cut {H : Hp} {vs : List V} {ds : List Pd} (r : RDs K H vs ds) (lo hi : Option Int) : RDs K H (cutV vs lo hi) (cutD ds lo hi) := by
  unfold cutV cutD
  rw [r.length]
  exact (r.drop _).take _
omit [WD] in
theorem cutD_whole {xs : List Pd} {lo hi : Option Int} (h : HT.sIx xs.length 0 lo = 0 ∧ HT.sIx xs.length xs.length hi = xs.length) : cutD xs lo hi = xs := by
  unfold cutD
  rw [h.1, h.2]
  simp
abbrev rSlAll (K : PySem.W.Frag) : V → Option Int → Option Int → Hp → VK → Prop := fun x lo hi H Q => rSlL K x lo hi H Q ∨ rSlN K x lo hi H Q ∨ rSlS x lo hi H Q
theorem slAll {X : Cx} : SlR X (rSlAll X.K) := sl_list.or (sl_tupN.or sl_str)
theorem rs_sl : RSl K (rSlAll K) slD := by
  intro Hf H x lo hi dx z e hx h Q q
  unfold slD at h
  split at h
  · cases h
    obtain ⟨l, vs, rfl, t, r⟩ := hx.list e
    refine .inl ⟨l, vs, rfl, t, fun p np => ?_⟩
    have g := Pg.new (o := .lst (cutV vs lo hi)) e np
    exact q _ _ _ g (.lst (sq_of upd_same) ((r.cut lo hi).mono g.ef))
  · cases h
    obtain ⟨l, vs, rfl, t1, t, r⟩ := hx.tuple e
    refine .inr (.inl ⟨l, vs, rfl, t, fun hw => ?_, fun hw p o hd np => ?_⟩)
    · rw [r.length] at hw
      exact q _ Hf H (Pg.refl e) (by rw [cutD_whole hw]; exact .tup t1 r)
    · have g := Pg.new (o := .frz o (.tup (cutV vs lo hi))) e np
      exact q _ _ _ g (.tup (sn_of upd_same hd) ((r.cut lo hi).mono g.ef))
  · split at h
    · cases h
      exact .inr (.inr ⟨_, hx.str, by assumption, q _ Hf H (Pg.refl e) (.str _)⟩)
    · cases h
  · cases h
theorem RXs.one {Hf H : Hp} {vs : List V} {d : Pd} (h : RXs K Hf H vs [d]) : ∃ v, vs = [v] ∧ RX K Hf H v d := by
  cases h with
  | cons h hs => cases hs; exact ⟨_, rfl, h⟩
def lenD : List Pd → Option Pd
  | [.list xs] => some (.int xs.length)
  | [.tuple xs] => some (.int xs.length)
  | [.str z] => if z.length ≤ sizeLine then some (.int z.length) else none
  | _ => none
abbrev rLenA (K : PySem.W.Frag) : List V → Hp → VK → Prop := fun xs H Q => (∃ p ys, xs = [.ref p] ∧ (SqL K H p ys ∨ SqT K H p ys) ∧ Q (.int ys.length) H) ∨ (∃ z, xs = [.str z] ∧ z.length ≤ sizeLine ∧ Q (.int z.length) H)
theorem callLen {X : Cx} : CallR X (.builtin "len") (rLenA X.K) := call_len_seq.or call_len_str
theorem rc_len : RCall K (rLenA K) lenD := by
  intro Hf H vs xs z e hx h Q q
  unfold lenD at h
  split at h
  · cases h
    obtain ⟨v, rfl, hv⟩ := hx.one
    obtain ⟨l, us, rfl, t, r⟩ := hv.list e
    exact .inl ⟨l, us, rfl, .inl t, by rw [r.length]; exact q _ Hf H (Pg.refl e) (.int _)⟩
  · cases h
    obtain ⟨v, rfl, hv⟩ := hx.one
    obtain ⟨l, us, rfl, _, t, r⟩ := hv.tuple e
    exact .inl ⟨l, us, rfl, .inr t, by rw [r.length]; exact q _ Hf H (Pg.refl e) (.int _)⟩
  · split at h
    · cases h
      obtain ⟨v, rfl, hv⟩ := hx.one
      obtain rfl := hv.str
      exact .inr ⟨_, rfl, by assumption, q _ Hf H (Pg.refl e) (.int _)⟩
    · cases h
  · cases h
def absD : List Pd → Option Pd
  | [.int i] => some (.int (if i < 0 then -i else i))
  | _ => none
def strD : List Pd → Option Pd
  | [.int i] => if i.natAbs.log2 < 1920 then some (.str (toString i)) else none
  | _ => none
def boolsD : List Pd → Option (List Bool)
  | [] => some []
  | .bool b :: xs => match boolsD xs with
    | some bs => some (b :: bs)
    | none => none
  | _ :: _ => none
theorem bools_ok {H : Hp} : ∀ {vs : List V} {ds : List Pd} {bs : List Bool}, RDs K H vs ds → boolsD ds = some bs → vs = bs.map V.bl
  | _, _, _, .nil, h => by cases h; rfl
  | _, _, _, .cons (d := .bool b) (ds := ds) g gs, h => by
    simp only [boolsD] at h
    cases e : boolsD ds with
    | none => rw [e] at h; cases h
    | some bs =>
      rw [e] at h
      cases h
      cases g
      rw [bools_ok gs e]
      rfl
  | _, _, _, .cons (d := .none) _ _, h => by cases h
  | _, _, _, .cons (d := .int _) _ _, h => by cases h
  | _, _, _, .cons (d := .str _) _ _, h => by cases h
  | _, _, _, .cons (d := .list _) _ _, h => by cases h
  | _, _, _, .cons (d := .tuple _) _ _, h => by cases h
  | _, _, _, .cons (d := .dict _) _ _, h => by cases h
def allD : List Pd → Option Pd
  | [.list xs] => (boolsD xs).map fun bs => .bool (bs.all id)
  | _ => none
def anyD : List Pd → Option Pd
  | [.list xs] => (boolsD xs).map fun bs => .bool (bs.any id)
  | _ => none
theorem rc_all : RCall K (rAll K) allD := by
  intro Hf H vs xs z e hx h Q q
  unfold allD at h
  split at h
  · rename_i ys
    obtain ⟨v, rfl, hv⟩ := hx.one
    obtain ⟨l, us, rfl, t, r⟩ := hv.list e
    cases eb : boolsD ys with
    | none => rw [eb] at h; cases h
    | some bs =>
      rw [eb] at h
      cases h
      obtain rfl := bools_ok r eb
      exact ⟨l, bs, rfl, t, q _ Hf H (Pg.refl e) (.bl _)⟩
  · cases h
def intsD : List Pd → Option (List Int)
  | [] => some []
  | .int b :: xs => match intsD xs with
    | some bs => some (b :: bs)
    | none => none
  | _ :: _ => none
theorem ints_ok {H : Hp} : ∀ {vs : List V} {ds : List Pd} {bs : List Int}, RDs K H vs ds → intsD ds = some bs → vs = bs.map V.int
  | _, _, _, .nil, h => by cases h; rfl
  | _, _, _, .cons (d := .int b) (ds := ds) g gs, h => by
    simp only [intsD] at h
    cases e : intsD ds with
    | none => rw [e] at h; cases h
    | some bs =>
      rw [e] at h
      cases h
      cases g
      rw [ints_ok gs e]
      rfl
  | _, _, _, .cons (d := .none) _ _, h => by cases h
  | _, _, _, .cons (d := .bool _) _ _, h => by cases h
  | _, _, _, .cons (d := .str _) _ _, h => by cases h
  | _, _, _, .cons (d := .list _) _ _, h => by cases h
  | _, _, _, .cons (d := .tuple _) _ _, h => by cases h
  | _, _, _, .cons (d := .dict _) _ _, h => by cases h
def sumD : List Pd → Option Pd
  | [.list xs] => (intsD xs).map fun bs => .int bs.sum
  | _ => none
theorem rc_sum : RCall K (rSum K) sumD := by
  intro Hf H vs xs z e hx h Q q
  unfold sumD at h
  split at h
  · rename_i ys
    obtain ⟨v, rfl, hv⟩ := hx.one
    obtain ⟨l, us, rfl, t, r⟩ := hv.list e
    cases eb : intsD ys with
    | none => rw [eb] at h; cases h
    | some bs =>
      rw [eb] at h
      cases h
      obtain rfl := ints_ok r eb
      exact ⟨l, bs, rfl, t, q _ Hf H (Pg.refl e) (.int _)⟩
  · cases h
def strsD : List Pd → Option (List Str)
  | [] => some []
  | .str b :: xs => match strsD xs with
    | some bs => some (b :: bs)
    | none => none
  | _ :: _ => none
theorem strs_ok {H : Hp} : ∀ {vs : List V} {ds : List Pd} {bs : List Str}, RDs K H vs ds → strsD ds = some bs → vs = bs.map V.str
  | _, _, _, .nil, h => by cases h; rfl
  | _, _, _, .cons (d := .str b) (ds := ds) g gs, h => by
    simp only [strsD] at h
    cases e : strsD ds with
    | none => rw [e] at h; cases h
    | some bs =>
      rw [e] at h
      cases h
      cases g
      rw [strs_ok gs e]
      rfl
  | _, _, _, .cons (d := .none) _ _, h => by cases h
  | _, _, _, .cons (d := .bool _) _ _, h => by cases h
  | _, _, _, .cons (d := .int _) _ _, h => by cases h
  | _, _, _, .cons (d := .list _) _ _, h => by cases h
  | _, _, _, .cons (d := .tuple _) _ _, h => by cases h
  | _, _, _, .cons (d := .dict _) _ _, h => by cases h
def tupleD : List Pd → Option Pd
  | [.list xs] => some (.tuple xs)
  | [.tuple xs] => some (.tuple xs)
  | _ => none
abbrev rTupleA (K : PySem.W.Frag) : List V → Hp → VK → Prop := rTupleN K
theorem rc_tuple : RCall K (rTupleA K) tupleD := by
  intro Hf H vs xs z e hx h Q q
  unfold tupleD at h
  split at h
  · cases h
    obtain ⟨v, rfl, hv⟩ := hx.one
    obtain ⟨l, us, rfl, t, r⟩ := hv.list e
    refine ⟨l, us, rfl, .inl ⟨t, fun p o hd np => ?_⟩⟩
    have g := Pg.new (o := .frz o (.tup us)) e np
    exact q _ _ _ g (.tup (sn_of upd_same hd) (r.mono g.ef))
  · cases h
    obtain ⟨v, rfl, hv⟩ := hx.one
    obtain ⟨l, us, rfl, t1, t, r⟩ := hv.tuple e
    exact ⟨l, us, rfl, .inr ⟨t, q _ Hf H (Pg.refl e) (.tup t1 r)⟩⟩
  · cases h
def listD : List Pd → Option (List Pd)
  | [.list xs] => some xs
  | [.tuple xs] => some xs
  | _ => none
abbrev rListA (K : PySem.W.Frag) : List V → Hp → VK → Prop := fun xs H Q => ∃ p ys, xs = [.ref p] ∧ (SqL K H p ys ∨ SqT K H p ys) ∧ ∀ l, H l = none → Q (.ref l) (upd H l (.lst ys))
def upperD : Pd → List Pd → Option Pd
  | .str a, [] => if a.length ≤ 5592405 then some (.str (Txt.upper a)) else none
  | _, _ => none
def joinD : Pd → List Pd → Option Pd
  | .str a, [.list xs] => match strsD xs with
    | some ys => if (ys.map (·.length)).sum + ys.length * a.length ≤ 16777216 then some (.str (Txt.join a ys)) else none
    | none => none
  | .str a, [.tuple xs] => match strsD xs with
    | some ys => if (ys.map (·.length)).sum + ys.length * a.length ≤ 16777216 then some (.str (Txt.join a ys)) else none
    | none => none
  | _, _ => none
abbrev rJoinA (K : PySem.W.Frag) : V → List V → Hp → VK → Prop := fun x xs H Q => ∃ a p, ∃ ys : List Str, x = .str a ∧ xs = [.ref p] ∧ (SqL K H p (ys.map V.str) ∨ SqT K H p (ys.map V.str)) ∧
    (ys.map (·.length)).sum + ys.length * a.length ≤ 16777216 ∧ Q (.str (Txt.join a ys)) H
theorem rm_join : RMt K "str" (rJoinA K) joinD := by
  intro Hf H x vs dx xs z e hx hs h Q q
  unfold joinD at h
  split at h
  · split at h
    · rename_i ys es
      split at h
      · cases h
        obtain ⟨v, rfl, hv⟩ := hs.one
        obtain ⟨l, us, rfl, t, r⟩ := hv.list e
        obtain rfl := strs_ok r es
        exact ⟨_, l, ys, hx.str, rfl, .inl t, by assumption, q _ Hf H (Pg.refl e) (.str _)⟩
      · cases h
    · cases h
  · split at h
    · rename_i ys es
      split at h
      · cases h
        obtain ⟨v, rfl, hv⟩ := hs.one
        obtain ⟨l, us, rfl, _, t, r⟩ := hv.tuple e
        obtain rfl := strs_ok r es
        exact ⟨_, l, ys, hx.str, rfl, .inr t, by assumption, q _ Hf H (Pg.refl e) (.str _)⟩
      · cases h
    · cases h
  · cases h
end
end Dt
namespace Dt
open PySem PySem.Spec L2 Evl
variable [WD]
section
variable {Z : Zx} {W : WX}
def tyName : Pd → String
  | .none => "NoneType"
  | .bool _ => "bool"
  | .int _ => "int"
  | .str _ => "str"
  | .list _ => "list"
  | .tuple _ => "tuple"
  | .dict _ => "dict"
theorem ty_of {K : PySem.W.Frag} {Hf H : Hp} {v : V} {d : Pd} (e : Ex Hf H) (h : RX K Hf H v d) : TyX K H v (.type (tyName d)) ∨ ∃ a o xs, v = .ref a ∧ H a = some (.frz o (DkN a xs)) ∧ tyName d = "dict" := by
  have h0 := h.full e
  clear h
  cases h0 with
  | non => exact .inl (.base .non)
  | bl b => exact .inl (.base (.bl b))
  | int i => exact .inl (.base (.int i))
  | str x => exact .inl (.base (.str x))
  | lst hh _ =>
    rcases hh with (h | ⟨o, h⟩) | ⟨o, its, n, h1, h2, _⟩
    · exact .inl (.base (.lst h))
    · exact .inl (.base (.frz h))
    · exact .inl (.kList h1 h2)
  | tup hh _ =>
    rcases hh.sq with (h | ⟨o, h⟩) | ⟨o, its, n, h1, h2, _⟩
    · exact .inl (.base (.tup h))
    · exact .inl (.fTuple h)
    · exact .inl (.kTuple h1 h2)
  | dct hh _ => exact .inl (.fDict hh)
  | dcn hh _ => exact .inr ⟨_, _, _, rfl, hh, rfl⟩
def rIsiX (K : PySem.W.Frag) : List V → Hp → VK → Prop := fun xs H Q => rIsi K xs H Q ∨ ∃ (a : Addr) (o : Obj) (ns : List (NestedKey × Addr × Value)) (c : V) (u : Value) (b : Bool), xs = [.ref a, c] ∧ ClsV c u ∧ H a = some (.frz o (DkN a ns)) ∧ PySem.W.kitOne K (.type "dict") u = some b ∧ Q (.bl b) H
theorem call_isiX {X : Cx} : CallR X (.builtin "isinstance") (rIsiX X.K) := by
  intro pins s σ H xs us Q I r h
  rcases h with h | ⟨a, ob, ns, c, u, b, rfl, k, hH, e, q⟩
  · exact call_isi pins s σ H xs us Q I r h
  · obtain ⟨u1, u2, rfl, r1, r2⟩ := vals2 r
    have e2 := k.eq r2
    subst e2
    cases (show u1 = Value.ref a from r1)
    obtain ⟨_, ⟨_, _, _, _, o, es, ep, h1, h2, _⟩, _⟩ := (show ObjOk X.prog X.w H s.heap a (.frz ob (DkN a ns)) from I.hok a _ hH)
    exact PySem.W.kia_one PySem.W.kitx_dict I.kIn ⟨o, h1, h2.1⟩ e (fun z => nomatch z) fun tk => ⟨.bl b, H, I.tok tk, rfl, q⟩
def isiD (T : String) (d : Pd) : Option Pd := (kitB (tyName d) T).map .bool
theorem d_isi {T : String} {ta : TE} {fa : Rho → R AV} (ha : DE Z W ta fa) : DE Z W (tCB (rIsiX Z.K) (tCons ta (tCons (tC (.ty T)) tNil))) (f1 (isiD T) fa) := by
  intro Hf H O σ ρ s Q p
  refine ha.bind s p fun a ρ1 x Hf1 H1 s1 g1 k1 rx p1 => ?_
  refine op1_use (r := fun x H Q => rIsiX Z.K [x, .ty T] H Q) ?_ s1 rx p1
  intro Hf H x dx z e hx h Q q
  unfold isiD at h
  cases eb : kitB (tyName dx) T with
  | none => rw [eb] at h; cases h
  | some b =>
    rw [eb] at h
    cases h
    rcases ty_of e hx with ht | ⟨a, o, xs, rfl, ha, hd⟩
    · exact .inl ⟨x, .ty T, .type (tyName dx), .type T, b, rfl, .ty T, ht, kit_ty eb, q _ Hf H (Pg.refl e) (.bl b)⟩
    · rw [hd] at eb
      exact .inr ⟨a, o, xs, .ty T, .type T, b, rfl, .ty T, ha, kit_ty eb, q _ Hf H (Pg.refl e) (.bl b)⟩
def isIntD : Pd → Bool
  | .int _ => true
  | .bool _ => true
  | _ => false
def isBoolD : Pd → Bool
  | .bool _ => true
  | _ => false
def isStrD : Pd → Bool
  | .str _ => true
  | _ => false
def isTupD : Pd → Bool
  | .tuple _ => true
  | _ => false
def isLstD : Pd → Bool
  | .list _ => true
  | _ => false
omit [WD] in
theorem isi_of {T : String} {f : Pd → Bool} (h : ∀ d, kitB (tyName d) T = some (f d)) (d : Pd) : isiD T d = some (.bool (f d)) := by
  unfold isiD
  rw [h d]
  rfl
omit [WD] in
theorem isi_int (d : Pd) : isiD "int" d = some (.bool (isIntD d)) := isi_of (fun d => by
  cases d <;> simp only [tyName, isIntD] <;> decide +kernel) d
omit [WD] in
theorem isi_bool (d : Pd) : isiD "bool" d = some (.bool (isBoolD d)) := isi_of (fun d => by
  cases d <;> simp only [tyName, isBoolD] <;> decide +kernel) d
omit [WD] in
theorem isi_str (d : Pd) : isiD "str" d = some (.bool (isStrD d)) := isi_of (fun d => by
  cases d <;> simp only [tyName, isStrD] <;> decide +kernel) d
omit [WD] in
theorem isi_tuple (d : Pd) : isiD "tuple" d = some (.bool (isTupD d)) := isi_of (fun d => by
  cases d <;> simp only [tyName, isTupD] <;> decide +kernel) d
omit [WD] in
theorem isi_list (d : Pd) : isiD "list" d = some (.bool (isLstD d)) := isi_of (fun d => by
  cases d <;> simp only [tyName, isLstD] <;> decide +kernel) d
theorem d_dict0 : DE Z W (tLockD tDNewK) (fC (.dict [])) := by
  intro Hf H O σ ρ s Q p q nq
  refine ⟨q, [], rfl, upd_same, fun o => ?_⟩
  rw [upd_twice]
  have g := Pg.new (o := .frz o (.dK [])) s.ex nq
  exact p _ _ (s.grow g) g.gr Kp.refl _ (.dct upd_same .nil)
def keyD : Pd → Option Key
  | .int i => some (.inl i)
  | .str x => some (.inr x)
  | _ => none
theorem keyD_ok {K : PySem.W.Frag} {H : Hp} {v : V} {d : Pd} {k : Key} (h : RD K H v d) (e : keyD d = some k) : v = kV k ∧ d = kD k := by
  cases h <;> cases e <;> exact ⟨rfl, rfl⟩
def kDisp1 : AV → AV → Rho → R AV
  | .d k, .d v, ρ2 => match keyD k with
    | some _ => .ok (.d (.dict [(k, v)])) ρ2
    | none => .bad
  | _, _, _ => .bad
def fDisp1 (fk fv : Rho → R AV) : Rho → R AV := fun ρ => (fk ρ).bind fun a ρ1 => (fv ρ1).bind fun b ρ2 => kDisp1 a b ρ2
theorem d_dict1 {tk tv : TE} {fk fv : Rho → R AV} (hk : DE Z W tk fk) (hv : DE Z W tv fv) : DE Z W (tLockD (tDisp [(tk, tv)])) (fDisp1 fk fv) := by
  intro Hf H O σ ρ s Q p q nq
  have no : ¬ O q := fun z => by
    obtain ⟨⟨o, t⟩, _⟩ := s.otr q z
    rw [nq] at t; cases t
  have g0 := Pg.lay (o := .dK []) s.ex nq
  have s0 := s.grow g0
  refine hk Hf _ O σ ρ s0 _ ?_
  have fq0 := fresh_back s.ex nq
  unfold fDisp1 at p
  cases ek : fk ρ with
  | bad => rw [ek] at p; exact p
  | ex x ρ1 => rw [ek] at p; exact fun cls d Hf' H' s' g' k' xr => p cls d Hf' H' s' (g0.gr.trans g') k' xr
  | ok a ρ1 =>
    rw [ek] at p
    intro Hf1 H1 s1 g1 k1 x rx
    refine hv Hf1 H1 O σ ρ1 s1 _ ?_
    have p : PostG Z W O σ ρ Hf H (fun a _ Hf' H' => ∀ v, RA Z.K Hf' σ v a → Q v H') ((fv ρ1).bind fun b ρ2 => kDisp1 a b ρ2) := p
    cases ev : fv ρ1 with
    | bad => rw [ev] at p; exact p
    | ex x ρ2 => rw [ev] at p; exact fun cls d Hf' H' s' g' k' xr => p cls d Hf' H' s' (g0.gr.trans (g1.trans g')) (k1.trans k') xr
    | ok b ρ2 =>
      rw [ev] at p
      intro Hf2 H2 s2 g2 k2 y ry
      cases a with
      | sl i => exact p.elim
      | d k =>
        cases b with
        | sl i => exact p.elim
        | d v =>
          have p : PostG Z W O σ ρ Hf H (fun a _ Hf' H' => ∀ v, RA Z.K Hf' σ v a → Q v H') (match keyD k with
            | some _ => .ok (.d (.dict [(k, v)])) ρ2
            | none => .bad) := p
          cases e : keyD k with
          | none => rw [e] at p; exact p.elim
          | some kk =>
            rw [e] at p
            obtain ⟨ex, rfl⟩ := keyD_ok (show RD Z.K Hf1 x k from rx) e
            have gg := g1.trans g2
            have hq2 : H2 q = some (.dK []) := gg.fm _ _ upd_same no
            have fq2 : Hf2 q = none := gg.stays upd_same fq0 no
            refine ⟨hq2, [(kk, y)], by rw [ex]; rfl, by simp, q, [(kk, y)], rfl, upd_same, fun o => ?_⟩
            rw [show mergeK [] [(kk, y)] = [(kk, y)] from rfl, upd_twice]
            have s3 := s2.other (o' := .frz o (.dK [(kk, y)])) hq2 fq2 no
            have s4 := s3.freeze upd_same fq2 no
            refine p _ _ s4 ⟨(g0.gr.trans gg).ex.trans (Ex.new fq2), ((g0.gr.trans gg).upd nq).fm, ((g0.gr.trans gg).upd nq).tr, fun a o h => ?_⟩ (k1.trans k2) _ (.dct upd_same (.cons (RD.mono (Ex.new fq2) ry) .nil))
            by_cases z : a = q
            · subst z; exact .inr (.inl nq)
            · rw [upd_ne z] at h; exact (g0.gr.trans gg).nw a o h
end
end Dt
namespace Dt
open PySem PySem.Spec L2 Evl
variable [WD]
structure FnI (K : PySem.W.Frag) (mg : Str → Option Value) (x : Str) (st : Stmt) where
  f : Addr
  fd : FuncData
  F : FunD K x x (defArgs st) (defBody st) (defScope st) [] [] f fd
  g : mg x = some (.ref f)
omit [WD] in
theorem u65 {k : Nat} {A : Around} (r : Room k A) : A.units + 65 < cLine := by have := r.un; omega
theorem bt_all : bootBuiltins "all" = some (.builtin "all") := by decide +kernel
theorem bt_sum : bootBuiltins "sum" = some (.builtin "sum") := by decide +kernel
theorem bt_sorted : bootBuiltins "sorted" = some (.builtin "sorted") := by decide +kernel
def negD : Pd → Option Pd
  | .int i => some (.int (-i))
  | _ => none
theorem ru_neg {K : PySem.W.Frag} : RUn K (rU fun i => .int (-i)) negD := by
  intro Hf H x dx z e hx h Q q
  unfold negD at h
  split at h
  · cases h
    exact ⟨_, hx.int, q _ Hf H (Pg.refl e) (.int _)⟩
  · cases h
section
variable {X : Cx}
theorem kAdd (K : PySem.W.Frag) (hK : X.K = K := by rfl) : OpR X (binaryOp .Add) (rAddA K) := by subst hK; exact opAdd
theorem kEq (K : PySem.W.Frag) (hu : X.A.units + 64 < cLine) (hK : X.K = K := by rfl) : OpR X (compareOp .Eq) (rEqA K) := by subst hK; exact opEq hu
theorem kNe (K : PySem.W.Frag) (hu : X.A.units + 64 < cLine) (hK : X.K = K := by rfl) : OpR X (compareOp .NotEq) (rNeA K) := by subst hK; exact opNe hu
theorem kIn (K : PySem.W.Frag) (hu : X.A.units + 65 < cLine) (hK : X.K = K := by rfl) : OpR X (compareOp .In) (rInA K) := by subst hK; exact opIn hu
theorem kNotIn (K : PySem.W.Frag) (hu : X.A.units + 65 < cLine) (hK : X.K = K := by rfl) : OpR X (compareOp .NotIn) (rNotInA K) := by subst hK; exact opNotIn hu
theorem kIx (K : PySem.W.Frag) (hK : X.K = K := by rfl) : IxR X (rIx K) := by subst hK; exact ix_seq
theorem kSl (K : PySem.W.Frag) (hK : X.K = K := by rfl) : SlR X (rSlAll K) := by subst hK; exact slAll
theorem kLen (K : PySem.W.Frag) (hK : X.K = K := by rfl) : CallR X (.builtin "len") (rLenA K) := by subst hK; exact callLen
theorem kAll (K : PySem.W.Frag) (hc : X.calm = true) (hK : X.K = K := by rfl) : CallR X (.builtin "all") (rAll K) := by subst hK; exact cr_all hc
theorem kSum (K : PySem.W.Frag) (hc : X.calm = true) (hK : X.K = K := by rfl) : CallR X (.builtin "sum") (rSum K) := by subst hK; exact cr_sum hc
theorem kIsi (K : PySem.W.Frag) (hK : X.K = K := by rfl) : CallR X (.builtin "isinstance") (rIsiX K) := by subst hK; exact call_isiX
theorem kTuple (K : PySem.W.Frag) (hK : X.K = K := by rfl) : CallR X (.type "tuple") (rTupleA K) := by subst hK; exact call_tupleN
theorem kList (K : PySem.W.Frag) (hK : X.K = K := by rfl) : CallR X (.type "list") (rListA K) := by subst hK; exact call_list_of
theorem kJoin (K : PySem.W.Frag) (hK : X.K = K := by rfl) : MtR X "str.join" (rJoinA K) := by subst hK; exact mt_join
end
theorem law_sp {K : PySem.W.Frag} {C : Str → Addr} {m : Rho → R RV} {H : Hp} {a : Addr} {ns : List Int} {E : XK} (h : SqL K H a (ns.map V.int)) (as' : Rho) (e : m [.d (.list (ns.map PyData.int))] = .ok (.d (.bool true)) as') :
    spF ⟨K, C⟩ 1 m [.ref a] H (fun v _ => v = .bl true) E := by
  have r : RDs K H [.ref a] [.list (ns.map PyData.int)] := .cons (.lst h RDs.flat) .nil
  refine ⟨rfl, H, fun _ => False, [.d (.list (ns.map PyData.int))], r.args (Ex.refl _), ioArgs (xs := [.list (ns.map PyData.int)]), ?_⟩
  rw [e]
  intro v Hf' H' s' g' rv
  cases rv
  rfl
omit [WD] in
theorem walk_D {l : PySem.W.OpenLaw} {n k : Nat} {q : Program} {loose : List Str} {XP : (Str → Option Value) → Heap → Prop} {YP : World → Heap → Prop} {d : DefRec} {x : Str} {m : Rho → R RV}
    (hn : l.most = some n) (hn2 : n ≤ sizeLine) (hdf : d.params.defaults = []) (hr : Room k callerA)
    (F : ∀ (w : World) (mg : Str → Option Value) (fa : Addr) (h : Heap), YP w h → h.Ns mainGlobals mg → mg d.name = some (.ref fa) →
      ∃ (K : PySem.W.Frag) (C : Str → Addr) (fd : FuncData), K.In h ∧ (∀ (s : Shared) (u : Value), BindsTo s fd ⟨[u], []⟩ [(x, u)]) ∧
        ∀ base : Heap, K.In base → base.Ns mainGlobals mg → FnOk l.prog w K mg base (L2.CX l.prog w) k fa fd [x] (@spF ⟨l.prog, w⟩ ⟨K, C⟩ 1 m))
    (math : ∀ ns : List Int, ns.length ≤ n → (∀ z ∈ ns, bits z ≤ 1048576) → ∃ as', m [.d (.list (ns.map PyData.int))] = .ok (.d (.bool true)) as') :
    PySem.W.WalkO q loose XP YP l.row.toRowW d [] (fun f vs => PySem.call f vs) := by
  refine Att.attach_callB hn hdf fun w s0 s1 mg mb fa o pm cd doc a vs ns G Y ho hd hcd hmg hobj hints hlen hbits hg => ?_
  letI : WD := ⟨l.prog, w⟩
  obtain ⟨K, C, fd, KX, hb, hF⟩ := F w mg fa _ Y G.T.g hmg
  obtain ⟨as', e⟩ := math ns hlen hbits
  exact law_call KX G.T.g G.T.b G.T.builtins G.T.nolimit hg hobj hints (Nat.le_trans hlen hn2) hr hF hb (fun H _ hS => law_sp hS as' e) fun H u s' z => by
    obtain ⟨_, _, _, _, _, _, _, _, _, _, _, _, q⟩ := z
    exact q
end Dt
namespace Dt
open PySem PySem.Spec L2 Evl RZ
variable [WD]
section
variable {K : PySem.W.Frag}
def maxD : List Pd → Option Pd
  | [.int i, .int j] => some (.int (if j > i then j else i))
  | _ => none
def minD : List Pd → Option Pd
  | [.int i, .int j] => some (.int (if j < i then j else i))
  | _ => none
def leS (a b : Str) : Bool := !ltCps b.cps.toList a.cps.toList
def insS (x : Str) : List Str → List Str
  | [] => [x]
  | y :: r => if leS x y = true then x :: y :: r else y :: insS x r
def sortS : List Str → List Str
  | [] => []
  | x :: r => insS x (sortS r)
omit [WD] in
theorem insS_perm (x : Str) : ∀ l, (insS x l).Perm (x :: l)
  | [] => .refl _
  | y :: r => by
    unfold insS
    split
    · exact .refl _
    · exact ((insS_perm x r).cons y).trans (.swap x y r)
omit [WD] in
theorem sortS_perm : ∀ l, (sortS l).Perm l
  | [] => .refl _
  | x :: r => (insS_perm x (sortS r)).trans ((sortS_perm r).cons x)
omit [WD] in
theorem ltCps_iff (a b : List Nat) : ltCps a b = true ↔ a < b := by
  rw [PyProof.Rows.ltCps_eq, decide_eq_true_eq]
omit [WD] in
theorem leS_iff (a b : Str) : leS a b = true ↔ a.cps.toList ≤ b.cps.toList := by
  unfold leS
  rw [Bool.not_eq_true', ← Bool.not_eq_true, ltCps_iff]
  exact Iff.rfl
omit [WD] in
theorem leS_total (a b : Str) : leS a b = true ∨ leS b a = true := by
  rw [leS_iff, leS_iff]
  exact List.le_total _ _
omit [WD] in
theorem leS_trans {a b c : Str} (h : leS a b = true) (g : leS b c = true) : leS a c = true := by
  rw [leS_iff] at *
  exact List.le_trans h g
omit [WD] in
theorem leS_anti {a b : Str} (h : leS a b = true) (g : leS b a = true) : a = b := by
  rw [leS_iff] at *
  have : a.cps.toList = b.cps.toList := List.le_antisymm h g
  obtain ⟨x⟩ := a
  obtain ⟨y⟩ := b
  have : x = y := Array.ext' this
  rw [this]
omit [WD] in
theorem insS_sorted (x : Str) : ∀ {l : List Str}, l.Pairwise (fun a b => leS a b = true) → (insS x l).Pairwise (fun a b => leS a b = true)
  | [], _ => List.pairwise_singleton _ _
  | y :: r, h => by
    unfold insS
    rw [List.pairwise_cons] at h
    split
    · rename_i hxy
      refine List.pairwise_cons.mpr ⟨fun z hz => ?_, List.pairwise_cons.mpr h⟩
      rcases List.mem_cons.mp hz with rfl | hz
      · exact hxy
      · exact leS_trans hxy (h.1 z hz)
    · rename_i hxy
      refine List.pairwise_cons.mpr ⟨fun z hz => ?_, insS_sorted x h.2⟩
      rcases List.mem_cons.mp ((insS_perm x r).mem_iff.mp hz) with rfl | hz
      · exact (leS_total z y).resolve_left hxy
      · exact h.1 z hz
omit [WD] in
theorem sortS_sorted : ∀ l, (sortS l).Pairwise (fun a b => leS a b = true)
  | [] => .nil
  | x :: r => insS_sorted x (sortS_sorted r)
omit [WD] in
theorem rising_pw : ∀ (l : List Str) (p : Str), PyProof.Rows.risingS p l = true → (p :: l).Pairwise (fun a b => leS a b = true)
  | [], p, _ => List.pairwise_singleton _ _
  | x :: r, p, h => by
    simp only [PyProof.Rows.risingS, Bool.and_eq_true] at h
    have ih := rising_pw r x h.2
    have hpx : leS p x = true := h.1
    refine List.pairwise_cons.mpr ⟨fun z hz => ?_, ih⟩
    rcases List.mem_cons.mp hz with rfl | hz
    · exact hpx
    · exact leS_trans hpx ((List.pairwise_cons.mp ih).1 z hz)
omit [WD] in
theorem sorted_unique {xs ys : List Str} (p : ys.Perm xs) (s : PyProof.Rows.sortedS ys = true) : ys = sortS xs := by
  refine List.Perm.eq_of_pairwise (le := fun a b => leS a b = true) (fun a b _ _ h g => leS_anti h g) ?_ (sortS_sorted xs) (p.trans (sortS_perm xs).symm)
  cases ys with
  | nil => exact .nil
  | cons y r => exact rising_pw r y s
def sortedD : List Pd → Option (List Pd)
  | [.list xs] => match strsD xs with
    | some ys => if ys.length < 64 then some ((sortS ys).map .str) else none
    | none => none
  | _ => none
theorem RDs.strs {H : Hp} : ∀ (ys : List Str), RDs K H (ys.map V.str) (ys.map PyData.str)
  | [] => .nil
  | y :: ys => .cons (.str y) (RDs.strs ys)
theorem rcl_sorted : RCallL K (rSortedS K) sortedD := by
  intro Hf H vs xs z e hx h Q q
  unfold sortedD at h
  split at h
  · rename_i us
    split at h
    · rename_i ys es
      split at h
      · rename_i hl
        cases h
        obtain ⟨v, rfl, hv⟩ := hx.one
        obtain ⟨l, ws, rfl, t, r⟩ := hv.list e
        obtain rfl := strs_ok r es
        refine ⟨l, ys, rfl, t, hl, fun zs p pm so np => ?_⟩
        rw [sorted_unique pm so]
        exact q p _ _ (e.trans (Ex.new np)) (Ex.new np) np upd_same (RDs.strs _)
      · cases h
    · cases h
  · cases h
def rMulS : R2 := fun x y H Q => ∃ a n, x = .str a ∧ y = .int n ∧ MulOk a n ∧ Q (.str (Txt.mul a n)) H
theorem op_mulS {X : Cx} : OpR X (binaryOp .Mult) rMulS := by
  intro pins s σ H x y v u Q I rx ry h
  obtain ⟨a, n, rfl, rfl, hm, q⟩ := h
  obtain ⟨t, rfl⟩ := rx
  obtain ⟨t2, rfl⟩ := ry
  exact SB.mul hm fun t' k => ⟨.str _, H, I.tok k, ⟨_, rfl⟩, q⟩
omit [WD] in
theorem mulOk_str {a : Str} {n : Int} (h0 : 0 ≤ n) (h1 : n ≤ 1000) (ha : a.length ≤ 1000) : MulOk a n := by
  refine ⟨?_, fun h _ => ?_, fun _ _ => ?_⟩
  · rw [decide_eq_false (by omega), decide_eq_false (by omega)]
    rfl
  · have hn : 1 ≤ n := by omega
    intro z
    have : (2 ^ 63 - 1) / n ≥ (2 ^ 63 - 1) / 1000 := by
      have h3 : (1000 : Int) * ((2 ^ 63 - 1) / 1000) ≤ 2 ^ 63 - 1 := by decide
      have h4 : 0 ≤ ((2 ^ 63 - 1) / 1000 : Int) := by decide
      refine (Int.le_ediv_iff_mul_le (by omega)).mpr ?_
      refine Int.le_trans ?_ h3
      rw [Int.mul_comm]
      exact Int.mul_le_mul_of_nonneg_right h1 h4
    have h5 : ((2 ^ 63 - 1) / 1000 : Int) > 1000 := by decide
    omega
  · have hm : a.length * n.toNat ≤ 1000 * 1000 := Nat.mul_le_mul ha (by omega)
    show decide (_ > _) = false
    refine decide_eq_false ?_
    show ¬ (_ > sizeLine)
    simp only [sizeLine]
    omega
abbrev rMulA (K : PySem.W.Frag) : R2 := fun x y H Q => rI IntMulOk (fun i j => .int (i * j)) x y H Q ∨ rMulS x y H Q ∨ rRepT K x y H Q
theorem kMul {X : Cx} (K : PySem.W.Frag) (hK : X.K = K := by rfl) : OpR X (binaryOp .Mult) (rMulA K) := by
  subst hK
  exact op_mulG.or (op_mulS.or op_repT)
def mulB : Pd → Pd → Option Pd
  | .int i, .int j => if mulOk i j = true then some (.int (i * j)) else none
  | .str a, .int n => if 0 ≤ n ∧ n ≤ 1000 ∧ a.length ≤ 1000 then some (.str (Txt.mul a n)) else none
  | _, _ => none
theorem ro_mulB : ROp K (rMulA K) mulB := by
  intro Hf H x y dx dy z e hx hy h Q q
  unfold mulB at h
  split at h
  · split at h
    · rename_i hm
      cases h
      exact .inl ⟨_, _, hx.int, hy.int, mulOk_ok hm, q _ Hf H (Pg.refl e) (.int _)⟩
    · cases h
  · split at h
    · rename_i hm
      cases h
      exact .inr (.inl ⟨_, _, hx.str, hy.int, mulOk_str hm.1 hm.2.1 hm.2.2, q _ Hf H (Pg.refl e) (.str _)⟩)
    · cases h
  · cases h
theorem sign_vals {x : Str} {acc : Array Value} (h : ItemsOf (SignAt x) acc x.cps.size) : Vals (x.cps.toList.map fun c => V.str ⟨#[c]⟩) acc.toList := by
  have hl : acc.toList.length = x.cps.toList.length := by simp [h.1]
  have all : ∀ (j : Nat) v, acc.toList[j]? = some v → ∃ c u, x.cps.toList[j]? = some c ∧ v = .str ⟨#[c]⟩ u := fun j v e => by
    rw [Array.getElem?_toList] at e
    obtain ⟨c, u, h1, h2⟩ := h.2 j v e
    exact ⟨c, u, by rw [Array.getElem?_toList]; exact h1, h2⟩
  revert hl all
  generalize x.cps.toList = cs
  generalize acc.toList = vs
  induction cs generalizing vs with
  | nil =>
    intro hl _
    cases vs with
    | nil => exact .nil
    | cons _ _ => simp at hl
  | cons c cs ih =>
    intro hl all
    cases vs with
    | nil => simp at hl
    | cons v vs =>
      obtain ⟨c', u, e1, e2⟩ := all 0 v rfl
      have e1 : c = c' := Option.some.inj e1
      subst e1
      exact .cons ⟨u, e2⟩ (ih vs (by simpa using hl) fun j w e => all (j + 1) w e)
def rTupTx : List V → Hp → VK → Prop := fun xs H Q => ∃ z, xs = [.str z] ∧ z.length ≤ sizeLine ∧ Nt H (z.cps.toList.map fun c => V.str ⟨#[c]⟩) Q
theorem call_tupTx {X : Cx} (hc : X.calm = true) : CallR X (.type "tuple") rTupTx := by
  intro pins s σ H xs us Q I r h
  obtain ⟨z, rfl, hz, q⟩ := h
  cases r with
  | cons r1 r2 =>
    cases r2
    obtain ⟨t, rfl⟩ := r1
    refine PySem.call_tuple_str (I.ok.hd hc) z t (hsz := hz) fun h' tk acc hk hacc => ?_
    have rv := sign_vals hacc
    have I1 : L2.Inv X pins σ H { s with heap := h', toks := tk } := I.kept hk
    exact laidN (s := { s with heap := h', toks := tk }) (t' := tk) I1 (fun b o e => Heap.get?_push_of_some _ e) (Nat.le_refl _) rv (by rw [List.length_map, Array.length_toList]; exact hz) (Heap.get?_push_size _ rfl) rfl rfl ⟨0, by simp⟩ q
theorem RDs.signs {H : Hp} : ∀ (cs : List Nat), RDs K H (cs.map fun c => V.str ⟨#[c]⟩) (cs.map fun c => PyData.str ⟨#[c]⟩)
  | [] => .nil
  | c :: cs => .cons (.str _) (RDs.signs cs)
def listA : List Pd → Option (List Pd)
  | [.list xs] => some xs
  | [.tuple xs] => some xs
  | [.str z] => if z.length ≤ sizeLine then some (chars z) else none
  | _ => none
def tupleA : List Pd → Option Pd
  | [.list xs] => some (.tuple xs)
  | [.tuple xs] => some (.tuple xs)
  | [.str z] => if z.length ≤ sizeLine then some (.tuple (chars z)) else none
  | _ => none
abbrev rTupleB (K : PySem.W.Frag) : List V → Hp → VK → Prop := fun xs H Q => rTupleA K xs H Q ∨ rTupTx xs H Q
theorem kTupleB {X : Cx} (K : PySem.W.Frag) (hc : X.calm = true) (hK : X.K = K := by rfl) : CallR X (.type "tuple") (rTupleB K) := by
  subst hK
  exact call_tupleN.or (call_tupTx hc)
theorem rc_tupleA : RCall K (rTupleB K) tupleA := by
  intro Hf H vs xs z e hx h Q q
  unfold tupleA at h
  split at h
  · exact .inl (rc_tuple Hf H vs _ z e hx h Q q)
  · exact .inl (rc_tuple Hf H vs _ z e hx h Q q)
  · split at h
    · rename_i w hz
      cases h
      obtain ⟨v, rfl, hv⟩ := hx.one
      obtain rfl := hv.str
      refine .inr ⟨_, rfl, hz, fun p o hd np => ?_⟩
      have g := Pg.new (o := .frz o (.tup (w.cps.toList.map fun c => V.str ⟨#[c]⟩))) e np
      exact q _ _ _ g (.tup (sn_of upd_same hd) (RDs.signs _))
    · cases h
  · cases h
end
theorem dlv_zipT {K : PySem.W.Frag} {Hf : Hp} {a b : Addr} {vs us : List V} {xs ys : List Pd} (h : SqT K Hf a vs) (r : RDs K Hf vs xs) (h2 : SqT K Hf b us) (r2 : RDs K Hf us ys) : Dlv true K (ItzT K a b) Hf ((xs.zip ys).map fun p => .tuple [p.1, p.2]) := by
  intro i Hf' H' e1 e2
  have hs : SqT K H' a vs := ex_t (e1.trans e2) h
  have hs2 : SqT K H' b us := ex_t (e1.trans e2) h2
  have l1 := r.length
  have l2 := r2.length
  refine ⟨fun hi => ?_, fun hi => ?_, fun v H'' hy x hx => ?_⟩
  · rw [List.length_map, List.length_zip] at hi
    obtain ⟨v, e, _⟩ := r.get (List.getElem?_eq_getElem (show i < xs.length by omega))
    obtain ⟨u, e', _⟩ := r2.get (List.getElem?_eq_getElem (show i < ys.length by omega))
    exact ⟨vs, us, v, u, hs, hs2, e, e'⟩
  · rw [List.length_map, List.length_zip] at hi
    exact ⟨vs, us, hs, hs2, by omega⟩
  · obtain ⟨T, x1, x2, rfl, nT, rfl, f1, f2⟩ := hy
    obtain ⟨d1, g1, rd1⟩ := r.get' (f1 vs hs)
    obtain ⟨d2, g2, rd2⟩ := r2.get' (f2 us hs2)
    have : x = .tuple [d1, d2] := by
      have z : (xs.zip ys)[i]? = some (d1, d2) := by
        rw [List.getElem?_zip_eq_some]; exact ⟨g1, g2⟩
      rw [List.getElem?_map, z] at hx
      cases hx
      rfl
    subst this
    have g := Pg.new (o := .tup [x1, x2]) e2 nT
    exact ⟨_, g, .inr ⟨rfl, _, _, _, rfl, rfl, st_of upd_same, .cons ((rd1.mono e1).mono g.ef) (.cons ((rd2.mono e1).mono g.ef) .nil)⟩⟩
section
variable {Z : Zx} {W : WX}
def zipK : List AV → Option (List Pd)
  | [.d (.list xs), .d (.list ys)] => some ((xs.zip ys).map fun p => .tuple [p.1, p.2])
  | [.d (.tuple xs), .d (.tuple ys)] => some ((xs.zip ys).map fun p => .tuple [p.1, p.2])
  | _ => none
def fZip (f : Rho → R (List AV)) : Rho → R (List Pd) := fun ρ => (f ρ).bind fun as ρ1 => match zipK as with
  | some xs => .ok xs ρ1
  | none => .bad
theorem i_zip {t : TA} {f : Rho → R (List AV)} (h : DA Z W t f) : DI true Z W (iZipA Z.K t) (fZip f) := by
  intro Hf H O σ ρ s Q p
  refine h.bind s p fun as ρ1 vs Hf1 H1 s1 g1 k1 rs p1 => ?_
  cases e : zipK as with
  | none => rw [e] at p1; exact p1.elim
  | some zs =>
    rw [e] at p1
    unfold zipK at e
    split at e
    · cases e
      cases rs with
      | cons r1 r2 =>
        cases r2 with
        | cons r2 r3 =>
          cases r3
          cases r1 with
          | lst a1 a2 =>
            cases r2 with
            | lst b1 b2 => exact ⟨_, _, _, _, rfl, .inl ⟨ex_l s1.ex a1, ex_l s1.ex b1, p1 Hf1 H1 s1 Gr.refl Kp.refl _ (dlv_zip a1 a2 b1 b2)⟩⟩
    · cases e
      cases rs with
      | cons r1 r2 =>
        cases r2 with
        | cons r2 r3 =>
          cases r3
          cases r1 with
          | tup a1 a2 =>
            cases r2 with
            | tup b1 b2 => exact ⟨_, _, _, _, rfl, .inr ⟨ex_t s1.ex a1.sq, ex_t s1.ex b1.sq, p1 Hf1 H1 s1 Gr.refl Kp.refl _ (dlv_zipT a1.sq a2 b1.sq b2)⟩⟩
    · cases e
def flatL (xs : List Pd) : Bool := xs.all flatD
theorem RDs.flatL {K : PySem.W.Frag} {H H' : Hp} : ∀ {vs : List V} {xs : List Pd}, RDs K H vs xs → Dt.flatL xs = true → RDs K H' vs xs
  | _, _, .nil, _ => .nil
  | _, _, .cons h hs, f => by
    simp only [Dt.flatL, List.all_cons, Bool.and_eq_true] at f
    exact .cons (h.flat f.1) (RDs.flatL hs f.2)
noncomputable def lentH (Hf H : Hp) (O : Addr → Prop) (l : Option Addr) : Hp := fun a => by
  classical
  exact if O a ∧ some a ≠ l then H a else Hf a
def noSl (i : Nat) : List AV → Bool
  | [] => true
  | .sl j :: as => decide (j ≠ i) && noSl i as
  | .d _ :: as => noSl i as
def kCallPB (n i : Nat) (g : Rho → R RV) (as : List AV) (ρ1 : Rho) : R AV :=
  if noSl i as = true ∧ as.length = n then match ress ρ1 as, ρ1[i]? with
    | some xs, some (.own b ps) => match g (.own true ps :: xs.map Sl.d) with
      | .ok (.d x) (.own _ ps' :: _) => if flatD x = true ∧ flatL ps' = true then .ok (.d x) (ρ1.set i (.own b ps')) else .bad
      | _ => .bad
    | _, _ => .bad
  else .bad
def fCallPB (n i : Nat) (g : Rho → R RV) (fa : Rho → R (List AV)) : Rho → R AV := fun ρ => match ρ[i]? with
  | some (.own _ _) => (fa ρ).bind fun as ρ1 => kCallPB n i g as ρ1
  | _ => .bad
theorem RAs.length {K : PySem.W.Frag} {Hf : Hp} {σ : L2.St} : ∀ {vs : List V} {as : List AV}, RAs K Hf σ vs as → vs.length = as.length
  | _, _, .nil => rfl
  | _, _, .cons _ hs => congrArg Nat.succ (RAs.length hs)
end
section
variable {X : Cx} {tg l : Expr}
theorem kPiList (K : PySem.W.Frag) {tl : TE} (hl : PE X l tl) (hK : X.K = K := by rfl) : PI X tg l (iList K tl) := by subst hK; exact pi_list hl
theorem kPiTup (K : PySem.W.Frag) {tl : TE} (hl : PE X l tl) (hK : X.K = K := by rfl) : PI X tg l (iTup K tl) := by subst hK; exact pi_tup hl
theorem kPiZip (K : PySem.W.Frag) {e e2 : Expr} {ta : TA} {p pos tpos : Pos} {elts : List Expr} {kk : Nat} (hg : Gl X "zip") (hm : X.mg "zip" = none) (ha : PA X [e, e2] ta)
    (hs : starEach [e, e2] X.env = (false, eval e X.env) :: starEach [e2] X.env := by rfl) (hpl : (backTo pos (starEach [e2] X.env)).any (·.1) = false := by rfl) (hK : X.K = K := by rfl) :
    PI X (.Tuple elts kk tpos) (.Call (.Name "zip" p) [e, e2] [] pos) (iZipA K ta) := by subst hK; exact pi_zipA hg hm ha hs hpl
theorem kgTup (K : PySem.W.Frag) {es : List Expr} {k n : Nat} {pos : Pos} {t : TGs} (hc : X.calm = true) (h : PGs X es t) (hn : (assignEach es X.env).length = n := by rfl) (hst : (assignEach es X.env).findIdx? (·.1) = none := by rfl) (hK : X.K = K := by rfl) :
    PG X (.Tuple es k pos) (gTup K n t) := by subst hK; exact pg_tup hc h hn hst
end
section
variable {Z : Zx} {W : WX}
abbrev rDivmod : List V → Hp → VK → Prop := fun xs H Q => ∃ i j, xs = [.int i, .int j] ∧ CDiv i j ∧ ∀ p, H p = none → Q (.ref p) (upd H p (.tup [.int (i / j), .int (i % j)]))
def fTake (i j : Nat) (fe : Rho → R AV) : Rho → R Fl := fun ρ => match ρ[i]? with
  | some (.own _ [.int n]) => (fe ρ).bind fun a ρ1 => match a, ρ1[i]? with
    | .d (.int m), some (.own b [_]) => if 0 < m ∧ m < 1073741824 then
        match put j (.int (n % m)) (ρ1.set i (.own b [.int (n / m)])) with
        | some ρ2 => .ok .nx ρ2
        | none => .bad
      else .bad
    | _, _ => .bad
  | _ => .bad
theorem s_take {i j : Nat} {te : TE} {fe : Rho → R AV} (he : DE Z W te fe) :
    DS Z W (tAsg (tCB rDivmod (tCons (tOp (rIx Z.K) (tVar i) (tC (.int 0))) (tCons te tNil))) (gTup Z.K 2 (gCons (gSub (tVar i) (tC (.int 0)) rSetL) (gCons (gName j) gNil)))) (fTake i j fe) := by
  intro Hf H O σ ρ s En p
  unfold fTake at p
  split at p
  case h_2 => exact p.elim
  rename_i b0 n0 e0
  obtain ⟨l, vs, h1, h2, h3, h4⟩ := s.own i b0 _ e0
  cases h4 with
  | cons r0 rn =>
    cases rn
    cases r0
    refine ⟨.ref l, h1, .inl ⟨l, _, 0, .int n0, rfl, rfl, sq_of h3, rfl, ?_⟩⟩
    refine DJ.bindS he s p fun a ρ1 v Hf1 H1 s1 g1 k1 rv p1 => ?_
    split at p1
    case h_2 => exact p1.elim
    rename_i m b x e1
    cases rv
    by_cases hm : 0 < m ∧ m < 1073741824
    case neg => rw [if_neg hm] at p1; exact p1.elim
    rw [if_pos hm] at p1
    refine ⟨n0, m, rfl, hm, fun t nt => ?_⟩
    obtain ⟨l', us, q1, q2, q3, q4⟩ := s1.own i b [x] e1
    rw [h1] at q1
    cases q1
    cases q4 with
    | cons rx rn =>
      cases rn
      rename_i w
      have pg := Pg.lay (o := .tup [.int (n0 / m), .int (n0 % m)]) s1.ex nt
      have s2 := s1.grow pg
      have hl2 : upd H1 t (.tup [.int (n0 / m), .int (n0 % m)]) l = some (.lst [w]) := pg.eh _ _ q3
      have s3 := s2.chg (us := [.int (n0 / m)]) (ys := [.int (n0 / m)]) e1 h1 hl2 (.cons (.int _) .nil)
      refine ⟨t, _, rfl, st_of upd_same, rfl, _, _, rfl, .ref l, h1, l, [w], 0, 0, rfl, rfl, hl2, rfl, _, _, rfl, rfl, ?_⟩
      cases ep : put j (.int (n0 % m)) (ρ1.set i (.own b [.int (n0 / m)])) with
      | none => rw [ep] at p1; exact p1.elim
      | some ρ2 =>
        rw [ep] at p1
        obtain ⟨hj, rfl, nj⟩ := put_some ep
        exact p1 Hf1 _ O _ (s3.putD hj (.int _)) ((g1.trans pg.gr).chg q2) Orl.refl (Kq.trans (Kq.trans k1.kq (kp_chg (ys := [.int (n0 / m)]) e1).kq) (Kq.setS nj.1 nj.2))
end
section
variable {Z : Zx} {W : WX}
theorem SR.temp {K : PySem.W.Frag} {Hf H Hf2 H2 Hf' H' : Hp} {O : Addr → Prop} {σ : L2.St} {ρ2 : Rho} {l : Addr} (h0 : H l = none) (no : ¬ O l) (s2 : SR K Hf2 H2 O σ ρ2) (g2 : Gr O Hf H Hf2 H2) (e' : Ex Hf' H') (g : Gr (fun a => a = l) Hf2 H2 Hf' H') : SR K Hf' H' O σ ρ2 ∧ Gr O Hf H Hf' H' := by
  refine ⟨⟨e', fun a h => ?_, s2.len, fun i x h => ?_, fun i b xs h => ?_, s2.dis, fun i e' h => ?_, s2.mr.heap g.ex (fun a u ha _ h => g.fm a u h fun z => no (by rw [← z]; exact ha)) fun _ h _ => h⟩, ⟨g2.ex.trans g.ex, fun a o h n => ?_, fun a o h => ?_, fun a o h => ?_⟩⟩
  · obtain ⟨⟨o, t1⟩, t2⟩ := s2.otr a h
    refine ⟨g.tr a o t1, ?_⟩
    cases e1 : Hf' a with
    | none => rfl
    | some u =>
      rcases g.nw a u e1 with z | z | z
      · rw [t2] at z; cases z
      · rw [t1] at z; cases z
      · rw [z] at h; exact (no h).elim
  · obtain ⟨v, t1, t2⟩ := s2.slot i x h
    exact ⟨v, t1, t2.mono g.ex⟩
  · obtain ⟨k, ws, b1, b2, b3, b4⟩ := s2.own i b xs h
    exact ⟨k, ws, b1, b2, g.fm _ _ b3 fun z => no (by rw [← z]; exact b2), b4.mono g.ex⟩
  · obtain ⟨v, t1, t2⟩ := s2.exc i e' h
    exact ⟨v, t1, t2.mono g.ex⟩
  · refine g.fm a o (g2.fm a o h n) fun z => ?_
    rw [z, h0] at h; cases h
  · obtain ⟨o1, h1⟩ := g2.tr a o h
    exact g.tr a o1 h1
  · rcases g.nw a o h with z | z | z
    · exact g2.nw a o z
    · exact .inr (.inl (g2.gone z))
    · exact .inr (.inl (by rw [z]; exact h0))
def kCallT (g : Rho → R RV) (ps : List Pd) (o : Option (List Pd)) (ρ1 : Rho) : R AV := match o with
  | some xs => match g (.own true ps :: xs.map Sl.d) with
    | .ok (.d x) _ => .ok (.d x) ρ1
    | .ex e _ => .ex e ρ1
    | _ => .bad
  | none => .bad
def fCallT (n : Nat) (g : Rho → R RV) (fl : Rho → R (List Pd)) (fa : Rho → R (List AV)) : Rho → R AV := fun ρ => (fl ρ).bind fun ps ρ1 => (fa ρ1).bind fun as ρ2 => kCallT g ps (argsD n as) ρ2
theorem d_callT {n : Nat} {g : Rho → R RV} {tl : TE} {t : TA} {fl : Rho → R (List Pd)} {fa : Rho → R (List AV)} (hl : DL Z W tl fl) (ha : DA Z W t fa) : DE Z W (tCallS (spF Z (n + 1) g) (WE W) (tCons tl t)) (fCallT n g fl fa) := by
  intro Hf H O σ ρ s Q p
  refine hl Hf H O σ ρ s _ ?_
  unfold fCallT at p
  cases el : fl ρ with
  | bad => rw [el] at p; exact p
  | ex x ρ1 => rw [el] at p; exact p
  | ok ps ρ1 =>
    rw [el] at p
    intro Hf1 H1 s1 g1 k1 lv rl
    obtain ⟨l, us, rfl, h0, h1, h2, h3⟩ := rl
    have no : ¬ O l := fun z => by
      obtain ⟨⟨o, q⟩, _⟩ := s.otr l z
      rw [h0] at q; cases q
    have p : PostG Z W O σ ρ Hf H (fun a _ Hf' H' => ∀ v, RA Z.K Hf' σ v a → Q v H') ((fa ρ1).bind fun as ρ2 => kCallT g ps (argsD n as) ρ2) := p
    refine ha Hf1 H1 O σ ρ1 s1 _ ?_
    cases ea : fa ρ1 with
    | bad => rw [ea] at p; exact p
    | ex x ρ2 => rw [ea] at p; exact fun cls d Hf' H' s' g' k' xr => p cls d Hf' H' s' (g1.trans g') (k1.trans k') xr
    | ok as ρ2 =>
      rw [ea] at p
      intro Hf2 H2 s2 g2 k2 vs rs
      have p : PostG Z W O σ ρ Hf H (fun a _ Hf' H' => ∀ v, RA Z.K Hf' σ v a → Q v H') (kCallT g ps (argsD n as) ρ2) := p
      unfold kCallT at p
      cases ed : argsD n as with
      | none => rw [ed] at p; exact p.elim
      | some xs =>
        rw [ed] at p
        simp only at p
        obtain ⟨r, hn⟩ := argsD_ok rs ed
        have hl2 : H2 l = some (.lst us) := g2.fm _ _ h1 no
        have fl2 : Hf2 l = none := g2.stays h1 h2 no
        have ra := r.args s2.ex
        have sc : SR Z.K Hf2 H2 (fun a => a = l) ((V.ref l :: vs).map some) (.own true ps :: xs.map Sl.d) := by
          refine ⟨s2.ex, fun a h => ?_, by simp [r.length], fun j x h => ?_, fun j c x h => ?_, fun j k c d x y m a1 a2 _ _ => ?_, fun j e' h => ?_, MR.none fun j c o h => ?mu⟩
          case mu =>
            cases j with
            | zero => cases h
            | succ j => exact ioArgs (xs := xs) (σ := []) |>.nom j c o h
          · subst h
            exact ⟨⟨_, hl2⟩, fl2⟩
          · cases j with
            | zero => cases h
            | succ j => exact ra.slot j x h
          · cases j with
            | zero => cases h; exact ⟨l, us, rfl, rfl, hl2, h3.mono g2.ex⟩
            | succ j => obtain ⟨_, _, _, z, _⟩ := ra.own j c x h; exact z.elim
          · cases j with
            | succ j => obtain ⟨_, _, _, z, _⟩ := ra.own j c x a1; exact z.elim
            | zero =>
              cases k with
              | zero => rfl
              | succ k => obtain ⟨_, _, _, z, _⟩ := ra.own k d y a2; exact z.elim
          · cases j with
            | zero => cases h
            | succ j => exact ra.exc j e' h
        refine ⟨congrArg Nat.succ hn, Hf2, fun a => a = l, .own true ps :: xs.map Sl.d, sc, ioArgsP, ?_⟩
        cases eg : g (.own true ps :: xs.map Sl.d) with
        | bad => rw [eg] at p; exact p.elim
        | ex y as' =>
          rw [eg] at p
          intro cls d Hf' H' s' g' xr
          obtain ⟨sb, gb⟩ := SR.temp h0 no s2 (g1.trans g2) s'.ex g'
          exact p cls d Hf' H' sb gb (k1.trans k2) xr
        | ok rv as' =>
          rw [eg] at p
          cases rv with
          | l ys => exact p.elim
          | m ys => exact p.elim
          | d y =>
            intro v Hf' H' s' g' rd
            obtain ⟨sb, gb⟩ := SR.temp h0 no s2 (g1.trans g2) s'.ex g'
            exact p Hf' H' sb gb (k1.trans k2) v rd
end
end Dt
namespace Dt
open PySem PySem.Spec L2 Evl PyProof.Rows
variable [WD]
section
variable {prog : Program} {w : World} {A : Around} {E : Value → Shared → Prop} {s : Shared}
end
def revS (z : Str) : Str := ⟨z.cps.toList.reverse.toArray⟩
section
variable {X : Cx}
end
def revD : Pd → Option Pd
  | .list xs => some (.list xs.reverse)
  | .tuple xs => some (.tuple xs.reverse)
  | .str z => if z.length ≤ sizeLine then some (.str (revS z)) else none
  | _ => none
section
variable {K : PySem.W.Frag}
end
theorem tuple_mul1 (l : Addr) (items : Array Value) (n : Nat) (dd : Option Addr) (sl : Array (Option Value)) (u : Tok) :
    Meets (Builtin.«tuple.__mul__» ⟨[.ref l, .int 1 u], []⟩) (fun _ R s => s.heap.get? l = some { cls := .type "tuple", dict := dd, data := .seq items n, slots := sl } ∧ R (.ok (.ret (Value.ref l))) s) :=
  .of_wp fun prog w A R s h => by
    obtain ⟨hp, g, d, tk, os⟩ := s
    obtain ⟨hl, h⟩ := h
    have f1 := AutoSeq1.idx_int
    have c0 : (decide ((1 : Int) < -(2 ^ 63)) || decide ((1 : Int) ≥ 2 ^ 63)) = false := by decide
    have c1 : (items.isEmpty || (1 : Int) == 1) = true := by simp
    wp_walk using AutoSeq1.wpAny_loadPart' hl
    repeat (first
      | (refine wpAny_ite_false (decide_eq_false (by rw [c0]; exact Bool.false_ne_true)) ?_; wp_walk using AutoSeq1.wpAny_loadPart' hl)
      | (refine wpAny_ite_true (decide_eq_true c1) ?_; wp_walk using AutoSeq1.wpAny_loadPart' hl))
    exact ⟨_, rfl, h⟩
def rOnceT (K : PySem.W.Frag) : R2 := fun x y H Q => ∃ l xs, x = .ref l ∧ y = .int 1 ∧ SqT K H l xs ∧ Q (.ref l) H
theorem op_onceT {X : Cx} : OpR X (binaryOp .Mult) (rOnceT X.K) := by
  intro pins s σ H x y v u Q I rx ry h
  obtain ⟨l, xs, rfl, rfl, hT, q⟩ := h
  cases rx
  obtain ⟨t, rfl⟩ := ry
  obtain ⟨its, r, ⟨⟨cls, dd, data, sl⟩, ho, hc, n, hd⟩, hs⟩ := I.tuple hT
  simp only at hc hd
  subst hc hd
  refine wpAny_binaryOp_repeat_ref (T := "tuple") (U := "int") (by decide) ⟨_, ho, rfl⟩ (fun s' => typeIs_int s' 1 t) noFill_tuple_mul F.fills_int_mul F.slot_int_rmul repeat_tuple F.slot_int_index.lookup
    (call_meets F.slot_int_rmul (typeIs_int s 1 t) F.entry_int_rmul (F.args_int_rmul_2 _ _) (int_rmul_tuple 1 t l its.toArray n dd sl)
      ⟨ho, rfl, ⟨_, ho, rfl⟩, call_meets F.slot_tuple_mul ⟨_, ho, rfl⟩ F.entry_tuple_mul (F.args_tuple_mul_2 _ _) (tuple_mul1 l its.toArray n dd sl t) ⟨ho, ?_⟩⟩)
  exact ⟨.ref l, H, I, rfl, q⟩
abbrev rMulC (K : PySem.W.Frag) : R2 := fun x y H Q => rMulA K x y H Q ∨ rOnceT K x y H Q
theorem kMulC {X : Cx} (K : PySem.W.Frag) (hK : X.K = K := by rfl) : OpR X (binaryOp .Mult) (rMulC K) := by
  subst hK
  exact (kMul X.K).or op_onceT
def mulC : Pd → Pd → Option Pd
  | .tuple xs, .int 1 => some (.tuple xs)
  | x, y => mulB x y
theorem ro_mulC {K : PySem.W.Frag} : ROp K (rMulC K) mulC := by
  intro Hf H x y dx dy z e hx hy h Q q
  unfold mulC at h
  split at h
  · cases h
    obtain ⟨l, vs, rfl, t1, t2, r1⟩ := hx.tuple e
    exact .inr ⟨l, vs, rfl, hy.int, t2, q _ Hf H (Pg.refl e) (.tup t1 r1)⟩
  · exact .inl (ro_mulB Hf H x y _ _ z e hx hy h Q q)
end Dt
namespace Dt
open PySem PySem.Spec L2 Evl PyProof.Rows
variable [WD]
omit [WD] in
theorem u1 {k : Nat} {A : Around} (r : Room k A) : A.units + 1 < cLine := by have := r.un; omega
def isBD : Pd → Pd → Option Pd
  | .bool a, .bool b => some (.bool (a == b))
  | _, _ => none
def isNotBD : Pd → Pd → Option Pd
  | .bool a, .bool b => some (.bool (a != b))
  | _, _ => none
omit [WD] in
@[simp] theorem isBD_b {a b : Bool} : isBD (.bool a) (.bool b) = some (.bool (a == b)) := rfl
omit [WD] in
@[simp] theorem isNotBD_b {a b : Bool} : isNotBD (.bool a) (.bool b) = some (.bool (a != b)) := rfl
section
variable {K : PySem.W.Frag}
theorem RX.dict {Hf H : Hp} {v : V} {ds : List (Pd × Pd)} (h : RX K Hf H v (.dict ds)) (hn : ndB ds ≠ true) : ∃ a o kvs, v = .ref a ∧ Hf a = some (.frz o (.dK kvs)) ∧ RKs K Hf kvs ds := by
  rcases h with h | ⟨l, vs, ys, rfl, q, h1, h2⟩
  · cases h with
    | dct h hs => exact ⟨_, _, _, rfl, h, hs⟩
    | dcn _ _ => exact absurd rfl hn
  · cases q
def lookD (k : Key) : List (Pd × Pd) → Option Pd
  | [] => none
  | (kd, v) :: r => if keyD kd = some k then some v else lookD k r
omit [WD] in
theorem keyD_kD (k : Key) : keyD (kD k) = some k := by cases k <;> rfl
theorem RKs.look {H : Hp} (k : Key) : ∀ {kvs : List (Key × V)} {ds : List (Pd × Pd)}, RKs K H kvs ds → match lookD k ds with | some d => ∃ v, valV kvs k = some v ∧ RD K H v d | none => valV kvs k = none
  | _, _, .nil => rfl
  | _, _, .cons (k := k') (v := v) (vs := vs) (d := d) (ds := ds) h hs => by
    have ih := RKs.look k hs
    simp only [lookD, keyD_kD, Option.some.injEq]
    by_cases e : k' = k
    · rw [if_pos e]; exact ⟨v, valV_pos e, h⟩
    · rw [if_neg e, valV_neg (p := (k', v)) e]; exact ih
def dgetD : Pd → Pd → Option Pd
  | .dict ds, k => match keyD k with
    | some k => lookD k ds
    | none => none
  | _, _ => none
def pairsD : List Pd → Option (List (Key × Pd))
  | [] => some []
  | .tuple [k, v] :: r => match keyD k, pairsD r with
    | some k, some r => some ((k, v) :: r)
    | _, _ => none
  | _ => none
def dictD : List Pd → Option Pd
  | [.list ps] => match pairsD ps with
    | some kvs => if (kvs.map (·.1)).Nodup then some (.dict (kvs.map fun p => (kD p.1, p.2))) else none
    | none => none
  | _ => none
theorem merge_new : ∀ (more acc : List (Key × V)), ((acc ++ more).map (·.1)).Nodup → mergeK acc more = acc ++ more
  | [], acc, _ => by simp [mergeK]
  | (k, v) :: r, acc, h => by
    have hn : (acc.any fun kv => decide (kv.1 = k)) = false := by
      rw [List.any_eq_false]
      intro p hp e
      have e := of_decide_eq_true e
      rw [List.map_append, List.nodup_append] at h
      exact h.2.2 p.1 (List.mem_map_of_mem hp) k (by simp) e
    show mergeK (putK acc k v) r = _
    have : putK acc k v = acc ++ [(k, v)] := by unfold putK; rw [hn]; rfl
    rw [this, merge_new r (acc ++ [(k, v)]) (by simpa using h)]
    simp
def splitD : Pd → List Pd → Option Pd
  | .str a, [.str b] => if (b.length == 0) = false ∧ a.length + 2 ≤ sizeLine then some (.list ((Txt.split a b).map .str)) else none
  | _, _ => none
def partD : Pd → List Pd → Option Pd
  | .str a, [.str b] => if (b.length == 0) = false ∧ a.length ≤ sizeLine then some (.tuple [.str (Txt.partition a b).1, .str (Txt.partition a b).2.1, .str (Txt.partition a b).2.2]) else none
  | _, _ => none
end
section
variable {Z : Zx} {W : WX}
def kRepL (xs : List Pd) (a : AV) (ρ : Rho) : R (List Pd) := match a with
  | .d (.int k) => if 0 ≤ k ∧ k ≤ 1000 ∧ xs.length ≤ 1000 then .ok (List.replicate k.toNat xs).flatten ρ else .bad
  | _ => .bad
def fRepL (fl : Rho → R (List Pd)) (fk : Rho → R AV) : Rho → R (List Pd) := fun ρ => (fl ρ).bind fun xs ρ1 => (fk ρ1).bind fun a ρ2 => kRepL xs a ρ2
end
section
variable {Z : Zx} {W : WX}
def kDGet2 (a b c : AV) (ρ : Rho) : R AV := match a, b, c with
  | .d (.dict ds), .d k, .d x => (match keyD k with
    | some k => .ok (.d ((lookD k ds).getD x)) ρ
    | none => .bad)
  | _, _, _ => .bad
def isDct : AV → Bool
  | .d (.dict ds) => !ndB ds
  | _ => false
def fDGet2 (fd fy fx : Rho → R AV) : Rho → R AV := fun ρ => (fd ρ).bind fun a ρ1 => if isDct a = true then (fy ρ1).bind fun b ρ2 => (fx ρ2).bind fun c ρ3 => kDGet2 a b c ρ3 else .bad
theorem d_dget2 {td ty tx : TE} {fd fy fx : Rho → R AV} (hd : DE Z W td fd) (hy : DE Z W ty fy) (hx : DE Z W tx fx) : DE Z W (tDGet2 td ty tx) (fDGet2 fd fy fx) := by
  intro Hf H O σ ρ s Q p
  refine hd.bind s p fun a ρ1 x Hf1 H1 s1 g1 k1 rx p1 => ?_
  by_cases hc : isDct a = true
  · rw [if_pos hc] at p1
    cases a with
    | sl _ => cases hc
    | d da =>
      cases da with
      | dict ds =>
        have rx : RD Z.K Hf1 x (.dict ds) := rx
        cases rx with
        | dcn _ _ => cases hc
        | dct h hs =>
          rename_i kvs aa
          refine ⟨_, rfl, .inl ⟨_, .inr ⟨_, s1.ex _ _ h⟩⟩, ?_⟩
          refine hy.bind s1 p1 fun b ρ2 y Hf2 H2 s2 g2 k2 ry p2 => ?_
          refine hx.bind s2 p2 fun c ρ3 z Hf3 H3 s3 g3 k3 rz p3 => ?_
          cases b with
          | sl _ => exact p3.elim
          | d k =>
            cases c with
            | sl _ => exact p3.elim
            | d xd =>
              cases ek : keyD k with
              | none =>
                unfold kDGet2 at p3
                simp only [ek] at p3
                exact p3.elim
              | some kk =>
                unfold kDGet2 at p3
                simp only [ek] at p3
                obtain ⟨rfl, _⟩ := keyD_ok (show RD Z.K Hf2 y k from ry) ek
                have h3 : Hf3 _ = some (.frz _ (.dK _)) := g3.ex _ _ (g2.ex _ _ h)
                refine ⟨_, .inl ⟨_, kk, .inr ⟨_, s3.ex _ _ h3⟩, rfl, rfl⟩, ?_⟩
                have hl := RKs.look kk (hs.mono (g2.ex.trans g3.ex))
                cases el : lookD kk ds with
                | none =>
                  rw [el] at hl p3
                  rw [hl]
                  exact p3 Hf3 H3 s3 Gr.refl Kp.refl _ rz
                | some v =>
                  rw [el] at hl p3
                  obtain ⟨w, hw, rw'⟩ := hl
                  rw [hw]
                  exact p3 Hf3 H3 s3 Gr.refl Kp.refl _ rw'
      | _ => cases hc
  · rw [if_neg hc] at p1; exact p1.elim
end
section
variable {ρ : Rho} {xs : List Pd}
omit [WD] in
@[simp] theorem fDGet2_ap {fd fy fx : Rho → R AV} : fDGet2 fd fy fx ρ = (fd ρ).bind fun a ρ1 => if isDct a = true then (fy ρ1).bind fun b ρ2 => (fx ρ2).bind fun c ρ3 => kDGet2 a b c ρ3 else .bad := rfl
omit [WD] in
@[simp] theorem isDct_d {ds : List (Pd × Pd)} : isDct (.d (.dict ds)) = !ndB ds := rfl
@[simp] theorem ndB_nil : ndB [] = false := rfl
@[simp] theorem ndB_str {x : Str} {v : Pd} {r : List (Pd × Pd)} : ndB ((.str x, v) :: r) = false := rfl
@[simp] theorem ndB_int {x : Int} {v : Pd} {r : List (Pd × Pd)} : ndB ((.int x, v) :: r) = false := rfl
@[simp] theorem ndB_nd {v : Pd} {r : List (Pd × Pd)} : ndB ((.none, v) :: r) = true := rfl
omit [WD] in
@[simp] theorem kDGet2_s {ds : List (Pd × Pd)} {k : Str} {x : Pd} : kDGet2 (.d (.dict ds)) (.d (.str k)) (.d x) ρ = .ok (.d ((lookD (.inr k) ds).getD x)) ρ := rfl
omit [WD] in
@[simp] theorem fRepL_ap {fl : Rho → R (List Pd)} {fk : Rho → R AV} : fRepL fl fk ρ = (fl ρ).bind fun xs ρ1 => (fk ρ1).bind fun a ρ2 => kRepL xs a ρ2 := rfl
omit [WD] in
@[simp] theorem kRepL_int {k : Int} : kRepL xs (.d (.int k)) ρ = if 0 ≤ k ∧ k ≤ 1000 ∧ xs.length ≤ 1000 then .ok (List.replicate k.toNat xs).flatten ρ else .bad := rfl
omit [WD] in
@[simp] theorem dgetD_str {ds : List (Pd × Pd)} {x : Str} : dgetD (.dict ds) (.str x) = lookD (.inr x) ds := rfl
omit [WD] in
@[simp] theorem lookD_nil {k : Key} : lookD k [] = none := rfl
omit [WD] in
@[simp] theorem lookD_cons {k : Key} {kd v : Pd} {r : List (Pd × Pd)} : lookD k ((kd, v) :: r) = if keyD kd = some k then some v else lookD k r := rfl
omit [WD] in
@[simp] theorem keyD_str {x : Str} : keyD (.str x) = some (.inr x) := rfl
omit [WD] in
@[simp] theorem dictD_list : dictD [.list xs] = (match pairsD xs with | some kvs => if (kvs.map (·.1)).Nodup then some (.dict (kvs.map fun p => (kD p.1, p.2))) else none | none => none) := rfl
omit [WD] in
@[simp] theorem splitD_str {a b : Str} : splitD (.str a) [.str b] = if (b.length == 0) = false ∧ a.length + 2 ≤ sizeLine then some (.list ((Txt.split a b).map .str)) else none := rfl
omit [WD] in
@[simp] theorem partD_str {a b : Str} : partD (.str a) [.str b] = if (b.length == 0) = false ∧ a.length ≤ sizeLine then some (.tuple [.str (Txt.partition a b).1, .str (Txt.partition a b).2.1, .str (Txt.partition a b).2.2]) else none := rfl
end
end Dt
set_option maxHeartbeats 2000000
namespace Dt
open PySem PySem.Spec L2 Evl PyProof.Rows
variable [WD]
section
variable {X : Cx} {pins : List (Addr × Obj)} {σ : L2.St} {H : Hp} {s : Shared}
theorem Inv_track {a : Addr} {o : HO} {oe : Obj} {vs : Array Value} (I : L2.Inv X pins σ H s) (n0 : X.s_0.heap.get? a = none) (na : H a = none) (nL : a ≠ X.env.locals) (he : s.heap.get? a = some oe) (hd : oe.data = .fields vs) (np : ∀ p ∈ X.pn ++ pins, p.1 ≠ a)
    (new : ObjOk X.prog X.w (upd H a o) s.heap a o) : L2.Inv X pins σ (upd H a o) s := by
  have ne0 : ∀ b ob, X.s_0.heap.get? b = some ob → b ≠ a := fun b ob e z => by rw [z, n0] at e; cases e
  have nec : ∀ x c, X.env.cells.lookup x = some c → c ≠ a := fun x c e z => by
    obtain ⟨v, ob, ho, hc⟩ := I.cell x c e
    rw [z, he] at ho
    cases ho
    rw [hd] at hc
    cases hc
  refine ⟨I.ok, I.os, I.bare, ⟨I.base.keep, I.base.slot, fun b ob e n hx => ?_, I.base.there, fun b xs e => ?_, fun b ob u e => ?_, fun b ps e => ?_⟩, I.loc, I.cell, ?_, fun x c e => ?_, fun p hp => ?_, I.hok.laidN (fun _ _ q => q) na new, I.len⟩
  · rw [upd_ne (ne0 b ob e)]; exact I.base.free b ob e n hx
  · have q := I.base.tups b xs e; rw [upd_ne (ne_of_none q na)]; exact q
  · have q := I.base.frzs b ob u e; rw [upd_ne (ne_of_none q na)]; exact q
  · obtain ⟨m, q⟩ := I.base.tbls b ps e; exact ⟨m, by rw [upd_ne (ne_of_none q na)]; exact q⟩
  · rw [upd_ne (Ne.symm nL)]; exact I.free
  · rw [upd_ne (nec x c e)]; exact I.freeC x c e
  · obtain ⟨e, n, r⟩ := I.pin p hp
    exact ⟨e, by rw [upd_ne (np p hp)]; exact n, r⟩
theorem exN_ok {P : Program} {w : World} {H : Hp} {h : Heap} {a : Addr} {cls : Value} {d : Option Addr} {oe : Obj} {vs : Array Value} (e : h.get? a = some oe) (z : Zc cls d oe) (hd : oe.data = .fields vs) : ObjOk P w H h a (ExN cls d a) :=
  ⟨⟨oe, vs, e, z, hd⟩, ⟨oe, e⟩, fun _ _ ⟨o, v, q, r⟩ k => ⟨o, v, k o q, r⟩⟩
end
def wAsT (K : PySem.W.Frag) (c : Value) (i : Nat) (ts : Addr → Value → Option Addr → TS) (Wout : WX) (D : Ends) : WX := fun cls d σ H =>
  ∃ b, PySem.W.exmOne K cls c = some b ∧ (b = true → ∀ a, H a = none → ts a cls d { nx := fun σ' H' => D.nx (σ'.set i none) (upd H' a (ExN cls d a)), rt := fun _ _ => False, bk := fun _ _ => False, ct := fun _ _ => False } (σ.set i (some (.ref a))) H) ∧
    (b = false → Wout cls d σ H)
section
variable {X : Cx} {x n : Str} {c : Value} {i : Nat} {body suite : List Stmt} {b₀ : Stmt} {np pos pos' : Pos} {tb : WX → TS} {ts : Addr → Value → Option Addr → TS} {Wout : WX}
theorem ps_try_T (hs : X.stack = X.env :: X.outer) (hf : X.env.frame = some X.env.locals) (hex : X.ex = []) (hN : X.N.Nodup) (hi : X.N[i]? = some n) (hln : X.env.kindOf n = some .local) (hc : Names X x c) (tk : Takes X Wout)
    (hb : ∀ (W : WX) (pn : List (Addr × Obj)) (xe : Value → Shared → Prop), Takes (X.tr pn xe) W → PassesOwn (model X.prog X.w) X.A X.env xe → PSs (X.tr pn xe) body (tb W))
    (hsu : ∀ (a : Addr) (oe : Obj) (cls : Value) (d : Option Addr) (pn : List (Addr × Obj)), Zc cls d oe → (∃ vs, oe.data = .fields vs) → PSs (X.suite a ((a, oe) :: pn)) (b₀ :: suite) (ts a cls d)) :
    PS X (.Try body [.ExceptHandler (some (.Name x np)) (some n) (b₀ :: suite) pos'] [] [] pos) (fun D σ H => tb (wAsT X.K c i ts Wout D) D σ H) := by
  refine ⟨fun pins s σ H D I h => ?_⟩
  have ok := I.ok
  have hfr : X.A.frames = some (X.env :: X.outer) := by rw [ok.frames, hs]
  have hloc : Loc X.env.scope n := .inl hln
  refine wpAny_Try_except ?_
  refine wpAny_mono ((hb (wAsT X.K c i ts Wout D) (X.pn ++ pins) (fun e s₁ => wpAny (model X.prog X.w) X.A (noteFrame e X.env) (fun _ s₂ => wpAny (model X.prog X.w) X.A (setFlight e none) (fun _ s₃ =>
    wpAny (model X.prog X.w) X.A (handleBy e X.env [.ExceptHandler (some (.Name x np)) (some n) (b₀ :: suite) pos']) (SP X pins D) X.xe s₃) X.xe s₂) X.xe s₁) (fun u s' xx => ?_) PassesOwn.looking).run [] s σ H D (I.toTry _) h) (fun f s1 hsp => ?_) (fun e s1 he => he)
  · -- the catch
    obtain ⟨a, B, sI, pins', σ', H', cls, d, rfl, J', nb, up, sky, na, os, ag, b, hb1, hyes, hno⟩ := xx
    have J : L2.Inv X pins σ' H' sI := J'.ofTry ok
    have sky' : Sky B (X.env :: X.outer) a (Zc cls d) X.env.locals s'.heap := by rw [← hs]; exact sky
    show wpAny (model X.prog X.w) X.A (noteFrame (.ref a) X.env) _ _ _
    refine Sky.land Zc.steady hfr hf sky' fun h3 fl3 up3 => ?_
    have J3 : L2.Inv X pins σ' H' { s' with heap := h3 } := J.landed nb fl3.1 (up.trans up3) os ag
    obtain ⟨oe3, vs3, he3, hz3, hd3⟩ := fl3.there
    have notFr : ∀ {h : Heap} {o : Obj} {vs : Array Value}, h.FunFrames B (X.env :: X.outer) → h.get? a = some o → o.data = .fields vs → a ∉ frs (X.env :: X.outer) := fun {h o vs} ff e dd hm => by
      obtain ⟨_, o', e', hnf⟩ := ff.mem hm
      rw [e] at e'; cases e'
      exact hnf _ dd
    have nfr := notFr fl3.2.2.1 he3 hd3
    have nL : a ≠ X.env.locals := fun z => nfr (List.mem_filterMap.mpr ⟨X.env, List.mem_cons_self, by rw [hf, z]⟩)
    have nF : a ∉ X.fs := fun hm => by
      obtain ⟨e, he, q⟩ := List.mem_filterMap.mp hm
      exact nfr (List.mem_filterMap.mpr ⟨e, List.mem_cons_of_mem _ he, q⟩)
    have nI : sI.heap.get? a = none := by
      cases e : sI.heap.get? a with
      | none => rfl
      | some o =>
        have := nb a o e (by rw [hs]; exact nfr)
        rw [fl3.2.1] at this
        cases this
    have n0 : X.s_0.heap.get? a = none := by
      cases e : X.s_0.heap.get? a with
      | none => rfl
      | some o =>
        obtain ⟨o', q⟩ := J.base.there a o e (by rw [hex]; exact fun z => nomatch z)
        rw [nI] at q; cases q
    have npin : ∀ p ∈ X.pn ++ pins, p.1 ≠ a := fun p hp z => by
      obtain ⟨q, _⟩ := J.pin p hp
      rw [z, nI] at q; cases q
    have S3 := J3.suite he3 hd3 na nL nF
    refine wpAny_handleBy_cons (codeAny_handlers_test ?_) (by intro q; cases q)
    have LT : PySem.W.Looks (model X.prog X.w) h3 (typeOf (.ref a)) cls := fun A Q E s k q => wpAny_typeOf_ref (k _ _ he3) (by rw [hz3.1]; exact q)
    have LM := PySem.W.exm_one (M := model X.prog X.w) (J3.kIn) LT hb1
    have test : ∀ {Q : Value → Shared → Prop} {E : Value → Shared → Prop}, Q c { s' with heap := h3 } → wpAny (model X.prog X.w) (X.A.mark (some (.ref a))) (eval (.Name x np) X.env) Q E { s' with heap := h3 } := fun {Q E} q => by
      obtain ⟨hg, hdbg, hm | ⟨hm, hv, hnn⟩⟩ := hc
      · exact ld_glob (X := X.suite a ((a, oe3) :: (X.pn ++ pins))) S3 hg hm q hdbg
      · exact ld_blt (X := X.suite a ((a, oe3) :: (X.pn ++ pins))) S3 hg hm hv q hnn hdbg
    refine test (LM.here ?_)
    cases b with
    | true =>
      refine codeAny_handlers_suite_as ?_
      refine HandSPX.lands_againZ fl3 fun h4 fl4 up4 => ?_
      have J4 : L2.Inv X pins σ' H' { s' with heap := h4 } := J.landed nb fl4.1 ((up.trans up3).trans up4) os ag
      obtain ⟨oe4, vs4, he4, hz4, hd4⟩ := fl4.there
      have S4 := J4.suite he4 hd4 na nL nF
      refine store_ok (X := X.suite a ((a, oe4) :: (X.pn ++ pins))) (v := .ref a) S4 hN hi hloc rfl (fun s5 S5 => ?_) (.inr hln)
      refine wpAny_mono ((hsu a oe4 cls d (X.pn ++ pins) hz4 ⟨_, hd4⟩).run [] s5 _ H' _ S5 (hyes rfl a na)) (fun f s6 hsp => ?_) (fun _ _ z => False.elim z)
      cases f with
      | next =>
        obtain ⟨σ6, H6, S6, q6⟩ := hsp
        obtain ⟨ha6, na6, _⟩ := S6.pin (a, oe4) (List.mem_append_left _ List.mem_cons_self)
        have J6 := Inv_track (S6.unsuite ok) n0 na6 nL ha6 hd4 npin (exN_ok (P := X.prog) (w := X.w) (H := upd H6 a (ExN cls d a)) ha6 hz4 hd4)
        exact gone_ok J6 hN hi hln fun s7 J7 => ⟨_, _, J7, q6⟩
      | brk =>
        obtain ⟨σ6, H6, S6, q6⟩ := hsp
        exact q6.elim
      | cont =>
        obtain ⟨σ6, H6, S6, q6⟩ := hsp
        exact q6.elim
      | ret u =>
        obtain ⟨v6, σ6, H6, S6, r6, q6⟩ := hsp
        exact q6.elim
    | false =>
      show wpAny _ X.A (handleBy (.ref a) X.env []) _ _ _
      refine wpAny_handleBy_nil ?_
      obtain ⟨k1, k2, k3, oe, vs, T, oT, ts', he, hz, hd, h1, hr⟩ := id fl3
      unfold PySem.passOn
      refine wpAny_bind (wpAny_field he hd h1 ?_)
      rw [if_neg (show ¬ ((Value.ref T == Value.none) = true) from by simp)]
      have fin : wpAny (model X.prog X.w) X.A (setFlight (.ref a) X.env.frame) (fun _ s4 => wpAny (model X.prog X.w) X.A (throw (.ref a) : Sem Flow) (SP X pins D) X.xe s4) X.xe { s' with heap := h3 } := by
        rw [hf]
        refine HandSPX.setFlight_upZ fl3 fun h4 hh4 up4 => wpAny_throw (tk _ _ ?_)
        exact ⟨a, B, sI, pins, σ', H', cls, d, rfl, J, nb, (up.trans up3).trans up4, .inr (.inr (by rw [hs]; exact hh4)), na, os, ag, hno rfl⟩
      first
        | exact wpAny_bind (wpAny_pure (wpAny_bind fin))
        | exact wpAny_bind fin
  · cases f with
    | next =>
      obtain ⟨σ', H', J', q⟩ := hsp
      exact wpAny_execs_nil ⟨σ', H', J'.ofTry ok, q⟩
    | brk =>
      obtain ⟨σ', H', J', q⟩ := hsp
      exact ⟨σ', H', J'.ofTry ok, q⟩
    | cont =>
      obtain ⟨σ', H', J', q⟩ := hsp
      exact ⟨σ', H', J'.ofTry ok, q⟩
    | ret u =>
      obtain ⟨v, σ', H', J', r, q⟩ := hsp
      exact ⟨v, σ', H', J'.ofTry ok, r, q⟩
end
structure XcC (K : PySem.W.Frag) (D : Addr) : Prop where
  cl : (PySem.W.clsIn K D).isSome = true
  hg : PySem.W.findIn K (.ref D) "__getattribute__" = some (some (.builtin "BaseException.__getattribute__"))
  hk : PySem.W.findIn K (.ref D) "__getattr__" = some none
  hs : PySem.W.subIn K (.ref D) (.type "BaseException") = some true
  hd : PySem.W.hasDictIn K D = true
  ha : PySem.W.findIn K (.ref D) "__class__" = some (some (.builtin "object.__class__"))
  hn : PySem.W.specialIn K (.builtin "object.__class__") "__get__" = some (some (.builtin "getset_descriptor.__get__"))
  ht : PySem.W.takesIn K (.builtin "object.__class__") = some true
  hm : PySem.W.mroIn K D (.type "object") = some true
def xcB (K : PySem.W.Frag) (D : Addr) : Bool :=
  (PySem.W.clsIn K D).isSome && (decide (PySem.W.findIn K (.ref D) "__getattribute__" = some (some (.builtin "BaseException.__getattribute__"))) && (decide (PySem.W.findIn K (.ref D) "__getattr__" = some none) && (decide (PySem.W.subIn K (.ref D) (.type "BaseException") = some true) && (PySem.W.hasDictIn K D && (decide (PySem.W.findIn K (.ref D) "__class__" = some (some (.builtin "object.__class__"))) && (decide (PySem.W.specialIn K (.builtin "object.__class__") "__get__" = some (some (.builtin "getset_descriptor.__get__"))) && (decide (PySem.W.takesIn K (.builtin "object.__class__") = some true) && decide (PySem.W.mroIn K D (.type "object") = some true))))))))
theorem xcB_ok {K : PySem.W.Frag} {D : Addr} (h : xcB K D = true) : XcC K D := by
  unfold xcB at h
  simp only [Bool.and_eq_true, decide_eq_true_eq] at h
  obtain ⟨h1, h2, h3, h4, h5, h6, h7, h8, h9⟩ := h
  exact ⟨h1, h2, h3, h4, h5, h6, h7, h8, h9⟩
def rIsT (K : PySem.W.Frag) : List V → Hp → VK → Prop := fun xs H Q => ∃ (a D : Addr) (d : Option Addr) (c : V) (cv : Value) (b : Bool), xs = [.ref a, c] ∧ H a = some (ExN (.ref D) d a) ∧ (∀ dd, d = some dd → ∃ fs, H dd = some (.xd fs)) ∧ XcC K D ∧ (∀ u, RelV c u → u = cv) ∧ PySem.W.kitOne K (.ref D) cv = some b ∧ Q (.bl b) H
theorem call_isT {X : Cx} : CallR X (.builtin "isinstance") (rIsT X.K) := by
  intro pins s σ H xs us Q I r h
  obtain ⟨a, D, d, c, cv, b, rfl, hH, hdx, C, hcv, e, q⟩ := h
  cases r with
  | cons rx rr =>
    cases rr with
    | cons rt rr =>
      cases rr
      cases rx
      have ec := hcv _ rt
      subst ec
      obtain ⟨⟨oe, vs, hget, hz, hv⟩, _, _⟩ := I.hok a _ hH
      have J : ∃ od, PySem.W.InstAt s.heap a oe D od := by
        obtain ⟨oc, od, oda, osl⟩ := oe
        obtain ⟨h1, h2⟩ := hz
        dsimp only at h1 h2 hv
        subst h1 h2 hv
        cases od with
        | none => exact ⟨none, hget, rfl, rfl, trivial⟩
        | some dd =>
          obtain ⟨fs, hf⟩ := hdx dd rfl
          obtain ⟨mA, hns, _⟩ := I.hok dd _ hf
          obtain ⟨o, _, _, ho, _⟩ := id hns
          exact ⟨some o, hget, rfl, rfl, ho⟩
      obtain ⟨od, J⟩ := J
      exact PySem.W.kia_one (PySem.W.kitx_exc C.cl C.hg C.hk C.hs C.ha C.hn C.ht C.hm) I.kIn J e (fun z => nomatch z) fun tk => ⟨.bl b, H, I.kept (t' := tk) fun _ _ z => z, rfl, q⟩
end Dt
namespace Dt
open PySem PySem.Spec L2 Evl PyProof.Rows
variable [WD]
structure ExF (K : PySem.W.Frag) (mg : Str → Option Value) (x : Str) : Prop where
  g : mg x = some (.ref (cA K x))
  q : PySem.W.excIn K (cA K x) He.veBase "ValueError.__new__" = true
  k : PySem.W.keepIn K (.ref (cA K x)) = true
  s : PySem.W.subIn K (.ref (cA K x)) (.type "BaseException") = some true
  t : PySem.W.typeIn K (.ref (cA K x)) = some (.type "type")
section
variable {Z : Zx} {W : WX}
def fRaise (e : XD) : Rho → R Fl := fun ρ => .ex e ρ
theorem s_raise {c : Str} : DS Z W (fun _ σ H => W (.ref (cA Z.K c)) none σ H) (fRaise ⟨c, none⟩) := fun Hf H O σ ρ s En p => p _ _ Hf H O σ s Gr.refl Orl.refl Kq.refl ⟨rfl, rfl⟩
theorem k_raise {X : Cx} {W : WX} (K : PySem.W.Frag) {x m : Str} {j : Nat} {p p2 pos pos' : Pos} (hc : X.calm = true) (tk : Takes X W) (F : ExF K X.mg x) (hg : Gl X x) (hdb : (x == ("__debug__" : Str)) = false := by decide) (hK : X.K = K := by rfl) :
    PS X (.Raise (some (.Call (.Name x p) [.Constant (.str m) j p2] [] pos)) none pos') (fun _ σ H => W (.ref (cA K x)) none σ H) := by
  subst hK
  exact ps_raise hc tk (pmk_own PySem.F.excBase_ValueError F.q F.g F.k (raises_own F.s F.t) hg hdb)
def ioS : Sl → Bool
  | .own true _ => true
  | .m true _ => true
  | _ => false
def fTryN (sub : Str → Option Bool) (fb : Rho → R Fl) (i j : Nat) : Rho → R Fl := fun ρ => match fb ρ with
  | .ex e ρ1 => (match sub e.c with
    | some true => (match ρ1[i]?, ρ1[j]? with
      | some si, some sj => if (ioS si || ioS sj || decide (i = j)) = true then .bad else .ok .nx ((ρ1.set j (.x e)).set i .no)
      | _, _ => .bad)
    | some false => .ex e ρ1
    | none => .bad)
  | r => r
theorem SR.putX {K : PySem.W.Frag} {Hf H : Hp} {O : Addr → Prop} {σ : L2.St} {ρ : Rho} (s : SR K Hf H O σ ρ) {i : Nat} {a : Addr} {e : XD} (hi : i < ρ.length) (r : XH K Hf a e) : SR K Hf H O (σ.set i (some (.ref a))) (ρ.set i (.x e)) where
  ex := s.ex
  otr := s.otr
  len := by simp [s.len]
  slot := fun j y h => by
    by_cases z : i = j
    · subst z; rw [List.getElem?_set_self hi] at h; cases h
    · rw [List.getElem?_set_ne z] at h ⊢; exact s.slot j y h
  own := fun j b xs h => by
    by_cases z : i = j
    · subst z; rw [List.getElem?_set_self hi] at h; cases h
    · rw [List.getElem?_set_ne z] at h ⊢; exact s.own j b xs h
  dis := fun j k b c xs ys l h1 h2 h3 h4 => by
    by_cases z : i = j
    · subst z; rw [List.getElem?_set_self hi] at h1; cases h1
    · by_cases z2 : i = k
      · subst z2; rw [List.getElem?_set_self hi] at h2; cases h2
      · rw [List.getElem?_set_ne z] at h1 h3
        rw [List.getElem?_set_ne z2] at h2 h4
        exact s.dis j k b c xs ys l h1 h2 h3 h4
  exc := fun j e' h => by
    by_cases z : i = j
    · subst z
      rw [List.getElem?_set_self hi] at h
      cases h
      exact ⟨a, List.getElem?_set_self (by rw [s.len]; exact hi), r⟩
    · rw [List.getElem?_set_ne z] at h ⊢; exact s.exc j e' h
  mr := s.mr.setS i _ (fun _ _ z => by cases z) fun _ _ z => by cases z
theorem SR.drop {K : PySem.W.Frag} {Hf H : Hp} {O : Addr → Prop} {σ : L2.St} {ρ : Rho} (s : SR K Hf H O σ ρ) {i : Nat} {u : Option V} (hi : i < ρ.length) : SR K Hf H O (σ.set i u) (ρ.set i .no) where
  ex := s.ex
  otr := s.otr
  len := by simp [s.len]
  slot := fun j y h => by
    by_cases z : i = j
    · subst z; rw [List.getElem?_set_self hi] at h; cases h
    · rw [List.getElem?_set_ne z] at h ⊢; exact s.slot j y h
  own := fun j b xs h => by
    by_cases z : i = j
    · subst z; rw [List.getElem?_set_self hi] at h; cases h
    · rw [List.getElem?_set_ne z] at h ⊢; exact s.own j b xs h
  dis := fun j k b c xs ys l h1 h2 h3 h4 => by
    by_cases z : i = j
    · subst z; rw [List.getElem?_set_self hi] at h1; cases h1
    · by_cases z2 : i = k
      · subst z2; rw [List.getElem?_set_self hi] at h2; cases h2
      · rw [List.getElem?_set_ne z] at h1 h3
        rw [List.getElem?_set_ne z2] at h2 h4
        exact s.dis j k b c xs ys l h1 h2 h3 h4
  exc := fun j e' h => by
    by_cases z : i = j
    · subst z; rw [List.getElem?_set_self hi] at h; cases h
    · rw [List.getElem?_set_ne z] at h ⊢; exact s.exc j e' h
  mr := s.mr.setS i _ (fun _ _ z => by cases z) fun _ _ z => by cases z
theorem s_tryN {tb : WX → TS} {fb : Rho → R Fl} {c : Str} {i j : Nat} {sub : Str → Option Bool} (hsub : ∀ n b, sub n = some b → PySem.W.exmOne Z.K (.ref (cA Z.K n)) (.ref (cA Z.K c)) = some b) (hb : ∀ W', DS Z W' (tb W') fb) :
    DS Z W (fun D σ H => tb (wAsT Z.K (.ref (cA Z.K c)) i (fun _ _ _ => tAsg (tVar i) (gName j)) W D) D σ H) (fTryN sub fb i j) := by
  intro Hf H O σ ρ s En p
  refine hb _ Hf H O σ ρ s En ?_
  unfold fTryN at p
  cases ef : fb ρ with
  | bad => rw [ef] at p; exact p
  | ok fl ρ1 => rw [ef] at p; exact p
  | ex e ρ1 =>
    rw [ef] at p
    intro cls d Hf1 H1 O1 σ1 s1 g1 o1 k1 xr
    obtain ⟨rfl, xf⟩ := xr
    simp only at p
    cases es : sub e.c with
    | none => rw [es] at p; exact p.elim
    | some b =>
      rw [es] at p
      refine ⟨b, hsub _ _ es, fun hbt a na => ?_, fun hbf => ?_⟩
      · subst hbt
        cases ei : ρ1[i]? with
        | none => rw [ei] at p; exact p.elim
        | some si =>
          cases ej : ρ1[j]? with
          | none => rw [ei, ej] at p; exact p.elim
          | some sj =>
            rw [ei, ej] at p
            have p : PostS Z W O σ ρ Hf H En (if (ioS si || ioS sj || decide (i = j)) = true then .bad else .ok .nx ((ρ1.set j (.x e)).set i .no)) := p
            by_cases hc : (ioS si || ioS sj || decide (i = j)) = true
            · rw [if_pos hc] at p; exact p.elim
            · rw [if_neg hc] at p
              simp only [Bool.or_eq_true, not_or, decide_eq_true_eq] at hc
              obtain ⟨⟨c1, c2⟩, c3⟩ := hc
              have hi := (List.getElem?_eq_some_iff.mp ei).1
              have hj := (List.getElem?_eq_some_iff.mp ej).1
              have g2 := Pg.new (o := ExN (.ref (cA Z.K e.c)) d a) s1.ex na
              have s2 := s1.grow g2
              have xh : XH Z.K (upd Hf1 a (ExN (.ref (cA Z.K e.c)) d a)) a e := by
                unfold XH
                cases efs : e.fs with
                | none =>
                  rw [efs] at xf
                  have xf : d = none := xf
                  subst xf
                  exact upd_same
                | some fs =>
                  rw [efs] at xf
                  obtain ⟨dd, vs, rfl, h1, h2⟩ := xf
                  exact ⟨dd, vs, upd_same, g2.ef _ _ h1, h2.mono g2.ef⟩
              have s3 := (s2.putX hj xh).drop (i := i) (u := none) (by simpa using hi)
              show ∃ v, (σ1.set i (some (.ref a)))[i]? = some (some v) ∧ _
              refine ⟨.ref a, List.getElem?_set_self (by rw [s1.len]; exact hi), ?_⟩
              show En.nx (((σ1.set i (some (.ref a))).set j (some (.ref a))).set i none) _
              have eσ : ((σ1.set i (some (.ref a))).set j (some (.ref a))).set i none = (σ1.set j (some (.ref a))).set i none := by
                rw [List.set_comm _ _ (fun z => c3 z), List.set_set]
              rw [eσ]
              have kj : Kq ρ1 (ρ1.set j (.x e)) σ1 (σ1.set j (some (.ref a))) := Kq.setS (fun xs ek => by rw [ej] at ek; cases ek; exact c2 rfl) fun xs ek => by rw [ej] at ek; cases ek; exact c2 rfl
              have ei' : (ρ1.set j (.x e))[i]? = some si := by rw [List.getElem?_set_ne (fun z => c3 z.symm)]; exact ei
              have ki : Kq (ρ1.set j (.x e)) ((ρ1.set j (.x e)).set i .no) (σ1.set j (some (.ref a))) ((σ1.set j (some (.ref a))).set i none) := Kq.setS (fun xs ek => by rw [ei'] at ek; cases ek; exact c1 rfl) fun xs ek => by rw [ei'] at ek; cases ek; exact c1 rfl
              exact p _ _ O1 _ s3 (g1.transO g2.gr o1) o1 (k1.trans (kj.trans ki))
      · subst hbf
        exact p _ d Hf1 H1 O1 σ1 s1 g1 o1 k1 ⟨rfl, xf⟩
def fIsX (sub : Str → Option Bool) (i : Nat) : Rho → R AV := fun ρ => match ρ[i]? with
  | some (.x e) => (match sub e.c with
    | some b => .ok (.d (.bool b)) ρ
    | none => .bad)
  | _ => .bad
theorem d_isX {i : Nat} {cv : V} {cu : Value} {sub : Str → Option Bool} (hcv : ∀ u, RelV cv u → u = cu) (hsub : ∀ n b, sub n = some b → XcC Z.K (cA Z.K n) ∧ PySem.W.kitOne Z.K (.ref (cA Z.K n)) cu = some b) :
    DE Z W (tCB (rIsT Z.K) (tCons (tVar i) (tCons (tC cv) tNil))) (fIsX sub i) := by
  intro Hf H O σ ρ s Q p
  unfold fIsX at p
  cases e0 : ρ[i]? with
  | none => rw [e0] at p; exact p.elim
  | some z =>
    rw [e0] at p
    cases z with
    | no => exact p.elim
    | d _ => exact p.elim
    | own _ _ => exact p.elim
    | m _ _ => exact p.elim
    | x e =>
      simp only at p
      cases es : sub e.c with
      | none => rw [es] at p; exact p.elim
      | some b =>
        rw [es] at p
        obtain ⟨a, h1, h2⟩ := s.exc i e e0
        obtain ⟨hx, hk⟩ := hsub _ _ es
        refine ⟨.ref a, h1, ?_⟩
        have q := p Hf H s Gr.refl Kp.refl (.bl b) (RD.bl b)
        unfold XH at h2
        cases efs : e.fs with
        | none =>
          rw [efs] at h2
          exact ⟨a, _, none, cv, cu, b, rfl, s.ex _ _ h2, (fun dd z => by cases z), hx, hcv, hk, q⟩
        | some fs =>
          rw [efs] at h2
          obtain ⟨dd, vs, h3, h4, h5⟩ := h2
          exact ⟨a, _, some dd, cv, cu, b, rfl, s.ex _ _ h3, (fun d' z => by cases z; exact ⟨vs, s.ex _ _ h4⟩), hx, hcv, hk, q⟩
def fIsNX (i : Nat) : Rho → R AV := fun ρ => match ρ[i]? with
  | some (.x _) => .ok (.d (.bool false)) ρ
  | some (.d v) => .ok (.d (.bool (isNon v))) ρ
  | _ => .bad
def kCallX (g : Rho → R RV) (s0 : Option Sl) (o : Option (List Pd)) (ρ1 : Rho) : R AV := match s0, o with
  | some (.x e), some xs => (match g (.x e :: xs.map Sl.d) with
    | .ok (.d x) _ => .ok (.d x) ρ1
    | .ex e _ => .ex e ρ1
    | _ => .bad)
  | _, _ => .bad
def fCallX (n i : Nat) (g : Rho → R RV) (fa : Rho → R (List AV)) : Rho → R AV := fun ρ => match ρ[i]? with
  | some (.x _) => (fa ρ).bind fun as ρ1 => kCallX g ρ1[i]? (argsD n as) ρ1
  | _ => .bad
theorem d_callX {n i : Nat} {g : Rho → R RV} {t : TA} {fa : Rho → R (List AV)} (ha : DA Z W t fa) : DE Z W (tCallS (spF Z (n + 1) g) (WE W) (tCons (tVar i) t)) (fCallX n i g fa) := by
  intro Hf H O σ ρ s Q p
  unfold fCallX at p
  cases e0 : ρ[i]? with
  | none => rw [e0] at p; exact p.elim
  | some z0 =>
    rw [e0] at p
    cases z0 with
    | no => exact p.elim
    | d _ => exact p.elim
    | own _ _ => exact p.elim
    | m _ _ => exact p.elim
    | x e0' =>
      simp only at p
      obtain ⟨a0, h1, h2⟩ := s.exc i e0' e0
      refine ⟨.ref a0, h1, ?_⟩
      refine ha.bind s p fun as ρ1 vs Hf1 H1 s1 g1 k1 rs p1 => ?_
      cases e1 : ρ1[i]? with
      | none => rw [e1] at p1; exact p1.elim
      | some z1 =>
        rw [e1] at p1
        cases z1 with
        | no => exact p1.elim
        | d _ => exact p1.elim
        | own _ _ => exact p1.elim
        | m _ _ => exact p1.elim
        | x e =>
          obtain ⟨a, q1, q2⟩ := s1.exc i e e1
          rw [h1] at q1
          cases q1
          cases ed : argsD n as with
          | none => rw [ed] at p1; exact p1.elim
          | some xs =>
            rw [ed] at p1
            obtain ⟨r, hn⟩ := argsD_ok rs ed
            have ra := r.args s1.ex
            have sc : SR Z.K Hf1 H1 (fun _ => False) ((V.ref a0 :: vs).map some) (.x e :: xs.map Sl.d) := by
              refine ⟨s1.ex, fun a h => h.elim, by simp [r.length], fun j x h => ?_, fun j c x h => ?_, fun j k c d x y m b1 b2 _ _ => ?_, fun j e' h => ?_, MR.none fun j c o h => ?mu⟩
              case mu =>
                cases j with
                | zero => cases h
                | succ j => exact ioArgs (xs := xs) (σ := []) |>.nom j c o h
              · cases j with
                | zero => cases h
                | succ j => exact ra.slot j x h
              · cases j with
                | zero => cases h
                | succ j => obtain ⟨_, _, _, z, _⟩ := ra.own j c x h; exact z.elim
              · cases j with
                | zero => cases b1
                | succ j => obtain ⟨_, _, _, z, _⟩ := ra.own j c x b1; exact z.elim
              · cases j with
                | zero => cases h; exact ⟨a0, rfl, q2⟩
                | succ j => exact ra.exc j e' h
            have io : IoOk (fun _ => False) ((V.ref a0 :: vs).map some) (.x e :: xs.map Sl.d) := by
              refine ⟨fun j b x h => ?_, fun j c o h => ?_, fun a h => h.elim⟩
              · cases j with
                | zero => cases h
                | succ j => obtain ⟨_, _, _, z, _⟩ := ra.own j b x h; exact z.elim
              · cases j with
                | zero => cases h
                | succ j => exact ioArgs (xs := xs) (σ := []) |>.nom j c o h
            refine ⟨congrArg Nat.succ hn, Hf1, fun _ => False, .x e :: xs.map Sl.d, sc, io, ?_⟩
            unfold kCallX at p1
            simp only at p1
            cases eg : g (.x e :: xs.map Sl.d) with
            | bad => rw [eg] at p1; exact p1.elim
            | ex y as' =>
              rw [eg] at p1
              intro cls d Hf' H' s' g' xr
              have gp := g'.pg s'.ex
              exact p1 cls d Hf' H' (s1.grow gp) gp.gr Kp.refl xr
            | ok rv as' =>
              rw [eg] at p1
              cases rv with
              | l ys => exact p1.elim
              | m ys => exact p1.elim
              | d y =>
                intro v Hf' H' s' g' rd
                have gp := g'.pg s'.ex
                exact p1 Hf' H' (s1.grow gp) gp.gr Kp.refl v rd
end
section
variable {ρ : Rho} {i j n : Nat}
omit [WD] in
@[simp] theorem fRaise_ap {e : XD} : fRaise e ρ = .ex e ρ := rfl
omit [WD] in
@[simp] theorem fIsX_ap {sub : Str → Option Bool} : fIsX sub i ρ = (match ρ[i]? with | some (.x e) => (match sub e.c with | some b => .ok (.d (.bool b)) ρ | none => .bad) | _ => .bad) := rfl
omit [WD] in
@[simp] theorem fIsNX_ap : fIsNX i ρ = (match ρ[i]? with | some (.x _) => .ok (.d (.bool false)) ρ | some (.d v) => .ok (.d (.bool (isNon v))) ρ | _ => .bad) := rfl
omit [WD] in
@[simp] theorem fCallX_ap {g : Rho → R RV} {fa : Rho → R (List AV)} : fCallX n i g fa ρ = (match ρ[i]? with | some (.x _) => (fa ρ).bind fun as ρ1 => kCallX g ρ1[i]? (argsD n as) ρ1 | _ => .bad) := rfl
omit [WD] in
@[simp] theorem kCallX_some {g : Rho → R RV} {e : XD} {xs : List Pd} : kCallX g (some (.x e)) (some xs) ρ = (match g (.x e :: xs.map Sl.d) with | .ok (.d x) _ => .ok (.d x) ρ | .ex e _ => .ex e ρ | _ => .bad) := rfl
omit [WD] in
theorem fTryN_ex {sub : Str → Option Bool} {fb : Rho → R Fl} {e : XD} {ρ1 : Rho} {si sj : Sl} (h : fb ρ = .ex e ρ1) (hs : sub e.c = some true) (hi : ρ1[i]? = some si) (hj : ρ1[j]? = some sj) (ni : ioS si = false) (nj : ioS sj = false) (hij : i ≠ j) :
    fTryN sub fb i j ρ = .ok .nx ((ρ1.set j (.x e)).set i .no) := by
  unfold fTryN
  rw [h]
  simp only [hs, hi, hj, ni, nj]
  simp [hij]
end
def sbG (raised : List Str) (up : List (Str × Str)) (c n : Str) : Option Bool := if n ∈ raised then some (decide ((n, c) ∈ up)) else none
def okIs (K : PySem.W.Frag) (raised tested : List Str) (up : List (Str × Str)) : Bool := raised.all fun n => xcB K (cA K n) && tested.all fun c => decide (PySem.W.kitOne K (.ref (cA K n)) (.ref (cA K c)) = some (decide ((n, c) ∈ up)))
def okIsB (K : PySem.W.Frag) (raised : List Str) (c : Str) (v : Value) (up : List (Str × Str)) : Bool := raised.all fun n => xcB K (cA K n) && decide (PySem.W.kitOne K (.ref (cA K n)) v = some (decide ((n, c) ∈ up)))
def okEx (K : PySem.W.Frag) (raised caught : List Str) (up : List (Str × Str)) : Bool := raised.all fun n => caught.all fun c => decide (PySem.W.exmOne K (.ref (cA K n)) (.ref (cA K c)) = some (decide ((n, c) ∈ up)))
omit [WD] in
theorem sbG_some {raised : List Str} {up : List (Str × Str)} {c n : Str} {b : Bool} (h : sbG raised up c n = some b) : n ∈ raised ∧ b = decide ((n, c) ∈ up) := by
  unfold sbG at h
  split at h
  · next z => exact ⟨z, (Option.some.inj h).symm⟩
  · cases h
theorem okIs_ok {K : PySem.W.Frag} {raised tested : List Str} {up : List (Str × Str)} (h : okIs K raised tested up = true) (c : Str) (hc : decide (c ∈ tested) = true) (n : Str) (b : Bool) (e : sbG raised up c n = some b) : XcC K (cA K n) ∧ PySem.W.kitOne K (.ref (cA K n)) (.ref (cA K c)) = some b := by
  obtain ⟨hn, rfl⟩ := sbG_some e
  have := List.all_eq_true.mp h n hn
  simp only [Bool.and_eq_true] at this
  exact ⟨xcB_ok this.1, of_decide_eq_true (List.all_eq_true.mp this.2 c (of_decide_eq_true hc))⟩
theorem okIsB_ok {K : PySem.W.Frag} {raised : List Str} {c : Str} {v : Value} {up : List (Str × Str)} (h : okIsB K raised c v up = true) (n : Str) (b : Bool) (e : sbG raised up c n = some b) : XcC K (cA K n) ∧ PySem.W.kitOne K (.ref (cA K n)) v = some b := by
  obtain ⟨hn, rfl⟩ := sbG_some e
  have := List.all_eq_true.mp h n hn
  simp only [Bool.and_eq_true] at this
  exact ⟨xcB_ok this.1, of_decide_eq_true this.2⟩
theorem okEx_ok {K : PySem.W.Frag} {raised caught : List Str} {up : List (Str × Str)} (h : okEx K raised caught up = true) (c : Str) (hc : decide (c ∈ caught) = true) (n : Str) (b : Bool) (e : sbG raised up c n = some b) : PySem.W.exmOne K (.ref (cA K n)) (.ref (cA K c)) = some b := by
  obtain ⟨hn, rfl⟩ := sbG_some e
  exact of_decide_eq_true (List.all_eq_true.mp (List.all_eq_true.mp h n hn) c (of_decide_eq_true hc))
theorem kIsT {X : Cx} (K : PySem.W.Frag) (hK : X.K = K := by rfl) : CallR X (.builtin "isinstance") (rIsT K) := by subst hK; exact call_isT
end Dt
namespace Dt
open PySem PySem.Spec L2 Evl PyProof.Rows
variable [WD]
section
variable {X : Cx} {o e : Expr} {es : List Expr} {to te : TE} {ta : TA} {f x : Str} {p p' p1 p2 pos : Pos} {L : Addr}
structure BaC (K : PySem.W.Frag) (L : Addr) : Prop where
  g : PySem.W.specialIn K (.ref L) "__getattribute__" = some (some (.builtin "type.__getattribute__"))
  r : PySem.W.readsIn K L (.type "type") = true
  i : (match PySem.W.findCls K (.ref L) (.type "type") "__init__" with | some (.val v) => v == .builtin "ValueError.__init__" | _ => false) = true
theorem BaC.init {K : PySem.W.Frag} (B : BaC K L) : PySem.W.findCls K (.ref L) (.type "type") "__init__" = some (.val (.builtin "ValueError.__init__")) := by
  have h := B.i
  split at h
  · next v e => rw [e, eq_of_beq h]
  · cases h
end
def fRaiseP (c f : Str) (fe : Rho → R AV) : Rho → R Fl := fun ρ => (fe ρ).bind fun a ρ1 => match a with
  | .d x => .ex ⟨c, some [(f, x)]⟩ ρ1
  | .sl _ => .bad
structure ExI (K : PySem.W.Frag) (mg : Str → Option Value) (x : Str) (fI : Addr) : Prop where
  g : mg x = some (.ref (cA K x))
  o : OexC K (cA K x)
  i : PySem.W.findIn K (.ref (cA K x)) "__init__" = some (some (.ref fI))
  t : PySem.W.typeIn K (.ref fI) = some (.type "function")
theorem RF.look {K : PySem.W.Frag} {H : Hp} {f : Str} {d : Pd} : ∀ {vs : List (Str × V)} {ds : List (Str × Pd)}, RF K H vs ds → ds.lookup f = some d → ∃ v, vs.lookup f = some v ∧ RD K H v d
  | _, _, .nil, h => by cases h
  | _, _, .cons (k := k) (v := v) (vs := vs) (d := d') (ds := ds) r rs, h => by
    rw [List.lookup_cons] at h ⊢
    cases e : f == k with
    | true => rw [e] at h; cases h; exact ⟨v, rfl, r⟩
    | false => rw [e] at h; exact RF.look rs h
def fXf (ok : Str → Bool) (i : Nat) (f : Str) : Rho → R AV := fun ρ => match ρ[i]? with
  | some (.x e) => (match ok e.c, e.fs with
    | true, some fs => (match fs.lookup f with
      | some v => .ok (.d v) ρ
      | none => .bad)
    | _, _ => .bad)
  | _ => .bad
section
variable {ρ : Rho} {i : Nat}
omit [WD] in
@[simp] theorem fRaiseP_ap {c f : Str} {fe : Rho → R AV} : fRaiseP c f fe ρ = (fe ρ).bind fun a ρ1 => (match a with | .d x => .ex ⟨c, some [(f, x)]⟩ ρ1 | .sl _ => .bad) := rfl
omit [WD] in
@[simp] theorem fXf_ap {ok : Str → Bool} {f : Str} : fXf ok i f ρ = (match ρ[i]? with
  | some (.x e) => (match ok e.c, e.fs with
    | true, some fs => (match fs.lookup f with
      | some v => .ok (.d v) ρ
      | none => .bad)
    | _, _ => .bad)
  | _ => .bad) := rfl
end
def oexC0 (K : PySem.W.Frag) (C : Addr) : Bool := match K.lookup C with
  | some ⟨.type "type", _, .cls cd, sl⟩ => (match cd.mro, sl.toList with
    | .ref C' :: bm, [_, _, _, _, some (.builtin n), _] => C' == C && n == "ValueError.__new__" && !cd.hasDel && cd.hasDict && PySem.HandSPX.refsVE bm
    | _, _ => false)
  | _ => false
def oexB (K : PySem.W.Frag) (C : Addr) : Bool := oexC0 K C && (decide (PySem.W.findIn K (.ref C) "__setattr__" = some (some (.builtin "object.__setattr__"))) && (decide (PySem.W.subIn K (.ref C) (.type "BaseException") = some true) && (decide (PySem.W.typeIn K (.ref C) = some (.type "type")) && PySem.W.keepIn K (.ref C))))
theorem oexB_ok {K : PySem.W.Frag} {C : Addr} (h : oexB K C = true) : OexC K C := by
  unfold oexB at h
  simp only [Bool.and_eq_true, decide_eq_true_eq] at h
  obtain ⟨q, h2, h3, h4, h5⟩ := h
  refine ⟨?_, h2, h3, h4, h5⟩
  unfold oexC0 at q
  split at q
  · rename_i dd cd sl ho
    split at q
    · rename_i C' bm k0 k1 k2 k3 n k5 hm hs
      simp only [Bool.and_eq_true, beq_iff_eq, Bool.not_eq_true'] at q
      obtain ⟨⟨⟨⟨rfl, rfl⟩, hdel⟩, hdi⟩, ht⟩ := q
      obtain ⟨nm, bs, mro, ns, qn, hd, sn, sub, ab, col, del⟩ := cd
      dsimp only at hm hdel hdi
      subst hm hdel hdi
      have hsl : sl = #[k0, k1, k2, k3, some (.builtin "ValueError.__new__"), k5] := by
        obtain ⟨l⟩ := sl
        simp only at hs
        rw [hs]
      subst hsl
      exact ⟨nm, qn, ns, bs, bm, sn, sub, ab, col, dd, k0, k1, k2, k3, k5, ho, ht⟩
    · cases q
  · cases q
def bacB (K : PySem.W.Frag) (L : Addr) : Bool := decide (PySem.W.specialIn K (.ref L) "__getattribute__" = some (some (.builtin "type.__getattribute__"))) && (PySem.W.readsIn K L (.type "type") && (match PySem.W.findCls K (.ref L) (.type "type") "__init__" with | some (.val v) => v == .builtin "ValueError.__init__" | _ => false))
theorem bacB_ok {K : PySem.W.Frag} {L : Addr} (h : bacB K L = true) : BaC K L := by
  unfold bacB at h
  obtain ⟨h1, h⟩ := Bool.and_eq_true_iff.mp h
  obtain ⟨h2, h3⟩ := Bool.and_eq_true_iff.mp h
  exact ⟨of_decide_eq_true h1, h2, h3⟩
def iniB (K : PySem.W.Frag) (x b f : Str) : Bool := oexB K (cA K x) && (bacB K (cA K b) && (decide (PySem.W.findIn K (.ref (cA K x)) "__init__" = some (some (.ref (He.ma K (cA K x) "__init__")))) && (decide (PySem.W.typeIn K (.ref (He.ma K (cA K x) "__init__")) = some (.type "function")) && (decide (PySem.W.findIn K (.ref (cA K x)) f = some none) && xfB K (cA K x)))))
structure InI (K : PySem.W.Frag) (mg : Str → Option Value) (x b f q : Str) (st : Stmt) where
  fd : FuncData
  F : FunD K "__init__" q (defArgs st) (defBody st) (defScope st) [] [] (He.ma K (cA K x) "__init__") fd
  E : ExI K mg x (He.ma K (cA K x) "__init__")
  B : BaC K (cA K b)
  no : PySem.W.findIn K (.ref (cA K x)) f = some none
  xf : XfC K (cA K x)
def InI.of {K : PySem.W.Frag} {mg : Str → Option Value} {x b f q : Str} {st : Stmt} {fd : FuncData} (F : FunD K "__init__" q (defArgs st) (defBody st) (defScope st) [] [] (He.ma K (cA K x) "__init__") fd) (g : mg x = some (.ref (cA K x))) (h : iniB K x b f = true) : InI K mg x b f q st := by
  unfold iniB at h
  simp only [Bool.and_eq_true, decide_eq_true_eq] at h
  exact ⟨fd, F, ⟨g, oexB_ok h.1, h.2.2.1, h.2.2.2.1⟩, bacB_ok h.2.1, h.2.2.2.2.1, xfB_ok h.2.2.2.2.2⟩
def asE (g : Addr → Option Obj) (n : Nat) : List Addr := He.asD g n ++ [cStatics]
def obsE (n : Nat) (fa : List He.Fa) (fn : List He.DefD) (ex : PySem.W.Frag → Bool) (g : Addr → Option Obj) : He.AlD × Bool := (He.obsD fa fn (He.frG g (asE g n)), ex (He.frG g (asE g n)))
def hookE (n : Nat) (fa : List He.Fa) (fn : List He.DefD) (ex : PySem.W.Frag → Bool) : PySem.W.Hook where
  α := He.AlD × Bool
  obs := fun s => obsE n fa fn ex s.heap.get?
  val := fun _ => (He.valD fn, true)
  says := fun _ h => ∃ K : PySem.W.Frag, K.In h ∧ He.SaysD fa fn K ∧ ex K = true
  of := fun _ _ e => ⟨_, He.frG_in, congrArg Prod.fst e, congrArg Prod.snd e⟩
  keeps := fun _ _ _ ⟨K, hK, c⟩ k => ⟨K, PySem.W.Frag.In.keeps hK k, c⟩
omit [WD] in
theorem obsE_eq {n : Nat} {fa : List He.Fa} {fn : List He.DefD} {ex : PySem.W.Frag → Bool} {g : Addr → Option Obj} {s : Shared} (h : ∀ a, g a = s.heap.get? a) : obsE n fa fn ex g = (hookE n fa fn ex).obs s := by
  have e : g = s.heap.get? := funext h
  rw [e] <;> rfl
end Dt
namespace Dt
open PySem PySem.Spec PyProof.Rows
variable [WD]
def newN (zs : List Str) : Nat → Nat
  | 0 => 0
  | i + 1 => if (zs.take i).any (· == zs.getD i Str.empty) = true then newN zs i else newN zs i + 1
omit [WD] in
theorem newN_le (zs : List Str) : ∀ i, newN zs i ≤ i
  | 0 => Nat.le_refl _
  | i + 1 => by
    have := newN_le zs i
    unfold newN
    split <;> omega
omit [WD] in
theorem take_any (zs : List Str) {i : Nat} (hi : i < zs.length) (q : Str) : ((zs.take i).any (· == q) || decide (q = zs.getD i Str.empty)) = (zs.take (i + 1)).any (· == q) := by
  rw [List.take_add_one, List.getD_eq_getElem?_getD, List.getElem?_eq_getElem hi, List.any_append]
  congr 1
  simp only [Option.getD_some, Option.toList_some, List.any_cons, List.any_nil, Bool.or_false]
  rw [Bool.eq_iff_iff, decide_eq_true_eq, beq_iff_eq]
  exact eq_comm
section
variable {prog : Program} {w : World} {A : Around} {R : Result → Shared → Prop} {J : Addr} {fp wr : List Addr} {G : Array GenState → Array GenState → Prop} {n : Nat} {Pr : Nat → Value → Prop} {St : Nat → Shared → Prop}
theorem strs_loop (V : WalksS prog w A.in1 J fp wr G n Pr St) (S : Addr) (nf : S ∉ fp) (zs : List Str) (hz : zs.length = n) (hb : n ≤ 1000) (hv : ∀ i v, Pr i v → ∃ t, v = .str (zs.getD i Str.empty) t) :
    ∀ (m i : Nat) (s : Shared), n - i = m → i ≤ n → St i s → s.heap.SetOf (PySem.strKind prog w) S (fun q => (zs.take i).any (· == q)) (newN zs i) →
      (∀ s2, Moved (S :: wr) G s s2 → s2.heap.SetOf (PySem.strKind prog w) S (fun q => (zs.take n).any (· == q)) (newN zs n) → R (.ok (.ret .none)) s2) →
      codeAny (model prog w) A (.builtin "set.update.loop" ⟨[.ref S, .ref J], []⟩) R s := by
  have nw : S ∉ wr := fun z => nf (V.sub _ z)
  have up : ∀ b ∈ wr, b ∈ S :: wr := fun b z => List.mem_cons_of_mem _ z
  intro m
  induction m with
  | zero =>
    intro i s hm hi st hS k
    obtain rfl : i = n := by omega
    refine codeAny_builtin PyProof.Rows.F.entry_set_update_loop ?_
    rw [Around.under_plainId PyProof.Rows.F.plain_set_update_loop _]
    show wpAny _ A.in1 (pyNext (.ref J) >>= _) _ _ s
    refine wpAny_bind (V.done s _ _ st fun s2 mv => ?_)
    obtain ⟨o, es, ep, t, ho, more⟩ := hS
    exact wpAny_pure (k s2 (mv.mono up) ⟨o, es, ep, t, mv.heap S _ nw ho, more⟩)
  | succ m ih =>
    intro i s hm hi st hS k
    have lt : i < n := by omega
    have le := newN_le zs i
    refine codeAny_builtin PyProof.Rows.F.entry_set_update_loop ?_
    rw [Around.under_plainId PyProof.Rows.F.plain_set_update_loop _]
    show wpAny _ A.in1 (pyNext (.ref J) >>= _) _ _ s
    refine wpAny_bind (V.item i s _ _ lt st fun v s2 hP st2 mv => ?_)
    obtain ⟨t, rfl⟩ := hv i v hP
    have hS2 : s2.heap.SetOf (PySem.strKind prog w) S (fun q => (zs.take i).any (· == q)) (newN zs i) := by
      obtain ⟨o, es, ep, tb, ho, more⟩ := hS
      exact ⟨o, es, ep, tb, mv.heap S _ nw ho, more⟩
    show wpAny _ A.in1 (holding [Value.str (zs.getD i Str.empty) t] (setAdd S (.str (zs.getD i Str.empty) t)) >>= _) _ _ s2
    refine wpAny_bind (wpAny_holding ?_)
    unfold setAdd
    refine wpAny_holding (wpAny_bind ((PySem.strKind prog w).pyHash (k := zs.getD i Str.empty) (strKind_is _ _ _ _) ?_))
    refine wpAny_setAddHashed_of (knd := PySem.strKind prog w) (s := { s2 with toks := s2.toks + 1 }) (strKind_is _ _ _ _) rfl hS2 (by unfold scanBound; omega) fun h3 sb hS3 => ?_
    have hS4 : h3.SetOf (PySem.strKind prog w) S (fun q => (zs.take (i + 1)).any (· == q)) (newN zs (i + 1)) := SetOf_congr hS3 (fun q => take_any zs (by omega) q) rfl
    refine wpAny_pure ⟨plainId_quiet PyProof.Rows.F.plain_set_update_loop _, ih (i + 1) _ (by omega) lt (V.frame _ s2 _ _ st2 (Nat.le_succ _) fun b hb o e => ?_) hS4 fun s4 mv4 hS5 => ?_⟩
    · rw [sb.2 b (fun z : b = S => nf (by rw [← z]; exact hb))]
      exact e
    · refine k s4 (Moved.trans V.gtrans ((mv.mono up).then_heap (Nat.le_succ _) fun b o hb e => ?_) mv4) hS5
      rw [sb.2 b (fun z : b = S => hb (by rw [z]; exact List.mem_cons_self))]
      exact e
end
section
variable {prog : Program} {w : World} {A : Around} {E : Value → Shared → Prop} {s : Shared}
abbrev nSet (led : Bool) : Obj := { cls := .type "set", dict := none, data := .set #[] 0 (.fresh 0 0 led) }
end
end Dt
namespace Dt
open PySem PySem.Spec L2 Evl
variable [WD]
def lenSetD : Pd → Option Pd
  | .list xs => match strsD xs with
    | some zs => if zs.length ≤ 1000 then some (.int (newN zs zs.length)) else none
    | none => none
  | _ => none
omit [WD] in
@[simp] theorem lenSetD_list {xs : List Pd} : lenSetD (.list xs) = match strsD xs with
    | some zs => if zs.length ≤ 1000 then some (.int (newN zs zs.length)) else none
    | none => none := rfl
structure TabK (K : PySem.W.Frag) (w : World) (a : Addr) (kvs : List (Str × Int)) : Prop where
  kd : ∃ es n, KDict K w a es n
  no : ∀ z, kvs.lookup z = none → PySem.W.nsIn K a z = some none
  yes : ∀ z i, kvs.lookup z = some i → ∃ t, PySem.W.nsIn K a z = some (some (.int i t))
structure TabI (K : PySem.W.Frag) (mg : Str → Option Value) (w : World) (x : Str) (kvs : List (Str × Int)) where
  a : Addr
  g : mg x = some (.ref a)
  t : TabK K w a kvs
section
variable {X : Cx} {d : Addr} {kvs : List (Str × Int)} {w : World} {K : PySem.W.Frag}
end
def inT (kvs : List (Str × Int)) (n : Bool) : Pd → Option Pd
  | .str z => some (.bool (if n then !(kvs.lookup z).isSome else (kvs.lookup z).isSome))
  | _ => none
def getT (kvs : List (Str × Int)) : Pd → Option Pd
  | .str z => (kvs.lookup z).map .int
  | _ => none
section
variable {Z : Zx} {W : WX} {d : Addr} {kvs : List (Str × Int)} {w : World} {n : Bool}
end
omit [WD] in
@[simp] theorem inT_str {kvs : List (Str × Int)} {n : Bool} {z : Str} : inT kvs n (.str z) = some (.bool (if n then !(kvs.lookup z).isSome else (kvs.lookup z).isSome)) := rfl
omit [WD] in
@[simp] theorem getT_str {kvs : List (Str × Int)} {z : Str} : getT kvs (.str z) = (kvs.lookup z).map .int := rfl
abbrev TabD : Type := Str × List (Str × Int)
section
variable {fa : List He.Fa} {fn : List He.DefD} {ex : PySem.W.Frag → Bool} {ts : List TabD} {w : World} {K : PySem.W.Frag}
end
end Dt
namespace Dt
open PySem PySem.Spec L2 Evl
section
variable {A B : Type} {ρ ρ1 : Rho} {i j n : Nat} {x y : Pd}
@[simp] theorem bind_ok' {a : A} {k : A → Rho → R B} : (R.ok a ρ).bind k = k a ρ := rfl
@[simp] theorem bind_bad' {k : A → Rho → R B} : (R.bad : R A).bind k = .bad := rfl
@[simp] theorem bind_ex' {e : XD} {k : A → Rho → R B} : (R.ex e ρ : R A).bind k = .ex e ρ := rfl
@[simp] theorem fVar_ap : fVar i ρ = (match ρ[i]? with | some (.d x) => .ok (.d x) ρ | _ => .bad) := rfl
@[simp] theorem fOwn_ap : fOwn i ρ = (match ρ[i]? with | some (.own _ _) => .ok (.sl i) ρ | _ => .bad) := rfl
@[simp] theorem fC_ap : fC x ρ = .ok (.d x) ρ := rfl
@[simp] theorem res_d : res ρ (.d x) = some x := rfl
@[simp] theorem res_sl : res ρ (.sl i) = (match ρ[i]? with | some (.own _ xs) => some (.list xs) | some (.d x) => some x | _ => none) := rfl
@[simp] theorem f2_ap {h : Pd → Pd → Option Pd} {fa fb : Rho → R AV} : f2 h fa fb ρ = (fa ρ).bind fun a ρ1 => (fb ρ1).bind fun b ρ2 => op2 h a b ρ2 := rfl
@[simp] theorem op2_ap {h : Pd → Pd → Option Pd} {a b : AV} : op2 h a b ρ = (match res ρ a, res ρ b with | some x, some y => (match h x y with | some z => .ok (.d z) ρ | none => .bad) | _, _ => .bad) := rfl
@[simp] theorem f1_ap {h : Pd → Option Pd} {fa : Rho → R AV} : f1 h fa ρ = (fa ρ).bind fun a ρ1 => op1 h a ρ1 := rfl
@[simp] theorem op1_ap {h : Pd → Option Pd} {a : AV} : op1 h a ρ = (match res ρ a with | some x => (match h x with | some z => .ok (.d z) ρ | none => .bad) | _ => .bad) := rfl
@[simp] theorem fNil_ap : fNil ρ = .ok [] ρ := rfl
@[simp] theorem fCons_ap {fa : Rho → R AV} {fr : Rho → R (List AV)} : fCons fa fr ρ = (fa ρ).bind fun a ρ1 => (fr ρ1).bind fun as ρ2 => .ok (a :: as) ρ2 := rfl
@[simp] theorem ress_nil : ress ρ [] = some [] := rfl
@[simp] theorem ress_cons {a : AV} {as : List AV} : ress ρ (a :: as) = (match res ρ a, ress ρ as with | some x, some xs => some (x :: xs) | _, _ => none) := rfl
@[simp] theorem datas_nil : datas [] = some [] := rfl
@[simp] theorem datas_cons {as : List AV} : datas (.d x :: as) = (match datas as with | some xs => some (x :: xs) | none => none) := rfl
@[simp] theorem fTup_ap {fa : Rho → R (List AV)} : fTup fa ρ = (fa ρ).bind fun as ρ1 => (match datas as with | some xs => if xs.length ≤ sizeLine then .ok (.d (.tuple xs)) ρ1 else .bad | none => .bad) := rfl
@[simp] theorem fLst_ap {fa : Rho → R (List AV)} : fLst fa ρ = (fa ρ).bind fun as ρ1 => (match datas as with | some xs => if xs.length ≤ sizeLine then .ok xs ρ1 else .bad | none => .bad) := rfl
@[simp] theorem fL_ap {f : Rho → R (List Pd)} : fL f ρ = (f ρ).bind fun xs ρ1 => .ok (.d (.list xs)) ρ1 := rfl
@[simp] theorem rB_ap {a : AV} : rB a ρ = (match res ρ a with | some (.bool b) => .ok b ρ | _ => .bad) := rfl
@[simp] theorem fTest_ap {f : Rho → R AV} : fTest f ρ = (f ρ).bind rB := rfl
@[simp] theorem fAnd_ap {f g : Rho → R Bool} : fAnd f g ρ = (f ρ).bind fun b ρ1 => if b = true then g ρ1 else .ok false ρ1 := rfl
@[simp] theorem fOr_ap {f g : Rho → R Bool} : fOr f g ρ = (f ρ).bind fun b ρ1 => if b = true then .ok true ρ1 else g ρ1 := rfl
@[simp] theorem fNot_ap {f : Rho → R Bool} : fNot f ρ = (f ρ).bind fun b ρ1 => .ok (!b) ρ1 := rfl
@[simp] theorem fAndV_ap {f g : Rho → R AV} : fAndV f g ρ = (f ρ).bind fun a ρ1 => (rB a ρ1).bind fun b ρ2 => if b = true then g ρ2 else .ok (.d (.bool false)) ρ2 := rfl
@[simp] theorem fOrV_ap {f g : Rho → R AV} : fOrV f g ρ = (f ρ).bind fun a ρ1 => (rB a ρ1).bind fun b ρ2 => if b = true then .ok (.d (.bool true)) ρ2 else g ρ2 := rfl
@[simp] theorem fNotV_ap {f : Rho → R AV} : fNotV f ρ = (f ρ).bind fun a ρ1 => (rB a ρ1).bind fun b ρ2 => .ok (.d (.bool (!b))) ρ2 := rfl
@[simp] theorem fIf_ap {c : Rho → R Bool} {f g : Rho → R AV} : fIf c f g ρ = (c ρ).bind fun b ρ1 => if b = true then f ρ1 else g ρ1 := rfl
@[simp] theorem fChain_ap {h h' : Pd → Pd → Option Pd} {fa fb fc : Rho → R AV} : fChain h h' fa fb fc ρ = (fa ρ).bind fun a ρ1 => (fb ρ1).bind fun b ρ2 => (op2 h a b ρ2).bind fun z ρ3 => (rB z ρ3).bind fun k ρ4 =>
  if k = true then (fc ρ4).bind fun c ρ5 => op2 h' b c ρ5 else .ok (.d (.bool false)) ρ4 := rfl
@[simp] theorem fCB_ap {h : List Pd → Option Pd} {fa : Rho → R (List AV)} : fCB h fa ρ = (fa ρ).bind fun as ρ1 => (match ress ρ1 as with | some xs => (match h xs with | some z => .ok (.d z) ρ1 | none => .bad) | none => .bad) := rfl
@[simp] theorem fCBL_ap {h : List Pd → Option (List Pd)} {fa : Rho → R (List AV)} : fCBL h fa ρ = (fa ρ).bind fun as ρ1 => (match ress ρ1 as with | some xs => (match h xs with | some z => .ok z ρ1 | none => .bad) | none => .bad) := rfl
@[simp] theorem fNoPart_ap : fNoPart ρ = .ok none ρ := rfl
@[simp] theorem fPart_ap {f : Rho → R AV} : fPart f ρ = (f ρ).bind fun a ρ1 => (match res ρ1 a with | some (.int i) => .ok (some i) ρ1 | _ => .bad) := rfl
@[simp] theorem fSl_ap {h : Pd → Option Int → Option Int → Option Pd} {fe : Rho → R AV} {fl fh : Rho → R (Option Int)} : fSl h fe fl fh ρ = (fe ρ).bind fun a ρ1 => (fl ρ1).bind fun lo ρ2 => (fh ρ2).bind fun hi ρ3 => (match res ρ3 a with | some x => (match h x lo hi with | some z => .ok (.d z) ρ3 | none => .bad) | none => .bad) := rfl
@[simp] theorem fM1_ap {h : Pd → List Pd → Option Pd} {fo fa : Rho → R AV} : fM1 h fo fa ρ = (fo ρ).bind fun o ρ1 => (match res ρ1 o with
  | some (.str x) => (fa ρ1).bind fun a ρ2 => (match res ρ2 a with | some y => (match h (.str x) [y] with | some z => .ok (.d z) ρ2 | none => .bad) | _ => .bad)
  | _ => .bad) := rfl
@[simp] theorem fM0_ap {h : Pd → List Pd → Option Pd} {fo : Rho → R AV} : fM0 h fo ρ = (fo ρ).bind fun o ρ1 => (match res ρ1 o with | some (.str x) => (match h (.str x) [] with | some z => .ok (.d z) ρ1 | none => .bad) | _ => .bad) := rfl
@[simp] theorem fItL_ap {f : Rho → R AV} : fItL f ρ = (f ρ).bind fun a ρ1 => (match a with | .d (.list xs) => .ok xs ρ1 | _ => .bad) := rfl
@[simp] theorem fItT_ap {f : Rho → R AV} : fItT f ρ = (f ρ).bind fun a ρ1 => (match a with | .d (.tuple xs) => .ok xs ρ1 | _ => .bad) := rfl
@[simp] theorem fItS_ap {f : Rho → R AV} : fItS f ρ = (f ρ).bind fun a ρ1 => (match a with | .d (.str x) => .ok (chars x) ρ1 | _ => .bad) := rfl
@[simp] theorem fRng1_ap {f : Rho → R (List AV)} : fRng1 f ρ = (f ρ).bind fun as ρ1 => (match as with | [.d (.int j)] => if -(2 ^ 62) ≤ j ∧ j < 2 ^ 62 then .ok (nums 0 j.toNat) ρ1 else .bad | _ => .bad) := rfl
@[simp] theorem fRng2_ap {f : Rho → R (List AV)} : fRng2 f ρ = (f ρ).bind fun as ρ1 => (match as with | [.d (.int i), .d (.int j)] => if (-(2 ^ 62) ≤ i ∧ i < 2 ^ 62) ∧ -(2 ^ 62) ≤ j ∧ j < 2 ^ 62 then .ok (nums i (j - i).toNat) ρ1 else .bad | _ => .bad) := rfl
@[simp] theorem fLc_ap {fi : Rho → R (List Pd)} {h : Pd → Rho → Option Rho} {ft : Rho → R Bool} {fe : Rho → R AV} {vs : List Nat} : fLc fi h ft fe vs ρ = if okW ρ vs = true then (fi ρ).bind fun xs ρ1 => lcRun h ft fe vs xs [] (wipeR ρ1 vs) else .bad := rfl
@[simp] theorem okW_nil : okW ρ [] = true := rfl
@[simp] theorem okW_cons {v : Nat} {vs : List Nat} : okW ρ (v :: vs) = ((match ρ[v]? with | some (.own _ _) => false | some (.m _ _) => false | _ => true) && okW ρ vs) := rfl
@[simp] theorem wipeR_nil : wipeR ρ [] = ρ := rfl
@[simp] theorem wipeR_cons {v : Nat} {vs : List Nat} : wipeR ρ (v :: vs) = (wipeR ρ vs).set v .no := rfl
@[simp] theorem lcRun_nil {h : Pd → Rho → Option Rho} {ft : Rho → R Bool} {fe : Rho → R AV} {vs : List Nat} {acc : List Pd} : lcRun h ft fe vs [] acc ρ = .ok acc ρ := rfl
@[simp] theorem fNx_ap : fNx ρ = .ok .nx ρ := rfl
@[simp] theorem fSeq_ap {f g : Rho → R Fl} : fSeq f g ρ = (match f ρ with | .ok .nx ρ1 => g ρ1 | r => r) := rfl
@[simp] theorem fIfS_ap {c : Rho → R Bool} {f g : Rho → R Fl} : fIfS c f g ρ = (c ρ).bind fun b ρ1 => if b = true then f ρ1 else g ρ1 := rfl
@[simp] theorem fRet_ap {f : Rho → R AV} : fRet f ρ = (f ρ).bind fun a ρ1 => (match a with | .d x => .ok (.rt x) ρ1 | .sl _ => .bad) := rfl
@[simp] theorem fRetL_ap {f : Rho → R (List Pd)} : fRetL f ρ = (f ρ).bind fun xs ρ1 => .ok (.rl xs) ρ1 := rfl
@[simp] theorem fRetN_ap : fRetN ρ = .ok (.rt .none) ρ := rfl
@[simp] theorem fDrop_ap {f : Rho → R AV} : fDrop f ρ = (f ρ).bind fun _ ρ1 => .ok .nx ρ1 := rfl
@[simp] theorem fAsg_ap {f : Rho → R AV} {h : Pd → Rho → Option Rho} : fAsg f h ρ = (f ρ).bind fun a ρ1 => (match a with | .d x => (match h x ρ1 with | some ρ2 => .ok .nx ρ2 | none => .bad) | .sl _ => .bad) := rfl
@[simp] theorem fSetO_ap {f : Rho → R (List Pd)} : fSetO f i ρ = (f ρ).bind fun xs ρ1 => (match putOwn i xs ρ1 with | some ρ2 => .ok .nx ρ2 | none => .bad) := rfl
@[simp] theorem fApp_ap {f : Rho → R AV} : fApp i f ρ = (match ρ[i]? with
  | some (.own _ _) => (f ρ).bind fun a ρ1 => (match a, ρ1[i]? with | .d y, some (.own b xs) => if xs.length < sizeLine then .ok .nx (ρ1.set i (.own b (xs ++ [y]))) else .bad | _, _ => .bad)
  | _ => .bad) := rfl
@[simp] theorem fExt_ap {f : Rho → R (List Pd)} : fExt i f ρ = (match ρ[i]? with
  | some (.own _ _) => (f ρ).bind fun ys ρ1 => (match ρ1[i]? with | some (.own b xs) => if xs.length + ys.length ≤ sizeLine then .ok .nx (ρ1.set i (.own b (xs ++ ys))) else .bad | _ => .bad)
  | _ => .bad) := rfl
@[simp] theorem fSetI_ap {f fk : Rho → R AV} : fSetI i f fk ρ = (f ρ).bind fun a ρ1 => (match a, ρ1[i]? with
  | .d y, some (.own _ _) => (fk ρ1).bind fun k ρ2 => (match k, ρ2[i]? with | .d (.int n), some (.own b xs) => (match ixN xs.length n with | some j => .ok .nx (ρ2.set i (.own b (xs.set j y))) | none => .bad) | _, _ => .bad)
  | _, _ => .bad) := rfl
@[simp] theorem fFrz_ap {f : Rho → R Fl} : fFrz i f ρ = f (frz i ρ) := rfl
@[simp] theorem frz_ap : frz i ρ = (match ρ[i]? with | some (.own false xs) => ρ.set i (.d (.list xs)) | _ => ρ) := rfl
@[simp] theorem fFor_ap {fi : Rho → R (List Pd)} {h : Pd → Rho → Option Rho} {fb : Rho → R Fl} : fFor fi h fb ρ = (fi ρ).bind fun xs ρ1 => forRun h fb xs ρ1 := rfl
@[simp] theorem forRun_nil {h : Pd → Rho → Option Rho} {fb : Rho → R Fl} : forRun h fb [] ρ = .ok .nx ρ := rfl
@[simp] theorem fCall_ap {g : Rho → R RV} {fa : Rho → R (List AV)} : fCall n g fa ρ = (fa ρ).bind fun as ρ1 => kCall g (argsD n as) ρ1 := rfl
@[simp] theorem fCallL_ap {g : Rho → R RV} {fa : Rho → R (List AV)} : fCallL n g fa ρ = (fa ρ).bind fun as ρ1 => kCallL g (argsD n as) ρ1 := rfl
@[simp] theorem fCallP_ap {g : Rho → R RV} {fa : Rho → R (List AV)} : fCallP n i g fa ρ = (match ρ[i]? with | some (.own _ _) => (fa ρ).bind fun as ρ1 => kCallP i g (argsD n as) ρ1 | _ => .bad) := rfl
@[simp] theorem fCallPL_ap {g : Rho → R RV} {fa : Rho → R (List AV)} : fCallPL n i g fa ρ = (match ρ[i]? with | some (.own _ _) => (fa ρ).bind fun as ρ1 => kCallPL i g (argsD n as) ρ1 | _ => .bad) := rfl
@[simp] theorem argsD_ap {as : List AV} : argsD n as = (match datas as with | some xs => if xs.length = n then some xs else none | none => none) := rfl
@[simp] theorem kCall_some {g : Rho → R RV} {xs : List Pd} : kCall g (some xs) ρ = (match g (xs.map Sl.d) with | .ok (.d x) _ => .ok (.d x) ρ | .ex e _ => .ex e ρ | _ => .bad) := rfl
@[simp] theorem kCallL_some {g : Rho → R RV} {xs : List Pd} : kCallL g (some xs) ρ = (match g (xs.map Sl.d) with | .ok (.l x) _ => .ok x ρ | .ex e _ => .ex e ρ | _ => .bad) := rfl
@[simp] theorem kCallP_some {g : Rho → R RV} {xs : List Pd} : kCallP i g (some xs) ρ = (match ρ[i]? with
  | some (.own b ps) => (match g (.own true ps :: xs.map Sl.d) with | .ok (.d x) (.own _ ps' :: _) => .ok (.d x) (ρ.set i (.own b ps')) | .ex e (.own _ ps' :: _) => .ex e (ρ.set i (.own b ps')) | _ => .bad)
  | _ => .bad) := by
  unfold kCallP
  cases e : ρ[i]? with
  | none => rfl
  | some z => cases z <;> rfl
@[simp] theorem kCallPL_some {g : Rho → R RV} {xs : List Pd} : kCallPL i g (some xs) ρ = (match ρ[i]? with
  | some (.own b ps) => (match g (.own true ps :: xs.map Sl.d) with | .ok (.l x) (.own _ ps' :: _) => .ok x (ρ.set i (.own b ps')) | .ex e (.own _ ps' :: _) => .ex e (ρ.set i (.own b ps')) | _ => .bad)
  | _ => .bad) := by
  unfold kCallPL
  cases e : ρ[i]? with
  | none => rfl
  | some z => cases z <;> rfl
def isIo : Sl → Bool
  | .own true _ => true
  | .m true _ => true
  | _ => false
@[simp] theorem isIo_no : isIo .no = false := rfl
@[simp] theorem isIo_d : isIo (.d x) = false := rfl
@[simp] theorem isIo_x {e : XD} : isIo (.x e) = false := rfl
@[simp] theorem isIo_mf {o : Mo} : isIo (.m false o) = false := rfl
@[simp] theorem isIo_of {xs : List Pd} : isIo (.own false xs) = false := rfl
theorem put_eq : put i x ρ = (match ρ[i]? with | some s => if isIo s = true then none else some (ρ.set i (.d x)) | none => none) := by
  unfold put
  cases e : ρ[i]? with
  | none => rfl
  | some s => cases s with
    | no => rfl
    | x _ => rfl
    | m b _ => cases b <;> rfl
    | d y => rfl
    | own b xs => cases b <;> rfl
theorem putOwn_eq {xs : List Pd} : putOwn i xs ρ = (match ρ[i]? with | some s => if isIo s = true then none else some (ρ.set i (.own false xs)) | none => none) := by
  unfold putOwn
  cases e : ρ[i]? with
  | none => rfl
  | some s => cases s with
    | no => rfl
    | x _ => rfl
    | m b _ => cases b <;> rfl
    | d y => rfl
    | own b xs => cases b <;> rfl
@[simp] theorem putNil_nil : putNil [] ρ = some ρ := rfl
@[simp] theorem putCons_cons {h : Pd → Rho → Option Rho} {k : List Pd → Rho → Option Rho} {xs : List Pd} : putCons h k (x :: xs) ρ = (match h x ρ with | some ρ1 => k xs ρ1 | none => none) := rfl
@[simp] theorem putTup_tup {k : List Pd → Rho → Option Rho} {xs : List Pd} : putTup n k (.tuple xs) ρ = if xs.length = n then k xs ρ else none := rfl
@[simp] theorem endF_rt {as : Rho} : endF as (.ok (.rt x) ρ) = .ok (.d x) (outs as ρ) := rfl
@[simp] theorem endF_rl {as : Rho} {xs : List Pd} : endF as (.ok (.rl xs) ρ) = .ok (.l xs) (outs as ρ) := rfl
@[simp] theorem endF_nx {as : Rho} : endF as (.ok .nx ρ) = .ok (.d .none) (outs as ρ) := rfl
@[simp] theorem endF_ex {as : Rho} {e : XD} : endF as (.ex e ρ) = .ex e (outs as ρ) := rfl
@[simp] theorem outs_nil : outs [] ρ = [] := rfl
@[simp] theorem outs_d {as : Rho} {z : Sl} : outs (.d x :: as) (z :: ρ) = .d x :: outs as ρ := rfl
@[simp] theorem outs_x {as : Rho} {e : XD} {z : Sl} : outs (.x e :: as) (z :: ρ) = .x e :: outs as ρ := rfl
@[simp] theorem outs_o {as : Rho} {z : Sl} {xs : List Pd} : outs (.own true xs :: as) (z :: ρ) = z :: outs as ρ := rfl
end
section
variable {i j : Int} {a b : Str} {xs ys : List Pd} {x y : Pd}
@[simp] theorem addD_int : addD (.int i) (.int j) = some (.int (i + j)) := rfl
@[simp] theorem addD_str : addD (.str a) (.str b) = if a.length + b.length ≤ sizeLine then some (.str (a ++ b)) else none := rfl
@[simp] theorem addD_list : addD (.list xs) (.list ys) = if xs.length + ys.length ≤ sizeLine then some (.list (xs ++ ys)) else none := rfl
@[simp] theorem addD_tuple : addD (.tuple xs) (.tuple ys) = if xs.length + ys.length ≤ sizeLine then some (.tuple (xs ++ ys)) else none := rfl
@[simp] theorem subD_int : subD (.int i) (.int j) = some (.int (i - j)) := rfl
@[simp] theorem mulD_int : mulD (.int i) (.int j) = if mulOk i j = true then some (.int (i * j)) else none := rfl
@[simp] theorem modD_int : modD (.int i) (.int j) = if 0 < j then some (.int (i % j)) else none := by simp [modD, intD]
@[simp] theorem fdivD_int : fdivD (.int i) (.int j) = if 0 < j ∧ j.natAbs.log2 < 9000 then some (.int (i / j)) else none := by simp [fdivD, intD]
@[simp] theorem powD_int : powD (.int i) (.int j) = if 0 ≤ j ∧ j ≤ 1000000 ∧ i.natAbs < 2 ^ 64 then some (.int (i ^ j.toNat)) else none := by simp [powD, intD]
@[simp] theorem leD_int : leD (.int i) (.int j) = some (.bool (decide (i ≤ j))) := rfl
@[simp] theorem gtD_int : gtD (.int i) (.int j) = some (.bool (decide (j < i))) := rfl
@[simp] theorem geD_int : geD (.int i) (.int j) = some (.bool (decide (j ≤ i))) := rfl
@[simp] theorem ltD_int : ltD (.int i) (.int j) = some (.bool (decide (i < j))) := rfl
@[simp] theorem ltD_str : ltD (.str a) (.str b) = some (.bool (decide (a.cps.toList < b.cps.toList))) := rfl
@[simp] theorem negD_int : negD (.int i) = some (.int (-i)) := rfl
@[simp] theorem eqD_int : eqD (.int i) (.int j) = some (.bool (decide (i = j))) := rfl
@[simp] theorem eqD_str : eqD (.str a) (.str b) = some (.bool (decide (a = b))) := rfl
@[simp] theorem neD_int : neD (.int i) (.int j) = some (.bool (!decide (i = j))) := rfl
@[simp] theorem neD_str : neD (.str a) (.str b) = some (.bool (!decide (a = b))) := rfl
theorem eqB_list : eqB (.list xs) (.list ys) = if sh 60 (.list xs) = true ∧ sh 60 (.list ys) = true then some (PyData.eqvAll xs ys) else none := rfl
theorem eqB_tuple : eqB (.tuple xs) (.tuple ys) = if sh 60 (.tuple xs) = true ∧ sh 60 (.tuple ys) = true then some (PyData.eqvAll xs ys) else none := rfl
theorem sh_tuple {n : Nat} : sh (n + 1) (.tuple xs) = xs.all (sh n) := rfl
@[simp] theorem sh_int {n : Nat} : sh n (.int i) = true := by cases n <;> rfl
@[simp] theorem sh_bool {n : Nat} {k : Bool} : sh n (.bool k) = true := by cases n <;> rfl
@[simp] theorem sh_none {n : Nat} : sh n .none = true := by cases n <;> rfl
@[simp] theorem sh_str {n : Nat} : sh n (.str a) = PyData.strOk a := by cases n <;> rfl
@[simp] theorem ixD_list : ixD (.list xs) (.int i) = atI xs i := rfl
@[simp] theorem ixD_tuple : ixD (.tuple xs) (.int i) = atI xs i := rfl
@[simp] theorem ixD_str : ixD (.str a) (.int i) = if a.length ≤ sizeLine then (atI a.cps.toList i).map fun c => .str ⟨#[c]⟩ else none := rfl
@[simp] theorem slD_list {lo hi : Option Int} : slD (.list xs) lo hi = some (.list (cutD xs lo hi)) := rfl
@[simp] theorem slD_tuple {lo hi : Option Int} : slD (.tuple xs) lo hi = some (.tuple (cutD xs lo hi)) := rfl
@[simp] theorem slD_str {lo hi : Option Int} : slD (.str a) lo hi = if a.length ≤ sizeLine then some (.str (cutS a lo hi)) else none := rfl
@[simp] theorem lenD_list : lenD [.list xs] = some (.int xs.length) := rfl
@[simp] theorem lenD_tuple : lenD [.tuple xs] = some (.int xs.length) := rfl
@[simp] theorem lenD_str : lenD [.str a] = if a.length ≤ sizeLine then some (.int a.length) else none := rfl
@[simp] theorem absD_int : absD [.int i] = some (.int (if i < 0 then -i else i)) := rfl
@[simp] theorem strD_int : strD [.int i] = if i.natAbs.log2 < 1920 then some (.str (toString i)) else none := rfl
@[simp] theorem tupleD_list : tupleD [.list xs] = some (.tuple xs) := rfl
@[simp] theorem tupleD_tuple : tupleD [.tuple xs] = some (.tuple xs) := rfl
@[simp] theorem listD_list : listD [.list xs] = some xs := rfl
@[simp] theorem listD_tuple : listD [.tuple xs] = some xs := rfl
@[simp] theorem allD_list : allD [.list xs] = (boolsD xs).map fun bs => .bool (bs.all id) := rfl
@[simp] theorem anyD_list : anyD [.list xs] = (boolsD xs).map fun bs => .bool (bs.any id) := rfl
@[simp] theorem sumD_list : sumD [.list xs] = (intsD xs).map fun bs => .int bs.sum := rfl
@[simp] theorem upperD_str : upperD (.str a) [] = if a.length ≤ 5592405 then some (.str (Txt.upper a)) else none := rfl
@[simp] theorem isiD_int (d : Pd) : isiD "int" d = some (.bool (isIntD d)) := isi_int d
@[simp] theorem isiD_bool (d : Pd) : isiD "bool" d = some (.bool (isBoolD d)) := isi_bool d
@[simp] theorem isiD_str (d : Pd) : isiD "str" d = some (.bool (isStrD d)) := isi_str d
@[simp] theorem isiD_tuple (d : Pd) : isiD "tuple" d = some (.bool (isTupD d)) := isi_tuple d
@[simp] theorem isiD_list (d : Pd) : isiD "list" d = some (.bool (isLstD d)) := isi_list d
theorem boolsD_map (f : Pd → Bool) (l : List Pd) : boolsD (l.map fun x => .bool (f x)) = some (l.map f) := by
  induction l with
  | nil => rfl
  | cons x l ih => simp only [List.map_cons, boolsD]; rw [ih]
theorem boolsD_all (f : Pd → Bool) (l : List Pd) : allD [.list (l.map fun x => .bool (f x))] = some (.bool (l.all f)) := by
  rw [allD_list, boolsD_map]
  simp
theorem bits_le {i : Int} {n : Nat} (h : i.natAbs < 2 ^ n) : bits i ≤ n := PyProof.Rows.intBits_le h
end
end Dt
namespace Dt
open PySem PySem.Spec L2 Evl PyProof.Rows
variable [WD]
section
variable {Z : Zx} {W : WX}
def kCat (a b : AV) (ρ : Rho) : R (List Pd) := match res ρ a, res ρ b with
  | some (.list xs), some (.list ys) => if xs.length + ys.length ≤ sizeLine then .ok (xs ++ ys) ρ else .bad
  | _, _ => .bad
def fCatL (fa fb : Rho → R AV) : Rho → R (List Pd) := fun ρ => (fa ρ).bind fun a ρ1 => (fb ρ1).bind fun b ρ2 => kCat a b ρ2
end
omit [WD] in
@[simp] theorem fCatL_ap {ρ : Rho} {fa fb : Rho → R AV} : fCatL fa fb ρ = (fa ρ).bind fun a ρ1 => (fb ρ1).bind fun b ρ2 => kCat a b ρ2 := rfl
omit [WD] in
@[simp] theorem kCat_ap {ρ : Rho} {a b : AV} : kCat a b ρ = (match res ρ a, res ρ b with
  | some (.list xs), some (.list ys) => if xs.length + ys.length ≤ sizeLine then .ok (xs ++ ys) ρ else .bad
  | _, _ => .bad) := rfl
def sgL (z : Str) : List Str := z.cps.toList.map fun c => (⟨#[c]⟩ : Str)
def sortedE : List Pd → Option (List Pd)
  | [.str z] => if z.length < 64 then some ((sortS (sgL z)).map .str) else none
  | xs => sortedD xs
omit [WD] in
@[simp] theorem sortedE_str {z : Str} : sortedE [.str z] = if z.length < 64 then some ((sortS (sgL z)).map .str) else none := rfl
end Dt
namespace Dt
open PySem PySem.Spec L2 Evl
variable [WD]
section
variable {Z : Zx} {W : WX} {ρ : Rho}
def fIsNNX (i : Nat) : Rho → R AV := fun ρ => match ρ[i]? with
  | some (.x _) => .ok (.d (.bool true)) ρ
  | some (.d v) => .ok (.d (.bool (!isNon v))) ρ
  | _ => .bad
omit [WD] in
@[simp] theorem fIsNNX_ap {i : Nat} : fIsNNX i ρ = (match ρ[i]? with | some (.x _) => .ok (.d (.bool true)) ρ | some (.d v) => .ok (.d (.bool (!isNon v))) ρ | _ => .bad) := rfl
end
end Dt
set_option maxHeartbeats 2000000
namespace Dt
open PySem PySem.Spec L2 Evl PyProof.Rows
variable [WD]
section
variable {X : Cx} {x n : Str} {c : Value} {i : Nat} {body suite : List Stmt} {b₀ : Stmt} {np pos pos' : Pos} {tb : WX → TS} {ts : TS} {Wout : WX}
end
section
variable {Z : Zx} {W : WX}
end
end Dt
namespace Dt
open PySem PySem.Spec L2 Evl PyProof.Rows
variable [WD]
section
variable {Z : Zx} {W : WX}
def kSplitL (x : Str) (b : AV) (ρ : Rho) : R (List Pd) := match res ρ b with
  | some (.str y) => if (y.length == 0) = false ∧ x.length + 2 ≤ sizeLine then .ok ((Txt.split x y).map PyData.str) ρ else .bad
  | _ => .bad
def fSplitL (fo fa : Rho → R AV) : Rho → R (List Pd) := fun ρ => (fo ρ).bind fun o ρ1 => match res ρ1 o with
  | some (.str x) => (fa ρ1).bind fun a ρ2 => kSplitL x a ρ2
  | _ => .bad
theorem RDs.dropLast {K : PySem.W.Frag} {H : Hp} {vs : List V} {ds : List Pd} (h : RDs K H vs ds) : RDs K H vs.dropLast ds.dropLast := by
  rw [List.dropLast_eq_take, List.dropLast_eq_take, h.length]
  exact h.take _
def fPop (i : Nat) : Rho → R AV := fun ρ => match ρ[i]? with
  | some (.own b xs) => (match xs[xs.length - 1]? with
    | some y => .ok (.d y) (ρ.set i (.own b xs.dropLast))
    | none => .bad)
  | _ => .bad
end
def findD : Pd → List Pd → Option Pd
  | .str a, [.str b] => some (.int (Txt.find a b))
  | _, _ => none
section
variable {ρ : Rho}
omit [WD] in
@[simp] theorem fSplitL_ap {fo fa : Rho → R AV} : fSplitL fo fa ρ = (fo ρ).bind fun o ρ1 => (match res ρ1 o with
  | some (.str x) => (fa ρ1).bind fun a ρ2 => kSplitL x a ρ2
  | _ => .bad) := rfl
omit [WD] in
@[simp] theorem kSplitL_s {x y : Str} : kSplitL x (.d (.str y)) ρ = if (y.length == 0) = false ∧ x.length + 2 ≤ sizeLine then .ok ((Txt.split x y).map PyData.str) ρ else .bad := rfl
omit [WD] in
@[simp] theorem fPop_ap {i : Nat} : fPop i ρ = (match ρ[i]? with
  | some (.own b xs) => (match xs[xs.length - 1]? with
    | some y => .ok (.d y) (ρ.set i (.own b xs.dropLast))
    | none => .bad)
  | _ => .bad) := rfl
omit [WD] in
@[simp] theorem findD_str {a b : Str} : findD (.str a) [.str b] = some (.int (Txt.find a b)) := rfl
end
end Dt
namespace Dt
open PySem PySem.Spec L2 Evl PyProof.Rows
variable [WD]
end Dt
namespace Dt
open PySem PySem.Spec L2 Evl
section
variable {h : Pd → Rho → Option Rho} {ft : Rho → R Bool} {fe : Rho → R AV} {vs : List Nat} {fb : Rho → R Fl}
theorem lc_cons_yes {x y : Pd} {xs acc : List Pd} {ρ ρ1 ρ2 ρ3 : Rho} (e1 : h x ρ = some ρ1) (e2 : ft ρ1 = .ok true ρ2) (e3 : fe ρ2 = .ok (.d y) ρ3) (hl : acc.length < sizeLine) :
    lcRun h ft fe vs (x :: xs) acc ρ = lcRun h ft fe vs xs (acc ++ [y]) (wipeR ρ3 vs) := by
  simp only [lcRun, e1, e2, e3, if_pos hl]
theorem lc_cons_no {x : Pd} {xs acc : List Pd} {ρ ρ1 ρ2 : Rho} (e1 : h x ρ = some ρ1) (e2 : ft ρ1 = .ok false ρ2) :
    lcRun h ft fe vs (x :: xs) acc ρ = lcRun h ft fe vs xs acc (wipeR ρ2 vs) := by
  simp only [lcRun, e1, e2]
theorem lc_map (g : Pd → Pd) {ρ : Rho} : ∀ {xs acc : List Pd}, (∀ x ∈ xs, ∃ ρ1 ρ2 ρ3, h x ρ = some ρ1 ∧ ft ρ1 = .ok true ρ2 ∧ fe ρ2 = .ok (.d (g x)) ρ3 ∧ wipeR ρ3 vs = ρ) → acc.length + xs.length ≤ sizeLine →
    lcRun h ft fe vs xs acc ρ = .ok (acc ++ xs.map g) ρ
  | [], acc, _, _ => by simp [lcRun]
  | x :: xs, acc, H, hl => by
    obtain ⟨ρ1, ρ2, ρ3, e1, e2, e3, e4⟩ := H x List.mem_cons_self
    rw [lc_cons_yes e1 e2 e3 (by simp at hl; omega), e4, lc_map g (fun y hy => H y (List.mem_cons_of_mem _ hy)) (by simp at hl ⊢; omega)]
    simp
theorem for_inv (I : Nat → Rho → Prop) {xs : List Pd} (step : ∀ (i : Nat) x ρ, xs[i]? = some x → I i ρ → ∃ ρ1 ρ2, h x ρ = some ρ1 ∧ (fb ρ1 = .ok .nx ρ2 ∨ fb ρ1 = .ok .ct ρ2) ∧ I (i + 1) ρ2) {ρ : Rho} (h0 : I 0 ρ) :
    ∃ ρ', forRun h fb xs ρ = .ok .nx ρ' ∧ I xs.length ρ' := by
  suffices H : ∀ (n k : Nat), xs.length - k = n → k ≤ xs.length → ∀ ρ, I k ρ → ∃ ρ', forRun h fb (xs.drop k) ρ = .ok .nx ρ' ∧ I xs.length ρ' from H _ 0 rfl (Nat.zero_le _) ρ h0
  intro n
  induction n with
  | zero =>
    intro k e hk ρ hI
    have : k = xs.length := by omega
    subst this
    rw [List.drop_length]
    exact ⟨ρ, rfl, hI⟩
  | succ n ih =>
    intro k e hk ρ hI
    have hlt : k < xs.length := by omega
    rw [List.drop_eq_getElem_cons hlt]
    obtain ⟨ρ1, ρ2, e1, e2, hI'⟩ := step k _ ρ (List.getElem?_eq_getElem hlt) hI
    have e3 : forRun h fb (xs[k] :: xs.drop (k + 1)) ρ = forRun h fb (xs.drop (k + 1)) ρ2 := by
      rcases e2 with e2 | e2 <;> simp only [forRun, e1, e2]
    rw [e3]
    exact ih (k + 1) (by omega) (by omega) _ hI'
end
open TL (tl joinL tl_join tl_ofString join_eq tl_append len_tl)
theorem tl_cut (z : Str) (lo hi : Option Int) : tl (cutS z lo hi) = ((tl z).drop (HT.sIx (tl z).length 0 lo)).take (HT.sIx (tl z).length (tl z).length hi - HT.sIx (tl z).length 0 lo) := by
  unfold cutS
  rw [len_tl]
theorem sIx_some (n d : Nat) (k : Int) (h : 0 ≤ k) : HT.sIx n d (some k) = min k.toNat n := by
  show (if k < 0 then (k + (n : Int)).toNat else min k.toNat n) = _
  rw [if_neg (by omega)]
theorem tl_take (z : Str) (k : Int) (h : 0 ≤ k) : tl (cutS z none (some k)) = (tl z).take k.toNat := by
  rw [tl_cut, sIx_some _ _ _ h]
  show (tl z).take (min k.toNat (tl z).length - 0) = _
  rw [Nat.sub_zero]
  simp
theorem tl_mid (z : Str) (k m : Int) (h : 0 ≤ k) (h2 : 0 ≤ m) : tl (cutS z (some k) (some m)) = ((tl z).drop k.toNat).take (m.toNat - k.toNat) := by
  rw [tl_cut, sIx_some _ _ _ h, sIx_some _ _ _ h2]
  apply List.ext_getElem?
  intro i
  simp only [List.getElem?_take, List.getElem?_drop]
  split
  · rename_i h1
    rw [if_pos (by omega)]
    congr 1
    omega
  · rename_i h1
    split
    · rename_i h3
      rw [List.getElem?_eq_none (by omega)]
    · rfl
theorem tl_drop (z : Str) (k : Int) (h : 0 ≤ k) : tl (cutS z (some k) none) = (tl z).drop k.toNat := by
  rw [tl_cut, sIx_some _ _ _ h]
  show ((tl z).drop (min k.toNat (tl z).length)).take ((tl z).length - min k.toNat (tl z).length) = _
  apply List.ext_getElem?
  intro i
  simp only [List.getElem?_take, List.getElem?_drop]
  split
  · congr 1
    omega
  · rw [List.getElem?_eq_none (by omega)]
theorem str_ext {a b : Str} (h : tl a = tl b) : a = b := by
  obtain ⟨x⟩ := a
  obtain ⟨y⟩ := b
  have : x = y := Array.ext' h
  rw [this]
theorem joinL_nil : ∀ l : List (List Nat), joinL [] l = l.flatten
  | [] => rfl
  | [p] => by simp [joinL]
  | p :: q :: r => by simp [joinL, joinL_nil (q :: r)]
theorem tl_join0 (ys : List Str) : tl (Txt.join (Str.ofString "") ys) = (ys.map tl).flatten := by
  rw [join_eq, tl_join, tl_ofString]
  exact joinL_nil _
theorem inStr_one (c : Nat) (z : Str) : inStr ⟨#[c]⟩ z = decide (c ∈ tl z) := rfl
theorem strsD_map (ys : List Str) : strsD (ys.map PyData.str) = some ys := by
  induction ys with
  | nil => rfl
  | cons y ys ih => simp only [List.map_cons, strsD]; rw [ih]
def nameL (l : List Nat) : Prop := 1 ≤ l.length ∧ l.length ≤ 8 ∧ ∀ c ∈ l, 97 ≤ c ∧ c ≤ 122
instance (l : List Nat) : Decidable (nameL l) := inferInstanceAs (Decidable (_ ∧ _ ∧ _))
abbrev abc : Str := Str.ofString "abcdefghijklmnopqrstuvwxyz"
theorem tl_abc : tl abc = [97, 98, 99, 100, 101, 102, 103, 104, 105, 106, 107, 108, 109, 110, 111, 112, 113, 114, 115, 116, 117, 118, 119, 120, 121, 122] := by
  decide +kernel
theorem mem_abc (c : Nat) : c ∈ tl abc ↔ 97 ≤ c ∧ c ≤ 122 := by
  rw [tl_abc]
  simp
  omega
end Dt
namespace Dt
open PySem PySem.Spec L2 Evl
open TL (tl joinL tl_join tl_ofString join_eq tl_append len_tl)
section
variable {A B : Type} {ρ ρ1 : Rho} {i j n : Nat} {x y : Pd} {a b : Str} {xs ys : List Pd} {k m : Int}
@[simp] theorem mulB_int : mulB (.int k) (.int m) = if mulOk k m = true then some (.int (k * m)) else none := rfl
@[simp] theorem mulB_str : mulB (.str a) (.int m) = if 0 ≤ m ∧ m ≤ 1000 ∧ a.length ≤ 1000 then some (.str (Txt.mul a m)) else none := rfl
@[simp] theorem tupleA_list : tupleA [.list xs] = some (.tuple xs) := rfl
@[simp] theorem tupleA_tuple : tupleA [.tuple xs] = some (.tuple xs) := rfl
@[simp] theorem tupleA_str : tupleA [.str a] = if a.length ≤ sizeLine then some (.tuple (chars a)) else none := rfl
@[simp] theorem listA_list : listA [.list xs] = some xs := rfl
@[simp] theorem listA_tuple : listA [.tuple xs] = some xs := rfl
@[simp] theorem listA_str : listA [.str a] = if a.length ≤ sizeLine then some (chars a) else none := rfl
@[simp] theorem maxD_int : maxD [.int k, .int m] = some (.int (if m > k then m else k)) := rfl
@[simp] theorem minD_int : minD [.int k, .int m] = some (.int (if m < k then m else k)) := rfl
@[simp] theorem shlD_int : shlD (.int k) (.int m) = if 0 ≤ m ∧ m ≤ 1000000 ∧ k.natAbs < 2 ^ 64 then some (.int (k * 2 ^ m.toNat)) else none := by simp [shlD, intD]
@[simp] theorem fZip_ap {f : Rho → R (List AV)} : fZip f ρ = (f ρ).bind fun as ρ1 => (match zipK as with | some xs => .ok xs ρ1 | none => .bad) := rfl
@[simp] theorem fTake_ap {fe : Rho → R AV} : fTake i j fe ρ = (match ρ[i]? with
  | some (.own _ [.int n]) => (fe ρ).bind fun a ρ1 => (match a, ρ1[i]? with
    | .d (.int m), some (.own b [_]) => if 0 < m ∧ m < 1073741824 then
        (match put j (.int (n % m)) (ρ1.set i (.own b [.int (n / m)])) with
        | some ρ2 => .ok .nx ρ2
        | none => .bad)
      else .bad
    | _, _ => .bad)
  | _ => .bad) := rfl
@[simp] theorem fCallT_ap {g : Rho → R RV} {fl : Rho → R (List Pd)} {fa : Rho → R (List AV)} : fCallT n g fl fa ρ = (fl ρ).bind fun ps ρ1 => (fa ρ1).bind fun as ρ2 => kCallT g ps (argsD n as) ρ2 := rfl
@[simp] theorem kCallT_some {g : Rho → R RV} : kCallT g ys (some xs) ρ = (match g (.own true ys :: xs.map Sl.d) with | .ok (.d x) _ => .ok (.d x) ρ | .ex e _ => .ex e ρ | _ => .bad) := rfl
@[simp] theorem fCallPB_ap {g : Rho → R RV} {fa : Rho → R (List AV)} : fCallPB n i g fa ρ = (match ρ[i]? with | some (.own _ _) => (fa ρ).bind fun as ρ1 => kCallPB n i g as ρ1 | _ => .bad) := rfl
@[simp] theorem kCallPB_ap {g : Rho → R RV} {as : List AV} : kCallPB n i g as ρ = if noSl i as = true ∧ as.length = n then (match ress ρ as, ρ[i]? with
    | some xs, some (.own b ps) => (match g (.own true ps :: xs.map Sl.d) with
      | .ok (.d x) (.own _ ps' :: _) => if flatD x = true ∧ flatL ps' = true then .ok (.d x) (ρ.set i (.own b ps')) else .bad
      | _ => .bad)
    | _, _ => .bad)
  else .bad := rfl
@[simp] theorem noSl_nil : noSl i [] = true := rfl
@[simp] theorem noSl_sl {as : List AV} : noSl i (.sl j :: as) = (decide (j ≠ i) && noSl i as) := rfl
@[simp] theorem noSl_d {as : List AV} : noSl i (.d x :: as) = noSl i as := rfl
theorem eqv_str (a b : Str) : PyData.eqv (.str a) (.str b) = decide (a = b) := by
  simp [PyData.eqv]
  by_cases h : a = b <;> simp [h]
theorem lc_invF {h : Pd → Rho → Option Rho} {ft : Rho → R Bool} {fe : Rho → R AV} {vs : List Nat} (I : Nat → List Pd → Rho → Prop) {xs : List Pd} (step : ∀ (i : Nat) x acc ρ, xs[i]? = some x → I i acc ρ →
      ∃ ρ1 ρ2, h x ρ = some ρ1 ∧ ((ft ρ1 = .ok false ρ2 ∧ I (i + 1) acc (wipeR ρ2 vs)) ∨ (ft ρ1 = .ok true ρ2 ∧ ∃ ρ3 y, fe ρ2 = .ok (.d y) ρ3 ∧ acc.length < sizeLine ∧ I (i + 1) (acc ++ [y]) (wipeR ρ3 vs)))) {ρ : Rho} (h0 : I 0 [] ρ) :
    ∃ acc' ρ', lcRun h ft fe vs xs [] ρ = .ok acc' ρ' ∧ I xs.length acc' ρ' := by
  suffices H : ∀ (n k : Nat), xs.length - k = n → k ≤ xs.length → ∀ (acc : List Pd) (ρ : Rho), I k acc ρ → ∃ acc' ρ', lcRun h ft fe vs (xs.drop k) acc ρ = .ok acc' ρ' ∧ I xs.length acc' ρ' from H _ 0 rfl (Nat.zero_le _) [] ρ h0
  intro n
  induction n with
  | zero =>
    intro k e hk acc ρ hI
    have : k = xs.length := by omega
    subst this
    rw [List.drop_length]
    exact ⟨acc, ρ, rfl, hI⟩
  | succ n ih =>
    intro k e hk acc ρ hI
    have hlt : k < xs.length := by omega
    rw [List.drop_eq_getElem_cons hlt]
    obtain ⟨ρ1, ρ2, e1, c⟩ := step k _ acc ρ (List.getElem?_eq_getElem hlt) hI
    rcases c with ⟨e2, hI'⟩ | ⟨e2, ρ3, y, e3, hl, hI'⟩
    · rw [lc_cons_no e1 e2]
      exact ih (k + 1) (by omega) (by omega) _ _ hI'
    · rw [lc_cons_yes e1 e2 e3 hl]
      exact ih (k + 1) (by omega) (by omega) _ _ hI'
theorem sum_ones {A : Type} {f : A → Nat} : ∀ {l : List A}, (∀ y ∈ l, f y = 1) → (l.map f).sum = l.length
  | [], _ => rfl
  | a :: l, h => by
    rw [List.map_cons, List.sum_cons, h a List.mem_cons_self, sum_ones fun y hy => h y (List.mem_cons_of_mem _ hy), List.length_cons]
    omega
def ofL (cs : List Nat) : Str := ⟨cs.toArray⟩
theorem tl_ofL (cs : List Nat) : tl (ofL cs) = cs := rfl
abbrev sg1 (c : Nat) : Str := ⟨#[c]⟩
theorem join_signs (cs : List Nat) (h : cs.length ≤ 1000) : joinD (.str (Str.ofString "")) [.list ((cs.map sg1).map PyData.str)] = some (.str (ofL cs)) := by
  have e : Txt.join (Str.ofString "") (cs.map sg1) = ofL cs := by
    refine str_ext ?_
    rw [tl_join0, tl_ofL, List.map_map]
    induction cs with
    | nil => rfl
    | cons c cs ih =>
      rw [List.map_cons, List.flatten_cons, ih (by simp at h; omega)]
      rfl
  have hs : ((cs.map sg1).map (·.length)).sum = cs.length := by
    rw [List.map_map]
    exact sum_ones fun _ _ => rfl
  simp only [joinD]
  rw [strsD_map]
  simp only
  rw [if_pos (by rw [hs, List.length_map]; show cs.length + cs.length * 0 ≤ 16777216; omega), e]
theorem chars_eq (s : Str) : chars s = ((tl s).map sg1).map PyData.str := by unfold chars; rw [List.map_map]; rfl
@[simp] theorem mulC_int : mulC (.int k) (.int m) = if mulOk k m = true then some (.int (k * m)) else none := rfl
@[simp] theorem mulC_str : mulC (.str a) (.int m) = if 0 ≤ m ∧ m ≤ 1000 ∧ a.length ≤ 1000 then some (.str (Txt.mul a m)) else none := rfl
@[simp] theorem revD_list : revD (.list xs) = some (.list xs.reverse) := rfl
@[simp] theorem revD_tuple : revD (.tuple xs) = some (.tuple xs.reverse) := rfl
@[simp] theorem revD_str : revD (.str a) = if a.length ≤ sizeLine then some (.str (revS a)) else none := rfl
theorem for_foldI {α β : Type} {h : Pd → Rho → Option Rho} {fb : Rho → R Fl} (d : α → Pd) (I : β → Rho → Prop) (f : β → α → β) : ∀ {xs : List α}, (∀ b x ρ, x ∈ xs → I b ρ → ∃ ρ1 ρ2, h (d x) ρ = some ρ1 ∧ fb ρ1 = .ok .nx ρ2 ∧ I (f b x) ρ2) → ∀ {b : β} {ρ : Rho}, I b ρ →
    ∃ ρ', forRun h fb (xs.map d) ρ = .ok .nx ρ' ∧ I (xs.foldl f b) ρ'
  | [], _, b, ρ, h0 => ⟨ρ, rfl, h0⟩
  | x :: xs, step, b, ρ, h0 => by
    obtain ⟨ρ1, ρ2, e1, e2, h1⟩ := step b x ρ List.mem_cons_self h0
    obtain ⟨ρ', e3, h2⟩ := for_foldI d I f (xs := xs) (fun b y ρ hy => step b y ρ (List.mem_cons_of_mem _ hy)) h1
    refine ⟨ρ', ?_, h2⟩
    rw [List.map_cons]
    simp only [forRun, e1, e2]
    exact e3
theorem lc_mapM {α : Type} {h : Pd → Rho → Option Rho} {fe : Rho → R AV} {vs : List Nat} (d : α → Pd) (g : α → Pd) {ρ : Rho} {l : List α} (H : ∀ x ∈ l, ∃ ρ1 ρ3, h (d x) ρ = some ρ1 ∧ fe ρ1 = .ok (.d (g x)) ρ3 ∧ wipeR ρ3 vs = ρ) (hl : l.length ≤ 16777216) :
    lcRun h (fun ρ => R.ok true ρ) fe vs (l.map d) [] ρ = .ok (l.map g) ρ := by
  have key : ∀ (l : List α) (acc : List Pd), (∀ x ∈ l, ∃ ρ1 ρ3, h (d x) ρ = some ρ1 ∧ fe ρ1 = .ok (.d (g x)) ρ3 ∧ wipeR ρ3 vs = ρ) → acc.length + l.length ≤ 16777216 → lcRun h (fun ρ => R.ok true ρ) fe vs (l.map d) acc ρ = .ok (acc ++ l.map g) ρ := by
    intro l
    induction l with
    | nil => intro acc _ _; simp
    | cons x l ih =>
      intro acc H hl
      obtain ⟨ρ1, ρ3, e1, e2, e3⟩ := H x List.mem_cons_self
      rw [List.map_cons, lc_cons_yes e1 rfl e2 (by simp [sizeLine] at hl ⊢; omega), e3, ih _ (fun y hy => H y (List.mem_cons_of_mem _ hy)) (by simp at hl ⊢; omega)]
      simp
  have := key l [] H (by simpa using hl)
  simpa using this
theorem forRun_cons {h : Pd → Rho → Option Rho} {fb : Rho → R Fl} : forRun h fb (x :: xs) ρ = (match h x ρ with
    | none => .bad
    | some ρ1 => match fb ρ1 with
      | .ok .nx ρ2 => forRun h fb xs ρ2
      | .ok .ct ρ2 => forRun h fb xs ρ2
      | .ok .bk ρ2 => .ok .nx ρ2
      | r => r) := rfl
theorem for_go {h : Pd → Rho → Option Rho} {fb : Rho → R Fl} {ρ2 : Rho} (e1 : h x ρ = some ρ1) (e2 : fb ρ1 = .ok .nx ρ2) : forRun h fb (x :: xs) ρ = forRun h fb xs ρ2 := by
  simp only [forRun, e1, e2]
theorem for_ret {h : Pd → Rho → Option Rho} {fb : Rho → R Fl} {ρ2 : Rho} (e1 : h x ρ = some ρ1) (e2 : fb ρ1 = .ok (.rt y) ρ2) : forRun h fb (x :: xs) ρ = .ok (.rt y) ρ2 := by
  simp only [forRun, e1, e2]
end
end Dt
namespace Dt
open PySem PySem.Spec L2 Evl PyProof.Rows
variable [WD]
abbrev Ik := List (Int ⊕ List Nat)
def keyV : List V → Option Ik
  | [] => some []
  | .int n :: r => (keyV r).map (Sum.inl n :: ·)
  | .str x :: r => (keyV r).map (Sum.inr x.cps.toList :: ·)
  | _ :: _ => none
abbrev ltI (a b : Ik) : Bool := PyProof.Rows.lexLt PyProof.Rows.itemOrd a b
def shp (l : Ik) : List Bool := l.map Sum.isRight
theorem keyV_items : ∀ {ys : List V} {its : List Value} {l : Ik} {shape : Nat → Bool} {j : Nat}, Vals ys its → keyV ys = some l → (∀ i b, (shp l)[i]? = some b → shape (j + i) = b) → PyProof.Rows.tupItems shape j its = some l
  | _, _, l, shape, j, .nil, h, _ => by cases h; rfl
  | v :: ys, u :: its, l, shape, j, .cons r t, h, hs => by
    cases v with
    | int n =>
      obtain ⟨tk, rfl⟩ := r
      simp only [keyV] at h
      cases e : keyV ys with
      | none => rw [e] at h; cases h
      | some l' =>
        rw [e] at h
        cases h
        have h0 : shape j = false := by simpa using hs 0 false rfl
        have ih := keyV_items (shape := shape) (j := j + 1) t e (fun i b q => by have := hs (i + 1) b (by simpa [shp] using q); rwa [show j + 1 + i = j + (i + 1) by omega])
        simp [PyProof.Rows.tupItems, h0, ih]
    | str x =>
      obtain ⟨tk, rfl⟩ := r
      simp only [keyV] at h
      cases e : keyV ys with
      | none => rw [e] at h; cases h
      | some l' =>
        rw [e] at h
        cases h
        have h0 : shape j = true := by simpa using hs 0 true rfl
        have ih := keyV_items (shape := shape) (j := j + 1) t e (fun i b q => by have := hs (i + 1) b (by simpa [shp] using q); rwa [show j + 1 + i = j + (i + 1) by omega])
        simp [PyProof.Rows.tupItems, h0, ih]
    | _ => cases h
omit [WD] in
theorem swoI {α : Type} (k : α → Ik) : SrtO.Swo (fun v u : α => ltI (k v) (k u)) := by
  refine ⟨fun x y h => ?_, fun x y z h1 h2 => ?_⟩
  · cases e : ltI (k y) (k x) with
    | false => rfl
    | true =>
      have := (PyProof.Rows.listOrd PyProof.Rows.itemOrd).trans _ _ _ h e
      rw [(PyProof.Rows.listOrd PyProof.Rows.itemOrd).irrefl] at this
      cases this
  · cases e : ltI (k z) (k x) with
    | false => rfl
    | true =>
      rcases (PyProof.Rows.listOrd PyProof.Rows.itemOrd).negTrans _ (k y) _ e with q | q
      · exact q.symm.trans h2
      · exact q.symm.trans h1
def IsK (h : Heap) (v : Value) (l : Ik) : Prop := ∃ a o ys its n, v = .ref a ∧ h.get? a = some o ∧ o.cls = .type "tuple" ∧ o.data = .seq its n ∧ Vals ys its.toList ∧ keyV ys = some l
theorem IsK.keeps {h h' : Heap} {v : Value} {l : Ik} (x : IsK h v l) (k : ∀ b o, v = .ref b → h.get? b = some o → h'.get? b = some o) : IsK h' v l := by
  obtain ⟨a, o, ys, its, n, rfl, h1, h2, h3, h4, h5⟩ := x
  exact ⟨a, o, ys, its, n, rfl, k a o rfl h1, h2, h3, h4, h5⟩
theorem IsK.key {h : Heap} {v : Value} {l : Ik} {shape : Nat → Bool} (x : IsK h v l) (hs : ∀ i b, (shp l)[i]? = some b → shape i = b) : PyProof.Rows.G.tupKeyC h shape v = some l := by
  obtain ⟨a, o, ys, its, n, rfl, h1, h2, h3, h4, h5⟩ := x
  have e := keyV_items (shape := shape) (j := 0) h4 h5 (fun i b q => by rw [Nat.zero_add]; exact hs i b q)
  unfold PyProof.Rows.G.tupKeyC
  have ht : PyProof.Rows.G.isTupObj h (.ref a) = true := by simp [PyProof.Rows.G.isTupObj, h1, h2]
  rw [if_pos ht]
  simp only [PyProof.Rows.tupKey, h1, h3]
  exact e
theorem IsK.tupOf {h : Heap} {v : Value} {l : Ik} {shape : Nat → Bool} (x : IsK h v l) (hs : ∀ i b, (shp l)[i]? = some b → shape i = b) (hl : l ≠ []) : ∃ f, PyProof.Rows.TupOf h shape v f := by
  obtain ⟨a, o, ys, its, n, rfl, h1, h2, h3, h4, h5⟩ := x
  obtain ⟨itl⟩ := its
  cases ys with
  | nil => cases h5; exact absurd rfl hl
  | cons y ys =>
    cases h4 with
    | cons r t =>
      rename_i u us
      refine ⟨u, a, o, ⟨u :: us⟩, n, rfl, h1, h2, h3, rfl, fun q => ?_, fun q => ?_⟩
      · cases y with
        | int k => obtain ⟨tk, rfl⟩ := r; exact ⟨_, _, rfl⟩
        | str z =>
          simp only [keyV] at h5
          cases e : keyV ys with
          | none => rw [e] at h5; cases h5
          | some l' =>
            rw [e] at h5
            cases h5
            have := hs 0 true rfl
            rw [q] at this
            cases this
        | _ => cases h5
      · cases y with
        | str k => obtain ⟨tk, rfl⟩ := r; exact ⟨_, _, rfl⟩
        | int z =>
          simp only [keyV] at h5
          cases e : keyV ys with
          | none => rw [e] at h5; cases h5
          | some l' =>
            rw [e] at h5
            cases h5
            have := hs 0 false rfl
            rw [q] at this
            cases this
        | _ => cases h5
theorem tupsOf_all {h : Heap} {shape : Nat → Bool} : ∀ {vs : List Value}, (∀ v ∈ vs, ∃ f, PyProof.Rows.TupOf h shape v f) → ∃ fs, PyProof.Rows.TupsOf h shape vs fs
  | [], _ => ⟨[], .nil⟩
  | v :: vs, hv => by
    obtain ⟨f, hf⟩ := hv v List.mem_cons_self
    obtain ⟨fs, hfs⟩ := tupsOf_all (vs := vs) fun u hu => hv u (List.mem_cons_of_mem _ hu)
    exact ⟨f :: fs, .cons hf hfs⟩
section
variable {prog : Program} {w : World} {A : Around} {E : Value → Shared → Prop} {s : Shared}
theorem keys_sortable {a : Addr} {vs : List Value} {k : Value → Ik} {sh0 : List Bool} (h2 : 2 ≤ vs.length) (h0 : sh0 ≠ []) (hp : ∀ v ∈ vs, IsK s.heap v (k v) ∧ shp (k v) = sh0) (ha : ∀ o, s.heap.get? a = some o → o.cls ≠ .type "tuple") : SrtO.SortableO prog w A s a vs fun v u => ltI (k v) (k u) := by
  intro h' keep
  have hsh : ∀ v ∈ vs, ∀ i b, (shp (k v))[i]? = some b → sh0.getD i false = b := fun v hv i b q => by
    rw [(hp v hv).2] at q
    rw [List.getD_eq_getElem?_getD, q]
    rfl
  have hp' : ∀ v ∈ vs, IsK h' v (k v) := fun v hv => by
    obtain ⟨x, o, ys, its, n, rfl, q1, q2, q3, q4, q5⟩ := (hp v hv).1
    exact ⟨x, o, ys, its, n, rfl, keep x o (fun z => by subst z; exact ha o q1 q2) q1, q2, q3, q4, q5⟩
  obtain ⟨fs, hfs⟩ := tupsOf_all (h := h') (shape := fun i => sh0.getD i false) (vs := vs) fun v hv => (hp' v hv).tupOf (hsh v hv) (fun z => by
    have := (hp v hv).2
    rw [z] at this
    exact h0 this.symm)
  refine ⟨PyProof.Rows.tuples' true, fun Q E hq => PyProof.Rows.tup_kind (s := { s with heap := h' }) (by rw [PyProof.Rows.G.TupsOf.length hfs]; omega) hfs hq, fun p q hm hm' => ?_⟩
  exact PyProof.Rows.G.tupC_ltAt (s := { s with heap := h' }) (h := h') (shape := fun i => sh0.getD i false) true (PyProof.Rows.G.KeepsTups.refl _) A _ p.1 q.1 (k p.1) (k q.1) ((hp' _ hm).key (hsh _ hm)) ((hp' _ hm').key (hsh _ hm')) ⟨rfl, rfl⟩
end
omit [WD] in
theorem perm_lift {α β : Type} {f : α → β} : ∀ {m : List β} {l : List α}, m.Perm (l.map f) → ∃ l' : List α, l'.Perm l ∧ l'.map f = m
  | [], l, h => by
    have : l.map f = [] := h.symm.eq_nil
    exact ⟨[], by rw [List.map_eq_nil_iff.mp this], rfl⟩
  | b :: m, l, h => by
    obtain ⟨a, ha, e⟩ := List.mem_map.mp (h.mem_iff.mp List.mem_cons_self)
    obtain ⟨l1, l2, rfl⟩ := List.append_of_mem ha
    have h2 : (b :: m).Perm (b :: (l1 ++ l2).map f) := by
      refine h.trans ?_
      rw [List.map_append, List.map_cons, e, List.map_append]
      exact List.perm_middle
    obtain ⟨l', p, q⟩ := perm_lift (m := m) (l := l1 ++ l2) h2.cons_inv
    exact ⟨a :: l', (p.cons a).trans List.perm_middle.symm, by rw [List.map_cons, q, e]⟩
def rSortedK (K : PySem.W.Frag) : List V → Hp → VK → Prop := fun vs H Q => ∃ (a : Addr) (ps : List (V × Ik)) (sh0 : List Bool), vs = [V.ref a] ∧ SqL K H a (ps.map Prod.fst) ∧ sh0 ≠ [] ∧ (∀ p ∈ ps, ∃ t ys, p.1 = V.ref t ∧ SqT K H t ys ∧ keyV ys = some p.2 ∧ shp p.2 = sh0) ∧
  ∀ qs p, qs.Perm ps → SrtO.Srtd (fun x y => ltI x.2 y.2) qs → H p = none → Q (.ref p) (upd H p (.lst (qs.map Prod.fst)))
theorem ps_back {k : Value → Ik} : ∀ {ps : List (V × Ik)} {its : List Value}, Vals (ps.map Prod.fst) its → (∀ p ∈ ps, ∃ t, p.1 = V.ref t ∧ k (.ref t) = p.2) → ps = its.map fun u => (backV u, k u)
  | [], _, .nil, _ => rfl
  | p :: ps, _, .cons r t, h => by
    obtain ⟨x, e1, e2⟩ := h p List.mem_cons_self
    have ih := ps_back t fun q hq => h q (List.mem_cons_of_mem _ hq)
    obtain ⟨v, l⟩ := p
    simp only at e1 e2
    subst e1
    cases (show _ = Value.ref x from r)
    rw [List.map_cons, ← ih, e2]
    rfl
theorem cr_sortedK {X : Cx} : CallR X (.builtin "sorted") (rSortedK X.K) := by
  intro pins s σ H vs us Q I r h
  obtain ⟨a, ps, sh0, rfl, hs, h0, hx, q⟩ := h
  obtain ⟨its, rv, hl, hz⟩ := I.list hs
  obtain ⟨u, rfl, ru⟩ := vals1 r
  obtain rfl : u = Value.ref a := ru
  have hK : ∀ p ∈ ps, ∃ t, p.1 = V.ref t ∧ IsK s.heap (.ref t) p.2 ∧ shp p.2 = sh0 := fun p hp => by
    obtain ⟨t, ys, e, ht, hk, hsh⟩ := hx p hp
    obtain ⟨its2, r2, pl, _⟩ := I.tuple ht
    obtain ⟨o, ho, hc, n, hd⟩ := pl
    exact ⟨t, e, ⟨t, o, ys, its2.toArray, n, rfl, ho, hc, hd, by simpa using r2, hk⟩, hsh⟩
  have hsh : ∀ p ∈ ps, ∀ i b, (shp p.2)[i]? = some b → sh0.getD i false = b := fun p hp i b z => by
    obtain ⟨_, _, _, e⟩ := hK p hp
    rw [e] at z
    rw [List.getD_eq_getElem?_getD, z]
    rfl
  obtain ⟨k, hk⟩ : ∃ k : Value → Ik, k = fun u => (PyProof.Rows.G.tupKeyC s.heap (fun i => sh0.getD i false) u).getD [] := ⟨_, rfl⟩
  have e1 : ps = its.map fun u => (backV u, k u) := ps_back (k := k) rv fun p hp => by
    obtain ⟨t, e, z, _⟩ := hK p hp
    refine ⟨t, e, ?_⟩
    rw [hk]
    simp only [z.key (hsh p hp), Option.getD_some]
  have e2 : ∀ v ∈ its, (∃ t, v = Value.ref t) ∧ IsK s.heap v (k v) ∧ shp (k v) = sh0 := fun v hv => by
    have hm : (backV v, k v) ∈ ps := by rw [e1]; exact List.mem_map.mpr ⟨v, hv, rfl⟩
    obtain ⟨t, e, z, w⟩ := hK _ hm
    cases v with
    | ref y =>
      have e' : V.ref y = V.ref t := e
      cases e'
      exact ⟨⟨t, rfl⟩, z, w⟩
    | _ => cases e
  refine SrtO.sorted_ord (swoI k) hl.isList (by rw [← rv.length]; exact hz) (fun h2 h₁ b hb kk => ?_) fun out hso hb => ?_
  · refine keys_sortable (s := { s with heap := h₁ }) h2 h0 (fun v hm => ⟨(e2 v hm).2.1.keeps fun c o _ e => (kk c o e).2, (e2 v hm).2.2⟩) fun o e => ?_
    have e' : some o = some (seqObj "list" its.toArray 0) := e.symm.trans hb
    cases e'
    intro c
    exact absurd (Value.type.inj c) (by decide)
  · have h3 : ∀ u ∈ out, ∃ a, u = Value.ref a := fun u hu => (e2 u (hb.perm.mem_iff.mp hu)).1
    obtain ⟨n, hn⟩ := sortedAll_at s.heap its out.toArray
    have hpm : (out.map fun u => (backV u, k u)).Perm ps := by
      rw [e1]
      exact hb.perm.map _
    have hm : (out.map fun u => (backV u, k u)).map Prod.fst = out.map backV := by rw [List.map_map]; rfl
    have qq := q (out.map fun u => (backV u, k u)) (s.heap.objs.size + 1) hpm (List.pairwise_map.mpr hso) (I.hok.fresh (Nat.le_succ _))
    rw [hm] at qq
    refine ⟨.ref (s.heap.objs.size + 1), upd H (s.heap.objs.size + 1) (.lst (out.map backV)), I.laid (t' := s.toks) (fun b o e => sortedAll_old e) (Nat.le_succ _) ⟨?_, out, n, vals_back h3, hn⟩, rfl, qq⟩
    rw [List.length_map, hb.perm.length_eq, ← rv.length]
    exact hz
def rSortTu (K : PySem.W.Frag) : List V → Hp → VK → Prop := fun vs H Q => ∃ a zs, vs = [.ref a] ∧ SqT K H a (zs.map V.str) ∧ zs.length < 64 ∧ ∀ (ys : List Str) (p : Addr), ys.Perm zs → PyProof.Rows.sortedS ys = true → H p = none → Q (.ref p) (upd H p (.lst (ys.map V.str)))
theorem cr_sortTu {X : Cx} : CallR X (.builtin "sorted") (rSortTu X.K) := by
  intro pins s σ H vs us Q I r h
  obtain ⟨a, zs, rfl, hq, hz, q⟩ := h
  obtain ⟨u, rfl, ru⟩ := vals1 r
  obtain rfl : u = Value.ref a := ru
  obtain ⟨its, rv, pl, hsz⟩ := I.tuple hq
  obtain ⟨o, ho, hc, n, hd⟩ := pl
  have hS : PyProof.Rows.StrsAre its zs := strsAre_of rv
  have hal : its.length = zs.length := by rw [← rv.length, List.length_map]
  refine Calls.call_function_entry PyProof.Rows.kind_sorted PyProof.Rows.plain_sorted PyProof.Rows.entry_sorted (PyProof.Rows.args_sorted1 _) ?_
  unfold Builtin.«sorted»
  refine wpAny_bind (m := checkCount "sorted" 1 1 _) (wpAny_pure (wpAny_bind (wpAny_collect_seq a (T := "tuple") (.inr rfl) ho hc hd (fun h2 hk => ?_) (by rw [List.size_toArray, hal, sizeLine_eq]; omega))))
  have J : Inv X pins σ H { s with heap := h2 } := I.kept (t' := s.toks) hk
  refine wpAny_bind (wpAny_newList ?_ (by rw [List.toList_toArray, hal, sizeLine_eq]; omega))
  have hL : (h2.push (seqObj "list" its.toArray 0)).get? h2.objs.size = some (seqObj "list" its.toArray 0) := Heap.get?_push_size _ rfl
  show wpAny _ _ _ _ _ { s with heap := h2.push (seqObj "list" its.toArray 0) }
  refine wpAny_bind (wpAny_holding (wpAny_call_entry PyProof.Rows.slot_list_sort ⟨_, hL, rfl⟩ PyProof.Rows.entry_list_sort
    (list_sort_treeK strKind_oneLt (s := { s with heap := h2.push (seqObj "list" its.toArray 0) }) hL hS.keysOf (fun v1 v2 rest e => keyKind_strs (by rw [← e]; exact hS)) (by rw [hal]; exact hz) fun st hp hs => ⟨_, rfl, ?_⟩) (PyProof.Rows.args_list_sort _)))
  obtain ⟨ys, k1, k2, k3⟩ := sorted_out_str hS hp hs
  obtain ⟨e1, he1⟩ := PyProof.Rows.sortedHeap_at (vs := its) (out := (arrOf st).map (·.2)) hL
  have hlen : (ys.map V.str).length ≤ sizeLine := by rw [List.length_map, k2.length_eq, sizeLine_eq]; omega
  refine wpAny_pure ⟨_, rfl, .ref h2.objs.size, upd H h2.objs.size (.lst (ys.map V.str)), J.laid (t' := s.toks) (fun b u e => ?_) (Nat.le_refl _)
    (show ObjOk X.prog X.w _ _ _ (.lst (ys.map V.str)) from ⟨hlen, ((arrOf st).map (·.2)).toList, e1, vals_of_strs k1, by rw [Array.toArray_toList]; exact he1⟩), rfl, q ys _ k2 k3 (J.hok.fresh (Nat.le_refl _))⟩
  have lb : b < h2.objs.size := Heap.lt_size e
  rw [PyProof.Rows.sortedHeap_old (Nat.ne_of_lt lb) (by rw [size_push']; exact Nat.lt_succ_of_lt lb)]
  exact Heap.get?_push_of_some _ e
def keyP : List Pd → Option Ik
  | [] => some []
  | .int n :: r => (keyP r).map (Sum.inl n :: ·)
  | .str x :: r => (keyP r).map (Sum.inr x.cps.toList :: ·)
  | _ :: _ => none
def tupK : Pd → Option Ik
  | .tuple ys => keyP ys
  | _ => none
def kOf (d : Pd) : Ik := (tupK d).getD []
omit [WD] in
theorem keyP_inj : ∀ {xs ys : List Pd} {l : Ik}, keyP xs = some l → keyP ys = some l → xs = ys := by
  intro xs
  induction xs with
  | nil =>
    intro ys l h1 h2
    cases h1
    cases ys with
    | nil => rfl
    | cons y ys =>
      cases y with
      | int n => simp only [keyP] at h2; cases e : keyP ys <;> rw [e] at h2 <;> cases h2
      | str n => simp only [keyP] at h2; cases e : keyP ys <;> rw [e] at h2 <;> cases h2
      | _ => cases h2
  | cons x xs ih =>
    intro ys l h1 h2
    cases x with
    | int n =>
      simp only [keyP] at h1
      cases e : keyP xs with
      | none => rw [e] at h1; cases h1
      | some l' =>
        rw [e] at h1
        cases h1
        cases ys with
        | nil => cases h2
        | cons y ys =>
          cases y with
          | int m =>
            simp only [keyP] at h2
            cases e2 : keyP ys with
            | none => rw [e2] at h2; cases h2
            | some l2 =>
              rw [e2] at h2
              have h3 := Option.some.inj h2
              have h4 : m = n := Sum.inl.inj (List.cons.inj h3).1
              have h5 : l2 = l' := (List.cons.inj h3).2
              rw [h4, ih e (by rw [e2, h5])]
          | str m =>
            simp only [keyP] at h2
            cases e2 : keyP ys with
            | none => rw [e2] at h2; cases h2
            | some l2 =>
              rw [e2] at h2
              have h3 := Option.some.inj h2
              cases (List.cons.inj h3).1
          | _ => cases h2
    | str n =>
      simp only [keyP] at h1
      cases e : keyP xs with
      | none => rw [e] at h1; cases h1
      | some l' =>
        rw [e] at h1
        cases h1
        cases ys with
        | nil => cases h2
        | cons y ys =>
          cases y with
          | str m =>
            simp only [keyP] at h2
            cases e2 : keyP ys with
            | none => rw [e2] at h2; cases h2
            | some l2 =>
              rw [e2] at h2
              have h3 := Option.some.inj h2
              have h4 : m.cps.toList = n.cps.toList := Sum.inr.inj (List.cons.inj h3).1
              have h5 : l2 = l' := (List.cons.inj h3).2
              have h6 : m = n := by
                obtain ⟨p⟩ := m
                obtain ⟨q⟩ := n
                have : p = q := Array.ext' h4
                rw [this]
              rw [h6, ih e (by rw [e2, h5])]
          | int m =>
            simp only [keyP] at h2
            cases e2 : keyP ys with
            | none => rw [e2] at h2; cases h2
            | some l2 =>
              rw [e2] at h2
              have h3 := Option.some.inj h2
              cases (List.cons.inj h3).1
          | _ => cases h2
    | _ => cases h1
omit [WD] in
theorem tupK_inj {x y : Pd} {l : Ik} (h1 : tupK x = some l) (h2 : tupK y = some l) : x = y := by
  cases x with
  | tuple xs =>
    cases y with
    | tuple ys => rw [keyP_inj (show keyP xs = some l from h1) (show keyP ys = some l from h2)]
    | _ => cases h2
  | _ => cases h1
theorem keyP_V {K : PySem.W.Frag} {H : Hp} : ∀ {vs : List V} {ds : List Pd} {l : Ik}, RDs K H vs ds → keyP ds = some l → keyV vs = some l
  | _, _, _, .nil, h => h
  | _, _, l, .cons (d := d) (ds := ds) (vs := vs) r t, h => by
    cases d with
    | int n =>
      cases r
      simp only [keyP] at h
      simp only [keyV]
      cases e : keyP ds with
      | none => rw [e] at h; cases h
      | some l' => rw [e] at h; rw [keyP_V t e]; exact h
    | str n =>
      cases r
      simp only [keyP] at h
      simp only [keyV]
      cases e : keyP ds with
      | none => rw [e] at h; cases h
      | some l' => rw [e] at h; rw [keyP_V t e]; exact h
    | _ => cases h
def insT (x : Pd) : List Pd → List Pd
  | [] => [x]
  | y :: r => if ltI (kOf y) (kOf x) = true then y :: insT x r else x :: y :: r
def sortT : List Pd → List Pd
  | [] => []
  | x :: r => insT x (sortT r)
omit [WD] in
theorem insT_perm (x : Pd) : ∀ l, (insT x l).Perm (x :: l)
  | [] => List.Perm.refl _
  | y :: r => by
    unfold insT
    split
    · exact ((insT_perm x r).cons y).trans (List.Perm.swap x y r)
    · exact List.Perm.refl _
omit [WD] in
theorem sortT_perm : ∀ l, (sortT l).Perm l
  | [] => List.Perm.refl _
  | x :: r => (insT_perm x _).trans ((sortT_perm r).cons x)
abbrev leT (x y : Pd) : Prop := ltI (kOf y) (kOf x) = false
omit [WD] in
theorem leT_trans {x y z : Pd} (h1 : leT x y) (h2 : leT y z) : leT x z := (swoI kOf).tr x y z h1 h2
omit [WD] in
theorem insT_sorted (x : Pd) : ∀ {l : List Pd}, l.Pairwise leT → (insT x l).Pairwise leT
  | [], _ => List.pairwise_singleton _ _
  | y :: r, h => by
    unfold insT
    rw [List.pairwise_cons] at h
    split
    · rename_i hxy
      refine List.pairwise_cons.mpr ⟨fun z hz => ?_, insT_sorted x h.2⟩
      rcases List.mem_cons.mp ((insT_perm x r).mem_iff.mp hz) with rfl | hz
      · exact (swoI kOf).asym _ _ hxy
      · exact h.1 z hz
    · rename_i hxy
      have hxy' : leT x y := by simpa using hxy
      refine List.pairwise_cons.mpr ⟨fun z hz => ?_, List.pairwise_cons.mpr h⟩
      rcases List.mem_cons.mp hz with rfl | hz
      · exact hxy'
      · exact leT_trans hxy' (h.1 z hz)
omit [WD] in
theorem sortT_sorted : ∀ l, (sortT l).Pairwise leT
  | [] => .nil
  | x :: r => insT_sorted x (sortT_sorted r)
omit [WD] in
theorem sortT_uniq {xs ys : List Pd} (hk : ∀ x ∈ xs, ∃ l, tupK x = some l) (p : ys.Perm xs) (s : ys.Pairwise leT) : ys = sortT xs := by
  refine List.Perm.eq_of_pairwise (le := leT) (fun a b ha hb h g => ?_) s (sortT_sorted xs) (p.trans (sortT_perm xs).symm)
  obtain ⟨l1, e1⟩ := hk a (p.mem_iff.mp ha)
  obtain ⟨l2, e2⟩ := hk b ((sortT_perm xs).mem_iff.mp hb)
  have h' : ltI l2 l1 = false := by have : ltI (kOf b) (kOf a) = false := h; simpa [kOf, e1, e2] using this
  have g' : ltI l1 l2 = false := by have : ltI (kOf a) (kOf b) = false := g; simpa [kOf, e1, e2] using this
  have : l1 = l2 := (PyProof.Rows.listOrd PyProof.Rows.itemOrd).total _ _ g' h'
  exact tupK_inj e1 (by rw [e2, this])
def sortOk (xs : List Pd) : Bool := match xs with
  | [] => false
  | x :: _ => !(kOf x).isEmpty && xs.all fun y => match tupK y with
    | some l => decide (shp l = shp (kOf x))
    | none => false
def sortedT : List Pd → Option (List Pd)
  | [.list xs] => if sortOk xs = true then some (sortT xs) else sortedD [.list xs]
  | [.tuple xs] => match strsD xs with
    | some ys => if ys.length < 64 then some ((sortS ys).map .str) else none
    | none => none
  | _ => none
abbrev rSortedT (K : PySem.W.Frag) : List V → Hp → VK → Prop := fun vs H Q => rSortedS K vs H Q ∨ rSortTu K vs H Q ∨ rSortedK K vs H Q
theorem kSortedT {X : Cx} (K : PySem.W.Frag) (hK : X.K = K := by rfl) : CallR X (.builtin "sorted") (rSortedT K) := by
  subst hK
  exact cr_sortedS.or (cr_sortTu.or cr_sortedK)
theorem RDs.pairs {K : PySem.W.Frag} {H : Hp} : ∀ {ps : List (V × Pd)}, (∀ p ∈ ps, RD K H p.1 p.2) → RDs K H (ps.map Prod.fst) (ps.map Prod.snd)
  | [], _ => .nil
  | p :: ps, h => .cons (h p List.mem_cons_self) (RDs.pairs fun q hq => h q (List.mem_cons_of_mem _ hq))
theorem RDs.zip {K : PySem.W.Frag} {H : Hp} : ∀ {vs : List V} {ds : List Pd}, RDs K H vs ds → (∀ p ∈ vs.zip ds, RD K H p.1 p.2) ∧ (vs.zip ds).map Prod.fst = vs ∧ (vs.zip ds).map Prod.snd = ds
  | _, _, .nil => ⟨fun p hp => by simp at hp, rfl, rfl⟩
  | _, _, .cons r t => by
    obtain ⟨h1, h2, h3⟩ := RDs.zip t
    refine ⟨fun p hp => ?_, ?_, ?_⟩
    · rw [List.zip_cons_cons] at hp
      rcases List.mem_cons.mp hp with rfl | hp
      · exact r
      · exact h1 p hp
    · rw [List.zip_cons_cons, List.map_cons, h2]
    · rw [List.zip_cons_cons, List.map_cons, h3]
theorem rcl_sortedT {K : PySem.W.Frag} : RCallL K (rSortedT K) sortedT := by
  intro Hf H vs xs z e hx h Q q
  unfold sortedT at h
  split at h
  · rename_i us
    split at h
    · rename_i hok
      cases h
      obtain ⟨v, rfl, hv⟩ := hx.one
      obtain ⟨l, ws, rfl, t, r⟩ := hv.list e
      obtain ⟨z1, z2, z3⟩ := r.zip
      unfold sortOk at hok
      cases us with
      | nil => cases hok
      | cons x us =>
        simp only [Bool.and_eq_true] at hok
        have hk : ∀ y ∈ x :: us, ∃ l, tupK y = some l ∧ shp l = shp (kOf x) := fun y hy => by
          have := List.all_eq_true.mp hok.2 y hy
          cases ek : tupK y with
          | none => rw [ek] at this; cases this
          | some l => rw [ek] at this; exact ⟨l, rfl, of_decide_eq_true this⟩
        refine .inr (.inr ⟨l, (ws.zip (x :: us)).map fun p => (p.1, kOf p.2), shp (kOf x), rfl, ?_, ?_, fun p hp => ?_, fun qs p pm so np => ?_⟩)
        · rw [List.map_map]
          have : (Prod.fst ∘ fun p : V × Pd => (p.1, kOf p.2)) = Prod.fst := rfl
          rw [this, z2]
          exact t
        · intro z
          have : kOf x = [] := by simpa [shp] using z
          rw [this] at hok
          simp at hok
        · obtain ⟨⟨v, d⟩, hm, rfl⟩ := List.mem_map.mp hp
          have hd : d ∈ x :: us := by rw [← z3]; exact List.mem_map.mpr ⟨(v, d), hm, rfl⟩
          obtain ⟨l, ek, es⟩ := hk d hd
          have rv : RD K Hf v d := z1 _ hm
          have eo : kOf d = l := by simp [kOf, ek]
          cases d with
          | tuple ds =>
            cases rv with
            | tup hT hs => exact ⟨_, _, rfl, ex_t e hT.sq, by show keyV _ = some (kOf _); rw [eo]; exact keyP_V hs ek, by show shp (kOf _) = _; rw [eo]; exact es⟩
          | _ => cases ek
        · obtain ⟨l', pm', rfl⟩ := perm_lift pm
          have hz : l'.map Prod.snd = sortT (x :: us) := by
            refine sortT_uniq (fun y hy => ?_) ?_ ?_
            · obtain ⟨l, ek, _⟩ := hk y hy; exact ⟨l, ek⟩
            · have := pm'.map Prod.snd
              rwa [z3] at this
            · have so' : List.Pairwise (fun x y : V × Ik => ltI y.2 x.2 = false) (l'.map fun p => (p.1, kOf p.2)) := so
              have s2 := List.pairwise_map.mp so'
              exact List.pairwise_map.mpr s2
          have rr : RDs K Hf (l'.map Prod.fst) (l'.map Prod.snd) := RDs.pairs fun p hp => z1 p (pm'.mem_iff.mp hp)
          rw [hz] at rr
          have em : (l'.map fun p => (p.1, kOf p.2)).map Prod.fst = l'.map Prod.fst := by rw [List.map_map]; rfl
          rw [em]
          exact q p _ _ (e.trans (Ex.new np)) (Ex.new np) np upd_same rr
    · exact .inl (rcl_sorted Hf H vs _ z e hx h Q q)
  · rename_i us
    split at h
    · rename_i ys es
      split at h
      · rename_i hl
        cases h
        obtain ⟨v, rfl, hv⟩ := hx.one
        obtain ⟨l, ws, rfl, _, t, r⟩ := hv.tuple e
        obtain rfl := strs_ok r es
        refine .inr (.inl ⟨l, ys, rfl, t, hl, fun zs p pm so np => ?_⟩)
        rw [sorted_unique pm so]
        exact q p _ _ (e.trans (Ex.new np)) (Ex.new np) np upd_same (RDs.strs _)
      · cases h
    · cases h
  · cases h
end Dt
namespace Dt
open PySem PySem.Spec L2 Evl PyProof.Rows
variable [WD]
open PySem.AutoSeq1 (wpAny_loadPart')
section
variable {Z : Zx} {W : WX}
end
def ltE : Pd → Pd → Option Pd
  | .tuple xs, .tuple ys => match intsD xs, intsD ys with
    | some ns, some ms => some (.bool (HT.lexLt ns ms))
    | _, _ => none
  | d, e => ltD d e
abbrev rLtE (K : PySem.W.Frag) : R2 := fun x y H Q => rLtA x y H Q ∨ rLtT K x y H Q
theorem kLtE {X : Cx} (K : PySem.W.Frag) (hu : X.A.units + 64 < cLine) (hK : X.K = K := by rfl) : OpR X (compareOp .Lt) (rLtE K) := by
  subst hK
  exact opLt.or (op_ltT (Nat.lt_of_le_of_lt (Nat.le_add_right ..) hu))
theorem ro_ltE {K : PySem.W.Frag} : ROp K (rLtE K) ltE := by
  intro Hf H x y dx dy z e hx hy h Q q
  unfold ltE at h
  split at h
  · rename_i xs ys
    split at h
    · rename_i ns ms e1 e2
      cases h
      obtain ⟨l, ws, rfl, _, t, r⟩ := hx.tuple e
      obtain ⟨l2, ws2, rfl, _, t2, r2⟩ := hy.tuple e
      obtain rfl := ints_ok r e1
      obtain rfl := ints_ok r2 e2
      exact .inr ⟨l, l2, ns, ms, rfl, rfl, t, t2, q _ Hf H (Pg.refl e) (.bl _)⟩
    · cases h
  · exact .inl (ro_lt Hf H x y dx dy z e hx hy h Q q)
section
variable {Z : Zx} {W : WX}
def fTM (h : Pd → List Pd → Option Pd) (fo : Rho → R AV) (fa : Rho → R (List AV)) : Rho → R AV := fun ρ => (fo ρ).bind fun o ρ1 => match res ρ1 o with
  | some (.tuple ts) => (fa ρ1).bind fun as ρ2 => match ress ρ2 as with
      | some xs => match h (.tuple ts) xs with
        | some z => .ok (.d z) ρ2
        | none => .bad
      | none => .bad
  | _ => .bad
theorem d_tm {to : TE} {t : TA} {fo : Rho → R AV} {fa : Rho → R (List AV)} {r : V → List V → Hp → VK → Prop} {h : Pd → List Pd → Option Pd} (hr : RMt Z.K "tuple" r h) (ho : DE Z W to fo) (ha : DA Z W t fa) : DE Z W (tTM Z.K r to t) (fTM h fo fa) := by
  intro Hf H O σ ρ s Q p
  refine ho.bind s p fun o ρ1 x Hf1 H1 s1 g1 k1 rx p1 => ?_
  cases e0 : res ρ1 o with
  | none => rw [e0] at p1; exact p1.elim
  | some d0 =>
    rw [e0] at p1
    cases d0 with
    | tuple ts =>
      simp only at p1
      obtain ⟨l, vs0, rfl, hN, hT, hR⟩ := (res_ok s1 rx e0).tuple s1.ex
      refine ⟨⟨l, vs0, rfl, ex_n s1.ex hN⟩, ?_⟩
      refine ha.bind s1 p1 fun as ρ2 vs Hf2 H2 s2 g2 k2 rs p2 => ?_
      cases e2 : ress ρ2 as with
      | none => rw [e2] at p2; exact p2.elim
      | some xs =>
        rw [e2] at p2
        simp only at p2
        cases ez : h (.tuple ts) xs with
        | none => rw [ez] at p2; exact p2.elim
        | some z =>
          rw [ez] at p2
          exact hr Hf2 H2 _ vs _ xs z s2.ex (.inl ((RD.tup hN hR).mono g2.ex)) (ress_ok s2 rs e2) ez Q fun v Hf' H' g rv => p2 Hf' H' (s2.grow g) g.gr Kp.refl v rv
    | _ => exact p1.elim
end
def indexT : Pd → List Pd → Option Pd
  | .tuple xs, [.str z] => match strsD xs with
    | some ys => (ys.findIdx? fun y => decide (y = z)).map fun j => .int (j : Nat)
    | none => none
  | _, _ => none
def rTIx (K : PySem.W.Frag) : V → List V → Hp → VK → Prop := fun x xs H Q => ∃ p, ∃ ys : List Str, ∃ z j, x = .ref p ∧ xs = [.str z] ∧ SqT K H p (ys.map V.str) ∧ ys[j]? = some z ∧ (∀ m, m < j → ys[m]? ≠ some z) ∧ Q (.int (j : Nat)) H
theorem kTIx {X : Cx} (K : PySem.W.Frag) (hK : X.K = K := by rfl) : MtR X "tuple.index" (rTIx K) := by subst hK; exact mt_tup_index
theorem pe_tmK {X : Cx} (K : PySem.W.Frag) {o e : Expr} {es : List Expr} {to : TE} {t : TA} {name : Str} {apos cpos : Pos} {id : String} {r : V → List V → Hp → VK → Prop} (slot : Slot "tuple" name id) (hty : typeOf (.builtin id) = pure (.type "method_descriptor")) (hm : MtR X id r) (ho : PE X o to) (ha : PA X (e :: es) t) (hK : X.K = K := by rfl)
    (hbase : attributeBase o name X.env (eval o X.env) = eval o X.env := by rfl)
    (hfew : ((backTo cpos (starEach (e :: es) X.env)).all (fun x => !x.1) && (backToKw cpos (keywordEach [] X.env)).all (fun x => x.1.isSome) && decide ((e :: es).length + ([] : List Keyword).length + (if ([] : List Keyword).isEmpty then 0 else 1) < 30)) = true := by rfl)
    (hline : (apos.endLine == cpos.line) = true := by rfl) (hs : starEach (e :: es) X.env = (false, eval e X.env) :: starEach es X.env := by rfl) (hplain : (backTo cpos (starEach es X.env)).any (·.1) = false := by rfl) :
    PE X (.Call (.Attribute o name apos) (e :: es) [] cpos) (tTM K r to t) := by
  subst hK
  exact pe_tm slot hty hm ho ha hbase hfew hline hs hplain
theorem rm_tix {K : PySem.W.Frag} : RMt K "tuple" (rTIx K) indexT := by
  intro Hf H x vs dx xs z e hx hs h Q q
  unfold indexT at h
  split at h
  · rename_i ts y
    split at h
    · rename_i ys es
      cases ef : ys.findIdx? fun w => decide (w = y) with
      | none => rw [ef] at h; cases h
      | some j =>
        rw [ef] at h
        cases h
        obtain ⟨v, rfl, hv⟩ := hs.one
        obtain rfl := hv.str
        obtain ⟨l, ws, rfl, _, t, r⟩ := hx.tuple e
        obtain rfl := strs_ok r es
        obtain ⟨hj, h1, h2⟩ := List.findIdx?_eq_some_iff_getElem.mp ef
        refine ⟨l, ys, y, j, rfl, rfl, t, ?_, fun m hm => ?_, q _ Hf H (Pg.refl e) (.int _)⟩
        · rw [List.getElem?_eq_getElem hj, of_decide_eq_true h1]
        · have hml : m < ys.length := Nat.lt_trans hm hj
          rw [List.getElem?_eq_getElem hml]
          intro z
          have := h2 m hm
          simp [Option.some.inj z] at this
    · cases h
  · cases h
def isTup : Pd → Bool
  | .tuple _ => true
  | _ => false
theorem RDs.tups {K : PySem.W.Frag} {Hf H : Hp} (e : Ex Hf H) : ∀ {vs : List V} {ds : List Pd}, RDs K Hf vs ds → ds.all isTup = true → ∀ y ∈ vs, ∃ t zs, y = V.ref t ∧ SqT K H t zs
  | _, _, .nil, _ => fun y hy => by cases hy
  | _, _, .cons (d := d) r t, h => fun y hy => by
    simp only [List.all_cons, Bool.and_eq_true] at h
    rcases List.mem_cons.mp hy with rfl | hy
    · cases d with
      | tuple ds => cases r with
        | tup hN _ => exact ⟨_, _, rfl, ex_t e hN.sq⟩
      | _ => cases h.1
    · exact RDs.tups e t h.2 y hy
end Dt
namespace Dt
open PySem PySem.Spec L2 Evl PyProof.Rows
variable [WD]
mutual
inductive NkIs (K : PySem.W.Frag) (H : Hp) : NestedKey → V → Prop
  | non : NkIs K H .none .non
  | num (i : Int) : NkIs K H (.num i) (.int i)
  | text (x : Str) : NkIs K H (.text x) (.str x)
  | tup {a : Addr} {xs : List V} {ks : List NestedKey} (h : SqT K H a xs) (hs : NkAll K H ks xs) : NkIs K H (.tup ks) (.ref a)
inductive NkAll (K : PySem.W.Frag) (H : Hp) : List NestedKey → List V → Prop
  | nil : NkAll K H [] []
  | cons {k : NestedKey} {v : V} {ks : List NestedKey} {vs : List V} (h : NkIs K H k v) (hs : NkAll K H ks vs) : NkAll K H (k :: ks) (v :: vs)
end
mutual
theorem nk_inv {X : Cx} {pins : List (Addr × Obj)} {σ : L2.St} {H : Hp} {s : Shared} (I : Inv X pins σ H s) : ∀ {k : NestedKey} {v : V} {u : Value}, NkIs X.K H k v → RelV v u → NestedIs s.heap k u
  | _, _, _, .non, r => by cases r; exact .none
  | _, _, _, .num i, r => by obtain ⟨t, rfl⟩ := r; exact .int i t
  | _, _, _, .text x, r => by obtain ⟨t, rfl⟩ := r; exact .text x t
  | _, _, _, .tup h hs, r => by
    cases r
    obtain ⟨its, rv, ⟨o, h1, h2, n, h3⟩, _⟩ := I.tuple h
    exact .tup h1 h2 h3 (by simpa using nks_inv I hs rv)
theorem nks_inv {X : Cx} {pins : List (Addr × Obj)} {σ : L2.St} {H : Hp} {s : Shared} (I : Inv X pins σ H s) : ∀ {k : List NestedKey} {v : List V} {u : List Value}, NkAll X.K H k v → Vals v u → NestedAll s.heap k u
  | _, _, _, .nil, r => by cases r; exact .nil
  | _, _, _, .cons h hs, r => by
    cases r with
    | cons r1 r2 => exact .cons (nk_inv I h r1) (nks_inv I hs r2)
end
mutual
theorem rd_nk {K : PySem.W.Frag} {Hf H : Hp} (e : Ex Hf H) : ∀ {k : NestedKey} {v : V}, RD K Hf v k.data → NkIs K H k v
  | .none, _, h => by
    simp only [NestedKey.data] at h
    cases h; exact .non
  | .num i, _, h => by
    simp only [NestedKey.data] at h
    cases h; exact .num i
  | .text x, _, h => by
    simp only [NestedKey.data] at h
    cases h; exact .text x
  | .tup ks, _, h => by
    simp only [NestedKey.data] at h
    cases h with
    | tup hN hs => exact .tup (ex_t e hN.sq) (rds_nk e hs)
theorem rds_nk {K : PySem.W.Frag} {Hf H : Hp} (e : Ex Hf H) : ∀ {ks : List NestedKey} {vs : List V}, RDs K Hf vs (NestedKey.datas ks) → NkAll K H ks vs
  | [], _, h => by
    simp only [NestedKey.datas] at h
    cases h; exact .nil
  | k :: ks, _, h => by
    simp only [NestedKey.datas] at h
    cases h with
    | cons h1 h2 => exact .cons (rd_nk e h1) (rds_nk e h2)
end
abbrev Ent := NestedKey × Addr × Value
def KsN (K : PySem.W.Frag) (H : Hp) (xs : List Ent) : Prop := ∀ x ∈ xs, NkIs K H x.1 (.ref x.2.1)
section
variable {X : Cx} {pins : List (Addr × Obj)} {σ : L2.St} {H : Hp} {s : Shared} {a b : Addr} {xs : List Ent} {k : NestedKey}
def RdN (H : Hp) (a : Addr) (xs : List Ent) : Prop := H a = some (DkN a xs) ∨ ∃ o, H a = some (.frz o (DkN a xs))
theorem rdn_ok (I : Inv X pins σ H s) (e : RdN H a xs) : ObjOk X.prog X.w H s.heap a (DkN a xs) := by
  rcases e with e | ⟨o, e⟩
  · exact I.hok a _ e
  · exact (show s.heap.get? a = some o ∧ ObjOk X.prog X.w H s.heap a (DkN a xs) from I.hok a _ e).2
theorem dn_of (I : Inv X pins σ H s) (e : RdN H a xs) (ks : KsN X.K H xs) : (a == sysModules) = false ∧ xs.length ≤ sizeLine ∧ s.heap.DictOfH (nestedKind WD.P WD.w) a xs ∧ ∀ x ∈ xs, x.1.depth ≤ 8 := by
  obtain ⟨⟨h1, h2, h3, h4, o, es, ep, h5, h6, h7, h8⟩, _, _⟩ := rdn_ok I e
  exact ⟨h1, h2, ⟨o, es, ep, h5, h6, h7, h8, fun x hx => ⟨nk_inv I (ks x hx) rfl, h4 x hx⟩, h3⟩, h4⟩
theorem dn_is (I : Inv X pins σ H s) (h : NkIs X.K H k (.ref b)) (hd : k.depth ≤ 8) : (nestedKind WD.P WD.w).is s.heap k b := ⟨nk_inv I h rfl, hd⟩
theorem storedH_depth {xs : List Ent} {k : NestedKey} {b : Addr} {u : Value} (h : ∀ x ∈ xs, x.1.depth ≤ 8) (hk : k.depth ≤ 8) : ∀ x ∈ storedH xs k b u, x.1.depth ≤ 8 := fun x hx => by
  rcases mem_storedH_key hx with ⟨y, hy, e, _⟩ | ⟨e, _⟩
  · rw [e]; exact h y hy
  · rw [e]; exact hk
def NGet (K : PySem.W.Frag) (H : Hp) (a : Addr) (y : V) (xs : List Ent) (k : NestedKey) : Prop := RdN H a xs ∧ KsN K H xs ∧ (∃ b, y = .ref b) ∧ NkIs K H k y ∧ k.depth ≤ 8
variable {A : Around} {E : Value → Shared → Prop} {y v : V} {u r : Value}
theorem n_getItem {p : Addr × Value} {Q : Value → Shared → Prop} (hu : A.units + 9 < cLine) (I : Inv X pins σ H s) (g : NGet X.K H a y xs k) (hp : atKey xs k = some p) (rv : RelV v p.2) (ry : RelV y u) (h : ∀ w' s', Inv X pins σ H s' → RelV v w' → Q w' s') :
    wpAny (model WD.P WD.w) A (getItem (.ref a) u) Q E s := by
  obtain ⟨e, ks, ⟨b, rfl⟩, hk, hd⟩ := g
  obtain rfl : u = Value.ref b := ry
  obtain ⟨_, _, dd, _⟩ := dn_of I e ks
  exact wpAny_getItem_heap (show A.in1.units + 8 < cLine from by show A.units + 1 + 8 < cLine; omega) (dn_is I hk hd) dd hp (h _ _ (I.tok _) rv)
theorem n_in {Q : Value → Shared → Prop} (hu : A.units + 9 < cLine) (I : Inv X pins σ H s) (g : NGet X.K H a y xs k) (ry : RelV y u) (h : ∀ s', Inv X pins σ H s' → Q (.bool (atKey xs k).isSome) s') :
    wpAny (model WD.P WD.w) A (compareOp .In u (.ref a)) Q E s := by
  obtain ⟨e, ks, ⟨b, rfl⟩, hk, hd⟩ := g
  obtain rfl : u = Value.ref b := ry
  obtain ⟨hs, _, dd, _⟩ := dn_of I e ks
  exact wpAny_in_heap (show A.in1.units + 8 < cLine from by show A.units + 1 + 8 < cLine; omega) (dn_is I hk hd) hs dd (h _ (I.tok _))
theorem dn_new {P : Program} {w : World} {H' : Hp} {h' : Heap} (hs : (a == sysModules) = false) (z : xs.length ≤ sizeLine) (dd : h'.DictOfH (nestedKind WD.P WD.w) a xs) (hd : ∀ x ∈ xs, x.1.depth ≤ 8) : ObjOk P w H' h' a (DkN a xs) := by
  obtain ⟨o, es, ep, h5, h6, h7, h8, h9, h10⟩ := dd
  exact ⟨⟨hs, z, h10, hd, o, es, ep, h5, h6, h7, h8⟩, ⟨o, h5⟩, fun h1 h2 ⟨q1, q2, q3, q4, o', es', ep', q5, q6⟩ keep => ⟨q1, q2, q3, q4, o', es', ep', keep _ q5, q6⟩⟩
theorem n_setItem {Q : Unit → Shared → Prop} (hu : A.units + 9 < cLine) (I : Inv X pins σ H s) (g : NGet X.K H a (.ref b) xs k) (e0 : H a = some (DkN a xs)) (hl : xs.length < sizeLine) (h : ∀ s', Inv X pins σ (upd H a (DkN a (storedH xs k b r))) s' → Q () s') :
    wpAny (model WD.P WD.w) A (setItem (.ref a) (.ref b) r) Q E s := by
  obtain ⟨e, ks, _, hk, hd⟩ := g
  obtain ⟨hs, hz, dd, hall⟩ := dn_of I e ks
  refine wpAny_setItem_heap (hsz := hz) (show A.in1.units + 8 < cLine from by show A.units + 1 + 8 < cLine; omega) (dn_is I hk hd) dd fun h' hm' sb => ?_
  refine h _ (I.write (x := a) (e := a) (by rw [e0]; exact True.intro) (.inl rfl) (fun c q hb z => (sb.2 c hb).trans z) (by obtain ⟨o, _, _, q, _⟩ := hm'; exact ⟨o, q⟩) ?_)
  refine dn_new hs ?_ hm' (storedH_depth hall hd)
  have := storedH_length xs k b r
  omega
end
def tNGet (K : PySem.W.Frag) (td ty : TE) : TE := fun σ H Q => td σ H fun x H1 => ty σ H1 fun y H2 => ∃ a xs k p v, x = .ref a ∧ NGet K H2 a y xs k ∧ atKey xs k = some p ∧ RelV v p.2 ∧ Q v H2
def tNIn (K : PySem.W.Frag) (ty td : TE) : TE := fun σ H Q => ty σ H fun y H1 => td σ H1 fun x H2 => ∃ a xs k, x = .ref a ∧ NGet K H2 a y xs k ∧ Q (.bl (atKey xs k).isSome) H2
def sNPut (K : PySem.W.Frag) (td ty tv : TE) : TS := fun D σ H => tv σ H fun v H1 => td σ H1 fun x H2 => ty σ H2 fun y H3 => ∃ a b xs k, x = .ref a ∧ y = .ref b ∧ NGet K H3 a y xs k ∧ H3 a = some (DkN a xs) ∧ xs.length < sizeLine ∧ ∀ r, RelV v r → D.nx σ (upd H3 a (DkN a (storedH xs k b r)))
def tNewN : TE := fun _ H Q => ∀ p, H p = none → Q (.ref p) (upd H p (DkN p []))
section
variable {X : Cx} {o i e f value : Expr} {pos pos' tpos apos cpos : Pos} {td ty tv tx : TE}
theorem modelW (hP : X.prog = WD.P) (hw : X.w = WD.w) : model X.prog X.w = model WD.P WD.w := by rw [hP, hw]
theorem pe_nget (K : PySem.W.Frag) (hu : X.A.units + 9 < cLine) (ho : PE X o td) (hi : PE X i ty) (hs : NoSl i) (hK : X.K = K := by rfl) (hP : X.prog = WD.P := by rfl) (hw : X.w = WD.w := by rfl) : PE X (.Subscript o i pos) (tNGet K td ty) := by
  subst hK
  refine ⟨fun pins s σ H Q I h => ?_⟩
  refine subD_of PySem.F.slot_dict_getitem.lookup hs (thn (ho.run pins s σ H _ I h) fun u s1 ⟨x, H1, I1, rx, q1⟩ => thn (hi.run pins s1 σ H1 _ I1 q1) fun iv s2 ⟨y, H2, I2, ry, a, xs, k, p, v, ex, g, hp, rv, q2⟩ => ?_)
  subst ex
  obtain rfl : u = Value.ref a := rx
  refine ⟨?_, ?_⟩
  · obtain ⟨_, _, dd, _⟩ := dn_of I2 g.1 g.2.1
    exact dd.typeIs
  · rw [modelW hP hw]
    exact n_getItem hu I2 g hp rv ry fun w' s3 I3 rw' => ⟨v, H2, I3, rw', q2⟩
theorem pc_nin (K : PySem.W.Frag) (hu : X.A.units + 9 < cLine) (hi : PE X i ty) (ho : PE X o td) (hK : X.K = K := by rfl) (hP : X.prog = WD.P := by rfl) (hw : X.w = WD.w := by rfl) : PC X .In i o (tNIn K ty td) := by
  subst hK
  refine ⟨fun pins s σ H Q I h => ?_⟩
  refine thn (hi.run pins s σ H _ I h) fun iv s1 ⟨y, H1, I1, ry, q1⟩ => thn (ho.run pins s1 σ H1 _ I1 q1) fun u s2 ⟨x, H2, I2, rx, a, xs, k, ex, g, q2⟩ => ?_
  subst ex
  obtain rfl : u = Value.ref a := rx
  rw [modelW hP hw]
  exact n_in hu I2 g ry fun s3 I3 => ⟨.bl _, H2, I3, rfl, q2⟩
theorem ps_nput (K : PySem.W.Frag) (hu : X.A.units + 9 < cLine) (ho : PE X o td) (hi : PE X i ty) (hv : PE X value tv) (hs : swapsWith value (some (.Subscript o i pos')) pos.line X.env = pure false) (hK : X.K = K := by rfl) (hP : X.prog = WD.P := by rfl) (hw : X.w = WD.w := by rfl) :
    PS X (.Assign [.Subscript o i pos'] value pos) (sNPut K td ty tv) := by
  subst hK
  refine ⟨fun pins s σ H D I h => ?_⟩
  refine wpAny_Assign_Subscript (thn (hv.run pins s σ H _ I h) fun r s1 ⟨v, H1, I1, rv, q1⟩ => thn (ho.run pins s1 σ H1 _ I1 q1) fun u s2 ⟨x, H2, I2, rx, q2⟩ => thn (hi.run pins s2 σ H2 _ I2 q2) fun iv s3 ⟨y, H3, I3, ry, a, b, xs, k, ex, ey, g, e0, hl, q3⟩ => ?_) hs
  subst ex ey
  obtain rfl : u = Value.ref a := rx
  obtain rfl : iv = Value.ref b := ry
  rw [modelW hP hw]
  exact n_setItem hu I3 g e0 hl fun s4 I4 => ⟨σ, _, I4, q3 r rv⟩
theorem dn_empty {P : Program} {w : World} {H : Hp} (h : Heap) (hb : sysModules < h.objs.size) : ObjOk P w H (h.push { cls := .type "dict", data := .dict #[] }) h.objs.size (DkN h.objs.size []) :=
  dn_new (beq_eq_false_iff_ne.mpr (Ne.symm (Nat.ne_of_lt hb))) (Nat.zero_le _) (Heap.DictOfH.new h) (fun _ hx => by cases hx)
theorem pe_newN : PE X (.Dict [] [] pos) tNewN := ⟨fun pins s σ H Q I h =>
  wpAny_Dict_empty ⟨.ref s.heap.objs.size, _, I.laid (a := s.heap.objs.size) (o := DkN _ []) (t' := s.toks) (fun _ _ q => Heap.get?_push_of_some _ q) (Nat.le_refl _) (dn_empty s.heap I.big), rfl, h _ (I.hok.fresh (Nat.le_refl _))⟩⟩
end
end Dt
namespace Dt
open PySem PySem.Spec L2 Evl PyProof.Rows
variable [WD]
section
variable {K : PySem.W.Frag} {Hf H : Hp} {O : Addr → Prop} {σ : L2.St} {ρ : Rho}
theorem SR.putM (s : SR K Hf H O σ ρ) {i : Nat} {b : Bool} {o : Mo} (e : ρ[i]? = some (.m b o)) : ∃ v fp, σ[i]? = some (some v) ∧ RM K Hf H v o fp ∧ fp.Nodup ∧ (∀ a ∈ fp, O a) ∧
    ∀ (Hf' H' : Hp) (O' : Addr → Prop) (o' : Mo) (fp' : List Addr), Ex Hf Hf' → Ex Hf' H' → (∀ a, O' a → (∃ u, H' a = some u) ∧ Hf' a = none) → (∀ a u, O a → a ∉ fp → H a = some u → H' a = some u) → (∀ a, O a → a ∉ fp → O' a) →
      RM K Hf' H' v o' fp' → fp'.Nodup → (∀ a ∈ fp', O' a ∧ (a ∈ fp ∨ ¬ O a)) → SR K Hf' H' O' σ (ρ.set i (.m b o')) := by
  have hi := (List.getElem?_eq_some_iff.mp e).1
  obtain ⟨w, h1, h2⟩ := s.mr
  obtain ⟨v, fp, q1, q2, q3, q4⟩ := h1 i b o e
  refine ⟨v, fp, q1, q2, q3, fun a ha => (q4 a ha).1, fun Hf' H' O' o' fp' x1 x2 x3 x4 x5 x6 x7 x8 => ?_⟩
  have back : ∀ {j : Nat} {t : Sl}, (ρ.set i (.m b o'))[j]? = some t → (∀ c u, t ≠ .m c u) → ρ[j]? = some t := fun {j t} h n => by
    by_cases z : i = j
    · subst z; rw [List.getElem?_set_self hi] at h; cases h; exact (n _ _ rfl).elim
    · rw [List.getElem?_set_ne z] at h; exact h
  have ownOut : ∀ {j : Nat} {c xs l}, ρ[j]? = some (.own c xs) → σ[j]? = some (some (.ref l)) → l ∉ fp := fun {j c xs l} p1 p2 z => by
    have t := h2 j c xs l p1 p2
    rw [(q4 l z).2] at t; cases t
  refine ⟨x2, x3, by simp [s.len], fun j y h => ?_, fun j c xs h => ?_, fun j k c d xs ys l a1 a2 a3 a4 => ?_, fun j y h => ?_, ?_⟩
  · obtain ⟨u, p1, p2⟩ := s.slot j y (back h fun _ _ z => by cases z)
    exact ⟨u, p1, p2.mono x1⟩
  · have h' := back h fun _ _ z => by cases z
    obtain ⟨l, vs, p1, p2, p3, p4⟩ := s.own j c xs h'
    exact ⟨l, vs, p1, x5 l p2 (ownOut h' p1), x4 l _ p2 (ownOut h' p1) p3, p4.mono x1⟩
  · exact s.dis j k c d xs ys l (back a1 fun _ _ z => by cases z) (back a2 fun _ _ z => by cases z) a3 a4
  · obtain ⟨u, p1, p2⟩ := s.exc j y (back h fun _ _ z => by cases z)
    exact ⟨u, p1, p2.mono x1⟩
  · refine ⟨fun a => if a ∈ fp' then some i else w a, fun j c u h => ?_, fun j c xs l h p2 => ?_⟩
    · by_cases z : i = j
      · subst z
        rw [List.getElem?_set_self hi] at h
        cases h
        exact ⟨v, fp', q1, x6, x7, fun a ha => ⟨(x8 a ha).1, if_pos ha⟩⟩
      · rw [List.getElem?_set_ne z] at h
        obtain ⟨u', fq, p1, p2, p3, p4⟩ := h1 j c u h
        have nf : ∀ a ∈ fq, a ∉ fp := fun a ha y => by
          have t := (p4 a ha).2
          rw [(q4 a y).2] at t
          cases t
          exact z rfl
        have nf' : ∀ a ∈ fq, a ∉ fp' := fun a ha y => by
          rcases (x8 a y).2 with t | t
          · exact nf a ha t
          · exact t (p4 a ha).1
        refine ⟨u', fq, p1, p2.mono x1 fun a ha t ht => x4 a t (p4 a ha).1 (nf a ha) ht, p3, fun a ha => ⟨x5 a (p4 a ha).1 (nf a ha), ?_⟩⟩
        show (if a ∈ fp' then some i else w a) = _
        rw [if_neg (nf' a ha)]
        exact (p4 a ha).2
    · have h' := back h fun _ _ z => by cases z
      obtain ⟨l', vs, p1, p3, _⟩ := s.own j c xs h'
      rw [p2] at p1
      cases p1
      show (if l ∈ fp' then some i else w l) = none
      rw [if_neg fun y => by
        rcases (x8 l y).2 with t | t
        · exact ownOut h' p2 t
        · exact t p3]
      exact h2 j c xs l h' p2
omit [WD] in
theorem kp_putM {ρ : Rho} {i : Nat} {b : Bool} {o o' : Mo} (e : ρ[i]? = some (.m b o)) : Kp ρ (ρ.set i (.m b o')) := by
  have hi := (List.getElem?_eq_some_iff.mp e).1
  refine ⟨fun j xs q => ?_, fun j u q => ?_⟩
  · by_cases z : i = j
    · subst z; rw [e] at q; cases q
    · exact ⟨xs, by rw [List.getElem?_set_ne z]; exact q⟩
  · by_cases z : i = j
    · subst z; rw [e] at q; cases q; exact ⟨o', List.getElem?_set_self hi⟩
    · exact ⟨u, by rw [List.getElem?_set_ne z]; exact q⟩
omit [WD] in
def lookM (f : Str) : List (Str × Mo) → Option Mo
  | [] => none
  | (g, o) :: fs => if g = f then some o else lookM f fs
omit [WD] in
def putFM (f : Str) (o : Mo) : List (Str × Mo) → List (Str × Mo)
  | [] => [(f, o)]
  | (g, u) :: fs => if g = f then (g, o) :: fs else (g, u) :: putFM f o fs
theorem RMs.look {f : Str} : ∀ {fvs : List (Str × V)} {fs : List (Str × Mo)} {fp : List Addr} {o : Mo}, RMs K Hf H fvs fs fp → lookM f fs = some o → ∃ v fq, fvs.lookup f = some v ∧ RM K Hf H v o fq ∧ (∀ a ∈ fq, a ∈ fp)
  | _, _, _, _, .nil, h => by cases h
  | _, _, _, o, .cons (f := g) (v := v) (o := u) (fp := fp) (fq := fq) hm hs, h => by
    simp only [lookM] at h
    by_cases z : g = f
    · rw [if_pos z] at h
      cases h
      exact ⟨v, fp, by subst z; simp [List.lookup], hm, fun a ha => List.mem_append_left _ ha⟩
    · rw [if_neg z] at h
      obtain ⟨v', fr, p1, p2, p3⟩ := RMs.look hs h
      refine ⟨v', fr, ?_, p2, fun a ha => List.mem_append_right _ (p3 a ha)⟩
      have : (f == g) = false := beq_eq_false_iff_ne.mpr fun y => z y.symm
      simp only [List.lookup, this]
      exact p1
theorem RMs.none {f : Str} : ∀ {fvs : List (Str × V)} {fs : List (Str × Mo)} {fp : List Addr}, RMs K Hf H fvs fs fp → lookM f fs = none → fvs.lookup f = none
  | _, _, _, .nil, _ => rfl
  | _, _, _, .cons (f := g) hm hs, h => by
    simp only [lookM] at h
    by_cases z : g = f
    · rw [if_pos z] at h; cases h
    · rw [if_neg z] at h
      have : (f == g) = false := beq_eq_false_iff_ne.mpr fun y => z y.symm
      simp only [List.lookup, this]
      exact RMs.none hs h
theorem RMs.length : ∀ {fvs : List (Str × V)} {fs : List (Str × Mo)} {fp : List Addr}, RMs K Hf H fvs fs fp → fvs.length = fs.length
  | _, _, _, .nil => rfl
  | _, _, _, .cons _ hs => congrArg Nat.succ (RMs.length hs)
theorem RMs.put {f : Str} {v : V} {o : Mo} {fn : List Addr} {Hf' H' : Hp} (e : Ex Hf Hf') (hv : RM K Hf' H' v o fn) (dn : fn.Nodup) : ∀ {fvs : List (Str × V)} {fs : List (Str × Mo)} {fp : List Addr}, RMs K Hf H fvs fs fp → fp.Nodup → (∀ a ∈ fp, ∀ u, H a = some u → H' a = some u) → (∀ a ∈ fn, a ∉ fp) →
    ∃ fp', RMs K Hf' H' (putF f v fvs) (putFM f o fs) fp' ∧ fp'.Nodup ∧ ∀ a ∈ fp', a ∈ fp ∨ a ∈ fn
  | _, _, _, .nil, _, _, _ => ⟨fn ++ [], .cons hv .nil, by simpa using dn, fun a ha => .inr (by simpa using ha)⟩
  | _, _, _, .cons (f := g) (v := x) (o := u) (vs := vs) (os := os) (fp := fp) (fq := fq) hm hs, nd, k, dj => by
    obtain ⟨n1, n2, n3⟩ := List.nodup_append.mp nd
    simp only [putF, putFM]
    by_cases z : g = f
    · rw [if_pos z, if_pos z]
      refine ⟨fn ++ fq, .cons hv (RMs.mono e hs fun a ha => k a (List.mem_append_right _ ha)), List.nodup_append.mpr ⟨dn, n2, fun a ha b hb y => dj a ha (List.mem_append_right _ (y ▸ hb))⟩, fun a ha => ?_⟩
      rcases List.mem_append.mp ha with t | t
      · exact .inr t
      · exact .inl (List.mem_append_right _ t)
    · rw [if_neg z, if_neg z]
      obtain ⟨fp', r1, r2, r3⟩ := RMs.put e hv dn (f := f) hs n2 (fun a ha => k a (List.mem_append_right _ ha)) fun a ha y => dj a ha (List.mem_append_right _ y)
      refine ⟨fp ++ fp', .cons (RM.mono e hm fun a ha => k a (List.mem_append_left _ ha)) r1, List.nodup_append.mpr ⟨n1, r2, fun a ha b hb y => ?_⟩, fun a ha => ?_⟩
      · subst y
        rcases r3 a hb with t | t
        · exact n3 a ha a t rfl
        · exact dj a t (List.mem_append_left _ ha)
      · rcases List.mem_append.mp ha with t | t
        · exact .inl (List.mem_append_left _ t)
        · rcases r3 a t with t | t
          · exact .inl (List.mem_append_right _ t)
          · exact .inr t
theorem RMs.chg {f : Str} {H' : Hp} {o o' : Mo} : ∀ {fvs : List (Str × V)} {fs : List (Str × Mo)} {fp : List Addr}, RMs K Hf H fvs fs fp → fp.Nodup → lookM f fs = some o →
    ∃ v fq, fvs.lookup f = some v ∧ RM K Hf H v o fq ∧ (∀ a ∈ fq, a ∈ fp) ∧ (RM K Hf H' v o' fq → (∀ a ∈ fp, a ∉ fq → ∀ u, H a = some u → H' a = some u) → RMs K Hf H' fvs (putFM f o' fs) fp)
  | _, _, _, .nil, _, h => by cases h
  | _, _, _, .cons (f := g) (v := x) (o := u) (vs := vs) (os := os) (fp := fp) (fq := fq) hm hs, nd, h => by
    obtain ⟨n1, n2, n3⟩ := List.nodup_append.mp nd
    simp only [lookM] at h
    by_cases z : g = f
    · rw [if_pos z] at h
      cases h
      refine ⟨x, fp, by subst z; simp [List.lookup], hm, fun a ha => List.mem_append_left _ ha, fun r k => ?_⟩
      simp only [putFM]
      rw [if_pos z]
      exact .cons r (RMs.mono (Ex.refl _) hs fun a ha => k a (List.mem_append_right _ ha) fun y => n3 a y a ha rfl)
    · rw [if_neg z] at h
      obtain ⟨v', fr, p1, p2, p3, p4⟩ := RMs.chg (f := f) (H' := H') (o' := o') hs n2 h
      have hb : (f == g) = false := beq_eq_false_iff_ne.mpr fun y => z y.symm
      refine ⟨v', fr, by simp only [List.lookup, hb]; exact p1, p2, fun a ha => List.mem_append_right _ (p3 a ha), fun r k => ?_⟩
      simp only [putFM]
      rw [if_neg z]
      exact .cons (RM.mono (Ex.refl _) hm fun a ha => k a (List.mem_append_left _ ha) fun y => n3 a ha a (p3 a y) rfl) (p4 r fun a ha na => k a (List.mem_append_right _ ha) na)
end
structure Pl where
  i : Nat
  f : Option Str
def Pl.get (p : Pl) (ρ : Rho) : Option Mo := match ρ[p.i]? with
  | some (.m _ o) => (match p.f with
    | none => some o
    | some f => match o with
      | .obj _ fs => lookM f fs
      | _ => none)
  | _ => none
def Pl.put (p : Pl) (o' : Mo) (ρ : Rho) : Rho := match ρ[p.i]? with
  | some (.m b o) => (match p.f with
    | none => ρ.set p.i (.m b o')
    | some f => match o with
      | .obj c fs => ρ.set p.i (.m b (.obj c (putFM f o' fs)))
      | _ => ρ)
  | _ => ρ
def Pl.ok (p : Pl) (c : Str) (ρ : Rho) : Bool := match p.f with
  | none => true
  | some _ => match ρ[p.i]? with
    | some (.m _ (.obj d _)) => decide (d = c)
    | _ => false
def Mo.leaf : Mo → Bool
  | .lst _ => true
  | .dct _ _ => true
  | _ => false
def DPl (Z : Zx) (c : Str) (t : TE) (p : Pl) : Prop := ∀ Hf H O σ ρ o, SR Z.K Hf H O σ ρ → p.get ρ = some o → p.ok c ρ = true → o.leaf = true → ∀ Q : VK,
  (∀ l, RM Z.K Hf H (.ref l) o [l] → O l → (∀ Hf' H' ob o', Pg Hf H Hf' H' → RM Z.K Hf' (upd H' l ob) (.ref l) o' [l] → SR Z.K Hf' (upd H' l ob) O σ (p.put o' ρ)) → Q (.ref l) H) → t σ H Q
theorem leaf_fp {K : PySem.W.Frag} {Hf H : Hp} {v : V} {o : Mo} {fp : List Addr} (h : RM K Hf H v o fp) (l : o.leaf = true) : ∃ a, v = .ref a ∧ fp = [a] := by
  cases h with
  | dat _ => cases l
  | dl _ _ => cases l
  | obj _ _ => cases l
  | lst _ _ => exact ⟨_, rfl, rfl⟩
  | dk _ _ => exact ⟨_, rfl, rfl⟩
  | dn _ _ => exact ⟨_, rfl, rfl⟩
section
variable {Z : Zx}
theorem otr_upd {K : PySem.W.Frag} {Hf H Hf' H' : Hp} {O : Addr → Prop} {σ : L2.St} {ρ : Rho} {l : Addr} {ob : HO} (s : SR K Hf H O σ ρ) (g : Pg Hf H Hf' H') : ∀ a, O a → (∃ u, upd H' l ob a = some u) ∧ Hf' a = none := fun a h => by
  obtain ⟨⟨u, h1⟩, h2⟩ := (s.grow g).otr a h
  refine ⟨?_, h2⟩
  by_cases z : a = l
  · subst z; exact ⟨_, upd_same⟩
  · rw [upd_ne z]; exact ⟨u, h1⟩
theorem ex_upd {K : PySem.W.Frag} {Hf H Hf' H' : Hp} {O : Addr → Prop} {σ : L2.St} {ρ : Rho} {l : Addr} {ob : HO} (s : SR K Hf H O σ ρ) (g : Pg Hf H Hf' H') (hl : O l) : Ex Hf' (upd H' l ob) := fun a u h => by
  have hf := ((s.grow g).otr l hl).2
  rw [upd_ne (ne_of_none h hf)]
  exact g.ex a u h
theorem pl_fld {c f : Str} (hc : Cls Z.K (cA Z.K c)) (hn : NoAttr Z.K (cA Z.K c) f) (i : Nat) : DPl Z c (tFld Z.K (tVar i) f) ⟨i, some f⟩ := by
  intro Hf H O σ ρ o s hg hok hl Q q
  unfold Pl.get at hg
  unfold Pl.ok at hok
  cases e : ρ[i]? with
  | none => rw [show ρ[(⟨i, some f⟩ : Pl).i]? = none from e] at hg; cases hg
  | some z =>
    rw [show ρ[(⟨i, some f⟩ : Pl).i]? = some z from e] at hg hok
    cases z with
    | m b u =>
      cases u with
      | obj d fs =>
        have hg : lookM f fs = some o := hg
        have hok : decide (d = c) = true := hok
        obtain rfl := of_decide_eq_true hok
        obtain ⟨v, fp, q1, q2, q3, q4, q5⟩ := s.putM e
        cases q2 with
        | @obj a dx _ fvs _ fq h r =>
          rw [List.nodup_cons] at q3
          obtain ⟨v, fr, p1, p2, p3⟩ := r.look hg
          obtain ⟨l, rfl, rfl⟩ := leaf_fp p2 hl
          have hlf : l ∈ fq := p3 l (by simp)
          have hO : O l := q4 l (List.mem_cons_of_mem _ hlf)
          have hal : a ≠ l := fun z => q3.1 (z ▸ hlf)
          refine ⟨.ref a, q1, a, _, dx, fvs, .ref l, rfl, h, hc, hn, p1, q l p2 hO fun Hf' H' ob o' g rr => ?_⟩
          have : Pl.put ⟨i, some f⟩ o' ρ = ρ.set i (.m b (.obj d (putFM f o' fs))) := by
            unfold Pl.put
            rw [show ρ[(⟨i, some f⟩ : Pl).i]? = some (.m b (.obj d fs)) from e]
          rw [this]
          have r' : RMs Z.K Hf' H' fvs fs fq := RMs.mono g.ef r fun x hx u hu => g.eh x u hu
          obtain ⟨v2, fr2, t1, t2, t3, t4⟩ := r'.chg (H' := upd H' l ob) (o' := o') q3.2 hg
          rw [p1] at t1
          cases t1
          obtain ⟨l2, z2, rfl⟩ := leaf_fp t2 hl
          cases z2
          refine q5 Hf' _ O _ (a :: fq) g.ef (ex_upd s g hO) (otr_upd s g) (fun x u _ na hx => ?_) (fun _ h _ => h) (.obj (by rw [upd_ne hal]; exact g.eh _ _ h) (t4 rr fun x hx nx u hu => ?_)) (List.nodup_cons.mpr q3) (fun x hx => ⟨q4 x hx, .inl hx⟩)
          · rw [upd_ne (fun z : x = l => na (List.mem_cons_of_mem _ (by rw [z]; exact hlf)))]; exact g.eh x u hx
          · rw [upd_ne (fun z => nx (by simp [z]))]; exact hu
      | _ => cases hg
    | _ => cases hg
omit [WD] in
theorem Pl.kp {p : Pl} {ρ : Rho} {o o' : Mo} (h : p.get ρ = some o) : Kp ρ (p.put o' ρ) := by
  unfold Pl.get at h
  unfold Pl.put
  cases e : ρ[p.i]? with
  | none => rw [e] at h; cases h
  | some z =>
    rw [e] at h
    cases z with
    | m b u =>
      cases ef : p.f with
      | none => simp only; exact kp_putM e
      | some f =>
        rw [ef] at h
        cases u with
        | obj c fs => simp only; exact kp_putM e
        | _ => cases h
    | _ => cases h
end
end Dt
namespace Dt
open PySem PySem.Spec L2 Evl PyProof.Rows
mutual
def keyN : Pd → Option NestedKey
  | .none => some .none
  | .int i => some (.num i)
  | .str x => some (.text x)
  | .tuple xs => (keysN xs).map .tup
  | _ => none
def keysN : List Pd → Option (List NestedKey)
  | [] => some []
  | x :: xs => match keyN x, keysN xs with
    | some k, some ks => some (k :: ks)
    | _, _ => none
end
mutual
theorem keyN_data : ∀ {d : Pd} {k : NestedKey}, keyN d = some k → k.data = d
  | .none, _, h => by simp only [keyN] at h; cases h; rfl
  | .int i, _, h => by simp only [keyN] at h; cases h; rfl
  | .str x, _, h => by simp only [keyN] at h; cases h; rfl
  | .tuple xs, _, h => by
    simp only [keyN] at h
    obtain ⟨ks, e, rfl⟩ := Option.map_eq_some_iff.mp h
    simp only [NestedKey.data]
    rw [keysN_data e]
  | .bool _, _, h => by simp only [keyN] at h; cases h
  | .list _, _, h => by simp only [keyN] at h; cases h
  | .dict _, _, h => by simp only [keyN] at h; cases h
theorem keysN_data : ∀ {ds : List Pd} {ks : List NestedKey}, keysN ds = some ks → NestedKey.datas ks = ds
  | [], _, h => by simp only [keysN] at h; cases h; rfl
  | x :: xs, ks, h => by
    simp only [keysN] at h
    cases e1 : keyN x with
    | none => rw [e1] at h; cases h
    | some k =>
      cases e2 : keysN xs with
      | none => rw [e1, e2] at h; cases h
      | some r =>
        rw [e1, e2] at h
        cases h
        simp only [NestedKey.datas]
        rw [keyN_data e1, keysN_data e2]
end
mutual
theorem keyN_of : ∀ k : NestedKey, keyN k.data = some k
  | .none => rfl
  | .num _ => rfl
  | .text _ => rfl
  | .tup ks => by simp only [NestedKey.data, keyN, keysN_of ks, Option.map_some]
theorem keysN_of : ∀ ks : List NestedKey, keysN (NestedKey.datas ks) = some ks
  | [] => rfl
  | k :: ks => by simp only [NestedKey.datas, keysN, keyN_of k, keysN_of ks]
end
def keyM (n : Bool) (d : Pd) : Option NestedKey := if n = true then (match d with
    | .tuple xs => (match keyN (.tuple xs) with
      | some k => if k.depth ≤ 8 then some k else none
      | none => none)
    | _ => none)
  else (match d with
    | .int i => some (.num i)
    | .str x => some (.text x)
    | _ => none)
theorem keyM_keyN {n : Bool} {d : Pd} {k : NestedKey} (h : keyM n d = some k) : keyN d = some k := by
  unfold keyM at h
  cases n with
  | true =>
    rw [if_pos rfl] at h
    cases d with
    | tuple xs =>
      simp only at h
      cases e : keyN (.tuple xs) with
      | none => rw [e] at h; cases h
      | some k' =>
        rw [e] at h
        simp only at h
        split at h
        · cases h; rfl
        · cases h
    | _ => cases h
  | false =>
    rw [if_neg (by decide)] at h
    cases d with
    | int i => cases h; rfl
    | str x => cases h; rfl
    | _ => cases h
def getN (ds : List (Pd × Pd)) (k : NestedKey) : Option Pd := (ds.find? fun p => decide (keyN p.1 = some k)).map (·.2)
def putN (ds : List (Pd × Pd)) (kd : Pd) (k : NestedKey) (d : Pd) : List (Pd × Pd) := if (getN ds k).isSome = true then ds.map (fun p => if keyN p.1 = some k then (p.1, d) else p) else ds ++ [(kd, d)]
theorem getN_pos {p : Pd × Pd} {ds : List (Pd × Pd)} {k : NestedKey} (h : keyN p.1 = some k) : getN (p :: ds) k = some p.2 := by simp [getN, List.find?_cons, h]
theorem getN_neg {p : Pd × Pd} {ds : List (Pd × Pd)} {k : NestedKey} (h : keyN p.1 ≠ some k) : getN (p :: ds) k = getN ds k := by simp [getN, List.find?_cons, h]
variable [WD]
section
variable {K : PySem.W.Frag} {Hf : Hp}
theorem RNs.length : ∀ {xs : List Ent} {ds : List (Pd × Pd)}, RNs K Hf xs ds → xs.length = ds.length
  | _, _, .nil => rfl
  | _, _, .cons _ _ _ _ hs => congrArg Nat.succ (RNs.length hs)
theorem RNs.keys {H : Hp} (e : Ex Hf H) : ∀ {xs : List Ent} {ds : List (Pd × Pd)}, RNs K Hf xs ds → KsN K H xs
  | _, _, .nil => fun x hx => by cases hx
  | _, _, .cons hk ek _ _ hs => fun x hx => by
    rcases List.mem_cons.mp hx with rfl | hx
    · exact rd_nk e (by rw [ek]; exact hk)
    · exact RNs.keys e hs x hx
theorem RNs.at {k : NestedKey} : ∀ {xs : List Ent} {ds : List (Pd × Pd)}, RNs K Hf xs ds → (getN ds k = none ∧ atKey xs k = none) ∨ ∃ d p v, getN ds k = some d ∧ atKey xs k = some p ∧ RelV v p.2 ∧ RD K Hf v d
  | _, _, .nil => .inl ⟨rfl, rfl⟩
  | _, _, .cons (k := j) (b := b) (u := u) (v := v) (kd := kd) (d := d) (xs := xs) (ds := ds) hk ek ru hv hs => by
    have hj : keyN kd = some j := by rw [← ek]; exact keyN_of j
    by_cases z : j = k
    · subst z
      exact .inr ⟨d, (b, u), v, getN_pos hj, by simp [atKey], ru, hv⟩
    · have h1 : getN ((kd, d) :: ds) k = getN ds k := getN_neg fun y => z (by rw [hj] at y; exact Option.some.inj y)
      have h2 : atKey ((j, b, u) :: xs) k = atKey xs k := by simp [atKey, List.find?_cons, z]
      rw [h1, h2]
      exact RNs.at hs
theorem RNs.map {k : NestedKey} {v : V} {r : Value} {d : Pd} (rv : RelV v r) (hd : RD K Hf v d) : ∀ {xs : List Ent} {ds : List (Pd × Pd)}, RNs K Hf xs ds → RNs K Hf (xs.map (putAt k r)) (ds.map fun p => if keyN p.1 = some k then (p.1, d) else p)
  | _, _, .nil => .nil
  | _, _, .cons (k := j) (b := b) (u := u) (kd := kd) hk ek ru hv hs => by
    have hj : keyN kd = some j := by rw [← ek]; exact keyN_of j
    rw [List.map_cons, List.map_cons]
    unfold putAt
    by_cases z : j = k
    · rw [if_pos z, if_pos (by rw [← z]; exact hj)]
      exact .cons hk ek rv hd (RNs.map rv hd hs)
    · rw [if_neg z, if_neg (fun y => z (by rw [hj] at y; exact Option.some.inj y))]
      exact .cons hk ek ru hv (RNs.map rv hd hs)
theorem RNs.snoc {k : NestedKey} {b : Addr} {kd : Pd} {v : V} {r : Value} {d : Pd} (hk : RD K Hf (.ref b) kd) (ek : k.data = kd) (rv : RelV v r) (hd : RD K Hf v d) : ∀ {xs : List Ent} {ds : List (Pd × Pd)}, RNs K Hf xs ds → RNs K Hf (xs ++ [(k, b, r)]) (ds ++ [(kd, d)])
  | _, _, .nil => .cons hk ek rv hd .nil
  | _, _, .cons a1 a2 a3 a4 hs => .cons a1 a2 a3 a4 (RNs.snoc hk ek rv hd hs)
theorem RNs.put {k : NestedKey} {b : Addr} {kd : Pd} {v : V} {r : Value} {d : Pd} (hk : RD K Hf (.ref b) kd) (ek : k.data = kd) (rv : RelV v r) (hd : RD K Hf v d) {xs : List Ent} {ds : List (Pd × Pd)} (h : RNs K Hf xs ds) : RNs K Hf (storedH xs k b r) (putN ds kd k d) := by
  unfold storedH putN
  rcases h.at (k := k) with ⟨h1, h2⟩ | ⟨d', p, v', h1, h2, _, _⟩
  · rw [h1, h2]
    exact h.snoc hk ek rv hd
  · rw [h1, h2]
    exact h.map rv hd
def nkK : Key → NestedKey
  | .inl i => .num i
  | .inr x => .text x
omit [WD] in
theorem keyN_kD (k : Key) : keyN (kD k) = some (nkK k) := by cases k <;> rfl
omit [WD] in
theorem nkK_inj {a b : Key} (h : nkK a = nkK b) : a = b := by
  cases a <;> cases b <;> cases h <;> rfl
theorem RKs.at {j : Key} : ∀ {kvs : List (Key × V)} {ds : List (Pd × Pd)}, RKs K Hf kvs ds → (getN ds (nkK j) = none ∧ valV kvs j = none) ∨ ∃ d v, getN ds (nkK j) = some d ∧ valV kvs j = some v ∧ RD K Hf v d
  | _, _, .nil => .inl ⟨rfl, rfl⟩
  | _, _, .cons (k := i) (v := v) (vs := vs) (d := d) (ds := ds) h hs => by
    by_cases z : i = j
    · subst z
      exact .inr ⟨d, v, getN_pos (keyN_kD i), valV_pos rfl, h⟩
    · have h1 : getN ((kD i, d) :: ds) (nkK j) = getN ds (nkK j) := getN_neg fun y => z (by rw [keyN_kD] at y; exact nkK_inj (Option.some.inj y))
      rw [h1, valV_neg (show ¬ ((i, v) : Key × V).1 = j from z)]
      exact RKs.at hs
theorem RKs.map {j : Key} {v : V} {d : Pd} (hd : RD K Hf v d) : ∀ {kvs : List (Key × V)} {ds : List (Pd × Pd)}, RKs K Hf kvs ds → RKs K Hf (kvs.map fun kv => if kv.1 = j then (kv.1, v) else kv) (ds.map fun p => if keyN p.1 = some (nkK j) then (p.1, d) else p)
  | _, _, .nil => .nil
  | _, _, .cons (k := i) h hs => by
    rw [List.map_cons, List.map_cons]
    by_cases z : i = j
    · rw [if_pos z, if_pos (by rw [← z]; exact keyN_kD i)]
      exact .cons hd (RKs.map hd hs)
    · rw [if_neg z, if_neg (fun y => z (by rw [keyN_kD] at y; exact nkK_inj (Option.some.inj y)))]
      exact .cons h (RKs.map hd hs)
theorem RKs.snoc {j : Key} {v : V} {d : Pd} (hd : RD K Hf v d) : ∀ {kvs : List (Key × V)} {ds : List (Pd × Pd)}, RKs K Hf kvs ds → RKs K Hf (kvs ++ [(j, v)]) (ds ++ [(kD j, d)])
  | _, _, .nil => .cons hd .nil
  | _, _, .cons h hs => .cons h (RKs.snoc hd hs)
theorem RKs.put {j : Key} {v : V} {d : Pd} (hd : RD K Hf v d) {kvs : List (Key × V)} {ds : List (Pd × Pd)} (h : RKs K Hf kvs ds) : RKs K Hf (putK kvs j v) (putN ds (kD j) (nkK j) d) := by
  unfold putK putN
  rw [valV_any]
  rcases h.at (j := j) with ⟨h1, h2⟩ | ⟨d', v', h1, h2, _⟩
  · rw [h1, h2]
    exact h.snoc hd
  · rw [h1, h2]
    exact h.map hd
theorem RKs.length' : ∀ {kvs : List (Key × V)} {ds : List (Pd × Pd)}, RKs K Hf kvs ds → kvs.length = ds.length
  | _, _, .nil => rfl
  | _, _, .cons _ hs => congrArg Nat.succ (RKs.length' hs)
end
def DK (Z : Zx) (t : TE) (g : Rho → Option Pd) : Prop := ∀ Hf H O σ ρ x, SR Z.K Hf H O σ ρ → g ρ = some x → ∀ Q : VK, (∀ v Hf' H', Pg Hf H Hf' H' → RD Z.K Hf' v x → Q v H') → t σ H Q
def DKs (Z : Zx) (t : TA) (g : Rho → Option (List Pd)) : Prop := ∀ Hf H O σ ρ x, SR Z.K Hf H O σ ρ → g ρ = some x → ∀ Q : List V → Hp → Prop, (∀ v Hf' H', Pg Hf H Hf' H' → RDs Z.K Hf' v x → Q v H') → t σ H Q
def gVar (i : Nat) (ρ : Rho) : Option Pd := match ρ[i]? with
  | some (.d x) => some x
  | _ => none
def gNil : Rho → Option (List Pd) := fun _ => some []
def gCons' (g : Rho → Option Pd) (gs : Rho → Option (List Pd)) (ρ : Rho) : Option (List Pd) := match g ρ, gs ρ with
  | some x, some xs => some (x :: xs)
  | _, _ => none
def gTup' (gs : Rho → Option (List Pd)) (ρ : Rho) : Option Pd := match gs ρ with
  | some xs => if xs.length ≤ sizeLine then some (.tuple xs) else none
  | none => none
section
variable {Z : Zx} {W : WX}
theorem k_var (i : Nat) : DK Z (tVar i) (gVar i) := by
  intro Hf H O σ ρ x s h Q q
  unfold gVar at h
  cases e : ρ[i]? with
  | none => rw [e] at h; cases h
  | some z =>
    rw [e] at h
    cases z with
    | d y =>
      cases h
      obtain ⟨v, h1, h2⟩ := s.slot i x e
      exact ⟨v, h1, q v Hf H (Pg.refl s.ex) h2⟩
    | _ => cases h
theorem ks_nil : DKs Z tNil gNil := fun Hf H O σ ρ x s e Q q => by cases e; exact q [] Hf H (Pg.refl s.ex) .nil
theorem ks_cons {t : TE} {ts : TA} {g : Rho → Option Pd} {gs : Rho → Option (List Pd)} (h : DK Z t g) (hs : DKs Z ts gs) : DKs Z (tCons t ts) (gCons' g gs) := by
  intro Hf H O σ ρ x s e Q q
  unfold gCons' at e
  cases e1 : g ρ with
  | none => rw [e1] at e; cases e
  | some y =>
    cases e2 : gs ρ with
    | none => rw [e1, e2] at e; cases e
    | some ys =>
      rw [e1, e2] at e
      cases e
      refine h Hf H O σ ρ y s e1 _ fun v Hf1 H1 g1 r1 => ?_
      exact hs Hf1 H1 O σ ρ ys (s.grow g1) e2 _ fun vs Hf2 H2 g2 r2 => q _ Hf2 H2 (g1.trans g2) (.cons (r1.mono g2.ef) r2)
theorem k_tup {ts : TA} {gs : Rho → Option (List Pd)} (hs : DKs Z ts gs) : DK Z (tTupN ts) (gTup' gs) := by
  intro Hf H O σ ρ x s e Q q
  unfold gTup' at e
  cases e1 : gs ρ with
  | none => rw [e1] at e; cases e
  | some ys =>
    rw [e1] at e
    simp only at e
    split at e
    · rename_i hz
      cases e
      refine hs Hf H O σ ρ ys s e1 _ fun vs Hf1 H1 g1 r1 => ⟨by rw [r1.length]; exact hz, fun p o hd np => ?_⟩
      have g2 := Pg.new (o := .frz o (.tup vs)) g1.ex np
      exact q _ _ _ (g1.trans g2) (.tup (sn_of upd_same hd) (r1.mono g2.ef))
    · cases e
def fPGet (p : Pl) (n : Bool) (c : Str) (gk : Rho → Option Pd) : Rho → R AV := fun ρ => match p.get ρ with
  | some (.dct m ds) => if m = n ∧ p.ok c ρ = true then (match gk ρ with
      | some kd => (match keyM n kd with
        | some k => (match getN ds k with
          | some d => .ok (.d d) ρ
          | none => .bad)
        | none => .bad)
      | none => .bad) else .bad
  | _ => .bad
theorem nget_of {Hf H : Hp} {l : Addr} {xs : List Ent} {ds : List (Pd × Pd)} {y : V} {kd : Pd} {k : NestedKey} (e : Ex Hf H) (h : RdN H l xs) (r : RNs Z.K Hf xs ds) (ry : RD Z.K Hf y kd) (hk : keyM true kd = some k) : NGet Z.K H l y xs k ∧ k.data = kd ∧ ∃ b, y = .ref b := by
  have hN := keyM_keyN hk
  have hd := keyN_data hN
  unfold keyM at hk
  rw [if_pos rfl] at hk
  cases kd with
  | tuple us =>
    simp only [hN] at hk
    split at hk
    · rename_i h8
      have hb : ∃ b, y = .ref b := by cases ry; exact ⟨_, rfl⟩
      exact ⟨⟨h, r.keys e, hb, rd_nk e (by rw [hd]; exact ry), h8⟩, hd, hb⟩
    · cases hk
  | _ => cases hk
theorem d_pgetN {c : Str} {tp tk : TE} {p : Pl} {gk : Rho → Option Pd} (hp : DPl Z c tp p) (hk : DK Z tk gk) : DE Z W (tNGet Z.K tp tk) (fPGet p true c gk) := by
  intro Hf H O σ ρ s Q q
  unfold fPGet at q
  cases e1 : p.get ρ with
  | none => rw [e1] at q; exact q.elim
  | some o =>
    rw [e1] at q
    cases o with
    | dct m ds =>
      simp only at q
      split at q
      · rename_i hc
        obtain ⟨rfl, hok⟩ := hc
        cases e2 : gk ρ with
        | none => rw [e2] at q; exact q.elim
        | some kd =>
          rw [e2] at q
          simp only at q
          cases e3 : keyM true kd with
          | none => rw [e3] at q; exact q.elim
          | some k =>
            rw [e3] at q
            simp only at q
            refine hp Hf H O σ ρ _ s e1 hok rfl _ fun l rm _ _ => ?_
            refine hk Hf H O σ ρ kd s e2 _ fun y Hf1 H1 g1 ry => ?_
            cases rm with
            | @dn _ xs _ h r =>
              obtain ⟨ng, hd, hb⟩ := nget_of (Z := Z) g1.ex (.inl (g1.eh _ _ h)) (r.mono g1.ef) ry e3
              rcases (r.mono g1.ef).at (k := k) with ⟨h1, _⟩ | ⟨d, pp, v, h1, h2, h3, h4⟩
              · rw [h1] at q; exact q.elim
              · rw [h1] at q
                exact ⟨l, xs, k, pp, v, rfl, ng, h2, h3, q Hf1 H1 (s.grow g1) g1.gr Kp.refl v h4⟩
      · exact q.elim
    | _ => exact q.elim
def kPIn (p : Pl) (n : Bool) (c : Str) (neg : Bool) (a : AV) (ρ : Rho) : R AV := match a, p.get ρ with
  | .d kd, some (.dct m ds) => if m = n ∧ p.ok c ρ = true then (match keyM n kd with
      | some k => .ok (.d (.bool (xor neg (getN ds k).isSome))) ρ
      | none => .bad) else .bad
  | _, _ => .bad
def fPIn (p : Pl) (n : Bool) (c : Str) (neg : Bool) (fk : Rho → R AV) : Rho → R AV := fun ρ => (fk ρ).bind fun a ρ1 => kPIn p n c neg a ρ1
theorem pinN {c : Str} {tp : TE} {p : Pl} {neg : Bool} {Hf H : Hp} {O : Addr → Prop} {σ : L2.St} {ρ : Rho} {y : V} {a : AV} (hp : DPl Z c tp p) (s : SR Z.K Hf H O σ ρ) (ry : RA Z.K Hf σ y a) {Q : VK}
    (q : PostG Z W O σ ρ Hf H (fun a _ Hf' H' => ∀ v, RA Z.K Hf' σ v a → Q v H') (kPIn p true c neg a ρ)) : tp σ H fun x H2 => ∃ a xs k, x = .ref a ∧ NGet Z.K H2 a y xs k ∧ Q (.bl (xor neg (atKey xs k).isSome)) H2 := by
  unfold kPIn at q
  cases a with
  | sl i => exact q.elim
  | d kd =>
    cases e1 : p.get ρ with
    | none => rw [e1] at q; exact q.elim
    | some o =>
      rw [e1] at q
      cases o with
      | dct m ds =>
        simp only at q
        split at q
        · rename_i hc
          obtain ⟨rfl, hok⟩ := hc
          cases e3 : keyM true kd with
          | none => rw [e3] at q; exact q.elim
          | some k =>
            rw [e3] at q
            simp only at q
            refine hp Hf H O σ ρ _ s e1 hok rfl _ fun l rm _ _ => ?_
            cases rm with
            | @dn _ xs _ h r =>
              obtain ⟨ng, hd, hb⟩ := nget_of (Z := Z) s.ex (.inl h) r ry e3
              refine ⟨l, xs, k, rfl, ng, ?_⟩
              rcases r.at (k := k) with ⟨h1, h2⟩ | ⟨d, pp, v, h1, h2, _, _⟩
              · rw [h1] at q; rw [h2]; exact q Hf H s Gr.refl Kp.refl _ (.bl _)
              · rw [h1] at q; rw [h2]; exact q Hf H s Gr.refl Kp.refl _ (.bl _)
        · exact q.elim
      | _ => exact q.elim
theorem d_pinN {c : Str} {tp tk : TE} {p : Pl} {fk : Rho → R AV} (hk : DE Z W tk fk) (hp : DPl Z c tp p) : DE Z W (tNIn Z.K tk tp) (fPIn p true c false fk) := by
  intro Hf H O σ ρ s Q q
  refine hk.bind s q fun a ρ1 y Hf1 H1 s1 g1 k1 ry q1 => ?_
  have := pinN (neg := false) (Q := Q) hp s1 ry q1
  simpa using this
def kPPut (p : Pl) (n : Bool) (c : Str) (gk : Rho → Option Pd) (a : AV) (ρ : Rho) : R Fl := match a, p.get ρ with
  | .d y, some (.dct m ds) => if m = n ∧ p.ok c ρ = true ∧ ds.length < sizeLine then (match gk ρ with
      | some kd => (match keyM n kd with
        | some k => .ok .nx (p.put (.dct n (putN ds kd k y)) ρ)
        | none => .bad)
      | none => .bad) else .bad
  | _, _ => .bad
def fPPut (p : Pl) (n : Bool) (c : Str) (gk : Rho → Option Pd) (fv : Rho → R AV) : Rho → R Fl := fun ρ => (fv ρ).bind fun a ρ1 => kPPut p n c gk a ρ1
theorem s_pputN {c : Str} {tp tk tv : TE} {p : Pl} {gk : Rho → Option Pd} {fv : Rho → R AV} (hv : DE Z W tv fv) (hp : DPl Z c tp p) (hk : DK Z tk gk) : DS Z W (sNPut Z.K tp tk tv) (fPPut p true c gk fv) := by
  intro Hf H O σ ρ s En q
  refine DJ.bindS hv s q fun a ρ1 v Hf1 H1 s1 g1 k1 rv q1 => ?_
  unfold kPPut at q1
  cases a with
  | sl i => exact q1.elim
  | d y =>
    cases e1 : p.get ρ1 with
    | none => rw [e1] at q1; exact q1.elim
    | some o =>
      rw [e1] at q1
      cases o with
      | dct m ds =>
        simp only at q1
        split at q1
        · rename_i hc
          obtain ⟨rfl, hok, hz⟩ := hc
          cases e2 : gk ρ1 with
          | none => rw [e2] at q1; exact q1.elim
          | some kd =>
            rw [e2] at q1
            simp only at q1
            cases e3 : keyM true kd with
            | none => rw [e3] at q1; exact q1.elim
            | some k =>
              rw [e3] at q1
              refine hp Hf1 H1 O σ ρ1 _ s1 e1 hok rfl _ fun l rm hO wb => ?_
              refine hk Hf1 H1 O σ ρ1 kd s1 e2 _ fun yv Hf2 H2 g2 ry => ?_
              cases rm with
              | @dn _ xs _ h r =>
                obtain ⟨ng, hd, b, rfl⟩ := nget_of (Z := Z) g2.ex (.inl (g2.eh _ _ h)) (r.mono g2.ef) ry e3
                refine ⟨l, b, xs, k, rfl, rfl, ng, g2.eh _ _ h, by rw [r.length]; exact hz, fun u ru => ?_⟩
                have r2 := (r.mono g2.ef).put (b := b) (k := k) (kd := kd) (v := v) (r := u) ry hd ru (RD.mono g2.ef (show RD Z.K Hf1 v y from rv))
                exact q1 Hf2 _ O σ (wb Hf2 H2 _ _ g2 (.dn upd_same r2)) ((g1.trans g2.gr).chg hO) Orl.refl ((k1.trans (Pl.kp e1)).kq)
        · exact q1.elim
      | _ => exact q1.elim
end
end Dt
namespace Dt
open PySem PySem.Spec L2 Evl PyProof.Rows
variable [WD]
def RMn (K : PySem.W.Frag) (H0 Hf H : Hp) (v : V) (o : Mo) : Prop := ∃ fp, RM K Hf H v o fp ∧ fp.Nodup ∧ ∀ a ∈ fp, H0 a = none ∧ Hf a = none ∧ ∃ u, H a = some u
def DM (Z : Zx) (W : WX) (t : TE) (f : Rho → R Mo) : Prop := DJ Z W (fun H0 Hf H _ v a => RMn Z.K H0 Hf H v a) t f
section
variable {Z : Zx} {W : WX}
def fNewD (n : Bool) : Rho → R Mo := fun ρ => .ok (.dct n []) ρ
theorem m_newN : DM Z W tNewN (fNewD true) := by
  intro Hf H O σ ρ s Q p q nq
  have g := Pg.lay (o := DkN q []) s.ex nq
  exact p _ _ (s.grow g) g.gr Kp.refl _ ⟨[q], .dn upd_same .nil, by simp, fun a ha => by
    obtain rfl : a = q := by simpa using ha
    exact ⟨nq, fresh_back s.ex nq, _, upd_same⟩⟩
theorem SR.newM {K : PySem.W.Frag} {Hf H : Hp} {O : Addr → Prop} {σ : L2.St} {ρ : Rho} (s : SR K Hf H O σ ρ) {i : Nat} {v : V} {o : Mo} {fp : List Addr} (hi : i < ρ.length) (r : RM K Hf H v o fp) (nd : fp.Nodup) (fr : ∀ a ∈ fp, ¬ O a ∧ Hf a = none ∧ ∃ u, H a = some u) :
    SR K Hf H (fun a => O a ∨ a ∈ fp) (σ.set i (some v)) (ρ.set i (.m false o)) := by
  have back : ∀ {j : Nat} {t : Sl}, (ρ.set i (.m false o))[j]? = some t → (∀ c u, t ≠ .m c u) → i ≠ j ∧ ρ[j]? = some t := fun {j t} h n => by
    by_cases z : i = j
    · subst z; rw [List.getElem?_set_self hi] at h; cases h; exact (n _ _ rfl).elim
    · rw [List.getElem?_set_ne z] at h; exact ⟨z, h⟩
  refine ⟨s.ex, fun a h => ?_, by simp [s.len], fun j y h => ?_, fun j c xs h => ?_, fun j k c d xs ys l a1 a2 a3 a4 => ?_, fun j y h => ?_, ?_⟩
  · rcases h with h | h
    · exact s.otr a h
    · exact ⟨(fr a h).2.2, (fr a h).2.1⟩
  · obtain ⟨z, h⟩ := back h fun _ _ z => by cases z
    rw [List.getElem?_set_ne z]
    exact s.slot j y h
  · obtain ⟨z, h⟩ := back h fun _ _ z => by cases z
    obtain ⟨l, vs, p1, p2, p3, p4⟩ := s.own j c xs h
    exact ⟨l, vs, by rw [List.getElem?_set_ne z]; exact p1, .inl p2, p3, p4⟩
  · obtain ⟨z1, b1⟩ := back a1 fun _ _ z => by cases z
    obtain ⟨z2, b2⟩ := back a2 fun _ _ z => by cases z
    rw [List.getElem?_set_ne z1] at a3
    rw [List.getElem?_set_ne z2] at a4
    exact s.dis j k c d xs ys l b1 b2 a3 a4
  · obtain ⟨z, h⟩ := back h fun _ _ z => by cases z
    rw [List.getElem?_set_ne z]
    exact s.exc j y h
  · obtain ⟨w, h1, h2⟩ := s.mr
    refine ⟨fun a => if a ∈ fp then some i else w a, fun j c u h => ?_, fun j c xs l h p2 => ?_⟩
    · by_cases z : i = j
      · subst z
        rw [List.getElem?_set_self hi] at h
        cases h
        exact ⟨v, fp, List.getElem?_set_self (by rw [s.len]; exact hi), r, nd, fun a ha => ⟨.inr ha, if_pos ha⟩⟩
      · rw [List.getElem?_set_ne z] at h ⊢
        obtain ⟨u', fq, p1, p2, p3, p4⟩ := h1 j c u h
        refine ⟨u', fq, p1, p2, p3, fun a ha => ⟨.inl (p4 a ha).1, ?_⟩⟩
        show (if a ∈ fp then some i else w a) = _
        rw [if_neg fun y => (fr a y).1 (p4 a ha).1]
        exact (p4 a ha).2
    · obtain ⟨z, h⟩ := back h fun _ _ z => by cases z
      rw [List.getElem?_set_ne z] at p2
      obtain ⟨l', vs, q1, q2, _⟩ := s.own j c xs h
      rw [p2] at q1
      cases q1
      show (if l ∈ fp then some i else w l) = none
      rw [if_neg fun y => (fr l y).1 q2]
      exact h2 j c xs l h p2
omit [WD] in
def putMo (i : Nat) (o : Mo) (ρ : Rho) : Option Rho := match ρ[i]? with
  | some (.own true _) => none
  | some (.m true _) => none
  | some _ => some (ρ.set i (.m false o))
  | none => none
omit [WD] in
theorem putMo_some {i : Nat} {x : Mo} {ρ ρ' : Rho} (h : putMo i x ρ = some ρ') : i < ρ.length ∧ ρ' = ρ.set i (.m false x) ∧ (∀ xs, ρ[i]? ≠ some (.own true xs)) ∧ ∀ o, ρ[i]? ≠ some (.m true o) := by
  unfold putMo at h
  cases e : ρ[i]? with
  | none => rw [e] at h; cases h
  | some z =>
    rw [e] at h
    have hi := (List.getElem?_eq_some_iff.mp e).1
    cases z with
    | no => cases h; exact ⟨hi, rfl, (fun _ q => by cases q), fun _ q => by cases q⟩
    | x _ => cases h; exact ⟨hi, rfl, (fun _ q => by cases q), fun _ q => by cases q⟩
    | m b _ =>
      cases b with
      | true => cases h
      | false => cases h; exact ⟨hi, rfl, (fun _ q => by cases q), fun _ q => by cases q⟩
    | d y => cases h; exact ⟨hi, rfl, (fun _ q => by cases q), fun _ q => by cases q⟩
    | own b xs =>
      cases b with
      | true => cases h
      | false => cases h; exact ⟨hi, rfl, (fun _ q => by cases q), fun _ q => by cases q⟩
def fSetM (f : Rho → R Mo) (i : Nat) : Rho → R Fl := fun ρ => (f ρ).bind fun o ρ1 => match putMo i o ρ1 with
  | some ρ2 => .ok .nx ρ2
  | none => .bad
theorem fresh_no {K : PySem.W.Frag} {Hf H : Hp} {O : Addr → Prop} {σ : L2.St} {ρ : Rho} (s : SR K Hf H O σ ρ) {a : Addr} (h : H a = none) : ¬ O a := fun z => by
  obtain ⟨⟨o, q⟩, _⟩ := s.otr a z
  rw [h] at q; cases q
theorem s_setM {i : Nat} {t : TE} {f : Rho → R Mo} (he : DM Z W t f) : DS Z W (tAsg t (gName i)) (fSetM f i) := by
  intro Hf H O σ ρ s En p
  refine DJ.bindS he s p fun o ρ1 v Hf1 H1 s1 g1 k1 rv p1 => ?_
  obtain ⟨fp, r1, r2, r3⟩ := rv
  cases e : putMo i o ρ1 with
  | none => rw [e] at p1; exact p1.elim
  | some ρ2 =>
    rw [e] at p1
    obtain ⟨hi, rfl, ni⟩ := putMo_some e
    exact p1 Hf1 H1 _ _ (s1.newM hi r1 r2 fun a ha => ⟨fresh_no s (r3 a ha).1, (r3 a ha).2⟩) g1 (fun a z => z.elim .inl fun z => .inr (r3 a z).1) (Kq.trans k1.kq (Kq.setS ni.1 ni.2))
def fRetM (f : Rho → R Mo) : Rho → R Fl := fun ρ => (f ρ).bind fun o ρ1 => .ok (.rm o) ρ1
theorem s_retM {t : TE} {f : Rho → R Mo} (he : DM Z W t f) : DS Z W (tRet t) (fRetM f) := by
  intro Hf H O σ ρ s En p
  refine DJ.bindS he s p fun o ρ1 v Hf1 H1 s1 g1 k1 rv p1 => ?_
  obtain ⟨fp, r1, r2, r3⟩ := rv
  exact p1 Hf1 H1 O σ s1 g1 Orl.refl k1.kq v fp r1 r2 fun a ha => ⟨.inl (r3 a ha).1, (r3 a ha).2⟩
def fFld (i : Nat) (c f : Str) : Rho → R AV := fun ρ => match ρ[i]? with
  | some (.m _ (.obj d fs)) => if d = c then (match lookM f fs with
      | some (.dat x) => .ok (.d x) ρ
      | _ => .bad) else .bad
  | _ => .bad
theorem d_fld {i : Nat} {c f : Str} (hc : Cls Z.K (cA Z.K c)) (hn : NoAttr Z.K (cA Z.K c) f) : DE Z W (tFld Z.K (tVar i) f) (fFld i c f) := by
  intro Hf H O σ ρ s Q p
  unfold fFld at p
  cases e : ρ[i]? with
  | none => rw [e] at p; exact p.elim
  | some z =>
    rw [e] at p
    cases z with
    | m b o =>
      cases o with
      | obj d fs =>
        simp only at p
        split at p
        · rename_i hd
          subst hd
          cases el : lookM f fs with
          | none => rw [el] at p; exact p.elim
          | some u =>
            rw [el] at p
            cases u with
            | dat x =>
              obtain ⟨v, fp, q1, q2, q3, q4, _⟩ := s.putM e
              cases q2 with
              | @obj a dx _ fvs _ fq h r =>
                obtain ⟨v, fr, p1, p2, p3⟩ := r.look el
                cases p2 with
                | dat rd => exact ⟨.ref a, q1, a, _, dx, fvs, v, rfl, h, hc, hn, p1, p Hf H s Gr.refl Kp.refl v rd⟩
            | _ => exact p.elim
        · exact p.elim
      | _ => exact p.elim
    | _ => exact p.elim
def putFS (i : Nat) (c f : Str) (u : Mo) (ρ : Rho) : Option Rho := match ρ[i]? with
  | some (.m b (.obj d fs)) => if d = c ∧ fs.length < 1000 then some (ρ.set i (.m b (.obj d (putFM f u fs)))) else none
  | _ => none
theorem fld_put {i : Nat} {c f : Str} {u : Mo} {Hf H : Hp} {O : Addr → Prop} {σ : L2.St} {ρ ρ' : Rho} (hc : Cls Z.K (cA Z.K c)) (hn : NoAttr Z.K (cA Z.K c) f) (s : SR Z.K Hf H O σ ρ) (e : putFS i c f u ρ = some ρ') {y : V} {fn : List Addr} (r : RM Z.K Hf H y u fn) (dn : fn.Nodup) (fr : ∀ a ∈ fn, ¬ O a ∧ Hf a = none ∧ ∃ u, H a = some u) :
    ∃ a dx fs, σ[i]? = some (some (.ref a)) ∧ H a = some (.ins (cA Z.K c) dx fs) ∧ fs.length < 1000 ∧ O a ∧ SR Z.K Hf (upd H a (.ins (cA Z.K c) dx (putF f y fs))) (fun x => O x ∨ x ∈ fn) σ ρ' ∧ Kp ρ ρ' := by
  unfold putFS at e
  cases e0 : ρ[i]? with
  | none => rw [e0] at e; cases e
  | some z =>
    rw [e0] at e
    cases z with
    | m b o =>
      cases o with
      | obj d fs =>
        simp only at e
        split at e
        · rename_i hd
          obtain ⟨rfl, hz⟩ := hd
          cases e
          obtain ⟨v, fp, q1, q2, q3, q4, q5⟩ := s.putM e0
          cases q2 with
          | @obj a dx _ fvs _ fq h rs =>
            rw [List.nodup_cons] at q3
            have hOa : O a := q4 a (by simp)
            have ha : ∀ x, ¬ O x → x ≠ a := fun x hx z => hx (z ▸ hOa)
            have r' : RM Z.K Hf (upd H a (.ins (cA Z.K d) dx (putF f y fvs))) y u fn := r.mono (Ex.refl _) fun x hx t ht => by rw [upd_ne (ha x (fr x hx).1)]; exact ht
            obtain ⟨fp', t1, t2, t3⟩ := RMs.put (f := f) (Ex.refl Hf) r' dn rs q3.2 (fun x hx t ht => by rw [upd_ne (fun z : x = a => q3.1 (by rw [← z]; exact hx))]; exact ht) (fun x hx y => (fr x hx).1 (q4 x (List.mem_cons_of_mem _ y)))
            have hna : a ∉ fp' := fun y => by
              rcases t3 a y with z | z
              · exact q3.1 z
              · exact (fr a z).1 hOa
            refine ⟨a, dx, fvs, q1, h, by rw [rs.length]; exact hz, hOa, q5 Hf _ _ _ (a :: fp') (Ex.refl _) (fun x t ht => ?_) (fun x hx => ?_) (fun x t _ nx ht => ?_) (fun x hx _ => .inl hx) (.obj upd_same t1) (List.nodup_cons.mpr ⟨hna, t2⟩) (fun x hx => ?_), kp_putM e0⟩
            · rw [upd_ne (ne_of_none ht (s.otr a hOa).2)]; exact s.ex x t ht
            · have hx' : (∃ o, H x = some o) ∧ Hf x = none := hx.elim (s.otr x) fun z => ⟨(fr x z).2.2, (fr x z).2.1⟩
              refine ⟨?_, hx'.2⟩
              by_cases z : x = a
              · subst z; exact ⟨_, upd_same⟩
              · rw [upd_ne z]; exact hx'.1
            · rw [upd_ne (fun z => nx (by simp [z]))]; exact ht
            · rcases List.mem_cons.mp hx with rfl | hx
              · exact ⟨.inl hOa, .inl (by simp)⟩
              · rcases t3 x hx with z | z
                · exact ⟨.inl (q4 x (List.mem_cons_of_mem _ z)), .inl (List.mem_cons_of_mem _ z)⟩
                · exact ⟨.inr z, .inr (fr x z).1⟩
        · cases e
      | _ => cases e
    | _ => cases e
def fFSetD (i : Nat) (c f : Str) (fv : Rho → R AV) : Rho → R Fl := fun ρ => (fv ρ).bind fun a ρ1 => match a with
  | .d x => (match putFS i c f (.dat x) ρ1 with
    | some ρ2 => .ok .nx ρ2
    | none => .bad)
  | .sl _ => .bad
theorem s_fsetD {i : Nat} {c f : Str} {tv : TE} {fv : Rho → R AV} (hc : Cls Z.K (cA Z.K c)) (hn : NoAttr Z.K (cA Z.K c) f) (hv : DE Z W tv fv) : DS Z W (sFld Z.K (tVar i) tv f) (fFSetD i c f fv) := by
  intro Hf H O σ ρ s En p
  refine DJ.bindS hv s p fun a ρ1 v Hf1 H1 s1 g1 k1 rv p1 => ?_
  cases a with
  | sl j => exact p1.elim
  | d x =>
    simp only at p1
    cases e : putFS i c f (.dat x) ρ1 with
    | none => rw [e] at p1; exact p1.elim
    | some ρ2 =>
      rw [e] at p1
      obtain ⟨a, dx, fs, h1, h2, h3, h4, h5, h6⟩ := fld_put hc hn s1 e (.dat rv) (by simp) (fun _ h => by cases h)
      exact ⟨.ref a, h1, a, _, dx, fs, rfl, h2, hc, hn, h3, p1 Hf1 _ _ σ h5 (g1.chg h4) (fun x hx => .inl (hx.elim id fun z => by cases z)) (k1.trans h6).kq⟩
def fFSetM (i : Nat) (c f : Str) (fv : Rho → R Mo) : Rho → R Fl := fun ρ => (fv ρ).bind fun o ρ1 => match putFS i c f o ρ1 with
  | some ρ2 => .ok .nx ρ2
  | none => .bad
theorem s_fsetM {i : Nat} {c f : Str} {tv : TE} {fv : Rho → R Mo} (hc : Cls Z.K (cA Z.K c)) (hn : NoAttr Z.K (cA Z.K c) f) (hv : DM Z W tv fv) : DS Z W (sFld Z.K (tVar i) tv f) (fFSetM i c f fv) := by
  intro Hf H O σ ρ s En p
  refine DJ.bindS hv s p fun o ρ1 v Hf1 H1 s1 g1 k1 rv p1 => ?_
  obtain ⟨fn, r1, r2, r3⟩ := rv
  cases e : putFS i c f o ρ1 with
  | none => rw [e] at p1; exact p1.elim
  | some ρ2 =>
    rw [e] at p1
    obtain ⟨a, dx, fs, h1, h2, h3, h4, h5, h6⟩ := fld_put hc hn s1 e r1 r2 (fun x hx => ⟨fresh_no s (r3 x hx).1, (r3 x hx).2⟩)
    exact ⟨.ref a, h1, a, _, dx, fs, rfl, h2, hc, hn, h3, p1 Hf1 _ _ σ h5 (g1.chg h4) (fun x hx => hx.elim .inl fun z => .inr (r3 x z).1) (k1.trans h6).kq⟩
end
def whRun (c : Rho → R Bool) (fb : Rho → R Fl) : Nat → Rho → R Fl
  | 0, _ => .bad
  | n + 1, ρ => match c ρ with
    | .bad => .bad
    | .ex e ρ1 => .ex e ρ1
    | .ok false ρ1 => .ok .nx ρ1
    | .ok true ρ1 => match fb ρ1 with
      | .ok .nx ρ2 => whRun c fb n ρ2
      | .ok .ct ρ2 => whRun c fb n ρ2
      | .ok .bk ρ2 => .ok .nx ρ2
      | r => r
open Classical in
noncomputable def fWhile (c : Rho → R Bool) (fb : Rho → R Fl) : Rho → R Fl := fun ρ => if h : ∃ n, whRun c fb n ρ ≠ .bad then whRun c fb (choose h) ρ else .bad
omit [WD] in
theorem whRun_more {c : Rho → R Bool} {fb : Rho → R Fl} : ∀ {n : Nat} {ρ : Rho}, whRun c fb n ρ ≠ .bad → ∀ m, n ≤ m → whRun c fb m ρ = whRun c fb n ρ
  | 0, _, h, _, _ => (h rfl).elim
  | n + 1, ρ, h, 0, hm => by omega
  | n + 1, ρ, h, m + 1, hm => by
    simp only [whRun] at h ⊢
    cases e : c ρ with
    | bad => rfl
    | ex _ _ => rfl
    | ok b ρ1 =>
      rw [e] at h
      cases b with
      | false => rfl
      | true =>
        simp only at h ⊢
        cases e2 : fb ρ1 with
        | bad => rfl
        | ex _ _ => rfl
        | ok fl ρ2 =>
          rw [e2] at h
          cases fl with
          | nx => exact whRun_more h m (by omega)
          | ct => exact whRun_more h m (by omega)
          | _ => rfl
omit [WD] in
theorem fWhile_of {c : Rho → R Bool} {fb : Rho → R Fl} {n : Nat} {ρ : Rho} {r : R Fl} (h : whRun c fb n ρ = r) (hr : r ≠ .bad) : fWhile c fb ρ = r := by
  have hx : ∃ n, whRun c fb n ρ ≠ .bad := ⟨n, by rw [h]; exact hr⟩
  unfold fWhile
  rw [dif_pos hx]
  have hc := Classical.choose_spec hx
  rcases Nat.le_total (Classical.choose hx) n with l | l
  · rw [← whRun_more hc n l]; exact h
  · rw [whRun_more (by rw [h]; exact hr) _ l]; exact h
section
variable {Z : Zx} {W : WX}
theorem s_while {tc : TT} {tb : TS} {c : Rho → R Bool} {fb : Rho → R Fl} (hc : DT Z W tc c) (hb : DS Z W tb fb) : DS Z W (tWhile tc tb) (fWhile c fb) := by
  intro Hf H O σ ρ s En p
  unfold fWhile at p
  split at p
  case isFalse => exact p.elim
  rename_i hx
  refine ⟨fun m σ' H' => ∃ Hf' O' ρ', SR Z.K Hf' H' O' σ' ρ' ∧ Gr O Hf H Hf' H' ∧ Orl O H O' ∧ Kq ρ ρ' σ σ' ∧ PostS Z W O σ ρ Hf H En (whRun c fb m ρ'), ⟨_, Hf, O, ρ, s, Gr.refl, Orl.refl, Kq.refl, p⟩, ?_⟩
  rintro m σ' H' ⟨Hf', O', ρ', s', g', o', k', p'⟩
  cases m with
  | zero => exact p'.elim
  | succ m =>
    simp only [whRun] at p'
    refine hc Hf' H' O' σ' ρ' s' _ ?_
    cases ec : c ρ' with
    | bad => rw [ec] at p'; exact p'.elim
    | ex e ρ1 =>
      rw [ec] at p'
      exact fun cls d Hf1 H1 s1 g1 k1 xr => p' cls d Hf1 H1 O' σ' s1 (g'.transO g1 o') o' (k'.trans k1.kq) xr
    | ok b ρ1 =>
      rw [ec] at p'
      intro Hf1 H1 s1 g1 k1 v rv
      subst rv
      have gA := g'.transO g1 o'
      have kA := k'.trans (Kp.kq (σ := σ') k1)
      cases v with
      | false => exact p' Hf1 H1 O' σ' s1 gA o' kA
      | true =>
        simp only at p'
        show ∃ N : L2.St → Hp → Prop, _ ∧ tb _ σ' H1
        refine ⟨fun σ2 H2 => ∃ Hf' O' ρ', SR Z.K Hf' H2 O' σ2 ρ' ∧ Gr O Hf H Hf' H2 ∧ Orl O H O' ∧ Kq ρ ρ' σ σ2 ∧ PostS Z W O σ ρ Hf H En (whRun c fb m ρ'), fun σ2 H2 q => ⟨m, Nat.lt_succ_self m, q⟩, ?_⟩
        refine hb Hf1 H1 O' σ' ρ1 s1 _ ?_
        cases eb : fb ρ1 with
        | bad => rw [eb] at p'; exact p'.elim
        | ex e ρ2 =>
          rw [eb] at p'
          exact fun cls d Hf2 H2 O2 σ2 s2 g2 o2 k2 xr => p' cls d Hf2 H2 O2 σ2 s2 (gA.transO g2 o') (o'.trans o2 gA) (kA.trans k2) xr
        | ok fl ρ2 =>
          rw [eb] at p'
          intro Hf2 H2 O2 σ2 s2 g2 o2 k2
          have gB := gA.transO g2 o'
          have oB := o'.trans o2 gA
          have kB := kA.trans k2
          cases fl with
          | nx => exact ⟨Hf2, O2, ρ2, s2, gB, oB, kB, p'⟩
          | ct => exact ⟨Hf2, O2, ρ2, s2, gB, oB, kB, p'⟩
          | bk => exact p' Hf2 H2 O2 σ2 s2 gB oB kB
          | rt x => exact p' Hf2 H2 O2 σ2 s2 gB oB kB
          | rl ys => exact fun l vs h0 h1 h2 h3 h4 => p' Hf2 H2 O2 σ2 s2 gB oB kB l vs (gA.gone h0) h1 h2 h3 h4
          | rm o => exact fun v fp h0 h1 h2 => p' Hf2 H2 O2 σ2 s2 gB oB kB v fp h0 h1 fun a ha => ⟨(h2 a ha).1.imp gA.gone id, (h2 a ha).2⟩
end
end Dt
namespace Dt
open PySem PySem.Spec L2 Evl PyProof.Rows
section
variable {X : Cx} {CX : CXT} {k : Nat} {f C : Addr} {fd : FuncData} {ps : List Str} {sp : Sp} {E : L2.St → XK} {x m : Str} {p pos apos : Pos} {e o : Expr} {es : List Expr} {ta : TE} {t : TA}
def tMethE (C : Addr) (m : Str) (sp : Sp) (E : L2.St → XK) (ta : TE) (t : TA) : TE := fun σ H Q => ta σ H fun x H1 => ∃ a dx fs, x = .ref a ∧ H1 a = some (.ins C dx fs) ∧ fs.lookup m = none ∧ t σ H1 fun vs H2 => sp (x :: vs) H2 Q (E σ)
theorem pe_methE {pl : Sem Bool} (he : PE X o ta) (c : Cls X.K C) (hm : Meth X.K C m f) (F : FnOk X.prog X.w X.K X.mg X.base CX k f fd ps sp) (hr : Room k X.A) (hb : Binds X.K fd ps []) (hx : ∀ σ, PassesAt CX X σ (E σ)) (ha : PA X (e :: es) t)
    (hst : starEach (e :: es) X.env = (false, eval e X.env) :: starEach es X.env := by rfl) (hpl : (backTo pos (starEach es X.env)).any (·.1) = false := by rfl)
    (ht : eval (.Call (.Attribute o m apos) (e :: es) [] pos) X.env = (do
      let ov ← eval o X.env
      standAt apos.atName
      let (f, first) ← holding [ov] (getMethod ov m pl)
      callWith pos f first (backTo pos (starEach (e :: es) X.env)) (backToKw pos (keywordEach [] X.env))) := by rfl) :
    PE X (.Call (.Attribute o m apos) (e :: es) [] pos) (tMethE C m sp E ta t) := by
  refine ⟨fun pins s σ H Q I h => ?_⟩
  refine PySem.W.methodCall_KW (pl := pl) (thn (he.run pins s σ H _ I h) fun u s1 ⟨x, H1, I1, rx, a, dx, fs, ex, ea, l, q⟩ => ?_) ht
  subst ex
  obtain rfl : u = Value.ref a := rx
  refine getmeth_ok I1 ea c hm l ?_
  refine PySem.W.callWith_K (first := [.ref a]) (h₀ := X.base) I.ok.mod.kin hm.kp (thn (ha.run pos pins s1 σ H1 _ I1 q) fun us s2 ⟨vs, H2, I2, r, q2⟩ => ⟨I2.kIn, ?_⟩) hst hpl
  exact run_fnS (us := .ref a :: us) (vs := .ref a :: vs) F hr hb (hx σ) I2 (.cons rfl r) q2
def tMakeE (C : Addr) (sp : Sp) (E : L2.St → XK) (t : TA) : TE := fun σ H Q => t σ H fun vs H1 => ∀ x dx, H1 x = none → H1 dx = none → dx ≠ x →
  sp (.ref x :: vs) (upd (upd H1 dx (.own x)) x (.ins C dx [])) (fun v H2 => v = .non ∧ Q (.ref x) H2) (E σ)
theorem run_makeE {pins : List (Addr × Obj)} {σ : L2.St} {H : Hp} {s : Shared} {Q : VK} {us : List Value} {vs : List V} (M : Mk X.K C f) (F : FnOk X.prog X.w X.K X.mg X.base CX k f fd ps sp) (hr : Room (k + 1) X.A) (hb : Binds X.K fd ps [])
    (hx : PassesAt CX X σ (E σ)) (I : Inv X pins σ H s) (r : Vals vs us)
    (h : ∀ x dx, H x = none → H dx = none → dx ≠ x → sp (.ref x :: vs) (upd (upd H dx (.own x)) x (.ins C dx [])) (fun v H2 => v = .non ∧ Q (.ref x) H2) (E σ)) :
    wpAny (model X.prog X.w) X.A (call (.ref C) us) (EP X pins σ Q) X.xe s := by
  have hq := h (s.heap.objs.size + 1) s.heap.objs.size (I.hok.fresh (Nat.le_succ _)) (I.hok.fresh (Nat.le_refl _)) (Nat.ne_of_lt (Nat.lt_succ_self _))
  have I2 := Inv.made (C := C) I
  have r2 : Vals (V.ref (s.heap.objs.size + 1) :: vs) (Value.ref (s.heap.objs.size + 1) :: us) := .cons rfl r
  have hl : (Value.ref (s.heap.objs.size + 1) :: us).length = ps.length := by
    have e := r2.length
    rw [F.len _ _ _ _ hq] at e
    exact e.symm
  have hbd := hb _ (Value.ref (s.heap.objs.size + 1) :: us) I2.kIn (by rw [List.append_nil]; exact hl)
  rw [List.append_nil] at hbd
  refine wpAny_call (make_map (f := f) I.kIn M.makes M.init (beq_iff_eq.mp M.fn) (codeAny_mono (F.run _ X.stack _ _ ⟨Value.ref (s.heap.objs.size + 1) :: us, []⟩ (Value.ref (s.heap.objs.size + 1) :: us) _ _ (E σ) (hr.make C us [])
    (I2.env0.make C us []) hbd r2 hq) fun r s' hq' => ?_))
  cases r with
  | error e => exact hx pins _ _ e s' I2 hq'
  | ok fl =>
    cases fl with
    | ret u =>
      obtain ⟨v, H', I3, rv, ev, q3⟩ := I2.after hq'
      subst ev
      exact ⟨rv, ⟨V.ref (s.heap.objs.size + 1), H', I3, rfl, q3⟩⟩
    | next => exact False.elim hq'
    | brk => exact False.elim hq'
    | cont => exact False.elim hq'
theorem pe_makeE (M : Mk X.K C f) (F : FnOk X.prog X.w X.K X.mg X.base CX k f fd ps sp) (hr : Room (k + 1) X.A) (hg : Gl X x) (hm : X.mg x = some (.ref C)) (hb : Binds X.K fd ps []) (hx : ∀ σ, PassesAt CX X σ (E σ))
    (ha : PA X (e :: es) t) (hdb : (x == ("__debug__" : Str)) = false := by decide) (he : starEach (e :: es) X.env = (false, eval e X.env) :: starEach es X.env := by rfl) (hpl : (backTo pos (starEach es X.env)).any (·.1) = false := by rfl) :
    PE X (.Call (.Name x p) (e :: es) [] pos) (tMakeE C sp E t) := by
  refine ⟨fun pins s σ H Q I h => ?_⟩
  refine wpAny_Call_Name_kw (ld_glob I hg hm ?_ hdb)
  refine PySem.W.callWith_K (h₀ := X.base) I.ok.mod.kin M.kp (thn (ha.run pos pins s σ H _ I h) fun us s1 ⟨vs, H1, I1, r, q⟩ => ⟨I1.kIn, ?_⟩) he hpl
  exact run_makeE M F hr hb (hx σ) I1 r q
end
variable [WD]
def endO : R Fl → R RV
  | .ok (.rt x) _ => .ok (.d x) []
  | .ok (.rl xs) _ => .ok (.l xs) []
  | .ok (.rm o) _ => .ok (.m o) []
  | .ok .nx _ => .ok (.d .none) []
  | .ex e _ => .ex e []
  | _ => .bad
def gO (n : Nat) (fb : Rho → R Fl) : Rho → R RV := fun as => endO (fb (as ++ List.replicate (n - as.length) .no))
def PostO (Z : Zx) (Hf H : Hp) (Q : VK) (E : XK) : R RV → Prop
  | .bad => False
  | .ok (.d x) _ => ∀ v Hf' H', Pg Hf H Hf' H' → RD Z.K Hf' v x → Q v H'
  | .ok (.l xs) _ => ∀ v Hf' H', Pg Hf H Hf' H' → RL Z.K H Hf' H' v xs → Q v H'
  | .ok (.m o) _ => ∀ v Hf' H', Pg Hf H Hf' H' → RMn Z.K H Hf' H' v o → Q v H'
  | .ex e _ => ∀ cls d Hf' H', Pg Hf H Hf' H' → XR Z Hf' H' cls d e → E cls d H'
def spO (Z : Zx) (n : Nat) (g : Rho → R RV) : Sp := fun vs H Q E => vs.length = n ∧ ∃ Hf xs, Ex Hf H ∧ RDs Z.K Hf vs xs ∧ PostO Z Hf H Q E (g (xs.map Sl.d))
section
variable {P : Program} {w : World} {K : PySem.W.Frag} {C : Str → Addr} {mg : Str → Option Value} {base : Heap} {x qual : Str} {params : Arguments} {body : List Stmt} {scope : Scope} {f : Addr} {fd : FuncData}
theorem fn_okO {N ps : List Str} {k : Nat} {fb : Rho → R Fl} (F : FunD K x qual params body scope [] [] f fd) (S : FnScope N ps scope)
    (hb : ∀ (cdv : Value) (A : Around) (outer : List Env) (s : Shared) (H : Hp) (E : XK), Room k (A.deeper (PyProof.Rows.envOfC qual scope s.heap.objs.size f cdv)) →
      Takes (cxOf (L2.CX P w) P w K mg base N qual scope f cdv A outer s H E) (fun cls d _ H => E cls d H) →
      PassesOwn (model P w) (A.deeper (PyProof.Rows.envOfC qual scope s.heap.objs.size f cdv)) (PyProof.Rows.envOfC qual scope s.heap.objs.size f cdv) (cxOf (L2.CX P w) P w K mg base N qual scope f cdv A outer s H E).xe →
      ∃ t, PSs (cxOf (L2.CX P w) P w K mg base N qual scope f cdv A outer s H E) body t ∧ DS ⟨K, C⟩ (fun cls d _ H => E cls d H) t fb) :
    FnOk P w K mg base (L2.CX P w) (k + 1) f fd ps (spO ⟨K, C⟩ ps.length (gO N.length fb)) := by
  refine F.ok S (fun vs H Q E h => h.1) (fun cdv A outer s H vs Q E hr h => ?_)
  obtain ⟨hl, Hf, xs, ex, r, p⟩ := h
  obtain ⟨t, h1, h2⟩ := hb cdv A outer s H E hr (takes_of rfl rfl rfl rfl) (passes_of (X := cxOf (L2.CX P w) P w K mg base N qual scope f cdv A outer s H E) rfl)
  refine ⟨t, h1, ?_⟩
  have s0 := r.args ex
  have hal : (xs.map Sl.d).length = vs.length := by rw [List.length_map, r.length]
  have st : SR K Hf H (fun _ => False) (L2.start N vs) (xs.map Sl.d ++ List.replicate (N.length - (xs.map Sl.d).length) .no) := s0.start _ _ (by rw [hal])
  refine h2 Hf H _ (L2.start N vs) _ st _ ?_
  unfold gO at p
  cases e : fb (xs.map Sl.d ++ List.replicate (N.length - (xs.map Sl.d).length) .no) with
  | bad => rw [e] at p; exact p
  | ex y ρ' =>
    rw [e] at p
    exact fun cls d Hf' H' O' σ' s' g' o' k' xr => p cls d Hf' H' (g'.pg s'.ex) xr
  | ok fl ρ' =>
    rw [e] at p
    intro Hf' H' O' σ' s' g' o' k'
    cases fl with
    | nx => exact p .non Hf' H' (g'.pg s'.ex) .non
    | bk => exact p.elim
    | ct => exact p.elim
    | rt y => exact fun v rv => p v Hf' H' (g'.pg s'.ex) rv
    | rl ys => exact fun l vs h0 h1 h2 h3 h4 => p _ Hf' H' (g'.pg s'.ex) ⟨l, vs, rfl, h0, h1, h2, h4⟩
    | rm o => exact fun v fp h0 h1 h2 => p v Hf' H' (g'.pg s'.ex) ⟨fp, h0, h1, fun a ha => ⟨(h2 a ha).1.elim id fun z => (o' a z).elim (fun y => y.elim) id, (h2 a ha).2⟩⟩
end
section
variable {Z : Zx} {W : WX}
def kCallO (g : Rho → R RV) (o : Option (List Pd)) (ρ1 : Rho) : R Mo := match o with
  | some xs => match g (xs.map Sl.d) with
    | .ok (.m x) _ => .ok x ρ1
    | .ex e _ => .ex e ρ1
    | _ => .bad
  | none => .bad
def fCallO (n : Nat) (g : Rho → R RV) (fa : Rho → R (List AV)) : Rho → R Mo := fun ρ => (fa ρ).bind fun as ρ1 => kCallO g (argsD n as) ρ1
theorem m_call {n : Nat} {g : Rho → R RV} {t : TA} {fa : Rho → R (List AV)} (ha : DA Z W t fa) : DM Z W (tCallS (spO Z n g) (WE W) t) (fCallO n g fa) := by
  intro Hf H O σ ρ s Q p
  refine ha.bind s p fun as ρ1 vs Hf1 H1 s1 g1 k1 rs p1 => ?_
  unfold kCallO at p1
  cases ed : argsD n as with
  | none => rw [ed] at p1; exact p1.elim
  | some xs =>
    rw [ed] at p1
    simp only at p1
    obtain ⟨r, hl⟩ := argsD_ok rs ed
    refine ⟨hl, Hf1, xs, s1.ex, r, ?_⟩
    cases eg : g (xs.map Sl.d) with
    | bad => rw [eg] at p1; exact p1.elim
    | ex y as' =>
      rw [eg] at p1
      exact fun cls d Hf' H' pg xr => p1 cls d Hf' H' (s1.grow pg) pg.gr Kp.refl xr
    | ok rv as' =>
      rw [eg] at p1
      cases rv with
      | d y => exact p1.elim
      | l ys => exact p1.elim
      | m o =>
        intro v Hf' H' pg ⟨fp, r1, r2, r3⟩
        exact p1 Hf' H' (s1.grow pg) pg.gr Kp.refl v ⟨fp, r1, r2, fun a ha => ⟨g1.gone (r3 a ha).1, (r3 a ha).2⟩⟩
end
def argM (xs : List Pd) (o : Mo) (ys : List Pd) : Rho := xs.map Sl.d ++ .m true o :: ys.map Sl.d
omit [WD] in
theorem argM_at (xs : List Pd) (o : Mo) (ys : List Pd) {i : Nat} {s : Sl} (h : (argM xs o ys)[i]? = some s) : (i = xs.length ∧ s = .m true o) ∨ ∃ x, s = .d x := by
  unfold argM at h
  by_cases h1 : i < xs.length
  · rw [List.getElem?_append_left (by simpa using h1), List.getElem?_map] at h
    cases q : xs[i]? with
    | none => rw [q] at h; cases h
    | some y => rw [q] at h; cases h; exact .inr ⟨y, rfl⟩
  · rw [List.getElem?_append_right (by simpa using h1), List.length_map] at h
    cases e : i - xs.length with
    | zero => rw [e] at h; cases h; exact .inl ⟨by omega, rfl⟩
    | succ j =>
      rw [e] at h
      have h : (ys.map Sl.d)[j]? = some s := h
      rw [List.getElem?_map] at h
      cases q : ys[j]? with
      | none => rw [q] at h; cases h
      | some y => rw [q] at h; cases h; exact .inr ⟨y, rfl⟩
omit [WD] in
theorem argM_m (xs : List Pd) (o : Mo) (ys : List Pd) : (argM xs o ys)[xs.length]? = some (.m true o) := by
  unfold argM
  rw [List.getElem?_append_right (by simp), List.length_map, Nat.sub_self]
  rfl
def outsM : Rho → Rho → Rho
  | [], _ => []
  | .m true _ :: as, z :: ρ => z :: outsM as ρ
  | a :: as, _ :: ρ => a :: outsM as ρ
  | a :: as, [] => a :: as
omit [WD] in
theorem outsM_at : ∀ {as ρ : Rho} (i : Nat), (outsM as ρ)[i]? = (match as[i]?, ρ[i]? with
    | some (.m true _), some z => some z
    | s, _ => s)
  | [], ρ, i => by
    show none = _
    cases ρ[i]? <;> rfl
  | a :: as, [], i => by
    show (outsM (a :: as) [])[i]? = _
    have : outsM (a :: as) [] = a :: as := by cases a with
      | m b o => cases b <;> rfl
      | _ => rfl
    rw [this]
    show _ = (match (a :: as)[i]?, (none : Option Sl) with
    | some (.m true _), some z => some z
    | s, _ => s)
    split
    · rename_i h; cases h
    · rfl
  | a :: as, z :: ρ, 0 => by
    cases a with
    | m b o => cases b <;> rfl
    | _ => rfl
  | a :: as, z :: ρ, i + 1 => by
    have ih := outsM_at (as := as) (ρ := ρ) i
    cases a with
    | m b o => cases b <;> exact ih
    | _ => exact ih
omit [WD] in
theorem outsM_length : ∀ {as ρ : Rho}, (outsM as ρ).length = as.length
  | [], _ => rfl
  | a :: as, [] => by cases a with
    | m b o => cases b <;> rfl
    | _ => rfl
  | a :: as, z :: ρ => by
    have ih := outsM_length (as := as) (ρ := ρ)
    cases a with
    | m b o => cases b <;> exact congrArg Nat.succ ih
    | _ => exact congrArg Nat.succ ih
def endM (as : Rho) : R Fl → R RV
  | .ok (.rt x) ρ => .ok (.d x) (outsM as ρ)
  | .ok (.rl xs) ρ => .ok (.l xs) (outsM as ρ)
  | .ok .nx ρ => .ok (.d .none) (outsM as ρ)
  | .ex e ρ => .ex e (outsM as ρ)
  | _ => .bad
def gM (n : Nat) (fb : Rho → R Fl) : Rho → R RV := fun as => endM as (fb (as ++ List.replicate (n - as.length) .no))
def PostM (Z : Zx) (O : Addr → Prop) (σ : L2.St) (Hf H : Hp) (Q : VK) (E : XK) : R RV → Prop
  | .bad => False
  | .ok (.d x) as' => ∀ v Hf' H' O', SR Z.K Hf' H' O' σ as' → Gr O Hf H Hf' H' → Orl O H O' → RD Z.K Hf' v x → Q v H'
  | .ok (.l xs) as' => ∀ v Hf' H' O', SR Z.K Hf' H' O' σ as' → Gr O Hf H Hf' H' → Orl O H O' → RL Z.K H Hf' H' v xs → (∀ l, v = .ref l → ¬ O' l) → Q v H'
  | .ok (.m _) _ => False
  | .ex e as' => ∀ cls d Hf' H' O', SR Z.K Hf' H' O' σ as' → Gr O Hf H Hf' H' → Orl O H O' → XR Z Hf' H' cls d e → E cls d H'
def spM (Z : Zx) (n : Nat) (g : Rho → R RV) : Sp := fun vs H Q E => vs.length = n ∧ ∃ Hf O xs o ys, SR Z.K Hf H O (vs.map some) (argM xs o ys) ∧ PostM Z O (vs.map some) Hf H Q E (g (argM xs o ys))
theorem SR.backM {K : PySem.W.Frag} {Hf H Hf' H' : Hp} {O O' : Addr → Prop} {σ σ' : L2.St} {xs ys : List Pd} {o : Mo} {ρ' : Rho} {n : Nat} (s : SR K Hf H O σ (argM xs o ys)) (s' : SR K Hf' H' O' σ' ρ') (g : Gr O Hf H Hf' H')
    (k : Kq (argM xs o ys ++ List.replicate n .no) ρ' (σ ++ List.replicate n none) σ') : SR K Hf' H' O' σ (outsM (argM xs o ys) ρ') := by
  have hm := argM_m xs o ys
  have hi := (List.getElem?_eq_some_iff.mp hm).1
  obtain ⟨⟨u, q⟩, eσ⟩ := k.2 xs.length o (by rw [List.getElem?_append_left hi]; exact hm)
  rw [List.getElem?_append_left (by rw [s.len]; exact hi)] at eσ
  have at_ : ∀ {i : Nat} {t : Sl}, (outsM (argM xs o ys) ρ')[i]? = some t → (i = xs.length ∧ t = .m true u) ∨ ((argM xs o ys)[i]? = some t ∧ ∃ x, t = .d x) := fun {i t} h => by
    rw [outsM_at i] at h
    cases ea : (argM xs o ys)[i]? with
    | none => rw [ea] at h; cases ρ'[i]? <;> cases h
    | some z =>
      rw [ea] at h
      rcases argM_at xs o ys ea with ⟨rfl, rfl⟩ | ⟨x, rfl⟩
      · rw [q] at h
        cases h
        exact .inl ⟨rfl, rfl⟩
      · cases h
        exact .inr ⟨rfl, x, rfl⟩
  refine ⟨s'.ex, s'.otr, by rw [outsM_length, s.len], fun i x h => ?_, fun i b x h => ?_, fun i j b c x y l h1 => ?_, fun i e h => ?_, s'.mr.slots (fun i b t h => ?_) fun i b t h => ?_⟩
  · rcases at_ h with ⟨_, z⟩ | ⟨h', _⟩
    · cases z
    · obtain ⟨v, q1, q2⟩ := s.slot i x h'
      exact ⟨v, q1, q2.mono g.ex⟩
  · rcases at_ h with ⟨_, z⟩ | ⟨_, _, z⟩ <;> cases z
  · rcases at_ h1 with ⟨_, z⟩ | ⟨_, _, z⟩ <;> cases z
  · rcases at_ h with ⟨_, z⟩ | ⟨_, _, z⟩ <;> cases z
  · rcases at_ h with ⟨rfl, z⟩ | ⟨_, _, z⟩
    · cases z; exact ⟨q, eσ.symm⟩
    · cases z
  · rcases at_ h with ⟨_, z⟩ | ⟨_, _, z⟩ <;> cases z
section
variable {P : Program} {w : World} {K : PySem.W.Frag} {C : Str → Addr} {mg : Str → Option Value} {base : Heap} {x qual : Str} {params : Arguments} {body : List Stmt} {scope : Scope} {f : Addr} {fd : FuncData}
theorem fn_okM {N ps : List Str} {k : Nat} {fb : Rho → R Fl} (F : FunD K x qual params body scope [] [] f fd) (S : FnScope N ps scope)
    (hb : ∀ (cdv : Value) (A : Around) (outer : List Env) (s : Shared) (H : Hp) (E : XK), Room k (A.deeper (PyProof.Rows.envOfC qual scope s.heap.objs.size f cdv)) →
      Takes (cxOf (L2.CX P w) P w K mg base N qual scope f cdv A outer s H E) (fun cls d _ H => E cls d H) →
      PassesOwn (model P w) (A.deeper (PyProof.Rows.envOfC qual scope s.heap.objs.size f cdv)) (PyProof.Rows.envOfC qual scope s.heap.objs.size f cdv) (cxOf (L2.CX P w) P w K mg base N qual scope f cdv A outer s H E).xe →
      ∃ t, PSs (cxOf (L2.CX P w) P w K mg base N qual scope f cdv A outer s H E) body t ∧ DS ⟨K, C⟩ (fun cls d _ H => E cls d H) t fb):
    FnOk P w K mg base (L2.CX P w) (k + 1) f fd ps (spM ⟨K, C⟩ ps.length (gM N.length fb)) := by
  refine F.ok S (fun vs H Q E h => h.1) (fun cdv A outer s H vs Q E hr h => ?_)
  obtain ⟨hl, Hf, O, xs, o, ys, s0, p⟩ := h
  obtain ⟨t, h1, h2⟩ := hb cdv A outer s H E hr (takes_of rfl rfl rfl rfl) (passes_of (X := cxOf (L2.CX P w) P w K mg base N qual scope f cdv A outer s H E) rfl)
  refine ⟨t, h1, ?_⟩
  have hal : (argM xs o ys).length = vs.length := by rw [← s0.len, List.length_map]
  have st : SR K Hf H O (L2.start N vs) (argM xs o ys ++ List.replicate (N.length - (argM xs o ys).length) .no) := s0.start _ _ (by rw [hal])
  refine h2 Hf H O (L2.start N vs) _ st _ ?_
  unfold gM at p
  have bk : ∀ {Hf' H' O' σ' ρ'}, SR K Hf' H' O' σ' ρ' → Gr O Hf H Hf' H' → Kq (argM xs o ys ++ List.replicate (N.length - (argM xs o ys).length) .no) ρ' (L2.start N vs) σ' → SR K Hf' H' O' (vs.map some) (outsM (argM xs o ys) ρ') := fun {Hf' H' O' σ' ρ'} s' g' k' => s0.backM s' g' (n := N.length - (argM xs o ys).length) (by
    unfold L2.start at k'
    rw [← hal] at k'
    exact k')
  cases e : fb (argM xs o ys ++ List.replicate (N.length - (argM xs o ys).length) .no) with
  | bad => rw [e] at p; exact p
  | ex y ρ' =>
    rw [e] at p
    intro cls d Hf' H' O' σ' s' g' o' k' xr
    exact p cls d Hf' H' O' (bk s' g' k') g' o' xr
  | ok fl ρ' =>
    rw [e] at p
    intro Hf' H' O' σ' s' g' o' k'
    cases fl with
    | nx => exact p .non Hf' H' O' (bk s' g' k') g' o' .non
    | bk => exact p.elim
    | ct => exact p.elim
    | rt y => exact fun v rv => p v Hf' H' O' (bk s' g' k') g' o' rv
    | rl ys => exact fun l vs h0 h1 h2 h3 h4 => p _ Hf' H' O' (bk s' g' k') g' o' ⟨l, vs, rfl, h0, h1, h2, h4⟩ fun l' e => by cases e; exact h3
    | rm o => exact p.elim
end
end Dt
namespace Dt
open PySem PySem.Spec L2 Evl PyProof.Rows
variable [WD]
section
variable {K : PySem.W.Frag} {Hf H : Hp} {O : Addr → Prop} {σ : L2.St} {ρ : Rho}
theorem SR.argM' {v : V} {o : Mo} {fp : List Addr} {us1 us2 : List V} {xs ys : List Pd} (ex : Ex Hf H) (r : RM K Hf H v o fp) (nd : fp.Nodup) (hf : ∀ a ∈ fp, (∃ u, H a = some u) ∧ Hf a = none) (r1 : RDs K Hf us1 xs) (r2 : RDs K Hf us2 ys) :
    SR K Hf H (fun a => a ∈ fp) ((us1 ++ v :: us2).map some) (argM xs o ys) := by
  have hlen : ((us1 ++ v :: us2).map some).length = (argM xs o ys).length := by unfold argM; simp [r1.length, r2.length]
  have own_no : ∀ {i : Nat} {b : Bool} {zs : List Pd}, (argM xs o ys)[i]? = some (.own b zs) → False := fun {i b zs} h => by
    rcases argM_at xs o ys h with ⟨_, z⟩ | ⟨_, z⟩ <;> cases z
  refine ⟨ex, fun a h => hf a h, hlen, fun i x h => ?_, fun i b x h => (own_no h).elim, fun i j b c x y l h => (own_no h).elim, fun i e h => ?_, ⟨fun _ => some xs.length, fun i b u h => ?_, fun i b x l h => (own_no h).elim⟩⟩
  · unfold argM at h
    by_cases h1 : i < xs.length
    · rw [List.getElem?_append_left (by simpa using h1), List.getElem?_map] at h
      cases q : xs[i]? with
      | none => rw [q] at h; cases h
      | some y =>
        rw [q] at h
        cases h
        obtain ⟨u, e1, e2⟩ := r1.get q
        exact ⟨u, by rw [List.map_append, List.getElem?_append_left (by simpa [r1.length] using h1), List.getElem?_map, e1]; rfl, e2⟩
    · rw [List.getElem?_append_right (by simpa using h1), List.length_map] at h
      cases e : i - xs.length with
      | zero => rw [e] at h; cases h
      | succ j =>
        rw [e] at h
        have h : (ys.map Sl.d)[j]? = some (.d x) := h
        rw [List.getElem?_map] at h
        cases q : ys[j]? with
        | none => rw [q] at h; cases h
        | some y =>
          rw [q] at h
          cases h
          obtain ⟨u, e1, e2⟩ := r2.get q
          refine ⟨u, ?_, e2⟩
          rw [List.map_append, List.getElem?_append_right (by simp [r1.length]; omega), List.length_map, r1.length, e]
          show ((us2.map some))[j]? = _
          rw [List.getElem?_map, e1]
          rfl
  · rcases argM_at xs o ys h with ⟨_, z⟩ | ⟨_, z⟩ <;> cases z
  · rcases argM_at xs o ys h with ⟨rfl, z⟩ | ⟨_, z⟩
    · cases z
      refine ⟨v, fp, ?_, r, nd, fun a ha => ⟨ha, rfl⟩⟩
      rw [List.map_append, List.getElem?_append_right (by simp [r1.length]), List.length_map, r1.length, Nat.sub_self]
      rfl
    · cases z
theorem SR.frame {Hf' H' : Hp} {Oc : Addr → Prop} (s : SR K Hf H O σ ρ) (g : Gr Oc Hf H Hf' H') (no : ∀ a, Oc a → ¬ O a) (e' : Ex Hf' H') : SR K Hf' H' O σ ρ := by
  refine ⟨e', fun a h => ?_, s.len, fun i x h => ?_, fun i b xs h => ?_, s.dis, fun i e' h => ?_, s.mr.heap g.ex (fun a u ha _ h => g.fm a u h fun z => no a z ha) fun _ h _ => h⟩
  · obtain ⟨⟨o, t1⟩, t2⟩ := s.otr a h
    refine ⟨g.tr a o t1, ?_⟩
    cases e1 : Hf' a with
    | none => rfl
    | some u =>
      rcases g.nw a u e1 with z | z | z
      · rw [t2] at z; cases z
      · rw [t1] at z; cases z
      · exact (no a z h).elim
  · obtain ⟨v, t1, t2⟩ := s.slot i x h
    exact ⟨v, t1, t2.mono g.ex⟩
  · obtain ⟨k, ws, b1, b2, b3, b4⟩ := s.own i b xs h
    exact ⟨k, ws, b1, b2, g.fm _ _ b3 fun z => no k z b2, b4.mono g.ex⟩
  · obtain ⟨v, t1, t2⟩ := s.exc i e' h
    exact ⟨v, t1, t2.mono g.ex⟩
theorem SR.backC {i : Nat} {b : Bool} {o : Mo} {v : V} {us1 us2 : List V} {xs : List Pd} (s : SR K Hf H O σ ρ) (e : ρ[i]? = some (.m b o)) (hv : σ[i]? = some (some v)) (hl : us1.length = xs.length) :
    ∃ fp, RM K Hf H v o fp ∧ fp.Nodup ∧ (∀ a ∈ fp, O a) ∧ ∀ (Hf' H' : Hp) (O' : Addr → Prop) (as' : Rho), SR K Hf' H' O' ((us1 ++ v :: us2).map some) as' → Gr (fun a => a ∈ fp) Hf H Hf' H' → Orl (fun a => a ∈ fp) H O' →
      ∀ c o', as'[xs.length]? = some (.m c o') → ∃ O'', SR K Hf' H' O'' σ (ρ.set i (.m b o')) ∧ Gr O Hf H Hf' H' ∧ Orl O H O'' ∧ (∀ a, O'' a → O a ∨ O' a) ∧ ((∀ a, O' a ↔ a ∈ fp) → SR K Hf' H' O σ (ρ.set i (.m b o'))) := by
  obtain ⟨v', fp, q1, q2, q3, q4, q5⟩ := s.putM e
  rw [hv] at q1
  cases q1
  refine ⟨fp, q2, q3, q4, fun Hf' H' O' as' s' g o' c u h => ?_⟩
  obtain ⟨w', h1, _⟩ := s'.mr
  obtain ⟨v2, fp', p1, p2, p3, p4⟩ := h1 xs.length c u h
  rw [List.map_append, List.getElem?_append_right (by simp [hl]), List.length_map, hl, Nat.sub_self] at p1
  cases p1
  have gO : Gr O Hf H Hf' H' := ⟨g.ex, fun a t ht n => g.fm a t ht fun z => n (q4 a z), g.tr, fun a t ht => by
    rcases g.nw a t ht with z | z | z
    · exact .inl z
    · exact .inr (.inl z)
    · exact .inr (.inr (q4 a z))⟩
  have keepO : ∀ a, O a → a ∉ fp → (∃ t, H' a = some t) ∧ Hf' a = none := fun a ha na => by
    obtain ⟨⟨t, t1⟩, t2⟩ := s.otr a ha
    refine ⟨g.tr a t t1, ?_⟩
    cases e1 : Hf' a with
    | none => rfl
    | some y =>
      rcases g.nw a y e1 with z | z | z
      · rw [t2] at z; cases z
      · rw [t1] at z; cases z
      · exact (na z).elim
  have cases' : ∀ a ∈ fp', a ∈ fp ∨ ¬ O a := fun a ha => by
    rcases o' a (p4 a ha).1 with z | z
    · exact .inl z
    · exact .inr (fresh_no s z)
  refine ⟨fun a => (O a ∧ a ∉ fp) ∨ a ∈ fp', q5 Hf' H' _ u fp' g.ex s'.ex (fun a ha => ?_) (fun a t _ na ht => g.fm a t ht na) (fun a ha na => .inl ⟨ha, na⟩) p2 p3 (fun a ha => ⟨.inr ha, cases' a ha⟩), gO, fun a ha => ?_, fun a ha => ?_, fun sub => ?_⟩
  · rcases ha with ⟨ha, na⟩ | ha
    · exact keepO a ha na
    · exact s'.otr a (p4 a ha).1
  · rcases ha with ⟨ha, _⟩ | ha
    · exact .inl ha
    · rcases o' a (p4 a ha).1 with z | z
      · exact .inl (q4 a z)
      · exact .inr z
  · rcases ha with ⟨ha, _⟩ | ha
    · exact .inl ha
    · exact .inr (p4 a ha).1
  · refine q5 Hf' H' O u fp' g.ex s'.ex (fun a ha => ?_) (fun a t _ na ht => g.fm a t ht na) (fun a ha _ => ha) p2 p3 (fun a ha => ⟨q4 a ((sub a).mp (p4 a ha).1), .inl ((sub a).mp (p4 a ha).1)⟩)
    by_cases z : a ∈ fp
    · exact s'.otr a ((sub a).mpr z)
    · exact keepO a ha z
end
def PostX (Z : Zx) (W : WX) (O : Addr → Prop) (σ : L2.St) (ρ : Rho) (Hf H : Hp) (Q : VK) : R RV → Prop
  | .bad => False
  | .ok (.d x) ρ' => ∀ v Hf' H' O', SR Z.K Hf' H' O' σ ρ' → Gr O Hf H Hf' H' → Orl O H O' → Kp ρ ρ' → RD Z.K Hf' v x → Q v H'
  | .ok (.l xs) ρ' => ∀ v Hf' H' O', SR Z.K Hf' H' O' σ ρ' → Gr O Hf H Hf' H' → Orl O H O' → Kp ρ ρ' → RL Z.K H Hf' H' v xs → (∀ l, v = .ref l → ¬ O' l) → Q v H'
  | .ok (.m _) _ => False
  | .ex e ρ' => ∀ cls d Hf' H' O', SR Z.K Hf' H' O' σ ρ' → Gr O Hf H Hf' H' → Orl O H O' → Kp ρ ρ' → XR Z Hf' H' cls d e → W cls d σ H'
def DX (Z : Zx) (W : WX) (t : TE) (f : Rho → R RV) : Prop := ∀ Hf H O σ ρ, SR Z.K Hf H O σ ρ → ∀ Q : VK, PostX Z W O σ ρ Hf H Q (f ρ) → t σ H Q
section
variable {Z : Zx} {W : WX}
def kBack (i p : Nat) (b : Bool) (ρ1 : Rho) : R RV → R RV
  | .ok (.d x) as' => (match as'[p]? with
    | some (.m _ o') => .ok (.d x) (ρ1.set i (.m b o'))
    | _ => .bad)
  | .ok (.l x) as' => (match as'[p]? with
    | some (.m _ o') => .ok (.l x) (ρ1.set i (.m b o'))
    | _ => .bad)
  | .ex e as' => (match as'[p]? with
    | some (.m _ o') => .ex e (ρ1.set i (.m b o'))
    | _ => .bad)
  | _ => .bad
theorem callC {i : Nat} {b : Bool} {o : Mo} {v : V} {us1 us2 : List V} {xs ys : List Pd} {g : Rho → R RV} {n : Nat} {Hf0 H0 Hf H : Hp} {O : Addr → Prop} {σ : L2.St} {ρ0 ρ : Rho} {Q : VK} (s : SR Z.K Hf H O σ ρ) (g0 : Gr O Hf0 H0 Hf H) (k0 : Kp ρ0 ρ) (e : ρ[i]? = some (.m b o)) (hv : σ[i]? = some (some v))
    (r1 : RDs Z.K Hf us1 xs) (r2 : RDs Z.K Hf us2 ys) (hn : (us1 ++ v :: us2).length = n) (p : PostX Z W O σ ρ0 Hf0 H0 Q (kBack i xs.length b ρ (g (argM xs o ys)))) : spM Z n g (us1 ++ v :: us2) H Q (WE W σ) := by
  obtain ⟨fp, rm, nd, hO, back⟩ := s.backC (xs := xs) (us1 := us1) (us2 := us2) e hv r1.length
  refine ⟨hn, Hf, fun a => a ∈ fp, xs, o, ys, SR.argM' s.ex rm nd (fun a ha => s.otr a (hO a ha)) r1 r2, ?_⟩
  cases eg : g (argM xs o ys) with
  | bad => rw [eg] at p; exact p.elim
  | ex y as' =>
    rw [eg] at p
    unfold kBack at p
    cases ea : as'[xs.length]? with
    | none => simp only [ea] at p; exact p.elim
    | some z =>
      simp only [ea] at p
      cases z with
      | m c u =>
        intro cls d Hf' H' O' s' g' o' xr
        obtain ⟨O2, b1, b2, b3, _⟩ := back Hf' H' O' as' s' g' o' c u ea
        exact p cls d Hf' H' O2 b1 (g0.trans b2) (Orl.trans Orl.refl b3 g0) (k0.trans (kp_putM e)) xr
      | _ => exact p.elim
  | ok rv as' =>
    rw [eg] at p
    unfold kBack at p
    cases rv with
    | m _ => exact p.elim
    | d x =>
      cases ea : as'[xs.length]? with
      | none => simp only [ea] at p; exact p.elim
      | some z =>
        simp only [ea] at p
        cases z with
        | m c u =>
          intro w Hf' H' O' s' g' o' rd
          obtain ⟨O2, b1, b2, b3, _⟩ := back Hf' H' O' as' s' g' o' c u ea
          exact p w Hf' H' O2 b1 (g0.trans b2) (Orl.trans Orl.refl b3 g0) (k0.trans (kp_putM e)) rd
        | _ => exact p.elim
    | l x =>
      cases ea : as'[xs.length]? with
      | none => simp only [ea] at p; exact p.elim
      | some z =>
        simp only [ea] at p
        cases z with
        | m c u =>
          intro w Hf' H' O' s' g' o' rl no
          obtain ⟨O2, b1, b2, b3, b4, _⟩ := back Hf' H' O' as' s' g' o' c u ea
          obtain ⟨l, ws, rfl, l0, l1, l2, l3⟩ := rl
          refine p _ Hf' H' O2 b1 (g0.trans b2) (Orl.trans Orl.refl b3 g0) (k0.trans (kp_putM e)) ⟨l, ws, rfl, g0.gone l0, l1, l2, l3⟩ fun l' el => ?_
          cases el
          intro z
          rcases b4 l z with z | z
          · exact fresh_no s l0 z
          · exact no l rfl z
        | _ => exact p.elim
theorem bindX {C A : Type} {Rel : Hp → Hp → Hp → L2.St → C → A → Prop} {t : L2.St → Hp → (C → Hp → Prop) → Prop} {f : Rho → R A} (h : DJ Z W Rel t f) {Hf H : Hp} {O : Addr → Prop} {σ : L2.St} {ρ : Rho} (s : SR Z.K Hf H O σ ρ) {k : A → Rho → R RV} {Q0 : VK} (p : PostX Z W O σ ρ Hf H Q0 ((f ρ).bind k)) {Q : C → Hp → Prop}
    (c : ∀ a ρ1 v Hf1 H1, SR Z.K Hf1 H1 O σ ρ1 → Gr O Hf H Hf1 H1 → Kp ρ ρ1 → Rel H Hf1 H1 σ v a → PostX Z W O σ ρ Hf H Q0 (k a ρ1) → Q v H1) : t σ H Q := by
  refine h Hf H O σ ρ s Q ?_
  cases e : f ρ with
  | bad => rw [e] at p; exact p
  | ok a ρ1 =>
    rw [e] at p
    exact fun Hf1 H1 s1 g1 k1 v rv => c a ρ1 v Hf1 H1 s1 g1 k1 rv p
  | ex x ρ1 =>
    rw [e] at p
    exact fun cls d Hf1 H1 s1 g1 k1 xr => p cls d Hf1 H1 O s1 g1 Orl.refl k1 xr
theorem RAs.length' {K : PySem.W.Frag} {Hf : Hp} {σ : L2.St} : ∀ {vs : List V} {as : List AV}, RAs K Hf σ vs as → vs.length = as.length
  | _, _, .nil => rfl
  | _, _, .cons _ h => congrArg Nat.succ (RAs.length' h)
def okMeth (i : Nat) (c m : Str) (ρ : Rho) : Bool := match ρ[i]? with
  | some (.m _ (.obj d fs)) => decide (d = c) && (lookM m fs).isNone
  | _ => false
theorem okMeth_ok {i : Nat} {c m : Str} {Hf H : Hp} {O : Addr → Prop} {σ : L2.St} {ρ : Rho} (s : SR Z.K Hf H O σ ρ) (h : okMeth i c m ρ = true) : ∃ a dx fvs, σ[i]? = some (some (.ref a)) ∧ H a = some (.ins (cA Z.K c) dx fvs) ∧ fvs.lookup m = none := by
  unfold okMeth at h
  cases e : ρ[i]? with
  | none => rw [e] at h; cases h
  | some z =>
    rw [e] at h
    cases z with
    | m b o =>
      cases o with
      | obj d fs =>
        simp only [Bool.and_eq_true, decide_eq_true_eq, Option.isNone_iff_eq_none] at h
        obtain ⟨rfl, h2⟩ := h
        obtain ⟨v, fp, q1, q2, _⟩ := s.putM e
        cases q2 with
        | obj hh r => exact ⟨_, _, _, q1, hh, r.none h2⟩
      | _ => cases h
    | _ => cases h
def kMeth (n i : Nat) (g : Rho → R RV) (o : Option (List Pd)) (ρ1 : Rho) : R RV := match o, ρ1[i]? with
  | some ys, some (.m b o) => kBack i 0 b ρ1 (g (argM [] o ys))
  | _, _ => .bad
def fMeth (n i : Nat) (c m : Str) (g : Rho → R RV) (fa : Rho → R (List AV)) : Rho → R RV := fun ρ => if okMeth i c m ρ = true then (fa ρ).bind fun as ρ1 => kMeth n i g (argsD n as) ρ1 else .bad
theorem x_meth {n i : Nat} {c m : Str} {g : Rho → R RV} {t : TA} {fa : Rho → R (List AV)} (ha : DA Z W t fa) : DX Z W (tMethE (cA Z.K c) m (spM Z (n + 1) g) (WE W) (tVar i) t) (fMeth n i c m g fa) := by
  intro Hf H O σ ρ s Q p
  unfold fMeth at p
  split at p
  case isFalse => exact p.elim
  rename_i hok
  obtain ⟨a, dx, fvs, h1, h2, h3⟩ := okMeth_ok s hok
  refine ⟨.ref a, h1, a, dx, fvs, rfl, h2, h3, ?_⟩
  refine bindX ha s p fun as ρ1 vs Hf1 H1 s1 g1 k1 rs p1 => ?_
  unfold kMeth at p1
  cases ed : argsD n as with
  | none => rw [ed] at p1; exact p1.elim
  | some ys =>
    cases e2 : ρ1[i]? with
    | none => rw [ed, e2] at p1; exact p1.elim
    | some z =>
      rw [ed, e2] at p1
      cases z with
      | m b o =>
        obtain ⟨r, hl⟩ := argsD_ok rs ed
        exact callC (us1 := []) (xs := []) s1 g1 k1 e2 h1 .nil r (congrArg Nat.succ hl) p1
      | _ => exact p1.elim
def kDropX : R RV → R Fl
  | .ok (.d _) ρ => .ok .nx ρ
  | .ok (.l _) ρ => .ok .nx ρ
  | .ex e ρ => .ex e ρ
  | _ => .bad
def fDropX (f : Rho → R RV) : Rho → R Fl := fun ρ => kDropX (f ρ)
theorem s_dropX {t : TE} {f : Rho → R RV} (h : DX Z W t f) : DS Z W (tDrop t) (fDropX f) := by
  intro Hf H O σ ρ s En p
  refine h Hf H O σ ρ s _ ?_
  unfold fDropX at p
  cases e : f ρ with
  | bad => rw [e] at p; exact p.elim
  | ex x ρ' => rw [e] at p; exact fun cls d Hf' H' O' s' g' o' k' xr => p cls d Hf' H' O' σ s' g' o' k'.kq xr
  | ok r ρ' =>
    rw [e] at p
    cases r with
    | d x => exact fun v Hf' H' O' s' g' o' k' rd => p Hf' H' O' σ s' g' o' k'.kq
    | l x => exact fun v Hf' H' O' s' g' o' k' rd _ => p Hf' H' O' σ s' g' o' k'.kq
    | m x => exact p.elim
def kAsgX (h : Pd → Rho → Option Rho) : R RV → R Fl
  | .ok (.d x) ρ => (match h x ρ with
    | some ρ2 => .ok .nx ρ2
    | none => .bad)
  | .ex e ρ => .ex e ρ
  | _ => .bad
def fAsgX (f : Rho → R RV) (h : Pd → Rho → Option Rho) : Rho → R Fl := fun ρ => kAsgX h (f ρ)
def kRetX : R RV → R Fl
  | .ok (.d x) ρ => .ok (.rt x) ρ
  | .ok (.l x) ρ => .ok (.rl x) ρ
  | .ex e ρ => .ex e ρ
  | _ => .bad
def fRetX (f : Rho → R RV) : Rho → R Fl := fun ρ => kRetX (f ρ)
def kIfX (f1 f2 : Rho → R Fl) : R RV → R Fl
  | .ok (.d (.bool b)) ρ => if b = true then f1 ρ else f2 ρ
  | .ex e ρ => .ex e ρ
  | _ => .bad
def fIfX (f : Rho → R RV) (f1 f2 : Rho → R Fl) : Rho → R Fl := fun ρ => kIfX f1 f2 (f ρ)
theorem s_ifX {t : TE} {u1 u2 : TS} {f : Rho → R RV} {f1 f2 : Rho → R Fl} (he : DX Z W t f) (h1 : DS Z W u1 f1) (h2 : DS Z W u2 f2) : DS Z W (tIfS (tB t) u1 u2) (fIfX f f1 f2) := by
  intro Hf H O σ ρ s En p
  refine he Hf H O σ ρ s _ ?_
  unfold fIfX at p
  cases e : f ρ with
  | bad => rw [e] at p; exact p.elim
  | ex x ρ' => rw [e] at p; exact fun cls d Hf' H' O' s' g' o' k' xr => p cls d Hf' H' O' σ s' g' o' k'.kq xr
  | ok r ρ' =>
    rw [e] at p
    cases r with
    | m x => exact p.elim
    | l x => exact p.elim
    | d x =>
      cases x with
      | bool b =>
        intro v Hf' H' O' s' g' o' k' rd
        cases rd
        refine ⟨b, rfl, ?_⟩
        cases b with
        | true => exact h1 Hf' H' O' σ ρ' s' En (PostS.shift p g' o' k'.kq)
        | false => exact h2 Hf' H' O' σ ρ' s' En (PostS.shift p g' o' k'.kq)
      | _ => exact p.elim
def kMethT (g : Rho → R RV) (o : Mo) (ys : Option (List Pd)) (ρ2 : Rho) : R AV := match ys with
  | some ys => (match g (argM [] o ys) with
    | .ok (.d x) _ => .ok (.d x) ρ2
    | .ex e _ => .ex e ρ2
    | _ => .bad)
  | none => .bad
def fMethT (n : Nat) (c m : Str) (g : Rho → R RV) (fo : Rho → R Mo) (fa : Rho → R (List AV)) : Rho → R AV := fun ρ => (fo ρ).bind fun o ρ1 => match o with
  | .obj d fs => if d = c ∧ lookM m fs = none then (fa ρ1).bind fun as ρ2 => kMethT g (.obj d fs) (argsD n as) ρ2 else .bad
  | _ => .bad
theorem d_methT {n : Nat} {c m : Str} {g : Rho → R RV} {to : TE} {t : TA} {fo : Rho → R Mo} {fa : Rho → R (List AV)} (ho : DM Z W to fo) (ha : DA Z W t fa) : DE Z W (tMethE (cA Z.K c) m (spM Z (n + 1) g) (WE W) to t) (fMethT n c m g fo fa) := by
  intro Hf H O σ ρ s Q p
  unfold fMethT at p
  refine ho Hf H O σ ρ s _ ?_
  cases eo : fo ρ with
  | bad => rw [eo] at p; exact p
  | ex x ρ1 => rw [eo] at p; exact p
  | ok o ρ1 =>
    rw [eo] at p
    intro Hf1 H1 s1 g1 k1 v rv
    obtain ⟨fp, r1, r2, r3⟩ := rv
    cases o with
    | obj d fs =>
      have p2 : PostG Z W O σ ρ Hf H (fun a _ Hf' H' => ∀ v, RA Z.K Hf' σ v a → Q v H') (if d = c ∧ lookM m fs = none then (fa ρ1).bind fun as ρ2 => kMethT g (.obj d fs) (argsD n as) ρ2 else .bad) := p
      clear p
      by_cases hc : d = c ∧ lookM m fs = none
      case neg => rw [if_neg hc] at p2; exact p2.elim
      rw [if_pos hc] at p2
      have p := p2
      clear p2
      obtain ⟨rfl, hm⟩ := hc
      cases r1 with
      | @obj a dx _ fvs _ fq h rs =>
        refine ⟨a, dx, fvs, rfl, h, rs.none hm, ?_⟩
        refine ha Hf1 H1 O σ ρ1 s1 _ ?_
        cases ea : fa ρ1 with
        | bad => rw [ea] at p; exact p
        | ex x ρ2 => rw [ea] at p; exact fun cls d Hf' H' s' g' k' xr => p cls d Hf' H' s' (g1.trans g') (k1.trans k') xr
        | ok as ρ2 =>
          rw [ea] at p
          intro Hf2 H2 s2 g2 k2 vs rvs
          have p : PostG Z W O σ ρ Hf H (fun a _ Hf' H' => ∀ v, RA Z.K Hf' σ v a → Q v H') (kMethT g (.obj d fs) (argsD n as) ρ2) := p
          unfold kMethT at p
          cases ed : argsD n as with
          | none => rw [ed] at p; exact p.elim
          | some ys =>
            rw [ed] at p
            simp only at p
            obtain ⟨r, hl⟩ := argsD_ok rvs ed
            have no : ∀ x ∈ (a :: fq), ¬ O x := fun x hx => fresh_no s (r3 x hx).1
            have rm2 : RM Z.K Hf2 H2 (.ref a) (.obj d fs) (a :: fq) := RM.mono g2.ex (.obj h rs) fun x hx u hu => g2.fm x u hu (no x hx)
            have hf2 : ∀ x ∈ (a :: fq), (∃ u, H2 x = some u) ∧ Hf2 x = none := fun x hx => by
              obtain ⟨_, e2, u, e3⟩ := r3 x hx
              exact ⟨⟨u, g2.fm x u e3 (no x hx)⟩, g2.stays e3 e2 (no x hx)⟩
            refine ⟨congrArg Nat.succ hl, Hf2, fun x => x ∈ (a :: fq), [], .obj d fs, ys, SR.argM' (us1 := []) (xs := []) s2.ex rm2 r2 hf2 .nil r, ?_⟩
            have grO : ∀ {Hf' H' : Hp}, Gr (fun x => x ∈ (a :: fq)) Hf2 H2 Hf' H' → Gr O Hf H Hf' H' := fun {Hf' H'} g' => by
              have gA := g1.trans g2
              refine ⟨gA.ex.trans g'.ex, fun x u hx n => g'.fm x u (gA.fm x u hx n) fun z => ?_, fun x u hx => ?_, fun x u hx => ?_⟩
              · rw [(r3 x z).1] at hx; cases hx
              · obtain ⟨u1, q⟩ := gA.tr x u hx
                exact g'.tr x u1 q
              · rcases g'.nw x u hx with z | z | z
                · exact gA.nw x u z
                · exact .inr (.inl (gA.gone z))
                · exact .inr (.inl (r3 x z).1)
            cases eg : g (argM [] (.obj d fs) ys) with
            | bad => rw [eg] at p; exact p.elim
            | ex y as' =>
              rw [eg] at p
              intro cls dd Hf' H' O' s' g' o' xr
              exact p cls dd Hf' H' (s2.frame g' no s'.ex) (grO g') (k1.trans k2) xr
            | ok rv as' =>
              rw [eg] at p
              cases rv with
              | l _ => exact p.elim
              | m _ => exact p.elim
              | d x =>
                intro w Hf' H' O' s' g' o' rd
                exact p Hf' H' (s2.frame g' no s'.ex) (grO g') (k1.trans k2) w rd
    | _ => exact p.elim
def kMake (c : Str) (g : Rho → R RV) (ys : Option (List Pd)) (ρ1 : Rho) : R Mo := match ys with
  | some ys => (match g (argM [] (.obj c []) ys) with
    | .ok (.d .none) (.m _ o :: _) => .ok o ρ1
    | .ex e _ => .ex e ρ1
    | _ => .bad)
  | none => .bad
def fMake (n : Nat) (c : Str) (g : Rho → R RV) (fa : Rho → R (List AV)) : Rho → R Mo := fun ρ => (fa ρ).bind fun as ρ1 => kMake c g (argsD n as) ρ1
theorem m_make {n : Nat} {c : Str} {g : Rho → R RV} {t : TA} {fa : Rho → R (List AV)} (ha : DA Z W t fa) : DM Z W (tMakeE (cA Z.K c) (spM Z (n + 1) g) (WE W) t) (fMake n c g fa) := by
  intro Hf H O σ ρ s Q p
  refine DJ.bind ha s p fun as ρ1 vs Hf1 H1 s1 g1 k1 rs p1 => ?_
  unfold kMake at p1
  cases ed : argsD n as with
  | none => rw [ed] at p1; exact p1.elim
  | some ys =>
    rw [ed] at p1
    simp only at p1
    obtain ⟨r, hl⟩ := argsD_ok rs ed
    intro x dx nx ndx hne
    have pg1 := Pg.lay (o := .own x) s1.ex ndx
    have nx2 : upd H1 dx (.own x) x = none := by rw [upd_ne (fun z => hne z.symm)]; exact nx
    have pg2 := Pg.lay (o := .ins (cA Z.K c) dx []) pg1.ex nx2
    have pg := pg1.trans pg2
    have s2 := s1.grow pg
    have hfx : Hf1 x = none := fresh_back s1.ex nx
    refine ⟨congrArg Nat.succ hl, Hf1, fun a => a ∈ [x], [], .obj c [], ys, SR.argM' (us1 := []) (xs := []) s2.ex (.obj upd_same .nil) (by simp) (fun a ha => ?_) .nil r, ?_⟩
    · obtain rfl : a = x := by simpa using ha
      exact ⟨⟨_, upd_same⟩, hfx⟩
    have no : ∀ a, a ∈ [x] → ¬ O a := fun a ha => by
      obtain rfl : a = x := by simpa using ha
      exact fresh_no s1 nx
    have grO : ∀ {Hf' H' : Hp}, Gr (fun a => a ∈ [x]) Hf1 (upd (upd H1 dx (.own x)) x (.ins (cA Z.K c) dx [])) Hf' H' → Gr O Hf1 H1 Hf' H' := fun {Hf' H'} g' => by
      refine ⟨g'.ex, fun a u hx n => g'.fm a u (pg.eh a u hx) fun z => ?_, fun a u hx => g'.tr a u (pg.eh a u hx), fun a u hx => ?_⟩
      · obtain rfl : a = x := by simpa using z
        rw [nx] at hx; cases hx
      · rcases g'.nw a u hx with z | z | z
        · exact .inl z
        · exact .inr (.inl (fresh_back pg.eh z))
        · obtain rfl : a = x := by simpa using z
          exact .inr (.inl nx)
    cases eg : g (argM [] (.obj c []) ys) with
    | bad => rw [eg] at p1; exact p1.elim
    | ex y as' =>
      rw [eg] at p1
      intro cls dd Hf' H' O' s' g' o' xr
      exact p1 cls dd Hf' H' (s2.frame g' no s'.ex) (grO g') Kp.refl xr
    | ok rv as' =>
      rw [eg] at p1
      cases rv with
      | l _ => exact p1.elim
      | m _ => exact p1.elim
      | d y =>
        cases y with
        | none =>
          cases as' with
          | nil => exact p1.elim
          | cons z as' =>
            cases z with
            | m b o =>
              intro w Hf' H' O' s' g' o' rd
              cases rd
              obtain ⟨w', h1, _⟩ := s'.mr
              obtain ⟨v2, fp', q1, q2, q3, q4⟩ := h1 0 b o rfl
              cases q1
              refine ⟨rfl, p1 Hf' H' (s2.frame g' no s'.ex) (grO g') Kp.refl _ ⟨fp', q2, q3, fun a ha => ⟨?_, (s'.otr a (q4 a ha).1).2, (s'.otr a (q4 a ha).1).1⟩⟩⟩
              rcases o' a (q4 a ha).1 with z | z
              · obtain rfl : a = x := by simpa using z
                exact g1.gone nx
              · exact g1.gone (fresh_back pg.eh z)
            | _ => exact p1.elim
        | _ => exact p1.elim
end
def gS (n : Nat) (fe : Rho → R AV) : Rho → R RV := fun as => match fe (as ++ List.replicate (n - as.length) .no) with
  | .ok (.d x) ρ' => .ok (.d x) (ρ'.take as.length)
  | .ex e ρ' => .ex e (ρ'.take as.length)
  | _ => .bad
theorem SR.take {K : PySem.W.Frag} {Hf H : Hp} {O : Addr → Prop} {σ τ : L2.St} {ρ : Rho} (s : SR K Hf H O (σ ++ τ) ρ) : SR K Hf H O σ (ρ.take σ.length) := by
  have hl : σ.length ≤ ρ.length := by rw [← s.len]; simp
  have at_ : ∀ {i : Nat} {t : Sl}, (ρ.take σ.length)[i]? = some t → i < σ.length ∧ ρ[i]? = some t := fun {i t} h => by
    rw [List.getElem?_take] at h
    split at h
    · exact ⟨by assumption, h⟩
    · cases h
  refine ⟨s.ex, s.otr, by simp [hl], fun i x h => ?_, fun i b xs h => ?_, fun i j b c xs ys l h1 h2 h3 h4 => ?_, fun i e h => ?_, s.mr.slots (fun i b o h => ?_) fun i b o h => ?_⟩
  · obtain ⟨z, h⟩ := at_ h
    have := s.slot i x h
    rwa [List.getElem?_append_left z] at this
  · obtain ⟨z, h⟩ := at_ h
    have := s.own i b xs h
    rwa [List.getElem?_append_left z] at this
  · obtain ⟨z1, h1⟩ := at_ h1
    obtain ⟨z2, h2⟩ := at_ h2
    exact s.dis i j b c xs ys l h1 h2 (by rw [List.getElem?_append_left z1]; exact h3) (by rw [List.getElem?_append_left z2]; exact h4)
  · obtain ⟨z, h⟩ := at_ h
    have := s.exc i e h
    rwa [List.getElem?_append_left z] at this
  · obtain ⟨z, h⟩ := at_ h
    exact ⟨h, (List.getElem?_append_left z).symm⟩
  · obtain ⟨z, h⟩ := at_ h
    exact ⟨⟨b, o, h⟩, (List.getElem?_append_left z).symm⟩
section
variable {P : Program} {w : World} {K : PySem.W.Frag} {C : Str → Addr} {mg : Str → Option Value} {base : Heap} {x qual : Str} {params : Arguments} {body : List Stmt} {scope : Scope} {f : Addr} {fd : FuncData}
end
section
variable {Z : Zx} {W : WX}
end
end Dt
namespace Dt
open PySem PySem.Spec L2 Evl PyProof.Rows
def numsC (lo c : Int) (n : Nat) : List Pd := (List.range n).map fun (k : Nat) => .int (lo + (k : Int) * c)
variable [WD]
theorem dlv_rngC {K : PySem.W.Frag} {Hf : Hp} {lo c : Int} {n : Nat} : Dlv false K (Itc lo c n) Hf (numsC lo c n) := by
  intro i Hf' H' e1 e2
  have hl : (numsC lo c n).length = n := by simp [numsC]
  refine ⟨fun hi => ?_, fun hi => ?_, fun v H'' hy y hx => ?_⟩
  · show i < n
    omega
  · show n ≤ i
    omega
  · obtain ⟨rfl, rfl⟩ := hy
    refine ⟨Hf', Pg.refl e2, ?_⟩
    unfold numsC at hx
    have hi : i < n := by
      rcases Nat.lt_or_ge i n with h | h
      · exact h
      · rw [List.getElem?_eq_none (by simpa using h)] at hx; cases hx
    rw [List.getElem?_map, List.getElem?_range hi] at hx
    cases hx
    exact .inl (.int _)
section
variable {Z : Zx} {W : WX}
def fRng3 (f : Rho → R (List AV)) : Rho → R (List Pd) := fun ρ => (f ρ).bind fun as ρ1 => match as with
  | [.d (.int i), .d (.int j), .d (.int c)] => if (-4611686018427387904 ≤ i ∧ i < 4611686018427387904) ∧ (-4611686018427387904 ≤ j ∧ j < 4611686018427387904) ∧ c ≠ 0 ∧ c.natAbs < 1073741824 ∧ Builtin.Range.small i j c = true ∧ 0 ≤ Builtin.Range.rangeSize i j c then .ok (numsC i c (Builtin.Range.rangeSize i j c).toNat) ρ1 else .bad
  | _ => .bad
theorem i_rng3 {t : TA} {f : Rho → R (List AV)} (h : DA Z W t f) : DI false Z W (iRng3 t) (fRng3 f) := by
  intro Hf H O σ ρ s Q p
  refine h.bind s p fun as ρ1 vs Hf1 H1 s1 g1 k1 rs p1 => ?_
  split at p1
  · rename_i i j c
    cases rs with
    | cons r1 r2 =>
      cases r2 with
      | cons r2 r3 =>
        cases r3 with
        | cons r3 r4 =>
          cases r4
          cases r1 with
          | int _ =>
            cases r2 with
            | int _ =>
              cases r3 with
              | int _ =>
                split at p1
                · rename_i hj
                  exact ⟨i, j, c, _, rfl, ⟨hj.2.2.1, hj.2.2.2.1, hj.2.2.2.2.1, (Int.toNat_of_nonneg hj.2.2.2.2.2).symm⟩, p1 Hf1 H1 s1 Gr.refl Kp.refl _ dlv_rngC⟩
                · exact p1.elim
  · exact p1.elim
theorem RDs.eraseIdx {K : PySem.W.Frag} {H : Hp} : ∀ {vs : List V} {ds : List Pd} (k : Nat), RDs K H vs ds → RDs K H (vs.eraseIdx k) (ds.eraseIdx k)
  | _, _, k, .nil => by simpa using (RDs.nil : RDs K H [] [])
  | _, _, 0, .cons _ t => t
  | _, _, k + 1, .cons r t => .cons r (RDs.eraseIdx k t)
def frzM (i : Nat) (ρ : Rho) : Rho := match ρ[i]? with
  | some (.m false (.dct false ds)) => ρ.set i (.d (.dict ds))
  | _ => ρ
theorem SR.frzM {K : PySem.W.Frag} {Hf H : Hp} {O : Addr → Prop} {σ : L2.St} {ρ : Rho} (s : SR K Hf H O σ ρ) (i : Nat) : (∃ l kvs, σ[i]? = some (some (.ref l)) ∧ H l = some (.dK kvs) ∧ ∀ ob, ∃ Hf' O', SR K Hf' (upd H l (.frz ob (.dK kvs))) O' σ (Dt.frzM i ρ) ∧ Gr O Hf H Hf' (upd H l (.frz ob (.dK kvs))) ∧ Orl O H O' ∧ Kp ρ (Dt.frzM i ρ)) ∨ Dt.frzM i ρ = ρ := by
  unfold Dt.frzM
  split
  · rename_i ds e
    have hi := (List.getElem?_eq_some_iff.mp e).1
    obtain ⟨v, fp, q1, q2, q3, q4, q5⟩ := s.putM e
    cases q2 with
    | @dk l kvs _ h r =>
      have hO : O l := q4 l (by simp)
      have hf := (s.otr l hO).2
      refine .inl ⟨l, kvs, q1, h, fun ob => ?_⟩
      have ex' : Ex (upd Hf l (.frz ob (.dK kvs))) (upd H l (.frz ob (.dK kvs))) := fun a u ha => by
        by_cases z : a = l
        · subst z; rw [upd_same] at ha ⊢; exact ha
        · rw [upd_ne z] at ha ⊢; exact s.ex a u ha
      have s1 := q5 (upd Hf l (.frz ob (.dK kvs))) (upd H l (.frz ob (.dK kvs))) (fun a => O a ∧ a ≠ l) (.dat (.dict ds)) [] (Ex.new hf) ex' (fun a ha => ⟨by rw [upd_ne ha.2]; exact (s.otr a ha.1).1, by rw [upd_ne ha.2]; exact (s.otr a ha.1).2⟩) (fun a u _ na hu => by rw [upd_ne (fun z => na (by simp [z]))]; exact hu) (fun a ha na => ⟨ha, fun z => na (by simp [z])⟩)
        (.dat (.dct upd_same (RKs.mono (Ex.new hf) r))) (by simp) (fun a ha => by cases ha)
      refine ⟨upd Hf l (.frz ob (.dK kvs)), fun a => O a ∧ a ≠ l, ?_, ⟨Ex.new hf, fun a u h2 no => by
        rw [upd_ne (fun z => no (by rw [z]; exact hO))]; exact h2, fun a o h2 => by
        by_cases z : a = l
        · subst z; exact ⟨_, upd_same⟩
        · exact ⟨o, by rw [upd_ne z]; exact h2⟩, fun a o h => ?_⟩, fun a h => .inl h.1, ?_⟩
      · have s2 := s1.putD (i := i) (v := .ref l) (x := .dict ds) (by simpa using hi) (.dct upd_same (RKs.mono (Ex.new hf) r))
        rw [List.set_set] at s2
        have : σ.set i (some (.ref l)) = σ := by
          apply List.ext_getElem?
          intro j
          by_cases z : i = j
          · subst z; rw [List.getElem?_set_self (by rw [s.len]; exact hi)]; exact q1.symm
          · rw [List.getElem?_set_ne z]
        rwa [this] at s2
      · by_cases z : a = l
        · subst z; exact .inr (.inr hO)
        · rw [upd_ne z] at h; exact .inl h
      · refine ⟨fun j xs q => ?_, fun j o q => ?_⟩
        · have z : i ≠ j := fun z => by rw [z, q] at e; cases e
          exact ⟨xs, by rw [List.getElem?_set_ne z]; exact q⟩
        · have z : i ≠ j := fun z => by rw [z, q] at e; cases e
          exact ⟨o, by rw [List.getElem?_set_ne z]; exact q⟩
  · exact .inr rfl
end
structure ClsI (K : PySem.W.Frag) (mg : Str → Option Value) (c : Str) : Prop where
  g : mg c = some (.ref (cA K c))
  cl : Cls K (cA K c)
  mkr : Mk K (cA K c) (He.ma K (cA K c) "__init__")
structure FnM (K : PySem.W.Frag) (c m qual : Str) (st : Stmt) where
  fd : FuncData
  F : FunD K m qual (defArgs st) (defBody st) (defScope st) [] [] (He.ma K (cA K c) m) fd
def clsBody : Stmt → List Stmt
  | .ClassDef (body := b) .. => b
  | _ => []
section
variable {X : Cx}
theorem kFld (K : PySem.W.Frag) {e : Expr} {te : TE} {f : Str} {pos : Pos} (he : PE X e te) (hK : X.K = K := by rfl) (hb : attributeBase e f X.env (eval e X.env) = eval e X.env := by rfl) : PE X (.Attribute e f pos) (tFld K te f) := by subst hK; exact pe_fld he hb
theorem kFldS (K : PySem.W.Frag) {o value : Expr} {ta tv : TE} {f : Str} {pos pos' : Pos} (ha : PE X o ta) (hv : PE X value tv) (hK : X.K = K := by rfl) (hs : swapsWith value (some (.Attribute o f pos')) pos.line X.env = pure false := by rfl) : PS X (.Assign [.Attribute o f pos'] value pos) (sFld K ta tv f) := by subst hK; exact ps_fld ha hv hs
end
theorem u9 {k : Nat} {A : Around} (r : Room k A) : A.units + 9 < cLine := by have := r.un; omega
end Dt
namespace Dt
open PySem PySem.Spec L2 Evl
variable {n i : Nat} {c m f : Str} {ρ ρ1 : Rho} {b : Bool} {xs : List Pd}
theorem fCallO_ap {g : Rho → R RV} {fa : Rho → R (List AV)} : fCallO n g fa ρ = (fa ρ).bind fun as ρ1 => kCallO g (argsD n as) ρ1 := rfl
@[simp] theorem kCallO_some {g : Rho → R RV} : kCallO g (some xs) ρ = (match g (xs.map Sl.d) with | .ok (.m x) _ => .ok x ρ | .ex e _ => .ex e ρ | _ => .bad) := rfl
@[simp] theorem fRetM_ap {g : Rho → R Mo} : fRetM g ρ = (g ρ).bind fun o ρ1 => .ok (.rm o) ρ1 := rfl
@[simp] theorem fSetM_ap {g : Rho → R Mo} : fSetM g i ρ = (g ρ).bind fun o ρ1 => (match putMo i o ρ1 with | some ρ2 => .ok .nx ρ2 | none => .bad) := rfl
@[simp] theorem fMake_ap {g : Rho → R RV} {fa : Rho → R (List AV)} : fMake n c g fa ρ = (fa ρ).bind fun as ρ1 => kMake c g (argsD n as) ρ1 := rfl
@[simp] theorem kMake_some {g : Rho → R RV} : kMake c g (some xs) ρ = (match g (.m true (.obj c []) :: xs.map Sl.d) with
    | .ok (.d .none) (.m _ o :: _) => .ok o ρ
    | .ex e _ => .ex e ρ
    | _ => .bad) := rfl
@[simp] theorem fMethT_ap {g : Rho → R RV} {fo : Rho → R Mo} {fa : Rho → R (List AV)} : fMethT n c m g fo fa ρ = (fo ρ).bind fun o ρ1 => (match o with
  | .obj d fs => if d = c ∧ lookM m fs = none then (fa ρ1).bind fun as ρ2 => kMethT g (.obj d fs) (argsD n as) ρ2 else .bad
  | _ => .bad) := rfl
@[simp] theorem kMethT_some {g : Rho → R RV} {o : Mo} : kMethT g o (some xs) ρ = (match g (.m true o :: xs.map Sl.d) with
    | .ok (.d x) _ => .ok (.d x) ρ
    | .ex e _ => .ex e ρ
    | _ => .bad) := rfl
@[simp] theorem fDropX_ap {g : Rho → R RV} : fDropX g ρ = kDropX (g ρ) := rfl
@[simp] theorem fIfX_ap {g : Rho → R RV} {f1 f2 : Rho → R Fl} : fIfX g f1 f2 ρ = kIfX f1 f2 (g ρ) := rfl
@[simp] theorem fAsgX_ap {g : Rho → R RV} {h : Pd → Rho → Option Rho} : fAsgX g h ρ = kAsgX h (g ρ) := rfl
@[simp] theorem fRetX_ap {g : Rho → R RV} : fRetX g ρ = kRetX (g ρ) := rfl
theorem fWhile_no {cd : Rho → R Bool} {fb : Rho → R Fl} (h : cd ρ = .ok false ρ1) : fWhile cd fb ρ = .ok .nx ρ1 :=
  fWhile_of (n := 1) (by simp [whRun, h]) (fun z => by cases z)
theorem fWhile_go {cd : Rho → R Bool} {fb : Rho → R Fl} {ρ2 : Rho} (h : cd ρ = .ok true ρ1) (h2 : fb ρ1 = .ok .nx ρ2) {r : R Fl} (h3 : fWhile cd fb ρ2 = r) (hr : r ≠ .bad) : fWhile cd fb ρ = r := by
  have hx : ∃ n, whRun cd fb n ρ2 ≠ .bad := by
    apply Classical.byContradiction
    intro z
    rw [show fWhile cd fb ρ2 = .bad by unfold fWhile; rw [dif_neg z]] at h3
    exact hr h3.symm
  obtain ⟨n, hn⟩ := hx
  have e : fWhile cd fb ρ2 = whRun cd fb n ρ2 := fWhile_of rfl hn
  exact fWhile_of (n := n + 1) (by simp only [whRun, h, h2]; rw [← e]; exact h3) hr
end Dt
set_option maxHeartbeats 4000000
namespace Dt
open PySem PySem.Spec L2 Evl PyProof.Rows
variable [WD]
def mulT : Pd → Pd → Option Pd
  | .tuple xs, .int n => if n = 1 then some (.tuple xs) else if xs ≠ [] ∧ 2 ≤ n ∧ n ≤ 1000 ∧ xs.length ≤ 1000 then some (.tuple (List.replicate n.toNat xs).flatten) else none
  | x, y => mulC x y
omit [WD] in
@[simp] theorem mulT_int {k m : Int} : mulT (.int k) (.int m) = mulC (.int k) (.int m) := rfl
omit [WD] in
@[simp] theorem mulT_str {a : Str} {m : Int} : mulT (.str a) (.int m) = mulC (.str a) (.int m) := rfl
end Dt
namespace Dt
open PySem PySem.Spec L2 Evl PyProof.Rows
variable [WD]
section
variable {Z : Zx} {W : WX}
end
end Dt
namespace Dt
open PySem PySem.Spec L2 Evl PyProof.Rows
variable [WD]
section
variable {Z : Zx} {W : WX}
end
end Dt
set_option maxHeartbeats 4000000
namespace Dt
open PySem PySem.Spec L2 Evl PyProof.Rows
variable [WD]
section
variable {Z : Zx} {W : WX}
end
end Dt
namespace Dt
open PySem PySem.Spec L2 Evl PyProof.Rows
variable [WD]
section
variable {Z : Zx} {W : WX}
end
end Dt
set_option maxHeartbeats 4000000
namespace Dt
open PySem PySem.Spec L2 Evl PyProof.Rows
variable [WD]
section
variable {Z : Zx} {W : WX}
theorem RX.up {Hf H Hf' H' : Hp} {v : V} {x : Pd} (h : RX Z.K Hf H v x) (g : Pg Hf H Hf' H') : RX Z.K Hf' H' v x := by
  rcases h with h | ⟨l, vs, xs, e1, e2, h1, h2⟩
  · exact .inl (h.mono g.ef)
  · exact .inr ⟨l, vs, xs, e1, e2, g.eh _ _ h1, h2.mono g.ef⟩
end
end Dt
set_option maxHeartbeats 4000000
namespace Dt
open PySem PySem.Spec L2 Evl PyProof.Rows
variable [WD]
section
variable {X : Cx} {pos : Pos} {ek ev : Expr} {tk tv : TE}
end
end Dt
namespace Dt
open PySem PySem.Spec L2 Evl PyProof.Rows
variable [WD]
section
variable {Z : Zx} {W : WX}
end
end Dt
set_option maxHeartbeats 4000000
namespace Dt
open PySem PySem.Spec L2 Evl PyProof.Rows
variable [WD]
section
variable {Z : Zx} {W : WX}
theorem RKs.get {K : PySem.W.Frag} {H : Hp} : ∀ {kvs : List (Key × V)} {ds : List (Pd × Pd)}, RKs K H kvs ds → kvs.length = ds.length ∧ ∀ (i : Nat) (k : Key) (v : V), kvs[i]? = some (k, v) → (ds.map (·.1))[i]? = some (kD k)
  | _, _, .nil => ⟨rfl, fun i k v h => by simp at h⟩
  | _, _, .cons (k := k0) (v := v0) (d := d0) _ hs => by
    obtain ⟨i1, i2⟩ := RKs.get hs
    refine ⟨congrArg Nat.succ i1, fun i k v h => ?_⟩
    cases i with
    | zero => cases h; rfl
    | succ i => exact i2 i k v h
end
end Dt
set_option maxHeartbeats 4000000
namespace Dt
open PySem PySem.Spec L2 Evl PyProof.Rows
variable [WD]
def lenKD : List Pd → Option Pd
  | [.dict ds] => if ndB ds = true then none else some (.int ds.length)
  | _ => none
omit [WD] in
@[simp] theorem lenKD_dict {ds : List (Pd × Pd)} (h : ndB ds = false) : lenKD [.dict ds] = some (.int ds.length) := if_neg (by rw [h]; decide)
end Dt
set_option maxHeartbeats 4000000
namespace ZH
open PySem
open PySem.Sem (wp)
section
variable {prog : Program} {w : World} {A : Around} {E : Value → Shared → Prop} {z TI TO i1 i2 : Addr} {fp1 fp2 : List Addr} {n1 n2 : Nat} {P1 P2 : Nat → Value → Prop} {St1 St2 : Nat → Heap → Prop}
end
end ZH
namespace ZH
open PySem
open PySem.Sem (wp)
section
variable {prog : Program} {w : World}
end
end ZH
set_option maxHeartbeats 4000000
namespace Dt
open PySem PySem.Spec L2 Evl PyProof.Rows
section
variable {X : Cx} {pins : List (Addr × Obj)} {σ : L2.St} {H : Hp} {s : Shared}
end
end Dt
namespace Dt
open PySem PySem.Spec L2 Evl PyProof.Rows
variable [WD]
end Dt
set_option maxHeartbeats 4000000
namespace ZH
open PySem PySem.Spec L2 Evl PyProof.Rows
open PySem.Sem (wp)
section
variable {X : Cx} {pins : List (Addr × Obj)} {σ : L2.St} {A : Around} {z TI TO i1 i2 S : Addr} {fp1 fp2 : List Addr} {St1 St2 : Nat → Heap → Prop} {us ws : Array Value}
end
end ZH
namespace ZH
open PySem PySem.Spec L2 Evl PyProof.Rows
open PySem.Sem (wp)
section
variable {X : Cx} {pins : List (Addr × Obj)} {σ : L2.St} {A : Around} {E : Value → Shared → Prop} {z TI TO i1 i2 : Addr} {fp1 fp2 : List Addr} {St1 St2 : Nat → Heap → Prop} {us ws : Array Value} {r : List (V × V)} {H : Hp}
structure ZNew (X : Cx) (pins : List (Addr × Obj)) (H : Hp) (z TI TO i1 i2 : Addr) (fp1 fp2 : List Addr) (St1 St2 : Nat → Heap → Prop) (s : Shared) : Prop where
  zz : IsZip s.heap z TI TO .none
  ti : IsTupOf2 s.heap TI (.ref i1) (.ref i2)
  to : ∃ a b, IsTupOf2 s.heap TO a b
  a1 : St1 0 s.heap
  a2 : St2 0 s.heap
  l1 : i1 < s.heap.objs.size
  l2 : i2 < s.heap.objs.size
  f1 : ∀ b ∈ fp1, b < s.heap.objs.size
  f2 : ∀ b ∈ fp2, b < s.heap.objs.size
  fo : ∀ b ∈ [z, TO, i1, i2], FpOk X pins H b
end
end ZH
namespace ZH
open PySem PySem.Spec L2 Evl PyProof.Rows
open PySem.Sem (wp)
section
variable {X : Cx} {pins : List (Addr × Obj)} {σ : L2.St} {A : Around} {E : Value → Shared → Prop} {z TI TO i1 i2 : Addr} {fp1 fp2 : List Addr} {St1 St2 : Nat → Heap → Prop} {us ws : Array Value} {r : List (V × V)} {H : Hp}
end
end ZH
set_option maxHeartbeats 4000000
namespace Dt
open PySem PySem.Spec L2 Evl PyProof.Rows ZH
section
variable [WD]
end
end Dt
set_option maxHeartbeats 4000000
namespace Dt
open PySem PySem.Spec L2 Evl PyProof.Rows
variable [WD]
section
variable {Z : Zx} {W : WX}
end
end Dt
set_option maxHeartbeats 4000000
namespace Dt
open PySem PySem.Spec L2 Evl PyProof.Rows
variable [WD]
end Dt
namespace Dt
open PySem PySem.Spec L2 Evl PyProof.Rows
variable [WD]
def fIsY (sub : Str → Option Bool) (i : Nat) : Rho → R AV := fun ρ => match ρ[i]? with
  | some (.x e) => (match sub e.c with
    | some b => .ok (.d (.bool b)) ρ
    | none => .bad)
  | some (.d .none) => .ok (.d (.bool false)) ρ
  | _ => .bad
@[simp] theorem fIsY_ap {sub : Str → Option Bool} {i : Nat} {ρ : Rho} : fIsY sub i ρ = (match ρ[i]? with
  | some (.x e) => (match sub e.c with
    | some b => .ok (.d (.bool b)) ρ
    | none => .bad)
  | some (.d .none) => .ok (.d (.bool false)) ρ
  | _ => .bad) := rfl
section
variable {Z : Zx} {W : WX}
theorem SR.non {K : PySem.W.Frag} {Hf H : Hp} {O : Addr → Prop} {σ : L2.St} {ρ : Rho} (s : SR K Hf H O σ ρ) {i : Nat} (e : ρ[i]? = some (.d .none)) : σ[i]? = some (some .non) := by
  obtain ⟨v, h1, h2⟩ := s.slot i _ e
  cases h2
  exact h1
end
end Dt
namespace Dt
open PySem PySem.Spec L2 Evl PyProof.Rows
variable [WD]
abbrev FRow : Type := Str × Int × Str
structure FnTab (K : PySem.W.Frag) (a : Addr) (rows : List FRow) : Prop where
  ex : ∃ vs : List V, (∀ H, SqT K H a vs) ∧ vs.length = rows.length ∧ ∀ (i : Nat) (r : FRow), rows[i]? = some r → ∃ b, vs[i]? = some (.ref b) ∧ ∀ H, SqT K H b [.str r.1, .int r.2.1, .ref (He.ga K r.2.2)]
structure FnTabI (K : PySem.W.Frag) (mg : Str → Option Value) (x : Str) (rows : List FRow) where
  a : Addr
  g : mg x = some (.ref a)
  t : FnTab K a rows
structure HeldF (P : Program) (w : World) (K : PySem.W.Frag) (mg : Str → Option Value) (base : Heap) (CX : CXT) (A : Around) (f : Addr) (sp : Sp) : Prop where
  ex : ∃ (k : Nat) (fd : FuncData) (ps : List Str), FnOk P w K mg base CX k f fd ps sp ∧ Room k A ∧ PySem.W.keepIn K (.ref f) = true ∧ Binds K fd ps []
section
variable {Z : Zx} {W : WX}
end
end Dt
namespace Dt
open PySem PySem.Spec L2 Evl PyProof.Rows
variable [WD]
section
variable {Z : Zx} {W : WX}
end
end Dt
set_option maxHeartbeats 4000000
namespace Dt
open PySem PySem.Spec L2 Evl PyProof.Rows
variable [WD]
section
variable {Z : Zx} {W : WX}
end
end Dt
set_option maxHeartbeats 4000000
namespace ZH
open PySem PySem.Spec L2 Evl PyProof.Rows
open PySem.Sem (wp)
section
variable {X : Cx} {pins : List (Addr × Obj)} {σ : L2.St} {A : Around} {z TI TO i1 i2 S : Addr} {fp1 fp2 : List Addr} {St1 St2 : Nat → Heap → Prop} {us ws : Array Value} {r : List (V × V)} {H : Hp}
end
end ZH
namespace Dt
open PySem PySem.Spec L2 Evl PyProof.Rows ZH
section
variable [WD] {Z : Zx} {W : WX}
end
end Dt
namespace Dt
open PySem PySem.Spec L2 Evl PyProof.Rows
variable [WD]
def eqT0 : Pd → Pd → Option Pd
  | .tuple xs, .tuple [] => some (.bool xs.isEmpty)
  | d, e => eqD d e
theorem RDs.isEmpty {K : PySem.W.Frag} {H : Hp} : ∀ {us : List V} {xs : List Pd}, RDs K H us xs → us.isEmpty = xs.isEmpty
  | _, _, .nil => rfl
  | _, _, .cons _ _ => rfl
omit [WD] in
@[simp] theorem eqT0_nil {xs : List Pd} : eqT0 (.tuple xs) (.tuple []) = some (.bool xs.isEmpty) := rfl
end Dt
namespace Dt
open PySem PySem.Spec L2 Evl PyProof.Rows
variable [WD]
end Dt
namespace Dt
open PySem PySem.Spec L2 Evl PyProof.Rows
variable [WD]
def listKD : List Pd → Option (List Pd)
  | [.dict ds] => if ndB ds = true then none else some (ds.map (·.1))
  | _ => none
section
variable {Z : Zx} {W : WX}
end
section
variable {Z : Zx} {W : WX}
end
@[simp] theorem listKD_dict {ds : List (Pd × Pd)} (h : ndB ds = false) : listKD [.dict ds] = some (ds.map (·.1)) := if_neg (by rw [h]; decide)
end Dt
namespace Dt
open PySem PySem.Spec L2 Evl PyProof.Rows
variable [WD]
section
variable {X : Cx} {o e f : Expr} {apos cpos : Pos} {td ty tx : TE}
end
section
variable {Z : Zx} {W : WX}
end
section
variable {Z : Zx} {W : WX}
end
end Dt
namespace Dt
open PySem PySem.Spec L2 Evl PyProof.Rows
variable [WD]
section
variable {Z : Zx} {W : WX}
end
end Dt
set_option maxHeartbeats 4000000
namespace ZH
open PySem PySem.Spec L2 Evl PyProof.Rows
open PySem.Sem (wp)
abbrev itT (l : Addr) : Obj := { cls := .type "tuple_iterator", data := .fields #[.ref l, .int 0 0] }
abbrev itL (l : Addr) : Obj := { cls := .type "list_iterator", data := .fields #[.ref l, .int 0 0] }
abbrev prO (a b : Value) : Obj := { cls := .type "tuple", data := .seq #[a, b] }
abbrev hp2 (h : Heap) (l1 l2 : Addr) : Heap := (h.push (itT l1)).push (itL l2)
abbrev hp3 (h : Heap) (l1 l2 : Addr) : Heap := (hp2 h l1 l2).push (prO (.ref h.objs.size) (.ref (h.push (itT l1)).objs.size))
section
variable {prog : Program} {w : World} {A : Around} {E : Value → Shared → Prop} {s : Shared}
end
section
variable {prog : Program} {w : World}
end
end ZH
namespace Dt
open PySem PySem.Spec L2 Evl PyProof.Rows
section
variable {X : Cx} {pins : List (Addr × Obj)} {σ : L2.St} {H : Hp} {s : Shared}
end
variable [WD]
end Dt
namespace Dt
open PySem PySem.Spec L2 Evl PyProof.Rows
variable [WD]
def okAl (xs : List Pd) : Bool := xs.all (sh 60) && (xs.all (fun x => xs.all (PySem.W.alike x)) && xs.all fun x => match x with | .none => false | _ => true)
omit [WD] in
theorem okAl_alike {xs : List Pd} (h : okAl xs = true) : PySem.W.AlikeAll xs := by
  unfold okAl at h
  simp only [Bool.and_eq_true] at h
  refine ⟨fun x hx y hy => List.all_eq_true.mp (List.all_eq_true.mp h.2.1 x hx) y hy, fun x hx e => ?_⟩
  have := List.all_eq_true.mp h.2.2 x hx
  rw [e] at this
  cases this
omit [WD] in
theorem sh_tup_all {n : Nat} {xs : List Pd} (h : sh n (.tuple xs) = true) : PyData.canLayAll0 xs = true ∧ PyData.depthAll xs + 1 ≤ n := by
  obtain ⟨h1, h2⟩ := sh_ok n _ h
  exact ⟨h1, h2⟩
def rSortA (K : PySem.W.Frag) : List V → Hp → VK → Prop := fun vs H Q => ∃ (a : Addr) (ps : List (V × Pd)), vs = [.ref a] ∧ SqL K H a (ps.map Prod.fst) ∧ DpAll K H (ps.map Prod.fst) (ps.map Prod.snd) ∧ PyData.depthAll (ps.map Prod.snd) ≤ 60 ∧ PySem.W.AllAlike (ps.map Prod.snd) ∧ PySem.W.Sortable (ps.map Prod.snd) ∧
  ∀ p, H p = none → Q (.ref p) (upd H p (.lst ((ps.mergeSort (PySem.W.dataLe false Prod.snd)).map Prod.fst)))
omit [WD] in
theorem depth_mem : ∀ {ds : List Pd} {n : Nat}, PyData.depthAll ds ≤ n → ∀ d ∈ ds, d.depth ≤ n
  | d :: ds, n, h, x, hx => by
    simp only [PyData.depthAll] at h
    rcases List.mem_cons.mp hx with rfl | hx
    · exact Nat.le_trans (Nat.le_max_left _ _) h
    · exact depth_mem (Nat.le_trans (Nat.le_max_right _ _) h) x hx
omit [WD] in
theorem each_vals {ps : List (V × Pd)} : ∀ {us : List Value}, Vals (ps.map Prod.fst) us → PySem.W.EachIs (fun u (p : V × Pd) => RelV p.1 u) us ps := by
  induction ps with
  | nil => intro us h; cases h; exact .nil
  | cons p ps ih => intro us h; cases h with
    | cons r t => exact .cons r (ih t)
omit [WD] in
theorem each_vals' : ∀ {ps : List (V × Pd)} {us : List Value}, PySem.W.EachIs (fun u (p : V × Pd) => RelV p.1 u) us ps → Vals (ps.map Prod.fst) us
  | _, _, .nil => .nil
  | _, _, .cons r t => .cons r (each_vals' t)
omit [WD] in
theorem each_reads {h : Heap} : ∀ {ps : List (V × Pd)} {us : List Value} {as : List Addr}, ReadsAll h us (ps.map Prod.snd) as → PySem.W.EachIs (fun u (p : V × Pd) => ∃ as, Reads h u p.2 as) us ps
  | [], us, as, r => by
    have r' : ReadsAll h us [] as := r
    cases r'
    exact .nil
  | p :: ps, us, as, r => by
    have r' : ReadsAll h us (p.2 :: ps.map Prod.snd) as := r
    cases r' with
    | cons h1 h2 => exact .cons ⟨_, h1⟩ (each_reads h2)
omit [WD] in
theorem call_sortA {X : Cx} (hu : X.A.units + 64 < cLine) : CallR X (.builtin "sorted") (rSortA X.K) := by
  intro pins s σ H vs us Q I r h
  obtain ⟨a, ps, rfl, hs, hd, hdep, hal, hso, q⟩ := h
  obtain ⟨its, rv, hl, hz⟩ := I.list hs
  obtain ⟨u, rfl, ru⟩ := vals1 r
  obtain rfl : u = Value.ref a := ru
  obtain ⟨as, hr⟩ := Dp.readsAll I _ _ its hd rv
  have hpl : ps.length = its.length := by rw [← rv.length, List.length_map]
  refine PySem.W.sorted_data (R := fun u (p : V × Pd) => RelV p.1 u) (bs := ps) (enc := Prod.snd) hl.isList (each_vals rv) (each_reads hr) hal hso ?_ (fun b hb => ?_) fun out ho eo => ?_
  · have := hz
    rw [List.length_map] at this
    exact this
  · have := depth_mem hdep b.2 (List.mem_map.mpr ⟨b, hb, rfl⟩)
    omega
  · obtain ⟨n, hn⟩ := sortedAll_at s.heap its out.toArray
    have qq := q (s.heap.objs.size + 1) (I.hok.fresh (Nat.le_succ _))
    refine ⟨.ref (s.heap.objs.size + 1), upd H (s.heap.objs.size + 1) (.lst ((ps.mergeSort (PySem.W.dataLe false Prod.snd)).map Prod.fst)), I.laid (t' := s.toks) (fun b o e => sortedAll_old e) (Nat.le_succ _) ⟨?_, out, n, each_vals' eo, hn⟩, rfl, qq⟩
    rw [List.length_map, (List.mergeSort_perm ps _).length_eq]
    have := hz
    rw [List.length_map] at this
    exact this
theorem kSortA {X : Cx} (K : PySem.W.Frag) (hu : X.A.units + 64 < cLine) (hK : X.K = K := by rfl) : CallR X (.builtin "sorted") (rSortA K) := by subst hK; exact call_sortA hu
def sortA (xs : List Pd) : List Pd := xs.mergeSort fun a b => !PySem.W.dataLt b a
def sortableB (xs : List Pd) : Bool := (xs.all fun x => match x with | .tuple (_ :: _) => true | _ => false) || xs.all fun x => match x with | .none => false | .tuple _ => false | _ => true
def sortedA : List Pd → Option (List Pd)
  | [.list xs] => if sh 60 (.tuple xs) = true ∧ okAl xs = true ∧ sortableB xs = true then some (sortA xs) else none
  | _ => none
omit [WD] in
theorem sortable_of {xs : List Pd} (h : sortableB xs = true) : PySem.W.Sortable xs := by
  unfold sortableB at h
  rw [Bool.or_eq_true] at h
  rcases h with h | h
  · refine .inl fun d hd => ?_
    have := List.all_eq_true.mp h d hd
    split at this
    · exact ⟨_, _, rfl⟩
    · cases this
  · refine .inr fun d hd => ?_
    have := List.all_eq_true.mp h d hd
    refine ⟨fun e => ?_, fun ys e => ?_⟩ <;> (rw [e] at this; cases this)
theorem rcl_sortedA {K : PySem.W.Frag} : RCallL K (rSortA K) sortedA := by
  intro Hf H vs xs z e hx h Q q
  unfold sortedA at h
  split at h
  · rename_i us
    split at h
    · rename_i hok
      cases h
      obtain ⟨v, rfl, hv⟩ := hx.one
      obtain ⟨l, ws, rfl, t, r⟩ := hv.list e
      obtain ⟨z1, z2, z3⟩ := r.zip
      obtain ⟨h1, h2⟩ := sh_tup_all hok.1
      refine ⟨l, ws.zip us, rfl, by rw [z2]; exact t, by rw [z2, z3]; exact RDs.dp (r.mono e) h1, by rw [z3]; omega, ?_, by rw [z3]; exact sortable_of hok.2.2, fun p np => ?_⟩
      · rw [z3]
        exact fun d hd d' hd' => (okAl_alike hok.2.1).1 d hd d' hd'
      · have rr : RDs K Hf (((ws.zip us).mergeSort (PySem.W.dataLe false Prod.snd)).map Prod.fst) (((ws.zip us).mergeSort (PySem.W.dataLe false Prod.snd)).map Prod.snd) := RDs.pairs fun p hp => z1 p ((List.mergeSort_perm _ _).mem_iff.mp hp)
        have em : ((ws.zip us).mergeSort (PySem.W.dataLe false Prod.snd)).map Prod.snd = sortA us := by
          have hm := List.map_mergeSort (r := PySem.W.dataLe false (Prod.snd : V × Pd → Pd)) (s := fun a b => !PySem.W.dataLt b a) (f := Prod.snd) (l := ws.zip us) (fun a _ b _ => rfl)
          rw [hm, z3]
          rfl
        rw [em] at rr
        exact q p _ _ (e.trans (Ex.new np)) (Ex.new np) np upd_same rr
    · cases h
  · cases h
end Dt
namespace Dt
open PySem PySem.Spec L2 Evl PyProof.Rows
variable [WD]
def flatO : Mo → Bool
  | .obj _ fs => fs.all fun p => match p.2 with
    | .dat _ => true
    | _ => false
  | .dct _ _ => true
  | .lst _ => true
  | _ => false
theorem RMs.flat {K : PySem.W.Frag} {Hf H : Hp} : ∀ {vs : List (Str × V)} {fs : List (Str × Mo)} {fp : List Addr}, RMs K Hf H vs fs fp → (fs.all fun p => match p.2 with | .dat _ => true | _ => false) = true → fp = []
  | _, _, _, .nil, _ => rfl
  | _, _, _, .cons (o := o) h hs, f => by
    simp only [List.all_cons, Bool.and_eq_true] at f
    rw [RMs.flat hs f.2]
    cases o with
    | dat x => cases h; rfl
    | _ => cases f.1
theorem RM.flat {K : PySem.W.Frag} {Hf H : Hp} {v : V} {o : Mo} {fp : List Addr} (h : RM K Hf H v o fp) (f : flatO o = true) : ∃ a, v = .ref a ∧ fp = [a] := by
  cases h with
  | dat _ => cases f
  | dl _ _ => cases f
  | lst _ _ => exact ⟨_, rfl, rfl⟩
  | dk _ _ => exact ⟨_, rfl, rfl⟩
  | dn _ _ => exact ⟨_, rfl, rfl⟩
  | obj h r => rw [RMs.flat r f]; exact ⟨_, rfl, rfl⟩
def kT (as : Rho) (ρ : Rho) (r : R RV) : R RV := match ρ with
  | .m true o :: _ => if flatO o = true then r else .bad
  | _ => .bad
def endT (as : Rho) : R Fl → R RV
  | .ok (.rt x) ρ => kT as ρ (.ok (.d x) (outsM as ρ))
  | .ok .nx ρ => kT as ρ (.ok (.d .none) (outsM as ρ))
  | .ex e ρ => kT as ρ (.ex e (outsM as ρ))
  | _ => .bad
section
variable {P : Program} {w : World} {K : PySem.W.Frag} {C : Str → Addr} {mg : Str → Option Value} {base : Heap} {x qual : Str} {params : Arguments} {body : List Stmt} {scope : Scope} {f : Addr} {fd : FuncData}
end
section
variable {Z : Zx} {W : WX}
def kFnN (g : Rho → R RV) (o : Mo) (ys : Option (List Pd)) (ρ2 : Rho) : R AV := match ys with
  | some ys => if flatO o = true then (match g (argM [] o ys) with
    | .ok (.d x) _ => .ok (.d x) ρ2
    | .ex e _ => .ex e ρ2
    | _ => .bad) else .bad
  | none => .bad
def fFnN (n : Nat) (g : Rho → R RV) (fo : Rho → R Mo) (fa : Rho → R (List AV)) : Rho → R AV := fun ρ => (fo ρ).bind fun o ρ1 => (fa ρ1).bind fun as ρ2 => kFnN g o (argsD n as) ρ2
end
section
variable {n i : Nat} {ρ : Rho}
omit [WD] in
@[simp] theorem kT_cons {as : Rho} {o : Mo} {r : R RV} : kT as (.m true o :: ρ) r = if flatO o = true then r else .bad := rfl
omit [WD] in
@[simp] theorem endT_rt {as : Rho} {x : Pd} : endT as (.ok (.rt x) ρ) = kT as ρ (.ok (.d x) (outsM as ρ)) := rfl
omit [WD] in
@[simp] theorem endT_nx {as : Rho} : endT as (.ok .nx ρ) = kT as ρ (.ok (.d .none) (outsM as ρ)) := rfl
omit [WD] in
@[simp] theorem endT_ex {as : Rho} {e : XD} : endT as (.ex e ρ) = kT as ρ (.ex e (outsM as ρ)) := rfl
omit [WD] in
@[simp] theorem flatO_obj {c : Str} {fs : List (Str × Mo)} : flatO (.obj c fs) = fs.all fun p => match p.2 with | .dat _ => true | _ => false := rfl
omit [WD] in
@[simp] theorem fFnN_ap {g : Rho → R RV} {fo : Rho → R Mo} {fa : Rho → R (List AV)} : fFnN n g fo fa ρ = (fo ρ).bind fun o ρ1 => (fa ρ1).bind fun as ρ2 => kFnN g o (argsD n as) ρ2 := rfl
omit [WD] in
@[simp] theorem kFnN_some {g : Rho → R RV} {ys : List Pd} {o : Mo} : kFnN g o (some ys) ρ = if flatO o = true then (match g (.m true o :: ys.map Sl.d) with
    | .ok (.d x) _ => .ok (.d x) ρ
    | .ex e _ => .ex e ρ
    | _ => .bad) else .bad := rfl
end
end Dt
namespace Dt
open PySem PySem.Spec L2 Evl PyProof.Rows
variable [WD]
def kTP (p : Nat) (ρ : Rho) (r : R RV) : R RV := match ρ[p]? with
  | some (.m true o) => if flatO o = true then r else .bad
  | _ => .bad
def endTP (p : Nat) (as : Rho) : R Fl → R RV
  | .ok (.rt x) ρ => kTP p ρ (.ok (.d x) (outsM as ρ))
  | .ok .nx ρ => kTP p ρ (.ok (.d .none) (outsM as ρ))
  | .ex e ρ => kTP p ρ (.ex e (outsM as ρ))
  | _ => .bad
section
variable {P : Program} {w : World} {K : PySem.W.Frag} {C : Str → Addr} {mg : Str → Option Value} {base : Heap} {x qual : Str} {params : Arguments} {body : List Stmt} {scope : Scope} {f : Addr} {fd : FuncData}
end
section
variable {Z : Zx} {W : WX}
end
section
variable {n p : Nat} {ρ : Rho}
omit [WD] in
@[simp] theorem endTP_rt {as : Rho} {x : Pd} : endTP p as (.ok (.rt x) ρ) = kTP p ρ (.ok (.d x) (outsM as ρ)) := rfl
end
end Dt
namespace Dt
open PySem PySem.Spec L2 Evl PyProof.Rows
variable [WD]
def lockN (Q : VK) : VK := fun x H1 => ∃ a xs, x = .ref a ∧ H1 a = some (DkN a xs) ∧ ∀ o, Q x (upd H1 a (.frz o (DkN a xs)))
section
variable {X : Cx}
theorem call_lockN {c : Value} {r : List V → Hp → VK → Prop} (hc : CallR X c r) : CallR X c (fun xs H Q => r xs H (lockN Q)) := fun pins s σ H xs us Q I rv h => thn (hc pins s σ H xs us _ I rv h) fun u s1 ⟨x, H1, I1, rx, a, kvs, ex, ha, q⟩ => by
  obtain ⟨od, I2⟩ := I1.lock ha True.intro
  exact ⟨x, _, I2, rx, q od⟩
end
section
variable {X : Cx} {pins : List (Addr × Obj)} {σ : L2.St} {H : Hp} {s : Shared} {d : Addr} {o : Obj}
theorem frzN {xs : List Ent} (I : Inv X pins σ H s) (h : H d = some (.frz o (DkN d xs))) :
    (d == sysModules) = false ∧ s.heap.get? d = some o ∧ o.ExactDict ∧ xs.length ≤ sizeLine ∧ ∃ (es : Array DictEntry) (ep : Nat), o.data = .dict es ep ∧ es.size = xs.length ∧
      ∀ (i : Nat) (k : NestedKey) (b : Addr) (u : Value), xs[i]? = some (k, b, u) → ∃ en : DictEntry, es[i]? = some en ∧ en.key = .ref b ∧ en.val = u := by
  have hh : s.heap.get? d = some o ∧ ObjOk X.prog X.w H s.heap d (DkN d xs) := I.hok d _ h
  obtain ⟨hd, ⟨h1, h2, h3, h4, o', es, ep, h5, h6, h7, h8⟩, _, _⟩ := hh
  rw [hd] at h5
  cases h5
  refine ⟨h1, hd, h6, h2, es, ep, h7, size_of_entries h8, fun i k b u e => ?_⟩
  have q := entry_at h8 i
  rw [e] at q
  exact ⟨_, q, rfl, rfl⟩
end
def Itn (d : Addr) (o : Obj) (xs : List Ent) : It :=
  ⟨fun i H => H d = some (.frz o (DkN d xs)) ∧ i < xs.length, fun i H x H' => H' = H ∧ ∃ k b u, xs[i]? = some (k, b, u) ∧ x = .ref b, fun i H => H d = some (.frz o (DkN d xs)) ∧ xs.length ≤ i⟩
def Itni (d : Addr) (o : Obj) (xs : List Ent) (vs : List V) : It :=
  ⟨fun i H => H d = some (.frz o (DkN d xs)) ∧ i < xs.length, fun i H x H' => ∃ T k b u v, xs[i]? = some (k, b, u) ∧ vs[i]? = some v ∧ x = .ref T ∧ H T = none ∧ H' = upd H T (.tup [.ref b, v]), fun i H => H d = some (.frz o (DkN d xs)) ∧ xs.length ≤ i⟩
section
variable {P : Program} {w : World} {K : PySem.W.Frag} {tg : Expr} {d : Addr} {o : Obj} {es : Array DictEntry} {ep : Nat}
theorem turn_keysN {xs : List Ent} (it : Addr) (hod : o.data = .dict es ep) : Turn P w K tg (Itn d o xs) [it] it (fun i h => h.IsKeyIter it d i xs.length ep) where
  mem := by simp
  obj := fun i h st b hb => by
    have e : b = it := by simpa using hb
    subst e
    obtain ⟨oi, e, c, dd⟩ := st
    exact ⟨oi, e, fun v z => by rw [dd] at z; cases z⟩
  keep := fun i h h' st k => st.at fun oi e => k it (by simp) oi e
  item := by
    intro X hP hw hK hc i pins s σ H E I hf st hg
    subst hP hw hK
    obtain ⟨hd, hi⟩ := hg
    obtain ⟨f0, f1, f2, f3, f4, f5⟩ := hf it (by simp)
    obtain ⟨hs, hgd, hx, _, es', ep', hdt, hsz, ent⟩ := frzN I hd
    obtain ⟨rfl, rfl⟩ := dict_ep hod hdt
    obtain ⟨⟨k, b, u⟩, hkv⟩ : ∃ p, xs[i]? = some p := ⟨xs[i], List.getElem?_eq_getElem hi⟩
    obtain ⟨en, hen, hkey, hval⟩ := ent i k b u hkv
    refine next_key_item st hgd hdt hsz hen fun h' st' sb => ?_
    have I1 : Inv X pins σ H { s with heap := h' } := I.turned (t' := s.toks) (fun b ob hb e => (sb.2 b hb).trans e) f0 f1 f3 f4 f5
    obtain ⟨oi, e, c, dd⟩ := id st'
    exact ⟨en.key, rfl, go_of (s := { s with heap := h' }) e c dd (by decide) ⟨.ref b, H, I1, hkey, ⟨rfl, k, b, u, hkv, rfl⟩, st', fun b hb => (hf b hb).1⟩⟩
  done := by
    intro X hP hw hK hc i pins s σ H E I hf st hg
    subst hP hw hK
    obtain ⟨hd, hi⟩ := hg
    obtain ⟨f0, f1, f2, f3, f4, f5⟩ := hf it (by simp)
    obtain ⟨hs, hgd, hx, _, es', ep', hdt, hsz, ent⟩ := frzN I hd
    obtain ⟨rfl, rfl⟩ := dict_ep hod hdt
    exact next_key_end (I.ok.hd hc) st hgd hdt hsz hi fun h' eb => ⟨rfl, I.turned (t' := s.toks) (fun b ob hb e => eb b ob hb e) f0 f1 f3 f4 f5⟩
  self := fun A i s Q E st h => wpAny_pyIter_keyiter st h
theorem turn_itemsN {xs : List Ent} {vs : List V} {elts : List Expr} {kk : Nat} {tpos : Pos} (it : Addr) (hod : o.data = .dict es ep) (hl : vs.length = xs.length) (hv : ∀ (i : Nat) k b u v, xs[i]? = some (k, b, u) → vs[i]? = some v → RelV v u) :
    Turn P w K (.Tuple elts kk tpos) (Itni d o xs vs) [it] it (fun i h => ∃ ok ov, IsItemIter h it d i xs.length ep ok ov) where
  mem := by simp
  obj := fun i h st b hb => by
    have e : b = it := by simpa using hb
    subst e
    obtain ⟨ok, ov, e⟩ := st
    exact ⟨_, e, fun v z => nomatch z⟩
  keep := fun i h h' st k => let ⟨ok, ov, e⟩ := st; ⟨ok, ov, k it (by simp) _ e⟩
  item := by
    intro X hP hw hK hc i pins s σ H E I hf st hg
    subst hP hw hK
    obtain ⟨hd, hi⟩ := hg
    obtain ⟨hs, hgd, hx, _, es', ep', hdt, hsz, ent⟩ := frzN I hd
    obtain ⟨rfl, rfl⟩ := dict_ep hod hdt
    obtain ⟨⟨k, b, u⟩, hkv⟩ : ∃ p, xs[i]? = some p := ⟨xs[i], List.getElem?_eq_getElem hi⟩
    obtain ⟨v, hvv⟩ : ∃ v, vs[i]? = some v := ⟨vs[i]'(by rw [hl]; exact hi), List.getElem?_eq_getElem _⟩
    have ru := hv i k b u v hkv hvv
    obtain ⟨en, hen, hkey, hval⟩ := ent i k b u hkv
    have hi' : i < es'.size := by rw [hsz]; exact hi
    have een : es'[i] = en := by
      have := Array.getElem?_eq_getElem hi'
      rw [hen] at this
      exact (Option.some.inj this).symm
    obtain ⟨ok, ov, he⟩ := st
    rw [← hsz] at he
    have hlt : it < s.heap.objs.size := Heap.lt_size he
    refine wpAny_pyNext_items_item_raw he ⟨o, hgd, hx, hdt⟩ hi' fun h' ho hT hz hk => ?_
    refine ⟨_, rfl, wpAny_letOwnedTupleGo_items (s := { s with heap := h' }) ho fun h'' he' sb => ?_⟩
    have hT2 : h''.get? s.heap.objs.size = some { cls := .type "tuple", data := .seq #[es'[i].key, es'[i].val] } := (sb.2 _ (Nat.ne_of_gt hlt)).trans hT
    have new : ObjOk X.prog X.w (upd H s.heap.objs.size (.tup [.ref b, v])) h'' s.heap.objs.size (.tup [.ref b, v]) :=
      ⟨by show 2 ≤ sizeLine; decide, [es'[i].key, es'[i].val], .cons (show RelV (.ref b) es'[i].key by rw [een, hkey]; rfl) (.cons (show RelV v es'[i].val by rw [een, hval]; exact ru) .nil), ⟨_, hT2, rfl, _, rfl⟩⟩
    have I1 : Inv X pins σ (upd H s.heap.objs.size (.tup [.ref b, v])) { s with heap := h'' } :=
      I.turnedNew (t' := s.toks) (ch := [it]) (fun b ob hb e => (sb.2 b (by simpa using hb)).trans (hk b ob (by simpa using hb) e)) hf (Nat.le_refl _) new
    refine ⟨.ref s.heap.objs.size, _, I1, rfl, ⟨_, k, b, u, v, hkv, hvv, rfl, I.hok.fresh (Nat.le_refl _), rfl⟩, ⟨es'[i].key, es'[i].val, ?_⟩, fun b hb => ?_⟩
    · rw [← hsz]; exact he'
    · have e : b = it := by simpa using hb
      rw [e, upd_ne (Nat.ne_of_lt hlt)]
      exact (hf it (by simp)).1
  done := by
    intro X hP hw hK hc i pins s σ H E I hf st hg
    subst hP hw hK
    obtain ⟨hd, hi⟩ := hg
    obtain ⟨f0, f1, f2, f3, f4, f5⟩ := hf it (by simp)
    obtain ⟨hs, hgd, hx, _, es', ep', hdt, hsz, ent⟩ := frzN I hd
    obtain ⟨rfl, rfl⟩ := dict_ep hod hdt
    obtain ⟨ok, ov, he⟩ := st
    rw [← hsz] at he
    exact wpAny_pyNext_items_end_raw (I.ok.hd hc) he ⟨o, hgd, hx, hdt⟩ (by rw [hsz]; exact hi) fun h' eb => ⟨rfl, I.turned (t' := s.toks) (fun b ob hb e => eb b ob hb e) f0 f1 f3 f4 f5⟩
  self := fun A i s Q E st h => let ⟨_, _, e⟩ := st; PySem.W.kcp_self e h
end
def iKeysN (td : TE) : TI := fun σ H R => td σ H fun x H1 => ∃ d o xs, x = .ref d ∧ H1 d = some (.frz o (DkN d xs)) ∧ R (Itn d o xs) H1
def iItemsN (td : TE) : TI := fun σ H R => td σ H fun x H1 => ∃ d o xs vs, x = .ref d ∧ H1 d = some (.frz o (DkN d xs)) ∧ vs.length = xs.length ∧ (∀ (i : Nat) k b u v, xs[i]? = some (k, b, u) → vs[i]? = some v → RelV v u) ∧ R (Itni d o xs vs) H1
section
variable {X : Cx} {tg e : Expr} {td : TE} {apos cpos : Pos}
theorem pi_keysN (he : PE X e td) : PI X tg e (iKeysN td) := by
  refine ⟨fun pins s σ H R I h => ?_⟩
  refine thn (he.run pins s σ H _ I h) fun u s1 ⟨x, H1, I1, rx, d, o, xs, ex, hd, q⟩ => ?_
  subst ex
  obtain rfl : u = Value.ref d := rx
  obtain ⟨hs, hgd, hx, _, es, ep, hdt, hsz, ent⟩ := frzN I1 hd
  refine iter_keys hs hgd hx hdt (pi_one (tk := s1.toks) I1 _ (turn_keysN _ hdt) ⟨_, Heap.get?_push_size _ rfl, rfl, ?_⟩ q)
  rw [hsz] <;> rfl
theorem pi_itemsN {elts : List Expr} {kk : Nat} {tpos : Pos} (he : PE X e td) (hbase : attributeBase e "items" X.env (eval e X.env) = eval e X.env := by rfl) (hline : (apos.endLine == cpos.line) = true := by rfl) :
    PI X (.Tuple elts kk tpos) (.Call (.Attribute e "items" apos) [] [] cpos) (iItemsN td) := by
  refine ⟨fun pins s σ H R I h => ?_⟩
  refine wpAny_Call_method (T := "dict") (id := "dict.items") hbase rfl hline F.plainAttrs_dict F.slot_dict_items F.type_dict_items (thn (he.run pins s σ H _ I h) fun u s1 ⟨x, H1, I1, rx, d, o, xs, vs, ex, hd, hl, hv, q⟩ => ?_)
  subst ex
  obtain rfl : u = Value.ref d := rx
  obtain ⟨hs, hgd, hx, _, es, ep, hdt, hsz, ent⟩ := frzN I1 hd
  have hr : s1.heap.DictRaw d es ep := ⟨o, hgd, hx, hdt⟩
  refine ⟨hr.typeIs, fun b q => by cases q; exact ⟨o, hgd, hx.2.1⟩, ?_⟩
  have I2 : Inv X pins σ H1 { s1 with heap := s1.heap.push { cls := .type "dict_items", data := .fields #[.ref d] } } := I1.kept (t' := s1.toks) fun b ob q => Heap.get?_push_of_some _ q
  have fin : wpAny (model X.prog X.w) X.A (pyIter (.ref s1.heap.objs.size)) (PIE X pins σ (.Tuple elts kk tpos) R) X.xe { s1 with heap := s1.heap.push { cls := .type "dict_items", data := .fields #[.ref d] } } := by
    refine wpAny_pyIter_items_raw (d := d) ⟨_, Heap.get?_push_size _ rfl, rfl, rfl⟩ (hr.at fun o e => Heap.get?_push_of_some _ e) (pi_one (tk := s1.toks) I2 _ (turn_itemsN _ hdt hl hv) ⟨.none, .none, ?_⟩ q)
    rw [← hsz]
    exact Heap.get?_push_size _ rfl
  show wpAny _ _ (callWith cpos (.builtin "dict.items") [.ref d] [] []) _ X.xe s1
  exact method_meetsIn F.slot_dict_items F.entry_dict_items rfl (PySem.evalArgs_none ⟨rfl, hr.typeIs, F.args_dict_items_1 _, _, meets_dict_items_raw d hs, ⟨es, ep, hr⟩, fin⟩)
end
section
variable {K : PySem.W.Frag}
theorem RNs.get {H : Hp} : ∀ {xs : List Ent} {ds : List (Pd × Pd)} {i : Nat} {k : NestedKey} {b : Addr} {u : Value}, RNs K H xs ds → xs[i]? = some (k, b, u) → ∃ kd d v, ds[i]? = some (kd, d) ∧ RD K H (.ref b) kd ∧ k.data = kd ∧ RelV v u ∧ RD K H v d
  | _, _, _, _, _, _, .nil, e => by simp at e
  | _, _, 0, _, _, _, .cons hk ek ru hv hs, e => by
    simp at e
    obtain ⟨rfl, rfl, rfl⟩ := e
    exact ⟨_, _, _, rfl, hk, ek, ru, hv⟩
  | _, _, i + 1, _, _, _, .cons hk ek ru hv hs, e => by
    obtain ⟨kd, d, v, h1, h2⟩ := RNs.get (i := i) hs (by simpa using e)
    exact ⟨kd, d, v, by simpa using h1, h2⟩
theorem RNs.vals {H : Hp} : ∀ {xs : List Ent} {ds : List (Pd × Pd)}, RNs K H xs ds → ∃ vs : List V, vs.length = xs.length ∧ (∀ (i : Nat) k b u v, xs[i]? = some (k, b, u) → vs[i]? = some v → RelV v u) ∧ ∀ (i : Nat) v p, vs[i]? = some v → ds[i]? = some p → RD K H v p.2
  | _, _, .nil => ⟨[], rfl, fun i k b u v e => by simp at e, fun i v p e => by simp at e⟩
  | _, _, .cons (u := u) (v := v) hk ek ru hv hs => by
    obtain ⟨vs, h1, h2, h3⟩ := RNs.vals hs
    refine ⟨v :: vs, congrArg Nat.succ h1, fun i k b u v e1 e2 => ?_, fun i v p e1 e2 => ?_⟩
    · cases i with
      | zero =>
        simp at e1 e2
        obtain ⟨rfl, rfl, rfl⟩ := e1
        subst e2
        exact ru
      | succ i => exact h2 i k b u v (by simpa using e1) (by simpa using e2)
    · cases i with
      | zero =>
        simp at e1 e2
        subst e1 e2
        exact hv
      | succ i => exact h3 i v p (by simpa using e1) (by simpa using e2)
theorem dlv_keysN {Hf : Hp} {l : Addr} {o : Obj} {xs : List Ent} {ds : List (Pd × Pd)} (h : Hf l = some (.frz o (DkN l xs))) (hs : RNs K Hf xs ds) : Dlv false K (Itn l o xs) Hf (ds.map (·.1)) := by
  intro i Hf' H' e1 e2
  have hl := hs.length
  have hH : H' l = some (.frz o (DkN l xs)) := e2 _ _ (e1 _ _ h)
  refine ⟨fun hi => ⟨hH, by rw [hl]; simpa using hi⟩, fun hi => ⟨hH, by rw [hl]; simpa using hi⟩, fun v H'' hy x hx => ?_⟩
  obtain ⟨rfl, k, b, u, hk, rfl⟩ := hy
  obtain ⟨kd, d, v', q1, q2, q3, _⟩ := hs.get hk
  rw [List.getElem?_map, q1] at hx
  cases hx
  exact ⟨Hf', Pg.refl e2, .inl (q2.mono e1)⟩
theorem dlv_itemsN {Hf : Hp} {l : Addr} {o : Obj} {xs : List Ent} {vs : List V} {ds : List (Pd × Pd)} (h : Hf l = some (.frz o (DkN l xs))) (hs : RNs K Hf xs ds) (hv : ∀ (i : Nat) v p, vs[i]? = some v → ds[i]? = some p → RD K Hf v p.2) : Dlv true K (Itni l o xs vs) Hf (ds.map fun p => .tuple [p.1, p.2]) := by
  intro i Hf' H' e1 e2
  have hl := hs.length
  have hH : H' l = some (.frz o (DkN l xs)) := e2 _ _ (e1 _ _ h)
  refine ⟨fun hi => ⟨hH, by rw [hl]; simpa using hi⟩, fun hi => ⟨hH, by rw [hl]; simpa using hi⟩, fun v H'' hy x hx => ?_⟩
  obtain ⟨T, k, b, u, w, hk, hw, rfl, nT, rfl⟩ := hy
  obtain ⟨kd, d, v', q1, q2, q3, _⟩ := hs.get hk
  rw [List.getElem?_map, q1] at hx
  cases hx
  have g := Pg.new (o := .tup [.ref b, w]) e2 nT
  exact ⟨_, g, .inr ⟨rfl, _, _, _, rfl, rfl, st_of upd_same, .cons ((q2.mono e1).mono g.ef) (.cons (((hv i w _ hw q1).mono e1).mono g.ef) .nil)⟩⟩
end
def ndE : Pd → Option (List (Pd × Pd))
  | .dict ((.none, .none) :: ds) => some ds
  | _ => none
omit [WD] in
theorem ndE_some {d : Pd} {ds : List (Pd × Pd)} (h : ndE d = some ds) : d = ndD ds := by
  unfold ndE at h
  split at h
  · cases h; rfl
  · cases h
omit [WD] in
@[simp] theorem ndE_nd {ds : List (Pd × Pd)} : ndE (.dict ((.none, .none) :: ds)) = some ds := rfl
theorem rd_nd {K : PySem.W.Frag} {H : Hp} {v : V} {ds : List (Pd × Pd)} (h : RD K H v (ndD ds)) : ∃ a o xs, v = .ref a ∧ H a = some (.frz o (DkN a xs)) ∧ RNs K H xs ds := by
  generalize e : ndD ds = d at h
  cases h with
  | dct h hs =>
    have := hs.nd
    cases e
    simp [ndB] at this
  | dcn h hs => cases e; exact ⟨_, _, _, rfl, h, hs⟩
  | _ => cases e
section
variable {Z : Zx} {W : WX}
def kItN (a : AV) (ρ1 : Rho) : R (List Pd) := match a with
  | .d d => (match ndE d with
    | some ds => .ok (ds.map (·.1)) ρ1
    | none => .bad)
  | _ => .bad
def fItN (fe : Rho → R AV) : Rho → R (List Pd) := fun ρ => (fe ρ).bind kItN
theorem i_keysN {td : TE} {fe : Rho → R AV} (he : DE Z W td fe) : DI false Z W (iKeysN td) (fItN fe) := by
  intro Hf H O σ ρ s Q p
  refine DJ.bind he s p fun a ρ1 v Hf1 H1 s1 g1 k1 rv p1 => ?_
  cases a with
  | sl i => exact p1.elim
  | d da =>
    unfold kItN at p1
    simp only at p1
    cases e : ndE da with
    | none => rw [e] at p1; exact p1.elim
    | some ds =>
      rw [e] at p1
      obtain rfl := ndE_some e
      obtain ⟨l, o, xs, rfl, h, hs⟩ := rd_nd (show RD Z.K Hf1 v (ndD ds) from rv)
      exact ⟨l, o, xs, rfl, s1.ex _ _ h, p1 Hf1 H1 s1 Gr.refl Kp.refl _ (dlv_keysN h hs)⟩
def kItNI (a : AV) (ρ1 : Rho) : R (List Pd) := match a with
  | .d d => (match ndE d with
    | some ds => .ok (ds.map fun p => .tuple [p.1, p.2]) ρ1
    | none => .bad)
  | _ => .bad
def fItNI (fe : Rho → R AV) : Rho → R (List Pd) := fun ρ => (fe ρ).bind kItNI
theorem i_itemsN {td : TE} {fe : Rho → R AV} (he : DE Z W td fe) : DI true Z W (iItemsN td) (fItNI fe) := by
  intro Hf H O σ ρ s Q p
  refine DJ.bind he s p fun a ρ1 v Hf1 H1 s1 g1 k1 rv p1 => ?_
  cases a with
  | sl i => exact p1.elim
  | d da =>
    unfold kItNI at p1
    simp only at p1
    cases e : ndE da with
    | none => rw [e] at p1; exact p1.elim
    | some ds =>
      rw [e] at p1
      obtain rfl := ndE_some e
      obtain ⟨l, o, xs, rfl, h, hs⟩ := rd_nd (show RD Z.K Hf1 v (ndD ds) from rv)
      obtain ⟨vs, v1, v2, v3⟩ := hs.vals
      exact ⟨l, o, xs, vs, rfl, s1.ex _ _ h, v1, v2, p1 Hf1 H1 s1 Gr.refl Kp.refl _ (dlv_itemsN h hs v3)⟩
def kNDGet (a b : AV) (ρ : Rho) : R AV := match a, b with
  | .d d, .d kd => (match ndE d, keyM true kd with
    | some ds, some k => (match getN ds k with
      | some v => .ok (.d v) ρ
      | none => .bad)
    | _, _ => .bad)
  | _, _ => .bad
def fNDGet (fd fk : Rho → R AV) : Rho → R AV := fun ρ => (fd ρ).bind fun a ρ1 => (fk ρ1).bind fun b ρ2 => kNDGet a b ρ2
theorem d_ndget {td tk : TE} {fd fk : Rho → R AV} (hd : DE Z W td fd) (hk : DE Z W tk fk) : DE Z W (tNGet Z.K td tk) (fNDGet fd fk) := by
  intro Hf H O σ ρ s Q p
  refine hd.bind s p fun a ρ1 x Hf1 H1 s1 g1 k1 rx p1 => ?_
  refine hk.bind s1 p1 fun b ρ2 y Hf2 H2 s2 g2 k2 ry p2 => ?_
  unfold kNDGet at p2
  cases a with
  | sl i => exact p2.elim
  | d da =>
    cases b with
    | sl i => exact p2.elim
    | d kd =>
      simp only at p2
      cases e1 : ndE da with
      | none => rw [e1] at p2; exact p2.elim
      | some ds =>
        cases e3 : keyM true kd with
        | none => rw [e1, e3] at p2; exact p2.elim
        | some k =>
          rw [e1, e3] at p2
          simp only at p2
          obtain rfl := ndE_some e1
          obtain ⟨l, o, xs, rfl, h, hs⟩ := rd_nd (RD.mono g2.ex (show RD Z.K Hf1 x (ndD ds) from rx))
          obtain ⟨ng, hdd, hb⟩ := nget_of (Z := Z) s2.ex (.inr ⟨o, s2.ex _ _ h⟩) hs (show RD Z.K Hf2 y kd from ry) e3
          rcases hs.at (k := k) with ⟨h1, _⟩ | ⟨d, pp, v, h1, h2, h3, h4⟩
          · rw [h1] at p2; exact p2.elim
          · rw [h1] at p2
            exact ⟨l, xs, k, pp, v, rfl, ng, h2, h3, p2 Hf2 H2 s2 Gr.refl Kp.refl v h4⟩
end
def rDictN (K : PySem.W.Frag) : List V → Hp → VK → Prop := fun xs H Q => ∃ (a : Addr) (ts : List Addr) (es : List (NestedKey × Addr × V)), xs = [.ref a] ∧ SqL K H a (ts.map V.ref) ∧
  Paired (fun p e => SqT K H p [.ref e.2.1, e.2.2] ∧ NkIs K H e.1 (.ref e.2.1) ∧ e.1.depth ≤ 8) ts es ∧ (es.map (·.1)).Nodup ∧
    ∀ p (ps : List Ent), H p = none → Paired (fun e x => x.1 = e.1 ∧ x.2.1 = e.2.1 ∧ RelV e.2.2 x.2.2) es ps → Q (.ref p) (upd H p (DkN p ps))
omit [WD] in
theorem storedAllH_new : ∀ (ps acc : List Ent), ((acc ++ ps).map (·.1)).Nodup → storedAllH acc ps = acc ++ ps
  | [], acc, _ => by simp [storedAllH]
  | (k, b, u) :: r, acc, h => by
    have hn : atKey acc k = none := by
      unfold atKey
      rw [Option.map_eq_none_iff, List.find?_eq_none]
      intro p hp e
      have e : p.1 = k := by simpa using e
      rw [List.map_append, List.nodup_append] at h
      exact h.2.2 p.1 (List.mem_map_of_mem hp) k (by simp) e
    show storedAllH (storedH acc k b u) r = _
    rw [storedH_new hn, storedAllH_new r (acc ++ [(k, b, u)]) (by simpa using h)]
    simp
theorem pairs_ofN {X : Cx} {pins : List (Addr × Obj)} {σ : L2.St} {H : Hp} {s : Shared} (I : Inv X pins σ H s) : ∀ {ts : List Addr} {es : List (NestedKey × Addr × V)}, Paired (fun p e => SqT X.K H p [.ref e.2.1, e.2.2] ∧ NkIs X.K H e.1 (.ref e.2.1) ∧ e.1.depth ≤ 8) ts es →
    ∃ ps : List Ent, Paired (fun e x => x.1 = e.1 ∧ x.2.1 = e.2.1 ∧ RelV e.2.2 x.2.2) es ps ∧ ps.length = ts.length ∧ ps.map (·.1) = es.map (·.1) ∧ (∀ x ∈ ps, (nestedKind WD.P WD.w).is s.heap x.1 x.2.1) ∧
      ∀ (j : Nat) (q : Ent), ps[j]? = some q → ∃ b, ts[j]? = some b ∧ s.heap.IsTuple b #[.ref q.2.1, q.2.2]
  | _, _, .nil => ⟨[], .nil, rfl, rfl, fun x hx => (nomatch hx), fun j q e => by simp at e⟩
  | _, _, .cons (a := p) (b := e) h t => by
    obtain ⟨ps, r, hl, hm, hk, hp⟩ := pairs_ofN I t
    obtain ⟨h1, h2, h3⟩ := h
    obtain ⟨its, rv, ht, _⟩ := I.tuple h1
    obtain ⟨u, y, ei, ru, ry⟩ := vals2 rv
    subst ei
    cases ru
    refine ⟨(e.1, e.2.1, y) :: ps, .cons ⟨rfl, rfl, ry⟩ r, by rw [List.length_cons, List.length_cons, hl], by rw [List.map_cons, List.map_cons, hm], fun x hx => ?_, fun j q eq => ?_⟩
    · rcases List.mem_cons.mp hx with rfl | hx
      · exact dn_is I h2 h3
      · exact hk x hx
    · cases j with
      | zero =>
        have e' : (e.1, e.2.1, y) = q := Option.some.inj eq
        subst e'
        obtain ⟨o, ho, hc, n, hd⟩ := ht
        exact ⟨p, rfl, o, ho, hc, n, hd⟩
      | succ j =>
        obtain ⟨b, e1, e2⟩ := hp j q (by simpa using eq)
        exact ⟨b, by simpa using e1, e2⟩
theorem call_dictN {X : Cx} (hu : X.A.units + 64 < cLine) (hcalm : X.calm = true) (hP : X.prog = WD.P) (hw : X.w = WD.w) : CallR X (.type "dict") (rDictN X.K) := by
  intro pins s σ H xs us Q I r q
  obtain ⟨a, ts, es, rfl, hq, hp, hnd, q⟩ := q
  obtain ⟨u, rfl, rx⟩ := vals1 r
  cases rx
  obtain ⟨its, rv, pl, hz⟩ := I.list hq
  obtain rfl := refs_at rv
  rw [List.length_map] at hz
  obtain ⟨ps, rel, hl, hm, hk, hpr⟩ := pairs_ofN I hp
  obtain ⟨o, n, ho, hc, hd, hdat⟩ := pl
  have hmod : (s.heap.objs.size == sysModules) = false := beq_eq_false_iff_ne.mpr (Nat.ne_of_gt I.big)
  have hnd' : (([] ++ ps).map (fun x : Ent => x.1)).Nodup := by rw [List.nil_append, hm]; exact hnd
  rw [modelW hP hw]
  have hpl : (ps.map fun x : Ent => (Value.ref x.2.1, x.2.2)).length = ts.length := by rw [List.length_map, hl]
  refine call_dict_pairsH (knd := nestedKind WD.P WD.w) (ps := ps) (PairArg.list a (ts.map Value.ref).toArray (fun j => ts.getD j 0) (ps.map fun x => (Value.ref x.2.1, x.2.2))) (I.ok.hd hcalm) (show X.A.in1.in1.units + 8 < cLine from by show X.A.units + 1 + 1 + 8 < cLine; omega)
    ⟨⟨o, n, ho, hc, hd, hdat⟩, ⟨by rw [hpl]; simp, fun j k v e => ?_⟩⟩ ⟨by rw [hpl, hl], fun i key v e => ?_⟩ (fun h' hk' x hx => nestedKind_stays.stays (fun b ob vs m e _ => hk' b ob (Nat.ne_of_lt (Heap.lt_size e)) (fun z => nomatch z) e) (hk x hx)) (by rw [hpl]; exact hz) fun h' tk hd' hkk => ?_
  · rw [List.getElem?_map] at e
    obtain ⟨x, ex, e2⟩ := Option.map_eq_some_iff.mp e
    cases e2
    obtain ⟨b, e1, e2⟩ := hpr j x ex
    have eb : ts.getD j 0 = b := by rw [List.getD_eq_getElem?_getD, e1]; rfl
    refine ⟨?_, .inl ?_⟩
    · rw [List.getElem?_toArray, List.getElem?_map, e1]
      show some (Value.ref b) = some (Value.ref (ts.getD j 0))
      rw [eb]
    · show s.heap.IsTuple (ts.getD j 0) _
      rw [eb]; exact e2
  · have e : (ps.map fun x : Ent => (Value.ref x.2.1, x.2.2))[i]? = some (key, v) := e
    rw [List.getElem?_map] at e
    obtain ⟨x, ex, e2⟩ := Option.map_eq_some_iff.mp e
    cases e2
    exact ⟨x.1, x.2.1, ex, rfl⟩
  · rw [storedAllH_new ps [] hnd', List.nil_append] at hd'
    have hps : ps.length ≤ sizeLine := by rw [hl]; exact hz
    exact ⟨.ref s.heap.objs.size, upd H s.heap.objs.size (DkN s.heap.objs.size ps), I.laid (t' := tk) (fun b ob e => hkk b ob (fun z => nomatch z) e) (Nat.le_refl _) (dn_new hmod hps hd' fun x hx => (hk x hx).2), rfl, q _ ps (I.hok.fresh (Nat.le_refl _)) rel⟩
def rDictNL (K : PySem.W.Frag) : List V → Hp → VK → Prop := fun xs H Q => rDictN K xs H (lockN Q)
theorem kDictNL {X : Cx} (K : PySem.W.Frag) (hu : X.A.units + 64 < cLine) (hc : X.calm = true) (hK : X.K = K := by rfl) (hP : X.prog = WD.P := by rfl) (hw : X.w = WD.w := by rfl) : CallR X (.type "dict") (rDictNL K) := by subst hK; exact call_lockN (call_dictN hu hc hP hw)
def pairsN : List Pd → Option (List (NestedKey × Pd × Pd))
  | [] => some []
  | .tuple [kd, d] :: r => (match keyM true kd, pairsN r with
    | some k, some rr => some ((k, kd, d) :: rr)
    | _, _ => none)
  | _ => none
theorem pairsN_ok {K : PySem.W.Frag} {Hf H : Hp} (e : Ex Hf H) : ∀ {vs : List V} {ps : List Pd} {kvs : List (NestedKey × Pd × Pd)}, RDs K Hf vs ps → pairsN ps = some kvs →
    ∃ (ts : List Addr) (es : List (NestedKey × Addr × V)), vs = ts.map V.ref ∧ Paired (fun p e => SqT K H p [.ref e.2.1, e.2.2] ∧ NkIs K H e.1 (.ref e.2.1) ∧ e.1.depth ≤ 8) ts es ∧ es.map (·.1) = kvs.map (·.1) ∧
      ∀ ps' : List Ent, Paired (fun e x => x.1 = e.1 ∧ x.2.1 = e.2.1 ∧ RelV e.2.2 x.2.2) es ps' → RNs K Hf ps' (kvs.map fun p => (p.2.1, p.2.2))
  | _, _, _, .nil, h => by
    cases h
    exact ⟨[], [], rfl, .nil, rfl, fun ps' r => by cases r; exact .nil⟩
  | _, _, kvs, .cons (v := v) (vs := vs) (d := d) (ds := ds) r rs, h => by
    cases r with
    | tup hs hr =>
      rename_i a xs es
      cases hr with
      | nil => simp [pairsN] at h
      | cons r1 r2 =>
        cases r2 with
        | nil => simp [pairsN] at h
        | cons r2 r3 =>
          cases r3 with
          | cons _ _ => simp [pairsN] at h
          | nil =>
            rename_i kv kd vv vd
            simp only [pairsN] at h
            split at h
            · rename_i k rr hk hrr
              cases h
              obtain ⟨ts, es, rfl, hp, hm, hk2⟩ := pairsN_ok e rs hrr
              have hN := keyM_keyN hk
              have hdat := keyN_data hN
              have h8 : k.depth ≤ 8 := by
                unfold keyM at hk
                rw [if_pos rfl] at hk
                cases kd with
                | tuple us =>
                  simp only [hN] at hk
                  split at hk
                  · rename_i h8; exact h8
                  · cases hk
                | _ => cases hk
              have hb : ∃ b, kv = .ref b := by
                unfold keyM at hk
                rw [if_pos rfl] at hk
                cases kd with
                | tuple us => cases r1; exact ⟨_, rfl⟩
                | _ => cases hk
              obtain ⟨b, rfl⟩ := hb
              refine ⟨a :: ts, (k, b, vv) :: es, rfl, .cons ⟨ex_t e hs.sq, rd_nk e (by rw [hdat]; exact r1), h8⟩ hp, by simp [hm], fun ps' rp => ?_⟩
              cases rp with
              | cons q1 q2 =>
                rename_i x ps2
                obtain ⟨x1, x2, x3⟩ := x
                obtain ⟨e1, e2, e3⟩ := q1
                simp only at e1 e2 e3
                subst e1 e2
                exact .cons r1 hdat e3 r2 (hk2 _ q2)
            · cases h
    | _ => simp [pairsN] at h
def dictND : List Pd → Option Pd
  | [.list ps] => match pairsN ps with
    | some kvs => if (kvs.map (·.1)).Nodup then some (ndD (kvs.map fun p => (p.2.1, p.2.2))) else none
    | none => none
  | _ => none
theorem rc_dictN {K : PySem.W.Frag} : RCall K (rDictNL K) dictND := by
  intro Hf H vs xs z e hs h Q q
  unfold dictND at h
  split at h
  · rename_i ps
    split at h
    · rename_i kvs hk
      split at h
      · rename_i hnd
        cases h
        obtain ⟨v, rfl, hv⟩ := hs.one
        obtain ⟨l, us, rfl, t, r⟩ := hv.list e
        obtain ⟨ts, es, rfl, hp, hm, hr⟩ := pairsN_ok e r hk
        refine ⟨l, ts, es, rfl, t, hp, by rw [hm]; exact hnd, fun p ps' np rel => ?_⟩
        refine ⟨p, ps', rfl, upd_same, fun o => ?_⟩
        rw [upd_twice]
        have g := Pg.new (o := .frz o (DkN p ps')) e np
        exact q _ _ _ g (.dcn upd_same ((hr ps' rel).mono g.ef))
      · cases h
    · cases h
  · cases h
def tLockNS (i : Nat) (t : TS) : TS := fun D σ H => (∃ a xs, σ[i]? = some (some (.ref a)) ∧ H a = some (DkN a xs) ∧ ∀ o, t D σ (upd H a (.frz o (DkN a xs)))) ∨ t D σ H
theorem ps_lockNS {X : Cx} {st : Stmt} {t : TS} {i : Nat} (hs : PS X st t) : PS X st (tLockNS i t) := ⟨fun pins s σ H D I h => by
  rcases h with ⟨a, xs, h1, h2, h3⟩ | h
  · obtain ⟨od, I2⟩ := I.lock h2 True.intro
    exact hs.run pins s σ _ D I2 (h3 od)
  · exact hs.run pins s σ H D I h⟩
def frzND (i : Nat) (ρ : Rho) : Rho := match ρ[i]? with
  | some (.m false (.dct true ds)) => ρ.set i (.d (ndD ds))
  | _ => ρ
theorem SR.frzND {K : PySem.W.Frag} {Hf H : Hp} {O : Addr → Prop} {σ : L2.St} {ρ : Rho} (s : SR K Hf H O σ ρ) (i : Nat) : (∃ l kvs, σ[i]? = some (some (.ref l)) ∧ H l = some (DkN l kvs) ∧ ∀ ob, ∃ Hf' O', SR K Hf' (upd H l (.frz ob (DkN l kvs))) O' σ (Dt.frzND i ρ) ∧ Gr O Hf H Hf' (upd H l (.frz ob (DkN l kvs))) ∧ Orl O H O' ∧ Kp ρ (Dt.frzND i ρ)) ∨ Dt.frzND i ρ = ρ := by
  unfold Dt.frzND
  split
  · rename_i ds e
    have hi := (List.getElem?_eq_some_iff.mp e).1
    obtain ⟨v, fp, q1, q2, q3, q4, q5⟩ := s.putM e
    cases q2 with
    | @dn l kvs _ h r =>
      have hO : O l := q4 l (by simp)
      have hf := (s.otr l hO).2
      refine .inl ⟨l, kvs, q1, h, fun ob => ?_⟩
      have ex' : Ex (upd Hf l (.frz ob (DkN l kvs))) (upd H l (.frz ob (DkN l kvs))) := fun a u ha => by
        by_cases z : a = l
        · subst z; rw [upd_same] at ha ⊢; exact ha
        · rw [upd_ne z] at ha ⊢; exact s.ex a u ha
      have s1 := q5 (upd Hf l (.frz ob (DkN l kvs))) (upd H l (.frz ob (DkN l kvs))) (fun a => O a ∧ a ≠ l) (.dat (ndD ds)) [] (Ex.new hf) ex' (fun a ha => ⟨by rw [upd_ne ha.2]; exact (s.otr a ha.1).1, by rw [upd_ne ha.2]; exact (s.otr a ha.1).2⟩) (fun a u _ na hu => by rw [upd_ne (fun z => na (by simp [z]))]; exact hu) (fun a ha na => ⟨ha, fun z => na (by simp [z])⟩)
        (.dat (.dcn upd_same (RNs.mono (Ex.new hf) r))) (by simp) (fun a ha => by cases ha)
      refine ⟨upd Hf l (.frz ob (DkN l kvs)), fun a => O a ∧ a ≠ l, ?_, ⟨Ex.new hf, fun a u h2 no => by
        rw [upd_ne (fun z => no (by rw [z]; exact hO))]; exact h2, fun a o h2 => by
        by_cases z : a = l
        · subst z; exact ⟨_, upd_same⟩
        · exact ⟨o, by rw [upd_ne z]; exact h2⟩, fun a o h => ?_⟩, fun a h => .inl h.1, ?_⟩
      · have s2 := s1.putD (i := i) (v := .ref l) (x := ndD ds) (by simpa using hi) (.dcn upd_same (RNs.mono (Ex.new hf) r))
        rw [List.set_set] at s2
        have : σ.set i (some (.ref l)) = σ := by
          apply List.ext_getElem?
          intro j
          by_cases z : i = j
          · subst z; rw [List.getElem?_set_self (by rw [s.len]; exact hi)]; exact q1.symm
          · rw [List.getElem?_set_ne z]
        rwa [this] at s2
      · by_cases z : a = l
        · subst z; exact .inr (.inr hO)
        · rw [upd_ne z] at h; exact .inl h
      · refine ⟨fun j xs q => ?_, fun j o q => ?_⟩
        · have z : i ≠ j := fun z => by rw [z, q] at e; cases e
          exact ⟨xs, by rw [List.getElem?_set_ne z]; exact q⟩
        · have z : i ≠ j := fun z => by rw [z, q] at e; cases e
          exact ⟨o, by rw [List.getElem?_set_ne z]; exact q⟩
  · exact .inr rfl
section
variable {Z : Zx} {W : WX}
end
end Dt
namespace Dt
open PySem PySem.Spec L2 Evl PyProof.Rows
variable [WD]
section
variable {Z : Zx} {W : WX}
def fDisp2 (g1 h1 g2 h2 : Rho → Option Pd) : Rho → R AV := fun ρ => match g1 ρ, h1 ρ, g2 ρ, h2 ρ with
  | some k1, some v1, some k2, some v2 => (match keyD k1, keyD k2 with
    | some a, some b => if a = b then .bad else .ok (.d (.dict [(k1, v1), (k2, v2)])) ρ
    | _, _ => .bad)
  | _, _, _, _ => .bad
theorem d_disp2 {t1 u1 t2 u2 : TE} {g1 h1 g2 h2 : Rho → Option Pd} (k1 : DK Z t1 g1) (v1 : DK Z u1 h1) (k2 : DK Z t2 g2) (v2 : DK Z u2 h2) : DE Z W (tLockD (tDisp [(t1, u1), (t2, u2)])) (fDisp2 g1 h1 g2 h2) := by
  intro Hf H O σ ρ s Q p q nq
  unfold fDisp2 at p
  cases e1 : g1 ρ with
  | none => rw [e1] at p; exact p.elim
  | some d1 =>
  cases e2 : h1 ρ with
  | none => rw [e1, e2] at p; exact p.elim
  | some x1 =>
  cases e3 : g2 ρ with
  | none => rw [e1, e2, e3] at p; exact p.elim
  | some d2 =>
  cases e4 : h2 ρ with
  | none => rw [e1, e2, e3, e4] at p; exact p.elim
  | some x2 =>
  rw [e1, e2, e3, e4] at p
  simp only at p
  cases f1 : keyD d1 with
  | none => rw [f1] at p; exact p.elim
  | some a =>
  cases f2 : keyD d2 with
  | none => rw [f1, f2] at p; exact p.elim
  | some b =>
  rw [f1, f2] at p
  simp only at p
  by_cases hab : a = b
  · rw [if_pos hab] at p; exact p.elim
  rw [if_neg hab] at p
  have no : ¬ O q := fun z => by
    obtain ⟨⟨o, t⟩, _⟩ := s.otr q z
    rw [nq] at t; cases t
  have g0 := Pg.lay (o := .dK []) s.ex nq
  have fq0 := fresh_back s.ex nq
  refine k1 _ _ O σ ρ _ (s.grow g0) e1 _ fun w1 Hf1 H1 p1 r1 => ?_
  have s1 := (s.grow g0).grow p1
  refine v1 _ _ O σ ρ _ s1 e2 _ fun w2 Hf2 H2 p2 r2 => ?_
  have s2 := s1.grow p2
  refine k2 _ _ O σ ρ _ s2 e3 _ fun w3 Hf3 H3 p3 r3 => ?_
  have s3 := s2.grow p3
  refine v2 _ _ O σ ρ _ s3 e4 _ fun w4 Hf4 H4 p4 r4 => ?_
  have s4 := s3.grow p4
  have pp := ((p1.trans p2).trans p3).trans p4
  have hq4 : H4 q = some (.dK []) := pp.eh _ _ upd_same
  have gg := g0.gr (O := O) |>.trans pp.gr
  have fq4 : Hf4 q = none := pp.gr.stays upd_same fq0 no
  obtain ⟨rfl, rfl⟩ := keyD_ok r1 f1
  obtain ⟨rfl, rfl⟩ := keyD_ok r3 f2
  refine ⟨hq4, [(a, w2), (b, w4)], rfl, by simp, q, [(a, w2), (b, w4)], rfl, ?_, fun o => ?_⟩
  · rw [upd_same, merge_new [(a, w2), (b, w4)] [] (by simpa using hab)]; rfl
  · rw [upd_twice]
    have sA := s4.other (o' := .frz o (.dK [(a, w2), (b, w4)])) hq4 fq4 no
    have sB := sA.freeze upd_same fq4 no
    refine p _ _ sB ⟨gg.ex.trans (Ex.new fq4), (gg.upd nq).fm, (gg.upd nq).tr, fun c o h => ?_⟩ Kp.refl _ (.dct upd_same (.cons (RD.mono (Ex.new fq4) (RD.mono (p3.trans p4).ef r2)) (.cons (RD.mono (Ex.new fq4) r4) .nil)))
    by_cases z : c = q
    · subst z; exact .inr (.inl nq)
    · rw [upd_ne z] at h; exact gg.nw c o h
end
def tNSetd (K : PySem.W.Frag) (td ty tx : TE) : TE := fun σ H Q => td σ H fun x H1 => ∃ a, x = .ref a ∧ (∃ xs, RdN H1 a xs) ∧ ty σ H1 fun y H2 => tx σ H2 fun z H3 => ∃ b xs k, y = .ref b ∧ NGet K H3 a y xs k ∧ H3 a = some (DkN a xs) ∧ xs.length < sizeLine ∧
  ((xs.map (·.1)).Nodup → (∀ p, atKey xs k = some p → ∃ v, RelV v p.2 ∧ Q v H3) ∧ (atKey xs k = none → ∀ r, RelV z r → Q z (upd H3 a (DkN a (storedH xs k b r)))))
section
variable {X : Cx} {o e f : Expr} {apos cpos : Pos} {td ty tx : TE}
theorem pe_nsetd (K : PySem.W.Frag) (hu : X.A.units + 9 < cLine) (ho : PE X o td) (he : PE X e ty) (hf : PE X f tx) (m : M2 X o "setdefault" apos e f cpos) (hK : X.K = K := by rfl) (hP : X.prog = WD.P := by rfl) (hw : X.w = WD.w := by rfl) : PE X (.Call (.Attribute o "setdefault" apos) [e, f] [] cpos) (tNSetd K td ty tx) := by
  subst hK
  refine ⟨fun pins s σ H Q I h => ?_⟩
  refine wpAny_Call_method m.base m.few m.line PySem.F.plainAttrs_dict PySem.F.slot_dict_setdefault PySem.F.type_dict_setdefault (thn (ho.run pins s σ H _ I h) fun u s1 ⟨x, H1, I1, rx, a, ex, ⟨xs1, d⟩, q1⟩ => ?_)
  subst ex
  obtain rfl : u = Value.ref a := rx
  obtain ⟨⟨_, _, _, _, ob, es, ep, h5, h6, _⟩, _, _⟩ := rdn_ok I1 d
  refine ⟨⟨ob, h5, h6.1⟩, fun b q => by cases q; exact ⟨ob, h5, h6.2.1⟩, ?_⟩
  rw [m.trees]
  refine Calls.callWith_builtin rfl (Calls.evalArgs_plain (Calls.spliced_cons (thn (he.run pins s1 σ H1 _ I1 q1) fun iv s2 ⟨y, H2, I2, ry, q2⟩ =>
    Calls.spliced_cons (thn (hf.run pins s2 σ H2 _ I2 q2) fun fv s3 ⟨z, H3, I3, rz, b, xs, k, ey, g, e0, hl, qyn⟩ => Calls.spliced_nil ?_))))
  subst ey
  obtain rfl : iv = Value.ref b := ry
  rw [modelW hP hw]
  obtain ⟨e, ks, _, hk, hd⟩ := g
  obtain ⟨hs, hz, dd, hall⟩ := dn_of I3 e ks
  have hnd : (xs.map (·.1)).Nodup := by obtain ⟨_, _, _, _, _, _, _, _, hn⟩ := dd; exact hn
  obtain ⟨qy, qn⟩ := qyn hnd
  refine call_setdefault_heap (hsz := hz) (show X.A.in1.units + 8 < cLine from by show X.A.units + 1 + 8 < cLine; omega) (dn_is I3 hk hd) hs dd (fun p hp => ?_) fun hn h' hm' sb => ?_
  · obtain ⟨v, rv, q⟩ := qy p hp
    exact ⟨v, H3, I3.tok _, rv, q⟩
  · refine ⟨z, _, I3.write (x := a) (e := a) (by rw [e0]; exact True.intro) (.inl rfl) (fun c q hb z => (sb.2 c hb).trans z) (by obtain ⟨o, _, _, q, _⟩ := hm'; exact ⟨o, q⟩) ?_, rz, qn hn fv rz⟩
    refine dn_new hs ?_ hm' (storedH_depth hall hd)
    have := storedH_length xs k b fv
    omega
end
section
variable {Z : Zx} {W : WX}
def kSetdN (i : Nat) (a b : AV) (ρ : Rho) : R AV := match a, b, ρ[i]? with
  | .d kd, .d x, some (.m io (.dct true ds)) => (match keyM true kd with
    | some k => if ds.length < sizeLine then (match getN ds k with
      | some d => .ok (.d d) ρ
      | none => .ok (.d x) (ρ.set i (.m io (.dct true (putN ds kd k x))))) else .bad
    | none => .bad)
  | _, _, _ => .bad
def isDN (i : Nat) (ρ : Rho) : Bool := match ρ[i]? with
  | some (.m _ (.dct true _)) => true
  | _ => false
def fSetdN (i : Nat) (fk fx : Rho → R AV) : Rho → R AV := fun ρ => if isDN i ρ = true then (fk ρ).bind fun a ρ1 => (fx ρ1).bind fun b ρ2 => kSetdN i a b ρ2 else .bad
theorem d_setdN {i : Nat} {tk tx : TE} {fk fx : Rho → R AV} (hk : DE Z W tk fk) (hx : DE Z W tx fx) : DE Z W (tNSetd Z.K (tVar i) tk tx) (fSetdN i fk fx) := by
  intro Hf H O σ ρ s Q p
  unfold fSetdN at p
  by_cases hc : isDN i ρ = true
  case neg => rw [if_neg hc] at p; exact p.elim
  rw [if_pos hc] at p
  unfold isDN at hc
  cases e0 : ρ[i]? with
  | none => rw [e0] at hc; cases hc
  | some z0 =>
  rw [e0] at hc
  cases z0 with
  | m io0 o0 =>
    cases o0 with
    | dct n0 ds0 =>
      cases n0 with
      | false => cases hc
      | true =>
        obtain ⟨v0, fp0, q1, q2, _⟩ := s.putM e0
        cases q2 with
        | @dn l xs0 _ h0 r0 =>
          refine ⟨.ref l, q1, l, rfl, ⟨xs0, .inl h0⟩, ?_⟩
          refine hk.bind s p fun a ρ1 y Hf1 H1 s1 g1 k1 ry p1 => ?_
          refine hx.bind s1 p1 fun b ρ2 z Hf2 H2 s2 g2 k2 rz p2 => ?_
          unfold kSetdN at p2
          cases a with
          | sl j => exact p2.elim
          | d kd =>
          cases b with
          | sl j => exact p2.elim
          | d xd =>
          cases e1 : ρ2[i]? with
          | none => rw [e1] at p2; exact p2.elim
          | some z1 =>
          rw [e1] at p2
          cases z1 with
          | m io o1 =>
            cases o1 with
            | dct n1 ds =>
              cases n1 with
              | false => exact p2.elim
              | true =>
                simp only at p2
                cases e3 : keyM true kd with
                | none => rw [e3] at p2; exact p2.elim
                | some k =>
                  rw [e3] at p2
                  simp only at p2
                  by_cases hz : ds.length < sizeLine
                  case neg => rw [if_neg hz] at p2; exact p2.elim
                  rw [if_pos hz] at p2
                  obtain ⟨v1, fp1, t1, t2, t3, t4, t5⟩ := s2.putM e1
                  rw [q1] at t1
                  cases t1
                  cases t2 with
                  | @dn _ xs _ h r =>
                    have ry2 : RD Z.K Hf2 y kd := RD.mono g2.ex (show RD Z.K Hf1 y kd from ry)
                    obtain ⟨ng, hd, bb, rfl⟩ := nget_of (Z := Z) s2.ex (.inl h) r ry2 e3
                    refine ⟨bb, xs, k, rfl, ng, h, by rw [r.length]; exact hz, fun _ => ⟨fun pp hpp => ?_, fun hn u ru => ?_⟩⟩
                    · rcases r.at (k := k) with ⟨_, h2⟩ | ⟨d, pp', v, h1, h2, h3, h4⟩
                      · rw [h2] at hpp; cases hpp
                      · rw [h2] at hpp
                        cases hpp
                        rw [h1] at p2
                        exact ⟨v, h3, p2 Hf2 H2 s2 Gr.refl Kp.refl v h4⟩
                    · rcases r.at (k := k) with ⟨h1, _⟩ | ⟨d, pp', v, h1, h2, h3, h4⟩
                      · rw [h1] at p2
                        have hO : O l := t4 l (by simp)
                        have r2 := r.put (b := bb) (k := k) (kd := kd) (v := z) (r := u) ry2 hd ru (show RD Z.K Hf2 z xd from rz)
                        have hsl : Pl.put ⟨i, none⟩ (.dct true (putN ds kd k xd)) ρ2 = ρ2.set i (.m io (.dct true (putN ds kd k xd))) := by
                          unfold Pl.put
                          rw [show ρ2[(⟨i, none⟩ : Pl).i]? = some (.m io (.dct true ds)) from e1]
                        refine p2 Hf2 _ (t5 Hf2 _ O _ [l] (Ex.refl _) (ex_upd s2 (Pg.refl s2.ex) hO) (otr_upd s2 (Pg.refl s2.ex)) (fun a u _ na hu => by rw [upd_ne (fun z => na (by simp [z]))]; exact hu) (fun _ h _ => h) (.dn upd_same r2) (by simp) (fun a ha => by
                          obtain rfl : a = l := by simpa using ha
                          exact ⟨hO, .inl (by simp)⟩)) (Gr.refl.chg hO) (kp_putM e1) z rz
                      · rw [h2] at hn; cases hn
            | _ => exact p2.elim
          | _ => exact p2.elim
    | _ => cases hc
  | _ => cases hc
end
end Dt
namespace Dt
open PySem PySem.Spec L2 Evl PyProof.Rows
section
variable {prog : Program} {w : World} {A : Around} {E : Value → Shared → Prop} {s : Shared}
end
variable [WD]
end Dt
namespace Dt
open PySem PySem.Spec L2 Evl PyProof.Rows
variable [WD]
section
variable {prog : Program} {w : World} {A : Around} {E : Value → Shared → Prop} {s : Shared}
set_option maxHeartbeats 3200000 in
theorem call_set_strsT {l : Addr} {its : Array Value} {zs : List Str} {Q : Value → Shared → Prop} (hh : A.handled = none) (hl : s.heap.IsTuple l its) (hi : PyProof.Rows.StrsAre its.toList zs) (hb : zs.length ≤ 1000)
    (k : ∀ (h2 : Heap) (tk : Nat), h2.SetOf (PySem.strKind prog w) s.heap.objs.size (fun q => (zs.take its.size).any (· == q)) (newN zs its.size) → (∀ b o, b < s.heap.objs.size → s.heap.get? b = some o → h2.get? b = some o) →
      Q (.ref s.heap.objs.size) { s with heap := h2, toks := tk }) : wpAny (model prog w) A (call (.type "set") [.ref l]) Q E s := by
  obtain ⟨_, _, f0⟩ := PySem.F.called_set.mro
  have f1 := PySem.F.called_set.made
  have f2 := PySem.F.called_set.sub
  refine wpAny_call (codeAny_of_tree ?_)
  show wpAny _ _ (callAny (.type "set") _) _ _ _
  refine wpAny_pure ⟨Code.quiet_builtin _ (by decide +kernel), codeAny_builtin PySem.F.entry_type_call ?_⟩
  rw [Around.under_plain (weight_type_call_type "set" [.ref l] []) rfl]
  have f3 := PySem.F.called_set.notType
  have f4 := PySem.F.called_set.canCreate
  have f5 := PySem.F.typeCall_set_1 (.ref l)
  repeat (any_goals (first | assumption | wp_step))
  refine codeAny_mono (code_set_new_1 (.ref l) (E := E) (Q₁ := fun z s1 => ∃ led : Bool, z = .ref s.heap.objs.size ∧ s1 = { s with heap := s.heap.push (nSet led) }) fun led => ⟨led, rfl, rfl⟩) fun r s1 hr => ?_
  cases r with
  | error e => exact hr
  | ok fl =>
    cases fl with
    | ret z =>
      obtain ⟨led, rfl, rfl⟩ := hr
      have hS : (s.heap.push (nSet led)).get? s.heap.objs.size = some (nSet led) := Heap.get?_push_size _ rfl
      have hT : Shared.TypeIs { s with heap := s.heap.push (nSet led) } (.ref s.heap.objs.size) "set" := ⟨_, hS, rfl⟩
      have f6 := PySem.F.called_set.init.lookup
      have f7 := PySem.F.called_set.init.bind (.ref s.heap.objs.size)
      repeat (any_goals (first | assumption | wp_step))
      refine codeAny_mono (codeAny_call_builtin (R := wants (fun r s3 => r = .none ∧ ∃ h2 tk, s3 = { s with heap := h2, toks := tk } ∧
          h2.SetOf (PySem.strKind prog w) s.heap.objs.size (fun q => (zs.take its.size).any (· == q)) (newN zs its.size) ∧ (∀ b o, b < s.heap.objs.size → s.heap.get? b = some o → h2.get? b = some o)) E)
          PySem.F.called_set.init.plain PySem.F.entry_set_init (check_set_init_1 hT ?_)) fun r2 s2 hr2 => ?_
      · obtain ⟨⟨oc, od, ox, os⟩, ho, hc, n0, hd⟩ := hl
        simp only at hc hd
        subst hc
        subst hd
        have ho2 : (s.heap.push (nSet led)).get? l = some ⟨.type "tuple", od, .seq its n0, os⟩ := Heap.get?_push_of_some _ ho
        have g1 := PySem.F.sub_tuple_set
        have g2 := PySem.F.sub_tuple_frozenset
        have g3 : (Value.type "tuple" == Value.type "dict") = false := by decide
        have hl2 : (s.heap.push (nSet led)).IsTuple l its := ⟨_, ho2, rfl, n0, rfl⟩
        unfold Builtin.«set.__init__» noKeywords Builtin.Frozenset.updateFrom
        generalize hp : pyIter = pI
        wp_walk
        subst hp
        refine wpAny_pyIter_tuple hl2 (wpAny_bind (wpAny_runValue ?_))
        have hlt : l < s.heap.objs.size := Heap.lt_size ho
        have hh3 : A.in1.in1.in1.handled = none := by simp [hh]
        have ne : l ≠ (s.heap.push (nSet led)).objs.size := by
          rw [Heap.size_push]
          exact Nat.ne_of_lt (Nat.lt_succ_of_lt hlt)
        have nf : s.heap.objs.size ∉ [(s.heap.push (nSet led)).objs.size, l] := by
          rw [Heap.size_push]
          simp only [List.mem_cons, List.not_mem_nil, or_false, not_or]
          exact ⟨Nat.ne_of_lt (Nat.lt_succ_self _), Nat.ne_of_gt hlt⟩
        have hz : zs.length = its.size := by rw [← StrsAre.len_eq hi, Array.length_toList]
        refine strs_loop ((Walks.tuple hh3 _ l ne its).toS) s.heap.objs.size nf zs hz (by rw [← hz]; exact hb)
          (fun i v h => SS.strs_at hi i v (by rw [Array.getElem?_toList]; exact h)) (its.size - 0) 0 _ (by omega) (Nat.zero_le _) ⟨⟨_, Heap.get?_push_size _ rfl, rfl, rfl⟩, hl2.push _⟩ ?_ ?_
        · refine SetOf_congr ((setObjOf_fresh (knd := PySem.strKind prog w) led).setOf (h := (s.heap.push (nSet led)).push { cls := .type "tuple_iterator", data := .fields #[.ref l, .int 0 0] }) (Heap.get?_push_of_some _ hS) (by unfold scanBound; omega)) (fun _ => rfl) rfl
        · intro s4 mv hS4
          obtain ⟨h4, g4, d4, t4, o4⟩ := s4
          obtain rfl : g4 = s.gens := mv.gens
          obtain rfl : d4 = s.drawn := mv.drawn
          obtain rfl : o4 = s.os := mv.os
          show wpAny _ _ _ _ _ _
          refine wpAny_pure ?_
          show wpAny _ _ (ret Value.none) _ _ _
          refine wpAny_pure ⟨rfl, h4, t4, rfl, hS4, fun b o lb e => ?_⟩
          refine mv.heap b o ?_ (Heap.get?_push_of_some _ (Heap.get?_push_of_some _ e))
          simp only [List.mem_cons, List.not_mem_nil, or_false, not_or]
          exact ⟨Nat.ne_of_lt lb, by rw [Heap.size_push]; exact Nat.ne_of_lt (Nat.lt_succ_of_lt lb)⟩
      · cases r2 with
        | error e => exact hr2
        | ok fl2 =>
          cases fl2 with
          | ret r =>
            obtain ⟨rfl, h2, tk, rfl, hS2, hk2⟩ := hr2
            repeat (any_goals (first | assumption | wp_step))
            exact k _ _ hS2 hk2
          | _ => exact hr2.elim
    | _ => exact hr.elim
end
def rLenSetTu (K : PySem.W.Frag) : V → Hp → VK → Prop := fun x H Q => ∃ l, ∃ zs : List Str, x = .ref l ∧ SqT K H l (zs.map V.str) ∧ zs.length ≤ 1000 ∧ Q (.int (newN zs zs.length)) H
theorem pe_lenSetTu {X : Cx} {a : Expr} {ta : TE} {p p2 q pos : Pos} (K : PySem.W.Frag) (hc : X.calm = true) (hg : Gl X "len") (hm : X.mg "len" = none) (hg2 : Gl X "set") (hm2 : X.mg "set" = none) (ha : PE X a ta)
    (na : starEach [a] X.env = (false, eval a X.env) :: starEach [] X.env := by rfl) (hK : X.K = K := by rfl) : PE X (.Call (.Name "len" p) [.Call (.Name "set" p2) [a] [] q] [] pos) (tUn (rLenSetTu K) ta) := by
  subst hK
  refine ⟨fun pins s σ H Q I h => PyProof.Rows.Call_ (ld_blt I hg hm boot_len ?_)⟩
  refine PyProof.Rows.callWith_builtin1 (PyProof.Rows.args_cons (PyProof.Rows.Call_ (ld_blt I hg2 hm2 PyProof.Rows.boot_set ?_)) rfl) rfl rfl
  refine PyProof.Rows.callWith_type1 (PyProof.Rows.args_cons (thn (ha.run pins s σ H _ I h) fun v s1 ⟨x, H1, I1, r1, q1⟩ => PyProof.Rows.args_nil ?_) na) na rfl
  obtain ⟨l, zs, rfl, sq, hl, q2⟩ := q1
  cases r1
  obtain ⟨its, r, pl, _⟩ := I1.tuple sq
  have pl2 : s1.heap.IsTuple l its.toArray := by
    obtain ⟨o, ho, hc, n, hd⟩ := pl
    exact ⟨o, ho, hc, n, hd⟩
  have hn : its.toArray.size = zs.length := by rw [List.size_toArray, ← r.length, List.length_map]
  refine call_set_strsT (I1.ok.hd hc) pl2 (zs := zs) (by simpa using strsAre_of r) hl fun h2 tk hS hk => ?_
  rw [hn] at hS
  have le := newN_le zs zs.length
  obtain ⟨o, es, ep, t, ho, ox, od, _, _, _, hf, hz⟩ := hS
  have J : Inv X pins σ H1 { s1 with heap := h2, toks := tk } := I1.kept fun b o e => hk b o (Heap.lt_size e) e
  exact PyProof.Rows.args_nil (call_len_set ho ox od hf (by rw [hz] <;> omega) ⟨.int (newN zs zs.length), H1, J.tok _, ⟨_, by rw [hz]⟩, q2⟩)
def lenSetTu : Pd → Option Pd
  | .tuple xs => match strsD xs with
    | some zs => if zs.length ≤ 1000 then some (.int (newN zs zs.length)) else none
    | none => none
  | _ => none
theorem ru_lenSetTu {K : PySem.W.Frag} : RUn K (rLenSetTu K) lenSetTu := by
  intro Hf H x dx z e hx h Q q
  unfold lenSetTu at h
  split at h
  · split at h
    · rename_i zs ez
      split at h
      · cases h
        obtain ⟨l, us, rfl, _, t, r⟩ := hx.tuple e
        obtain rfl := strs_ok r ez
        exact ⟨l, zs, rfl, t, by assumption, q _ Hf H (Pg.refl e) (.int _)⟩
      · cases h
    · cases h
  · cases h
end Dt
namespace Dt
open PySem PySem.Spec L2 Evl PyProof.Rows
variable [WD]
section
variable {Z : Zx} {W : WX}
def fNewDL : Rho → R Mo := fun ρ => .ok (.dcl []) ρ
theorem m_newDL : DM Z W tNewN fNewDL := by
  intro Hf H O σ ρ s Q p q nq
  have g := Pg.lay (o := DkN q []) s.ex nq
  exact p _ _ (s.grow g) g.gr Kp.refl _ ⟨[q], .dl upd_same .nil, by simp, fun a ha => by
    obtain rfl : a = q := by simpa using ha
    exact ⟨nq, fresh_back s.ex nq, _, upd_same⟩⟩
end
def getL (ds : List (Pd × List Pd)) (k : NestedKey) : Option (List Pd) := (ds.find? fun p => decide (keyN p.1 = some k)).map (·.2)
def appL (ds : List (Pd × List Pd)) (kd : Pd) (k : NestedKey) (y : Pd) : List (Pd × List Pd) := if (getL ds k).isSome = true then ds.map (fun p => if keyN p.1 = some k then (p.1, p.2 ++ [y]) else p) else ds ++ [(kd, [y])]
section
variable {K : PySem.W.Frag} {Hf H : Hp}
theorem RLs.length : ∀ {xs : List Ent} {ds : List (Pd × List Pd)} {fp : List Addr}, RLs K Hf H xs ds fp → xs.length = ds.length
  | _, _, _, .nil => rfl
  | _, _, _, .cons _ _ _ _ hs => congrArg Nat.succ (RLs.length hs)
theorem RLs.keys (e : Ex Hf H) : ∀ {xs : List Ent} {ds : List (Pd × List Pd)} {fp : List Addr}, RLs K Hf H xs ds fp → KsN K H xs
  | _, _, _, .nil => fun x hx => by cases hx
  | _, _, _, .cons hk ek _ _ hs => fun x hx => by
    rcases List.mem_cons.mp hx with rfl | hx
    · exact rd_nk e (by rw [ek]; exact hk)
    · exact RLs.keys e hs x hx
omit [WD] in
theorem getL_pos {p : Pd × List Pd} {ds : List (Pd × List Pd)} {k : NestedKey} (h : keyN p.1 = some k) : getL (p :: ds) k = some p.2 := by simp [getL, List.find?_cons, h]
omit [WD] in
theorem getL_neg {p : Pd × List Pd} {ds : List (Pd × List Pd)} {k : NestedKey} (h : keyN p.1 ≠ some k) : getL (p :: ds) k = getL ds k := by simp [getL, List.find?_cons, h]
theorem RLs.at {k : NestedKey} : ∀ {xs : List Ent} {ds : List (Pd × List Pd)} {fp : List Addr}, RLs K Hf H xs ds fp → (getL ds k = none ∧ atKey xs k = none) ∨ ∃ ys b a vs, getL ds k = some ys ∧ atKey xs k = some (b, .ref a) ∧ a ∈ fp ∧ H a = some (.lst vs) ∧ RDs K Hf vs ys
  | _, _, _, .nil => .inl ⟨rfl, rfl⟩
  | _, _, _, .cons (k := j) (b := b) (a := a) (vs := vs) (kd := kd) (ys := ys) (xs := xs) (ds := ds) hk ek ha hv hs => by
    have hj : keyN kd = some j := by rw [← ek]; exact keyN_of j
    by_cases z : j = k
    · subst z
      exact .inr ⟨ys, b, a, vs, getL_pos hj, by simp [atKey], by simp, ha, hv⟩
    · have h1 : getL ((kd, ys) :: ds) k = getL ds k := getL_neg fun y => z (by rw [hj] at y; exact Option.some.inj y)
      have h2 : atKey ((j, b, Value.ref a) :: xs) k = atKey xs k := by simp [atKey, List.find?_cons, z]
      rw [h1, h2]
      rcases RLs.at (k := k) hs with h | ⟨ys, b, a, vs, q1, q2, q3, q4, q5⟩
      · exact .inl h
      · exact .inr ⟨ys, b, a, vs, q1, q2, List.mem_cons_of_mem _ q3, q4, q5⟩
theorem RLs.app {Hf' H' : Hp} (e : Ex Hf Hf') {k : NestedKey} {a0 : Addr} {v : V} {y : Pd} (rv : RD K Hf' v y) : ∀ {xs : List Ent} {ds : List (Pd × List Pd)} {fp : List Addr}, RLs K Hf H xs ds fp → fp.Nodup → (xs.map (·.1)).Nodup → (∀ b, atKey xs k = some (b, .ref a0) → True) → (∃ b, atKey xs k = some (b, .ref a0)) →
    (∀ a ∈ fp, a ≠ a0 → ∀ u, H a = some u → H' a = some u) → (∀ vs, H a0 = some (.lst vs) → H' a0 = some (.lst (vs ++ [v]))) → RLs K Hf' H' xs (ds.map fun p => if keyN p.1 = some k then (p.1, p.2 ++ [y]) else p) fp
  | _, _, _, .nil, _, _, _, ⟨b, h⟩, _, _ => by cases h
  | _, _, _, .cons (k := j) (b := b) (a := a) (vs := vs) (kd := kd) (ys := ys) (xs := xs) (ds := ds) (fp := fp) hk ek ha hv hs, nd, nk, _, ⟨b', h⟩, h1, h2 => by
    have hj : keyN kd = some j := by rw [← ek]; exact keyN_of j
    rw [List.nodup_cons] at nd
    rw [List.map_cons, List.nodup_cons] at nk
    rw [List.map_cons]
    by_cases z : j = k
    · subst z
      have h' : (b, Value.ref a) = (b', Value.ref a0) := by simpa [atKey] using h
      cases h'
      rw [if_pos hj]
      have hrest : ds.map (fun p => if keyN p.1 = some j then (p.1, p.2 ++ [y]) else p) = ds := by
        have : ∀ {xs : List Ent} {ds : List (Pd × List Pd)} {fp : List Addr}, RLs K Hf H xs ds fp → j ∉ xs.map (·.1) → ds.map (fun p => if keyN p.1 = some j then (p.1, p.2 ++ [y]) else p) = ds := by
          intro xs ds fp h hn
          induction h with
          | nil => rfl
          | @cons j' b1 a1 vs1 kd1 ys1 xs1 ds1 fp1 hk1 ek1 ha1 hv1 hs1 ih =>
            have hj1 : keyN kd1 = some j' := by rw [← ek1]; exact keyN_of j'
            rw [List.map_cons] at hn
            rw [List.map_cons, if_neg (fun w => hn (by rw [hj1] at w; rw [← Option.some.inj w]; exact List.mem_cons_self)), ih fun w => hn (List.mem_cons_of_mem _ w)]
        exact this hs nk.1
      rw [hrest]
      exact .cons (hk.mono e) ek (h2 vs ha) ((hv.mono e).append (.cons rv .nil)) (hs.mono e fun c hc u hu => h1 c (List.mem_cons_of_mem _ hc) (fun w => nd.1 (w ▸ hc)) u hu)
    · rw [if_neg (fun w => z (by rw [hj] at w; exact Option.some.inj w))]
      have hx : atKey xs k = some (b', .ref a0) := by simpa [atKey, List.find?_cons, z] using h
      have ha0 : a ≠ a0 := fun w => by
        rcases RLs.at (k := k) hs with ⟨_, q⟩ | ⟨_, _, c, _, _, q2, q3, _⟩
        · rw [hx] at q; cases q
        · rw [hx] at q2
          cases q2
          exact nd.1 (w ▸ q3)
      exact .cons (hk.mono e) ek (h1 a (by simp) ha0 _ ha) (hv.mono e) (RLs.app e rv hs nd.2 nk.2 (fun _ _ => trivial) ⟨b', hx⟩ (fun c hc => h1 c (List.mem_cons_of_mem _ hc)) h2)
theorem RLs.snoc {k : NestedKey} {b a : Addr} {vs : List V} {kd : Pd} {ys : List Pd} (hk : RD K Hf (.ref b) kd) (ek : k.data = kd) (ha : H a = some (.lst vs)) (hv : RDs K Hf vs ys) : ∀ {xs : List Ent} {ds : List (Pd × List Pd)} {fp : List Addr}, RLs K Hf H xs ds fp → RLs K Hf H (xs ++ [(k, b, .ref a)]) (ds ++ [(kd, ys)]) (fp ++ [a])
  | _, _, _, .nil => .cons hk ek ha hv .nil
  | _, _, _, .cons h1 h2 h3 h4 hs => .cons h1 h2 h3 h4 (RLs.snoc hk ek ha hv hs)
end
section
variable {Z : Zx} {W : WX}
def fSdApp (i : Nat) (gk : Rho → Option Pd) (j : Nat) : Rho → R Fl := fun ρ => match ρ[i]?, gk ρ, ρ[j]? with
  | some (.m b (.dcl ds)), some kd, some (.d y) => (match keyM true kd with
    | some k => if ds.length < sizeLine ∧ ((getL ds k).getD []).length < sizeLine then .ok .nx (ρ.set i (.m b (.dcl (appL ds kd k y)))) else .bad
    | none => .bad)
  | _, _, _ => .bad
theorem s_sdApp {i j : Nat} {tk : TE} {gk : Rho → Option Pd} (hk : DK Z tk gk) : DS Z W (tDrop (tBM Z.K "list" rAppend (tNSetd Z.K (tVar i) tk (tLst tNil)) (tCons (tVar j) tNil))) (fSdApp i gk j) := by
  intro Hf H O σ ρ s En q
  unfold fSdApp at q
  cases e0 : ρ[i]? with
  | none => rw [e0] at q; exact q.elim
  | some z0 =>
  rw [e0] at q
  cases z0 with
  | m io o0 =>
    cases o0 with
    | dcl ds =>
      cases e1 : gk ρ with
      | none => rw [e1] at q; exact q.elim
      | some kd =>
      cases e2 : ρ[j]? with
      | none => rw [e1, e2] at q; exact q.elim
      | some yz =>
      rw [e1, e2] at q
      obtain ⟨y, rfl⟩ : ∃ y, yz = .d y := by
        cases yz with
        | d y => exact ⟨y, rfl⟩
        | _ => exact q.elim
      simp only at q
      cases e3 : keyM true kd with
      | none => rw [e3] at q; exact q.elim
      | some k =>
      rw [e3] at q
      simp only at q
      split at q
      case isFalse => exact q.elim
      rename_i hz
      obtain ⟨v, hv1, hv2⟩ := s.slot j y e2
      obtain ⟨v0, fp, q1, q2, q3, q4, q5⟩ := s.putM e0
      cases q2 with
      | @dl l xs _ fp h r =>
        rw [List.nodup_cons] at q3
        have hO : O l := q4 l (by simp)
        have hOf : ∀ a ∈ fp, O a := fun a ha => q4 a (List.mem_cons_of_mem _ ha)
        refine ⟨.ref l, q1, l, rfl, ⟨xs, .inl h⟩, ?_⟩
        refine hk Hf H O σ ρ kd s e1 _ fun yv Hf1 H1 g1 ry => ?_
        have s1 := s.grow g1
        refine ⟨by simp, fun p np => ?_⟩
        have g2 := Pg.lay (o := .lst []) s1.ex np
        have g12 := g1.trans g2
        have s2 := s1.grow g2
        have hl2 : upd H1 p (.lst []) l = some (DkN l xs) := g12.eh _ _ h
        have r2 := r.mono g12.ef fun a ha u hu => g12.eh a u hu
        have ry2 : RD Z.K Hf1 yv kd := ry
        have rv : RD Z.K Hf1 v y := hv2.mono g12.ef
        have hNG : NGet Z.K (upd H1 p (.lst [])) l yv xs k ∧ k.data = kd ∧ ∃ b, yv = .ref b := by
          have hN := keyM_keyN e3
          have hd := keyN_data hN
          unfold keyM at e3
          rw [if_pos rfl] at e3
          cases kd with
          | tuple us =>
            simp only [hN] at e3
            split at e3
            · rename_i h8
              have hb : ∃ b, yv = .ref b := by cases ry2; exact ⟨_, rfl⟩
              exact ⟨⟨.inl hl2, r2.keys s2.ex, hb, rd_nk s2.ex (by rw [hd]; exact ry2), h8⟩, hd, hb⟩
            · cases e3
          | _ => cases e3
        obtain ⟨ng, hd, b, rfl⟩ := hNG
        refine ⟨b, xs, k, rfl, ng, hl2, by rw [r.length]; exact hz.1, fun nk => ⟨fun pp hpp => ?_, fun hn u ru => ?_⟩⟩
        · rcases r2.at (k := k) with ⟨_, h2⟩ | ⟨ys, b', a, vs, h1, h2, h3, h4, h5⟩
          · rw [h2] at hpp; cases hpp
          · rw [h2] at hpp
            cases hpp
            refine ⟨.ref a, rfl, .inl ⟨rfl, vs, .inl (.inl h4)⟩, v, hv1, ?_⟩
            rw [h1] at hz
            refine ⟨a, vs, v, rfl, rfl, h4, by rw [h5.length]; exact hz.2, ?_⟩
            have hap : appL ds kd k y = ds.map (fun p => if keyN p.1 = some k then (p.1, p.2 ++ [y]) else p) := by unfold appL; rw [h1]; rfl
            rw [hap] at q
            have hOa : O a := hOf a h3
            have hla : l ≠ a := fun z => q3.1 (by rw [z]; exact h3)
            have r4 := r2.app (H' := upd (upd H1 p (.lst [])) a (.lst (vs ++ [v]))) (Ex.refl Hf1) (k := k) (a0 := a) rv q3.2 nk (fun _ _ => trivial) ⟨b', h2⟩ (fun c _ hca u hu => by rw [upd_ne hca]; exact hu) (fun vs' hv' => by
              rw [h4] at hv'
              cases hv'
              exact upd_same)
            have s3 := q5 Hf1 (upd (upd H1 p (.lst [])) a (.lst (vs ++ [v]))) O _ (l :: fp) g12.ef (ex_upd s g12 hOa) (otr_upd s g12) (fun c u _ na hu => by rw [upd_ne (fun z => na (by rw [z]; exact List.mem_cons_of_mem _ h3))]; exact g12.eh c u hu) (fun _ h _ => h)
              (.dl (by rw [upd_ne hla]; exact hl2) r4) (List.nodup_cons.mpr q3) (fun c hc => ⟨q4 c hc, .inl hc⟩)
            exact q Hf1 _ O σ s3 (g12.gr.chg hOa) Orl.refl (kp_putM e0).kq
        · rcases r2.at (k := k) with ⟨h1, h2⟩ | ⟨ys, b', a, vs, h1, h2, h3, h4, h5⟩
          · cases ru
            have hlp : l ≠ p := fun z => by
              have := g1.eh _ _ h
              rw [z, np] at this
              cases this
            have sto : storedH xs k b (.ref p) = xs ++ [(k, b, .ref p)] := storedH_new h2 b (.ref p)
            rw [sto]
            have hH3p : upd (upd H1 p (.lst [])) l (DkN l (xs ++ [(k, b, .ref p)])) p = some (.lst []) := by rw [upd_ne (fun z => hlp z.symm), upd_same]
            refine ⟨.inl ⟨rfl, [], .inl (.inl hH3p)⟩, v, hv1, p, [], v, rfl, rfl, hH3p, by simp [sizeLine], ?_⟩
            have npO : ¬ O p := fun z => by
              obtain ⟨⟨o, t⟩, _⟩ := (s.grow g1).otr p z
              rw [np] at t; cases t
            have nfp : p ∉ fp := fun z => npO (hOf p z)
            have fqp : Hf1 p = none := fresh_back s1.ex np
            have np0 : H p = none := fresh_back g1.eh np
            have hap : appL ds kd k y = ds ++ [(kd, [y])] := by unfold appL; rw [h1]; rfl
            rw [hap] at q
            have hl5 : upd (upd (upd H1 p (.lst [])) l (DkN l (xs ++ [(k, b, .ref p)]))) p (.lst ([] ++ [v])) l = some (DkN l (xs ++ [(k, b, .ref p)])) := by rw [upd_ne hlp, upd_same]
            have keep : ∀ c u, c ≠ l → c ≠ p → upd H1 p (.lst []) c = some u → upd (upd (upd H1 p (.lst [])) l (DkN l (xs ++ [(k, b, .ref p)]))) p (.lst ([] ++ [v])) c = some u := fun c u hcl hcp hu => by
              rw [upd_ne hcp, upd_ne hcl]; exact hu
            have rA : RLs Z.K Hf1 (upd (upd (upd H1 p (.lst [])) l (DkN l (xs ++ [(k, b, .ref p)]))) p (.lst ([] ++ [v]))) (xs ++ [(k, b, .ref p)]) (ds ++ [(kd, [y])]) (fp ++ [p]) :=
              RLs.snoc ry2 hd upd_same (.cons rv .nil) (r2.mono (Ex.refl _) fun c hc u hu => keep c u (fun z => q3.1 (by rw [← z]; exact hc)) (fun z => nfp (by rw [← z]; exact hc)) hu)
            have s3 := q5 Hf1 _ (fun c => O c ∨ c = p) (.dcl (ds ++ [(kd, [y])])) (l :: (fp ++ [p])) g12.ef (fun c u hu => by
                have hcp : c ≠ p := ne_of_none hu fqp
                have hcl : c ≠ l := ne_of_none hu (s1.otr l hO).2
                exact keep c u hcl hcp (g12.ex c u hu)) (fun c hc => by
                rcases hc with hc | rfl
                · obtain ⟨⟨u, t1⟩, t2⟩ := s2.otr c hc
                  refine ⟨?_, t2⟩
                  by_cases z1 : c = p
                  · exact ⟨_, by rw [z1]; exact upd_same⟩
                  · by_cases z2 : c = l
                    · exact ⟨_, by rw [z2]; exact hl5⟩
                    · exact ⟨u, keep c u z2 z1 t1⟩
                · exact ⟨⟨_, upd_same⟩, fqp⟩) (fun c u hc na hu => by
                have hcp : c ≠ p := fun z => npO (z ▸ hc)
                exact keep c u (fun z => na (by simp [z])) hcp (g12.eh c u hu)) (fun c hc _ => .inl hc) (.dl hl5 rA) (List.nodup_cons.mpr ⟨fun z => by
                rcases List.mem_append.mp z with z | z
                · exact q3.1 z
                · exact hlp (List.mem_singleton.mp z), List.nodup_append.mpr ⟨q3.2, by simp, fun c hc d hd' e => nfp (by rw [List.mem_singleton.mp hd'] at e; rw [← e]; exact hc)⟩⟩) (fun c hc => by
                rcases List.mem_cons.mp hc with rfl | hc
                · exact ⟨.inl hO, .inl (by simp)⟩
                · rcases List.mem_append.mp hc with hc | hc
                  · exact ⟨.inl (hOf c hc), .inl (List.mem_cons_of_mem _ hc)⟩
                  · rw [List.mem_singleton.mp hc]; exact ⟨.inr rfl, .inr npO⟩)
            exact q Hf1 _ _ σ s3 ((g12.gr.chg hO).upd np0) (fun c hc => hc.imp id fun z => by rw [z]; exact np0) (kp_putM e0).kq
          · rw [h2] at hn; cases hn
    | _ => exact q.elim
  | _ => exact q.elim
end
def frzDL (i : Nat) (ρ : Rho) : Rho := match ρ[i]? with
  | some (.m false (.dcl ds)) => ρ.set i (.d (ndD (ds.map fun p => (p.1, .list p.2))))
  | _ => ρ
open Classical in
noncomputable def hfL (Hf H : Hp) (fp : List Addr) (l : Addr) (o : HO) : Hp := fun a => if a = l then some o else if a ∈ fp then H a else Hf a
theorem RLs.frz {K : PySem.W.Frag} {Hf H Hf' : Hp} (e : Ex Hf Hf') : ∀ {xs : List Ent} {ds : List (Pd × List Pd)} {fp : List Addr}, RLs K Hf H xs ds fp → (∀ a ∈ fp, ∀ vs, H a = some (.lst vs) → Hf' a = some (.lst vs)) → RNs K Hf' xs (ds.map fun p => (p.1, PyData.list p.2))
  | _, _, _, .nil, _ => .nil
  | _, _, _, .cons (a := a) hk ek ha hv hs, k => .cons (v := .ref a) (hk.mono e) ek (show RelV (.ref a) (Value.ref a) from rfl) (.lst (sq_of (k _ (by simp) _ ha)) (hv.mono e)) (RLs.frz e hs fun a h => k a (List.mem_cons_of_mem _ h))
theorem SR.frzDL {K : PySem.W.Frag} {Hf H : Hp} {O : Addr → Prop} {σ : L2.St} {ρ : Rho} (s : SR K Hf H O σ ρ) (i : Nat) : (∃ l kvs, σ[i]? = some (some (.ref l)) ∧ H l = some (DkN l kvs) ∧ ∀ ob, ∃ Hf' O', SR K Hf' (upd H l (.frz ob (DkN l kvs))) O' σ (Dt.frzDL i ρ) ∧ Gr O Hf H Hf' (upd H l (.frz ob (DkN l kvs))) ∧ Orl O H O' ∧ Kp ρ (Dt.frzDL i ρ)) ∨ Dt.frzDL i ρ = ρ := by
  unfold Dt.frzDL
  split
  · rename_i ds e
    have hi := (List.getElem?_eq_some_iff.mp e).1
    obtain ⟨v, fp0, q1, q2, q3, q4, q5⟩ := s.putM e
    cases q2 with
    | @dl l kvs _ fp h r =>
      rw [List.nodup_cons] at q3
      have hO : O l := q4 l (by simp)
      have hOf : ∀ a ∈ fp, O a := fun a ha => q4 a (List.mem_cons_of_mem _ ha)
      refine .inl ⟨l, kvs, q1, h, fun ob => ?_⟩
      have hf : ∀ a, O a → Hf a = none := fun a ha => (s.otr a ha).2
      have ex1 : Ex Hf (hfL Hf H fp l (.frz ob (DkN l kvs))) := fun a u ha => by
        unfold hfL
        rw [if_neg (fun z => by rw [z, hf l hO] at ha; cases ha), if_neg (fun z => by rw [hf a (hOf a z)] at ha; cases ha)]
        exact ha
      have ex2 : Ex (hfL Hf H fp l (.frz ob (DkN l kvs))) (upd H l (.frz ob (DkN l kvs))) := fun a u ha => by
        unfold hfL at ha
        by_cases z : a = l
        · rw [if_pos z] at ha; rw [z, upd_same]; exact ha
        · rw [if_neg z] at ha
          rw [upd_ne z]
          by_cases z2 : a ∈ fp
          · rw [if_pos z2] at ha; exact ha
          · rw [if_neg z2] at ha; exact s.ex a u ha
      have rr : RNs K (hfL Hf H fp l (.frz ob (DkN l kvs))) kvs (ds.map fun p => (p.1, PyData.list p.2)) := r.frz ex1 fun a ha vs hvs => by
        unfold hfL
        rw [if_neg (fun z => q3.1 (by rw [← z]; exact ha)), if_pos ha]
        exact hvs
      have hfl : hfL Hf H fp l (.frz ob (DkN l kvs)) l = some (.frz ob (DkN l kvs)) := if_pos rfl
      have s1 := q5 (hfL Hf H fp l (.frz ob (DkN l kvs))) (upd H l (.frz ob (DkN l kvs))) (fun a => O a ∧ a ∉ l :: fp) (.dat (ndD (ds.map fun p => (p.1, .list p.2)))) [] ex1 ex2 (fun a ha => by
          have h1 : a ≠ l := fun z => ha.2 (by simp [z])
          have h2 : a ∉ fp := fun z => ha.2 (List.mem_cons_of_mem _ z)
          refine ⟨by rw [upd_ne h1]; exact (s.otr a ha.1).1, ?_⟩
          unfold hfL
          rw [if_neg h1, if_neg h2]
          exact (s.otr a ha.1).2) (fun a u _ na hu => by rw [upd_ne (fun z => na (by simp [z]))]; exact hu) (fun a ha na => ⟨ha, na⟩)
        (.dat (.dcn hfl rr)) (by simp) (fun a ha => by cases ha)
      refine ⟨hfL Hf H fp l (.frz ob (DkN l kvs)), fun a => O a ∧ a ∉ l :: fp, ?_, ⟨ex1, fun a u h2 no => by
        rw [upd_ne (fun z => no (by rw [z]; exact hO))]; exact h2, fun a o h2 => by
        by_cases z : a = l
        · subst z; exact ⟨_, upd_same⟩
        · exact ⟨o, by rw [upd_ne z]; exact h2⟩, fun a o h => ?_⟩, fun a h => .inl h.1, ?_⟩
      · have s2 := s1.putD (i := i) (v := .ref l) (x := ndD (ds.map fun p => (p.1, .list p.2))) (by simpa using hi) (.dcn hfl rr)
        rw [List.set_set] at s2
        have : σ.set i (some (.ref l)) = σ := by
          apply List.ext_getElem?
          intro j
          by_cases z : i = j
          · subst z; rw [List.getElem?_set_self (by rw [s.len]; exact hi)]; exact q1.symm
          · rw [List.getElem?_set_ne z]
        rwa [this] at s2
      · unfold hfL at h
        by_cases z : a = l
        · subst z; exact .inr (.inr hO)
        · rw [if_neg z] at h
          by_cases z2 : a ∈ fp
          · exact .inr (.inr (hOf a z2))
          · rw [if_neg z2] at h; exact .inl h
      · refine ⟨fun j xs q => ?_, fun j o q => ?_⟩
        · have z : i ≠ j := fun z => by rw [z, q] at e; cases e
          exact ⟨xs, by rw [List.getElem?_set_ne z]; exact q⟩
        · have z : i ≠ j := fun z => by rw [z, q] at e; cases e
          exact ⟨o, by rw [List.getElem?_set_ne z]; exact q⟩
  · exact .inr rfl
def fFrzDL (i : Nat) (f : Rho → R Fl) : Rho → R Fl := fun ρ => f (frzDL i ρ)
section
variable {Z : Zx} {W : WX}
theorem s_frzDL (i : Nat) {t : TS} {f : Rho → R Fl} (h : DS Z W t f) : DS Z W (tLockNS i t) (fFrzDL i f) := by
  intro Hf H O σ ρ s En p
  rcases s.frzDL i with ⟨l, kvs, h1, h2, h3⟩ | he
  · refine .inl ⟨l, kvs, h1, h2, fun ob => ?_⟩
    obtain ⟨Hf', O', s', g', o', k'⟩ := h3 ob
    exact h Hf' _ O' σ _ s' En (PostS.shift p g' o' k'.kq)
  · refine .inr (h Hf H O σ ρ s En ?_)
    have p : PostS Z W O σ ρ Hf H En (f (Dt.frzDL i ρ)) := p
    rwa [he] at p
end
end Dt
namespace Dt
open PySem PySem.Spec L2 Evl PyProof.Rows
variable [WD]
section
variable {Z : Zx} {W : WX}
end
section
variable {X : Cx} {o e f : Expr} {apos cpos : Pos} {td ty tx : TE}
end
section
variable {Z : Zx} {W : WX}
end
end Dt
namespace Dt
open PySem PySem.Spec L2 Evl
variable [WD]
section
variable {Z : Zx} {W : WX}
def kCallTT (g : Rho → R RV) (ps qs : List Pd) (o : Option (List Pd)) (ρ1 : Rho) : R AV := match o with
  | some xs => match g (.own true ps :: .own true qs :: xs.map Sl.d) with
    | .ok (.d x) _ => .ok (.d x) ρ1
    | .ex e _ => .ex e ρ1
    | _ => .bad
  | none => .bad
def fCallTT (n : Nat) (g : Rho → R RV) (fl fm : Rho → R (List Pd)) (fa : Rho → R (List AV)) : Rho → R AV := fun ρ => (fl ρ).bind fun ps ρ1 => (fm ρ1).bind fun qs ρ2 => (fa ρ2).bind fun as ρ3 => kCallTT g ps qs (argsD n as) ρ3
end
section
variable {n : Nat} {ρ : Rho}
omit [WD] in
@[simp] theorem fCallTT_ap {g : Rho → R RV} {fl fm : Rho → R (List Pd)} {fa : Rho → R (List AV)} : fCallTT n g fl fm fa ρ = (fl ρ).bind fun ps ρ1 => (fm ρ1).bind fun qs ρ2 => (fa ρ2).bind fun as ρ3 => kCallTT g ps qs (argsD n as) ρ3 := rfl
omit [WD] in
@[simp] theorem kCallTT_some {g : Rho → R RV} {ps qs xs : List Pd} : kCallTT g ps qs (some xs) ρ = (match g (.own true ps :: .own true qs :: xs.map Sl.d) with
    | .ok (.d x) _ => .ok (.d x) ρ
    | .ex e _ => .ex e ρ
    | _ => .bad) := rfl
end
end Dt
namespace Dt
open PySem PySem.Spec L2 Evl
variable [WD]
end Dt
namespace Dt
open PySem PySem.Spec L2 Evl PyProof.Rows
end Dt
namespace Lw
open PySem PySem.Spec L2 Evl Dt
def raisedC : List Str := ["NoOrder", "NoWord"]
def testedC : List Str := ["LadderError", "NoBook", "NoCall", "NoForm", "NoKept", "NoNumber", "NoOrder", "NoTelling", "NoText", "NoWeights", "NoWord", "TooMany"]
def caughtC : List Str := ["LadderError"]
def upC : List (Str × Str) := [("NoOrder", "NoOrder"), ("NoOrder", "LadderError"), ("NoOrder", "ValueError"), ("NoWord", "NoWord"), ("NoWord", "LadderError"), ("NoWord", "ValueError")]
def sb (c : Str) : Str → Option Bool := sbG raisedC upC c
def topS (i : Nat) : Stmt := PySem.Challenge.pw_wishladder_k53_words_that_are_none.main.body.getD i (.Pass ⟨0, 0, 0, 0⟩)
abbrev st__law_take : Stmt := topS 55
abbrev N__law_take : List Str := ["_law_pack_here", "_law_size", "_law_digit"]
theorem sc__law_take : FnScope N__law_take ["_law_pack_here", "_law_size"] (defScope st__law_take) := ⟨rfl, rfl, rfl, by decide +kernel, rfl, by decide +kernel, by decide +kernel⟩
def w__law_take : Rho → R Fl :=
  (fSeq (fTake 0 2 (fVar 1))
  (fRet (fVar 2)))
def m__law_take : Rho → R RV := gOf 3 w__law_take
abbrev st__law_names : Stmt := topS 56
abbrev N__law_names : List Str := ["_law_pack_here", "_law_amount", "_law_letters", "_law_turn", "_law_pick", "_law_size", "_law_k"]
theorem sc__law_names : FnScope N__law_names ["_law_pack_here", "_law_amount"] (defScope st__law_names) := ⟨rfl, rfl, rfl, by decide +kernel, rfl, by decide +kernel, by decide +kernel⟩
def ce__law_names_2 : Rho → R AV :=
  (f2 addD (fSl slD (fVar 2) (fPart (fC (.int 5))) (fPart (f2 addD (fC (.int 5)) (fVar 5)))) (f2 ixD (fVar 2) (fVar 6)))
def ce__law_names_1 : Rho → R AV :=
  (f2 addD (f2 ixD (fVar 2) (fVar 6)) (fSl slD (fVar 2) (fPart (fC (.int 5))) (fPart (f2 addD (fC (.int 5)) (f2 modD (f2 addD (fVar 5) (f2 mulC (fC (.int 3)) (fVar 6))) (fC (.int 8)))))))
def ce__law_names_0 : Rho → R AV :=
  (f2 mulC (f2 ixD (fVar 2) (fC (.int 0))) (f2 addD (fC (.int 1)) (f2 modD (f2 addD (fVar 5) (fVar 6)) (fC (.int 8)))))
def w__law_names : Rho → R Fl :=
  (fSeq (fAsg (fC (.str "abcdefghijklmnopqrstuvwxyz")) (put 2))
  (fSeq (fAsg (fCallP 1 0 m__law_take (fCons (fC (.int 26)) fNil)) (put 3))
  (fSeq (fAsg (f2 addD (fSl slD (fVar 2) (fPart (fVar 3)) fNoPart) (fSl slD (fVar 2) fNoPart (fPart (fVar 3)))) (put 2))
  (fSeq (fAsg (fCallP 1 0 m__law_take (fCons (fC (.int 3)) fNil)) (put 4))
  (fSeq (fAsg (fCallP 1 0 m__law_take (fCons (fC (.int 8)) fNil)) (put 5))
  (fSeq (fIfS (fTest (f2 eqD (fVar 4) (fC (.int 0)))) (fRetL (fLc (fRng1 (fCons (fVar 1) fNil)) (put 6) (fun ρ => .ok true ρ) ce__law_names_0 [6])) fNx)
  (fSeq (fIfS (fTest (f2 eqD (fVar 4) (fC (.int 1)))) (fRetL (fLc (fRng1 (fCons (fVar 1) fNil)) (put 6) (fun ρ => .ok true ρ) ce__law_names_1 [6])) fNx)
  (fRetL (fLc (fRng1 (fCons (fVar 1) fNil)) (put 6) (fun ρ => .ok true ρ) ce__law_names_2 [6])))))))))
def m__law_names : Rho → R RV := gOf 7 w__law_names
abbrev st__law_set : Stmt := topS 57
abbrev N__law_set : List Str := ["_law_pack_here", "_law_signs", "_law_number", "_law_k"]
theorem sc__law_set : FnScope N__law_set ["_law_pack_here", "_law_signs"] (defScope st__law_set) := ⟨rfl, rfl, rfl, by decide +kernel, rfl, by decide +kernel, by decide +kernel⟩
def ct__law_set_0 : Rho → R Bool :=
  (fTest (f2 eqD (f2 modD (f2 fdivD (fVar 2) (f2 shlD (fC (.int 1)) (fVar 3))) (fC (.int 2))) (fC (.int 1))))
def ce__law_set_0 : Rho → R AV :=
  (f2 ixD (fVar 1) (fVar 3))
def w__law_set : Rho → R Fl :=
  (fSeq (fAsg (f2 addD (fC (.int 1)) (fCallP 1 0 m__law_take (fCons (f2 subD (f2 shlD (fC (.int 1)) (fCB lenD (fCons (fVar 1) fNil))) (fC (.int 1))) fNil))) (put 2))
  (fRet (fM1 joinD (fC (.str "")) (fL (fLc (fRng1 (fCons (fCB lenD (fCons (fVar 1) fNil)) fNil)) (put 3) ct__law_set_0 ce__law_set_0 [3])))))
def m__law_set : Rho → R RV := gOf 4 w__law_set
abbrev st__law_pattern : Stmt := topS 58
abbrev N__law_pattern : List Str := ["_law_pack_here", "_law_signs", "_law_kind"]
theorem sc__law_pattern : FnScope N__law_pattern ["_law_pack_here", "_law_signs"] (defScope st__law_pattern) := ⟨rfl, rfl, rfl, by decide +kernel, rfl, by decide +kernel, by decide +kernel⟩
def w__law_pattern : Rho → R Fl :=
  (fSeq (fAsg (f2 ixD (fL (fLst (fCons (fC (.str "sign")) (fCons (fC (.str "drop")) (fCons (fC (.str "add")) (fCons (fC (.str "change")) (fCons (fC (.str "beside")) (fCons (fC (.str "beside")) fNil)))))))) (fCallP 1 0 m__law_take (fCons (fC (.int 6)) fNil))) (put 2))
  (fSeq (fIfS (fTest (f2 eqD (fVar 2) (fC (.str "beside")))) (fRet (fTup (fCons (fVar 2) (fCons (fCallP 1 0 m__law_set (fCons (f2 addD (fC (.str "#")) (fVar 1)) fNil)) (fCons (fCallP 1 0 m__law_set (fCons (f2 addD (fC (.str "#")) (fVar 1)) fNil)) fNil))))) fNx)
  (fSeq (fIfS (fTest (f2 eqD (fVar 2) (fC (.str "change")))) (fRet (fTup (fCons (fVar 2) (fCons (fCallP 1 0 m__law_set (fCons (fVar 1) fNil)) (fCons (fCallP 1 0 m__law_set (fCons (fVar 1) fNil)) fNil))))) fNx)
  (fRet (fTup (fCons (fVar 2) (fCons (fCallP 1 0 m__law_set (fCons (fVar 1) fNil)) fNil)))))))
def m__law_pattern : Rho → R RV := gOf 3 w__law_pattern
abbrev st__law_code : Stmt := topS 59
abbrev N__law_code : List Str := ["_law_pack_here", "_law_most", "_law_signs", "_law_names_here", "_law_whole", "_law_wishes", "_law_name", "_law_patterns", "_law_turn", "_law_little"]
theorem sc__law_code : FnScope N__law_code ["_law_pack_here", "_law_most"] (defScope st__law_code) := ⟨rfl, rfl, rfl, by decide +kernel, rfl, by decide +kernel, by decide +kernel⟩
def fb__law_code_1 : Rho → R Fl :=
  (fApp 7 (fTup (fCons (fCallP 1 0 m__law_pattern (fCons (fVar 2) fNil)) (fCons (f2 addD (fC (.int 1)) (f2 fdivD (fCallP 1 0 m__law_take (fCons (fC (.int 6)) fNil)) (fC (.int 4)))) fNil))))
def fb__law_code_0 : Rho → R Fl :=
  (fSeq (fSetO (fLst fNil) 7)
  (fSeq (fFor (fRng1 (fCons (f2 addD (fC (.int 1)) (f2 fdivD (fCallP 1 0 m__law_take (fCons (fC (.int 6)) fNil)) (fC (.int 3)))) fNil)) (put 8) fb__law_code_1)
  (fApp 5 (fTup (fCons (fVar 6) (fCons (fCB tupleA (fCons (fOwn 7) fNil)) fNil))))))
def w__law_code : Rho → R Fl :=
  (fSeq (fAsg (f2 ixD (fL (fLst (fCons (fC (.str "a")) (fCons (fC (.str "ab")) (fCons (fC (.str "ab")) (fCons (fC (.str "abc")) (fCons (fC (.str "mz")) (fCons (fC (.str "bxy")) fNil)))))))) (fCallP 1 0 m__law_take (fCons (fC (.int 6)) fNil))) (put 2))
  (fSeq (fAsg (fL (fCallPL 1 0 m__law_names (fCons (f2 addD (fC (.int 1)) (fCallP 1 0 m__law_take (fCons (fVar 1) fNil))) fNil))) (put 3))
  (fSeq (fAsg (fCallP 1 0 m__law_take (fCons (fC (.int 3)) fNil)) (put 4))
  (fSeq (fSetO (fLst fNil) 5)
  (fSeq (fFor (fItL (fVar 3)) (put 6) fb__law_code_0)
  (fSeq (fIfS (fAnd (fTest (f2 gtD (fVar 4) (fC (.int 0)))) (fTest (f2 gtD (fCB lenD (fCons (fOwn 5) fNil)) (fC (.int 1))))) (fSeq (fAsg (fTup (fCons (fTup (fCons (fTup (fCons (fC (.str "drop")) (fCons (fVar 2) fNil))) (fCons (fC (.int 1)) fNil))) (fCons (fTup (fCons (fTup (fCons (fC (.str "add")) (fCons (fVar 2) fNil))) (fCons (fC (.int 1)) fNil))) (fCons (fTup (fCons (fTup (fCons (fC (.str "change")) (fCons (fVar 2) (fCons (fVar 2) fNil)))) (fCons (fC (.int 1)) fNil))) fNil)))) (put 9))
  (fSetI 5 (fTup (fCons (f2 ixD (f2 ixD (fOwn 5) (f1 negD (fC (.int 1)))) (fC (.int 0))) (fCons (fSl slD (fVar 9) fNoPart (fPart (f2 addD (fVar 4) (fC (.int 1))))) fNil))) (f1 negD (fC (.int 1))))) fNx)
  (fRet (fTup (fCons (fVar 2) (fCons (fCB tupleA (fCons (fOwn 5) fNil)) fNil))))))))))
def m__law_code : Rho → R RV := gOf 10 w__law_code
abbrev st__law_mixed : Stmt := topS 53
abbrev N__law_mixed : List Str := ["_law_cell"]
theorem sc__law_mixed : FnScope N__law_mixed ["_law_cell"] (defScope st__law_mixed) := ⟨rfl, rfl, rfl, by decide +kernel, rfl, by decide +kernel, by decide +kernel⟩
def w__law_mixed : Rho → R Fl :=
  (fRet (f2 modD (f2 mulC (fVar 0) (fC (.int 915965594177219015054603514932384110774149374281672134266497))) (f2 powD (fC (.int 10)) (fC (.int 60)))))
def m__law_mixed : Rho → R RV := gOf 1 w__law_mixed
abbrev st__law_pack : Stmt := topS 54
abbrev N__law_pack : List Str := ["_law_script", "_law_k"]
theorem sc__law_pack : FnScope N__law_pack ["_law_script", "_law_k"] (defScope st__law_pack) := ⟨rfl, rfl, rfl, by decide +kernel, rfl, by decide +kernel, by decide +kernel⟩
def w__law_pack : Rho → R Fl :=
  (fSeq (fIfS (fTest (f2 ltD (fVar 1) (fCB lenD (fCons (fVar 0) fNil)))) (fRetL (fLst (fCons (fCall 1 m__law_mixed (fCons (f2 addD (f2 ixD (fVar 0) (fVar 1)) (f2 mulC (fC (.int 41)) (fVar 1))) fNil)) fNil))) fNx)
  (fRetL (fLst (fCons (fCall 1 m__law_mixed (fCons (f2 addD (f2 mulC (fC (.int 6131)) (fVar 1)) (fC (.int 17))) fNil)) fNil))))
def m__law_pack : Rho → R RV := gOf 2 w__law_pack
abbrev st__law_only : Stmt := topS 60
abbrev N__law_only : List Str := ["_law_e", "_law_at", "_law_found", "_law_k"]
theorem sc__law_only : FnScope N__law_only ["_law_e", "_law_at"] (defScope st__law_only) := ⟨rfl, rfl, rfl, by decide +kernel, rfl, by decide +kernel, by decide +kernel⟩
def ce__law_only_0 : Rho → R AV :=
  (f2 eqD (fVar 3) (fVar 1))
def w__law_only : Rho → R Fl :=
  (fSeq (fAsg (fL (fLst (fCons (fIsX (sb "NoText") 0) (fCons (fIsX (sb "NoOrder") 0) (fCons (fIsX (sb "NoWord") 0) (fCons (fIsX (sb "NoNumber") 0) fNil)))))) (put 2))
  (fSeq (fAsg (f2 addD (fVar 2) (fL (fLst (fCons (fIsX (sb "NoForm") 0) (fCons (fIsX (sb "NoTelling") 0) (fCons (fIsX (sb "NoBook") 0) (fCons (fIsX (sb "TooMany") 0) fNil))))))) (put 2))
  (fSeq (fAsg (f2 addD (fVar 2) (fL (fLst (fCons (fIsX (sb "NoWeights") 0) (fCons (fIsX (sb "NoCall") 0) (fCons (fIsX (sb "NoKept") 0) fNil)))))) (put 2))
  (fSeq (fIfS (fOr (fNot (fTest (fIsX (sb "LadderError") 0))) (fNot (fTest (fIsX (sb "ValueError") 0)))) (fRet (fC (.bool false))) fNx)
  (fRet (f2 eqD (fVar 2) (fL (fLc (fRng1 (fCons (fC (.int 11)) fNil)) (put 3) (fun ρ => .ok true ρ) ce__law_only_0 [3]))))))))
def m__law_only : Rho → R RV := gOf 4 w__law_only
abbrev st_is_text_of : Stmt := topS 15
abbrev N_is_text_of : List Str := ["thing", "signs", "sign"]
theorem sc_is_text_of : FnScope N_is_text_of ["thing", "signs"] (defScope st_is_text_of) := ⟨rfl, rfl, rfl, by decide +kernel, rfl, by decide +kernel, by decide +kernel⟩
def ce_is_text_of_0 : Rho → R AV :=
  (f2 inD (fVar 2) (fVar 1))
def w_is_text_of : Rho → R Fl :=
  (fRet (fAndV (f1 (isiD "str") (fVar 0)) (fCB allD (fCons (fL (fLc (fItS (fVar 0)) (put 2) (fun ρ => .ok true ρ) ce_is_text_of_0 [2])) fNil))))
def m_is_text_of : Rho → R RV := gOf 3 w_is_text_of
abbrev st_is_word : Stmt := topS 18
abbrev N_is_word : List Str := ["code", "thing"]
theorem sc_is_word : FnScope N_is_word ["code", "thing"] (defScope st_is_word) := ⟨rfl, rfl, rfl, by decide +kernel, rfl, by decide +kernel, by decide +kernel⟩
def w_is_word : Rho → R Fl :=
  (fRet (fAndV (fCall 2 m_is_text_of (fCons (fVar 1) (fCons (f2 ixD (fVar 0) (fC (.int 0))) fNil))) (f2 leD (fCB lenD (fCons (fVar 1) fNil)) (fC (.int 8)))))
def m_is_word : Rho → R RV := gOf 2 w_is_word
abbrev st_check_word : Stmt := topS 19
abbrev N_check_word : List Str := ["code", "word", "most"]
theorem sc_check_word : FnScope N_check_word ["code", "word", "most"] (defScope st_check_word) := ⟨rfl, rfl, rfl, by decide +kernel, rfl, by decide +kernel, by decide +kernel⟩
def w_check_word : Rho → R Fl :=
  (fIfS (fOr (fNot (fTest (fCall 2 m_is_word (fCons (fVar 0) (fCons (fVar 1) fNil))))) (fTest (f2 gtD (fCB lenD (fCons (fVar 1) fNil)) (fVar 2)))) (fRaise ⟨"NoWord", none⟩) fNx)
def m_check_word : Rho → R RV := gOf 3 w_check_word
abbrev st_check_words : Stmt := topS 44
abbrev N_check_words : List Str := ["code", "words", "word"]
theorem sc_check_words : FnScope N_check_words ["code", "words"] (defScope st_check_words) := ⟨rfl, rfl, rfl, by decide +kernel, rfl, by decide +kernel, by decide +kernel⟩
def fb_check_words_0 : Rho → R Fl :=
  (fDrop (fCall 3 m_check_word (fCons (fVar 0) (fCons (fVar 2) (fCons (fC (.int 4)) fNil)))))
def w_check_words : Rho → R Fl :=
  (fSeq (fIfS (fOr (fNot (fTest (f1 (isiD "tuple") (fVar 1)))) (fNot (fTest (fChain leD leD (fC (.int 1)) (fCB lenD (fCons (fVar 1) fNil)) (fC (.int 4)))))) (fRaise ⟨"NoWord", none⟩) fNx)
  (fSeq (fFor (fItT (fVar 1)) (put 2) fb_check_words_0)
  (fIfS (fTest (f2 ltD (f1 lenSetTu (fVar 1)) (fCB lenD (fCons (fVar 1) fNil)))) (fRaise ⟨"NoWord", none⟩) fNx)))
def m_check_words : Rho → R RV := gOf 3 w_check_words
abbrev st_wish_names : Stmt := topS 20
abbrev N_wish_names : List Str := ["code", "wish"]
theorem sc_wish_names : FnScope N_wish_names ["code"] (defScope st_wish_names) := ⟨rfl, rfl, rfl, by decide +kernel, rfl, by decide +kernel, by decide +kernel⟩
def ce_wish_names_0 : Rho → R AV :=
  (f2 ixD (fVar 1) (fC (.int 0)))
def w_wish_names : Rho → R Fl :=
  (fRet (fCB tupleA (fCons (fL (fLc (fItT (f2 ixD (fVar 0) (fC (.int 1)))) (put 1) (fun ρ => .ok true ρ) ce_wish_names_0 [1])) fNil)))
def m_wish_names : Rho → R RV := gOf 2 w_wish_names
abbrev st_all_orders : Stmt := topS 24
abbrev N_all_orders : List Str := ["code", "found", "names", "turn", "longer", "some", "name"]
theorem sc_all_orders : FnScope N_all_orders ["code"] (defScope st_all_orders) := ⟨rfl, rfl, rfl, by decide +kernel, rfl, by decide +kernel, by decide +kernel⟩
def ct_all_orders_2 : Rho → R Bool :=
  (fTest (f2 notInD (fVar 6) (fVar 5)))
def ce_all_orders_2 : Rho → R AV :=
  (f2 addD (fVar 5) (fTup (fCons (fVar 6) fNil)))
def fb_all_orders_1 : Rho → R Fl :=
  (fExt 4 (fLc (fItL (fVar 2)) (put 6) ct_all_orders_2 ce_all_orders_2 [6]))
def fb_all_orders_0 : Rho → R Fl :=
  (fSeq (fSetO (fLst fNil) 4)
  (fSeq (fFor (fItL (fVar 1)) (put 5) fb_all_orders_1)
  (fFrz 4 (fAsg (fVar 4) (put 1)))))
def w_all_orders : Rho → R Fl :=
  (fSeq (fAsg (fL (fLst (fCons (fTup fNil) fNil))) (put 1))
  (fSeq (fAsg (fL (fCBL sortedT (fCons (fCall 1 m_wish_names (fCons (fVar 0) fNil)) fNil))) (put 2))
  (fSeq (fFor (fItL (fVar 2)) (put 3) fb_all_orders_0)
  (fRet (fCB tupleA (fCons (fVar 1) fNil))))))
def m_all_orders : Rho → R RV := gOf 7 w_all_orders
abbrev st_Road_counts_at : Stmt := (clsBody (topS 38)).getD 3 (.Pass ⟨0, 0, 0, 0⟩)
abbrev N_Road_counts_at : List Str := ["self", "place", "last"]
theorem sc_Road_counts_at : FnScope N_Road_counts_at ["self", "place", "last"] (defScope st_Road_counts_at) := ⟨rfl, rfl, rfl, by decide +kernel, rfl, by decide +kernel, by decide +kernel⟩
def w_Road_counts_at : Rho → R Fl :=
  (fRet (f2 ixD (fPGet ⟨0, some "known"⟩ true "Road" (gTup' (gCons' (gVar 1) (gCons' (gVar 2) gNil)))) (fC (.int 0))))
def m_Road_counts_at : Rho → R RV := gM 3 w_Road_counts_at
def s_Road_counts_at : Rho → R RV := gS 3 (f2 ixD (fPGet ⟨0, some "known"⟩ true "Road" (gTup' (gCons' (gVar 1) (gCons' (gVar 2) gNil)))) (fC (.int 0)))
abbrev st_is_order : Stmt := topS 22
abbrev N_is_order : List Str := ["code", "thing", "name"]
theorem sc_is_order : FnScope N_is_order ["code", "thing"] (defScope st_is_order) := ⟨rfl, rfl, rfl, by decide +kernel, rfl, by decide +kernel, by decide +kernel⟩
def ce_is_order_0 : Rho → R AV :=
  (f1 (isiD "str") (fVar 2))
def w_is_order : Rho → R Fl :=
  (fSeq (fIfS (fOr (fNot (fTest (f1 (isiD "tuple") (fVar 1)))) (fNot (fTest (fCB allD (fCons (fL (fLc (fItT (fVar 1)) (put 2) (fun ρ => .ok true ρ) ce_is_order_0 [2])) fNil))))) (fRet (fC (.bool false))) fNx)
  (fRet (f2 eqD (fL (fCBL sortedT (fCons (fVar 1) fNil))) (fL (fCBL sortedT (fCons (fCall 1 m_wish_names (fCons (fVar 0) fNil)) fNil))))))
def m_is_order : Rho → R RV := gOf 3 w_is_order
abbrev st_check_order : Stmt := topS 23
abbrev N_check_order : List Str := ["code", "thing"]
theorem sc_check_order : FnScope N_check_order ["code", "thing"] (defScope st_check_order) := ⟨rfl, rfl, rfl, by decide +kernel, rfl, by decide +kernel, by decide +kernel⟩
def w_check_order : Rho → R Fl :=
  (fIfS (fNot (fTest (fCall 2 m_is_order (fCons (fVar 0) (fCons (fVar 1) fNil))))) (fRaise ⟨"NoOrder", none⟩) fNx)
def m_check_order : Rho → R RV := gOf 2 w_check_order
abbrev st_steps_of : Stmt := topS 29
abbrev N_steps_of : List Str := ["code", "sign", "found", "other"]
theorem sc_steps_of : FnScope N_steps_of ["code"] (defScope st_steps_of) := ⟨rfl, rfl, rfl, by decide +kernel, rfl, by decide +kernel, by decide +kernel⟩
def ce_steps_of_2 : Rho → R AV :=
  (fTup (fCons (fVar 1) (fCons (fVar 3) fNil)))
def fb_steps_of_1 : Rho → R Fl :=
  (fSeq (fApp 2 (fTup (fCons (fVar 1) (fCons (fC (.str "")) fNil))))
  (fExt 2 (fLc (fItS (f2 ixD (fVar 0) (fC (.int 0)))) (put 3) (fun ρ => .ok true ρ) ce_steps_of_2 [3])))
def ce_steps_of_0 : Rho → R AV :=
  (fTup (fCons (fC (.str "")) (fCons (fVar 1) fNil)))
def w_steps_of : Rho → R Fl :=
  (fSeq (fSetO (fLc (fItS (f2 ixD (fVar 0) (fC (.int 0)))) (put 1) (fun ρ => .ok true ρ) ce_steps_of_0 [1]) 2)
  (fSeq (fFor (fItS (f2 ixD (fVar 0) (fC (.int 0)))) (put 1) fb_steps_of_1)
  (fFrz 2 (fRet (fVar 2)))))
def m_steps_of : Rho → R RV := gOf 4 w_steps_of
abbrev st_steps_from : Stmt := topS 37
abbrev N_steps_from : List Str := ["code", "word", "place", "found", "step"]
theorem sc_steps_from : FnScope N_steps_from ["code", "word", "place"] (defScope st_steps_from) := ⟨rfl, rfl, rfl, by decide +kernel, rfl, by decide +kernel, by decide +kernel⟩
def fb_steps_from_0 : Rho → R Fl :=
  (fIfS (fTest (f2 eqD (f2 ixD (fVar 4) (fC (.int 0))) (fC (.str "")))) (fApp 3 (fTup (fCons (fVar 4) (fCons (fC (.int 0)) fNil)))) (fIfS (fTest (f2 eqD (fSl slD (fVar 1) (fPart (fVar 2)) (fPart (f2 addD (fVar 2) (fC (.int 1))))) (f2 ixD (fVar 4) (fC (.int 0))))) (fApp 3 (fTup (fCons (fVar 4) (fCons (fC (.int 1)) fNil)))) fNx))
def w_steps_from : Rho → R Fl :=
  (fSeq (fSetO (fLst fNil) 3)
  (fSeq (fFor (fItL (fCall 1 m_steps_of (fCons (fVar 0) fNil))) (put 4) fb_steps_from_0)
  (fFrz 3 (fRet (fVar 3)))))
def m_steps_from : Rho → R RV := gOf 5 w_steps_from
abbrev st_lasts : Stmt := topS 27
abbrev N_lasts : List Str := ["code"]
theorem sc_lasts : FnScope N_lasts ["code"] (defScope st_lasts) := ⟨rfl, rfl, rfl, by decide +kernel, rfl, by decide +kernel, by decide +kernel⟩
def w_lasts : Rho → R Fl :=
  (fRet (f2 addD (fTup (fCons (fC (.str "#")) fNil)) (fCB tupleA (fCons (f2 ixD (fVar 0) (fC (.int 0))) fNil))))
def m_lasts : Rho → R RV := gOf 1 w_lasts
abbrev st_ranked : Stmt := topS 25
abbrev N_ranked : List Str := ["code", "order", "counts", "names", "name"]
theorem sc_ranked : FnScope N_ranked ["code", "order", "counts"] (defScope st_ranked) := ⟨rfl, rfl, rfl, by decide +kernel, rfl, by decide +kernel, by decide +kernel⟩
def ce_ranked_0 : Rho → R AV :=
  (f2 ixD (fVar 2) (fTM indexT (fVar 3) (fCons (fVar 4) fNil)))
def w_ranked : Rho → R Fl :=
  (fSeq (fAsg (fCall 1 m_wish_names (fCons (fVar 0) fNil)) (put 3))
  (fRet (fCB tupleA (fCons (fL (fLc (fItT (fVar 1)) (put 4) (fun ρ => .ok true ρ) ce_ranked_0 [4])) fNil))))
def m_ranked : Rho → R RV := gOf 5 w_ranked
abbrev st_Road_offer : Stmt := (clsBody (topS 38)).getD 1 (.Pass ⟨0, 0, 0, 0⟩)
abbrev N_Road_offer : List Str := ["self", "here", "counts", "step", "there", "known"]
theorem sc_Road_offer : FnScope N_Road_offer ["self", "here", "counts", "step", "there"] (defScope st_Road_offer) := ⟨rfl, rfl, rfl, by decide +kernel, rfl, by decide +kernel, by decide +kernel⟩
def w_Road_offer : Rho → R Fl :=
  (fSeq (fIfS (fTest (fPIn ⟨0, some "known"⟩ true "Road" false (fVar 1))) (fSeq (fAsg (fCall 3 m_ranked (fCons (fFld 0 "Road" "code") (fCons (fFld 0 "Road" "order") (fCons (f2 ixD (fPGet ⟨0, some "known"⟩ true "Road" (gVar 1)) (fC (.int 0))) fNil)))) (put 5))
  (fIfS (fNot (fTest (f2 ltE (fCall 3 m_ranked (fCons (fFld 0 "Road" "code") (fCons (fFld 0 "Road" "order") (fCons (fVar 2) fNil)))) (fVar 5)))) (fRet (fC (.bool false))) fNx)) fNx)
  (fSeq (fPPut ⟨0, some "known"⟩ true "Road" (gVar 1) (fTup (fCons (fVar 2) (fCons (fVar 3) (fCons (fVar 4) fNil)))))
  (fRet (fC (.bool true)))))
def m_Road_offer : Rho → R RV := gM 6 w_Road_offer
abbrev st_is_ended : Stmt := topS 33
abbrev N_is_ended : List Str := ["pattern", "last"]
theorem sc_is_ended : FnScope N_is_ended ["pattern", "last"] (defScope st_is_ended) := ⟨rfl, rfl, rfl, by decide +kernel, rfl, by decide +kernel, by decide +kernel⟩
def w_is_ended : Rho → R Fl :=
  (fRet (fAndV (f2 eqD (f2 ixD (fVar 0) (fC (.int 0))) (fC (.str "beside"))) (fAndV (f2 inD (fVar 1) (f2 ixD (fVar 0) (fC (.int 1)))) (f2 inD (fC (.str "#")) (f2 ixD (fVar 0) (fC (.int 2)))))))
def m_is_ended : Rho → R RV := gOf 2 w_is_ended
abbrev st_end_counts : Stmt := topS 34
abbrev N_end_counts : List Str := ["code", "last", "found", "name", "patterns", "pattern", "times"]
theorem sc_end_counts : FnScope N_end_counts ["code", "last"] (defScope st_end_counts) := ⟨rfl, rfl, rfl, by decide +kernel, rfl, by decide +kernel, by decide +kernel⟩
def ct_end_counts_1 : Rho → R Bool :=
  (fTest (fCall 2 m_is_ended (fCons (fVar 5) (fCons (fVar 1) fNil))))
def ce_end_counts_1 : Rho → R AV :=
  (fVar 6)
def fb_end_counts_0 : Rho → R Fl :=
  (fApp 2 (fCB sumD (fCons (fL (fLc (fItT (fVar 4)) (putTup 2 (putCons (put 5) (putCons (put 6) putNil))) ct_end_counts_1 ce_end_counts_1 [5, 6])) fNil)))
def w_end_counts : Rho → R Fl :=
  (fSeq (fSetO (fLst fNil) 2)
  (fSeq (fFor (fItT (f2 ixD (fVar 0) (fC (.int 1)))) (putTup 2 (putCons (put 3) (putCons (put 4) putNil))) fb_end_counts_0)
  (fRet (fCB tupleA (fCons (fOwn 2) fNil)))))
def m_end_counts : Rho → R RV := gOf 7 w_end_counts
abbrev st_behind : Stmt := topS 28
abbrev N_behind : List Str := ["last", "step"]
theorem sc_behind : FnScope N_behind ["last", "step"] (defScope st_behind) := ⟨rfl, rfl, rfl, by decide +kernel, rfl, by decide +kernel, by decide +kernel⟩
def w_behind : Rho → R Fl :=
  (fSeq (fIfS (fTest (f2 eqD (f2 ixD (fVar 1) (fC (.int 1))) (fC (.str "")))) (fRet (fVar 0)) fNx)
  (fRet (f2 ixD (fVar 1) (fC (.int 1)))))
def m_behind : Rho → R RV := gOf 2 w_behind
abbrev st_added : Stmt := topS 35
abbrev N_added : List Str := ["one", "other", "number", "more"]
theorem sc_added : FnScope N_added ["one", "other"] (defScope st_added) := ⟨rfl, rfl, rfl, by decide +kernel, rfl, by decide +kernel, by decide +kernel⟩
def ce_added_0 : Rho → R AV :=
  (f2 addD (fVar 2) (fVar 3))
def w_added : Rho → R Fl :=
  (fRet (fCB tupleA (fCons (fL (fLc (fZip (fCons (fVar 0) (fCons (fVar 1) fNil))) (putTup 2 (putCons (put 2) (putCons (put 3) putNil))) (fun ρ => .ok true ρ) ce_added_0 [2, 3])) fNil)))
def m_added : Rho → R RV := gOf 4 w_added
abbrev st_is_met : Stmt := topS 31
abbrev N_is_met : List Str := ["pattern", "last", "step", "kind", "one", "other"]
theorem sc_is_met : FnScope N_is_met ["pattern", "last", "step"] (defScope st_is_met) := ⟨rfl, rfl, rfl, by decide +kernel, rfl, by decide +kernel, by decide +kernel⟩
def w_is_met : Rho → R Fl :=
  (fSeq (fAsg (f2 ixD (fVar 0) (fC (.int 0))) (put 3))
  (fSeq (fAsg (fVar 2) (putTup 2 (putCons (put 4) (putCons (put 5) putNil))))
  (fSeq (fIfS (fTest (f2 eqD (fVar 3) (fC (.str "sign")))) (fRet (fAndV (f2 neD (fVar 5) (fC (.str ""))) (f2 inD (fVar 5) (f2 ixD (fVar 0) (fC (.int 1)))))) fNx)
  (fSeq (fIfS (fTest (f2 eqD (fVar 3) (fC (.str "drop")))) (fRet (fAndV (f2 eqD (fVar 5) (fC (.str ""))) (f2 inD (fVar 4) (f2 ixD (fVar 0) (fC (.int 1)))))) fNx)
  (fSeq (fIfS (fTest (f2 eqD (fVar 3) (fC (.str "add")))) (fRet (fAndV (f2 eqD (fVar 4) (fC (.str ""))) (f2 inD (fVar 5) (f2 ixD (fVar 0) (fC (.int 1)))))) fNx)
  (fSeq (fIfS (fTest (f2 eqD (fVar 3) (fC (.str "change")))) (fRet (fAndV (f2 notInD (fC (.str "")) (fVar 2)) (fAndV (f2 neD (fVar 4) (fVar 5)) (fAndV (f2 inD (fVar 4) (f2 ixD (fVar 0) (fC (.int 1)))) (f2 inD (fVar 5) (f2 ixD (fVar 0) (fC (.int 2)))))))) fNx)
  (fRet (fAndV (f2 neD (fVar 5) (fC (.str ""))) (fAndV (f2 inD (fVar 1) (f2 ixD (fVar 0) (fC (.int 1)))) (f2 inD (fVar 5) (f2 ixD (fVar 0) (fC (.int 2)))))))))))))
def m_is_met : Rho → R RV := gOf 6 w_is_met
abbrev st_step_counts : Stmt := topS 32
abbrev N_step_counts : List Str := ["code", "last", "step", "found", "name", "patterns", "pattern", "times"]
theorem sc_step_counts : FnScope N_step_counts ["code", "last", "step"] (defScope st_step_counts) := ⟨rfl, rfl, rfl, by decide +kernel, rfl, by decide +kernel, by decide +kernel⟩
def ct_step_counts_1 : Rho → R Bool :=
  (fTest (fCall 3 m_is_met (fCons (fVar 6) (fCons (fVar 1) (fCons (fVar 2) fNil)))))
def ce_step_counts_1 : Rho → R AV :=
  (fVar 7)
def fb_step_counts_0 : Rho → R Fl :=
  (fApp 3 (fCB sumD (fCons (fL (fLc (fItT (fVar 5)) (putTup 2 (putCons (put 6) (putCons (put 7) putNil))) ct_step_counts_1 ce_step_counts_1 [6, 7])) fNil)))
def w_step_counts : Rho → R Fl :=
  (fSeq (fSetO (fLst fNil) 3)
  (fSeq (fFor (fItT (f2 ixD (fVar 0) (fC (.int 1)))) (putTup 2 (putCons (put 4) (putCons (put 5) putNil))) fb_step_counts_0)
  (fRet (fCB tupleA (fCons (fOwn 3) fNil)))))
def m_step_counts : Rho → R RV := gOf 8 w_step_counts
abbrev st_Road_settle : Stmt := (clsBody (topS 38)).getD 2 (.Pass ⟨0, 0, 0, 0⟩)
abbrev N_Road_settle : List Str := ["self", "place", "steps", "last", "rose", "step", "taken", "there", "counts"]
theorem sc_Road_settle : FnScope N_Road_settle ["self", "place"] (defScope st_Road_settle) := ⟨rfl, rfl, rfl, by decide +kernel, rfl, by decide +kernel, by decide +kernel⟩
def fb_Road_settle_2 : Rho → R Fl :=
  (fSeq (fAsg (fTup (fCons (f2 addD (fVar 1) (fVar 6)) (fCons (fCall 2 m_behind (fCons (fVar 3) (fCons (fVar 5) fNil))) fNil))) (put 7))
  (fIfS (fTest (fPIn ⟨0, some "known"⟩ true "Road" false (fVar 7))) (fSeq (fAsg (fCall 2 m_added (fCons (fCall 3 m_step_counts (fCons (fFld 0 "Road" "code") (fCons (fVar 3) (fCons (fVar 5) fNil)))) (fCons (f2 ixD (fPGet ⟨0, some "known"⟩ true "Road" (gVar 7)) (fC (.int 0))) fNil))) (put 8))
  (fIfX (fMeth 4 0 "Road" "offer" m_Road_offer (fCons (fTup (fCons (fVar 1) (fCons (fVar 3) fNil))) (fCons (fVar 8) (fCons (fVar 5) (fCons (fVar 7) fNil))))) (fAsg (fC (.bool true)) (put 4)) fNx)) fNx))
def fb_Road_settle_1 : Rho → R Fl :=
  (fFor (fItL (fVar 2)) (putTup 2 (putCons (put 5) (putCons (put 6) putNil))) fb_Road_settle_2)
def wc_Road_settle_1 : Rho → R Bool :=
  (fTest (fVar 4))
def wb_Road_settle_1 : Rho → R Fl :=
  (fSeq (fAsg (fC (.bool false)) (put 4))
  (fFor (fItT (fCall 1 m_lasts (fCons (fFld 0 "Road" "code") fNil))) (put 3) fb_Road_settle_1))
def fb_Road_settle_0 : Rho → R Fl :=
  (fDropX (fMeth 4 0 "Road" "offer" m_Road_offer (fCons (fTup (fCons (fVar 1) (fCons (fVar 3) fNil))) (fCons (fCall 2 m_end_counts (fCons (fFld 0 "Road" "code") (fCons (fVar 3) fNil))) (fCons (fC .none) (fCons (fC .none) fNil))))))
noncomputable def w_Road_settle : Rho → R Fl :=
  (fSeq (fAsg (fCall 3 m_steps_from (fCons (fFld 0 "Road" "code") (fCons (fFld 0 "Road" "word") (fCons (fVar 1) fNil)))) (put 2))
  (fSeq (fIfS (fTest (f2 eqD (fVar 1) (fCB lenD (fCons (fFld 0 "Road" "word") fNil)))) (fFor (fItT (fCall 1 m_lasts (fCons (fFld 0 "Road" "code") fNil))) (put 3) fb_Road_settle_0) fNx)
  (fSeq (fAsg (fC (.bool true)) (put 4))
  (fWhile wc_Road_settle_1 wb_Road_settle_1))))
noncomputable def m_Road_settle : Rho → R RV := gM 9 w_Road_settle
abbrev st_Road_init : Stmt := (clsBody (topS 38)).getD 0 (.Pass ⟨0, 0, 0, 0⟩)
abbrev N_Road_init : List Str := ["self", "code", "order", "word", "place"]
theorem sc_Road_init : FnScope N_Road_init ["self", "code", "order", "word"] (defScope st_Road_init) := ⟨rfl, rfl, rfl, by decide +kernel, rfl, by decide +kernel, by decide +kernel⟩
noncomputable def fb_Road_init_0 : Rho → R Fl :=
  (fDropX (fMeth 1 0 "Road" "settle" m_Road_settle (fCons (fVar 4) fNil)))
noncomputable def w_Road_init : Rho → R Fl :=
  (fSeq (fFSetD 0 "Road" "code" (fVar 1))
  (fSeq (fFSetD 0 "Road" "order" (fVar 2))
  (fSeq (fFSetD 0 "Road" "word" (fVar 3))
  (fSeq (fFSetM 0 "Road" "known" (fNewD true))
  (fFor (fRng3 (fCons (fCB lenD (fCons (fVar 3) fNil)) (fCons (f1 negD (fC (.int 1))) (fCons (f1 negD (fC (.int 1))) fNil)))) (put 4) fb_Road_init_0)))))
noncomputable def m_Road_init : Rho → R RV := gM 5 w_Road_init
abbrev st_road_of : Stmt := topS 39
abbrev N_road_of : List Str := ["code", "order", "word"]
theorem sc_road_of : FnScope N_road_of ["code", "order", "word"] (defScope st_road_of) := ⟨rfl, rfl, rfl, by decide +kernel, rfl, by decide +kernel, by decide +kernel⟩
noncomputable def w_road_of : Rho → R Fl :=
  (fSeq (fDrop (fCall 2 m_check_order (fCons (fVar 0) (fCons (fVar 1) fNil))))
  (fSeq (fDrop (fCall 3 m_check_word (fCons (fVar 0) (fCons (fVar 2) (fCons (fC (.int 8)) fNil)))))
  (fRetM (fMake 3 "Road" m_Road_init (fCons (fVar 0) (fCons (fVar 1) (fCons (fVar 2) fNil)))))))
noncomputable def m_road_of : Rho → R RV := gO 3 w_road_of
abbrev st_least : Stmt := topS 40
abbrev N_least : List Str := ["code", "order", "word"]
theorem sc_least : FnScope N_least ["code", "order", "word"] (defScope st_least) := ⟨rfl, rfl, rfl, by decide +kernel, rfl, by decide +kernel, by decide +kernel⟩
noncomputable def w_least : Rho → R Fl :=
  (fRet (fMethT 2 "Road" "counts_at" m_Road_counts_at (fCallO 3 m_road_of (fCons (fVar 0) (fCons (fVar 1) (fCons (fVar 2) fNil)))) (fCons (fC (.int 0)) (fCons (fC (.str "#")) fNil))))
noncomputable def m_least : Rho → R RV := gOf 3 w_least
abbrev st_results_by_order : Stmt := topS 45
abbrev N_results_by_order : List Str := ["code", "words", "order", "word"]
theorem sc_results_by_order : FnScope N_results_by_order ["code", "words"] (defScope st_results_by_order) := ⟨rfl, rfl, rfl, by decide +kernel, rfl, by decide +kernel, by decide +kernel⟩
noncomputable def ce_results_by_order_0 : Rho → R AV :=
  (fCall 3 m_least (fCons (fVar 0) (fCons (fVar 2) (fCons (fVar 3) fNil))))
noncomputable def ce_results_by_order_1 : Rho → R AV :=
  (fTup (fCons (fVar 2) (fCons (fCB tupleA (fCons (fL (fLc (fItT (fVar 1)) (put 3) (fun ρ => .ok true ρ) ce_results_by_order_0 [3])) fNil)) fNil)))
noncomputable def w_results_by_order : Rho → R Fl :=
  (fSeq (fDrop (fCall 2 m_check_words (fCons (fVar 0) (fCons (fVar 1) fNil))))
  (fRet (fCB dictND (fCons (fL (fLc (fItT (fCall 1 m_all_orders (fCons (fVar 0) fNil))) (put 2) (fun ρ => .ok true ρ) ce_results_by_order_1 [2])) fNil))))
noncomputable def m_results_by_order : Rho → R RV := gOf 4 w_results_by_order
abbrev st_outcomes : Stmt := topS 46
abbrev N_outcomes : List Str := ["code", "words", "found", "order", "results"]
theorem sc_outcomes : FnScope N_outcomes ["code", "words"] (defScope st_outcomes) := ⟨rfl, rfl, rfl, by decide +kernel, rfl, by decide +kernel, by decide +kernel⟩
def ce_outcomes_1 : Rho → R AV :=
  (fTup (fCons (fVar 4) (fCons (fCB tupleA (fCons (fL (fCBL sortedA (fCons (fNDGet (fVar 2) (fVar 4)) fNil))) fNil)) fNil)))
def fb_outcomes_0 : Rho → R Fl :=
  (fSdApp 2 (gVar 4) 3)
noncomputable def w_outcomes : Rho → R Fl :=
  (fSeq (fSetM fNewDL 2)
  (fSeq (fFor (fItNI (fCall 2 m_results_by_order (fCons (fVar 0) (fCons (fVar 1) fNil)))) (putTup 2 (putCons (put 3) (putCons (put 4) putNil))) fb_outcomes_0)
  (fFrzDL 2 (fRet (fCB tupleA (fCons (fL (fCBL sortedA (fCons (fL (fLc (fItN (fVar 2)) (put 4) (fun ρ => .ok true ρ) ce_outcomes_1 [4])) fNil))) fNil))))))
noncomputable def m_outcomes : Rho → R RV := gOf 5 w_outcomes
abbrev st_without : Stmt := topS 47
abbrev N_without : List Str := ["order", "name", "one"]
theorem sc_without : FnScope N_without ["order", "name"] (defScope st_without) := ⟨rfl, rfl, rfl, by decide +kernel, rfl, by decide +kernel, by decide +kernel⟩
def ct_without_0 : Rho → R Bool :=
  (fTest (f2 neD (fVar 2) (fVar 1)))
def ce_without_0 : Rho → R AV :=
  (fVar 2)
def w_without : Rho → R Fl :=
  (fRet (fCB tupleA (fCons (fL (fLc (fItT (fVar 0)) (put 2) ct_without_0 ce_without_0 [2])) fNil)))
def m_without : Rho → R RV := gOf 3 w_without
abbrev st_is_idle : Stmt := topS 48
abbrev N_is_idle : List Str := ["known", "name", "found", "order"]
theorem sc_is_idle : FnScope N_is_idle ["known", "name"] (defScope st_is_idle) := ⟨rfl, rfl, rfl, by decide +kernel, rfl, by decide +kernel, by decide +kernel⟩
def fb_is_idle_0 : Rho → R Fl :=
  (fIfS (fTest (f2 neD (fSetdN 2 (fCall 2 m_without (fCons (fVar 3) (fCons (fVar 1) fNil))) (fNDGet (fVar 0) (fVar 3))) (fNDGet (fVar 0) (fVar 3)))) (fRet (fC (.bool false))) fNx)
def w_is_idle : Rho → R Fl :=
  (fSeq (fSetM (fNewD true) 2)
  (fSeq (fFor (fItN (fVar 0)) (put 3) fb_is_idle_0)
  (fRet (fC (.bool true)))))
def m_is_idle : Rho → R RV := gOf 4 w_is_idle
abbrev st_idle : Stmt := topS 49
abbrev N_idle : List Str := ["code", "words", "known", "name"]
theorem sc_idle : FnScope N_idle ["code", "words"] (defScope st_idle) := ⟨rfl, rfl, rfl, by decide +kernel, rfl, by decide +kernel, by decide +kernel⟩
def ct_idle_0 : Rho → R Bool :=
  (fTest (fCall 2 m_is_idle (fCons (fVar 2) (fCons (fVar 3) fNil))))
def ce_idle_0 : Rho → R AV :=
  (fVar 3)
noncomputable def w_idle : Rho → R Fl :=
  (fSeq (fAsg (fCall 2 m_results_by_order (fCons (fVar 0) (fCons (fVar 1) fNil))) (put 2))
  (fRet (fCB tupleA (fCons (fL (fLc (fItL (fL (fCBL sortedT (fCons (fCall 1 m_wish_names (fCons (fVar 0) fNil)) fNil)))) (put 3) ct_idle_0 ce_idle_0 [3])) fNil))))
noncomputable def m_idle : Rho → R RV := gOf 4 w_idle
abbrev st_exchanged : Stmt := topS 50
abbrev N_exchanged : List Str := ["order", "one", "other", "name"]
theorem sc_exchanged : FnScope N_exchanged ["order", "one", "other"] (defScope st_exchanged) := ⟨rfl, rfl, rfl, by decide +kernel, rfl, by decide +kernel, by decide +kernel⟩
def ce_exchanged_0 : Rho → R AV :=
  (fDGet2 (fDisp2 (gVar 1) (gVar 2) (gVar 2) (gVar 1)) (fVar 3) (fVar 3))
def w_exchanged : Rho → R Fl :=
  (fRet (fCB tupleA (fCons (fL (fLc (fItT (fVar 0)) (put 3) (fun ρ => .ok true ρ) ce_exchanged_0 [3])) fNil)))
def m_exchanged : Rho → R RV := gOf 4 w_exchanged
abbrev st_alike_wishes : Stmt := topS 51
abbrev N_alike_wishes : List Str := ["code", "words", "known", "names", "found", "k", "other", "order"]
theorem sc_alike_wishes : FnScope N_alike_wishes ["code", "words"] (defScope st_alike_wishes) := ⟨rfl, rfl, rfl, by decide +kernel, rfl, by decide +kernel, by decide +kernel⟩
def ce_alike_wishes_2 : Rho → R AV :=
  (f2 eqD (fNDGet (fVar 2) (fCall 3 m_exchanged (fCons (fVar 7) (fCons (f2 ixD (fVar 3) (fVar 5)) (fCons (fVar 6) fNil))))) (fNDGet (fVar 2) (fVar 7)))
def fb_alike_wishes_1 : Rho → R Fl :=
  (fIfS (fTest (fCB allD (fCons (fL (fLc (fItN (fVar 2)) (put 7) (fun ρ => .ok true ρ) ce_alike_wishes_2 [7])) fNil))) (fApp 4 (fTup (fCons (f2 ixD (fVar 3) (fVar 5)) (fCons (fVar 6) fNil)))) fNx)
def fb_alike_wishes_0 : Rho → R Fl :=
  (fFor (fItL (fSl slD (fVar 3) (fPart (f2 addD (fVar 5) (fC (.int 1)))) fNoPart)) (put 6) fb_alike_wishes_1)
noncomputable def w_alike_wishes : Rho → R Fl :=
  (fSeq (fAsg (fCall 2 m_results_by_order (fCons (fVar 0) (fCons (fVar 1) fNil))) (put 2))
  (fSeq (fAsg (fL (fCBL sortedT (fCons (fCall 1 m_wish_names (fCons (fVar 0) fNil)) fNil))) (put 3))
  (fSeq (fSetO (fLst fNil) 4)
  (fSeq (fFor (fRng1 (fCons (fCB lenD (fCons (fVar 3) fNil)) fNil)) (put 5) fb_alike_wishes_0)
  (fRet (fCB tupleA (fCons (fOwn 4) fNil)))))))
noncomputable def m_alike_wishes : Rho → R RV := gOf 8 w_alike_wishes
abbrev st__law_refused : Stmt := topS 61
abbrev N__law_refused : List Str := ["_law_code_here", "_law_thing", "_law_asked", "_law_caught", "_law_e"]
theorem sc__law_refused : FnScope N__law_refused ["_law_code_here", "_law_thing", "_law_asked"] (defScope st__law_refused) := ⟨rfl, rfl, rfl, by decide +kernel, rfl, by decide +kernel, by decide +kernel⟩
noncomputable def ft__law_refused : Rho → R Fl :=
  (fIfS (fTest (f2 eqD (fVar 2) (fC (.int 0)))) (fDrop (fCall 2 m_outcomes (fCons (fVar 0) (fCons (fVar 1) fNil)))) (fIfS (fTest (f2 eqD (fVar 2) (fC (.int 1)))) (fDrop (fCall 2 m_idle (fCons (fVar 0) (fCons (fVar 1) fNil)))) (fDrop (fCall 2 m_alike_wishes (fCons (fVar 0) (fCons (fVar 1) fNil))))))
noncomputable def w__law_refused : Rho → R Fl :=
  (fSeq (fAsg (fC .none) (put 3))
  (fSeq (fTryN (sb "LadderError") ft__law_refused 4 3)
  (fRet (fCallX 1 3 m__law_only (fCons (fC (.int 2)) fNil)))))
noncomputable def m__law_refused : Rho → R RV := gOf 5 w__law_refused
abbrev st_law : Stmt := topS 62
abbrev N_law : List Str := ["_law_script", "_law_code_here", "_law_sign", "_law_things", "_law_k", "_law_thing", "_law_good", "_law_asked"]
theorem sc_law : FnScope N_law ["_law_script"] (defScope st_law) := ⟨rfl, rfl, rfl, by decide +kernel, rfl, by decide +kernel, by decide +kernel⟩
noncomputable def ce_law_1 : Rho → R AV :=
  (fCall 3 m__law_refused (fCons (fVar 1) (fCons (fVar 5) (fCons (fVar 7) fNil))))
noncomputable def fb_law_0 : Rho → R Fl :=
  (fSeq (fAsg (f2 ixD (fVar 3) (fCallT 1 m__law_take (fCallL 2 m__law_pack (fCons (fVar 0) (fCons (fVar 4) fNil))) (fCons (fCB lenD (fCons (fVar 3) fNil)) fNil))) (put 5))
  (fIfS (fNot (fTest (fCB allD (fCons (fL (fLc (fRng1 (fCons (fC (.int 3)) fNil)) (put 7) (fun ρ => .ok true ρ) ce_law_1 [7])) fNil)))) (fRet (fC (.bool false))) fNx))
noncomputable def w_law : Rho → R Fl :=
  (fSeq (fAsg (fCallT 1 m__law_code (fCallL 2 m__law_pack (fCons (fVar 0) (fCons (fC (.int 0)) fNil))) (fCons (fC (.int 2)) fNil)) (put 1))
  (fSeq (fAsg (f2 ixD (f2 ixD (fVar 1) (fC (.int 0))) (fC (.int 0))) (put 2))
  (fSeq (fAsg (fL (fLst (fCons (fTup fNil) (fCons (fTup (fCons (fC (.str "")) (fCons (fVar 2) (fCons (f2 mulC (fVar 2) (fC (.int 2))) (fCons (f2 mulC (fVar 2) (fC (.int 3))) (fCons (f2 mulC (fVar 2) (fC (.int 4))) fNil)))))) (fCons (fTup (fCons (fVar 2) (fCons (fVar 2) fNil))) (fCons (fTup (fCons (f2 mulC (fVar 2) (fC (.int 5))) fNil)) (fCons (fTup (fCons (fC (.str "Q")) fNil)) (fCons (fTup (fCons (fC (.str "#")) fNil)) (fCons (fTup (fCons (fC (.str "")) (fCons (fC (.str "#")) fNil))) fNil))))))))) (put 3))
  (fSeq (fAsg (f2 addD (fVar 3) (fL (fLst (fCons (fVar 2) (fCons (fL (fLst (fCons (fVar 2) fNil))) (fCons (fC .none) (fCons (fC (.int 7)) (fCons (fC (.bool true)) (fCons (fC (.dict [])) (fCons (fC (.str "")) (fCons (fTup (fCons (fC .none) fNil)) (fCons (fTup (fCons (fVar 2) (fCons (fC (.int 7)) fNil))) (fCons (fTup (fCons (fTup (fCons (fVar 2) fNil)) fNil)) (fCons (fTup (fCons (fL (fLst (fCons (fVar 2) fNil))) fNil)) (fCons (fSl slD (fTup (fCons (fVar 2) (fCons (fC (.str "")) fNil))) fNoPart (fPart (fC (.int 0)))) fNil))))))))))))))) (put 3))
  (fSeq (fAsg (f2 addD (fVar 3) (fL (fLst (fCons (fTup (fCons (fC (.str "")) (fCons (fVar 2) (fCons (f2 mulC (fVar 2) (fC (.int 2))) (fCons (fC (.str "")) fNil))))) (fCons (fTup (fCons (fC (.bool true)) fNil)) (fCons (fTup (fCons (fC (.dict [])) fNil)) (fCons (fTup (fCons (fC (.str "-")) fNil)) (fCons (fTup (fCons (f2 addD (fVar 2) (fC (.str " "))) fNil)) (fCons (fDisp1 (fVar 2) (fC (.int 1))) fNil))))))))) (put 3))
  (fSeq (fFor (fRng2 (fCons (fC (.int 1)) (fCons (fC (.int 4)) fNil))) (put 4) fb_law_0)
  (fSeq (fIfS (fOr (fNot (fTest (fCall 3 m__law_refused (fCons (fVar 1) (fCons (fTup (fCons (fVar 2) (fCons (fL (fLst (fCons (fVar 2) fNil))) fNil))) (fCons (fC (.int 0)) fNil)))))) (fNot (fTest (fCall 3 m__law_refused (fCons (fVar 1) (fCons (fTup (fCons (fVar 2) (fCons (fVar 2) fNil))) (fCons (fC (.int 1)) fNil))))))) (fRet (fC (.bool false))) fNx)
  (fSeq (fAsg (fTup (fCons (fC (.str "")) (fCons (fVar 2) (fCons (f2 mulC (fVar 2) (fC (.int 2))) (fCons (f2 mulC (fVar 2) (fC (.int 4))) fNil))))) (put 6))
  (fRet (fAndV (f1 (isiD "tuple") (fCall 2 m_outcomes (fCons (fVar 1) (fCons (fVar 6) fNil)))) (f1 (isiD "tuple") (fCall 2 m_idle (fCons (fVar 1) (fCons (fVar 6) fNil))))))))))))))
noncomputable def m_law : Rho → R RV := gOf 8 w_law
end Lw
namespace Lw
open PySem PySem.Spec L2 Evl Dt PyProof.Rows
structure TX [WD] (K : PySem.W.Frag) (mg : Str → Option Value) where
  f__law_take : FnI K mg "_law_take" st__law_take
  f__law_names : FnI K mg "_law_names" st__law_names
  f__law_set : FnI K mg "_law_set" st__law_set
  f__law_pattern : FnI K mg "_law_pattern" st__law_pattern
  f__law_code : FnI K mg "_law_code" st__law_code
  f__law_mixed : FnI K mg "_law_mixed" st__law_mixed
  f__law_pack : FnI K mg "_law_pack" st__law_pack
  f__law_only : FnI K mg "_law_only" st__law_only
  f_is_text_of : FnI K mg "is_text_of" st_is_text_of
  f_is_word : FnI K mg "is_word" st_is_word
  f_check_word : FnI K mg "check_word" st_check_word
  f_check_words : FnI K mg "check_words" st_check_words
  f_wish_names : FnI K mg "wish_names" st_wish_names
  f_all_orders : FnI K mg "all_orders" st_all_orders
  f_Road_counts_at : FnM K "Road" "counts_at" "Road.counts_at" st_Road_counts_at
  f_is_order : FnI K mg "is_order" st_is_order
  f_check_order : FnI K mg "check_order" st_check_order
  f_steps_of : FnI K mg "steps_of" st_steps_of
  f_steps_from : FnI K mg "steps_from" st_steps_from
  f_lasts : FnI K mg "lasts" st_lasts
  f_ranked : FnI K mg "ranked" st_ranked
  f_Road_offer : FnM K "Road" "offer" "Road.offer" st_Road_offer
  f_is_ended : FnI K mg "is_ended" st_is_ended
  f_end_counts : FnI K mg "end_counts" st_end_counts
  f_behind : FnI K mg "behind" st_behind
  f_added : FnI K mg "added" st_added
  f_is_met : FnI K mg "is_met" st_is_met
  f_step_counts : FnI K mg "step_counts" st_step_counts
  f_Road_settle : FnM K "Road" "settle" "Road.settle" st_Road_settle
  f_Road_init : FnM K "Road" "__init__" "Road.__init__" st_Road_init
  f_road_of : FnI K mg "road_of" st_road_of
  f_least : FnI K mg "least" st_least
  f_results_by_order : FnI K mg "results_by_order" st_results_by_order
  f_outcomes : FnI K mg "outcomes" st_outcomes
  f_without : FnI K mg "without" st_without
  f_is_idle : FnI K mg "is_idle" st_is_idle
  f_idle : FnI K mg "idle" st_idle
  f_exchanged : FnI K mg "exchanged" st_exchanged
  f_alike_wishes : FnI K mg "alike_wishes" st_alike_wishes
  f__law_refused : FnI K mg "_law_refused" st__law_refused
  f_law : FnI K mg "law" st_law
  m_ValueError : mg "ValueError" = none
  m_all : mg "all" = none
  m_dict : mg "dict" = none
  m_divmod : mg "divmod" = none
  m_isinstance : mg "isinstance" = none
  m_len : mg "len" = none
  m_range : mg "range" = none
  m_set : mg "set" = none
  m_sorted : mg "sorted" = none
  m_str : mg "str" = none
  m_sum : mg "sum" = none
  m_tuple : mg "tuple" = none
  m_zip : mg "zip" = none
  y_LadderError : mg "LadderError" = some (.ref (cA K "LadderError"))
  y_NoBook : mg "NoBook" = some (.ref (cA K "NoBook"))
  y_NoCall : mg "NoCall" = some (.ref (cA K "NoCall"))
  y_NoForm : mg "NoForm" = some (.ref (cA K "NoForm"))
  y_NoKept : mg "NoKept" = some (.ref (cA K "NoKept"))
  y_NoNumber : mg "NoNumber" = some (.ref (cA K "NoNumber"))
  y_NoOrder : mg "NoOrder" = some (.ref (cA K "NoOrder"))
  y_NoTelling : mg "NoTelling" = some (.ref (cA K "NoTelling"))
  y_NoText : mg "NoText" = some (.ref (cA K "NoText"))
  y_NoWeights : mg "NoWeights" = some (.ref (cA K "NoWeights"))
  y_NoWord : mg "NoWord" = some (.ref (cA K "NoWord"))
  y_TooMany : mg "TooMany" = some (.ref (cA K "TooMany"))
  c_EDGE : ∃ t, mg "EDGE" = some (.str "#" t)
  c_MOST_SIGNS_HERE : ∃ t, mg "MOST_SIGNS_HERE" = some (.int 4 t)
  c_MOST_WORD : ∃ t, mg "MOST_WORD" = some (.int 8 t)
  c_MOST_WORDS : ∃ t, mg "MOST_WORDS" = some (.int 4 t)
  x_NoOrder : ExF K mg "NoOrder"
  x_NoWord : ExF K mg "NoWord"
  n_Road_code : NoAttr K (cA K "Road") "code"
  n_Road_known : NoAttr K (cA K "Road") "known"
  n_Road_order : NoAttr K (cA K "Road") "order"
  n_Road_word : NoAttr K (cA K "Road") "word"
  mt_Road_counts_at : Meth K (cA K "Road") "counts_at" (He.ma K (cA K "Road") "counts_at")
  mt_Road_offer : Meth K (cA K "Road") "offer" (He.ma K (cA K "Road") "offer")
  mt_Road_settle : Meth K (cA K "Road") "settle" (He.ma K (cA K "Road") "settle")
  y_Road : ClsI K mg "Road"
  x_is : ∀ c, (decide (c ∈ testedC)) = true → ∀ n b, sb c n = some b → XcC K (cA K n) ∧ PySem.W.kitOne K (.ref (cA K n)) (.ref (cA K c)) = some b
  x_ex : ∀ c, (decide (c ∈ caughtC)) = true → ∀ n b, sb c n = some b → PySem.W.exmOne K (.ref (cA K n)) (.ref (cA K c)) = some b
  x_isValueError : ∀ n b, sb "ValueError" n = some b → XcC K (cA K n) ∧ PySem.W.kitOne K (.ref (cA K n)) (.type "ValueError") = some b
section
variable [WD] {K : PySem.W.Frag} {C : Str → Addr} {mg : Str → Option Value} {base : Heap}
theorem b__law_take (T : TX K mg) : Binds K T.f__law_take.fd ["_law_pack_here", "_law_size"] [] := T.f__law_take.F.bindsN fun _ _ _ _ _ _ us hl => match us, hl with | [_, _], _ => rfl
set_option maxHeartbeats 4000000 in
theorem ok__law_take (T : TX K mg) : FnOk WD.P WD.w K mg base (L2.CX WD.P WD.w) 1 T.f__law_take.f T.f__law_take.fd ["_law_pack_here", "_law_size"] (spF ⟨K, C⟩ 2 m__law_take) := by
  refine fn_ok T.f__law_take.F sc__law_take (fun cdv A outer s H E hr tk po => ⟨_, (pss_cons (ps_asg (pe_callB call_divmod (by rfl) T.m_divmod boot_divmod (pa_cons (pe_ix (kIx K) (pv 0) pe_int (fun _ _ => rfl)) (pa_cons (pv 1) pa_nil))) (kgTup K rfl (pgs_cons (pg_sub (pv 0) pe_int set_list) (pgs_cons (pg_name (i := 2) sc__law_take.nd rfl (Or.inl rfl)) pgs_nil))))
      (pss_one (ps_ret (pv 2)))), ?_⟩)
  exact (s_seq (s_take (d_var 1))
      (s_ret (d_var 2)))
theorem b__law_names (T : TX K mg) : Binds K T.f__law_names.fd ["_law_pack_here", "_law_amount"] [] := T.f__law_names.F.bindsN fun _ _ _ _ _ _ us hl => match us, hl with | [_, _], _ => rfl
set_option maxHeartbeats 4000000 in
theorem ok__law_names (T : TX K mg) : FnOk WD.P WD.w K mg base (L2.CX WD.P WD.w) 2 T.f__law_names.f T.f__law_names.fd ["_law_pack_here", "_law_amount"] (spF ⟨K, C⟩ 2 m__law_names) := by
  refine fn_ok T.f__law_names.F sc__law_names (fun cdv A outer s H E hr tk po => ⟨_, (pss_cons (ps_set (i := 2) sc__law_names.nd rfl (Or.inr rfl) pe_str)
      (pss_cons (ps_set (i := 3) sc__law_names.nd rfl (Or.inl rfl) (pe_callS (ok__law_take (C := C) T) (hr.mono (by decide)) (by rfl) T.f__law_take.g T.f__law_take.F.kp (b__law_take T) (fun σ => passAt tk σ) (pa_cons (pv 0) (pa_cons pe_int pa_nil))))
      (pss_cons (ps_set (i := 2) sc__law_names.nd rfl (Or.inr rfl) (pe_op (kAdd K) (pe_slice (kSl K) (pv 2) (po_some (pv 3)) po_none) (pe_slice (kSl K) (pv 2) po_none (po_some (pv 3)))))
      (pss_cons (ps_set (i := 4) sc__law_names.nd rfl (Or.inl rfl) (pe_callS (ok__law_take (C := C) T) (hr.mono (by decide)) (by rfl) T.f__law_take.g T.f__law_take.F.kp (b__law_take T) (fun σ => passAt tk σ) (pa_cons (pv 0) (pa_cons pe_int pa_nil))))
      (pss_cons (ps_set (i := 5) sc__law_names.nd rfl (Or.inr rfl) (pe_callS (ok__law_take (C := C) T) (hr.mono (by decide)) (by rfl) T.f__law_take.g T.f__law_take.F.kp (b__law_take T) (fun σ => passAt tk σ) (pa_cons (pv 0) (pa_cons pe_int pa_nil))))
      (pss_cons (ps_if (pt_cmpR (kEq K (hu := hr.units)) (pv 4) pe_int (nomark _)) (pss_one (ps_ret (pe_lc (own := [("_law_k", 6)]) rfl sc__law_names.nd (pi_range1 (by rfl) T.m_range (pa_cons (pv 1) pa_nil)) (blkOk_by (own := [("_law_k", 6)]) (N := N__law_names) (sc := defScope st__law_names) (by decide +kernel)) (fun _ _ _ _ _ => (pg_name (i := 6) sc__law_names.nd rfl (by first | exact Or.inl rfl | exact Or.inr rfl))) (fun _ _ _ _ _ => pts_nil) (fun _ _ _ _ _ => (pe_op (kMulC K) (pe_ix (kIx K) (pv 2) pe_int (fun _ _ => rfl)) (pe_op (kAdd K) pe_int (pe_op op_mod (pe_op (kAdd K) (pv 5) (pv 6)) pe_int))))))) pss_nil)
      (pss_cons (ps_if (pt_cmpR (kEq K (hu := hr.units)) (pv 4) pe_int (nomark _)) (pss_one (ps_ret (pe_lc (own := [("_law_k", 6)]) rfl sc__law_names.nd (pi_range1 (by rfl) T.m_range (pa_cons (pv 1) pa_nil)) (blkOk_by (own := [("_law_k", 6)]) (N := N__law_names) (sc := defScope st__law_names) (by decide +kernel)) (fun _ _ _ _ _ => (pg_name (i := 6) sc__law_names.nd rfl (by first | exact Or.inl rfl | exact Or.inr rfl))) (fun _ _ _ _ _ => pts_nil) (fun _ _ _ _ _ => (pe_op (kAdd K) (pe_ix (kIx K) (pv 2) (pv 6) (fun _ _ => rfl)) (pe_slice (kSl K) (pv 2) (po_some pe_int) (po_some (pe_op (kAdd K) pe_int (pe_op op_mod (pe_op (kAdd K) (pv 5) (pe_op (kMulC K) pe_int (pv 6))) pe_int))))))))) pss_nil)
      (pss_one (ps_ret (pe_lc (own := [("_law_k", 6)]) rfl sc__law_names.nd (pi_range1 (by rfl) T.m_range (pa_cons (pv 1) pa_nil)) (blkOk_by (own := [("_law_k", 6)]) (N := N__law_names) (sc := defScope st__law_names) (by decide +kernel)) (fun _ _ _ _ _ => (pg_name (i := 6) sc__law_names.nd rfl (by first | exact Or.inl rfl | exact Or.inr rfl))) (fun _ _ _ _ _ => pts_nil) (fun _ _ _ _ _ => (pe_op (kAdd K) (pe_slice (kSl K) (pv 2) (po_some pe_int) (po_some (pe_op (kAdd K) pe_int (pv 5)))) (pe_ix (kIx K) (pv 2) (pv 6) (fun _ _ => rfl)))))))))))))), ?_⟩)
  exact (s_seq (s_asg (d_str _) (g_name 2))
      (s_seq (s_asg (d_callP (d_cons (d_int 26) d_nil)) (g_name 3))
      (s_seq (s_asg (d_op ro_add (d_sl rs_sl (d_var 2) (do_some (d_var 3)) do_none) (d_sl rs_sl (d_var 2) do_none (do_some (d_var 3)))) (g_name 2))
      (s_seq (s_asg (d_callP (d_cons (d_int 3) d_nil)) (g_name 4))
      (s_seq (s_asg (d_callP (d_cons (d_int 8) d_nil)) (g_name 5))
      (s_seq (s_if (dt_test (d_op ro_eq (d_var 4) (d_int 0))) (s_retL (l_lc (i_rng1 (d_cons (d_var 1) d_nil)) (g_name 6) (by decide) dt_yes (d_op ro_mulC (d_op ro_ix (d_var 2) (d_int 0)) (d_op ro_add (d_int 1) (d_op ro_mod (d_op ro_add (d_var 5) (d_var 6)) (d_int 8)))))) s_nx)
      (s_seq (s_if (dt_test (d_op ro_eq (d_var 4) (d_int 1))) (s_retL (l_lc (i_rng1 (d_cons (d_var 1) d_nil)) (g_name 6) (by decide) dt_yes (d_op ro_add (d_op ro_ix (d_var 2) (d_var 6)) (d_sl rs_sl (d_var 2) (do_some (d_int 5)) (do_some (d_op ro_add (d_int 5) (d_op ro_mod (d_op ro_add (d_var 5) (d_op ro_mulC (d_int 3) (d_var 6))) (d_int 8)))))))) s_nx)
      (s_retL (l_lc (i_rng1 (d_cons (d_var 1) d_nil)) (g_name 6) (by decide) dt_yes (d_op ro_add (d_sl rs_sl (d_var 2) (do_some (d_int 5)) (do_some (d_op ro_add (d_int 5) (d_var 5)))) (d_op ro_ix (d_var 2) (d_var 6))))))))))))
theorem b__law_set (T : TX K mg) : Binds K T.f__law_set.fd ["_law_pack_here", "_law_signs"] [] := T.f__law_set.F.bindsN fun _ _ _ _ _ _ us hl => match us, hl with | [_, _], _ => rfl
set_option maxHeartbeats 4000000 in
theorem ok__law_set (T : TX K mg) : FnOk WD.P WD.w K mg base (L2.CX WD.P WD.w) 2 T.f__law_set.f T.f__law_set.fd ["_law_pack_here", "_law_signs"] (spF ⟨K, C⟩ 2 m__law_set) := by
  refine fn_ok T.f__law_set.F sc__law_set (fun cdv A outer s H E hr tk po => ⟨_, (pss_cons (ps_set (i := 2) sc__law_set.nd rfl (Or.inr rfl) (pe_op (kAdd K) pe_int (pe_callS (ok__law_take (C := C) T) (hr.mono (by decide)) (by rfl) T.f__law_take.g T.f__law_take.F.kp (b__law_take T) (fun σ => passAt tk σ) (pa_cons (pv 0) (pa_cons (pe_op op_sub (pe_op op_shl pe_int (pe_callB (kLen K) (by rfl) T.m_len PySem.boot_len (pa_cons (pv 1) pa_nil))) pe_int) pa_nil)))))
      (pss_one (ps_ret (pe_m1 PySem.F.slot_str_join PySem.F.type_str_join (kJoin K) pe_str (pe_lc (own := [("_law_k", 3)]) rfl sc__law_set.nd (pi_range1 (by rfl) T.m_range (pa_cons (pe_callB (kLen K) (by rfl) T.m_len PySem.boot_len (pa_cons (pv 1) pa_nil)) pa_nil)) (blkOk_by (own := [("_law_k", 3)]) (N := N__law_set) (sc := defScope st__law_set) (by decide +kernel)) (fun _ _ _ _ _ => (pg_name (i := 3) sc__law_set.nd rfl (by first | exact Or.inl rfl | exact Or.inr rfl))) (fun _ _ _ _ _ => (pts_one (pt_cmpR (kEq K (hu := hr.units)) (pe_op op_mod (pe_op op_fdivW (pv 2) (pe_op op_shl pe_int (pv 3))) pe_int) pe_int (nomark _)))) (fun _ _ _ _ _ => (pe_ix (kIx K) (pv 1) (pv 3) (fun _ _ => rfl)))))))), ?_⟩)
  exact (s_seq (s_asg (d_op ro_add (d_int 1) (d_callP (d_cons (d_op ro_sub (d_op ro_shl (d_int 1) (d_cb rc_len (d_cons (d_var 1) d_nil))) (d_int 1)) d_nil))) (g_name 2))
      (s_ret (d_m1 rm_join (d_str _) (d_ofL (l_lc (i_rng1 (d_cons (d_cb rc_len (d_cons (d_var 1) d_nil)) d_nil)) (g_name 3) (by decide) (dt_test (d_op ro_eq (d_op ro_mod (d_op ro_fdiv (d_var 2) (d_op ro_shl (d_int 1) (d_var 3))) (d_int 2)) (d_int 1))) (d_op ro_ix (d_var 1) (d_var 3)))))))
theorem b__law_pattern (T : TX K mg) : Binds K T.f__law_pattern.fd ["_law_pack_here", "_law_signs"] [] := T.f__law_pattern.F.bindsN fun _ _ _ _ _ _ us hl => match us, hl with | [_, _], _ => rfl
set_option maxHeartbeats 4000000 in
theorem ok__law_pattern (T : TX K mg) : FnOk WD.P WD.w K mg base (L2.CX WD.P WD.w) 3 T.f__law_pattern.f T.f__law_pattern.fd ["_law_pack_here", "_law_signs"] (spF ⟨K, C⟩ 2 m__law_pattern) := by
  refine fn_ok T.f__law_pattern.F sc__law_pattern (fun cdv A outer s H E hr tk po => ⟨_, (pss_cons (ps_set (i := 2) sc__law_pattern.nd rfl (Or.inl rfl) (pe_ix (kIx K) (pe_lst (pa_cons pe_str (pa_cons pe_str (pa_cons pe_str (pa_cons pe_str (pa_cons pe_str (pa_cons pe_str pa_nil))))))) (pe_callS (ok__law_take (C := C) T) (hr.mono (by decide)) (by rfl) T.f__law_take.g T.f__law_take.F.kp (b__law_take T) (fun σ => passAt tk σ) (pa_cons (pv 0) (pa_cons pe_int pa_nil))) (fun _ _ => rfl)))
      (pss_cons (ps_if (pt_cmpR (kEq K (hu := hr.units)) (pv 2) pe_str (nomark _)) (pss_one (ps_ret (pe_tupN (pa_cons (pv 2) (pa_cons (pe_callS (ok__law_set (C := C) T) (hr.mono (by decide)) (by rfl) T.f__law_set.g T.f__law_set.F.kp (b__law_set T) (fun σ => passAt tk σ) (pa_cons (pv 0) (pa_cons (pe_op (kAdd K) pe_str (pv 1)) pa_nil))) (pa_cons (pe_callS (ok__law_set (C := C) T) (hr.mono (by decide)) (by rfl) T.f__law_set.g T.f__law_set.F.kp (b__law_set T) (fun σ => passAt tk σ) (pa_cons (pv 0) (pa_cons (pe_op (kAdd K) pe_str (pv 1)) pa_nil))) pa_nil)))))) pss_nil)
      (pss_cons (ps_if (pt_cmpR (kEq K (hu := hr.units)) (pv 2) pe_str (nomark _)) (pss_one (ps_ret (pe_tupN (pa_cons (pv 2) (pa_cons (pe_callS (ok__law_set (C := C) T) (hr.mono (by decide)) (by rfl) T.f__law_set.g T.f__law_set.F.kp (b__law_set T) (fun σ => passAt tk σ) (pa_cons (pv 0) (pa_cons (pv 1) pa_nil))) (pa_cons (pe_callS (ok__law_set (C := C) T) (hr.mono (by decide)) (by rfl) T.f__law_set.g T.f__law_set.F.kp (b__law_set T) (fun σ => passAt tk σ) (pa_cons (pv 0) (pa_cons (pv 1) pa_nil))) pa_nil)))))) pss_nil)
      (pss_one (ps_ret (pe_tupN (pa_cons (pv 2) (pa_cons (pe_callS (ok__law_set (C := C) T) (hr.mono (by decide)) (by rfl) T.f__law_set.g T.f__law_set.F.kp (b__law_set T) (fun σ => passAt tk σ) (pa_cons (pv 0) (pa_cons (pv 1) pa_nil))) pa_nil)))))))), ?_⟩)
  exact (s_seq (s_asg (d_op ro_ix (d_ofL (l_lst (d_cons (d_str _) (d_cons (d_str _) (d_cons (d_str _) (d_cons (d_str _) (d_cons (d_str _) (d_cons (d_str _) d_nil)))))))) (d_callP (d_cons (d_int 6) d_nil))) (g_name 2))
      (s_seq (s_if (dt_test (d_op ro_eq (d_var 2) (d_str _))) (s_ret (d_tup (d_cons (d_var 2) (d_cons (d_callP (d_cons (d_op ro_add (d_str _) (d_var 1)) d_nil)) (d_cons (d_callP (d_cons (d_op ro_add (d_str _) (d_var 1)) d_nil)) d_nil))))) s_nx)
      (s_seq (s_if (dt_test (d_op ro_eq (d_var 2) (d_str _))) (s_ret (d_tup (d_cons (d_var 2) (d_cons (d_callP (d_cons (d_var 1) d_nil)) (d_cons (d_callP (d_cons (d_var 1) d_nil)) d_nil))))) s_nx)
      (s_ret (d_tup (d_cons (d_var 2) (d_cons (d_callP (d_cons (d_var 1) d_nil)) d_nil)))))))
theorem b__law_code (T : TX K mg) : Binds K T.f__law_code.fd ["_law_pack_here", "_law_most"] [] := T.f__law_code.F.bindsN fun _ _ _ _ _ _ us hl => match us, hl with | [_, _], _ => rfl
set_option maxHeartbeats 4000000 in
theorem ok__law_code (T : TX K mg) : FnOk WD.P WD.w K mg base (L2.CX WD.P WD.w) 4 T.f__law_code.f T.f__law_code.fd ["_law_pack_here", "_law_most"] (spF ⟨K, C⟩ 2 m__law_code) := by
  refine fn_ok T.f__law_code.F sc__law_code (fun cdv A outer s H E hr tk po => ⟨_, (pss_cons (ps_set (i := 2) sc__law_code.nd rfl (Or.inl rfl) (pe_ix (kIx K) (pe_lst (pa_cons pe_str (pa_cons pe_str (pa_cons pe_str (pa_cons pe_str (pa_cons pe_str (pa_cons pe_str pa_nil))))))) (pe_callS (ok__law_take (C := C) T) (hr.mono (by decide)) (by rfl) T.f__law_take.g T.f__law_take.F.kp (b__law_take T) (fun σ => passAt tk σ) (pa_cons (pv 0) (pa_cons pe_int pa_nil))) (fun _ _ => rfl)))
      (pss_cons (ps_set (i := 3) sc__law_code.nd rfl (Or.inl rfl) (pe_callS (ok__law_names (C := C) T) (hr.mono (by decide)) (by rfl) T.f__law_names.g T.f__law_names.F.kp (b__law_names T) (fun σ => passAt tk σ) (pa_cons (pv 0) (pa_cons (pe_op (kAdd K) pe_int (pe_callS (ok__law_take (C := C) T) (hr.mono (by decide)) (by rfl) T.f__law_take.g T.f__law_take.F.kp (b__law_take T) (fun σ => passAt tk σ) (pa_cons (pv 0) (pa_cons (pv 1) pa_nil)))) pa_nil))))
      (pss_cons (ps_set (i := 4) sc__law_code.nd rfl (Or.inl rfl) (pe_callS (ok__law_take (C := C) T) (hr.mono (by decide)) (by rfl) T.f__law_take.g T.f__law_take.F.kp (b__law_take T) (fun σ => passAt tk σ) (pa_cons (pv 0) (pa_cons pe_int pa_nil))))
      (pss_cons (ps_set (i := 5) sc__law_code.nd rfl (Or.inl rfl) (pe_lst pa_nil))
      (pss_cons (ps_for po rfl (kPiList K (pv 3)) (pg_name (i := 6) sc__law_code.nd rfl (Or.inl rfl)) (pss_cons (ps_set (i := 7) sc__law_code.nd rfl (Or.inl rfl) (pe_lst pa_nil))
      (pss_cons (ps_for po rfl (pi_range1 (by rfl) T.m_range (pa_cons (pe_op (kAdd K) pe_int (pe_op op_fdivW (pe_callS (ok__law_take (C := C) T) (hr.mono (by decide)) (by rfl) T.f__law_take.g T.f__law_take.F.kp (b__law_take T) (fun σ => passAt tk σ) (pa_cons (pv 0) (pa_cons pe_int pa_nil))) pe_int)) pa_nil)) (pg_name (i := 8) sc__law_code.nd rfl (Or.inl rfl)) (pss_one (ps_expr (pe_bm PySem.F.plainAttrs_list PySem.F.slot_list_append PySem.F.type_list_append mt_append (pv 7) (pa_cons (pe_tupN (pa_cons (pe_callS (ok__law_pattern (C := C) T) (hr.mono (by decide)) (by rfl) T.f__law_pattern.g T.f__law_pattern.F.kp (b__law_pattern T) (fun σ => passAt tk σ) (pa_cons (pv 0) (pa_cons (pv 2) pa_nil))) (pa_cons (pe_op (kAdd K) pe_int (pe_op op_fdivW (pe_callS (ok__law_take (C := C) T) (hr.mono (by decide)) (by rfl) T.f__law_take.g T.f__law_take.F.kp (b__law_take T) (fun σ => passAt tk σ) (pa_cons (pv 0) (pa_cons pe_int pa_nil))) pe_int)) pa_nil))) pa_nil)))))
      (pss_one (ps_expr (pe_bm PySem.F.plainAttrs_list PySem.F.slot_list_append PySem.F.type_list_append mt_append (pv 5) (pa_cons (pe_tupN (pa_cons (pv 6) (pa_cons (pe_callTy (kTupleB K (hc := rfl)) (by rfl) T.m_tuple boot_tuple (pa_cons (pv 7) pa_nil)) pa_nil))) pa_nil)))))))
      (pss_cons (ps_if ((pw_and (pt_cmpR op_gt (pv 4) pe_int (nomark _)) (pw_and1 (pt_cmpR op_gt (pe_callB (kLen K) (by rfl) T.m_len PySem.boot_len (pa_cons (pv 5) pa_nil)) pe_int (nomark _))))).pt (pss_cons (ps_set (i := 9) sc__law_code.nd rfl (Or.inl rfl) (pe_tupN (pa_cons (pe_tupN (pa_cons (pe_tupN (pa_cons pe_str (pa_cons (pv 2) pa_nil))) (pa_cons pe_int pa_nil))) (pa_cons (pe_tupN (pa_cons (pe_tupN (pa_cons pe_str (pa_cons (pv 2) pa_nil))) (pa_cons pe_int pa_nil))) (pa_cons (pe_tupN (pa_cons (pe_tupN (pa_cons pe_str (pa_cons (pv 2) (pa_cons (pv 2) pa_nil)))) (pa_cons pe_int pa_nil))) pa_nil)))))
      (pss_one (ps_asg (pe_tupN (pa_cons (pe_ix (kIx K) (pe_ix (kIx K) (pv 5) (pe_un un_neg pe_int) (fun _ _ => rfl)) pe_int (fun _ _ => rfl)) (pa_cons (pe_slice (kSl K) (pv 9) po_none (po_some (pe_op (kAdd K) (pv 4) pe_int))) pa_nil))) (pg_sub (pv 5) (pe_un un_neg pe_int) set_list)))) pss_nil)
      (pss_one (ps_ret (pe_tupN (pa_cons (pv 2) (pa_cons (pe_callTy (kTupleB K (hc := rfl)) (by rfl) T.m_tuple boot_tuple (pa_cons (pv 5) pa_nil)) pa_nil))))))))))), ?_⟩)
  exact (s_seq (s_asg (d_op ro_ix (d_ofL (l_lst (d_cons (d_str _) (d_cons (d_str _) (d_cons (d_str _) (d_cons (d_str _) (d_cons (d_str _) (d_cons (d_str _) d_nil)))))))) (d_callP (d_cons (d_int 6) d_nil))) (g_name 2))
      (s_seq (s_asg (d_ofL (l_callP (d_cons (d_op ro_add (d_int 1) (d_callP (d_cons (d_var 1) d_nil))) d_nil))) (g_name 3))
      (s_seq (s_asg (d_callP (d_cons (d_int 3) d_nil)) (g_name 4))
      (s_seq (s_setO (l_lst d_nil))
      (s_seq (s_for (i_list (d_var 3)) (g_name 6) (s_seq (s_setO (l_lst d_nil))
      (s_seq (s_for (i_rng1 (d_cons (d_op ro_add (d_int 1) (d_op ro_fdiv (d_callP (d_cons (d_int 6) d_nil)) (d_int 3))) d_nil)) (g_name 8) (s_app (d_tup (d_cons (d_callP (d_cons (d_var 2) d_nil)) (d_cons (d_op ro_add (d_int 1) (d_op ro_fdiv (d_callP (d_cons (d_int 6) d_nil)) (d_int 4))) d_nil)))))
      (s_app (d_tup (d_cons (d_var 6) (d_cons (d_cb rc_tupleA (d_cons (d_own 7) d_nil)) d_nil)))))))
      (s_seq (s_if (dt_and (dt_test (d_op ro_gt (d_var 4) (d_int 0))) (dt_test (d_op ro_gt (d_cb rc_len (d_cons (d_own 5) d_nil)) (d_int 1)))) (s_seq (s_asg (d_tup (d_cons (d_tup (d_cons (d_tup (d_cons (d_str _) (d_cons (d_var 2) d_nil))) (d_cons (d_int 1) d_nil))) (d_cons (d_tup (d_cons (d_tup (d_cons (d_str _) (d_cons (d_var 2) d_nil))) (d_cons (d_int 1) d_nil))) (d_cons (d_tup (d_cons (d_tup (d_cons (d_str _) (d_cons (d_var 2) (d_cons (d_var 2) d_nil)))) (d_cons (d_int 1) d_nil))) d_nil)))) (g_name 9))
      (s_setI (d_tup (d_cons (d_op ro_ix (d_op ro_ix (d_own 5) (d_un ru_neg (d_int 1))) (d_int 0)) (d_cons (d_sl rs_sl (d_var 9) do_none (do_some (d_op ro_add (d_var 4) (d_int 1)))) d_nil))) (d_un ru_neg (d_int 1)))) s_nx)
      (s_ret (d_tup (d_cons (d_var 2) (d_cons (d_cb rc_tupleA (d_cons (d_own 5) d_nil)) d_nil))))))))))
theorem b__law_mixed (T : TX K mg) : Binds K T.f__law_mixed.fd ["_law_cell"] [] := T.f__law_mixed.F.bindsN fun _ _ _ _ _ _ us hl => match us, hl with | [_], _ => rfl
set_option maxHeartbeats 4000000 in
theorem ok__law_mixed (T : TX K mg) : FnOk WD.P WD.w K mg base (L2.CX WD.P WD.w) 1 T.f__law_mixed.f T.f__law_mixed.fd ["_law_cell"] (spF ⟨K, C⟩ 1 m__law_mixed) := by
  refine fn_ok T.f__law_mixed.F sc__law_mixed (fun cdv A outer s H E hr tk po => ⟨_, (pss_one (ps_ret (pe_op op_mod (pe_op (kMulC K) (pv 0) pe_int) (pe_op op_pow pe_int pe_int)))), ?_⟩)
  exact (s_ret (d_op ro_mod (d_op ro_mulC (d_var 0) (d_int 915965594177219015054603514932384110774149374281672134266497)) (d_op ro_pow (d_int 10) (d_int 60))))
theorem b__law_pack (T : TX K mg) : Binds K T.f__law_pack.fd ["_law_script", "_law_k"] [] := T.f__law_pack.F.bindsN fun _ _ _ _ _ _ us hl => match us, hl with | [_, _], _ => rfl
set_option maxHeartbeats 4000000 in
theorem ok__law_pack (T : TX K mg) : FnOk WD.P WD.w K mg base (L2.CX WD.P WD.w) 2 T.f__law_pack.f T.f__law_pack.fd ["_law_script", "_law_k"] (spF ⟨K, C⟩ 2 m__law_pack) := by
  refine fn_ok T.f__law_pack.F sc__law_pack (fun cdv A outer s H E hr tk po => ⟨_, (pss_cons (ps_if (pt_cmpR opLt (pv 1) (pe_callB (kLen K) (by rfl) T.m_len PySem.boot_len (pa_cons (pv 0) pa_nil)) (nomark _)) (pss_one (ps_ret (pe_lst (pa_cons (pe_callS (ok__law_mixed (C := C) T) (hr.mono (by decide)) (by rfl) T.f__law_mixed.g T.f__law_mixed.F.kp (b__law_mixed T) (fun σ => passAt tk σ) (pa_cons (pe_op (kAdd K) (pe_ix (kIx K) (pv 0) (pv 1) (fun _ _ => rfl)) (pe_op (kMulC K) pe_int (pv 1))) pa_nil)) pa_nil)))) pss_nil)
      (pss_one (ps_ret (pe_lst (pa_cons (pe_callS (ok__law_mixed (C := C) T) (hr.mono (by decide)) (by rfl) T.f__law_mixed.g T.f__law_mixed.F.kp (b__law_mixed T) (fun σ => passAt tk σ) (pa_cons (pe_op (kAdd K) (pe_op (kMulC K) pe_int (pv 1)) pe_int) pa_nil)) pa_nil))))), ?_⟩)
  exact (s_seq (s_if (dt_test (d_op ro_lt (d_var 1) (d_cb rc_len (d_cons (d_var 0) d_nil)))) (s_retL (l_lst (d_cons (d_call (d_cons (d_op ro_add (d_op ro_ix (d_var 0) (d_var 1)) (d_op ro_mulC (d_int 41) (d_var 1))) d_nil)) d_nil))) s_nx)
      (s_retL (l_lst (d_cons (d_call (d_cons (d_op ro_add (d_op ro_mulC (d_int 6131) (d_var 1)) (d_int 17)) d_nil)) d_nil))))
theorem b__law_only (T : TX K mg) : Binds K T.f__law_only.fd ["_law_e", "_law_at"] [] := T.f__law_only.F.bindsN fun _ _ _ _ _ _ us hl => match us, hl with | [_, _], _ => rfl
set_option maxHeartbeats 4000000 in
theorem ok__law_only (T : TX K mg) : FnOk WD.P WD.w K mg base (L2.CX WD.P WD.w) 1 T.f__law_only.f T.f__law_only.fd ["_law_e", "_law_at"] (spF ⟨K, C⟩ 2 m__law_only) := by
  refine fn_ok T.f__law_only.F sc__law_only (fun cdv A outer s H E hr tk po => ⟨_, (pss_cons (ps_set (i := 2) sc__law_only.nd rfl (Or.inl rfl) (pe_lst (pa_cons (pe_callB (kIsT K) (by rfl) T.m_isinstance boot_isinstance (pa_cons (pv 0) (pa_cons (pe_glob (v := .ref (cA K "NoText")) (by rfl) T.y_NoText rfl) pa_nil))) (pa_cons (pe_callB (kIsT K) (by rfl) T.m_isinstance boot_isinstance (pa_cons (pv 0) (pa_cons (pe_glob (v := .ref (cA K "NoOrder")) (by rfl) T.y_NoOrder rfl) pa_nil))) (pa_cons (pe_callB (kIsT K) (by rfl) T.m_isinstance boot_isinstance (pa_cons (pv 0) (pa_cons (pe_glob (v := .ref (cA K "NoWord")) (by rfl) T.y_NoWord rfl) pa_nil))) (pa_cons (pe_callB (kIsT K) (by rfl) T.m_isinstance boot_isinstance (pa_cons (pv 0) (pa_cons (pe_glob (v := .ref (cA K "NoNumber")) (by rfl) T.y_NoNumber rfl) pa_nil))) pa_nil))))))
      (pss_cons (ps_set (i := 2) sc__law_only.nd rfl (Or.inl rfl) (pe_op (kAdd K) (pv 2) (pe_lst (pa_cons (pe_callB (kIsT K) (by rfl) T.m_isinstance boot_isinstance (pa_cons (pv 0) (pa_cons (pe_glob (v := .ref (cA K "NoForm")) (by rfl) T.y_NoForm rfl) pa_nil))) (pa_cons (pe_callB (kIsT K) (by rfl) T.m_isinstance boot_isinstance (pa_cons (pv 0) (pa_cons (pe_glob (v := .ref (cA K "NoTelling")) (by rfl) T.y_NoTelling rfl) pa_nil))) (pa_cons (pe_callB (kIsT K) (by rfl) T.m_isinstance boot_isinstance (pa_cons (pv 0) (pa_cons (pe_glob (v := .ref (cA K "NoBook")) (by rfl) T.y_NoBook rfl) pa_nil))) (pa_cons (pe_callB (kIsT K) (by rfl) T.m_isinstance boot_isinstance (pa_cons (pv 0) (pa_cons (pe_glob (v := .ref (cA K "TooMany")) (by rfl) T.y_TooMany rfl) pa_nil))) pa_nil)))))))
      (pss_cons (ps_set (i := 2) sc__law_only.nd rfl (Or.inl rfl) (pe_op (kAdd K) (pv 2) (pe_lst (pa_cons (pe_callB (kIsT K) (by rfl) T.m_isinstance boot_isinstance (pa_cons (pv 0) (pa_cons (pe_glob (v := .ref (cA K "NoWeights")) (by rfl) T.y_NoWeights rfl) pa_nil))) (pa_cons (pe_callB (kIsT K) (by rfl) T.m_isinstance boot_isinstance (pa_cons (pv 0) (pa_cons (pe_glob (v := .ref (cA K "NoCall")) (by rfl) T.y_NoCall rfl) pa_nil))) (pa_cons (pe_callB (kIsT K) (by rfl) T.m_isinstance boot_isinstance (pa_cons (pv 0) (pa_cons (pe_glob (v := .ref (cA K "NoKept")) (by rfl) T.y_NoKept rfl) pa_nil))) pa_nil))))))
      (pss_cons (ps_if ((pw_or (pt_not (pt_val (pe_callB (kIsT K) (by rfl) T.m_isinstance boot_isinstance (pa_cons (pv 0) (pa_cons (pe_glob (v := .ref (cA K "LadderError")) (by rfl) T.y_LadderError rfl) pa_nil))))) (pw_or1 (pt_not (pt_val (pe_callB (kIsT K) (by rfl) T.m_isinstance boot_isinstance (pa_cons (pv 0) (pa_cons (pe_bltn (v := .ty "ValueError") (by rfl) T.m_ValueError (by rfl) rfl) pa_nil)))))))).pt (pss_one (ps_ret pe_bl)) pss_nil)
      (pss_one (ps_ret (pe_cmpR (kEq K (hu := hr.units)) (pv 2) (pe_lc (own := [("_law_k", 3)]) rfl sc__law_only.nd (pi_range1 (by rfl) T.m_range (pa_cons pe_int pa_nil)) (blkOk_by (own := [("_law_k", 3)]) (N := N__law_only) (sc := defScope st__law_only) (by decide +kernel)) (fun _ _ _ _ _ => (pg_name (i := 3) sc__law_only.nd rfl (by first | exact Or.inl rfl | exact Or.inr rfl))) (fun _ _ _ _ _ => pts_nil) (fun _ _ _ _ _ => (pe_cmpR (kEq K (hu := hr.units)) (pv 3) (pv 1) (nomark _)))) (nomark _)))))))), ?_⟩)
  exact (s_seq (s_asg (d_ofL (l_lst (d_cons (d_isX (cv := .ref (cA K "NoText")) (cu := .ref (cA K "NoText")) (fun _ h => h) (T.x_is "NoText" (by decide))) (d_cons (d_isX (cv := .ref (cA K "NoOrder")) (cu := .ref (cA K "NoOrder")) (fun _ h => h) (T.x_is "NoOrder" (by decide))) (d_cons (d_isX (cv := .ref (cA K "NoWord")) (cu := .ref (cA K "NoWord")) (fun _ h => h) (T.x_is "NoWord" (by decide))) (d_cons (d_isX (cv := .ref (cA K "NoNumber")) (cu := .ref (cA K "NoNumber")) (fun _ h => h) (T.x_is "NoNumber" (by decide))) d_nil)))))) (g_name 2))
      (s_seq (s_asg (d_op ro_add (d_var 2) (d_ofL (l_lst (d_cons (d_isX (cv := .ref (cA K "NoForm")) (cu := .ref (cA K "NoForm")) (fun _ h => h) (T.x_is "NoForm" (by decide))) (d_cons (d_isX (cv := .ref (cA K "NoTelling")) (cu := .ref (cA K "NoTelling")) (fun _ h => h) (T.x_is "NoTelling" (by decide))) (d_cons (d_isX (cv := .ref (cA K "NoBook")) (cu := .ref (cA K "NoBook")) (fun _ h => h) (T.x_is "NoBook" (by decide))) (d_cons (d_isX (cv := .ref (cA K "TooMany")) (cu := .ref (cA K "TooMany")) (fun _ h => h) (T.x_is "TooMany" (by decide))) d_nil))))))) (g_name 2))
      (s_seq (s_asg (d_op ro_add (d_var 2) (d_ofL (l_lst (d_cons (d_isX (cv := .ref (cA K "NoWeights")) (cu := .ref (cA K "NoWeights")) (fun _ h => h) (T.x_is "NoWeights" (by decide))) (d_cons (d_isX (cv := .ref (cA K "NoCall")) (cu := .ref (cA K "NoCall")) (fun _ h => h) (T.x_is "NoCall" (by decide))) (d_cons (d_isX (cv := .ref (cA K "NoKept")) (cu := .ref (cA K "NoKept")) (fun _ h => h) (T.x_is "NoKept" (by decide))) d_nil)))))) (g_name 2))
      (s_seq (s_if (dt_or (dt_not (dt_tB (d_isX (cv := .ref (cA K "LadderError")) (cu := .ref (cA K "LadderError")) (fun _ h => h) (T.x_is "LadderError" (by decide))))) (dt_not (dt_tB (d_isX (cv := .ty "ValueError") (cu := .type "ValueError") (fun _ h => h) T.x_isValueError)))) (s_ret (d_bl false)) s_nx)
      (s_ret (d_op ro_eq (d_var 2) (d_ofL (l_lc (i_rng1 (d_cons (d_int 11) d_nil)) (g_name 3) (by decide) dt_yes (d_op ro_eq (d_var 3) (d_var 1))))))))))
theorem b_is_text_of (T : TX K mg) : Binds K T.f_is_text_of.fd ["thing", "signs"] [] := T.f_is_text_of.F.bindsN fun _ _ _ _ _ _ us hl => match us, hl with | [_, _], _ => rfl
set_option maxHeartbeats 4000000 in
theorem ok_is_text_of (T : TX K mg) : FnOk WD.P WD.w K mg base (L2.CX WD.P WD.w) 1 T.f_is_text_of.f T.f_is_text_of.fd ["thing", "signs"] (spF ⟨K, C⟩ 2 m_is_text_of) := by
  refine fn_ok T.f_is_text_of.F sc_is_text_of (fun cdv A outer s H E hr tk po => ⟨_, (pss_one (ps_ret (pe_and (pe_callB (kIsi K) (by rfl) T.m_isinstance boot_isinstance (pa_cons (pv 0) (pa_cons (pe_bltn (v := .ty "str") (by rfl) T.m_str boot_str rfl) pa_nil))) (pe_one (pe_callB (kAll K (hc := rfl)) (by rfl) T.m_all bt_all (pa_cons (pe_lc (own := [("sign", 2)]) rfl sc_is_text_of.nd (pi_str (pv 0)) (blkOk_by (own := [("sign", 2)]) (N := N_is_text_of) (sc := defScope st_is_text_of) (by decide +kernel)) (fun _ _ _ _ _ => (pg_name (i := 2) sc_is_text_of.nd rfl (by first | exact Or.inl rfl | exact Or.inr rfl))) (fun _ _ _ _ _ => pts_nil) (fun _ _ _ _ _ => (pe_cmpR (kIn K (hu := u65 hr)) (pv 2) (pv 1) (by rfl)))) pa_nil)))))), ?_⟩)
  exact (s_ret (d_and (d_isi (d_var 0)) (d_cb rc_all (d_cons (d_ofL (l_lc (i_str (d_var 0)) (g_name 2) (by decide) dt_yes (d_op ro_in (d_var 2) (d_var 1)))) d_nil))))
theorem b_is_word (T : TX K mg) : Binds K T.f_is_word.fd ["code", "thing"] [] := T.f_is_word.F.bindsN fun _ _ _ _ _ _ us hl => match us, hl with | [_, _], _ => rfl
set_option maxHeartbeats 4000000 in
theorem ok_is_word (T : TX K mg) : FnOk WD.P WD.w K mg base (L2.CX WD.P WD.w) 2 T.f_is_word.f T.f_is_word.fd ["code", "thing"] (spF ⟨K, C⟩ 2 m_is_word) := by
  obtain ⟨t_MOST_WORD, c_MOST_WORD⟩ := T.c_MOST_WORD
  refine fn_ok T.f_is_word.F sc_is_word (fun cdv A outer s H E hr tk po => ⟨_, (pss_one (ps_ret (pe_and (pe_callS (ok_is_text_of (C := C) T) (hr.mono (by decide)) (by rfl) T.f_is_text_of.g T.f_is_text_of.F.kp (b_is_text_of T) (fun σ => passAt tk σ) (pa_cons (pv 1) (pa_cons (pe_ix (kIx K) (pv 0) pe_int (fun _ _ => rfl)) pa_nil))) (pe_one (pe_cmpR op_le (pe_callB (kLen K) (by rfl) T.m_len PySem.boot_len (pa_cons (pv 1) pa_nil)) (pe_glob (v := .int 8) (by rfl) c_MOST_WORD ⟨_, rfl⟩) (nomark _)))))), ?_⟩)
  exact (s_ret (d_and (d_call (d_cons (d_var 1) (d_cons (d_op ro_ix (d_var 0) (d_int 0)) d_nil))) (d_op ro_le (d_cb rc_len (d_cons (d_var 1) d_nil)) (d_int 8))))
theorem b_check_word (T : TX K mg) : Binds K T.f_check_word.fd ["code", "word", "most"] [] := T.f_check_word.F.bindsN fun _ _ _ _ _ _ us hl => match us, hl with | [_, _, _], _ => rfl
set_option maxHeartbeats 4000000 in
theorem ok_check_word (T : TX K mg) : FnOk WD.P WD.w K mg base (L2.CX WD.P WD.w) 3 T.f_check_word.f T.f_check_word.fd ["code", "word", "most"] (spF ⟨K, C⟩ 3 m_check_word) := by
  refine fn_ok T.f_check_word.F sc_check_word (fun cdv A outer s H E hr tk po => ⟨_, (pss_one (ps_if ((pw_or (pt_not (pt_val (pe_callS (ok_is_word (C := C) T) (hr.mono (by decide)) (by rfl) T.f_is_word.g T.f_is_word.F.kp (b_is_word T) (fun σ => passAt tk σ) (pa_cons (pv 0) (pa_cons (pv 1) pa_nil))))) (pw_or1 (pt_cmpR op_gt (pe_callB (kLen K) (by rfl) T.m_len PySem.boot_len (pa_cons (pv 1) pa_nil)) (pv 2) (nomark _))))).pt (pss_one (k_raise K rfl tk T.x_NoWord (by rfl))) pss_nil)), ?_⟩)
  exact (s_if (dt_or (dt_not (dt_tB (d_call (d_cons (d_var 0) (d_cons (d_var 1) d_nil))))) (dt_test (d_op ro_gt (d_cb rc_len (d_cons (d_var 1) d_nil)) (d_var 2)))) s_raise s_nx)
theorem b_check_words (T : TX K mg) : Binds K T.f_check_words.fd ["code", "words"] [] := T.f_check_words.F.bindsN fun _ _ _ _ _ _ us hl => match us, hl with | [_, _], _ => rfl
set_option maxHeartbeats 4000000 in
theorem ok_check_words (T : TX K mg) : FnOk WD.P WD.w K mg base (L2.CX WD.P WD.w) 4 T.f_check_words.f T.f_check_words.fd ["code", "words"] (spF ⟨K, C⟩ 2 m_check_words) := by
  obtain ⟨t_MOST_SIGNS_HERE, c_MOST_SIGNS_HERE⟩ := T.c_MOST_SIGNS_HERE
  obtain ⟨t_MOST_WORDS, c_MOST_WORDS⟩ := T.c_MOST_WORDS
  refine fn_ok T.f_check_words.F sc_check_words (fun cdv A outer s H E hr tk po => ⟨_, (pss_cons (ps_if ((pw_or (pt_not (pt_val (pe_callB (kIsi K) (by rfl) T.m_isinstance boot_isinstance (pa_cons (pv 1) (pa_cons (pe_bltn (v := .ty "tuple") (by rfl) T.m_tuple boot_tuple rfl) pa_nil))))) (pw_or1 (pt_not (pt_chain op_le op_le pe_int (pe_callB (kLen K) (by rfl) T.m_len PySem.boot_len (pa_cons (pv 1) pa_nil)) (pe_glob (v := .int 4) (by rfl) c_MOST_WORDS ⟨_, rfl⟩)))))).pt (pss_one (k_raise K rfl tk T.x_NoWord (by rfl))) pss_nil)
      (pss_cons (ps_for po rfl (kPiTup K (pv 1)) (pg_name (i := 2) sc_check_words.nd rfl (Or.inl rfl)) (pss_one (ps_expr (pe_callS (ok_check_word (C := C) T) (hr.mono (by decide)) (by rfl) T.f_check_word.g T.f_check_word.F.kp (b_check_word T) (fun σ => passAt tk σ) (pa_cons (pv 0) (pa_cons (pv 2) (pa_cons (pe_glob (v := .int 4) (by rfl) c_MOST_SIGNS_HERE ⟨_, rfl⟩) pa_nil)))))))
      (pss_one (ps_if (pt_cmpR opLt (pe_lenSetTu K rfl (by rfl) T.m_len (by rfl) T.m_set (pv 1)) (pe_callB (kLen K) (by rfl) T.m_len PySem.boot_len (pa_cons (pv 1) pa_nil)) (nomark _)) (pss_one (k_raise K rfl tk T.x_NoWord (by rfl))) pss_nil)))), ?_⟩)
  exact (s_seq (s_if (dt_or (dt_not (dt_tB (d_isi (d_var 1)))) (dt_not (dt_test (d_chain ro_le ro_le (d_int 1) (d_cb rc_len (d_cons (d_var 1) d_nil)) (d_int 4))))) s_raise s_nx)
      (s_seq (s_for (i_tup (d_var 1)) (g_name 2) (s_drop (d_call (d_cons (d_var 0) (d_cons (d_var 2) (d_cons (d_int 4) d_nil))))))
      (s_if (dt_test (d_op ro_lt (d_un ru_lenSetTu (d_var 1)) (d_cb rc_len (d_cons (d_var 1) d_nil)))) s_raise s_nx)))
theorem b_wish_names (T : TX K mg) : Binds K T.f_wish_names.fd ["code"] [] := T.f_wish_names.F.bindsN fun _ _ _ _ _ _ us hl => match us, hl with | [_], _ => rfl
set_option maxHeartbeats 4000000 in
theorem ok_wish_names (T : TX K mg) : FnOk WD.P WD.w K mg base (L2.CX WD.P WD.w) 1 T.f_wish_names.f T.f_wish_names.fd ["code"] (spF ⟨K, C⟩ 1 m_wish_names) := by
  refine fn_ok T.f_wish_names.F sc_wish_names (fun cdv A outer s H E hr tk po => ⟨_, (pss_one (ps_ret (pe_callTy (kTupleB K (hc := rfl)) (by rfl) T.m_tuple boot_tuple (pa_cons (pe_lc (own := [("wish", 1)]) rfl sc_wish_names.nd (kPiTup K (pe_ix (kIx K) (pv 0) pe_int (fun _ _ => rfl))) (blkOk_by (own := [("wish", 1)]) (N := N_wish_names) (sc := defScope st_wish_names) (by decide +kernel)) (fun _ _ _ _ _ => (pg_name (i := 1) sc_wish_names.nd rfl (by first | exact Or.inl rfl | exact Or.inr rfl))) (fun _ _ _ _ _ => pts_nil) (fun _ _ _ _ _ => (pe_ix (kIx K) (pv 1) pe_int (fun _ _ => rfl)))) pa_nil)))), ?_⟩)
  exact (s_ret (d_cb rc_tupleA (d_cons (d_ofL (l_lc (i_tup (d_op ro_ix (d_var 0) (d_int 1))) (g_name 1) (by decide) dt_yes (d_op ro_ix (d_var 1) (d_int 0)))) d_nil)))
theorem b_all_orders (T : TX K mg) : Binds K T.f_all_orders.fd ["code"] [] := T.f_all_orders.F.bindsN fun _ _ _ _ _ _ us hl => match us, hl with | [_], _ => rfl
set_option maxHeartbeats 4000000 in
theorem ok_all_orders (T : TX K mg) : FnOk WD.P WD.w K mg base (L2.CX WD.P WD.w) 2 T.f_all_orders.f T.f_all_orders.fd ["code"] (spF ⟨K, C⟩ 1 m_all_orders) := by
  refine fn_ok T.f_all_orders.F sc_all_orders (fun cdv A outer s H E hr tk po => ⟨_, (pss_cons (ps_set (i := 1) sc_all_orders.nd rfl (Or.inl rfl) (pe_lst (pa_cons (pe_tupN pa_nil) pa_nil)))
      (pss_cons (ps_set (i := 2) sc_all_orders.nd rfl (Or.inl rfl) (pe_callB (kSortedT K) (by rfl) T.m_sorted bt_sorted (pa_cons (pe_callS (ok_wish_names (C := C) T) (hr.mono (by decide)) (by rfl) T.f_wish_names.g T.f_wish_names.F.kp (b_wish_names T) (fun σ => passAt tk σ) (pa_cons (pv 0) pa_nil)) pa_nil)))
      (pss_cons (ps_for po rfl (kPiList K (pv 2)) (pg_name (i := 3) sc_all_orders.nd rfl (Or.inl rfl)) (pss_cons (ps_set (i := 4) sc_all_orders.nd rfl (Or.inl rfl) (pe_lst pa_nil))
      (pss_cons (ps_for po rfl (kPiList K (pv 1)) (pg_name (i := 5) sc_all_orders.nd rfl (Or.inr rfl)) (pss_one (ps_expr (pe_bm PySem.F.plainAttrs_list PySem.F.slot_list_extend PySem.F.type_list_extend mt_extend (pv 4) (pa_cons (pe_lc (own := [("name", 6)]) rfl sc_all_orders.nd (kPiList K (pv 2)) (blkOk_by (own := [("name", 6)]) (N := N_all_orders) (sc := defScope st_all_orders) (by decide +kernel)) (fun _ _ _ _ _ => (pg_name (i := 6) sc_all_orders.nd rfl (by first | exact Or.inl rfl | exact Or.inr rfl))) (fun _ _ _ _ _ => (pts_one (pt_cmpR (kNotIn K (hu := u65 hr)) (pv 6) (pv 5) (by rfl)))) (fun _ _ _ _ _ => (pe_op (kAdd K) (pv 5) (pe_tupN (pa_cons (pv 6) pa_nil))))) pa_nil)))))
      (pss_one (ps_set (i := 1) sc_all_orders.nd rfl (Or.inl rfl) (pv 4))))))
      (pss_one (ps_ret (pe_callTy (kTupleB K (hc := rfl)) (by rfl) T.m_tuple boot_tuple (pa_cons (pv 1) pa_nil))))))), ?_⟩)
  exact (s_seq (s_asg (d_ofL (l_lst (d_cons (d_tup d_nil) d_nil))) (g_name 1))
      (s_seq (s_asg (d_ofL (l_cb rcl_sortedT (d_cons (d_call (d_cons (d_var 0) d_nil)) d_nil))) (g_name 2))
      (s_seq (s_for (i_list (d_var 2)) (g_name 3) (s_seq (s_setO (l_lst d_nil))
      (s_seq (s_for (i_list (d_var 1)) (g_name 5) (s_ext (l_lc (i_list (d_var 2)) (g_name 6) (by decide) (dt_test (d_op ro_notIn (d_var 6) (d_var 5))) (d_op ro_add (d_var 5) (d_tup (d_cons (d_var 6) d_nil))))))
      (s_frz 4 (s_asg (d_var 4) (g_name 1))))))
      (s_ret (d_cb rc_tupleA (d_cons (d_var 1) d_nil))))))
theorem b_Road_counts_at (T : TX K mg) : Binds K T.f_Road_counts_at.fd ["self", "place", "last"] [] := T.f_Road_counts_at.F.bindsN fun _ _ _ _ _ _ us hl => match us, hl with | [_, _, _], _ => rfl
set_option maxHeartbeats 4000000 in
theorem ok_Road_counts_at (T : TX K mg) : FnOk WD.P WD.w K mg base (L2.CX WD.P WD.w) 1 (He.ma K (cA K "Road") "counts_at") T.f_Road_counts_at.fd ["self", "place", "last"] (spM ⟨K, C⟩ 3 m_Road_counts_at) := by
  refine fn_okM T.f_Road_counts_at.F sc_Road_counts_at (fun cdv A outer s H E hr tk po => ⟨_, (pss_one (ps_ret (pe_ix (kIx K) (pe_nget K (u9 hr) (kFld K (pv 0)) (pe_tupN (pa_cons (pv 1) (pa_cons (pv 2) pa_nil))) (fun _ _ => rfl)) pe_int (fun _ _ => rfl)))), ?_⟩)
  exact (s_ret (d_op ro_ix (d_pgetN (pl_fld T.y_Road.cl T.n_Road_known 0) (k_tup (ks_cons (k_var 1) (ks_cons (k_var 2) ks_nil)))) (d_int 0)))
theorem b_is_order (T : TX K mg) : Binds K T.f_is_order.fd ["code", "thing"] [] := T.f_is_order.F.bindsN fun _ _ _ _ _ _ us hl => match us, hl with | [_, _], _ => rfl
set_option maxHeartbeats 4000000 in
theorem ok_is_order (T : TX K mg) : FnOk WD.P WD.w K mg base (L2.CX WD.P WD.w) 2 T.f_is_order.f T.f_is_order.fd ["code", "thing"] (spF ⟨K, C⟩ 2 m_is_order) := by
  refine fn_ok T.f_is_order.F sc_is_order (fun cdv A outer s H E hr tk po => ⟨_, (pss_cons (ps_if ((pw_or (pt_not (pt_val (pe_callB (kIsi K) (by rfl) T.m_isinstance boot_isinstance (pa_cons (pv 1) (pa_cons (pe_bltn (v := .ty "tuple") (by rfl) T.m_tuple boot_tuple rfl) pa_nil))))) (pw_or1 (pt_not (pt_val (pe_callB (kAll K (hc := rfl)) (by rfl) T.m_all bt_all (pa_cons (pe_lc (own := [("name", 2)]) rfl sc_is_order.nd (kPiTup K (pv 1)) (blkOk_by (own := [("name", 2)]) (N := N_is_order) (sc := defScope st_is_order) (by decide +kernel)) (fun _ _ _ _ _ => (pg_name (i := 2) sc_is_order.nd rfl (by first | exact Or.inl rfl | exact Or.inr rfl))) (fun _ _ _ _ _ => pts_nil) (fun _ _ _ _ _ => (pe_callB (kIsi K) (by rfl) T.m_isinstance boot_isinstance (pa_cons (pv 2) (pa_cons (pe_bltn (v := .ty "str") (by rfl) T.m_str boot_str rfl) pa_nil))))) pa_nil))))))).pt (pss_one (ps_ret pe_bl)) pss_nil)
      (pss_one (ps_ret (pe_cmpR (kEq K (hu := hr.units)) (pe_callB (kSortedT K) (by rfl) T.m_sorted bt_sorted (pa_cons (pv 1) pa_nil)) (pe_callB (kSortedT K) (by rfl) T.m_sorted bt_sorted (pa_cons (pe_callS (ok_wish_names (C := C) T) (hr.mono (by decide)) (by rfl) T.f_wish_names.g T.f_wish_names.F.kp (b_wish_names T) (fun σ => passAt tk σ) (pa_cons (pv 0) pa_nil)) pa_nil)) (nomark _))))), ?_⟩)
  exact (s_seq (s_if (dt_or (dt_not (dt_tB (d_isi (d_var 1)))) (dt_not (dt_tB (d_cb rc_all (d_cons (d_ofL (l_lc (i_tup (d_var 1)) (g_name 2) (by decide) dt_yes (d_isi (d_var 2)))) d_nil))))) (s_ret (d_bl false)) s_nx)
      (s_ret (d_op ro_eq (d_ofL (l_cb rcl_sortedT (d_cons (d_var 1) d_nil))) (d_ofL (l_cb rcl_sortedT (d_cons (d_call (d_cons (d_var 0) d_nil)) d_nil))))))
theorem b_check_order (T : TX K mg) : Binds K T.f_check_order.fd ["code", "thing"] [] := T.f_check_order.F.bindsN fun _ _ _ _ _ _ us hl => match us, hl with | [_, _], _ => rfl
set_option maxHeartbeats 4000000 in
theorem ok_check_order (T : TX K mg) : FnOk WD.P WD.w K mg base (L2.CX WD.P WD.w) 3 T.f_check_order.f T.f_check_order.fd ["code", "thing"] (spF ⟨K, C⟩ 2 m_check_order) := by
  refine fn_ok T.f_check_order.F sc_check_order (fun cdv A outer s H E hr tk po => ⟨_, (pss_one (ps_if (pt_not (pt_val (pe_callS (ok_is_order (C := C) T) (hr.mono (by decide)) (by rfl) T.f_is_order.g T.f_is_order.F.kp (b_is_order T) (fun σ => passAt tk σ) (pa_cons (pv 0) (pa_cons (pv 1) pa_nil))))) (pss_one (k_raise K rfl tk T.x_NoOrder (by rfl))) pss_nil)), ?_⟩)
  exact (s_if (dt_not (dt_tB (d_call (d_cons (d_var 0) (d_cons (d_var 1) d_nil))))) s_raise s_nx)
theorem b_steps_of (T : TX K mg) : Binds K T.f_steps_of.fd ["code"] [] := T.f_steps_of.F.bindsN fun _ _ _ _ _ _ us hl => match us, hl with | [_], _ => rfl
set_option maxHeartbeats 4000000 in
theorem ok_steps_of (T : TX K mg) : FnOk WD.P WD.w K mg base (L2.CX WD.P WD.w) 1 T.f_steps_of.f T.f_steps_of.fd ["code"] (spF ⟨K, C⟩ 1 m_steps_of) := by
  refine fn_ok T.f_steps_of.F sc_steps_of (fun cdv A outer s H E hr tk po => ⟨_, (pss_cons (ps_setLc (i := 2) (own := [("sign", 1)]) rfl sc_steps_of.nd rfl rfl (sw_true rfl rfl rfl (by decide +kernel)) (pi_str (pe_ix (kIx K) (pv 0) pe_int (fun _ _ => rfl))) (blkOk_by (own := [("sign", 1)]) (N := N_steps_of) (sc := defScope st_steps_of) (by decide +kernel)) (fun _ _ _ _ _ => (pg_name (i := 1) sc_steps_of.nd rfl (by first | exact Or.inl rfl | exact Or.inr rfl))) (fun _ _ _ _ _ => pts_nil) (fun _ _ _ _ _ => (pe_tupN (pa_cons pe_str (pa_cons (pv 1) pa_nil)))))
      (pss_cons (ps_for po rfl (pi_str (pe_ix (kIx K) (pv 0) pe_int (fun _ _ => rfl))) (pg_name (i := 1) sc_steps_of.nd rfl (Or.inr rfl)) (pss_cons (ps_expr (pe_bm PySem.F.plainAttrs_list PySem.F.slot_list_append PySem.F.type_list_append mt_append (pv 2) (pa_cons (pe_tupN (pa_cons (pv 1) (pa_cons pe_str pa_nil))) pa_nil)))
      (pss_one (ps_expr (pe_bm PySem.F.plainAttrs_list PySem.F.slot_list_extend PySem.F.type_list_extend mt_extend (pv 2) (pa_cons (pe_lc (own := [("other", 3)]) rfl sc_steps_of.nd (pi_str (pe_ix (kIx K) (pv 0) pe_int (fun _ _ => rfl))) (blkOk_by (own := [("other", 3)]) (N := N_steps_of) (sc := defScope st_steps_of) (by decide +kernel)) (fun _ _ _ _ _ => (pg_name (i := 3) sc_steps_of.nd rfl (by first | exact Or.inl rfl | exact Or.inr rfl))) (fun _ _ _ _ _ => pts_nil) (fun _ _ _ _ _ => (pe_tupN (pa_cons (pv 1) (pa_cons (pv 3) pa_nil))))) pa_nil))))))
      (pss_one (ps_ret (pv 2))))), ?_⟩)
  exact (s_seq (s_setO (l_lc (i_str (d_op ro_ix (d_var 0) (d_int 0))) (g_name 1) (by decide) dt_yes (d_tup (d_cons (d_str _) (d_cons (d_var 1) d_nil)))))
      (s_seq (s_for (i_str (d_op ro_ix (d_var 0) (d_int 0))) (g_name 1) (s_seq (s_app (d_tup (d_cons (d_var 1) (d_cons (d_str _) d_nil))))
      (s_ext (l_lc (i_str (d_op ro_ix (d_var 0) (d_int 0))) (g_name 3) (by decide) dt_yes (d_tup (d_cons (d_var 1) (d_cons (d_var 3) d_nil)))))))
      (s_frz 2 (s_ret (d_var 2)))))
theorem b_steps_from (T : TX K mg) : Binds K T.f_steps_from.fd ["code", "word", "place"] [] := T.f_steps_from.F.bindsN fun _ _ _ _ _ _ us hl => match us, hl with | [_, _, _], _ => rfl
set_option maxHeartbeats 4000000 in
theorem ok_steps_from (T : TX K mg) : FnOk WD.P WD.w K mg base (L2.CX WD.P WD.w) 2 T.f_steps_from.f T.f_steps_from.fd ["code", "word", "place"] (spF ⟨K, C⟩ 3 m_steps_from) := by
  refine fn_ok T.f_steps_from.F sc_steps_from (fun cdv A outer s H E hr tk po => ⟨_, (pss_cons (ps_set (i := 3) sc_steps_from.nd rfl (Or.inl rfl) (pe_lst pa_nil))
      (pss_cons (ps_for po rfl (kPiList K (pe_callS (ok_steps_of (C := C) T) (hr.mono (by decide)) (by rfl) T.f_steps_of.g T.f_steps_of.F.kp (b_steps_of T) (fun σ => passAt tk σ) (pa_cons (pv 0) pa_nil))) (pg_name (i := 4) sc_steps_from.nd rfl (Or.inl rfl)) (pss_one (ps_if (pt_cmpR (kEq K (hu := hr.units)) (pe_ix (kIx K) (pv 4) pe_int (fun _ _ => rfl)) pe_str (nomark _)) (pss_one (ps_expr (pe_bm PySem.F.plainAttrs_list PySem.F.slot_list_append PySem.F.type_list_append mt_append (pv 3) (pa_cons (pe_tupN (pa_cons (pv 4) (pa_cons pe_int pa_nil))) pa_nil)))) (pss_one (ps_if (pt_cmpR (kEq K (hu := hr.units)) (pe_slice (kSl K) (pv 1) (po_some (pv 2)) (po_some (pe_op (kAdd K) (pv 2) pe_int))) (pe_ix (kIx K) (pv 4) pe_int (fun _ _ => rfl)) (nomark _)) (pss_one (ps_expr (pe_bm PySem.F.plainAttrs_list PySem.F.slot_list_append PySem.F.type_list_append mt_append (pv 3) (pa_cons (pe_tupN (pa_cons (pv 4) (pa_cons pe_int pa_nil))) pa_nil)))) pss_nil)))))
      (pss_one (ps_ret (pv 3))))), ?_⟩)
  exact (s_seq (s_setO (l_lst d_nil))
      (s_seq (s_for (i_list (d_call (d_cons (d_var 0) d_nil))) (g_name 4) (s_if (dt_test (d_op ro_eq (d_op ro_ix (d_var 4) (d_int 0)) (d_str _))) (s_app (d_tup (d_cons (d_var 4) (d_cons (d_int 0) d_nil)))) (s_if (dt_test (d_op ro_eq (d_sl rs_sl (d_var 1) (do_some (d_var 2)) (do_some (d_op ro_add (d_var 2) (d_int 1)))) (d_op ro_ix (d_var 4) (d_int 0)))) (s_app (d_tup (d_cons (d_var 4) (d_cons (d_int 1) d_nil)))) s_nx)))
      (s_frz 3 (s_ret (d_var 3)))))
theorem b_lasts (T : TX K mg) : Binds K T.f_lasts.fd ["code"] [] := T.f_lasts.F.bindsN fun _ _ _ _ _ _ us hl => match us, hl with | [_], _ => rfl
set_option maxHeartbeats 4000000 in
theorem ok_lasts (T : TX K mg) : FnOk WD.P WD.w K mg base (L2.CX WD.P WD.w) 1 T.f_lasts.f T.f_lasts.fd ["code"] (spF ⟨K, C⟩ 1 m_lasts) := by
  obtain ⟨t_EDGE, c_EDGE⟩ := T.c_EDGE
  refine fn_ok T.f_lasts.F sc_lasts (fun cdv A outer s H E hr tk po => ⟨_, (pss_one (ps_ret (pe_op (kAdd K) (pe_tupN (pa_cons (pe_glob (v := .str "#") (by rfl) c_EDGE ⟨_, rfl⟩) pa_nil)) (pe_callTy (kTupleB K (hc := rfl)) (by rfl) T.m_tuple boot_tuple (pa_cons (pe_ix (kIx K) (pv 0) pe_int (fun _ _ => rfl)) pa_nil))))), ?_⟩)
  exact (s_ret (d_op ro_add (d_tup (d_cons (d_str _) d_nil)) (d_cb rc_tupleA (d_cons (d_op ro_ix (d_var 0) (d_int 0)) d_nil))))
theorem b_ranked (T : TX K mg) : Binds K T.f_ranked.fd ["code", "order", "counts"] [] := T.f_ranked.F.bindsN fun _ _ _ _ _ _ us hl => match us, hl with | [_, _, _], _ => rfl
set_option maxHeartbeats 4000000 in
theorem ok_ranked (T : TX K mg) : FnOk WD.P WD.w K mg base (L2.CX WD.P WD.w) 2 T.f_ranked.f T.f_ranked.fd ["code", "order", "counts"] (spF ⟨K, C⟩ 3 m_ranked) := by
  refine fn_ok T.f_ranked.F sc_ranked (fun cdv A outer s H E hr tk po => ⟨_, (pss_cons (ps_set (i := 3) sc_ranked.nd rfl (Or.inr rfl) (pe_callS (ok_wish_names (C := C) T) (hr.mono (by decide)) (by rfl) T.f_wish_names.g T.f_wish_names.F.kp (b_wish_names T) (fun σ => passAt tk σ) (pa_cons (pv 0) pa_nil)))
      (pss_one (ps_ret (pe_callTy (kTupleB K (hc := rfl)) (by rfl) T.m_tuple boot_tuple (pa_cons (pe_lc (own := [("name", 4)]) rfl sc_ranked.nd (kPiTup K (pv 1)) (blkOk_by (own := [("name", 4)]) (N := N_ranked) (sc := defScope st_ranked) (by decide +kernel)) (fun _ _ _ _ _ => (pg_name (i := 4) sc_ranked.nd rfl (by first | exact Or.inl rfl | exact Or.inr rfl))) (fun _ _ _ _ _ => pts_nil) (fun _ _ _ _ _ => (pe_ix (kIx K) (pv 2) (pe_tmK K PySem.F.slot_tuple_index PySem.F.type_tuple_index (kTIx K) (pv 3) (pa_cons (pv 4) pa_nil)) (fun _ _ => rfl)))) pa_nil))))), ?_⟩)
  exact (s_seq (s_asg (d_call (d_cons (d_var 0) d_nil)) (g_name 3))
      (s_ret (d_cb rc_tupleA (d_cons (d_ofL (l_lc (i_tup (d_var 1)) (g_name 4) (by decide) dt_yes (d_op ro_ix (d_var 2) (d_tm rm_tix (d_var 3) (d_cons (d_var 4) d_nil))))) d_nil))))
theorem b_Road_offer (T : TX K mg) : Binds K T.f_Road_offer.fd ["self", "here", "counts", "step", "there"] [] := T.f_Road_offer.F.bindsN fun _ _ _ _ _ _ us hl => match us, hl with | [_, _, _, _, _], _ => rfl
set_option maxHeartbeats 4000000 in
theorem ok_Road_offer (T : TX K mg) : FnOk WD.P WD.w K mg base (L2.CX WD.P WD.w) 3 (He.ma K (cA K "Road") "offer") T.f_Road_offer.fd ["self", "here", "counts", "step", "there"] (spM ⟨K, C⟩ 5 m_Road_offer) := by
  refine fn_okM T.f_Road_offer.F sc_Road_offer (fun cdv A outer s H E hr tk po => ⟨_, (pss_cons (ps_if (pt_cmp (pc_nin K (u9 hr) (pv 1) (kFld K (pv 0))) (by rfl)) (pss_cons (ps_set (i := 5) sc_Road_offer.nd rfl (Or.inl rfl) (pe_callS (ok_ranked (C := C) T) (hr.mono (by decide)) (by rfl) T.f_ranked.g T.f_ranked.F.kp (b_ranked T) (fun σ => passAt tk σ) (pa_cons (kFld K (pv 0)) (pa_cons (kFld K (pv 0)) (pa_cons (pe_ix (kIx K) (pe_nget K (u9 hr) (kFld K (pv 0)) (pv 1) (fun _ _ => rfl)) pe_int (fun _ _ => rfl)) pa_nil)))))
      (pss_one (ps_if (pt_not (pt_cmpR (kLtE K (hu := hr.units)) (pe_callS (ok_ranked (C := C) T) (hr.mono (by decide)) (by rfl) T.f_ranked.g T.f_ranked.F.kp (b_ranked T) (fun σ => passAt tk σ) (pa_cons (kFld K (pv 0)) (pa_cons (kFld K (pv 0)) (pa_cons (pv 2) pa_nil)))) (pv 5) (nomark _))) (pss_one (ps_ret pe_bl)) pss_nil))) pss_nil)
      (pss_cons (ps_nput K (u9 hr) (kFld K (pv 0)) (pv 1) (pe_tupN (pa_cons (pv 2) (pa_cons (pv 3) (pa_cons (pv 4) pa_nil)))) (by rfl))
      (pss_one (ps_ret pe_bl)))), ?_⟩)
  exact (s_seq (s_if (dt_test (d_pinN (d_var 1) (pl_fld T.y_Road.cl T.n_Road_known 0))) (s_seq (s_asg (d_call (d_cons (d_fld T.y_Road.cl T.n_Road_code) (d_cons (d_fld T.y_Road.cl T.n_Road_order) (d_cons (d_op ro_ix (d_pgetN (pl_fld T.y_Road.cl T.n_Road_known 0) (k_var 1)) (d_int 0)) d_nil)))) (g_name 5))
      (s_if (dt_not (dt_test (d_op ro_ltE (d_call (d_cons (d_fld T.y_Road.cl T.n_Road_code) (d_cons (d_fld T.y_Road.cl T.n_Road_order) (d_cons (d_var 2) d_nil)))) (d_var 5)))) (s_ret (d_bl false)) s_nx)) s_nx)
      (s_seq (s_pputN (d_tup (d_cons (d_var 2) (d_cons (d_var 3) (d_cons (d_var 4) d_nil)))) (pl_fld T.y_Road.cl T.n_Road_known 0) (k_var 1))
      (s_ret (d_bl true))))
theorem b_is_ended (T : TX K mg) : Binds K T.f_is_ended.fd ["pattern", "last"] [] := T.f_is_ended.F.bindsN fun _ _ _ _ _ _ us hl => match us, hl with | [_, _], _ => rfl
set_option maxHeartbeats 4000000 in
theorem ok_is_ended (T : TX K mg) : FnOk WD.P WD.w K mg base (L2.CX WD.P WD.w) 1 T.f_is_ended.f T.f_is_ended.fd ["pattern", "last"] (spF ⟨K, C⟩ 2 m_is_ended) := by
  obtain ⟨t_EDGE, c_EDGE⟩ := T.c_EDGE
  refine fn_ok T.f_is_ended.F sc_is_ended (fun cdv A outer s H E hr tk po => ⟨_, (pss_one (ps_ret (pe_and (pe_cmpR (kEq K (hu := hr.units)) (pe_ix (kIx K) (pv 0) pe_int (fun _ _ => rfl)) pe_str (nomark _)) (pe_and (pe_cmpR (kIn K (hu := u65 hr)) (pv 1) (pe_ix (kIx K) (pv 0) pe_int (fun _ _ => rfl)) (by rfl)) (pe_one (pe_cmpR (kIn K (hu := u65 hr)) (pe_glob (v := .str "#") (by rfl) c_EDGE ⟨_, rfl⟩) (pe_ix (kIx K) (pv 0) pe_int (fun _ _ => rfl)) (by rfl))))))), ?_⟩)
  exact (s_ret (d_and (d_op ro_eq (d_op ro_ix (d_var 0) (d_int 0)) (d_str _)) (d_and (d_op ro_in (d_var 1) (d_op ro_ix (d_var 0) (d_int 1))) (d_op ro_in (d_str _) (d_op ro_ix (d_var 0) (d_int 2))))))
theorem b_end_counts (T : TX K mg) : Binds K T.f_end_counts.fd ["code", "last"] [] := T.f_end_counts.F.bindsN fun _ _ _ _ _ _ us hl => match us, hl with | [_, _], _ => rfl
set_option maxHeartbeats 4000000 in
theorem ok_end_counts (T : TX K mg) : FnOk WD.P WD.w K mg base (L2.CX WD.P WD.w) 2 T.f_end_counts.f T.f_end_counts.fd ["code", "last"] (spF ⟨K, C⟩ 2 m_end_counts) := by
  refine fn_ok T.f_end_counts.F sc_end_counts (fun cdv A outer s H E hr tk po => ⟨_, (pss_cons (ps_set (i := 2) sc_end_counts.nd rfl (Or.inl rfl) (pe_lst pa_nil))
      (pss_cons (ps_for po rfl (kPiTup K (pe_ix (kIx K) (pv 0) pe_int (fun _ _ => rfl))) (kgTup (n := 2) K rfl (pgs_cons (pg_name (i := 3) sc_end_counts.nd rfl (Or.inl rfl)) (pgs_cons (pg_name (i := 4) sc_end_counts.nd rfl (Or.inl rfl)) pgs_nil))) (pss_one (ps_expr (pe_bm PySem.F.plainAttrs_list PySem.F.slot_list_append PySem.F.type_list_append mt_append (pv 2) (pa_cons (pe_callB (kSum K (hc := rfl)) (by rfl) T.m_sum bt_sum (pa_cons (pe_lc (own := [("pattern", 5), ("times", 6)]) rfl sc_end_counts.nd (kPiTup K (pv 4)) (blkOk_by (own := [("pattern", 5), ("times", 6)]) (N := N_end_counts) (sc := defScope st_end_counts) (by decide +kernel)) (fun _ _ _ _ _ => (kgTup (n := 2) K rfl (pgs_cons (pg_name (i := 5) sc_end_counts.nd rfl (by first | exact Or.inl rfl | exact Or.inr rfl)) (pgs_cons (pg_name (i := 6) sc_end_counts.nd rfl (by first | exact Or.inl rfl | exact Or.inr rfl)) pgs_nil)))) (fun _ _ _ _ _ => (pts_one (pt_val (pe_callS (ok_is_ended (C := C) T) (hr.mono (by decide)) (by rfl) T.f_is_ended.g T.f_is_ended.F.kp (b_is_ended T) (fun σ => passAt takes0 σ) (pa_cons (pv 5) (pa_cons (pv 1) pa_nil)))))) (fun _ _ _ _ _ => (pv 6))) pa_nil)) pa_nil)))))
      (pss_one (ps_ret (pe_callTy (kTupleB K (hc := rfl)) (by rfl) T.m_tuple boot_tuple (pa_cons (pv 2) pa_nil)))))), ?_⟩)
  exact (s_seq (s_setO (l_lst d_nil))
      (s_seq (s_for (i_tup (d_op ro_ix (d_var 0) (d_int 1))) (g_tup (gs_cons (g_name 3) (gs_cons (g_name 4) gs_nil))) (s_app (d_cb rc_sum (d_cons (d_ofL (l_lc (i_tup (d_var 4)) (g_tup (gs_cons (g_name 5) (gs_cons (g_name 6) gs_nil))) (by decide) (dt_tB (d_call (d_cons (d_var 5) (d_cons (d_var 1) d_nil)))) (d_var 6))) d_nil))))
      (s_ret (d_cb rc_tupleA (d_cons (d_own 2) d_nil)))))
theorem b_behind (T : TX K mg) : Binds K T.f_behind.fd ["last", "step"] [] := T.f_behind.F.bindsN fun _ _ _ _ _ _ us hl => match us, hl with | [_, _], _ => rfl
set_option maxHeartbeats 4000000 in
theorem ok_behind (T : TX K mg) : FnOk WD.P WD.w K mg base (L2.CX WD.P WD.w) 1 T.f_behind.f T.f_behind.fd ["last", "step"] (spF ⟨K, C⟩ 2 m_behind) := by
  refine fn_ok T.f_behind.F sc_behind (fun cdv A outer s H E hr tk po => ⟨_, (pss_cons (ps_if (pt_cmpR (kEq K (hu := hr.units)) (pe_ix (kIx K) (pv 1) pe_int (fun _ _ => rfl)) pe_str (nomark _)) (pss_one (ps_ret (pv 0))) pss_nil)
      (pss_one (ps_ret (pe_ix (kIx K) (pv 1) pe_int (fun _ _ => rfl))))), ?_⟩)
  exact (s_seq (s_if (dt_test (d_op ro_eq (d_op ro_ix (d_var 1) (d_int 1)) (d_str _))) (s_ret (d_var 0)) s_nx)
      (s_ret (d_op ro_ix (d_var 1) (d_int 1))))
theorem b_added (T : TX K mg) : Binds K T.f_added.fd ["one", "other"] [] := T.f_added.F.bindsN fun _ _ _ _ _ _ us hl => match us, hl with | [_, _], _ => rfl
set_option maxHeartbeats 4000000 in
theorem ok_added (T : TX K mg) : FnOk WD.P WD.w K mg base (L2.CX WD.P WD.w) 1 T.f_added.f T.f_added.fd ["one", "other"] (spF ⟨K, C⟩ 2 m_added) := by
  refine fn_ok T.f_added.F sc_added (fun cdv A outer s H E hr tk po => ⟨_, (pss_one (ps_ret (pe_callTy (kTupleB K (hc := rfl)) (by rfl) T.m_tuple boot_tuple (pa_cons (pe_lc (own := [("number", 2), ("more", 3)]) rfl sc_added.nd (kPiZip K (by rfl) T.m_zip (pa_cons (pv 0) (pa_cons (pv 1) pa_nil))) (blkOk_by (own := [("number", 2), ("more", 3)]) (N := N_added) (sc := defScope st_added) (by decide +kernel)) (fun _ _ _ _ _ => (kgTup (n := 2) K rfl (pgs_cons (pg_name (i := 2) sc_added.nd rfl (by first | exact Or.inl rfl | exact Or.inr rfl)) (pgs_cons (pg_name (i := 3) sc_added.nd rfl (by first | exact Or.inl rfl | exact Or.inr rfl)) pgs_nil)))) (fun _ _ _ _ _ => pts_nil) (fun _ _ _ _ _ => (pe_op (kAdd K) (pv 2) (pv 3)))) pa_nil)))), ?_⟩)
  exact (s_ret (d_cb rc_tupleA (d_cons (d_ofL (l_lc (i_zip (d_cons (d_var 0) (d_cons (d_var 1) d_nil))) (g_tup (gs_cons (g_name 2) (gs_cons (g_name 3) gs_nil))) (by decide) dt_yes (d_op ro_add (d_var 2) (d_var 3)))) d_nil)))
theorem b_is_met (T : TX K mg) : Binds K T.f_is_met.fd ["pattern", "last", "step"] [] := T.f_is_met.F.bindsN fun _ _ _ _ _ _ us hl => match us, hl with | [_, _, _], _ => rfl
set_option maxHeartbeats 4000000 in
theorem ok_is_met (T : TX K mg) : FnOk WD.P WD.w K mg base (L2.CX WD.P WD.w) 1 T.f_is_met.f T.f_is_met.fd ["pattern", "last", "step"] (spF ⟨K, C⟩ 3 m_is_met) := by
  refine fn_ok T.f_is_met.F sc_is_met (fun cdv A outer s H E hr tk po => ⟨_, (pss_cons (ps_set (i := 3) sc_is_met.nd rfl (Or.inl rfl) (pe_ix (kIx K) (pv 0) pe_int (fun _ _ => rfl)))
      (pss_cons (ps_asg (pv 2) (kgTup (n := 2) K rfl (pgs_cons (pg_name (i := 4) sc_is_met.nd rfl (Or.inl rfl)) (pgs_cons (pg_name (i := 5) sc_is_met.nd rfl (Or.inl rfl)) pgs_nil))))
      (pss_cons (ps_if (pt_cmpR (kEq K (hu := hr.units)) (pv 3) pe_str (nomark _)) (pss_one (ps_ret (pe_and (pe_cmpR (kNe K (hu := hr.units)) (pv 5) pe_str (nomark _)) (pe_one (pe_cmpR (kIn K (hu := u65 hr)) (pv 5) (pe_ix (kIx K) (pv 0) pe_int (fun _ _ => rfl)) (by rfl)))))) pss_nil)
      (pss_cons (ps_if (pt_cmpR (kEq K (hu := hr.units)) (pv 3) pe_str (nomark _)) (pss_one (ps_ret (pe_and (pe_cmpR (kEq K (hu := hr.units)) (pv 5) pe_str (nomark _)) (pe_one (pe_cmpR (kIn K (hu := u65 hr)) (pv 4) (pe_ix (kIx K) (pv 0) pe_int (fun _ _ => rfl)) (by rfl)))))) pss_nil)
      (pss_cons (ps_if (pt_cmpR (kEq K (hu := hr.units)) (pv 3) pe_str (nomark _)) (pss_one (ps_ret (pe_and (pe_cmpR (kEq K (hu := hr.units)) (pv 4) pe_str (nomark _)) (pe_one (pe_cmpR (kIn K (hu := u65 hr)) (pv 5) (pe_ix (kIx K) (pv 0) pe_int (fun _ _ => rfl)) (by rfl)))))) pss_nil)
      (pss_cons (ps_if (pt_cmpR (kEq K (hu := hr.units)) (pv 3) pe_str (nomark _)) (pss_one (ps_ret (pe_and (pe_cmpR (kNotIn K (hu := u65 hr)) pe_str (pv 2) (by rfl)) (pe_and (pe_cmpR (kNe K (hu := hr.units)) (pv 4) (pv 5) (nomark _)) (pe_and (pe_cmpR (kIn K (hu := u65 hr)) (pv 4) (pe_ix (kIx K) (pv 0) pe_int (fun _ _ => rfl)) (by rfl)) (pe_one (pe_cmpR (kIn K (hu := u65 hr)) (pv 5) (pe_ix (kIx K) (pv 0) pe_int (fun _ _ => rfl)) (by rfl)))))))) pss_nil)
      (pss_one (ps_ret (pe_and (pe_cmpR (kNe K (hu := hr.units)) (pv 5) pe_str (nomark _)) (pe_and (pe_cmpR (kIn K (hu := u65 hr)) (pv 1) (pe_ix (kIx K) (pv 0) pe_int (fun _ _ => rfl)) (by rfl)) (pe_one (pe_cmpR (kIn K (hu := u65 hr)) (pv 5) (pe_ix (kIx K) (pv 0) pe_int (fun _ _ => rfl)) (by rfl))))))))))))), ?_⟩)
  exact (s_seq (s_asg (d_op ro_ix (d_var 0) (d_int 0)) (g_name 3))
      (s_seq (s_asg (wk := false) (d_var 2) (g_tup (gs_cons (g_name 4) (gs_cons (g_name 5) gs_nil))))
      (s_seq (s_if (dt_test (d_op ro_eq (d_var 3) (d_str _))) (s_ret (d_and (d_op ro_ne (d_var 5) (d_str _)) (d_op ro_in (d_var 5) (d_op ro_ix (d_var 0) (d_int 1))))) s_nx)
      (s_seq (s_if (dt_test (d_op ro_eq (d_var 3) (d_str _))) (s_ret (d_and (d_op ro_eq (d_var 5) (d_str _)) (d_op ro_in (d_var 4) (d_op ro_ix (d_var 0) (d_int 1))))) s_nx)
      (s_seq (s_if (dt_test (d_op ro_eq (d_var 3) (d_str _))) (s_ret (d_and (d_op ro_eq (d_var 4) (d_str _)) (d_op ro_in (d_var 5) (d_op ro_ix (d_var 0) (d_int 1))))) s_nx)
      (s_seq (s_if (dt_test (d_op ro_eq (d_var 3) (d_str _))) (s_ret (d_and (d_op ro_notIn (d_str _) (d_var 2)) (d_and (d_op ro_ne (d_var 4) (d_var 5)) (d_and (d_op ro_in (d_var 4) (d_op ro_ix (d_var 0) (d_int 1))) (d_op ro_in (d_var 5) (d_op ro_ix (d_var 0) (d_int 2))))))) s_nx)
      (s_ret (d_and (d_op ro_ne (d_var 5) (d_str _)) (d_and (d_op ro_in (d_var 1) (d_op ro_ix (d_var 0) (d_int 1))) (d_op ro_in (d_var 5) (d_op ro_ix (d_var 0) (d_int 2))))))))))))
theorem b_step_counts (T : TX K mg) : Binds K T.f_step_counts.fd ["code", "last", "step"] [] := T.f_step_counts.F.bindsN fun _ _ _ _ _ _ us hl => match us, hl with | [_, _, _], _ => rfl
set_option maxHeartbeats 4000000 in
theorem ok_step_counts (T : TX K mg) : FnOk WD.P WD.w K mg base (L2.CX WD.P WD.w) 2 T.f_step_counts.f T.f_step_counts.fd ["code", "last", "step"] (spF ⟨K, C⟩ 3 m_step_counts) := by
  refine fn_ok T.f_step_counts.F sc_step_counts (fun cdv A outer s H E hr tk po => ⟨_, (pss_cons (ps_set (i := 3) sc_step_counts.nd rfl (Or.inl rfl) (pe_lst pa_nil))
      (pss_cons (ps_for po rfl (kPiTup K (pe_ix (kIx K) (pv 0) pe_int (fun _ _ => rfl))) (kgTup (n := 2) K rfl (pgs_cons (pg_name (i := 4) sc_step_counts.nd rfl (Or.inl rfl)) (pgs_cons (pg_name (i := 5) sc_step_counts.nd rfl (Or.inl rfl)) pgs_nil))) (pss_one (ps_expr (pe_bm PySem.F.plainAttrs_list PySem.F.slot_list_append PySem.F.type_list_append mt_append (pv 3) (pa_cons (pe_callB (kSum K (hc := rfl)) (by rfl) T.m_sum bt_sum (pa_cons (pe_lc (own := [("pattern", 6), ("times", 7)]) rfl sc_step_counts.nd (kPiTup K (pv 5)) (blkOk_by (own := [("pattern", 6), ("times", 7)]) (N := N_step_counts) (sc := defScope st_step_counts) (by decide +kernel)) (fun _ _ _ _ _ => (kgTup (n := 2) K rfl (pgs_cons (pg_name (i := 6) sc_step_counts.nd rfl (by first | exact Or.inl rfl | exact Or.inr rfl)) (pgs_cons (pg_name (i := 7) sc_step_counts.nd rfl (by first | exact Or.inl rfl | exact Or.inr rfl)) pgs_nil)))) (fun _ _ _ _ _ => (pts_one (pt_val (pe_callS (ok_is_met (C := C) T) (hr.mono (by decide)) (by rfl) T.f_is_met.g T.f_is_met.F.kp (b_is_met T) (fun σ => passAt takes0 σ) (pa_cons (pv 6) (pa_cons (pv 1) (pa_cons (pv 2) pa_nil))))))) (fun _ _ _ _ _ => (pv 7))) pa_nil)) pa_nil)))))
      (pss_one (ps_ret (pe_callTy (kTupleB K (hc := rfl)) (by rfl) T.m_tuple boot_tuple (pa_cons (pv 3) pa_nil)))))), ?_⟩)
  exact (s_seq (s_setO (l_lst d_nil))
      (s_seq (s_for (i_tup (d_op ro_ix (d_var 0) (d_int 1))) (g_tup (gs_cons (g_name 4) (gs_cons (g_name 5) gs_nil))) (s_app (d_cb rc_sum (d_cons (d_ofL (l_lc (i_tup (d_var 5)) (g_tup (gs_cons (g_name 6) (gs_cons (g_name 7) gs_nil))) (by decide) (dt_tB (d_call (d_cons (d_var 6) (d_cons (d_var 1) (d_cons (d_var 2) d_nil))))) (d_var 7))) d_nil))))
      (s_ret (d_cb rc_tupleA (d_cons (d_own 3) d_nil)))))
theorem b_Road_settle (T : TX K mg) : Binds K T.f_Road_settle.fd ["self", "place"] [] := T.f_Road_settle.F.bindsN fun _ _ _ _ _ _ us hl => match us, hl with | [_, _], _ => rfl
set_option maxHeartbeats 4000000 in
theorem ok_Road_settle (T : TX K mg) : FnOk WD.P WD.w K mg base (L2.CX WD.P WD.w) 4 (He.ma K (cA K "Road") "settle") T.f_Road_settle.fd ["self", "place"] (spM ⟨K, C⟩ 2 m_Road_settle) := by
  refine fn_okM T.f_Road_settle.F sc_Road_settle (fun cdv A outer s H E hr tk po => ⟨_, (pss_cons (ps_set (i := 2) sc_Road_settle.nd rfl (Or.inl rfl) (pe_callS (ok_steps_from (C := C) T) (hr.mono (by decide)) (by rfl) T.f_steps_from.g T.f_steps_from.F.kp (b_steps_from T) (fun σ => passAt tk σ) (pa_cons (kFld K (pv 0)) (pa_cons (kFld K (pv 0)) (pa_cons (pv 1) pa_nil)))))
      (pss_cons (ps_if (pt_cmpR (kEq K (hu := hr.units)) (pv 1) (pe_callB (kLen K) (by rfl) T.m_len PySem.boot_len (pa_cons (kFld K (pv 0)) pa_nil)) (nomark _)) (pss_one (ps_for po rfl (kPiTup K (pe_callS (ok_lasts (C := C) T) (hr.mono (by decide)) (by rfl) T.f_lasts.g T.f_lasts.F.kp (b_lasts T) (fun σ => passAt tk σ) (pa_cons (kFld K (pv 0)) pa_nil))) (pg_name (i := 3) sc_Road_settle.nd rfl (Or.inl rfl)) (pss_one (ps_expr (pe_methE (pv 0) T.y_Road.cl T.mt_Road_offer (ok_Road_offer (C := C) T) (hr.mono (by decide)) (b_Road_offer T) (fun σ => passAt tk σ) (pa_cons (pe_tupN (pa_cons (pv 1) (pa_cons (pv 3) pa_nil))) (pa_cons (pe_callS (ok_end_counts (C := C) T) (hr.mono (by decide)) (by rfl) T.f_end_counts.g T.f_end_counts.F.kp (b_end_counts T) (fun σ => passAt tk σ) (pa_cons (kFld K (pv 0)) (pa_cons (pv 3) pa_nil))) (pa_cons pe_non (pa_cons pe_non pa_nil))))))))) pss_nil)
      (pss_cons (ps_set (i := 4) sc_Road_settle.nd rfl (Or.inl rfl) pe_bl)
      (pss_one (ps_while po (pt_val (pv 4)) (pss_cons (ps_set (i := 4) sc_Road_settle.nd rfl (Or.inl rfl) pe_bl)
      (pss_one (ps_for po rfl (kPiTup K (pe_callS (ok_lasts (C := C) T) (hr.mono (by decide)) (by rfl) T.f_lasts.g T.f_lasts.F.kp (b_lasts T) (fun σ => passAt tk σ) (pa_cons (kFld K (pv 0)) pa_nil))) (pg_name (i := 3) sc_Road_settle.nd rfl (Or.inl rfl)) (pss_one (ps_for po rfl (kPiList K (pv 2)) (kgTup (n := 2) K rfl (pgs_cons (pg_name (i := 5) sc_Road_settle.nd rfl (Or.inl rfl)) (pgs_cons (pg_name (i := 6) sc_Road_settle.nd rfl (Or.inl rfl)) pgs_nil))) (pss_cons (ps_set (i := 7) sc_Road_settle.nd rfl (Or.inl rfl) (pe_tupN (pa_cons (pe_op (kAdd K) (pv 1) (pv 6)) (pa_cons (pe_callS (ok_behind (C := C) T) (hr.mono (by decide)) (by rfl) T.f_behind.g T.f_behind.F.kp (b_behind T) (fun σ => passAt tk σ) (pa_cons (pv 3) (pa_cons (pv 5) pa_nil))) pa_nil))))
      (pss_one (ps_if (pt_cmp (pc_nin K (u9 hr) (pv 7) (kFld K (pv 0))) (by rfl)) (pss_cons (ps_set (i := 8) sc_Road_settle.nd rfl (Or.inl rfl) (pe_callS (ok_added (C := C) T) (hr.mono (by decide)) (by rfl) T.f_added.g T.f_added.F.kp (b_added T) (fun σ => passAt tk σ) (pa_cons (pe_callS (ok_step_counts (C := C) T) (hr.mono (by decide)) (by rfl) T.f_step_counts.g T.f_step_counts.F.kp (b_step_counts T) (fun σ => passAt tk σ) (pa_cons (kFld K (pv 0)) (pa_cons (pv 3) (pa_cons (pv 5) pa_nil)))) (pa_cons (pe_ix (kIx K) (pe_nget K (u9 hr) (kFld K (pv 0)) (pv 7) (fun _ _ => rfl)) pe_int (fun _ _ => rfl)) pa_nil))))
      (pss_one (ps_if (pt_val (pe_methE (pv 0) T.y_Road.cl T.mt_Road_offer (ok_Road_offer (C := C) T) (hr.mono (by decide)) (b_Road_offer T) (fun σ => passAt tk σ) (pa_cons (pe_tupN (pa_cons (pv 1) (pa_cons (pv 3) pa_nil))) (pa_cons (pv 8) (pa_cons (pv 5) (pa_cons (pv 7) pa_nil)))))) (pss_one (ps_set (i := 4) sc_Road_settle.nd rfl (Or.inl rfl) pe_bl)) pss_nil))) pss_nil))))))))))))), ?_⟩)
  exact (s_seq (s_asg (d_call (d_cons (d_fld T.y_Road.cl T.n_Road_code) (d_cons (d_fld T.y_Road.cl T.n_Road_word) (d_cons (d_var 1) d_nil)))) (g_name 2))
      (s_seq (s_if (dt_test (d_op ro_eq (d_var 1) (d_cb rc_len (d_cons (d_fld T.y_Road.cl T.n_Road_word) d_nil)))) (s_for (i_tup (d_call (d_cons (d_fld T.y_Road.cl T.n_Road_code) d_nil))) (g_name 3) (s_dropX (x_meth (d_cons (d_tup (d_cons (d_var 1) (d_cons (d_var 3) d_nil))) (d_cons (d_call (d_cons (d_fld T.y_Road.cl T.n_Road_code) (d_cons (d_var 3) d_nil))) (d_cons d_non (d_cons d_non d_nil))))))) s_nx)
      (s_seq (s_asg (d_bl true) (g_name 4))
      (s_while (dt_tB (d_var 4)) (s_seq (s_asg (d_bl false) (g_name 4))
      (s_for (i_tup (d_call (d_cons (d_fld T.y_Road.cl T.n_Road_code) d_nil))) (g_name 3) (s_for (i_list (d_var 2)) (g_tup (gs_cons (g_name 5) (gs_cons (g_name 6) gs_nil))) (s_seq (s_asg (d_tup (d_cons (d_op ro_add (d_var 1) (d_var 6)) (d_cons (d_call (d_cons (d_var 3) (d_cons (d_var 5) d_nil))) d_nil))) (g_name 7))
      (s_if (dt_test (d_pinN (d_var 7) (pl_fld T.y_Road.cl T.n_Road_known 0))) (s_seq (s_asg (d_call (d_cons (d_call (d_cons (d_fld T.y_Road.cl T.n_Road_code) (d_cons (d_var 3) (d_cons (d_var 5) d_nil)))) (d_cons (d_op ro_ix (d_pgetN (pl_fld T.y_Road.cl T.n_Road_known 0) (k_var 7)) (d_int 0)) d_nil))) (g_name 8))
      (s_ifX (x_meth (d_cons (d_tup (d_cons (d_var 1) (d_cons (d_var 3) d_nil))) (d_cons (d_var 8) (d_cons (d_var 5) (d_cons (d_var 7) d_nil))))) (s_asg (d_bl true) (g_name 4)) s_nx)) s_nx)))))))))
theorem b_Road_init (T : TX K mg) : Binds K T.f_Road_init.fd ["self", "code", "order", "word"] [] := T.f_Road_init.F.bindsN fun _ _ _ _ _ _ us hl => match us, hl with | [_, _, _, _], _ => rfl
set_option maxHeartbeats 4000000 in
theorem ok_Road_init (T : TX K mg) : FnOk WD.P WD.w K mg base (L2.CX WD.P WD.w) 5 (He.ma K (cA K "Road") "__init__") T.f_Road_init.fd ["self", "code", "order", "word"] (spM ⟨K, C⟩ 4 m_Road_init) := by
  refine fn_okM T.f_Road_init.F sc_Road_init (fun cdv A outer s H E hr tk po => ⟨_, (pss_cons (kFldS K (pv 0) (pv 1))
      (pss_cons (kFldS K (pv 0) (pv 2))
      (pss_cons (kFldS K (pv 0) (pv 3))
      (pss_cons (kFldS K (pv 0) pe_newN)
      (pss_one (ps_for po rfl (pi_range3 (by rfl) T.m_range (pa_cons (pe_callB (kLen K) (by rfl) T.m_len PySem.boot_len (pa_cons (pv 3) pa_nil)) (pa_cons (pe_un un_neg pe_int) (pa_cons (pe_un un_neg pe_int) pa_nil)))) (pg_name (i := 4) sc_Road_init.nd rfl (Or.inl rfl)) (pss_one (ps_expr (pe_methE (pv 0) T.y_Road.cl T.mt_Road_settle (ok_Road_settle (C := C) T) (hr.mono (by decide)) (b_Road_settle T) (fun σ => passAt tk σ) (pa_cons (pv 4) pa_nil)))))))))), ?_⟩)
  exact (s_seq (s_fsetD T.y_Road.cl T.n_Road_code (d_var 1))
      (s_seq (s_fsetD T.y_Road.cl T.n_Road_order (d_var 2))
      (s_seq (s_fsetD T.y_Road.cl T.n_Road_word (d_var 3))
      (s_seq (s_fsetM T.y_Road.cl T.n_Road_known m_newN)
      (s_for (i_rng3 (d_cons (d_cb rc_len (d_cons (d_var 3) d_nil)) (d_cons (d_un ru_neg (d_int 1)) (d_cons (d_un ru_neg (d_int 1)) d_nil)))) (g_name 4) (s_dropX (x_meth (d_cons (d_var 4) d_nil))))))))
theorem b_road_of (T : TX K mg) : Binds K T.f_road_of.fd ["code", "order", "word"] [] := T.f_road_of.F.bindsN fun _ _ _ _ _ _ us hl => match us, hl with | [_, _, _], _ => rfl
set_option maxHeartbeats 4000000 in
theorem ok_road_of (T : TX K mg) : FnOk WD.P WD.w K mg base (L2.CX WD.P WD.w) 7 T.f_road_of.f T.f_road_of.fd ["code", "order", "word"] (spO ⟨K, C⟩ 3 m_road_of) := by
  obtain ⟨t_MOST_WORD, c_MOST_WORD⟩ := T.c_MOST_WORD
  refine fn_okO T.f_road_of.F sc_road_of (fun cdv A outer s H E hr tk po => ⟨_, (pss_cons (ps_expr (pe_callS (ok_check_order (C := C) T) (hr.mono (by decide)) (by rfl) T.f_check_order.g T.f_check_order.F.kp (b_check_order T) (fun σ => passAt tk σ) (pa_cons (pv 0) (pa_cons (pv 1) pa_nil))))
      (pss_cons (ps_expr (pe_callS (ok_check_word (C := C) T) (hr.mono (by decide)) (by rfl) T.f_check_word.g T.f_check_word.F.kp (b_check_word T) (fun σ => passAt tk σ) (pa_cons (pv 0) (pa_cons (pv 2) (pa_cons (pe_glob (v := .int 8) (by rfl) c_MOST_WORD ⟨_, rfl⟩) pa_nil)))))
      (pss_one (ps_ret (pe_makeE T.y_Road.mkr (ok_Road_init (C := C) T) (hr.mono (by decide)) (by rfl) T.y_Road.g (b_Road_init T) (fun σ => passAt tk σ) (pa_cons (pv 0) (pa_cons (pv 1) (pa_cons (pv 2) pa_nil)))))))), ?_⟩)
  exact (s_seq (s_drop (d_call (d_cons (d_var 0) (d_cons (d_var 1) d_nil))))
      (s_seq (s_drop (d_call (d_cons (d_var 0) (d_cons (d_var 2) (d_cons (d_int 8) d_nil)))))
      (s_retM (m_make (d_cons (d_var 0) (d_cons (d_var 1) (d_cons (d_var 2) d_nil)))))))
theorem b_least (T : TX K mg) : Binds K T.f_least.fd ["code", "order", "word"] [] := T.f_least.F.bindsN fun _ _ _ _ _ _ us hl => match us, hl with | [_, _, _], _ => rfl
set_option maxHeartbeats 4000000 in
theorem ok_least (T : TX K mg) : FnOk WD.P WD.w K mg base (L2.CX WD.P WD.w) 8 T.f_least.f T.f_least.fd ["code", "order", "word"] (spF ⟨K, C⟩ 3 m_least) := by
  obtain ⟨t_EDGE, c_EDGE⟩ := T.c_EDGE
  refine fn_ok T.f_least.F sc_least (fun cdv A outer s H E hr tk po => ⟨_, (pss_one (ps_ret (pe_methE (pe_callS (ok_road_of (C := C) T) (hr.mono (by decide)) (by rfl) T.f_road_of.g T.f_road_of.F.kp (b_road_of T) (fun σ => passAt tk σ) (pa_cons (pv 0) (pa_cons (pv 1) (pa_cons (pv 2) pa_nil)))) T.y_Road.cl T.mt_Road_counts_at (ok_Road_counts_at (C := C) T) (hr.mono (by decide)) (b_Road_counts_at T) (fun σ => passAt tk σ) (pa_cons pe_int (pa_cons (pe_glob (v := .str "#") (by rfl) c_EDGE ⟨_, rfl⟩) pa_nil))))), ?_⟩)
  exact (s_ret (d_methT (m_call (d_cons (d_var 0) (d_cons (d_var 1) (d_cons (d_var 2) d_nil)))) (d_cons (d_int 0) (d_cons (d_str _) d_nil))))
theorem b_results_by_order (T : TX K mg) : Binds K T.f_results_by_order.fd ["code", "words"] [] := T.f_results_by_order.F.bindsN fun _ _ _ _ _ _ us hl => match us, hl with | [_, _], _ => rfl
set_option maxHeartbeats 4000000 in
theorem ok_results_by_order (T : TX K mg) : FnOk WD.P WD.w K mg base (L2.CX WD.P WD.w) 9 T.f_results_by_order.f T.f_results_by_order.fd ["code", "words"] (spF ⟨K, C⟩ 2 m_results_by_order) := by
  refine fn_ok T.f_results_by_order.F sc_results_by_order (fun cdv A outer s H E hr tk po => ⟨_, (pss_cons (ps_expr (pe_callS (ok_check_words (C := C) T) (hr.mono (by decide)) (by rfl) T.f_check_words.g T.f_check_words.F.kp (b_check_words T) (fun σ => passAt tk σ) (pa_cons (pv 0) (pa_cons (pv 1) pa_nil))))
      (pss_one (ps_ret (pe_callTy (kDictNL K hr.units rfl) (by rfl) T.m_dict boot_dict (pa_cons (pe_lc (own := [("order", 2)]) rfl sc_results_by_order.nd (kPiTup K (pe_callS (ok_all_orders (C := C) T) (hr.mono (by decide)) (by rfl) T.f_all_orders.g T.f_all_orders.F.kp (b_all_orders T) (fun σ => passAt tk σ) (pa_cons (pv 0) pa_nil))) (blkOk_by (own := [("order", 2)]) (N := N_results_by_order) (sc := defScope st_results_by_order) (by decide +kernel)) (fun _ _ _ _ _ => (pg_name (i := 2) sc_results_by_order.nd rfl (by first | exact Or.inl rfl | exact Or.inr rfl))) (fun _ _ _ _ _ => pts_nil) (fun _ _ _ _ _ => (pe_tupN (pa_cons (pv 2) (pa_cons (pe_callTy (kTupleB K (hc := rfl)) (by rfl) T.m_tuple boot_tuple (pa_cons (pe_lc (own := [("word", 3)]) rfl sc_results_by_order.nd (kPiTup K (pv 1)) (blkOk_by (own := [("word", 3)]) (N := N_results_by_order) (sc := ({ kind := .function, names := [(Str.ofString ".0", .local), (Str.ofString "order", .cell), (Str.ofString "tuple", .globalImplicit), (Str.ofString "code", .cell), (Str.ofString "words", .cell)], isGenerator := false, isCoroutine := false } : Scope)) (by decide +kernel)) (fun _ _ _ _ _ => (pg_name (i := 3) sc_results_by_order.nd rfl (by first | exact Or.inl rfl | exact Or.inr rfl))) (fun _ _ _ _ _ => pts_nil) (fun _ _ _ _ _ => (pe_callS (ok_least (C := C) T) (hr.mono (by decide)) (by rfl) T.f_least.g T.f_least.F.kp (b_least T) (fun σ => passAt takes0 σ) (pa_cons (pv 0) (pa_cons (pv 2) (pa_cons (pv 3) pa_nil)))))) pa_nil)) pa_nil))))) pa_nil))))), ?_⟩)
  exact (s_seq (s_drop (d_call (d_cons (d_var 0) (d_cons (d_var 1) d_nil))))
      (s_ret (d_cb rc_dictN (d_cons (d_ofL (l_lc (i_tup (d_call (d_cons (d_var 0) d_nil))) (g_name 2) (by decide) dt_yes (d_tup (d_cons (d_var 2) (d_cons (d_cb rc_tupleA (d_cons (d_ofL (l_lc (i_tup (d_var 1)) (g_name 3) (by decide) dt_yes (d_call (d_cons (d_var 0) (d_cons (d_var 2) (d_cons (d_var 3) d_nil)))))) d_nil)) d_nil))))) d_nil))))
theorem b_outcomes (T : TX K mg) : Binds K T.f_outcomes.fd ["code", "words"] [] := T.f_outcomes.F.bindsN fun _ _ _ _ _ _ us hl => match us, hl with | [_, _], _ => rfl
set_option maxHeartbeats 4000000 in
theorem ok_outcomes (T : TX K mg) : FnOk WD.P WD.w K mg base (L2.CX WD.P WD.w) 10 T.f_outcomes.f T.f_outcomes.fd ["code", "words"] (spF ⟨K, C⟩ 2 m_outcomes) := by
  refine fn_ok T.f_outcomes.F sc_outcomes (fun cdv A outer s H E hr tk po => ⟨_, (pss_cons (ps_set (i := 2) sc_outcomes.nd rfl (Or.inr rfl) pe_newN)
      (pss_cons (ps_for po rfl (pi_itemsN (pe_callS (ok_results_by_order (C := C) T) (hr.mono (by decide)) (by rfl) T.f_results_by_order.g T.f_results_by_order.F.kp (b_results_by_order T) (fun σ => passAt tk σ) (pa_cons (pv 0) (pa_cons (pv 1) pa_nil)))) (kgTup (n := 2) K rfl (pgs_cons (pg_name (i := 3) sc_outcomes.nd rfl (Or.inl rfl)) (pgs_cons (pg_name (i := 4) sc_outcomes.nd rfl (Or.inl rfl)) pgs_nil))) (pss_one (ps_expr (pe_bm PySem.F.plainAttrs_list PySem.F.slot_list_append PySem.F.type_list_append mt_append (pe_nsetd K (u9 hr) (pv 2) (pv 4) (pe_lst pa_nil) ⟨rfl, rfl, rfl, rfl⟩) (pa_cons (pv 3) pa_nil)))))
      (pss_one (ps_lockNS (i := 2) (ps_ret (pe_callTy (kTupleB K (hc := rfl)) (by rfl) T.m_tuple boot_tuple (pa_cons (pe_callB (kSortA K hr.units) (by rfl) T.m_sorted bt_sorted (pa_cons (pe_lc (own := [("results", 4)]) rfl sc_outcomes.nd (pi_keysN (pv 2)) (blkOk_by (own := [("results", 4)]) (N := N_outcomes) (sc := defScope st_outcomes) (by decide +kernel)) (fun _ _ _ _ _ => (pg_name (i := 4) sc_outcomes.nd rfl (by first | exact Or.inl rfl | exact Or.inr rfl))) (fun _ _ _ _ _ => pts_nil) (fun _ _ _ _ _ => (pe_tupN (pa_cons (pv 4) (pa_cons (pe_callTy (kTupleB K (hc := rfl)) (by rfl) T.m_tuple boot_tuple (pa_cons (pe_callB (kSortA K hr.units) (by rfl) T.m_sorted bt_sorted (pa_cons (pe_nget K (u9 hr) (pv 2) (pv 4) (fun _ _ => rfl)) pa_nil)) pa_nil)) pa_nil))))) pa_nil)) pa_nil))))))), ?_⟩)
  exact (s_seq (s_setM m_newDL)
      (s_seq (s_for (i_itemsN (d_call (d_cons (d_var 0) (d_cons (d_var 1) d_nil)))) (g_tup (gs_cons (g_name 3) (gs_cons (g_name 4) gs_nil))) (s_sdApp (k_var 4)))
      (s_frzDL 2 (s_ret (d_cb rc_tupleA (d_cons (d_ofL (l_cb rcl_sortedA (d_cons (d_ofL (l_lc (i_keysN (d_var 2)) (g_name 4) (by decide) dt_yes (d_tup (d_cons (d_var 4) (d_cons (d_cb rc_tupleA (d_cons (d_ofL (l_cb rcl_sortedA (d_cons (d_ndget (d_var 2) (d_var 4)) d_nil))) d_nil)) d_nil))))) d_nil))) d_nil))))))
theorem b_without (T : TX K mg) : Binds K T.f_without.fd ["order", "name"] [] := T.f_without.F.bindsN fun _ _ _ _ _ _ us hl => match us, hl with | [_, _], _ => rfl
set_option maxHeartbeats 4000000 in
theorem ok_without (T : TX K mg) : FnOk WD.P WD.w K mg base (L2.CX WD.P WD.w) 1 T.f_without.f T.f_without.fd ["order", "name"] (spF ⟨K, C⟩ 2 m_without) := by
  refine fn_ok T.f_without.F sc_without (fun cdv A outer s H E hr tk po => ⟨_, (pss_one (ps_ret (pe_callTy (kTupleB K (hc := rfl)) (by rfl) T.m_tuple boot_tuple (pa_cons (pe_lc (own := [("one", 2)]) rfl sc_without.nd (kPiTup K (pv 0)) (blkOk_by (own := [("one", 2)]) (N := N_without) (sc := defScope st_without) (by decide +kernel)) (fun _ _ _ _ _ => (pg_name (i := 2) sc_without.nd rfl (by first | exact Or.inl rfl | exact Or.inr rfl))) (fun _ _ _ _ _ => (pts_one (pt_cmpR (kNe K (hu := hr.units)) (pv 2) (pv 1) (nomark _)))) (fun _ _ _ _ _ => (pv 2))) pa_nil)))), ?_⟩)
  exact (s_ret (d_cb rc_tupleA (d_cons (d_ofL (l_lc (i_tup (d_var 0)) (g_name 2) (by decide) (dt_test (d_op ro_ne (d_var 2) (d_var 1))) (d_var 2))) d_nil)))
theorem b_is_idle (T : TX K mg) : Binds K T.f_is_idle.fd ["known", "name"] [] := T.f_is_idle.F.bindsN fun _ _ _ _ _ _ us hl => match us, hl with | [_, _], _ => rfl
set_option maxHeartbeats 4000000 in
theorem ok_is_idle (T : TX K mg) : FnOk WD.P WD.w K mg base (L2.CX WD.P WD.w) 2 T.f_is_idle.f T.f_is_idle.fd ["known", "name"] (spF ⟨K, C⟩ 2 m_is_idle) := by
  refine fn_ok T.f_is_idle.F sc_is_idle (fun cdv A outer s H E hr tk po => ⟨_, (pss_cons (ps_set (i := 2) sc_is_idle.nd rfl (Or.inl rfl) pe_newN)
      (pss_cons (ps_for po rfl (pi_keysN (pv 0)) (pg_name (i := 3) sc_is_idle.nd rfl (Or.inl rfl)) (pss_one (ps_if (pt_cmpR (kNe K (hu := hr.units)) (pe_nsetd K (u9 hr) (pv 2) (pe_callS (ok_without (C := C) T) (hr.mono (by decide)) (by rfl) T.f_without.g T.f_without.F.kp (b_without T) (fun σ => passAt tk σ) (pa_cons (pv 3) (pa_cons (pv 1) pa_nil))) (pe_nget K (u9 hr) (pv 0) (pv 3) (fun _ _ => rfl)) ⟨rfl, rfl, rfl, rfl⟩) (pe_nget K (u9 hr) (pv 0) (pv 3) (fun _ _ => rfl)) (nomark _)) (pss_one (ps_ret pe_bl)) pss_nil)))
      (pss_one (ps_ret pe_bl)))), ?_⟩)
  exact (s_seq (s_setM m_newN)
      (s_seq (s_for (i_keysN (d_var 0)) (g_name 3) (s_if (dt_test (d_op ro_ne (d_setdN (d_call (d_cons (d_var 3) (d_cons (d_var 1) d_nil))) (d_ndget (d_var 0) (d_var 3))) (d_ndget (d_var 0) (d_var 3)))) (s_ret (d_bl false)) s_nx))
      (s_ret (d_bl true))))
theorem b_idle (T : TX K mg) : Binds K T.f_idle.fd ["code", "words"] [] := T.f_idle.F.bindsN fun _ _ _ _ _ _ us hl => match us, hl with | [_, _], _ => rfl
set_option maxHeartbeats 4000000 in
theorem ok_idle (T : TX K mg) : FnOk WD.P WD.w K mg base (L2.CX WD.P WD.w) 10 T.f_idle.f T.f_idle.fd ["code", "words"] (spF ⟨K, C⟩ 2 m_idle) := by
  refine fn_ok T.f_idle.F sc_idle (fun cdv A outer s H E hr tk po => ⟨_, (pss_cons (ps_set (i := 2) sc_idle.nd rfl (Or.inr rfl) (pe_callS (ok_results_by_order (C := C) T) (hr.mono (by decide)) (by rfl) T.f_results_by_order.g T.f_results_by_order.F.kp (b_results_by_order T) (fun σ => passAt tk σ) (pa_cons (pv 0) (pa_cons (pv 1) pa_nil))))
      (pss_one (ps_ret (pe_callTy (kTupleB K (hc := rfl)) (by rfl) T.m_tuple boot_tuple (pa_cons (pe_lc (own := [("name", 3)]) rfl sc_idle.nd (kPiList K (pe_callB (kSortedT K) (by rfl) T.m_sorted bt_sorted (pa_cons (pe_callS (ok_wish_names (C := C) T) (hr.mono (by decide)) (by rfl) T.f_wish_names.g T.f_wish_names.F.kp (b_wish_names T) (fun σ => passAt tk σ) (pa_cons (pv 0) pa_nil)) pa_nil))) (blkOk_by (own := [("name", 3)]) (N := N_idle) (sc := defScope st_idle) (by decide +kernel)) (fun _ _ _ _ _ => (pg_name (i := 3) sc_idle.nd rfl (by first | exact Or.inl rfl | exact Or.inr rfl))) (fun _ _ _ _ _ => (pts_one (pt_val (pe_callS (ok_is_idle (C := C) T) (hr.mono (by decide)) (by rfl) T.f_is_idle.g T.f_is_idle.F.kp (b_is_idle T) (fun σ => passAt takes0 σ) (pa_cons (pv 2) (pa_cons (pv 3) pa_nil)))))) (fun _ _ _ _ _ => (pv 3))) pa_nil))))), ?_⟩)
  exact (s_seq (s_asg (d_call (d_cons (d_var 0) (d_cons (d_var 1) d_nil))) (g_name 2))
      (s_ret (d_cb rc_tupleA (d_cons (d_ofL (l_lc (i_list (d_ofL (l_cb rcl_sortedT (d_cons (d_call (d_cons (d_var 0) d_nil)) d_nil)))) (g_name 3) (by decide) (dt_tB (d_call (d_cons (d_var 2) (d_cons (d_var 3) d_nil)))) (d_var 3))) d_nil))))
theorem b_exchanged (T : TX K mg) : Binds K T.f_exchanged.fd ["order", "one", "other"] [] := T.f_exchanged.F.bindsN fun _ _ _ _ _ _ us hl => match us, hl with | [_, _, _], _ => rfl
set_option maxHeartbeats 4000000 in
theorem ok_exchanged (T : TX K mg) : FnOk WD.P WD.w K mg base (L2.CX WD.P WD.w) 1 T.f_exchanged.f T.f_exchanged.fd ["order", "one", "other"] (spF ⟨K, C⟩ 3 m_exchanged) := by
  refine fn_ok T.f_exchanged.F sc_exchanged (fun cdv A outer s H E hr tk po => ⟨_, (pss_one (ps_ret (pe_callTy (kTupleB K (hc := rfl)) (by rfl) T.m_tuple boot_tuple (pa_cons (pe_lc (own := [("name", 3)]) rfl sc_exchanged.nd (kPiTup K (pv 0)) (blkOk_by (own := [("name", 3)]) (N := N_exchanged) (sc := defScope st_exchanged) (by decide +kernel)) (fun _ _ _ _ _ => (pg_name (i := 3) sc_exchanged.nd rfl (by first | exact Or.inl rfl | exact Or.inr rfl))) (fun _ _ _ _ _ => pts_nil) (fun _ _ _ _ _ => (pe_dget2 (u1 hr) (pe_lockD (pe_disp (pps_cons (pv 1) (pv 2) (pps_cons (pv 2) (pv 1) pps_nil)) (by rfl) (by rfl) (fun z => by cases z) (by decide))) (pv 3) (pv 3) ⟨rfl, rfl, rfl, rfl⟩))) pa_nil)))), ?_⟩)
  exact (s_ret (d_cb rc_tupleA (d_cons (d_ofL (l_lc (i_tup (d_var 0)) (g_name 3) (by decide) dt_yes (d_dget2 (d_disp2 (k_var 1) (k_var 2) (k_var 2) (k_var 1)) (d_var 3) (d_var 3)))) d_nil)))
theorem b_alike_wishes (T : TX K mg) : Binds K T.f_alike_wishes.fd ["code", "words"] [] := T.f_alike_wishes.F.bindsN fun _ _ _ _ _ _ us hl => match us, hl with | [_, _], _ => rfl
set_option maxHeartbeats 4000000 in
theorem ok_alike_wishes (T : TX K mg) : FnOk WD.P WD.w K mg base (L2.CX WD.P WD.w) 10 T.f_alike_wishes.f T.f_alike_wishes.fd ["code", "words"] (spF ⟨K, C⟩ 2 m_alike_wishes) := by
  refine fn_ok T.f_alike_wishes.F sc_alike_wishes (fun cdv A outer s H E hr tk po => ⟨_, (pss_cons (ps_set (i := 2) sc_alike_wishes.nd rfl (Or.inr rfl) (pe_callS (ok_results_by_order (C := C) T) (hr.mono (by decide)) (by rfl) T.f_results_by_order.g T.f_results_by_order.F.kp (b_results_by_order T) (fun σ => passAt tk σ) (pa_cons (pv 0) (pa_cons (pv 1) pa_nil))))
      (pss_cons (ps_set (i := 3) sc_alike_wishes.nd rfl (Or.inr rfl) (pe_callB (kSortedT K) (by rfl) T.m_sorted bt_sorted (pa_cons (pe_callS (ok_wish_names (C := C) T) (hr.mono (by decide)) (by rfl) T.f_wish_names.g T.f_wish_names.F.kp (b_wish_names T) (fun σ => passAt tk σ) (pa_cons (pv 0) pa_nil)) pa_nil)))
      (pss_cons (ps_set (i := 4) sc_alike_wishes.nd rfl (Or.inl rfl) (pe_lst pa_nil))
      (pss_cons (ps_for po rfl (pi_range1 (by rfl) T.m_range (pa_cons (pe_callB (kLen K) (by rfl) T.m_len PySem.boot_len (pa_cons (pv 3) pa_nil)) pa_nil)) (pg_name (i := 5) sc_alike_wishes.nd rfl (Or.inr rfl)) (pss_one (ps_for po rfl (kPiList K (pe_slice (kSl K) (pv 3) (po_some (pe_op (kAdd K) (pv 5) pe_int)) po_none)) (pg_name (i := 6) sc_alike_wishes.nd rfl (Or.inr rfl)) (pss_one (ps_if (pt_val (pe_callB (kAll K (hc := rfl)) (by rfl) T.m_all bt_all (pa_cons (pe_lc (own := [("order", 7)]) rfl sc_alike_wishes.nd (pi_keysN (pv 2)) (blkOk_by (own := [("order", 7)]) (N := N_alike_wishes) (sc := defScope st_alike_wishes) (by decide +kernel)) (fun _ _ _ _ _ => (pg_name (i := 7) sc_alike_wishes.nd rfl (by first | exact Or.inl rfl | exact Or.inr rfl))) (fun _ _ _ _ _ => pts_nil) (fun _ _ _ _ _ => (pe_cmpR (kEq K (hu := hr.units)) (pe_nget K (u9 hr) (pv 2) (pe_callS (ok_exchanged (C := C) T) (hr.mono (by decide)) (by rfl) T.f_exchanged.g T.f_exchanged.F.kp (b_exchanged T) (fun σ => passAt takes0 σ) (pa_cons (pv 7) (pa_cons (pe_ix (kIx K) (pv 3) (pv 5) (fun _ _ => rfl)) (pa_cons (pv 6) pa_nil)))) (fun _ _ => rfl)) (pe_nget K (u9 hr) (pv 2) (pv 7) (fun _ _ => rfl)) (nomark _)))) pa_nil))) (pss_one (ps_expr (pe_bm PySem.F.plainAttrs_list PySem.F.slot_list_append PySem.F.type_list_append mt_append (pv 4) (pa_cons (pe_tupN (pa_cons (pe_ix (kIx K) (pv 3) (pv 5) (fun _ _ => rfl)) (pa_cons (pv 6) pa_nil))) pa_nil)))) pss_nil)))))
      (pss_one (ps_ret (pe_callTy (kTupleB K (hc := rfl)) (by rfl) T.m_tuple boot_tuple (pa_cons (pv 4) pa_nil)))))))), ?_⟩)
  exact (s_seq (s_asg (d_call (d_cons (d_var 0) (d_cons (d_var 1) d_nil))) (g_name 2))
      (s_seq (s_asg (d_ofL (l_cb rcl_sortedT (d_cons (d_call (d_cons (d_var 0) d_nil)) d_nil))) (g_name 3))
      (s_seq (s_setO (l_lst d_nil))
      (s_seq (s_for (i_rng1 (d_cons (d_cb rc_len (d_cons (d_var 3) d_nil)) d_nil)) (g_name 5) (s_for (i_list (d_sl rs_sl (d_var 3) (do_some (d_op ro_add (d_var 5) (d_int 1))) do_none)) (g_name 6) (s_if (dt_tB (d_cb rc_all (d_cons (d_ofL (l_lc (i_keysN (d_var 2)) (g_name 7) (by decide) dt_yes (d_op ro_eq (d_ndget (d_var 2) (d_call (d_cons (d_var 7) (d_cons (d_op ro_ix (d_var 3) (d_var 5)) (d_cons (d_var 6) d_nil))))) (d_ndget (d_var 2) (d_var 7))))) d_nil))) (s_app (d_tup (d_cons (d_op ro_ix (d_var 3) (d_var 5)) (d_cons (d_var 6) d_nil)))) s_nx)))
      (s_ret (d_cb rc_tupleA (d_cons (d_own 4) d_nil)))))))
theorem b__law_refused (T : TX K mg) : Binds K T.f__law_refused.fd ["_law_code_here", "_law_thing", "_law_asked"] [] := T.f__law_refused.F.bindsN fun _ _ _ _ _ _ us hl => match us, hl with | [_, _, _], _ => rfl
set_option maxHeartbeats 4000000 in
theorem ok__law_refused (T : TX K mg) : FnOk WD.P WD.w K mg base (L2.CX WD.P WD.w) 11 T.f__law_refused.f T.f__law_refused.fd ["_law_code_here", "_law_thing", "_law_asked"] (spF ⟨K, C⟩ 3 m__law_refused) := by
  refine fn_ok T.f__law_refused.F sc__law_refused (fun cdv A outer s H E hr tk po => ⟨_, (pss_cons (ps_set (i := 3) sc__law_refused.nd rfl (Or.inl rfl) pe_non)
      (pss_cons (ps_try_T (i := 4) rfl rfl rfl sc__law_refused.nd rfl rfl ⟨by rfl, by decide, Or.inl T.y_LadderError⟩ tk (fun W pn xe tk po => (pss_one (ps_if (pt_cmpR (kEq K (hu := hr.units)) (pv 2) pe_int (nomark _)) (pss_one (ps_expr (pe_callS (ok_outcomes (C := C) T) (hr.mono (by decide)) (by rfl) T.f_outcomes.g T.f_outcomes.F.kp (b_outcomes T) (fun σ => passAt tk σ) (pa_cons (pv 0) (pa_cons (pv 1) pa_nil))))) (pss_one (ps_if (pt_cmpR (kEq K (hu := hr.units)) (pv 2) pe_int (nomark _)) (pss_one (ps_expr (pe_callS (ok_idle (C := C) T) (hr.mono (by decide)) (by rfl) T.f_idle.g T.f_idle.F.kp (b_idle T) (fun σ => passAt tk σ) (pa_cons (pv 0) (pa_cons (pv 1) pa_nil))))) (pss_one (ps_expr (pe_callS (ok_alike_wishes (C := C) T) (hr.mono (by decide)) (by rfl) T.f_alike_wishes.g T.f_alike_wishes.F.kp (b_alike_wishes T) (fun σ => passAt tk σ) (pa_cons (pv 0) (pa_cons (pv 1) pa_nil)))))))))) (fun a oe cls d pn hz hd => pss_one (ps_set (i := 3) sc__law_refused.nd rfl (Or.inl rfl) (pv 4))))
      (pss_one (ps_ret (pe_callS (ok__law_only (C := C) T) (hr.mono (by decide)) (by rfl) T.f__law_only.g T.f__law_only.F.kp (b__law_only T) (fun σ => passAt tk σ) (pa_cons (pv 3) (pa_cons pe_int pa_nil))))))), ?_⟩)
  exact (s_seq (s_asg d_non (g_name 3))
      (s_seq (s_tryN (c := "LadderError") (T.x_ex "LadderError" (by decide)) (fun W => (s_if (dt_test (d_op ro_eq (d_var 2) (d_int 0))) (s_drop (d_call (d_cons (d_var 0) (d_cons (d_var 1) d_nil)))) (s_if (dt_test (d_op ro_eq (d_var 2) (d_int 1))) (s_drop (d_call (d_cons (d_var 0) (d_cons (d_var 1) d_nil)))) (s_drop (d_call (d_cons (d_var 0) (d_cons (d_var 1) d_nil))))))))
      (s_ret (d_callX (d_cons (d_int 2) d_nil)))))
set_option maxHeartbeats 4000000 in
theorem ok_law (T : TX K mg) : FnOk WD.P WD.w K mg base (L2.CX WD.P WD.w) 12 T.f_law.f T.f_law.fd ["_law_script"] (spF ⟨K, C⟩ 1 m_law) := by
  refine fn_ok T.f_law.F sc_law (fun cdv A outer s H E hr tk po => ⟨_, (pss_cons (ps_set (i := 1) sc_law.nd rfl (Or.inr rfl) (pe_callS (ok__law_code (C := C) T) (hr.mono (by decide)) (by rfl) T.f__law_code.g T.f__law_code.F.kp (b__law_code T) (fun σ => passAt tk σ) (pa_cons (pe_callS (ok__law_pack (C := C) T) (hr.mono (by decide)) (by rfl) T.f__law_pack.g T.f__law_pack.F.kp (b__law_pack T) (fun σ => passAt tk σ) (pa_cons (pv 0) (pa_cons pe_int pa_nil))) (pa_cons pe_int pa_nil))))
      (pss_cons (ps_set (i := 2) sc_law.nd rfl (Or.inl rfl) (pe_ix (kIx K) (pe_ix (kIx K) (pv 1) pe_int (fun _ _ => rfl)) pe_int (fun _ _ => rfl)))
      (pss_cons (ps_set (i := 3) sc_law.nd rfl (Or.inl rfl) (pe_lst (pa_cons (pe_tupN pa_nil) (pa_cons (pe_tupN (pa_cons pe_str (pa_cons (pv 2) (pa_cons (pe_op (kMulC K) (pv 2) pe_int) (pa_cons (pe_op (kMulC K) (pv 2) pe_int) (pa_cons (pe_op (kMulC K) (pv 2) pe_int) pa_nil)))))) (pa_cons (pe_tupN (pa_cons (pv 2) (pa_cons (pv 2) pa_nil))) (pa_cons (pe_tupN (pa_cons (pe_op (kMulC K) (pv 2) pe_int) pa_nil)) (pa_cons (pe_tupN (pa_cons pe_str pa_nil)) (pa_cons (pe_tupN (pa_cons pe_str pa_nil)) (pa_cons (pe_tupN (pa_cons pe_str (pa_cons pe_str pa_nil))) pa_nil)))))))))
      (pss_cons (ps_set (i := 3) sc_law.nd rfl (Or.inl rfl) (pe_op (kAdd K) (pv 3) (pe_lst (pa_cons (pv 2) (pa_cons (pe_lst (pa_cons (pv 2) pa_nil)) (pa_cons pe_non (pa_cons pe_int (pa_cons pe_bl (pa_cons (pe_lockD pe_dnewK) (pa_cons pe_str (pa_cons (pe_tupN (pa_cons pe_non pa_nil)) (pa_cons (pe_tupN (pa_cons (pv 2) (pa_cons pe_int pa_nil))) (pa_cons (pe_tupN (pa_cons (pe_tupN (pa_cons (pv 2) pa_nil)) pa_nil)) (pa_cons (pe_tupN (pa_cons (pe_lst (pa_cons (pv 2) pa_nil)) pa_nil)) (pa_cons (pe_slice (kSl K) (pe_tupN (pa_cons (pv 2) (pa_cons pe_str pa_nil))) po_none (po_some pe_int)) pa_nil)))))))))))))))
      (pss_cons (ps_set (i := 3) sc_law.nd rfl (Or.inl rfl) (pe_op (kAdd K) (pv 3) (pe_lst (pa_cons (pe_tupN (pa_cons pe_str (pa_cons (pv 2) (pa_cons (pe_op (kMulC K) (pv 2) pe_int) (pa_cons pe_str pa_nil))))) (pa_cons (pe_tupN (pa_cons pe_bl pa_nil)) (pa_cons (pe_tupN (pa_cons (pe_lockD pe_dnewK) pa_nil)) (pa_cons (pe_tupN (pa_cons pe_str pa_nil)) (pa_cons (pe_tupN (pa_cons (pe_op (kAdd K) (pv 2) pe_str) pa_nil)) (pa_cons (pe_lockD (pe_disp (pps_cons (pv 2) pe_int pps_nil) (by rfl) (by rfl) (fun z => by cases z) (by decide))) pa_nil)))))))))
      (pss_cons (ps_for po rfl (pi_range2 (by rfl) T.m_range (pa_cons pe_int (pa_cons pe_int pa_nil))) (pg_name (i := 4) sc_law.nd rfl (Or.inl rfl)) (pss_cons (ps_set (i := 5) sc_law.nd rfl (Or.inr rfl) (pe_ix (kIx K) (pv 3) (pe_callS (ok__law_take (C := C) T) (hr.mono (by decide)) (by rfl) T.f__law_take.g T.f__law_take.F.kp (b__law_take T) (fun σ => passAt tk σ) (pa_cons (pe_callS (ok__law_pack (C := C) T) (hr.mono (by decide)) (by rfl) T.f__law_pack.g T.f__law_pack.F.kp (b__law_pack T) (fun σ => passAt tk σ) (pa_cons (pv 0) (pa_cons (pv 4) pa_nil))) (pa_cons (pe_callB (kLen K) (by rfl) T.m_len PySem.boot_len (pa_cons (pv 3) pa_nil)) pa_nil))) (fun _ _ => rfl)))
      (pss_one (ps_if (pt_not (pt_val (pe_callB (kAll K (hc := rfl)) (by rfl) T.m_all bt_all (pa_cons (pe_lc (own := [("_law_asked", 7)]) rfl sc_law.nd (pi_range1 (by rfl) T.m_range (pa_cons pe_int pa_nil)) (blkOk_by (own := [("_law_asked", 7)]) (N := N_law) (sc := defScope st_law) (by decide +kernel)) (fun _ _ _ _ _ => (pg_name (i := 7) sc_law.nd rfl (by first | exact Or.inl rfl | exact Or.inr rfl))) (fun _ _ _ _ _ => pts_nil) (fun _ _ _ _ _ => (pe_callS (ok__law_refused (C := C) T) (hr.mono (by decide)) (by rfl) T.f__law_refused.g T.f__law_refused.F.kp (b__law_refused T) (fun σ => passAt takes0 σ) (pa_cons (pv 1) (pa_cons (pv 5) (pa_cons (pv 7) pa_nil)))))) pa_nil)))) (pss_one (ps_ret pe_bl)) pss_nil))))
      (pss_cons (ps_if ((pw_or (pt_not (pt_val (pe_callS (ok__law_refused (C := C) T) (hr.mono (by decide)) (by rfl) T.f__law_refused.g T.f__law_refused.F.kp (b__law_refused T) (fun σ => passAt tk σ) (pa_cons (pv 1) (pa_cons (pe_tupN (pa_cons (pv 2) (pa_cons (pe_lst (pa_cons (pv 2) pa_nil)) pa_nil))) (pa_cons pe_int pa_nil)))))) (pw_or1 (pt_not (pt_val (pe_callS (ok__law_refused (C := C) T) (hr.mono (by decide)) (by rfl) T.f__law_refused.g T.f__law_refused.F.kp (b__law_refused T) (fun σ => passAt tk σ) (pa_cons (pv 1) (pa_cons (pe_tupN (pa_cons (pv 2) (pa_cons (pv 2) pa_nil))) (pa_cons pe_int pa_nil))))))))).pt (pss_one (ps_ret pe_bl)) pss_nil)
      (pss_cons (ps_set (i := 6) sc_law.nd rfl (Or.inl rfl) (pe_tupN (pa_cons pe_str (pa_cons (pv 2) (pa_cons (pe_op (kMulC K) (pv 2) pe_int) (pa_cons (pe_op (kMulC K) (pv 2) pe_int) pa_nil))))))
      (pss_one (ps_ret (pe_and (pe_callB (kIsi K) (by rfl) T.m_isinstance boot_isinstance (pa_cons (pe_callS (ok_outcomes (C := C) T) (hr.mono (by decide)) (by rfl) T.f_outcomes.g T.f_outcomes.F.kp (b_outcomes T) (fun σ => passAt tk σ) (pa_cons (pv 1) (pa_cons (pv 6) pa_nil))) (pa_cons (pe_bltn (v := .ty "tuple") (by rfl) T.m_tuple boot_tuple rfl) pa_nil))) (pe_one (pe_callB (kIsi K) (by rfl) T.m_isinstance boot_isinstance (pa_cons (pe_callS (ok_idle (C := C) T) (hr.mono (by decide)) (by rfl) T.f_idle.g T.f_idle.F.kp (b_idle T) (fun σ => passAt tk σ) (pa_cons (pv 1) (pa_cons (pv 6) pa_nil))) (pa_cons (pe_bltn (v := .ty "tuple") (by rfl) T.m_tuple boot_tuple rfl) pa_nil))))))))))))))), ?_⟩)
  exact (s_seq (s_asg (d_callT (l_call (d_cons (d_var 0) (d_cons (d_int 0) d_nil))) (d_cons (d_int 2) d_nil)) (g_name 1))
      (s_seq (s_asg (d_op ro_ix (d_op ro_ix (d_var 1) (d_int 0)) (d_int 0)) (g_name 2))
      (s_seq (s_asg (d_ofL (l_lst (d_cons (d_tup d_nil) (d_cons (d_tup (d_cons (d_str _) (d_cons (d_var 2) (d_cons (d_op ro_mulC (d_var 2) (d_int 2)) (d_cons (d_op ro_mulC (d_var 2) (d_int 3)) (d_cons (d_op ro_mulC (d_var 2) (d_int 4)) d_nil)))))) (d_cons (d_tup (d_cons (d_var 2) (d_cons (d_var 2) d_nil))) (d_cons (d_tup (d_cons (d_op ro_mulC (d_var 2) (d_int 5)) d_nil)) (d_cons (d_tup (d_cons (d_str _) d_nil)) (d_cons (d_tup (d_cons (d_str _) d_nil)) (d_cons (d_tup (d_cons (d_str _) (d_cons (d_str _) d_nil))) d_nil))))))))) (g_name 3))
      (s_seq (s_asg (d_op ro_add (d_var 3) (d_ofL (l_lst (d_cons (d_var 2) (d_cons (d_ofL (l_lst (d_cons (d_var 2) d_nil))) (d_cons d_non (d_cons (d_int 7) (d_cons (d_bl true) (d_cons d_dict0 (d_cons (d_str _) (d_cons (d_tup (d_cons d_non d_nil)) (d_cons (d_tup (d_cons (d_var 2) (d_cons (d_int 7) d_nil))) (d_cons (d_tup (d_cons (d_tup (d_cons (d_var 2) d_nil)) d_nil)) (d_cons (d_tup (d_cons (d_ofL (l_lst (d_cons (d_var 2) d_nil))) d_nil)) (d_cons (d_sl rs_sl (d_tup (d_cons (d_var 2) (d_cons (d_str _) d_nil))) do_none (do_some (d_int 0))) d_nil))))))))))))))) (g_name 3))
      (s_seq (s_asg (d_op ro_add (d_var 3) (d_ofL (l_lst (d_cons (d_tup (d_cons (d_str _) (d_cons (d_var 2) (d_cons (d_op ro_mulC (d_var 2) (d_int 2)) (d_cons (d_str _) d_nil))))) (d_cons (d_tup (d_cons (d_bl true) d_nil)) (d_cons (d_tup (d_cons d_dict0 d_nil)) (d_cons (d_tup (d_cons (d_str _) d_nil)) (d_cons (d_tup (d_cons (d_op ro_add (d_var 2) (d_str _)) d_nil)) (d_cons (d_dict1 (d_var 2) (d_int 1)) d_nil))))))))) (g_name 3))
      (s_seq (s_for (i_rng2 (d_cons (d_int 1) (d_cons (d_int 4) d_nil))) (g_name 4) (s_seq (s_asg (d_op ro_ix (d_var 3) (d_callT (l_call (d_cons (d_var 0) (d_cons (d_var 4) d_nil))) (d_cons (d_cb rc_len (d_cons (d_var 3) d_nil)) d_nil))) (g_name 5))
      (s_if (dt_not (dt_tB (d_cb rc_all (d_cons (d_ofL (l_lc (i_rng1 (d_cons (d_int 3) d_nil)) (g_name 7) (by decide) dt_yes (d_call (d_cons (d_var 1) (d_cons (d_var 5) (d_cons (d_var 7) d_nil)))))) d_nil)))) (s_ret (d_bl false)) s_nx)))
      (s_seq (s_if (dt_or (dt_not (dt_tB (d_call (d_cons (d_var 1) (d_cons (d_tup (d_cons (d_var 2) (d_cons (d_ofL (l_lst (d_cons (d_var 2) d_nil))) d_nil))) (d_cons (d_int 0) d_nil)))))) (dt_not (dt_tB (d_call (d_cons (d_var 1) (d_cons (d_tup (d_cons (d_var 2) (d_cons (d_var 2) d_nil))) (d_cons (d_int 1) d_nil))))))) (s_ret (d_bl false)) s_nx)
      (s_seq (s_asg (d_tup (d_cons (d_str _) (d_cons (d_var 2) (d_cons (d_op ro_mulC (d_var 2) (d_int 2)) (d_cons (d_op ro_mulC (d_var 2) (d_int 4)) d_nil))))) (g_name 6))
      (s_ret (d_and (d_isi (d_call (d_cons (d_var 1) (d_cons (d_var 6) d_nil)))) (d_isi (d_call (d_cons (d_var 1) (d_cons (d_var 6) d_nil))))))))))))))
end
def d__law_take : He.DefD := ⟨("_law_take", none), "_law_take", "_law_take", defArgs st__law_take, defBody st__law_take, defScope st__law_take, [], []⟩
def d__law_names : He.DefD := ⟨("_law_names", none), "_law_names", "_law_names", defArgs st__law_names, defBody st__law_names, defScope st__law_names, [], []⟩
def d__law_set : He.DefD := ⟨("_law_set", none), "_law_set", "_law_set", defArgs st__law_set, defBody st__law_set, defScope st__law_set, [], []⟩
def d__law_pattern : He.DefD := ⟨("_law_pattern", none), "_law_pattern", "_law_pattern", defArgs st__law_pattern, defBody st__law_pattern, defScope st__law_pattern, [], []⟩
def d__law_code : He.DefD := ⟨("_law_code", none), "_law_code", "_law_code", defArgs st__law_code, defBody st__law_code, defScope st__law_code, [], []⟩
def d__law_mixed : He.DefD := ⟨("_law_mixed", none), "_law_mixed", "_law_mixed", defArgs st__law_mixed, defBody st__law_mixed, defScope st__law_mixed, [], []⟩
def d__law_pack : He.DefD := ⟨("_law_pack", none), "_law_pack", "_law_pack", defArgs st__law_pack, defBody st__law_pack, defScope st__law_pack, [], []⟩
def d__law_only : He.DefD := ⟨("_law_only", none), "_law_only", "_law_only", defArgs st__law_only, defBody st__law_only, defScope st__law_only, [], []⟩
def d_is_text_of : He.DefD := ⟨("is_text_of", none), "is_text_of", "is_text_of", defArgs st_is_text_of, defBody st_is_text_of, defScope st_is_text_of, [], []⟩
def d_is_word : He.DefD := ⟨("is_word", none), "is_word", "is_word", defArgs st_is_word, defBody st_is_word, defScope st_is_word, [], []⟩
def d_check_word : He.DefD := ⟨("check_word", none), "check_word", "check_word", defArgs st_check_word, defBody st_check_word, defScope st_check_word, [], []⟩
def d_check_words : He.DefD := ⟨("check_words", none), "check_words", "check_words", defArgs st_check_words, defBody st_check_words, defScope st_check_words, [], []⟩
def d_wish_names : He.DefD := ⟨("wish_names", none), "wish_names", "wish_names", defArgs st_wish_names, defBody st_wish_names, defScope st_wish_names, [], []⟩
def d_all_orders : He.DefD := ⟨("all_orders", none), "all_orders", "all_orders", defArgs st_all_orders, defBody st_all_orders, defScope st_all_orders, [], []⟩
def d_Road_counts_at : He.DefD := ⟨("Road", some "counts_at"), "counts_at", "Road.counts_at", defArgs st_Road_counts_at, defBody st_Road_counts_at, defScope st_Road_counts_at, [], []⟩
def d_is_order : He.DefD := ⟨("is_order", none), "is_order", "is_order", defArgs st_is_order, defBody st_is_order, defScope st_is_order, [], []⟩
def d_check_order : He.DefD := ⟨("check_order", none), "check_order", "check_order", defArgs st_check_order, defBody st_check_order, defScope st_check_order, [], []⟩
def d_steps_of : He.DefD := ⟨("steps_of", none), "steps_of", "steps_of", defArgs st_steps_of, defBody st_steps_of, defScope st_steps_of, [], []⟩
def d_steps_from : He.DefD := ⟨("steps_from", none), "steps_from", "steps_from", defArgs st_steps_from, defBody st_steps_from, defScope st_steps_from, [], []⟩
def d_lasts : He.DefD := ⟨("lasts", none), "lasts", "lasts", defArgs st_lasts, defBody st_lasts, defScope st_lasts, [], []⟩
def d_ranked : He.DefD := ⟨("ranked", none), "ranked", "ranked", defArgs st_ranked, defBody st_ranked, defScope st_ranked, [], []⟩
def d_Road_offer : He.DefD := ⟨("Road", some "offer"), "offer", "Road.offer", defArgs st_Road_offer, defBody st_Road_offer, defScope st_Road_offer, [], []⟩
def d_is_ended : He.DefD := ⟨("is_ended", none), "is_ended", "is_ended", defArgs st_is_ended, defBody st_is_ended, defScope st_is_ended, [], []⟩
def d_end_counts : He.DefD := ⟨("end_counts", none), "end_counts", "end_counts", defArgs st_end_counts, defBody st_end_counts, defScope st_end_counts, [], []⟩
def d_behind : He.DefD := ⟨("behind", none), "behind", "behind", defArgs st_behind, defBody st_behind, defScope st_behind, [], []⟩
def d_added : He.DefD := ⟨("added", none), "added", "added", defArgs st_added, defBody st_added, defScope st_added, [], []⟩
def d_is_met : He.DefD := ⟨("is_met", none), "is_met", "is_met", defArgs st_is_met, defBody st_is_met, defScope st_is_met, [], []⟩
def d_step_counts : He.DefD := ⟨("step_counts", none), "step_counts", "step_counts", defArgs st_step_counts, defBody st_step_counts, defScope st_step_counts, [], []⟩
def d_Road_settle : He.DefD := ⟨("Road", some "settle"), "settle", "Road.settle", defArgs st_Road_settle, defBody st_Road_settle, defScope st_Road_settle, [], []⟩
def d_Road_init : He.DefD := ⟨("Road", some "__init__"), "__init__", "Road.__init__", defArgs st_Road_init, defBody st_Road_init, defScope st_Road_init, [], []⟩
def d_road_of : He.DefD := ⟨("road_of", none), "road_of", "road_of", defArgs st_road_of, defBody st_road_of, defScope st_road_of, [], []⟩
def d_least : He.DefD := ⟨("least", none), "least", "least", defArgs st_least, defBody st_least, defScope st_least, [], []⟩
def d_results_by_order : He.DefD := ⟨("results_by_order", none), "results_by_order", "results_by_order", defArgs st_results_by_order, defBody st_results_by_order, defScope st_results_by_order, [], []⟩
def d_outcomes : He.DefD := ⟨("outcomes", none), "outcomes", "outcomes", defArgs st_outcomes, defBody st_outcomes, defScope st_outcomes, [], []⟩
def d_without : He.DefD := ⟨("without", none), "without", "without", defArgs st_without, defBody st_without, defScope st_without, [], []⟩
def d_is_idle : He.DefD := ⟨("is_idle", none), "is_idle", "is_idle", defArgs st_is_idle, defBody st_is_idle, defScope st_is_idle, [], []⟩
def d_idle : He.DefD := ⟨("idle", none), "idle", "idle", defArgs st_idle, defBody st_idle, defScope st_idle, [], []⟩
def d_exchanged : He.DefD := ⟨("exchanged", none), "exchanged", "exchanged", defArgs st_exchanged, defBody st_exchanged, defScope st_exchanged, [], []⟩
def d_alike_wishes : He.DefD := ⟨("alike_wishes", none), "alike_wishes", "alike_wishes", defArgs st_alike_wishes, defBody st_alike_wishes, defScope st_alike_wishes, [], []⟩
def d__law_refused : He.DefD := ⟨("_law_refused", none), "_law_refused", "_law_refused", defArgs st__law_refused, defBody st__law_refused, defScope st__law_refused, [], []⟩
def d_law : He.DefD := ⟨("law", none), "law", "law", defArgs st_law, defBody st_law, defScope st_law, [], []⟩
def fn : List He.DefD := [d__law_take, d__law_names, d__law_set, d__law_pattern, d__law_code, d__law_mixed, d__law_pack, d__law_only, d_is_text_of, d_is_word, d_check_word, d_check_words, d_wish_names, d_all_orders, d_Road_counts_at, d_is_order, d_check_order, d_steps_of, d_steps_from, d_lasts, d_ranked, d_Road_offer, d_is_ended, d_end_counts, d_behind, d_added, d_is_met, d_step_counts, d_Road_settle, d_Road_init, d_road_of, d_least, d_results_by_order, d_outcomes, d_without, d_is_idle, d_idle, d_exchanged, d_alike_wishes, d__law_refused, d_law]
def exB (K : PySem.W.Frag) : Bool := okIs K raisedC testedC upC && (okEx K raisedC caughtC upC && (okIsB K raisedC "ValueError" (.type "ValueError") upC))
def fa : List He.Fa := [.glo "_law_take", .glo "_law_names", .glo "_law_set", .glo "_law_pattern", .glo "_law_code", .glo "_law_mixed", .glo "_law_pack", .glo "_law_only", .glo "is_text_of", .glo "is_word", .glo "check_word", .glo "check_words", .glo "wish_names", .glo "all_orders", .meth "Road" "counts_at", .glo "is_order", .glo "check_order", .glo "steps_of", .glo "steps_from", .glo "lasts", .glo "ranked", .meth "Road" "offer", .glo "is_ended", .glo "end_counts", .glo "behind", .glo "added", .glo "is_met", .glo "step_counts", .meth "Road" "settle", .meth "Road" "__init__", .glo "road_of", .glo "least", .glo "results_by_order", .glo "outcomes", .glo "without", .glo "is_idle", .glo "idle", .glo "exchanged", .glo "alike_wishes", .glo "_law_refused", .glo "law", .free "ValueError", .free "all", .free "dict", .free "divmod", .free "isinstance", .free "len", .free "range", .free "set", .free "sorted", .free "str", .free "sum", .free "tuple", .free "zip", .glo "LadderError", .glo "NoBook", .glo "NoCall", .glo "NoForm", .glo "NoKept", .glo "NoNumber", .glo "NoOrder", .glo "NoTelling", .glo "NoText", .glo "NoWeights", .glo "NoWord", .glo "TooMany", .str "EDGE" "#", .int "MOST_SIGNS_HERE" 4, .int "MOST_WORD" 8, .int "MOST_WORDS" 4, .glo "NoOrder", .exc "NoOrder", .glo "NoWord", .exc "NoWord", .noat "Road" "code", .noat "Road" "known", .noat "Road" "order", .noat "Road" "word", .meth "Road" "counts_at", .meth "Road" "offer", .meth "Road" "settle", .glo "Road", .cls "Road", .mkr "Road"]
end Lw
namespace Lw
open PySem PySem.Spec L2 Evl Dt
abbrev Rr : PySem.W.OpenRow := PySem.W.OpenLaw.row PySem.Challenge.rw_wishladder_k53_words_that_are_none
abbrev hk : PySem.W.Hook := hookE 4 fa fn exB
def ob (s : PySem.W.SharedT) : He.AlD × Bool := obsE 4 fa fn exB (HandSHeadRun.getT s)
theorem ob_eq (s : PySem.W.SharedT) : ob s = hk.obs s.abs := obsE_eq (HandSHeadRun.getT_eq s)
theorem run (w : World) : HandSHeadRun.RunEq Rr (PySem.W.view Rr.prog [62]) hk ob 6000 [("LadderError" : PySem.Str), ("NoText" : PySem.Str), ("NoOrder" : PySem.Str), ("NoWord" : PySem.Str), ("NoNumber" : PySem.Str), ("NoForm" : PySem.Str), ("NoTelling" : PySem.Str), ("NoBook" : PySem.Str), ("TooMany" : PySem.Str), ("NoWeights" : PySem.Str), ("NoCall" : PySem.Str), ("NoKept" : PySem.Str), ("EDGE" : PySem.Str), ("is_text_of" : PySem.Str), ("MOST_WORD" : PySem.Str), ("is_word" : PySem.Str), ("check_word" : PySem.Str), ("wish_names" : PySem.Str), ("is_order" : PySem.Str), ("check_order" : PySem.Str), ("all_orders" : PySem.Str), ("ranked" : PySem.Str), ("lasts" : PySem.Str), ("behind" : PySem.Str), ("steps_of" : PySem.Str), ("is_met" : PySem.Str), ("step_counts" : PySem.Str), ("is_ended" : PySem.Str), ("end_counts" : PySem.Str), ("added" : PySem.Str), ("steps_from" : PySem.Str), ("Road" : PySem.Str), ("road_of" : PySem.Str), ("least" : PySem.Str), ("MOST_WORDS" : PySem.Str), ("MOST_SIGNS_HERE" : PySem.Str), ("check_words" : PySem.Str), ("results_by_order" : PySem.Str), ("outcomes" : PySem.Str), ("without" : PySem.Str), ("is_idle" : PySem.Str), ("idle" : PySem.Str), ("exchanged" : PySem.Str), ("alike_wishes" : PySem.Str), ("_law_mixed" : PySem.Str), ("_law_pack" : PySem.Str), ("_law_take" : PySem.Str), ("_law_names" : PySem.Str), ("_law_set" : PySem.Str), ("_law_pattern" : PySem.Str), ("_law_code" : PySem.Str), ("_law_only" : PySem.Str), ("_law_refused" : PySem.Str)] w := by
  intro os
  kernel_rfl
end Lw
namespace Lw
open PySem PySem.Spec L2 Evl Dt
open TL (tl joinL tl_join tl_ofString join_eq tl_append len_tl)
abbrev NB : Type := { n : Int // 0 ≤ n ∧ n < 1000000000000000000000000000000000000000000000000000000000000 }
instance : Coe NB Int := ⟨Subtype.val⟩
abbrev S (s : String) : Str := Str.ofString s
def zzL : List Nat := [122, 122, 113, 122, 122, 113, 122, 122]
theorem pow_add {a b : Int} {N : Nat} (ha : a.natAbs < 2 ^ N) (hb : b.natAbs < 4096) (hN : 12 ≤ N) : (a + b).natAbs < 2 ^ (N + 1) := by
  have h := Nat.pow_le_pow_right (n := 2) (by omega) hN
  rw [Nat.pow_succ]
  generalize 2 ^ N = P at *
  have h12 : 2 ^ 12 = 4096 := rfl
  omega
theorem bits_add {a b : Int} {N : Nat} (ha : Dt.bits a ≤ N) (hb : b.natAbs < 4096) (hN : 12 ≤ N) : Dt.bits (a + b) ≤ N + 1 :=
  bits_le (pow_add (Nat.lt_of_lt_of_le (PyProof.Rows.natAbs_lt_pow_bits a) (Nat.pow_le_pow_right (by omega) ha)) hb hN)
theorem m_mixed (c : Int) (hc : Dt.bits c ≤ 1048577) : m__law_mixed [.d (.int c)] = .ok (.d (.int (c * 915965594177219015054603514932384110774149374281672134266497 % 1000000000000000000000000000000000000000000000000000000000000))) [.d (.int c)] := by
  have hb : Dt.bits 915965594177219015054603514932384110774149374281672134266497 ≤ 200 := bits_le (by decide +kernel)
  have hm : mulOk c 915965594177219015054603514932384110774149374281672134266497 = true := by
    simp only [mulOk, Bool.or_eq_true, decide_eq_true_eq]
    exact .inr (by omega)
  have e1 : ((10 : Int) ^ (60 : Int).toNat) = 1000000000000000000000000000000000000000000000000000000000000 := by decide +kernel
  have e2 : (0 : Int) < 1000000000000000000000000000000000000000000000000000000000000 := by decide +kernel
  simp [m__law_mixed, gOf, w__law_mixed, hm]
theorem atI_nat {α : Type} {xs : List α} {k : Nat} (h : k < xs.length) : atI xs (k : Int) = some xs[k] := by
  unfold atI ixN
  rw [if_pos (by omega), if_pos (by omega)]
  show xs[(k : Int).toNat]? = _
  simp [h]
theorem m_pack (ns : List Int) (hb : ∀ z ∈ ns, Dt.bits z ≤ 1048576) (k : Nat) (hk : k < 64) : ∃ n : NB, m__law_pack [.d (.list (ns.map PyData.int)), .d (.int k)] = .ok (.l [.int n]) [.d (.list (ns.map PyData.int)), .d (.int k)] := by
  have m1 : mulOk 41 (k : Int) = true := by
    have : Dt.bits (41 : Int) ≤ 64 := bits_le (by decide)
    simp [mulOk, this]
  have m2 : mulOk 6131 (k : Int) = true := by
    have : Dt.bits (6131 : Int) ≤ 64 := bits_le (by decide)
    simp [mulOk, this]
  by_cases h : k < ns.length
  · have e := m_mixed (ns[k] + 41 * (k : Int)) (bits_add (hb _ (List.getElem_mem h)) (by omega) (by omega))
    have ea : atI (ns.map PyData.int) (k : Int) = some (.int ns[k]) := by
      rw [atI_nat (by rw [List.length_map]; exact h)]
      simp
    exact ⟨⟨_, Int.emod_nonneg _ (by decide), Int.emod_lt_of_pos _ (by decide)⟩, by simp [m__law_pack, gOf, w__law_pack, h, ea, m1, e, sizeLine]; rfl⟩
  · have e := m_mixed (6131 * (k : Int) + 17) (Nat.le_trans (bits_le (n := 20) (by omega)) (by omega))
    exact ⟨⟨_, Int.emod_nonneg _ (by decide), Int.emod_lt_of_pos _ (by decide)⟩, by simp [m__law_pack, gOf, w__law_pack, h, m2, e, sizeLine]; rfl⟩
theorem m_take (n : Int) {top : Int} (h0 : 0 < top) (h1 : top < 1073741824) : m__law_take [.own true [.int n], .d (.int top)] = .ok (.d (.int (n % top))) [.own true [.int (n / top)], .d (.int top)] := by
  simp [m__law_take, gOf, w__law_take, h0, h1, put_eq]
theorem div_nb (n : NB) {top : Int} (h0 : 0 < top) : 0 ≤ (n : Int) / top ∧ (n : Int) / top < 1000000000000000000000000000000000000000000000000000000000000 :=
  ⟨Int.ediv_nonneg n.2.1 (by omega), Int.lt_of_le_of_lt (Int.ediv_le_self _ n.2.1) n.2.2⟩
theorem take_ex (n : NB) (top : Int) (h0 : 0 < top) (h1 : top < 1073741824) : ∃ (d : Int) (n' : NB), 0 ≤ d ∧ d < top ∧ m__law_take [.own true [.int n], .d (.int top)] = .ok (.d (.int d)) [.own true [.int n'], .d (.int top)] :=
  ⟨_, ⟨_, div_nb n h0⟩, Int.emod_nonneg _ (by omega), Int.emod_lt_of_pos _ h0, m_take n h0 h1⟩
theorem strOk_lt {z : Str} (h : ∀ c ∈ tl z, c < 1114112) : PyData.strOk z = true := by
  unfold PyData.strOk
  rw [Array.all_eq_true_iff_forall_mem]
  intro c hc
  exact decide_eq_true (h c (by unfold tl; exact Array.mem_toList_iff.mpr hc))
theorem at0 {α : Type} (x : α) (rest : List α) : atI (x :: rest) 0 = some x := by simp [atI, ixN]
def sgs (cs : List Nat) : List Pd := (cs.map sg1).map PyData.str
theorem sgs_len (cs : List Nat) : (sgs cs).length = cs.length := by simp [sgs]
theorem sgs_app (cs : List Nat) (c : Nat) : sgs cs ++ [.str (sg1 c)] = sgs (cs ++ [c]) := by simp [sgs]
theorem join_sgs (cs : List Nat) (h : cs.length ≤ 1000) : joinD (.str (Str.ofString "")) [.list (sgs cs)] = some (.str (ofL cs)) := join_signs cs h
theorem nodup_range {α : Type} {f : Nat → α} {m : Nat} (h : ∀ i j, i < j → j < m → f i ≠ f j) : ((List.range m).map f).Nodup := by
  refine List.pairwise_map.mpr ?_
  refine List.Pairwise.imp_of_mem (fun {a b} ha hb hab => ?_) (List.pairwise_lt_range (n := m))
  exact h a b hab (List.mem_range.mp hb)
theorem abc_z : abc.length ≤ 16777216 := by decide +kernel
structure Turned (w : Str) : Prop where
  len : (tl w).length = 26
  nd : (tl w).Nodup
  let' : ∀ c ∈ tl w, 97 ≤ c ∧ c ≤ 122
theorem turned {t : Int} (h0 : 0 ≤ t) (h1 : t < 26) : Turned (cutS abc (some t) none ++ cutS abc none (some t)) := by
  have e : tl (cutS abc (some t) none ++ cutS abc none (some t)) = (tl abc).drop t.toNat ++ (tl abc).take t.toNat := by
    rw [tl_append, tl_drop _ _ h0, tl_take _ _ h0]
  have p : ((tl abc).drop t.toNat ++ (tl abc).take t.toNat).Perm (tl abc) := by
    refine List.perm_append_comm.trans (.of_eq ?_)
    exact List.take_append_drop _ _
  refine ⟨?_, ?_, ?_⟩
  · rw [e, p.length_eq, tl_abc]
    rfl
  · rw [e]
    exact p.nodup_iff.mpr (by rw [tl_abc]; decide)
  · intro c hc
    rw [e] at hc
    exact (mem_abc c).mp (p.mem_iff.mp hc)
def gW (w : Str) (i : Nat) : Nat := (tl w)[i]?.getD 0
theorem Turned.at {w : Str} (hw : Turned w) {i : Nat} (hi : i < 26) : atI w.cps.toList (i : Int) = some (gW w i) := by
  have h : i < (tl w).length := by rw [hw.len]; omega
  have := atI_nat (xs := tl w) h
  unfold gW
  rw [List.getElem?_eq_getElem h]
  exact this
theorem Turned.letter {w : Str} (hw : Turned w) {i : Nat} (hi : i < 26) : 97 ≤ gW w i ∧ gW w i ≤ 122 := by
  have h : i < (tl w).length := by rw [hw.len]; omega
  unfold gW
  rw [List.getElem?_eq_getElem h]
  exact hw.let' _ (List.getElem_mem h)
theorem Turned.inj {w : Str} (hw : Turned w) {i j : Nat} (hij : i < j) (hj : j < 26) : gW w i ≠ gW w j := by
  have h1 : i < (tl w).length := by rw [hw.len]; omega
  have h2 : j < (tl w).length := by rw [hw.len]; omega
  unfold gW
  rw [List.getElem?_eq_getElem h1, List.getElem?_eq_getElem h2]
  exact (List.pairwise_iff_getElem.mp hw.nd) i j h1 h2 hij
theorem Turned.mid {w : Str} (hw : Turned w) {x : Int} (x0 : 0 ≤ x) (x1 : x ≤ 7) : (tl (cutS w (some 5) (some (5 + x)))).length = x.toNat ∧ ∀ c ∈ tl (cutS w (some 5) (some (5 + x))), 97 ≤ c ∧ c ≤ 122 := by
  rw [tl_mid _ _ _ (by omega) (by omega)]
  refine ⟨?_, fun c hc => hw.let' c (List.mem_of_mem_drop (List.mem_of_mem_take hc))⟩
  rw [List.length_take, List.length_drop, hw.len]
  show min ((5 + x).toNat - 5) (26 - 5) = _
  omega
theorem Turned.mnd {w : Str} (hw : Turned w) (x : Int) (h : 0 ≤ x) : (tl (cutS w (some 5) (some (5 + x)))).Nodup := by
  rw [tl_mid _ _ _ (by omega) (by omega)]
  exact (hw.nd.sublist (List.drop_sublist _ _)).sublist (List.take_sublist _ _)
theorem names_run (n3 t k z : Int) (m : Nat) (hm : m ≤ 8) (w : Str) (ce : Rho → R AV) (f : Nat → Str) (hce : ∀ i : Nat, i < m → ce [.own true [.int n3], .d (.int m), .d (.str w), .d (.int t), .d (.int k), .d (.int z), .d (.int i)] = .ok (.d (.str (f i))) [.own true [.int n3], .d (.int m), .d (.str w), .d (.int t), .d (.int k), .d (.int z), .d (.int i)]) :
      lcRun (put 6) (fun ρ => R.ok true ρ) ce [6] (nums 0 m) [] [.own true [.int n3], .d (.int m), .d (.str w), .d (.int t), .d (.int k), .d (.int z), .no] = .ok (((List.range m).map f).map PyData.str) [.own true [.int n3], .d (.int m), .d (.str w), .d (.int t), .d (.int k), .d (.int z), .no] := by
  have := lc_map (h := put 6) (ft := fun ρ => R.ok true ρ) (fe := ce) (vs := [6]) (fun x => match x with | .int i => .str (f i.toNat) | x => x) (ρ := [.own true [.int n3], .d (.int m), .d (.str w), .d (.int t), .d (.int k), .d (.int z), .no]) (xs := nums 0 m) (acc := []) (fun x hx => by
    obtain ⟨i, hi, rfl⟩ := List.mem_map.mp hx
    have hi := List.mem_range.mp hi
    refine ⟨[.own true [.int n3], .d (.int m), .d (.str w), .d (.int t), .d (.int k), .d (.int z), .d (.int i)], _, [.own true [.int n3], .d (.int m), .d (.str w), .d (.int t), .d (.int k), .d (.int z), .d (.int i)], by simp [put_eq], rfl, ?_, by simp⟩
    rw [hce i hi]
    simp) (by simp [nums, sizeLine]; omega)
  rw [this, List.nil_append]
  unfold nums
  rw [List.map_map, List.map_map]
  congr 1
  exact List.map_congr_left fun i _ => by simp
theorem sl1 (c : Nat) : (⟨#[c]⟩ : Str).length = 1 := rfl
abbrev NamesR (n3 t k z : Int) (m : Nat) (w : Str) (ce : Rho → R AV) : Prop := ∃ ys : List Str, ys.length = m ∧ ys.Nodup ∧ (∀ y ∈ ys, nameL (tl y) ∧ tl y ≠ zzL) ∧
  lcRun (put 6) (fun ρ => R.ok true ρ) ce [6] (nums 0 m) [] [.own true [.int n3], .d (.int m), .d (.str w), .d (.int t), .d (.int k), .d (.int z), .no] = .ok (ys.map PyData.str) [.own true [.int n3], .d (.int m), .d (.str w), .d (.int t), .d (.int k), .d (.int z), .no]
theorem names0 (n3 t k z : Int) (z0 : 0 ≤ z) (z1 : z < 8) (m : Nat) (hm : m ≤ 8) {w : Str} (hw : Turned w) : NamesR n3 t k z m w ce__law_names_0 := by
  have wl : w.length = 26 := by rw [len_tl]; exact hw.len
  have wz : w.length ≤ 16777216 := by omega
  have r := names_run n3 t k z m hm w ce__law_names_0 (fun i => Txt.mul (sg1 (gW w 0)) (1 + (z + (i : Int)) % 8)) (fun i hi => by
    have w0' : atI w.cps.toList 0 = some (gW w 0) := hw.at (i := 0) (by omega)
    have g1 : (0 : Int) ≤ 1 + (z + (i : Int)) % 8 := by omega
    have g2 : 1 + (z + (i : Int)) % 8 ≤ 1000 := by omega
    simp [ce__law_names_0, wz, sizeLine, w0', g1, g2, sl1])
  have tlm : ∀ i : Nat, tl (Txt.mul (sg1 (gW w 0)) (1 + (z + (i : Int)) % 8)) = List.replicate (1 + (z + (i : Int)) % 8).toNat (gW w 0) := fun i => PyProof.Rows.mul_one_list _ _
  refine ⟨_, ?_, nodup_range (m := m) (f := fun i => Txt.mul (sg1 (gW w 0)) (1 + (z + (i : Int)) % 8)) ?_, ?_, r⟩
  · simp
  · intro i j hij hj e
    have := congrArg (fun s => (tl s).length) e
    simp only [tlm, List.length_replicate] at this
    omega
  · intro y hy
    obtain ⟨i, hi, rfl⟩ := List.mem_map.mp hy
    have hi := List.mem_range.mp hi
    rw [tlm]
    refine ⟨⟨by rw [List.length_replicate]; omega, by rw [List.length_replicate]; omega, fun c hc => ?_⟩, fun e => ?_⟩
    · rw [(List.mem_replicate.mp hc).2]
      exact hw.letter (by omega)
    · have h1 : 122 ∈ List.replicate (1 + (z + (i : Int)) % 8).toNat (gW w 0) := by rw [e]; decide
      have h2 : 113 ∈ List.replicate (1 + (z + (i : Int)) % 8).toNat (gW w 0) := by rw [e]; decide
      have h1 := (List.mem_replicate.mp h1).2
      have h2 := (List.mem_replicate.mp h2).2
      omega
theorem names1 (n3 t k z : Int) (z0 : 0 ≤ z) (z1 : z < 8) (m : Nat) (hm : m ≤ 8) {w : Str} (hw : Turned w) : NamesR n3 t k z m w ce__law_names_1 := by
  have wl : w.length = 26 := by rw [len_tl]; exact hw.len
  have wz : w.length ≤ 16777216 := by omega
  have xx : ∀ i : Nat, (0 : Int) ≤ (z + 3 * (i : Int)) % 8 ∧ (z + 3 * (i : Int)) % 8 ≤ 7 := fun i => by omega
  have r := names_run n3 t k z m hm w ce__law_names_1 (fun i => sg1 (gW w i) ++ cutS w (some 5) (some (5 + (z + 3 * (i : Int)) % 8))) (fun i hi => by
    have w0 := hw.at (i := i) (by omega)
    have m3 : mulOk 3 (i : Int) = true := by
      have : Dt.bits (3 : Int) ≤ 64 := bits_le (by decide)
      simp [mulOk, this]
    have g' : 1 + (cutS w (some 5) (some (5 + (z + 3 * (i : Int)) % 8))).length ≤ 16777216 := by
      have := cutS_length w (some 5) (some (5 + (z + 3 * (i : Int)) % 8))
      omega
    simp [ce__law_names_1, wz, sizeLine, w0, m3, sl1, g'])
  refine ⟨_, ?_, nodup_range (m := m) (f := fun i => sg1 (gW w i) ++ cutS w (some 5) (some (5 + (z + 3 * (i : Int)) % 8))) ?_, ?_, r⟩
  · simp
  · intro i j hij hj e
    have := congrArg tl e
    rw [tl_append, tl_append] at this
    exact hw.inj hij (by omega) (List.cons.inj this).1
  · intro y hy
    obtain ⟨i, hi, rfl⟩ := List.mem_map.mp hy
    have hi := List.mem_range.mp hi
    obtain ⟨q1, q2⟩ := hw.mid (xx i).1 (xx i).2
    have := xx i
    rw [tl_append]
    refine ⟨⟨by rw [List.length_append]; show 1 ≤ 1 + _; omega, by rw [List.length_append, q1]; show 1 + _ ≤ 8; omega, fun c hc => ?_⟩, fun e => ?_⟩
    · rcases List.mem_append.mp hc with hc | hc
      · rw [List.mem_singleton.mp hc]; exact hw.letter (by omega)
      · exact q2 c hc
    · have e2 : tl (cutS w (some 5) (some (5 + (z + 3 * (i : Int)) % 8))) = [122, 113, 122, 122, 113, 122, 122] := (List.cons.inj e).2
      have hn := hw.mnd ((z + 3 * (i : Int)) % 8) (xx i).1
      rw [e2] at hn
      exact absurd hn (by decide)
theorem names2 (n3 t k z : Int) (z0 : 0 ≤ z) (z1 : z < 8) (m : Nat) (hm : m ≤ 8) {w : Str} (hw : Turned w) : NamesR n3 t k z m w ce__law_names_2 := by
  have wl : w.length = 26 := by rw [len_tl]; exact hw.len
  have wz : w.length ≤ 16777216 := by omega
  have r := names_run n3 t k z m hm w ce__law_names_2 (fun i => cutS w (some 5) (some (5 + z)) ++ sg1 (gW w i)) (fun i hi => by
    have w0 := hw.at (i := i) (by omega)
    have g' : (cutS w (some 5) (some (5 + z))).length + 1 ≤ 16777216 := by
      have := cutS_length w (some 5) (some (5 + z))
      omega
    simp [ce__law_names_2, wz, sizeLine, w0, sl1, g'])
  refine ⟨_, ?_, nodup_range (m := m) (f := fun i => cutS w (some 5) (some (5 + z)) ++ sg1 (gW w i)) ?_, ?_, r⟩
  · simp
  · intro i j hij hj e
    have := congrArg tl e
    rw [tl_append, tl_append] at this
    exact hw.inj hij (by omega) (List.cons.inj (List.append_cancel_left this)).1
  · intro y hy
    obtain ⟨i, hi, rfl⟩ := List.mem_map.mp hy
    have hi := List.mem_range.mp hi
    obtain ⟨q1, q2⟩ := hw.mid z0 (by omega)
    rw [tl_append]
    refine ⟨⟨by rw [List.length_append]; show 1 ≤ _ + 1; omega, by rw [List.length_append, q1]; show _ + 1 ≤ 8; omega, fun c hc => ?_⟩, fun e => ?_⟩
    · rcases List.mem_append.mp hc with hc | hc
      · exact q2 c hc
      · rw [List.mem_singleton.mp hc]; exact hw.letter (by omega)
    · have e2 := congrArg List.dropLast e
      rw [show tl (sg1 (gW w i)) = [gW w i] from rfl, List.dropLast_concat] at e2
      have hn := hw.mnd z z0
      rw [e2] at hn
      exact absurd hn (by decide)
theorem seq3 {A B C T : Rho → R Fl} {ρ ρ' : Rho} (h : fSeq A (fSeq B C) ρ = .ok .nx ρ') : fSeq A (fSeq B (fSeq C T)) ρ = T ρ' := by
  simp only [fSeq_ap] at h ⊢
  cases eA : A ρ with
  | bad => rw [eA] at h; cases h
  | ex e r => rw [eA] at h; cases h
  | ok f r =>
    rw [eA] at h
    cases f with
    | nx =>
      simp only at h ⊢
      cases eB : B r with
      | bad => rw [eB] at h; cases h
      | ex e r => rw [eB] at h; cases h
      | ok f r2 =>
        rw [eB] at h
        cases f with
        | nx => simp only at h ⊢; rw [h]
        | _ => cases h
    | _ => cases h
theorem abc26 : abc.length = 26 := by decide +kernel
def nmHead : Rho → R Fl := (fSeq (fAsg (fC (.str abc)) (put 2)) (fSeq (fAsg (fCallP 1 0 m__law_take (fCons (fC (.int 26)) fNil)) (put 3)) (fAsg (f2 addD (fSl slD (fVar 2) (fPart (fVar 3)) fNoPart) (fSl slD (fVar 2) fNoPart (fPart (fVar 3)))) (put 2))))
def nmTail : Rho → R Fl := (fSeq (fAsg (fCallP 1 0 m__law_take (fCons (fC (.int 3)) fNil)) (put 4))
  (fSeq (fAsg (fCallP 1 0 m__law_take (fCons (fC (.int 8)) fNil)) (put 5))
  (fSeq (fIfS (fTest (f2 eqD (fVar 4) (fC (.int 0)))) (fRetL (fLc (fRng1 (fCons (fVar 1) fNil)) (put 6) (fun ρ => .ok true ρ) ce__law_names_0 [6])) fNx)
  (fSeq (fIfS (fTest (f2 eqD (fVar 4) (fC (.int 1)))) (fRetL (fLc (fRng1 (fCons (fVar 1) fNil)) (put 6) (fun ρ => .ok true ρ) ce__law_names_1 [6])) fNx)
  (fRetL (fLc (fRng1 (fCons (fVar 1) fNil)) (put 6) (fun ρ => .ok true ρ) ce__law_names_2 [6]))))))
theorem nm_head (n : NB) (m : Nat) : ∃ (w : Str) (n1 : NB) (t : Int), Turned w ∧ nmHead [.own true [.int n], .d (.int m), .no, .no, .no, .no, .no] = .ok .nx [.own true [.int n1], .d (.int m), .d (.str w), .d (.int t), .no, .no, .no] := by
  obtain ⟨t, n1, t0, t1, e1⟩ := take_ex n 26 (by omega) (by omega)
  have hw := turned t0 t1
  have az := abc_z
  have ac : (cutS abc (some t) none).length + (cutS abc none (some t)).length ≤ 16777216 := by
    have h1 := cutS_length abc (some t) none
    have h2 := cutS_length abc none (some t)
    rw [abc26] at h1 h2
    omega
  refine ⟨_, n1, t, hw, ?_⟩
  generalize hW : cutS abc (some t) none ++ cutS abc none (some t) = w
  simp [nmHead, put_eq, e1, az, ac, hW, sizeLine]
theorem nm_b0 {n1 n2 n3 t z M : Int} {w : Str} {L : List Pd} (e2 : m__law_take [.own true [.int n1], .d (.int 3)] = .ok (.d (.int 0)) [.own true [.int n2], .d (.int 3)]) (e3 : m__law_take [.own true [.int n2], .d (.int 8)] = .ok (.d (.int z)) [.own true [.int n3], .d (.int 8)])
    (h1 : -4611686018427387904 ≤ M) (h2 : M < 4611686018427387904)
    (r : lcRun (put 6) (fun ρ => R.ok true ρ) ce__law_names_0 [6] (nums 0 M.toNat) [] [.own true [.int n3], .d (.int M), .d (.str w), .d (.int t), .d (.int 0), .d (.int z), .no] = .ok L [.own true [.int n3], .d (.int M), .d (.str w), .d (.int t), .d (.int 0), .d (.int z), .no]) :
    nmTail [.own true [.int n1], .d (.int M), .d (.str w), .d (.int t), .no, .no, .no] = .ok (.rl L) [.own true [.int n3], .d (.int M), .d (.str w), .d (.int t), .d (.int 0), .d (.int z), .no] := by
  simp [nmTail, put_eq, e2, e3, h1, h2, r]
theorem nm_b1 {n1 n2 n3 t z M : Int} {w : Str} {L : List Pd} (e2 : m__law_take [.own true [.int n1], .d (.int 3)] = .ok (.d (.int 1)) [.own true [.int n2], .d (.int 3)]) (e3 : m__law_take [.own true [.int n2], .d (.int 8)] = .ok (.d (.int z)) [.own true [.int n3], .d (.int 8)])
    (h1 : -4611686018427387904 ≤ M) (h2 : M < 4611686018427387904)
    (r : lcRun (put 6) (fun ρ => R.ok true ρ) ce__law_names_1 [6] (nums 0 M.toNat) [] [.own true [.int n3], .d (.int M), .d (.str w), .d (.int t), .d (.int 1), .d (.int z), .no] = .ok L [.own true [.int n3], .d (.int M), .d (.str w), .d (.int t), .d (.int 1), .d (.int z), .no]) :
    nmTail [.own true [.int n1], .d (.int M), .d (.str w), .d (.int t), .no, .no, .no] = .ok (.rl L) [.own true [.int n3], .d (.int M), .d (.str w), .d (.int t), .d (.int 1), .d (.int z), .no] := by
  simp [nmTail, put_eq, e2, e3, h1, h2, r]
theorem nm_b2 {n1 n2 n3 t z M : Int} {w : Str} {L : List Pd} (e2 : m__law_take [.own true [.int n1], .d (.int 3)] = .ok (.d (.int 2)) [.own true [.int n2], .d (.int 3)]) (e3 : m__law_take [.own true [.int n2], .d (.int 8)] = .ok (.d (.int z)) [.own true [.int n3], .d (.int 8)])
    (h1 : -4611686018427387904 ≤ M) (h2 : M < 4611686018427387904)
    (r : lcRun (put 6) (fun ρ => R.ok true ρ) ce__law_names_2 [6] (nums 0 M.toNat) [] [.own true [.int n3], .d (.int M), .d (.str w), .d (.int t), .d (.int 2), .d (.int z), .no] = .ok L [.own true [.int n3], .d (.int M), .d (.str w), .d (.int t), .d (.int 2), .d (.int z), .no]) :
    nmTail [.own true [.int n1], .d (.int M), .d (.str w), .d (.int t), .no, .no, .no] = .ok (.rl L) [.own true [.int n3], .d (.int M), .d (.str w), .d (.int t), .d (.int 2), .d (.int z), .no] := by
  simp [nmTail, put_eq, e2, e3, h1, h2, r]
theorem nm_tail (n1 : NB) (t : Int) (m : Nat) (hm : m ≤ 8) {w : Str} (hw : Turned w) : ∃ (ys : List Str) (n' : NB) (k z : Int), ys.length = m ∧ ys.Nodup ∧ (∀ y ∈ ys, nameL (tl y) ∧ tl y ≠ zzL) ∧
    nmTail [.own true [.int n1], .d (.int m), .d (.str w), .d (.int t), .no, .no, .no] = .ok (.rl (ys.map PyData.str)) [.own true [.int n'], .d (.int m), .d (.str w), .d (.int t), .d (.int k), .d (.int z), .no] := by
  obtain ⟨k, n2, k0, k1, e2⟩ := take_ex n1 3 (by omega) (by omega)
  obtain ⟨z, n3, z0, z1, e3⟩ := take_ex n2 8 (by omega) (by omega)
  have hr : (-4611686018427387904 : Int) ≤ m ∧ (m : Int) < 4611686018427387904 := by omega
  have hk : k = 0 ∨ k = 1 ∨ k = 2 := by omega
  have em : ((m : Int)).toNat = m := Int.toNat_natCast m
  rcases hk with rfl | rfl | rfl
  · obtain ⟨ys, h1, h2, h3, r⟩ := names0 n3 t 0 z z0 z1 m hm hw
    exact ⟨ys, n3, 0, z, h1, h2, h3, nm_b0 e2 e3 hr.1 hr.2 (by rw [em]; exact r)⟩
  · obtain ⟨ys, h1, h2, h3, r⟩ := names1 n3 t 1 z z0 z1 m hm hw
    exact ⟨ys, n3, 1, z, h1, h2, h3, nm_b1 e2 e3 hr.1 hr.2 (by rw [em]; exact r)⟩
  · obtain ⟨ys, h1, h2, h3, r⟩ := names2 n3 t 2 z z0 z1 m hm hw
    exact ⟨ys, n3, 2, z, h1, h2, h3, nm_b2 e2 e3 hr.1 hr.2 (by rw [em]; exact r)⟩
theorem m_names (n : NB) (m : Nat) (hm : m ≤ 8) : ∃ (ys : List Str) (n' : NB), ys.length = m ∧ ys.Nodup ∧ (∀ y ∈ ys, nameL (tl y) ∧ tl y ≠ zzL) ∧
    m__law_names [.own true [.int n], .d (.int m)] = .ok (.l (ys.map PyData.str)) [.own true [.int n'], .d (.int m)] := by
  obtain ⟨w, n1, t, hw, s1⟩ := nm_head n m
  obtain ⟨ys, n', k, z, h1, h2, h3, s2⟩ := nm_tail n1 t m hm hw
  refine ⟨ys, n', h1, h2, h3, ?_⟩
  have e : w__law_names [.own true [.int n], .d (.int m), .no, .no, .no, .no, .no] = .ok (.rl (ys.map PyData.str)) [.own true [.int n'], .d (.int m), .d (.str w), .d (.int t), .d (.int k), .d (.int z), .no] := (seq3 (T := nmTail) s1).trans s2
  show endF _ (w__law_names [.own true [.int n], .d (.int m), .no, .no, .no, .no, .no]) = _
  rw [e]
  rfl
end Lw
namespace Lw
open PySem PySem.Spec L2 Evl Dt
open TL (tl joinL tl_join tl_ofString join_eq tl_append len_tl)
structure SgOk (s : Str) : Prop where
  l1 : 1 ≤ (tl s).length
  l3 : (tl s).length ≤ 3
  let' : ∀ c ∈ tl s, 97 ≤ c ∧ c ≤ 122
  ris : (tl s).Pairwise (· < ·)
def SetOf (s : Str) (a : Str) : Prop := tl a ≠ [] ∧ (tl a).Sublist (tl s)
inductive KindOk (s : Str) : List Str → Prop
  | sign {a} (h : SetOf s a) : KindOk s [S "sign", a]
  | drop {a} (h : SetOf s a) : KindOk s [S "drop", a]
  | add {a} (h : SetOf s a) : KindOk s [S "add", a]
  | change {a b} (h : SetOf s a) (g : SetOf s b) : KindOk s [S "change", a, b]
  | beside {a b} (h : SetOf (S "#" ++ s) a) (g : SetOf (S "#" ++ s) b) : KindOk s [S "beside", a, b]
structure Pat where
  k : List Str
  t : Int
def Pat.d (p : Pat) : Pd := .tuple [.tuple (p.k.map PyData.str), .int p.t]
structure Pat.Ok (s : Str) (p : Pat) : Prop where
  k : KindOk s p.k
  t1 : 1 ≤ p.t
  t3 : p.t ≤ 3
structure Wish where
  n : Str
  ps : List Pat
def Wish.d (w : Wish) : Pd := .tuple [.str w.n, .tuple (w.ps.map Pat.d)]
structure Wish.Ok (s : Str) (w : Wish) : Prop where
  n : nameL (tl w.n) ∧ True
  l1 : 1 ≤ w.ps.length
  l3 : w.ps.length ≤ 3
  ps : ∀ p ∈ w.ps, p.Ok s
structure Code where
  s : Str
  ws : List Wish
def Code.d (c : Code) : Pd := .tuple [.str c.s, .tuple (c.ws.map Wish.d)]
structure Code.Ok (m : Nat) (c : Code) : Prop where
  s : SgOk c.s
  l1 : 1 ≤ c.ws.length
  lm : c.ws.length ≤ m
  nd : (c.ws.map Wish.n).Nodup
  ws : ∀ w ∈ c.ws, w.Ok c.s
theorem set_run (n N : Int) (s : Str) (h4 : (tl s).length ≤ 4) : ∃ cs : List Nat, cs.Sublist (tl s) ∧ (cs = [] → ∀ j : Nat, j < (tl s).length → N / 2 ^ j % 2 ≠ 1) ∧
    lcRun (put 3) ct__law_set_0 ce__law_set_0 [3] (nums 0 (tl s).length) [] [.own true [.int n], .d (.str s), .d (.int N), .no] = .ok (sgs cs) [.own true [.int n], .d (.str s), .d (.int N), .no] := by
  have hle : s.length ≤ 16777216 := by rw [len_tl]; omega
  have hlen : (nums 0 (tl s).length).length = (tl s).length := by simp [nums]
  have g1 : Nat.log2 1 < 9000 := by decide
  have g2 : Nat.log2 2 < 9000 := by decide
  have g4 : Nat.log2 4 < 9000 := by decide
  have g8 : Nat.log2 8 < 9000 := by decide
  obtain ⟨acc, ρ', key, cs, hsub, hne, rfl, rfl⟩ := lc_invF (h := put 3) (ft := ct__law_set_0) (fe := ce__law_set_0) (vs := [3]) (xs := nums 0 (tl s).length) (ρ := [.own true [.int n], .d (.str s), .d (.int N), .no])
    (fun i acc ρ => ∃ cs : List Nat, cs.Sublist ((tl s).take i) ∧ (cs = [] → ∀ j : Nat, j < i → N / 2 ^ j % 2 ≠ 1) ∧ acc = sgs cs ∧ ρ = [.own true [.int n], .d (.str s), .d (.int N), .no]) (fun i x acc ρ hx hI => by
      obtain ⟨cs, hsub, hne, rfl, rfl⟩ := hI
      have hi : i < (tl s).length := by
        have := (List.getElem?_eq_some_iff.mp hx).1
        omega
      have hx' : x = .int i := by
        unfold nums at hx
        rw [List.getElem?_map, List.getElem?_range hi] at hx
        simp at hx
        exact hx.symm
      subst hx'
      have ea : atI s.cps.toList (i : Int) = some (tl s)[i] := atI_nat (xs := tl s) hi
      have ht : (tl s).take (i + 1) = (tl s).take i ++ [(tl s)[i]] := (List.take_append_getElem hi).symm
      refine ⟨[.own true [.int n], .d (.str s), .d (.int N), .d (.int i)], [.own true [.int n], .d (.str s), .d (.int N), .d (.int i)], by simp [put_eq], ?_⟩
      have et : ct__law_set_0 [.own true [.int n], .d (.str s), .d (.int N), .d (.int i)] = .ok (decide (N / 2 ^ i % 2 = 1)) [.own true [.int n], .d (.str s), .d (.int N), .d (.int i)] := by
        have : i = 0 ∨ i = 1 ∨ i = 2 ∨ i = 3 := by omega
        rcases this with rfl | rfl | rfl | rfl <;> simp [ct__law_set_0, g1, g2, g4, g8]
      rw [et]
      by_cases hd : N / 2 ^ i % 2 = 1
      · refine .inr ⟨by rw [decide_eq_true hd], [.own true [.int n], .d (.str s), .d (.int N), .d (.int i)], .str (sg1 (tl s)[i]), by simp [ce__law_set_0, hle, sizeLine, ea], ?_, cs ++ [(tl s)[i]], ?_, ?_, sgs_app cs _, by simp⟩
        · have := hsub.length_le
          rw [List.length_take] at this
          rw [sgs_len]
          simp [sizeLine]
          omega
        · rw [ht]
          exact hsub.append (.refl _)
        · intro e
          simp at e
      · refine .inl ⟨by rw [decide_eq_false hd], cs, ?_, ?_, rfl, by simp⟩
        · rw [ht]
          exact hsub.trans (List.sublist_append_left _ _)
        · intro e j hj
          by_cases hji : j = i
          · rw [hji]; exact hd
          · exact hne e j (by omega)) ⟨[], by simp, fun _ j hj => by omega, rfl, rfl⟩
  rw [hlen] at hsub hne
  rw [List.take_length] at hsub
  exact ⟨cs, hsub, hne, key⟩
theorem m_set (n : NB) (s : Str) (h1 : 1 ≤ (tl s).length) (h4 : (tl s).length ≤ 4) :
    ∃ (cs : List Nat) (n' : NB), cs.Sublist (tl s) ∧ cs ≠ [] ∧ m__law_set [.own true [.int n], .d (.str s)] = .ok (.d (.str (ofL cs))) [.own true [.int n'], .d (.str s)] := by
  have hl := len_tl s
  have fin : ∀ top : Int, 0 < top → top < 1073741824 → top = 2 ^ (tl s).length - 1 → ∃ (cs : List Nat) (n' : NB) (N : Int), cs.Sublist (tl s) ∧ cs ≠ [] ∧ m__law_take [.own true [.int n], .d (.int top)] = .ok (.d (.int N)) [.own true [.int n'], .d (.int top)] ∧
      lcRun (put 3) ct__law_set_0 ce__law_set_0 [3] (nums 0 (tl s).length) [] [.own true [.int n'], .d (.str s), .d (.int (1 + N)), .no] = .ok (sgs cs) [.own true [.int n'], .d (.str s), .d (.int (1 + N)), .no] ∧ joinD (.str (Str.ofString "")) [.list (sgs cs)] = some (.str (ofL cs)) := by
    intro top t0 t1 te
    obtain ⟨d, n1, d0, d1, e1⟩ := take_ex n top t0 t1
    obtain ⟨cs, hsub, hne, key⟩ := set_run n1 (1 + d) s h4
    refine ⟨cs, n1, d, hsub, ?_, e1, key, join_sgs cs (by have := hsub.length_le; omega)⟩
    intro e
    have hb := hne e
    have : (tl s).length = 1 ∨ (tl s).length = 2 ∨ (tl s).length = 3 ∨ (tl s).length = 4 := by omega
    rcases this with h | h | h | h <;> rw [h] at hb te <;> simp at te
    · have := hb 0 (by omega); simp at this; omega
    · have a := hb 0 (by omega); have b := hb 1 (by omega); simp at a b; omega
    · have a := hb 0 (by omega); have b := hb 1 (by omega); have c := hb 2 (by omega); simp at a b c; omega
    · have a := hb 0 (by omega); have b := hb 1 (by omega); have c := hb 2 (by omega); have d := hb 3 (by omega); simp at a b c d; omega
  have : (tl s).length = 1 ∨ (tl s).length = 2 ∨ (tl s).length = 3 ∨ (tl s).length = 4 := by omega
  rcases this with h | h | h | h
  · obtain ⟨cs, n', N, q1, q2, e1, key, hj⟩ := fin 1 (by omega) (by omega) (by rw [h]; rfl)
    rw [h] at hl key
    exact ⟨cs, n', q1, q2, by simp [m__law_set, gOf, w__law_set, put_eq, hl, sizeLine, e1, key, hj]⟩
  · obtain ⟨cs, n', N, q1, q2, e1, key, hj⟩ := fin 3 (by omega) (by omega) (by rw [h]; rfl)
    rw [h] at hl key
    exact ⟨cs, n', q1, q2, by simp [m__law_set, gOf, w__law_set, put_eq, hl, sizeLine, e1, key, hj]⟩
  · obtain ⟨cs, n', N, q1, q2, e1, key, hj⟩ := fin 7 (by omega) (by omega) (by rw [h]; rfl)
    rw [h] at hl key
    exact ⟨cs, n', q1, q2, by simp [m__law_set, gOf, w__law_set, put_eq, hl, sizeLine, e1, key, hj]⟩
  · obtain ⟨cs, n', N, q1, q2, e1, key, hj⟩ := fin 15 (by omega) (by omega) (by rw [h]; rfl)
    rw [h] at hl key
    exact ⟨cs, n', q1, q2, by simp [m__law_set, gOf, w__law_set, put_eq, hl, sizeLine, e1, key, hj]⟩
theorem m_pattern (n : NB) {s : Str} (hs : SgOk s) : ∃ (k : List Str) (n' : NB), KindOk s k ∧ m__law_pattern [.own true [.int n], .d (.str s)] = .ok (.d (.tuple (k.map PyData.str))) [.own true [.int n'], .d (.str s)] := by
  obtain ⟨d6, n1, g0, g1, e6⟩ := take_ex n 6 (by omega) (by omega)
  have hh : tl (S "#" ++ s) = 35 :: tl s := by
    rw [tl_append]
    have : tl (S "#") = [35] := by decide +kernel
    rw [this]
    rfl
  have l1 := hs.l1
  have l3 := hs.l3
  have hsz : 1 + s.length ≤ 16777216 := by rw [len_tl]; omega
  have h1l : (S "#").length = 1 := by decide +kernel
  have n1' : decide (S "sign" = S "beside") = false := by decide +kernel
  have n2 : decide (S "drop" = S "beside") = false := by decide +kernel
  have n3 : decide (S "add" = S "beside") = false := by decide +kernel
  have n4 : decide (S "change" = S "beside") = false := by decide +kernel
  have c1 : decide (S "sign" = S "change") = false := by decide +kernel
  have c2 : decide (S "drop" = S "change") = false := by decide +kernel
  have c3 : decide (S "add" = S "change") = false := by decide +kernel
  have h6 : d6 = 0 ∨ d6 = 1 ∨ d6 = 2 ∨ d6 = 3 ∨ d6 = 4 ∨ d6 = 5 := by omega
  obtain ⟨cs, m1, a1, a2, ea⟩ := m_set n1 s l1 (by omega)
  obtain ⟨cs', m2, b1, b2, eb⟩ := m_set m1 s l1 (by omega)
  obtain ⟨ds, m3, f1, f2, ef⟩ := m_set n1 (S "#" ++ s) (by rw [hh]; simp) (by rw [hh, List.length_cons]; omega)
  obtain ⟨ds', m4, u1, u2, eg⟩ := m_set m3 (S "#" ++ s) (by rw [hh]; simp) (by rw [hh, List.length_cons]; omega)
  rcases h6 with rfl | rfl | rfl | rfl | rfl | rfl
  · exact ⟨_, m1, .sign (a := ofL cs) ⟨a2, a1⟩, by simp [m__law_pattern, gOf, w__law_pattern, e6, put_eq, sizeLine, atI, ixN, n1', c1, ea]⟩
  · exact ⟨_, m1, .drop (a := ofL cs) ⟨a2, a1⟩, by simp [m__law_pattern, gOf, w__law_pattern, e6, put_eq, sizeLine, atI, ixN, n2, c2, ea]⟩
  · exact ⟨_, m1, .add (a := ofL cs) ⟨a2, a1⟩, by simp [m__law_pattern, gOf, w__law_pattern, e6, put_eq, sizeLine, atI, ixN, n3, c3, ea]⟩
  · exact ⟨_, m2, .change (a := ofL cs) (b := ofL cs') ⟨a2, a1⟩ ⟨b2, b1⟩, by simp [m__law_pattern, gOf, w__law_pattern, e6, put_eq, sizeLine, atI, ixN, n4, ea, eb]⟩
  · exact ⟨_, m4, .beside (a := ofL ds) (b := ofL ds') ⟨f2, f1⟩ ⟨u2, u1⟩, by simp [m__law_pattern, gOf, w__law_pattern, e6, put_eq, sizeLine, atI, ixN, h1l, hsz, ef, eg]⟩
  · exact ⟨_, m4, .beside (a := ofL ds) (b := ofL ds') ⟨f2, f1⟩ ⟨u2, u1⟩, by simp [m__law_pattern, gOf, w__law_pattern, e6, put_eq, sizeLine, atI, ixN, h1l, hsz, ef, eg]⟩
theorem code_pats (n : NB) {s : Str} (hs : SgOk s) (m : Nat) (hm : m ≤ 3) {s1 s3 s4 s5 s6 s8 s9 : Sl} (i8 : isIo s8 = false) : ∃ (n' : NB) (ps : List Pat) (t8 : Sl), isIo t8 = false ∧ ps.length = m ∧ (∀ t ∈ ps, t.Ok s) ∧
    forRun (put 8) fb__law_code_1 (nums 0 m) [.own true [.int n], s1, .d (.str s), s3, s4, s5, s6, .own false [], s8, s9] = .ok .nx [.own true [.int n'], s1, .d (.str s), s3, s4, s5, s6, .own false (ps.map Pat.d), t8, s9] := by
  have hlen : (nums 0 m).length = m := by simp [nums]
  have l4 : Nat.log2 4 < 9000 := by decide
  obtain ⟨ρ', e, n', ps, t8, h8, hpl, hok, rfl⟩ := for_inv (h := put 8) (fb := fb__law_code_1) (xs := nums 0 m) (ρ := [.own true [.int n], s1, .d (.str s), s3, s4, s5, s6, .own false [], s8, s9])
    (fun i ρ => ∃ (n' : NB) (ps : List Pat) (t8 : Sl), isIo t8 = false ∧ ps.length = i ∧ (∀ t ∈ ps, t.Ok s) ∧ ρ = [.own true [.int n'], s1, .d (.str s), s3, s4, s5, s6, .own false (ps.map Pat.d), t8, s9])
    (fun i x ρ hx hI => by
      obtain ⟨n', ps, t8, h8, hpl, hok, rfl⟩ := hI
      have hi : i < m := by
        have := (List.getElem?_eq_some_iff.mp hx).1
        omega
      obtain ⟨k, n2, hk, ek⟩ := m_pattern n' hs
      obtain ⟨d6, n3, d0, d1, ed⟩ := take_ex n2 6 (by omega) (by omega)
      refine ⟨[.own true [.int n'], s1, .d (.str s), s3, s4, s5, s6, .own false (ps.map Pat.d), .d x, s9], _, by simp [put_eq, h8], .inl ?_, n3, ps ++ [⟨k, 1 + d6 / 4⟩], .d x, rfl, by simp [hpl], ?_, rfl⟩
      · have hz : ps.length < 16777216 := by omega
        simp [fb__law_code_1, ek, ed, l4, sizeLine, hz, Pat.d]
      · intro t ht
        rcases List.mem_append.mp ht with ht | ht
        · exact hok t ht
        · rw [List.mem_singleton.mp ht]
          exact ⟨hk, by show 1 ≤ 1 + d6 / 4; omega, by show 1 + d6 / 4 ≤ 3; omega⟩)
    ⟨n, [], s8, i8, rfl, by simp, rfl⟩
  rw [hlen] at hpl
  exact ⟨n', ps, t8, h8, hpl, hok, e⟩
theorem code_turn (n : NB) {s : Str} (hs : SgOk s) (nm : Str) (hn : nameL (tl nm) ∧ tl nm ≠ zzL) (ws : List Wish) (hw : ws.length ≤ 19) {s1 s3 s4 s7 s8 s9 : Sl} (i7 : isIo s7 = false) (i8 : isIo s8 = false) :
    ∃ (n' : NB) (w : Wish) (t7 t8 : Sl), w.Ok s ∧ w.n = nm ∧ isIo t7 = false ∧ isIo t8 = false ∧
      fb__law_code_0 [.own true [.int n], s1, .d (.str s), s3, s4, .own false (ws.map Wish.d), .d (.str nm), s7, s8, s9] =
        .ok .nx [.own true [.int n'], s1, .d (.str s), s3, s4, .own false ((ws ++ [w]).map Wish.d), .d (.str nm), t7, t8, s9] := by
  obtain ⟨d6, n1, d0, d1, ed⟩ := take_ex n 6 (by omega) (by omega)
  obtain ⟨n', ps, t8, h8, hpl, hok, e⟩ := code_pats n1 hs (1 + d6 / 3).toNat (by omega) (s1 := s1) (s3 := s3) (s4 := s4) (s5 := .own false (ws.map Wish.d)) (s6 := .d (.str nm)) (s9 := s9) i8
  refine ⟨n', ⟨nm, ps⟩, .own false (ps.map Pat.d), t8, ⟨⟨hn.1, trivial⟩, by show 1 ≤ ps.length; omega, by show ps.length ≤ 3; omega, hok⟩, rfl, rfl, h8, ?_⟩
  have l3 : Nat.log2 3 < 9000 := by decide
  have hr : (-4611686018427387904 : Int) ≤ 1 + d6 / 3 ∧ (1 + d6 / 3 : Int) < 4611686018427387904 := by omega
  have hz : ws.length < 16777216 := by omega
  simp [fb__law_code_0, putOwn_eq, i7, ed, l3, hr.1, hr.2, e, sizeLine, hz, Wish.d]
theorem neg1 (m : Nat) : (-1 + ((m : Int) + 1)).toNat = m := by omega
theorem atL {α : Type} (l : List α) (x : α) : atI (l ++ [x]) (-1) = some x := by
  unfold atI ixN
  rw [if_neg (by omega), if_pos (by simp; omega)]
  simp [neg1]
theorem ixL {α : Type} (l : List α) (x : α) : ixN (l ++ [x]).length (-1) = some l.length := by
  unfold ixN
  rw [if_neg (by omega), if_pos (by simp; omega)]
  simp [neg1]
theorem m_code (n : NB) (m : Nat) (h0 : 1 ≤ m) (h1 : m ≤ 5) : ∃ (c : Code) (n' : NB), c.Ok m ∧ (∀ x ∈ c.ws.map Wish.n, tl x ≠ zzL) ∧ m__law_code [.own true [.int n], .d (.int m)] = .ok (.d c.d) [.own true [.int n'], .d (.int m)] := by
  obtain ⟨d6, n1, d60, d61, e6⟩ := take_ex n 6 (by omega) (by omega)
  obtain ⟨dm, n2, dm0, dm1, em⟩ := take_ex n1 (m : Int) (by omega) (by omega)
  obtain ⟨ys, n3, hyl, hynd, hyn, en⟩ := m_names n2 (1 + dm).toNat (by omega)
  have hcast : (((1 + dm).toNat : Nat) : Int) = 1 + dm := by omega
  rw [hcast] at en
  obtain ⟨wh, n4, wh0, wh1, ew⟩ := take_ex n3 3 (by omega) (by omega)
  generalize hM : (m : Int) = M at *
  obtain ⟨s, hs, es⟩ : ∃ s, SgOk s ∧ atI [PyData.str (S "a"), .str (S "ab"), .str (S "ab"), .str (S "abc"), .str (S "mz"), .str (S "bxy")] d6 = some (.str s) := by
    have h6 : d6 = 0 ∨ d6 = 1 ∨ d6 = 2 ∨ d6 = 3 ∨ d6 = 4 ∨ d6 = 5 := by omega
    rcases h6 with rfl | rfl | rfl | rfl | rfl | rfl
    · exact ⟨S "a", ⟨by decide +kernel, by decide +kernel, by decide +kernel, by decide +kernel⟩, by simp [atI, ixN]⟩
    · exact ⟨S "ab", ⟨by decide +kernel, by decide +kernel, by decide +kernel, by decide +kernel⟩, by simp [atI, ixN]⟩
    · exact ⟨S "ab", ⟨by decide +kernel, by decide +kernel, by decide +kernel, by decide +kernel⟩, by simp [atI, ixN]⟩
    · exact ⟨S "abc", ⟨by decide +kernel, by decide +kernel, by decide +kernel, by decide +kernel⟩, by simp [atI, ixN]⟩
    · exact ⟨S "mz", ⟨by decide +kernel, by decide +kernel, by decide +kernel, by decide +kernel⟩, by simp [atI, ixN]⟩
    · exact ⟨S "bxy", ⟨by decide +kernel, by decide +kernel, by decide +kernel, by decide +kernel⟩, by simp [atI, ixN]⟩
  obtain ⟨ρ', ef, n5, ws, t6, t7, t8, hwn, hok, i6, i7, i8, rfl⟩ := for_inv (h := put 6) (fb := fb__law_code_0) (xs := ys.map PyData.str) (ρ := [.own true [.int n4], .d (.int M), .d (.str s), .d (.list (ys.map PyData.str)), .d (.int wh), .own false [], .no, .no, .no, .no])
    (fun i ρ => ∃ (n5 : NB) (ws : List Wish) (t6 t7 t8 : Sl), ws.map Wish.n = ys.take i ∧ (∀ w ∈ ws, w.Ok s) ∧ isIo t6 = false ∧ isIo t7 = false ∧ isIo t8 = false ∧
      ρ = [.own true [.int n5], .d (.int M), .d (.str s), .d (.list (ys.map PyData.str)), .d (.int wh), .own false (ws.map Wish.d), t6, t7, t8, .no])
    (fun i x ρ hx hI => by
      obtain ⟨n5, ws, t6, t7, t8, hwn, hok, i6, i7, i8, rfl⟩ := hI
      have hwl : ws.length = (ys.take i).length := by rw [← hwn, List.length_map]
      rw [List.length_take] at hwl
      rw [List.getElem?_map] at hx
      obtain ⟨nm, hx1, rfl⟩ := Option.map_eq_some_iff.mp hx
      obtain ⟨n6, w, u7, u8, hw, hwnm, j7, j8, e⟩ := code_turn n5 hs nm (hyn nm (List.mem_of_getElem? hx1)) ws (by omega) (s1 := .d (.int M)) (s3 := .d (.list (ys.map PyData.str))) (s4 := .d (.int wh)) (s9 := .no) i7 i8
      refine ⟨[.own true [.int n5], .d (.int M), .d (.str s), .d (.list (ys.map PyData.str)), .d (.int wh), .own false (ws.map Wish.d), .d (.str nm), t7, t8, .no], _, by simp [put_eq, i6], .inl e, n6, ws ++ [w], _, u7, u8, ?_, ?_, rfl, j7, j8, rfl⟩
      · rw [List.map_append, hwn, List.take_succ, hx1, List.map_cons, List.map_nil, hwnm]
        rfl
      · intro y hy
        rcases List.mem_append.mp hy with hy | hy
        · exact hok y hy
        · rw [List.mem_singleton.mp hy]; exact hw)
    ⟨n4, [], .no, .no, .no, by simp, by simp, rfl, rfl, rfl, rfl⟩
  rw [List.length_map, List.take_length] at hwn
  have hwl : ws.length = ys.length := by rw [← hwn, List.length_map]
  have hz6 : (ys.map PyData.str).length ≤ 16777216 := by rw [List.length_map]; omega
  by_cases hc : 0 < wh ∧ 1 < ws.length
  · obtain ⟨c1, c2⟩ := hc
    obtain ⟨ws0, wl, rfl⟩ : ∃ ws0 wl, ws = ws0 ++ [wl] := by
      refine ⟨ws.dropLast, ws.getLast (by intro h; rw [h] at c2; simp at c2), ?_⟩
      exact (List.dropLast_concat_getLast _).symm
    have hwlk := hok wl (by simp)
    have sub : ∀ a : Str, SetOf a a ↔ tl a ≠ [] := fun a => ⟨fun h => h.1, fun h => ⟨h, .refl _⟩⟩
    have hss : SetOf s s := (sub s).mpr (by have := hs.l1; intro e; rw [e] at this; simp at this)
    have hwh : wh = 1 ∨ wh = 2 := by omega
    have little : ∃ ps : List Pat, (1 ≤ ps.length ∧ ps.length ≤ 3 ∧ ∀ p ∈ ps, p.Ok s) ∧ cutD [PyData.tuple [.tuple [.str (S "drop"), .str s], .int 1], .tuple [.tuple [.str (S "add"), .str s], .int 1], .tuple [.tuple [.str (S "change"), .str s, .str s], .int 1]] none (some (wh + 1)) = ps.map Pat.d := by
      have a1 : Pat.Ok s ⟨[S "drop", s], 1⟩ := ⟨.drop hss, by simp, by simp⟩
      have a2 : Pat.Ok s ⟨[S "add", s], 1⟩ := ⟨.add hss, by simp, by simp⟩
      have a3 : Pat.Ok s ⟨[S "change", s, s], 1⟩ := ⟨.change hss hss, by simp, by simp⟩
      rcases hwh with rfl | rfl
      · exact ⟨[⟨[S "drop", s], 1⟩, ⟨[S "add", s], 1⟩], ⟨by simp, by simp, by simp [a1, a2]⟩, rfl⟩
      · exact ⟨[⟨[S "drop", s], 1⟩, ⟨[S "add", s], 1⟩, ⟨[S "change", s, s], 1⟩], ⟨by simp, by simp, by simp [a1, a2, a3]⟩, rfl⟩
    obtain ⟨ps, ⟨hp1, hp3, hpo⟩, el⟩ := little
    refine ⟨⟨s, ws0 ++ [⟨wl.n, ps⟩]⟩, n5, ⟨hs, by simp, ?_, ?_, ?_⟩, ?_, ?_⟩
    · simp at hwl ⊢
      omega
    · have : (ws0 ++ [Wish.mk wl.n ps]).map Wish.n = ys := by rw [← hwn]; simp
      show ((ws0 ++ [Wish.mk wl.n ps]).map Wish.n).Nodup
      rw [this]
      exact hynd
    · intro w hw
      rcases List.mem_append.mp hw with hw | hw
      · exact hok w (by simp [hw])
      · rw [List.mem_singleton.mp hw]
        exact ⟨hwlk.n, hp1, hp3, hpo⟩
    · have : (ws0 ++ [Wish.mk wl.n ps]).map Wish.n = ys := by rw [← hwn]; simp
      show ∀ x ∈ (ws0 ++ [Wish.mk wl.n ps]).map Wish.n, tl x ≠ zzL
      rw [this]
      exact fun x hx => (hyn x hx).2
    · have c2' : 1 < ws0.length + 1 := by simpa using c2
      have a1 := atL (ws0.map Wish.d) wl.d
      have a2 := ixL (ws0.map Wish.d) wl.d
      have a3 : wl.d = .tuple [.str wl.n, .tuple (wl.ps.map Pat.d)] := rfl
      have st : (ws0.map Wish.d ++ [wl.d]).set ws0.length (.tuple [.str wl.n, .tuple (ps.map Pat.d)]) = ws0.map Wish.d ++ [.tuple [.str wl.n, .tuple (ps.map Pat.d)]] := by
        rw [← List.length_map (f := Wish.d) (as := ws0)]
        simp
      have hL : [PyData.str (S "a"), .str (S "ab"), .str (S "ab"), .str (S "abc"), .str (S "mz"), .str (S "bxy")].length ≤ 16777216 := by simp
      rw [List.map_append, List.map_cons, List.map_nil] at ef
      rw [a3] at ef a1 a2 st
      rw [List.length_append, List.length_map, List.length_singleton] at a2
      have c3 : (1 : Int) < (ws0.length : Int) + 1 := by omega
      simp [m__law_code, gOf, w__law_code, put_eq, putOwn_eq, sizeLine, e6, es, em, en, ew, ef, c1, c3, a1, a2, el, st, at0, Code.d, Wish.d]
  · have hb : ¬ (0 < wh) ∨ ¬ (1 < ws.length) := by omega
    refine ⟨⟨s, ws⟩, n5, ⟨hs, by show 1 ≤ ws.length; omega, by show ws.length ≤ m; omega, by show (ws.map Wish.n).Nodup; rw [hwn]; exact hynd, hok⟩, by show ∀ x ∈ ws.map Wish.n, tl x ≠ zzL; rw [hwn]; exact fun x hx => (hyn x hx).2, ?_⟩
    rcases hb with hb | hb
    · simp [m__law_code, gOf, w__law_code, put_eq, putOwn_eq, sizeLine, e6, es, em, en, ew, ef, hb, Code.d]
    · by_cases hb2 : 0 < wh
      · have hb3 : ¬ ((1 : Int) < (ws.length : Int)) := by omega
        simp [m__law_code, gOf, w__law_code, put_eq, putOwn_eq, sizeLine, e6, es, em, en, ew, ef, hb3, hb2, Code.d]
      · simp [m__law_code, gOf, w__law_code, put_eq, putOwn_eq, sizeLine, e6, es, em, en, ew, ef, hb2, Code.d]
end Lw
namespace Lw
open PySem PySem.Spec L2 Evl Dt
open TL (tl joinL tl_join tl_ofString join_eq tl_append len_tl)
end Lw
namespace Lw
open PySem PySem.Spec L2 Evl Dt
open TL (tl joinL tl_join tl_ofString join_eq tl_append len_tl)
theorem lc_filterM {α : Type} {h : Pd → Rho → Option Rho} {ft : Rho → R Bool} {fe : Rho → R AV} {vs : List Nat} (d : α → Pd) (p : α → Bool) (g : α → Pd) {ρ : Rho} : ∀ {l : List α} {acc : List Pd}, (∀ x ∈ l, ∃ ρ1 ρ2, h (d x) ρ = some ρ1 ∧ ft ρ1 = .ok (p x) ρ2 ∧ (p x = false → wipeR ρ2 vs = ρ) ∧ (p x = true → ∃ ρ3, fe ρ2 = .ok (.d (g x)) ρ3 ∧ wipeR ρ3 vs = ρ)) →
    acc.length + l.length ≤ 16777216 → lcRun h ft fe vs (l.map d) acc ρ = .ok (acc ++ (l.filter p).map g) ρ
  | [], acc, _, _ => by simp
  | x :: l, acc, H, hl => by
    obtain ⟨ρ1, ρ2, e1, e2, e3, e4⟩ := H x List.mem_cons_self
    have hl' : acc.length + l.length + 1 ≤ 16777216 := by simp at hl; omega
    have hz : acc.length < sizeLine := by simp [sizeLine]; omega
    rw [List.map_cons]
    cases hp : p x with
    | true =>
      rw [hp] at e2
      obtain ⟨ρ3, e5, e6⟩ := e4 hp
      rw [lc_cons_yes e1 e2 e5 hz, e6, lc_filterM d p g (fun y hy => H y (List.mem_cons_of_mem _ hy)) (by simp; omega)]
      simp [List.filter_cons, hp]
    | false =>
      rw [hp] at e2
      rw [lc_cons_no e1 e2, e3 hp, lc_filterM d p g (fun y hy => H y (List.mem_cons_of_mem _ hy)) (by omega)]
      simp [List.filter_cons, hp]
theorem at1 (x y : Pd) (rest : List Pd) : atI (x :: y :: rest) 1 = some y := by
  unfold atI ixN
  rw [if_pos (by omega), if_pos (by simp only [List.length_cons]; omega)]
  rfl
theorem at2 (x y z : Pd) (rest : List Pd) : atI (x :: y :: z :: rest) 2 = some z := by
  unfold atI ixN
  rw [if_pos (by omega), if_pos (by simp only [List.length_cons]; omega)]
  rfl
theorem intsD_map {α : Type} (f : α → Int) (l : List α) : intsD (l.map fun x => .int (f x)) = some (l.map f) := by
  induction l with
  | nil => rfl
  | cons x l ih => simp only [List.map_cons, intsD]; rw [ih]
theorem inD_str (a b : Str) : inD (.str a) (.str b) = some (.bool (inStr a b)) := rfl
abbrev E0 : Str := S ""
end Lw
namespace Lw
open PySem PySem.Spec L2 Evl Dt
open TL (tl joinL tl_join tl_ofString join_eq tl_append len_tl)
def met (k : List Str) (l a b : Str) : Bool := match k with
  | [kd, x] => if kd = S "sign" then !decide (b = E0) && inStr b x else if kd = S "drop" then decide (b = E0) && inStr a x else decide (a = E0) && inStr b x
  | [kd, x, y] => if kd = S "change" then !decide (a = E0) && (!decide (b = E0) && (!decide (a = b) && (inStr a x && inStr b y))) else !decide (b = E0) && (inStr l x && inStr b y)
  | _ => false
def ended (k : List Str) (l : Str) : Bool := match k with
  | [kd, x, y] => decide (kd = S "beside") && (inStr l x && inStr (S "#") y)
  | _ => false
theorem k_n1 : (S "drop" = S "sign") = False := eq_false (by decide +kernel)
theorem k_n2 : (S "add" = S "sign") = False := eq_false (by decide +kernel)
theorem k_n3 : (S "add" = S "drop") = False := eq_false (by decide +kernel)
theorem k_n4 : (S "change" = S "sign") = False := eq_false (by decide +kernel)
theorem k_n5 : (S "change" = S "drop") = False := eq_false (by decide +kernel)
theorem k_n6 : (S "change" = S "add") = False := eq_false (by decide +kernel)
theorem k_n7 : (S "beside" = S "sign") = False := eq_false (by decide +kernel)
theorem k_n8 : (S "beside" = S "drop") = False := eq_false (by decide +kernel)
theorem k_n9 : (S "beside" = S "add") = False := eq_false (by decide +kernel)
theorem k_n10 : (S "beside" = S "change") = False := eq_false (by decide +kernel)
theorem k_m1 : (S "sign" = S "beside") = False := eq_false (by decide +kernel)
theorem k_m2 : (S "drop" = S "beside") = False := eq_false (by decide +kernel)
theorem k_m3 : (S "add" = S "beside") = False := eq_false (by decide +kernel)
theorem k_m4 : (S "change" = S "beside") = False := eq_false (by decide +kernel)
theorem notin_two (a b : Str) : notInD (.str E0) (.tuple [.str a, .str b]) = some (.bool (!decide (a = E0) && !decide (b = E0))) := by
  simp [notInD, inB, flatD, eqv_str]
theorem m_ismet {s : Str} {k : List Str} (hk : KindOk s k) (l a b : Str) : m_is_met [.d (.tuple (k.map PyData.str)), .d (.str l), .d (.tuple [.str a, .str b])] = .ok (.d (.bool (met k l a b))) [.d (.tuple (k.map PyData.str)), .d (.str l), .d (.tuple [.str a, .str b])] := by
  cases hk with
  | sign h => by_cases hb : b = E0 <;> simp [m_is_met, gOf, w_is_met, put_eq, at0, at1, inD_str, met, hb]
  | drop h => by_cases hb : b = E0 <;> simp [m_is_met, gOf, w_is_met, put_eq, at0, at1, inD_str, met, hb, k_n1]
  | add h => by_cases ha : a = E0 <;> simp [m_is_met, gOf, w_is_met, put_eq, at0, at1, inD_str, met, ha, k_n2, k_n3]
  | change h g =>
    rename_i x y
    by_cases ha : a = E0
    · simp [m_is_met, gOf, w_is_met, put_eq, at0, at1, at2, inD_str, met, ha, k_n4, k_n5, k_n6, notin_two]
    · by_cases hb : b = E0
      · simp [m_is_met, gOf, w_is_met, put_eq, at0, at1, at2, inD_str, met, ha, hb, k_n4, k_n5, k_n6, notin_two]
      · by_cases hab : a = b
        · simp [m_is_met, gOf, w_is_met, put_eq, at0, at1, at2, inD_str, met, ha, hb, hab, k_n4, k_n5, k_n6, notin_two]
        · cases hx : inStr a x <;> simp [m_is_met, gOf, w_is_met, put_eq, at0, at1, at2, inD_str, met, ha, hb, hab, hx, k_n4, k_n5, k_n6, notin_two]
  | beside h g =>
    rename_i x y
    by_cases hb : b = E0
    · simp [m_is_met, gOf, w_is_met, put_eq, at0, at1, at2, inD_str, met, hb, k_n7, k_n8, k_n9, k_n10]
    · cases hx : inStr l x <;> simp [m_is_met, gOf, w_is_met, put_eq, at0, at1, at2, inD_str, met, hb, hx, k_n7, k_n8, k_n9, k_n10]
theorem m_isended {s : Str} {k : List Str} (hk : KindOk s k) (l : Str) : m_is_ended [.d (.tuple (k.map PyData.str)), .d (.str l)] = .ok (.d (.bool (ended k l))) [.d (.tuple (k.map PyData.str)), .d (.str l)] := by
  cases hk with
  | sign h => simp [m_is_ended, gOf, w_is_ended, at0, ended, k_m1]
  | drop h => simp [m_is_ended, gOf, w_is_ended, at0, ended, k_m2]
  | add h => simp [m_is_ended, gOf, w_is_ended, at0, ended, k_m3]
  | change h g => simp [m_is_ended, gOf, w_is_ended, at0, ended, k_m4]
  | beside h g =>
    rename_i x y
    cases hx : inStr l x <;> simp [m_is_ended, gOf, w_is_ended, at0, at1, at2, inD_str, ended, hx]
def cntW (w : Wish) (l a b : Str) : Int := ((w.ps.filter fun p => met p.k l a b).map Pat.t).sum
def endW (w : Wish) (l : Str) : Int := ((w.ps.filter fun p => ended p.k l).map Pat.t).sum
theorem m_steps {s : Str} (c : Code) (hl : c.ws.length ≤ 100) (hok : ∀ w ∈ c.ws, w.Ok s) (l a b : Str) : m_step_counts [.d c.d, .d (.str l), .d (.tuple [.str a, .str b])] = .ok (.d (.tuple ((c.ws.map fun w => cntW w l a b).map PyData.int))) [.d c.d, .d (.str l), .d (.tuple [.str a, .str b])] := by
  obtain ⟨ρ', e, t4, t5, h4, h5, rfl⟩ := for_inv (h := putTup 2 (putCons (put 4) (putCons (put 5) putNil))) (fb := fb_step_counts_0) (xs := c.ws.map Wish.d) (ρ := [.d c.d, .d (.str l), .d (.tuple [.str a, .str b]), .own false [], .no, .no, .no, .no])
    (fun i ρ => ∃ t4 t5 : Sl, isIo t4 = false ∧ isIo t5 = false ∧ ρ = [.d c.d, .d (.str l), .d (.tuple [.str a, .str b]), .own false (((c.ws.take i).map fun w => cntW w l a b).map PyData.int), t4, t5, .no, .no])
    (fun i x ρ hx hI => by
      obtain ⟨t4, t5, h4, h5, rfl⟩ := hI
      rw [List.getElem?_map] at hx
      obtain ⟨w, hw, rfl⟩ := Option.map_eq_some_iff.mp hx
      have hwo := hok w (List.mem_of_getElem? hw)
      have hi : i < c.ws.length := (List.getElem?_eq_some_iff.mp hw).1
      have ht : (c.ws.take (i + 1)).map (fun w => cntW w l a b) = (c.ws.take i).map (fun w => cntW w l a b) ++ [cntW w l a b] := by
        rw [List.take_succ, hw, List.map_append]
        rfl
      have key := lc_filterM (h := putTup 2 (putCons (put 6) (putCons (put 7) putNil))) (ft := ct_step_counts_1) (fe := ce_step_counts_1) (vs := [6, 7]) Pat.d (fun p => met p.k l a b) (fun p => .int p.t)
        (ρ := [.d c.d, .d (.str l), .d (.tuple [.str a, .str b]), .own false (((c.ws.take i).map fun w => cntW w l a b).map PyData.int), .d (.str w.n), .d (.tuple (w.ps.map Pat.d)), .no, .no]) (l := w.ps) (acc := []) (fun p hp => by
          have mm := m_ismet (hwo.ps p hp).k l a b
          refine ⟨[.d c.d, .d (.str l), .d (.tuple [.str a, .str b]), .own false (((c.ws.take i).map fun w => cntW w l a b).map PyData.int), .d (.str w.n), .d (.tuple (w.ps.map Pat.d)), .d (.tuple (p.k.map PyData.str)), .d (.int p.t)], [.d c.d, .d (.str l), .d (.tuple [.str a, .str b]), .own false (((c.ws.take i).map fun w => cntW w l a b).map PyData.int), .d (.str w.n), .d (.tuple (w.ps.map Pat.d)), .d (.tuple (p.k.map PyData.str)), .d (.int p.t)], ?_, ?_, by simp, fun _ => ⟨[.d c.d, .d (.str l), .d (.tuple [.str a, .str b]), .own false (((c.ws.take i).map fun w => cntW w l a b).map PyData.int), .d (.str w.n), .d (.tuple (w.ps.map Pat.d)), .d (.tuple (p.k.map PyData.str)), .d (.int p.t)], ?_, by simp⟩⟩
          · simp [Pat.d, put_eq]
          · simp [ct_step_counts_1, mm]
          · simp [ce_step_counts_1]) (by have := hwo.l3; simp; omega)
      rw [List.nil_append] at key
      have es := intsD_map Pat.t (w.ps.filter fun p => met p.k l a b)
      have z : (((c.ws.take i).map fun w => cntW w l a b).map PyData.int).length < 16777216 := by
        rw [List.length_map, List.length_map, List.length_take]
        omega
      refine ⟨[.d c.d, .d (.str l), .d (.tuple [.str a, .str b]), .own false (((c.ws.take i).map fun w => cntW w l a b).map PyData.int), .d (.str w.n), .d (.tuple (w.ps.map Pat.d)), .no, .no], _, ?_, .inl ?_, .d (.str w.n), .d (.tuple (w.ps.map Pat.d)), rfl, rfl, rfl⟩
      · simp [Wish.d, put_eq, h4, h5]
      · rw [ht]
        generalize ((c.ws.take i).map fun w => cntW w l a b) = A at *
        simp [fb_step_counts_0, key, es, sizeLine, z, cntW, -List.length_map])
    ⟨.no, .no, rfl, rfl, rfl⟩
  rw [List.length_map, List.take_length] at e
  generalize hA : (c.ws.map fun w => cntW w l a b) = A at *
  have cd : c.d = .tuple [.str c.s, .tuple (c.ws.map Wish.d)] := rfl
  rw [cd] at e ⊢
  simp [m_step_counts, gOf, w_step_counts, putOwn_eq, sizeLine, at1, e]
theorem m_ends {s : Str} (c : Code) (hl : c.ws.length ≤ 100) (hok : ∀ w ∈ c.ws, w.Ok s) (l : Str) : m_end_counts [.d c.d, .d (.str l)] = .ok (.d (.tuple ((c.ws.map fun w => endW w l).map PyData.int))) [.d c.d, .d (.str l)] := by
  obtain ⟨ρ', e, t4, t5, h4, h5, rfl⟩ := for_inv (h := putTup 2 (putCons (put 3) (putCons (put 4) putNil))) (fb := fb_end_counts_0) (xs := c.ws.map Wish.d) (ρ := [.d c.d, .d (.str l), .own false [], .no, .no, .no, .no])
    (fun i ρ => ∃ t4 t5 : Sl, isIo t4 = false ∧ isIo t5 = false ∧ ρ = [.d c.d, .d (.str l), .own false (((c.ws.take i).map fun w => endW w l).map PyData.int), t4, t5, .no, .no])
    (fun i x ρ hx hI => by
      obtain ⟨t4, t5, h4, h5, rfl⟩ := hI
      rw [List.getElem?_map] at hx
      obtain ⟨w, hw, rfl⟩ := Option.map_eq_some_iff.mp hx
      have hwo := hok w (List.mem_of_getElem? hw)
      have hi : i < c.ws.length := (List.getElem?_eq_some_iff.mp hw).1
      have ht : (c.ws.take (i + 1)).map (fun w => endW w l) = (c.ws.take i).map (fun w => endW w l) ++ [endW w l] := by
        rw [List.take_succ, hw, List.map_append]
        rfl
      have key := lc_filterM (h := putTup 2 (putCons (put 5) (putCons (put 6) putNil))) (ft := ct_end_counts_1) (fe := ce_end_counts_1) (vs := [5, 6]) Pat.d (fun p => ended p.k l) (fun p => .int p.t)
        (ρ := [.d c.d, .d (.str l), .own false (((c.ws.take i).map fun w => endW w l).map PyData.int), .d (.str w.n), .d (.tuple (w.ps.map Pat.d)), .no, .no]) (l := w.ps) (acc := []) (fun p hp => by
          have mm := m_isended (hwo.ps p hp).k l
          refine ⟨[.d c.d, .d (.str l), .own false (((c.ws.take i).map fun w => endW w l).map PyData.int), .d (.str w.n), .d (.tuple (w.ps.map Pat.d)), .d (.tuple (p.k.map PyData.str)), .d (.int p.t)], [.d c.d, .d (.str l), .own false (((c.ws.take i).map fun w => endW w l).map PyData.int), .d (.str w.n), .d (.tuple (w.ps.map Pat.d)), .d (.tuple (p.k.map PyData.str)), .d (.int p.t)], ?_, ?_, by simp, fun _ => ⟨[.d c.d, .d (.str l), .own false (((c.ws.take i).map fun w => endW w l).map PyData.int), .d (.str w.n), .d (.tuple (w.ps.map Pat.d)), .d (.tuple (p.k.map PyData.str)), .d (.int p.t)], ?_, by simp⟩⟩
          · simp [Pat.d, put_eq]
          · simp [ct_end_counts_1, mm]
          · simp [ce_end_counts_1]) (by have := hwo.l3; simp; omega)
      rw [List.nil_append] at key
      have es := intsD_map Pat.t (w.ps.filter fun p => ended p.k l)
      have z : (((c.ws.take i).map fun w => endW w l).map PyData.int).length < 16777216 := by
        rw [List.length_map, List.length_map, List.length_take]
        omega
      refine ⟨[.d c.d, .d (.str l), .own false (((c.ws.take i).map fun w => endW w l).map PyData.int), .d (.str w.n), .d (.tuple (w.ps.map Pat.d)), .no, .no], _, ?_, .inl ?_, .d (.str w.n), .d (.tuple (w.ps.map Pat.d)), rfl, rfl, rfl⟩
      · simp [Wish.d, put_eq, h4, h5]
      · rw [ht]
        generalize ((c.ws.take i).map fun w => endW w l) = A at *
        simp [fb_end_counts_0, key, es, sizeLine, z, endW, -List.length_map])
    ⟨.no, .no, rfl, rfl, rfl⟩
  rw [List.length_map, List.take_length] at e
  generalize hA : (c.ws.map fun w => endW w l) = A at *
  have cd : c.d = .tuple [.str c.s, .tuple (c.ws.map Wish.d)] := rfl
  rw [cd] at e ⊢
  simp [m_end_counts, gOf, w_end_counts, putOwn_eq, sizeLine, at1, e]
end Lw
namespace Lw
open PySem PySem.Spec L2 Evl Dt
open TL (tl joinL tl_join tl_ofString join_eq tl_append len_tl)
def ordD (o : List Str) : Pd := .tuple (o.map PyData.str)
def stepO (ns : List Str) (fs : List (List Str)) : List (List Str) := fs.flatMap fun f => (ns.filter fun n => decide (n ∉ f)).map fun n => f ++ [n]
def itO (ns : List Str) : Nat → List (List Str)
  | 0 => [[]]
  | k + 1 => stepO ns (itO ns k)
theorem mem_itO {ns : List Str} : ∀ {k : Nat} {o : List Str}, o ∈ itO ns k ↔ o.Nodup ∧ o.length = k ∧ ∀ x ∈ o, x ∈ ns
  | 0, o => by
    show o ∈ [[]] ↔ _
    rw [List.mem_singleton]
    exact ⟨fun h => by subst h; simp, fun h => List.length_eq_zero_iff.mp h.2.1⟩
  | k + 1, o => by
    show o ∈ stepO ns (itO ns k) ↔ _
    unfold stepO
    rw [List.mem_flatMap]
    constructor
    · rintro ⟨f, hf, ho⟩
      obtain ⟨n, hn, rfl⟩ := List.mem_map.mp ho
      obtain ⟨hn1, hn2⟩ := List.mem_filter.mp hn
      have hn2 := of_decide_eq_true hn2
      obtain ⟨h1, h2, h3⟩ := mem_itO.mp hf
      refine ⟨List.nodup_append.mpr ⟨h1, by simp, fun a ha b hb => ?_⟩, by simp [h2], fun x hx => ?_⟩
      · rw [List.mem_singleton.mp hb]
        intro z
        exact hn2 (z ▸ ha)
      · rcases List.mem_append.mp hx with hx | hx
        · exact h3 x hx
        · rw [List.mem_singleton.mp hx]; exact hn1
    · rintro ⟨h1, h2, h3⟩
      rcases List.eq_nil_or_concat o with rfl | ⟨f, n, rfl⟩
      · cases h2
      · rw [List.concat_eq_append] at h1 h2 h3 ⊢
        obtain ⟨a1, _, a3⟩ := List.nodup_append.mp h1
        refine ⟨f, mem_itO.mpr ⟨a1, by simpa using h2, fun x hx => h3 x (List.mem_append_left _ hx)⟩, List.mem_map.mpr ⟨n, List.mem_filter.mpr ⟨h3 n (by simp), decide_eq_true fun z => a3 n z n (by simp) rfl⟩, rfl⟩⟩
theorem nodup_itO {ns : List Str} (hn : ns.Nodup) : ∀ k : Nat, (itO ns k).Nodup
  | 0 => by simp [itO]
  | k + 1 => by
    show (stepO ns (itO ns k)).Nodup
    unfold stepO
    refine List.pairwise_flatMap.mpr ⟨fun f _ => ?_, ?_⟩
    · refine List.Pairwise.map _ (R := fun a b => a ≠ b) (fun a b h z => h ?_) (List.Pairwise.filter _ hn)
      have := List.append_cancel_left z
      simpa using this
    · refine (nodup_itO hn k).imp fun {f g} hfg x hx y hy z => hfg ?_
      obtain ⟨a, _, rfl⟩ := List.mem_map.mp hx
      obtain ⟨b, _, rfl⟩ := List.mem_map.mp hy
      exact (List.append_inj' z rfl).1
abbrev kL (o : List Str) : Ik := o.map fun x => Sum.inr x.cps.toList
theorem lex_app {O : PyProof.Rows.KeyOrd} : ∀ {a b c d : List O.α}, a.length = b.length → PyProof.Rows.lexLt O a b = true → PyProof.Rows.lexLt O (a ++ c) (b ++ d) = true
  | [], [], _, _, _, h => by cases h
  | x :: a, y :: b, c, d, hl, h => by
    rw [List.cons_append, List.cons_append]
    rcases PyProof.Rows.lex_true.mp h with h | ⟨h1, h2⟩
    · exact PyProof.Rows.lex_true.mpr (.inl h)
    · exact PyProof.Rows.lex_true.mpr (.inr ⟨h1, lex_app (by simpa using hl) h2⟩)
  | [], _ :: _, _, _, hl, _ => by simp at hl
  | _ :: _, [], _, _, hl, _ => by simp at hl
theorem lex_pre {O : PyProof.Rows.KeyOrd} : ∀ (a c d : List O.α), PyProof.Rows.lexLt O (a ++ c) (a ++ d) = PyProof.Rows.lexLt O c d
  | [], _, _ => rfl
  | x :: a, c, d => by rw [List.cons_append, List.cons_append, PyProof.Rows.lex_self, lex_pre a c d]
abbrev ltS (a b : Str) : Prop := PyProof.Rows.itemLt (Sum.inr a.cps.toList) (Sum.inr b.cps.toList) = true
theorem sorted_itO {ns : List Str} (hs : ns.Pairwise ltS) : ∀ k : Nat, (itO ns k).Pairwise fun a b => ltI (kL a) (kL b) = true
  | 0 => List.pairwise_singleton _ _
  | k + 1 => by
    show (stepO ns (itO ns k)).Pairwise _
    unfold stepO
    refine List.pairwise_flatMap.mpr ⟨fun f _ => ?_, ?_⟩
    · refine List.Pairwise.map _ (R := ltS) (fun a b h => ?_) (List.Pairwise.filter _ hs)
      show ltI (kL (f ++ [a])) (kL (f ++ [b])) = true
      unfold kL ltI
      rw [List.map_append, List.map_append]
      rw [lex_pre (O := PyProof.Rows.itemOrd)]
      exact PyProof.Rows.lex_true.mpr (.inl h)
    · refine ((sorted_itO hs k).and (List.Pairwise.imp (R := fun _ _ => True) (S := fun _ _ => True) (fun _ => trivial) (List.pairwise_of_forall fun _ _ => trivial))).imp_of_mem fun {f g} hf hg hfg x hx y hy => ?_
      obtain ⟨a, _, rfl⟩ := List.mem_map.mp hx
      obtain ⟨b, _, rfl⟩ := List.mem_map.mp hy
      show ltI (kL (f ++ [a])) (kL (g ++ [b])) = true
      unfold kL ltI
      rw [List.map_append, List.map_append]
      exact lex_app (O := PyProof.Rows.itemOrd) (by rw [List.length_map, List.length_map, (mem_itO.mp hf).2.1, (mem_itO.mp hg).2.1]) hfg.1
theorem sortS_lt {ns : List Str} (hn : ns.Nodup) : (sortS ns).Pairwise ltS := by
  have h1 := sortS_sorted ns
  have h2 : (sortS ns).Nodup := (sortS_perm ns).nodup_iff.mpr hn
  refine (h1.and h2).imp fun {a b} h => ?_
  show PyProof.Rows.itemLt (Sum.inr a.cps.toList) (Sum.inr b.cps.toList) = true
  cases e : PyProof.Rows.itemLt (Sum.inr a.cps.toList) (Sum.inr b.cps.toList) with
  | true => rfl
  | false =>
    have h3 : PyProof.Rows.itemLt (Sum.inr b.cps.toList) (Sum.inr a.cps.toList) = false := by
      have := (leS_iff a b).mp h.1
      show decide (b.cps.toList < a.cps.toList) = false
      exact decide_eq_false this
    have := PyProof.Rows.itemOrd.total (Sum.inr a.cps.toList) (Sum.inr b.cps.toList) e h3
    have h4 : a.cps.toList = b.cps.toList := Sum.inr.inj this
    refine absurd ?_ h.2
    obtain ⟨x⟩ := a
    obtain ⟨y⟩ := b
    have : x = y := Array.ext' h4
    rw [this]
theorem perm_of_sub : ∀ {o ns : List Str}, o.Nodup → (∀ x ∈ o, x ∈ ns) → ns.length ≤ o.length → o.Perm ns
  | [], ns, _, _, hl => by
    have : ns = [] := List.length_eq_zero_iff.mp (by simpa using hl)
    rw [this]
  | x :: o, ns, hn, hs, hl => by
    rw [List.nodup_cons] at hn
    have hx := hs x List.mem_cons_self
    have hp := List.perm_cons_erase hx
    refine ((perm_of_sub (ns := ns.erase x) hn.2 (fun y hy => ?_) ?_).cons x).trans hp.symm
    · exact (List.mem_erase_of_ne (fun z : y = x => hn.1 (z ▸ hy))).mpr (hs y (List.mem_cons_of_mem _ hy))
    · rw [List.length_erase_of_mem hx]
      simp at hl
      omega
theorem itO_perm {ns o : List Str} (hn : ns.Nodup) : o ∈ itO ns ns.length ↔ o.Perm ns := by
  rw [mem_itO]
  constructor
  · exact fun h => perm_of_sub h.1 h.2.2 (Nat.le_of_eq h.2.1.symm)
  · exact fun h => ⟨h.nodup_iff.mpr hn, h.length_eq, fun x hx => h.mem_iff.mp hx⟩
theorem sortS_eq {a b : List Str} : sortS a = sortS b ↔ a.Perm b := by
  constructor
  · exact fun h => (sortS_perm a).symm.trans (h ▸ sortS_perm b)
  · exact fun h => List.Perm.eq_of_pairwise (le := fun a b => leS a b = true) (fun a b _ _ h g => leS_anti h g) (sortS_sorted a) (sortS_sorted b) ((sortS_perm a).trans (h.trans (sortS_perm b).symm))
theorem eqvAll_strs : ∀ a b : List Str, PyData.eqvAll (a.map PyData.str) (b.map PyData.str) = decide (a = b)
  | [], [] => rfl
  | [], _ :: _ => rfl
  | _ :: _, [] => rfl
  | x :: a, y :: b => by
    simp only [List.map_cons, PyData.eqvAll, eqv_str, eqvAll_strs a b]
    by_cases h : x = y <;> by_cases g : a = b <;> simp [h, g]
theorem sh_strs {a : List Str} (h : ∀ x ∈ a, PyData.strOk x = true) (n : Nat) : (a.map PyData.str).all (sh n) = true := by
  rw [List.all_map, List.all_eq_true]
  intro x hx
  have := h x hx
  cases n <;> exact this
theorem itO_len {ns : List Str} : ∀ k : Nat, (itO ns k).length ≤ ns.length ^ k
  | 0 => by simp [itO]
  | k + 1 => by
    show (stepO ns (itO ns k)).length ≤ _
    unfold stepO
    have key : ∀ fs : List (List Str), (fs.flatMap fun f => (ns.filter fun n => decide (n ∉ f)).map fun n => f ++ [n]).length ≤ fs.length * ns.length := by
      intro fs
      induction fs with
      | nil => simp
      | cons f fs ih =>
        rw [List.flatMap_cons, List.length_append, List.length_map, List.length_cons, Nat.succ_mul]
        have := List.length_filter_le (fun n => decide (n ∉ f)) ns
        omega
    exact Nat.le_trans (key _) (by rw [Nat.pow_succ]; exact Nat.mul_le_mul_right _ (itO_len k))
end Lw
namespace Lw
open PySem PySem.Spec L2 Evl Dt
open TL (tl joinL tl_join tl_ofString join_eq tl_append len_tl)
def Code.ns (c : Code) : List Str := c.ws.map Wish.n
structure NsOk (ns : List Str) : Prop where
  l1 : 1 ≤ ns.length
  l5 : ns.length ≤ 5
  nd : ns.Nodup
  nm : ∀ n ∈ ns, nameL (tl n)
theorem Code.Ok.nsOk {m : Nat} {c : Code} (h : c.Ok m) (hm : m ≤ 5) : NsOk c.ns :=
  ⟨by unfold Code.ns; rw [List.length_map]; exact h.l1, by unfold Code.ns; rw [List.length_map]; exact Nat.le_trans h.lm hm, h.nd, fun n hn => by
    obtain ⟨w, hw, rfl⟩ := List.mem_map.mp hn
    exact (h.ws w hw).n.1⟩
theorem nm_ok {n : Str} (h : nameL (tl n)) : PyData.strOk n = true := strOk_lt fun c hc => by have := h.2.2 c hc; omega
theorem NsOk.so {ns : List Str} (h : NsOk ns) : ∀ n ∈ ns, PyData.strOk n = true := fun n hn => nm_ok (h.nm n hn)
theorem ns_d (c : Code) : ordD c.ns = .tuple (c.ws.map fun w => .str w.n) := by
  unfold ordD Code.ns
  rw [List.map_map]
  rfl
theorem m_wish_names_ (c : Code) (hl : c.ws.length ≤ 1000) : m_wish_names [.d c.d] = .ok (.d (ordD c.ns)) [.d c.d] := by
  have key := lc_mapM (h := put 1) (fe := ce_wish_names_0) (vs := [1]) Wish.d (fun w => PyData.str w.n) (ρ := [.d c.d, .no]) (l := c.ws) (fun w hw => by
    refine ⟨[.d c.d, .d w.d], [.d c.d, .d w.d], by simp [put_eq], ?_, by simp⟩
    have e : w.d = .tuple [.str w.n, .tuple (w.ps.map Pat.d)] := rfl
    rw [e]
    generalize c.d = CD
    simp [ce_wish_names_0, at0, sizeLine]) (by omega)
  have e1 : ixD c.d (.int 1) = some (.tuple (c.ws.map Wish.d)) := by
    have : c.d = .tuple [.str c.s, .tuple (c.ws.map Wish.d)] := rfl
    rw [this]
    simp [at1, sizeLine]
  have hz : (c.ws.map Wish.d).length ≤ 16777216 := by rw [List.length_map]; omega
  have hz2 : c.ws.length ≤ 16777216 := by omega
  rw [ns_d]
  generalize c.d = CD at *
  simp [m_wish_names, gOf, w_wish_names, e1, key, sizeLine, hz, hz2]
end Lw
namespace Lw
open PySem PySem.Spec L2 Evl Dt
open TL (tl joinL tl_join tl_ofString join_eq tl_append len_tl)
theorem strs_of_all : ∀ {xs : List Pd}, xs.all isStrD = true → ∃ o : List Str, xs = o.map PyData.str
  | [], _ => ⟨[], rfl⟩
  | x :: xs, h => by
    rw [List.all_cons, Bool.and_eq_true] at h
    obtain ⟨o, rfl⟩ := strs_of_all h.2
    cases x with
    | str z => exact ⟨z :: o, rfl⟩
    | _ => exact absurd (show false = true from h.1) (by decide)
theorem strs_none : ∀ {xs : List Pd}, xs.all isStrD = false → strsD xs = none
  | [], h => by cases h
  | x :: xs, h => by
    rw [List.all_cons, Bool.and_eq_false_iff] at h
    cases x with
    | str z =>
      rcases h with h | h
      · cases h
      · simp only [strsD, strs_none h]
    | _ => rfl
def ordOf (ns : List Str) : Pd → Bool
  | .tuple xs => match strsD xs with
    | some o => decide (sortS o = sortS ns)
    | none => false
  | _ => false
def thOk : Pd → Bool
  | .dict _ => true
  | .tuple xs => sh 60 (.tuple xs) && decide (xs.length < 64)
  | d => sh 60 d
theorem ordOf_ord (ns o : List Str) : ordOf ns (ordD o) = decide (sortS o = sortS ns) := by
  show (match strsD (o.map PyData.str) with | some o => decide (sortS o = sortS ns) | none => false) = _
  rw [strsD_map]
theorem eqD_strs {a b : List Str} (ha : ∀ x ∈ a, PyData.strOk x = true) (hb : ∀ x ∈ b, PyData.strOk x = true) : eqD (.list (a.map PyData.str)) (.list (b.map PyData.str)) = some (.bool (decide (a = b))) := by
  show (eqB _ _).map _ = _
  rw [eqB_list, if_pos ⟨sh_strs ha 59, sh_strs hb 59⟩, eqvAll_strs]
  rfl
theorem sortS_so {a : List Str} (h : ∀ x ∈ a, PyData.strOk x = true) : ∀ x ∈ sortS a, PyData.strOk x = true := fun x hx => h x ((sortS_perm a).mem_iff.mp hx)
theorem lc_isstr' (cd : Pd) (xs : List Pd) (hl : xs.length ≤ 1000) (T : Pd) : lcRun (put 2) (fun ρ => R.ok true ρ) ce_is_order_0 [2] xs [] [.d cd, .d T, .no] = .ok (xs.map fun x => .bool (isStrD x)) [.d cd, .d T, .no] := by
  have key := lc_mapM (h := put 2) (fe := ce_is_order_0) (vs := [2]) (fun x : Pd => x) (fun x => .bool (isStrD x)) (ρ := [.d cd, .d T, .no]) (l := xs) (fun x hx => by
    refine ⟨[.d cd, .d T, .d x], [.d cd, .d T, .d x], by simp [put_eq], ?_, by simp⟩
    simp [ce_is_order_0]) (by omega)
  rwa [List.map_id'] at key
theorem so_of_sh {o : List Str} {n : Nat} (h : (o.map PyData.str).all (sh n) = true) : ∀ x ∈ o, PyData.strOk x = true := by
  rw [List.all_map, List.all_eq_true] at h
  intro x hx
  have := h x hx
  simpa using this
theorem m_is_order_ {c : Code} (h : NsOk c.ns) (hl : c.ws.length ≤ 1000) (d : Pd) (hd : thOk d = true) : m_is_order [.d c.d, .d d] = .ok (.d (.bool (ordOf c.ns d))) [.d c.d, .d d] := by
  have e1 := m_wish_names_ c hl
  generalize c.d = cd at *
  cases d with
  | tuple xs =>
    simp only [thOk, Bool.and_eq_true, decide_eq_true_eq] at hd
    have key := lc_isstr' cd xs (by omega) (.tuple xs)
    have hz : xs.length ≤ 16777216 := by omega
    cases ha : xs.all isStrD with
    | false =>
      have hn := strs_none ha
      have e3 : allD [.list (xs.map fun x => .bool (isStrD x))] = some (.bool false) := by rw [boolsD_all, ha]
      have e4 : ordOf c.ns (.tuple xs) = false := by simp only [ordOf, hn]
      rw [e4]
      generalize (xs.map fun x => PyData.bool (isStrD x)) = B at *
      simp [m_is_order, gOf, w_is_order, isTupD, key, e3, sizeLine, hz, -allD_list]
    | true =>
      obtain ⟨o, rfl⟩ := strs_of_all ha
      have e3 : allD [.list ((o.map PyData.str).map fun x => .bool (isStrD x))] = some (.bool true) := by rw [boolsD_all, ha]
      have hso := so_of_sh (n := 59) hd.1
      have e5 : sortedT [.tuple (o.map PyData.str)] = some ((sortS o).map PyData.str) := by
        unfold sortedT
        simp only
        rw [strsD_map]
        simp only
        rw [if_pos (by have := hd.2; rwa [List.length_map] at this)]
      have e6 : sortedT [ordD c.ns] = some ((sortS c.ns).map PyData.str) := by
        unfold ordD sortedT
        simp only
        rw [strsD_map]
        simp only
        rw [if_pos (by have := h.l5; omega)]
      have e7 := eqD_strs (sortS_so hso) (sortS_so h.so)
      have e4 : ordOf c.ns (.tuple (o.map PyData.str)) = decide (sortS o = sortS c.ns) := ordOf_ord _ _
      rw [e4]
      generalize decide (sortS o = sortS c.ns) = bb at *
      generalize ((o.map PyData.str).map fun x => PyData.bool (isStrD x)) = B at *
      generalize o.map PyData.str = OS at *
      generalize (sortS o).map PyData.str = S1 at *
      generalize (sortS c.ns).map PyData.str = S2 at *
      generalize ordD c.ns = od at *
      simp [m_is_order, gOf, w_is_order, isTupD, key, e3, sizeLine, hz, e1, e5, e6, e7, -allD_list]
  | _ => simp [m_is_order, gOf, w_is_order, isTupD, ordOf]
theorem m_check_ok {c : Code} (h : NsOk c.ns) (hl : c.ws.length ≤ 1000) (d : Pd) (hd : thOk d = true) (ho : ordOf c.ns d = true) : m_check_order [.d c.d, .d d] = .ok (.d .none) [.d c.d, .d d] := by
  have e := m_is_order_ h hl d hd
  rw [ho] at e
  generalize c.d = cd at *
  simp [m_check_order, gOf, w_check_order, e]
abbrev intT' (ns : List Int) : Pd := .tuple (ns.map PyData.int)
def posN (ns : List Str) (z : Str) : Nat := (ns.findIdx? fun y => decide (y = z)).getD 0
theorem posN_some {ns : List Str} {z : Str} (h : z ∈ ns) : (ns.findIdx? fun y => decide (y = z)) = some (posN ns z) ∧ posN ns z < ns.length := by
  cases e : ns.findIdx? fun y => decide (y = z) with
  | none =>
    rw [List.findIdx?_eq_none_iff] at e
    have := e z h
    simp at this
  | some j =>
    have hj : j < ns.length := (List.findIdx?_eq_some_iff_getElem.mp e).1
    unfold posN
    rw [e]
    exact ⟨rfl, hj⟩
def rkN (ns o : List Str) (cs : List Int) : List Int := o.map fun z => cs.getD (posN ns z) 0
theorem m_ranked_ {c : Code} (hl : c.ws.length ≤ 1000) {o : List Str} (ho : ∀ z ∈ o, z ∈ c.ns) (hol : o.length ≤ 1000) {cs : List Int} (hcs : cs.length = c.ns.length) : m_ranked [.d c.d, .d (ordD o), .d (intT' cs)] = .ok (.d (intT' (rkN c.ns o cs))) [.d c.d, .d (ordD o), .d (intT' cs)] := by
  have e1 := m_wish_names_ c hl
  have key := lc_mapM (h := put 4) (fe := ce_ranked_0) (vs := [4]) PyData.str (fun z => PyData.int (cs.getD (posN c.ns z) 0)) (ρ := [.d c.d, .d (ordD o), .d (intT' cs), .d (ordD c.ns), .no]) (l := o) (fun z hz => by
    obtain ⟨h1, h2⟩ := posN_some (ho z hz)
    have e2 : indexT (ordD c.ns) [.str z] = some (.int (posN c.ns z : Nat)) := by
      unfold ordD indexT
      simp only
      rw [strsD_map]
      simp only
      rw [h1]
      rfl
    have e3 : ixD (intT' cs) (.int (posN c.ns z : Nat)) = some (.int (cs.getD (posN c.ns z) 0)) := by
      show atI (cs.map PyData.int) _ = _
      rw [atI_nat (by rw [List.length_map, hcs]; exact h2)]
      simp [List.getD_eq_getElem?_getD, hcs ▸ h2]
    have e4 : ordD c.ns = .tuple (c.ns.map PyData.str) := rfl
    generalize c.d = cd at *
    generalize ordD o = od at *
    generalize intT' cs = cd2 at *
    generalize (cs.getD (posN c.ns z) 0) = v at *
    generalize hp : ((posN c.ns z : Nat) : Int) = p at *
    refine ⟨[.d cd, .d od, .d cd2, .d (ordD c.ns), .d (.str z)], [.d cd, .d od, .d cd2, .d (ordD c.ns), .d (.str z)], by simp [put_eq], ?_, by simp⟩
    rw [e4] at e2 ⊢
    simp [ce_ranked_0, fTM, e2, e3]) (by omega)
  have hz : (o.map PyData.str).length ≤ 16777216 := by rw [List.length_map]; omega
  have hz2 : o.length ≤ 16777216 := by omega
  have e5 : (o.map fun z => PyData.int (cs.getD (posN c.ns z) 0)) = (rkN c.ns o cs).map PyData.int := by unfold rkN; rw [List.map_map]; rfl
  rw [e5] at key
  have e6 : ordD o = .tuple (o.map PyData.str) := rfl
  generalize c.d = cd at *
  generalize (rkN c.ns o cs) = rk at *
  generalize intT' cs = cd2 at *
  generalize ordD c.ns = od at *
  rw [e6] at key ⊢
  simp [m_ranked, gOf, w_ranked, e1, put_eq, key, sizeLine, hz, hz2]
end Lw
namespace Lw
open PySem PySem.Spec L2 Evl Dt
open TL (tl joinL tl_join tl_ofString join_eq tl_append len_tl)
abbrev cdW (s : Str) (W : Pd) : Pd := .tuple [.str s, W]
def okP : Pd → Bool
  | .str x => decide (x.length ≤ 1000)
  | _ => true
def isTextD (s : Str) : Pd → Bool
  | .str z => decide (∀ c ∈ tl z, c ∈ tl s)
  | _ => false
def isWordD (s : Str) : Pd → Bool
  | .str z => decide (∀ c ∈ tl z, c ∈ tl s) && decide ((z.length : Int) ≤ 8)
  | _ => false
def inTx (s : Str) : Pd → Bool
  | .str z => inStr z s
  | _ => false
theorem chars_all (z s : Str) : (chars z).all (inTx s) = decide (∀ c ∈ tl z, c ∈ tl s) := by
  unfold chars
  rw [List.all_map, Bool.eq_iff_iff, List.all_eq_true]
  simp only [decide_eq_true_eq]
  refine forall_congr' fun c => imp_congr_right fun _ => ?_
  show inStr ⟨#[c]⟩ s = true ↔ _
  rw [inStr_one, decide_eq_true_eq]
theorem m_text (d : Pd) (s : Str) (hd : okP d = true) : m_is_text_of [.d d, .d (.str s)] = .ok (.d (.bool (isTextD s d))) [.d d, .d (.str s)] := by
  cases d with
  | str z =>
    have hs : z.length ≤ 1000 := by simpa [okP] using hd
    have key : lcRun (put 2) (fun ρ => R.ok true ρ) ce_is_text_of_0 [2] (chars z) [] [.d (.str z), .d (.str s), .no] = .ok ([] ++ (chars z).map fun x => .bool (inTx s x)) [.d (.str z), .d (.str s), .no] := by
      refine lc_map _ (fun x hx => ?_) ?_
      · obtain ⟨c, hc, rfl⟩ := List.mem_map.mp hx
        exact ⟨[.d (.str z), .d (.str s), .d (.str ⟨#[c]⟩)], [.d (.str z), .d (.str s), .d (.str ⟨#[c]⟩)], [.d (.str z), .d (.str s), .d (.str ⟨#[c]⟩)], by simp [put_eq], rfl, by simp [ce_is_text_of_0, inD, inB, inTx], by simp⟩
      · have : (chars z).length = z.length := by simp [chars, len_tl]
        simp [sizeLine]
        omega
    have ea := boolsD_all (inTx s) (chars z)
    rw [chars_all, allD_list] at ea
    simp only [List.nil_append] at key
    simp [m_is_text_of, gOf, w_is_text_of, isStrD, key, ea, isTextD]
  | _ => simp [m_is_text_of, gOf, w_is_text_of, isStrD, isTextD]
theorem m_word (s : Str) (W : Pd) (d : Pd) (hd : okP d = true) : m_is_word [.d (cdW s W), .d d] = .ok (.d (.bool (isWordD s d))) [.d (cdW s W), .d d] := by
  have mt := m_text d s hd
  cases d with
  | str z =>
    have hz : z.length ≤ 16777216 := by
      have : z.length ≤ 1000 := by simpa [okP] using hd
      omega
    have hw : isWordD s (.str z) = (isTextD s (.str z) && decide ((z.length : Int) ≤ 8)) := rfl
    rw [hw]
    generalize isTextD s (.str z) = B at mt ⊢
    cases B <;> simp [m_is_word, gOf, w_is_word, cdW, at0, mt, hz, sizeLine]
  | _ => simp [isTextD] at mt; simp [m_is_word, gOf, w_is_word, cdW, at0, mt, isWordD]
end Lw
namespace Lw
open PySem PySem.Spec L2 Evl Dt
theorem lex_irr : ∀ a : List Int, HT.lexLt a a = false
  | [] => rfl
  | x :: xs => by rw [HT.lexLt_cons, if_pos rfl]; exact lex_irr xs
theorem lex_tr : ∀ {a b c : List Int}, HT.lexLt a b = true → HT.lexLt b c = true → HT.lexLt a c = true
  | [], [], _, h, _ => by cases h
  | [], _ :: _, [], _, h => by cases h
  | [], _ :: _, _ :: _, _, _ => rfl
  | _ :: _, [], _, h, _ => by cases h
  | _ :: _, _ :: _, [], _, h => by cases h
  | x :: xs, y :: ys, z :: zs, h1, h2 => by
    rw [HT.lexLt_cons] at *
    by_cases e1 : x = y
    · subst e1
      rw [if_pos rfl] at h1
      by_cases e2 : x = z
      · subst e2
        rw [if_pos rfl] at h2 ⊢
        exact lex_tr h1 h2
      · rw [if_neg e2] at h2 ⊢
        exact h2
    · rw [if_neg e1] at h1
      have h1 := of_decide_eq_true h1
      by_cases e2 : y = z
      · subst e2
        rw [if_neg e1]
        exact decide_eq_true h1
      · rw [if_neg e2] at h2
        have h2 := of_decide_eq_true h2
        rw [if_neg (by omega)]
        exact decide_eq_true (by omega)
theorem lex_tot : ∀ a b : List Int, HT.lexLt a b = true ∨ a = b ∨ HT.lexLt b a = true
  | [], [] => .inr (.inl rfl)
  | [], _ :: _ => .inl rfl
  | _ :: _, [] => .inr (.inr rfl)
  | x :: xs, y :: ys => by
    rw [HT.lexLt_cons, HT.lexLt_cons]
    by_cases e : x = y
    · subst e
      rw [if_pos rfl, if_pos rfl]
      rcases lex_tot xs ys with h | h | h
      · exact .inl h
      · exact .inr (.inl (by rw [h]))
      · exact .inr (.inr h)
    · rw [if_neg e, if_neg (fun z => e z.symm)]
      rcases Int.lt_or_lt_of_ne e with h | h
      · exact .inl (decide_eq_true h)
      · exact .inr (.inr (decide_eq_true h))
theorem lex_co {a b c : List Int} (h : HT.lexLt a c = true) : HT.lexLt a b = true ∨ HT.lexLt b c = true := by
  rcases lex_tot a b with z | z | z
  · exact .inl z
  · exact .inr (z ▸ h)
  · exact .inr (lex_tr z h)
abbrev addI (a b : List Int) : List Int := List.zipWith (· + ·) a b
theorem lex_addN : ∀ {s c : List Int}, s.length = c.length → (∀ x ∈ s, 0 ≤ x) → HT.lexLt (addI s c) c = false
  | [], [], _, _ => rfl
  | x :: xs, y :: ys, hl, h => by
    show HT.lexLt ((x + y) :: addI xs ys) (y :: ys) = false
    rw [HT.lexLt_cons]
    have hx := h x (by simp)
    by_cases e : x + y = y
    · rw [if_pos e]; exact lex_addN (by simpa using hl) fun z hz => h z (by simp [hz])
    · rw [if_neg e]; exact decide_eq_false (by omega)
  | [], _ :: _, hl, _ => by simp at hl
  | _ :: _, [], hl, _ => by simp at hl
theorem lex_addS : ∀ {s a b : List Int}, s.length = a.length → s.length = b.length → HT.lexLt a b = true → HT.lexLt (addI s a) (addI s b) = true
  | [], [], [], _, _, h => by cases h
  | x :: xs, y :: ys, z :: zs, h1, h2, h => by
    show HT.lexLt ((x + y) :: addI xs ys) ((x + z) :: addI xs zs) = true
    rw [HT.lexLt_cons] at h ⊢
    by_cases e : y = z
    · subst e
      rw [if_pos rfl] at h ⊢
      exact lex_addS (by simpa using h1) (by simpa using h2) h
    · rw [if_neg e] at h
      rw [if_neg (by omega)]
      have := of_decide_eq_true h
      exact decide_eq_true (by omega)
  | [], _ :: _, _, hl, _, _ => by simp at hl
  | _ :: _, [], _, hl, _, _ => by simp at hl
  | [], [], _ :: _, _, hl, _ => by simp at hl
  | _ :: _, _ :: _, [], _, hl, _ => by simp at hl
abbrev Ky : Type := Nat × Str
abbrev Stt : Type := Str × Str
abbrev En : Type := List Int × Option (Stt × Ky)
abbrev Es : Type := List (Ky × En)
def getE (es : Es) (k : Ky) : Option En := (es.find? fun x => decide (x.1 = k)).map (·.2)
def putE (es : Es) (k : Ky) (e : En) : Es := if (getE es k).isSome = true then es.map (fun x => if x.1 = k then (x.1, e) else x) else es ++ [(k, e)]
theorem getE_pos {x : Ky × En} {es : Es} {k : Ky} (h : x.1 = k) : getE (x :: es) k = some x.2 := by simp [getE, List.find?_cons, h]
theorem getE_neg {x : Ky × En} {es : Es} {k : Ky} (h : x.1 ≠ k) : getE (x :: es) k = getE es k := by simp [getE, List.find?_cons, h]
theorem getE_map (k j : Ky) (e : En) : ∀ es : Es, getE (es.map fun x => if x.1 = k then (x.1, e) else x) j = (getE es j).map fun y => if j = k then e else y
  | [] => rfl
  | x :: es => by
    have ih := getE_map k j e es
    rw [List.map_cons]
    by_cases h : x.1 = k
    · rw [if_pos h]
      by_cases q : j = k
      · rw [getE_pos (x := (x.1, e)) (by rw [q]; exact h), getE_pos (by rw [q]; exact h), Option.map_some, if_pos q]
      · have n : x.1 ≠ j := fun z => q (by rw [← z, h])
        rw [getE_neg (x := (x.1, e)) n, getE_neg n, ih]
    · rw [if_neg h]
      by_cases q : x.1 = j
      · rw [getE_pos q, getE_pos q, Option.map_some, if_neg (fun z => h (by rw [q, z]))]
      · rw [getE_neg q, getE_neg q, ih]
theorem getE_snoc (k j : Ky) (e : En) : ∀ es : Es, getE es k = none → getE (es ++ [(k, e)]) j = if j = k then some e else getE es j
  | [], _ => by
    by_cases q : j = k
    · rw [if_pos q]; exact getE_pos (x := (k, e)) q.symm
    · rw [if_neg q]; exact getE_neg (x := (k, e)) fun z => q z.symm
  | x :: es, h => by
    by_cases q : x.1 = k
    · rw [getE_pos q] at h; cases h
    · rw [getE_neg q] at h
      have ih := getE_snoc k j e es h
      rw [List.cons_append]
      by_cases z : x.1 = j
      · rw [getE_pos z, getE_pos z, if_neg (fun y => q (by rw [z, y]))]
      · rw [getE_neg z, getE_neg z, ih]
theorem getE_put (es : Es) (k : Ky) (e : En) (j : Ky) : getE (putE es k e) j = if j = k then some e else getE es j := by
  unfold putE
  split
  · rename_i h
    rw [getE_map]
    by_cases q : j = k
    · subst q
      obtain ⟨x, hx⟩ := Option.isSome_iff_exists.mp h
      rw [hx, if_pos rfl]; simp
    · simp only [if_neg q]; simp
  · rename_i h
    exact getE_snoc k j e es (by simpa using h)
theorem getE_some {k : Ky} : ∀ {es : Es}, k ∈ es.map (·.1) → (getE es k).isSome = true
  | x :: es, h => by
    by_cases q : x.1 = k
    · rw [getE_pos q]; rfl
    · rw [getE_neg q]
      rcases List.mem_cons.mp h with z | z
      · exact absurd z.symm q
      · exact getE_some z
theorem putE_keys (es : Es) (k : Ky) (e : En) : (putE es k e).map (·.1) = es.map (·.1) ∨ (k ∉ es.map (·.1) ∧ (putE es k e).map (·.1) = es.map (·.1) ++ [k]) := by
  unfold putE
  split
  · refine .inl ?_
    rw [List.map_map]
    apply List.map_congr_left
    intro x _
    show (if x.1 = k then (x.1, e) else x).1 = x.1
    split <;> rfl
  · rename_i h
    exact .inr ⟨fun z => h (getE_some z), by simp⟩
theorem nodup_len {α : Type} [DecidableEq α] : ∀ {o ns : List α}, o.Nodup → (∀ x ∈ o, x ∈ ns) → o.length ≤ ns.length
  | [], _, _, _ => Nat.zero_le _
  | x :: o, ns, hn, h => by
    rw [List.nodup_cons] at hn
    have hx := h x (by simp)
    have ih := nodup_len (o := o) (ns := ns.erase x) hn.2 fun y hy => (List.mem_erase_of_ne (fun z : y = x => hn.1 (by rw [← z]; exact hy))).mpr (h y (by simp [hy]))
    rw [List.length_erase_of_mem hx] at ih
    have := List.length_pos_of_mem hx
    simp only [List.length_cons]
    omega
structure Gx where
  n : Nat
  ls : List Str
  len : Nat
  st : Nat → List (Stt × Nat)
  sc : Str → Stt → List Int
  ec : Str → List Int
  bh : Str → Stt → Str
  rk : List Int → List Int
structure Vec (n : Nat) (c : List Int) : Prop where
  ln : c.length = n
  nn : ∀ x ∈ c, 0 ≤ x
theorem add_nn : ∀ {a b : List Int}, (∀ x ∈ a, 0 ≤ x) → (∀ x ∈ b, 0 ≤ x) → ∀ x ∈ addI a b, 0 ≤ x
  | [], _, _, _, x, h => by simp [addI] at h
  | _ :: _, [], _, _, x, h => by simp [addI] at h
  | y :: ys, z :: zs, ha, hb, x, h => by
    rcases List.mem_cons.mp (show x ∈ (y + z) :: addI ys zs from h) with rfl | h
    · have h1 := ha y (by simp)
      have h2 := hb z (by simp)
      omega
    · exact add_nn (fun w hw => ha w (by simp [hw])) (fun w hw => hb w (by simp [hw])) x h
theorem Vec.add {n : Nat} {a b : List Int} (ha : Vec n a) (hb : Vec n b) : Vec n (addI a b) := by
  exact ⟨by rw [List.length_zipWith, ha.ln, hb.ln, Nat.min_self], add_nn ha.nn hb.nn⟩
def Gx.less (g : Gx) (a b : List Int) : Bool := HT.lexLt (g.rk a) (g.rk b)
structure Gx.Ok (g : Gx) : Prop where
  bh : ∀ p l s t, l ∈ g.ls → (s, t) ∈ g.st p → g.bh l s ∈ g.ls
  tk : ∀ p s t, p ≤ g.len → (s, t) ∈ g.st p → p + t ≤ g.len
  sc : ∀ l s, Vec g.n (g.sc l s)
  ec : ∀ l, Vec g.n (g.ec l)
  rv : ∀ c, Vec g.n c → Vec g.n (g.rk c)
  ra : ∀ a b, Vec g.n a → Vec g.n b → g.rk (addI a b) = addI (g.rk a) (g.rk b)
  dr : ∀ p, p < g.len → ∃ s, (s, 1) ∈ g.st p ∧ ∀ l, g.bh l s = l
section
variable {g : Gx}
theorem Gx.irr (a : List Int) : g.less a a = false := lex_irr _
theorem Gx.tr {a b c : List Int} (h : g.less a b = true) (k : g.less b c = true) : g.less a c = true := lex_tr h k
theorem Gx.co {a b c : List Int} (h : g.less a c = true) : g.less a b = true ∨ g.less b c = true := lex_co h
theorem Gx.Ok.addN (ok : g.Ok) {s c : List Int} (hs : Vec g.n s) (hc : Vec g.n c) : g.less (addI s c) c = false := by
  unfold Gx.less
  rw [ok.ra s c hs hc]
  exact lex_addN (by rw [(ok.rv s hs).ln, (ok.rv c hc).ln]) (ok.rv s hs).nn
theorem Gx.Ok.addS (ok : g.Ok) {s a b : List Int} (hs : Vec g.n s) (ha : Vec g.n a) (hb : Vec g.n b) (h : g.less a b = true) : g.less (addI s a) (addI s b) = true := by
  unfold Gx.less at *
  rw [ok.ra s a hs ha, ok.ra s b hs hb]
  exact lex_addS (by rw [(ok.rv s hs).ln, (ok.rv a ha).ln]) (by rw [(ok.rv s hs).ln, (ok.rv b hb).ln]) h
inductive Ends (es : Es) : Ky → Prop
  | fin {k : Ky} {c : List Int} : getE es k = some (c, none) → Ends es k
  | step {k : Ky} {c : List Int} {s : Stt} {th : Ky} : getE es k = some (c, some (s, th)) → Ends es th → Ends es k
structure Iv (g : Gx) (p0 : Nat) (es : Es) : Prop where
  nd : (es.map (·.1)).Nodup
  ks : ∀ k ∈ es.map (·.1), p0 ≤ k.1 ∧ k.1 ≤ g.len ∧ k.2 ∈ g.ls
  vs : ∀ k e, getE es k = some e → Vec g.n e.1
  fin : ∀ k c, getE es k = some (c, none) → k.1 = g.len ∧ c = g.ec k.2
  ed : ∀ k c s th, getE es k = some (c, some (s, th)) → ∃ t c' o, (s, t) ∈ g.st k.1 ∧ th = (k.1 + t, g.bh k.2 s) ∧ getE es th = some (c', o) ∧ g.less c (addI (g.sc k.2 s) c') = false
  en : ∀ k e, getE es k = some e → Ends es k
theorem Iv.le {p0 p1 : Nat} {es : Es} (h : Iv g p0 es) (hp : p1 ≤ p0) : Iv g p1 es := ⟨h.nd, fun k hk => ⟨Nat.le_trans hp (h.ks k hk).1, (h.ks k hk).2⟩, h.vs, h.fin, h.ed, h.en⟩
theorem Iv.small {p0 : Nat} {es : Es} (h : Iv g p0 es) : es.length ≤ (g.len + 1) * g.ls.length := by
  have := nodup_len h.nd (ns := (List.range (g.len + 1)).flatMap fun p => g.ls.map fun l => (p, l)) fun k hk => by
    rw [List.mem_flatMap]
    have := h.ks k hk
    exact ⟨k.1, List.mem_range.mpr (by omega), List.mem_map.mpr ⟨k.2, this.2.2, rfl⟩⟩
  rw [List.length_map, List.length_flatMap] at this
  refine Nat.le_trans this (Nat.le_of_eq ?_)
  rw [show (fun p => (g.ls.map fun l => (p, l)).length) = fun _ : Nat => g.ls.length from funext fun p => List.length_map ..]
  rw [List.map_const', List.sum_replicate_nat, List.length_range]
theorem ends_keep (ok : g.Ok) {p0 : Nat} {es : Es} (iv : Iv g p0 es) {k : Ky} (E : En) {x : Ky} (h : Ends es x) : (∀ y, getE es k = some y → ∃ e, getE es x = some e ∧ g.less e.1 y.1 = true) → Ends (putE es k E) x := by
  have ne : ∀ {x : Ky} {e : En}, getE es x = some e → (∀ y, getE es k = some y → ∃ e, getE es x = some e ∧ g.less e.1 y.1 = true) → x ≠ k := fun {x e} hx hc z => by
    subst z
    obtain ⟨e', h1, h2⟩ := hc e hx
    rw [hx] at h1
    cases h1
    rw [Gx.irr] at h2
    cases h2
  induction h with
  | @fin k' c hx =>
    intro hc
    refine .fin (c := c) ?_
    rw [getE_put, if_neg (ne hx hc)]
    exact hx
  | @step k' c s th hx ht ih =>
    intro hc
    refine .step (c := c) (s := s) (th := th) ?_ (ih fun y hy => ?_)
    · rw [getE_put, if_neg (ne hx hc)]
      exact hx
    · obtain ⟨e, h1, h2⟩ := hc y hy
      rw [hx] at h1
      cases h1
      obtain ⟨t, c', o, q1, q2, q3, q4⟩ := iv.ed _ _ _ _ hx
      refine ⟨_, q3, ?_⟩
      have v1 := ok.sc k'.2 s
      have v2 := iv.vs _ _ q3
      rcases Gx.co (b := c') h2 with z | z
      · rcases Gx.co (b := addI (g.sc k'.2 s) c') z with y | y
        · rw [q4] at y; cases y
        · rw [ok.addN v1 v2] at y; cases y
      · exact z
theorem Iv.put (ok : g.Ok) {p0 : Nat} {es : Es} (iv : Iv g p0 es) {k : Ky} {cs : List Int} {e : Option (Stt × Ky)} (hk : p0 ≤ k.1 ∧ k.1 ≤ g.len ∧ k.2 ∈ g.ls) (hv : Vec g.n cs) (hl : ∀ x, getE es k = some x → g.less cs x.1 = true)
    (he : (e = none ∧ k.1 = g.len ∧ cs = g.ec k.2) ∨ ∃ s t x, e = some (s, (k.1 + t, g.bh k.2 s)) ∧ (s, t) ∈ g.st k.1 ∧ getE es (k.1 + t, g.bh k.2 s) = some x ∧ cs = addI (g.sc k.2 s) x.1) : Iv g p0 (putE es k (cs, e)) := by
  have at_ : ∀ {j : Ky} {y : En}, getE (putE es k (cs, e)) j = some y → (j = k ∧ y = (cs, e)) ∨ (j ≠ k ∧ getE es j = some y) := fun {j y} h => by
    rw [getE_put] at h
    by_cases z : j = k
    · rw [if_pos z] at h; cases h; exact .inl ⟨z, rfl⟩
    · rw [if_neg z] at h; exact .inr ⟨z, h⟩
  have self : getE (putE es k (cs, e)) k = some (cs, e) := by rw [getE_put, if_pos rfl]
  have endk : Ends (putE es k (cs, e)) k := by
    rcases he with ⟨rfl, _, _⟩ | ⟨s, t, x, rfl, q1, q2, q3⟩
    · exact .fin self
    · refine .step self (ends_keep ok iv _ (iv.en _ _ q2) fun y hy => ⟨x, q2, ?_⟩)
      rcases Gx.co (b := x.1) (hl y hy) with z | z
      · rw [q3, ok.addN (ok.sc k.2 s) (iv.vs _ _ q2)] at z; cases z
      · exact z
  refine ⟨?_, fun j hj => ?_, fun j y h => ?_, fun j c h => ?_, fun j c s th h => ?_, fun j y h => ?_⟩
  · rcases putE_keys es k (cs, e) with z | ⟨z1, z2⟩
    · rw [z]; exact iv.nd
    · rw [z2, List.nodup_append]
      exact ⟨iv.nd, by simp, fun a ha b hb => by rw [List.mem_singleton.mp hb]; exact fun y => z1 (y ▸ ha)⟩
  · rcases putE_keys es k (cs, e) with z | ⟨z1, z2⟩
    · rw [z] at hj; exact iv.ks j hj
    · rw [z2] at hj
      rcases List.mem_append.mp hj with y | y
      · exact iv.ks j y
      · rw [List.mem_singleton.mp y]; exact hk
  · rcases at_ h with ⟨_, rfl⟩ | ⟨_, h⟩
    · exact hv
    · exact iv.vs j y h
  · rcases at_ h with ⟨rfl, z⟩ | ⟨_, h⟩
    · cases z
      rcases he with ⟨_, q⟩ | ⟨s, t, x, q, _⟩
      · exact q
      · cases q
    · exact iv.fin j c h
  · rcases at_ h with ⟨rfl, z⟩ | ⟨_, h⟩
    · cases z
      rcases he with ⟨q, _⟩ | ⟨s', t, x, q, q1, q2, q3⟩
      · cases q
      · cases q
        have hne : (j.1 + t, g.bh j.2 s) ≠ j := fun z => by
          rw [z] at q2
          have := hl x q2
          rw [q3, ok.addN (ok.sc j.2 s) (iv.vs _ _ q2)] at this
          cases this
        refine ⟨t, x.1, x.2, q1, rfl, by rw [getE_put, if_neg hne]; exact q2, ?_⟩
        rw [← q3]
        exact Gx.irr _
    · obtain ⟨t, c', o, q1, q2, q3, q4⟩ := iv.ed j c s th h
      by_cases z : th = k
      · refine ⟨t, cs, e, q1, q2, by rw [z]; exact self, ?_⟩
        rw [z] at q3
        have l1 := hl _ q3
        have l2 := ok.addS (ok.sc j.2 s) hv (iv.vs _ _ q3) l1
        cases y : g.less c (addI (g.sc j.2 s) cs) with
        | false => rfl
        | true => rw [Gx.tr y l2] at q4; cases q4
      · exact ⟨t, c', o, q1, q2, by rw [getE_put, if_neg z]; exact q3, q4⟩
  · have all : ∀ {j : Ky}, Ends es j → Ends (putE es k (cs, e)) j := fun {j} hj => by
      induction hj with
      | @fin k' c hx =>
        by_cases z : k' = k
        · rw [z]; exact endk
        · exact .fin (c := c) (by rw [getE_put, if_neg z]; exact hx)
      | @step k' c s th hx ht ih =>
        by_cases z : k' = k
        · rw [z]; exact endk
        · exact .step (by rw [getE_put, if_neg z]; exact hx) ih
    rcases at_ h with ⟨rfl, _⟩ | ⟨_, h⟩
    · exact endk
    · exact all (iv.en j y h)
def off (g : Gx) (es : Es) (k : Ky) (cs : List Int) (e : Option (Stt × Ky)) : Bool × Es := match getE es k with
  | some x => if g.less cs x.1 = true then (true, putE es k (cs, e)) else (false, es)
  | none => (true, putE es k (cs, e))
theorem off_cases (g : Gx) (es : Es) (k : Ky) (cs : List Int) (e : Option (Stt × Ky)) : (off g es k cs e = (true, putE es k (cs, e)) ∧ ∀ x, getE es k = some x → g.less cs x.1 = true) ∨ (off g es k cs e = (false, es) ∧ ∃ x, getE es k = some x ∧ g.less cs x.1 = false) := by
  unfold off
  cases h : getE es k with
  | none => exact .inl ⟨rfl, fun x hx => by cases hx⟩
  | some y =>
    simp only
    by_cases z : g.less cs y.1 = true
    · rw [if_pos z]; exact .inl ⟨rfl, fun x hx => by cases hx; exact z⟩
    · rw [if_neg z]; exact .inr ⟨rfl, y, rfl, by simpa using z⟩
def stepF (g : Gx) (p : Nat) (l : Str) (x : Bool × Es) (a : Stt × Nat) : Bool × Es := match getE x.2 (p + a.2, g.bh l a.1) with
  | none => x
  | some y => ((x.1 || (off g x.2 (p, l) (addI (g.sc l a.1) y.1) (some (a.1, (p + a.2, g.bh l a.1)))).1), (off g x.2 (p, l) (addI (g.sc l a.1) y.1) (some (a.1, (p + a.2, g.bh l a.1)))).2)
def pass (g : Gx) (p : Nat) (x : Bool × Es) : Bool × Es := g.ls.foldl (fun x l => (g.st p).foldl (stepF g p l) x) x
def ltL : List Nat → List Nat → Prop
  | a :: as, b :: bs => a < b ∨ (a = b ∧ ltL as bs)
  | _, _ => False
theorem acc_ltL : ∀ (n : Nat) (x : List Nat), x.length = n → Acc (fun a b => a.length = n ∧ ltL a b) x
  | 0, x, hx => ⟨_, fun y ⟨hy, h⟩ => by
    match y, x, h with
    | [], [], h => exact h.elim
    | [], _ :: _, h => exact h.elim
    | _ :: _, _, _ => simp at hy⟩
  | n + 1, [], hx => by simp at hx
  | n + 1, a :: as, hx => by
    have main : ∀ (a : Nat) (as : List Nat), as.length = n → Acc (fun a b => a.length = n + 1 ∧ ltL a b) (a :: as) := by
      intro a
      induction a using Nat.strongRecOn with
      | ind a iha =>
        intro as has
        have ac := acc_ltL n as has
        induction ac with
        | intro as _ ihs =>
          refine ⟨_, fun y ⟨hy, h⟩ => ?_⟩
          match y, hy, h with
          | b :: bs, hy, h =>
            have hb : bs.length = n := by simpa using hy
            rcases h with q | ⟨q1, q⟩
            · exact iha b q bs hb
            · rw [q1]
              exact ihs bs ⟨hb, q⟩ hb
    exact main a as (by simpa using hx)
theorem ltL_tr : ∀ {a b c : List Nat}, ltL a b → ltL b c → ltL a c
  | x :: xs, y :: ys, z :: zs, h1, h2 => by
    rcases h1 with h1 | ⟨rfl, h1⟩
    · rcases h2 with h2 | ⟨rfl, h2⟩
      · exact .inl (Nat.lt_trans h1 h2)
      · exact .inl h1
    · rcases h2 with h2 | ⟨rfl, h2⟩
      · exact .inl h2
      · exact .inr ⟨rfl, ltL_tr h1 h2⟩
  | [], _, _, h, _ => by cases h
  | _ :: _, [], _, h, _ => h.elim
  | _ :: _, _ :: _, [], _, h => h.elim
theorem ltL_app : ∀ {a b c d : List Nat}, a.length = b.length → ltL a b → ltL (a ++ c) (b ++ d)
  | x :: xs, y :: ys, c, d, hl, h => by
    rcases h with h | ⟨e, h⟩
    · exact .inl h
    · exact .inr ⟨e, ltL_app (by simpa using hl) h⟩
  | [], _, _, _, _, h => by cases h
  | _ :: _, [], _, _, _, h => h.elim
theorem ltL_pre : ∀ (a : List Nat) {c d : List Nat}, ltL c d → ltL (a ++ c) (a ++ d)
  | [], _, _, h => h
  | _ :: as, _, _, h => .inr ⟨rfl, ltL_pre as h⟩
theorem ltL_flat {f f' : Str → List Nat} (hl : ∀ l, (f' l).length = (f l).length) : ∀ {ls : List Str}, (∀ l ∈ ls, f' l = f l ∨ ltL (f' l) (f l)) → (∃ l ∈ ls, ltL (f' l) (f l)) → ltL (ls.flatMap f') (ls.flatMap f)
  | [], _, ⟨l, h, _⟩ => by cases h
  | x :: ls, h, ⟨l, hm, hlt⟩ => by
    rw [List.flatMap_cons, List.flatMap_cons]
    rcases h x (by simp) with z | z
    · rw [z]
      refine ltL_pre _ (ltL_flat hl (fun y hy => h y (by simp [hy])) ?_)
      rcases List.mem_cons.mp hm with rfl | hm
      · rw [z] at hlt
        exact (ltL_irr _ hlt).elim
      · exact ⟨l, hm, hlt⟩
    · exact ltL_app (hl x) z
where
  ltL_irr : ∀ a : List Nat, ¬ ltL a a
  | [], h => h
  | _ :: as, h => by
    rcases h with h | ⟨_, h⟩
    · exact Nat.lt_irrefl _ h
    · exact ltL_irr as h
theorem ltL_lex : ∀ {a b : List Int}, a.length = b.length → (∀ x ∈ a, 0 ≤ x) → (∀ x ∈ b, 0 ≤ x) → HT.lexLt a b = true → ltL (a.map Int.toNat) (b.map Int.toNat)
  | x :: xs, y :: ys, hl, ha, hb, h => by
    rw [HT.lexLt_cons] at h
    by_cases e : x = y
    · rw [if_pos e] at h
      exact .inr ⟨by rw [e], ltL_lex (by simpa using hl) (fun z hz => ha z (by simp [hz])) (fun z hz => hb z (by simp [hz])) h⟩
    · rw [if_neg e] at h
      have h := of_decide_eq_true h
      have h1 := ha x (by simp)
      have h2 := hb y (by simp)
      exact .inl (by omega)
  | [], [], _, _, _, h => by cases h
  | [], _ :: _, hl, _, _, _ => by simp at hl
  | _ :: _, [], hl, _, _, _ => by simp at hl
def blk (g : Gx) (es : Es) (p : Nat) (l : Str) : List Nat := match getE es (p, l) with
  | none => 1 :: List.replicate g.n 0
  | some x => 0 :: (g.rk x.1).map Int.toNat
def enc (g : Gx) (p : Nat) (es : Es) : List Nat := g.ls.flatMap (blk g es p)
theorem blk_len (ok : g.Ok) {p0 : Nat} {es : Es} (iv : Iv g p0 es) (p : Nat) (l : Str) : (blk g es p l).length = g.n + 1 := by
  unfold blk
  split
  · simp
  · rename_i x hx
    simp [(ok.rv _ (iv.vs _ _ hx)).ln]
theorem enc_len (ok : g.Ok) {p0 : Nat} {es : Es} (iv : Iv g p0 es) (p : Nat) : (enc g p es).length = g.ls.length * (g.n + 1) := by
  unfold enc
  rw [List.length_flatMap, show (fun l => (blk g es p l).length) = fun _ => g.n + 1 from funext fun l => blk_len ok iv p l, List.map_const', List.sum_replicate_nat]
theorem enc_put (ok : g.Ok) {p0 : Nat} {es : Es} (iv : Iv g p0 es) {p : Nat} {l : Str} {cs : List Int} {e : Option (Stt × Ky)} (iv' : Iv g p0 (putE es (p, l) (cs, e))) (hl : l ∈ g.ls) (hv : Vec g.n cs) (h : ∀ x, getE es (p, l) = some x → g.less cs x.1 = true) :
    ltL (enc g p (putE es (p, l) (cs, e))) (enc g p es) := by
  have one : ltL (blk g (putE es (p, l) (cs, e)) p l) (blk g es p l) := by
    unfold blk
    rw [getE_put, if_pos rfl]
    cases q : getE es (p, l) with
    | none => exact .inl (by omega)
    | some x =>
      have v2 := iv.vs _ _ q
      exact .inr ⟨rfl, ltL_lex (by rw [(ok.rv _ hv).ln, (ok.rv _ v2).ln]) (ok.rv _ hv).nn (ok.rv _ v2).nn (h x q)⟩
  refine ltL_flat (fun l' => by rw [blk_len ok iv', blk_len ok iv]) (fun l' _ => ?_) ⟨l, hl, one⟩
  by_cases z : l' = l
  · rw [z]; exact .inr one
  · refine .inl ?_
    unfold blk
    rw [getE_put, if_neg (fun y => z (by cases y; rfl))]
end
end Lw
namespace Lw
open PySem PySem.Spec L2 Evl Dt
section
variable {g : Gx}
structure Stl (g : Gx) (p : Nat) (es0 es : Es) : Prop where
  iv : Iv g p es
  fr : ∀ k : Ky, k.1 ≠ p → getE es k = getE es0 k
  mo : ∀ k x, getE es0 k = some x → ∃ x', getE es k = some x' ∧ g.less x.1 x'.1 = false
theorem Stl.rfl' {p : Nat} {es : Es} (iv : Iv g p es) : Stl g p es es := ⟨iv, fun _ _ => rfl, fun k x h => ⟨x, h, Gx.irr _⟩⟩
theorem Gx.ntr {a b c : List Int} (h : g.less a b = false) (k : g.less b c = false) : g.less a c = false := by
  cases z : g.less a c with
  | false => rfl
  | true =>
    rcases Gx.co (b := b) z with y | y
    · rw [h] at y; cases y
    · rw [k] at y; cases y
theorem Stl.trans {p : Nat} {es0 es1 es2 : Es} (h : Stl g p es0 es1) (k : Stl g p es1 es2) : Stl g p es0 es2 := by
  refine ⟨k.iv, fun j hj => (k.fr j hj).trans (h.fr j hj), fun j x hx => ?_⟩
  obtain ⟨x1, h1, h2⟩ := h.mo j x hx
  obtain ⟨x2, k1, k2⟩ := k.mo j x1 h1
  exact ⟨x2, k1, Gx.ntr h2 k2⟩
theorem Stl.put (ok : g.Ok) {p : Nat} {es : Es} (iv : Iv g p es) {l : Str} {cs : List Int} {e : Option (Stt × Ky)} (iv' : Iv g p (putE es (p, l) (cs, e))) (h : ∀ x, getE es (p, l) = some x → g.less cs x.1 = true) : Stl g p es (putE es (p, l) (cs, e)) := by
  refine ⟨iv', fun k hk => ?_, fun k x hx => ?_⟩
  · rw [getE_put, if_neg (fun z => hk (by rw [z]))]
  · rw [getE_put]
    by_cases z : k = (p, l)
    · rw [if_pos z]
      refine ⟨_, rfl, ?_⟩
      rw [z] at hx
      have := h x hx
      cases y : g.less x.1 cs with
      | false => rfl
      | true => exact absurd (Gx.tr this y) (by rw [Gx.irr]; decide)
    · rw [if_neg z]
      exact ⟨x, hx, Gx.irr _⟩
def TurnI (g : Gx) (p : Nat) (es0 : Es) (x : Bool × Es) : Prop := Stl g p es0 x.2 ∧ ((x.1 = false ∧ x.2 = es0) ∨ (x.1 = true ∧ ltL (enc g p x.2) (enc g p es0)))
theorem stepF_turn (ok : g.Ok) {p : Nat} (hp : p ≤ g.len) {es0 : Es} {l : Str} (hl : l ∈ g.ls) {x : Bool × Es} (h : TurnI g p es0 x) {a : Stt × Nat} (ha : a ∈ g.st p) : TurnI g p es0 (stepF g p l x a) := by
  obtain ⟨h1, h2⟩ := h
  unfold stepF
  cases hy : getE x.2 (p + a.2, g.bh l a.1) with
  | none => exact ⟨h1, h2⟩
  | some y =>
    simp only
    have hv : Vec g.n (addI (g.sc l a.1) y.1) := (ok.sc l a.1).add (h1.iv.vs _ _ hy)
    rcases off_cases g x.2 (p, l) (addI (g.sc l a.1) y.1) (some (a.1, (p + a.2, g.bh l a.1))) with ⟨e1, e2⟩ | ⟨e1, _⟩
    · rw [e1]
      have iv' : Iv g p (putE x.2 (p, l) (addI (g.sc l a.1) y.1, some (a.1, (p + a.2, g.bh l a.1)))) :=
        h1.iv.put ok ⟨Nat.le_refl _, hp, hl⟩ hv e2 (.inr ⟨a.1, a.2, y, rfl, ha, hy, rfl⟩)
      have lt := enc_put ok h1.iv iv' hl hv e2
      refine ⟨h1.trans (Stl.put ok h1.iv iv' e2), .inr ⟨by simp, ?_⟩⟩
      rcases h2 with ⟨_, z⟩ | ⟨_, z⟩
      · rw [z] at lt
        rw [z]
        exact lt
      · exact ltL_tr lt z
    · rw [e1]
      exact ⟨h1, by simpa using h2⟩
theorem fold_keep {α β : Type} {f : β → α → β} {P : β → Prop} : ∀ {xs : List α} {x : β}, P x → (∀ x a, a ∈ xs → P x → P (f x a)) → P (xs.foldl f x)
  | [], _, h, _ => h
  | a :: xs, x, h, k => fold_keep (xs := xs) (x := f x a) (k x a (by simp) h) fun x b hb => k x b (by simp [hb])
theorem pass_turn (ok : g.Ok) {p : Nat} (hp : p ≤ g.len) {es0 : Es} (iv : Iv g p es0) : TurnI g p es0 (pass g p (false, es0)) := by
  unfold pass
  refine fold_keep (P := TurnI g p es0) ⟨Stl.rfl' iv, .inl ⟨rfl, rfl⟩⟩ fun x l hl h => ?_
  exact fold_keep (P := TurnI g p es0) h fun x a ha h => stepF_turn ok hp hl h ha
theorem fold_no {α : Type} {f : Bool × Es → α → Bool × Es} {C : Es → α → Prop} (h : ∀ x a, (f x a).1 = false → f x a = x ∧ C x.2 a) : ∀ {xs : List α} {x : Bool × Es}, (xs.foldl f x).1 = false → xs.foldl f x = x ∧ ∀ a ∈ xs, C x.2 a
  | [], x, _ => ⟨rfl, fun _ z => by cases z⟩
  | a :: xs, x, k => by
    have k : (xs.foldl f (f x a)).1 = false := k
    obtain ⟨e1, e2⟩ := fold_no h (xs := xs) k
    rw [e1] at k
    obtain ⟨d1, d2⟩ := h x a k
    refine ⟨by rw [List.foldl_cons, e1, d1], fun b hb => ?_⟩
    rcases List.mem_cons.mp hb with rfl | hb
    · exact d2
    · have := e2 b hb
      rwa [d1] at this
def ClA (g : Gx) (p : Nat) (l : Str) (es : Es) (a : Stt × Nat) : Prop := ∀ y, getE es (p + a.2, g.bh l a.1) = some y → ∃ x0, getE es (p, l) = some x0 ∧ g.less (addI (g.sc l a.1) y.1) x0.1 = false
theorem stepF_no {p : Nat} {l : Str} (x : Bool × Es) (a : Stt × Nat) (h : (stepF g p l x a).1 = false) : stepF g p l x a = x ∧ ClA g p l x.2 a := by
  unfold stepF at h ⊢
  unfold ClA
  cases hy : getE x.2 (p + a.2, g.bh l a.1) with
  | none => exact ⟨rfl, fun y z => by cases z⟩
  | some y =>
    rw [hy] at h
    simp only at h ⊢
    rcases off_cases g x.2 (p, l) (addI (g.sc l a.1) y.1) (some (a.1, (p + a.2, g.bh l a.1))) with ⟨e1, e2⟩ | ⟨e1, e2⟩
    · rw [e1] at h; simp at h
    · rw [e1] at h ⊢
      exact ⟨by simp, fun z hz => by cases hz; exact e2⟩
theorem pass_no {p : Nat} {x : Bool × Es} (h : (pass g p x).1 = false) : pass g p x = x ∧ ∀ l ∈ g.ls, ∀ a ∈ g.st p, ClA g p l x.2 a := by
  unfold pass at h ⊢
  exact fold_no (C := fun es l => ∀ a ∈ g.st p, ClA g p l es a) (fun y l hy => fold_no (C := ClA g p l) (fun z a hz => stepF_no z a hz) hy) h
inductive Lp (g : Gx) (p : Nat) : Es → Es → Prop
  | stop {es : Es} : pass g p (false, es) = (false, es) → Lp g p es es
  | go {es es1 es2 : Es} : pass g p (false, es) = (true, es1) → Lp g p es1 es2 → Lp g p es es2
theorem lp_end (ok : g.Ok) {p : Nat} (hp : p ≤ g.len) {es : Es} (iv : Iv g p es) : ∃ es', Lp g p es es' ∧ Stl g p es es' ∧ ∀ l ∈ g.ls, ∀ a ∈ g.st p, ClA g p l es' a := by
  have main : ∀ x : List Nat, Acc (fun a b => a.length = g.ls.length * (g.n + 1) ∧ ltL a b) x → ∀ es : Es, Iv g p es → enc g p es = x → ∃ es', Lp g p es es' ∧ Stl g p es es' ∧ ∀ l ∈ g.ls, ∀ a ∈ g.st p, ClA g p l es' a := by
    intro x hx
    induction hx with
    | intro x _ ih =>
      intro es iv ex
      have ht := pass_turn ok hp iv
      cases eb : (pass g p (false, es)).1 with
      | false =>
        obtain ⟨e1, e2⟩ := pass_no eb
        exact ⟨es, .stop e1, Stl.rfl' iv, e2⟩
      | true =>
        obtain ⟨h1, h2⟩ := ht
        rcases h2 with ⟨z, _⟩ | ⟨_, z⟩
        · rw [eb] at z; cases z
        · obtain ⟨es', k1, k2, k3⟩ := ih (enc g p (pass g p (false, es)).2) ⟨enc_len ok h1.iv p, ex ▸ z⟩ _ h1.iv rfl
          refine ⟨es', .go ?_ k1, h1.trans k2, k3⟩
          rw [← eb]
  exact main _ (acc_ltL _ _ (enc_len ok iv p)) es iv rfl
structure Dn (g : Gx) (p : Nat) (es : Es) : Prop where
  iv : Iv g p es
  kn : ∀ p' l, p ≤ p' → p' ≤ g.len → l ∈ g.ls → ∃ x, getE es (p', l) = some x
  cl : ∀ p' l a, p ≤ p' → p' ≤ g.len → l ∈ g.ls → a ∈ g.st p' → ClA g p' l es a
  ce : ∀ l ∈ g.ls, ∃ x, getE es (g.len, l) = some x ∧ g.less (g.ec l) x.1 = false
theorem dn_step (ok : g.Ok) {p : Nat} {es : Es} (h : Dn g (p + 1) es) (hp : p < g.len) : ∃ es', Lp g p es es' ∧ Dn g p es' := by
  obtain ⟨es', k1, k2, k3⟩ := lp_end ok (Nat.le_of_lt hp) (h.iv.le (Nat.le_succ p))
  refine ⟨es', k1, k2.iv, fun p' l h1 h2 hl => ?_, fun p' l a h1 h2 hl ha => ?_, fun l hl => ?_⟩
  · by_cases z : p' = p
    · subst z
      obtain ⟨s, hs, hb⟩ := ok.dr p' hp
      obtain ⟨x, hx⟩ := h.kn (p' + 1) l (Nat.le_refl _) hp hl
      obtain ⟨x0, q, _⟩ := k3 l hl (s, 1) hs x (by rw [hb l, k2.fr _ (by show p' + 1 ≠ p'; omega)]; exact hx)
      exact ⟨x0, q⟩
    · obtain ⟨x, hx⟩ := h.kn p' l (by omega) h2 hl
      exact ⟨x, by rw [k2.fr _ z]; exact hx⟩
  · by_cases z : p' = p
    · subst z; exact k3 l hl a ha
    · have := h.cl p' l a (by omega) h2 hl ha
      intro y hy
      rw [k2.fr _ (by show p' + a.2 ≠ p; omega)] at hy
      obtain ⟨x0, q1, q2⟩ := this y hy
      exact ⟨x0, by rw [k2.fr _ z]; exact q1, q2⟩
  · obtain ⟨x, h1, h2⟩ := h.ce l hl
    exact ⟨x, by rw [k2.fr _ (by show g.len ≠ p; omega)]; exact h1, h2⟩
def endF (g : Gx) (es : Es) : Es := g.ls.foldl (fun es l => (off g es (g.len, l) (g.ec l) none).2) es
theorem endF_ok (ok : g.Ok) {es : Es} (iv : Iv g g.len es) : Stl g g.len es (endF g es) ∧ ∀ l ∈ g.ls, ∃ x, getE (endF g es) (g.len, l) = some x ∧ g.less (g.ec l) x.1 = false := by
  have main : ∀ (ls : List Str) (es : Es), (∀ l ∈ ls, l ∈ g.ls) → Iv g g.len es → Stl g g.len es (ls.foldl (fun es l => (off g es (g.len, l) (g.ec l) none).2) es) ∧ ∀ l ∈ ls, ∃ x, getE (ls.foldl (fun es l => (off g es (g.len, l) (g.ec l) none).2) es) (g.len, l) = some x ∧ g.less (g.ec l) x.1 = false := by
    intro ls
    induction ls with
    | nil => exact fun es _ iv => ⟨Stl.rfl' iv, fun l z => by cases z⟩
    | cons l ls ih =>
      intro es hls iv
      rw [List.foldl_cons]
      have one : Stl g g.len es (off g es (g.len, l) (g.ec l) none).2 ∧ ∃ x, getE (off g es (g.len, l) (g.ec l) none).2 (g.len, l) = some x ∧ g.less (g.ec l) x.1 = false := by
        rcases off_cases g es (g.len, l) (g.ec l) none with ⟨e1, e2⟩ | ⟨e1, x, e2, e3⟩
        · rw [e1]
          have iv' : Iv g g.len (putE es (g.len, l) (g.ec l, none)) := iv.put ok ⟨Nat.le_refl _, Nat.le_refl _, hls l (by simp)⟩ (ok.ec l) e2 (.inl ⟨rfl, rfl, rfl⟩)
          exact ⟨Stl.put ok iv iv' e2, _, by rw [getE_put, if_pos rfl], Gx.irr _⟩
        · rw [e1]
          exact ⟨Stl.rfl' iv, x, e2, e3⟩
      obtain ⟨o1, x, o2, o3⟩ := one
      obtain ⟨i1, i2⟩ := ih _ (fun y hy => hls y (by simp [hy])) o1.iv
      refine ⟨o1.trans i1, fun y hy => ?_⟩
      rcases List.mem_cons.mp hy with rfl | hy
      · obtain ⟨x', q1, q2⟩ := i1.mo _ _ o2
        exact ⟨x', q1, Gx.ntr o3 q2⟩
      · exact i2 y hy
  exact main g.ls es (fun _ h => h) iv
theorem getE_nil (k : Ky) : getE [] k = none := rfl
theorem iv_nil (g : Gx) (p : Nat) : Iv g p [] := by
  refine ⟨.nil, fun k h => ?_, fun k e h => ?_, fun k c h => ?_, fun k c s th h => ?_, fun k e h => ?_⟩
  · cases h
  · rw [getE_nil] at h; cases h
  · rw [getE_nil] at h; cases h
  · rw [getE_nil] at h; cases h
  · rw [getE_nil] at h; cases h
theorem dn_last (ok : g.Ok) : ∃ es', Lp g g.len (endF g []) es' ∧ Dn g g.len es' := by
  obtain ⟨h1, h2⟩ := endF_ok ok (iv_nil g g.len)
  obtain ⟨es', k1, k2, k3⟩ := lp_end ok (Nat.le_refl _) h1.iv
  have ce : ∀ l ∈ g.ls, ∃ x, getE es' (g.len, l) = some x ∧ g.less (g.ec l) x.1 = false := fun l hl => by
    obtain ⟨x, q1, q2⟩ := h2 l hl
    obtain ⟨x', q3, q4⟩ := k2.mo _ _ q1
    exact ⟨x', q3, Gx.ntr q2 q4⟩
  refine ⟨es', k1, k2.iv, fun p' l q1 q2 hl => ?_, fun p' l a q1 q2 hl ha => ?_, ce⟩
  · obtain rfl : p' = g.len := Nat.le_antisymm q2 q1
    obtain ⟨x, q, _⟩ := ce l hl
    exact ⟨x, q⟩
  · obtain rfl : p' = g.len := Nat.le_antisymm q2 q1
    exact k3 l hl a ha
inductive Down (g : Gx) : Nat → Es → Prop
  | last {es : Es} : Lp g g.len (endF g []) es → Down g g.len es
  | next {p : Nat} {es es' : Es} : p < g.len → Down g (p + 1) es → Lp g p es es' → Down g p es'
end
end Lw
namespace Lw
open PySem PySem.Spec L2 Evl Dt
open TL (tl joinL tl_join tl_ofString join_eq tl_append len_tl)
abbrev intV (ns : List Int) : Pd := .tuple (ns.map PyData.int)
def stD (s : Str × Str) : Pd := .tuple [.str s.1, .str s.2]
theorem chars_sgs (s : Str) : chars s = sgs (tl s) := chars_eq s
def lsC (s : Str) : List Str := S "#" :: (tl s).map sg1
theorem m_lasts_ (c : Code) (hs : (tl c.s).length ≤ 1000) : m_lasts [.d c.d] = .ok (.d (.tuple ((lsC c.s).map PyData.str))) [.d c.d] := by
  have hsl := len_tl c.s
  have hz : c.s.length ≤ 16777216 := by omega
  have hzc : (chars c.s).length = c.s.length := by rw [chars_sgs, sgs_len, hsl]
  have z1 : 1 + c.s.length ≤ 16777216 := by omega
  have e : (lsC c.s).map PyData.str = .str (S "#") :: chars c.s := by
    rw [chars_sgs]
    rfl
  rw [e]
  simp [m_lasts, gOf, w_lasts, Code.d, at0, hz, sizeLine, hzc, z1]
def bhd (l : Str) (s : Str × Str) : Str := if s.2 = E0 then l else s.2
theorem m_behind_ (l : Str) (s : Str × Str) : m_behind [.d (.str l), .d (stD s)] = .ok (.d (.str (bhd l s))) [.d (.str l), .d (stD s)] := by
  unfold bhd stD
  by_cases h : s.2 = E0
  · rw [h]
    simp [m_behind, gOf, w_behind, at1]
  · have ne : ¬ (s.2 = Str.ofString "") := h
    simp [m_behind, gOf, w_behind, at1, ne, h]
theorem m_added_ (x y : List Int) (hx : x.length ≤ 1000) : m_added [.d (intV x), .d (intV y)] = .ok (.d (intV (List.zipWith (· + ·) x y))) [.d (intV x), .d (intV y)] := by
  have key := lc_mapM (h := putTup 2 (putCons (put 2) (putCons (put 3) putNil))) (fe := ce_added_0) (vs := [2, 3]) (fun p : Int × Int => PyData.tuple [.int p.1, .int p.2]) (fun p => .int (p.1 + p.2)) (ρ := [.d (intV x), .d (intV y), .no, .no]) (l := x.zip y) (fun p hp => by
    exact ⟨[.d (intV x), .d (intV y), .d (.int p.1), .d (.int p.2)], [.d (intV x), .d (intV y), .d (.int p.1), .d (.int p.2)], by simp [put_eq], by simp [ce_added_0], by simp⟩) (by rw [List.length_zip]; omega)
  have ez : zipK [.d (intV x), .d (intV y)] = some ((x.zip y).map fun p => PyData.tuple [.int p.1, .int p.2]) := by
    have : ((x.map PyData.int).zip (y.map PyData.int)).map (fun p => PyData.tuple [p.1, p.2]) = (x.zip y).map fun p => PyData.tuple [.int p.1, .int p.2] := by
      rw [List.zip_map, List.map_map]
      exact List.map_congr_left fun _ _ => rfl
    rw [← this]
    rfl
  have ew : (x.zip y).map (fun p => PyData.int (p.1 + p.2)) = (List.zipWith (· + ·) x y).map PyData.int := by
    rw [List.map_zipWith, ← List.map_uncurry_zip_eq_zipWith]
    exact List.map_congr_left fun _ _ => rfl
  rw [ew] at key
  generalize (List.zipWith (· + ·) x y) = z at *
  simp only [intV] at *
  generalize x.map PyData.int = X at *
  generalize y.map PyData.int = Y at *
  simp [m_added, gOf, w_added, ez, key]
def stO (cs : List Nat) : List (Str × Str) := (cs.map fun x => (E0, sg1 x)) ++ cs.flatMap fun x => (sg1 x, E0) :: cs.map fun y => (sg1 x, sg1 y)
theorem stO_len (cs : List Nat) : (stO cs).length = cs.length + cs.length * (cs.length + 1) := by
  unfold stO
  rw [List.length_append, List.length_map, List.length_flatMap]
  have : (fun x : Nat => ((sg1 x, E0) :: cs.map fun y => (sg1 x, sg1 y)).length) = fun _ => cs.length + 1 := by
    funext x; simp
  rw [this, List.map_const', List.sum_replicate_nat]
theorem m_steps_of_ (c : Code) (hs : (tl c.s).length ≤ 100) : m_steps_of [.d c.d] = .ok (.d (.list ((stO (tl c.s)).map stD))) [.d c.d] := by
  have hsl := len_tl c.s
  have hz : c.s.length ≤ 16777216 := by omega
  have cd0 : ixD c.d (.int 0) = some (.str c.s) := by
    show atI _ 0 = _
    exact at0 _ _
  have k0 := lc_mapM (h := put 1) (fe := ce_steps_of_0) (vs := [1]) (fun x : Nat => PyData.str (sg1 x)) (fun x => stD (E0, sg1 x)) (ρ := [.d c.d, .no, .no, .no]) (l := tl c.s) (fun x hx =>
    ⟨[.d c.d, .d (.str (sg1 x)), .no, .no], [.d c.d, .d (.str (sg1 x)), .no, .no], by simp [put_eq], by simp [ce_steps_of_0, stD, sizeLine], by simp⟩) (by omega)
  have k2 : ∀ (x : Nat) (acc : List Pd), lcRun (put 3) (fun ρ => R.ok true ρ) ce_steps_of_2 [3] ((tl c.s).map fun x : Nat => PyData.str (sg1 x)) [] [.d c.d, .d (.str (sg1 x)), .own false acc, .no] = .ok ((tl c.s).map fun y => stD (sg1 x, sg1 y)) [.d c.d, .d (.str (sg1 x)), .own false acc, .no] := fun x acc =>
    lc_mapM (h := put 3) (fe := ce_steps_of_2) (vs := [3]) (fun x : Nat => PyData.str (sg1 x)) (fun y => stD (sg1 x, sg1 y)) (ρ := [.d c.d, .d (.str (sg1 x)), .own false acc, .no]) (l := tl c.s) (fun y hy =>
      ⟨[.d c.d, .d (.str (sg1 x)), .own false acc, .d (.str (sg1 y))], [.d c.d, .d (.str (sg1 x)), .own false acc, .d (.str (sg1 y))], by simp [put_eq], by simp [ce_steps_of_2, stD, sizeLine], by simp⟩) (by omega)
  have hch : chars c.s = (tl c.s).map fun x : Nat => PyData.str (sg1 x) := by rw [chars_eq, List.map_map]; rfl
  have hcl : (chars c.s).length = c.s.length := by rw [hch, List.length_map, hsl]
  have hcs : c.s.cps.size ≤ 100 := by
    have : c.s.length = c.s.cps.size := rfl
    omega
  have loop : ∀ (xs : List Nat) (acc : List Pd) (t : Sl), isIo t = false → acc.length + xs.length * 102 ≤ 100000 → ∃ t', isIo t' = false ∧ forRun (put 1) fb_steps_of_1 (xs.map fun x : Nat => PyData.str (sg1 x)) [.d c.d, t, .own false acc, .no]
      = .ok .nx [.d c.d, t', .own false (acc ++ xs.flatMap fun x => stD (sg1 x, E0) :: (tl c.s).map fun y => stD (sg1 x, sg1 y)), .no] := by
    intro xs
    induction xs with
    | nil => exact fun acc t ht _ => ⟨t, ht, by simp⟩
    | cons x xs ih =>
      intro acc t ht hl
      simp only [List.length_cons] at hl
      have b1 : acc.length < 16777216 := by omega
      have b2 : acc.length + 1 + (tl c.s).length ≤ 16777216 := by omega
      obtain ⟨t', h1, h2⟩ := ih (acc ++ stD (sg1 x, E0) :: (tl c.s).map fun y => stD (sg1 x, sg1 y)) (.d (.str (sg1 x))) rfl (by simp; omega)
      refine ⟨t', h1, ?_⟩
      rw [List.map_cons, for_go (ρ1 := [.d c.d, .d (.str (sg1 x)), .own false acc, .no]) (ρ2 := [.d c.d, .d (.str (sg1 x)), .own false (acc ++ stD (sg1 x, E0) :: (tl c.s).map fun y => stD (sg1 x, sg1 y)), .no]) (by simp [put_eq, ht]) ?_, h2, List.flatMap_cons, List.append_assoc]
      have e0 : PyData.tuple [.str (sg1 x), .str (Str.ofString "")] = stD (sg1 x, E0) := rfl
      have k2' := k2 x (acc ++ [stD (sg1 x, E0)])
      rw [← hch] at k2'
      generalize c.d = cd at *
      simp [fb_steps_of_1, e0, b1, b2, cd0, hz, hcl, sizeLine, k2', Nat.add_assoc]
      omega
  obtain ⟨t', h1, h2⟩ := loop (tl c.s) ((tl c.s).map fun x => stD (E0, sg1 x)) .no rfl (by
    rw [List.length_map]
    have : (tl c.s).length * 102 ≤ 100 * 102 := Nat.mul_le_mul_right _ hs
    omega)
  rw [← hch] at h2 k0
  have e : (stO (tl c.s)).map stD = ((tl c.s).map fun x => stD (E0, sg1 x)) ++ (tl c.s).flatMap fun x => stD (sg1 x, E0) :: (tl c.s).map fun y => stD (sg1 x, sg1 y) := by
    unfold stO
    rw [List.map_append, List.map_map, List.map_flatMap]
    congr 1
    congr 1
    funext x
    simp
  rw [e]
  generalize c.d = cd at *
  simp [m_steps_of, gOf, w_steps_of, cd0, hz, hcl, sizeLine, k0, h2, putOwn]
end Lw
namespace Lw
open PySem PySem.Spec L2 Evl Dt
open TL (tl joinL tl_join tl_ofString join_eq tl_append len_tl)
def pickS (w : Str) (p : Nat) (s : Str × Str) : Option ((Str × Str) × Nat) := if s.1 = E0 then some (s, 0) else if cutS w (some (p : Int)) (some ((p : Int) + 1)) = s.1 then some (s, 1) else none
def stP (s w : Str) (p : Nat) : List ((Str × Str) × Nat) := (stO (tl s)).filterMap (pickS w p)
def stT (x : (Str × Str) × Nat) : Pd := .tuple [stD x.1, .int x.2]
theorem m_steps_from_ (c : Code) (hs : (tl c.s).length ≤ 100) (w : Str) (hw : (tl w).length ≤ 1000) (p : Nat) (hp : p ≤ 1000) : m_steps_from [.d c.d, .d (.str w), .d (.int p)] = .ok (.d (.list ((stP c.s w p).map stT))) [.d c.d, .d (.str w), .d (.int p)] := by
  have e1 := m_steps_of_ c hs
  have hwz : w.length ≤ 16777216 := by have := len_tl w; omega
  have hb : (stO (tl c.s)).length ≤ 10200 := by
    rw [stO_len]
    have : (tl c.s).length * ((tl c.s).length + 1) ≤ 100 * 101 := Nat.mul_le_mul hs (by omega)
    omega
  have loop : ∀ (xs : List (Str × Str)) (acc : List Pd) (t : Sl), isIo t = false → acc.length + xs.length ≤ 100000 → ∃ t', isIo t' = false ∧ forRun (put 4) fb_steps_from_0 (xs.map stD) [.d c.d, .d (.str w), .d (.int p), .own false acc, t]
      = .ok .nx [.d c.d, .d (.str w), .d (.int p), .own false (acc ++ (xs.filterMap (pickS w p)).map stT), t'] := by
    intro xs
    induction xs with
    | nil => exact fun acc t ht _ => ⟨t, ht, by simp⟩
    | cons x xs ih =>
      intro acc t ht hl
      simp only [List.length_cons] at hl
      have b1 : acc.length < 16777216 := by omega
      have pr : ((-4611686018427387904 : Int) ≤ (p : Int) ∧ (p : Int) < 4611686018427387904) := by omega
      have pr2 : ((-4611686018427387904 : Int) ≤ (p : Int) + 1 ∧ (p : Int) + 1 < 4611686018427387904) := by omega
      have x0 : ixD (stD x) (.int 0) = some (.str x.1) := by
        show atI _ 0 = _
        exact at0 _ _
      have one : ∃ ys : List Pd, ys.length ≤ 1 ∧ ys = ([x].filterMap (pickS w p)).map stT ∧ fb_steps_from_0 [.d c.d, .d (.str w), .d (.int p), .own false acc, .d (stD x)] = .ok .nx [.d c.d, .d (.str w), .d (.int p), .own false (acc ++ ys), .d (stD x)] := by
        by_cases q : x.1 = E0
        · refine ⟨[.tuple [stD x, .int 0]], by simp, by simp [pickS, q, stT], ?_⟩
          have q' : x.1 = Str.ofString "" := q
          generalize c.d = cd at *
          generalize stD x = sd at *
          simp [fb_steps_from_0, x0, q', b1, sizeLine]
        · have q' : ¬ (x.1 = Str.ofString "") := q
          by_cases z : cutS w (some (p : Int)) (some ((p : Int) + 1)) = x.1
          · refine ⟨[.tuple [stD x, .int 1]], by simp, by simp [pickS, q, z, stT], ?_⟩
            generalize c.d = cd at *
            generalize stD x = sd at *
            simp [fb_steps_from_0, x0, q', b1, sizeLine, z, pr, pr2, hwz]
          · refine ⟨[], by simp, by simp [pickS, q, z], ?_⟩
            generalize c.d = cd at *
            generalize stD x = sd at *
            simp [fb_steps_from_0, x0, q', b1, sizeLine, z, pr, pr2, hwz]
      obtain ⟨ys, l1, ey, eb⟩ := one
      obtain ⟨t', h1, h2⟩ := ih (acc ++ ys) (.d (stD x)) rfl (by simp; omega)
      refine ⟨t', h1, ?_⟩
      rw [List.map_cons, for_go (ρ1 := [.d c.d, .d (.str w), .d (.int p), .own false acc, .d (stD x)]) (by simp [put_eq, ht]) eb, h2, List.append_assoc, ey, ← List.map_append, ← List.filterMap_append]
      rfl
  obtain ⟨t', h1, h2⟩ := loop (stO (tl c.s)) [] .no rfl (by simp only [List.length_nil]; omega)
  have h3 : forRun (put 4) fb_steps_from_0 ((stO (tl c.s)).map stD) [.d c.d, .d (.str w), .d (.int p), .own false [], .no] = .ok .nx [.d c.d, .d (.str w), .d (.int p), .own false ((stP c.s w p).map stT), t'] := by
    rw [h2]
    rfl
  generalize (stO (tl c.s)).map stD = L at *
  generalize (stP c.s w p).map stT = M at *
  generalize c.d = cd at *
  simp [m_steps_from, gOf, w_steps_from, e1, h3, putOwn]
def kyD (k : Ky) : Pd := .tuple [.int k.1, .str k.2]
def kyN (k : Ky) : NestedKey := .tup [.num k.1, .text k.2]
def enD : En → Pd
  | (c, none) => .tuple [intV c, .none, .none]
  | (c, some (s, th)) => .tuple [intV c, stD s, kyD th]
def dsE (es : Es) : List (Pd × Pd) := es.map fun x => (kyD x.1, enD x.2)
theorem keyN_ky (k : Ky) : keyN (kyD k) = some (kyN k) := keyN_of (kyN k)
theorem keyM_ky (k : Ky) : keyM true (kyD k) = some (kyN k) := by
  have h : keyN (.tuple [.int k.1, .str k.2]) = some (kyN k) := keyN_ky k
  unfold keyM
  rw [if_pos rfl]
  simp only [kyD, h]
  rw [if_pos]
  show max 0 (max 0 0) + 1 ≤ 8
  decide
theorem kyN_inj {a b : Ky} (h : kyN a = kyN b) : a = b := by
  obtain ⟨a1, a2⟩ := a
  obtain ⟨b1, b2⟩ := b
  injection h with h
  injection h with h1 h2
  injection h1 with h1
  injection h2 with h2
  injection h2 with h2
  have h1 : (a1 : Int) = (b1 : Int) := h1
  have h2 : a2 = b2 := h2
  rw [h2, show a1 = b1 by omega]
theorem getN_ds (k : Ky) : ∀ es : Es, getN (dsE es) (kyN k) = (getE es k).map enD
  | [] => rfl
  | x :: es => by
    have ih := getN_ds k es
    unfold dsE at ih ⊢
    rw [List.map_cons]
    by_cases q : x.1 = k
    · rw [getN_pos (by rw [← q]; exact keyN_ky x.1), getE_pos q]; rfl
    · rw [getN_neg (fun z => q (kyN_inj (Option.some.inj ((keyN_ky x.1).symm.trans z)))), getE_neg q, ih]
theorem putN_ds (es : Es) (k : Ky) (e : En) : putN (dsE es) (kyD k) (kyN k) (enD e) = dsE (putE es k e) := by
  unfold putN putE
  rw [getN_ds, Option.isSome_map]
  split
  · unfold dsE
    rw [List.map_map, List.map_map]
    apply List.map_congr_left
    intro x _
    show (if keyN (kyD x.1) = some (kyN k) then (kyD x.1, enD e) else (kyD x.1, enD x.2)) = (kyD (if x.1 = k then (x.1, e) else x).1, enD (if x.1 = k then (x.1, e) else x).2)
    by_cases q : x.1 = k
    · rw [if_pos (by rw [← q]; exact keyN_ky x.1), if_pos q]
    · rw [if_neg (fun z => q (kyN_inj (Option.some.inj ((keyN_ky x.1).symm.trans z)))), if_neg q]
  · unfold dsE
    rw [List.map_append]
    rfl
abbrev rdO (c o w : Pd) (ds : List (Pd × Pd)) : Mo := .obj "Road" [("code", .dat c), ("order", .dat o), ("word", .dat w), ("known", .dct true ds)]
section
variable {b : Bool} {c o w : Pd} {ds : List (Pd × Pd)} {ρ ρ1 : Rho} {gk : Rho → Option Pd} {kd : Pd} {k : NestedKey}
theorem fld_code : fFld 0 "Road" "code" (.m b (rdO c o w ds) :: ρ) = .ok (.d c) (.m b (rdO c o w ds) :: ρ) := rfl
theorem fld_order : fFld 0 "Road" "order" (.m b (rdO c o w ds) :: ρ) = .ok (.d o) (.m b (rdO c o w ds) :: ρ) := rfl
theorem fld_word : fFld 0 "Road" "word" (.m b (rdO c o w ds) :: ρ) = .ok (.d w) (.m b (rdO c o w ds) :: ρ) := rfl
theorem pget_known (h1 : gk (.m b (rdO c o w ds) :: ρ) = some kd) (h2 : keyM true kd = some k) {d : Pd} (h3 : getN ds k = some d) : fPGet ⟨0, some "known"⟩ true "Road" gk (.m b (rdO c o w ds) :: ρ) = .ok (.d d) (.m b (rdO c o w ds) :: ρ) := by
  show (match (gk (.m b (rdO c o w ds) :: ρ)) with
    | some kd => (match keyM true kd with
      | some k => (match getN ds k with
        | some d => (R.ok (AV.d d) (.m b (rdO c o w ds) :: ρ) : R AV)
        | none => R.bad)
      | none => R.bad)
    | none => R.bad) = _
  rw [h1]
  simp only [h2, h3]
theorem pin_known {fk : Rho → R AV} (h1 : fk ρ1 = .ok (.d kd) (.m b (rdO c o w ds) :: ρ)) (h2 : keyM true kd = some k) : fPIn ⟨0, some "known"⟩ true "Road" false fk ρ1 = .ok (.d (.bool (getN ds k).isSome)) (.m b (rdO c o w ds) :: ρ) := by
  unfold fPIn
  rw [h1]
  show (match keyM true kd with
      | some k => (R.ok (AV.d (.bool (xor false (getN ds k).isSome))) (.m b (rdO c o w ds) :: ρ) : R AV)
      | none => R.bad) = _
  rw [h2]
  simp
theorem pput_known {fv : Rho → R AV} {y : Pd} (h1 : fv ρ1 = .ok (.d y) (.m b (rdO c o w ds) :: ρ)) (h3 : gk (.m b (rdO c o w ds) :: ρ) = some kd) (h2 : keyM true kd = some k) (hl : ds.length < sizeLine) : fPPut ⟨0, some "known"⟩ true "Road" gk fv ρ1 = .ok .nx (.m b (rdO c o w (putN ds kd k y)) :: ρ) := by
  unfold fPPut
  rw [h1]
  show (if true = true ∧ true = true ∧ ds.length < sizeLine then (match (gk (.m b (rdO c o w ds) :: ρ)) with
      | some kd => (match keyM true kd with
        | some k => (R.ok Fl.nx (.m b (rdO c o w (putN ds kd k y)) :: ρ) : R Fl)
        | none => R.bad)
      | none => R.bad) else R.bad) = _
  rw [if_pos ⟨rfl, rfl, hl⟩, h3]
  simp only [h2]
end
end Lw
namespace Lw
open PySem PySem.Spec L2 Evl Dt
open TL (tl joinL tl_join tl_ofString join_eq tl_append len_tl)
structure RdC (c : Code) (o : List Str) (w : Str) : Prop where
  s : SgOk c.s
  l : c.ws.length ≤ 100
  ws : ∀ x ∈ c.ws, x.Ok c.s
  oi : ∀ z ∈ o, z ∈ c.ns
  ol : o.length = c.ws.length
  wi : ∀ x ∈ tl w, x ∈ tl c.s
  wl : (tl w).length ≤ 50
def gxR (c : Code) (o : List Str) (w : Str) : Gx := { n := c.ws.length, ls := lsC c.s, len := (tl w).length, st := stP c.s w, sc := fun l s => c.ws.map fun x => cntW x l s.1 s.2, ec := fun l => c.ws.map fun x => endW x l, bh := bhd, rk := rkN c.ns o }
theorem sum_nn : ∀ {l : List Int}, (∀ x ∈ l, 0 ≤ x) → 0 ≤ l.sum
  | [], _ => Int.le_refl _
  | x :: l, h => by
    have h1 := h x (by simp)
    have h2 := sum_nn (l := l) fun y hy => h y (by simp [hy])
    rw [List.sum_cons]
    omega
theorem sg1_ne (x : Nat) : sg1 x ≠ E0 := fun h => by
  have : tl (sg1 x) = tl E0 := congrArg tl h
  have h1 : tl (sg1 x) = [x] := rfl
  have h2 : tl E0 = [] := by decide +kernel
  rw [h1, h2] at this
  cases this
theorem mem_stO {cs : List Nat} {s : Str × Str} (h : s ∈ stO cs) : (s.1 = E0 ∨ ∃ x ∈ cs, s.1 = sg1 x) ∧ (s.2 = E0 ∨ ∃ x ∈ cs, s.2 = sg1 x) ∧ ¬ (s.1 = E0 ∧ s.2 = E0) := by
  unfold stO at h
  rcases List.mem_append.mp h with h | h
  · obtain ⟨x, hx, rfl⟩ := List.mem_map.mp h
    exact ⟨.inl rfl, .inr ⟨x, hx, rfl⟩, fun z => sg1_ne x z.2⟩
  · obtain ⟨x, hx, h⟩ := List.mem_flatMap.mp h
    rcases List.mem_cons.mp h with rfl | h
    · exact ⟨.inr ⟨x, hx, rfl⟩, .inl rfl, fun z => sg1_ne x z.1⟩
    · obtain ⟨y, hy, rfl⟩ := List.mem_map.mp h
      exact ⟨.inr ⟨x, hx, rfl⟩, .inr ⟨y, hy, rfl⟩, fun z => sg1_ne x z.1⟩
theorem mem_stP {s w : Str} {p : Nat} {a : (Str × Str) × Nat} (h : a ∈ stP s w p) : a.1 ∈ stO (tl s) ∧ ((a.1.1 = E0 ∧ a.2 = 0) ∨ (a.1.1 ≠ E0 ∧ cutS w (some (p : Int)) (some ((p : Int) + 1)) = a.1.1 ∧ a.2 = 1)) := by
  unfold stP at h
  obtain ⟨x, hx, h⟩ := List.mem_filterMap.mp h
  unfold pickS at h
  by_cases q : x.1 = E0
  · rw [if_pos q] at h
    cases h
    exact ⟨hx, .inl ⟨q, rfl⟩⟩
  · rw [if_neg q] at h
    split at h
    · rename_i z
      cases h
      exact ⟨hx, .inr ⟨q, z, rfl⟩⟩
    · cases h
theorem tl_pc (w : Str) (p : Nat) : tl (cutS w (some (p : Int)) (some ((p : Int) + 1))) = ((tl w).drop p).take 1 := by
  rw [tl_mid w p (p + 1) (by omega) (by omega)]
  congr 1
  omega
theorem posN_le {ns : List Str} {z : Str} (h : z ∈ ns) : posN ns z < ns.length := (posN_some h).2
theorem getD_zip : ∀ (a b : List Int) (i : Nat), a.length = b.length → (addI a b).getD i 0 = a.getD i 0 + b.getD i 0
  | [], [], i, _ => by simp [addI]
  | x :: xs, y :: ys, 0, _ => by simp [addI]
  | x :: xs, y :: ys, i + 1, h => by
    have := getD_zip xs ys i (by simpa using h)
    simpa [addI] using this
  | [], _ :: _, _, h => by simp at h
  | _ :: _, [], _, h => by simp at h
theorem RdC.ok {c : Code} {o : List Str} {w : Str} (R : RdC c o w) : (gxR c o w).Ok := by
  have pt : ∀ x ∈ c.ws, ∀ p ∈ x.ps, 0 ≤ p.t := fun x hx p hp => by
    have := ((R.ws x hx).ps p hp).t1
    omega
  refine ⟨fun p l s t hl hs => ?_, fun p s t hp hs => ?_, fun l s => ⟨List.length_map .., fun x hx => ?_⟩, fun l => ⟨List.length_map .., fun x hx => ?_⟩, fun v hv => ⟨?_, fun x hx => ?_⟩, fun a b ha hb => ?_, fun p hp => ?_⟩
  · obtain ⟨h1, _⟩ := mem_stP hs
    obtain ⟨_, h2, _⟩ := mem_stO h1
    show bhd l s ∈ lsC c.s
    unfold bhd lsC
    split
    · exact hl
    · rcases h2 with z | ⟨x, hx, z⟩
      · contradiction
      · rw [z]
        exact List.mem_cons_of_mem _ (List.mem_map.mpr ⟨x, hx, rfl⟩)
  · obtain ⟨h1, h2⟩ := mem_stP hs
    rcases h2 with ⟨_, z⟩ | ⟨q, z, e⟩
    · have : t = 0 := z
      omega
    · have e : t = 1 := e
      subst e
      show p + 1 ≤ (tl w).length
      rcases Nat.lt_or_ge p (tl w).length with y | y
      · exact y
      · refine absurd ?_ q
        rw [← z]
        apply str_ext
        rw [tl_pc, List.drop_eq_nil_of_le y]
        decide +kernel
  · obtain ⟨y, hy, rfl⟩ := List.mem_map.mp hx
    refine sum_nn fun z hz => ?_
    obtain ⟨p, hp, rfl⟩ := List.mem_map.mp hz
    exact pt y hy p (List.mem_filter.mp hp).1
  · obtain ⟨y, hy, rfl⟩ := List.mem_map.mp hx
    refine sum_nn fun z hz => ?_
    obtain ⟨p, hp, rfl⟩ := List.mem_map.mp hz
    exact pt y hy p (List.mem_filter.mp hp).1
  · show (rkN c.ns o v).length = _
    unfold rkN
    rw [List.length_map]
    exact R.ol
  · obtain ⟨z, hz, rfl⟩ := List.mem_map.mp (show x ∈ o.map _ from hx)
    have hv : v.length = c.ws.length ∧ ∀ x ∈ v, 0 ≤ x := ⟨hv.ln, hv.nn⟩
    have hi := posN_le (R.oi z hz)
    have hi : posN c.ns z < v.length := by rw [hv.1]; simpa [Code.ns] using hi
    show 0 ≤ v.getD (posN c.ns z) 0
    rw [List.getD_eq_getElem?_getD, List.getElem?_eq_getElem hi]
    exact hv.2 _ (List.getElem_mem hi)
  · show rkN c.ns o (addI a b) = addI (rkN c.ns o a) (rkN c.ns o b)
    unfold rkN
    have hl : a.length = b.length := ha.ln.trans hb.ln.symm
    rw [show (fun z => (addI a b).getD (posN c.ns z) 0) = fun z => a.getD (posN c.ns z) 0 + b.getD (posN c.ns z) 0 from funext fun z => getD_zip a b _ hl]
    induction o with
    | nil => rfl
    | cons z o ih => simp [addI]
  · have hp : p < (tl w).length := hp
    have hx := R.wi _ (List.getElem_mem hp)
    refine ⟨(sg1 (tl w)[p], E0), ?_, fun l => (show bhd l (sg1 (tl w)[p], E0) = l from by unfold bhd; exact if_pos rfl)⟩
    show _ ∈ stP c.s w p
    unfold stP
    refine List.mem_filterMap.mpr ⟨(sg1 (tl w)[p], E0), ?_, ?_⟩
    · unfold stO
      exact List.mem_append.mpr (.inr (List.mem_flatMap.mpr ⟨_, hx, by simp⟩))
    · unfold pickS
      rw [if_neg (sg1_ne _), if_pos]
      apply str_ext
      rw [tl_pc, List.drop_eq_getElem_cons hp]
      rfl
def stOf : Option (Stt × Ky) → Pd
  | none => .none
  | some x => stD x.1
def thOf : Option (Stt × Ky) → Pd
  | none => .none
  | some x => kyD x.2
theorem enD_eq (cs : List Int) (e : Option (Stt × Ky)) : enD (cs, e) = .tuple [intV cs, stOf e, thOf e] := by cases e <;> rfl
section
variable {c : Code} {o : List Str} {w : Str}
abbrev rdE (c : Code) (o : List Str) (w : Str) (es : Es) : Mo := rdO c.d (ordD o) (.str w) (dsE es)
theorem ltE_ints (a b : List Int) : ltE (intV a) (intV b) = some (.bool (HT.lexLt a b)) := by
  show (match intsD _, intsD _ with | some ns, some ms => _ | _, _ => _) = _
  have : ∀ ns : List Int, intsD (ns.map PyData.int) = some ns := fun ns => by
    have := intsD_map (fun x : Int => x) ns
    simpa using this
  rw [this, this]
theorem m_offer (R : RdC c o w) {es : Es} (hl : es.length < 16777216) (hv : ∀ k e, getE es k = some e → e.1.length = c.ns.length) (k : Ky) {cs : List Int} (hcs : cs.length = c.ns.length) (e : Option (Stt × Ky)) :
    m_Road_offer [.m true (rdE c o w es), .d (kyD k), .d (intV cs), .d (stOf e), .d (thOf e)] = .ok (.d (.bool (off (gxR c o w) es k cs e).1)) [.m true (rdE c o w (off (gxR c o w) es k cs e).2), .d (kyD k), .d (intV cs), .d (stOf e), .d (thOf e)] := by
  unfold rdE
  have hol : o.length ≤ 1000 := by have := R.ol; have := R.l; omega
  have r1 : m_ranked [.d c.d, .d (ordD o), .d (intV cs)] = .ok (.d (intV (rkN c.ns o cs))) [.d c.d, .d (ordD o), .d (intV cs)] := m_ranked_ (c := c) (by have := R.l; omega) R.oi hol hcs
  have hd : (dsE es).length < sizeLine := by unfold dsE; rw [List.length_map]; exact hl
  have hput := putN_ds es k (cs, e)
  rw [enD_eq] at hput
  have kk := keyM_ky k
  have hg := getN_ds k es
  have hks : (getN (dsE es) (kyN k)).isSome = (getE es k).isSome := by rw [hg, Option.isSome_map]
  cases q : getE es k with
  | none =>
    have eo : off (gxR c o w) es k cs e = (true, putE es k (cs, e)) := by unfold off; rw [q]
    rw [eo]
    rw [q] at hks
    generalize c.d = cd at *
    generalize ordD o = od at *
    generalize intV cs = c1 at *
    generalize stOf e = s1 at *
    generalize thOf e = t1 at *
    generalize dsE es = ds at *
    generalize dsE (putE es k (cs, e)) = ds' at *
    generalize kyN k = kn at *
    generalize kyD k = kd at *
    have p1 : fPIn ⟨0, some "known"⟩ true "Road" false (fVar 1) [.m true (rdO cd od (.str w) ds), .d kd, .d c1, .d s1, .d t1, .no] = .ok (.d (.bool false)) [.m true (rdO cd od (.str w) ds), .d kd, .d c1, .d s1, .d t1, .no] := by
      rw [pin_known (by rfl) kk, hks]; rfl
    have p2 : fPPut ⟨0, some "known"⟩ true "Road" (gVar 1) (fTup (fCons (fVar 2) (fCons (fVar 3) (fCons (fVar 4) fNil)))) [.m true (rdO cd od (.str w) ds), .d kd, .d c1, .d s1, .d t1, .no] = .ok .nx [.m true (rdO cd od (.str w) ds'), .d kd, .d c1, .d s1, .d t1, .no] := by
      rw [pput_known (b := true) (c := cd) (o := od) (w := .str w) (ds := ds) (ρ := [.d kd, .d c1, .d s1, .d t1, .no]) (y := .tuple [c1, s1, t1]) (by simp [sizeLine]) (by rfl) kk hd, hput]
    simp [m_Road_offer, gM, w_Road_offer, p1, p2, endM, outsM]
  | some x =>
    have hx := hv _ _ q
    have r2 : m_ranked [.d c.d, .d (ordD o), .d (intV x.1)] = .ok (.d (intV (rkN c.ns o x.1))) [.d c.d, .d (ordD o), .d (intV x.1)] := m_ranked_ (c := c) (by have := R.l; omega) R.oi hol hx
    have lt := ltE_ints (rkN c.ns o cs) (rkN c.ns o x.1)
    have eo : off (gxR c o w) es k cs e = if HT.lexLt (rkN c.ns o cs) (rkN c.ns o x.1) = true then (true, putE es k (cs, e)) else (false, es) := by unfold off; rw [q]; rfl
    rw [q] at hks hg
    obtain ⟨xc, xe⟩ := x
    have hg : getN (dsE es) (kyN k) = some (.tuple [intV xc, stOf xe, thOf xe]) := by rw [hg, Option.map_some, enD_eq]
    have eo : off (gxR c o w) es k cs e = (HT.lexLt (rkN c.ns o cs) (rkN c.ns o xc), if HT.lexLt (rkN c.ns o cs) (rkN c.ns o xc) = true then putE es k (cs, e) else es) := by
      rw [eo]
      split
      · rename_i h; simp only at h; rw [h]
      · rename_i h; simp only at h; rw [Bool.eq_false_iff.mpr h]
    rw [eo]
    generalize stOf xe = s2 at *
    generalize thOf xe = t2 at *
    simp only at r2 lt hx
    have hds : dsE (if HT.lexLt (rkN c.ns o cs) (rkN c.ns o xc) = true then putE es k (cs, e) else es) = if HT.lexLt (rkN c.ns o cs) (rkN c.ns o xc) = true then dsE (putE es k (cs, e)) else dsE es := by split <;> rfl
    simp only [hds]
    clear hds eo
    generalize HT.lexLt (rkN c.ns o cs) (rkN c.ns o xc) = bb at *
    generalize intV (rkN c.ns o cs) = k1 at *
    generalize intV (rkN c.ns o xc) = k2 at *
    generalize intV cs = c1 at *
    generalize intV xc = c2 at *
    generalize c.d = cd at *
    generalize ordD o = od at *
    generalize stOf e = s1 at *
    generalize thOf e = t1 at *
    generalize dsE es = ds at *
    generalize dsE (putE es k (cs, e)) = ds' at *
    generalize kyN k = kn at *
    generalize kyD k = kd at *
    have p1 : fPIn ⟨0, some "known"⟩ true "Road" false (fVar 1) [.m true (rdO cd od (.str w) ds), .d kd, .d c1, .d s1, .d t1, .no] = .ok (.d (.bool true)) [.m true (rdO cd od (.str w) ds), .d kd, .d c1, .d s1, .d t1, .no] := by
      rw [pin_known (by rfl) kk, hks]; rfl
    have p2 : fPPut ⟨0, some "known"⟩ true "Road" (gVar 1) (fTup (fCons (fVar 2) (fCons (fVar 3) (fCons (fVar 4) fNil)))) [.m true (rdO cd od (.str w) ds), .d kd, .d c1, .d s1, .d t1, .d k2] = .ok .nx [.m true (rdO cd od (.str w) ds'), .d kd, .d c1, .d s1, .d t1, .d k2] := by
      rw [pput_known (b := true) (c := cd) (o := od) (w := .str w) (ds := ds) (ρ := [.d kd, .d c1, .d s1, .d t1, .d k2]) (y := .tuple [c1, s1, t1]) (by simp [sizeLine]) (by rfl) kk hd, hput]
    have p3 : fPGet ⟨0, some "known"⟩ true "Road" (gVar 1) [.m true (rdO cd od (.str w) ds), .d kd, .d c1, .d s1, .d t1, .no] = .ok (.d (.tuple [c2, s2, t2])) [.m true (rdO cd od (.str w) ds), .d kd, .d c1, .d s1, .d t1, .no] :=
      pget_known (by rfl) kk hg
    have i0 : ixD (.tuple [c2, s2, t2]) (.int 0) = some c2 := by
      show atI _ 0 = _
      exact at0 _ _
    cases bb with
    | true => simp [m_Road_offer, gM, w_Road_offer, p1, p2, p3, i0, r1, r2, lt, fld_code, fld_order, endM, outsM, put_eq]
    | false => simp [m_Road_offer, gM, w_Road_offer, p1, p2, p3, i0, r1, r2, lt, fld_code, fld_order, endM, outsM, put_eq]
end
end Lw
namespace Lw
open PySem PySem.Spec L2 Evl Dt
open TL (tl joinL tl_join tl_ofString join_eq tl_append len_tl)
theorem meth_at {b : Bool} {o o' : Mo} {ρ rest : Rho} {m : Str} {n : Nat} {g : Rho → Dt.R RV} {fa : Rho → Dt.R (List AV)} {as : List AV} {xs : List Pd} {x : Pd} (hm : okMeth 0 "Road" m (.m b o :: ρ) = true) (ha : fa (.m b o :: ρ) = .ok as (.m b o :: ρ)) (hx : argsD n as = some xs)
    (hg : g (.m true o :: xs.map Sl.d) = .ok (.d x) (.m true o' :: rest)) : fMeth n 0 "Road" m g fa (.m b o :: ρ) = .ok (.d x) (.m b o' :: ρ) := by
  unfold fMeth
  rw [if_pos hm, ha]
  show kMeth n 0 g (argsD n as) (.m b o :: ρ) = _
  rw [hx]
  show kBack 0 0 b (.m b o :: ρ) (g (.m true o :: xs.map Sl.d)) = _
  rw [hg]
  rfl
section
variable {c : Code} {o : List Str} {w : Str}
theorem Iv.cl (R : RdC c o w) {p : Nat} {es : Es} (iv : Iv (gxR c o w) p es) : es.length < 16777216 ∧ ∀ k e, getE es k = some e → e.1.length = c.ns.length := by
  constructor
  · have h1 := iv.small
    have h2 : (gxR c o w).len ≤ 50 := R.wl
    have h3 : (gxR c o w).ls.length ≤ 10 := by
      show (lsC c.s).length ≤ 10
      unfold lsC
      rw [List.length_cons, List.length_map]
      have := R.s.l3
      omega
    have : ((gxR c o w).len + 1) * (gxR c o w).ls.length ≤ 51 * 10 := Nat.mul_le_mul (by omega) h3
    omega
  · intro k e h
    rw [(iv.vs k e h).ln]
    simp [Code.ns, gxR]
theorem stepF_iv {g : Gx} (ok : g.Ok) {p : Nat} (hp : p ≤ g.len) {l : Str} (hl : l ∈ g.ls) {x : Bool × Es} (h1 : Iv g p x.2) {a : Stt × Nat} (ha : a ∈ g.st p) : Iv g p (stepF g p l x a).2 := by
  unfold stepF
  cases hy : getE x.2 (p + a.2, g.bh l a.1) with
  | none => exact h1
  | some y =>
    simp only
    have hv : Vec g.n (addI (g.sc l a.1) y.1) := (ok.sc l a.1).add (h1.vs _ _ hy)
    rcases off_cases g x.2 (p, l) (addI (g.sc l a.1) y.1) (some (a.1, (p + a.2, g.bh l a.1))) with ⟨e1, e2⟩ | ⟨e1, _⟩
    · rw [e1]
      exact h1.put ok ⟨Nat.le_refl _, hp, hl⟩ hv e2 (.inr ⟨a.1, a.2, y, rfl, ha, hy, rfl⟩)
    · rw [e1]
      exact h1
theorem settle_body (R : RdC c o w) {p : Nat} (hp : p ≤ (tl w).length) {l : Str} {x : Bool × Es} (iv : Iv (gxR c o w) p x.2) (a : Stt × Nat) (ha : a.2 ≤ 1) (ST : Pd) (t7 t8 : Sl) (h7 : isIo t7 = false) (h8 : isIo t8 = false) :
    ∃ t8', isIo t8' = false ∧ fb_Road_settle_2 [.m true (rdE c o w x.2), .d (.int p), .d ST, .d (.str l), .d (.bool x.1), .d (stD a.1), .d (.int a.2), t7, t8]
      = .ok .nx [.m true (rdE c o w (stepF (gxR c o w) p l x a).2), .d (.int p), .d ST, .d (.str l), .d (.bool (stepF (gxR c o w) p l x a).1), .d (stD a.1), .d (.int a.2), .d (kyD (p + a.2, bhd l a.1)), t8'] := by
  obtain ⟨xb, es⟩ := x
  obtain ⟨s, t⟩ := a
  obtain ⟨hl, hv⟩ := Iv.cl R iv
  simp only at iv hl hv ha ⊢
  have e1 := m_behind_ l s
  have hkd : PyData.tuple [.int ((p : Int) + (t : Int)), .str (bhd l s)] = kyD (p + t, bhd l s) := by
    show _ = PyData.tuple [.int ((p + t : Nat) : Int), .str (bhd l s)]
    rw [Int.natCast_add]
  have kk := keyM_ky (p + t, bhd l s)
  have hg := getN_ds (p + t, bhd l s) es
  have hks : (getN (dsE es) (kyN (p + t, bhd l s))).isSome = (getE es (p + t, bhd l s)).isSome := by rw [hg, Option.isSome_map]
  have pr : ((-4611686018427387904 : Int) ≤ (p : Int) ∧ (p : Int) < 4611686018427387904) ∧ (-4611686018427387904 : Int) ≤ (t : Int) ∧ (t : Int) < 4611686018427387904 := by
    have := R.wl
    omega
  unfold stepF
  cases q : getE es (p + t, bhd l s) with
  | none =>
    have q' : getE es (p + t, (gxR c o w).bh l s) = none := q
    simp only [q']
    refine ⟨t8, h8, ?_⟩
    unfold rdE
    rw [q] at hks
    generalize kyD (p + t, bhd l s) = kd at *
    generalize kyN (p + t, bhd l s) = kn at *
    generalize stD s = sd at *
    generalize c.d = cd at *
    generalize ordD o = od at *
    generalize dsE es = ds at *
    have p1 : fPIn ⟨0, some "known"⟩ true "Road" false (fVar 7) [.m true (rdO cd od (.str w) ds), .d (.int p), .d ST, .d (.str l), .d (.bool xb), .d sd, .d (.int t), .d kd, t8] = .ok (.d (.bool false)) [.m true (rdO cd od (.str w) ds), .d (.int p), .d ST, .d (.str l), .d (.bool xb), .d sd, .d (.int t), .d kd, t8] := by
      rw [pin_known (by rfl) kk, hks]; rfl
    simp [fb_Road_settle_2, e1, hkd, put_eq, h7, p1, sizeLine]
  | some y =>
    have q' : getE es (p + t, (gxR c o w).bh l s) = some y := q
    simp only [q']
    have hy := hv _ _ q
    have e2 : m_step_counts [.d c.d, .d (.str l), .d (stD s)] = .ok (.d (intV ((gxR c o w).sc l s))) [.d c.d, .d (.str l), .d (stD s)] := m_steps c R.l R.ws l s.1 s.2
    have hcl : ((gxR c o w).sc l s).length = c.ns.length := by
      show (c.ws.map _).length = (c.ws.map _).length
      rw [List.length_map, List.length_map]
    have e3 := m_added_ ((gxR c o w).sc l s) y.1 (by rw [hcl]; have := R.l; simp [Code.ns]; omega)
    have hal : (addI ((gxR c o w).sc l s) y.1).length = c.ns.length := by rw [List.length_zipWith, hcl, hy, Nat.min_self]
    have e4 := m_offer R hl hv (p, l) hal (some (s, (p + t, bhd l s)))
    have hst : stOf (some (s, (p + t, bhd l s))) = stD s := rfl
    have hth : thOf (some (s, (p + t, bhd l s))) = kyD (p + t, bhd l s) := rfl
    rw [hst, hth] at e4
    rw [q] at hks hg
    obtain ⟨yc, ye⟩ := y
    have hg : getN (dsE es) (kyN (p + t, bhd l s)) = some (.tuple [intV yc, stOf ye, thOf ye]) := by rw [hg, Option.map_some, enD_eq]
    simp only at e3 e4
    have hbh : (gxR c o w).bh l s = bhd l s := rfl
    rw [hbh]
    have hpl : PyData.tuple [.int (p : Int), .str l] = kyD (p, l) := rfl
    generalize off (gxR c o w) es (p, l) (addI ((gxR c o w).sc l s) yc) (some (s, (p + t, bhd l s))) = res at *
    obtain ⟨rb, res⟩ := res
    refine ⟨.d (intV (addI ((gxR c o w).sc l s) yc)), rfl, ?_⟩
    unfold rdE at e4 ⊢
    simp only at e4 ⊢
    generalize kyD (p + t, bhd l s) = kd at *
    generalize kyN (p + t, bhd l s) = kn at *
    generalize kyD (p, l) = kp at *
    generalize stOf ye = s2 at *
    generalize thOf ye = t2 at *
    generalize stD s = sd at *
    generalize c.d = cd at *
    generalize ordD o = od at *
    generalize intV (addI ((gxR c o w).sc l s) yc) = c3 at *
    generalize intV ((gxR c o w).sc l s) = c1 at *
    generalize intV yc = c2 at *
    generalize dsE es = ds at *
    generalize dsE res = ds' at *
    have p1 : fPIn ⟨0, some "known"⟩ true "Road" false (fVar 7) [.m true (rdO cd od (.str w) ds), .d (.int p), .d ST, .d (.str l), .d (.bool xb), .d sd, .d (.int t), .d kd, t8] = .ok (.d (.bool true)) [.m true (rdO cd od (.str w) ds), .d (.int p), .d ST, .d (.str l), .d (.bool xb), .d sd, .d (.int t), .d kd, t8] := by
      rw [pin_known (by rfl) kk, hks]; rfl
    have p3 : fPGet ⟨0, some "known"⟩ true "Road" (gVar 7) [.m true (rdO cd od (.str w) ds), .d (.int p), .d ST, .d (.str l), .d (.bool xb), .d sd, .d (.int t), .d kd, t8] = .ok (.d (.tuple [c2, s2, t2])) [.m true (rdO cd od (.str w) ds), .d (.int p), .d ST, .d (.str l), .d (.bool xb), .d sd, .d (.int t), .d kd, t8] :=
      pget_known (by rfl) kk hg
    have i0 : ixD (.tuple [c2, s2, t2]) (.int 0) = some c2 := by
      show atI _ 0 = _
      exact at0 _ _
    have p4 : fMeth 4 0 "Road" "offer" m_Road_offer (fCons (fTup (fCons (fVar 1) (fCons (fVar 3) fNil))) (fCons (fVar 8) (fCons (fVar 5) (fCons (fVar 7) fNil)))) [.m true (rdO cd od (.str w) ds), .d (.int p), .d ST, .d (.str l), .d (.bool xb), .d sd, .d (.int t), .d kd, .d c3]
        = .ok (.d (.bool rb)) [.m true (rdO cd od (.str w) ds'), .d (.int p), .d ST, .d (.str l), .d (.bool xb), .d sd, .d (.int t), .d kd, .d c3] :=
      meth_at (as := [.d kp, .d c3, .d sd, .d kd]) (xs := [kp, c3, sd, kd]) (by rfl) (by simp [hpl, sizeLine]) (by rfl) e4
    cases rb with
    | true => simp [fb_Road_settle_2, e1, e2, e3, hkd, put_eq, h7, h8, p1, p3, p4, i0, fld_code, sizeLine, kIfX]
    | false => simp [fb_Road_settle_2, e1, e2, e3, hkd, put_eq, h7, h8, p1, p3, p4, i0, fld_code, sizeLine, kIfX]
end
end Lw
namespace Lw
open PySem PySem.Spec L2 Evl Dt
open TL (tl joinL tl_join tl_ofString join_eq tl_append len_tl)
section
variable {c : Code} {o : List Str} {w : Str}
theorem settle_steps (R : RdC c o w) {p : Nat} (hp : p ≤ (tl w).length) {l : Str} (hl : l ∈ lsC c.s) {x : Bool × Es} (iv : Iv (gxR c o w) p x.2) (t5 t6 t7 t8 : Sl) (h5 : isIo t5 = false) (h6 : isIo t6 = false) (h7 : isIo t7 = false) (h8 : isIo t8 = false) :
    ∃ u5 u6 u7 u8, isIo u5 = false ∧ isIo u6 = false ∧ isIo u7 = false ∧ isIo u8 = false ∧ fb_Road_settle_1 [.m true (rdE c o w x.2), .d (.int p), .d (.list ((stP c.s w p).map stT)), .d (.str l), .d (.bool x.1), t5, t6, t7, t8]
      = .ok .nx [.m true (rdE c o w ((stP c.s w p).foldl (stepF (gxR c o w) p l) x).2), .d (.int p), .d (.list ((stP c.s w p).map stT)), .d (.str l), .d (.bool ((stP c.s w p).foldl (stepF (gxR c o w) p l) x).1), u5, u6, u7, u8] := by
  obtain ⟨ρ', f1, f2⟩ := for_foldI (h := putTup 2 (putCons (put 5) (putCons (put 6) putNil))) (fb := fb_Road_settle_2) stT
    (fun (x : Bool × Es) ρ => Iv (gxR c o w) p x.2 ∧ ∃ t5 t6 t7 t8, isIo t5 = false ∧ isIo t6 = false ∧ isIo t7 = false ∧ isIo t8 = false ∧ ρ = [.m true (rdE c o w x.2), .d (.int p), .d (.list ((stP c.s w p).map stT)), .d (.str l), .d (.bool x.1), t5, t6, t7, t8])
    (stepF (gxR c o w) p l) (xs := stP c.s w p) (fun x a ρ ha ⟨iv, t5, t6, t7, t8, h5, h6, h7, h8, e⟩ => by
      have ha1 : a.2 ≤ 1 := by
        rcases (mem_stP ha).2 with ⟨_, z⟩ | ⟨_, _, z⟩ <;> omega
      obtain ⟨t8', k8, eb⟩ := settle_body R hp (l := l) iv a ha1 (.list ((stP c.s w p).map stT)) t7 t8 h7 h8
      refine ⟨_, _, ?_, eb, stepF_iv R.ok hp hl iv ha, .d (stD a.1), .d (.int a.2), _, t8', rfl, rfl, rfl, k8, rfl⟩
      rw [e]
      generalize hS : PyData.list ((stP c.s w p).map stT) = ST
      have : stT a = .tuple [stD a.1, .int a.2] := rfl
      rw [this]
      generalize stD a.1 = sd
      simp [put_eq, h5, h6]) (b := x) (ρ := [.m true (rdE c o w x.2), .d (.int p), .d (.list ((stP c.s w p).map stT)), .d (.str l), .d (.bool x.1), t5, t6, t7, t8]) ⟨iv, t5, t6, t7, t8, h5, h6, h7, h8, rfl⟩
  obtain ⟨_, s5, s6, s7, s8, g5, g6, g7, g8, e⟩ := f2
  refine ⟨s5, s6, s7, s8, g5, g6, g7, g8, ?_⟩
  rw [← e]
  generalize (stP c.s w p).map stT = L at *
  simp [fb_Road_settle_1, f1]
theorem fold_iv {g : Gx} (ok : g.Ok) {p : Nat} (hp : p ≤ g.len) {l : Str} (hl : l ∈ g.ls) {x : Bool × Es} (h1 : Iv g p x.2) : Iv g p ((g.st p).foldl (stepF g p l) x).2 :=
  fold_keep (P := fun x : Bool × Es => Iv g p x.2) h1 fun _ _ ha h => stepF_iv ok hp hl h ha
theorem lsC_len (R : RdC c o w) : (tl c.s).length ≤ 1000 := by have := R.s.l3; omega
def TuR (c : Code) (o : List Str) (w : Str) (p : Nat) (x : Bool × Es) (ρ : Rho) : Prop := ∃ t3 t5 t6 t7 t8, isIo t3 = false ∧ isIo t5 = false ∧ isIo t6 = false ∧ isIo t7 = false ∧ isIo t8 = false ∧ ρ = [.m true (rdE c o w x.2), .d (.int p), .d (.list ((stP c.s w p).map stT)), t3, .d (.bool x.1), t5, t6, t7, t8]
theorem settle_turn (R : RdC c o w) {p : Nat} (hp : p ≤ (tl w).length) {x : Bool × Es} (iv : Iv (gxR c o w) p x.2) {ρ : Rho} (h : TuR c o w p x ρ) : ∃ ρ', wb_Road_settle_1 ρ = .ok .nx ρ' ∧ TuR c o w p (pass (gxR c o w) p (false, x.2)) ρ' := by
  obtain ⟨t3, t5, t6, t7, t8, h3, h5, h6, h7, h8, rfl⟩ := h
  obtain ⟨ρ', f1, f2⟩ := for_foldI (h := put 3) (fb := fb_Road_settle_1) PyData.str (fun (x : Bool × Es) ρ => Iv (gxR c o w) p x.2 ∧ TuR c o w p x ρ)
    (fun x l => (stP c.s w p).foldl (stepF (gxR c o w) p l) x) (xs := lsC c.s) (fun x l ρ hl ⟨iv, t3, t5, t6, t7, t8, h3, h5, h6, h7, h8, e⟩ => by
      obtain ⟨s5, s6, s7, s8, g5, g6, g7, g8, eb⟩ := settle_steps R hp hl iv t5 t6 t7 t8 h5 h6 h7 h8
      refine ⟨_, _, ?_, eb, fold_iv R.ok hp hl iv, .d (.str l), s5, s6, s7, s8, rfl, g5, g6, g7, g8, rfl⟩
      rw [e]
      generalize PyData.list ((stP c.s w p).map stT) = ST
      simp [put_eq, h3]) (b := (false, x.2)) (ρ := [.m true (rdE c o w x.2), .d (.int p), .d (.list ((stP c.s w p).map stT)), t3, .d (.bool false), t5, t6, t7, t8]) ⟨iv, t3, t5, t6, t7, t8, h3, h5, h6, h7, h8, rfl⟩
  refine ⟨ρ', ?_, f2.2⟩
  have el := m_lasts_ c (lsC_len R)
  unfold rdE at f1 ⊢
  generalize PyData.list ((stP c.s w p).map stT) = ST at *
  generalize (lsC c.s).map PyData.str = LS at *
  generalize c.d = cd at *
  generalize ordD o = od at *
  generalize dsE x.2 = ds at *
  simp [wb_Road_settle_1, put_eq, fld_code, el, f1]
theorem settle_while (R : RdC c o w) {p : Nat} (hp : p ≤ (tl w).length) {es es' : Es} (h : Lp (gxR c o w) p es es') : Iv (gxR c o w) p es → ∀ {ρ : Rho}, TuR c o w p (true, es) ρ → ∃ ρ', fWhile wc_Road_settle_1 wb_Road_settle_1 ρ = .ok .nx ρ' ∧ TuR c o w p (false, es') ρ' := by
  have wc : ∀ {x : Bool × Es} {ρ : Rho}, TuR c o w p x ρ → wc_Road_settle_1 ρ = .ok x.1 ρ := fun {x ρ} h => by
    obtain ⟨t3, t5, t6, t7, t8, h3, h5, h6, h7, h8, rfl⟩ := h
    generalize PyData.list ((stP c.s w p).map stT) = ST at *
    unfold rdE
    simp [wc_Road_settle_1]
  induction h with
  | stop hq =>
    intro iv ρ ht
    obtain ⟨ρ', e1, e2⟩ := settle_turn R hp (x := (true, _)) iv ht
    simp only [hq] at e2
    exact ⟨ρ', fWhile_go (wc ht) e1 (fWhile_no (wc e2)) (fun z => by cases z), e2⟩
  | @go es es1 es2 hq hl ih =>
    intro iv ρ ht
    obtain ⟨ρ', e1, e2⟩ := settle_turn R hp (x := (true, _)) iv ht
    simp only [hq] at e2
    have iv1 : Iv (gxR c o w) p es1 := by
      have := (pass_turn R.ok hp iv).1.iv
      rw [hq] at this
      exact this
    obtain ⟨ρ2, e3, e4⟩ := ih iv1 e2
    exact ⟨ρ2, fWhile_go (wc ht) e1 e3 (fun z => by cases z), e4⟩
theorem off_iv {g : Gx} (ok : g.Ok) {es : Es} (h1 : Iv g g.len es) {l : Str} (hl : l ∈ g.ls) : Iv g g.len (off g es (g.len, l) (g.ec l) none).2 := by
  rcases off_cases g es (g.len, l) (g.ec l) none with ⟨e1, e2⟩ | ⟨e1, _⟩
  · rw [e1]
    exact h1.put ok ⟨Nat.le_refl _, Nat.le_refl _, hl⟩ (ok.ec l) e2 (.inl ⟨rfl, rfl, rfl⟩)
  · rw [e1]
    exact h1
theorem settle_ends (R : RdC c o w) {es : Es} (iv : Iv (gxR c o w) (tl w).length es) (ST : Pd) : ∃ t3, isIo t3 = false ∧ forRun (put 3) fb_Road_settle_0 ((lsC c.s).map PyData.str) [.m true (rdE c o w es), .d (.int (tl w).length), .d ST, .no, .no, .no, .no, .no, .no]
    = .ok .nx [.m true (rdE c o w (endF (gxR c o w) es)), .d (.int (tl w).length), .d ST, t3, .no, .no, .no, .no, .no] := by
  obtain ⟨ρ', f1, f2⟩ := for_foldI (h := put 3) (fb := fb_Road_settle_0) PyData.str (fun (es : Es) ρ => Iv (gxR c o w) (tl w).length es ∧ ∃ t3, isIo t3 = false ∧ ρ = [.m true (rdE c o w es), .d (.int (tl w).length), .d ST, t3, .no, .no, .no, .no, .no])
    (fun es l => (off (gxR c o w) es ((tl w).length, l) ((gxR c o w).ec l) none).2) (xs := lsC c.s) (fun es l ρ hl ⟨iv, t3, h3, e⟩ => by
      subst e
      obtain ⟨el, hv⟩ := Iv.cl R iv
      have hcl : ((gxR c o w).ec l).length = c.ns.length := by
        show (c.ws.map _).length = (c.ws.map _).length
        rw [List.length_map, List.length_map]
      have e2 : m_end_counts [.d c.d, .d (.str l)] = .ok (.d (intV ((gxR c o w).ec l))) [.d c.d, .d (.str l)] := m_ends c R.l R.ws l
      have e4 := m_offer R el hv ((tl w).length, l) hcl none
      have hpl : PyData.tuple [.int ((tl w).length : Int), .str l] = kyD ((tl w).length, l) := rfl
      refine ⟨[.m true (rdE c o w es), .d (.int (tl w).length), .d ST, .d (.str l), .no, .no, .no, .no, .no], _, by simp [put_eq, h3], ?_, off_iv R.ok iv hl, .d (.str l), rfl, rfl⟩
      · have s0 : stOf none = .none := rfl
        have t0 : thOf none = .none := rfl
        rw [s0, t0] at e4
        generalize off (gxR c o w) es ((tl w).length, l) ((gxR c o w).ec l) none = res at *
        obtain ⟨rb, res⟩ := res
        unfold rdE at e4 ⊢
        simp only at e4 ⊢
        generalize kyD ((tl w).length, l) = kp at *
        generalize intV ((gxR c o w).ec l) = c1 at *
        generalize c.d = cd at *
        generalize ordD o = od at *
        generalize dsE es = ds at *
        generalize dsE res = ds' at *
        generalize ((tl w).length : Int) = wl at *
        have p4 : fMeth 4 0 "Road" "offer" m_Road_offer (fCons (fTup (fCons (fVar 1) (fCons (fVar 3) fNil))) (fCons (fCall 2 m_end_counts (fCons (fFld 0 "Road" "code") (fCons (fVar 3) fNil))) (fCons (fC .none) (fCons (fC .none) fNil)))) [.m true (rdO cd od (.str w) ds), .d (.int wl), .d ST, .d (.str l), .no, .no, .no, .no, .no]
            = .ok (.d (.bool rb)) [.m true (rdO cd od (.str w) ds'), .d (.int wl), .d ST, .d (.str l), .no, .no, .no, .no, .no] :=
          meth_at (as := [.d kp, .d c1, .d .none, .d .none]) (xs := [kp, c1, .none, .none]) (by rfl) (by simp [hpl, sizeLine, fld_code, e2]) (by rfl) e4
        simp [fb_Road_settle_0, p4, kDropX]) (b := es) (ρ := [.m true (rdE c o w es), .d (.int (tl w).length), .d ST, .no, .no, .no, .no, .no, .no]) ⟨iv, .no, rfl, rfl⟩
  obtain ⟨_, t3, h3, e⟩ := f2
  exact ⟨t3, h3, by rw [f1, e]; rfl⟩
theorem m_settle (R : RdC c o w) {p : Nat} (hp : p ≤ (tl w).length) {es es' : Es} (iv : Iv (gxR c o w) p es) (h : Lp (gxR c o w) p (if p = (tl w).length then endF (gxR c o w) es else es) es') :
    m_Road_settle [.m true (rdE c o w es), .d (.int p)] = .ok (.d .none) [.m true (rdE c o w es'), .d (.int p)] := by
  have e1 := m_steps_from_ c (by have := R.s.l3; omega) w (by have := R.wl; omega) p (by have := R.wl; omega)
  have el := m_lasts_ c (lsC_len R)
  have hwl : w.length = (tl w).length := len_tl w
  have hwz : w.length ≤ sizeLine := by have := R.wl; unfold sizeLine; omega
  have eqI : ∀ a b : Int, eqD (.int a) (.int b) = some (.bool (decide (a = b))) := fun a b => by simp
  have iv1 : Iv (gxR c o w) p (if p = (tl w).length then endF (gxR c o w) es else es) := by
    split
    · rename_i q
      subst q
      exact (endF_ok R.ok iv).1.iv
    · exact iv
  have mid : ∃ t3, isIo t3 = false ∧ fIfS (fTest (f2 eqD (fVar 1) (fCB lenD (fCons (fFld 0 "Road" "word") fNil)))) (fFor (fItT (fCall 1 m_lasts (fCons (fFld 0 "Road" "code") fNil))) (put 3) fb_Road_settle_0) fNx [.m true (rdE c o w es), .d (.int p), .d (.list ((stP c.s w p).map stT)), .no, .no, .no, .no, .no, .no]
      = .ok .nx [.m true (rdE c o w (if p = (tl w).length then endF (gxR c o w) es else es)), .d (.int p), .d (.list ((stP c.s w p).map stT)), t3, .no, .no, .no, .no, .no] := by
    by_cases q : p = (tl w).length
    · subst q
      obtain ⟨t3, h3, ef⟩ := settle_ends R iv (.list ((stP c.s w (tl w).length).map stT))
      refine ⟨t3, h3, ?_⟩
      rw [if_pos rfl]
      have eq' : eqD (.int ((tl w).length : Int)) (.int ((w.length : Nat) : Int)) = some (.bool true) := by rw [hwl, eqI, decide_eq_true rfl]
      generalize PyData.list ((stP c.s w (tl w).length).map stT) = ST at *
      generalize (lsC c.s).map PyData.str = LS at *
      unfold rdE at ef ⊢
      generalize dsE (endF (gxR c o w) es) = ds' at *
      generalize c.d = cd at *
      generalize ordD o = od at *
      generalize dsE es = ds at *
      generalize ((tl w).length : Int) = wl at *
      simp [fld_code, fld_word, el, ef, eq', hwz, -eqD_int]
    · refine ⟨.no, rfl, ?_⟩
      rw [if_neg q]
      have eq' : eqD (.int (p : Int)) (.int ((w.length : Nat) : Int)) = some (.bool false) := by
        rw [hwl, eqI, decide_eq_false (by omega)]
      generalize PyData.list ((stP c.s w p).map stT) = ST at *
      unfold rdE
      generalize c.d = cd at *
      generalize ordD o = od at *
      generalize dsE es = ds at *
      simp [fld_code, fld_word, eq', hwz, -eqD_int]
  obtain ⟨t3, h3, em⟩ := mid
  obtain ⟨ρ', w1, s3, s5, s6, s7, s8, g3, g5, g6, g7, g8, w2⟩ := settle_while R hp h iv1 (ρ := [.m true (rdE c o w (if p = (tl w).length then endF (gxR c o w) es else es)), .d (.int p), .d (.list ((stP c.s w p).map stT)), t3, .d (.bool true), .no, .no, .no, .no]) ⟨t3, .no, .no, .no, .no, h3, rfl, rfl, rfl, rfl, rfl⟩
  subst w2
  generalize (if p = (tl w).length then endF (gxR c o w) es else es) = es1 at *
  unfold rdE at *
  generalize PyData.list ((stP c.s w p).map stT) = ST at *
  generalize c.d = cd at *
  generalize ordD o = od at *
  generalize dsE es = ds at *
  generalize dsE es1 = ds1 at *
  generalize dsE es' = ds' at *
  simp only [m_Road_settle, gM, w_Road_settle]
  generalize fWhile wc_Road_settle_1 wb_Road_settle_1 = WH at *
  generalize fIfS (fTest (f2 eqD (fVar 1) (fCB lenD (fCons (fFld 0 "Road" "word") fNil)))) (fFor (fItT (fCall 1 m_lasts (fCons (fFld 0 "Road" "code") fNil))) (put 3) fb_Road_settle_0) fNx = MID at *
  simp [fld_code, fld_word, e1, em, w1, put_eq, h3, endM, outsM]
end
end Lw
namespace Lw
open PySem PySem.Spec L2 Evl Dt
open TL (tl joinL tl_join tl_ofString join_eq tl_append len_tl)
inductive Tr (es : Es) : Ky → List Stt → Prop
  | fin {k : Ky} {c : List Int} : getE es k = some (c, none) → Tr es k []
  | step {k : Ky} {c : List Int} {s : Stt} {th : Ky} {ts : List Stt} : getE es k = some (c, some (s, th)) → Tr es th ts → Tr es k (s :: ts)
theorem ends_tr {es : Es} {k : Ky} (h : Ends es k) : ∃ ts, Tr es k ts := by
  induction h with
  | fin h => exact ⟨[], .fin h⟩
  | step h _ ih =>
    obtain ⟨ts, h2⟩ := ih
    exact ⟨_, .step h h2⟩
theorem Tr.det {es : Es} {k : Ky} {ts us : List Stt} (h : Tr es k ts) : Tr es k us → ts = us := by
  induction h generalizing us with
  | fin h =>
    intro g
    cases g with
    | fin _ => rfl
    | step g _ => rw [h] at g; cases g
  | step h _ ih =>
    intro g
    cases g with
    | fin g => rw [h] at g; cases g
    | step g g2 =>
      rw [h] at g
      cases g
      rw [ih g2]
theorem Tr.keys {es : Es} {k : Ky} {ts : List Stt} (h : Tr es k ts) : ∃ ks : List Ky, ks.length = ts.length + 1 ∧ ks.Nodup ∧ ∀ y ∈ ks, y ∈ es.map (·.1) ∧ ∃ us, Tr es y us ∧ us.length ≤ ts.length := by
  have mem : ∀ {y : Ky} {e : En}, getE es y = some e → y ∈ es.map (·.1) := fun {y e} h => by
    unfold getE at h
    obtain ⟨x, hx, _⟩ := Option.map_eq_some_iff.mp h
    have h1 := List.mem_of_find?_eq_some hx
    have h2 : x.1 = y := by simpa using List.find?_some hx
    exact List.mem_map.mpr ⟨x, h1, h2⟩
  induction h with
  | @fin k c h =>
    refine ⟨[k], rfl, by simp, fun y hy => ?_⟩
    obtain rfl := List.mem_singleton.mp hy
    exact ⟨mem h, [], .fin h, Nat.le_refl _⟩
  | @step k c s th ts h h2 ih =>
    obtain ⟨ks, l1, l2, l3⟩ := ih
    refine ⟨k :: ks, by simp [l1], List.nodup_cons.mpr ⟨fun hk => ?_, l2⟩, fun y hy => ?_⟩
    · obtain ⟨_, us, u1, u2⟩ := l3 k hk
      have := (Tr.step h h2).det u1
      rw [← this, List.length_cons] at u2
      omega
    · rcases List.mem_cons.mp hy with rfl | hy
      · exact ⟨mem h, _, .step h h2, Nat.le_refl _⟩
      · obtain ⟨a1, us, u1, u2⟩ := l3 y hy
        exact ⟨a1, us, u1, by simp; omega⟩
section
variable {c : Code} {o : List Str} {w : Str}
theorem getK (es : Es) {k : Ky} {e : En} (h : getE es k = some e) : getN (dsE es) (kyN k) = some (.tuple [intV e.1, stOf e.2, thOf e.2]) := by
  rw [getN_ds, h, Option.map_some, ← enD_eq]
theorem fRng3_of {f : Rho → Dt.R (List AV)} {ρ ρ1 : Rho} {i j k : Int} {n : Nat} (e : f ρ = .ok [.d (.int i), .d (.int j), .d (.int k)] ρ1) (h : (-4611686018427387904 ≤ i ∧ i < 4611686018427387904) ∧ (-4611686018427387904 ≤ j ∧ j < 4611686018427387904) ∧ k ≠ 0 ∧ k.natAbs < 1073741824 ∧ Builtin.Range.small i j k = true)
    (hn : Builtin.Range.rangeSize i j k = (n : Int)) : fRng3 f ρ = .ok (numsC i k n) ρ1 := by
  unfold fRng3
  rw [e]
  simp only [Dt.R.bind]
  rw [if_pos ⟨h.1, h.2.1, h.2.2.1, h.2.2.2.1, h.2.2.2.2, by rw [hn]; omega⟩, hn]
  rfl
theorem rng_size (n : Nat) : Builtin.Range.rangeSize (n : Int) (-1) (-1) = (n : Int) + 1 := by
  unfold Builtin.Range.rangeSize
  simp
  omega
theorem nums_down (n : Nat) : numsC (n : Int) (-1) (n + 1) = (List.range (n + 1)).map fun (k : Nat) => PyData.int ((n : Int) - (k : Int)) := by
  unfold numsC
  apply List.map_congr_left
  intro k _
  show PyData.int _ = PyData.int _
  congr 1
  omega
theorem init_loop (R : RdC c o w) : ∃ es t, isIo t = false ∧ Dn (gxR c o w) 0 es ∧ forRun (put 4) fb_Road_init_0 (numsC ((tl w).length : Int) (-1) ((tl w).length + 1)) [.m true (rdE c o w []), .d c.d, .d (ordD o), .d (.str w), .no]
    = .ok .nx [.m true (rdE c o w es), .d c.d, .d (ordD o), .d (.str w), t] := by
  have key := for_inv (h := put 4) (fb := fb_Road_init_0) (fun i ρ => ∃ es t, isIo t = false ∧ (i = 0 → es = []) ∧ (0 < i → Dn (gxR c o w) ((tl w).length + 1 - i) es) ∧ ρ = [.m true (rdE c o w es), .d c.d, .d (ordD o), .d (.str w), t])
    (xs := numsC ((tl w).length : Int) (-1) ((tl w).length + 1)) (fun i x ρ hx ⟨es, t, ht, h0, h1, e⟩ => by
      rw [nums_down, List.getElem?_map] at hx
      have hi : i < (tl w).length + 1 := by
        rcases Nat.lt_or_ge i ((tl w).length + 1) with z | z
        · exact z
        · rw [List.getElem?_eq_none (by simpa using z)] at hx; cases hx
      rw [List.getElem?_range hi] at hx
      have hx : x = .int (((tl w).length - i : Nat) : Int) := by
        cases hx
        show PyData.int _ = PyData.int _
        congr 1
        omega
      subst hx e
      have hp : (tl w).length - i ≤ (tl w).length := Nat.sub_le _ _
      have one : ∃ es', m_Road_settle [.m true (rdE c o w es), .d (.int ((tl w).length - i : Nat))] = .ok (.d .none) [.m true (rdE c o w es'), .d (.int ((tl w).length - i : Nat))] ∧ Dn (gxR c o w) ((tl w).length - i) es' := by
        by_cases z : i = 0
        · subst z
          obtain rfl := h0 rfl
          obtain ⟨es', k1, k2⟩ := dn_last R.ok
          refine ⟨es', m_settle R hp (iv_nil _ _) ?_, k2⟩
          rw [if_pos (Nat.sub_zero _)]
          exact k1
        · have hd := h1 (by omega)
          have e1 : (tl w).length + 1 - i = ((tl w).length - i) + 1 := by omega
          rw [e1] at hd
          obtain ⟨es', k1, k2⟩ := dn_step R.ok hd (show (tl w).length - i < (tl w).length by omega)
          refine ⟨es', m_settle R hp (hd.iv.le (Nat.le_succ _)) ?_, k2⟩
          rw [if_neg (by omega)]
          exact k1
      obtain ⟨es', e1, e2⟩ := one
      refine ⟨[.m true (rdE c o w es), .d c.d, .d (ordD o), .d (.str w), .d (.int ((tl w).length - i : Nat))], _, by simp [put_eq, ht], .inl ?_, es', .d (.int ((tl w).length - i : Nat)), rfl, fun z => by omega, fun _ => by rw [Nat.add_sub_add_right]; exact e2, rfl⟩
      unfold rdE at e1 ⊢
      generalize c.d = cd at *
      generalize ordD o = od at *
      generalize dsE es = ds at *
      generalize dsE es' = ds' at *
      generalize (((tl w).length - i : Nat) : Int) = pl at *
      have p4 : fMeth 1 0 "Road" "settle" m_Road_settle (fCons (fVar 4) fNil) [.m true (rdO cd od (.str w) ds), .d cd, .d od, .d (.str w), .d (.int pl)] = .ok (.d .none) [.m true (rdO cd od (.str w) ds'), .d cd, .d od, .d (.str w), .d (.int pl)] :=
        meth_at (as := [.d (.int pl)]) (xs := [.int pl]) (by rfl) (by simp) (by rfl) e1
      simp [fb_Road_init_0, p4, kDropX]) (ρ := [.m true (rdE c o w []), .d c.d, .d (ordD o), .d (.str w), .no]) ⟨[], .no, rfl, fun _ => rfl, fun z => absurd z (by decide), rfl⟩
  obtain ⟨ρ', f1, es, t, ht, _, hd, e⟩ := key
  have hl : (numsC ((tl w).length : Int) (-1) ((tl w).length + 1)).length = (tl w).length + 1 := by rw [nums_down, List.length_map, List.length_range]
  rw [hl] at hd
  have hd := hd (Nat.succ_pos _)
  rw [Nat.sub_self] at hd
  exact ⟨es, t, ht, hd, by rw [f1, e]⟩
theorem m_init (R : RdC c o w) : ∃ es, Dn (gxR c o w) 0 es ∧ m_Road_init [.m true (.obj "Road" []), .d c.d, .d (ordD o), .d (.str w)] = .ok (.d .none) [.m true (rdE c o w es), .d c.d, .d (ordD o), .d (.str w)] := by
  obtain ⟨es, t, ht, hd, e⟩ := init_loop R
  refine ⟨es, hd, ?_⟩
  have hwl : w.length = (tl w).length := len_tl w
  have hwz : w.length ≤ sizeLine := by have := R.wl; unfold sizeLine; omega
  have h50 := R.wl
  have hr : fRng3 (fCons (fCB lenD (fCons (fVar 3) fNil)) (fCons (f1 negD (fC (.int 1))) (fCons (f1 negD (fC (.int 1))) fNil))) [.m true (rdE c o w []), .d c.d, .d (ordD o), .d (.str w), .no] = .ok (numsC ((tl w).length : Int) (-1) ((tl w).length + 1)) [.m true (rdE c o w []), .d c.d, .d (ordD o), .d (.str w), .no] := by
    have en : negD (.int 1) = some (.int (-1)) := rfl
    have e0 : (fCons (fCB lenD (fCons (fVar 3) fNil)) (fCons (f1 negD (fC (.int 1))) (fCons (f1 negD (fC (.int 1))) fNil))) [.m true (rdE c o w []), .d c.d, .d (ordD o), .d (.str w), .no] = .ok [.d (.int (w.length : Nat)), .d (.int (-1)), .d (.int (-1))] [.m true (rdE c o w []), .d c.d, .d (ordD o), .d (.str w), .no] := by
      simp [hwz, en]
    rw [hwl] at e0
    refine fRng3_of e0 ⟨by omega, by omega, by decide, by decide, ?_⟩ (by rw [rng_size]; omega)
    have fits : ∀ z : Int, -100 ≤ z → z ≤ 100 → Builtin.Range.rangeFitsLong z = true := fun z h1 h2 => by
      unfold Builtin.Range.rangeFitsLong
      rw [Bool.and_eq_true, decide_eq_true_iff, decide_eq_true_iff]
      omega
    unfold Builtin.Range.small
    rw [rng_size, fits _ (by omega) (by omega), fits (-1) (by decide) (by decide), fits _ (by omega) (by omega), if_neg (by decide), fits _ (by decide) (by decide)]
    simp
  have s1 : fFSetD 0 "Road" "code" (fVar 1) [.m true (.obj "Road" []), .d c.d, .d (ordD o), .d (.str w), .no] = .ok .nx [.m true (.obj "Road" [("code", .dat c.d)]), .d c.d, .d (ordD o), .d (.str w), .no] := rfl
  have s2 : fFSetD 0 "Road" "order" (fVar 2) [.m true (.obj "Road" [("code", .dat c.d)]), .d c.d, .d (ordD o), .d (.str w), .no] = .ok .nx [.m true (.obj "Road" [("code", .dat c.d), ("order", .dat (ordD o))]), .d c.d, .d (ordD o), .d (.str w), .no] := rfl
  have s3 : fFSetD 0 "Road" "word" (fVar 3) [.m true (.obj "Road" [("code", .dat c.d), ("order", .dat (ordD o))]), .d c.d, .d (ordD o), .d (.str w), .no] = .ok .nx [.m true (.obj "Road" [("code", .dat c.d), ("order", .dat (ordD o)), ("word", .dat (.str w))]), .d c.d, .d (ordD o), .d (.str w), .no] := rfl
  have s4 : fFSetM 0 "Road" "known" (fNewD true) [.m true (.obj "Road" [("code", .dat c.d), ("order", .dat (ordD o)), ("word", .dat (.str w))]), .d c.d, .d (ordD o), .d (.str w), .no] = .ok .nx [.m true (rdE c o w []), .d c.d, .d (ordD o), .d (.str w), .no] := rfl
  unfold rdE at *
  generalize numsC ((tl w).length : Int) (-1) ((tl w).length + 1) = L at *
  generalize c.d = cd at *
  generalize ordD o = od at *
  generalize dsE es = ds at *
  generalize dsE [] = d0 at *
  simp only [m_Road_init, gM, w_Road_init]
  generalize fRng3 (fCons (fCB lenD (fCons (fVar 3) fNil)) (fCons (f1 negD (fC (.int 1))) (fCons (f1 negD (fC (.int 1))) fNil))) = RG at *
  simp [s1, s2, s3, s4, hr, e, endM, outsM]
theorem m_counts_at {es : Es} {p : Nat} {l : Str} {x : En} (h : getE es (p, l) = some x) : m_Road_counts_at [.m true (rdE c o w es), .d (.int p), .d (.str l)] = .ok (.d (intV x.1)) [.m true (rdE c o w es), .d (.int p), .d (.str l)]
    ∧ s_Road_counts_at [.m true (rdE c o w es), .d (.int p), .d (.str l)] = .ok (.d (intV x.1)) [.m true (rdE c o w es), .d (.int p), .d (.str l)] := by
  have hg := getK es h
  have kk := keyM_ky (p, l)
  have i0 : ixD (.tuple [intV x.1, stOf x.2, thOf x.2]) (.int 0) = some (intV x.1) := by
    show atI _ 0 = _
    exact at0 _ _
  have gk : ∀ ρ : Rho, gTup' (gCons' (gVar 1) (gCons' (gVar 2) gNil)) (.m true (rdE c o w es) :: .d (.int p) :: .d (.str l) :: ρ) = some (kyD (p, l)) := fun ρ => rfl
  unfold rdE at *
  generalize kyD (p, l) = kd at *
  generalize kyN (p, l) = kn at *
  generalize PyData.tuple [intV x.1, stOf x.2, thOf x.2] = T at *
  generalize intV x.1 = c1 at *
  generalize c.d = cd at *
  generalize ordD o = od at *
  generalize dsE es = ds at *
  generalize (p : Int) = p' at *
  have p3 := pget_known (b := true) (c := cd) (o := od) (w := .str w) (gk []) kk hg
  constructor
  · simp [m_Road_counts_at, gM, w_Road_counts_at, p3, i0, endM, outsM]
  · simp [s_Road_counts_at, gS, p3, i0]
end
end Lw
namespace Lw
open PySem PySem.Spec L2 Evl Dt
open TL (tl joinL tl_join tl_ofString join_eq tl_append len_tl)
section
variable {c : Code}
theorem isWord_of {s w : Str} (h1 : ∀ x ∈ tl w, x ∈ tl s) (h2 : (tl w).length ≤ 8) : isWordD s (.str w) = true := by
  show (decide _ && decide _) = true
  rw [Bool.and_eq_true, decide_eq_true_iff, decide_eq_true_iff]
  have := len_tl w
  exact ⟨h1, by omega⟩
theorem m_checkw_ok {w : Str} (h1 : ∀ x ∈ tl w, x ∈ tl c.s) (h2 : (tl w).length ≤ 8) : m_check_word [.d c.d, .d (.str w), .d (.int 8)] = .ok (.d .none) [.d c.d, .d (.str w), .d (.int 8)] := by
  have hw := len_tl w
  have e1 := m_word c.s (.tuple (c.ws.map Wish.d)) (.str w) (by simp only [okP, decide_eq_true_eq]; omega)
  rw [isWord_of h1 h2] at e1
  have e2 : lenD [.str w] = some (.int (w.length : Nat)) := by
    have : w.length ≤ 16777216 := by omega
    simp [sizeLine, this]
  have e3 : gtD (.int (w.length : Nat)) (.int 8) = some (.bool false) := by
    show some (PyData.bool (decide _)) = _
    rw [decide_eq_false (by omega)]
  have hcd : cdW c.s (.tuple (c.ws.map Wish.d)) = c.d := rfl
  rw [hcd] at e1
  generalize c.d = cd at *
  generalize hlw : (w.length : Int) = lw at *
  simp [m_check_word, gOf, w_check_word, e1, e2, e3, -lenD_str]
variable {o : List Str} {w : Str}
theorem m_road (R : RdC c o w) (h : NsOk c.ns) (hp : o.Perm c.ns) (hw : (tl w).length ≤ 8) : ∃ es, Dn (gxR c o w) 0 es ∧ m_road_of [.d c.d, .d (ordD o), .d (.str w)] = .ok (.m (rdE c o w es)) [] := by
  obtain ⟨es, hd, e3⟩ := m_init R
  have hso : ∀ x ∈ o, PyData.strOk x = true := fun x hx => h.so x (hp.mem_iff.mp hx)
  have hol : o.length ≤ 5 := by rw [hp.length_eq]; exact h.l5
  have e1 := m_check_ok h (by have := R.l; omega) (ordD o) (by
    show (sh 60 (.tuple (o.map PyData.str)) && decide _) = true
    rw [Bool.and_eq_true]
    exact ⟨sh_strs hso 59, decide_eq_true (by rw [List.length_map]; omega)⟩) (by rw [ordOf_ord]; exact decide_eq_true (sortS_eq.mpr hp))
  have e2 := m_checkw_ok (c := c) R.wi hw
  refine ⟨es, hd, ?_⟩
  unfold rdE at *
  generalize c.d = cd at *
  generalize ordD o = od at *
  generalize dsE es = ds at *
  simp [m_road_of, gO, w_road_of, e1, e2, e3, endO]
theorem m_least_ok {es : Es} (er : m_road_of [.d c.d, .d (ordD o), .d (.str w)] = .ok (.m (rdE c o w es)) []) {x : En} (hx : getE es (0, S "#") = some x) : m_least [.d c.d, .d (ordD o), .d (.str w)] = .ok (.d (intV x.1)) [.d c.d, .d (ordD o), .d (.str w)] := by
  have e1 := (m_counts_at (c := c) (o := o) (w := w) hx).1
  have lk : lookM "counts_at" [("code", Mo.dat c.d), ("order", .dat (ordD o)), ("word", .dat (.str w)), ("known", .dct true (dsE es))] = none := rfl
  unfold rdE at *
  have hi : ((0 : Nat) : Int) = 0 := rfl
  rw [hi] at e1
  generalize intV x.1 = c1 at *
  generalize c.d = cd at *
  generalize ordD o = od at *
  generalize dsE es = ds at *
  simp [m_least, gOf, w_least, fCallO_ap, er, lk, e1]
end
end Lw
namespace Lw
open PySem PySem.Spec L2 Evl Dt
theorem lex_addR : ∀ {s a b : List Int}, s.length = a.length → s.length = b.length → HT.lexLt (addI s a) (addI s b) = true → HT.lexLt a b = true
  | [], [], [], _, _, h => by cases h
  | x :: xs, y :: ys, z :: zs, h1, h2, h => by
    have h : HT.lexLt ((x + y) :: addI xs ys) ((x + z) :: addI xs zs) = true := h
    rw [HT.lexLt_cons] at h ⊢
    by_cases e : y = z
    · subst e
      rw [if_pos rfl] at h ⊢
      exact lex_addR (by simpa using h1) (by simpa using h2) h
    · rw [if_neg (by omega)] at h
      rw [if_neg e]
      have := of_decide_eq_true h
      exact decide_eq_true (by omega)
  | [], _ :: _, _, hl, _, _ => by simp at hl
  | _ :: _, [], _, hl, _, _ => by simp at hl
  | [], [], _ :: _, _, hl, _ => by simp at hl
  | _ :: _, _ :: _, [], _, hl, _ => by simp at hl
section
variable {g : Gx}
theorem Gx.Ok.addR (ok : g.Ok) {s a b : List Int} (hs : Vec g.n s) (ha : Vec g.n a) (hb : Vec g.n b) (h : g.less (addI s a) (addI s b) = true) : g.less a b = true := by
  unfold Gx.less at *
  rw [ok.ra s a hs ha, ok.ra s b hs hb] at h
  exact lex_addR (by rw [(ok.rv s hs).ln, (ok.rv a ha).ln]) (by rw [(ok.rv s hs).ln, (ok.rv b hb).ln]) h
inductive Walk (g : Gx) : Nat → Str → List Stt → List Int → Prop
  | fin {l : Str} : l ∈ g.ls → Walk g g.len l [] (g.ec l)
  | step {p : Nat} {l : Str} {s : Stt} {t : Nat} {ts : List Stt} {c : List Int} : p ≤ g.len → l ∈ g.ls → (s, t) ∈ g.st p → Walk g (p + t) (g.bh l s) ts c → Walk g p l (s :: ts) (addI (g.sc l s) c)
theorem Walk.vec (ok : g.Ok) {p : Nat} {l : Str} {ts : List Stt} {c : List Int} (h : Walk g p l ts c) : Vec g.n c := by
  induction h with
  | fin _ => exact ok.ec _
  | step _ _ _ _ ih => exact (ok.sc _ _).add ih
theorem Walk.least (ok : g.Ok) {p0 : Nat} {es : Es} (d : Dn g p0 es) {p : Nat} {l : Str} {ts : List Stt} {c : List Int} (h : Walk g p l ts c) : p0 ≤ p → ∃ x, getE es (p, l) = some x ∧ g.less c x.1 = false := by
  induction h with
  | @fin l hl =>
    intro hp
    exact d.ce l hl
  | @step p l s t ts c hp hl hs hw ih =>
    intro h0
    obtain ⟨y, hy, hc⟩ := ih (by omega)
    obtain ⟨x, hx, hc2⟩ := d.cl p l (s, t) h0 hp hl hs y hy
    refine ⟨x, hx, Gx.ntr (b := addI (g.sc l s) y.1) ?_ hc2⟩
    cases z : g.less (addI (g.sc l s) c) (addI (g.sc l s) y.1) with
    | false => rfl
    | true =>
      rw [ok.addR (ok.sc l s) (hw.vec ok) (d.iv.vs _ _ hy) z] at hc
      cases hc
theorem tr_walk (ok : g.Ok) {p0 : Nat} {es : Es} (iv : Iv g p0 es) {k : Ky} {ts : List Stt} (h : Tr es k ts) : k.2 ∈ g.ls → ∃ c x, Walk g k.1 k.2 ts c ∧ getE es k = some x ∧ g.less x.1 c = false := by
  induction h with
  | @fin k c h =>
    intro hl
    obtain ⟨h1, h2⟩ := iv.fin _ _ h
    obtain ⟨k1, k2⟩ := k
    simp only at h1 h2 hl
    subst h1 h2
    exact ⟨_, _, .fin hl, h, Gx.irr _⟩
  | @step k c s th ts h h2 ih =>
    intro hl
    obtain ⟨t, c', o, q1, q2, q3, q4⟩ := iv.ed _ _ _ _ h
    obtain ⟨k1, k2⟩ := k
    simp only at q1 q2 q4 hl
    subst q2
    have hk := iv.ks (k1, k2) (by
      unfold getE at h
      obtain ⟨x, hx, _⟩ := Option.map_eq_some_iff.mp h
      have h1 := List.mem_of_find?_eq_some hx
      have h2 : x.1 = (k1, k2) := by simpa using List.find?_some hx
      exact List.mem_map.mpr ⟨x, h1, h2⟩)
    obtain ⟨cw, x, w1, w2, w3⟩ := ih (ok.bh k1 k2 s t hl q1)
    rw [q3] at w2
    cases w2
    refine ⟨_, _, .step hk.2.1 hl q1 w1, h, Gx.ntr (b := addI (g.sc k2 s) c') q4 ?_⟩
    cases z : g.less (addI (g.sc k2 s) c') (addI (g.sc k2 s) cw) with
    | false => rfl
    | true =>
      have := ok.addR (ok.sc k2 s) (iv.vs _ _ q3) (w1.vec ok) z
      rw [w3] at this
      cases this
end
end Lw
namespace Lw
open PySem PySem.Spec L2 Evl Dt
open TL (tl joinL tl_join tl_ofString join_eq tl_append len_tl)
theorem fSeq_nx {f g : Rho → R Fl} {ρ ρ1 : Rho} (h : f ρ = .ok .nx ρ1) : fSeq f g ρ = g ρ1 := by
  unfold fSeq
  rw [h]
end Lw
namespace Lw
open PySem PySem.Spec L2 Evl Dt
open TL (tl joinL tl_join tl_ofString join_eq tl_append len_tl)
def scC (c : Code) (l : Str) (s : Stt) : List Int := c.ws.map fun x => cntW x l s.1 s.2
def ecC (c : Code) (l : Str) : List Int := c.ws.map fun x => endW x l
end Lw
namespace Lw
open PySem PySem.Spec L2 Evl Dt
open TL (tl joinL tl_join tl_ofString join_eq tl_append len_tl)
section
variable {g : Gx}
structure Lst (g : Gx) (p : Nat) (l : Str) (v : List Int) : Prop where
  ex : ∃ ts, Walk g p l ts v
  le : ∀ ts c, Walk g p l ts c → g.less c v = false
def Gx.Inj (g : Gx) : Prop := ∀ a b, Vec g.n a → Vec g.n b → g.rk a = g.rk b → a = b
theorem Gx.tot (inj : g.Inj) {a b : List Int} (ha : Vec g.n a) (hb : Vec g.n b) (h1 : g.less a b = false) (h2 : g.less b a = false) : a = b := by
  rcases lex_tot (g.rk a) (g.rk b) with h | h | h
  · rw [show HT.lexLt (g.rk a) (g.rk b) = g.less a b from rfl, h1] at h; cases h
  · exact inj a b ha hb h
  · rw [show HT.lexLt (g.rk b) (g.rk a) = g.less b a from rfl, h2] at h; cases h
theorem getE_mem {es : Es} {k : Ky} {e : En} (h : getE es k = some e) : k ∈ es.map (·.1) := by
  unfold getE at h
  obtain ⟨x, hx, _⟩ := Option.map_eq_some_iff.mp h
  have h1 := List.mem_of_find?_eq_some hx
  have h2 : x.1 = k := by simpa using List.find?_some hx
  exact List.mem_map.mpr ⟨x, h1, h2⟩
theorem tr_exact (ok : g.Ok) (inj : g.Inj) {p0 : Nat} {es : Es} (d : Dn g p0 es) {k : Ky} {ts : List Stt} (h : Tr es k ts) : ∃ x, getE es k = some x ∧ Walk g k.1 k.2 ts x.1 := by
  have hk : ∃ e, getE es k = some e := by cases h <;> exact ⟨_, by assumption⟩
  obtain ⟨e, he⟩ := hk
  have hks := d.iv.ks k (getE_mem he)
  obtain ⟨c, x, w1, w2, w3⟩ := tr_walk ok d.iv h hks.2.2
  obtain ⟨y, y1, y2⟩ := w1.least ok d hks.1
  have y1 : getE es k = some y := y1
  rw [w2] at y1
  cases y1
  obtain rfl := Gx.tot inj (w1.vec ok) (d.iv.vs _ _ w2) y2 w3
  exact ⟨x, w2, w1⟩
theorem dn_lst (ok : g.Ok) (inj : g.Inj) {p0 : Nat} {es : Es} (d : Dn g p0 es) {p : Nat} {l : Str} {x : En} (hx : getE es (p, l) = some x) : Lst g p l x.1 := by
  obtain ⟨ts, ht⟩ := ends_tr (d.iv.en _ _ hx)
  obtain ⟨y, h1, h2⟩ := tr_exact ok inj d ht
  rw [hx] at h1
  cases h1
  refine ⟨⟨ts, h2⟩, fun us c hw => ?_⟩
  obtain ⟨z, h3, h4⟩ := hw.least ok d (d.iv.ks _ (getE_mem hx)).1
  rw [hx] at h3
  cases h3
  exact h4
end
section
variable {c : Code} {o : List Str} {w : Str}
theorem RdC.inj (hp : o.Perm c.ns) (hn : c.ns.Nodup) : (gxR c o w).Inj := by
  intro a b ha hb h
  have ha : a.length = c.ws.length := ha.ln
  have hb : b.length = c.ws.length := hb.ln
  have hl : c.ns.length = c.ws.length := List.length_map ..
  have h : (o.map fun z => a.getD (posN c.ns z) 0) = o.map fun z => b.getD (posN c.ns z) 0 := h
  refine List.ext_getElem (ha.trans hb.symm) fun i h1 h2 => ?_
  have hi : i < c.ns.length := by omega
  have hm : c.ns[i] ∈ o := hp.mem_iff.mpr (List.getElem_mem hi)
  have := List.map_inj_left.mp h _ hm
  have hpos : posN c.ns c.ns[i] = i := by
    have := (List.findIdx?_eq_some_iff_getElem.mp (posN_some (List.getElem_mem hi)).1)
    obtain ⟨q1, q2, _⟩ := this
    have q2 := of_decide_eq_true q2
    have pw := List.pairwise_iff_getElem.mp hn
    rcases Nat.lt_trichotomy (posN c.ns c.ns[i]) i with z | z | z
    · exact absurd q2 (pw _ _ q1 hi z)
    · exact z
    · exact absurd q2.symm (pw _ _ hi q1 z)
  rw [hpos] at this
  simpa [h1, h2] using this
end
end Lw
namespace Lw
open PySem PySem.Spec L2 Evl Dt
open TL (tl joinL tl_join tl_ofString join_eq tl_append len_tl)
theorem eqvAll_int2 : ∀ a b : List Int, PyData.eqvAll (a.map PyData.int) (b.map PyData.int) = decide (a = b)
  | [], [] => rfl
  | [], _ :: _ => rfl
  | _ :: _, [] => rfl
  | x :: a, y :: b => by
    have e : PyData.eqv (.int x) (.int y) = decide (x = y) := rfl
    simp only [List.map_cons, PyData.eqvAll, e, eqvAll_int2 a b]
    by_cases h : x = y <;> by_cases g : a = b <;> simp [h, g]
theorem sh_ints (a : List Int) (n : Nat) : sh (n + 1) (intV a) = true := by
  rw [sh_tuple, List.all_map, List.all_eq_true]
  intro c hc
  exact sh_int
end Lw
namespace Lw
open PySem PySem.Spec L2 Evl Dt
open TL (tl joinL tl_join tl_ofString join_eq tl_append len_tl)
theorem Code.Ok.rdc {m : Nat} {c : Code} (hc : c.Ok m) (hm : m ≤ 5) {o : List Str} (hp : o.Perm c.ns) {w : Str} (hw : ∀ x ∈ tl w, x ∈ tl c.s) (hwl : (tl w).length ≤ 8) : RdC c o w := by
  have hl : c.ws.length ≤ m := hc.lm
  exact ⟨hc.s, by omega, hc.ws, fun z hz => hp.mem_iff.mp hz, by rw [hp.length_eq]; simp [Code.ns], hw, by omega⟩
theorem edge_ls (s : Str) : S "#" ∈ lsC s := by unfold lsC; simp
end Lw
namespace Lw
open PySem PySem.Spec L2 Evl Dt
theorem fCallT_ok {n : Nat} {g : Rho → R RV} {fl : Rho → R (List Pd)} {fa : Rho → R (List AV)} {ρ ρ1 ρ2 as' : Rho} {as : List AV} {ps xs : List Pd} {x : Pd} (hl : fl ρ = .ok ps ρ1) (ha : fa ρ1 = .ok as ρ2) (hx : argsD n as = some xs) (hg : g (.own true ps :: xs.map Sl.d) = .ok (.d x) as') : fCallT n g fl fa ρ = .ok (.d x) ρ2 := by
  rw [fCallT_ap, hl]
  show (fa ρ1).bind _ = _
  rw [ha]
  show kCallT g ps (argsD n as) ρ2 = _
  rw [hx, kCallT_some, hg]
end Lw
namespace Lw
open PySem PySem.Spec L2 Evl Dt
open TL (tl joinL tl_join tl_ofString join_eq tl_append len_tl)
def updF (f : Str → List Int) (l : Str) (v : List Int) : Str → List Int := fun x => if x = l then v else f x
section
variable {L : List Str} {f : Str → List Int} {l : Str} {ρ ρ1 : Rho} {i j k : Nat}
end
end Lw
namespace Lw
open PySem PySem.Spec L2 Evl Dt
open TL (tl joinL tl_join tl_ofString join_eq tl_append len_tl)
section
variable {c : Code} {o : List Str} {w : Str} {P : Nat → Str → List Int}
inductive Ch (c : Code) (o : List Str) (w : Str) (P : Nat → Str → List Int) (p : Nat) : Str → Nat → Prop
  | fin {l : Str} : p = (tl w).length → P p l = ecC c l → Ch c o w P p l 0
  | tak {l : Str} {t : Stt} : (t, 1) ∈ stP c.s w p → P p l = addI (scC c l t) (P (p + 1) (bhd l t)) → Ch c o w P p l 0
  | add {l : Str} {t : Stt} {j : Nat} : (t, 0) ∈ stP c.s w p → P p l = addI (scC c l t) (P p (bhd l t)) → Ch c o w P p (bhd l t) j → Ch c o w P p l (j + 1)
def lesserC (c : Code) (o : List Str) (a b : List Int) : List Int := if HT.lexLt (rkN c.ns o b) (rkN c.ns o a) = true then b else a
end
end Lw
namespace Lw
open PySem PySem.Spec L2 Evl Dt
open TL (tl joinL tl_join tl_ofString join_eq tl_append len_tl)
structure ChS (d1 d2 d3 : Int) (s p q r b : Str) : Prop where
  s0 : atI [PyData.str (S "abc"), .str (S "bxy")] d1 = some (.str s)
  hs : SgOk s
  p0 : (chars s)[d2.toNat]? = some (.str p)
  q0 : ((chars s).eraseIdx d2.toNat)[d3.toNat]? = some (.str q)
  r0 : ((chars s).eraseIdx d2.toNat).eraseIdx d3.toNat = [.str r]
  pq : addD (.str p) (.str q) = some (.str (p ++ q))
  b0 : (sortedE [.str (p ++ q)]).bind (fun l => joinD (.str (Str.ofString "")) [.list l]) = some (.str b)
  eb : SetOf (S "#" ++ s) b
  sb : SetOf s b
  er : SetOf (S "#" ++ s) r
  eq : SetOf (S "#" ++ s) q
end Lw
namespace Lw
open PySem PySem.Spec L2 Evl Dt
open TL (tl joinL tl_join tl_ofString join_eq tl_append len_tl)
section
variable {c : Code} {o : List Str} {w : Str} {P : Nat → Str → List Int}
inductive PW (c : Code) (w : Str) : Nat → Str → List Int → Prop
  | beg : PW c w 0 (S "#") (List.replicate c.ws.length 0)
  | step {p k : Nat} {l : Str} {t : Stt} {v : List Int} : PW c w p l v → p ≤ (tl w).length → l ∈ lsC c.s → (t, k) ∈ stP c.s w p → PW c w (p + k) (bhd l t) (addI v (scC c l t))
theorem PW.vec (R : RdC c o w) {p : Nat} {l : Str} {v : List Int} (h : PW c w p l v) : Vec c.ws.length v := by
  induction h with
  | beg => exact ⟨by simp, fun x hx => by rw [(List.mem_replicate.mp hx).2]; exact Int.le_refl 0⟩
  | step h1 h2 h3 h4 ih => exact ih.add (R.ok.sc _ _)
def Tight (c : Code) (P : Nat → Str → List Int) (V : List Int) (p : Nat) (l : Str) (v : List Int) : Prop := addI v (P p l) = V
structure FwS (c : Code) (w : Str) (p : Nat) (x : List Str × (Str → List Int)) : Prop where
  nd : x.1.Nodup
  sub : ∀ l ∈ x.1, l ∈ lsC c.s
  pw : ∀ l ∈ x.1, PW c w p l (x.2 l)
def putF (c : Code) (o : List Str) (x : List Str × (Str → List Int)) (l : Str) (v : List Int) : List Str × (Str → List Int) :=
  if l ∈ x.1 then (x.1, updF x.2 l (lesserC c o (x.2 l) v)) else (x.1 ++ [l], updF x.2 l v)
def OnW (c : Code) (o : List Str) (w : Str) (P : Nat → Str → List Int) (V : List Int) (p : Nat) (x : List Str × (Str → List Int)) (j : Nat) : Prop := ∃ l ∈ x.1, ∃ i ≤ j, Tight c P V p l (x.2 l) ∧ Ch c o w P p l i
end
end Lw
namespace Lw
open PySem PySem.Spec L2 Evl Dt
open TL (tl joinL tl_join tl_ofString join_eq tl_append len_tl)
section
variable {c : Code} {o : List Str} {w : Str} {P : Nat → Str → List Int}
theorem lsC_len4 {s : Str} (hs : SgOk s) : (lsC s).length ≤ 4 := by
  unfold lsC
  rw [List.length_cons, List.length_map]
  have := hs.l3
  omega
theorem FwS.len {p : Nat} {x : List Str × (Str → List Int)} (h : FwS c w p x) (hs : SgOk c.s) : x.1.length ≤ 4 := Nat.le_trans (nodup_len h.nd h.sub) (lsC_len4 hs)
theorem FwS.vl (R : RdC c o w) {p : Nat} {x : List Str × (Str → List Int)} (h : FwS c w p x) {l : Str} (hl : l ∈ x.1) : (x.2 l).length = c.ns.length := by
  rw [((h.pw l hl).vec R).ln]
  exact (List.length_map ..).symm
end
end Lw
namespace Lw
open PySem PySem.Spec L2 Evl Dt
open TL (tl joinL tl_join tl_ofString join_eq tl_append len_tl)
section
variable {c : Code} {o : List Str} {w : Str} {P : Nat → Str → List Int}
structure RowI (c : Code) (o : List Str) (w : Str) (P : Nat → Str → List Int) (V : List Int) (p : Nat) (x : List Str × (Str → List Int)) : Prop where
  ok : FwS c w p x
  all : ∀ l ∈ lsC c.s, l ∈ x.1
  on : OnW c o w P V p x 0
end
end Lw
namespace Lw
open PySem PySem.Spec L2 Evl Dt
open TL (tl joinL tl_join tl_ofString join_eq tl_append len_tl)
section
variable {c : Code} {o : List Str} {w : Str} {P : Nat → Str → List Int}
end
end Lw
namespace Lw
open PySem PySem.Spec L2 Evl Dt
open TL (tl joinL tl_join tl_ofString join_eq tl_append len_tl)
theorem stepO_len (ns : List Str) (fs : List (List Str)) : (stepO ns fs).length ≤ fs.length * ns.length := by
  unfold stepO
  induction fs with
  | nil => simp
  | cons f fs ih =>
    rw [List.flatMap_cons, List.length_append, List.length_map, List.length_cons, Nat.succ_mul]
    have := List.length_filter_le (fun n => decide (n ∉ f)) ns
    omega
theorem notIn_ord (n : Str) (f : List Str) : notInD (.str n) (ordD f) = some (.bool (decide (n ∉ f))) := by
  have hf : (f.map PyData.str).all flatD = true := by
    rw [List.all_map]
    exact List.all_eq_true.mpr fun _ _ => rfl
  have e : inB (.str n) (ordD f) = some ((f.map PyData.str).any fun y => PyData.eqv y (.str n)) := by
    show (if flatD (.str n) = true ∧ (f.map PyData.str).all flatD = true then _ else _) = _
    rw [if_pos ⟨rfl, hf⟩]
  have e2 : ((f.map PyData.str).any fun y => PyData.eqv y (.str n)) = decide (n ∈ f) := by
    rw [List.any_map, Bool.eq_iff_iff, List.any_eq_true, decide_eq_true_eq]
    constructor
    · rintro ⟨y, hy, h⟩
      have h2 : PyData.eqv (.str y) (.str n) = true := h
      rw [eqv_str] at h2
      exact of_decide_eq_true h2 ▸ hy
    · intro h
      exact ⟨n, h, by show PyData.eqv (.str n) (.str n) = true; rw [eqv_str]; simp⟩
  unfold notInD
  rw [e, e2]
  by_cases h : n ∈ f <;> simp [h]
theorem add_ord (f : List Str) (n : Str) (h : f.length ≤ 1000) : addD (ordD f) (.tuple [.str n]) = some (ordD (f ++ [n])) := by
  show (if (f.map PyData.str).length + [PyData.str n].length ≤ sizeLine then some (PyData.tuple (f.map PyData.str ++ [.str n])) else none) = some (.tuple ((f ++ [n]).map PyData.str))
  rw [if_pos (by rw [List.length_map]; simp [sizeLine]; omega), List.map_append]
  rfl
theorem ao_one (cd : Pd) (ns : List Str) (h5 : ns.length ≤ 5) (F : Pd) (f : List Str) (hf : f.length ≤ 100) (acc : List Pd) (ha : acc.length ≤ 1000000) (s3 : Sl) :
    fb_all_orders_1 [.d cd, .d F, .d (.list (ns.map PyData.str)), s3, .own false acc, .d (ordD f), .no] =
      .ok .nx [.d cd, .d F, .d (.list (ns.map PyData.str)), s3, .own false (acc ++ ((ns.filter fun n => decide (n ∉ f)).map fun n => f ++ [n]).map ordD), .d (ordD f), .no] := by
  have key := lc_filterM (h := put 6) (ft := ct_all_orders_2) (fe := ce_all_orders_2) (vs := [6]) PyData.str (fun n => decide (n ∉ f)) (fun n => ordD (f ++ [n])) (ρ := [.d cd, .d F, .d (.list (ns.map PyData.str)), s3, .own false acc, .d (ordD f), .no]) (l := ns) (acc := []) (fun n hn => by
    have e1 := notIn_ord n f
    have e2 := add_ord f n (by omega)
    generalize ordD f = FD at *
    generalize ordD (f ++ [n]) = GD at *
    refine ⟨[.d cd, .d F, .d (.list (ns.map PyData.str)), s3, .own false acc, .d FD, .d (.str n)], [.d cd, .d F, .d (.list (ns.map PyData.str)), s3, .own false acc, .d FD, .d (.str n)], by simp [put_eq], ?_, fun _ => by simp, fun _ => ⟨[.d cd, .d F, .d (.list (ns.map PyData.str)), s3, .own false acc, .d FD, .d (.str n)], ?_, by simp⟩⟩
    · simp [ct_all_orders_2, e1]
    · simp [ce_all_orders_2, e2, sizeLine]) (by simp; omega)
  rw [List.nil_append] at key
  have hz : (ns.map PyData.str).length ≤ 16777216 := by rw [List.length_map]; omega
  have hz2 : ns.length ≤ 16777216 := by omega
  have hl : acc.length + ((ns.filter fun n => decide (n ∉ f)).map fun n => ordD (f ++ [n])).length ≤ 16777216 := by
    rw [List.length_map]
    have := List.length_filter_le (fun n => decide (n ∉ f)) ns
    omega
  rw [List.map_map]
  show _ = R.ok Fl.nx [.d cd, .d F, .d (.list (ns.map PyData.str)), s3, .own false (acc ++ (ns.filter fun n => decide (n ∉ f)).map fun n => ordD (f ++ [n])), .d (ordD f), .no]
  generalize ((ns.filter fun n => decide (n ∉ f)).map fun n => ordD (f ++ [n])) = G at *
  generalize ordD f = FD at *
  simp only [fb_all_orders_1, fExt_ap]
  simp [key, hl, sizeLine]
theorem ao_in (cd : Pd) (ns : List Str) (h5 : ns.length ≤ 5) (fs : List (List Str)) (hf : fs.length ≤ 4000) (hfl : ∀ f ∈ fs, f.length ≤ 100) (s3 s5 : Sl) (h : isIo s5 = false) :
    ∃ t5, isIo t5 = false ∧ forRun (put 5) fb_all_orders_1 (fs.map ordD) [.d cd, .d (.list (fs.map ordD)), .d (.list (ns.map PyData.str)), s3, .own false [], s5, .no] =
      .ok .nx [.d cd, .d (.list (fs.map ordD)), .d (.list (ns.map PyData.str)), s3, .own false ((stepO ns fs).map ordD), t5, .no] := by
  generalize hF : PyData.list (fs.map ordD) = F
  obtain ⟨ρ', e, t5, h5', rfl⟩ := for_inv (h := put 5) (fb := fb_all_orders_1) (xs := fs.map ordD) (ρ := [.d cd, .d F, .d (.list (ns.map PyData.str)), s3, .own false [], s5, .no])
    (fun i ρ => ∃ t5 : Sl, isIo t5 = false ∧ ρ = [.d cd, .d F, .d (.list (ns.map PyData.str)), s3, .own false ((stepO ns (fs.take i)).map ordD), t5, .no])
    (fun i x ρ hx hI => by
      obtain ⟨t5, ht, rfl⟩ := hI
      rw [List.getElem?_map] at hx
      obtain ⟨f, hf1, rfl⟩ := Option.map_eq_some_iff.mp hx
      have hm := List.mem_of_getElem? hf1
      have hl : ((stepO ns (fs.take i)).map ordD).length ≤ 1000000 := by
        rw [List.length_map]
        have h1 := stepO_len ns (fs.take i)
        have h2 : (fs.take i).length ≤ 4000 := by rw [List.length_take]; omega
        have h3 := Nat.mul_le_mul h2 h5
        omega
      refine ⟨[.d cd, .d F, .d (.list (ns.map PyData.str)), s3, .own false ((stepO ns (fs.take i)).map ordD), .d (ordD f), .no], _, by simp [put_eq, ht], .inl (ao_one cd ns h5 F f (hfl f hm) _ hl s3), .d (ordD f), rfl, ?_⟩
      have : stepO ns (fs.take (i + 1)) = stepO ns (fs.take i) ++ (ns.filter fun n => decide (n ∉ f)).map fun n => f ++ [n] := by
        unfold stepO
        rw [List.take_succ, hf1, List.flatMap_append]
        simp
      rw [this, List.map_append])
    ⟨s5, h, by simp [stepO]⟩
  rw [List.length_map, List.take_length] at e
  exact ⟨t5, h5', e⟩
theorem itO_small {ns : List Str} (h5 : ns.length ≤ 5) {k : Nat} (hk : k ≤ 5) : (itO ns k).length ≤ 3125 := by
  refine Nat.le_trans (itO_len k) (Nat.le_trans (Nat.pow_le_pow_left h5 k) (Nat.le_trans (Nat.pow_le_pow_right (by omega) hk) (by decide)))
theorem m_all_orders_ {c : Code} (h : NsOk c.ns) (hl : c.ws.length ≤ 1000) : m_all_orders [.d c.d] = .ok (.d (.tuple ((itO (sortS c.ns) c.ns.length).map ordD))) [.d c.d] := by
  have e1 := m_wish_names_ c hl
  have e2 : sortedT [ordD c.ns] = some ((sortS c.ns).map PyData.str) := by
    unfold ordD sortedT
    simp only
    rw [strsD_map]
    simp only
    rw [if_pos (by have := h.l5; omega)]
  have hsl : (sortS c.ns).length = c.ns.length := (sortS_perm c.ns).length_eq
  have hs5 : (sortS c.ns).length ≤ 5 := by rw [hsl]; exact h.l5
  generalize hN : sortS c.ns = ns at *
  generalize c.d = cd at *
  generalize ordD c.ns = od at *
  obtain ⟨ρ', e, t3, t4, t5, h3, h4, h5, rfl⟩ := for_inv (h := put 3) (fb := fb_all_orders_0) (xs := ns.map PyData.str) (ρ := [.d cd, .d (.list [.tuple []]), .d (.list (ns.map PyData.str)), .no, .no, .no, .no])
    (fun i ρ => ∃ t3 t4 t5 : Sl, isIo t3 = false ∧ isIo t4 = false ∧ isIo t5 = false ∧ ρ = [.d cd, .d (.list ((itO ns i).map ordD)), .d (.list (ns.map PyData.str)), t3, t4, t5, .no])
    (fun i x ρ hx hI => by
      obtain ⟨t3, t4, t5, h3, h4, h5, rfl⟩ := hI
      have hi : i < ns.length := by
        have := (List.getElem?_eq_some_iff.mp hx).1
        simpa using this
      have hsm := itO_small hs5 (k := i) (by omega)
      obtain ⟨u5, g5, e⟩ := ao_in cd ns hs5 (itO ns i) (by omega) (fun f hf => by rw [(mem_itO.mp hf).2.1]; omega) (.d x) t5 h5
      refine ⟨[.d cd, .d (.list ((itO ns i).map ordD)), .d (.list (ns.map PyData.str)), .d x, t4, t5, .no], _, by simp [put_eq, h3], .inl ?_, .d x, .d (.list ((itO ns (i + 1)).map ordD)), u5, rfl, rfl, g5, rfl⟩
      have hz : ((itO ns i).map ordD).length ≤ 16777216 := by rw [List.length_map]; omega
      have e' : stepO ns (itO ns i) = itO ns (i + 1) := rfl
      rw [e'] at e
      generalize (itO ns i).map ordD = A at *
      generalize (itO ns (i + 1)).map ordD = B at *
      simp [fb_all_orders_0, putOwn_eq, put_eq, h4, sizeLine, hz, e])
    ⟨.no, .no, .no, rfl, rfl, rfl, rfl⟩
  have hlen : (ns.map PyData.str).length = c.ns.length := by rw [List.length_map]; exact hsl
  rw [hlen] at e
  have hsm := itO_small hs5 (k := c.ns.length) h.l5
  have hz : ((itO ns c.ns.length).map ordD).length ≤ 16777216 := by rw [List.length_map]; omega
  have hz2 : (ns.map PyData.str).length ≤ 16777216 := by rw [hlen]; have := h.l5; omega
  generalize (itO ns c.ns.length).map ordD = B at *
  generalize ns.map PyData.str = NS at *
  simp [m_all_orders, gOf, w_all_orders, e1, e2, put_eq, e, sizeLine, hz, hz2]
end Lw
namespace Lw
open PySem PySem.Spec L2 Evl Dt
open TL (tl joinL tl_join tl_ofString join_eq tl_append len_tl)
def nkO (o : List Str) : NestedKey := .tup (o.map NestedKey.text)
theorem keysN_strs : ∀ o : List Str, keysN (o.map PyData.str) = some (o.map NestedKey.text)
  | [] => rfl
  | x :: o => by
    simp only [List.map_cons, keysN, keyN]
    rw [keysN_strs o]
theorem keyN_ord (o : List Str) : keyN (ordD o) = some (nkO o) := by
  show keyN (.tuple (o.map PyData.str)) = _
  simp only [keyN]
  rw [keysN_strs]
  rfl
theorem depth_texts : ∀ o : List Str, NestedKey.depthAll (o.map NestedKey.text) = 0
  | [] => by simp [NestedKey.depthAll]
  | x :: o => by simp [NestedKey.depthAll, NestedKey.depth, depth_texts o]
theorem keyM_ord (o : List Str) : keyM true (ordD o) = some (nkO o) := by
  have h := keyN_ord o
  have hd : (nkO o).depth ≤ 8 := by
    unfold nkO
    simp [NestedKey.depth, depth_texts]
  unfold keyM
  rw [if_pos rfl]
  show (match keyN (ordD o) with
      | some k => if k.depth ≤ 8 then some k else none
      | none => none) = _
  rw [h]
  exact if_pos hd
theorem texts_inj {a b : List Str} (h : a.map NestedKey.text = b.map NestedKey.text) : a = b := by
  induction a generalizing b with
  | nil => cases b with
    | nil => rfl
    | cons _ _ => simp at h
  | cons x a ih => cases b with
    | nil => simp at h
    | cons y b =>
      rw [List.map_cons, List.map_cons, List.cons.injEq] at h
      rw [ih h.2, NestedKey.text.inj h.1]
theorem nkO_inj {a b : List Str} (h : nkO a = nkO b) : a = b := texts_inj (NestedKey.tup.inj h)
def dsO (L : List (List Str)) (f : List Str → Pd) : List (Pd × Pd) := L.map fun o => (ordD o, f o)
theorem getN_dsO (f : List Str → Pd) (o : List Str) : ∀ L : List (List Str), getN (dsO L f) (nkO o) = if o ∈ L then some (f o) else none
  | [] => by simp [dsO, getN]
  | x :: L => by
    have ih := getN_dsO f o L
    by_cases h : x = o
    · subst h
      rw [if_pos (by simp)]
      exact getN_pos (p := (ordD x, f x)) (keyN_ord x)
    · have n : keyN ((ordD x, f x) : Pd × Pd).1 ≠ some (nkO o) := fun z => h (nkO_inj (Option.some.inj ((keyN_ord x).symm.trans z)))
      show getN ((ordD x, f x) :: dsO L f) _ = _
      rw [getN_neg n, ih]
      have : (o ∈ x :: L) = (o ∈ L) := by simp [show ¬ o = x from fun z => h z.symm]
      simp only [this]
theorem pairsN_dsO (f : List Str → Pd) : ∀ L : List (List Str), pairsN (L.map fun o => .tuple [ordD o, f o]) = some (L.map fun o => (nkO o, ordD o, f o))
  | [] => rfl
  | x :: L => by
    rw [List.map_cons]
    simp only [pairsN]
    rw [keyM_ord, pairsN_dsO f L]
    rfl
theorem nodup_nk {L : List (List Str)} (h : L.Nodup) : (L.map nkO).Nodup := List.Pairwise.map _ (fun a b z e => z (nkO_inj e)) h
theorem dictND_dsO {L : List (List Str)} (f : List Str → Pd) (h : L.Nodup) : dictND [.list (L.map fun o => .tuple [ordD o, f o])] = some (ndD (dsO L f)) := by
  unfold dictND
  simp only
  rw [pairsN_dsO]
  simp only
  rw [if_pos (by rw [List.map_map]; exact nodup_nk h), List.map_map]
  rfl
theorem ndget_dsO {L : List (List Str)} {f : List Str → Pd} {o : List Str} (h : o ∈ L) {ρ : Rho} : kNDGet (.d (ndD (dsO L f))) (.d (ordD o)) ρ = .ok (.d (f o)) ρ := by
  unfold kNDGet
  simp only [ndE_nd]
  rw [keyM_ord]
  simp only
  rw [getN_dsO, if_pos h]
theorem fNDGet_dsO {L : List (List Str)} {f : List Str → Pd} {o : List Str} {fd fk : Rho → R AV} {ρ ρ1 ρ2 : Rho} (hd : fd ρ = .ok (.d (ndD (dsO L f))) ρ1) (hk : fk ρ1 = .ok (.d (ordD o)) ρ2) (h : o ∈ L) : fNDGet fd fk ρ = .ok (.d (f o)) ρ2 := by
  unfold fNDGet
  rw [hd]
  show (fk ρ1).bind _ = _
  rw [hk]
  exact ndget_dsO h
theorem fItN_dsO {L : List (List Str)} {f : List Str → Pd} {fe : Rho → R AV} {ρ ρ1 : Rho} (h : fe ρ = .ok (.d (ndD (dsO L f))) ρ1) : fItN fe ρ = .ok (L.map ordD) ρ1 := by
  unfold fItN
  rw [h]
  show R.ok ((dsO L f).map (·.1)) ρ1 = _
  unfold dsO
  rw [List.map_map]
  rfl
theorem ints_inj {a b : List Int} (h : a.map PyData.int = b.map PyData.int) : a = b := by
  induction a generalizing b with
  | nil => cases b with
    | nil => rfl
    | cons _ _ => simp at h
  | cons x a ih => cases b with
    | nil => simp at h
    | cons y b =>
      rw [List.map_cons, List.map_cons, List.cons.injEq] at h
      rw [ih h.2, PyData.int.inj h.1]
theorem intV_inj {a b : List Int} (h : intV a = intV b) : a = b := ints_inj (PyData.tuple.inj h)
theorem lv_ex {m : Nat} {c : Code} (hc : c.Ok m) (hm : m ≤ 5) {o : List Str} (hp : o.Perm c.ns) {w : Str} (hw : ∀ x ∈ tl w, x ∈ tl c.s) (hwl : (tl w).length ≤ 8) :
    ∃ V : List Int, V.length = c.ns.length ∧ m_least [.d c.d, .d (ordD o), .d (.str w)] = .ok (.d (intV V)) [.d c.d, .d (ordD o), .d (.str w)] ∧ Lst (gxR c o w) 0 (S "#") V := by
  have hns := hc.nsOk hm
  have R := hc.rdc hm hp hw hwl
  have inj := RdC.inj (w := w) hp hns.nd
  obtain ⟨es, hd, er⟩ := m_road R hns hp hwl
  obtain ⟨x0, hx0⟩ := hd.kn 0 (S "#") (Nat.le_refl _) (Nat.zero_le _) (edge_ls c.s)
  have hl := dn_lst R.ok inj hd hx0
  have vV := hl.ex.choose_spec.vec R.ok
  have e1 : x0.1.length = c.ws.length := vV.ln
  exact ⟨x0.1, by rw [e1]; simp [Code.ns], m_least_ok er hx0, hl⟩
open Classical in
noncomputable def lv (c : Code) (o : List Str) (w : Str) : List Int := if h : ∃ V : List Int, m_least [.d c.d, .d (ordD o), .d (.str w)] = .ok (.d (intV V)) [.d c.d, .d (ordD o), .d (.str w)] then choose h else []
theorem lv_eq {c : Code} {o : List Str} {w : Str} {V : List Int} (h : m_least [.d c.d, .d (ordD o), .d (.str w)] = .ok (.d (intV V)) [.d c.d, .d (ordD o), .d (.str w)]) : lv c o w = V := by
  have hx : ∃ V : List Int, m_least [.d c.d, .d (ordD o), .d (.str w)] = .ok (.d (intV V)) [.d c.d, .d (ordD o), .d (.str w)] := ⟨V, h⟩
  unfold lv
  rw [dif_pos hx]
  have hs := h.symm.trans (Classical.choose_spec hx)
  injection hs with h1 _
  injection h1 with h1
  exact (intV_inj h1).symm
theorem lv_ok {m : Nat} {c : Code} (hc : c.Ok m) (hm : m ≤ 5) {o : List Str} (hp : o.Perm c.ns) {w : Str} (hw : ∀ x ∈ tl w, x ∈ tl c.s) (hwl : (tl w).length ≤ 8) :
    (lv c o w).length = c.ns.length ∧ m_least [.d c.d, .d (ordD o), .d (.str w)] = .ok (.d (intV (lv c o w))) [.d c.d, .d (ordD o), .d (.str w)] ∧ Lst (gxR c o w) 0 (S "#") (lv c o w) := by
  obtain ⟨V, h1, h2, h3⟩ := lv_ex hc hm hp hw hwl
  rw [lv_eq h2]
  exact ⟨h1, h2, h3⟩
theorem newN_nodup : ∀ (zs : List Str) (i : Nat), i ≤ zs.length → ((zs.take i).Nodup ↔ newN zs i = i)
  | zs, 0, _ => by simp [newN]
  | zs, i + 1, h => by
    have hi : i < zs.length := by omega
    have ih := newN_nodup zs i (by omega)
    have le := newN_le zs i
    have e : zs.take (i + 1) = zs.take i ++ [zs.getD i Str.empty] := by
      rw [List.take_add_one, List.getD_eq_getElem?_getD, List.getElem?_eq_getElem hi]
      rfl
    rw [e, List.nodup_append]
    unfold newN
    by_cases hm : zs.getD i Str.empty ∈ zs.take i
    · have hc : (zs.take i).any (· == zs.getD i Str.empty) = true := List.any_eq_true.mpr ⟨_, hm, by simp⟩
      rw [if_pos hc]
      constructor
      · intro ⟨_, _, h3⟩
        exact absurd rfl (h3 _ hm _ (by simp))
      · intro h; omega
    · have hc : ¬ ((zs.take i).any (· == zs.getD i Str.empty) = true) := by
        intro z
        obtain ⟨x, hx, hb⟩ := List.any_eq_true.mp z
        rw [eq_of_beq hb] at hx
        exact hm hx
      rw [if_neg hc]
      constructor
      · intro ⟨h1, _, _⟩
        rw [ih.mp h1]
      · intro h
        refine ⟨ih.mpr (by omega), by simp, fun a ha b hb => ?_⟩
        rw [List.mem_singleton.mp hb]
        intro eab
        exact hm (eab ▸ ha)
theorem newN_iff (zs : List Str) : newN zs zs.length = zs.length ↔ zs.Nodup := by
  have := newN_nodup zs zs.length (Nat.le_refl _)
  rw [List.take_length] at this
  exact this.symm
structure WdsOk (c : Code) (ws : List Str) : Prop where
  l1 : 1 ≤ ws.length
  l4 : ws.length ≤ 4
  nd : ws.Nodup
  sg : ∀ w ∈ ws, ∀ x ∈ tl w, x ∈ tl c.s
  ln : ∀ w ∈ ws, (tl w).length ≤ 4
def wdsD (ws : List Str) : Pd := .tuple (ws.map PyData.str)
theorem m_checkw4 {c : Code} {w : Str} (h1 : ∀ x ∈ tl w, x ∈ tl c.s) (h2 : (tl w).length ≤ 4) : m_check_word [.d c.d, .d (.str w), .d (.int 4)] = .ok (.d .none) [.d c.d, .d (.str w), .d (.int 4)] := by
  have hw := len_tl w
  have e1 := m_word c.s (.tuple (c.ws.map Wish.d)) (.str w) (by simp only [okP, decide_eq_true_eq]; omega)
  rw [isWord_of h1 (by omega)] at e1
  have e2 : lenD [.str w] = some (.int (w.length : Nat)) := by
    have : w.length ≤ 16777216 := by omega
    simp [sizeLine, this]
  have e3 : gtD (.int (w.length : Nat)) (.int 4) = some (.bool false) := by
    show some (PyData.bool (decide _)) = _
    rw [decide_eq_false (by omega)]
  have hcd : cdW c.s (.tuple (c.ws.map Wish.d)) = c.d := rfl
  rw [hcd] at e1
  generalize c.d = cd at *
  generalize hlw : (w.length : Int) = lw at *
  simp [m_check_word, gOf, w_check_word, e1, e2, e3, -lenD_str]
theorem m_check_words_ok {c : Code} {ws : List Str} (h : WdsOk c ws) : m_check_words [.d c.d, .d (wdsD ws)] = .ok (.d .none) [.d c.d, .d (wdsD ws)] := by
  have hz : (ws.map PyData.str).length ≤ 16777216 := by rw [List.length_map]; have := h.l4; omega
  have el : lenD [wdsD ws] = some (.int (ws.length : Int)) := by
    unfold wdsD
    simp only [lenD_tuple, sizeLine, List.length_map] at *
  have es : lenSetTu (wdsD ws) = some (.int (ws.length : Int)) := by
    unfold wdsD lenSetTu
    simp only
    rw [strsD_map]
    simp only
    rw [if_pos (by have := h.l4; omega), (newN_iff ws).mpr h.nd]
  have e1 : leD (.int 1) (.int (ws.length : Int)) = some (.bool true) := by
    show some (PyData.bool (decide _)) = _
    rw [decide_eq_true (by have := h.l1; omega)]
  have e4 : leD (.int (ws.length : Int)) (.int 4) = some (.bool true) := by
    show some (PyData.bool (decide _)) = _
    rw [decide_eq_true (by have := h.l4; omega)]
  have e5 : ltD (.int (ws.length : Int)) (.int (ws.length : Int)) = some (.bool false) := by
    show some (PyData.bool (decide _)) = _
    rw [decide_eq_false (by omega)]
  obtain ⟨ρ', e, t2, i2, rfl⟩ := for_inv (h := put 2) (fb := fb_check_words_0) (xs := ws.map PyData.str) (ρ := [.d c.d, .d (wdsD ws), .no])
    (fun i ρ => ∃ t2 : Sl, isIo t2 = false ∧ ρ = [.d c.d, .d (wdsD ws), t2])
    (fun i x ρ hx hI => by
      obtain ⟨t2, i2, rfl⟩ := hI
      rw [List.getElem?_map] at hx
      obtain ⟨w, hw1, rfl⟩ := Option.map_eq_some_iff.mp hx
      have hm := List.mem_of_getElem? hw1
      have ec := m_checkw4 (c := c) (h.sg w hm) (h.ln w hm)
      generalize c.d = cd at *
      generalize wdsD ws = WD at *
      exact ⟨[.d cd, .d WD, .d (.str w)], [.d cd, .d WD, .d (.str w)], by simp [put_eq, i2], .inl (by simp [fb_check_words_0, ec]), _, rfl, rfl⟩)
    ⟨.no, rfl, rfl⟩
  have it : fItT (fVar 1) [.d c.d, .d (wdsD ws), .no] = .ok (ws.map PyData.str) [.d c.d, .d (wdsD ws), .no] := rfl
  have ist : isiD "tuple" (wdsD ws) = some (.bool true) := by
    unfold wdsD
    simp [isTupD]
  generalize c.d = cd at *
  generalize ws.map PyData.str = XS at *
  generalize wdsD ws = WD at *
  generalize (ws.length : Int) = LN at *
  have s1 : ∀ fr : Rho → R Fl, fIfS (fOr (fNot (fTest (f1 (isiD "tuple") (fVar 1)))) (fNot (fTest (fChain leD leD (fC (.int 1)) (fCB lenD (fCons (fVar 1) fNil)) (fC (.int 4)))))) fr fNx [.d cd, .d WD, .no] = .ok .nx [.d cd, .d WD, .no] := by
    intro fr
    generalize leD = ld at *
    generalize isiD = isi at *
    simp [ist, el, e1, e4]
  have s2 : fFor (fItT (fVar 1)) (put 2) fb_check_words_0 [.d cd, .d WD, .no] = .ok .nx [.d cd, .d WD, t2] := by
    rw [fFor_ap, it]
    exact e
  have s3 : ∀ fr : Rho → R Fl, fIfS (fTest (f2 ltD (f1 lenSetTu (fVar 1)) (fCB lenD (fCons (fVar 1) fNil)))) fr fNx [.d cd, .d WD, t2] = .ok .nx [.d cd, .d WD, t2] := by
    intro fr
    generalize ltD = ld at *
    generalize lenSetTu = ls at *
    simp [es, el, e5]
  have ew : w_check_words [.d cd, .d WD, .no] = .ok .nx [.d cd, .d WD, t2] := by
    unfold w_check_words
    rw [fSeq_nx (s1 _), fSeq_nx s2]
    exact s3 _
  show Dt.endF _ (w_check_words [.d cd, .d WD, .no]) = _
  rw [ew]
  rfl
end Lw
namespace Lw
open PySem PySem.Spec L2 Evl Dt
open TL (tl joinL tl_join tl_ofString join_eq tl_append len_tl)
noncomputable def resD (c : Code) (ws : List Str) (o : List Str) : Pd := .tuple (ws.map fun w => intV (lv c o w))
def ordsOf (c : Code) : List (List Str) := itO (sortS c.ns) c.ns.length
theorem ords_perm {c : Code} (h : c.ns.Nodup) {o : List Str} : o ∈ ordsOf c ↔ o.Perm c.ns := by
  unfold ordsOf
  have hp := sortS_perm c.ns
  rw [mem_itO, ← itO_perm h, mem_itO]
  constructor
  · rintro ⟨h1, h2, h3⟩
    exact ⟨h1, h2, fun x hx => hp.mem_iff.mp (h3 x hx)⟩
  · rintro ⟨h1, h2, h3⟩
    exact ⟨h1, h2, fun x hx => hp.mem_iff.mpr (h3 x hx)⟩
theorem ords_nodup {c : Code} (h : c.ns.Nodup) : (ordsOf c).Nodup := nodup_itO ((sortS_perm c.ns).nodup_iff.mpr h) _
theorem ords_small {c : Code} (h : NsOk c.ns) : (ordsOf c).length ≤ 3125 := itO_small (by rw [(sortS_perm c.ns).length_eq]; exact h.l5) h.l5
theorem m_results {m : Nat} {c : Code} (hc : c.Ok m) (hm : m ≤ 5) {ws : List Str} (h : WdsOk c ws) : m_results_by_order [.d c.d, .d (wdsD ws)] = .ok (.d (ndD (dsO (ordsOf c) (resD c ws)))) [.d c.d, .d (wdsD ws)] := by
  have hns := hc.nsOk hm
  have e0 := m_check_words_ok h
  have e1 : m_all_orders [.d c.d] = .ok (.d (.tuple ((ordsOf c).map ordD))) [.d c.d] := m_all_orders_ hns (by have := hc.lm; omega)
  have hsm := ords_small hns
  have key := lc_mapM (h := put 2) (fe := ce_results_by_order_1) (vs := [2]) ordD (fun o => .tuple [ordD o, resD c ws o]) (ρ := [.d c.d, .d (wdsD ws), .no, .no]) (l := ordsOf c) (fun o ho => by
    have hp := (ords_perm hns.nd).mp ho
    have k2 := lc_mapM (h := put 3) (fe := ce_results_by_order_0) (vs := [3]) PyData.str (fun w => intV (lv c o w)) (ρ := [.d c.d, .d (wdsD ws), .d (ordD o), .no]) (l := ws) (fun w hw => by
      have el := (lv_ok hc hm hp (h.sg w hw) (by have := h.ln w hw; omega)).2.1
      generalize intV (lv c o w) = V at *
      generalize c.d = cd at *
      generalize wdsD ws = WD at *
      generalize ordD o = od at *
      exact ⟨[.d cd, .d WD, .d od, .d (.str w)], [.d cd, .d WD, .d od, .d (.str w)], by simp [put_eq], by simp [ce_results_by_order_0, el], by simp⟩) (by have := h.l4; omega)
    have it : fItT (fVar 1) [.d c.d, .d (wdsD ws), .d (ordD o), .no] = .ok (ws.map PyData.str) [.d c.d, .d (wdsD ws), .d (ordD o), .no] := rfl
    have hz : (ws.map fun w => intV (lv c o w)).length ≤ 16777216 := by rw [List.length_map]; have := h.l4; omega
    have hr : resD c ws o = .tuple (ws.map fun w => intV (lv c o w)) := rfl
    rw [hr]
    generalize ws.map (fun w => intV (lv c o w)) = RS at *
    generalize ws.map PyData.str = XS at *
    generalize c.d = cd at *
    generalize wdsD ws = WD at *
    generalize ordD o = od at *
    refine ⟨[.d cd, .d WD, .d od, .no], [.d cd, .d WD, .d od, .no], by simp [put_eq], ?_, by simp⟩
    have q : fLc (fItT (fVar 1)) (put 3) (fun ρ => .ok true ρ) ce_results_by_order_0 [3] [.d cd, .d WD, .d od, .no] = .ok RS [.d cd, .d WD, .d od, .no] := by
      rw [fLc_ap, it]
      exact k2
    unfold ce_results_by_order_1
    generalize fLc (fItT (fVar 1)) (put 3) (fun ρ => .ok true ρ) ce_results_by_order_0 [3] = g at *
    simp [q, hz, sizeLine]) (by omega)
  have ed := dictND_dsO (resD c ws) (ords_nodup hns.nd)
  have hz : ((ordsOf c).map ordD).length ≤ 16777216 := by rw [List.length_map]; omega
  generalize ndD (dsO (ordsOf c) (resD c ws)) = ND at *
  generalize (ordsOf c).map (fun o => PyData.tuple [ordD o, resD c ws o]) = PS at *
  generalize (ordsOf c).map ordD = OS at *
  generalize c.d = cd at *
  generalize wdsD ws = WD at *
  have s1 : fDrop (fCall 2 m_check_words (fCons (fVar 0) (fCons (fVar 1) fNil))) [.d cd, .d WD, .no, .no] = .ok .nx [.d cd, .d WD, .no, .no] := by
    simp [e0]
  have q : fLc (fItT (fCall 1 m_all_orders (fCons (fVar 0) fNil))) (put 2) (fun ρ => .ok true ρ) ce_results_by_order_1 [2] [.d cd, .d WD, .no, .no] = .ok PS [.d cd, .d WD, .no, .no] := by
    have it : fItT (fCall 1 m_all_orders (fCons (fVar 0) fNil)) [.d cd, .d WD, .no, .no] = .ok OS [.d cd, .d WD, .no, .no] := by
      simp [e1]
    rw [fLc_ap, it]
    exact key
  have s2 : fRet (fCB dictND (fCons (fL (fLc (fItT (fCall 1 m_all_orders (fCons (fVar 0) fNil))) (put 2) (fun ρ => .ok true ρ) ce_results_by_order_1 [2])) fNil)) [.d cd, .d WD, .no, .no] = .ok (.rt ND) [.d cd, .d WD, .no, .no] := by
    generalize fLc (fItT (fCall 1 m_all_orders (fCons (fVar 0) fNil))) (put 2) (fun ρ => .ok true ρ) ce_results_by_order_1 [2] = g at *
    generalize dictND = dn at *
    simp [q, ed]
  have ew : w_results_by_order [.d cd, .d WD, .no, .no] = .ok (.rt ND) [.d cd, .d WD, .no, .no] := by
    unfold w_results_by_order
    rw [fSeq_nx s1]
    exact s2
  show Dt.endF _ (w_results_by_order [.d cd, .d WD, .no, .no]) = _
  rw [ew]
  rfl
end Lw
namespace Lw
open PySem PySem.Spec L2 Evl Dt
open TL (tl joinL tl_join tl_ofString join_eq tl_append len_tl)
end Lw
namespace Lw
open PySem PySem.Spec L2 Evl Dt
open TL (tl joinL tl_join tl_ofString join_eq tl_append len_tl)
noncomputable def gL (c : Code) (ws : List Str) (o : List Str) : List (List Int) := ws.map fun w => lv c o w
def gD (L : List (List Int)) : Pd := .tuple (L.map intV)
theorem resD_g (c : Code) (ws : List Str) (o : List Str) : resD c ws o = gD (gL c ws o) := by
  unfold resD gD gL
  rw [List.map_map]
  rfl
theorem eqv_intV (a b : List Int) : PyData.eqv (intV a) (intV b) = decide (a = b) := eqvAll_int2 a b
theorem eqvAll_g : ∀ a b : List (List Int), PyData.eqvAll (a.map intV) (b.map intV) = decide (a = b)
  | [], [] => rfl
  | [], _ :: _ => rfl
  | _ :: _, [] => rfl
  | x :: a, y :: b => by
    have e := eqv_intV x y
    simp only [List.map_cons, PyData.eqvAll, e, eqvAll_g a b]
    by_cases h : x = y <;> by_cases g : a = b <;> simp [h, g]
theorem eqv_g (a b : List (List Int)) : PyData.eqv (gD a) (gD b) = decide (a = b) := eqvAll_g a b
theorem sh_g (a : List (List Int)) (n : Nat) : sh (n + 2) (gD a) = true := by
  show (a.map intV).all (sh (n + 1)) = true
  rw [List.all_map]
  exact List.all_eq_true.mpr fun x _ => sh_ints x n
theorem gD_inj {a b : List (List Int)} (h : gD a = gD b) : a = b := by
  have e := eqv_g a b
  rw [h, eqv_g] at e
  simpa using e.symm
theorem neD_g (a b : List (List Int)) : neD (gD a) (gD b) = some (.bool (!decide (a = b))) := by
  show (eqB (.tuple _) (.tuple _)).map _ = _
  rw [eqB_tuple, if_pos ⟨sh_g a 58, sh_g b 58⟩, eqvAll_g]
  rfl
def updO (f : List Str → Pd) (r : List Str) (v : Pd) : List Str → Pd := fun x => if x = r then v else f x
theorem putO {R : List (List Str)} (f : List Str → Pd) (r : List Str) (v : Pd) : putN (dsO R f) (ordD r) (nkO r) v = dsO (if r ∈ R then R else R ++ [r]) (updO f r v) := by
  unfold putN
  rw [getN_dsO]
  by_cases h : r ∈ R
  · rw [if_pos h, if_pos (show (some (f r)).isSome = true from rfl), if_pos h]
    unfold dsO
    rw [List.map_map]
    refine List.map_congr_left fun x _ => ?_
    show (if keyN (ordD x) = some (nkO r) then (ordD x, v) else (ordD x, f x)) = (ordD x, updO f r v x)
    unfold updO
    by_cases hx : x = r
    · rw [if_pos (by rw [hx]; exact keyN_ord r), if_pos hx]
    · rw [if_neg (fun z => hx (nkO_inj (Option.some.inj ((keyN_ord x).symm.trans z)))), if_neg hx]
  · rw [if_neg h, if_neg (show ¬ (none : Option Pd).isSome = true from by simp), if_neg h]
    unfold dsO
    rw [List.map_append]
    congr 1
    · refine List.map_congr_left fun x hx => ?_
      unfold updO
      rw [if_neg (fun z : x = r => h (by rw [← z]; exact hx))]
    · show [(ordD r, v)] = [(ordD r, updO f r v r)]
      unfold updO
      rw [if_pos rfl]
theorem dsO_len (R : List (List Str)) (f : List Str → Pd) : (dsO R f).length = R.length := by unfold dsO; rw [List.length_map]
end Lw
namespace Lw
open PySem PySem.Spec L2 Evl Dt
open TL (tl joinL tl_join tl_ofString join_eq tl_append len_tl)
def nkG (r : List (List Int)) : NestedKey := .tup (r.map fun v => .tup (v.map NestedKey.num))
theorem datas_map {α : Type} (f : α → NestedKey) (g : α → Pd) (h : ∀ x, (f x).data = g x) : ∀ l : List α, NestedKey.datas (l.map f) = l.map g
  | [] => by simp only [List.map_nil, NestedKey.datas]
  | x :: l => by simp only [List.map_cons, NestedKey.datas, h x, datas_map f g h l]
theorem nkG_data (r : List (List Int)) : (nkG r).data = gD r := by
  unfold nkG gD
  simp only [NestedKey.data]
  rw [datas_map _ intV fun v => by
    simp only [NestedKey.data]
    rw [datas_map _ PyData.int fun x => by simp only [NestedKey.data]]]
theorem keyN_g (r : List (List Int)) : keyN (gD r) = some (nkG r) := by rw [← nkG_data]; exact keyN_of _
theorem nkG_inj {a b : List (List Int)} (h : nkG a = nkG b) : a = b := by
  have := congrArg NestedKey.data h
  rw [nkG_data, nkG_data] at this
  exact gD_inj this
theorem depth_nums : ∀ v : List Int, NestedKey.depthAll (v.map NestedKey.num) = 0
  | [] => by simp [NestedKey.depthAll]
  | x :: o => by simp [NestedKey.depthAll, NestedKey.depth, depth_nums o]
theorem depth_tups : ∀ r : List (List Int), NestedKey.depthAll (r.map fun v => .tup (v.map NestedKey.num)) ≤ 1
  | [] => by simp [NestedKey.depthAll]
  | x :: o => by
    have := depth_tups o
    simp only [List.map_cons, NestedKey.depthAll, NestedKey.depth, depth_nums]
    omega
theorem keyM_g (r : List (List Int)) : keyM true (gD r) = some (nkG r) := by
  have h := keyN_g r
  have hd : (nkG r).depth ≤ 8 := by
    have := depth_tups r
    unfold nkG
    simp only [NestedKey.depth]
    omega
  unfold keyM
  rw [if_pos rfl]
  show (match keyN (gD r) with
      | some k => if k.depth ≤ 8 then some k else none
      | none => none) = _
  rw [h]
  exact if_pos hd
def dsG (R : List (List (List Int))) (f : List (List Int) → Pd) : List (Pd × Pd) := R.map fun r => (gD r, f r)
def ldG (R : List (List (List Int))) (f : List (List Int) → List Pd) : List (Pd × List Pd) := R.map fun r => (gD r, f r)
theorem ldG_len (R : List (List (List Int))) (f : List (List Int) → List Pd) : (ldG R f).length = R.length := by unfold ldG; rw [List.length_map]
theorem getN_dsG (f : List (List Int) → Pd) (o : List (List Int)) : ∀ L : List (List (List Int)), getN (dsG L f) (nkG o) = if o ∈ L then some (f o) else none
  | [] => by simp [dsG, getN]
  | x :: L => by
    have ih := getN_dsG f o L
    by_cases h : x = o
    · subst h
      rw [if_pos (by simp)]
      exact getN_pos (p := (gD x, f x)) (keyN_g x)
    · have n : keyN ((gD x, f x) : Pd × Pd).1 ≠ some (nkG o) := fun z => h (nkG_inj (Option.some.inj ((keyN_g x).symm.trans z)))
      show getN ((gD x, f x) :: dsG L f) _ = _
      rw [getN_neg n, ih]
      have : (o ∈ x :: L) = (o ∈ L) := by simp [show ¬ o = x from fun z => h z.symm]
      simp only [this]
def updG {β : Type} (f : List (List Int) → β) (r : List (List Int)) (v : β) : List (List Int) → β := fun x => if x = r then v else f x
theorem ldG_congr {L : List (List (List Int))} {f g : List (List Int) → List Pd} (h : ∀ o ∈ L, f o = g o) : ldG L f = ldG L g := List.map_congr_left fun o ho => by rw [h o ho]
theorem getL_ldG (f : List (List Int) → List Pd) (o : List (List Int)) : ∀ L : List (List (List Int)), getL (ldG L f) (nkG o) = if o ∈ L then some (f o) else none
  | [] => by simp [ldG, getL]
  | x :: L => by
    have ih := getL_ldG f o L
    by_cases h : x = o
    · subst h
      rw [if_pos (by simp)]
      show getL ((gD x, f x) :: ldG L f) _ = _
      unfold getL
      rw [List.find?_cons, decide_eq_true (keyN_g x)]
      rfl
    · have n : ¬ keyN (gD x) = some (nkG o) := fun z => h (nkG_inj (Option.some.inj ((keyN_g x).symm.trans z)))
      have : (o ∈ x :: L) = (o ∈ L) := by simp [show ¬ o = x from fun z => h z.symm]
      simp only [this]
      rw [← ih]
      show getL ((gD x, f x) :: ldG L f) _ = _
      unfold getL
      rw [List.find?_cons, decide_eq_false n]
theorem appG {R : List (List (List Int))} (f : List (List Int) → List Pd) (r : List (List Int)) (y : Pd) (hf : r ∉ R → f r = []) : appL (ldG R f) (gD r) (nkG r) y = ldG (if r ∈ R then R else R ++ [r]) (updG f r (f r ++ [y])) := by
  unfold appL
  rw [getL_ldG]
  by_cases h : r ∈ R
  · rw [if_pos h, if_pos (show (some (f r)).isSome = true from rfl), if_pos h]
    unfold ldG
    rw [List.map_map]
    refine List.map_congr_left fun x _ => ?_
    show (if keyN (gD x) = some (nkG r) then (gD x, f x ++ [y]) else (gD x, f x)) = (gD x, updG f r (f r ++ [y]) x)
    unfold updG
    by_cases hx : x = r
    · rw [if_pos (by rw [hx]; exact keyN_g r), if_pos hx, hx]
    · rw [if_neg (fun z => hx (nkG_inj (Option.some.inj ((keyN_g x).symm.trans z)))), if_neg hx]
  · rw [if_neg h, if_neg (show ¬ (none : Option (List Pd)).isSome = true from by simp), if_neg h]
    unfold ldG
    rw [List.map_append]
    congr 1
    · refine List.map_congr_left fun x hx => ?_
      unfold updG
      rw [if_neg (fun z : x = r => h (by rw [← z]; exact hx))]
    · show [(gD r, [y])] = [(gD r, updG f r (f r ++ [y]) r)]
      unfold updG
      rw [if_pos rfl, hf h]
      rfl
theorem fNDGet_dsG {L : List (List (List Int))} {f : List (List Int) → Pd} {o : List (List Int)} {fd fk : Rho → Dt.R AV} {ρ ρ1 ρ2 : Rho} (hd : fd ρ = .ok (.d (ndD (dsG L f))) ρ1) (hk : fk ρ1 = .ok (.d (gD o)) ρ2) (h : o ∈ L) : fNDGet fd fk ρ = .ok (.d (f o)) ρ2 := by
  unfold fNDGet
  rw [hd]
  show (fk ρ1).bind _ = _
  rw [hk]
  show kNDGet (.d (ndD (dsG L f))) (.d (gD o)) ρ2 = _
  unfold kNDGet
  simp only [ndE_nd]
  rw [keyM_g]
  simp only
  rw [getN_dsG, if_pos h]
theorem fItN_dsG {L : List (List (List Int))} {f : List (List Int) → Pd} {fe : Rho → Dt.R AV} {ρ ρ1 : Rho} (h : fe ρ = .ok (.d (ndD (dsG L f))) ρ1) : fItN fe ρ = .ok (L.map gD) ρ1 := by
  unfold fItN
  rw [h]
  show Dt.R.ok ((dsG L f).map (·.1)) ρ1 = _
  unfold dsG
  rw [List.map_map]
  rfl
def firstR (h : List Str → List (List Int)) (L : List (List Str)) : List (List (List Int)) := L.foldl (fun R o => if h o ∈ R then R else R ++ [h o]) []
theorem firstR_snoc (h : List Str → List (List Int)) (L : List (List Str)) (o : List Str) : firstR h (L ++ [o]) = if h o ∈ firstR h L then firstR h L else firstR h L ++ [h o] := by unfold firstR; rw [List.foldl_append]; rfl
theorem mem_foldR (h : List Str → List (List Int)) : ∀ (L : List (List Str)) (R : List (List (List Int))) (r : List (List Int)), r ∈ L.foldl (fun R o => if h o ∈ R then R else R ++ [h o]) R ↔ r ∈ R ∨ ∃ o ∈ L, h o = r
  | [], R, r => by simp
  | o :: L, R, r => by
    rw [List.foldl_cons, mem_foldR h L]
    by_cases hm : h o ∈ R
    · rw [if_pos hm]
      constructor
      · rintro (h1 | ⟨y, h1, h2⟩)
        · exact .inl h1
        · exact .inr ⟨y, List.mem_cons_of_mem _ h1, h2⟩
      · rintro (h1 | ⟨y, h1, h2⟩)
        · exact .inl h1
        · rcases List.mem_cons.mp h1 with rfl | h1
          · exact .inl (h2 ▸ hm)
          · exact .inr ⟨y, h1, h2⟩
    · rw [if_neg hm]
      constructor
      · rintro (h1 | ⟨y, h1, h2⟩)
        · rcases List.mem_append.mp h1 with h1 | h1
          · exact .inl h1
          · exact .inr ⟨o, List.mem_cons_self, (List.mem_singleton.mp h1).symm⟩
        · exact .inr ⟨y, List.mem_cons_of_mem _ h1, h2⟩
      · rintro (h1 | ⟨y, h1, h2⟩)
        · exact .inl (List.mem_append_left _ h1)
        · rcases List.mem_cons.mp h1 with rfl | h1
          · exact .inl (List.mem_append_right _ (by simp [h2]))
          · exact .inr ⟨y, h1, h2⟩
theorem mem_firstR {h : List Str → List (List Int)} {L : List (List Str)} {r : List (List Int)} : r ∈ firstR h L ↔ ∃ o ∈ L, h o = r := by
  unfold firstR
  rw [mem_foldR]
  simp
theorem len_foldR (h : List Str → List (List Int)) : ∀ (L : List (List Str)) (R : List (List (List Int))), (L.foldl (fun R o => if h o ∈ R then R else R ++ [h o]) R).length ≤ R.length + L.length
  | [], R => by simp
  | o :: L, R => by
    rw [List.foldl_cons]
    have := len_foldR h L (if h o ∈ R then R else R ++ [h o])
    have h2 : (if h o ∈ R then R else R ++ [h o]).length ≤ R.length + 1 := by split <;> simp
    simp only [List.length_cons]
    omega
theorem firstR_len (h : List Str → List (List Int)) (L : List (List Str)) : (firstR h L).length ≤ L.length := by
  have := len_foldR h L []
  simpa [firstR] using this
def grpO (h : List Str → List (List Int)) (L : List (List Str)) (r : List (List Int)) : List (List Str) := L.filter fun o => decide (h o = r)
theorem grpO_len (h : List Str → List (List Int)) (L : List (List Str)) (r : List (List Int)) : (grpO h L r).length ≤ L.length := List.length_filter_le _ _
theorem grpO_none {h : List Str → List (List Int)} {L : List (List Str)} {r : List (List Int)} (hr : r ∉ firstR h L) : grpO h L r = [] := by
  unfold grpO
  rw [List.filter_eq_nil_iff]
  intro o ho he
  exact hr (mem_firstR.mpr ⟨o, ho, of_decide_eq_true he⟩)
theorem grpO_snoc (h : List Str → List (List Int)) (L : List (List Str)) (o : List Str) (r : List (List Int)) : grpO h (L ++ [o]) r = if h o = r then grpO h L r ++ [o] else grpO h L r := by
  unfold grpO
  rw [List.filter_append]
  by_cases e : h o = r
  · rw [if_pos e]; simp [e]
  · rw [if_neg e]; simp [e]
theorem toks_ord : ∀ {a b : List Str}, a.length = b.length → ltI (kL a) (kL b) = true → PyProof.Rows.lexLt PyProof.Rows.itemOrd (PySem.W.keyToksAll (a.map PyData.str)) (PySem.W.keyToksAll (b.map PyData.str)) = true
  | [], [], _, h => by cases h
  | x :: a, y :: b, hl, h => by
    rw [List.map_cons, List.map_cons, PySem.W.toks_all_cons, PySem.W.toks_all_cons]
    refine (PyProof.Rows.lex_self (O := PyProof.Rows.itemOrd) _ _ _).trans ?_
    show PyProof.Rows.lexLt PyProof.Rows.itemOrd (Sum.inr x.cps.toList :: PySem.W.keyToksAll (a.map PyData.str)) (Sum.inr y.cps.toList :: PySem.W.keyToksAll (b.map PyData.str)) = true
    rcases PyProof.Rows.lex_true.mp h with h | ⟨h1, h2⟩
    · exact PyProof.Rows.lex_true.mpr (.inl h)
    · exact PyProof.Rows.lex_true.mpr (.inr ⟨h1, toks_ord (by simpa using hl) h2⟩)
  | [], _ :: _, hl, _ => by simp at hl
  | _ :: _, [], hl, _ => by simp at hl
theorem nlt_ord {a b : List Str} (hl : a.length = b.length) (h : ltI (kL a) (kL b) = true) : (!PySem.W.dataLt (ordD b) (ordD a)) = true := by
  have h1 := toks_ord hl h
  have h2 : ltI (PySem.W.keyToksAll (b.map PyData.str)) (PySem.W.keyToksAll (a.map PyData.str)) = false := (swoI id).asym _ _ h1
  have h3 : PySem.W.dataLt (ordD b) (ordD a) = false := (PySem.W.dataLt_tuple _ _).trans h2
  rw [h3]
  rfl
theorem ords_sorted {c : Code} (h : c.ns.Nodup) : (ordsOf c).Pairwise fun a b => (!PySem.W.dataLt (ordD b) (ordD a)) = true := by
  refine (sorted_itO (sortS_lt h) c.ns.length).imp_of_mem fun {a b} ha hb hab => ?_
  exact nlt_ord (by rw [(mem_itO.mp ha).2.1, (mem_itO.mp hb).2.1]) hab
theorem sortA_ords {L : List (List Str)} (h : L.Pairwise fun a b => (!PySem.W.dataLt (ordD b) (ordD a)) = true) : sortA (L.map ordD) = L.map ordD := List.mergeSort_of_pairwise (List.Pairwise.map _ (fun a b h => h) h)
theorem alikeAll_map {α : Type} (d : α → Pd) (h : ∀ x y, PySem.W.alike (d x) (d y) = true) : ∀ a b : List α, PySem.W.alikeAll (a.map d) (b.map d) = true
  | [], b => by simp [PySem.W.alikeAll]
  | x :: a, [] => by simp [PySem.W.alikeAll]
  | x :: a, y :: b => by simp [PySem.W.alikeAll, h x y, alikeAll_map d h a b]
theorem alike_ord (a b : List Str) : PySem.W.alike (ordD a) (ordD b) = true := by
  show PySem.W.alike (.tuple _) (.tuple _) = true
  simp only [PySem.W.alike]
  exact alikeAll_map _ (fun _ _ => by simp [PySem.W.alike]) _ _
theorem alike_int (a b : List Int) : PySem.W.alike (intV a) (intV b) = true := by
  show PySem.W.alike (.tuple _) (.tuple _) = true
  simp only [PySem.W.alike]
  exact alikeAll_map _ (fun _ _ => by simp [PySem.W.alike]) _ _
theorem alike_g (a b : List (List Int)) : PySem.W.alike (gD a) (gD b) = true := by
  show PySem.W.alike (.tuple _) (.tuple _) = true
  simp only [PySem.W.alike]
  exact alikeAll_map _ alike_int _ _
theorem okAl_map {α : Type} (d : α → Pd) {L : List α} (h1 : ∀ x ∈ L, sh 60 (d x) = true) (h2 : ∀ x y, PySem.W.alike (d x) (d y) = true) (h3 : ∀ x ∈ L, ∃ z zs, d x = .tuple (z :: zs)) : okAl (L.map d) = true ∧ sortableB (L.map d) = true := by
  constructor
  · unfold okAl
    simp only [Bool.and_eq_true, List.all_map]
    refine ⟨List.all_eq_true.mpr h1, List.all_eq_true.mpr fun x _ => List.all_eq_true.mpr fun y _ => h2 x y, List.all_eq_true.mpr fun x hx => ?_⟩
    obtain ⟨z, zs, e⟩ := h3 x hx
    simp only [Function.comp, e]
  · unfold sortableB
    rw [Bool.or_eq_true]
    left
    rw [List.all_map]
    refine List.all_eq_true.mpr fun x hx => ?_
    obtain ⟨z, zs, e⟩ := h3 x hx
    simp only [Function.comp, e]
theorem sh_ord {o : List Str} (h : ∀ x ∈ o, PyData.strOk x = true) (n : Nat) : sh (n + 1) (ordD o) = true := by
  show (o.map PyData.str).all (sh n) = true
  rw [List.all_map]
  refine List.all_eq_true.mpr fun x hx => ?_
  have := h x hx
  cases n <;> exact this
theorem ord_cons {c : Code} {o : List Str} (hl : 1 ≤ c.ns.length) (h : o.Perm c.ns) : ∃ z zs, ordD o = .tuple (z :: zs) := by
  cases o with
  | nil => have := h.length_eq; simp at this; omega
  | cons x o => exact ⟨_, _, rfl⟩
theorem sorted_ords {c : Code} (hn : NsOk c.ns) (hl : 1 ≤ c.ns.length) {L : List (List Str)} (hL : L.Sublist (ordsOf c)) : sortedA [.list (L.map ordD)] = some (L.map ordD) := by
  have hp : ∀ o ∈ L, o.Perm c.ns := fun o ho => (ords_perm hn.nd).mp (hL.subset ho)
  have hso : ∀ o ∈ L, ∀ x ∈ o, PyData.strOk x = true := fun o ho x hx => hn.so x ((hp o ho).mem_iff.mp hx)
  obtain ⟨h1, h2⟩ := okAl_map ordD (L := L) (fun o ho => sh_ord (hso o ho) 59) alike_ord (fun o ho => ord_cons hl (hp o ho))
  have h0 : sh 60 (.tuple (L.map ordD)) = true := by
    show (L.map ordD).all (sh 59) = true
    rw [List.all_map]
    exact List.all_eq_true.mpr fun o ho => sh_ord (hso o ho) 58
  unfold sortedA
  simp only
  rw [if_pos ⟨h0, h1, h2⟩, sortA_ords ((ords_sorted hn.nd).sublist hL)]
def prG (h : List Str → List (List Int)) (L : List (List Str)) (r : List (List Int)) : Pd := .tuple [gD r, .tuple ((grpO h L r).map ordD)]
def outL (h : List Str → List (List Int)) (L : List (List Str)) : List Pd := sortA ((firstR h L).map (prG h L))
theorem sh_pr {c : Code} (hn : NsOk c.ns) (h : List Str → List (List Int)) (r : List (List Int)) (n : Nat) : sh (n + 3) (prG h (ordsOf c) r) = true := by
  have h1 : sh (n + 2) (gD r) = true := sh_g r n
  have h2 : sh (n + 2) (.tuple ((grpO h (ordsOf c) r).map ordD)) = true := by
    show ((grpO h (ordsOf c) r).map ordD).all (sh (n + 1)) = true
    rw [List.all_map]
    refine List.all_eq_true.mpr fun o ho => sh_ord (fun x hx => ?_) n
    exact hn.so x (((ords_perm hn.nd).mp (List.mem_filter.mp ho).1).mem_iff.mp hx)
  show [gD r, .tuple ((grpO h (ordsOf c) r).map ordD)].all (sh (n + 2)) = true
  simp only [List.all_cons, List.all_nil, h1, h2, Bool.and_true]
theorem sorted_out {c : Code} (hn : NsOk c.ns) (h : List Str → List (List Int)) : sortedA [.list ((firstR h (ordsOf c)).map (prG h (ordsOf c)))] = some (outL h (ordsOf c)) := by
  obtain ⟨h1, h2⟩ := okAl_map (prG h (ordsOf c)) (L := firstR h (ordsOf c)) (fun r _ => sh_pr hn h r 57) (fun x y => by
    show PySem.W.alike (.tuple [_, _]) (.tuple [_, _]) = true
    have e : PySem.W.alike (.tuple ((grpO h (ordsOf c) x).map ordD)) (.tuple ((grpO h (ordsOf c) y).map ordD)) = true := by
      simp only [PySem.W.alike]
      exact alikeAll_map _ alike_ord _ _
    simp only [PySem.W.alike] at e
    simp only [PySem.W.alike, PySem.W.alikeAll, alike_g, e, Bool.and_true]) (fun r _ => ⟨_, _, rfl⟩)
  have h0 : sh 60 (.tuple ((firstR h (ordsOf c)).map (prG h (ordsOf c)))) = true := by
    show ((firstR h (ordsOf c)).map (prG h (ordsOf c))).all (sh 59) = true
    rw [List.all_map]
    exact List.all_eq_true.mpr fun r _ => sh_pr hn h r 56
  unfold sortedA
  simp only
  rw [if_pos ⟨h0, h1, h2⟩]
  rfl
theorem outL_len (h : List Str → List (List Int)) (L : List (List Str)) : (outL h L).length ≤ L.length := by
  unfold outL sortA
  rw [List.length_mergeSort, List.length_map]
  exact firstR_len h L
end Lw
namespace Lw
open PySem PySem.Spec L2 Evl Dt
open TL (tl joinL tl_join tl_ofString join_eq tl_append len_tl)
noncomputable def gls (c : Code) (ws : List Str) (pre : List (List Str)) : List (Pd × List Pd) := ldG (firstR (gL c ws) pre) fun r => (grpO (gL c ws) pre r).map ordD
theorem gls_snoc (c : Code) (ws : List Str) (pre : List (List Str)) (o : List Str) : appL (gls c ws pre) (gD (gL c ws o)) (nkG (gL c ws o)) (ordD o) = gls c ws (pre ++ [o]) := by
  unfold gls
  rw [appG _ _ _ (fun h => by rw [grpO_none h]; rfl), firstR_snoc]
  refine ldG_congr fun r _ => ?_
  unfold updG
  rw [grpO_snoc]
  by_cases e : r = gL c ws o
  · rw [if_pos e, if_pos e.symm, e, List.map_append]
    rfl
  · rw [if_neg e, if_neg (fun z => e z.symm)]
theorem out_loop {c : Code} (hn : NsOk c.ns) (ws : List Str) (s0 s1 : Sl) : ∃ (t3 t4 : Sl), (t4 = .no ∨ ∃ x, t4 = .d x) ∧
    forRun (putTup 2 (putCons (put 3) (putCons (put 4) putNil))) fb_outcomes_0 ((ordsOf c).map fun o => .tuple [ordD o, resD c ws o]) [s0, s1, .m false (.dcl []), .no, .no] = .ok .nx [s0, s1, .m false (.dcl (gls c ws (ordsOf c))), t3, t4] := by
  have hsm := ords_small hn
  obtain ⟨ρ', e, t3, t4, i3, i4, h4, rfl⟩ := for_inv (h := putTup 2 (putCons (put 3) (putCons (put 4) putNil))) (fb := fb_outcomes_0) (xs := (ordsOf c).map fun o => .tuple [ordD o, resD c ws o]) (ρ := [s0, s1, .m false (.dcl []), .no, .no])
    (fun i ρ => ∃ (t3 t4 : Sl), isIo t3 = false ∧ isIo t4 = false ∧ (t4 = .no ∨ ∃ x, t4 = .d x) ∧ ρ = [s0, s1, .m false (.dcl (gls c ws ((ordsOf c).take i))), t3, t4])
    (fun i x ρ hx hI => by
      obtain ⟨t3, t4, i3, i4, h4, rfl⟩ := hI
      rw [List.getElem?_map] at hx
      obtain ⟨o, ho1, rfl⟩ := Option.map_eq_some_iff.mp hx
      have hi : i < (ordsOf c).length := (List.getElem?_eq_some_iff.mp ho1).1
      have ht : (ordsOf c).take (i + 1) = (ordsOf c).take i ++ [o] := by rw [List.take_add_one, ho1]; rfl
      have hl1 : (gls c ws ((ordsOf c).take i)).length < sizeLine := by
        unfold gls
        rw [ldG_len]
        have := firstR_len (gL c ws) ((ordsOf c).take i)
        rw [List.length_take] at this
        unfold sizeLine
        omega
      have hl2 : ((getL (gls c ws ((ordsOf c).take i)) (nkG (gL c ws o))).getD []).length < sizeLine := by
        unfold gls
        rw [getL_ldG]
        split
        · have := grpO_len (gL c ws) ((ordsOf c).take i) (gL c ws o)
          rw [List.length_take] at this
          show ((grpO _ _ _).map ordD).length < sizeLine
          rw [List.length_map]
          unfold sizeLine
          omega
        · show 0 < sizeLine
          unfold sizeLine; omega
      refine ⟨[s0, s1, .m false (.dcl (gls c ws ((ordsOf c).take i))), .d (ordD o), .d (gD (gL c ws o))], [s0, s1, .m false (.dcl (gls c ws ((ordsOf c).take (i + 1)))), .d (ordD o), .d (gD (gL c ws o))], ?_, .inl ?_, .d (ordD o), .d (gD (gL c ws o)), rfl, rfl, .inr ⟨_, rfl⟩, rfl⟩
      · rw [resD_g]
        clear hl1 hl2
        generalize gD (gL c ws o) = gd at *
        generalize ordD o = od at *
        generalize Mo.dcl (gls c ws ((ordsOf c).take i)) = MM at *
        simp [put_eq, i3, i4, putNil]
      · unfold fb_outcomes_0 fSdApp
        show (match keyM true (gD (gL c ws o)) with
            | some k => if (gls c ws ((ordsOf c).take i)).length < sizeLine ∧ ((getL (gls c ws ((ordsOf c).take i)) k).getD []).length < sizeLine then Dt.R.ok Fl.nx [s0, s1, .m false (.dcl (appL (gls c ws ((ordsOf c).take i)) (gD (gL c ws o)) k (ordD o))), .d (ordD o), .d (gD (gL c ws o))] else .bad
            | none => .bad) = _
        rw [keyM_g]
        simp only
        rw [if_pos ⟨hl1, hl2⟩, gls_snoc, ht])
    ⟨.no, .no, rfl, rfl, .inl rfl, rfl⟩
  rw [List.length_map, List.take_length] at e
  exact ⟨t3, t4, h4, e⟩
theorem m_outc {m : Nat} {c : Code} (hc : c.Ok m) (hm : m ≤ 5) {ws : List Str} (h : WdsOk c ws) : m_outcomes [.d c.d, .d (wdsD ws)] = .ok (.d (.tuple (outL (gL c ws) (ordsOf c)))) [.d c.d, .d (wdsD ws)] := by
  have hns := hc.nsOk hm
  have hsm := ords_small hns
  have h1n : 1 ≤ c.ns.length := by have := hc.l1; unfold Code.ns; rw [List.length_map]; exact this
  have e1 := m_results hc hm h
  obtain ⟨t3, t4, h4, e2⟩ := out_loop hns ws (.d c.d) (.d (wdsD ws))
  have hfr : ∀ r, (grpO (gL c ws) (ordsOf c) r).length ≤ 3125 := fun r => Nat.le_trans (grpO_len _ _ _) hsm
  have hfl : (firstR (gL c ws) (ordsOf c)).length ≤ 3125 := Nat.le_trans (firstR_len _ _) hsm
  have hfz : frzDL 2 [.d c.d, .d (wdsD ws), .m false (.dcl (gls c ws (ordsOf c))), t3, t4] = [.d c.d, .d (wdsD ws), .d (ndD (dsG (firstR (gL c ws) (ordsOf c)) fun r => .list ((grpO (gL c ws) (ordsOf c) r).map ordD))), t3, t4] := by
    have : ((gls c ws (ordsOf c)).map fun p => (p.1, PyData.list p.2)) = dsG (firstR (gL c ws) (ordsOf c)) fun r => .list ((grpO (gL c ws) (ordsOf c) r).map ordD) := by
      unfold gls ldG dsG
      rw [List.map_map]
      rfl
    rw [← this]
    rfl
  have key := lc_mapM (h := put 4) (fe := ce_outcomes_1) (vs := [4]) gD (prG (gL c ws) (ordsOf c)) (ρ := [.d c.d, .d (wdsD ws), .d (ndD (dsG (firstR (gL c ws) (ordsOf c)) fun r => .list ((grpO (gL c ws) (ordsOf c) r).map ordD))), t3, .no]) (l := firstR (gL c ws) (ordsOf c)) (fun r hr => by
    have g1 := fNDGet_dsG (f := fun r => .list ((grpO (gL c ws) (ordsOf c) r).map ordD)) (o := r) (fd := fVar 2) (fk := fVar 4) (ρ := [.d c.d, .d (wdsD ws), .d (ndD (dsG (firstR (gL c ws) (ordsOf c)) fun r => .list ((grpO (gL c ws) (ordsOf c) r).map ordD))), t3, .d (gD r)]) (ρ1 := [.d c.d, .d (wdsD ws), .d (ndD (dsG (firstR (gL c ws) (ordsOf c)) fun r => .list ((grpO (gL c ws) (ordsOf c) r).map ordD))), t3, .d (gD r)]) (ρ2 := [.d c.d, .d (wdsD ws), .d (ndD (dsG (firstR (gL c ws) (ordsOf c)) fun r => .list ((grpO (gL c ws) (ordsOf c) r).map ordD))), t3, .d (gD r)]) rfl rfl hr
    have g2 := sorted_ords hns h1n (L := grpO (gL c ws) (ordsOf c) r) List.filter_sublist
    have hz : ((grpO (gL c ws) (ordsOf c) r).map ordD).length ≤ 16777216 := by rw [List.length_map]; have := hfr r; omega
    unfold prG
    clear e2 hfz e1
    generalize ndD (dsG (firstR (gL c ws) (ordsOf c)) fun r => .list ((grpO (gL c ws) (ordsOf c) r).map ordD)) = ND at *
    generalize (grpO (gL c ws) (ordsOf c) r).map ordD = GS at *
    generalize gD r = gd at *
    generalize c.d = cd at *
    generalize wdsD ws = WD at *
    refine ⟨[.d cd, .d WD, .d ND, t3, .d gd], [.d cd, .d WD, .d ND, t3, .d gd], rfl, ?_, rfl⟩
    unfold ce_outcomes_1
    generalize fNDGet (fVar 2) (fVar 4) = gx at *
    generalize sortedA = sd at *
    simp [g1, g2, hz, sizeLine]) (by omega)
  have es := sorted_out hns (gL c ws)
  have hol : (outL (gL c ws) (ordsOf c)).length ≤ 16777216 := by have := outL_len (gL c ws) (ordsOf c); omega
  have hml : ((firstR (gL c ws) (ordsOf c)).map (prG (gL c ws) (ordsOf c))).length ≤ 16777216 := by rw [List.length_map]; omega
  have s1 : fSetM fNewDL 2 [.d c.d, .d (wdsD ws), .no, .no, .no] = .ok .nx [.d c.d, .d (wdsD ws), .m false (.dcl []), .no, .no] := rfl
  have s2 : fFor (fItNI (fCall 2 m_results_by_order (fCons (fVar 0) (fCons (fVar 1) fNil)))) (putTup 2 (putCons (put 3) (putCons (put 4) putNil))) fb_outcomes_0 [.d c.d, .d (wdsD ws), .m false (.dcl []), .no, .no] = .ok .nx [.d c.d, .d (wdsD ws), .m false (.dcl (gls c ws (ordsOf c))), t3, t4] := by
    have it : fItNI (fCall 2 m_results_by_order (fCons (fVar 0) (fCons (fVar 1) fNil))) [.d c.d, .d (wdsD ws), .m false (.dcl []), .no, .no] = .ok ((ordsOf c).map fun o => .tuple [ordD o, resD c ws o]) [.d c.d, .d (wdsD ws), .m false (.dcl []), .no, .no] := by
      have q : fCall 2 m_results_by_order (fCons (fVar 0) (fCons (fVar 1) fNil)) [.d c.d, .d (wdsD ws), .m false (.dcl []), .no, .no] = .ok (.d (ndD (dsO (ordsOf c) (resD c ws)))) [.d c.d, .d (wdsD ws), .m false (.dcl []), .no, .no] := by
        clear e2 hfz key es
        generalize ndD (dsO (ordsOf c) (resD c ws)) = ND at *
        generalize c.d = cd at *
        generalize wdsD ws = WD at *
        simp [e1]
      unfold fItNI
      rw [q]
      show kItNI (.d (ndD (dsO (ordsOf c) (resD c ws)))) _ = _
      unfold kItNI
      simp only [ndE_nd]
      unfold dsO
      rw [List.map_map]
      rfl
    rw [fFor_ap, it]
    exact e2
  have hlc : fLc (fItN (fVar 2)) (put 4) (fun ρ => .ok true ρ) ce_outcomes_1 [4] [.d c.d, .d (wdsD ws), .d (ndD (dsG (firstR (gL c ws) (ordsOf c)) fun r => .list ((grpO (gL c ws) (ordsOf c) r).map ordD))), t3, t4] = .ok ((firstR (gL c ws) (ordsOf c)).map (prG (gL c ws) (ordsOf c))) [.d c.d, .d (wdsD ws), .d (ndD (dsG (firstR (gL c ws) (ordsOf c)) fun r => .list ((grpO (gL c ws) (ordsOf c) r).map ordD))), t3, .no] := by
    have hok : okW [.d c.d, .d (wdsD ws), .d (ndD (dsG (firstR (gL c ws) (ordsOf c)) fun r => .list ((grpO (gL c ws) (ordsOf c) r).map ordD))), t3, t4] [4] = true := by
      generalize ndD (dsG (firstR (gL c ws) (ordsOf c)) fun r => .list ((grpO (gL c ws) (ordsOf c) r).map ordD)) = ND at *
      rcases h4 with rfl | ⟨x, rfl⟩ <;> rfl
    have it : fItN (fVar 2) [.d c.d, .d (wdsD ws), .d (ndD (dsG (firstR (gL c ws) (ordsOf c)) fun r => .list ((grpO (gL c ws) (ordsOf c) r).map ordD))), t3, t4] = .ok ((firstR (gL c ws) (ordsOf c)).map gD) [.d c.d, .d (wdsD ws), .d (ndD (dsG (firstR (gL c ws) (ordsOf c)) fun r => .list ((grpO (gL c ws) (ordsOf c) r).map ordD))), t3, t4] := fItN_dsG rfl
    rw [fLc_ap, if_pos hok, it]
    exact key
  have s3 : fRet (fCB tupleA (fCons (fL (fCBL sortedA (fCons (fL (fLc (fItN (fVar 2)) (put 4) (fun ρ => .ok true ρ) ce_outcomes_1 [4])) fNil))) fNil)) [.d c.d, .d (wdsD ws), .d (ndD (dsG (firstR (gL c ws) (ordsOf c)) fun r => .list ((grpO (gL c ws) (ordsOf c) r).map ordD))), t3, t4] = .ok (.rt (.tuple (outL (gL c ws) (ordsOf c)))) [.d c.d, .d (wdsD ws), .d (ndD (dsG (firstR (gL c ws) (ordsOf c)) fun r => .list ((grpO (gL c ws) (ordsOf c) r).map ordD))), t3, .no] := by
    clear e2 hfz key s1 s2 e1
    generalize fLc (fItN (fVar 2)) (put 4) (fun ρ => .ok true ρ) ce_outcomes_1 [4] = g at *
    generalize ndD (dsG (firstR (gL c ws) (ordsOf c)) fun r => .list ((grpO (gL c ws) (ordsOf c) r).map ordD)) = ND at *
    generalize (firstR (gL c ws) (ordsOf c)).map (prG (gL c ws) (ordsOf c)) = PS at *
    generalize outL (gL c ws) (ordsOf c) = OL at *
    generalize c.d = cd at *
    generalize wdsD ws = WD at *
    generalize sortedA = sd at *
    simp [hlc, es, hml, hol, sizeLine]
  show Dt.endF _ (w_outcomes [.d c.d, .d (wdsD ws), .no, .no, .no]) = _
  unfold w_outcomes
  rw [fSeq_nx s1, fSeq_nx s2]
  unfold fFrzDL
  rw [hfz, s3]
  rfl
end Lw
namespace Lw
open PySem PySem.Spec L2 Evl Dt
open TL (tl joinL tl_join tl_ofString join_eq tl_append len_tl)
def rst (n : Str) (o : List Str) : List Str := o.filter fun x => !decide (x = n)
theorem rst_len (n : Str) (o : List Str) : (rst n o).length ≤ o.length := List.length_filter_le _ _
theorem m_wo (o : List Str) (hl : o.length ≤ 1000) (n : Str) : m_without [.d (ordD o), .d (.str n)] = .ok (.d (ordD (rst n o))) [.d (ordD o), .d (.str n)] := by
  have key := lc_filterM (h := put 2) (ft := ct_without_0) (fe := ce_without_0) (vs := [2]) PyData.str (fun x => !decide (x = n)) PyData.str (ρ := [.d (ordD o), .d (.str n), .no]) (l := o) (acc := []) (fun x hx => by
    generalize ordD o = od at *
    refine ⟨[.d od, .d (.str n), .d (.str x)], [.d od, .d (.str n), .d (.str x)], by simp [put_eq], ?_, fun _ => by simp, fun _ => ⟨[.d od, .d (.str n), .d (.str x)], by simp [ce_without_0], by simp⟩⟩
    simp [ct_without_0]) (by simp; omega)
  rw [List.nil_append] at key
  have hz : ((rst n o).map PyData.str).length ≤ 16777216 := by rw [List.length_map]; have := rst_len n o; omega
  have it : fItT (fVar 0) [.d (ordD o), .d (.str n), .no] = .ok (o.map PyData.str) [.d (ordD o), .d (.str n), .no] := rfl
  have hr : ordD (rst n o) = .tuple ((rst n o).map PyData.str) := rfl
  rw [hr]
  have key : lcRun (put 2) ct_without_0 ce_without_0 [2] (o.map PyData.str) [] [.d (ordD o), .d (.str n), .no] = .ok ((rst n o).map PyData.str) [.d (ordD o), .d (.str n), .no] := key
  generalize (rst n o).map PyData.str = XS at *
  generalize o.map PyData.str = OS at *
  generalize ordD o = od at *
  have q : fLc (fItT (fVar 0)) (put 2) ct_without_0 ce_without_0 [2] [.d od, .d (.str n), .no] = .ok XS [.d od, .d (.str n), .no] := by
    rw [fLc_ap, it]
    exact key
  have ew : w_without [.d od, .d (.str n), .no] = .ok (.rt (.tuple XS)) [.d od, .d (.str n), .no] := by
    unfold w_without
    generalize fLc (fItT (fVar 0)) (put 2) ct_without_0 ce_without_0 [2] = g at *
    simp [q, hz, sizeLine]
  show Dt.endF _ (w_without [.d od, .d (.str n), .no]) = _
  rw [ew]
  rfl
def IdP (c : Code) (ws : List Str) (n : Str) : Prop := ∀ o ∈ ordsOf c, ∀ o' ∈ ordsOf c, rst n o = rst n o' → gL c ws o = gL c ws o'
open Classical in
noncomputable def idB (c : Code) (ws : List Str) (n : Str) : Bool := decide (IdP c ws n)
theorem idB_iff {c : Code} {ws : List Str} {n : Str} : idB c ws n = true ↔ IdP c ws n := by unfold idB; exact @decide_eq_true_iff _ (Classical.propDecidable _)
theorem setd_at {i : Nat} {b : Bool} {R : List (List Str)} {g : List Str → Pd} {r : List Str} {x : Pd} {fk fx : Rho → Dt.R AV} {ρ ρ1 : Rho} (h0 : ρ[i]? = some (.m b (.dct true (dsO R g)))) (hk : fk ρ = .ok (.d (ordD r)) ρ1) (hx : fx ρ1 = .ok (.d x) ρ) (hz : R.length < 16777216) :
    fSetdN i fk fx ρ = if r ∈ R then .ok (.d (g r)) ρ else .ok (.d x) (ρ.set i (.m b (.dct true (dsO (R ++ [r]) (updO g r x))))) := by
  have hd : isDN i ρ = true := by unfold isDN; rw [h0]
  unfold fSetdN
  rw [if_pos hd, hk]
  show (fx ρ1).bind _ = _
  rw [hx]
  show kSetdN i (.d (ordD r)) (.d x) ρ = _
  unfold kSetdN
  rw [h0]
  simp only
  rw [keyM_ord]
  simp only
  rw [if_pos (by rw [dsO_len]; exact hz), getN_dsO]
  by_cases h : r ∈ R
  · rw [if_pos h, if_pos h]
  · rw [if_neg h, if_neg h]
    simp only
    rw [putO, if_neg h]
theorem idle_loop {c : Code} (hn : NsOk c.ns) (ws : List Str) (n : Str) : ∀ (l pre : List (List Str)) (R : List (List Str)) (g : List Str → Pd) (t3 : Sl), isIo t3 = false → pre ++ l = ordsOf c → R.length ≤ pre.length →
    (∀ o ∈ pre, rst n o ∈ R ∧ g (rst n o) = resD c ws o) → (∀ r ∈ R, ∃ o ∈ pre, rst n o = r) →
    ∃ ρ', forRun (put 3) fb_is_idle_0 (l.map ordD) [.d (ndD (dsO (ordsOf c) (resD c ws))), .d (.str n), .m false (.dct true (dsO R g)), t3] = (if idB c ws n = true then .ok .nx ρ' else .ok (.rt (.bool false)) ρ') ∧ ∃ r, ρ' = .d (ndD (dsO (ordsOf c) (resD c ws))) :: .d (.str n) :: r
  | [], pre, R, g, t3, _, hp, _, h1, _ => by
    have hid : IdP c ws n := fun o ho o' ho' e => by
      rw [List.append_nil] at hp
      rw [← hp] at ho ho'
      have e1 := (h1 o ho).2
      have e2 := (h1 o' ho').2
      rw [e] at e1
      rw [e1, resD_g, resD_g] at e2
      exact gD_inj e2
    have hb : idB c ws n = true := idB_iff.mpr hid
    exact ⟨_, by rw [if_pos hb]; rfl, _, rfl⟩
  | o :: l, pre, R, g, t3, i3, hp, hR, h1, h2 => by
    have ho : o ∈ ordsOf c := by rw [← hp]; simp
    have hpm := (ords_perm hn.nd).mp ho
    have hol : o.length ≤ 1000 := by rw [hpm.length_eq]; have := hn.l5; omega
    have hsm := ords_small hn
    have hRl : R.length < 16777216 := by
      have : pre.length ≤ (ordsOf c).length := by rw [← hp]; simp
      omega
    have ew := m_wo o hol n
    have e0 : put 3 (ordD o) [.d (ndD (dsO (ordsOf c) (resD c ws))), .d (.str n), .m false (.dct true (dsO R g)), t3] = some [.d (ndD (dsO (ordsOf c) (resD c ws))), .d (.str n), .m false (.dct true (dsO R g)), .d (ordD o)] := by
      generalize ndD (dsO (ordsOf c) (resD c ws)) = ND
      simp [put_eq, i3]
    have gx : ∀ s2 : Sl, fNDGet (fVar 0) (fVar 3) [.d (ndD (dsO (ordsOf c) (resD c ws))), .d (.str n), s2, .d (ordD o)] = .ok (.d (resD c ws o)) [.d (ndD (dsO (ordsOf c) (resD c ws))), .d (.str n), s2, .d (ordD o)] := fun s2 => fNDGet_dsO (ρ1 := [.d (ndD (dsO (ordsOf c) (resD c ws))), .d (.str n), s2, .d (ordD o)]) rfl rfl ho
    have gk : fCall 2 m_without (fCons (fVar 3) (fCons (fVar 1) fNil)) [.d (ndD (dsO (ordsOf c) (resD c ws))), .d (.str n), .m false (.dct true (dsO R g)), .d (ordD o)] = .ok (.d (ordD (rst n o))) [.d (ndD (dsO (ordsOf c) (resD c ws))), .d (.str n), .m false (.dct true (dsO R g)), .d (ordD o)] := by
      generalize ndD (dsO (ordsOf c) (resD c ws)) = ND
      generalize ordD (rst n o) = OR at *
      generalize ordD o = od at *
      simp [ew]
    have sd := setd_at (i := 2) (b := false) (R := R) (g := g) (r := rst n o) (x := resD c ws o) (ρ := [.d (ndD (dsO (ordsOf c) (resD c ws))), .d (.str n), .m false (.dct true (dsO R g)), .d (ordD o)]) rfl gk (gx _) hRl
    rw [List.map_cons]
    by_cases hr : rst n o ∈ R
    · rw [if_pos hr] at sd
      obtain ⟨o0, ho0, er⟩ := h2 _ hr
      have hg := (h1 o0 ho0).2
      rw [er] at hg
      have hne : neD (g (rst n o)) (resD c ws o) = some (.bool (!decide (gL c ws o0 = gL c ws o))) := by rw [hg, resD_g, resD_g, neD_g]
      have gxo := gx (.m false (.dct true (dsO R g)))
      by_cases he : gL c ws o0 = gL c ws o
      · rw [decide_eq_true he] at hne
        have hfb : fb_is_idle_0 [.d (ndD (dsO (ordsOf c) (resD c ws))), .d (.str n), .m false (.dct true (dsO R g)), .d (ordD o)] = .ok .nx [.d (ndD (dsO (ordsOf c) (resD c ws))), .d (.str n), .m false (.dct true (dsO R g)), .d (ordD o)] := by
          unfold fb_is_idle_0
          generalize fSetdN 2 (fCall 2 m_without (fCons (fVar 3) (fCons (fVar 1) fNil))) (fNDGet (fVar 0) (fVar 3)) = f1x at *
          generalize fNDGet (fVar 0) (fVar 3) = f2x at *
          generalize resD c ws o = RO at *
          generalize g (rst n o) = GO at *
          generalize neD = nd at *
          simp [sd, gxo, hne]
        rw [for_go e0 hfb]
        refine idle_loop hn ws n l (pre ++ [o]) R g _ rfl (by rw [← hp]; simp) (by rw [List.length_append]; simp; omega) (fun y hy => ?_) (fun r hr => ?_)
        · rcases List.mem_append.mp hy with hy | hy
          · exact h1 y hy
          · rw [List.mem_singleton.mp hy]
            exact ⟨hr, by rw [hg, resD_g, resD_g, he]⟩
        · obtain ⟨y, hy, e⟩ := h2 r hr
          exact ⟨y, List.mem_append_left _ hy, e⟩
      · rw [decide_eq_false he] at hne
        have hb : ¬ idB c ws n = true := by
          intro hd
          exact he (idB_iff.mp hd o0 (by rw [← hp]; exact List.mem_append_left _ ho0) o ho er)
        have hfb : fb_is_idle_0 [.d (ndD (dsO (ordsOf c) (resD c ws))), .d (.str n), .m false (.dct true (dsO R g)), .d (ordD o)] = .ok (.rt (.bool false)) [.d (ndD (dsO (ordsOf c) (resD c ws))), .d (.str n), .m false (.dct true (dsO R g)), .d (ordD o)] := by
          unfold fb_is_idle_0
          generalize fSetdN 2 (fCall 2 m_without (fCons (fVar 3) (fCons (fVar 1) fNil))) (fNDGet (fVar 0) (fVar 3)) = f1x at *
          generalize fNDGet (fVar 0) (fVar 3) = f2x at *
          generalize resD c ws o = RO at *
          generalize g (rst n o) = GO at *
          generalize neD = nd at *
          simp [sd, gxo, hne]
        rw [for_ret e0 hfb]
        exact ⟨_, by rw [if_neg hb], _, rfl⟩
    · rw [if_neg hr] at sd
      have hne : neD (resD c ws o) (resD c ws o) = some (.bool false) := by rw [resD_g, neD_g, decide_eq_true rfl]; rfl
      have gxo := gx (.m false (.dct true (dsO (R ++ [rst n o]) (updO g (rst n o) (resD c ws o)))))
      have hfb : fb_is_idle_0 [.d (ndD (dsO (ordsOf c) (resD c ws))), .d (.str n), .m false (.dct true (dsO R g)), .d (ordD o)] = .ok .nx [.d (ndD (dsO (ordsOf c) (resD c ws))), .d (.str n), .m false (.dct true (dsO (R ++ [rst n o]) (updO g (rst n o) (resD c ws o)))), .d (ordD o)] := by
        unfold fb_is_idle_0
        have sd' : fSetdN 2 (fCall 2 m_without (fCons (fVar 3) (fCons (fVar 1) fNil))) (fNDGet (fVar 0) (fVar 3)) [.d (ndD (dsO (ordsOf c) (resD c ws))), .d (.str n), .m false (.dct true (dsO R g)), .d (ordD o)] = .ok (.d (resD c ws o)) [.d (ndD (dsO (ordsOf c) (resD c ws))), .d (.str n), .m false (.dct true (dsO (R ++ [rst n o]) (updO g (rst n o) (resD c ws o)))), .d (ordD o)] := sd
        generalize fSetdN 2 (fCall 2 m_without (fCons (fVar 3) (fCons (fVar 1) fNil))) (fNDGet (fVar 0) (fVar 3)) = f1x at *
        generalize fNDGet (fVar 0) (fVar 3) = f2x at *
        generalize Mo.dct true (dsO (R ++ [rst n o]) (updO g (rst n o) (resD c ws o))) = MM at *
        generalize resD c ws o = RO at *
        generalize neD = nd at *
        simp [sd', gxo, hne]
      rw [for_go e0 hfb]
      refine idle_loop hn ws n l (pre ++ [o]) (R ++ [rst n o]) (updO g (rst n o) (resD c ws o)) _ rfl (by rw [← hp]; simp) (by rw [List.length_append, List.length_append]; simp; omega) (fun y hy => ?_) (fun r hr2 => ?_)
      · unfold updO
        rcases List.mem_append.mp hy with hy | hy
        · obtain ⟨a1, a2⟩ := h1 y hy
          exact ⟨List.mem_append_left _ a1, by rw [if_neg (fun z : rst n y = rst n o => hr (by rw [← z]; exact a1))]; exact a2⟩
        · rw [List.mem_singleton.mp hy]
          exact ⟨List.mem_append_right _ (by simp), by rw [if_pos rfl]⟩
      · rcases List.mem_append.mp hr2 with hr2 | hr2
        · obtain ⟨y, hy, e⟩ := h2 r hr2
          exact ⟨y, List.mem_append_left _ hy, e⟩
        · exact ⟨o, List.mem_append_right _ (by simp), (List.mem_singleton.mp hr2).symm⟩
theorem m_isidle {c : Code} (hn : NsOk c.ns) (ws : List Str) (n : Str) : m_is_idle [.d (ndD (dsO (ordsOf c) (resD c ws))), .d (.str n)] = .ok (.d (.bool (idB c ws n))) [.d (ndD (dsO (ordsOf c) (resD c ws))), .d (.str n)] := by
  obtain ⟨ρ', e, r, er⟩ := idle_loop hn ws n (ordsOf c) [] [] (fun _ => .none) .no rfl (by simp) (by simp) (by simp) (by simp)
  have it : fItN (fVar 0) [.d (ndD (dsO (ordsOf c) (resD c ws))), .d (.str n), .m false (.dct true (dsO [] fun _ => .none)), .no] = .ok ((ordsOf c).map ordD) [.d (ndD (dsO (ordsOf c) (resD c ws))), .d (.str n), .m false (.dct true (dsO [] fun _ => .none)), .no] := fItN_dsO rfl
  have s1 : fSetM (fNewD true) 2 [.d (ndD (dsO (ordsOf c) (resD c ws))), .d (.str n), .no, .no] = .ok .nx [.d (ndD (dsO (ordsOf c) (resD c ws))), .d (.str n), .m false (.dct true (dsO [] fun _ => .none)), .no] := rfl
  subst er
  show Dt.endF _ (w_is_idle [.d (ndD (dsO (ordsOf c) (resD c ws))), .d (.str n), .no, .no]) = _
  cases hb : idB c ws n with
  | true =>
    rw [hb] at e
    have e : forRun (put 3) fb_is_idle_0 ((ordsOf c).map ordD) [.d (ndD (dsO (ordsOf c) (resD c ws))), .d (.str n), .m false (.dct true (dsO [] fun _ => .none)), .no] = .ok .nx (.d (ndD (dsO (ordsOf c) (resD c ws))) :: .d (.str n) :: r) := e
    have s2 : fFor (fItN (fVar 0)) (put 3) fb_is_idle_0 [.d (ndD (dsO (ordsOf c) (resD c ws))), .d (.str n), .m false (.dct true (dsO [] fun _ => .none)), .no] = .ok .nx (.d (ndD (dsO (ordsOf c) (resD c ws))) :: .d (.str n) :: r) := by
      rw [fFor_ap, it]
      exact e
    have ew : w_is_idle [.d (ndD (dsO (ordsOf c) (resD c ws))), .d (.str n), .no, .no] = .ok (.rt (.bool true)) (.d (ndD (dsO (ordsOf c) (resD c ws))) :: .d (.str n) :: r) := by
      unfold w_is_idle
      rw [fSeq_nx s1, fSeq_nx s2]
      rfl
    rw [ew]
    rfl
  | false =>
    rw [hb] at e
    have e : forRun (put 3) fb_is_idle_0 ((ordsOf c).map ordD) [.d (ndD (dsO (ordsOf c) (resD c ws))), .d (.str n), .m false (.dct true (dsO [] fun _ => .none)), .no] = .ok (.rt (.bool false)) (.d (ndD (dsO (ordsOf c) (resD c ws))) :: .d (.str n) :: r) := e
    have s2 : fFor (fItN (fVar 0)) (put 3) fb_is_idle_0 [.d (ndD (dsO (ordsOf c) (resD c ws))), .d (.str n), .m false (.dct true (dsO [] fun _ => .none)), .no] = .ok (.rt (.bool false)) (.d (ndD (dsO (ordsOf c) (resD c ws))) :: .d (.str n) :: r) := by
      rw [fFor_ap, it]
      exact e
    have ew : w_is_idle [.d (ndD (dsO (ordsOf c) (resD c ws))), .d (.str n), .no, .no] = .ok (.rt (.bool false)) (.d (ndD (dsO (ordsOf c) (resD c ws))) :: .d (.str n) :: r) := by
      unfold w_is_idle
      rw [fSeq_nx s1]
      unfold fSeq
      rw [s2]
    rw [ew]
    rfl
end Lw
namespace Lw
open PySem PySem.Spec L2 Evl Dt
open TL (tl joinL tl_join tl_ofString join_eq tl_append len_tl)
noncomputable def idl (c : Code) (ws : List Str) : List Str := (sortS c.ns).filter (idB c ws)
theorem idl_len (c : Code) (ws : List Str) : (idl c ws).length ≤ c.ns.length := by
  have := (sortS_perm c.ns).length_eq
  have h := List.length_filter_le (idB c ws) (sortS c.ns)
  unfold idl
  omega
theorem m_idl {m : Nat} {c : Code} (hc : c.Ok m) (hm : m ≤ 5) {ws : List Str} (h : WdsOk c ws) : m_idle [.d c.d, .d (wdsD ws)] = .ok (.d (.tuple ((idl c ws).map .str))) [.d c.d, .d (wdsD ws)] := by
  have hns := hc.nsOk hm
  have e1 := m_results hc hm h
  have e2 := m_wish_names_ c (by have := hc.lm; omega)
  have e3 : sortedT [ordD c.ns] = some ((sortS c.ns).map PyData.str) := by
    unfold ordD sortedT
    simp only
    rw [strsD_map]
    simp only
    rw [if_pos (by have := hns.l5; omega)]
  have hl : (sortS c.ns).length = c.ns.length := (sortS_perm c.ns).length_eq
  have hil := idl_len c ws
  have h5 := hns.l5
  have hz : ((idl c ws).map PyData.str).length ≤ 16777216 := by rw [List.length_map]; omega
  have hnz : ((sortS c.ns).map PyData.str).length ≤ 16777216 := by rw [List.length_map]; omega
  have key := lc_filterM (h := put 3) (ft := ct_idle_0) (fe := ce_idle_0) (vs := [3]) PyData.str (idB c ws) PyData.str (ρ := [.d c.d, .d (wdsD ws), .d (ndD (dsO (ordsOf c) (resD c ws))), .no]) (l := sortS c.ns) (acc := []) (fun x hx => by
    have ei := m_isidle hns ws x
    generalize ndD (dsO (ordsOf c) (resD c ws)) = ND at *
    generalize c.d = cd at *
    generalize wdsD ws = WD at *
    refine ⟨[.d cd, .d WD, .d ND, .d (.str x)], [.d cd, .d WD, .d ND, .d (.str x)], by simp [put_eq], ?_, fun _ => by simp, fun _ => ⟨[.d cd, .d WD, .d ND, .d (.str x)], by simp [ce_idle_0], by simp⟩⟩
    simp [ct_idle_0, ei]) (by simp; omega)
  rw [List.nil_append] at key
  have key : lcRun (put 3) ct_idle_0 ce_idle_0 [3] ((sortS c.ns).map PyData.str) [] [.d c.d, .d (wdsD ws), .d (ndD (dsO (ordsOf c) (resD c ws))), .no] = .ok ((idl c ws).map PyData.str) [.d c.d, .d (wdsD ws), .d (ndD (dsO (ordsOf c) (resD c ws))), .no] := key
  have hnd : ∃ D, ndD (dsO (ordsOf c) (resD c ws)) = .dict D := ⟨_, rfl⟩
  generalize (idl c ws).map PyData.str = IS at *
  generalize ndD (dsO (ordsOf c) (resD c ws)) = ND at *
  generalize (sortS c.ns).map PyData.str = NS at *
  generalize ordD c.ns = od at *
  generalize c.d = cd at *
  generalize wdsD ws = WD at *
  have s1 : fAsg (fCall 2 m_results_by_order (fCons (fVar 0) (fCons (fVar 1) fNil))) (put 2) [.d cd, .d WD, .no, .no] = .ok .nx [.d cd, .d WD, .d ND, .no] := by
    simp [e1, put_eq]
  have it : fItL (fL (fCBL sortedT (fCons (fCall 1 m_wish_names (fCons (fVar 0) fNil)) fNil))) [.d cd, .d WD, .d ND, .no] = .ok NS [.d cd, .d WD, .d ND, .no] := by
    generalize sortedT = sd at *
    simp [e2, e3, hnz, sizeLine]
  have q : fLc (fItL (fL (fCBL sortedT (fCons (fCall 1 m_wish_names (fCons (fVar 0) fNil)) fNil)))) (put 3) ct_idle_0 ce_idle_0 [3] [.d cd, .d WD, .d ND, .no] = .ok IS [.d cd, .d WD, .d ND, .no] := by
    rw [fLc_ap, it]
    exact key
  have s2 : fRet (fCB tupleA (fCons (fL (fLc (fItL (fL (fCBL sortedT (fCons (fCall 1 m_wish_names (fCons (fVar 0) fNil)) fNil)))) (put 3) ct_idle_0 ce_idle_0 [3])) fNil)) [.d cd, .d WD, .d ND, .no] = .ok (.rt (.tuple IS)) [.d cd, .d WD, .d ND, .no] := by
    generalize fLc (fItL (fL (fCBL sortedT (fCons (fCall 1 m_wish_names (fCons (fVar 0) fNil)) fNil)))) (put 3) ct_idle_0 ce_idle_0 [3] = g at *
    simp [q, hz, sizeLine]
  have ew : w_idle [.d cd, .d WD, .no, .no] = .ok (.rt (.tuple IS)) [.d cd, .d WD, .d ND, .no] := by
    unfold w_idle
    rw [fSeq_nx s1]
    exact s2
  show Dt.endF _ (w_idle [.d cd, .d WD, .no, .no]) = _
  rw [ew]
  rfl
end Lw
namespace Lw
open PySem PySem.Spec L2 Evl Dt
open TL (tl joinL tl_join tl_ofString join_eq tl_append len_tl)
abbrev noW : XD := ⟨"NoWord", none⟩
def isW4 (s : Str) : Pd → Bool
  | .str z => decide (∀ c ∈ tl z, c ∈ tl s) && decide ((tl z).length ≤ 4)
  | _ => false
theorem m_checkw4_no {c : Code} {d : Pd} (hd : okP d = true) (hn : isW4 c.s d = false) : m_check_word [.d c.d, .d d, .d (.int 4)] = .ex noW [.d c.d, .d d, .d (.int 4)] := by
  have e1 := m_word c.s (.tuple (c.ws.map Wish.d)) d hd
  have hcd : cdW c.s (.tuple (c.ws.map Wish.d)) = c.d := rfl
  rw [hcd] at e1
  cases hw : isWordD c.s d with
  | false =>
    rw [hw] at e1
    generalize c.d = cd at *
    simp [m_check_word, gOf, w_check_word, e1]
  | true =>
    rw [hw] at e1
    cases d with
    | str z =>
      have hz : z.length ≤ 1000 := by simpa [okP] using hd
      have hz2 : z.length ≤ 16777216 := by omega
      have e2 : lenD [.str z] = some (.int (z.length : Nat)) := by simp [sizeLine, hz2]
      have h5 : 4 < z.length := by
        have hw : (decide (∀ c' ∈ tl z, c' ∈ tl c.s) && decide ((z.length : Int) ≤ 8)) = true := hw
        have hn : (decide (∀ c' ∈ tl z, c' ∈ tl c.s) && decide ((tl z).length ≤ 4)) = false := hn
        rw [Bool.and_eq_true] at hw
        rw [hw.1, Bool.true_and] at hn
        have := of_decide_eq_false hn
        rw [len_tl]
        omega
      have e3 : gtD (.int (z.length : Nat)) (.int 4) = some (.bool true) := by
        show some (PyData.bool (decide _)) = _
        rw [decide_eq_true (by omega)]
      generalize c.d = cd at *
      generalize hlw : (z.length : Int) = lw at *
      simp [m_check_word, gOf, w_check_word, e1, e2, e3, -lenD_str]
    | _ => cases hw
theorem m_checkw4_is {c : Code} {d : Pd} (hn : isW4 c.s d = true) : m_check_word [.d c.d, .d d, .d (.int 4)] = .ok (.d .none) [.d c.d, .d d, .d (.int 4)] := by
  cases d with
  | str z =>
    have hn : (decide (∀ c' ∈ tl z, c' ∈ tl c.s) && decide ((tl z).length ≤ 4)) = true := hn
    rw [Bool.and_eq_true] at hn
    exact m_checkw4 (of_decide_eq_true hn.1) (of_decide_eq_true hn.2)
  | _ => cases hn
theorem cw_nt {cd d : Pd} (h : isTupD d = false) : m_check_words [.d cd, .d d] = .ex noW [.d cd, .d d] := by
  have s1 : w_check_words [.d cd, .d d, .no] = .ex noW [.d cd, .d d, .no] := by
    unfold w_check_words
    rw [fSeq_ap]
    simp [h]
  show Dt.endF _ (w_check_words [.d cd, .d d, .no]) = _
  rw [s1]
  rfl
theorem cw_len {cd : Pd} {xs : List Pd} (h : xs.length = 0 ∨ (4 < xs.length ∧ xs.length ≤ 1000)) : m_check_words [.d cd, .d (.tuple xs)] = .ex noW [.d cd, .d (.tuple xs)] := by
  have el : lenD [.tuple xs] = some (.int (xs.length : Int)) := by
    have : xs.length ≤ 16777216 := by omega
    simp [sizeLine, this]
  have s1 : fIfS (fOr (fNot (fTest (f1 (isiD "tuple") (fVar 1)))) (fNot (fTest (fChain leD leD (fC (.int 1)) (fCB lenD (fCons (fVar 1) fNil)) (fC (.int 4)))))) (fRaise ⟨"NoWord", none⟩) fNx [.d cd, .d (.tuple xs), .no] = .ex noW [.d cd, .d (.tuple xs), .no] := by
    rcases h with h | ⟨h, _⟩
    · have e1 : leD (.int 1) (.int (xs.length : Int)) = some (.bool false) := by
        show some (PyData.bool (decide _)) = _
        rw [decide_eq_false (by omega)]
      generalize (xs.length : Int) = LN at *
      generalize leD = ld at *
      generalize lenD = ln at *
      simp [el, e1, isTupD]
    · have e1 : leD (.int 1) (.int (xs.length : Int)) = some (.bool true) := by
        show some (PyData.bool (decide _)) = _
        rw [decide_eq_true (by omega)]
      have e4 : leD (.int (xs.length : Int)) (.int 4) = some (.bool false) := by
        show some (PyData.bool (decide _)) = _
        rw [decide_eq_false (by omega)]
      generalize (xs.length : Int) = LN at *
      generalize leD = ld at *
      generalize lenD = ln at *
      simp [el, e1, e4, isTupD]
  have ew : w_check_words [.d cd, .d (.tuple xs), .no] = .ex noW [.d cd, .d (.tuple xs), .no] := by
    unfold w_check_words
    rw [fSeq_ap, s1]
  show Dt.endF _ (w_check_words [.d cd, .d (.tuple xs), .no]) = _
  rw [ew]
  rfl
theorem cw_go {cd : Pd} {xs : List Pd} (h1 : 1 ≤ xs.length) (h4 : xs.length ≤ 4) : fIfS (fOr (fNot (fTest (f1 (isiD "tuple") (fVar 1)))) (fNot (fTest (fChain leD leD (fC (.int 1)) (fCB lenD (fCons (fVar 1) fNil)) (fC (.int 4)))))) (fRaise ⟨"NoWord", none⟩) fNx [.d cd, .d (.tuple xs), .no] = .ok .nx [.d cd, .d (.tuple xs), .no] := by
  have el : lenD [.tuple xs] = some (.int (xs.length : Int)) := by
    have : xs.length ≤ 16777216 := by omega
    simp [sizeLine, this]
  have e1 : leD (.int 1) (.int (xs.length : Int)) = some (.bool true) := by
    show some (PyData.bool (decide _)) = _
    rw [decide_eq_true (by omega)]
  have e4 : leD (.int (xs.length : Int)) (.int 4) = some (.bool true) := by
    show some (PyData.bool (decide _)) = _
    rw [decide_eq_true (by omega)]
  generalize (xs.length : Int) = LN at *
  generalize leD = ld at *
  generalize lenD = ln at *
  simp [el, e1, e4, isTupD]
theorem loop_bad {c : Code} {W : Pd} : ∀ (xs : List Pd) (t2 : Sl), isIo t2 = false → (∀ x ∈ xs, okP x = true) → xs.all (isW4 c.s) = false → ∃ t3, forRun (put 2) fb_check_words_0 xs [.d c.d, .d W, t2] = .ex noW [.d c.d, .d W, t3]
  | [], _, _, _, h => by cases h
  | x :: xs, t2, i2, ho, h => by
    have hp : put 2 x [.d c.d, .d W, t2] = some [.d c.d, .d W, .d x] := by
      generalize c.d = cd
      simp [put_eq, i2]
    cases hx : isW4 c.s x with
    | true =>
      have ec := m_checkw4_is (c := c) hx
      have hb : fb_check_words_0 [.d c.d, .d W, .d x] = .ok .nx [.d c.d, .d W, .d x] := by
        generalize c.d = cd at *
        simp [fb_check_words_0, ec]
      rw [for_go hp hb]
      refine loop_bad xs _ rfl (fun y hy => ho y (List.mem_cons_of_mem _ hy)) ?_
      rw [List.all_cons, hx, Bool.true_and] at h
      exact h
    | false =>
      have ec := m_checkw4_no (c := c) (ho x List.mem_cons_self) hx
      have hb : fb_check_words_0 [.d c.d, .d W, .d x] = .ex noW [.d c.d, .d W, .d x] := by
        generalize c.d = cd at *
        simp [fb_check_words_0, ec]
      exact ⟨.d x, by simp only [forRun_cons, hp, hb]⟩
theorem loop_good {c : Code} {W : Pd} : ∀ (xs : List Pd) (t2 : Sl), isIo t2 = false → xs.all (isW4 c.s) = true → ∃ t3, forRun (put 2) fb_check_words_0 xs [.d c.d, .d W, t2] = .ok .nx [.d c.d, .d W, t3]
  | [], t2, _, _ => ⟨t2, rfl⟩
  | x :: xs, t2, i2, h => by
    have hp : put 2 x [.d c.d, .d W, t2] = some [.d c.d, .d W, .d x] := by
      generalize c.d = cd
      simp [put_eq, i2]
    rw [List.all_cons, Bool.and_eq_true] at h
    have ec := m_checkw4_is (c := c) h.1
    have hb : fb_check_words_0 [.d c.d, .d W, .d x] = .ok .nx [.d c.d, .d W, .d x] := by
      generalize c.d = cd at *
      simp [fb_check_words_0, ec]
    rw [for_go hp hb]
    exact loop_good xs _ rfl h.2
theorem cw_bad {c : Code} {xs : List Pd} (h1 : 1 ≤ xs.length) (h4 : xs.length ≤ 4) (ho : ∀ x ∈ xs, okP x = true) (hb : xs.all (isW4 c.s) = false) : m_check_words [.d c.d, .d (.tuple xs)] = .ex noW [.d c.d, .d (.tuple xs)] := by
  have s1 := cw_go (cd := c.d) h1 h4
  obtain ⟨t3, e⟩ := loop_bad (c := c) (W := .tuple xs) xs .no rfl ho hb
  have it : fItT (fVar 1) [.d c.d, .d (.tuple xs), .no] = .ok xs [.d c.d, .d (.tuple xs), .no] := rfl
  have s2 : fFor (fItT (fVar 1)) (put 2) fb_check_words_0 [.d c.d, .d (.tuple xs), .no] = .ex noW [.d c.d, .d (.tuple xs), t3] := by
    rw [fFor_ap, it]
    exact e
  have ew : w_check_words [.d c.d, .d (.tuple xs), .no] = .ex noW [.d c.d, .d (.tuple xs), t3] := by
    unfold w_check_words
    rw [fSeq_nx s1, fSeq_ap, s2]
  show Dt.endF _ (w_check_words [.d c.d, .d (.tuple xs), .no]) = _
  rw [ew]
  rfl
theorem cw_twice {c : Code} {ws : List Str} (h1 : 1 ≤ ws.length) (h4 : ws.length ≤ 4) (hg : (ws.map PyData.str).all (isW4 c.s) = true) (hn : ¬ ws.Nodup) : m_check_words [.d c.d, .d (.tuple (ws.map PyData.str))] = .ex noW [.d c.d, .d (.tuple (ws.map PyData.str))] := by
  have s1 := cw_go (cd := c.d) (xs := ws.map PyData.str) (by rw [List.length_map]; exact h1) (by rw [List.length_map]; exact h4)
  obtain ⟨t3, e⟩ := loop_good (c := c) (W := .tuple (ws.map PyData.str)) (ws.map PyData.str) .no rfl hg
  have it : fItT (fVar 1) [.d c.d, .d (.tuple (ws.map PyData.str)), .no] = .ok (ws.map PyData.str) [.d c.d, .d (.tuple (ws.map PyData.str)), .no] := rfl
  have s2 : fFor (fItT (fVar 1)) (put 2) fb_check_words_0 [.d c.d, .d (.tuple (ws.map PyData.str)), .no] = .ok .nx [.d c.d, .d (.tuple (ws.map PyData.str)), t3] := by
    rw [fFor_ap, it]
    exact e
  have hz : (ws.map PyData.str).length ≤ 16777216 := by rw [List.length_map]; omega
  have el : lenD [.tuple (ws.map PyData.str)] = some (.int (ws.length : Int)) := by
    simp only [lenD_tuple, sizeLine, List.length_map] at *
  have hlt : newN ws ws.length < ws.length := by
    have := newN_le ws ws.length
    have hne : newN ws ws.length ≠ ws.length := fun z => hn ((newN_iff ws).mp z)
    omega
  have es : lenSetTu (.tuple (ws.map PyData.str)) = some (.int (newN ws ws.length : Int)) := by
    unfold lenSetTu
    simp only
    rw [strsD_map]
    simp only
    rw [if_pos (by omega)]
  have e5 : ltD (.int (newN ws ws.length : Int)) (.int (ws.length : Int)) = some (.bool true) := by
    show some (PyData.bool (decide _)) = _
    rw [decide_eq_true (by omega)]
  have s3 : fIfS (fTest (f2 ltD (f1 lenSetTu (fVar 1)) (fCB lenD (fCons (fVar 1) fNil)))) (fRaise ⟨"NoWord", none⟩) fNx [.d c.d, .d (.tuple (ws.map PyData.str)), t3] = .ex noW [.d c.d, .d (.tuple (ws.map PyData.str)), t3] := by
    clear s1 s2 e it hg
    generalize ws.map PyData.str = XS at *
    generalize (ws.length : Int) = LN at *
    generalize (newN ws ws.length : Int) = NN at *
    generalize c.d = cd at *
    generalize ltD = ld at *
    generalize lenD = ln at *
    generalize lenSetTu = ls at *
    simp [es, el, e5]
  have ew : w_check_words [.d c.d, .d (.tuple (ws.map PyData.str)), .no] = .ex noW [.d c.d, .d (.tuple (ws.map PyData.str)), t3] := by
    unfold w_check_words
    rw [fSeq_nx s1, fSeq_nx s2, s3]
  show Dt.endF _ (w_check_words [.d c.d, .d (.tuple (ws.map PyData.str)), .no]) = _
  rw [ew]
  rfl
section
variable {cd d : Pd}
theorem no_res (h : m_check_words [.d cd, .d d] = .ex noW [.d cd, .d d]) : m_results_by_order [.d cd, .d d] = .ex noW [.d cd, .d d] := by
  have s1 : fDrop (fCall 2 m_check_words (fCons (fVar 0) (fCons (fVar 1) fNil))) [.d cd, .d d, .no, .no] = .ex noW [.d cd, .d d, .no, .no] := by simp [h]
  have ew : w_results_by_order [.d cd, .d d, .no, .no] = .ex noW [.d cd, .d d, .no, .no] := by
    unfold w_results_by_order
    rw [fSeq_ap, s1]
  show Dt.endF _ (w_results_by_order [.d cd, .d d, .no, .no]) = _
  rw [ew]
  rfl
theorem no_out (h : m_results_by_order [.d cd, .d d] = .ex noW [.d cd, .d d]) : m_outcomes [.d cd, .d d] = .ex noW [.d cd, .d d] := by
  have s1 : fSetM fNewDL 2 [.d cd, .d d, .no, .no, .no] = .ok .nx [.d cd, .d d, .m false (.dcl []), .no, .no] := rfl
  have it : fItNI (fCall 2 m_results_by_order (fCons (fVar 0) (fCons (fVar 1) fNil))) [.d cd, .d d, .m false (.dcl []), .no, .no] = .ex noW [.d cd, .d d, .m false (.dcl []), .no, .no] := by
    unfold fItNI
    simp [h]
  have s2 : fFor (fItNI (fCall 2 m_results_by_order (fCons (fVar 0) (fCons (fVar 1) fNil)))) (putTup 2 (putCons (put 3) (putCons (put 4) putNil))) fb_outcomes_0 [.d cd, .d d, .m false (.dcl []), .no, .no] = .ex noW [.d cd, .d d, .m false (.dcl []), .no, .no] := by
    rw [fFor_ap, it]
    rfl
  have ew : w_outcomes [.d cd, .d d, .no, .no, .no] = .ex noW [.d cd, .d d, .m false (.dcl []), .no, .no] := by
    unfold w_outcomes
    rw [fSeq_nx s1, fSeq_ap, s2]
  show Dt.endF _ (w_outcomes [.d cd, .d d, .no, .no, .no]) = _
  rw [ew]
  rfl
theorem no_idle (h : m_results_by_order [.d cd, .d d] = .ex noW [.d cd, .d d]) : m_idle [.d cd, .d d] = .ex noW [.d cd, .d d] := by
  have s1 : fAsg (fCall 2 m_results_by_order (fCons (fVar 0) (fCons (fVar 1) fNil))) (put 2) [.d cd, .d d, .no, .no] = .ex noW [.d cd, .d d, .no, .no] := by simp [h]
  have ew : w_idle [.d cd, .d d, .no, .no] = .ex noW [.d cd, .d d, .no, .no] := by
    unfold w_idle
    rw [fSeq_ap, s1]
  show Dt.endF _ (w_idle [.d cd, .d d, .no, .no]) = _
  rw [ew]
  rfl
theorem no_alike (h : m_results_by_order [.d cd, .d d] = .ex noW [.d cd, .d d]) : m_alike_wishes [.d cd, .d d] = .ex noW [.d cd, .d d] := by
  have s1 : fAsg (fCall 2 m_results_by_order (fCons (fVar 0) (fCons (fVar 1) fNil))) (put 2) [.d cd, .d d, .no, .no, .no, .no, .no, .no] = .ex noW [.d cd, .d d, .no, .no, .no, .no, .no, .no] := by simp [h]
  have ew : w_alike_wishes [.d cd, .d d, .no, .no, .no, .no, .no, .no] = .ex noW [.d cd, .d d, .no, .no, .no, .no, .no, .no] := by
    unfold w_alike_wishes
    rw [fSeq_ap, s1]
  show Dt.endF _ (w_alike_wishes [.d cd, .d d, .no, .no, .no, .no, .no, .no]) = _
  rw [ew]
  rfl
theorem m_only : m__law_only [.x noW, .d (.int 2)] = .ok (.d (.bool true)) [.x noW, .d (.int 2)] := by rfl
theorem m_ref (h : m_check_words [.d cd, .d d] = .ex noW [.d cd, .d d]) {k : Int} (hk : k = 0 ∨ k = 1 ∨ k = 2) : m__law_refused [.d cd, .d d, .d (.int k)] = .ok (.d (.bool true)) [.d cd, .d d, .d (.int k)] := by
  have r0 := no_res h
  have r1 := no_out r0
  have r2 := no_idle r0
  have r3 := no_alike r0
  have s1 : fAsg (fC .none) (put 3) [.d cd, .d d, .d (.int k), .no, .no] = .ok .nx [.d cd, .d d, .d (.int k), .d .none, .no] := by simp [put_eq]
  have hf : ft__law_refused [.d cd, .d d, .d (.int k), .d .none, .no] = .ex noW [.d cd, .d d, .d (.int k), .d .none, .no] := by
    rcases hk with rfl | rfl | rfl
    · simp [ft__law_refused, r1]
    · simp [ft__law_refused, r2]
    · simp [ft__law_refused, r3]
  have s2 : fTryN (sb "LadderError") ft__law_refused 4 3 [.d cd, .d d, .d (.int k), .d .none, .no] = .ok .nx [.d cd, .d d, .d (.int k), .x noW, .no] := fTryN_ex hf (by rfl) rfl rfl rfl rfl (by decide)
  have s3 : fRet (fCallX 1 3 m__law_only (fCons (fC (.int 2)) fNil)) [.d cd, .d d, .d (.int k), .x noW, .no] = .ok (.rt (.bool true)) [.d cd, .d d, .d (.int k), .x noW, .no] := by
    have e := m_only
    generalize m__law_only = g at *
    have q : fCallX 1 3 g (fCons (fC (.int 2)) fNil) [.d cd, .d d, .d (.int k), .x noW, .no] = .ok (.d (.bool true)) [.d cd, .d d, .d (.int k), .x noW, .no] := by
      unfold fCallX
      simp [kCallX, e, argsD]
    generalize fCallX 1 3 g (fCons (fC (.int 2)) fNil) = q1 at *
    simp [q]
  have ew : w__law_refused [.d cd, .d d, .d (.int k), .no, .no] = .ok (.rt (.bool true)) [.d cd, .d d, .d (.int k), .x noW, .no] := by
    unfold w__law_refused
    rw [fSeq_nx s1, fSeq_nx s2]
    exact s3
  show Dt.endF _ (w__law_refused [.d cd, .d d, .d (.int k), .no, .no]) = _
  rw [ew]
  rfl
end
end Lw
namespace Lw
open PySem PySem.Spec L2 Evl Dt
open TL (tl joinL tl_join tl_ofString join_eq tl_append len_tl)
theorem ix_first {s : Str} {a : Nat} {l : List Nat} (hz : s.length ≤ 16777216) (h : tl s = a :: l) : ixD (.str s) (.int 0) = some (.str (sg1 a)) := by
  have : atI s.cps.toList 0 = some a := by rw [show s.cps.toList = a :: l from h]; exact at0 _ _
  simp [this, hz, sizeLine]
theorem tl_mul1 (c : Nat) (k : Int) : tl (Txt.mul (sg1 c) k) = List.replicate k.toNat c := PyProof.Rows.mul_one_list _ _
def th1 (z : Str) : List Pd := [.tuple [], .tuple [.str "", .str z, .str (Txt.mul z 2), .str (Txt.mul z 3), .str (Txt.mul z 4)], .tuple [.str z, .str z], .tuple [.str (Txt.mul z 5)], .tuple [.str "Q"], .tuple [.str "#"], .tuple [.str "", .str "#"]]
def th2 (z : Str) : List Pd := [.str z, .list [.str z], .none, .int 7, .bool true, .dict [], .str "", .tuple [.none], .tuple [.str z, .int 7], .tuple [.tuple [.str z]], .tuple [.list [.str z]], .tuple []]
def th3 (z : Str) : List Pd := [.tuple [.str "", .str z, .str (Txt.mul z 2), .str ""], .tuple [.bool true], .tuple [.dict []], .tuple [.str "-"], .tuple [.str (z ++ S " ")], .dict [(.str z, .int 1)]]
section
variable {c : Code} {a : Nat}
theorem isW_mul (ha : a ∈ tl c.s) {k : Int} (hk : k.toNat ≤ 4) : isW4 c.s (.str (Txt.mul (sg1 a) k)) = true := by
  show (decide (∀ c' ∈ tl (Txt.mul (sg1 a) k), c' ∈ tl c.s) && decide ((tl (Txt.mul (sg1 a) k)).length ≤ 4)) = true
  rw [Bool.and_eq_true, decide_eq_true_iff, decide_eq_true_iff, tl_mul1, List.length_replicate]
  refine ⟨fun x hx => ?_, hk⟩
  rw [List.eq_of_mem_replicate hx]
  exact ha
theorem isW_one (ha : a ∈ tl c.s) : isW4 c.s (.str (sg1 a)) = true := by
  show (decide (∀ c' ∈ tl (sg1 a), c' ∈ tl c.s) && decide ((tl (sg1 a)).length ≤ 4)) = true
  rw [Bool.and_eq_true, decide_eq_true_iff, decide_eq_true_iff]
  refine ⟨fun x hx => ?_, by show (1 : Nat) ≤ 4; omega⟩
  have : x = a := List.mem_singleton.mp hx
  rw [this]
  exact ha
theorem isW_nil : isW4 c.s (.str "") = true := by
  show (decide (∀ c' ∈ tl (Str.ofString ""), c' ∈ tl c.s) && decide ((tl (Str.ofString "")).length ≤ 4)) = true
  have : tl (Str.ofString "") = [] := by decide +kernel
  rw [this]
  simp
theorem isW_no {x : Str} {n : Nat} (hs : SgOk c.s) (hx : n ∈ tl x) (hn : n < 97) : isW4 c.s (.str x) = false := by
  show (decide (∀ c' ∈ tl x, c' ∈ tl c.s) && decide ((tl x).length ≤ 4)) = false
  rw [Bool.and_eq_false_iff]
  left
  refine decide_eq_false fun h => ?_
  have := hs.let' n (h n hx)
  omega
theorem th_no (hs : SgOk c.s) (ha : a ∈ tl c.s) : ∀ d ∈ th1 (sg1 a) ++ th2 (sg1 a) ++ th3 (sg1 a), m_check_words [.d c.d, .d d] = .ex noW [.d c.d, .d d] := by
  have lz : (sg1 a).length = 1 := by rw [len_tl]; rfl
  have lm : ∀ k : Int, (Txt.mul (sg1 a) k).length = k.toNat := fun k => by rw [len_tl, tl_mul1, List.length_replicate]
  have l0 : (Str.ofString "").length = 0 := by decide +kernel
  have w1 := isW_one ha
  have w2 := isW_mul (k := 2) ha (by decide)
  have w0 := isW_nil (c := c)
  have o0 : okP (.str "") = true := by decide +kernel
  have oz : okP (.str (sg1 a)) = true := by simp only [okP, decide_eq_true_eq]; omega
  have bad : ∀ {x : Pd}, okP x = true → isW4 c.s x = false → m_check_words [.d c.d, .d (.tuple [x])] = .ex noW [.d c.d, .d (.tuple [x])] := fun {x} h1 h2 => cw_bad (by simp) (by simp) (fun y hy => by rw [List.mem_singleton.mp hy]; exact h1) (by simp [h2])
  have bad2 : ∀ {y x : Pd}, okP y = true → okP x = true → isW4 c.s x = false → m_check_words [.d c.d, .d (.tuple [y, x])] = .ex noW [.d c.d, .d (.tuple [y, x])] := fun {y x} h0 h1 h2 => cw_bad (by simp) (by simp) (fun u hu => by
    simp only [List.mem_cons, List.not_mem_nil, or_false] at hu
    rcases hu with rfl | rfl
    · exact h0
    · exact h1) (by simp [h2])
  intro d hd
  unfold th1 th2 th3 at hd
  simp only [List.mem_append, List.mem_cons, List.not_mem_nil, or_false] at hd
  rcases hd with ((rfl | rfl | rfl | rfl | rfl | rfl | rfl) | (rfl | rfl | rfl | rfl | rfl | rfl | rfl | rfl | rfl | rfl | rfl | rfl)) | (rfl | rfl | rfl | rfl | rfl | rfl)
  · exact cw_len (.inl rfl)
  · exact cw_len (.inr ⟨by show 4 < 5; omega, by show 5 ≤ 1000; omega⟩)
  · exact cw_twice (ws := [sg1 a, sg1 a]) (by show 1 ≤ 2; omega) (by show 2 ≤ 4; omega) (by simp [w1]) (by simp)
  · refine bad (by simp only [okP, decide_eq_true_eq]; rw [lm]; decide) ?_
    show (decide (∀ c' ∈ tl (Txt.mul (sg1 a) 5), c' ∈ tl c.s) && decide ((tl (Txt.mul (sg1 a) 5)).length ≤ 4)) = false
    rw [Bool.and_eq_false_iff]
    right
    rw [tl_mul1, List.length_replicate]
    decide
  · exact bad (by decide +kernel) (isW_no (n := 81) hs (by decide +kernel) (by omega))
  · exact bad (by decide +kernel) (isW_no (n := 35) hs (by decide +kernel) (by omega))
  · exact bad2 o0 (by decide +kernel) (isW_no (n := 35) hs (by decide +kernel) (by omega))
  · exact cw_nt rfl
  · exact cw_nt rfl
  · exact cw_nt rfl
  · exact cw_nt rfl
  · exact cw_nt rfl
  · exact cw_nt rfl
  · exact cw_nt rfl
  · exact bad rfl rfl
  · exact bad2 oz rfl rfl
  · exact bad rfl rfl
  · exact bad rfl rfl
  · exact cw_len (.inl rfl)
  · exact cw_twice (ws := [Str.ofString "", sg1 a, Txt.mul (sg1 a) 2, Str.ofString ""]) (by show 1 ≤ 4; omega) (by show 4 ≤ 4; omega) (by simp [w0, w1, w2]) (by simp)
  · exact bad rfl rfl
  · exact bad rfl rfl
  · exact bad (by decide +kernel) (isW_no (n := 45) hs (by decide +kernel) (by omega))
  · refine bad ?_ (isW_no (n := 32) hs (by rw [tl_append]; exact List.mem_append_right _ (by decide +kernel)) (by omega))
    have : (sg1 a ++ S " ").length = 2 := by
      rw [len_tl, tl_append, List.length_append]
      have l2 : (tl (S " ")).length = 1 := by decide +kernel
      rw [l2]
      rfl
    simp only [okP, decide_eq_true_eq]
    omega
  · exact cw_nt rfl
theorem good_ok (ha : a ∈ tl c.s) : WdsOk c [Str.ofString "", sg1 a, Txt.mul (sg1 a) 2, Txt.mul (sg1 a) 4] := by
  have t0 : tl (Str.ofString "") = [] := by decide +kernel
  have t1 : tl (sg1 a) = [a] := rfl
  have t2 : tl (Txt.mul (sg1 a) 2) = [a, a] := tl_mul1 a 2
  have t4 : tl (Txt.mul (sg1 a) 4) = [a, a, a, a] := tl_mul1 a 4
  have ne : ∀ {x y : Str}, (tl x).length ≠ (tl y).length → x ≠ y := fun h z => h (by rw [z])
  have n01 : Str.ofString "" ≠ sg1 a := ne (by rw [t0, t1]; simp)
  have n02 : Str.ofString "" ≠ Txt.mul (sg1 a) 2 := ne (by rw [t0, t2]; simp)
  have n04 : Str.ofString "" ≠ Txt.mul (sg1 a) 4 := ne (by rw [t0, t4]; simp)
  have n12 : sg1 a ≠ Txt.mul (sg1 a) 2 := ne (by rw [t1, t2]; simp)
  have n14 : sg1 a ≠ Txt.mul (sg1 a) 4 := ne (by rw [t1, t4]; simp)
  have n24 : Txt.mul (sg1 a) 2 ≠ Txt.mul (sg1 a) 4 := ne (by rw [t2, t4]; simp)
  refine ⟨by show 1 ≤ 4; omega, by show 4 ≤ 4; omega, by simp [n01, n02, n04, n12, n14, n24], fun w hw x hx => ?_, fun w hw => ?_⟩
  · simp only [List.mem_cons, List.not_mem_nil, or_false] at hw
    rcases hw with rfl | rfl | rfl | rfl
    · rw [t0] at hx; cases hx
    · rw [t1] at hx; simp at hx; rw [hx]; exact ha
    · rw [t2] at hx; simp at hx; rw [hx]; exact ha
    · rw [t4] at hx; simp at hx; rw [hx]; exact ha
  · simp only [List.mem_cons, List.not_mem_nil, or_false] at hw
    rcases hw with rfl | rfl | rfl | rfl
    · rw [t0]; simp
    · rw [t1]; simp
    · rw [t2]; simp
    · rw [t4]; simp
end
theorem one_turn {ns : List Int} (hb : ∀ z ∈ ns, Dt.bits z ≤ 1048576) {cd s2 : Pd} {TH : List Pd} (hl : TH.length = 25) (hth : ∀ d ∈ TH, m_check_words [.d cd, .d d] = .ex noW [.d cd, .d d]) {k : Nat} (hk : k < 64) {t5 : Sl} (i5 : isIo t5 = false) :
    ∃ d, fb_law_0 [.d (.list (ns.map PyData.int)), .d cd, .d s2, .d (.list TH), .d (.int k), t5, .no, .no] = .ok .nx [.d (.list (ns.map PyData.int)), .d cd, .d s2, .d (.list TH), .d (.int k), .d d, .no, .no] := by
  obtain ⟨n0, e0⟩ := m_pack ns hb k hk
  obtain ⟨d, n1, d0, d1, ed⟩ := take_ex n0 25 (by omega) (by omega)
  obtain ⟨j, rfl⟩ : ∃ j : Nat, d = (j : Int) := ⟨d.toNat, by omega⟩
  have hj : j < TH.length := by omega
  have hx : ixD (.list TH) (.int (j : Int)) = some TH[j] := by
    show atI TH (j : Int) = _
    unfold atI ixN
    rw [if_pos (by omega), if_pos (by omega)]
    show TH[((j : Int)).toNat]? = _
    rw [Int.toNat_natCast]
    exact List.getElem?_eq_getElem hj
  have hd := hth _ (List.getElem_mem hj)
  have r0 := m_ref hd (k := 0) (.inl rfl)
  have r1 := m_ref hd (k := 1) (.inr (.inl rfl))
  have r2 := m_ref hd (k := 2) (.inr (.inr rfl))
  have el : lenD [.list TH] = some (.int 25) := by simp [hl, sizeLine]
  generalize TH[j] = th at *
  refine ⟨th, ?_⟩
  generalize ns.map PyData.int = NS at *
  generalize ((j : Nat) : Int) = ji at *
  generalize ((k : Nat) : Int) = ki at *
  have s1 : fAsg (f2 ixD (fVar 3) (fCallT 1 m__law_take (fCallL 2 m__law_pack (fCons (fVar 0) (fCons (fVar 4) fNil))) (fCons (fCB lenD (fCons (fVar 3) fNil)) fNil))) (put 5) [.d (.list NS), .d cd, .d s2, .d (.list TH), .d (.int ki), t5, .no, .no] = .ok .nx [.d (.list NS), .d cd, .d s2, .d (.list TH), .d (.int ki), .d th, .no, .no] := by
    have p1 : fCallL 2 m__law_pack (fCons (fVar 0) (fCons (fVar 4) fNil)) [.d (.list NS), .d cd, .d s2, .d (.list TH), .d (.int ki), t5, .no, .no] = .ok [.int n0] [.d (.list NS), .d cd, .d s2, .d (.list TH), .d (.int ki), t5, .no, .no] := by
      simp [e0]
    have p2 : (fCons (fCB lenD (fCons (fVar 3) fNil)) fNil) [.d (.list NS), .d cd, .d s2, .d (.list TH), .d (.int ki), t5, .no, .no] = .ok [.d (.int 25)] [.d (.list NS), .d cd, .d s2, .d (.list TH), .d (.int ki), t5, .no, .no] := by
      generalize lenD = ln at *
      simp [el]
    have q := fCallT_ok (n := 1) (g := m__law_take) (fa := fCons (fCB lenD (fCons (fVar 3) fNil)) fNil) (as := [.d (.int 25)]) (xs := [.int 25]) (ρ2 := [.d (.list NS), .d cd, .d s2, .d (.list TH), .d (.int ki), t5, .no, .no]) p1 p2 rfl ed
    generalize fCallT 1 m__law_take (fCallL 2 m__law_pack (fCons (fVar 0) (fCons (fVar 4) fNil))) (fCons (fCB lenD (fCons (fVar 3) fNil)) fNil) = g at *
    generalize ixD = ix at *
    simp [q, hx, put_eq, i5]
  have s2' : fLc (fRng1 (fCons (fC (.int 3)) fNil)) (put 7) (fun ρ => .ok true ρ) ce_law_1 [7] [.d (.list NS), .d cd, .d s2, .d (.list TH), .d (.int ki), .d th, .no, .no] = .ok [.bool true, .bool true, .bool true] [.d (.list NS), .d cd, .d s2, .d (.list TH), .d (.int ki), .d th, .no, .no] := by
    have hr : fRng1 (fCons (fC (.int 3)) fNil) [.d (.list NS), .d cd, .d s2, .d (.list TH), .d (.int ki), .d th, .no, .no] = .ok ([(0 : Int), 1, 2].map PyData.int) [.d (.list NS), .d cd, .d s2, .d (.list TH), .d (.int ki), .d th, .no, .no] := rfl
    rw [fLc_ap, if_pos (show okW _ [7] = true from rfl), hr]
    have key := lc_mapM (h := put 7) (fe := ce_law_1) (vs := [7]) PyData.int (fun _ => PyData.bool true) (ρ := [.d (.list NS), .d cd, .d s2, .d (.list TH), .d (.int ki), .d th, .no, .no]) (l := [(0 : Int), 1, 2]) (fun x hx => by
      have rx : m__law_refused [.d cd, .d th, .d (.int x)] = .ok (.d (.bool true)) [.d cd, .d th, .d (.int x)] := by
        simp only [List.mem_cons, List.not_mem_nil, or_false] at hx
        rcases hx with rfl | rfl | rfl
        · exact r0
        · exact r1
        · exact r2
      refine ⟨[.d (.list NS), .d cd, .d s2, .d (.list TH), .d (.int ki), .d th, .no, .d (.int x)], [.d (.list NS), .d cd, .d s2, .d (.list TH), .d (.int ki), .d th, .no, .d (.int x)], rfl, ?_, rfl⟩
      unfold ce_law_1
      generalize m__law_refused = g at *
      simp [rx]) (by simp)
    exact key
  unfold fb_law_0
  rw [fSeq_nx s1]
  have ea : allD [.list [.bool true, .bool true, .bool true]] = some (.bool true) := rfl
  generalize fLc (fRng1 (fCons (fC (.int 3)) fNil)) (put 7) (fun ρ => .ok true ρ) ce_law_1 [7] = g at *
  generalize allD = ad at *
  simp [s2', ea, sizeLine]
theorem math (ns : List Int) (h : ns.length ≤ 63) (hb : ∀ z ∈ ns, Dt.bits z ≤ 1048576) : ∃ as', m_law [.d (.list (ns.map PyData.int))] = .ok (.d (.bool true)) as' := by
  obtain ⟨n0, e0⟩ := m_pack ns hb 0 (by omega)
  obtain ⟨c, n2, hc, hz, ec⟩ := m_code n0 2 (by omega) (by omega)
  have h22 : ((2 : Nat) : Int) = 2 := rfl
  have h00 : ((0 : Nat) : Int) = 0 := rfl
  rw [h22] at ec
  rw [h00] at e0
  obtain ⟨a, l, hal⟩ : ∃ a l, tl c.s = a :: l := by
    cases h : tl c.s with
    | nil => have := hc.s.l1; rw [h] at this; simp at this
    | cons a l => exact ⟨a, l, rfl⟩
  have ha : a ∈ tl c.s := by rw [hal]; simp
  have hsl : c.s.length ≤ 16777216 := by rw [len_tl]; have := hc.s.l3; omega
  have i0 := ix_first hsl hal
  have hcd : ixD c.d (.int 0) = some (.str c.s) := by
    show atI _ 0 = _
    exact at0 _ _
  have hw := good_ok (c := c) ha
  have eo := m_outc hc (by omega) hw
  have ei := m_idl hc (by omega) hw
  have hth := th_no hc.s ha
  have n1 : m_check_words [.d c.d, .d (.tuple [.str (sg1 a), .list [.str (sg1 a)]])] = .ex noW [.d c.d, .d (.tuple [.str (sg1 a), .list [.str (sg1 a)]])] := by
    refine cw_bad (by simp) (by simp) (fun u hu => ?_) ?_
    · simp only [List.mem_cons, List.not_mem_nil, or_false] at hu
      have lz : (sg1 a).length = 1 := by rw [len_tl]; rfl
      rcases hu with rfl | rfl
      · simp only [okP, decide_eq_true_eq]; omega
      · rfl
    · rw [List.all_cons, List.all_cons]
      show (isW4 c.s (.str (sg1 a)) && (false && _)) = false
      simp
  have n2' : m_check_words [.d c.d, .d (.tuple [.str (sg1 a), .str (sg1 a)])] = .ex noW [.d c.d, .d (.tuple [.str (sg1 a), .str (sg1 a)])] := hth _ (by simp [th1])
  have r1 := m_ref n1 (k := 0) (.inl rfl)
  have r2 := m_ref n2' (k := 1) (.inr (.inl rfl))
  have hTl : (th1 (sg1 a) ++ th2 (sg1 a) ++ th3 (sg1 a)).length = 25 := rfl
  have u2 : mulC (.str (sg1 a)) (.int 2) = some (.str (Txt.mul (sg1 a) 2)) := rfl
  have u3 : mulC (.str (sg1 a)) (.int 3) = some (.str (Txt.mul (sg1 a) 3)) := rfl
  have u4 : mulC (.str (sg1 a)) (.int 4) = some (.str (Txt.mul (sg1 a) 4)) := rfl
  have u5 : mulC (.str (sg1 a)) (.int 5) = some (.str (Txt.mul (sg1 a) 5)) := rfl
  have v1 : addD (.list (th1 (sg1 a))) (.list (th2 (sg1 a))) = some (.list (th1 (sg1 a) ++ th2 (sg1 a))) := by
    show (if 7 + 12 ≤ sizeLine then some _ else none) = _
    rw [if_pos (by unfold sizeLine; omega)]
  have v2 : addD (.list (th1 (sg1 a) ++ th2 (sg1 a))) (.list (th3 (sg1 a))) = some (.list (th1 (sg1 a) ++ th2 (sg1 a) ++ th3 (sg1 a))) := by
    show (if 19 + 6 ≤ sizeLine then some _ else none) = _
    rw [if_pos (by unfold sizeLine; omega)]
  have v3 : addD (.str (sg1 a)) (.str " ") = some (.str (sg1 a ++ S " ")) := by
    have lz : (sg1 a).length = 1 := by rw [len_tl]; rfl
    have l2 : (Str.ofString " ").length = 1 := by decide +kernel
    show (if (sg1 a).length + (Str.ofString " ").length ≤ sizeLine then some _ else none) = _
    rw [if_pos (by unfold sizeLine; omega)]
  have sl : slD (.tuple [.str (sg1 a), .str ""]) none (some 0) = some (.tuple []) := rfl
  have dk : fDisp1 (fVar 2) (fC (.int 1)) [.d (.list (ns.map PyData.int)), .d c.d, .d (.str (sg1 a)), .d (.list (th1 (sg1 a) ++ th2 (sg1 a))), .no, .no, .no, .no] = .ok (.d (.dict [(.str (sg1 a), .int 1)])) [.d (.list (ns.map PyData.int)), .d c.d, .d (.str (sg1 a)), .d (.list (th1 (sg1 a) ++ th2 (sg1 a))), .no, .no, .no, .no] := rfl
  obtain ⟨ρ', lp, t4, t5, i4, i5, rfl⟩ := for_inv (h := put 4) (fb := fb_law_0) (xs := ([1, 2, 3] : List Nat).map fun (k : Nat) => PyData.int (k : Int)) (ρ := [.d (.list (ns.map PyData.int)), .d c.d, .d (.str (sg1 a)), .d (.list (th1 (sg1 a) ++ th2 (sg1 a) ++ th3 (sg1 a))), .no, .no, .no, .no])
    (fun i ρ => ∃ t4 t5, isIo t4 = false ∧ isIo t5 = false ∧ ρ = [.d (.list (ns.map PyData.int)), .d c.d, .d (.str (sg1 a)), .d (.list (th1 (sg1 a) ++ th2 (sg1 a) ++ th3 (sg1 a))), t4, t5, .no, .no])
    (fun i x ρ hx hI => by
      obtain ⟨t4, t5, i4, i5, rfl⟩ := hI
      rw [List.getElem?_map] at hx
      obtain ⟨k, hk1, rfl⟩ := Option.map_eq_some_iff.mp hx
      have hk : k < 64 := by
        have := List.mem_of_getElem? hk1
        simp only [List.mem_cons, List.not_mem_nil, or_false] at this
        omega
      obtain ⟨d, e⟩ := one_turn (ns := ns) hb (cd := c.d) (s2 := .str (sg1 a)) hTl hth hk i5
      refine ⟨_, _, ?_, .inl e, _, _, rfl, rfl, rfl⟩
      generalize th1 (sg1 a) ++ th2 (sg1 a) ++ th3 (sg1 a) = TH
      simp [put_eq, i4])
    ⟨.no, .no, rfl, rfl, rfl⟩
  have lp : forRun (put 4) fb_law_0 [.int 1, .int 2, .int 3] [.d (.list (ns.map PyData.int)), .d c.d, .d (.str (sg1 a)), .d (.list (th1 (sg1 a) ++ th2 (sg1 a) ++ th3 (sg1 a))), .no, .no, .no, .no] = .ok .nx [.d (.list (ns.map PyData.int)), .d c.d, .d (.str (sg1 a)), .d (.list (th1 (sg1 a) ++ th2 (sg1 a) ++ th3 (sg1 a))), t4, t5, .no, .no] := lp
  have s1 : fAsg (fCallT 1 m__law_code (fCallL 2 m__law_pack (fCons (fVar 0) (fCons (fC (.int 0)) fNil))) (fCons (fC (.int 2)) fNil)) (put 1) [.d (.list (ns.map PyData.int)), .no, .no, .no, .no, .no, .no, .no] = .ok .nx [.d (.list (ns.map PyData.int)), .d c.d, .no, .no, .no, .no, .no, .no] := by
    clear hth r1 r2 lp eo ei
    generalize ns.map PyData.int = NS at *
    generalize c.d = cd at *
    have p1 : fCallL 2 m__law_pack (fCons (fVar 0) (fCons (fC (.int 0)) fNil)) [.d (.list NS), .no, .no, .no, .no, .no, .no, .no] = .ok [.int n0] [.d (.list NS), .no, .no, .no, .no, .no, .no, .no] := by
      simp [e0]
    have q := fCallT_ok (n := 1) (g := m__law_code) (fa := fCons (fC (.int 2)) fNil) (as := [.d (.int 2)]) (xs := [.int 2]) (ρ2 := [.d (.list NS), .no, .no, .no, .no, .no, .no, .no]) p1 (by simp) rfl ec
    generalize fCallT 1 m__law_code (fCallL 2 m__law_pack (fCons (fVar 0) (fCons (fC (.int 0)) fNil))) (fCons (fC (.int 2)) fNil) = g at *
    simp [q, put_eq]
  have s2 : fAsg (f2 ixD (f2 ixD (fVar 1) (fC (.int 0))) (fC (.int 0))) (put 2) [.d (.list (ns.map PyData.int)), .d c.d, .no, .no, .no, .no, .no, .no] = .ok .nx [.d (.list (ns.map PyData.int)), .d c.d, .d (.str (sg1 a)), .no, .no, .no, .no, .no] := by
    clear hth r1 r2 lp eo ei
    generalize ns.map PyData.int = NS at *
    generalize c.d = cd at *
    generalize ixD = ix at *
    simp [hcd, i0, put_eq]
  have s3 : fAsg (fL (fLst (fCons (fTup fNil) (fCons (fTup (fCons (fC (.str "")) (fCons (fVar 2) (fCons (f2 mulC (fVar 2) (fC (.int 2))) (fCons (f2 mulC (fVar 2) (fC (.int 3))) (fCons (f2 mulC (fVar 2) (fC (.int 4))) fNil)))))) (fCons (fTup (fCons (fVar 2) (fCons (fVar 2) fNil))) (fCons (fTup (fCons (f2 mulC (fVar 2) (fC (.int 5))) fNil)) (fCons (fTup (fCons (fC (.str "Q")) fNil)) (fCons (fTup (fCons (fC (.str "#")) fNil)) (fCons (fTup (fCons (fC (.str "")) (fCons (fC (.str "#")) fNil))) fNil))))))))) (put 3) [.d (.list (ns.map PyData.int)), .d c.d, .d (.str (sg1 a)), .no, .no, .no, .no, .no] = .ok .nx [.d (.list (ns.map PyData.int)), .d c.d, .d (.str (sg1 a)), .d (.list (th1 (sg1 a))), .no, .no, .no, .no] := by
    clear hth r1 r2 lp eo ei s1 s2
    unfold th1
    generalize ns.map PyData.int = NS at *
    generalize c.d = cd at *
    generalize mulC = mc at *
    simp [u2, u3, u4, u5, put_eq, sizeLine]
  have s4 : fAsg (f2 addD (fVar 3) (fL (fLst (fCons (fVar 2) (fCons (fL (fLst (fCons (fVar 2) fNil))) (fCons (fC .none) (fCons (fC (.int 7)) (fCons (fC (.bool true)) (fCons (fC (.dict [])) (fCons (fC (.str "")) (fCons (fTup (fCons (fC .none) fNil)) (fCons (fTup (fCons (fVar 2) (fCons (fC (.int 7)) fNil))) (fCons (fTup (fCons (fTup (fCons (fVar 2) fNil)) fNil)) (fCons (fTup (fCons (fL (fLst (fCons (fVar 2) fNil))) fNil)) (fCons (fSl slD (fTup (fCons (fVar 2) (fCons (fC (.str "")) fNil))) fNoPart (fPart (fC (.int 0)))) fNil))))))))))))))) (put 3) [.d (.list (ns.map PyData.int)), .d c.d, .d (.str (sg1 a)), .d (.list (th1 (sg1 a))), .no, .no, .no, .no] = .ok .nx [.d (.list (ns.map PyData.int)), .d c.d, .d (.str (sg1 a)), .d (.list (th1 (sg1 a) ++ th2 (sg1 a))), .no, .no, .no, .no] := by
    clear hth r1 r2 lp eo ei s1 s2 s3
    generalize th1 (sg1 a) ++ th2 (sg1 a) = T12 at *
    generalize th1 (sg1 a) = T1 at *
    unfold th2 at v1
    generalize ns.map PyData.int = NS at *
    generalize c.d = cd at *
    generalize addD = ad at *
    generalize slD = sd at *
    simp [v1, sl, put_eq, sizeLine]
  have s5 : fAsg (f2 addD (fVar 3) (fL (fLst (fCons (fTup (fCons (fC (.str "")) (fCons (fVar 2) (fCons (f2 mulC (fVar 2) (fC (.int 2))) (fCons (fC (.str "")) fNil))))) (fCons (fTup (fCons (fC (.bool true)) fNil)) (fCons (fTup (fCons (fC (.dict [])) fNil)) (fCons (fTup (fCons (fC (.str "-")) fNil)) (fCons (fTup (fCons (f2 addD (fVar 2) (fC (.str " "))) fNil)) (fCons (fDisp1 (fVar 2) (fC (.int 1))) fNil))))))))) (put 3) [.d (.list (ns.map PyData.int)), .d c.d, .d (.str (sg1 a)), .d (.list (th1 (sg1 a) ++ th2 (sg1 a))), .no, .no, .no, .no] = .ok .nx [.d (.list (ns.map PyData.int)), .d c.d, .d (.str (sg1 a)), .d (.list (th1 (sg1 a) ++ th2 (sg1 a) ++ th3 (sg1 a))), .no, .no, .no, .no] := by
    clear hth r1 r2 lp eo ei s1 s2 s3 s4
    generalize th1 (sg1 a) ++ th2 (sg1 a) ++ th3 (sg1 a) = T13 at *
    generalize th1 (sg1 a) ++ th2 (sg1 a) = T12 at *
    unfold th3 at v2
    generalize ns.map PyData.int = NS at *
    generalize c.d = cd at *
    generalize addD = ad at *
    generalize mulC = mc at *
    generalize fDisp1 (fVar 2) (fC (.int 1)) = dp at *
    simp [v2, v3, u2, dk, put_eq, sizeLine]
  have s6 : fFor (fRng2 (fCons (fC (.int 1)) (fCons (fC (.int 4)) fNil))) (put 4) fb_law_0 [.d (.list (ns.map PyData.int)), .d c.d, .d (.str (sg1 a)), .d (.list (th1 (sg1 a) ++ th2 (sg1 a) ++ th3 (sg1 a))), .no, .no, .no, .no] = .ok .nx [.d (.list (ns.map PyData.int)), .d c.d, .d (.str (sg1 a)), .d (.list (th1 (sg1 a) ++ th2 (sg1 a) ++ th3 (sg1 a))), t4, t5, .no, .no] := by
    have hr : fRng2 (fCons (fC (.int 1)) (fCons (fC (.int 4)) fNil)) [.d (.list (ns.map PyData.int)), .d c.d, .d (.str (sg1 a)), .d (.list (th1 (sg1 a) ++ th2 (sg1 a) ++ th3 (sg1 a))), .no, .no, .no, .no] = .ok [.int 1, .int 2, .int 3] [.d (.list (ns.map PyData.int)), .d c.d, .d (.str (sg1 a)), .d (.list (th1 (sg1 a) ++ th2 (sg1 a) ++ th3 (sg1 a))), .no, .no, .no, .no] := rfl
    rw [fFor_ap, hr]
    exact lp
  have hwd : wdsD [Str.ofString "", sg1 a, Txt.mul (sg1 a) 2, Txt.mul (sg1 a) 4] = .tuple [.str "", .str (sg1 a), .str (Txt.mul (sg1 a) 2), .str (Txt.mul (sg1 a) 4)] := rfl
  rw [hwd] at eo ei
  have ew : ∃ ρ, w_law [.d (.list (ns.map PyData.int)), .no, .no, .no, .no, .no, .no, .no] = .ok (.rt (.bool true)) (.d (.list (ns.map PyData.int)) :: ρ) := by
    unfold w_law
    rw [fSeq_nx s1, fSeq_nx s2, fSeq_nx s3, fSeq_nx s4, fSeq_nx s5, fSeq_nx s6]
    clear hth lp s1 s2 s3 s4 s5 s6 hw hTl v1 v2 v3 sl dk n1 n2'
    generalize outL (gL c [Str.ofString "", sg1 a, Txt.mul (sg1 a) 2, Txt.mul (sg1 a) 4]) (ordsOf c) = OL at *
    generalize (idl c [Str.ofString "", sg1 a, Txt.mul (sg1 a) 2, Txt.mul (sg1 a) 4]).map PyData.str = IL at *
    generalize th1 (sg1 a) ++ th2 (sg1 a) ++ th3 (sg1 a) = TH at *
    generalize c.d = cd at *
    generalize ns.map PyData.int = NS at *
    have s7 : fIfS (fOr (fNot (fTest (fCall 3 m__law_refused (fCons (fVar 1) (fCons (fTup (fCons (fVar 2) (fCons (fL (fLst (fCons (fVar 2) fNil))) fNil))) (fCons (fC (.int 0)) fNil)))))) (fNot (fTest (fCall 3 m__law_refused (fCons (fVar 1) (fCons (fTup (fCons (fVar 2) (fCons (fVar 2) fNil))) (fCons (fC (.int 1)) fNil))))))) (fRet (fC (.bool false))) fNx [.d (.list NS), .d cd, .d (.str (sg1 a)), .d (.list TH), t4, t5, .no, .no] = .ok .nx [.d (.list NS), .d cd, .d (.str (sg1 a)), .d (.list TH), t4, t5, .no, .no] := by
      generalize m__law_refused = g at *
      simp [r1, r2, sizeLine]
    have s8 : fAsg (fTup (fCons (fC (.str "")) (fCons (fVar 2) (fCons (f2 mulC (fVar 2) (fC (.int 2))) (fCons (f2 mulC (fVar 2) (fC (.int 4))) fNil))))) (put 6) [.d (.list NS), .d cd, .d (.str (sg1 a)), .d (.list TH), t4, t5, .no, .no] = .ok .nx [.d (.list NS), .d cd, .d (.str (sg1 a)), .d (.list TH), t4, t5, .d (.tuple [.str "", .str (sg1 a), .str (Txt.mul (sg1 a) 2), .str (Txt.mul (sg1 a) 4)]), .no] := by
      generalize mulC = mc at *
      simp [u2, u4, put_eq, sizeLine]
    rw [fSeq_nx s7, fSeq_nx s8]
    refine ⟨[.d cd, .d (.str (sg1 a)), .d (.list TH), t4, t5, .d (.tuple [.str "", .str (sg1 a), .str (Txt.mul (sg1 a) 2), .str (Txt.mul (sg1 a) 4)]), .no], ?_⟩
    generalize PyData.tuple [.str "", .str (sg1 a), .str (Txt.mul (sg1 a) 2), .str (Txt.mul (sg1 a) 4)] = GW at *
    generalize m_outcomes = mo at *
    generalize m_idle = mi at *
    simp [eo, ei, isTupD]
  obtain ⟨ρ, ew⟩ := ew
  refine ⟨[.d (.list (ns.map PyData.int))], ?_⟩
  show Dt.endF _ (w_law [.d (.list (ns.map PyData.int)), .no, .no, .no, .no, .no, .no, .no]) = _
  rw [ew]
  rfl
end Lw
namespace Lw
open PySem PySem.Spec L2 Evl Dt
theorem facts [WD] {K : PySem.W.Frag} {h : Heap} {mg : Str → Option Value} {f : Addr} (X : K.In h) (G : h.Ns mainGlobals mg) (hfa : mg ("law" : Str) = some (.ref f)) (c : He.SaysD fa fn K) (xb : exB K = true) :
    ∃ (C : Str → Addr) (fd : FuncData), (∀ (s : Shared) (v : Value), BindsTo s fd ⟨[v], []⟩ [("_law_script", v)]) ∧ ∀ base : Heap, K.In base → base.Ns mainGlobals mg → FnOk WD.P WD.w K mg base (L2.CX WD.P WD.w) 12 f fd ["_law_script"] (spF ⟨K, C⟩ 1 m_law) := by
  obtain ⟨fd0, F0⟩ := c.def_ 0 (d := d__law_take) rfl
  obtain ⟨fd1, F1⟩ := c.def_ 1 (d := d__law_names) rfl
  obtain ⟨fd2, F2⟩ := c.def_ 2 (d := d__law_set) rfl
  obtain ⟨fd3, F3⟩ := c.def_ 3 (d := d__law_pattern) rfl
  obtain ⟨fd4, F4⟩ := c.def_ 4 (d := d__law_code) rfl
  obtain ⟨fd5, F5⟩ := c.def_ 5 (d := d__law_mixed) rfl
  obtain ⟨fd6, F6⟩ := c.def_ 6 (d := d__law_pack) rfl
  obtain ⟨fd7, F7⟩ := c.def_ 7 (d := d__law_only) rfl
  obtain ⟨fd8, F8⟩ := c.def_ 8 (d := d_is_text_of) rfl
  obtain ⟨fd9, F9⟩ := c.def_ 9 (d := d_is_word) rfl
  obtain ⟨fd10, F10⟩ := c.def_ 10 (d := d_check_word) rfl
  obtain ⟨fd11, F11⟩ := c.def_ 11 (d := d_check_words) rfl
  obtain ⟨fd12, F12⟩ := c.def_ 12 (d := d_wish_names) rfl
  obtain ⟨fd13, F13⟩ := c.def_ 13 (d := d_all_orders) rfl
  obtain ⟨fd14, F14⟩ := c.def_ 14 (d := d_Road_counts_at) rfl
  obtain ⟨fd15, F15⟩ := c.def_ 15 (d := d_is_order) rfl
  obtain ⟨fd16, F16⟩ := c.def_ 16 (d := d_check_order) rfl
  obtain ⟨fd17, F17⟩ := c.def_ 17 (d := d_steps_of) rfl
  obtain ⟨fd18, F18⟩ := c.def_ 18 (d := d_steps_from) rfl
  obtain ⟨fd19, F19⟩ := c.def_ 19 (d := d_lasts) rfl
  obtain ⟨fd20, F20⟩ := c.def_ 20 (d := d_ranked) rfl
  obtain ⟨fd21, F21⟩ := c.def_ 21 (d := d_Road_offer) rfl
  obtain ⟨fd22, F22⟩ := c.def_ 22 (d := d_is_ended) rfl
  obtain ⟨fd23, F23⟩ := c.def_ 23 (d := d_end_counts) rfl
  obtain ⟨fd24, F24⟩ := c.def_ 24 (d := d_behind) rfl
  obtain ⟨fd25, F25⟩ := c.def_ 25 (d := d_added) rfl
  obtain ⟨fd26, F26⟩ := c.def_ 26 (d := d_is_met) rfl
  obtain ⟨fd27, F27⟩ := c.def_ 27 (d := d_step_counts) rfl
  obtain ⟨fd28, F28⟩ := c.def_ 28 (d := d_Road_settle) rfl
  obtain ⟨fd29, F29⟩ := c.def_ 29 (d := d_Road_init) rfl
  obtain ⟨fd30, F30⟩ := c.def_ 30 (d := d_road_of) rfl
  obtain ⟨fd31, F31⟩ := c.def_ 31 (d := d_least) rfl
  obtain ⟨fd32, F32⟩ := c.def_ 32 (d := d_results_by_order) rfl
  obtain ⟨fd33, F33⟩ := c.def_ 33 (d := d_outcomes) rfl
  obtain ⟨fd34, F34⟩ := c.def_ 34 (d := d_without) rfl
  obtain ⟨fd35, F35⟩ := c.def_ 35 (d := d_is_idle) rfl
  obtain ⟨fd36, F36⟩ := c.def_ 36 (d := d_idle) rfl
  obtain ⟨fd37, F37⟩ := c.def_ 37 (d := d_exchanged) rfl
  obtain ⟨fd38, F38⟩ := c.def_ 38 (d := d_alike_wishes) rfl
  obtain ⟨fd39, F39⟩ := c.def_ 39 (d := d__law_refused) rfl
  obtain ⟨fd40, F40⟩ := c.def_ 40 (d := d_law) rfl
  let T : TX K mg := {
    f__law_take := ⟨_, fd0, F0, He.glo_ok X G (c.fact 0 (f := .glo "_law_take") rfl)⟩,
    f__law_names := ⟨_, fd1, F1, He.glo_ok X G (c.fact 1 (f := .glo "_law_names") rfl)⟩,
    f__law_set := ⟨_, fd2, F2, He.glo_ok X G (c.fact 2 (f := .glo "_law_set") rfl)⟩,
    f__law_pattern := ⟨_, fd3, F3, He.glo_ok X G (c.fact 3 (f := .glo "_law_pattern") rfl)⟩,
    f__law_code := ⟨_, fd4, F4, He.glo_ok X G (c.fact 4 (f := .glo "_law_code") rfl)⟩,
    f__law_mixed := ⟨_, fd5, F5, He.glo_ok X G (c.fact 5 (f := .glo "_law_mixed") rfl)⟩,
    f__law_pack := ⟨_, fd6, F6, He.glo_ok X G (c.fact 6 (f := .glo "_law_pack") rfl)⟩,
    f__law_only := ⟨_, fd7, F7, He.glo_ok X G (c.fact 7 (f := .glo "_law_only") rfl)⟩,
    f_is_text_of := ⟨_, fd8, F8, He.glo_ok X G (c.fact 8 (f := .glo "is_text_of") rfl)⟩,
    f_is_word := ⟨_, fd9, F9, He.glo_ok X G (c.fact 9 (f := .glo "is_word") rfl)⟩,
    f_check_word := ⟨_, fd10, F10, He.glo_ok X G (c.fact 10 (f := .glo "check_word") rfl)⟩,
    f_check_words := ⟨_, fd11, F11, He.glo_ok X G (c.fact 11 (f := .glo "check_words") rfl)⟩,
    f_wish_names := ⟨_, fd12, F12, He.glo_ok X G (c.fact 12 (f := .glo "wish_names") rfl)⟩,
    f_all_orders := ⟨_, fd13, F13, He.glo_ok X G (c.fact 13 (f := .glo "all_orders") rfl)⟩,
    f_Road_counts_at := ⟨fd14, F14⟩,
    f_is_order := ⟨_, fd15, F15, He.glo_ok X G (c.fact 15 (f := .glo "is_order") rfl)⟩,
    f_check_order := ⟨_, fd16, F16, He.glo_ok X G (c.fact 16 (f := .glo "check_order") rfl)⟩,
    f_steps_of := ⟨_, fd17, F17, He.glo_ok X G (c.fact 17 (f := .glo "steps_of") rfl)⟩,
    f_steps_from := ⟨_, fd18, F18, He.glo_ok X G (c.fact 18 (f := .glo "steps_from") rfl)⟩,
    f_lasts := ⟨_, fd19, F19, He.glo_ok X G (c.fact 19 (f := .glo "lasts") rfl)⟩,
    f_ranked := ⟨_, fd20, F20, He.glo_ok X G (c.fact 20 (f := .glo "ranked") rfl)⟩,
    f_Road_offer := ⟨fd21, F21⟩,
    f_is_ended := ⟨_, fd22, F22, He.glo_ok X G (c.fact 22 (f := .glo "is_ended") rfl)⟩,
    f_end_counts := ⟨_, fd23, F23, He.glo_ok X G (c.fact 23 (f := .glo "end_counts") rfl)⟩,
    f_behind := ⟨_, fd24, F24, He.glo_ok X G (c.fact 24 (f := .glo "behind") rfl)⟩,
    f_added := ⟨_, fd25, F25, He.glo_ok X G (c.fact 25 (f := .glo "added") rfl)⟩,
    f_is_met := ⟨_, fd26, F26, He.glo_ok X G (c.fact 26 (f := .glo "is_met") rfl)⟩,
    f_step_counts := ⟨_, fd27, F27, He.glo_ok X G (c.fact 27 (f := .glo "step_counts") rfl)⟩,
    f_Road_settle := ⟨fd28, F28⟩,
    f_Road_init := ⟨fd29, F29⟩,
    f_road_of := ⟨_, fd30, F30, He.glo_ok X G (c.fact 30 (f := .glo "road_of") rfl)⟩,
    f_least := ⟨_, fd31, F31, He.glo_ok X G (c.fact 31 (f := .glo "least") rfl)⟩,
    f_results_by_order := ⟨_, fd32, F32, He.glo_ok X G (c.fact 32 (f := .glo "results_by_order") rfl)⟩,
    f_outcomes := ⟨_, fd33, F33, He.glo_ok X G (c.fact 33 (f := .glo "outcomes") rfl)⟩,
    f_without := ⟨_, fd34, F34, He.glo_ok X G (c.fact 34 (f := .glo "without") rfl)⟩,
    f_is_idle := ⟨_, fd35, F35, He.glo_ok X G (c.fact 35 (f := .glo "is_idle") rfl)⟩,
    f_idle := ⟨_, fd36, F36, He.glo_ok X G (c.fact 36 (f := .glo "idle") rfl)⟩,
    f_exchanged := ⟨_, fd37, F37, He.glo_ok X G (c.fact 37 (f := .glo "exchanged") rfl)⟩,
    f_alike_wishes := ⟨_, fd38, F38, He.glo_ok X G (c.fact 38 (f := .glo "alike_wishes") rfl)⟩,
    f__law_refused := ⟨_, fd39, F39, He.glo_ok X G (c.fact 39 (f := .glo "_law_refused") rfl)⟩,
    f_law := ⟨_, fd40, F40, He.glo_ok X G (c.fact 40 (f := .glo "law") rfl)⟩,
    m_ValueError := He.free_ok X G (c.fact 41 (f := .free "ValueError") rfl),
    m_all := He.free_ok X G (c.fact 42 (f := .free "all") rfl),
    m_dict := He.free_ok X G (c.fact 43 (f := .free "dict") rfl),
    m_divmod := He.free_ok X G (c.fact 44 (f := .free "divmod") rfl),
    m_isinstance := He.free_ok X G (c.fact 45 (f := .free "isinstance") rfl),
    m_len := He.free_ok X G (c.fact 46 (f := .free "len") rfl),
    m_range := He.free_ok X G (c.fact 47 (f := .free "range") rfl),
    m_set := He.free_ok X G (c.fact 48 (f := .free "set") rfl),
    m_sorted := He.free_ok X G (c.fact 49 (f := .free "sorted") rfl),
    m_str := He.free_ok X G (c.fact 50 (f := .free "str") rfl),
    m_sum := He.free_ok X G (c.fact 51 (f := .free "sum") rfl),
    m_tuple := He.free_ok X G (c.fact 52 (f := .free "tuple") rfl),
    m_zip := He.free_ok X G (c.fact 53 (f := .free "zip") rfl),
    y_LadderError := He.glo_ok X G (c.fact 54 (f := .glo "LadderError") rfl),
    y_NoBook := He.glo_ok X G (c.fact 55 (f := .glo "NoBook") rfl),
    y_NoCall := He.glo_ok X G (c.fact 56 (f := .glo "NoCall") rfl),
    y_NoForm := He.glo_ok X G (c.fact 57 (f := .glo "NoForm") rfl),
    y_NoKept := He.glo_ok X G (c.fact 58 (f := .glo "NoKept") rfl),
    y_NoNumber := He.glo_ok X G (c.fact 59 (f := .glo "NoNumber") rfl),
    y_NoOrder := He.glo_ok X G (c.fact 60 (f := .glo "NoOrder") rfl),
    y_NoTelling := He.glo_ok X G (c.fact 61 (f := .glo "NoTelling") rfl),
    y_NoText := He.glo_ok X G (c.fact 62 (f := .glo "NoText") rfl),
    y_NoWeights := He.glo_ok X G (c.fact 63 (f := .glo "NoWeights") rfl),
    y_NoWord := He.glo_ok X G (c.fact 64 (f := .glo "NoWord") rfl),
    y_TooMany := He.glo_ok X G (c.fact 65 (f := .glo "TooMany") rfl),
    c_EDGE := He.str_ok X G (c.fact 66 (f := .str "EDGE" "#") rfl),
    c_MOST_SIGNS_HERE := He.int_ok X G (c.fact 67 (f := .int "MOST_SIGNS_HERE" 4) rfl),
    c_MOST_WORD := He.int_ok X G (c.fact 68 (f := .int "MOST_WORD" 8) rfl),
    c_MOST_WORDS := He.int_ok X G (c.fact 69 (f := .int "MOST_WORDS" 4) rfl),
    x_NoOrder := (fun z => ⟨He.glo_ok X G (c.fact 70 (f := .glo "NoOrder") rfl), z.1, z.2.1, z.2.2.1, z.2.2.2⟩) (He.exc_ok (c.fact 71 (f := .exc "NoOrder") rfl)),
    x_NoWord := (fun z => ⟨He.glo_ok X G (c.fact 72 (f := .glo "NoWord") rfl), z.1, z.2.1, z.2.2.1, z.2.2.2⟩) (He.exc_ok (c.fact 73 (f := .exc "NoWord") rfl)),
    n_Road_code := He.noat_ok (c.fact 74 (f := .noat "Road" "code") rfl),
    n_Road_known := He.noat_ok (c.fact 75 (f := .noat "Road" "known") rfl),
    n_Road_order := He.noat_ok (c.fact 76 (f := .noat "Road" "order") rfl),
    n_Road_word := He.noat_ok (c.fact 77 (f := .noat "Road" "word") rfl),
    mt_Road_counts_at := He.meth_ok (c.fact 78 (f := .meth "Road" "counts_at") rfl),
    mt_Road_offer := He.meth_ok (c.fact 79 (f := .meth "Road" "offer") rfl),
    mt_Road_settle := He.meth_ok (c.fact 80 (f := .meth "Road" "settle") rfl),
    y_Road := ⟨He.glo_ok X G (c.fact 81 (f := .glo "Road") rfl), He.cls_ok (c.fact 82 (f := .cls "Road") rfl), He.mkr_ok (c.fact 83 (f := .mkr "Road") rfl)⟩,
    x_is := okIs_ok (Bool.and_eq_true_iff.mp xb).1,
    x_ex := okEx_ok (Bool.and_eq_true_iff.mp (Bool.and_eq_true_iff.mp xb).2).1,
    x_isValueError := okIsB_ok (Bool.and_eq_true_iff.mp (Bool.and_eq_true_iff.mp xb).2).2 }
  have e := hfa.symm.trans (He.glo_ok X G (c.fact 40 (f := .glo "law") rfl))
  cases e
  have b := FunD.bindsA (ps := ["_law_script"]) F40 fun _ _ _ _ _ _ us hl => match us, hl with | [_], _ => rfl
  exact ⟨fun _ => 0, fd40, fun s v => b s [v] rfl, fun base _ _ => ok_law T⟩
end Lw
open PySem PySem.W PySem.Calls PyProof.Rows
set_option maxHeartbeats 0 in
theorem PySem.Challenge.cw_wishladder_k53_words_that_are_none_holds : PySem.Challenge.rw_wishladder_k53_words_that_are_none.Holds := by
  w_on; o_law
  refine HandSHeadRun.head_any (r := OpenLaw.row PySem.Challenge.rw_wishladder_k53_words_that_are_none) (q := view (OpenLaw.row PySem.Challenge.rw_wishladder_k53_words_that_are_none).prog [62]) (H := Lw.hk) (ob := Lw.ob) (M := 6000) (loose := [("LadderError" : PySem.Str), ("NoText" : PySem.Str), ("NoOrder" : PySem.Str), ("NoWord" : PySem.Str), ("NoNumber" : PySem.Str), ("NoForm" : PySem.Str), ("NoTelling" : PySem.Str), ("NoBook" : PySem.Str), ("TooMany" : PySem.Str), ("NoWeights" : PySem.Str), ("NoCall" : PySem.Str), ("NoKept" : PySem.Str), ("EDGE" : PySem.Str), ("is_text_of" : PySem.Str), ("MOST_WORD" : PySem.Str), ("is_word" : PySem.Str), ("check_word" : PySem.Str), ("wish_names" : PySem.Str), ("is_order" : PySem.Str), ("check_order" : PySem.Str), ("all_orders" : PySem.Str), ("ranked" : PySem.Str), ("lasts" : PySem.Str), ("behind" : PySem.Str), ("steps_of" : PySem.Str), ("is_met" : PySem.Str), ("step_counts" : PySem.Str), ("is_ended" : PySem.Str), ("end_counts" : PySem.Str), ("added" : PySem.Str), ("steps_from" : PySem.Str), ("Road" : PySem.Str), ("road_of" : PySem.Str), ("least" : PySem.Str), ("MOST_WORDS" : PySem.Str), ("MOST_SIGNS_HERE" : PySem.Str), ("check_words" : PySem.Str), ("results_by_order" : PySem.Str), ("outcomes" : PySem.Str), ("without" : PySem.Str), ("is_idle" : PySem.Str), ("idle" : PySem.Str), ("exchanged" : PySem.Str), ("alike_wishes" : PySem.Str), ("_law_mixed" : PySem.Str), ("_law_pack" : PySem.Str), ("_law_take" : PySem.Str), ("_law_names" : PySem.Str), ("_law_set" : PySem.Str), ("_law_pattern" : PySem.Str), ("_law_code" : PySem.Str), ("_law_only" : PySem.Str), ("_law_refused" : PySem.Str)]) (d := HandSHeadRun.topDef (OpenLaw.row PySem.Challenge.rw_wishladder_k53_words_that_are_none).prog 62) (kwd := []) Lw.ob_eq
    (by kernel_rfl) (fun s => by kernel_rfl) Lw.run (by kernel_rfl) (by kernel_rfl) (by kernel_rfl) (by rfl) (by first | assumption | decide +kernel) (by decide +kernel) ⟨rfl, rfl, rfl, rfl, rfl, by decide +kernel⟩ ?hw ?hc
  case hw => w_witness2
  case hc =>
    refine Dt.walk_D (l := PySem.Challenge.rw_wishladder_k53_words_that_are_none) (n := 63) (k := 12) (x := "_law_script") (m := Lw.m_law) rfl (by decide) (by kernel_rfl) ⟨rfl, by decide, by decide⟩ ?F Lw.math
    intro w mg fa h Y G hmg0
    obtain ⟨K, KX, c⟩ := Y
    have hmg : mg ("law" : PySem.Str) = some (.ref fa) := by
      have e : (HandSHeadRun.topDef (OpenLaw.row PySem.Challenge.rw_wishladder_k53_words_that_are_none).prog 62).name = ("law" : PySem.Str) := by kernel_rfl
      rw [← e]
      exact hmg0
    letI : Dt.WD := ⟨(PySem.Challenge.rw_wishladder_k53_words_that_are_none).prog, w⟩
    obtain ⟨C, fd, hb, hF⟩ := Lw.facts KX G hmg c.1 c.2
    exact ⟨K, C, fd, KX, hb, hF⟩
