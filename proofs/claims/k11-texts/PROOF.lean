import PyProof.Rows.All
import Wide.All
import OpenK.AllK
import Wide.FinOn
import HandS.ForMost
import HandS.ForExc
import HandS.Evl
import HandS.IsInst
import HandS.TupAny
import HandS.TupMul
import HandS.Deep
import HandS.Wide
import HandS.WideBits
import HandS.Defaults
import HandS.TupLe
import HandS.Style
import PyProof.EqKinds
import HandS.Head0
import HandS.Head1
import HandS.Head2
import HandS.HeadEnd
import HandS.HeadHook1
import HandS.HeadHook2
import HandS.EndBits
import HandS.Zip
import PyProof.ListStr
import PyProof.TupleOfStr
import HandS.ExcValue
import HandS.ExcField
import KE.KExcIs
import HandS.HeadHook4
import HandS.ExcInit
import PySem.Challenge.RW_wishladder_k11_texts_of_tellings
set_option Elab.async false
set_option linter.all false
set_option maxRecDepth 100000
set_option maxHeartbeats 1000000
/-! Dt: a layer of plain data over the hand layer: slots hold data or owned lists, a def is a function over data. -/
namespace Dt
open PySem PySem.Spec L2 Evl

abbrev Pd := PyData
/-- a key of a dict as data -/
def kD : Key → Pd
  | .inl i => .int i
  | .inr x => .str x

mutual
/-- the value v stands for the data d in the heap H -/
inductive RD (K : PySem.W.Frag) (H : Hp) : V → Pd → Prop
  | non : RD K H .non .none
  | bl (b : Bool) : RD K H (.bl b) (.bool b)
  | int (i : Int) : RD K H (.int i) (.int i)
  | str (x : Str) : RD K H (.str x) (.str x)
  | lst {a : Addr} {xs : List V} {ds : List Pd} (h : SqL K H a xs) (hs : RDs K H xs ds) : RD K H (.ref a) (.list ds)
  | tup {a : Addr} {xs : List V} {ds : List Pd} (h : SqT K H a xs) (hs : RDs K H xs ds) : RD K H (.ref a) (.tuple ds)
  | dct {a : Addr} {kvs : List (Key × V)} {ds : List (Pd × Pd)} (h : H a = some (.dK kvs)) (hs : RKs K H kvs ds) : RD K H (.ref a) (.dict ds)
inductive RDs (K : PySem.W.Frag) (H : Hp) : List V → List Pd → Prop
  | nil : RDs K H [] []
  | cons {v : V} {vs : List V} {d : Pd} {ds : List Pd} (h : RD K H v d) (hs : RDs K H vs ds) : RDs K H (v :: vs) (d :: ds)
inductive RKs (K : PySem.W.Frag) (H : Hp) : List (Key × V) → List (Pd × Pd) → Prop
  | nil : RKs K H [] []
  | cons {k : Key} {v : V} {vs : List (Key × V)} {d : Pd} {ds : List (Pd × Pd)} (h : RD K H v d) (hs : RKs K H vs ds) : RKs K H ((k, v) :: vs) ((kD k, d) :: ds)
end

section
variable {K : PySem.W.Frag} {H H' : Hp}
mutual
theorem RD.mono (e : Ex H H') : ∀ {v : V} {d : Pd}, RD K H v d → RD K H' v d
  | _, _, .non => .non
  | _, _, .bl b => .bl b
  | _, _, .int i => .int i
  | _, _, .str x => .str x
  | _, _, .lst h hs => .lst (ex_l e h) (RDs.mono e hs)
  | _, _, .tup h hs => .tup (ex_t e h) (RDs.mono e hs)
  | _, _, .dct h hs => .dct (e _ _ h) (RKs.mono e hs)
theorem RDs.mono (e : Ex H H') : ∀ {v : List V} {d : List Pd}, RDs K H v d → RDs K H' v d
  | _, _, .nil => .nil
  | _, _, .cons h hs => .cons (RD.mono e h) (RDs.mono e hs)
theorem RKs.mono (e : Ex H H') : ∀ {v : List (Key × V)} {d : List (Pd × Pd)}, RKs K H v d → RKs K H' v d
  | _, _, .nil => .nil
  | _, _, .cons h hs => .cons (RD.mono e h) (RKs.mono e hs)
end
theorem RDs.length : ∀ {vs : List V} {ds : List Pd}, RDs K H vs ds → vs.length = ds.length
  | _, _, .nil => rfl
  | _, _, .cons _ t => congrArg Nat.succ (RDs.length t)
theorem RDs.get : ∀ {vs : List V} {ds : List Pd} {i : Nat} {d : Pd}, RDs K H vs ds → ds[i]? = some d → ∃ v, vs[i]? = some v ∧ RD K H v d
  | _, _, _, _, .nil, e => by simp at e
  | _, _, 0, _, .cons r _, e => by simp at e; subst e; exact ⟨_, rfl, r⟩
  | _, _, i + 1, d, .cons _ t, e => by
    obtain ⟨u, h1, h2⟩ := RDs.get (i := i) (d := d) t (by simpa using e)
    exact ⟨u, by simpa using h1, h2⟩
theorem RDs.get' : ∀ {vs : List V} {ds : List Pd} {i : Nat} {v : V}, RDs K H vs ds → vs[i]? = some v → ∃ d, ds[i]? = some d ∧ RD K H v d
  | _, _, _, _, .nil, e => by simp at e
  | _, _, 0, _, .cons r _, e => by simp at e; subst e; exact ⟨_, rfl, r⟩
  | _, _, i + 1, d, .cons _ t, e => by
    obtain ⟨u, h1, h2⟩ := RDs.get' (i := i) (v := d) t (by simpa using e)
    exact ⟨u, by simpa using h1, h2⟩
theorem RDs.append : ∀ {vs us : List V} {ds es : List Pd}, RDs K H vs ds → RDs K H us es → RDs K H (vs ++ us) (ds ++ es)
  | _, _, _, _, .nil, s => s
  | _, _, _, _, .cons r t, s => .cons r (RDs.append t s)
theorem RDs.take : ∀ {vs : List V} {ds : List Pd} (n : Nat), RDs K H vs ds → RDs K H (vs.take n) (ds.take n)
  | _, _, 0, _ => .nil
  | _, _, _ + 1, .nil => .nil
  | _, _, n + 1, .cons r t => .cons r (RDs.take n t)
theorem RDs.drop : ∀ {vs : List V} {ds : List Pd} (n : Nat), RDs K H vs ds → RDs K H (vs.drop n) (ds.drop n)
  | _, _, 0, r => r
  | _, _, _ + 1, .nil => .nil
  | _, _, n + 1, .cons _ t => RDs.drop n t
theorem RDs.set {x : V} {u : Pd} (r : RD K H x u) : ∀ {vs : List V} {ds : List Pd} (i : Nat), RDs K H vs ds → RDs K H (vs.set i x) (ds.set i u)
  | _, _, _, .nil => .nil
  | _, _, 0, .cons _ t => .cons r t
  | _, _, i + 1, .cons q t => .cons q (RDs.set r i t)
theorem RDs.ofMem : ∀ {vs : List V} {ds : List Pd}, vs.length = ds.length → (∀ (i : Nat) v d, vs[i]? = some v → ds[i]? = some d → RD K H v d) → RDs K H vs ds
  | [], [], _, _ => .nil
  | v :: vs, d :: ds, hl, h => .cons (h 0 v d rfl rfl) (RDs.ofMem (by simpa using hl) fun i a b e1 e2 => h (i + 1) a b (by simpa using e1) (by simpa using e2))
  | [], _ :: _, hl, _ => by simp at hl
  | _ :: _, [], hl, _ => by simp at hl
theorem RDs.reverse {vs : List V} {ds : List Pd} (h : RDs K H vs ds) : RDs K H vs.reverse ds.reverse := by
  refine RDs.ofMem (by simp [h.length]) fun i v d e1 e2 => ?_
  have hl := h.length
  obtain ⟨h1, e1⟩ := List.getElem?_eq_some_iff.mp e1
  obtain ⟨h2, e2⟩ := List.getElem?_eq_some_iff.mp e2
  rw [List.getElem_reverse] at e1 e2
  obtain ⟨v', q1, q2⟩ := h.get (i := vs.length - 1 - i) (d := d) (by rw [← e2, hl, List.getElem?_eq_getElem])
  have : v' = v := by
    have := q1.symm.trans (by rw [List.getElem?_eq_getElem (by simp at h1; omega), e1])
    exact Option.some.inj this
  exact this ▸ q2
theorem RDs.flat : ∀ {ns : List Int}, RDs K H (ns.map V.int) (ns.map PyData.int)
  | [] => .nil
  | n :: ns => .cons (.int n) RDs.flat
end

/-- an exception: its class's name, its fields -/
structure XD where
  c : Str
  fs : Option (List (Str × Pd))
/-- a slot: empty, data, a list that this def owns (io: handed in, to be changed), or an exception that was caught -/
inductive Sl where
  | no
  | d (x : Pd)
  | own (io : Bool) (xs : List Pd)
  | x (e : XD)
abbrev Rho := List Sl
/-- what an expression gives: data, or the list of an owned slot -/
inductive AV where
  | d (x : Pd)
  | sl (i : Nat)
inductive R (A : Type) where
  | bad
  | ok (a : A) (p : Rho)
  | ex (e : XD) (p : Rho)
def R.bind {A B : Type} (r : R A) (k : A → Rho → R B) : R B :=
  match r with
  | .bad => .bad
  | .ok a p => k a p
  | .ex e p => .ex e p

inductive RF (K : PySem.W.Frag) (H : Hp) : List (Str × V) → List (Str × Pd) → Prop
  | nil : RF K H [] []
  | cons {k : Str} {v : V} {vs : List (Str × V)} {d : Pd} {ds : List (Str × Pd)} (h : RD K H v d) (hs : RF K H vs ds) : RF K H ((k, v) :: vs) ((k, d) :: ds)
theorem RF.mono {K : PySem.W.Frag} {H H' : Hp} (e : Ex H H') : ∀ {vs : List (Str × V)} {ds : List (Str × Pd)}, RF K H vs ds → RF K H' vs ds
  | _, _, .nil => .nil
  | _, _, .cons h hs => .cons (h.mono e) (RF.mono e hs)
/-- where the class of a name stands -/
def cA (K : PySem.W.Frag) (x : Str) : Addr := match PySem.W.nsIn K mainGlobals x with
  | some (some (.ref a)) => a
  | _ => 0
/-- an exception object that was caught: its class, its dict -/
def ExN (cls : Value) (d : Option Addr) (a : Addr) : HO := .ext fun h => ∃ (oe : Obj) (vs : Array Value), h.get? a = some oe ∧ Zc cls d oe ∧ oe.data = .fields vs
/-- at a stands the exception e -/
def XH (K : PySem.W.Frag) (Hf : Hp) (a : Addr) (e : XD) : Prop := match e.fs with
  | none => Hf a = some (ExN (.ref (cA K e.c)) none a)
  | some fs => ∃ dd vs, Hf a = some (ExN (.ref (cA K e.c)) (some dd) a) ∧ Hf dd = some (.xd vs) ∧ RF K Hf vs fs
theorem XH.mono {K : PySem.W.Frag} {Hf Hf' : Hp} {a : Addr} {e : XD} (h : XH K Hf a e) (x : Ex Hf Hf') : XH K Hf' a e := by
  unfold XH at h ⊢
  cases ef : e.fs with
  | none => rw [ef] at h; exact x _ _ h
  | some fs =>
    rw [ef] at h
    obtain ⟨dd, vs, h1, h2, h3⟩ := h
    exact ⟨dd, vs, x _ _ h1, x _ _ h2, h3.mono x⟩
/-- slots and heap hold what the data say; Hf: the part that nobody changes any more; O: the addresses of owned lists -/
structure SR (K : PySem.W.Frag) (Hf H : Hp) (O : Addr → Prop) (σ : St) (ρ : Rho) : Prop where
  ex : Ex Hf H
  otr : ∀ a, O a → (∃ o, H a = some o) ∧ Hf a = none
  len : σ.length = ρ.length
  slot : ∀ (i : Nat) x, ρ[i]? = some (.d x) → ∃ v, σ[i]? = some (some v) ∧ RD K Hf v x
  own : ∀ (i : Nat) b xs, ρ[i]? = some (.own b xs) → ∃ l vs, σ[i]? = some (some (.ref l)) ∧ O l ∧ H l = some (.lst vs) ∧ RDs K Hf vs xs
  dis : ∀ (i j : Nat) b c xs ys l, ρ[i]? = some (.own b xs) → ρ[j]? = some (.own c ys) → σ[i]? = some (some (.ref l)) → σ[j]? = some (some (.ref l)) → i = j
  exc : ∀ (i : Nat) e, ρ[i]? = some (.x e) → ∃ a, σ[i]? = some (some (.ref a)) ∧ XH K Hf a e

/-- how the heap may change: all but the owned lists stays -/
structure Gr (O : Addr → Prop) (Hf H Hf' H' : Hp) : Prop where
  ex : Ex Hf Hf'
  fm : ∀ a o, H a = some o → ¬ O a → H' a = some o
  tr : ∀ a o, H a = some o → ∃ o', H' a = some o'
  nw : ∀ a o, Hf' a = some o → Hf a = some o ∨ H a = none ∨ O a
theorem Gr.refl {O : Addr → Prop} {Hf H : Hp} : Gr O Hf H Hf H := ⟨Ex.refl _, fun _ _ h _ => h, fun _ o h => ⟨o, h⟩, fun _ _ h => .inl h⟩
def Orl (O : Addr → Prop) (H : Hp) (O' : Addr → Prop) : Prop := ∀ a, O' a → O a ∨ H a = none
theorem Orl.refl {O : Addr → Prop} {H : Hp} : Orl O H O := fun _ h => .inl h
theorem Gr.gone {O : Addr → Prop} {Hf H Hf' H' : Hp} (g : Gr O Hf H Hf' H') {a : Addr} (h : H' a = none) : H a = none := by
  cases e : H a with
  | none => rfl
  | some o => obtain ⟨o', q⟩ := g.tr a o e; rw [h] at q; cases q
theorem Gr.transO {O O1 : Addr → Prop} {Hf H Hf1 H1 Hf2 H2 : Hp} (a : Gr O Hf H Hf1 H1) (b : Gr O1 Hf1 H1 Hf2 H2) (o : Orl O H O1) : Gr O Hf H Hf2 H2 where
  ex := a.ex.trans b.ex
  fm := fun x u h n => b.fm x u (a.fm x u h n) fun z => by
    rcases o x z with z | z
    · exact n z
    · rw [z] at h; cases h
  tr := fun x u h => by obtain ⟨u1, h1⟩ := a.tr x u h; exact b.tr x u1 h1
  nw := fun x u h => by
    rcases b.nw x u h with z | z | z
    · exact a.nw x u z
    · exact .inr (.inl (a.gone z))
    · rcases o x z with z | z
      · exact .inr (.inr z)
      · exact .inr (.inl z)
theorem Gr.trans {O : Addr → Prop} {Hf H Hf1 H1 Hf2 H2 : Hp} (a : Gr O Hf H Hf1 H1) (b : Gr O Hf1 H1 Hf2 H2) : Gr O Hf H Hf2 H2 := a.transO b Orl.refl
theorem Orl.trans {O O1 O2 : Addr → Prop} {Hf H Hf1 H1 : Hp} (a : Orl O H O1) (b : Orl O1 H1 O2) (g : Gr O Hf H Hf1 H1) : Orl O H O2 := fun x h => by
  rcases b x h with z | z
  · exact a x z
  · exact .inr (g.gone z)
/-- new objects alone -/
structure Pg (Hf H Hf' H' : Hp) : Prop where
  ef : Ex Hf Hf'
  eh : Ex H H'
  ex : Ex Hf' H'
  nw : ∀ a o, Hf' a = some o → Hf a = some o ∨ H a = none
theorem Pg.refl {Hf H : Hp} (h : Ex Hf H) : Pg Hf H Hf H := ⟨Ex.refl _, Ex.refl _, h, fun _ _ q => .inl q⟩
theorem Pg.gr {O : Addr → Prop} {Hf H Hf' H' : Hp} (g : Pg Hf H Hf' H') : Gr O Hf H Hf' H' := ⟨g.ef, fun a o h _ => g.eh a o h, fun a o h => ⟨o, g.eh a o h⟩, fun a o h => (g.nw a o h).elim .inl fun z => .inr (.inl z)⟩
/-- a new object, frozen at once -/
theorem Pg.new {Hf H : Hp} {p : Addr} {o : HO} (e : Ex Hf H) (n : H p = none) : Pg Hf H (upd Hf p o) (upd H p o) := by
  refine ⟨Ex.new (fresh_back e n), Ex.new n, fun a u h => ?_, fun a u h => ?_⟩
  · by_cases z : a = p
    · subst z; rw [upd_same] at h ⊢; exact h
    · rw [upd_ne z] at h ⊢; exact e a u h
  · by_cases z : a = p
    · subst z; exact .inr n
    · rw [upd_ne z] at h; exact .inl h
/-- a new object, not frozen -/
theorem Pg.lay {Hf H : Hp} {p : Addr} {o : HO} (e : Ex Hf H) (n : H p = none) : Pg Hf H Hf (upd H p o) :=
  ⟨Ex.refl _, Ex.new n, e.trans (Ex.new n), fun _ _ h => .inl h⟩
theorem Pg.trans {Hf H Hf1 H1 Hf2 H2 : Hp} (a : Pg Hf H Hf1 H1) (b : Pg Hf1 H1 Hf2 H2) : Pg Hf H Hf2 H2 := by
  refine ⟨a.ef.trans b.ef, a.eh.trans b.eh, b.ex, fun x o h => ?_⟩
  rcases b.nw x o h with z | z
  · exact a.nw x o z
  · exact .inr (fresh_back a.eh z)
theorem SR.grow {K : PySem.W.Frag} {Hf H Hf' H' : Hp} {O : Addr → Prop} {σ : St} {ρ : Rho} (s : SR K Hf H O σ ρ) (g : Pg Hf H Hf' H') : SR K Hf' H' O σ ρ where
  ex := g.ex
  otr := fun a h => by
    obtain ⟨⟨o, h1⟩, h2⟩ := s.otr a h
    refine ⟨⟨o, g.eh a o h1⟩, ?_⟩
    cases e : Hf' a with
    | none => rfl
    | some u =>
      rcases g.nw a u e with z | z
      · rw [h2] at z; cases z
      · rw [h1] at z; cases z
  len := s.len
  slot := fun i x h => by obtain ⟨v, h1, h2⟩ := s.slot i x h; exact ⟨v, h1, h2.mono g.ef⟩
  own := fun i b xs h => by obtain ⟨l, vs, h1, h2, h3, h4⟩ := s.own i b xs h; exact ⟨l, vs, h1, h2, g.eh _ _ h3, h4.mono g.ef⟩
  dis := s.dis
  exc := fun i e h => by obtain ⟨a, h1, h2⟩ := s.exc i e h; exact ⟨a, h1, h2.mono g.ef⟩

/-- the written part, and where the classes of exceptions stand -/
structure Zx where
  K : PySem.W.Frag
  C : Str → Addr
def XR (Z : Zx) (Hf H : Hp) (cls : Value) (d : Option Addr) (e : XD) : Prop :=
  cls = .ref (cA Z.K e.c) ∧ match e.fs with
    | none => d = none
    | some fs => ∃ a vs, d = some a ∧ Hf a = some (.xd vs) ∧ RF Z.K Hf vs fs
/-- the slots that were handed in to be changed stay so -/
def Kp (ρ ρ' : Rho) : Prop := ∀ (i : Nat) xs, ρ[i]? = some (.own true xs) → ∃ ys, ρ'[i]? = some (.own true ys)
theorem Kp.refl {ρ : Rho} : Kp ρ ρ := fun _ xs h => ⟨xs, h⟩
theorem Kp.trans {a b c : Rho} (h : Kp a b) (g : Kp b c) : Kp a c := fun i xs e => by obtain ⟨ys, q⟩ := h i xs e; exact g i ys q

/-- what is wanted behind an expression -/
def PostG {A : Type} (Z : Zx) (W : WX) (O : Addr → Prop) (σ : St) (ρ : Rho) (Hf H : Hp) (S : A → Rho → Hp → Hp → Prop) : R A → Prop
  | .bad => False
  | .ok a ρ' => ∀ Hf' H', SR Z.K Hf' H' O σ ρ' → Gr O Hf H Hf' H' → Kp ρ ρ' → S a ρ' Hf' H'
  | .ex e ρ' => ∀ cls d Hf' H', SR Z.K Hf' H' O σ ρ' → Gr O Hf H Hf' H' → Kp ρ ρ' → XR Z Hf' H' cls d e → W cls d σ H'
theorem PostG.shift {A : Type} {Z : Zx} {W : WX} {O : Addr → Prop} {σ : St} {ρ ρ1 : Rho} {Hf H Hf1 H1 : Hp} {S : A → Rho → Hp → Hp → Prop} {r : R A} (h : PostG Z W O σ ρ Hf H S r) (g : Gr O Hf H Hf1 H1) (k : Kp ρ ρ1) : PostG Z W O σ ρ1 Hf1 H1 S r := by
  cases r with
  | bad => exact h
  | ok a ρ' => exact fun Hf' H' s g' k' => h Hf' H' s (g.trans g') (k.trans k')
  | ex e ρ' => exact fun cls d Hf' H' s g' k' x => h cls d Hf' H' s (g.trans g') (k.trans k') x

/-- the judgement: the reading t does what f says; Rel ties what comes with what is told (H0: the heap ahead) -/
def DJ {C A : Type} (Z : Zx) (W : WX) (Rel : Hp → Hp → Hp → St → C → A → Prop) (t : St → Hp → (C → Hp → Prop) → Prop) (f : Rho → R A) : Prop :=
  ∀ Hf H O σ ρ, SR Z.K Hf H O σ ρ → ∀ Q : C → Hp → Prop, PostG Z W O σ ρ Hf H (fun a _ Hf' H' => ∀ v, Rel H Hf' H' σ v a → Q v H') (f ρ) → t σ H Q
theorem DJ.bind {C A B : Type} {Z : Zx} {W : WX} {Rel : Hp → Hp → Hp → St → C → A → Prop} {t : St → Hp → (C → Hp → Prop) → Prop} {f : Rho → R A} (h : DJ Z W Rel t f) {Hf H : Hp} {O : Addr → Prop} {σ : St} {ρ : Rho} (s : SR Z.K Hf H O σ ρ)
    {S : B → Rho → Hp → Hp → Prop} {k : A → Rho → R B} (p : PostG Z W O σ ρ Hf H S ((f ρ).bind k)) {Q : C → Hp → Prop}
    (c : ∀ a ρ1 v Hf1 H1, SR Z.K Hf1 H1 O σ ρ1 → Gr O Hf H Hf1 H1 → Kp ρ ρ1 → Rel H Hf1 H1 σ v a → PostG Z W O σ ρ1 Hf1 H1 S (k a ρ1) → Q v H1) : t σ H Q := by
  refine h Hf H O σ ρ s Q ?_
  cases e : f ρ with
  | bad => rw [e] at p; exact p
  | ok a ρ1 =>
    rw [e] at p
    exact fun Hf1 H1 s1 g1 k1 v rv => c a ρ1 v Hf1 H1 s1 g1 k1 rv (PostG.shift p g1 k1)
  | ex x ρ1 => rw [e] at p; exact p

def RA (K : PySem.W.Frag) (Hf : Hp) (σ : St) (v : V) : AV → Prop
  | .d x => RD K Hf v x
  | .sl i => σ[i]? = some (some v)
theorem RA.mono {K : PySem.W.Frag} {Hf Hf' : Hp} {σ : St} {v : V} {a : AV} (h : RA K Hf σ v a) (e : Ex Hf Hf') : RA K Hf' σ v a := by
  cases a with
  | d x => exact RD.mono e h
  | sl i => exact h
inductive RAs (K : PySem.W.Frag) (Hf : Hp) (σ : St) : List V → List AV → Prop
  | nil : RAs K Hf σ [] []
  | cons {v : V} {vs : List V} {a : AV} {as : List AV} (h : RA K Hf σ v a) (hs : RAs K Hf σ vs as) : RAs K Hf σ (v :: vs) (a :: as)
def DE (Z : Zx) (W : WX) (t : TE) (f : Rho → R AV) : Prop := DJ Z W (fun _ Hf _ σ v a => RA Z.K Hf σ v a) t f
def DT (Z : Zx) (W : WX) (t : TT) (f : Rho → R Bool) : Prop := DJ Z W (fun _ _ _ _ v a => v = a) t f
def DA (Z : Zx) (W : WX) (t : TA) (f : Rho → R (List AV)) : Prop := DJ Z W (fun _ Hf _ σ v a => RAs Z.K Hf σ v a) t f
/-- a new list -/
def RL (K : PySem.W.Frag) (H0 Hf H : Hp) (v : V) (xs : List Pd) : Prop := ∃ l vs, v = .ref l ∧ H0 l = none ∧ H l = some (.lst vs) ∧ Hf l = none ∧ RDs K Hf vs xs
def DL (Z : Zx) (W : WX) (t : TE) (f : Rho → R (List Pd)) : Prop := DJ Z W (fun H0 Hf H _ v a => RL Z.K H0 Hf H v a) t f

/-- what an alias stands for now -/
def res (ρ : Rho) : AV → Option Pd
  | .d x => some x
  | .sl i => match ρ[i]? with
    | some (.own _ xs) => some (.list xs)
    | some (.d x) => some x
    | _ => none
/-- v stands for x, or is an owned list of it -/
def RX (K : PySem.W.Frag) (Hf H : Hp) (v : V) (x : Pd) : Prop := RD K Hf v x ∨ ∃ l vs xs, v = .ref l ∧ x = .list xs ∧ H l = some (.lst vs) ∧ RDs K Hf vs xs
theorem res_ok {K : PySem.W.Frag} {Hf H : Hp} {O : Addr → Prop} {σ : St} {ρ : Rho} {v : V} {a : AV} {x : Pd} (s : SR K Hf H O σ ρ) (h : RA K Hf σ v a) (e : res ρ a = some x) : RX K Hf H v x := by
  cases a with
  | d y => cases e; exact .inl h
  | sl i =>
    simp only [res] at e
    cases q : ρ[i]? with
    | none => rw [q] at e; cases e
    | some z =>
      rw [q] at e
      cases z with
      | no => cases e
      | x _ => cases e
      | d y =>
        cases e
        obtain ⟨u, h1, h2⟩ := s.slot i _ q
        rw [show σ[i]? = some (some v) from h] at h1
        cases h1
        exact .inl h2
      | own b xs =>
        cases e
        obtain ⟨l, vs, h1, h2, h3, h4⟩ := s.own i b xs q
        rw [show σ[i]? = some (some v) from h] at h1
        cases h1
        exact .inr ⟨l, vs, xs, rfl, rfl, h3, h4⟩
theorem RX.list {K : PySem.W.Frag} {Hf H : Hp} {v : V} {xs : List Pd} (e : Ex Hf H) (h : RX K Hf H v (.list xs)) : ∃ l vs, v = .ref l ∧ SqL K H l vs ∧ RDs K Hf vs xs := by
  rcases h with h | ⟨l, vs, ys, rfl, q, h1, h2⟩
  · cases h with
    | lst h hs => exact ⟨_, _, rfl, ex_l e h, hs⟩
  · cases q
    exact ⟨l, vs, rfl, sq_of h1, h2⟩
theorem RX.tuple {K : PySem.W.Frag} {Hf H : Hp} {v : V} {xs : List Pd} (e : Ex Hf H) (h : RX K Hf H v (.tuple xs)) : ∃ l vs, v = .ref l ∧ SqT K Hf l vs ∧ SqT K H l vs ∧ RDs K Hf vs xs := by
  rcases h with h | ⟨l, vs, ys, rfl, q, h1, h2⟩
  · cases h with
    | tup h hs => exact ⟨_, _, rfl, h, ex_t e h, hs⟩
  · cases q
theorem RX.int {K : PySem.W.Frag} {Hf H : Hp} {v : V} {i : Int} (h : RX K Hf H v (.int i)) : v = .int i := by
  rcases h with h | ⟨_, _, _, _, q, _⟩
  · cases h; rfl
  · cases q
theorem RX.str {K : PySem.W.Frag} {Hf H : Hp} {v : V} {i : Str} (h : RX K Hf H v (.str i)) : v = .str i := by
  rcases h with h | ⟨_, _, _, _, q, _⟩
  · cases h; rfl
  · cases q
theorem RX.bool {K : PySem.W.Frag} {Hf H : Hp} {v : V} {i : Bool} (h : RX K Hf H v (.bool i)) : v = .bl i := by
  rcases h with h | ⟨_, _, _, _, q, _⟩
  · cases h; rfl
  · cases q
theorem RX.non {K : PySem.W.Frag} {Hf H : Hp} {v : V} (h : RX K Hf H v .none) : v = .non := by
  rcases h with h | ⟨_, _, _, _, q, _⟩
  · cases h; rfl
  · cases q
theorem RX.full {K : PySem.W.Frag} {Hf H : Hp} {v : V} {x : Pd} (e : Ex Hf H) (h : RX K Hf H v x) : RD K H v x := by
  rcases h with h | ⟨l, vs, xs, rfl, rfl, h1, h2⟩
  · exact h.mono e
  · exact .lst (sq_of h1) (h2.mono e)
end Dt
namespace Dt
open PySem PySem.Spec L2 Evl
section
variable {Z : Zx} {W : WX}
/-! ### names, constants -/
def fVar (i : Nat) : Rho → R AV := fun ρ => match ρ[i]? with
  | some (.d x) => .ok (.d x) ρ
  | _ => .bad
theorem d_var (i : Nat) : DE Z W (tVar i) (fVar i) := by
  intro Hf H O σ ρ s Q p
  unfold fVar at p
  cases e : ρ[i]? with
  | none => rw [e] at p; exact p.elim
  | some z =>
    rw [e] at p
    cases z with
    | no => exact p.elim
    | x _ => exact p.elim
    | own b xs => exact p.elim
    | d x =>
      obtain ⟨v, h1, h2⟩ := s.slot i x e
      exact ⟨v, h1, p Hf H s Gr.refl Kp.refl v h2⟩
def fOwn (i : Nat) : Rho → R AV := fun ρ => match ρ[i]? with
  | some (.own _ _) => .ok (.sl i) ρ
  | _ => .bad
theorem d_own (i : Nat) : DE Z W (tVar i) (fOwn i) := by
  intro Hf H O σ ρ s Q p
  unfold fOwn at p
  cases e : ρ[i]? with
  | none => rw [e] at p; exact p.elim
  | some z =>
    rw [e] at p
    cases z with
    | no => exact p.elim
    | x _ => exact p.elim
    | d x => exact p.elim
    | own b xs =>
      obtain ⟨l, vs, h1, h2, h3, h4⟩ := s.own i b xs e
      exact ⟨.ref l, h1, p Hf H s Gr.refl Kp.refl (.ref l) h1⟩
def fC (x : Pd) : Rho → R AV := fun ρ => .ok (.d x) ρ
theorem d_c {v : V} {x : Pd} (h : ∀ H, RD Z.K H v x) : DE Z W (tC v) (fC x) := fun Hf H O σ ρ s Q p => p Hf H s Gr.refl Kp.refl v (h Hf)
theorem d_int (i : Int) : DE Z W (tC (.int i)) (fC (.int i)) := d_c fun _ => .int i
theorem d_str (i : Str) : DE Z W (tC (.str i)) (fC (.str i)) := d_c fun _ => .str i
theorem d_bl (i : Bool) : DE Z W (tC (.bl i)) (fC (.bool i)) := d_c fun _ => .bl i
theorem d_non : DE Z W (tC .non) (fC .none) := d_c fun _ => .non

/-! ### an operator -/
/-- a pure operation by values and by data -/
def ROp (K : PySem.W.Frag) (r : R2) (h : Pd → Pd → Option Pd) : Prop := ∀ Hf H x y dx dy z, Ex Hf H → RX K Hf H x dx → RX K Hf H y dy → h dx dy = some z →
  ∀ Q : VK, (∀ v Hf' H', Pg Hf H Hf' H' → RD K Hf' v z → Q v H') → r x y H Q
def op2 (h : Pd → Pd → Option Pd) (a b : AV) : Rho → R AV := fun ρ =>
  match res ρ a, res ρ b with
  | some x, some y => match h x y with
    | some z => .ok (.d z) ρ
    | none => .bad
  | _, _ => .bad
def f2 (h : Pd → Pd → Option Pd) (fa fb : Rho → R AV) : Rho → R AV := fun ρ => (fa ρ).bind fun a ρ1 => (fb ρ1).bind fun b ρ2 => op2 h a b ρ2
theorem op2_use {h : Pd → Pd → Option Pd} {r : R2} (hr : ROp Z.K r h) {Hf H Hf0 H0 : Hp} {O : Addr → Prop} {σ : L2.St} {ρ ρ0 : Rho} {a b : AV} {x y : V} (s : SR Z.K Hf H O σ ρ) (hx : RA Z.K Hf σ x a) (hy : RA Z.K Hf σ y b) {Q : VK}
    (p : PostG Z W O σ ρ Hf H (fun a _ Hf' H' => ∀ v, RA Z.K Hf' σ v a → Q v H') (op2 h a b ρ)) : r x y H Q := by
  unfold op2 at p
  cases ea : res ρ a with
  | none => rw [ea] at p; exact p.elim
  | some dx =>
    cases eb : res ρ b with
    | none => rw [ea, eb] at p; exact p.elim
    | some dy =>
      rw [ea, eb] at p
      simp only at p
      cases ez : h dx dy with
      | none => rw [ez] at p; exact p.elim
      | some z =>
        rw [ez] at p
        exact hr Hf H x y dx dy z s.ex (res_ok s hx ea) (res_ok s hy eb) ez Q fun v Hf' H' g rv => p Hf' H' (s.grow g) g.gr Kp.refl v rv
theorem d_op {ta tb : TE} {fa fb : Rho → R AV} {h : Pd → Pd → Option Pd} {r : R2} (hr : ROp Z.K r h) (ha : DE Z W ta fa) (hb : DE Z W tb fb) : DE Z W (tOp r ta tb) (f2 h fa fb) := by
  intro Hf H O σ ρ s Q p
  refine ha.bind s p fun a ρ1 x Hf1 H1 s1 g1 k1 rx p1 => ?_
  refine hb.bind s1 p1 fun b ρ2 y Hf2 H2 s2 g2 k2 ry p2 => ?_
  exact op2_use (Hf0 := Hf) (H0 := H) (ρ0 := ρ) hr s2 (RA.mono rx g2.ex) ry p2
def op1 (h : Pd → Option Pd) (a : AV) : Rho → R AV := fun ρ =>
  match res ρ a with
  | some x => match h x with
    | some z => .ok (.d z) ρ
    | none => .bad
  | _ => .bad
def f1 (h : Pd → Option Pd) (fa : Rho → R AV) : Rho → R AV := fun ρ => (fa ρ).bind fun a ρ1 => op1 h a ρ1
def RUn (K : PySem.W.Frag) (r : V → Hp → VK → Prop) (h : Pd → Option Pd) : Prop := ∀ Hf H x dx z, Ex Hf H → RX K Hf H x dx → h dx = some z →
  ∀ Q : VK, (∀ v Hf' H', Pg Hf H Hf' H' → RD K Hf' v z → Q v H') → r x H Q
theorem op1_use {h : Pd → Option Pd} {r : V → Hp → VK → Prop} (hr : RUn Z.K r h) {Hf H : Hp} {O : Addr → Prop} {σ : L2.St} {ρ : Rho} {a : AV} {x : V} (s : SR Z.K Hf H O σ ρ) (hx : RA Z.K Hf σ x a) {Q : VK}
    (p : PostG Z W O σ ρ Hf H (fun a _ Hf' H' => ∀ v, RA Z.K Hf' σ v a → Q v H') (op1 h a ρ)) : r x H Q := by
  unfold op1 at p
  cases ea : res ρ a with
  | none => rw [ea] at p; exact p.elim
  | some dx =>
    rw [ea] at p
    simp only at p
    cases ez : h dx with
    | none => rw [ez] at p; exact p.elim
    | some z =>
      rw [ez] at p
      exact hr Hf H x dx z s.ex (res_ok s hx ea) ez Q fun v Hf' H' g rv => p Hf' H' (s.grow g) g.gr Kp.refl v rv
theorem d_un {ta : TE} {fa : Rho → R AV} {h : Pd → Option Pd} {r : V → Hp → VK → Prop} (hr : RUn Z.K r h) (ha : DE Z W ta fa) : DE Z W (tUn r ta) (f1 h fa) := by
  intro Hf H O σ ρ s Q p
  refine ha.bind s p fun a ρ1 x Hf1 H1 s1 g1 k1 rx p1 => ?_
  exact op1_use hr s1 rx p1
/-! ### arguments -/
def fNil : Rho → R (List AV) := fun ρ => .ok [] ρ
def fCons (fa : Rho → R AV) (fr : Rho → R (List AV)) : Rho → R (List AV) := fun ρ => (fa ρ).bind fun a ρ1 => (fr ρ1).bind fun as ρ2 => .ok (a :: as) ρ2
theorem d_nil : DA Z W tNil fNil := fun Hf H O σ ρ s Q p => p Hf H s Gr.refl Kp.refl [] .nil
theorem d_cons {ta : TE} {tr : TA} {fa : Rho → R AV} {fr : Rho → R (List AV)} (ha : DE Z W ta fa) (hr : DA Z W tr fr) : DA Z W (tCons ta tr) (fCons fa fr) := by
  intro Hf H O σ ρ s Q p
  refine ha.bind s p fun a ρ1 x Hf1 H1 s1 g1 k1 rx p1 => ?_
  refine hr.bind s1 p1 fun as ρ2 xs Hf2 H2 s2 g2 k2 rxs p2 => ?_
  exact p2 Hf2 H2 s2 Gr.refl Kp.refl _ (.cons (RA.mono rx g2.ex) rxs)
/-! ### data out of arguments -/
def ress (ρ : Rho) : List AV → Option (List Pd)
  | [] => some []
  | a :: as => match res ρ a, ress ρ as with
    | some x, some xs => some (x :: xs)
    | _, _ => none
/-- the arguments must be data (an owned list can't be kept in a display) -/
def datas : List AV → Option (List Pd)
  | [] => some []
  | .d x :: as => match datas as with
    | some xs => some (x :: xs)
    | none => none
  | .sl _ :: _ => none
theorem datas_ok {K : PySem.W.Frag} {Hf : Hp} {σ : L2.St} : ∀ {vs : List V} {as : List AV} {xs : List Pd}, RAs K Hf σ vs as → datas as = some xs → RDs K Hf vs xs
  | _, _, _, .nil, e => by cases e; exact .nil
  | _, _, _, .cons (a := .d x) (as := as) h hs, e => by
    simp only [datas] at e
    cases q : datas as with
    | none => rw [q] at e; cases e
    | some ys => rw [q] at e; cases e; exact .cons h (datas_ok hs q)
  | _, _, _, .cons (a := .sl i) h hs, e => by cases e
inductive RXs (K : PySem.W.Frag) (Hf H : Hp) : List V → List Pd → Prop
  | nil : RXs K Hf H [] []
  | cons {v : V} {vs : List V} {d : Pd} {ds : List Pd} (h : RX K Hf H v d) (hs : RXs K Hf H vs ds) : RXs K Hf H (v :: vs) (d :: ds)
theorem ress_ok {K : PySem.W.Frag} {Hf H : Hp} {O : Addr → Prop} {σ : L2.St} {ρ : Rho} (s : SR K Hf H O σ ρ) : ∀ {vs : List V} {as : List AV} {xs : List Pd}, RAs K Hf σ vs as → ress ρ as = some xs → RXs K Hf H vs xs
  | _, _, _, .nil, e => by cases e; exact .nil
  | _, _, _, .cons (a := a) (as := as) h hs, e => by
    simp only [ress] at e
    cases q : res ρ a with
    | none => rw [q] at e; cases e
    | some y =>
      cases q2 : ress ρ as with
      | none => rw [q, q2] at e; cases e
      | some ys => rw [q, q2] at e; cases e; exact .cons (res_ok s h q) (ress_ok s hs q2)
/-! ### displays -/
def fTup (fa : Rho → R (List AV)) : Rho → R AV := fun ρ => (fa ρ).bind fun as ρ1 => match datas as with
  | some xs => if xs.length ≤ sizeLine then .ok (.d (.tuple xs)) ρ1 else .bad
  | none => .bad
theorem d_tup {t : TA} {fa : Rho → R (List AV)} (ha : DA Z W t fa) : DE Z W (tTup t) (fTup fa) := by
  intro Hf H O σ ρ s Q p
  refine ha.bind s p fun as ρ1 vs Hf1 H1 s1 g1 k1 rs p1 => ?_
  cases e : datas as with
  | none => rw [e] at p1; exact p1.elim
  | some xs =>
    rw [e] at p1
    simp only at p1
    by_cases hz : xs.length ≤ sizeLine
    · rw [if_pos hz] at p1
      have r := datas_ok rs e
      refine ⟨by rw [r.length]; exact hz, fun q nq => ?_⟩
      have g := Pg.new (o := .tup vs) s1.ex nq
      exact p1 _ _ (s1.grow g) g.gr Kp.refl _ (.tup (st_of upd_same) (r.mono g.ef))
    · rw [if_neg hz] at p1; exact p1.elim
def fLst (fa : Rho → R (List AV)) : Rho → R (List Pd) := fun ρ => (fa ρ).bind fun as ρ1 => match datas as with
  | some xs => if xs.length ≤ sizeLine then .ok xs ρ1 else .bad
  | none => .bad
theorem l_lst {t : TA} {fa : Rho → R (List AV)} (ha : DA Z W t fa) : DL Z W (tLst t) (fLst fa) := by
  intro Hf H O σ ρ s Q p
  refine ha.bind s p fun as ρ1 vs Hf1 H1 s1 g1 k1 rs p1 => ?_
  cases e : datas as with
  | none => rw [e] at p1; exact p1.elim
  | some xs =>
    rw [e] at p1
    simp only at p1
    by_cases hz : xs.length ≤ sizeLine
    · rw [if_pos hz] at p1
      have r := datas_ok rs e
      refine ⟨by rw [r.length]; exact hz, fun q nq => ?_⟩
      have g := Pg.lay (o := .lst vs) s1.ex nq
      exact p1 _ _ (s1.grow g) g.gr Kp.refl _ ⟨q, vs, rfl, g1.gone nq, upd_same, fresh_back s1.ex nq, r⟩
    · rw [if_neg hz] at p1; exact p1.elim
/-- a new list, frozen at once -/
def fL (f : Rho → R (List Pd)) : Rho → R AV := fun ρ => (f ρ).bind fun xs ρ1 => .ok (.d (.list xs)) ρ1
theorem SR.freeze {K : PySem.W.Frag} {Hf H : Hp} {O : Addr → Prop} {σ : L2.St} {ρ : Rho} (s : SR K Hf H O σ ρ) {l : Addr} {o : HO} (hl : H l = some o) (hf : Hf l = none) (no : ¬ O l) : SR K (upd Hf l o) H O σ ρ where
  ex := fun a u h => by
    by_cases z : a = l
    · subst z; rw [upd_same] at h; cases h; exact hl
    · rw [upd_ne z] at h; exact s.ex a u h
  otr := fun a h => ⟨(s.otr a h).1, by
    have z : a ≠ l := fun z => no (by rw [← z]; exact h)
    rw [upd_ne z]; exact (s.otr a h).2⟩
  len := s.len
  slot := fun i x h => by obtain ⟨v, h1, h2⟩ := s.slot i x h; exact ⟨v, h1, h2.mono (Ex.new hf)⟩
  own := fun i b xs h => by obtain ⟨k, vs, h1, h2, h3, h4⟩ := s.own i b xs h; exact ⟨k, vs, h1, h2, h3, h4.mono (Ex.new hf)⟩
  dis := s.dis
  exc := fun i e h => by obtain ⟨a, h1, h2⟩ := s.exc i e h; exact ⟨a, h1, h2.mono (Ex.new hf)⟩
theorem d_ofL {t : TE} {f : Rho → R (List Pd)} (h : DL Z W t f) : DE Z W t (fL f) := by
  intro Hf H O σ ρ s Q p
  refine h Hf H O σ ρ s Q ?_
  unfold fL at p
  cases e : f ρ with
  | bad => rw [e] at p; exact p
  | ex x ρ1 => rw [e] at p; exact p
  | ok xs ρ1 =>
    rw [e] at p
    intro Hf1 H1 s1 g1 k1 v rl
    obtain ⟨l, vs, rfl, h0, h1, hf, r⟩ := rl
    have no : ¬ O l := fun z => by
      obtain ⟨⟨o, q⟩, _⟩ := s.otr l z
      rw [h0] at q; cases q
    refine p (upd Hf1 l (.lst vs)) H1 (s1.freeze h1 hf no) ⟨g1.ex.trans (Ex.new hf), g1.fm, g1.tr, fun a o q => ?_⟩ k1 _ (.lst (sq_of upd_same) (r.mono (Ex.new hf)))
    by_cases z : a = l
    · subst z; exact .inr (.inl h0)
    · rw [upd_ne z] at q; exact g1.nw a o q
end
end Dt
namespace Dt
open PySem PySem.Spec L2 Evl
section
variable {Z : Zx} {W : WX}
/-! ### tests -/
def rB (a : AV) (ρ : Rho) : R Bool := match res ρ a with
  | some (.bool b) => .ok b ρ
  | _ => .bad
def fTest (f : Rho → R AV) : Rho → R Bool := fun ρ => (f ρ).bind rB
theorem rB_ok {a : AV} {ρ : Rho} {Hf H : Hp} {O : Addr → Prop} {σ : L2.St} {B : Type} {x : V} (s : SR Z.K Hf H O σ ρ) (hx : RA Z.K Hf σ x a) {S : B → Rho → Hp → Hp → Prop} {k : Bool → Rho → R B}
    (p : PostG Z W O σ ρ Hf H S ((rB a ρ).bind k)) : ∃ b, x = .bl b ∧ rB a ρ = .ok b ρ ∧ PostG Z W O σ ρ Hf H S (k b ρ) := by
  unfold rB at p ⊢
  cases e : res ρ a with
  | none => rw [e] at p; exact p.elim
  | some y =>
    rw [e] at p
    cases y with
    | bool b => exact ⟨b, (res_ok s hx e).bool, rfl, p⟩
    | _ => exact p.elim
theorem R.bind_ok {A : Type} (r : R A) : r.bind (fun a ρ => .ok a ρ) = r := by cases r <;> rfl
theorem dt_test {t : TE} {f : Rho → R AV} (h : DE Z W t f) : DT Z W (tTest t) (fTest f) := by
  intro Hf H O σ ρ s Q p
  refine h.bind s p fun a ρ1 x Hf1 H1 s1 g1 k1 rx p1 => ?_
  rw [← R.bind_ok (rB a ρ1)] at p1
  obtain ⟨b, rfl, _, p2⟩ := rB_ok s1 rx p1
  exact ⟨b, rfl, p2 Hf1 H1 s1 Gr.refl Kp.refl b rfl⟩
theorem dt_tB {t : TE} {f : Rho → R AV} (h : DE Z W t f) : DT Z W (tB t) (fTest f) := dt_test h
def fAnd (f g : Rho → R Bool) : Rho → R Bool := fun ρ => (f ρ).bind fun b ρ1 => if b = true then g ρ1 else .ok false ρ1
def fOr (f g : Rho → R Bool) : Rho → R Bool := fun ρ => (f ρ).bind fun b ρ1 => if b = true then .ok true ρ1 else g ρ1
def fNot (f : Rho → R Bool) : Rho → R Bool := fun ρ => (f ρ).bind fun b ρ1 => .ok (!b) ρ1
theorem dt_and {t u : TT} {f g : Rho → R Bool} (h : DT Z W t f) (k : DT Z W u g) : DT Z W (tAnd t u) (fAnd f g) := by
  intro Hf H O σ ρ s Q p
  refine h.bind s p fun a ρ1 x Hf1 H1 s1 g1 k1 rx p1 => ?_
  subst rx
  show if x = true then u σ H1 Q else Q false H1
  cases x with
  | true => exact k Hf1 H1 O σ ρ1 s1 Q p1
  | false => exact p1 Hf1 H1 s1 Gr.refl Kp.refl false rfl
theorem dt_or {t u : TT} {f g : Rho → R Bool} (h : DT Z W t f) (k : DT Z W u g) : DT Z W (tOr t u) (fOr f g) := by
  intro Hf H O σ ρ s Q p
  refine h.bind s p fun a ρ1 x Hf1 H1 s1 g1 k1 rx p1 => ?_
  subst rx
  show if x = true then Q true H1 else u σ H1 Q
  cases x with
  | false => exact k Hf1 H1 O σ ρ1 s1 Q p1
  | true => exact p1 Hf1 H1 s1 Gr.refl Kp.refl true rfl
theorem dt_not {t : TT} {f : Rho → R Bool} (h : DT Z W t f) : DT Z W (tNot t) (fNot f) := by
  intro Hf H O σ ρ s Q p
  refine h.bind s p fun a ρ1 x Hf1 H1 s1 g1 k1 rx p1 => ?_
  subst rx
  exact p1 Hf1 H1 s1 Gr.refl Kp.refl _ rfl
theorem dt_yes : DT Z W tYes (fun ρ => .ok true ρ) := fun Hf H O σ ρ s Q p => p Hf H s Gr.refl Kp.refl true rfl
/-! ### and, or, not as values -/
def fAndV (f g : Rho → R AV) : Rho → R AV := fun ρ => (f ρ).bind fun a ρ1 => (rB a ρ1).bind fun b ρ2 => if b = true then g ρ2 else .ok (.d (.bool false)) ρ2
def fOrV (f g : Rho → R AV) : Rho → R AV := fun ρ => (f ρ).bind fun a ρ1 => (rB a ρ1).bind fun b ρ2 => if b = true then .ok (.d (.bool true)) ρ2 else g ρ2
def fNotV (f : Rho → R AV) : Rho → R AV := fun ρ => (f ρ).bind fun a ρ1 => (rB a ρ1).bind fun b ρ2 => .ok (.d (.bool (!b))) ρ2
theorem d_and {ta tb : TE} {f g : Rho → R AV} (h : DE Z W ta f) (k : DE Z W tb g) : DE Z W (tAndV ta tb) (fAndV f g) := by
  intro Hf H O σ ρ s Q p
  refine h.bind s p fun a ρ1 x Hf1 H1 s1 g1 k1 rx p1 => ?_
  obtain ⟨b, rfl, _, p2⟩ := rB_ok s1 rx p1
  refine ⟨b, rfl, ?_⟩
  cases b with
  | true => exact k Hf1 H1 O σ ρ1 s1 Q p2
  | false => exact p2 Hf1 H1 s1 Gr.refl Kp.refl _ (.bl false)
theorem d_or {ta tb : TE} {f g : Rho → R AV} (h : DE Z W ta f) (k : DE Z W tb g) : DE Z W (tOrV ta tb) (fOrV f g) := by
  intro Hf H O σ ρ s Q p
  refine h.bind s p fun a ρ1 x Hf1 H1 s1 g1 k1 rx p1 => ?_
  obtain ⟨b, rfl, _, p2⟩ := rB_ok s1 rx p1
  refine ⟨b, rfl, ?_⟩
  cases b with
  | false => exact k Hf1 H1 O σ ρ1 s1 Q p2
  | true => exact p2 Hf1 H1 s1 Gr.refl Kp.refl _ (.bl true)
theorem d_not {ta : TE} {f : Rho → R AV} (h : DE Z W ta f) : DE Z W (tNotV ta) (fNotV f) := by
  intro Hf H O σ ρ s Q p
  refine h.bind s p fun a ρ1 x Hf1 H1 s1 g1 k1 rx p1 => ?_
  obtain ⟨b, rfl, _, p2⟩ := rB_ok s1 rx p1
  exact ⟨b, rfl, p2 Hf1 H1 s1 Gr.refl Kp.refl _ (.bl (!b))⟩
def fIf (c : Rho → R Bool) (f g : Rho → R AV) : Rho → R AV := fun ρ => (c ρ).bind fun b ρ1 => if b = true then f ρ1 else g ρ1
theorem d_if {t : TT} {ta tb : TE} {c : Rho → R Bool} {f g : Rho → R AV} (hc : DT Z W t c) (h : DE Z W ta f) (k : DE Z W tb g) : DE Z W (tIf t ta tb) (fIf c f g) := by
  intro Hf H O σ ρ s Q p
  refine hc.bind s p fun a ρ1 x Hf1 H1 s1 g1 k1 rx p1 => ?_
  subst rx
  cases x with
  | true => exact h Hf1 H1 O σ ρ1 s1 Q p1
  | false => exact k Hf1 H1 O σ ρ1 s1 Q p1
/-! ### a chain of two comparisons -/
def fChain (h h' : Pd → Pd → Option Pd) (fa fb fc : Rho → R AV) : Rho → R AV := fun ρ => (fa ρ).bind fun a ρ1 => (fb ρ1).bind fun b ρ2 => (op2 h a b ρ2).bind fun z ρ3 => (rB z ρ3).bind fun k ρ4 =>
  if k = true then (fc ρ4).bind fun c ρ5 => op2 h' b c ρ5 else .ok (.d (.bool false)) ρ4
theorem d_chain {ta tb tc : TE} {fa fb fc : Rho → R AV} {h h' : Pd → Pd → Option Pd} {r r' : R2} (hr : ROp Z.K r h) (hr' : ROp Z.K r' h') (ha : DE Z W ta fa) (hb : DE Z W tb fb) (hc : DE Z W tc fc) : DE Z W (tChain r r' ta tb tc) (fChain h h' fa fb fc) := by
  intro Hf H O σ ρ s Q p
  refine ha.bind s p fun a ρ1 x Hf1 H1 s1 g1 k1 rx p1 => ?_
  refine hb.bind s1 p1 fun b ρ2 y Hf2 H2 s2 g2 k2 ry p2 => ?_
  unfold op2 at p2
  cases ea : res ρ2 a with
  | none => rw [ea] at p2; exact p2.elim
  | some dx =>
    cases eb : res ρ2 b with
    | none => rw [ea, eb] at p2; exact p2.elim
    | some dy =>
      rw [ea, eb] at p2
      simp only at p2
      cases ez : h dx dy with
      | none => rw [ez] at p2; exact p2.elim
      | some z =>
        rw [ez] at p2
        refine hr Hf2 H2 x y dx dy z s2.ex (res_ok s2 (RA.mono rx g2.ex) ea) (res_ok s2 ry eb) ez _ fun v Hf3 H3 g3 rv => ?_
        have s3 := s2.grow g3
        obtain ⟨k, rfl, _, p3⟩ := rB_ok (a := .d z) s3 rv (PostG.shift p2 g3.gr Kp.refl)
        refine ⟨k, rfl, ?_⟩
        cases k with
        | false => exact p3 Hf3 H3 s3 Gr.refl Kp.refl _ (.bl false)
        | true =>
          refine hc.bind s3 p3 fun c ρ5 w Hf5 H5 s5 g5 k5 rw5 p5 => ?_
          exact op2_use (Hf0 := Hf) (H0 := H) (ρ0 := ρ) hr' s5 (RA.mono ry (g3.ef.trans g5.ex)) rw5 p5
/-! ### built-in functions -/
def RCall (K : PySem.W.Frag) (r : List V → Hp → VK → Prop) (h : List Pd → Option Pd) : Prop := ∀ Hf H vs xs z, Ex Hf H → RXs K Hf H vs xs → h xs = some z →
  ∀ Q : VK, (∀ v Hf' H', Pg Hf H Hf' H' → RD K Hf' v z → Q v H') → r vs H Q
def RCallL (K : PySem.W.Frag) (r : List V → Hp → VK → Prop) (h : List Pd → Option (List Pd)) : Prop := ∀ Hf H vs xs z, Ex Hf H → RXs K Hf H vs xs → h xs = some z →
  ∀ Q : VK, (∀ l ws H', Ex Hf H' → Ex H H' → H l = none → H' l = some (.lst ws) → RDs K Hf ws z → Q (.ref l) H') → r vs H Q
def fCB (h : List Pd → Option Pd) (fa : Rho → R (List AV)) : Rho → R AV := fun ρ => (fa ρ).bind fun as ρ1 => match ress ρ1 as with
  | some xs => match h xs with
    | some z => .ok (.d z) ρ1
    | none => .bad
  | none => .bad
def fCBL (h : List Pd → Option (List Pd)) (fa : Rho → R (List AV)) : Rho → R (List Pd) := fun ρ => (fa ρ).bind fun as ρ1 => match ress ρ1 as with
  | some xs => match h xs with
    | some z => .ok z ρ1
    | none => .bad
  | none => .bad
theorem d_cb {t : TA} {fa : Rho → R (List AV)} {r : List V → Hp → VK → Prop} {h : List Pd → Option Pd} (hr : RCall Z.K r h) (ha : DA Z W t fa) : DE Z W (tCB r t) (fCB h fa) := by
  intro Hf H O σ ρ s Q p
  refine ha.bind s p fun as ρ1 vs Hf1 H1 s1 g1 k1 rs p1 => ?_
  cases e : ress ρ1 as with
  | none => rw [e] at p1; exact p1.elim
  | some xs =>
    rw [e] at p1
    simp only at p1
    cases ez : h xs with
    | none => rw [ez] at p1; exact p1.elim
    | some z =>
      rw [ez] at p1
      exact hr Hf1 H1 vs xs z s1.ex (ress_ok s1 rs e) ez Q fun v Hf' H' g rv => p1 Hf' H' (s1.grow g) g.gr Kp.refl v rv
theorem l_cb {t : TA} {fa : Rho → R (List AV)} {r : List V → Hp → VK → Prop} {h : List Pd → Option (List Pd)} (hr : RCallL Z.K r h) (ha : DA Z W t fa) : DL Z W (tCB r t) (fCBL h fa) := by
  intro Hf H O σ ρ s Q p
  refine ha.bind s p fun as ρ1 vs Hf1 H1 s1 g1 k1 rs p1 => ?_
  cases e : ress ρ1 as with
  | none => rw [e] at p1; exact p1.elim
  | some xs =>
    rw [e] at p1
    simp only at p1
    cases ez : h xs with
    | none => rw [ez] at p1; exact p1.elim
    | some z =>
      rw [ez] at p1
      refine hr Hf1 H1 vs xs z s1.ex (ress_ok s1 rs e) ez Q fun l ws H' eF eH n hl rd => ?_
      have g : Pg Hf1 H1 Hf1 H' := ⟨Ex.refl _, eH, eF, fun _ _ q => .inl q⟩
      exact p1 Hf1 H' (s1.grow g) g.gr Kp.refl _ ⟨l, ws, rfl, g1.gone n, hl, fresh_back s1.ex n, rd⟩
/-! ### slices -/
def DO (Z : Zx) (W : WX) (t : TO) (f : Rho → R (Option Int)) : Prop := DJ Z W (fun _ _ _ _ v a => v = a) t f
def fNoPart : Rho → R (Option Int) := fun ρ => .ok none ρ
def fPart (f : Rho → R AV) : Rho → R (Option Int) := fun ρ => (f ρ).bind fun a ρ1 => match res ρ1 a with
  | some (.int i) => .ok (some i) ρ1
  | _ => .bad
theorem do_none : DO Z W tNoPart fNoPart := fun Hf H O σ ρ s Q p => p Hf H s Gr.refl Kp.refl none rfl
theorem do_some {t : TE} {f : Rho → R AV} (h : DE Z W t f) : DO Z W (tPart t) (fPart f) := by
  intro Hf H O σ ρ s Q p
  refine h.bind s p fun a ρ1 x Hf1 H1 s1 g1 k1 rx p1 => ?_
  cases e : res ρ1 a with
  | none => rw [e] at p1; exact p1.elim
  | some y =>
    rw [e] at p1
    cases y with
    | int i => exact ⟨i, (res_ok s1 rx e).int, p1 Hf1 H1 s1 Gr.refl Kp.refl _ rfl⟩
    | _ => exact p1.elim
def RSl (K : PySem.W.Frag) (r : V → Option Int → Option Int → Hp → VK → Prop) (h : Pd → Option Int → Option Int → Option Pd) : Prop := ∀ Hf H x lo hi dx z, Ex Hf H → RX K Hf H x dx → h dx lo hi = some z →
  ∀ Q : VK, (∀ v Hf' H', Pg Hf H Hf' H' → RD K Hf' v z → Q v H') → r x lo hi H Q
def fSl (h : Pd → Option Int → Option Int → Option Pd) (fe : Rho → R AV) (fl fh : Rho → R (Option Int)) : Rho → R AV := fun ρ => (fe ρ).bind fun a ρ1 => (fl ρ1).bind fun lo ρ2 => (fh ρ2).bind fun hi ρ3 => match res ρ3 a with
  | some x => match h x lo hi with
    | some z => .ok (.d z) ρ3
    | none => .bad
  | none => .bad
theorem d_sl {te : TE} {tl th : TO} {fe : Rho → R AV} {fl fh : Rho → R (Option Int)} {r : V → Option Int → Option Int → Hp → VK → Prop} {h : Pd → Option Int → Option Int → Option Pd} (hr : RSl Z.K r h) (he : DE Z W te fe) (hl : DO Z W tl fl) (hh : DO Z W th fh) :
    DE Z W (tSl r te tl th) (fSl h fe fl fh) := by
  intro Hf H O σ ρ s Q p
  refine he.bind s p fun a ρ1 x Hf1 H1 s1 g1 k1 rx p1 => ?_
  refine hl.bind s1 p1 fun lo ρ2 l Hf2 H2 s2 g2 k2 rl p2 => ?_
  refine hh.bind s2 p2 fun hi ρ3 u Hf3 H3 s3 g3 k3 rh p3 => ?_
  subst rl rh
  cases e : res ρ3 a with
  | none => rw [e] at p3; exact p3.elim
  | some dx =>
    rw [e] at p3
    simp only at p3
    cases ez : h dx l u with
    | none => rw [ez] at p3; exact p3.elim
    | some z =>
      rw [ez] at p3
      exact hr Hf3 H3 x l u dx z s3.ex (res_ok s3 (RA.mono rx (g2.ex.trans g3.ex)) e) ez Q fun v Hf' H' g rv => p3 Hf' H' (s3.grow g) g.gr Kp.refl v rv
/-! ### methods of built-in types -/
def RMt (K : PySem.W.Frag) (T : String) (r : V → List V → Hp → VK → Prop) (h : Pd → List Pd → Option Pd) : Prop := ∀ Hf H x vs dx xs z, Ex Hf H → RX K Hf H x dx → RXs K Hf H vs xs → h dx xs = some z →
  ∀ Q : VK, (∀ v Hf' H', Pg Hf H Hf' H' → RD K Hf' v z → Q v H') → r x vs H Q
/-- which receivers are of the type -/
def tyD (T : String) : Pd → Bool
  | .str _ => T == "str"
  | .list _ => T == "list"
  | _ => false
theorem tyD_ok {K : PySem.W.Frag} {T : String} {Hf H : Hp} {x : V} {d : Pd} (e : Ex Hf H) (h : RX K Hf H x d) (t : tyD T d = true) : tyV K T x H := by
  cases d with
  | str z => obtain rfl := h.str; exact beq_iff_eq.mp t
  | list xs =>
    obtain ⟨l, vs, rfl, h1, _⟩ := h.list e
    exact .inl ⟨beq_iff_eq.mp t, vs, h1⟩
  | _ => cases t
def fBM (T : String) (h : Pd → List Pd → Option Pd) (fo : Rho → R AV) (fa : Rho → R (List AV)) : Rho → R AV := fun ρ => (fo ρ).bind fun o ρ1 => match res ρ1 o with
  | some d0 => if tyD T d0 = true then (fa ρ1).bind fun as ρ2 => match res ρ2 o, ress ρ2 as with
      | some d, some xs => match h d xs with
        | some z => .ok (.d z) ρ2
        | none => .bad
      | _, _ => .bad
    else .bad
  | none => .bad
theorem d_bm {T : String} {to : TE} {t : TA} {fo : Rho → R AV} {fa : Rho → R (List AV)} {r : V → List V → Hp → VK → Prop} {h : Pd → List Pd → Option Pd} (hr : RMt Z.K T r h) (ho : DE Z W to fo) (ha : DA Z W t fa) : DE Z W (tBM Z.K T r to t) (fBM T h fo fa) := by
  intro Hf H O σ ρ s Q p
  refine ho.bind s p fun o ρ1 x Hf1 H1 s1 g1 k1 rx p1 => ?_
  cases e0 : res ρ1 o with
  | none => rw [e0] at p1; exact p1.elim
  | some d0 =>
    rw [e0] at p1
    simp only at p1
    by_cases ht : tyD T d0 = true
    · rw [if_pos ht] at p1
      refine ⟨tyD_ok s1.ex (res_ok s1 rx e0) ht, ?_⟩
      refine ha.bind s1 p1 fun as ρ2 vs Hf2 H2 s2 g2 k2 rs p2 => ?_
      cases e : res ρ2 o with
      | none => rw [e] at p2; exact p2.elim
      | some d =>
        cases e2 : ress ρ2 as with
        | none => rw [e, e2] at p2; exact p2.elim
        | some xs =>
          rw [e, e2] at p2
          simp only at p2
          cases ez : h d xs with
          | none => rw [ez] at p2; exact p2.elim
          | some z =>
            rw [ez] at p2
            exact hr Hf2 H2 x vs d xs z s2.ex (res_ok s2 (RA.mono rx g2.ex) e) (ress_ok s2 rs e2) ez Q fun v Hf' H' g rv => p2 Hf' H' (s2.grow g) g.gr Kp.refl v rv
    · rw [if_neg ht] at p1; exact p1.elim
theorem d_bm0 {T : String} {to : TE} {fo : Rho → R AV} {r : V → List V → Hp → VK → Prop} {h : Pd → List Pd → Option Pd} (hr : RMt Z.K T r h) (ho : DE Z W to fo) : DE Z W (tBM0 Z.K T r to) (fBM T h fo fNil) := d_bm hr ho d_nil
/-- .. of a text, by the layer's short forms -/
def fM1 (h : Pd → List Pd → Option Pd) (fo fa : Rho → R AV) : Rho → R AV := fun ρ => (fo ρ).bind fun o ρ1 => match res ρ1 o with
  | some (.str x) => (fa ρ1).bind fun a ρ2 => match res ρ2 a with
      | some y => match h (.str x) [y] with
        | some z => .ok (.d z) ρ2
        | none => .bad
      | _ => .bad
  | _ => .bad
theorem d_m1 {T : String} {to te : TE} {fo fa : Rho → R AV} {r : V → List V → Hp → VK → Prop} {h : Pd → List Pd → Option Pd} (hr : RMt Z.K T r h) (ho : DE Z W to fo) (ha : DE Z W te fa) : DE Z W (tM1 r to te) (fM1 h fo fa) := by
  intro Hf H O σ ρ s Q p
  refine ho.bind s p fun o ρ1 x Hf1 H1 s1 g1 k1 rx p1 => ?_
  cases e0 : res ρ1 o with
  | none => rw [e0] at p1; exact p1.elim
  | some d0 =>
    rw [e0] at p1
    cases d0 with
    | str z =>
      simp only at p1
      obtain rfl := (res_ok s1 rx e0).str
      refine ⟨⟨z, rfl⟩, ?_⟩
      refine ha.bind s1 p1 fun a ρ2 v Hf2 H2 s2 g2 k2 ra p2 => ?_
      cases e2 : res ρ2 a with
      | none => rw [e2] at p2; exact p2.elim
      | some y =>
        rw [e2] at p2
        simp only at p2
        cases ez : h (.str z) [y] with
        | none => rw [ez] at p2; exact p2.elim
        | some q =>
          rw [ez] at p2
          exact hr Hf2 H2 _ _ _ _ q s2.ex (.inl (.str z)) (.cons (res_ok s2 ra e2) .nil) ez Q fun v Hf' H' g rv => p2 Hf' H' (s2.grow g) g.gr Kp.refl v rv
    | _ => exact p1.elim
def fM0 (h : Pd → List Pd → Option Pd) (fo : Rho → R AV) : Rho → R AV := fun ρ => (fo ρ).bind fun o ρ1 => match res ρ1 o with
  | some (.str x) => match h (.str x) [] with
        | some z => .ok (.d z) ρ1
        | none => .bad
  | _ => .bad
theorem d_m0 {T : String} {to : TE} {fo : Rho → R AV} {r : V → List V → Hp → VK → Prop} {h : Pd → List Pd → Option Pd} (hr : RMt Z.K T r h) (ho : DE Z W to fo) : DE Z W (tM0 r to) (fM0 h fo) := by
  intro Hf H O σ ρ s Q p
  refine ho.bind s p fun o ρ1 x Hf1 H1 s1 g1 k1 rx p1 => ?_
  cases e0 : res ρ1 o with
  | none => rw [e0] at p1; exact p1.elim
  | some d0 =>
    rw [e0] at p1
    cases d0 with
    | str z =>
      simp only at p1
      obtain rfl := (res_ok s1 rx e0).str
      refine ⟨⟨z, rfl⟩, ?_⟩
      cases ez : h (.str z) [] with
      | none => rw [ez] at p1; exact p1.elim
      | some q =>
        rw [ez] at p1
        exact hr Hf1 H1 _ _ _ _ q s1.ex (.inl (.str z)) .nil ez Q fun v Hf' H' g rv => p1 Hf' H' (s1.grow g) g.gr Kp.refl v rv
    | _ => exact p1.elim
end
end Dt
namespace Dt
open PySem PySem.Spec L2 Evl
/-! ### what is walked -/
/-- the iterator J gives the data xs, one by one, whatever else becomes of the heap -/
def Dlv (K : PySem.W.Frag) (J : It) (Hf : Hp) (xs : List Pd) : Prop := ∀ (i : Nat) (Hf' H' : Hp), Ex Hf Hf' → Ex Hf' H' →
  (i < xs.length → J.go i H') ∧ (xs.length ≤ i → J.stop i H') ∧
  ∀ v H'', J.yld i H' v H'' → ∀ x, xs[i]? = some x → ∃ Hf'', Pg Hf' H' Hf'' H'' ∧ RD K Hf'' v x
def DI (Z : Zx) (W : WX) (t : TI) (f : Rho → R (List Pd)) : Prop := DJ Z W (fun _ Hf _ _ J xs => Dlv Z.K J Hf xs) t f
theorem dlv_list {K : PySem.W.Frag} {Hf : Hp} {a : Addr} {vs : List V} {xs : List Pd} (h : SqL K Hf a vs) (r : RDs K Hf vs xs) : Dlv K (Itl K a) Hf xs := by
  intro i Hf' H' e1 e2
  have hs : SqL K H' a vs := ex_l (e1.trans e2) h
  refine ⟨fun hi => ?_, fun hi => ⟨vs, hs, by rw [r.length]; exact hi⟩, fun v H'' hy x hx => ?_⟩
  · obtain ⟨v, e, _⟩ := r.get (List.getElem?_eq_getElem hi)
    exact ⟨vs, v, hs, e⟩
  · obtain ⟨rfl, hy⟩ := hy
    have e := hy vs hs
    obtain ⟨v', e', rv⟩ := r.get hx
    rw [e] at e'; cases e'
    exact ⟨Hf', Pg.refl e2, rv.mono e1⟩
theorem dlv_tup {K : PySem.W.Frag} {Hf : Hp} {a : Addr} {vs : List V} {xs : List Pd} (h : SqT K Hf a vs) (r : RDs K Hf vs xs) : Dlv K (Itt K a) Hf xs := by
  intro i Hf' H' e1 e2
  have hs : SqT K H' a vs := ex_t (e1.trans e2) h
  refine ⟨fun hi => ?_, fun hi => ⟨vs, hs, by rw [r.length]; exact hi⟩, fun v H'' hy x hx => ?_⟩
  · obtain ⟨v, e, _⟩ := r.get (List.getElem?_eq_getElem hi)
    exact ⟨vs, v, hs, e⟩
  · obtain ⟨rfl, hy⟩ := hy
    have e := hy vs hs
    obtain ⟨v', e', rv⟩ := r.get hx
    rw [e] at e'; cases e'
    exact ⟨Hf', Pg.refl e2, rv.mono e1⟩
/-- the signs of a text, each a text -/
def chars (x : Str) : List Pd := x.cps.toList.map fun c => .str ⟨#[c]⟩
theorem dlv_str {K : PySem.W.Frag} {Hf : Hp} {x : Str} : Dlv K (Its x) Hf (chars x) := by
  intro i Hf' H' e1 e2
  have hl : (chars x).length = x.cps.size := by simp [chars]
  refine ⟨fun hi => ?_, fun hi => ?_, fun v H'' hy y hx => ?_⟩
  · show i < x.cps.size
    omega
  · show x.cps.size ≤ i
    omega
  · obtain ⟨rfl, c, ec, rfl⟩ := hy
    refine ⟨Hf', Pg.refl e2, ?_⟩
    unfold chars at hx
    rw [List.getElem?_map, Array.getElem?_toList, ec] at hx
    cases hx
    exact .str _
def nums (lo : Int) (n : Nat) : List Pd := (List.range n).map fun (k : Nat) => .int (lo + (k : Int))
theorem dlv_rng {K : PySem.W.Frag} {Hf : Hp} {lo : Int} {n : Nat} : Dlv K (Itr lo n) Hf (nums lo n) := by
  intro i Hf' H' e1 e2
  have hl : (nums lo n).length = n := by simp [nums]
  refine ⟨fun hi => ?_, fun hi => ?_, fun v H'' hy y hx => ?_⟩
  · show i < n
    omega
  · show n ≤ i
    omega
  · obtain ⟨rfl, rfl⟩ := hy
    refine ⟨Hf', Pg.refl e2, ?_⟩
    unfold nums at hx
    have hi : i < n := by
      rcases Nat.lt_or_ge i n with h | h
      · exact h
      · rw [List.getElem?_eq_none (by simpa using h)] at hx; cases hx
    rw [List.getElem?_map, List.getElem?_range hi] at hx
    cases hx
    exact .int _
theorem dlv_zip {K : PySem.W.Frag} {Hf : Hp} {a b : Addr} {vs us : List V} {xs ys : List Pd} (h : SqL K Hf a vs) (r : RDs K Hf vs xs) (h2 : SqL K Hf b us) (r2 : RDs K Hf us ys) : Dlv K (Itz K a b) Hf ((xs.zip ys).map fun p => .tuple [p.1, p.2]) := by
  intro i Hf' H' e1 e2
  have hs : SqL K H' a vs := ex_l (e1.trans e2) h
  have hs2 : SqL K H' b us := ex_l (e1.trans e2) h2
  have l1 := r.length
  have l2 := r2.length
  refine ⟨fun hi => ?_, fun hi => ?_, fun v H'' hy x hx => ?_⟩
  · rw [List.length_map, List.length_zip] at hi
    obtain ⟨v, e, _⟩ := r.get (List.getElem?_eq_getElem (show i < xs.length by omega))
    obtain ⟨u, e', _⟩ := r2.get (List.getElem?_eq_getElem (show i < ys.length by omega))
    exact ⟨vs, us, v, u, hs, hs2, e, e'⟩
  · rw [List.length_map, List.length_zip] at hi
    refine ⟨vs, us, hs, hs2, ?_⟩
    omega
  · obtain ⟨T, x1, x2, rfl, nT, rfl, f1, f2⟩ := hy
    have q1 := f1 vs hs
    have q2 := f2 us hs2
    obtain ⟨d1, g1, rd1⟩ := r.get' q1
    obtain ⟨d2, g2, rd2⟩ := r2.get' q2
    have : x = .tuple [d1, d2] := by
      rw [List.getElem?_map] at hx
      have z : (xs.zip ys)[i]? = some (d1, d2) := by
        rw [List.getElem?_zip_eq_some]; exact ⟨g1, g2⟩
      rw [z] at hx
      cases hx
      rfl
    subst this
    have g := Pg.new (o := .tup [x1, x2]) e2 nT
    exact ⟨_, g, .tup (st_of upd_same) (.cons ((rd1.mono e1).mono g.ef) (.cons ((rd2.mono e1).mono g.ef) .nil))⟩
section
variable {Z : Zx} {W : WX}
def fItL (f : Rho → R AV) : Rho → R (List Pd) := fun ρ => (f ρ).bind fun a ρ1 => match a with
  | .d (.list xs) => .ok xs ρ1
  | _ => .bad
def fItT (f : Rho → R AV) : Rho → R (List Pd) := fun ρ => (f ρ).bind fun a ρ1 => match a with
  | .d (.tuple xs) => .ok xs ρ1
  | _ => .bad
def fItS (f : Rho → R AV) : Rho → R (List Pd) := fun ρ => (f ρ).bind fun a ρ1 => match a with
  | .d (.str x) => .ok (chars x) ρ1
  | _ => .bad
theorem i_list {t : TE} {f : Rho → R AV} (h : DE Z W t f) : DI Z W (iList Z.K t) (fItL f) := by
  intro Hf H O σ ρ s Q p
  refine h.bind s p fun a ρ1 x Hf1 H1 s1 g1 k1 rx p1 => ?_
  match a, rx, p1 with
  | .d (.list xs), rx, p1 =>
    cases rx with
    | lst h1 h2 => exact ⟨_, rfl, ⟨_, ex_l s1.ex h1⟩, p1 Hf1 H1 s1 Gr.refl Kp.refl _ (dlv_list h1 h2)⟩
  | .d .none, _, p1 => exact p1.elim
  | .d (.bool _), _, p1 => exact p1.elim
  | .d (.int _), _, p1 => exact p1.elim
  | .d (.str _), _, p1 => exact p1.elim
  | .d (.tuple _), _, p1 => exact p1.elim
  | .d (.dict _), _, p1 => exact p1.elim
  | .sl _, _, p1 => exact p1.elim
theorem i_tup {t : TE} {f : Rho → R AV} (h : DE Z W t f) : DI Z W (iTup Z.K t) (fItT f) := by
  intro Hf H O σ ρ s Q p
  refine h.bind s p fun a ρ1 x Hf1 H1 s1 g1 k1 rx p1 => ?_
  match a, rx, p1 with
  | .d (.tuple xs), rx, p1 =>
    cases rx with
    | tup h1 h2 => exact ⟨_, rfl, ⟨_, ex_t s1.ex h1⟩, p1 Hf1 H1 s1 Gr.refl Kp.refl _ (dlv_tup h1 h2)⟩
  | .d .none, _, p1 => exact p1.elim
  | .d (.bool _), _, p1 => exact p1.elim
  | .d (.int _), _, p1 => exact p1.elim
  | .d (.str _), _, p1 => exact p1.elim
  | .d (.list _), _, p1 => exact p1.elim
  | .d (.dict _), _, p1 => exact p1.elim
  | .sl _, _, p1 => exact p1.elim
theorem i_str {t : TE} {f : Rho → R AV} (h : DE Z W t f) : DI Z W (iStr t) (fItS f) := by
  intro Hf H O σ ρ s Q p
  refine h.bind s p fun a ρ1 x Hf1 H1 s1 g1 k1 rx p1 => ?_
  match a, rx, p1 with
  | .d (.str z), rx, p1 =>
    cases rx with
    | str _ => exact ⟨_, rfl, p1 Hf1 H1 s1 Gr.refl Kp.refl _ dlv_str⟩
  | .d .none, _, p1 => exact p1.elim
  | .d (.bool _), _, p1 => exact p1.elim
  | .d (.int _), _, p1 => exact p1.elim
  | .d (.tuple _), _, p1 => exact p1.elim
  | .d (.list _), _, p1 => exact p1.elim
  | .d (.dict _), _, p1 => exact p1.elim
  | .sl _, _, p1 => exact p1.elim
def fRng1 (f : Rho → R (List AV)) : Rho → R (List Pd) := fun ρ => (f ρ).bind fun as ρ1 => match as with
  | [.d (.int j)] => if -(2 ^ 62) ≤ j ∧ j < 2 ^ 62 then .ok (nums 0 j.toNat) ρ1 else .bad
  | _ => .bad
theorem i_rng1 {t : TA} {f : Rho → R (List AV)} (h : DA Z W t f) : DI Z W (iRng1 t) (fRng1 f) := by
  intro Hf H O σ ρ s Q p
  refine h.bind s p fun as ρ1 vs Hf1 H1 s1 g1 k1 rs p1 => ?_
  split at p1
  · rename_i j
    cases rs with
    | cons r1 r2 =>
      cases r2
      cases r1 with
      | int _ =>
        by_cases hj : -(2 ^ 62) ≤ j ∧ j < 2 ^ 62
        · rw [if_pos hj] at p1
          exact ⟨j, rfl, hj.1, hj.2, p1 Hf1 H1 s1 Gr.refl Kp.refl _ dlv_rng⟩
        · rw [if_neg hj] at p1; exact p1.elim
  · exact p1.elim
def fRng2 (f : Rho → R (List AV)) : Rho → R (List Pd) := fun ρ => (f ρ).bind fun as ρ1 => match as with
  | [.d (.int i), .d (.int j)] => if (-(2 ^ 62) ≤ i ∧ i < 2 ^ 62) ∧ -(2 ^ 62) ≤ j ∧ j < 2 ^ 62 then .ok (nums i (j - i).toNat) ρ1 else .bad
  | _ => .bad
theorem i_rng2 {t : TA} {f : Rho → R (List AV)} (h : DA Z W t f) : DI Z W (iRng2 t) (fRng2 f) := by
  intro Hf H O σ ρ s Q p
  refine h.bind s p fun as ρ1 vs Hf1 H1 s1 g1 k1 rs p1 => ?_
  split at p1
  · rename_i i j
    cases rs with
    | cons r1 r2 =>
      cases r2 with
      | cons r2 r3 =>
        cases r3
        cases r1 with
        | int _ =>
          cases r2 with
          | int _ =>
            by_cases hj : (-(2 ^ 62) ≤ i ∧ i < 2 ^ 62) ∧ -(2 ^ 62) ≤ j ∧ j < 2 ^ 62
            · rw [if_pos hj] at p1
              exact ⟨i, j, rfl, ⟨hj.1.1, hj.1.2, hj.2.1, hj.2.2⟩, p1 Hf1 H1 s1 Gr.refl Kp.refl _ dlv_rng⟩
            · rw [if_neg hj] at p1; exact p1.elim
  · exact p1.elim
end
/-! ### targets -/
/-- slots outside js stay -/
def Off (js : List Nat) (σ σ' : L2.St) : Prop := σ'.length = σ.length ∧ ∀ i, i ∉ js → σ'[i]? = σ[i]?
theorem Off.refl {js : List Nat} {σ : L2.St} : Off js σ σ := ⟨rfl, fun _ _ => rfl⟩
theorem Off.trans {js : List Nat} {a b c : L2.St} (h : Off js a b) (g : Off js b c) : Off js a c := ⟨g.1.trans h.1, fun i hi => (g.2 i hi).trans (h.2 i hi)⟩
/-- slots that were handed in to be changed stay so, and hold what they held -/
def Kq (ρ ρ' : Rho) (σ σ' : L2.St) : Prop := ∀ (i : Nat) xs, ρ[i]? = some (.own true xs) → (∃ ys, ρ'[i]? = some (.own true ys)) ∧ σ'[i]? = σ[i]?
theorem Kq.refl {ρ : Rho} {σ : L2.St} : Kq ρ ρ σ σ := fun _ xs h => ⟨⟨xs, h⟩, rfl⟩
theorem Kq.trans {a b c : Rho} {x y z : L2.St} (h : Kq a b x y) (g : Kq b c y z) : Kq a c x z := fun i xs e => by
  obtain ⟨⟨ys, q⟩, e1⟩ := h i xs e
  obtain ⟨r, e2⟩ := g i ys q
  exact ⟨r, e2.trans e1⟩
theorem Kp.kq {ρ ρ' : Rho} {σ : L2.St} (h : Kp ρ ρ') : Kq ρ ρ' σ σ := fun i xs e => ⟨h i xs e, rfl⟩
theorem Kq.kp {ρ ρ' : Rho} {σ σ' : L2.St} (h : Kq ρ ρ' σ σ') : Kp ρ ρ' := fun i xs e => (h i xs e).1
/-- a target for data; js: the slots that it may store to -/
def DG (K : PySem.W.Frag) (js : List Nat) (g : TG) (h : Pd → Rho → Option Rho) : Prop := ∀ Hf H O σ ρ v x ρ', SR K Hf H O σ ρ → RD K Hf v x → h x ρ = some ρ' →
  ∀ Q : L2.St → Hp → Prop, (∀ σ', SR K Hf H O σ' ρ' → Off js σ σ' → (∀ i, i ∉ js → ρ'[i]? = ρ[i]?) → Kq ρ ρ' σ σ' → Q σ' H) → g v σ H Q
def DGs (K : PySem.W.Frag) (js : List Nat) (g : TGs) (h : List Pd → Rho → Option Rho) : Prop := ∀ Hf H O σ ρ vs xs ρ', SR K Hf H O σ ρ → RDs K Hf vs xs → h xs ρ = some ρ' →
  ∀ Q : L2.St → Hp → Prop, (∀ σ', SR K Hf H O σ' ρ' → Off js σ σ' → (∀ i, i ∉ js → ρ'[i]? = ρ[i]?) → Kq ρ ρ' σ σ' → Q σ' H) → g vs σ H Q
/-- data into a slot (not one that was handed in to be changed) -/
def put (i : Nat) (x : Pd) (ρ : Rho) : Option Rho := match ρ[i]? with
  | some (.own true _) => none
  | some _ => some (ρ.set i (.d x))
  | none => none
theorem SR.putD {K : PySem.W.Frag} {Hf H : Hp} {O : Addr → Prop} {σ : L2.St} {ρ : Rho} (s : SR K Hf H O σ ρ) {i : Nat} {v : V} {x : Pd} (hi : i < ρ.length) (r : RD K Hf v x) : SR K Hf H O (σ.set i (some v)) (ρ.set i (.d x)) where
  ex := s.ex
  otr := s.otr
  len := by simp [s.len]
  slot := fun j y h => by
    by_cases z : i = j
    · subst z
      rw [List.getElem?_set_self hi] at h
      cases h
      exact ⟨v, List.getElem?_set_self (by rw [s.len]; exact hi), r⟩
    · rw [List.getElem?_set_ne z] at h ⊢; exact s.slot j y h
  own := fun j b xs h => by
    by_cases z : i = j
    · subst z
      rw [List.getElem?_set_self hi] at h
      cases h
    · rw [List.getElem?_set_ne z] at h ⊢; exact s.own j b xs h
  dis := fun j k b c xs ys l h1 h2 h3 h4 => by
    by_cases z : i = j
    · subst z
      rw [List.getElem?_set_self hi] at h1
      cases h1
    · by_cases z2 : i = k
      · subst z2
        rw [List.getElem?_set_self hi] at h2
        cases h2
      · rw [List.getElem?_set_ne z] at h1 h3
        rw [List.getElem?_set_ne z2] at h2 h4
        exact s.dis j k b c xs ys l h1 h2 h3 h4
  exc := fun j e h => by
    by_cases z : i = j
    · subst z
      rw [List.getElem?_set_self hi] at h
      cases h
    · rw [List.getElem?_set_ne z] at h ⊢; exact s.exc j e h
theorem put_some {i : Nat} {x : Pd} {ρ ρ' : Rho} (h : put i x ρ = some ρ') : i < ρ.length ∧ ρ' = ρ.set i (.d x) ∧ ∀ xs, ρ[i]? ≠ some (.own true xs) := by
  unfold put at h
  cases e : ρ[i]? with
  | none => rw [e] at h; cases h
  | some z =>
    rw [e] at h
    have hi := (List.getElem?_eq_some_iff.mp e).1
    cases z with
    | no => cases h; exact ⟨hi, rfl, fun _ q => by cases q⟩
    | x _ => cases h; exact ⟨hi, rfl, fun _ q => by cases q⟩
    | d y => cases h; exact ⟨hi, rfl, fun _ q => by cases q⟩
    | own b xs =>
      cases b with
      | true => cases h
      | false => cases h; exact ⟨hi, rfl, fun _ q => by cases q⟩
section
variable {K : PySem.W.Frag}
theorem g_name (i : Nat) : DG K [i] (gName i) (put i) := by
  intro Hf H O σ ρ v x ρ' s r h Q q
  obtain ⟨hi, rfl, ni⟩ := put_some h
  refine q _ (s.putD hi r) ⟨by simp, fun j hj => ?_⟩ (fun j hj => ?_) fun j xs e => ?_
  · rw [List.getElem?_set_ne (fun z => hj (by simp [z]))]
  · rw [List.getElem?_set_ne (fun z => hj (by simp [z]))]
  · have z : i ≠ j := fun z => ni xs (by rw [z]; exact e)
    rw [List.getElem?_set_ne z, List.getElem?_set_ne z]
    exact ⟨⟨xs, e⟩, rfl⟩
def putNil : List Pd → Rho → Option Rho
  | [], ρ => some ρ
  | _ :: _, _ => none
def putCons (h : Pd → Rho → Option Rho) (k : List Pd → Rho → Option Rho) : List Pd → Rho → Option Rho
  | [], _ => none
  | x :: xs, ρ => match h x ρ with
    | some ρ1 => k xs ρ1
    | none => none
theorem gs_nil : DGs K [] gNil putNil := by
  intro Hf H O σ ρ vs xs ρ' s r h Q q
  cases r with
  | nil => cases h; exact ⟨rfl, q σ s Off.refl (fun _ _ => rfl) Kq.refl⟩
  | cons _ _ => cases h
theorem gs_cons {js ks : List Nat} {g : TG} {gs : TGs} {h : Pd → Rho → Option Rho} {k : List Pd → Rho → Option Rho} (hg : DG K js g h) (hs : DGs K ks gs k) : DGs K (js ++ ks) (gCons g gs) (putCons h k) := by
  intro Hf H O σ ρ vs xs ρ' s r e Q q
  cases r with
  | nil => cases e
  | cons r1 r2 =>
    rename_i v vs x xs
    simp only [putCons] at e
    cases e1 : h x ρ with
    | none => rw [e1] at e; cases e
    | some ρ1 =>
      rw [e1] at e
      refine ⟨_, _, rfl, hg Hf H O σ ρ _ _ ρ1 s r1 e1 _ fun σ1 s1 o1 z1 k1 => ?_⟩
      refine hs Hf H O σ1 ρ1 _ _ ρ' s1 r2 e Q fun σ2 s2 o2 z2 k2 => q σ2 s2 ⟨o2.1.trans o1.1, fun i hi => ?_⟩ (fun i hi => ?_) (k1.trans k2)
      · exact (o2.2 i fun z => hi (List.mem_append_right _ z)).trans (o1.2 i fun z => hi (List.mem_append_left _ z))
      · exact (z2 i fun z => hi (List.mem_append_right _ z)).trans (z1 i fun z => hi (List.mem_append_left _ z))
def putTup (n : Nat) (k : List Pd → Rho → Option Rho) : Pd → Rho → Option Rho
  | .tuple xs, ρ => if xs.length = n then k xs ρ else none
  | _, _ => none
theorem g_tup {n : Nat} {js : List Nat} {gs : TGs} {k : List Pd → Rho → Option Rho} (hs : DGs K js gs k) : DG K js (gTup K n gs) (putTup n k) := by
  intro Hf H O σ ρ v x ρ' s r e Q q
  cases r with
  | tup h1 h2 =>
    rename_i a vs xs
    simp only [putTup] at e
    by_cases hn : xs.length = n
    · rw [if_pos hn] at e
      exact ⟨_, _, rfl, ex_t s.ex h1, by rw [h2.length]; exact hn, hs Hf H O σ ρ _ _ ρ' s h2 e Q q⟩
    · rw [if_neg hn] at e; cases e
  | _ => cases e
end
end Dt
namespace Dt
open PySem PySem.Spec L2 Evl
/-! ### slots wiped -/
def wipeR (ρ : Rho) : List Nat → Rho
  | [] => ρ
  | v :: vs => (wipeR ρ vs).set v .no
theorem wipeR_length (ρ : Rho) : ∀ vs : List Nat, (wipeR ρ vs).length = ρ.length
  | [] => rfl
  | v :: vs => by unfold wipeR; rw [List.length_set, wipeR_length ρ vs]
theorem wipeR_in {ρ : Rho} {i : Nat} : ∀ {vs : List Nat}, i ∈ vs → (wipeR ρ vs)[i]? = some .no ∨ (wipeR ρ vs)[i]? = none
  | v :: vs, h => by
    unfold wipeR
    by_cases z : v = i
    · subst z
      by_cases hv : v < (wipeR ρ vs).length
      · exact .inl (List.getElem?_set_self hv)
      · exact .inr (List.getElem?_eq_none (by simpa using hv))
    · rw [List.getElem?_set_ne z]
      exact wipeR_in ((List.mem_cons.mp h).resolve_left fun e => z e.symm)
theorem wipeR_out {ρ : Rho} {i : Nat} : ∀ {vs : List Nat}, i ∉ vs → (wipeR ρ vs)[i]? = ρ[i]?
  | [], _ => rfl
  | v :: vs, h => by
    unfold wipeR
    rw [List.getElem?_set_ne (fun z => h (by simp [z])), wipeR_out fun z => h (List.mem_cons_of_mem _ z)]
theorem wipe_out {σ : L2.St} {i : Nat} : ∀ {vs : List Nat}, i ∉ vs → (wipe σ vs)[i]? = σ[i]?
  | [], _ => rfl
  | v :: vs, h => by
    unfold wipe
    rw [List.getElem?_set_ne (fun z => h (by simp [z])), wipe_out fun z => h (List.mem_cons_of_mem _ z)]
theorem wipe_in {σ : L2.St} {i : Nat} : ∀ {vs : List Nat}, i ∈ vs → (wipe σ vs)[i]? = if i < σ.length then some none else none
  | v :: vs, h => by
    unfold wipe
    by_cases z : v = i
    · subst z
      by_cases hv : v < σ.length
      · rw [List.getElem?_set_self (by rw [wipe_length]; exact hv), if_pos hv]
      · rw [if_neg hv, List.getElem?_eq_none (by rw [List.length_set, wipe_length]; omega)]
    · rw [List.getElem?_set_ne z]
      exact wipe_in ((List.mem_cons.mp h).resolve_left fun e => z e.symm)
theorem wipe_off {js vs : List Nat} {a b : L2.St} (h : Off js (wipe a vs) b) (hj : ∀ j ∈ js, j ∈ vs) : wipe b vs = wipe a vs := by
  apply List.ext_getElem?
  intro i
  have hl : b.length = a.length := h.1.trans (wipe_length a vs)
  by_cases hi : i ∈ vs
  · rw [wipe_in hi, wipe_in hi, hl]
  · rw [wipe_out hi, h.2 i fun z => hi (hj i z)]
section
variable {K : PySem.W.Frag} {Hf H : Hp} {O : Addr → Prop} {σ : L2.St} {ρ : Rho} {vs : List Nat}
theorem SR.wipe (s : SR K Hf H O σ ρ) : SR K Hf H O (wipe σ vs) (wipeR ρ vs) where
  ex := s.ex
  otr := s.otr
  len := by rw [wipe_length, wipeR_length, s.len]
  slot := fun i x h => by
    by_cases hi : i ∈ vs
    · rcases wipeR_in (ρ := ρ) hi with z | z <;> rw [z] at h <;> cases h
    · rw [wipeR_out hi] at h; rw [wipe_out hi]; exact s.slot i x h
  own := fun i b x h => by
    by_cases hi : i ∈ vs
    · rcases wipeR_in (ρ := ρ) hi with z | z <;> rw [z] at h <;> cases h
    · rw [wipeR_out hi] at h; rw [wipe_out hi]; exact s.own i b x h
  dis := fun i j b c x y l h1 h2 h3 h4 => by
    by_cases hi : i ∈ vs
    · rcases wipeR_in (ρ := ρ) hi with z | z <;> rw [z] at h1 <;> cases h1
    · by_cases hj : j ∈ vs
      · rcases wipeR_in (ρ := ρ) hj with z | z <;> rw [z] at h2 <;> cases h2
      · rw [wipeR_out hi] at h1; rw [wipe_out hi] at h3; rw [wipeR_out hj] at h2; rw [wipe_out hj] at h4
        exact s.dis i j b c x y l h1 h2 h3 h4
  exc := fun i e h => by
    by_cases hi : i ∈ vs
    · rcases wipeR_in (ρ := ρ) hi with z | z <;> rw [z] at h <;> cases h
    · rw [wipeR_out hi] at h; rw [wipe_out hi]; exact s.exc i e h
theorem SR.unwipe (s : SR K Hf H O (L2.wipe σ vs) (wipeR ρ vs)) : SR K Hf H O σ (wipeR ρ vs) where
  ex := s.ex
  otr := s.otr
  len := by rw [← s.len, wipe_length]
  slot := fun i x h => by
    by_cases hi : i ∈ vs
    · rcases wipeR_in (ρ := ρ) hi with z | z <;> rw [z] at h <;> cases h
    · have := s.slot i x h; rw [wipe_out hi] at this; exact this
  own := fun i b x h => by
    by_cases hi : i ∈ vs
    · rcases wipeR_in (ρ := ρ) hi with z | z <;> rw [z] at h <;> cases h
    · have := s.own i b x h; rw [wipe_out hi] at this; exact this
  dis := fun i j b c x y l h1 h2 h3 h4 => by
    by_cases hi : i ∈ vs
    · rcases wipeR_in (ρ := ρ) hi with z | z <;> rw [z] at h1 <;> cases h1
    · by_cases hj : j ∈ vs
      · rcases wipeR_in (ρ := ρ) hj with z | z <;> rw [z] at h2 <;> cases h2
      · exact s.dis i j b c x y l h1 h2 (by rw [wipe_out hi]; exact h3) (by rw [wipe_out hj]; exact h4)
  exc := fun i e h => by
    by_cases hi : i ∈ vs
    · rcases wipeR_in (ρ := ρ) hi with z | z <;> rw [z] at h <;> cases h
    · have := s.exc i e h; rw [wipe_out hi] at this; exact this
/-- an object that nobody of these knows may change -/
theorem SR.other (s : SR K Hf H O σ ρ) {a : Addr} {o o' : HO} (h : H a = some o) (hf : Hf a = none) (no : ¬ O a) : SR K Hf (upd H a o') O σ ρ where
  ex := fun b u q => by rw [upd_ne (ne_of_none q hf)]; exact s.ex b u q
  otr := fun b hb => by
    have z : b ≠ a := fun z => no (by rw [← z]; exact hb)
    rw [upd_ne z]; exact s.otr b hb
  len := s.len
  slot := s.slot
  own := fun i b xs q => by
    obtain ⟨l, vs, h1, h2, h3, h4⟩ := s.own i b xs q
    have z : l ≠ a := fun z => no (by rw [← z]; exact h2)
    exact ⟨l, vs, h1, h2, by rw [upd_ne z]; exact h3, h4⟩
  dis := s.dis
  exc := s.exc
end
theorem Gr.upd {O : Addr → Prop} {Hf H Hf1 H1 : Hp} (g : Gr O Hf H Hf1 H1) {a : Addr} {o : HO} (h : H a = none) : Gr O Hf H Hf1 (L2.upd H1 a o) where
  ex := g.ex
  fm := fun b u q n => by rw [upd_ne (ne_of_none q h)]; exact g.fm b u q n
  tr := fun b u q => by rw [upd_ne (ne_of_none q h)]; exact g.tr b u q
  nw := g.nw
theorem Gr.stays {O : Addr → Prop} {Hf H Hf1 H1 : Hp} (g : Gr O Hf H Hf1 H1) {a : Addr} {o : HO} (h : H a = some o) (hf : Hf a = none) (no : ¬ O a) : Hf1 a = none := by
  cases e : Hf1 a with
  | none => rfl
  | some u =>
    rcases g.nw a u e with z | z | z
    · rw [hf] at z; cases z
    · rw [h] at z; cases z
    · exact (no z).elim
/-! ### a list comprehension -/
def lcRun (h : Pd → Rho → Option Rho) (ft : Rho → R Bool) (fe : Rho → R AV) (vs : List Nat) : List Pd → List Pd → Rho → R (List Pd)
  | [], acc, ρ => .ok acc ρ
  | x :: xs, acc, ρ => match h x ρ with
    | none => .bad
    | some ρ1 => match ft ρ1 with
      | .ok true ρ2 => match fe ρ2 with
        | .ok (.d y) ρ3 => if acc.length < sizeLine then lcRun h ft fe vs xs (acc ++ [y]) (wipeR ρ3 vs) else .bad
        | _ => .bad
      | .ok false ρ2 => lcRun h ft fe vs xs acc (wipeR ρ2 vs)
      | _ => .bad
def okW (ρ : Rho) (vs : List Nat) : Bool := vs.all fun v => match ρ[v]? with
  | some (.own _ _) => false
  | _ => true
theorem okW_kp {ρ ρ1 : Rho} {vs : List Nat} (h : okW ρ vs = true) (k : Kp ρ ρ1) : Kp ρ (wipeR ρ1 vs) := fun i xs e => by
  have hi : i ∉ vs := fun z => by
    have q := List.all_eq_true.mp h i z
    rw [e] at q; cases q
  rw [wipeR_out hi]
  exact k i xs e
def fLc (fi : Rho → R (List Pd)) (h : Pd → Rho → Option Rho) (ft : Rho → R Bool) (fe : Rho → R AV) (vs : List Nat) : Rho → R (List Pd) := fun ρ =>
  if okW ρ vs = true then (fi ρ).bind fun xs ρ1 => lcRun h ft fe vs xs [] (wipeR ρ1 vs) else .bad
/-- no exception -/
def W0 : WX := fun _ _ _ _ => False
theorem l_lc {Z : Zx} {W : WX} {wi : TI} {g : TG} {tt : TT} {te : TE} {vs js : List Nat} {fi : Rho → R (List Pd)} {h : Pd → Rho → Option Rho} {ft : Rho → R Bool} {fe : Rho → R AV} (hi : DI Z W wi fi) (hg : DG Z.K js g h) (hj : ∀ j ∈ js, j ∈ vs)
    (ht : DT Z W0 tt ft) (he : DE Z W0 te fe) : DL Z W (tLc wi g tt te vs) (fLc fi h ft fe vs) := by
  intro Hf H O σ ρ s Q p
  unfold fLc at p
  by_cases hw : okW ρ vs = true
  case neg => rw [if_neg hw] at p; exact p.elim
  rw [if_pos hw] at p
  refine hi Hf H O σ ρ s _ ?_
  cases e : fi ρ with
  | bad => rw [e] at p; exact p
  | ex x ρ1 => rw [e] at p; exact p
  | ok xs ρ1 =>
    rw [e] at p
    intro Hf1 H1 s1 g1 k1 J dlv D nD
    have nD0 : H D = none := g1.gone nD
    have noD : ¬ O D := fun z => by
      obtain ⟨⟨o, q⟩, _⟩ := s.otr D z
      rw [nD0] at q; cases q
    have p : PostG Z W O σ ρ Hf H (fun a _ Hf' H' => ∀ v, RL Z.K H Hf' H' v a → Q v H') (lcRun h ft fe vs xs [] (wipeR ρ1 vs)) := p
    refine ⟨fun i m H' => m + i = xs.length ∧ ∃ Hf' ρ' acc us, SR Z.K Hf' H' O (wipe σ vs) ρ' ∧ SR Z.K Hf' H' O σ ρ' ∧ Ex Hf1 Hf' ∧ Gr O Hf H Hf' H' ∧ Kp ρ ρ' ∧ H' D = some (.lst us) ∧ Hf' D = none ∧ RDs Z.K Hf' us acc ∧
      PostG Z W O σ ρ Hf H (fun a _ Hf' H' => ∀ v, RL Z.K H Hf' H' v a → Q v H') (lcRun h ft fe vs (xs.drop i) acc ρ'), ⟨xs.length, by omega, Hf1, wipeR ρ1 vs, [], [], ?_, ?_, Ex.refl _, g1.upd nD0, okW_kp hw k1, upd_same, fresh_back s1.ex nD, .nil, by simpa using p⟩, ?_⟩
    · exact (s1.grow (Pg.lay s1.ex nD)).wipe
    · exact (s1.grow (Pg.lay s1.ex nD)).wipe.unwipe
    · rintro i m H' ⟨em, Hf', ρ', acc, us, sw, so, e1, g', k', hD, fD, rd, p'⟩
      obtain ⟨d1, d2, d3⟩ := dlv i Hf' H' e1 sw.ex
      by_cases hlt : i < xs.length
      case neg =>
        refine .inl ⟨d2 (by omega), ?_⟩
        rw [List.drop_eq_nil_of_le (by omega)] at p'
        exact p' Hf' H' so g' k' _ ⟨D, us, rfl, nD0, hD, fD, rd⟩
      refine .inr ⟨d1 hlt, fun H'' => ∃ Hf' ρ' acc us, SR Z.K Hf' H'' O (wipe σ vs) ρ' ∧ SR Z.K Hf' H'' O σ ρ' ∧ Ex Hf1 Hf' ∧ Gr O Hf H Hf' H'' ∧ Kp ρ ρ' ∧ H'' D = some (.lst us) ∧ Hf' D = none ∧ RDs Z.K Hf' us acc ∧
        PostG Z W O σ ρ Hf H (fun a _ Hf' H' => ∀ v, RL Z.K H Hf' H' v a → Q v H') (lcRun h ft fe vs (xs.drop (i + 1)) acc ρ'), fun H'' q => ⟨m - 1, by omega, by omega, q⟩, fun v H2 hy => ?_⟩
      obtain ⟨Hf2, pg, rv⟩ := d3 v H2 hy _ (List.getElem?_eq_getElem hlt)
      rw [List.drop_eq_getElem_cons hlt] at p'
      simp only [lcRun] at p'
      cases eh : h xs[i] ρ' with
      | none => rw [eh] at p'; exact p'.elim
      | some ρ2 =>
        rw [eh] at p'
        simp only at p'
        have hD2 : H2 D = some (.lst us) := pg.eh _ _ hD
        have fD2 : Hf2 D = none := (pg.gr (O := O)).stays hD fD noD
        refine hg Hf2 H2 O (wipe σ vs) ρ' v _ ρ2 (sw.grow pg) rv eh _ fun σ2 s2 off oth _ => ⟨wipe_off off hj, ?_⟩
        have ew : wipe σ2 vs = wipe σ vs := wipe_off off hj
        -- own slots that were handed in lie outside the block's own
        have kp2 : Kp ρ ρ2 := fun j ys ej => by
          have nj : j ∉ vs := fun z => by
            have q := List.all_eq_true.mp hw j z
            rw [ej] at q; cases q
          rw [oth j fun z => nj (hj j z)]
          exact k' j ys ej
        refine ht Hf2 H2 O σ2 ρ2 s2 _ ?_
        cases et : ft ρ2 with
        | bad => rw [et] at p'; exact p'.elim
        | ex x ρ3 => rw [et] at p'; exact p'.elim
        | ok b ρ3 =>
          rw [et] at p'
          intro Hf3 H3 s3 g3 k3 b' rb
          subst rb
          cases b' with
          | false =>
            have sw3 : SR Z.K Hf3 H3 O (wipe σ vs) (wipeR ρ3 vs) := ew ▸ s3.wipe
            refine ⟨Hf3, wipeR ρ3 vs, acc, us, sw3, sw3.unwipe, e1.trans (pg.ef.trans g3.ex), g'.trans (pg.gr.trans g3), okW_kp hw (kp2.trans k3), g3.fm _ _ hD2 noD, g3.stays hD2 fD2 noD, rd.mono (pg.ef.trans g3.ex), p'⟩
          | true =>
            simp only at p'
            refine he Hf3 H3 O σ2 ρ3 s3 _ ?_
            cases ee : fe ρ3 with
            | bad => rw [ee] at p'; exact p'.elim
            | ex x ρ4 => rw [ee] at p'; exact p'.elim
            | ok a ρ4 =>
              rw [ee] at p'
              cases a with
              | sl j => exact p'.elim
              | d y =>
                simp only at p'
                intro Hf4 H4 s4 g4 k4 w rw4
                by_cases hz : acc.length < sizeLine
                case neg => rw [if_neg hz] at p'; exact p'.elim
                rw [if_pos hz] at p'
                have gg := (pg.gr (O := O)).trans (g3.trans g4)
                have hD4 : H4 D = some (.lst us) := gg.fm _ _ hD noD
                have fD4 : Hf4 D = none := gg.stays hD fD noD
                have sw4 : SR Z.K Hf4 H4 O (wipe σ vs) (wipeR ρ4 vs) := ew ▸ s4.wipe
                refine ⟨us, hD4, by rw [rd.length]; exact hz, Hf4, wipeR ρ4 vs, acc ++ [y], us ++ [w], sw4.other hD4 fD4 noD, sw4.unwipe.other hD4 fD4 noD, e1.trans gg.ex, (g'.trans gg).upd nD0, okW_kp hw (kp2.trans (k3.trans k4)), upd_same, fD4, (rd.mono gg.ex).append (.cons rw4 .nil), p'⟩
end Dt
namespace Dt
open PySem PySem.Spec L2 Evl
/-- how a statement ends: it goes on, breaks, continues, returns data, returns a new list -/
inductive Fl where
  | nx | bk | ct
  | rt (x : Pd)
  | rl (xs : List Pd)
def EndS (Z : Zx) (En : Ends) (H0 Hf H : Hp) (O : Addr → Prop) (σ : L2.St) : Fl → Prop
  | .nx => En.nx σ H
  | .bk => En.bk σ H
  | .ct => En.ct σ H
  | .rt x => ∀ v, RD Z.K Hf v x → En.rt v H
  | .rl xs => ∀ l vs, H0 l = none → H l = some (.lst vs) → Hf l = none → ¬ O l → RDs Z.K Hf vs xs → En.rt (.ref l) H
def PostS (Z : Zx) (W : WX) (O : Addr → Prop) (σ : L2.St) (ρ : Rho) (Hf H : Hp) (En : Ends) : R Fl → Prop
  | .bad => False
  | .ok fl ρ' => ∀ Hf' H' O' σ', SR Z.K Hf' H' O' σ' ρ' → Gr O Hf H Hf' H' → Orl O H O' → Kq ρ ρ' σ σ' → EndS Z En H Hf' H' O' σ' fl
  | .ex e ρ' => ∀ cls d Hf' H' O' σ', SR Z.K Hf' H' O' σ' ρ' → Gr O Hf H Hf' H' → Orl O H O' → Kq ρ ρ' σ σ' → XR Z Hf' H' cls d e → W cls d σ' H'
theorem PostS.shift {Z : Zx} {W : WX} {O O1 : Addr → Prop} {σ σ1 : L2.St} {ρ ρ1 : Rho} {Hf H Hf1 H1 : Hp} {En : Ends} {r : R Fl} (p : PostS Z W O σ ρ Hf H En r) (g : Gr O Hf H Hf1 H1) (o : Orl O H O1) (k : Kq ρ ρ1 σ σ1) :
    PostS Z W O1 σ1 ρ1 Hf1 H1 En r := by
  cases r with
  | bad => exact p
  | ex e ρ' => exact fun cls d Hf' H' O' σ' s' g' o' k' x => p cls d Hf' H' O' σ' s' (g.transO g' o) (o.trans o' g) (k.trans k') x
  | ok fl ρ' =>
    intro Hf' H' O' σ' s' g' o' k'
    have q := p Hf' H' O' σ' s' (g.transO g' o) (o.trans o' g) (k.trans k')
    cases fl with
    | nx => exact q
    | bk => exact q
    | ct => exact q
    | rt x => exact q
    | rl xs => exact fun l vs h0 h1 h2 h3 h4 => q l vs (g.gone h0) h1 h2 h3 h4
def DS (Z : Zx) (W : WX) (t : TS) (f : Rho → R Fl) : Prop := ∀ Hf H O σ ρ, SR Z.K Hf H O σ ρ → ∀ En, PostS Z W O σ ρ Hf H En (f ρ) → t En σ H
theorem DJ.bindS {C A : Type} {Z : Zx} {W : WX} {Rel : Hp → Hp → Hp → L2.St → C → A → Prop} {t : L2.St → Hp → (C → Hp → Prop) → Prop} {f : Rho → R A} (h : DJ Z W Rel t f) {Hf H : Hp} {O : Addr → Prop} {σ : L2.St} {ρ : Rho} (s : SR Z.K Hf H O σ ρ)
    {En : Ends} {k : A → Rho → R Fl} (p : PostS Z W O σ ρ Hf H En ((f ρ).bind k)) {Q : C → Hp → Prop}
    (c : ∀ a ρ1 v Hf1 H1, SR Z.K Hf1 H1 O σ ρ1 → Gr O Hf H Hf1 H1 → Kp ρ ρ1 → Rel H Hf1 H1 σ v a → PostS Z W O σ ρ Hf H En (k a ρ1) → Q v H1) : t σ H Q := by
  refine h Hf H O σ ρ s Q ?_
  cases e : f ρ with
  | bad => rw [e] at p; exact p
  | ok a ρ1 =>
    rw [e] at p
    exact fun Hf1 H1 s1 g1 k1 v rv => c a ρ1 v Hf1 H1 s1 g1 k1 rv p
  | ex x ρ1 =>
    rw [e] at p
    exact fun cls d Hf1 H1 s1 g1 k1 xr => p cls d Hf1 H1 O σ s1 g1 Orl.refl k1.kq xr
section
variable {Z : Zx} {W : WX}
/-! ### rows of statements -/
def fNx : Rho → R Fl := fun ρ => .ok .nx ρ
theorem s_nx : DS Z W tNext fNx := fun Hf H O σ ρ s En p => p Hf H O σ s Gr.refl Orl.refl Kq.refl
def fSeq (f g : Rho → R Fl) : Rho → R Fl := fun ρ => match f ρ with
  | .ok .nx ρ1 => g ρ1
  | r => r
theorem s_seq {t u : TS} {f g : Rho → R Fl} (h : DS Z W t f) (k : DS Z W u g) : DS Z W (tSeq t u) (fSeq f g) := by
  intro Hf H O σ ρ s En p
  refine h Hf H O σ ρ s { En with nx := u En } ?_
  unfold fSeq at p
  cases e : f ρ with
  | bad => rw [e] at p; exact p
  | ex x ρ1 => rw [e] at p; exact p
  | ok fl ρ1 =>
    rw [e] at p
    cases fl with
    | nx => exact fun Hf1 H1 O1 σ1 s1 g1 o1 k1 => k Hf1 H1 O1 σ1 ρ1 s1 En (PostS.shift p g1 o1 k1)
    | bk => exact p
    | ct => exact p
    | rt x => exact p
    | rl xs => exact p
def fIfS (c : Rho → R Bool) (f g : Rho → R Fl) : Rho → R Fl := fun ρ => (c ρ).bind fun b ρ1 => if b = true then f ρ1 else g ρ1
theorem s_if {c : TT} {t u : TS} {fc : Rho → R Bool} {f g : Rho → R Fl} (hc : DT Z W c fc) (h : DS Z W t f) (k : DS Z W u g) : DS Z W (tIfS c t u) (fIfS fc f g) := by
  intro Hf H O σ ρ s En p
  refine DJ.bindS hc s p fun b ρ1 v Hf1 H1 s1 g1 k1 rv p1 => ?_
  subst rv
  cases v with
  | true => exact h Hf1 H1 O σ ρ1 s1 En (PostS.shift p1 g1 Orl.refl k1.kq)
  | false => exact k Hf1 H1 O σ ρ1 s1 En (PostS.shift p1 g1 Orl.refl k1.kq)
def fRet (f : Rho → R AV) : Rho → R Fl := fun ρ => (f ρ).bind fun a ρ1 => match a with
  | .d x => .ok (.rt x) ρ1
  | .sl _ => .bad
theorem s_ret {t : TE} {f : Rho → R AV} (h : DE Z W t f) : DS Z W (tRet t) (fRet f) := by
  intro Hf H O σ ρ s En p
  refine DJ.bindS h s p fun a ρ1 v Hf1 H1 s1 g1 k1 rv p1 => ?_
  cases a with
  | d x => exact p1 Hf1 H1 O σ s1 g1 Orl.refl k1.kq v rv
  | sl i => exact p1.elim
def fRetL (f : Rho → R (List Pd)) : Rho → R Fl := fun ρ => (f ρ).bind fun xs ρ1 => .ok (.rl xs) ρ1
theorem s_retL {t : TE} {f : Rho → R (List Pd)} (h : DL Z W t f) : DS Z W (tRet t) (fRetL f) := by
  intro Hf H O σ ρ s En p
  refine DJ.bindS h s p fun a ρ1 v Hf1 H1 s1 g1 k1 rv p1 => ?_
  obtain ⟨l, vs, rfl, h0, h1, h2, h3⟩ := rv
  refine p1 Hf1 H1 O σ s1 g1 Orl.refl k1.kq l vs h0 h1 h2 (fun z => ?_) h3
  obtain ⟨⟨o, q⟩, _⟩ := s.otr l z
  rw [h0] at q; cases q
def fRetN : Rho → R Fl := fun ρ => .ok (.rt .none) ρ
theorem s_retN : DS Z W tRetN fRetN := fun Hf H O σ ρ s En p => p Hf H O σ s Gr.refl Orl.refl Kq.refl .non .non
def fDrop (f : Rho → R AV) : Rho → R Fl := fun ρ => (f ρ).bind fun _ ρ1 => .ok .nx ρ1
theorem s_drop {t : TE} {f : Rho → R AV} (h : DE Z W t f) : DS Z W (tDrop t) (fDrop f) := by
  intro Hf H O σ ρ s En p
  refine DJ.bindS h s p fun a ρ1 v Hf1 H1 s1 g1 k1 rv p1 => ?_
  exact p1 Hf1 H1 O σ s1 g1 Orl.refl k1.kq
theorem s_never : DS Z W tNever (fun _ => .bad) := fun Hf H O σ ρ s En p => p
theorem s_bk : DS Z W tBreak (fun ρ => .ok .bk ρ) := fun Hf H O σ ρ s En p => p Hf H O σ s Gr.refl Orl.refl Kq.refl
theorem s_ct : DS Z W tCont (fun ρ => .ok .ct ρ) := fun Hf H O σ ρ s En p => p Hf H O σ s Gr.refl Orl.refl Kq.refl
/-! ### assignments -/
def fAsg (f : Rho → R AV) (h : Pd → Rho → Option Rho) : Rho → R Fl := fun ρ => (f ρ).bind fun a ρ1 => match a with
  | .d x => match h x ρ1 with
    | some ρ2 => .ok .nx ρ2
    | none => .bad
  | .sl _ => .bad
theorem s_asg {js : List Nat} {t : TE} {g : TG} {f : Rho → R AV} {h : Pd → Rho → Option Rho} (he : DE Z W t f) (hg : DG Z.K js g h) : DS Z W (tAsg t g) (fAsg f h) := by
  intro Hf H O σ ρ s En p
  refine DJ.bindS he s p fun a ρ1 v Hf1 H1 s1 g1 k1 rv p1 => ?_
  cases a with
  | sl i => exact p1.elim
  | d x =>
    simp only at p1
    cases e : h x ρ1 with
    | none => rw [e] at p1; exact p1.elim
    | some ρ2 =>
      rw [e] at p1
      exact hg Hf1 H1 O σ ρ1 v x ρ2 s1 rv e _ fun σ' s2 _ _ k2 => p1 Hf1 H1 O σ' s2 g1 Orl.refl (Kq.trans k1.kq k2)
/-- a new list into a slot: owned from now on -/
def putOwn (i : Nat) (xs : List Pd) (ρ : Rho) : Option Rho := match ρ[i]? with
  | some (.own true _) => none
  | some _ => some (ρ.set i (.own false xs))
  | none => none
theorem putOwn_some {i : Nat} {x : List Pd} {ρ ρ' : Rho} (h : putOwn i x ρ = some ρ') : i < ρ.length ∧ ρ' = ρ.set i (.own false x) ∧ ∀ xs, ρ[i]? ≠ some (.own true xs) := by
  unfold putOwn at h
  cases e : ρ[i]? with
  | none => rw [e] at h; cases h
  | some z =>
    rw [e] at h
    have hi := (List.getElem?_eq_some_iff.mp e).1
    cases z with
    | no => cases h; exact ⟨hi, rfl, fun _ q => by cases q⟩
    | x _ => cases h; exact ⟨hi, rfl, fun _ q => by cases q⟩
    | d y => cases h; exact ⟨hi, rfl, fun _ q => by cases q⟩
    | own b xs =>
      cases b with
      | true => cases h
      | false => cases h; exact ⟨hi, rfl, fun _ q => by cases q⟩
def fSetO (f : Rho → R (List Pd)) (i : Nat) : Rho → R Fl := fun ρ => (f ρ).bind fun xs ρ1 => match putOwn i xs ρ1 with
  | some ρ2 => .ok .nx ρ2
  | none => .bad
theorem SR.putO {K : PySem.W.Frag} {Hf H : Hp} {O : Addr → Prop} {σ : L2.St} {ρ : Rho} (s : SR K Hf H O σ ρ) {i : Nat} {l : Addr} {vs : List V} {xs : List Pd} (hi : i < ρ.length) (h1 : H l = some (.lst vs)) (h2 : Hf l = none) (no : ¬ O l) (r : RDs K Hf vs xs) :
    SR K Hf H (fun a => O a ∨ a = l) (σ.set i (some (.ref l))) (ρ.set i (.own false xs)) where
  ex := s.ex
  otr := fun a h => by
    rcases h with h | h
    · exact s.otr a h
    · subst h; exact ⟨⟨_, h1⟩, h2⟩
  len := by simp [s.len]
  slot := fun j y h => by
    by_cases z : i = j
    · subst z
      rw [List.getElem?_set_self hi] at h
      cases h
    · rw [List.getElem?_set_ne z] at h ⊢; exact s.slot j y h
  own := fun j b ys h => by
    by_cases z : i = j
    · subst z
      rw [List.getElem?_set_self hi] at h
      cases h
      exact ⟨l, vs, List.getElem?_set_self (by rw [s.len]; exact hi), .inr rfl, h1, r⟩
    · rw [List.getElem?_set_ne z] at h ⊢
      obtain ⟨k, us, q1, q2, q3⟩ := s.own j b ys h
      exact ⟨k, us, q1, .inl q2, q3⟩
  dis := fun j k b c xs ys m h1 h2 h3 h4 => by
    have ne : ∀ {j : Nat} {b ys}, i ≠ j → (ρ.set i (.own false xs))[j]? = some (.own b ys) → (σ.set i (some (.ref l)))[j]? = some (some (.ref m)) → m ≠ l := fun {j b ys} z q1 q2 e => by
      rw [List.getElem?_set_ne z] at q1 q2
      obtain ⟨k, us, e1, e2, _⟩ := s.own j b ys q1
      rw [q2] at e1
      cases e1
      rw [e] at e2
      exact no e2
    by_cases z : i = j
    · by_cases z2 : i = k
      · rw [← z, ← z2]
      · subst z
        rw [List.getElem?_set_self (by rw [s.len]; exact hi)] at h3
        cases h3
        rw [List.getElem?_set_ne z2] at h2 h4
        obtain ⟨k', us, e1, e2, _⟩ := s.own k c ys h2
        rw [h4] at e1
        cases e1
        exact (no e2).elim
    · by_cases z2 : i = k
      · subst z2
        rw [List.getElem?_set_self (by rw [s.len]; exact hi)] at h4
        cases h4
        rw [List.getElem?_set_ne z] at h1 h3
        obtain ⟨k', us, e1, e2, _⟩ := s.own j b xs h1
        rw [h3] at e1
        cases e1
        exact (no e2).elim
      · rw [List.getElem?_set_ne z] at h1 h3
        rw [List.getElem?_set_ne z2] at h2 h4
        exact s.dis j k b c xs ys m h1 h2 h3 h4
  exc := fun j e h => by
    by_cases z : i = j
    · subst z
      rw [List.getElem?_set_self hi] at h
      cases h
    · rw [List.getElem?_set_ne z] at h ⊢; exact s.exc j e h
theorem s_setO {i : Nat} {t : TE} {f : Rho → R (List Pd)} (he : DL Z W t f) : DS Z W (tAsg t (gName i)) (fSetO f i) := by
  intro Hf H O σ ρ s En p
  refine DJ.bindS he s p fun xs ρ1 v Hf1 H1 s1 g1 k1 rv p1 => ?_
  obtain ⟨l, vs, rfl, h0, h1, h2, h3⟩ := rv
  cases e : putOwn i xs ρ1 with
  | none => rw [e] at p1; exact p1.elim
  | some ρ2 =>
    rw [e] at p1
    obtain ⟨hi, rfl, ni⟩ := putOwn_some e
    have no : ¬ O l := fun z => by
      obtain ⟨⟨o, q⟩, _⟩ := s.otr l z
      rw [h0] at q; cases q
    refine p1 Hf1 H1 _ _ (s1.putO hi h1 h2 no h3) g1 (fun a z => z.elim .inl fun z => .inr (by rw [z]; exact h0)) (Kq.trans k1.kq fun j ys ej => ?_)
    have z : i ≠ j := fun z => ni ys (by rw [z]; exact ej)
    rw [List.getElem?_set_ne z, List.getElem?_set_ne z]
    exact ⟨⟨ys, ej⟩, rfl⟩
/-! ### an owned list is changed -/
theorem SR.chg {K : PySem.W.Frag} {Hf H : Hp} {O : Addr → Prop} {σ : L2.St} {ρ : Rho} (s : SR K Hf H O σ ρ) {i : Nat} {b : Bool} {xs ys : List Pd} {l : Addr} {vs us : List V} (e : ρ[i]? = some (.own b xs)) (hs : σ[i]? = some (some (.ref l))) (h1 : H l = some (.lst vs)) (r : RDs K Hf us ys) :
    SR K Hf (upd H l (.lst us)) O σ (ρ.set i (.own b ys)) := by
  have hi := (List.getElem?_eq_some_iff.mp e).1
  obtain ⟨l', vs', q1, q2, q3, q4⟩ := s.own i b xs e
  rw [hs] at q1
  cases q1
  have hf := (s.otr l q2).2
  refine ⟨fun a u h => ?_, fun a h => ?_, by simp [s.len], fun j y h => ?_, fun j c zs h => ?_, fun j k c d x y m a1 a2 a3 a4 => ?_, fun j e' h => ?_⟩
  · rw [upd_ne (ne_of_none h hf)]; exact s.ex a u h
  · refine ⟨?_, (s.otr a h).2⟩
    by_cases z : a = l
    · subst z; exact ⟨_, upd_same⟩
    · rw [upd_ne z]; exact (s.otr a h).1
  · by_cases z : i = j
    · subst z
      rw [List.getElem?_set_self hi] at h
      cases h
    · rw [List.getElem?_set_ne z] at h; exact s.slot j y h
  · by_cases z : i = j
    · subst z
      rw [List.getElem?_set_self hi] at h
      cases h
      exact ⟨l, us, hs, q2, upd_same, r⟩
    · rw [List.getElem?_set_ne z] at h
      obtain ⟨k, ws, b1, b2, b3, b4⟩ := s.own j c zs h
      have z2 : k ≠ l := fun z2 => z (s.dis i j b c xs zs l e h hs (by rw [← z2]; exact b1))
      exact ⟨k, ws, b1, b2, by rw [upd_ne z2]; exact b3, b4⟩
  · have back : ∀ {j : Nat} {c x}, (ρ.set i (.own b ys))[j]? = some (.own c x) → ∃ c x, ρ[j]? = some (.own c x) := fun {j c x} q => by
      by_cases z : i = j
      · subst z; exact ⟨b, xs, e⟩
      · rw [List.getElem?_set_ne z] at q; exact ⟨c, x, q⟩
    obtain ⟨c1, x1, a1⟩ := back a1
    obtain ⟨c2, x2, a2⟩ := back a2
    exact s.dis j k c1 c2 x1 x2 m a1 a2 a3 a4
  · by_cases z : i = j
    · subst z
      rw [List.getElem?_set_self hi] at h
      cases h
    · rw [List.getElem?_set_ne z] at h; exact s.exc j e' h
theorem Gr.chg {O : Addr → Prop} {Hf H Hf1 H1 : Hp} (g : Gr O Hf H Hf1 H1) {l : Addr} {o : HO} (ho : O l) : Gr O Hf H Hf1 (L2.upd H1 l o) where
  ex := g.ex
  fm := fun a u q n => by
    have z : a ≠ l := fun z => n (by rw [z]; exact ho)
    rw [upd_ne z]; exact g.fm a u q n
  tr := fun a u q => by
    by_cases z : a = l
    · subst z; exact ⟨_, upd_same⟩
    · rw [upd_ne z]; exact g.tr a u q
  nw := g.nw
theorem kp_chg {ρ : Rho} {i : Nat} {b : Bool} {xs ys : List Pd} (e : ρ[i]? = some (.own b xs)) : Kp ρ (ρ.set i (.own b ys)) := fun j zs q => by
  have hi := (List.getElem?_eq_some_iff.mp e).1
  by_cases z : i = j
  · subst z
    rw [e] at q
    cases q
    exact ⟨ys, List.getElem?_set_self hi⟩
  · exact ⟨zs, by rw [List.getElem?_set_ne z]; exact q⟩
/-- x.append(e), x in the slot i -/
def fApp (i : Nat) (f : Rho → R AV) : Rho → R Fl := fun ρ => match ρ[i]? with
  | some (.own _ _) => (f ρ).bind fun a ρ1 => match a, ρ1[i]? with
    | .d y, some (.own b xs) => if xs.length < sizeLine then .ok .nx (ρ1.set i (.own b (xs ++ [y]))) else .bad
    | _, _ => .bad
  | _ => .bad
theorem s_app {i : Nat} {t : TE} {f : Rho → R AV} (he : DE Z W t f) : DS Z W (tDrop (tBM Z.K "list" rAppend (tVar i) (tCons t tNil))) (fApp i f) := by
  intro Hf H O σ ρ s En p
  unfold fApp at p
  cases e0 : ρ[i]? with
  | none => rw [e0] at p; exact p.elim
  | some z0 =>
    rw [e0] at p
    cases z0 with
    | no => exact p.elim
    | x _ => exact p.elim
    | d y => exact p.elim
    | own b0 xs0 =>
      simp only at p
      obtain ⟨l, vs, h1, h2, h3, h4⟩ := s.own i b0 xs0 e0
      refine ⟨.ref l, h1, .inl ⟨rfl, vs, .inl (.inl h3)⟩, ?_⟩
      refine DJ.bindS he s p fun a ρ1 v Hf1 H1 s1 g1 k1 rv p1 => ?_
      show rAppend (.ref l) [v] H1 (fun _ H2 => En.nx σ H2)
      cases a with
      | sl j => exact p1.elim
      | d y =>
        cases e1 : ρ1[i]? with
        | none => rw [e1] at p1; exact p1.elim
        | some z1 =>
          rw [e1] at p1
          cases z1 with
          | no => exact p1.elim
          | x _ => exact p1.elim
          | d y => exact p1.elim
          | own b xs =>
            simp only at p1
            obtain ⟨l', us, q1, q2, q3, q4⟩ := s1.own i b xs e1
            rw [h1] at q1
            cases q1
            by_cases hz : xs.length < sizeLine
            · rw [if_pos hz] at p1
              exact ⟨l, us, v, rfl, rfl, q3, by rw [q4.length]; exact hz, p1 Hf1 _ O σ (s1.chg e1 h1 q3 (q4.append (.cons rv .nil))) (g1.chg q2) Orl.refl (Kq.trans k1.kq (kp_chg e1).kq)⟩
            · rw [if_neg hz] at p1; exact p1.elim
/-- x.extend(e), e a new list -/
def fExt (i : Nat) (f : Rho → R (List Pd)) : Rho → R Fl := fun ρ => match ρ[i]? with
  | some (.own _ _) => (f ρ).bind fun ys ρ1 => match ρ1[i]? with
    | some (.own b xs) => if xs.length + ys.length ≤ sizeLine then .ok .nx (ρ1.set i (.own b (xs ++ ys))) else .bad
    | _ => .bad
  | _ => .bad
theorem s_ext {i : Nat} {t : TE} {f : Rho → R (List Pd)} (he : DL Z W t f) : DS Z W (tDrop (tBM Z.K "list" rExtend (tVar i) (tCons t tNil))) (fExt i f) := by
  intro Hf H O σ ρ s En p
  unfold fExt at p
  cases e0 : ρ[i]? with
  | none => rw [e0] at p; exact p.elim
  | some z0 =>
    rw [e0] at p
    cases z0 with
    | no => exact p.elim
    | x _ => exact p.elim
    | d y => exact p.elim
    | own b0 xs0 =>
      simp only at p
      obtain ⟨l, vs, h1, h2, h3, h4⟩ := s.own i b0 xs0 e0
      refine ⟨.ref l, h1, .inl ⟨rfl, vs, .inl (.inl h3)⟩, ?_⟩
      refine DJ.bindS he s p fun ys ρ1 v Hf1 H1 s1 g1 k1 rv p1 => ?_
      obtain ⟨m, ws, rfl, m0, m1, m2, m3⟩ := rv
      show rExtend (.ref l) [.ref m] H1 (fun _ H2 => En.nx σ H2)
      cases e1 : ρ1[i]? with
      | none => rw [e1] at p1; exact p1.elim
      | some z1 =>
        rw [e1] at p1
        cases z1 with
        | no => exact p1.elim
        | x _ => exact p1.elim
        | d y => exact p1.elim
        | own b xs =>
          simp only at p1
          obtain ⟨l', us, q1, q2, q3, q4⟩ := s1.own i b xs e1
          rw [h1] at q1
          cases q1
          by_cases hz : xs.length + ys.length ≤ sizeLine
          · rw [if_pos hz] at p1
            exact ⟨l, m, us, ws, rfl, rfl, q3, m1, by rw [q4.length, m3.length]; exact hz, p1 Hf1 _ O σ (s1.chg e1 h1 q3 (q4.append m3)) (g1.chg q2) Orl.refl (Kq.trans k1.kq (kp_chg e1).kq)⟩
          · rw [if_neg hz] at p1; exact p1.elim
/-- x[k] = e, x in the slot i -/
def fSetI (i : Nat) (f fk : Rho → R AV) : Rho → R Fl := fun ρ => (f ρ).bind fun a ρ1 => match a, ρ1[i]? with
  | .d y, some (.own _ _) => (fk ρ1).bind fun k ρ2 => match k, ρ2[i]? with
    | .d (.int n), some (.own b xs) => match ixN xs.length n with
      | some j => .ok .nx (ρ2.set i (.own b (xs.set j y)))
      | none => .bad
    | _, _ => .bad
  | _, _ => .bad
theorem s_setI {i : Nat} {t tk : TE} {f fk : Rho → R AV} (he : DE Z W t f) (hk : DE Z W tk fk) : DS Z W (tAsg t (gSub (tVar i) tk rSetL)) (fSetI i f fk) := by
  intro Hf H O σ ρ s En p
  refine DJ.bindS he s p fun a ρ1 v Hf1 H1 s1 g1 k1 rv p1 => ?_
  cases a with
  | sl j => exact p1.elim
  | d y =>
    cases e1 : ρ1[i]? with
    | none => rw [e1] at p1; exact p1.elim
    | some z1 =>
      rw [e1] at p1
      cases z1 with
      | no => exact p1.elim
      | x _ => exact p1.elim
      | d y => exact p1.elim
      | own b1 xs1 =>
        simp only at p1
        obtain ⟨l, vs, h1, h2, h3, h4⟩ := s1.own i b1 xs1 e1
        refine ⟨.ref l, h1, ?_⟩
        refine DJ.bindS hk s1 (PostS.shift p1 g1 Orl.refl k1.kq) fun k ρ2 kv Hf2 H2 s2 g2 k2 rk p2 => ?_
        match k, rk, p2 with
        | .d (.int n), rk, p2 =>
          cases e2 : ρ2[i]? with
          | none => rw [e2] at p2; exact p2.elim
          | some z2 =>
            rw [e2] at p2
            cases z2 with
            | no => exact p2.elim
            | x _ => exact p2.elim
            | d y => exact p2.elim
            | own b xs =>
              simp only at p2
              obtain ⟨l', us, q1, q2, q3, q4⟩ := s2.own i b xs e2
              rw [h1] at q1
              cases q1
              cases en : ixN xs.length n with
              | none => rw [en] at p2; exact p2.elim
              | some j =>
                rw [en] at p2
                cases rk
                exact ⟨l, us, n, j, rfl, rfl, q3, by rw [q4.length]; exact en, p2 Hf2 _ O σ (s2.chg e2 h1 q3 (RDs.set (RD.mono g2.ex rv) j q4)) (g2.chg q2) Orl.refl (Kq.trans k2.kq (kp_chg e2).kq)⟩
        | .d .none, _, p2 => exact p2.elim
        | .d (.bool _), _, p2 => exact p2.elim
        | .d (.str _), _, p2 => exact p2.elim
        | .d (.tuple _), _, p2 => exact p2.elim
        | .d (.list _), _, p2 => exact p2.elim
        | .d (.dict _), _, p2 => exact p2.elim
        | .sl _, _, p2 => exact p2.elim
/-! ### an owned list is owned no more: from here on it is data -/
def frz (i : Nat) (ρ : Rho) : Rho := match ρ[i]? with
  | some (.own false xs) => ρ.set i (.d (.list xs))
  | _ => ρ
theorem SR.frz {K : PySem.W.Frag} {Hf H : Hp} {O : Addr → Prop} {σ : L2.St} {ρ : Rho} (s : SR K Hf H O σ ρ) (i : Nat) : ∃ Hf' O', SR K Hf' H O' σ (Dt.frz i ρ) ∧ Gr O Hf H Hf' H ∧ Orl O H O' ∧ Kp ρ (Dt.frz i ρ) := by
  unfold Dt.frz
  split
  · rename_i xs e
    have hi := (List.getElem?_eq_some_iff.mp e).1
    obtain ⟨l, vs, h1, h2, h3, h4⟩ := s.own i false xs e
    have hf := (s.otr l h2).2
    refine ⟨upd Hf l (.lst vs), fun a => O a ∧ a ≠ l, ⟨fun a u h => ?_, fun a h => ?_, by simp [s.len], fun j y h => ?_, fun j c zs h => ?_, fun j k c d x y m a1 a2 a3 a4 => ?_, fun j e' h => ?_⟩, ⟨Ex.new hf, fun _ _ h _ => h, fun _ o h => ⟨o, h⟩, fun a o h => ?_⟩, fun a h => .inl h.1, fun j ys q => ?_⟩
    · by_cases z : a = l
      · subst z; rw [upd_same] at h; cases h; exact h3
      · rw [upd_ne z] at h; exact s.ex a u h
    · refine ⟨(s.otr a h.1).1, ?_⟩
      rw [upd_ne h.2]; exact (s.otr a h.1).2
    · by_cases z : i = j
      · subst z
        rw [List.getElem?_set_self hi] at h
        cases h
        exact ⟨_, h1, .lst (sq_of upd_same) (h4.mono (Ex.new hf))⟩
      · rw [List.getElem?_set_ne z] at h
        obtain ⟨v, q1, q2⟩ := s.slot j y h
        exact ⟨v, q1, q2.mono (Ex.new hf)⟩
    · by_cases z : i = j
      · subst z
        rw [List.getElem?_set_self hi] at h
        cases h
      · rw [List.getElem?_set_ne z] at h
        obtain ⟨k, ws, b1, b2, b3, b4⟩ := s.own j c zs h
        exact ⟨k, ws, b1, ⟨b2, fun z2 => z (s.dis i j false c xs zs l e h h1 (by rw [← z2]; exact b1))⟩, b3, b4.mono (Ex.new hf)⟩
    · by_cases z : i = j
      · subst z
        rw [List.getElem?_set_self hi] at a1
        cases a1
      · by_cases z2 : i = k
        · subst z2
          rw [List.getElem?_set_self hi] at a2
          cases a2
        · rw [List.getElem?_set_ne z] at a1
          rw [List.getElem?_set_ne z2] at a2
          exact s.dis j k c d x y m a1 a2 a3 a4
    · by_cases z : i = j
      · subst z
        rw [List.getElem?_set_self hi] at h
        cases h
      · rw [List.getElem?_set_ne z] at h
        obtain ⟨v, q1, q2⟩ := s.exc j e' h
        exact ⟨v, q1, q2.mono (Ex.new hf)⟩
    · by_cases z : a = l
      · subst z; exact .inr (.inr h2)
      · rw [upd_ne z] at h; exact .inl h
    · have z : i ≠ j := fun z => by rw [z, q] at e; cases e
      exact ⟨ys, by rw [List.getElem?_set_ne z]; exact q⟩
  · exact ⟨Hf, O, s, Gr.refl, Orl.refl, Kp.refl⟩
def fFrz (i : Nat) (f : Rho → R Fl) : Rho → R Fl := fun ρ => f (frz i ρ)
theorem s_frz (i : Nat) {t : TS} {f : Rho → R Fl} (h : DS Z W t f) : DS Z W t (fFrz i f) := by
  intro Hf H O σ ρ s En p
  obtain ⟨Hf', O', s', g', o', k'⟩ := s.frz i
  exact h Hf' H O' σ _ s' En (PostS.shift p g' o' k'.kq)
/-! ### for -/
def forRun (h : Pd → Rho → Option Rho) (fb : Rho → R Fl) : List Pd → Rho → R Fl
  | [], ρ => .ok .nx ρ
  | x :: xs, ρ => match h x ρ with
    | none => .bad
    | some ρ1 => match fb ρ1 with
      | .ok .nx ρ2 => forRun h fb xs ρ2
      | .ok .ct ρ2 => forRun h fb xs ρ2
      | .ok .bk ρ2 => .ok .nx ρ2
      | r => r
def fFor (fi : Rho → R (List Pd)) (h : Pd → Rho → Option Rho) (fb : Rho → R Fl) : Rho → R Fl := fun ρ => (fi ρ).bind fun xs ρ1 => forRun h fb xs ρ1
theorem s_for {wi : TI} {g : TG} {tb : TS} {js : List Nat} {fi : Rho → R (List Pd)} {h : Pd → Rho → Option Rho} {fb : Rho → R Fl} (hi : DI Z W wi fi) (hg : DG Z.K js g h) (hb : DS Z W tb fb) : DS Z W (tFor wi g tb) (fFor fi h fb) := by
  intro Hf H O σ ρ s En p
  refine DJ.bindS hi s p fun xs ρ1 J Hf1 H1 s1 g1 k1 dlv p1 => ?_
  refine ⟨fun i m σ' H' => m + i = xs.length ∧ ∃ Hf' O' ρ', SR Z.K Hf' H' O' σ' ρ' ∧ Ex Hf1 Hf' ∧ Gr O Hf H Hf' H' ∧ Orl O H O' ∧ Kq ρ ρ' σ σ' ∧ PostS Z W O σ ρ Hf H En (forRun h fb (xs.drop i) ρ'),
    ⟨xs.length, by omega, Hf1, O, ρ1, s1, Ex.refl _, g1, Orl.refl, k1.kq, by simpa using p1⟩, ?_⟩
  rintro i m σ' H' ⟨em, Hf', O', ρ', s', e1, g', o', k', p'⟩
  obtain ⟨d1, d2, d3⟩ := dlv i Hf' H' e1 s'.ex
  by_cases hlt : i < xs.length
  case neg =>
    refine .inl ⟨d2 (by omega), ?_⟩
    rw [List.drop_eq_nil_of_le (by omega)] at p'
    exact p' Hf' H' O' σ' s' g' o' k'
  refine .inr ⟨d1 hlt, fun σ2 H2 => ∃ Hf' O' ρ', SR Z.K Hf' H2 O' σ2 ρ' ∧ Ex Hf1 Hf' ∧ Gr O Hf H Hf' H2 ∧ Orl O H O' ∧ Kq ρ ρ' σ σ2 ∧ PostS Z W O σ ρ Hf H En (forRun h fb (xs.drop (i + 1)) ρ'), fun σ2 H2 q => ⟨m - 1, by omega, by omega, q⟩, fun v H2 hy => ?_⟩
  obtain ⟨Hf2, pg, rv⟩ := d3 v H2 hy _ (List.getElem?_eq_getElem hlt)
  rw [List.drop_eq_getElem_cons hlt] at p'
  simp only [forRun] at p'
  cases eh : h xs[i] ρ' with
  | none => rw [eh] at p'; exact p'.elim
  | some ρ2 =>
    rw [eh] at p'
    simp only at p'
    refine hg Hf2 H2 O' σ' ρ' v _ ρ2 (s'.grow pg) rv eh _ fun σ2 s2 _ _ kq2 => ?_
    refine hb Hf2 H2 O' σ2 ρ2 s2 _ ?_
    have gA : Gr O Hf H Hf2 H2 := g'.transO pg.gr o'
    cases eb : fb ρ2 with
    | bad => rw [eb] at p'; exact p'
    | ex x ρ3 =>
      rw [eb] at p'
      exact fun cls d Hf3 H3 O3 σ3 s3 g3 o3 k3 xr => p' cls d Hf3 H3 O3 σ3 s3 (gA.transO g3 o') (o'.trans o3 gA) (k'.trans (kq2.trans k3)) xr
    | ok fl ρ3 =>
      rw [eb] at p'
      intro Hf3 H3 O3 σ3 s3 g3 o3 k3
      have gB := gA.transO g3 o'
      have oB := o'.trans o3 gA
      have kB := k'.trans (kq2.trans k3)
      cases fl with
      | nx => exact ⟨Hf3, O3, ρ3, s3, e1.trans (pg.ef.trans g3.ex), gB, oB, kB, p'⟩
      | ct => exact ⟨Hf3, O3, ρ3, s3, e1.trans (pg.ef.trans g3.ex), gB, oB, kB, p'⟩
      | bk => exact p' Hf3 H3 O3 σ3 s3 gB oB kB
      | rt x => exact p' Hf3 H3 O3 σ3 s3 gB oB kB
      | rl ys => exact fun l vs h0 h1 h2 h3 h4 => p' Hf3 H3 O3 σ3 s3 gB oB kB l vs (gA.gone h0) h1 h2 h3 h4
end
end Dt
namespace Dt
open PySem PySem.Spec L2 Evl
/-- what a def hands back: data, or a new list -/
inductive RV where
  | d (x : Pd)
  | l (xs : List Pd)
/-- the lists that were handed in to be changed, as they are behind -/
def outs : Rho → Rho → Rho
  | [], _ => []
  | .own true _ :: as, z :: ρ => z :: outs as ρ
  | a :: as, _ :: ρ => a :: outs as ρ
  | a :: as, [] => a :: as
theorem outs_length : ∀ as ρ : Rho, (outs as ρ).length = as.length
  | [], _ => rfl
  | .own true _ :: as, z :: ρ => congrArg Nat.succ (outs_length as ρ)
  | .own false _ :: as, z :: ρ => congrArg Nat.succ (outs_length as ρ)
  | .no :: as, z :: ρ => congrArg Nat.succ (outs_length as ρ)
  | .d _ :: as, z :: ρ => congrArg Nat.succ (outs_length as ρ)
  | .x _ :: as, z :: ρ => congrArg Nat.succ (outs_length as ρ)
  | .own true _ :: as, [] => rfl
  | .own false _ :: as, [] => rfl
  | .no :: as, [] => rfl
  | .x _ :: as, [] => rfl
  | .d _ :: as, [] => rfl
theorem outs_io : ∀ {as ρ : Rho} {i : Nat} {xs : List Pd} {z : Sl}, as[i]? = some (.own true xs) → ρ[i]? = some z → (outs as ρ)[i]? = some z
  | a :: as, y :: ρ, 0, xs, z, h, g => by
    cases h
    exact g
  | a :: as, y :: ρ, i + 1, xs, z, h, g => by
    have q := outs_io (as := as) (ρ := ρ) (i := i) h g
    cases a with
    | own b _ => cases b <;> exact q
    | no => exact q
    | x _ => exact q
    | d _ => exact q
  | [], _, _, _, _, h, _ => by simp at h
  | _ :: _, [], _, _, _, _, g => by simp at g
theorem outs_other : ∀ {as ρ : Rho} {i : Nat}, (∀ xs, as[i]? ≠ some (.own true xs)) → (outs as ρ)[i]? = as[i]?
  | [], _, _, _ => rfl
  | .own true _ :: as, [], i, _ => rfl
  | .own false _ :: as, [], i, _ => rfl
  | .no :: as, [], i, _ => rfl
  | .x _ :: as, [], i, _ => rfl
  | .d _ :: as, [], i, _ => rfl
  | a :: as, y :: ρ, 0, h => by
    cases a with
    | own b xs =>
      cases b with
      | true => exact (h xs rfl).elim
      | false => rfl
    | no => rfl
    | x _ => rfl
    | d _ => rfl
  | a :: as, y :: ρ, i + 1, h => by
    have q := outs_other (as := as) (ρ := ρ) (i := i) h
    cases a with
    | own b _ => cases b <;> exact q
    | no => exact q
    | x _ => exact q
    | d _ => exact q
/-- the body's ends as a def's -/
def endF (as : Rho) : R Fl → R RV
  | .ok (.rt x) ρ => .ok (.d x) (outs as ρ)
  | .ok (.rl xs) ρ => .ok (.l xs) (outs as ρ)
  | .ok .nx ρ => .ok (.d .none) (outs as ρ)
  | .ex e ρ => .ex e (outs as ρ)
  | _ => .bad
def gOf (n : Nat) (fb : Rho → R Fl) : Rho → R RV := fun as => endF as (fb (as ++ List.replicate (n - as.length) .no))
structure IoOk (O : Addr → Prop) (σ : L2.St) (as : Rho) : Prop where
  only : ∀ (i : Nat) b xs, as[i]? = some (.own b xs) → b = true
  cov : ∀ a, O a → ∃ (i : Nat) (xs : List Pd), as[i]? = some (.own true xs) ∧ σ[i]? = some (some (.ref a))
def PostF (Z : Zx) (O : Addr → Prop) (σ : L2.St) (Hf H : Hp) (Q : VK) (E : XK) : R RV → Prop
  | .bad => False
  | .ok (.d x) as' => ∀ v Hf' H', SR Z.K Hf' H' O σ as' → Gr O Hf H Hf' H' → RD Z.K Hf' v x → Q v H'
  | .ok (.l xs) as' => ∀ v Hf' H', SR Z.K Hf' H' O σ as' → Gr O Hf H Hf' H' → RL Z.K H Hf' H' v xs → Q v H'
  | .ex e as' => ∀ cls d Hf' H', SR Z.K Hf' H' O σ as' → Gr O Hf H Hf' H' → XR Z Hf' H' cls d e → E cls d H'
/-- the promise: with such slots as arguments the def does what g says -/
def spF (Z : Zx) (n : Nat) (g : Rho → R RV) : Sp := fun vs H Q E => vs.length = n ∧ ∃ Hf O as, SR Z.K Hf H O (vs.map some) as ∧ IoOk O (vs.map some) as ∧ PostF Z O (vs.map some) Hf H Q E (g as)
theorem SR.start {K : PySem.W.Frag} {Hf H : Hp} {O : Addr → Prop} {σ : L2.St} {as : Rho} (s : SR K Hf H O σ as) (n m : Nat) (e : n = m) : SR K Hf H O (σ ++ List.replicate n none) (as ++ List.replicate m .no) where
  ex := s.ex
  otr := s.otr
  len := by simp [s.len, e]
  slot := fun i x h => by
    by_cases hi : i < as.length
    · rw [List.getElem?_append_left hi] at h
      rw [List.getElem?_append_left (by rw [s.len]; exact hi)]
      exact s.slot i x h
    · rw [List.getElem?_append_right (by omega), List.getElem?_replicate] at h
      split at h <;> cases h
  own := fun i b x h => by
    by_cases hi : i < as.length
    · rw [List.getElem?_append_left hi] at h
      rw [List.getElem?_append_left (by rw [s.len]; exact hi)]
      exact s.own i b x h
    · rw [List.getElem?_append_right (by omega), List.getElem?_replicate] at h
      split at h <;> cases h
  dis := fun i j b c x y l h1 h2 h3 h4 => by
    by_cases hi : i < as.length
    · by_cases hj : j < as.length
      · rw [List.getElem?_append_left hi] at h1
        rw [List.getElem?_append_left hj] at h2
        rw [List.getElem?_append_left (by rw [s.len]; exact hi)] at h3
        rw [List.getElem?_append_left (by rw [s.len]; exact hj)] at h4
        exact s.dis i j b c x y l h1 h2 h3 h4
      · rw [List.getElem?_append_right (by omega), List.getElem?_replicate] at h2
        split at h2 <;> cases h2
    · rw [List.getElem?_append_right (by omega), List.getElem?_replicate] at h1
      split at h1 <;> cases h1
  exc := fun i e' h => by
    by_cases hi : i < as.length
    · rw [List.getElem?_append_left hi] at h
      rw [List.getElem?_append_left (by rw [s.len]; exact hi)]
      exact s.exc i e' h
    · rw [List.getElem?_append_right (by omega), List.getElem?_replicate] at h
      split at h <;> cases h
/-- the arguments' slots behind the body -/
theorem SR.back {K : PySem.W.Frag} {Hf H Hf' H' : Hp} {O O' : Addr → Prop} {σ σ' : L2.St} {as ρ' : Rho} {n : Nat} (s : SR K Hf H O σ as) (io : IoOk O σ as) (s' : SR K Hf' H' O' σ' ρ') (g : Gr O Hf H Hf' H')
    (k : Kq (as ++ List.replicate n .no) ρ' (σ ++ List.replicate n none) σ') : SR K Hf' H' O σ (outs as ρ') := by
  have at_ : ∀ {i : Nat} {xs : List Pd}, as[i]? = some (.own true xs) → ∃ ys, ρ'[i]? = some (.own true ys) ∧ σ'[i]? = σ[i]? := fun {i xs} h => by
    have hi := (List.getElem?_eq_some_iff.mp h).1
    obtain ⟨⟨ys, q⟩, e⟩ := k i xs (by rw [List.getElem?_append_left hi]; exact h)
    exact ⟨ys, q, by rw [e, List.getElem?_append_left (by rw [s.len]; exact hi)]⟩
  have own_ : ∀ {i : Nat} {b : Bool} {ys : List Pd}, (outs as ρ')[i]? = some (.own b ys) → ∃ xs, as[i]? = some (.own true xs) ∧ ρ'[i]? = some (.own b ys) := fun {i b ys} h => by
    by_cases hx : ∃ xs, as[i]? = some (.own true xs)
    · obtain ⟨xs, hx⟩ := hx
      obtain ⟨zs, q, _⟩ := at_ hx
      rw [outs_io hx q] at h
      cases h
      exact ⟨xs, hx, q⟩
    · rw [outs_other fun xs z => hx ⟨xs, z⟩] at h
      have := io.only i b ys h
      subst this
      exact (hx ⟨_, h⟩).elim
  refine ⟨s'.ex, fun a h => ?_, by rw [outs_length, s.len], fun i x h => ?_, fun i b ys h => ?_, fun i j b c x y l h1 h2 h3 h4 => ?_, fun i e' h => ?_⟩
  · obtain ⟨i, xs, h1, h2⟩ := io.cov a h
    obtain ⟨ys, q1, q2⟩ := at_ h1
    obtain ⟨l, vs, e1, e2, e3, e4⟩ := s'.own i true ys q1
    rw [q2, h2] at e1
    cases e1
    exact s'.otr _ e2
  · by_cases hx : ∃ xs, as[i]? = some (.own true xs)
    · obtain ⟨xs, hx⟩ := hx
      obtain ⟨zs, q, _⟩ := at_ hx
      rw [outs_io hx q] at h
      cases h
    · rw [outs_other fun xs z => hx ⟨xs, z⟩] at h
      obtain ⟨v, q1, q2⟩ := s.slot i x h
      exact ⟨v, q1, q2.mono g.ex⟩
  · obtain ⟨xs, h1, h2⟩ := own_ h
    obtain ⟨zs, q1, q2⟩ := at_ h1
    obtain ⟨l, vs, e1, e2, e3, e4⟩ := s'.own i b ys h2
    obtain ⟨l0, vs0, d1, d2, _⟩ := s.own i true xs h1
    rw [q2, d1] at e1
    cases e1
    exact ⟨l, vs, d1, d2, e3, e4⟩
  · obtain ⟨xs, a1, a2⟩ := own_ h1
    obtain ⟨ys, b1, b2⟩ := own_ h2
    exact s.dis i j true true xs ys l a1 b1 h3 h4
  · by_cases hx : ∃ xs, as[i]? = some (.own true xs)
    · obtain ⟨xs, hx⟩ := hx
      obtain ⟨zs, q, _⟩ := at_ hx
      rw [outs_io hx q] at h
      cases h
    · rw [outs_other fun xs z => hx ⟨xs, z⟩] at h
      obtain ⟨v, q1, q2⟩ := s.exc i e' h
      exact ⟨v, q1, q2.mono g.ex⟩
section
variable {P : Program} {w : World} {K : PySem.W.Frag} {C : Str → Addr} {mg : Str → Option Value} {base : Heap} {x qual : Str} {params : Arguments} {body : List Stmt} {scope : Scope} {f : Addr} {fd : FuncData}
theorem fn_ok {N ps : List Str} {k : Nat} {fb : Rho → R Fl} (F : FunD K x qual params body scope [] [] f fd) (S : FnScope N ps scope)
    (hb : ∀ (cdv : Value) (A : Around) (outer : List Env) (s : Shared) (H : Hp) (E : XK), Room k (A.deeper (PyProof.Rows.envOfC qual scope s.heap.objs.size f cdv)) →
      Takes (cxOf (L2.CX P w) P w K mg base N qual scope f cdv A outer s H E) (fun cls d _ H => E cls d H) →
      PassesOwn (model P w) (A.deeper (PyProof.Rows.envOfC qual scope s.heap.objs.size f cdv)) (PyProof.Rows.envOfC qual scope s.heap.objs.size f cdv) (cxOf (L2.CX P w) P w K mg base N qual scope f cdv A outer s H E).xe →
      ∃ t, PSs (cxOf (L2.CX P w) P w K mg base N qual scope f cdv A outer s H E) body t ∧ DS ⟨K, C⟩ (fun cls d _ H => E cls d H) t fb) :
    FnOk P w K mg base (L2.CX P w) (k + 1) f fd ps (spF ⟨K, C⟩ ps.length (gOf N.length fb)) := by
  refine F.ok S (fun vs H Q E h => h.1) (fun cdv A outer s H vs Q E hr h => ?_)
  obtain ⟨hl, Hf, O, as, s0, io, p⟩ := h
  obtain ⟨t, h1, h2⟩ := hb cdv A outer s H E hr (takes_of rfl rfl rfl rfl) (passes_of (X := cxOf (L2.CX P w) P w K mg base N qual scope f cdv A outer s H E) rfl)
  refine ⟨t, h1, ?_⟩
  have hal : as.length = vs.length := by rw [← s0.len, List.length_map]
  have st : SR K Hf H O (L2.start N vs) (as ++ List.replicate (N.length - as.length) .no) := s0.start _ _ (by rw [hal])
  refine h2 Hf H O (L2.start N vs) _ st _ ?_
  unfold gOf at p
  have bk : ∀ {Hf' H' O' σ' ρ'}, SR K Hf' H' O' σ' ρ' → Gr O Hf H Hf' H' → Kq (as ++ List.replicate (N.length - as.length) .no) ρ' (L2.start N vs) σ' → SR K Hf' H' O (vs.map some) (outs as ρ') := fun {Hf' H' O' σ' ρ'} s' g' k' => s0.back io s' g' (n := N.length - as.length) (by
    unfold L2.start at k'
    rw [← hal] at k'
    exact k')
  cases e : fb (as ++ List.replicate (N.length - as.length) .no) with
  | bad => rw [e] at p; exact p
  | ex y ρ' =>
    rw [e] at p
    exact fun cls d Hf' H' O' σ' s' g' o' k' xr => p cls d Hf' H' (bk s' g' k') g' xr
  | ok fl ρ' =>
    rw [e] at p
    intro Hf' H' O' σ' s' g' o' k'
    cases fl with
    | nx => exact p .non Hf' H' (bk s' g' k') g' .non
    | bk => exact p.elim
    | ct => exact p.elim
    | rt y => exact fun v rv => p v Hf' H' (bk s' g' k') g' rv
    | rl ys => exact fun l vs h0 h1 h2 h3 h4 => p _ Hf' H' (bk s' g' k') g' ⟨l, vs, rfl, h0, h1, h2, h4⟩
end
/-! ### calls -/
section
variable {Z : Zx} {W : WX}
theorem RDs.args {K : PySem.W.Frag} {Hf H : Hp} {vs : List V} {xs : List Pd} (r : RDs K Hf vs xs) (e : Ex Hf H) : SR K Hf H (fun _ => False) (vs.map some) (xs.map Sl.d) where
  ex := e
  otr := fun a h => h.elim
  len := by simp [r.length]
  slot := fun i x h => by
    rw [List.getElem?_map] at h
    cases q : xs[i]? with
    | none => rw [q] at h; cases h
    | some y =>
      rw [q] at h
      cases h
      obtain ⟨v, h1, h2⟩ := r.get q
      exact ⟨v, by rw [List.getElem?_map, h1]; rfl, h2⟩
  own := fun i b x h => by
    rw [List.getElem?_map] at h
    cases q : xs[i]? <;> rw [q] at h <;> cases h
  dis := fun i j b c x y l h1 => by
    rw [List.getElem?_map] at h1
    cases q : xs[i]? <;> rw [q] at h1 <;> cases h1
  exc := fun i e' h => by
    rw [List.getElem?_map] at h
    cases q : xs[i]? <;> rw [q] at h <;> cases h
theorem ioArgs {xs : List Pd} {σ : L2.St} : IoOk (fun _ => False) σ (xs.map Sl.d) where
  only := fun i b x h => by
    rw [List.getElem?_map] at h
    cases q : xs[i]? <;> rw [q] at h <;> cases h
  cov := fun a h => h.elim
theorem Gr.pg {Hf H Hf' H' : Hp} (g : Gr (fun _ => False) Hf H Hf' H') (e : Ex Hf' H') : Pg Hf H Hf' H' :=
  ⟨g.ex, fun a o h => g.fm a o h fun z => z, e, fun a o h => by rcases g.nw a o h with z | z | z; exact .inl z; exact .inr z; exact z.elim⟩
/-- the arguments as data -/
def argsD (n : Nat) (as : List AV) : Option (List Pd) := match datas as with
  | some xs => if xs.length = n then some xs else none
  | none => none
theorem argsD_ok {K : PySem.W.Frag} {Hf : Hp} {σ : L2.St} {n : Nat} {vs : List V} {as : List AV} {xs : List Pd} (h : RAs K Hf σ vs as) (e : argsD n as = some xs) : RDs K Hf vs xs ∧ vs.length = n := by
  unfold argsD at e
  cases q : datas as with
  | none => rw [q] at e; cases e
  | some ys =>
    rw [q] at e
    simp only at e
    split at e
    · rename_i hn
      cases e
      have r := datas_ok h q
      exact ⟨r, r.length.trans hn⟩
    · cases e
/-- f(e, ..), all arguments data; what comes is data -/
def kCall (g : Rho → R RV) (o : Option (List Pd)) (ρ1 : Rho) : R AV := match o with
  | some xs => match g (xs.map Sl.d) with
    | .ok (.d x) _ => .ok (.d x) ρ1
    | .ex e _ => .ex e ρ1
    | _ => .bad
  | none => .bad
def fCall (n : Nat) (g : Rho → R RV) (fa : Rho → R (List AV)) : Rho → R AV := fun ρ => (fa ρ).bind fun as ρ1 => kCall g (argsD n as) ρ1
theorem d_call {n : Nat} {g : Rho → R RV} {t : TA} {fa : Rho → R (List AV)} (ha : DA Z W t fa) : DE Z W (tCallS (spF Z n g) (WE W) t) (fCall n g fa) := by
  intro Hf H O σ ρ s Q p
  refine ha.bind s p fun as ρ1 vs Hf1 H1 s1 g1 k1 rs p1 => ?_
  unfold kCall at p1
  cases ed : argsD n as with
  | none => rw [ed] at p1; exact p1.elim
  | some xs =>
    rw [ed] at p1
    simp only at p1
    obtain ⟨r, hl⟩ := argsD_ok rs ed
    refine ⟨hl, Hf1, fun _ => False, xs.map Sl.d, r.args s1.ex, ioArgs, ?_⟩
    cases eg : g (xs.map Sl.d) with
    | bad => rw [eg] at p1; exact p1.elim
    | ex y as' =>
      rw [eg] at p1
      intro cls d Hf' H' s' g' xr
      have pg := g'.pg s'.ex
      exact p1 cls d Hf' H' (s1.grow pg) pg.gr Kp.refl xr
    | ok rv as' =>
      rw [eg] at p1
      cases rv with
      | l ys => exact p1.elim
      | d y =>
        intro v Hf' H' s' g' rd
        have pg := g'.pg s'.ex
        exact p1 Hf' H' (s1.grow pg) pg.gr Kp.refl v rd
/-- .. a new list -/
def kCallL (g : Rho → R RV) (o : Option (List Pd)) (ρ1 : Rho) : R (List Pd) := match o with
  | some xs => match g (xs.map Sl.d) with
    | .ok (.l x) _ => .ok x ρ1
    | .ex e _ => .ex e ρ1
    | _ => .bad
  | none => .bad
def fCallL (n : Nat) (g : Rho → R RV) (fa : Rho → R (List AV)) : Rho → R (List Pd) := fun ρ => (fa ρ).bind fun as ρ1 => kCallL g (argsD n as) ρ1
theorem l_call {n : Nat} {g : Rho → R RV} {t : TA} {fa : Rho → R (List AV)} (ha : DA Z W t fa) : DL Z W (tCallS (spF Z n g) (WE W) t) (fCallL n g fa) := by
  intro Hf H O σ ρ s Q p
  refine ha.bind s p fun as ρ1 vs Hf1 H1 s1 g1 k1 rs p1 => ?_
  unfold kCallL at p1
  cases ed : argsD n as with
  | none => rw [ed] at p1; exact p1.elim
  | some xs =>
    rw [ed] at p1
    simp only at p1
    obtain ⟨r, hl⟩ := argsD_ok rs ed
    refine ⟨hl, Hf1, fun _ => False, xs.map Sl.d, r.args s1.ex, ioArgs, ?_⟩
    cases eg : g (xs.map Sl.d) with
    | bad => rw [eg] at p1; exact p1.elim
    | ex y as' =>
      rw [eg] at p1
      intro cls d Hf' H' s' g' xr
      have pg := g'.pg s'.ex
      exact p1 cls d Hf' H' (s1.grow pg) pg.gr Kp.refl xr
    | ok rv as' =>
      rw [eg] at p1
      cases rv with
      | d y => exact p1.elim
      | l ys =>
        intro v Hf' H' s' g' rd
        have pg := g'.pg s'.ex
        obtain ⟨l, us, rfl, h0, h1, h2, h3⟩ := rd
        exact p1 Hf' H' (s1.grow pg) pg.gr Kp.refl _ ⟨l, us, rfl, g1.gone h0, h1, h2, h3⟩
/-- the slots of a call that changes the list of the slot i: that list, then data -/
theorem SR.argsP {K : PySem.W.Frag} {Hf H : Hp} {O : Addr → Prop} {σ : L2.St} {ρ : Rho} (s : SR K Hf H O σ ρ) {i : Nat} {b : Bool} {ps : List Pd} (e : ρ[i]? = some (.own b ps)) {l : Addr} (hl : σ[i]? = some (some (.ref l))) {vs : List V} {xs : List Pd} (r : RDs K Hf vs xs) :
    SR K Hf H (fun a => a = l) ((V.ref l :: vs).map some) (.own true ps :: xs.map Sl.d) := by
  obtain ⟨l', us, h1, h2, h3, h4⟩ := s.own i b ps e
  rw [hl] at h1
  cases h1
  have ra := r.args s.ex
  refine ⟨s.ex, fun a h => ?_, by simp [r.length], fun j x h => ?_, fun j c x h => ?_, fun j k c d x y m a1 a2 _ _ => ?_, fun j e' h => ?_⟩
  · subst h
    exact ⟨⟨_, h3⟩, (s.otr _ h2).2⟩
  · cases j with
    | zero => cases h
    | succ j => exact ra.slot j x h
  · cases j with
    | zero => cases h; exact ⟨l, us, rfl, rfl, h3, h4⟩
    | succ j => obtain ⟨_, _, _, z, _⟩ := ra.own j c x h; exact z.elim
  · cases j with
    | succ j => obtain ⟨_, _, _, z, _⟩ := ra.own j c x a1; exact z.elim
    | zero =>
      cases k with
      | zero => rfl
      | succ k => obtain ⟨_, _, _, z, _⟩ := ra.own k d y a2; exact z.elim
  · cases j with
    | zero => cases h
    | succ j => exact ra.exc j e' h
theorem ioArgsP {ps xs : List Pd} {l : Addr} {vs : List V} : IoOk (fun a => a = l) ((V.ref l :: vs).map some) (.own true ps :: xs.map Sl.d) where
  only := fun i b x h => by
    cases i with
    | zero => cases h; rfl
    | succ i =>
      have h : (xs.map Sl.d)[i]? = some (.own b x) := h
      rw [List.getElem?_map] at h
      cases q : xs[i]? <;> rw [q] at h <;> cases h
  cov := fun a h => ⟨0, ps, rfl, by rw [h]; rfl⟩
/-- the caller's state behind such a call -/
theorem SR.backP {K : PySem.W.Frag} {Hf H Hf' H' : Hp} {O : Addr → Prop} {σ : L2.St} {ρ : Rho} (s : SR K Hf H O σ ρ) {i : Nat} {b : Bool} {ps : List Pd} (e : ρ[i]? = some (.own b ps)) {l : Addr} (hl : σ[i]? = some (some (.ref l))) {vs : List V} {c : Bool} {ps' : List Pd} {as' : Rho}
    (s' : SR K Hf' H' (fun a => a = l) ((V.ref l :: vs).map some) (.own c ps' :: as')) (g : Gr (fun a => a = l) Hf H Hf' H') : SR K Hf' H' O σ (ρ.set i (.own b ps')) ∧ Gr O Hf H Hf' H' := by
  obtain ⟨l', us, h1, h2, h3, h4⟩ := s.own i b ps e
  rw [hl] at h1
  cases h1
  have hi := (List.getElem?_eq_some_iff.mp e).1
  obtain ⟨l1, us1, q1, q2, q3, q4⟩ := s'.own 0 c ps' rfl
  subst q2
  have fl := (s'.otr l1 rfl).2
  have other : ∀ a, a ≠ l1 → O a → Hf' a = none := fun a ha hO => by
    cases e1 : Hf' a with
    | none => rfl
    | some u =>
      obtain ⟨⟨o, t1⟩, t2⟩ := s.otr a hO
      rcases g.nw a u e1 with z | z | z
      · rw [t2] at z; cases z
      · rw [t1] at z; cases z
      · exact (ha z).elim
  refine ⟨⟨s'.ex, fun a h => ?_, by simp [s.len], fun j x h => ?_, fun j d x h => ?_, fun j k d d' x y m a1 a2 a3 a4 => ?_, fun j e' h => ?_⟩, ⟨g.ex, fun a o h n => g.fm a o h fun z => n (by rw [z]; exact h2), g.tr, fun a o h => ?_⟩⟩
  · obtain ⟨⟨o, t1⟩, t2⟩ := s.otr a h
    refine ⟨g.tr a o t1, ?_⟩
    by_cases z : a = l1
    · rw [z]; exact fl
    · exact other a z h
  · by_cases z : i = j
    · subst z
      rw [List.getElem?_set_self hi] at h
      cases h
    · rw [List.getElem?_set_ne z] at h
      obtain ⟨v, t1, t2⟩ := s.slot j x h
      exact ⟨v, t1, t2.mono g.ex⟩
  · by_cases z : i = j
    · subst z
      rw [List.getElem?_set_self hi] at h
      cases h
      exact ⟨l1, us1, hl, h2, q3, q4⟩
    · rw [List.getElem?_set_ne z] at h
      obtain ⟨k, ws, b1, b2, b3, b4⟩ := s.own j d x h
      have z2 : k ≠ l1 := fun z2 => z (s.dis i j b d ps x l1 e h hl (by rw [← z2]; exact b1))
      exact ⟨k, ws, b1, b2, g.fm _ _ b3 z2, b4.mono g.ex⟩
  · have back : ∀ {j : Nat} {d x}, (ρ.set i (.own b ps'))[j]? = some (.own d x) → ∃ d x, ρ[j]? = some (.own d x) := fun {j d x} q => by
      by_cases z : i = j
      · subst z; exact ⟨b, ps, e⟩
      · rw [List.getElem?_set_ne z] at q; exact ⟨d, x, q⟩
    obtain ⟨c1, x1, a1⟩ := back a1
    obtain ⟨c2, x2, a2⟩ := back a2
    exact s.dis j k c1 c2 x1 x2 m a1 a2 a3 a4
  · by_cases z : i = j
    · subst z
      rw [List.getElem?_set_self hi] at h
      cases h
    · rw [List.getElem?_set_ne z] at h
      obtain ⟨v, t1, t2⟩ := s.exc j e' h
      exact ⟨v, t1, t2.mono g.ex⟩
  · rcases g.nw a o h with z | z | z
    · exact .inl z
    · exact .inr (.inl z)
    · exact .inr (.inr (by rw [z]; exact h2))
/-- f(x, e, ..): the list of the slot i is changed, the other arguments are data -/
def kCallP (i : Nat) (g : Rho → R RV) (o : Option (List Pd)) (ρ1 : Rho) : R AV := match o, ρ1[i]? with
  | some xs, some (.own b ps) => match g (.own true ps :: xs.map Sl.d) with
    | .ok (.d x) (.own _ ps' :: _) => .ok (.d x) (ρ1.set i (.own b ps'))
    | .ex e (.own _ ps' :: _) => .ex e (ρ1.set i (.own b ps'))
    | _ => .bad
  | _, _ => .bad
def fCallP (n i : Nat) (g : Rho → R RV) (fa : Rho → R (List AV)) : Rho → R AV := fun ρ => match ρ[i]? with
  | some (.own _ _) => (fa ρ).bind fun as ρ1 => kCallP i g (argsD n as) ρ1
  | _ => .bad
theorem d_callP {n i : Nat} {g : Rho → R RV} {t : TA} {fa : Rho → R (List AV)} (ha : DA Z W t fa) : DE Z W (tCallS (spF Z (n + 1) g) (WE W) (tCons (tVar i) t)) (fCallP n i g fa) := by
  intro Hf H O σ ρ s Q p
  unfold fCallP at p
  cases e0 : ρ[i]? with
  | none => rw [e0] at p; exact p.elim
  | some z0 =>
    rw [e0] at p
    cases z0 with
    | no => exact p.elim
    | x _ => exact p.elim
    | d y => exact p.elim
    | own b0 ps0 =>
      simp only at p
      obtain ⟨l, vs0, h1, h2, h3, h4⟩ := s.own i b0 ps0 e0
      refine ⟨.ref l, h1, ?_⟩
      refine ha.bind s p fun as ρ1 vs Hf1 H1 s1 g1 k1 rs p1 => ?_
      unfold kCallP at p1
      cases ed : argsD n as with
      | none => rw [ed] at p1; exact p1.elim
      | some xs =>
        cases e1 : ρ1[i]? with
        | none => rw [ed, e1] at p1; exact p1.elim
        | some z1 =>
          rw [ed, e1] at p1
          cases z1 with
          | no => exact p1.elim
          | x _ => exact p1.elim
          | d y => exact p1.elim
          | own b ps =>
            simp only at p1
            obtain ⟨r, hl⟩ := argsD_ok rs ed
            refine ⟨congrArg Nat.succ hl, Hf1, fun a => a = l, .own true ps :: xs.map Sl.d, s1.argsP e1 h1 r, ioArgsP, ?_⟩
            cases eg : g (.own true ps :: xs.map Sl.d) with
            | bad => rw [eg] at p1; exact p1.elim
            | ex y as' =>
              rw [eg] at p1
              match as', p1 with
              | [], p1 => exact p1.elim
              | .no :: _, p1 => exact p1.elim
              | .d _ :: _, p1 => exact p1.elim
              | .own c ps' :: as'', p1 =>
                intro cls d Hf' H' s' g' xr
                obtain ⟨sb, gb⟩ := s1.backP e1 h1 s' g'
                exact p1 cls d Hf' H' sb gb (kp_chg e1) xr
            | ok rv as' =>
              rw [eg] at p1
              cases rv with
              | l ys => exact p1.elim
              | d y =>
                match as', p1 with
                | [], p1 => exact p1.elim
                | .no :: _, p1 => exact p1.elim
                | .d _ :: _, p1 => exact p1.elim
                | .own c ps' :: as'', p1 =>
                  intro v Hf' H' s' g' rd
                  obtain ⟨sb, gb⟩ := s1.backP e1 h1 s' g'
                  exact p1 Hf' H' sb gb (kp_chg e1) v rd
/-- .. a new list -/
def kCallPL (i : Nat) (g : Rho → R RV) (o : Option (List Pd)) (ρ1 : Rho) : R (List Pd) := match o, ρ1[i]? with
  | some xs, some (.own b ps) => match g (.own true ps :: xs.map Sl.d) with
    | .ok (.l x) (.own _ ps' :: _) => .ok x (ρ1.set i (.own b ps'))
    | .ex e (.own _ ps' :: _) => .ex e (ρ1.set i (.own b ps'))
    | _ => .bad
  | _, _ => .bad
def fCallPL (n i : Nat) (g : Rho → R RV) (fa : Rho → R (List AV)) : Rho → R (List Pd) := fun ρ => match ρ[i]? with
  | some (.own _ _) => (fa ρ).bind fun as ρ1 => kCallPL i g (argsD n as) ρ1
  | _ => .bad
theorem l_callP {n i : Nat} {g : Rho → R RV} {t : TA} {fa : Rho → R (List AV)} (ha : DA Z W t fa) : DL Z W (tCallS (spF Z (n + 1) g) (WE W) (tCons (tVar i) t)) (fCallPL n i g fa) := by
  intro Hf H O σ ρ s Q p
  unfold fCallPL at p
  cases e0 : ρ[i]? with
  | none => rw [e0] at p; exact p.elim
  | some z0 =>
    rw [e0] at p
    cases z0 with
    | no => exact p.elim
    | x _ => exact p.elim
    | d y => exact p.elim
    | own b0 ps0 =>
      simp only at p
      obtain ⟨l, vs0, h1, h2, h3, h4⟩ := s.own i b0 ps0 e0
      refine ⟨.ref l, h1, ?_⟩
      refine ha.bind s p fun as ρ1 vs Hf1 H1 s1 g1 k1 rs p1 => ?_
      unfold kCallPL at p1
      cases ed : argsD n as with
      | none => rw [ed] at p1; exact p1.elim
      | some xs =>
        cases e1 : ρ1[i]? with
        | none => rw [ed, e1] at p1; exact p1.elim
        | some z1 =>
          rw [ed, e1] at p1
          cases z1 with
          | no => exact p1.elim
          | x _ => exact p1.elim
          | d y => exact p1.elim
          | own b ps =>
            simp only at p1
            obtain ⟨r, hl⟩ := argsD_ok rs ed
            refine ⟨congrArg Nat.succ hl, Hf1, fun a => a = l, .own true ps :: xs.map Sl.d, s1.argsP e1 h1 r, ioArgsP, ?_⟩
            cases eg : g (.own true ps :: xs.map Sl.d) with
            | bad => rw [eg] at p1; exact p1.elim
            | ex y as' =>
              rw [eg] at p1
              match as', p1 with
              | [], p1 => exact p1.elim
              | .no :: _, p1 => exact p1.elim
              | .d _ :: _, p1 => exact p1.elim
              | .own c ps' :: as'', p1 =>
                intro cls d Hf' H' s' g' xr
                obtain ⟨sb, gb⟩ := s1.backP e1 h1 s' g'
                exact p1 cls d Hf' H' sb gb (kp_chg e1) xr
            | ok rv as' =>
              rw [eg] at p1
              cases rv with
              | d y => exact p1.elim
              | l ys =>
                match as', p1 with
                | [], p1 => exact p1.elim
                | .no :: _, p1 => exact p1.elim
                | .d _ :: _, p1 => exact p1.elim
                | .own c ps' :: as'', p1 =>
                  intro v Hf' H' s' g' rd
                  obtain ⟨sb, gb⟩ := s1.backP e1 h1 s' g'
                  obtain ⟨m, us, rfl, m0, m1, m2, m3⟩ := rd
                  exact p1 Hf' H' sb gb (kp_chg e1) _ ⟨m, us, rfl, g1.gone m0, m1, m2, m3⟩
end
end Dt
namespace Dt
open PySem PySem.Spec L2 Evl
open PySem.AutoSeq1 (wpAny_loadPart')
/-! ### a dict is no text -/
theorem str_eq_dict (b : Str) (u : Tok) (l : Addr) (c : Value) (es : Array DictEntry) (ep : Nat) (dd : Option Addr) (sl : Array (Option Value)) :
    Meets (Builtin.«str.__eq__» ⟨[.str b u, .ref l], []⟩) (fun _ R s => s.heap.get? l = some { cls := c, dict := dd, data := .dict es ep, slots := sl } ∧ R (.ok (.ret .notImplemented)) s) :=
  .of_wp fun prog w A R s h => by obtain ⟨hp, g, d, tk, os⟩ := s; obtain ⟨hl, h⟩ := h; wp_walk using wpAny_loadPart' hl, wpAny_load hl; exact ⟨_, rfl, h⟩
def rEqDS : R2 := fun x y H Q => ∃ a kvs z, x = .ref a ∧ y = .str z ∧ H a = some (.dK kvs) ∧ Q (.bl false) H
theorem op_eqDS {X : Cx} (hu : X.A.units < cLine) : OpR X (compareOp .Eq) rEqDS := by
  intro pins s σ H x y v u Q I rx ry h
  obtain ⟨a, kvs, z, rfl, rfl, ea, q⟩ := h
  obtain rfl : v = Value.ref a := rx
  obtain ⟨t, rfl⟩ : ∃ t, u = Value.str z t := ry
  obtain ⟨_, ya, va, ra, da⟩ := (show ObjOk X.prog X.w H s.heap a (.dK kvs) from I.hok a _ ea)
  obtain ⟨⟨cls, dd, data, sl⟩, es, ep, ho, hx, hd, _⟩ := id da
  have hd' : data = .dict es ep := hd
  subst hd'
  refine SeqAt.rc_eq_decline_or (k := false) da.typeIs (typeIs_str s z t) (by decide) F.sub_str_dict F.slot_dict_eq F.slot_str_eq_refl
    (fun _ hq => wpAny_call_entry PySem.F.slot_dict_eq da.typeIs PySem.F.entry_dict_eq ?_ (PySem.F.args_dict_eq_2 _ _))
    (fun _ hq => call_meets F.slot_str_eq_refl (typeIs_str s z t) F.entry_str_eq (F.args_str_eq_2 _ _) (str_eq_dict z t a cls es ep dd sl) ⟨ho, hq⟩)
    (fun _ hq => wpAny_of_eq (rfl : isSame (.ref a) (.str z t) = pure false) hq) (.inr hu) (fin_bl I q rfl)
  show wpAny _ _ (Builtin.Dict.dictSlotArgs "__eq__" ⟨[.ref a, .str z t], []⟩ >>= _) _ _ s
  refine wpAny_bind ?_
  unfold Builtin.Dict.dictSlotArgs
  refine wpAny_bind (wpAny_notOrdered_dict da.typeIs ?_)
  show wpAny _ _ (pure (Value.ref a, Value.str z t)) _ _ s
  refine wpAny_pure ?_
  refine wpAny_bind (wpAny_isInstance (T := "str") (typeIs_str s z t) PySem.F.sub_str_dict ?_)
  simp only [Bool.not_false, if_true]
  refine wpAny_bind (wpAny_rule ?_)
  exact wpAny_pure ⟨_, rfl, hq⟩
end Dt
namespace Dt
open PySem PySem.Spec L2 Evl
/-! ### data that == may look at -/
def sh : Nat → Pd → Bool
  | _, .none => true
  | _, .bool _ => true
  | _, .int _ => true
  | _, .str x => PyData.strOk x
  | n + 1, .list xs => xs.all (sh n)
  | n + 1, .tuple xs => xs.all (sh n)
  | _, _ => false
theorem canLayAll_of {xs : List Pd} (h : ∀ x ∈ xs, PyData.canLay0 x = true) : PyData.canLayAll0 xs = true := by
  induction xs with
  | nil => rfl
  | cons x xs ih =>
    simp only [PyData.canLayAll0, Bool.and_eq_true]
    exact ⟨h x List.mem_cons_self, ih fun y hy => h y (List.mem_cons_of_mem _ hy)⟩
theorem depthAll_of {xs : List Pd} {n : Nat} (h : ∀ x ∈ xs, PyData.depth x ≤ n) : PyData.depthAll xs ≤ n := by
  induction xs with
  | nil => exact Nat.zero_le _
  | cons x xs ih =>
    simp only [PyData.depthAll]
    exact Nat.max_le.mpr ⟨h x List.mem_cons_self, ih fun y hy => h y (List.mem_cons_of_mem _ hy)⟩
theorem sh_ok : ∀ (n : Nat) (d : Pd), sh n d = true → PyData.canLay0 d = true ∧ PyData.depth d ≤ n
  | n, .none, _ => ⟨rfl, Nat.zero_le _⟩
  | n, .bool _, _ => ⟨rfl, Nat.zero_le _⟩
  | n, .int _, _ => ⟨rfl, Nat.zero_le _⟩
  | n, .str x, h => ⟨by cases n <;> exact h, Nat.zero_le _⟩
  | n + 1, .list xs, h => by
    have h : ∀ x ∈ xs, sh n x = true := List.all_eq_true.mp h
    refine ⟨canLayAll_of fun x hx => (sh_ok n x (h x hx)).1, ?_⟩
    have := depthAll_of fun x hx => (sh_ok n x (h x hx)).2
    show PyData.depthAll xs + 1 ≤ n + 1
    omega
  | n + 1, .tuple xs, h => by
    have h : ∀ x ∈ xs, sh n x = true := List.all_eq_true.mp h
    refine ⟨canLayAll_of fun x hx => (sh_ok n x (h x hx)).1, ?_⟩
    have := depthAll_of fun x hx => (sh_ok n x (h x hx)).2
    show PyData.depthAll xs + 1 ≤ n + 1
    omega
  | 0, .list _, h => by cases h
  | 0, .tuple _, h => by cases h
  | n, .dict _, h => by cases n <;> cases h
theorem sh_shaped {d : Pd} (h : sh 60 d = true) : SeqAt.shaped d = true := by
  obtain ⟨h1, h2⟩ := sh_ok 60 d h
  unfold SeqAt.shaped
  rw [h1, decide_eq_true (show d.depth ≤ 64 by omega)]
  rfl
mutual
theorem RD.dp {K : PySem.W.Frag} {H : Hp} : ∀ {v : V} {d : Pd}, RD K H v d → PyData.canLay0 d = true → Dp K H v d
  | _, _, .non, _ => .non
  | _, _, .bl b, _ => .bl b
  | _, _, .int i, _ => .int i
  | _, _, .str x, _ => .str x
  | _, _, .lst h hs, c => .lst h (RDs.dp hs c)
  | _, _, .tup h hs, c => .tup h (RDs.dp hs c)
  | _, _, .dct _ _, c => by cases c
theorem RDs.dp {K : PySem.W.Frag} {H : Hp} : ∀ {v : List V} {d : List Pd}, RDs K H v d → PyData.canLayAll0 d = true → DpAll K H v d
  | _, _, .nil, _ => .nil
  | _, _, .cons h hs, c => by
    simp only [PyData.canLayAll0, Bool.and_eq_true] at c
    exact .cons (RD.dp h c.1) (RDs.dp hs c.2)
end
theorem sh_dp {K : PySem.W.Frag} {Hf H : Hp} {v : V} {d : Pd} (e : Ex Hf H) (h : RX K Hf H v d) (c : sh 60 d = true) : Dp K H v d := (h.full e).dp (sh_ok 60 d c).1
section
variable {K : PySem.W.Frag}
/-! ### + -/
def addD : Pd → Pd → Option Pd
  | .int i, .int j => some (.int (i + j))
  | .str a, .str b => if a.length + b.length ≤ sizeLine then some (.str (a ++ b)) else none
  | .tuple a, .tuple b => if a.length + b.length ≤ sizeLine then some (.tuple (a ++ b)) else none
  | .list a, .list b => if a.length + b.length ≤ sizeLine then some (.list (a ++ b)) else none
  | _, _ => none
/-- two lists to be read -/
def rCatS (K : PySem.W.Frag) : R2 := fun x y H Q => ∃ l b xs zs, x = .ref l ∧ y = .ref b ∧ SqL K H l xs ∧ SqL K H b zs ∧ xs.length + zs.length ≤ sizeLine ∧ ∀ p, H p = none → Q (.ref p) (upd H p (.lst (xs ++ zs)))
theorem op_catS {X : Cx} : OpR X (binaryOp .Add) (rCatS X.K) := by
  intro pins s σ H x y v u Q I rx ry h
  obtain ⟨l, b, xs, zs, rfl, rfl, hl, hb, hz, q⟩ := h
  cases rx
  cases ry
  obtain ⟨its, r, ⟨o1, n, e, c1, _, d1⟩, _⟩ := I.list hl
  obtain ⟨its2, r2, ⟨o2, n2, e2, c2, _, d2⟩, _⟩ := I.list hb
  have l1 := r.length
  have l2 := r2.length
  obtain ⟨ca, da, ta, sa⟩ := o1
  obtain ⟨cb, db, tb, sb⟩ := o2
  simp only at c1 d1 c2 d2
  subst c1 d1 c2 d2
  refine concat_meets ⟨_, e, rfl⟩ ⟨_, e2, rfl⟩ noFill_list_add seq_list_add PySem.F.slot_list_add PySem.F.entry_list_add (PySem.F.args_list_add_2 _ _) (PyProof.Rows.list_addW l b its.toArray its2.toArray n n2 da db sa sb (by simp only [List.size_toArray]; omega)) ⟨e, e2, ?_⟩
  rw [show its.toArray ++ its2.toArray = (its ++ its2).toArray by simp]
  exact ⟨.ref _, _, I.lnew (t' := s.toks) (r.append r2) (by simp only [List.length_append]; omega), rfl, q _ I.fresh⟩
abbrev rAddA (K : PySem.W.Frag) : R2 := fun x y H Q => rI0 (fun i j => .int (i + j)) x y H Q ∨ (∃ i j, x = .str i ∧ y = .str j ∧ i.length + j.length ≤ sizeLine ∧ Q (.str (i ++ j)) H) ∨ rCatA K x y H Q ∨ rCatS K x y H Q
theorem opAdd {X : Cx} : OpR X (binaryOp .Add) (rAddA X.K) := op_add.or (op_add_str.or (op_catA.or op_catS))
theorem ro_add : ROp K (rAddA K) addD := by
  intro Hf H x y dx dy z e hx hy h Q q
  unfold addD at h
  split at h
  · cases h
    exact .inl ⟨_, _, hx.int, hy.int, q _ Hf H (Pg.refl e) (.int _)⟩
  · split at h
    · cases h
      exact .inr (.inl ⟨_, _, hx.str, hy.str, by assumption, q _ Hf H (Pg.refl e) (.str _)⟩)
    · cases h
  · rename_i a b
    split at h
    · rename_i hz
      cases h
      obtain ⟨l, vs, rfl, t1, t2, r1⟩ := hx.tuple e
      obtain ⟨m, us, rfl, w1, w2, r2⟩ := hy.tuple e
      refine .inr (.inr (.inl ⟨l, m, vs, us, rfl, rfl, t2, w2, by rw [r1.length, r2.length]; exact hz, fun z => ?_, fun z1 z2 => ?_, fun z1 z2 p np => ?_⟩))
      · subst z
        cases r1
        exact q _ Hf H (Pg.refl e) (.tup w1 r2)
      · subst z2
        cases r2
        exact q _ Hf H (Pg.refl e) (by rw [List.append_nil]; exact .tup t1 r1)
      · have g := Pg.new (o := .tup (vs ++ us)) e np
        exact q _ _ _ g (.tup (st_of upd_same) ((r1.append r2).mono g.ef))
    · cases h
  · rename_i a b
    split at h
    · rename_i hz
      cases h
      obtain ⟨l, vs, rfl, t2, r1⟩ := hx.list e
      obtain ⟨m, us, rfl, w2, r2⟩ := hy.list e
      refine .inr (.inr (.inr ⟨l, m, vs, us, rfl, rfl, t2, w2, by rw [r1.length, r2.length]; exact hz, fun p np => ?_⟩))
      have g := Pg.new (o := .lst (vs ++ us)) e np
      exact q _ _ _ g (.lst (sq_of upd_same) ((r1.append r2).mono g.ef))
    · cases h
  · cases h
/-! ### - * // % ** and comparisons of intsD -/
def intD (c : Int → Int → Bool) (f : Int → Int → Pd) : Pd → Pd → Option Pd
  | .int i, .int j => if c i j = true then some (f i j) else none
  | _, _ => none
theorem ro_int {C : Int → Int → Prop} {c : Int → Int → Bool} {g : Int → Int → V} {f : Int → Int → Pd} (hc : ∀ i j, c i j = true → C i j) (hf : ∀ K H i j, RD K H (g i j) (f i j)) : ROp K (rI C g) (intD c f) := by
  intro Hf H x y dx dy z e hx hy h Q q
  unfold intD at h
  split at h
  · split at h
    · rename_i hcc
      cases h
      exact ⟨_, _, hx.int, hy.int, hc _ _ hcc, q _ Hf H (Pg.refl e) (hf _ _ _ _)⟩
    · cases h
  · cases h
theorem ro_int0 {g : Int → Int → V} {f : Int → Int → Pd} (hf : ∀ K H i j, RD K H (g i j) (f i j)) : ROp K (rI0 g) (intD (fun _ _ => true) f) := by
  intro Hf H x y dx dy z e hx hy h Q q
  unfold intD at h
  split at h
  · split at h
    · rename_i hcc
      cases h
      exact ⟨_, _, hx.int, hy.int, q _ Hf H (Pg.refl e) (hf _ _ _ _)⟩
    · cases h
  · cases h
abbrev subD := intD (fun _ _ => true) fun i j => .int (i - j)
theorem ro_sub : ROp K (rI0 fun i j => .int (i - j)) subD := ro_int0 fun _ _ _ _ => .int _
abbrev bits := Builtin.Int.intBits
def mulOk (i j : Int) : Bool := decide (bits i ≤ 64) || decide (bits j ≤ 64) || decide (bits i + bits j ≤ 134217728)
theorem mulOk_ok {i j : Int} (h : mulOk i j = true) : IntMulOk i j := by
  unfold mulOk at h
  simp only [Bool.or_eq_true, decide_eq_true_eq] at h
  rcases h with (h | h) | h
  · exact .of_left h
  · exact .of_right h
  · exact CMulX.ok (show (bits i : Int) + (bits j : Int) ≤ 134217728 by omega)
theorem op_mulG {X : Cx} : OpR X (binaryOp .Mult) (rI IntMulOk fun i j => .int (i * j)) := opI fun _ _ _ _ _ _ _ hc q => PyProof.Rows.mul_int q hc
def mulD := intD mulOk fun i j => .int (i * j)
theorem ro_mul : ROp K (rI IntMulOk fun i j => .int (i * j)) mulD := ro_int (fun _ _ => mulOk_ok) fun _ _ _ _ => .int _
def modD := intD (fun _ j => decide (0 < j)) fun i j => .int (i % j)
theorem ro_mod : ROp K (rI (fun _ j => 0 < j) fun i j => .int (i % j)) modD := ro_int (fun _ _ h => of_decide_eq_true h) fun _ _ _ _ => .int _
def fdivD := intD (fun _ j => decide (0 < j ∧ j.natAbs.log2 < 9000)) fun i j => .int (i / j)
theorem ro_fdiv : ROp K (rI CDivW fun i j => .int (i / j)) fdivD := ro_int (fun i j h => (of_decide_eq_true h : 0 < j ∧ j.natAbs.log2 < 9000)) fun _ _ _ _ => .int _
def powD := intD (fun i j => decide (0 ≤ j ∧ j ≤ 1000000 ∧ i.natAbs < 2 ^ 64)) fun i j => .int (i ^ j.toNat)
theorem ro_pow : ROp K (rI CPow fun i j => .int (i ^ j.toNat)) powD := ro_int (fun i j h => (of_decide_eq_true h : 0 ≤ j ∧ j ≤ 1000000 ∧ i.natAbs < 2 ^ 64)) fun _ _ _ _ => .int _
def shlD := intD (fun i j => decide (0 ≤ j ∧ j ≤ 1000000 ∧ i.natAbs < 2 ^ 64)) fun i j => .int (i * 2 ^ j.toNat)
theorem ro_shl : ROp K (rI CPow fun i j => .int (i * 2 ^ j.toNat)) shlD := ro_int (fun i j h => (of_decide_eq_true h : 0 ≤ j ∧ j ≤ 1000000 ∧ i.natAbs < 2 ^ 64)) fun _ _ _ _ => .int _
def leD := intD (fun _ _ => true) fun i j => .bool (decide (i ≤ j))
theorem ro_le : ROp K (rI0 fun i j => .bl (decide (i ≤ j))) leD := ro_int0 fun _ _ _ _ => .bl _
def gtD := intD (fun _ _ => true) fun i j => .bool (decide (j < i))
theorem ro_gt : ROp K (rI0 fun i j => .bl (decide (j < i))) gtD := ro_int0 fun _ _ _ _ => .bl _
def geD := intD (fun _ _ => true) fun i j => .bool (decide (j ≤ i))
theorem ro_ge : ROp K (rI0 fun i j => .bl (decide (j ≤ i))) geD := ro_int0 fun _ _ _ _ => .bl _
/-- < of intsD, of texts -/
def ltD : Pd → Pd → Option Pd
  | .int i, .int j => some (.bool (decide (i < j)))
  | .str a, .str b => some (.bool (decide (a.cps.toList < b.cps.toList)))
  | _, _ => none
abbrev rLtA : R2 := fun x y H Q => rI0 (fun i j => .bl (decide (i < j))) x y H Q ∨ ∃ i j, x = .str i ∧ y = .str j ∧ Q (.bl (decide (i.cps.toList < j.cps.toList))) H
theorem opLt {X : Cx} : OpR X (compareOp .Lt) rLtA := op_lt.or op_lt_str
theorem ro_lt : ROp K rLtA ltD := by
  intro Hf H x y dx dy z e hx hy h Q q
  unfold ltD at h
  split at h
  · cases h
    exact .inl ⟨_, _, hx.int, hy.int, q _ Hf H (Pg.refl e) (.bl _)⟩
  · cases h
    exact .inr ⟨_, _, hx.str, hy.str, q _ Hf H (Pg.refl e) (.bl _)⟩
  · cases h
/-! ### == and != -/
def eqB : Pd → Pd → Option Bool
  | .int i, .int j => some (decide (i = j))
  | .str i, .str j => some (decide (i = j))
  | .bool i, .bool j => some (decide (i = j))
  | .none, .none => some true
  | .str _, .int _ => some false
  | .int _, .str _ => some false
  | .none, .str _ => some false
  | .str _, .none => some false
  | .none, .int _ => some false
  | .int _, .none => some false
  | d, e => if sh 60 d = true ∧ sh 60 e = true then some (PyData.eqv d e) else none
def eqD : Pd → Pd → Option Pd
  | .dict _, .str _ => some (.bool false)
  | d, e => (eqB d e).map .bool
def neD (d e : Pd) : Option Pd := (eqB d e).map fun b => .bool (!b)
abbrev rEqA (K : PySem.W.Frag) : R2 := fun x y H Q => rEq x y H Q ∨ rEqD K x y H Q ∨ rEqDS x y H Q
abbrev rNeA (K : PySem.W.Frag) : R2 := fun x y H Q => rNe x y H Q ∨ rNeD K x y H Q
theorem opEq {X : Cx} (hu : X.A.units + 64 < cLine) : OpR X (compareOp .Eq) (rEqA X.K) := op_eq.or ((op_eqD hu).or (op_eqDS (Nat.lt_of_le_of_lt (Nat.le_add_right ..) hu)))
theorem opNe {X : Cx} (hu : X.A.units + 64 < cLine) : OpR X (compareOp .NotEq) (rNeA X.K) := op_ne.or (op_neD hu)
theorem eqB_ok {Hf H : Hp} {x y : V} {dx dy : Pd} {b : Bool} (e : Ex Hf H) (hx : RX K Hf H x dx) (hy : RX K Hf H y dy) (h : eqB dx dy = some b) :
    (scal x y = true ∧ decide (x = y) = b) ∨ (Dp K H x dx ∧ Dp K H y dy ∧ SeqAt.shaped dx = true ∧ SeqAt.shaped dy = true ∧ PyData.eqv dx dy = b) := by
  unfold eqB at h
  split at h
  · cases h; obtain rfl := hx.int; obtain rfl := hy.int; exact .inl ⟨rfl, by simp⟩
  · cases h; obtain rfl := hx.str; obtain rfl := hy.str; exact .inl ⟨rfl, by simp⟩
  · cases h; obtain rfl := hx.bool; obtain rfl := hy.bool; exact .inl ⟨rfl, by simp⟩
  · cases h; obtain rfl := hx.non; obtain rfl := hy.non; exact .inl ⟨rfl, by simp⟩
  · cases h; obtain rfl := hx.str; obtain rfl := hy.int; exact .inl ⟨rfl, by simp⟩
  · cases h; obtain rfl := hx.int; obtain rfl := hy.str; exact .inl ⟨rfl, by simp⟩
  · cases h; obtain rfl := hx.non; obtain rfl := hy.str; exact .inl ⟨rfl, by simp⟩
  · cases h; obtain rfl := hx.str; obtain rfl := hy.non; exact .inl ⟨rfl, by simp⟩
  · cases h; obtain rfl := hx.non; obtain rfl := hy.int; exact .inl ⟨rfl, by simp⟩
  · cases h; obtain rfl := hx.int; obtain rfl := hy.non; exact .inl ⟨rfl, by simp⟩
  · split at h
    · rename_i hs
      cases h
      exact .inr ⟨sh_dp e hx hs.1, sh_dp e hy hs.2, sh_shaped hs.1, sh_shaped hs.2, rfl⟩
    · cases h
theorem ro_eq : ROp K (rEqA K) eqD := by
  intro Hf H x y dx dy z e hx hy h Q q
  unfold eqD at h
  split at h
  · cases h
    obtain rfl := hy.str
    rcases hx with hx | ⟨_, _, _, _, q', _⟩
    · cases hx with
      | dct hh _ => exact .inr (.inr ⟨_, _, _, rfl, rfl, e _ _ hh, q _ Hf H (Pg.refl e) (.bl _)⟩)
    · cases q'
  · cases eb : eqB dx dy with
    | none => rw [eb] at h; cases h
    | some b =>
      rw [eb] at h
      cases h
      have k := q (.bl b) Hf H (Pg.refl e) (.bl b)
      rcases eqB_ok e hx hy eb with ⟨h1, h2⟩ | ⟨h1, h2, h3, h4, h5⟩
      · exact .inl ⟨h1, by rw [h2]; exact k⟩
      · exact .inr (.inl ⟨_, _, h1, h2, h3, h4, by rw [h5]; exact k⟩)
theorem ro_ne : ROp K (rNeA K) neD := by
  intro Hf H x y dx dy z e hx hy h Q q
  unfold neD at h
  cases eb : eqB dx dy with
  | none => rw [eb] at h; cases h
  | some b =>
    rw [eb] at h
    cases h
    have k := q (.bl (!b)) Hf H (Pg.refl e) (.bl (!b))
    rcases eqB_ok e hx hy eb with ⟨h1, h2⟩ | ⟨h1, h2, h3, h4, h5⟩
    · exact .inl ⟨h1, by rw [h2]; exact k⟩
    · exact .inr ⟨_, _, h1, h2, h3, h4, by rw [h5]; exact k⟩
/-! ### in -/
/-- a text in a text -/
def inStr (a z : Str) : Bool := match a.cps.toList with
  | [c] => decide (c ∈ z.cps.toList)
  | _ => !(Builtin.Str.occurrences z a 0 z.length 1).isEmpty
def flatD : Pd → Bool
  | .none => true
  | .bool _ => true
  | .int _ => true
  | .str _ => true
  | _ => false
theorem RD.flat {H H' : Hp} {v : V} {d : Pd} (h : RD K H v d) (f : flatD d = true) : RD K H' v d := by
  cases h with
  | non => exact .non
  | bl b => exact .bl b
  | int i => exact .int i
  | str x => exact .str x
  | lst _ _ => cases f
  | tup _ _ => cases f
  | dct _ _ => cases f
theorem RX.flat {Hf H : Hp} {v : V} {d : Pd} (h : RX K Hf H v d) (f : flatD d = true) : RD K Hf v d := by
  rcases h with h | ⟨_, _, _, _, rfl, _⟩
  · exact h
  · cases f
theorem RD.flatV {H : Hp} {v : V} {d : Pd} (h : RD K H v d) (f : flatD d = true) : flatV v = true := by
  cases h with
  | non => rfl
  | bl b => rfl
  | int i => rfl
  | str x => rfl
  | lst _ _ => cases f
  | tup _ _ => cases f
  | dct _ _ => cases f
theorem RD.eqV {H H' : Hp} {v u : V} {d e : Pd} (h : RD K H v d) (g : RD K H' u e) (f : flatD d = true) (f' : flatD e = true) : L2.eqV v u = PyData.eqv d e := by
  cases h with
  | lst _ _ => cases f
  | tup _ _ => cases f
  | dct _ _ => cases f
  | non => cases g with
    | lst _ _ => cases f'
    | tup _ _ => cases f'
    | dct _ _ => cases f'
    | _ => simp [L2.eqV, PyData.eqv]
  | bl b => cases g with
    | lst _ _ => cases f'
    | tup _ _ => cases f'
    | dct _ _ => cases f'
    | _ => simp [L2.eqV, PyData.eqv]
  | int i => cases g with
    | lst _ _ => cases f'
    | tup _ _ => cases f'
    | dct _ _ => cases f'
    | _ => simp [L2.eqV, PyData.eqv]
  | str z => cases g with
    | lst _ _ => cases f'
    | tup _ _ => cases f'
    | dct _ _ => cases f'
    | _ => simp [L2.eqV, PyData.eqv]
theorem RDs.all_flat {H : Hp} : ∀ {vs : List V} {ds : List Pd}, RDs K H vs ds → ds.all flatD = true → vs.all flatV = true
  | _, _, .nil, _ => rfl
  | _, _, .cons h hs, f => by
    simp only [List.all_cons, Bool.and_eq_true] at f ⊢
    exact ⟨h.flatV f.1, RDs.all_flat hs f.2⟩
theorem RDs.inV {H H' : Hp} {v : V} {d : Pd} (h : RD K H' v d) (fd : flatD d = true) : ∀ {vs : List V} {ds : List Pd}, RDs K H vs ds → ds.all flatD = true → L2.inV v vs = ds.any fun y => PyData.eqv y d
  | _, _, .nil, _ => rfl
  | _, _, .cons g gs, f => by
    simp only [List.all_cons, Bool.and_eq_true] at f
    have ih := RDs.inV h fd gs f.2
    unfold L2.inV at ih ⊢
    rw [List.any_cons, List.any_cons, ih, g.eqV h f.1 fd]
/-- x in y -/
def inB : Pd → Pd → Option Bool
  | .str a, .str z => some (inStr a z)
  | d, .list xs => if flatD d = true ∧ xs.all flatD = true then some (xs.any fun y => PyData.eqv y d) else if sh 60 d = true ∧ sh 60 (.list xs) = true then some (xs.any fun y => PyData.eqv y d) else none
  | d, .tuple xs => if flatD d = true ∧ xs.all flatD = true then some (xs.any fun y => PyData.eqv y d) else none
  | _, _ => none
def inD (d e : Pd) : Option Pd := (inB d e).map .bool
def notInD (d e : Pd) : Option Pd := (inB d e).map fun b => .bool (!b)
def rInTx (n : Bool) : R2 := fun x y H Q => (∃ (c : Nat) (z : Str), x = .str ⟨#[c]⟩ ∧ y = .str z ∧ Q (.bl (if n then !decide (c ∈ z.cps.toList) else decide (c ∈ z.cps.toList))) H) ∨
  ∃ i j, x = .str i ∧ y = .str j ∧ Q (.bl (if n then !(!(Builtin.Str.occurrences j i 0 j.length 1).isEmpty) else !(Builtin.Str.occurrences j i 0 j.length 1).isEmpty)) H
theorem op_inTx {X : Cx} : OpR X (compareOp .In) (rInTx false) := op_in_sign.or op_in_str
theorem op_notInTx {X : Cx} : OpR X (compareOp .NotIn) (rInTx true) := op_notIn_sign.or op_notin_str
abbrev rInA (K : PySem.W.Frag) : R2 := fun x y H Q => rInTx false x y H Q ∨ rIn K false x y H Q ∨ rInD K x y H Q
abbrev rNotInA (K : PySem.W.Frag) : R2 := fun x y H Q => rInTx true x y H Q ∨ rIn K true x y H Q ∨ rNotInD K x y H Q
theorem opIn {X : Cx} (hu : X.A.units + 65 < cLine) : OpR X (compareOp .In) (rInA X.K) := op_inTx.or (op_in_seq.or (op_inD hu))
theorem opNotIn {X : Cx} (hu : X.A.units + 65 < cLine) : OpR X (compareOp .NotIn) (rNotInA X.K) := op_notInTx.or (op_notIn_seq.or (op_notInD hu))
theorem inStr_ok {n : Bool} {a z : Str} {H : Hp} {Q : VK} (q : Q (.bl (if n then !inStr a z else inStr a z)) H) : rInTx n (.str a) (.str z) H Q := by
  unfold inStr at q
  cases e : a.cps.toList with
  | nil => rw [e] at q; exact .inr ⟨a, z, rfl, rfl, q⟩
  | cons c r =>
    cases r with
    | cons c2 r => rw [e] at q; exact .inr ⟨a, z, rfl, rfl, q⟩
    | nil =>
      rw [e] at q
      have ea : a = ⟨#[c]⟩ := by
        obtain ⟨cps⟩ := a
        have : cps = #[c] := by
          apply Array.ext'
          exact e
        rw [this]
      exact .inl ⟨c, z, by rw [ea], rfl, q⟩
theorem inB_ok {Hf H : Hp} {x y : V} {dx dy : Pd} {b : Bool} (e : Ex Hf H) (hx : RX K Hf H x dx) (hy : RX K Hf H y dy) (h : inB dx dy = some b) {Q : VK} (n : Bool) (q : Q (.bl (if n then !b else b)) H) :
    rInTx n x y H Q ∨ rIn K n x y H Q ∨ (∃ ds, dy = .list ds ∧ Dp K H x dx ∧ Dp K H y (.list ds) ∧ SeqAt.shaped dx = true ∧ SeqAt.shaped (.list ds) = true ∧ (ds.any fun z => PyData.eqv z dx) = b) := by
  unfold inB at h
  split at h
  · cases h; obtain rfl := hx.str; obtain rfl := hy.str; exact .inl (inStr_ok q)
  · rename_i xs _
    split at h
    · rename_i hf
      cases h
      obtain ⟨l, vs, rfl, t, r⟩ := hy.list e
      have rx := hx.flat hf.1
      refine .inr (.inl ⟨l, vs, rfl, .inl t, rx.flatV hf.1, r.all_flat hf.2, ?_⟩)
      rw [RDs.inV rx hf.1 r hf.2]
      exact q
    · split at h
      · rename_i hs
        cases h
        exact .inr (.inr ⟨_, rfl, sh_dp e hx hs.1, sh_dp e hy hs.2, sh_shaped hs.1, sh_shaped hs.2, rfl⟩)
      · cases h
  · rename_i xs _
    split at h
    · rename_i hf
      cases h
      obtain ⟨l, vs, rfl, _, t, r⟩ := hy.tuple e
      have rx := hx.flat hf.1
      refine .inr (.inl ⟨l, vs, rfl, .inr t, rx.flatV hf.1, r.all_flat hf.2, ?_⟩)
      rw [RDs.inV rx hf.1 r hf.2]
      exact q
    · cases h
  · cases h
theorem ro_in : ROp K (rInA K) inD := by
  intro Hf H x y dx dy z e hx hy h Q q
  unfold inD at h
  cases eb : inB dx dy with
  | none => rw [eb] at h; cases h
  | some b =>
    rw [eb] at h
    cases h
    have k := q (.bl b) Hf H (Pg.refl e) (.bl b)
    rcases inB_ok e hx hy eb false k with h1 | h1 | ⟨ds, rfl, h1, h2, h3, h4, h5⟩
    · exact .inl h1
    · exact .inr (.inl h1)
    · exact .inr (.inr ⟨_, _, h1, h2, h3, h4, by rw [h5]; exact k⟩)
theorem ro_notIn : ROp K (rNotInA K) notInD := by
  intro Hf H x y dx dy z e hx hy h Q q
  unfold notInD at h
  cases eb : inB dx dy with
  | none => rw [eb] at h; cases h
  | some b =>
    rw [eb] at h
    cases h
    have k := q (.bl (!b)) Hf H (Pg.refl e) (.bl (!b))
    rcases inB_ok e hx hy eb true k with h1 | h1 | ⟨ds, rfl, h1, h2, h3, h4, h5⟩
    · exact .inl h1
    · exact .inr (.inl h1)
    · exact .inr (.inr ⟨_, _, h1, h2, h3, h4, by rw [h5]; exact k⟩)
/-! ### is None -/
def isNon : Pd → Bool
  | .none => true
  | _ => false
def isNoneD : Pd → Pd → Option Pd
  | d, .none => some (.bool (isNon d))
  | _, _ => none
def notNoneD : Pd → Pd → Option Pd
  | d, .none => some (.bool (!isNon d))
  | _, _ => none
theorem RX.isNon {Hf H : Hp} {x : V} {d : Pd} (h : RX K Hf H x d) : decide (x = .non) = isNon d := by
  rcases h with h | ⟨l, _, _, rfl, rfl, _⟩
  · cases h <;> simp [Dt.isNon]
  · simp [Dt.isNon]
theorem ro_isNone : ROp K (fun x y H Q => y = .non ∧ Q (.bl (decide (x = .non))) H) isNoneD := by
  intro Hf H x y dx dy z e hx hy h Q q
  unfold isNoneD at h
  split at h
  · cases h
    refine ⟨hy.non, ?_⟩
    rw [hx.isNon]
    exact q _ Hf H (Pg.refl e) (.bl _)
  · cases h
theorem ro_notNone : ROp K (fun x y H Q => y = .non ∧ Q (.bl (!decide (x = .non))) H) notNoneD := by
  intro Hf H x y dx dy z e hx hy h Q q
  unfold notNoneD at h
  split at h
  · rename_i d
    cases h
    refine ⟨hy.non, ?_⟩
    rw [hx.isNon]
    exact q _ Hf H (Pg.refl e) (.bl _)
  · cases h
/-! ### x[i] -/
def ixD : Pd → Pd → Option Pd
  | .list xs, .int i => atI xs i
  | .tuple xs, .int i => atI xs i
  | .str z, .int i => if z.length ≤ sizeLine then (atI z.cps.toList i).map fun c => .str ⟨#[c]⟩ else none
  | _, _ => none
theorem RDs.atI {H : Hp} {vs : List V} {ds : List Pd} (r : RDs K H vs ds) {i : Int} {d : Pd} (h : L2.atI ds i = some d) : ∃ v, L2.atI vs i = some v ∧ RD K H v d := by
  unfold L2.atI at h ⊢
  rw [r.length]
  cases e : ixN ds.length i with
  | none => rw [e] at h; cases h
  | some j => rw [e] at h; exact r.get h
theorem ro_ix : ROp K (rIx K) ixD := by
  intro Hf H x y dx dy z e hx hy h Q q
  unfold ixD at h
  split at h
  · obtain ⟨l, vs, rfl, t, r⟩ := hx.list e
    obtain ⟨v, h1, h2⟩ := r.atI h
    exact .inl ⟨l, vs, _, v, rfl, hy.int, t, h1, q v Hf H (Pg.refl e) h2⟩
  · obtain ⟨l, vs, rfl, _, t, r⟩ := hx.tuple e
    obtain ⟨v, h1, h2⟩ := r.atI h
    exact .inr (.inl ⟨l, vs, _, v, rfl, hy.int, t, h1, q v Hf H (Pg.refl e) h2⟩)
  · split at h
    · rename_i w i hz
      cases ec : L2.atI w.cps.toList i with
      | none => rw [ec] at h; cases h
      | some c =>
        rw [ec] at h
        cases h
        exact .inr (.inr ⟨w, i, c, hx.str, hy.int, hz, ec, q _ Hf H (Pg.refl e) (.str _)⟩)
    · cases h
  · cases h
/-! ### slices -/
def cutD (xs : List Pd) (lo hi : Option Int) : List Pd := (xs.drop (HT.sIx xs.length 0 lo)).take (HT.sIx xs.length xs.length hi - HT.sIx xs.length 0 lo)
def slD : Pd → Option Int → Option Int → Option Pd
  | .list xs, lo, hi => some (.list (cutD xs lo hi))
  | .tuple xs, lo, hi => some (.tuple (cutD xs lo hi))
  | .str z, lo, hi => if z.length ≤ sizeLine then some (.str (cutS z lo hi)) else none
  | _, _, _ => none
theorem RDs.cut {H : Hp} {vs : List V} {ds : List Pd} (r : RDs K H vs ds) (lo hi : Option Int) : RDs K H (cutV vs lo hi) (cutD ds lo hi) := by
  unfold cutV cutD
  rw [r.length]
  exact (r.drop _).take _
theorem cutD_whole {xs : List Pd} {lo hi : Option Int} (h : HT.sIx xs.length 0 lo = 0 ∧ HT.sIx xs.length xs.length hi = xs.length) : cutD xs lo hi = xs := by
  unfold cutD
  rw [h.1, h.2]
  simp
abbrev rSlAll (K : PySem.W.Frag) : V → Option Int → Option Int → Hp → VK → Prop := fun x lo hi H Q => rSlL K x lo hi H Q ∨ rSlA K x lo hi H Q ∨ rSlS x lo hi H Q
theorem slAll {X : Cx} : SlR X (rSlAll X.K) := sl_list.or (sl_tupA.or sl_str)
theorem rs_sl : RSl K (rSlAll K) slD := by
  intro Hf H x lo hi dx z e hx h Q q
  unfold slD at h
  split at h
  · cases h
    obtain ⟨l, vs, rfl, t, r⟩ := hx.list e
    refine .inl ⟨l, vs, rfl, t, fun p np => ?_⟩
    have g := Pg.new (o := .lst (cutV vs lo hi)) e np
    exact q _ _ _ g (.lst (sq_of upd_same) ((r.cut lo hi).mono g.ef))
  · cases h
    obtain ⟨l, vs, rfl, t1, t, r⟩ := hx.tuple e
    refine .inr (.inl ⟨l, vs, rfl, t, fun hw => ?_, fun hw p np => ?_⟩)
    · rw [r.length] at hw
      exact q _ Hf H (Pg.refl e) (by rw [cutD_whole hw]; exact .tup t1 r)
    · have g := Pg.new (o := .tup (cutV vs lo hi)) e np
      exact q _ _ _ g (.tup (st_of upd_same) ((r.cut lo hi).mono g.ef))
  · split at h
    · cases h
      exact .inr (.inr ⟨_, hx.str, by assumption, q _ Hf H (Pg.refl e) (.str _)⟩)
    · cases h
  · cases h
/-! ### built-in functions -/
theorem RXs.one {Hf H : Hp} {vs : List V} {d : Pd} (h : RXs K Hf H vs [d]) : ∃ v, vs = [v] ∧ RX K Hf H v d := by
  cases h with
  | cons h hs => cases hs; exact ⟨_, rfl, h⟩
theorem RXs.two {Hf H : Hp} {vs : List V} {d e : Pd} (h : RXs K Hf H vs [d, e]) : ∃ v u, vs = [v, u] ∧ RX K Hf H v d ∧ RX K Hf H u e := by
  cases h with
  | cons h hs =>
    obtain ⟨u, rfl, k⟩ := hs.one
    exact ⟨_, _, rfl, h, k⟩
def lenD : List Pd → Option Pd
  | [.list xs] => some (.int xs.length)
  | [.tuple xs] => some (.int xs.length)
  | [.str z] => if z.length ≤ sizeLine then some (.int z.length) else none
  | _ => none
abbrev rLenA (K : PySem.W.Frag) : List V → Hp → VK → Prop := fun xs H Q => (∃ p ys, xs = [.ref p] ∧ (SqL K H p ys ∨ SqT K H p ys) ∧ Q (.int ys.length) H) ∨ (∃ z, xs = [.str z] ∧ z.length ≤ sizeLine ∧ Q (.int z.length) H)
theorem callLen {X : Cx} : CallR X (.builtin "len") (rLenA X.K) := call_len_seq.or call_len_str
theorem rc_len : RCall K (rLenA K) lenD := by
  intro Hf H vs xs z e hx h Q q
  unfold lenD at h
  split at h
  · cases h
    obtain ⟨v, rfl, hv⟩ := hx.one
    obtain ⟨l, us, rfl, t, r⟩ := hv.list e
    exact .inl ⟨l, us, rfl, .inl t, by rw [r.length]; exact q _ Hf H (Pg.refl e) (.int _)⟩
  · cases h
    obtain ⟨v, rfl, hv⟩ := hx.one
    obtain ⟨l, us, rfl, _, t, r⟩ := hv.tuple e
    exact .inl ⟨l, us, rfl, .inr t, by rw [r.length]; exact q _ Hf H (Pg.refl e) (.int _)⟩
  · split at h
    · cases h
      obtain ⟨v, rfl, hv⟩ := hx.one
      obtain rfl := hv.str
      exact .inr ⟨_, rfl, by assumption, q _ Hf H (Pg.refl e) (.int _)⟩
    · cases h
  · cases h
def absD : List Pd → Option Pd
  | [.int i] => some (.int (if i < 0 then -i else i))
  | _ => none
theorem rc_abs : RCall K (fun xs H Q => ∃ i, xs = [.int i] ∧ Q (.int (if i < 0 then -i else i)) H) absD := by
  intro Hf H vs xs z e hx h Q q
  unfold absD at h
  split at h
  · cases h
    obtain ⟨v, rfl, hv⟩ := hx.one
    obtain rfl := hv.int
    exact ⟨_, rfl, q _ Hf H (Pg.refl e) (.int _)⟩
  · cases h
def strD : List Pd → Option Pd
  | [.int i] => if i.natAbs.log2 < 1920 then some (.str (toString i)) else none
  | _ => none
theorem rc_str : RCall K (fun xs H Q => ∃ i, xs = [.int i] ∧ i.natAbs.log2 < 1920 ∧ Q (.str (toString i)) H) strD := by
  intro Hf H vs xs z e hx h Q q
  unfold strD at h
  split at h
  · split at h
    · cases h
      obtain ⟨v, rfl, hv⟩ := hx.one
      obtain rfl := hv.int
      exact ⟨_, rfl, by assumption, q _ Hf H (Pg.refl e) (.str _)⟩
    · cases h
  · cases h
def boolsD : List Pd → Option (List Bool)
  | [] => some []
  | .bool b :: xs => match boolsD xs with
    | some bs => some (b :: bs)
    | none => none
  | _ :: _ => none
theorem bools_ok {H : Hp} : ∀ {vs : List V} {ds : List Pd} {bs : List Bool}, RDs K H vs ds → boolsD ds = some bs → vs = bs.map V.bl
  | _, _, _, .nil, h => by cases h; rfl
  | _, _, _, .cons (d := .bool b) (ds := ds) g gs, h => by
    simp only [boolsD] at h
    cases e : boolsD ds with
    | none => rw [e] at h; cases h
    | some bs =>
      rw [e] at h
      cases h
      cases g
      rw [bools_ok gs e]
      rfl
  | _, _, _, .cons (d := .none) _ _, h => by cases h
  | _, _, _, .cons (d := .int _) _ _, h => by cases h
  | _, _, _, .cons (d := .str _) _ _, h => by cases h
  | _, _, _, .cons (d := .list _) _ _, h => by cases h
  | _, _, _, .cons (d := .tuple _) _ _, h => by cases h
  | _, _, _, .cons (d := .dict _) _ _, h => by cases h
def allD : List Pd → Option Pd
  | [.list xs] => (boolsD xs).map fun bs => .bool (bs.all id)
  | _ => none
def anyD : List Pd → Option Pd
  | [.list xs] => (boolsD xs).map fun bs => .bool (bs.any id)
  | _ => none
theorem rc_all : RCall K (rAll K) allD := by
  intro Hf H vs xs z e hx h Q q
  unfold allD at h
  split at h
  · rename_i ys
    obtain ⟨v, rfl, hv⟩ := hx.one
    obtain ⟨l, us, rfl, t, r⟩ := hv.list e
    cases eb : boolsD ys with
    | none => rw [eb] at h; cases h
    | some bs =>
      rw [eb] at h
      cases h
      obtain rfl := bools_ok r eb
      exact ⟨l, bs, rfl, t, q _ Hf H (Pg.refl e) (.bl _)⟩
  · cases h
theorem rc_any : RCall K (rAny K) anyD := by
  intro Hf H vs xs z e hx h Q q
  unfold anyD at h
  split at h
  · rename_i ys
    obtain ⟨v, rfl, hv⟩ := hx.one
    obtain ⟨l, us, rfl, t, r⟩ := hv.list e
    cases eb : boolsD ys with
    | none => rw [eb] at h; cases h
    | some bs =>
      rw [eb] at h
      cases h
      obtain rfl := bools_ok r eb
      exact ⟨l, bs, rfl, t, q _ Hf H (Pg.refl e) (.bl _)⟩
  · cases h
def intsD : List Pd → Option (List Int)
  | [] => some []
  | .int b :: xs => match intsD xs with
    | some bs => some (b :: bs)
    | none => none
  | _ :: _ => none
theorem ints_ok {H : Hp} : ∀ {vs : List V} {ds : List Pd} {bs : List Int}, RDs K H vs ds → intsD ds = some bs → vs = bs.map V.int
  | _, _, _, .nil, h => by cases h; rfl
  | _, _, _, .cons (d := .int b) (ds := ds) g gs, h => by
    simp only [intsD] at h
    cases e : intsD ds with
    | none => rw [e] at h; cases h
    | some bs =>
      rw [e] at h
      cases h
      cases g
      rw [ints_ok gs e]
      rfl
  | _, _, _, .cons (d := .none) _ _, h => by cases h
  | _, _, _, .cons (d := .bool _) _ _, h => by cases h
  | _, _, _, .cons (d := .str _) _ _, h => by cases h
  | _, _, _, .cons (d := .list _) _ _, h => by cases h
  | _, _, _, .cons (d := .tuple _) _ _, h => by cases h
  | _, _, _, .cons (d := .dict _) _ _, h => by cases h
def sumD : List Pd → Option Pd
  | [.list xs] => (intsD xs).map fun bs => .int bs.sum
  | _ => none
theorem rc_sum : RCall K (rSum K) sumD := by
  intro Hf H vs xs z e hx h Q q
  unfold sumD at h
  split at h
  · rename_i ys
    obtain ⟨v, rfl, hv⟩ := hx.one
    obtain ⟨l, us, rfl, t, r⟩ := hv.list e
    cases eb : intsD ys with
    | none => rw [eb] at h; cases h
    | some bs =>
      rw [eb] at h
      cases h
      obtain rfl := ints_ok r eb
      exact ⟨l, bs, rfl, t, q _ Hf H (Pg.refl e) (.int _)⟩
  · cases h
def strsD : List Pd → Option (List Str)
  | [] => some []
  | .str b :: xs => match strsD xs with
    | some bs => some (b :: bs)
    | none => none
  | _ :: _ => none
theorem strs_ok {H : Hp} : ∀ {vs : List V} {ds : List Pd} {bs : List Str}, RDs K H vs ds → strsD ds = some bs → vs = bs.map V.str
  | _, _, _, .nil, h => by cases h; rfl
  | _, _, _, .cons (d := .str b) (ds := ds) g gs, h => by
    simp only [strsD] at h
    cases e : strsD ds with
    | none => rw [e] at h; cases h
    | some bs =>
      rw [e] at h
      cases h
      cases g
      rw [strs_ok gs e]
      rfl
  | _, _, _, .cons (d := .none) _ _, h => by cases h
  | _, _, _, .cons (d := .bool _) _ _, h => by cases h
  | _, _, _, .cons (d := .int _) _ _, h => by cases h
  | _, _, _, .cons (d := .list _) _ _, h => by cases h
  | _, _, _, .cons (d := .tuple _) _ _, h => by cases h
  | _, _, _, .cons (d := .dict _) _ _, h => by cases h
/-- tuple(x) of a list or a tuple -/
def tupleD : List Pd → Option Pd
  | [.list xs] => some (.tuple xs)
  | [.tuple xs] => some (.tuple xs)
  | _ => none
abbrev rTupleA (K : PySem.W.Frag) : List V → Hp → VK → Prop := fun xs H Q => ∃ p ys, xs = [.ref p] ∧ ((SqL K H p ys ∧ ∀ l, H l = none → Q (.ref l) (upd H l (.tup ys))) ∨ (SqT K H p ys ∧ Q (.ref p) H))
theorem rc_tuple : RCall K (rTupleA K) tupleD := by
  intro Hf H vs xs z e hx h Q q
  unfold tupleD at h
  split at h
  · cases h
    obtain ⟨v, rfl, hv⟩ := hx.one
    obtain ⟨l, us, rfl, t, r⟩ := hv.list e
    refine ⟨l, us, rfl, .inl ⟨t, fun p np => ?_⟩⟩
    have g := Pg.new (o := .tup us) e np
    exact q _ _ _ g (.tup (st_of upd_same) (r.mono g.ef))
  · cases h
    obtain ⟨v, rfl, hv⟩ := hx.one
    obtain ⟨l, us, rfl, t1, t, r⟩ := hv.tuple e
    exact ⟨l, us, rfl, .inr ⟨t, q _ Hf H (Pg.refl e) (.tup t1 r)⟩⟩
  · cases h
/-- list(x) of a list or a tuple: a new list -/
def listD : List Pd → Option (List Pd)
  | [.list xs] => some xs
  | [.tuple xs] => some xs
  | _ => none
abbrev rListA (K : PySem.W.Frag) : List V → Hp → VK → Prop := fun xs H Q => ∃ p ys, xs = [.ref p] ∧ (SqL K H p ys ∨ SqT K H p ys) ∧ ∀ l, H l = none → Q (.ref l) (upd H l (.lst ys))
theorem rcl_list : RCallL K (rListA K) listD := by
  intro Hf H vs xs z e hx h Q q
  unfold listD at h
  split at h
  · cases h
    obtain ⟨v, rfl, hv⟩ := hx.one
    obtain ⟨l, us, rfl, t, r⟩ := hv.list e
    exact ⟨l, us, rfl, .inl t, fun p np => q p us _ (e.trans (Ex.new np)) (Ex.new np) np upd_same r⟩
  · cases h
    obtain ⟨v, rfl, hv⟩ := hx.one
    obtain ⟨l, us, rfl, t1, t, r⟩ := hv.tuple e
    exact ⟨l, us, rfl, .inr t, fun p np => q p us _ (e.trans (Ex.new np)) (Ex.new np) np upd_same r⟩
  · cases h
/-! ### methods of texts -/
def upperD : Pd → List Pd → Option Pd
  | .str a, [] => if a.length ≤ 5592405 then some (.str (Txt.upper a)) else none
  | _, _ => none
theorem rm_upper : RMt K "str" (fun x xs H Q => ∃ a, x = .str a ∧ xs = [] ∧ a.length ≤ 5592405 ∧ Q (.str (Txt.upper a)) H) upperD := by
  intro Hf H x vs dx xs z e hx hs h Q q
  unfold upperD at h
  split at h
  · split at h
    · cases h
      cases hs
      exact ⟨_, hx.str, rfl, by assumption, q _ Hf H (Pg.refl e) (.str _)⟩
    · cases h
  · cases h
def joinD : Pd → List Pd → Option Pd
  | .str a, [.list xs] => match strsD xs with
    | some ys => if (ys.map (·.length)).sum + ys.length * a.length ≤ 16777216 then some (.str (Txt.join a ys)) else none
    | none => none
  | .str a, [.tuple xs] => match strsD xs with
    | some ys => if (ys.map (·.length)).sum + ys.length * a.length ≤ 16777216 then some (.str (Txt.join a ys)) else none
    | none => none
  | _, _ => none
abbrev rJoinA (K : PySem.W.Frag) : V → List V → Hp → VK → Prop := fun x xs H Q => ∃ a p, ∃ ys : List Str, x = .str a ∧ xs = [.ref p] ∧ (SqL K H p (ys.map V.str) ∨ SqT K H p (ys.map V.str)) ∧
    (ys.map (·.length)).sum + ys.length * a.length ≤ 16777216 ∧ Q (.str (Txt.join a ys)) H
theorem rm_join : RMt K "str" (rJoinA K) joinD := by
  intro Hf H x vs dx xs z e hx hs h Q q
  unfold joinD at h
  split at h
  · split at h
    · rename_i ys es
      split at h
      · cases h
        obtain ⟨v, rfl, hv⟩ := hs.one
        obtain ⟨l, us, rfl, t, r⟩ := hv.list e
        obtain rfl := strs_ok r es
        exact ⟨_, l, ys, hx.str, rfl, .inl t, by assumption, q _ Hf H (Pg.refl e) (.str _)⟩
      · cases h
    · cases h
  · split at h
    · rename_i ys es
      split at h
      · cases h
        obtain ⟨v, rfl, hv⟩ := hs.one
        obtain ⟨l, us, rfl, _, t, r⟩ := hv.tuple e
        obtain rfl := strs_ok r es
        exact ⟨_, l, ys, hx.str, rfl, .inr t, by assumption, q _ Hf H (Pg.refl e) (.str _)⟩
      · cases h
    · cases h
  · cases h
end
end Dt
namespace Dt
open PySem PySem.Spec L2 Evl
section
variable {Z : Zx} {W : WX}
/-! ### isinstance -/
def tyName : Pd → String
  | .none => "NoneType"
  | .bool _ => "bool"
  | .int _ => "int"
  | .str _ => "str"
  | .list _ => "list"
  | .tuple _ => "tuple"
  | .dict _ => "dict"
theorem ty_of {K : PySem.W.Frag} {Hf H : Hp} {v : V} {d : Pd} (e : Ex Hf H) (h : RX K Hf H v d) : TyX K H v (.type (tyName d)) := by
  have h0 := h.full e
  clear h
  cases h0 with
  | non => exact .base .non
  | bl b => exact .base (.bl b)
  | int i => exact .base (.int i)
  | str x => exact .base (.str x)
  | lst hh _ =>
    rcases hh with (h | ⟨o, h⟩) | ⟨o, its, n, h1, h2, _⟩
    · exact .base (.lst h)
    · exact .base (.frz h)
    · exact .kList h1 h2
  | tup hh _ =>
    rcases hh with (h | ⟨o, h⟩) | ⟨o, its, n, h1, h2, _⟩
    · exact .base (.tup h)
    · exact .fTuple h
    · exact .kTuple h1 h2
  | dct hh _ => exact .base (.dK hh)
def isiD (T : String) (d : Pd) : Option Pd := (kitB (tyName d) T).map .bool
theorem d_isi {T : String} {ta : TE} {fa : Rho → R AV} (ha : DE Z W ta fa) : DE Z W (tCB (rIsi Z.K) (tCons ta (tCons (tC (.ty T)) tNil))) (f1 (isiD T) fa) := by
  intro Hf H O σ ρ s Q p
  refine ha.bind s p fun a ρ1 x Hf1 H1 s1 g1 k1 rx p1 => ?_
  refine op1_use (r := fun x H Q => rIsi Z.K [x, .ty T] H Q) ?_ s1 rx p1
  intro Hf H x dx z e hx h Q q
  unfold isiD at h
  cases eb : kitB (tyName dx) T with
  | none => rw [eb] at h; cases h
  | some b =>
    rw [eb] at h
    cases h
    exact ⟨x, .ty T, .type (tyName dx), .type T, b, rfl, .ty T, ty_of e hx, kit_ty eb, q _ Hf H (Pg.refl e) (.bl b)⟩
def isIntD : Pd → Bool
  | .int _ => true
  | .bool _ => true
  | _ => false
def isBoolD : Pd → Bool
  | .bool _ => true
  | _ => false
def isStrD : Pd → Bool
  | .str _ => true
  | _ => false
def isTupD : Pd → Bool
  | .tuple _ => true
  | _ => false
def isLstD : Pd → Bool
  | .list _ => true
  | _ => false
theorem isi_of {T : String} {f : Pd → Bool} (h : ∀ d, kitB (tyName d) T = some (f d)) (d : Pd) : isiD T d = some (.bool (f d)) := by
  unfold isiD
  rw [h d]
  rfl
theorem isi_int (d : Pd) : isiD "int" d = some (.bool (isIntD d)) := isi_of (fun d => by
  cases d <;> simp only [tyName, isIntD] <;> decide +kernel) d
theorem isi_bool (d : Pd) : isiD "bool" d = some (.bool (isBoolD d)) := isi_of (fun d => by
  cases d <;> simp only [tyName, isBoolD] <;> decide +kernel) d
theorem isi_str (d : Pd) : isiD "str" d = some (.bool (isStrD d)) := isi_of (fun d => by
  cases d <;> simp only [tyName, isStrD] <;> decide +kernel) d
theorem isi_tuple (d : Pd) : isiD "tuple" d = some (.bool (isTupD d)) := isi_of (fun d => by
  cases d <;> simp only [tyName, isTupD] <;> decide +kernel) d
theorem isi_list (d : Pd) : isiD "list" d = some (.bool (isLstD d)) := isi_of (fun d => by
  cases d <;> simp only [tyName, isLstD] <;> decide +kernel) d
/-! ### dicts written -/
theorem d_dict0 : DE Z W tDNewK (fC (.dict [])) := by
  intro Hf H O σ ρ s Q p q nq
  have g := Pg.new (o := .dK []) s.ex nq
  exact p _ _ (s.grow g) g.gr Kp.refl _ (.dct upd_same .nil)
def keyD : Pd → Option Key
  | .int i => some (.inl i)
  | .str x => some (.inr x)
  | _ => none
theorem keyD_ok {K : PySem.W.Frag} {H : Hp} {v : V} {d : Pd} {k : Key} (h : RD K H v d) (e : keyD d = some k) : v = kV k ∧ d = kD k := by
  cases h <;> cases e <;> exact ⟨rfl, rfl⟩
def kDisp1 : AV → AV → Rho → R AV
  | .d k, .d v, ρ2 => match keyD k with
    | some _ => .ok (.d (.dict [(k, v)])) ρ2
    | none => .bad
  | _, _, _ => .bad
def fDisp1 (fk fv : Rho → R AV) : Rho → R AV := fun ρ => (fk ρ).bind fun a ρ1 => (fv ρ1).bind fun b ρ2 => kDisp1 a b ρ2
theorem d_dict1 {tk tv : TE} {fk fv : Rho → R AV} (hk : DE Z W tk fk) (hv : DE Z W tv fv) : DE Z W (tDisp [(tk, tv)]) (fDisp1 fk fv) := by
  intro Hf H O σ ρ s Q p q nq
  have no : ¬ O q := fun z => by
    obtain ⟨⟨o, t⟩, _⟩ := s.otr q z
    rw [nq] at t; cases t
  have g0 := Pg.lay (o := .dK []) s.ex nq
  have s0 := s.grow g0
  refine hk Hf _ O σ ρ s0 _ ?_
  have fq0 := fresh_back s.ex nq
  unfold fDisp1 at p
  cases ek : fk ρ with
  | bad => rw [ek] at p; exact p
  | ex x ρ1 => rw [ek] at p; exact fun cls d Hf' H' s' g' k' xr => p cls d Hf' H' s' (g0.gr.trans g') k' xr
  | ok a ρ1 =>
    rw [ek] at p
    intro Hf1 H1 s1 g1 k1 x rx
    refine hv Hf1 H1 O σ ρ1 s1 _ ?_
    have p : PostG Z W O σ ρ Hf H (fun a _ Hf' H' => ∀ v, RA Z.K Hf' σ v a → Q v H') ((fv ρ1).bind fun b ρ2 => kDisp1 a b ρ2) := p
    cases ev : fv ρ1 with
    | bad => rw [ev] at p; exact p
    | ex x ρ2 => rw [ev] at p; exact fun cls d Hf' H' s' g' k' xr => p cls d Hf' H' s' (g0.gr.trans (g1.trans g')) (k1.trans k') xr
    | ok b ρ2 =>
      rw [ev] at p
      intro Hf2 H2 s2 g2 k2 y ry
      cases a with
      | sl i => exact p.elim
      | d k =>
        cases b with
        | sl i => exact p.elim
        | d v =>
          have p : PostG Z W O σ ρ Hf H (fun a _ Hf' H' => ∀ v, RA Z.K Hf' σ v a → Q v H') (match keyD k with
            | some _ => .ok (.d (.dict [(k, v)])) ρ2
            | none => .bad) := p
          cases e : keyD k with
          | none => rw [e] at p; exact p.elim
          | some kk =>
            rw [e] at p
            obtain ⟨ex, rfl⟩ := keyD_ok (show RD Z.K Hf1 x k from rx) e
            have gg := g1.trans g2
            have hq2 : H2 q = some (.dK []) := gg.fm _ _ upd_same no
            have fq2 : Hf2 q = none := gg.stays upd_same fq0 no
            refine ⟨hq2, [(kk, y)], by rw [ex]; rfl, by simp, ?_⟩
            have s3 := s2.other (o' := .dK [(kk, y)]) hq2 fq2 no
            have s4 := s3.freeze upd_same fq2 no
            refine p _ _ s4 ⟨(g0.gr.trans gg).ex.trans (Ex.new fq2), ((g0.gr.trans gg).upd nq).fm, ((g0.gr.trans gg).upd nq).tr, fun a o h => ?_⟩ (k1.trans k2) _ (.dct upd_same (.cons (RD.mono (Ex.new fq2) ry) .nil))
            by_cases z : a = q
            · subst z; exact .inr (.inl nq)
            · rw [upd_ne z] at h; exact (g0.gr.trans gg).nw a o h
end
end Dt
namespace Dt
open PySem PySem.Spec L2 Evl
/-- a def of the top, as it stands -/
structure FnI (K : PySem.W.Frag) (mg : Str → Option Value) (x : Str) (st : Stmt) where
  f : Addr
  fd : FuncData
  F : FunD K x x (defArgs st) (defBody st) (defScope st) [] [] f fd
  g : mg x = some (.ref f)
theorem u65 {k : Nat} {A : Around} (r : Room k A) : A.units + 65 < cLine := by have := r.un; omega
theorem bt_all : bootBuiltins "all" = some (.builtin "all") := by decide +kernel
theorem bt_any : bootBuiltins "any" = some (.builtin "any") := by decide +kernel
theorem bt_sum : bootBuiltins "sum" = some (.builtin "sum") := by decide +kernel
theorem bt_sorted : bootBuiltins "sorted" = some (.builtin "sorted") := by decide +kernel
theorem bt_max : bootBuiltins "max" = some (.builtin "max") := by decide +kernel
theorem bt_min : bootBuiltins "min" = some (.builtin "min") := by decide +kernel
def negD : Pd → Option Pd
  | .int i => some (.int (-i))
  | _ => none
theorem ru_neg {K : PySem.W.Frag} : RUn K (rU fun i => .int (-i)) negD := by
  intro Hf H x dx z e hx h Q q
  unfold negD at h
  split at h
  · cases h
    exact ⟨_, hx.int, q _ Hf H (Pg.refl e) (.int _)⟩
  · cases h
/-- int(x) of an int or a truth -/
def intOfD : List Pd → Option Pd
  | [.int i] => some (.int i)
  | [.bool b] => some (.int (if b then 1 else 0))
  | _ => none
theorem rc_intOf {K : PySem.W.Frag} : RCall K (fun xs H Q => (∃ i, xs = [.int i] ∧ Q (.int i) H) ∨ ∃ k, xs = [.bl k] ∧ Q (.int (if k then 1 else 0)) H) intOfD := by
  intro Hf H vs xs z e hx h Q q
  unfold intOfD at h
  split at h
  · cases h
    obtain ⟨v, rfl, hv⟩ := hx.one
    obtain rfl := hv.int
    exact .inl ⟨_, rfl, q _ Hf H (Pg.refl e) (.int _)⟩
  · cases h
    obtain ⟨v, rfl, hv⟩ := hx.one
    obtain rfl := hv.bool
    exact .inr ⟨_, rfl, q _ Hf H (Pg.refl e) (.int _)⟩
  · cases h
/-! ### the rules that look at the written part, by its name -/
section
variable {X : Cx}
theorem kAdd (K : PySem.W.Frag) (hK : X.K = K := by rfl) : OpR X (binaryOp .Add) (rAddA K) := by subst hK; exact opAdd
theorem kEq (K : PySem.W.Frag) (hu : X.A.units + 64 < cLine) (hK : X.K = K := by rfl) : OpR X (compareOp .Eq) (rEqA K) := by subst hK; exact opEq hu
theorem kNe (K : PySem.W.Frag) (hu : X.A.units + 64 < cLine) (hK : X.K = K := by rfl) : OpR X (compareOp .NotEq) (rNeA K) := by subst hK; exact opNe hu
theorem kIn (K : PySem.W.Frag) (hu : X.A.units + 65 < cLine) (hK : X.K = K := by rfl) : OpR X (compareOp .In) (rInA K) := by subst hK; exact opIn hu
theorem kNotIn (K : PySem.W.Frag) (hu : X.A.units + 65 < cLine) (hK : X.K = K := by rfl) : OpR X (compareOp .NotIn) (rNotInA K) := by subst hK; exact opNotIn hu
theorem kIx (K : PySem.W.Frag) (hK : X.K = K := by rfl) : IxR X (rIx K) := by subst hK; exact ix_seq
theorem kSl (K : PySem.W.Frag) (hK : X.K = K := by rfl) : SlR X (rSlAll K) := by subst hK; exact slAll
theorem kLen (K : PySem.W.Frag) (hK : X.K = K := by rfl) : CallR X (.builtin "len") (rLenA K) := by subst hK; exact callLen
theorem kAll (K : PySem.W.Frag) (hc : X.calm = true) (hK : X.K = K := by rfl) : CallR X (.builtin "all") (rAll K) := by subst hK; exact cr_all hc
theorem kAny (K : PySem.W.Frag) (hc : X.calm = true) (hK : X.K = K := by rfl) : CallR X (.builtin "any") (rAny K) := by subst hK; exact cr_any hc
theorem kSum (K : PySem.W.Frag) (hc : X.calm = true) (hK : X.K = K := by rfl) : CallR X (.builtin "sum") (rSum K) := by subst hK; exact cr_sum hc
theorem kIsi (K : PySem.W.Frag) (hK : X.K = K := by rfl) : CallR X (.builtin "isinstance") (rIsi K) := by subst hK; exact call_isi
theorem kTuple (K : PySem.W.Frag) (hK : X.K = K := by rfl) : CallR X (.type "tuple") (rTupleA K) := by subst hK; exact call_tuple_of
theorem kList (K : PySem.W.Frag) (hK : X.K = K := by rfl) : CallR X (.type "list") (rListA K) := by subst hK; exact call_list_of
theorem kJoin (K : PySem.W.Frag) (hK : X.K = K := by rfl) : MtR X "str.join" (rJoinA K) := by subst hK; exact mt_join
end
/-- the law's promise from its meaning: over every script it hands back True -/
theorem law_sp {K : PySem.W.Frag} {C : Str → Addr} {m : Rho → R RV} {H : Hp} {a : Addr} {ns : List Int} {E : XK} (h : SqL K H a (ns.map V.int)) (as' : Rho) (e : m [.d (.list (ns.map PyData.int))] = .ok (.d (.bool true)) as') :
    spF ⟨K, C⟩ 1 m [.ref a] H (fun v _ => v = .bl true) E := by
  have r : RDs K H [.ref a] [.list (ns.map PyData.int)] := .cons (.lst h RDs.flat) .nil
  refine ⟨rfl, H, fun _ => False, [.d (.list (ns.map PyData.int))], r.args (Ex.refl _), ioArgs (xs := [.list (ns.map PyData.int)]), ?_⟩
  rw [e]
  intro v Hf' H' s' g' rv
  cases rv
  rfl
/-- the walk of a law, its meaning being True over every script -/
theorem walk_D {l : PySem.W.OpenLaw} {n k : Nat} {q : Program} {loose : List Str} {XP : (Str → Option Value) → Heap → Prop} {YP : World → Heap → Prop} {d : DefRec} {x : Str} {m : Rho → R RV}
    (hn : l.most = some n) (hn2 : n ≤ sizeLine) (hdf : d.params.defaults = []) (hr : Room k callerA)
    (F : ∀ (w : World) (mg : Str → Option Value) (fa : Addr) (h : Heap), YP w h → h.Ns mainGlobals mg → mg d.name = some (.ref fa) →
      ∃ (K : PySem.W.Frag) (C : Str → Addr) (fd : FuncData), K.In h ∧ (∀ (s : Shared) (u : Value), BindsTo s fd ⟨[u], []⟩ [(x, u)]) ∧
        ∀ base : Heap, K.In base → base.Ns mainGlobals mg → FnOk l.prog w K mg base (L2.CX l.prog w) k fa fd [x] (spF ⟨K, C⟩ 1 m))
    (math : ∀ ns : List Int, ns.length ≤ n → (∀ z ∈ ns, bits z ≤ 1048576) → ∃ as', m [.d (.list (ns.map PyData.int))] = .ok (.d (.bool true)) as') :
    PySem.W.WalkO q loose XP YP l.row.toRowW d [] (fun f vs => PySem.call f vs) := by
  refine Att.attach_callB hn hdf fun w s0 s1 mg mb fa o pm cd doc a vs ns G Y ho hd hcd hmg hobj hints hlen hbits hg => ?_
  obtain ⟨K, C, fd, KX, hb, hF⟩ := F w mg fa _ Y G.T.g hmg
  obtain ⟨as', e⟩ := math ns hlen hbits
  exact law_call KX G.T.g G.T.b G.T.builtins G.T.nolimit hg hobj hints (Nat.le_trans hlen hn2) hr hF hb (fun H _ hS => law_sp hS as' e) fun H u s' z => by
    obtain ⟨_, _, _, _, _, _, _, _, _, _, _, _, q⟩ := z
    exact q
end Dt
namespace Dt
open PySem PySem.Spec L2 Evl RZ
section
variable {K : PySem.W.Frag}
/-! ### max, min of two ints -/
def maxD : List Pd → Option Pd
  | [.int i, .int j] => some (.int (if j > i then j else i))
  | _ => none
def minD : List Pd → Option Pd
  | [.int i, .int j] => some (.int (if j < i then j else i))
  | _ => none
theorem rc_max : RCall K (fun xs H Q => ∃ i j, xs = [.int i, .int j] ∧ Q (.int (if j > i then j else i)) H) maxD := by
  intro Hf H vs xs z e hx h Q q
  unfold maxD at h
  split at h
  · cases h
    obtain ⟨v, u, rfl, hv, hu⟩ := hx.two
    obtain rfl := hv.int
    obtain rfl := hu.int
    exact ⟨_, _, rfl, q _ Hf H (Pg.refl e) (.int _)⟩
  · cases h
theorem rc_min : RCall K (fun xs H Q => ∃ i j, xs = [.int i, .int j] ∧ Q (.int (if j < i then j else i)) H) minD := by
  intro Hf H vs xs z e hx h Q q
  unfold minD at h
  split at h
  · cases h
    obtain ⟨v, u, rfl, hv, hu⟩ := hx.two
    obtain rfl := hv.int
    obtain rfl := hu.int
    exact ⟨_, _, rfl, q _ Hf H (Pg.refl e) (.int _)⟩
  · cases h
/-! ### sorted(texts) -/
def leS (a b : Str) : Bool := !ltCps b.cps.toList a.cps.toList
def insS (x : Str) : List Str → List Str
  | [] => [x]
  | y :: r => if leS x y = true then x :: y :: r else y :: insS x r
def sortS : List Str → List Str
  | [] => []
  | x :: r => insS x (sortS r)
theorem insS_perm (x : Str) : ∀ l, (insS x l).Perm (x :: l)
  | [] => .refl _
  | y :: r => by
    unfold insS
    split
    · exact .refl _
    · exact ((insS_perm x r).cons y).trans (.swap x y r)
theorem sortS_perm : ∀ l, (sortS l).Perm l
  | [] => .refl _
  | x :: r => (insS_perm x (sortS r)).trans ((sortS_perm r).cons x)
theorem ltCps_iff (a b : List Nat) : ltCps a b = true ↔ a < b := by
  rw [PyProof.Rows.ltCps_eq, decide_eq_true_eq]
theorem leS_iff (a b : Str) : leS a b = true ↔ a.cps.toList ≤ b.cps.toList := by
  unfold leS
  rw [Bool.not_eq_true', ← Bool.not_eq_true, ltCps_iff]
  exact Iff.rfl
theorem leS_total (a b : Str) : leS a b = true ∨ leS b a = true := by
  rw [leS_iff, leS_iff]
  exact List.le_total _ _
theorem leS_trans {a b c : Str} (h : leS a b = true) (g : leS b c = true) : leS a c = true := by
  rw [leS_iff] at *
  exact List.le_trans h g
theorem leS_anti {a b : Str} (h : leS a b = true) (g : leS b a = true) : a = b := by
  rw [leS_iff] at *
  have : a.cps.toList = b.cps.toList := List.le_antisymm h g
  obtain ⟨x⟩ := a
  obtain ⟨y⟩ := b
  have : x = y := Array.ext' this
  rw [this]
theorem insS_sorted (x : Str) : ∀ {l : List Str}, l.Pairwise (fun a b => leS a b = true) → (insS x l).Pairwise (fun a b => leS a b = true)
  | [], _ => List.pairwise_singleton _ _
  | y :: r, h => by
    unfold insS
    rw [List.pairwise_cons] at h
    split
    · rename_i hxy
      refine List.pairwise_cons.mpr ⟨fun z hz => ?_, List.pairwise_cons.mpr h⟩
      rcases List.mem_cons.mp hz with rfl | hz
      · exact hxy
      · exact leS_trans hxy (h.1 z hz)
    · rename_i hxy
      refine List.pairwise_cons.mpr ⟨fun z hz => ?_, insS_sorted x h.2⟩
      rcases List.mem_cons.mp ((insS_perm x r).mem_iff.mp hz) with rfl | hz
      · exact (leS_total z y).resolve_left hxy
      · exact h.1 z hz
theorem sortS_sorted : ∀ l, (sortS l).Pairwise (fun a b => leS a b = true)
  | [] => .nil
  | x :: r => insS_sorted x (sortS_sorted r)
theorem rising_pw : ∀ (l : List Str) (p : Str), PyProof.Rows.risingS p l = true → (p :: l).Pairwise (fun a b => leS a b = true)
  | [], p, _ => List.pairwise_singleton _ _
  | x :: r, p, h => by
    simp only [PyProof.Rows.risingS, Bool.and_eq_true] at h
    have ih := rising_pw r x h.2
    have hpx : leS p x = true := h.1
    refine List.pairwise_cons.mpr ⟨fun z hz => ?_, ih⟩
    rcases List.mem_cons.mp hz with rfl | hz
    · exact hpx
    · exact leS_trans hpx ((List.pairwise_cons.mp ih).1 z hz)
theorem sorted_unique {xs ys : List Str} (p : ys.Perm xs) (s : PyProof.Rows.sortedS ys = true) : ys = sortS xs := by
  refine List.Perm.eq_of_pairwise (le := fun a b => leS a b = true) (fun a b _ _ h g => leS_anti h g) ?_ (sortS_sorted xs) (p.trans (sortS_perm xs).symm)
  cases ys with
  | nil => exact .nil
  | cons y r => exact rising_pw r y s
def sortedD : List Pd → Option (List Pd)
  | [.list xs] => match strsD xs with
    | some ys => if ys.length < 64 then some ((sortS ys).map .str) else none
    | none => none
  | _ => none
theorem RDs.strs {H : Hp} : ∀ (ys : List Str), RDs K H (ys.map V.str) (ys.map PyData.str)
  | [] => .nil
  | y :: ys => .cons (.str y) (RDs.strs ys)
theorem rcl_sorted : RCallL K (rSortedS K) sortedD := by
  intro Hf H vs xs z e hx h Q q
  unfold sortedD at h
  split at h
  · rename_i us
    split at h
    · rename_i ys es
      split at h
      · rename_i hl
        cases h
        obtain ⟨v, rfl, hv⟩ := hx.one
        obtain ⟨l, ws, rfl, t, r⟩ := hv.list e
        obtain rfl := strs_ok r es
        refine ⟨l, ys, rfl, t, hl, fun zs p pm so np => ?_⟩
        rw [sorted_unique pm so]
        exact q p _ _ (e.trans (Ex.new np)) (Ex.new np) np upd_same (RDs.strs _)
      · cases h
    · cases h
  · cases h
/-! ### * of a text, a tuple, a list with an int -/
def mulA : Pd → Pd → Option Pd
  | .int i, .int j => if mulOk i j = true then some (.int (i * j)) else none
  | .str a, .int n => if 0 ≤ n ∧ n ≤ 1000 ∧ a.length ≤ 1000 then some (.str (Txt.mul a n)) else none
  | .tuple xs, .int n => if n = 1 then some (.tuple xs) else if xs ≠ [] ∧ 2 ≤ n ∧ n ≤ 1000 ∧ xs.length ≤ 1000 then some (.tuple (List.replicate n.toNat xs).flatten) else none
  | .list xs, .int n => if 0 ≤ n ∧ n ≤ 1000 ∧ xs.length ≤ 1000 then some (.list (List.replicate n.toNat xs).flatten) else none
  | _, _ => none
def rMulS : R2 := fun x y H Q => ∃ a n, x = .str a ∧ y = .int n ∧ MulOk a n ∧ Q (.str (Txt.mul a n)) H
theorem op_mulS {X : Cx} : OpR X (binaryOp .Mult) rMulS := by
  intro pins s σ H x y v u Q I rx ry h
  obtain ⟨a, n, rfl, rfl, hm, q⟩ := h
  obtain ⟨t, rfl⟩ := rx
  obtain ⟨t2, rfl⟩ := ry
  exact SB.mul hm fun t' k => ⟨.str _, H, I.tok k, ⟨_, rfl⟩, q⟩
theorem mulOk_str {a : Str} {n : Int} (h0 : 0 ≤ n) (h1 : n ≤ 1000) (ha : a.length ≤ 1000) : MulOk a n := by
  refine ⟨?_, fun h _ => ?_, fun _ _ => ?_⟩
  · rw [decide_eq_false (by omega), decide_eq_false (by omega)]
    rfl
  · have hn : 1 ≤ n := by omega
    intro z
    have : (2 ^ 63 - 1) / n ≥ (2 ^ 63 - 1) / 1000 := by
      have h3 : (1000 : Int) * ((2 ^ 63 - 1) / 1000) ≤ 2 ^ 63 - 1 := by decide
      have h4 : 0 ≤ ((2 ^ 63 - 1) / 1000 : Int) := by decide
      refine (Int.le_ediv_iff_mul_le (by omega)).mpr ?_
      refine Int.le_trans ?_ h3
      rw [Int.mul_comm]
      exact Int.mul_le_mul_of_nonneg_right h1 h4
    have h5 : ((2 ^ 63 - 1) / 1000 : Int) > 1000 := by decide
    omega
  · have hm : a.length * n.toNat ≤ 1000 * 1000 := Nat.mul_le_mul ha (by omega)
    show decide (_ > _) = false
    refine decide_eq_false ?_
    show ¬ (_ > sizeLine)
    simp only [sizeLine]
    omega
abbrev rMulA (K : PySem.W.Frag) : R2 := fun x y H Q => rI IntMulOk (fun i j => .int (i * j)) x y H Q ∨ rMulS x y H Q ∨ rRepT K x y H Q
theorem kMul {X : Cx} (K : PySem.W.Frag) (hK : X.K = K := by rfl) : OpR X (binaryOp .Mult) (rMulA K) := by
  subst hK
  exact op_mulG.or (op_mulS.or op_repT)
/-- what is served: ints, texts, tuples twice or more -/
def mulB : Pd → Pd → Option Pd
  | .int i, .int j => if mulOk i j = true then some (.int (i * j)) else none
  | .str a, .int n => if 0 ≤ n ∧ n ≤ 1000 ∧ a.length ≤ 1000 then some (.str (Txt.mul a n)) else none
  | .tuple xs, .int n => if xs ≠ [] ∧ 2 ≤ n ∧ n ≤ 1000 ∧ xs.length ≤ 1000 then some (.tuple (List.replicate n.toNat xs).flatten) else none
  | _, _ => none
theorem RDs.reps {H : Hp} {vs : List V} {xs : List Pd} (r : RDs K H vs xs) : ∀ n : Nat, RDs K H (List.replicate n vs).flatten (List.replicate n xs).flatten
  | 0 => .nil
  | n + 1 => by
    rw [List.replicate_succ, List.replicate_succ, List.flatten_cons, List.flatten_cons]
    exact r.append (RDs.reps r n)
theorem ro_mulB : ROp K (rMulA K) mulB := by
  intro Hf H x y dx dy z e hx hy h Q q
  unfold mulB at h
  split at h
  · split at h
    · rename_i hm
      cases h
      exact .inl ⟨_, _, hx.int, hy.int, mulOk_ok hm, q _ Hf H (Pg.refl e) (.int _)⟩
    · cases h
  · split at h
    · rename_i hm
      cases h
      exact .inr (.inl ⟨_, _, hx.str, hy.int, mulOk_str hm.1 hm.2.1 hm.2.2, q _ Hf H (Pg.refl e) (.str _)⟩)
    · cases h
  · split at h
    · rename_i xs n hm
      cases h
      obtain ⟨l, vs, rfl, t1, t2, r1⟩ := hx.tuple e
      refine .inr (.inr ⟨l, _, vs, rfl, hy.int, t2, fun z => ?_, hm.2.1, hm.2.2.1, by rw [r1.length]; exact hm.2.2.2, fun p np => ?_⟩)
      · subst z
        cases r1
        exact hm.1 rfl
      · have g := Pg.new (o := .tup (List.replicate n.toNat vs).flatten) e np
        exact q _ _ _ g (.tup (st_of upd_same) ((r1.reps _).mono g.ef))
    · cases h
  · cases h
/-! ### list(text), tuple(text) -/
theorem sign_vals {x : Str} {acc : Array Value} (h : ItemsOf (SignAt x) acc x.cps.size) : Vals (x.cps.toList.map fun c => V.str ⟨#[c]⟩) acc.toList := by
  have hl : acc.toList.length = x.cps.toList.length := by simp [h.1]
  have all : ∀ (j : Nat) v, acc.toList[j]? = some v → ∃ c u, x.cps.toList[j]? = some c ∧ v = .str ⟨#[c]⟩ u := fun j v e => by
    rw [Array.getElem?_toList] at e
    obtain ⟨c, u, h1, h2⟩ := h.2 j v e
    exact ⟨c, u, by rw [Array.getElem?_toList]; exact h1, h2⟩
  revert hl all
  generalize x.cps.toList = cs
  generalize acc.toList = vs
  induction cs generalizing vs with
  | nil =>
    intro hl _
    cases vs with
    | nil => exact .nil
    | cons _ _ => simp at hl
  | cons c cs ih =>
    intro hl all
    cases vs with
    | nil => simp at hl
    | cons v vs =>
      obtain ⟨c', u, e1, e2⟩ := all 0 v rfl
      have e1 : c = c' := Option.some.inj e1
      subst e1
      exact .cons ⟨u, e2⟩ (ih vs (by simpa using hl) fun j w e => all (j + 1) w e)
def rListTx : List V → Hp → VK → Prop := fun xs H Q => ∃ z, xs = [.str z] ∧ z.length ≤ sizeLine ∧ ∀ l, H l = none → Q (.ref l) (upd H l (.lst (z.cps.toList.map fun c => V.str ⟨#[c]⟩)))
theorem call_listTx {X : Cx} (hc : X.calm = true) : CallR X (.type "list") rListTx := by
  intro pins s σ H xs us Q I r h
  obtain ⟨z, rfl, hz, q⟩ := h
  cases r with
  | cons r1 r2 =>
    cases r2
    obtain ⟨t, rfl⟩ := r1
    refine PySem.call_list_str (I.ok.hd hc) z t (hn := hz) fun h' tk acc c hk hS hacc => ?_
    have rv := sign_vals hacc
    refine ⟨.ref s.heap.objs.size, _, I.laid (a := s.heap.objs.size) (o := .lst (z.cps.toList.map fun c => V.str ⟨#[c]⟩)) (t' := tk) hk (Nat.le_refl _) ?_, rfl, q _ I.fresh⟩
    exact ⟨by rw [List.length_map, Array.length_toList]; exact hz, acc.toList, c, rv, by simpa using hS⟩
def rTupTx : List V → Hp → VK → Prop := fun xs H Q => ∃ z, xs = [.str z] ∧ z.length ≤ sizeLine ∧ ∀ l, H l = none → Q (.ref l) (upd H l (.tup (z.cps.toList.map fun c => V.str ⟨#[c]⟩)))
theorem call_tupTx {X : Cx} (hc : X.calm = true) : CallR X (.type "tuple") rTupTx := by
  intro pins s σ H xs us Q I r h
  obtain ⟨z, rfl, hz, q⟩ := h
  cases r with
  | cons r1 r2 =>
    cases r2
    obtain ⟨t, rfl⟩ := r1
    refine PySem.call_tuple_str (I.ok.hd hc) z t (hsz := hz) fun h' tk acc hk hacc => ?_
    have rv := sign_vals hacc
    have I1 : L2.Inv X pins σ H { s with heap := h', toks := tk } := I.kept hk
    refine ⟨.ref h'.objs.size, _, I1.laid (a := h'.objs.size) (o := .tup (z.cps.toList.map fun c => V.str ⟨#[c]⟩)) (t' := tk) (fun b o e => Heap.get?_push_of_some _ e) (Nat.le_refl _) ?_, rfl, q _ (I1.hok.fresh (Nat.le_refl _))⟩
    exact ⟨by rw [List.length_map, Array.length_toList]; exact hz, acc.toList, rv, ⟨_, Heap.get?_push_size _ rfl, rfl, 0, by simp⟩⟩
theorem RDs.signs {H : Hp} : ∀ (cs : List Nat), RDs K H (cs.map fun c => V.str ⟨#[c]⟩) (cs.map fun c => PyData.str ⟨#[c]⟩)
  | [] => .nil
  | c :: cs => .cons (.str _) (RDs.signs cs)
/-- list(x), tuple(x) of a list, a tuple, a text -/
def listA : List Pd → Option (List Pd)
  | [.list xs] => some xs
  | [.tuple xs] => some xs
  | [.str z] => if z.length ≤ sizeLine then some (chars z) else none
  | _ => none
abbrev rListB (K : PySem.W.Frag) : List V → Hp → VK → Prop := fun xs H Q => rListA K xs H Q ∨ rListTx xs H Q
theorem kListB {X : Cx} (K : PySem.W.Frag) (hc : X.calm = true) (hK : X.K = K := by rfl) : CallR X (.type "list") (rListB K) := by
  subst hK
  exact call_list_of.or (call_listTx hc)
theorem rcl_listA : RCallL K (rListB K) listA := by
  intro Hf H vs xs z e hx h Q q
  unfold listA at h
  split at h
  · exact .inl (rcl_list Hf H vs _ z e hx h Q q)
  · exact .inl (rcl_list Hf H vs _ z e hx h Q q)
  · split at h
    · rename_i hz
      cases h
      obtain ⟨v, rfl, hv⟩ := hx.one
      obtain rfl := hv.str
      exact .inr ⟨_, rfl, hz, fun p np => q p _ _ (e.trans (Ex.new np)) (Ex.new np) np upd_same (RDs.signs _)⟩
    · cases h
  · cases h
def tupleA : List Pd → Option Pd
  | [.list xs] => some (.tuple xs)
  | [.tuple xs] => some (.tuple xs)
  | [.str z] => if z.length ≤ sizeLine then some (.tuple (chars z)) else none
  | _ => none
abbrev rTupleB (K : PySem.W.Frag) : List V → Hp → VK → Prop := fun xs H Q => rTupleA K xs H Q ∨ rTupTx xs H Q
theorem kTupleB {X : Cx} (K : PySem.W.Frag) (hc : X.calm = true) (hK : X.K = K := by rfl) : CallR X (.type "tuple") (rTupleB K) := by
  subst hK
  exact call_tuple_of.or (call_tupTx hc)
theorem rc_tupleA : RCall K (rTupleB K) tupleA := by
  intro Hf H vs xs z e hx h Q q
  unfold tupleA at h
  split at h
  · exact .inl (rc_tuple Hf H vs _ z e hx h Q q)
  · exact .inl (rc_tuple Hf H vs _ z e hx h Q q)
  · split at h
    · rename_i w hz
      cases h
      obtain ⟨v, rfl, hv⟩ := hx.one
      obtain rfl := hv.str
      refine .inr ⟨_, rfl, hz, fun p np => ?_⟩
      have g := Pg.new (o := .tup (w.cps.toList.map fun c => V.str ⟨#[c]⟩)) e np
      exact q _ _ _ g (.tup (st_of upd_same) (RDs.signs _))
    · cases h
  · cases h
theorem kSorted {X : Cx} (K : PySem.W.Frag) (hK : X.K = K := by rfl) : CallR X (.builtin "sorted") (rSortedS K) := by subst hK; exact cr_sortedS
end
/-! ### zip of two lists or two tuples -/
theorem dlv_zipT {K : PySem.W.Frag} {Hf : Hp} {a b : Addr} {vs us : List V} {xs ys : List Pd} (h : SqT K Hf a vs) (r : RDs K Hf vs xs) (h2 : SqT K Hf b us) (r2 : RDs K Hf us ys) : Dlv K (ItzT K a b) Hf ((xs.zip ys).map fun p => .tuple [p.1, p.2]) := by
  intro i Hf' H' e1 e2
  have hs : SqT K H' a vs := ex_t (e1.trans e2) h
  have hs2 : SqT K H' b us := ex_t (e1.trans e2) h2
  have l1 := r.length
  have l2 := r2.length
  refine ⟨fun hi => ?_, fun hi => ?_, fun v H'' hy x hx => ?_⟩
  · rw [List.length_map, List.length_zip] at hi
    obtain ⟨v, e, _⟩ := r.get (List.getElem?_eq_getElem (show i < xs.length by omega))
    obtain ⟨u, e', _⟩ := r2.get (List.getElem?_eq_getElem (show i < ys.length by omega))
    exact ⟨vs, us, v, u, hs, hs2, e, e'⟩
  · rw [List.length_map, List.length_zip] at hi
    exact ⟨vs, us, hs, hs2, by omega⟩
  · obtain ⟨T, x1, x2, rfl, nT, rfl, f1, f2⟩ := hy
    obtain ⟨d1, g1, rd1⟩ := r.get' (f1 vs hs)
    obtain ⟨d2, g2, rd2⟩ := r2.get' (f2 us hs2)
    have : x = .tuple [d1, d2] := by
      have z : (xs.zip ys)[i]? = some (d1, d2) := by
        rw [List.getElem?_zip_eq_some]; exact ⟨g1, g2⟩
      rw [List.getElem?_map, z] at hx
      cases hx
      rfl
    subst this
    have g := Pg.new (o := .tup [x1, x2]) e2 nT
    exact ⟨_, g, .tup (st_of upd_same) (.cons ((rd1.mono e1).mono g.ef) (.cons ((rd2.mono e1).mono g.ef) .nil))⟩
section
variable {Z : Zx} {W : WX}
def zipK : List AV → Option (List Pd)
  | [.d (.list xs), .d (.list ys)] => some ((xs.zip ys).map fun p => .tuple [p.1, p.2])
  | [.d (.tuple xs), .d (.tuple ys)] => some ((xs.zip ys).map fun p => .tuple [p.1, p.2])
  | _ => none
def fZip (f : Rho → R (List AV)) : Rho → R (List Pd) := fun ρ => (f ρ).bind fun as ρ1 => match zipK as with
  | some xs => .ok xs ρ1
  | none => .bad
theorem i_zip {t : TA} {f : Rho → R (List AV)} (h : DA Z W t f) : DI Z W (iZipA Z.K t) (fZip f) := by
  intro Hf H O σ ρ s Q p
  refine h.bind s p fun as ρ1 vs Hf1 H1 s1 g1 k1 rs p1 => ?_
  cases e : zipK as with
  | none => rw [e] at p1; exact p1.elim
  | some zs =>
    rw [e] at p1
    unfold zipK at e
    split at e
    · cases e
      cases rs with
      | cons r1 r2 =>
        cases r2 with
        | cons r2 r3 =>
          cases r3
          cases r1 with
          | lst a1 a2 =>
            cases r2 with
            | lst b1 b2 => exact ⟨_, _, _, _, rfl, .inl ⟨ex_l s1.ex a1, ex_l s1.ex b1, p1 Hf1 H1 s1 Gr.refl Kp.refl _ (dlv_zip a1 a2 b1 b2)⟩⟩
    · cases e
      cases rs with
      | cons r1 r2 =>
        cases r2 with
        | cons r2 r3 =>
          cases r3
          cases r1 with
          | tup a1 a2 =>
            cases r2 with
            | tup b1 b2 => exact ⟨_, _, _, _, rfl, .inr ⟨ex_t s1.ex a1, ex_t s1.ex b1, p1 Hf1 H1 s1 Gr.refl Kp.refl _ (dlv_zipT a1 a2 b1 b2)⟩⟩
    · cases e
/-! ### a call that reads owned lists: what comes is flat -/
def flatL (xs : List Pd) : Bool := xs.all flatD
theorem RDs.flatL {K : PySem.W.Frag} {H H' : Hp} : ∀ {vs : List V} {xs : List Pd}, RDs K H vs xs → Dt.flatL xs = true → RDs K H' vs xs
  | _, _, .nil, _ => .nil
  | _, _, .cons h hs, f => by
    simp only [Dt.flatL, List.all_cons, Bool.and_eq_true] at f
    exact .cons (h.flat f.1) (RDs.flatL hs f.2)
/-- the heap with all owned lists but one frozen -/
noncomputable def lentH (Hf H : Hp) (O : Addr → Prop) (l : Option Addr) : Hp := fun a => by
  classical
  exact if O a ∧ some a ≠ l then H a else Hf a
theorem lent_ex {K : PySem.W.Frag} {Hf H : Hp} {O : Addr → Prop} {σ : L2.St} {ρ : Rho} (s : SR K Hf H O σ ρ) (l : Option Addr) : Ex Hf (lentH Hf H O l) ∧ Ex (lentH Hf H O l) H := by
  refine ⟨fun a o h => ?_, fun a o h => ?_⟩
  · unfold lentH
    rw [if_neg fun z => by rw [(s.otr a z.1).2] at h; cases h]
    exact h
  · unfold lentH at h
    split at h
    · exact h
    · exact s.ex a o h
theorem RX.lent {K : PySem.W.Frag} {Hf H : Hp} {O : Addr → Prop} {σ : L2.St} {ρ : Rho} (s : SR K Hf H O σ ρ) {l : Option Addr} {v : V} {a : AV} {x : Pd} (h : RA K Hf σ v a) (e : res ρ a = some x) (hne : ∀ i b xs, a = .sl i → ρ[i]? = some (.own b xs) → ∀ m, l = some m → σ[i]? ≠ some (some (.ref m))) : RD K (lentH Hf H O l) v x := by
  have ex := lent_ex s l
  cases a with
  | d y => cases e; exact RD.mono ex.1 h
  | sl i =>
    simp only [res] at e
    cases q : ρ[i]? with
    | none => rw [q] at e; cases e
    | some z =>
      rw [q] at e
      cases z with
      | no => cases e
      | x _ => cases e
      | d y =>
        cases e
        obtain ⟨u, h1, h2⟩ := s.slot i _ q
        rw [show σ[i]? = some (some v) from h] at h1
        cases h1
        exact h2.mono ex.1
      | own b xs =>
        cases e
        obtain ⟨m, vs, h1, h2, h3, h4⟩ := s.own i b xs q
        have hm := hne i b xs rfl q
        rw [show σ[i]? = some (some v) from h] at h1
        cases h1
        refine .lst (sq_of ?_) (h4.mono ex.1)
        unfold lentH
        rw [if_pos ⟨h2, fun z => hm m z.symm (by rw [show σ[i]? = some (some (.ref m)) from h])⟩]
        exact h3
def noSl (i : Nat) : List AV → Bool
  | [] => true
  | .sl j :: as => decide (j ≠ i) && noSl i as
  | .d _ :: as => noSl i as
theorem lent_args {K : PySem.W.Frag} {Hf H : Hp} {O : Addr → Prop} {σ : L2.St} {ρ : Rho} (s : SR K Hf H O σ ρ) {i : Nat} {b : Bool} {ps : List Pd} (ei : ρ[i]? = some (.own b ps)) {l : Addr} (hl : σ[i]? = some (some (.ref l))) :
    ∀ {vs : List V} {as : List AV} {xs : List Pd}, RAs K Hf σ vs as → ress ρ as = some xs → noSl i as = true → RDs K (lentH Hf H O (some l)) vs xs
  | _, _, _, .nil, e, _ => by cases e; exact .nil
  | _, _, _, .cons (a := a) (as := as) h hs, e, n => by
    simp only [ress] at e
    cases q : res ρ a with
    | none => rw [q] at e; cases e
    | some y =>
      cases q2 : ress ρ as with
      | none => rw [q, q2] at e; cases e
      | some ys =>
        rw [q, q2] at e
        cases e
        have n2 : noSl i as = true := by
          cases a with
          | d z => exact n
          | sl j =>
            simp only [noSl, Bool.and_eq_true] at n
            exact n.2
        refine .cons (RX.lent s h q fun j c us ea ej m em hj => ?_) (lent_args s ei hl hs q2 n2)
        subst ea
        cases em
        simp only [noSl, Bool.and_eq_true, decide_eq_true_eq] at n
        exact n.1 (s.dis j i c b us ps l ej ei hj hl)
def kCallPB (n i : Nat) (g : Rho → R RV) (as : List AV) (ρ1 : Rho) : R AV :=
  if noSl i as = true ∧ as.length = n then match ress ρ1 as, ρ1[i]? with
    | some xs, some (.own b ps) => match g (.own true ps :: xs.map Sl.d) with
      | .ok (.d x) (.own _ ps' :: _) => if flatD x = true ∧ flatL ps' = true then .ok (.d x) (ρ1.set i (.own b ps')) else .bad
      | _ => .bad
    | _, _ => .bad
  else .bad
/-- f(x, e, ..): the list of the slot i is changed, other owned lists are read; flat data come -/
def fCallPB (n i : Nat) (g : Rho → R RV) (fa : Rho → R (List AV)) : Rho → R AV := fun ρ => match ρ[i]? with
  | some (.own _ _) => (fa ρ).bind fun as ρ1 => kCallPB n i g as ρ1
  | _ => .bad
theorem RAs.length {K : PySem.W.Frag} {Hf : Hp} {σ : L2.St} : ∀ {vs : List V} {as : List AV}, RAs K Hf σ vs as → vs.length = as.length
  | _, _, .nil => rfl
  | _, _, .cons _ hs => congrArg Nat.succ (RAs.length hs)
theorem d_callPB {n i : Nat} {g : Rho → R RV} {t : TA} {fa : Rho → R (List AV)} (ha : DA Z W t fa) : DE Z W (tCallS (spF Z (n + 1) g) (WE W) (tCons (tVar i) t)) (fCallPB n i g fa) := by
  intro Hf H O σ ρ s Q p
  unfold fCallPB at p
  cases e0 : ρ[i]? with
  | none => rw [e0] at p; exact p.elim
  | some z0 =>
    rw [e0] at p
    cases z0 with
    | no => exact p.elim
    | x _ => exact p.elim
    | d y => exact p.elim
    | own b0 ps0 =>
      simp only at p
      obtain ⟨l, vs0, h1, h2, h3, h4⟩ := s.own i b0 ps0 e0
      refine ⟨.ref l, h1, ?_⟩
      refine ha.bind s p fun as ρ1 vs Hf1 H1 s1 g1 k1 rs p1 => ?_
      unfold kCallPB at p1
      by_cases hc : noSl i as = true ∧ as.length = n
      case neg => rw [if_neg hc] at p1; exact p1.elim
      rw [if_pos hc] at p1
      cases ed : ress ρ1 as with
      | none => rw [ed] at p1; exact p1.elim
      | some xs =>
        cases e1 : ρ1[i]? with
        | none => rw [ed, e1] at p1; exact p1.elim
        | some z1 =>
          rw [ed, e1] at p1
          cases z1 with
          | no => exact p1.elim
          | x _ => exact p1.elim
          | d y => exact p1.elim
          | own b ps =>
            simp only at p1
            obtain ⟨l', us1, m1, m2, m3, m4⟩ := s1.own i b ps e1
            rw [h1] at m1
            cases m1
            have ex := lent_ex s1 (some l)
            have r := lent_args s1 e1 h1 rs ed hc.1
            have hfl : Hf1 l = none := (s1.otr l m2).2
            have hcl : lentH Hf1 H1 O (some l) l = none := by
              unfold lentH
              rw [if_neg fun z => z.2 rfl]
              exact hfl
            have ra := r.args ex.2
            have sc : SR Z.K (lentH Hf1 H1 O (some l)) H1 (fun a => a = l) ((V.ref l :: vs).map some) (.own true ps :: xs.map Sl.d) := by
              refine ⟨ex.2, fun a h => ?_, by simp [r.length], fun j x h => ?_, fun j c x h => ?_, fun j k c d x y m a1 a2 _ _ => ?_, fun j e' h => ?_⟩
              · subst h
                exact ⟨⟨_, m3⟩, hcl⟩
              · cases j with
                | zero => cases h
                | succ j => exact ra.slot j x h
              · cases j with
                | zero => cases h; exact ⟨l, us1, rfl, rfl, m3, m4.mono ex.1⟩
                | succ j => obtain ⟨_, _, _, z, _⟩ := ra.own j c x h; exact z.elim
              · cases j with
                | succ j => obtain ⟨_, _, _, z, _⟩ := ra.own j c x a1; exact z.elim
                | zero =>
                  cases k with
                  | zero => rfl
                  | succ k => obtain ⟨_, _, _, z, _⟩ := ra.own k d y a2; exact z.elim
              · cases j with
                | zero => cases h
                | succ j => exact ra.exc j e' h
            refine ⟨by simp [RAs.length rs, hc.2], lentH Hf1 H1 O (some l), fun a => a = l, .own true ps :: xs.map Sl.d, sc, ioArgsP, ?_⟩
            cases eg : g (.own true ps :: xs.map Sl.d) with
            | bad => rw [eg] at p1; exact p1.elim
            | ex y as' => rw [eg] at p1; exact p1.elim
            | ok rv as' =>
              rw [eg] at p1
              cases rv with
              | l ys => exact p1.elim
              | d y =>
                match as', p1 with
                | [], p1 => exact p1.elim
                | .no :: _, p1 => exact p1.elim
                | .x _ :: _, p1 => exact p1.elim
                | .d _ :: _, p1 => exact p1.elim
                | .own c ps' :: as'', p1 =>
                  by_cases hff : flatD y = true ∧ flatL ps' = true
                  case neg =>
                    simp only [if_neg hff] at p1
                    exact p1.elim
                  simp only [if_pos hff] at p1
                  intro v Hf' H' s' g' rd
                  obtain ⟨l1, us', q1, q2, q3, q4⟩ := s'.own 0 c ps' rfl
                  subst q2
                  have hi := (List.getElem?_eq_some_iff.mp e1).1
                  have sb : SR Z.K Hf1 H' O σ (ρ1.set i (.own b ps')) := by
                    refine ⟨fun a o h => ?_, fun a h => ?_, by simp [s1.len], fun j x h => ?_, fun j d x h => ?_, fun j k d d' x y m a1 a2 a3 a4 => ?_, fun j e' h => ?_⟩
                    · exact g'.fm a o (s1.ex a o h) fun z => by rw [z, hfl] at h; cases h
                    · obtain ⟨⟨o, t1⟩, t2⟩ := s1.otr a h
                      exact ⟨g'.tr a o t1, t2⟩
                    · by_cases z : i = j
                      · subst z
                        rw [List.getElem?_set_self hi] at h
                        cases h
                      · rw [List.getElem?_set_ne z] at h
                        exact s1.slot j x h
                    · by_cases z : i = j
                      · subst z
                        rw [List.getElem?_set_self hi] at h
                        cases h
                        exact ⟨l1, us', h1, m2, q3, q4.flatL hff.2⟩
                      · rw [List.getElem?_set_ne z] at h
                        obtain ⟨k, ws, b1, b2, b3, b4⟩ := s1.own j d x h
                        exact ⟨k, ws, b1, b2, g'.fm _ _ b3 fun z2 => z (s1.dis i j b d ps x l1 e1 h h1 (by rw [← z2]; exact b1)), b4⟩
                    · have back : ∀ {j : Nat} {d x}, (ρ1.set i (.own b ps'))[j]? = some (.own d x) → ∃ d x, ρ1[j]? = some (.own d x) := fun {j d x} q => by
                        by_cases z : i = j
                        · subst z; exact ⟨b, ps, e1⟩
                        · rw [List.getElem?_set_ne z] at q; exact ⟨d, x, q⟩
                      obtain ⟨c1, x1, a1⟩ := back a1
                      obtain ⟨c2, x2, a2⟩ := back a2
                      exact s1.dis j k c1 c2 x1 x2 m a1 a2 a3 a4
                    · by_cases z : i = j
                      · subst z
                        rw [List.getElem?_set_self hi] at h
                        cases h
                      · rw [List.getElem?_set_ne z] at h
                        exact s1.exc j e' h
                  exact p1 Hf1 H' sb ⟨Ex.refl _, fun a o h n => g'.fm a o h fun z => n (by rw [z]; exact m2), g'.tr, fun a o h => .inl h⟩ (kp_chg e1) v (rd.flat hff.1)
end
/-! ### walks and targets, the written part by its name -/
section
variable {X : Cx} {tg l : Expr}
theorem kPiList (K : PySem.W.Frag) {tl : TE} (hl : PE X l tl) (hK : X.K = K := by rfl) : PI X tg l (iList K tl) := by subst hK; exact pi_list hl
theorem kPiTup (K : PySem.W.Frag) {tl : TE} (hl : PE X l tl) (hK : X.K = K := by rfl) : PI X tg l (iTup K tl) := by subst hK; exact pi_tup hl
theorem kPiZip (K : PySem.W.Frag) {e e2 : Expr} {ta : TA} {p pos tpos : Pos} {elts : List Expr} {kk : Nat} (hg : Gl X "zip") (hm : X.mg "zip" = none) (ha : PA X [e, e2] ta)
    (hs : starEach [e, e2] X.env = (false, eval e X.env) :: starEach [e2] X.env := by rfl) (hpl : (backTo pos (starEach [e2] X.env)).any (·.1) = false := by rfl) (hK : X.K = K := by rfl) :
    PI X (.Tuple elts kk tpos) (.Call (.Name "zip" p) [e, e2] [] pos) (iZipA K ta) := by subst hK; exact pi_zipA hg hm ha hs hpl
theorem kgTup (K : PySem.W.Frag) {es : List Expr} {k n : Nat} {pos : Pos} {t : TGs} (hc : X.calm = true) (h : PGs X es t) (hn : (assignEach es X.env).length = n := by rfl) (hst : (assignEach es X.env).findIdx? (·.1) = none := by rfl) (hK : X.K = K := by rfl) :
    PG X (.Tuple es k pos) (gTup K n t) := by subst hK; exact pg_tup hc h hn hst
end
/-! ### x[0], y = divmod(x[0], e): an owned list of one number -/
section
variable {Z : Zx} {W : WX}
abbrev rDivmod : List V → Hp → VK → Prop := fun xs H Q => ∃ i j, xs = [.int i, .int j] ∧ CDiv i j ∧ ∀ p, H p = none → Q (.ref p) (upd H p (.tup [.int (i / j), .int (i % j)]))
/-- the slot i holds the list, the slot j takes the rest -/
def fTake (i j : Nat) (fe : Rho → R AV) : Rho → R Fl := fun ρ => match ρ[i]? with
  | some (.own _ [.int n]) => (fe ρ).bind fun a ρ1 => match a, ρ1[i]? with
    | .d (.int m), some (.own b [_]) => if 0 < m ∧ m < 1073741824 then
        match put j (.int (n % m)) (ρ1.set i (.own b [.int (n / m)])) with
        | some ρ2 => .ok .nx ρ2
        | none => .bad
      else .bad
    | _, _ => .bad
  | _ => .bad
theorem s_take {i j : Nat} {te : TE} {fe : Rho → R AV} (he : DE Z W te fe) :
    DS Z W (tAsg (tCB rDivmod (tCons (tOp (rIx Z.K) (tVar i) (tC (.int 0))) (tCons te tNil))) (gTup Z.K 2 (gCons (gSub (tVar i) (tC (.int 0)) rSetL) (gCons (gName j) gNil)))) (fTake i j fe) := by
  intro Hf H O σ ρ s En p
  unfold fTake at p
  split at p
  case h_2 => exact p.elim
  rename_i b0 n0 e0
  obtain ⟨l, vs, h1, h2, h3, h4⟩ := s.own i b0 _ e0
  cases h4 with
  | cons r0 rn =>
    cases rn
    cases r0
    -- x[0]
    refine ⟨.ref l, h1, .inl ⟨l, _, 0, .int n0, rfl, rfl, sq_of h3, rfl, ?_⟩⟩
    refine DJ.bindS he s p fun a ρ1 v Hf1 H1 s1 g1 k1 rv p1 => ?_
    split at p1
    case h_2 => exact p1.elim
    rename_i m b x e1
    cases rv
    by_cases hm : 0 < m ∧ m < 1073741824
    case neg => rw [if_neg hm] at p1; exact p1.elim
    rw [if_pos hm] at p1
    refine ⟨n0, m, rfl, hm, fun t nt => ?_⟩
    obtain ⟨l', us, q1, q2, q3, q4⟩ := s1.own i b [x] e1
    rw [h1] at q1
    cases q1
    cases q4 with
    | cons rx rn =>
      cases rn
      rename_i w
      have pg := Pg.lay (o := .tup [.int (n0 / m), .int (n0 % m)]) s1.ex nt
      have s2 := s1.grow pg
      have hl2 : upd H1 t (.tup [.int (n0 / m), .int (n0 % m)]) l = some (.lst [w]) := pg.eh _ _ q3
      have s3 := s2.chg (us := [.int (n0 / m)]) (ys := [.int (n0 / m)]) e1 h1 hl2 (.cons (.int _) .nil)
      refine ⟨t, _, rfl, st_of upd_same, rfl, _, _, rfl, .ref l, h1, l, [w], 0, 0, rfl, rfl, hl2, rfl, _, _, rfl, rfl, ?_⟩
      cases ep : put j (.int (n0 % m)) (ρ1.set i (.own b [.int (n0 / m)])) with
      | none => rw [ep] at p1; exact p1.elim
      | some ρ2 =>
        rw [ep] at p1
        obtain ⟨hj, rfl, nj⟩ := put_some ep
        refine p1 Hf1 _ O _ (s3.putD hj (.int _)) ((g1.trans pg.gr).chg q2) Orl.refl (Kq.trans (Kq.trans k1.kq (kp_chg (ys := [.int (n0 / m)]) e1).kq) fun k xs ek => ?_)
        have z : j ≠ k := fun z => nj xs (by rw [z]; exact ek)
        rw [List.getElem?_set_ne z, List.getElem?_set_ne z]
        exact ⟨⟨xs, ek⟩, rfl⟩
end
/-! ### f(new list, e, ..): the new list is changed and then forgotten -/
section
variable {Z : Zx} {W : WX}
theorem SR.temp {K : PySem.W.Frag} {Hf H Hf2 H2 Hf' H' : Hp} {O : Addr → Prop} {σ : L2.St} {ρ2 : Rho} {l : Addr} (h0 : H l = none) (no : ¬ O l) (s2 : SR K Hf2 H2 O σ ρ2) (g2 : Gr O Hf H Hf2 H2) (e' : Ex Hf' H') (g : Gr (fun a => a = l) Hf2 H2 Hf' H') : SR K Hf' H' O σ ρ2 ∧ Gr O Hf H Hf' H' := by
  refine ⟨⟨e', fun a h => ?_, s2.len, fun i x h => ?_, fun i b xs h => ?_, s2.dis, fun i e' h => ?_⟩, ⟨g2.ex.trans g.ex, fun a o h n => ?_, fun a o h => ?_, fun a o h => ?_⟩⟩
  · obtain ⟨⟨o, t1⟩, t2⟩ := s2.otr a h
    refine ⟨g.tr a o t1, ?_⟩
    cases e1 : Hf' a with
    | none => rfl
    | some u =>
      rcases g.nw a u e1 with z | z | z
      · rw [t2] at z; cases z
      · rw [t1] at z; cases z
      · rw [z] at h; exact (no h).elim
  · obtain ⟨v, t1, t2⟩ := s2.slot i x h
    exact ⟨v, t1, t2.mono g.ex⟩
  · obtain ⟨k, ws, b1, b2, b3, b4⟩ := s2.own i b xs h
    exact ⟨k, ws, b1, b2, g.fm _ _ b3 fun z => no (by rw [← z]; exact b2), b4.mono g.ex⟩
  · obtain ⟨v, t1, t2⟩ := s2.exc i e' h
    exact ⟨v, t1, t2.mono g.ex⟩
  · refine g.fm a o (g2.fm a o h n) fun z => ?_
    rw [z, h0] at h; cases h
  · obtain ⟨o1, h1⟩ := g2.tr a o h
    exact g.tr a o1 h1
  · rcases g.nw a o h with z | z | z
    · exact g2.nw a o z
    · exact .inr (.inl (g2.gone z))
    · exact .inr (.inl (by rw [z]; exact h0))
def kCallT (g : Rho → R RV) (ps : List Pd) (o : Option (List Pd)) (ρ1 : Rho) : R AV := match o with
  | some xs => match g (.own true ps :: xs.map Sl.d) with
    | .ok (.d x) _ => .ok (.d x) ρ1
    | .ex e _ => .ex e ρ1
    | _ => .bad
  | none => .bad
def fCallT (n : Nat) (g : Rho → R RV) (fl : Rho → R (List Pd)) (fa : Rho → R (List AV)) : Rho → R AV := fun ρ => (fl ρ).bind fun ps ρ1 => (fa ρ1).bind fun as ρ2 => kCallT g ps (argsD n as) ρ2
theorem d_callT {n : Nat} {g : Rho → R RV} {tl : TE} {t : TA} {fl : Rho → R (List Pd)} {fa : Rho → R (List AV)} (hl : DL Z W tl fl) (ha : DA Z W t fa) : DE Z W (tCallS (spF Z (n + 1) g) (WE W) (tCons tl t)) (fCallT n g fl fa) := by
  intro Hf H O σ ρ s Q p
  refine hl Hf H O σ ρ s _ ?_
  unfold fCallT at p
  cases el : fl ρ with
  | bad => rw [el] at p; exact p
  | ex x ρ1 => rw [el] at p; exact p
  | ok ps ρ1 =>
    rw [el] at p
    intro Hf1 H1 s1 g1 k1 lv rl
    obtain ⟨l, us, rfl, h0, h1, h2, h3⟩ := rl
    have no : ¬ O l := fun z => by
      obtain ⟨⟨o, q⟩, _⟩ := s.otr l z
      rw [h0] at q; cases q
    have p : PostG Z W O σ ρ Hf H (fun a _ Hf' H' => ∀ v, RA Z.K Hf' σ v a → Q v H') ((fa ρ1).bind fun as ρ2 => kCallT g ps (argsD n as) ρ2) := p
    refine ha Hf1 H1 O σ ρ1 s1 _ ?_
    cases ea : fa ρ1 with
    | bad => rw [ea] at p; exact p
    | ex x ρ2 => rw [ea] at p; exact fun cls d Hf' H' s' g' k' xr => p cls d Hf' H' s' (g1.trans g') (k1.trans k') xr
    | ok as ρ2 =>
      rw [ea] at p
      intro Hf2 H2 s2 g2 k2 vs rs
      have p : PostG Z W O σ ρ Hf H (fun a _ Hf' H' => ∀ v, RA Z.K Hf' σ v a → Q v H') (kCallT g ps (argsD n as) ρ2) := p
      unfold kCallT at p
      cases ed : argsD n as with
      | none => rw [ed] at p; exact p.elim
      | some xs =>
        rw [ed] at p
        simp only at p
        obtain ⟨r, hn⟩ := argsD_ok rs ed
        have hl2 : H2 l = some (.lst us) := g2.fm _ _ h1 no
        have fl2 : Hf2 l = none := g2.stays h1 h2 no
        have ra := r.args s2.ex
        have sc : SR Z.K Hf2 H2 (fun a => a = l) ((V.ref l :: vs).map some) (.own true ps :: xs.map Sl.d) := by
          refine ⟨s2.ex, fun a h => ?_, by simp [r.length], fun j x h => ?_, fun j c x h => ?_, fun j k c d x y m a1 a2 _ _ => ?_, fun j e' h => ?_⟩
          · subst h
            exact ⟨⟨_, hl2⟩, fl2⟩
          · cases j with
            | zero => cases h
            | succ j => exact ra.slot j x h
          · cases j with
            | zero => cases h; exact ⟨l, us, rfl, rfl, hl2, h3.mono g2.ex⟩
            | succ j => obtain ⟨_, _, _, z, _⟩ := ra.own j c x h; exact z.elim
          · cases j with
            | succ j => obtain ⟨_, _, _, z, _⟩ := ra.own j c x a1; exact z.elim
            | zero =>
              cases k with
              | zero => rfl
              | succ k => obtain ⟨_, _, _, z, _⟩ := ra.own k d y a2; exact z.elim
          · cases j with
            | zero => cases h
            | succ j => exact ra.exc j e' h
        refine ⟨congrArg Nat.succ hn, Hf2, fun a => a = l, .own true ps :: xs.map Sl.d, sc, ioArgsP, ?_⟩
        cases eg : g (.own true ps :: xs.map Sl.d) with
        | bad => rw [eg] at p; exact p.elim
        | ex y as' =>
          rw [eg] at p
          intro cls d Hf' H' s' g' xr
          obtain ⟨sb, gb⟩ := SR.temp h0 no s2 (g1.trans g2) s'.ex g'
          exact p cls d Hf' H' sb gb (k1.trans k2) xr
        | ok rv as' =>
          rw [eg] at p
          cases rv with
          | l ys => exact p.elim
          | d y =>
            intro v Hf' H' s' g' rd
            obtain ⟨sb, gb⟩ := SR.temp h0 no s2 (g1.trans g2) s'.ex g'
            exact p Hf' H' sb gb (k1.trans k2) v rd
end
end Dt
/-! more operations: slices back to front -/
namespace Dt
open PySem PySem.Spec L2 Evl PyProof.Rows
section
variable {prog : Program} {w : World} {A : Around} {E : Value → Shared → Prop} {s : Shared}
theorem sliceApplied_back {sl : Addr} {vl vu vs : Value} {n : Nat} {Q : Int × Int × Nat → Shared → Prop} (hs : s.heap.IsSliceOf sl vl vu vs) (pl : IsPart vl none) (pu : IsPart vu none) (ps : IsPart vs (some (-1)))
    (h : Q ((n : Int) - 1, -1, n) s) : wpAny (model prog w) A (Builtin.Slice.sliceApplied (.ref sl) (pure (n : Int))) Q E s := by
  obtain ⟨os, hos, hcs, hds⟩ := id hs
  unfold Builtin.Slice.sliceApplied Builtin.Slice.sliceFields
  refine wpAny_bind (wpAny_bind (wpAny_field hos hds (x := vl) rfl (wpAny_bind (wpAny_field hos hds (x := vu) rfl (wpAny_bind (wpAny_field hos hds (x := vs) rfl (wpAny_pure ?_)))))))
  refine wpAny_bind (HT.slicePart_ ps ?_)
  show wpAny _ _ (if ((-1 : Int) == 0) = true then _ else _) _ _ s
  rw [if_neg (by decide)]
  refine wpAny_bind (HT.slicePart_ pl (wpAny_bind (HT.slicePart_ pu (wpAny_bind (wpAny_pure ?_)))))
  have e : Builtin.Slice.sliceAdjust none none (-1) (n : Int) = ((n : Int) - 1, -1) := rfl
  show wpAny _ _ (match Builtin.Slice.sliceAdjust none none (-1) (n : Int) with | (lo, hi) => pure (lo, (-1 : Int), Builtin.Slice.slicePlaces lo hi (-1))) _ _ s
  rw [e]
  show wpAny _ _ (pure ((n : Int) - 1, (-1 : Int), Builtin.Slice.slicePlaces ((n : Int) - 1) (-1) (-1))) _ _ s
  have e2 : Builtin.Slice.slicePlaces ((n : Int) - 1) (-1) (-1) = n := by
    unfold Builtin.Slice.slicePlaces
    simp only [show ¬ ((-1 : Int) > 0) by omega, if_false]
    split <;> simp <;> omega
  rw [e2]
  exact wpAny_pure h
theorem pick_back (xs : Array Value) : ((List.range xs.size).filterMap fun (m : Nat) => xs[((xs.size : Int) - 1 + (m : Int) * (-1)).toNat]?).toArray = xs.toList.reverse.toArray := by
  have e : (List.range xs.size).filterMap (fun (m : Nat) => xs[((xs.size : Int) - 1 + (m : Int) * (-1)).toNat]?) = ((List.range xs.size).map fun m => xs.size - 1 - m).filterMap (xs[·]?) := by
    rw [List.filterMap_map]
    have key : ∀ l : List Nat, (∀ m ∈ l, m < xs.size) → l.filterMap (fun (m : Nat) => xs[((xs.size : Int) - 1 + (m : Int) * (-1)).toNat]?) = l.filterMap ((fun x => xs[x]?) ∘ fun m => xs.size - 1 - m) := by
      intro l
      induction l with
      | nil => intro _; rfl
      | cons m l ih =>
        intro h
        have hm := h m List.mem_cons_self
        have : ((xs.size : Int) - 1 + (m : Int) * (-1)).toNat = xs.size - 1 - m := by omega
        rw [List.filterMap_cons, List.filterMap_cons, ih fun y hy => h y (List.mem_cons_of_mem _ hy), this]
        rfl
    exact key _ fun m hm => List.mem_range.mp hm
  rw [e, PySem.W.krv_range, List.filterMap_reverse, PySem.W.krv_all]
theorem getItem_tuple_back {t sl : Addr} {items : Array Value} {vl vu vs : Value} {Q : Value → Shared → Prop} (ht : IsTup s.heap t items) (hs : s.heap.IsSliceOf sl vl vu vs) (pl : IsPart vl none) (pu : IsPart vu none) (ps : IsPart vs (some (-1)))
    (h : Q (.ref s.heap.objs.size) { s with heap := s.heap.push { cls := .type "tuple", data := .seq items.toList.reverse.toArray } })
    (hsz : items.size ≤ sizeLine) : wpAny (model prog w) A (getItem (.ref t) (.ref sl)) Q E s := by
  have htake : sizeOk (.seq items.toList.reverse.toArray) := by
    show items.toList.reverse.toArray.size ≤ sizeLine
    rw [List.size_toArray, List.length_reverse, Array.length_toList]
    omega
  obtain ⟨os, hos, hcs, hds⟩ := id hs
  have hTs : s.TypeIs (.ref sl) "slice" := ⟨os, hos, hcs⟩
  unfold getItem
  try with_reducible refine wpAny_holding ?_
  first | refine wpAny_bind (wpAny_pure ?_) | skip
  refine wpAny_bind (wpAny_sequenceKey ht.typeIs (by decide) ?_)
  refine wpAny_bind (wpAny_callSpecial?_slot (name := Str.ofString "__getitem__") ht.typeIs PyProof.Rows.slot_tuple_getitem
    (wpAny_call_entry PyProof.Rows.slot_tuple_getitem ht.typeIs entry_tuple_getitem ?_ (args_tuple_getitem _ _)))
  show wpAny _ _ (Builtin.Tuple.tupleItemsOf (.ref t) >>= _) _ _ s
  refine wpAny_bind (tupleItemsOf_ ht ?_)
  refine wpAny_bind (wpAny_typeOf hTs ?_)
  rw [if_pos (by decide)]
  refine wpAny_bind (sliceApplied_back hs pl pu ps ?_)
  have hno : ¬ (((((items.size : Nat) : Int) - 1) == 0 && (-1 : Int) == 1 && items.size == items.size) = true) := by
    intro q
    rw [Bool.and_eq_true, Bool.and_eq_true] at q
    exact absurd q.1.2 (by decide)
  show wpAny _ _ (if ((((items.size : Nat) : Int) - 1) == 0 && (-1 : Int) == 1 && items.size == items.size) = true then _ else _) _ _ s
  rw [if_neg hno, pick_back]
  first
    | exact wpAny_bind (m := Builtin.Tuple.tupleExact _) (wpAny_newObj_type (wpAny_pure ⟨_, rfl, wpAny_pure h⟩) htake)
    | exact wpAny_bind (m := Builtin.Tuple.tupleExact _) (wpAny_newObj_type (wpAny_bind (wpAny_pure (wpAny_pure ⟨_, rfl, wpAny_pure h⟩))) htake)
    | exact wpAny_bind (wpAny_bind (m := Builtin.Tuple.tupleExact _) (wpAny_newObj_type (wpAny_pure (wpAny_pure ⟨_, rfl, wpAny_pure h⟩)) htake))
    | exact wpAny_bind (wpAny_bind (m := Builtin.Tuple.tupleExact _) (wpAny_newObj_type (wpAny_pure ⟨_, rfl, wpAny_pure h⟩) htake))
end
/-! ### x[::-1] -/
def revS (z : Str) : Str := ⟨z.cps.toList.reverse.toArray⟩
theorem revS_eq (z : Str) (u : Tok) : Txt.sliceBy z none none (-1, u) = revS z := by
  have h := step_rev_list z u
  have : (Txt.sliceBy z none none (-1, u)).cps.toList = z.cps.toList.reverse := by
    rw [h]
    apply List.ext_getElem
    · simp [Str.length]
    · intro i h1 h2
      rw [List.getElem_map, List.getElem_range, List.getElem_reverse]
      have hi : i < z.cps.size := by simpa using h2
      have hz : z.length = z.cps.size := rfl
      rw [hz]
      have hlt : z.cps.size - 1 - i < z.cps.size := by omega
      show z.cps.getD (z.cps.size - 1 - i) 0 = z.cps.toList[z.cps.size - 1 - i]
      rw [Array.getD_eq_getD_getElem?, Array.getElem?_eq_getElem hlt]
      rfl
  unfold revS
  rw [← this]
def rRev (K : PySem.W.Frag) : V → Hp → VK → Prop := fun x H Q =>
  (∃ a xs, x = .ref a ∧ SqL K H a xs ∧ ∀ p, H p = none → Q (.ref p) (upd H p (.lst xs.reverse))) ∨ (∃ a xs, x = .ref a ∧ SqT K H a xs ∧ ∀ p, H p = none → Q (.ref p) (upd H p (.tup xs.reverse))) ∨ (∃ z, x = .str z ∧ z.length ≤ sizeLine ∧ Q (.str (revS z)) H)
section
variable {X : Cx}
theorem pe_rev (K : PySem.W.Frag) {e : Expr} {te : TE} {k : Nat} {p1 p2 p3 pos : Pos} (he : PE X e te) (hK : X.K = K := by rfl) : PE X (.Subscript e (.Slice none none (some (.UnaryOp .USub (.Constant (.int 1) k p1) p2)) p3) pos) (tUn (rRev K) te) := by
  subst hK
  refine ⟨fun pins s σ H Q I h => ?_⟩
  refine Subscript_ (thn (he.run pins s σ H _ I h) fun v s1 ⟨x, H1, I1, r1, q1⟩ => ?_)
  have hst : PO X (some (.UnaryOp .USub (.Constant (.int 1) k p1) p2)) (tPart (tUn (rU fun i => .int (-i)) (tC (.int 1)))) := po_some (pe_un un_neg pe_int)
  refine wpAny_Slice (thn (po_none.run pins s1 σ H1 (fun o H2 => o = none ∧ H2 = H1) I1 ⟨rfl, rfl⟩) fun vl s2 ⟨l, H2, I2, pl, el, e2⟩ => ?_)
  subst el e2
  refine thn (po_none.run pins s2 σ H2 (fun o H3 => o = none ∧ H3 = H2) I2 ⟨rfl, rfl⟩) fun vu s3 ⟨u, H3, I3, pu, eu, e3⟩ => ?_
  subst eu e3
  refine thn (hst.run pins s3 σ H3 (fun o H4 => o = some (-1) ∧ H4 = H3) I3 ⟨1, rfl, -1, rfl, rfl, rfl⟩) fun vs s4 ⟨o, H4, I4, ps, eo, e4⟩ => ?_
  subst eo e4
  have I5 : Inv X pins σ H4 { s4 with heap := s4.heap.push { cls := .type "slice", data := .fields #[vl, vu, vs] } } := I4.kept (t' := s4.toks) fun b ob q => Heap.get?_push_of_some _ q
  rcases q1 with ⟨a, xs, ex, hx, q⟩ | ⟨a, xs, ex, hx, q⟩ | ⟨z, ex, hz, q⟩
  · subst ex
    cases r1
    obtain ⟨its, r, ht, hz⟩ := I5.list hx
    have hlen := r.length
    show wpAny (model X.prog X.w) X.A (subscriptTail e (.Slice none none (some (.UnaryOp .USub (.Constant (.int 1) k p1) p2)) p3) (.ref a) (.ref s4.heap.objs.size)) (EP X pins σ Q) X.xe { s4 with heap := s4.heap.push { cls := .type "slice", data := .fields #[vl, vu, vs] } }
    refine tail_any (ops := [.ref a, .ref s4.heap.objs.size]) ht.isList.typeIs (PySem.slot_list_getitem.lookup) ?_ (by with_unfolding_all rfl)
    refine wpAny_getItem_list_slice ht.isList (Heap.IsSliceOf.new _ vl vu vs) pl pu ps (by decide) ?_ (by rw [List.size_toArray]; omega)
    rw [PySem.W.krv_pick]
    refine ⟨.ref _, _, I5.laid (t' := s4.toks) (o := .lst xs.reverse) (fun b ob q => Heap.get?_push_of_some _ q) (Nat.le_refl _) ?_, rfl, q _ (I5.hok.fresh (Nat.le_refl _))⟩
    exact ⟨by rw [List.length_reverse]; exact hz, _, 0, r.reverse, Heap.get?_push_size _ rfl⟩
  · subst ex
    cases r1
    obtain ⟨its, r, ht, hz⟩ := I5.tuple hx
    have hlen := r.length
    show wpAny (model X.prog X.w) X.A (subscriptTail e (.Slice none none (some (.UnaryOp .USub (.Constant (.int 1) k p1) p2)) p3) (.ref a) (.ref s4.heap.objs.size)) (EP X pins σ Q) X.xe { s4 with heap := s4.heap.push { cls := .type "slice", data := .fields #[vl, vu, vs] } }
    refine tail_any (ops := [.ref a, .ref s4.heap.objs.size]) ht.typeIs (PyProof.Rows.slot_tuple_getitem.lookup) ?_ (by with_unfolding_all rfl)
    refine getItem_tuple_back ht (Heap.IsSliceOf.new _ vl vu vs) pl pu ps ?_ (by rw [List.size_toArray]; omega)
    refine ⟨.ref _, _, I5.laid (t' := s4.toks) (o := .tup xs.reverse) (fun b ob q => Heap.get?_push_of_some _ q) (Nat.le_refl _) ?_, rfl, q _ (I5.hok.fresh (Nat.le_refl _))⟩
    exact ⟨by rw [List.length_reverse]; exact hz, _, r.reverse, IsTup.new _ _⟩
  · subst ex
    obtain ⟨t, rfl⟩ := r1
    show wpAny (model X.prog X.w) X.A (subscriptTail e (.Slice none none (some (.UnaryOp .USub (.Constant (.int 1) k p1) p2)) p3) (.str z t) (.ref s4.heap.objs.size)) (EP X pins σ Q) X.xe { s4 with heap := s4.heap.push { cls := .type "slice", data := .fields #[vl, vu, vs] } }
    cases pl
    cases pu
    cases ps with
    | int i uk =>
      refine tail_any (ops := [.ref s4.heap.objs.size, .str z t]) (typeIs_str _ _ _) F.slot_str_getitem.lookup (wpAny_getItem_str_slice (l := none) (u := none) (st := some (-1, uk)) ⟨_, Heap.get?_push_size _ rfl, rfl, rfl⟩ rfl
        (post_val_or_str ⟨Nat.le_trans (Txt.sliceBy_le z _ _ (-1, uk) (by show (-1 : Int) ≠ 0; decide)) hz, fun t' c => ?_⟩)) (by with_unfolding_all rfl)
      show EP X pins σ Q (Value.str (Txt.sliceBy z none none (-1, uk)) t') _
      rw [revS_eq]
      exact ⟨.str _, H4, I5.tok _, ⟨_, rfl⟩, q⟩
end
def revD : Pd → Option Pd
  | .list xs => some (.list xs.reverse)
  | .tuple xs => some (.tuple xs.reverse)
  | .str z => if z.length ≤ sizeLine then some (.str (revS z)) else none
  | _ => none
section
variable {K : PySem.W.Frag}
theorem ru_rev : RUn K (rRev K) revD := by
  intro Hf H x dx z e hx h Q q
  cases dx with
  | list xs =>
    cases h
    obtain ⟨l, vs, rfl, h1, h2⟩ := hx.list e
    refine .inl ⟨l, vs, rfl, h1, fun p np => ?_⟩
    exact q _ _ _ (Pg.new e np) (.lst (sq_of upd_same) (h2.reverse.mono (Pg.new (o := .lst vs.reverse) e np).ef))
  | tuple xs =>
    cases h
    obtain ⟨l, vs, rfl, h0, h1, h2⟩ := hx.tuple e
    refine .inr (.inl ⟨l, vs, rfl, h1, fun p np => ?_⟩)
    exact q _ _ _ (Pg.new e np) (.tup (st_of upd_same) (h2.reverse.mono (Pg.new (o := .tup vs.reverse) e np).ef))
  | str y =>
    have h' : (if y.length ≤ sizeLine then some (PyData.str (revS y)) else none) = some z := h
    by_cases hl : y.length ≤ sizeLine
    · rw [if_pos hl] at h'
      cases h'
      obtain rfl := hx.str
      exact .inr (.inr ⟨y, rfl, hl, q _ _ _ (Pg.refl e) (.str _)⟩)
    · rw [if_neg hl] at h'; cases h'
  | _ => cases h
end
/-! ### a tuple once -/
theorem tuple_mul1 (l : Addr) (items : Array Value) (n : Nat) (dd : Option Addr) (sl : Array (Option Value)) (u : Tok) :
    Meets (Builtin.«tuple.__mul__» ⟨[.ref l, .int 1 u], []⟩) (fun _ R s => s.heap.get? l = some { cls := .type "tuple", dict := dd, data := .seq items n, slots := sl } ∧ R (.ok (.ret (Value.ref l))) s) :=
  .of_wp fun prog w A R s h => by
    obtain ⟨hp, g, d, tk, os⟩ := s
    obtain ⟨hl, h⟩ := h
    have f1 := AutoSeq1.idx_int
    have c0 : (decide ((1 : Int) < -(2 ^ 63)) || decide ((1 : Int) ≥ 2 ^ 63)) = false := by decide
    have c1 : (items.isEmpty || (1 : Int) == 1) = true := by simp
    wp_walk using AutoSeq1.wpAny_loadPart' hl
    repeat (first
      | (refine wpAny_ite_false (decide_eq_false (by rw [c0]; exact Bool.false_ne_true)) ?_; wp_walk using AutoSeq1.wpAny_loadPart' hl)
      | (refine wpAny_ite_true (decide_eq_true c1) ?_; wp_walk using AutoSeq1.wpAny_loadPart' hl))
    exact ⟨_, rfl, h⟩
def rOnceT (K : PySem.W.Frag) : R2 := fun x y H Q => ∃ l xs, x = .ref l ∧ y = .int 1 ∧ SqT K H l xs ∧ Q (.ref l) H
theorem op_onceT {X : Cx} : OpR X (binaryOp .Mult) (rOnceT X.K) := by
  intro pins s σ H x y v u Q I rx ry h
  obtain ⟨l, xs, rfl, rfl, hT, q⟩ := h
  cases rx
  obtain ⟨t, rfl⟩ := ry
  obtain ⟨its, r, ⟨⟨cls, dd, data, sl⟩, ho, hc, n, hd⟩, hs⟩ := I.tuple hT
  simp only at hc hd
  subst hc hd
  refine wpAny_binaryOp_repeat_ref (T := "tuple") (U := "int") (by decide) ⟨_, ho, rfl⟩ (fun s' => typeIs_int s' 1 t) noFill_tuple_mul F.fills_int_mul F.slot_int_rmul repeat_tuple F.slot_int_index.lookup
    (call_meets F.slot_int_rmul (typeIs_int s 1 t) F.entry_int_rmul (F.args_int_rmul_2 _ _) (int_rmul_tuple 1 t l its.toArray n dd sl)
      ⟨ho, rfl, ⟨_, ho, rfl⟩, call_meets F.slot_tuple_mul ⟨_, ho, rfl⟩ F.entry_tuple_mul (F.args_tuple_mul_2 _ _) (tuple_mul1 l its.toArray n dd sl t) ⟨ho, ?_⟩⟩)
  exact ⟨.ref l, H, I, rfl, q⟩
abbrev rMulC (K : PySem.W.Frag) : R2 := fun x y H Q => rMulA K x y H Q ∨ rOnceT K x y H Q
theorem kMulC {X : Cx} (K : PySem.W.Frag) (hK : X.K = K := by rfl) : OpR X (binaryOp .Mult) (rMulC K) := by
  subst hK
  exact (kMul X.K).or op_onceT
/-- .. and a tuple once -/
def mulC : Pd → Pd → Option Pd
  | .tuple xs, .int 1 => some (.tuple xs)
  | x, y => mulB x y
theorem ro_mulC {K : PySem.W.Frag} : ROp K (rMulC K) mulC := by
  intro Hf H x y dx dy z e hx hy h Q q
  unfold mulC at h
  split at h
  · cases h
    obtain ⟨l, vs, rfl, t1, t2, r1⟩ := hx.tuple e
    exact .inr ⟨l, vs, rfl, hy.int, t2, q _ Hf H (Pg.refl e) (.tup t1 r1)⟩
  · exact .inl (ro_mulB Hf H x y _ _ z e hx hy h Q q)
end Dt
/-! more operations: is True, dicts read, lists many times, texts cut -/
namespace Dt
open PySem PySem.Spec L2 Evl PyProof.Rows
theorem u1 {k : Nat} {A : Around} (r : Room k A) : A.units + 1 < cLine := by have := r.un; omega
/-! ### x is True -/
def rIsB (n : Bool) : R2 := fun x y H Q => ∃ a b, x = .bl a ∧ y = .bl b ∧ Q (.bl (if n then a != b else a == b)) H
theorem op_isB {X : Cx} : OpR X (compareOp .Is) (rIsB false) := by
  intro pins s σ H x y v u Q I rx ry h
  obtain ⟨a, b, rfl, rfl, q⟩ := h
  cases rx
  cases ry
  exact is_bool (fin_bl I q rfl)
theorem op_isNotB {X : Cx} : OpR X (compareOp .IsNot) (rIsB true) := by
  intro pins s σ H x y v u Q I rx ry h
  obtain ⟨a, b, rfl, rfl, q⟩ := h
  cases rx
  cases ry
  exact isnot_bool (fin_bl I q rfl)
def isBD : Pd → Pd → Option Pd
  | .bool a, .bool b => some (.bool (a == b))
  | _, _ => none
def isNotBD : Pd → Pd → Option Pd
  | .bool a, .bool b => some (.bool (a != b))
  | _, _ => none
@[simp] theorem isBD_b {a b : Bool} : isBD (.bool a) (.bool b) = some (.bool (a == b)) := rfl
@[simp] theorem isNotBD_b {a b : Bool} : isNotBD (.bool a) (.bool b) = some (.bool (a != b)) := rfl
section
variable {K : PySem.W.Frag}
theorem ro_isB : ROp K (rIsB false) isBD := by
  intro Hf H x y dx dy z e hx hy h Q q
  unfold isBD at h
  split at h
  · cases h; exact ⟨_, _, hx.bool, hy.bool, q _ Hf H (Pg.refl e) (.bl _)⟩
  · cases h
theorem ro_isNotB : ROp K (rIsB true) isNotBD := by
  intro Hf H x y dx dy z e hx hy h Q q
  unfold isNotBD at h
  split at h
  · cases h; exact ⟨_, _, hx.bool, hy.bool, q _ Hf H (Pg.refl e) (.bl _)⟩
  · cases h
/-! ### dicts -/
theorem RX.dict {Hf H : Hp} {v : V} {ds : List (Pd × Pd)} (h : RX K Hf H v (.dict ds)) : ∃ a kvs, v = .ref a ∧ Hf a = some (.dK kvs) ∧ RKs K Hf kvs ds := by
  rcases h with h | ⟨l, vs, ys, rfl, q, h1, h2⟩
  · cases h with
    | dct h hs => exact ⟨_, _, rfl, h, hs⟩
  · cases q
def lookD (k : Key) : List (Pd × Pd) → Option Pd
  | [] => none
  | (kd, v) :: r => if keyD kd = some k then some v else lookD k r
theorem keyD_kD (k : Key) : keyD (kD k) = some k := by cases k <;> rfl
theorem RKs.look {H : Hp} (k : Key) : ∀ {kvs : List (Key × V)} {ds : List (Pd × Pd)}, RKs K H kvs ds → match lookD k ds with | some d => ∃ v, valV kvs k = some v ∧ RD K H v d | none => valV kvs k = none
  | _, _, .nil => rfl
  | _, _, .cons (k := k') (v := v) (vs := vs) (d := d) (ds := ds) h hs => by
    have ih := RKs.look k hs
    simp only [lookD, keyD_kD, Option.some.injEq]
    by_cases e : k' = k
    · rw [if_pos e]; exact ⟨v, valV_pos e, h⟩
    · rw [if_neg e, valV_neg (p := (k', v)) e]; exact ih
def rDGet : R2 := fun x y H Q => ∃ a v, x = .ref a ∧ DGet H a y (some v) ∧ Q v H
theorem kDGet {X : Cx} {o i : Expr} {td ty : TE} {pos : Pos} (hu : X.A.units + 1 < cLine) (ho : PE X o td) (hi : PE X i ty) (hs : NoSl i) : PE X (.Subscript o i pos) (tOp rDGet td ty) := pe_dget hu ho hi hs
def dgetD : Pd → Pd → Option Pd
  | .dict ds, k => match keyD k with
    | some k => lookD k ds
    | none => none
  | _, _ => none
theorem ro_dget : ROp K rDGet dgetD := by
  intro Hf H x y dx dy z e hx hy h Q q
  cases dx with
  | dict ds =>
    have h : (match keyD dy with | some k => lookD k ds | none => none) = some z := h
    cases ek : keyD dy with
    | none => rw [ek] at h; cases h
    | some kk =>
      rw [ek] at h
      obtain ⟨a, kvs, rfl, h1, h2⟩ := hx.dict
      have hl := RKs.look kk h2
      have h : lookD kk ds = some z := h
      rw [h] at hl
      obtain ⟨v, hv, rv⟩ := hl
      have hyr : RD K Hf y dy := by
        rcases hy with hy | ⟨l, vs, ys, rfl, e2, _⟩
        · exact hy
        · subst e2; cases ek
      obtain ⟨rfl, _⟩ := keyD_ok hyr ek
      exact ⟨a, v, rfl, .inl ⟨kvs, kk, .inl (e a _ h1), rfl, hv.symm⟩, q _ Hf H (Pg.refl e) rv⟩
  | _ => cases h
/-! ### dict(pairs) -/
def pairsD : List Pd → Option (List (Key × Pd))
  | [] => some []
  | .tuple [k, v] :: r => match keyD k, pairsD r with
    | some k, some r => some ((k, v) :: r)
    | _, _ => none
  | _ => none
def rDictP (K : PySem.W.Frag) : List V → Hp → VK → Prop := fun xs H Q => ∃ (a : Addr) (ps : List Addr) (kvs : List (Key × V)), xs = [.ref a] ∧ SqL K H a (ps.map V.ref) ∧ Paired (fun p kv => SqT K H p [kV kv.1, kv.2]) ps kvs ∧
    ∀ p, H p = none → Q (.ref p) (upd H p (.dK (mergeK [] kvs)))
theorem kDictP {X : Cx} (K : PySem.W.Frag) (hc : X.calm = true) (hK : X.K = K := by rfl) : CallR X (.type "dict") (rDictP K) := by subst hK; exact call_dictP hc
def dictD : List Pd → Option Pd
  | [.list ps] => match pairsD ps with
    | some kvs => if (kvs.map (·.1)).Nodup then some (.dict (kvs.map fun p => (kD p.1, p.2))) else none
    | none => none
  | _ => none
theorem merge_new : ∀ (more acc : List (Key × V)), ((acc ++ more).map (·.1)).Nodup → mergeK acc more = acc ++ more
  | [], acc, _ => by simp [mergeK]
  | (k, v) :: r, acc, h => by
    have hn : (acc.any fun kv => decide (kv.1 = k)) = false := by
      rw [List.any_eq_false]
      intro p hp e
      have e := of_decide_eq_true e
      rw [List.map_append, List.nodup_append] at h
      exact h.2.2 p.1 (List.mem_map_of_mem hp) k (by simp) e
    show mergeK (putK acc k v) r = _
    have : putK acc k v = acc ++ [(k, v)] := by unfold putK; rw [hn]; rfl
    rw [this, merge_new r (acc ++ [(k, v)]) (by simpa using h)]
    simp
theorem pairs_ok {Hf H : Hp} (e : Ex Hf H) : ∀ {vs : List V} {ps : List Pd} {kvs : List (Key × Pd)}, RDs K Hf vs ps → pairsD ps = some kvs → ∃ (as : List Addr) (ws : List (Key × V)), vs = as.map V.ref ∧ Paired (fun p kv => SqT K H p [kV kv.1, kv.2]) as ws ∧ ws.map (·.1) = kvs.map (·.1) ∧ RKs K Hf ws (kvs.map fun p => (kD p.1, p.2))
  | _, _, _, .nil, h => by cases h; exact ⟨[], [], rfl, .nil, rfl, .nil⟩
  | _, _, kvs, .cons (v := v) (vs := vs) (d := d) (ds := ds) r rs, h => by
    cases r with
    | tup hs hr =>
      rename_i a xs es
      cases hr with
      | nil => simp [pairsD] at h
      | cons r1 r2 =>
        cases r2 with
        | nil => simp [pairsD] at h
        | cons r2 r3 =>
          cases r3 with
          | cons _ _ => simp [pairsD] at h
          | nil =>
            rename_i kv kd vv vd
            simp only [pairsD] at h
            split at h
            · rename_i k rr hk hrr
              cases h
              obtain ⟨as, ws, rfl, hp, hm, hk2⟩ := pairs_ok e rs hrr
              obtain ⟨rfl, rfl⟩ := keyD_ok r1 hk
              exact ⟨a :: as, (k, vv) :: ws, rfl, .cons (ex_t e hs) hp, by simp [hm], .cons r2 hk2⟩
            · cases h
    | _ => simp [pairsD] at h
theorem rc_dict : RCall K (rDictP K) dictD := by
  intro Hf H vs xs z e hs h Q q
  unfold dictD at h
  split at h
  · rename_i ps
    split at h
    · rename_i kvs hk
      split at h
      · rename_i hnd
        cases h
        obtain ⟨v, rfl, hv⟩ := hs.one
        obtain ⟨l, us, rfl, t, r⟩ := hv.list e
        obtain ⟨as, ws, rfl, hp, hm, hr⟩ := pairs_ok e r hk
        refine ⟨l, as, ws, rfl, t, hp, fun p np => ?_⟩
        rw [merge_new ws [] (by rw [List.nil_append, hm]; exact hnd), List.nil_append]
        have g := Pg.new (o := .dK ws) e np
        exact q _ _ _ g (.dct upd_same (hr.mono g.ef))
      · cases h
    · cases h
  · cases h
/-! ### texts cut -/
def splitD : Pd → List Pd → Option Pd
  | .str a, [.str b] => if (b.length == 0) = false ∧ a.length + 2 ≤ sizeLine then some (.list ((Txt.split a b).map .str)) else none
  | _, _ => none
def partD : Pd → List Pd → Option Pd
  | .str a, [.str b] => if (b.length == 0) = false ∧ a.length ≤ sizeLine then some (.tuple [.str (Txt.partition a b).1, .str (Txt.partition a b).2.1, .str (Txt.partition a b).2.2]) else none
  | _, _ => none
abbrev rSplit : V → List V → Hp → VK → Prop := fun x xs H Q => ∃ a b, x = .str a ∧ xs = [.str b] ∧ (b.length == 0) = false ∧ a.length + 2 ≤ sizeLine ∧ rNewStrs (Txt.split a b) H Q
abbrev rPart : V → List V → Hp → VK → Prop := fun x xs H Q => ∃ a b, x = .str a ∧ xs = [.str b] ∧ (b.length == 0) = false ∧ a.length ≤ sizeLine ∧
      ∀ p, H p = none → Q (.ref p) (upd H p (.tup [.str (Txt.partition a b).1, .str (Txt.partition a b).2.1, .str (Txt.partition a b).2.2]))
theorem rm_split : RMt K "str" rSplit splitD := by
  intro Hf H x vs dx xs z e hx hs h Q q
  unfold splitD at h
  split at h
  · split at h
    · rename_i a b hc
      cases h
      obtain ⟨v, rfl, hv⟩ := hs.one
      refine ⟨a, b, hx.str, by rw [hv.str], hc.1, hc.2, fun p np => ?_⟩
      have g := Pg.new (o := .lst ((Txt.split a b).map V.str)) e np
      exact q _ _ _ g (.lst (sq_of upd_same) (RDs.strs _))
    · cases h
  · cases h
theorem rm_part : RMt K "str" rPart partD := by
  intro Hf H x vs dx xs z e hx hs h Q q
  unfold partD at h
  split at h
  · split at h
    · rename_i a b hc
      cases h
      obtain ⟨v, rfl, hv⟩ := hs.one
      refine ⟨a, b, hx.str, by rw [hv.str], hc.1, hc.2, fun p np => ?_⟩
      have g := Pg.new (o := .tup [.str (Txt.partition a b).1, .str (Txt.partition a b).2.1, .str (Txt.partition a b).2.2]) e np
      exact q _ _ _ g (.tup (st_of upd_same) (.cons (.str _) (.cons (.str _) (.cons (.str _) .nil))))
    · cases h
  · cases h
end
/-! ### [..] * n -/
section
variable {Z : Zx} {W : WX}
def kRepL (xs : List Pd) (a : AV) (ρ : Rho) : R (List Pd) := match a with
  | .d (.int k) => if 0 ≤ k ∧ k ≤ 1000 ∧ xs.length ≤ 1000 then .ok (List.replicate k.toNat xs).flatten ρ else .bad
  | _ => .bad
def fRepL (fl : Rho → R (List Pd)) (fk : Rho → R AV) : Rho → R (List Pd) := fun ρ => (fl ρ).bind fun xs ρ1 => (fk ρ1).bind fun a ρ2 => kRepL xs a ρ2
theorem l_rep {tl tk : TE} {fl : Rho → R (List Pd)} {fk : Rho → R AV} (hl : DL Z W tl fl) (hk : DE Z W tk fk) : DL Z W (tOp rRep tl tk) (fRepL fl fk) := by
  intro Hf H O σ ρ s Q p
  refine hl Hf H O σ ρ s _ ?_
  unfold fRepL at p
  cases el : fl ρ with
  | bad => rw [el] at p; exact p
  | ex x ρ1 => rw [el] at p; exact p
  | ok ps ρ1 =>
    rw [el] at p
    intro Hf1 H1 s1 g1 k1 lv rl
    obtain ⟨l, us, rfl, h0, h1, h2, h3⟩ := rl
    have no : ¬ O l := fun z => by
      obtain ⟨⟨o, q⟩, _⟩ := s.otr l z
      rw [h0] at q; cases q
    have p : PostG Z W O σ ρ Hf H (fun a _ Hf' H' => ∀ v, RL Z.K H Hf' H' v a → Q v H') ((fk ρ1).bind fun a ρ2 => kRepL ps a ρ2) := p
    refine hk Hf1 H1 O σ ρ1 s1 _ ?_
    cases ea : fk ρ1 with
    | bad => rw [ea] at p; exact p
    | ex x ρ2 => rw [ea] at p; exact fun cls d Hf' H' s' g' k' xr => p cls d Hf' H' s' (g1.trans g') (k1.trans k') xr
    | ok a ρ2 =>
      rw [ea] at p
      intro Hf2 H2 s2 g2 k2 v rv
      have p : PostG Z W O σ ρ Hf H (fun a _ Hf' H' => ∀ v, RL Z.K H Hf' H' v a → Q v H') (kRepL ps a ρ2) := p
      cases a with
      | sl _ => exact p.elim
      | d da =>
      cases da with
      | int k =>
        have p : PostG Z W O σ ρ Hf H (fun a _ Hf' H' => ∀ v, RL Z.K H Hf' H' v a → Q v H') (if 0 ≤ k ∧ k ≤ 1000 ∧ ps.length ≤ 1000 then .ok (List.replicate k.toNat ps).flatten ρ2 else .bad) := p
        by_cases hc : 0 ≤ k ∧ k ≤ 1000 ∧ ps.length ≤ 1000
        · rw [if_pos hc] at p
          have hl2 : H2 l = some (.lst us) := g2.fm _ _ h1 no
          have ev : v = .int k := by
            have rv : RD Z.K Hf2 v (.int k) := rv
            cases rv; rfl
          have hul := h3.length
          refine ⟨l, k, us, rfl, ev, hl2, by omega, by omega, ?_, fun q nq => ?_⟩
          · show us.length * k.toNat ≤ 16777216
            have : us.length * k.toNat ≤ 1000 * 1000 := Nat.mul_le_mul (by omega) (by omega)
            omega
          · have g := Pg.lay (o := .lst (List.replicate k.toNat us).flatten) s2.ex nq
            exact p Hf2 _ (s2.grow g) ((g1.trans g2).trans g.gr) (k1.trans k2) _ ⟨q, _, rfl, (g1.trans g2).gone nq, upd_same, fresh_back s2.ex nq, (h3.mono g2.ex).reps _⟩
        · rw [if_neg hc] at p; exact p.elim
      | _ => exact p.elim
end
/-! ### d.get(k, x) -/
section
variable {Z : Zx} {W : WX}
def kDGet2 (a b c : AV) (ρ : Rho) : R AV := match a, b, c with
  | .d (.dict ds), .d k, .d x => (match keyD k with
    | some k => .ok (.d ((lookD k ds).getD x)) ρ
    | none => .bad)
  | _, _, _ => .bad
def isDct : AV → Bool
  | .d (.dict _) => true
  | _ => false
def fDGet2 (fd fy fx : Rho → R AV) : Rho → R AV := fun ρ => (fd ρ).bind fun a ρ1 => if isDct a = true then (fy ρ1).bind fun b ρ2 => (fx ρ2).bind fun c ρ3 => kDGet2 a b c ρ3 else .bad
theorem d_dget2 {td ty tx : TE} {fd fy fx : Rho → R AV} (hd : DE Z W td fd) (hy : DE Z W ty fy) (hx : DE Z W tx fx) : DE Z W (tDGet2 td ty tx) (fDGet2 fd fy fx) := by
  intro Hf H O σ ρ s Q p
  refine hd.bind s p fun a ρ1 x Hf1 H1 s1 g1 k1 rx p1 => ?_
  by_cases hc : isDct a = true
  · rw [if_pos hc] at p1
    cases a with
    | sl _ => cases hc
    | d da =>
      cases da with
      | dict ds =>
        have rx : RD Z.K Hf1 x (.dict ds) := rx
        cases rx with
        | dct h hs =>
          rename_i kvs aa
          refine ⟨_, rfl, .inl ⟨_, .inl (s1.ex _ _ h)⟩, ?_⟩
          refine hy.bind s1 p1 fun b ρ2 y Hf2 H2 s2 g2 k2 ry p2 => ?_
          refine hx.bind s2 p2 fun c ρ3 z Hf3 H3 s3 g3 k3 rz p3 => ?_
          cases b with
          | sl _ => exact p3.elim
          | d k =>
            cases c with
            | sl _ => exact p3.elim
            | d xd =>
              cases ek : keyD k with
              | none =>
                unfold kDGet2 at p3
                simp only [ek] at p3
                exact p3.elim
              | some kk =>
                unfold kDGet2 at p3
                simp only [ek] at p3
                obtain ⟨rfl, _⟩ := keyD_ok (show RD Z.K Hf2 y k from ry) ek
                have h3 : Hf3 _ = some (.dK _) := g3.ex _ _ (g2.ex _ _ h)
                refine ⟨_, .inl ⟨_, kk, .inl (s3.ex _ _ h3), rfl, rfl⟩, ?_⟩
                have hl := RKs.look kk (hs.mono (g2.ex.trans g3.ex))
                cases el : lookD kk ds with
                | none =>
                  rw [el] at hl p3
                  rw [hl]
                  exact p3 Hf3 H3 s3 Gr.refl Kp.refl _ rz
                | some v =>
                  rw [el] at hl p3
                  obtain ⟨w, hw, rw'⟩ := hl
                  rw [hw]
                  exact p3 Hf3 H3 s3 Gr.refl Kp.refl _ rw'
      | _ => cases hc
  · rw [if_neg hc] at p1; exact p1.elim
end
section
variable {ρ : Rho} {xs : List Pd}
@[simp] theorem fDGet2_ap {fd fy fx : Rho → R AV} : fDGet2 fd fy fx ρ = (fd ρ).bind fun a ρ1 => if isDct a = true then (fy ρ1).bind fun b ρ2 => (fx ρ2).bind fun c ρ3 => kDGet2 a b c ρ3 else .bad := rfl
@[simp] theorem isDct_d {ds : List (Pd × Pd)} : isDct (.d (.dict ds)) = true := rfl
@[simp] theorem kDGet2_s {ds : List (Pd × Pd)} {k : Str} {x : Pd} : kDGet2 (.d (.dict ds)) (.d (.str k)) (.d x) ρ = .ok (.d ((lookD (.inr k) ds).getD x)) ρ := rfl
@[simp] theorem fRepL_ap {fl : Rho → R (List Pd)} {fk : Rho → R AV} : fRepL fl fk ρ = (fl ρ).bind fun xs ρ1 => (fk ρ1).bind fun a ρ2 => kRepL xs a ρ2 := rfl
@[simp] theorem kRepL_int {k : Int} : kRepL xs (.d (.int k)) ρ = if 0 ≤ k ∧ k ≤ 1000 ∧ xs.length ≤ 1000 then .ok (List.replicate k.toNat xs).flatten ρ else .bad := rfl
@[simp] theorem dgetD_str {ds : List (Pd × Pd)} {x : Str} : dgetD (.dict ds) (.str x) = lookD (.inr x) ds := rfl
@[simp] theorem lookD_nil {k : Key} : lookD k [] = none := rfl
@[simp] theorem lookD_cons {k : Key} {kd v : Pd} {r : List (Pd × Pd)} : lookD k ((kd, v) :: r) = if keyD kd = some k then some v else lookD k r := rfl
@[simp] theorem keyD_str {x : Str} : keyD (.str x) = some (.inr x) := rfl
@[simp] theorem dictD_list : dictD [.list xs] = (match pairsD xs with | some kvs => if (kvs.map (·.1)).Nodup then some (.dict (kvs.map fun p => (kD p.1, p.2))) else none | none => none) := rfl
@[simp] theorem splitD_str {a b : Str} : splitD (.str a) [.str b] = if (b.length == 0) = false ∧ a.length + 2 ≤ sizeLine then some (.list ((Txt.split a b).map .str)) else none := rfl
@[simp] theorem partD_str {a b : Str} : partD (.str a) [.str b] = if (b.length == 0) = false ∧ a.length ≤ sizeLine then some (.tuple [.str (Txt.partition a b).1, .str (Txt.partition a b).2.1, .str (Txt.partition a b).2.2]) else none := rfl
end
end Dt
set_option maxHeartbeats 2000000
/-! exceptions: raised, caught and kept, asked -/
namespace Dt
open PySem PySem.Spec L2 Evl PyProof.Rows
section
variable {X : Cx} {pins : List (Addr × Obj)} {σ : L2.St} {H : Hp} {s : Shared}
/-- an object that came since the entry and isn't tracked yet may be tracked -/
theorem Inv_track {a : Addr} {o : HO} {oe : Obj} {vs : Array Value} (I : L2.Inv X pins σ H s) (n0 : X.s_0.heap.get? a = none) (na : H a = none) (nL : a ≠ X.env.locals) (he : s.heap.get? a = some oe) (hd : oe.data = .fields vs) (np : ∀ p ∈ X.pn ++ pins, p.1 ≠ a)
    (new : ObjOk X.prog X.w (upd H a o) s.heap a o) : L2.Inv X pins σ (upd H a o) s := by
  have ne0 : ∀ b ob, X.s_0.heap.get? b = some ob → b ≠ a := fun b ob e z => by rw [z, n0] at e; cases e
  have nec : ∀ x c, X.env.cells.lookup x = some c → c ≠ a := fun x c e z => by
    obtain ⟨v, ob, ho, hc⟩ := I.cell x c e
    rw [z, he] at ho
    cases ho
    rw [hd] at hc
    cases hc
  refine ⟨I.ok, I.os, I.bare, ⟨I.base.keep, I.base.slot, fun b ob e n hx => ?_, I.base.there, fun b xs e => ?_, fun b ob u e => ?_, fun b ps e => ?_⟩, I.loc, I.cell, ?_, fun x c e => ?_, fun p hp => ?_, I.hok.laidN (fun _ _ q => q) na new, I.len⟩
  · rw [upd_ne (ne0 b ob e)]; exact I.base.free b ob e n hx
  · have q := I.base.tups b xs e; rw [upd_ne (ne_of_none q na)]; exact q
  · have q := I.base.frzs b ob u e; rw [upd_ne (ne_of_none q na)]; exact q
  · obtain ⟨m, q⟩ := I.base.tbls b ps e; exact ⟨m, by rw [upd_ne (ne_of_none q na)]; exact q⟩
  · rw [upd_ne (Ne.symm nL)]; exact I.free
  · rw [upd_ne (nec x c e)]; exact I.freeC x c e
  · obtain ⟨e, n, r⟩ := I.pin p hp
    exact ⟨e, by rw [upd_ne (np p hp)]; exact n, r⟩
theorem exN_ok {P : Program} {w : World} {H : Hp} {h : Heap} {a : Addr} {cls : Value} {d : Option Addr} {oe : Obj} {vs : Array Value} (e : h.get? a = some oe) (z : Zc cls d oe) (hd : oe.data = .fields vs) : ObjOk P w H h a (ExN cls d a) :=
  ⟨⟨oe, vs, e, z, hd⟩, ⟨oe, e⟩, fun _ _ ⟨o, v, q, r⟩ k => ⟨o, v, k o q, r⟩⟩
end
/-- .. a caught exception is kept, tracked at its address -/
def wAsT (K : PySem.W.Frag) (c : Value) (i : Nat) (ts : Addr → Value → Option Addr → TS) (Wout : WX) (D : Ends) : WX := fun cls d σ H =>
  ∃ b, PySem.W.exmOne K cls c = some b ∧ (b = true → ∀ a, H a = none → ts a cls d { nx := fun σ' H' => D.nx (σ'.set i none) (upd H' a (ExN cls d a)), rt := fun _ _ => False, bk := fun _ _ => False, ct := fun _ _ => False } (σ.set i (some (.ref a))) H) ∧
    (b = false → Wout cls d σ H)
section
variable {X : Cx} {x n : Str} {c : Value} {i : Nat} {body suite : List Stmt} {b₀ : Stmt} {np pos pos' : Pos} {tb : WX → TS} {ts : Addr → Value → Option Addr → TS} {Wout : WX}
theorem ps_try_T (hs : X.stack = X.env :: X.outer) (hf : X.env.frame = some X.env.locals) (hex : X.ex = []) (hN : X.N.Nodup) (hi : X.N[i]? = some n) (hln : X.env.kindOf n = some .local) (hc : Names X x c) (tk : Takes X Wout)
    (hb : ∀ (W : WX) (pn : List (Addr × Obj)) (xe : Value → Shared → Prop), Takes (X.tr pn xe) W → PassesOwn (model X.prog X.w) X.A X.env xe → PSs (X.tr pn xe) body (tb W))
    (hsu : ∀ (a : Addr) (oe : Obj) (cls : Value) (d : Option Addr) (pn : List (Addr × Obj)), Zc cls d oe → (∃ vs, oe.data = .fields vs) → PSs (X.suite a ((a, oe) :: pn)) (b₀ :: suite) (ts a cls d)) :
    PS X (.Try body [.ExceptHandler (some (.Name x np)) (some n) (b₀ :: suite) pos'] [] [] pos) (fun D σ H => tb (wAsT X.K c i ts Wout D) D σ H) := by
  refine ⟨fun pins s σ H D I h => ?_⟩
  have ok := I.ok
  have hfr : X.A.frames = some (X.env :: X.outer) := by rw [ok.frames, hs]
  have hloc : Loc X.env.scope n := .inl hln
  refine wpAny_Try_except ?_
  refine wpAny_mono ((hb (wAsT X.K c i ts Wout D) (X.pn ++ pins) (fun e s₁ => wpAny (model X.prog X.w) X.A (noteFrame e X.env) (fun _ s₂ => wpAny (model X.prog X.w) X.A (setFlight e none) (fun _ s₃ =>
    wpAny (model X.prog X.w) X.A (handleBy e X.env [.ExceptHandler (some (.Name x np)) (some n) (b₀ :: suite) pos']) (SP X pins D) X.xe s₃) X.xe s₂) X.xe s₁) (fun u s' xx => ?_) PassesOwn.looking).run [] s σ H D (I.toTry _) h) (fun f s1 hsp => ?_) (fun e s1 he => he)
  · -- the catch
    obtain ⟨a, B, sI, pins', σ', H', cls, d, rfl, J', nb, up, sky, na, os, ag, b, hb1, hyes, hno⟩ := xx
    have J : L2.Inv X pins σ' H' sI := J'.ofTry ok
    have sky' : Sky B (X.env :: X.outer) a (Zc cls d) X.env.locals s'.heap := by rw [← hs]; exact sky
    show wpAny (model X.prog X.w) X.A (noteFrame (.ref a) X.env) _ _ _
    refine Sky.land Zc.steady hfr hf sky' fun h3 fl3 up3 => ?_
    have J3 : L2.Inv X pins σ' H' { s' with heap := h3 } := J.landed nb fl3.1 (up.trans up3) os ag
    obtain ⟨oe3, vs3, he3, hz3, hd3⟩ := fl3.there
    have notFr : ∀ {h : Heap} {o : Obj} {vs : Array Value}, h.FunFrames B (X.env :: X.outer) → h.get? a = some o → o.data = .fields vs → a ∉ frs (X.env :: X.outer) := fun {h o vs} ff e dd hm => by
      obtain ⟨_, o', e', hnf⟩ := ff.mem hm
      rw [e] at e'; cases e'
      exact hnf _ dd
    have nfr := notFr fl3.2.2.1 he3 hd3
    have nL : a ≠ X.env.locals := fun z => nfr (List.mem_filterMap.mpr ⟨X.env, List.mem_cons_self, by rw [hf, z]⟩)
    have nF : a ∉ X.fs := fun hm => by
      obtain ⟨e, he, q⟩ := List.mem_filterMap.mp hm
      exact nfr (List.mem_filterMap.mpr ⟨e, List.mem_cons_of_mem _ he, q⟩)
    -- it is new
    have nI : sI.heap.get? a = none := by
      cases e : sI.heap.get? a with
      | none => rfl
      | some o =>
        have := nb a o e (by rw [hs]; exact nfr)
        rw [fl3.2.1] at this
        cases this
    have n0 : X.s_0.heap.get? a = none := by
      cases e : X.s_0.heap.get? a with
      | none => rfl
      | some o =>
        obtain ⟨o', q⟩ := J.base.there a o e (by rw [hex]; exact fun z => nomatch z)
        rw [nI] at q; cases q
    have npin : ∀ p ∈ X.pn ++ pins, p.1 ≠ a := fun p hp z => by
      obtain ⟨q, _⟩ := J.pin p hp
      rw [z, nI] at q; cases q
    have S3 := J3.suite he3 hd3 na nL nF
    refine wpAny_handleBy_cons (codeAny_handlers_test ?_) (by intro q; cases q)
    have LT : PySem.W.Looks (model X.prog X.w) h3 (typeOf (.ref a)) cls := fun A Q E s k q => wpAny_typeOf_ref (k _ _ he3) (by rw [hz3.1]; exact q)
    have LM := PySem.W.exm_one (M := model X.prog X.w) (J3.kIn) LT hb1
    have test : ∀ {Q : Value → Shared → Prop} {E : Value → Shared → Prop}, Q c { s' with heap := h3 } → wpAny (model X.prog X.w) (X.A.mark (some (.ref a))) (eval (.Name x np) X.env) Q E { s' with heap := h3 } := fun {Q E} q => by
      obtain ⟨hg, hdbg, hm | ⟨hm, hv, hnn⟩⟩ := hc
      · exact ld_glob (X := X.suite a ((a, oe3) :: (X.pn ++ pins))) S3 hg hm q hdbg
      · exact ld_blt (X := X.suite a ((a, oe3) :: (X.pn ++ pins))) S3 hg hm hv q hnn hdbg
    refine test (LM.here ?_)
    cases b with
    | true =>
      refine codeAny_handlers_suite_as ?_
      refine HandSPX.lands_againZ fl3 fun h4 fl4 up4 => ?_
      have J4 : L2.Inv X pins σ' H' { s' with heap := h4 } := J.landed nb fl4.1 ((up.trans up3).trans up4) os ag
      obtain ⟨oe4, vs4, he4, hz4, hd4⟩ := fl4.there
      have S4 := J4.suite he4 hd4 na nL nF
      refine store_ok (X := X.suite a ((a, oe4) :: (X.pn ++ pins))) (v := .ref a) S4 hN hi hloc rfl (fun s5 S5 => ?_) (.inr hln)
      refine wpAny_mono ((hsu a oe4 cls d (X.pn ++ pins) hz4 ⟨_, hd4⟩).run [] s5 _ H' _ S5 (hyes rfl a na)) (fun f s6 hsp => ?_) (fun _ _ z => False.elim z)
      cases f with
      | next =>
        obtain ⟨σ6, H6, S6, q6⟩ := hsp
        obtain ⟨ha6, na6, _⟩ := S6.pin (a, oe4) (List.mem_append_left _ List.mem_cons_self)
        have J6 := Inv_track (S6.unsuite ok) n0 na6 nL ha6 hd4 npin (exN_ok (P := X.prog) (w := X.w) (H := upd H6 a (ExN cls d a)) ha6 hz4 hd4)
        exact gone_ok J6 hN hi hln fun s7 J7 => ⟨_, _, J7, q6⟩
      | brk =>
        obtain ⟨σ6, H6, S6, q6⟩ := hsp
        exact q6.elim
      | cont =>
        obtain ⟨σ6, H6, S6, q6⟩ := hsp
        exact q6.elim
      | ret u =>
        obtain ⟨v6, σ6, H6, S6, r6, q6⟩ := hsp
        exact q6.elim
    | false =>
      show wpAny _ X.A (handleBy (.ref a) X.env []) _ _ _
      refine wpAny_handleBy_nil ?_
      obtain ⟨k1, k2, k3, oe, vs, T, oT, ts', he, hz, hd, h1, hr⟩ := id fl3
      unfold PySem.passOn
      refine wpAny_bind (wpAny_field he hd h1 ?_)
      rw [if_neg (show ¬ ((Value.ref T == Value.none) = true) from by simp)]
      have fin : wpAny (model X.prog X.w) X.A (setFlight (.ref a) X.env.frame) (fun _ s4 => wpAny (model X.prog X.w) X.A (throw (.ref a) : Sem Flow) (SP X pins D) X.xe s4) X.xe { s' with heap := h3 } := by
        rw [hf]
        refine HandSPX.setFlight_upZ fl3 fun h4 hh4 up4 => wpAny_throw (tk _ _ ?_)
        exact ⟨a, B, sI, pins, σ', H', cls, d, rfl, J, nb, (up.trans up3).trans up4, .inr (.inr (by rw [hs]; exact hh4)), na, os, ag, hno rfl⟩
      first
        | exact wpAny_bind (wpAny_pure (wpAny_bind fin))
        | exact wpAny_bind fin
  · cases f with
    | next =>
      obtain ⟨σ', H', J', q⟩ := hsp
      exact wpAny_execs_nil ⟨σ', H', J'.ofTry ok, q⟩
    | brk =>
      obtain ⟨σ', H', J', q⟩ := hsp
      exact ⟨σ', H', J'.ofTry ok, q⟩
    | cont =>
      obtain ⟨σ', H', J', q⟩ := hsp
      exact ⟨σ', H', J'.ofTry ok, q⟩
    | ret u =>
      obtain ⟨v, σ', H', J', r, q⟩ := hsp
      exact ⟨v, σ', H', J'.ofTry ok, r, q⟩
end
/-! ### isinstance of a kept exception -/
/-- what the class D must say, so that isinstance asks its instances rightly -/
structure XcC (K : PySem.W.Frag) (D : Addr) : Prop where
  cl : (PySem.W.clsIn K D).isSome = true
  hg : PySem.W.findIn K (.ref D) "__getattribute__" = some (some (.builtin "BaseException.__getattribute__"))
  hk : PySem.W.findIn K (.ref D) "__getattr__" = some none
  hs : PySem.W.subIn K (.ref D) (.type "BaseException") = some true
  hd : PySem.W.hasDictIn K D = true
  ha : PySem.W.findIn K (.ref D) "__class__" = some (some (.builtin "object.__class__"))
  hn : PySem.W.specialIn K (.builtin "object.__class__") "__get__" = some (some (.builtin "getset_descriptor.__get__"))
  ht : PySem.W.takesIn K (.builtin "object.__class__") = some true
  hm : PySem.W.mroIn K D (.type "object") = some true
def xcB (K : PySem.W.Frag) (D : Addr) : Bool :=
  (PySem.W.clsIn K D).isSome && (decide (PySem.W.findIn K (.ref D) "__getattribute__" = some (some (.builtin "BaseException.__getattribute__"))) && (decide (PySem.W.findIn K (.ref D) "__getattr__" = some none) && (decide (PySem.W.subIn K (.ref D) (.type "BaseException") = some true) && (PySem.W.hasDictIn K D && (decide (PySem.W.findIn K (.ref D) "__class__" = some (some (.builtin "object.__class__"))) && (decide (PySem.W.specialIn K (.builtin "object.__class__") "__get__" = some (some (.builtin "getset_descriptor.__get__"))) && (decide (PySem.W.takesIn K (.builtin "object.__class__") = some true) && decide (PySem.W.mroIn K D (.type "object") = some true))))))))
theorem xcB_ok {K : PySem.W.Frag} {D : Addr} (h : xcB K D = true) : XcC K D := by
  unfold xcB at h
  simp only [Bool.and_eq_true, decide_eq_true_eq] at h
  obtain ⟨h1, h2, h3, h4, h5, h6, h7, h8, h9⟩ := h
  exact ⟨h1, h2, h3, h4, h5, h6, h7, h8, h9⟩
/-- isinstance(e, c) of an exception that is kept -/
def rIsT (K : PySem.W.Frag) : List V → Hp → VK → Prop := fun xs H Q => ∃ (a D : Addr) (d : Option Addr) (c : V) (cv : Value) (b : Bool), xs = [.ref a, c] ∧ H a = some (ExN (.ref D) d a) ∧ (∀ dd, d = some dd → ∃ fs, H dd = some (.xd fs)) ∧ XcC K D ∧ (∀ u, RelV c u → u = cv) ∧ PySem.W.kitOne K (.ref D) cv = some b ∧ Q (.bl b) H
theorem call_isT {X : Cx} : CallR X (.builtin "isinstance") (rIsT X.K) := by
  intro pins s σ H xs us Q I r h
  obtain ⟨a, D, d, c, cv, b, rfl, hH, hdx, C, hcv, e, q⟩ := h
  cases r with
  | cons rx rr =>
    cases rr with
    | cons rt rr =>
      cases rr
      cases rx
      have ec := hcv _ rt
      subst ec
      obtain ⟨⟨oe, vs, hget, hz, hv⟩, _, _⟩ := I.hok a _ hH
      have J : ∃ od, PySem.W.InstAt s.heap a oe D od := by
        obtain ⟨oc, od, oda, osl⟩ := oe
        obtain ⟨h1, h2⟩ := hz
        dsimp only at h1 h2 hv
        subst h1 h2 hv
        cases od with
        | none => exact ⟨none, hget, rfl, rfl, trivial⟩
        | some dd =>
          obtain ⟨fs, hf⟩ := hdx dd rfl
          obtain ⟨mA, hns, _⟩ := I.hok dd _ hf
          obtain ⟨o, _, _, ho, _⟩ := id hns
          exact ⟨some o, hget, rfl, rfl, ho⟩
      obtain ⟨od, J⟩ := J
      exact PySem.W.kia_one (PySem.W.kitx_exc C.cl C.hg C.hk C.hs C.ha C.hn C.ht C.hm) I.kIn J e (fun z => nomatch z) fun tk => ⟨.bl b, H, I.kept (t' := tk) fun _ _ z => z, rfl, q⟩
end Dt
/-! exceptions over data -/
namespace Dt
open PySem PySem.Spec L2 Evl PyProof.Rows
/-- what the head tells of an exception's class -/
structure ExF (K : PySem.W.Frag) (mg : Str → Option Value) (x : Str) : Prop where
  g : mg x = some (.ref (cA K x))
  q : PySem.W.excIn K (cA K x) He.veBase "ValueError.__new__" = true
  k : PySem.W.keepIn K (.ref (cA K x)) = true
  s : PySem.W.subIn K (.ref (cA K x)) (.type "BaseException") = some true
  t : PySem.W.typeIn K (.ref (cA K x)) = some (.type "type")
section
variable {Z : Zx} {W : WX}
/-! ### raise C(text) -/
def fRaise (e : XD) : Rho → R Fl := fun ρ => .ex e ρ
theorem s_raise {c : Str} : DS Z W (fun _ σ H => W (.ref (cA Z.K c)) none σ H) (fRaise ⟨c, none⟩) := fun Hf H O σ ρ s En p => p _ _ Hf H O σ s Gr.refl Orl.refl Kq.refl ⟨rfl, rfl⟩
theorem k_raise {X : Cx} {W : WX} (K : PySem.W.Frag) {x m : Str} {j : Nat} {p p2 pos pos' : Pos} (hc : X.calm = true) (tk : Takes X W) (F : ExF K X.mg x) (hg : Gl X x) (hdb : (x == ("__debug__" : Str)) = false := by decide) (hK : X.K = K := by rfl) :
    PS X (.Raise (some (.Call (.Name x p) [.Constant (.str m) j p2] [] pos)) none pos') (fun _ σ H => W (.ref (cA K x)) none σ H) := by
  subst hK
  exact ps_raise hc tk (pmk_own PySem.F.excBase_ValueError F.q F.g F.k (raises_own F.s F.t) hg hdb)
/-! ### try: .. except C as n: y = n -/
def ioS : Sl → Bool
  | .own true _ => true
  | _ => false
def fTryN (sub : Str → Option Bool) (fb : Rho → R Fl) (i j : Nat) : Rho → R Fl := fun ρ => match fb ρ with
  | .ex e ρ1 => (match sub e.c with
    | some true => (match ρ1[i]?, ρ1[j]? with
      | some si, some sj => if (ioS si || ioS sj || decide (i = j)) = true then .bad else .ok .nx ((ρ1.set j (.x e)).set i .no)
      | _, _ => .bad)
    | some false => .ex e ρ1
    | none => .bad)
  | r => r
theorem SR.putX {K : PySem.W.Frag} {Hf H : Hp} {O : Addr → Prop} {σ : L2.St} {ρ : Rho} (s : SR K Hf H O σ ρ) {i : Nat} {a : Addr} {e : XD} (hi : i < ρ.length) (r : XH K Hf a e) : SR K Hf H O (σ.set i (some (.ref a))) (ρ.set i (.x e)) where
  ex := s.ex
  otr := s.otr
  len := by simp [s.len]
  slot := fun j y h => by
    by_cases z : i = j
    · subst z; rw [List.getElem?_set_self hi] at h; cases h
    · rw [List.getElem?_set_ne z] at h ⊢; exact s.slot j y h
  own := fun j b xs h => by
    by_cases z : i = j
    · subst z; rw [List.getElem?_set_self hi] at h; cases h
    · rw [List.getElem?_set_ne z] at h ⊢; exact s.own j b xs h
  dis := fun j k b c xs ys l h1 h2 h3 h4 => by
    by_cases z : i = j
    · subst z; rw [List.getElem?_set_self hi] at h1; cases h1
    · by_cases z2 : i = k
      · subst z2; rw [List.getElem?_set_self hi] at h2; cases h2
      · rw [List.getElem?_set_ne z] at h1 h3
        rw [List.getElem?_set_ne z2] at h2 h4
        exact s.dis j k b c xs ys l h1 h2 h3 h4
  exc := fun j e' h => by
    by_cases z : i = j
    · subst z
      rw [List.getElem?_set_self hi] at h
      cases h
      exact ⟨a, List.getElem?_set_self (by rw [s.len]; exact hi), r⟩
    · rw [List.getElem?_set_ne z] at h ⊢; exact s.exc j e' h
/-- a slot forgotten -/
theorem SR.drop {K : PySem.W.Frag} {Hf H : Hp} {O : Addr → Prop} {σ : L2.St} {ρ : Rho} (s : SR K Hf H O σ ρ) {i : Nat} {u : Option V} (hi : i < ρ.length) : SR K Hf H O (σ.set i u) (ρ.set i .no) where
  ex := s.ex
  otr := s.otr
  len := by simp [s.len]
  slot := fun j y h => by
    by_cases z : i = j
    · subst z; rw [List.getElem?_set_self hi] at h; cases h
    · rw [List.getElem?_set_ne z] at h ⊢; exact s.slot j y h
  own := fun j b xs h => by
    by_cases z : i = j
    · subst z; rw [List.getElem?_set_self hi] at h; cases h
    · rw [List.getElem?_set_ne z] at h ⊢; exact s.own j b xs h
  dis := fun j k b c xs ys l h1 h2 h3 h4 => by
    by_cases z : i = j
    · subst z; rw [List.getElem?_set_self hi] at h1; cases h1
    · by_cases z2 : i = k
      · subst z2; rw [List.getElem?_set_self hi] at h2; cases h2
      · rw [List.getElem?_set_ne z] at h1 h3
        rw [List.getElem?_set_ne z2] at h2 h4
        exact s.dis j k b c xs ys l h1 h2 h3 h4
  exc := fun j e' h => by
    by_cases z : i = j
    · subst z; rw [List.getElem?_set_self hi] at h; cases h
    · rw [List.getElem?_set_ne z] at h ⊢; exact s.exc j e' h
theorem s_tryN {tb : WX → TS} {fb : Rho → R Fl} {c : Str} {i j : Nat} {sub : Str → Option Bool} (hsub : ∀ n b, sub n = some b → PySem.W.exmOne Z.K (.ref (cA Z.K n)) (.ref (cA Z.K c)) = some b) (hb : ∀ W', DS Z W' (tb W') fb) :
    DS Z W (fun D σ H => tb (wAsT Z.K (.ref (cA Z.K c)) i (fun _ _ _ => tAsg (tVar i) (gName j)) W D) D σ H) (fTryN sub fb i j) := by
  intro Hf H O σ ρ s En p
  refine hb _ Hf H O σ ρ s En ?_
  unfold fTryN at p
  cases ef : fb ρ with
  | bad => rw [ef] at p; exact p
  | ok fl ρ1 => rw [ef] at p; exact p
  | ex e ρ1 =>
    rw [ef] at p
    intro cls d Hf1 H1 O1 σ1 s1 g1 o1 k1 xr
    obtain ⟨rfl, xf⟩ := xr
    simp only at p
    cases es : sub e.c with
    | none => rw [es] at p; exact p.elim
    | some b =>
      rw [es] at p
      refine ⟨b, hsub _ _ es, fun hbt a na => ?_, fun hbf => ?_⟩
      · subst hbt
        cases ei : ρ1[i]? with
        | none => rw [ei] at p; exact p.elim
        | some si =>
          cases ej : ρ1[j]? with
          | none => rw [ei, ej] at p; exact p.elim
          | some sj =>
            rw [ei, ej] at p
            have p : PostS Z W O σ ρ Hf H En (if (ioS si || ioS sj || decide (i = j)) = true then .bad else .ok .nx ((ρ1.set j (.x e)).set i .no)) := p
            by_cases hc : (ioS si || ioS sj || decide (i = j)) = true
            · rw [if_pos hc] at p; exact p.elim
            · rw [if_neg hc] at p
              simp only [Bool.or_eq_true, not_or, decide_eq_true_eq] at hc
              obtain ⟨⟨c1, c2⟩, c3⟩ := hc
              have hi := (List.getElem?_eq_some_iff.mp ei).1
              have hj := (List.getElem?_eq_some_iff.mp ej).1
              have g2 := Pg.new (o := ExN (.ref (cA Z.K e.c)) d a) s1.ex na
              have s2 := s1.grow g2
              have xh : XH Z.K (upd Hf1 a (ExN (.ref (cA Z.K e.c)) d a)) a e := by
                unfold XH
                cases efs : e.fs with
                | none =>
                  rw [efs] at xf
                  have xf : d = none := xf
                  subst xf
                  exact upd_same
                | some fs =>
                  rw [efs] at xf
                  obtain ⟨dd, vs, rfl, h1, h2⟩ := xf
                  exact ⟨dd, vs, upd_same, g2.ef _ _ h1, h2.mono g2.ef⟩
              have s3 := (s2.putX hj xh).drop (i := i) (u := none) (by simpa using hi)
              show ∃ v, (σ1.set i (some (.ref a)))[i]? = some (some v) ∧ _
              refine ⟨.ref a, List.getElem?_set_self (by rw [s1.len]; exact hi), ?_⟩
              show En.nx (((σ1.set i (some (.ref a))).set j (some (.ref a))).set i none) _
              have eσ : ((σ1.set i (some (.ref a))).set j (some (.ref a))).set i none = (σ1.set j (some (.ref a))).set i none := by
                rw [List.set_comm _ _ (fun z => c3 z), List.set_set]
              rw [eσ]
              refine p _ _ O1 _ s3 (g1.transO g2.gr o1) o1 (k1.trans fun k xs ek => ?_)
              have zi : i ≠ k := fun z => by
                subst z
                rw [ei] at ek
                cases ek
                exact c1 rfl
              have zj : j ≠ k := fun z => by
                subst z
                rw [ej] at ek
                cases ek
                exact c2 rfl
              rw [List.getElem?_set_ne zi, List.getElem?_set_ne zj, List.getElem?_set_ne zi, List.getElem?_set_ne zj]
              exact ⟨⟨xs, ek⟩, rfl⟩
      · subst hbf
        exact p _ d Hf1 H1 O1 σ1 s1 g1 o1 k1 ⟨rfl, xf⟩
/-! ### isinstance(e, C), e is None -/
def fIsX (sub : Str → Option Bool) (i : Nat) : Rho → R AV := fun ρ => match ρ[i]? with
  | some (.x e) => (match sub e.c with
    | some b => .ok (.d (.bool b)) ρ
    | none => .bad)
  | _ => .bad
theorem d_isX {i : Nat} {cv : V} {cu : Value} {sub : Str → Option Bool} (hcv : ∀ u, RelV cv u → u = cu) (hsub : ∀ n b, sub n = some b → XcC Z.K (cA Z.K n) ∧ PySem.W.kitOne Z.K (.ref (cA Z.K n)) cu = some b) :
    DE Z W (tCB (rIsT Z.K) (tCons (tVar i) (tCons (tC cv) tNil))) (fIsX sub i) := by
  intro Hf H O σ ρ s Q p
  unfold fIsX at p
  cases e0 : ρ[i]? with
  | none => rw [e0] at p; exact p.elim
  | some z =>
    rw [e0] at p
    cases z with
    | no => exact p.elim
    | d _ => exact p.elim
    | own _ _ => exact p.elim
    | x e =>
      simp only at p
      cases es : sub e.c with
      | none => rw [es] at p; exact p.elim
      | some b =>
        rw [es] at p
        obtain ⟨a, h1, h2⟩ := s.exc i e e0
        obtain ⟨hx, hk⟩ := hsub _ _ es
        refine ⟨.ref a, h1, ?_⟩
        have q := p Hf H s Gr.refl Kp.refl (.bl b) (RD.bl b)
        unfold XH at h2
        cases efs : e.fs with
        | none =>
          rw [efs] at h2
          exact ⟨a, _, none, cv, cu, b, rfl, s.ex _ _ h2, (fun dd z => by cases z), hx, hcv, hk, q⟩
        | some fs =>
          rw [efs] at h2
          obtain ⟨dd, vs, h3, h4, h5⟩ := h2
          exact ⟨a, _, some dd, cv, cu, b, rfl, s.ex _ _ h3, (fun d' z => by cases z; exact ⟨vs, s.ex _ _ h4⟩), hx, hcv, hk, q⟩
def fIsNX (i : Nat) : Rho → R AV := fun ρ => match ρ[i]? with
  | some (.x _) => .ok (.d (.bool false)) ρ
  | some (.d v) => .ok (.d (.bool (isNon v))) ρ
  | _ => .bad
theorem d_isNX {i : Nat} : DE Z W (tOp (fun x y H Q => y = .non ∧ Q (.bl (decide (x = .non))) H) (tVar i) (tC .non)) (fIsNX i) := by
  intro Hf H O σ ρ s Q p
  unfold fIsNX at p
  cases e0 : ρ[i]? with
  | none => rw [e0] at p; exact p.elim
  | some z =>
    rw [e0] at p
    cases z with
    | no => exact p.elim
    | own _ _ => exact p.elim
    | d v =>
      obtain ⟨u, h1, h2⟩ := s.slot i v e0
      refine ⟨u, h1, rfl, ?_⟩
      have := RX.isNon (K := Z.K) (H := H) (.inl h2)
      rw [this]
      exact p Hf H s Gr.refl Kp.refl _ (RD.bl _)
    | x e =>
      obtain ⟨a, h1, h2⟩ := s.exc i e e0
      refine ⟨.ref a, h1, rfl, ?_⟩
      exact p Hf H s Gr.refl Kp.refl _ (RD.bl _)
/-! ### f(e, ..): an exception handed on -/
def kCallX (g : Rho → R RV) (s0 : Option Sl) (o : Option (List Pd)) (ρ1 : Rho) : R AV := match s0, o with
  | some (.x e), some xs => (match g (.x e :: xs.map Sl.d) with
    | .ok (.d x) _ => .ok (.d x) ρ1
    | .ex e _ => .ex e ρ1
    | _ => .bad)
  | _, _ => .bad
def fCallX (n i : Nat) (g : Rho → R RV) (fa : Rho → R (List AV)) : Rho → R AV := fun ρ => match ρ[i]? with
  | some (.x _) => (fa ρ).bind fun as ρ1 => kCallX g ρ1[i]? (argsD n as) ρ1
  | _ => .bad
theorem d_callX {n i : Nat} {g : Rho → R RV} {t : TA} {fa : Rho → R (List AV)} (ha : DA Z W t fa) : DE Z W (tCallS (spF Z (n + 1) g) (WE W) (tCons (tVar i) t)) (fCallX n i g fa) := by
  intro Hf H O σ ρ s Q p
  unfold fCallX at p
  cases e0 : ρ[i]? with
  | none => rw [e0] at p; exact p.elim
  | some z0 =>
    rw [e0] at p
    cases z0 with
    | no => exact p.elim
    | d _ => exact p.elim
    | own _ _ => exact p.elim
    | x e0' =>
      simp only at p
      obtain ⟨a0, h1, h2⟩ := s.exc i e0' e0
      refine ⟨.ref a0, h1, ?_⟩
      refine ha.bind s p fun as ρ1 vs Hf1 H1 s1 g1 k1 rs p1 => ?_
      cases e1 : ρ1[i]? with
      | none => rw [e1] at p1; exact p1.elim
      | some z1 =>
        rw [e1] at p1
        cases z1 with
        | no => exact p1.elim
        | d _ => exact p1.elim
        | own _ _ => exact p1.elim
        | x e =>
          obtain ⟨a, q1, q2⟩ := s1.exc i e e1
          rw [h1] at q1
          cases q1
          cases ed : argsD n as with
          | none => rw [ed] at p1; exact p1.elim
          | some xs =>
            rw [ed] at p1
            obtain ⟨r, hn⟩ := argsD_ok rs ed
            have ra := r.args s1.ex
            have sc : SR Z.K Hf1 H1 (fun _ => False) ((V.ref a0 :: vs).map some) (.x e :: xs.map Sl.d) := by
              refine ⟨s1.ex, fun a h => h.elim, by simp [r.length], fun j x h => ?_, fun j c x h => ?_, fun j k c d x y m b1 b2 _ _ => ?_, fun j e' h => ?_⟩
              · cases j with
                | zero => cases h
                | succ j => exact ra.slot j x h
              · cases j with
                | zero => cases h
                | succ j => obtain ⟨_, _, _, z, _⟩ := ra.own j c x h; exact z.elim
              · cases j with
                | zero => cases b1
                | succ j => obtain ⟨_, _, _, z, _⟩ := ra.own j c x b1; exact z.elim
              · cases j with
                | zero => cases h; exact ⟨a0, rfl, q2⟩
                | succ j => exact ra.exc j e' h
            have io : IoOk (fun _ => False) ((V.ref a0 :: vs).map some) (.x e :: xs.map Sl.d) := by
              refine ⟨fun j b x h => ?_, fun a h => h.elim⟩
              cases j with
              | zero => cases h
              | succ j => obtain ⟨_, _, _, z, _⟩ := ra.own j b x h; exact z.elim
            refine ⟨congrArg Nat.succ hn, Hf1, fun _ => False, .x e :: xs.map Sl.d, sc, io, ?_⟩
            unfold kCallX at p1
            simp only at p1
            cases eg : g (.x e :: xs.map Sl.d) with
            | bad => rw [eg] at p1; exact p1.elim
            | ex y as' =>
              rw [eg] at p1
              intro cls d Hf' H' s' g' xr
              have gp := g'.pg s'.ex
              exact p1 cls d Hf' H' (s1.grow gp) gp.gr Kp.refl xr
            | ok rv as' =>
              rw [eg] at p1
              cases rv with
              | l ys => exact p1.elim
              | d y =>
                intro v Hf' H' s' g' rd
                have gp := g'.pg s'.ex
                exact p1 Hf' H' (s1.grow gp) gp.gr Kp.refl v rd
end
section
variable {ρ : Rho} {i j n : Nat}
@[simp] theorem fRaise_ap {e : XD} : fRaise e ρ = .ex e ρ := rfl
@[simp] theorem fIsX_ap {sub : Str → Option Bool} : fIsX sub i ρ = (match ρ[i]? with | some (.x e) => (match sub e.c with | some b => .ok (.d (.bool b)) ρ | none => .bad) | _ => .bad) := rfl
@[simp] theorem fIsNX_ap : fIsNX i ρ = (match ρ[i]? with | some (.x _) => .ok (.d (.bool false)) ρ | some (.d v) => .ok (.d (.bool (isNon v))) ρ | _ => .bad) := rfl
@[simp] theorem fCallX_ap {g : Rho → R RV} {fa : Rho → R (List AV)} : fCallX n i g fa ρ = (match ρ[i]? with | some (.x _) => (fa ρ).bind fun as ρ1 => kCallX g ρ1[i]? (argsD n as) ρ1 | _ => .bad) := rfl
@[simp] theorem kCallX_some {g : Rho → R RV} {e : XD} {xs : List Pd} : kCallX g (some (.x e)) (some xs) ρ = (match g (.x e :: xs.map Sl.d) with | .ok (.d x) _ => .ok (.d x) ρ | .ex e _ => .ex e ρ | _ => .bad) := rfl
theorem fTryN_ok {sub : Str → Option Bool} {fb : Rho → R Fl} {fl : Fl} {ρ1 : Rho} (h : fb ρ = .ok fl ρ1) : fTryN sub fb i j ρ = .ok fl ρ1 := by
  unfold fTryN; rw [h]
theorem fTryN_ex {sub : Str → Option Bool} {fb : Rho → R Fl} {e : XD} {ρ1 : Rho} {si sj : Sl} (h : fb ρ = .ex e ρ1) (hs : sub e.c = some true) (hi : ρ1[i]? = some si) (hj : ρ1[j]? = some sj) (ni : ioS si = false) (nj : ioS sj = false) (hij : i ≠ j) :
    fTryN sub fb i j ρ = .ok .nx ((ρ1.set j (.x e)).set i .no) := by
  unfold fTryN
  rw [h]
  simp only [hs, hi, hj, ni, nj]
  simp [hij]
end
/-! ### which class lies under which, as the head tells it -/
def sbG (raised : List Str) (up : List (Str × Str)) (c n : Str) : Option Bool := if n ∈ raised then some (decide ((n, c) ∈ up)) else none
def okIs (K : PySem.W.Frag) (raised tested : List Str) (up : List (Str × Str)) : Bool := raised.all fun n => xcB K (cA K n) && tested.all fun c => decide (PySem.W.kitOne K (.ref (cA K n)) (.ref (cA K c)) = some (decide ((n, c) ∈ up)))
def okIsB (K : PySem.W.Frag) (raised : List Str) (c : Str) (v : Value) (up : List (Str × Str)) : Bool := raised.all fun n => xcB K (cA K n) && decide (PySem.W.kitOne K (.ref (cA K n)) v = some (decide ((n, c) ∈ up)))
def okEx (K : PySem.W.Frag) (raised caught : List Str) (up : List (Str × Str)) : Bool := raised.all fun n => caught.all fun c => decide (PySem.W.exmOne K (.ref (cA K n)) (.ref (cA K c)) = some (decide ((n, c) ∈ up)))
theorem sbG_some {raised : List Str} {up : List (Str × Str)} {c n : Str} {b : Bool} (h : sbG raised up c n = some b) : n ∈ raised ∧ b = decide ((n, c) ∈ up) := by
  unfold sbG at h
  split at h
  · next z => exact ⟨z, (Option.some.inj h).symm⟩
  · cases h
theorem okIs_ok {K : PySem.W.Frag} {raised tested : List Str} {up : List (Str × Str)} (h : okIs K raised tested up = true) (c : Str) (hc : decide (c ∈ tested) = true) (n : Str) (b : Bool) (e : sbG raised up c n = some b) : XcC K (cA K n) ∧ PySem.W.kitOne K (.ref (cA K n)) (.ref (cA K c)) = some b := by
  obtain ⟨hn, rfl⟩ := sbG_some e
  have := List.all_eq_true.mp h n hn
  simp only [Bool.and_eq_true] at this
  exact ⟨xcB_ok this.1, of_decide_eq_true (List.all_eq_true.mp this.2 c (of_decide_eq_true hc))⟩
theorem okIsB_ok {K : PySem.W.Frag} {raised : List Str} {c : Str} {v : Value} {up : List (Str × Str)} (h : okIsB K raised c v up = true) (n : Str) (b : Bool) (e : sbG raised up c n = some b) : XcC K (cA K n) ∧ PySem.W.kitOne K (.ref (cA K n)) v = some b := by
  obtain ⟨hn, rfl⟩ := sbG_some e
  have := List.all_eq_true.mp h n hn
  simp only [Bool.and_eq_true] at this
  exact ⟨xcB_ok this.1, of_decide_eq_true this.2⟩
theorem okEx_ok {K : PySem.W.Frag} {raised caught : List Str} {up : List (Str × Str)} (h : okEx K raised caught up = true) (c : Str) (hc : decide (c ∈ caught) = true) (n : Str) (b : Bool) (e : sbG raised up c n = some b) : PySem.W.exmOne K (.ref (cA K n)) (.ref (cA K c)) = some b := by
  obtain ⟨hn, rfl⟩ := sbG_some e
  exact of_decide_eq_true (List.all_eq_true.mp (List.all_eq_true.mp h n hn) c (of_decide_eq_true hc))
theorem kIsT {X : Cx} (K : PySem.W.Frag) (hK : X.K = K := by rfl) : CallR X (.builtin "isinstance") (rIsT K) := by subst hK; exact call_isT
end Dt
/-! exceptions with a field: made by an own __init__, the field read of a kept one -/
namespace Dt
open PySem PySem.Spec L2 Evl PyProof.Rows
section
variable {X : Cx} {o e : Expr} {es : List Expr} {to te : TE} {ta : TA} {f x : Str} {p p' p1 p2 pos : Pos} {L : Addr}
/-- what the head tells of the class whose __init__ is called -/
structure BaC (K : PySem.W.Frag) (L : Addr) : Prop where
  g : PySem.W.specialIn K (.ref L) "__getattribute__" = some (some (.builtin "type.__getattribute__"))
  r : PySem.W.readsIn K L (.type "type") = true
  i : (match PySem.W.findCls K (.ref L) (.type "type") "__init__" with | some (.val v) => v == .builtin "ValueError.__init__" | _ => false) = true
theorem BaC.init {K : PySem.W.Frag} (B : BaC K L) : PySem.W.findCls K (.ref L) (.type "type") "__init__" = some (.val (.builtin "ValueError.__init__")) := by
  have h := B.i
  split at h
  · next v e => rw [e, eq_of_beq h]
  · cases h
/-- L.__init__(self, ..), L an own class over ValueError -/
theorem pe_leinit {pl : Sem Bool} (hg : Gl X x) (hm : X.mg x = some (.ref L)) (B : BaC X.K L) (ha : PA X (e :: es) ta)
    (hc : eval (.Call (.Attribute (.Name x p1) "__init__" p2) (e :: es) [] pos) X.env = (do
      let ov ← eval (.Name x p1) X.env
      standAt p2.atName
      let (f, first) ← holding [ov] (getMethod ov "__init__" pl)
      callWith pos f first (backTo pos (starEach (e :: es) X.env)) (backToKw pos (keywordEach [] X.env))) := by rfl)
    (hdb : (x == ("__debug__" : Str)) = false := by decide)
    (he : starEach (e :: es) X.env = (false, eval e X.env) :: starEach es X.env := by rfl) (hpl : (backTo pos (starEach es X.env)).any (·.1) = false := by rfl) :
    PE X (.Call (.Attribute (.Name x p1) "__init__" p2) (e :: es) [] pos) (tVeI X.K ta) := by
  refine ⟨fun pins s σ H Q I h => ?_⟩
  refine PySem.W.methodCall_KW (ld_glob I hg hm ?_ hdb) hc
  refine PySem.W.method_cls I.kIn B.g (PySem.W.cls_value I.kIn B.r B.init (by decide +kernel) ?_)
  show wpAny _ _ (callWith pos (Value.builtin "ValueError.__init__") [] (backTo pos (starEach (e :: es) X.env)) []) _ _ _
  refine PyProof.Rows.callWith_method1 (thn (ha.run pos pins _ σ H _ (I.tok _) h) fun us s1 ⟨vs, H1, I1, r1, a, C, ws, ev, hl, T, ea, q⟩ => ?_) he hpl
  subst ev
  cases r1 with
  | @cons _ u0 _ ur ra rw' =>
    obtain rfl : u0 = Value.ref a := ra
    have hlen : ur.length ≤ sizeLine := by
      rw [← Paired.length rw', sizeLine_eq]
      omega
    exact oinit_ok T I1 ea hlen fun s' J => ⟨.non, H1, J, rfl, q⟩
/-! ### e.f of a kept exception -/
def tXfT (K : PySem.W.Frag) (f : Str) (te : TE) : TE := fun σ H Q => te σ H fun x H1 => ∃ (a C dd : Addr) (fs : List (Str × V)) (v : V), x = .ref a ∧ H1 a = some (ExN (.ref C) (some dd) a) ∧ XfC K C ∧ PySem.W.findIn K (.ref C) f = some none ∧ H1 dd = some (.xd fs) ∧ fs.lookup f = some v ∧ Q v H1
theorem pe_xfT {n : Str} (he : PE X e te) (hb : attributeBase e n X.env (eval e X.env) = eval e X.env := by rfl) : PE X (.Attribute e n pos) (tXfT X.K n te) := by
  refine ⟨fun pins s σ H Q I h => ?_⟩
  refine attr_of hb (thn (he.run pins s σ H _ I h) fun u s1 hh => ?_)
  obtain ⟨x, H1, I1, rx, a, C, dd, fs, v, ex, ha, T, hno, ea, l, q⟩ := hh
  subst ex
  obtain rfl : u = Value.ref a := rx
  obtain ⟨⟨oe, vs, hget, hz, hd⟩, _, _⟩ := I1.hok a _ ha
  have hx : ObjOk X.prog X.w H1 s1.heap dd (.xd fs) := I1.hok dd _ ea
  obtain ⟨mA, hns, hr⟩ := hx
  obtain ⟨od, ho, hl⟩ := lookIn_ns hns
  obtain ⟨u, hu, ru⟩ := RelO.some_of (v := v) (o := mA n) (by rw [← l]; exact hr n)
  have J : PySem.W.InstAt s1.heap a oe C (some od) := ⟨hget, hz.1, by unfold PySem.W.notCls; rw [hd] <;> rfl, by rw [hz.2]; exact ho⟩
  exact HandSPX.exc_get I1.kIn J T.ga T.gg T.exC (PySem.W.findObj_own T.hdC hno rfl (by rw [hl, hu])) (handed_of ru) ⟨v, H1, I1.tok _, ru, q⟩
end
/-! ### the __init__ that keeps one field; raise C(x) -/
def spI (C : Addr) (f : Str) : Sp := fun vs H Q _ => ∃ (a : Addr) (v : V), vs = [.ref a, v] ∧ H a = some (exo a C none) ∧ ∀ d, H d = none → d ≠ a → Q .non (upd (upd H d (exd d [(f, v)])) a (exo a C (some d)))
theorem init_ok {P : Program} {w : World} {K : PySem.W.Frag} {mg : Str → Option Value} {base : Heap} {x qual f : Str} {params : Arguments} {body : List Stmt} {scope : Scope} {fI C : Addr} {fd : FuncData} {ps : List Str} (F : FunD K x qual params body scope [] [] fI fd) (S : FnScope ps ps scope) (hl : ps.length = 2)
    (T : OexC K C) (hno : PySem.W.findIn K (.ref C) f = some none)
    (hb : ∀ (cdv : Value) (A : Around) (outer : List Env) (s : Shared) (H : Hp) (E : XK), PSs (cxOf (L2.CX P w) P w K mg base ps qual scope fI cdv A outer s H E) body (tSeq (tDrop (tVeI K (tCons (tVar 0) (tCons (tC (.str t)) tNil)))) (tOst K f (tVar 0) (tVar 1)))) :
    FnOk P w K mg base (L2.CX P w) 1 fI fd ps (spI C f) := by
  refine F.ok S (fun vs H Q E h => ?_) (fun cdv A outer s H vs Q E hr h => ?_)
  · obtain ⟨a, v, rfl, _⟩ := h
    rw [hl]; rfl
  · obtain ⟨a, v, rfl, ha, q⟩ := h
    refine ⟨_, hb cdv A outer s H E, ?_⟩
    have e0 : (L2.start ps [V.ref a, v])[0]? = some (some (.ref a)) := rfl
    have e1 : (L2.start ps [V.ref a, v])[1]? = some (some v) := rfl
    exact ⟨.ref a, e0, a, C, [.str t], rfl, by simp, T, ha, v, e1, .ref a, e0, a, C, rfl, T, hno, .inl ⟨ha, fun dx n ne => q dx n ne⟩⟩
def fRaiseP (c f : Str) (fe : Rho → R AV) : Rho → R Fl := fun ρ => (fe ρ).bind fun a ρ1 => match a with
  | .d x => .ex ⟨c, some [(f, x)]⟩ ρ1
  | .sl _ => .bad
theorem s_raiseP {Z : Zx} {W : WX} {c f : Str} {te : TE} {fe : Rho → R AV} (he : DE Z W te fe) : DS Z W (fun _ σ H => tMkO (cA Z.K c) (spI (cA Z.K c) f) [] (tCons te tNil) σ H fun cls d H' => W cls d σ H') (fRaiseP c f fe) := by
  intro Hf H O σ ρ s En p
  refine DJ.bindS he s p fun a ρ1 v Hf1 H1 s1 g1 k1 rv p1 => ?_
  cases a with
  | sl i => exact p1.elim
  | d x =>
    refine ⟨by simp, fun a na => ?_⟩
    refine ⟨a, v, rfl, upd_same, fun d nd ne => ⟨rfl, d, [(f, v)], upd_same, by rw [upd_ne ne, upd_same], by rw [upd_ne ne] at nd; exact nd, ?_⟩⟩
    rw [upd_ne ne] at nd
    have eh : upd (del (upd (upd (upd H1 a (exo a (cA Z.K c) none)) d (exd d [(f, v)])) a (exo a (cA Z.K c) (some d))) a) d (.xd [(f, v)]) = upd H1 d (.xd [(f, v)]) := by
      funext b
      by_cases hb : b = d
      · subst hb; rw [upd_same, upd_same]
      · rw [upd_ne hb, upd_ne hb]
        by_cases ha : b = a
        · subst ha; rw [del_same, na]
        · rw [del_ne ha, upd_ne ha, upd_ne hb, upd_ne ha]
    rw [eh]
    have g2 := Pg.new (o := HO.xd [(f, v)]) s1.ex nd
    exact p1 _ (some d) _ _ O σ (s1.grow g2) (g1.trans g2.gr) Orl.refl k1.kq ⟨rfl, d, [(f, v)], rfl, upd_same, .cons (RD.mono g2.ef rv) .nil⟩
/-- what the head tells of a class with its own __init__ -/
structure ExI (K : PySem.W.Frag) (mg : Str → Option Value) (x : Str) (fI : Addr) : Prop where
  g : mg x = some (.ref (cA K x))
  o : OexC K (cA K x)
  i : PySem.W.findIn K (.ref (cA K x)) "__init__" = some (some (.ref fI))
  t : PySem.W.typeIn K (.ref fI) = some (.type "function")
theorem k_raiseP {X : Cx} {W : WX} (K : PySem.W.Frag) {x f : Str} {e : Expr} {te : TE} {k : Nat} {fI : Addr} {fd : FuncData} {ps : List Str} {p pos pos' : Pos} (hc : X.calm = true) (tk : Takes X W) (F : ExI K X.mg x fI)
    (F1 : FnOk X.prog X.w K X.mg X.base (L2.CX X.prog X.w) k fI fd ps (spI (cA K x) f)) (hr : Room (k + 1) X.A) (hb : Binds K fd ps []) (hx : Passes (L2.CX X.prog X.w) X (fun _ _ _ => False)) (hg : Gl X x) (he : PE X e te)
    (hdb : (x == ("__debug__" : Str)) = false := by decide) (hst : starEach [e] X.env = (false, eval e X.env) :: starEach [] X.env := by rfl) (hpl : (backTo pos (starEach [] X.env)).any (·.1) = false := by rfl) (hK : X.K = K := by rfl) :
    PS X (.Raise (some (.Call (.Name x p) [e] [] pos)) none pos') (fun _ σ H => tMkO (cA K x) (spI (cA K x) f) [] (tCons te tNil) σ H fun cls d H' => W cls d σ H') := by
  subst hK
  exact ps_raise hc tk (pmk_oex F.o F.i F.t F1 hr hb .nil hx hg F.g (pa_cons he pa_nil (by exact hst)) hdb hst hpl)
/-! ### the field read -/
theorem RF.look {K : PySem.W.Frag} {H : Hp} {f : Str} {d : Pd} : ∀ {vs : List (Str × V)} {ds : List (Str × Pd)}, RF K H vs ds → ds.lookup f = some d → ∃ v, vs.lookup f = some v ∧ RD K H v d
  | _, _, .nil, h => by cases h
  | _, _, .cons (k := k) (v := v) (vs := vs) (d := d') (ds := ds) r rs, h => by
    rw [List.lookup_cons] at h ⊢
    cases e : f == k with
    | true => rw [e] at h; cases h; exact ⟨v, rfl, r⟩
    | false => rw [e] at h; exact RF.look rs h
def fXf (ok : Str → Bool) (i : Nat) (f : Str) : Rho → R AV := fun ρ => match ρ[i]? with
  | some (.x e) => (match ok e.c, e.fs with
    | true, some fs => (match fs.lookup f with
      | some v => .ok (.d v) ρ
      | none => .bad)
    | _, _ => .bad)
  | _ => .bad
theorem d_xf {Z : Zx} {W : WX} {i : Nat} {f : Str} {ok : Str → Bool} (hok : ∀ n, ok n = true → XfC Z.K (cA Z.K n) ∧ PySem.W.findIn Z.K (.ref (cA Z.K n)) f = some none) : DE Z W (tXfT Z.K f (tVar i)) (fXf ok i f) := by
  intro Hf H O σ ρ s Q p
  unfold fXf at p
  cases e0 : ρ[i]? with
  | none => rw [e0] at p; exact p.elim
  | some z =>
    rw [e0] at p
    cases z with
    | no => exact p.elim
    | d _ => exact p.elim
    | own _ _ => exact p.elim
    | x e =>
      simp only at p
      cases eo : ok e.c with
      | false => rw [eo] at p; exact p.elim
      | true =>
        rw [eo] at p
        obtain ⟨hx, hn⟩ := hok _ eo
        obtain ⟨a, h1, h2⟩ := s.exc i e e0
        unfold XH at h2
        cases efs : e.fs with
        | none => rw [efs] at p; exact p.elim
        | some fs =>
          rw [efs] at p h2
          obtain ⟨dd, vs, h3, h4, h5⟩ := h2
          simp only at p
          cases el : fs.lookup f with
          | none => rw [el] at p; exact p.elim
          | some d =>
            rw [el] at p
            obtain ⟨v, hv, rd⟩ := h5.look el
            exact ⟨.ref a, h1, a, _, dd, vs, v, rfl, s.ex _ _ h3, hx, hn, s.ex _ _ h4, hv, p Hf H s Gr.refl Kp.refl v rd⟩
theorem kXf {X : Cx} (K : PySem.W.Frag) {e : Expr} {te : TE} {n : Str} {pos : Pos} (he : PE X e te) (hb : attributeBase e n X.env (eval e X.env) = eval e X.env := by rfl) (hK : X.K = K := by rfl) : PE X (.Attribute e n pos) (tXfT K n te) := by
  subst hK
  exact pe_xfT he hb
section
variable {ρ : Rho} {i : Nat}
@[simp] theorem fRaiseP_ap {c f : Str} {fe : Rho → R AV} : fRaiseP c f fe ρ = (fe ρ).bind fun a ρ1 => (match a with | .d x => .ex ⟨c, some [(f, x)]⟩ ρ1 | .sl _ => .bad) := rfl
@[simp] theorem fXf_ap {ok : Str → Bool} {f : Str} : fXf ok i f ρ = (match ρ[i]? with
  | some (.x e) => (match ok e.c, e.fs with
    | true, some fs => (match fs.lookup f with
      | some v => .ok (.d v) ρ
      | none => .bad)
    | _, _ => .bad)
  | _ => .bad) := rfl
end
/-! ### the head's checks -/
def oexC0 (K : PySem.W.Frag) (C : Addr) : Bool := match K.lookup C with
  | some ⟨.type "type", _, .cls cd, sl⟩ => (match cd.mro, sl.toList with
    | .ref C' :: bm, [_, _, _, _, some (.builtin n), _] => C' == C && n == "ValueError.__new__" && !cd.hasDel && cd.hasDict && PySem.HandSPX.refsVE bm
    | _, _ => false)
  | _ => false
def oexB (K : PySem.W.Frag) (C : Addr) : Bool := oexC0 K C && (decide (PySem.W.findIn K (.ref C) "__setattr__" = some (some (.builtin "object.__setattr__"))) && (decide (PySem.W.subIn K (.ref C) (.type "BaseException") = some true) && (decide (PySem.W.typeIn K (.ref C) = some (.type "type")) && PySem.W.keepIn K (.ref C))))
theorem oexB_ok {K : PySem.W.Frag} {C : Addr} (h : oexB K C = true) : OexC K C := by
  unfold oexB at h
  simp only [Bool.and_eq_true, decide_eq_true_eq] at h
  obtain ⟨q, h2, h3, h4, h5⟩ := h
  refine ⟨?_, h2, h3, h4, h5⟩
  unfold oexC0 at q
  split at q
  · rename_i dd cd sl ho
    split at q
    · rename_i C' bm k0 k1 k2 k3 n k5 hm hs
      simp only [Bool.and_eq_true, beq_iff_eq, Bool.not_eq_true'] at q
      obtain ⟨⟨⟨⟨rfl, rfl⟩, hdel⟩, hdi⟩, ht⟩ := q
      obtain ⟨nm, bs, mro, ns, qn, hd, sn, sub, ab, col, del⟩ := cd
      dsimp only at hm hdel hdi
      subst hm hdel hdi
      have hsl : sl = #[k0, k1, k2, k3, some (.builtin "ValueError.__new__"), k5] := by
        obtain ⟨l⟩ := sl
        simp only at hs
        rw [hs]
      subst hsl
      exact ⟨nm, qn, ns, bs, bm, sn, sub, ab, col, dd, k0, k1, k2, k3, k5, ho, ht⟩
    · cases q
  · cases q
def bacB (K : PySem.W.Frag) (L : Addr) : Bool := decide (PySem.W.specialIn K (.ref L) "__getattribute__" = some (some (.builtin "type.__getattribute__"))) && (PySem.W.readsIn K L (.type "type") && (match PySem.W.findCls K (.ref L) (.type "type") "__init__" with | some (.val v) => v == .builtin "ValueError.__init__" | _ => false))
theorem bacB_ok {K : PySem.W.Frag} {L : Addr} (h : bacB K L = true) : BaC K L := by
  unfold bacB at h
  obtain ⟨h1, h⟩ := Bool.and_eq_true_iff.mp h
  obtain ⟨h2, h3⟩ := Bool.and_eq_true_iff.mp h
  exact ⟨of_decide_eq_true h1, h2, h3⟩
/-- a class with an own __init__ that keeps the field f, over the class b -/
def iniB (K : PySem.W.Frag) (x b f : Str) : Bool := oexB K (cA K x) && (bacB K (cA K b) && (decide (PySem.W.findIn K (.ref (cA K x)) "__init__" = some (some (.ref (He.ma K (cA K x) "__init__")))) && (decide (PySem.W.typeIn K (.ref (He.ma K (cA K x) "__init__")) = some (.type "function")) && (decide (PySem.W.findIn K (.ref (cA K x)) f = some none) && xfB K (cA K x)))))
/-- .. as the walk has it -/
structure InI (K : PySem.W.Frag) (mg : Str → Option Value) (x b f q : Str) (st : Stmt) where
  fd : FuncData
  F : FunD K "__init__" q (defArgs st) (defBody st) (defScope st) [] [] (He.ma K (cA K x) "__init__") fd
  E : ExI K mg x (He.ma K (cA K x) "__init__")
  B : BaC K (cA K b)
  no : PySem.W.findIn K (.ref (cA K x)) f = some none
  xf : XfC K (cA K x)
def InI.of {K : PySem.W.Frag} {mg : Str → Option Value} {x b f q : Str} {st : Stmt} {fd : FuncData} (F : FunD K "__init__" q (defArgs st) (defBody st) (defScope st) [] [] (He.ma K (cA K x) "__init__") fd) (g : mg x = some (.ref (cA K x))) (h : iniB K x b f = true) : InI K mg x b f q st := by
  unfold iniB at h
  simp only [Bool.and_eq_true, decide_eq_true_eq] at h
  exact ⟨fd, F, ⟨g, oexB_ok h.1, h.2.2.1, h.2.2.2.1⟩, bacB_ok h.2.1, h.2.2.2.2.1, xfB_ok h.2.2.2.2.2⟩
theorem passNo {X : Cx} {W : WX} (tk : Takes X W) : Passes (L2.CX X.prog X.w) X (fun _ _ _ => False) := fun _ σ _ _ e s' I c => tk e s' (XE.of_call I (fun _ _ _ h => h.elim) c)
/-! ### a hook whose fragment holds the interpreter's statics -/
def asE (g : Addr → Option Obj) (n : Nat) : List Addr := He.asD g n ++ [cStatics]
def obsE (n : Nat) (fa : List He.Fa) (fn : List He.DefD) (ex : PySem.W.Frag → Bool) (g : Addr → Option Obj) : He.AlD × Bool := (He.obsD fa fn (He.frG g (asE g n)), ex (He.frG g (asE g n)))
def hookE (n : Nat) (fa : List He.Fa) (fn : List He.DefD) (ex : PySem.W.Frag → Bool) : PySem.W.Hook where
  α := He.AlD × Bool
  obs := fun s => obsE n fa fn ex s.heap.get?
  val := fun _ => (He.valD fn, true)
  says := fun _ h => ∃ K : PySem.W.Frag, K.In h ∧ He.SaysD fa fn K ∧ ex K = true
  of := fun _ _ e => ⟨_, He.frG_in, congrArg Prod.fst e, congrArg Prod.snd e⟩
  keeps := fun _ _ _ ⟨K, hK, c⟩ k => ⟨K, PySem.W.Frag.In.keeps hK k, c⟩
theorem obsE_eq {n : Nat} {fa : List He.Fa} {fn : List He.DefD} {ex : PySem.W.Frag → Bool} {g : Addr → Option Obj} {s : Shared} (h : ∀ a, g a = s.heap.get? a) : obsE n fa fn ex g = (hookE n fa fn ex).obs s := by
  have e : g = s.heap.get? := funext h
  rw [e] <;> rfl
end Dt
namespace Dt
open PySem PySem.Spec L2 Evl
section
variable {A B : Type} {ρ ρ1 : Rho} {i j n : Nat} {x y : Pd}
@[simp] theorem bind_ok' {a : A} {k : A → Rho → R B} : (R.ok a ρ).bind k = k a ρ := rfl
@[simp] theorem bind_bad' {k : A → Rho → R B} : (R.bad : R A).bind k = .bad := rfl
@[simp] theorem bind_ex' {e : XD} {k : A → Rho → R B} : (R.ex e ρ : R A).bind k = .ex e ρ := rfl
theorem fVar_d (h : ρ[i]? = some (.d x)) : fVar i ρ = .ok (.d x) ρ := by unfold fVar; rw [h]
theorem fOwn_o {b : Bool} {xs : List Pd} (h : ρ[i]? = some (.own b xs)) : fOwn i ρ = .ok (.sl i) ρ := by unfold fOwn; rw [h]
@[simp] theorem fVar_ap : fVar i ρ = (match ρ[i]? with | some (.d x) => .ok (.d x) ρ | _ => .bad) := rfl
@[simp] theorem fOwn_ap : fOwn i ρ = (match ρ[i]? with | some (.own _ _) => .ok (.sl i) ρ | _ => .bad) := rfl
@[simp] theorem fC_ap : fC x ρ = .ok (.d x) ρ := rfl
@[simp] theorem res_d : res ρ (.d x) = some x := rfl
@[simp] theorem res_sl : res ρ (.sl i) = (match ρ[i]? with | some (.own _ xs) => some (.list xs) | some (.d x) => some x | _ => none) := rfl
@[simp] theorem f2_ap {h : Pd → Pd → Option Pd} {fa fb : Rho → R AV} : f2 h fa fb ρ = (fa ρ).bind fun a ρ1 => (fb ρ1).bind fun b ρ2 => op2 h a b ρ2 := rfl
@[simp] theorem op2_ap {h : Pd → Pd → Option Pd} {a b : AV} : op2 h a b ρ = (match res ρ a, res ρ b with | some x, some y => (match h x y with | some z => .ok (.d z) ρ | none => .bad) | _, _ => .bad) := rfl
@[simp] theorem f1_ap {h : Pd → Option Pd} {fa : Rho → R AV} : f1 h fa ρ = (fa ρ).bind fun a ρ1 => op1 h a ρ1 := rfl
@[simp] theorem op1_ap {h : Pd → Option Pd} {a : AV} : op1 h a ρ = (match res ρ a with | some x => (match h x with | some z => .ok (.d z) ρ | none => .bad) | _ => .bad) := rfl
@[simp] theorem fNil_ap : fNil ρ = .ok [] ρ := rfl
@[simp] theorem fCons_ap {fa : Rho → R AV} {fr : Rho → R (List AV)} : fCons fa fr ρ = (fa ρ).bind fun a ρ1 => (fr ρ1).bind fun as ρ2 => .ok (a :: as) ρ2 := rfl
@[simp] theorem ress_nil : ress ρ [] = some [] := rfl
@[simp] theorem ress_cons {a : AV} {as : List AV} : ress ρ (a :: as) = (match res ρ a, ress ρ as with | some x, some xs => some (x :: xs) | _, _ => none) := rfl
@[simp] theorem datas_nil : datas [] = some [] := rfl
@[simp] theorem datas_cons {as : List AV} : datas (.d x :: as) = (match datas as with | some xs => some (x :: xs) | none => none) := rfl
@[simp] theorem fTup_ap {fa : Rho → R (List AV)} : fTup fa ρ = (fa ρ).bind fun as ρ1 => (match datas as with | some xs => if xs.length ≤ sizeLine then .ok (.d (.tuple xs)) ρ1 else .bad | none => .bad) := rfl
@[simp] theorem fLst_ap {fa : Rho → R (List AV)} : fLst fa ρ = (fa ρ).bind fun as ρ1 => (match datas as with | some xs => if xs.length ≤ sizeLine then .ok xs ρ1 else .bad | none => .bad) := rfl
@[simp] theorem fL_ap {f : Rho → R (List Pd)} : fL f ρ = (f ρ).bind fun xs ρ1 => .ok (.d (.list xs)) ρ1 := rfl
@[simp] theorem rB_ap {a : AV} : rB a ρ = (match res ρ a with | some (.bool b) => .ok b ρ | _ => .bad) := rfl
@[simp] theorem fTest_ap {f : Rho → R AV} : fTest f ρ = (f ρ).bind rB := rfl
@[simp] theorem fAnd_ap {f g : Rho → R Bool} : fAnd f g ρ = (f ρ).bind fun b ρ1 => if b = true then g ρ1 else .ok false ρ1 := rfl
@[simp] theorem fOr_ap {f g : Rho → R Bool} : fOr f g ρ = (f ρ).bind fun b ρ1 => if b = true then .ok true ρ1 else g ρ1 := rfl
@[simp] theorem fNot_ap {f : Rho → R Bool} : fNot f ρ = (f ρ).bind fun b ρ1 => .ok (!b) ρ1 := rfl
@[simp] theorem fAndV_ap {f g : Rho → R AV} : fAndV f g ρ = (f ρ).bind fun a ρ1 => (rB a ρ1).bind fun b ρ2 => if b = true then g ρ2 else .ok (.d (.bool false)) ρ2 := rfl
@[simp] theorem fOrV_ap {f g : Rho → R AV} : fOrV f g ρ = (f ρ).bind fun a ρ1 => (rB a ρ1).bind fun b ρ2 => if b = true then .ok (.d (.bool true)) ρ2 else g ρ2 := rfl
@[simp] theorem fNotV_ap {f : Rho → R AV} : fNotV f ρ = (f ρ).bind fun a ρ1 => (rB a ρ1).bind fun b ρ2 => .ok (.d (.bool (!b))) ρ2 := rfl
@[simp] theorem fIf_ap {c : Rho → R Bool} {f g : Rho → R AV} : fIf c f g ρ = (c ρ).bind fun b ρ1 => if b = true then f ρ1 else g ρ1 := rfl
@[simp] theorem fChain_ap {h h' : Pd → Pd → Option Pd} {fa fb fc : Rho → R AV} : fChain h h' fa fb fc ρ = (fa ρ).bind fun a ρ1 => (fb ρ1).bind fun b ρ2 => (op2 h a b ρ2).bind fun z ρ3 => (rB z ρ3).bind fun k ρ4 =>
  if k = true then (fc ρ4).bind fun c ρ5 => op2 h' b c ρ5 else .ok (.d (.bool false)) ρ4 := rfl
@[simp] theorem fCB_ap {h : List Pd → Option Pd} {fa : Rho → R (List AV)} : fCB h fa ρ = (fa ρ).bind fun as ρ1 => (match ress ρ1 as with | some xs => (match h xs with | some z => .ok (.d z) ρ1 | none => .bad) | none => .bad) := rfl
@[simp] theorem fCBL_ap {h : List Pd → Option (List Pd)} {fa : Rho → R (List AV)} : fCBL h fa ρ = (fa ρ).bind fun as ρ1 => (match ress ρ1 as with | some xs => (match h xs with | some z => .ok z ρ1 | none => .bad) | none => .bad) := rfl
@[simp] theorem fNoPart_ap : fNoPart ρ = .ok none ρ := rfl
@[simp] theorem fPart_ap {f : Rho → R AV} : fPart f ρ = (f ρ).bind fun a ρ1 => (match res ρ1 a with | some (.int i) => .ok (some i) ρ1 | _ => .bad) := rfl
@[simp] theorem fSl_ap {h : Pd → Option Int → Option Int → Option Pd} {fe : Rho → R AV} {fl fh : Rho → R (Option Int)} : fSl h fe fl fh ρ = (fe ρ).bind fun a ρ1 => (fl ρ1).bind fun lo ρ2 => (fh ρ2).bind fun hi ρ3 => (match res ρ3 a with | some x => (match h x lo hi with | some z => .ok (.d z) ρ3 | none => .bad) | none => .bad) := rfl
@[simp] theorem fM1_ap {h : Pd → List Pd → Option Pd} {fo fa : Rho → R AV} : fM1 h fo fa ρ = (fo ρ).bind fun o ρ1 => (match res ρ1 o with
  | some (.str x) => (fa ρ1).bind fun a ρ2 => (match res ρ2 a with | some y => (match h (.str x) [y] with | some z => .ok (.d z) ρ2 | none => .bad) | _ => .bad)
  | _ => .bad) := rfl
@[simp] theorem fM0_ap {h : Pd → List Pd → Option Pd} {fo : Rho → R AV} : fM0 h fo ρ = (fo ρ).bind fun o ρ1 => (match res ρ1 o with | some (.str x) => (match h (.str x) [] with | some z => .ok (.d z) ρ1 | none => .bad) | _ => .bad) := rfl
@[simp] theorem fItL_ap {f : Rho → R AV} : fItL f ρ = (f ρ).bind fun a ρ1 => (match a with | .d (.list xs) => .ok xs ρ1 | _ => .bad) := rfl
@[simp] theorem fItT_ap {f : Rho → R AV} : fItT f ρ = (f ρ).bind fun a ρ1 => (match a with | .d (.tuple xs) => .ok xs ρ1 | _ => .bad) := rfl
@[simp] theorem fItS_ap {f : Rho → R AV} : fItS f ρ = (f ρ).bind fun a ρ1 => (match a with | .d (.str x) => .ok (chars x) ρ1 | _ => .bad) := rfl
@[simp] theorem fRng1_ap {f : Rho → R (List AV)} : fRng1 f ρ = (f ρ).bind fun as ρ1 => (match as with | [.d (.int j)] => if -(2 ^ 62) ≤ j ∧ j < 2 ^ 62 then .ok (nums 0 j.toNat) ρ1 else .bad | _ => .bad) := rfl
@[simp] theorem fRng2_ap {f : Rho → R (List AV)} : fRng2 f ρ = (f ρ).bind fun as ρ1 => (match as with | [.d (.int i), .d (.int j)] => if (-(2 ^ 62) ≤ i ∧ i < 2 ^ 62) ∧ -(2 ^ 62) ≤ j ∧ j < 2 ^ 62 then .ok (nums i (j - i).toNat) ρ1 else .bad | _ => .bad) := rfl
@[simp] theorem fLc_ap {fi : Rho → R (List Pd)} {h : Pd → Rho → Option Rho} {ft : Rho → R Bool} {fe : Rho → R AV} {vs : List Nat} : fLc fi h ft fe vs ρ = if okW ρ vs = true then (fi ρ).bind fun xs ρ1 => lcRun h ft fe vs xs [] (wipeR ρ1 vs) else .bad := rfl
@[simp] theorem okW_nil : okW ρ [] = true := rfl
@[simp] theorem okW_cons {v : Nat} {vs : List Nat} : okW ρ (v :: vs) = ((match ρ[v]? with | some (.own _ _) => false | _ => true) && okW ρ vs) := rfl
@[simp] theorem wipeR_nil : wipeR ρ [] = ρ := rfl
@[simp] theorem wipeR_cons {v : Nat} {vs : List Nat} : wipeR ρ (v :: vs) = (wipeR ρ vs).set v .no := rfl
@[simp] theorem lcRun_nil {h : Pd → Rho → Option Rho} {ft : Rho → R Bool} {fe : Rho → R AV} {vs : List Nat} {acc : List Pd} : lcRun h ft fe vs [] acc ρ = .ok acc ρ := rfl
@[simp] theorem fNx_ap : fNx ρ = .ok .nx ρ := rfl
@[simp] theorem fSeq_ap {f g : Rho → R Fl} : fSeq f g ρ = (match f ρ with | .ok .nx ρ1 => g ρ1 | r => r) := rfl
@[simp] theorem fIfS_ap {c : Rho → R Bool} {f g : Rho → R Fl} : fIfS c f g ρ = (c ρ).bind fun b ρ1 => if b = true then f ρ1 else g ρ1 := rfl
@[simp] theorem fRet_ap {f : Rho → R AV} : fRet f ρ = (f ρ).bind fun a ρ1 => (match a with | .d x => .ok (.rt x) ρ1 | .sl _ => .bad) := rfl
@[simp] theorem fRetL_ap {f : Rho → R (List Pd)} : fRetL f ρ = (f ρ).bind fun xs ρ1 => .ok (.rl xs) ρ1 := rfl
@[simp] theorem fRetN_ap : fRetN ρ = .ok (.rt .none) ρ := rfl
@[simp] theorem fDrop_ap {f : Rho → R AV} : fDrop f ρ = (f ρ).bind fun _ ρ1 => .ok .nx ρ1 := rfl
@[simp] theorem fAsg_ap {f : Rho → R AV} {h : Pd → Rho → Option Rho} : fAsg f h ρ = (f ρ).bind fun a ρ1 => (match a with | .d x => (match h x ρ1 with | some ρ2 => .ok .nx ρ2 | none => .bad) | .sl _ => .bad) := rfl
@[simp] theorem fSetO_ap {f : Rho → R (List Pd)} : fSetO f i ρ = (f ρ).bind fun xs ρ1 => (match putOwn i xs ρ1 with | some ρ2 => .ok .nx ρ2 | none => .bad) := rfl
@[simp] theorem fApp_ap {f : Rho → R AV} : fApp i f ρ = (match ρ[i]? with
  | some (.own _ _) => (f ρ).bind fun a ρ1 => (match a, ρ1[i]? with | .d y, some (.own b xs) => if xs.length < sizeLine then .ok .nx (ρ1.set i (.own b (xs ++ [y]))) else .bad | _, _ => .bad)
  | _ => .bad) := rfl
@[simp] theorem fExt_ap {f : Rho → R (List Pd)} : fExt i f ρ = (match ρ[i]? with
  | some (.own _ _) => (f ρ).bind fun ys ρ1 => (match ρ1[i]? with | some (.own b xs) => if xs.length + ys.length ≤ sizeLine then .ok .nx (ρ1.set i (.own b (xs ++ ys))) else .bad | _ => .bad)
  | _ => .bad) := rfl
@[simp] theorem fSetI_ap {f fk : Rho → R AV} : fSetI i f fk ρ = (f ρ).bind fun a ρ1 => (match a, ρ1[i]? with
  | .d y, some (.own _ _) => (fk ρ1).bind fun k ρ2 => (match k, ρ2[i]? with | .d (.int n), some (.own b xs) => (match ixN xs.length n with | some j => .ok .nx (ρ2.set i (.own b (xs.set j y))) | none => .bad) | _, _ => .bad)
  | _, _ => .bad) := rfl
@[simp] theorem fFrz_ap {f : Rho → R Fl} : fFrz i f ρ = f (frz i ρ) := rfl
@[simp] theorem frz_ap : frz i ρ = (match ρ[i]? with | some (.own false xs) => ρ.set i (.d (.list xs)) | _ => ρ) := rfl
@[simp] theorem fFor_ap {fi : Rho → R (List Pd)} {h : Pd → Rho → Option Rho} {fb : Rho → R Fl} : fFor fi h fb ρ = (fi ρ).bind fun xs ρ1 => forRun h fb xs ρ1 := rfl
@[simp] theorem forRun_nil {h : Pd → Rho → Option Rho} {fb : Rho → R Fl} : forRun h fb [] ρ = .ok .nx ρ := rfl
@[simp] theorem fCall_ap {g : Rho → R RV} {fa : Rho → R (List AV)} : fCall n g fa ρ = (fa ρ).bind fun as ρ1 => kCall g (argsD n as) ρ1 := rfl
@[simp] theorem fCallL_ap {g : Rho → R RV} {fa : Rho → R (List AV)} : fCallL n g fa ρ = (fa ρ).bind fun as ρ1 => kCallL g (argsD n as) ρ1 := rfl
@[simp] theorem fCallP_ap {g : Rho → R RV} {fa : Rho → R (List AV)} : fCallP n i g fa ρ = (match ρ[i]? with | some (.own _ _) => (fa ρ).bind fun as ρ1 => kCallP i g (argsD n as) ρ1 | _ => .bad) := rfl
@[simp] theorem fCallPL_ap {g : Rho → R RV} {fa : Rho → R (List AV)} : fCallPL n i g fa ρ = (match ρ[i]? with | some (.own _ _) => (fa ρ).bind fun as ρ1 => kCallPL i g (argsD n as) ρ1 | _ => .bad) := rfl
@[simp] theorem argsD_ap {as : List AV} : argsD n as = (match datas as with | some xs => if xs.length = n then some xs else none | none => none) := rfl
@[simp] theorem kCall_some {g : Rho → R RV} {xs : List Pd} : kCall g (some xs) ρ = (match g (xs.map Sl.d) with | .ok (.d x) _ => .ok (.d x) ρ | .ex e _ => .ex e ρ | _ => .bad) := rfl
@[simp] theorem kCallL_some {g : Rho → R RV} {xs : List Pd} : kCallL g (some xs) ρ = (match g (xs.map Sl.d) with | .ok (.l x) _ => .ok x ρ | .ex e _ => .ex e ρ | _ => .bad) := rfl
@[simp] theorem kCallP_some {g : Rho → R RV} {xs : List Pd} : kCallP i g (some xs) ρ = (match ρ[i]? with
  | some (.own b ps) => (match g (.own true ps :: xs.map Sl.d) with | .ok (.d x) (.own _ ps' :: _) => .ok (.d x) (ρ.set i (.own b ps')) | .ex e (.own _ ps' :: _) => .ex e (ρ.set i (.own b ps')) | _ => .bad)
  | _ => .bad) := by
  unfold kCallP
  cases e : ρ[i]? with
  | none => rfl
  | some z => cases z <;> rfl
@[simp] theorem kCallPL_some {g : Rho → R RV} {xs : List Pd} : kCallPL i g (some xs) ρ = (match ρ[i]? with
  | some (.own b ps) => (match g (.own true ps :: xs.map Sl.d) with | .ok (.l x) (.own _ ps' :: _) => .ok x (ρ.set i (.own b ps')) | .ex e (.own _ ps' :: _) => .ex e (ρ.set i (.own b ps')) | _ => .bad)
  | _ => .bad) := by
  unfold kCallPL
  cases e : ρ[i]? with
  | none => rfl
  | some z => cases z <;> rfl
/-- a slot that may be stored to -/
def isIo : Sl → Bool
  | .own true _ => true
  | _ => false
@[simp] theorem isIo_no : isIo .no = false := rfl
@[simp] theorem isIo_d : isIo (.d x) = false := rfl
@[simp] theorem isIo_x {e : XD} : isIo (.x e) = false := rfl
@[simp] theorem isIo_of {xs : List Pd} : isIo (.own false xs) = false := rfl
theorem put_eq : put i x ρ = (match ρ[i]? with | some s => if isIo s = true then none else some (ρ.set i (.d x)) | none => none) := by
  unfold put
  cases e : ρ[i]? with
  | none => rfl
  | some s => cases s with
    | no => rfl
    | x _ => rfl
    | d y => rfl
    | own b xs => cases b <;> rfl
theorem putOwn_eq {xs : List Pd} : putOwn i xs ρ = (match ρ[i]? with | some s => if isIo s = true then none else some (ρ.set i (.own false xs)) | none => none) := by
  unfold putOwn
  cases e : ρ[i]? with
  | none => rfl
  | some s => cases s with
    | no => rfl
    | x _ => rfl
    | d y => rfl
    | own b xs => cases b <;> rfl
@[simp] theorem putNil_nil : putNil [] ρ = some ρ := rfl
@[simp] theorem putCons_cons {h : Pd → Rho → Option Rho} {k : List Pd → Rho → Option Rho} {xs : List Pd} : putCons h k (x :: xs) ρ = (match h x ρ with | some ρ1 => k xs ρ1 | none => none) := rfl
@[simp] theorem putTup_tup {k : List Pd → Rho → Option Rho} {xs : List Pd} : putTup n k (.tuple xs) ρ = if xs.length = n then k xs ρ else none := rfl
@[simp] theorem endF_rt {as : Rho} : endF as (.ok (.rt x) ρ) = .ok (.d x) (outs as ρ) := rfl
@[simp] theorem endF_rl {as : Rho} {xs : List Pd} : endF as (.ok (.rl xs) ρ) = .ok (.l xs) (outs as ρ) := rfl
@[simp] theorem endF_nx {as : Rho} : endF as (.ok .nx ρ) = .ok (.d .none) (outs as ρ) := rfl
@[simp] theorem endF_ex {as : Rho} {e : XD} : endF as (.ex e ρ) = .ex e (outs as ρ) := rfl
@[simp] theorem outs_nil : outs [] ρ = [] := rfl
@[simp] theorem outs_d {as : Rho} {z : Sl} : outs (.d x :: as) (z :: ρ) = .d x :: outs as ρ := rfl
@[simp] theorem outs_x {as : Rho} {e : XD} {z : Sl} : outs (.x e :: as) (z :: ρ) = .x e :: outs as ρ := rfl
@[simp] theorem outs_o {as : Rho} {z : Sl} {xs : List Pd} : outs (.own true xs :: as) (z :: ρ) = z :: outs as ρ := rfl
end
/-! ### data operations at known kinds -/
section
variable {i j : Int} {a b : Str} {xs ys : List Pd} {x y : Pd}
@[simp] theorem addD_int : addD (.int i) (.int j) = some (.int (i + j)) := rfl
@[simp] theorem addD_str : addD (.str a) (.str b) = if a.length + b.length ≤ sizeLine then some (.str (a ++ b)) else none := rfl
@[simp] theorem addD_list : addD (.list xs) (.list ys) = if xs.length + ys.length ≤ sizeLine then some (.list (xs ++ ys)) else none := rfl
@[simp] theorem addD_tuple : addD (.tuple xs) (.tuple ys) = if xs.length + ys.length ≤ sizeLine then some (.tuple (xs ++ ys)) else none := rfl
@[simp] theorem subD_int : subD (.int i) (.int j) = some (.int (i - j)) := rfl
@[simp] theorem mulD_int : mulD (.int i) (.int j) = if mulOk i j = true then some (.int (i * j)) else none := rfl
@[simp] theorem modD_int : modD (.int i) (.int j) = if 0 < j then some (.int (i % j)) else none := by simp [modD, intD]
@[simp] theorem fdivD_int : fdivD (.int i) (.int j) = if 0 < j ∧ j.natAbs.log2 < 9000 then some (.int (i / j)) else none := by simp [fdivD, intD]
@[simp] theorem powD_int : powD (.int i) (.int j) = if 0 ≤ j ∧ j ≤ 1000000 ∧ i.natAbs < 2 ^ 64 then some (.int (i ^ j.toNat)) else none := by simp [powD, intD]
@[simp] theorem leD_int : leD (.int i) (.int j) = some (.bool (decide (i ≤ j))) := rfl
@[simp] theorem gtD_int : gtD (.int i) (.int j) = some (.bool (decide (j < i))) := rfl
@[simp] theorem geD_int : geD (.int i) (.int j) = some (.bool (decide (j ≤ i))) := rfl
@[simp] theorem ltD_int : ltD (.int i) (.int j) = some (.bool (decide (i < j))) := rfl
@[simp] theorem ltD_str : ltD (.str a) (.str b) = some (.bool (decide (a.cps.toList < b.cps.toList))) := rfl
@[simp] theorem negD_int : negD (.int i) = some (.int (-i)) := rfl
@[simp] theorem eqD_int : eqD (.int i) (.int j) = some (.bool (decide (i = j))) := rfl
@[simp] theorem eqD_str : eqD (.str a) (.str b) = some (.bool (decide (a = b))) := rfl
@[simp] theorem neD_int : neD (.int i) (.int j) = some (.bool (!decide (i = j))) := rfl
@[simp] theorem neD_str : neD (.str a) (.str b) = some (.bool (!decide (a = b))) := rfl
theorem eqB_list : eqB (.list xs) (.list ys) = if sh 60 (.list xs) = true ∧ sh 60 (.list ys) = true then some (PyData.eqvAll xs ys) else none := rfl
theorem eqB_tuple : eqB (.tuple xs) (.tuple ys) = if sh 60 (.tuple xs) = true ∧ sh 60 (.tuple ys) = true then some (PyData.eqvAll xs ys) else none := rfl
theorem sh_list {n : Nat} : sh (n + 1) (.list xs) = xs.all (sh n) := rfl
theorem sh_tuple {n : Nat} : sh (n + 1) (.tuple xs) = xs.all (sh n) := rfl
@[simp] theorem sh_int {n : Nat} : sh n (.int i) = true := by cases n <;> rfl
@[simp] theorem sh_bool {n : Nat} {k : Bool} : sh n (.bool k) = true := by cases n <;> rfl
@[simp] theorem sh_none {n : Nat} : sh n .none = true := by cases n <;> rfl
@[simp] theorem sh_str {n : Nat} : sh n (.str a) = PyData.strOk a := by cases n <;> rfl
@[simp] theorem ixD_list : ixD (.list xs) (.int i) = atI xs i := rfl
@[simp] theorem ixD_tuple : ixD (.tuple xs) (.int i) = atI xs i := rfl
@[simp] theorem ixD_str : ixD (.str a) (.int i) = if a.length ≤ sizeLine then (atI a.cps.toList i).map fun c => .str ⟨#[c]⟩ else none := rfl
@[simp] theorem slD_list {lo hi : Option Int} : slD (.list xs) lo hi = some (.list (cutD xs lo hi)) := rfl
@[simp] theorem slD_tuple {lo hi : Option Int} : slD (.tuple xs) lo hi = some (.tuple (cutD xs lo hi)) := rfl
@[simp] theorem slD_str {lo hi : Option Int} : slD (.str a) lo hi = if a.length ≤ sizeLine then some (.str (cutS a lo hi)) else none := rfl
@[simp] theorem lenD_list : lenD [.list xs] = some (.int xs.length) := rfl
@[simp] theorem lenD_tuple : lenD [.tuple xs] = some (.int xs.length) := rfl
@[simp] theorem lenD_str : lenD [.str a] = if a.length ≤ sizeLine then some (.int a.length) else none := rfl
@[simp] theorem absD_int : absD [.int i] = some (.int (if i < 0 then -i else i)) := rfl
@[simp] theorem strD_int : strD [.int i] = if i.natAbs.log2 < 1920 then some (.str (toString i)) else none := rfl
@[simp] theorem tupleD_list : tupleD [.list xs] = some (.tuple xs) := rfl
@[simp] theorem tupleD_tuple : tupleD [.tuple xs] = some (.tuple xs) := rfl
@[simp] theorem listD_list : listD [.list xs] = some xs := rfl
@[simp] theorem listD_tuple : listD [.tuple xs] = some xs := rfl
@[simp] theorem allD_list : allD [.list xs] = (boolsD xs).map fun bs => .bool (bs.all id) := rfl
@[simp] theorem anyD_list : anyD [.list xs] = (boolsD xs).map fun bs => .bool (bs.any id) := rfl
@[simp] theorem sumD_list : sumD [.list xs] = (intsD xs).map fun bs => .int bs.sum := rfl
@[simp] theorem upperD_str : upperD (.str a) [] = if a.length ≤ 5592405 then some (.str (Txt.upper a)) else none := rfl
@[simp] theorem isiD_int (d : Pd) : isiD "int" d = some (.bool (isIntD d)) := isi_int d
@[simp] theorem isiD_bool (d : Pd) : isiD "bool" d = some (.bool (isBoolD d)) := isi_bool d
@[simp] theorem isiD_str (d : Pd) : isiD "str" d = some (.bool (isStrD d)) := isi_str d
@[simp] theorem isiD_tuple (d : Pd) : isiD "tuple" d = some (.bool (isTupD d)) := isi_tuple d
@[simp] theorem isiD_list (d : Pd) : isiD "list" d = some (.bool (isLstD d)) := isi_list d
theorem boolsD_map (f : Pd → Bool) (l : List Pd) : boolsD (l.map fun x => .bool (f x)) = some (l.map f) := by
  induction l with
  | nil => rfl
  | cons x l ih => simp only [List.map_cons, boolsD]; rw [ih]
theorem boolsD_all (f : Pd → Bool) (l : List Pd) : allD [.list (l.map fun x => .bool (f x))] = some (.bool (l.all f)) := by
  rw [allD_list, boolsD_map]
  simp
theorem bits_le {i : Int} {n : Nat} (h : i.natAbs < 2 ^ n) : bits i ≤ n := PyProof.Rows.intBits_le h
end
end Dt
namespace Dt
open PySem PySem.Spec L2 Evl
/-! ### comprehensions and loops by what they leave -/
section
variable {h : Pd → Rho → Option Rho} {ft : Rho → R Bool} {fe : Rho → R AV} {vs : List Nat} {fb : Rho → R Fl}
theorem lc_cons_yes {x y : Pd} {xs acc : List Pd} {ρ ρ1 ρ2 ρ3 : Rho} (e1 : h x ρ = some ρ1) (e2 : ft ρ1 = .ok true ρ2) (e3 : fe ρ2 = .ok (.d y) ρ3) (hl : acc.length < sizeLine) :
    lcRun h ft fe vs (x :: xs) acc ρ = lcRun h ft fe vs xs (acc ++ [y]) (wipeR ρ3 vs) := by
  simp only [lcRun, e1, e2, e3, if_pos hl]
theorem lc_cons_no {x : Pd} {xs acc : List Pd} {ρ ρ1 ρ2 : Rho} (e1 : h x ρ = some ρ1) (e2 : ft ρ1 = .ok false ρ2) :
    lcRun h ft fe vs (x :: xs) acc ρ = lcRun h ft fe vs xs acc (wipeR ρ2 vs) := by
  simp only [lcRun, e1, e2]
theorem lc_inv (I : Nat → List Pd → Rho → Prop) {xs : List Pd} (step : ∀ (i : Nat) x acc ρ, xs[i]? = some x → I i acc ρ →
      ∃ ρ1 ρ2 ρ3 y, h x ρ = some ρ1 ∧ ft ρ1 = .ok true ρ2 ∧ fe ρ2 = .ok (.d y) ρ3 ∧ acc.length < sizeLine ∧ I (i + 1) (acc ++ [y]) (wipeR ρ3 vs)) :
    ∀ (k : Nat) (acc : List Pd) (ρ : Rho), I k acc ρ → k ≤ xs.length → ∃ acc' ρ', lcRun h ft fe vs (xs.drop k) acc ρ = .ok acc' ρ' ∧ I xs.length acc' ρ' := by
  suffices H : ∀ (n k : Nat), xs.length - k = n → ∀ (acc : List Pd) (ρ : Rho), I k acc ρ → k ≤ xs.length → ∃ acc' ρ', lcRun h ft fe vs (xs.drop k) acc ρ = .ok acc' ρ' ∧ I xs.length acc' ρ' from fun k acc ρ hI hk => H _ k rfl acc ρ hI hk
  intro n
  induction n with
  | zero =>
    intro k e acc ρ hI hk
    have : k = xs.length := by omega
    subst this
    rw [List.drop_length]
    exact ⟨acc, ρ, rfl, hI⟩
  | succ n ih =>
    intro k e acc ρ hI hk
    have hlt : k < xs.length := by omega
    rw [List.drop_eq_getElem_cons hlt]
    obtain ⟨ρ1, ρ2, ρ3, y, e1, e2, e3, hl, hI'⟩ := step k _ acc ρ (List.getElem?_eq_getElem hlt) hI
    rw [lc_cons_yes e1 e2 e3 hl]
    exact ih (k + 1) (by omega) _ _ hI' (by omega)
theorem lc_inv0 (I : Nat → List Pd → Rho → Prop) {xs : List Pd} {ρ : Rho} (h0 : I 0 [] ρ) (step : ∀ (i : Nat) x acc ρ, xs[i]? = some x → I i acc ρ →
      ∃ ρ1 ρ2 ρ3 y, h x ρ = some ρ1 ∧ ft ρ1 = .ok true ρ2 ∧ fe ρ2 = .ok (.d y) ρ3 ∧ acc.length < sizeLine ∧ I (i + 1) (acc ++ [y]) (wipeR ρ3 vs)) :
    ∃ acc' ρ', lcRun h ft fe vs xs [] ρ = .ok acc' ρ' ∧ I xs.length acc' ρ' := lc_inv I step 0 [] ρ h0 (Nat.zero_le _)
/-- each item goes over by g, the slots come back as they were -/
theorem lc_map (g : Pd → Pd) {ρ : Rho} : ∀ {xs acc : List Pd}, (∀ x ∈ xs, ∃ ρ1 ρ2 ρ3, h x ρ = some ρ1 ∧ ft ρ1 = .ok true ρ2 ∧ fe ρ2 = .ok (.d (g x)) ρ3 ∧ wipeR ρ3 vs = ρ) → acc.length + xs.length ≤ sizeLine →
    lcRun h ft fe vs xs acc ρ = .ok (acc ++ xs.map g) ρ
  | [], acc, _, _ => by simp [lcRun]
  | x :: xs, acc, H, hl => by
    obtain ⟨ρ1, ρ2, ρ3, e1, e2, e3, e4⟩ := H x List.mem_cons_self
    rw [lc_cons_yes e1 e2 e3 (by simp at hl; omega), e4, lc_map g (fun y hy => H y (List.mem_cons_of_mem _ hy)) (by simp at hl ⊢; omega)]
    simp
/-- .. of those that p lets by -/
theorem lc_filter (p : Pd → Bool) (g : Pd → Pd) {ρ : Rho} : ∀ {xs acc : List Pd}, (∀ x ∈ xs, ∃ ρ1 ρ2, h x ρ = some ρ1 ∧ ft ρ1 = .ok (p x) ρ2 ∧ (p x = false → wipeR ρ2 vs = ρ) ∧ (p x = true → ∃ ρ3, fe ρ2 = .ok (.d (g x)) ρ3 ∧ wipeR ρ3 vs = ρ)) → acc.length + xs.length ≤ sizeLine →
    lcRun h ft fe vs xs acc ρ = .ok (acc ++ (xs.filter p).map g) ρ
  | [], acc, _, _ => by simp [lcRun]
  | x :: xs, acc, H, hl => by
    obtain ⟨ρ1, ρ2, e1, e2, e3, e4⟩ := H x List.mem_cons_self
    have hz : acc.length < sizeLine := by simp at hl; omega
    cases hp : p x with
    | true =>
      rw [hp] at e2
      obtain ⟨ρ3, e5, e6⟩ := e4 hp
      rw [lc_cons_yes e1 e2 e5 hz, e6, lc_filter p g (fun y hy => H y (List.mem_cons_of_mem _ hy)) (by simp at hl ⊢; omega)]
      simp [List.filter_cons, hp]
    | false =>
      rw [hp] at e2
      rw [lc_cons_no e1 e2, e3 hp, lc_filter p g (fun y hy => H y (List.mem_cons_of_mem _ hy)) (by simp at hl ⊢; omega)]
      simp [List.filter_cons, hp]
/-- a loop all of whose turns go on -/
theorem for_inv (I : Nat → Rho → Prop) {xs : List Pd} (step : ∀ (i : Nat) x ρ, xs[i]? = some x → I i ρ → ∃ ρ1 ρ2, h x ρ = some ρ1 ∧ (fb ρ1 = .ok .nx ρ2 ∨ fb ρ1 = .ok .ct ρ2) ∧ I (i + 1) ρ2) {ρ : Rho} (h0 : I 0 ρ) :
    ∃ ρ', forRun h fb xs ρ = .ok .nx ρ' ∧ I xs.length ρ' := by
  suffices H : ∀ (n k : Nat), xs.length - k = n → k ≤ xs.length → ∀ ρ, I k ρ → ∃ ρ', forRun h fb (xs.drop k) ρ = .ok .nx ρ' ∧ I xs.length ρ' from H _ 0 rfl (Nat.zero_le _) ρ h0
  intro n
  induction n with
  | zero =>
    intro k e hk ρ hI
    have : k = xs.length := by omega
    subst this
    rw [List.drop_length]
    exact ⟨ρ, rfl, hI⟩
  | succ n ih =>
    intro k e hk ρ hI
    have hlt : k < xs.length := by omega
    rw [List.drop_eq_getElem_cons hlt]
    obtain ⟨ρ1, ρ2, e1, e2, hI'⟩ := step k _ ρ (List.getElem?_eq_getElem hlt) hI
    have e3 : forRun h fb (xs[k] :: xs.drop (k + 1)) ρ = forRun h fb (xs.drop (k + 1)) ρ2 := by
      rcases e2 with e2 | e2 <;> simp only [forRun, e1, e2]
    rw [e3]
    exact ih (k + 1) (by omega) (by omega) _ hI'
end
/-! ### texts by their signs -/
open TL (tl joinL tl_join tl_ofString join_eq tl_append len_tl)
theorem tl_cut (z : Str) (lo hi : Option Int) : tl (cutS z lo hi) = ((tl z).drop (HT.sIx (tl z).length 0 lo)).take (HT.sIx (tl z).length (tl z).length hi - HT.sIx (tl z).length 0 lo) := by
  unfold cutS
  rw [len_tl]
theorem sIx_some (n d : Nat) (k : Int) (h : 0 ≤ k) : HT.sIx n d (some k) = min k.toNat n := by
  show (if k < 0 then (k + (n : Int)).toNat else min k.toNat n) = _
  rw [if_neg (by omega)]
/-- z[:k] -/
theorem tl_take (z : Str) (k : Int) (h : 0 ≤ k) : tl (cutS z none (some k)) = (tl z).take k.toNat := by
  rw [tl_cut, sIx_some _ _ _ h]
  show (tl z).take (min k.toNat (tl z).length - 0) = _
  rw [Nat.sub_zero]
  simp
/-- z[k:m] -/
theorem tl_mid (z : Str) (k m : Int) (h : 0 ≤ k) (h2 : 0 ≤ m) : tl (cutS z (some k) (some m)) = ((tl z).drop k.toNat).take (m.toNat - k.toNat) := by
  rw [tl_cut, sIx_some _ _ _ h, sIx_some _ _ _ h2]
  apply List.ext_getElem?
  intro i
  simp only [List.getElem?_take, List.getElem?_drop]
  split
  · rename_i h1
    rw [if_pos (by omega)]
    congr 1
    omega
  · rename_i h1
    split
    · rename_i h3
      rw [List.getElem?_eq_none (by omega)]
    · rfl
theorem tl_drop (z : Str) (k : Int) (h : 0 ≤ k) : tl (cutS z (some k) none) = (tl z).drop k.toNat := by
  rw [tl_cut, sIx_some _ _ _ h]
  show ((tl z).drop (min k.toNat (tl z).length)).take ((tl z).length - min k.toNat (tl z).length) = _
  apply List.ext_getElem?
  intro i
  simp only [List.getElem?_take, List.getElem?_drop]
  split
  · congr 1
    omega
  · rw [List.getElem?_eq_none (by omega)]
theorem tl_one (c : Nat) : tl (⟨#[c]⟩ : Str) = [c] := rfl
theorem str_ext {a b : Str} (h : tl a = tl b) : a = b := by
  obtain ⟨x⟩ := a
  obtain ⟨y⟩ := b
  have : x = y := Array.ext' h
  rw [this]
theorem joinL_nil : ∀ l : List (List Nat), joinL [] l = l.flatten
  | [] => rfl
  | [p] => by simp [joinL]
  | p :: q :: r => by simp [joinL, joinL_nil (q :: r)]
theorem tl_join0 (ys : List Str) : tl (Txt.join (Str.ofString "") ys) = (ys.map tl).flatten := by
  rw [join_eq, tl_join, tl_ofString]
  exact joinL_nil _
theorem inStr_one (c : Nat) (z : Str) : inStr ⟨#[c]⟩ z = decide (c ∈ tl z) := rfl
theorem atI_some {α : Type} {xs : List α} {i : Int} (h0 : 0 ≤ i) (h : i < xs.length) : ∃ x, atI xs i = some x ∧ x ∈ xs := by
  have h1 : i.toNat < xs.length := by omega
  refine ⟨xs[i.toNat], ?_, List.getElem_mem h1⟩
  unfold atI ixN
  rw [if_pos h0, if_pos h]
  show xs[i.toNat]? = _
  exact List.getElem?_eq_getElem h1
theorem strsD_map (ys : List Str) : strsD (ys.map PyData.str) = some ys := by
  induction ys with
  | nil => rfl
  | cons y ys ih => simp only [List.map_cons, strsD]; rw [ih]
/-- a text of one to eight small letters, by its signs -/
def nameL (l : List Nat) : Prop := 1 ≤ l.length ∧ l.length ≤ 8 ∧ ∀ c ∈ l, 97 ≤ c ∧ c ≤ 122
instance (l : List Nat) : Decidable (nameL l) := inferInstanceAs (Decidable (_ ∧ _ ∧ _))
abbrev abc : Str := Str.ofString "abcdefghijklmnopqrstuvwxyz"
theorem tl_abc : tl abc = [97, 98, 99, 100, 101, 102, 103, 104, 105, 106, 107, 108, 109, 110, 111, 112, 113, 114, 115, 116, 117, 118, 119, 120, 121, 122] := by
  decide +kernel
theorem mem_abc (c : Nat) : c ∈ tl abc ↔ 97 ≤ c ∧ c ≤ 122 := by
  rw [tl_abc]
  simp
  omega
theorem up1_small {c : Nat} (h : 97 ≤ c) (h2 : c ≤ 122) : PyProof.Rows.up1 c = c - 32 := by
  unfold PyProof.Rows.up1
  simp [h, h2]
theorem tl_upper {x : Str} (hA : ∀ c ∈ tl x, 97 ≤ c ∧ c ≤ 122) : tl (Txt.upper x) = (tl x).map (· - 32) := by
  rw [PyProof.Rows.upper_ascii (fun c hc => by have := hA c hc; omega)]
  show (x.cps.map PyProof.Rows.up1).toList = _
  rw [Array.toList_map]
  exact List.map_congr_left fun c hc => up1_small (hA c hc).1 (hA c hc).2
/-- a number's text has a sign that is no letter -/
theorem num_sign (i : Int) : ∃ c ∈ tl (Str.ofString (toString i)), c < 97 := by
  rw [tl_ofString]
  cases i with
  | ofNat n =>
    have : (toString (Int.ofNat n)).toList = Nat.toDigits 10 n := by
      show (Nat.repr n).toList = _
      rw [Nat.toList_repr]
    rw [this]
    cases e : Nat.toDigits 10 n with
    | nil => exact absurd e (Nat.toDigits_ne_nil)
    | cons d r =>
      refine ⟨d.toNat, by simp, ?_⟩
      have hd : d.isDigit = true := Nat.isDigit_of_mem_toDigits (b := 10) (n := n) (by omega) (by omega) (by rw [e]; simp)
      simp only [Char.isDigit, Bool.and_eq_true, decide_eq_true_eq] at hd
      have h2 := hd.2
      have : d.val.toNat ≤ 57 := by simpa [UInt32.le_iff_toNat_le] using h2
      show d.val.toNat < 97
      omega
  | negSucc n =>
    refine ⟨'-'.toNat, ?_, by decide⟩
    show _ ∈ (("-" ++ Nat.repr (n + 1) : String)).toList.map Char.toNat
    simp
theorem num_len (i : Int) (h : i.natAbs < 10 ^ 20) : (Str.ofString (toString i)).length ≤ 21 := by
  rw [len_tl, tl_ofString, List.length_map]
  cases i with
  | ofNat n =>
    have : (toString (Int.ofNat n)).toList = Nat.toDigits 10 n := by
      show (Nat.repr n).toList = _
      rw [Nat.toList_repr]
    rw [this]
    have := (Nat.length_toDigits_le_iff (b := 10) (n := n) (k := 20) (by omega) (by omega)).mpr h
    omega
  | negSucc n =>
    show (("-" ++ Nat.repr (n + 1) : String)).toList.length ≤ 21
    have := (Nat.length_toDigits_le_iff (b := 10) (n := n + 1) (k := 20) (by omega) (by omega)).mpr (by simpa using h)
    simp [Nat.toList_repr]
    omega
end Dt
namespace Dt
open PySem PySem.Spec L2 Evl
open TL (tl joinL tl_join tl_ofString join_eq tl_append len_tl)
section
variable {A B : Type} {ρ ρ1 : Rho} {i j n : Nat} {x y : Pd} {a b : Str} {xs ys : List Pd} {k m : Int}
@[simp] theorem mulB_int : mulB (.int k) (.int m) = if mulOk k m = true then some (.int (k * m)) else none := rfl
@[simp] theorem mulB_str : mulB (.str a) (.int m) = if 0 ≤ m ∧ m ≤ 1000 ∧ a.length ≤ 1000 then some (.str (Txt.mul a m)) else none := rfl
@[simp] theorem mulB_tuple : mulB (.tuple xs) (.int m) = if xs ≠ [] ∧ 2 ≤ m ∧ m ≤ 1000 ∧ xs.length ≤ 1000 then some (.tuple (List.replicate m.toNat xs).flatten) else none := rfl
@[simp] theorem tupleA_list : tupleA [.list xs] = some (.tuple xs) := rfl
@[simp] theorem tupleA_tuple : tupleA [.tuple xs] = some (.tuple xs) := rfl
@[simp] theorem tupleA_str : tupleA [.str a] = if a.length ≤ sizeLine then some (.tuple (chars a)) else none := rfl
@[simp] theorem listA_list : listA [.list xs] = some xs := rfl
@[simp] theorem listA_tuple : listA [.tuple xs] = some xs := rfl
@[simp] theorem listA_str : listA [.str a] = if a.length ≤ sizeLine then some (chars a) else none := rfl
@[simp] theorem maxD_int : maxD [.int k, .int m] = some (.int (if m > k then m else k)) := rfl
@[simp] theorem minD_int : minD [.int k, .int m] = some (.int (if m < k then m else k)) := rfl
@[simp] theorem shlD_int : shlD (.int k) (.int m) = if 0 ≤ m ∧ m ≤ 1000000 ∧ k.natAbs < 2 ^ 64 then some (.int (k * 2 ^ m.toNat)) else none := by simp [shlD, intD]
@[simp] theorem fZip_ap {f : Rho → R (List AV)} : fZip f ρ = (f ρ).bind fun as ρ1 => (match zipK as with | some xs => .ok xs ρ1 | none => .bad) := rfl
@[simp] theorem fTake_ap {fe : Rho → R AV} : fTake i j fe ρ = (match ρ[i]? with
  | some (.own _ [.int n]) => (fe ρ).bind fun a ρ1 => (match a, ρ1[i]? with
    | .d (.int m), some (.own b [_]) => if 0 < m ∧ m < 1073741824 then
        (match put j (.int (n % m)) (ρ1.set i (.own b [.int (n / m)])) with
        | some ρ2 => .ok .nx ρ2
        | none => .bad)
      else .bad
    | _, _ => .bad)
  | _ => .bad) := rfl
@[simp] theorem fCallT_ap {g : Rho → R RV} {fl : Rho → R (List Pd)} {fa : Rho → R (List AV)} : fCallT n g fl fa ρ = (fl ρ).bind fun ps ρ1 => (fa ρ1).bind fun as ρ2 => kCallT g ps (argsD n as) ρ2 := rfl
@[simp] theorem kCallT_some {g : Rho → R RV} : kCallT g ys (some xs) ρ = (match g (.own true ys :: xs.map Sl.d) with | .ok (.d x) _ => .ok (.d x) ρ | .ex e _ => .ex e ρ | _ => .bad) := rfl
@[simp] theorem fCallPB_ap {g : Rho → R RV} {fa : Rho → R (List AV)} : fCallPB n i g fa ρ = (match ρ[i]? with | some (.own _ _) => (fa ρ).bind fun as ρ1 => kCallPB n i g as ρ1 | _ => .bad) := rfl
@[simp] theorem kCallPB_ap {g : Rho → R RV} {as : List AV} : kCallPB n i g as ρ = if noSl i as = true ∧ as.length = n then (match ress ρ as, ρ[i]? with
    | some xs, some (.own b ps) => (match g (.own true ps :: xs.map Sl.d) with
      | .ok (.d x) (.own _ ps' :: _) => if flatD x = true ∧ flatL ps' = true then .ok (.d x) (ρ.set i (.own b ps')) else .bad
      | _ => .bad)
    | _, _ => .bad)
  else .bad := rfl
@[simp] theorem noSl_nil : noSl i [] = true := rfl
@[simp] theorem noSl_sl {as : List AV} : noSl i (.sl j :: as) = (decide (j ≠ i) && noSl i as) := rfl
@[simp] theorem noSl_d {as : List AV} : noSl i (.d x :: as) = noSl i as := rfl
theorem eqv_str (a b : Str) : PyData.eqv (.str a) (.str b) = decide (a = b) := by
  simp [PyData.eqv]
  by_cases h : a = b <;> simp [h]
theorem in_strs (a : Str) (l : List Str) : inB (.str a) (.list (l.map PyData.str)) = some (decide (a ∈ l)) := by
  have f : (l.map PyData.str).all flatD = true := by
    rw [List.all_map]
    exact List.all_eq_true.mpr fun _ _ => rfl
  unfold inB
  simp only [flatD, f, and_self, if_true]
  congr 1
  rw [List.any_map]
  induction l with
  | nil => rfl
  | cons b l ih =>
    have f' : (l.map PyData.str).all flatD = true := by
      rw [List.all_map]
      exact List.all_eq_true.mpr fun _ _ => rfl
    rw [List.any_cons, ih f']
    show (PyData.eqv (.str b) (.str a) || _) = _
    rw [eqv_str]
    by_cases h : b = a <;> by_cases h2 : a ∈ l <;> simp [h, h2]
    · exact fun z => h z.symm
theorem inD_strs (a : Str) (l : List Str) : inD (.str a) (.list (l.map PyData.str)) = some (.bool (decide (a ∈ l))) := by unfold inD; rw [in_strs]; rfl
theorem notInD_strs (a : Str) (l : List Str) : notInD (.str a) (.list (l.map PyData.str)) = some (.bool (!decide (a ∈ l))) := by unfold notInD; rw [in_strs]; rfl
/-- a comprehension whose test may change the slots -/
theorem lc_invF {h : Pd → Rho → Option Rho} {ft : Rho → R Bool} {fe : Rho → R AV} {vs : List Nat} (I : Nat → List Pd → Rho → Prop) {xs : List Pd} (step : ∀ (i : Nat) x acc ρ, xs[i]? = some x → I i acc ρ →
      ∃ ρ1 ρ2, h x ρ = some ρ1 ∧ ((ft ρ1 = .ok false ρ2 ∧ I (i + 1) acc (wipeR ρ2 vs)) ∨ (ft ρ1 = .ok true ρ2 ∧ ∃ ρ3 y, fe ρ2 = .ok (.d y) ρ3 ∧ acc.length < sizeLine ∧ I (i + 1) (acc ++ [y]) (wipeR ρ3 vs)))) {ρ : Rho} (h0 : I 0 [] ρ) :
    ∃ acc' ρ', lcRun h ft fe vs xs [] ρ = .ok acc' ρ' ∧ I xs.length acc' ρ' := by
  suffices H : ∀ (n k : Nat), xs.length - k = n → k ≤ xs.length → ∀ (acc : List Pd) (ρ : Rho), I k acc ρ → ∃ acc' ρ', lcRun h ft fe vs (xs.drop k) acc ρ = .ok acc' ρ' ∧ I xs.length acc' ρ' from H _ 0 rfl (Nat.zero_le _) [] ρ h0
  intro n
  induction n with
  | zero =>
    intro k e hk acc ρ hI
    have : k = xs.length := by omega
    subst this
    rw [List.drop_length]
    exact ⟨acc, ρ, rfl, hI⟩
  | succ n ih =>
    intro k e hk acc ρ hI
    have hlt : k < xs.length := by omega
    rw [List.drop_eq_getElem_cons hlt]
    obtain ⟨ρ1, ρ2, e1, c⟩ := step k _ acc ρ (List.getElem?_eq_getElem hlt) hI
    rcases c with ⟨e2, hI'⟩ | ⟨e2, ρ3, y, e3, hl, hI'⟩
    · rw [lc_cons_no e1 e2]
      exact ih (k + 1) (by omega) (by omega) _ _ hI'
    · rw [lc_cons_yes e1 e2 e3 hl]
      exact ih (k + 1) (by omega) (by omega) _ _ hI'
theorem sum_ones {A : Type} {f : A → Nat} : ∀ {l : List A}, (∀ y ∈ l, f y = 1) → (l.map f).sum = l.length
  | [], _ => rfl
  | a :: l, h => by
    rw [List.map_cons, List.sum_cons, h a List.mem_cons_self, sum_ones fun y hy => h y (List.mem_cons_of_mem _ hy), List.length_cons]
    omega
/-- signs joined to a text -/
def ofL (cs : List Nat) : Str := ⟨cs.toArray⟩
theorem tl_ofL (cs : List Nat) : tl (ofL cs) = cs := rfl
abbrev sg1 (c : Nat) : Str := ⟨#[c]⟩
theorem join_signs (cs : List Nat) (h : cs.length ≤ 1000) : joinD (.str (Str.ofString "")) [.list ((cs.map sg1).map PyData.str)] = some (.str (ofL cs)) := by
  have e : Txt.join (Str.ofString "") (cs.map sg1) = ofL cs := by
    refine str_ext ?_
    rw [tl_join0, tl_ofL, List.map_map]
    induction cs with
    | nil => rfl
    | cons c cs ih =>
      rw [List.map_cons, List.flatten_cons, ih (by simp at h; omega)]
      rfl
  have hs : ((cs.map sg1).map (·.length)).sum = cs.length := by
    rw [List.map_map]
    exact sum_ones fun _ _ => rfl
  simp only [joinD]
  rw [strsD_map]
  simp only
  rw [if_pos (by rw [hs, List.length_map]; show cs.length + cs.length * 0 ≤ 16777216; omega), e]
theorem chars_eq (s : Str) : chars s = ((tl s).map sg1).map PyData.str := by unfold chars; rw [List.map_map]; rfl
@[simp] theorem mulC_int : mulC (.int k) (.int m) = if mulOk k m = true then some (.int (k * m)) else none := rfl
@[simp] theorem mulC_str : mulC (.str a) (.int m) = if 0 ≤ m ∧ m ≤ 1000 ∧ a.length ≤ 1000 then some (.str (Txt.mul a m)) else none := rfl
theorem mulC_tup (h : xs ≠ []) (h1 : 1 ≤ m) (h2 : m ≤ 1000) (h3 : xs.length ≤ 1000) : mulC (.tuple xs) (.int m) = some (.tuple (List.replicate m.toNat xs).flatten) := by
  by_cases e : m = 1
  · subst e
    show some (PyData.tuple xs) = _
    simp
  · have : mulC (.tuple xs) (.int m) = mulB (.tuple xs) (.int m) := by
      unfold mulC
      split
      · rename_i h; cases h; exact absurd rfl e
      · rfl
    rw [this, mulB_tuple, if_pos ⟨h, by omega, h2, h3⟩]
@[simp] theorem revD_list : revD (.list xs) = some (.list xs.reverse) := rfl
@[simp] theorem revD_tuple : revD (.tuple xs) = some (.tuple xs.reverse) := rfl
@[simp] theorem revD_str : revD (.str a) = if a.length ≤ sizeLine then some (.str (revS a)) else none := rfl
/-- a loop that folds -/
theorem for_foldI {α β : Type} {h : Pd → Rho → Option Rho} {fb : Rho → R Fl} (d : α → Pd) (I : β → Rho → Prop) (f : β → α → β) : ∀ {xs : List α}, (∀ b x ρ, x ∈ xs → I b ρ → ∃ ρ1 ρ2, h (d x) ρ = some ρ1 ∧ fb ρ1 = .ok .nx ρ2 ∧ I (f b x) ρ2) → ∀ {b : β} {ρ : Rho}, I b ρ →
    ∃ ρ', forRun h fb (xs.map d) ρ = .ok .nx ρ' ∧ I (xs.foldl f b) ρ'
  | [], _, b, ρ, h0 => ⟨ρ, rfl, h0⟩
  | x :: xs, step, b, ρ, h0 => by
    obtain ⟨ρ1, ρ2, e1, e2, h1⟩ := step b x ρ List.mem_cons_self h0
    obtain ⟨ρ', e3, h2⟩ := for_foldI d I f (xs := xs) (fun b y ρ hy => step b y ρ (List.mem_cons_of_mem _ hy)) h1
    refine ⟨ρ', ?_, h2⟩
    rw [List.map_cons]
    simp only [forRun, e1, e2]
    exact e3
/-- a comprehension over things told as data -/
theorem lc_mapM {α : Type} {h : Pd → Rho → Option Rho} {fe : Rho → R AV} {vs : List Nat} (d : α → Pd) (g : α → Pd) {ρ : Rho} {l : List α} (H : ∀ x ∈ l, ∃ ρ1 ρ3, h (d x) ρ = some ρ1 ∧ fe ρ1 = .ok (.d (g x)) ρ3 ∧ wipeR ρ3 vs = ρ) (hl : l.length ≤ 16777216) :
    lcRun h (fun ρ => R.ok true ρ) fe vs (l.map d) [] ρ = .ok (l.map g) ρ := by
  have key : ∀ (l : List α) (acc : List Pd), (∀ x ∈ l, ∃ ρ1 ρ3, h (d x) ρ = some ρ1 ∧ fe ρ1 = .ok (.d (g x)) ρ3 ∧ wipeR ρ3 vs = ρ) → acc.length + l.length ≤ 16777216 → lcRun h (fun ρ => R.ok true ρ) fe vs (l.map d) acc ρ = .ok (acc ++ l.map g) ρ := by
    intro l
    induction l with
    | nil => intro acc _ _; simp
    | cons x l ih =>
      intro acc H hl
      obtain ⟨ρ1, ρ3, e1, e2, e3⟩ := H x List.mem_cons_self
      rw [List.map_cons, lc_cons_yes e1 rfl e2 (by simp [sizeLine] at hl ⊢; omega), e3, ih _ (fun y hy => H y (List.mem_cons_of_mem _ hy)) (by simp at hl ⊢; omega)]
      simp
  have := key l [] H (by simpa using hl)
  simpa using this
theorem cut_take (xs : List Pd) (k : Int) (h : 0 ≤ k) : cutD xs none (some k) = xs.take k.toNat := by
  unfold cutD
  rw [sIx_some _ _ _ h]
  show List.take (min k.toNat xs.length - 0) (xs.drop 0) = _
  rw [Nat.sub_zero, List.drop_zero]
  simp
theorem cut_drop (xs : List Pd) (k : Int) (h : 0 ≤ k) : cutD xs (some k) none = xs.drop k.toNat := by
  unfold cutD
  rw [sIx_some _ _ _ h]
  show (xs.drop (min k.toNat xs.length)).take (xs.length - min k.toNat xs.length) = _
  apply List.ext_getElem?
  intro i
  simp only [List.getElem?_take, List.getElem?_drop]
  split
  · congr 1
    omega
  · rw [List.getElem?_eq_none (by omega)]
theorem cut_mid (xs : List Pd) (k m : Int) (h : 0 ≤ k) (h2 : 0 ≤ m) : cutD xs (some k) (some m) = (xs.drop k.toNat).take (m.toNat - k.toNat) := by
  unfold cutD
  rw [sIx_some _ _ _ h, sIx_some _ _ _ h2]
  apply List.ext_getElem?
  intro i
  simp only [List.getElem?_take, List.getElem?_drop]
  split
  · rename_i h1
    rw [if_pos (by omega)]
    congr 1
    omega
  · rename_i h1
    split
    · rename_i h3
      rw [List.getElem?_eq_none (by omega)]
    · rfl
theorem forRun_cons {h : Pd → Rho → Option Rho} {fb : Rho → R Fl} : forRun h fb (x :: xs) ρ = (match h x ρ with
    | none => .bad
    | some ρ1 => match fb ρ1 with
      | .ok .nx ρ2 => forRun h fb xs ρ2
      | .ok .ct ρ2 => forRun h fb xs ρ2
      | .ok .bk ρ2 => .ok .nx ρ2
      | r => r) := rfl
theorem for_go {h : Pd → Rho → Option Rho} {fb : Rho → R Fl} {ρ2 : Rho} (e1 : h x ρ = some ρ1) (e2 : fb ρ1 = .ok .nx ρ2) : forRun h fb (x :: xs) ρ = forRun h fb xs ρ2 := by
  simp only [forRun, e1, e2]
theorem for_ret {h : Pd → Rho → Option Rho} {fb : Rho → R Fl} {ρ2 : Rho} (e1 : h x ρ = some ρ1) (e2 : fb ρ1 = .ok (.rt y) ρ2) : forRun h fb (x :: xs) ρ = .ok (.rt y) ρ2 := by
  simp only [forRun, e1, e2]
end
end Dt
namespace Lw
open PySem PySem.Spec L2 Evl Dt
def raisedC : List Str := ["NoText"]
def testedC : List Str := ["LadderError", "NoBook", "NoCall", "NoForm", "NoKept", "NoNumber", "NoOrder", "NoTelling", "NoText", "NoWeights", "NoWord", "TooMany"]
def caughtC : List Str := ["LadderError"]
def upC : List (Str × Str) := [("NoText", "NoText"), ("NoText", "LadderError"), ("NoText", "ValueError")]
def sb (c : Str) : Str → Option Bool := sbG raisedC upC c
def topS (i : Nat) : Stmt := PySem.Challenge.pw_wishladder_k11_texts_of_tellings.main.body.getD i (.Pass ⟨0, 0, 0, 0⟩)
def clsBody : Stmt → List Stmt
  | .ClassDef (body := b) .. => b
  | _ => []
abbrev st_NoText : Stmt := (clsBody (topS 2)).getD 0 (.Pass ⟨0, 0, 0, 0⟩)
theorem sc_NoText : FnScope ["self", "part"] ["self", "part"] (defScope st_NoText) := ⟨rfl, rfl, rfl, by decide +kernel, rfl, by decide +kernel, by decide +kernel⟩
/-! ### is_text_of -/
abbrev st_is_text_of : Stmt := topS 14
abbrev N_is_text_of : List Str := ["thing", "signs", "sign"]
theorem sc_is_text_of : FnScope N_is_text_of ["thing", "signs"] (defScope st_is_text_of) := ⟨rfl, rfl, rfl, by decide +kernel, rfl, by decide +kernel, by decide +kernel⟩
def ce_is_text_of_0 : Rho → R AV :=
  (f2 inD (fVar 2) (fVar 1))
def w_is_text_of : Rho → R Fl :=
  (fRet (fAndV (f1 (isiD "str") (fVar 0)) (fCB allD (fCons (fL (fLc (fItS (fVar 0)) (put 2) (fun ρ => .ok true ρ) ce_is_text_of_0 [2])) fNil))))
def m_is_text_of : Rho → R RV := gOf 3 w_is_text_of
/-! ### is_word -/
abbrev st_is_word : Stmt := topS 17
abbrev N_is_word : List Str := ["code", "thing"]
theorem sc_is_word : FnScope N_is_word ["code", "thing"] (defScope st_is_word) := ⟨rfl, rfl, rfl, by decide +kernel, rfl, by decide +kernel, by decide +kernel⟩
def w_is_word : Rho → R Fl :=
  (fRet (fAndV (fCall 2 m_is_text_of (fCons (fVar 1) (fCons (f2 ixD (fVar 0) (fC (.int 0))) fNil))) (f2 leD (fCB lenD (fCons (fVar 1) fNil)) (fC (.int 8)))))
def m_is_word : Rho → R RV := gOf 2 w_is_word
/-! ### is_part -/
abbrev st_is_part : Stmt := topS 19
abbrev N_is_part : List Str := ["code", "thing"]
theorem sc_is_part : FnScope N_is_part ["code", "thing"] (defScope st_is_part) := ⟨rfl, rfl, rfl, by decide +kernel, rfl, by decide +kernel, by decide +kernel⟩
def w_is_part : Rho → R Fl :=
  (fRet (fAndV (f1 (isiD "str") (fVar 1)) (fAndV (f2 leD (fCB lenD (fCons (fVar 1) fNil)) (fC (.int 1))) (f2 inD (fVar 1) (f2 ixD (fVar 0) (fC (.int 0)))))))
def m_is_part : Rho → R RV := gOf 2 w_is_part
/-! ### is_step -/
abbrev st_is_step : Stmt := topS 20
abbrev N_is_step : List Str := ["code", "thing", "part"]
theorem sc_is_step : FnScope N_is_step ["code", "thing"] (defScope st_is_step) := ⟨rfl, rfl, rfl, by decide +kernel, rfl, by decide +kernel, by decide +kernel⟩
def ce_is_step_0 : Rho → R AV :=
  (fCall 2 m_is_part (fCons (fVar 0) (fCons (fVar 2) fNil)))
def w_is_step : Rho → R Fl :=
  (fSeq (fIfS (fOr (fNot (fTest (f1 (isiD "tuple") (fVar 1)))) (fOr (fTest (f2 neD (fCB lenD (fCons (fVar 1) fNil)) (fC (.int 2)))) (fNot (fTest (fCB allD (fCons (fL (fLc (fItT (fVar 1)) (put 2) (fun ρ => .ok true ρ) ce_is_step_0 [2])) fNil)))))) (fRet (fC (.bool false))) fNx)
  (fRet (f2 neD (fVar 1) (fTup (fCons (fC (.str "")) (fCons (fC (.str "")) fNil))))))
def m_is_step : Rho → R RV := gOf 3 w_is_step
/-! ### is_steps -/
abbrev st_is_steps : Stmt := topS 21
abbrev N_is_steps : List Str := ["code", "thing", "step"]
theorem sc_is_steps : FnScope N_is_steps ["code", "thing"] (defScope st_is_steps) := ⟨rfl, rfl, rfl, by decide +kernel, rfl, by decide +kernel, by decide +kernel⟩
def ce_is_steps_0 : Rho → R AV :=
  (fCall 2 m_is_step (fCons (fVar 0) (fCons (fVar 2) fNil)))
def w_is_steps : Rho → R Fl :=
  (fRet (fAndV (f1 (isiD "tuple") (fVar 1)) (fCB allD (fCons (fL (fLc (fItT (fVar 1)) (put 2) (fun ρ => .ok true ρ) ce_is_steps_0 [2])) fNil))))
def m_is_steps : Rho → R RV := gOf 3 w_is_steps
/-! ### word_of -/
abbrev st_word_of : Stmt := topS 23
abbrev N_word_of : List Str := ["telling", "step"]
theorem sc_word_of : FnScope N_word_of ["telling"] (defScope st_word_of) := ⟨rfl, rfl, rfl, by decide +kernel, rfl, by decide +kernel, by decide +kernel⟩
def ce_word_of_0 : Rho → R AV :=
  (f2 ixD (fVar 1) (fC (.int 0)))
def w_word_of : Rho → R Fl :=
  (fRet (fM1 joinD (fC (.str "")) (fL (fLc (fItT (fVar 0)) (put 1) (fun ρ => .ok true ρ) ce_word_of_0 [1]))))
def m_word_of : Rho → R RV := gOf 2 w_word_of
/-! ### is_telling -/
abbrev st_is_telling : Stmt := topS 22
abbrev N_is_telling : List Str := ["code", "thing"]
theorem sc_is_telling : FnScope N_is_telling ["code", "thing"] (defScope st_is_telling) := ⟨rfl, rfl, rfl, by decide +kernel, rfl, by decide +kernel, by decide +kernel⟩
def w_is_telling : Rho → R Fl :=
  (fRet (fAndV (fCall 2 m_is_steps (fCons (fVar 0) (fCons (fVar 1) fNil))) (fCall 2 m_is_word (fCons (fVar 0) (fCons (fCall 1 m_word_of (fCons (fVar 1) fNil)) fNil)))))
def m_is_telling : Rho → R RV := gOf 2 w_is_telling
/-! ### show_step -/
abbrev st_show_step : Stmt := topS 25
abbrev N_show_step : List Str := ["step"]
theorem sc_show_step : FnScope N_show_step ["step"] (defScope st_show_step) := ⟨rfl, rfl, rfl, by decide +kernel, rfl, by decide +kernel, by decide +kernel⟩
def w_show_step : Rho → R Fl :=
  (fSeq (fIfS (fTest (f2 eqD (f2 ixD (fVar 0) (fC (.int 0))) (f2 ixD (fVar 0) (fC (.int 1))))) (fRet (f2 ixD (fVar 0) (fC (.int 0)))) fNx)
  (fRet (f2 addD (f2 addD (f2 ixD (fVar 0) (fC (.int 0))) (fC (.str ">"))) (f2 ixD (fVar 0) (fC (.int 1))))))
def m_show_step : Rho → R RV := gOf 1 w_show_step
/-! ### show_telling -/
abbrev st_show_telling : Stmt := topS 26
abbrev N_show_telling : List Str := ["telling", "step"]
theorem sc_show_telling : FnScope N_show_telling ["telling"] (defScope st_show_telling) := ⟨rfl, rfl, rfl, by decide +kernel, rfl, by decide +kernel, by decide +kernel⟩
def ce_show_telling_0 : Rho → R AV :=
  (fCall 1 m_show_step (fCons (fVar 1) fNil))
def w_show_telling : Rho → R Fl :=
  (fSeq (fIfS (fTest (f2 eqD (fVar 0) (fTup fNil))) (fRet (fC (.str "-"))) fNx)
  (fRet (fM1 joinD (fC (.str " ")) (fL (fLc (fItT (fVar 0)) (put 1) (fun ρ => .ok true ρ) ce_show_telling_0 [1])))))
def m_show_telling : Rho → R RV := gOf 2 w_show_telling
/-! ### step_in -/
abbrev st_step_in : Stmt := topS 27
abbrev N_step_in : List Str := ["text", "one", "sign", "other"]
theorem sc_step_in : FnScope N_step_in ["text"] (defScope st_step_in) := ⟨rfl, rfl, rfl, by decide +kernel, rfl, by decide +kernel, by decide +kernel⟩
def w_step_in : Rho → R Fl :=
  (fSeq (fAsg (fM1 partD (fVar 0) (fC (.str ">"))) (putTup 3 (putCons (put 1) (putCons (put 2) (putCons (put 3) putNil)))))
  (fSeq (fIfS (fTest (f2 eqD (fVar 2) (fC (.str "")))) (fRet (fTup (fCons (fVar 1) (fCons (fVar 1) fNil)))) fNx)
  (fSeq (fIfS (fTest (f2 eqD (fVar 1) (fVar 3))) (fRet (fC .none)) fNx)
  (fRet (fTup (fCons (fVar 1) (fCons (fVar 3) fNil)))))))
def m_step_in : Rho → R RV := gOf 4 w_step_in
/-! ### read_telling -/
abbrev st_read_telling : Stmt := topS 28
abbrev N_read_telling : List Str := ["code", "text", "found", "part"]
theorem sc_read_telling : FnScope N_read_telling ["code", "text"] (defScope st_read_telling) := ⟨rfl, rfl, rfl, by decide +kernel, rfl, by decide +kernel, by decide +kernel⟩
def ce_read_telling_0 : Rho → R AV :=
  (fCall 1 m_step_in (fCons (fVar 3) fNil))
def w_read_telling : Rho → R Fl :=
  (fSeq (fAsg (fC .none) (put 2))
  (fSeq (fIfS (fTest (f2 eqD (fVar 1) (fC (.str "-")))) (fAsg (fTup fNil) (put 2)) (fIfS (fTest (f1 (isiD "str") (fVar 1))) (fAsg (fCB tupleA (fCons (fL (fLc (fItL (fM1 splitD (fVar 1) (fC (.str " ")))) (put 3) (fun ρ => .ok true ρ) ce_read_telling_0 [3])) fNil)) (put 2)) fNx))
  (fSeq (fIfS (fNot (fTest (fCall 2 m_is_telling (fCons (fVar 0) (fCons (fVar 2) fNil))))) (fRaiseP "NoText" "part" (fC .none)) fNx)
  (fRet (fVar 2)))))
def m_read_telling : Rho → R RV := gOf 4 w_read_telling
/-! ### _law_mixed -/
abbrev st__law_mixed : Stmt := topS 30
abbrev N__law_mixed : List Str := ["_law_cell"]
theorem sc__law_mixed : FnScope N__law_mixed ["_law_cell"] (defScope st__law_mixed) := ⟨rfl, rfl, rfl, by decide +kernel, rfl, by decide +kernel, by decide +kernel⟩
def w__law_mixed : Rho → R Fl :=
  (fRet (f2 modD (f2 mulC (fVar 0) (fC (.int 915965594177219015054603514932384110774149374281672134266497))) (f2 powD (fC (.int 10)) (fC (.int 60)))))
def m__law_mixed : Rho → R RV := gOf 1 w__law_mixed
/-! ### _law_pack -/
abbrev st__law_pack : Stmt := topS 31
abbrev N__law_pack : List Str := ["_law_script", "_law_k"]
theorem sc__law_pack : FnScope N__law_pack ["_law_script", "_law_k"] (defScope st__law_pack) := ⟨rfl, rfl, rfl, by decide +kernel, rfl, by decide +kernel, by decide +kernel⟩
def w__law_pack : Rho → R Fl :=
  (fSeq (fIfS (fTest (f2 ltD (fVar 1) (fCB lenD (fCons (fVar 0) fNil)))) (fRetL (fLst (fCons (fCall 1 m__law_mixed (fCons (f2 addD (f2 ixD (fVar 0) (fVar 1)) (f2 mulC (fC (.int 41)) (fVar 1))) fNil)) fNil))) fNx)
  (fRetL (fLst (fCons (fCall 1 m__law_mixed (fCons (f2 addD (f2 mulC (fC (.int 6131)) (fVar 1)) (fC (.int 17))) fNil)) fNil))))
def m__law_pack : Rho → R RV := gOf 2 w__law_pack
/-! ### _law_take -/
abbrev st__law_take : Stmt := topS 32
abbrev N__law_take : List Str := ["_law_pack_here", "_law_size", "_law_digit"]
theorem sc__law_take : FnScope N__law_take ["_law_pack_here", "_law_size"] (defScope st__law_take) := ⟨rfl, rfl, rfl, by decide +kernel, rfl, by decide +kernel, by decide +kernel⟩
def w__law_take : Rho → R Fl :=
  (fSeq (fTake 0 2 (fVar 1))
  (fRet (fVar 2)))
def m__law_take : Rho → R RV := gOf 3 w__law_take
/-! ### _law_names -/
abbrev st__law_names : Stmt := topS 33
abbrev N__law_names : List Str := ["_law_pack_here", "_law_amount", "_law_letters", "_law_turn", "_law_pick", "_law_size", "_law_k"]
theorem sc__law_names : FnScope N__law_names ["_law_pack_here", "_law_amount"] (defScope st__law_names) := ⟨rfl, rfl, rfl, by decide +kernel, rfl, by decide +kernel, by decide +kernel⟩
def ce__law_names_2 : Rho → R AV :=
  (f2 addD (fSl slD (fVar 2) (fPart (fC (.int 5))) (fPart (f2 addD (fC (.int 5)) (fVar 5)))) (f2 ixD (fVar 2) (fVar 6)))
def ce__law_names_1 : Rho → R AV :=
  (f2 addD (f2 ixD (fVar 2) (fVar 6)) (fSl slD (fVar 2) (fPart (fC (.int 5))) (fPart (f2 addD (fC (.int 5)) (f2 modD (f2 addD (fVar 5) (f2 mulC (fC (.int 3)) (fVar 6))) (fC (.int 8)))))))
def ce__law_names_0 : Rho → R AV :=
  (f2 mulC (f2 ixD (fVar 2) (fC (.int 0))) (f2 addD (fC (.int 1)) (f2 modD (f2 addD (fVar 5) (fVar 6)) (fC (.int 8)))))
def w__law_names : Rho → R Fl :=
  (fSeq (fAsg (fC (.str "abcdefghijklmnopqrstuvwxyz")) (put 2))
  (fSeq (fAsg (fCallP 1 0 m__law_take (fCons (fC (.int 26)) fNil)) (put 3))
  (fSeq (fAsg (f2 addD (fSl slD (fVar 2) (fPart (fVar 3)) fNoPart) (fSl slD (fVar 2) fNoPart (fPart (fVar 3)))) (put 2))
  (fSeq (fAsg (fCallP 1 0 m__law_take (fCons (fC (.int 3)) fNil)) (put 4))
  (fSeq (fAsg (fCallP 1 0 m__law_take (fCons (fC (.int 8)) fNil)) (put 5))
  (fSeq (fIfS (fTest (f2 eqD (fVar 4) (fC (.int 0)))) (fRetL (fLc (fRng1 (fCons (fVar 1) fNil)) (put 6) (fun ρ => .ok true ρ) ce__law_names_0 [6])) fNx)
  (fSeq (fIfS (fTest (f2 eqD (fVar 4) (fC (.int 1)))) (fRetL (fLc (fRng1 (fCons (fVar 1) fNil)) (put 6) (fun ρ => .ok true ρ) ce__law_names_1 [6])) fNx)
  (fRetL (fLc (fRng1 (fCons (fVar 1) fNil)) (put 6) (fun ρ => .ok true ρ) ce__law_names_2 [6])))))))))
def m__law_names : Rho → R RV := gOf 7 w__law_names
/-! ### _law_set -/
abbrev st__law_set : Stmt := topS 34
abbrev N__law_set : List Str := ["_law_pack_here", "_law_signs", "_law_number", "_law_k"]
theorem sc__law_set : FnScope N__law_set ["_law_pack_here", "_law_signs"] (defScope st__law_set) := ⟨rfl, rfl, rfl, by decide +kernel, rfl, by decide +kernel, by decide +kernel⟩
def ct__law_set_0 : Rho → R Bool :=
  (fTest (f2 eqD (f2 modD (f2 fdivD (fVar 2) (f2 shlD (fC (.int 1)) (fVar 3))) (fC (.int 2))) (fC (.int 1))))
def ce__law_set_0 : Rho → R AV :=
  (f2 ixD (fVar 1) (fVar 3))
def w__law_set : Rho → R Fl :=
  (fSeq (fAsg (f2 addD (fC (.int 1)) (fCallP 1 0 m__law_take (fCons (f2 subD (f2 shlD (fC (.int 1)) (fCB lenD (fCons (fVar 1) fNil))) (fC (.int 1))) fNil))) (put 2))
  (fRet (fM1 joinD (fC (.str "")) (fL (fLc (fRng1 (fCons (fCB lenD (fCons (fVar 1) fNil)) fNil)) (put 3) ct__law_set_0 ce__law_set_0 [3])))))
def m__law_set : Rho → R RV := gOf 4 w__law_set
/-! ### _law_pattern -/
abbrev st__law_pattern : Stmt := topS 35
abbrev N__law_pattern : List Str := ["_law_pack_here", "_law_signs", "_law_kind"]
theorem sc__law_pattern : FnScope N__law_pattern ["_law_pack_here", "_law_signs"] (defScope st__law_pattern) := ⟨rfl, rfl, rfl, by decide +kernel, rfl, by decide +kernel, by decide +kernel⟩
def w__law_pattern : Rho → R Fl :=
  (fSeq (fAsg (f2 ixD (fL (fLst (fCons (fC (.str "sign")) (fCons (fC (.str "drop")) (fCons (fC (.str "add")) (fCons (fC (.str "change")) (fCons (fC (.str "beside")) (fCons (fC (.str "beside")) fNil)))))))) (fCallP 1 0 m__law_take (fCons (fC (.int 6)) fNil))) (put 2))
  (fSeq (fIfS (fTest (f2 eqD (fVar 2) (fC (.str "beside")))) (fRet (fTup (fCons (fVar 2) (fCons (fCallP 1 0 m__law_set (fCons (f2 addD (fC (.str "#")) (fVar 1)) fNil)) (fCons (fCallP 1 0 m__law_set (fCons (f2 addD (fC (.str "#")) (fVar 1)) fNil)) fNil))))) fNx)
  (fSeq (fIfS (fTest (f2 eqD (fVar 2) (fC (.str "change")))) (fRet (fTup (fCons (fVar 2) (fCons (fCallP 1 0 m__law_set (fCons (fVar 1) fNil)) (fCons (fCallP 1 0 m__law_set (fCons (fVar 1) fNil)) fNil))))) fNx)
  (fRet (fTup (fCons (fVar 2) (fCons (fCallP 1 0 m__law_set (fCons (fVar 1) fNil)) fNil)))))))
def m__law_pattern : Rho → R RV := gOf 3 w__law_pattern
/-! ### _law_code -/
abbrev st__law_code : Stmt := topS 36
abbrev N__law_code : List Str := ["_law_pack_here", "_law_most", "_law_signs", "_law_names_here", "_law_whole", "_law_wishes", "_law_name", "_law_patterns", "_law_turn", "_law_little"]
theorem sc__law_code : FnScope N__law_code ["_law_pack_here", "_law_most"] (defScope st__law_code) := ⟨rfl, rfl, rfl, by decide +kernel, rfl, by decide +kernel, by decide +kernel⟩
def fb__law_code_1 : Rho → R Fl :=
  (fApp 7 (fTup (fCons (fCallP 1 0 m__law_pattern (fCons (fVar 2) fNil)) (fCons (f2 addD (fC (.int 1)) (f2 fdivD (fCallP 1 0 m__law_take (fCons (fC (.int 6)) fNil)) (fC (.int 4)))) fNil))))
def fb__law_code_0 : Rho → R Fl :=
  (fSeq (fSetO (fLst fNil) 7)
  (fSeq (fFor (fRng1 (fCons (f2 addD (fC (.int 1)) (f2 fdivD (fCallP 1 0 m__law_take (fCons (fC (.int 6)) fNil)) (fC (.int 3)))) fNil)) (put 8) fb__law_code_1)
  (fApp 5 (fTup (fCons (fVar 6) (fCons (fCB tupleA (fCons (fOwn 7) fNil)) fNil))))))
def w__law_code : Rho → R Fl :=
  (fSeq (fAsg (f2 ixD (fL (fLst (fCons (fC (.str "a")) (fCons (fC (.str "ab")) (fCons (fC (.str "ab")) (fCons (fC (.str "abc")) (fCons (fC (.str "mz")) (fCons (fC (.str "bxy")) fNil)))))))) (fCallP 1 0 m__law_take (fCons (fC (.int 6)) fNil))) (put 2))
  (fSeq (fAsg (fL (fCallPL 1 0 m__law_names (fCons (f2 addD (fC (.int 1)) (fCallP 1 0 m__law_take (fCons (fVar 1) fNil))) fNil))) (put 3))
  (fSeq (fAsg (fCallP 1 0 m__law_take (fCons (fC (.int 3)) fNil)) (put 4))
  (fSeq (fSetO (fLst fNil) 5)
  (fSeq (fFor (fItL (fVar 3)) (put 6) fb__law_code_0)
  (fSeq (fIfS (fAnd (fTest (f2 gtD (fVar 4) (fC (.int 0)))) (fTest (f2 gtD (fCB lenD (fCons (fOwn 5) fNil)) (fC (.int 1))))) (fSeq (fAsg (fTup (fCons (fTup (fCons (fTup (fCons (fC (.str "drop")) (fCons (fVar 2) fNil))) (fCons (fC (.int 1)) fNil))) (fCons (fTup (fCons (fTup (fCons (fC (.str "add")) (fCons (fVar 2) fNil))) (fCons (fC (.int 1)) fNil))) (fCons (fTup (fCons (fTup (fCons (fC (.str "change")) (fCons (fVar 2) (fCons (fVar 2) fNil)))) (fCons (fC (.int 1)) fNil))) fNil)))) (put 9))
  (fSetI 5 (fTup (fCons (f2 ixD (f2 ixD (fOwn 5) (f1 negD (fC (.int 1)))) (fC (.int 0))) (fCons (fSl slD (fVar 9) fNoPart (fPart (f2 addD (fVar 4) (fC (.int 1))))) fNil))) (f1 negD (fC (.int 1))))) fNx)
  (fRet (fTup (fCons (fVar 2) (fCons (fCB tupleA (fCons (fOwn 5) fNil)) fNil))))))))))
def m__law_code : Rho → R RV := gOf 10 w__law_code
/-! ### _law_word -/
abbrev st__law_word : Stmt := topS 37
abbrev N__law_word : List Str := ["_law_pack_here", "_law_signs", "_law_most", "_law_k"]
theorem sc__law_word : FnScope N__law_word ["_law_pack_here", "_law_signs", "_law_most"] (defScope st__law_word) := ⟨rfl, rfl, rfl, by decide +kernel, rfl, by decide +kernel, by decide +kernel⟩
def ce__law_word_0 : Rho → R AV :=
  (f2 ixD (fVar 1) (fCallP 1 0 m__law_take (fCons (fCB lenD (fCons (fVar 1) fNil)) fNil)))
def w__law_word : Rho → R Fl :=
  (fRet (fM1 joinD (fC (.str "")) (fL (fLc (fRng1 (fCons (fCallP 1 0 m__law_take (fCons (f2 addD (fVar 2) (fC (.int 1))) fNil)) fNil)) (put 3) (fun ρ => .ok true ρ) ce__law_word_0 [3]))))
def m__law_word : Rho → R RV := gOf 4 w__law_word
/-! ### _law_telling -/
abbrev st__law_telling : Stmt := topS 38
abbrev N__law_telling : List Str := ["_law_pack_here", "_law_signs", "_law_word_here", "_law_found", "_law_sign", "_law_turn"]
theorem sc__law_telling : FnScope N__law_telling ["_law_pack_here", "_law_signs", "_law_word_here"] (defScope st__law_telling) := ⟨rfl, rfl, rfl, by decide +kernel, rfl, by decide +kernel, by decide +kernel⟩
def fb__law_telling_1 : Rho → R Fl :=
  (fApp 3 (fTup (fCons (fC (.str "")) (fCons (f2 ixD (fVar 1) (fCallP 1 0 m__law_take (fCons (fCB lenD (fCons (fVar 1) fNil)) fNil))) fNil))))
def fb__law_telling_0 : Rho → R Fl :=
  (fSeq (fFor (fRng1 (fCons (f2 fdivD (fCallP 1 0 m__law_take (fCons (fC (.int 4)) fNil)) (fC (.int 2))) fNil)) (put 5) fb__law_telling_1)
  (fIfS (fTest (f2 neD (fVar 4) (fC (.str "")))) (fApp 3 (fTup (fCons (fVar 4) (fCons (f2 ixD (f2 addD (f2 addD (fL (fLst (fCons (fVar 4) fNil))) (fL (fCBL listA (fCons (fVar 1) fNil)))) (fL (fLst (fCons (fC (.str "")) fNil)))) (fCallP 1 0 m__law_take (fCons (f2 addD (fCB lenD (fCons (fVar 1) fNil)) (fC (.int 2))) fNil))) fNil)))) fNx))
def w__law_telling : Rho → R Fl :=
  (fSeq (fSetO (fLst fNil) 3)
  (fSeq (fFor (fItL (f2 addD (fL (fCBL listA (fCons (fVar 2) fNil))) (fL (fLst (fCons (fC (.str "")) fNil))))) (put 4) fb__law_telling_0)
  (fRet (fCB tupleA (fCons (fOwn 3) fNil)))))
def m__law_telling : Rho → R RV := gOf 6 w__law_telling
/-! ### _law_only -/
abbrev st__law_only : Stmt := topS 39
abbrev N__law_only : List Str := ["_law_e", "_law_at", "_law_found", "_law_k"]
theorem sc__law_only : FnScope N__law_only ["_law_e", "_law_at"] (defScope st__law_only) := ⟨rfl, rfl, rfl, by decide +kernel, rfl, by decide +kernel, by decide +kernel⟩
def ce__law_only_0 : Rho → R AV :=
  (f2 eqD (fVar 3) (fVar 1))
def w__law_only : Rho → R Fl :=
  (fSeq (fAsg (fL (fLst (fCons (fIsX (sb "NoText") 0) (fCons (fIsX (sb "NoOrder") 0) (fCons (fIsX (sb "NoWord") 0) (fCons (fIsX (sb "NoNumber") 0) fNil)))))) (put 2))
  (fSeq (fAsg (f2 addD (fVar 2) (fL (fLst (fCons (fIsX (sb "NoForm") 0) (fCons (fIsX (sb "NoTelling") 0) (fCons (fIsX (sb "NoBook") 0) (fCons (fIsX (sb "TooMany") 0) fNil))))))) (put 2))
  (fSeq (fAsg (f2 addD (fVar 2) (fL (fLst (fCons (fIsX (sb "NoWeights") 0) (fCons (fIsX (sb "NoCall") 0) (fCons (fIsX (sb "NoKept") 0) fNil)))))) (put 2))
  (fSeq (fIfS (fOr (fNot (fTest (fIsX (sb "LadderError") 0))) (fNot (fTest (fIsX (sb "ValueError") 0)))) (fRet (fC (.bool false))) fNx)
  (fRet (f2 eqD (fVar 2) (fL (fLc (fRng1 (fCons (fC (.int 11)) fNil)) (put 3) (fun ρ => .ok true ρ) ce__law_only_0 [3]))))))))
def m__law_only : Rho → R RV := gOf 4 w__law_only
/-! ### _law_text -/
abbrev st__law_text : Stmt := topS 40
abbrev N__law_text : List Str := ["_law_telling_here", "_law_parts", "_law_one", "_law_other"]
theorem sc__law_text : FnScope N__law_text ["_law_telling_here"] (defScope st__law_text) := ⟨rfl, rfl, rfl, by decide +kernel, rfl, by decide +kernel, by decide +kernel⟩
def fb__law_text_0 : Rho → R Fl :=
  (fApp 1 (f2 ixD (fL (fLst (fCons (f2 addD (f2 addD (fVar 2) (fC (.str ">"))) (fVar 3)) (fCons (fVar 2) fNil)))) (fCB intOfD (fCons (f2 eqD (fVar 2) (fVar 3)) fNil))))
def w__law_text : Rho → R Fl :=
  (fSeq (fSetO (fLst fNil) 1)
  (fSeq (fFor (fItT (fVar 0)) (putTup 2 (putCons (put 2) (putCons (put 3) putNil))) fb__law_text_0)
  (fSeq (fIfS (fTest (f2 eqD (fOwn 1) (fL (fLst fNil)))) (fRet (fC (.str "-"))) fNx)
  (fRet (fM1 joinD (fC (.str " ")) (fOwn 1))))))
def m__law_text : Rho → R RV := gOf 4 w__law_text
/-! ### _law_due -/
abbrev st__law_due : Stmt := topS 41
abbrev N__law_due : List Str := ["_law_code_here", "_law_text_here", "_law_parts", "_law_found", "_law_part", "_law_sides", "_law_one", "_law_other"]
theorem sc__law_due : FnScope N__law_due ["_law_code_here", "_law_text_here"] (defScope st__law_due) := ⟨rfl, rfl, rfl, by decide +kernel, rfl, by decide +kernel, by decide +kernel⟩
def ce__law_due_1 : Rho → R AV :=
  (fCB lenD (fCons (fVar 6) fNil))
def fb__law_due_0 : Rho → R Fl :=
  (fSeq (fAsg (fM1 splitD (fVar 4) (fC (.str ">"))) (put 5))
  (fSeq (fIfS (fTest (f2 eqD (fCB lenD (fCons (fVar 5) fNil)) (fC (.int 1)))) (fAsg (fL (fLst (fCons (fVar 4) (fCons (fVar 4) fNil)))) (put 5)) (fIfS (fOr (fTest (f2 gtD (fCB lenD (fCons (fVar 5) fNil)) (fC (.int 2)))) (fTest (f2 eqD (f2 ixD (fVar 5) (fC (.int 0))) (f2 ixD (fVar 5) (fC (.int 1)))))) (fRet (fC .none)) fNx))
  (fSeq (fIfS (fOr (fTest (f2 notInD (f2 ixD (fVar 5) (fC (.int 0))) (fVar 2))) (fTest (f2 notInD (f2 ixD (fVar 5) (fC (.int 1))) (fVar 2)))) (fRet (fC .none)) fNx)
  (fSeq (fIfS (fTest (f2 eqD (fVar 5) (fL (fLst (fCons (fC (.str "")) (fCons (fC (.str "")) fNil)))))) (fRet (fC .none)) fNx)
  (fApp 3 (fTup (fCons (f2 ixD (fVar 5) (fC (.int 0))) (fCons (f2 ixD (fVar 5) (fC (.int 1))) fNil))))))))
def w__law_due : Rho → R Fl :=
  (fSeq (fIfS (fTest (f2 eqD (fVar 1) (fC (.str "-")))) (fRet (fTup fNil)) fNx)
  (fSeq (fAsg (f2 addD (fL (fLst (fCons (fC (.str "")) fNil))) (fL (fCBL listA (fCons (f2 ixD (fVar 0) (fC (.int 0))) fNil)))) (put 2))
  (fSeq (fSetO (fLst fNil) 3)
  (fSeq (fFor (fItL (fM1 splitD (fVar 1) (fC (.str " ")))) (put 4) fb__law_due_0)
  (fSeq (fFrz 3 (fIfS (fTest (f2 gtD (fCB sumD (fCons (fL (fLc (fItL (fVar 3)) (putTup 2 (putCons (put 6) (putCons (put 7) putNil))) (fun ρ => .ok true ρ) ce__law_due_1 [6, 7])) fNil)) (fC (.int 8)))) (fRet (fC .none)) fNx))
  (fFrz 3 (fRet (fCB tupleA (fCons (fVar 3) fNil)))))))))
def m__law_due : Rho → R RV := gOf 8 w__law_due
/-! ### _law_turned -/
abbrev st__law_turned : Stmt := topS 42
abbrev N__law_turned : List Str := ["_law_pack_here", "_law_code_here", "_law_text_here", "_law_parts", "_law_at", "_law_place", "_law_odd", "_law_some"]
theorem sc__law_turned : FnScope N__law_turned ["_law_pack_here", "_law_code_here", "_law_text_here"] (defScope st__law_turned) := ⟨rfl, rfl, rfl, by decide +kernel, rfl, by decide +kernel, by decide +kernel⟩
def w__law_turned : Rho → R Fl :=
  (fSeq (fAsg (fM1 splitD (fVar 2) (fC (.str " "))) (put 3))
  (fSeq (fAsg (fCallP 1 0 m__law_take (fCons (f2 addD (fCB lenD (fCons (fVar 2) fNil)) (fC (.int 1))) fNil)) (put 4))
  (fSeq (fAsg (fCallP 1 0 m__law_take (fCons (fCB lenD (fCons (fVar 3) fNil)) fNil)) (put 5))
  (fSeq (fAsg (f2 ixD (fL (fLst (fCons (fC (.str " ")) (fCons (fC (.str ">")) (fCons (f2 ixD (f2 ixD (fVar 1) (fC (.int 0))) (fC (.int 0))) (fCons (f2 ixD (f2 ixD (fVar 1) (fC (.int 0))) (f1 negD (fC (.int 1)))) (fCons (fC (.str "q")) (fCons (fC (.str "-")) (fCons (fC (.str "#")) (fCons (fC (.str "\n")) (fCons (fC (.str "A")) (fCons (fC (.str "> ")) (fCons (fC (.str " >")) (fCons (fC (.str "a>a")) fNil)))))))))))))) (fCallP 1 0 m__law_take (fCons (fC (.int 12)) fNil))) (put 6))
  (fSeq (fSetO (fLst (fCons (f2 addD (f2 addD (fSl slD (fVar 2) fNoPart (fPart (fVar 4))) (fVar 6)) (fSl slD (fVar 2) (fPart (fVar 4)) fNoPart)) (fCons (f2 addD (fSl slD (fVar 2) fNoPart (fPart (fVar 4))) (fSl slD (fVar 2) (fPart (f2 addD (fVar 4) (fC (.int 1)))) fNoPart)) (fCons (fM1 joinD (fC (.str " ")) (f2 addD (fSl slD (fVar 3) fNoPart (fPart (fVar 5))) (fSl slD (fVar 3) (fPart (f2 addD (fVar 5) (fC (.int 1)))) fNoPart))) fNil)))) 7)
  (fSeq (fApp 7 (fM1 joinD (fC (.str " ")) (f2 addD (fSl slD (fVar 3) fNoPart (fPart (f2 addD (fVar 5) (fC (.int 1))))) (fSl slD (fVar 3) (fPart (fVar 5)) fNoPart))))
  (fSeq (fApp 7 (fM1 joinD (fC (.str " ")) (f2 addD (f2 addD (fSl slD (fVar 3) fNoPart (fPart (fVar 5))) (fL (fLst (fCons (fVar 6) fNil)))) (fSl slD (fVar 3) (fPart (f2 addD (fVar 5) (fC (.int 1)))) fNoPart))))
  (fRet (f2 ixD (f2 addD (fOwn 7) (fL (fLst (fCons (f2 addD (fVar 2) (fC (.str " "))) (fCons (f2 addD (fC (.str " ")) (fVar 2)) (fCons (f2 addD (fVar 2) (fC (.str "\n"))) (fCons (fVar 2) fNil))))))) (fCallP 1 0 m__law_take (fCons (fC (.int 9)) fNil)))))))))))
def m__law_turned : Rho → R RV := gOf 8 w__law_turned
/-! ### _law_right -/
abbrev st__law_right : Stmt := topS 43
abbrev N__law_right : List Str := ["_law_code_here", "_law_text_here", "_law_due_here", "_law_found", "_law_caught", "_law_e"]
theorem sc__law_right : FnScope N__law_right ["_law_code_here", "_law_text_here", "_law_due_here"] (defScope st__law_right) := ⟨rfl, rfl, rfl, by decide +kernel, rfl, by decide +kernel, by decide +kernel⟩
def ft__law_right : Rho → R Fl :=
  (fAsg (fCall 2 m_read_telling (fCons (fVar 0) (fCons (fVar 1) fNil))) (put 3))
def w__law_right : Rho → R Fl :=
  (fSeq (fAsg (fC .none) (put 3))
  (fSeq (fAsg (fC .none) (put 4))
  (fSeq (fTryN (sb "LadderError") ft__law_right 5 4)
  (fSeq (fIfS (fTest (f2 isNoneD (fVar 2) (fC .none))) (fRet (fAndV (fCallX 1 4 m__law_only (fCons (fC (.int 0)) fNil)) (f2 isNoneD (fXf (fun n => decide (n = "NoText")) 4 "part") (fC .none)))) fNx)
  (fRet (fAndV (fIsNX 4) (fAndV (f1 (isiD "tuple") (fVar 3)) (f2 eqD (fVar 3) (fVar 2)))))))))
def m__law_right : Rho → R RV := gOf 6 w__law_right
/-! ### _law_spelled -/
abbrev st__law_spelled : Stmt := topS 44
abbrev N__law_spelled : List Str := ["_law_pack_here", "_law_code_here", "_law_at", "_law_step", "_law_letters", "_law_called", "_law_wishes", "_law_name", "_law_patterns", "_law_found", "_law_pattern_here", "_law_times", "_law_parts", "_law_k", "_law_sign", "_law_part"]
theorem sc__law_spelled : FnScope N__law_spelled ["_law_pack_here", "_law_code_here"] (defScope st__law_spelled) := ⟨rfl, rfl, rfl, by decide +kernel, rfl, by decide +kernel, by decide +kernel⟩
def ce__law_spelled_6 : Rho → R AV :=
  (f2 dgetD (fVar 5) (fVar 14))
def ce__law_spelled_4 : Rho → R AV :=
  (f2 dgetD (fVar 5) (fVar 14))
def ce__law_spelled_5 : Rho → R AV :=
  (fM1 joinD (fC (.str "")) (fL (fLc (fItS (fVar 15)) (put 14) (fun ρ => .ok true ρ) ce__law_spelled_4 [14])))
def fb__law_spelled_3 : Rho → R Fl :=
  (fSeq (fAsg (fCB tupleA (fCons (fL (fLc (fItT (fSl slD (fVar 10) (fPart (fC (.int 1))) fNoPart)) (put 15) (fun ρ => .ok true ρ) ce__law_spelled_5 [15])) fNil)) (put 12))
  (fApp 9 (fTup (fCons (f2 addD (fSl slD (fVar 10) fNoPart (fPart (fC (.int 1)))) (fVar 12)) (fCons (fVar 11) fNil)))))
def fb__law_spelled_2 : Rho → R Fl :=
  (fSeq (fSetO (fLst fNil) 9)
  (fSeq (fFor (fItT (fVar 8)) (putTup 2 (putCons (put 10) (putCons (put 11) putNil))) fb__law_spelled_3)
  (fApp 6 (fTup (fCons (fVar 7) (fCons (fCB tupleA (fCons (fOwn 9) fNil)) fNil))))))
def ce__law_spelled_1 : Rho → R AV :=
  (fTup (fCons (f2 ixD (f2 ixD (fVar 1) (fC (.int 0))) (fVar 13)) (fCons (f2 ixD (fVar 4) (fVar 13)) fNil)))
def ce__law_spelled_0 : Rho → R AV :=
  (f2 ixD (fC (.str "abcdefghijklmnopqrstuvwxyz")) (f2 modD (f2 addD (fVar 2) (f2 mulC (fVar 13) (fVar 3))) (fC (.int 26))))
def w__law_spelled : Rho → R Fl :=
  (fSeq (fAsg (fCallP 1 0 m__law_take (fCons (fC (.int 26)) fNil)) (put 2))
  (fSeq (fAsg (f2 addD (fC (.int 1)) (fCallP 1 0 m__law_take (fCons (fC (.int 12)) fNil))) (put 3))
  (fSeq (fAsg (fL (fCBL sortedD (fCons (fL (fLc (fRng1 (fCons (fCB lenD (fCons (f2 ixD (fVar 1) (fC (.int 0))) fNil)) fNil)) (put 13) (fun ρ => .ok true ρ) ce__law_spelled_0 [13])) fNil))) (put 4))
  (fSeq (fAsg (fCB dictD (fCons (f2 addD (fL (fLc (fRng1 (fCons (fCB lenD (fCons (fVar 4) fNil)) fNil)) (put 13) (fun ρ => .ok true ρ) ce__law_spelled_1 [13])) (fL (fLst (fCons (fTup (fCons (fC (.str "#")) (fCons (fC (.str "#")) fNil))) fNil)))) fNil)) (put 5))
  (fSeq (fSetO (fLst fNil) 6)
  (fSeq (fFor (fItT (f2 ixD (fVar 1) (fC (.int 1)))) (putTup 2 (putCons (put 7) (putCons (put 8) putNil))) fb__law_spelled_2)
  (fRet (fTup (fCons (fM1 joinD (fC (.str "")) (fL (fLc (fItS (f2 ixD (fVar 1) (fC (.int 0)))) (put 14) (fun ρ => .ok true ρ) ce__law_spelled_6 [14]))) (fCons (fCB tupleA (fCons (fOwn 6) fNil)) fNil))))))))))
def m__law_spelled : Rho → R RV := gOf 16 w__law_spelled
/-! ### law -/
abbrev st_law : Stmt := topS 45
abbrev N_law : List Str := ["_law_script", "_law_pack_here", "_law_code_here", "_law_k", "_law_telling_here", "_law_text_here", "_law_turn", "_law_some", "_law_thing"]
theorem sc_law : FnScope N_law ["_law_script"] (defScope st_law) := ⟨rfl, rfl, rfl, by decide +kernel, rfl, by decide +kernel, by decide +kernel⟩
def ce_law_2 : Rho → R AV :=
  (fCall 3 m__law_right (fCons (fVar 2) (fCons (fVar 8) (fCons (fC .none) fNil))))
def fb_law_1 : Rho → R Fl :=
  (fSeq (fAsg (fCallP 2 1 m__law_turned (fCons (fVar 2) (fCons (fVar 5) fNil))) (put 7))
  (fIfS (fNot (fTest (fCall 3 m__law_right (fCons (fVar 2) (fCons (fVar 7) (fCons (fCall 2 m__law_due (fCons (fVar 2) (fCons (fVar 7) fNil))) fNil)))))) (fRet (fC (.bool false))) fNx))
def fb_law_0 : Rho → R Fl :=
  (fSeq (fSetO (fCallL 2 m__law_pack (fCons (fVar 0) (fCons (fVar 3) fNil))) 1)
  (fSeq (fAsg (fSl slD (fCallP 2 1 m__law_telling (fCons (f2 ixD (fVar 2) (fC (.int 0))) (fCons (fCallP 2 1 m__law_word (fCons (f2 ixD (fVar 2) (fC (.int 0))) (fCons (fC (.int 8)) fNil))) fNil))) fNoPart (fPart (fC (.int 20)))) (put 4))
  (fSeq (fAsg (fCall 1 m__law_text (fCons (fVar 4) fNil)) (put 5))
  (fSeq (fIfS (fOr (fTest (f2 neD (fCall 1 m_show_telling (fCons (fVar 4) fNil)) (fVar 5))) (fNot (fTest (fCall 3 m__law_right (fCons (fVar 2) (fCons (fVar 5) (fCons (fVar 4) fNil))))))) (fRet (fC (.bool false))) fNx)
  (fFor (fRng1 (fCons (fC (.int 4)) fNil)) (put 6) fb_law_1)))))
def w_law : Rho → R Fl :=
  (fSeq (fSetO (fCallL 2 m__law_pack (fCons (fVar 0) (fCons (fC (.int 0)) fNil))) 1)
  (fSeq (fAsg (fCallP 1 1 m__law_spelled (fCons (fCallP 1 1 m__law_code (fCons (fC (.int 2)) fNil)) fNil)) (put 2))
  (fSeq (fFor (fRng2 (fCons (fC (.int 1)) (fCons (fCB maxD (fCons (fC (.int 2)) (fCons (fCB minD (fCons (fCB lenD (fCons (fVar 0) fNil)) (fCons (fC (.int 11)) fNil))) fNil))) fNil))) (put 3) fb_law_0)
  (fRet (fCB allD (fCons (fL (fLc (fItL (fL (fLst (fCons (fC .none) (fCons (fC (.int 7)) (fCons (fC (.bool true)) (fCons (fTup (fCons (fC (.str "-")) fNil)) (fCons (fL (fLst (fCons (fC (.str "-")) fNil))) (fCons (fC (.dict [])) (fCons (fC (.str "")) (fCons (fC (.str " ")) (fCons (fC (.str "--")) fNil)))))))))))) (put 8) (fun ρ => .ok true ρ) ce_law_2 [8])) fNil))))))
def m_law : Rho → R RV := gOf 9 w_law
end Lw
namespace Lw
open PySem PySem.Spec L2 Evl Dt PyProof.Rows
structure TX (K : PySem.W.Frag) (mg : Str → Option Value) where
  f_is_text_of : FnI K mg "is_text_of" st_is_text_of
  f_is_word : FnI K mg "is_word" st_is_word
  f_is_part : FnI K mg "is_part" st_is_part
  f_is_step : FnI K mg "is_step" st_is_step
  f_is_steps : FnI K mg "is_steps" st_is_steps
  f_word_of : FnI K mg "word_of" st_word_of
  f_is_telling : FnI K mg "is_telling" st_is_telling
  f_show_step : FnI K mg "show_step" st_show_step
  f_show_telling : FnI K mg "show_telling" st_show_telling
  f_step_in : FnI K mg "step_in" st_step_in
  f_read_telling : FnI K mg "read_telling" st_read_telling
  f__law_mixed : FnI K mg "_law_mixed" st__law_mixed
  f__law_pack : FnI K mg "_law_pack" st__law_pack
  f__law_take : FnI K mg "_law_take" st__law_take
  f__law_names : FnI K mg "_law_names" st__law_names
  f__law_set : FnI K mg "_law_set" st__law_set
  f__law_pattern : FnI K mg "_law_pattern" st__law_pattern
  f__law_code : FnI K mg "_law_code" st__law_code
  f__law_word : FnI K mg "_law_word" st__law_word
  f__law_telling : FnI K mg "_law_telling" st__law_telling
  f__law_only : FnI K mg "_law_only" st__law_only
  f__law_text : FnI K mg "_law_text" st__law_text
  f__law_due : FnI K mg "_law_due" st__law_due
  f__law_turned : FnI K mg "_law_turned" st__law_turned
  f__law_right : FnI K mg "_law_right" st__law_right
  f__law_spelled : FnI K mg "_law_spelled" st__law_spelled
  f_law : FnI K mg "law" st_law
  m_ValueError : mg "ValueError" = none
  m_all : mg "all" = none
  m_dict : mg "dict" = none
  m_divmod : mg "divmod" = none
  m_int : mg "int" = none
  m_isinstance : mg "isinstance" = none
  m_len : mg "len" = none
  m_list : mg "list" = none
  m_max : mg "max" = none
  m_min : mg "min" = none
  m_range : mg "range" = none
  m_sorted : mg "sorted" = none
  m_str : mg "str" = none
  m_sum : mg "sum" = none
  m_tuple : mg "tuple" = none
  y_LadderError : mg "LadderError" = some (.ref (cA K "LadderError"))
  y_NoBook : mg "NoBook" = some (.ref (cA K "NoBook"))
  y_NoCall : mg "NoCall" = some (.ref (cA K "NoCall"))
  y_NoForm : mg "NoForm" = some (.ref (cA K "NoForm"))
  y_NoKept : mg "NoKept" = some (.ref (cA K "NoKept"))
  y_NoNumber : mg "NoNumber" = some (.ref (cA K "NoNumber"))
  y_NoOrder : mg "NoOrder" = some (.ref (cA K "NoOrder"))
  y_NoTelling : mg "NoTelling" = some (.ref (cA K "NoTelling"))
  y_NoText : mg "NoText" = some (.ref (cA K "NoText"))
  y_NoWeights : mg "NoWeights" = some (.ref (cA K "NoWeights"))
  y_NoWord : mg "NoWord" = some (.ref (cA K "NoWord"))
  y_TooMany : mg "TooMany" = some (.ref (cA K "TooMany"))
  c_MOST_WORD : ∃ t, mg "MOST_WORD" = some (.int 8 t)
  i_NoText : InI K mg "NoText" "LadderError" "part" "NoText.__init__" st_NoText
  x_is : ∀ c, (decide (c ∈ testedC)) = true → ∀ n b, sb c n = some b → XcC K (cA K n) ∧ PySem.W.kitOne K (.ref (cA K n)) (.ref (cA K c)) = some b
  x_ex : ∀ c, (decide (c ∈ caughtC)) = true → ∀ n b, sb c n = some b → PySem.W.exmOne K (.ref (cA K n)) (.ref (cA K c)) = some b
  x_isValueError : ∀ n b, sb "ValueError" n = some b → XcC K (cA K n) ∧ PySem.W.kitOne K (.ref (cA K n)) (.type "ValueError") = some b
section
variable {P : Program} {w : World} {K : PySem.W.Frag} {C : Str → Addr} {mg : Str → Option Value} {base : Heap}
theorem bi_NoText (T : TX K mg) : Binds K T.i_NoText.fd ["self", "part"] [] := T.i_NoText.F.bindsN fun _ _ _ _ _ _ us hl => match us, hl with | [_, _], _ => rfl
theorem oki_NoText (T : TX K mg) : FnOk P w K mg base (L2.CX P w) 1 (He.ma K (cA K "NoText") "__init__") T.i_NoText.fd ["self", "part"] (spI (cA K "NoText") "part") :=
  init_ok T.i_NoText.F sc_NoText rfl T.i_NoText.E.o T.i_NoText.no fun cdv A outer s H E => pss_cons (ps_expr (pe_leinit (by rfl) T.y_LadderError T.i_NoText.B (pa_cons (pv 0) (pa_cons pe_str pa_nil)))) (pss_one (ps_ost (pv 0) (pv 1)))
theorem b_is_text_of (T : TX K mg) : Binds K T.f_is_text_of.fd ["thing", "signs"] [] := T.f_is_text_of.F.bindsN fun _ _ _ _ _ _ us hl => match us, hl with | [_, _], _ => rfl
set_option maxHeartbeats 4000000 in
theorem ok_is_text_of (T : TX K mg) : FnOk P w K mg base (L2.CX P w) 1 T.f_is_text_of.f T.f_is_text_of.fd ["thing", "signs"] (spF ⟨K, C⟩ 2 m_is_text_of) := by
  refine fn_ok T.f_is_text_of.F sc_is_text_of (fun cdv A outer s H E hr tk po => ⟨_, (pss_one (ps_ret (pe_and (pe_callB (kIsi K) (by rfl) T.m_isinstance boot_isinstance (pa_cons (pv 0) (pa_cons (pe_bltn (v := .ty "str") (by rfl) T.m_str boot_str rfl) pa_nil))) (pe_one (pe_callB (kAll K (hc := rfl)) (by rfl) T.m_all bt_all (pa_cons (pe_lc (own := [("sign", 2)]) rfl sc_is_text_of.nd (pi_str (pv 0)) (blkOk_by (own := [("sign", 2)]) (N := N_is_text_of) (sc := defScope st_is_text_of) (by decide +kernel)) (fun _ _ _ _ _ => (pg_name (i := 2) sc_is_text_of.nd rfl (by first | exact Or.inl rfl | exact Or.inr rfl))) (fun _ _ _ _ _ => pts_nil) (fun _ _ _ _ _ => (pe_cmpR (kIn K (hu := u65 hr)) (pv 2) (pv 1) (by rfl)))) pa_nil)))))), ?_⟩)
  exact (s_ret (d_and (d_isi (d_var 0)) (d_cb rc_all (d_cons (d_ofL (l_lc (i_str (d_var 0)) (g_name 2) (by decide) dt_yes (d_op ro_in (d_var 2) (d_var 1)))) d_nil))))
theorem b_is_word (T : TX K mg) : Binds K T.f_is_word.fd ["code", "thing"] [] := T.f_is_word.F.bindsN fun _ _ _ _ _ _ us hl => match us, hl with | [_, _], _ => rfl
set_option maxHeartbeats 4000000 in
theorem ok_is_word (T : TX K mg) : FnOk P w K mg base (L2.CX P w) 2 T.f_is_word.f T.f_is_word.fd ["code", "thing"] (spF ⟨K, C⟩ 2 m_is_word) := by
  obtain ⟨t_MOST_WORD, c_MOST_WORD⟩ := T.c_MOST_WORD
  refine fn_ok T.f_is_word.F sc_is_word (fun cdv A outer s H E hr tk po => ⟨_, (pss_one (ps_ret (pe_and (pe_callS (ok_is_text_of (C := C) T) (hr.mono (by decide)) (by rfl) T.f_is_text_of.g T.f_is_text_of.F.kp (b_is_text_of T) (fun σ => passAt tk σ) (pa_cons (pv 1) (pa_cons (pe_ix (kIx K) (pv 0) pe_int (fun _ _ => rfl)) pa_nil))) (pe_one (pe_cmpR op_le (pe_callB (kLen K) (by rfl) T.m_len PySem.boot_len (pa_cons (pv 1) pa_nil)) (pe_glob (v := .int 8) (by rfl) c_MOST_WORD ⟨_, rfl⟩) (nomark _)))))), ?_⟩)
  exact (s_ret (d_and (d_call (d_cons (d_var 1) (d_cons (d_op ro_ix (d_var 0) (d_int 0)) d_nil))) (d_op ro_le (d_cb rc_len (d_cons (d_var 1) d_nil)) (d_int 8))))
theorem b_is_part (T : TX K mg) : Binds K T.f_is_part.fd ["code", "thing"] [] := T.f_is_part.F.bindsN fun _ _ _ _ _ _ us hl => match us, hl with | [_, _], _ => rfl
set_option maxHeartbeats 4000000 in
theorem ok_is_part (T : TX K mg) : FnOk P w K mg base (L2.CX P w) 1 T.f_is_part.f T.f_is_part.fd ["code", "thing"] (spF ⟨K, C⟩ 2 m_is_part) := by
  refine fn_ok T.f_is_part.F sc_is_part (fun cdv A outer s H E hr tk po => ⟨_, (pss_one (ps_ret (pe_and (pe_callB (kIsi K) (by rfl) T.m_isinstance boot_isinstance (pa_cons (pv 1) (pa_cons (pe_bltn (v := .ty "str") (by rfl) T.m_str boot_str rfl) pa_nil))) (pe_and (pe_cmpR op_le (pe_callB (kLen K) (by rfl) T.m_len PySem.boot_len (pa_cons (pv 1) pa_nil)) pe_int (nomark _)) (pe_one (pe_cmpR (kIn K (hu := u65 hr)) (pv 1) (pe_ix (kIx K) (pv 0) pe_int (fun _ _ => rfl)) (by rfl))))))), ?_⟩)
  exact (s_ret (d_and (d_isi (d_var 1)) (d_and (d_op ro_le (d_cb rc_len (d_cons (d_var 1) d_nil)) (d_int 1)) (d_op ro_in (d_var 1) (d_op ro_ix (d_var 0) (d_int 0))))))
theorem b_is_step (T : TX K mg) : Binds K T.f_is_step.fd ["code", "thing"] [] := T.f_is_step.F.bindsN fun _ _ _ _ _ _ us hl => match us, hl with | [_, _], _ => rfl
set_option maxHeartbeats 4000000 in
theorem ok_is_step (T : TX K mg) : FnOk P w K mg base (L2.CX P w) 2 T.f_is_step.f T.f_is_step.fd ["code", "thing"] (spF ⟨K, C⟩ 2 m_is_step) := by
  refine fn_ok T.f_is_step.F sc_is_step (fun cdv A outer s H E hr tk po => ⟨_, (pss_cons (ps_if ((pw_or (pt_not (pt_val (pe_callB (kIsi K) (by rfl) T.m_isinstance boot_isinstance (pa_cons (pv 1) (pa_cons (pe_bltn (v := .ty "tuple") (by rfl) T.m_tuple boot_tuple rfl) pa_nil))))) (pw_or (pt_cmpR (kNe K (hu := hr.units)) (pe_callB (kLen K) (by rfl) T.m_len PySem.boot_len (pa_cons (pv 1) pa_nil)) pe_int (nomark _)) (pw_or1 (pt_not (pt_val (pe_callB (kAll K (hc := rfl)) (by rfl) T.m_all bt_all (pa_cons (pe_lc (own := [("part", 2)]) rfl sc_is_step.nd (kPiTup K (pv 1)) (blkOk_by (own := [("part", 2)]) (N := N_is_step) (sc := defScope st_is_step) (by decide +kernel)) (fun _ _ _ _ _ => (pg_name (i := 2) sc_is_step.nd rfl (by first | exact Or.inl rfl | exact Or.inr rfl))) (fun _ _ _ _ _ => pts_nil) (fun _ _ _ _ _ => (pe_callS (ok_is_part (C := C) T) (hr.mono (by decide)) (by rfl) T.f_is_part.g T.f_is_part.F.kp (b_is_part T) (fun σ => passAt takes0 σ) (pa_cons (pv 0) (pa_cons (pv 2) pa_nil))))) pa_nil)))))))).pt (pss_one (ps_ret pe_bl)) pss_nil)
      (pss_one (ps_ret (pe_cmpR (kNe K (hu := hr.units)) (pv 1) (pe_tup (pa_cons pe_str (pa_cons pe_str pa_nil))) (nomark _))))), ?_⟩)
  exact (s_seq (s_if (dt_or (dt_not (dt_tB (d_isi (d_var 1)))) (dt_or (dt_test (d_op ro_ne (d_cb rc_len (d_cons (d_var 1) d_nil)) (d_int 2))) (dt_not (dt_tB (d_cb rc_all (d_cons (d_ofL (l_lc (i_tup (d_var 1)) (g_name 2) (by decide) dt_yes (d_call (d_cons (d_var 0) (d_cons (d_var 2) d_nil))))) d_nil)))))) (s_ret (d_bl false)) s_nx)
      (s_ret (d_op ro_ne (d_var 1) (d_tup (d_cons (d_str _) (d_cons (d_str _) d_nil))))))
theorem b_is_steps (T : TX K mg) : Binds K T.f_is_steps.fd ["code", "thing"] [] := T.f_is_steps.F.bindsN fun _ _ _ _ _ _ us hl => match us, hl with | [_, _], _ => rfl
set_option maxHeartbeats 4000000 in
theorem ok_is_steps (T : TX K mg) : FnOk P w K mg base (L2.CX P w) 3 T.f_is_steps.f T.f_is_steps.fd ["code", "thing"] (spF ⟨K, C⟩ 2 m_is_steps) := by
  refine fn_ok T.f_is_steps.F sc_is_steps (fun cdv A outer s H E hr tk po => ⟨_, (pss_one (ps_ret (pe_and (pe_callB (kIsi K) (by rfl) T.m_isinstance boot_isinstance (pa_cons (pv 1) (pa_cons (pe_bltn (v := .ty "tuple") (by rfl) T.m_tuple boot_tuple rfl) pa_nil))) (pe_one (pe_callB (kAll K (hc := rfl)) (by rfl) T.m_all bt_all (pa_cons (pe_lc (own := [("step", 2)]) rfl sc_is_steps.nd (kPiTup K (pv 1)) (blkOk_by (own := [("step", 2)]) (N := N_is_steps) (sc := defScope st_is_steps) (by decide +kernel)) (fun _ _ _ _ _ => (pg_name (i := 2) sc_is_steps.nd rfl (by first | exact Or.inl rfl | exact Or.inr rfl))) (fun _ _ _ _ _ => pts_nil) (fun _ _ _ _ _ => (pe_callS (ok_is_step (C := C) T) (hr.mono (by decide)) (by rfl) T.f_is_step.g T.f_is_step.F.kp (b_is_step T) (fun σ => passAt takes0 σ) (pa_cons (pv 0) (pa_cons (pv 2) pa_nil))))) pa_nil)))))), ?_⟩)
  exact (s_ret (d_and (d_isi (d_var 1)) (d_cb rc_all (d_cons (d_ofL (l_lc (i_tup (d_var 1)) (g_name 2) (by decide) dt_yes (d_call (d_cons (d_var 0) (d_cons (d_var 2) d_nil))))) d_nil))))
theorem b_word_of (T : TX K mg) : Binds K T.f_word_of.fd ["telling"] [] := T.f_word_of.F.bindsN fun _ _ _ _ _ _ us hl => match us, hl with | [_], _ => rfl
set_option maxHeartbeats 4000000 in
theorem ok_word_of (T : TX K mg) : FnOk P w K mg base (L2.CX P w) 1 T.f_word_of.f T.f_word_of.fd ["telling"] (spF ⟨K, C⟩ 1 m_word_of) := by
  refine fn_ok T.f_word_of.F sc_word_of (fun cdv A outer s H E hr tk po => ⟨_, (pss_one (ps_ret (pe_m1 PySem.F.slot_str_join PySem.F.type_str_join (kJoin K) pe_str (pe_lc (own := [("step", 1)]) rfl sc_word_of.nd (kPiTup K (pv 0)) (blkOk_by (own := [("step", 1)]) (N := N_word_of) (sc := defScope st_word_of) (by decide +kernel)) (fun _ _ _ _ _ => (pg_name (i := 1) sc_word_of.nd rfl (by first | exact Or.inl rfl | exact Or.inr rfl))) (fun _ _ _ _ _ => pts_nil) (fun _ _ _ _ _ => (pe_ix (kIx K) (pv 1) pe_int (fun _ _ => rfl))))))), ?_⟩)
  exact (s_ret (d_m1 rm_join (d_str _) (d_ofL (l_lc (i_tup (d_var 0)) (g_name 1) (by decide) dt_yes (d_op ro_ix (d_var 1) (d_int 0))))))
theorem b_is_telling (T : TX K mg) : Binds K T.f_is_telling.fd ["code", "thing"] [] := T.f_is_telling.F.bindsN fun _ _ _ _ _ _ us hl => match us, hl with | [_, _], _ => rfl
set_option maxHeartbeats 4000000 in
theorem ok_is_telling (T : TX K mg) : FnOk P w K mg base (L2.CX P w) 4 T.f_is_telling.f T.f_is_telling.fd ["code", "thing"] (spF ⟨K, C⟩ 2 m_is_telling) := by
  refine fn_ok T.f_is_telling.F sc_is_telling (fun cdv A outer s H E hr tk po => ⟨_, (pss_one (ps_ret (pe_and (pe_callS (ok_is_steps (C := C) T) (hr.mono (by decide)) (by rfl) T.f_is_steps.g T.f_is_steps.F.kp (b_is_steps T) (fun σ => passAt tk σ) (pa_cons (pv 0) (pa_cons (pv 1) pa_nil))) (pe_one (pe_callS (ok_is_word (C := C) T) (hr.mono (by decide)) (by rfl) T.f_is_word.g T.f_is_word.F.kp (b_is_word T) (fun σ => passAt tk σ) (pa_cons (pv 0) (pa_cons (pe_callS (ok_word_of (C := C) T) (hr.mono (by decide)) (by rfl) T.f_word_of.g T.f_word_of.F.kp (b_word_of T) (fun σ => passAt tk σ) (pa_cons (pv 1) pa_nil)) pa_nil))))))), ?_⟩)
  exact (s_ret (d_and (d_call (d_cons (d_var 0) (d_cons (d_var 1) d_nil))) (d_call (d_cons (d_var 0) (d_cons (d_call (d_cons (d_var 1) d_nil)) d_nil)))))
theorem b_show_step (T : TX K mg) : Binds K T.f_show_step.fd ["step"] [] := T.f_show_step.F.bindsN fun _ _ _ _ _ _ us hl => match us, hl with | [_], _ => rfl
set_option maxHeartbeats 4000000 in
theorem ok_show_step (T : TX K mg) : FnOk P w K mg base (L2.CX P w) 1 T.f_show_step.f T.f_show_step.fd ["step"] (spF ⟨K, C⟩ 1 m_show_step) := by
  refine fn_ok T.f_show_step.F sc_show_step (fun cdv A outer s H E hr tk po => ⟨_, (pss_cons (ps_if (pt_cmpR (kEq K (hu := hr.units)) (pe_ix (kIx K) (pv 0) pe_int (fun _ _ => rfl)) (pe_ix (kIx K) (pv 0) pe_int (fun _ _ => rfl)) (nomark _)) (pss_one (ps_ret (pe_ix (kIx K) (pv 0) pe_int (fun _ _ => rfl)))) pss_nil)
      (pss_one (ps_ret (pe_op (kAdd K) (pe_op (kAdd K) (pe_ix (kIx K) (pv 0) pe_int (fun _ _ => rfl)) pe_str) (pe_ix (kIx K) (pv 0) pe_int (fun _ _ => rfl)))))), ?_⟩)
  exact (s_seq (s_if (dt_test (d_op ro_eq (d_op ro_ix (d_var 0) (d_int 0)) (d_op ro_ix (d_var 0) (d_int 1)))) (s_ret (d_op ro_ix (d_var 0) (d_int 0))) s_nx)
      (s_ret (d_op ro_add (d_op ro_add (d_op ro_ix (d_var 0) (d_int 0)) (d_str _)) (d_op ro_ix (d_var 0) (d_int 1)))))
theorem b_show_telling (T : TX K mg) : Binds K T.f_show_telling.fd ["telling"] [] := T.f_show_telling.F.bindsN fun _ _ _ _ _ _ us hl => match us, hl with | [_], _ => rfl
set_option maxHeartbeats 4000000 in
theorem ok_show_telling (T : TX K mg) : FnOk P w K mg base (L2.CX P w) 2 T.f_show_telling.f T.f_show_telling.fd ["telling"] (spF ⟨K, C⟩ 1 m_show_telling) := by
  refine fn_ok T.f_show_telling.F sc_show_telling (fun cdv A outer s H E hr tk po => ⟨_, (pss_cons (ps_if (pt_cmpR (kEq K (hu := hr.units)) (pv 0) (pe_tup pa_nil) (nomark _)) (pss_one (ps_ret pe_str)) pss_nil)
      (pss_one (ps_ret (pe_m1 PySem.F.slot_str_join PySem.F.type_str_join (kJoin K) pe_str (pe_lc (own := [("step", 1)]) rfl sc_show_telling.nd (kPiTup K (pv 0)) (blkOk_by (own := [("step", 1)]) (N := N_show_telling) (sc := defScope st_show_telling) (by decide +kernel)) (fun _ _ _ _ _ => (pg_name (i := 1) sc_show_telling.nd rfl (by first | exact Or.inl rfl | exact Or.inr rfl))) (fun _ _ _ _ _ => pts_nil) (fun _ _ _ _ _ => (pe_callS (ok_show_step (C := C) T) (hr.mono (by decide)) (by rfl) T.f_show_step.g T.f_show_step.F.kp (b_show_step T) (fun σ => passAt takes0 σ) (pa_cons (pv 1) pa_nil)))))))), ?_⟩)
  exact (s_seq (s_if (dt_test (d_op ro_eq (d_var 0) (d_tup d_nil))) (s_ret (d_str _)) s_nx)
      (s_ret (d_m1 rm_join (d_str _) (d_ofL (l_lc (i_tup (d_var 0)) (g_name 1) (by decide) dt_yes (d_call (d_cons (d_var 1) d_nil)))))))
theorem b_step_in (T : TX K mg) : Binds K T.f_step_in.fd ["text"] [] := T.f_step_in.F.bindsN fun _ _ _ _ _ _ us hl => match us, hl with | [_], _ => rfl
set_option maxHeartbeats 4000000 in
theorem ok_step_in (T : TX K mg) : FnOk P w K mg base (L2.CX P w) 1 T.f_step_in.f T.f_step_in.fd ["text"] (spF ⟨K, C⟩ 1 m_step_in) := by
  refine fn_ok T.f_step_in.F sc_step_in (fun cdv A outer s H E hr tk po => ⟨_, (pss_cons (ps_asg (pe_partition (pv 0) pe_str) (kgTup (n := 3) K rfl (pgs_cons (pg_name (i := 1) sc_step_in.nd rfl (Or.inl rfl)) (pgs_cons (pg_name (i := 2) sc_step_in.nd rfl (Or.inl rfl)) (pgs_cons (pg_name (i := 3) sc_step_in.nd rfl (Or.inl rfl)) pgs_nil)))))
      (pss_cons (ps_if (pt_cmpR (kEq K (hu := hr.units)) (pv 2) pe_str (nomark _)) (pss_one (ps_ret (pe_tup (pa_cons (pv 1) (pa_cons (pv 1) pa_nil))))) pss_nil)
      (pss_cons (ps_if (pt_cmpR (kEq K (hu := hr.units)) (pv 1) (pv 3) (nomark _)) (pss_one (ps_ret pe_non)) pss_nil)
      (pss_one (ps_ret (pe_tup (pa_cons (pv 1) (pa_cons (pv 3) pa_nil)))))))), ?_⟩)
  exact (s_seq (s_asg (d_m1 rm_part (d_var 0) (d_str _)) (g_tup (gs_cons (g_name 1) (gs_cons (g_name 2) (gs_cons (g_name 3) gs_nil)))))
      (s_seq (s_if (dt_test (d_op ro_eq (d_var 2) (d_str _))) (s_ret (d_tup (d_cons (d_var 1) (d_cons (d_var 1) d_nil)))) s_nx)
      (s_seq (s_if (dt_test (d_op ro_eq (d_var 1) (d_var 3))) (s_ret d_non) s_nx)
      (s_ret (d_tup (d_cons (d_var 1) (d_cons (d_var 3) d_nil)))))))
theorem b_read_telling (T : TX K mg) : Binds K T.f_read_telling.fd ["code", "text"] [] := T.f_read_telling.F.bindsN fun _ _ _ _ _ _ us hl => match us, hl with | [_, _], _ => rfl
set_option maxHeartbeats 4000000 in
theorem ok_read_telling (T : TX K mg) : FnOk P w K mg base (L2.CX P w) 5 T.f_read_telling.f T.f_read_telling.fd ["code", "text"] (spF ⟨K, C⟩ 2 m_read_telling) := by
  refine fn_ok T.f_read_telling.F sc_read_telling (fun cdv A outer s H E hr tk po => ⟨_, (pss_cons (ps_set (i := 2) sc_read_telling.nd rfl (Or.inl rfl) pe_non)
      (pss_cons (ps_if (pt_cmpR (kEq K (hu := hr.units)) (pv 1) pe_str (nomark _)) (pss_one (ps_set (i := 2) sc_read_telling.nd rfl (Or.inl rfl) (pe_tup pa_nil))) (pss_one (ps_if (pt_val (pe_callB (kIsi K) (by rfl) T.m_isinstance boot_isinstance (pa_cons (pv 1) (pa_cons (pe_bltn (v := .ty "str") (by rfl) T.m_str boot_str rfl) pa_nil)))) (pss_one (ps_set (i := 2) sc_read_telling.nd rfl (Or.inl rfl) (pe_callTy (kTupleB K (hc := rfl)) (by rfl) T.m_tuple boot_tuple (pa_cons (pe_lc (own := [("part", 3)]) rfl sc_read_telling.nd (kPiList K (pe_split (pv 1) pe_str)) (blkOk_by (own := [("part", 3)]) (N := N_read_telling) (sc := defScope st_read_telling) (by decide +kernel)) (fun _ _ _ _ _ => (pg_name (i := 3) sc_read_telling.nd rfl (by first | exact Or.inl rfl | exact Or.inr rfl))) (fun _ _ _ _ _ => pts_nil) (fun _ _ _ _ _ => (pe_callS (ok_step_in (C := C) T) (hr.mono (by decide)) (by rfl) T.f_step_in.g T.f_step_in.F.kp (b_step_in T) (fun σ => passAt takes0 σ) (pa_cons (pv 3) pa_nil)))) pa_nil)))) pss_nil)))
      (pss_cons (ps_if (pt_not (pt_val (pe_callS (ok_is_telling (C := C) T) (hr.mono (by decide)) (by rfl) T.f_is_telling.g T.f_is_telling.F.kp (b_is_telling T) (fun σ => passAt tk σ) (pa_cons (pv 0) (pa_cons (pv 2) pa_nil))))) (pss_one (k_raiseP K rfl tk T.i_NoText.E (oki_NoText T) (hr.mono (by decide)) (bi_NoText T) (passNo tk) (by rfl) pe_non)) pss_nil)
      (pss_one (ps_ret (pv 2)))))), ?_⟩)
  exact (s_seq (s_asg d_non (g_name 2))
      (s_seq (s_if (dt_test (d_op ro_eq (d_var 1) (d_str _))) (s_asg (d_tup d_nil) (g_name 2)) (s_if (dt_tB (d_isi (d_var 1))) (s_asg (d_cb rc_tupleA (d_cons (d_ofL (l_lc (i_list (d_m1 rm_split (d_var 1) (d_str _))) (g_name 3) (by decide) dt_yes (d_call (d_cons (d_var 3) d_nil)))) d_nil)) (g_name 2)) s_nx))
      (s_seq (s_if (dt_not (dt_tB (d_call (d_cons (d_var 0) (d_cons (d_var 2) d_nil))))) (s_raiseP d_non) s_nx)
      (s_ret (d_var 2)))))
theorem b__law_mixed (T : TX K mg) : Binds K T.f__law_mixed.fd ["_law_cell"] [] := T.f__law_mixed.F.bindsN fun _ _ _ _ _ _ us hl => match us, hl with | [_], _ => rfl
set_option maxHeartbeats 4000000 in
theorem ok__law_mixed (T : TX K mg) : FnOk P w K mg base (L2.CX P w) 1 T.f__law_mixed.f T.f__law_mixed.fd ["_law_cell"] (spF ⟨K, C⟩ 1 m__law_mixed) := by
  refine fn_ok T.f__law_mixed.F sc__law_mixed (fun cdv A outer s H E hr tk po => ⟨_, (pss_one (ps_ret (pe_op op_mod (pe_op (kMulC K) (pv 0) pe_int) (pe_op op_pow pe_int pe_int)))), ?_⟩)
  exact (s_ret (d_op ro_mod (d_op ro_mulC (d_var 0) (d_int 915965594177219015054603514932384110774149374281672134266497)) (d_op ro_pow (d_int 10) (d_int 60))))
theorem b__law_pack (T : TX K mg) : Binds K T.f__law_pack.fd ["_law_script", "_law_k"] [] := T.f__law_pack.F.bindsN fun _ _ _ _ _ _ us hl => match us, hl with | [_, _], _ => rfl
set_option maxHeartbeats 4000000 in
theorem ok__law_pack (T : TX K mg) : FnOk P w K mg base (L2.CX P w) 2 T.f__law_pack.f T.f__law_pack.fd ["_law_script", "_law_k"] (spF ⟨K, C⟩ 2 m__law_pack) := by
  refine fn_ok T.f__law_pack.F sc__law_pack (fun cdv A outer s H E hr tk po => ⟨_, (pss_cons (ps_if (pt_cmpR opLt (pv 1) (pe_callB (kLen K) (by rfl) T.m_len PySem.boot_len (pa_cons (pv 0) pa_nil)) (nomark _)) (pss_one (ps_ret (pe_lst (pa_cons (pe_callS (ok__law_mixed (C := C) T) (hr.mono (by decide)) (by rfl) T.f__law_mixed.g T.f__law_mixed.F.kp (b__law_mixed T) (fun σ => passAt tk σ) (pa_cons (pe_op (kAdd K) (pe_ix (kIx K) (pv 0) (pv 1) (fun _ _ => rfl)) (pe_op (kMulC K) pe_int (pv 1))) pa_nil)) pa_nil)))) pss_nil)
      (pss_one (ps_ret (pe_lst (pa_cons (pe_callS (ok__law_mixed (C := C) T) (hr.mono (by decide)) (by rfl) T.f__law_mixed.g T.f__law_mixed.F.kp (b__law_mixed T) (fun σ => passAt tk σ) (pa_cons (pe_op (kAdd K) (pe_op (kMulC K) pe_int (pv 1)) pe_int) pa_nil)) pa_nil))))), ?_⟩)
  exact (s_seq (s_if (dt_test (d_op ro_lt (d_var 1) (d_cb rc_len (d_cons (d_var 0) d_nil)))) (s_retL (l_lst (d_cons (d_call (d_cons (d_op ro_add (d_op ro_ix (d_var 0) (d_var 1)) (d_op ro_mulC (d_int 41) (d_var 1))) d_nil)) d_nil))) s_nx)
      (s_retL (l_lst (d_cons (d_call (d_cons (d_op ro_add (d_op ro_mulC (d_int 6131) (d_var 1)) (d_int 17)) d_nil)) d_nil))))
theorem b__law_take (T : TX K mg) : Binds K T.f__law_take.fd ["_law_pack_here", "_law_size"] [] := T.f__law_take.F.bindsN fun _ _ _ _ _ _ us hl => match us, hl with | [_, _], _ => rfl
set_option maxHeartbeats 4000000 in
theorem ok__law_take (T : TX K mg) : FnOk P w K mg base (L2.CX P w) 1 T.f__law_take.f T.f__law_take.fd ["_law_pack_here", "_law_size"] (spF ⟨K, C⟩ 2 m__law_take) := by
  refine fn_ok T.f__law_take.F sc__law_take (fun cdv A outer s H E hr tk po => ⟨_, (pss_cons (ps_asg (pe_callB call_divmod (by rfl) T.m_divmod boot_divmod (pa_cons (pe_ix (kIx K) (pv 0) pe_int (fun _ _ => rfl)) (pa_cons (pv 1) pa_nil))) (kgTup K rfl (pgs_cons (pg_sub (pv 0) pe_int set_list) (pgs_cons (pg_name (i := 2) sc__law_take.nd rfl (Or.inl rfl)) pgs_nil))))
      (pss_one (ps_ret (pv 2)))), ?_⟩)
  exact (s_seq (s_take (d_var 1))
      (s_ret (d_var 2)))
theorem b__law_names (T : TX K mg) : Binds K T.f__law_names.fd ["_law_pack_here", "_law_amount"] [] := T.f__law_names.F.bindsN fun _ _ _ _ _ _ us hl => match us, hl with | [_, _], _ => rfl
set_option maxHeartbeats 4000000 in
theorem ok__law_names (T : TX K mg) : FnOk P w K mg base (L2.CX P w) 2 T.f__law_names.f T.f__law_names.fd ["_law_pack_here", "_law_amount"] (spF ⟨K, C⟩ 2 m__law_names) := by
  refine fn_ok T.f__law_names.F sc__law_names (fun cdv A outer s H E hr tk po => ⟨_, (pss_cons (ps_set (i := 2) sc__law_names.nd rfl (Or.inr rfl) pe_str)
      (pss_cons (ps_set (i := 3) sc__law_names.nd rfl (Or.inl rfl) (pe_callS (ok__law_take (C := C) T) (hr.mono (by decide)) (by rfl) T.f__law_take.g T.f__law_take.F.kp (b__law_take T) (fun σ => passAt tk σ) (pa_cons (pv 0) (pa_cons pe_int pa_nil))))
      (pss_cons (ps_set (i := 2) sc__law_names.nd rfl (Or.inr rfl) (pe_op (kAdd K) (pe_slice (kSl K) (pv 2) (po_some (pv 3)) po_none) (pe_slice (kSl K) (pv 2) po_none (po_some (pv 3)))))
      (pss_cons (ps_set (i := 4) sc__law_names.nd rfl (Or.inl rfl) (pe_callS (ok__law_take (C := C) T) (hr.mono (by decide)) (by rfl) T.f__law_take.g T.f__law_take.F.kp (b__law_take T) (fun σ => passAt tk σ) (pa_cons (pv 0) (pa_cons pe_int pa_nil))))
      (pss_cons (ps_set (i := 5) sc__law_names.nd rfl (Or.inr rfl) (pe_callS (ok__law_take (C := C) T) (hr.mono (by decide)) (by rfl) T.f__law_take.g T.f__law_take.F.kp (b__law_take T) (fun σ => passAt tk σ) (pa_cons (pv 0) (pa_cons pe_int pa_nil))))
      (pss_cons (ps_if (pt_cmpR (kEq K (hu := hr.units)) (pv 4) pe_int (nomark _)) (pss_one (ps_ret (pe_lc (own := [("_law_k", 6)]) rfl sc__law_names.nd (pi_range1 (by rfl) T.m_range (pa_cons (pv 1) pa_nil)) (blkOk_by (own := [("_law_k", 6)]) (N := N__law_names) (sc := defScope st__law_names) (by decide +kernel)) (fun _ _ _ _ _ => (pg_name (i := 6) sc__law_names.nd rfl (by first | exact Or.inl rfl | exact Or.inr rfl))) (fun _ _ _ _ _ => pts_nil) (fun _ _ _ _ _ => (pe_op (kMulC K) (pe_ix (kIx K) (pv 2) pe_int (fun _ _ => rfl)) (pe_op (kAdd K) pe_int (pe_op op_mod (pe_op (kAdd K) (pv 5) (pv 6)) pe_int))))))) pss_nil)
      (pss_cons (ps_if (pt_cmpR (kEq K (hu := hr.units)) (pv 4) pe_int (nomark _)) (pss_one (ps_ret (pe_lc (own := [("_law_k", 6)]) rfl sc__law_names.nd (pi_range1 (by rfl) T.m_range (pa_cons (pv 1) pa_nil)) (blkOk_by (own := [("_law_k", 6)]) (N := N__law_names) (sc := defScope st__law_names) (by decide +kernel)) (fun _ _ _ _ _ => (pg_name (i := 6) sc__law_names.nd rfl (by first | exact Or.inl rfl | exact Or.inr rfl))) (fun _ _ _ _ _ => pts_nil) (fun _ _ _ _ _ => (pe_op (kAdd K) (pe_ix (kIx K) (pv 2) (pv 6) (fun _ _ => rfl)) (pe_slice (kSl K) (pv 2) (po_some pe_int) (po_some (pe_op (kAdd K) pe_int (pe_op op_mod (pe_op (kAdd K) (pv 5) (pe_op (kMulC K) pe_int (pv 6))) pe_int))))))))) pss_nil)
      (pss_one (ps_ret (pe_lc (own := [("_law_k", 6)]) rfl sc__law_names.nd (pi_range1 (by rfl) T.m_range (pa_cons (pv 1) pa_nil)) (blkOk_by (own := [("_law_k", 6)]) (N := N__law_names) (sc := defScope st__law_names) (by decide +kernel)) (fun _ _ _ _ _ => (pg_name (i := 6) sc__law_names.nd rfl (by first | exact Or.inl rfl | exact Or.inr rfl))) (fun _ _ _ _ _ => pts_nil) (fun _ _ _ _ _ => (pe_op (kAdd K) (pe_slice (kSl K) (pv 2) (po_some pe_int) (po_some (pe_op (kAdd K) pe_int (pv 5)))) (pe_ix (kIx K) (pv 2) (pv 6) (fun _ _ => rfl)))))))))))))), ?_⟩)
  exact (s_seq (s_asg (d_str _) (g_name 2))
      (s_seq (s_asg (d_callP (d_cons (d_int 26) d_nil)) (g_name 3))
      (s_seq (s_asg (d_op ro_add (d_sl rs_sl (d_var 2) (do_some (d_var 3)) do_none) (d_sl rs_sl (d_var 2) do_none (do_some (d_var 3)))) (g_name 2))
      (s_seq (s_asg (d_callP (d_cons (d_int 3) d_nil)) (g_name 4))
      (s_seq (s_asg (d_callP (d_cons (d_int 8) d_nil)) (g_name 5))
      (s_seq (s_if (dt_test (d_op ro_eq (d_var 4) (d_int 0))) (s_retL (l_lc (i_rng1 (d_cons (d_var 1) d_nil)) (g_name 6) (by decide) dt_yes (d_op ro_mulC (d_op ro_ix (d_var 2) (d_int 0)) (d_op ro_add (d_int 1) (d_op ro_mod (d_op ro_add (d_var 5) (d_var 6)) (d_int 8)))))) s_nx)
      (s_seq (s_if (dt_test (d_op ro_eq (d_var 4) (d_int 1))) (s_retL (l_lc (i_rng1 (d_cons (d_var 1) d_nil)) (g_name 6) (by decide) dt_yes (d_op ro_add (d_op ro_ix (d_var 2) (d_var 6)) (d_sl rs_sl (d_var 2) (do_some (d_int 5)) (do_some (d_op ro_add (d_int 5) (d_op ro_mod (d_op ro_add (d_var 5) (d_op ro_mulC (d_int 3) (d_var 6))) (d_int 8)))))))) s_nx)
      (s_retL (l_lc (i_rng1 (d_cons (d_var 1) d_nil)) (g_name 6) (by decide) dt_yes (d_op ro_add (d_sl rs_sl (d_var 2) (do_some (d_int 5)) (do_some (d_op ro_add (d_int 5) (d_var 5)))) (d_op ro_ix (d_var 2) (d_var 6))))))))))))
theorem b__law_set (T : TX K mg) : Binds K T.f__law_set.fd ["_law_pack_here", "_law_signs"] [] := T.f__law_set.F.bindsN fun _ _ _ _ _ _ us hl => match us, hl with | [_, _], _ => rfl
set_option maxHeartbeats 4000000 in
theorem ok__law_set (T : TX K mg) : FnOk P w K mg base (L2.CX P w) 2 T.f__law_set.f T.f__law_set.fd ["_law_pack_here", "_law_signs"] (spF ⟨K, C⟩ 2 m__law_set) := by
  refine fn_ok T.f__law_set.F sc__law_set (fun cdv A outer s H E hr tk po => ⟨_, (pss_cons (ps_set (i := 2) sc__law_set.nd rfl (Or.inr rfl) (pe_op (kAdd K) pe_int (pe_callS (ok__law_take (C := C) T) (hr.mono (by decide)) (by rfl) T.f__law_take.g T.f__law_take.F.kp (b__law_take T) (fun σ => passAt tk σ) (pa_cons (pv 0) (pa_cons (pe_op op_sub (pe_op op_shl pe_int (pe_callB (kLen K) (by rfl) T.m_len PySem.boot_len (pa_cons (pv 1) pa_nil))) pe_int) pa_nil)))))
      (pss_one (ps_ret (pe_m1 PySem.F.slot_str_join PySem.F.type_str_join (kJoin K) pe_str (pe_lc (own := [("_law_k", 3)]) rfl sc__law_set.nd (pi_range1 (by rfl) T.m_range (pa_cons (pe_callB (kLen K) (by rfl) T.m_len PySem.boot_len (pa_cons (pv 1) pa_nil)) pa_nil)) (blkOk_by (own := [("_law_k", 3)]) (N := N__law_set) (sc := defScope st__law_set) (by decide +kernel)) (fun _ _ _ _ _ => (pg_name (i := 3) sc__law_set.nd rfl (by first | exact Or.inl rfl | exact Or.inr rfl))) (fun _ _ _ _ _ => (pts_one (pt_cmpR (kEq K (hu := hr.units)) (pe_op op_mod (pe_op op_fdivW (pv 2) (pe_op op_shl pe_int (pv 3))) pe_int) pe_int (nomark _)))) (fun _ _ _ _ _ => (pe_ix (kIx K) (pv 1) (pv 3) (fun _ _ => rfl)))))))), ?_⟩)
  exact (s_seq (s_asg (d_op ro_add (d_int 1) (d_callP (d_cons (d_op ro_sub (d_op ro_shl (d_int 1) (d_cb rc_len (d_cons (d_var 1) d_nil))) (d_int 1)) d_nil))) (g_name 2))
      (s_ret (d_m1 rm_join (d_str _) (d_ofL (l_lc (i_rng1 (d_cons (d_cb rc_len (d_cons (d_var 1) d_nil)) d_nil)) (g_name 3) (by decide) (dt_test (d_op ro_eq (d_op ro_mod (d_op ro_fdiv (d_var 2) (d_op ro_shl (d_int 1) (d_var 3))) (d_int 2)) (d_int 1))) (d_op ro_ix (d_var 1) (d_var 3)))))))
theorem b__law_pattern (T : TX K mg) : Binds K T.f__law_pattern.fd ["_law_pack_here", "_law_signs"] [] := T.f__law_pattern.F.bindsN fun _ _ _ _ _ _ us hl => match us, hl with | [_, _], _ => rfl
set_option maxHeartbeats 4000000 in
theorem ok__law_pattern (T : TX K mg) : FnOk P w K mg base (L2.CX P w) 3 T.f__law_pattern.f T.f__law_pattern.fd ["_law_pack_here", "_law_signs"] (spF ⟨K, C⟩ 2 m__law_pattern) := by
  refine fn_ok T.f__law_pattern.F sc__law_pattern (fun cdv A outer s H E hr tk po => ⟨_, (pss_cons (ps_set (i := 2) sc__law_pattern.nd rfl (Or.inl rfl) (pe_ix (kIx K) (pe_lst (pa_cons pe_str (pa_cons pe_str (pa_cons pe_str (pa_cons pe_str (pa_cons pe_str (pa_cons pe_str pa_nil))))))) (pe_callS (ok__law_take (C := C) T) (hr.mono (by decide)) (by rfl) T.f__law_take.g T.f__law_take.F.kp (b__law_take T) (fun σ => passAt tk σ) (pa_cons (pv 0) (pa_cons pe_int pa_nil))) (fun _ _ => rfl)))
      (pss_cons (ps_if (pt_cmpR (kEq K (hu := hr.units)) (pv 2) pe_str (nomark _)) (pss_one (ps_ret (pe_tup (pa_cons (pv 2) (pa_cons (pe_callS (ok__law_set (C := C) T) (hr.mono (by decide)) (by rfl) T.f__law_set.g T.f__law_set.F.kp (b__law_set T) (fun σ => passAt tk σ) (pa_cons (pv 0) (pa_cons (pe_op (kAdd K) pe_str (pv 1)) pa_nil))) (pa_cons (pe_callS (ok__law_set (C := C) T) (hr.mono (by decide)) (by rfl) T.f__law_set.g T.f__law_set.F.kp (b__law_set T) (fun σ => passAt tk σ) (pa_cons (pv 0) (pa_cons (pe_op (kAdd K) pe_str (pv 1)) pa_nil))) pa_nil)))))) pss_nil)
      (pss_cons (ps_if (pt_cmpR (kEq K (hu := hr.units)) (pv 2) pe_str (nomark _)) (pss_one (ps_ret (pe_tup (pa_cons (pv 2) (pa_cons (pe_callS (ok__law_set (C := C) T) (hr.mono (by decide)) (by rfl) T.f__law_set.g T.f__law_set.F.kp (b__law_set T) (fun σ => passAt tk σ) (pa_cons (pv 0) (pa_cons (pv 1) pa_nil))) (pa_cons (pe_callS (ok__law_set (C := C) T) (hr.mono (by decide)) (by rfl) T.f__law_set.g T.f__law_set.F.kp (b__law_set T) (fun σ => passAt tk σ) (pa_cons (pv 0) (pa_cons (pv 1) pa_nil))) pa_nil)))))) pss_nil)
      (pss_one (ps_ret (pe_tup (pa_cons (pv 2) (pa_cons (pe_callS (ok__law_set (C := C) T) (hr.mono (by decide)) (by rfl) T.f__law_set.g T.f__law_set.F.kp (b__law_set T) (fun σ => passAt tk σ) (pa_cons (pv 0) (pa_cons (pv 1) pa_nil))) pa_nil)))))))), ?_⟩)
  exact (s_seq (s_asg (d_op ro_ix (d_ofL (l_lst (d_cons (d_str _) (d_cons (d_str _) (d_cons (d_str _) (d_cons (d_str _) (d_cons (d_str _) (d_cons (d_str _) d_nil)))))))) (d_callP (d_cons (d_int 6) d_nil))) (g_name 2))
      (s_seq (s_if (dt_test (d_op ro_eq (d_var 2) (d_str _))) (s_ret (d_tup (d_cons (d_var 2) (d_cons (d_callP (d_cons (d_op ro_add (d_str _) (d_var 1)) d_nil)) (d_cons (d_callP (d_cons (d_op ro_add (d_str _) (d_var 1)) d_nil)) d_nil))))) s_nx)
      (s_seq (s_if (dt_test (d_op ro_eq (d_var 2) (d_str _))) (s_ret (d_tup (d_cons (d_var 2) (d_cons (d_callP (d_cons (d_var 1) d_nil)) (d_cons (d_callP (d_cons (d_var 1) d_nil)) d_nil))))) s_nx)
      (s_ret (d_tup (d_cons (d_var 2) (d_cons (d_callP (d_cons (d_var 1) d_nil)) d_nil)))))))
theorem b__law_code (T : TX K mg) : Binds K T.f__law_code.fd ["_law_pack_here", "_law_most"] [] := T.f__law_code.F.bindsN fun _ _ _ _ _ _ us hl => match us, hl with | [_, _], _ => rfl
set_option maxHeartbeats 4000000 in
theorem ok__law_code (T : TX K mg) : FnOk P w K mg base (L2.CX P w) 4 T.f__law_code.f T.f__law_code.fd ["_law_pack_here", "_law_most"] (spF ⟨K, C⟩ 2 m__law_code) := by
  refine fn_ok T.f__law_code.F sc__law_code (fun cdv A outer s H E hr tk po => ⟨_, (pss_cons (ps_set (i := 2) sc__law_code.nd rfl (Or.inl rfl) (pe_ix (kIx K) (pe_lst (pa_cons pe_str (pa_cons pe_str (pa_cons pe_str (pa_cons pe_str (pa_cons pe_str (pa_cons pe_str pa_nil))))))) (pe_callS (ok__law_take (C := C) T) (hr.mono (by decide)) (by rfl) T.f__law_take.g T.f__law_take.F.kp (b__law_take T) (fun σ => passAt tk σ) (pa_cons (pv 0) (pa_cons pe_int pa_nil))) (fun _ _ => rfl)))
      (pss_cons (ps_set (i := 3) sc__law_code.nd rfl (Or.inl rfl) (pe_callS (ok__law_names (C := C) T) (hr.mono (by decide)) (by rfl) T.f__law_names.g T.f__law_names.F.kp (b__law_names T) (fun σ => passAt tk σ) (pa_cons (pv 0) (pa_cons (pe_op (kAdd K) pe_int (pe_callS (ok__law_take (C := C) T) (hr.mono (by decide)) (by rfl) T.f__law_take.g T.f__law_take.F.kp (b__law_take T) (fun σ => passAt tk σ) (pa_cons (pv 0) (pa_cons (pv 1) pa_nil)))) pa_nil))))
      (pss_cons (ps_set (i := 4) sc__law_code.nd rfl (Or.inl rfl) (pe_callS (ok__law_take (C := C) T) (hr.mono (by decide)) (by rfl) T.f__law_take.g T.f__law_take.F.kp (b__law_take T) (fun σ => passAt tk σ) (pa_cons (pv 0) (pa_cons pe_int pa_nil))))
      (pss_cons (ps_set (i := 5) sc__law_code.nd rfl (Or.inl rfl) (pe_lst pa_nil))
      (pss_cons (ps_for po rfl (kPiList K (pv 3)) (pg_name (i := 6) sc__law_code.nd rfl (Or.inl rfl)) (pss_cons (ps_set (i := 7) sc__law_code.nd rfl (Or.inl rfl) (pe_lst pa_nil))
      (pss_cons (ps_for po rfl (pi_range1 (by rfl) T.m_range (pa_cons (pe_op (kAdd K) pe_int (pe_op op_fdivW (pe_callS (ok__law_take (C := C) T) (hr.mono (by decide)) (by rfl) T.f__law_take.g T.f__law_take.F.kp (b__law_take T) (fun σ => passAt tk σ) (pa_cons (pv 0) (pa_cons pe_int pa_nil))) pe_int)) pa_nil)) (pg_name (i := 8) sc__law_code.nd rfl (Or.inl rfl)) (pss_one (ps_expr (pe_bm PySem.F.plainAttrs_list PySem.F.slot_list_append PySem.F.type_list_append mt_append (pv 7) (pa_cons (pe_tup (pa_cons (pe_callS (ok__law_pattern (C := C) T) (hr.mono (by decide)) (by rfl) T.f__law_pattern.g T.f__law_pattern.F.kp (b__law_pattern T) (fun σ => passAt tk σ) (pa_cons (pv 0) (pa_cons (pv 2) pa_nil))) (pa_cons (pe_op (kAdd K) pe_int (pe_op op_fdivW (pe_callS (ok__law_take (C := C) T) (hr.mono (by decide)) (by rfl) T.f__law_take.g T.f__law_take.F.kp (b__law_take T) (fun σ => passAt tk σ) (pa_cons (pv 0) (pa_cons pe_int pa_nil))) pe_int)) pa_nil))) pa_nil)))))
      (pss_one (ps_expr (pe_bm PySem.F.plainAttrs_list PySem.F.slot_list_append PySem.F.type_list_append mt_append (pv 5) (pa_cons (pe_tup (pa_cons (pv 6) (pa_cons (pe_callTy (kTupleB K (hc := rfl)) (by rfl) T.m_tuple boot_tuple (pa_cons (pv 7) pa_nil)) pa_nil))) pa_nil)))))))
      (pss_cons (ps_if ((pw_and (pt_cmpR op_gt (pv 4) pe_int (nomark _)) (pw_and1 (pt_cmpR op_gt (pe_callB (kLen K) (by rfl) T.m_len PySem.boot_len (pa_cons (pv 5) pa_nil)) pe_int (nomark _))))).pt (pss_cons (ps_set (i := 9) sc__law_code.nd rfl (Or.inl rfl) (pe_tup (pa_cons (pe_tup (pa_cons (pe_tup (pa_cons pe_str (pa_cons (pv 2) pa_nil))) (pa_cons pe_int pa_nil))) (pa_cons (pe_tup (pa_cons (pe_tup (pa_cons pe_str (pa_cons (pv 2) pa_nil))) (pa_cons pe_int pa_nil))) (pa_cons (pe_tup (pa_cons (pe_tup (pa_cons pe_str (pa_cons (pv 2) (pa_cons (pv 2) pa_nil)))) (pa_cons pe_int pa_nil))) pa_nil)))))
      (pss_one (ps_asg (pe_tup (pa_cons (pe_ix (kIx K) (pe_ix (kIx K) (pv 5) (pe_un un_neg pe_int) (fun _ _ => rfl)) pe_int (fun _ _ => rfl)) (pa_cons (pe_slice (kSl K) (pv 9) po_none (po_some (pe_op (kAdd K) (pv 4) pe_int))) pa_nil))) (pg_sub (pv 5) (pe_un un_neg pe_int) set_list)))) pss_nil)
      (pss_one (ps_ret (pe_tup (pa_cons (pv 2) (pa_cons (pe_callTy (kTupleB K (hc := rfl)) (by rfl) T.m_tuple boot_tuple (pa_cons (pv 5) pa_nil)) pa_nil))))))))))), ?_⟩)
  exact (s_seq (s_asg (d_op ro_ix (d_ofL (l_lst (d_cons (d_str _) (d_cons (d_str _) (d_cons (d_str _) (d_cons (d_str _) (d_cons (d_str _) (d_cons (d_str _) d_nil)))))))) (d_callP (d_cons (d_int 6) d_nil))) (g_name 2))
      (s_seq (s_asg (d_ofL (l_callP (d_cons (d_op ro_add (d_int 1) (d_callP (d_cons (d_var 1) d_nil))) d_nil))) (g_name 3))
      (s_seq (s_asg (d_callP (d_cons (d_int 3) d_nil)) (g_name 4))
      (s_seq (s_setO (l_lst d_nil))
      (s_seq (s_for (i_list (d_var 3)) (g_name 6) (s_seq (s_setO (l_lst d_nil))
      (s_seq (s_for (i_rng1 (d_cons (d_op ro_add (d_int 1) (d_op ro_fdiv (d_callP (d_cons (d_int 6) d_nil)) (d_int 3))) d_nil)) (g_name 8) (s_app (d_tup (d_cons (d_callP (d_cons (d_var 2) d_nil)) (d_cons (d_op ro_add (d_int 1) (d_op ro_fdiv (d_callP (d_cons (d_int 6) d_nil)) (d_int 4))) d_nil)))))
      (s_app (d_tup (d_cons (d_var 6) (d_cons (d_cb rc_tupleA (d_cons (d_own 7) d_nil)) d_nil)))))))
      (s_seq (s_if (dt_and (dt_test (d_op ro_gt (d_var 4) (d_int 0))) (dt_test (d_op ro_gt (d_cb rc_len (d_cons (d_own 5) d_nil)) (d_int 1)))) (s_seq (s_asg (d_tup (d_cons (d_tup (d_cons (d_tup (d_cons (d_str _) (d_cons (d_var 2) d_nil))) (d_cons (d_int 1) d_nil))) (d_cons (d_tup (d_cons (d_tup (d_cons (d_str _) (d_cons (d_var 2) d_nil))) (d_cons (d_int 1) d_nil))) (d_cons (d_tup (d_cons (d_tup (d_cons (d_str _) (d_cons (d_var 2) (d_cons (d_var 2) d_nil)))) (d_cons (d_int 1) d_nil))) d_nil)))) (g_name 9))
      (s_setI (d_tup (d_cons (d_op ro_ix (d_op ro_ix (d_own 5) (d_un ru_neg (d_int 1))) (d_int 0)) (d_cons (d_sl rs_sl (d_var 9) do_none (do_some (d_op ro_add (d_var 4) (d_int 1)))) d_nil))) (d_un ru_neg (d_int 1)))) s_nx)
      (s_ret (d_tup (d_cons (d_var 2) (d_cons (d_cb rc_tupleA (d_cons (d_own 5) d_nil)) d_nil))))))))))
theorem b__law_word (T : TX K mg) : Binds K T.f__law_word.fd ["_law_pack_here", "_law_signs", "_law_most"] [] := T.f__law_word.F.bindsN fun _ _ _ _ _ _ us hl => match us, hl with | [_, _, _], _ => rfl
set_option maxHeartbeats 4000000 in
theorem ok__law_word (T : TX K mg) : FnOk P w K mg base (L2.CX P w) 2 T.f__law_word.f T.f__law_word.fd ["_law_pack_here", "_law_signs", "_law_most"] (spF ⟨K, C⟩ 3 m__law_word) := by
  refine fn_ok T.f__law_word.F sc__law_word (fun cdv A outer s H E hr tk po => ⟨_, (pss_one (ps_ret (pe_m1 PySem.F.slot_str_join PySem.F.type_str_join (kJoin K) pe_str (pe_lc (own := [("_law_k", 3)]) rfl sc__law_word.nd (pi_range1 (by rfl) T.m_range (pa_cons (pe_callS (ok__law_take (C := C) T) (hr.mono (by decide)) (by rfl) T.f__law_take.g T.f__law_take.F.kp (b__law_take T) (fun σ => passAt tk σ) (pa_cons (pv 0) (pa_cons (pe_op (kAdd K) (pv 2) pe_int) pa_nil))) pa_nil)) (blkOk_by (own := [("_law_k", 3)]) (N := N__law_word) (sc := defScope st__law_word) (by decide +kernel)) (fun _ _ _ _ _ => (pg_name (i := 3) sc__law_word.nd rfl (by first | exact Or.inl rfl | exact Or.inr rfl))) (fun _ _ _ _ _ => pts_nil) (fun _ _ _ _ _ => (pe_ix (kIx K) (pv 1) (pe_callS (ok__law_take (C := C) T) (hr.mono (by decide)) (by rfl) T.f__law_take.g T.f__law_take.F.kp (b__law_take T) (fun σ => passAt takes0 σ) (pa_cons (pv 0) (pa_cons (pe_callB (kLen K) (by rfl) T.m_len PySem.boot_len (pa_cons (pv 1) pa_nil)) pa_nil))) (fun _ _ => rfl))))))), ?_⟩)
  exact (s_ret (d_m1 rm_join (d_str _) (d_ofL (l_lc (i_rng1 (d_cons (d_callP (d_cons (d_op ro_add (d_var 2) (d_int 1)) d_nil)) d_nil)) (g_name 3) (by decide) dt_yes (d_op ro_ix (d_var 1) (d_callP (d_cons (d_cb rc_len (d_cons (d_var 1) d_nil)) d_nil)))))))
theorem b__law_telling (T : TX K mg) : Binds K T.f__law_telling.fd ["_law_pack_here", "_law_signs", "_law_word_here"] [] := T.f__law_telling.F.bindsN fun _ _ _ _ _ _ us hl => match us, hl with | [_, _, _], _ => rfl
set_option maxHeartbeats 4000000 in
theorem ok__law_telling (T : TX K mg) : FnOk P w K mg base (L2.CX P w) 2 T.f__law_telling.f T.f__law_telling.fd ["_law_pack_here", "_law_signs", "_law_word_here"] (spF ⟨K, C⟩ 3 m__law_telling) := by
  refine fn_ok T.f__law_telling.F sc__law_telling (fun cdv A outer s H E hr tk po => ⟨_, (pss_cons (ps_set (i := 3) sc__law_telling.nd rfl (Or.inl rfl) (pe_lst pa_nil))
      (pss_cons (ps_for po rfl (kPiList K (pe_op (kAdd K) (pe_callTy (kListB K (hc := rfl)) (by rfl) T.m_list boot_list (pa_cons (pv 2) pa_nil)) (pe_lst (pa_cons pe_str pa_nil)))) (pg_name (i := 4) sc__law_telling.nd rfl (Or.inl rfl)) (pss_cons (ps_for po rfl (pi_range1 (by rfl) T.m_range (pa_cons (pe_op op_fdivW (pe_callS (ok__law_take (C := C) T) (hr.mono (by decide)) (by rfl) T.f__law_take.g T.f__law_take.F.kp (b__law_take T) (fun σ => passAt tk σ) (pa_cons (pv 0) (pa_cons pe_int pa_nil))) pe_int) pa_nil)) (pg_name (i := 5) sc__law_telling.nd rfl (Or.inl rfl)) (pss_one (ps_expr (pe_bm PySem.F.plainAttrs_list PySem.F.slot_list_append PySem.F.type_list_append mt_append (pv 3) (pa_cons (pe_tup (pa_cons pe_str (pa_cons (pe_ix (kIx K) (pv 1) (pe_callS (ok__law_take (C := C) T) (hr.mono (by decide)) (by rfl) T.f__law_take.g T.f__law_take.F.kp (b__law_take T) (fun σ => passAt tk σ) (pa_cons (pv 0) (pa_cons (pe_callB (kLen K) (by rfl) T.m_len PySem.boot_len (pa_cons (pv 1) pa_nil)) pa_nil))) (fun _ _ => rfl)) pa_nil))) pa_nil)))))
      (pss_one (ps_if (pt_cmpR (kNe K (hu := hr.units)) (pv 4) pe_str (nomark _)) (pss_one (ps_expr (pe_bm PySem.F.plainAttrs_list PySem.F.slot_list_append PySem.F.type_list_append mt_append (pv 3) (pa_cons (pe_tup (pa_cons (pv 4) (pa_cons (pe_ix (kIx K) (pe_op (kAdd K) (pe_op (kAdd K) (pe_lst (pa_cons (pv 4) pa_nil)) (pe_callTy (kListB K (hc := rfl)) (by rfl) T.m_list boot_list (pa_cons (pv 1) pa_nil))) (pe_lst (pa_cons pe_str pa_nil))) (pe_callS (ok__law_take (C := C) T) (hr.mono (by decide)) (by rfl) T.f__law_take.g T.f__law_take.F.kp (b__law_take T) (fun σ => passAt tk σ) (pa_cons (pv 0) (pa_cons (pe_op (kAdd K) (pe_callB (kLen K) (by rfl) T.m_len PySem.boot_len (pa_cons (pv 1) pa_nil)) pe_int) pa_nil))) (fun _ _ => rfl)) pa_nil))) pa_nil)))) pss_nil))))
      (pss_one (ps_ret (pe_callTy (kTupleB K (hc := rfl)) (by rfl) T.m_tuple boot_tuple (pa_cons (pv 3) pa_nil)))))), ?_⟩)
  exact (s_seq (s_setO (l_lst d_nil))
      (s_seq (s_for (i_list (d_op ro_add (d_ofL (l_cb rcl_listA (d_cons (d_var 2) d_nil))) (d_ofL (l_lst (d_cons (d_str _) d_nil))))) (g_name 4) (s_seq (s_for (i_rng1 (d_cons (d_op ro_fdiv (d_callP (d_cons (d_int 4) d_nil)) (d_int 2)) d_nil)) (g_name 5) (s_app (d_tup (d_cons (d_str _) (d_cons (d_op ro_ix (d_var 1) (d_callP (d_cons (d_cb rc_len (d_cons (d_var 1) d_nil)) d_nil))) d_nil)))))
      (s_if (dt_test (d_op ro_ne (d_var 4) (d_str _))) (s_app (d_tup (d_cons (d_var 4) (d_cons (d_op ro_ix (d_op ro_add (d_op ro_add (d_ofL (l_lst (d_cons (d_var 4) d_nil))) (d_ofL (l_cb rcl_listA (d_cons (d_var 1) d_nil)))) (d_ofL (l_lst (d_cons (d_str _) d_nil)))) (d_callP (d_cons (d_op ro_add (d_cb rc_len (d_cons (d_var 1) d_nil)) (d_int 2)) d_nil))) d_nil)))) s_nx)))
      (s_ret (d_cb rc_tupleA (d_cons (d_own 3) d_nil)))))
theorem b__law_only (T : TX K mg) : Binds K T.f__law_only.fd ["_law_e", "_law_at"] [] := T.f__law_only.F.bindsN fun _ _ _ _ _ _ us hl => match us, hl with | [_, _], _ => rfl
set_option maxHeartbeats 4000000 in
theorem ok__law_only (T : TX K mg) : FnOk P w K mg base (L2.CX P w) 1 T.f__law_only.f T.f__law_only.fd ["_law_e", "_law_at"] (spF ⟨K, C⟩ 2 m__law_only) := by
  refine fn_ok T.f__law_only.F sc__law_only (fun cdv A outer s H E hr tk po => ⟨_, (pss_cons (ps_set (i := 2) sc__law_only.nd rfl (Or.inl rfl) (pe_lst (pa_cons (pe_callB (kIsT K) (by rfl) T.m_isinstance boot_isinstance (pa_cons (pv 0) (pa_cons (pe_glob (v := .ref (cA K "NoText")) (by rfl) T.y_NoText rfl) pa_nil))) (pa_cons (pe_callB (kIsT K) (by rfl) T.m_isinstance boot_isinstance (pa_cons (pv 0) (pa_cons (pe_glob (v := .ref (cA K "NoOrder")) (by rfl) T.y_NoOrder rfl) pa_nil))) (pa_cons (pe_callB (kIsT K) (by rfl) T.m_isinstance boot_isinstance (pa_cons (pv 0) (pa_cons (pe_glob (v := .ref (cA K "NoWord")) (by rfl) T.y_NoWord rfl) pa_nil))) (pa_cons (pe_callB (kIsT K) (by rfl) T.m_isinstance boot_isinstance (pa_cons (pv 0) (pa_cons (pe_glob (v := .ref (cA K "NoNumber")) (by rfl) T.y_NoNumber rfl) pa_nil))) pa_nil))))))
      (pss_cons (ps_set (i := 2) sc__law_only.nd rfl (Or.inl rfl) (pe_op (kAdd K) (pv 2) (pe_lst (pa_cons (pe_callB (kIsT K) (by rfl) T.m_isinstance boot_isinstance (pa_cons (pv 0) (pa_cons (pe_glob (v := .ref (cA K "NoForm")) (by rfl) T.y_NoForm rfl) pa_nil))) (pa_cons (pe_callB (kIsT K) (by rfl) T.m_isinstance boot_isinstance (pa_cons (pv 0) (pa_cons (pe_glob (v := .ref (cA K "NoTelling")) (by rfl) T.y_NoTelling rfl) pa_nil))) (pa_cons (pe_callB (kIsT K) (by rfl) T.m_isinstance boot_isinstance (pa_cons (pv 0) (pa_cons (pe_glob (v := .ref (cA K "NoBook")) (by rfl) T.y_NoBook rfl) pa_nil))) (pa_cons (pe_callB (kIsT K) (by rfl) T.m_isinstance boot_isinstance (pa_cons (pv 0) (pa_cons (pe_glob (v := .ref (cA K "TooMany")) (by rfl) T.y_TooMany rfl) pa_nil))) pa_nil)))))))
      (pss_cons (ps_set (i := 2) sc__law_only.nd rfl (Or.inl rfl) (pe_op (kAdd K) (pv 2) (pe_lst (pa_cons (pe_callB (kIsT K) (by rfl) T.m_isinstance boot_isinstance (pa_cons (pv 0) (pa_cons (pe_glob (v := .ref (cA K "NoWeights")) (by rfl) T.y_NoWeights rfl) pa_nil))) (pa_cons (pe_callB (kIsT K) (by rfl) T.m_isinstance boot_isinstance (pa_cons (pv 0) (pa_cons (pe_glob (v := .ref (cA K "NoCall")) (by rfl) T.y_NoCall rfl) pa_nil))) (pa_cons (pe_callB (kIsT K) (by rfl) T.m_isinstance boot_isinstance (pa_cons (pv 0) (pa_cons (pe_glob (v := .ref (cA K "NoKept")) (by rfl) T.y_NoKept rfl) pa_nil))) pa_nil))))))
      (pss_cons (ps_if ((pw_or (pt_not (pt_val (pe_callB (kIsT K) (by rfl) T.m_isinstance boot_isinstance (pa_cons (pv 0) (pa_cons (pe_glob (v := .ref (cA K "LadderError")) (by rfl) T.y_LadderError rfl) pa_nil))))) (pw_or1 (pt_not (pt_val (pe_callB (kIsT K) (by rfl) T.m_isinstance boot_isinstance (pa_cons (pv 0) (pa_cons (pe_bltn (v := .ty "ValueError") (by rfl) T.m_ValueError (by rfl) rfl) pa_nil)))))))).pt (pss_one (ps_ret pe_bl)) pss_nil)
      (pss_one (ps_ret (pe_cmpR (kEq K (hu := hr.units)) (pv 2) (pe_lc (own := [("_law_k", 3)]) rfl sc__law_only.nd (pi_range1 (by rfl) T.m_range (pa_cons pe_int pa_nil)) (blkOk_by (own := [("_law_k", 3)]) (N := N__law_only) (sc := defScope st__law_only) (by decide +kernel)) (fun _ _ _ _ _ => (pg_name (i := 3) sc__law_only.nd rfl (by first | exact Or.inl rfl | exact Or.inr rfl))) (fun _ _ _ _ _ => pts_nil) (fun _ _ _ _ _ => (pe_cmpR (kEq K (hu := hr.units)) (pv 3) (pv 1) (nomark _)))) (nomark _)))))))), ?_⟩)
  exact (s_seq (s_asg (d_ofL (l_lst (d_cons (d_isX (cv := .ref (cA K "NoText")) (cu := .ref (cA K "NoText")) (fun _ h => h) (T.x_is "NoText" (by decide))) (d_cons (d_isX (cv := .ref (cA K "NoOrder")) (cu := .ref (cA K "NoOrder")) (fun _ h => h) (T.x_is "NoOrder" (by decide))) (d_cons (d_isX (cv := .ref (cA K "NoWord")) (cu := .ref (cA K "NoWord")) (fun _ h => h) (T.x_is "NoWord" (by decide))) (d_cons (d_isX (cv := .ref (cA K "NoNumber")) (cu := .ref (cA K "NoNumber")) (fun _ h => h) (T.x_is "NoNumber" (by decide))) d_nil)))))) (g_name 2))
      (s_seq (s_asg (d_op ro_add (d_var 2) (d_ofL (l_lst (d_cons (d_isX (cv := .ref (cA K "NoForm")) (cu := .ref (cA K "NoForm")) (fun _ h => h) (T.x_is "NoForm" (by decide))) (d_cons (d_isX (cv := .ref (cA K "NoTelling")) (cu := .ref (cA K "NoTelling")) (fun _ h => h) (T.x_is "NoTelling" (by decide))) (d_cons (d_isX (cv := .ref (cA K "NoBook")) (cu := .ref (cA K "NoBook")) (fun _ h => h) (T.x_is "NoBook" (by decide))) (d_cons (d_isX (cv := .ref (cA K "TooMany")) (cu := .ref (cA K "TooMany")) (fun _ h => h) (T.x_is "TooMany" (by decide))) d_nil))))))) (g_name 2))
      (s_seq (s_asg (d_op ro_add (d_var 2) (d_ofL (l_lst (d_cons (d_isX (cv := .ref (cA K "NoWeights")) (cu := .ref (cA K "NoWeights")) (fun _ h => h) (T.x_is "NoWeights" (by decide))) (d_cons (d_isX (cv := .ref (cA K "NoCall")) (cu := .ref (cA K "NoCall")) (fun _ h => h) (T.x_is "NoCall" (by decide))) (d_cons (d_isX (cv := .ref (cA K "NoKept")) (cu := .ref (cA K "NoKept")) (fun _ h => h) (T.x_is "NoKept" (by decide))) d_nil)))))) (g_name 2))
      (s_seq (s_if (dt_or (dt_not (dt_tB (d_isX (cv := .ref (cA K "LadderError")) (cu := .ref (cA K "LadderError")) (fun _ h => h) (T.x_is "LadderError" (by decide))))) (dt_not (dt_tB (d_isX (cv := .ty "ValueError") (cu := .type "ValueError") (fun _ h => h) T.x_isValueError)))) (s_ret (d_bl false)) s_nx)
      (s_ret (d_op ro_eq (d_var 2) (d_ofL (l_lc (i_rng1 (d_cons (d_int 11) d_nil)) (g_name 3) (by decide) dt_yes (d_op ro_eq (d_var 3) (d_var 1))))))))))
theorem b__law_text (T : TX K mg) : Binds K T.f__law_text.fd ["_law_telling_here"] [] := T.f__law_text.F.bindsN fun _ _ _ _ _ _ us hl => match us, hl with | [_], _ => rfl
set_option maxHeartbeats 4000000 in
theorem ok__law_text (T : TX K mg) : FnOk P w K mg base (L2.CX P w) 1 T.f__law_text.f T.f__law_text.fd ["_law_telling_here"] (spF ⟨K, C⟩ 1 m__law_text) := by
  refine fn_ok T.f__law_text.F sc__law_text (fun cdv A outer s H E hr tk po => ⟨_, (pss_cons (ps_set (i := 1) sc__law_text.nd rfl (Or.inl rfl) (pe_lst pa_nil))
      (pss_cons (ps_for po rfl (kPiTup K (pv 0)) (kgTup (n := 2) K rfl (pgs_cons (pg_name (i := 2) sc__law_text.nd rfl (Or.inl rfl)) (pgs_cons (pg_name (i := 3) sc__law_text.nd rfl (Or.inl rfl)) pgs_nil))) (pss_one (ps_expr (pe_bm PySem.F.plainAttrs_list PySem.F.slot_list_append PySem.F.type_list_append mt_append (pv 1) (pa_cons (pe_ix (kIx K) (pe_lst (pa_cons (pe_op (kAdd K) (pe_op (kAdd K) (pv 2) pe_str) (pv 3)) (pa_cons (pv 2) pa_nil))) (pe_callTy call_int1 (by rfl) T.m_int boot_int (pa_cons (pe_cmpR (kEq K (hu := hr.units)) (pv 2) (pv 3) (nomark _)) pa_nil)) (fun _ _ => rfl)) pa_nil)))))
      (pss_cons (ps_if (pt_cmpR (kEq K (hu := hr.units)) (pv 1) (pe_lst pa_nil) (nomark _)) (pss_one (ps_ret pe_str)) pss_nil)
      (pss_one (ps_ret (pe_m1 PySem.F.slot_str_join PySem.F.type_str_join (kJoin K) pe_str (pv 1))))))), ?_⟩)
  exact (s_seq (s_setO (l_lst d_nil))
      (s_seq (s_for (i_tup (d_var 0)) (g_tup (gs_cons (g_name 2) (gs_cons (g_name 3) gs_nil))) (s_app (d_op ro_ix (d_ofL (l_lst (d_cons (d_op ro_add (d_op ro_add (d_var 2) (d_str _)) (d_var 3)) (d_cons (d_var 2) d_nil)))) (d_cb rc_intOf (d_cons (d_op ro_eq (d_var 2) (d_var 3)) d_nil)))))
      (s_seq (s_if (dt_test (d_op ro_eq (d_own 1) (d_ofL (l_lst d_nil)))) (s_ret (d_str _)) s_nx)
      (s_ret (d_m1 rm_join (d_str _) (d_own 1))))))
theorem b__law_due (T : TX K mg) : Binds K T.f__law_due.fd ["_law_code_here", "_law_text_here"] [] := T.f__law_due.F.bindsN fun _ _ _ _ _ _ us hl => match us, hl with | [_, _], _ => rfl
set_option maxHeartbeats 4000000 in
theorem ok__law_due (T : TX K mg) : FnOk P w K mg base (L2.CX P w) 1 T.f__law_due.f T.f__law_due.fd ["_law_code_here", "_law_text_here"] (spF ⟨K, C⟩ 2 m__law_due) := by
  refine fn_ok T.f__law_due.F sc__law_due (fun cdv A outer s H E hr tk po => ⟨_, (pss_cons (ps_if (pt_cmpR (kEq K (hu := hr.units)) (pv 1) pe_str (nomark _)) (pss_one (ps_ret (pe_tup pa_nil))) pss_nil)
      (pss_cons (ps_set (i := 2) sc__law_due.nd rfl (Or.inl rfl) (pe_op (kAdd K) (pe_lst (pa_cons pe_str pa_nil)) (pe_callTy (kListB K (hc := rfl)) (by rfl) T.m_list boot_list (pa_cons (pe_ix (kIx K) (pv 0) pe_int (fun _ _ => rfl)) pa_nil))))
      (pss_cons (ps_set (i := 3) sc__law_due.nd rfl (Or.inl rfl) (pe_lst pa_nil))
      (pss_cons (ps_for po rfl (kPiList K (pe_split (pv 1) pe_str)) (pg_name (i := 4) sc__law_due.nd rfl (Or.inl rfl)) (pss_cons (ps_set (i := 5) sc__law_due.nd rfl (Or.inl rfl) (pe_split (pv 4) pe_str))
      (pss_cons (ps_if (pt_cmpR (kEq K (hu := hr.units)) (pe_callB (kLen K) (by rfl) T.m_len PySem.boot_len (pa_cons (pv 5) pa_nil)) pe_int (nomark _)) (pss_one (ps_set (i := 5) sc__law_due.nd rfl (Or.inl rfl) (pe_lst (pa_cons (pv 4) (pa_cons (pv 4) pa_nil))))) (pss_one (ps_if ((pw_or (pt_cmpR op_gt (pe_callB (kLen K) (by rfl) T.m_len PySem.boot_len (pa_cons (pv 5) pa_nil)) pe_int (nomark _)) (pw_or1 (pt_cmpR (kEq K (hu := hr.units)) (pe_ix (kIx K) (pv 5) pe_int (fun _ _ => rfl)) (pe_ix (kIx K) (pv 5) pe_int (fun _ _ => rfl)) (nomark _))))).pt (pss_one (ps_ret pe_non)) pss_nil)))
      (pss_cons (ps_if ((pw_or (pt_cmpR (kNotIn K (hu := u65 hr)) (pe_ix (kIx K) (pv 5) pe_int (fun _ _ => rfl)) (pv 2) (by rfl)) (pw_or1 (pt_cmpR (kNotIn K (hu := u65 hr)) (pe_ix (kIx K) (pv 5) pe_int (fun _ _ => rfl)) (pv 2) (by rfl))))).pt (pss_one (ps_ret pe_non)) pss_nil)
      (pss_cons (ps_if (pt_cmpR (kEq K (hu := hr.units)) (pv 5) (pe_lst (pa_cons pe_str (pa_cons pe_str pa_nil))) (nomark _)) (pss_one (ps_ret pe_non)) pss_nil)
      (pss_one (ps_expr (pe_bm PySem.F.plainAttrs_list PySem.F.slot_list_append PySem.F.type_list_append mt_append (pv 3) (pa_cons (pe_tup (pa_cons (pe_ix (kIx K) (pv 5) pe_int (fun _ _ => rfl)) (pa_cons (pe_ix (kIx K) (pv 5) pe_int (fun _ _ => rfl)) pa_nil))) pa_nil)))))))))
      (pss_cons (ps_if (pt_cmpR op_gt (pe_callB (kSum K (hc := rfl)) (by rfl) T.m_sum bt_sum (pa_cons (pe_lc (own := [("_law_one", 6), ("_law_other", 7)]) rfl sc__law_due.nd (kPiList K (pv 3)) (blkOk_by (own := [("_law_one", 6), ("_law_other", 7)]) (N := N__law_due) (sc := defScope st__law_due) (by decide +kernel)) (fun _ _ _ _ _ => (kgTup (n := 2) K rfl (pgs_cons (pg_name (i := 6) sc__law_due.nd rfl (by first | exact Or.inl rfl | exact Or.inr rfl)) (pgs_cons (pg_name (i := 7) sc__law_due.nd rfl (by first | exact Or.inl rfl | exact Or.inr rfl)) pgs_nil)))) (fun _ _ _ _ _ => pts_nil) (fun _ _ _ _ _ => (pe_callB (kLen K) (by rfl) T.m_len PySem.boot_len (pa_cons (pv 6) pa_nil)))) pa_nil)) pe_int (nomark _)) (pss_one (ps_ret pe_non)) pss_nil)
      (pss_one (ps_ret (pe_callTy (kTupleB K (hc := rfl)) (by rfl) T.m_tuple boot_tuple (pa_cons (pv 3) pa_nil))))))))), ?_⟩)
  exact (s_seq (s_if (dt_test (d_op ro_eq (d_var 1) (d_str _))) (s_ret (d_tup d_nil)) s_nx)
      (s_seq (s_asg (d_op ro_add (d_ofL (l_lst (d_cons (d_str _) d_nil))) (d_ofL (l_cb rcl_listA (d_cons (d_op ro_ix (d_var 0) (d_int 0)) d_nil)))) (g_name 2))
      (s_seq (s_setO (l_lst d_nil))
      (s_seq (s_for (i_list (d_m1 rm_split (d_var 1) (d_str _))) (g_name 4) (s_seq (s_asg (d_m1 rm_split (d_var 4) (d_str _)) (g_name 5))
      (s_seq (s_if (dt_test (d_op ro_eq (d_cb rc_len (d_cons (d_var 5) d_nil)) (d_int 1))) (s_asg (d_ofL (l_lst (d_cons (d_var 4) (d_cons (d_var 4) d_nil)))) (g_name 5)) (s_if (dt_or (dt_test (d_op ro_gt (d_cb rc_len (d_cons (d_var 5) d_nil)) (d_int 2))) (dt_test (d_op ro_eq (d_op ro_ix (d_var 5) (d_int 0)) (d_op ro_ix (d_var 5) (d_int 1))))) (s_ret d_non) s_nx))
      (s_seq (s_if (dt_or (dt_test (d_op ro_notIn (d_op ro_ix (d_var 5) (d_int 0)) (d_var 2))) (dt_test (d_op ro_notIn (d_op ro_ix (d_var 5) (d_int 1)) (d_var 2)))) (s_ret d_non) s_nx)
      (s_seq (s_if (dt_test (d_op ro_eq (d_var 5) (d_ofL (l_lst (d_cons (d_str _) (d_cons (d_str _) d_nil)))))) (s_ret d_non) s_nx)
      (s_app (d_tup (d_cons (d_op ro_ix (d_var 5) (d_int 0)) (d_cons (d_op ro_ix (d_var 5) (d_int 1)) d_nil)))))))))
      (s_seq (s_frz 3 (s_if (dt_test (d_op ro_gt (d_cb rc_sum (d_cons (d_ofL (l_lc (i_list (d_var 3)) (g_tup (gs_cons (g_name 6) (gs_cons (g_name 7) gs_nil))) (by decide) dt_yes (d_cb rc_len (d_cons (d_var 6) d_nil)))) d_nil)) (d_int 8))) (s_ret d_non) s_nx))
      (s_frz 3 (s_ret (d_cb rc_tupleA (d_cons (d_var 3) d_nil)))))))))
theorem b__law_turned (T : TX K mg) : Binds K T.f__law_turned.fd ["_law_pack_here", "_law_code_here", "_law_text_here"] [] := T.f__law_turned.F.bindsN fun _ _ _ _ _ _ us hl => match us, hl with | [_, _, _], _ => rfl
set_option maxHeartbeats 4000000 in
theorem ok__law_turned (T : TX K mg) : FnOk P w K mg base (L2.CX P w) 2 T.f__law_turned.f T.f__law_turned.fd ["_law_pack_here", "_law_code_here", "_law_text_here"] (spF ⟨K, C⟩ 3 m__law_turned) := by
  refine fn_ok T.f__law_turned.F sc__law_turned (fun cdv A outer s H E hr tk po => ⟨_, (pss_cons (ps_set (i := 3) sc__law_turned.nd rfl (Or.inl rfl) (pe_split (pv 2) pe_str))
      (pss_cons (ps_set (i := 4) sc__law_turned.nd rfl (Or.inl rfl) (pe_callS (ok__law_take (C := C) T) (hr.mono (by decide)) (by rfl) T.f__law_take.g T.f__law_take.F.kp (b__law_take T) (fun σ => passAt tk σ) (pa_cons (pv 0) (pa_cons (pe_op (kAdd K) (pe_callB (kLen K) (by rfl) T.m_len PySem.boot_len (pa_cons (pv 2) pa_nil)) pe_int) pa_nil))))
      (pss_cons (ps_set (i := 5) sc__law_turned.nd rfl (Or.inl rfl) (pe_callS (ok__law_take (C := C) T) (hr.mono (by decide)) (by rfl) T.f__law_take.g T.f__law_take.F.kp (b__law_take T) (fun σ => passAt tk σ) (pa_cons (pv 0) (pa_cons (pe_callB (kLen K) (by rfl) T.m_len PySem.boot_len (pa_cons (pv 3) pa_nil)) pa_nil))))
      (pss_cons (ps_set (i := 6) sc__law_turned.nd rfl (Or.inl rfl) (pe_ix (kIx K) (pe_lst (pa_cons pe_str (pa_cons pe_str (pa_cons (pe_ix (kIx K) (pe_ix (kIx K) (pv 1) pe_int (fun _ _ => rfl)) pe_int (fun _ _ => rfl)) (pa_cons (pe_ix (kIx K) (pe_ix (kIx K) (pv 1) pe_int (fun _ _ => rfl)) (pe_un un_neg pe_int) (fun _ _ => rfl)) (pa_cons pe_str (pa_cons pe_str (pa_cons pe_str (pa_cons pe_str (pa_cons pe_str (pa_cons pe_str (pa_cons pe_str (pa_cons pe_str pa_nil))))))))))))) (pe_callS (ok__law_take (C := C) T) (hr.mono (by decide)) (by rfl) T.f__law_take.g T.f__law_take.F.kp (b__law_take T) (fun σ => passAt tk σ) (pa_cons (pv 0) (pa_cons pe_int pa_nil))) (fun _ _ => rfl)))
      (pss_cons (ps_set (i := 7) sc__law_turned.nd rfl (Or.inl rfl) (pe_lst (pa_cons (pe_op (kAdd K) (pe_op (kAdd K) (pe_slice (kSl K) (pv 2) po_none (po_some (pv 4))) (pv 6)) (pe_slice (kSl K) (pv 2) (po_some (pv 4)) po_none)) (pa_cons (pe_op (kAdd K) (pe_slice (kSl K) (pv 2) po_none (po_some (pv 4))) (pe_slice (kSl K) (pv 2) (po_some (pe_op (kAdd K) (pv 4) pe_int)) po_none)) (pa_cons (pe_m1 PySem.F.slot_str_join PySem.F.type_str_join (kJoin K) pe_str (pe_op (kAdd K) (pe_slice (kSl K) (pv 3) po_none (po_some (pv 5))) (pe_slice (kSl K) (pv 3) (po_some (pe_op (kAdd K) (pv 5) pe_int)) po_none))) pa_nil)))))
      (pss_cons (ps_expr (pe_bm PySem.F.plainAttrs_list PySem.F.slot_list_append PySem.F.type_list_append mt_append (pv 7) (pa_cons (pe_m1 PySem.F.slot_str_join PySem.F.type_str_join (kJoin K) pe_str (pe_op (kAdd K) (pe_slice (kSl K) (pv 3) po_none (po_some (pe_op (kAdd K) (pv 5) pe_int))) (pe_slice (kSl K) (pv 3) (po_some (pv 5)) po_none))) pa_nil)))
      (pss_cons (ps_expr (pe_bm PySem.F.plainAttrs_list PySem.F.slot_list_append PySem.F.type_list_append mt_append (pv 7) (pa_cons (pe_m1 PySem.F.slot_str_join PySem.F.type_str_join (kJoin K) pe_str (pe_op (kAdd K) (pe_op (kAdd K) (pe_slice (kSl K) (pv 3) po_none (po_some (pv 5))) (pe_lst (pa_cons (pv 6) pa_nil))) (pe_slice (kSl K) (pv 3) (po_some (pe_op (kAdd K) (pv 5) pe_int)) po_none))) pa_nil)))
      (pss_one (ps_ret (pe_ix (kIx K) (pe_op (kAdd K) (pv 7) (pe_lst (pa_cons (pe_op (kAdd K) (pv 2) pe_str) (pa_cons (pe_op (kAdd K) pe_str (pv 2)) (pa_cons (pe_op (kAdd K) (pv 2) pe_str) (pa_cons (pv 2) pa_nil)))))) (pe_callS (ok__law_take (C := C) T) (hr.mono (by decide)) (by rfl) T.f__law_take.g T.f__law_take.F.kp (b__law_take T) (fun σ => passAt tk σ) (pa_cons (pv 0) (pa_cons pe_int pa_nil))) (fun _ _ => rfl))))))))))), ?_⟩)
  exact (s_seq (s_asg (d_m1 rm_split (d_var 2) (d_str _)) (g_name 3))
      (s_seq (s_asg (d_callP (d_cons (d_op ro_add (d_cb rc_len (d_cons (d_var 2) d_nil)) (d_int 1)) d_nil)) (g_name 4))
      (s_seq (s_asg (d_callP (d_cons (d_cb rc_len (d_cons (d_var 3) d_nil)) d_nil)) (g_name 5))
      (s_seq (s_asg (d_op ro_ix (d_ofL (l_lst (d_cons (d_str _) (d_cons (d_str _) (d_cons (d_op ro_ix (d_op ro_ix (d_var 1) (d_int 0)) (d_int 0)) (d_cons (d_op ro_ix (d_op ro_ix (d_var 1) (d_int 0)) (d_un ru_neg (d_int 1))) (d_cons (d_str _) (d_cons (d_str _) (d_cons (d_str _) (d_cons (d_str _) (d_cons (d_str _) (d_cons (d_str _) (d_cons (d_str _) (d_cons (d_str _) d_nil)))))))))))))) (d_callP (d_cons (d_int 12) d_nil))) (g_name 6))
      (s_seq (s_setO (l_lst (d_cons (d_op ro_add (d_op ro_add (d_sl rs_sl (d_var 2) do_none (do_some (d_var 4))) (d_var 6)) (d_sl rs_sl (d_var 2) (do_some (d_var 4)) do_none)) (d_cons (d_op ro_add (d_sl rs_sl (d_var 2) do_none (do_some (d_var 4))) (d_sl rs_sl (d_var 2) (do_some (d_op ro_add (d_var 4) (d_int 1))) do_none)) (d_cons (d_m1 rm_join (d_str _) (d_op ro_add (d_sl rs_sl (d_var 3) do_none (do_some (d_var 5))) (d_sl rs_sl (d_var 3) (do_some (d_op ro_add (d_var 5) (d_int 1))) do_none))) d_nil)))))
      (s_seq (s_app (d_m1 rm_join (d_str _) (d_op ro_add (d_sl rs_sl (d_var 3) do_none (do_some (d_op ro_add (d_var 5) (d_int 1)))) (d_sl rs_sl (d_var 3) (do_some (d_var 5)) do_none))))
      (s_seq (s_app (d_m1 rm_join (d_str _) (d_op ro_add (d_op ro_add (d_sl rs_sl (d_var 3) do_none (do_some (d_var 5))) (d_ofL (l_lst (d_cons (d_var 6) d_nil)))) (d_sl rs_sl (d_var 3) (do_some (d_op ro_add (d_var 5) (d_int 1))) do_none))))
      (s_ret (d_op ro_ix (d_op ro_add (d_own 7) (d_ofL (l_lst (d_cons (d_op ro_add (d_var 2) (d_str _)) (d_cons (d_op ro_add (d_str _) (d_var 2)) (d_cons (d_op ro_add (d_var 2) (d_str _)) (d_cons (d_var 2) d_nil))))))) (d_callP (d_cons (d_int 9) d_nil)))))))))))
theorem b__law_right (T : TX K mg) : Binds K T.f__law_right.fd ["_law_code_here", "_law_text_here", "_law_due_here"] [] := T.f__law_right.F.bindsN fun _ _ _ _ _ _ us hl => match us, hl with | [_, _, _], _ => rfl
set_option maxHeartbeats 4000000 in
theorem ok__law_right (T : TX K mg) : FnOk P w K mg base (L2.CX P w) 6 T.f__law_right.f T.f__law_right.fd ["_law_code_here", "_law_text_here", "_law_due_here"] (spF ⟨K, C⟩ 3 m__law_right) := by
  refine fn_ok T.f__law_right.F sc__law_right (fun cdv A outer s H E hr tk po => ⟨_, (pss_cons (ps_set (i := 3) sc__law_right.nd rfl (Or.inl rfl) pe_non)
      (pss_cons (ps_set (i := 4) sc__law_right.nd rfl (Or.inl rfl) pe_non)
      (pss_cons (ps_try_T (i := 5) rfl rfl rfl sc__law_right.nd rfl rfl ⟨by rfl, by decide, Or.inl T.y_LadderError⟩ tk (fun W pn xe tk po => (pss_one (ps_set (i := 3) sc__law_right.nd rfl (Or.inl rfl) (pe_callS (ok_read_telling (C := C) T) (hr.mono (by decide)) (by rfl) T.f_read_telling.g T.f_read_telling.F.kp (b_read_telling T) (fun σ => passAt tk σ) (pa_cons (pv 0) (pa_cons (pv 1) pa_nil)))))) (fun a oe cls d pn hz hd => pss_one (ps_set (i := 4) sc__law_right.nd rfl (Or.inl rfl) (pv 5))))
      (pss_cons (ps_if (pt_cmpR op_isN (pv 2) pe_non (nomark _)) (pss_one (ps_ret (pe_and (pe_callS (ok__law_only (C := C) T) (hr.mono (by decide)) (by rfl) T.f__law_only.g T.f__law_only.F.kp (b__law_only T) (fun σ => passAt tk σ) (pa_cons (pv 4) (pa_cons pe_int pa_nil))) (pe_one (pe_cmpR op_isN (kXf K (pv 4)) pe_non (nomark _)))))) pss_nil)
      (pss_one (ps_ret (pe_and (pe_cmpR op_isN (pv 4) pe_non (nomark _)) (pe_and (pe_callB (kIsi K) (by rfl) T.m_isinstance boot_isinstance (pa_cons (pv 3) (pa_cons (pe_bltn (v := .ty "tuple") (by rfl) T.m_tuple boot_tuple rfl) pa_nil))) (pe_one (pe_cmpR (kEq K (hu := hr.units)) (pv 3) (pv 2) (nomark _))))))))))), ?_⟩)
  exact (s_seq (s_asg d_non (g_name 3))
      (s_seq (s_asg d_non (g_name 4))
      (s_seq (s_tryN (c := "LadderError") (T.x_ex "LadderError" (by decide)) (fun W => (s_asg (d_call (d_cons (d_var 0) (d_cons (d_var 1) d_nil))) (g_name 3))))
      (s_seq (s_if (dt_test (d_op ro_isNone (d_var 2) d_non)) (s_ret (d_and (d_callX (d_cons (d_int 0) d_nil)) (d_op ro_isNone (d_xf (fun n h => by cases of_decide_eq_true h; exact ⟨T.i_NoText.xf, T.i_NoText.no⟩)) d_non))) s_nx)
      (s_ret (d_and d_isNX (d_and (d_isi (d_var 3)) (d_op ro_eq (d_var 3) (d_var 2)))))))))
theorem b__law_spelled (T : TX K mg) : Binds K T.f__law_spelled.fd ["_law_pack_here", "_law_code_here"] [] := T.f__law_spelled.F.bindsN fun _ _ _ _ _ _ us hl => match us, hl with | [_, _], _ => rfl
set_option maxHeartbeats 4000000 in
theorem ok__law_spelled (T : TX K mg) : FnOk P w K mg base (L2.CX P w) 2 T.f__law_spelled.f T.f__law_spelled.fd ["_law_pack_here", "_law_code_here"] (spF ⟨K, C⟩ 2 m__law_spelled) := by
  refine fn_ok T.f__law_spelled.F sc__law_spelled (fun cdv A outer s H E hr tk po => ⟨_, (pss_cons (ps_set (i := 2) sc__law_spelled.nd rfl (Or.inr rfl) (pe_callS (ok__law_take (C := C) T) (hr.mono (by decide)) (by rfl) T.f__law_take.g T.f__law_take.F.kp (b__law_take T) (fun σ => passAt tk σ) (pa_cons (pv 0) (pa_cons pe_int pa_nil))))
      (pss_cons (ps_set (i := 3) sc__law_spelled.nd rfl (Or.inr rfl) (pe_op (kAdd K) pe_int (pe_callS (ok__law_take (C := C) T) (hr.mono (by decide)) (by rfl) T.f__law_take.g T.f__law_take.F.kp (b__law_take T) (fun σ => passAt tk σ) (pa_cons (pv 0) (pa_cons pe_int pa_nil)))))
      (pss_cons (ps_set (i := 4) sc__law_spelled.nd rfl (Or.inr rfl) (pe_callB (kSorted K) (by rfl) T.m_sorted bt_sorted (pa_cons (pe_lc (own := [("_law_k", 13)]) rfl sc__law_spelled.nd (pi_range1 (by rfl) T.m_range (pa_cons (pe_callB (kLen K) (by rfl) T.m_len PySem.boot_len (pa_cons (pe_ix (kIx K) (pv 1) pe_int (fun _ _ => rfl)) pa_nil)) pa_nil)) (blkOk_by (own := [("_law_k", 13)]) (N := N__law_spelled) (sc := defScope st__law_spelled) (by decide +kernel)) (fun _ _ _ _ _ => (pg_name (i := 13) sc__law_spelled.nd rfl (by first | exact Or.inl rfl | exact Or.inr rfl))) (fun _ _ _ _ _ => pts_nil) (fun _ _ _ _ _ => (pe_ix (kIx K) pe_str (pe_op op_mod (pe_op (kAdd K) (pv 2) (pe_op (kMulC K) (pv 13) (pv 3))) pe_int) (fun _ _ => rfl)))) pa_nil)))
      (pss_cons (ps_set (i := 5) sc__law_spelled.nd rfl (Or.inr rfl) (pe_callTy (kDictP K (hc := rfl)) (by rfl) T.m_dict boot_dict (pa_cons (pe_op (kAdd K) (pe_lc (own := [("_law_k", 13)]) rfl sc__law_spelled.nd (pi_range1 (by rfl) T.m_range (pa_cons (pe_callB (kLen K) (by rfl) T.m_len PySem.boot_len (pa_cons (pv 4) pa_nil)) pa_nil)) (blkOk_by (own := [("_law_k", 13)]) (N := N__law_spelled) (sc := defScope st__law_spelled) (by decide +kernel)) (fun _ _ _ _ _ => (pg_name (i := 13) sc__law_spelled.nd rfl (by first | exact Or.inl rfl | exact Or.inr rfl))) (fun _ _ _ _ _ => pts_nil) (fun _ _ _ _ _ => (pe_tup (pa_cons (pe_ix (kIx K) (pe_ix (kIx K) (pv 1) pe_int (fun _ _ => rfl)) (pv 13) (fun _ _ => rfl)) (pa_cons (pe_ix (kIx K) (pv 4) (pv 13) (fun _ _ => rfl)) pa_nil))))) (pe_lst (pa_cons (pe_tup (pa_cons pe_str (pa_cons pe_str pa_nil))) pa_nil))) pa_nil)))
      (pss_cons (ps_set (i := 6) sc__law_spelled.nd rfl (Or.inl rfl) (pe_lst pa_nil))
      (pss_cons (ps_for po rfl (kPiTup K (pe_ix (kIx K) (pv 1) pe_int (fun _ _ => rfl))) (kgTup (n := 2) K rfl (pgs_cons (pg_name (i := 7) sc__law_spelled.nd rfl (Or.inl rfl)) (pgs_cons (pg_name (i := 8) sc__law_spelled.nd rfl (Or.inl rfl)) pgs_nil))) (pss_cons (ps_set (i := 9) sc__law_spelled.nd rfl (Or.inl rfl) (pe_lst pa_nil))
      (pss_cons (ps_for po rfl (kPiTup K (pv 8)) (kgTup (n := 2) K rfl (pgs_cons (pg_name (i := 10) sc__law_spelled.nd rfl (Or.inl rfl)) (pgs_cons (pg_name (i := 11) sc__law_spelled.nd rfl (Or.inl rfl)) pgs_nil))) (pss_cons (ps_set (i := 12) sc__law_spelled.nd rfl (Or.inl rfl) (pe_callTy (kTupleB K (hc := rfl)) (by rfl) T.m_tuple boot_tuple (pa_cons (pe_lc (own := [("_law_part", 15)]) rfl sc__law_spelled.nd (kPiTup K (pe_slice (kSl K) (pv 10) (po_some pe_int) po_none)) (blkOk_by (own := [("_law_part", 15)]) (N := N__law_spelled) (sc := defScope st__law_spelled) (by decide +kernel)) (fun _ _ _ _ _ => (pg_name (i := 15) sc__law_spelled.nd rfl (by first | exact Or.inl rfl | exact Or.inr rfl))) (fun _ _ _ _ _ => pts_nil) (fun _ _ _ _ _ => (pe_m1 PySem.F.slot_str_join PySem.F.type_str_join (kJoin K) pe_str (pe_lc (own := [("_law_sign", 14)]) rfl sc__law_spelled.nd (pi_str (pv 15)) (blkOk_by (own := [("_law_sign", 14)]) (N := N__law_spelled) (sc := ({ kind := .function, names := [(Str.ofString ".0", .local), (Str.ofString "_law_part", .local), (Str.ofString "_law_called", .cell)], isGenerator := false, isCoroutine := false } : Scope)) (by decide +kernel)) (fun _ _ _ _ _ => (pg_name (i := 14) sc__law_spelled.nd rfl (by first | exact Or.inl rfl | exact Or.inr rfl))) (fun _ _ _ _ _ => pts_nil) (fun _ _ _ _ _ => (kDGet (hu := u1 hr) (pv 5) (pv 14) (fun _ _ => rfl))))))) pa_nil)))
      (pss_one (ps_expr (pe_bm PySem.F.plainAttrs_list PySem.F.slot_list_append PySem.F.type_list_append mt_append (pv 9) (pa_cons (pe_tup (pa_cons (pe_op (kAdd K) (pe_slice (kSl K) (pv 10) po_none (po_some pe_int)) (pv 12)) (pa_cons (pv 11) pa_nil))) pa_nil))))))
      (pss_one (ps_expr (pe_bm PySem.F.plainAttrs_list PySem.F.slot_list_append PySem.F.type_list_append mt_append (pv 6) (pa_cons (pe_tup (pa_cons (pv 7) (pa_cons (pe_callTy (kTupleB K (hc := rfl)) (by rfl) T.m_tuple boot_tuple (pa_cons (pv 9) pa_nil)) pa_nil))) pa_nil)))))))
      (pss_one (ps_ret (pe_tup (pa_cons (pe_m1 PySem.F.slot_str_join PySem.F.type_str_join (kJoin K) pe_str (pe_lc (own := [("_law_sign", 14)]) rfl sc__law_spelled.nd (pi_str (pe_ix (kIx K) (pv 1) pe_int (fun _ _ => rfl))) (blkOk_by (own := [("_law_sign", 14)]) (N := N__law_spelled) (sc := defScope st__law_spelled) (by decide +kernel)) (fun _ _ _ _ _ => (pg_name (i := 14) sc__law_spelled.nd rfl (by first | exact Or.inl rfl | exact Or.inr rfl))) (fun _ _ _ _ _ => pts_nil) (fun _ _ _ _ _ => (kDGet (hu := u1 hr) (pv 5) (pv 14) (fun _ _ => rfl))))) (pa_cons (pe_callTy (kTupleB K (hc := rfl)) (by rfl) T.m_tuple boot_tuple (pa_cons (pv 6) pa_nil)) pa_nil))))))))))), ?_⟩)
  exact (s_seq (s_asg (d_callP (d_cons (d_int 26) d_nil)) (g_name 2))
      (s_seq (s_asg (d_op ro_add (d_int 1) (d_callP (d_cons (d_int 12) d_nil))) (g_name 3))
      (s_seq (s_asg (d_ofL (l_cb rcl_sorted (d_cons (d_ofL (l_lc (i_rng1 (d_cons (d_cb rc_len (d_cons (d_op ro_ix (d_var 1) (d_int 0)) d_nil)) d_nil)) (g_name 13) (by decide) dt_yes (d_op ro_ix (d_str _) (d_op ro_mod (d_op ro_add (d_var 2) (d_op ro_mulC (d_var 13) (d_var 3))) (d_int 26))))) d_nil))) (g_name 4))
      (s_seq (s_asg (d_cb rc_dict (d_cons (d_op ro_add (d_ofL (l_lc (i_rng1 (d_cons (d_cb rc_len (d_cons (d_var 4) d_nil)) d_nil)) (g_name 13) (by decide) dt_yes (d_tup (d_cons (d_op ro_ix (d_op ro_ix (d_var 1) (d_int 0)) (d_var 13)) (d_cons (d_op ro_ix (d_var 4) (d_var 13)) d_nil))))) (d_ofL (l_lst (d_cons (d_tup (d_cons (d_str _) (d_cons (d_str _) d_nil))) d_nil)))) d_nil)) (g_name 5))
      (s_seq (s_setO (l_lst d_nil))
      (s_seq (s_for (i_tup (d_op ro_ix (d_var 1) (d_int 1))) (g_tup (gs_cons (g_name 7) (gs_cons (g_name 8) gs_nil))) (s_seq (s_setO (l_lst d_nil))
      (s_seq (s_for (i_tup (d_var 8)) (g_tup (gs_cons (g_name 10) (gs_cons (g_name 11) gs_nil))) (s_seq (s_asg (d_cb rc_tupleA (d_cons (d_ofL (l_lc (i_tup (d_sl rs_sl (d_var 10) (do_some (d_int 1)) do_none)) (g_name 15) (by decide) dt_yes (d_m1 rm_join (d_str _) (d_ofL (l_lc (i_str (d_var 15)) (g_name 14) (by decide) dt_yes (d_op ro_dget (d_var 5) (d_var 14))))))) d_nil)) (g_name 12))
      (s_app (d_tup (d_cons (d_op ro_add (d_sl rs_sl (d_var 10) do_none (do_some (d_int 1))) (d_var 12)) (d_cons (d_var 11) d_nil))))))
      (s_app (d_tup (d_cons (d_var 7) (d_cons (d_cb rc_tupleA (d_cons (d_own 9) d_nil)) d_nil)))))))
      (s_ret (d_tup (d_cons (d_m1 rm_join (d_str _) (d_ofL (l_lc (i_str (d_op ro_ix (d_var 1) (d_int 0))) (g_name 14) (by decide) dt_yes (d_op ro_dget (d_var 5) (d_var 14))))) (d_cons (d_cb rc_tupleA (d_cons (d_own 6) d_nil)) d_nil))))))))))
theorem b_law (T : TX K mg) : Binds K T.f_law.fd ["_law_script"] [] := T.f_law.F.bindsN fun _ _ _ _ _ _ us hl => match us, hl with | [_], _ => rfl
set_option maxHeartbeats 4000000 in
theorem ok_law (T : TX K mg) : FnOk P w K mg base (L2.CX P w) 7 T.f_law.f T.f_law.fd ["_law_script"] (spF ⟨K, C⟩ 1 m_law) := by
  refine fn_ok T.f_law.F sc_law (fun cdv A outer s H E hr tk po => ⟨_, (pss_cons (ps_set (i := 1) sc_law.nd rfl (Or.inl rfl) (pe_callS (ok__law_pack (C := C) T) (hr.mono (by decide)) (by rfl) T.f__law_pack.g T.f__law_pack.F.kp (b__law_pack T) (fun σ => passAt tk σ) (pa_cons (pv 0) (pa_cons pe_int pa_nil))))
      (pss_cons (ps_set (i := 2) sc_law.nd rfl (Or.inr rfl) (pe_callS (ok__law_spelled (C := C) T) (hr.mono (by decide)) (by rfl) T.f__law_spelled.g T.f__law_spelled.F.kp (b__law_spelled T) (fun σ => passAt tk σ) (pa_cons (pv 1) (pa_cons (pe_callS (ok__law_code (C := C) T) (hr.mono (by decide)) (by rfl) T.f__law_code.g T.f__law_code.F.kp (b__law_code T) (fun σ => passAt tk σ) (pa_cons (pv 1) (pa_cons pe_int pa_nil))) pa_nil))))
      (pss_cons (ps_for po rfl (pi_range2 (by rfl) T.m_range (pa_cons pe_int (pa_cons (pe_callB (call_max2 rfl) (by rfl) T.m_max bt_max (pa_cons pe_int (pa_cons (pe_callB (call_min2 rfl) (by rfl) T.m_min bt_min (pa_cons (pe_callB (kLen K) (by rfl) T.m_len PySem.boot_len (pa_cons (pv 0) pa_nil)) (pa_cons pe_int pa_nil))) pa_nil))) pa_nil))) (pg_name (i := 3) sc_law.nd rfl (Or.inl rfl)) (pss_cons (ps_set (i := 1) sc_law.nd rfl (Or.inl rfl) (pe_callS (ok__law_pack (C := C) T) (hr.mono (by decide)) (by rfl) T.f__law_pack.g T.f__law_pack.F.kp (b__law_pack T) (fun σ => passAt tk σ) (pa_cons (pv 0) (pa_cons (pv 3) pa_nil))))
      (pss_cons (ps_set (i := 4) sc_law.nd rfl (Or.inl rfl) (pe_slice (kSl K) (pe_callS (ok__law_telling (C := C) T) (hr.mono (by decide)) (by rfl) T.f__law_telling.g T.f__law_telling.F.kp (b__law_telling T) (fun σ => passAt tk σ) (pa_cons (pv 1) (pa_cons (pe_ix (kIx K) (pv 2) pe_int (fun _ _ => rfl)) (pa_cons (pe_callS (ok__law_word (C := C) T) (hr.mono (by decide)) (by rfl) T.f__law_word.g T.f__law_word.F.kp (b__law_word T) (fun σ => passAt tk σ) (pa_cons (pv 1) (pa_cons (pe_ix (kIx K) (pv 2) pe_int (fun _ _ => rfl)) (pa_cons pe_int pa_nil)))) pa_nil)))) po_none (po_some pe_int)))
      (pss_cons (ps_set (i := 5) sc_law.nd rfl (Or.inl rfl) (pe_callS (ok__law_text (C := C) T) (hr.mono (by decide)) (by rfl) T.f__law_text.g T.f__law_text.F.kp (b__law_text T) (fun σ => passAt tk σ) (pa_cons (pv 4) pa_nil)))
      (pss_cons (ps_if ((pw_or (pt_cmpR (kNe K (hu := hr.units)) (pe_callS (ok_show_telling (C := C) T) (hr.mono (by decide)) (by rfl) T.f_show_telling.g T.f_show_telling.F.kp (b_show_telling T) (fun σ => passAt tk σ) (pa_cons (pv 4) pa_nil)) (pv 5) (nomark _)) (pw_or1 (pt_not (pt_val (pe_callS (ok__law_right (C := C) T) (hr.mono (by decide)) (by rfl) T.f__law_right.g T.f__law_right.F.kp (b__law_right T) (fun σ => passAt tk σ) (pa_cons (pv 2) (pa_cons (pv 5) (pa_cons (pv 4) pa_nil))))))))).pt (pss_one (ps_ret pe_bl)) pss_nil)
      (pss_one (ps_for po rfl (pi_range1 (by rfl) T.m_range (pa_cons pe_int pa_nil)) (pg_name (i := 6) sc_law.nd rfl (Or.inl rfl)) (pss_cons (ps_set (i := 7) sc_law.nd rfl (Or.inl rfl) (pe_callS (ok__law_turned (C := C) T) (hr.mono (by decide)) (by rfl) T.f__law_turned.g T.f__law_turned.F.kp (b__law_turned T) (fun σ => passAt tk σ) (pa_cons (pv 1) (pa_cons (pv 2) (pa_cons (pv 5) pa_nil)))))
      (pss_one (ps_if (pt_not (pt_val (pe_callS (ok__law_right (C := C) T) (hr.mono (by decide)) (by rfl) T.f__law_right.g T.f__law_right.F.kp (b__law_right T) (fun σ => passAt tk σ) (pa_cons (pv 2) (pa_cons (pv 7) (pa_cons (pe_callS (ok__law_due (C := C) T) (hr.mono (by decide)) (by rfl) T.f__law_due.g T.f__law_due.F.kp (b__law_due T) (fun σ => passAt tk σ) (pa_cons (pv 2) (pa_cons (pv 7) pa_nil))) pa_nil)))))) (pss_one (ps_ret pe_bl)) pss_nil))))))))))
      (pss_one (ps_ret (pe_callB (kAll K (hc := rfl)) (by rfl) T.m_all bt_all (pa_cons (pe_lc (own := [("_law_thing", 8)]) rfl sc_law.nd (kPiList K (pe_lst (pa_cons pe_non (pa_cons pe_int (pa_cons pe_bl (pa_cons (pe_tup (pa_cons pe_str pa_nil)) (pa_cons (pe_lst (pa_cons pe_str pa_nil)) (pa_cons pe_dnewK (pa_cons pe_str (pa_cons pe_str (pa_cons pe_str pa_nil))))))))))) (blkOk_by (own := [("_law_thing", 8)]) (N := N_law) (sc := defScope st_law) (by decide +kernel)) (fun _ _ _ _ _ => (pg_name (i := 8) sc_law.nd rfl (by first | exact Or.inl rfl | exact Or.inr rfl))) (fun _ _ _ _ _ => pts_nil) (fun _ _ _ _ _ => (pe_callS (ok__law_right (C := C) T) (hr.mono (by decide)) (by rfl) T.f__law_right.g T.f__law_right.F.kp (b__law_right T) (fun σ => passAt takes0 σ) (pa_cons (pv 2) (pa_cons (pv 8) (pa_cons pe_non pa_nil)))))) pa_nil))))))), ?_⟩)
  exact (s_seq (s_setO (l_call (d_cons (d_var 0) (d_cons (d_int 0) d_nil))))
      (s_seq (s_asg (d_callP (d_cons (d_callP (d_cons (d_int 2) d_nil)) d_nil)) (g_name 2))
      (s_seq (s_for (i_rng2 (d_cons (d_int 1) (d_cons (d_cb rc_max (d_cons (d_int 2) (d_cons (d_cb rc_min (d_cons (d_cb rc_len (d_cons (d_var 0) d_nil)) (d_cons (d_int 11) d_nil))) d_nil))) d_nil))) (g_name 3) (s_seq (s_setO (l_call (d_cons (d_var 0) (d_cons (d_var 3) d_nil))))
      (s_seq (s_asg (d_sl rs_sl (d_callP (d_cons (d_op ro_ix (d_var 2) (d_int 0)) (d_cons (d_callP (d_cons (d_op ro_ix (d_var 2) (d_int 0)) (d_cons (d_int 8) d_nil))) d_nil))) do_none (do_some (d_int 20))) (g_name 4))
      (s_seq (s_asg (d_call (d_cons (d_var 4) d_nil)) (g_name 5))
      (s_seq (s_if (dt_or (dt_test (d_op ro_ne (d_call (d_cons (d_var 4) d_nil)) (d_var 5))) (dt_not (dt_tB (d_call (d_cons (d_var 2) (d_cons (d_var 5) (d_cons (d_var 4) d_nil))))))) (s_ret (d_bl false)) s_nx)
      (s_for (i_rng1 (d_cons (d_int 4) d_nil)) (g_name 6) (s_seq (s_asg (d_callP (d_cons (d_var 2) (d_cons (d_var 5) d_nil))) (g_name 7))
      (s_if (dt_not (dt_tB (d_call (d_cons (d_var 2) (d_cons (d_var 7) (d_cons (d_call (d_cons (d_var 2) (d_cons (d_var 7) d_nil))) d_nil)))))) (s_ret (d_bl false)) s_nx))))))))
      (s_ret (d_cb rc_all (d_cons (d_ofL (l_lc (i_list (d_ofL (l_lst (d_cons d_non (d_cons (d_int 7) (d_cons (d_bl true) (d_cons (d_tup (d_cons (d_str _) d_nil)) (d_cons (d_ofL (l_lst (d_cons (d_str _) d_nil))) (d_cons d_dict0 (d_cons (d_str _) (d_cons (d_str _) (d_cons (d_str _) d_nil)))))))))))) (g_name 8) (by decide) dt_yes (d_call (d_cons (d_var 2) (d_cons (d_var 8) (d_cons d_non d_nil)))))) d_nil))))))
end
/-! ### the head -/
def d_is_text_of : He.DefD := ⟨("is_text_of", none), "is_text_of", "is_text_of", defArgs st_is_text_of, defBody st_is_text_of, defScope st_is_text_of, [], []⟩
def d_is_word : He.DefD := ⟨("is_word", none), "is_word", "is_word", defArgs st_is_word, defBody st_is_word, defScope st_is_word, [], []⟩
def d_is_part : He.DefD := ⟨("is_part", none), "is_part", "is_part", defArgs st_is_part, defBody st_is_part, defScope st_is_part, [], []⟩
def d_is_step : He.DefD := ⟨("is_step", none), "is_step", "is_step", defArgs st_is_step, defBody st_is_step, defScope st_is_step, [], []⟩
def d_is_steps : He.DefD := ⟨("is_steps", none), "is_steps", "is_steps", defArgs st_is_steps, defBody st_is_steps, defScope st_is_steps, [], []⟩
def d_word_of : He.DefD := ⟨("word_of", none), "word_of", "word_of", defArgs st_word_of, defBody st_word_of, defScope st_word_of, [], []⟩
def d_is_telling : He.DefD := ⟨("is_telling", none), "is_telling", "is_telling", defArgs st_is_telling, defBody st_is_telling, defScope st_is_telling, [], []⟩
def d_show_step : He.DefD := ⟨("show_step", none), "show_step", "show_step", defArgs st_show_step, defBody st_show_step, defScope st_show_step, [], []⟩
def d_show_telling : He.DefD := ⟨("show_telling", none), "show_telling", "show_telling", defArgs st_show_telling, defBody st_show_telling, defScope st_show_telling, [], []⟩
def d_step_in : He.DefD := ⟨("step_in", none), "step_in", "step_in", defArgs st_step_in, defBody st_step_in, defScope st_step_in, [], []⟩
def d_read_telling : He.DefD := ⟨("read_telling", none), "read_telling", "read_telling", defArgs st_read_telling, defBody st_read_telling, defScope st_read_telling, [], []⟩
def d__law_mixed : He.DefD := ⟨("_law_mixed", none), "_law_mixed", "_law_mixed", defArgs st__law_mixed, defBody st__law_mixed, defScope st__law_mixed, [], []⟩
def d__law_pack : He.DefD := ⟨("_law_pack", none), "_law_pack", "_law_pack", defArgs st__law_pack, defBody st__law_pack, defScope st__law_pack, [], []⟩
def d__law_take : He.DefD := ⟨("_law_take", none), "_law_take", "_law_take", defArgs st__law_take, defBody st__law_take, defScope st__law_take, [], []⟩
def d__law_names : He.DefD := ⟨("_law_names", none), "_law_names", "_law_names", defArgs st__law_names, defBody st__law_names, defScope st__law_names, [], []⟩
def d__law_set : He.DefD := ⟨("_law_set", none), "_law_set", "_law_set", defArgs st__law_set, defBody st__law_set, defScope st__law_set, [], []⟩
def d__law_pattern : He.DefD := ⟨("_law_pattern", none), "_law_pattern", "_law_pattern", defArgs st__law_pattern, defBody st__law_pattern, defScope st__law_pattern, [], []⟩
def d__law_code : He.DefD := ⟨("_law_code", none), "_law_code", "_law_code", defArgs st__law_code, defBody st__law_code, defScope st__law_code, [], []⟩
def d__law_word : He.DefD := ⟨("_law_word", none), "_law_word", "_law_word", defArgs st__law_word, defBody st__law_word, defScope st__law_word, [], []⟩
def d__law_telling : He.DefD := ⟨("_law_telling", none), "_law_telling", "_law_telling", defArgs st__law_telling, defBody st__law_telling, defScope st__law_telling, [], []⟩
def d__law_only : He.DefD := ⟨("_law_only", none), "_law_only", "_law_only", defArgs st__law_only, defBody st__law_only, defScope st__law_only, [], []⟩
def d__law_text : He.DefD := ⟨("_law_text", none), "_law_text", "_law_text", defArgs st__law_text, defBody st__law_text, defScope st__law_text, [], []⟩
def d__law_due : He.DefD := ⟨("_law_due", none), "_law_due", "_law_due", defArgs st__law_due, defBody st__law_due, defScope st__law_due, [], []⟩
def d__law_turned : He.DefD := ⟨("_law_turned", none), "_law_turned", "_law_turned", defArgs st__law_turned, defBody st__law_turned, defScope st__law_turned, [], []⟩
def d__law_right : He.DefD := ⟨("_law_right", none), "_law_right", "_law_right", defArgs st__law_right, defBody st__law_right, defScope st__law_right, [], []⟩
def d__law_spelled : He.DefD := ⟨("_law_spelled", none), "_law_spelled", "_law_spelled", defArgs st__law_spelled, defBody st__law_spelled, defScope st__law_spelled, [], []⟩
def d_law : He.DefD := ⟨("law", none), "law", "law", defArgs st_law, defBody st_law, defScope st_law, [], []⟩
def d_NoText : He.DefD := ⟨("NoText", some "__init__"), "__init__", "NoText.__init__", defArgs st_NoText, defBody st_NoText, defScope st_NoText, [], []⟩
def fn : List He.DefD := [d_is_text_of, d_is_word, d_is_part, d_is_step, d_is_steps, d_word_of, d_is_telling, d_show_step, d_show_telling, d_step_in, d_read_telling, d__law_mixed, d__law_pack, d__law_take, d__law_names, d__law_set, d__law_pattern, d__law_code, d__law_word, d__law_telling, d__law_only, d__law_text, d__law_due, d__law_turned, d__law_right, d__law_spelled, d_law, d_NoText]
def exB (K : PySem.W.Frag) : Bool := okIs K raisedC testedC upC && (okEx K raisedC caughtC upC && (okIsB K raisedC "ValueError" (.type "ValueError") upC && iniB K "NoText" "LadderError" "part"))
def fa : List He.Fa := [.glo "is_text_of", .glo "is_word", .glo "is_part", .glo "is_step", .glo "is_steps", .glo "word_of", .glo "is_telling", .glo "show_step", .glo "show_telling", .glo "step_in", .glo "read_telling", .glo "_law_mixed", .glo "_law_pack", .glo "_law_take", .glo "_law_names", .glo "_law_set", .glo "_law_pattern", .glo "_law_code", .glo "_law_word", .glo "_law_telling", .glo "_law_only", .glo "_law_text", .glo "_law_due", .glo "_law_turned", .glo "_law_right", .glo "_law_spelled", .glo "law", .free "ValueError", .free "all", .free "dict", .free "divmod", .free "int", .free "isinstance", .free "len", .free "list", .free "max", .free "min", .free "range", .free "sorted", .free "str", .free "sum", .free "tuple", .glo "LadderError", .glo "NoBook", .glo "NoCall", .glo "NoForm", .glo "NoKept", .glo "NoNumber", .glo "NoOrder", .glo "NoTelling", .glo "NoText", .glo "NoWeights", .glo "NoWord", .glo "TooMany", .int "MOST_WORD" 8]
end Lw
namespace Lw
open PySem PySem.Spec L2 Evl Dt
open TL (tl joinL tl_join tl_ofString join_eq tl_append len_tl)
/-! ### the family of laws that take out of a pack -/
abbrev S (s : String) : Str := Str.ofString s
theorem pow_add {a b : Int} {N : Nat} (ha : a.natAbs < 2 ^ N) (hb : b.natAbs < 4096) (hN : 12 ≤ N) : (a + b).natAbs < 2 ^ (N + 1) := by
  have h := Nat.pow_le_pow_right (n := 2) (by omega) hN
  rw [Nat.pow_succ]
  generalize 2 ^ N = P at *
  have h12 : 2 ^ 12 = 4096 := rfl
  omega
theorem bits_add {a b : Int} {N : Nat} (ha : Dt.bits a ≤ N) (hb : b.natAbs < 4096) (hN : 12 ≤ N) : Dt.bits (a + b) ≤ N + 1 :=
  bits_le (pow_add (Nat.lt_of_lt_of_le (PyProof.Rows.natAbs_lt_pow_bits a) (Nat.pow_le_pow_right (by omega) ha)) hb hN)
theorem m_mixed (c : Int) (hc : Dt.bits c ≤ 1048577) : m__law_mixed [.d (.int c)] = .ok (.d (.int (c * 915965594177219015054603514932384110774149374281672134266497 % 1000000000000000000000000000000000000000000000000000000000000))) [.d (.int c)] := by
  have hb : Dt.bits 915965594177219015054603514932384110774149374281672134266497 ≤ 200 := bits_le (by decide +kernel)
  have hm : mulOk c 915965594177219015054603514932384110774149374281672134266497 = true := by
    simp only [mulOk, Bool.or_eq_true, decide_eq_true_eq]
    exact .inr (by omega)
  have e1 : ((10 : Int) ^ (60 : Int).toNat) = 1000000000000000000000000000000000000000000000000000000000000 := by decide +kernel
  have e2 : (0 : Int) < 1000000000000000000000000000000000000000000000000000000000000 := by decide +kernel
  simp [m__law_mixed, gOf, w__law_mixed, hm]
theorem atI_nat {α : Type} {xs : List α} {k : Nat} (h : k < xs.length) : atI xs (k : Int) = some xs[k] := by
  unfold atI ixN
  rw [if_pos (by omega), if_pos (by omega)]
  show xs[(k : Int).toNat]? = _
  simp [h]
theorem m_pack (ns : List Int) (hb : ∀ z ∈ ns, Dt.bits z ≤ 1048576) (k : Nat) (hk : k < 64) : ∃ n : Int, m__law_pack [.d (.list (ns.map PyData.int)), .d (.int k)] = .ok (.l [.int n]) [.d (.list (ns.map PyData.int)), .d (.int k)] := by
  have m1 : mulOk 41 (k : Int) = true := by
    have : Dt.bits (41 : Int) ≤ 64 := bits_le (by decide)
    simp [mulOk, this]
  have m2 : mulOk 6131 (k : Int) = true := by
    have : Dt.bits (6131 : Int) ≤ 64 := bits_le (by decide)
    simp [mulOk, this]
  by_cases h : k < ns.length
  · have e := m_mixed (ns[k] + 41 * (k : Int)) (bits_add (hb _ (List.getElem_mem h)) (by omega) (by omega))
    have ea : atI (ns.map PyData.int) (k : Int) = some (.int ns[k]) := by
      rw [atI_nat (by rw [List.length_map]; exact h)]
      simp
    exact ⟨_, by simp [m__law_pack, gOf, w__law_pack, h, ea, m1, e, sizeLine]; rfl⟩
  · have e := m_mixed (6131 * (k : Int) + 17) (Nat.le_trans (bits_le (n := 20) (by omega)) (by omega))
    exact ⟨_, by simp [m__law_pack, gOf, w__law_pack, h, m2, e, sizeLine]; rfl⟩
theorem m_take (n : Int) {top : Int} (h0 : 0 < top) (h1 : top < 1073741824) : m__law_take [.own true [.int n], .d (.int top)] = .ok (.d (.int (n % top))) [.own true [.int (n / top)], .d (.int top)] := by
  simp [m__law_take, gOf, w__law_take, h0, h1, put_eq]
theorem take_ex (n : Int) (top : Int) (h0 : 0 < top) (h1 : top < 1073741824) : ∃ d n' : Int, 0 ≤ d ∧ d < top ∧ m__law_take [.own true [.int n], .d (.int top)] = .ok (.d (.int d)) [.own true [.int n'], .d (.int top)] :=
  ⟨_, _, Int.emod_nonneg _ (by omega), Int.emod_lt_of_pos _ h0, m_take n h0 h1⟩
theorem strOk_lt {z : Str} (h : ∀ c ∈ tl z, c < 1114112) : PyData.strOk z = true := by
  unfold PyData.strOk
  rw [Array.all_eq_true_iff_forall_mem]
  intro c hc
  exact decide_eq_true (h c (by unfold tl; exact Array.mem_toList_iff.mpr hc))
theorem atI_map {α β : Type} {f : α → β} {xs : List α} {i : Int} : atI (xs.map f) i = (atI xs i).map f := by
  unfold atI
  rw [List.length_map]
  cases ixN xs.length i with
  | none => rfl
  | some k => exact List.getElem?_map
theorem at0 {α : Type} (x : α) (rest : List α) : atI (x :: rest) 0 = some x := by simp [atI, ixN]
theorem apl (a b : Str) : (a ++ b).length = a.length + b.length := by rw [len_tl, tl_append, List.length_append, ← len_tl, ← len_tl]
def sgs (cs : List Nat) : List Pd := (cs.map sg1).map PyData.str
theorem sgs_len (cs : List Nat) : (sgs cs).length = cs.length := by simp [sgs]
theorem sgs_app (cs : List Nat) (c : Nat) : sgs cs ++ [.str (sg1 c)] = sgs (cs ++ [c]) := by simp [sgs]
theorem join_sgs (cs : List Nat) (h : cs.length ≤ 1000) : joinD (.str (Str.ofString "")) [.list (sgs cs)] = some (.str (ofL cs)) := join_signs cs h
theorem nodup_range {α : Type} {f : Nat → α} {m : Nat} (h : ∀ i j, i < j → j < m → f i ≠ f j) : ((List.range m).map f).Nodup := by
  refine List.pairwise_map.mpr ?_
  refine List.Pairwise.imp_of_mem (fun {a b} ha hb hab => ?_) (List.pairwise_lt_range (n := m))
  exact h a b hab (List.mem_range.mp hb)
theorem abc_z : abc.length ≤ 16777216 := by decide +kernel
/-- the letters turned -/
structure Turned (w : Str) : Prop where
  len : (tl w).length = 26
  nd : (tl w).Nodup
  let' : ∀ c ∈ tl w, 97 ≤ c ∧ c ≤ 122
theorem turned {t : Int} (h0 : 0 ≤ t) (h1 : t < 26) : Turned (cutS abc (some t) none ++ cutS abc none (some t)) := by
  have e : tl (cutS abc (some t) none ++ cutS abc none (some t)) = (tl abc).drop t.toNat ++ (tl abc).take t.toNat := by
    rw [tl_append, tl_drop _ _ h0, tl_take _ _ h0]
  have p : ((tl abc).drop t.toNat ++ (tl abc).take t.toNat).Perm (tl abc) := by
    refine List.perm_append_comm.trans (.of_eq ?_)
    exact List.take_append_drop _ _
  refine ⟨?_, ?_, ?_⟩
  · rw [e, p.length_eq, tl_abc]
    rfl
  · rw [e]
    exact p.nodup_iff.mpr (by rw [tl_abc]; decide)
  · intro c hc
    rw [e] at hc
    exact (mem_abc c).mp (p.mem_iff.mp hc)
def gW (w : Str) (i : Nat) : Nat := (tl w)[i]?.getD 0
theorem Turned.at {w : Str} (hw : Turned w) {i : Nat} (hi : i < 26) : atI w.cps.toList (i : Int) = some (gW w i) := by
  have h : i < (tl w).length := by rw [hw.len]; omega
  have := atI_nat (xs := tl w) h
  unfold gW
  rw [List.getElem?_eq_getElem h]
  exact this
theorem Turned.letter {w : Str} (hw : Turned w) {i : Nat} (hi : i < 26) : 97 ≤ gW w i ∧ gW w i ≤ 122 := by
  have h : i < (tl w).length := by rw [hw.len]; omega
  unfold gW
  rw [List.getElem?_eq_getElem h]
  exact hw.let' _ (List.getElem_mem h)
theorem Turned.inj {w : Str} (hw : Turned w) {i j : Nat} (hij : i < j) (hj : j < 26) : gW w i ≠ gW w j := by
  have h1 : i < (tl w).length := by rw [hw.len]; omega
  have h2 : j < (tl w).length := by rw [hw.len]; omega
  unfold gW
  rw [List.getElem?_eq_getElem h1, List.getElem?_eq_getElem h2]
  exact (List.pairwise_iff_getElem.mp hw.nd) i j h1 h2 hij
theorem Turned.mid {w : Str} (hw : Turned w) {x : Int} (x0 : 0 ≤ x) (x1 : x ≤ 7) : (tl (cutS w (some 5) (some (5 + x)))).length = x.toNat ∧ ∀ c ∈ tl (cutS w (some 5) (some (5 + x))), 97 ≤ c ∧ c ≤ 122 := by
  rw [tl_mid _ _ _ (by omega) (by omega)]
  refine ⟨?_, fun c hc => hw.let' c (List.mem_of_mem_drop (List.mem_of_mem_take hc))⟩
  rw [List.length_take, List.length_drop, hw.len]
  show min ((5 + x).toNat - 5) (26 - 5) = _
  omega
theorem names_run (n3 t k z : Int) (m : Nat) (hm : m ≤ 8) (w : Str) (ce : Rho → R AV) (f : Nat → Str) (hce : ∀ i : Nat, i < m → ce [.own true [.int n3], .d (.int m), .d (.str w), .d (.int t), .d (.int k), .d (.int z), .d (.int i)] = .ok (.d (.str (f i))) [.own true [.int n3], .d (.int m), .d (.str w), .d (.int t), .d (.int k), .d (.int z), .d (.int i)]) :
      lcRun (put 6) (fun ρ => R.ok true ρ) ce [6] (nums 0 m) [] [.own true [.int n3], .d (.int m), .d (.str w), .d (.int t), .d (.int k), .d (.int z), .no] = .ok (((List.range m).map f).map PyData.str) [.own true [.int n3], .d (.int m), .d (.str w), .d (.int t), .d (.int k), .d (.int z), .no] := by
  have := lc_map (h := put 6) (ft := fun ρ => R.ok true ρ) (fe := ce) (vs := [6]) (fun x => match x with | .int i => .str (f i.toNat) | x => x) (ρ := [.own true [.int n3], .d (.int m), .d (.str w), .d (.int t), .d (.int k), .d (.int z), .no]) (xs := nums 0 m) (acc := []) (fun x hx => by
    obtain ⟨i, hi, rfl⟩ := List.mem_map.mp hx
    have hi := List.mem_range.mp hi
    refine ⟨[.own true [.int n3], .d (.int m), .d (.str w), .d (.int t), .d (.int k), .d (.int z), .d (.int i)], _, [.own true [.int n3], .d (.int m), .d (.str w), .d (.int t), .d (.int k), .d (.int z), .d (.int i)], by simp [put_eq], rfl, ?_, by simp⟩
    rw [hce i hi]
    simp) (by simp [nums, sizeLine]; omega)
  rw [this, List.nil_append]
  unfold nums
  rw [List.map_map, List.map_map]
  congr 1
  exact List.map_congr_left fun i _ => by simp
theorem sl1 (c : Nat) : (⟨#[c]⟩ : Str).length = 1 := rfl
abbrev NamesR (n3 t k z : Int) (m : Nat) (w : Str) (ce : Rho → R AV) : Prop := ∃ ys : List Str, ys.length = m ∧ ys.Nodup ∧ (∀ y ∈ ys, nameL (tl y)) ∧
  lcRun (put 6) (fun ρ => R.ok true ρ) ce [6] (nums 0 m) [] [.own true [.int n3], .d (.int m), .d (.str w), .d (.int t), .d (.int k), .d (.int z), .no] = .ok (ys.map PyData.str) [.own true [.int n3], .d (.int m), .d (.str w), .d (.int t), .d (.int k), .d (.int z), .no]
theorem names0 (n3 t k z : Int) (z0 : 0 ≤ z) (z1 : z < 8) (m : Nat) (hm : m ≤ 8) {w : Str} (hw : Turned w) : NamesR n3 t k z m w ce__law_names_0 := by
  have wl : w.length = 26 := by rw [len_tl]; exact hw.len
  have wz : w.length ≤ 16777216 := by omega
  have r := names_run n3 t k z m hm w ce__law_names_0 (fun i => Txt.mul (sg1 (gW w 0)) (1 + (z + (i : Int)) % 8)) (fun i hi => by
    have w0' : atI w.cps.toList 0 = some (gW w 0) := hw.at (i := 0) (by omega)
    have g1 : (0 : Int) ≤ 1 + (z + (i : Int)) % 8 := by omega
    have g2 : 1 + (z + (i : Int)) % 8 ≤ 1000 := by omega
    simp [ce__law_names_0, wz, sizeLine, w0', g1, g2, sl1])
  have tlm : ∀ i : Nat, tl (Txt.mul (sg1 (gW w 0)) (1 + (z + (i : Int)) % 8)) = List.replicate (1 + (z + (i : Int)) % 8).toNat (gW w 0) := fun i => PyProof.Rows.mul_one_list _ _
  refine ⟨_, ?_, nodup_range (m := m) (f := fun i => Txt.mul (sg1 (gW w 0)) (1 + (z + (i : Int)) % 8)) ?_, ?_, r⟩
  · simp
  · intro i j hij hj e
    have := congrArg (fun s => (tl s).length) e
    simp only [tlm, List.length_replicate] at this
    omega
  · intro y hy
    obtain ⟨i, hi, rfl⟩ := List.mem_map.mp hy
    have hi := List.mem_range.mp hi
    rw [tlm]
    refine ⟨by rw [List.length_replicate]; omega, by rw [List.length_replicate]; omega, fun c hc => ?_⟩
    rw [(List.mem_replicate.mp hc).2]
    exact hw.letter (by omega)
theorem names1 (n3 t k z : Int) (z0 : 0 ≤ z) (z1 : z < 8) (m : Nat) (hm : m ≤ 8) {w : Str} (hw : Turned w) : NamesR n3 t k z m w ce__law_names_1 := by
  have wl : w.length = 26 := by rw [len_tl]; exact hw.len
  have wz : w.length ≤ 16777216 := by omega
  have xx : ∀ i : Nat, (0 : Int) ≤ (z + 3 * (i : Int)) % 8 ∧ (z + 3 * (i : Int)) % 8 ≤ 7 := fun i => by omega
  have r := names_run n3 t k z m hm w ce__law_names_1 (fun i => sg1 (gW w i) ++ cutS w (some 5) (some (5 + (z + 3 * (i : Int)) % 8))) (fun i hi => by
    have w0 := hw.at (i := i) (by omega)
    have m3 : mulOk 3 (i : Int) = true := by
      have : Dt.bits (3 : Int) ≤ 64 := bits_le (by decide)
      simp [mulOk, this]
    have g' : 1 + (cutS w (some 5) (some (5 + (z + 3 * (i : Int)) % 8))).length ≤ 16777216 := by
      have := cutS_length w (some 5) (some (5 + (z + 3 * (i : Int)) % 8))
      omega
    simp [ce__law_names_1, wz, sizeLine, w0, m3, sl1, g'])
  refine ⟨_, ?_, nodup_range (m := m) (f := fun i => sg1 (gW w i) ++ cutS w (some 5) (some (5 + (z + 3 * (i : Int)) % 8))) ?_, ?_, r⟩
  · simp
  · intro i j hij hj e
    have := congrArg tl e
    rw [tl_append, tl_append] at this
    exact hw.inj hij (by omega) (List.cons.inj this).1
  · intro y hy
    obtain ⟨i, hi, rfl⟩ := List.mem_map.mp hy
    have hi := List.mem_range.mp hi
    obtain ⟨q1, q2⟩ := hw.mid (xx i).1 (xx i).2
    have := xx i
    rw [tl_append]
    refine ⟨by rw [List.length_append]; show 1 ≤ 1 + _; omega, by rw [List.length_append, q1]; show 1 + _ ≤ 8; omega, fun c hc => ?_⟩
    rcases List.mem_append.mp hc with hc | hc
    · rw [List.mem_singleton.mp hc]; exact hw.letter (by omega)
    · exact q2 c hc
theorem names2 (n3 t k z : Int) (z0 : 0 ≤ z) (z1 : z < 8) (m : Nat) (hm : m ≤ 8) {w : Str} (hw : Turned w) : NamesR n3 t k z m w ce__law_names_2 := by
  have wl : w.length = 26 := by rw [len_tl]; exact hw.len
  have wz : w.length ≤ 16777216 := by omega
  have r := names_run n3 t k z m hm w ce__law_names_2 (fun i => cutS w (some 5) (some (5 + z)) ++ sg1 (gW w i)) (fun i hi => by
    have w0 := hw.at (i := i) (by omega)
    have g' : (cutS w (some 5) (some (5 + z))).length + 1 ≤ 16777216 := by
      have := cutS_length w (some 5) (some (5 + z))
      omega
    simp [ce__law_names_2, wz, sizeLine, w0, sl1, g'])
  refine ⟨_, ?_, nodup_range (m := m) (f := fun i => cutS w (some 5) (some (5 + z)) ++ sg1 (gW w i)) ?_, ?_, r⟩
  · simp
  · intro i j hij hj e
    have := congrArg tl e
    rw [tl_append, tl_append] at this
    exact hw.inj hij (by omega) (List.cons.inj (List.append_cancel_left this)).1
  · intro y hy
    obtain ⟨i, hi, rfl⟩ := List.mem_map.mp hy
    have hi := List.mem_range.mp hi
    obtain ⟨q1, q2⟩ := hw.mid z0 (by omega)
    rw [tl_append]
    refine ⟨by rw [List.length_append]; show 1 ≤ _ + 1; omega, by rw [List.length_append, q1]; show _ + 1 ≤ 8; omega, fun c hc => ?_⟩
    rcases List.mem_append.mp hc with hc | hc
    · exact q2 c hc
    · rw [List.mem_singleton.mp hc]; exact hw.letter (by omega)
theorem seq3 {A B C T : Rho → R Fl} {ρ ρ' : Rho} (h : fSeq A (fSeq B C) ρ = .ok .nx ρ') : fSeq A (fSeq B (fSeq C T)) ρ = T ρ' := by
  simp only [fSeq_ap] at h ⊢
  cases eA : A ρ with
  | bad => rw [eA] at h; cases h
  | ex e r => rw [eA] at h; cases h
  | ok f r =>
    rw [eA] at h
    cases f with
    | nx =>
      simp only at h ⊢
      cases eB : B r with
      | bad => rw [eB] at h; cases h
      | ex e r => rw [eB] at h; cases h
      | ok f r2 =>
        rw [eB] at h
        cases f with
        | nx => simp only at h ⊢; rw [h]
        | _ => cases h
    | _ => cases h
theorem abc26 : abc.length = 26 := by decide +kernel
def nmHead : Rho → R Fl := (fSeq (fAsg (fC (.str abc)) (put 2)) (fSeq (fAsg (fCallP 1 0 m__law_take (fCons (fC (.int 26)) fNil)) (put 3)) (fAsg (f2 addD (fSl slD (fVar 2) (fPart (fVar 3)) fNoPart) (fSl slD (fVar 2) fNoPart (fPart (fVar 3)))) (put 2))))
def nmTail : Rho → R Fl := (fSeq (fAsg (fCallP 1 0 m__law_take (fCons (fC (.int 3)) fNil)) (put 4))
  (fSeq (fAsg (fCallP 1 0 m__law_take (fCons (fC (.int 8)) fNil)) (put 5))
  (fSeq (fIfS (fTest (f2 eqD (fVar 4) (fC (.int 0)))) (fRetL (fLc (fRng1 (fCons (fVar 1) fNil)) (put 6) (fun ρ => .ok true ρ) ce__law_names_0 [6])) fNx)
  (fSeq (fIfS (fTest (f2 eqD (fVar 4) (fC (.int 1)))) (fRetL (fLc (fRng1 (fCons (fVar 1) fNil)) (put 6) (fun ρ => .ok true ρ) ce__law_names_1 [6])) fNx)
  (fRetL (fLc (fRng1 (fCons (fVar 1) fNil)) (put 6) (fun ρ => .ok true ρ) ce__law_names_2 [6]))))))
theorem nm_head (n : Int) (m : Nat) : ∃ (w : Str) (n1 t : Int), Turned w ∧ nmHead [.own true [.int n], .d (.int m), .no, .no, .no, .no, .no] = .ok .nx [.own true [.int n1], .d (.int m), .d (.str w), .d (.int t), .no, .no, .no] := by
  obtain ⟨t, n1, t0, t1, e1⟩ := take_ex n 26 (by omega) (by omega)
  have hw := turned t0 t1
  have az := abc_z
  have ac : (cutS abc (some t) none).length + (cutS abc none (some t)).length ≤ 16777216 := by
    have h1 := cutS_length abc (some t) none
    have h2 := cutS_length abc none (some t)
    rw [abc26] at h1 h2
    omega
  refine ⟨_, n1, t, hw, ?_⟩
  generalize hW : cutS abc (some t) none ++ cutS abc none (some t) = w
  simp [nmHead, put_eq, e1, az, ac, hW, sizeLine]
theorem nm_b0 {n1 n2 n3 t z M : Int} {w : Str} {L : List Pd} (e2 : m__law_take [.own true [.int n1], .d (.int 3)] = .ok (.d (.int 0)) [.own true [.int n2], .d (.int 3)]) (e3 : m__law_take [.own true [.int n2], .d (.int 8)] = .ok (.d (.int z)) [.own true [.int n3], .d (.int 8)])
    (h1 : -4611686018427387904 ≤ M) (h2 : M < 4611686018427387904)
    (r : lcRun (put 6) (fun ρ => R.ok true ρ) ce__law_names_0 [6] (nums 0 M.toNat) [] [.own true [.int n3], .d (.int M), .d (.str w), .d (.int t), .d (.int 0), .d (.int z), .no] = .ok L [.own true [.int n3], .d (.int M), .d (.str w), .d (.int t), .d (.int 0), .d (.int z), .no]) :
    nmTail [.own true [.int n1], .d (.int M), .d (.str w), .d (.int t), .no, .no, .no] = .ok (.rl L) [.own true [.int n3], .d (.int M), .d (.str w), .d (.int t), .d (.int 0), .d (.int z), .no] := by
  simp [nmTail, put_eq, e2, e3, h1, h2, r]
theorem nm_b1 {n1 n2 n3 t z M : Int} {w : Str} {L : List Pd} (e2 : m__law_take [.own true [.int n1], .d (.int 3)] = .ok (.d (.int 1)) [.own true [.int n2], .d (.int 3)]) (e3 : m__law_take [.own true [.int n2], .d (.int 8)] = .ok (.d (.int z)) [.own true [.int n3], .d (.int 8)])
    (h1 : -4611686018427387904 ≤ M) (h2 : M < 4611686018427387904)
    (r : lcRun (put 6) (fun ρ => R.ok true ρ) ce__law_names_1 [6] (nums 0 M.toNat) [] [.own true [.int n3], .d (.int M), .d (.str w), .d (.int t), .d (.int 1), .d (.int z), .no] = .ok L [.own true [.int n3], .d (.int M), .d (.str w), .d (.int t), .d (.int 1), .d (.int z), .no]) :
    nmTail [.own true [.int n1], .d (.int M), .d (.str w), .d (.int t), .no, .no, .no] = .ok (.rl L) [.own true [.int n3], .d (.int M), .d (.str w), .d (.int t), .d (.int 1), .d (.int z), .no] := by
  simp [nmTail, put_eq, e2, e3, h1, h2, r]
theorem nm_b2 {n1 n2 n3 t z M : Int} {w : Str} {L : List Pd} (e2 : m__law_take [.own true [.int n1], .d (.int 3)] = .ok (.d (.int 2)) [.own true [.int n2], .d (.int 3)]) (e3 : m__law_take [.own true [.int n2], .d (.int 8)] = .ok (.d (.int z)) [.own true [.int n3], .d (.int 8)])
    (h1 : -4611686018427387904 ≤ M) (h2 : M < 4611686018427387904)
    (r : lcRun (put 6) (fun ρ => R.ok true ρ) ce__law_names_2 [6] (nums 0 M.toNat) [] [.own true [.int n3], .d (.int M), .d (.str w), .d (.int t), .d (.int 2), .d (.int z), .no] = .ok L [.own true [.int n3], .d (.int M), .d (.str w), .d (.int t), .d (.int 2), .d (.int z), .no]) :
    nmTail [.own true [.int n1], .d (.int M), .d (.str w), .d (.int t), .no, .no, .no] = .ok (.rl L) [.own true [.int n3], .d (.int M), .d (.str w), .d (.int t), .d (.int 2), .d (.int z), .no] := by
  simp [nmTail, put_eq, e2, e3, h1, h2, r]
theorem nm_tail (n1 t : Int) (m : Nat) (hm : m ≤ 8) {w : Str} (hw : Turned w) : ∃ (ys : List Str) (n' k z : Int), ys.length = m ∧ ys.Nodup ∧ (∀ y ∈ ys, nameL (tl y)) ∧
    nmTail [.own true [.int n1], .d (.int m), .d (.str w), .d (.int t), .no, .no, .no] = .ok (.rl (ys.map PyData.str)) [.own true [.int n'], .d (.int m), .d (.str w), .d (.int t), .d (.int k), .d (.int z), .no] := by
  obtain ⟨k, n2, k0, k1, e2⟩ := take_ex n1 3 (by omega) (by omega)
  obtain ⟨z, n3, z0, z1, e3⟩ := take_ex n2 8 (by omega) (by omega)
  have hr : (-4611686018427387904 : Int) ≤ m ∧ (m : Int) < 4611686018427387904 := by omega
  have hk : k = 0 ∨ k = 1 ∨ k = 2 := by omega
  have em : ((m : Int)).toNat = m := Int.toNat_natCast m
  rcases hk with rfl | rfl | rfl
  · obtain ⟨ys, h1, h2, h3, r⟩ := names0 n3 t 0 z z0 z1 m hm hw
    exact ⟨ys, n3, 0, z, h1, h2, h3, nm_b0 e2 e3 hr.1 hr.2 (by rw [em]; exact r)⟩
  · obtain ⟨ys, h1, h2, h3, r⟩ := names1 n3 t 1 z z0 z1 m hm hw
    exact ⟨ys, n3, 1, z, h1, h2, h3, nm_b1 e2 e3 hr.1 hr.2 (by rw [em]; exact r)⟩
  · obtain ⟨ys, h1, h2, h3, r⟩ := names2 n3 t 2 z z0 z1 m hm hw
    exact ⟨ys, n3, 2, z, h1, h2, h3, nm_b2 e2 e3 hr.1 hr.2 (by rw [em]; exact r)⟩
theorem m_names (n : Int) (m : Nat) (hm : m ≤ 8) : ∃ (ys : List Str) (n' : Int), ys.length = m ∧ ys.Nodup ∧ (∀ y ∈ ys, nameL (tl y)) ∧
    m__law_names [.own true [.int n], .d (.int m)] = .ok (.l (ys.map PyData.str)) [.own true [.int n'], .d (.int m)] := by
  obtain ⟨w, n1, t, hw, s1⟩ := nm_head n m
  obtain ⟨ys, n', k, z, h1, h2, h3, s2⟩ := nm_tail n1 t m hm hw
  refine ⟨ys, n', h1, h2, h3, ?_⟩
  have e : w__law_names [.own true [.int n], .d (.int m), .no, .no, .no, .no, .no] = .ok (.rl (ys.map PyData.str)) [.own true [.int n'], .d (.int m), .d (.str w), .d (.int t), .d (.int k), .d (.int z), .no] := (seq3 (T := nmTail) s1).trans s2
  show endF _ (w__law_names [.own true [.int n], .d (.int m), .no, .no, .no, .no, .no]) = _
  rw [e]
  rfl
end Lw
namespace Lw
open PySem PySem.Spec L2 Evl Dt
open TL (tl joinL tl_join tl_ofString join_eq tl_append len_tl)
/-! ### sets, patterns, codes -/
structure SgOk (s : Str) : Prop where
  l1 : 1 ≤ (tl s).length
  l3 : (tl s).length ≤ 3
  let' : ∀ c ∈ tl s, 97 ≤ c ∧ c ≤ 122
  ris : (tl s).Pairwise (· < ·)
/-- a set of signs out of a text -/
def SetOf (s : Str) (a : Str) : Prop := tl a ≠ [] ∧ (tl a).Sublist (tl s)
inductive KindOk (s : Str) : List Str → Prop
  | sign {a} (h : SetOf s a) : KindOk s [S "sign", a]
  | drop {a} (h : SetOf s a) : KindOk s [S "drop", a]
  | add {a} (h : SetOf s a) : KindOk s [S "add", a]
  | change {a b} (h : SetOf s a) (g : SetOf s b) : KindOk s [S "change", a, b]
  | beside {a b} (h : SetOf (S "#" ++ s) a) (g : SetOf (S "#" ++ s) b) : KindOk s [S "beside", a, b]
structure Pat where
  k : List Str
  t : Int
def Pat.d (p : Pat) : Pd := .tuple [.tuple (p.k.map PyData.str), .int p.t]
structure Pat.Ok (s : Str) (p : Pat) : Prop where
  k : KindOk s p.k
  t1 : 1 ≤ p.t
  t3 : p.t ≤ 3
structure Wish where
  n : Str
  ps : List Pat
def Wish.d (w : Wish) : Pd := .tuple [.str w.n, .tuple (w.ps.map Pat.d)]
structure Wish.Ok (s : Str) (w : Wish) : Prop where
  n : nameL (tl w.n)
  l1 : 1 ≤ w.ps.length
  l3 : w.ps.length ≤ 3
  ps : ∀ p ∈ w.ps, p.Ok s
structure Code where
  s : Str
  ws : List Wish
def Code.d (c : Code) : Pd := .tuple [.str c.s, .tuple (c.ws.map Wish.d)]
structure Code.Ok (m : Nat) (c : Code) : Prop where
  s : SgOk c.s
  l1 : 1 ≤ c.ws.length
  lm : c.ws.length ≤ m
  nd : (c.ws.map Wish.n).Nodup
  ws : ∀ w ∈ c.ws, w.Ok c.s
theorem set_run (n N : Int) (s : Str) (h4 : (tl s).length ≤ 4) : ∃ cs : List Nat, cs.Sublist (tl s) ∧ (cs = [] → ∀ j : Nat, j < (tl s).length → N / 2 ^ j % 2 ≠ 1) ∧
    lcRun (put 3) ct__law_set_0 ce__law_set_0 [3] (nums 0 (tl s).length) [] [.own true [.int n], .d (.str s), .d (.int N), .no] = .ok (sgs cs) [.own true [.int n], .d (.str s), .d (.int N), .no] := by
  have hle : s.length ≤ 16777216 := by rw [len_tl]; omega
  have hlen : (nums 0 (tl s).length).length = (tl s).length := by simp [nums]
  have g1 : Nat.log2 1 < 9000 := by decide
  have g2 : Nat.log2 2 < 9000 := by decide
  have g4 : Nat.log2 4 < 9000 := by decide
  have g8 : Nat.log2 8 < 9000 := by decide
  obtain ⟨acc, ρ', key, cs, hsub, hne, rfl, rfl⟩ := lc_invF (h := put 3) (ft := ct__law_set_0) (fe := ce__law_set_0) (vs := [3]) (xs := nums 0 (tl s).length) (ρ := [.own true [.int n], .d (.str s), .d (.int N), .no])
    (fun i acc ρ => ∃ cs : List Nat, cs.Sublist ((tl s).take i) ∧ (cs = [] → ∀ j : Nat, j < i → N / 2 ^ j % 2 ≠ 1) ∧ acc = sgs cs ∧ ρ = [.own true [.int n], .d (.str s), .d (.int N), .no]) (fun i x acc ρ hx hI => by
      obtain ⟨cs, hsub, hne, rfl, rfl⟩ := hI
      have hi : i < (tl s).length := by
        have := (List.getElem?_eq_some_iff.mp hx).1
        omega
      have hx' : x = .int i := by
        unfold nums at hx
        rw [List.getElem?_map, List.getElem?_range hi] at hx
        simp at hx
        exact hx.symm
      subst hx'
      have ea : atI s.cps.toList (i : Int) = some (tl s)[i] := atI_nat (xs := tl s) hi
      have ht : (tl s).take (i + 1) = (tl s).take i ++ [(tl s)[i]] := (List.take_append_getElem hi).symm
      refine ⟨[.own true [.int n], .d (.str s), .d (.int N), .d (.int i)], [.own true [.int n], .d (.str s), .d (.int N), .d (.int i)], by simp [put_eq], ?_⟩
      have et : ct__law_set_0 [.own true [.int n], .d (.str s), .d (.int N), .d (.int i)] = .ok (decide (N / 2 ^ i % 2 = 1)) [.own true [.int n], .d (.str s), .d (.int N), .d (.int i)] := by
        have : i = 0 ∨ i = 1 ∨ i = 2 ∨ i = 3 := by omega
        rcases this with rfl | rfl | rfl | rfl <;> simp [ct__law_set_0, g1, g2, g4, g8]
      rw [et]
      by_cases hd : N / 2 ^ i % 2 = 1
      · refine .inr ⟨by rw [decide_eq_true hd], [.own true [.int n], .d (.str s), .d (.int N), .d (.int i)], .str (sg1 (tl s)[i]), by simp [ce__law_set_0, hle, sizeLine, ea], ?_, cs ++ [(tl s)[i]], ?_, ?_, sgs_app cs _, by simp⟩
        · have := hsub.length_le
          rw [List.length_take] at this
          rw [sgs_len]
          simp [sizeLine]
          omega
        · rw [ht]
          exact hsub.append (.refl _)
        · intro e
          simp at e
      · refine .inl ⟨by rw [decide_eq_false hd], cs, ?_, ?_, rfl, by simp⟩
        · rw [ht]
          exact hsub.trans (List.sublist_append_left _ _)
        · intro e j hj
          by_cases hji : j = i
          · rw [hji]; exact hd
          · exact hne e j (by omega)) ⟨[], by simp, fun _ j hj => by omega, rfl, rfl⟩
  rw [hlen] at hsub hne
  rw [List.take_length] at hsub
  exact ⟨cs, hsub, hne, key⟩
theorem m_set (n : Int) (s : Str) (h1 : 1 ≤ (tl s).length) (h4 : (tl s).length ≤ 4) :
    ∃ (cs : List Nat) (n' : Int), cs.Sublist (tl s) ∧ cs ≠ [] ∧ m__law_set [.own true [.int n], .d (.str s)] = .ok (.d (.str (ofL cs))) [.own true [.int n'], .d (.str s)] := by
  have hl := len_tl s
  have fin : ∀ top : Int, 0 < top → top < 1073741824 → top = 2 ^ (tl s).length - 1 → ∃ (cs : List Nat) (n' N : Int), cs.Sublist (tl s) ∧ cs ≠ [] ∧ m__law_take [.own true [.int n], .d (.int top)] = .ok (.d (.int N)) [.own true [.int n'], .d (.int top)] ∧
      lcRun (put 3) ct__law_set_0 ce__law_set_0 [3] (nums 0 (tl s).length) [] [.own true [.int n'], .d (.str s), .d (.int (1 + N)), .no] = .ok (sgs cs) [.own true [.int n'], .d (.str s), .d (.int (1 + N)), .no] ∧ joinD (.str (Str.ofString "")) [.list (sgs cs)] = some (.str (ofL cs)) := by
    intro top t0 t1 te
    obtain ⟨d, n1, d0, d1, e1⟩ := take_ex n top t0 t1
    obtain ⟨cs, hsub, hne, key⟩ := set_run n1 (1 + d) s h4
    refine ⟨cs, n1, d, hsub, ?_, e1, key, join_sgs cs (by have := hsub.length_le; omega)⟩
    intro e
    have hb := hne e
    have : (tl s).length = 1 ∨ (tl s).length = 2 ∨ (tl s).length = 3 ∨ (tl s).length = 4 := by omega
    rcases this with h | h | h | h <;> rw [h] at hb te <;> simp at te
    · have := hb 0 (by omega); simp at this; omega
    · have a := hb 0 (by omega); have b := hb 1 (by omega); simp at a b; omega
    · have a := hb 0 (by omega); have b := hb 1 (by omega); have c := hb 2 (by omega); simp at a b c; omega
    · have a := hb 0 (by omega); have b := hb 1 (by omega); have c := hb 2 (by omega); have d := hb 3 (by omega); simp at a b c d; omega
  have : (tl s).length = 1 ∨ (tl s).length = 2 ∨ (tl s).length = 3 ∨ (tl s).length = 4 := by omega
  rcases this with h | h | h | h
  · obtain ⟨cs, n', N, q1, q2, e1, key, hj⟩ := fin 1 (by omega) (by omega) (by rw [h]; rfl)
    rw [h] at hl key
    exact ⟨cs, n', q1, q2, by simp [m__law_set, gOf, w__law_set, put_eq, hl, sizeLine, e1, key, hj]⟩
  · obtain ⟨cs, n', N, q1, q2, e1, key, hj⟩ := fin 3 (by omega) (by omega) (by rw [h]; rfl)
    rw [h] at hl key
    exact ⟨cs, n', q1, q2, by simp [m__law_set, gOf, w__law_set, put_eq, hl, sizeLine, e1, key, hj]⟩
  · obtain ⟨cs, n', N, q1, q2, e1, key, hj⟩ := fin 7 (by omega) (by omega) (by rw [h]; rfl)
    rw [h] at hl key
    exact ⟨cs, n', q1, q2, by simp [m__law_set, gOf, w__law_set, put_eq, hl, sizeLine, e1, key, hj]⟩
  · obtain ⟨cs, n', N, q1, q2, e1, key, hj⟩ := fin 15 (by omega) (by omega) (by rw [h]; rfl)
    rw [h] at hl key
    exact ⟨cs, n', q1, q2, by simp [m__law_set, gOf, w__law_set, put_eq, hl, sizeLine, e1, key, hj]⟩
theorem m_pattern (n : Int) {s : Str} (hs : SgOk s) : ∃ (k : List Str) (n' : Int), KindOk s k ∧ m__law_pattern [.own true [.int n], .d (.str s)] = .ok (.d (.tuple (k.map PyData.str))) [.own true [.int n'], .d (.str s)] := by
  obtain ⟨d6, n1, g0, g1, e6⟩ := take_ex n 6 (by omega) (by omega)
  have hh : tl (S "#" ++ s) = 35 :: tl s := by
    rw [tl_append]
    have : tl (S "#") = [35] := by decide +kernel
    rw [this]
    rfl
  have l1 := hs.l1
  have l3 := hs.l3
  have hsz : 1 + s.length ≤ 16777216 := by rw [len_tl]; omega
  have h1l : (S "#").length = 1 := by decide +kernel
  have n1' : decide (S "sign" = S "beside") = false := by decide +kernel
  have n2 : decide (S "drop" = S "beside") = false := by decide +kernel
  have n3 : decide (S "add" = S "beside") = false := by decide +kernel
  have n4 : decide (S "change" = S "beside") = false := by decide +kernel
  have c1 : decide (S "sign" = S "change") = false := by decide +kernel
  have c2 : decide (S "drop" = S "change") = false := by decide +kernel
  have c3 : decide (S "add" = S "change") = false := by decide +kernel
  have h6 : d6 = 0 ∨ d6 = 1 ∨ d6 = 2 ∨ d6 = 3 ∨ d6 = 4 ∨ d6 = 5 := by omega
  obtain ⟨cs, m1, a1, a2, ea⟩ := m_set n1 s l1 (by omega)
  obtain ⟨cs', m2, b1, b2, eb⟩ := m_set m1 s l1 (by omega)
  obtain ⟨ds, m3, f1, f2, ef⟩ := m_set n1 (S "#" ++ s) (by rw [hh]; simp) (by rw [hh, List.length_cons]; omega)
  obtain ⟨ds', m4, u1, u2, eg⟩ := m_set m3 (S "#" ++ s) (by rw [hh]; simp) (by rw [hh, List.length_cons]; omega)
  rcases h6 with rfl | rfl | rfl | rfl | rfl | rfl
  · exact ⟨_, m1, .sign (a := ofL cs) ⟨a2, a1⟩, by simp [m__law_pattern, gOf, w__law_pattern, e6, put_eq, sizeLine, atI, ixN, n1', c1, ea]⟩
  · exact ⟨_, m1, .drop (a := ofL cs) ⟨a2, a1⟩, by simp [m__law_pattern, gOf, w__law_pattern, e6, put_eq, sizeLine, atI, ixN, n2, c2, ea]⟩
  · exact ⟨_, m1, .add (a := ofL cs) ⟨a2, a1⟩, by simp [m__law_pattern, gOf, w__law_pattern, e6, put_eq, sizeLine, atI, ixN, n3, c3, ea]⟩
  · exact ⟨_, m2, .change (a := ofL cs) (b := ofL cs') ⟨a2, a1⟩ ⟨b2, b1⟩, by simp [m__law_pattern, gOf, w__law_pattern, e6, put_eq, sizeLine, atI, ixN, n4, ea, eb]⟩
  · exact ⟨_, m4, .beside (a := ofL ds) (b := ofL ds') ⟨f2, f1⟩ ⟨u2, u1⟩, by simp [m__law_pattern, gOf, w__law_pattern, e6, put_eq, sizeLine, atI, ixN, h1l, hsz, ef, eg]⟩
  · exact ⟨_, m4, .beside (a := ofL ds) (b := ofL ds') ⟨f2, f1⟩ ⟨u2, u1⟩, by simp [m__law_pattern, gOf, w__law_pattern, e6, put_eq, sizeLine, atI, ixN, h1l, hsz, ef, eg]⟩
/-- the patterns of one wish -/
theorem code_pats (n : Int) {s : Str} (hs : SgOk s) (m : Nat) (hm : m ≤ 3) {s1 s3 s4 s5 s6 s8 s9 : Sl} (i8 : isIo s8 = false) : ∃ (n' : Int) (ps : List Pat) (t8 : Sl), isIo t8 = false ∧ ps.length = m ∧ (∀ t ∈ ps, t.Ok s) ∧
    forRun (put 8) fb__law_code_1 (nums 0 m) [.own true [.int n], s1, .d (.str s), s3, s4, s5, s6, .own false [], s8, s9] = .ok .nx [.own true [.int n'], s1, .d (.str s), s3, s4, s5, s6, .own false (ps.map Pat.d), t8, s9] := by
  have hlen : (nums 0 m).length = m := by simp [nums]
  have l4 : Nat.log2 4 < 9000 := by decide
  obtain ⟨ρ', e, n', ps, t8, h8, hpl, hok, rfl⟩ := for_inv (h := put 8) (fb := fb__law_code_1) (xs := nums 0 m) (ρ := [.own true [.int n], s1, .d (.str s), s3, s4, s5, s6, .own false [], s8, s9])
    (fun i ρ => ∃ (n' : Int) (ps : List Pat) (t8 : Sl), isIo t8 = false ∧ ps.length = i ∧ (∀ t ∈ ps, t.Ok s) ∧ ρ = [.own true [.int n'], s1, .d (.str s), s3, s4, s5, s6, .own false (ps.map Pat.d), t8, s9])
    (fun i x ρ hx hI => by
      obtain ⟨n', ps, t8, h8, hpl, hok, rfl⟩ := hI
      have hi : i < m := by
        have := (List.getElem?_eq_some_iff.mp hx).1
        omega
      obtain ⟨k, n2, hk, ek⟩ := m_pattern n' hs
      obtain ⟨d6, n3, d0, d1, ed⟩ := take_ex n2 6 (by omega) (by omega)
      refine ⟨[.own true [.int n'], s1, .d (.str s), s3, s4, s5, s6, .own false (ps.map Pat.d), .d x, s9], _, by simp [put_eq, h8], .inl ?_, n3, ps ++ [⟨k, 1 + d6 / 4⟩], .d x, rfl, by simp [hpl], ?_, rfl⟩
      · have hz : ps.length < 16777216 := by omega
        simp [fb__law_code_1, ek, ed, l4, sizeLine, hz, Pat.d]
      · intro t ht
        rcases List.mem_append.mp ht with ht | ht
        · exact hok t ht
        · rw [List.mem_singleton.mp ht]
          exact ⟨hk, by show 1 ≤ 1 + d6 / 4; omega, by show 1 + d6 / 4 ≤ 3; omega⟩)
    ⟨n, [], s8, i8, rfl, by simp, rfl⟩
  rw [hlen] at hpl
  exact ⟨n', ps, t8, h8, hpl, hok, e⟩
theorem code_turn (n : Int) {s : Str} (hs : SgOk s) (nm : Str) (hn : nameL (tl nm)) (ws : List Wish) (hw : ws.length ≤ 19) {s1 s3 s4 s7 s8 s9 : Sl} (i7 : isIo s7 = false) (i8 : isIo s8 = false) :
    ∃ (n' : Int) (w : Wish) (t7 t8 : Sl), w.Ok s ∧ w.n = nm ∧ isIo t7 = false ∧ isIo t8 = false ∧
      fb__law_code_0 [.own true [.int n], s1, .d (.str s), s3, s4, .own false (ws.map Wish.d), .d (.str nm), s7, s8, s9] =
        .ok .nx [.own true [.int n'], s1, .d (.str s), s3, s4, .own false ((ws ++ [w]).map Wish.d), .d (.str nm), t7, t8, s9] := by
  obtain ⟨d6, n1, d0, d1, ed⟩ := take_ex n 6 (by omega) (by omega)
  obtain ⟨n', ps, t8, h8, hpl, hok, e⟩ := code_pats n1 hs (1 + d6 / 3).toNat (by omega) (s1 := s1) (s3 := s3) (s4 := s4) (s5 := .own false (ws.map Wish.d)) (s6 := .d (.str nm)) (s9 := s9) i8
  refine ⟨n', ⟨nm, ps⟩, .own false (ps.map Pat.d), t8, ⟨hn, by show 1 ≤ ps.length; omega, by show ps.length ≤ 3; omega, hok⟩, rfl, rfl, h8, ?_⟩
  have l3 : Nat.log2 3 < 9000 := by decide
  have hr : (-4611686018427387904 : Int) ≤ 1 + d6 / 3 ∧ (1 + d6 / 3 : Int) < 4611686018427387904 := by omega
  have hz : ws.length < 16777216 := by omega
  simp [fb__law_code_0, putOwn_eq, i7, ed, l3, hr.1, hr.2, e, sizeLine, hz, Wish.d]
theorem neg1 (m : Nat) : (-1 + ((m : Int) + 1)).toNat = m := by omega
theorem atL {α : Type} (l : List α) (x : α) : atI (l ++ [x]) (-1) = some x := by
  unfold atI ixN
  rw [if_neg (by omega), if_pos (by simp; omega)]
  simp [neg1]
theorem ixL {α : Type} (l : List α) (x : α) : ixN (l ++ [x]).length (-1) = some l.length := by
  unfold ixN
  rw [if_neg (by omega), if_pos (by simp; omega)]
  simp [neg1]
theorem m_code (n : Int) (m : Nat) (h0 : 1 ≤ m) (h1 : m ≤ 5) : ∃ (c : Code) (n' : Int), c.Ok m ∧ m__law_code [.own true [.int n], .d (.int m)] = .ok (.d c.d) [.own true [.int n'], .d (.int m)] := by
  obtain ⟨d6, n1, d60, d61, e6⟩ := take_ex n 6 (by omega) (by omega)
  obtain ⟨dm, n2, dm0, dm1, em⟩ := take_ex n1 (m : Int) (by omega) (by omega)
  obtain ⟨ys, n3, hyl, hynd, hyn, en⟩ := m_names n2 (1 + dm).toNat (by omega)
  have hcast : (((1 + dm).toNat : Nat) : Int) = 1 + dm := by omega
  rw [hcast] at en
  obtain ⟨wh, n4, wh0, wh1, ew⟩ := take_ex n3 3 (by omega) (by omega)
  generalize hM : (m : Int) = M at *
  obtain ⟨s, hs, es⟩ : ∃ s, SgOk s ∧ atI [PyData.str (S "a"), .str (S "ab"), .str (S "ab"), .str (S "abc"), .str (S "mz"), .str (S "bxy")] d6 = some (.str s) := by
    have h6 : d6 = 0 ∨ d6 = 1 ∨ d6 = 2 ∨ d6 = 3 ∨ d6 = 4 ∨ d6 = 5 := by omega
    rcases h6 with rfl | rfl | rfl | rfl | rfl | rfl
    · exact ⟨S "a", ⟨by decide +kernel, by decide +kernel, by decide +kernel, by decide +kernel⟩, by simp [atI, ixN]⟩
    · exact ⟨S "ab", ⟨by decide +kernel, by decide +kernel, by decide +kernel, by decide +kernel⟩, by simp [atI, ixN]⟩
    · exact ⟨S "ab", ⟨by decide +kernel, by decide +kernel, by decide +kernel, by decide +kernel⟩, by simp [atI, ixN]⟩
    · exact ⟨S "abc", ⟨by decide +kernel, by decide +kernel, by decide +kernel, by decide +kernel⟩, by simp [atI, ixN]⟩
    · exact ⟨S "mz", ⟨by decide +kernel, by decide +kernel, by decide +kernel, by decide +kernel⟩, by simp [atI, ixN]⟩
    · exact ⟨S "bxy", ⟨by decide +kernel, by decide +kernel, by decide +kernel, by decide +kernel⟩, by simp [atI, ixN]⟩
  obtain ⟨ρ', ef, n5, ws, t6, t7, t8, hwn, hok, i6, i7, i8, rfl⟩ := for_inv (h := put 6) (fb := fb__law_code_0) (xs := ys.map PyData.str) (ρ := [.own true [.int n4], .d (.int M), .d (.str s), .d (.list (ys.map PyData.str)), .d (.int wh), .own false [], .no, .no, .no, .no])
    (fun i ρ => ∃ (n5 : Int) (ws : List Wish) (t6 t7 t8 : Sl), ws.map Wish.n = ys.take i ∧ (∀ w ∈ ws, w.Ok s) ∧ isIo t6 = false ∧ isIo t7 = false ∧ isIo t8 = false ∧
      ρ = [.own true [.int n5], .d (.int M), .d (.str s), .d (.list (ys.map PyData.str)), .d (.int wh), .own false (ws.map Wish.d), t6, t7, t8, .no])
    (fun i x ρ hx hI => by
      obtain ⟨n5, ws, t6, t7, t8, hwn, hok, i6, i7, i8, rfl⟩ := hI
      have hwl : ws.length = (ys.take i).length := by rw [← hwn, List.length_map]
      rw [List.length_take] at hwl
      rw [List.getElem?_map] at hx
      obtain ⟨nm, hx1, rfl⟩ := Option.map_eq_some_iff.mp hx
      obtain ⟨n6, w, u7, u8, hw, hwnm, j7, j8, e⟩ := code_turn n5 hs nm (hyn nm (List.mem_of_getElem? hx1)) ws (by omega) (s1 := .d (.int M)) (s3 := .d (.list (ys.map PyData.str))) (s4 := .d (.int wh)) (s9 := .no) i7 i8
      refine ⟨[.own true [.int n5], .d (.int M), .d (.str s), .d (.list (ys.map PyData.str)), .d (.int wh), .own false (ws.map Wish.d), .d (.str nm), t7, t8, .no], _, by simp [put_eq, i6], .inl e, n6, ws ++ [w], _, u7, u8, ?_, ?_, rfl, j7, j8, rfl⟩
      · rw [List.map_append, hwn, List.take_succ, hx1, List.map_cons, List.map_nil, hwnm]
        rfl
      · intro y hy
        rcases List.mem_append.mp hy with hy | hy
        · exact hok y hy
        · rw [List.mem_singleton.mp hy]; exact hw)
    ⟨n4, [], .no, .no, .no, by simp, by simp, rfl, rfl, rfl, rfl⟩
  rw [List.length_map, List.take_length] at hwn
  have hwl : ws.length = ys.length := by rw [← hwn, List.length_map]
  have hz6 : (ys.map PyData.str).length ≤ 16777216 := by rw [List.length_map]; omega
  by_cases hc : 0 < wh ∧ 1 < ws.length
  · obtain ⟨c1, c2⟩ := hc
    obtain ⟨ws0, wl, rfl⟩ : ∃ ws0 wl, ws = ws0 ++ [wl] := by
      refine ⟨ws.dropLast, ws.getLast (by intro h; rw [h] at c2; simp at c2), ?_⟩
      exact (List.dropLast_concat_getLast _).symm
    have hwlk := hok wl (by simp)
    have sub : ∀ a : Str, SetOf a a ↔ tl a ≠ [] := fun a => ⟨fun h => h.1, fun h => ⟨h, .refl _⟩⟩
    have hss : SetOf s s := (sub s).mpr (by have := hs.l1; intro e; rw [e] at this; simp at this)
    have hwh : wh = 1 ∨ wh = 2 := by omega
    have little : ∃ ps : List Pat, (1 ≤ ps.length ∧ ps.length ≤ 3 ∧ ∀ p ∈ ps, p.Ok s) ∧ cutD [PyData.tuple [.tuple [.str (S "drop"), .str s], .int 1], .tuple [.tuple [.str (S "add"), .str s], .int 1], .tuple [.tuple [.str (S "change"), .str s, .str s], .int 1]] none (some (wh + 1)) = ps.map Pat.d := by
      have a1 : Pat.Ok s ⟨[S "drop", s], 1⟩ := ⟨.drop hss, by simp, by simp⟩
      have a2 : Pat.Ok s ⟨[S "add", s], 1⟩ := ⟨.add hss, by simp, by simp⟩
      have a3 : Pat.Ok s ⟨[S "change", s, s], 1⟩ := ⟨.change hss hss, by simp, by simp⟩
      rcases hwh with rfl | rfl
      · exact ⟨[⟨[S "drop", s], 1⟩, ⟨[S "add", s], 1⟩], ⟨by simp, by simp, by simp [a1, a2]⟩, rfl⟩
      · exact ⟨[⟨[S "drop", s], 1⟩, ⟨[S "add", s], 1⟩, ⟨[S "change", s, s], 1⟩], ⟨by simp, by simp, by simp [a1, a2, a3]⟩, rfl⟩
    obtain ⟨ps, ⟨hp1, hp3, hpo⟩, el⟩ := little
    refine ⟨⟨s, ws0 ++ [⟨wl.n, ps⟩]⟩, n5, ⟨hs, by simp, ?_, ?_, ?_⟩, ?_⟩
    · simp at hwl ⊢
      omega
    · have : (ws0 ++ [Wish.mk wl.n ps]).map Wish.n = ys := by rw [← hwn]; simp
      show ((ws0 ++ [Wish.mk wl.n ps]).map Wish.n).Nodup
      rw [this]
      exact hynd
    · intro w hw
      rcases List.mem_append.mp hw with hw | hw
      · exact hok w (by simp [hw])
      · rw [List.mem_singleton.mp hw]
        exact ⟨hwlk.n, hp1, hp3, hpo⟩
    · have c2' : 1 < ws0.length + 1 := by simpa using c2
      have a1 := atL (ws0.map Wish.d) wl.d
      have a2 := ixL (ws0.map Wish.d) wl.d
      have a3 : wl.d = .tuple [.str wl.n, .tuple (wl.ps.map Pat.d)] := rfl
      have st : (ws0.map Wish.d ++ [wl.d]).set ws0.length (.tuple [.str wl.n, .tuple (ps.map Pat.d)]) = ws0.map Wish.d ++ [.tuple [.str wl.n, .tuple (ps.map Pat.d)]] := by
        rw [← List.length_map (f := Wish.d) (as := ws0)]
        simp
      have hL : [PyData.str (S "a"), .str (S "ab"), .str (S "ab"), .str (S "abc"), .str (S "mz"), .str (S "bxy")].length ≤ 16777216 := by simp
      rw [List.map_append, List.map_cons, List.map_nil] at ef
      rw [a3] at ef a1 a2 st
      rw [List.length_append, List.length_map, List.length_singleton] at a2
      have c3 : (1 : Int) < (ws0.length : Int) + 1 := by omega
      simp [m__law_code, gOf, w__law_code, put_eq, putOwn_eq, sizeLine, e6, es, em, en, ew, ef, c1, c3, a1, a2, el, st, at0, Code.d, Wish.d]
  · have hb : ¬ (0 < wh) ∨ ¬ (1 < ws.length) := by omega
    refine ⟨⟨s, ws⟩, n5, ⟨hs, by show 1 ≤ ws.length; omega, by show ws.length ≤ m; omega, by show (ws.map Wish.n).Nodup; rw [hwn]; exact hynd, hok⟩, ?_⟩
    rcases hb with hb | hb
    · simp [m__law_code, gOf, w__law_code, put_eq, putOwn_eq, sizeLine, e6, es, em, en, ew, ef, hb, Code.d]
    · by_cases hb2 : 0 < wh
      · have hb3 : ¬ ((1 : Int) < (ws.length : Int)) := by omega
        simp [m__law_code, gOf, w__law_code, put_eq, putOwn_eq, sizeLine, e6, es, em, en, ew, ef, hb3, hb2, Code.d]
      · simp [m__law_code, gOf, w__law_code, put_eq, putOwn_eq, sizeLine, e6, es, em, en, ew, ef, hb2, Code.d]
end Lw
namespace Lw
open PySem PySem.Spec L2 Evl Dt
open TL (tl joinL tl_join tl_ofString join_eq tl_append len_tl)
/-! ### words and tellings -/
theorem m_lword (n : Int) {s : Str} (hs : SgOk s) (m : Int) (h0 : 0 ≤ m) (h1 : m ≤ 50) : ∃ (cs : List Nat) (n' : Int), (cs.length : Int) ≤ m ∧ (∀ c ∈ cs, c ∈ tl s) ∧
    m__law_word [.own true [.int n], .d (.str s), .d (.int m)] = .ok (.d (.str (ofL cs))) [.own true [.int n'], .d (.str s), .d (.int m)] := by
  obtain ⟨d, n1, g0, g1, e1⟩ := take_ex n (m + 1) (by omega) (by omega)
  have hlen : (nums 0 d.toNat).length = d.toNat := by simp [nums]
  have l1 := hs.l1
  have l3 := hs.l3
  have hsl := len_tl s
  have hz : s.length ≤ 16777216 := by omega
  obtain ⟨acc, ρ', key1, n2, cs, rfl, rfl, hly, hys⟩ := lc_inv0 (h := put 3) (ft := fun ρ => R.ok true ρ) (fe := ce__law_word_0) (vs := [3]) (xs := nums 0 d.toNat) (ρ := [.own true [.int n1], .d (.str s), .d (.int m), .no])
    (fun i acc ρ => ∃ (n2 : Int) (cs : List Nat), ρ = [.own true [.int n2], .d (.str s), .d (.int m), .no] ∧ acc = sgs cs ∧ cs.length = i ∧ ∀ c ∈ cs, c ∈ tl s)
    ⟨n1, [], rfl, rfl, rfl, by simp⟩ (fun i x acc ρ hx hI => by
      obtain ⟨n2, cs, rfl, rfl, hl, hys⟩ := hI
      have hi : i < d.toNat := by
        have := (List.getElem?_eq_some_iff.mp hx).1
        omega
      obtain ⟨d', n3, d0, d1, ed⟩ := take_ex n2 (s.length : Int) (by omega) (by omega)
      obtain ⟨c, ec, hc⟩ := atI_some (xs := tl s) d0 (by omega)
      have ec' : atI s.cps.toList d' = some c := ec
      refine ⟨[.own true [.int n2], .d (.str s), .d (.int m), .d x], _, [.own true [.int n3], .d (.str s), .d (.int m), .d x], .str (sg1 c), by simp [put_eq], rfl, ?_, by simp [sgs_len, hl, sizeLine]; omega, n3, cs ++ [c], by simp, sgs_app cs c, by simp [hl], fun y hy => ?_⟩
      · simp [ce__law_word_0, hz, sizeLine, ed, ec']
      · rcases List.mem_append.mp hy with hy | hy
        · exact hys y hy
        · rw [List.mem_singleton.mp hy]; exact hc)
  rw [hlen] at hly
  have hj : joinD (.str (Str.ofString "")) [.list (sgs cs)] = some (.str (ofL cs)) := join_sgs cs (by omega)
  refine ⟨cs, n2, by omega, hys, ?_⟩
  have hr : (-4611686018427387904 : Int) ≤ d ∧ (d : Int) < 4611686018427387904 := by omega
  simp [m__law_word, gOf, w__law_word, put_eq, e1, hr.1, hr.2, key1, hj]
/-- a step: the signs told and the signs said -/
structure Stp where
  a : List Nat
  b : List Nat
def Stp.d (t : Stp) : Pd := .tuple [.str (ofL t.a), .str (ofL t.b)]
structure Stp.Ok (s : Str) (t : Stp) : Prop where
  a1 : t.a.length ≤ 1
  b1 : t.b.length ≤ 1
  ne : t.a ++ t.b ≠ []
  ina : ∀ c ∈ t.a, c ∈ tl s
  inb : ∀ c ∈ t.b, c ∈ tl s
theorem ofL_nil : ofL [] = S "" := rfl
theorem tel_add (n : Int) {s : Str} (hs : SgOk s) (ts : List Stp) (hts : ts.length ≤ 1000) (m : Nat) (hm : m ≤ 1) {s2 s4 s5 : Sl} (i5 : isIo s5 = false) : ∃ (n' : Int) (us : List Stp) (t5 : Sl), isIo t5 = false ∧ us.length = m ∧ (∀ t ∈ us, t.Ok s ∧ t.a = []) ∧
    forRun (put 5) fb__law_telling_1 (nums 0 m) [.own true [.int n], .d (.str s), s2, .own false (ts.map Stp.d), s4, s5] = .ok .nx [.own true [.int n'], .d (.str s), s2, .own false ((ts ++ us).map Stp.d), s4, t5] := by
  have hlen : (nums 0 m).length = m := by simp [nums]
  have l1 := hs.l1
  have l3 := hs.l3
  have hsl := len_tl s
  have hz : s.length ≤ 16777216 := by omega
  obtain ⟨ρ', e, n', us, t5, h5, hul, hok, rfl⟩ := for_inv (h := put 5) (fb := fb__law_telling_1) (xs := nums 0 m) (ρ := [.own true [.int n], .d (.str s), s2, .own false (ts.map Stp.d), s4, s5])
    (fun i ρ => ∃ (n' : Int) (us : List Stp) (t5 : Sl), isIo t5 = false ∧ us.length = i ∧ (∀ t ∈ us, t.Ok s ∧ t.a = []) ∧ ρ = [.own true [.int n'], .d (.str s), s2, .own false ((ts ++ us).map Stp.d), s4, t5])
    (fun i x ρ hx hI => by
      obtain ⟨n', us, t5, h5, hul, hok, rfl⟩ := hI
      have hi : i < m := by
        have := (List.getElem?_eq_some_iff.mp hx).1
        omega
      obtain ⟨d', n3, d0, d1, ed⟩ := take_ex n' (s.length : Int) (by omega) (by omega)
      obtain ⟨c, ec, hc⟩ := atI_some (xs := tl s) d0 (by omega)
      have ec' : atI s.cps.toList d' = some c := ec
      refine ⟨[.own true [.int n'], .d (.str s), s2, .own false ((ts ++ us).map Stp.d), s4, .d x], _, by simp [put_eq, h5], .inl ?_, n3, us ++ [⟨[], [c]⟩], .d x, rfl, by simp [hul], ?_, rfl⟩
      · have hz2 : ts.length + us.length < 16777216 := by omega
        have e1 : Stp.d ⟨[], [c]⟩ = .tuple [.str (S ""), .str (sg1 c)] := rfl
        simp [fb__law_telling_1, hz, sizeLine, ed, ec', hz2, e1]
      · intro t ht
        rcases List.mem_append.mp ht with ht | ht
        · exact hok t ht
        · rw [List.mem_singleton.mp ht]
          exact ⟨⟨by simp, by simp, by simp, by simp, by simpa using hc⟩, rfl⟩)
    ⟨n, [], s5, i5, rfl, by simp, by simp⟩
  rw [hlen] at hul
  exact ⟨n', us, t5, h5, hul, hok, e⟩
theorem chars_sgs (s : Str) : chars s = sgs (tl s) := chars_eq s
theorem tel_at {s : Str} {c : Nat} {d : Int} (h0 : 0 ≤ d) (h1 : d < s.length + 2) : ∃ b : List Nat, b.length ≤ 1 ∧ (∀ x ∈ b, x = c ∨ x ∈ tl s) ∧ atI (PyData.str (sg1 c) :: (chars s ++ [.str (S "")])) d = some (.str (ofL b)) := by
  have e : PyData.str (sg1 c) :: (chars s ++ [.str (S "")]) = ([c] :: ((tl s).map fun x => [x]) ++ [[]]).map fun b => PyData.str (ofL b) := by
    rw [chars_sgs]
    unfold sgs
    simp
    exact ⟨rfl, fun _ _ => rfl, rfl⟩
  obtain ⟨b, eb, hb⟩ := atI_some (xs := [c] :: ((tl s).map fun x => [x]) ++ [[]]) h0 (by rw [len_tl] at h1; simp at h1 ⊢; omega)
  refine ⟨b, ?_, ?_, ?_⟩
  · simp at hb
    rcases hb with rfl | ⟨x, _, rfl⟩ | rfl <;> simp
  · simp at hb
    rcases hb with rfl | ⟨x, hx, rfl⟩ | rfl
    · simp
    · intro y hy
      rw [List.mem_singleton.mp hy]
      exact .inr (by simpa using hx)
    · simp
  · rw [e, atI_map, eb]
    rfl
theorem tel_turn (n : Int) {s : Str} (hs : SgOk s) (ts : List Stp) (hts : ts.length ≤ 900) (x : List Nat) (hx : x.length ≤ 1) (hxs : ∀ c ∈ x, c ∈ tl s) {s2 s5 : Sl} (i5 : isIo s5 = false) : ∃ (n' : Int) (us : List Stp) (t5 : Sl), isIo t5 = false ∧ us.length ≤ 1 + x.length ∧ (∀ t ∈ us, t.Ok s) ∧ us.flatMap Stp.a = x ∧
    fb__law_telling_0 [.own true [.int n], .d (.str s), s2, .own false (ts.map Stp.d), .d (.str (ofL x)), s5] = .ok .nx [.own true [.int n'], .d (.str s), s2, .own false ((ts ++ us).map Stp.d), .d (.str (ofL x)), t5] := by
  have l1 := hs.l1
  have l3 := hs.l3
  have hsl := len_tl s
  have hz : s.length ≤ 16777216 := by omega
  obtain ⟨d4, n1, d0, d1, e4⟩ := take_ex n 4 (by omega) (by omega)
  obtain ⟨n2, us, t5, h5, hul, hok, e⟩ := tel_add n1 hs ts (by omega) (d4 / 2).toNat (by omega) (s2 := s2) (s4 := .d (.str (ofL x))) i5
  have hfa : us.flatMap Stp.a = [] := by
    rw [List.flatMap_eq_nil_iff]
    exact fun t ht => (hok t ht).2
  have l2 : Nat.log2 2 < 9000 := by decide
  have hr : (-4611686018427387904 : Int) ≤ d4 / 2 ∧ (d4 / 2 : Int) < 4611686018427387904 := by omega
  cases x with
  | nil =>
    have ee : decide (S "" = S "") = true := by simp
    refine ⟨n2, us, t5, h5, by simp; omega, fun t ht => (hok t ht).1, hfa, ?_⟩
    rw [ofL_nil] at e ⊢
    simp [fb__law_telling_0, e4, l2, hr.1, hr.2, e]
  | cons c r =>
    have hr' : r = [] := by
      cases r with
      | nil => rfl
      | cons _ _ => simp at hx
    subst hr'
    have ne : ¬ (ofL [c] = Str.ofString "") := fun h => by
      have : tl (ofL [c]) = tl (ofL []) := congrArg tl h
      cases this
    obtain ⟨d, n3, g0, g1, ed⟩ := take_ex n2 (s.length + 2 : Int) (by omega) (by omega)
    obtain ⟨b, hb1, hb2, eb⟩ := tel_at (s := s) (c := c) g0 g1
    have hzc : (chars s).length = s.length := by rw [chars_sgs, sgs_len, hsl]
    refine ⟨n3, us ++ [⟨[c], b⟩], t5, h5, by simp; omega, ?_, ?_, ?_⟩
    · intro t ht
      rcases List.mem_append.mp ht with ht | ht
      · exact (hok t ht).1
      · rw [List.mem_singleton.mp ht]
        have hcs := hxs c (by simp)
        exact ⟨by simp, hb1, by simp, by simpa using hcs, fun y hy => by
          rcases hb2 y hy with h | h
          · rw [h]; exact hcs
          · exact h⟩
    · rw [List.flatMap_append, hfa]
      simp
    · have z1 : 1 + s.length ≤ 16777216 := by omega
      have z2 : s.length + 1 + 1 ≤ 16777216 := by omega
      have z3 : ts.length + us.length < 16777216 := by omega
      have eo : ofL [c] = sg1 c := rfl
      have e1 : Stp.d ⟨[c], b⟩ = .tuple [.str (sg1 c), .str (ofL b)] := rfl
      rw [eo] at ne e
      rw [eo]
      simp only [List.map_append, List.map_cons, List.map_nil, e1] at e ⊢
      simp [fb__law_telling_0, e4, l2, hr.1, hr.2, e, ne, hz, sizeLine, z1, z2, z3, hzc, ed, eb]
theorem m_telling (n : Int) {s : Str} (hs : SgOk s) (cs : List Nat) (hcs : ∀ c ∈ cs, c ∈ tl s) (hl : cs.length ≤ 100) : ∃ (n' : Int) (ts : List Stp), ts.length ≤ 2 * cs.length + 1 ∧ (∀ t ∈ ts, t.Ok s) ∧ ts.flatMap Stp.a = cs ∧
    m__law_telling [.own true [.int n], .d (.str s), .d (.str (ofL cs))] = .ok (.d (.tuple (ts.map Stp.d))) [.own true [.int n'], .d (.str s), .d (.str (ofL cs))] := by
  have ex : chars (ofL cs) ++ [PyData.str (S "")] = (cs.map (fun c => [c]) ++ [[]]).map fun x => PyData.str (ofL x) := by
    rw [chars_sgs, tl_ofL]
    unfold sgs
    simp
    exact ⟨fun _ _ => rfl, rfl⟩
  have hlx : ((cs.map (fun c => [c]) ++ [[]]).map fun x => PyData.str (ofL x)).length = cs.length + 1 := by simp
  obtain ⟨ρ', e, n', ts, t4, t5, h4, h5, htl, hok, hfl, rfl⟩ := for_inv (h := put 4) (fb := fb__law_telling_0) (xs := (cs.map (fun c => [c]) ++ [[]]).map fun x => PyData.str (ofL x)) (ρ := [.own true [.int n], .d (.str s), .d (.str (ofL cs)), .own false [], .no, .no])
    (fun i ρ => ∃ (n' : Int) (ts : List Stp) (t4 t5 : Sl), isIo t4 = false ∧ isIo t5 = false ∧ ts.length ≤ i + min i cs.length ∧ (∀ t ∈ ts, t.Ok s) ∧ ts.flatMap Stp.a = cs.take i ∧ ρ = [.own true [.int n'], .d (.str s), .d (.str (ofL cs)), .own false (ts.map Stp.d), t4, t5])
    (fun i x ρ hx hI => by
      obtain ⟨n', ts, t4, t5, h4, h5, htl, hok, hfl, rfl⟩ := hI
      have hi : i < cs.length + 1 := by
        have := (List.getElem?_eq_some_iff.mp hx).1
        omega
      rw [List.getElem?_map] at hx
      obtain ⟨y, hy, rfl⟩ := Option.map_eq_some_iff.mp hx
      have hyy : y.length ≤ 1 ∧ (∀ c ∈ y, c ∈ tl s) ∧ cs.take (i + 1) = cs.take i ++ y ∧ (y.length + min i cs.length ≤ min (i + 1) cs.length) := by
        by_cases hic : i < cs.length
        · rw [List.getElem?_append_left (by simpa using hic), List.getElem?_map, List.getElem?_eq_getElem hic] at hy
          simp at hy
          subst hy
          refine ⟨by simp, by simpa using hcs _ (List.getElem_mem hic), (List.take_append_getElem hic).symm, by simp; omega⟩
        · have : i = cs.length := by omega
          subst this
          rw [List.getElem?_append_right (by simp)] at hy
          simp at hy
          subst hy
          refine ⟨by simp, by simp, by simp [List.take_of_length_le (Nat.le_succ cs.length)], by simp⟩
      obtain ⟨y1, y2, y3, y4⟩ := hyy
      obtain ⟨n2, us, u5, j5, hul, huk, huf, eu⟩ := tel_turn n' hs ts (by omega) y y1 y2 (s2 := .d (.str (ofL cs))) h5
      refine ⟨[.own true [.int n'], .d (.str s), .d (.str (ofL cs)), .own false (ts.map Stp.d), .d (.str (ofL y)), t5], _, by simp [put_eq, h4], .inl eu, n2, ts ++ us, _, u5, rfl, j5, ?_, ?_, ?_, rfl⟩
      · rw [List.length_append]
        omega
      · intro t ht
        rcases List.mem_append.mp ht with ht | ht
        · exact hok t ht
        · exact huk t ht
      · rw [List.flatMap_append, hfl, huf, y3])
    ⟨n, [], .no, .no, rfl, rfl, by simp, by simp, by simp, by simp⟩
  rw [hlx] at htl hfl
  refine ⟨n', ts, by omega, hok, by rw [hfl]; exact List.take_of_length_le (by omega), ?_⟩
  have z1 : (ofL cs).length ≤ 16777216 := by rw [len_tl, tl_ofL]; omega
  have z2 : (chars (ofL cs)).length + 1 ≤ 16777216 := by rw [chars_sgs, sgs_len, tl_ofL]; omega
  simp only [← ex] at e
  simp [m__law_telling, gOf, w__law_telling, put_eq, putOwn_eq, sizeLine, z1, z2, e]
end Lw
namespace Lw
open PySem PySem.Spec L2 Evl Dt
open TL (tl joinL tl_join tl_ofString join_eq tl_append len_tl)
/-! ### what a comprehension leaves, over things told as data -/
theorem lc_filterM {α : Type} {h : Pd → Rho → Option Rho} {ft : Rho → R Bool} {fe : Rho → R AV} {vs : List Nat} (d : α → Pd) (p : α → Bool) (g : α → Pd) {ρ : Rho} : ∀ {l : List α} {acc : List Pd}, (∀ x ∈ l, ∃ ρ1 ρ2, h (d x) ρ = some ρ1 ∧ ft ρ1 = .ok (p x) ρ2 ∧ (p x = false → wipeR ρ2 vs = ρ) ∧ (p x = true → ∃ ρ3, fe ρ2 = .ok (.d (g x)) ρ3 ∧ wipeR ρ3 vs = ρ)) →
    acc.length + l.length ≤ 16777216 → lcRun h ft fe vs (l.map d) acc ρ = .ok (acc ++ (l.filter p).map g) ρ
  | [], acc, _, _ => by simp
  | x :: l, acc, H, hl => by
    obtain ⟨ρ1, ρ2, e1, e2, e3, e4⟩ := H x List.mem_cons_self
    have hl' : acc.length + l.length + 1 ≤ 16777216 := by simp at hl; omega
    have hz : acc.length < sizeLine := by simp [sizeLine]; omega
    rw [List.map_cons]
    cases hp : p x with
    | true =>
      rw [hp] at e2
      obtain ⟨ρ3, e5, e6⟩ := e4 hp
      rw [lc_cons_yes e1 e2 e5 hz, e6, lc_filterM d p g (fun y hy => H y (List.mem_cons_of_mem _ hy)) (by simp; omega)]
      simp [List.filter_cons, hp]
    | false =>
      rw [hp] at e2
      rw [lc_cons_no e1 e2, e3 hp, lc_filterM d p g (fun y hy => H y (List.mem_cons_of_mem _ hy)) (by omega)]
      simp [List.filter_cons, hp]
theorem at1 (x y : Pd) (rest : List Pd) : atI (x :: y :: rest) 1 = some y := by
  unfold atI ixN
  rw [if_pos (by omega), if_pos (by simp only [List.length_cons]; omega)]
  rfl
theorem at2 (x y z : Pd) (rest : List Pd) : atI (x :: y :: z :: rest) 2 = some z := by
  unfold atI ixN
  rw [if_pos (by omega), if_pos (by simp only [List.length_cons]; omega)]
  rfl
theorem intsD_map {α : Type} (f : α → Int) (l : List α) : intsD (l.map fun x => .int (f x)) = some (l.map f) := by
  induction l with
  | nil => rfl
  | cons x l ih => simp only [List.map_cons, intsD]; rw [ih]
theorem inD_str (a b : Str) : inD (.str a) (.str b) = some (.bool (inStr a b)) := rfl
theorem eqvAll_ints : ∀ l : List Int, PyData.eqvAll (l.map PyData.int) (l.map PyData.int) = true
  | [] => by simp [PyData.eqvAll]
  | a :: l => by
    have := eqvAll_ints l
    simp [PyData.eqvAll, this, PyData.eqv]
theorem ne_ints (l : List Int) : neD (.tuple (l.map PyData.int)) (.tuple (l.map PyData.int)) = some (.bool false) := by
  have hs : sh 60 (.tuple (l.map PyData.int)) = true := by
    rw [sh_tuple, List.all_map, List.all_eq_true]
    intro c hc
    exact sh_int
  have h2 := eqvAll_ints l
  simp [neD, eqB_tuple, hs, h2]
abbrev E0 : Str := S ""
end Lw
namespace Lw
open PySem PySem.Spec L2 Evl Dt
open TL (tl joinL tl_join tl_ofString join_eq tl_append len_tl)
/-! ### texts of signs -/
/-- a code as data: its signs, whatever its wishes -/
abbrev cdW (s : Str) (W : Pd) : Pd := .tuple [.str s, W]
def okP : Pd → Bool
  | .str x => decide (x.length ≤ 1000)
  | _ => true
def isTextD (s : Str) : Pd → Bool
  | .str z => decide (∀ c ∈ tl z, c ∈ tl s)
  | _ => false
def isWordD (s : Str) : Pd → Bool
  | .str z => decide (∀ c ∈ tl z, c ∈ tl s) && decide ((z.length : Int) ≤ 8)
  | _ => false
def inTx (s : Str) : Pd → Bool
  | .str z => inStr z s
  | _ => false
theorem chars_all (z s : Str) : (chars z).all (inTx s) = decide (∀ c ∈ tl z, c ∈ tl s) := by
  unfold chars
  rw [List.all_map, Bool.eq_iff_iff, List.all_eq_true]
  simp only [decide_eq_true_eq]
  refine forall_congr' fun c => imp_congr_right fun _ => ?_
  show inStr ⟨#[c]⟩ s = true ↔ _
  rw [inStr_one, decide_eq_true_eq]
theorem m_text (d : Pd) (s : Str) (hd : okP d = true) : m_is_text_of [.d d, .d (.str s)] = .ok (.d (.bool (isTextD s d))) [.d d, .d (.str s)] := by
  cases d with
  | str z =>
    have hs : z.length ≤ 1000 := by simpa [okP] using hd
    have key : lcRun (put 2) (fun ρ => R.ok true ρ) ce_is_text_of_0 [2] (chars z) [] [.d (.str z), .d (.str s), .no] = .ok ([] ++ (chars z).map fun x => .bool (inTx s x)) [.d (.str z), .d (.str s), .no] := by
      refine lc_map _ (fun x hx => ?_) ?_
      · obtain ⟨c, hc, rfl⟩ := List.mem_map.mp hx
        exact ⟨[.d (.str z), .d (.str s), .d (.str ⟨#[c]⟩)], [.d (.str z), .d (.str s), .d (.str ⟨#[c]⟩)], [.d (.str z), .d (.str s), .d (.str ⟨#[c]⟩)], by simp [put_eq], rfl, by simp [ce_is_text_of_0, inD, inB, inTx], by simp⟩
      · have : (chars z).length = z.length := by simp [chars, len_tl]
        simp [sizeLine]
        omega
    have ea := boolsD_all (inTx s) (chars z)
    rw [chars_all, allD_list] at ea
    simp only [List.nil_append] at key
    simp [m_is_text_of, gOf, w_is_text_of, isStrD, key, ea, isTextD]
  | _ => simp [m_is_text_of, gOf, w_is_text_of, isStrD, isTextD]
theorem m_word (s : Str) (W : Pd) (d : Pd) (hd : okP d = true) : m_is_word [.d (cdW s W), .d d] = .ok (.d (.bool (isWordD s d))) [.d (cdW s W), .d d] := by
  have mt := m_text d s hd
  cases d with
  | str z =>
    have hz : z.length ≤ 16777216 := by
      have : z.length ≤ 1000 := by simpa [okP] using hd
      omega
    have hw : isWordD s (.str z) = (isTextD s (.str z) && decide ((z.length : Int) ≤ 8)) := rfl
    rw [hw]
    generalize isTextD s (.str z) = B at mt ⊢
    cases B <;> simp [m_is_word, gOf, w_is_word, cdW, at0, mt, hz, sizeLine]
  | _ => simp [isTextD] at mt; simp [m_is_word, gOf, w_is_word, cdW, at0, mt, isWordD]
/-! ### parts, steps -/
def partB (s : Str) : Pd → Bool
  | .str x => decide ((x.length : Int) ≤ 1) && inStr x s
  | _ => false
def isE : Pd → Bool
  | .str x => decide (x = E0)
  | _ => false
def stepB (s : Str) : Pd → Bool
  | .tuple [x, y] => partB s x && (partB s y && !(isE x && isE y))
  | _ => false
def okS : Pd → Bool
  | .tuple xs => xs.all okP
  | _ => true
def okT : Pd → Bool
  | .tuple xs => decide (xs.length ≤ 1000) && xs.all okS
  | _ => true
theorem m_part (s : Str) (W : Pd) (d : Pd) (hd : okP d = true) : m_is_part [.d (cdW s W), .d d] = .ok (.d (.bool (partB s d))) [.d (cdW s W), .d d] := by
  cases d with
  | str z =>
    have hz : z.length ≤ 16777216 := by
      have : z.length ≤ 1000 := by simpa [okP] using hd
      omega
    by_cases h : (z.length : Int) ≤ 1
    · simp [m_is_part, gOf, w_is_part, cdW, at0, isStrD, hz, sizeLine, h, inD_str, partB]
    · simp [m_is_part, gOf, w_is_part, cdW, at0, isStrD, hz, sizeLine, h, inD_str, partB]
  | _ => simp [m_is_part, gOf, w_is_part, isStrD, partB]
theorem inStr_cases {s x : Str} (h1 : (x.length : Int) ≤ 1) (h : inStr x s = true) : ∃ a : List Nat, x = ofL a ∧ a.length ≤ 1 ∧ ∀ c ∈ a, c ∈ tl s := by
  rw [len_tl] at h1
  refine ⟨tl x, rfl, by omega, ?_⟩
  cases e : tl x with
  | nil => simp
  | cons c r =>
    rw [e] at h1
    cases r with
    | nil =>
      intro d hd
      rw [List.mem_singleton.mp hd]
      have ex : x = ⟨#[c]⟩ := str_ext e
      rw [ex, inStr_one] at h
      exact of_decide_eq_true h
    | cons _ _ => simp at h1; omega
theorem inStr_nil (s : Str) : inStr (ofL []) s = true :=
  (PySem.StrLaws.found_iff s (ofL [])).mpr ⟨0, Nat.zero_le _, by simp [Builtin.Str.subAt, ofL, Str.length]⟩
theorem inStr_ofL {s : Str} {a : List Nat} (h1 : a.length ≤ 1) (h : ∀ c ∈ a, c ∈ tl s) : inStr (ofL a) s = true := by
  cases a with
  | nil => exact inStr_nil s
  | cons c r =>
    cases r with
    | nil => exact (inStr_one c s).trans (decide_eq_true (h c (by simp)))
    | cons _ _ => simp at h1
theorem ofL_E {a : List Nat} : (ofL a = E0) ↔ a = [] := by
  constructor
  · intro h
    have : tl (ofL a) = tl (ofL []) := congrArg tl h
    exact this
  · intro h; subst h; rfl
theorem stepB_of {s : Str} {t : Stp} (h : t.Ok s) : stepB s t.d = true := by
  have l1 : ((ofL t.a).length : Int) ≤ 1 := by rw [len_tl, tl_ofL]; have := h.a1; omega
  have l2 : ((ofL t.b).length : Int) ≤ 1 := by rw [len_tl, tl_ofL]; have := h.b1; omega
  have e1 := inStr_ofL h.a1 h.ina
  have e2 := inStr_ofL h.b1 h.inb
  have hne := h.ne
  simp only [stepB, Stp.d, partB, isE, decide_eq_true l1, decide_eq_true l2, e1, e2, Bool.true_and, Bool.not_eq_true', ofL_E]
  by_cases ha : t.a = []
  · by_cases hb : t.b = []
    · rw [ha, hb] at hne; exact absurd rfl hne
    · simp [hb]
  · simp [ha]
theorem stepB_ex {s : Str} {x : Pd} (h : stepB s x = true) : ∃ t : Stp, x = t.d ∧ t.Ok s := by
  unfold stepB at h
  split at h
  · rename_i x y
    rw [Bool.and_eq_true, Bool.and_eq_true] at h
    obtain ⟨hx, hy, hn⟩ := h
    cases x with
    | str u =>
      cases y with
      | str v =>
        simp only [partB, Bool.and_eq_true, decide_eq_true_eq] at hx hy
        obtain ⟨a, rfl, a1, a2⟩ := inStr_cases hx.1 hx.2
        obtain ⟨b, rfl, b1, b2⟩ := inStr_cases hy.1 hy.2
        refine ⟨⟨a, b⟩, rfl, a1, b1, ?_, a2, b2⟩
        intro e
        obtain ⟨rfl, rfl⟩ := List.append_eq_nil_iff.mp e
        simp [isE, ofL_E] at hn
      | _ => cases hy
    | _ => cases hx
  · cases h
theorem stepsB_ex {s : Str} : ∀ {xs : List Pd}, xs.all (stepB s) = true → ∃ ts : List Stp, xs = ts.map Stp.d ∧ ∀ t ∈ ts, t.Ok s
  | [], _ => ⟨[], rfl, by simp⟩
  | x :: xs, h => by
    rw [List.all_cons, Bool.and_eq_true] at h
    obtain ⟨t, rfl, ht⟩ := stepB_ex h.1
    obtain ⟨ts, rfl, hts⟩ := stepsB_ex h.2
    exact ⟨t :: ts, rfl, by
      intro u hu
      rcases List.mem_cons.mp hu with rfl | hu
      · exact ht
      · exact hts u hu⟩
theorem stepsB_of {s : Str} {ts : List Stp} (h : ∀ t ∈ ts, t.Ok s) : (ts.map Stp.d).all (stepB s) = true := by
  rw [List.all_map, List.all_eq_true]
  exact fun t ht => stepB_of (h t ht)
theorem stp_ok {s : Str} (hs : SgOk s) {t : Stp} (h : t.Ok s) : PyData.strOk (ofL t.a) = true ∧ PyData.strOk (ofL t.b) = true := by
  constructor
  · exact strOk_lt fun c hc => by have := hs.let' c (h.ina c hc); omega
  · exact strOk_lt fun c hc => by have := hs.let' c (h.inb c hc); omega
theorem E0_ok : PyData.strOk E0 = true := by decide +kernel
theorem m_step {s : Str} (W : Pd) (hs : SgOk s) (d : Pd) (hd : okS d = true) : m_is_step [.d (cdW s W), .d d] = .ok (.d (.bool (stepB s d))) [.d (cdW s W), .d d] := by
  cases d with
  | tuple xs =>
    by_cases hl : xs.length = 2
    · obtain ⟨x, y, rfl⟩ : ∃ x y, xs = [x, y] := by
        cases xs with
        | nil => simp at hl
        | cons x r =>
          cases r with
          | nil => simp at hl
          | cons y r =>
            cases r with
            | nil => exact ⟨x, y, rfl⟩
            | cons _ _ => simp at hl
      simp only [okS, List.all_cons, List.all_nil, Bool.and_true, Bool.and_eq_true] at hd
      have key := lc_map (h := put 2) (ft := fun ρ => R.ok true ρ) (fe := ce_is_step_0) (vs := [2]) (fun p => .bool (partB s p)) (ρ := [.d (cdW s W), .d (.tuple [x, y]), .no]) (xs := [x, y]) (acc := []) (fun p hp => by
        have hpo : okP p = true := by
          rcases List.mem_cons.mp hp with rfl | hp
          · exact hd.1
          · rw [List.mem_singleton.mp hp]; exact hd.2
        have mp := m_part s W p hpo
        exact ⟨[.d (cdW s W), .d (.tuple [x, y]), .d p], _, [.d (cdW s W), .d (.tuple [x, y]), .d p], by simp [put_eq], rfl, by simp [ce_is_step_0, mp], by simp⟩) (by simp [sizeLine])
      rw [List.nil_append] at key
      have eb := boolsD_map (partB s) [x, y]
      simp only [List.map_cons, List.map_nil] at key eb
      cases hx : partB s x with
      | false =>
        rw [hx] at key eb
        simp [m_is_step, gOf, w_is_step, isTupD, key, eb, stepB, hx]
      | true =>
        cases hy : partB s y with
        | false =>
          rw [hx, hy] at key eb
          simp [m_is_step, gOf, w_is_step, isTupD, key, eb, stepB, hx, hy]
        | true =>
          rw [hx, hy] at key eb
          cases x with
          | str u =>
            cases y with
            | str v =>
              simp only [partB, Bool.and_eq_true, decide_eq_true_eq] at hx hy
              obtain ⟨a, rfl, a1, a2⟩ := inStr_cases hx.1 hx.2
              obtain ⟨b, rfl, b1, b2⟩ := inStr_cases hy.1 hy.2
              have o1 : PyData.strOk (ofL a) = true := strOk_lt fun c hc => by have := hs.let' c (a2 c hc); omega
              have o2 : PyData.strOk (ofL b) = true := strOk_lt fun c hc => by have := hs.let' c (b2 c hc); omega
              have o3 := E0_ok
              have en : neD (.tuple [.str (ofL a), .str (ofL b)]) (.tuple [.str E0, .str E0]) = some (.bool (!(isE (.str (ofL a)) && isE (.str (ofL b))))) := by
                simp [neD, eqB_tuple, sh_tuple, o1, o2, o3, PyData.eqvAll, eqv_str, isE]
              have e1 : partB s (.str (ofL a)) = true := by simp only [partB, decide_eq_true hx.1, hx.2, Bool.and_self]
              have e2 : partB s (.str (ofL b)) = true := by simp only [partB, decide_eq_true hy.1, hy.2, Bool.and_self]
              simp [m_is_step, gOf, w_is_step, isTupD, key, eb, stepB, e1, e2, sizeLine, en]
            | _ => simp [partB] at hy
          | _ => simp [partB] at hx
    · have hl' : ¬ ((xs.length : Int) = 2) := by omega
      have e : stepB s (.tuple xs) = false := by
        unfold stepB
        split
        · rename_i h
          cases h
          simp at hl
        · rfl
      simp [m_is_step, gOf, w_is_step, isTupD, hl', e]
  | _ => simp [m_is_step, gOf, w_is_step, isTupD, stepB]
theorem m_steps' {s : Str} (W : Pd) (hs : SgOk s) (d : Pd) (hd : okT d = true) : m_is_steps [.d (cdW s W), .d d] = .ok (.d (.bool (match d with | .tuple xs => xs.all (stepB s) | _ => false))) [.d (cdW s W), .d d] := by
  cases d with
  | tuple xs =>
    simp only [okT, Bool.and_eq_true, decide_eq_true_eq] at hd
    have hz : xs.length ≤ 16777216 := by omega
    have key := lc_map (h := put 2) (ft := fun ρ => R.ok true ρ) (fe := ce_is_steps_0) (vs := [2]) (fun p => .bool (stepB s p)) (ρ := [.d (cdW s W), .d (.tuple xs), .no]) (xs := xs) (acc := []) (fun p hp => by
      have mp := m_step W hs p (List.all_eq_true.mp hd.2 p hp)
      exact ⟨[.d (cdW s W), .d (.tuple xs), .d p], _, [.d (cdW s W), .d (.tuple xs), .d p], by simp [put_eq], rfl, by simp [ce_is_steps_0, mp], by simp⟩) (by simp [sizeLine]; omega)
    rw [List.nil_append] at key
    have eb := boolsD_map (stepB s) xs
    simp [m_is_steps, gOf, w_is_steps, isTupD, key, eb]
  | _ => simp [m_is_steps, gOf, w_is_steps, isTupD]
/-! ### words of tellings -/
theorem tl_joinOf (l : List (List Nat)) : Txt.join (Str.ofString "") (l.map ofL) = ofL l.flatten := by
  refine str_ext ?_
  rw [tl_join0, tl_ofL, List.map_map]
  congr 1
  conv => rhs; rw [← List.map_id l]
  exact List.map_congr_left fun _ _ => rfl
theorem join_of (l : List (List Nat)) (h : l.length ≤ 1000) (h1 : ∀ x ∈ l, x.length ≤ 1) : joinD (.str (Str.ofString "")) [.list (l.map fun x => PyData.str (ofL x))] = some (.str (ofL l.flatten)) := by
  have e : (l.map fun x => PyData.str (ofL x)) = (l.map ofL).map PyData.str := by rw [List.map_map]; rfl
  have hs : ((l.map ofL).map (·.length)).sum ≤ l.length := by
    rw [List.map_map]
    clear e h
    induction l with
    | nil => simp
    | cons a l ih =>
      have := ih fun x hx => h1 x (List.mem_cons_of_mem _ hx)
      have ha := h1 a List.mem_cons_self
      have el : (ofL a).length = a.length := by rw [len_tl, tl_ofL]
      simp only [List.map_cons, List.sum_cons, List.length_cons, Function.comp_apply] at this ⊢
      omega
  rw [e]
  simp only [joinD]
  rw [strsD_map]
  simp only
  rw [if_pos (by rw [List.length_map]; show _ + l.length * 0 ≤ 16777216; omega), tl_joinOf]
theorem m_wordof {s : Str} (ts : List Stp) (hl : ts.length ≤ 1000) (hok : ∀ t ∈ ts, t.Ok s) : m_word_of [.d (.tuple (ts.map Stp.d))] = .ok (.d (.str (ofL (ts.flatMap Stp.a)))) [.d (.tuple (ts.map Stp.d))] := by
  have key := lc_map (h := put 1) (ft := fun ρ => R.ok true ρ) (fe := ce_word_of_0) (vs := [1]) (fun x => match x with | .tuple [a, _] => a | x => x) (ρ := [.d (.tuple (ts.map Stp.d)), .no]) (xs := ts.map Stp.d) (acc := []) (fun x hx => by
    obtain ⟨t, ht, rfl⟩ := List.mem_map.mp hx
    exact ⟨[.d (.tuple (ts.map Stp.d)), .d t.d], _, [.d (.tuple (ts.map Stp.d)), .d t.d], by simp [put_eq], rfl, by simp [ce_word_of_0, Stp.d, at0], by simp⟩) (by simp [sizeLine]; omega)
  have e : (ts.map Stp.d).map (fun x => match x with | .tuple [a, _] => a | x => x) = (ts.map Stp.a).map fun x => PyData.str (ofL x) := by
    rw [List.map_map, List.map_map]
    exact List.map_congr_left fun _ _ => rfl
  rw [List.nil_append, e] at key
  have hj := join_of (ts.map Stp.a) (by rw [List.length_map]; exact hl) (fun x hx => by
    obtain ⟨t, ht, rfl⟩ := List.mem_map.mp hx
    exact (hok t ht).a1)
  rw [← List.flatMap_def] at hj
  simp only [m_word_of, gOf, w_word_of, fRet_ap, fM1_ap, fC_ap, bind_ok', res_d, fL_ap, fLc_ap]
  simp [key, hj, -List.map_map]
theorem flat_le {ts : List Stp} {s : Str} (h : ∀ t ∈ ts, t.Ok s) : (ts.flatMap Stp.a).length ≤ ts.length := by
  induction ts with
  | nil => simp
  | cons t ts ih =>
    have h1 := (h t List.mem_cons_self).a1
    have h2 := ih fun u hu => h u (List.mem_cons_of_mem _ hu)
    rw [List.flatMap_cons, List.length_append, List.length_cons]
    omega
/-- how many signs are told by a step -/
def fst1 : Pd → Nat
  | .tuple (.str x :: _) => x.length
  | _ => 0
theorem fst1_sum (ts : List Stp) : ((ts.map Stp.d).map fst1).sum = (ts.flatMap Stp.a).length := by
  induction ts with
  | nil => rfl
  | cons t ts ih =>
    have e : fst1 t.d = t.a.length := by
      show (ofL t.a).length = _
      rw [len_tl, tl_ofL]
    rw [List.map_cons, List.map_cons, List.sum_cons, ih, List.flatMap_cons, List.length_append, e]
def telB (s : Str) : Pd → Bool
  | .tuple xs => xs.all (stepB s) && decide (((xs.map fst1).sum : Int) ≤ 8)
  | _ => false
theorem m_istel {s : Str} (W : Pd) (hs : SgOk s) (d : Pd) (hd : okT d = true) : m_is_telling [.d (cdW s W), .d d] = .ok (.d (.bool (telB s d))) [.d (cdW s W), .d d] := by
  have ms := m_steps' W hs d hd
  cases d with
  | tuple xs =>
    simp only at ms
    cases h : xs.all (stepB s) with
    | false =>
      rw [h] at ms
      simp [m_is_telling, gOf, w_is_telling, ms, telB, h]
    | true =>
      rw [h] at ms
      obtain ⟨ts, rfl, hts⟩ := stepsB_ex h
      simp only [okT, Bool.and_eq_true, decide_eq_true_eq, List.length_map] at hd
      have mw := m_wordof ts hd.1 hts
      have hfl := flat_le hts
      have hok : okP (.str (ofL (ts.flatMap Stp.a))) = true := by
        simp only [okP, decide_eq_true_eq]
        rw [len_tl, tl_ofL]
        omega
      have mi := m_word s W (.str (ofL (ts.flatMap Stp.a))) hok
      have hin : ∀ x ∈ tl (ofL (ts.flatMap Stp.a)), x ∈ tl s := by
        intro x hx
        rw [tl_ofL] at hx
        obtain ⟨t, ht, hxt⟩ := List.mem_flatMap.mp hx
        exact (hts t ht).ina x hxt
      have ef := fst1_sum ts
      have el : (ofL (ts.flatMap Stp.a)).length = (ts.flatMap Stp.a).length := by rw [len_tl, tl_ofL]
      simp only [isWordD, decide_eq_true hin, Bool.true_and, el] at mi
      have et : telB s (.tuple (ts.map Stp.d)) = decide (((ts.flatMap Stp.a).length : Int) ≤ 8) := by
        simp only [telB, h, ef, Bool.true_and]
      rw [et]
      generalize ts.map Stp.d = D at *
      generalize ts.flatMap Stp.a = W at *
      simp [m_is_telling, gOf, w_is_telling, ms, mw, mi]
  | _ => simp at ms; simp [m_is_telling, gOf, w_is_telling, ms, telB]
/-- a telling's steps told as data -/
abbrev telD (ts : List Stp) : Pd := .tuple (ts.map Stp.d)
theorem okT_tel {ts : List Stp} {s : Str} (hl : ts.length ≤ 1000) (h : ∀ t ∈ ts, t.Ok s) : okT (telD ts) = true := by
  simp only [okT, Bool.and_eq_true, decide_eq_true_eq, List.length_map]
  refine ⟨hl, ?_⟩
  rw [List.all_map, List.all_eq_true]
  intro t ht
  have := h t ht
  have e1 : (ofL t.a).length ≤ 1000 := by rw [len_tl, tl_ofL]; have := this.a1; omega
  have e2 : (ofL t.b).length ≤ 1000 := by rw [len_tl, tl_ofL]; have := this.b1; omega
  simp [okS, Stp.d, okP, e1, e2]
theorem telB_of {ts : List Stp} {s : Str} (h : ∀ t ∈ ts, t.Ok s) (h8 : (ts.flatMap Stp.a).length ≤ 8) : telB s (telD ts) = true := by
  have e := stepsB_of h
  have ef := fst1_sum ts
  simp only [telB, e, ef, Bool.true_and, decide_eq_true_eq]
  omega
end Lw
namespace Lw
open PySem PySem.Spec L2 Evl Dt
open TL (tl joinL tl_join tl_ofString join_eq tl_append len_tl)
theorem sort_signs (cs : List Nat) (h : cs.length < 64) : ∃ ds : List Nat, ds.Perm cs ∧ ds.Pairwise (· ≤ ·) ∧ sortedD [.list (sgs cs)] = some (sgs ds) := by
  have hall : ∀ y ∈ sortS (cs.map sg1), ∃ c, y = sg1 c := fun y hy => by
    obtain ⟨c, _, e⟩ := List.mem_map.mp ((sortS_perm _).mem_iff.mp hy)
    exact ⟨c, e.symm⟩
  have he : sortS (cs.map sg1) = ((sortS (cs.map sg1)).map fun y => (tl y).headD 0).map sg1 := by
    rw [List.map_map]
    conv => lhs; rw [← List.map_id (sortS (cs.map sg1))]
    refine List.map_congr_left fun y hy => ?_
    obtain ⟨c, rfl⟩ := hall y hy
    rfl
  refine ⟨(sortS (cs.map sg1)).map fun y => (tl y).headD 0, ?_, ?_, ?_⟩
  · have := (sortS_perm (cs.map sg1)).map fun y => (tl y).headD 0
    rw [List.map_map] at this
    refine this.trans (.of_eq ?_)
    conv => rhs; rw [← List.map_id cs]
    exact List.map_congr_left fun _ _ => rfl
  · have := sortS_sorted (cs.map sg1)
    rw [he] at this
    have h2 := List.pairwise_map.mp this
    refine h2.imp fun {a b} hab => ?_
    have h3 := (leS_iff _ _).mp hab
    have h4 : ¬ ([b] < [a]) := h3
    refine Nat.le_of_not_lt fun hlt => h4 ?_
    exact List.Lex.rel hlt
  · unfold sortedD sgs
    simp only
    rw [strsD_map]
    simp only [List.length_map, h, if_true]
    rw [← he]
end Lw
namespace Lw
open PySem PySem.Spec L2 Evl Dt
open TL (tl joinL tl_join tl_ofString join_eq tl_append len_tl)
/-! ### dicts of signs -/
theorem abc_at {i : Int} (h0 : 0 ≤ i) (h1 : i < 26) : atI abc.cps.toList i = some (97 + i.toNat) := by
  have hl : i.toNat < (tl abc).length := by rw [tl_abc]; simp; omega
  have e : atI (tl abc) ((i.toNat : Nat) : Int) = some (tl abc)[i.toNat] := atI_nat hl
  have ei : ((i.toNat : Nat) : Int) = i := Int.toNat_of_nonneg h0
  rw [ei] at e
  have all : ∀ k : Fin 26, (tl abc)[k.val]? = some (97 + k.val) := by rw [tl_abc]; decide
  have h2 := all ⟨i.toNat, by omega⟩
  rw [List.getElem?_eq_getElem hl] at h2
  rw [← h2]
  exact e
def lkS (L : List (Nat × Nat)) (x : Nat) : Nat := (L.lookup x).getD 0
def callD (L : List (Nat × Nat)) : Pd := .dict (L.map fun p => (.str (sg1 p.1), .str (sg1 p.2)))
theorem sg1_inj {a b : Nat} : sg1 a = sg1 b ↔ a = b := by
  constructor
  · intro h
    have : tl (sg1 a) = tl (sg1 b) := congrArg tl h
    exact (List.cons.inj this).1
  · intro h; rw [h]
theorem look_call (x : Nat) : ∀ (L : List (Nat × Nat)), x ∈ L.map Prod.fst → lookD (.inr (sg1 x)) (L.map fun p => (PyData.str (sg1 p.1), PyData.str (sg1 p.2))) = some (.str (sg1 (lkS L x)))
  | [], h => by simp at h
  | (a, b) :: L, h => by
    rw [List.map_cons, lookD_cons, keyD_str]
    by_cases e : a = x
    · subst e
      simp [lkS, List.lookup]
    · have ne : ¬ (some (Sum.inr (sg1 a) : Key) = some (.inr (sg1 x))) := fun z => e (sg1_inj.mp (Sum.inr.inj (Option.some.inj z)))
      rw [if_neg ne]
      have hx : x ∈ L.map Prod.fst := by
        rcases List.mem_cons.mp h with h | h
        · exact absurd h.symm e
        · exact h
      rw [look_call x L hx]
      have : (x == a) = false := by simpa using fun z => e z.symm
      simp [lkS, List.lookup, this]
theorem pairs_call : ∀ L : List (Nat × Nat), pairsD (L.map fun p => PyData.tuple [.str (sg1 p.1), .str (sg1 p.2)]) = some (L.map fun p => (.inr (sg1 p.1), .str (sg1 p.2)))
  | [] => rfl
  | p :: L => by
    rw [List.map_cons, List.map_cons]
    simp only [pairsD, keyD_str, pairs_call L]
theorem dict_call (L : List (Nat × Nat)) (h : (L.map Prod.fst).Nodup) : dictD [.list (L.map fun p => PyData.tuple [.str (sg1 p.1), .str (sg1 p.2)])] = some (callD L) := by
  rw [dictD_list, pairs_call]
  simp only
  rw [if_pos]
  · unfold callD
    rw [List.map_map]
    rfl
  · rw [List.map_map]
    have : ((fun x : Key × Pd => x.1) ∘ fun p : Nat × Nat => ((.inr (sg1 p.1) : Key), PyData.str (sg1 p.2))) = (fun a : Nat => (.inr (sg1 a) : Key)) ∘ Prod.fst := rfl
    rw [this, ← List.map_map]
    exact List.pairwise_map.mpr (h.imp fun {a b} hab z => hab (sg1_inj.mp (Sum.inr.inj z)))
theorem kind_parts {s : Str} (hs : SgOk s) {k : List Str} (h : KindOk s k) : ∃ kd ps, k = kd :: ps ∧ ps.length ≤ 2 ∧ ∀ p ∈ ps, (tl p).length ≤ 4 ∧ ∀ x ∈ tl p, x ∈ tl s ∨ x = 35 := by
  have l3 := hs.l3
  have g1 : ∀ {a : Str}, SetOf s a → (tl a).length ≤ 4 ∧ ∀ x ∈ tl a, x ∈ tl s ∨ x = 35 := fun {a} h =>
    ⟨by have := h.2.length_le; omega, fun x hx => .inl (h.2.subset hx)⟩
  have th : tl (S "#" ++ s) = 35 :: tl s := by
    rw [tl_append]
    have : tl (S "#") = [35] := by decide +kernel
    rw [this]
    rfl
  have g2 : ∀ {a : Str}, SetOf (S "#" ++ s) a → (tl a).length ≤ 4 ∧ ∀ x ∈ tl a, x ∈ tl s ∨ x = 35 := fun {a} h => by
    obtain ⟨_, h⟩ := h
    rw [th] at h
    refine ⟨by have := h.length_le; rw [List.length_cons] at this; omega, fun x hx => ?_⟩
    rcases List.mem_cons.mp (h.subset hx) with e | e
    · exact .inr e
    · exact .inl e
  cases h with
  | sign h => exact ⟨_, _, rfl, by simp, fun p hp => by rw [List.mem_singleton.mp hp]; exact g1 h⟩
  | drop h => exact ⟨_, _, rfl, by simp, fun p hp => by rw [List.mem_singleton.mp hp]; exact g1 h⟩
  | add h => exact ⟨_, _, rfl, by simp, fun p hp => by rw [List.mem_singleton.mp hp]; exact g1 h⟩
  | change h g =>
    refine ⟨_, _, rfl, by simp, fun p hp => ?_⟩
    rcases List.mem_cons.mp hp with rfl | hp
    · exact g1 h
    · rw [List.mem_singleton.mp hp]; exact g1 g
  | beside h g =>
    refine ⟨_, _, rfl, by simp, fun p hp => ?_⟩
    rcases List.mem_cons.mp hp with rfl | hp
    · exact g2 h
    · rw [List.mem_singleton.mp hp]; exact g2 g
end Lw
namespace Lw
open PySem PySem.Spec L2 Evl Dt
open TL (tl joinL tl_join tl_ofString join_eq tl_append len_tl)
/-! ### a code's signs called otherwise -/
abbrev R16 (n : Int) (CD : Pd) (a b : Int) (LT CL : Pd) (W : List Pd) (s7 s8 s9 s10 s11 s12 s13 s14 s15 : Sl) : Rho := [.own true [.int n], .d CD, .d (.int a), .d (.int b), .d LT, .d CL, .own false W, s7, s8, s9, s10, s11, s12, s13, s14, s15]
theorem called_run (cs : List Nat) (L : List (Nat × Nat)) (h : ∀ x ∈ cs, x ∈ L.map Prod.fst) (hl : cs.length ≤ 1000) {n : Int} {CD : Pd} {a b : Int} {LT : Pd} {W : List Pd} {s7 s8 s9 s10 s11 s12 s13 s15 : Sl} :
    lcRun (put 14) (fun ρ => R.ok true ρ) ce__law_spelled_4 [14] (sgs cs) [] (R16 n CD a b LT (callD L) W s7 s8 s9 s10 s11 s12 s13 .no s15) = .ok (sgs (cs.map (lkS L))) (R16 n CD a b LT (callD L) W s7 s8 s9 s10 s11 s12 s13 .no s15) := by
  have key := lc_mapM (h := put 14) (fe := ce__law_spelled_4) (vs := [14]) (fun x => PyData.str (sg1 x)) (fun x => .str (sg1 (lkS L x))) (ρ := R16 n CD a b LT (callD L) W s7 s8 s9 s10 s11 s12 s13 .no s15) (l := cs) (fun x hx => by
    have hk := look_call x L (h x hx)
    refine ⟨R16 n CD a b LT (callD L) W s7 s8 s9 s10 s11 s12 s13 (.d (.str (sg1 x))) s15, R16 n CD a b LT (callD L) W s7 s8 s9 s10 s11 s12 s13 (.d (.str (sg1 x))) s15, by simp [put_eq], ?_, by simp⟩
    simp [ce__law_spelled_4, callD, hk]) (by omega)
  have e1 : sgs cs = cs.map fun x => PyData.str (sg1 x) := by unfold sgs; rw [List.map_map]; rfl
  have e2 : sgs (cs.map (lkS L)) = cs.map fun x => PyData.str (sg1 (lkS L x)) := by unfold sgs; rw [List.map_map, List.map_map]; rfl
  rw [e1, e2]
  exact key
def calledT (L : List (Nat × Nat)) (p : Str) : Str := ofL ((tl p).map (lkS L))
/-- a pattern's turn -/
theorem spell_pat {s : Str} (hs : SgOk s) {L : List (Nat × Nat)} (hL : ∀ x, x ∈ tl s ∨ x = 35 → x ∈ L.map Prod.fst) (p : Pat) (hp : p.Ok s) (F : List Pd) (hF : F.length ≤ 1000) {n : Int} {CD : Pd} {a b : Int} {LT : Pd} {W : List Pd} {s7 s8 s12 : Sl} (i12 : isIo s12 = false) :
    ∃ (X : Pd) (t12 : Sl), isIo t12 = false ∧ fb__law_spelled_3 (R16 n CD a b LT (callD L) W s7 s8 (.own false F) (.d (.tuple (p.k.map PyData.str))) (.d (.int p.t)) s12 .no .no .no) = .ok .nx (R16 n CD a b LT (callD L) W s7 s8 (.own false (F ++ [X])) (.d (.tuple (p.k.map PyData.str))) (.d (.int p.t)) t12 .no .no .no) := by
  obtain ⟨kd, ps, ek, hpl, hps⟩ := kind_parts hs hp.k
  rw [ek]
  have c1 : cutD ((kd :: ps).map PyData.str) (some 1) none = ps.map PyData.str := by rw [cut_drop _ _ (by omega)]; rfl
  have c2 : cutD ((kd :: ps).map PyData.str) none (some 1) = [.str kd] := by rw [cut_take _ _ (by omega)]; rfl
  generalize (kd :: ps).map PyData.str = K1 at *
  have key := lc_mapM (h := put 15) (fe := ce__law_spelled_5) (vs := [15]) PyData.str (fun q => .str (calledT L q)) (ρ := R16 n CD a b LT (callD L) W s7 s8 (.own false F) (.d (.tuple K1)) (.d (.int p.t)) s12 .no .no .no) (l := ps) (fun q hq => by
    obtain ⟨q1, q2⟩ := hps q hq
    have r := called_run (tl q) L (fun x hx => hL x (q2 x hx)) (by omega) (n := n) (CD := CD) (a := a) (b := b) (LT := LT) (W := W) (s7 := s7) (s8 := s8) (s9 := .own false F) (s10 := .d (.tuple K1)) (s11 := .d (.int p.t)) (s12 := s12) (s13 := .no) (s15 := .d (.str q))
    rw [← chars_sgs] at r
    have hj := join_sgs ((tl q).map (lkS L)) (by rw [List.length_map]; omega)
    refine ⟨R16 n CD a b LT (callD L) W s7 s8 (.own false F) (.d (.tuple K1)) (.d (.int p.t)) s12 .no .no (.d (.str q)), R16 n CD a b LT (callD L) W s7 s8 (.own false F) (.d (.tuple K1)) (.d (.int p.t)) s12 .no .no (.d (.str q)), by simp [put_eq], ?_, by simp⟩
    simp [ce__law_spelled_5, r, hj, calledT]) (by omega)
  refine ⟨.tuple [.tuple (.str kd :: ps.map fun q => .str (calledT L q)), .int p.t], .d (.tuple (ps.map fun q => .str (calledT L q))), rfl, ?_⟩
  have z1 : ps.length + 1 ≤ 16777216 := by omega
  have z2 : F.length < 16777216 := by omega
  generalize ps.map PyData.str = K2 at *
  have z3 : 1 + (ps.map fun q => PyData.str (calledT L q)).length ≤ 16777216 := by rw [List.length_map]; omega
  generalize (ps.map fun q => PyData.str (calledT L q)) = K3 at *
  simp [fb__law_spelled_3, c1, key, put_eq, i12, c2, sizeLine, z2, z3]
theorem spell_wish {s : Str} (hs : SgOk s) {L : List (Nat × Nat)} (hL : ∀ x, x ∈ tl s ∨ x = 35 → x ∈ L.map Prod.fst) (w : Wish) (hw : w.Ok s) (W : List Pd) (hW : W.length ≤ 1000) {n : Int} {CD : Pd} {a b : Int} {LT : Pd} {s9 s10 s11 s12 : Sl} (i9 : isIo s9 = false) (i10 : isIo s10 = false) (i11 : isIo s11 = false) (i12 : isIo s12 = false) :
    ∃ (X : Pd) (t9 t10 t11 t12 : Sl), isIo t9 = false ∧ isIo t10 = false ∧ isIo t11 = false ∧ isIo t12 = false ∧ fb__law_spelled_2 (R16 n CD a b LT (callD L) W (.d (.str w.n)) (.d (.tuple (w.ps.map Pat.d))) s9 s10 s11 s12 .no .no .no) = .ok .nx (R16 n CD a b LT (callD L) (W ++ [X]) (.d (.str w.n)) (.d (.tuple (w.ps.map Pat.d))) t9 t10 t11 t12 .no .no .no) := by
  obtain ⟨ρ', e, F, t10, t11, t12, hFl, h10, h11, h12, rfl⟩ := for_inv (h := putTup 2 (putCons (put 10) (putCons (put 11) putNil))) (fb := fb__law_spelled_3) (xs := w.ps.map Pat.d) (ρ := R16 n CD a b LT (callD L) W (.d (.str w.n)) (.d (.tuple (w.ps.map Pat.d))) (.own false []) s10 s11 s12 .no .no .no)
    (fun i ρ => ∃ (F : List Pd) (t10 t11 t12 : Sl), F.length = i ∧ isIo t10 = false ∧ isIo t11 = false ∧ isIo t12 = false ∧ ρ = R16 n CD a b LT (callD L) W (.d (.str w.n)) (.d (.tuple (w.ps.map Pat.d))) (.own false F) t10 t11 t12 .no .no .no)
    (fun i x ρ hx hI => by
      obtain ⟨F, t10, t11, t12, hFl, h10, h11, h12, rfl⟩ := hI
      rw [List.getElem?_map] at hx
      obtain ⟨p, hp, rfl⟩ := Option.map_eq_some_iff.mp hx
      have hi : i < w.ps.length := (List.getElem?_eq_some_iff.mp hp).1
      have l3 := hw.l3
      obtain ⟨X, u12, j12, e⟩ := spell_pat hs hL p (hw.ps p (List.mem_of_getElem? hp)) F (by omega) (n := n) (CD := CD) (a := a) (b := b) (LT := LT) (W := W) (s7 := .d (.str w.n)) (s8 := .d (.tuple (w.ps.map Pat.d))) h12
      exact ⟨R16 n CD a b LT (callD L) W (.d (.str w.n)) (.d (.tuple (w.ps.map Pat.d))) (.own false F) (.d (.tuple (p.k.map PyData.str))) (.d (.int p.t)) t12 .no .no .no, _, by simp [Pat.d, put_eq, h10, h11], .inl e, F ++ [X], _, _, u12, by simp [hFl], rfl, rfl, j12, rfl⟩)
    ⟨[], s10, s11, s12, rfl, i10, i11, i12, rfl⟩
  refine ⟨.tuple [.str w.n, .tuple F], .own false F, t10, t11, t12, rfl, h10, h11, h12, ?_⟩
  have z : W.length < 16777216 := by omega
  generalize w.ps.map Pat.d = PS at *
  simp [fb__law_spelled_2, putOwn_eq, i9, sizeLine, e, z]
theorem spell0 (n2 a b : Int) (a0 : 0 ≤ a) (b0 : 0 ≤ b) (CD : Pd) (N : Nat) (hN : N ≤ 3) :
    lcRun (put 13) (fun ρ => R.ok true ρ) ce__law_spelled_0 [13] (nums 0 N) [] [.own true [.int n2], .d CD, .d (.int a), .d (.int (1 + b)), .no, .no, .no, .no, .no, .no, .no, .no, .no, .no, .no, .no] = .ok (sgs ((List.range N).map fun k : Nat => 97 + ((a + (k : Int) * (1 + b)) % 26).toNat)) [.own true [.int n2], .d CD, .d (.int a), .d (.int (1 + b)), .no, .no, .no, .no, .no, .no, .no, .no, .no, .no, .no, .no] := by
  have az := abc_z
  have e1 : sgs ((List.range N).map fun k : Nat => 97 + ((a + (k : Int) * (1 + b)) % 26).toNat) = (List.range N).map fun k : Nat => PyData.str (sg1 (97 + ((a + (k : Int) * (1 + b)) % 26).toNat)) := by
    unfold sgs
    rw [List.map_map, List.map_map]
    rfl
  rw [e1]
  refine lc_mapM (h := put 13) (fe := ce__law_spelled_0) (vs := [13]) (fun k : Nat => PyData.int (0 + (k : Int))) _ (fun k hk => ?_) (by rw [List.length_range]; omega)
  have hk := List.mem_range.mp hk
  have hmul : mulOk (k : Int) (1 + b) = true := by
    have : Dt.bits (k : Int) ≤ 64 := bits_le (by omega)
    simp [mulOk, this]
  have e0 : (0 : Int) + (k : Int) = (k : Int) := Int.zero_add _
  rw [e0]
  generalize ((k : Nat) : Int) = K at *
  have hat := abc_at (i := (a + K * (1 + b)) % 26) (by omega) (by omega)
  refine ⟨[.own true [.int n2], .d CD, .d (.int a), .d (.int (1 + b)), .no, .no, .no, .no, .no, .no, .no, .no, .no, .d (.int K), .no, .no], [.own true [.int n2], .d CD, .d (.int a), .d (.int (1 + b)), .no, .no, .no, .no, .no, .no, .no, .no, .no, .d (.int K), .no, .no], by simp [put_eq], ?_, by simp⟩
  simp [ce__law_spelled_0, hmul, az, sizeLine, hat]
theorem spell1 (n2 a b : Int) (s : Str) (CD : Pd) (ei0 : ixD CD (.int 0) = some (.str s)) (hz : s.length ≤ 16777216) (ds : List Nat) (hdl : ds.length = (tl s).length) (h3 : ds.length ≤ 3) :
    lcRun (put 13) (fun ρ => R.ok true ρ) ce__law_spelled_1 [13] (nums 0 ds.length) [] [.own true [.int n2], .d CD, .d (.int a), .d (.int (1 + b)), .d (.list (sgs ds)), .no, .no, .no, .no, .no, .no, .no, .no, .no, .no, .no] = .ok (((tl s).zip ds).map fun p => PyData.tuple [.str (sg1 p.1), .str (sg1 p.2)]) [.own true [.int n2], .d CD, .d (.int a), .d (.int (1 + b)), .d (.list (sgs ds)), .no, .no, .no, .no, .no, .no, .no, .no, .no, .no, .no] := by
    have e1 : (((tl s).zip ds).map fun p => PyData.tuple [.str (sg1 p.1), .str (sg1 p.2)]) = (List.range ds.length).map fun k => PyData.tuple [.str (sg1 ((tl s)[k]?.getD 0)), .str (sg1 (ds[k]?.getD 0))] := by
      apply List.ext_getElem
      · rw [List.length_map, List.length_zip, List.length_map, List.length_range]; omega
      · intro k h1 h2
        have hk : k < ds.length := by rw [List.length_map, List.length_range] at h2; exact h2
        have hk2 : k < (tl s).length := by omega
        rw [List.getElem_map, List.getElem_map, List.getElem_zip, List.getElem_range, List.getElem?_eq_getElem hk2, List.getElem?_eq_getElem hk]
        rfl
    rw [e1]
    refine lc_mapM (h := put 13) (fe := ce__law_spelled_1) (vs := [13]) (fun k : Nat => PyData.int (0 + (k : Int))) _ (fun k hk => ?_) (by rw [List.length_range]; omega)
    have hk := List.mem_range.mp hk
    have hk2 : k < (tl s).length := by omega
    have h1 : atI s.cps.toList (k : Int) = some ((tl s)[k]?.getD 0) := by
      rw [List.getElem?_eq_getElem hk2]
      exact atI_nat (xs := tl s) hk2
    have h2 : atI (sgs ds) (k : Int) = some (.str (sg1 (ds[k]?.getD 0))) := by
      rw [atI_nat (by rw [sgs_len]; exact hk), List.getElem?_eq_getElem hk]
      simp [sgs]
    refine ⟨[.own true [.int n2], .d CD, .d (.int a), .d (.int (1 + b)), .d (.list (sgs ds)), .no, .no, .no, .no, .no, .no, .no, .no, .d (.int (k : Int)), .no, .no], [.own true [.int n2], .d CD, .d (.int a), .d (.int (1 + b)), .d (.list (sgs ds)), .no, .no, .no, .no, .no, .no, .no, .no, .d (.int (k : Int)), .no, .no], by simp [put_eq], ?_, by simp⟩
    simp [ce__law_spelled_1, ei0, hz, sizeLine, h1, h2]
def spHead : Rho → R Fl := (fSeq (fAsg (fCallP 1 0 m__law_take (fCons (fC (.int 26)) fNil)) (put 2))
  (fSeq (fAsg (f2 addD (fC (.int 1)) (fCallP 1 0 m__law_take (fCons (fC (.int 12)) fNil))) (put 3))
  (fAsg (fL (fCBL sortedD (fCons (fL (fLc (fRng1 (fCons (fCB lenD (fCons (f2 ixD (fVar 1) (fC (.int 0))) fNil)) fNil)) (put 13) (fun ρ => .ok true ρ) ce__law_spelled_0 [13])) fNil))) (put 4))))
def spTail (g : Rho → R (List Pd)) : Rho → R Fl := (fSeq (fAsg (fCB dictD (fCons (f2 addD (fL g) (fL (fLst (fCons (fTup (fCons (fC (.str "#")) (fCons (fC (.str "#")) fNil))) fNil)))) fNil)) (put 5))
  (fSeq (fSetO (fLst fNil) 6)
  (fSeq (fFor (fItT (f2 ixD (fVar 1) (fC (.int 1)))) (putTup 2 (putCons (put 7) (putCons (put 8) putNil))) fb__law_spelled_2)
  (fRet (fTup (fCons (fM1 joinD (fC (.str "")) (fL (fLc (fItS (f2 ixD (fVar 1) (fC (.int 0)))) (put 14) (fun ρ => .ok true ρ) ce__law_spelled_6 [14]))) (fCons (fCB tupleA (fCons (fOwn 6) fNil)) fNil)))))))
theorem spell_head {n n1 n2 a b M : Int} {D : Pd} {s : Str} {CS DS : List Pd}
  (ea : m__law_take [.own true [.int n], .d (.int 26)] = .ok (.d (.int a)) [.own true [.int n1], .d (.int 26)])
  (eb : m__law_take [.own true [.int n1], .d (.int 12)] = .ok (.d (.int b)) [.own true [.int n2], .d (.int 12)])
  (ei0 : ixD D (.int 0) = some (.str s)) (hz : s.length ≤ 16777216) (hM : (s.length : Int) = M) (hr1 : -4611686018427387904 ≤ M) (hr2 : M < 4611686018427387904)
  (key0 : lcRun (put 13) (fun ρ => R.ok true ρ) ce__law_spelled_0 [13] (nums 0 M.toNat) [] [.own true [.int n2], .d D, .d (.int a), .d (.int (1 + b)), .no, .no, .no, .no, .no, .no, .no, .no, .no, .no, .no, .no] = .ok CS [.own true [.int n2], .d D, .d (.int a), .d (.int (1 + b)), .no, .no, .no, .no, .no, .no, .no, .no, .no, .no, .no, .no])
  (es : sortedD [.list CS] = some DS) :
  spHead [.own true [.int n], .d D, .no, .no, .no, .no, .no, .no, .no, .no, .no, .no, .no, .no, .no, .no] = .ok .nx [.own true [.int n2], .d D, .d (.int a), .d (.int (1 + b)), .d (.list DS), .no, .no, .no, .no, .no, .no, .no, .no, .no, .no, .no] := by
  simp [spHead, ea, put_eq, eb, ei0, hz, sizeLine, hM, hr1, hr2, key0, es]
theorem spell_t1 {n2 a b M2 : Int} {D : Pd} {DS PZ : List Pd}
  (hM2 : (DS.length : Int) = M2) (hr1 : -4611686018427387904 ≤ M2) (hr2 : M2 < 4611686018427387904)
  (key1 : lcRun (put 13) (fun ρ => R.ok true ρ) ce__law_spelled_1 [13] (nums 0 M2.toNat) [] [.own true [.int n2], .d D, .d (.int a), .d (.int b), .d (.list DS), .no, .no, .no, .no, .no, .no, .no, .no, .no, .no, .no] = .ok PZ [.own true [.int n2], .d D, .d (.int a), .d (.int b), .d (.list DS), .no, .no, .no, .no, .no, .no, .no, .no, .no, .no, .no])
  :
  (fLc (fRng1 (fCons (fCB lenD (fCons (fVar 4) fNil)) fNil)) (put 13) (fun ρ => .ok true ρ) ce__law_spelled_1 [13]) [.own true [.int n2], .d D, .d (.int a), .d (.int b), .d (.list DS), .no, .no, .no, .no, .no, .no, .no, .no, .no, .no, .no] = .ok PZ [.own true [.int n2], .d D, .d (.int a), .d (.int b), .d (.list DS), .no, .no, .no, .no, .no, .no, .no, .no, .no, .no, .no] := by
  simp [put_eq, hM2, hr1, hr2, key1, sizeLine]
theorem spell_t2 {n2 a b : Int} {D CL : Pd} {DS PZ : List Pd} {g : Rho → R (List Pd)}
  (t1 : g [.own true [.int n2], .d D, .d (.int a), .d (.int b), .d (.list DS), .no, .no, .no, .no, .no, .no, .no, .no, .no, .no, .no] = .ok PZ [.own true [.int n2], .d D, .d (.int a), .d (.int b), .d (.list DS), .no, .no, .no, .no, .no, .no, .no, .no, .no, .no, .no])
  (hlz : PZ.length + 1 ≤ 16777216) (hdict : dictD [.list (PZ ++ [.tuple [.str (S "#"), .str (S "#")]])] = some CL) :
  (fAsg (fCB dictD (fCons (f2 addD (fL g) (fL (fLst (fCons (fTup (fCons (fC (.str "#")) (fCons (fC (.str "#")) fNil))) fNil)))) fNil)) (put 5)) [.own true [.int n2], .d D, .d (.int a), .d (.int b), .d (.list DS), .no, .no, .no, .no, .no, .no, .no, .no, .no, .no, .no] = .ok .nx [.own true [.int n2], .d D, .d (.int a), .d (.int b), .d (.list DS), .d CL, .no, .no, .no, .no, .no, .no, .no, .no, .no, .no] := by
  simp [put_eq, t1, sizeLine, hlz, hdict, -dictD_list]
theorem spell_t3 {n2 a b : Int} {D CL : Pd} {s s' : Str} {DS W : List Pd} {t7 t8 t9 t10 t11 t12 : Sl}
  (ei0 : ixD D (.int 0) = some (.str s)) 
  (r : lcRun (put 14) (fun ρ => R.ok true ρ) ce__law_spelled_6 [14] (chars s) [] [.own true [.int n2], .d D, .d (.int a), .d (.int b), .d (.list DS), .d CL, .own false W, t7, t8, t9, t10, t11, t12, .no, .no, .no] = .ok DS [.own true [.int n2], .d D, .d (.int a), .d (.int b), .d (.list DS), .d CL, .own false W, t7, t8, t9, t10, t11, t12, .no, .no, .no])
  (hj : joinD (.str (Str.ofString "")) [.list DS] = some (.str s')) :
  (fRet (fTup (fCons (fM1 joinD (fC (.str "")) (fL (fLc (fItS (f2 ixD (fVar 1) (fC (.int 0)))) (put 14) (fun ρ => .ok true ρ) ce__law_spelled_6 [14]))) (fCons (fCB tupleA (fCons (fOwn 6) fNil)) fNil)))) [.own true [.int n2], .d D, .d (.int a), .d (.int b), .d (.list DS), .d CL, .own false W, t7, t8, t9, t10, t11, t12, .no, .no, .no] = .ok (.rt (.tuple [.str s', .tuple W])) [.own true [.int n2], .d D, .d (.int a), .d (.int b), .d (.list DS), .d CL, .own false W, t7, t8, t9, t10, t11, t12, .no, .no, .no] := by
  simp [sizeLine, ei0, r, hj]
theorem spell_tail {n2 a b : Int} {g : Rho → R (List Pd)} {D CL : Pd} {s s' : Str} {DS PZ WD W : List Pd} {t7 t8 t9 t10 t11 t12 : Sl}
  (ei0 : ixD D (.int 0) = some (.str s)) (ei1 : ixD D (.int 1) = some (.tuple WD))
  (q1 : g [.own true [.int n2], .d D, .d (.int a), .d (.int b), .d (.list DS), .no, .no, .no, .no, .no, .no, .no, .no, .no, .no, .no] = .ok PZ [.own true [.int n2], .d D, .d (.int a), .d (.int b), .d (.list DS), .no, .no, .no, .no, .no, .no, .no, .no, .no, .no, .no])
  (hlz : PZ.length + 1 ≤ 16777216) (hdict : dictD [.list (PZ ++ [.tuple [.str (S "#"), .str (S "#")]])] = some CL)
  (e : forRun (putTup 2 (putCons (put 7) (putCons (put 8) putNil))) fb__law_spelled_2 WD (R16 n2 D a b (.list DS) CL [] .no .no .no .no .no .no .no .no .no) = .ok .nx (R16 n2 D a b (.list DS) CL W t7 t8 t9 t10 t11 t12 .no .no .no))
  (r : lcRun (put 14) (fun ρ => R.ok true ρ) ce__law_spelled_6 [14] (chars s) [] (R16 n2 D a b (.list DS) CL W t7 t8 t9 t10 t11 t12 .no .no .no) = .ok DS (R16 n2 D a b (.list DS) CL W t7 t8 t9 t10 t11 t12 .no .no .no))
  (hj : joinD (.str (Str.ofString "")) [.list DS] = some (.str s')) :
  spTail g [.own true [.int n2], .d D, .d (.int a), .d (.int b), .d (.list DS), .no, .no, .no, .no, .no, .no, .no, .no, .no, .no, .no] = .ok (.rt (cdW s' (.tuple W))) (R16 n2 D a b (.list DS) CL W t7 t8 t9 t10 t11 t12 .no .no .no) := by
  have q2 := spell_t2 q1 hlz hdict
  have q3 : fSetO (fLst fNil) 6 [.own true [.int n2], .d D, .d (.int a), .d (.int b), .d (.list DS), .d CL, .no, .no, .no, .no, .no, .no, .no, .no, .no, .no] = .ok .nx [.own true [.int n2], .d D, .d (.int a), .d (.int b), .d (.list DS), .d CL, .own false [], .no, .no, .no, .no, .no, .no, .no, .no, .no] := by simp [putOwn_eq, sizeLine]
  have q4 : fFor (fItT (f2 ixD (fVar 1) (fC (.int 1)))) (putTup 2 (putCons (put 7) (putCons (put 8) putNil))) fb__law_spelled_2 [.own true [.int n2], .d D, .d (.int a), .d (.int b), .d (.list DS), .d CL, .own false [], .no, .no, .no, .no, .no, .no, .no, .no, .no] = .ok .nx (R16 n2 D a b (.list DS) CL W t7 t8 t9 t10 t11 t12 .no .no .no) := by
    simp only [fFor_ap, fItT_ap, f2_ap, fVar_ap, fC_ap]
    simp [ei1, e]
  have q5 := spell_t3 ei0 r hj
  unfold spTail
  simp only [fSeq_ap, q2, q3, q4]
  exact q5
theorem m_spelled (n : Int) {m : Nat} {c : Code} (hc : c.Ok m) (hm : m ≤ 100) : ∃ (n' : Int) (s' : Str) (W : Pd), SgOk s' ∧ m__law_spelled [.own true [.int n], .d c.d] = .ok (.d (cdW s' W)) [.own true [.int n'], .d c.d] := by
  have l1 := hc.s.l1
  have l3 := hc.s.l3
  have hsl := len_tl c.s
  have hz : c.s.length ≤ 16777216 := by omega
  obtain ⟨a, n1, a0, a1, ea⟩ := take_ex n 26 (by omega) (by omega)
  obtain ⟨b, n2, b0, b1, eb⟩ := take_ex n1 12 (by omega) (by omega)
  -- the letters
  have az := abc_z
  let cs : List Nat := (List.range (tl c.s).length).map fun k : Nat => 97 + ((a + (k : Int) * (1 + b)) % 26).toNat
  have hcl : cs.length = (tl c.s).length := by simp [cs]
  have key0 := spell0 n2 a b a0 b0 c.d (tl c.s).length l3
  have ecs : ((List.range (tl c.s).length).map fun k : Nat => 97 + ((a + (k : Int) * (1 + b)) % 26).toNat) = cs := rfl
  rw [ecs] at key0
  have hnd : cs.Nodup := by
    refine nodup_range fun i j hij hj e => ?_
    have hj3 : j ≤ 2 := by omega
    have : i = 0 ∧ j = 1 ∨ i = 0 ∧ j = 2 ∨ i = 1 ∧ j = 2 := by omega
    rcases this with ⟨rfl, rfl⟩ | ⟨rfl, rfl⟩ | ⟨rfl, rfl⟩ <;> simp at e <;> omega
  obtain ⟨ds, hperm, hsort, es⟩ := sort_signs cs (by omega)
  have hdl : ds.length = (tl c.s).length := by rw [hperm.length_eq, hcl]
  have hdn : ds.Nodup := hperm.nodup_iff.mpr hnd
  have hris : ds.Pairwise (· < ·) := by
    have := List.Pairwise.and hsort hdn
    exact this.imp fun {x y} h => by omega
  have hlet : ∀ x ∈ ds, 97 ≤ x ∧ x ≤ 122 := by
    intro x hx
    obtain ⟨k, _, rfl⟩ := List.mem_map.mp (hperm.mem_iff.mp hx)
    omega
  -- the dict
  let L : List (Nat × Nat) := (tl c.s).zip ds ++ [(35, 35)]
  have hkeys : L.map Prod.fst = tl c.s ++ [35] := by
    show ((tl c.s).zip ds ++ [(35, 35)]).map Prod.fst = _
    rw [List.map_append, List.map_fst_zip (by omega)]
    rfl
  have hkn : (L.map Prod.fst).Nodup := by
    rw [hkeys, List.nodup_append]
    refine ⟨hc.s.ris.imp fun {x y} h => by omega, by simp, fun x hx y hy => ?_⟩
    have := hc.s.let' x hx
    rw [List.mem_singleton.mp hy]
    omega
  have hL : ∀ x, x ∈ tl c.s ∨ x = 35 → x ∈ L.map Prod.fst := by
    intro x hx
    rw [hkeys]
    rcases hx with hx | rfl
    · exact List.mem_append_left _ hx
    · simp
  have hdict := dict_call L hkn
  have cd : c.d = .tuple [.str c.s, .tuple (c.ws.map Wish.d)] := rfl
  have ei0 : ixD c.d (.int 0) = some (.str c.s) := by rw [cd]; simp [at0]
  have ei1 : ixD c.d (.int 1) = some (.tuple (c.ws.map Wish.d)) := by rw [cd]; simp [at1]
  have key1 := spell1 n2 a b c.s c.d ei0 hz ds hdl (by omega)
  have hmap : (((tl c.s).zip ds).map fun p => PyData.tuple [.str (sg1 p.1), .str (sg1 p.2)]) ++ [.tuple [.str (S "#"), .str (S "#")]] = L.map fun p => PyData.tuple [.str (sg1 p.1), .str (sg1 p.2)] := by
    show _ = ((tl c.s).zip ds ++ [(35, 35)]).map _
    rw [List.map_append]
    have : S "#" = sg1 35 := by decide +kernel
    rw [this]
    rfl
  have hlz : (((tl c.s).zip ds).map fun p => PyData.tuple [.str (sg1 p.1), .str (sg1 p.2)]).length + 1 ≤ 16777216 := by
    rw [List.length_map, List.length_zip]
    omega
  -- the wishes
  have hwl := hc.lm
  obtain ⟨ρ', e, W, t7, t8, t9, t10, t11, t12, hWl, h7, h8, h9, h10, h11, h12, rfl⟩ := for_inv (h := putTup 2 (putCons (put 7) (putCons (put 8) putNil))) (fb := fb__law_spelled_2) (xs := c.ws.map Wish.d) (ρ := R16 n2 c.d a (1 + b) (.list (sgs ds)) (callD L) [] .no .no .no .no .no .no .no .no .no)
    (fun i ρ => ∃ (W : List Pd) (t7 t8 t9 t10 t11 t12 : Sl), W.length = i ∧ isIo t7 = false ∧ isIo t8 = false ∧ isIo t9 = false ∧ isIo t10 = false ∧ isIo t11 = false ∧ isIo t12 = false ∧ ρ = R16 n2 c.d a (1 + b) (.list (sgs ds)) (callD L) W t7 t8 t9 t10 t11 t12 .no .no .no)
    (fun i x ρ hx hI => by
      obtain ⟨W, t7, t8, t9, t10, t11, t12, hWl, h7, h8, h9, h10, h11, h12, rfl⟩ := hI
      rw [List.getElem?_map] at hx
      obtain ⟨w, hw, rfl⟩ := Option.map_eq_some_iff.mp hx
      have hi : i < c.ws.length := (List.getElem?_eq_some_iff.mp hw).1
      obtain ⟨X, u9, u10, u11, u12, j9, j10, j11, j12, e⟩ := spell_wish hc.s hL w (hc.ws w (List.mem_of_getElem? hw)) W (by omega) (n := n2) (CD := c.d) (a := a) (b := 1 + b) (LT := .list (sgs ds)) h9 h10 h11 h12
      exact ⟨R16 n2 c.d a (1 + b) (.list (sgs ds)) (callD L) W (.d (.str w.n)) (.d (.tuple (w.ps.map Pat.d))) t9 t10 t11 t12 .no .no .no, _, by simp [Wish.d, put_eq, h7, h8], .inl e, W ++ [X], _, _, u9, u10, u11, u12, by simp [hWl], rfl, rfl, j9, j10, j11, j12, rfl⟩)
    ⟨[], .no, .no, .no, .no, .no, .no, rfl, rfl, rfl, rfl, rfl, rfl, rfl, rfl⟩
  -- the signs
  have r := called_run (tl c.s) L (fun x hx => hL x (.inl hx)) (by omega) (n := n2) (CD := c.d) (a := a) (b := 1 + b) (LT := .list (sgs ds)) (W := W) (s7 := t7) (s8 := t8) (s9 := t9) (s10 := t10) (s11 := t11) (s12 := t12) (s13 := .no) (s15 := .no)
  rw [← chars_sgs] at r
  have hj := join_sgs ((tl c.s).map (lkS L)) (by rw [List.length_map]; omega)
  have hsd : (tl c.s).map (lkS L) = ds := by
    have gen : ∀ (xs ys : List Nat), xs.length = ys.length → xs.Nodup → ∀ tail : List (Nat × Nat), xs.map (lkS (xs.zip ys ++ tail)) = ys := by
      intro xs
      induction xs with
      | nil => intro ys h _ _; cases ys with | nil => rfl | cons _ _ => simp at h
      | cons x xs ih =>
        intro ys h hn tail
        cases ys with
        | nil => simp at h
        | cons y ys =>
          have hn' := List.nodup_cons.mp hn
          rw [List.map_cons]
          have e1 : lkS ((x :: xs).zip (y :: ys) ++ tail) x = y := by simp [lkS, List.lookup]
          rw [e1]
          congr 1
          rw [← ih ys (by simpa using h) hn'.2 tail]
          refine List.map_congr_left fun z hz => ?_
          have : (z == x) = false := by
            simp only [beq_eq_false_iff_ne]
            intro e
            rw [e] at hz
            exact hn'.1 hz
          rw [ih ys (by simpa using h) hn'.2 tail]
          simp [lkS, List.lookup, this]
    exact gen (tl c.s) ds hdl.symm (hc.s.ris.imp fun {x y} h => by omega) [(35, 35)]
  rw [hsd] at hj
  have r' : lcRun (put 14) (fun ρ => R.ok true ρ) ce__law_spelled_6 [14] (chars c.s) [] (R16 n2 c.d a (1 + b) (.list (sgs ds)) (callD L) W t7 t8 t9 t10 t11 t12 .no .no .no) = .ok (sgs ds) (R16 n2 c.d a (1 + b) (.list (sgs ds)) (callD L) W t7 t8 t9 t10 t11 t12 .no .no .no) := by
    rw [hsd] at r
    exact r
  refine ⟨n2, ofL ds, .tuple W, ⟨?_, ?_, hlet, hris⟩, ?_⟩
  · rw [tl_ofL]; omega
  · rw [tl_ofL]; omega
  have hsl2 : (sgs ds).length = ds.length := sgs_len ds
  rw [← hmap] at hdict
  rw [← hsl] at key0
  obtain ⟨M, hM⟩ : ∃ M : Int, (c.s.length : Int) = M := ⟨_, rfl⟩
  obtain ⟨M2, hM2⟩ : ∃ M : Int, ((sgs ds).length : Int) = M := ⟨_, rfl⟩
  have hr : (-4611686018427387904 : Int) ≤ M ∧ M < 4611686018427387904 := by omega
  have hr2 : (-4611686018427387904 : Int) ≤ M2 ∧ M2 < 4611686018427387904 := by omega
  have q0 : c.s.length = M.toNat := by omega
  have q1 : ds.length = M2.toNat := by omega
  rw [q0] at key0
  rw [q1] at key1
  have hh := spell_head (D := c.d) ea eb ei0 hz hM hr.1 hr.2 key0 es
  have ht := spell_tail (D := c.d) (s' := ofL ds) ei0 ei1 (spell_t1 hM2 hr2.1 hr2.2 key1) hlz hdict e r' hj
  have ew : w__law_spelled [.own true [.int n], .d c.d, .no, .no, .no, .no, .no, .no, .no, .no, .no, .no, .no, .no, .no, .no] = .ok (.rt (cdW (ofL ds) (.tuple W))) (R16 n2 c.d a (1 + b) (.list (sgs ds)) (callD L) W t7 t8 t9 t10 t11 t12 .no .no .no) := (seq3 (T := spTail (fLc (fRng1 (fCons (fCB lenD (fCons (fVar 4) fNil)) fNil)) (put 13) (fun ρ => .ok true ρ) ce__law_spelled_1 [13])) hh).trans ht
  show endF _ (w__law_spelled [.own true [.int n], .d c.d, .no, .no, .no, .no, .no, .no, .no, .no, .no, .no, .no, .no, .no, .no]) = _
  rw [ew]
  rfl
end Lw
namespace Lw
open PySem PySem.Spec L2 Evl Dt
open TL (tl joinL tl_join tl_ofString join_eq tl_append len_tl)
/-! ### tellings as texts -/
def showS (t : Stp) : List Nat := if t.a = t.b then t.a else t.a ++ 62 :: t.b
def showT (ts : List Stp) : List Nat := if ts = [] then [45] else joinL [32] (ts.map showS)
theorem ofL_app (a b : List Nat) : ofL a ++ ofL b = ofL (a ++ b) := by
  refine str_ext ?_
  rw [tl_append, tl_ofL, tl_ofL, tl_ofL]
theorem ofL_inj {a b : List Nat} : ofL a = ofL b ↔ a = b := by
  constructor
  · intro h; exact congrArg tl h
  · intro h; rw [h]
theorem S_gt : S ">" = ofL [62] := by decide +kernel
theorem S_sp : S " " = ofL [32] := by decide +kernel
theorem S_mi : S "-" = ofL [45] := by decide +kernel
theorem m_showstep (t : Stp) (ha : t.a.length ≤ 1000) (hb : t.b.length ≤ 1000) : m_show_step [.d t.d] = .ok (.d (.str (ofL (showS t)))) [.d t.d] := by
  have la : (ofL t.a).length = t.a.length := by rw [len_tl, tl_ofL]
  have lb : (ofL t.b).length = t.b.length := by rw [len_tl, tl_ofL]
  have l1 : (S ">").length = 1 := by decide +kernel
  have e0 := apl (ofL t.a) (S ">")
  unfold Stp.d showS
  by_cases h : t.a = t.b
  · rw [h]
    simp [m_show_step, gOf, w_show_step, at0, at1]
  · have ne : ¬ (ofL t.a = ofL t.b) := fun e => h (ofL_inj.mp e)
    have z1 : (ofL t.a).length + (S ">").length ≤ 16777216 := by omega
    have z2 : (ofL t.a ++ S ">").length + (ofL t.b).length ≤ 16777216 := by omega
    have e : ofL t.a ++ S ">" ++ ofL t.b = ofL (t.a ++ 62 :: t.b) := by
      rw [S_gt, ofL_app, ofL_app]
      simp
    rw [if_neg h]
    simp [m_show_step, gOf, w_show_step, at0, at1, ne, sizeLine, z1, z2, e]
theorem sh_stps {s : Str} (hs : SgOk s) {ts : List Stp} (hts : ∀ t ∈ ts, t.Ok s) (n : Nat) : sh (n + 2) (.tuple (ts.map Stp.d)) = true := by
  rw [sh_tuple, List.all_map, List.all_eq_true]
  intro t ht
  obtain ⟨h1, h2⟩ := stp_ok hs (hts t ht)
  show sh (n + 1) (.tuple [.str (ofL t.a), .str (ofL t.b)]) = true
  rw [sh_tuple]
  simp [h1, h2]
theorem eq_nil {s : Str} (hs : SgOk s) {ts : List Stp} (hts : ∀ t ∈ ts, t.Ok s) : eqD (telD ts) (.tuple []) = some (.bool (decide (ts = []))) := by
  have h1 := sh_stps hs hts 58
  cases ts with
  | nil => simp [eqD, eqB_tuple, sh_tuple, PyData.eqvAll]
  | cons t ts =>
    simp only [telD, List.map_cons] at *
    simp [eqD, eqB_tuple, h1, PyData.eqvAll]
    rw [sh_tuple]
    rfl
theorem join_len (l : List (List Nat)) (h : ∀ x ∈ l, x.length ≤ 10) : ((l.map ofL).map (·.length)).sum ≤ 10 * l.length := by
  rw [List.map_map]
  induction l with
  | nil => simp
  | cons a l ih =>
    have := ih fun x hx => h x (List.mem_cons_of_mem _ hx)
    have ha := h a List.mem_cons_self
    have el : (ofL a).length = a.length := by rw [len_tl, tl_ofL]
    simp only [List.map_cons, List.sum_cons, List.length_cons, Function.comp_apply] at this ⊢
    omega
theorem join_sp (y : List Nat) (hy : y.length ≤ 10) (l : List (List Nat)) (hl : l.length ≤ 1000) (h : ∀ x ∈ l, x.length ≤ 10) : joinD (.str (ofL y)) [.list (l.map fun x => PyData.str (ofL x))] = some (.str (ofL (joinL y l))) := by
  have e : (l.map fun x => PyData.str (ofL x)) = (l.map ofL).map PyData.str := by rw [List.map_map]; rfl
  have hj := join_len l h
  have ly : (ofL y).length = y.length := by rw [len_tl, tl_ofL]
  rw [e]
  simp only [joinD]
  rw [strsD_map]
  simp only
  rw [if_pos]
  · congr 2
    rw [join_eq]
    refine str_ext ?_
    rw [tl_join, tl_ofL, tl_ofL, List.map_map]
    congr 1
    conv => rhs; rw [← List.map_id l]
    exact List.map_congr_left fun _ _ => rfl
  · rw [List.length_map, ly]
    show _ ≤ 16777216
    have : l.length * y.length ≤ 1000 * 10 := Nat.mul_le_mul hl hy
    omega
theorem showS_len {s : Str} {t : Stp} (h : t.Ok s) : (showS t).length ≤ 3 := by
  have := h.a1
  have := h.b1
  unfold showS
  split
  · omega
  · rw [List.length_append, List.length_cons]; omega
theorem m_show {s : Str} (hs : SgOk s) {ts : List Stp} (hl : ts.length ≤ 1000) (hts : ∀ t ∈ ts, t.Ok s) : m_show_telling [.d (telD ts)] = .ok (.d (.str (ofL (showT ts)))) [.d (telD ts)] := by
  have he := eq_nil hs hts
  by_cases h : ts = []
  · subst h
    have e1 : ofL (showT []) = S "-" := S_mi.symm
    rw [e1]
    simp only [telD, List.map_nil] at *
    simp [m_show_telling, gOf, w_show_telling, sizeLine, he]
  · rw [decide_eq_false h] at he
    have key := lc_mapM (h := put 1) (fe := ce_show_telling_0) (vs := [1]) Stp.d (fun t => .str (ofL (showS t))) (ρ := [.d (telD ts), .no]) (l := ts) (fun t ht => by
      have ho := hts t ht
      have ms := m_showstep t (by have := ho.a1; omega) (by have := ho.b1; omega)
      exact ⟨[.d (telD ts), .d t.d], [.d (telD ts), .d t.d], by simp [put_eq], by simp [ce_show_telling_0, ms], by simp⟩) (by omega)
    have hj := join_sp [32] (by simp) (ts.map showS) (by rw [List.length_map]; omega) (fun x hx => by
      obtain ⟨t, ht, rfl⟩ := List.mem_map.mp hx
      have := showS_len (hts t ht)
      omega)
    rw [← S_sp, List.map_map] at hj
    have hj' : joinD (.str (S " ")) [.list (ts.map fun t => PyData.str (ofL (showS t)))] = some (.str (ofL (joinL [32] (ts.map showS)))) := hj
    have e1 : showT ts = joinL [32] (ts.map showS) := if_neg h
    rw [e1]
    simp only [telD] at *
    generalize ts.map Stp.d = TD at *
    generalize (ts.map fun t => PyData.str (ofL (showS t))) = KD at *
    simp [m_show_telling, gOf, w_show_telling, sizeLine, he, key, hj']
end Lw
namespace Lw
open PySem PySem.Spec L2 Evl Dt
open TL (tl joinL tl_join tl_ofString join_eq tl_append len_tl)
/-! ### tellings read -/
theorem tl_gt : tl (S ">") = [62] := by decide +kernel
theorem tl_sp : tl (S " ") = [32] := by decide +kernel
theorem gt_len : ((S ">").length == 0) = false := by decide +kernel
theorem sp_len : ((S " ").length == 0) = false := by decide +kernel
theorem gt_ne : ¬ (S ">" = S "") := by decide +kernel
theorem empty_eq : Str.empty = S "" := by decide +kernel
theorem m_stepin {s : Str} (hs : SgOk s) {t : Stp} (h : t.Ok s) : m_step_in [.d (.str (ofL (showS t)))] = .ok (.d t.d) [.d (.str (ofL (showS t)))] := by
  have hl := showS_len h
  have z : (ofL (showS t)).length ≤ 16777216 := by rw [len_tl, tl_ofL]; omega
  have g1 := gt_len
  have g2 := gt_ne
  have na : 62 ∉ t.a := fun hx => by have := hs.let' 62 (h.ina 62 hx); omega
  unfold Stp.d
  by_cases e : t.a = t.b
  · have es : showS t = t.a := if_pos e
    rw [es] at z ⊢
    have hp := TL.partition_none tl_gt (a := ofL t.a) na
    rw [empty_eq] at hp
    have h1 : (Txt.partition (ofL t.a) (S ">")).1 = ofL t.a := by rw [hp]
    have h2 : (Txt.partition (ofL t.a) (S ">")).2.1 = S "" := by rw [hp]
    have h3 : (Txt.partition (ofL t.a) (S ">")).2.2 = S "" := by rw [hp]
    rw [← e]
    simp [m_step_in, gOf, w_step_in, g1, sizeLine, z, h1, h2, h3, put_eq]
  · have es : showS t = t.a ++ 62 :: t.b := if_neg e
    have hp := TL.partition_app tl_gt (a := ofL t.a) (b := ofL t.b) na
    have ej : ofL t.a ++ S ">" ++ ofL t.b = ofL (showS t) := by
      rw [S_gt, ofL_app, ofL_app, es]
      simp
    rw [ej] at hp
    have ne : ¬ (ofL t.a = ofL t.b) := fun z => e (ofL_inj.mp z)
    have h1 : (Txt.partition (ofL (showS t)) (S ">")).1 = ofL t.a := by rw [hp]
    have h2 : (Txt.partition (ofL (showS t)) (S ">")).2.1 = S ">" := by rw [hp]
    have h3 : (Txt.partition (ofL (showS t)) (S ">")).2.2 = ofL t.b := by rw [hp]
    generalize ofL (showS t) = TX at *
    simp [m_step_in, gOf, w_step_in, g1, sizeLine, z, h1, h2, h3, put_eq, g2, ne]
theorem showS_no {s : Str} (hs : SgOk s) {t : Stp} (h : t.Ok s) : showS t ≠ [] ∧ ∀ x ∈ showS t, x = 62 ∨ 97 ≤ x := by
  have hin : ∀ x ∈ t.a ++ t.b, 97 ≤ x := by
    intro x hx
    rcases List.mem_append.mp hx with hx | hx
    · exact (hs.let' x (h.ina x hx)).1
    · exact (hs.let' x (h.inb x hx)).1
  unfold showS
  by_cases e : t.a = t.b
  · rw [if_pos e]
    refine ⟨fun z => ?_, fun x hx => .inr (hin x (List.mem_append_left _ hx))⟩
    apply h.ne
    rw [← e, z]
    rfl
  · rw [if_neg e]
    refine ⟨by simp, fun x hx => ?_⟩
    rcases List.mem_append.mp hx with hx | hx
    · exact .inr (hin x (List.mem_append_left _ hx))
    · rcases List.mem_cons.mp hx with hx | hx
      · exact .inl hx
      · exact .inr (hin x (List.mem_append_right _ hx))
theorem join_mem {y : List Nat} : ∀ {l : List (List Nat)} {x : Nat}, x ∈ joinL y l → x ∈ y ∨ ∃ p ∈ l, x ∈ p
  | [], x, h => by simp [joinL] at h
  | [p], x, h => .inr ⟨p, by simp, h⟩
  | p :: q :: r, x, h => by
    simp only [joinL, List.mem_append] at h
    rcases h with h | h | h
    · exact .inr ⟨p, by simp, h⟩
    · exact .inl h
    · rcases join_mem (l := q :: r) h with h | ⟨z, hz, hx⟩
      · exact .inl h
      · exact .inr ⟨z, List.mem_cons_of_mem _ hz, hx⟩
theorem join_ne {y : List Nat} : ∀ {l : List (List Nat)}, l ≠ [] → (∀ p ∈ l, p ≠ []) → joinL y l ≠ []
  | [], h, _ => absurd rfl h
  | [p], _, h => h p (by simp)
  | p :: q :: r, _, h => by
    intro e
    simp only [joinL, List.append_eq_nil_iff] at e
    exact h p (by simp) e.1
theorem showT_mi {s : Str} (hs : SgOk s) {ts : List Stp} (hts : ∀ t ∈ ts, t.Ok s) (h : ts ≠ []) : ¬ (ofL (showT ts) = S "-") := by
  intro e
  rw [S_mi, ofL_inj] at e
  have e2 : showT ts = joinL [32] (ts.map showS) := if_neg h
  rw [e2] at e
  have hm : 45 ∈ joinL [32] (ts.map showS) := by rw [e]; simp
  rcases join_mem hm with h1 | ⟨p, hp, hx⟩
  · simp at h1
  · obtain ⟨t, ht, rfl⟩ := List.mem_map.mp hp
    rcases (showS_no hs (hts t ht)).2 45 hx with h2 | h2 <;> omega
theorem split_show {s : Str} (hs : SgOk s) {ts : List Stp} (hts : ∀ t ∈ ts, t.Ok s) (h : ts ≠ []) : Txt.split (ofL (showT ts)) (S " ") = ts.map fun t => ofL (showS t) := by
  have e2 : showT ts = joinL [32] (ts.map showS) := if_neg h
  have ej : ofL (showT ts) = Str.join (S " ") (ts.map fun t => ofL (showS t)) := by
    refine str_ext ?_
    rw [tl_join, tl_ofL, tl_sp, e2, List.map_map]
    rfl
  rw [ej, ← join_eq]
  refine TL.split_join (parts := ts.map fun t => ofL (showS t)) tl_sp (by decide +kernel) (by simpa using h) ?_
  intro p hp
  obtain ⟨t, ht, rfl⟩ := List.mem_map.mp hp
  intro hx
  rcases (showS_no hs (hts t ht)).2 32 hx with h2 | h2 <;> omega
theorem showT_len {s : Str} {ts : List Stp} (hts : ∀ t ∈ ts, t.Ok s) : (showT ts).length ≤ 4 * ts.length + 1 := by
  unfold showT
  split
  · simp
  · have : ∀ l : List Stp, (∀ t ∈ l, t.Ok s) → (joinL [32] (l.map showS)).length ≤ 4 * l.length := by
      intro l
      induction l with
      | nil => intro _; simp [joinL]
      | cons t l ih =>
        intro hl
        have h1 := showS_len (hl t List.mem_cons_self)
        have h2 := ih fun u hu => hl u (List.mem_cons_of_mem _ hu)
        cases l with
        | nil => simp [joinL]; omega
        | cons u l =>
          simp only [List.map_cons, joinL, List.length_append, List.length_cons, List.length_nil] at h2 ⊢
          omega
    have := this ts hts
    omega
/-- what the steps of a text are, a telling -/
theorem m_readtel {s : Str} (hs : SgOk s) (W : Pd) {ts : List Stp} (hl : ts.length ≤ 1000) (hts : ∀ t ∈ ts, t.Ok s) (h8 : (ts.flatMap Stp.a).length ≤ 8) : m_read_telling [.d (cdW s W), .d (.str (ofL (showT ts)))] = .ok (.d (telD ts)) [.d (cdW s W), .d (.str (ofL (showT ts)))] := by
  have mt := m_istel W hs (telD ts) (okT_tel hl hts)
  rw [telB_of hts h8] at mt
  by_cases h : ts = []
  · subst h
    have e1 : ofL (showT []) = S "-" := S_mi.symm
    rw [e1]
    simp only [telD, List.map_nil] at *
    generalize cdW s W = CD at *
    simp [m_read_telling, gOf, w_read_telling, put_eq, sizeLine, mt]
  · have hm := showT_mi hs hts h
    have hsp := split_show hs hts h
    have hsl := showT_len hts
    have z : (ofL (showT ts)).length ≤ 16777214 := by rw [len_tl, tl_ofL]; omega
    have g := sp_len
    generalize ofL (showT ts) = TX at *
    have key := lc_mapM (h := put 3) (fe := ce_read_telling_0) (vs := [3]) (fun t : Stp => PyData.str (ofL (showS t))) Stp.d (ρ := [.d (cdW s W), .d (.str TX), .d .none, .no]) (l := ts) (fun t ht => by
      have ms := m_stepin hs (hts t ht)
      refine ⟨[.d (cdW s W), .d (.str TX), .d .none, .d (.str (ofL (showS t)))], [.d (cdW s W), .d (.str TX), .d .none, .d (.str (ofL (showS t)))], by simp [put_eq], ?_, by simp⟩
      generalize ofL (showS t) = TT at *
      simp [ce_read_telling_0, ms]) (by omega)
    have em : (ts.map fun t => ofL (showS t)).map PyData.str = ts.map fun t => PyData.str (ofL (showS t)) := by rw [List.map_map]; rfl
    simp only [telD] at *
    generalize ts.map Stp.d = TD at *
    generalize (ts.map fun t => PyData.str (ofL (showS t))) = KD at *
    generalize cdW s W = CD at *
    simp [m_read_telling, gOf, w_read_telling, put_eq, hm, isStrD, g, sizeLine, z, hsp, em, key, mt, -List.map_map]
end Lw
namespace Lw
open PySem PySem.Spec L2 Evl Dt
open TL (tl joinL tl_join tl_ofString join_eq tl_append len_tl)
/-! ### any text, cut at a sign -/
theorem parts_of (s : Nat) : ∀ l : List Nat, ∃ ps : List (List Nat), ps ≠ [] ∧ (∀ p ∈ ps, s ∉ p) ∧ l = joinL [s] ps ∧ (ps.map fun p => p.length + 1).sum = l.length + 1
  | [] => ⟨[[]], by simp, by simp, rfl, rfl⟩
  | c :: r => by
    obtain ⟨ps, h1, h2, h3, h4⟩ := parts_of s r
    by_cases e : c = s
    · subst e
      refine ⟨[] :: ps, by simp, ?_, ?_, ?_⟩
      · intro p hp
        rcases List.mem_cons.mp hp with rfl | hp
        · simp
        · exact h2 p hp
      · cases ps with
        | nil => exact absurd rfl h1
        | cons p q => show c :: r = [] ++ ([c] ++ joinL [c] (p :: q)); rw [← h3]; rfl
      · rw [List.map_cons, List.sum_cons, h4, List.length_cons, List.length_nil]; omega
    · cases ps with
      | nil => exact absurd rfl h1
      | cons p q =>
        refine ⟨(c :: p) :: q, by simp, ?_, ?_, ?_⟩
        · intro z hz
          rcases List.mem_cons.mp hz with rfl | hz
          · intro hx
            rcases List.mem_cons.mp hx with hx | hx
            · exact e hx.symm
            · exact h2 p (by simp) hx
          · exact h2 z (List.mem_cons_of_mem _ hz)
        · cases q with
          | nil => show c :: r = c :: p; rw [h3]; rfl
          | cons q' r' => show c :: r = c :: (p ++ ([s] ++ joinL [s] (q' :: r'))); rw [h3]; rfl
        · rw [List.map_cons, List.sum_cons] at h4 ⊢
          rw [List.length_cons, List.length_cons]
          omega
theorem tl_ofLs (ps : List (List Nat)) : (ps.map ofL).map tl = ps := by
  rw [List.map_map]
  conv => rhs; rw [← List.map_id ps]
  exact List.map_congr_left fun _ _ => rfl
theorem split_parts {y : Str} {c : Nat} (hy : tl y = [c]) (hk : y.cps.all (· < 256) = true) {ps : List (List Nat)} (h1 : ps ≠ []) (h2 : ∀ p ∈ ps, c ∉ p) : Txt.split (ofL (joinL [c] ps)) y = ps.map ofL := by
  have ej : ofL (joinL [c] ps) = Txt.join y (ps.map ofL) := by
    refine str_ext ?_
    rw [join_eq, tl_join, hy, tl_ofLs, tl_ofL]
  rw [ej]
  exact TL.split_join hy hk (by simpa using h1) (fun p hp => by obtain ⟨q, hq, rfl⟩ := List.mem_map.mp hp; exact h2 q hq)
theorem split_sp (x : Str) : ∃ ps : List (List Nat), Txt.split x (S " ") = ps.map ofL ∧ (ps.map fun p => p.length + 1).sum = x.length + 1 := by
  obtain ⟨ps, h1, h2, h3, h4⟩ := parts_of 32 (tl x)
  refine ⟨ps, ?_, by rw [len_tl]; exact h4⟩
  have ex : x = ofL (joinL [32] ps) := str_ext (by rw [tl_ofL, ← h3])
  conv => lhs; rw [ex]
  exact split_parts tl_sp (by decide +kernel) h1 h2
theorem sum_le {α : Type} (f : α → Nat) : ∀ (l : List α), l.length ≤ (l.map fun p => f p + 1).sum ∧ ∀ p ∈ l, f p + 1 ≤ (l.map fun p => f p + 1).sum
  | [] => by simp
  | a :: l => by
    obtain ⟨h1, h2⟩ := sum_le f l
    rw [List.map_cons, List.sum_cons, List.length_cons]
    refine ⟨by omega, fun p hp => ?_⟩
    rcases List.mem_cons.mp hp with rfl | hp
    · omega
    · have := h2 p hp; omega
/-! ### steps of a text -/
def cutAt : List Nat → Option (List Nat × List Nat)
  | [] => none
  | c :: r => if c = 62 then some ([], r) else (cutAt r).map fun q => (c :: q.1, q.2)
theorem cutAt_none : ∀ {p : List Nat}, cutAt p = none → 62 ∉ p
  | [], _ => by simp
  | c :: r, h => by
    unfold cutAt at h
    split at h
    · cases h
    · rename_i hc
      have := cutAt_none (p := r) (by simpa using h)
      intro hx
      rcases List.mem_cons.mp hx with hx | hx
      · exact hc hx.symm
      · exact this hx
theorem cutAt_some : ∀ {p a b : List Nat}, cutAt p = some (a, b) → p = a ++ 62 :: b ∧ 62 ∉ a
  | [], _, _, h => by cases h
  | c :: r, a, b, h => by
    unfold cutAt at h
    split at h
    · rename_i hc
      cases h
      subst hc
      exact ⟨rfl, by simp⟩
    · rename_i hc
      cases e : cutAt r with
      | none => rw [e] at h; cases h
      | some q =>
        obtain ⟨a', b'⟩ := q
        rw [e] at h
        cases h
        obtain ⟨h1, h2⟩ := cutAt_some e
        refine ⟨by rw [h1]; rfl, fun hx => ?_⟩
        rcases List.mem_cons.mp hx with hx | hx
        · exact hc hx.symm
        · exact h2 hx
def stepL (p : List Nat) : Pd := match cutAt p with
  | none => .tuple [.str (ofL p), .str (ofL p)]
  | some (a, b) => if a = b then .none else .tuple [.str (ofL a), .str (ofL b)]
theorem stepL_ok {p : List Nat} (hl : p.length ≤ 1000) : okS (stepL p) = true := by
  have k : ∀ q : List Nat, q.length ≤ p.length → okP (.str (ofL q)) = true := fun q hq => by
    simp only [okP, decide_eq_true_eq]
    rw [len_tl, tl_ofL]
    omega
  unfold stepL
  split
  · simp only [okS, List.all_cons, List.all_nil, k p (Nat.le_refl _), Bool.and_self]
  · rename_i a b e
    obtain ⟨h, _⟩ := cutAt_some e
    split
    · rfl
    · have l1 : p.length = a.length + (b.length + 1) := by rw [h, List.length_append, List.length_cons]
      simp only [okS, List.all_cons, List.all_nil, k a (by omega), k b (by omega), Bool.and_self]
theorem m_stepL (p : List Nat) (hl : p.length ≤ 1000) : m_step_in [.d (.str (ofL p))] = .ok (.d (stepL p)) [.d (.str (ofL p))] := by
  have z : (ofL p).length ≤ 16777216 := by rw [len_tl, tl_ofL]; omega
  have g1 := gt_len
  have g2 := gt_ne
  unfold stepL
  split
  · rename_i e
    have hp := TL.partition_none tl_gt (a := ofL p) (cutAt_none e)
    rw [empty_eq] at hp
    have h1 : (Txt.partition (ofL p) (S ">")).1 = ofL p := by rw [hp]
    have h2 : (Txt.partition (ofL p) (S ">")).2.1 = S "" := by rw [hp]
    have h3 : (Txt.partition (ofL p) (S ">")).2.2 = S "" := by rw [hp]
    generalize ofL p = TX at *
    simp [m_step_in, gOf, w_step_in, g1, sizeLine, z, h1, h2, h3, put_eq]
  · rename_i a b e
    obtain ⟨h, na⟩ := cutAt_some e
    have hp := TL.partition_app tl_gt (a := ofL a) (b := ofL b) na
    have ej : ofL a ++ S ">" ++ ofL b = ofL p := by
      rw [S_gt, ofL_app, ofL_app, h]
      simp
    rw [ej] at hp
    have h1 : (Txt.partition (ofL p) (S ">")).1 = ofL a := by rw [hp]
    have h2 : (Txt.partition (ofL p) (S ">")).2.1 = S ">" := by rw [hp]
    have h3 : (Txt.partition (ofL p) (S ">")).2.2 = ofL b := by rw [hp]
    generalize ofL p = TX at *
    split
    · rename_i hab
      subst hab
      simp [m_step_in, gOf, w_step_in, g1, sizeLine, z, h1, h2, h3, put_eq, g2]
    · rename_i hab
      have ne : ¬ (ofL a = ofL b) := fun z => hab (ofL_inj.mp z)
      simp [m_step_in, gOf, w_step_in, g1, sizeLine, z, h1, h2, h3, put_eq, g2, ne]
/-- what a text is read as -/
def found (x : Str) : Pd := if x = S "-" then .tuple [] else .tuple ((Txt.split x (S " ")).map fun z => stepL (tl z))
theorem found_ok {x : Str} (hx : x.length ≤ 900) : okT (found x) = true := by
  unfold found
  split
  · rfl
  · obtain ⟨ps, h1, h2⟩ := split_sp x
    obtain ⟨k1, k2⟩ := sum_le List.length ps
    rw [h1, List.map_map]
    simp only [okT, List.length_map, Bool.and_eq_true, decide_eq_true_eq]
    refine ⟨by omega, ?_⟩
    rw [List.all_map, List.all_eq_true]
    intro p hp
    exact stepL_ok (p := p) (by have := k2 p hp; omega)
/-! ### refused -/
abbrev noX : XD := ⟨"NoText", some [("part", .none)]⟩
theorem m_only : ∃ as, m__law_only [.x noX, .d (.int 0)] = .ok (.d (.bool true)) as := by
  exact ⟨_, rfl⟩
theorem m_read_str {s : Str} (hs : SgOk s) (W : Pd) {x : Str} (hx : x.length ≤ 900) :
    (telB s (found x) = true → m_read_telling [.d (cdW s W), .d (.str x)] = .ok (.d (found x)) [.d (cdW s W), .d (.str x)]) ∧
    (telB s (found x) = false → ∃ as, m_read_telling [.d (cdW s W), .d (.str x)] = .ex noX as) := by
  have mt := m_istel W hs (found x) (found_ok hx)
  by_cases e : x = S "-"
  · have ef : found x = .tuple [] := if_pos e
    rw [ef] at mt ⊢
    have hT : telB s (.tuple []) = true := rfl
    rw [hT] at mt
    refine ⟨fun _ => ?_, fun h => by rw [hT] at h; cases h⟩
    rw [e]
    generalize cdW s W = CD at *
    simp [m_read_telling, gOf, w_read_telling, put_eq, sizeLine, mt]
  · have ef : found x = .tuple ((Txt.split x (S " ")).map fun z => stepL (tl z)) := if_neg e
    rw [ef] at mt ⊢
    obtain ⟨ps, h1, h2⟩ := split_sp x
    obtain ⟨k1, k2⟩ := sum_le List.length ps
    have z : x.length ≤ 16777214 := by omega
    have g := sp_len
    have key := lc_mapM (h := put 3) (fe := ce_read_telling_0) (vs := [3]) (fun p : List Nat => PyData.str (ofL p)) stepL (ρ := [.d (cdW s W), .d (.str x), .d .none, .no]) (l := ps) (fun p hp => by
      have ms := m_stepL p (by have := k2 p hp; omega)
      refine ⟨[.d (cdW s W), .d (.str x), .d .none, .d (.str (ofL p))], [.d (cdW s W), .d (.str x), .d .none, .d (.str (ofL p))], by simp [put_eq], ?_, by simp⟩
      generalize ofL p = TT at *
      simp [ce_read_telling_0, ms]) (by omega)
    have em : (Txt.split x (S " ")).map PyData.str = ps.map fun p => PyData.str (ofL p) := by rw [h1, List.map_map]; rfl
    have en : ((Txt.split x (S " ")).map fun z => stepL (tl z)) = ps.map stepL := by rw [h1, List.map_map]; rfl
    rw [en] at mt ⊢
    generalize telB s (.tuple (ps.map stepL)) = B at *
    generalize ps.map stepL = TD at *
    generalize (ps.map fun p => PyData.str (ofL p)) = KD at *
    generalize cdW s W = CD at *
    constructor
    · rintro rfl
      simp [m_read_telling, gOf, w_read_telling, put_eq, e, isStrD, g, sizeLine, z, em, key, mt]
    · rintro rfl
      exact ⟨_, by simp [m_read_telling, gOf, w_read_telling, put_eq, e, isStrD, g, sizeLine, z, em, key, mt]; rfl⟩
theorem m_read_no {s : Str} (hs : SgOk s) (W : Pd) (d : Pd) (h1 : eqD d (.str (S "-")) = some (.bool false)) (h2 : isStrD d = false) : ∃ as, m_read_telling [.d (cdW s W), .d d] = .ex noX as := by
  have mt := m_istel W hs .none rfl
  have hT : telB s .none = false := rfl
  rw [hT] at mt
  generalize cdW s W = CD at *
  exact ⟨_, by simp [m_read_telling, gOf, w_read_telling, put_eq, h1, h2, mt]; rfl⟩
theorem m_right_no {CD d : Pd} {as : Rho} (m : m_read_telling [.d CD, .d d] = .ex noX as) : ∃ bs, m__law_right [.d CD, .d d, .d .none] = .ok (.d (.bool true)) bs := by
  obtain ⟨bs, o⟩ := m_only
  have e1 : ft__law_right [.d CD, .d d, .d .none, .d .none, .d .none, .no] = .ex noX [.d CD, .d d, .d .none, .d .none, .d .none, .no] := by
    simp [ft__law_right, m]
  have e2 : fTryN (sb "LadderError") ft__law_right 5 4 [.d CD, .d d, .d .none, .d .none, .d .none, .no] = .ok .nx [.d CD, .d d, .d .none, .d .none, .x noX, .no] := fTryN_ex e1 (by rfl) rfl rfl rfl rfl (by decide)
  have en : isNoneD .none .none = some (.bool true) := rfl
  exact ⟨_, by simp [m__law_right, gOf, w__law_right, put_eq, e2, o, en]; rfl⟩
theorem eq_self {s : Str} (hs : SgOk s) {ts : List Stp} (hts : ∀ t ∈ ts, t.Ok s) : eqD (telD ts) (telD ts) = some (.bool true) := by
  have h1 := sh_stps hs hts 58
  have h2 : PyData.eqvAll (ts.map Stp.d) (ts.map Stp.d) = true := by
    clear h1 hts
    induction ts with
    | nil => rfl
    | cons t ts ih =>
      rw [List.map_cons]
      have e : PyData.eqv t.d t.d = true := by simp [Stp.d, PyData.eqv, PyData.eqvAll]
      simp only [PyData.eqvAll, e, ih, Bool.and_self]
  simp only [telD, eqD, eqB_tuple, h1, h2, and_self, if_true, Option.map_some]
theorem m_right_yes {s : Str} (hs : SgOk s) {CD d : Pd} {ts : List Stp} {as : Rho} (hts : ∀ t ∈ ts, t.Ok s) (m : m_read_telling [.d CD, .d d] = .ok (.d (telD ts)) as) : ∃ bs, m__law_right [.d CD, .d d, .d (telD ts)] = .ok (.d (.bool true)) bs := by
  have ee := eq_self hs hts
  simp only [telD] at *
  generalize ts.map Stp.d = TD at *
  have e1 : ft__law_right [.d CD, .d d, .d (.tuple TD), .d .none, .d .none, .no] = .ok .nx [.d CD, .d d, .d (.tuple TD), .d (.tuple TD), .d .none, .no] := by
    simp [ft__law_right, m, put_eq]
  have e2 : fTryN (sb "LadderError") ft__law_right 5 4 [.d CD, .d d, .d (.tuple TD), .d .none, .d .none, .no] = .ok .nx [.d CD, .d d, .d (.tuple TD), .d (.tuple TD), .d .none, .no] := fTryN_ok e1
  have en : isNoneD (.tuple TD) .none = some (.bool false) := rfl
  have en2 : isNon .none = true := rfl
  exact ⟨_, by simp [m__law_right, gOf, w__law_right, put_eq, e2, en, en2, isTupD, ee]; rfl⟩
end Lw
namespace Lw
open PySem PySem.Spec L2 Evl Dt
open TL (tl joinL tl_join tl_ofString join_eq tl_append len_tl)
theorem sg_len {s : Str} (hs : SgOk s) : s.length ≤ 16777216 ∧ 1 + s.length ≤ 16777216 ∧ (chars s).length = s.length := by
  have l3 := hs.l3
  have hsl := len_tl s
  refine ⟨by omega, by omega, ?_⟩
  rw [chars_sgs, sgs_len, hsl]
theorem in_parts {s : Str} (x : Str) : decide (x ∈ E0 :: (tl s).map sg1) = (decide ((x.length : Int) ≤ 1) && inStr x s) := by
  rw [Bool.eq_iff_iff, decide_eq_true_eq, Bool.and_eq_true, decide_eq_true_eq]
  constructor
  · intro h
    rcases List.mem_cons.mp h with rfl | h
    · exact ⟨by decide +kernel, inStr_nil s⟩
    · obtain ⟨c, hc, rfl⟩ := List.mem_map.mp h
      exact ⟨by show ((1 : Nat) : Int) ≤ 1; omega, (inStr_one c s).trans (decide_eq_true hc)⟩
  · intro ⟨h1, h2⟩
    obtain ⟨a, rfl, a1, a2⟩ := inStr_cases h1 h2
    cases a with
    | nil => exact List.mem_cons_self
    | cons c r =>
      cases r with
      | nil => exact List.mem_cons_of_mem _ (List.mem_map.mpr ⟨c, a2 c (by simp), rfl⟩)
      | cons _ _ => simp at a1
/-! ### what the law reads -/
abbrev prts (s : Str) : Pd := .list ((E0 :: (tl s).map sg1).map PyData.str)
abbrev D8 (CD TX PP : Pd) (F : List Pd) (s4 s5 : Sl) : Rho := [.d CD, .d TX, .d PP, .own false F, s4, s5, .no, .no]
def duTail : Rho → R Fl := (fSeq (fIfS (fOr (fTest (f2 notInD (f2 ixD (fVar 5) (fC (.int 0))) (fVar 2))) (fTest (f2 notInD (f2 ixD (fVar 5) (fC (.int 1))) (fVar 2)))) (fRet (fC .none)) fNx)
  (fSeq (fIfS (fTest (f2 eqD (fVar 5) (fL (fLst (fCons (fC (.str "")) (fCons (fC (.str "")) fNil)))))) (fRet (fC .none)) fNx)
  (fApp 3 (fTup (fCons (f2 ixD (fVar 5) (fC (.int 0))) (fCons (f2 ixD (fVar 5) (fC (.int 1))) fNil))))))
theorem due_tail {s : Str} (hs : SgOk s) (CD TX : Pd) (F : List Pd) (hF : F.length ≤ 1000) (P : Pd) (x y : Str) :
    duTail (D8 CD TX (prts s) F (.d P) (.d (.list [.str x, .str y]))) = if stepB s (.tuple [.str x, .str y]) = true then .ok .nx (D8 CD TX (prts s) (F ++ [.tuple [.str x, .str y]]) (.d P) (.d (.list [.str x, .str y]))) else .ok (.rt .none) (D8 CD TX (prts s) F (.d P) (.d (.list [.str x, .str y]))) := by
  have n1 := notInD_strs x (E0 :: (tl s).map sg1)
  have n2 := notInD_strs y (E0 :: (tl s).map sg1)
  rw [in_parts] at n1 n2
  have hz : F.length < 16777216 := by omega
  have e1 : partB s (.str x) = (decide ((x.length : Int) ≤ 1) && inStr x s) := rfl
  have e2 : partB s (.str y) = (decide ((y.length : Int) ≤ 1) && inStr y s) := rfl
  rw [← e1] at n1
  rw [← e2] at n2
  unfold D8 prts
  generalize (E0 :: (tl s).map sg1).map PyData.str = PP at *
  cases hx : partB s (.str x) with
  | false =>
    rw [hx] at n1
    simp [duTail, at0, at1, n1, stepB, hx]
  | true =>
    cases hy : partB s (.str y) with
    | false =>
      rw [hx] at n1
      rw [hy] at n2
      simp [duTail, at0, at1, n1, n2, stepB, hx, hy]
    | true =>
      rw [hx] at n1
      rw [hy] at n2
      rw [e1, Bool.and_eq_true, decide_eq_true_eq] at hx
      rw [e2, Bool.and_eq_true, decide_eq_true_eq] at hy
      obtain ⟨a, rfl, a1, a2⟩ := inStr_cases hx.1 hx.2
      obtain ⟨b, rfl, b1, b2⟩ := inStr_cases hy.1 hy.2
      have o1 : PyData.strOk (ofL a) = true := strOk_lt fun c hc => by have := hs.let' c (a2 c hc); omega
      have o2 : PyData.strOk (ofL b) = true := strOk_lt fun c hc => by have := hs.let' c (b2 c hc); omega
      have o3 := E0_ok
      have en : eqD (.list [.str (ofL a), .str (ofL b)]) (.list [.str E0, .str E0]) = some (.bool (isE (.str (ofL a)) && isE (.str (ofL b)))) := by
        simp [eqD, eqB_list, sh_list, o1, o2, o3, PyData.eqvAll, eqv_str, isE]
      have f1 : partB s (.str (ofL a)) = true := by rw [e1, decide_eq_true hx.1, hx.2]; rfl
      have f2 : partB s (.str (ofL b)) = true := by rw [e2, decide_eq_true hy.1, hy.2]; rfl
      have es : stepB s (.tuple [.str (ofL a), .str (ofL b)]) = !(isE (.str (ofL a)) && isE (.str (ofL b))) := by
        simp only [stepB, f1, f2, Bool.true_and]
      rw [es]
      generalize (isE (.str (ofL a)) && isE (.str (ofL b))) = B at *
      generalize ofL a = A0 at *
      generalize ofL b = B0 at *
      cases B <;> simp [duTail, at0, at1, n1, n2, en, sizeLine, hz]
theorem due_body {s : Str} (hs : SgOk s) (CD TX : Pd) (F : List Pd) (hF : F.length ≤ 1000) (p : List Nat) (hp : p.length ≤ 1000) {s5 : Sl} (i5 : isIo s5 = false) :
    (stepB s (stepL p) = true → ∃ t5, isIo t5 = false ∧ fb__law_due_0 (D8 CD TX (prts s) F (.d (.str (ofL p))) s5) = .ok .nx (D8 CD TX (prts s) (F ++ [stepL p]) (.d (.str (ofL p))) t5)) ∧
    (stepB s (stepL p) = false → ∃ ρ', fb__law_due_0 (D8 CD TX (prts s) F (.d (.str (ofL p))) s5) = .ok (.rt .none) ρ') := by
  have ed : fb__law_due_0 = fSeq (fAsg (fM1 splitD (fVar 4) (fC (.str ">"))) (put 5)) (fSeq (fIfS (fTest (f2 eqD (fCB lenD (fCons (fVar 5) fNil)) (fC (.int 1)))) (fAsg (fL (fLst (fCons (fVar 4) (fCons (fVar 4) fNil)))) (put 5)) (fIfS (fOr (fTest (f2 gtD (fCB lenD (fCons (fVar 5) fNil)) (fC (.int 2)))) (fTest (f2 eqD (f2 ixD (fVar 5) (fC (.int 0))) (f2 ixD (fVar 5) (fC (.int 1)))))) (fRet (fC .none)) fNx)) duTail) := rfl
  have z : (ofL p).length + 2 ≤ 16777216 := by rw [len_tl, tl_ofL]; omega
  have g := gt_len
  have esp : splitD (.str (ofL p)) [.str (S ">")] = some (.list ((Txt.split (ofL p) (S ">")).map .str)) := by
    show (if _ then _ else _) = _
    rw [if_pos ⟨g, z⟩]
  have gk : (S ">").cps.all (· < 256) = true := by decide +kernel
  rw [ed]
  cases e : cutAt p with
  | none =>
    have hn := cutAt_none e
    have hsp : Txt.split (ofL p) (S ">") = [ofL p] := split_parts tl_gt gk (ps := [p]) (by simp) (by simpa using hn)
    have est : stepL p = .tuple [.str (ofL p), .str (ofL p)] := by unfold stepL; rw [e]
    rw [est]
    rw [hsp] at esp
    have ht := due_tail hs CD TX F hF (.str (ofL p)) (ofL p) (ofL p)
    generalize hB : stepB s (.tuple [.str (ofL p), .str (ofL p)]) = B at *
    simp only [List.map_cons, List.map_nil] at esp
    generalize ofL p = TT at *
    unfold D8 at *
    generalize prts s = PP at *
    generalize duTail = DT at *
    constructor
    · rintro rfl
      exact ⟨.d (.list [.str TT, .str TT]), rfl, by simpa [esp, -splitD_str, put_eq, i5, sizeLine] using ht⟩
    · rintro rfl
      exact ⟨_, by simpa [esp, -splitD_str, put_eq, i5, sizeLine] using ht⟩
  | some q =>
    obtain ⟨a, b⟩ := q
    obtain ⟨h, na⟩ := cutAt_some e
    by_cases nb : 62 ∈ b
    · obtain ⟨ps, k1, k2, k3, k4⟩ := parts_of 62 b
      have h2 : 2 ≤ ps.length := by
        cases ps with
        | nil => exact absurd rfl k1
        | cons u r =>
          cases r with
          | nil =>
            exfalso
            have : b = u := k3
            rw [this] at nb
            exact k2 u (by simp) nb
          | cons _ _ => simp
      have hj : p = joinL [62] (a :: ps) := by
        cases ps with
        | nil => exact absurd rfl k1
        | cons u r => rw [h, k3]; rfl
      have hsp : Txt.split (ofL p) (S ">") = (a :: ps).map ofL := by
        rw [hj]
        refine split_parts tl_gt gk (by simp) ?_
        intro u hu
        rcases List.mem_cons.mp hu with rfl | hu
        · exact na
        · exact k2 u hu
      rw [hsp] at esp
      have hab : ¬ (a = b) := fun z => na (z ▸ nb)
      have est : stepL p = .tuple [.str (ofL a), .str (ofL b)] := by unfold stepL; rw [e]; exact if_neg hab
      have hB : stepB s (stepL p) = false := by
        rw [est]
        have : partB s (.str (ofL b)) = false := by
          cases hh : partB s (.str (ofL b)) with
          | false => rfl
          | true =>
            exfalso
            have hh' : (decide (((ofL b).length : Int) ≤ 1) && inStr (ofL b) s) = true := hh
            rw [Bool.and_eq_true, decide_eq_true_eq] at hh'
            obtain ⟨v, hv, v1, v2⟩ := inStr_cases hh'.1 hh'.2
            rw [ofL_inj] at hv
            subst hv
            have := hs.let' 62 (v2 62 nb)
            omega
        simp only [stepB, this, Bool.false_and, Bool.and_false]
      refine ⟨fun hh => (by rw [hB] at hh; cases hh), fun _ => ?_⟩
      have hlen : ((((a :: ps).map ofL).map PyData.str).length : Int) = ps.length + 1 := by simp
      generalize ((a :: ps).map ofL).map PyData.str = SD at *
      have n1 : ¬ ((SD.length : Int) = 1) := by omega
      have n2 : (2 : Int) < (SD.length : Int) := by omega
      generalize ofL p = TT at *
      unfold D8
      generalize prts s = PP at *
      generalize duTail = DT at *
      exact ⟨_, by simp [esp, -splitD_str, put_eq, i5, n1, n2]; rfl⟩
    · have hsp : Txt.split (ofL p) (S ">") = [ofL a, ofL b] := by
        have hj : p = joinL [62] [a, b] := h
        rw [hj]
        exact split_parts tl_gt gk (ps := [a, b]) (by simp) (by intro u hu; simp at hu; rcases hu with rfl | rfl <;> assumption)
      rw [hsp] at esp
      simp only [List.map_cons, List.map_nil] at esp
      by_cases hab : a = b
      · have est : stepL p = .none := by unfold stepL; rw [e]; exact if_pos hab
        rw [est]
        refine ⟨fun hh => by simp [stepB] at hh, fun _ => ?_⟩
        subst hab
        generalize ofL p = TT at *
        unfold D8
        generalize prts s = PP at *
        generalize duTail = DT at *
        exact ⟨_, by simp [esp, -splitD_str, put_eq, i5, at0, at1]; rfl⟩
      · have est : stepL p = .tuple [.str (ofL a), .str (ofL b)] := by unfold stepL; rw [e]; exact if_neg hab
        rw [est]
        have ne : ¬ (ofL a = ofL b) := fun z => hab (ofL_inj.mp z)
        have ht := due_tail hs CD TX F hF (.str (ofL p)) (ofL a) (ofL b)
        generalize hB : stepB s (.tuple [.str (ofL a), .str (ofL b)]) = B at *
        generalize ofL p = TT at *
        generalize ofL a = A0 at *
        generalize ofL b = B0 at *
        unfold D8 at *
        generalize prts s = PP at *
        generalize duTail = DT at *
        constructor
        · rintro rfl
          exact ⟨.d (.list [.str A0, .str B0]), rfl, by simpa [esp, -splitD_str, put_eq, i5, at0, at1, ne] using ht⟩
        · rintro rfl
          exact ⟨_, by simpa [esp, -splitD_str, put_eq, i5, at0, at1, ne] using ht⟩
theorem due_loop {s : Str} (hs : SgOk s) (CD TX : Pd) : ∀ (ps : List (List Nat)) (F : List Pd) (s4 s5 : Sl), F.length + ps.length ≤ 1000 → (∀ p ∈ ps, p.length ≤ 1000) → isIo s4 = false → isIo s5 = false →
    ((ps.map stepL).all (stepB s) = true → ∃ t4 t5, isIo t4 = false ∧ isIo t5 = false ∧ forRun (put 4) fb__law_due_0 (ps.map fun p => PyData.str (ofL p)) (D8 CD TX (prts s) F s4 s5) = .ok .nx (D8 CD TX (prts s) (F ++ ps.map stepL) t4 t5)) ∧
    ((ps.map stepL).all (stepB s) = false → ∃ ρ', forRun (put 4) fb__law_due_0 (ps.map fun p => PyData.str (ofL p)) (D8 CD TX (prts s) F s4 s5) = .ok (.rt .none) ρ')
  | [], F, s4, s5, _, _, i4, i5 => ⟨fun _ => ⟨s4, s5, i4, i5, by simp⟩, fun h => by simp at h⟩
  | p :: ps, F, s4, s5, hl, hp, i4, i5 => by
    rw [List.length_cons] at hl
    obtain ⟨b1, b2⟩ := due_body hs CD TX F (by omega) p (hp p List.mem_cons_self) i5
    have e0 : put 4 (.str (ofL p)) (D8 CD TX (prts s) F s4 s5) = some (D8 CD TX (prts s) F (.d (.str (ofL p))) s5) := by simp [put_eq, i4]
    rw [List.map_cons, List.map_cons, List.all_cons]
    cases hb : stepB s (stepL p) with
    | false =>
      obtain ⟨ρ', e⟩ := b2 hb
      exact ⟨fun h => by simp at h, fun _ => ⟨_, for_ret e0 e⟩⟩
    | true =>
      obtain ⟨t5, h5, e⟩ := b1 hb
      obtain ⟨c1, c2⟩ := due_loop hs CD TX ps (F ++ [stepL p]) (.d (.str (ofL p))) t5 (by rw [List.length_append, List.length_cons, List.length_nil]; omega) (fun q hq => hp q (List.mem_cons_of_mem _ hq)) rfl h5
      rw [Bool.true_and, for_go e0 e]
      refine ⟨fun h => ?_, c2⟩
      obtain ⟨u4, u5, j4, j5, er⟩ := c1 h
      exact ⟨u4, u5, j4, j5, by rw [er, List.append_assoc]; rfl⟩
theorem m_due {s : Str} (hs : SgOk s) (W : Pd) {x : Str} (hx : x.length ≤ 900) : m__law_due [.d (cdW s W), .d (.str x)] = .ok (.d (if telB s (found x) = true then found x else .none)) [.d (cdW s W), .d (.str x)] := by
  by_cases e : x = S "-"
  · have ef : found x = .tuple [] := if_pos e
    have hT : telB s (.tuple []) = true := rfl
    rw [ef, hT, if_pos rfl, e]
    generalize cdW s W = CD at *
    simp [m__law_due, gOf, w__law_due, sizeLine]
  · have ef : found x = .tuple ((Txt.split x (S " ")).map fun z => stepL (tl z)) := if_neg e
    obtain ⟨ps, h1, h2⟩ := split_sp x
    obtain ⟨k1, k2⟩ := sum_le List.length ps
    have z : x.length ≤ 16777214 := by omega
    have g := sp_len
    have em : (Txt.split x (S " ")).map PyData.str = ps.map fun p => PyData.str (ofL p) := by rw [h1, List.map_map]; rfl
    have en : ((Txt.split x (S " ")).map fun z => stepL (tl z)) = ps.map stepL := by rw [h1, List.map_map]; rfl
    rw [ef, en]
    obtain ⟨z1, z2, z3⟩ := sg_len hs
    have ep : PyData.str (S "") :: chars s = (E0 :: (tl s).map sg1).map PyData.str := by rw [chars_eq]; rfl
    have z4 : 1 + (chars s).length ≤ 16777216 := by omega
    have ei0 : ixD (cdW s W) (.int 0) = some (.str s) := by simp [at0]
    obtain ⟨b1, b2⟩ := due_loop hs (cdW s W) (.str x) ps [] .no .no (by simp; omega) (fun p hp => by have := k2 p hp; omega) rfl rfl
    cases hb : (ps.map stepL).all (stepB s) with
    | false =>
      have ht : telB s (.tuple (ps.map stepL)) = false := by simp only [telB, hb, Bool.false_and]
      rw [ht, if_neg (by simp)]
      obtain ⟨ρ', er⟩ := b2 hb
      unfold D8 prts at er
      rw [← ep] at er
      generalize cdW s W = CD at *
      generalize (ps.map fun p => PyData.str (ofL p)) = KD at *
      have ho : ∀ ρ : Rho, outs [Sl.d CD, Sl.d (.str x)] ρ = [.d CD, .d (.str x)] := fun ρ => by
        cases ρ with
        | nil => rfl
        | cons _ r => cases r <;> rfl
      simp [m__law_due, gOf, w__law_due, e, ei0, z1, sizeLine, z4, put_eq, putOwn_eq, g, z, em, er, ho]
    | true =>
      obtain ⟨t4, t5, h4, h5, er⟩ := b1 hb
      obtain ⟨ts, ets, hts⟩ := stepsB_ex hb
      have hl : ts.length = ps.length := by rw [← List.length_map (f := Stp.d), ← ets, List.length_map]
      have ht : telB s (.tuple (ps.map stepL)) = decide (((ts.flatMap Stp.a).length : Int) ≤ 8) := by
        have ef := fst1_sum ts
        simp only [telB, hb, Bool.true_and]
        rw [ets, ef]
      rw [ht]
      rw [ets] at er ⊢
      unfold D8 prts at er
      rw [← ep] at er
      rw [List.nil_append] at er
      have key := lc_mapM (h := putTup 2 (putCons (put 6) (putCons (put 7) putNil))) (fe := ce__law_due_1) (vs := [6, 7]) Stp.d (fun t => PyData.int t.a.length) (ρ := [.d (cdW s W), .d (.str x), .d (.list (PyData.str (S "") :: chars s)), .d (.list (ts.map Stp.d)), t4, t5, .no, .no]) (l := ts) (fun t ht => by
        have ha := (hts t ht).a1
        have la : (ofL t.a).length = t.a.length := by rw [len_tl, tl_ofL]
        have lz : (ofL t.a).length ≤ 16777216 := by omega
        refine ⟨[.d (cdW s W), .d (.str x), .d (.list (PyData.str (S "") :: chars s)), .d (.list (ts.map Stp.d)), t4, t5, .d (.str (ofL t.a)), .d (.str (ofL t.b))], [.d (cdW s W), .d (.str x), .d (.list (PyData.str (S "") :: chars s)), .d (.list (ts.map Stp.d)), t4, t5, .d (.str (ofL t.a)), .d (.str (ofL t.b))], by simp [Stp.d, put_eq], ?_, by simp⟩
        rw [← la]
        generalize ofL t.a = TA at *
        simp [ce__law_due_1, sizeLine, lz]) (by omega)
      have hi := intsD_map (fun t : Stp => (t.a.length : Int)) ts
      have hsum : (ts.map fun t => (t.a.length : Int)).sum = ((ts.flatMap Stp.a).length : Int) := by
        clear hi key er ht hl ets hts
        induction ts with
        | nil => rfl
        | cons t ts ih => rw [List.map_cons, List.sum_cons, ih, List.flatMap_cons, List.length_append]; omega
      generalize cdW s W = CD at *
      generalize (ps.map fun p => PyData.str (ofL p)) = KD at *
      generalize (ts.map fun t => PyData.int t.a.length) = IL at *
      generalize (ts.map fun t => (t.a.length : Int)) = IM at *
      generalize ((ts.flatMap Stp.a).length : Int) = NN at *
      generalize ts.map Stp.d = TD at *
      by_cases h8 : NN ≤ 8
      · have h8' : ¬ (8 < NN) := by omega
        simp [m__law_due, gOf, w__law_due, e, ei0, z1, sizeLine, z4, put_eq, putOwn_eq, g, z, em, er, key, hi, hsum, h8, h8']
      · have h8' : 8 < NN := by omega
        simp [m__law_due, gOf, w__law_due, e, ei0, z1, sizeLine, z4, put_eq, putOwn_eq, g, z, em, er, key, hi, hsum, h8, h8']
/-- any text read is right -/
theorem m_right_any {s : Str} (hs : SgOk s) (W : Pd) {x : Str} (hx : x.length ≤ 900) : ∃ d, m__law_due [.d (cdW s W), .d (.str x)] = .ok (.d d) [.d (cdW s W), .d (.str x)] ∧ ∃ bs, m__law_right [.d (cdW s W), .d (.str x), .d d] = .ok (.d (.bool true)) bs := by
  refine ⟨_, m_due hs W hx, ?_⟩
  obtain ⟨h1, h2⟩ := m_read_str hs W hx
  cases hb : telB s (found x) with
  | false =>
    rw [if_neg (by simp)]
    obtain ⟨as, e⟩ := h2 hb
    exact m_right_no e
  | true =>
    rw [if_pos rfl]
    have e := h1 hb
    obtain ⟨ys, hys⟩ : ∃ ys, found x = .tuple ys := by unfold found; split <;> exact ⟨_, rfl⟩
    rw [hys] at hb e ⊢
    simp only [telB, Bool.and_eq_true] at hb
    obtain ⟨ts, rfl, hts⟩ := stepsB_ex hb.1
    exact m_right_yes hs hts e
end Lw
namespace Lw
open PySem PySem.Spec L2 Evl Dt
open TL (tl joinL tl_join tl_ofString join_eq tl_append len_tl)
/-! ### the law's own text -/
theorem text_body (T : Pd) (F : List Pd) (hF : F.length ≤ 1000) (t : Stp) (ha : t.a.length ≤ 1000) (hb : t.b.length ≤ 1000) :
    fb__law_text_0 [.d T, .own false F, .d (.str (ofL t.a)), .d (.str (ofL t.b))] = .ok .nx [.d T, .own false (F ++ [.str (ofL (showS t))]), .d (.str (ofL t.a)), .d (.str (ofL t.b))] := by
  have la : (ofL t.a).length = t.a.length := by rw [len_tl, tl_ofL]
  have lb : (ofL t.b).length = t.b.length := by rw [len_tl, tl_ofL]
  have l1 : (S ">").length = 1 := by decide +kernel
  have e0 := apl (ofL t.a) (S ">")
  have z1 : (ofL t.a).length + (S ">").length ≤ 16777216 := by omega
  have z2 : (ofL t.a ++ S ">").length + (ofL t.b).length ≤ 16777216 := by omega
  have hz : F.length < 16777216 := by omega
  have e : ofL t.a ++ S ">" ++ ofL t.b = ofL (t.a ++ 62 :: t.b) := by
    rw [S_gt, ofL_app, ofL_app]
    simp
  have c1 : intOfD [.bool true] = some (.int 1) := rfl
  have c0 : intOfD [.bool false] = some (.int 0) := rfl
  unfold showS
  by_cases h : t.a = t.b
  · rw [if_pos h, ← h]
    rw [← h] at z2
    simp [fb__law_text_0, at0, at1, sizeLine, z1, z2, hz, c1]
  · have ne : ¬ (ofL t.a = ofL t.b) := fun e => h (ofL_inj.mp e)
    rw [if_neg h]
    simp [fb__law_text_0, at0, at1, sizeLine, z1, z2, hz, c0, ne, e]
theorem text_loop {s : Str} (T : Pd) : ∀ (ts : List Stp) (F : List Pd) (s2 s3 : Sl), F.length + ts.length ≤ 1000 → (∀ t ∈ ts, t.Ok s) → isIo s2 = false → isIo s3 = false →
    ∃ t2 t3, isIo t2 = false ∧ isIo t3 = false ∧ forRun (putTup 2 (putCons (put 2) (putCons (put 3) putNil))) fb__law_text_0 (ts.map Stp.d) [.d T, .own false F, s2, s3] = .ok .nx [.d T, .own false (F ++ ts.map fun t => PyData.str (ofL (showS t))), t2, t3]
  | [], F, s2, s3, _, _, i2, i3 => ⟨s2, s3, i2, i3, by simp⟩
  | t :: ts, F, s2, s3, hl, hts, i2, i3 => by
    rw [List.length_cons] at hl
    have ho := hts t List.mem_cons_self
    have e := text_body T F (by omega) t (by have := ho.a1; omega) (by have := ho.b1; omega)
    obtain ⟨t2, t3, h2, h3, er⟩ := text_loop (s := s) T ts (F ++ [.str (ofL (showS t))]) (.d (.str (ofL t.a))) (.d (.str (ofL t.b))) (by rw [List.length_append, List.length_cons, List.length_nil]; omega) (fun u hu => hts u (List.mem_cons_of_mem _ hu)) rfl rfl
    refine ⟨t2, t3, h2, h3, ?_⟩
    rw [List.map_cons, for_go (ρ1 := [.d T, .own false F, .d (.str (ofL t.a)), .d (.str (ofL t.b))]) (by simp [Stp.d, put_eq, i2, i3]) e, er, List.append_assoc]
    rfl
theorem showS_ok {s : Str} (hs : SgOk s) {t : Stp} (h : t.Ok s) : PyData.strOk (ofL (showS t)) = true := by
  refine strOk_lt fun c hc => ?_
  rw [tl_ofL] at hc
  unfold showS at hc
  have k : ∀ c, c ∈ t.a ∨ c ∈ t.b → c < 1114112 := fun c hc => by
    rcases hc with hc | hc
    · have := hs.let' c (h.ina c hc); omega
    · have := hs.let' c (h.inb c hc); omega
  split at hc
  · exact k c (.inl hc)
  · rcases List.mem_append.mp hc with hc | hc
    · exact k c (.inl hc)
    · rcases List.mem_cons.mp hc with hc | hc
      · omega
      · exact k c (.inr hc)
theorem m_ltext {s : Str} (hs : SgOk s) {ts : List Stp} (hl : ts.length ≤ 1000) (hts : ∀ t ∈ ts, t.Ok s) : m__law_text [.d (telD ts)] = .ok (.d (.str (ofL (showT ts)))) [.d (telD ts)] := by
  obtain ⟨t2, t3, h2, h3, er⟩ := text_loop (s := s) (telD ts) ts [] .no .no (by simp; omega) hts rfl rfl
  rw [List.nil_append] at er
  have he : eqD (.list (ts.map fun t => PyData.str (ofL (showS t)))) (.list []) = some (.bool (decide (ts = []))) := by
    have h1 : sh 60 (.list (ts.map fun t => PyData.str (ofL (showS t)))) = true := by
      rw [sh_list, List.all_map, List.all_eq_true]
      intro t ht
      show sh 59 (.str _) = true
      rw [sh_str]
      exact showS_ok hs (hts t ht)
    have h2 : sh 60 (.list []) = true := rfl
    simp only [eqD, eqB_list, h1, h2, and_self, if_true, Option.map_some]
    cases ts with
    | nil => rfl
    | cons t ts => rfl
  by_cases h : ts = []
  · subst h
    have e1 : ofL (showT []) = S "-" := S_mi.symm
    rw [e1]
    simp only [telD, List.map_nil] at *
    simp [m__law_text, gOf, w__law_text, sizeLine, putOwn_eq, he]
  · rw [decide_eq_false h] at he
    have hj := join_sp [32] (by simp) (ts.map showS) (by rw [List.length_map]; omega) (fun x hx => by
      obtain ⟨t, ht, rfl⟩ := List.mem_map.mp hx
      have := showS_len (hts t ht)
      omega)
    rw [← S_sp, List.map_map] at hj
    have hj' : joinD (.str (S " ")) [.list (ts.map fun t => PyData.str (ofL (showS t)))] = some (.str (ofL (joinL [32] (ts.map showS)))) := hj
    have e1 : showT ts = joinL [32] (ts.map showS) := if_neg h
    rw [e1]
    simp only [telD] at *
    generalize ts.map Stp.d = TD at *
    generalize (ts.map fun t => PyData.str (ofL (showS t))) = KD at *
    simp [m__law_text, gOf, w__law_text, sizeLine, putOwn_eq, er, he, hj']
/-! ### a text turned -/
def L1 (zs : List Str) : Nat := (zs.map fun z => z.length + 1).sum
theorem L1_app (a b : List Str) : L1 (a ++ b) = L1 a + L1 b := by unfold L1; rw [List.map_append, List.sum_append]
theorem L1_take (a : List Str) (k : Nat) : L1 (a.take k) ≤ L1 a := by
  conv => rhs; rw [← List.take_append_drop k a]
  rw [L1_app]
  omega
theorem L1_drop (a : List Str) (k : Nat) : L1 (a.drop k) ≤ L1 a := by
  conv => rhs; rw [← List.take_append_drop k a]
  rw [L1_app]
  omega
theorem joinL_len : ∀ (l : List (List Nat)), (joinL [32] l).length ≤ (l.map fun p => p.length + 1).sum
  | [] => by simp [joinL]
  | [p] => by simp [joinL]
  | p :: q :: r => by
    have := joinL_len (q :: r)
    simp only [joinL, List.length_append, List.length_cons, List.length_nil, List.map_cons, List.sum_cons] at this ⊢
    omega
theorem join_any (zs : List Str) (h : L1 zs ≤ 1000) : joinD (.str (S " ")) [.list (zs.map PyData.str)] = some (.str (Txt.join (S " ") zs)) ∧ (Txt.join (S " ") zs).length ≤ L1 zs := by
  have e1 : (zs.map fun z => z.length + 1).sum = (zs.map (·.length)).sum + zs.length := by
    clear h
    induction zs with
    | nil => rfl
    | cons a l ih => simp only [List.map_cons, List.sum_cons, List.length_cons] at ih ⊢; omega
  unfold L1 at h ⊢
  constructor
  · simp only [joinD]
    rw [strsD_map]
    simp only
    rw [if_pos]
    have : (S " ").length = 1 := by decide +kernel
    rw [this]
    omega
  · rw [len_tl, join_eq, tl_join, tl_sp]
    refine Nat.le_trans (joinL_len _) ?_
    rw [List.map_map]
    exact Nat.le_of_eq (congrArg List.sum (List.map_congr_left fun z _ => by show (tl z).length + 1 = z.length + 1; rw [len_tl]))
theorem L1_split {x : Str} : L1 (Txt.split x (S " ")) = x.length + 1 := by
  obtain ⟨ps, h1, h2⟩ := split_sp x
  rw [h1, ← h2]
  unfold L1
  rw [List.map_map]
  exact congrArg List.sum (List.map_congr_left fun z _ => by show (ofL z).length + 1 = z.length + 1; rw [len_tl, tl_ofL])
theorem L1_len (zs : List Str) : zs.length ≤ L1 zs := (sum_le (fun z : Str => z.length) zs).1
theorem sign_at {s : Str} (hs : SgOk s) : (∃ q, ixD (.str s) (.int 0) = some (.str ⟨#[q]⟩)) ∧ ∃ q, ixD (.str s) (.int (-1)) = some (.str ⟨#[q]⟩) := by
  have h1 := hs.l1
  have h3 := hs.l3
  have hz : s.length ≤ sizeLine := by rw [len_tl]; simp only [sizeLine]; omega
  constructor
  · obtain ⟨q, e, _⟩ := atI_some (xs := tl s) (i := 0) (by omega) (by omega)
    refine ⟨q, ?_⟩
    show (if _ then _ else _) = _
    rw [if_pos hz]
    have e' : atI s.cps.toList 0 = some q := e
    rw [e']
    rfl
  · have hne : tl s ≠ [] := by intro e; rw [e] at h1; simp at h1
    refine ⟨(tl s).getLast hne, ?_⟩
    show (if _ then _ else _) = _
    rw [if_pos hz]
    have e' : atI s.cps.toList (-1) = some ((tl s).getLast hne) := by
      have := atL (tl s).dropLast ((tl s).getLast hne)
      rw [List.dropLast_concat_getLast hne] at this
      exact this
    rw [e']
    rfl
theorem cutS_len (x : Str) (a b : Option Int) : (cutS x a b).length ≤ x.length := by
  rw [len_tl, len_tl, tl_cut, List.length_take, List.length_drop]
  omega
def oddT (g h : Str) : List Pd := [.str (S " "), .str (S ">"), .str g, .str h, .str (S "q"), .str (S "-"), .str (S "#"), .str (S "\n"), .str (S "A"), .str (S "> "), .str (S " >"), .str (S "a>a")]
theorem oddT_ok {p q : Nat} : ∀ z ∈ oddT ⟨#[p]⟩ ⟨#[q]⟩, ∃ w : Str, z = .str w ∧ w.length ≤ 3 := by
  intro z hz
  unfold oddT at hz
  simp only [List.mem_cons, List.not_mem_nil, or_false] at hz
  have k1 : (S " ").length ≤ 3 := by decide +kernel
  have k2 : (S ">").length ≤ 3 := by decide +kernel
  have k3 : (S "q").length ≤ 3 := by decide +kernel
  have k4 : (S "-").length ≤ 3 := by decide +kernel
  have k5 : (S "#").length ≤ 3 := by decide +kernel
  have k6 : (S "\n").length ≤ 3 := by decide +kernel
  have k7 : (S "A").length ≤ 3 := by decide +kernel
  have k8 : (S "> ").length ≤ 3 := by decide +kernel
  have k9 : (S " >").length ≤ 3 := by decide +kernel
  have k10 : (S "a>a").length ≤ 3 := by decide +kernel
  rcases hz with rfl | rfl | rfl | rfl | rfl | rfl | rfl | rfl | rfl | rfl | rfl | rfl
  all_goals first
    | exact ⟨_, rfl, by assumption⟩
    | exact ⟨_, rfl, by show (1 : Nat) ≤ 3; omega⟩
theorem m_turned (n : Int) {s : Str} (hs : SgOk s) (W : Pd) {x : Str} (hx : x.length ≤ 100) : ∃ (n' : Int) (y : Str), y.length ≤ 900 ∧ m__law_turned [.own true [.int n], .d (cdW s W), .d (.str x)] = .ok (.d (.str y)) [.own true [.int n'], .d (cdW s W), .d (.str x)] := by
  obtain ⟨⟨q0, eq0⟩, ⟨q1, eq1⟩⟩ := sign_at hs
  have ei0 : ixD (cdW s W) (.int 0) = some (.str s) := by simp [at0]
  have z : x.length ≤ 16777214 := by omega
  have z0 : x.length ≤ 16777216 := by omega
  have z0' : x.length ≤ sizeLine := z0
  have g := sp_len
  have hL := L1_split (x := x)
  have hlen := L1_len (Txt.split x (S " "))
  have hpos : 0 < (Txt.split x (S " ")).length := by
    cases e : Txt.split x (S " ") with
    | nil => rw [e] at hL; simp [L1] at hL
    | cons _ _ => simp
  have esp : splitD (.str x) [.str (S " ")] = some (.list ((Txt.split x (S " ")).map PyData.str)) := by
    show (if _ then _ else _) = _
    rw [if_pos ⟨g, by simp only [sizeLine]; omega⟩]
  generalize Txt.split x (S " ") = zs at *
  obtain ⟨at_, n1, a0, a1, e1⟩ := take_ex n ((x.length : Int) + 1) (by omega) (by omega)
  obtain ⟨pl, n2, p0, p1, e2⟩ := take_ex n1 (zs.length : Int) (by omega) (by omega)
  obtain ⟨j, n3, j0, j1, e3⟩ := take_ex n2 12 (by omega) (by omega)
  obtain ⟨k, n4, k0, k1, e4⟩ := take_ex n3 9 (by omega) (by omega)
  obtain ⟨od, eod, mod_⟩ := atI_some (xs := oddT ⟨#[q0]⟩ ⟨#[q1]⟩) (i := j) j0 (by simpa [oddT] using j1)
  obtain ⟨o, rfl, ol⟩ := oddT_ok od mod_
  have t1 := cutS_len x none (some at_)
  have t2 := cutS_len x (some at_) none
  have t3 := cutS_len x (some (at_ + 1)) none
  have e5 : slD (.str x) none (some at_) = some (.str (cutS x none (some at_))) := by show (if _ then _ else _) = _; rw [if_pos z0']
  have e6 : slD (.str x) (some at_) none = some (.str (cutS x (some at_) none)) := by show (if _ then _ else _) = _; rw [if_pos z0']
  have e7 : slD (.str x) (some (at_ + 1)) none = some (.str (cutS x (some (at_ + 1)) none)) := by show (if _ then _ else _) = _; rw [if_pos z0']
  generalize cutS x none (some at_) = x1 at *
  generalize cutS x (some at_) none = x2 at *
  generalize cutS x (some (at_ + 1)) none = x3 at *
  have c1 : slD (.list (zs.map PyData.str)) none (some pl) = some (.list ((zs.take pl.toNat).map PyData.str)) := by show some (PyData.list (cutD _ _ _)) = _; rw [cut_take _ _ p0, List.map_take]
  have c2 : slD (.list (zs.map PyData.str)) (some (pl + 1)) none = some (.list ((zs.drop (pl + 1).toNat).map PyData.str)) := by show some (PyData.list (cutD _ _ _)) = _; rw [cut_drop _ _ (by omega), List.map_drop]
  have c3 : slD (.list (zs.map PyData.str)) none (some (pl + 1)) = some (.list ((zs.take (pl + 1).toNat).map PyData.str)) := by show some (PyData.list (cutD _ _ _)) = _; rw [cut_take _ _ (by omega), List.map_take]
  have c4 : slD (.list (zs.map PyData.str)) (some pl) none = some (.list ((zs.drop pl.toNat).map PyData.str)) := by show some (PyData.list (cutD _ _ _)) = _; rw [cut_drop _ _ p0, List.map_drop]
  have b1 := L1_take zs pl.toNat
  have b2 := L1_drop zs (pl + 1).toNat
  have b3 := L1_take zs (pl + 1).toNat
  have b4 := L1_drop zs pl.toNat
  generalize zs.take pl.toNat = A1 at *
  generalize zs.drop (pl + 1).toNat = A2 at *
  generalize zs.take (pl + 1).toNat = A3 at *
  generalize zs.drop pl.toNat = A4 at *
  have lad : ∀ A B : List Str, L1 A ≤ 300 → L1 B ≤ 300 → addD (.list (A.map PyData.str)) (.list (B.map PyData.str)) = some (.list ((A ++ B).map PyData.str)) := fun A B hA hB => by
    have := L1_len A
    have := L1_len B
    show (if _ then _ else _) = _
    rw [if_pos (by simp only [sizeLine, List.length_map]; omega), List.map_append]
  have tad : ∀ a b : Str, a.length ≤ 1000 → b.length ≤ 1000 → addD (.str a) (.str b) = some (.str (a ++ b)) := fun a b ha hb => by
    show (if _ then _ else _) = _
    rw [if_pos (by simp only [sizeLine]; omega)]
  have s1 : (S " ").length = 1 := by decide +kernel
  have s2 : (S "\n").length = 1 := by decide +kernel
  have lo : L1 [o] = o.length + 1 := by simp [L1]
  have y1 := tad x1 o (by omega) (by omega)
  have y1' := tad (x1 ++ o) x2 (by rw [apl]; omega) (by omega)
  have y2 := tad x1 x3 (by omega) (by omega)
  have y3 := lad A1 A2 (by omega) (by omega)
  have y4 := lad A3 A4 (by omega) (by omega)
  have y5 := lad A1 [o] (by omega) (by omega)
  have y5' := lad (A1 ++ [o]) A2 (by rw [L1_app]; omega) (by omega)
  have y6 := tad x (S " ") (by omega) (by omega)
  have y7 := tad (S " ") x (by omega) (by omega)
  have y8 := tad x (S "\n") (by omega) (by omega)
  have l1 := apl (x1 ++ o) x2
  have l1' := apl x1 o
  have l2 := apl x1 x3
  have l3 := L1_app A1 A2
  have l4 := L1_app A3 A4
  have l5 := L1_app (A1 ++ [o]) A2
  have l5' := L1_app A1 [o]
  have l6 := apl x (S " ")
  have l7 := apl (S " ") x
  have l8 := apl x (S "\n")
  obtain ⟨w3, v3⟩ := join_any (A1 ++ A2) (by omega)
  obtain ⟨w4, v4⟩ := join_any (A3 ++ A4) (by omega)
  obtain ⟨w5, v5⟩ := join_any (A1 ++ [o] ++ A2) (by omega)
  generalize Txt.join (S " ") (A1 ++ A2) = J3 at *
  generalize Txt.join (S " ") (A3 ++ A4) = J4 at *
  generalize Txt.join (S " ") (A1 ++ [o] ++ A2) = J5 at *
  generalize x1 ++ o ++ x2 = X1 at *
  generalize x1 ++ o = X1' at *
  generalize x1 ++ x3 = X2 at *
  generalize x ++ S " " = X6 at *
  generalize S " " ++ x = X7 at *
  generalize x ++ S "\n" = X8 at *
  obtain ⟨r, er, mr⟩ := atI_some (xs := [PyData.str X1, .str X2, .str J3, .str J4, .str J5, .str X6, .str X7, .str X8, .str x]) (i := k) k0 (by simpa using k1)
  obtain ⟨y, rfl, hy⟩ : ∃ y : Str, r = .str y ∧ y.length ≤ 900 := by
    simp only [List.mem_cons, List.not_mem_nil, or_false] at mr
    rcases mr with rfl | rfl | rfl | rfl | rfl | rfl | rfl | rfl | rfl <;> exact ⟨_, rfl, by omega⟩
  refine ⟨n4, y, hy, ?_⟩
  have ez : (zs.map PyData.str).length = zs.length := List.length_map ..
  rw [← ez] at e2
  unfold oddT at eod
  simp only [List.map_cons, List.map_nil] at y5
  clear b1 b2 b3 b4 t1 t2 t3 lad tad l1 l1' l2 l3 l4 l5 l5' l6 l7 l8 mr lo mod_ ol v3 v4 v5 hL hlen hpos ez
  generalize (A1 ++ [o] ++ A2).map PyData.str = Q5 at *
  generalize (A1 ++ [o]).map PyData.str = Q5' at *
  generalize (A1 ++ A2).map PyData.str = Q3 at *
  generalize (A3 ++ A4).map PyData.str = Q4 at *
  generalize A1.map PyData.str = P1 at *
  generalize A2.map PyData.str = P2 at *
  generalize A3.map PyData.str = P3 at *
  generalize A4.map PyData.str = P4 at *
  generalize zs.map PyData.str = ZS at *
  generalize cdW s W = CD at *
  have hl0 : lenD [.str x] = some (.int x.length) := by show (if _ then _ else _) = _; rw [if_pos z0']
  have y9 : addD (.list [.str X1, .str X2, .str J3, .str J4, .str J5]) (.list [.str X6, .str X7, .str X8, .str x]) = some (.list [.str X1, .str X2, .str J3, .str J4, .str J5, .str X6, .str X7, .str X8, .str x]) := rfl
  generalize (x.length : Int) = XL at *
  generalize (⟨#[q0]⟩ : Str) = G0 at *
  generalize (⟨#[q1]⟩ : Str) = G1 at *
  simp [m__law_turned, gOf, w__law_turned, put_eq, putOwn_eq, esp, hl0, e1, e2, ei0, eq0, eq1, e3, eod, e5, e6, e7, y1, y1', y2, c1, c2, c3, c4, y3, w3, y4, w4, y5, y5', w5, y6, y7, y8, y9, e4, er, sizeLine, -splitD_str, -lenD_str, -ixD_str, -slD_str, -slD_list, -addD_str, -addD_list]
end Lw
namespace Lw
open PySem PySem.Spec L2 Evl Dt
open TL (tl joinL tl_join tl_ofString join_eq tl_append len_tl)
theorem flat_take (ts : List Stp) (k : Nat) : ((ts.take k).flatMap Stp.a).length ≤ (ts.flatMap Stp.a).length := by
  conv => rhs; rw [← List.take_append_drop k ts]
  rw [List.flatMap_append, List.length_append]
  omega
theorem turn1 (n : Int) {s : Str} (hs : SgOk s) (W : Pd) {x : Str} (hx : x.length ≤ 100) (NS K TD j : Pd) {s7 s8 : Sl} (i7 : isIo s7 = false) :
    ∃ (n' : Int) (t7 : Sl), isIo t7 = false ∧ fb_law_1 [.d NS, .own false [.int n], .d (cdW s W), .d K, .d TD, .d (.str x), .d j, s7, s8] = .ok .nx [.d NS, .own false [.int n'], .d (cdW s W), .d K, .d TD, .d (.str x), .d j, t7, s8] := by
  obtain ⟨n', y, hy, e1⟩ := m_turned n hs W hx
  obtain ⟨d, e2, bs, e3⟩ := m_right_any hs W hy
  refine ⟨n', .d (.str y), rfl, ?_⟩
  generalize cdW s W = CD at *
  simp [fb_law_1, e1, put_eq, i7, e2, e3]
theorem turn0 (ns : List Int) (hb : ∀ z ∈ ns, Dt.bits z ≤ 1048576) (k : Nat) (hk : k < 60) {s : Str} (hs : SgOk s) (W : Pd) {s1 s4 s5 s6 s7 s8 : Sl} (i1 : isIo s1 = false) (i4 : isIo s4 = false) (i5 : isIo s5 = false) (i6 : isIo s6 = false) (i7 : isIo s7 = false) : ∃ t1 t4 t5 t6 t7 : Sl, isIo t1 = false ∧ isIo t4 = false ∧ isIo t5 = false ∧ isIo t6 = false ∧ isIo t7 = false ∧
    fb_law_0 [.d (.list (ns.map PyData.int)), s1, .d (cdW s W), .d (.int k), s4, s5, s6, s7, s8] = .ok .nx [.d (.list (ns.map PyData.int)), t1, .d (cdW s W), .d (.int k), t4, t5, t6, t7, s8] := by
  obtain ⟨n0, e0⟩ := m_pack ns hb k (by omega)
  obtain ⟨cs, n1, hcl, hcs, e1⟩ := m_lword n0 hs 8 (by omega) (by omega)
  obtain ⟨n2, ts, htl, hts, hfl, e2⟩ := m_telling n1 hs cs hcs (by omega)
  have hu1 : ∀ t ∈ ts.take 20, t.Ok s := fun t ht => hts t (List.mem_of_mem_take ht)
  have hu2 : (ts.take 20).length ≤ 20 := by rw [List.length_take]; omega
  have hu3 : ((ts.take 20).flatMap Stp.a).length ≤ 8 := by
    have := flat_take ts 20
    rw [hfl] at this
    omega
  have ct : cutD (ts.map Stp.d) none (some 20) = (ts.take 20).map Stp.d := by
    rw [cut_take _ _ (by omega), List.map_take]
    rfl
  generalize ts.take 20 = us at *
  have m1 := m_ltext hs (by omega) hu1
  have m2 := m_show hs (by omega) hu1
  have m3 := m_readtel hs W (by omega) hu1 hu3
  obtain ⟨bs, m4⟩ := m_right_yes hs hu1 m3
  have hxl : (ofL (showT us)).length ≤ 100 := by
    have := showT_len hu1
    rw [len_tl, tl_ofL]
    omega
  generalize ofL (showT us) = X at *
  obtain ⟨ρ', e, n', t6, t7, h6, h7, rfl⟩ := for_inv (h := put 6) (fb := fb_law_1) (xs := nums 0 4) (ρ := [.d (.list (ns.map PyData.int)), .own false [.int n2], .d (cdW s W), .d (.int k), .d (telD us), .d (.str X), s6, s7, s8])
    (fun i ρ => ∃ (n' : Int) (t6 t7 : Sl), isIo t6 = false ∧ isIo t7 = false ∧ ρ = [.d (.list (ns.map PyData.int)), .own false [.int n'], .d (cdW s W), .d (.int k), .d (telD us), .d (.str X), t6, t7, s8])
    (fun i x ρ hx hI => by
      obtain ⟨n', t6, t7, h6, h7, rfl⟩ := hI
      obtain ⟨n3, u7, j7, e⟩ := turn1 n' hs W hxl (.list (ns.map PyData.int)) (.int k) (telD us) x (s8 := s8) h7
      exact ⟨[.d (.list (ns.map PyData.int)), .own false [.int n'], .d (cdW s W), .d (.int k), .d (telD us), .d (.str X), .d x, t7, s8], _, by simp [put_eq, h6], .inl e, n3, .d x, u7, rfl, j7, rfl⟩)
    ⟨n2, s6, s7, i6, i7, rfl⟩
  refine ⟨.own false [.int n'], .d (telD us), .d (.str X), t6, t7, rfl, rfl, rfl, h6, h7, ?_⟩
  have ei0 : ixD (cdW s W) (.int 0) = some (.str s) := by simp [at0]
  simp only [telD] at *
  clear hu1 hu2 hu3 m3 hfl htl hts
  generalize us.map Stp.d = TD at *
  generalize ts.map Stp.d = TE at *
  generalize cdW s W = CD at *
  generalize hM : ((k : Nat) : Int) = M at *
  generalize ns.map PyData.int = NS at *
  simp [fb_law_0, e0, putOwn_eq, i1, ei0, e1, e2, ct, put_eq, i4, i5, m1, m2, m4, e]
/-! ### things that are no texts -/
def things : List Pd := [.none, .int 7, .bool true, .tuple [.str (S "-")], .list [.str (S "-")], .dict [], .str (S ""), .str (S " "), .str (S "--")]
theorem part_mi {s : Str} (hs : SgOk s) : stepB s (stepL [45, 45]) = false := by
  have : partB s (.str (ofL [45, 45])) = false := by
    have h2 : ¬ (((ofL [45, 45]).length : Int) ≤ 1) := by decide
    simp only [partB, decide_eq_false h2, Bool.false_and]
  have e : stepL [45, 45] = .tuple [.str (ofL [45, 45]), .str (ofL [45, 45])] := rfl
  rw [e]
  simp only [stepB, this, Bool.false_and]
theorem stepL_nil (s : Str) : stepB s (stepL []) = false := by
  have e : stepL [] = .tuple [.str (ofL []), .str (ofL [])] := rfl
  have e2 : isE (.str (ofL [])) = true := rfl
  rw [e]
  simp only [stepB, e2, Bool.and_self, Bool.not_true, Bool.and_false]
theorem thing_no {s : Str} (hs : SgOk s) (W : Pd) : ∀ d ∈ things, ∃ bs, m__law_right [.d (cdW s W), .d d, .d .none] = .ok (.d (.bool true)) bs := by
  have str : ∀ x : Str, x.length ≤ 900 → telB s (found x) = false → ∃ bs, m__law_right [.d (cdW s W), .d (.str x), .d .none] = .ok (.d (.bool true)) bs := fun x hx h => by
    obtain ⟨as, e⟩ := (m_read_str hs W hx).2 h
    exact m_right_no e
  have oth : ∀ d : Pd, eqD d (.str (S "-")) = some (.bool false) → isStrD d = false → ∃ bs, m__law_right [.d (cdW s W), .d d, .d .none] = .ok (.d (.bool true)) bs := fun d h1 h2 => by
    obtain ⟨as, e⟩ := m_read_no hs W d h1 h2
    exact m_right_no e
  have tel1 : ∀ (x : Str) (ps : List (List Nat)), x ≠ S "-" → Txt.split x (S " ") = ps.map ofL → (∃ p ∈ ps, stepB s (stepL p) = false) → telB s (found x) = false := fun x ps h1 h2 h3 => by
    obtain ⟨p, hp, hb⟩ := h3
    unfold found
    rw [if_neg h1, h2, List.map_map]
    have : (ps.map ((fun z => stepL (tl z)) ∘ ofL)).all (stepB s) = false := by
      rw [List.all_eq_false]
      exact ⟨stepL p, List.mem_map.mpr ⟨p, hp, rfl⟩, by rw [hb]; simp⟩
    simp only [telB, this, Bool.false_and]
  have hm : PyData.strOk (S "-") = true := by decide +kernel
  intro d hd
  unfold things at hd
  simp only [List.mem_cons, List.not_mem_nil, or_false] at hd
  rcases hd with rfl | rfl | rfl | rfl | rfl | rfl | rfl | rfl | rfl
  · exact oth _ (by rfl) rfl
  · exact oth _ (by rfl) rfl
  · exact oth _ (by simp [eqD, eqB, hm, PyData.eqv]) rfl
  · exact oth _ (by simp [eqD, eqB, sh_tuple, hm, PyData.eqv]) rfl
  · exact oth _ (by simp [eqD, eqB, sh_list, hm, PyData.eqv]) rfl
  · exact oth _ (by rfl) rfl
  · refine str _ (by decide +kernel) (tel1 _ [[]] (by decide +kernel) ?_ ⟨[], by simp, stepL_nil s⟩)
    exact split_parts (ps := [[]]) tl_sp (by decide +kernel) (by simp) (by simp)
  · refine str _ (by decide +kernel) (tel1 _ [[], []] (by decide +kernel) ?_ ⟨[], by simp, stepL_nil s⟩)
    have e : S " " = ofL (joinL [32] [[], []]) := by decide +kernel
    conv => lhs; arg 1; rw [e]
    exact split_parts (ps := [[], []]) tl_sp (by decide +kernel) (by simp) (by simp)
  · refine str _ (by decide +kernel) (tel1 _ [[45, 45]] (by decide +kernel) ?_ ⟨[45, 45], by simp, part_mi hs⟩)
    have e : S "--" = ofL (joinL [32] [[45, 45]]) := by decide +kernel
    conv => lhs; arg 1; rw [e]
    exact split_parts (ps := [[45, 45]]) tl_sp (by decide +kernel) (by simp) (by simp)
theorem math (ns : List Int) (h : ns.length ≤ 63) (hb : ∀ z ∈ ns, Dt.bits z ≤ 1048576) : ∃ as', m_law [.d (.list (ns.map PyData.int))] = .ok (.d (.bool true)) as' := by
  obtain ⟨m1, J, hJ0, hJ1, emin, emax⟩ : ∃ m1 J : Int, 2 ≤ J ∧ J ≤ 11 ∧ minD [.int (ns.length : Int), .int 11] = some (.int m1) ∧ maxD [.int 2, .int m1] = some (.int J) := by
    refine ⟨_, _, ?_, ?_, minD_int, maxD_int⟩ <;> (repeat' split) <;> omega
  obtain ⟨n0, e0⟩ := m_pack ns hb 0 (by omega)
  obtain ⟨c, n1, hc, e1⟩ := m_code n0 2 (by omega) (by omega)
  have e1' : m__law_code [.own true [.int n0], .d (.int 2)] = .ok (.d c.d) [.own true [.int n1], .d (.int 2)] := e1
  have e0' : m__law_pack [.d (.list (ns.map PyData.int)), .d (.int 0)] = .ok (.l [.int n0]) [.d (.list (ns.map PyData.int)), .d (.int 0)] := e0
  obtain ⟨n2, s, W, hs, e2⟩ := m_spelled n1 hc (by omega)
  obtain ⟨ρ', e, s1, s3, s4, s5, s6, s7, i1, i3, i4, i5, i6, i7, rfl⟩ := for_inv (h := put 3) (fb := fb_law_0) (xs := nums 1 (J.toNat - 1)) (ρ := [.d (.list (ns.map PyData.int)), .own false [.int n2], .d (cdW s W), .no, .no, .no, .no, .no, .no])
    (fun i ρ => ∃ s1 s3 s4 s5 s6 s7 : Sl, isIo s1 = false ∧ isIo s3 = false ∧ isIo s4 = false ∧ isIo s5 = false ∧ isIo s6 = false ∧ isIo s7 = false ∧ ρ = [.d (.list (ns.map PyData.int)), s1, .d (cdW s W), s3, s4, s5, s6, s7, .no])
    (fun i x ρ hx hI => by
      obtain ⟨s1, s3, s4, s5, s6, s7, i1, i3, i4, i5, i6, i7, rfl⟩ := hI
      have hi : i < (J.toNat - 1) := by
        have := (List.getElem?_eq_some_iff.mp hx).1
        simpa [nums] using this
      have hx' : x = .int ((1 + i : Nat) : Int) := by
        unfold nums at hx
        rw [List.getElem?_map, List.getElem?_range hi] at hx
        simp at hx
        rw [← hx]
        congr 1
      subst hx'
      obtain ⟨t1, t4, t5, t6, t7, h1, h4, h5, h6, h7, e⟩ := turn0 ns hb (1 + i) (by omega) hs W (s8 := .no) i1 i4 i5 i6 i7
      exact ⟨_, _, by simp [put_eq, i3], .inl e, t1, _, t4, t5, t6, t7, h1, rfl, h4, h5, h6, h7, rfl⟩)
    ⟨.own false [.int n2], .no, .no, .no, .no, .no, rfl, rfl, rfl, rfl, rfl, rfl, rfl⟩
  have key := lc_mapM (h := put 8) (fe := ce_law_2) (vs := [8]) (fun d : Pd => d) (fun _ => PyData.bool true) (ρ := [.d (.list (ns.map PyData.int)), s1, .d (cdW s W), s3, s4, s5, s6, s7, .no]) (l := things) (fun d hd => by
    obtain ⟨bs, m⟩ := thing_no hs W d hd
    refine ⟨[.d (.list (ns.map PyData.int)), s1, .d (cdW s W), s3, s4, s5, s6, s7, .d d], [.d (.list (ns.map PyData.int)), s1, .d (cdW s W), s3, s4, s5, s6, s7, .d d], by simp [put_eq], ?_, by simp⟩
    generalize cdW s W = CD at *
    simp [ce_law_2, m]) (by simp [things])
  rw [List.map_id'] at key
  have hbo : boolsD (things.map fun _ => PyData.bool true) = some (things.map fun _ => true) := rfl
  have hal : (things.map fun _ => true).all id = true := rfl
  have hr : (-4611686018427387904 : Int) ≤ J ∧ (J : Int) < 4611686018427387904 := by omega
  unfold things at key
  generalize hT : (things.map fun _ => PyData.bool true) = TT at *
  generalize c.d = CD at *
  generalize cdW s W = CE at *
  exact ⟨_, by simp [m_law, gOf, w_law, e0', putOwn_eq, e1', e2, put_eq, emin, emax, hr.1, hr.2, e, key, hbo, hal, sizeLine, -minD_int, -maxD_int]; rfl⟩
end Lw
namespace Lw
open PySem PySem.Spec L2 Evl Dt
abbrev Rr : PySem.W.OpenRow := PySem.W.OpenLaw.row PySem.Challenge.rw_wishladder_k11_texts_of_tellings
abbrev hk : PySem.W.Hook := hookE 4 fa fn exB
def ob (s : PySem.W.SharedT) : He.AlD × Bool := obsE 4 fa fn exB (HandSHeadRun.getT s)
theorem ob_eq (s : PySem.W.SharedT) : ob s = hk.obs s.abs := obsE_eq (HandSHeadRun.getT_eq s)
theorem run (w : World) : HandSHeadRun.RunEq Rr (PySem.W.view Rr.prog [45]) hk ob 6000 [("LadderError" : PySem.Str), ("NoText" : PySem.Str), ("NoOrder" : PySem.Str), ("NoWord" : PySem.Str), ("NoNumber" : PySem.Str), ("NoForm" : PySem.Str), ("NoTelling" : PySem.Str), ("NoBook" : PySem.Str), ("TooMany" : PySem.Str), ("NoWeights" : PySem.Str), ("NoCall" : PySem.Str), ("NoKept" : PySem.Str), ("is_text_of" : PySem.Str), ("MOST_WORD" : PySem.Str), ("is_word" : PySem.Str), ("is_part" : PySem.Str), ("is_step" : PySem.Str), ("is_steps" : PySem.Str), ("is_telling" : PySem.Str), ("word_of" : PySem.Str), ("show_step" : PySem.Str), ("show_telling" : PySem.Str), ("step_in" : PySem.Str), ("read_telling" : PySem.Str), ("_law_mixed" : PySem.Str), ("_law_pack" : PySem.Str), ("_law_take" : PySem.Str), ("_law_names" : PySem.Str), ("_law_set" : PySem.Str), ("_law_pattern" : PySem.Str), ("_law_code" : PySem.Str), ("_law_word" : PySem.Str), ("_law_telling" : PySem.Str), ("_law_only" : PySem.Str), ("_law_text" : PySem.Str), ("_law_due" : PySem.Str), ("_law_turned" : PySem.Str), ("_law_right" : PySem.Str), ("_law_spelled" : PySem.Str)] w := by
  intro os
  kernel_rfl
theorem facts {P : Program} {w : World} {K : PySem.W.Frag} {h : Heap} {mg : Str → Option Value} {f : Addr} (X : K.In h) (G : h.Ns mainGlobals mg) (hfa : mg ("law" : Str) = some (.ref f)) (c : He.SaysD fa fn K) (xb : exB K = true) :
    ∃ (C : Str → Addr) (fd : FuncData), (∀ (s : Shared) (v : Value), BindsTo s fd ⟨[v], []⟩ [("_law_script", v)]) ∧ ∀ base : Heap, K.In base → base.Ns mainGlobals mg → FnOk P w K mg base (L2.CX P w) 7 f fd ["_law_script"] (spF ⟨K, C⟩ 1 m_law) := by
  obtain ⟨fd0, F0⟩ := c.def_ 0 (d := d_is_text_of) rfl
  obtain ⟨fd1, F1⟩ := c.def_ 1 (d := d_is_word) rfl
  obtain ⟨fd2, F2⟩ := c.def_ 2 (d := d_is_part) rfl
  obtain ⟨fd3, F3⟩ := c.def_ 3 (d := d_is_step) rfl
  obtain ⟨fd4, F4⟩ := c.def_ 4 (d := d_is_steps) rfl
  obtain ⟨fd5, F5⟩ := c.def_ 5 (d := d_word_of) rfl
  obtain ⟨fd6, F6⟩ := c.def_ 6 (d := d_is_telling) rfl
  obtain ⟨fd7, F7⟩ := c.def_ 7 (d := d_show_step) rfl
  obtain ⟨fd8, F8⟩ := c.def_ 8 (d := d_show_telling) rfl
  obtain ⟨fd9, F9⟩ := c.def_ 9 (d := d_step_in) rfl
  obtain ⟨fd10, F10⟩ := c.def_ 10 (d := d_read_telling) rfl
  obtain ⟨fd11, F11⟩ := c.def_ 11 (d := d__law_mixed) rfl
  obtain ⟨fd12, F12⟩ := c.def_ 12 (d := d__law_pack) rfl
  obtain ⟨fd13, F13⟩ := c.def_ 13 (d := d__law_take) rfl
  obtain ⟨fd14, F14⟩ := c.def_ 14 (d := d__law_names) rfl
  obtain ⟨fd15, F15⟩ := c.def_ 15 (d := d__law_set) rfl
  obtain ⟨fd16, F16⟩ := c.def_ 16 (d := d__law_pattern) rfl
  obtain ⟨fd17, F17⟩ := c.def_ 17 (d := d__law_code) rfl
  obtain ⟨fd18, F18⟩ := c.def_ 18 (d := d__law_word) rfl
  obtain ⟨fd19, F19⟩ := c.def_ 19 (d := d__law_telling) rfl
  obtain ⟨fd20, F20⟩ := c.def_ 20 (d := d__law_only) rfl
  obtain ⟨fd21, F21⟩ := c.def_ 21 (d := d__law_text) rfl
  obtain ⟨fd22, F22⟩ := c.def_ 22 (d := d__law_due) rfl
  obtain ⟨fd23, F23⟩ := c.def_ 23 (d := d__law_turned) rfl
  obtain ⟨fd24, F24⟩ := c.def_ 24 (d := d__law_right) rfl
  obtain ⟨fd25, F25⟩ := c.def_ 25 (d := d__law_spelled) rfl
  obtain ⟨fd26, F26⟩ := c.def_ 26 (d := d_law) rfl
  obtain ⟨fi0, Fi0⟩ := c.def_ 27 (d := d_NoText) rfl
  let T : TX K mg := {
    f_is_text_of := ⟨_, fd0, F0, He.glo_ok X G (c.fact 0 (f := .glo "is_text_of") rfl)⟩,
    f_is_word := ⟨_, fd1, F1, He.glo_ok X G (c.fact 1 (f := .glo "is_word") rfl)⟩,
    f_is_part := ⟨_, fd2, F2, He.glo_ok X G (c.fact 2 (f := .glo "is_part") rfl)⟩,
    f_is_step := ⟨_, fd3, F3, He.glo_ok X G (c.fact 3 (f := .glo "is_step") rfl)⟩,
    f_is_steps := ⟨_, fd4, F4, He.glo_ok X G (c.fact 4 (f := .glo "is_steps") rfl)⟩,
    f_word_of := ⟨_, fd5, F5, He.glo_ok X G (c.fact 5 (f := .glo "word_of") rfl)⟩,
    f_is_telling := ⟨_, fd6, F6, He.glo_ok X G (c.fact 6 (f := .glo "is_telling") rfl)⟩,
    f_show_step := ⟨_, fd7, F7, He.glo_ok X G (c.fact 7 (f := .glo "show_step") rfl)⟩,
    f_show_telling := ⟨_, fd8, F8, He.glo_ok X G (c.fact 8 (f := .glo "show_telling") rfl)⟩,
    f_step_in := ⟨_, fd9, F9, He.glo_ok X G (c.fact 9 (f := .glo "step_in") rfl)⟩,
    f_read_telling := ⟨_, fd10, F10, He.glo_ok X G (c.fact 10 (f := .glo "read_telling") rfl)⟩,
    f__law_mixed := ⟨_, fd11, F11, He.glo_ok X G (c.fact 11 (f := .glo "_law_mixed") rfl)⟩,
    f__law_pack := ⟨_, fd12, F12, He.glo_ok X G (c.fact 12 (f := .glo "_law_pack") rfl)⟩,
    f__law_take := ⟨_, fd13, F13, He.glo_ok X G (c.fact 13 (f := .glo "_law_take") rfl)⟩,
    f__law_names := ⟨_, fd14, F14, He.glo_ok X G (c.fact 14 (f := .glo "_law_names") rfl)⟩,
    f__law_set := ⟨_, fd15, F15, He.glo_ok X G (c.fact 15 (f := .glo "_law_set") rfl)⟩,
    f__law_pattern := ⟨_, fd16, F16, He.glo_ok X G (c.fact 16 (f := .glo "_law_pattern") rfl)⟩,
    f__law_code := ⟨_, fd17, F17, He.glo_ok X G (c.fact 17 (f := .glo "_law_code") rfl)⟩,
    f__law_word := ⟨_, fd18, F18, He.glo_ok X G (c.fact 18 (f := .glo "_law_word") rfl)⟩,
    f__law_telling := ⟨_, fd19, F19, He.glo_ok X G (c.fact 19 (f := .glo "_law_telling") rfl)⟩,
    f__law_only := ⟨_, fd20, F20, He.glo_ok X G (c.fact 20 (f := .glo "_law_only") rfl)⟩,
    f__law_text := ⟨_, fd21, F21, He.glo_ok X G (c.fact 21 (f := .glo "_law_text") rfl)⟩,
    f__law_due := ⟨_, fd22, F22, He.glo_ok X G (c.fact 22 (f := .glo "_law_due") rfl)⟩,
    f__law_turned := ⟨_, fd23, F23, He.glo_ok X G (c.fact 23 (f := .glo "_law_turned") rfl)⟩,
    f__law_right := ⟨_, fd24, F24, He.glo_ok X G (c.fact 24 (f := .glo "_law_right") rfl)⟩,
    f__law_spelled := ⟨_, fd25, F25, He.glo_ok X G (c.fact 25 (f := .glo "_law_spelled") rfl)⟩,
    f_law := ⟨_, fd26, F26, He.glo_ok X G (c.fact 26 (f := .glo "law") rfl)⟩,
    m_ValueError := He.free_ok X G (c.fact 27 (f := .free "ValueError") rfl),
    m_all := He.free_ok X G (c.fact 28 (f := .free "all") rfl),
    m_dict := He.free_ok X G (c.fact 29 (f := .free "dict") rfl),
    m_divmod := He.free_ok X G (c.fact 30 (f := .free "divmod") rfl),
    m_int := He.free_ok X G (c.fact 31 (f := .free "int") rfl),
    m_isinstance := He.free_ok X G (c.fact 32 (f := .free "isinstance") rfl),
    m_len := He.free_ok X G (c.fact 33 (f := .free "len") rfl),
    m_list := He.free_ok X G (c.fact 34 (f := .free "list") rfl),
    m_max := He.free_ok X G (c.fact 35 (f := .free "max") rfl),
    m_min := He.free_ok X G (c.fact 36 (f := .free "min") rfl),
    m_range := He.free_ok X G (c.fact 37 (f := .free "range") rfl),
    m_sorted := He.free_ok X G (c.fact 38 (f := .free "sorted") rfl),
    m_str := He.free_ok X G (c.fact 39 (f := .free "str") rfl),
    m_sum := He.free_ok X G (c.fact 40 (f := .free "sum") rfl),
    m_tuple := He.free_ok X G (c.fact 41 (f := .free "tuple") rfl),
    y_LadderError := He.glo_ok X G (c.fact 42 (f := .glo "LadderError") rfl),
    y_NoBook := He.glo_ok X G (c.fact 43 (f := .glo "NoBook") rfl),
    y_NoCall := He.glo_ok X G (c.fact 44 (f := .glo "NoCall") rfl),
    y_NoForm := He.glo_ok X G (c.fact 45 (f := .glo "NoForm") rfl),
    y_NoKept := He.glo_ok X G (c.fact 46 (f := .glo "NoKept") rfl),
    y_NoNumber := He.glo_ok X G (c.fact 47 (f := .glo "NoNumber") rfl),
    y_NoOrder := He.glo_ok X G (c.fact 48 (f := .glo "NoOrder") rfl),
    y_NoTelling := He.glo_ok X G (c.fact 49 (f := .glo "NoTelling") rfl),
    y_NoText := He.glo_ok X G (c.fact 50 (f := .glo "NoText") rfl),
    y_NoWeights := He.glo_ok X G (c.fact 51 (f := .glo "NoWeights") rfl),
    y_NoWord := He.glo_ok X G (c.fact 52 (f := .glo "NoWord") rfl),
    y_TooMany := He.glo_ok X G (c.fact 53 (f := .glo "TooMany") rfl),
    c_MOST_WORD := He.int_ok X G (c.fact 54 (f := .int "MOST_WORD" 8) rfl),
    x_is := okIs_ok (Bool.and_eq_true_iff.mp xb).1,
    x_ex := okEx_ok (Bool.and_eq_true_iff.mp (Bool.and_eq_true_iff.mp xb).2).1,
    x_isValueError := okIsB_ok (Bool.and_eq_true_iff.mp (Bool.and_eq_true_iff.mp (Bool.and_eq_true_iff.mp xb).2).2).1,
    i_NoText := InI.of Fi0 (He.glo_ok X G (c.fact 50 (f := .glo "NoText") rfl)) (Bool.and_eq_true_iff.mp (Bool.and_eq_true_iff.mp (Bool.and_eq_true_iff.mp xb).2).2).2 }
  have e := hfa.symm.trans (He.glo_ok X G (c.fact 26 (f := .glo "law") rfl))
  cases e
  have b := FunD.bindsA (ps := ["_law_script"]) F26 fun _ _ _ _ _ _ us hl => match us, hl with | [_], _ => rfl
  exact ⟨fun _ => 0, fd26, fun s v => b s [v] rfl, fun base _ _ => ok_law T⟩
end Lw
open PySem PySem.W PySem.Calls PyProof.Rows
set_option maxHeartbeats 0 in
theorem PySem.Challenge.cw_wishladder_k11_texts_of_tellings_holds : PySem.Challenge.rw_wishladder_k11_texts_of_tellings.Holds := by
  w_on; o_law
  refine HandSHeadRun.head_any (r := OpenLaw.row PySem.Challenge.rw_wishladder_k11_texts_of_tellings) (q := view (OpenLaw.row PySem.Challenge.rw_wishladder_k11_texts_of_tellings).prog [45]) (H := Lw.hk) (ob := Lw.ob) (M := 6000) (loose := [("LadderError" : PySem.Str), ("NoText" : PySem.Str), ("NoOrder" : PySem.Str), ("NoWord" : PySem.Str), ("NoNumber" : PySem.Str), ("NoForm" : PySem.Str), ("NoTelling" : PySem.Str), ("NoBook" : PySem.Str), ("TooMany" : PySem.Str), ("NoWeights" : PySem.Str), ("NoCall" : PySem.Str), ("NoKept" : PySem.Str), ("is_text_of" : PySem.Str), ("MOST_WORD" : PySem.Str), ("is_word" : PySem.Str), ("is_part" : PySem.Str), ("is_step" : PySem.Str), ("is_steps" : PySem.Str), ("is_telling" : PySem.Str), ("word_of" : PySem.Str), ("show_step" : PySem.Str), ("show_telling" : PySem.Str), ("step_in" : PySem.Str), ("read_telling" : PySem.Str), ("_law_mixed" : PySem.Str), ("_law_pack" : PySem.Str), ("_law_take" : PySem.Str), ("_law_names" : PySem.Str), ("_law_set" : PySem.Str), ("_law_pattern" : PySem.Str), ("_law_code" : PySem.Str), ("_law_word" : PySem.Str), ("_law_telling" : PySem.Str), ("_law_only" : PySem.Str), ("_law_text" : PySem.Str), ("_law_due" : PySem.Str), ("_law_turned" : PySem.Str), ("_law_right" : PySem.Str), ("_law_spelled" : PySem.Str)]) (d := HandSHeadRun.topDef (OpenLaw.row PySem.Challenge.rw_wishladder_k11_texts_of_tellings).prog 45) (kwd := []) Lw.ob_eq
    (by kernel_rfl) (fun s => by kernel_rfl) Lw.run (by kernel_rfl) (by kernel_rfl) (by kernel_rfl) (by rfl) (by first | assumption | decide +kernel) (by decide +kernel) ⟨rfl, rfl, rfl, rfl, rfl, by decide +kernel⟩ ?hw ?hc
  case hw => w_witness2
  case hc =>
    refine Dt.walk_D (l := PySem.Challenge.rw_wishladder_k11_texts_of_tellings) (n := 63) (k := 7) (x := "_law_script") (m := Lw.m_law) rfl (by decide) (by kernel_rfl) ⟨rfl, by decide, by decide⟩ ?F Lw.math
    intro w mg fa h Y G hmg0
    obtain ⟨K, KX, c⟩ := Y
    have hmg : mg ("law" : PySem.Str) = some (.ref fa) := by
      have e : (HandSHeadRun.topDef (OpenLaw.row PySem.Challenge.rw_wishladder_k11_texts_of_tellings).prog 45).name = ("law" : PySem.Str) := by kernel_rfl
      rw [← e]
      exact hmg0
    obtain ⟨C, fd, hb, hF⟩ := Lw.facts (P := (PySem.Challenge.rw_wishladder_k11_texts_of_tellings).prog) (w := w) KX G hmg c.1 c.2
    exact ⟨K, C, fd, KX, hb, hF⟩
