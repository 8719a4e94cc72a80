import PyProof.Rows.All
import Wide.All
import OpenK.AllK
import Wide.FinOn
import HandS.ForMost
import HandS.ForExc
import HandS.Evl
import HandS.IsInst
import HandS.TupAny
import HandS.TupMul
import HandS.Deep
import HandS.Wide
import HandS.WideBits
import HandS.Defaults
import HandS.TupLe
import HandS.Style
import PyProof.EqKinds
import HandS.Head0
import HandS.Head1
import HandS.Head2
import HandS.HeadEnd
import HandS.HeadHook1
import HandS.HeadHook2
import HandS.EndBits
import HandS.Zip
import PyProof.ListStr
import PyProof.TupleOfStr
import HandS.ExcValue
import HandS.ExcField
import KE.KExcIs
import HandS.HeadHook4
import HandS.ExcInit
import HandS.Strs
import HandS.HeadHook3
import HandS.Replace
import PyProof.SumAnyB
import PySem.Challenge.RW_wishladder_k06_whole_texts_of_codes
set_option Elab.async false
set_option linter.all false
set_option maxRecDepth 100000
set_option maxHeartbeats 1000000
/-! Dt: a layer of plain data over the hand layer: slots hold data or owned lists, a def is a function over data. -/
namespace Dt
open PySem PySem.Spec L2 Evl

abbrev Pd := PyData
/-- a key of a dict as data -/
def kD : Key → Pd
  | .inl i => .int i
  | .inr x => .str x

mutual
/-- the value v stands for the data d in the heap H -/
inductive RD (K : PySem.W.Frag) (H : Hp) : V → Pd → Prop
  | non : RD K H .non .none
  | bl (b : Bool) : RD K H (.bl b) (.bool b)
  | int (i : Int) : RD K H (.int i) (.int i)
  | str (x : Str) : RD K H (.str x) (.str x)
  | lst {a : Addr} {xs : List V} {ds : List Pd} (h : SqL K H a xs) (hs : RDs K H xs ds) : RD K H (.ref a) (.list ds)
  | tup {a : Addr} {xs : List V} {ds : List Pd} (h : SqT K H a xs) (hs : RDs K H xs ds) : RD K H (.ref a) (.tuple ds)
  | dct {a : Addr} {kvs : List (Key × V)} {ds : List (Pd × Pd)} (h : H a = some (.dK kvs)) (hs : RKs K H kvs ds) : RD K H (.ref a) (.dict ds)
inductive RDs (K : PySem.W.Frag) (H : Hp) : List V → List Pd → Prop
  | nil : RDs K H [] []
  | cons {v : V} {vs : List V} {d : Pd} {ds : List Pd} (h : RD K H v d) (hs : RDs K H vs ds) : RDs K H (v :: vs) (d :: ds)
inductive RKs (K : PySem.W.Frag) (H : Hp) : List (Key × V) → List (Pd × Pd) → Prop
  | nil : RKs K H [] []
  | cons {k : Key} {v : V} {vs : List (Key × V)} {d : Pd} {ds : List (Pd × Pd)} (h : RD K H v d) (hs : RKs K H vs ds) : RKs K H ((k, v) :: vs) ((kD k, d) :: ds)
end

section
variable {K : PySem.W.Frag} {H H' : Hp}
mutual
theorem RD.mono (e : Ex H H') : ∀ {v : V} {d : Pd}, RD K H v d → RD K H' v d
  | _, _, .non => .non
  | _, _, .bl b => .bl b
  | _, _, .int i => .int i
  | _, _, .str x => .str x
  | _, _, .lst h hs => .lst (ex_l e h) (RDs.mono e hs)
  | _, _, .tup h hs => .tup (ex_t e h) (RDs.mono e hs)
  | _, _, .dct h hs => .dct (e _ _ h) (RKs.mono e hs)
theorem RDs.mono (e : Ex H H') : ∀ {v : List V} {d : List Pd}, RDs K H v d → RDs K H' v d
  | _, _, .nil => .nil
  | _, _, .cons h hs => .cons (RD.mono e h) (RDs.mono e hs)
theorem RKs.mono (e : Ex H H') : ∀ {v : List (Key × V)} {d : List (Pd × Pd)}, RKs K H v d → RKs K H' v d
  | _, _, .nil => .nil
  | _, _, .cons h hs => .cons (RD.mono e h) (RKs.mono e hs)
end
theorem RDs.length : ∀ {vs : List V} {ds : List Pd}, RDs K H vs ds → vs.length = ds.length
  | _, _, .nil => rfl
  | _, _, .cons _ t => congrArg Nat.succ (RDs.length t)
theorem RDs.get : ∀ {vs : List V} {ds : List Pd} {i : Nat} {d : Pd}, RDs K H vs ds → ds[i]? = some d → ∃ v, vs[i]? = some v ∧ RD K H v d
  | _, _, _, _, .nil, e => by simp at e
  | _, _, 0, _, .cons r _, e => by simp at e; subst e; exact ⟨_, rfl, r⟩
  | _, _, i + 1, d, .cons _ t, e => by
    obtain ⟨u, h1, h2⟩ := RDs.get (i := i) (d := d) t (by simpa using e)
    exact ⟨u, by simpa using h1, h2⟩
theorem RDs.get' : ∀ {vs : List V} {ds : List Pd} {i : Nat} {v : V}, RDs K H vs ds → vs[i]? = some v → ∃ d, ds[i]? = some d ∧ RD K H v d
  | _, _, _, _, .nil, e => by simp at e
  | _, _, 0, _, .cons r _, e => by simp at e; subst e; exact ⟨_, rfl, r⟩
  | _, _, i + 1, d, .cons _ t, e => by
    obtain ⟨u, h1, h2⟩ := RDs.get' (i := i) (v := d) t (by simpa using e)
    exact ⟨u, by simpa using h1, h2⟩
theorem RDs.append : ∀ {vs us : List V} {ds es : List Pd}, RDs K H vs ds → RDs K H us es → RDs K H (vs ++ us) (ds ++ es)
  | _, _, _, _, .nil, s => s
  | _, _, _, _, .cons r t, s => .cons r (RDs.append t s)
theorem RDs.take : ∀ {vs : List V} {ds : List Pd} (n : Nat), RDs K H vs ds → RDs K H (vs.take n) (ds.take n)
  | _, _, 0, _ => .nil
  | _, _, _ + 1, .nil => .nil
  | _, _, n + 1, .cons r t => .cons r (RDs.take n t)
theorem RDs.drop : ∀ {vs : List V} {ds : List Pd} (n : Nat), RDs K H vs ds → RDs K H (vs.drop n) (ds.drop n)
  | _, _, 0, r => r
  | _, _, _ + 1, .nil => .nil
  | _, _, n + 1, .cons _ t => RDs.drop n t
theorem RDs.set {x : V} {u : Pd} (r : RD K H x u) : ∀ {vs : List V} {ds : List Pd} (i : Nat), RDs K H vs ds → RDs K H (vs.set i x) (ds.set i u)
  | _, _, _, .nil => .nil
  | _, _, 0, .cons _ t => .cons r t
  | _, _, i + 1, .cons q t => .cons q (RDs.set r i t)
theorem RDs.ofMem : ∀ {vs : List V} {ds : List Pd}, vs.length = ds.length → (∀ (i : Nat) v d, vs[i]? = some v → ds[i]? = some d → RD K H v d) → RDs K H vs ds
  | [], [], _, _ => .nil
  | v :: vs, d :: ds, hl, h => .cons (h 0 v d rfl rfl) (RDs.ofMem (by simpa using hl) fun i a b e1 e2 => h (i + 1) a b (by simpa using e1) (by simpa using e2))
  | [], _ :: _, hl, _ => by simp at hl
  | _ :: _, [], hl, _ => by simp at hl
theorem RDs.reverse {vs : List V} {ds : List Pd} (h : RDs K H vs ds) : RDs K H vs.reverse ds.reverse := by
  refine RDs.ofMem (by simp [h.length]) fun i v d e1 e2 => ?_
  have hl := h.length
  obtain ⟨h1, e1⟩ := List.getElem?_eq_some_iff.mp e1
  obtain ⟨h2, e2⟩ := List.getElem?_eq_some_iff.mp e2
  rw [List.getElem_reverse] at e1 e2
  obtain ⟨v', q1, q2⟩ := h.get (i := vs.length - 1 - i) (d := d) (by rw [← e2, hl, List.getElem?_eq_getElem])
  have : v' = v := by
    have := q1.symm.trans (by rw [List.getElem?_eq_getElem (by simp at h1; omega), e1])
    exact Option.some.inj this
  exact this ▸ q2
theorem RDs.flat : ∀ {ns : List Int}, RDs K H (ns.map V.int) (ns.map PyData.int)
  | [] => .nil
  | n :: ns => .cons (.int n) RDs.flat
end

/-- an exception: its class's name, its fields -/
structure XD where
  c : Str
  fs : Option (List (Str × Pd))
/-- a slot: empty, data, a list that this def owns (io: handed in, to be changed), or an exception that was caught -/
inductive Sl where
  | no
  | d (x : Pd)
  | own (io : Bool) (xs : List Pd)
  | x (e : XD)
abbrev Rho := List Sl
/-- what an expression gives: data, or the list of an owned slot -/
inductive AV where
  | d (x : Pd)
  | sl (i : Nat)
inductive R (A : Type) where
  | bad
  | ok (a : A) (p : Rho)
  | ex (e : XD) (p : Rho)
def R.bind {A B : Type} (r : R A) (k : A → Rho → R B) : R B :=
  match r with
  | .bad => .bad
  | .ok a p => k a p
  | .ex e p => .ex e p

inductive RF (K : PySem.W.Frag) (H : Hp) : List (Str × V) → List (Str × Pd) → Prop
  | nil : RF K H [] []
  | cons {k : Str} {v : V} {vs : List (Str × V)} {d : Pd} {ds : List (Str × Pd)} (h : RD K H v d) (hs : RF K H vs ds) : RF K H ((k, v) :: vs) ((k, d) :: ds)
theorem RF.mono {K : PySem.W.Frag} {H H' : Hp} (e : Ex H H') : ∀ {vs : List (Str × V)} {ds : List (Str × Pd)}, RF K H vs ds → RF K H' vs ds
  | _, _, .nil => .nil
  | _, _, .cons h hs => .cons (h.mono e) (RF.mono e hs)
/-- where the class of a name stands -/
def cA (K : PySem.W.Frag) (x : Str) : Addr := match PySem.W.nsIn K mainGlobals x with
  | some (some (.ref a)) => a
  | _ => 0
/-- an exception object that was caught: its class, its dict -/
def ExN (cls : Value) (d : Option Addr) (a : Addr) : HO := .ext fun h => ∃ (oe : Obj) (vs : Array Value), h.get? a = some oe ∧ Zc cls d oe ∧ oe.data = .fields vs
/-- at a stands the exception e -/
def XH (K : PySem.W.Frag) (Hf : Hp) (a : Addr) (e : XD) : Prop := match e.fs with
  | none => Hf a = some (ExN (.ref (cA K e.c)) none a)
  | some fs => ∃ dd vs, Hf a = some (ExN (.ref (cA K e.c)) (some dd) a) ∧ Hf dd = some (.xd vs) ∧ RF K Hf vs fs
theorem XH.mono {K : PySem.W.Frag} {Hf Hf' : Hp} {a : Addr} {e : XD} (h : XH K Hf a e) (x : Ex Hf Hf') : XH K Hf' a e := by
  unfold XH at h ⊢
  cases ef : e.fs with
  | none => rw [ef] at h; exact x _ _ h
  | some fs =>
    rw [ef] at h
    obtain ⟨dd, vs, h1, h2, h3⟩ := h
    exact ⟨dd, vs, x _ _ h1, x _ _ h2, h3.mono x⟩
/-- slots and heap hold what the data say; Hf: the part that nobody changes any more; O: the addresses of owned lists -/
structure SR (K : PySem.W.Frag) (Hf H : Hp) (O : Addr → Prop) (σ : St) (ρ : Rho) : Prop where
  ex : Ex Hf H
  otr : ∀ a, O a → (∃ o, H a = some o) ∧ Hf a = none
  len : σ.length = ρ.length
  slot : ∀ (i : Nat) x, ρ[i]? = some (.d x) → ∃ v, σ[i]? = some (some v) ∧ RD K Hf v x
  own : ∀ (i : Nat) b xs, ρ[i]? = some (.own b xs) → ∃ l vs, σ[i]? = some (some (.ref l)) ∧ O l ∧ H l = some (.lst vs) ∧ RDs K Hf vs xs
  dis : ∀ (i j : Nat) b c xs ys l, ρ[i]? = some (.own b xs) → ρ[j]? = some (.own c ys) → σ[i]? = some (some (.ref l)) → σ[j]? = some (some (.ref l)) → i = j
  exc : ∀ (i : Nat) e, ρ[i]? = some (.x e) → ∃ a, σ[i]? = some (some (.ref a)) ∧ XH K Hf a e

/-- how the heap may change: all but the owned lists stays -/
structure Gr (O : Addr → Prop) (Hf H Hf' H' : Hp) : Prop where
  ex : Ex Hf Hf'
  fm : ∀ a o, H a = some o → ¬ O a → H' a = some o
  tr : ∀ a o, H a = some o → ∃ o', H' a = some o'
  nw : ∀ a o, Hf' a = some o → Hf a = some o ∨ H a = none ∨ O a
theorem Gr.refl {O : Addr → Prop} {Hf H : Hp} : Gr O Hf H Hf H := ⟨Ex.refl _, fun _ _ h _ => h, fun _ o h => ⟨o, h⟩, fun _ _ h => .inl h⟩
def Orl (O : Addr → Prop) (H : Hp) (O' : Addr → Prop) : Prop := ∀ a, O' a → O a ∨ H a = none
theorem Orl.refl {O : Addr → Prop} {H : Hp} : Orl O H O := fun _ h => .inl h
theorem Gr.gone {O : Addr → Prop} {Hf H Hf' H' : Hp} (g : Gr O Hf H Hf' H') {a : Addr} (h : H' a = none) : H a = none := by
  cases e : H a with
  | none => rfl
  | some o => obtain ⟨o', q⟩ := g.tr a o e; rw [h] at q; cases q
theorem Gr.transO {O O1 : Addr → Prop} {Hf H Hf1 H1 Hf2 H2 : Hp} (a : Gr O Hf H Hf1 H1) (b : Gr O1 Hf1 H1 Hf2 H2) (o : Orl O H O1) : Gr O Hf H Hf2 H2 where
  ex := a.ex.trans b.ex
  fm := fun x u h n => b.fm x u (a.fm x u h n) fun z => by
    rcases o x z with z | z
    · exact n z
    · rw [z] at h; cases h
  tr := fun x u h => by obtain ⟨u1, h1⟩ := a.tr x u h; exact b.tr x u1 h1
  nw := fun x u h => by
    rcases b.nw x u h with z | z | z
    · exact a.nw x u z
    · exact .inr (.inl (a.gone z))
    · rcases o x z with z | z
      · exact .inr (.inr z)
      · exact .inr (.inl z)
theorem Gr.trans {O : Addr → Prop} {Hf H Hf1 H1 Hf2 H2 : Hp} (a : Gr O Hf H Hf1 H1) (b : Gr O Hf1 H1 Hf2 H2) : Gr O Hf H Hf2 H2 := a.transO b Orl.refl
theorem Orl.trans {O O1 O2 : Addr → Prop} {Hf H Hf1 H1 : Hp} (a : Orl O H O1) (b : Orl O1 H1 O2) (g : Gr O Hf H Hf1 H1) : Orl O H O2 := fun x h => by
  rcases b x h with z | z
  · exact a x z
  · exact .inr (g.gone z)
/-- new objects alone -/
structure Pg (Hf H Hf' H' : Hp) : Prop where
  ef : Ex Hf Hf'
  eh : Ex H H'
  ex : Ex Hf' H'
  nw : ∀ a o, Hf' a = some o → Hf a = some o ∨ H a = none
theorem Pg.refl {Hf H : Hp} (h : Ex Hf H) : Pg Hf H Hf H := ⟨Ex.refl _, Ex.refl _, h, fun _ _ q => .inl q⟩
theorem Pg.gr {O : Addr → Prop} {Hf H Hf' H' : Hp} (g : Pg Hf H Hf' H') : Gr O Hf H Hf' H' := ⟨g.ef, fun a o h _ => g.eh a o h, fun a o h => ⟨o, g.eh a o h⟩, fun a o h => (g.nw a o h).elim .inl fun z => .inr (.inl z)⟩
/-- a new object, frozen at once -/
theorem Pg.new {Hf H : Hp} {p : Addr} {o : HO} (e : Ex Hf H) (n : H p = none) : Pg Hf H (upd Hf p o) (upd H p o) := by
  refine ⟨Ex.new (fresh_back e n), Ex.new n, fun a u h => ?_, fun a u h => ?_⟩
  · by_cases z : a = p
    · subst z; rw [upd_same] at h ⊢; exact h
    · rw [upd_ne z] at h ⊢; exact e a u h
  · by_cases z : a = p
    · subst z; exact .inr n
    · rw [upd_ne z] at h; exact .inl h
/-- a new object, not frozen -/
theorem Pg.lay {Hf H : Hp} {p : Addr} {o : HO} (e : Ex Hf H) (n : H p = none) : Pg Hf H Hf (upd H p o) :=
  ⟨Ex.refl _, Ex.new n, e.trans (Ex.new n), fun _ _ h => .inl h⟩
theorem Pg.trans {Hf H Hf1 H1 Hf2 H2 : Hp} (a : Pg Hf H Hf1 H1) (b : Pg Hf1 H1 Hf2 H2) : Pg Hf H Hf2 H2 := by
  refine ⟨a.ef.trans b.ef, a.eh.trans b.eh, b.ex, fun x o h => ?_⟩
  rcases b.nw x o h with z | z
  · exact a.nw x o z
  · exact .inr (fresh_back a.eh z)
theorem SR.grow {K : PySem.W.Frag} {Hf H Hf' H' : Hp} {O : Addr → Prop} {σ : St} {ρ : Rho} (s : SR K Hf H O σ ρ) (g : Pg Hf H Hf' H') : SR K Hf' H' O σ ρ where
  ex := g.ex
  otr := fun a h => by
    obtain ⟨⟨o, h1⟩, h2⟩ := s.otr a h
    refine ⟨⟨o, g.eh a o h1⟩, ?_⟩
    cases e : Hf' a with
    | none => rfl
    | some u =>
      rcases g.nw a u e with z | z
      · rw [h2] at z; cases z
      · rw [h1] at z; cases z
  len := s.len
  slot := fun i x h => by obtain ⟨v, h1, h2⟩ := s.slot i x h; exact ⟨v, h1, h2.mono g.ef⟩
  own := fun i b xs h => by obtain ⟨l, vs, h1, h2, h3, h4⟩ := s.own i b xs h; exact ⟨l, vs, h1, h2, g.eh _ _ h3, h4.mono g.ef⟩
  dis := s.dis
  exc := fun i e h => by obtain ⟨a, h1, h2⟩ := s.exc i e h; exact ⟨a, h1, h2.mono g.ef⟩

/-- the written part, and where the classes of exceptions stand -/
structure Zx where
  K : PySem.W.Frag
  C : Str → Addr
def XR (Z : Zx) (Hf H : Hp) (cls : Value) (d : Option Addr) (e : XD) : Prop :=
  cls = .ref (cA Z.K e.c) ∧ match e.fs with
    | none => d = none
    | some fs => ∃ a vs, d = some a ∧ Hf a = some (.xd vs) ∧ RF Z.K Hf vs fs
/-- the slots that were handed in to be changed stay so -/
def Kp (ρ ρ' : Rho) : Prop := ∀ (i : Nat) xs, ρ[i]? = some (.own true xs) → ∃ ys, ρ'[i]? = some (.own true ys)
theorem Kp.refl {ρ : Rho} : Kp ρ ρ := fun _ xs h => ⟨xs, h⟩
theorem Kp.trans {a b c : Rho} (h : Kp a b) (g : Kp b c) : Kp a c := fun i xs e => by obtain ⟨ys, q⟩ := h i xs e; exact g i ys q

/-- what is wanted behind an expression -/
def PostG {A : Type} (Z : Zx) (W : WX) (O : Addr → Prop) (σ : St) (ρ : Rho) (Hf H : Hp) (S : A → Rho → Hp → Hp → Prop) : R A → Prop
  | .bad => False
  | .ok a ρ' => ∀ Hf' H', SR Z.K Hf' H' O σ ρ' → Gr O Hf H Hf' H' → Kp ρ ρ' → S a ρ' Hf' H'
  | .ex e ρ' => ∀ cls d Hf' H', SR Z.K Hf' H' O σ ρ' → Gr O Hf H Hf' H' → Kp ρ ρ' → XR Z Hf' H' cls d e → W cls d σ H'
theorem PostG.shift {A : Type} {Z : Zx} {W : WX} {O : Addr → Prop} {σ : St} {ρ ρ1 : Rho} {Hf H Hf1 H1 : Hp} {S : A → Rho → Hp → Hp → Prop} {r : R A} (h : PostG Z W O σ ρ Hf H S r) (g : Gr O Hf H Hf1 H1) (k : Kp ρ ρ1) : PostG Z W O σ ρ1 Hf1 H1 S r := by
  cases r with
  | bad => exact h
  | ok a ρ' => exact fun Hf' H' s g' k' => h Hf' H' s (g.trans g') (k.trans k')
  | ex e ρ' => exact fun cls d Hf' H' s g' k' x => h cls d Hf' H' s (g.trans g') (k.trans k') x

/-- the judgement: the reading t does what f says; Rel ties what comes with what is told (H0: the heap ahead) -/
def DJ {C A : Type} (Z : Zx) (W : WX) (Rel : Hp → Hp → Hp → St → C → A → Prop) (t : St → Hp → (C → Hp → Prop) → Prop) (f : Rho → R A) : Prop :=
  ∀ Hf H O σ ρ, SR Z.K Hf H O σ ρ → ∀ Q : C → Hp → Prop, PostG Z W O σ ρ Hf H (fun a _ Hf' H' => ∀ v, Rel H Hf' H' σ v a → Q v H') (f ρ) → t σ H Q
theorem DJ.bind {C A B : Type} {Z : Zx} {W : WX} {Rel : Hp → Hp → Hp → St → C → A → Prop} {t : St → Hp → (C → Hp → Prop) → Prop} {f : Rho → R A} (h : DJ Z W Rel t f) {Hf H : Hp} {O : Addr → Prop} {σ : St} {ρ : Rho} (s : SR Z.K Hf H O σ ρ)
    {S : B → Rho → Hp → Hp → Prop} {k : A → Rho → R B} (p : PostG Z W O σ ρ Hf H S ((f ρ).bind k)) {Q : C → Hp → Prop}
    (c : ∀ a ρ1 v Hf1 H1, SR Z.K Hf1 H1 O σ ρ1 → Gr O Hf H Hf1 H1 → Kp ρ ρ1 → Rel H Hf1 H1 σ v a → PostG Z W O σ ρ1 Hf1 H1 S (k a ρ1) → Q v H1) : t σ H Q := by
  refine h Hf H O σ ρ s Q ?_
  cases e : f ρ with
  | bad => rw [e] at p; exact p
  | ok a ρ1 =>
    rw [e] at p
    exact fun Hf1 H1 s1 g1 k1 v rv => c a ρ1 v Hf1 H1 s1 g1 k1 rv (PostG.shift p g1 k1)
  | ex x ρ1 => rw [e] at p; exact p

def RA (K : PySem.W.Frag) (Hf : Hp) (σ : St) (v : V) : AV → Prop
  | .d x => RD K Hf v x
  | .sl i => σ[i]? = some (some v)
theorem RA.mono {K : PySem.W.Frag} {Hf Hf' : Hp} {σ : St} {v : V} {a : AV} (h : RA K Hf σ v a) (e : Ex Hf Hf') : RA K Hf' σ v a := by
  cases a with
  | d x => exact RD.mono e h
  | sl i => exact h
inductive RAs (K : PySem.W.Frag) (Hf : Hp) (σ : St) : List V → List AV → Prop
  | nil : RAs K Hf σ [] []
  | cons {v : V} {vs : List V} {a : AV} {as : List AV} (h : RA K Hf σ v a) (hs : RAs K Hf σ vs as) : RAs K Hf σ (v :: vs) (a :: as)
def DE (Z : Zx) (W : WX) (t : TE) (f : Rho → R AV) : Prop := DJ Z W (fun _ Hf _ σ v a => RA Z.K Hf σ v a) t f
def DT (Z : Zx) (W : WX) (t : TT) (f : Rho → R Bool) : Prop := DJ Z W (fun _ _ _ _ v a => v = a) t f
def DA (Z : Zx) (W : WX) (t : TA) (f : Rho → R (List AV)) : Prop := DJ Z W (fun _ Hf _ σ v a => RAs Z.K Hf σ v a) t f
/-- a new list -/
def RL (K : PySem.W.Frag) (H0 Hf H : Hp) (v : V) (xs : List Pd) : Prop := ∃ l vs, v = .ref l ∧ H0 l = none ∧ H l = some (.lst vs) ∧ Hf l = none ∧ RDs K Hf vs xs
def DL (Z : Zx) (W : WX) (t : TE) (f : Rho → R (List Pd)) : Prop := DJ Z W (fun H0 Hf H _ v a => RL Z.K H0 Hf H v a) t f

/-- what an alias stands for now -/
def res (ρ : Rho) : AV → Option Pd
  | .d x => some x
  | .sl i => match ρ[i]? with
    | some (.own _ xs) => some (.list xs)
    | some (.d x) => some x
    | _ => none
/-- v stands for x, or is an owned list of it -/
def RX (K : PySem.W.Frag) (Hf H : Hp) (v : V) (x : Pd) : Prop := RD K Hf v x ∨ ∃ l vs xs, v = .ref l ∧ x = .list xs ∧ H l = some (.lst vs) ∧ RDs K Hf vs xs
theorem res_ok {K : PySem.W.Frag} {Hf H : Hp} {O : Addr → Prop} {σ : St} {ρ : Rho} {v : V} {a : AV} {x : Pd} (s : SR K Hf H O σ ρ) (h : RA K Hf σ v a) (e : res ρ a = some x) : RX K Hf H v x := by
  cases a with
  | d y => cases e; exact .inl h
  | sl i =>
    simp only [res] at e
    cases q : ρ[i]? with
    | none => rw [q] at e; cases e
    | some z =>
      rw [q] at e
      cases z with
      | no => cases e
      | x _ => cases e
      | d y =>
        cases e
        obtain ⟨u, h1, h2⟩ := s.slot i _ q
        rw [show σ[i]? = some (some v) from h] at h1
        cases h1
        exact .inl h2
      | own b xs =>
        cases e
        obtain ⟨l, vs, h1, h2, h3, h4⟩ := s.own i b xs q
        rw [show σ[i]? = some (some v) from h] at h1
        cases h1
        exact .inr ⟨l, vs, xs, rfl, rfl, h3, h4⟩
theorem RX.list {K : PySem.W.Frag} {Hf H : Hp} {v : V} {xs : List Pd} (e : Ex Hf H) (h : RX K Hf H v (.list xs)) : ∃ l vs, v = .ref l ∧ SqL K H l vs ∧ RDs K Hf vs xs := by
  rcases h with h | ⟨l, vs, ys, rfl, q, h1, h2⟩
  · cases h with
    | lst h hs => exact ⟨_, _, rfl, ex_l e h, hs⟩
  · cases q
    exact ⟨l, vs, rfl, sq_of h1, h2⟩
theorem RX.tuple {K : PySem.W.Frag} {Hf H : Hp} {v : V} {xs : List Pd} (e : Ex Hf H) (h : RX K Hf H v (.tuple xs)) : ∃ l vs, v = .ref l ∧ SqT K Hf l vs ∧ SqT K H l vs ∧ RDs K Hf vs xs := by
  rcases h with h | ⟨l, vs, ys, rfl, q, h1, h2⟩
  · cases h with
    | tup h hs => exact ⟨_, _, rfl, h, ex_t e h, hs⟩
  · cases q
theorem RX.int {K : PySem.W.Frag} {Hf H : Hp} {v : V} {i : Int} (h : RX K Hf H v (.int i)) : v = .int i := by
  rcases h with h | ⟨_, _, _, _, q, _⟩
  · cases h; rfl
  · cases q
theorem RX.str {K : PySem.W.Frag} {Hf H : Hp} {v : V} {i : Str} (h : RX K Hf H v (.str i)) : v = .str i := by
  rcases h with h | ⟨_, _, _, _, q, _⟩
  · cases h; rfl
  · cases q
theorem RX.bool {K : PySem.W.Frag} {Hf H : Hp} {v : V} {i : Bool} (h : RX K Hf H v (.bool i)) : v = .bl i := by
  rcases h with h | ⟨_, _, _, _, q, _⟩
  · cases h; rfl
  · cases q
theorem RX.non {K : PySem.W.Frag} {Hf H : Hp} {v : V} (h : RX K Hf H v .none) : v = .non := by
  rcases h with h | ⟨_, _, _, _, q, _⟩
  · cases h; rfl
  · cases q
theorem RX.full {K : PySem.W.Frag} {Hf H : Hp} {v : V} {x : Pd} (e : Ex Hf H) (h : RX K Hf H v x) : RD K H v x := by
  rcases h with h | ⟨l, vs, xs, rfl, rfl, h1, h2⟩
  · exact h.mono e
  · exact .lst (sq_of h1) (h2.mono e)
end Dt
namespace Dt
open PySem PySem.Spec L2 Evl
section
variable {Z : Zx} {W : WX}
/-! ### names, constants -/
def fVar (i : Nat) : Rho → R AV := fun ρ => match ρ[i]? with
  | some (.d x) => .ok (.d x) ρ
  | _ => .bad
theorem d_var (i : Nat) : DE Z W (tVar i) (fVar i) := by
  intro Hf H O σ ρ s Q p
  unfold fVar at p
  cases e : ρ[i]? with
  | none => rw [e] at p; exact p.elim
  | some z =>
    rw [e] at p
    cases z with
    | no => exact p.elim
    | x _ => exact p.elim
    | own b xs => exact p.elim
    | d x =>
      obtain ⟨v, h1, h2⟩ := s.slot i x e
      exact ⟨v, h1, p Hf H s Gr.refl Kp.refl v h2⟩
def fOwn (i : Nat) : Rho → R AV := fun ρ => match ρ[i]? with
  | some (.own _ _) => .ok (.sl i) ρ
  | _ => .bad
theorem d_own (i : Nat) : DE Z W (tVar i) (fOwn i) := by
  intro Hf H O σ ρ s Q p
  unfold fOwn at p
  cases e : ρ[i]? with
  | none => rw [e] at p; exact p.elim
  | some z =>
    rw [e] at p
    cases z with
    | no => exact p.elim
    | x _ => exact p.elim
    | d x => exact p.elim
    | own b xs =>
      obtain ⟨l, vs, h1, h2, h3, h4⟩ := s.own i b xs e
      exact ⟨.ref l, h1, p Hf H s Gr.refl Kp.refl (.ref l) h1⟩
def fC (x : Pd) : Rho → R AV := fun ρ => .ok (.d x) ρ
theorem d_c {v : V} {x : Pd} (h : ∀ H, RD Z.K H v x) : DE Z W (tC v) (fC x) := fun Hf H O σ ρ s Q p => p Hf H s Gr.refl Kp.refl v (h Hf)
theorem d_int (i : Int) : DE Z W (tC (.int i)) (fC (.int i)) := d_c fun _ => .int i
theorem d_str (i : Str) : DE Z W (tC (.str i)) (fC (.str i)) := d_c fun _ => .str i
theorem d_bl (i : Bool) : DE Z W (tC (.bl i)) (fC (.bool i)) := d_c fun _ => .bl i
theorem d_non : DE Z W (tC .non) (fC .none) := d_c fun _ => .non

/-! ### an operator -/
/-- a pure operation by values and by data -/
def ROp (K : PySem.W.Frag) (r : R2) (h : Pd → Pd → Option Pd) : Prop := ∀ Hf H x y dx dy z, Ex Hf H → RX K Hf H x dx → RX K Hf H y dy → h dx dy = some z →
  ∀ Q : VK, (∀ v Hf' H', Pg Hf H Hf' H' → RD K Hf' v z → Q v H') → r x y H Q
def op2 (h : Pd → Pd → Option Pd) (a b : AV) : Rho → R AV := fun ρ =>
  match res ρ a, res ρ b with
  | some x, some y => match h x y with
    | some z => .ok (.d z) ρ
    | none => .bad
  | _, _ => .bad
def f2 (h : Pd → Pd → Option Pd) (fa fb : Rho → R AV) : Rho → R AV := fun ρ => (fa ρ).bind fun a ρ1 => (fb ρ1).bind fun b ρ2 => op2 h a b ρ2
theorem op2_use {h : Pd → Pd → Option Pd} {r : R2} (hr : ROp Z.K r h) {Hf H Hf0 H0 : Hp} {O : Addr → Prop} {σ : L2.St} {ρ ρ0 : Rho} {a b : AV} {x y : V} (s : SR Z.K Hf H O σ ρ) (hx : RA Z.K Hf σ x a) (hy : RA Z.K Hf σ y b) {Q : VK}
    (p : PostG Z W O σ ρ Hf H (fun a _ Hf' H' => ∀ v, RA Z.K Hf' σ v a → Q v H') (op2 h a b ρ)) : r x y H Q := by
  unfold op2 at p
  cases ea : res ρ a with
  | none => rw [ea] at p; exact p.elim
  | some dx =>
    cases eb : res ρ b with
    | none => rw [ea, eb] at p; exact p.elim
    | some dy =>
      rw [ea, eb] at p
      simp only at p
      cases ez : h dx dy with
      | none => rw [ez] at p; exact p.elim
      | some z =>
        rw [ez] at p
        exact hr Hf H x y dx dy z s.ex (res_ok s hx ea) (res_ok s hy eb) ez Q fun v Hf' H' g rv => p Hf' H' (s.grow g) g.gr Kp.refl v rv
theorem d_op {ta tb : TE} {fa fb : Rho → R AV} {h : Pd → Pd → Option Pd} {r : R2} (hr : ROp Z.K r h) (ha : DE Z W ta fa) (hb : DE Z W tb fb) : DE Z W (tOp r ta tb) (f2 h fa fb) := by
  intro Hf H O σ ρ s Q p
  refine ha.bind s p fun a ρ1 x Hf1 H1 s1 g1 k1 rx p1 => ?_
  refine hb.bind s1 p1 fun b ρ2 y Hf2 H2 s2 g2 k2 ry p2 => ?_
  exact op2_use (Hf0 := Hf) (H0 := H) (ρ0 := ρ) hr s2 (RA.mono rx g2.ex) ry p2
def op1 (h : Pd → Option Pd) (a : AV) : Rho → R AV := fun ρ =>
  match res ρ a with
  | some x => match h x with
    | some z => .ok (.d z) ρ
    | none => .bad
  | _ => .bad
def f1 (h : Pd → Option Pd) (fa : Rho → R AV) : Rho → R AV := fun ρ => (fa ρ).bind fun a ρ1 => op1 h a ρ1
def RUn (K : PySem.W.Frag) (r : V → Hp → VK → Prop) (h : Pd → Option Pd) : Prop := ∀ Hf H x dx z, Ex Hf H → RX K Hf H x dx → h dx = some z →
  ∀ Q : VK, (∀ v Hf' H', Pg Hf H Hf' H' → RD K Hf' v z → Q v H') → r x H Q
theorem op1_use {h : Pd → Option Pd} {r : V → Hp → VK → Prop} (hr : RUn Z.K r h) {Hf H : Hp} {O : Addr → Prop} {σ : L2.St} {ρ : Rho} {a : AV} {x : V} (s : SR Z.K Hf H O σ ρ) (hx : RA Z.K Hf σ x a) {Q : VK}
    (p : PostG Z W O σ ρ Hf H (fun a _ Hf' H' => ∀ v, RA Z.K Hf' σ v a → Q v H') (op1 h a ρ)) : r x H Q := by
  unfold op1 at p
  cases ea : res ρ a with
  | none => rw [ea] at p; exact p.elim
  | some dx =>
    rw [ea] at p
    simp only at p
    cases ez : h dx with
    | none => rw [ez] at p; exact p.elim
    | some z =>
      rw [ez] at p
      exact hr Hf H x dx z s.ex (res_ok s hx ea) ez Q fun v Hf' H' g rv => p Hf' H' (s.grow g) g.gr Kp.refl v rv
theorem d_un {ta : TE} {fa : Rho → R AV} {h : Pd → Option Pd} {r : V → Hp → VK → Prop} (hr : RUn Z.K r h) (ha : DE Z W ta fa) : DE Z W (tUn r ta) (f1 h fa) := by
  intro Hf H O σ ρ s Q p
  refine ha.bind s p fun a ρ1 x Hf1 H1 s1 g1 k1 rx p1 => ?_
  exact op1_use hr s1 rx p1
/-! ### arguments -/
def fNil : Rho → R (List AV) := fun ρ => .ok [] ρ
def fCons (fa : Rho → R AV) (fr : Rho → R (List AV)) : Rho → R (List AV) := fun ρ => (fa ρ).bind fun a ρ1 => (fr ρ1).bind fun as ρ2 => .ok (a :: as) ρ2
theorem d_nil : DA Z W tNil fNil := fun Hf H O σ ρ s Q p => p Hf H s Gr.refl Kp.refl [] .nil
theorem d_cons {ta : TE} {tr : TA} {fa : Rho → R AV} {fr : Rho → R (List AV)} (ha : DE Z W ta fa) (hr : DA Z W tr fr) : DA Z W (tCons ta tr) (fCons fa fr) := by
  intro Hf H O σ ρ s Q p
  refine ha.bind s p fun a ρ1 x Hf1 H1 s1 g1 k1 rx p1 => ?_
  refine hr.bind s1 p1 fun as ρ2 xs Hf2 H2 s2 g2 k2 rxs p2 => ?_
  exact p2 Hf2 H2 s2 Gr.refl Kp.refl _ (.cons (RA.mono rx g2.ex) rxs)
/-! ### data out of arguments -/
def ress (ρ : Rho) : List AV → Option (List Pd)
  | [] => some []
  | a :: as => match res ρ a, ress ρ as with
    | some x, some xs => some (x :: xs)
    | _, _ => none
/-- the arguments must be data (an owned list can't be kept in a display) -/
def datas : List AV → Option (List Pd)
  | [] => some []
  | .d x :: as => match datas as with
    | some xs => some (x :: xs)
    | none => none
  | .sl _ :: _ => none
theorem datas_ok {K : PySem.W.Frag} {Hf : Hp} {σ : L2.St} : ∀ {vs : List V} {as : List AV} {xs : List Pd}, RAs K Hf σ vs as → datas as = some xs → RDs K Hf vs xs
  | _, _, _, .nil, e => by cases e; exact .nil
  | _, _, _, .cons (a := .d x) (as := as) h hs, e => by
    simp only [datas] at e
    cases q : datas as with
    | none => rw [q] at e; cases e
    | some ys => rw [q] at e; cases e; exact .cons h (datas_ok hs q)
  | _, _, _, .cons (a := .sl i) h hs, e => by cases e
inductive RXs (K : PySem.W.Frag) (Hf H : Hp) : List V → List Pd → Prop
  | nil : RXs K Hf H [] []
  | cons {v : V} {vs : List V} {d : Pd} {ds : List Pd} (h : RX K Hf H v d) (hs : RXs K Hf H vs ds) : RXs K Hf H (v :: vs) (d :: ds)
theorem ress_ok {K : PySem.W.Frag} {Hf H : Hp} {O : Addr → Prop} {σ : L2.St} {ρ : Rho} (s : SR K Hf H O σ ρ) : ∀ {vs : List V} {as : List AV} {xs : List Pd}, RAs K Hf σ vs as → ress ρ as = some xs → RXs K Hf H vs xs
  | _, _, _, .nil, e => by cases e; exact .nil
  | _, _, _, .cons (a := a) (as := as) h hs, e => by
    simp only [ress] at e
    cases q : res ρ a with
    | none => rw [q] at e; cases e
    | some y =>
      cases q2 : ress ρ as with
      | none => rw [q, q2] at e; cases e
      | some ys => rw [q, q2] at e; cases e; exact .cons (res_ok s h q) (ress_ok s hs q2)
/-! ### displays -/
def fTup (fa : Rho → R (List AV)) : Rho → R AV := fun ρ => (fa ρ).bind fun as ρ1 => match datas as with
  | some xs => if xs.length ≤ sizeLine then .ok (.d (.tuple xs)) ρ1 else .bad
  | none => .bad
theorem d_tup {t : TA} {fa : Rho → R (List AV)} (ha : DA Z W t fa) : DE Z W (tTup t) (fTup fa) := by
  intro Hf H O σ ρ s Q p
  refine ha.bind s p fun as ρ1 vs Hf1 H1 s1 g1 k1 rs p1 => ?_
  cases e : datas as with
  | none => rw [e] at p1; exact p1.elim
  | some xs =>
    rw [e] at p1
    simp only at p1
    by_cases hz : xs.length ≤ sizeLine
    · rw [if_pos hz] at p1
      have r := datas_ok rs e
      refine ⟨by rw [r.length]; exact hz, fun q nq => ?_⟩
      have g := Pg.new (o := .tup vs) s1.ex nq
      exact p1 _ _ (s1.grow g) g.gr Kp.refl _ (.tup (st_of upd_same) (r.mono g.ef))
    · rw [if_neg hz] at p1; exact p1.elim
def fLst (fa : Rho → R (List AV)) : Rho → R (List Pd) := fun ρ => (fa ρ).bind fun as ρ1 => match datas as with
  | some xs => if xs.length ≤ sizeLine then .ok xs ρ1 else .bad
  | none => .bad
theorem l_lst {t : TA} {fa : Rho → R (List AV)} (ha : DA Z W t fa) : DL Z W (tLst t) (fLst fa) := by
  intro Hf H O σ ρ s Q p
  refine ha.bind s p fun as ρ1 vs Hf1 H1 s1 g1 k1 rs p1 => ?_
  cases e : datas as with
  | none => rw [e] at p1; exact p1.elim
  | some xs =>
    rw [e] at p1
    simp only at p1
    by_cases hz : xs.length ≤ sizeLine
    · rw [if_pos hz] at p1
      have r := datas_ok rs e
      refine ⟨by rw [r.length]; exact hz, fun q nq => ?_⟩
      have g := Pg.lay (o := .lst vs) s1.ex nq
      exact p1 _ _ (s1.grow g) g.gr Kp.refl _ ⟨q, vs, rfl, g1.gone nq, upd_same, fresh_back s1.ex nq, r⟩
    · rw [if_neg hz] at p1; exact p1.elim
/-- a new list, frozen at once -/
def fL (f : Rho → R (List Pd)) : Rho → R AV := fun ρ => (f ρ).bind fun xs ρ1 => .ok (.d (.list xs)) ρ1
theorem SR.freeze {K : PySem.W.Frag} {Hf H : Hp} {O : Addr → Prop} {σ : L2.St} {ρ : Rho} (s : SR K Hf H O σ ρ) {l : Addr} {o : HO} (hl : H l = some o) (hf : Hf l = none) (no : ¬ O l) : SR K (upd Hf l o) H O σ ρ where
  ex := fun a u h => by
    by_cases z : a = l
    · subst z; rw [upd_same] at h; cases h; exact hl
    · rw [upd_ne z] at h; exact s.ex a u h
  otr := fun a h => ⟨(s.otr a h).1, by
    have z : a ≠ l := fun z => no (by rw [← z]; exact h)
    rw [upd_ne z]; exact (s.otr a h).2⟩
  len := s.len
  slot := fun i x h => by obtain ⟨v, h1, h2⟩ := s.slot i x h; exact ⟨v, h1, h2.mono (Ex.new hf)⟩
  own := fun i b xs h => by obtain ⟨k, vs, h1, h2, h3, h4⟩ := s.own i b xs h; exact ⟨k, vs, h1, h2, h3, h4.mono (Ex.new hf)⟩
  dis := s.dis
  exc := fun i e h => by obtain ⟨a, h1, h2⟩ := s.exc i e h; exact ⟨a, h1, h2.mono (Ex.new hf)⟩
theorem d_ofL {t : TE} {f : Rho → R (List Pd)} (h : DL Z W t f) : DE Z W t (fL f) := by
  intro Hf H O σ ρ s Q p
  refine h Hf H O σ ρ s Q ?_
  unfold fL at p
  cases e : f ρ with
  | bad => rw [e] at p; exact p
  | ex x ρ1 => rw [e] at p; exact p
  | ok xs ρ1 =>
    rw [e] at p
    intro Hf1 H1 s1 g1 k1 v rl
    obtain ⟨l, vs, rfl, h0, h1, hf, r⟩ := rl
    have no : ¬ O l := fun z => by
      obtain ⟨⟨o, q⟩, _⟩ := s.otr l z
      rw [h0] at q; cases q
    refine p (upd Hf1 l (.lst vs)) H1 (s1.freeze h1 hf no) ⟨g1.ex.trans (Ex.new hf), g1.fm, g1.tr, fun a o q => ?_⟩ k1 _ (.lst (sq_of upd_same) (r.mono (Ex.new hf)))
    by_cases z : a = l
    · subst z; exact .inr (.inl h0)
    · rw [upd_ne z] at q; exact g1.nw a o q
end
end Dt
namespace Dt
open PySem PySem.Spec L2 Evl
section
variable {Z : Zx} {W : WX}
/-! ### tests -/
def rB (a : AV) (ρ : Rho) : R Bool := match res ρ a with
  | some (.bool b) => .ok b ρ
  | _ => .bad
def fTest (f : Rho → R AV) : Rho → R Bool := fun ρ => (f ρ).bind rB
theorem rB_ok {a : AV} {ρ : Rho} {Hf H : Hp} {O : Addr → Prop} {σ : L2.St} {B : Type} {x : V} (s : SR Z.K Hf H O σ ρ) (hx : RA Z.K Hf σ x a) {S : B → Rho → Hp → Hp → Prop} {k : Bool → Rho → R B}
    (p : PostG Z W O σ ρ Hf H S ((rB a ρ).bind k)) : ∃ b, x = .bl b ∧ rB a ρ = .ok b ρ ∧ PostG Z W O σ ρ Hf H S (k b ρ) := by
  unfold rB at p ⊢
  cases e : res ρ a with
  | none => rw [e] at p; exact p.elim
  | some y =>
    rw [e] at p
    cases y with
    | bool b => exact ⟨b, (res_ok s hx e).bool, rfl, p⟩
    | _ => exact p.elim
theorem R.bind_ok {A : Type} (r : R A) : r.bind (fun a ρ => .ok a ρ) = r := by cases r <;> rfl
theorem dt_test {t : TE} {f : Rho → R AV} (h : DE Z W t f) : DT Z W (tTest t) (fTest f) := by
  intro Hf H O σ ρ s Q p
  refine h.bind s p fun a ρ1 x Hf1 H1 s1 g1 k1 rx p1 => ?_
  rw [← R.bind_ok (rB a ρ1)] at p1
  obtain ⟨b, rfl, _, p2⟩ := rB_ok s1 rx p1
  exact ⟨b, rfl, p2 Hf1 H1 s1 Gr.refl Kp.refl b rfl⟩
theorem dt_tB {t : TE} {f : Rho → R AV} (h : DE Z W t f) : DT Z W (tB t) (fTest f) := dt_test h
def fAnd (f g : Rho → R Bool) : Rho → R Bool := fun ρ => (f ρ).bind fun b ρ1 => if b = true then g ρ1 else .ok false ρ1
def fOr (f g : Rho → R Bool) : Rho → R Bool := fun ρ => (f ρ).bind fun b ρ1 => if b = true then .ok true ρ1 else g ρ1
def fNot (f : Rho → R Bool) : Rho → R Bool := fun ρ => (f ρ).bind fun b ρ1 => .ok (!b) ρ1
theorem dt_and {t u : TT} {f g : Rho → R Bool} (h : DT Z W t f) (k : DT Z W u g) : DT Z W (tAnd t u) (fAnd f g) := by
  intro Hf H O σ ρ s Q p
  refine h.bind s p fun a ρ1 x Hf1 H1 s1 g1 k1 rx p1 => ?_
  subst rx
  show if x = true then u σ H1 Q else Q false H1
  cases x with
  | true => exact k Hf1 H1 O σ ρ1 s1 Q p1
  | false => exact p1 Hf1 H1 s1 Gr.refl Kp.refl false rfl
theorem dt_or {t u : TT} {f g : Rho → R Bool} (h : DT Z W t f) (k : DT Z W u g) : DT Z W (tOr t u) (fOr f g) := by
  intro Hf H O σ ρ s Q p
  refine h.bind s p fun a ρ1 x Hf1 H1 s1 g1 k1 rx p1 => ?_
  subst rx
  show if x = true then Q true H1 else u σ H1 Q
  cases x with
  | false => exact k Hf1 H1 O σ ρ1 s1 Q p1
  | true => exact p1 Hf1 H1 s1 Gr.refl Kp.refl true rfl
theorem dt_not {t : TT} {f : Rho → R Bool} (h : DT Z W t f) : DT Z W (tNot t) (fNot f) := by
  intro Hf H O σ ρ s Q p
  refine h.bind s p fun a ρ1 x Hf1 H1 s1 g1 k1 rx p1 => ?_
  subst rx
  exact p1 Hf1 H1 s1 Gr.refl Kp.refl _ rfl
theorem dt_yes : DT Z W tYes (fun ρ => .ok true ρ) := fun Hf H O σ ρ s Q p => p Hf H s Gr.refl Kp.refl true rfl
/-! ### and, or, not as values -/
def fAndV (f g : Rho → R AV) : Rho → R AV := fun ρ => (f ρ).bind fun a ρ1 => (rB a ρ1).bind fun b ρ2 => if b = true then g ρ2 else .ok (.d (.bool false)) ρ2
def fOrV (f g : Rho → R AV) : Rho → R AV := fun ρ => (f ρ).bind fun a ρ1 => (rB a ρ1).bind fun b ρ2 => if b = true then .ok (.d (.bool true)) ρ2 else g ρ2
def fNotV (f : Rho → R AV) : Rho → R AV := fun ρ => (f ρ).bind fun a ρ1 => (rB a ρ1).bind fun b ρ2 => .ok (.d (.bool (!b))) ρ2
theorem d_and {ta tb : TE} {f g : Rho → R AV} (h : DE Z W ta f) (k : DE Z W tb g) : DE Z W (tAndV ta tb) (fAndV f g) := by
  intro Hf H O σ ρ s Q p
  refine h.bind s p fun a ρ1 x Hf1 H1 s1 g1 k1 rx p1 => ?_
  obtain ⟨b, rfl, _, p2⟩ := rB_ok s1 rx p1
  refine ⟨b, rfl, ?_⟩
  cases b with
  | true => exact k Hf1 H1 O σ ρ1 s1 Q p2
  | false => exact p2 Hf1 H1 s1 Gr.refl Kp.refl _ (.bl false)
theorem d_or {ta tb : TE} {f g : Rho → R AV} (h : DE Z W ta f) (k : DE Z W tb g) : DE Z W (tOrV ta tb) (fOrV f g) := by
  intro Hf H O σ ρ s Q p
  refine h.bind s p fun a ρ1 x Hf1 H1 s1 g1 k1 rx p1 => ?_
  obtain ⟨b, rfl, _, p2⟩ := rB_ok s1 rx p1
  refine ⟨b, rfl, ?_⟩
  cases b with
  | false => exact k Hf1 H1 O σ ρ1 s1 Q p2
  | true => exact p2 Hf1 H1 s1 Gr.refl Kp.refl _ (.bl true)
theorem d_not {ta : TE} {f : Rho → R AV} (h : DE Z W ta f) : DE Z W (tNotV ta) (fNotV f) := by
  intro Hf H O σ ρ s Q p
  refine h.bind s p fun a ρ1 x Hf1 H1 s1 g1 k1 rx p1 => ?_
  obtain ⟨b, rfl, _, p2⟩ := rB_ok s1 rx p1
  exact ⟨b, rfl, p2 Hf1 H1 s1 Gr.refl Kp.refl _ (.bl (!b))⟩
def fIf (c : Rho → R Bool) (f g : Rho → R AV) : Rho → R AV := fun ρ => (c ρ).bind fun b ρ1 => if b = true then f ρ1 else g ρ1
theorem d_if {t : TT} {ta tb : TE} {c : Rho → R Bool} {f g : Rho → R AV} (hc : DT Z W t c) (h : DE Z W ta f) (k : DE Z W tb g) : DE Z W (tIf t ta tb) (fIf c f g) := by
  intro Hf H O σ ρ s Q p
  refine hc.bind s p fun a ρ1 x Hf1 H1 s1 g1 k1 rx p1 => ?_
  subst rx
  cases x with
  | true => exact h Hf1 H1 O σ ρ1 s1 Q p1
  | false => exact k Hf1 H1 O σ ρ1 s1 Q p1
/-! ### a chain of two comparisons -/
def fChain (h h' : Pd → Pd → Option Pd) (fa fb fc : Rho → R AV) : Rho → R AV := fun ρ => (fa ρ).bind fun a ρ1 => (fb ρ1).bind fun b ρ2 => (op2 h a b ρ2).bind fun z ρ3 => (rB z ρ3).bind fun k ρ4 =>
  if k = true then (fc ρ4).bind fun c ρ5 => op2 h' b c ρ5 else .ok (.d (.bool false)) ρ4
theorem d_chain {ta tb tc : TE} {fa fb fc : Rho → R AV} {h h' : Pd → Pd → Option Pd} {r r' : R2} (hr : ROp Z.K r h) (hr' : ROp Z.K r' h') (ha : DE Z W ta fa) (hb : DE Z W tb fb) (hc : DE Z W tc fc) : DE Z W (tChain r r' ta tb tc) (fChain h h' fa fb fc) := by
  intro Hf H O σ ρ s Q p
  refine ha.bind s p fun a ρ1 x Hf1 H1 s1 g1 k1 rx p1 => ?_
  refine hb.bind s1 p1 fun b ρ2 y Hf2 H2 s2 g2 k2 ry p2 => ?_
  unfold op2 at p2
  cases ea : res ρ2 a with
  | none => rw [ea] at p2; exact p2.elim
  | some dx =>
    cases eb : res ρ2 b with
    | none => rw [ea, eb] at p2; exact p2.elim
    | some dy =>
      rw [ea, eb] at p2
      simp only at p2
      cases ez : h dx dy with
      | none => rw [ez] at p2; exact p2.elim
      | some z =>
        rw [ez] at p2
        refine hr Hf2 H2 x y dx dy z s2.ex (res_ok s2 (RA.mono rx g2.ex) ea) (res_ok s2 ry eb) ez _ fun v Hf3 H3 g3 rv => ?_
        have s3 := s2.grow g3
        obtain ⟨k, rfl, _, p3⟩ := rB_ok (a := .d z) s3 rv (PostG.shift p2 g3.gr Kp.refl)
        refine ⟨k, rfl, ?_⟩
        cases k with
        | false => exact p3 Hf3 H3 s3 Gr.refl Kp.refl _ (.bl false)
        | true =>
          refine hc.bind s3 p3 fun c ρ5 w Hf5 H5 s5 g5 k5 rw5 p5 => ?_
          exact op2_use (Hf0 := Hf) (H0 := H) (ρ0 := ρ) hr' s5 (RA.mono ry (g3.ef.trans g5.ex)) rw5 p5
/-! ### built-in functions -/
def RCall (K : PySem.W.Frag) (r : List V → Hp → VK → Prop) (h : List Pd → Option Pd) : Prop := ∀ Hf H vs xs z, Ex Hf H → RXs K Hf H vs xs → h xs = some z →
  ∀ Q : VK, (∀ v Hf' H', Pg Hf H Hf' H' → RD K Hf' v z → Q v H') → r vs H Q
def RCallL (K : PySem.W.Frag) (r : List V → Hp → VK → Prop) (h : List Pd → Option (List Pd)) : Prop := ∀ Hf H vs xs z, Ex Hf H → RXs K Hf H vs xs → h xs = some z →
  ∀ Q : VK, (∀ l ws H', Ex Hf H' → Ex H H' → H l = none → H' l = some (.lst ws) → RDs K Hf ws z → Q (.ref l) H') → r vs H Q
def fCB (h : List Pd → Option Pd) (fa : Rho → R (List AV)) : Rho → R AV := fun ρ => (fa ρ).bind fun as ρ1 => match ress ρ1 as with
  | some xs => match h xs with
    | some z => .ok (.d z) ρ1
    | none => .bad
  | none => .bad
def fCBL (h : List Pd → Option (List Pd)) (fa : Rho → R (List AV)) : Rho → R (List Pd) := fun ρ => (fa ρ).bind fun as ρ1 => match ress ρ1 as with
  | some xs => match h xs with
    | some z => .ok z ρ1
    | none => .bad
  | none => .bad
theorem d_cb {t : TA} {fa : Rho → R (List AV)} {r : List V → Hp → VK → Prop} {h : List Pd → Option Pd} (hr : RCall Z.K r h) (ha : DA Z W t fa) : DE Z W (tCB r t) (fCB h fa) := by
  intro Hf H O σ ρ s Q p
  refine ha.bind s p fun as ρ1 vs Hf1 H1 s1 g1 k1 rs p1 => ?_
  cases e : ress ρ1 as with
  | none => rw [e] at p1; exact p1.elim
  | some xs =>
    rw [e] at p1
    simp only at p1
    cases ez : h xs with
    | none => rw [ez] at p1; exact p1.elim
    | some z =>
      rw [ez] at p1
      exact hr Hf1 H1 vs xs z s1.ex (ress_ok s1 rs e) ez Q fun v Hf' H' g rv => p1 Hf' H' (s1.grow g) g.gr Kp.refl v rv
theorem l_cb {t : TA} {fa : Rho → R (List AV)} {r : List V → Hp → VK → Prop} {h : List Pd → Option (List Pd)} (hr : RCallL Z.K r h) (ha : DA Z W t fa) : DL Z W (tCB r t) (fCBL h fa) := by
  intro Hf H O σ ρ s Q p
  refine ha.bind s p fun as ρ1 vs Hf1 H1 s1 g1 k1 rs p1 => ?_
  cases e : ress ρ1 as with
  | none => rw [e] at p1; exact p1.elim
  | some xs =>
    rw [e] at p1
    simp only at p1
    cases ez : h xs with
    | none => rw [ez] at p1; exact p1.elim
    | some z =>
      rw [ez] at p1
      refine hr Hf1 H1 vs xs z s1.ex (ress_ok s1 rs e) ez Q fun l ws H' eF eH n hl rd => ?_
      have g : Pg Hf1 H1 Hf1 H' := ⟨Ex.refl _, eH, eF, fun _ _ q => .inl q⟩
      exact p1 Hf1 H' (s1.grow g) g.gr Kp.refl _ ⟨l, ws, rfl, g1.gone n, hl, fresh_back s1.ex n, rd⟩
/-! ### slices -/
def DO (Z : Zx) (W : WX) (t : TO) (f : Rho → R (Option Int)) : Prop := DJ Z W (fun _ _ _ _ v a => v = a) t f
def fNoPart : Rho → R (Option Int) := fun ρ => .ok none ρ
def fPart (f : Rho → R AV) : Rho → R (Option Int) := fun ρ => (f ρ).bind fun a ρ1 => match res ρ1 a with
  | some (.int i) => .ok (some i) ρ1
  | _ => .bad
theorem do_none : DO Z W tNoPart fNoPart := fun Hf H O σ ρ s Q p => p Hf H s Gr.refl Kp.refl none rfl
theorem do_some {t : TE} {f : Rho → R AV} (h : DE Z W t f) : DO Z W (tPart t) (fPart f) := by
  intro Hf H O σ ρ s Q p
  refine h.bind s p fun a ρ1 x Hf1 H1 s1 g1 k1 rx p1 => ?_
  cases e : res ρ1 a with
  | none => rw [e] at p1; exact p1.elim
  | some y =>
    rw [e] at p1
    cases y with
    | int i => exact ⟨i, (res_ok s1 rx e).int, p1 Hf1 H1 s1 Gr.refl Kp.refl _ rfl⟩
    | _ => exact p1.elim
def RSl (K : PySem.W.Frag) (r : V → Option Int → Option Int → Hp → VK → Prop) (h : Pd → Option Int → Option Int → Option Pd) : Prop := ∀ Hf H x lo hi dx z, Ex Hf H → RX K Hf H x dx → h dx lo hi = some z →
  ∀ Q : VK, (∀ v Hf' H', Pg Hf H Hf' H' → RD K Hf' v z → Q v H') → r x lo hi H Q
def fSl (h : Pd → Option Int → Option Int → Option Pd) (fe : Rho → R AV) (fl fh : Rho → R (Option Int)) : Rho → R AV := fun ρ => (fe ρ).bind fun a ρ1 => (fl ρ1).bind fun lo ρ2 => (fh ρ2).bind fun hi ρ3 => match res ρ3 a with
  | some x => match h x lo hi with
    | some z => .ok (.d z) ρ3
    | none => .bad
  | none => .bad
theorem d_sl {te : TE} {tl th : TO} {fe : Rho → R AV} {fl fh : Rho → R (Option Int)} {r : V → Option Int → Option Int → Hp → VK → Prop} {h : Pd → Option Int → Option Int → Option Pd} (hr : RSl Z.K r h) (he : DE Z W te fe) (hl : DO Z W tl fl) (hh : DO Z W th fh) :
    DE Z W (tSl r te tl th) (fSl h fe fl fh) := by
  intro Hf H O σ ρ s Q p
  refine he.bind s p fun a ρ1 x Hf1 H1 s1 g1 k1 rx p1 => ?_
  refine hl.bind s1 p1 fun lo ρ2 l Hf2 H2 s2 g2 k2 rl p2 => ?_
  refine hh.bind s2 p2 fun hi ρ3 u Hf3 H3 s3 g3 k3 rh p3 => ?_
  subst rl rh
  cases e : res ρ3 a with
  | none => rw [e] at p3; exact p3.elim
  | some dx =>
    rw [e] at p3
    simp only at p3
    cases ez : h dx l u with
    | none => rw [ez] at p3; exact p3.elim
    | some z =>
      rw [ez] at p3
      exact hr Hf3 H3 x l u dx z s3.ex (res_ok s3 (RA.mono rx (g2.ex.trans g3.ex)) e) ez Q fun v Hf' H' g rv => p3 Hf' H' (s3.grow g) g.gr Kp.refl v rv
/-! ### methods of built-in types -/
def RMt (K : PySem.W.Frag) (T : String) (r : V → List V → Hp → VK → Prop) (h : Pd → List Pd → Option Pd) : Prop := ∀ Hf H x vs dx xs z, Ex Hf H → RX K Hf H x dx → RXs K Hf H vs xs → h dx xs = some z →
  ∀ Q : VK, (∀ v Hf' H', Pg Hf H Hf' H' → RD K Hf' v z → Q v H') → r x vs H Q
/-- which receivers are of the type -/
def tyD (T : String) : Pd → Bool
  | .str _ => T == "str"
  | .list _ => T == "list"
  | _ => false
theorem tyD_ok {K : PySem.W.Frag} {T : String} {Hf H : Hp} {x : V} {d : Pd} (e : Ex Hf H) (h : RX K Hf H x d) (t : tyD T d = true) : tyV K T x H := by
  cases d with
  | str z => obtain rfl := h.str; exact beq_iff_eq.mp t
  | list xs =>
    obtain ⟨l, vs, rfl, h1, _⟩ := h.list e
    exact .inl ⟨beq_iff_eq.mp t, vs, h1⟩
  | _ => cases t
def fBM (T : String) (h : Pd → List Pd → Option Pd) (fo : Rho → R AV) (fa : Rho → R (List AV)) : Rho → R AV := fun ρ => (fo ρ).bind fun o ρ1 => match res ρ1 o with
  | some d0 => if tyD T d0 = true then (fa ρ1).bind fun as ρ2 => match res ρ2 o, ress ρ2 as with
      | some d, some xs => match h d xs with
        | some z => .ok (.d z) ρ2
        | none => .bad
      | _, _ => .bad
    else .bad
  | none => .bad
theorem d_bm {T : String} {to : TE} {t : TA} {fo : Rho → R AV} {fa : Rho → R (List AV)} {r : V → List V → Hp → VK → Prop} {h : Pd → List Pd → Option Pd} (hr : RMt Z.K T r h) (ho : DE Z W to fo) (ha : DA Z W t fa) : DE Z W (tBM Z.K T r to t) (fBM T h fo fa) := by
  intro Hf H O σ ρ s Q p
  refine ho.bind s p fun o ρ1 x Hf1 H1 s1 g1 k1 rx p1 => ?_
  cases e0 : res ρ1 o with
  | none => rw [e0] at p1; exact p1.elim
  | some d0 =>
    rw [e0] at p1
    simp only at p1
    by_cases ht : tyD T d0 = true
    · rw [if_pos ht] at p1
      refine ⟨tyD_ok s1.ex (res_ok s1 rx e0) ht, ?_⟩
      refine ha.bind s1 p1 fun as ρ2 vs Hf2 H2 s2 g2 k2 rs p2 => ?_
      cases e : res ρ2 o with
      | none => rw [e] at p2; exact p2.elim
      | some d =>
        cases e2 : ress ρ2 as with
        | none => rw [e, e2] at p2; exact p2.elim
        | some xs =>
          rw [e, e2] at p2
          simp only at p2
          cases ez : h d xs with
          | none => rw [ez] at p2; exact p2.elim
          | some z =>
            rw [ez] at p2
            exact hr Hf2 H2 x vs d xs z s2.ex (res_ok s2 (RA.mono rx g2.ex) e) (ress_ok s2 rs e2) ez Q fun v Hf' H' g rv => p2 Hf' H' (s2.grow g) g.gr Kp.refl v rv
    · rw [if_neg ht] at p1; exact p1.elim
theorem d_bm0 {T : String} {to : TE} {fo : Rho → R AV} {r : V → List V → Hp → VK → Prop} {h : Pd → List Pd → Option Pd} (hr : RMt Z.K T r h) (ho : DE Z W to fo) : DE Z W (tBM0 Z.K T r to) (fBM T h fo fNil) := d_bm hr ho d_nil
/-- .. of a text, by the layer's short forms -/
def fM1 (h : Pd → List Pd → Option Pd) (fo fa : Rho → R AV) : Rho → R AV := fun ρ => (fo ρ).bind fun o ρ1 => match res ρ1 o with
  | some (.str x) => (fa ρ1).bind fun a ρ2 => match res ρ2 a with
      | some y => match h (.str x) [y] with
        | some z => .ok (.d z) ρ2
        | none => .bad
      | _ => .bad
  | _ => .bad
theorem d_m1 {T : String} {to te : TE} {fo fa : Rho → R AV} {r : V → List V → Hp → VK → Prop} {h : Pd → List Pd → Option Pd} (hr : RMt Z.K T r h) (ho : DE Z W to fo) (ha : DE Z W te fa) : DE Z W (tM1 r to te) (fM1 h fo fa) := by
  intro Hf H O σ ρ s Q p
  refine ho.bind s p fun o ρ1 x Hf1 H1 s1 g1 k1 rx p1 => ?_
  cases e0 : res ρ1 o with
  | none => rw [e0] at p1; exact p1.elim
  | some d0 =>
    rw [e0] at p1
    cases d0 with
    | str z =>
      simp only at p1
      obtain rfl := (res_ok s1 rx e0).str
      refine ⟨⟨z, rfl⟩, ?_⟩
      refine ha.bind s1 p1 fun a ρ2 v Hf2 H2 s2 g2 k2 ra p2 => ?_
      cases e2 : res ρ2 a with
      | none => rw [e2] at p2; exact p2.elim
      | some y =>
        rw [e2] at p2
        simp only at p2
        cases ez : h (.str z) [y] with
        | none => rw [ez] at p2; exact p2.elim
        | some q =>
          rw [ez] at p2
          exact hr Hf2 H2 _ _ _ _ q s2.ex (.inl (.str z)) (.cons (res_ok s2 ra e2) .nil) ez Q fun v Hf' H' g rv => p2 Hf' H' (s2.grow g) g.gr Kp.refl v rv
    | _ => exact p1.elim
def fM0 (h : Pd → List Pd → Option Pd) (fo : Rho → R AV) : Rho → R AV := fun ρ => (fo ρ).bind fun o ρ1 => match res ρ1 o with
  | some (.str x) => match h (.str x) [] with
        | some z => .ok (.d z) ρ1
        | none => .bad
  | _ => .bad
theorem d_m0 {T : String} {to : TE} {fo : Rho → R AV} {r : V → List V → Hp → VK → Prop} {h : Pd → List Pd → Option Pd} (hr : RMt Z.K T r h) (ho : DE Z W to fo) : DE Z W (tM0 r to) (fM0 h fo) := by
  intro Hf H O σ ρ s Q p
  refine ho.bind s p fun o ρ1 x Hf1 H1 s1 g1 k1 rx p1 => ?_
  cases e0 : res ρ1 o with
  | none => rw [e0] at p1; exact p1.elim
  | some d0 =>
    rw [e0] at p1
    cases d0 with
    | str z =>
      simp only at p1
      obtain rfl := (res_ok s1 rx e0).str
      refine ⟨⟨z, rfl⟩, ?_⟩
      cases ez : h (.str z) [] with
      | none => rw [ez] at p1; exact p1.elim
      | some q =>
        rw [ez] at p1
        exact hr Hf1 H1 _ _ _ _ q s1.ex (.inl (.str z)) .nil ez Q fun v Hf' H' g rv => p1 Hf' H' (s1.grow g) g.gr Kp.refl v rv
    | _ => exact p1.elim
end
end Dt
namespace Dt
open PySem PySem.Spec L2 Evl
/-! ### what is walked -/
/-- the iterator J gives the data xs, one by one, whatever else becomes of the heap -/
def Dlv (K : PySem.W.Frag) (J : It) (Hf : Hp) (xs : List Pd) : Prop := ∀ (i : Nat) (Hf' H' : Hp), Ex Hf Hf' → Ex Hf' H' →
  (i < xs.length → J.go i H') ∧ (xs.length ≤ i → J.stop i H') ∧
  ∀ v H'', J.yld i H' v H'' → ∀ x, xs[i]? = some x → ∃ Hf'', Pg Hf' H' Hf'' H'' ∧ RD K Hf'' v x
def DI (Z : Zx) (W : WX) (t : TI) (f : Rho → R (List Pd)) : Prop := DJ Z W (fun _ Hf _ _ J xs => Dlv Z.K J Hf xs) t f
theorem dlv_list {K : PySem.W.Frag} {Hf : Hp} {a : Addr} {vs : List V} {xs : List Pd} (h : SqL K Hf a vs) (r : RDs K Hf vs xs) : Dlv K (Itl K a) Hf xs := by
  intro i Hf' H' e1 e2
  have hs : SqL K H' a vs := ex_l (e1.trans e2) h
  refine ⟨fun hi => ?_, fun hi => ⟨vs, hs, by rw [r.length]; exact hi⟩, fun v H'' hy x hx => ?_⟩
  · obtain ⟨v, e, _⟩ := r.get (List.getElem?_eq_getElem hi)
    exact ⟨vs, v, hs, e⟩
  · obtain ⟨rfl, hy⟩ := hy
    have e := hy vs hs
    obtain ⟨v', e', rv⟩ := r.get hx
    rw [e] at e'; cases e'
    exact ⟨Hf', Pg.refl e2, rv.mono e1⟩
theorem dlv_tup {K : PySem.W.Frag} {Hf : Hp} {a : Addr} {vs : List V} {xs : List Pd} (h : SqT K Hf a vs) (r : RDs K Hf vs xs) : Dlv K (Itt K a) Hf xs := by
  intro i Hf' H' e1 e2
  have hs : SqT K H' a vs := ex_t (e1.trans e2) h
  refine ⟨fun hi => ?_, fun hi => ⟨vs, hs, by rw [r.length]; exact hi⟩, fun v H'' hy x hx => ?_⟩
  · obtain ⟨v, e, _⟩ := r.get (List.getElem?_eq_getElem hi)
    exact ⟨vs, v, hs, e⟩
  · obtain ⟨rfl, hy⟩ := hy
    have e := hy vs hs
    obtain ⟨v', e', rv⟩ := r.get hx
    rw [e] at e'; cases e'
    exact ⟨Hf', Pg.refl e2, rv.mono e1⟩
/-- the signs of a text, each a text -/
def chars (x : Str) : List Pd := x.cps.toList.map fun c => .str ⟨#[c]⟩
theorem dlv_str {K : PySem.W.Frag} {Hf : Hp} {x : Str} : Dlv K (Its x) Hf (chars x) := by
  intro i Hf' H' e1 e2
  have hl : (chars x).length = x.cps.size := by simp [chars]
  refine ⟨fun hi => ?_, fun hi => ?_, fun v H'' hy y hx => ?_⟩
  · show i < x.cps.size
    omega
  · show x.cps.size ≤ i
    omega
  · obtain ⟨rfl, c, ec, rfl⟩ := hy
    refine ⟨Hf', Pg.refl e2, ?_⟩
    unfold chars at hx
    rw [List.getElem?_map, Array.getElem?_toList, ec] at hx
    cases hx
    exact .str _
def nums (lo : Int) (n : Nat) : List Pd := (List.range n).map fun (k : Nat) => .int (lo + (k : Int))
theorem dlv_rng {K : PySem.W.Frag} {Hf : Hp} {lo : Int} {n : Nat} : Dlv K (Itr lo n) Hf (nums lo n) := by
  intro i Hf' H' e1 e2
  have hl : (nums lo n).length = n := by simp [nums]
  refine ⟨fun hi => ?_, fun hi => ?_, fun v H'' hy y hx => ?_⟩
  · show i < n
    omega
  · show n ≤ i
    omega
  · obtain ⟨rfl, rfl⟩ := hy
    refine ⟨Hf', Pg.refl e2, ?_⟩
    unfold nums at hx
    have hi : i < n := by
      rcases Nat.lt_or_ge i n with h | h
      · exact h
      · rw [List.getElem?_eq_none (by simpa using h)] at hx; cases hx
    rw [List.getElem?_map, List.getElem?_range hi] at hx
    cases hx
    exact .int _
theorem dlv_zip {K : PySem.W.Frag} {Hf : Hp} {a b : Addr} {vs us : List V} {xs ys : List Pd} (h : SqL K Hf a vs) (r : RDs K Hf vs xs) (h2 : SqL K Hf b us) (r2 : RDs K Hf us ys) : Dlv K (Itz K a b) Hf ((xs.zip ys).map fun p => .tuple [p.1, p.2]) := by
  intro i Hf' H' e1 e2
  have hs : SqL K H' a vs := ex_l (e1.trans e2) h
  have hs2 : SqL K H' b us := ex_l (e1.trans e2) h2
  have l1 := r.length
  have l2 := r2.length
  refine ⟨fun hi => ?_, fun hi => ?_, fun v H'' hy x hx => ?_⟩
  · rw [List.length_map, List.length_zip] at hi
    obtain ⟨v, e, _⟩ := r.get (List.getElem?_eq_getElem (show i < xs.length by omega))
    obtain ⟨u, e', _⟩ := r2.get (List.getElem?_eq_getElem (show i < ys.length by omega))
    exact ⟨vs, us, v, u, hs, hs2, e, e'⟩
  · rw [List.length_map, List.length_zip] at hi
    refine ⟨vs, us, hs, hs2, ?_⟩
    omega
  · obtain ⟨T, x1, x2, rfl, nT, rfl, f1, f2⟩ := hy
    have q1 := f1 vs hs
    have q2 := f2 us hs2
    obtain ⟨d1, g1, rd1⟩ := r.get' q1
    obtain ⟨d2, g2, rd2⟩ := r2.get' q2
    have : x = .tuple [d1, d2] := by
      rw [List.getElem?_map] at hx
      have z : (xs.zip ys)[i]? = some (d1, d2) := by
        rw [List.getElem?_zip_eq_some]; exact ⟨g1, g2⟩
      rw [z] at hx
      cases hx
      rfl
    subst this
    have g := Pg.new (o := .tup [x1, x2]) e2 nT
    exact ⟨_, g, .tup (st_of upd_same) (.cons ((rd1.mono e1).mono g.ef) (.cons ((rd2.mono e1).mono g.ef) .nil))⟩
section
variable {Z : Zx} {W : WX}
def fItL (f : Rho → R AV) : Rho → R (List Pd) := fun ρ => (f ρ).bind fun a ρ1 => match a with
  | .d (.list xs) => .ok xs ρ1
  | _ => .bad
def fItT (f : Rho → R AV) : Rho → R (List Pd) := fun ρ => (f ρ).bind fun a ρ1 => match a with
  | .d (.tuple xs) => .ok xs ρ1
  | _ => .bad
def fItS (f : Rho → R AV) : Rho → R (List Pd) := fun ρ => (f ρ).bind fun a ρ1 => match a with
  | .d (.str x) => .ok (chars x) ρ1
  | _ => .bad
theorem i_list {t : TE} {f : Rho → R AV} (h : DE Z W t f) : DI Z W (iList Z.K t) (fItL f) := by
  intro Hf H O σ ρ s Q p
  refine h.bind s p fun a ρ1 x Hf1 H1 s1 g1 k1 rx p1 => ?_
  match a, rx, p1 with
  | .d (.list xs), rx, p1 =>
    cases rx with
    | lst h1 h2 => exact ⟨_, rfl, ⟨_, ex_l s1.ex h1⟩, p1 Hf1 H1 s1 Gr.refl Kp.refl _ (dlv_list h1 h2)⟩
  | .d .none, _, p1 => exact p1.elim
  | .d (.bool _), _, p1 => exact p1.elim
  | .d (.int _), _, p1 => exact p1.elim
  | .d (.str _), _, p1 => exact p1.elim
  | .d (.tuple _), _, p1 => exact p1.elim
  | .d (.dict _), _, p1 => exact p1.elim
  | .sl _, _, p1 => exact p1.elim
theorem i_tup {t : TE} {f : Rho → R AV} (h : DE Z W t f) : DI Z W (iTup Z.K t) (fItT f) := by
  intro Hf H O σ ρ s Q p
  refine h.bind s p fun a ρ1 x Hf1 H1 s1 g1 k1 rx p1 => ?_
  match a, rx, p1 with
  | .d (.tuple xs), rx, p1 =>
    cases rx with
    | tup h1 h2 => exact ⟨_, rfl, ⟨_, ex_t s1.ex h1⟩, p1 Hf1 H1 s1 Gr.refl Kp.refl _ (dlv_tup h1 h2)⟩
  | .d .none, _, p1 => exact p1.elim
  | .d (.bool _), _, p1 => exact p1.elim
  | .d (.int _), _, p1 => exact p1.elim
  | .d (.str _), _, p1 => exact p1.elim
  | .d (.list _), _, p1 => exact p1.elim
  | .d (.dict _), _, p1 => exact p1.elim
  | .sl _, _, p1 => exact p1.elim
theorem i_str {t : TE} {f : Rho → R AV} (h : DE Z W t f) : DI Z W (iStr t) (fItS f) := by
  intro Hf H O σ ρ s Q p
  refine h.bind s p fun a ρ1 x Hf1 H1 s1 g1 k1 rx p1 => ?_
  match a, rx, p1 with
  | .d (.str z), rx, p1 =>
    cases rx with
    | str _ => exact ⟨_, rfl, p1 Hf1 H1 s1 Gr.refl Kp.refl _ dlv_str⟩
  | .d .none, _, p1 => exact p1.elim
  | .d (.bool _), _, p1 => exact p1.elim
  | .d (.int _), _, p1 => exact p1.elim
  | .d (.tuple _), _, p1 => exact p1.elim
  | .d (.list _), _, p1 => exact p1.elim
  | .d (.dict _), _, p1 => exact p1.elim
  | .sl _, _, p1 => exact p1.elim
def fRng1 (f : Rho → R (List AV)) : Rho → R (List Pd) := fun ρ => (f ρ).bind fun as ρ1 => match as with
  | [.d (.int j)] => if -(2 ^ 62) ≤ j ∧ j < 2 ^ 62 then .ok (nums 0 j.toNat) ρ1 else .bad
  | _ => .bad
theorem i_rng1 {t : TA} {f : Rho → R (List AV)} (h : DA Z W t f) : DI Z W (iRng1 t) (fRng1 f) := by
  intro Hf H O σ ρ s Q p
  refine h.bind s p fun as ρ1 vs Hf1 H1 s1 g1 k1 rs p1 => ?_
  split at p1
  · rename_i j
    cases rs with
    | cons r1 r2 =>
      cases r2
      cases r1 with
      | int _ =>
        by_cases hj : -(2 ^ 62) ≤ j ∧ j < 2 ^ 62
        · rw [if_pos hj] at p1
          exact ⟨j, rfl, hj.1, hj.2, p1 Hf1 H1 s1 Gr.refl Kp.refl _ dlv_rng⟩
        · rw [if_neg hj] at p1; exact p1.elim
  · exact p1.elim
def fRng2 (f : Rho → R (List AV)) : Rho → R (List Pd) := fun ρ => (f ρ).bind fun as ρ1 => match as with
  | [.d (.int i), .d (.int j)] => if (-(2 ^ 62) ≤ i ∧ i < 2 ^ 62) ∧ -(2 ^ 62) ≤ j ∧ j < 2 ^ 62 then .ok (nums i (j - i).toNat) ρ1 else .bad
  | _ => .bad
theorem i_rng2 {t : TA} {f : Rho → R (List AV)} (h : DA Z W t f) : DI Z W (iRng2 t) (fRng2 f) := by
  intro Hf H O σ ρ s Q p
  refine h.bind s p fun as ρ1 vs Hf1 H1 s1 g1 k1 rs p1 => ?_
  split at p1
  · rename_i i j
    cases rs with
    | cons r1 r2 =>
      cases r2 with
      | cons r2 r3 =>
        cases r3
        cases r1 with
        | int _ =>
          cases r2 with
          | int _ =>
            by_cases hj : (-(2 ^ 62) ≤ i ∧ i < 2 ^ 62) ∧ -(2 ^ 62) ≤ j ∧ j < 2 ^ 62
            · rw [if_pos hj] at p1
              exact ⟨i, j, rfl, ⟨hj.1.1, hj.1.2, hj.2.1, hj.2.2⟩, p1 Hf1 H1 s1 Gr.refl Kp.refl _ dlv_rng⟩
            · rw [if_neg hj] at p1; exact p1.elim
  · exact p1.elim
end
/-! ### targets -/
/-- slots outside js stay -/
def Off (js : List Nat) (σ σ' : L2.St) : Prop := σ'.length = σ.length ∧ ∀ i, i ∉ js → σ'[i]? = σ[i]?
theorem Off.refl {js : List Nat} {σ : L2.St} : Off js σ σ := ⟨rfl, fun _ _ => rfl⟩
theorem Off.trans {js : List Nat} {a b c : L2.St} (h : Off js a b) (g : Off js b c) : Off js a c := ⟨g.1.trans h.1, fun i hi => (g.2 i hi).trans (h.2 i hi)⟩
/-- slots that were handed in to be changed stay so, and hold what they held -/
def Kq (ρ ρ' : Rho) (σ σ' : L2.St) : Prop := ∀ (i : Nat) xs, ρ[i]? = some (.own true xs) → (∃ ys, ρ'[i]? = some (.own true ys)) ∧ σ'[i]? = σ[i]?
theorem Kq.refl {ρ : Rho} {σ : L2.St} : Kq ρ ρ σ σ := fun _ xs h => ⟨⟨xs, h⟩, rfl⟩
theorem Kq.trans {a b c : Rho} {x y z : L2.St} (h : Kq a b x y) (g : Kq b c y z) : Kq a c x z := fun i xs e => by
  obtain ⟨⟨ys, q⟩, e1⟩ := h i xs e
  obtain ⟨r, e2⟩ := g i ys q
  exact ⟨r, e2.trans e1⟩
theorem Kp.kq {ρ ρ' : Rho} {σ : L2.St} (h : Kp ρ ρ') : Kq ρ ρ' σ σ := fun i xs e => ⟨h i xs e, rfl⟩
theorem Kq.kp {ρ ρ' : Rho} {σ σ' : L2.St} (h : Kq ρ ρ' σ σ') : Kp ρ ρ' := fun i xs e => (h i xs e).1
/-- a target for data; js: the slots that it may store to -/
def DG (K : PySem.W.Frag) (js : List Nat) (g : TG) (h : Pd → Rho → Option Rho) : Prop := ∀ Hf H O σ ρ v x ρ', SR K Hf H O σ ρ → RD K Hf v x → h x ρ = some ρ' →
  ∀ Q : L2.St → Hp → Prop, (∀ σ', SR K Hf H O σ' ρ' → Off js σ σ' → (∀ i, i ∉ js → ρ'[i]? = ρ[i]?) → Kq ρ ρ' σ σ' → Q σ' H) → g v σ H Q
def DGs (K : PySem.W.Frag) (js : List Nat) (g : TGs) (h : List Pd → Rho → Option Rho) : Prop := ∀ Hf H O σ ρ vs xs ρ', SR K Hf H O σ ρ → RDs K Hf vs xs → h xs ρ = some ρ' →
  ∀ Q : L2.St → Hp → Prop, (∀ σ', SR K Hf H O σ' ρ' → Off js σ σ' → (∀ i, i ∉ js → ρ'[i]? = ρ[i]?) → Kq ρ ρ' σ σ' → Q σ' H) → g vs σ H Q
/-- data into a slot (not one that was handed in to be changed) -/
def put (i : Nat) (x : Pd) (ρ : Rho) : Option Rho := match ρ[i]? with
  | some (.own true _) => none
  | some _ => some (ρ.set i (.d x))
  | none => none
theorem SR.putD {K : PySem.W.Frag} {Hf H : Hp} {O : Addr → Prop} {σ : L2.St} {ρ : Rho} (s : SR K Hf H O σ ρ) {i : Nat} {v : V} {x : Pd} (hi : i < ρ.length) (r : RD K Hf v x) : SR K Hf H O (σ.set i (some v)) (ρ.set i (.d x)) where
  ex := s.ex
  otr := s.otr
  len := by simp [s.len]
  slot := fun j y h => by
    by_cases z : i = j
    · subst z
      rw [List.getElem?_set_self hi] at h
      cases h
      exact ⟨v, List.getElem?_set_self (by rw [s.len]; exact hi), r⟩
    · rw [List.getElem?_set_ne z] at h ⊢; exact s.slot j y h
  own := fun j b xs h => by
    by_cases z : i = j
    · subst z
      rw [List.getElem?_set_self hi] at h
      cases h
    · rw [List.getElem?_set_ne z] at h ⊢; exact s.own j b xs h
  dis := fun j k b c xs ys l h1 h2 h3 h4 => by
    by_cases z : i = j
    · subst z
      rw [List.getElem?_set_self hi] at h1
      cases h1
    · by_cases z2 : i = k
      · subst z2
        rw [List.getElem?_set_self hi] at h2
        cases h2
      · rw [List.getElem?_set_ne z] at h1 h3
        rw [List.getElem?_set_ne z2] at h2 h4
        exact s.dis j k b c xs ys l h1 h2 h3 h4
  exc := fun j e h => by
    by_cases z : i = j
    · subst z
      rw [List.getElem?_set_self hi] at h
      cases h
    · rw [List.getElem?_set_ne z] at h ⊢; exact s.exc j e h
theorem put_some {i : Nat} {x : Pd} {ρ ρ' : Rho} (h : put i x ρ = some ρ') : i < ρ.length ∧ ρ' = ρ.set i (.d x) ∧ ∀ xs, ρ[i]? ≠ some (.own true xs) := by
  unfold put at h
  cases e : ρ[i]? with
  | none => rw [e] at h; cases h
  | some z =>
    rw [e] at h
    have hi := (List.getElem?_eq_some_iff.mp e).1
    cases z with
    | no => cases h; exact ⟨hi, rfl, fun _ q => by cases q⟩
    | x _ => cases h; exact ⟨hi, rfl, fun _ q => by cases q⟩
    | d y => cases h; exact ⟨hi, rfl, fun _ q => by cases q⟩
    | own b xs =>
      cases b with
      | true => cases h
      | false => cases h; exact ⟨hi, rfl, fun _ q => by cases q⟩
section
variable {K : PySem.W.Frag}
theorem g_name (i : Nat) : DG K [i] (gName i) (put i) := by
  intro Hf H O σ ρ v x ρ' s r h Q q
  obtain ⟨hi, rfl, ni⟩ := put_some h
  refine q _ (s.putD hi r) ⟨by simp, fun j hj => ?_⟩ (fun j hj => ?_) fun j xs e => ?_
  · rw [List.getElem?_set_ne (fun z => hj (by simp [z]))]
  · rw [List.getElem?_set_ne (fun z => hj (by simp [z]))]
  · have z : i ≠ j := fun z => ni xs (by rw [z]; exact e)
    rw [List.getElem?_set_ne z, List.getElem?_set_ne z]
    exact ⟨⟨xs, e⟩, rfl⟩
def putNil : List Pd → Rho → Option Rho
  | [], ρ => some ρ
  | _ :: _, _ => none
def putCons (h : Pd → Rho → Option Rho) (k : List Pd → Rho → Option Rho) : List Pd → Rho → Option Rho
  | [], _ => none
  | x :: xs, ρ => match h x ρ with
    | some ρ1 => k xs ρ1
    | none => none
theorem gs_nil : DGs K [] gNil putNil := by
  intro Hf H O σ ρ vs xs ρ' s r h Q q
  cases r with
  | nil => cases h; exact ⟨rfl, q σ s Off.refl (fun _ _ => rfl) Kq.refl⟩
  | cons _ _ => cases h
theorem gs_cons {js ks : List Nat} {g : TG} {gs : TGs} {h : Pd → Rho → Option Rho} {k : List Pd → Rho → Option Rho} (hg : DG K js g h) (hs : DGs K ks gs k) : DGs K (js ++ ks) (gCons g gs) (putCons h k) := by
  intro Hf H O σ ρ vs xs ρ' s r e Q q
  cases r with
  | nil => cases e
  | cons r1 r2 =>
    rename_i v vs x xs
    simp only [putCons] at e
    cases e1 : h x ρ with
    | none => rw [e1] at e; cases e
    | some ρ1 =>
      rw [e1] at e
      refine ⟨_, _, rfl, hg Hf H O σ ρ _ _ ρ1 s r1 e1 _ fun σ1 s1 o1 z1 k1 => ?_⟩
      refine hs Hf H O σ1 ρ1 _ _ ρ' s1 r2 e Q fun σ2 s2 o2 z2 k2 => q σ2 s2 ⟨o2.1.trans o1.1, fun i hi => ?_⟩ (fun i hi => ?_) (k1.trans k2)
      · exact (o2.2 i fun z => hi (List.mem_append_right _ z)).trans (o1.2 i fun z => hi (List.mem_append_left _ z))
      · exact (z2 i fun z => hi (List.mem_append_right _ z)).trans (z1 i fun z => hi (List.mem_append_left _ z))
def putTup (n : Nat) (k : List Pd → Rho → Option Rho) : Pd → Rho → Option Rho
  | .tuple xs, ρ => if xs.length = n then k xs ρ else none
  | _, _ => none
theorem g_tup {n : Nat} {js : List Nat} {gs : TGs} {k : List Pd → Rho → Option Rho} (hs : DGs K js gs k) : DG K js (gTup K n gs) (putTup n k) := by
  intro Hf H O σ ρ v x ρ' s r e Q q
  cases r with
  | tup h1 h2 =>
    rename_i a vs xs
    simp only [putTup] at e
    by_cases hn : xs.length = n
    · rw [if_pos hn] at e
      exact ⟨_, _, rfl, ex_t s.ex h1, by rw [h2.length]; exact hn, hs Hf H O σ ρ _ _ ρ' s h2 e Q q⟩
    · rw [if_neg hn] at e; cases e
  | _ => cases e
end
end Dt
namespace Dt
open PySem PySem.Spec L2 Evl
/-! ### slots wiped -/
def wipeR (ρ : Rho) : List Nat → Rho
  | [] => ρ
  | v :: vs => (wipeR ρ vs).set v .no
theorem wipeR_length (ρ : Rho) : ∀ vs : List Nat, (wipeR ρ vs).length = ρ.length
  | [] => rfl
  | v :: vs => by unfold wipeR; rw [List.length_set, wipeR_length ρ vs]
theorem wipeR_in {ρ : Rho} {i : Nat} : ∀ {vs : List Nat}, i ∈ vs → (wipeR ρ vs)[i]? = some .no ∨ (wipeR ρ vs)[i]? = none
  | v :: vs, h => by
    unfold wipeR
    by_cases z : v = i
    · subst z
      by_cases hv : v < (wipeR ρ vs).length
      · exact .inl (List.getElem?_set_self hv)
      · exact .inr (List.getElem?_eq_none (by simpa using hv))
    · rw [List.getElem?_set_ne z]
      exact wipeR_in ((List.mem_cons.mp h).resolve_left fun e => z e.symm)
theorem wipeR_out {ρ : Rho} {i : Nat} : ∀ {vs : List Nat}, i ∉ vs → (wipeR ρ vs)[i]? = ρ[i]?
  | [], _ => rfl
  | v :: vs, h => by
    unfold wipeR
    rw [List.getElem?_set_ne (fun z => h (by simp [z])), wipeR_out fun z => h (List.mem_cons_of_mem _ z)]
theorem wipe_out {σ : L2.St} {i : Nat} : ∀ {vs : List Nat}, i ∉ vs → (wipe σ vs)[i]? = σ[i]?
  | [], _ => rfl
  | v :: vs, h => by
    unfold wipe
    rw [List.getElem?_set_ne (fun z => h (by simp [z])), wipe_out fun z => h (List.mem_cons_of_mem _ z)]
theorem wipe_in {σ : L2.St} {i : Nat} : ∀ {vs : List Nat}, i ∈ vs → (wipe σ vs)[i]? = if i < σ.length then some none else none
  | v :: vs, h => by
    unfold wipe
    by_cases z : v = i
    · subst z
      by_cases hv : v < σ.length
      · rw [List.getElem?_set_self (by rw [wipe_length]; exact hv), if_pos hv]
      · rw [if_neg hv, List.getElem?_eq_none (by rw [List.length_set, wipe_length]; omega)]
    · rw [List.getElem?_set_ne z]
      exact wipe_in ((List.mem_cons.mp h).resolve_left fun e => z e.symm)
theorem wipe_off {js vs : List Nat} {a b : L2.St} (h : Off js (wipe a vs) b) (hj : ∀ j ∈ js, j ∈ vs) : wipe b vs = wipe a vs := by
  apply List.ext_getElem?
  intro i
  have hl : b.length = a.length := h.1.trans (wipe_length a vs)
  by_cases hi : i ∈ vs
  · rw [wipe_in hi, wipe_in hi, hl]
  · rw [wipe_out hi, h.2 i fun z => hi (hj i z)]
section
variable {K : PySem.W.Frag} {Hf H : Hp} {O : Addr → Prop} {σ : L2.St} {ρ : Rho} {vs : List Nat}
theorem SR.wipe (s : SR K Hf H O σ ρ) : SR K Hf H O (wipe σ vs) (wipeR ρ vs) where
  ex := s.ex
  otr := s.otr
  len := by rw [wipe_length, wipeR_length, s.len]
  slot := fun i x h => by
    by_cases hi : i ∈ vs
    · rcases wipeR_in (ρ := ρ) hi with z | z <;> rw [z] at h <;> cases h
    · rw [wipeR_out hi] at h; rw [wipe_out hi]; exact s.slot i x h
  own := fun i b x h => by
    by_cases hi : i ∈ vs
    · rcases wipeR_in (ρ := ρ) hi with z | z <;> rw [z] at h <;> cases h
    · rw [wipeR_out hi] at h; rw [wipe_out hi]; exact s.own i b x h
  dis := fun i j b c x y l h1 h2 h3 h4 => by
    by_cases hi : i ∈ vs
    · rcases wipeR_in (ρ := ρ) hi with z | z <;> rw [z] at h1 <;> cases h1
    · by_cases hj : j ∈ vs
      · rcases wipeR_in (ρ := ρ) hj with z | z <;> rw [z] at h2 <;> cases h2
      · rw [wipeR_out hi] at h1; rw [wipe_out hi] at h3; rw [wipeR_out hj] at h2; rw [wipe_out hj] at h4
        exact s.dis i j b c x y l h1 h2 h3 h4
  exc := fun i e h => by
    by_cases hi : i ∈ vs
    · rcases wipeR_in (ρ := ρ) hi with z | z <;> rw [z] at h <;> cases h
    · rw [wipeR_out hi] at h; rw [wipe_out hi]; exact s.exc i e h
theorem SR.unwipe (s : SR K Hf H O (L2.wipe σ vs) (wipeR ρ vs)) : SR K Hf H O σ (wipeR ρ vs) where
  ex := s.ex
  otr := s.otr
  len := by rw [← s.len, wipe_length]
  slot := fun i x h => by
    by_cases hi : i ∈ vs
    · rcases wipeR_in (ρ := ρ) hi with z | z <;> rw [z] at h <;> cases h
    · have := s.slot i x h; rw [wipe_out hi] at this; exact this
  own := fun i b x h => by
    by_cases hi : i ∈ vs
    · rcases wipeR_in (ρ := ρ) hi with z | z <;> rw [z] at h <;> cases h
    · have := s.own i b x h; rw [wipe_out hi] at this; exact this
  dis := fun i j b c x y l h1 h2 h3 h4 => by
    by_cases hi : i ∈ vs
    · rcases wipeR_in (ρ := ρ) hi with z | z <;> rw [z] at h1 <;> cases h1
    · by_cases hj : j ∈ vs
      · rcases wipeR_in (ρ := ρ) hj with z | z <;> rw [z] at h2 <;> cases h2
      · exact s.dis i j b c x y l h1 h2 (by rw [wipe_out hi]; exact h3) (by rw [wipe_out hj]; exact h4)
  exc := fun i e h => by
    by_cases hi : i ∈ vs
    · rcases wipeR_in (ρ := ρ) hi with z | z <;> rw [z] at h <;> cases h
    · have := s.exc i e h; rw [wipe_out hi] at this; exact this
/-- an object that nobody of these knows may change -/
theorem SR.other (s : SR K Hf H O σ ρ) {a : Addr} {o o' : HO} (h : H a = some o) (hf : Hf a = none) (no : ¬ O a) : SR K Hf (upd H a o') O σ ρ where
  ex := fun b u q => by rw [upd_ne (ne_of_none q hf)]; exact s.ex b u q
  otr := fun b hb => by
    have z : b ≠ a := fun z => no (by rw [← z]; exact hb)
    rw [upd_ne z]; exact s.otr b hb
  len := s.len
  slot := s.slot
  own := fun i b xs q => by
    obtain ⟨l, vs, h1, h2, h3, h4⟩ := s.own i b xs q
    have z : l ≠ a := fun z => no (by rw [← z]; exact h2)
    exact ⟨l, vs, h1, h2, by rw [upd_ne z]; exact h3, h4⟩
  dis := s.dis
  exc := s.exc
end
theorem Gr.upd {O : Addr → Prop} {Hf H Hf1 H1 : Hp} (g : Gr O Hf H Hf1 H1) {a : Addr} {o : HO} (h : H a = none) : Gr O Hf H Hf1 (L2.upd H1 a o) where
  ex := g.ex
  fm := fun b u q n => by rw [upd_ne (ne_of_none q h)]; exact g.fm b u q n
  tr := fun b u q => by rw [upd_ne (ne_of_none q h)]; exact g.tr b u q
  nw := g.nw
theorem Gr.stays {O : Addr → Prop} {Hf H Hf1 H1 : Hp} (g : Gr O Hf H Hf1 H1) {a : Addr} {o : HO} (h : H a = some o) (hf : Hf a = none) (no : ¬ O a) : Hf1 a = none := by
  cases e : Hf1 a with
  | none => rfl
  | some u =>
    rcases g.nw a u e with z | z | z
    · rw [hf] at z; cases z
    · rw [h] at z; cases z
    · exact (no z).elim
/-! ### a list comprehension -/
def lcRun (h : Pd → Rho → Option Rho) (ft : Rho → R Bool) (fe : Rho → R AV) (vs : List Nat) : List Pd → List Pd → Rho → R (List Pd)
  | [], acc, ρ => .ok acc ρ
  | x :: xs, acc, ρ => match h x ρ with
    | none => .bad
    | some ρ1 => match ft ρ1 with
      | .ok true ρ2 => match fe ρ2 with
        | .ok (.d y) ρ3 => if acc.length < sizeLine then lcRun h ft fe vs xs (acc ++ [y]) (wipeR ρ3 vs) else .bad
        | _ => .bad
      | .ok false ρ2 => lcRun h ft fe vs xs acc (wipeR ρ2 vs)
      | _ => .bad
def okW (ρ : Rho) (vs : List Nat) : Bool := vs.all fun v => match ρ[v]? with
  | some (.own _ _) => false
  | _ => true
theorem okW_kp {ρ ρ1 : Rho} {vs : List Nat} (h : okW ρ vs = true) (k : Kp ρ ρ1) : Kp ρ (wipeR ρ1 vs) := fun i xs e => by
  have hi : i ∉ vs := fun z => by
    have q := List.all_eq_true.mp h i z
    rw [e] at q; cases q
  rw [wipeR_out hi]
  exact k i xs e
def fLc (fi : Rho → R (List Pd)) (h : Pd → Rho → Option Rho) (ft : Rho → R Bool) (fe : Rho → R AV) (vs : List Nat) : Rho → R (List Pd) := fun ρ =>
  if okW ρ vs = true then (fi ρ).bind fun xs ρ1 => lcRun h ft fe vs xs [] (wipeR ρ1 vs) else .bad
/-- no exception -/
def W0 : WX := fun _ _ _ _ => False
theorem l_lc {Z : Zx} {W : WX} {wi : TI} {g : TG} {tt : TT} {te : TE} {vs js : List Nat} {fi : Rho → R (List Pd)} {h : Pd → Rho → Option Rho} {ft : Rho → R Bool} {fe : Rho → R AV} (hi : DI Z W wi fi) (hg : DG Z.K js g h) (hj : ∀ j ∈ js, j ∈ vs)
    (ht : DT Z W0 tt ft) (he : DE Z W0 te fe) : DL Z W (tLc wi g tt te vs) (fLc fi h ft fe vs) := by
  intro Hf H O σ ρ s Q p
  unfold fLc at p
  by_cases hw : okW ρ vs = true
  case neg => rw [if_neg hw] at p; exact p.elim
  rw [if_pos hw] at p
  refine hi Hf H O σ ρ s _ ?_
  cases e : fi ρ with
  | bad => rw [e] at p; exact p
  | ex x ρ1 => rw [e] at p; exact p
  | ok xs ρ1 =>
    rw [e] at p
    intro Hf1 H1 s1 g1 k1 J dlv D nD
    have nD0 : H D = none := g1.gone nD
    have noD : ¬ O D := fun z => by
      obtain ⟨⟨o, q⟩, _⟩ := s.otr D z
      rw [nD0] at q; cases q
    have p : PostG Z W O σ ρ Hf H (fun a _ Hf' H' => ∀ v, RL Z.K H Hf' H' v a → Q v H') (lcRun h ft fe vs xs [] (wipeR ρ1 vs)) := p
    refine ⟨fun i m H' => m + i = xs.length ∧ ∃ Hf' ρ' acc us, SR Z.K Hf' H' O (wipe σ vs) ρ' ∧ SR Z.K Hf' H' O σ ρ' ∧ Ex Hf1 Hf' ∧ Gr O Hf H Hf' H' ∧ Kp ρ ρ' ∧ H' D = some (.lst us) ∧ Hf' D = none ∧ RDs Z.K Hf' us acc ∧
      PostG Z W O σ ρ Hf H (fun a _ Hf' H' => ∀ v, RL Z.K H Hf' H' v a → Q v H') (lcRun h ft fe vs (xs.drop i) acc ρ'), ⟨xs.length, by omega, Hf1, wipeR ρ1 vs, [], [], ?_, ?_, Ex.refl _, g1.upd nD0, okW_kp hw k1, upd_same, fresh_back s1.ex nD, .nil, by simpa using p⟩, ?_⟩
    · exact (s1.grow (Pg.lay s1.ex nD)).wipe
    · exact (s1.grow (Pg.lay s1.ex nD)).wipe.unwipe
    · rintro i m H' ⟨em, Hf', ρ', acc, us, sw, so, e1, g', k', hD, fD, rd, p'⟩
      obtain ⟨d1, d2, d3⟩ := dlv i Hf' H' e1 sw.ex
      by_cases hlt : i < xs.length
      case neg =>
        refine .inl ⟨d2 (by omega), ?_⟩
        rw [List.drop_eq_nil_of_le (by omega)] at p'
        exact p' Hf' H' so g' k' _ ⟨D, us, rfl, nD0, hD, fD, rd⟩
      refine .inr ⟨d1 hlt, fun H'' => ∃ Hf' ρ' acc us, SR Z.K Hf' H'' O (wipe σ vs) ρ' ∧ SR Z.K Hf' H'' O σ ρ' ∧ Ex Hf1 Hf' ∧ Gr O Hf H Hf' H'' ∧ Kp ρ ρ' ∧ H'' D = some (.lst us) ∧ Hf' D = none ∧ RDs Z.K Hf' us acc ∧
        PostG Z W O σ ρ Hf H (fun a _ Hf' H' => ∀ v, RL Z.K H Hf' H' v a → Q v H') (lcRun h ft fe vs (xs.drop (i + 1)) acc ρ'), fun H'' q => ⟨m - 1, by omega, by omega, q⟩, fun v H2 hy => ?_⟩
      obtain ⟨Hf2, pg, rv⟩ := d3 v H2 hy _ (List.getElem?_eq_getElem hlt)
      rw [List.drop_eq_getElem_cons hlt] at p'
      simp only [lcRun] at p'
      cases eh : h xs[i] ρ' with
      | none => rw [eh] at p'; exact p'.elim
      | some ρ2 =>
        rw [eh] at p'
        simp only at p'
        have hD2 : H2 D = some (.lst us) := pg.eh _ _ hD
        have fD2 : Hf2 D = none := (pg.gr (O := O)).stays hD fD noD
        refine hg Hf2 H2 O (wipe σ vs) ρ' v _ ρ2 (sw.grow pg) rv eh _ fun σ2 s2 off oth _ => ⟨wipe_off off hj, ?_⟩
        have ew : wipe σ2 vs = wipe σ vs := wipe_off off hj
        -- own slots that were handed in lie outside the block's own
        have kp2 : Kp ρ ρ2 := fun j ys ej => by
          have nj : j ∉ vs := fun z => by
            have q := List.all_eq_true.mp hw j z
            rw [ej] at q; cases q
          rw [oth j fun z => nj (hj j z)]
          exact k' j ys ej
        refine ht Hf2 H2 O σ2 ρ2 s2 _ ?_
        cases et : ft ρ2 with
        | bad => rw [et] at p'; exact p'.elim
        | ex x ρ3 => rw [et] at p'; exact p'.elim
        | ok b ρ3 =>
          rw [et] at p'
          intro Hf3 H3 s3 g3 k3 b' rb
          subst rb
          cases b' with
          | false =>
            have sw3 : SR Z.K Hf3 H3 O (wipe σ vs) (wipeR ρ3 vs) := ew ▸ s3.wipe
            refine ⟨Hf3, wipeR ρ3 vs, acc, us, sw3, sw3.unwipe, e1.trans (pg.ef.trans g3.ex), g'.trans (pg.gr.trans g3), okW_kp hw (kp2.trans k3), g3.fm _ _ hD2 noD, g3.stays hD2 fD2 noD, rd.mono (pg.ef.trans g3.ex), p'⟩
          | true =>
            simp only at p'
            refine he Hf3 H3 O σ2 ρ3 s3 _ ?_
            cases ee : fe ρ3 with
            | bad => rw [ee] at p'; exact p'.elim
            | ex x ρ4 => rw [ee] at p'; exact p'.elim
            | ok a ρ4 =>
              rw [ee] at p'
              cases a with
              | sl j => exact p'.elim
              | d y =>
                simp only at p'
                intro Hf4 H4 s4 g4 k4 w rw4
                by_cases hz : acc.length < sizeLine
                case neg => rw [if_neg hz] at p'; exact p'.elim
                rw [if_pos hz] at p'
                have gg := (pg.gr (O := O)).trans (g3.trans g4)
                have hD4 : H4 D = some (.lst us) := gg.fm _ _ hD noD
                have fD4 : Hf4 D = none := gg.stays hD fD noD
                have sw4 : SR Z.K Hf4 H4 O (wipe σ vs) (wipeR ρ4 vs) := ew ▸ s4.wipe
                refine ⟨us, hD4, by rw [rd.length]; exact hz, Hf4, wipeR ρ4 vs, acc ++ [y], us ++ [w], sw4.other hD4 fD4 noD, sw4.unwipe.other hD4 fD4 noD, e1.trans gg.ex, (g'.trans gg).upd nD0, okW_kp hw (kp2.trans (k3.trans k4)), upd_same, fD4, (rd.mono gg.ex).append (.cons rw4 .nil), p'⟩
end Dt
namespace Dt
open PySem PySem.Spec L2 Evl
/-- how a statement ends: it goes on, breaks, continues, returns data, returns a new list -/
inductive Fl where
  | nx | bk | ct
  | rt (x : Pd)
  | rl (xs : List Pd)
def EndS (Z : Zx) (En : Ends) (H0 Hf H : Hp) (O : Addr → Prop) (σ : L2.St) : Fl → Prop
  | .nx => En.nx σ H
  | .bk => En.bk σ H
  | .ct => En.ct σ H
  | .rt x => ∀ v, RD Z.K Hf v x → En.rt v H
  | .rl xs => ∀ l vs, H0 l = none → H l = some (.lst vs) → Hf l = none → ¬ O l → RDs Z.K Hf vs xs → En.rt (.ref l) H
def PostS (Z : Zx) (W : WX) (O : Addr → Prop) (σ : L2.St) (ρ : Rho) (Hf H : Hp) (En : Ends) : R Fl → Prop
  | .bad => False
  | .ok fl ρ' => ∀ Hf' H' O' σ', SR Z.K Hf' H' O' σ' ρ' → Gr O Hf H Hf' H' → Orl O H O' → Kq ρ ρ' σ σ' → EndS Z En H Hf' H' O' σ' fl
  | .ex e ρ' => ∀ cls d Hf' H' O' σ', SR Z.K Hf' H' O' σ' ρ' → Gr O Hf H Hf' H' → Orl O H O' → Kq ρ ρ' σ σ' → XR Z Hf' H' cls d e → W cls d σ' H'
theorem PostS.shift {Z : Zx} {W : WX} {O O1 : Addr → Prop} {σ σ1 : L2.St} {ρ ρ1 : Rho} {Hf H Hf1 H1 : Hp} {En : Ends} {r : R Fl} (p : PostS Z W O σ ρ Hf H En r) (g : Gr O Hf H Hf1 H1) (o : Orl O H O1) (k : Kq ρ ρ1 σ σ1) :
    PostS Z W O1 σ1 ρ1 Hf1 H1 En r := by
  cases r with
  | bad => exact p
  | ex e ρ' => exact fun cls d Hf' H' O' σ' s' g' o' k' x => p cls d Hf' H' O' σ' s' (g.transO g' o) (o.trans o' g) (k.trans k') x
  | ok fl ρ' =>
    intro Hf' H' O' σ' s' g' o' k'
    have q := p Hf' H' O' σ' s' (g.transO g' o) (o.trans o' g) (k.trans k')
    cases fl with
    | nx => exact q
    | bk => exact q
    | ct => exact q
    | rt x => exact q
    | rl xs => exact fun l vs h0 h1 h2 h3 h4 => q l vs (g.gone h0) h1 h2 h3 h4
def DS (Z : Zx) (W : WX) (t : TS) (f : Rho → R Fl) : Prop := ∀ Hf H O σ ρ, SR Z.K Hf H O σ ρ → ∀ En, PostS Z W O σ ρ Hf H En (f ρ) → t En σ H
theorem DJ.bindS {C A : Type} {Z : Zx} {W : WX} {Rel : Hp → Hp → Hp → L2.St → C → A → Prop} {t : L2.St → Hp → (C → Hp → Prop) → Prop} {f : Rho → R A} (h : DJ Z W Rel t f) {Hf H : Hp} {O : Addr → Prop} {σ : L2.St} {ρ : Rho} (s : SR Z.K Hf H O σ ρ)
    {En : Ends} {k : A → Rho → R Fl} (p : PostS Z W O σ ρ Hf H En ((f ρ).bind k)) {Q : C → Hp → Prop}
    (c : ∀ a ρ1 v Hf1 H1, SR Z.K Hf1 H1 O σ ρ1 → Gr O Hf H Hf1 H1 → Kp ρ ρ1 → Rel H Hf1 H1 σ v a → PostS Z W O σ ρ Hf H En (k a ρ1) → Q v H1) : t σ H Q := by
  refine h Hf H O σ ρ s Q ?_
  cases e : f ρ with
  | bad => rw [e] at p; exact p
  | ok a ρ1 =>
    rw [e] at p
    exact fun Hf1 H1 s1 g1 k1 v rv => c a ρ1 v Hf1 H1 s1 g1 k1 rv p
  | ex x ρ1 =>
    rw [e] at p
    exact fun cls d Hf1 H1 s1 g1 k1 xr => p cls d Hf1 H1 O σ s1 g1 Orl.refl k1.kq xr
section
variable {Z : Zx} {W : WX}
/-! ### rows of statements -/
def fNx : Rho → R Fl := fun ρ => .ok .nx ρ
theorem s_nx : DS Z W tNext fNx := fun Hf H O σ ρ s En p => p Hf H O σ s Gr.refl Orl.refl Kq.refl
def fSeq (f g : Rho → R Fl) : Rho → R Fl := fun ρ => match f ρ with
  | .ok .nx ρ1 => g ρ1
  | r => r
theorem s_seq {t u : TS} {f g : Rho → R Fl} (h : DS Z W t f) (k : DS Z W u g) : DS Z W (tSeq t u) (fSeq f g) := by
  intro Hf H O σ ρ s En p
  refine h Hf H O σ ρ s { En with nx := u En } ?_
  unfold fSeq at p
  cases e : f ρ with
  | bad => rw [e] at p; exact p
  | ex x ρ1 => rw [e] at p; exact p
  | ok fl ρ1 =>
    rw [e] at p
    cases fl with
    | nx => exact fun Hf1 H1 O1 σ1 s1 g1 o1 k1 => k Hf1 H1 O1 σ1 ρ1 s1 En (PostS.shift p g1 o1 k1)
    | bk => exact p
    | ct => exact p
    | rt x => exact p
    | rl xs => exact p
def fIfS (c : Rho → R Bool) (f g : Rho → R Fl) : Rho → R Fl := fun ρ => (c ρ).bind fun b ρ1 => if b = true then f ρ1 else g ρ1
theorem s_if {c : TT} {t u : TS} {fc : Rho → R Bool} {f g : Rho → R Fl} (hc : DT Z W c fc) (h : DS Z W t f) (k : DS Z W u g) : DS Z W (tIfS c t u) (fIfS fc f g) := by
  intro Hf H O σ ρ s En p
  refine DJ.bindS hc s p fun b ρ1 v Hf1 H1 s1 g1 k1 rv p1 => ?_
  subst rv
  cases v with
  | true => exact h Hf1 H1 O σ ρ1 s1 En (PostS.shift p1 g1 Orl.refl k1.kq)
  | false => exact k Hf1 H1 O σ ρ1 s1 En (PostS.shift p1 g1 Orl.refl k1.kq)
def fRet (f : Rho → R AV) : Rho → R Fl := fun ρ => (f ρ).bind fun a ρ1 => match a with
  | .d x => .ok (.rt x) ρ1
  | .sl _ => .bad
theorem s_ret {t : TE} {f : Rho → R AV} (h : DE Z W t f) : DS Z W (tRet t) (fRet f) := by
  intro Hf H O σ ρ s En p
  refine DJ.bindS h s p fun a ρ1 v Hf1 H1 s1 g1 k1 rv p1 => ?_
  cases a with
  | d x => exact p1 Hf1 H1 O σ s1 g1 Orl.refl k1.kq v rv
  | sl i => exact p1.elim
def fRetL (f : Rho → R (List Pd)) : Rho → R Fl := fun ρ => (f ρ).bind fun xs ρ1 => .ok (.rl xs) ρ1
theorem s_retL {t : TE} {f : Rho → R (List Pd)} (h : DL Z W t f) : DS Z W (tRet t) (fRetL f) := by
  intro Hf H O σ ρ s En p
  refine DJ.bindS h s p fun a ρ1 v Hf1 H1 s1 g1 k1 rv p1 => ?_
  obtain ⟨l, vs, rfl, h0, h1, h2, h3⟩ := rv
  refine p1 Hf1 H1 O σ s1 g1 Orl.refl k1.kq l vs h0 h1 h2 (fun z => ?_) h3
  obtain ⟨⟨o, q⟩, _⟩ := s.otr l z
  rw [h0] at q; cases q
def fRetN : Rho → R Fl := fun ρ => .ok (.rt .none) ρ
theorem s_retN : DS Z W tRetN fRetN := fun Hf H O σ ρ s En p => p Hf H O σ s Gr.refl Orl.refl Kq.refl .non .non
def fDrop (f : Rho → R AV) : Rho → R Fl := fun ρ => (f ρ).bind fun _ ρ1 => .ok .nx ρ1
theorem s_drop {t : TE} {f : Rho → R AV} (h : DE Z W t f) : DS Z W (tDrop t) (fDrop f) := by
  intro Hf H O σ ρ s En p
  refine DJ.bindS h s p fun a ρ1 v Hf1 H1 s1 g1 k1 rv p1 => ?_
  exact p1 Hf1 H1 O σ s1 g1 Orl.refl k1.kq
theorem s_never : DS Z W tNever (fun _ => .bad) := fun Hf H O σ ρ s En p => p
theorem s_bk : DS Z W tBreak (fun ρ => .ok .bk ρ) := fun Hf H O σ ρ s En p => p Hf H O σ s Gr.refl Orl.refl Kq.refl
theorem s_ct : DS Z W tCont (fun ρ => .ok .ct ρ) := fun Hf H O σ ρ s En p => p Hf H O σ s Gr.refl Orl.refl Kq.refl
/-! ### assignments -/
def fAsg (f : Rho → R AV) (h : Pd → Rho → Option Rho) : Rho → R Fl := fun ρ => (f ρ).bind fun a ρ1 => match a with
  | .d x => match h x ρ1 with
    | some ρ2 => .ok .nx ρ2
    | none => .bad
  | .sl _ => .bad
theorem s_asg {js : List Nat} {t : TE} {g : TG} {f : Rho → R AV} {h : Pd → Rho → Option Rho} (he : DE Z W t f) (hg : DG Z.K js g h) : DS Z W (tAsg t g) (fAsg f h) := by
  intro Hf H O σ ρ s En p
  refine DJ.bindS he s p fun a ρ1 v Hf1 H1 s1 g1 k1 rv p1 => ?_
  cases a with
  | sl i => exact p1.elim
  | d x =>
    simp only at p1
    cases e : h x ρ1 with
    | none => rw [e] at p1; exact p1.elim
    | some ρ2 =>
      rw [e] at p1
      exact hg Hf1 H1 O σ ρ1 v x ρ2 s1 rv e _ fun σ' s2 _ _ k2 => p1 Hf1 H1 O σ' s2 g1 Orl.refl (Kq.trans k1.kq k2)
/-- a new list into a slot: owned from now on -/
def putOwn (i : Nat) (xs : List Pd) (ρ : Rho) : Option Rho := match ρ[i]? with
  | some (.own true _) => none
  | some _ => some (ρ.set i (.own false xs))
  | none => none
theorem putOwn_some {i : Nat} {x : List Pd} {ρ ρ' : Rho} (h : putOwn i x ρ = some ρ') : i < ρ.length ∧ ρ' = ρ.set i (.own false x) ∧ ∀ xs, ρ[i]? ≠ some (.own true xs) := by
  unfold putOwn at h
  cases e : ρ[i]? with
  | none => rw [e] at h; cases h
  | some z =>
    rw [e] at h
    have hi := (List.getElem?_eq_some_iff.mp e).1
    cases z with
    | no => cases h; exact ⟨hi, rfl, fun _ q => by cases q⟩
    | x _ => cases h; exact ⟨hi, rfl, fun _ q => by cases q⟩
    | d y => cases h; exact ⟨hi, rfl, fun _ q => by cases q⟩
    | own b xs =>
      cases b with
      | true => cases h
      | false => cases h; exact ⟨hi, rfl, fun _ q => by cases q⟩
def fSetO (f : Rho → R (List Pd)) (i : Nat) : Rho → R Fl := fun ρ => (f ρ).bind fun xs ρ1 => match putOwn i xs ρ1 with
  | some ρ2 => .ok .nx ρ2
  | none => .bad
theorem SR.putO {K : PySem.W.Frag} {Hf H : Hp} {O : Addr → Prop} {σ : L2.St} {ρ : Rho} (s : SR K Hf H O σ ρ) {i : Nat} {l : Addr} {vs : List V} {xs : List Pd} (hi : i < ρ.length) (h1 : H l = some (.lst vs)) (h2 : Hf l = none) (no : ¬ O l) (r : RDs K Hf vs xs) :
    SR K Hf H (fun a => O a ∨ a = l) (σ.set i (some (.ref l))) (ρ.set i (.own false xs)) where
  ex := s.ex
  otr := fun a h => by
    rcases h with h | h
    · exact s.otr a h
    · subst h; exact ⟨⟨_, h1⟩, h2⟩
  len := by simp [s.len]
  slot := fun j y h => by
    by_cases z : i = j
    · subst z
      rw [List.getElem?_set_self hi] at h
      cases h
    · rw [List.getElem?_set_ne z] at h ⊢; exact s.slot j y h
  own := fun j b ys h => by
    by_cases z : i = j
    · subst z
      rw [List.getElem?_set_self hi] at h
      cases h
      exact ⟨l, vs, List.getElem?_set_self (by rw [s.len]; exact hi), .inr rfl, h1, r⟩
    · rw [List.getElem?_set_ne z] at h ⊢
      obtain ⟨k, us, q1, q2, q3⟩ := s.own j b ys h
      exact ⟨k, us, q1, .inl q2, q3⟩
  dis := fun j k b c xs ys m h1 h2 h3 h4 => by
    have ne : ∀ {j : Nat} {b ys}, i ≠ j → (ρ.set i (.own false xs))[j]? = some (.own b ys) → (σ.set i (some (.ref l)))[j]? = some (some (.ref m)) → m ≠ l := fun {j b ys} z q1 q2 e => by
      rw [List.getElem?_set_ne z] at q1 q2
      obtain ⟨k, us, e1, e2, _⟩ := s.own j b ys q1
      rw [q2] at e1
      cases e1
      rw [e] at e2
      exact no e2
    by_cases z : i = j
    · by_cases z2 : i = k
      · rw [← z, ← z2]
      · subst z
        rw [List.getElem?_set_self (by rw [s.len]; exact hi)] at h3
        cases h3
        rw [List.getElem?_set_ne z2] at h2 h4
        obtain ⟨k', us, e1, e2, _⟩ := s.own k c ys h2
        rw [h4] at e1
        cases e1
        exact (no e2).elim
    · by_cases z2 : i = k
      · subst z2
        rw [List.getElem?_set_self (by rw [s.len]; exact hi)] at h4
        cases h4
        rw [List.getElem?_set_ne z] at h1 h3
        obtain ⟨k', us, e1, e2, _⟩ := s.own j b xs h1
        rw [h3] at e1
        cases e1
        exact (no e2).elim
      · rw [List.getElem?_set_ne z] at h1 h3
        rw [List.getElem?_set_ne z2] at h2 h4
        exact s.dis j k b c xs ys m h1 h2 h3 h4
  exc := fun j e h => by
    by_cases z : i = j
    · subst z
      rw [List.getElem?_set_self hi] at h
      cases h
    · rw [List.getElem?_set_ne z] at h ⊢; exact s.exc j e h
theorem s_setO {i : Nat} {t : TE} {f : Rho → R (List Pd)} (he : DL Z W t f) : DS Z W (tAsg t (gName i)) (fSetO f i) := by
  intro Hf H O σ ρ s En p
  refine DJ.bindS he s p fun xs ρ1 v Hf1 H1 s1 g1 k1 rv p1 => ?_
  obtain ⟨l, vs, rfl, h0, h1, h2, h3⟩ := rv
  cases e : putOwn i xs ρ1 with
  | none => rw [e] at p1; exact p1.elim
  | some ρ2 =>
    rw [e] at p1
    obtain ⟨hi, rfl, ni⟩ := putOwn_some e
    have no : ¬ O l := fun z => by
      obtain ⟨⟨o, q⟩, _⟩ := s.otr l z
      rw [h0] at q; cases q
    refine p1 Hf1 H1 _ _ (s1.putO hi h1 h2 no h3) g1 (fun a z => z.elim .inl fun z => .inr (by rw [z]; exact h0)) (Kq.trans k1.kq fun j ys ej => ?_)
    have z : i ≠ j := fun z => ni ys (by rw [z]; exact ej)
    rw [List.getElem?_set_ne z, List.getElem?_set_ne z]
    exact ⟨⟨ys, ej⟩, rfl⟩
/-! ### an owned list is changed -/
theorem SR.chg {K : PySem.W.Frag} {Hf H : Hp} {O : Addr → Prop} {σ : L2.St} {ρ : Rho} (s : SR K Hf H O σ ρ) {i : Nat} {b : Bool} {xs ys : List Pd} {l : Addr} {vs us : List V} (e : ρ[i]? = some (.own b xs)) (hs : σ[i]? = some (some (.ref l))) (h1 : H l = some (.lst vs)) (r : RDs K Hf us ys) :
    SR K Hf (upd H l (.lst us)) O σ (ρ.set i (.own b ys)) := by
  have hi := (List.getElem?_eq_some_iff.mp e).1
  obtain ⟨l', vs', q1, q2, q3, q4⟩ := s.own i b xs e
  rw [hs] at q1
  cases q1
  have hf := (s.otr l q2).2
  refine ⟨fun a u h => ?_, fun a h => ?_, by simp [s.len], fun j y h => ?_, fun j c zs h => ?_, fun j k c d x y m a1 a2 a3 a4 => ?_, fun j e' h => ?_⟩
  · rw [upd_ne (ne_of_none h hf)]; exact s.ex a u h
  · refine ⟨?_, (s.otr a h).2⟩
    by_cases z : a = l
    · subst z; exact ⟨_, upd_same⟩
    · rw [upd_ne z]; exact (s.otr a h).1
  · by_cases z : i = j
    · subst z
      rw [List.getElem?_set_self hi] at h
      cases h
    · rw [List.getElem?_set_ne z] at h; exact s.slot j y h
  · by_cases z : i = j
    · subst z
      rw [List.getElem?_set_self hi] at h
      cases h
      exact ⟨l, us, hs, q2, upd_same, r⟩
    · rw [List.getElem?_set_ne z] at h
      obtain ⟨k, ws, b1, b2, b3, b4⟩ := s.own j c zs h
      have z2 : k ≠ l := fun z2 => z (s.dis i j b c xs zs l e h hs (by rw [← z2]; exact b1))
      exact ⟨k, ws, b1, b2, by rw [upd_ne z2]; exact b3, b4⟩
  · have back : ∀ {j : Nat} {c x}, (ρ.set i (.own b ys))[j]? = some (.own c x) → ∃ c x, ρ[j]? = some (.own c x) := fun {j c x} q => by
      by_cases z : i = j
      · subst z; exact ⟨b, xs, e⟩
      · rw [List.getElem?_set_ne z] at q; exact ⟨c, x, q⟩
    obtain ⟨c1, x1, a1⟩ := back a1
    obtain ⟨c2, x2, a2⟩ := back a2
    exact s.dis j k c1 c2 x1 x2 m a1 a2 a3 a4
  · by_cases z : i = j
    · subst z
      rw [List.getElem?_set_self hi] at h
      cases h
    · rw [List.getElem?_set_ne z] at h; exact s.exc j e' h
theorem Gr.chg {O : Addr → Prop} {Hf H Hf1 H1 : Hp} (g : Gr O Hf H Hf1 H1) {l : Addr} {o : HO} (ho : O l) : Gr O Hf H Hf1 (L2.upd H1 l o) where
  ex := g.ex
  fm := fun a u q n => by
    have z : a ≠ l := fun z => n (by rw [z]; exact ho)
    rw [upd_ne z]; exact g.fm a u q n
  tr := fun a u q => by
    by_cases z : a = l
    · subst z; exact ⟨_, upd_same⟩
    · rw [upd_ne z]; exact g.tr a u q
  nw := g.nw
theorem kp_chg {ρ : Rho} {i : Nat} {b : Bool} {xs ys : List Pd} (e : ρ[i]? = some (.own b xs)) : Kp ρ (ρ.set i (.own b ys)) := fun j zs q => by
  have hi := (List.getElem?_eq_some_iff.mp e).1
  by_cases z : i = j
  · subst z
    rw [e] at q
    cases q
    exact ⟨ys, List.getElem?_set_self hi⟩
  · exact ⟨zs, by rw [List.getElem?_set_ne z]; exact q⟩
/-- x.append(e), x in the slot i -/
def fApp (i : Nat) (f : Rho → R AV) : Rho → R Fl := fun ρ => match ρ[i]? with
  | some (.own _ _) => (f ρ).bind fun a ρ1 => match a, ρ1[i]? with
    | .d y, some (.own b xs) => if xs.length < sizeLine then .ok .nx (ρ1.set i (.own b (xs ++ [y]))) else .bad
    | _, _ => .bad
  | _ => .bad
theorem s_app {i : Nat} {t : TE} {f : Rho → R AV} (he : DE Z W t f) : DS Z W (tDrop (tBM Z.K "list" rAppend (tVar i) (tCons t tNil))) (fApp i f) := by
  intro Hf H O σ ρ s En p
  unfold fApp at p
  cases e0 : ρ[i]? with
  | none => rw [e0] at p; exact p.elim
  | some z0 =>
    rw [e0] at p
    cases z0 with
    | no => exact p.elim
    | x _ => exact p.elim
    | d y => exact p.elim
    | own b0 xs0 =>
      simp only at p
      obtain ⟨l, vs, h1, h2, h3, h4⟩ := s.own i b0 xs0 e0
      refine ⟨.ref l, h1, .inl ⟨rfl, vs, .inl (.inl h3)⟩, ?_⟩
      refine DJ.bindS he s p fun a ρ1 v Hf1 H1 s1 g1 k1 rv p1 => ?_
      show rAppend (.ref l) [v] H1 (fun _ H2 => En.nx σ H2)
      cases a with
      | sl j => exact p1.elim
      | d y =>
        cases e1 : ρ1[i]? with
        | none => rw [e1] at p1; exact p1.elim
        | some z1 =>
          rw [e1] at p1
          cases z1 with
          | no => exact p1.elim
          | x _ => exact p1.elim
          | d y => exact p1.elim
          | own b xs =>
            simp only at p1
            obtain ⟨l', us, q1, q2, q3, q4⟩ := s1.own i b xs e1
            rw [h1] at q1
            cases q1
            by_cases hz : xs.length < sizeLine
            · rw [if_pos hz] at p1
              exact ⟨l, us, v, rfl, rfl, q3, by rw [q4.length]; exact hz, p1 Hf1 _ O σ (s1.chg e1 h1 q3 (q4.append (.cons rv .nil))) (g1.chg q2) Orl.refl (Kq.trans k1.kq (kp_chg e1).kq)⟩
            · rw [if_neg hz] at p1; exact p1.elim
/-- x.extend(e), e a new list -/
def fExt (i : Nat) (f : Rho → R (List Pd)) : Rho → R Fl := fun ρ => match ρ[i]? with
  | some (.own _ _) => (f ρ).bind fun ys ρ1 => match ρ1[i]? with
    | some (.own b xs) => if xs.length + ys.length ≤ sizeLine then .ok .nx (ρ1.set i (.own b (xs ++ ys))) else .bad
    | _ => .bad
  | _ => .bad
theorem s_ext {i : Nat} {t : TE} {f : Rho → R (List Pd)} (he : DL Z W t f) : DS Z W (tDrop (tBM Z.K "list" rExtend (tVar i) (tCons t tNil))) (fExt i f) := by
  intro Hf H O σ ρ s En p
  unfold fExt at p
  cases e0 : ρ[i]? with
  | none => rw [e0] at p; exact p.elim
  | some z0 =>
    rw [e0] at p
    cases z0 with
    | no => exact p.elim
    | x _ => exact p.elim
    | d y => exact p.elim
    | own b0 xs0 =>
      simp only at p
      obtain ⟨l, vs, h1, h2, h3, h4⟩ := s.own i b0 xs0 e0
      refine ⟨.ref l, h1, .inl ⟨rfl, vs, .inl (.inl h3)⟩, ?_⟩
      refine DJ.bindS he s p fun ys ρ1 v Hf1 H1 s1 g1 k1 rv p1 => ?_
      obtain ⟨m, ws, rfl, m0, m1, m2, m3⟩ := rv
      show rExtend (.ref l) [.ref m] H1 (fun _ H2 => En.nx σ H2)
      cases e1 : ρ1[i]? with
      | none => rw [e1] at p1; exact p1.elim
      | some z1 =>
        rw [e1] at p1
        cases z1 with
        | no => exact p1.elim
        | x _ => exact p1.elim
        | d y => exact p1.elim
        | own b xs =>
          simp only at p1
          obtain ⟨l', us, q1, q2, q3, q4⟩ := s1.own i b xs e1
          rw [h1] at q1
          cases q1
          by_cases hz : xs.length + ys.length ≤ sizeLine
          · rw [if_pos hz] at p1
            exact ⟨l, m, us, ws, rfl, rfl, q3, m1, by rw [q4.length, m3.length]; exact hz, p1 Hf1 _ O σ (s1.chg e1 h1 q3 (q4.append m3)) (g1.chg q2) Orl.refl (Kq.trans k1.kq (kp_chg e1).kq)⟩
          · rw [if_neg hz] at p1; exact p1.elim
/-- x[k] = e, x in the slot i -/
def fSetI (i : Nat) (f fk : Rho → R AV) : Rho → R Fl := fun ρ => (f ρ).bind fun a ρ1 => match a, ρ1[i]? with
  | .d y, some (.own _ _) => (fk ρ1).bind fun k ρ2 => match k, ρ2[i]? with
    | .d (.int n), some (.own b xs) => match ixN xs.length n with
      | some j => .ok .nx (ρ2.set i (.own b (xs.set j y)))
      | none => .bad
    | _, _ => .bad
  | _, _ => .bad
theorem s_setI {i : Nat} {t tk : TE} {f fk : Rho → R AV} (he : DE Z W t f) (hk : DE Z W tk fk) : DS Z W (tAsg t (gSub (tVar i) tk rSetL)) (fSetI i f fk) := by
  intro Hf H O σ ρ s En p
  refine DJ.bindS he s p fun a ρ1 v Hf1 H1 s1 g1 k1 rv p1 => ?_
  cases a with
  | sl j => exact p1.elim
  | d y =>
    cases e1 : ρ1[i]? with
    | none => rw [e1] at p1; exact p1.elim
    | some z1 =>
      rw [e1] at p1
      cases z1 with
      | no => exact p1.elim
      | x _ => exact p1.elim
      | d y => exact p1.elim
      | own b1 xs1 =>
        simp only at p1
        obtain ⟨l, vs, h1, h2, h3, h4⟩ := s1.own i b1 xs1 e1
        refine ⟨.ref l, h1, ?_⟩
        refine DJ.bindS hk s1 (PostS.shift p1 g1 Orl.refl k1.kq) fun k ρ2 kv Hf2 H2 s2 g2 k2 rk p2 => ?_
        match k, rk, p2 with
        | .d (.int n), rk, p2 =>
          cases e2 : ρ2[i]? with
          | none => rw [e2] at p2; exact p2.elim
          | some z2 =>
            rw [e2] at p2
            cases z2 with
            | no => exact p2.elim
            | x _ => exact p2.elim
            | d y => exact p2.elim
            | own b xs =>
              simp only at p2
              obtain ⟨l', us, q1, q2, q3, q4⟩ := s2.own i b xs e2
              rw [h1] at q1
              cases q1
              cases en : ixN xs.length n with
              | none => rw [en] at p2; exact p2.elim
              | some j =>
                rw [en] at p2
                cases rk
                exact ⟨l, us, n, j, rfl, rfl, q3, by rw [q4.length]; exact en, p2 Hf2 _ O σ (s2.chg e2 h1 q3 (RDs.set (RD.mono g2.ex rv) j q4)) (g2.chg q2) Orl.refl (Kq.trans k2.kq (kp_chg e2).kq)⟩
        | .d .none, _, p2 => exact p2.elim
        | .d (.bool _), _, p2 => exact p2.elim
        | .d (.str _), _, p2 => exact p2.elim
        | .d (.tuple _), _, p2 => exact p2.elim
        | .d (.list _), _, p2 => exact p2.elim
        | .d (.dict _), _, p2 => exact p2.elim
        | .sl _, _, p2 => exact p2.elim
/-! ### an owned list is owned no more: from here on it is data -/
def frz (i : Nat) (ρ : Rho) : Rho := match ρ[i]? with
  | some (.own false xs) => ρ.set i (.d (.list xs))
  | _ => ρ
theorem SR.frz {K : PySem.W.Frag} {Hf H : Hp} {O : Addr → Prop} {σ : L2.St} {ρ : Rho} (s : SR K Hf H O σ ρ) (i : Nat) : ∃ Hf' O', SR K Hf' H O' σ (Dt.frz i ρ) ∧ Gr O Hf H Hf' H ∧ Orl O H O' ∧ Kp ρ (Dt.frz i ρ) := by
  unfold Dt.frz
  split
  · rename_i xs e
    have hi := (List.getElem?_eq_some_iff.mp e).1
    obtain ⟨l, vs, h1, h2, h3, h4⟩ := s.own i false xs e
    have hf := (s.otr l h2).2
    refine ⟨upd Hf l (.lst vs), fun a => O a ∧ a ≠ l, ⟨fun a u h => ?_, fun a h => ?_, by simp [s.len], fun j y h => ?_, fun j c zs h => ?_, fun j k c d x y m a1 a2 a3 a4 => ?_, fun j e' h => ?_⟩, ⟨Ex.new hf, fun _ _ h _ => h, fun _ o h => ⟨o, h⟩, fun a o h => ?_⟩, fun a h => .inl h.1, fun j ys q => ?_⟩
    · by_cases z : a = l
      · subst z; rw [upd_same] at h; cases h; exact h3
      · rw [upd_ne z] at h; exact s.ex a u h
    · refine ⟨(s.otr a h.1).1, ?_⟩
      rw [upd_ne h.2]; exact (s.otr a h.1).2
    · by_cases z : i = j
      · subst z
        rw [List.getElem?_set_self hi] at h
        cases h
        exact ⟨_, h1, .lst (sq_of upd_same) (h4.mono (Ex.new hf))⟩
      · rw [List.getElem?_set_ne z] at h
        obtain ⟨v, q1, q2⟩ := s.slot j y h
        exact ⟨v, q1, q2.mono (Ex.new hf)⟩
    · by_cases z : i = j
      · subst z
        rw [List.getElem?_set_self hi] at h
        cases h
      · rw [List.getElem?_set_ne z] at h
        obtain ⟨k, ws, b1, b2, b3, b4⟩ := s.own j c zs h
        exact ⟨k, ws, b1, ⟨b2, fun z2 => z (s.dis i j false c xs zs l e h h1 (by rw [← z2]; exact b1))⟩, b3, b4.mono (Ex.new hf)⟩
    · by_cases z : i = j
      · subst z
        rw [List.getElem?_set_self hi] at a1
        cases a1
      · by_cases z2 : i = k
        · subst z2
          rw [List.getElem?_set_self hi] at a2
          cases a2
        · rw [List.getElem?_set_ne z] at a1
          rw [List.getElem?_set_ne z2] at a2
          exact s.dis j k c d x y m a1 a2 a3 a4
    · by_cases z : i = j
      · subst z
        rw [List.getElem?_set_self hi] at h
        cases h
      · rw [List.getElem?_set_ne z] at h
        obtain ⟨v, q1, q2⟩ := s.exc j e' h
        exact ⟨v, q1, q2.mono (Ex.new hf)⟩
    · by_cases z : a = l
      · subst z; exact .inr (.inr h2)
      · rw [upd_ne z] at h; exact .inl h
    · have z : i ≠ j := fun z => by rw [z, q] at e; cases e
      exact ⟨ys, by rw [List.getElem?_set_ne z]; exact q⟩
  · exact ⟨Hf, O, s, Gr.refl, Orl.refl, Kp.refl⟩
def fFrz (i : Nat) (f : Rho → R Fl) : Rho → R Fl := fun ρ => f (frz i ρ)
theorem s_frz (i : Nat) {t : TS} {f : Rho → R Fl} (h : DS Z W t f) : DS Z W t (fFrz i f) := by
  intro Hf H O σ ρ s En p
  obtain ⟨Hf', O', s', g', o', k'⟩ := s.frz i
  exact h Hf' H O' σ _ s' En (PostS.shift p g' o' k'.kq)
/-! ### for -/
def forRun (h : Pd → Rho → Option Rho) (fb : Rho → R Fl) : List Pd → Rho → R Fl
  | [], ρ => .ok .nx ρ
  | x :: xs, ρ => match h x ρ with
    | none => .bad
    | some ρ1 => match fb ρ1 with
      | .ok .nx ρ2 => forRun h fb xs ρ2
      | .ok .ct ρ2 => forRun h fb xs ρ2
      | .ok .bk ρ2 => .ok .nx ρ2
      | r => r
def fFor (fi : Rho → R (List Pd)) (h : Pd → Rho → Option Rho) (fb : Rho → R Fl) : Rho → R Fl := fun ρ => (fi ρ).bind fun xs ρ1 => forRun h fb xs ρ1
theorem s_for {wi : TI} {g : TG} {tb : TS} {js : List Nat} {fi : Rho → R (List Pd)} {h : Pd → Rho → Option Rho} {fb : Rho → R Fl} (hi : DI Z W wi fi) (hg : DG Z.K js g h) (hb : DS Z W tb fb) : DS Z W (tFor wi g tb) (fFor fi h fb) := by
  intro Hf H O σ ρ s En p
  refine DJ.bindS hi s p fun xs ρ1 J Hf1 H1 s1 g1 k1 dlv p1 => ?_
  refine ⟨fun i m σ' H' => m + i = xs.length ∧ ∃ Hf' O' ρ', SR Z.K Hf' H' O' σ' ρ' ∧ Ex Hf1 Hf' ∧ Gr O Hf H Hf' H' ∧ Orl O H O' ∧ Kq ρ ρ' σ σ' ∧ PostS Z W O σ ρ Hf H En (forRun h fb (xs.drop i) ρ'),
    ⟨xs.length, by omega, Hf1, O, ρ1, s1, Ex.refl _, g1, Orl.refl, k1.kq, by simpa using p1⟩, ?_⟩
  rintro i m σ' H' ⟨em, Hf', O', ρ', s', e1, g', o', k', p'⟩
  obtain ⟨d1, d2, d3⟩ := dlv i Hf' H' e1 s'.ex
  by_cases hlt : i < xs.length
  case neg =>
    refine .inl ⟨d2 (by omega), ?_⟩
    rw [List.drop_eq_nil_of_le (by omega)] at p'
    exact p' Hf' H' O' σ' s' g' o' k'
  refine .inr ⟨d1 hlt, fun σ2 H2 => ∃ Hf' O' ρ', SR Z.K Hf' H2 O' σ2 ρ' ∧ Ex Hf1 Hf' ∧ Gr O Hf H Hf' H2 ∧ Orl O H O' ∧ Kq ρ ρ' σ σ2 ∧ PostS Z W O σ ρ Hf H En (forRun h fb (xs.drop (i + 1)) ρ'), fun σ2 H2 q => ⟨m - 1, by omega, by omega, q⟩, fun v H2 hy => ?_⟩
  obtain ⟨Hf2, pg, rv⟩ := d3 v H2 hy _ (List.getElem?_eq_getElem hlt)
  rw [List.drop_eq_getElem_cons hlt] at p'
  simp only [forRun] at p'
  cases eh : h xs[i] ρ' with
  | none => rw [eh] at p'; exact p'.elim
  | some ρ2 =>
    rw [eh] at p'
    simp only at p'
    refine hg Hf2 H2 O' σ' ρ' v _ ρ2 (s'.grow pg) rv eh _ fun σ2 s2 _ _ kq2 => ?_
    refine hb Hf2 H2 O' σ2 ρ2 s2 _ ?_
    have gA : Gr O Hf H Hf2 H2 := g'.transO pg.gr o'
    cases eb : fb ρ2 with
    | bad => rw [eb] at p'; exact p'
    | ex x ρ3 =>
      rw [eb] at p'
      exact fun cls d Hf3 H3 O3 σ3 s3 g3 o3 k3 xr => p' cls d Hf3 H3 O3 σ3 s3 (gA.transO g3 o') (o'.trans o3 gA) (k'.trans (kq2.trans k3)) xr
    | ok fl ρ3 =>
      rw [eb] at p'
      intro Hf3 H3 O3 σ3 s3 g3 o3 k3
      have gB := gA.transO g3 o'
      have oB := o'.trans o3 gA
      have kB := k'.trans (kq2.trans k3)
      cases fl with
      | nx => exact ⟨Hf3, O3, ρ3, s3, e1.trans (pg.ef.trans g3.ex), gB, oB, kB, p'⟩
      | ct => exact ⟨Hf3, O3, ρ3, s3, e1.trans (pg.ef.trans g3.ex), gB, oB, kB, p'⟩
      | bk => exact p' Hf3 H3 O3 σ3 s3 gB oB kB
      | rt x => exact p' Hf3 H3 O3 σ3 s3 gB oB kB
      | rl ys => exact fun l vs h0 h1 h2 h3 h4 => p' Hf3 H3 O3 σ3 s3 gB oB kB l vs (gA.gone h0) h1 h2 h3 h4
end
end Dt
namespace Dt
open PySem PySem.Spec L2 Evl
/-- what a def hands back: data, or a new list -/
inductive RV where
  | d (x : Pd)
  | l (xs : List Pd)
/-- the lists that were handed in to be changed, as they are behind -/
def outs : Rho → Rho → Rho
  | [], _ => []
  | .own true _ :: as, z :: ρ => z :: outs as ρ
  | a :: as, _ :: ρ => a :: outs as ρ
  | a :: as, [] => a :: as
theorem outs_length : ∀ as ρ : Rho, (outs as ρ).length = as.length
  | [], _ => rfl
  | .own true _ :: as, z :: ρ => congrArg Nat.succ (outs_length as ρ)
  | .own false _ :: as, z :: ρ => congrArg Nat.succ (outs_length as ρ)
  | .no :: as, z :: ρ => congrArg Nat.succ (outs_length as ρ)
  | .d _ :: as, z :: ρ => congrArg Nat.succ (outs_length as ρ)
  | .x _ :: as, z :: ρ => congrArg Nat.succ (outs_length as ρ)
  | .own true _ :: as, [] => rfl
  | .own false _ :: as, [] => rfl
  | .no :: as, [] => rfl
  | .x _ :: as, [] => rfl
  | .d _ :: as, [] => rfl
theorem outs_io : ∀ {as ρ : Rho} {i : Nat} {xs : List Pd} {z : Sl}, as[i]? = some (.own true xs) → ρ[i]? = some z → (outs as ρ)[i]? = some z
  | a :: as, y :: ρ, 0, xs, z, h, g => by
    cases h
    exact g
  | a :: as, y :: ρ, i + 1, xs, z, h, g => by
    have q := outs_io (as := as) (ρ := ρ) (i := i) h g
    cases a with
    | own b _ => cases b <;> exact q
    | no => exact q
    | x _ => exact q
    | d _ => exact q
  | [], _, _, _, _, h, _ => by simp at h
  | _ :: _, [], _, _, _, _, g => by simp at g
theorem outs_other : ∀ {as ρ : Rho} {i : Nat}, (∀ xs, as[i]? ≠ some (.own true xs)) → (outs as ρ)[i]? = as[i]?
  | [], _, _, _ => rfl
  | .own true _ :: as, [], i, _ => rfl
  | .own false _ :: as, [], i, _ => rfl
  | .no :: as, [], i, _ => rfl
  | .x _ :: as, [], i, _ => rfl
  | .d _ :: as, [], i, _ => rfl
  | a :: as, y :: ρ, 0, h => by
    cases a with
    | own b xs =>
      cases b with
      | true => exact (h xs rfl).elim
      | false => rfl
    | no => rfl
    | x _ => rfl
    | d _ => rfl
  | a :: as, y :: ρ, i + 1, h => by
    have q := outs_other (as := as) (ρ := ρ) (i := i) h
    cases a with
    | own b _ => cases b <;> exact q
    | no => exact q
    | x _ => exact q
    | d _ => exact q
/-- the body's ends as a def's -/
def endF (as : Rho) : R Fl → R RV
  | .ok (.rt x) ρ => .ok (.d x) (outs as ρ)
  | .ok (.rl xs) ρ => .ok (.l xs) (outs as ρ)
  | .ok .nx ρ => .ok (.d .none) (outs as ρ)
  | .ex e ρ => .ex e (outs as ρ)
  | _ => .bad
def gOf (n : Nat) (fb : Rho → R Fl) : Rho → R RV := fun as => endF as (fb (as ++ List.replicate (n - as.length) .no))
structure IoOk (O : Addr → Prop) (σ : L2.St) (as : Rho) : Prop where
  only : ∀ (i : Nat) b xs, as[i]? = some (.own b xs) → b = true
  cov : ∀ a, O a → ∃ (i : Nat) (xs : List Pd), as[i]? = some (.own true xs) ∧ σ[i]? = some (some (.ref a))
def PostF (Z : Zx) (O : Addr → Prop) (σ : L2.St) (Hf H : Hp) (Q : VK) (E : XK) : R RV → Prop
  | .bad => False
  | .ok (.d x) as' => ∀ v Hf' H', SR Z.K Hf' H' O σ as' → Gr O Hf H Hf' H' → RD Z.K Hf' v x → Q v H'
  | .ok (.l xs) as' => ∀ v Hf' H', SR Z.K Hf' H' O σ as' → Gr O Hf H Hf' H' → RL Z.K H Hf' H' v xs → Q v H'
  | .ex e as' => ∀ cls d Hf' H', SR Z.K Hf' H' O σ as' → Gr O Hf H Hf' H' → XR Z Hf' H' cls d e → E cls d H'
/-- the promise: with such slots as arguments the def does what g says -/
def spF (Z : Zx) (n : Nat) (g : Rho → R RV) : Sp := fun vs H Q E => vs.length = n ∧ ∃ Hf O as, SR Z.K Hf H O (vs.map some) as ∧ IoOk O (vs.map some) as ∧ PostF Z O (vs.map some) Hf H Q E (g as)
theorem SR.start {K : PySem.W.Frag} {Hf H : Hp} {O : Addr → Prop} {σ : L2.St} {as : Rho} (s : SR K Hf H O σ as) (n m : Nat) (e : n = m) : SR K Hf H O (σ ++ List.replicate n none) (as ++ List.replicate m .no) where
  ex := s.ex
  otr := s.otr
  len := by simp [s.len, e]
  slot := fun i x h => by
    by_cases hi : i < as.length
    · rw [List.getElem?_append_left hi] at h
      rw [List.getElem?_append_left (by rw [s.len]; exact hi)]
      exact s.slot i x h
    · rw [List.getElem?_append_right (by omega), List.getElem?_replicate] at h
      split at h <;> cases h
  own := fun i b x h => by
    by_cases hi : i < as.length
    · rw [List.getElem?_append_left hi] at h
      rw [List.getElem?_append_left (by rw [s.len]; exact hi)]
      exact s.own i b x h
    · rw [List.getElem?_append_right (by omega), List.getElem?_replicate] at h
      split at h <;> cases h
  dis := fun i j b c x y l h1 h2 h3 h4 => by
    by_cases hi : i < as.length
    · by_cases hj : j < as.length
      · rw [List.getElem?_append_left hi] at h1
        rw [List.getElem?_append_left hj] at h2
        rw [List.getElem?_append_left (by rw [s.len]; exact hi)] at h3
        rw [List.getElem?_append_left (by rw [s.len]; exact hj)] at h4
        exact s.dis i j b c x y l h1 h2 h3 h4
      · rw [List.getElem?_append_right (by omega), List.getElem?_replicate] at h2
        split at h2 <;> cases h2
    · rw [List.getElem?_append_right (by omega), List.getElem?_replicate] at h1
      split at h1 <;> cases h1
  exc := fun i e' h => by
    by_cases hi : i < as.length
    · rw [List.getElem?_append_left hi] at h
      rw [List.getElem?_append_left (by rw [s.len]; exact hi)]
      exact s.exc i e' h
    · rw [List.getElem?_append_right (by omega), List.getElem?_replicate] at h
      split at h <;> cases h
/-- the arguments' slots behind the body -/
theorem SR.back {K : PySem.W.Frag} {Hf H Hf' H' : Hp} {O O' : Addr → Prop} {σ σ' : L2.St} {as ρ' : Rho} {n : Nat} (s : SR K Hf H O σ as) (io : IoOk O σ as) (s' : SR K Hf' H' O' σ' ρ') (g : Gr O Hf H Hf' H')
    (k : Kq (as ++ List.replicate n .no) ρ' (σ ++ List.replicate n none) σ') : SR K Hf' H' O σ (outs as ρ') := by
  have at_ : ∀ {i : Nat} {xs : List Pd}, as[i]? = some (.own true xs) → ∃ ys, ρ'[i]? = some (.own true ys) ∧ σ'[i]? = σ[i]? := fun {i xs} h => by
    have hi := (List.getElem?_eq_some_iff.mp h).1
    obtain ⟨⟨ys, q⟩, e⟩ := k i xs (by rw [List.getElem?_append_left hi]; exact h)
    exact ⟨ys, q, by rw [e, List.getElem?_append_left (by rw [s.len]; exact hi)]⟩
  have own_ : ∀ {i : Nat} {b : Bool} {ys : List Pd}, (outs as ρ')[i]? = some (.own b ys) → ∃ xs, as[i]? = some (.own true xs) ∧ ρ'[i]? = some (.own b ys) := fun {i b ys} h => by
    by_cases hx : ∃ xs, as[i]? = some (.own true xs)
    · obtain ⟨xs, hx⟩ := hx
      obtain ⟨zs, q, _⟩ := at_ hx
      rw [outs_io hx q] at h
      cases h
      exact ⟨xs, hx, q⟩
    · rw [outs_other fun xs z => hx ⟨xs, z⟩] at h
      have := io.only i b ys h
      subst this
      exact (hx ⟨_, h⟩).elim
  refine ⟨s'.ex, fun a h => ?_, by rw [outs_length, s.len], fun i x h => ?_, fun i b ys h => ?_, fun i j b c x y l h1 h2 h3 h4 => ?_, fun i e' h => ?_⟩
  · obtain ⟨i, xs, h1, h2⟩ := io.cov a h
    obtain ⟨ys, q1, q2⟩ := at_ h1
    obtain ⟨l, vs, e1, e2, e3, e4⟩ := s'.own i true ys q1
    rw [q2, h2] at e1
    cases e1
    exact s'.otr _ e2
  · by_cases hx : ∃ xs, as[i]? = some (.own true xs)
    · obtain ⟨xs, hx⟩ := hx
      obtain ⟨zs, q, _⟩ := at_ hx
      rw [outs_io hx q] at h
      cases h
    · rw [outs_other fun xs z => hx ⟨xs, z⟩] at h
      obtain ⟨v, q1, q2⟩ := s.slot i x h
      exact ⟨v, q1, q2.mono g.ex⟩
  · obtain ⟨xs, h1, h2⟩ := own_ h
    obtain ⟨zs, q1, q2⟩ := at_ h1
    obtain ⟨l, vs, e1, e2, e3, e4⟩ := s'.own i b ys h2
    obtain ⟨l0, vs0, d1, d2, _⟩ := s.own i true xs h1
    rw [q2, d1] at e1
    cases e1
    exact ⟨l, vs, d1, d2, e3, e4⟩
  · obtain ⟨xs, a1, a2⟩ := own_ h1
    obtain ⟨ys, b1, b2⟩ := own_ h2
    exact s.dis i j true true xs ys l a1 b1 h3 h4
  · by_cases hx : ∃ xs, as[i]? = some (.own true xs)
    · obtain ⟨xs, hx⟩ := hx
      obtain ⟨zs, q, _⟩ := at_ hx
      rw [outs_io hx q] at h
      cases h
    · rw [outs_other fun xs z => hx ⟨xs, z⟩] at h
      obtain ⟨v, q1, q2⟩ := s.exc i e' h
      exact ⟨v, q1, q2.mono g.ex⟩
section
variable {P : Program} {w : World} {K : PySem.W.Frag} {C : Str → Addr} {mg : Str → Option Value} {base : Heap} {x qual : Str} {params : Arguments} {body : List Stmt} {scope : Scope} {f : Addr} {fd : FuncData}
theorem fn_ok {N ps : List Str} {k : Nat} {fb : Rho → R Fl} (F : FunD K x qual params body scope [] [] f fd) (S : FnScope N ps scope)
    (hb : ∀ (cdv : Value) (A : Around) (outer : List Env) (s : Shared) (H : Hp) (E : XK), Room k (A.deeper (PyProof.Rows.envOfC qual scope s.heap.objs.size f cdv)) →
      Takes (cxOf (L2.CX P w) P w K mg base N qual scope f cdv A outer s H E) (fun cls d _ H => E cls d H) →
      PassesOwn (model P w) (A.deeper (PyProof.Rows.envOfC qual scope s.heap.objs.size f cdv)) (PyProof.Rows.envOfC qual scope s.heap.objs.size f cdv) (cxOf (L2.CX P w) P w K mg base N qual scope f cdv A outer s H E).xe →
      ∃ t, PSs (cxOf (L2.CX P w) P w K mg base N qual scope f cdv A outer s H E) body t ∧ DS ⟨K, C⟩ (fun cls d _ H => E cls d H) t fb) :
    FnOk P w K mg base (L2.CX P w) (k + 1) f fd ps (spF ⟨K, C⟩ ps.length (gOf N.length fb)) := by
  refine F.ok S (fun vs H Q E h => h.1) (fun cdv A outer s H vs Q E hr h => ?_)
  obtain ⟨hl, Hf, O, as, s0, io, p⟩ := h
  obtain ⟨t, h1, h2⟩ := hb cdv A outer s H E hr (takes_of rfl rfl rfl rfl) (passes_of (X := cxOf (L2.CX P w) P w K mg base N qual scope f cdv A outer s H E) rfl)
  refine ⟨t, h1, ?_⟩
  have hal : as.length = vs.length := by rw [← s0.len, List.length_map]
  have st : SR K Hf H O (L2.start N vs) (as ++ List.replicate (N.length - as.length) .no) := s0.start _ _ (by rw [hal])
  refine h2 Hf H O (L2.start N vs) _ st _ ?_
  unfold gOf at p
  have bk : ∀ {Hf' H' O' σ' ρ'}, SR K Hf' H' O' σ' ρ' → Gr O Hf H Hf' H' → Kq (as ++ List.replicate (N.length - as.length) .no) ρ' (L2.start N vs) σ' → SR K Hf' H' O (vs.map some) (outs as ρ') := fun {Hf' H' O' σ' ρ'} s' g' k' => s0.back io s' g' (n := N.length - as.length) (by
    unfold L2.start at k'
    rw [← hal] at k'
    exact k')
  cases e : fb (as ++ List.replicate (N.length - as.length) .no) with
  | bad => rw [e] at p; exact p
  | ex y ρ' =>
    rw [e] at p
    exact fun cls d Hf' H' O' σ' s' g' o' k' xr => p cls d Hf' H' (bk s' g' k') g' xr
  | ok fl ρ' =>
    rw [e] at p
    intro Hf' H' O' σ' s' g' o' k'
    cases fl with
    | nx => exact p .non Hf' H' (bk s' g' k') g' .non
    | bk => exact p.elim
    | ct => exact p.elim
    | rt y => exact fun v rv => p v Hf' H' (bk s' g' k') g' rv
    | rl ys => exact fun l vs h0 h1 h2 h3 h4 => p _ Hf' H' (bk s' g' k') g' ⟨l, vs, rfl, h0, h1, h2, h4⟩
end
/-! ### calls -/
section
variable {Z : Zx} {W : WX}
theorem RDs.args {K : PySem.W.Frag} {Hf H : Hp} {vs : List V} {xs : List Pd} (r : RDs K Hf vs xs) (e : Ex Hf H) : SR K Hf H (fun _ => False) (vs.map some) (xs.map Sl.d) where
  ex := e
  otr := fun a h => h.elim
  len := by simp [r.length]
  slot := fun i x h => by
    rw [List.getElem?_map] at h
    cases q : xs[i]? with
    | none => rw [q] at h; cases h
    | some y =>
      rw [q] at h
      cases h
      obtain ⟨v, h1, h2⟩ := r.get q
      exact ⟨v, by rw [List.getElem?_map, h1]; rfl, h2⟩
  own := fun i b x h => by
    rw [List.getElem?_map] at h
    cases q : xs[i]? <;> rw [q] at h <;> cases h
  dis := fun i j b c x y l h1 => by
    rw [List.getElem?_map] at h1
    cases q : xs[i]? <;> rw [q] at h1 <;> cases h1
  exc := fun i e' h => by
    rw [List.getElem?_map] at h
    cases q : xs[i]? <;> rw [q] at h <;> cases h
theorem ioArgs {xs : List Pd} {σ : L2.St} : IoOk (fun _ => False) σ (xs.map Sl.d) where
  only := fun i b x h => by
    rw [List.getElem?_map] at h
    cases q : xs[i]? <;> rw [q] at h <;> cases h
  cov := fun a h => h.elim
theorem Gr.pg {Hf H Hf' H' : Hp} (g : Gr (fun _ => False) Hf H Hf' H') (e : Ex Hf' H') : Pg Hf H Hf' H' :=
  ⟨g.ex, fun a o h => g.fm a o h fun z => z, e, fun a o h => by rcases g.nw a o h with z | z | z; exact .inl z; exact .inr z; exact z.elim⟩
/-- the arguments as data -/
def argsD (n : Nat) (as : List AV) : Option (List Pd) := match datas as with
  | some xs => if xs.length = n then some xs else none
  | none => none
theorem argsD_ok {K : PySem.W.Frag} {Hf : Hp} {σ : L2.St} {n : Nat} {vs : List V} {as : List AV} {xs : List Pd} (h : RAs K Hf σ vs as) (e : argsD n as = some xs) : RDs K Hf vs xs ∧ vs.length = n := by
  unfold argsD at e
  cases q : datas as with
  | none => rw [q] at e; cases e
  | some ys =>
    rw [q] at e
    simp only at e
    split at e
    · rename_i hn
      cases e
      have r := datas_ok h q
      exact ⟨r, r.length.trans hn⟩
    · cases e
/-- f(e, ..), all arguments data; what comes is data -/
def kCall (g : Rho → R RV) (o : Option (List Pd)) (ρ1 : Rho) : R AV := match o with
  | some xs => match g (xs.map Sl.d) with
    | .ok (.d x) _ => .ok (.d x) ρ1
    | .ex e _ => .ex e ρ1
    | _ => .bad
  | none => .bad
def fCall (n : Nat) (g : Rho → R RV) (fa : Rho → R (List AV)) : Rho → R AV := fun ρ => (fa ρ).bind fun as ρ1 => kCall g (argsD n as) ρ1
theorem d_call {n : Nat} {g : Rho → R RV} {t : TA} {fa : Rho → R (List AV)} (ha : DA Z W t fa) : DE Z W (tCallS (spF Z n g) (WE W) t) (fCall n g fa) := by
  intro Hf H O σ ρ s Q p
  refine ha.bind s p fun as ρ1 vs Hf1 H1 s1 g1 k1 rs p1 => ?_
  unfold kCall at p1
  cases ed : argsD n as with
  | none => rw [ed] at p1; exact p1.elim
  | some xs =>
    rw [ed] at p1
    simp only at p1
    obtain ⟨r, hl⟩ := argsD_ok rs ed
    refine ⟨hl, Hf1, fun _ => False, xs.map Sl.d, r.args s1.ex, ioArgs, ?_⟩
    cases eg : g (xs.map Sl.d) with
    | bad => rw [eg] at p1; exact p1.elim
    | ex y as' =>
      rw [eg] at p1
      intro cls d Hf' H' s' g' xr
      have pg := g'.pg s'.ex
      exact p1 cls d Hf' H' (s1.grow pg) pg.gr Kp.refl xr
    | ok rv as' =>
      rw [eg] at p1
      cases rv with
      | l ys => exact p1.elim
      | d y =>
        intro v Hf' H' s' g' rd
        have pg := g'.pg s'.ex
        exact p1 Hf' H' (s1.grow pg) pg.gr Kp.refl v rd
/-- .. a new list -/
def kCallL (g : Rho → R RV) (o : Option (List Pd)) (ρ1 : Rho) : R (List Pd) := match o with
  | some xs => match g (xs.map Sl.d) with
    | .ok (.l x) _ => .ok x ρ1
    | .ex e _ => .ex e ρ1
    | _ => .bad
  | none => .bad
def fCallL (n : Nat) (g : Rho → R RV) (fa : Rho → R (List AV)) : Rho → R (List Pd) := fun ρ => (fa ρ).bind fun as ρ1 => kCallL g (argsD n as) ρ1
theorem l_call {n : Nat} {g : Rho → R RV} {t : TA} {fa : Rho → R (List AV)} (ha : DA Z W t fa) : DL Z W (tCallS (spF Z n g) (WE W) t) (fCallL n g fa) := by
  intro Hf H O σ ρ s Q p
  refine ha.bind s p fun as ρ1 vs Hf1 H1 s1 g1 k1 rs p1 => ?_
  unfold kCallL at p1
  cases ed : argsD n as with
  | none => rw [ed] at p1; exact p1.elim
  | some xs =>
    rw [ed] at p1
    simp only at p1
    obtain ⟨r, hl⟩ := argsD_ok rs ed
    refine ⟨hl, Hf1, fun _ => False, xs.map Sl.d, r.args s1.ex, ioArgs, ?_⟩
    cases eg : g (xs.map Sl.d) with
    | bad => rw [eg] at p1; exact p1.elim
    | ex y as' =>
      rw [eg] at p1
      intro cls d Hf' H' s' g' xr
      have pg := g'.pg s'.ex
      exact p1 cls d Hf' H' (s1.grow pg) pg.gr Kp.refl xr
    | ok rv as' =>
      rw [eg] at p1
      cases rv with
      | d y => exact p1.elim
      | l ys =>
        intro v Hf' H' s' g' rd
        have pg := g'.pg s'.ex
        obtain ⟨l, us, rfl, h0, h1, h2, h3⟩ := rd
        exact p1 Hf' H' (s1.grow pg) pg.gr Kp.refl _ ⟨l, us, rfl, g1.gone h0, h1, h2, h3⟩
/-- the slots of a call that changes the list of the slot i: that list, then data -/
theorem SR.argsP {K : PySem.W.Frag} {Hf H : Hp} {O : Addr → Prop} {σ : L2.St} {ρ : Rho} (s : SR K Hf H O σ ρ) {i : Nat} {b : Bool} {ps : List Pd} (e : ρ[i]? = some (.own b ps)) {l : Addr} (hl : σ[i]? = some (some (.ref l))) {vs : List V} {xs : List Pd} (r : RDs K Hf vs xs) :
    SR K Hf H (fun a => a = l) ((V.ref l :: vs).map some) (.own true ps :: xs.map Sl.d) := by
  obtain ⟨l', us, h1, h2, h3, h4⟩ := s.own i b ps e
  rw [hl] at h1
  cases h1
  have ra := r.args s.ex
  refine ⟨s.ex, fun a h => ?_, by simp [r.length], fun j x h => ?_, fun j c x h => ?_, fun j k c d x y m a1 a2 _ _ => ?_, fun j e' h => ?_⟩
  · subst h
    exact ⟨⟨_, h3⟩, (s.otr _ h2).2⟩
  · cases j with
    | zero => cases h
    | succ j => exact ra.slot j x h
  · cases j with
    | zero => cases h; exact ⟨l, us, rfl, rfl, h3, h4⟩
    | succ j => obtain ⟨_, _, _, z, _⟩ := ra.own j c x h; exact z.elim
  · cases j with
    | succ j => obtain ⟨_, _, _, z, _⟩ := ra.own j c x a1; exact z.elim
    | zero =>
      cases k with
      | zero => rfl
      | succ k => obtain ⟨_, _, _, z, _⟩ := ra.own k d y a2; exact z.elim
  · cases j with
    | zero => cases h
    | succ j => exact ra.exc j e' h
theorem ioArgsP {ps xs : List Pd} {l : Addr} {vs : List V} : IoOk (fun a => a = l) ((V.ref l :: vs).map some) (.own true ps :: xs.map Sl.d) where
  only := fun i b x h => by
    cases i with
    | zero => cases h; rfl
    | succ i =>
      have h : (xs.map Sl.d)[i]? = some (.own b x) := h
      rw [List.getElem?_map] at h
      cases q : xs[i]? <;> rw [q] at h <;> cases h
  cov := fun a h => ⟨0, ps, rfl, by rw [h]; rfl⟩
/-- the caller's state behind such a call -/
theorem SR.backP {K : PySem.W.Frag} {Hf H Hf' H' : Hp} {O : Addr → Prop} {σ : L2.St} {ρ : Rho} (s : SR K Hf H O σ ρ) {i : Nat} {b : Bool} {ps : List Pd} (e : ρ[i]? = some (.own b ps)) {l : Addr} (hl : σ[i]? = some (some (.ref l))) {vs : List V} {c : Bool} {ps' : List Pd} {as' : Rho}
    (s' : SR K Hf' H' (fun a => a = l) ((V.ref l :: vs).map some) (.own c ps' :: as')) (g : Gr (fun a => a = l) Hf H Hf' H') : SR K Hf' H' O σ (ρ.set i (.own b ps')) ∧ Gr O Hf H Hf' H' := by
  obtain ⟨l', us, h1, h2, h3, h4⟩ := s.own i b ps e
  rw [hl] at h1
  cases h1
  have hi := (List.getElem?_eq_some_iff.mp e).1
  obtain ⟨l1, us1, q1, q2, q3, q4⟩ := s'.own 0 c ps' rfl
  subst q2
  have fl := (s'.otr l1 rfl).2
  have other : ∀ a, a ≠ l1 → O a → Hf' a = none := fun a ha hO => by
    cases e1 : Hf' a with
    | none => rfl
    | some u =>
      obtain ⟨⟨o, t1⟩, t2⟩ := s.otr a hO
      rcases g.nw a u e1 with z | z | z
      · rw [t2] at z; cases z
      · rw [t1] at z; cases z
      · exact (ha z).elim
  refine ⟨⟨s'.ex, fun a h => ?_, by simp [s.len], fun j x h => ?_, fun j d x h => ?_, fun j k d d' x y m a1 a2 a3 a4 => ?_, fun j e' h => ?_⟩, ⟨g.ex, fun a o h n => g.fm a o h fun z => n (by rw [z]; exact h2), g.tr, fun a o h => ?_⟩⟩
  · obtain ⟨⟨o, t1⟩, t2⟩ := s.otr a h
    refine ⟨g.tr a o t1, ?_⟩
    by_cases z : a = l1
    · rw [z]; exact fl
    · exact other a z h
  · by_cases z : i = j
    · subst z
      rw [List.getElem?_set_self hi] at h
      cases h
    · rw [List.getElem?_set_ne z] at h
      obtain ⟨v, t1, t2⟩ := s.slot j x h
      exact ⟨v, t1, t2.mono g.ex⟩
  · by_cases z : i = j
    · subst z
      rw [List.getElem?_set_self hi] at h
      cases h
      exact ⟨l1, us1, hl, h2, q3, q4⟩
    · rw [List.getElem?_set_ne z] at h
      obtain ⟨k, ws, b1, b2, b3, b4⟩ := s.own j d x h
      have z2 : k ≠ l1 := fun z2 => z (s.dis i j b d ps x l1 e h hl (by rw [← z2]; exact b1))
      exact ⟨k, ws, b1, b2, g.fm _ _ b3 z2, b4.mono g.ex⟩
  · have back : ∀ {j : Nat} {d x}, (ρ.set i (.own b ps'))[j]? = some (.own d x) → ∃ d x, ρ[j]? = some (.own d x) := fun {j d x} q => by
      by_cases z : i = j
      · subst z; exact ⟨b, ps, e⟩
      · rw [List.getElem?_set_ne z] at q; exact ⟨d, x, q⟩
    obtain ⟨c1, x1, a1⟩ := back a1
    obtain ⟨c2, x2, a2⟩ := back a2
    exact s.dis j k c1 c2 x1 x2 m a1 a2 a3 a4
  · by_cases z : i = j
    · subst z
      rw [List.getElem?_set_self hi] at h
      cases h
    · rw [List.getElem?_set_ne z] at h
      obtain ⟨v, t1, t2⟩ := s.exc j e' h
      exact ⟨v, t1, t2.mono g.ex⟩
  · rcases g.nw a o h with z | z | z
    · exact .inl z
    · exact .inr (.inl z)
    · exact .inr (.inr (by rw [z]; exact h2))
/-- f(x, e, ..): the list of the slot i is changed, the other arguments are data -/
def kCallP (i : Nat) (g : Rho → R RV) (o : Option (List Pd)) (ρ1 : Rho) : R AV := match o, ρ1[i]? with
  | some xs, some (.own b ps) => match g (.own true ps :: xs.map Sl.d) with
    | .ok (.d x) (.own _ ps' :: _) => .ok (.d x) (ρ1.set i (.own b ps'))
    | .ex e (.own _ ps' :: _) => .ex e (ρ1.set i (.own b ps'))
    | _ => .bad
  | _, _ => .bad
def fCallP (n i : Nat) (g : Rho → R RV) (fa : Rho → R (List AV)) : Rho → R AV := fun ρ => match ρ[i]? with
  | some (.own _ _) => (fa ρ).bind fun as ρ1 => kCallP i g (argsD n as) ρ1
  | _ => .bad
theorem d_callP {n i : Nat} {g : Rho → R RV} {t : TA} {fa : Rho → R (List AV)} (ha : DA Z W t fa) : DE Z W (tCallS (spF Z (n + 1) g) (WE W) (tCons (tVar i) t)) (fCallP n i g fa) := by
  intro Hf H O σ ρ s Q p
  unfold fCallP at p
  cases e0 : ρ[i]? with
  | none => rw [e0] at p; exact p.elim
  | some z0 =>
    rw [e0] at p
    cases z0 with
    | no => exact p.elim
    | x _ => exact p.elim
    | d y => exact p.elim
    | own b0 ps0 =>
      simp only at p
      obtain ⟨l, vs0, h1, h2, h3, h4⟩ := s.own i b0 ps0 e0
      refine ⟨.ref l, h1, ?_⟩
      refine ha.bind s p fun as ρ1 vs Hf1 H1 s1 g1 k1 rs p1 => ?_
      unfold kCallP at p1
      cases ed : argsD n as with
      | none => rw [ed] at p1; exact p1.elim
      | some xs =>
        cases e1 : ρ1[i]? with
        | none => rw [ed, e1] at p1; exact p1.elim
        | some z1 =>
          rw [ed, e1] at p1
          cases z1 with
          | no => exact p1.elim
          | x _ => exact p1.elim
          | d y => exact p1.elim
          | own b ps =>
            simp only at p1
            obtain ⟨r, hl⟩ := argsD_ok rs ed
            refine ⟨congrArg Nat.succ hl, Hf1, fun a => a = l, .own true ps :: xs.map Sl.d, s1.argsP e1 h1 r, ioArgsP, ?_⟩
            cases eg : g (.own true ps :: xs.map Sl.d) with
            | bad => rw [eg] at p1; exact p1.elim
            | ex y as' =>
              rw [eg] at p1
              match as', p1 with
              | [], p1 => exact p1.elim
              | .no :: _, p1 => exact p1.elim
              | .d _ :: _, p1 => exact p1.elim
              | .own c ps' :: as'', p1 =>
                intro cls d Hf' H' s' g' xr
                obtain ⟨sb, gb⟩ := s1.backP e1 h1 s' g'
                exact p1 cls d Hf' H' sb gb (kp_chg e1) xr
            | ok rv as' =>
              rw [eg] at p1
              cases rv with
              | l ys => exact p1.elim
              | d y =>
                match as', p1 with
                | [], p1 => exact p1.elim
                | .no :: _, p1 => exact p1.elim
                | .d _ :: _, p1 => exact p1.elim
                | .own c ps' :: as'', p1 =>
                  intro v Hf' H' s' g' rd
                  obtain ⟨sb, gb⟩ := s1.backP e1 h1 s' g'
                  exact p1 Hf' H' sb gb (kp_chg e1) v rd
/-- .. a new list -/
def kCallPL (i : Nat) (g : Rho → R RV) (o : Option (List Pd)) (ρ1 : Rho) : R (List Pd) := match o, ρ1[i]? with
  | some xs, some (.own b ps) => match g (.own true ps :: xs.map Sl.d) with
    | .ok (.l x) (.own _ ps' :: _) => .ok x (ρ1.set i (.own b ps'))
    | .ex e (.own _ ps' :: _) => .ex e (ρ1.set i (.own b ps'))
    | _ => .bad
  | _, _ => .bad
def fCallPL (n i : Nat) (g : Rho → R RV) (fa : Rho → R (List AV)) : Rho → R (List Pd) := fun ρ => match ρ[i]? with
  | some (.own _ _) => (fa ρ).bind fun as ρ1 => kCallPL i g (argsD n as) ρ1
  | _ => .bad
theorem l_callP {n i : Nat} {g : Rho → R RV} {t : TA} {fa : Rho → R (List AV)} (ha : DA Z W t fa) : DL Z W (tCallS (spF Z (n + 1) g) (WE W) (tCons (tVar i) t)) (fCallPL n i g fa) := by
  intro Hf H O σ ρ s Q p
  unfold fCallPL at p
  cases e0 : ρ[i]? with
  | none => rw [e0] at p; exact p.elim
  | some z0 =>
    rw [e0] at p
    cases z0 with
    | no => exact p.elim
    | x _ => exact p.elim
    | d y => exact p.elim
    | own b0 ps0 =>
      simp only at p
      obtain ⟨l, vs0, h1, h2, h3, h4⟩ := s.own i b0 ps0 e0
      refine ⟨.ref l, h1, ?_⟩
      refine ha.bind s p fun as ρ1 vs Hf1 H1 s1 g1 k1 rs p1 => ?_
      unfold kCallPL at p1
      cases ed : argsD n as with
      | none => rw [ed] at p1; exact p1.elim
      | some xs =>
        cases e1 : ρ1[i]? with
        | none => rw [ed, e1] at p1; exact p1.elim
        | some z1 =>
          rw [ed, e1] at p1
          cases z1 with
          | no => exact p1.elim
          | x _ => exact p1.elim
          | d y => exact p1.elim
          | own b ps =>
            simp only at p1
            obtain ⟨r, hl⟩ := argsD_ok rs ed
            refine ⟨congrArg Nat.succ hl, Hf1, fun a => a = l, .own true ps :: xs.map Sl.d, s1.argsP e1 h1 r, ioArgsP, ?_⟩
            cases eg : g (.own true ps :: xs.map Sl.d) with
            | bad => rw [eg] at p1; exact p1.elim
            | ex y as' =>
              rw [eg] at p1
              match as', p1 with
              | [], p1 => exact p1.elim
              | .no :: _, p1 => exact p1.elim
              | .d _ :: _, p1 => exact p1.elim
              | .own c ps' :: as'', p1 =>
                intro cls d Hf' H' s' g' xr
                obtain ⟨sb, gb⟩ := s1.backP e1 h1 s' g'
                exact p1 cls d Hf' H' sb gb (kp_chg e1) xr
            | ok rv as' =>
              rw [eg] at p1
              cases rv with
              | d y => exact p1.elim
              | l ys =>
                match as', p1 with
                | [], p1 => exact p1.elim
                | .no :: _, p1 => exact p1.elim
                | .d _ :: _, p1 => exact p1.elim
                | .own c ps' :: as'', p1 =>
                  intro v Hf' H' s' g' rd
                  obtain ⟨sb, gb⟩ := s1.backP e1 h1 s' g'
                  obtain ⟨m, us, rfl, m0, m1, m2, m3⟩ := rd
                  exact p1 Hf' H' sb gb (kp_chg e1) _ ⟨m, us, rfl, g1.gone m0, m1, m2, m3⟩
end
end Dt
namespace Dt
open PySem PySem.Spec L2 Evl
open PySem.AutoSeq1 (wpAny_loadPart')
/-! ### a dict is no text -/
theorem str_eq_dict (b : Str) (u : Tok) (l : Addr) (c : Value) (es : Array DictEntry) (ep : Nat) (dd : Option Addr) (sl : Array (Option Value)) :
    Meets (Builtin.«str.__eq__» ⟨[.str b u, .ref l], []⟩) (fun _ R s => s.heap.get? l = some { cls := c, dict := dd, data := .dict es ep, slots := sl } ∧ R (.ok (.ret .notImplemented)) s) :=
  .of_wp fun prog w A R s h => by obtain ⟨hp, g, d, tk, os⟩ := s; obtain ⟨hl, h⟩ := h; wp_walk using wpAny_loadPart' hl, wpAny_load hl; exact ⟨_, rfl, h⟩
def rEqDS : R2 := fun x y H Q => ∃ a kvs z, x = .ref a ∧ y = .str z ∧ H a = some (.dK kvs) ∧ Q (.bl false) H
theorem op_eqDS {X : Cx} (hu : X.A.units < cLine) : OpR X (compareOp .Eq) rEqDS := by
  intro pins s σ H x y v u Q I rx ry h
  obtain ⟨a, kvs, z, rfl, rfl, ea, q⟩ := h
  obtain rfl : v = Value.ref a := rx
  obtain ⟨t, rfl⟩ : ∃ t, u = Value.str z t := ry
  obtain ⟨_, ya, va, ra, da⟩ := (show ObjOk X.prog X.w H s.heap a (.dK kvs) from I.hok a _ ea)
  obtain ⟨⟨cls, dd, data, sl⟩, es, ep, ho, hx, hd, _⟩ := id da
  have hd' : data = .dict es ep := hd
  subst hd'
  refine SeqAt.rc_eq_decline_or (k := false) da.typeIs (typeIs_str s z t) (by decide) F.sub_str_dict F.slot_dict_eq F.slot_str_eq_refl
    (fun _ hq => wpAny_call_entry PySem.F.slot_dict_eq da.typeIs PySem.F.entry_dict_eq ?_ (PySem.F.args_dict_eq_2 _ _))
    (fun _ hq => call_meets F.slot_str_eq_refl (typeIs_str s z t) F.entry_str_eq (F.args_str_eq_2 _ _) (str_eq_dict z t a cls es ep dd sl) ⟨ho, hq⟩)
    (fun _ hq => wpAny_of_eq (rfl : isSame (.ref a) (.str z t) = pure false) hq) (.inr hu) (fin_bl I q rfl)
  show wpAny _ _ (Builtin.Dict.dictSlotArgs "__eq__" ⟨[.ref a, .str z t], []⟩ >>= _) _ _ s
  refine wpAny_bind ?_
  unfold Builtin.Dict.dictSlotArgs
  refine wpAny_bind (wpAny_notOrdered_dict da.typeIs ?_)
  show wpAny _ _ (pure (Value.ref a, Value.str z t)) _ _ s
  refine wpAny_pure ?_
  refine wpAny_bind (wpAny_isInstance (T := "str") (typeIs_str s z t) PySem.F.sub_str_dict ?_)
  simp only [Bool.not_false, if_true]
  refine wpAny_bind (wpAny_rule ?_)
  exact wpAny_pure ⟨_, rfl, hq⟩
end Dt
namespace Dt
open PySem PySem.Spec L2 Evl
/-! ### data that == may look at -/
def sh : Nat → Pd → Bool
  | _, .none => true
  | _, .bool _ => true
  | _, .int _ => true
  | _, .str x => PyData.strOk x
  | n + 1, .list xs => xs.all (sh n)
  | n + 1, .tuple xs => xs.all (sh n)
  | _, _ => false
theorem canLayAll_of {xs : List Pd} (h : ∀ x ∈ xs, PyData.canLay0 x = true) : PyData.canLayAll0 xs = true := by
  induction xs with
  | nil => rfl
  | cons x xs ih =>
    simp only [PyData.canLayAll0, Bool.and_eq_true]
    exact ⟨h x List.mem_cons_self, ih fun y hy => h y (List.mem_cons_of_mem _ hy)⟩
theorem depthAll_of {xs : List Pd} {n : Nat} (h : ∀ x ∈ xs, PyData.depth x ≤ n) : PyData.depthAll xs ≤ n := by
  induction xs with
  | nil => exact Nat.zero_le _
  | cons x xs ih =>
    simp only [PyData.depthAll]
    exact Nat.max_le.mpr ⟨h x List.mem_cons_self, ih fun y hy => h y (List.mem_cons_of_mem _ hy)⟩
theorem sh_ok : ∀ (n : Nat) (d : Pd), sh n d = true → PyData.canLay0 d = true ∧ PyData.depth d ≤ n
  | n, .none, _ => ⟨rfl, Nat.zero_le _⟩
  | n, .bool _, _ => ⟨rfl, Nat.zero_le _⟩
  | n, .int _, _ => ⟨rfl, Nat.zero_le _⟩
  | n, .str x, h => ⟨by cases n <;> exact h, Nat.zero_le _⟩
  | n + 1, .list xs, h => by
    have h : ∀ x ∈ xs, sh n x = true := List.all_eq_true.mp h
    refine ⟨canLayAll_of fun x hx => (sh_ok n x (h x hx)).1, ?_⟩
    have := depthAll_of fun x hx => (sh_ok n x (h x hx)).2
    show PyData.depthAll xs + 1 ≤ n + 1
    omega
  | n + 1, .tuple xs, h => by
    have h : ∀ x ∈ xs, sh n x = true := List.all_eq_true.mp h
    refine ⟨canLayAll_of fun x hx => (sh_ok n x (h x hx)).1, ?_⟩
    have := depthAll_of fun x hx => (sh_ok n x (h x hx)).2
    show PyData.depthAll xs + 1 ≤ n + 1
    omega
  | 0, .list _, h => by cases h
  | 0, .tuple _, h => by cases h
  | n, .dict _, h => by cases n <;> cases h
theorem sh_shaped {d : Pd} (h : sh 60 d = true) : SeqAt.shaped d = true := by
  obtain ⟨h1, h2⟩ := sh_ok 60 d h
  unfold SeqAt.shaped
  rw [h1, decide_eq_true (show d.depth ≤ 64 by omega)]
  rfl
mutual
theorem RD.dp {K : PySem.W.Frag} {H : Hp} : ∀ {v : V} {d : Pd}, RD K H v d → PyData.canLay0 d = true → Dp K H v d
  | _, _, .non, _ => .non
  | _, _, .bl b, _ => .bl b
  | _, _, .int i, _ => .int i
  | _, _, .str x, _ => .str x
  | _, _, .lst h hs, c => .lst h (RDs.dp hs c)
  | _, _, .tup h hs, c => .tup h (RDs.dp hs c)
  | _, _, .dct _ _, c => by cases c
theorem RDs.dp {K : PySem.W.Frag} {H : Hp} : ∀ {v : List V} {d : List Pd}, RDs K H v d → PyData.canLayAll0 d = true → DpAll K H v d
  | _, _, .nil, _ => .nil
  | _, _, .cons h hs, c => by
    simp only [PyData.canLayAll0, Bool.and_eq_true] at c
    exact .cons (RD.dp h c.1) (RDs.dp hs c.2)
end
theorem sh_dp {K : PySem.W.Frag} {Hf H : Hp} {v : V} {d : Pd} (e : Ex Hf H) (h : RX K Hf H v d) (c : sh 60 d = true) : Dp K H v d := (h.full e).dp (sh_ok 60 d c).1
section
variable {K : PySem.W.Frag}
/-! ### + -/
def addD : Pd → Pd → Option Pd
  | .int i, .int j => some (.int (i + j))
  | .str a, .str b => if a.length + b.length ≤ sizeLine then some (.str (a ++ b)) else none
  | .tuple a, .tuple b => if a.length + b.length ≤ sizeLine then some (.tuple (a ++ b)) else none
  | .list a, .list b => if a.length + b.length ≤ sizeLine then some (.list (a ++ b)) else none
  | _, _ => none
/-- two lists to be read -/
def rCatS (K : PySem.W.Frag) : R2 := fun x y H Q => ∃ l b xs zs, x = .ref l ∧ y = .ref b ∧ SqL K H l xs ∧ SqL K H b zs ∧ xs.length + zs.length ≤ sizeLine ∧ ∀ p, H p = none → Q (.ref p) (upd H p (.lst (xs ++ zs)))
theorem op_catS {X : Cx} : OpR X (binaryOp .Add) (rCatS X.K) := by
  intro pins s σ H x y v u Q I rx ry h
  obtain ⟨l, b, xs, zs, rfl, rfl, hl, hb, hz, q⟩ := h
  cases rx
  cases ry
  obtain ⟨its, r, ⟨o1, n, e, c1, _, d1⟩, _⟩ := I.list hl
  obtain ⟨its2, r2, ⟨o2, n2, e2, c2, _, d2⟩, _⟩ := I.list hb
  have l1 := r.length
  have l2 := r2.length
  obtain ⟨ca, da, ta, sa⟩ := o1
  obtain ⟨cb, db, tb, sb⟩ := o2
  simp only at c1 d1 c2 d2
  subst c1 d1 c2 d2
  refine concat_meets ⟨_, e, rfl⟩ ⟨_, e2, rfl⟩ noFill_list_add seq_list_add PySem.F.slot_list_add PySem.F.entry_list_add (PySem.F.args_list_add_2 _ _) (PyProof.Rows.list_addW l b its.toArray its2.toArray n n2 da db sa sb (by simp only [List.size_toArray]; omega)) ⟨e, e2, ?_⟩
  rw [show its.toArray ++ its2.toArray = (its ++ its2).toArray by simp]
  exact ⟨.ref _, _, I.lnew (t' := s.toks) (r.append r2) (by simp only [List.length_append]; omega), rfl, q _ I.fresh⟩
abbrev rAddA (K : PySem.W.Frag) : R2 := fun x y H Q => rI0 (fun i j => .int (i + j)) x y H Q ∨ (∃ i j, x = .str i ∧ y = .str j ∧ i.length + j.length ≤ sizeLine ∧ Q (.str (i ++ j)) H) ∨ rCatA K x y H Q ∨ rCatS K x y H Q
theorem opAdd {X : Cx} : OpR X (binaryOp .Add) (rAddA X.K) := op_add.or (op_add_str.or (op_catA.or op_catS))
theorem ro_add : ROp K (rAddA K) addD := by
  intro Hf H x y dx dy z e hx hy h Q q
  unfold addD at h
  split at h
  · cases h
    exact .inl ⟨_, _, hx.int, hy.int, q _ Hf H (Pg.refl e) (.int _)⟩
  · split at h
    · cases h
      exact .inr (.inl ⟨_, _, hx.str, hy.str, by assumption, q _ Hf H (Pg.refl e) (.str _)⟩)
    · cases h
  · rename_i a b
    split at h
    · rename_i hz
      cases h
      obtain ⟨l, vs, rfl, t1, t2, r1⟩ := hx.tuple e
      obtain ⟨m, us, rfl, w1, w2, r2⟩ := hy.tuple e
      refine .inr (.inr (.inl ⟨l, m, vs, us, rfl, rfl, t2, w2, by rw [r1.length, r2.length]; exact hz, fun z => ?_, fun z1 z2 => ?_, fun z1 z2 p np => ?_⟩))
      · subst z
        cases r1
        exact q _ Hf H (Pg.refl e) (.tup w1 r2)
      · subst z2
        cases r2
        exact q _ Hf H (Pg.refl e) (by rw [List.append_nil]; exact .tup t1 r1)
      · have g := Pg.new (o := .tup (vs ++ us)) e np
        exact q _ _ _ g (.tup (st_of upd_same) ((r1.append r2).mono g.ef))
    · cases h
  · rename_i a b
    split at h
    · rename_i hz
      cases h
      obtain ⟨l, vs, rfl, t2, r1⟩ := hx.list e
      obtain ⟨m, us, rfl, w2, r2⟩ := hy.list e
      refine .inr (.inr (.inr ⟨l, m, vs, us, rfl, rfl, t2, w2, by rw [r1.length, r2.length]; exact hz, fun p np => ?_⟩))
      have g := Pg.new (o := .lst (vs ++ us)) e np
      exact q _ _ _ g (.lst (sq_of upd_same) ((r1.append r2).mono g.ef))
    · cases h
  · cases h
/-! ### - * // % ** and comparisons of intsD -/
def intD (c : Int → Int → Bool) (f : Int → Int → Pd) : Pd → Pd → Option Pd
  | .int i, .int j => if c i j = true then some (f i j) else none
  | _, _ => none
theorem ro_int {C : Int → Int → Prop} {c : Int → Int → Bool} {g : Int → Int → V} {f : Int → Int → Pd} (hc : ∀ i j, c i j = true → C i j) (hf : ∀ K H i j, RD K H (g i j) (f i j)) : ROp K (rI C g) (intD c f) := by
  intro Hf H x y dx dy z e hx hy h Q q
  unfold intD at h
  split at h
  · split at h
    · rename_i hcc
      cases h
      exact ⟨_, _, hx.int, hy.int, hc _ _ hcc, q _ Hf H (Pg.refl e) (hf _ _ _ _)⟩
    · cases h
  · cases h
theorem ro_int0 {g : Int → Int → V} {f : Int → Int → Pd} (hf : ∀ K H i j, RD K H (g i j) (f i j)) : ROp K (rI0 g) (intD (fun _ _ => true) f) := by
  intro Hf H x y dx dy z e hx hy h Q q
  unfold intD at h
  split at h
  · split at h
    · rename_i hcc
      cases h
      exact ⟨_, _, hx.int, hy.int, q _ Hf H (Pg.refl e) (hf _ _ _ _)⟩
    · cases h
  · cases h
abbrev subD := intD (fun _ _ => true) fun i j => .int (i - j)
theorem ro_sub : ROp K (rI0 fun i j => .int (i - j)) subD := ro_int0 fun _ _ _ _ => .int _
abbrev bits := Builtin.Int.intBits
def mulOk (i j : Int) : Bool := decide (bits i ≤ 64) || decide (bits j ≤ 64) || decide (bits i + bits j ≤ 134217728)
theorem mulOk_ok {i j : Int} (h : mulOk i j = true) : IntMulOk i j := by
  unfold mulOk at h
  simp only [Bool.or_eq_true, decide_eq_true_eq] at h
  rcases h with (h | h) | h
  · exact .of_left h
  · exact .of_right h
  · exact CMulX.ok (show (bits i : Int) + (bits j : Int) ≤ 134217728 by omega)
theorem op_mulG {X : Cx} : OpR X (binaryOp .Mult) (rI IntMulOk fun i j => .int (i * j)) := opI fun _ _ _ _ _ _ _ hc q => PyProof.Rows.mul_int q hc
def mulD := intD mulOk fun i j => .int (i * j)
theorem ro_mul : ROp K (rI IntMulOk fun i j => .int (i * j)) mulD := ro_int (fun _ _ => mulOk_ok) fun _ _ _ _ => .int _
def modD := intD (fun _ j => decide (0 < j)) fun i j => .int (i % j)
theorem ro_mod : ROp K (rI (fun _ j => 0 < j) fun i j => .int (i % j)) modD := ro_int (fun _ _ h => of_decide_eq_true h) fun _ _ _ _ => .int _
def fdivD := intD (fun _ j => decide (0 < j ∧ j.natAbs.log2 < 9000)) fun i j => .int (i / j)
theorem ro_fdiv : ROp K (rI CDivW fun i j => .int (i / j)) fdivD := ro_int (fun i j h => (of_decide_eq_true h : 0 < j ∧ j.natAbs.log2 < 9000)) fun _ _ _ _ => .int _
def powD := intD (fun i j => decide (0 ≤ j ∧ j ≤ 1000000 ∧ i.natAbs < 2 ^ 64)) fun i j => .int (i ^ j.toNat)
theorem ro_pow : ROp K (rI CPow fun i j => .int (i ^ j.toNat)) powD := ro_int (fun i j h => (of_decide_eq_true h : 0 ≤ j ∧ j ≤ 1000000 ∧ i.natAbs < 2 ^ 64)) fun _ _ _ _ => .int _
def shlD := intD (fun i j => decide (0 ≤ j ∧ j ≤ 1000000 ∧ i.natAbs < 2 ^ 64)) fun i j => .int (i * 2 ^ j.toNat)
theorem ro_shl : ROp K (rI CPow fun i j => .int (i * 2 ^ j.toNat)) shlD := ro_int (fun i j h => (of_decide_eq_true h : 0 ≤ j ∧ j ≤ 1000000 ∧ i.natAbs < 2 ^ 64)) fun _ _ _ _ => .int _
def leD := intD (fun _ _ => true) fun i j => .bool (decide (i ≤ j))
theorem ro_le : ROp K (rI0 fun i j => .bl (decide (i ≤ j))) leD := ro_int0 fun _ _ _ _ => .bl _
def gtD := intD (fun _ _ => true) fun i j => .bool (decide (j < i))
theorem ro_gt : ROp K (rI0 fun i j => .bl (decide (j < i))) gtD := ro_int0 fun _ _ _ _ => .bl _
def geD := intD (fun _ _ => true) fun i j => .bool (decide (j ≤ i))
theorem ro_ge : ROp K (rI0 fun i j => .bl (decide (j ≤ i))) geD := ro_int0 fun _ _ _ _ => .bl _
/-- < of intsD, of texts -/
def ltD : Pd → Pd → Option Pd
  | .int i, .int j => some (.bool (decide (i < j)))
  | .str a, .str b => some (.bool (decide (a.cps.toList < b.cps.toList)))
  | _, _ => none
abbrev rLtA : R2 := fun x y H Q => rI0 (fun i j => .bl (decide (i < j))) x y H Q ∨ ∃ i j, x = .str i ∧ y = .str j ∧ Q (.bl (decide (i.cps.toList < j.cps.toList))) H
theorem opLt {X : Cx} : OpR X (compareOp .Lt) rLtA := op_lt.or op_lt_str
theorem ro_lt : ROp K rLtA ltD := by
  intro Hf H x y dx dy z e hx hy h Q q
  unfold ltD at h
  split at h
  · cases h
    exact .inl ⟨_, _, hx.int, hy.int, q _ Hf H (Pg.refl e) (.bl _)⟩
  · cases h
    exact .inr ⟨_, _, hx.str, hy.str, q _ Hf H (Pg.refl e) (.bl _)⟩
  · cases h
/-! ### == and != -/
def eqB : Pd → Pd → Option Bool
  | .int i, .int j => some (decide (i = j))
  | .str i, .str j => some (decide (i = j))
  | .bool i, .bool j => some (decide (i = j))
  | .none, .none => some true
  | .str _, .int _ => some false
  | .int _, .str _ => some false
  | .none, .str _ => some false
  | .str _, .none => some false
  | .none, .int _ => some false
  | .int _, .none => some false
  | d, e => if sh 60 d = true ∧ sh 60 e = true then some (PyData.eqv d e) else none
def eqD : Pd → Pd → Option Pd
  | .dict _, .str _ => some (.bool false)
  | d, e => (eqB d e).map .bool
def neD (d e : Pd) : Option Pd := (eqB d e).map fun b => .bool (!b)
abbrev rEqA (K : PySem.W.Frag) : R2 := fun x y H Q => rEq x y H Q ∨ rEqD K x y H Q ∨ rEqDS x y H Q
abbrev rNeA (K : PySem.W.Frag) : R2 := fun x y H Q => rNe x y H Q ∨ rNeD K x y H Q
theorem opEq {X : Cx} (hu : X.A.units + 64 < cLine) : OpR X (compareOp .Eq) (rEqA X.K) := op_eq.or ((op_eqD hu).or (op_eqDS (Nat.lt_of_le_of_lt (Nat.le_add_right ..) hu)))
theorem opNe {X : Cx} (hu : X.A.units + 64 < cLine) : OpR X (compareOp .NotEq) (rNeA X.K) := op_ne.or (op_neD hu)
theorem eqB_ok {Hf H : Hp} {x y : V} {dx dy : Pd} {b : Bool} (e : Ex Hf H) (hx : RX K Hf H x dx) (hy : RX K Hf H y dy) (h : eqB dx dy = some b) :
    (scal x y = true ∧ decide (x = y) = b) ∨ (Dp K H x dx ∧ Dp K H y dy ∧ SeqAt.shaped dx = true ∧ SeqAt.shaped dy = true ∧ PyData.eqv dx dy = b) := by
  unfold eqB at h
  split at h
  · cases h; obtain rfl := hx.int; obtain rfl := hy.int; exact .inl ⟨rfl, by simp⟩
  · cases h; obtain rfl := hx.str; obtain rfl := hy.str; exact .inl ⟨rfl, by simp⟩
  · cases h; obtain rfl := hx.bool; obtain rfl := hy.bool; exact .inl ⟨rfl, by simp⟩
  · cases h; obtain rfl := hx.non; obtain rfl := hy.non; exact .inl ⟨rfl, by simp⟩
  · cases h; obtain rfl := hx.str; obtain rfl := hy.int; exact .inl ⟨rfl, by simp⟩
  · cases h; obtain rfl := hx.int; obtain rfl := hy.str; exact .inl ⟨rfl, by simp⟩
  · cases h; obtain rfl := hx.non; obtain rfl := hy.str; exact .inl ⟨rfl, by simp⟩
  · cases h; obtain rfl := hx.str; obtain rfl := hy.non; exact .inl ⟨rfl, by simp⟩
  · cases h; obtain rfl := hx.non; obtain rfl := hy.int; exact .inl ⟨rfl, by simp⟩
  · cases h; obtain rfl := hx.int; obtain rfl := hy.non; exact .inl ⟨rfl, by simp⟩
  · split at h
    · rename_i hs
      cases h
      exact .inr ⟨sh_dp e hx hs.1, sh_dp e hy hs.2, sh_shaped hs.1, sh_shaped hs.2, rfl⟩
    · cases h
theorem ro_eq : ROp K (rEqA K) eqD := by
  intro Hf H x y dx dy z e hx hy h Q q
  unfold eqD at h
  split at h
  · cases h
    obtain rfl := hy.str
    rcases hx with hx | ⟨_, _, _, _, q', _⟩
    · cases hx with
      | dct hh _ => exact .inr (.inr ⟨_, _, _, rfl, rfl, e _ _ hh, q _ Hf H (Pg.refl e) (.bl _)⟩)
    · cases q'
  · cases eb : eqB dx dy with
    | none => rw [eb] at h; cases h
    | some b =>
      rw [eb] at h
      cases h
      have k := q (.bl b) Hf H (Pg.refl e) (.bl b)
      rcases eqB_ok e hx hy eb with ⟨h1, h2⟩ | ⟨h1, h2, h3, h4, h5⟩
      · exact .inl ⟨h1, by rw [h2]; exact k⟩
      · exact .inr (.inl ⟨_, _, h1, h2, h3, h4, by rw [h5]; exact k⟩)
theorem ro_ne : ROp K (rNeA K) neD := by
  intro Hf H x y dx dy z e hx hy h Q q
  unfold neD at h
  cases eb : eqB dx dy with
  | none => rw [eb] at h; cases h
  | some b =>
    rw [eb] at h
    cases h
    have k := q (.bl (!b)) Hf H (Pg.refl e) (.bl (!b))
    rcases eqB_ok e hx hy eb with ⟨h1, h2⟩ | ⟨h1, h2, h3, h4, h5⟩
    · exact .inl ⟨h1, by rw [h2]; exact k⟩
    · exact .inr ⟨_, _, h1, h2, h3, h4, by rw [h5]; exact k⟩
/-! ### in -/
/-- a text in a text -/
def inStr (a z : Str) : Bool := match a.cps.toList with
  | [c] => decide (c ∈ z.cps.toList)
  | _ => !(Builtin.Str.occurrences z a 0 z.length 1).isEmpty
def flatD : Pd → Bool
  | .none => true
  | .bool _ => true
  | .int _ => true
  | .str _ => true
  | _ => false
theorem RD.flat {H H' : Hp} {v : V} {d : Pd} (h : RD K H v d) (f : flatD d = true) : RD K H' v d := by
  cases h with
  | non => exact .non
  | bl b => exact .bl b
  | int i => exact .int i
  | str x => exact .str x
  | lst _ _ => cases f
  | tup _ _ => cases f
  | dct _ _ => cases f
theorem RX.flat {Hf H : Hp} {v : V} {d : Pd} (h : RX K Hf H v d) (f : flatD d = true) : RD K Hf v d := by
  rcases h with h | ⟨_, _, _, _, rfl, _⟩
  · exact h
  · cases f
theorem RD.flatV {H : Hp} {v : V} {d : Pd} (h : RD K H v d) (f : flatD d = true) : flatV v = true := by
  cases h with
  | non => rfl
  | bl b => rfl
  | int i => rfl
  | str x => rfl
  | lst _ _ => cases f
  | tup _ _ => cases f
  | dct _ _ => cases f
theorem RD.eqV {H H' : Hp} {v u : V} {d e : Pd} (h : RD K H v d) (g : RD K H' u e) (f : flatD d = true) (f' : flatD e = true) : L2.eqV v u = PyData.eqv d e := by
  cases h with
  | lst _ _ => cases f
  | tup _ _ => cases f
  | dct _ _ => cases f
  | non => cases g with
    | lst _ _ => cases f'
    | tup _ _ => cases f'
    | dct _ _ => cases f'
    | _ => simp [L2.eqV, PyData.eqv]
  | bl b => cases g with
    | lst _ _ => cases f'
    | tup _ _ => cases f'
    | dct _ _ => cases f'
    | _ => simp [L2.eqV, PyData.eqv]
  | int i => cases g with
    | lst _ _ => cases f'
    | tup _ _ => cases f'
    | dct _ _ => cases f'
    | _ => simp [L2.eqV, PyData.eqv]
  | str z => cases g with
    | lst _ _ => cases f'
    | tup _ _ => cases f'
    | dct _ _ => cases f'
    | _ => simp [L2.eqV, PyData.eqv]
theorem RDs.all_flat {H : Hp} : ∀ {vs : List V} {ds : List Pd}, RDs K H vs ds → ds.all flatD = true → vs.all flatV = true
  | _, _, .nil, _ => rfl
  | _, _, .cons h hs, f => by
    simp only [List.all_cons, Bool.and_eq_true] at f ⊢
    exact ⟨h.flatV f.1, RDs.all_flat hs f.2⟩
theorem RDs.inV {H H' : Hp} {v : V} {d : Pd} (h : RD K H' v d) (fd : flatD d = true) : ∀ {vs : List V} {ds : List Pd}, RDs K H vs ds → ds.all flatD = true → L2.inV v vs = ds.any fun y => PyData.eqv y d
  | _, _, .nil, _ => rfl
  | _, _, .cons g gs, f => by
    simp only [List.all_cons, Bool.and_eq_true] at f
    have ih := RDs.inV h fd gs f.2
    unfold L2.inV at ih ⊢
    rw [List.any_cons, List.any_cons, ih, g.eqV h f.1 fd]
/-- x in y -/
def inB : Pd → Pd → Option Bool
  | .str a, .str z => some (inStr a z)
  | d, .list xs => if flatD d = true ∧ xs.all flatD = true then some (xs.any fun y => PyData.eqv y d) else if sh 60 d = true ∧ sh 60 (.list xs) = true then some (xs.any fun y => PyData.eqv y d) else none
  | d, .tuple xs => if flatD d = true ∧ xs.all flatD = true then some (xs.any fun y => PyData.eqv y d) else if sh 60 d = true ∧ sh 60 (.tuple xs) = true then some (xs.any fun y => PyData.eqv y d) else none
  | _, _ => none
def inD (d e : Pd) : Option Pd := (inB d e).map .bool
def notInD (d e : Pd) : Option Pd := (inB d e).map fun b => .bool (!b)
def rInTx (n : Bool) : R2 := fun x y H Q => (∃ (c : Nat) (z : Str), x = .str ⟨#[c]⟩ ∧ y = .str z ∧ Q (.bl (if n then !decide (c ∈ z.cps.toList) else decide (c ∈ z.cps.toList))) H) ∨
  ∃ i j, x = .str i ∧ y = .str j ∧ Q (.bl (if n then !(!(Builtin.Str.occurrences j i 0 j.length 1).isEmpty) else !(Builtin.Str.occurrences j i 0 j.length 1).isEmpty)) H
theorem op_inTx {X : Cx} : OpR X (compareOp .In) (rInTx false) := op_in_sign.or op_in_str
theorem op_notInTx {X : Cx} : OpR X (compareOp .NotIn) (rInTx true) := op_notIn_sign.or op_notin_str
/-- in a tuple, by data -/
def rInDT (K : PySem.W.Frag) (n : Bool) : R2 := fun x y H Q => ∃ d ds, Dp K H x d ∧ Dp K H y (.tuple ds) ∧ SeqAt.shaped d = true ∧ SeqAt.shaped (.tuple ds) = true ∧ Q (.bl (if n then !ds.any (fun z => PyData.eqv z d) else ds.any fun z => PyData.eqv z d)) H
theorem room_t {d : Pd} {ds : List Pd} {A : Around} (h : SeqAt.shaped d = true) (hu : A.units + 65 < cLine) : A.units + 1 + min (PyData.depthAll ds) d.depth < cLine := by
  have h1 := SeqAt.depth_of_shaped h
  have h2 : min (PyData.depthAll ds) d.depth ≤ d.depth := Nat.min_le_right _ _
  omega
theorem op_inDT {X : Cx} (hu : X.A.units + 65 < cLine) : OpR X (compareOp .In) (rInDT X.K false) := by
  intro pins s σ H x y v u Q I rx ry h
  obtain ⟨d, ds, hd, he, sd, se, q⟩ := h
  obtain ⟨_, r1⟩ := Dp.reads I d x v hd rx
  obtain ⟨_, r2⟩ := Dp.reads I (.tuple ds) y u he ry
  exact SeqAt.in_tuple_reads r2 r1 (SeqAt.canLay_of_shaped se) (SeqAt.canLay_of_shaped sd) (room_t sd hu) ⟨.bl _, H, I, rfl, q⟩
theorem op_notInDT {X : Cx} (hu : X.A.units + 65 < cLine) : OpR X (compareOp .NotIn) (rInDT X.K true) := by
  intro pins s σ H x y v u Q I rx ry h
  obtain ⟨d, ds, hd, he, sd, se, q⟩ := h
  obtain ⟨_, r1⟩ := Dp.reads I d x v hd rx
  obtain ⟨_, r2⟩ := Dp.reads I (.tuple ds) y u he ry
  exact SeqAt.notIn_tuple_reads r2 r1 (SeqAt.canLay_of_shaped se) (SeqAt.canLay_of_shaped sd) (room_t sd hu) ⟨.bl _, H, I, rfl, q⟩
abbrev rInA (K : PySem.W.Frag) : R2 := fun x y H Q => rInTx false x y H Q ∨ rIn K false x y H Q ∨ rInD K x y H Q ∨ rInDT K false x y H Q
abbrev rNotInA (K : PySem.W.Frag) : R2 := fun x y H Q => rInTx true x y H Q ∨ rIn K true x y H Q ∨ rNotInD K x y H Q ∨ rInDT K true x y H Q
theorem opIn {X : Cx} (hu : X.A.units + 65 < cLine) : OpR X (compareOp .In) (rInA X.K) := op_inTx.or (op_in_seq.or ((op_inD hu).or (op_inDT hu)))
theorem opNotIn {X : Cx} (hu : X.A.units + 65 < cLine) : OpR X (compareOp .NotIn) (rNotInA X.K) := op_notInTx.or (op_notIn_seq.or ((op_notInD hu).or (op_notInDT hu)))
theorem inStr_ok {n : Bool} {a z : Str} {H : Hp} {Q : VK} (q : Q (.bl (if n then !inStr a z else inStr a z)) H) : rInTx n (.str a) (.str z) H Q := by
  unfold inStr at q
  cases e : a.cps.toList with
  | nil => rw [e] at q; exact .inr ⟨a, z, rfl, rfl, q⟩
  | cons c r =>
    cases r with
    | cons c2 r => rw [e] at q; exact .inr ⟨a, z, rfl, rfl, q⟩
    | nil =>
      rw [e] at q
      have ea : a = ⟨#[c]⟩ := by
        obtain ⟨cps⟩ := a
        have : cps = #[c] := by
          apply Array.ext'
          exact e
        rw [this]
      exact .inl ⟨c, z, by rw [ea], rfl, q⟩
theorem inB_ok {Hf H : Hp} {x y : V} {dx dy : Pd} {b : Bool} (e : Ex Hf H) (hx : RX K Hf H x dx) (hy : RX K Hf H y dy) (h : inB dx dy = some b) {Q : VK} (n : Bool) (q : Q (.bl (if n then !b else b)) H) :
    rInTx n x y H Q ∨ rIn K n x y H Q ∨ (∃ ds, dy = .list ds ∧ Dp K H x dx ∧ Dp K H y (.list ds) ∧ SeqAt.shaped dx = true ∧ SeqAt.shaped (.list ds) = true ∧ (ds.any fun z => PyData.eqv z dx) = b) ∨ rInDT K n x y H Q := by
  unfold inB at h
  split at h
  · cases h; obtain rfl := hx.str; obtain rfl := hy.str; exact .inl (inStr_ok q)
  · rename_i xs _
    split at h
    · rename_i hf
      cases h
      obtain ⟨l, vs, rfl, t, r⟩ := hy.list e
      have rx := hx.flat hf.1
      refine .inr (.inl ⟨l, vs, rfl, .inl t, rx.flatV hf.1, r.all_flat hf.2, ?_⟩)
      rw [RDs.inV rx hf.1 r hf.2]
      exact q
    · split at h
      · rename_i hs
        cases h
        exact .inr (.inr (.inl ⟨_, rfl, sh_dp e hx hs.1, sh_dp e hy hs.2, sh_shaped hs.1, sh_shaped hs.2, rfl⟩))
      · cases h
  · rename_i xs _
    split at h
    · rename_i hf
      cases h
      obtain ⟨l, vs, rfl, _, t, r⟩ := hy.tuple e
      have rx := hx.flat hf.1
      refine .inr (.inl ⟨l, vs, rfl, .inr t, rx.flatV hf.1, r.all_flat hf.2, ?_⟩)
      rw [RDs.inV rx hf.1 r hf.2]
      exact q
    · split at h
      · rename_i hs
        cases h
        exact .inr (.inr (.inr ⟨_, _, sh_dp e hx hs.1, sh_dp e hy hs.2, sh_shaped hs.1, sh_shaped hs.2, q⟩))
      · cases h
  · cases h
theorem ro_in : ROp K (rInA K) inD := by
  intro Hf H x y dx dy z e hx hy h Q q
  unfold inD at h
  cases eb : inB dx dy with
  | none => rw [eb] at h; cases h
  | some b =>
    rw [eb] at h
    cases h
    have k := q (.bl b) Hf H (Pg.refl e) (.bl b)
    rcases inB_ok e hx hy eb false k with h1 | h1 | ⟨ds, rfl, h1, h2, h3, h4, h5⟩ | h1
    · exact .inl h1
    · exact .inr (.inl h1)
    · exact .inr (.inr (.inl ⟨_, _, h1, h2, h3, h4, by rw [h5]; exact k⟩))
    · exact .inr (.inr (.inr h1))
theorem ro_notIn : ROp K (rNotInA K) notInD := by
  intro Hf H x y dx dy z e hx hy h Q q
  unfold notInD at h
  cases eb : inB dx dy with
  | none => rw [eb] at h; cases h
  | some b =>
    rw [eb] at h
    cases h
    have k := q (.bl (!b)) Hf H (Pg.refl e) (.bl (!b))
    rcases inB_ok e hx hy eb true k with h1 | h1 | ⟨ds, rfl, h1, h2, h3, h4, h5⟩ | h1
    · exact .inl h1
    · exact .inr (.inl h1)
    · exact .inr (.inr (.inl ⟨_, _, h1, h2, h3, h4, by rw [h5]; exact k⟩))
    · exact .inr (.inr (.inr h1))
/-! ### is None -/
def isNon : Pd → Bool
  | .none => true
  | _ => false
def isNoneD : Pd → Pd → Option Pd
  | d, .none => some (.bool (isNon d))
  | _, _ => none
def notNoneD : Pd → Pd → Option Pd
  | d, .none => some (.bool (!isNon d))
  | _, _ => none
theorem RX.isNon {Hf H : Hp} {x : V} {d : Pd} (h : RX K Hf H x d) : decide (x = .non) = isNon d := by
  rcases h with h | ⟨l, _, _, rfl, rfl, _⟩
  · cases h <;> simp [Dt.isNon]
  · simp [Dt.isNon]
theorem ro_isNone : ROp K (fun x y H Q => y = .non ∧ Q (.bl (decide (x = .non))) H) isNoneD := by
  intro Hf H x y dx dy z e hx hy h Q q
  unfold isNoneD at h
  split at h
  · cases h
    refine ⟨hy.non, ?_⟩
    rw [hx.isNon]
    exact q _ Hf H (Pg.refl e) (.bl _)
  · cases h
theorem ro_notNone : ROp K (fun x y H Q => y = .non ∧ Q (.bl (!decide (x = .non))) H) notNoneD := by
  intro Hf H x y dx dy z e hx hy h Q q
  unfold notNoneD at h
  split at h
  · rename_i d
    cases h
    refine ⟨hy.non, ?_⟩
    rw [hx.isNon]
    exact q _ Hf H (Pg.refl e) (.bl _)
  · cases h
/-! ### x[i] -/
def ixD : Pd → Pd → Option Pd
  | .list xs, .int i => atI xs i
  | .tuple xs, .int i => atI xs i
  | .str z, .int i => if z.length ≤ sizeLine then (atI z.cps.toList i).map fun c => .str ⟨#[c]⟩ else none
  | _, _ => none
theorem RDs.atI {H : Hp} {vs : List V} {ds : List Pd} (r : RDs K H vs ds) {i : Int} {d : Pd} (h : L2.atI ds i = some d) : ∃ v, L2.atI vs i = some v ∧ RD K H v d := by
  unfold L2.atI at h ⊢
  rw [r.length]
  cases e : ixN ds.length i with
  | none => rw [e] at h; cases h
  | some j => rw [e] at h; exact r.get h
theorem ro_ix : ROp K (rIx K) ixD := by
  intro Hf H x y dx dy z e hx hy h Q q
  unfold ixD at h
  split at h
  · obtain ⟨l, vs, rfl, t, r⟩ := hx.list e
    obtain ⟨v, h1, h2⟩ := r.atI h
    exact .inl ⟨l, vs, _, v, rfl, hy.int, t, h1, q v Hf H (Pg.refl e) h2⟩
  · obtain ⟨l, vs, rfl, _, t, r⟩ := hx.tuple e
    obtain ⟨v, h1, h2⟩ := r.atI h
    exact .inr (.inl ⟨l, vs, _, v, rfl, hy.int, t, h1, q v Hf H (Pg.refl e) h2⟩)
  · split at h
    · rename_i w i hz
      cases ec : L2.atI w.cps.toList i with
      | none => rw [ec] at h; cases h
      | some c =>
        rw [ec] at h
        cases h
        exact .inr (.inr ⟨w, i, c, hx.str, hy.int, hz, ec, q _ Hf H (Pg.refl e) (.str _)⟩)
    · cases h
  · cases h
/-! ### slices -/
def cutD (xs : List Pd) (lo hi : Option Int) : List Pd := (xs.drop (HT.sIx xs.length 0 lo)).take (HT.sIx xs.length xs.length hi - HT.sIx xs.length 0 lo)
def slD : Pd → Option Int → Option Int → Option Pd
  | .list xs, lo, hi => some (.list (cutD xs lo hi))
  | .tuple xs, lo, hi => some (.tuple (cutD xs lo hi))
  | .str z, lo, hi => if z.length ≤ sizeLine then some (.str (cutS z lo hi)) else none
  | _, _, _ => none
theorem RDs.cut {H : Hp} {vs : List V} {ds : List Pd} (r : RDs K H vs ds) (lo hi : Option Int) : RDs K H (cutV vs lo hi) (cutD ds lo hi) := by
  unfold cutV cutD
  rw [r.length]
  exact (r.drop _).take _
theorem cutD_whole {xs : List Pd} {lo hi : Option Int} (h : HT.sIx xs.length 0 lo = 0 ∧ HT.sIx xs.length xs.length hi = xs.length) : cutD xs lo hi = xs := by
  unfold cutD
  rw [h.1, h.2]
  simp
abbrev rSlAll (K : PySem.W.Frag) : V → Option Int → Option Int → Hp → VK → Prop := fun x lo hi H Q => rSlL K x lo hi H Q ∨ rSlA K x lo hi H Q ∨ rSlS x lo hi H Q
theorem slAll {X : Cx} : SlR X (rSlAll X.K) := sl_list.or (sl_tupA.or sl_str)
theorem rs_sl : RSl K (rSlAll K) slD := by
  intro Hf H x lo hi dx z e hx h Q q
  unfold slD at h
  split at h
  · cases h
    obtain ⟨l, vs, rfl, t, r⟩ := hx.list e
    refine .inl ⟨l, vs, rfl, t, fun p np => ?_⟩
    have g := Pg.new (o := .lst (cutV vs lo hi)) e np
    exact q _ _ _ g (.lst (sq_of upd_same) ((r.cut lo hi).mono g.ef))
  · cases h
    obtain ⟨l, vs, rfl, t1, t, r⟩ := hx.tuple e
    refine .inr (.inl ⟨l, vs, rfl, t, fun hw => ?_, fun hw p np => ?_⟩)
    · rw [r.length] at hw
      exact q _ Hf H (Pg.refl e) (by rw [cutD_whole hw]; exact .tup t1 r)
    · have g := Pg.new (o := .tup (cutV vs lo hi)) e np
      exact q _ _ _ g (.tup (st_of upd_same) ((r.cut lo hi).mono g.ef))
  · split at h
    · cases h
      exact .inr (.inr ⟨_, hx.str, by assumption, q _ Hf H (Pg.refl e) (.str _)⟩)
    · cases h
  · cases h
/-! ### built-in functions -/
theorem RXs.one {Hf H : Hp} {vs : List V} {d : Pd} (h : RXs K Hf H vs [d]) : ∃ v, vs = [v] ∧ RX K Hf H v d := by
  cases h with
  | cons h hs => cases hs; exact ⟨_, rfl, h⟩
theorem RXs.two {Hf H : Hp} {vs : List V} {d e : Pd} (h : RXs K Hf H vs [d, e]) : ∃ v u, vs = [v, u] ∧ RX K Hf H v d ∧ RX K Hf H u e := by
  cases h with
  | cons h hs =>
    obtain ⟨u, rfl, k⟩ := hs.one
    exact ⟨_, _, rfl, h, k⟩
def lenD : List Pd → Option Pd
  | [.list xs] => some (.int xs.length)
  | [.tuple xs] => some (.int xs.length)
  | [.str z] => if z.length ≤ sizeLine then some (.int z.length) else none
  | _ => none
abbrev rLenA (K : PySem.W.Frag) : List V → Hp → VK → Prop := fun xs H Q => (∃ p ys, xs = [.ref p] ∧ (SqL K H p ys ∨ SqT K H p ys) ∧ Q (.int ys.length) H) ∨ (∃ z, xs = [.str z] ∧ z.length ≤ sizeLine ∧ Q (.int z.length) H)
theorem callLen {X : Cx} : CallR X (.builtin "len") (rLenA X.K) := call_len_seq.or call_len_str
theorem rc_len : RCall K (rLenA K) lenD := by
  intro Hf H vs xs z e hx h Q q
  unfold lenD at h
  split at h
  · cases h
    obtain ⟨v, rfl, hv⟩ := hx.one
    obtain ⟨l, us, rfl, t, r⟩ := hv.list e
    exact .inl ⟨l, us, rfl, .inl t, by rw [r.length]; exact q _ Hf H (Pg.refl e) (.int _)⟩
  · cases h
    obtain ⟨v, rfl, hv⟩ := hx.one
    obtain ⟨l, us, rfl, _, t, r⟩ := hv.tuple e
    exact .inl ⟨l, us, rfl, .inr t, by rw [r.length]; exact q _ Hf H (Pg.refl e) (.int _)⟩
  · split at h
    · cases h
      obtain ⟨v, rfl, hv⟩ := hx.one
      obtain rfl := hv.str
      exact .inr ⟨_, rfl, by assumption, q _ Hf H (Pg.refl e) (.int _)⟩
    · cases h
  · cases h
def absD : List Pd → Option Pd
  | [.int i] => some (.int (if i < 0 then -i else i))
  | _ => none
theorem rc_abs : RCall K (fun xs H Q => ∃ i, xs = [.int i] ∧ Q (.int (if i < 0 then -i else i)) H) absD := by
  intro Hf H vs xs z e hx h Q q
  unfold absD at h
  split at h
  · cases h
    obtain ⟨v, rfl, hv⟩ := hx.one
    obtain rfl := hv.int
    exact ⟨_, rfl, q _ Hf H (Pg.refl e) (.int _)⟩
  · cases h
def strD : List Pd → Option Pd
  | [.int i] => if i.natAbs.log2 < 1920 then some (.str (toString i)) else none
  | _ => none
theorem rc_str : RCall K (fun xs H Q => ∃ i, xs = [.int i] ∧ i.natAbs.log2 < 1920 ∧ Q (.str (toString i)) H) strD := by
  intro Hf H vs xs z e hx h Q q
  unfold strD at h
  split at h
  · split at h
    · cases h
      obtain ⟨v, rfl, hv⟩ := hx.one
      obtain rfl := hv.int
      exact ⟨_, rfl, by assumption, q _ Hf H (Pg.refl e) (.str _)⟩
    · cases h
  · cases h
def boolsD : List Pd → Option (List Bool)
  | [] => some []
  | .bool b :: xs => match boolsD xs with
    | some bs => some (b :: bs)
    | none => none
  | _ :: _ => none
theorem bools_ok {H : Hp} : ∀ {vs : List V} {ds : List Pd} {bs : List Bool}, RDs K H vs ds → boolsD ds = some bs → vs = bs.map V.bl
  | _, _, _, .nil, h => by cases h; rfl
  | _, _, _, .cons (d := .bool b) (ds := ds) g gs, h => by
    simp only [boolsD] at h
    cases e : boolsD ds with
    | none => rw [e] at h; cases h
    | some bs =>
      rw [e] at h
      cases h
      cases g
      rw [bools_ok gs e]
      rfl
  | _, _, _, .cons (d := .none) _ _, h => by cases h
  | _, _, _, .cons (d := .int _) _ _, h => by cases h
  | _, _, _, .cons (d := .str _) _ _, h => by cases h
  | _, _, _, .cons (d := .list _) _ _, h => by cases h
  | _, _, _, .cons (d := .tuple _) _ _, h => by cases h
  | _, _, _, .cons (d := .dict _) _ _, h => by cases h
def allD : List Pd → Option Pd
  | [.list xs] => (boolsD xs).map fun bs => .bool (bs.all id)
  | _ => none
def anyD : List Pd → Option Pd
  | [.list xs] => (boolsD xs).map fun bs => .bool (bs.any id)
  | _ => none
theorem rc_all : RCall K (rAll K) allD := by
  intro Hf H vs xs z e hx h Q q
  unfold allD at h
  split at h
  · rename_i ys
    obtain ⟨v, rfl, hv⟩ := hx.one
    obtain ⟨l, us, rfl, t, r⟩ := hv.list e
    cases eb : boolsD ys with
    | none => rw [eb] at h; cases h
    | some bs =>
      rw [eb] at h
      cases h
      obtain rfl := bools_ok r eb
      exact ⟨l, bs, rfl, t, q _ Hf H (Pg.refl e) (.bl _)⟩
  · cases h
theorem rc_any : RCall K (rAny K) anyD := by
  intro Hf H vs xs z e hx h Q q
  unfold anyD at h
  split at h
  · rename_i ys
    obtain ⟨v, rfl, hv⟩ := hx.one
    obtain ⟨l, us, rfl, t, r⟩ := hv.list e
    cases eb : boolsD ys with
    | none => rw [eb] at h; cases h
    | some bs =>
      rw [eb] at h
      cases h
      obtain rfl := bools_ok r eb
      exact ⟨l, bs, rfl, t, q _ Hf H (Pg.refl e) (.bl _)⟩
  · cases h
def intsD : List Pd → Option (List Int)
  | [] => some []
  | .int b :: xs => match intsD xs with
    | some bs => some (b :: bs)
    | none => none
  | _ :: _ => none
theorem ints_ok {H : Hp} : ∀ {vs : List V} {ds : List Pd} {bs : List Int}, RDs K H vs ds → intsD ds = some bs → vs = bs.map V.int
  | _, _, _, .nil, h => by cases h; rfl
  | _, _, _, .cons (d := .int b) (ds := ds) g gs, h => by
    simp only [intsD] at h
    cases e : intsD ds with
    | none => rw [e] at h; cases h
    | some bs =>
      rw [e] at h
      cases h
      cases g
      rw [ints_ok gs e]
      rfl
  | _, _, _, .cons (d := .none) _ _, h => by cases h
  | _, _, _, .cons (d := .bool _) _ _, h => by cases h
  | _, _, _, .cons (d := .str _) _ _, h => by cases h
  | _, _, _, .cons (d := .list _) _ _, h => by cases h
  | _, _, _, .cons (d := .tuple _) _ _, h => by cases h
  | _, _, _, .cons (d := .dict _) _ _, h => by cases h
def sumD : List Pd → Option Pd
  | [.list xs] => (intsD xs).map fun bs => .int bs.sum
  | _ => none
theorem rc_sum : RCall K (rSum K) sumD := by
  intro Hf H vs xs z e hx h Q q
  unfold sumD at h
  split at h
  · rename_i ys
    obtain ⟨v, rfl, hv⟩ := hx.one
    obtain ⟨l, us, rfl, t, r⟩ := hv.list e
    cases eb : intsD ys with
    | none => rw [eb] at h; cases h
    | some bs =>
      rw [eb] at h
      cases h
      obtain rfl := ints_ok r eb
      exact ⟨l, bs, rfl, t, q _ Hf H (Pg.refl e) (.int _)⟩
  · cases h
def strsD : List Pd → Option (List Str)
  | [] => some []
  | .str b :: xs => match strsD xs with
    | some bs => some (b :: bs)
    | none => none
  | _ :: _ => none
theorem strs_ok {H : Hp} : ∀ {vs : List V} {ds : List Pd} {bs : List Str}, RDs K H vs ds → strsD ds = some bs → vs = bs.map V.str
  | _, _, _, .nil, h => by cases h; rfl
  | _, _, _, .cons (d := .str b) (ds := ds) g gs, h => by
    simp only [strsD] at h
    cases e : strsD ds with
    | none => rw [e] at h; cases h
    | some bs =>
      rw [e] at h
      cases h
      cases g
      rw [strs_ok gs e]
      rfl
  | _, _, _, .cons (d := .none) _ _, h => by cases h
  | _, _, _, .cons (d := .bool _) _ _, h => by cases h
  | _, _, _, .cons (d := .int _) _ _, h => by cases h
  | _, _, _, .cons (d := .list _) _ _, h => by cases h
  | _, _, _, .cons (d := .tuple _) _ _, h => by cases h
  | _, _, _, .cons (d := .dict _) _ _, h => by cases h
/-- tuple(x) of a list or a tuple -/
def tupleD : List Pd → Option Pd
  | [.list xs] => some (.tuple xs)
  | [.tuple xs] => some (.tuple xs)
  | _ => none
abbrev rTupleA (K : PySem.W.Frag) : List V → Hp → VK → Prop := fun xs H Q => ∃ p ys, xs = [.ref p] ∧ ((SqL K H p ys ∧ ∀ l, H l = none → Q (.ref l) (upd H l (.tup ys))) ∨ (SqT K H p ys ∧ Q (.ref p) H))
theorem rc_tuple : RCall K (rTupleA K) tupleD := by
  intro Hf H vs xs z e hx h Q q
  unfold tupleD at h
  split at h
  · cases h
    obtain ⟨v, rfl, hv⟩ := hx.one
    obtain ⟨l, us, rfl, t, r⟩ := hv.list e
    refine ⟨l, us, rfl, .inl ⟨t, fun p np => ?_⟩⟩
    have g := Pg.new (o := .tup us) e np
    exact q _ _ _ g (.tup (st_of upd_same) (r.mono g.ef))
  · cases h
    obtain ⟨v, rfl, hv⟩ := hx.one
    obtain ⟨l, us, rfl, t1, t, r⟩ := hv.tuple e
    exact ⟨l, us, rfl, .inr ⟨t, q _ Hf H (Pg.refl e) (.tup t1 r)⟩⟩
  · cases h
/-- list(x) of a list or a tuple: a new list -/
def listD : List Pd → Option (List Pd)
  | [.list xs] => some xs
  | [.tuple xs] => some xs
  | _ => none
abbrev rListA (K : PySem.W.Frag) : List V → Hp → VK → Prop := fun xs H Q => ∃ p ys, xs = [.ref p] ∧ (SqL K H p ys ∨ SqT K H p ys) ∧ ∀ l, H l = none → Q (.ref l) (upd H l (.lst ys))
theorem rcl_list : RCallL K (rListA K) listD := by
  intro Hf H vs xs z e hx h Q q
  unfold listD at h
  split at h
  · cases h
    obtain ⟨v, rfl, hv⟩ := hx.one
    obtain ⟨l, us, rfl, t, r⟩ := hv.list e
    exact ⟨l, us, rfl, .inl t, fun p np => q p us _ (e.trans (Ex.new np)) (Ex.new np) np upd_same r⟩
  · cases h
    obtain ⟨v, rfl, hv⟩ := hx.one
    obtain ⟨l, us, rfl, t1, t, r⟩ := hv.tuple e
    exact ⟨l, us, rfl, .inr t, fun p np => q p us _ (e.trans (Ex.new np)) (Ex.new np) np upd_same r⟩
  · cases h
/-! ### methods of texts -/
def upperD : Pd → List Pd → Option Pd
  | .str a, [] => if a.length ≤ 5592405 then some (.str (Txt.upper a)) else none
  | _, _ => none
theorem rm_upper : RMt K "str" (fun x xs H Q => ∃ a, x = .str a ∧ xs = [] ∧ a.length ≤ 5592405 ∧ Q (.str (Txt.upper a)) H) upperD := by
  intro Hf H x vs dx xs z e hx hs h Q q
  unfold upperD at h
  split at h
  · split at h
    · cases h
      cases hs
      exact ⟨_, hx.str, rfl, by assumption, q _ Hf H (Pg.refl e) (.str _)⟩
    · cases h
  · cases h
def joinD : Pd → List Pd → Option Pd
  | .str a, [.list xs] => match strsD xs with
    | some ys => if (ys.map (·.length)).sum + ys.length * a.length ≤ 16777216 then some (.str (Txt.join a ys)) else none
    | none => none
  | .str a, [.tuple xs] => match strsD xs with
    | some ys => if (ys.map (·.length)).sum + ys.length * a.length ≤ 16777216 then some (.str (Txt.join a ys)) else none
    | none => none
  | _, _ => none
abbrev rJoinA (K : PySem.W.Frag) : V → List V → Hp → VK → Prop := fun x xs H Q => ∃ a p, ∃ ys : List Str, x = .str a ∧ xs = [.ref p] ∧ (SqL K H p (ys.map V.str) ∨ SqT K H p (ys.map V.str)) ∧
    (ys.map (·.length)).sum + ys.length * a.length ≤ 16777216 ∧ Q (.str (Txt.join a ys)) H
theorem rm_join : RMt K "str" (rJoinA K) joinD := by
  intro Hf H x vs dx xs z e hx hs h Q q
  unfold joinD at h
  split at h
  · split at h
    · rename_i ys es
      split at h
      · cases h
        obtain ⟨v, rfl, hv⟩ := hs.one
        obtain ⟨l, us, rfl, t, r⟩ := hv.list e
        obtain rfl := strs_ok r es
        exact ⟨_, l, ys, hx.str, rfl, .inl t, by assumption, q _ Hf H (Pg.refl e) (.str _)⟩
      · cases h
    · cases h
  · split at h
    · rename_i ys es
      split at h
      · cases h
        obtain ⟨v, rfl, hv⟩ := hs.one
        obtain ⟨l, us, rfl, _, t, r⟩ := hv.tuple e
        obtain rfl := strs_ok r es
        exact ⟨_, l, ys, hx.str, rfl, .inr t, by assumption, q _ Hf H (Pg.refl e) (.str _)⟩
      · cases h
    · cases h
  · cases h
end
end Dt
namespace Dt
open PySem PySem.Spec L2 Evl
section
variable {Z : Zx} {W : WX}
/-! ### isinstance -/
def tyName : Pd → String
  | .none => "NoneType"
  | .bool _ => "bool"
  | .int _ => "int"
  | .str _ => "str"
  | .list _ => "list"
  | .tuple _ => "tuple"
  | .dict _ => "dict"
theorem ty_of {K : PySem.W.Frag} {Hf H : Hp} {v : V} {d : Pd} (e : Ex Hf H) (h : RX K Hf H v d) : TyX K H v (.type (tyName d)) := by
  have h0 := h.full e
  clear h
  cases h0 with
  | non => exact .base .non
  | bl b => exact .base (.bl b)
  | int i => exact .base (.int i)
  | str x => exact .base (.str x)
  | lst hh _ =>
    rcases hh with (h | ⟨o, h⟩) | ⟨o, its, n, h1, h2, _⟩
    · exact .base (.lst h)
    · exact .base (.frz h)
    · exact .kList h1 h2
  | tup hh _ =>
    rcases hh with (h | ⟨o, h⟩) | ⟨o, its, n, h1, h2, _⟩
    · exact .base (.tup h)
    · exact .fTuple h
    · exact .kTuple h1 h2
  | dct hh _ => exact .base (.dK hh)
def isiD (T : String) (d : Pd) : Option Pd := (kitB (tyName d) T).map .bool
theorem d_isi {T : String} {ta : TE} {fa : Rho → R AV} (ha : DE Z W ta fa) : DE Z W (tCB (rIsi Z.K) (tCons ta (tCons (tC (.ty T)) tNil))) (f1 (isiD T) fa) := by
  intro Hf H O σ ρ s Q p
  refine ha.bind s p fun a ρ1 x Hf1 H1 s1 g1 k1 rx p1 => ?_
  refine op1_use (r := fun x H Q => rIsi Z.K [x, .ty T] H Q) ?_ s1 rx p1
  intro Hf H x dx z e hx h Q q
  unfold isiD at h
  cases eb : kitB (tyName dx) T with
  | none => rw [eb] at h; cases h
  | some b =>
    rw [eb] at h
    cases h
    exact ⟨x, .ty T, .type (tyName dx), .type T, b, rfl, .ty T, ty_of e hx, kit_ty eb, q _ Hf H (Pg.refl e) (.bl b)⟩
def isIntD : Pd → Bool
  | .int _ => true
  | .bool _ => true
  | _ => false
def isBoolD : Pd → Bool
  | .bool _ => true
  | _ => false
def isStrD : Pd → Bool
  | .str _ => true
  | _ => false
def isTupD : Pd → Bool
  | .tuple _ => true
  | _ => false
def isLstD : Pd → Bool
  | .list _ => true
  | _ => false
theorem isi_of {T : String} {f : Pd → Bool} (h : ∀ d, kitB (tyName d) T = some (f d)) (d : Pd) : isiD T d = some (.bool (f d)) := by
  unfold isiD
  rw [h d]
  rfl
theorem isi_int (d : Pd) : isiD "int" d = some (.bool (isIntD d)) := isi_of (fun d => by
  cases d <;> simp only [tyName, isIntD] <;> decide +kernel) d
theorem isi_bool (d : Pd) : isiD "bool" d = some (.bool (isBoolD d)) := isi_of (fun d => by
  cases d <;> simp only [tyName, isBoolD] <;> decide +kernel) d
theorem isi_str (d : Pd) : isiD "str" d = some (.bool (isStrD d)) := isi_of (fun d => by
  cases d <;> simp only [tyName, isStrD] <;> decide +kernel) d
theorem isi_tuple (d : Pd) : isiD "tuple" d = some (.bool (isTupD d)) := isi_of (fun d => by
  cases d <;> simp only [tyName, isTupD] <;> decide +kernel) d
theorem isi_list (d : Pd) : isiD "list" d = some (.bool (isLstD d)) := isi_of (fun d => by
  cases d <;> simp only [tyName, isLstD] <;> decide +kernel) d
/-! ### dicts written -/
theorem d_dict0 : DE Z W tDNewK (fC (.dict [])) := by
  intro Hf H O σ ρ s Q p q nq
  have g := Pg.new (o := .dK []) s.ex nq
  exact p _ _ (s.grow g) g.gr Kp.refl _ (.dct upd_same .nil)
def keyD : Pd → Option Key
  | .int i => some (.inl i)
  | .str x => some (.inr x)
  | _ => none
theorem keyD_ok {K : PySem.W.Frag} {H : Hp} {v : V} {d : Pd} {k : Key} (h : RD K H v d) (e : keyD d = some k) : v = kV k ∧ d = kD k := by
  cases h <;> cases e <;> exact ⟨rfl, rfl⟩
def kDisp1 : AV → AV → Rho → R AV
  | .d k, .d v, ρ2 => match keyD k with
    | some _ => .ok (.d (.dict [(k, v)])) ρ2
    | none => .bad
  | _, _, _ => .bad
def fDisp1 (fk fv : Rho → R AV) : Rho → R AV := fun ρ => (fk ρ).bind fun a ρ1 => (fv ρ1).bind fun b ρ2 => kDisp1 a b ρ2
theorem d_dict1 {tk tv : TE} {fk fv : Rho → R AV} (hk : DE Z W tk fk) (hv : DE Z W tv fv) : DE Z W (tDisp [(tk, tv)]) (fDisp1 fk fv) := by
  intro Hf H O σ ρ s Q p q nq
  have no : ¬ O q := fun z => by
    obtain ⟨⟨o, t⟩, _⟩ := s.otr q z
    rw [nq] at t; cases t
  have g0 := Pg.lay (o := .dK []) s.ex nq
  have s0 := s.grow g0
  refine hk Hf _ O σ ρ s0 _ ?_
  have fq0 := fresh_back s.ex nq
  unfold fDisp1 at p
  cases ek : fk ρ with
  | bad => rw [ek] at p; exact p
  | ex x ρ1 => rw [ek] at p; exact fun cls d Hf' H' s' g' k' xr => p cls d Hf' H' s' (g0.gr.trans g') k' xr
  | ok a ρ1 =>
    rw [ek] at p
    intro Hf1 H1 s1 g1 k1 x rx
    refine hv Hf1 H1 O σ ρ1 s1 _ ?_
    have p : PostG Z W O σ ρ Hf H (fun a _ Hf' H' => ∀ v, RA Z.K Hf' σ v a → Q v H') ((fv ρ1).bind fun b ρ2 => kDisp1 a b ρ2) := p
    cases ev : fv ρ1 with
    | bad => rw [ev] at p; exact p
    | ex x ρ2 => rw [ev] at p; exact fun cls d Hf' H' s' g' k' xr => p cls d Hf' H' s' (g0.gr.trans (g1.trans g')) (k1.trans k') xr
    | ok b ρ2 =>
      rw [ev] at p
      intro Hf2 H2 s2 g2 k2 y ry
      cases a with
      | sl i => exact p.elim
      | d k =>
        cases b with
        | sl i => exact p.elim
        | d v =>
          have p : PostG Z W O σ ρ Hf H (fun a _ Hf' H' => ∀ v, RA Z.K Hf' σ v a → Q v H') (match keyD k with
            | some _ => .ok (.d (.dict [(k, v)])) ρ2
            | none => .bad) := p
          cases e : keyD k with
          | none => rw [e] at p; exact p.elim
          | some kk =>
            rw [e] at p
            obtain ⟨ex, rfl⟩ := keyD_ok (show RD Z.K Hf1 x k from rx) e
            have gg := g1.trans g2
            have hq2 : H2 q = some (.dK []) := gg.fm _ _ upd_same no
            have fq2 : Hf2 q = none := gg.stays upd_same fq0 no
            refine ⟨hq2, [(kk, y)], by rw [ex]; rfl, by simp, ?_⟩
            have s3 := s2.other (o' := .dK [(kk, y)]) hq2 fq2 no
            have s4 := s3.freeze upd_same fq2 no
            refine p _ _ s4 ⟨(g0.gr.trans gg).ex.trans (Ex.new fq2), ((g0.gr.trans gg).upd nq).fm, ((g0.gr.trans gg).upd nq).tr, fun a o h => ?_⟩ (k1.trans k2) _ (.dct upd_same (.cons (RD.mono (Ex.new fq2) ry) .nil))
            by_cases z : a = q
            · subst z; exact .inr (.inl nq)
            · rw [upd_ne z] at h; exact (g0.gr.trans gg).nw a o h
end
end Dt
namespace Dt
open PySem PySem.Spec L2 Evl
/-- a def of the top, as it stands -/
structure FnI (K : PySem.W.Frag) (mg : Str → Option Value) (x : Str) (st : Stmt) where
  f : Addr
  fd : FuncData
  F : FunD K x x (defArgs st) (defBody st) (defScope st) [] [] f fd
  g : mg x = some (.ref f)
theorem u65 {k : Nat} {A : Around} (r : Room k A) : A.units + 65 < cLine := by have := r.un; omega
theorem bt_all : bootBuiltins "all" = some (.builtin "all") := by decide +kernel
theorem bt_any : bootBuiltins "any" = some (.builtin "any") := by decide +kernel
theorem bt_sum : bootBuiltins "sum" = some (.builtin "sum") := by decide +kernel
theorem bt_sorted : bootBuiltins "sorted" = some (.builtin "sorted") := by decide +kernel
theorem bt_max : bootBuiltins "max" = some (.builtin "max") := by decide +kernel
theorem bt_min : bootBuiltins "min" = some (.builtin "min") := by decide +kernel
def negD : Pd → Option Pd
  | .int i => some (.int (-i))
  | _ => none
theorem ru_neg {K : PySem.W.Frag} : RUn K (rU fun i => .int (-i)) negD := by
  intro Hf H x dx z e hx h Q q
  unfold negD at h
  split at h
  · cases h
    exact ⟨_, hx.int, q _ Hf H (Pg.refl e) (.int _)⟩
  · cases h
/-- int(x) of an int or a truth -/
def intOfD : List Pd → Option Pd
  | [.int i] => some (.int i)
  | [.bool b] => some (.int (if b then 1 else 0))
  | _ => none
theorem rc_intOf {K : PySem.W.Frag} : RCall K (fun xs H Q => (∃ i, xs = [.int i] ∧ Q (.int i) H) ∨ ∃ k, xs = [.bl k] ∧ Q (.int (if k then 1 else 0)) H) intOfD := by
  intro Hf H vs xs z e hx h Q q
  unfold intOfD at h
  split at h
  · cases h
    obtain ⟨v, rfl, hv⟩ := hx.one
    obtain rfl := hv.int
    exact .inl ⟨_, rfl, q _ Hf H (Pg.refl e) (.int _)⟩
  · cases h
    obtain ⟨v, rfl, hv⟩ := hx.one
    obtain rfl := hv.bool
    exact .inr ⟨_, rfl, q _ Hf H (Pg.refl e) (.int _)⟩
  · cases h
/-! ### the rules that look at the written part, by its name -/
section
variable {X : Cx}
theorem kAdd (K : PySem.W.Frag) (hK : X.K = K := by rfl) : OpR X (binaryOp .Add) (rAddA K) := by subst hK; exact opAdd
theorem kEq (K : PySem.W.Frag) (hu : X.A.units + 64 < cLine) (hK : X.K = K := by rfl) : OpR X (compareOp .Eq) (rEqA K) := by subst hK; exact opEq hu
theorem kNe (K : PySem.W.Frag) (hu : X.A.units + 64 < cLine) (hK : X.K = K := by rfl) : OpR X (compareOp .NotEq) (rNeA K) := by subst hK; exact opNe hu
theorem kIn (K : PySem.W.Frag) (hu : X.A.units + 65 < cLine) (hK : X.K = K := by rfl) : OpR X (compareOp .In) (rInA K) := by subst hK; exact opIn hu
theorem kNotIn (K : PySem.W.Frag) (hu : X.A.units + 65 < cLine) (hK : X.K = K := by rfl) : OpR X (compareOp .NotIn) (rNotInA K) := by subst hK; exact opNotIn hu
theorem kIx (K : PySem.W.Frag) (hK : X.K = K := by rfl) : IxR X (rIx K) := by subst hK; exact ix_seq
theorem kSl (K : PySem.W.Frag) (hK : X.K = K := by rfl) : SlR X (rSlAll K) := by subst hK; exact slAll
theorem kLen (K : PySem.W.Frag) (hK : X.K = K := by rfl) : CallR X (.builtin "len") (rLenA K) := by subst hK; exact callLen
theorem kAll (K : PySem.W.Frag) (hc : X.calm = true) (hK : X.K = K := by rfl) : CallR X (.builtin "all") (rAll K) := by subst hK; exact cr_all hc
theorem kAny (K : PySem.W.Frag) (hc : X.calm = true) (hK : X.K = K := by rfl) : CallR X (.builtin "any") (rAny K) := by subst hK; exact cr_any hc
theorem kSum (K : PySem.W.Frag) (hc : X.calm = true) (hK : X.K = K := by rfl) : CallR X (.builtin "sum") (rSum K) := by subst hK; exact cr_sum hc
theorem kIsi (K : PySem.W.Frag) (hK : X.K = K := by rfl) : CallR X (.builtin "isinstance") (rIsi K) := by subst hK; exact call_isi
theorem kTuple (K : PySem.W.Frag) (hK : X.K = K := by rfl) : CallR X (.type "tuple") (rTupleA K) := by subst hK; exact call_tuple_of
theorem kList (K : PySem.W.Frag) (hK : X.K = K := by rfl) : CallR X (.type "list") (rListA K) := by subst hK; exact call_list_of
theorem kJoin (K : PySem.W.Frag) (hK : X.K = K := by rfl) : MtR X "str.join" (rJoinA K) := by subst hK; exact mt_join
end
/-- the law's promise from its meaning: over every script it hands back True -/
theorem law_sp {K : PySem.W.Frag} {C : Str → Addr} {m : Rho → R RV} {H : Hp} {a : Addr} {ns : List Int} {E : XK} (h : SqL K H a (ns.map V.int)) (as' : Rho) (e : m [.d (.list (ns.map PyData.int))] = .ok (.d (.bool true)) as') :
    spF ⟨K, C⟩ 1 m [.ref a] H (fun v _ => v = .bl true) E := by
  have r : RDs K H [.ref a] [.list (ns.map PyData.int)] := .cons (.lst h RDs.flat) .nil
  refine ⟨rfl, H, fun _ => False, [.d (.list (ns.map PyData.int))], r.args (Ex.refl _), ioArgs (xs := [.list (ns.map PyData.int)]), ?_⟩
  rw [e]
  intro v Hf' H' s' g' rv
  cases rv
  rfl
/-- the walk of a law, its meaning being True over every script -/
theorem walk_D {l : PySem.W.OpenLaw} {n k : Nat} {q : Program} {loose : List Str} {XP : (Str → Option Value) → Heap → Prop} {YP : World → Heap → Prop} {d : DefRec} {x : Str} {m : Rho → R RV}
    (hn : l.most = some n) (hn2 : n ≤ sizeLine) (hdf : d.params.defaults = []) (hr : Room k callerA)
    (F : ∀ (w : World) (mg : Str → Option Value) (fa : Addr) (h : Heap), YP w h → h.Ns mainGlobals mg → mg d.name = some (.ref fa) →
      ∃ (K : PySem.W.Frag) (C : Str → Addr) (fd : FuncData), K.In h ∧ (∀ (s : Shared) (u : Value), BindsTo s fd ⟨[u], []⟩ [(x, u)]) ∧
        ∀ base : Heap, K.In base → base.Ns mainGlobals mg → FnOk l.prog w K mg base (L2.CX l.prog w) k fa fd [x] (spF ⟨K, C⟩ 1 m))
    (math : ∀ ns : List Int, ns.length ≤ n → (∀ z ∈ ns, bits z ≤ 1048576) → ∃ as', m [.d (.list (ns.map PyData.int))] = .ok (.d (.bool true)) as') :
    PySem.W.WalkO q loose XP YP l.row.toRowW d [] (fun f vs => PySem.call f vs) := by
  refine Att.attach_callB hn hdf fun w s0 s1 mg mb fa o pm cd doc a vs ns G Y ho hd hcd hmg hobj hints hlen hbits hg => ?_
  obtain ⟨K, C, fd, KX, hb, hF⟩ := F w mg fa _ Y G.T.g hmg
  obtain ⟨as', e⟩ := math ns hlen hbits
  exact law_call KX G.T.g G.T.b G.T.builtins G.T.nolimit hg hobj hints (Nat.le_trans hlen hn2) hr hF hb (fun H _ hS => law_sp hS as' e) fun H u s' z => by
    obtain ⟨_, _, _, _, _, _, _, _, _, _, _, _, q⟩ := z
    exact q
end Dt
namespace Dt
open PySem PySem.Spec L2 Evl RZ
section
variable {K : PySem.W.Frag}
/-! ### max, min of two ints -/
def maxD : List Pd → Option Pd
  | [.int i, .int j] => some (.int (if j > i then j else i))
  | _ => none
def minD : List Pd → Option Pd
  | [.int i, .int j] => some (.int (if j < i then j else i))
  | _ => none
theorem rc_max : RCall K (fun xs H Q => ∃ i j, xs = [.int i, .int j] ∧ Q (.int (if j > i then j else i)) H) maxD := by
  intro Hf H vs xs z e hx h Q q
  unfold maxD at h
  split at h
  · cases h
    obtain ⟨v, u, rfl, hv, hu⟩ := hx.two
    obtain rfl := hv.int
    obtain rfl := hu.int
    exact ⟨_, _, rfl, q _ Hf H (Pg.refl e) (.int _)⟩
  · cases h
theorem rc_min : RCall K (fun xs H Q => ∃ i j, xs = [.int i, .int j] ∧ Q (.int (if j < i then j else i)) H) minD := by
  intro Hf H vs xs z e hx h Q q
  unfold minD at h
  split at h
  · cases h
    obtain ⟨v, u, rfl, hv, hu⟩ := hx.two
    obtain rfl := hv.int
    obtain rfl := hu.int
    exact ⟨_, _, rfl, q _ Hf H (Pg.refl e) (.int _)⟩
  · cases h
/-! ### sorted(texts) -/
def leS (a b : Str) : Bool := !ltCps b.cps.toList a.cps.toList
def insS (x : Str) : List Str → List Str
  | [] => [x]
  | y :: r => if leS x y = true then x :: y :: r else y :: insS x r
def sortS : List Str → List Str
  | [] => []
  | x :: r => insS x (sortS r)
theorem insS_perm (x : Str) : ∀ l, (insS x l).Perm (x :: l)
  | [] => .refl _
  | y :: r => by
    unfold insS
    split
    · exact .refl _
    · exact ((insS_perm x r).cons y).trans (.swap x y r)
theorem sortS_perm : ∀ l, (sortS l).Perm l
  | [] => .refl _
  | x :: r => (insS_perm x (sortS r)).trans ((sortS_perm r).cons x)
theorem ltCps_iff (a b : List Nat) : ltCps a b = true ↔ a < b := by
  rw [PyProof.Rows.ltCps_eq, decide_eq_true_eq]
theorem leS_iff (a b : Str) : leS a b = true ↔ a.cps.toList ≤ b.cps.toList := by
  unfold leS
  rw [Bool.not_eq_true', ← Bool.not_eq_true, ltCps_iff]
  exact Iff.rfl
theorem leS_total (a b : Str) : leS a b = true ∨ leS b a = true := by
  rw [leS_iff, leS_iff]
  exact List.le_total _ _
theorem leS_trans {a b c : Str} (h : leS a b = true) (g : leS b c = true) : leS a c = true := by
  rw [leS_iff] at *
  exact List.le_trans h g
theorem leS_anti {a b : Str} (h : leS a b = true) (g : leS b a = true) : a = b := by
  rw [leS_iff] at *
  have : a.cps.toList = b.cps.toList := List.le_antisymm h g
  obtain ⟨x⟩ := a
  obtain ⟨y⟩ := b
  have : x = y := Array.ext' this
  rw [this]
theorem insS_sorted (x : Str) : ∀ {l : List Str}, l.Pairwise (fun a b => leS a b = true) → (insS x l).Pairwise (fun a b => leS a b = true)
  | [], _ => List.pairwise_singleton _ _
  | y :: r, h => by
    unfold insS
    rw [List.pairwise_cons] at h
    split
    · rename_i hxy
      refine List.pairwise_cons.mpr ⟨fun z hz => ?_, List.pairwise_cons.mpr h⟩
      rcases List.mem_cons.mp hz with rfl | hz
      · exact hxy
      · exact leS_trans hxy (h.1 z hz)
    · rename_i hxy
      refine List.pairwise_cons.mpr ⟨fun z hz => ?_, insS_sorted x h.2⟩
      rcases List.mem_cons.mp ((insS_perm x r).mem_iff.mp hz) with rfl | hz
      · exact (leS_total z y).resolve_left hxy
      · exact h.1 z hz
theorem sortS_sorted : ∀ l, (sortS l).Pairwise (fun a b => leS a b = true)
  | [] => .nil
  | x :: r => insS_sorted x (sortS_sorted r)
theorem rising_pw : ∀ (l : List Str) (p : Str), PyProof.Rows.risingS p l = true → (p :: l).Pairwise (fun a b => leS a b = true)
  | [], p, _ => List.pairwise_singleton _ _
  | x :: r, p, h => by
    simp only [PyProof.Rows.risingS, Bool.and_eq_true] at h
    have ih := rising_pw r x h.2
    have hpx : leS p x = true := h.1
    refine List.pairwise_cons.mpr ⟨fun z hz => ?_, ih⟩
    rcases List.mem_cons.mp hz with rfl | hz
    · exact hpx
    · exact leS_trans hpx ((List.pairwise_cons.mp ih).1 z hz)
theorem sorted_unique {xs ys : List Str} (p : ys.Perm xs) (s : PyProof.Rows.sortedS ys = true) : ys = sortS xs := by
  refine List.Perm.eq_of_pairwise (le := fun a b => leS a b = true) (fun a b _ _ h g => leS_anti h g) ?_ (sortS_sorted xs) (p.trans (sortS_perm xs).symm)
  cases ys with
  | nil => exact .nil
  | cons y r => exact rising_pw r y s
def sortedD : List Pd → Option (List Pd)
  | [.list xs] => match strsD xs with
    | some ys => if ys.length < 64 then some ((sortS ys).map .str) else none
    | none => none
  | _ => none
theorem RDs.strs {H : Hp} : ∀ (ys : List Str), RDs K H (ys.map V.str) (ys.map PyData.str)
  | [] => .nil
  | y :: ys => .cons (.str y) (RDs.strs ys)
theorem rcl_sorted : RCallL K (rSortedS K) sortedD := by
  intro Hf H vs xs z e hx h Q q
  unfold sortedD at h
  split at h
  · rename_i us
    split at h
    · rename_i ys es
      split at h
      · rename_i hl
        cases h
        obtain ⟨v, rfl, hv⟩ := hx.one
        obtain ⟨l, ws, rfl, t, r⟩ := hv.list e
        obtain rfl := strs_ok r es
        refine ⟨l, ys, rfl, t, hl, fun zs p pm so np => ?_⟩
        rw [sorted_unique pm so]
        exact q p _ _ (e.trans (Ex.new np)) (Ex.new np) np upd_same (RDs.strs _)
      · cases h
    · cases h
  · cases h
/-! ### * of a text, a tuple, a list with an int -/
def mulA : Pd → Pd → Option Pd
  | .int i, .int j => if mulOk i j = true then some (.int (i * j)) else none
  | .str a, .int n => if 0 ≤ n ∧ n ≤ 1000 ∧ a.length ≤ 1000 then some (.str (Txt.mul a n)) else none
  | .tuple xs, .int n => if n = 1 then some (.tuple xs) else if xs ≠ [] ∧ 2 ≤ n ∧ n ≤ 1000 ∧ xs.length ≤ 1000 then some (.tuple (List.replicate n.toNat xs).flatten) else none
  | .list xs, .int n => if 0 ≤ n ∧ n ≤ 1000 ∧ xs.length ≤ 1000 then some (.list (List.replicate n.toNat xs).flatten) else none
  | _, _ => none
def rMulS : R2 := fun x y H Q => ∃ a n, x = .str a ∧ y = .int n ∧ MulOk a n ∧ Q (.str (Txt.mul a n)) H
theorem op_mulS {X : Cx} : OpR X (binaryOp .Mult) rMulS := by
  intro pins s σ H x y v u Q I rx ry h
  obtain ⟨a, n, rfl, rfl, hm, q⟩ := h
  obtain ⟨t, rfl⟩ := rx
  obtain ⟨t2, rfl⟩ := ry
  exact SB.mul hm fun t' k => ⟨.str _, H, I.tok k, ⟨_, rfl⟩, q⟩
theorem mulOk_str {a : Str} {n : Int} (h0 : 0 ≤ n) (h1 : n ≤ 1000) (ha : a.length ≤ 1000) : MulOk a n := by
  refine ⟨?_, fun h _ => ?_, fun _ _ => ?_⟩
  · rw [decide_eq_false (by omega), decide_eq_false (by omega)]
    rfl
  · have hn : 1 ≤ n := by omega
    intro z
    have : (2 ^ 63 - 1) / n ≥ (2 ^ 63 - 1) / 1000 := by
      have h3 : (1000 : Int) * ((2 ^ 63 - 1) / 1000) ≤ 2 ^ 63 - 1 := by decide
      have h4 : 0 ≤ ((2 ^ 63 - 1) / 1000 : Int) := by decide
      refine (Int.le_ediv_iff_mul_le (by omega)).mpr ?_
      refine Int.le_trans ?_ h3
      rw [Int.mul_comm]
      exact Int.mul_le_mul_of_nonneg_right h1 h4
    have h5 : ((2 ^ 63 - 1) / 1000 : Int) > 1000 := by decide
    omega
  · have hm : a.length * n.toNat ≤ 1000 * 1000 := Nat.mul_le_mul ha (by omega)
    show decide (_ > _) = false
    refine decide_eq_false ?_
    show ¬ (_ > sizeLine)
    simp only [sizeLine]
    omega
abbrev rMulA (K : PySem.W.Frag) : R2 := fun x y H Q => rI IntMulOk (fun i j => .int (i * j)) x y H Q ∨ rMulS x y H Q ∨ rRepT K x y H Q
theorem kMul {X : Cx} (K : PySem.W.Frag) (hK : X.K = K := by rfl) : OpR X (binaryOp .Mult) (rMulA K) := by
  subst hK
  exact op_mulG.or (op_mulS.or op_repT)
/-- what is served: ints, texts, tuples twice or more -/
def mulB : Pd → Pd → Option Pd
  | .int i, .int j => if mulOk i j = true then some (.int (i * j)) else none
  | .str a, .int n => if 0 ≤ n ∧ n ≤ 1000 ∧ a.length ≤ 1000 then some (.str (Txt.mul a n)) else none
  | .tuple xs, .int n => if xs ≠ [] ∧ 2 ≤ n ∧ n ≤ 1000 ∧ xs.length ≤ 1000 then some (.tuple (List.replicate n.toNat xs).flatten) else none
  | _, _ => none
theorem RDs.reps {H : Hp} {vs : List V} {xs : List Pd} (r : RDs K H vs xs) : ∀ n : Nat, RDs K H (List.replicate n vs).flatten (List.replicate n xs).flatten
  | 0 => .nil
  | n + 1 => by
    rw [List.replicate_succ, List.replicate_succ, List.flatten_cons, List.flatten_cons]
    exact r.append (RDs.reps r n)
theorem ro_mulB : ROp K (rMulA K) mulB := by
  intro Hf H x y dx dy z e hx hy h Q q
  unfold mulB at h
  split at h
  · split at h
    · rename_i hm
      cases h
      exact .inl ⟨_, _, hx.int, hy.int, mulOk_ok hm, q _ Hf H (Pg.refl e) (.int _)⟩
    · cases h
  · split at h
    · rename_i hm
      cases h
      exact .inr (.inl ⟨_, _, hx.str, hy.int, mulOk_str hm.1 hm.2.1 hm.2.2, q _ Hf H (Pg.refl e) (.str _)⟩)
    · cases h
  · split at h
    · rename_i xs n hm
      cases h
      obtain ⟨l, vs, rfl, t1, t2, r1⟩ := hx.tuple e
      refine .inr (.inr ⟨l, _, vs, rfl, hy.int, t2, fun z => ?_, hm.2.1, hm.2.2.1, by rw [r1.length]; exact hm.2.2.2, fun p np => ?_⟩)
      · subst z
        cases r1
        exact hm.1 rfl
      · have g := Pg.new (o := .tup (List.replicate n.toNat vs).flatten) e np
        exact q _ _ _ g (.tup (st_of upd_same) ((r1.reps _).mono g.ef))
    · cases h
  · cases h
/-! ### list(text), tuple(text) -/
theorem sign_vals {x : Str} {acc : Array Value} (h : ItemsOf (SignAt x) acc x.cps.size) : Vals (x.cps.toList.map fun c => V.str ⟨#[c]⟩) acc.toList := by
  have hl : acc.toList.length = x.cps.toList.length := by simp [h.1]
  have all : ∀ (j : Nat) v, acc.toList[j]? = some v → ∃ c u, x.cps.toList[j]? = some c ∧ v = .str ⟨#[c]⟩ u := fun j v e => by
    rw [Array.getElem?_toList] at e
    obtain ⟨c, u, h1, h2⟩ := h.2 j v e
    exact ⟨c, u, by rw [Array.getElem?_toList]; exact h1, h2⟩
  revert hl all
  generalize x.cps.toList = cs
  generalize acc.toList = vs
  induction cs generalizing vs with
  | nil =>
    intro hl _
    cases vs with
    | nil => exact .nil
    | cons _ _ => simp at hl
  | cons c cs ih =>
    intro hl all
    cases vs with
    | nil => simp at hl
    | cons v vs =>
      obtain ⟨c', u, e1, e2⟩ := all 0 v rfl
      have e1 : c = c' := Option.some.inj e1
      subst e1
      exact .cons ⟨u, e2⟩ (ih vs (by simpa using hl) fun j w e => all (j + 1) w e)
def rListTx : List V → Hp → VK → Prop := fun xs H Q => ∃ z, xs = [.str z] ∧ z.length ≤ sizeLine ∧ ∀ l, H l = none → Q (.ref l) (upd H l (.lst (z.cps.toList.map fun c => V.str ⟨#[c]⟩)))
theorem call_listTx {X : Cx} (hc : X.calm = true) : CallR X (.type "list") rListTx := by
  intro pins s σ H xs us Q I r h
  obtain ⟨z, rfl, hz, q⟩ := h
  cases r with
  | cons r1 r2 =>
    cases r2
    obtain ⟨t, rfl⟩ := r1
    refine PySem.call_list_str (I.ok.hd hc) z t (hn := hz) fun h' tk acc c hk hS hacc => ?_
    have rv := sign_vals hacc
    refine ⟨.ref s.heap.objs.size, _, I.laid (a := s.heap.objs.size) (o := .lst (z.cps.toList.map fun c => V.str ⟨#[c]⟩)) (t' := tk) hk (Nat.le_refl _) ?_, rfl, q _ I.fresh⟩
    exact ⟨by rw [List.length_map, Array.length_toList]; exact hz, acc.toList, c, rv, by simpa using hS⟩
def rTupTx : List V → Hp → VK → Prop := fun xs H Q => ∃ z, xs = [.str z] ∧ z.length ≤ sizeLine ∧ ∀ l, H l = none → Q (.ref l) (upd H l (.tup (z.cps.toList.map fun c => V.str ⟨#[c]⟩)))
theorem call_tupTx {X : Cx} (hc : X.calm = true) : CallR X (.type "tuple") rTupTx := by
  intro pins s σ H xs us Q I r h
  obtain ⟨z, rfl, hz, q⟩ := h
  cases r with
  | cons r1 r2 =>
    cases r2
    obtain ⟨t, rfl⟩ := r1
    refine PySem.call_tuple_str (I.ok.hd hc) z t (hsz := hz) fun h' tk acc hk hacc => ?_
    have rv := sign_vals hacc
    have I1 : L2.Inv X pins σ H { s with heap := h', toks := tk } := I.kept hk
    refine ⟨.ref h'.objs.size, _, I1.laid (a := h'.objs.size) (o := .tup (z.cps.toList.map fun c => V.str ⟨#[c]⟩)) (t' := tk) (fun b o e => Heap.get?_push_of_some _ e) (Nat.le_refl _) ?_, rfl, q _ (I1.hok.fresh (Nat.le_refl _))⟩
    exact ⟨by rw [List.length_map, Array.length_toList]; exact hz, acc.toList, rv, ⟨_, Heap.get?_push_size _ rfl, rfl, 0, by simp⟩⟩
theorem RDs.signs {H : Hp} : ∀ (cs : List Nat), RDs K H (cs.map fun c => V.str ⟨#[c]⟩) (cs.map fun c => PyData.str ⟨#[c]⟩)
  | [] => .nil
  | c :: cs => .cons (.str _) (RDs.signs cs)
/-- list(x), tuple(x) of a list, a tuple, a text -/
def listA : List Pd → Option (List Pd)
  | [.list xs] => some xs
  | [.tuple xs] => some xs
  | [.str z] => if z.length ≤ sizeLine then some (chars z) else none
  | _ => none
abbrev rListB (K : PySem.W.Frag) : List V → Hp → VK → Prop := fun xs H Q => rListA K xs H Q ∨ rListTx xs H Q
theorem kListB {X : Cx} (K : PySem.W.Frag) (hc : X.calm = true) (hK : X.K = K := by rfl) : CallR X (.type "list") (rListB K) := by
  subst hK
  exact call_list_of.or (call_listTx hc)
theorem rcl_listA : RCallL K (rListB K) listA := by
  intro Hf H vs xs z e hx h Q q
  unfold listA at h
  split at h
  · exact .inl (rcl_list Hf H vs _ z e hx h Q q)
  · exact .inl (rcl_list Hf H vs _ z e hx h Q q)
  · split at h
    · rename_i hz
      cases h
      obtain ⟨v, rfl, hv⟩ := hx.one
      obtain rfl := hv.str
      exact .inr ⟨_, rfl, hz, fun p np => q p _ _ (e.trans (Ex.new np)) (Ex.new np) np upd_same (RDs.signs _)⟩
    · cases h
  · cases h
def tupleA : List Pd → Option Pd
  | [.list xs] => some (.tuple xs)
  | [.tuple xs] => some (.tuple xs)
  | [.str z] => if z.length ≤ sizeLine then some (.tuple (chars z)) else none
  | _ => none
abbrev rTupleB (K : PySem.W.Frag) : List V → Hp → VK → Prop := fun xs H Q => rTupleA K xs H Q ∨ rTupTx xs H Q
theorem kTupleB {X : Cx} (K : PySem.W.Frag) (hc : X.calm = true) (hK : X.K = K := by rfl) : CallR X (.type "tuple") (rTupleB K) := by
  subst hK
  exact call_tuple_of.or (call_tupTx hc)
theorem rc_tupleA : RCall K (rTupleB K) tupleA := by
  intro Hf H vs xs z e hx h Q q
  unfold tupleA at h
  split at h
  · exact .inl (rc_tuple Hf H vs _ z e hx h Q q)
  · exact .inl (rc_tuple Hf H vs _ z e hx h Q q)
  · split at h
    · rename_i w hz
      cases h
      obtain ⟨v, rfl, hv⟩ := hx.one
      obtain rfl := hv.str
      refine .inr ⟨_, rfl, hz, fun p np => ?_⟩
      have g := Pg.new (o := .tup (w.cps.toList.map fun c => V.str ⟨#[c]⟩)) e np
      exact q _ _ _ g (.tup (st_of upd_same) (RDs.signs _))
    · cases h
  · cases h
theorem kSorted {X : Cx} (K : PySem.W.Frag) (hK : X.K = K := by rfl) : CallR X (.builtin "sorted") (rSortedS K) := by subst hK; exact cr_sortedS
end
/-! ### zip of two lists or two tuples -/
theorem dlv_zipT {K : PySem.W.Frag} {Hf : Hp} {a b : Addr} {vs us : List V} {xs ys : List Pd} (h : SqT K Hf a vs) (r : RDs K Hf vs xs) (h2 : SqT K Hf b us) (r2 : RDs K Hf us ys) : Dlv K (ItzT K a b) Hf ((xs.zip ys).map fun p => .tuple [p.1, p.2]) := by
  intro i Hf' H' e1 e2
  have hs : SqT K H' a vs := ex_t (e1.trans e2) h
  have hs2 : SqT K H' b us := ex_t (e1.trans e2) h2
  have l1 := r.length
  have l2 := r2.length
  refine ⟨fun hi => ?_, fun hi => ?_, fun v H'' hy x hx => ?_⟩
  · rw [List.length_map, List.length_zip] at hi
    obtain ⟨v, e, _⟩ := r.get (List.getElem?_eq_getElem (show i < xs.length by omega))
    obtain ⟨u, e', _⟩ := r2.get (List.getElem?_eq_getElem (show i < ys.length by omega))
    exact ⟨vs, us, v, u, hs, hs2, e, e'⟩
  · rw [List.length_map, List.length_zip] at hi
    exact ⟨vs, us, hs, hs2, by omega⟩
  · obtain ⟨T, x1, x2, rfl, nT, rfl, f1, f2⟩ := hy
    obtain ⟨d1, g1, rd1⟩ := r.get' (f1 vs hs)
    obtain ⟨d2, g2, rd2⟩ := r2.get' (f2 us hs2)
    have : x = .tuple [d1, d2] := by
      have z : (xs.zip ys)[i]? = some (d1, d2) := by
        rw [List.getElem?_zip_eq_some]; exact ⟨g1, g2⟩
      rw [List.getElem?_map, z] at hx
      cases hx
      rfl
    subst this
    have g := Pg.new (o := .tup [x1, x2]) e2 nT
    exact ⟨_, g, .tup (st_of upd_same) (.cons ((rd1.mono e1).mono g.ef) (.cons ((rd2.mono e1).mono g.ef) .nil))⟩
section
variable {Z : Zx} {W : WX}
def zipK : List AV → Option (List Pd)
  | [.d (.list xs), .d (.list ys)] => some ((xs.zip ys).map fun p => .tuple [p.1, p.2])
  | [.d (.tuple xs), .d (.tuple ys)] => some ((xs.zip ys).map fun p => .tuple [p.1, p.2])
  | _ => none
def fZip (f : Rho → R (List AV)) : Rho → R (List Pd) := fun ρ => (f ρ).bind fun as ρ1 => match zipK as with
  | some xs => .ok xs ρ1
  | none => .bad
theorem i_zip {t : TA} {f : Rho → R (List AV)} (h : DA Z W t f) : DI Z W (iZipA Z.K t) (fZip f) := by
  intro Hf H O σ ρ s Q p
  refine h.bind s p fun as ρ1 vs Hf1 H1 s1 g1 k1 rs p1 => ?_
  cases e : zipK as with
  | none => rw [e] at p1; exact p1.elim
  | some zs =>
    rw [e] at p1
    unfold zipK at e
    split at e
    · cases e
      cases rs with
      | cons r1 r2 =>
        cases r2 with
        | cons r2 r3 =>
          cases r3
          cases r1 with
          | lst a1 a2 =>
            cases r2 with
            | lst b1 b2 => exact ⟨_, _, _, _, rfl, .inl ⟨ex_l s1.ex a1, ex_l s1.ex b1, p1 Hf1 H1 s1 Gr.refl Kp.refl _ (dlv_zip a1 a2 b1 b2)⟩⟩
    · cases e
      cases rs with
      | cons r1 r2 =>
        cases r2 with
        | cons r2 r3 =>
          cases r3
          cases r1 with
          | tup a1 a2 =>
            cases r2 with
            | tup b1 b2 => exact ⟨_, _, _, _, rfl, .inr ⟨ex_t s1.ex a1, ex_t s1.ex b1, p1 Hf1 H1 s1 Gr.refl Kp.refl _ (dlv_zipT a1 a2 b1 b2)⟩⟩
    · cases e
/-! ### a call that reads owned lists: what comes is flat -/
def flatL (xs : List Pd) : Bool := xs.all flatD
theorem RDs.flatL {K : PySem.W.Frag} {H H' : Hp} : ∀ {vs : List V} {xs : List Pd}, RDs K H vs xs → Dt.flatL xs = true → RDs K H' vs xs
  | _, _, .nil, _ => .nil
  | _, _, .cons h hs, f => by
    simp only [Dt.flatL, List.all_cons, Bool.and_eq_true] at f
    exact .cons (h.flat f.1) (RDs.flatL hs f.2)
/-- the heap with all owned lists but one frozen -/
noncomputable def lentH (Hf H : Hp) (O : Addr → Prop) (l : Option Addr) : Hp := fun a => by
  classical
  exact if O a ∧ some a ≠ l then H a else Hf a
theorem lent_ex {K : PySem.W.Frag} {Hf H : Hp} {O : Addr → Prop} {σ : L2.St} {ρ : Rho} (s : SR K Hf H O σ ρ) (l : Option Addr) : Ex Hf (lentH Hf H O l) ∧ Ex (lentH Hf H O l) H := by
  refine ⟨fun a o h => ?_, fun a o h => ?_⟩
  · unfold lentH
    rw [if_neg fun z => by rw [(s.otr a z.1).2] at h; cases h]
    exact h
  · unfold lentH at h
    split at h
    · exact h
    · exact s.ex a o h
theorem RX.lent {K : PySem.W.Frag} {Hf H : Hp} {O : Addr → Prop} {σ : L2.St} {ρ : Rho} (s : SR K Hf H O σ ρ) {l : Option Addr} {v : V} {a : AV} {x : Pd} (h : RA K Hf σ v a) (e : res ρ a = some x) (hne : ∀ i b xs, a = .sl i → ρ[i]? = some (.own b xs) → ∀ m, l = some m → σ[i]? ≠ some (some (.ref m))) : RD K (lentH Hf H O l) v x := by
  have ex := lent_ex s l
  cases a with
  | d y => cases e; exact RD.mono ex.1 h
  | sl i =>
    simp only [res] at e
    cases q : ρ[i]? with
    | none => rw [q] at e; cases e
    | some z =>
      rw [q] at e
      cases z with
      | no => cases e
      | x _ => cases e
      | d y =>
        cases e
        obtain ⟨u, h1, h2⟩ := s.slot i _ q
        rw [show σ[i]? = some (some v) from h] at h1
        cases h1
        exact h2.mono ex.1
      | own b xs =>
        cases e
        obtain ⟨m, vs, h1, h2, h3, h4⟩ := s.own i b xs q
        have hm := hne i b xs rfl q
        rw [show σ[i]? = some (some v) from h] at h1
        cases h1
        refine .lst (sq_of ?_) (h4.mono ex.1)
        unfold lentH
        rw [if_pos ⟨h2, fun z => hm m z.symm (by rw [show σ[i]? = some (some (.ref m)) from h])⟩]
        exact h3
def noSl (i : Nat) : List AV → Bool
  | [] => true
  | .sl j :: as => decide (j ≠ i) && noSl i as
  | .d _ :: as => noSl i as
theorem lent_args {K : PySem.W.Frag} {Hf H : Hp} {O : Addr → Prop} {σ : L2.St} {ρ : Rho} (s : SR K Hf H O σ ρ) {i : Nat} {b : Bool} {ps : List Pd} (ei : ρ[i]? = some (.own b ps)) {l : Addr} (hl : σ[i]? = some (some (.ref l))) :
    ∀ {vs : List V} {as : List AV} {xs : List Pd}, RAs K Hf σ vs as → ress ρ as = some xs → noSl i as = true → RDs K (lentH Hf H O (some l)) vs xs
  | _, _, _, .nil, e, _ => by cases e; exact .nil
  | _, _, _, .cons (a := a) (as := as) h hs, e, n => by
    simp only [ress] at e
    cases q : res ρ a with
    | none => rw [q] at e; cases e
    | some y =>
      cases q2 : ress ρ as with
      | none => rw [q, q2] at e; cases e
      | some ys =>
        rw [q, q2] at e
        cases e
        have n2 : noSl i as = true := by
          cases a with
          | d z => exact n
          | sl j =>
            simp only [noSl, Bool.and_eq_true] at n
            exact n.2
        refine .cons (RX.lent s h q fun j c us ea ej m em hj => ?_) (lent_args s ei hl hs q2 n2)
        subst ea
        cases em
        simp only [noSl, Bool.and_eq_true, decide_eq_true_eq] at n
        exact n.1 (s.dis j i c b us ps l ej ei hj hl)
def kCallPB (n i : Nat) (g : Rho → R RV) (as : List AV) (ρ1 : Rho) : R AV :=
  if noSl i as = true ∧ as.length = n then match ress ρ1 as, ρ1[i]? with
    | some xs, some (.own b ps) => match g (.own true ps :: xs.map Sl.d) with
      | .ok (.d x) (.own _ ps' :: _) => if flatD x = true ∧ flatL ps' = true then .ok (.d x) (ρ1.set i (.own b ps')) else .bad
      | _ => .bad
    | _, _ => .bad
  else .bad
/-- f(x, e, ..): the list of the slot i is changed, other owned lists are read; flat data come -/
def fCallPB (n i : Nat) (g : Rho → R RV) (fa : Rho → R (List AV)) : Rho → R AV := fun ρ => match ρ[i]? with
  | some (.own _ _) => (fa ρ).bind fun as ρ1 => kCallPB n i g as ρ1
  | _ => .bad
theorem RAs.length {K : PySem.W.Frag} {Hf : Hp} {σ : L2.St} : ∀ {vs : List V} {as : List AV}, RAs K Hf σ vs as → vs.length = as.length
  | _, _, .nil => rfl
  | _, _, .cons _ hs => congrArg Nat.succ (RAs.length hs)
theorem d_callPB {n i : Nat} {g : Rho → R RV} {t : TA} {fa : Rho → R (List AV)} (ha : DA Z W t fa) : DE Z W (tCallS (spF Z (n + 1) g) (WE W) (tCons (tVar i) t)) (fCallPB n i g fa) := by
  intro Hf H O σ ρ s Q p
  unfold fCallPB at p
  cases e0 : ρ[i]? with
  | none => rw [e0] at p; exact p.elim
  | some z0 =>
    rw [e0] at p
    cases z0 with
    | no => exact p.elim
    | x _ => exact p.elim
    | d y => exact p.elim
    | own b0 ps0 =>
      simp only at p
      obtain ⟨l, vs0, h1, h2, h3, h4⟩ := s.own i b0 ps0 e0
      refine ⟨.ref l, h1, ?_⟩
      refine ha.bind s p fun as ρ1 vs Hf1 H1 s1 g1 k1 rs p1 => ?_
      unfold kCallPB at p1
      by_cases hc : noSl i as = true ∧ as.length = n
      case neg => rw [if_neg hc] at p1; exact p1.elim
      rw [if_pos hc] at p1
      cases ed : ress ρ1 as with
      | none => rw [ed] at p1; exact p1.elim
      | some xs =>
        cases e1 : ρ1[i]? with
        | none => rw [ed, e1] at p1; exact p1.elim
        | some z1 =>
          rw [ed, e1] at p1
          cases z1 with
          | no => exact p1.elim
          | x _ => exact p1.elim
          | d y => exact p1.elim
          | own b ps =>
            simp only at p1
            obtain ⟨l', us1, m1, m2, m3, m4⟩ := s1.own i b ps e1
            rw [h1] at m1
            cases m1
            have ex := lent_ex s1 (some l)
            have r := lent_args s1 e1 h1 rs ed hc.1
            have hfl : Hf1 l = none := (s1.otr l m2).2
            have hcl : lentH Hf1 H1 O (some l) l = none := by
              unfold lentH
              rw [if_neg fun z => z.2 rfl]
              exact hfl
            have ra := r.args ex.2
            have sc : SR Z.K (lentH Hf1 H1 O (some l)) H1 (fun a => a = l) ((V.ref l :: vs).map some) (.own true ps :: xs.map Sl.d) := by
              refine ⟨ex.2, fun a h => ?_, by simp [r.length], fun j x h => ?_, fun j c x h => ?_, fun j k c d x y m a1 a2 _ _ => ?_, fun j e' h => ?_⟩
              · subst h
                exact ⟨⟨_, m3⟩, hcl⟩
              · cases j with
                | zero => cases h
                | succ j => exact ra.slot j x h
              · cases j with
                | zero => cases h; exact ⟨l, us1, rfl, rfl, m3, m4.mono ex.1⟩
                | succ j => obtain ⟨_, _, _, z, _⟩ := ra.own j c x h; exact z.elim
              · cases j with
                | succ j => obtain ⟨_, _, _, z, _⟩ := ra.own j c x a1; exact z.elim
                | zero =>
                  cases k with
                  | zero => rfl
                  | succ k => obtain ⟨_, _, _, z, _⟩ := ra.own k d y a2; exact z.elim
              · cases j with
                | zero => cases h
                | succ j => exact ra.exc j e' h
            refine ⟨by simp [RAs.length rs, hc.2], lentH Hf1 H1 O (some l), fun a => a = l, .own true ps :: xs.map Sl.d, sc, ioArgsP, ?_⟩
            cases eg : g (.own true ps :: xs.map Sl.d) with
            | bad => rw [eg] at p1; exact p1.elim
            | ex y as' => rw [eg] at p1; exact p1.elim
            | ok rv as' =>
              rw [eg] at p1
              cases rv with
              | l ys => exact p1.elim
              | d y =>
                match as', p1 with
                | [], p1 => exact p1.elim
                | .no :: _, p1 => exact p1.elim
                | .x _ :: _, p1 => exact p1.elim
                | .d _ :: _, p1 => exact p1.elim
                | .own c ps' :: as'', p1 =>
                  by_cases hff : flatD y = true ∧ flatL ps' = true
                  case neg =>
                    simp only [if_neg hff] at p1
                    exact p1.elim
                  simp only [if_pos hff] at p1
                  intro v Hf' H' s' g' rd
                  obtain ⟨l1, us', q1, q2, q3, q4⟩ := s'.own 0 c ps' rfl
                  subst q2
                  have hi := (List.getElem?_eq_some_iff.mp e1).1
                  have sb : SR Z.K Hf1 H' O σ (ρ1.set i (.own b ps')) := by
                    refine ⟨fun a o h => ?_, fun a h => ?_, by simp [s1.len], fun j x h => ?_, fun j d x h => ?_, fun j k d d' x y m a1 a2 a3 a4 => ?_, fun j e' h => ?_⟩
                    · exact g'.fm a o (s1.ex a o h) fun z => by rw [z, hfl] at h; cases h
                    · obtain ⟨⟨o, t1⟩, t2⟩ := s1.otr a h
                      exact ⟨g'.tr a o t1, t2⟩
                    · by_cases z : i = j
                      · subst z
                        rw [List.getElem?_set_self hi] at h
                        cases h
                      · rw [List.getElem?_set_ne z] at h
                        exact s1.slot j x h
                    · by_cases z : i = j
                      · subst z
                        rw [List.getElem?_set_self hi] at h
                        cases h
                        exact ⟨l1, us', h1, m2, q3, q4.flatL hff.2⟩
                      · rw [List.getElem?_set_ne z] at h
                        obtain ⟨k, ws, b1, b2, b3, b4⟩ := s1.own j d x h
                        exact ⟨k, ws, b1, b2, g'.fm _ _ b3 fun z2 => z (s1.dis i j b d ps x l1 e1 h h1 (by rw [← z2]; exact b1)), b4⟩
                    · have back : ∀ {j : Nat} {d x}, (ρ1.set i (.own b ps'))[j]? = some (.own d x) → ∃ d x, ρ1[j]? = some (.own d x) := fun {j d x} q => by
                        by_cases z : i = j
                        · subst z; exact ⟨b, ps, e1⟩
                        · rw [List.getElem?_set_ne z] at q; exact ⟨d, x, q⟩
                      obtain ⟨c1, x1, a1⟩ := back a1
                      obtain ⟨c2, x2, a2⟩ := back a2
                      exact s1.dis j k c1 c2 x1 x2 m a1 a2 a3 a4
                    · by_cases z : i = j
                      · subst z
                        rw [List.getElem?_set_self hi] at h
                        cases h
                      · rw [List.getElem?_set_ne z] at h
                        exact s1.exc j e' h
                  exact p1 Hf1 H' sb ⟨Ex.refl _, fun a o h n => g'.fm a o h fun z => n (by rw [z]; exact m2), g'.tr, fun a o h => .inl h⟩ (kp_chg e1) v (rd.flat hff.1)
end
/-! ### walks and targets, the written part by its name -/
section
variable {X : Cx} {tg l : Expr}
theorem kPiList (K : PySem.W.Frag) {tl : TE} (hl : PE X l tl) (hK : X.K = K := by rfl) : PI X tg l (iList K tl) := by subst hK; exact pi_list hl
theorem kPiTup (K : PySem.W.Frag) {tl : TE} (hl : PE X l tl) (hK : X.K = K := by rfl) : PI X tg l (iTup K tl) := by subst hK; exact pi_tup hl
theorem kPiZip (K : PySem.W.Frag) {e e2 : Expr} {ta : TA} {p pos tpos : Pos} {elts : List Expr} {kk : Nat} (hg : Gl X "zip") (hm : X.mg "zip" = none) (ha : PA X [e, e2] ta)
    (hs : starEach [e, e2] X.env = (false, eval e X.env) :: starEach [e2] X.env := by rfl) (hpl : (backTo pos (starEach [e2] X.env)).any (·.1) = false := by rfl) (hK : X.K = K := by rfl) :
    PI X (.Tuple elts kk tpos) (.Call (.Name "zip" p) [e, e2] [] pos) (iZipA K ta) := by subst hK; exact pi_zipA hg hm ha hs hpl
theorem kgTup (K : PySem.W.Frag) {es : List Expr} {k n : Nat} {pos : Pos} {t : TGs} (hc : X.calm = true) (h : PGs X es t) (hn : (assignEach es X.env).length = n := by rfl) (hst : (assignEach es X.env).findIdx? (·.1) = none := by rfl) (hK : X.K = K := by rfl) :
    PG X (.Tuple es k pos) (gTup K n t) := by subst hK; exact pg_tup hc h hn hst
end
/-! ### x[0], y = divmod(x[0], e): an owned list of one number -/
section
variable {Z : Zx} {W : WX}
abbrev rDivmod : List V → Hp → VK → Prop := fun xs H Q => ∃ i j, xs = [.int i, .int j] ∧ CDiv i j ∧ ∀ p, H p = none → Q (.ref p) (upd H p (.tup [.int (i / j), .int (i % j)]))
/-- the slot i holds the list, the slot j takes the rest -/
def fTake (i j : Nat) (fe : Rho → R AV) : Rho → R Fl := fun ρ => match ρ[i]? with
  | some (.own _ [.int n]) => (fe ρ).bind fun a ρ1 => match a, ρ1[i]? with
    | .d (.int m), some (.own b [_]) => if 0 < m ∧ m < 1073741824 then
        match put j (.int (n % m)) (ρ1.set i (.own b [.int (n / m)])) with
        | some ρ2 => .ok .nx ρ2
        | none => .bad
      else .bad
    | _, _ => .bad
  | _ => .bad
theorem s_take {i j : Nat} {te : TE} {fe : Rho → R AV} (he : DE Z W te fe) :
    DS Z W (tAsg (tCB rDivmod (tCons (tOp (rIx Z.K) (tVar i) (tC (.int 0))) (tCons te tNil))) (gTup Z.K 2 (gCons (gSub (tVar i) (tC (.int 0)) rSetL) (gCons (gName j) gNil)))) (fTake i j fe) := by
  intro Hf H O σ ρ s En p
  unfold fTake at p
  split at p
  case h_2 => exact p.elim
  rename_i b0 n0 e0
  obtain ⟨l, vs, h1, h2, h3, h4⟩ := s.own i b0 _ e0
  cases h4 with
  | cons r0 rn =>
    cases rn
    cases r0
    -- x[0]
    refine ⟨.ref l, h1, .inl ⟨l, _, 0, .int n0, rfl, rfl, sq_of h3, rfl, ?_⟩⟩
    refine DJ.bindS he s p fun a ρ1 v Hf1 H1 s1 g1 k1 rv p1 => ?_
    split at p1
    case h_2 => exact p1.elim
    rename_i m b x e1
    cases rv
    by_cases hm : 0 < m ∧ m < 1073741824
    case neg => rw [if_neg hm] at p1; exact p1.elim
    rw [if_pos hm] at p1
    refine ⟨n0, m, rfl, hm, fun t nt => ?_⟩
    obtain ⟨l', us, q1, q2, q3, q4⟩ := s1.own i b [x] e1
    rw [h1] at q1
    cases q1
    cases q4 with
    | cons rx rn =>
      cases rn
      rename_i w
      have pg := Pg.lay (o := .tup [.int (n0 / m), .int (n0 % m)]) s1.ex nt
      have s2 := s1.grow pg
      have hl2 : upd H1 t (.tup [.int (n0 / m), .int (n0 % m)]) l = some (.lst [w]) := pg.eh _ _ q3
      have s3 := s2.chg (us := [.int (n0 / m)]) (ys := [.int (n0 / m)]) e1 h1 hl2 (.cons (.int _) .nil)
      refine ⟨t, _, rfl, st_of upd_same, rfl, _, _, rfl, .ref l, h1, l, [w], 0, 0, rfl, rfl, hl2, rfl, _, _, rfl, rfl, ?_⟩
      cases ep : put j (.int (n0 % m)) (ρ1.set i (.own b [.int (n0 / m)])) with
      | none => rw [ep] at p1; exact p1.elim
      | some ρ2 =>
        rw [ep] at p1
        obtain ⟨hj, rfl, nj⟩ := put_some ep
        refine p1 Hf1 _ O _ (s3.putD hj (.int _)) ((g1.trans pg.gr).chg q2) Orl.refl (Kq.trans (Kq.trans k1.kq (kp_chg (ys := [.int (n0 / m)]) e1).kq) fun k xs ek => ?_)
        have z : j ≠ k := fun z => nj xs (by rw [z]; exact ek)
        rw [List.getElem?_set_ne z, List.getElem?_set_ne z]
        exact ⟨⟨xs, ek⟩, rfl⟩
end
/-! ### f(new list, e, ..): the new list is changed and then forgotten -/
section
variable {Z : Zx} {W : WX}
theorem SR.temp {K : PySem.W.Frag} {Hf H Hf2 H2 Hf' H' : Hp} {O : Addr → Prop} {σ : L2.St} {ρ2 : Rho} {l : Addr} (h0 : H l = none) (no : ¬ O l) (s2 : SR K Hf2 H2 O σ ρ2) (g2 : Gr O Hf H Hf2 H2) (e' : Ex Hf' H') (g : Gr (fun a => a = l) Hf2 H2 Hf' H') : SR K Hf' H' O σ ρ2 ∧ Gr O Hf H Hf' H' := by
  refine ⟨⟨e', fun a h => ?_, s2.len, fun i x h => ?_, fun i b xs h => ?_, s2.dis, fun i e' h => ?_⟩, ⟨g2.ex.trans g.ex, fun a o h n => ?_, fun a o h => ?_, fun a o h => ?_⟩⟩
  · obtain ⟨⟨o, t1⟩, t2⟩ := s2.otr a h
    refine ⟨g.tr a o t1, ?_⟩
    cases e1 : Hf' a with
    | none => rfl
    | some u =>
      rcases g.nw a u e1 with z | z | z
      · rw [t2] at z; cases z
      · rw [t1] at z; cases z
      · rw [z] at h; exact (no h).elim
  · obtain ⟨v, t1, t2⟩ := s2.slot i x h
    exact ⟨v, t1, t2.mono g.ex⟩
  · obtain ⟨k, ws, b1, b2, b3, b4⟩ := s2.own i b xs h
    exact ⟨k, ws, b1, b2, g.fm _ _ b3 fun z => no (by rw [← z]; exact b2), b4.mono g.ex⟩
  · obtain ⟨v, t1, t2⟩ := s2.exc i e' h
    exact ⟨v, t1, t2.mono g.ex⟩
  · refine g.fm a o (g2.fm a o h n) fun z => ?_
    rw [z, h0] at h; cases h
  · obtain ⟨o1, h1⟩ := g2.tr a o h
    exact g.tr a o1 h1
  · rcases g.nw a o h with z | z | z
    · exact g2.nw a o z
    · exact .inr (.inl (g2.gone z))
    · exact .inr (.inl (by rw [z]; exact h0))
def kCallT (g : Rho → R RV) (ps : List Pd) (o : Option (List Pd)) (ρ1 : Rho) : R AV := match o with
  | some xs => match g (.own true ps :: xs.map Sl.d) with
    | .ok (.d x) _ => .ok (.d x) ρ1
    | .ex e _ => .ex e ρ1
    | _ => .bad
  | none => .bad
def fCallT (n : Nat) (g : Rho → R RV) (fl : Rho → R (List Pd)) (fa : Rho → R (List AV)) : Rho → R AV := fun ρ => (fl ρ).bind fun ps ρ1 => (fa ρ1).bind fun as ρ2 => kCallT g ps (argsD n as) ρ2
theorem d_callT {n : Nat} {g : Rho → R RV} {tl : TE} {t : TA} {fl : Rho → R (List Pd)} {fa : Rho → R (List AV)} (hl : DL Z W tl fl) (ha : DA Z W t fa) : DE Z W (tCallS (spF Z (n + 1) g) (WE W) (tCons tl t)) (fCallT n g fl fa) := by
  intro Hf H O σ ρ s Q p
  refine hl Hf H O σ ρ s _ ?_
  unfold fCallT at p
  cases el : fl ρ with
  | bad => rw [el] at p; exact p
  | ex x ρ1 => rw [el] at p; exact p
  | ok ps ρ1 =>
    rw [el] at p
    intro Hf1 H1 s1 g1 k1 lv rl
    obtain ⟨l, us, rfl, h0, h1, h2, h3⟩ := rl
    have no : ¬ O l := fun z => by
      obtain ⟨⟨o, q⟩, _⟩ := s.otr l z
      rw [h0] at q; cases q
    have p : PostG Z W O σ ρ Hf H (fun a _ Hf' H' => ∀ v, RA Z.K Hf' σ v a → Q v H') ((fa ρ1).bind fun as ρ2 => kCallT g ps (argsD n as) ρ2) := p
    refine ha Hf1 H1 O σ ρ1 s1 _ ?_
    cases ea : fa ρ1 with
    | bad => rw [ea] at p; exact p
    | ex x ρ2 => rw [ea] at p; exact fun cls d Hf' H' s' g' k' xr => p cls d Hf' H' s' (g1.trans g') (k1.trans k') xr
    | ok as ρ2 =>
      rw [ea] at p
      intro Hf2 H2 s2 g2 k2 vs rs
      have p : PostG Z W O σ ρ Hf H (fun a _ Hf' H' => ∀ v, RA Z.K Hf' σ v a → Q v H') (kCallT g ps (argsD n as) ρ2) := p
      unfold kCallT at p
      cases ed : argsD n as with
      | none => rw [ed] at p; exact p.elim
      | some xs =>
        rw [ed] at p
        simp only at p
        obtain ⟨r, hn⟩ := argsD_ok rs ed
        have hl2 : H2 l = some (.lst us) := g2.fm _ _ h1 no
        have fl2 : Hf2 l = none := g2.stays h1 h2 no
        have ra := r.args s2.ex
        have sc : SR Z.K Hf2 H2 (fun a => a = l) ((V.ref l :: vs).map some) (.own true ps :: xs.map Sl.d) := by
          refine ⟨s2.ex, fun a h => ?_, by simp [r.length], fun j x h => ?_, fun j c x h => ?_, fun j k c d x y m a1 a2 _ _ => ?_, fun j e' h => ?_⟩
          · subst h
            exact ⟨⟨_, hl2⟩, fl2⟩
          · cases j with
            | zero => cases h
            | succ j => exact ra.slot j x h
          · cases j with
            | zero => cases h; exact ⟨l, us, rfl, rfl, hl2, h3.mono g2.ex⟩
            | succ j => obtain ⟨_, _, _, z, _⟩ := ra.own j c x h; exact z.elim
          · cases j with
            | succ j => obtain ⟨_, _, _, z, _⟩ := ra.own j c x a1; exact z.elim
            | zero =>
              cases k with
              | zero => rfl
              | succ k => obtain ⟨_, _, _, z, _⟩ := ra.own k d y a2; exact z.elim
          · cases j with
            | zero => cases h
            | succ j => exact ra.exc j e' h
        refine ⟨congrArg Nat.succ hn, Hf2, fun a => a = l, .own true ps :: xs.map Sl.d, sc, ioArgsP, ?_⟩
        cases eg : g (.own true ps :: xs.map Sl.d) with
        | bad => rw [eg] at p; exact p.elim
        | ex y as' =>
          rw [eg] at p
          intro cls d Hf' H' s' g' xr
          obtain ⟨sb, gb⟩ := SR.temp h0 no s2 (g1.trans g2) s'.ex g'
          exact p cls d Hf' H' sb gb (k1.trans k2) xr
        | ok rv as' =>
          rw [eg] at p
          cases rv with
          | l ys => exact p.elim
          | d y =>
            intro v Hf' H' s' g' rd
            obtain ⟨sb, gb⟩ := SR.temp h0 no s2 (g1.trans g2) s'.ex g'
            exact p Hf' H' sb gb (k1.trans k2) v rd
end
end Dt
/-! more operations: slices back to front -/
namespace Dt
open PySem PySem.Spec L2 Evl PyProof.Rows
section
variable {prog : Program} {w : World} {A : Around} {E : Value → Shared → Prop} {s : Shared}
theorem sliceApplied_back {sl : Addr} {vl vu vs : Value} {n : Nat} {Q : Int × Int × Nat → Shared → Prop} (hs : s.heap.IsSliceOf sl vl vu vs) (pl : IsPart vl none) (pu : IsPart vu none) (ps : IsPart vs (some (-1)))
    (h : Q ((n : Int) - 1, -1, n) s) : wpAny (model prog w) A (Builtin.Slice.sliceApplied (.ref sl) (pure (n : Int))) Q E s := by
  obtain ⟨os, hos, hcs, hds⟩ := id hs
  unfold Builtin.Slice.sliceApplied Builtin.Slice.sliceFields
  refine wpAny_bind (wpAny_bind (wpAny_field hos hds (x := vl) rfl (wpAny_bind (wpAny_field hos hds (x := vu) rfl (wpAny_bind (wpAny_field hos hds (x := vs) rfl (wpAny_pure ?_)))))))
  refine wpAny_bind (HT.slicePart_ ps ?_)
  show wpAny _ _ (if ((-1 : Int) == 0) = true then _ else _) _ _ s
  rw [if_neg (by decide)]
  refine wpAny_bind (HT.slicePart_ pl (wpAny_bind (HT.slicePart_ pu (wpAny_bind (wpAny_pure ?_)))))
  have e : Builtin.Slice.sliceAdjust none none (-1) (n : Int) = ((n : Int) - 1, -1) := rfl
  show wpAny _ _ (match Builtin.Slice.sliceAdjust none none (-1) (n : Int) with | (lo, hi) => pure (lo, (-1 : Int), Builtin.Slice.slicePlaces lo hi (-1))) _ _ s
  rw [e]
  show wpAny _ _ (pure ((n : Int) - 1, (-1 : Int), Builtin.Slice.slicePlaces ((n : Int) - 1) (-1) (-1))) _ _ s
  have e2 : Builtin.Slice.slicePlaces ((n : Int) - 1) (-1) (-1) = n := by
    unfold Builtin.Slice.slicePlaces
    simp only [show ¬ ((-1 : Int) > 0) by omega, if_false]
    split <;> simp <;> omega
  rw [e2]
  exact wpAny_pure h
theorem pick_back (xs : Array Value) : ((List.range xs.size).filterMap fun (m : Nat) => xs[((xs.size : Int) - 1 + (m : Int) * (-1)).toNat]?).toArray = xs.toList.reverse.toArray := by
  have e : (List.range xs.size).filterMap (fun (m : Nat) => xs[((xs.size : Int) - 1 + (m : Int) * (-1)).toNat]?) = ((List.range xs.size).map fun m => xs.size - 1 - m).filterMap (xs[·]?) := by
    rw [List.filterMap_map]
    have key : ∀ l : List Nat, (∀ m ∈ l, m < xs.size) → l.filterMap (fun (m : Nat) => xs[((xs.size : Int) - 1 + (m : Int) * (-1)).toNat]?) = l.filterMap ((fun x => xs[x]?) ∘ fun m => xs.size - 1 - m) := by
      intro l
      induction l with
      | nil => intro _; rfl
      | cons m l ih =>
        intro h
        have hm := h m List.mem_cons_self
        have : ((xs.size : Int) - 1 + (m : Int) * (-1)).toNat = xs.size - 1 - m := by omega
        rw [List.filterMap_cons, List.filterMap_cons, ih fun y hy => h y (List.mem_cons_of_mem _ hy), this]
        rfl
    exact key _ fun m hm => List.mem_range.mp hm
  rw [e, PySem.W.krv_range, List.filterMap_reverse, PySem.W.krv_all]
theorem getItem_tuple_back {t sl : Addr} {items : Array Value} {vl vu vs : Value} {Q : Value → Shared → Prop} (ht : IsTup s.heap t items) (hs : s.heap.IsSliceOf sl vl vu vs) (pl : IsPart vl none) (pu : IsPart vu none) (ps : IsPart vs (some (-1)))
    (h : Q (.ref s.heap.objs.size) { s with heap := s.heap.push { cls := .type "tuple", data := .seq items.toList.reverse.toArray } })
    (hsz : items.size ≤ sizeLine) : wpAny (model prog w) A (getItem (.ref t) (.ref sl)) Q E s := by
  have htake : sizeOk (.seq items.toList.reverse.toArray) := by
    show items.toList.reverse.toArray.size ≤ sizeLine
    rw [List.size_toArray, List.length_reverse, Array.length_toList]
    omega
  obtain ⟨os, hos, hcs, hds⟩ := id hs
  have hTs : s.TypeIs (.ref sl) "slice" := ⟨os, hos, hcs⟩
  unfold getItem
  try with_reducible refine wpAny_holding ?_
  first | refine wpAny_bind (wpAny_pure ?_) | skip
  refine wpAny_bind (wpAny_sequenceKey ht.typeIs (by decide) ?_)
  refine wpAny_bind (wpAny_callSpecial?_slot (name := Str.ofString "__getitem__") ht.typeIs PyProof.Rows.slot_tuple_getitem
    (wpAny_call_entry PyProof.Rows.slot_tuple_getitem ht.typeIs entry_tuple_getitem ?_ (args_tuple_getitem _ _)))
  show wpAny _ _ (Builtin.Tuple.tupleItemsOf (.ref t) >>= _) _ _ s
  refine wpAny_bind (tupleItemsOf_ ht ?_)
  refine wpAny_bind (wpAny_typeOf hTs ?_)
  rw [if_pos (by decide)]
  refine wpAny_bind (sliceApplied_back hs pl pu ps ?_)
  have hno : ¬ (((((items.size : Nat) : Int) - 1) == 0 && (-1 : Int) == 1 && items.size == items.size) = true) := by
    intro q
    rw [Bool.and_eq_true, Bool.and_eq_true] at q
    exact absurd q.1.2 (by decide)
  show wpAny _ _ (if ((((items.size : Nat) : Int) - 1) == 0 && (-1 : Int) == 1 && items.size == items.size) = true then _ else _) _ _ s
  rw [if_neg hno, pick_back]
  first
    | exact wpAny_bind (m := Builtin.Tuple.tupleExact _) (wpAny_newObj_type (wpAny_pure ⟨_, rfl, wpAny_pure h⟩) htake)
    | exact wpAny_bind (m := Builtin.Tuple.tupleExact _) (wpAny_newObj_type (wpAny_bind (wpAny_pure (wpAny_pure ⟨_, rfl, wpAny_pure h⟩))) htake)
    | exact wpAny_bind (wpAny_bind (m := Builtin.Tuple.tupleExact _) (wpAny_newObj_type (wpAny_pure (wpAny_pure ⟨_, rfl, wpAny_pure h⟩)) htake))
    | exact wpAny_bind (wpAny_bind (m := Builtin.Tuple.tupleExact _) (wpAny_newObj_type (wpAny_pure ⟨_, rfl, wpAny_pure h⟩) htake))
end
/-! ### x[::-1] -/
def revS (z : Str) : Str := ⟨z.cps.toList.reverse.toArray⟩
theorem revS_eq (z : Str) (u : Tok) : Txt.sliceBy z none none (-1, u) = revS z := by
  have h := step_rev_list z u
  have : (Txt.sliceBy z none none (-1, u)).cps.toList = z.cps.toList.reverse := by
    rw [h]
    apply List.ext_getElem
    · simp [Str.length]
    · intro i h1 h2
      rw [List.getElem_map, List.getElem_range, List.getElem_reverse]
      have hi : i < z.cps.size := by simpa using h2
      have hz : z.length = z.cps.size := rfl
      rw [hz]
      have hlt : z.cps.size - 1 - i < z.cps.size := by omega
      show z.cps.getD (z.cps.size - 1 - i) 0 = z.cps.toList[z.cps.size - 1 - i]
      rw [Array.getD_eq_getD_getElem?, Array.getElem?_eq_getElem hlt]
      rfl
  unfold revS
  rw [← this]
def rRev (K : PySem.W.Frag) : V → Hp → VK → Prop := fun x H Q =>
  (∃ a xs, x = .ref a ∧ SqL K H a xs ∧ ∀ p, H p = none → Q (.ref p) (upd H p (.lst xs.reverse))) ∨ (∃ a xs, x = .ref a ∧ SqT K H a xs ∧ ∀ p, H p = none → Q (.ref p) (upd H p (.tup xs.reverse))) ∨ (∃ z, x = .str z ∧ z.length ≤ sizeLine ∧ Q (.str (revS z)) H)
section
variable {X : Cx}
theorem pe_rev (K : PySem.W.Frag) {e : Expr} {te : TE} {k : Nat} {p1 p2 p3 pos : Pos} (he : PE X e te) (hK : X.K = K := by rfl) : PE X (.Subscript e (.Slice none none (some (.UnaryOp .USub (.Constant (.int 1) k p1) p2)) p3) pos) (tUn (rRev K) te) := by
  subst hK
  refine ⟨fun pins s σ H Q I h => ?_⟩
  refine Subscript_ (thn (he.run pins s σ H _ I h) fun v s1 ⟨x, H1, I1, r1, q1⟩ => ?_)
  have hst : PO X (some (.UnaryOp .USub (.Constant (.int 1) k p1) p2)) (tPart (tUn (rU fun i => .int (-i)) (tC (.int 1)))) := po_some (pe_un un_neg pe_int)
  refine wpAny_Slice (thn (po_none.run pins s1 σ H1 (fun o H2 => o = none ∧ H2 = H1) I1 ⟨rfl, rfl⟩) fun vl s2 ⟨l, H2, I2, pl, el, e2⟩ => ?_)
  subst el e2
  refine thn (po_none.run pins s2 σ H2 (fun o H3 => o = none ∧ H3 = H2) I2 ⟨rfl, rfl⟩) fun vu s3 ⟨u, H3, I3, pu, eu, e3⟩ => ?_
  subst eu e3
  refine thn (hst.run pins s3 σ H3 (fun o H4 => o = some (-1) ∧ H4 = H3) I3 ⟨1, rfl, -1, rfl, rfl, rfl⟩) fun vs s4 ⟨o, H4, I4, ps, eo, e4⟩ => ?_
  subst eo e4
  have I5 : Inv X pins σ H4 { s4 with heap := s4.heap.push { cls := .type "slice", data := .fields #[vl, vu, vs] } } := I4.kept (t' := s4.toks) fun b ob q => Heap.get?_push_of_some _ q
  rcases q1 with ⟨a, xs, ex, hx, q⟩ | ⟨a, xs, ex, hx, q⟩ | ⟨z, ex, hz, q⟩
  · subst ex
    cases r1
    obtain ⟨its, r, ht, hz⟩ := I5.list hx
    have hlen := r.length
    show wpAny (model X.prog X.w) X.A (subscriptTail e (.Slice none none (some (.UnaryOp .USub (.Constant (.int 1) k p1) p2)) p3) (.ref a) (.ref s4.heap.objs.size)) (EP X pins σ Q) X.xe { s4 with heap := s4.heap.push { cls := .type "slice", data := .fields #[vl, vu, vs] } }
    refine tail_any (ops := [.ref a, .ref s4.heap.objs.size]) ht.isList.typeIs (PySem.slot_list_getitem.lookup) ?_ (by with_unfolding_all rfl)
    refine wpAny_getItem_list_slice ht.isList (Heap.IsSliceOf.new _ vl vu vs) pl pu ps (by decide) ?_ (by rw [List.size_toArray]; omega)
    rw [PySem.W.krv_pick]
    refine ⟨.ref _, _, I5.laid (t' := s4.toks) (o := .lst xs.reverse) (fun b ob q => Heap.get?_push_of_some _ q) (Nat.le_refl _) ?_, rfl, q _ (I5.hok.fresh (Nat.le_refl _))⟩
    exact ⟨by rw [List.length_reverse]; exact hz, _, 0, r.reverse, Heap.get?_push_size _ rfl⟩
  · subst ex
    cases r1
    obtain ⟨its, r, ht, hz⟩ := I5.tuple hx
    have hlen := r.length
    show wpAny (model X.prog X.w) X.A (subscriptTail e (.Slice none none (some (.UnaryOp .USub (.Constant (.int 1) k p1) p2)) p3) (.ref a) (.ref s4.heap.objs.size)) (EP X pins σ Q) X.xe { s4 with heap := s4.heap.push { cls := .type "slice", data := .fields #[vl, vu, vs] } }
    refine tail_any (ops := [.ref a, .ref s4.heap.objs.size]) ht.typeIs (PyProof.Rows.slot_tuple_getitem.lookup) ?_ (by with_unfolding_all rfl)
    refine getItem_tuple_back ht (Heap.IsSliceOf.new _ vl vu vs) pl pu ps ?_ (by rw [List.size_toArray]; omega)
    refine ⟨.ref _, _, I5.laid (t' := s4.toks) (o := .tup xs.reverse) (fun b ob q => Heap.get?_push_of_some _ q) (Nat.le_refl _) ?_, rfl, q _ (I5.hok.fresh (Nat.le_refl _))⟩
    exact ⟨by rw [List.length_reverse]; exact hz, _, r.reverse, IsTup.new _ _⟩
  · subst ex
    obtain ⟨t, rfl⟩ := r1
    show wpAny (model X.prog X.w) X.A (subscriptTail e (.Slice none none (some (.UnaryOp .USub (.Constant (.int 1) k p1) p2)) p3) (.str z t) (.ref s4.heap.objs.size)) (EP X pins σ Q) X.xe { s4 with heap := s4.heap.push { cls := .type "slice", data := .fields #[vl, vu, vs] } }
    cases pl
    cases pu
    cases ps with
    | int i uk =>
      refine tail_any (ops := [.ref s4.heap.objs.size, .str z t]) (typeIs_str _ _ _) F.slot_str_getitem.lookup (wpAny_getItem_str_slice (l := none) (u := none) (st := some (-1, uk)) ⟨_, Heap.get?_push_size _ rfl, rfl, rfl⟩ rfl
        (post_val_or_str ⟨Nat.le_trans (Txt.sliceBy_le z _ _ (-1, uk) (by show (-1 : Int) ≠ 0; decide)) hz, fun t' c => ?_⟩)) (by with_unfolding_all rfl)
      show EP X pins σ Q (Value.str (Txt.sliceBy z none none (-1, uk)) t') _
      rw [revS_eq]
      exact ⟨.str _, H4, I5.tok _, ⟨_, rfl⟩, q⟩
end
def revD : Pd → Option Pd
  | .list xs => some (.list xs.reverse)
  | .tuple xs => some (.tuple xs.reverse)
  | .str z => if z.length ≤ sizeLine then some (.str (revS z)) else none
  | _ => none
section
variable {K : PySem.W.Frag}
theorem ru_rev : RUn K (rRev K) revD := by
  intro Hf H x dx z e hx h Q q
  cases dx with
  | list xs =>
    cases h
    obtain ⟨l, vs, rfl, h1, h2⟩ := hx.list e
    refine .inl ⟨l, vs, rfl, h1, fun p np => ?_⟩
    exact q _ _ _ (Pg.new e np) (.lst (sq_of upd_same) (h2.reverse.mono (Pg.new (o := .lst vs.reverse) e np).ef))
  | tuple xs =>
    cases h
    obtain ⟨l, vs, rfl, h0, h1, h2⟩ := hx.tuple e
    refine .inr (.inl ⟨l, vs, rfl, h1, fun p np => ?_⟩)
    exact q _ _ _ (Pg.new e np) (.tup (st_of upd_same) (h2.reverse.mono (Pg.new (o := .tup vs.reverse) e np).ef))
  | str y =>
    have h' : (if y.length ≤ sizeLine then some (PyData.str (revS y)) else none) = some z := h
    by_cases hl : y.length ≤ sizeLine
    · rw [if_pos hl] at h'
      cases h'
      obtain rfl := hx.str
      exact .inr (.inr ⟨y, rfl, hl, q _ _ _ (Pg.refl e) (.str _)⟩)
    · rw [if_neg hl] at h'; cases h'
  | _ => cases h
end
/-! ### a tuple once -/
theorem tuple_mul1 (l : Addr) (items : Array Value) (n : Nat) (dd : Option Addr) (sl : Array (Option Value)) (u : Tok) :
    Meets (Builtin.«tuple.__mul__» ⟨[.ref l, .int 1 u], []⟩) (fun _ R s => s.heap.get? l = some { cls := .type "tuple", dict := dd, data := .seq items n, slots := sl } ∧ R (.ok (.ret (Value.ref l))) s) :=
  .of_wp fun prog w A R s h => by
    obtain ⟨hp, g, d, tk, os⟩ := s
    obtain ⟨hl, h⟩ := h
    have f1 := AutoSeq1.idx_int
    have c0 : (decide ((1 : Int) < -(2 ^ 63)) || decide ((1 : Int) ≥ 2 ^ 63)) = false := by decide
    have c1 : (items.isEmpty || (1 : Int) == 1) = true := by simp
    wp_walk using AutoSeq1.wpAny_loadPart' hl
    repeat (first
      | (refine wpAny_ite_false (decide_eq_false (by rw [c0]; exact Bool.false_ne_true)) ?_; wp_walk using AutoSeq1.wpAny_loadPart' hl)
      | (refine wpAny_ite_true (decide_eq_true c1) ?_; wp_walk using AutoSeq1.wpAny_loadPart' hl))
    exact ⟨_, rfl, h⟩
def rOnceT (K : PySem.W.Frag) : R2 := fun x y H Q => ∃ l xs, x = .ref l ∧ y = .int 1 ∧ SqT K H l xs ∧ Q (.ref l) H
theorem op_onceT {X : Cx} : OpR X (binaryOp .Mult) (rOnceT X.K) := by
  intro pins s σ H x y v u Q I rx ry h
  obtain ⟨l, xs, rfl, rfl, hT, q⟩ := h
  cases rx
  obtain ⟨t, rfl⟩ := ry
  obtain ⟨its, r, ⟨⟨cls, dd, data, sl⟩, ho, hc, n, hd⟩, hs⟩ := I.tuple hT
  simp only at hc hd
  subst hc hd
  refine wpAny_binaryOp_repeat_ref (T := "tuple") (U := "int") (by decide) ⟨_, ho, rfl⟩ (fun s' => typeIs_int s' 1 t) noFill_tuple_mul F.fills_int_mul F.slot_int_rmul repeat_tuple F.slot_int_index.lookup
    (call_meets F.slot_int_rmul (typeIs_int s 1 t) F.entry_int_rmul (F.args_int_rmul_2 _ _) (int_rmul_tuple 1 t l its.toArray n dd sl)
      ⟨ho, rfl, ⟨_, ho, rfl⟩, call_meets F.slot_tuple_mul ⟨_, ho, rfl⟩ F.entry_tuple_mul (F.args_tuple_mul_2 _ _) (tuple_mul1 l its.toArray n dd sl t) ⟨ho, ?_⟩⟩)
  exact ⟨.ref l, H, I, rfl, q⟩
abbrev rMulC (K : PySem.W.Frag) : R2 := fun x y H Q => rMulA K x y H Q ∨ rOnceT K x y H Q
theorem kMulC {X : Cx} (K : PySem.W.Frag) (hK : X.K = K := by rfl) : OpR X (binaryOp .Mult) (rMulC K) := by
  subst hK
  exact (kMul X.K).or op_onceT
/-- .. and a tuple once -/
def mulC : Pd → Pd → Option Pd
  | .tuple xs, .int 1 => some (.tuple xs)
  | x, y => mulB x y
theorem ro_mulC {K : PySem.W.Frag} : ROp K (rMulC K) mulC := by
  intro Hf H x y dx dy z e hx hy h Q q
  unfold mulC at h
  split at h
  · cases h
    obtain ⟨l, vs, rfl, t1, t2, r1⟩ := hx.tuple e
    exact .inr ⟨l, vs, rfl, hy.int, t2, q _ Hf H (Pg.refl e) (.tup t1 r1)⟩
  · exact .inl (ro_mulB Hf H x y _ _ z e hx hy h Q q)
end Dt
/-! more operations: is True, dicts read, lists many times, texts cut -/
namespace Dt
open PySem PySem.Spec L2 Evl PyProof.Rows
theorem u1 {k : Nat} {A : Around} (r : Room k A) : A.units + 1 < cLine := by have := r.un; omega
/-! ### x is True -/
def rIsB (n : Bool) : R2 := fun x y H Q => ∃ a b, x = .bl a ∧ y = .bl b ∧ Q (.bl (if n then a != b else a == b)) H
theorem op_isB {X : Cx} : OpR X (compareOp .Is) (rIsB false) := by
  intro pins s σ H x y v u Q I rx ry h
  obtain ⟨a, b, rfl, rfl, q⟩ := h
  cases rx
  cases ry
  exact is_bool (fin_bl I q rfl)
theorem op_isNotB {X : Cx} : OpR X (compareOp .IsNot) (rIsB true) := by
  intro pins s σ H x y v u Q I rx ry h
  obtain ⟨a, b, rfl, rfl, q⟩ := h
  cases rx
  cases ry
  exact isnot_bool (fin_bl I q rfl)
def isBD : Pd → Pd → Option Pd
  | .bool a, .bool b => some (.bool (a == b))
  | _, _ => none
def isNotBD : Pd → Pd → Option Pd
  | .bool a, .bool b => some (.bool (a != b))
  | _, _ => none
@[simp] theorem isBD_b {a b : Bool} : isBD (.bool a) (.bool b) = some (.bool (a == b)) := rfl
@[simp] theorem isNotBD_b {a b : Bool} : isNotBD (.bool a) (.bool b) = some (.bool (a != b)) := rfl
section
variable {K : PySem.W.Frag}
theorem ro_isB : ROp K (rIsB false) isBD := by
  intro Hf H x y dx dy z e hx hy h Q q
  unfold isBD at h
  split at h
  · cases h; exact ⟨_, _, hx.bool, hy.bool, q _ Hf H (Pg.refl e) (.bl _)⟩
  · cases h
theorem ro_isNotB : ROp K (rIsB true) isNotBD := by
  intro Hf H x y dx dy z e hx hy h Q q
  unfold isNotBD at h
  split at h
  · cases h; exact ⟨_, _, hx.bool, hy.bool, q _ Hf H (Pg.refl e) (.bl _)⟩
  · cases h
/-! ### dicts -/
theorem RX.dict {Hf H : Hp} {v : V} {ds : List (Pd × Pd)} (h : RX K Hf H v (.dict ds)) : ∃ a kvs, v = .ref a ∧ Hf a = some (.dK kvs) ∧ RKs K Hf kvs ds := by
  rcases h with h | ⟨l, vs, ys, rfl, q, h1, h2⟩
  · cases h with
    | dct h hs => exact ⟨_, _, rfl, h, hs⟩
  · cases q
def lookD (k : Key) : List (Pd × Pd) → Option Pd
  | [] => none
  | (kd, v) :: r => if keyD kd = some k then some v else lookD k r
theorem keyD_kD (k : Key) : keyD (kD k) = some k := by cases k <;> rfl
theorem RKs.look {H : Hp} (k : Key) : ∀ {kvs : List (Key × V)} {ds : List (Pd × Pd)}, RKs K H kvs ds → match lookD k ds with | some d => ∃ v, valV kvs k = some v ∧ RD K H v d | none => valV kvs k = none
  | _, _, .nil => rfl
  | _, _, .cons (k := k') (v := v) (vs := vs) (d := d) (ds := ds) h hs => by
    have ih := RKs.look k hs
    simp only [lookD, keyD_kD, Option.some.injEq]
    by_cases e : k' = k
    · rw [if_pos e]; exact ⟨v, valV_pos e, h⟩
    · rw [if_neg e, valV_neg (p := (k', v)) e]; exact ih
def rDGet : R2 := fun x y H Q => ∃ a v, x = .ref a ∧ DGet H a y (some v) ∧ Q v H
theorem kDGet {X : Cx} {o i : Expr} {td ty : TE} {pos : Pos} (hu : X.A.units + 1 < cLine) (ho : PE X o td) (hi : PE X i ty) (hs : NoSl i) : PE X (.Subscript o i pos) (tOp rDGet td ty) := pe_dget hu ho hi hs
def dgetD : Pd → Pd → Option Pd
  | .dict ds, k => match keyD k with
    | some k => lookD k ds
    | none => none
  | _, _ => none
theorem ro_dget : ROp K rDGet dgetD := by
  intro Hf H x y dx dy z e hx hy h Q q
  cases dx with
  | dict ds =>
    have h : (match keyD dy with | some k => lookD k ds | none => none) = some z := h
    cases ek : keyD dy with
    | none => rw [ek] at h; cases h
    | some kk =>
      rw [ek] at h
      obtain ⟨a, kvs, rfl, h1, h2⟩ := hx.dict
      have hl := RKs.look kk h2
      have h : lookD kk ds = some z := h
      rw [h] at hl
      obtain ⟨v, hv, rv⟩ := hl
      have hyr : RD K Hf y dy := by
        rcases hy with hy | ⟨l, vs, ys, rfl, e2, _⟩
        · exact hy
        · subst e2; cases ek
      obtain ⟨rfl, _⟩ := keyD_ok hyr ek
      exact ⟨a, v, rfl, .inl ⟨kvs, kk, .inl (e a _ h1), rfl, hv.symm⟩, q _ Hf H (Pg.refl e) rv⟩
  | _ => cases h
/-! ### dict(pairs) -/
def pairsD : List Pd → Option (List (Key × Pd))
  | [] => some []
  | .tuple [k, v] :: r => match keyD k, pairsD r with
    | some k, some r => some ((k, v) :: r)
    | _, _ => none
  | _ => none
def rDictP (K : PySem.W.Frag) : List V → Hp → VK → Prop := fun xs H Q => ∃ (a : Addr) (ps : List Addr) (kvs : List (Key × V)), xs = [.ref a] ∧ SqL K H a (ps.map V.ref) ∧ Paired (fun p kv => SqT K H p [kV kv.1, kv.2]) ps kvs ∧
    ∀ p, H p = none → Q (.ref p) (upd H p (.dK (mergeK [] kvs)))
theorem kDictP {X : Cx} (K : PySem.W.Frag) (hc : X.calm = true) (hK : X.K = K := by rfl) : CallR X (.type "dict") (rDictP K) := by subst hK; exact call_dictP hc
def dictD : List Pd → Option Pd
  | [.list ps] => match pairsD ps with
    | some kvs => if (kvs.map (·.1)).Nodup then some (.dict (kvs.map fun p => (kD p.1, p.2))) else none
    | none => none
  | _ => none
theorem merge_new : ∀ (more acc : List (Key × V)), ((acc ++ more).map (·.1)).Nodup → mergeK acc more = acc ++ more
  | [], acc, _ => by simp [mergeK]
  | (k, v) :: r, acc, h => by
    have hn : (acc.any fun kv => decide (kv.1 = k)) = false := by
      rw [List.any_eq_false]
      intro p hp e
      have e := of_decide_eq_true e
      rw [List.map_append, List.nodup_append] at h
      exact h.2.2 p.1 (List.mem_map_of_mem hp) k (by simp) e
    show mergeK (putK acc k v) r = _
    have : putK acc k v = acc ++ [(k, v)] := by unfold putK; rw [hn]; rfl
    rw [this, merge_new r (acc ++ [(k, v)]) (by simpa using h)]
    simp
theorem pairs_ok {Hf H : Hp} (e : Ex Hf H) : ∀ {vs : List V} {ps : List Pd} {kvs : List (Key × Pd)}, RDs K Hf vs ps → pairsD ps = some kvs → ∃ (as : List Addr) (ws : List (Key × V)), vs = as.map V.ref ∧ Paired (fun p kv => SqT K H p [kV kv.1, kv.2]) as ws ∧ ws.map (·.1) = kvs.map (·.1) ∧ RKs K Hf ws (kvs.map fun p => (kD p.1, p.2))
  | _, _, _, .nil, h => by cases h; exact ⟨[], [], rfl, .nil, rfl, .nil⟩
  | _, _, kvs, .cons (v := v) (vs := vs) (d := d) (ds := ds) r rs, h => by
    cases r with
    | tup hs hr =>
      rename_i a xs es
      cases hr with
      | nil => simp [pairsD] at h
      | cons r1 r2 =>
        cases r2 with
        | nil => simp [pairsD] at h
        | cons r2 r3 =>
          cases r3 with
          | cons _ _ => simp [pairsD] at h
          | nil =>
            rename_i kv kd vv vd
            simp only [pairsD] at h
            split at h
            · rename_i k rr hk hrr
              cases h
              obtain ⟨as, ws, rfl, hp, hm, hk2⟩ := pairs_ok e rs hrr
              obtain ⟨rfl, rfl⟩ := keyD_ok r1 hk
              exact ⟨a :: as, (k, vv) :: ws, rfl, .cons (ex_t e hs) hp, by simp [hm], .cons r2 hk2⟩
            · cases h
    | _ => simp [pairsD] at h
theorem rc_dict : RCall K (rDictP K) dictD := by
  intro Hf H vs xs z e hs h Q q
  unfold dictD at h
  split at h
  · rename_i ps
    split at h
    · rename_i kvs hk
      split at h
      · rename_i hnd
        cases h
        obtain ⟨v, rfl, hv⟩ := hs.one
        obtain ⟨l, us, rfl, t, r⟩ := hv.list e
        obtain ⟨as, ws, rfl, hp, hm, hr⟩ := pairs_ok e r hk
        refine ⟨l, as, ws, rfl, t, hp, fun p np => ?_⟩
        rw [merge_new ws [] (by rw [List.nil_append, hm]; exact hnd), List.nil_append]
        have g := Pg.new (o := .dK ws) e np
        exact q _ _ _ g (.dct upd_same (hr.mono g.ef))
      · cases h
    · cases h
  · cases h
/-! ### texts cut -/
def splitD : Pd → List Pd → Option Pd
  | .str a, [.str b] => if (b.length == 0) = false ∧ a.length + 2 ≤ sizeLine then some (.list ((Txt.split a b).map .str)) else none
  | _, _ => none
def partD : Pd → List Pd → Option Pd
  | .str a, [.str b] => if (b.length == 0) = false ∧ a.length ≤ sizeLine then some (.tuple [.str (Txt.partition a b).1, .str (Txt.partition a b).2.1, .str (Txt.partition a b).2.2]) else none
  | _, _ => none
abbrev rSplit : V → List V → Hp → VK → Prop := fun x xs H Q => ∃ a b, x = .str a ∧ xs = [.str b] ∧ (b.length == 0) = false ∧ a.length + 2 ≤ sizeLine ∧ rNewStrs (Txt.split a b) H Q
abbrev rPart : V → List V → Hp → VK → Prop := fun x xs H Q => ∃ a b, x = .str a ∧ xs = [.str b] ∧ (b.length == 0) = false ∧ a.length ≤ sizeLine ∧
      ∀ p, H p = none → Q (.ref p) (upd H p (.tup [.str (Txt.partition a b).1, .str (Txt.partition a b).2.1, .str (Txt.partition a b).2.2]))
theorem rm_split : RMt K "str" rSplit splitD := by
  intro Hf H x vs dx xs z e hx hs h Q q
  unfold splitD at h
  split at h
  · split at h
    · rename_i a b hc
      cases h
      obtain ⟨v, rfl, hv⟩ := hs.one
      refine ⟨a, b, hx.str, by rw [hv.str], hc.1, hc.2, fun p np => ?_⟩
      have g := Pg.new (o := .lst ((Txt.split a b).map V.str)) e np
      exact q _ _ _ g (.lst (sq_of upd_same) (RDs.strs _))
    · cases h
  · cases h
theorem rm_part : RMt K "str" rPart partD := by
  intro Hf H x vs dx xs z e hx hs h Q q
  unfold partD at h
  split at h
  · split at h
    · rename_i a b hc
      cases h
      obtain ⟨v, rfl, hv⟩ := hs.one
      refine ⟨a, b, hx.str, by rw [hv.str], hc.1, hc.2, fun p np => ?_⟩
      have g := Pg.new (o := .tup [.str (Txt.partition a b).1, .str (Txt.partition a b).2.1, .str (Txt.partition a b).2.2]) e np
      exact q _ _ _ g (.tup (st_of upd_same) (.cons (.str _) (.cons (.str _) (.cons (.str _) .nil))))
    · cases h
  · cases h
end
/-! ### [..] * n -/
section
variable {Z : Zx} {W : WX}
def kRepL (xs : List Pd) (a : AV) (ρ : Rho) : R (List Pd) := match a with
  | .d (.int k) => if 0 ≤ k ∧ k ≤ 1000 ∧ xs.length ≤ 1000 then .ok (List.replicate k.toNat xs).flatten ρ else .bad
  | _ => .bad
def fRepL (fl : Rho → R (List Pd)) (fk : Rho → R AV) : Rho → R (List Pd) := fun ρ => (fl ρ).bind fun xs ρ1 => (fk ρ1).bind fun a ρ2 => kRepL xs a ρ2
theorem l_rep {tl tk : TE} {fl : Rho → R (List Pd)} {fk : Rho → R AV} (hl : DL Z W tl fl) (hk : DE Z W tk fk) : DL Z W (tOp rRep tl tk) (fRepL fl fk) := by
  intro Hf H O σ ρ s Q p
  refine hl Hf H O σ ρ s _ ?_
  unfold fRepL at p
  cases el : fl ρ with
  | bad => rw [el] at p; exact p
  | ex x ρ1 => rw [el] at p; exact p
  | ok ps ρ1 =>
    rw [el] at p
    intro Hf1 H1 s1 g1 k1 lv rl
    obtain ⟨l, us, rfl, h0, h1, h2, h3⟩ := rl
    have no : ¬ O l := fun z => by
      obtain ⟨⟨o, q⟩, _⟩ := s.otr l z
      rw [h0] at q; cases q
    have p : PostG Z W O σ ρ Hf H (fun a _ Hf' H' => ∀ v, RL Z.K H Hf' H' v a → Q v H') ((fk ρ1).bind fun a ρ2 => kRepL ps a ρ2) := p
    refine hk Hf1 H1 O σ ρ1 s1 _ ?_
    cases ea : fk ρ1 with
    | bad => rw [ea] at p; exact p
    | ex x ρ2 => rw [ea] at p; exact fun cls d Hf' H' s' g' k' xr => p cls d Hf' H' s' (g1.trans g') (k1.trans k') xr
    | ok a ρ2 =>
      rw [ea] at p
      intro Hf2 H2 s2 g2 k2 v rv
      have p : PostG Z W O σ ρ Hf H (fun a _ Hf' H' => ∀ v, RL Z.K H Hf' H' v a → Q v H') (kRepL ps a ρ2) := p
      cases a with
      | sl _ => exact p.elim
      | d da =>
      cases da with
      | int k =>
        have p : PostG Z W O σ ρ Hf H (fun a _ Hf' H' => ∀ v, RL Z.K H Hf' H' v a → Q v H') (if 0 ≤ k ∧ k ≤ 1000 ∧ ps.length ≤ 1000 then .ok (List.replicate k.toNat ps).flatten ρ2 else .bad) := p
        by_cases hc : 0 ≤ k ∧ k ≤ 1000 ∧ ps.length ≤ 1000
        · rw [if_pos hc] at p
          have hl2 : H2 l = some (.lst us) := g2.fm _ _ h1 no
          have ev : v = .int k := by
            have rv : RD Z.K Hf2 v (.int k) := rv
            cases rv; rfl
          have hul := h3.length
          refine ⟨l, k, us, rfl, ev, hl2, by omega, by omega, ?_, fun q nq => ?_⟩
          · show us.length * k.toNat ≤ 16777216
            have : us.length * k.toNat ≤ 1000 * 1000 := Nat.mul_le_mul (by omega) (by omega)
            omega
          · have g := Pg.lay (o := .lst (List.replicate k.toNat us).flatten) s2.ex nq
            exact p Hf2 _ (s2.grow g) ((g1.trans g2).trans g.gr) (k1.trans k2) _ ⟨q, _, rfl, (g1.trans g2).gone nq, upd_same, fresh_back s2.ex nq, (h3.mono g2.ex).reps _⟩
        · rw [if_neg hc] at p; exact p.elim
      | _ => exact p.elim
end
/-! ### d.get(k, x) -/
section
variable {Z : Zx} {W : WX}
def kDGet2 (a b c : AV) (ρ : Rho) : R AV := match a, b, c with
  | .d (.dict ds), .d k, .d x => (match keyD k with
    | some k => .ok (.d ((lookD k ds).getD x)) ρ
    | none => .bad)
  | _, _, _ => .bad
def isDct : AV → Bool
  | .d (.dict _) => true
  | _ => false
def fDGet2 (fd fy fx : Rho → R AV) : Rho → R AV := fun ρ => (fd ρ).bind fun a ρ1 => if isDct a = true then (fy ρ1).bind fun b ρ2 => (fx ρ2).bind fun c ρ3 => kDGet2 a b c ρ3 else .bad
theorem d_dget2 {td ty tx : TE} {fd fy fx : Rho → R AV} (hd : DE Z W td fd) (hy : DE Z W ty fy) (hx : DE Z W tx fx) : DE Z W (tDGet2 td ty tx) (fDGet2 fd fy fx) := by
  intro Hf H O σ ρ s Q p
  refine hd.bind s p fun a ρ1 x Hf1 H1 s1 g1 k1 rx p1 => ?_
  by_cases hc : isDct a = true
  · rw [if_pos hc] at p1
    cases a with
    | sl _ => cases hc
    | d da =>
      cases da with
      | dict ds =>
        have rx : RD Z.K Hf1 x (.dict ds) := rx
        cases rx with
        | dct h hs =>
          rename_i kvs aa
          refine ⟨_, rfl, .inl ⟨_, .inl (s1.ex _ _ h)⟩, ?_⟩
          refine hy.bind s1 p1 fun b ρ2 y Hf2 H2 s2 g2 k2 ry p2 => ?_
          refine hx.bind s2 p2 fun c ρ3 z Hf3 H3 s3 g3 k3 rz p3 => ?_
          cases b with
          | sl _ => exact p3.elim
          | d k =>
            cases c with
            | sl _ => exact p3.elim
            | d xd =>
              cases ek : keyD k with
              | none =>
                unfold kDGet2 at p3
                simp only [ek] at p3
                exact p3.elim
              | some kk =>
                unfold kDGet2 at p3
                simp only [ek] at p3
                obtain ⟨rfl, _⟩ := keyD_ok (show RD Z.K Hf2 y k from ry) ek
                have h3 : Hf3 _ = some (.dK _) := g3.ex _ _ (g2.ex _ _ h)
                refine ⟨_, .inl ⟨_, kk, .inl (s3.ex _ _ h3), rfl, rfl⟩, ?_⟩
                have hl := RKs.look kk (hs.mono (g2.ex.trans g3.ex))
                cases el : lookD kk ds with
                | none =>
                  rw [el] at hl p3
                  rw [hl]
                  exact p3 Hf3 H3 s3 Gr.refl Kp.refl _ rz
                | some v =>
                  rw [el] at hl p3
                  obtain ⟨w, hw, rw'⟩ := hl
                  rw [hw]
                  exact p3 Hf3 H3 s3 Gr.refl Kp.refl _ rw'
      | _ => cases hc
  · rw [if_neg hc] at p1; exact p1.elim
end
section
variable {ρ : Rho} {xs : List Pd}
@[simp] theorem fDGet2_ap {fd fy fx : Rho → R AV} : fDGet2 fd fy fx ρ = (fd ρ).bind fun a ρ1 => if isDct a = true then (fy ρ1).bind fun b ρ2 => (fx ρ2).bind fun c ρ3 => kDGet2 a b c ρ3 else .bad := rfl
@[simp] theorem isDct_d {ds : List (Pd × Pd)} : isDct (.d (.dict ds)) = true := rfl
@[simp] theorem kDGet2_s {ds : List (Pd × Pd)} {k : Str} {x : Pd} : kDGet2 (.d (.dict ds)) (.d (.str k)) (.d x) ρ = .ok (.d ((lookD (.inr k) ds).getD x)) ρ := rfl
@[simp] theorem fRepL_ap {fl : Rho → R (List Pd)} {fk : Rho → R AV} : fRepL fl fk ρ = (fl ρ).bind fun xs ρ1 => (fk ρ1).bind fun a ρ2 => kRepL xs a ρ2 := rfl
@[simp] theorem kRepL_int {k : Int} : kRepL xs (.d (.int k)) ρ = if 0 ≤ k ∧ k ≤ 1000 ∧ xs.length ≤ 1000 then .ok (List.replicate k.toNat xs).flatten ρ else .bad := rfl
@[simp] theorem dgetD_str {ds : List (Pd × Pd)} {x : Str} : dgetD (.dict ds) (.str x) = lookD (.inr x) ds := rfl
@[simp] theorem lookD_nil {k : Key} : lookD k [] = none := rfl
@[simp] theorem lookD_cons {k : Key} {kd v : Pd} {r : List (Pd × Pd)} : lookD k ((kd, v) :: r) = if keyD kd = some k then some v else lookD k r := rfl
@[simp] theorem keyD_str {x : Str} : keyD (.str x) = some (.inr x) := rfl
@[simp] theorem dictD_list : dictD [.list xs] = (match pairsD xs with | some kvs => if (kvs.map (·.1)).Nodup then some (.dict (kvs.map fun p => (kD p.1, p.2))) else none | none => none) := rfl
@[simp] theorem splitD_str {a b : Str} : splitD (.str a) [.str b] = if (b.length == 0) = false ∧ a.length + 2 ≤ sizeLine then some (.list ((Txt.split a b).map .str)) else none := rfl
@[simp] theorem partD_str {a b : Str} : partD (.str a) [.str b] = if (b.length == 0) = false ∧ a.length ≤ sizeLine then some (.tuple [.str (Txt.partition a b).1, .str (Txt.partition a b).2.1, .str (Txt.partition a b).2.2]) else none := rfl
end
end Dt
set_option maxHeartbeats 2000000
/-! exceptions: raised, caught and kept, asked -/
namespace Dt
open PySem PySem.Spec L2 Evl PyProof.Rows
section
variable {X : Cx} {pins : List (Addr × Obj)} {σ : L2.St} {H : Hp} {s : Shared}
/-- an object that came since the entry and isn't tracked yet may be tracked -/
theorem Inv_track {a : Addr} {o : HO} {oe : Obj} {vs : Array Value} (I : L2.Inv X pins σ H s) (n0 : X.s_0.heap.get? a = none) (na : H a = none) (nL : a ≠ X.env.locals) (he : s.heap.get? a = some oe) (hd : oe.data = .fields vs) (np : ∀ p ∈ X.pn ++ pins, p.1 ≠ a)
    (new : ObjOk X.prog X.w (upd H a o) s.heap a o) : L2.Inv X pins σ (upd H a o) s := by
  have ne0 : ∀ b ob, X.s_0.heap.get? b = some ob → b ≠ a := fun b ob e z => by rw [z, n0] at e; cases e
  have nec : ∀ x c, X.env.cells.lookup x = some c → c ≠ a := fun x c e z => by
    obtain ⟨v, ob, ho, hc⟩ := I.cell x c e
    rw [z, he] at ho
    cases ho
    rw [hd] at hc
    cases hc
  refine ⟨I.ok, I.os, I.bare, ⟨I.base.keep, I.base.slot, fun b ob e n hx => ?_, I.base.there, fun b xs e => ?_, fun b ob u e => ?_, fun b ps e => ?_⟩, I.loc, I.cell, ?_, fun x c e => ?_, fun p hp => ?_, I.hok.laidN (fun _ _ q => q) na new, I.len⟩
  · rw [upd_ne (ne0 b ob e)]; exact I.base.free b ob e n hx
  · have q := I.base.tups b xs e; rw [upd_ne (ne_of_none q na)]; exact q
  · have q := I.base.frzs b ob u e; rw [upd_ne (ne_of_none q na)]; exact q
  · obtain ⟨m, q⟩ := I.base.tbls b ps e; exact ⟨m, by rw [upd_ne (ne_of_none q na)]; exact q⟩
  · rw [upd_ne (Ne.symm nL)]; exact I.free
  · rw [upd_ne (nec x c e)]; exact I.freeC x c e
  · obtain ⟨e, n, r⟩ := I.pin p hp
    exact ⟨e, by rw [upd_ne (np p hp)]; exact n, r⟩
theorem exN_ok {P : Program} {w : World} {H : Hp} {h : Heap} {a : Addr} {cls : Value} {d : Option Addr} {oe : Obj} {vs : Array Value} (e : h.get? a = some oe) (z : Zc cls d oe) (hd : oe.data = .fields vs) : ObjOk P w H h a (ExN cls d a) :=
  ⟨⟨oe, vs, e, z, hd⟩, ⟨oe, e⟩, fun _ _ ⟨o, v, q, r⟩ k => ⟨o, v, k o q, r⟩⟩
end
/-- .. a caught exception is kept, tracked at its address -/
def wAsT (K : PySem.W.Frag) (c : Value) (i : Nat) (ts : Addr → Value → Option Addr → TS) (Wout : WX) (D : Ends) : WX := fun cls d σ H =>
  ∃ b, PySem.W.exmOne K cls c = some b ∧ (b = true → ∀ a, H a = none → ts a cls d { nx := fun σ' H' => D.nx (σ'.set i none) (upd H' a (ExN cls d a)), rt := fun _ _ => False, bk := fun _ _ => False, ct := fun _ _ => False } (σ.set i (some (.ref a))) H) ∧
    (b = false → Wout cls d σ H)
section
variable {X : Cx} {x n : Str} {c : Value} {i : Nat} {body suite : List Stmt} {b₀ : Stmt} {np pos pos' : Pos} {tb : WX → TS} {ts : Addr → Value → Option Addr → TS} {Wout : WX}
theorem ps_try_T (hs : X.stack = X.env :: X.outer) (hf : X.env.frame = some X.env.locals) (hex : X.ex = []) (hN : X.N.Nodup) (hi : X.N[i]? = some n) (hln : X.env.kindOf n = some .local) (hc : Names X x c) (tk : Takes X Wout)
    (hb : ∀ (W : WX) (pn : List (Addr × Obj)) (xe : Value → Shared → Prop), Takes (X.tr pn xe) W → PassesOwn (model X.prog X.w) X.A X.env xe → PSs (X.tr pn xe) body (tb W))
    (hsu : ∀ (a : Addr) (oe : Obj) (cls : Value) (d : Option Addr) (pn : List (Addr × Obj)), Zc cls d oe → (∃ vs, oe.data = .fields vs) → PSs (X.suite a ((a, oe) :: pn)) (b₀ :: suite) (ts a cls d)) :
    PS X (.Try body [.ExceptHandler (some (.Name x np)) (some n) (b₀ :: suite) pos'] [] [] pos) (fun D σ H => tb (wAsT X.K c i ts Wout D) D σ H) := by
  refine ⟨fun pins s σ H D I h => ?_⟩
  have ok := I.ok
  have hfr : X.A.frames = some (X.env :: X.outer) := by rw [ok.frames, hs]
  have hloc : Loc X.env.scope n := .inl hln
  refine wpAny_Try_except ?_
  refine wpAny_mono ((hb (wAsT X.K c i ts Wout D) (X.pn ++ pins) (fun e s₁ => wpAny (model X.prog X.w) X.A (noteFrame e X.env) (fun _ s₂ => wpAny (model X.prog X.w) X.A (setFlight e none) (fun _ s₃ =>
    wpAny (model X.prog X.w) X.A (handleBy e X.env [.ExceptHandler (some (.Name x np)) (some n) (b₀ :: suite) pos']) (SP X pins D) X.xe s₃) X.xe s₂) X.xe s₁) (fun u s' xx => ?_) PassesOwn.looking).run [] s σ H D (I.toTry _) h) (fun f s1 hsp => ?_) (fun e s1 he => he)
  · -- the catch
    obtain ⟨a, B, sI, pins', σ', H', cls, d, rfl, J', nb, up, sky, na, os, ag, b, hb1, hyes, hno⟩ := xx
    have J : L2.Inv X pins σ' H' sI := J'.ofTry ok
    have sky' : Sky B (X.env :: X.outer) a (Zc cls d) X.env.locals s'.heap := by rw [← hs]; exact sky
    show wpAny (model X.prog X.w) X.A (noteFrame (.ref a) X.env) _ _ _
    refine Sky.land Zc.steady hfr hf sky' fun h3 fl3 up3 => ?_
    have J3 : L2.Inv X pins σ' H' { s' with heap := h3 } := J.landed nb fl3.1 (up.trans up3) os ag
    obtain ⟨oe3, vs3, he3, hz3, hd3⟩ := fl3.there
    have notFr : ∀ {h : Heap} {o : Obj} {vs : Array Value}, h.FunFrames B (X.env :: X.outer) → h.get? a = some o → o.data = .fields vs → a ∉ frs (X.env :: X.outer) := fun {h o vs} ff e dd hm => by
      obtain ⟨_, o', e', hnf⟩ := ff.mem hm
      rw [e] at e'; cases e'
      exact hnf _ dd
    have nfr := notFr fl3.2.2.1 he3 hd3
    have nL : a ≠ X.env.locals := fun z => nfr (List.mem_filterMap.mpr ⟨X.env, List.mem_cons_self, by rw [hf, z]⟩)
    have nF : a ∉ X.fs := fun hm => by
      obtain ⟨e, he, q⟩ := List.mem_filterMap.mp hm
      exact nfr (List.mem_filterMap.mpr ⟨e, List.mem_cons_of_mem _ he, q⟩)
    -- it is new
    have nI : sI.heap.get? a = none := by
      cases e : sI.heap.get? a with
      | none => rfl
      | some o =>
        have := nb a o e (by rw [hs]; exact nfr)
        rw [fl3.2.1] at this
        cases this
    have n0 : X.s_0.heap.get? a = none := by
      cases e : X.s_0.heap.get? a with
      | none => rfl
      | some o =>
        obtain ⟨o', q⟩ := J.base.there a o e (by rw [hex]; exact fun z => nomatch z)
        rw [nI] at q; cases q
    have npin : ∀ p ∈ X.pn ++ pins, p.1 ≠ a := fun p hp z => by
      obtain ⟨q, _⟩ := J.pin p hp
      rw [z, nI] at q; cases q
    have S3 := J3.suite he3 hd3 na nL nF
    refine wpAny_handleBy_cons (codeAny_handlers_test ?_) (by intro q; cases q)
    have LT : PySem.W.Looks (model X.prog X.w) h3 (typeOf (.ref a)) cls := fun A Q E s k q => wpAny_typeOf_ref (k _ _ he3) (by rw [hz3.1]; exact q)
    have LM := PySem.W.exm_one (M := model X.prog X.w) (J3.kIn) LT hb1
    have test : ∀ {Q : Value → Shared → Prop} {E : Value → Shared → Prop}, Q c { s' with heap := h3 } → wpAny (model X.prog X.w) (X.A.mark (some (.ref a))) (eval (.Name x np) X.env) Q E { s' with heap := h3 } := fun {Q E} q => by
      obtain ⟨hg, hdbg, hm | ⟨hm, hv, hnn⟩⟩ := hc
      · exact ld_glob (X := X.suite a ((a, oe3) :: (X.pn ++ pins))) S3 hg hm q hdbg
      · exact ld_blt (X := X.suite a ((a, oe3) :: (X.pn ++ pins))) S3 hg hm hv q hnn hdbg
    refine test (LM.here ?_)
    cases b with
    | true =>
      refine codeAny_handlers_suite_as ?_
      refine HandSPX.lands_againZ fl3 fun h4 fl4 up4 => ?_
      have J4 : L2.Inv X pins σ' H' { s' with heap := h4 } := J.landed nb fl4.1 ((up.trans up3).trans up4) os ag
      obtain ⟨oe4, vs4, he4, hz4, hd4⟩ := fl4.there
      have S4 := J4.suite he4 hd4 na nL nF
      refine store_ok (X := X.suite a ((a, oe4) :: (X.pn ++ pins))) (v := .ref a) S4 hN hi hloc rfl (fun s5 S5 => ?_) (.inr hln)
      refine wpAny_mono ((hsu a oe4 cls d (X.pn ++ pins) hz4 ⟨_, hd4⟩).run [] s5 _ H' _ S5 (hyes rfl a na)) (fun f s6 hsp => ?_) (fun _ _ z => False.elim z)
      cases f with
      | next =>
        obtain ⟨σ6, H6, S6, q6⟩ := hsp
        obtain ⟨ha6, na6, _⟩ := S6.pin (a, oe4) (List.mem_append_left _ List.mem_cons_self)
        have J6 := Inv_track (S6.unsuite ok) n0 na6 nL ha6 hd4 npin (exN_ok (P := X.prog) (w := X.w) (H := upd H6 a (ExN cls d a)) ha6 hz4 hd4)
        exact gone_ok J6 hN hi hln fun s7 J7 => ⟨_, _, J7, q6⟩
      | brk =>
        obtain ⟨σ6, H6, S6, q6⟩ := hsp
        exact q6.elim
      | cont =>
        obtain ⟨σ6, H6, S6, q6⟩ := hsp
        exact q6.elim
      | ret u =>
        obtain ⟨v6, σ6, H6, S6, r6, q6⟩ := hsp
        exact q6.elim
    | false =>
      show wpAny _ X.A (handleBy (.ref a) X.env []) _ _ _
      refine wpAny_handleBy_nil ?_
      obtain ⟨k1, k2, k3, oe, vs, T, oT, ts', he, hz, hd, h1, hr⟩ := id fl3
      unfold PySem.passOn
      refine wpAny_bind (wpAny_field he hd h1 ?_)
      rw [if_neg (show ¬ ((Value.ref T == Value.none) = true) from by simp)]
      have fin : wpAny (model X.prog X.w) X.A (setFlight (.ref a) X.env.frame) (fun _ s4 => wpAny (model X.prog X.w) X.A (throw (.ref a) : Sem Flow) (SP X pins D) X.xe s4) X.xe { s' with heap := h3 } := by
        rw [hf]
        refine HandSPX.setFlight_upZ fl3 fun h4 hh4 up4 => wpAny_throw (tk _ _ ?_)
        exact ⟨a, B, sI, pins, σ', H', cls, d, rfl, J, nb, (up.trans up3).trans up4, .inr (.inr (by rw [hs]; exact hh4)), na, os, ag, hno rfl⟩
      first
        | exact wpAny_bind (wpAny_pure (wpAny_bind fin))
        | exact wpAny_bind fin
  · cases f with
    | next =>
      obtain ⟨σ', H', J', q⟩ := hsp
      exact wpAny_execs_nil ⟨σ', H', J'.ofTry ok, q⟩
    | brk =>
      obtain ⟨σ', H', J', q⟩ := hsp
      exact ⟨σ', H', J'.ofTry ok, q⟩
    | cont =>
      obtain ⟨σ', H', J', q⟩ := hsp
      exact ⟨σ', H', J'.ofTry ok, q⟩
    | ret u =>
      obtain ⟨v, σ', H', J', r, q⟩ := hsp
      exact ⟨v, σ', H', J'.ofTry ok, r, q⟩
end
/-! ### isinstance of a kept exception -/
/-- what the class D must say, so that isinstance asks its instances rightly -/
structure XcC (K : PySem.W.Frag) (D : Addr) : Prop where
  cl : (PySem.W.clsIn K D).isSome = true
  hg : PySem.W.findIn K (.ref D) "__getattribute__" = some (some (.builtin "BaseException.__getattribute__"))
  hk : PySem.W.findIn K (.ref D) "__getattr__" = some none
  hs : PySem.W.subIn K (.ref D) (.type "BaseException") = some true
  hd : PySem.W.hasDictIn K D = true
  ha : PySem.W.findIn K (.ref D) "__class__" = some (some (.builtin "object.__class__"))
  hn : PySem.W.specialIn K (.builtin "object.__class__") "__get__" = some (some (.builtin "getset_descriptor.__get__"))
  ht : PySem.W.takesIn K (.builtin "object.__class__") = some true
  hm : PySem.W.mroIn K D (.type "object") = some true
def xcB (K : PySem.W.Frag) (D : Addr) : Bool :=
  (PySem.W.clsIn K D).isSome && (decide (PySem.W.findIn K (.ref D) "__getattribute__" = some (some (.builtin "BaseException.__getattribute__"))) && (decide (PySem.W.findIn K (.ref D) "__getattr__" = some none) && (decide (PySem.W.subIn K (.ref D) (.type "BaseException") = some true) && (PySem.W.hasDictIn K D && (decide (PySem.W.findIn K (.ref D) "__class__" = some (some (.builtin "object.__class__"))) && (decide (PySem.W.specialIn K (.builtin "object.__class__") "__get__" = some (some (.builtin "getset_descriptor.__get__"))) && (decide (PySem.W.takesIn K (.builtin "object.__class__") = some true) && decide (PySem.W.mroIn K D (.type "object") = some true))))))))
theorem xcB_ok {K : PySem.W.Frag} {D : Addr} (h : xcB K D = true) : XcC K D := by
  unfold xcB at h
  simp only [Bool.and_eq_true, decide_eq_true_eq] at h
  obtain ⟨h1, h2, h3, h4, h5, h6, h7, h8, h9⟩ := h
  exact ⟨h1, h2, h3, h4, h5, h6, h7, h8, h9⟩
/-- isinstance(e, c) of an exception that is kept -/
def rIsT (K : PySem.W.Frag) : List V → Hp → VK → Prop := fun xs H Q => ∃ (a D : Addr) (d : Option Addr) (c : V) (cv : Value) (b : Bool), xs = [.ref a, c] ∧ H a = some (ExN (.ref D) d a) ∧ (∀ dd, d = some dd → ∃ fs, H dd = some (.xd fs)) ∧ XcC K D ∧ (∀ u, RelV c u → u = cv) ∧ PySem.W.kitOne K (.ref D) cv = some b ∧ Q (.bl b) H
theorem call_isT {X : Cx} : CallR X (.builtin "isinstance") (rIsT X.K) := by
  intro pins s σ H xs us Q I r h
  obtain ⟨a, D, d, c, cv, b, rfl, hH, hdx, C, hcv, e, q⟩ := h
  cases r with
  | cons rx rr =>
    cases rr with
    | cons rt rr =>
      cases rr
      cases rx
      have ec := hcv _ rt
      subst ec
      obtain ⟨⟨oe, vs, hget, hz, hv⟩, _, _⟩ := I.hok a _ hH
      have J : ∃ od, PySem.W.InstAt s.heap a oe D od := by
        obtain ⟨oc, od, oda, osl⟩ := oe
        obtain ⟨h1, h2⟩ := hz
        dsimp only at h1 h2 hv
        subst h1 h2 hv
        cases od with
        | none => exact ⟨none, hget, rfl, rfl, trivial⟩
        | some dd =>
          obtain ⟨fs, hf⟩ := hdx dd rfl
          obtain ⟨mA, hns, _⟩ := I.hok dd _ hf
          obtain ⟨o, _, _, ho, _⟩ := id hns
          exact ⟨some o, hget, rfl, rfl, ho⟩
      obtain ⟨od, J⟩ := J
      exact PySem.W.kia_one (PySem.W.kitx_exc C.cl C.hg C.hk C.hs C.ha C.hn C.ht C.hm) I.kIn J e (fun z => nomatch z) fun tk => ⟨.bl b, H, I.kept (t' := tk) fun _ _ z => z, rfl, q⟩
end Dt
/-! exceptions over data -/
namespace Dt
open PySem PySem.Spec L2 Evl PyProof.Rows
/-- what the head tells of an exception's class -/
structure ExF (K : PySem.W.Frag) (mg : Str → Option Value) (x : Str) : Prop where
  g : mg x = some (.ref (cA K x))
  q : PySem.W.excIn K (cA K x) He.veBase "ValueError.__new__" = true
  k : PySem.W.keepIn K (.ref (cA K x)) = true
  s : PySem.W.subIn K (.ref (cA K x)) (.type "BaseException") = some true
  t : PySem.W.typeIn K (.ref (cA K x)) = some (.type "type")
section
variable {Z : Zx} {W : WX}
/-! ### raise C(text) -/
def fRaise (e : XD) : Rho → R Fl := fun ρ => .ex e ρ
theorem s_raise {c : Str} : DS Z W (fun _ σ H => W (.ref (cA Z.K c)) none σ H) (fRaise ⟨c, none⟩) := fun Hf H O σ ρ s En p => p _ _ Hf H O σ s Gr.refl Orl.refl Kq.refl ⟨rfl, rfl⟩
theorem k_raise {X : Cx} {W : WX} (K : PySem.W.Frag) {x m : Str} {j : Nat} {p p2 pos pos' : Pos} (hc : X.calm = true) (tk : Takes X W) (F : ExF K X.mg x) (hg : Gl X x) (hdb : (x == ("__debug__" : Str)) = false := by decide) (hK : X.K = K := by rfl) :
    PS X (.Raise (some (.Call (.Name x p) [.Constant (.str m) j p2] [] pos)) none pos') (fun _ σ H => W (.ref (cA K x)) none σ H) := by
  subst hK
  exact ps_raise hc tk (pmk_own PySem.F.excBase_ValueError F.q F.g F.k (raises_own F.s F.t) hg hdb)
/-! ### try: .. except C as n: y = n -/
def ioS : Sl → Bool
  | .own true _ => true
  | _ => false
def fTryN (sub : Str → Option Bool) (fb : Rho → R Fl) (i j : Nat) : Rho → R Fl := fun ρ => match fb ρ with
  | .ex e ρ1 => (match sub e.c with
    | some true => (match ρ1[i]?, ρ1[j]? with
      | some si, some sj => if (ioS si || ioS sj || decide (i = j)) = true then .bad else .ok .nx ((ρ1.set j (.x e)).set i .no)
      | _, _ => .bad)
    | some false => .ex e ρ1
    | none => .bad)
  | r => r
theorem SR.putX {K : PySem.W.Frag} {Hf H : Hp} {O : Addr → Prop} {σ : L2.St} {ρ : Rho} (s : SR K Hf H O σ ρ) {i : Nat} {a : Addr} {e : XD} (hi : i < ρ.length) (r : XH K Hf a e) : SR K Hf H O (σ.set i (some (.ref a))) (ρ.set i (.x e)) where
  ex := s.ex
  otr := s.otr
  len := by simp [s.len]
  slot := fun j y h => by
    by_cases z : i = j
    · subst z; rw [List.getElem?_set_self hi] at h; cases h
    · rw [List.getElem?_set_ne z] at h ⊢; exact s.slot j y h
  own := fun j b xs h => by
    by_cases z : i = j
    · subst z; rw [List.getElem?_set_self hi] at h; cases h
    · rw [List.getElem?_set_ne z] at h ⊢; exact s.own j b xs h
  dis := fun j k b c xs ys l h1 h2 h3 h4 => by
    by_cases z : i = j
    · subst z; rw [List.getElem?_set_self hi] at h1; cases h1
    · by_cases z2 : i = k
      · subst z2; rw [List.getElem?_set_self hi] at h2; cases h2
      · rw [List.getElem?_set_ne z] at h1 h3
        rw [List.getElem?_set_ne z2] at h2 h4
        exact s.dis j k b c xs ys l h1 h2 h3 h4
  exc := fun j e' h => by
    by_cases z : i = j
    · subst z
      rw [List.getElem?_set_self hi] at h
      cases h
      exact ⟨a, List.getElem?_set_self (by rw [s.len]; exact hi), r⟩
    · rw [List.getElem?_set_ne z] at h ⊢; exact s.exc j e' h
/-- a slot forgotten -/
theorem SR.drop {K : PySem.W.Frag} {Hf H : Hp} {O : Addr → Prop} {σ : L2.St} {ρ : Rho} (s : SR K Hf H O σ ρ) {i : Nat} {u : Option V} (hi : i < ρ.length) : SR K Hf H O (σ.set i u) (ρ.set i .no) where
  ex := s.ex
  otr := s.otr
  len := by simp [s.len]
  slot := fun j y h => by
    by_cases z : i = j
    · subst z; rw [List.getElem?_set_self hi] at h; cases h
    · rw [List.getElem?_set_ne z] at h ⊢; exact s.slot j y h
  own := fun j b xs h => by
    by_cases z : i = j
    · subst z; rw [List.getElem?_set_self hi] at h; cases h
    · rw [List.getElem?_set_ne z] at h ⊢; exact s.own j b xs h
  dis := fun j k b c xs ys l h1 h2 h3 h4 => by
    by_cases z : i = j
    · subst z; rw [List.getElem?_set_self hi] at h1; cases h1
    · by_cases z2 : i = k
      · subst z2; rw [List.getElem?_set_self hi] at h2; cases h2
      · rw [List.getElem?_set_ne z] at h1 h3
        rw [List.getElem?_set_ne z2] at h2 h4
        exact s.dis j k b c xs ys l h1 h2 h3 h4
  exc := fun j e' h => by
    by_cases z : i = j
    · subst z; rw [List.getElem?_set_self hi] at h; cases h
    · rw [List.getElem?_set_ne z] at h ⊢; exact s.exc j e' h
theorem s_tryN {tb : WX → TS} {fb : Rho → R Fl} {c : Str} {i j : Nat} {sub : Str → Option Bool} (hsub : ∀ n b, sub n = some b → PySem.W.exmOne Z.K (.ref (cA Z.K n)) (.ref (cA Z.K c)) = some b) (hb : ∀ W', DS Z W' (tb W') fb) :
    DS Z W (fun D σ H => tb (wAsT Z.K (.ref (cA Z.K c)) i (fun _ _ _ => tAsg (tVar i) (gName j)) W D) D σ H) (fTryN sub fb i j) := by
  intro Hf H O σ ρ s En p
  refine hb _ Hf H O σ ρ s En ?_
  unfold fTryN at p
  cases ef : fb ρ with
  | bad => rw [ef] at p; exact p
  | ok fl ρ1 => rw [ef] at p; exact p
  | ex e ρ1 =>
    rw [ef] at p
    intro cls d Hf1 H1 O1 σ1 s1 g1 o1 k1 xr
    obtain ⟨rfl, xf⟩ := xr
    simp only at p
    cases es : sub e.c with
    | none => rw [es] at p; exact p.elim
    | some b =>
      rw [es] at p
      refine ⟨b, hsub _ _ es, fun hbt a na => ?_, fun hbf => ?_⟩
      · subst hbt
        cases ei : ρ1[i]? with
        | none => rw [ei] at p; exact p.elim
        | some si =>
          cases ej : ρ1[j]? with
          | none => rw [ei, ej] at p; exact p.elim
          | some sj =>
            rw [ei, ej] at p
            have p : PostS Z W O σ ρ Hf H En (if (ioS si || ioS sj || decide (i = j)) = true then .bad else .ok .nx ((ρ1.set j (.x e)).set i .no)) := p
            by_cases hc : (ioS si || ioS sj || decide (i = j)) = true
            · rw [if_pos hc] at p; exact p.elim
            · rw [if_neg hc] at p
              simp only [Bool.or_eq_true, not_or, decide_eq_true_eq] at hc
              obtain ⟨⟨c1, c2⟩, c3⟩ := hc
              have hi := (List.getElem?_eq_some_iff.mp ei).1
              have hj := (List.getElem?_eq_some_iff.mp ej).1
              have g2 := Pg.new (o := ExN (.ref (cA Z.K e.c)) d a) s1.ex na
              have s2 := s1.grow g2
              have xh : XH Z.K (upd Hf1 a (ExN (.ref (cA Z.K e.c)) d a)) a e := by
                unfold XH
                cases efs : e.fs with
                | none =>
                  rw [efs] at xf
                  have xf : d = none := xf
                  subst xf
                  exact upd_same
                | some fs =>
                  rw [efs] at xf
                  obtain ⟨dd, vs, rfl, h1, h2⟩ := xf
                  exact ⟨dd, vs, upd_same, g2.ef _ _ h1, h2.mono g2.ef⟩
              have s3 := (s2.putX hj xh).drop (i := i) (u := none) (by simpa using hi)
              show ∃ v, (σ1.set i (some (.ref a)))[i]? = some (some v) ∧ _
              refine ⟨.ref a, List.getElem?_set_self (by rw [s1.len]; exact hi), ?_⟩
              show En.nx (((σ1.set i (some (.ref a))).set j (some (.ref a))).set i none) _
              have eσ : ((σ1.set i (some (.ref a))).set j (some (.ref a))).set i none = (σ1.set j (some (.ref a))).set i none := by
                rw [List.set_comm _ _ (fun z => c3 z), List.set_set]
              rw [eσ]
              refine p _ _ O1 _ s3 (g1.transO g2.gr o1) o1 (k1.trans fun k xs ek => ?_)
              have zi : i ≠ k := fun z => by
                subst z
                rw [ei] at ek
                cases ek
                exact c1 rfl
              have zj : j ≠ k := fun z => by
                subst z
                rw [ej] at ek
                cases ek
                exact c2 rfl
              rw [List.getElem?_set_ne zi, List.getElem?_set_ne zj, List.getElem?_set_ne zi, List.getElem?_set_ne zj]
              exact ⟨⟨xs, ek⟩, rfl⟩
      · subst hbf
        exact p _ d Hf1 H1 O1 σ1 s1 g1 o1 k1 ⟨rfl, xf⟩
/-! ### isinstance(e, C), e is None -/
def fIsX (sub : Str → Option Bool) (i : Nat) : Rho → R AV := fun ρ => match ρ[i]? with
  | some (.x e) => (match sub e.c with
    | some b => .ok (.d (.bool b)) ρ
    | none => .bad)
  | _ => .bad
theorem d_isX {i : Nat} {cv : V} {cu : Value} {sub : Str → Option Bool} (hcv : ∀ u, RelV cv u → u = cu) (hsub : ∀ n b, sub n = some b → XcC Z.K (cA Z.K n) ∧ PySem.W.kitOne Z.K (.ref (cA Z.K n)) cu = some b) :
    DE Z W (tCB (rIsT Z.K) (tCons (tVar i) (tCons (tC cv) tNil))) (fIsX sub i) := by
  intro Hf H O σ ρ s Q p
  unfold fIsX at p
  cases e0 : ρ[i]? with
  | none => rw [e0] at p; exact p.elim
  | some z =>
    rw [e0] at p
    cases z with
    | no => exact p.elim
    | d _ => exact p.elim
    | own _ _ => exact p.elim
    | x e =>
      simp only at p
      cases es : sub e.c with
      | none => rw [es] at p; exact p.elim
      | some b =>
        rw [es] at p
        obtain ⟨a, h1, h2⟩ := s.exc i e e0
        obtain ⟨hx, hk⟩ := hsub _ _ es
        refine ⟨.ref a, h1, ?_⟩
        have q := p Hf H s Gr.refl Kp.refl (.bl b) (RD.bl b)
        unfold XH at h2
        cases efs : e.fs with
        | none =>
          rw [efs] at h2
          exact ⟨a, _, none, cv, cu, b, rfl, s.ex _ _ h2, (fun dd z => by cases z), hx, hcv, hk, q⟩
        | some fs =>
          rw [efs] at h2
          obtain ⟨dd, vs, h3, h4, h5⟩ := h2
          exact ⟨a, _, some dd, cv, cu, b, rfl, s.ex _ _ h3, (fun d' z => by cases z; exact ⟨vs, s.ex _ _ h4⟩), hx, hcv, hk, q⟩
def fIsNX (i : Nat) : Rho → R AV := fun ρ => match ρ[i]? with
  | some (.x _) => .ok (.d (.bool false)) ρ
  | some (.d v) => .ok (.d (.bool (isNon v))) ρ
  | _ => .bad
theorem d_isNX {i : Nat} : DE Z W (tOp (fun x y H Q => y = .non ∧ Q (.bl (decide (x = .non))) H) (tVar i) (tC .non)) (fIsNX i) := by
  intro Hf H O σ ρ s Q p
  unfold fIsNX at p
  cases e0 : ρ[i]? with
  | none => rw [e0] at p; exact p.elim
  | some z =>
    rw [e0] at p
    cases z with
    | no => exact p.elim
    | own _ _ => exact p.elim
    | d v =>
      obtain ⟨u, h1, h2⟩ := s.slot i v e0
      refine ⟨u, h1, rfl, ?_⟩
      have := RX.isNon (K := Z.K) (H := H) (.inl h2)
      rw [this]
      exact p Hf H s Gr.refl Kp.refl _ (RD.bl _)
    | x e =>
      obtain ⟨a, h1, h2⟩ := s.exc i e e0
      refine ⟨.ref a, h1, rfl, ?_⟩
      exact p Hf H s Gr.refl Kp.refl _ (RD.bl _)
/-! ### f(e, ..): an exception handed on -/
def kCallX (g : Rho → R RV) (s0 : Option Sl) (o : Option (List Pd)) (ρ1 : Rho) : R AV := match s0, o with
  | some (.x e), some xs => (match g (.x e :: xs.map Sl.d) with
    | .ok (.d x) _ => .ok (.d x) ρ1
    | .ex e _ => .ex e ρ1
    | _ => .bad)
  | _, _ => .bad
def fCallX (n i : Nat) (g : Rho → R RV) (fa : Rho → R (List AV)) : Rho → R AV := fun ρ => match ρ[i]? with
  | some (.x _) => (fa ρ).bind fun as ρ1 => kCallX g ρ1[i]? (argsD n as) ρ1
  | _ => .bad
theorem d_callX {n i : Nat} {g : Rho → R RV} {t : TA} {fa : Rho → R (List AV)} (ha : DA Z W t fa) : DE Z W (tCallS (spF Z (n + 1) g) (WE W) (tCons (tVar i) t)) (fCallX n i g fa) := by
  intro Hf H O σ ρ s Q p
  unfold fCallX at p
  cases e0 : ρ[i]? with
  | none => rw [e0] at p; exact p.elim
  | some z0 =>
    rw [e0] at p
    cases z0 with
    | no => exact p.elim
    | d _ => exact p.elim
    | own _ _ => exact p.elim
    | x e0' =>
      simp only at p
      obtain ⟨a0, h1, h2⟩ := s.exc i e0' e0
      refine ⟨.ref a0, h1, ?_⟩
      refine ha.bind s p fun as ρ1 vs Hf1 H1 s1 g1 k1 rs p1 => ?_
      cases e1 : ρ1[i]? with
      | none => rw [e1] at p1; exact p1.elim
      | some z1 =>
        rw [e1] at p1
        cases z1 with
        | no => exact p1.elim
        | d _ => exact p1.elim
        | own _ _ => exact p1.elim
        | x e =>
          obtain ⟨a, q1, q2⟩ := s1.exc i e e1
          rw [h1] at q1
          cases q1
          cases ed : argsD n as with
          | none => rw [ed] at p1; exact p1.elim
          | some xs =>
            rw [ed] at p1
            obtain ⟨r, hn⟩ := argsD_ok rs ed
            have ra := r.args s1.ex
            have sc : SR Z.K Hf1 H1 (fun _ => False) ((V.ref a0 :: vs).map some) (.x e :: xs.map Sl.d) := by
              refine ⟨s1.ex, fun a h => h.elim, by simp [r.length], fun j x h => ?_, fun j c x h => ?_, fun j k c d x y m b1 b2 _ _ => ?_, fun j e' h => ?_⟩
              · cases j with
                | zero => cases h
                | succ j => exact ra.slot j x h
              · cases j with
                | zero => cases h
                | succ j => obtain ⟨_, _, _, z, _⟩ := ra.own j c x h; exact z.elim
              · cases j with
                | zero => cases b1
                | succ j => obtain ⟨_, _, _, z, _⟩ := ra.own j c x b1; exact z.elim
              · cases j with
                | zero => cases h; exact ⟨a0, rfl, q2⟩
                | succ j => exact ra.exc j e' h
            have io : IoOk (fun _ => False) ((V.ref a0 :: vs).map some) (.x e :: xs.map Sl.d) := by
              refine ⟨fun j b x h => ?_, fun a h => h.elim⟩
              cases j with
              | zero => cases h
              | succ j => obtain ⟨_, _, _, z, _⟩ := ra.own j b x h; exact z.elim
            refine ⟨congrArg Nat.succ hn, Hf1, fun _ => False, .x e :: xs.map Sl.d, sc, io, ?_⟩
            unfold kCallX at p1
            simp only at p1
            cases eg : g (.x e :: xs.map Sl.d) with
            | bad => rw [eg] at p1; exact p1.elim
            | ex y as' =>
              rw [eg] at p1
              intro cls d Hf' H' s' g' xr
              have gp := g'.pg s'.ex
              exact p1 cls d Hf' H' (s1.grow gp) gp.gr Kp.refl xr
            | ok rv as' =>
              rw [eg] at p1
              cases rv with
              | l ys => exact p1.elim
              | d y =>
                intro v Hf' H' s' g' rd
                have gp := g'.pg s'.ex
                exact p1 Hf' H' (s1.grow gp) gp.gr Kp.refl v rd
end
section
variable {ρ : Rho} {i j n : Nat}
@[simp] theorem fRaise_ap {e : XD} : fRaise e ρ = .ex e ρ := rfl
@[simp] theorem fIsX_ap {sub : Str → Option Bool} : fIsX sub i ρ = (match ρ[i]? with | some (.x e) => (match sub e.c with | some b => .ok (.d (.bool b)) ρ | none => .bad) | _ => .bad) := rfl
@[simp] theorem fIsNX_ap : fIsNX i ρ = (match ρ[i]? with | some (.x _) => .ok (.d (.bool false)) ρ | some (.d v) => .ok (.d (.bool (isNon v))) ρ | _ => .bad) := rfl
@[simp] theorem fCallX_ap {g : Rho → R RV} {fa : Rho → R (List AV)} : fCallX n i g fa ρ = (match ρ[i]? with | some (.x _) => (fa ρ).bind fun as ρ1 => kCallX g ρ1[i]? (argsD n as) ρ1 | _ => .bad) := rfl
@[simp] theorem kCallX_some {g : Rho → R RV} {e : XD} {xs : List Pd} : kCallX g (some (.x e)) (some xs) ρ = (match g (.x e :: xs.map Sl.d) with | .ok (.d x) _ => .ok (.d x) ρ | .ex e _ => .ex e ρ | _ => .bad) := rfl
theorem fTryN_ok {sub : Str → Option Bool} {fb : Rho → R Fl} {fl : Fl} {ρ1 : Rho} (h : fb ρ = .ok fl ρ1) : fTryN sub fb i j ρ = .ok fl ρ1 := by
  unfold fTryN; rw [h]
theorem fTryN_ex {sub : Str → Option Bool} {fb : Rho → R Fl} {e : XD} {ρ1 : Rho} {si sj : Sl} (h : fb ρ = .ex e ρ1) (hs : sub e.c = some true) (hi : ρ1[i]? = some si) (hj : ρ1[j]? = some sj) (ni : ioS si = false) (nj : ioS sj = false) (hij : i ≠ j) :
    fTryN sub fb i j ρ = .ok .nx ((ρ1.set j (.x e)).set i .no) := by
  unfold fTryN
  rw [h]
  simp only [hs, hi, hj, ni, nj]
  simp [hij]
end
/-! ### which class lies under which, as the head tells it -/
def sbG (raised : List Str) (up : List (Str × Str)) (c n : Str) : Option Bool := if n ∈ raised then some (decide ((n, c) ∈ up)) else none
def okIs (K : PySem.W.Frag) (raised tested : List Str) (up : List (Str × Str)) : Bool := raised.all fun n => xcB K (cA K n) && tested.all fun c => decide (PySem.W.kitOne K (.ref (cA K n)) (.ref (cA K c)) = some (decide ((n, c) ∈ up)))
def okIsB (K : PySem.W.Frag) (raised : List Str) (c : Str) (v : Value) (up : List (Str × Str)) : Bool := raised.all fun n => xcB K (cA K n) && decide (PySem.W.kitOne K (.ref (cA K n)) v = some (decide ((n, c) ∈ up)))
def okEx (K : PySem.W.Frag) (raised caught : List Str) (up : List (Str × Str)) : Bool := raised.all fun n => caught.all fun c => decide (PySem.W.exmOne K (.ref (cA K n)) (.ref (cA K c)) = some (decide ((n, c) ∈ up)))
theorem sbG_some {raised : List Str} {up : List (Str × Str)} {c n : Str} {b : Bool} (h : sbG raised up c n = some b) : n ∈ raised ∧ b = decide ((n, c) ∈ up) := by
  unfold sbG at h
  split at h
  · next z => exact ⟨z, (Option.some.inj h).symm⟩
  · cases h
theorem okIs_ok {K : PySem.W.Frag} {raised tested : List Str} {up : List (Str × Str)} (h : okIs K raised tested up = true) (c : Str) (hc : decide (c ∈ tested) = true) (n : Str) (b : Bool) (e : sbG raised up c n = some b) : XcC K (cA K n) ∧ PySem.W.kitOne K (.ref (cA K n)) (.ref (cA K c)) = some b := by
  obtain ⟨hn, rfl⟩ := sbG_some e
  have := List.all_eq_true.mp h n hn
  simp only [Bool.and_eq_true] at this
  exact ⟨xcB_ok this.1, of_decide_eq_true (List.all_eq_true.mp this.2 c (of_decide_eq_true hc))⟩
theorem okIsB_ok {K : PySem.W.Frag} {raised : List Str} {c : Str} {v : Value} {up : List (Str × Str)} (h : okIsB K raised c v up = true) (n : Str) (b : Bool) (e : sbG raised up c n = some b) : XcC K (cA K n) ∧ PySem.W.kitOne K (.ref (cA K n)) v = some b := by
  obtain ⟨hn, rfl⟩ := sbG_some e
  have := List.all_eq_true.mp h n hn
  simp only [Bool.and_eq_true] at this
  exact ⟨xcB_ok this.1, of_decide_eq_true this.2⟩
theorem okEx_ok {K : PySem.W.Frag} {raised caught : List Str} {up : List (Str × Str)} (h : okEx K raised caught up = true) (c : Str) (hc : decide (c ∈ caught) = true) (n : Str) (b : Bool) (e : sbG raised up c n = some b) : PySem.W.exmOne K (.ref (cA K n)) (.ref (cA K c)) = some b := by
  obtain ⟨hn, rfl⟩ := sbG_some e
  exact of_decide_eq_true (List.all_eq_true.mp (List.all_eq_true.mp h n hn) c (of_decide_eq_true hc))
theorem kIsT {X : Cx} (K : PySem.W.Frag) (hK : X.K = K := by rfl) : CallR X (.builtin "isinstance") (rIsT K) := by subst hK; exact call_isT
end Dt
/-! exceptions with a field: made by an own __init__, the field read of a kept one -/
namespace Dt
open PySem PySem.Spec L2 Evl PyProof.Rows
section
variable {X : Cx} {o e : Expr} {es : List Expr} {to te : TE} {ta : TA} {f x : Str} {p p' p1 p2 pos : Pos} {L : Addr}
/-- what the head tells of the class whose __init__ is called -/
structure BaC (K : PySem.W.Frag) (L : Addr) : Prop where
  g : PySem.W.specialIn K (.ref L) "__getattribute__" = some (some (.builtin "type.__getattribute__"))
  r : PySem.W.readsIn K L (.type "type") = true
  i : (match PySem.W.findCls K (.ref L) (.type "type") "__init__" with | some (.val v) => v == .builtin "ValueError.__init__" | _ => false) = true
theorem BaC.init {K : PySem.W.Frag} (B : BaC K L) : PySem.W.findCls K (.ref L) (.type "type") "__init__" = some (.val (.builtin "ValueError.__init__")) := by
  have h := B.i
  split at h
  · next v e => rw [e, eq_of_beq h]
  · cases h
/-- L.__init__(self, ..), L an own class over ValueError -/
theorem pe_leinit {pl : Sem Bool} (hg : Gl X x) (hm : X.mg x = some (.ref L)) (B : BaC X.K L) (ha : PA X (e :: es) ta)
    (hc : eval (.Call (.Attribute (.Name x p1) "__init__" p2) (e :: es) [] pos) X.env = (do
      let ov ← eval (.Name x p1) X.env
      standAt p2.atName
      let (f, first) ← holding [ov] (getMethod ov "__init__" pl)
      callWith pos f first (backTo pos (starEach (e :: es) X.env)) (backToKw pos (keywordEach [] X.env))) := by rfl)
    (hdb : (x == ("__debug__" : Str)) = false := by decide)
    (he : starEach (e :: es) X.env = (false, eval e X.env) :: starEach es X.env := by rfl) (hpl : (backTo pos (starEach es X.env)).any (·.1) = false := by rfl) :
    PE X (.Call (.Attribute (.Name x p1) "__init__" p2) (e :: es) [] pos) (tVeI X.K ta) := by
  refine ⟨fun pins s σ H Q I h => ?_⟩
  refine PySem.W.methodCall_KW (ld_glob I hg hm ?_ hdb) hc
  refine PySem.W.method_cls I.kIn B.g (PySem.W.cls_value I.kIn B.r B.init (by decide +kernel) ?_)
  show wpAny _ _ (callWith pos (Value.builtin "ValueError.__init__") [] (backTo pos (starEach (e :: es) X.env)) []) _ _ _
  refine PyProof.Rows.callWith_method1 (thn (ha.run pos pins _ σ H _ (I.tok _) h) fun us s1 ⟨vs, H1, I1, r1, a, C, ws, ev, hl, T, ea, q⟩ => ?_) he hpl
  subst ev
  cases r1 with
  | @cons _ u0 _ ur ra rw' =>
    obtain rfl : u0 = Value.ref a := ra
    have hlen : ur.length ≤ sizeLine := by
      rw [← Paired.length rw', sizeLine_eq]
      omega
    exact oinit_ok T I1 ea hlen fun s' J => ⟨.non, H1, J, rfl, q⟩
/-! ### e.f of a kept exception -/
def tXfT (K : PySem.W.Frag) (f : Str) (te : TE) : TE := fun σ H Q => te σ H fun x H1 => ∃ (a C dd : Addr) (fs : List (Str × V)) (v : V), x = .ref a ∧ H1 a = some (ExN (.ref C) (some dd) a) ∧ XfC K C ∧ PySem.W.findIn K (.ref C) f = some none ∧ H1 dd = some (.xd fs) ∧ fs.lookup f = some v ∧ Q v H1
theorem pe_xfT {n : Str} (he : PE X e te) (hb : attributeBase e n X.env (eval e X.env) = eval e X.env := by rfl) : PE X (.Attribute e n pos) (tXfT X.K n te) := by
  refine ⟨fun pins s σ H Q I h => ?_⟩
  refine attr_of hb (thn (he.run pins s σ H _ I h) fun u s1 hh => ?_)
  obtain ⟨x, H1, I1, rx, a, C, dd, fs, v, ex, ha, T, hno, ea, l, q⟩ := hh
  subst ex
  obtain rfl : u = Value.ref a := rx
  obtain ⟨⟨oe, vs, hget, hz, hd⟩, _, _⟩ := I1.hok a _ ha
  have hx : ObjOk X.prog X.w H1 s1.heap dd (.xd fs) := I1.hok dd _ ea
  obtain ⟨mA, hns, hr⟩ := hx
  obtain ⟨od, ho, hl⟩ := lookIn_ns hns
  obtain ⟨u, hu, ru⟩ := RelO.some_of (v := v) (o := mA n) (by rw [← l]; exact hr n)
  have J : PySem.W.InstAt s1.heap a oe C (some od) := ⟨hget, hz.1, by unfold PySem.W.notCls; rw [hd] <;> rfl, by rw [hz.2]; exact ho⟩
  exact HandSPX.exc_get I1.kIn J T.ga T.gg T.exC (PySem.W.findObj_own T.hdC hno rfl (by rw [hl, hu])) (handed_of ru) ⟨v, H1, I1.tok _, ru, q⟩
end
/-! ### the __init__ that keeps one field; raise C(x) -/
def spI (C : Addr) (f : Str) : Sp := fun vs H Q _ => ∃ (a : Addr) (v : V), vs = [.ref a, v] ∧ H a = some (exo a C none) ∧ ∀ d, H d = none → d ≠ a → Q .non (upd (upd H d (exd d [(f, v)])) a (exo a C (some d)))
theorem init_ok {P : Program} {w : World} {K : PySem.W.Frag} {mg : Str → Option Value} {base : Heap} {x qual f : Str} {params : Arguments} {body : List Stmt} {scope : Scope} {fI C : Addr} {fd : FuncData} {ps : List Str} (F : FunD K x qual params body scope [] [] fI fd) (S : FnScope ps ps scope) (hl : ps.length = 2)
    (T : OexC K C) (hno : PySem.W.findIn K (.ref C) f = some none)
    (hb : ∀ (cdv : Value) (A : Around) (outer : List Env) (s : Shared) (H : Hp) (E : XK), PSs (cxOf (L2.CX P w) P w K mg base ps qual scope fI cdv A outer s H E) body (tSeq (tDrop (tVeI K (tCons (tVar 0) (tCons (tC (.str t)) tNil)))) (tOst K f (tVar 0) (tVar 1)))) :
    FnOk P w K mg base (L2.CX P w) 1 fI fd ps (spI C f) := by
  refine F.ok S (fun vs H Q E h => ?_) (fun cdv A outer s H vs Q E hr h => ?_)
  · obtain ⟨a, v, rfl, _⟩ := h
    rw [hl]; rfl
  · obtain ⟨a, v, rfl, ha, q⟩ := h
    refine ⟨_, hb cdv A outer s H E, ?_⟩
    have e0 : (L2.start ps [V.ref a, v])[0]? = some (some (.ref a)) := rfl
    have e1 : (L2.start ps [V.ref a, v])[1]? = some (some v) := rfl
    exact ⟨.ref a, e0, a, C, [.str t], rfl, by simp, T, ha, v, e1, .ref a, e0, a, C, rfl, T, hno, .inl ⟨ha, fun dx n ne => q dx n ne⟩⟩
def fRaiseP (c f : Str) (fe : Rho → R AV) : Rho → R Fl := fun ρ => (fe ρ).bind fun a ρ1 => match a with
  | .d x => .ex ⟨c, some [(f, x)]⟩ ρ1
  | .sl _ => .bad
theorem s_raiseP {Z : Zx} {W : WX} {c f : Str} {te : TE} {fe : Rho → R AV} (he : DE Z W te fe) : DS Z W (fun _ σ H => tMkO (cA Z.K c) (spI (cA Z.K c) f) [] (tCons te tNil) σ H fun cls d H' => W cls d σ H') (fRaiseP c f fe) := by
  intro Hf H O σ ρ s En p
  refine DJ.bindS he s p fun a ρ1 v Hf1 H1 s1 g1 k1 rv p1 => ?_
  cases a with
  | sl i => exact p1.elim
  | d x =>
    refine ⟨by simp, fun a na => ?_⟩
    refine ⟨a, v, rfl, upd_same, fun d nd ne => ⟨rfl, d, [(f, v)], upd_same, by rw [upd_ne ne, upd_same], by rw [upd_ne ne] at nd; exact nd, ?_⟩⟩
    rw [upd_ne ne] at nd
    have eh : upd (del (upd (upd (upd H1 a (exo a (cA Z.K c) none)) d (exd d [(f, v)])) a (exo a (cA Z.K c) (some d))) a) d (.xd [(f, v)]) = upd H1 d (.xd [(f, v)]) := by
      funext b
      by_cases hb : b = d
      · subst hb; rw [upd_same, upd_same]
      · rw [upd_ne hb, upd_ne hb]
        by_cases ha : b = a
        · subst ha; rw [del_same, na]
        · rw [del_ne ha, upd_ne ha, upd_ne hb, upd_ne ha]
    rw [eh]
    have g2 := Pg.new (o := HO.xd [(f, v)]) s1.ex nd
    exact p1 _ (some d) _ _ O σ (s1.grow g2) (g1.trans g2.gr) Orl.refl k1.kq ⟨rfl, d, [(f, v)], rfl, upd_same, .cons (RD.mono g2.ef rv) .nil⟩
/-- what the head tells of a class with its own __init__ -/
structure ExI (K : PySem.W.Frag) (mg : Str → Option Value) (x : Str) (fI : Addr) : Prop where
  g : mg x = some (.ref (cA K x))
  o : OexC K (cA K x)
  i : PySem.W.findIn K (.ref (cA K x)) "__init__" = some (some (.ref fI))
  t : PySem.W.typeIn K (.ref fI) = some (.type "function")
theorem k_raiseP {X : Cx} {W : WX} (K : PySem.W.Frag) {x f : Str} {e : Expr} {te : TE} {k : Nat} {fI : Addr} {fd : FuncData} {ps : List Str} {p pos pos' : Pos} (hc : X.calm = true) (tk : Takes X W) (F : ExI K X.mg x fI)
    (F1 : FnOk X.prog X.w K X.mg X.base (L2.CX X.prog X.w) k fI fd ps (spI (cA K x) f)) (hr : Room (k + 1) X.A) (hb : Binds K fd ps []) (hx : Passes (L2.CX X.prog X.w) X (fun _ _ _ => False)) (hg : Gl X x) (he : PE X e te)
    (hdb : (x == ("__debug__" : Str)) = false := by decide) (hst : starEach [e] X.env = (false, eval e X.env) :: starEach [] X.env := by rfl) (hpl : (backTo pos (starEach [] X.env)).any (·.1) = false := by rfl) (hK : X.K = K := by rfl) :
    PS X (.Raise (some (.Call (.Name x p) [e] [] pos)) none pos') (fun _ σ H => tMkO (cA K x) (spI (cA K x) f) [] (tCons te tNil) σ H fun cls d H' => W cls d σ H') := by
  subst hK
  exact ps_raise hc tk (pmk_oex F.o F.i F.t F1 hr hb .nil hx hg F.g (pa_cons he pa_nil (by exact hst)) hdb hst hpl)
/-! ### the field read -/
theorem RF.look {K : PySem.W.Frag} {H : Hp} {f : Str} {d : Pd} : ∀ {vs : List (Str × V)} {ds : List (Str × Pd)}, RF K H vs ds → ds.lookup f = some d → ∃ v, vs.lookup f = some v ∧ RD K H v d
  | _, _, .nil, h => by cases h
  | _, _, .cons (k := k) (v := v) (vs := vs) (d := d') (ds := ds) r rs, h => by
    rw [List.lookup_cons] at h ⊢
    cases e : f == k with
    | true => rw [e] at h; cases h; exact ⟨v, rfl, r⟩
    | false => rw [e] at h; exact RF.look rs h
def fXf (ok : Str → Bool) (i : Nat) (f : Str) : Rho → R AV := fun ρ => match ρ[i]? with
  | some (.x e) => (match ok e.c, e.fs with
    | true, some fs => (match fs.lookup f with
      | some v => .ok (.d v) ρ
      | none => .bad)
    | _, _ => .bad)
  | _ => .bad
theorem d_xf {Z : Zx} {W : WX} {i : Nat} {f : Str} {ok : Str → Bool} (hok : ∀ n, ok n = true → XfC Z.K (cA Z.K n) ∧ PySem.W.findIn Z.K (.ref (cA Z.K n)) f = some none) : DE Z W (tXfT Z.K f (tVar i)) (fXf ok i f) := by
  intro Hf H O σ ρ s Q p
  unfold fXf at p
  cases e0 : ρ[i]? with
  | none => rw [e0] at p; exact p.elim
  | some z =>
    rw [e0] at p
    cases z with
    | no => exact p.elim
    | d _ => exact p.elim
    | own _ _ => exact p.elim
    | x e =>
      simp only at p
      cases eo : ok e.c with
      | false => rw [eo] at p; exact p.elim
      | true =>
        rw [eo] at p
        obtain ⟨hx, hn⟩ := hok _ eo
        obtain ⟨a, h1, h2⟩ := s.exc i e e0
        unfold XH at h2
        cases efs : e.fs with
        | none => rw [efs] at p; exact p.elim
        | some fs =>
          rw [efs] at p h2
          obtain ⟨dd, vs, h3, h4, h5⟩ := h2
          simp only at p
          cases el : fs.lookup f with
          | none => rw [el] at p; exact p.elim
          | some d =>
            rw [el] at p
            obtain ⟨v, hv, rd⟩ := h5.look el
            exact ⟨.ref a, h1, a, _, dd, vs, v, rfl, s.ex _ _ h3, hx, hn, s.ex _ _ h4, hv, p Hf H s Gr.refl Kp.refl v rd⟩
theorem kXf {X : Cx} (K : PySem.W.Frag) {e : Expr} {te : TE} {n : Str} {pos : Pos} (he : PE X e te) (hb : attributeBase e n X.env (eval e X.env) = eval e X.env := by rfl) (hK : X.K = K := by rfl) : PE X (.Attribute e n pos) (tXfT K n te) := by
  subst hK
  exact pe_xfT he hb
section
variable {ρ : Rho} {i : Nat}
@[simp] theorem fRaiseP_ap {c f : Str} {fe : Rho → R AV} : fRaiseP c f fe ρ = (fe ρ).bind fun a ρ1 => (match a with | .d x => .ex ⟨c, some [(f, x)]⟩ ρ1 | .sl _ => .bad) := rfl
@[simp] theorem fXf_ap {ok : Str → Bool} {f : Str} : fXf ok i f ρ = (match ρ[i]? with
  | some (.x e) => (match ok e.c, e.fs with
    | true, some fs => (match fs.lookup f with
      | some v => .ok (.d v) ρ
      | none => .bad)
    | _, _ => .bad)
  | _ => .bad) := rfl
end
/-! ### the head's checks -/
def oexC0 (K : PySem.W.Frag) (C : Addr) : Bool := match K.lookup C with
  | some ⟨.type "type", _, .cls cd, sl⟩ => (match cd.mro, sl.toList with
    | .ref C' :: bm, [_, _, _, _, some (.builtin n), _] => C' == C && n == "ValueError.__new__" && !cd.hasDel && cd.hasDict && PySem.HandSPX.refsVE bm
    | _, _ => false)
  | _ => false
def oexB (K : PySem.W.Frag) (C : Addr) : Bool := oexC0 K C && (decide (PySem.W.findIn K (.ref C) "__setattr__" = some (some (.builtin "object.__setattr__"))) && (decide (PySem.W.subIn K (.ref C) (.type "BaseException") = some true) && (decide (PySem.W.typeIn K (.ref C) = some (.type "type")) && PySem.W.keepIn K (.ref C))))
theorem oexB_ok {K : PySem.W.Frag} {C : Addr} (h : oexB K C = true) : OexC K C := by
  unfold oexB at h
  simp only [Bool.and_eq_true, decide_eq_true_eq] at h
  obtain ⟨q, h2, h3, h4, h5⟩ := h
  refine ⟨?_, h2, h3, h4, h5⟩
  unfold oexC0 at q
  split at q
  · rename_i dd cd sl ho
    split at q
    · rename_i C' bm k0 k1 k2 k3 n k5 hm hs
      simp only [Bool.and_eq_true, beq_iff_eq, Bool.not_eq_true'] at q
      obtain ⟨⟨⟨⟨rfl, rfl⟩, hdel⟩, hdi⟩, ht⟩ := q
      obtain ⟨nm, bs, mro, ns, qn, hd, sn, sub, ab, col, del⟩ := cd
      dsimp only at hm hdel hdi
      subst hm hdel hdi
      have hsl : sl = #[k0, k1, k2, k3, some (.builtin "ValueError.__new__"), k5] := by
        obtain ⟨l⟩ := sl
        simp only at hs
        rw [hs]
      subst hsl
      exact ⟨nm, qn, ns, bs, bm, sn, sub, ab, col, dd, k0, k1, k2, k3, k5, ho, ht⟩
    · cases q
  · cases q
def bacB (K : PySem.W.Frag) (L : Addr) : Bool := decide (PySem.W.specialIn K (.ref L) "__getattribute__" = some (some (.builtin "type.__getattribute__"))) && (PySem.W.readsIn K L (.type "type") && (match PySem.W.findCls K (.ref L) (.type "type") "__init__" with | some (.val v) => v == .builtin "ValueError.__init__" | _ => false))
theorem bacB_ok {K : PySem.W.Frag} {L : Addr} (h : bacB K L = true) : BaC K L := by
  unfold bacB at h
  obtain ⟨h1, h⟩ := Bool.and_eq_true_iff.mp h
  obtain ⟨h2, h3⟩ := Bool.and_eq_true_iff.mp h
  exact ⟨of_decide_eq_true h1, h2, h3⟩
/-- a class with an own __init__ that keeps the field f, over the class b -/
def iniB (K : PySem.W.Frag) (x b f : Str) : Bool := oexB K (cA K x) && (bacB K (cA K b) && (decide (PySem.W.findIn K (.ref (cA K x)) "__init__" = some (some (.ref (He.ma K (cA K x) "__init__")))) && (decide (PySem.W.typeIn K (.ref (He.ma K (cA K x) "__init__")) = some (.type "function")) && (decide (PySem.W.findIn K (.ref (cA K x)) f = some none) && xfB K (cA K x)))))
/-- .. as the walk has it -/
structure InI (K : PySem.W.Frag) (mg : Str → Option Value) (x b f q : Str) (st : Stmt) where
  fd : FuncData
  F : FunD K "__init__" q (defArgs st) (defBody st) (defScope st) [] [] (He.ma K (cA K x) "__init__") fd
  E : ExI K mg x (He.ma K (cA K x) "__init__")
  B : BaC K (cA K b)
  no : PySem.W.findIn K (.ref (cA K x)) f = some none
  xf : XfC K (cA K x)
def InI.of {K : PySem.W.Frag} {mg : Str → Option Value} {x b f q : Str} {st : Stmt} {fd : FuncData} (F : FunD K "__init__" q (defArgs st) (defBody st) (defScope st) [] [] (He.ma K (cA K x) "__init__") fd) (g : mg x = some (.ref (cA K x))) (h : iniB K x b f = true) : InI K mg x b f q st := by
  unfold iniB at h
  simp only [Bool.and_eq_true, decide_eq_true_eq] at h
  exact ⟨fd, F, ⟨g, oexB_ok h.1, h.2.2.1, h.2.2.2.1⟩, bacB_ok h.2.1, h.2.2.2.2.1, xfB_ok h.2.2.2.2.2⟩
theorem passNo {X : Cx} {W : WX} (tk : Takes X W) : Passes (L2.CX X.prog X.w) X (fun _ _ _ => False) := fun _ σ _ _ e s' I c => tk e s' (XE.of_call I (fun _ _ _ h => h.elim) c)
/-! ### a hook whose fragment holds the interpreter's statics -/
def asE (g : Addr → Option Obj) (n : Nat) : List Addr := He.asD g n ++ [cStatics]
def obsE (n : Nat) (fa : List He.Fa) (fn : List He.DefD) (ex : PySem.W.Frag → Bool) (g : Addr → Option Obj) : He.AlD × Bool := (He.obsD fa fn (He.frG g (asE g n)), ex (He.frG g (asE g n)))
def hookE (n : Nat) (fa : List He.Fa) (fn : List He.DefD) (ex : PySem.W.Frag → Bool) : PySem.W.Hook where
  α := He.AlD × Bool
  obs := fun s => obsE n fa fn ex s.heap.get?
  val := fun _ => (He.valD fn, true)
  says := fun _ h => ∃ K : PySem.W.Frag, K.In h ∧ He.SaysD fa fn K ∧ ex K = true
  of := fun _ _ e => ⟨_, He.frG_in, congrArg Prod.fst e, congrArg Prod.snd e⟩
  keeps := fun _ _ _ ⟨K, hK, c⟩ k => ⟨K, PySem.W.Frag.In.keeps hK k, c⟩
theorem obsE_eq {n : Nat} {fa : List He.Fa} {fn : List He.DefD} {ex : PySem.W.Frag → Bool} {g : Addr → Option Obj} {s : Shared} (h : ∀ a, g a = s.heap.get? a) : obsE n fa fn ex g = (hookE n fa fn ex).obs s := by
  have e : g = s.heap.get? := funext h
  rw [e] <;> rfl
end Dt
namespace Dt
open PySem PySem.Spec PyProof.Rows
/-! ### a set of texts -/
/-- how many of the first i texts are met for the first time -/
def newN (zs : List Str) : Nat → Nat
  | 0 => 0
  | i + 1 => if (zs.take i).any (· == zs.getD i Str.empty) = true then newN zs i else newN zs i + 1
theorem newN_le (zs : List Str) : ∀ i, newN zs i ≤ i
  | 0 => Nat.le_refl _
  | i + 1 => by
    have := newN_le zs i
    unfold newN
    split <;> omega
theorem take_any (zs : List Str) {i : Nat} (hi : i < zs.length) (q : Str) : ((zs.take i).any (· == q) || decide (q = zs.getD i Str.empty)) = (zs.take (i + 1)).any (· == q) := by
  rw [List.take_add_one, List.getD_eq_getElem?_getD, List.getElem?_eq_getElem hi, List.any_append]
  congr 1
  simp only [Option.getD_some, Option.toList_some, List.any_cons, List.any_nil, Bool.or_false]
  rw [Bool.eq_iff_iff, decide_eq_true_eq, beq_iff_eq]
  exact eq_comm
section
variable {prog : Program} {w : World} {A : Around} {R : Result → Shared → Prop} {J : Addr} {fp wr : List Addr} {G : Array GenState → Array GenState → Prop} {n : Nat} {Pr : Nat → Value → Prop} {St : Nat → Shared → Prop}
theorem strs_loop (V : WalksS prog w A.in1 J fp wr G n Pr St) (S : Addr) (nf : S ∉ fp) (zs : List Str) (hz : zs.length = n) (hb : n ≤ 1000) (hv : ∀ i v, Pr i v → ∃ t, v = .str (zs.getD i Str.empty) t) :
    ∀ (m i : Nat) (s : Shared), n - i = m → i ≤ n → St i s → s.heap.SetOf (PySem.strKind prog w) S (fun q => (zs.take i).any (· == q)) (newN zs i) →
      (∀ s2, Moved (S :: wr) G s s2 → s2.heap.SetOf (PySem.strKind prog w) S (fun q => (zs.take n).any (· == q)) (newN zs n) → R (.ok (.ret .none)) s2) →
      codeAny (model prog w) A (.builtin "set.update.loop" ⟨[.ref S, .ref J], []⟩) R s := by
  have nw : S ∉ wr := fun z => nf (V.sub _ z)
  have up : ∀ b ∈ wr, b ∈ S :: wr := fun b z => List.mem_cons_of_mem _ z
  intro m
  induction m with
  | zero =>
    intro i s hm hi st hS k
    obtain rfl : i = n := by omega
    refine codeAny_builtin PyProof.Rows.F.entry_set_update_loop ?_
    rw [Around.under_plainId PyProof.Rows.F.plain_set_update_loop _]
    show wpAny _ A.in1 (pyNext (.ref J) >>= _) _ _ s
    refine wpAny_bind (V.done s _ _ st fun s2 mv => ?_)
    obtain ⟨o, es, ep, t, ho, more⟩ := hS
    exact wpAny_pure (k s2 (mv.mono up) ⟨o, es, ep, t, mv.heap S _ nw ho, more⟩)
  | succ m ih =>
    intro i s hm hi st hS k
    have lt : i < n := by omega
    have le := newN_le zs i
    refine codeAny_builtin PyProof.Rows.F.entry_set_update_loop ?_
    rw [Around.under_plainId PyProof.Rows.F.plain_set_update_loop _]
    show wpAny _ A.in1 (pyNext (.ref J) >>= _) _ _ s
    refine wpAny_bind (V.item i s _ _ lt st fun v s2 hP st2 mv => ?_)
    obtain ⟨t, rfl⟩ := hv i v hP
    have hS2 : s2.heap.SetOf (PySem.strKind prog w) S (fun q => (zs.take i).any (· == q)) (newN zs i) := by
      obtain ⟨o, es, ep, tb, ho, more⟩ := hS
      exact ⟨o, es, ep, tb, mv.heap S _ nw ho, more⟩
    show wpAny _ A.in1 (holding [Value.str (zs.getD i Str.empty) t] (setAdd S (.str (zs.getD i Str.empty) t)) >>= _) _ _ s2
    refine wpAny_bind (wpAny_holding ?_)
    unfold setAdd
    refine wpAny_holding (wpAny_bind ((PySem.strKind prog w).pyHash (k := zs.getD i Str.empty) (strKind_is _ _ _ _) ?_))
    refine wpAny_setAddHashed_of (knd := PySem.strKind prog w) (s := { s2 with toks := s2.toks + 1 }) (strKind_is _ _ _ _) rfl hS2 (by unfold scanBound; omega) fun h3 sb hS3 => ?_
    have hS4 : h3.SetOf (PySem.strKind prog w) S (fun q => (zs.take (i + 1)).any (· == q)) (newN zs (i + 1)) := SetOf_congr hS3 (fun q => take_any zs (by omega) q) rfl
    refine wpAny_pure ⟨plainId_quiet PyProof.Rows.F.plain_set_update_loop _, ih (i + 1) _ (by omega) lt (V.frame _ s2 _ _ st2 (Nat.le_succ _) fun b hb o e => ?_) hS4 fun s4 mv4 hS5 => ?_⟩
    · rw [sb.2 b (fun z : b = S => nf (by rw [← z]; exact hb))]
      exact e
    · refine k s4 (Moved.trans V.gtrans ((mv.mono up).then_heap (Nat.le_succ _) fun b o hb e => ?_) mv4) hS5
      rw [sb.2 b (fun z : b = S => hb (by rw [z]; exact List.mem_cons_self))]
      exact e
end
section
variable {prog : Program} {w : World} {A : Around} {E : Value → Shared → Prop} {s : Shared}
abbrev nSet (led : Bool) : Obj := { cls := .type "set", dict := none, data := .set #[] 0 (.fresh 0 0 led) }
set_option maxHeartbeats 3200000 in
theorem call_set_strs {l : Addr} {its : Array Value} {zs : List Str} {Q : Value → Shared → Prop} (hh : A.handled = none) (hl : s.heap.IsList l its) (hi : PyProof.Rows.StrsAre its.toList zs) (hb : zs.length ≤ 1000)
    (k : ∀ (h2 : Heap) (tk : Nat), h2.SetOf (PySem.strKind prog w) s.heap.objs.size (fun q => (zs.take its.size).any (· == q)) (newN zs its.size) → (∀ b o, b < s.heap.objs.size → s.heap.get? b = some o → h2.get? b = some o) →
      Q (.ref s.heap.objs.size) { s with heap := h2, toks := tk }) : wpAny (model prog w) A (call (.type "set") [.ref l]) Q E s := by
  obtain ⟨_, _, f0⟩ := PySem.F.called_set.mro
  have f1 := PySem.F.called_set.made
  have f2 := PySem.F.called_set.sub
  refine wpAny_call (codeAny_of_tree ?_)
  show wpAny _ _ (callAny (.type "set") _) _ _ _
  refine wpAny_pure ⟨Code.quiet_builtin _ (by decide +kernel), codeAny_builtin PySem.F.entry_type_call ?_⟩
  rw [Around.under_plain (weight_type_call_type "set" [.ref l] []) rfl]
  have f3 := PySem.F.called_set.notType
  have f4 := PySem.F.called_set.canCreate
  have f5 := PySem.F.typeCall_set_1 (.ref l)
  repeat (any_goals (first | assumption | wp_step))
  refine codeAny_mono (code_set_new_1 (.ref l) (E := E) (Q₁ := fun z s1 => ∃ led : Bool, z = .ref s.heap.objs.size ∧ s1 = { s with heap := s.heap.push (nSet led) }) fun led => ⟨led, rfl, rfl⟩) fun r s1 hr => ?_
  cases r with
  | error e => exact hr
  | ok fl =>
    cases fl with
    | ret z =>
      obtain ⟨led, rfl, rfl⟩ := hr
      have hS : (s.heap.push (nSet led)).get? s.heap.objs.size = some (nSet led) := Heap.get?_push_size _ rfl
      have hT : Shared.TypeIs { s with heap := s.heap.push (nSet led) } (.ref s.heap.objs.size) "set" := ⟨_, hS, rfl⟩
      have f6 := PySem.F.called_set.init.lookup
      have f7 := PySem.F.called_set.init.bind (.ref s.heap.objs.size)
      repeat (any_goals (first | assumption | wp_step))
      refine codeAny_mono (codeAny_call_builtin (R := wants (fun r s3 => r = .none ∧ ∃ h2 tk, s3 = { s with heap := h2, toks := tk } ∧
          h2.SetOf (PySem.strKind prog w) s.heap.objs.size (fun q => (zs.take its.size).any (· == q)) (newN zs its.size) ∧ (∀ b o, b < s.heap.objs.size → s.heap.get? b = some o → h2.get? b = some o)) E)
          PySem.F.called_set.init.plain PySem.F.entry_set_init (check_set_init_1 hT ?_)) fun r2 s2 hr2 => ?_
      · obtain ⟨⟨oc, od, ox, os⟩, ho, hc, n0, hd⟩ := hl
        simp only at hc hd
        subst hc
        subst hd
        have ho2 : (s.heap.push (nSet led)).get? l = some ⟨.type "list", od, .seq its n0, os⟩ := Heap.get?_push_of_some _ ho
        have g1 := PySem.F.sub_list_set
        have g2 := PySem.F.sub_list_frozenset
        have g3 : (Value.type "list" == Value.type "dict") = false := by decide
        have hl2 : (s.heap.push (nSet led)).IsList l its := ⟨_, ho2, rfl, n0, rfl⟩
        unfold Builtin.«set.__init__» noKeywords Builtin.Frozenset.updateFrom
        generalize hp : pyIter = pI
        wp_walk
        subst hp
        refine wpAny_pyIter_list hl2 (wpAny_bind (wpAny_runValue ?_))
        have hlt : l < s.heap.objs.size := Heap.lt_size ho
        have hh3 : A.in1.in1.in1.handled = none := by simp [hh]
        have ne : l ≠ (s.heap.push (nSet led)).objs.size := by
          rw [Heap.size_push]
          exact Nat.ne_of_lt (Nat.lt_succ_of_lt hlt)
        have nf : s.heap.objs.size ∉ [(s.heap.push (nSet led)).objs.size, l] := by
          rw [Heap.size_push]
          simp only [List.mem_cons, List.not_mem_nil, or_false, not_or]
          exact ⟨Nat.ne_of_lt (Nat.lt_succ_self _), Nat.ne_of_gt hlt⟩
        have hz : zs.length = its.size := by rw [← StrsAre.len_eq hi, Array.length_toList]
        refine strs_loop ((Walks.list hh3 _ l ne its).toS) s.heap.objs.size nf zs hz (by rw [← hz]; exact hb)
          (fun i v h => SS.strs_at hi i v (by rw [Array.getElem?_toList]; exact h)) (its.size - 0) 0 _ (by omega) (Nat.zero_le _) ⟨⟨_, Heap.get?_push_size _ rfl, rfl, rfl⟩, hl2.push _⟩ ?_ ?_
        · refine SetOf_congr ((setObjOf_fresh (knd := PySem.strKind prog w) led).setOf (h := (s.heap.push (nSet led)).push { cls := .type "list_iterator", data := .fields #[.ref l, .int 0 0] }) (Heap.get?_push_of_some _ hS) (by unfold scanBound; omega)) (fun _ => rfl) rfl
        · intro s4 mv hS4
          obtain ⟨h4, g4, d4, t4, o4⟩ := s4
          obtain rfl : g4 = s.gens := mv.gens
          obtain rfl : d4 = s.drawn := mv.drawn
          obtain rfl : o4 = s.os := mv.os
          show wpAny _ _ _ _ _ _
          refine wpAny_pure ?_
          show wpAny _ _ (ret Value.none) _ _ _
          refine wpAny_pure ⟨rfl, h4, t4, rfl, hS4, fun b o lb e => ?_⟩
          refine mv.heap b o ?_ (Heap.get?_push_of_some _ (Heap.get?_push_of_some _ e))
          simp only [List.mem_cons, List.not_mem_nil, or_false, not_or]
          exact ⟨Nat.ne_of_lt lb, by rw [Heap.size_push]; exact Nat.ne_of_lt (Nat.lt_succ_of_lt lb)⟩
      · cases r2 with
        | error e => exact hr2
        | ok fl2 =>
          cases fl2 with
          | ret r =>
            obtain ⟨rfl, h2, tk, rfl, hS2, hk2⟩ := hr2
            repeat (any_goals (first | assumption | wp_step))
            exact k _ _ hS2 hk2
          | _ => exact hr2.elim
    | _ => exact hr.elim
end
end Dt
namespace Dt
open PySem PySem.Spec L2 Evl
/-! ### len(set(..)) of texts -/
def rLenSet (K : PySem.W.Frag) : V → Hp → VK → Prop := fun x H Q => ∃ l, ∃ zs : List Str, x = .ref l ∧ SqL K H l (zs.map V.str) ∧ zs.length ≤ 1000 ∧ Q (.int (newN zs zs.length)) H
theorem pe_lenSetT {X : Cx} {a : Expr} {ta : TE} {p p2 q pos : Pos} (K : PySem.W.Frag) (hc : X.calm = true) (hg : Gl X "len") (hm : X.mg "len" = none) (hg2 : Gl X "set") (hm2 : X.mg "set" = none) (ha : PE X a ta)
    (na : starEach [a] X.env = (false, eval a X.env) :: starEach [] X.env := by rfl) (hK : X.K = K := by rfl) : PE X (.Call (.Name "len" p) [.Call (.Name "set" p2) [a] [] q] [] pos) (tUn (rLenSet K) ta) := by
  subst hK
  refine ⟨fun pins s σ H Q I h => PyProof.Rows.Call_ (ld_blt I hg hm boot_len ?_)⟩
  refine PyProof.Rows.callWith_builtin1 (PyProof.Rows.args_cons (PyProof.Rows.Call_ (ld_blt I hg2 hm2 PyProof.Rows.boot_set ?_)) rfl) rfl rfl
  refine PyProof.Rows.callWith_type1 (PyProof.Rows.args_cons (thn (ha.run pins s σ H _ I h) fun v s1 ⟨x, H1, I1, r1, q1⟩ => PyProof.Rows.args_nil ?_) na) na rfl
  obtain ⟨l, zs, rfl, sq, hl, q2⟩ := q1
  cases r1
  obtain ⟨its, r, pl, _⟩ := I1.list sq
  have hn : its.toArray.size = zs.length := by rw [List.size_toArray, ← r.length, List.length_map]
  refine call_set_strs (I1.ok.hd hc) pl.isList (zs := zs) (by simpa using strsAre_of r) hl fun h2 tk hS hk => ?_
  rw [hn] at hS
  have le := newN_le zs zs.length
  obtain ⟨o, es, ep, t, ho, ox, od, _, _, _, hf, hz⟩ := hS
  have J : Inv X pins σ H1 { s1 with heap := h2, toks := tk } := I1.kept fun b o e => hk b o (Heap.lt_size e) e
  exact PyProof.Rows.args_nil (call_len_set ho ox od hf (by rw [hz] <;> omega) ⟨.int (newN zs zs.length), H1, J.tok _, ⟨_, by rw [hz]⟩, q2⟩)
def lenSetD : Pd → Option Pd
  | .list xs => match strsD xs with
    | some zs => if zs.length ≤ 1000 then some (.int (newN zs zs.length)) else none
    | none => none
  | _ => none
theorem ru_lenSet {K : PySem.W.Frag} : RUn K (rLenSet K) lenSetD := by
  intro Hf H x dx z e hx h Q q
  unfold lenSetD at h
  split at h
  · split at h
    · rename_i zs ez
      split at h
      · cases h
        obtain ⟨l, us, rfl, t, r⟩ := hx.list e
        obtain rfl := strs_ok r ez
        exact ⟨l, zs, rfl, t, by assumption, q _ Hf H (Pg.refl e) (.int _)⟩
      · cases h
    · cases h
  · cases h
@[simp] theorem lenSetD_list {xs : List Pd} : lenSetD (.list xs) = match strsD xs with
    | some zs => if zs.length ≤ 1000 then some (.int (newN zs zs.length)) else none
    | none => none := rfl
/-! ### a dict of the module: texts to ints -/
structure TabK (K : PySem.W.Frag) (w : World) (a : Addr) (kvs : List (Str × Int)) : Prop where
  kd : ∃ es n, KDict K w a es n
  no : ∀ z, kvs.lookup z = none → PySem.W.nsIn K a z = some none
  yes : ∀ z i, kvs.lookup z = some i → ∃ t, PySem.W.nsIn K a z = some (some (.int i t))
structure TabI (K : PySem.W.Frag) (mg : Str → Option Value) (w : World) (x : Str) (kvs : List (Str × Int)) where
  a : Addr
  g : mg x = some (.ref a)
  t : TabK K w a kvs
abbrev rKIn (K : PySem.W.Frag) (d : Addr) (n : Bool) : R2 := fun x y H Q => ∃ (z : Str) (r : Option Value), x = .str z ∧ y = .ref d ∧ PySem.W.nsIn K d z = some r ∧ Q (.bl (if n then !r.isSome else r.isSome)) H
section
variable {X : Cx} {d : Addr} {kvs : List (Str × Int)} {w : World} {K : PySem.W.Frag}
theorem kInT (T : TabK K w d kvs) (hK : X.K = K := by rfl) (hw : X.w = w := by rfl) : OpR X (compareOp .In) (rKIn K d false) := by
  subst hK hw
  obtain ⟨es, n, D⟩ := T.kd
  exact op_in_kd D
theorem kNotInT (T : TabK K w d kvs) (hK : X.K = K := by rfl) (hw : X.w = w := by rfl) : OpR X (compareOp .NotIn) (rKIn K d true) := by
  subst hK hw
  obtain ⟨es, n, D⟩ := T.kd
  exact op_notIn_kd D
theorem kIxT (K : PySem.W.Frag) (w : World) (hK : X.K = K := by rfl) (hw : X.w = w := by rfl) : IxR X (rIxD K w) := by
  subst hK hw
  exact ix_kdict
end
def inT (kvs : List (Str × Int)) (n : Bool) : Pd → Option Pd
  | .str z => some (.bool (if n then !(kvs.lookup z).isSome else (kvs.lookup z).isSome))
  | _ => none
def getT (kvs : List (Str × Int)) : Pd → Option Pd
  | .str z => (kvs.lookup z).map .int
  | _ => none
section
variable {Z : Zx} {W : WX} {d : Addr} {kvs : List (Str × Int)} {w : World} {n : Bool}
theorem ru_inT (T : TabK Z.K w d kvs) : RUn Z.K (fun x H Q => rKIn Z.K d n x (.ref d) H Q) (inT kvs n) := by
  intro Hf H x dx z e hx h Q q
  unfold inT at h
  split at h
  · rename_i z
    cases h
    have k := q _ Hf H (Pg.refl e) (.bl _)
    cases el : kvs.lookup z with
    | none =>
      rw [el] at k
      exact ⟨z, none, hx.str, rfl, T.no z el, k⟩
    | some i =>
      rw [el] at k
      obtain ⟨t, ht⟩ := T.yes z i el
      exact ⟨z, _, hx.str, rfl, ht, k⟩
  · cases h
theorem d_inT (T : TabK Z.K w d kvs) {ta : TE} {fa : Rho → R AV} (ha : DE Z W ta fa) : DE Z W (tOp (rKIn Z.K d n) ta (tC (.ref d))) (f1 (inT kvs n) fa) := by
  intro Hf H O σ ρ s Q p
  refine ha.bind s p fun a ρ1 x Hf1 H1 s1 g1 k1 rx p1 => ?_
  exact op1_use (ru_inT T) s1 rx p1
theorem ru_getT (T : TabK Z.K w d kvs) : RUn Z.K (fun x H Q => rIxD Z.K w (.ref d) x H Q) (getT kvs) := by
  intro Hf H x dx z e hx h Q q
  unfold getT at h
  split at h
  · rename_i z
    cases el : kvs.lookup z with
    | none => rw [el] at h; cases h
    | some i =>
      rw [el] at h
      cases h
      obtain ⟨es, m, D⟩ := T.kd
      obtain ⟨t, ht⟩ := T.yes z i el
      exact ⟨d, z, .int i, rfl, hx.str, ⟨es, m, _, D.at_, D.lit, ht, ⟨t, rfl⟩⟩, q _ Hf H (Pg.refl e) (.int _)⟩
  · cases h
theorem d_getT (T : TabK Z.K w d kvs) {ta : TE} {fa : Rho → R AV} (ha : DE Z W ta fa) : DE Z W (tOp (rIxD Z.K w) (tC (.ref d)) ta) (f1 (getT kvs) fa) := by
  intro Hf H O σ ρ s Q p
  refine ha.bind s p fun a ρ1 x Hf1 H1 s1 g1 k1 rx p1 => ?_
  exact op1_use (ru_getT T) s1 rx p1
end
@[simp] theorem inT_str {kvs : List (Str × Int)} {n : Bool} {z : Str} : inT kvs n (.str z) = some (.bool (if n then !(kvs.lookup z).isSome else (kvs.lookup z).isSome)) := rfl
@[simp] theorem getT_str {kvs : List (Str × Int)} {z : Str} : getT kvs (.str z) = (kvs.lookup z).map .int := rfl
/-! ### a def that calls itself -/
theorem fn_bad {P : Program} {w : World} {K : PySem.W.Frag} {mg : Str → Option Value} {base : Heap} {CX : CXT} {k n : Nat} {f : Addr} {fd : FuncData} {ps : List Str} {Z : Zx} : FnOk P w K mg base CX k f fd ps (spF Z n fun _ => .bad) :=
  ⟨fun vs H Q E h => by obtain ⟨_, _, _, _, _, _, z⟩ := h; exact z.elim, fun A outer s H args us vs Q E _ _ _ _ h => by obtain ⟨_, _, _, _, _, _, z⟩ := h; exact z.elim⟩
/-! ### the head: tables, exceptions -/
abbrev TabD : Type := Str × List (Str × Int)
def tabB (K : PySem.W.Frag) (t : TabD) : Bool := t.2.all fun q => match PySem.W.nsIn K (He.ga K t.1) q.1 with
  | some (some (.int j _)) => decide (j = q.2)
  | _ => false
abbrev AlF : Type := He.AlD × Bool × List (Option (List (Option (Str × Int))))
def obsK (fa : List He.Fa) (fn : List He.DefD) (ex : PySem.W.Frag → Bool) (ts : List TabD) (K : PySem.W.Frag) : AlF := (He.obsD fa fn K, ex K && ts.all (tabB K), ts.map fun t => He.dicW K (He.ga K t.1))
def valK (fn : List He.DefD) (ts : List TabD) (w : World) : AlF := (He.valD fn, true, ts.map fun t => some (He.keysIn w.params (t.2.map (·.1))))
def obsF (n : Nat) (fa : List He.Fa) (fn : List He.DefD) (ex : PySem.W.Frag → Bool) (ts : List TabD) (g : Addr → Option Obj) : AlF := obsK fa fn ex ts (He.frG g (asE g n))
def hookF (n : Nat) (fa : List He.Fa) (fn : List He.DefD) (ex : PySem.W.Frag → Bool) (ts : List TabD) : PySem.W.Hook where
  α := AlF
  obs := fun s => obsF n fa fn ex ts s.heap.get?
  val := fun w => valK fn ts w
  says := fun w h => ∃ K : PySem.W.Frag, K.In h ∧ obsK fa fn ex ts K = valK fn ts w
  of := fun _ _ e => ⟨_, He.frG_in, e⟩
  keeps := fun _ _ _ ⟨K, hK, c⟩ k => ⟨K, PySem.W.Frag.In.keeps hK k, c⟩
theorem obsF_eq {n : Nat} {fa : List He.Fa} {fn : List He.DefD} {ex : PySem.W.Frag → Bool} {ts : List TabD} {g : Addr → Option Obj} {s : Shared} (h : ∀ a, g a = s.heap.get? a) : obsF n fa fn ex ts g = (hookF n fa fn ex ts).obs s := by
  have e : g = s.heap.get? := funext h
  rw [e] <;> rfl
section
variable {fa : List He.Fa} {fn : List He.DefD} {ex : PySem.W.Frag → Bool} {ts : List TabD} {w : World} {K : PySem.W.Frag}
theorem saysF_d (c : obsK fa fn ex ts K = valK fn ts w) : He.SaysD fa fn K := congrArg (fun z : AlF => z.1) c
theorem saysF_x (c : obsK fa fn ex ts K = valK fn ts w) : ex K = true := (Bool.and_eq_true_iff.mp (show (ex K && ts.all (tabB K)) = true from congrArg (fun z : AlF => z.2.1) c)).1
theorem key_of {P : Params} : ∀ {l : List DictEntry} {ks : List Str}, l.map He.keyOf = He.keysIn P ks → ∀ e ∈ l, ∃ x t, e.key = .str x t ∧ x ∈ ks
  | [], _, _, e, h => by simp at h
  | a :: r, [], h, _, _ => by cases h
  | a :: r, k :: ks, h, e, he => by
    have h1 : He.keyOf a :: r.map He.keyOf = some (k, PyData.keyHash P k) :: He.keysIn P ks := h
    injection h1 with h2 h3
    rcases List.mem_cons.mp he with rfl | he
    · unfold He.keyOf at h2
      split at h2
      · rename_i x t q
        have h4 := (Prod.mk.inj (Option.some.inj h2)).1
        exact ⟨x, t, q, by rw [h4]; exact List.mem_cons_self⟩
      · cases h2
    · obtain ⟨x, t, q, hx⟩ := key_of h3 e he
      exact ⟨x, t, q, List.mem_cons_of_mem _ hx⟩
theorem lookup_no {kvs : List (Str × Int)} {z : Str} (h : kvs.lookup z = none) : z ∉ kvs.map (·.1) := by
  induction kvs with
  | nil => simp
  | cons p r ih =>
    obtain ⟨x, i⟩ := p
    rw [List.lookup_cons] at h
    split at h
    · cases h
    · rename_i hx
      intro hm
      rcases List.mem_cons.mp hm with e | hm
      · have : z = x := e
        rw [this] at hx
        simp at hx
      · exact ih h hm
theorem lookup_yes {kvs : List (Str × Int)} {z : Str} {i : Int} (h : kvs.lookup z = some i) : (z, i) ∈ kvs := by
  induction kvs with
  | nil => cases h
  | cons p r ih =>
    obtain ⟨x, j⟩ := p
    rw [List.lookup_cons] at h
    split at h
    · rename_i hx
      cases h
      rw [eq_of_beq hx]
      exact List.mem_cons_self
    · exact List.mem_cons_of_mem _ (ih h)
theorem saysF_t (c : obsK fa fn ex ts K = valK fn ts w) (i : Nat) {t : TabD} (h : ts[i]? = some t := by rfl) : TabK K w (He.ga K t.1) t.2 := by
  have e : ts.map (fun t => He.dicW K (He.ga K t.1)) = ts.map fun t => some (He.keysIn w.params (t.2.map (·.1))) := congrArg (fun z : AlF => z.2.2) c
  have e2 : (ts.map fun t => He.dicW K (He.ga K t.1))[i]? = (ts.map fun t => some (He.keysIn w.params (t.2.map (·.1))))[i]? := by rw [e]
  rw [List.getElem?_map, List.getElem?_map, h] at e2
  have e3 : He.dicW K (He.ga K t.1) = some (He.keysIn w.params (t.2.map (·.1))) := Option.some.inj e2
  have hv : tabB K t = true := List.all_eq_true.mp (Bool.and_eq_true_iff.mp (show (ex K && ts.all (tabB K)) = true from congrArg (fun z : AlF => z.2.1) c)).2 t (List.mem_of_getElem? h)
  obtain ⟨es, n, D⟩ := He.dicW_ok e3
  have hk : es.toList.map He.keyOf = He.keysIn w.params (t.2.map (·.1)) := by
    unfold He.dicW at e3
    rw [D.at_] at e3
    simp only [D.low] at e3
    exact Option.some.inj e3
  refine ⟨⟨es, n, D⟩, fun z hz => ?_, fun z j hz => ?_⟩
  · have hn := lookup_no hz
    have ks := key_of hk
    unfold PySem.W.nsIn
    rw [D.at_]
    have f1 : es.toList.find? (·.key.isStr z) = none := by
      rw [List.find?_eq_none]
      intro a ha hs
      obtain ⟨x, u, q, hx⟩ := ks a ha
      rw [q] at hs
      have : x = z := by simpa [Value.isStr] using hs
      rw [this] at hx
      exact hn hx
    have f2 : es.toList.any (·.refKey) = false := by
      rw [List.any_eq_false]
      intro a ha hs
      obtain ⟨x, u, q, hx⟩ := ks a ha
      unfold DictEntry.refKey at hs
      rw [q] at hs
      cases hs
    simp only [f1, f2, Bool.false_eq_true, if_false]
  · have hq := List.all_eq_true.mp hv (z, j) (lookup_yes hz)
    simp only at hq
    split at hq
    · rename_i j' t' he
      have : j' = j := of_decide_eq_true hq
      rw [this] at he
      exact ⟨t', he⟩
    · cases hq
end
end Dt
namespace Dt
open PySem PySem.Spec L2 Evl
section
variable {A B : Type} {ρ ρ1 : Rho} {i j n : Nat} {x y : Pd}
@[simp] theorem bind_ok' {a : A} {k : A → Rho → R B} : (R.ok a ρ).bind k = k a ρ := rfl
@[simp] theorem bind_bad' {k : A → Rho → R B} : (R.bad : R A).bind k = .bad := rfl
@[simp] theorem bind_ex' {e : XD} {k : A → Rho → R B} : (R.ex e ρ : R A).bind k = .ex e ρ := rfl
theorem fVar_d (h : ρ[i]? = some (.d x)) : fVar i ρ = .ok (.d x) ρ := by unfold fVar; rw [h]
theorem fOwn_o {b : Bool} {xs : List Pd} (h : ρ[i]? = some (.own b xs)) : fOwn i ρ = .ok (.sl i) ρ := by unfold fOwn; rw [h]
@[simp] theorem fVar_ap : fVar i ρ = (match ρ[i]? with | some (.d x) => .ok (.d x) ρ | _ => .bad) := rfl
@[simp] theorem fOwn_ap : fOwn i ρ = (match ρ[i]? with | some (.own _ _) => .ok (.sl i) ρ | _ => .bad) := rfl
@[simp] theorem fC_ap : fC x ρ = .ok (.d x) ρ := rfl
@[simp] theorem res_d : res ρ (.d x) = some x := rfl
@[simp] theorem res_sl : res ρ (.sl i) = (match ρ[i]? with | some (.own _ xs) => some (.list xs) | some (.d x) => some x | _ => none) := rfl
@[simp] theorem f2_ap {h : Pd → Pd → Option Pd} {fa fb : Rho → R AV} : f2 h fa fb ρ = (fa ρ).bind fun a ρ1 => (fb ρ1).bind fun b ρ2 => op2 h a b ρ2 := rfl
@[simp] theorem op2_ap {h : Pd → Pd → Option Pd} {a b : AV} : op2 h a b ρ = (match res ρ a, res ρ b with | some x, some y => (match h x y with | some z => .ok (.d z) ρ | none => .bad) | _, _ => .bad) := rfl
@[simp] theorem f1_ap {h : Pd → Option Pd} {fa : Rho → R AV} : f1 h fa ρ = (fa ρ).bind fun a ρ1 => op1 h a ρ1 := rfl
@[simp] theorem op1_ap {h : Pd → Option Pd} {a : AV} : op1 h a ρ = (match res ρ a with | some x => (match h x with | some z => .ok (.d z) ρ | none => .bad) | _ => .bad) := rfl
@[simp] theorem fNil_ap : fNil ρ = .ok [] ρ := rfl
@[simp] theorem fCons_ap {fa : Rho → R AV} {fr : Rho → R (List AV)} : fCons fa fr ρ = (fa ρ).bind fun a ρ1 => (fr ρ1).bind fun as ρ2 => .ok (a :: as) ρ2 := rfl
@[simp] theorem ress_nil : ress ρ [] = some [] := rfl
@[simp] theorem ress_cons {a : AV} {as : List AV} : ress ρ (a :: as) = (match res ρ a, ress ρ as with | some x, some xs => some (x :: xs) | _, _ => none) := rfl
@[simp] theorem datas_nil : datas [] = some [] := rfl
@[simp] theorem datas_cons {as : List AV} : datas (.d x :: as) = (match datas as with | some xs => some (x :: xs) | none => none) := rfl
@[simp] theorem fTup_ap {fa : Rho → R (List AV)} : fTup fa ρ = (fa ρ).bind fun as ρ1 => (match datas as with | some xs => if xs.length ≤ sizeLine then .ok (.d (.tuple xs)) ρ1 else .bad | none => .bad) := rfl
@[simp] theorem fLst_ap {fa : Rho → R (List AV)} : fLst fa ρ = (fa ρ).bind fun as ρ1 => (match datas as with | some xs => if xs.length ≤ sizeLine then .ok xs ρ1 else .bad | none => .bad) := rfl
@[simp] theorem fL_ap {f : Rho → R (List Pd)} : fL f ρ = (f ρ).bind fun xs ρ1 => .ok (.d (.list xs)) ρ1 := rfl
@[simp] theorem rB_ap {a : AV} : rB a ρ = (match res ρ a with | some (.bool b) => .ok b ρ | _ => .bad) := rfl
@[simp] theorem fTest_ap {f : Rho → R AV} : fTest f ρ = (f ρ).bind rB := rfl
@[simp] theorem fAnd_ap {f g : Rho → R Bool} : fAnd f g ρ = (f ρ).bind fun b ρ1 => if b = true then g ρ1 else .ok false ρ1 := rfl
@[simp] theorem fOr_ap {f g : Rho → R Bool} : fOr f g ρ = (f ρ).bind fun b ρ1 => if b = true then .ok true ρ1 else g ρ1 := rfl
@[simp] theorem fNot_ap {f : Rho → R Bool} : fNot f ρ = (f ρ).bind fun b ρ1 => .ok (!b) ρ1 := rfl
@[simp] theorem fAndV_ap {f g : Rho → R AV} : fAndV f g ρ = (f ρ).bind fun a ρ1 => (rB a ρ1).bind fun b ρ2 => if b = true then g ρ2 else .ok (.d (.bool false)) ρ2 := rfl
@[simp] theorem fOrV_ap {f g : Rho → R AV} : fOrV f g ρ = (f ρ).bind fun a ρ1 => (rB a ρ1).bind fun b ρ2 => if b = true then .ok (.d (.bool true)) ρ2 else g ρ2 := rfl
@[simp] theorem fNotV_ap {f : Rho → R AV} : fNotV f ρ = (f ρ).bind fun a ρ1 => (rB a ρ1).bind fun b ρ2 => .ok (.d (.bool (!b))) ρ2 := rfl
@[simp] theorem fIf_ap {c : Rho → R Bool} {f g : Rho → R AV} : fIf c f g ρ = (c ρ).bind fun b ρ1 => if b = true then f ρ1 else g ρ1 := rfl
@[simp] theorem fChain_ap {h h' : Pd → Pd → Option Pd} {fa fb fc : Rho → R AV} : fChain h h' fa fb fc ρ = (fa ρ).bind fun a ρ1 => (fb ρ1).bind fun b ρ2 => (op2 h a b ρ2).bind fun z ρ3 => (rB z ρ3).bind fun k ρ4 =>
  if k = true then (fc ρ4).bind fun c ρ5 => op2 h' b c ρ5 else .ok (.d (.bool false)) ρ4 := rfl
@[simp] theorem fCB_ap {h : List Pd → Option Pd} {fa : Rho → R (List AV)} : fCB h fa ρ = (fa ρ).bind fun as ρ1 => (match ress ρ1 as with | some xs => (match h xs with | some z => .ok (.d z) ρ1 | none => .bad) | none => .bad) := rfl
@[simp] theorem fCBL_ap {h : List Pd → Option (List Pd)} {fa : Rho → R (List AV)} : fCBL h fa ρ = (fa ρ).bind fun as ρ1 => (match ress ρ1 as with | some xs => (match h xs with | some z => .ok z ρ1 | none => .bad) | none => .bad) := rfl
@[simp] theorem fNoPart_ap : fNoPart ρ = .ok none ρ := rfl
@[simp] theorem fPart_ap {f : Rho → R AV} : fPart f ρ = (f ρ).bind fun a ρ1 => (match res ρ1 a with | some (.int i) => .ok (some i) ρ1 | _ => .bad) := rfl
@[simp] theorem fSl_ap {h : Pd → Option Int → Option Int → Option Pd} {fe : Rho → R AV} {fl fh : Rho → R (Option Int)} : fSl h fe fl fh ρ = (fe ρ).bind fun a ρ1 => (fl ρ1).bind fun lo ρ2 => (fh ρ2).bind fun hi ρ3 => (match res ρ3 a with | some x => (match h x lo hi with | some z => .ok (.d z) ρ3 | none => .bad) | none => .bad) := rfl
@[simp] theorem fM1_ap {h : Pd → List Pd → Option Pd} {fo fa : Rho → R AV} : fM1 h fo fa ρ = (fo ρ).bind fun o ρ1 => (match res ρ1 o with
  | some (.str x) => (fa ρ1).bind fun a ρ2 => (match res ρ2 a with | some y => (match h (.str x) [y] with | some z => .ok (.d z) ρ2 | none => .bad) | _ => .bad)
  | _ => .bad) := rfl
@[simp] theorem fM0_ap {h : Pd → List Pd → Option Pd} {fo : Rho → R AV} : fM0 h fo ρ = (fo ρ).bind fun o ρ1 => (match res ρ1 o with | some (.str x) => (match h (.str x) [] with | some z => .ok (.d z) ρ1 | none => .bad) | _ => .bad) := rfl
@[simp] theorem fItL_ap {f : Rho → R AV} : fItL f ρ = (f ρ).bind fun a ρ1 => (match a with | .d (.list xs) => .ok xs ρ1 | _ => .bad) := rfl
@[simp] theorem fItT_ap {f : Rho → R AV} : fItT f ρ = (f ρ).bind fun a ρ1 => (match a with | .d (.tuple xs) => .ok xs ρ1 | _ => .bad) := rfl
@[simp] theorem fItS_ap {f : Rho → R AV} : fItS f ρ = (f ρ).bind fun a ρ1 => (match a with | .d (.str x) => .ok (chars x) ρ1 | _ => .bad) := rfl
@[simp] theorem fRng1_ap {f : Rho → R (List AV)} : fRng1 f ρ = (f ρ).bind fun as ρ1 => (match as with | [.d (.int j)] => if -(2 ^ 62) ≤ j ∧ j < 2 ^ 62 then .ok (nums 0 j.toNat) ρ1 else .bad | _ => .bad) := rfl
@[simp] theorem fRng2_ap {f : Rho → R (List AV)} : fRng2 f ρ = (f ρ).bind fun as ρ1 => (match as with | [.d (.int i), .d (.int j)] => if (-(2 ^ 62) ≤ i ∧ i < 2 ^ 62) ∧ -(2 ^ 62) ≤ j ∧ j < 2 ^ 62 then .ok (nums i (j - i).toNat) ρ1 else .bad | _ => .bad) := rfl
@[simp] theorem fLc_ap {fi : Rho → R (List Pd)} {h : Pd → Rho → Option Rho} {ft : Rho → R Bool} {fe : Rho → R AV} {vs : List Nat} : fLc fi h ft fe vs ρ = if okW ρ vs = true then (fi ρ).bind fun xs ρ1 => lcRun h ft fe vs xs [] (wipeR ρ1 vs) else .bad := rfl
@[simp] theorem okW_nil : okW ρ [] = true := rfl
@[simp] theorem okW_cons {v : Nat} {vs : List Nat} : okW ρ (v :: vs) = ((match ρ[v]? with | some (.own _ _) => false | _ => true) && okW ρ vs) := rfl
@[simp] theorem wipeR_nil : wipeR ρ [] = ρ := rfl
@[simp] theorem wipeR_cons {v : Nat} {vs : List Nat} : wipeR ρ (v :: vs) = (wipeR ρ vs).set v .no := rfl
@[simp] theorem lcRun_nil {h : Pd → Rho → Option Rho} {ft : Rho → R Bool} {fe : Rho → R AV} {vs : List Nat} {acc : List Pd} : lcRun h ft fe vs [] acc ρ = .ok acc ρ := rfl
@[simp] theorem fNx_ap : fNx ρ = .ok .nx ρ := rfl
@[simp] theorem fSeq_ap {f g : Rho → R Fl} : fSeq f g ρ = (match f ρ with | .ok .nx ρ1 => g ρ1 | r => r) := rfl
@[simp] theorem fIfS_ap {c : Rho → R Bool} {f g : Rho → R Fl} : fIfS c f g ρ = (c ρ).bind fun b ρ1 => if b = true then f ρ1 else g ρ1 := rfl
@[simp] theorem fRet_ap {f : Rho → R AV} : fRet f ρ = (f ρ).bind fun a ρ1 => (match a with | .d x => .ok (.rt x) ρ1 | .sl _ => .bad) := rfl
@[simp] theorem fRetL_ap {f : Rho → R (List Pd)} : fRetL f ρ = (f ρ).bind fun xs ρ1 => .ok (.rl xs) ρ1 := rfl
@[simp] theorem fRetN_ap : fRetN ρ = .ok (.rt .none) ρ := rfl
@[simp] theorem fDrop_ap {f : Rho → R AV} : fDrop f ρ = (f ρ).bind fun _ ρ1 => .ok .nx ρ1 := rfl
@[simp] theorem fAsg_ap {f : Rho → R AV} {h : Pd → Rho → Option Rho} : fAsg f h ρ = (f ρ).bind fun a ρ1 => (match a with | .d x => (match h x ρ1 with | some ρ2 => .ok .nx ρ2 | none => .bad) | .sl _ => .bad) := rfl
@[simp] theorem fSetO_ap {f : Rho → R (List Pd)} : fSetO f i ρ = (f ρ).bind fun xs ρ1 => (match putOwn i xs ρ1 with | some ρ2 => .ok .nx ρ2 | none => .bad) := rfl
@[simp] theorem fApp_ap {f : Rho → R AV} : fApp i f ρ = (match ρ[i]? with
  | some (.own _ _) => (f ρ).bind fun a ρ1 => (match a, ρ1[i]? with | .d y, some (.own b xs) => if xs.length < sizeLine then .ok .nx (ρ1.set i (.own b (xs ++ [y]))) else .bad | _, _ => .bad)
  | _ => .bad) := rfl
@[simp] theorem fExt_ap {f : Rho → R (List Pd)} : fExt i f ρ = (match ρ[i]? with
  | some (.own _ _) => (f ρ).bind fun ys ρ1 => (match ρ1[i]? with | some (.own b xs) => if xs.length + ys.length ≤ sizeLine then .ok .nx (ρ1.set i (.own b (xs ++ ys))) else .bad | _ => .bad)
  | _ => .bad) := rfl
@[simp] theorem fSetI_ap {f fk : Rho → R AV} : fSetI i f fk ρ = (f ρ).bind fun a ρ1 => (match a, ρ1[i]? with
  | .d y, some (.own _ _) => (fk ρ1).bind fun k ρ2 => (match k, ρ2[i]? with | .d (.int n), some (.own b xs) => (match ixN xs.length n with | some j => .ok .nx (ρ2.set i (.own b (xs.set j y))) | none => .bad) | _, _ => .bad)
  | _, _ => .bad) := rfl
@[simp] theorem fFrz_ap {f : Rho → R Fl} : fFrz i f ρ = f (frz i ρ) := rfl
@[simp] theorem frz_ap : frz i ρ = (match ρ[i]? with | some (.own false xs) => ρ.set i (.d (.list xs)) | _ => ρ) := rfl
@[simp] theorem fFor_ap {fi : Rho → R (List Pd)} {h : Pd → Rho → Option Rho} {fb : Rho → R Fl} : fFor fi h fb ρ = (fi ρ).bind fun xs ρ1 => forRun h fb xs ρ1 := rfl
@[simp] theorem forRun_nil {h : Pd → Rho → Option Rho} {fb : Rho → R Fl} : forRun h fb [] ρ = .ok .nx ρ := rfl
@[simp] theorem fCall_ap {g : Rho → R RV} {fa : Rho → R (List AV)} : fCall n g fa ρ = (fa ρ).bind fun as ρ1 => kCall g (argsD n as) ρ1 := rfl
@[simp] theorem fCallL_ap {g : Rho → R RV} {fa : Rho → R (List AV)} : fCallL n g fa ρ = (fa ρ).bind fun as ρ1 => kCallL g (argsD n as) ρ1 := rfl
@[simp] theorem fCallP_ap {g : Rho → R RV} {fa : Rho → R (List AV)} : fCallP n i g fa ρ = (match ρ[i]? with | some (.own _ _) => (fa ρ).bind fun as ρ1 => kCallP i g (argsD n as) ρ1 | _ => .bad) := rfl
@[simp] theorem fCallPL_ap {g : Rho → R RV} {fa : Rho → R (List AV)} : fCallPL n i g fa ρ = (match ρ[i]? with | some (.own _ _) => (fa ρ).bind fun as ρ1 => kCallPL i g (argsD n as) ρ1 | _ => .bad) := rfl
@[simp] theorem argsD_ap {as : List AV} : argsD n as = (match datas as with | some xs => if xs.length = n then some xs else none | none => none) := rfl
@[simp] theorem kCall_some {g : Rho → R RV} {xs : List Pd} : kCall g (some xs) ρ = (match g (xs.map Sl.d) with | .ok (.d x) _ => .ok (.d x) ρ | .ex e _ => .ex e ρ | _ => .bad) := rfl
@[simp] theorem kCallL_some {g : Rho → R RV} {xs : List Pd} : kCallL g (some xs) ρ = (match g (xs.map Sl.d) with | .ok (.l x) _ => .ok x ρ | .ex e _ => .ex e ρ | _ => .bad) := rfl
@[simp] theorem kCallP_some {g : Rho → R RV} {xs : List Pd} : kCallP i g (some xs) ρ = (match ρ[i]? with
  | some (.own b ps) => (match g (.own true ps :: xs.map Sl.d) with | .ok (.d x) (.own _ ps' :: _) => .ok (.d x) (ρ.set i (.own b ps')) | .ex e (.own _ ps' :: _) => .ex e (ρ.set i (.own b ps')) | _ => .bad)
  | _ => .bad) := by
  unfold kCallP
  cases e : ρ[i]? with
  | none => rfl
  | some z => cases z <;> rfl
@[simp] theorem kCallPL_some {g : Rho → R RV} {xs : List Pd} : kCallPL i g (some xs) ρ = (match ρ[i]? with
  | some (.own b ps) => (match g (.own true ps :: xs.map Sl.d) with | .ok (.l x) (.own _ ps' :: _) => .ok x (ρ.set i (.own b ps')) | .ex e (.own _ ps' :: _) => .ex e (ρ.set i (.own b ps')) | _ => .bad)
  | _ => .bad) := by
  unfold kCallPL
  cases e : ρ[i]? with
  | none => rfl
  | some z => cases z <;> rfl
/-- a slot that may be stored to -/
def isIo : Sl → Bool
  | .own true _ => true
  | _ => false
@[simp] theorem isIo_no : isIo .no = false := rfl
@[simp] theorem isIo_d : isIo (.d x) = false := rfl
@[simp] theorem isIo_x {e : XD} : isIo (.x e) = false := rfl
@[simp] theorem isIo_of {xs : List Pd} : isIo (.own false xs) = false := rfl
theorem put_eq : put i x ρ = (match ρ[i]? with | some s => if isIo s = true then none else some (ρ.set i (.d x)) | none => none) := by
  unfold put
  cases e : ρ[i]? with
  | none => rfl
  | some s => cases s with
    | no => rfl
    | x _ => rfl
    | d y => rfl
    | own b xs => cases b <;> rfl
theorem putOwn_eq {xs : List Pd} : putOwn i xs ρ = (match ρ[i]? with | some s => if isIo s = true then none else some (ρ.set i (.own false xs)) | none => none) := by
  unfold putOwn
  cases e : ρ[i]? with
  | none => rfl
  | some s => cases s with
    | no => rfl
    | x _ => rfl
    | d y => rfl
    | own b xs => cases b <;> rfl
@[simp] theorem putNil_nil : putNil [] ρ = some ρ := rfl
@[simp] theorem putCons_cons {h : Pd → Rho → Option Rho} {k : List Pd → Rho → Option Rho} {xs : List Pd} : putCons h k (x :: xs) ρ = (match h x ρ with | some ρ1 => k xs ρ1 | none => none) := rfl
@[simp] theorem putTup_tup {k : List Pd → Rho → Option Rho} {xs : List Pd} : putTup n k (.tuple xs) ρ = if xs.length = n then k xs ρ else none := rfl
@[simp] theorem endF_rt {as : Rho} : endF as (.ok (.rt x) ρ) = .ok (.d x) (outs as ρ) := rfl
@[simp] theorem endF_rl {as : Rho} {xs : List Pd} : endF as (.ok (.rl xs) ρ) = .ok (.l xs) (outs as ρ) := rfl
@[simp] theorem endF_nx {as : Rho} : endF as (.ok .nx ρ) = .ok (.d .none) (outs as ρ) := rfl
@[simp] theorem endF_ex {as : Rho} {e : XD} : endF as (.ex e ρ) = .ex e (outs as ρ) := rfl
@[simp] theorem outs_nil : outs [] ρ = [] := rfl
@[simp] theorem outs_d {as : Rho} {z : Sl} : outs (.d x :: as) (z :: ρ) = .d x :: outs as ρ := rfl
@[simp] theorem outs_x {as : Rho} {e : XD} {z : Sl} : outs (.x e :: as) (z :: ρ) = .x e :: outs as ρ := rfl
@[simp] theorem outs_o {as : Rho} {z : Sl} {xs : List Pd} : outs (.own true xs :: as) (z :: ρ) = z :: outs as ρ := rfl
end
/-! ### data operations at known kinds -/
section
variable {i j : Int} {a b : Str} {xs ys : List Pd} {x y : Pd}
@[simp] theorem addD_int : addD (.int i) (.int j) = some (.int (i + j)) := rfl
@[simp] theorem addD_str : addD (.str a) (.str b) = if a.length + b.length ≤ sizeLine then some (.str (a ++ b)) else none := rfl
@[simp] theorem addD_list : addD (.list xs) (.list ys) = if xs.length + ys.length ≤ sizeLine then some (.list (xs ++ ys)) else none := rfl
@[simp] theorem addD_tuple : addD (.tuple xs) (.tuple ys) = if xs.length + ys.length ≤ sizeLine then some (.tuple (xs ++ ys)) else none := rfl
@[simp] theorem subD_int : subD (.int i) (.int j) = some (.int (i - j)) := rfl
@[simp] theorem mulD_int : mulD (.int i) (.int j) = if mulOk i j = true then some (.int (i * j)) else none := rfl
@[simp] theorem modD_int : modD (.int i) (.int j) = if 0 < j then some (.int (i % j)) else none := by simp [modD, intD]
@[simp] theorem fdivD_int : fdivD (.int i) (.int j) = if 0 < j ∧ j.natAbs.log2 < 9000 then some (.int (i / j)) else none := by simp [fdivD, intD]
@[simp] theorem powD_int : powD (.int i) (.int j) = if 0 ≤ j ∧ j ≤ 1000000 ∧ i.natAbs < 2 ^ 64 then some (.int (i ^ j.toNat)) else none := by simp [powD, intD]
@[simp] theorem leD_int : leD (.int i) (.int j) = some (.bool (decide (i ≤ j))) := rfl
@[simp] theorem gtD_int : gtD (.int i) (.int j) = some (.bool (decide (j < i))) := rfl
@[simp] theorem geD_int : geD (.int i) (.int j) = some (.bool (decide (j ≤ i))) := rfl
@[simp] theorem ltD_int : ltD (.int i) (.int j) = some (.bool (decide (i < j))) := rfl
@[simp] theorem ltD_str : ltD (.str a) (.str b) = some (.bool (decide (a.cps.toList < b.cps.toList))) := rfl
@[simp] theorem negD_int : negD (.int i) = some (.int (-i)) := rfl
@[simp] theorem eqD_int : eqD (.int i) (.int j) = some (.bool (decide (i = j))) := rfl
@[simp] theorem eqD_str : eqD (.str a) (.str b) = some (.bool (decide (a = b))) := rfl
@[simp] theorem neD_int : neD (.int i) (.int j) = some (.bool (!decide (i = j))) := rfl
@[simp] theorem neD_str : neD (.str a) (.str b) = some (.bool (!decide (a = b))) := rfl
theorem eqB_list : eqB (.list xs) (.list ys) = if sh 60 (.list xs) = true ∧ sh 60 (.list ys) = true then some (PyData.eqvAll xs ys) else none := rfl
theorem eqB_tuple : eqB (.tuple xs) (.tuple ys) = if sh 60 (.tuple xs) = true ∧ sh 60 (.tuple ys) = true then some (PyData.eqvAll xs ys) else none := rfl
theorem sh_list {n : Nat} : sh (n + 1) (.list xs) = xs.all (sh n) := rfl
theorem sh_tuple {n : Nat} : sh (n + 1) (.tuple xs) = xs.all (sh n) := rfl
@[simp] theorem sh_int {n : Nat} : sh n (.int i) = true := by cases n <;> rfl
@[simp] theorem sh_bool {n : Nat} {k : Bool} : sh n (.bool k) = true := by cases n <;> rfl
@[simp] theorem sh_none {n : Nat} : sh n .none = true := by cases n <;> rfl
@[simp] theorem sh_str {n : Nat} : sh n (.str a) = PyData.strOk a := by cases n <;> rfl
@[simp] theorem ixD_list : ixD (.list xs) (.int i) = atI xs i := rfl
@[simp] theorem ixD_tuple : ixD (.tuple xs) (.int i) = atI xs i := rfl
@[simp] theorem ixD_str : ixD (.str a) (.int i) = if a.length ≤ sizeLine then (atI a.cps.toList i).map fun c => .str ⟨#[c]⟩ else none := rfl
@[simp] theorem slD_list {lo hi : Option Int} : slD (.list xs) lo hi = some (.list (cutD xs lo hi)) := rfl
@[simp] theorem slD_tuple {lo hi : Option Int} : slD (.tuple xs) lo hi = some (.tuple (cutD xs lo hi)) := rfl
@[simp] theorem slD_str {lo hi : Option Int} : slD (.str a) lo hi = if a.length ≤ sizeLine then some (.str (cutS a lo hi)) else none := rfl
@[simp] theorem lenD_list : lenD [.list xs] = some (.int xs.length) := rfl
@[simp] theorem lenD_tuple : lenD [.tuple xs] = some (.int xs.length) := rfl
@[simp] theorem lenD_str : lenD [.str a] = if a.length ≤ sizeLine then some (.int a.length) else none := rfl
@[simp] theorem absD_int : absD [.int i] = some (.int (if i < 0 then -i else i)) := rfl
@[simp] theorem strD_int : strD [.int i] = if i.natAbs.log2 < 1920 then some (.str (toString i)) else none := rfl
@[simp] theorem tupleD_list : tupleD [.list xs] = some (.tuple xs) := rfl
@[simp] theorem tupleD_tuple : tupleD [.tuple xs] = some (.tuple xs) := rfl
@[simp] theorem listD_list : listD [.list xs] = some xs := rfl
@[simp] theorem listD_tuple : listD [.tuple xs] = some xs := rfl
@[simp] theorem allD_list : allD [.list xs] = (boolsD xs).map fun bs => .bool (bs.all id) := rfl
@[simp] theorem anyD_list : anyD [.list xs] = (boolsD xs).map fun bs => .bool (bs.any id) := rfl
@[simp] theorem sumD_list : sumD [.list xs] = (intsD xs).map fun bs => .int bs.sum := rfl
@[simp] theorem upperD_str : upperD (.str a) [] = if a.length ≤ 5592405 then some (.str (Txt.upper a)) else none := rfl
@[simp] theorem isiD_int (d : Pd) : isiD "int" d = some (.bool (isIntD d)) := isi_int d
@[simp] theorem isiD_bool (d : Pd) : isiD "bool" d = some (.bool (isBoolD d)) := isi_bool d
@[simp] theorem isiD_str (d : Pd) : isiD "str" d = some (.bool (isStrD d)) := isi_str d
@[simp] theorem isiD_tuple (d : Pd) : isiD "tuple" d = some (.bool (isTupD d)) := isi_tuple d
@[simp] theorem isiD_list (d : Pd) : isiD "list" d = some (.bool (isLstD d)) := isi_list d
theorem boolsD_map (f : Pd → Bool) (l : List Pd) : boolsD (l.map fun x => .bool (f x)) = some (l.map f) := by
  induction l with
  | nil => rfl
  | cons x l ih => simp only [List.map_cons, boolsD]; rw [ih]
theorem boolsD_all (f : Pd → Bool) (l : List Pd) : allD [.list (l.map fun x => .bool (f x))] = some (.bool (l.all f)) := by
  rw [allD_list, boolsD_map]
  simp
theorem bits_le {i : Int} {n : Nat} (h : i.natAbs < 2 ^ n) : bits i ≤ n := PyProof.Rows.intBits_le h
end
end Dt
namespace Dt
open PySem PySem.Spec L2 Evl PyProof.Rows
/-! ### a + b, a new list that is owned -/
section
variable {Z : Zx} {W : WX}
def kCat (a b : AV) (ρ : Rho) : R (List Pd) := match res ρ a, res ρ b with
  | some (.list xs), some (.list ys) => if xs.length + ys.length ≤ sizeLine then .ok (xs ++ ys) ρ else .bad
  | _, _ => .bad
def fCatL (fa fb : Rho → R AV) : Rho → R (List Pd) := fun ρ => (fa ρ).bind fun a ρ1 => (fb ρ1).bind fun b ρ2 => kCat a b ρ2
theorem l_cat {ta tb : TE} {fa fb : Rho → R AV} (ha : DE Z W ta fa) (hb : DE Z W tb fb) : DL Z W (tOp (rAddA Z.K) ta tb) (fCatL fa fb) := by
  intro Hf H O σ ρ s Q p
  refine ha.bind s p fun a ρ1 x Hf1 H1 s1 g1 k1 rx p1 => ?_
  refine hb.bind s1 p1 fun b ρ2 y Hf2 H2 s2 g2 k2 ry p2 => ?_
  unfold kCat at p2
  cases ea : res ρ2 a with
  | none => rw [ea] at p2; exact p2.elim
  | some dx =>
    cases eb : res ρ2 b with
    | none => rw [ea, eb] at p2; cases dx <;> exact p2.elim
    | some dy =>
      rw [ea, eb] at p2
      cases dx with
      | list xs =>
        cases dy with
        | list ys =>
          simp only at p2
          by_cases hz : xs.length + ys.length ≤ sizeLine
          · rw [if_pos hz] at p2
            obtain ⟨l, vs, rfl, t2, r1⟩ := (res_ok s2 (RA.mono rx g2.ex) ea).list s2.ex
            obtain ⟨m, us, rfl, w2, r2⟩ := (res_ok s2 ry eb).list s2.ex
            refine .inr (.inr (.inr ⟨l, m, vs, us, rfl, rfl, t2, w2, by rw [r1.length, r2.length]; exact hz, fun q nq => ?_⟩))
            have g := Pg.lay (o := .lst (vs ++ us)) s2.ex nq
            exact p2 Hf2 _ (s2.grow g) g.gr Kp.refl _ ⟨q, _, rfl, g1.gone (g2.gone nq), upd_same, fresh_back s2.ex nq, r1.append r2⟩
          · rw [if_neg hz] at p2; exact p2.elim
        | _ => exact p2.elim
      | _ => exact p2.elim
end
@[simp] theorem fCatL_ap {ρ : Rho} {fa fb : Rho → R AV} : fCatL fa fb ρ = (fa ρ).bind fun a ρ1 => (fb ρ1).bind fun b ρ2 => kCat a b ρ2 := rfl
@[simp] theorem kCat_ap {ρ : Rho} {a b : AV} : kCat a b ρ = (match res ρ a, res ρ b with
  | some (.list xs), some (.list ys) => if xs.length + ys.length ≤ sizeLine then .ok (xs ++ ys) ρ else .bad
  | _, _ => .bad) := rfl
/-! ### sorted(text) -/
def sgL (z : Str) : List Str := z.cps.toList.map fun c => (⟨#[c]⟩ : Str)
def rSortTx : List V → Hp → VK → Prop := fun vs H Q => ∃ z, vs = [.str z] ∧ z.length < 64 ∧ ∀ (ys : List Str) (p : Addr), ys.Perm (sgL z) → PyProof.Rows.sortedS ys = true → H p = none → Q (.ref p) (upd H p (.lst (ys.map V.str)))
theorem cr_sortTx {X : Cx} (hc : X.calm = true) : CallR X (.builtin "sorted") rSortTx := by
  intro pins s σ H vs us Q I r h
  obtain ⟨z, rfl, hz, q⟩ := h
  cases r with
  | cons r1 r2 =>
    cases r2
    obtain ⟨t, rfl⟩ := r1
    have hz2 : z.cps.size < 64 := hz
    refine Calls.call_function_entry PyProof.Rows.kind_sorted PyProof.Rows.plain_sorted PyProof.Rows.entry_sorted (PyProof.Rows.args_sorted1 _) ?_
    unfold Builtin.«sorted»
    refine wpAny_bind (m := checkCount "sorted" 1 1 _) (wpAny_pure (wpAny_bind (wpAny_collect_str (A := X.A.in1) (I.ok.hd hc) z t (fun s2 acc hk hg hd ho hacc => ?_) (by rw [sizeLine_eq]; omega))))
    obtain ⟨h2, g2, d2, tk, o2⟩ := s2
    obtain rfl : g2 = s.gens := hg
    obtain rfl : d2 = s.drawn := hd
    obtain rfl : o2 = s.os := ho
    have rv : Vals ((sgL z).map V.str) acc.toList := by
      have := sign_vals hacc
      unfold sgL
      rw [List.map_map]
      exact this
    have hS : PyProof.Rows.StrsAre acc.toList (sgL z) := strsAre_of rv
    have hal : acc.toList.length = (sgL z).length := by rw [← rv.length, List.length_map]
    have h64 : (sgL z).length < 64 := by unfold sgL; rw [List.length_map, Array.length_toList]; exact hz2
    have J : Inv X pins σ H { s with heap := h2, toks := tk } := I.kept hk
    refine wpAny_bind (wpAny_newList ?_ (by rw [hal, sizeLine_eq]; omega))
    have hL : (h2.push (seqObj "list" acc.toList.toArray 0)).get? h2.objs.size = some (seqObj "list" acc.toList.toArray 0) := Heap.get?_push_size _ rfl
    show wpAny _ _ _ _ _ { s with heap := h2.push (seqObj "list" acc.toList.toArray 0), toks := tk }
    refine wpAny_bind (wpAny_holding (wpAny_call_entry PyProof.Rows.slot_list_sort ⟨_, hL, rfl⟩ PyProof.Rows.entry_list_sort
      (list_sort_treeK strKind_oneLt (s := { s with heap := h2.push (seqObj "list" acc.toList.toArray 0), toks := tk }) hL hS.keysOf (fun v1 v2 rest e => keyKind_strs (by rw [← e]; exact hS)) (by rw [hal]; exact h64) fun st hp hs => ⟨_, rfl, ?_⟩) (PyProof.Rows.args_list_sort _)))
    obtain ⟨ys, k1, k2, k3⟩ := sorted_out_str hS hp hs
    obtain ⟨e1, he1⟩ := PyProof.Rows.sortedHeap_at (vs := acc.toList) (out := (arrOf st).map (·.2)) hL
    have hlen : (ys.map V.str).length ≤ sizeLine := by rw [List.length_map, k2.length_eq, sizeLine_eq]; omega
    refine wpAny_pure ⟨_, rfl, .ref h2.objs.size, upd H h2.objs.size (.lst (ys.map V.str)), J.laid (t' := tk) (fun b u e => ?_) (Nat.le_refl _)
      (show ObjOk X.prog X.w _ _ _ (.lst (ys.map V.str)) from ⟨hlen, ((arrOf st).map (·.2)).toList, e1, vals_of_strs k1, by rw [Array.toArray_toList]; exact he1⟩), rfl, q ys _ k2 k3 (J.hok.fresh (Nat.le_refl _))⟩
    have lb : b < h2.objs.size := Heap.lt_size e
    rw [PyProof.Rows.sortedHeap_old (Nat.ne_of_lt lb) (by rw [size_push']; exact Nat.lt_succ_of_lt lb)]
    exact Heap.get?_push_of_some _ e
def sortedE : List Pd → Option (List Pd)
  | [.str z] => if z.length < 64 then some ((sortS (sgL z)).map .str) else none
  | xs => sortedD xs
abbrev rSortedE (K : PySem.W.Frag) : List V → Hp → VK → Prop := fun vs H Q => rSortedS K vs H Q ∨ rSortTx vs H Q
theorem kSortedE {X : Cx} (K : PySem.W.Frag) (hc : X.calm = true) (hK : X.K = K := by rfl) : CallR X (.builtin "sorted") (rSortedE K) := by
  subst hK
  exact cr_sortedS.or (cr_sortTx hc)
theorem rcl_sortedE {K : PySem.W.Frag} : RCallL K (rSortedE K) sortedE := by
  intro Hf H vs xs z e hx h Q q
  unfold sortedE at h
  split at h
  · rename_i u
    split at h
    · rename_i hl
      cases h
      obtain ⟨v, rfl, hv⟩ := hx.one
      obtain rfl := hv.str
      refine .inr ⟨u, rfl, hl, fun ys p pm so np => ?_⟩
      rw [sorted_unique pm so]
      exact q p _ _ (e.trans (Ex.new np)) (Ex.new np) np upd_same (RDs.strs _)
    · cases h
  · exact .inl (rcl_sorted Hf H vs xs z e hx h Q q)
@[simp] theorem sortedE_str {z : Str} : sortedE [.str z] = if z.length < 64 then some ((sortS (sgL z)).map .str) else none := rfl
end Dt
namespace Dt
open PySem PySem.Spec L2 Evl
/-! ### sum of truths -/
def cntT : List Bool → Int
  | [] => 0
  | b :: bs => (if b = true then 1 else 0) + cntT bs
def bI (bs : List Bool) (i : Nat) : Int := if bs.getD i false = true then 1 else 0
theorem preSum_cons (b : Bool) (bs : List Bool) : ∀ n, preSum (bI (b :: bs)) (n + 1) = (if b = true then 1 else 0) + preSum (bI bs) n
  | 0 => by show (0 : Int) + bI (b :: bs) 0 = _ + 0; show (0 : Int) + (if b = true then 1 else 0) = _; omega
  | n + 1 => by
    show preSum (bI (b :: bs)) (n + 1) + bI (b :: bs) (n + 1) = _
    rw [preSum_cons b bs n]
    show _ + bI bs n = _ + (preSum (bI bs) n + bI bs n)
    omega
theorem preSum_cnt : ∀ bs : List Bool, preSum (bI bs) bs.length = cntT bs
  | [] => rfl
  | b :: bs => by rw [List.length_cons, preSum_cons, preSum_cnt bs]; rfl
def rSumB (K : PySem.W.Frag) : List V → Hp → VK → Prop := fun vs H Q => ∃ (a : Addr) (bs : List Bool), vs = [V.ref a] ∧ SqL K H a (bs.map V.bl) ∧ Q (.int (cntT bs)) H
theorem bl_at : ∀ {bs : List Bool} {us : List Value}, Vals (bs.map V.bl) us → ∀ (i : Nat) (v : Value), us[i]? = some v → v = .bool (bs.getD i false)
  | [], _, .nil, i, v, h => by simp at h
  | b :: bs, _, .cons r t, 0, v, h => by
    simp at h
    subst h
    cases r
    rfl
  | b :: bs, _, .cons r t, i + 1, v, h => by
    have := bl_at t i v (by simpa using h)
    simpa using this
theorem cr_sumB {X : Cx} (hc : X.calm = true) : CallR X (.builtin "sum") (rSumB X.K) := by
  intro pins s σ H vs us Q I r h
  obtain ⟨a, bs, rfl, sq, q⟩ := h
  rw [Vals.ref1 r]
  obtain ⟨its, rv, pl, _⟩ := I.list sq
  have hl := pl.isList
  have hz : its.toArray.size = bs.length := by rw [List.size_toArray, ← rv.length, List.length_map]
  have hlt : a < s.heap.objs.size := by
    obtain ⟨o, ho, _⟩ := hl
    exact Heap.lt_size ho
  have hh : X.A.in1.handled = none := by simp [I.ok.hd hc]
  refine call_sum_walkAnyB (wpAny_pyIter_list hl ?_)
  refine ⟨_, _, _, _, _, _, _, bI bs, rfl, (Walks.list hh _ a (Nat.ne_of_lt hlt) its.toArray).toS, ⟨⟨_, Heap.get?_push_size _ rfl, rfl, rfl⟩, hl.push _⟩, ?_, ?_, ?_⟩
  · intro b hb
    simp only [List.mem_cons, List.not_mem_nil, or_false] at hb
    show b < (s.heap.push _).objs.size
    rw [Heap.size_push]
    rcases hb with rfl | rfl
    · exact Nat.lt_succ_self _
    · exact Nat.lt_succ_of_lt hlt
  · intro i v hP
    refine .inr ⟨bs.getD i false, bl_at rv i v ?_, rfl⟩
    have : its.toArray[i]? = some v := hP
    simpa using this
  · intro s2 t2 mv
    obtain ⟨h2, g2, d2, tk, o2⟩ := s2
    obtain rfl : g2 = s.gens := mv.gens
    obtain rfl : d2 = s.drawn := mv.drawn
    obtain rfl : o2 = s.os := mv.os
    rw [hz, preSum_cnt]
    refine ⟨.int (cntT bs), H, I.kept fun b o e => ?_, ⟨_, rfl⟩, q⟩
    refine mv.heap b o ?_ (Heap.get?_push_of_some _ e)
    have lb := Heap.lt_size e
    simp only [List.mem_cons, List.not_mem_nil, or_false]
    exact Nat.ne_of_lt lb
def sumE : List Pd → Option Pd
  | [.list xs] => match boolsD xs with
    | some bs => some (.int (cntT bs))
    | none => sumD [.list xs]
  | xs => sumD xs
abbrev rSumE (K : PySem.W.Frag) : List V → Hp → VK → Prop := fun vs H Q => rSum K vs H Q ∨ rSumB K vs H Q
theorem kSumE {X : Cx} (K : PySem.W.Frag) (hc : X.calm = true) (hK : X.K = K := by rfl) : CallR X (.builtin "sum") (rSumE K) := by
  subst hK
  exact (cr_sum hc).or (cr_sumB hc)
theorem rc_sumE {K : PySem.W.Frag} : RCall K (rSumE K) sumE := by
  intro Hf H vs xs z e hx h Q q
  unfold sumE at h
  split at h
  · rename_i us
    split at h
    · rename_i bs eb
      cases h
      obtain ⟨v, rfl, hv⟩ := hx.one
      obtain ⟨l, ws, rfl, t, r⟩ := hv.list e
      obtain rfl := bools_ok r eb
      exact .inr ⟨l, bs, rfl, t, q _ Hf H (Pg.refl e) (.int _)⟩
    · exact .inl (rc_sum Hf H vs _ z e hx h Q q)
  · exact .inl (rc_sum Hf H vs xs z e hx h Q q)
/-! ### e is not None, an exception kept -/
section
variable {Z : Zx} {W : WX} {ρ : Rho}
def fIsNNX (i : Nat) : Rho → R AV := fun ρ => match ρ[i]? with
  | some (.x _) => .ok (.d (.bool true)) ρ
  | some (.d v) => .ok (.d (.bool (!isNon v))) ρ
  | _ => .bad
theorem d_isNNX {i : Nat} : DE Z W (tOp (fun x y H Q => y = .non ∧ Q (.bl (!decide (x = .non))) H) (tVar i) (tC .non)) (fIsNNX i) := by
  intro Hf H O σ ρ s Q p
  unfold fIsNNX at p
  cases e0 : ρ[i]? with
  | none => rw [e0] at p; exact p.elim
  | some z =>
    rw [e0] at p
    cases z with
    | no => exact p.elim
    | own _ _ => exact p.elim
    | d v =>
      obtain ⟨u, h1, h2⟩ := s.slot i v e0
      refine ⟨u, h1, rfl, ?_⟩
      have := RX.isNon (K := Z.K) (H := H) (.inl h2)
      rw [this]
      exact p Hf H s Gr.refl Kp.refl _ (RD.bl _)
    | x e =>
      obtain ⟨a, h1, h2⟩ := s.exc i e e0
      refine ⟨.ref a, h1, rfl, ?_⟩
      exact p Hf H s Gr.refl Kp.refl _ (RD.bl _)
@[simp] theorem fIsNNX_ap {i : Nat} : fIsNNX i ρ = (match ρ[i]? with | some (.x _) => .ok (.d (.bool true)) ρ | some (.d v) => .ok (.d (.bool (!isNon v))) ρ | _ => .bad) := rfl
end
/-! ### index -/
def indexD : Pd → List Pd → Option Pd
  | .list xs, [d] => if flatD d = true ∧ xs.all flatD = true then (xs.findIdx? fun y => PyData.eqv y d).map fun j => .int (j : Nat) else none
  | _, _ => none
theorem rm_index {K : PySem.W.Frag} : RMt K "list" (rIndex K) indexD := by
  intro Hf H x vs dx xs z e hx hs h Q q
  unfold indexD at h
  split at h
  · rename_i ys d
    split at h
    · rename_i hf
      cases ef : ys.findIdx? fun y => PyData.eqv y d with
      | none => rw [ef] at h; cases h
      | some j =>
        rw [ef] at h
        cases h
        obtain ⟨v, rfl, hv⟩ := hs.one
        obtain ⟨l, ws, rfl, t, r⟩ := hx.list e
        have rv := hv.flat hf.1
        obtain ⟨hj, hp, hno⟩ := List.findIdx?_eq_some_iff_getElem.mp ef
        obtain ⟨w, ew, rw_⟩ := r.get (List.getElem?_eq_getElem hj)
        have fy := List.all_eq_true.mp hf.2
        refine ⟨l, ws, v, j, w, rfl, rfl, t, rv.flatV hf.1, r.all_flat hf.2, ew, ?_, fun m z2 hm ez => ?_, q _ Hf H (Pg.refl e) (.int _)⟩
        · rw [rw_.eqV rv (fy _ (List.getElem_mem hj)) hf.1]
          exact hp
        · have hmx : m < ys.length := by omega
          obtain ⟨w2, ew2, rw2⟩ := r.get (List.getElem?_eq_getElem hmx)
          rw [ez] at ew2
          cases ew2
          rw [rw2.eqV rv (fy _ (List.getElem_mem hmx)) hf.1]
          simpa using hno m hm
    · cases h
  · cases h
def sindexD : Pd → List Pd → Option Pd
  | .str a, [.str b] => match Builtin.Str.occurrences a b 0 a.length 1 with
    | i :: _ => some (.int (i : Nat))
    | [] => none
  | _, _ => none
theorem rm_sindex {K : PySem.W.Frag} : RMt K "str" (fun x xs H Q => ∃ a b i rest, x = .str a ∧ xs = [.str b] ∧ Builtin.Str.occurrences a b 0 a.length 1 = i :: rest ∧ Q (.int (i : Nat)) H) sindexD := by
  intro Hf H x vs dx xs z e hx hs h Q q
  unfold sindexD at h
  split at h
  · rename_i a b
    split at h
    · rename_i i rest eo
      cases h
      obtain ⟨v, rfl, hv⟩ := hs.one
      obtain rfl := hx.str
      obtain rfl := hv.str
      exact ⟨a, b, i, rest, rfl, rfl, eo, q _ Hf H (Pg.refl e) (.int _)⟩
    · cases h
  · cases h
end Dt
set_option maxHeartbeats 2000000
/-! try with a handler of more than one statement, the caught exception tracked in it -/
namespace Dt
open PySem PySem.Spec L2 Evl PyProof.Rows
theorem Inv_suite0 {X : Cx} {pins : List (Addr × Obj)} {σ : L2.St} {H : Hp} {s : Shared} (I : L2.Inv X pins σ H s) (a : Addr) : L2.Inv (X.suite a (X.pn ++ pins)) [] σ H s :=
  ⟨I.ok.suite _ _, I.os, I.bare, I.base, I.loc, I.cell, I.free, I.freeC, fun p hp => by
    have hp' : p ∈ X.pn ++ pins := by rw [List.append_nil] at hp; exact hp
    exact I.pin p hp', I.hok, I.len⟩
theorem Inv_unsuite0 {X : Cx} {pins pn' : List (Addr × Obj)} {σ : L2.St} {H : Hp} {s : Shared} {a : Addr} (I : L2.Inv (X.suite a (X.pn ++ pins)) pn' σ H s) (ok : X.Ok) : L2.Inv X pins σ H s :=
  ⟨ok, I.os, I.bare, I.base, I.loc, I.cell, I.free, I.freeC, fun p hp => I.pin p (List.mem_append_left _ hp), I.hok, I.len⟩
def wAsTT (K : PySem.W.Frag) (c : Value) (i : Nat) (ts : TS) (Wout : WX) (D : Ends) : WX := fun cls d σ H =>
  ∃ b, PySem.W.exmOne K cls c = some b ∧ (b = true → ∀ a, H a = none → ts { nx := fun σ' H' => D.nx (σ'.set i none) H', rt := fun _ _ => False, bk := fun _ _ => False, ct := fun _ _ => False } (σ.set i (some (.ref a))) (upd H a (ExN cls d a))) ∧
    (b = false → Wout cls d σ H)
section
variable {X : Cx} {x n : Str} {c : Value} {i : Nat} {body suite : List Stmt} {b₀ : Stmt} {np pos pos' : Pos} {tb : WX → TS} {ts : TS} {Wout : WX}
theorem ps_try_TT (hs : X.stack = X.env :: X.outer) (hf : X.env.frame = some X.env.locals) (hex : X.ex = []) (hN : X.N.Nodup) (hi : X.N[i]? = some n) (hln : X.env.kindOf n = some .local) (hc : Names X x c) (tk : Takes X Wout)
    (hb : ∀ (W : WX) (pn : List (Addr × Obj)) (xe : Value → Shared → Prop), Takes (X.tr pn xe) W → PassesOwn (model X.prog X.w) X.A X.env xe → PSs (X.tr pn xe) body (tb W))
    (hsu : ∀ (a : Addr) (pn : List (Addr × Obj)), PSs (X.suite a pn) (b₀ :: suite) ts) :
    PS X (.Try body [.ExceptHandler (some (.Name x np)) (some n) (b₀ :: suite) pos'] [] [] pos) (fun D σ H => tb (wAsTT X.K c i ts Wout D) D σ H) := by
  refine ⟨fun pins s σ H D I h => ?_⟩
  have ok := I.ok
  have hfr : X.A.frames = some (X.env :: X.outer) := by rw [ok.frames, hs]
  have hloc : Loc X.env.scope n := .inl hln
  refine wpAny_Try_except ?_
  refine wpAny_mono ((hb (wAsTT X.K c i ts Wout D) (X.pn ++ pins) (fun e s₁ => wpAny (model X.prog X.w) X.A (noteFrame e X.env) (fun _ s₂ => wpAny (model X.prog X.w) X.A (setFlight e none) (fun _ s₃ =>
    wpAny (model X.prog X.w) X.A (handleBy e X.env [.ExceptHandler (some (.Name x np)) (some n) (b₀ :: suite) pos']) (SP X pins D) X.xe s₃) X.xe s₂) X.xe s₁) (fun u s' xx => ?_) PassesOwn.looking).run [] s σ H D (I.toTry _) h) (fun f s1 hsp => ?_) (fun e s1 he => he)
  · -- the catch
    obtain ⟨a, B, sI, pins', σ', H', cls, d, rfl, J', nb, up, sky, na, os, ag, b, hb1, hyes, hno⟩ := xx
    have J : L2.Inv X pins σ' H' sI := J'.ofTry ok
    have sky' : Sky B (X.env :: X.outer) a (Zc cls d) X.env.locals s'.heap := by rw [← hs]; exact sky
    show wpAny (model X.prog X.w) X.A (noteFrame (.ref a) X.env) _ _ _
    refine Sky.land Zc.steady hfr hf sky' fun h3 fl3 up3 => ?_
    have J3 : L2.Inv X pins σ' H' { s' with heap := h3 } := J.landed nb fl3.1 (up.trans up3) os ag
    obtain ⟨oe3, vs3, he3, hz3, hd3⟩ := fl3.there
    have notFr : ∀ {h : Heap} {o : Obj} {vs : Array Value}, h.FunFrames B (X.env :: X.outer) → h.get? a = some o → o.data = .fields vs → a ∉ frs (X.env :: X.outer) := fun {h o vs} ff e dd hm => by
      obtain ⟨_, o', e', hnf⟩ := ff.mem hm
      rw [e] at e'; cases e'
      exact hnf _ dd
    have nfr := notFr fl3.2.2.1 he3 hd3
    have nL : a ≠ X.env.locals := fun z => nfr (List.mem_filterMap.mpr ⟨X.env, List.mem_cons_self, by rw [hf, z]⟩)
    have nF : a ∉ X.fs := fun hm => by
      obtain ⟨e, he, q⟩ := List.mem_filterMap.mp hm
      exact nfr (List.mem_filterMap.mpr ⟨e, List.mem_cons_of_mem _ he, q⟩)
    have nI : sI.heap.get? a = none := by
      cases e : sI.heap.get? a with
      | none => rfl
      | some o =>
        have := nb a o e (by rw [hs]; exact nfr)
        rw [fl3.2.1] at this
        cases this
    have n0 : X.s_0.heap.get? a = none := by
      cases e : X.s_0.heap.get? a with
      | none => rfl
      | some o =>
        obtain ⟨o', q⟩ := J.base.there a o e (by rw [hex]; exact fun z => nomatch z)
        rw [nI] at q; cases q
    have npin : ∀ p ∈ X.pn ++ pins, p.1 ≠ a := fun p hp z => by
      obtain ⟨q, _⟩ := J.pin p hp
      rw [z, nI] at q; cases q
    have S3 := J3.suite he3 hd3 na nL nF
    refine wpAny_handleBy_cons (codeAny_handlers_test ?_) (by intro q; cases q)
    have LT : PySem.W.Looks (model X.prog X.w) h3 (typeOf (.ref a)) cls := fun A Q E s k q => wpAny_typeOf_ref (k _ _ he3) (by rw [hz3.1]; exact q)
    have LM := PySem.W.exm_one (M := model X.prog X.w) (J3.kIn) LT hb1
    have test : ∀ {Q : Value → Shared → Prop} {E : Value → Shared → Prop}, Q c { s' with heap := h3 } → wpAny (model X.prog X.w) (X.A.mark (some (.ref a))) (eval (.Name x np) X.env) Q E { s' with heap := h3 } := fun {Q E} q => by
      obtain ⟨hg, hdbg, hm | ⟨hm, hv, hnn⟩⟩ := hc
      · exact ld_glob (X := X.suite a ((a, oe3) :: (X.pn ++ pins))) S3 hg hm q hdbg
      · exact ld_blt (X := X.suite a ((a, oe3) :: (X.pn ++ pins))) S3 hg hm hv q hnn hdbg
    refine test (LM.here ?_)
    cases b with
    | true =>
      refine codeAny_handlers_suite_as ?_
      refine HandSPX.lands_againZ fl3 fun h4 fl4 up4 => ?_
      have J4 : L2.Inv X pins σ' H' { s' with heap := h4 } := J.landed nb fl4.1 ((up.trans up3).trans up4) os ag
      obtain ⟨oe4, vs4, he4, hz4, hd4⟩ := fl4.there
      have J5 := Inv_track J4 n0 na nL he4 hd4 npin (exN_ok (P := X.prog) (w := X.w) (H := upd H' a (ExN cls d a)) he4 hz4 hd4)
      have S4 := Inv_suite0 J5 a
      refine store_ok (X := X.suite a (X.pn ++ pins)) (v := .ref a) S4 hN hi hloc rfl (fun s5 S5 => ?_) (.inr hln)
      refine wpAny_mono ((hsu a (X.pn ++ pins)).run [] s5 _ (upd H' a (ExN cls d a)) _ S5 (hyes rfl a na)) (fun f s6 hsp => ?_) (fun _ _ z => False.elim z)
      cases f with
      | next =>
        obtain ⟨σ6, H6, S6, q6⟩ := hsp
        exact gone_ok (Inv_unsuite0 S6 ok) hN hi hln fun s7 J7 => ⟨_, _, J7, q6⟩
      | brk =>
        obtain ⟨σ6, H6, S6, q6⟩ := hsp
        exact q6.elim
      | cont =>
        obtain ⟨σ6, H6, S6, q6⟩ := hsp
        exact q6.elim
      | ret u =>
        obtain ⟨v6, σ6, H6, S6, r6, q6⟩ := hsp
        exact q6.elim
    | false =>
      show wpAny _ X.A (handleBy (.ref a) X.env []) _ _ _
      refine wpAny_handleBy_nil ?_
      obtain ⟨k1, k2, k3, oe, vs, T, oT, ts', he, hz, hd, h1, hr⟩ := id fl3
      unfold PySem.passOn
      refine wpAny_bind (wpAny_field he hd h1 ?_)
      rw [if_neg (show ¬ ((Value.ref T == Value.none) = true) from by simp)]
      have fin : wpAny (model X.prog X.w) X.A (setFlight (.ref a) X.env.frame) (fun _ s4 => wpAny (model X.prog X.w) X.A (throw (.ref a) : Sem Flow) (SP X pins D) X.xe s4) X.xe { s' with heap := h3 } := by
        rw [hf]
        refine HandSPX.setFlight_upZ fl3 fun h4 hh4 up4 => wpAny_throw (tk _ _ ?_)
        exact ⟨a, B, sI, pins, σ', H', cls, d, rfl, J, nb, (up.trans up3).trans up4, .inr (.inr (by rw [hs]; exact hh4)), na, os, ag, hno rfl⟩
      first
        | exact wpAny_bind (wpAny_pure (wpAny_bind fin))
        | exact wpAny_bind fin
  · cases f with
    | next =>
      obtain ⟨σ', H', J', q⟩ := hsp
      exact wpAny_execs_nil ⟨σ', H', J'.ofTry ok, q⟩
    | brk =>
      obtain ⟨σ', H', J', q⟩ := hsp
      exact ⟨σ', H', J'.ofTry ok, q⟩
    | cont =>
      obtain ⟨σ', H', J', q⟩ := hsp
      exact ⟨σ', H', J'.ofTry ok, q⟩
    | ret u =>
      obtain ⟨v, σ', H', J', r, q⟩ := hsp
      exact ⟨v, σ', H', J'.ofTry ok, r, q⟩
end
def fTryH (sub : Str → Option Bool) (fb : Rho → R Fl) (i : Nat) (fh : Rho → R Fl) : Rho → R Fl := fun ρ => match fb ρ with
  | .ex e ρ1 => (match sub e.c with
    | some true => (match ρ1[i]? with
      | some si => if ioS si = true then .bad else (match fh (ρ1.set i (.x e)) with
        | .ok .nx ρ2 => (match ρ2[i]? with
          | some s2 => if ioS s2 = true then .bad else .ok .nx (ρ2.set i .no)
          | none => .bad)
        | _ => .bad)
      | none => .bad)
    | some false => .ex e ρ1
    | none => .bad)
  | r => r
section
variable {Z : Zx} {W : WX}
theorem s_tryH {tb : WX → TS} {th : TS} {fb fh : Rho → R Fl} {c : Str} {i : Nat} {sub : Str → Option Bool} (hsub : ∀ n b, sub n = some b → PySem.W.exmOne Z.K (.ref (cA Z.K n)) (.ref (cA Z.K c)) = some b) (hb : ∀ W', DS Z W' (tb W') fb) (hh : DS Z (fun _ _ _ _ => False) th fh) :
    DS Z W (fun D σ H => tb (wAsTT Z.K (.ref (cA Z.K c)) i th W D) D σ H) (fTryH sub fb i fh) := by
  intro Hf H O σ ρ s En p
  refine hb _ Hf H O σ ρ s En ?_
  unfold fTryH at p
  cases ef : fb ρ with
  | bad => rw [ef] at p; exact p
  | ok fl ρ1 => rw [ef] at p; exact p
  | ex e ρ1 =>
    rw [ef] at p
    intro cls d Hf1 H1 O1 σ1 s1 g1 o1 k1 xr
    obtain ⟨rfl, xf⟩ := xr
    simp only at p
    cases es : sub e.c with
    | none => rw [es] at p; exact p.elim
    | some b =>
      rw [es] at p
      refine ⟨b, hsub _ _ es, fun hbt a na => ?_, fun hbf => ?_⟩
      · subst hbt
        cases ei : ρ1[i]? with
        | none => rw [ei] at p; exact p.elim
        | some si =>
          rw [ei] at p
          simp only at p
          by_cases hc : ioS si = true
          · rw [if_pos hc] at p; exact p.elim
          · rw [if_neg hc] at p
            have hi := (List.getElem?_eq_some_iff.mp ei).1
            have g2 := Pg.new (o := ExN (.ref (cA Z.K e.c)) d a) s1.ex na
            have s2 := s1.grow g2
            have xh : XH Z.K (upd Hf1 a (ExN (.ref (cA Z.K e.c)) d a)) a e := by
              unfold XH
              cases efs : e.fs with
              | none =>
                rw [efs] at xf
                have xf : d = none := xf
                subst xf
                exact upd_same
              | some fs =>
                rw [efs] at xf
                obtain ⟨dd, vs, rfl, h1, h2⟩ := xf
                exact ⟨dd, vs, upd_same, g2.ef _ _ h1, h2.mono g2.ef⟩
            have s3 := s2.putX (i := i) hi xh
            have k3 : Kq ρ (ρ1.set i (.x e)) σ (σ1.set i (some (.ref a))) := k1.trans fun k xs ek => by
              have zi : i ≠ k := fun z => by
                subst z
                rw [ei] at ek
                cases ek
                exact hc rfl
              rw [List.getElem?_set_ne zi, List.getElem?_set_ne zi]
              exact ⟨⟨xs, ek⟩, rfl⟩
            refine hh _ _ _ _ _ s3 _ ?_
            cases eh : fh (ρ1.set i (.x e)) with
            | bad => rw [eh] at p; exact p.elim
            | ex x r => rw [eh] at p; exact p.elim
            | ok fl ρ2 =>
              rw [eh] at p
              cases fl with
              | nx =>
                simp only at p
                cases e2 : ρ2[i]? with
                | none => rw [e2] at p; exact p.elim
                | some sj =>
                  rw [e2] at p
                  simp only at p
                  by_cases hc2 : ioS sj = true
                  · rw [if_pos hc2] at p; exact p.elim
                  · rw [if_neg hc2] at p
                    have hi2 := (List.getElem?_eq_some_iff.mp e2).1
                    intro Hf4 H4 O4 σ4 s4 g4 o4 k4
                    have s5 := s4.drop (i := i) (u := none) hi2
                    have gg := g1.transO g2.gr o1
                    show En.nx (σ4.set i none) H4
                    refine p _ _ O4 _ s5 (gg.transO g4 o1) (o1.trans (fun x hx => ?_) g1) ((k3.trans k4).trans fun k xs ek => ?_)
                    · rcases o4 x hx with z | z
                      · exact .inl z
                      · exact .inr (g2.gr (O := O1).gone z)
                    · have zi : i ≠ k := fun z => by
                        subst z
                        rw [e2] at ek
                        cases ek
                        exact hc2 rfl
                      rw [List.getElem?_set_ne zi, List.getElem?_set_ne zi]
                      exact ⟨⟨xs, ek⟩, rfl⟩
              | _ => exact p.elim
      · subst hbf
        exact p _ d Hf1 H1 O1 σ1 s1 g1 o1 k1 ⟨rfl, xf⟩
end
theorem fTryH_ok {sub : Str → Option Bool} {fb fh : Rho → R Fl} {i : Nat} {fl : Fl} {ρ ρ1 : Rho} (h : fb ρ = .ok fl ρ1) : fTryH sub fb i fh ρ = .ok fl ρ1 := by
  unfold fTryH; rw [h]
theorem fTryH_ex {sub : Str → Option Bool} {fb fh : Rho → R Fl} {i : Nat} {e : XD} {ρ ρ1 ρ2 : Rho} {si sj : Sl} (h : fb ρ = .ex e ρ1) (hs : sub e.c = some true) (hi : ρ1[i]? = some si) (ni : ioS si = false) (hh : fh (ρ1.set i (.x e)) = .ok .nx ρ2) (hj : ρ2[i]? = some sj) (nj : ioS sj = false) :
    fTryH sub fb i fh ρ = .ok .nx (ρ2.set i .no) := by
  unfold fTryH
  rw [h]
  simp only [hs, hi, ni, hh, hj, nj]
  rfl
end Dt
/-! text.split(..) as an owned list; x.pop(); text.find(..); int(text); a dict of texts to whole numbers, written -/
namespace Dt
open PySem PySem.Spec L2 Evl PyProof.Rows
section
variable {Z : Zx} {W : WX}
def kSplitL (x : Str) (b : AV) (ρ : Rho) : R (List Pd) := match res ρ b with
  | some (.str y) => if (y.length == 0) = false ∧ x.length + 2 ≤ sizeLine then .ok ((Txt.split x y).map PyData.str) ρ else .bad
  | _ => .bad
def fSplitL (fo fa : Rho → R AV) : Rho → R (List Pd) := fun ρ => (fo ρ).bind fun o ρ1 => match res ρ1 o with
  | some (.str x) => (fa ρ1).bind fun a ρ2 => kSplitL x a ρ2
  | _ => .bad
theorem l_split {to te : TE} {fo fa : Rho → R AV} (ho : DE Z W to fo) (ha : DE Z W te fa) : DL Z W (tM1 rSplit to te) (fSplitL fo fa) := by
  intro Hf H O σ ρ s Q p
  refine ho.bind s p fun o ρ1 x Hf1 H1 s1 g1 k1 rx p1 => ?_
  cases e0 : res ρ1 o with
  | none => rw [e0] at p1; exact p1.elim
  | some d0 =>
    rw [e0] at p1
    cases d0 with
    | str z =>
      simp only at p1
      obtain rfl := (res_ok s1 rx e0).str
      refine ⟨⟨z, rfl⟩, ?_⟩
      refine ha.bind s1 p1 fun a ρ2 v Hf2 H2 s2 g2 k2 ra p2 => ?_
      unfold kSplitL at p2
      cases e2 : res ρ2 a with
      | none => rw [e2] at p2; exact p2.elim
      | some y =>
        rw [e2] at p2
        cases y with
        | str y =>
          simp only at p2
          obtain rfl := (res_ok s2 ra e2).str
          by_cases hc : (y.length == 0) = false ∧ z.length + 2 ≤ sizeLine
          · rw [if_pos hc] at p2
            refine ⟨z, y, rfl, rfl, hc.1, hc.2, fun q nq => ?_⟩
            have g := Pg.lay (o := .lst ((Txt.split z y).map V.str)) s2.ex nq
            exact p2 Hf2 _ (s2.grow g) g.gr Kp.refl _ ⟨q, _, rfl, g1.gone (g2.gone nq), upd_same, fresh_back s2.ex nq, RDs.strs _⟩
          · rw [if_neg hc] at p2; exact p2.elim
        | _ => exact p2.elim
    | _ => exact p1.elim
/-! ### x.pop() -/
theorem RDs.dropLast {K : PySem.W.Frag} {H : Hp} {vs : List V} {ds : List Pd} (h : RDs K H vs ds) : RDs K H vs.dropLast ds.dropLast := by
  rw [List.dropLast_eq_take, List.dropLast_eq_take, h.length]
  exact h.take _
def fPop (i : Nat) : Rho → R AV := fun ρ => match ρ[i]? with
  | some (.own b xs) => (match xs[xs.length - 1]? with
    | some y => .ok (.d y) (ρ.set i (.own b xs.dropLast))
    | none => .bad)
  | _ => .bad
theorem d_pop {i : Nat} : DE Z W (tBM0 Z.K "list" rPop (tVar i)) (fPop i) := by
  intro Hf H O σ ρ s Q p
  unfold fPop at p
  cases e0 : ρ[i]? with
  | none => rw [e0] at p; exact p.elim
  | some z0 =>
    rw [e0] at p
    cases z0 with
    | no => exact p.elim
    | x _ => exact p.elim
    | d y => exact p.elim
    | own b xs =>
      simp only at p
      obtain ⟨l, vs, h1, h2, h3, h4⟩ := s.own i b xs e0
      refine ⟨.ref l, h1, .inl ⟨rfl, vs, .inl (.inl h3)⟩, ?_⟩
      cases ey : xs[xs.length - 1]? with
      | none => rw [ey] at p; exact p.elim
      | some y =>
        rw [ey] at p
        obtain ⟨v, ev, rv⟩ := h4.get ey
        exact ⟨l, vs, v, rfl, rfl, h3, by rw [h4.length]; exact ev, p Hf _ (s.chg e0 h1 h3 h4.dropLast) (Gr.refl.chg h2) (kp_chg e0) v rv⟩
/-! ### a dict, written -/
theorem mergeK_new : ∀ (more acc : List (Key × V)), ((acc ++ more).map (·.1)).Nodup → mergeK acc more = acc ++ more
  | [], acc, _ => by simp [mergeK]
  | kv :: more, acc, h => by
    have hn : (acc.any fun x => decide (x.1 = kv.1)) = false := by
      rw [List.any_eq_false]
      intro x hx
      simp only [decide_eq_true_eq]
      rw [List.map_append, List.map_cons] at h
      exact (List.nodup_append.mp h).2.2 x.1 (List.mem_map.mpr ⟨x, hx, rfl⟩) kv.1 (by simp)
    show mergeK (putK acc kv.1 kv.2) more = _
    unfold putK
    rw [if_neg (by rw [hn]; exact Bool.false_ne_true), mergeK_new more (acc ++ [(kv.1, kv.2)]) (by simpa using h)]
    simp
def dcV (ps : List (Str × Int)) : List (Key × V) := ps.map fun kv => (.inr kv.1, .int kv.2)
def dcD (ps : List (Str × Int)) : List (Pd × Pd) := ps.map fun kv => (.str kv.1, .int kv.2)
theorem dc_rel {K : PySem.W.Frag} {H : Hp} : ∀ ps : List (Str × Int), RKs K H (dcV ps) (dcD ps)
  | [] => .nil
  | kv :: ps => .cons (.int _) (dc_rel ps)
theorem tPairs_c {σ : L2.St} {H : Hp} : ∀ (ps : List (Str × Int)) {Q : List (V × V) → Hp → Prop}, Q (ps.map fun kv => (.str kv.1, .int kv.2)) H → tPairs (ps.map fun kv => (tC (.str kv.1), tC (.int kv.2))) σ H Q
  | [], Q, h => h
  | kv :: ps, Q, h => tPairs_c ps (Q := fun qs H' => Q ((.str kv.1, .int kv.2) :: qs) H') h
theorem d_dispC (ps : List (Str × Int)) (hl : ps.length ≤ 15) (hn : (ps.map (·.1)).Nodup) : DE Z W (tDisp (ps.map fun kv => (tC (.str kv.1), tC (.int kv.2)))) (fC (.dict (dcD ps))) := by
  intro Hf H O σ ρ s Q p q nq
  have no : ¬ O q := fun z => by
    obtain ⟨⟨o, t⟩, _⟩ := s.otr q z
    rw [nq] at t; cases t
  have g0 := Pg.lay (o := .dK []) s.ex nq
  have s0 := s.grow g0
  have fq0 := fresh_back s.ex nq
  refine tPairs_c ps ⟨upd_same, dcV ps, ?_, by simpa [dcV] using hl, ?_⟩
  · unfold dcV
    rw [List.map_map]
    rfl
  · rw [mergeK_new _ _ (by
      rw [List.nil_append]
      unfold dcV
      rw [List.map_map]
      have e : ((fun x : Key × V => x.1) ∘ fun kv : Str × Int => ((.inr kv.1 : Key), V.int kv.2)) = (fun x : Str => (.inr x : Key)) ∘ fun kv : Str × Int => kv.1 := rfl
      rw [e, ← List.map_map]
      exact List.Pairwise.map _ (fun a b h e => h (Sum.inr.inj e)) hn), List.nil_append]
    have s3 := s0.other (o' := .dK (dcV ps)) upd_same fq0 no
    have s4 := s3.freeze upd_same fq0 no
    refine p _ _ s4 ⟨(g0.gr (O := O)).ex.trans (Ex.new fq0), ((g0.gr (O := O)).upd nq).fm, ((g0.gr (O := O)).upd nq).tr, fun a o h => ?_⟩ Kp.refl _ (.dct upd_same (dc_rel ps))
    by_cases z : a = q
    · subst z; exact .inr (.inl nq)
    · rw [upd_ne z] at h; exact (g0.gr (O := O)).nw a o h
end
/-! ### text.find(..), int(text) -/
def findD : Pd → List Pd → Option Pd
  | .str a, [.str b] => some (.int (Txt.find a b))
  | _, _ => none
theorem rm_find {K : PySem.W.Frag} : RMt K "str" (fun x xs H Q => ∃ a b, x = .str a ∧ xs = [.str b] ∧ Q (.int (Txt.find a b)) H) findD := by
  intro Hf H x vs dx xs z e hx hs h Q q
  unfold findD at h
  split at h
  · rename_i a b
    cases h
    obtain ⟨v, rfl, hv⟩ := hs.one
    exact ⟨a, b, hx.str, by rw [hv.str], q _ Hf H (Pg.refl e) (.int _)⟩
  · cases h
def intSD : List Pd → Option Pd
  | [.str a] => if a.length ≤ 640 then (PySem.intText? a).map PyData.int else none
  | _ => none
theorem rc_intS {K : PySem.W.Frag} : RCall K (fun xs H Q => ∃ a n, xs = [.str a] ∧ PySem.intText? a = some n ∧ a.length ≤ 640 ∧ Q (.int n) H) intSD := by
  intro Hf H vs xs z e hx h Q q
  unfold intSD at h
  split at h
  · rename_i a
    split at h
    · rename_i hl
      cases hi : PySem.intText? a with
      | none => rw [hi] at h; cases h
      | some n =>
        rw [hi] at h
        cases h
        obtain ⟨v, rfl, hv⟩ := hx.one
        obtain rfl := hv.str
        exact ⟨a, n, rfl, hi, hl, q _ Hf H (Pg.refl e) (.int _)⟩
    · cases h
  · cases h
section
variable {ρ : Rho}
@[simp] theorem fSplitL_ap {fo fa : Rho → R AV} : fSplitL fo fa ρ = (fo ρ).bind fun o ρ1 => (match res ρ1 o with
  | some (.str x) => (fa ρ1).bind fun a ρ2 => kSplitL x a ρ2
  | _ => .bad) := rfl
@[simp] theorem kSplitL_s {x y : Str} : kSplitL x (.d (.str y)) ρ = if (y.length == 0) = false ∧ x.length + 2 ≤ sizeLine then .ok ((Txt.split x y).map PyData.str) ρ else .bad := rfl
@[simp] theorem fPop_ap {i : Nat} : fPop i ρ = (match ρ[i]? with
  | some (.own b xs) => (match xs[xs.length - 1]? with
    | some y => .ok (.d y) (ρ.set i (.own b xs.dropLast))
    | none => .bad)
  | _ => .bad) := rfl
@[simp] theorem findD_str {a b : Str} : findD (.str a) [.str b] = some (.int (Txt.find a b)) := rfl
end
end Dt
/-! a comprehension over an owned list, which stays owned -/
namespace Dt
open PySem PySem.Spec L2 Evl PyProof.Rows
def lcRunO (i0 : Nat) (h : Pd → Rho → Option Rho) (ft : Rho → R Bool) (fe : Rho → R AV) (vs : List Nat) : Nat → Nat → List Pd → Rho → R (List Pd)
  | 0, _, _, _ => .bad
  | n + 1, k, acc, ρ => match ρ[i0]? with
    | some (.own _ xs) => (match xs[k]? with
      | none => .ok acc ρ
      | some x => (match h x ρ with
        | none => .bad
        | some ρ1 => (match ft ρ1 with
          | .ok true ρ2 => (match fe ρ2 with
            | .ok (.d y) ρ3 => if acc.length < sizeLine then lcRunO i0 h ft fe vs n (k + 1) (acc ++ [y]) (wipeR ρ3 vs) else .bad
            | _ => .bad)
          | .ok false ρ2 => lcRunO i0 h ft fe vs n (k + 1) acc (wipeR ρ2 vs)
          | _ => .bad)))
    | _ => .bad
def fLcO (i0 : Nat) (h : Pd → Rho → Option Rho) (ft : Rho → R Bool) (fe : Rho → R AV) (vs : List Nat) : Rho → R (List Pd) := fun ρ =>
  if okW ρ vs = true then (match ρ[i0]? with
    | some (.own _ xs) => lcRunO i0 h ft fe vs (xs.length + 1) 0 [] (wipeR ρ vs)
    | _ => .bad) else .bad
theorem l_lcO {Z : Zx} {W : WX} {i0 : Nat} {g : TG} {tt : TT} {te : TE} {vs js : List Nat} {h : Pd → Rho → Option Rho} {ft : Rho → R Bool} {fe : Rho → R AV} (hg : DG Z.K js g h) (hj : ∀ j ∈ js, j ∈ vs)
    (ht : DT Z W0 tt ft) (he : DE Z W0 te fe) : DL Z W (tLc (iList Z.K (tVar i0)) g tt te vs) (fLcO i0 h ft fe vs) := by
  intro Hf H O σ ρ s Q p
  unfold fLcO at p
  by_cases hw : okW ρ vs = true
  case neg => rw [if_neg hw] at p; exact p.elim
  rw [if_pos hw] at p
  cases e0 : ρ[i0]? with
  | none => rw [e0] at p; exact p.elim
  | some z0 =>
    rw [e0] at p
    cases z0 with
    | no => exact p.elim
    | x _ => exact p.elim
    | d y => exact p.elim
    | own b0 xs0 =>
      have p : PostG Z W O σ ρ Hf H (fun a _ Hf' H' => ∀ v, RL Z.K H Hf' H' v a → Q v H') (lcRunO i0 h ft fe vs (xs0.length + 1) 0 [] (wipeR ρ vs)) := p
      obtain ⟨l, vs0, h1, h2, h3, h4⟩ := s.own i0 b0 xs0 e0
      refine ⟨.ref l, h1, l, rfl, ⟨vs0, sq_of h3⟩, ?_⟩
      intro D nD
      have noD : ¬ O D := fun z => by
        obtain ⟨⟨o, q⟩, _⟩ := s.otr D z
        rw [nD] at q; cases q
      refine ⟨fun i m H' => ∃ Hf' ρ' acc us, SR Z.K Hf' H' O (wipe σ vs) ρ' ∧ SR Z.K Hf' H' O σ ρ' ∧ Ex Hf Hf' ∧ Gr O Hf H Hf' H' ∧ Kp ρ ρ' ∧ H' D = some (.lst us) ∧ Hf' D = none ∧ RDs Z.K Hf' us acc ∧
        PostG Z W O σ ρ Hf H (fun a _ Hf' H' => ∀ v, RL Z.K H Hf' H' v a → Q v H') (lcRunO i0 h ft fe vs m i acc ρ'), ⟨xs0.length + 1, Hf, wipeR ρ vs, [], [], ?_, ?_, Ex.refl _, Gr.refl.upd nD, okW_kp hw Kp.refl, upd_same, fresh_back s.ex nD, .nil, p⟩, ?_⟩
      · exact (s.grow (Pg.lay s.ex nD)).wipe
      · exact (s.grow (Pg.lay s.ex nD)).wipe.unwipe
      · rintro i m H' ⟨Hf', ρ', acc, us, sw, so, e1, g', k', hD, fD, rd, p'⟩
        cases m with
        | zero => exact p'.elim
        | succ m =>
          unfold lcRunO at p'
          cases ei : ρ'[i0]? with
          | none => rw [ei] at p'; exact p'.elim
          | some z1 =>
            rw [ei] at p'
            cases z1 with
            | no => exact p'.elim
            | x _ => exact p'.elim
            | d y => exact p'.elim
            | own b xs =>
              simp only at p'
              obtain ⟨l', vs', q1, q2, q3, q4⟩ := so.own i0 b xs ei
              rw [h1] at q1
              cases q1
              have hs : SqL Z.K H' l vs' := sq_of q3
              cases ex : xs[i]? with
              | none =>
                rw [ex] at p'
                have hle : xs.length ≤ i := List.getElem?_eq_none_iff.mp ex
                exact .inl ⟨⟨vs', hs, by rw [q4.length]; exact hle⟩, p' Hf' H' so g' k' _ ⟨D, us, rfl, nD, hD, fD, rd⟩⟩
              | some x0 =>
                rw [ex] at p'
                obtain ⟨v0, ev0, rv0⟩ := q4.get ex
                refine .inr ⟨⟨vs', v0, hs, ev0⟩, fun H'' => ∃ Hf' ρ' acc us, SR Z.K Hf' H'' O (wipe σ vs) ρ' ∧ SR Z.K Hf' H'' O σ ρ' ∧ Ex Hf Hf' ∧ Gr O Hf H Hf' H'' ∧ Kp ρ ρ' ∧ H'' D = some (.lst us) ∧ Hf' D = none ∧ RDs Z.K Hf' us acc ∧
                  PostG Z W O σ ρ Hf H (fun a _ Hf' H' => ∀ v, RL Z.K H Hf' H' v a → Q v H') (lcRunO i0 h ft fe vs m (i + 1) acc ρ'), fun H'' q => ⟨m, by omega, q⟩, fun v H2 hy => ?_⟩
                obtain ⟨rfl, hy⟩ := hy
                have ev := hy vs' hs
                rw [ev0] at ev
                cases ev
                simp only at p'
                cases eh : h x0 ρ' with
                | none => rw [eh] at p'; exact p'.elim
                | some ρ2 =>
                  rw [eh] at p'
                  simp only at p'
                  refine hg Hf' _ O (wipe σ vs) ρ' _ _ ρ2 sw rv0 eh _ fun σ2 s2 off oth _ => ⟨wipe_off off hj, ?_⟩
                  have ew : wipe σ2 vs = wipe σ vs := wipe_off off hj
                  have kp2 : Kp ρ ρ2 := fun j ys ej => by
                    have nj : j ∉ vs := fun z => by
                      have q := List.all_eq_true.mp hw j z
                      rw [ej] at q; cases q
                    rw [oth j fun z => nj (hj j z)]
                    exact k' j ys ej
                  refine ht Hf' _ O σ2 ρ2 s2 _ ?_
                  cases et : ft ρ2 with
                  | bad => rw [et] at p'; exact p'.elim
                  | ex x ρ3 => rw [et] at p'; exact p'.elim
                  | ok b ρ3 =>
                    rw [et] at p'
                    intro Hf3 H3 s3 g3 k3 b' rb
                    subst rb
                    cases b' with
                    | false =>
                      have sw3 : SR Z.K Hf3 H3 O (wipe σ vs) (wipeR ρ3 vs) := ew ▸ s3.wipe
                      refine ⟨Hf3, wipeR ρ3 vs, acc, us, sw3, sw3.unwipe, e1.trans g3.ex, g'.trans g3, okW_kp hw (kp2.trans k3), g3.fm _ _ hD noD, g3.stays hD fD noD, rd.mono g3.ex, p'⟩
                    | true =>
                      simp only at p'
                      refine he Hf3 H3 O σ2 ρ3 s3 _ ?_
                      cases ee : fe ρ3 with
                      | bad => rw [ee] at p'; exact p'.elim
                      | ex x ρ4 => rw [ee] at p'; exact p'.elim
                      | ok a ρ4 =>
                        rw [ee] at p'
                        cases a with
                        | sl j => exact p'.elim
                        | d y =>
                          simp only at p'
                          intro Hf4 H4 s4 g4 k4 w rw4
                          by_cases hz : acc.length < sizeLine
                          case neg => rw [if_neg hz] at p'; exact p'.elim
                          rw [if_pos hz] at p'
                          have gg := g3.trans g4
                          have hD4 : H4 D = some (.lst us) := gg.fm _ _ hD noD
                          have fD4 : Hf4 D = none := gg.stays hD fD noD
                          have sw4 : SR Z.K Hf4 H4 O (wipe σ vs) (wipeR ρ4 vs) := ew ▸ s4.wipe
                          refine ⟨us, hD4, by rw [rd.length]; exact hz, Hf4, wipeR ρ4 vs, acc ++ [y], us ++ [w], sw4.other hD4 fD4 noD, sw4.unwipe.other hD4 fD4 noD, e1.trans gg.ex, (g'.trans gg).upd nD, okW_kp hw (kp2.trans (k3.trans k4)), upd_same, fD4, (rd.mono gg.ex).append (.cons rw4 .nil), p'⟩
/-- such a comprehension, element by element -/
theorem lcO_map {i0 : Nat} {h : Pd → Rho → Option Rho} {fe : Rho → R AV} {vs : List Nat} {b : Bool} {xs : List Pd} (g : Pd → Pd) {ρ : Rho} (h0 : ρ[i0]? = some (.own b xs)) (hl : xs.length ≤ 16777216)
    (H : ∀ x ∈ xs, ∃ ρ1 ρ3, h x ρ = some ρ1 ∧ fe ρ1 = .ok (.d (g x)) ρ3 ∧ wipeR ρ3 vs = ρ) : ∀ (m k : Nat), k + m = xs.length → lcRunO i0 h (fun ρ => .ok true ρ) fe vs (m + 1) k ((xs.take k).map g) ρ = .ok (xs.map g) ρ
  | 0, k, e => by
    have e1 : xs[k]? = none := List.getElem?_eq_none (by omega)
    unfold lcRunO
    simp only [h0, e1]
    rw [List.take_of_length_le (by omega)]
  | m + 1, k, e => by
    have hk : k < xs.length := by omega
    have e1 : xs[k]? = some xs[k] := List.getElem?_eq_getElem hk
    obtain ⟨ρ1, ρ3, a1, a2, a3⟩ := H xs[k] (List.getElem_mem hk)
    have ih := lcO_map g h0 hl H m (k + 1) (by omega)
    have et : (xs.take (k + 1)).map g = (xs.take k).map g ++ [g xs[k]] := by
      rw [List.take_succ_eq_append_getElem hk, List.map_append]
      rfl
    rw [et] at ih
    unfold lcRunO
    simp only [h0, e1, a1, a2, a3]
    rw [if_pos (show _ < sizeLine by rw [List.length_map, List.length_take]; simp only [sizeLine]; omega), ih]
theorem fLcO_map {i0 : Nat} {h : Pd → Rho → Option Rho} {fe : Rho → R AV} {vs : List Nat} {b : Bool} {xs : List Pd} (g : Pd → Pd) {ρ : Rho} (hw : okW ρ vs = true) (h0 : ρ[i0]? = some (.own b xs)) (hl : xs.length ≤ 16777216) (hv : wipeR ρ vs = ρ)
    (H : ∀ x ∈ xs, ∃ ρ1 ρ3, h x ρ = some ρ1 ∧ fe ρ1 = .ok (.d (g x)) ρ3 ∧ wipeR ρ3 vs = ρ) : fLcO i0 h (fun ρ => .ok true ρ) fe vs ρ = .ok (xs.map g) ρ := by
  have := lcO_map g h0 hl H xs.length 0 (by omega)
  unfold fLcO
  rw [if_pos hw, h0, hv]
  simpa using this
end Dt
namespace Dt
open PySem PySem.Spec L2 Evl
/-! ### comprehensions and loops by what they leave -/
section
variable {h : Pd → Rho → Option Rho} {ft : Rho → R Bool} {fe : Rho → R AV} {vs : List Nat} {fb : Rho → R Fl}
theorem lc_cons_yes {x y : Pd} {xs acc : List Pd} {ρ ρ1 ρ2 ρ3 : Rho} (e1 : h x ρ = some ρ1) (e2 : ft ρ1 = .ok true ρ2) (e3 : fe ρ2 = .ok (.d y) ρ3) (hl : acc.length < sizeLine) :
    lcRun h ft fe vs (x :: xs) acc ρ = lcRun h ft fe vs xs (acc ++ [y]) (wipeR ρ3 vs) := by
  simp only [lcRun, e1, e2, e3, if_pos hl]
theorem lc_cons_no {x : Pd} {xs acc : List Pd} {ρ ρ1 ρ2 : Rho} (e1 : h x ρ = some ρ1) (e2 : ft ρ1 = .ok false ρ2) :
    lcRun h ft fe vs (x :: xs) acc ρ = lcRun h ft fe vs xs acc (wipeR ρ2 vs) := by
  simp only [lcRun, e1, e2]
theorem lc_inv (I : Nat → List Pd → Rho → Prop) {xs : List Pd} (step : ∀ (i : Nat) x acc ρ, xs[i]? = some x → I i acc ρ →
      ∃ ρ1 ρ2 ρ3 y, h x ρ = some ρ1 ∧ ft ρ1 = .ok true ρ2 ∧ fe ρ2 = .ok (.d y) ρ3 ∧ acc.length < sizeLine ∧ I (i + 1) (acc ++ [y]) (wipeR ρ3 vs)) :
    ∀ (k : Nat) (acc : List Pd) (ρ : Rho), I k acc ρ → k ≤ xs.length → ∃ acc' ρ', lcRun h ft fe vs (xs.drop k) acc ρ = .ok acc' ρ' ∧ I xs.length acc' ρ' := by
  suffices H : ∀ (n k : Nat), xs.length - k = n → ∀ (acc : List Pd) (ρ : Rho), I k acc ρ → k ≤ xs.length → ∃ acc' ρ', lcRun h ft fe vs (xs.drop k) acc ρ = .ok acc' ρ' ∧ I xs.length acc' ρ' from fun k acc ρ hI hk => H _ k rfl acc ρ hI hk
  intro n
  induction n with
  | zero =>
    intro k e acc ρ hI hk
    have : k = xs.length := by omega
    subst this
    rw [List.drop_length]
    exact ⟨acc, ρ, rfl, hI⟩
  | succ n ih =>
    intro k e acc ρ hI hk
    have hlt : k < xs.length := by omega
    rw [List.drop_eq_getElem_cons hlt]
    obtain ⟨ρ1, ρ2, ρ3, y, e1, e2, e3, hl, hI'⟩ := step k _ acc ρ (List.getElem?_eq_getElem hlt) hI
    rw [lc_cons_yes e1 e2 e3 hl]
    exact ih (k + 1) (by omega) _ _ hI' (by omega)
theorem lc_inv0 (I : Nat → List Pd → Rho → Prop) {xs : List Pd} {ρ : Rho} (h0 : I 0 [] ρ) (step : ∀ (i : Nat) x acc ρ, xs[i]? = some x → I i acc ρ →
      ∃ ρ1 ρ2 ρ3 y, h x ρ = some ρ1 ∧ ft ρ1 = .ok true ρ2 ∧ fe ρ2 = .ok (.d y) ρ3 ∧ acc.length < sizeLine ∧ I (i + 1) (acc ++ [y]) (wipeR ρ3 vs)) :
    ∃ acc' ρ', lcRun h ft fe vs xs [] ρ = .ok acc' ρ' ∧ I xs.length acc' ρ' := lc_inv I step 0 [] ρ h0 (Nat.zero_le _)
/-- each item goes over by g, the slots come back as they were -/
theorem lc_map (g : Pd → Pd) {ρ : Rho} : ∀ {xs acc : List Pd}, (∀ x ∈ xs, ∃ ρ1 ρ2 ρ3, h x ρ = some ρ1 ∧ ft ρ1 = .ok true ρ2 ∧ fe ρ2 = .ok (.d (g x)) ρ3 ∧ wipeR ρ3 vs = ρ) → acc.length + xs.length ≤ sizeLine →
    lcRun h ft fe vs xs acc ρ = .ok (acc ++ xs.map g) ρ
  | [], acc, _, _ => by simp [lcRun]
  | x :: xs, acc, H, hl => by
    obtain ⟨ρ1, ρ2, ρ3, e1, e2, e3, e4⟩ := H x List.mem_cons_self
    rw [lc_cons_yes e1 e2 e3 (by simp at hl; omega), e4, lc_map g (fun y hy => H y (List.mem_cons_of_mem _ hy)) (by simp at hl ⊢; omega)]
    simp
/-- .. of those that p lets by -/
theorem lc_filter (p : Pd → Bool) (g : Pd → Pd) {ρ : Rho} : ∀ {xs acc : List Pd}, (∀ x ∈ xs, ∃ ρ1 ρ2, h x ρ = some ρ1 ∧ ft ρ1 = .ok (p x) ρ2 ∧ (p x = false → wipeR ρ2 vs = ρ) ∧ (p x = true → ∃ ρ3, fe ρ2 = .ok (.d (g x)) ρ3 ∧ wipeR ρ3 vs = ρ)) → acc.length + xs.length ≤ sizeLine →
    lcRun h ft fe vs xs acc ρ = .ok (acc ++ (xs.filter p).map g) ρ
  | [], acc, _, _ => by simp [lcRun]
  | x :: xs, acc, H, hl => by
    obtain ⟨ρ1, ρ2, e1, e2, e3, e4⟩ := H x List.mem_cons_self
    have hz : acc.length < sizeLine := by simp at hl; omega
    cases hp : p x with
    | true =>
      rw [hp] at e2
      obtain ⟨ρ3, e5, e6⟩ := e4 hp
      rw [lc_cons_yes e1 e2 e5 hz, e6, lc_filter p g (fun y hy => H y (List.mem_cons_of_mem _ hy)) (by simp at hl ⊢; omega)]
      simp [List.filter_cons, hp]
    | false =>
      rw [hp] at e2
      rw [lc_cons_no e1 e2, e3 hp, lc_filter p g (fun y hy => H y (List.mem_cons_of_mem _ hy)) (by simp at hl ⊢; omega)]
      simp [List.filter_cons, hp]
/-- a loop all of whose turns go on -/
theorem for_inv (I : Nat → Rho → Prop) {xs : List Pd} (step : ∀ (i : Nat) x ρ, xs[i]? = some x → I i ρ → ∃ ρ1 ρ2, h x ρ = some ρ1 ∧ (fb ρ1 = .ok .nx ρ2 ∨ fb ρ1 = .ok .ct ρ2) ∧ I (i + 1) ρ2) {ρ : Rho} (h0 : I 0 ρ) :
    ∃ ρ', forRun h fb xs ρ = .ok .nx ρ' ∧ I xs.length ρ' := by
  suffices H : ∀ (n k : Nat), xs.length - k = n → k ≤ xs.length → ∀ ρ, I k ρ → ∃ ρ', forRun h fb (xs.drop k) ρ = .ok .nx ρ' ∧ I xs.length ρ' from H _ 0 rfl (Nat.zero_le _) ρ h0
  intro n
  induction n with
  | zero =>
    intro k e hk ρ hI
    have : k = xs.length := by omega
    subst this
    rw [List.drop_length]
    exact ⟨ρ, rfl, hI⟩
  | succ n ih =>
    intro k e hk ρ hI
    have hlt : k < xs.length := by omega
    rw [List.drop_eq_getElem_cons hlt]
    obtain ⟨ρ1, ρ2, e1, e2, hI'⟩ := step k _ ρ (List.getElem?_eq_getElem hlt) hI
    have e3 : forRun h fb (xs[k] :: xs.drop (k + 1)) ρ = forRun h fb (xs.drop (k + 1)) ρ2 := by
      rcases e2 with e2 | e2 <;> simp only [forRun, e1, e2]
    rw [e3]
    exact ih (k + 1) (by omega) (by omega) _ hI'
end
/-! ### texts by their signs -/
open TL (tl joinL tl_join tl_ofString join_eq tl_append len_tl)
theorem tl_cut (z : Str) (lo hi : Option Int) : tl (cutS z lo hi) = ((tl z).drop (HT.sIx (tl z).length 0 lo)).take (HT.sIx (tl z).length (tl z).length hi - HT.sIx (tl z).length 0 lo) := by
  unfold cutS
  rw [len_tl]
theorem sIx_some (n d : Nat) (k : Int) (h : 0 ≤ k) : HT.sIx n d (some k) = min k.toNat n := by
  show (if k < 0 then (k + (n : Int)).toNat else min k.toNat n) = _
  rw [if_neg (by omega)]
/-- z[:k] -/
theorem tl_take (z : Str) (k : Int) (h : 0 ≤ k) : tl (cutS z none (some k)) = (tl z).take k.toNat := by
  rw [tl_cut, sIx_some _ _ _ h]
  show (tl z).take (min k.toNat (tl z).length - 0) = _
  rw [Nat.sub_zero]
  simp
/-- z[k:m] -/
theorem tl_mid (z : Str) (k m : Int) (h : 0 ≤ k) (h2 : 0 ≤ m) : tl (cutS z (some k) (some m)) = ((tl z).drop k.toNat).take (m.toNat - k.toNat) := by
  rw [tl_cut, sIx_some _ _ _ h, sIx_some _ _ _ h2]
  apply List.ext_getElem?
  intro i
  simp only [List.getElem?_take, List.getElem?_drop]
  split
  · rename_i h1
    rw [if_pos (by omega)]
    congr 1
    omega
  · rename_i h1
    split
    · rename_i h3
      rw [List.getElem?_eq_none (by omega)]
    · rfl
theorem tl_drop (z : Str) (k : Int) (h : 0 ≤ k) : tl (cutS z (some k) none) = (tl z).drop k.toNat := by
  rw [tl_cut, sIx_some _ _ _ h]
  show ((tl z).drop (min k.toNat (tl z).length)).take ((tl z).length - min k.toNat (tl z).length) = _
  apply List.ext_getElem?
  intro i
  simp only [List.getElem?_take, List.getElem?_drop]
  split
  · congr 1
    omega
  · rw [List.getElem?_eq_none (by omega)]
theorem tl_one (c : Nat) : tl (⟨#[c]⟩ : Str) = [c] := rfl
theorem str_ext {a b : Str} (h : tl a = tl b) : a = b := by
  obtain ⟨x⟩ := a
  obtain ⟨y⟩ := b
  have : x = y := Array.ext' h
  rw [this]
theorem joinL_nil : ∀ l : List (List Nat), joinL [] l = l.flatten
  | [] => rfl
  | [p] => by simp [joinL]
  | p :: q :: r => by simp [joinL, joinL_nil (q :: r)]
theorem tl_join0 (ys : List Str) : tl (Txt.join (Str.ofString "") ys) = (ys.map tl).flatten := by
  rw [join_eq, tl_join, tl_ofString]
  exact joinL_nil _
theorem inStr_one (c : Nat) (z : Str) : inStr ⟨#[c]⟩ z = decide (c ∈ tl z) := rfl
theorem atI_some {α : Type} {xs : List α} {i : Int} (h0 : 0 ≤ i) (h : i < xs.length) : ∃ x, atI xs i = some x ∧ x ∈ xs := by
  have h1 : i.toNat < xs.length := by omega
  refine ⟨xs[i.toNat], ?_, List.getElem_mem h1⟩
  unfold atI ixN
  rw [if_pos h0, if_pos h]
  show xs[i.toNat]? = _
  exact List.getElem?_eq_getElem h1
theorem strsD_map (ys : List Str) : strsD (ys.map PyData.str) = some ys := by
  induction ys with
  | nil => rfl
  | cons y ys ih => simp only [List.map_cons, strsD]; rw [ih]
/-- a text of one to eight small letters, by its signs -/
def nameL (l : List Nat) : Prop := 1 ≤ l.length ∧ l.length ≤ 8 ∧ ∀ c ∈ l, 97 ≤ c ∧ c ≤ 122
instance (l : List Nat) : Decidable (nameL l) := inferInstanceAs (Decidable (_ ∧ _ ∧ _))
abbrev abc : Str := Str.ofString "abcdefghijklmnopqrstuvwxyz"
theorem tl_abc : tl abc = [97, 98, 99, 100, 101, 102, 103, 104, 105, 106, 107, 108, 109, 110, 111, 112, 113, 114, 115, 116, 117, 118, 119, 120, 121, 122] := by
  decide +kernel
theorem mem_abc (c : Nat) : c ∈ tl abc ↔ 97 ≤ c ∧ c ≤ 122 := by
  rw [tl_abc]
  simp
  omega
theorem up1_small {c : Nat} (h : 97 ≤ c) (h2 : c ≤ 122) : PyProof.Rows.up1 c = c - 32 := by
  unfold PyProof.Rows.up1
  simp [h, h2]
theorem tl_upper {x : Str} (hA : ∀ c ∈ tl x, 97 ≤ c ∧ c ≤ 122) : tl (Txt.upper x) = (tl x).map (· - 32) := by
  rw [PyProof.Rows.upper_ascii (fun c hc => by have := hA c hc; omega)]
  show (x.cps.map PyProof.Rows.up1).toList = _
  rw [Array.toList_map]
  exact List.map_congr_left fun c hc => up1_small (hA c hc).1 (hA c hc).2
/-- a number's text has a sign that is no letter -/
theorem num_sign (i : Int) : ∃ c ∈ tl (Str.ofString (toString i)), c < 97 := by
  rw [tl_ofString]
  cases i with
  | ofNat n =>
    have : (toString (Int.ofNat n)).toList = Nat.toDigits 10 n := by
      show (Nat.repr n).toList = _
      rw [Nat.toList_repr]
    rw [this]
    cases e : Nat.toDigits 10 n with
    | nil => exact absurd e (Nat.toDigits_ne_nil)
    | cons d r =>
      refine ⟨d.toNat, by simp, ?_⟩
      have hd : d.isDigit = true := Nat.isDigit_of_mem_toDigits (b := 10) (n := n) (by omega) (by omega) (by rw [e]; simp)
      simp only [Char.isDigit, Bool.and_eq_true, decide_eq_true_eq] at hd
      have h2 := hd.2
      have : d.val.toNat ≤ 57 := by simpa [UInt32.le_iff_toNat_le] using h2
      show d.val.toNat < 97
      omega
  | negSucc n =>
    refine ⟨'-'.toNat, ?_, by decide⟩
    show _ ∈ (("-" ++ Nat.repr (n + 1) : String)).toList.map Char.toNat
    simp
theorem num_len (i : Int) (h : i.natAbs < 10 ^ 20) : (Str.ofString (toString i)).length ≤ 21 := by
  rw [len_tl, tl_ofString, List.length_map]
  cases i with
  | ofNat n =>
    have : (toString (Int.ofNat n)).toList = Nat.toDigits 10 n := by
      show (Nat.repr n).toList = _
      rw [Nat.toList_repr]
    rw [this]
    have := (Nat.length_toDigits_le_iff (b := 10) (n := n) (k := 20) (by omega) (by omega)).mpr h
    omega
  | negSucc n =>
    show (("-" ++ Nat.repr (n + 1) : String)).toList.length ≤ 21
    have := (Nat.length_toDigits_le_iff (b := 10) (n := n + 1) (k := 20) (by omega) (by omega)).mpr (by simpa using h)
    simp [Nat.toList_repr]
    omega
end Dt
namespace Dt
open PySem PySem.Spec L2 Evl
open TL (tl joinL tl_join tl_ofString join_eq tl_append len_tl)
section
variable {A B : Type} {ρ ρ1 : Rho} {i j n : Nat} {x y : Pd} {a b : Str} {xs ys : List Pd} {k m : Int}
@[simp] theorem mulB_int : mulB (.int k) (.int m) = if mulOk k m = true then some (.int (k * m)) else none := rfl
@[simp] theorem mulB_str : mulB (.str a) (.int m) = if 0 ≤ m ∧ m ≤ 1000 ∧ a.length ≤ 1000 then some (.str (Txt.mul a m)) else none := rfl
@[simp] theorem mulB_tuple : mulB (.tuple xs) (.int m) = if xs ≠ [] ∧ 2 ≤ m ∧ m ≤ 1000 ∧ xs.length ≤ 1000 then some (.tuple (List.replicate m.toNat xs).flatten) else none := rfl
@[simp] theorem tupleA_list : tupleA [.list xs] = some (.tuple xs) := rfl
@[simp] theorem tupleA_tuple : tupleA [.tuple xs] = some (.tuple xs) := rfl
@[simp] theorem tupleA_str : tupleA [.str a] = if a.length ≤ sizeLine then some (.tuple (chars a)) else none := rfl
@[simp] theorem listA_list : listA [.list xs] = some xs := rfl
@[simp] theorem listA_tuple : listA [.tuple xs] = some xs := rfl
@[simp] theorem listA_str : listA [.str a] = if a.length ≤ sizeLine then some (chars a) else none := rfl
@[simp] theorem maxD_int : maxD [.int k, .int m] = some (.int (if m > k then m else k)) := rfl
@[simp] theorem minD_int : minD [.int k, .int m] = some (.int (if m < k then m else k)) := rfl
@[simp] theorem shlD_int : shlD (.int k) (.int m) = if 0 ≤ m ∧ m ≤ 1000000 ∧ k.natAbs < 2 ^ 64 then some (.int (k * 2 ^ m.toNat)) else none := by simp [shlD, intD]
@[simp] theorem fZip_ap {f : Rho → R (List AV)} : fZip f ρ = (f ρ).bind fun as ρ1 => (match zipK as with | some xs => .ok xs ρ1 | none => .bad) := rfl
@[simp] theorem fTake_ap {fe : Rho → R AV} : fTake i j fe ρ = (match ρ[i]? with
  | some (.own _ [.int n]) => (fe ρ).bind fun a ρ1 => (match a, ρ1[i]? with
    | .d (.int m), some (.own b [_]) => if 0 < m ∧ m < 1073741824 then
        (match put j (.int (n % m)) (ρ1.set i (.own b [.int (n / m)])) with
        | some ρ2 => .ok .nx ρ2
        | none => .bad)
      else .bad
    | _, _ => .bad)
  | _ => .bad) := rfl
@[simp] theorem fCallT_ap {g : Rho → R RV} {fl : Rho → R (List Pd)} {fa : Rho → R (List AV)} : fCallT n g fl fa ρ = (fl ρ).bind fun ps ρ1 => (fa ρ1).bind fun as ρ2 => kCallT g ps (argsD n as) ρ2 := rfl
@[simp] theorem kCallT_some {g : Rho → R RV} : kCallT g ys (some xs) ρ = (match g (.own true ys :: xs.map Sl.d) with | .ok (.d x) _ => .ok (.d x) ρ | .ex e _ => .ex e ρ | _ => .bad) := rfl
@[simp] theorem fCallPB_ap {g : Rho → R RV} {fa : Rho → R (List AV)} : fCallPB n i g fa ρ = (match ρ[i]? with | some (.own _ _) => (fa ρ).bind fun as ρ1 => kCallPB n i g as ρ1 | _ => .bad) := rfl
@[simp] theorem kCallPB_ap {g : Rho → R RV} {as : List AV} : kCallPB n i g as ρ = if noSl i as = true ∧ as.length = n then (match ress ρ as, ρ[i]? with
    | some xs, some (.own b ps) => (match g (.own true ps :: xs.map Sl.d) with
      | .ok (.d x) (.own _ ps' :: _) => if flatD x = true ∧ flatL ps' = true then .ok (.d x) (ρ.set i (.own b ps')) else .bad
      | _ => .bad)
    | _, _ => .bad)
  else .bad := rfl
@[simp] theorem noSl_nil : noSl i [] = true := rfl
@[simp] theorem noSl_sl {as : List AV} : noSl i (.sl j :: as) = (decide (j ≠ i) && noSl i as) := rfl
@[simp] theorem noSl_d {as : List AV} : noSl i (.d x :: as) = noSl i as := rfl
theorem eqv_str (a b : Str) : PyData.eqv (.str a) (.str b) = decide (a = b) := by
  simp [PyData.eqv]
  by_cases h : a = b <;> simp [h]
theorem in_strs (a : Str) (l : List Str) : inB (.str a) (.list (l.map PyData.str)) = some (decide (a ∈ l)) := by
  have f : (l.map PyData.str).all flatD = true := by
    rw [List.all_map]
    exact List.all_eq_true.mpr fun _ _ => rfl
  unfold inB
  simp only [flatD, f, and_self, if_true]
  congr 1
  rw [List.any_map]
  induction l with
  | nil => rfl
  | cons b l ih =>
    have f' : (l.map PyData.str).all flatD = true := by
      rw [List.all_map]
      exact List.all_eq_true.mpr fun _ _ => rfl
    rw [List.any_cons, ih f']
    show (PyData.eqv (.str b) (.str a) || _) = _
    rw [eqv_str]
    by_cases h : b = a <;> by_cases h2 : a ∈ l <;> simp [h, h2]
    · exact fun z => h z.symm
theorem inD_strs (a : Str) (l : List Str) : inD (.str a) (.list (l.map PyData.str)) = some (.bool (decide (a ∈ l))) := by unfold inD; rw [in_strs]; rfl
theorem notInD_strs (a : Str) (l : List Str) : notInD (.str a) (.list (l.map PyData.str)) = some (.bool (!decide (a ∈ l))) := by unfold notInD; rw [in_strs]; rfl
/-- a comprehension whose test may change the slots -/
theorem lc_invF {h : Pd → Rho → Option Rho} {ft : Rho → R Bool} {fe : Rho → R AV} {vs : List Nat} (I : Nat → List Pd → Rho → Prop) {xs : List Pd} (step : ∀ (i : Nat) x acc ρ, xs[i]? = some x → I i acc ρ →
      ∃ ρ1 ρ2, h x ρ = some ρ1 ∧ ((ft ρ1 = .ok false ρ2 ∧ I (i + 1) acc (wipeR ρ2 vs)) ∨ (ft ρ1 = .ok true ρ2 ∧ ∃ ρ3 y, fe ρ2 = .ok (.d y) ρ3 ∧ acc.length < sizeLine ∧ I (i + 1) (acc ++ [y]) (wipeR ρ3 vs)))) {ρ : Rho} (h0 : I 0 [] ρ) :
    ∃ acc' ρ', lcRun h ft fe vs xs [] ρ = .ok acc' ρ' ∧ I xs.length acc' ρ' := by
  suffices H : ∀ (n k : Nat), xs.length - k = n → k ≤ xs.length → ∀ (acc : List Pd) (ρ : Rho), I k acc ρ → ∃ acc' ρ', lcRun h ft fe vs (xs.drop k) acc ρ = .ok acc' ρ' ∧ I xs.length acc' ρ' from H _ 0 rfl (Nat.zero_le _) [] ρ h0
  intro n
  induction n with
  | zero =>
    intro k e hk acc ρ hI
    have : k = xs.length := by omega
    subst this
    rw [List.drop_length]
    exact ⟨acc, ρ, rfl, hI⟩
  | succ n ih =>
    intro k e hk acc ρ hI
    have hlt : k < xs.length := by omega
    rw [List.drop_eq_getElem_cons hlt]
    obtain ⟨ρ1, ρ2, e1, c⟩ := step k _ acc ρ (List.getElem?_eq_getElem hlt) hI
    rcases c with ⟨e2, hI'⟩ | ⟨e2, ρ3, y, e3, hl, hI'⟩
    · rw [lc_cons_no e1 e2]
      exact ih (k + 1) (by omega) (by omega) _ _ hI'
    · rw [lc_cons_yes e1 e2 e3 hl]
      exact ih (k + 1) (by omega) (by omega) _ _ hI'
theorem sum_ones {A : Type} {f : A → Nat} : ∀ {l : List A}, (∀ y ∈ l, f y = 1) → (l.map f).sum = l.length
  | [], _ => rfl
  | a :: l, h => by
    rw [List.map_cons, List.sum_cons, h a List.mem_cons_self, sum_ones fun y hy => h y (List.mem_cons_of_mem _ hy), List.length_cons]
    omega
/-- signs joined to a text -/
def ofL (cs : List Nat) : Str := ⟨cs.toArray⟩
theorem tl_ofL (cs : List Nat) : tl (ofL cs) = cs := rfl
abbrev sg1 (c : Nat) : Str := ⟨#[c]⟩
theorem join_signs (cs : List Nat) (h : cs.length ≤ 1000) : joinD (.str (Str.ofString "")) [.list ((cs.map sg1).map PyData.str)] = some (.str (ofL cs)) := by
  have e : Txt.join (Str.ofString "") (cs.map sg1) = ofL cs := by
    refine str_ext ?_
    rw [tl_join0, tl_ofL, List.map_map]
    induction cs with
    | nil => rfl
    | cons c cs ih =>
      rw [List.map_cons, List.flatten_cons, ih (by simp at h; omega)]
      rfl
  have hs : ((cs.map sg1).map (·.length)).sum = cs.length := by
    rw [List.map_map]
    exact sum_ones fun _ _ => rfl
  simp only [joinD]
  rw [strsD_map]
  simp only
  rw [if_pos (by rw [hs, List.length_map]; show cs.length + cs.length * 0 ≤ 16777216; omega), e]
theorem chars_eq (s : Str) : chars s = ((tl s).map sg1).map PyData.str := by unfold chars; rw [List.map_map]; rfl
@[simp] theorem mulC_int : mulC (.int k) (.int m) = if mulOk k m = true then some (.int (k * m)) else none := rfl
@[simp] theorem mulC_str : mulC (.str a) (.int m) = if 0 ≤ m ∧ m ≤ 1000 ∧ a.length ≤ 1000 then some (.str (Txt.mul a m)) else none := rfl
theorem mulC_tup (h : xs ≠ []) (h1 : 1 ≤ m) (h2 : m ≤ 1000) (h3 : xs.length ≤ 1000) : mulC (.tuple xs) (.int m) = some (.tuple (List.replicate m.toNat xs).flatten) := by
  by_cases e : m = 1
  · subst e
    show some (PyData.tuple xs) = _
    simp
  · have : mulC (.tuple xs) (.int m) = mulB (.tuple xs) (.int m) := by
      unfold mulC
      split
      · rename_i h; cases h; exact absurd rfl e
      · rfl
    rw [this, mulB_tuple, if_pos ⟨h, by omega, h2, h3⟩]
@[simp] theorem revD_list : revD (.list xs) = some (.list xs.reverse) := rfl
@[simp] theorem revD_tuple : revD (.tuple xs) = some (.tuple xs.reverse) := rfl
@[simp] theorem revD_str : revD (.str a) = if a.length ≤ sizeLine then some (.str (revS a)) else none := rfl
/-- a loop that folds -/
theorem for_foldI {α β : Type} {h : Pd → Rho → Option Rho} {fb : Rho → R Fl} (d : α → Pd) (I : β → Rho → Prop) (f : β → α → β) : ∀ {xs : List α}, (∀ b x ρ, x ∈ xs → I b ρ → ∃ ρ1 ρ2, h (d x) ρ = some ρ1 ∧ fb ρ1 = .ok .nx ρ2 ∧ I (f b x) ρ2) → ∀ {b : β} {ρ : Rho}, I b ρ →
    ∃ ρ', forRun h fb (xs.map d) ρ = .ok .nx ρ' ∧ I (xs.foldl f b) ρ'
  | [], _, b, ρ, h0 => ⟨ρ, rfl, h0⟩
  | x :: xs, step, b, ρ, h0 => by
    obtain ⟨ρ1, ρ2, e1, e2, h1⟩ := step b x ρ List.mem_cons_self h0
    obtain ⟨ρ', e3, h2⟩ := for_foldI d I f (xs := xs) (fun b y ρ hy => step b y ρ (List.mem_cons_of_mem _ hy)) h1
    refine ⟨ρ', ?_, h2⟩
    rw [List.map_cons]
    simp only [forRun, e1, e2]
    exact e3
/-- a comprehension over things told as data -/
theorem lc_mapM {α : Type} {h : Pd → Rho → Option Rho} {fe : Rho → R AV} {vs : List Nat} (d : α → Pd) (g : α → Pd) {ρ : Rho} {l : List α} (H : ∀ x ∈ l, ∃ ρ1 ρ3, h (d x) ρ = some ρ1 ∧ fe ρ1 = .ok (.d (g x)) ρ3 ∧ wipeR ρ3 vs = ρ) (hl : l.length ≤ 16777216) :
    lcRun h (fun ρ => R.ok true ρ) fe vs (l.map d) [] ρ = .ok (l.map g) ρ := by
  have key : ∀ (l : List α) (acc : List Pd), (∀ x ∈ l, ∃ ρ1 ρ3, h (d x) ρ = some ρ1 ∧ fe ρ1 = .ok (.d (g x)) ρ3 ∧ wipeR ρ3 vs = ρ) → acc.length + l.length ≤ 16777216 → lcRun h (fun ρ => R.ok true ρ) fe vs (l.map d) acc ρ = .ok (acc ++ l.map g) ρ := by
    intro l
    induction l with
    | nil => intro acc _ _; simp
    | cons x l ih =>
      intro acc H hl
      obtain ⟨ρ1, ρ3, e1, e2, e3⟩ := H x List.mem_cons_self
      rw [List.map_cons, lc_cons_yes e1 rfl e2 (by simp [sizeLine] at hl ⊢; omega), e3, ih _ (fun y hy => H y (List.mem_cons_of_mem _ hy)) (by simp at hl ⊢; omega)]
      simp
  have := key l [] H (by simpa using hl)
  simpa using this
theorem cut_take (xs : List Pd) (k : Int) (h : 0 ≤ k) : cutD xs none (some k) = xs.take k.toNat := by
  unfold cutD
  rw [sIx_some _ _ _ h]
  show List.take (min k.toNat xs.length - 0) (xs.drop 0) = _
  rw [Nat.sub_zero, List.drop_zero]
  simp
theorem cut_drop (xs : List Pd) (k : Int) (h : 0 ≤ k) : cutD xs (some k) none = xs.drop k.toNat := by
  unfold cutD
  rw [sIx_some _ _ _ h]
  show (xs.drop (min k.toNat xs.length)).take (xs.length - min k.toNat xs.length) = _
  apply List.ext_getElem?
  intro i
  simp only [List.getElem?_take, List.getElem?_drop]
  split
  · congr 1
    omega
  · rw [List.getElem?_eq_none (by omega)]
theorem cut_mid (xs : List Pd) (k m : Int) (h : 0 ≤ k) (h2 : 0 ≤ m) : cutD xs (some k) (some m) = (xs.drop k.toNat).take (m.toNat - k.toNat) := by
  unfold cutD
  rw [sIx_some _ _ _ h, sIx_some _ _ _ h2]
  apply List.ext_getElem?
  intro i
  simp only [List.getElem?_take, List.getElem?_drop]
  split
  · rename_i h1
    rw [if_pos (by omega)]
    congr 1
    omega
  · rename_i h1
    split
    · rename_i h3
      rw [List.getElem?_eq_none (by omega)]
    · rfl
theorem forRun_cons {h : Pd → Rho → Option Rho} {fb : Rho → R Fl} : forRun h fb (x :: xs) ρ = (match h x ρ with
    | none => .bad
    | some ρ1 => match fb ρ1 with
      | .ok .nx ρ2 => forRun h fb xs ρ2
      | .ok .ct ρ2 => forRun h fb xs ρ2
      | .ok .bk ρ2 => .ok .nx ρ2
      | r => r) := rfl
theorem for_go {h : Pd → Rho → Option Rho} {fb : Rho → R Fl} {ρ2 : Rho} (e1 : h x ρ = some ρ1) (e2 : fb ρ1 = .ok .nx ρ2) : forRun h fb (x :: xs) ρ = forRun h fb xs ρ2 := by
  simp only [forRun, e1, e2]
theorem for_ret {h : Pd → Rho → Option Rho} {fb : Rho → R Fl} {ρ2 : Rho} (e1 : h x ρ = some ρ1) (e2 : fb ρ1 = .ok (.rt y) ρ2) : forRun h fb (x :: xs) ρ = .ok (.rt y) ρ2 := by
  simp only [forRun, e1, e2]
end
end Dt
namespace Lw
open PySem PySem.Spec L2 Evl Dt
def raisedC : List Str := ["NoText"]
def testedC : List Str := []
def caughtC : List Str := ["NoText"]
def upC : List (Str × Str) := [("NoText", "NoText"), ("NoText", "LadderError"), ("NoText", "ValueError")]
def sb (c : Str) : Str → Option Bool := sbG raisedC upC c
def tab_SETS : List (Str × Int) := [("sign", 1), ("drop", 1), ("add", 1), ("change", 2), ("beside", 2)]
def tab_TIMES : List (Str × Int) := [("*2", 2), ("*3", 3)]
def topS (i : Nat) : Stmt := PySem.Challenge.pw_wishladder_k06_whole_texts_of_codes.main.body.getD i (.Pass ⟨0, 0, 0, 0⟩)
def clsBody : Stmt → List Stmt
  | .ClassDef (body := b) .. => b
  | _ => []
abbrev st_NoText : Stmt := (clsBody (topS 2)).getD 0 (.Pass ⟨0, 0, 0, 0⟩)
theorem sc_NoText : FnScope ["self", "part"] ["self", "part"] (defScope st_NoText) := ⟨rfl, rfl, rfl, by decide +kernel, rfl, by decide +kernel, by decide +kernel⟩
/-! ### is_whole -/
abbrev st_is_whole : Stmt := topS 7
abbrev N_is_whole : List Str := ["thing"]
theorem sc_is_whole : FnScope N_is_whole ["thing"] (defScope st_is_whole) := ⟨rfl, rfl, rfl, by decide +kernel, rfl, by decide +kernel, by decide +kernel⟩
def w_is_whole : Rho → R Fl :=
  (fRet (fAndV (f1 (isiD "int") (fVar 0)) (fNotV (f1 (isiD "bool") (fVar 0)))))
def m_is_whole : Rho → R RV := gOf 1 w_is_whole
/-! ### is_name -/
abbrev st_is_name : Stmt := topS 8
abbrev N_is_name : List Str := ["thing", "sign"]
theorem sc_is_name : FnScope N_is_name ["thing"] (defScope st_is_name) := ⟨rfl, rfl, rfl, by decide +kernel, rfl, by decide +kernel, by decide +kernel⟩
def ce_is_name_0 : Rho → R AV :=
  (f2 inD (fVar 1) (fC (.str "abcdefghijklmnopqrstuvwxyz")))
def w_is_name : Rho → R Fl :=
  (fSeq (fIfS (fOr (fNot (fTest (f1 (isiD "str") (fVar 0)))) (fNot (fTest (fChain leD leD (fC (.int 1)) (fCB lenD (fCons (fVar 0) fNil)) (fC (.int 8)))))) (fRet (fC (.bool false))) fNx)
  (fRet (fCB allD (fCons (fL (fLc (fItS (fVar 0)) (put 1) (fun ρ => .ok true ρ) ce_is_name_0 [1])) fNil))))
def m_is_name : Rho → R RV := gOf 2 w_is_name
/-! ### is_rising -/
abbrev st_is_rising : Stmt := topS 9
abbrev N_is_rising : List Str := ["things", "k"]
theorem sc_is_rising : FnScope N_is_rising ["things"] (defScope st_is_rising) := ⟨rfl, rfl, rfl, by decide +kernel, rfl, by decide +kernel, by decide +kernel⟩
def ce_is_rising_0 : Rho → R AV :=
  (f2 ltD (f2 ixD (fVar 0) (fVar 1)) (f2 ixD (fVar 0) (f2 addD (fVar 1) (fC (.int 1)))))
def w_is_rising : Rho → R Fl :=
  (fRet (fCB allD (fCons (fL (fLc (fRng1 (fCons (f2 subD (fCB lenD (fCons (fVar 0) fNil)) (fC (.int 1))) fNil)) (put 1) (fun ρ => .ok true ρ) ce_is_rising_0 [1])) fNil)))
def m_is_rising : Rho → R RV := gOf 2 w_is_rising
/-! ### is_text_of -/
abbrev st_is_text_of : Stmt := topS 10
abbrev N_is_text_of : List Str := ["thing", "signs", "sign"]
theorem sc_is_text_of : FnScope N_is_text_of ["thing", "signs"] (defScope st_is_text_of) := ⟨rfl, rfl, rfl, by decide +kernel, rfl, by decide +kernel, by decide +kernel⟩
def ce_is_text_of_0 : Rho → R AV :=
  (f2 inD (fVar 2) (fVar 1))
def w_is_text_of : Rho → R Fl :=
  (fRet (fAndV (f1 (isiD "str") (fVar 0)) (fCB allD (fCons (fL (fLc (fItS (fVar 0)) (put 2) (fun ρ => .ok true ρ) ce_is_text_of_0 [2])) fNil))))
def m_is_text_of : Rho → R RV := gOf 3 w_is_text_of
/-! ### are_signs -/
abbrev st_are_signs : Stmt := topS 17
abbrev N_are_signs : List Str := ["thing"]
theorem sc_are_signs : FnScope N_are_signs ["thing"] (defScope st_are_signs) := ⟨rfl, rfl, rfl, by decide +kernel, rfl, by decide +kernel, by decide +kernel⟩
def w_are_signs : Rho → R Fl :=
  (fRet (fAndV (fCall 2 m_is_text_of (fCons (fVar 0) (fCons (fC (.str "abcdefghijklmnopqrstuvwxyz")) fNil))) (fAndV (fChain leD leD (fC (.int 1)) (fCB lenD (fCons (fVar 0) fNil)) (fC (.int 3))) (fCall 1 m_is_rising (fCons (fVar 0) fNil)))))
def m_are_signs : Rho → R RV := gOf 1 w_are_signs
/-! ### is_set -/
abbrev st_is_set : Stmt := topS 18
abbrev N_is_set : List Str := ["signs", "thing"]
theorem sc_is_set : FnScope N_is_set ["signs", "thing"] (defScope st_is_set) := ⟨rfl, rfl, rfl, by decide +kernel, rfl, by decide +kernel, by decide +kernel⟩
def w_is_set : Rho → R Fl :=
  (fRet (fAndV (fCall 2 m_is_text_of (fCons (fVar 1) (fCons (fVar 0) fNil))) (fAndV (f2 neD (fVar 1) (fC (.str ""))) (fCall 1 m_is_rising (fCons (fVar 1) fNil)))))
def m_is_set : Rho → R RV := gOf 2 w_is_set
/-! ### is_pattern -/
abbrev st_is_pattern : Stmt := topS 19
abbrev N_is_pattern : List Str := ["signs", "thing", "among", "part"]
theorem sc_is_pattern : FnScope N_is_pattern ["signs", "thing"] (defScope st_is_pattern) := ⟨rfl, rfl, rfl, by decide +kernel, rfl, by decide +kernel, by decide +kernel⟩
def ce_is_pattern_0 : Rho → R AV :=
  (fCall 2 m_is_set (fCons (fVar 2) (fCons (fVar 3) fNil)))
def w_is_pattern : Rho → R Fl :=
  (fSeq (fIfS (fOr (fNot (fTest (f1 (isiD "tuple") (fVar 1)))) (fOr (fTest (f2 eqD (fVar 1) (fTup fNil))) (fOr (fNot (fTest (f1 (isiD "str") (f2 ixD (fVar 1) (fC (.int 0)))))) (fTest (f1 (inT tab_SETS true) (f2 ixD (fVar 1) (fC (.int 0)))))))) (fRet (fC (.bool false))) fNx)
  (fSeq (fAsg (fVar 0) (put 2))
  (fSeq (fIfS (fTest (f2 eqD (f2 ixD (fVar 1) (fC (.int 0))) (fC (.str "beside")))) (fAsg (f2 addD (fC (.str "#")) (fVar 0)) (put 2)) fNx)
  (fRet (fAndV (f2 eqD (fCB lenD (fCons (fVar 1) fNil)) (f2 addD (f1 (getT tab_SETS) (f2 ixD (fVar 1) (fC (.int 0)))) (fC (.int 1)))) (fCB allD (fCons (fL (fLc (fItT (fSl slD (fVar 1) (fPart (fC (.int 1))) fNoPart)) (put 3) (fun ρ => .ok true ρ) ce_is_pattern_0 [3])) fNil)))))))
def m_is_pattern : Rho → R RV := gOf 4 w_is_pattern
/-! ### is_counted -/
abbrev st_is_counted : Stmt := topS 20
abbrev N_is_counted : List Str := ["signs", "thing"]
theorem sc_is_counted : FnScope N_is_counted ["signs", "thing"] (defScope st_is_counted) := ⟨rfl, rfl, rfl, by decide +kernel, rfl, by decide +kernel, by decide +kernel⟩
def w_is_counted : Rho → R Fl :=
  (fSeq (fIfS (fOr (fNot (fTest (f1 (isiD "tuple") (fVar 1)))) (fOr (fTest (f2 neD (fCB lenD (fCons (fVar 1) fNil)) (fC (.int 2)))) (fNot (fTest (fCall 2 m_is_pattern (fCons (fVar 0) (fCons (f2 ixD (fVar 1) (fC (.int 0))) fNil))))))) (fRet (fC (.bool false))) fNx)
  (fRet (fAndV (fCall 1 m_is_whole (fCons (f2 ixD (fVar 1) (fC (.int 1))) fNil)) (fChain leD leD (fC (.int 1)) (f2 ixD (fVar 1) (fC (.int 1))) (fC (.int 3))))))
def m_is_counted : Rho → R RV := gOf 2 w_is_counted
/-! ### is_wish -/
abbrev st_is_wish : Stmt := topS 21
abbrev N_is_wish : List Str := ["signs", "thing", "patterns", "one"]
theorem sc_is_wish : FnScope N_is_wish ["signs", "thing"] (defScope st_is_wish) := ⟨rfl, rfl, rfl, by decide +kernel, rfl, by decide +kernel, by decide +kernel⟩
def ce_is_wish_0 : Rho → R AV :=
  (fCall 2 m_is_counted (fCons (fVar 0) (fCons (fVar 3) fNil)))
def w_is_wish : Rho → R Fl :=
  (fSeq (fIfS (fOr (fNot (fTest (f1 (isiD "tuple") (fVar 1)))) (fOr (fTest (f2 neD (fCB lenD (fCons (fVar 1) fNil)) (fC (.int 2)))) (fNot (fTest (fCall 1 m_is_name (fCons (f2 ixD (fVar 1) (fC (.int 0))) fNil)))))) (fRet (fC (.bool false))) fNx)
  (fSeq (fAsg (f2 ixD (fVar 1) (fC (.int 1))) (put 2))
  (fSeq (fIfS (fOr (fNot (fTest (f1 (isiD "tuple") (fVar 2)))) (fNot (fTest (fChain leD leD (fC (.int 1)) (fCB lenD (fCons (fVar 2) fNil)) (fC (.int 3)))))) (fRet (fC (.bool false))) fNx)
  (fRet (fCB allD (fCons (fL (fLc (fItT (fVar 2)) (put 3) (fun ρ => .ok true ρ) ce_is_wish_0 [3])) fNil))))))
def m_is_wish : Rho → R RV := gOf 4 w_is_wish
/-! ### are_wishes -/
abbrev st_are_wishes : Stmt := topS 22
abbrev N_are_wishes : List Str := ["signs", "thing", "wish"]
theorem sc_are_wishes : FnScope N_are_wishes ["signs", "thing"] (defScope st_are_wishes) := ⟨rfl, rfl, rfl, by decide +kernel, rfl, by decide +kernel, by decide +kernel⟩
def ce_are_wishes_1 : Rho → R AV :=
  (f2 ixD (fVar 2) (fC (.int 0)))
def ce_are_wishes_0 : Rho → R AV :=
  (fCall 2 m_is_wish (fCons (fVar 0) (fCons (fVar 2) fNil)))
def w_are_wishes : Rho → R Fl :=
  (fSeq (fIfS (fOr (fNot (fTest (f1 (isiD "tuple") (fVar 1)))) (fNot (fTest (fChain leD leD (fC (.int 1)) (fCB lenD (fCons (fVar 1) fNil)) (fC (.int 5)))))) (fRet (fC (.bool false))) fNx)
  (fSeq (fIfS (fNot (fTest (fCB allD (fCons (fL (fLc (fItT (fVar 1)) (put 2) (fun ρ => .ok true ρ) ce_are_wishes_0 [2])) fNil)))) (fRet (fC (.bool false))) fNx)
  (fRet (f2 eqD (f1 lenSetD (fL (fLc (fItT (fVar 1)) (put 2) (fun ρ => .ok true ρ) ce_are_wishes_1 [2]))) (fCB lenD (fCons (fVar 1) fNil))))))
def m_are_wishes : Rho → R RV := gOf 3 w_are_wishes
/-! ### show_pattern -/
abbrev st_show_pattern : Stmt := topS 25
abbrev N_show_pattern : List Str := ["counted", "pattern", "times", "text"]
theorem sc_show_pattern : FnScope N_show_pattern ["counted"] (defScope st_show_pattern) := ⟨rfl, rfl, rfl, by decide +kernel, rfl, by decide +kernel, by decide +kernel⟩
def w_show_pattern : Rho → R Fl :=
  (fSeq (fAsg (fVar 0) (putTup 2 (putCons (put 1) (putCons (put 2) putNil))))
  (fSeq (fAsg (fM1 joinD (fC (.str " ")) (fVar 1)) (put 3))
  (fSeq (fIfS (fTest (f2 neD (fVar 2) (fC (.int 1)))) (fAsg (f2 addD (f2 addD (fVar 3) (fC (.str " *"))) (fCB strD (fCons (fVar 2) fNil))) (put 3)) fNx)
  (fRet (fVar 3)))))
def m_show_pattern : Rho → R RV := gOf 4 w_show_pattern
/-! ### show_wish -/
abbrev st_show_wish : Stmt := topS 26
abbrev N_show_wish : List Str := ["wish", "counted"]
theorem sc_show_wish : FnScope N_show_wish ["wish"] (defScope st_show_wish) := ⟨rfl, rfl, rfl, by decide +kernel, rfl, by decide +kernel, by decide +kernel⟩
def ce_show_wish_0 : Rho → R AV :=
  (fCall 1 m_show_pattern (fCons (fVar 1) fNil))
def w_show_wish : Rho → R Fl :=
  (fRet (f2 addD (f2 addD (f2 ixD (fVar 0) (fC (.int 0))) (fC (.str ": "))) (fM1 joinD (fC (.str ", ")) (fL (fLc (fItT (f2 ixD (fVar 0) (fC (.int 1)))) (put 1) (fun ρ => .ok true ρ) ce_show_wish_0 [1])))))
def m_show_wish : Rho → R RV := gOf 2 w_show_wish
/-! ### show_code -/
abbrev st_show_code : Stmt := topS 27
abbrev N_show_code : List Str := ["code", "wish"]
theorem sc_show_code : FnScope N_show_code ["code"] (defScope st_show_code) := ⟨rfl, rfl, rfl, by decide +kernel, rfl, by decide +kernel, by decide +kernel⟩
def ce_show_code_0 : Rho → R AV :=
  (fCall 1 m_show_wish (fCons (fVar 1) fNil))
def w_show_code : Rho → R Fl :=
  (fRet (fM1 joinD (fC (.str "\n")) (f2 addD (fL (fLst (fCons (f2 addD (fC (.str "signs ")) (f2 ixD (fVar 0) (fC (.int 0)))) fNil))) (fL (fLc (fItT (f2 ixD (fVar 0) (fC (.int 1)))) (put 1) (fun ρ => .ok true ρ) ce_show_code_0 [1])))))
def m_show_code : Rho → R RV := gOf 2 w_show_code
/-! ### pattern_in -/
abbrev st_pattern_in : Stmt := topS 28
abbrev N_pattern_in : List Str := ["signs", "text", "words", "times", "found"]
theorem sc_pattern_in : FnScope N_pattern_in ["signs", "text"] (defScope st_pattern_in) := ⟨rfl, rfl, rfl, by decide +kernel, rfl, by decide +kernel, by decide +kernel⟩
def w_pattern_in : Rho → R Fl :=
  (fSeq (fAsg (fM1 splitD (fVar 1) (fC (.str " "))) (put 2))
  (fSeq (fAsg (fC (.int 1)) (put 3))
  (fSeq (fIfS (fTest (f1 (inT tab_TIMES false) (f2 ixD (fVar 2) (f1 negD (fC (.int 1)))))) (fSeq (fAsg (f1 (getT tab_TIMES) (f2 ixD (fVar 2) (f1 negD (fC (.int 1))))) (put 3))
  (fAsg (fSl slD (fVar 2) fNoPart (fPart (f1 negD (fC (.int 1))))) (put 2))) fNx)
  (fSeq (fAsg (fTup (fCons (fCB tupleA (fCons (fVar 2) fNil)) (fCons (fVar 3) fNil))) (put 4))
  (fSeq (fIfS (fNot (fTest (fCall 2 m_is_counted (fCons (fVar 0) (fCons (fVar 4) fNil))))) (fRet (fC .none)) fNx)
  (fRet (fVar 4)))))))
def m_pattern_in : Rho → R RV := gOf 5 w_pattern_in
/-! ### wish_in -/
abbrev st_wish_in : Stmt := topS 29
abbrev N_wish_in : List Str := ["signs", "row", "name", "sign", "text", "patterns", "part"]
theorem sc_wish_in : FnScope N_wish_in ["signs", "row"] (defScope st_wish_in) := ⟨rfl, rfl, rfl, by decide +kernel, rfl, by decide +kernel, by decide +kernel⟩
def ce_wish_in_0 : Rho → R AV :=
  (fCall 2 m_pattern_in (fCons (fVar 0) (fCons (fVar 6) fNil)))
def w_wish_in : Rho → R Fl :=
  (fSeq (fAsg (fM1 partD (fVar 1) (fC (.str ": "))) (putTup 3 (putCons (put 2) (putCons (put 3) (putCons (put 4) putNil)))))
  (fSeq (fIfS (fOr (fTest (f2 eqD (fVar 3) (fC (.str "")))) (fNot (fTest (fCall 1 m_is_name (fCons (fVar 2) fNil))))) (fRet (fC .none)) fNx)
  (fSeq (fAsg (fCB tupleA (fCons (fL (fLc (fItL (fM1 splitD (fVar 4) (fC (.str ", ")))) (put 6) (fun ρ => .ok true ρ) ce_wish_in_0 [6])) fNil)) (put 5))
  (fSeq (fIfS (fTest (f2 inD (fC .none) (fVar 5))) (fRet (fC .none)) fNx)
  (fRet (fTup (fCons (fVar 2) (fCons (fVar 5) fNil))))))))
def m_wish_in : Rho → R RV := gOf 7 w_wish_in
/-! ### read_code -/
abbrev st_read_code : Stmt := topS 30
abbrev N_read_code : List Str := ["text", "rows", "first", "sign", "signs", "wishes", "number", "wish"]
theorem sc_read_code : FnScope N_read_code ["text"] (defScope st_read_code) := ⟨rfl, rfl, rfl, by decide +kernel, rfl, by decide +kernel, by decide +kernel⟩
def fb_read_code_0 : Rho → R Fl :=
  (fSeq (fAsg (fCall 2 m_wish_in (fCons (fVar 4) (fCons (f2 ixD (fVar 1) (fVar 6)) fNil))) (put 7))
  (fSeq (fIfS (fOr (fTest (f2 isNoneD (fVar 7) (fC .none))) (fNot (fTest (fCall 2 m_are_wishes (fCons (fVar 4) (fCons (f2 addD (fVar 5) (fTup (fCons (fVar 7) fNil))) fNil)))))) (fRaiseP "NoText" "part" (fVar 6)) fNx)
  (fAsg (f2 addD (fVar 5) (fTup (fCons (fVar 7) fNil))) (put 5))))
def w_read_code : Rho → R Fl :=
  (fSeq (fIfS (fNot (fTest (f1 (isiD "str") (fVar 0)))) (fRaiseP "NoText" "part" (fC .none)) fNx)
  (fSeq (fAsg (fM1 splitD (fVar 0) (fC (.str "\n"))) (put 1))
  (fSeq (fAsg (fM1 partD (f2 ixD (fVar 1) (fC (.int 0))) (fC (.str " "))) (putTup 3 (putCons (put 2) (putCons (put 3) (putCons (put 4) putNil)))))
  (fSeq (fIfS (fOr (fTest (f2 neD (fVar 2) (fC (.str "signs")))) (fOr (fTest (f2 eqD (fVar 3) (fC (.str "")))) (fNot (fTest (fCall 1 m_are_signs (fCons (fVar 4) fNil)))))) (fRaiseP "NoText" "part" (fC (.int 0))) fNx)
  (fSeq (fAsg (fTup fNil) (put 5))
  (fSeq (fFor (fRng2 (fCons (fC (.int 1)) (fCons (fCB lenD (fCons (fVar 1) fNil)) fNil))) (put 6) fb_read_code_0)
  (fSeq (fIfS (fTest (f2 eqD (fVar 5) (fTup fNil))) (fRaiseP "NoText" "part" (fC (.int 1))) fNx)
  (fRet (fTup (fCons (fVar 4) (fCons (fVar 5) fNil)))))))))))
def m_read_code : Rho → R RV := gOf 8 w_read_code
/-! ### _law_pool -/
abbrev st__law_pool : Stmt := topS 32
abbrev N__law_pool : List Str := ["_law_cell", "_law_figures", "_law_one"]
theorem sc__law_pool : FnScope N__law_pool ["_law_cell"] (defScope st__law_pool) := ⟨rfl, rfl, rfl, by decide +kernel, rfl, by decide +kernel, by decide +kernel⟩
def w__law_pool : Rho → R Fl :=
  (fSeq (fAsg (fC (.int 0)) (put 1))
  (fSeq (fIfS (fOr (fTest (f2 ltD (fVar 0) (fC (.int 0)))) (fTest (f2 geD (fVar 0) (f2 powD (fC (.int 10)) (fC (.int 18)))))) (fAsg (fCB absD (fCons (fVar 0) fNil)) (put 1)) fNx)
  (fSeq (fAsg (f2 modD (fVar 0) (fC (.int 1000000403))) (put 2))
  (fRetL (fLst (fCons (fVar 1) (fCons (fVar 2) (fCons (f2 modD (f2 addD (f2 mulC (fVar 2) (fC (.int 48271))) (fC (.int 12345))) (fC (.int 1000000513))) fNil))))))))
def m__law_pool : Rho → R RV := gOf 3 w__law_pool
/-! ### _law_draw -/
abbrev st__law_draw : Stmt := topS 33
abbrev N__law_draw : List Str := ["_law_pool_here", "_law_top", "_law_found"]
theorem sc__law_draw : FnScope N__law_draw ["_law_pool_here", "_law_top"] (defScope st__law_draw) := ⟨rfl, rfl, rfl, by decide +kernel, rfl, by decide +kernel, by decide +kernel⟩
def w__law_draw : Rho → R Fl :=
  (fSeq (fIfS (fTest (f2 gtD (f2 ixD (fOwn 0) (fC (.int 0))) (fC (.int 0)))) (fSeq (fAsg (f2 modD (f2 ixD (fOwn 0) (fC (.int 0))) (fVar 1)) (put 2))
  (fSeq (fSetI 0 (f2 fdivD (f2 ixD (fOwn 0) (fC (.int 0))) (fVar 1)) (fC (.int 0)))
  (fRet (fVar 2)))) fNx)
  (fSeq (fSetI 0 (f2 modD (f2 addD (f2 addD (f2 mulC (f2 ixD (fOwn 0) (fC (.int 1))) (fC (.int 40014))) (f2 ixD (fOwn 0) (fC (.int 2)))) (fC (.int 7))) (fC (.int 1000000403))) (fC (.int 1)))
  (fSeq (fSetI 0 (f2 modD (f2 addD (f2 addD (f2 mulC (f2 ixD (fOwn 0) (fC (.int 2))) (fC (.int 40699))) (f2 modD (f2 mulC (f2 ixD (fOwn 0) (fC (.int 1))) (f2 ixD (fOwn 0) (fC (.int 1)))) (fC (.int 65537)))) (fC (.int 1))) (fC (.int 1000000513))) (fC (.int 2)))
  (fRet (f2 modD (f2 fdivD (f2 addD (f2 ixD (fOwn 0) (fC (.int 1))) (f2 mulC (fC (.int 7)) (f2 ixD (fOwn 0) (fC (.int 2))))) (fC (.int 16))) (fVar 1))))))
def m__law_draw : Rho → R RV := gOf 3 w__law_draw
/-! ### _law_name -/
abbrev st__law_name : Stmt := topS 34
abbrev N__law_name : List Str := ["_law_pool_here", "_law_known", "_law_letters", "_law_name_here", "_law_some", "_law_sign", "_law_one", "_law_k"]
theorem sc__law_name : FnScope N__law_name ["_law_pool_here", "_law_known"] (defScope st__law_name) := ⟨rfl, rfl, rfl, by decide +kernel, rfl, by decide +kernel, by decide +kernel⟩
def ct__law_name_2 : Rho → R Bool :=
  (fTest (f2 notInD (fVar 6) (fVar 1)))
def ce__law_name_2 : Rho → R AV :=
  (fVar 6)
def ce__law_name_1 : Rho → R AV :=
  (f2 addD (fSl slD (fVar 3) fNoPart (fPart (fC (.int 7)))) (fVar 5))
def ce__law_name_0 : Rho → R AV :=
  (f2 ixD (fVar 2) (fCallP 1 0 m__law_draw (fCons (fC (.int 26)) fNil)))
def w__law_name : Rho → R Fl :=
  (fSeq (fAsg (fC (.str "abcdefghijklmnopqrstuvwxyz")) (put 2))
  (fSeq (fIfS (fAnd (fTest (f2 neD (fVar 1) (fL (fLst fNil)))) (fTest (f2 eqD (fCallP 1 0 m__law_draw (fCons (fC (.int 4)) fNil)) (fC (.int 1))))) (fAsg (fSl slD (f2 addD (f2 ixD (fVar 1) (fCallP 1 0 m__law_draw (fCons (fCB lenD (fCons (fVar 1) fNil)) fNil))) (f2 ixD (fVar 2) (fCallP 1 0 m__law_draw (fCons (fC (.int 26)) fNil)))) fNoPart (fPart (fC (.int 8)))) (put 3)) (fAsg (fM1 joinD (fC (.str "")) (fL (fLc (fRng1 (fCons (f2 addD (fC (.int 1)) (fCallP 1 0 m__law_draw (fCons (fC (.int 8)) fNil))) fNil)) (put 7) (fun ρ => .ok true ρ) ce__law_name_0 [7]))) (put 3)))
  (fSeq (fAsg (f2 addD (fL (fLst (fCons (fVar 3) fNil))) (fL (fLc (fItS (fVar 2)) (put 5) (fun ρ => .ok true ρ) ce__law_name_1 [5]))) (put 4))
  (fRet (f2 ixD (fL (fLc (fItL (fVar 4)) (put 6) ct__law_name_2 ce__law_name_2 [6])) (fC (.int 0)))))))
def m__law_name : Rho → R RV := gOf 8 w__law_name
/-! ### _law_signs -/
abbrev st__law_signs : Stmt := topS 35
abbrev N__law_signs : List Str := ["_law_pool_here", "_law_letters", "_law_found", "_law_k", "_law_left", "_law_sign"]
theorem sc__law_signs : FnScope N__law_signs ["_law_pool_here"] (defScope st__law_signs) := ⟨rfl, rfl, rfl, by decide +kernel, rfl, by decide +kernel, by decide +kernel⟩
def ct__law_signs_1 : Rho → R Bool :=
  (fTest (f2 notInD (fVar 5) (fOwn 2)))
def ce__law_signs_1 : Rho → R AV :=
  (fVar 5)
def fb__law_signs_0 : Rho → R Fl :=
  (fSeq (fAsg (fL (fLc (fItS (fVar 1)) (put 5) ct__law_signs_1 ce__law_signs_1 [5])) (put 4))
  (fApp 2 (f2 ixD (fVar 4) (fCallP 1 0 m__law_draw (fCons (fCB lenD (fCons (fVar 4) fNil)) fNil)))))
def w__law_signs : Rho → R Fl :=
  (fSeq (fAsg (fC (.str "abcdefghijklmnopqrstuvwxyz")) (put 1))
  (fSeq (fSetO (fLst fNil) 2)
  (fSeq (fFor (fRng1 (fCons (f2 addD (fC (.int 1)) (fCallP 1 0 m__law_draw (fCons (fC (.int 3)) fNil))) fNil)) (put 3) fb__law_signs_0)
  (fRet (fM1 joinD (fC (.str "")) (fL (fCBL sortedD (fCons (fOwn 2) fNil))))))))
def m__law_signs : Rho → R RV := gOf 6 w__law_signs
/-! ### _law_set -/
abbrev st__law_set : Stmt := topS 36
abbrev N__law_set : List Str := ["_law_pool_here", "_law_signs_here", "_law_found", "_law_sign"]
theorem sc__law_set : FnScope N__law_set ["_law_pool_here", "_law_signs_here"] (defScope st__law_set) := ⟨rfl, rfl, rfl, by decide +kernel, rfl, by decide +kernel, by decide +kernel⟩
def ct__law_set_0 : Rho → R Bool :=
  (fTest (f2 eqD (fCallP 1 0 m__law_draw (fCons (fC (.int 2)) fNil)) (fC (.int 1))))
def ce__law_set_0 : Rho → R AV :=
  (fVar 3)
def w__law_set : Rho → R Fl :=
  (fSeq (fAsg (fL (fLc (fItS (fVar 1)) (put 3) ct__law_set_0 ce__law_set_0 [3])) (put 2))
  (fSeq (fIfS (fTest (f2 eqD (fVar 2) (fL (fLst fNil)))) (fAsg (fL (fLst (fCons (f2 ixD (fVar 1) (fCallP 1 0 m__law_draw (fCons (fCB lenD (fCons (fVar 1) fNil)) fNil))) fNil))) (put 2)) fNx)
  (fRet (fM1 joinD (fC (.str "")) (fVar 2)))))
def m__law_set : Rho → R RV := gOf 4 w__law_set
/-! ### _law_pattern -/
abbrev st__law_pattern : Stmt := topS 37
abbrev N__law_pattern : List Str := ["_law_pool_here", "_law_signs_here", "_law_kind", "_law_among", "_law_parts"]
theorem sc__law_pattern : FnScope N__law_pattern ["_law_pool_here", "_law_signs_here"] (defScope st__law_pattern) := ⟨rfl, rfl, rfl, by decide +kernel, rfl, by decide +kernel, by decide +kernel⟩
def w__law_pattern : Rho → R Fl :=
  (fSeq (fAsg (f2 ixD (fL (fLst (fCons (fC (.str "sign")) (fCons (fC (.str "beside")) (fCons (fC (.str "drop")) (fCons (fC (.str "add")) (fCons (fC (.str "change")) (fCons (fC (.str "beside")) fNil)))))))) (fCallP 1 0 m__law_draw (fCons (fC (.int 6)) fNil))) (put 2))
  (fSeq (fAsg (fVar 1) (put 3))
  (fSeq (fIfS (fTest (f2 eqD (fVar 2) (fC (.str "beside")))) (fAsg (f2 addD (fC (.str "#")) (fVar 1)) (put 3)) fNx)
  (fSeq (fSetO (fLst (fCons (fCallP 1 0 m__law_set (fCons (fVar 3) fNil)) fNil)) 4)
  (fSeq (fIfS (fTest (f2 inD (fVar 2) (fL (fLst (fCons (fC (.str "beside")) (fCons (fC (.str "change")) fNil)))))) (fApp 4 (fCallP 1 0 m__law_set (fCons (fVar 3) fNil))) fNx)
  (fRet (fTup (fCons (fCB tupleA (fCons (f2 addD (fL (fLst (fCons (fVar 2) fNil))) (fOwn 4)) fNil)) (fCons (f2 addD (f2 addD (fC (.int 1)) (f2 fdivD (fCallP 1 0 m__law_draw (fCons (fC (.int 6)) fNil)) (fC (.int 4)))) (f2 mulC (fCallP 1 0 m__law_draw (fCons (fC (.int 2)) fNil)) (fCallP 1 0 m__law_draw (fCons (fC (.int 2)) fNil)))) fNil)))))))))
def m__law_pattern : Rho → R RV := gOf 5 w__law_pattern
/-! ### _law_code -/
abbrev st__law_code : Stmt := topS 38
abbrev N__law_code : List Str := ["_law_pool_here", "_law_most", "_law_signs_here", "_law_names", "_law_wishes", "_law_k", "_law_words", "_law_patterns", "_law_turn", "_law_word"]
theorem sc__law_code : FnScope N__law_code ["_law_pool_here", "_law_most"] (defScope st__law_code) := ⟨rfl, rfl, rfl, by decide +kernel, rfl, by decide +kernel, by decide +kernel⟩
def ce__law_code_2 : Rho → R AV :=
  (fCallP 1 0 m__law_pattern (fCons (fVar 2) fNil))
def ct__law_code_1 : Rho → R Bool :=
  (fTest (f2 notInD (fVar 9) (fOwn 3)))
def ce__law_code_1 : Rho → R AV :=
  (fVar 9)
def fb__law_code_0 : Rho → R Fl :=
  (fSeq (fApp 3 (fCallPB 1 0 m__law_name (fCons (fOwn 3) fNil)))
  (fSeq (fAsg (fL (fLst (fCons (fC (.str "signs")) (fCons (fC (.str "sign")) (fCons (fC (.str "add")) (fCons (fC (.str "drop")) (fCons (fC (.str "change")) (fCons (fC (.str "beside")) (fCons (fC (.str "signsx")) fNil))))))))) (put 6))
  (fSeq (fIfS (fTest (f2 eqD (fCallP 1 0 m__law_draw (fCons (fC (.int 8)) fNil)) (fC (.int 1)))) (fSetI 3 (f2 ixD (f2 addD (fL (fLc (fItL (fSl slD (fVar 6) (fPart (fCallP 1 0 m__law_draw (fCons (fC (.int 7)) fNil))) fNoPart)) (put 9) ct__law_code_1 ce__law_code_1 [9])) (fSl slD (fOwn 3) (fPart (fVar 5)) fNoPart)) (fC (.int 0))) (fVar 5)) fNx)
  (fSeq (fAsg (fCB tupleA (fCons (fL (fLc (fRng1 (fCons (f2 addD (fC (.int 1)) (fCallP 1 0 m__law_draw (fCons (fC (.int 3)) fNil))) fNil)) (put 8) (fun ρ => .ok true ρ) ce__law_code_2 [8])) fNil)) (put 7))
  (fApp 4 (fTup (fCons (f2 ixD (fOwn 3) (fVar 5)) (fCons (fVar 7) fNil))))))))
def w__law_code : Rho → R Fl :=
  (fSeq (fAsg (fCallP 0 0 m__law_signs fNil) (put 2))
  (fSeq (fSetO (fLst fNil) 3)
  (fSeq (fSetO (fLst fNil) 4)
  (fSeq (fFor (fRng1 (fCons (f2 addD (fC (.int 1)) (fCallP 1 0 m__law_draw (fCons (fVar 1) fNil))) fNil)) (put 5) fb__law_code_0)
  (fRet (fTup (fCons (fVar 2) (fCons (fCB tupleA (fCons (fOwn 4) fNil)) fNil))))))))
def m__law_code : Rho → R RV := gOf 10 w__law_code
/-! ### _law_rows -/
abbrev st__law_rows : Stmt := topS 39
abbrev N__law_rows : List Str := ["_law_code_here", "_law_found", "_law_name_here", "_law_patterns", "_law_parts", "_law_pattern_here", "_law_times"]
theorem sc__law_rows : FnScope N__law_rows ["_law_code_here"] (defScope st__law_rows) := ⟨rfl, rfl, rfl, by decide +kernel, rfl, by decide +kernel, by decide +kernel⟩
def fb__law_rows_1 : Rho → R Fl :=
  (fApp 4 (f2 addD (fM1 joinD (fC (.str " ")) (fVar 5)) (f2 ixD (fL (fLst (fCons (f2 addD (fC (.str " *")) (fCB strD (fCons (fVar 6) fNil))) (fCons (fC (.str "")) fNil)))) (fCB intOfD (fCons (f2 eqD (fVar 6) (fC (.int 1))) fNil)))))
def fb__law_rows_0 : Rho → R Fl :=
  (fSeq (fSetO (fLst fNil) 4)
  (fSeq (fFor (fItT (fVar 3)) (putTup 2 (putCons (put 5) (putCons (put 6) putNil))) fb__law_rows_1)
  (fApp 1 (f2 addD (f2 addD (fVar 2) (fC (.str ": "))) (fM1 joinD (fC (.str ", ")) (fOwn 4))))))
def w__law_rows : Rho → R Fl :=
  (fSeq (fSetO (fLst (fCons (f2 addD (fC (.str "signs ")) (f2 ixD (fVar 0) (fC (.int 0)))) fNil)) 1)
  (fSeq (fFor (fItT (f2 ixD (fVar 0) (fC (.int 1)))) (putTup 2 (putCons (put 2) (putCons (put 3) putNil))) fb__law_rows_0)
  (fFrz 1 (fRet (fVar 1)))))
def m__law_rows : Rho → R RV := gOf 7 w__law_rows
/-! ### _law_bent -/
abbrev st__law_bent : Stmt := topS 40
abbrev N__law_bent : List Str := ["_law_pool_here", "_law_text", "_law_pick", "_law_at", "_law_odd", "_law_rows_here", "_law_place", "_law_two"]
theorem sc__law_bent : FnScope N__law_bent ["_law_pool_here", "_law_text"] (defScope st__law_bent) := ⟨rfl, rfl, rfl, by decide +kernel, rfl, by decide +kernel, by decide +kernel⟩
def w__law_bent : Rho → R Fl :=
  (fSeq (fAsg (fCallP 1 0 m__law_draw (fCons (fC (.int 5)) fNil)) (put 2))
  (fSeq (fAsg (fCallP 1 0 m__law_draw (fCons (f2 addD (fCB lenD (fCons (fVar 1) fNil)) (fC (.int 1))) fNil)) (put 3))
  (fSeq (fIfS (fTest (f2 ltD (fVar 2) (fC (.int 3)))) (fSeq (fAsg (fL (fLst (fCons (fC (.str "")) (fCons (fC (.str " ")) (fCons (fC (.str ",")) (fCons (fC (.str ":")) (fCons (fC (.str "*")) (fCons (fC (.str "#")) (fCons (fC (.str "2")) (fCons (fC (.str "a")) (fCons (fC (.str "b")) (fCons (fC (.str "\n")) (fCons (fC (.str ", ")) (fCons (fC (.str " *2")) (fCons (fC (.str "sign a")) (fCons (fC (.str "drop")) (fCons (fC (.str "x")) (fCons (fC (.str ": ")) fNil)))))))))))))))))) (put 4))
  (fRet (f2 addD (f2 addD (fSl slD (fVar 1) fNoPart (fPart (fVar 3))) (f2 ixD (fVar 4) (fCallP 1 0 m__law_draw (fCons (fC (.int 16)) fNil)))) (fSl slD (fVar 1) (fPart (f2 addD (fVar 3) (fCallP 1 0 m__law_draw (fCons (fC (.int 3)) fNil)))) fNoPart)))) fNx)
  (fSeq (fAsg (fM1 splitD (fVar 1) (fC (.str "\n"))) (put 5))
  (fSeq (fAsg (fCallP 1 0 m__law_draw (fCons (fCB lenD (fCons (fVar 5) fNil)) fNil)) (put 6))
  (fSeq (fIfS (fTest (f2 eqD (fVar 2) (fC (.int 3)))) (fRet (fM1 joinD (fC (.str "\n")) (f2 addD (fSl slD (fVar 5) fNoPart (fPart (fVar 6))) (fSl slD (fVar 5) (fPart (f2 addD (fVar 6) (fC (.int 1)))) fNoPart)))) fNx)
  (fSeq (fAsg (fSl slD (fVar 5) (fPart (fVar 6)) (fPart (f2 addD (fVar 6) (fC (.int 2))))) (put 7))
  (fRet (fM1 joinD (fC (.str "\n")) (f2 addD (f2 addD (fSl slD (fVar 5) fNoPart (fPart (fVar 6))) (f1 revD (fVar 7))) (fSl slD (fVar 5) (fPart (f2 addD (fVar 6) (fC (.int 2)))) fNoPart)))))))))))
def m__law_bent : Rho → R RV := gOf 8 w__law_bent
/-! ### _law_is_set -/
abbrev st__law_is_set : Stmt := topS 41
abbrev N__law_is_set : List Str := ["_law_word", "_law_among", "_law_k", "_law_sign"]
theorem sc__law_is_set : FnScope N__law_is_set ["_law_word", "_law_among"] (defScope st__law_is_set) := ⟨rfl, rfl, rfl, by decide +kernel, rfl, by decide +kernel, by decide +kernel⟩
def ce__law_is_set_1 : Rho → R AV :=
  (f2 ltD (f2 ixD (fVar 0) (fVar 2)) (f2 ixD (fVar 0) (f2 addD (fVar 2) (fC (.int 1)))))
def ce__law_is_set_0 : Rho → R AV :=
  (f2 inD (fVar 3) (fVar 1))
def w__law_is_set : Rho → R Fl :=
  (fSeq (fIfS (fOr (fTest (f2 eqD (fVar 0) (fC (.str "")))) (fNot (fTest (fCB allD (fCons (fL (fLc (fItS (fVar 0)) (put 3) (fun ρ => .ok true ρ) ce__law_is_set_0 [3])) fNil))))) (fRet (fC (.bool false))) fNx)
  (fRet (fCB allD (fCons (fL (fLc (fRng1 (fCons (f2 subD (fCB lenD (fCons (fVar 0) fNil)) (fC (.int 1))) fNil)) (put 2) (fun ρ => .ok true ρ) ce__law_is_set_1 [2])) fNil))))
def m__law_is_set : Rho → R RV := gOf 4 w__law_is_set
/-! ### _law_pattern_of -/
abbrev st__law_pattern_of : Stmt := topS 42
abbrev N__law_pattern_of : List Str := ["_law_text", "_law_signs_here", "_law_words", "_law_times", "_law_sizes", "_law_among", "_law_word"]
theorem sc__law_pattern_of : FnScope N__law_pattern_of ["_law_text", "_law_signs_here"] (defScope st__law_pattern_of) := ⟨rfl, rfl, rfl, by decide +kernel, rfl, by decide +kernel, by decide +kernel⟩
def ce__law_pattern_of_0 : Rho → R AV :=
  (fCall 2 m__law_is_set (fCons (fVar 6) (fCons (fVar 5) fNil)))
def w__law_pattern_of : Rho → R Fl :=
  (fSeq (fSetO (fSplitL (fVar 0) (fC (.str " "))) 2)
  (fSeq (fAsg (fC (.int 1)) (put 3))
  (fSeq (fIfS (fTest (f2 inD (f2 ixD (fOwn 2) (f1 negD (fC (.int 1)))) (fL (fLst (fCons (fC (.str "*2")) (fCons (fC (.str "*3")) fNil)))))) (fAsg (fCB intSD (fCons (fSl slD (fPop 2) (fPart (fC (.int 1))) fNoPart) fNil)) (put 3)) fNx)
  (fSeq (fAsg (fC (.dict (dcD [("sign", 2), ("drop", 2), ("add", 2), ("change", 3), ("beside", 3)]))) (put 4))
  (fSeq (fIfS (fOr (fTest (f2 eqD (fOwn 2) (fL (fLst fNil)))) (fTest (f2 neD (fCB lenD (fCons (fOwn 2) fNil)) (fDGet2 (fVar 4) (f2 ixD (fOwn 2) (fC (.int 0))) (fC (.int 0)))))) (fRet (fC .none)) fNx)
  (fSeq (fAsg (f2 addD (f2 ixD (fL (fLst (fCons (fC (.str "")) (fCons (fC (.str "#")) fNil)))) (fCB intOfD (fCons (f2 eqD (f2 ixD (fOwn 2) (fC (.int 0))) (fC (.str "beside"))) fNil))) (fVar 1)) (put 5))
  (fSeq (fIfS (fNot (fTest (fCB allD (fCons (fL (fLc (fItL (fSl slD (fOwn 2) (fPart (fC (.int 1))) fNoPart)) (put 6) (fun ρ => .ok true ρ) ce__law_pattern_of_0 [6])) fNil)))) (fRet (fC .none)) fNx)
  (fRet (fTup (fCons (fCB tupleA (fCons (fOwn 2) fNil)) (fCons (fVar 3) fNil)))))))))))
def m__law_pattern_of : Rho → R RV := gOf 7 w__law_pattern_of
/-! ### _law_wish_of -/
abbrev st__law_wish_of : Stmt := topS 43
abbrev N__law_wish_of : List Str := ["_law_row", "_law_signs_here", "_law_at", "_law_patterns", "_law_part", "_law_sign"]
theorem sc__law_wish_of : FnScope N__law_wish_of ["_law_row", "_law_signs_here"] (defScope st__law_wish_of) := ⟨rfl, rfl, rfl, by decide +kernel, rfl, by decide +kernel, by decide +kernel⟩
def ce__law_wish_of_1 : Rho → R AV :=
  (fCall 2 m__law_pattern_of (fCons (fVar 4) (fCons (fVar 1) fNil)))
def ce__law_wish_of_0 : Rho → R AV :=
  (f2 inD (fVar 5) (fC (.str "abcdefghijklmnopqrstuvwxyz")))
def w__law_wish_of : Rho → R Fl :=
  (fSeq (fAsg (fM1 findD (fVar 0) (fC (.str ": "))) (put 2))
  (fSeq (fIfS (fOr (fNot (fTest (fChain leD leD (fC (.int 1)) (fVar 2) (fC (.int 8))))) (fNot (fTest (fCB allD (fCons (fL (fLc (fItS (fSl slD (fVar 0) fNoPart (fPart (fVar 2)))) (put 5) (fun ρ => .ok true ρ) ce__law_wish_of_0 [5])) fNil))))) (fRet (fC .none)) fNx)
  (fSeq (fAsg (fL (fLc (fItL (fM1 splitD (fSl slD (fVar 0) (fPart (f2 addD (fVar 2) (fC (.int 2)))) fNoPart) (fC (.str ", ")))) (put 4) (fun ρ => .ok true ρ) ce__law_wish_of_1 [4])) (put 3))
  (fSeq (fIfS (fOr (fTest (f2 inD (fC .none) (fVar 3))) (fTest (f2 gtD (fCB lenD (fCons (fVar 3) fNil)) (fC (.int 3))))) (fRet (fC .none)) fNx)
  (fRet (fTup (fCons (fSl slD (fVar 0) fNoPart (fPart (fVar 2))) (fCons (fCB tupleA (fCons (fVar 3) fNil)) fNil))))))))
def m__law_wish_of : Rho → R RV := gOf 6 w__law_wish_of
/-! ### _law_reading -/
abbrev st__law_reading : Stmt := topS 44
abbrev N__law_reading : List Str := ["_law_text", "_law_rows_here", "_law_signs_here", "_law_wishes", "_law_number", "_law_wish", "_law_one"]
theorem sc__law_reading : FnScope N__law_reading ["_law_text"] (defScope st__law_reading) := ⟨rfl, rfl, rfl, by decide +kernel, rfl, by decide +kernel, by decide +kernel⟩
def ce__law_reading_1 : Rho → R AV :=
  (f2 ixD (fVar 6) (fC (.int 0)))
def fb__law_reading_0 : Rho → R Fl :=
  (fSeq (fAsg (fCall 2 m__law_wish_of (fCons (f2 ixD (fVar 1) (fVar 4)) (fCons (fVar 2) fNil))) (put 5))
  (fSeq (fIfS (fOr (fTest (f2 isNoneD (fVar 5) (fC .none))) (fOr (fTest (f2 eqD (fCB lenD (fCons (fOwn 3) fNil)) (fC (.int 5)))) (fTest (f2 inD (f2 ixD (fVar 5) (fC (.int 0))) (fL (fLcO 3 (put 6) (fun ρ => .ok true ρ) ce__law_reading_1 [6])))))) (fRet (fTup (fCons (fC (.str "none")) (fCons (fVar 4) fNil)))) fNx)
  (fApp 3 (fVar 5))))
def w__law_reading : Rho → R Fl :=
  (fSeq (fAsg (fM1 splitD (fVar 0) (fC (.str "\n"))) (put 1))
  (fSeq (fAsg (fSl slD (f2 ixD (fVar 1) (fC (.int 0))) (fPart (fC (.int 6))) fNoPart) (put 2))
  (fSeq (fIfS (fOr (fTest (f2 neD (fSl slD (f2 ixD (fVar 1) (fC (.int 0))) fNoPart (fPart (fC (.int 6)))) (fC (.str "signs ")))) (fOr (fTest (f2 gtD (fCB lenD (fCons (fVar 2) fNil)) (fC (.int 3)))) (fNot (fTest (fCall 2 m__law_is_set (fCons (fVar 2) (fCons (fC (.str "abcdefghijklmnopqrstuvwxyz")) fNil))))))) (fRet (fTup (fCons (fC (.str "none")) (fCons (fC (.int 0)) fNil)))) fNx)
  (fSeq (fSetO (fLst fNil) 3)
  (fSeq (fFor (fRng2 (fCons (fC (.int 1)) (fCons (fCB lenD (fCons (fVar 1) fNil)) fNil))) (put 4) fb__law_reading_0)
  (fSeq (fIfS (fTest (f2 eqD (fOwn 3) (fL (fLst fNil)))) (fRet (fTup (fCons (fC (.str "none")) (fCons (fC (.int 1)) fNil)))) fNx)
  (fRet (fTup (fCons (fC (.str "read")) (fCons (fTup (fCons (fVar 2) (fCons (fCB tupleA (fCons (fOwn 3) fNil)) fNil))) fNil))))))))))
def m__law_reading : Rho → R RV := gOf 7 w__law_reading
/-! ### _law_told -/
abbrev st__law_told : Stmt := topS 45
abbrev N__law_told : List Str := ["_law_text", "_law_found", "e"]
theorem sc__law_told : FnScope N__law_told ["_law_text"] (defScope st__law_told) := ⟨rfl, rfl, rfl, by decide +kernel, rfl, by decide +kernel, by decide +kernel⟩
def ft__law_told : Rho → R Fl :=
  (fAsg (fTup (fCons (fC (.str "read")) (fCons (fCall 1 m_read_code (fCons (fVar 0) fNil)) fNil))) (put 1))
def fh__law_told : Rho → R Fl :=
  (fSeq (fAsg (fTup (fCons (fC (.str "none")) (fCons (fXf (fun n => decide (n = "NoText")) 2 "part") fNil))) (put 1))
  (fIfS (fTest (f1 (isiD "bool") (fXf (fun n => decide (n = "NoText")) 2 "part"))) (fAsg (fC .none) (put 1)) fNx))
def w__law_told : Rho → R Fl :=
  (fSeq (fAsg (fC .none) (put 1))
  (fSeq (fTryH (sb "NoText") ft__law_told 2 fh__law_told)
  (fRet (fVar 1))))
def m__law_told : Rho → R RV := gOf 3 w__law_told
/-! ### law -/
abbrev st_law : Stmt := topS 46
abbrev N_law : List Str := ["_law_script", "_law_cell", "_law_pool_here", "_law_text", "_law_turn", "_law_some", "_law_step", "_law_due"]
theorem sc_law : FnScope N_law ["_law_script"] (defScope st_law) := ⟨rfl, rfl, rfl, by decide +kernel, rfl, by decide +kernel, by decide +kernel⟩
def fb_law_2 : Rho → R Fl :=
  (fAsg (fCallP 1 2 m__law_bent (fCons (fVar 5) fNil)) (put 5))
def fb_law_1 : Rho → R Fl :=
  (fSeq (fAsg (fVar 3) (put 5))
  (fSeq (fFor (fRng1 (fCons (f2 addD (fC (.int 1)) (fCallP 1 2 m__law_draw (fCons (fC (.int 2)) fNil))) fNil)) (put 6) fb_law_2)
  (fSeq (fAsg (fCall 1 m__law_reading (fCons (fVar 5) fNil)) (put 7))
  (fIfS (fOr (fTest (f2 neD (fCall 1 m__law_told (fCons (fVar 5) fNil)) (fVar 7))) (fAnd (fTest (f2 eqD (f2 ixD (fVar 7) (fC (.int 0))) (fC (.str "read")))) (fTest (f2 neD (fCall 1 m_show_code (fCons (f2 ixD (fVar 7) (fC (.int 1))) fNil)) (fVar 5))))) (fRet (fC (.bool false))) fNx))))
def fb_law_0 : Rho → R Fl :=
  (fSeq (fSetO (fCallL 1 m__law_pool (fCons (fVar 1) fNil)) 2)
  (fSeq (fAsg (fM1 joinD (fC (.str "\n")) (fCall 1 m__law_rows (fCons (fCallP 1 2 m__law_code (fCons (fC (.int 3)) fNil)) fNil))) (put 3))
  (fFor (fRng1 (fCons (fC (.int 6)) fNil)) (put 4) fb_law_1)))
def w_law : Rho → R Fl :=
  (fSeq (fFor (fItL (f2 addD (fL (fLst (fCons (fC (.int 0)) fNil))) (fSl slD (fVar 0) fNoPart (fPart (fC (.int 12)))))) (put 1) fb_law_0)
  (fRet (fC (.bool true))))
def m_law : Rho → R RV := gOf 8 w_law
end Lw
namespace Lw
open PySem PySem.Spec L2 Evl Dt PyProof.Rows
structure TX (K : PySem.W.Frag) (mg : Str → Option Value) (w : World) where
  f_is_whole : FnI K mg "is_whole" st_is_whole
  f_is_name : FnI K mg "is_name" st_is_name
  f_is_rising : FnI K mg "is_rising" st_is_rising
  f_is_text_of : FnI K mg "is_text_of" st_is_text_of
  f_are_signs : FnI K mg "are_signs" st_are_signs
  f_is_set : FnI K mg "is_set" st_is_set
  f_is_pattern : FnI K mg "is_pattern" st_is_pattern
  f_is_counted : FnI K mg "is_counted" st_is_counted
  f_is_wish : FnI K mg "is_wish" st_is_wish
  f_are_wishes : FnI K mg "are_wishes" st_are_wishes
  f_show_pattern : FnI K mg "show_pattern" st_show_pattern
  f_show_wish : FnI K mg "show_wish" st_show_wish
  f_show_code : FnI K mg "show_code" st_show_code
  f_pattern_in : FnI K mg "pattern_in" st_pattern_in
  f_wish_in : FnI K mg "wish_in" st_wish_in
  f_read_code : FnI K mg "read_code" st_read_code
  f__law_pool : FnI K mg "_law_pool" st__law_pool
  f__law_draw : FnI K mg "_law_draw" st__law_draw
  f__law_name : FnI K mg "_law_name" st__law_name
  f__law_signs : FnI K mg "_law_signs" st__law_signs
  f__law_set : FnI K mg "_law_set" st__law_set
  f__law_pattern : FnI K mg "_law_pattern" st__law_pattern
  f__law_code : FnI K mg "_law_code" st__law_code
  f__law_rows : FnI K mg "_law_rows" st__law_rows
  f__law_bent : FnI K mg "_law_bent" st__law_bent
  f__law_is_set : FnI K mg "_law_is_set" st__law_is_set
  f__law_pattern_of : FnI K mg "_law_pattern_of" st__law_pattern_of
  f__law_wish_of : FnI K mg "_law_wish_of" st__law_wish_of
  f__law_reading : FnI K mg "_law_reading" st__law_reading
  f__law_told : FnI K mg "_law_told" st__law_told
  f_law : FnI K mg "law" st_law
  m_abs : mg "abs" = none
  m_all : mg "all" = none
  m_bool : mg "bool" = none
  m_int : mg "int" = none
  m_isinstance : mg "isinstance" = none
  m_len : mg "len" = none
  m_range : mg "range" = none
  m_set : mg "set" = none
  m_sorted : mg "sorted" = none
  m_str : mg "str" = none
  m_tuple : mg "tuple" = none
  y_LadderError : mg "LadderError" = some (.ref (cA K "LadderError"))
  y_NoText : mg "NoText" = some (.ref (cA K "NoText"))
  c_EDGE : ∃ t, mg "EDGE" = some (.str "#" t)
  c_MOST_LETTERS : ∃ t, mg "MOST_LETTERS" = some (.int 8 t)
  c_MOST_PATTERNS : ∃ t, mg "MOST_PATTERNS" = some (.int 3 t)
  c_MOST_SIGNS : ∃ t, mg "MOST_SIGNS" = some (.int 3 t)
  c_MOST_TIMES : ∃ t, mg "MOST_TIMES" = some (.int 3 t)
  c_MOST_WISHES : ∃ t, mg "MOST_WISHES" = some (.int 5 t)
  c_SMALL : ∃ t, mg "SMALL" = some (.str "abcdefghijklmnopqrstuvwxyz" t)
  t_SETS : TabI K mg w "SETS" tab_SETS
  t_TIMES : TabI K mg w "TIMES" tab_TIMES
  i_NoText : InI K mg "NoText" "LadderError" "part" "NoText.__init__" st_NoText
  x_is : ∀ c, (decide (c ∈ testedC)) = true → ∀ n b, sb c n = some b → XcC K (cA K n) ∧ PySem.W.kitOne K (.ref (cA K n)) (.ref (cA K c)) = some b
  x_ex : ∀ c, (decide (c ∈ caughtC)) = true → ∀ n b, sb c n = some b → PySem.W.exmOne K (.ref (cA K n)) (.ref (cA K c)) = some b
section
variable {P : Program} {w : World} {K : PySem.W.Frag} {C : Str → Addr} {mg : Str → Option Value} {base : Heap}
theorem bi_NoText (T : TX K mg w) : Binds K T.i_NoText.fd ["self", "part"] [] := T.i_NoText.F.bindsN fun _ _ _ _ _ _ us hl => match us, hl with | [_, _], _ => rfl
theorem oki_NoText (T : TX K mg w) : FnOk P w K mg base (L2.CX P w) 1 (He.ma K (cA K "NoText") "__init__") T.i_NoText.fd ["self", "part"] (spI (cA K "NoText") "part") :=
  init_ok T.i_NoText.F sc_NoText rfl T.i_NoText.E.o T.i_NoText.no fun cdv A outer s H E => pss_cons (ps_expr (pe_leinit (by rfl) T.y_LadderError T.i_NoText.B (pa_cons (pv 0) (pa_cons pe_str pa_nil)))) (pss_one (ps_ost (pv 0) (pv 1)))
theorem b_is_whole (T : TX K mg w) : Binds K T.f_is_whole.fd ["thing"] [] := T.f_is_whole.F.bindsN fun _ _ _ _ _ _ us hl => match us, hl with | [_], _ => rfl
set_option maxHeartbeats 4000000 in
theorem ok_is_whole (T : TX K mg w) : FnOk P w K mg base (L2.CX P w) 1 T.f_is_whole.f T.f_is_whole.fd ["thing"] (spF ⟨K, C⟩ 1 m_is_whole) := by
  refine fn_ok T.f_is_whole.F sc_is_whole (fun cdv A outer s H E hr tk po => ⟨_, (pss_one (ps_ret (pe_and (pe_callB (kIsi K) (by rfl) T.m_isinstance boot_isinstance (pa_cons (pv 0) (pa_cons (pe_bltn (v := .ty "int") (by rfl) T.m_int boot_int rfl) pa_nil))) (pe_one (pe_not (pe_callB (kIsi K) (by rfl) T.m_isinstance boot_isinstance (pa_cons (pv 0) (pa_cons (pe_bltn (v := .ty "bool") (by rfl) T.m_bool boot_bool rfl) pa_nil)))))))), ?_⟩)
  exact (s_ret (d_and (d_isi (d_var 0)) (d_not (d_isi (d_var 0)))))
theorem b_is_name (T : TX K mg w) : Binds K T.f_is_name.fd ["thing"] [] := T.f_is_name.F.bindsN fun _ _ _ _ _ _ us hl => match us, hl with | [_], _ => rfl
set_option maxHeartbeats 4000000 in
theorem ok_is_name (T : TX K mg w) : FnOk P w K mg base (L2.CX P w) 1 T.f_is_name.f T.f_is_name.fd ["thing"] (spF ⟨K, C⟩ 1 m_is_name) := by
  obtain ⟨t_MOST_LETTERS, c_MOST_LETTERS⟩ := T.c_MOST_LETTERS
  obtain ⟨t_SMALL, c_SMALL⟩ := T.c_SMALL
  refine fn_ok T.f_is_name.F sc_is_name (fun cdv A outer s H E hr tk po => ⟨_, (pss_cons (ps_if ((pw_or (pt_not (pt_val (pe_callB (kIsi K) (by rfl) T.m_isinstance boot_isinstance (pa_cons (pv 0) (pa_cons (pe_bltn (v := .ty "str") (by rfl) T.m_str boot_str rfl) pa_nil))))) (pw_or1 (pt_not (pt_chain op_le op_le pe_int (pe_callB (kLen K) (by rfl) T.m_len PySem.boot_len (pa_cons (pv 0) pa_nil)) (pe_glob (v := .int 8) (by rfl) c_MOST_LETTERS ⟨_, rfl⟩)))))).pt (pss_one (ps_ret pe_bl)) pss_nil)
      (pss_one (ps_ret (pe_callB (kAll K (hc := rfl)) (by rfl) T.m_all bt_all (pa_cons (pe_lc (own := [("sign", 1)]) rfl sc_is_name.nd (pi_str (pv 0)) (blkOk_by (own := [("sign", 1)]) (N := N_is_name) (sc := defScope st_is_name) (by decide +kernel)) (fun _ _ _ _ _ => (pg_name (i := 1) sc_is_name.nd rfl (by first | exact Or.inl rfl | exact Or.inr rfl))) (fun _ _ _ _ _ => pts_nil) (fun _ _ _ _ _ => (pe_cmpR (kIn K (hu := u65 hr)) (pv 1) (pe_glob (v := .str "abcdefghijklmnopqrstuvwxyz") (by rfl) c_SMALL ⟨_, rfl⟩) (by rfl)))) pa_nil))))), ?_⟩)
  exact (s_seq (s_if (dt_or (dt_not (dt_tB (d_isi (d_var 0)))) (dt_not (dt_test (d_chain ro_le ro_le (d_int 1) (d_cb rc_len (d_cons (d_var 0) d_nil)) (d_int 8))))) (s_ret (d_bl false)) s_nx)
      (s_ret (d_cb rc_all (d_cons (d_ofL (l_lc (i_str (d_var 0)) (g_name 1) (by decide) dt_yes (d_op ro_in (d_var 1) (d_str _)))) d_nil))))
theorem b_is_rising (T : TX K mg w) : Binds K T.f_is_rising.fd ["things"] [] := T.f_is_rising.F.bindsN fun _ _ _ _ _ _ us hl => match us, hl with | [_], _ => rfl
set_option maxHeartbeats 4000000 in
theorem ok_is_rising (T : TX K mg w) : FnOk P w K mg base (L2.CX P w) 1 T.f_is_rising.f T.f_is_rising.fd ["things"] (spF ⟨K, C⟩ 1 m_is_rising) := by
  refine fn_ok T.f_is_rising.F sc_is_rising (fun cdv A outer s H E hr tk po => ⟨_, (pss_one (ps_ret (pe_callB (kAll K (hc := rfl)) (by rfl) T.m_all bt_all (pa_cons (pe_lc (own := [("k", 1)]) rfl sc_is_rising.nd (pi_range1 (by rfl) T.m_range (pa_cons (pe_op op_sub (pe_callB (kLen K) (by rfl) T.m_len PySem.boot_len (pa_cons (pv 0) pa_nil)) pe_int) pa_nil)) (blkOk_by (own := [("k", 1)]) (N := N_is_rising) (sc := defScope st_is_rising) (by decide +kernel)) (fun _ _ _ _ _ => (pg_name (i := 1) sc_is_rising.nd rfl (by first | exact Or.inl rfl | exact Or.inr rfl))) (fun _ _ _ _ _ => pts_nil) (fun _ _ _ _ _ => (pe_cmpR opLt (pe_ix (kIx K) (pv 0) (pv 1) (fun _ _ => rfl)) (pe_ix (kIx K) (pv 0) (pe_op (kAdd K) (pv 1) pe_int) (fun _ _ => rfl)) (nomark _)))) pa_nil)))), ?_⟩)
  exact (s_ret (d_cb rc_all (d_cons (d_ofL (l_lc (i_rng1 (d_cons (d_op ro_sub (d_cb rc_len (d_cons (d_var 0) d_nil)) (d_int 1)) d_nil)) (g_name 1) (by decide) dt_yes (d_op ro_lt (d_op ro_ix (d_var 0) (d_var 1)) (d_op ro_ix (d_var 0) (d_op ro_add (d_var 1) (d_int 1)))))) d_nil)))
theorem b_is_text_of (T : TX K mg w) : Binds K T.f_is_text_of.fd ["thing", "signs"] [] := T.f_is_text_of.F.bindsN fun _ _ _ _ _ _ us hl => match us, hl with | [_, _], _ => rfl
set_option maxHeartbeats 4000000 in
theorem ok_is_text_of (T : TX K mg w) : FnOk P w K mg base (L2.CX P w) 1 T.f_is_text_of.f T.f_is_text_of.fd ["thing", "signs"] (spF ⟨K, C⟩ 2 m_is_text_of) := by
  refine fn_ok T.f_is_text_of.F sc_is_text_of (fun cdv A outer s H E hr tk po => ⟨_, (pss_one (ps_ret (pe_and (pe_callB (kIsi K) (by rfl) T.m_isinstance boot_isinstance (pa_cons (pv 0) (pa_cons (pe_bltn (v := .ty "str") (by rfl) T.m_str boot_str rfl) pa_nil))) (pe_one (pe_callB (kAll K (hc := rfl)) (by rfl) T.m_all bt_all (pa_cons (pe_lc (own := [("sign", 2)]) rfl sc_is_text_of.nd (pi_str (pv 0)) (blkOk_by (own := [("sign", 2)]) (N := N_is_text_of) (sc := defScope st_is_text_of) (by decide +kernel)) (fun _ _ _ _ _ => (pg_name (i := 2) sc_is_text_of.nd rfl (by first | exact Or.inl rfl | exact Or.inr rfl))) (fun _ _ _ _ _ => pts_nil) (fun _ _ _ _ _ => (pe_cmpR (kIn K (hu := u65 hr)) (pv 2) (pv 1) (by rfl)))) pa_nil)))))), ?_⟩)
  exact (s_ret (d_and (d_isi (d_var 0)) (d_cb rc_all (d_cons (d_ofL (l_lc (i_str (d_var 0)) (g_name 2) (by decide) dt_yes (d_op ro_in (d_var 2) (d_var 1)))) d_nil))))
theorem b_are_signs (T : TX K mg w) : Binds K T.f_are_signs.fd ["thing"] [] := T.f_are_signs.F.bindsN fun _ _ _ _ _ _ us hl => match us, hl with | [_], _ => rfl
set_option maxHeartbeats 4000000 in
theorem ok_are_signs (T : TX K mg w) : FnOk P w K mg base (L2.CX P w) 2 T.f_are_signs.f T.f_are_signs.fd ["thing"] (spF ⟨K, C⟩ 1 m_are_signs) := by
  obtain ⟨t_MOST_SIGNS, c_MOST_SIGNS⟩ := T.c_MOST_SIGNS
  obtain ⟨t_SMALL, c_SMALL⟩ := T.c_SMALL
  refine fn_ok T.f_are_signs.F sc_are_signs (fun cdv A outer s H E hr tk po => ⟨_, (pss_one (ps_ret (pe_and (pe_callS (ok_is_text_of (C := C) T) (hr.mono (by decide)) (by rfl) T.f_is_text_of.g T.f_is_text_of.F.kp (b_is_text_of T) (fun σ => passAt tk σ) (pa_cons (pv 0) (pa_cons (pe_glob (v := .str "abcdefghijklmnopqrstuvwxyz") (by rfl) c_SMALL ⟨_, rfl⟩) pa_nil))) (pe_and (pe_chain op_le op_le pe_int (pe_callB (kLen K) (by rfl) T.m_len PySem.boot_len (pa_cons (pv 0) pa_nil)) (pe_glob (v := .int 3) (by rfl) c_MOST_SIGNS ⟨_, rfl⟩)) (pe_one (pe_callS (ok_is_rising (C := C) T) (hr.mono (by decide)) (by rfl) T.f_is_rising.g T.f_is_rising.F.kp (b_is_rising T) (fun σ => passAt tk σ) (pa_cons (pv 0) pa_nil))))))), ?_⟩)
  exact (s_ret (d_and (d_call (d_cons (d_var 0) (d_cons (d_str _) d_nil))) (d_and (d_chain ro_le ro_le (d_int 1) (d_cb rc_len (d_cons (d_var 0) d_nil)) (d_int 3)) (d_call (d_cons (d_var 0) d_nil)))))
theorem b_is_set (T : TX K mg w) : Binds K T.f_is_set.fd ["signs", "thing"] [] := T.f_is_set.F.bindsN fun _ _ _ _ _ _ us hl => match us, hl with | [_, _], _ => rfl
set_option maxHeartbeats 4000000 in
theorem ok_is_set (T : TX K mg w) : FnOk P w K mg base (L2.CX P w) 2 T.f_is_set.f T.f_is_set.fd ["signs", "thing"] (spF ⟨K, C⟩ 2 m_is_set) := by
  refine fn_ok T.f_is_set.F sc_is_set (fun cdv A outer s H E hr tk po => ⟨_, (pss_one (ps_ret (pe_and (pe_callS (ok_is_text_of (C := C) T) (hr.mono (by decide)) (by rfl) T.f_is_text_of.g T.f_is_text_of.F.kp (b_is_text_of T) (fun σ => passAt tk σ) (pa_cons (pv 1) (pa_cons (pv 0) pa_nil))) (pe_and (pe_cmpR (kNe K (hu := hr.units)) (pv 1) pe_str (nomark _)) (pe_one (pe_callS (ok_is_rising (C := C) T) (hr.mono (by decide)) (by rfl) T.f_is_rising.g T.f_is_rising.F.kp (b_is_rising T) (fun σ => passAt tk σ) (pa_cons (pv 1) pa_nil))))))), ?_⟩)
  exact (s_ret (d_and (d_call (d_cons (d_var 1) (d_cons (d_var 0) d_nil))) (d_and (d_op ro_ne (d_var 1) (d_str _)) (d_call (d_cons (d_var 1) d_nil)))))
theorem b_is_pattern (T : TX K mg w) : Binds K T.f_is_pattern.fd ["signs", "thing"] [] := T.f_is_pattern.F.bindsN fun _ _ _ _ _ _ us hl => match us, hl with | [_, _], _ => rfl
set_option maxHeartbeats 4000000 in
theorem ok_is_pattern (T : TX K mg w) : FnOk P w K mg base (L2.CX P w) 3 T.f_is_pattern.f T.f_is_pattern.fd ["signs", "thing"] (spF ⟨K, C⟩ 2 m_is_pattern) := by
  obtain ⟨t_EDGE, c_EDGE⟩ := T.c_EDGE
  refine fn_ok T.f_is_pattern.F sc_is_pattern (fun cdv A outer s H E hr tk po => ⟨_, (pss_cons (ps_if ((pw_or (pt_not (pt_val (pe_callB (kIsi K) (by rfl) T.m_isinstance boot_isinstance (pa_cons (pv 1) (pa_cons (pe_bltn (v := .ty "tuple") (by rfl) T.m_tuple boot_tuple rfl) pa_nil))))) (pw_or (pt_cmpR (kEq K (hu := hr.units)) (pv 1) (pe_tup pa_nil) (nomark _)) (pw_or (pt_not (pt_val (pe_callB (kIsi K) (by rfl) T.m_isinstance boot_isinstance (pa_cons (pe_ix (kIx K) (pv 1) pe_int (fun _ _ => rfl)) (pa_cons (pe_bltn (v := .ty "str") (by rfl) T.m_str boot_str rfl) pa_nil))))) (pw_or1 (pt_cmpR (kNotInT T.t_SETS.t) (pe_ix (kIx K) (pv 1) pe_int (fun _ _ => rfl)) (pe_glob (v := .ref T.t_SETS.a) (by rfl) T.t_SETS.g rfl) (by rfl))))))).pt (pss_one (ps_ret pe_bl)) pss_nil)
      (pss_cons (ps_set (i := 2) sc_is_pattern.nd rfl (Or.inr rfl) (pv 0))
      (pss_cons (ps_if (pt_cmpR (kEq K (hu := hr.units)) (pe_ix (kIx K) (pv 1) pe_int (fun _ _ => rfl)) pe_str (nomark _)) (pss_one (ps_set (i := 2) sc_is_pattern.nd rfl (Or.inr rfl) (pe_op (kAdd K) (pe_glob (v := .str "#") (by rfl) c_EDGE ⟨_, rfl⟩) (pv 0)))) pss_nil)
      (pss_one (ps_ret (pe_and (pe_cmpR (kEq K (hu := hr.units)) (pe_callB (kLen K) (by rfl) T.m_len PySem.boot_len (pa_cons (pv 1) pa_nil)) (pe_op (kAdd K) (pe_ix (kIxT K w) (pe_glob (v := .ref T.t_SETS.a) (by rfl) T.t_SETS.g rfl) (pe_ix (kIx K) (pv 1) pe_int (fun _ _ => rfl)) (fun _ _ => rfl)) pe_int) (nomark _)) (pe_one (pe_callB (kAll K (hc := rfl)) (by rfl) T.m_all bt_all (pa_cons (pe_lc (own := [("part", 3)]) rfl sc_is_pattern.nd (kPiTup K (pe_slice (kSl K) (pv 1) (po_some pe_int) po_none)) (blkOk_by (own := [("part", 3)]) (N := N_is_pattern) (sc := defScope st_is_pattern) (by decide +kernel)) (fun _ _ _ _ _ => (pg_name (i := 3) sc_is_pattern.nd rfl (by first | exact Or.inl rfl | exact Or.inr rfl))) (fun _ _ _ _ _ => pts_nil) (fun _ _ _ _ _ => (pe_callS (ok_is_set (C := C) T) (hr.mono (by decide)) (by rfl) T.f_is_set.g T.f_is_set.F.kp (b_is_set T) (fun σ => passAt takes0 σ) (pa_cons (pv 2) (pa_cons (pv 3) pa_nil))))) pa_nil))))))))), ?_⟩)
  exact (s_seq (s_if (dt_or (dt_not (dt_tB (d_isi (d_var 1)))) (dt_or (dt_test (d_op ro_eq (d_var 1) (d_tup d_nil))) (dt_or (dt_not (dt_tB (d_isi (d_op ro_ix (d_var 1) (d_int 0))))) (dt_test (d_inT T.t_SETS.t (d_op ro_ix (d_var 1) (d_int 0))))))) (s_ret (d_bl false)) s_nx)
      (s_seq (s_asg (d_var 0) (g_name 2))
      (s_seq (s_if (dt_test (d_op ro_eq (d_op ro_ix (d_var 1) (d_int 0)) (d_str _))) (s_asg (d_op ro_add (d_str _) (d_var 0)) (g_name 2)) s_nx)
      (s_ret (d_and (d_op ro_eq (d_cb rc_len (d_cons (d_var 1) d_nil)) (d_op ro_add (d_getT T.t_SETS.t (d_op ro_ix (d_var 1) (d_int 0))) (d_int 1))) (d_cb rc_all (d_cons (d_ofL (l_lc (i_tup (d_sl rs_sl (d_var 1) (do_some (d_int 1)) do_none)) (g_name 3) (by decide) dt_yes (d_call (d_cons (d_var 2) (d_cons (d_var 3) d_nil))))) d_nil)))))))
theorem b_is_counted (T : TX K mg w) : Binds K T.f_is_counted.fd ["signs", "thing"] [] := T.f_is_counted.F.bindsN fun _ _ _ _ _ _ us hl => match us, hl with | [_, _], _ => rfl
set_option maxHeartbeats 4000000 in
theorem ok_is_counted (T : TX K mg w) : FnOk P w K mg base (L2.CX P w) 4 T.f_is_counted.f T.f_is_counted.fd ["signs", "thing"] (spF ⟨K, C⟩ 2 m_is_counted) := by
  obtain ⟨t_MOST_TIMES, c_MOST_TIMES⟩ := T.c_MOST_TIMES
  refine fn_ok T.f_is_counted.F sc_is_counted (fun cdv A outer s H E hr tk po => ⟨_, (pss_cons (ps_if ((pw_or (pt_not (pt_val (pe_callB (kIsi K) (by rfl) T.m_isinstance boot_isinstance (pa_cons (pv 1) (pa_cons (pe_bltn (v := .ty "tuple") (by rfl) T.m_tuple boot_tuple rfl) pa_nil))))) (pw_or (pt_cmpR (kNe K (hu := hr.units)) (pe_callB (kLen K) (by rfl) T.m_len PySem.boot_len (pa_cons (pv 1) pa_nil)) pe_int (nomark _)) (pw_or1 (pt_not (pt_val (pe_callS (ok_is_pattern (C := C) T) (hr.mono (by decide)) (by rfl) T.f_is_pattern.g T.f_is_pattern.F.kp (b_is_pattern T) (fun σ => passAt tk σ) (pa_cons (pv 0) (pa_cons (pe_ix (kIx K) (pv 1) pe_int (fun _ _ => rfl)) pa_nil))))))))).pt (pss_one (ps_ret pe_bl)) pss_nil)
      (pss_one (ps_ret (pe_and (pe_callS (ok_is_whole (C := C) T) (hr.mono (by decide)) (by rfl) T.f_is_whole.g T.f_is_whole.F.kp (b_is_whole T) (fun σ => passAt tk σ) (pa_cons (pe_ix (kIx K) (pv 1) pe_int (fun _ _ => rfl)) pa_nil)) (pe_one (pe_chain op_le op_le pe_int (pe_ix (kIx K) (pv 1) pe_int (fun _ _ => rfl)) (pe_glob (v := .int 3) (by rfl) c_MOST_TIMES ⟨_, rfl⟩))))))), ?_⟩)
  exact (s_seq (s_if (dt_or (dt_not (dt_tB (d_isi (d_var 1)))) (dt_or (dt_test (d_op ro_ne (d_cb rc_len (d_cons (d_var 1) d_nil)) (d_int 2))) (dt_not (dt_tB (d_call (d_cons (d_var 0) (d_cons (d_op ro_ix (d_var 1) (d_int 0)) d_nil))))))) (s_ret (d_bl false)) s_nx)
      (s_ret (d_and (d_call (d_cons (d_op ro_ix (d_var 1) (d_int 1)) d_nil)) (d_chain ro_le ro_le (d_int 1) (d_op ro_ix (d_var 1) (d_int 1)) (d_int 3)))))
theorem b_is_wish (T : TX K mg w) : Binds K T.f_is_wish.fd ["signs", "thing"] [] := T.f_is_wish.F.bindsN fun _ _ _ _ _ _ us hl => match us, hl with | [_, _], _ => rfl
set_option maxHeartbeats 4000000 in
theorem ok_is_wish (T : TX K mg w) : FnOk P w K mg base (L2.CX P w) 5 T.f_is_wish.f T.f_is_wish.fd ["signs", "thing"] (spF ⟨K, C⟩ 2 m_is_wish) := by
  obtain ⟨t_MOST_PATTERNS, c_MOST_PATTERNS⟩ := T.c_MOST_PATTERNS
  refine fn_ok T.f_is_wish.F sc_is_wish (fun cdv A outer s H E hr tk po => ⟨_, (pss_cons (ps_if ((pw_or (pt_not (pt_val (pe_callB (kIsi K) (by rfl) T.m_isinstance boot_isinstance (pa_cons (pv 1) (pa_cons (pe_bltn (v := .ty "tuple") (by rfl) T.m_tuple boot_tuple rfl) pa_nil))))) (pw_or (pt_cmpR (kNe K (hu := hr.units)) (pe_callB (kLen K) (by rfl) T.m_len PySem.boot_len (pa_cons (pv 1) pa_nil)) pe_int (nomark _)) (pw_or1 (pt_not (pt_val (pe_callS (ok_is_name (C := C) T) (hr.mono (by decide)) (by rfl) T.f_is_name.g T.f_is_name.F.kp (b_is_name T) (fun σ => passAt tk σ) (pa_cons (pe_ix (kIx K) (pv 1) pe_int (fun _ _ => rfl)) pa_nil)))))))).pt (pss_one (ps_ret pe_bl)) pss_nil)
      (pss_cons (ps_set (i := 2) sc_is_wish.nd rfl (Or.inl rfl) (pe_ix (kIx K) (pv 1) pe_int (fun _ _ => rfl)))
      (pss_cons (ps_if ((pw_or (pt_not (pt_val (pe_callB (kIsi K) (by rfl) T.m_isinstance boot_isinstance (pa_cons (pv 2) (pa_cons (pe_bltn (v := .ty "tuple") (by rfl) T.m_tuple boot_tuple rfl) pa_nil))))) (pw_or1 (pt_not (pt_chain op_le op_le pe_int (pe_callB (kLen K) (by rfl) T.m_len PySem.boot_len (pa_cons (pv 2) pa_nil)) (pe_glob (v := .int 3) (by rfl) c_MOST_PATTERNS ⟨_, rfl⟩)))))).pt (pss_one (ps_ret pe_bl)) pss_nil)
      (pss_one (ps_ret (pe_callB (kAll K (hc := rfl)) (by rfl) T.m_all bt_all (pa_cons (pe_lc (own := [("one", 3)]) rfl sc_is_wish.nd (kPiTup K (pv 2)) (blkOk_by (own := [("one", 3)]) (N := N_is_wish) (sc := defScope st_is_wish) (by decide +kernel)) (fun _ _ _ _ _ => (pg_name (i := 3) sc_is_wish.nd rfl (by first | exact Or.inl rfl | exact Or.inr rfl))) (fun _ _ _ _ _ => pts_nil) (fun _ _ _ _ _ => (pe_callS (ok_is_counted (C := C) T) (hr.mono (by decide)) (by rfl) T.f_is_counted.g T.f_is_counted.F.kp (b_is_counted T) (fun σ => passAt takes0 σ) (pa_cons (pv 0) (pa_cons (pv 3) pa_nil))))) pa_nil))))))), ?_⟩)
  exact (s_seq (s_if (dt_or (dt_not (dt_tB (d_isi (d_var 1)))) (dt_or (dt_test (d_op ro_ne (d_cb rc_len (d_cons (d_var 1) d_nil)) (d_int 2))) (dt_not (dt_tB (d_call (d_cons (d_op ro_ix (d_var 1) (d_int 0)) d_nil)))))) (s_ret (d_bl false)) s_nx)
      (s_seq (s_asg (d_op ro_ix (d_var 1) (d_int 1)) (g_name 2))
      (s_seq (s_if (dt_or (dt_not (dt_tB (d_isi (d_var 2)))) (dt_not (dt_test (d_chain ro_le ro_le (d_int 1) (d_cb rc_len (d_cons (d_var 2) d_nil)) (d_int 3))))) (s_ret (d_bl false)) s_nx)
      (s_ret (d_cb rc_all (d_cons (d_ofL (l_lc (i_tup (d_var 2)) (g_name 3) (by decide) dt_yes (d_call (d_cons (d_var 0) (d_cons (d_var 3) d_nil))))) d_nil))))))
theorem b_are_wishes (T : TX K mg w) : Binds K T.f_are_wishes.fd ["signs", "thing"] [] := T.f_are_wishes.F.bindsN fun _ _ _ _ _ _ us hl => match us, hl with | [_, _], _ => rfl
set_option maxHeartbeats 4000000 in
theorem ok_are_wishes (T : TX K mg w) : FnOk P w K mg base (L2.CX P w) 6 T.f_are_wishes.f T.f_are_wishes.fd ["signs", "thing"] (spF ⟨K, C⟩ 2 m_are_wishes) := by
  obtain ⟨t_MOST_WISHES, c_MOST_WISHES⟩ := T.c_MOST_WISHES
  refine fn_ok T.f_are_wishes.F sc_are_wishes (fun cdv A outer s H E hr tk po => ⟨_, (pss_cons (ps_if ((pw_or (pt_not (pt_val (pe_callB (kIsi K) (by rfl) T.m_isinstance boot_isinstance (pa_cons (pv 1) (pa_cons (pe_bltn (v := .ty "tuple") (by rfl) T.m_tuple boot_tuple rfl) pa_nil))))) (pw_or1 (pt_not (pt_chain op_le op_le pe_int (pe_callB (kLen K) (by rfl) T.m_len PySem.boot_len (pa_cons (pv 1) pa_nil)) (pe_glob (v := .int 5) (by rfl) c_MOST_WISHES ⟨_, rfl⟩)))))).pt (pss_one (ps_ret pe_bl)) pss_nil)
      (pss_cons (ps_if (pt_not (pt_val (pe_callB (kAll K (hc := rfl)) (by rfl) T.m_all bt_all (pa_cons (pe_lc (own := [("wish", 2)]) rfl sc_are_wishes.nd (kPiTup K (pv 1)) (blkOk_by (own := [("wish", 2)]) (N := N_are_wishes) (sc := defScope st_are_wishes) (by decide +kernel)) (fun _ _ _ _ _ => (pg_name (i := 2) sc_are_wishes.nd rfl (by first | exact Or.inl rfl | exact Or.inr rfl))) (fun _ _ _ _ _ => pts_nil) (fun _ _ _ _ _ => (pe_callS (ok_is_wish (C := C) T) (hr.mono (by decide)) (by rfl) T.f_is_wish.g T.f_is_wish.F.kp (b_is_wish T) (fun σ => passAt takes0 σ) (pa_cons (pv 0) (pa_cons (pv 2) pa_nil))))) pa_nil)))) (pss_one (ps_ret pe_bl)) pss_nil)
      (pss_one (ps_ret (pe_cmpR (kEq K (hu := hr.units)) (pe_lenSetT K rfl (by rfl) T.m_len (by rfl) T.m_set (pe_lc (own := [("wish", 2)]) rfl sc_are_wishes.nd (kPiTup K (pv 1)) (blkOk_by (own := [("wish", 2)]) (N := N_are_wishes) (sc := defScope st_are_wishes) (by decide +kernel)) (fun _ _ _ _ _ => (pg_name (i := 2) sc_are_wishes.nd rfl (by first | exact Or.inl rfl | exact Or.inr rfl))) (fun _ _ _ _ _ => pts_nil) (fun _ _ _ _ _ => (pe_ix (kIx K) (pv 2) pe_int (fun _ _ => rfl))))) (pe_callB (kLen K) (by rfl) T.m_len PySem.boot_len (pa_cons (pv 1) pa_nil)) (nomark _)))))), ?_⟩)
  exact (s_seq (s_if (dt_or (dt_not (dt_tB (d_isi (d_var 1)))) (dt_not (dt_test (d_chain ro_le ro_le (d_int 1) (d_cb rc_len (d_cons (d_var 1) d_nil)) (d_int 5))))) (s_ret (d_bl false)) s_nx)
      (s_seq (s_if (dt_not (dt_tB (d_cb rc_all (d_cons (d_ofL (l_lc (i_tup (d_var 1)) (g_name 2) (by decide) dt_yes (d_call (d_cons (d_var 0) (d_cons (d_var 2) d_nil))))) d_nil)))) (s_ret (d_bl false)) s_nx)
      (s_ret (d_op ro_eq (d_un ru_lenSet (d_ofL (l_lc (i_tup (d_var 1)) (g_name 2) (by decide) dt_yes (d_op ro_ix (d_var 2) (d_int 0))))) (d_cb rc_len (d_cons (d_var 1) d_nil))))))
theorem b_show_pattern (T : TX K mg w) : Binds K T.f_show_pattern.fd ["counted"] [] := T.f_show_pattern.F.bindsN fun _ _ _ _ _ _ us hl => match us, hl with | [_], _ => rfl
set_option maxHeartbeats 4000000 in
theorem ok_show_pattern (T : TX K mg w) : FnOk P w K mg base (L2.CX P w) 1 T.f_show_pattern.f T.f_show_pattern.fd ["counted"] (spF ⟨K, C⟩ 1 m_show_pattern) := by
  refine fn_ok T.f_show_pattern.F sc_show_pattern (fun cdv A outer s H E hr tk po => ⟨_, (pss_cons (ps_asg (pv 0) (kgTup (n := 2) K rfl (pgs_cons (pg_name (i := 1) sc_show_pattern.nd rfl (Or.inl rfl)) (pgs_cons (pg_name (i := 2) sc_show_pattern.nd rfl (Or.inl rfl)) pgs_nil))))
      (pss_cons (ps_set (i := 3) sc_show_pattern.nd rfl (Or.inl rfl) (pe_m1 PySem.F.slot_str_join PySem.F.type_str_join (kJoin K) pe_str (pv 1)))
      (pss_cons (ps_if (pt_cmpR (kNe K (hu := hr.units)) (pv 2) pe_int (nomark _)) (pss_one (ps_set (i := 3) sc_show_pattern.nd rfl (Or.inl rfl) (pe_op (kAdd K) (pe_op (kAdd K) (pv 3) pe_str) (pe_callTy call_str_int (by rfl) T.m_str boot_str (pa_cons (pv 2) pa_nil))))) pss_nil)
      (pss_one (ps_ret (pv 3)))))), ?_⟩)
  exact (s_seq (s_asg (d_var 0) (g_tup (gs_cons (g_name 1) (gs_cons (g_name 2) gs_nil))))
      (s_seq (s_asg (d_m1 rm_join (d_str _) (d_var 1)) (g_name 3))
      (s_seq (s_if (dt_test (d_op ro_ne (d_var 2) (d_int 1))) (s_asg (d_op ro_add (d_op ro_add (d_var 3) (d_str _)) (d_cb rc_str (d_cons (d_var 2) d_nil))) (g_name 3)) s_nx)
      (s_ret (d_var 3)))))
theorem b_show_wish (T : TX K mg w) : Binds K T.f_show_wish.fd ["wish"] [] := T.f_show_wish.F.bindsN fun _ _ _ _ _ _ us hl => match us, hl with | [_], _ => rfl
set_option maxHeartbeats 4000000 in
theorem ok_show_wish (T : TX K mg w) : FnOk P w K mg base (L2.CX P w) 2 T.f_show_wish.f T.f_show_wish.fd ["wish"] (spF ⟨K, C⟩ 1 m_show_wish) := by
  refine fn_ok T.f_show_wish.F sc_show_wish (fun cdv A outer s H E hr tk po => ⟨_, (pss_one (ps_ret (pe_op (kAdd K) (pe_op (kAdd K) (pe_ix (kIx K) (pv 0) pe_int (fun _ _ => rfl)) pe_str) (pe_m1 PySem.F.slot_str_join PySem.F.type_str_join (kJoin K) pe_str (pe_lc (own := [("counted", 1)]) rfl sc_show_wish.nd (kPiTup K (pe_ix (kIx K) (pv 0) pe_int (fun _ _ => rfl))) (blkOk_by (own := [("counted", 1)]) (N := N_show_wish) (sc := defScope st_show_wish) (by decide +kernel)) (fun _ _ _ _ _ => (pg_name (i := 1) sc_show_wish.nd rfl (by first | exact Or.inl rfl | exact Or.inr rfl))) (fun _ _ _ _ _ => pts_nil) (fun _ _ _ _ _ => (pe_callS (ok_show_pattern (C := C) T) (hr.mono (by decide)) (by rfl) T.f_show_pattern.g T.f_show_pattern.F.kp (b_show_pattern T) (fun σ => passAt takes0 σ) (pa_cons (pv 1) pa_nil)))))))), ?_⟩)
  exact (s_ret (d_op ro_add (d_op ro_add (d_op ro_ix (d_var 0) (d_int 0)) (d_str _)) (d_m1 rm_join (d_str _) (d_ofL (l_lc (i_tup (d_op ro_ix (d_var 0) (d_int 1))) (g_name 1) (by decide) dt_yes (d_call (d_cons (d_var 1) d_nil)))))))
theorem b_show_code (T : TX K mg w) : Binds K T.f_show_code.fd ["code"] [] := T.f_show_code.F.bindsN fun _ _ _ _ _ _ us hl => match us, hl with | [_], _ => rfl
set_option maxHeartbeats 4000000 in
theorem ok_show_code (T : TX K mg w) : FnOk P w K mg base (L2.CX P w) 3 T.f_show_code.f T.f_show_code.fd ["code"] (spF ⟨K, C⟩ 1 m_show_code) := by
  refine fn_ok T.f_show_code.F sc_show_code (fun cdv A outer s H E hr tk po => ⟨_, (pss_one (ps_ret (pe_m1 PySem.F.slot_str_join PySem.F.type_str_join (kJoin K) pe_str (pe_op (kAdd K) (pe_lst (pa_cons (pe_op (kAdd K) pe_str (pe_ix (kIx K) (pv 0) pe_int (fun _ _ => rfl))) pa_nil)) (pe_lc (own := [("wish", 1)]) rfl sc_show_code.nd (kPiTup K (pe_ix (kIx K) (pv 0) pe_int (fun _ _ => rfl))) (blkOk_by (own := [("wish", 1)]) (N := N_show_code) (sc := defScope st_show_code) (by decide +kernel)) (fun _ _ _ _ _ => (pg_name (i := 1) sc_show_code.nd rfl (by first | exact Or.inl rfl | exact Or.inr rfl))) (fun _ _ _ _ _ => pts_nil) (fun _ _ _ _ _ => (pe_callS (ok_show_wish (C := C) T) (hr.mono (by decide)) (by rfl) T.f_show_wish.g T.f_show_wish.F.kp (b_show_wish T) (fun σ => passAt takes0 σ) (pa_cons (pv 1) pa_nil)))))))), ?_⟩)
  exact (s_ret (d_m1 rm_join (d_str _) (d_op ro_add (d_ofL (l_lst (d_cons (d_op ro_add (d_str _) (d_op ro_ix (d_var 0) (d_int 0))) d_nil))) (d_ofL (l_lc (i_tup (d_op ro_ix (d_var 0) (d_int 1))) (g_name 1) (by decide) dt_yes (d_call (d_cons (d_var 1) d_nil)))))))
theorem b_pattern_in (T : TX K mg w) : Binds K T.f_pattern_in.fd ["signs", "text"] [] := T.f_pattern_in.F.bindsN fun _ _ _ _ _ _ us hl => match us, hl with | [_, _], _ => rfl
set_option maxHeartbeats 4000000 in
theorem ok_pattern_in (T : TX K mg w) : FnOk P w K mg base (L2.CX P w) 5 T.f_pattern_in.f T.f_pattern_in.fd ["signs", "text"] (spF ⟨K, C⟩ 2 m_pattern_in) := by
  refine fn_ok T.f_pattern_in.F sc_pattern_in (fun cdv A outer s H E hr tk po => ⟨_, (pss_cons (ps_set (i := 2) sc_pattern_in.nd rfl (Or.inl rfl) (pe_split (pv 1) pe_str))
      (pss_cons (ps_set (i := 3) sc_pattern_in.nd rfl (Or.inl rfl) pe_int)
      (pss_cons (ps_if (pt_cmpR (kInT T.t_TIMES.t) (pe_ix (kIx K) (pv 2) (pe_un un_neg pe_int) (fun _ _ => rfl)) (pe_glob (v := .ref T.t_TIMES.a) (by rfl) T.t_TIMES.g rfl) (by rfl)) (pss_cons (ps_set (i := 3) sc_pattern_in.nd rfl (Or.inl rfl) (pe_ix (kIxT K w) (pe_glob (v := .ref T.t_TIMES.a) (by rfl) T.t_TIMES.g rfl) (pe_ix (kIx K) (pv 2) (pe_un un_neg pe_int) (fun _ _ => rfl)) (fun _ _ => rfl)))
      (pss_one (ps_set (i := 2) sc_pattern_in.nd rfl (Or.inl rfl) (pe_slice (kSl K) (pv 2) po_none (po_some (pe_un un_neg pe_int)))))) pss_nil)
      (pss_cons (ps_set (i := 4) sc_pattern_in.nd rfl (Or.inl rfl) (pe_tup (pa_cons (pe_callTy (kTupleB K (hc := rfl)) (by rfl) T.m_tuple boot_tuple (pa_cons (pv 2) pa_nil)) (pa_cons (pv 3) pa_nil))))
      (pss_cons (ps_if (pt_not (pt_val (pe_callS (ok_is_counted (C := C) T) (hr.mono (by decide)) (by rfl) T.f_is_counted.g T.f_is_counted.F.kp (b_is_counted T) (fun σ => passAt tk σ) (pa_cons (pv 0) (pa_cons (pv 4) pa_nil))))) (pss_one (ps_ret pe_non)) pss_nil)
      (pss_one (ps_ret (pv 4)))))))), ?_⟩)
  exact (s_seq (s_asg (d_m1 rm_split (d_var 1) (d_str _)) (g_name 2))
      (s_seq (s_asg (d_int 1) (g_name 3))
      (s_seq (s_if (dt_test (d_inT T.t_TIMES.t (d_op ro_ix (d_var 2) (d_un ru_neg (d_int 1))))) (s_seq (s_asg (d_getT T.t_TIMES.t (d_op ro_ix (d_var 2) (d_un ru_neg (d_int 1)))) (g_name 3))
      (s_asg (d_sl rs_sl (d_var 2) do_none (do_some (d_un ru_neg (d_int 1)))) (g_name 2))) s_nx)
      (s_seq (s_asg (d_tup (d_cons (d_cb rc_tupleA (d_cons (d_var 2) d_nil)) (d_cons (d_var 3) d_nil))) (g_name 4))
      (s_seq (s_if (dt_not (dt_tB (d_call (d_cons (d_var 0) (d_cons (d_var 4) d_nil))))) (s_ret d_non) s_nx)
      (s_ret (d_var 4)))))))
theorem b_wish_in (T : TX K mg w) : Binds K T.f_wish_in.fd ["signs", "row"] [] := T.f_wish_in.F.bindsN fun _ _ _ _ _ _ us hl => match us, hl with | [_, _], _ => rfl
set_option maxHeartbeats 4000000 in
theorem ok_wish_in (T : TX K mg w) : FnOk P w K mg base (L2.CX P w) 6 T.f_wish_in.f T.f_wish_in.fd ["signs", "row"] (spF ⟨K, C⟩ 2 m_wish_in) := by
  refine fn_ok T.f_wish_in.F sc_wish_in (fun cdv A outer s H E hr tk po => ⟨_, (pss_cons (ps_asg (pe_partition (pv 1) pe_str) (kgTup (n := 3) K rfl (pgs_cons (pg_name (i := 2) sc_wish_in.nd rfl (Or.inl rfl)) (pgs_cons (pg_name (i := 3) sc_wish_in.nd rfl (Or.inl rfl)) (pgs_cons (pg_name (i := 4) sc_wish_in.nd rfl (Or.inl rfl)) pgs_nil)))))
      (pss_cons (ps_if ((pw_or (pt_cmpR (kEq K (hu := hr.units)) (pv 3) pe_str (nomark _)) (pw_or1 (pt_not (pt_val (pe_callS (ok_is_name (C := C) T) (hr.mono (by decide)) (by rfl) T.f_is_name.g T.f_is_name.F.kp (b_is_name T) (fun σ => passAt tk σ) (pa_cons (pv 2) pa_nil))))))).pt (pss_one (ps_ret pe_non)) pss_nil)
      (pss_cons (ps_set (i := 5) sc_wish_in.nd rfl (Or.inl rfl) (pe_callTy (kTupleB K (hc := rfl)) (by rfl) T.m_tuple boot_tuple (pa_cons (pe_lc (own := [("part", 6)]) rfl sc_wish_in.nd (kPiList K (pe_split (pv 4) pe_str)) (blkOk_by (own := [("part", 6)]) (N := N_wish_in) (sc := defScope st_wish_in) (by decide +kernel)) (fun _ _ _ _ _ => (pg_name (i := 6) sc_wish_in.nd rfl (by first | exact Or.inl rfl | exact Or.inr rfl))) (fun _ _ _ _ _ => pts_nil) (fun _ _ _ _ _ => (pe_callS (ok_pattern_in (C := C) T) (hr.mono (by decide)) (by rfl) T.f_pattern_in.g T.f_pattern_in.F.kp (b_pattern_in T) (fun σ => passAt takes0 σ) (pa_cons (pv 0) (pa_cons (pv 6) pa_nil))))) pa_nil)))
      (pss_cons (ps_if (pt_cmpR (kIn K (hu := u65 hr)) pe_non (pv 5) (by rfl)) (pss_one (ps_ret pe_non)) pss_nil)
      (pss_one (ps_ret (pe_tup (pa_cons (pv 2) (pa_cons (pv 5) pa_nil))))))))), ?_⟩)
  exact (s_seq (s_asg (d_m1 rm_part (d_var 1) (d_str _)) (g_tup (gs_cons (g_name 2) (gs_cons (g_name 3) (gs_cons (g_name 4) gs_nil)))))
      (s_seq (s_if (dt_or (dt_test (d_op ro_eq (d_var 3) (d_str _))) (dt_not (dt_tB (d_call (d_cons (d_var 2) d_nil))))) (s_ret d_non) s_nx)
      (s_seq (s_asg (d_cb rc_tupleA (d_cons (d_ofL (l_lc (i_list (d_m1 rm_split (d_var 4) (d_str _))) (g_name 6) (by decide) dt_yes (d_call (d_cons (d_var 0) (d_cons (d_var 6) d_nil))))) d_nil)) (g_name 5))
      (s_seq (s_if (dt_test (d_op ro_in d_non (d_var 5))) (s_ret d_non) s_nx)
      (s_ret (d_tup (d_cons (d_var 2) (d_cons (d_var 5) d_nil))))))))
theorem b_read_code (T : TX K mg w) : Binds K T.f_read_code.fd ["text"] [] := T.f_read_code.F.bindsN fun _ _ _ _ _ _ us hl => match us, hl with | [_], _ => rfl
set_option maxHeartbeats 4000000 in
theorem ok_read_code (T : TX K mg w) : FnOk P w K mg base (L2.CX P w) 7 T.f_read_code.f T.f_read_code.fd ["text"] (spF ⟨K, C⟩ 1 m_read_code) := by
  refine fn_ok T.f_read_code.F sc_read_code (fun cdv A outer s H E hr tk po => ⟨_, (pss_cons (ps_if (pt_not (pt_val (pe_callB (kIsi K) (by rfl) T.m_isinstance boot_isinstance (pa_cons (pv 0) (pa_cons (pe_bltn (v := .ty "str") (by rfl) T.m_str boot_str rfl) pa_nil))))) (pss_one (k_raiseP K rfl tk T.i_NoText.E (oki_NoText T) (hr.mono (by decide)) (bi_NoText T) (passNo tk) (by rfl) pe_non)) pss_nil)
      (pss_cons (ps_set (i := 1) sc_read_code.nd rfl (Or.inl rfl) (pe_split (pv 0) pe_str))
      (pss_cons (ps_asg (pe_partition (pe_ix (kIx K) (pv 1) pe_int (fun _ _ => rfl)) pe_str) (kgTup (n := 3) K rfl (pgs_cons (pg_name (i := 2) sc_read_code.nd rfl (Or.inl rfl)) (pgs_cons (pg_name (i := 3) sc_read_code.nd rfl (Or.inl rfl)) (pgs_cons (pg_name (i := 4) sc_read_code.nd rfl (Or.inl rfl)) pgs_nil)))))
      (pss_cons (ps_if ((pw_or (pt_cmpR (kNe K (hu := hr.units)) (pv 2) pe_str (nomark _)) (pw_or (pt_cmpR (kEq K (hu := hr.units)) (pv 3) pe_str (nomark _)) (pw_or1 (pt_not (pt_val (pe_callS (ok_are_signs (C := C) T) (hr.mono (by decide)) (by rfl) T.f_are_signs.g T.f_are_signs.F.kp (b_are_signs T) (fun σ => passAt tk σ) (pa_cons (pv 4) pa_nil)))))))).pt (pss_one (k_raiseP K rfl tk T.i_NoText.E (oki_NoText T) (hr.mono (by decide)) (bi_NoText T) (passNo tk) (by rfl) pe_int)) pss_nil)
      (pss_cons (ps_set (i := 5) sc_read_code.nd rfl (Or.inl rfl) (pe_tup pa_nil))
      (pss_cons (ps_for po rfl (pi_range2 (by rfl) T.m_range (pa_cons pe_int (pa_cons (pe_callB (kLen K) (by rfl) T.m_len PySem.boot_len (pa_cons (pv 1) pa_nil)) pa_nil))) (pg_name (i := 6) sc_read_code.nd rfl (Or.inl rfl)) (pss_cons (ps_set (i := 7) sc_read_code.nd rfl (Or.inl rfl) (pe_callS (ok_wish_in (C := C) T) (hr.mono (by decide)) (by rfl) T.f_wish_in.g T.f_wish_in.F.kp (b_wish_in T) (fun σ => passAt tk σ) (pa_cons (pv 4) (pa_cons (pe_ix (kIx K) (pv 1) (pv 6) (fun _ _ => rfl)) pa_nil))))
      (pss_cons (ps_if ((pw_or (pt_cmpR op_isN (pv 7) pe_non (nomark _)) (pw_or1 (pt_not (pt_val (pe_callS (ok_are_wishes (C := C) T) (hr.mono (by decide)) (by rfl) T.f_are_wishes.g T.f_are_wishes.F.kp (b_are_wishes T) (fun σ => passAt tk σ) (pa_cons (pv 4) (pa_cons (pe_op (kAdd K) (pv 5) (pe_tup (pa_cons (pv 7) pa_nil))) pa_nil)))))))).pt (pss_one (k_raiseP K rfl tk T.i_NoText.E (oki_NoText T) (hr.mono (by decide)) (bi_NoText T) (passNo tk) (by rfl) (pv 6))) pss_nil)
      (pss_one (ps_set (i := 5) sc_read_code.nd rfl (Or.inl rfl) (pe_op (kAdd K) (pv 5) (pe_tup (pa_cons (pv 7) pa_nil))))))))
      (pss_cons (ps_if (pt_cmpR (kEq K (hu := hr.units)) (pv 5) (pe_tup pa_nil) (nomark _)) (pss_one (k_raiseP K rfl tk T.i_NoText.E (oki_NoText T) (hr.mono (by decide)) (bi_NoText T) (passNo tk) (by rfl) pe_int)) pss_nil)
      (pss_one (ps_ret (pe_tup (pa_cons (pv 4) (pa_cons (pv 5) pa_nil)))))))))))), ?_⟩)
  exact (s_seq (s_if (dt_not (dt_tB (d_isi (d_var 0)))) (s_raiseP d_non) s_nx)
      (s_seq (s_asg (d_m1 rm_split (d_var 0) (d_str _)) (g_name 1))
      (s_seq (s_asg (d_m1 rm_part (d_op ro_ix (d_var 1) (d_int 0)) (d_str _)) (g_tup (gs_cons (g_name 2) (gs_cons (g_name 3) (gs_cons (g_name 4) gs_nil)))))
      (s_seq (s_if (dt_or (dt_test (d_op ro_ne (d_var 2) (d_str _))) (dt_or (dt_test (d_op ro_eq (d_var 3) (d_str _))) (dt_not (dt_tB (d_call (d_cons (d_var 4) d_nil)))))) (s_raiseP (d_int 0)) s_nx)
      (s_seq (s_asg (d_tup d_nil) (g_name 5))
      (s_seq (s_for (i_rng2 (d_cons (d_int 1) (d_cons (d_cb rc_len (d_cons (d_var 1) d_nil)) d_nil))) (g_name 6) (s_seq (s_asg (d_call (d_cons (d_var 4) (d_cons (d_op ro_ix (d_var 1) (d_var 6)) d_nil))) (g_name 7))
      (s_seq (s_if (dt_or (dt_test (d_op ro_isNone (d_var 7) d_non)) (dt_not (dt_tB (d_call (d_cons (d_var 4) (d_cons (d_op ro_add (d_var 5) (d_tup (d_cons (d_var 7) d_nil))) d_nil)))))) (s_raiseP (d_var 6)) s_nx)
      (s_asg (d_op ro_add (d_var 5) (d_tup (d_cons (d_var 7) d_nil))) (g_name 5)))))
      (s_seq (s_if (dt_test (d_op ro_eq (d_var 5) (d_tup d_nil))) (s_raiseP (d_int 1)) s_nx)
      (s_ret (d_tup (d_cons (d_var 4) (d_cons (d_var 5) d_nil)))))))))))
theorem b__law_pool (T : TX K mg w) : Binds K T.f__law_pool.fd ["_law_cell"] [] := T.f__law_pool.F.bindsN fun _ _ _ _ _ _ us hl => match us, hl with | [_], _ => rfl
set_option maxHeartbeats 4000000 in
theorem ok__law_pool (T : TX K mg w) : FnOk P w K mg base (L2.CX P w) 1 T.f__law_pool.f T.f__law_pool.fd ["_law_cell"] (spF ⟨K, C⟩ 1 m__law_pool) := by
  refine fn_ok T.f__law_pool.F sc__law_pool (fun cdv A outer s H E hr tk po => ⟨_, (pss_cons (ps_set (i := 1) sc__law_pool.nd rfl (Or.inl rfl) pe_int)
      (pss_cons (ps_if ((pw_or (pt_cmpR opLt (pv 0) pe_int (nomark _)) (pw_or1 (pt_cmpR op_ge (pv 0) (pe_op op_pow pe_int pe_int) (nomark _))))).pt (pss_one (ps_set (i := 1) sc__law_pool.nd rfl (Or.inl rfl) (pe_callB call_abs (by rfl) T.m_abs boot_abs (pa_cons (pv 0) pa_nil)))) pss_nil)
      (pss_cons (ps_set (i := 2) sc__law_pool.nd rfl (Or.inl rfl) (pe_op op_mod (pv 0) pe_int))
      (pss_one (ps_ret (pe_lst (pa_cons (pv 1) (pa_cons (pv 2) (pa_cons (pe_op op_mod (pe_op (kAdd K) (pe_op (kMulC K) (pv 2) pe_int) pe_int) pe_int) pa_nil))))))))), ?_⟩)
  exact (s_seq (s_asg (d_int 0) (g_name 1))
      (s_seq (s_if (dt_or (dt_test (d_op ro_lt (d_var 0) (d_int 0))) (dt_test (d_op ro_ge (d_var 0) (d_op ro_pow (d_int 10) (d_int 18))))) (s_asg (d_cb rc_abs (d_cons (d_var 0) d_nil)) (g_name 1)) s_nx)
      (s_seq (s_asg (d_op ro_mod (d_var 0) (d_int 1000000403)) (g_name 2))
      (s_retL (l_lst (d_cons (d_var 1) (d_cons (d_var 2) (d_cons (d_op ro_mod (d_op ro_add (d_op ro_mulC (d_var 2) (d_int 48271)) (d_int 12345)) (d_int 1000000513)) d_nil))))))))
theorem b__law_draw (T : TX K mg w) : Binds K T.f__law_draw.fd ["_law_pool_here", "_law_top"] [] := T.f__law_draw.F.bindsN fun _ _ _ _ _ _ us hl => match us, hl with | [_, _], _ => rfl
set_option maxHeartbeats 4000000 in
theorem ok__law_draw (T : TX K mg w) : FnOk P w K mg base (L2.CX P w) 1 T.f__law_draw.f T.f__law_draw.fd ["_law_pool_here", "_law_top"] (spF ⟨K, C⟩ 2 m__law_draw) := by
  refine fn_ok T.f__law_draw.F sc__law_draw (fun cdv A outer s H E hr tk po => ⟨_, (pss_cons (ps_if (pt_cmpR op_gt (pe_ix (kIx K) (pv 0) pe_int (fun _ _ => rfl)) pe_int (nomark _)) (pss_cons (ps_set (i := 2) sc__law_draw.nd rfl (Or.inl rfl) (pe_op op_mod (pe_ix (kIx K) (pv 0) pe_int (fun _ _ => rfl)) (pv 1)))
      (pss_cons (ps_asg (pe_op op_fdivW (pe_ix (kIx K) (pv 0) pe_int (fun _ _ => rfl)) (pv 1)) (pg_sub (pv 0) pe_int set_list))
      (pss_one (ps_ret (pv 2))))) pss_nil)
      (pss_cons (ps_asg (pe_op op_mod (pe_op (kAdd K) (pe_op (kAdd K) (pe_op (kMulC K) (pe_ix (kIx K) (pv 0) pe_int (fun _ _ => rfl)) pe_int) (pe_ix (kIx K) (pv 0) pe_int (fun _ _ => rfl))) pe_int) pe_int) (pg_sub (pv 0) pe_int set_list))
      (pss_cons (ps_asg (pe_op op_mod (pe_op (kAdd K) (pe_op (kAdd K) (pe_op (kMulC K) (pe_ix (kIx K) (pv 0) pe_int (fun _ _ => rfl)) pe_int) (pe_op op_mod (pe_op (kMulC K) (pe_ix (kIx K) (pv 0) pe_int (fun _ _ => rfl)) (pe_ix (kIx K) (pv 0) pe_int (fun _ _ => rfl))) pe_int)) pe_int) pe_int) (pg_sub (pv 0) pe_int set_list))
      (pss_one (ps_ret (pe_op op_mod (pe_op op_fdivW (pe_op (kAdd K) (pe_ix (kIx K) (pv 0) pe_int (fun _ _ => rfl)) (pe_op (kMulC K) pe_int (pe_ix (kIx K) (pv 0) pe_int (fun _ _ => rfl)))) pe_int) (pv 1))))))), ?_⟩)
  exact (s_seq (s_if (dt_test (d_op ro_gt (d_op ro_ix (d_own 0) (d_int 0)) (d_int 0))) (s_seq (s_asg (d_op ro_mod (d_op ro_ix (d_own 0) (d_int 0)) (d_var 1)) (g_name 2))
      (s_seq (s_setI (d_op ro_fdiv (d_op ro_ix (d_own 0) (d_int 0)) (d_var 1)) (d_int 0))
      (s_ret (d_var 2)))) s_nx)
      (s_seq (s_setI (d_op ro_mod (d_op ro_add (d_op ro_add (d_op ro_mulC (d_op ro_ix (d_own 0) (d_int 1)) (d_int 40014)) (d_op ro_ix (d_own 0) (d_int 2))) (d_int 7)) (d_int 1000000403)) (d_int 1))
      (s_seq (s_setI (d_op ro_mod (d_op ro_add (d_op ro_add (d_op ro_mulC (d_op ro_ix (d_own 0) (d_int 2)) (d_int 40699)) (d_op ro_mod (d_op ro_mulC (d_op ro_ix (d_own 0) (d_int 1)) (d_op ro_ix (d_own 0) (d_int 1))) (d_int 65537))) (d_int 1)) (d_int 1000000513)) (d_int 2))
      (s_ret (d_op ro_mod (d_op ro_fdiv (d_op ro_add (d_op ro_ix (d_own 0) (d_int 1)) (d_op ro_mulC (d_int 7) (d_op ro_ix (d_own 0) (d_int 2)))) (d_int 16)) (d_var 1))))))
theorem b__law_name (T : TX K mg w) : Binds K T.f__law_name.fd ["_law_pool_here", "_law_known"] [] := T.f__law_name.F.bindsN fun _ _ _ _ _ _ us hl => match us, hl with | [_, _], _ => rfl
set_option maxHeartbeats 4000000 in
theorem ok__law_name (T : TX K mg w) : FnOk P w K mg base (L2.CX P w) 2 T.f__law_name.f T.f__law_name.fd ["_law_pool_here", "_law_known"] (spF ⟨K, C⟩ 2 m__law_name) := by
  refine fn_ok T.f__law_name.F sc__law_name (fun cdv A outer s H E hr tk po => ⟨_, (pss_cons (ps_set (i := 2) sc__law_name.nd rfl (Or.inr rfl) pe_str)
      (pss_cons (ps_if ((pw_and (pt_cmpR (kNe K (hu := hr.units)) (pv 1) (pe_lst pa_nil) (nomark _)) (pw_and1 (pt_cmpR (kEq K (hu := hr.units)) (pe_callS (ok__law_draw (C := C) T) (hr.mono (by decide)) (by rfl) T.f__law_draw.g T.f__law_draw.F.kp (b__law_draw T) (fun σ => passAt tk σ) (pa_cons (pv 0) (pa_cons pe_int pa_nil))) pe_int (nomark _))))).pt (pss_one (ps_set (i := 3) sc__law_name.nd rfl (Or.inr rfl) (pe_slice (kSl K) (pe_op (kAdd K) (pe_ix (kIx K) (pv 1) (pe_callS (ok__law_draw (C := C) T) (hr.mono (by decide)) (by rfl) T.f__law_draw.g T.f__law_draw.F.kp (b__law_draw T) (fun σ => passAt tk σ) (pa_cons (pv 0) (pa_cons (pe_callB (kLen K) (by rfl) T.m_len PySem.boot_len (pa_cons (pv 1) pa_nil)) pa_nil))) (fun _ _ => rfl)) (pe_ix (kIx K) (pv 2) (pe_callS (ok__law_draw (C := C) T) (hr.mono (by decide)) (by rfl) T.f__law_draw.g T.f__law_draw.F.kp (b__law_draw T) (fun σ => passAt tk σ) (pa_cons (pv 0) (pa_cons pe_int pa_nil))) (fun _ _ => rfl))) po_none (po_some pe_int)))) (pss_one (ps_set (i := 3) sc__law_name.nd rfl (Or.inr rfl) (pe_m1 PySem.F.slot_str_join PySem.F.type_str_join (kJoin K) pe_str (pe_lc (own := [("_law_k", 7)]) rfl sc__law_name.nd (pi_range1 (by rfl) T.m_range (pa_cons (pe_op (kAdd K) pe_int (pe_callS (ok__law_draw (C := C) T) (hr.mono (by decide)) (by rfl) T.f__law_draw.g T.f__law_draw.F.kp (b__law_draw T) (fun σ => passAt tk σ) (pa_cons (pv 0) (pa_cons pe_int pa_nil)))) pa_nil)) (blkOk_by (own := [("_law_k", 7)]) (N := N__law_name) (sc := defScope st__law_name) (by decide +kernel)) (fun _ _ _ _ _ => (pg_name (i := 7) sc__law_name.nd rfl (by first | exact Or.inl rfl | exact Or.inr rfl))) (fun _ _ _ _ _ => pts_nil) (fun _ _ _ _ _ => (pe_ix (kIx K) (pv 2) (pe_callS (ok__law_draw (C := C) T) (hr.mono (by decide)) (by rfl) T.f__law_draw.g T.f__law_draw.F.kp (b__law_draw T) (fun σ => passAt takes0 σ) (pa_cons (pv 0) (pa_cons pe_int pa_nil))) (fun _ _ => rfl))))))))
      (pss_cons (ps_set (i := 4) sc__law_name.nd rfl (Or.inl rfl) (pe_op (kAdd K) (pe_lst (pa_cons (pv 3) pa_nil)) (pe_lc (own := [("_law_sign", 5)]) rfl sc__law_name.nd (pi_str (pv 2)) (blkOk_by (own := [("_law_sign", 5)]) (N := N__law_name) (sc := defScope st__law_name) (by decide +kernel)) (fun _ _ _ _ _ => (pg_name (i := 5) sc__law_name.nd rfl (by first | exact Or.inl rfl | exact Or.inr rfl))) (fun _ _ _ _ _ => pts_nil) (fun _ _ _ _ _ => (pe_op (kAdd K) (pe_slice (kSl K) (pv 3) po_none (po_some pe_int)) (pv 5))))))
      (pss_one (ps_ret (pe_ix (kIx K) (pe_lc (own := [("_law_one", 6)]) rfl sc__law_name.nd (kPiList K (pv 4)) (blkOk_by (own := [("_law_one", 6)]) (N := N__law_name) (sc := defScope st__law_name) (by decide +kernel)) (fun _ _ _ _ _ => (pg_name (i := 6) sc__law_name.nd rfl (by first | exact Or.inl rfl | exact Or.inr rfl))) (fun _ _ _ _ _ => (pts_one (pt_cmpR (kNotIn K (hu := u65 hr)) (pv 6) (pv 1) (by rfl)))) (fun _ _ _ _ _ => (pv 6))) pe_int (fun _ _ => rfl))))))), ?_⟩)
  exact (s_seq (s_asg (d_str _) (g_name 2))
      (s_seq (s_if (dt_and (dt_test (d_op ro_ne (d_var 1) (d_ofL (l_lst d_nil)))) (dt_test (d_op ro_eq (d_callP (d_cons (d_int 4) d_nil)) (d_int 1)))) (s_asg (d_sl rs_sl (d_op ro_add (d_op ro_ix (d_var 1) (d_callP (d_cons (d_cb rc_len (d_cons (d_var 1) d_nil)) d_nil))) (d_op ro_ix (d_var 2) (d_callP (d_cons (d_int 26) d_nil)))) do_none (do_some (d_int 8))) (g_name 3)) (s_asg (d_m1 rm_join (d_str _) (d_ofL (l_lc (i_rng1 (d_cons (d_op ro_add (d_int 1) (d_callP (d_cons (d_int 8) d_nil))) d_nil)) (g_name 7) (by decide) dt_yes (d_op ro_ix (d_var 2) (d_callP (d_cons (d_int 26) d_nil)))))) (g_name 3)))
      (s_seq (s_asg (d_op ro_add (d_ofL (l_lst (d_cons (d_var 3) d_nil))) (d_ofL (l_lc (i_str (d_var 2)) (g_name 5) (by decide) dt_yes (d_op ro_add (d_sl rs_sl (d_var 3) do_none (do_some (d_int 7))) (d_var 5))))) (g_name 4))
      (s_ret (d_op ro_ix (d_ofL (l_lc (i_list (d_var 4)) (g_name 6) (by decide) (dt_test (d_op ro_notIn (d_var 6) (d_var 1))) (d_var 6))) (d_int 0))))))
theorem b__law_signs (T : TX K mg w) : Binds K T.f__law_signs.fd ["_law_pool_here"] [] := T.f__law_signs.F.bindsN fun _ _ _ _ _ _ us hl => match us, hl with | [_], _ => rfl
set_option maxHeartbeats 4000000 in
theorem ok__law_signs (T : TX K mg w) : FnOk P w K mg base (L2.CX P w) 2 T.f__law_signs.f T.f__law_signs.fd ["_law_pool_here"] (spF ⟨K, C⟩ 1 m__law_signs) := by
  refine fn_ok T.f__law_signs.F sc__law_signs (fun cdv A outer s H E hr tk po => ⟨_, (pss_cons (ps_set (i := 1) sc__law_signs.nd rfl (Or.inl rfl) pe_str)
      (pss_cons (ps_set (i := 2) sc__law_signs.nd rfl (Or.inr rfl) (pe_lst pa_nil))
      (pss_cons (ps_for po rfl (pi_range1 (by rfl) T.m_range (pa_cons (pe_op (kAdd K) pe_int (pe_callS (ok__law_draw (C := C) T) (hr.mono (by decide)) (by rfl) T.f__law_draw.g T.f__law_draw.F.kp (b__law_draw T) (fun σ => passAt tk σ) (pa_cons (pv 0) (pa_cons pe_int pa_nil)))) pa_nil)) (pg_name (i := 3) sc__law_signs.nd rfl (Or.inl rfl)) (pss_cons (ps_setLc (i := 4) (own := [("_law_sign", 5)]) rfl sc__law_signs.nd rfl rfl (sw_true rfl rfl rfl (by decide +kernel)) (pi_str (pv 1)) (blkOk_by (own := [("_law_sign", 5)]) (N := N__law_signs) (sc := defScope st__law_signs) (by decide +kernel)) (fun _ _ _ _ _ => (pg_name (i := 5) sc__law_signs.nd rfl (by first | exact Or.inl rfl | exact Or.inr rfl))) (fun _ _ _ _ _ => (pts_one (pt_cmpR (kNotIn K (hu := u65 hr)) (pv 5) (pv 2) (by rfl)))) (fun _ _ _ _ _ => (pv 5)))
      (pss_one (ps_expr (pe_bm PySem.F.plainAttrs_list PySem.F.slot_list_append PySem.F.type_list_append mt_append (pv 2) (pa_cons (pe_ix (kIx K) (pv 4) (pe_callS (ok__law_draw (C := C) T) (hr.mono (by decide)) (by rfl) T.f__law_draw.g T.f__law_draw.F.kp (b__law_draw T) (fun σ => passAt tk σ) (pa_cons (pv 0) (pa_cons (pe_callB (kLen K) (by rfl) T.m_len PySem.boot_len (pa_cons (pv 4) pa_nil)) pa_nil))) (fun _ _ => rfl)) pa_nil))))))
      (pss_one (ps_ret (pe_m1 PySem.F.slot_str_join PySem.F.type_str_join (kJoin K) pe_str (pe_callB (kSorted K) (by rfl) T.m_sorted bt_sorted (pa_cons (pv 2) pa_nil)))))))), ?_⟩)
  exact (s_seq (s_asg (d_str _) (g_name 1))
      (s_seq (s_setO (l_lst d_nil))
      (s_seq (s_for (i_rng1 (d_cons (d_op ro_add (d_int 1) (d_callP (d_cons (d_int 3) d_nil))) d_nil)) (g_name 3) (s_seq (s_asg (d_ofL (l_lc (i_str (d_var 1)) (g_name 5) (by decide) (dt_test (d_op ro_notIn (d_var 5) (d_own 2))) (d_var 5))) (g_name 4))
      (s_app (d_op ro_ix (d_var 4) (d_callP (d_cons (d_cb rc_len (d_cons (d_var 4) d_nil)) d_nil))))))
      (s_ret (d_m1 rm_join (d_str _) (d_ofL (l_cb rcl_sorted (d_cons (d_own 2) d_nil))))))))
theorem b__law_set (T : TX K mg w) : Binds K T.f__law_set.fd ["_law_pool_here", "_law_signs_here"] [] := T.f__law_set.F.bindsN fun _ _ _ _ _ _ us hl => match us, hl with | [_, _], _ => rfl
set_option maxHeartbeats 4000000 in
theorem ok__law_set (T : TX K mg w) : FnOk P w K mg base (L2.CX P w) 2 T.f__law_set.f T.f__law_set.fd ["_law_pool_here", "_law_signs_here"] (spF ⟨K, C⟩ 2 m__law_set) := by
  refine fn_ok T.f__law_set.F sc__law_set (fun cdv A outer s H E hr tk po => ⟨_, (pss_cons (ps_setLc (i := 2) (own := [("_law_sign", 3)]) rfl sc__law_set.nd rfl rfl (sw_true rfl rfl rfl (by decide +kernel)) (pi_str (pv 1)) (blkOk_by (own := [("_law_sign", 3)]) (N := N__law_set) (sc := defScope st__law_set) (by decide +kernel)) (fun _ _ _ _ _ => (pg_name (i := 3) sc__law_set.nd rfl (by first | exact Or.inl rfl | exact Or.inr rfl))) (fun _ _ _ _ _ => (pts_one (pt_cmpR (kEq K (hu := hr.units)) (pe_callS (ok__law_draw (C := C) T) (hr.mono (by decide)) (by rfl) T.f__law_draw.g T.f__law_draw.F.kp (b__law_draw T) (fun σ => passAt takes0 σ) (pa_cons (pv 0) (pa_cons pe_int pa_nil))) pe_int (nomark _)))) (fun _ _ _ _ _ => (pv 3)))
      (pss_cons (ps_if (pt_cmpR (kEq K (hu := hr.units)) (pv 2) (pe_lst pa_nil) (nomark _)) (pss_one (ps_set (i := 2) sc__law_set.nd rfl (Or.inl rfl) (pe_lst (pa_cons (pe_ix (kIx K) (pv 1) (pe_callS (ok__law_draw (C := C) T) (hr.mono (by decide)) (by rfl) T.f__law_draw.g T.f__law_draw.F.kp (b__law_draw T) (fun σ => passAt tk σ) (pa_cons (pv 0) (pa_cons (pe_callB (kLen K) (by rfl) T.m_len PySem.boot_len (pa_cons (pv 1) pa_nil)) pa_nil))) (fun _ _ => rfl)) pa_nil)))) pss_nil)
      (pss_one (ps_ret (pe_m1 PySem.F.slot_str_join PySem.F.type_str_join (kJoin K) pe_str (pv 2)))))), ?_⟩)
  exact (s_seq (s_asg (d_ofL (l_lc (i_str (d_var 1)) (g_name 3) (by decide) (dt_test (d_op ro_eq (d_callP (d_cons (d_int 2) d_nil)) (d_int 1))) (d_var 3))) (g_name 2))
      (s_seq (s_if (dt_test (d_op ro_eq (d_var 2) (d_ofL (l_lst d_nil)))) (s_asg (d_ofL (l_lst (d_cons (d_op ro_ix (d_var 1) (d_callP (d_cons (d_cb rc_len (d_cons (d_var 1) d_nil)) d_nil))) d_nil))) (g_name 2)) s_nx)
      (s_ret (d_m1 rm_join (d_str _) (d_var 2)))))
theorem b__law_pattern (T : TX K mg w) : Binds K T.f__law_pattern.fd ["_law_pool_here", "_law_signs_here"] [] := T.f__law_pattern.F.bindsN fun _ _ _ _ _ _ us hl => match us, hl with | [_, _], _ => rfl
set_option maxHeartbeats 4000000 in
theorem ok__law_pattern (T : TX K mg w) : FnOk P w K mg base (L2.CX P w) 3 T.f__law_pattern.f T.f__law_pattern.fd ["_law_pool_here", "_law_signs_here"] (spF ⟨K, C⟩ 2 m__law_pattern) := by
  refine fn_ok T.f__law_pattern.F sc__law_pattern (fun cdv A outer s H E hr tk po => ⟨_, (pss_cons (ps_set (i := 2) sc__law_pattern.nd rfl (Or.inl rfl) (pe_ix (kIx K) (pe_lst (pa_cons pe_str (pa_cons pe_str (pa_cons pe_str (pa_cons pe_str (pa_cons pe_str (pa_cons pe_str pa_nil))))))) (pe_callS (ok__law_draw (C := C) T) (hr.mono (by decide)) (by rfl) T.f__law_draw.g T.f__law_draw.F.kp (b__law_draw T) (fun σ => passAt tk σ) (pa_cons (pv 0) (pa_cons pe_int pa_nil))) (fun _ _ => rfl)))
      (pss_cons (ps_set (i := 3) sc__law_pattern.nd rfl (Or.inl rfl) (pv 1))
      (pss_cons (ps_if (pt_cmpR (kEq K (hu := hr.units)) (pv 2) pe_str (nomark _)) (pss_one (ps_set (i := 3) sc__law_pattern.nd rfl (Or.inl rfl) (pe_op (kAdd K) pe_str (pv 1)))) pss_nil)
      (pss_cons (ps_set (i := 4) sc__law_pattern.nd rfl (Or.inl rfl) (pe_lst (pa_cons (pe_callS (ok__law_set (C := C) T) (hr.mono (by decide)) (by rfl) T.f__law_set.g T.f__law_set.F.kp (b__law_set T) (fun σ => passAt tk σ) (pa_cons (pv 0) (pa_cons (pv 3) pa_nil))) pa_nil)))
      (pss_cons (ps_if (pt_cmpR (kIn K (hu := u65 hr)) (pv 2) (pe_lst (pa_cons pe_str (pa_cons pe_str pa_nil))) (by rfl)) (pss_one (ps_expr (pe_bm PySem.F.plainAttrs_list PySem.F.slot_list_append PySem.F.type_list_append mt_append (pv 4) (pa_cons (pe_callS (ok__law_set (C := C) T) (hr.mono (by decide)) (by rfl) T.f__law_set.g T.f__law_set.F.kp (b__law_set T) (fun σ => passAt tk σ) (pa_cons (pv 0) (pa_cons (pv 3) pa_nil))) pa_nil)))) pss_nil)
      (pss_one (ps_ret (pe_tup (pa_cons (pe_callTy (kTupleB K (hc := rfl)) (by rfl) T.m_tuple boot_tuple (pa_cons (pe_op (kAdd K) (pe_lst (pa_cons (pv 2) pa_nil)) (pv 4)) pa_nil)) (pa_cons (pe_op (kAdd K) (pe_op (kAdd K) pe_int (pe_op op_fdivW (pe_callS (ok__law_draw (C := C) T) (hr.mono (by decide)) (by rfl) T.f__law_draw.g T.f__law_draw.F.kp (b__law_draw T) (fun σ => passAt tk σ) (pa_cons (pv 0) (pa_cons pe_int pa_nil))) pe_int)) (pe_op (kMulC K) (pe_callS (ok__law_draw (C := C) T) (hr.mono (by decide)) (by rfl) T.f__law_draw.g T.f__law_draw.F.kp (b__law_draw T) (fun σ => passAt tk σ) (pa_cons (pv 0) (pa_cons pe_int pa_nil))) (pe_callS (ok__law_draw (C := C) T) (hr.mono (by decide)) (by rfl) T.f__law_draw.g T.f__law_draw.F.kp (b__law_draw T) (fun σ => passAt tk σ) (pa_cons (pv 0) (pa_cons pe_int pa_nil))))) pa_nil)))))))))), ?_⟩)
  exact (s_seq (s_asg (d_op ro_ix (d_ofL (l_lst (d_cons (d_str _) (d_cons (d_str _) (d_cons (d_str _) (d_cons (d_str _) (d_cons (d_str _) (d_cons (d_str _) d_nil)))))))) (d_callP (d_cons (d_int 6) d_nil))) (g_name 2))
      (s_seq (s_asg (d_var 1) (g_name 3))
      (s_seq (s_if (dt_test (d_op ro_eq (d_var 2) (d_str _))) (s_asg (d_op ro_add (d_str _) (d_var 1)) (g_name 3)) s_nx)
      (s_seq (s_setO (l_lst (d_cons (d_callP (d_cons (d_var 3) d_nil)) d_nil)))
      (s_seq (s_if (dt_test (d_op ro_in (d_var 2) (d_ofL (l_lst (d_cons (d_str _) (d_cons (d_str _) d_nil)))))) (s_app (d_callP (d_cons (d_var 3) d_nil))) s_nx)
      (s_ret (d_tup (d_cons (d_cb rc_tupleA (d_cons (d_op ro_add (d_ofL (l_lst (d_cons (d_var 2) d_nil))) (d_own 4)) d_nil)) (d_cons (d_op ro_add (d_op ro_add (d_int 1) (d_op ro_fdiv (d_callP (d_cons (d_int 6) d_nil)) (d_int 4))) (d_op ro_mulC (d_callP (d_cons (d_int 2) d_nil)) (d_callP (d_cons (d_int 2) d_nil)))) d_nil)))))))))
theorem b__law_code (T : TX K mg w) : Binds K T.f__law_code.fd ["_law_pool_here", "_law_most"] [] := T.f__law_code.F.bindsN fun _ _ _ _ _ _ us hl => match us, hl with | [_, _], _ => rfl
set_option maxHeartbeats 4000000 in
theorem ok__law_code (T : TX K mg w) : FnOk P w K mg base (L2.CX P w) 4 T.f__law_code.f T.f__law_code.fd ["_law_pool_here", "_law_most"] (spF ⟨K, C⟩ 2 m__law_code) := by
  refine fn_ok T.f__law_code.F sc__law_code (fun cdv A outer s H E hr tk po => ⟨_, (pss_cons (ps_set (i := 2) sc__law_code.nd rfl (Or.inr rfl) (pe_callS (ok__law_signs (C := C) T) (hr.mono (by decide)) (by rfl) T.f__law_signs.g T.f__law_signs.F.kp (b__law_signs T) (fun σ => passAt tk σ) (pa_cons (pv 0) pa_nil)))
      (pss_cons (ps_set (i := 3) sc__law_code.nd rfl (Or.inr rfl) (pe_lst pa_nil))
      (pss_cons (ps_set (i := 4) sc__law_code.nd rfl (Or.inl rfl) (pe_lst pa_nil))
      (pss_cons (ps_for po rfl (pi_range1 (by rfl) T.m_range (pa_cons (pe_op (kAdd K) pe_int (pe_callS (ok__law_draw (C := C) T) (hr.mono (by decide)) (by rfl) T.f__law_draw.g T.f__law_draw.F.kp (b__law_draw T) (fun σ => passAt tk σ) (pa_cons (pv 0) (pa_cons (pv 1) pa_nil)))) pa_nil)) (pg_name (i := 5) sc__law_code.nd rfl (Or.inl rfl)) (pss_cons (ps_expr (pe_bm PySem.F.plainAttrs_list PySem.F.slot_list_append PySem.F.type_list_append mt_append (pv 3) (pa_cons (pe_callS (ok__law_name (C := C) T) (hr.mono (by decide)) (by rfl) T.f__law_name.g T.f__law_name.F.kp (b__law_name T) (fun σ => passAt tk σ) (pa_cons (pv 0) (pa_cons (pv 3) pa_nil))) pa_nil)))
      (pss_cons (ps_set (i := 6) sc__law_code.nd rfl (Or.inl rfl) (pe_lst (pa_cons pe_str (pa_cons pe_str (pa_cons pe_str (pa_cons pe_str (pa_cons pe_str (pa_cons pe_str (pa_cons pe_str pa_nil)))))))))
      (pss_cons (ps_if (pt_cmpR (kEq K (hu := hr.units)) (pe_callS (ok__law_draw (C := C) T) (hr.mono (by decide)) (by rfl) T.f__law_draw.g T.f__law_draw.F.kp (b__law_draw T) (fun σ => passAt tk σ) (pa_cons (pv 0) (pa_cons pe_int pa_nil))) pe_int (nomark _)) (pss_one (ps_asg (pe_ix (kIx K) (pe_op (kAdd K) (pe_lc (own := [("_law_word", 9)]) rfl sc__law_code.nd (kPiList K (pe_slice (kSl K) (pv 6) (po_some (pe_callS (ok__law_draw (C := C) T) (hr.mono (by decide)) (by rfl) T.f__law_draw.g T.f__law_draw.F.kp (b__law_draw T) (fun σ => passAt tk σ) (pa_cons (pv 0) (pa_cons pe_int pa_nil)))) po_none)) (blkOk_by (own := [("_law_word", 9)]) (N := N__law_code) (sc := defScope st__law_code) (by decide +kernel)) (fun _ _ _ _ _ => (pg_name (i := 9) sc__law_code.nd rfl (by first | exact Or.inl rfl | exact Or.inr rfl))) (fun _ _ _ _ _ => (pts_one (pt_cmpR (kNotIn K (hu := u65 hr)) (pv 9) (pv 3) (by rfl)))) (fun _ _ _ _ _ => (pv 9))) (pe_slice (kSl K) (pv 3) (po_some (pv 5)) po_none)) pe_int (fun _ _ => rfl)) (pg_sub (pv 3) (pv 5) set_list))) pss_nil)
      (pss_cons (ps_set (i := 7) sc__law_code.nd rfl (Or.inl rfl) (pe_callTy (kTupleB K (hc := rfl)) (by rfl) T.m_tuple boot_tuple (pa_cons (pe_lc (own := [("_law_turn", 8)]) rfl sc__law_code.nd (pi_range1 (by rfl) T.m_range (pa_cons (pe_op (kAdd K) pe_int (pe_callS (ok__law_draw (C := C) T) (hr.mono (by decide)) (by rfl) T.f__law_draw.g T.f__law_draw.F.kp (b__law_draw T) (fun σ => passAt tk σ) (pa_cons (pv 0) (pa_cons pe_int pa_nil)))) pa_nil)) (blkOk_by (own := [("_law_turn", 8)]) (N := N__law_code) (sc := defScope st__law_code) (by decide +kernel)) (fun _ _ _ _ _ => (pg_name (i := 8) sc__law_code.nd rfl (by first | exact Or.inl rfl | exact Or.inr rfl))) (fun _ _ _ _ _ => pts_nil) (fun _ _ _ _ _ => (pe_callS (ok__law_pattern (C := C) T) (hr.mono (by decide)) (by rfl) T.f__law_pattern.g T.f__law_pattern.F.kp (b__law_pattern T) (fun σ => passAt takes0 σ) (pa_cons (pv 0) (pa_cons (pv 2) pa_nil))))) pa_nil)))
      (pss_one (ps_expr (pe_bm PySem.F.plainAttrs_list PySem.F.slot_list_append PySem.F.type_list_append mt_append (pv 4) (pa_cons (pe_tup (pa_cons (pe_ix (kIx K) (pv 3) (pv 5) (fun _ _ => rfl)) (pa_cons (pv 7) pa_nil))) pa_nil)))))))))
      (pss_one (ps_ret (pe_tup (pa_cons (pv 2) (pa_cons (pe_callTy (kTupleB K (hc := rfl)) (by rfl) T.m_tuple boot_tuple (pa_cons (pv 4) pa_nil)) pa_nil))))))))), ?_⟩)
  exact (s_seq (s_asg (d_callP d_nil) (g_name 2))
      (s_seq (s_setO (l_lst d_nil))
      (s_seq (s_setO (l_lst d_nil))
      (s_seq (s_for (i_rng1 (d_cons (d_op ro_add (d_int 1) (d_callP (d_cons (d_var 1) d_nil))) d_nil)) (g_name 5) (s_seq (s_app (d_callPB (d_cons (d_own 3) d_nil)))
      (s_seq (s_asg (d_ofL (l_lst (d_cons (d_str _) (d_cons (d_str _) (d_cons (d_str _) (d_cons (d_str _) (d_cons (d_str _) (d_cons (d_str _) (d_cons (d_str _) d_nil))))))))) (g_name 6))
      (s_seq (s_if (dt_test (d_op ro_eq (d_callP (d_cons (d_int 8) d_nil)) (d_int 1))) (s_setI (d_op ro_ix (d_op ro_add (d_ofL (l_lc (i_list (d_sl rs_sl (d_var 6) (do_some (d_callP (d_cons (d_int 7) d_nil))) do_none)) (g_name 9) (by decide) (dt_test (d_op ro_notIn (d_var 9) (d_own 3))) (d_var 9))) (d_sl rs_sl (d_own 3) (do_some (d_var 5)) do_none)) (d_int 0)) (d_var 5)) s_nx)
      (s_seq (s_asg (d_cb rc_tupleA (d_cons (d_ofL (l_lc (i_rng1 (d_cons (d_op ro_add (d_int 1) (d_callP (d_cons (d_int 3) d_nil))) d_nil)) (g_name 8) (by decide) dt_yes (d_callP (d_cons (d_var 2) d_nil)))) d_nil)) (g_name 7))
      (s_app (d_tup (d_cons (d_op ro_ix (d_own 3) (d_var 5)) (d_cons (d_var 7) d_nil)))))))))
      (s_ret (d_tup (d_cons (d_var 2) (d_cons (d_cb rc_tupleA (d_cons (d_own 4) d_nil)) d_nil))))))))
theorem b__law_rows (T : TX K mg w) : Binds K T.f__law_rows.fd ["_law_code_here"] [] := T.f__law_rows.F.bindsN fun _ _ _ _ _ _ us hl => match us, hl with | [_], _ => rfl
set_option maxHeartbeats 4000000 in
theorem ok__law_rows (T : TX K mg w) : FnOk P w K mg base (L2.CX P w) 1 T.f__law_rows.f T.f__law_rows.fd ["_law_code_here"] (spF ⟨K, C⟩ 1 m__law_rows) := by
  refine fn_ok T.f__law_rows.F sc__law_rows (fun cdv A outer s H E hr tk po => ⟨_, (pss_cons (ps_set (i := 1) sc__law_rows.nd rfl (Or.inl rfl) (pe_lst (pa_cons (pe_op (kAdd K) pe_str (pe_ix (kIx K) (pv 0) pe_int (fun _ _ => rfl))) pa_nil)))
      (pss_cons (ps_for po rfl (kPiTup K (pe_ix (kIx K) (pv 0) pe_int (fun _ _ => rfl))) (kgTup (n := 2) K rfl (pgs_cons (pg_name (i := 2) sc__law_rows.nd rfl (Or.inl rfl)) (pgs_cons (pg_name (i := 3) sc__law_rows.nd rfl (Or.inl rfl)) pgs_nil))) (pss_cons (ps_set (i := 4) sc__law_rows.nd rfl (Or.inl rfl) (pe_lst pa_nil))
      (pss_cons (ps_for po rfl (kPiTup K (pv 3)) (kgTup (n := 2) K rfl (pgs_cons (pg_name (i := 5) sc__law_rows.nd rfl (Or.inl rfl)) (pgs_cons (pg_name (i := 6) sc__law_rows.nd rfl (Or.inl rfl)) pgs_nil))) (pss_one (ps_expr (pe_bm PySem.F.plainAttrs_list PySem.F.slot_list_append PySem.F.type_list_append mt_append (pv 4) (pa_cons (pe_op (kAdd K) (pe_m1 PySem.F.slot_str_join PySem.F.type_str_join (kJoin K) pe_str (pv 5)) (pe_ix (kIx K) (pe_lst (pa_cons (pe_op (kAdd K) pe_str (pe_callTy call_str_int (by rfl) T.m_str boot_str (pa_cons (pv 6) pa_nil))) (pa_cons pe_str pa_nil))) (pe_callTy call_int1 (by rfl) T.m_int boot_int (pa_cons (pe_cmpR (kEq K (hu := hr.units)) (pv 6) pe_int (nomark _)) pa_nil)) (fun _ _ => rfl))) pa_nil)))))
      (pss_one (ps_expr (pe_bm PySem.F.plainAttrs_list PySem.F.slot_list_append PySem.F.type_list_append mt_append (pv 1) (pa_cons (pe_op (kAdd K) (pe_op (kAdd K) (pv 2) pe_str) (pe_m1 PySem.F.slot_str_join PySem.F.type_str_join (kJoin K) pe_str (pv 4))) pa_nil)))))))
      (pss_one (ps_ret (pv 1))))), ?_⟩)
  exact (s_seq (s_setO (l_lst (d_cons (d_op ro_add (d_str _) (d_op ro_ix (d_var 0) (d_int 0))) d_nil)))
      (s_seq (s_for (i_tup (d_op ro_ix (d_var 0) (d_int 1))) (g_tup (gs_cons (g_name 2) (gs_cons (g_name 3) gs_nil))) (s_seq (s_setO (l_lst d_nil))
      (s_seq (s_for (i_tup (d_var 3)) (g_tup (gs_cons (g_name 5) (gs_cons (g_name 6) gs_nil))) (s_app (d_op ro_add (d_m1 rm_join (d_str _) (d_var 5)) (d_op ro_ix (d_ofL (l_lst (d_cons (d_op ro_add (d_str _) (d_cb rc_str (d_cons (d_var 6) d_nil))) (d_cons (d_str _) d_nil)))) (d_cb rc_intOf (d_cons (d_op ro_eq (d_var 6) (d_int 1)) d_nil))))))
      (s_app (d_op ro_add (d_op ro_add (d_var 2) (d_str _)) (d_m1 rm_join (d_str _) (d_own 4)))))))
      (s_frz 1 (s_ret (d_var 1)))))
theorem b__law_bent (T : TX K mg w) : Binds K T.f__law_bent.fd ["_law_pool_here", "_law_text"] [] := T.f__law_bent.F.bindsN fun _ _ _ _ _ _ us hl => match us, hl with | [_, _], _ => rfl
set_option maxHeartbeats 4000000 in
theorem ok__law_bent (T : TX K mg w) : FnOk P w K mg base (L2.CX P w) 2 T.f__law_bent.f T.f__law_bent.fd ["_law_pool_here", "_law_text"] (spF ⟨K, C⟩ 2 m__law_bent) := by
  refine fn_ok T.f__law_bent.F sc__law_bent (fun cdv A outer s H E hr tk po => ⟨_, (pss_cons (ps_set (i := 2) sc__law_bent.nd rfl (Or.inl rfl) (pe_callS (ok__law_draw (C := C) T) (hr.mono (by decide)) (by rfl) T.f__law_draw.g T.f__law_draw.F.kp (b__law_draw T) (fun σ => passAt tk σ) (pa_cons (pv 0) (pa_cons pe_int pa_nil))))
      (pss_cons (ps_set (i := 3) sc__law_bent.nd rfl (Or.inl rfl) (pe_callS (ok__law_draw (C := C) T) (hr.mono (by decide)) (by rfl) T.f__law_draw.g T.f__law_draw.F.kp (b__law_draw T) (fun σ => passAt tk σ) (pa_cons (pv 0) (pa_cons (pe_op (kAdd K) (pe_callB (kLen K) (by rfl) T.m_len PySem.boot_len (pa_cons (pv 1) pa_nil)) pe_int) pa_nil))))
      (pss_cons (ps_if (pt_cmpR opLt (pv 2) pe_int (nomark _)) (pss_cons (ps_set (i := 4) sc__law_bent.nd rfl (Or.inl rfl) (pe_lst (pa_cons pe_str (pa_cons pe_str (pa_cons pe_str (pa_cons pe_str (pa_cons pe_str (pa_cons pe_str (pa_cons pe_str (pa_cons pe_str (pa_cons pe_str (pa_cons pe_str (pa_cons pe_str (pa_cons pe_str (pa_cons pe_str (pa_cons pe_str (pa_cons pe_str (pa_cons pe_str pa_nil))))))))))))))))))
      (pss_one (ps_ret (pe_op (kAdd K) (pe_op (kAdd K) (pe_slice (kSl K) (pv 1) po_none (po_some (pv 3))) (pe_ix (kIx K) (pv 4) (pe_callS (ok__law_draw (C := C) T) (hr.mono (by decide)) (by rfl) T.f__law_draw.g T.f__law_draw.F.kp (b__law_draw T) (fun σ => passAt tk σ) (pa_cons (pv 0) (pa_cons pe_int pa_nil))) (fun _ _ => rfl))) (pe_slice (kSl K) (pv 1) (po_some (pe_op (kAdd K) (pv 3) (pe_callS (ok__law_draw (C := C) T) (hr.mono (by decide)) (by rfl) T.f__law_draw.g T.f__law_draw.F.kp (b__law_draw T) (fun σ => passAt tk σ) (pa_cons (pv 0) (pa_cons pe_int pa_nil))))) po_none))))) pss_nil)
      (pss_cons (ps_set (i := 5) sc__law_bent.nd rfl (Or.inl rfl) (pe_split (pv 1) pe_str))
      (pss_cons (ps_set (i := 6) sc__law_bent.nd rfl (Or.inl rfl) (pe_callS (ok__law_draw (C := C) T) (hr.mono (by decide)) (by rfl) T.f__law_draw.g T.f__law_draw.F.kp (b__law_draw T) (fun σ => passAt tk σ) (pa_cons (pv 0) (pa_cons (pe_callB (kLen K) (by rfl) T.m_len PySem.boot_len (pa_cons (pv 5) pa_nil)) pa_nil))))
      (pss_cons (ps_if (pt_cmpR (kEq K (hu := hr.units)) (pv 2) pe_int (nomark _)) (pss_one (ps_ret (pe_m1 PySem.F.slot_str_join PySem.F.type_str_join (kJoin K) pe_str (pe_op (kAdd K) (pe_slice (kSl K) (pv 5) po_none (po_some (pv 6))) (pe_slice (kSl K) (pv 5) (po_some (pe_op (kAdd K) (pv 6) pe_int)) po_none))))) pss_nil)
      (pss_cons (ps_set (i := 7) sc__law_bent.nd rfl (Or.inl rfl) (pe_slice (kSl K) (pv 5) (po_some (pv 6)) (po_some (pe_op (kAdd K) (pv 6) pe_int))))
      (pss_one (ps_ret (pe_m1 PySem.F.slot_str_join PySem.F.type_str_join (kJoin K) pe_str (pe_op (kAdd K) (pe_op (kAdd K) (pe_slice (kSl K) (pv 5) po_none (po_some (pv 6))) (pe_rev K (pv 7))) (pe_slice (kSl K) (pv 5) (po_some (pe_op (kAdd K) (pv 6) pe_int)) po_none)))))))))))), ?_⟩)
  exact (s_seq (s_asg (d_callP (d_cons (d_int 5) d_nil)) (g_name 2))
      (s_seq (s_asg (d_callP (d_cons (d_op ro_add (d_cb rc_len (d_cons (d_var 1) d_nil)) (d_int 1)) d_nil)) (g_name 3))
      (s_seq (s_if (dt_test (d_op ro_lt (d_var 2) (d_int 3))) (s_seq (s_asg (d_ofL (l_lst (d_cons (d_str _) (d_cons (d_str _) (d_cons (d_str _) (d_cons (d_str _) (d_cons (d_str _) (d_cons (d_str _) (d_cons (d_str _) (d_cons (d_str _) (d_cons (d_str _) (d_cons (d_str _) (d_cons (d_str _) (d_cons (d_str _) (d_cons (d_str _) (d_cons (d_str _) (d_cons (d_str _) (d_cons (d_str _) d_nil)))))))))))))))))) (g_name 4))
      (s_ret (d_op ro_add (d_op ro_add (d_sl rs_sl (d_var 1) do_none (do_some (d_var 3))) (d_op ro_ix (d_var 4) (d_callP (d_cons (d_int 16) d_nil)))) (d_sl rs_sl (d_var 1) (do_some (d_op ro_add (d_var 3) (d_callP (d_cons (d_int 3) d_nil)))) do_none)))) s_nx)
      (s_seq (s_asg (d_m1 rm_split (d_var 1) (d_str _)) (g_name 5))
      (s_seq (s_asg (d_callP (d_cons (d_cb rc_len (d_cons (d_var 5) d_nil)) d_nil)) (g_name 6))
      (s_seq (s_if (dt_test (d_op ro_eq (d_var 2) (d_int 3))) (s_ret (d_m1 rm_join (d_str _) (d_op ro_add (d_sl rs_sl (d_var 5) do_none (do_some (d_var 6))) (d_sl rs_sl (d_var 5) (do_some (d_op ro_add (d_var 6) (d_int 1))) do_none)))) s_nx)
      (s_seq (s_asg (d_sl rs_sl (d_var 5) (do_some (d_var 6)) (do_some (d_op ro_add (d_var 6) (d_int 2)))) (g_name 7))
      (s_ret (d_m1 rm_join (d_str _) (d_op ro_add (d_op ro_add (d_sl rs_sl (d_var 5) do_none (do_some (d_var 6))) (d_un ru_rev (d_var 7))) (d_sl rs_sl (d_var 5) (do_some (d_op ro_add (d_var 6) (d_int 2))) do_none)))))))))))
theorem b__law_is_set (T : TX K mg w) : Binds K T.f__law_is_set.fd ["_law_word", "_law_among"] [] := T.f__law_is_set.F.bindsN fun _ _ _ _ _ _ us hl => match us, hl with | [_, _], _ => rfl
set_option maxHeartbeats 4000000 in
theorem ok__law_is_set (T : TX K mg w) : FnOk P w K mg base (L2.CX P w) 1 T.f__law_is_set.f T.f__law_is_set.fd ["_law_word", "_law_among"] (spF ⟨K, C⟩ 2 m__law_is_set) := by
  refine fn_ok T.f__law_is_set.F sc__law_is_set (fun cdv A outer s H E hr tk po => ⟨_, (pss_cons (ps_if ((pw_or (pt_cmpR (kEq K (hu := hr.units)) (pv 0) pe_str (nomark _)) (pw_or1 (pt_not (pt_val (pe_callB (kAll K (hc := rfl)) (by rfl) T.m_all bt_all (pa_cons (pe_lc (own := [("_law_sign", 3)]) rfl sc__law_is_set.nd (pi_str (pv 0)) (blkOk_by (own := [("_law_sign", 3)]) (N := N__law_is_set) (sc := defScope st__law_is_set) (by decide +kernel)) (fun _ _ _ _ _ => (pg_name (i := 3) sc__law_is_set.nd rfl (by first | exact Or.inl rfl | exact Or.inr rfl))) (fun _ _ _ _ _ => pts_nil) (fun _ _ _ _ _ => (pe_cmpR (kIn K (hu := u65 hr)) (pv 3) (pv 1) (by rfl)))) pa_nil))))))).pt (pss_one (ps_ret pe_bl)) pss_nil)
      (pss_one (ps_ret (pe_callB (kAll K (hc := rfl)) (by rfl) T.m_all bt_all (pa_cons (pe_lc (own := [("_law_k", 2)]) rfl sc__law_is_set.nd (pi_range1 (by rfl) T.m_range (pa_cons (pe_op op_sub (pe_callB (kLen K) (by rfl) T.m_len PySem.boot_len (pa_cons (pv 0) pa_nil)) pe_int) pa_nil)) (blkOk_by (own := [("_law_k", 2)]) (N := N__law_is_set) (sc := defScope st__law_is_set) (by decide +kernel)) (fun _ _ _ _ _ => (pg_name (i := 2) sc__law_is_set.nd rfl (by first | exact Or.inl rfl | exact Or.inr rfl))) (fun _ _ _ _ _ => pts_nil) (fun _ _ _ _ _ => (pe_cmpR opLt (pe_ix (kIx K) (pv 0) (pv 2) (fun _ _ => rfl)) (pe_ix (kIx K) (pv 0) (pe_op (kAdd K) (pv 2) pe_int) (fun _ _ => rfl)) (nomark _)))) pa_nil))))), ?_⟩)
  exact (s_seq (s_if (dt_or (dt_test (d_op ro_eq (d_var 0) (d_str _))) (dt_not (dt_tB (d_cb rc_all (d_cons (d_ofL (l_lc (i_str (d_var 0)) (g_name 3) (by decide) dt_yes (d_op ro_in (d_var 3) (d_var 1)))) d_nil))))) (s_ret (d_bl false)) s_nx)
      (s_ret (d_cb rc_all (d_cons (d_ofL (l_lc (i_rng1 (d_cons (d_op ro_sub (d_cb rc_len (d_cons (d_var 0) d_nil)) (d_int 1)) d_nil)) (g_name 2) (by decide) dt_yes (d_op ro_lt (d_op ro_ix (d_var 0) (d_var 2)) (d_op ro_ix (d_var 0) (d_op ro_add (d_var 2) (d_int 1)))))) d_nil))))
theorem b__law_pattern_of (T : TX K mg w) : Binds K T.f__law_pattern_of.fd ["_law_text", "_law_signs_here"] [] := T.f__law_pattern_of.F.bindsN fun _ _ _ _ _ _ us hl => match us, hl with | [_, _], _ => rfl
set_option maxHeartbeats 4000000 in
theorem ok__law_pattern_of (T : TX K mg w) : FnOk P w K mg base (L2.CX P w) 2 T.f__law_pattern_of.f T.f__law_pattern_of.fd ["_law_text", "_law_signs_here"] (spF ⟨K, C⟩ 2 m__law_pattern_of) := by
  refine fn_ok T.f__law_pattern_of.F sc__law_pattern_of (fun cdv A outer s H E hr tk po => ⟨_, (pss_cons (ps_set (i := 2) sc__law_pattern_of.nd rfl (Or.inl rfl) (pe_split (pv 0) pe_str))
      (pss_cons (ps_set (i := 3) sc__law_pattern_of.nd rfl (Or.inl rfl) pe_int)
      (pss_cons (ps_if (pt_cmpR (kIn K (hu := u65 hr)) (pe_ix (kIx K) (pv 2) (pe_un un_neg pe_int) (fun _ _ => rfl)) (pe_lst (pa_cons pe_str (pa_cons pe_str pa_nil))) (by rfl)) (pss_one (ps_set (i := 3) sc__law_pattern_of.nd rfl (Or.inl rfl) (pe_callTy call_int_str (by rfl) T.m_int boot_int (pa_cons (pe_slice (kSl K) (pe_bm0 PySem.F.plainAttrs_list PySem.F.slot_list_pop PySem.F.type_list_pop mt_pop (pv 2)) (po_some pe_int) po_none) pa_nil)))) pss_nil)
      (pss_cons (ps_set (i := 4) sc__law_pattern_of.nd rfl (Or.inl rfl) (pe_disp (pps_cons pe_str pe_int (pps_cons pe_str pe_int (pps_cons pe_str pe_int (pps_cons pe_str pe_int (pps_cons pe_str pe_int pps_nil))))) (by rfl) (by rfl) (fun z => by cases z) (by decide)))
      (pss_cons (ps_if ((pw_or (pt_cmpR (kEq K (hu := hr.units)) (pv 2) (pe_lst pa_nil) (nomark _)) (pw_or1 (pt_cmpR (kNe K (hu := hr.units)) (pe_callB (kLen K) (by rfl) T.m_len PySem.boot_len (pa_cons (pv 2) pa_nil)) (pe_dget2 (u1 hr) (pv 4) (pe_ix (kIx K) (pv 2) pe_int (fun _ _ => rfl)) pe_int ⟨rfl, rfl, rfl, rfl⟩) (nomark _))))).pt (pss_one (ps_ret pe_non)) pss_nil)
      (pss_cons (ps_set (i := 5) sc__law_pattern_of.nd rfl (Or.inr rfl) (pe_op (kAdd K) (pe_ix (kIx K) (pe_lst (pa_cons pe_str (pa_cons pe_str pa_nil))) (pe_callTy call_int1 (by rfl) T.m_int boot_int (pa_cons (pe_cmpR (kEq K (hu := hr.units)) (pe_ix (kIx K) (pv 2) pe_int (fun _ _ => rfl)) pe_str (nomark _)) pa_nil)) (fun _ _ => rfl)) (pv 1)))
      (pss_cons (ps_if (pt_not (pt_val (pe_callB (kAll K (hc := rfl)) (by rfl) T.m_all bt_all (pa_cons (pe_lc (own := [("_law_word", 6)]) rfl sc__law_pattern_of.nd (kPiList K (pe_slice (kSl K) (pv 2) (po_some pe_int) po_none)) (blkOk_by (own := [("_law_word", 6)]) (N := N__law_pattern_of) (sc := defScope st__law_pattern_of) (by decide +kernel)) (fun _ _ _ _ _ => (pg_name (i := 6) sc__law_pattern_of.nd rfl (by first | exact Or.inl rfl | exact Or.inr rfl))) (fun _ _ _ _ _ => pts_nil) (fun _ _ _ _ _ => (pe_callS (ok__law_is_set (C := C) T) (hr.mono (by decide)) (by rfl) T.f__law_is_set.g T.f__law_is_set.F.kp (b__law_is_set T) (fun σ => passAt takes0 σ) (pa_cons (pv 6) (pa_cons (pv 5) pa_nil))))) pa_nil)))) (pss_one (ps_ret pe_non)) pss_nil)
      (pss_one (ps_ret (pe_tup (pa_cons (pe_callTy (kTupleB K (hc := rfl)) (by rfl) T.m_tuple boot_tuple (pa_cons (pv 2) pa_nil)) (pa_cons (pv 3) pa_nil)))))))))))), ?_⟩)
  exact (s_seq (s_setO (l_split (d_var 0) (d_str _)))
      (s_seq (s_asg (d_int 1) (g_name 3))
      (s_seq (s_if (dt_test (d_op ro_in (d_op ro_ix (d_own 2) (d_un ru_neg (d_int 1))) (d_ofL (l_lst (d_cons (d_str _) (d_cons (d_str _) d_nil)))))) (s_asg (d_cb rc_intS (d_cons (d_sl rs_sl d_pop (do_some (d_int 1)) do_none) d_nil)) (g_name 3)) s_nx)
      (s_seq (s_asg (d_dispC [("sign", 2), ("drop", 2), ("add", 2), ("change", 3), ("beside", 3)] (by decide) (by decide +kernel)) (g_name 4))
      (s_seq (s_if (dt_or (dt_test (d_op ro_eq (d_own 2) (d_ofL (l_lst d_nil)))) (dt_test (d_op ro_ne (d_cb rc_len (d_cons (d_own 2) d_nil)) (d_dget2 (d_var 4) (d_op ro_ix (d_own 2) (d_int 0)) (d_int 0))))) (s_ret d_non) s_nx)
      (s_seq (s_asg (d_op ro_add (d_op ro_ix (d_ofL (l_lst (d_cons (d_str _) (d_cons (d_str _) d_nil)))) (d_cb rc_intOf (d_cons (d_op ro_eq (d_op ro_ix (d_own 2) (d_int 0)) (d_str _)) d_nil))) (d_var 1)) (g_name 5))
      (s_seq (s_if (dt_not (dt_tB (d_cb rc_all (d_cons (d_ofL (l_lc (i_list (d_sl rs_sl (d_own 2) (do_some (d_int 1)) do_none)) (g_name 6) (by decide) dt_yes (d_call (d_cons (d_var 6) (d_cons (d_var 5) d_nil))))) d_nil)))) (s_ret d_non) s_nx)
      (s_ret (d_tup (d_cons (d_cb rc_tupleA (d_cons (d_own 2) d_nil)) (d_cons (d_var 3) d_nil)))))))))))
theorem b__law_wish_of (T : TX K mg w) : Binds K T.f__law_wish_of.fd ["_law_row", "_law_signs_here"] [] := T.f__law_wish_of.F.bindsN fun _ _ _ _ _ _ us hl => match us, hl with | [_, _], _ => rfl
set_option maxHeartbeats 4000000 in
theorem ok__law_wish_of (T : TX K mg w) : FnOk P w K mg base (L2.CX P w) 3 T.f__law_wish_of.f T.f__law_wish_of.fd ["_law_row", "_law_signs_here"] (spF ⟨K, C⟩ 2 m__law_wish_of) := by
  refine fn_ok T.f__law_wish_of.F sc__law_wish_of (fun cdv A outer s H E hr tk po => ⟨_, (pss_cons (ps_set (i := 2) sc__law_wish_of.nd rfl (Or.inl rfl) (pe_m1 PySem.F.slot_str_find PySem.F.type_str_find mt_find (pv 0) pe_str))
      (pss_cons (ps_if ((pw_or (pt_not (pt_chain op_le op_le pe_int (pv 2) pe_int)) (pw_or1 (pt_not (pt_val (pe_callB (kAll K (hc := rfl)) (by rfl) T.m_all bt_all (pa_cons (pe_lc (own := [("_law_sign", 5)]) rfl sc__law_wish_of.nd (pi_str (pe_slice (kSl K) (pv 0) po_none (po_some (pv 2)))) (blkOk_by (own := [("_law_sign", 5)]) (N := N__law_wish_of) (sc := defScope st__law_wish_of) (by decide +kernel)) (fun _ _ _ _ _ => (pg_name (i := 5) sc__law_wish_of.nd rfl (by first | exact Or.inl rfl | exact Or.inr rfl))) (fun _ _ _ _ _ => pts_nil) (fun _ _ _ _ _ => (pe_cmpR (kIn K (hu := u65 hr)) (pv 5) pe_str (by rfl)))) pa_nil))))))).pt (pss_one (ps_ret pe_non)) pss_nil)
      (pss_cons (ps_setLc (i := 3) (own := [("_law_part", 4)]) rfl sc__law_wish_of.nd rfl rfl (sw_true rfl rfl rfl (by decide +kernel)) (kPiList K (pe_split (pe_slice (kSl K) (pv 0) (po_some (pe_op (kAdd K) (pv 2) pe_int)) po_none) pe_str)) (blkOk_by (own := [("_law_part", 4)]) (N := N__law_wish_of) (sc := defScope st__law_wish_of) (by decide +kernel)) (fun _ _ _ _ _ => (pg_name (i := 4) sc__law_wish_of.nd rfl (by first | exact Or.inl rfl | exact Or.inr rfl))) (fun _ _ _ _ _ => pts_nil) (fun _ _ _ _ _ => (pe_callS (ok__law_pattern_of (C := C) T) (hr.mono (by decide)) (by rfl) T.f__law_pattern_of.g T.f__law_pattern_of.F.kp (b__law_pattern_of T) (fun σ => passAt takes0 σ) (pa_cons (pv 4) (pa_cons (pv 1) pa_nil)))))
      (pss_cons (ps_if ((pw_or (pt_cmpR (kIn K (hu := u65 hr)) pe_non (pv 3) (by rfl)) (pw_or1 (pt_cmpR op_gt (pe_callB (kLen K) (by rfl) T.m_len PySem.boot_len (pa_cons (pv 3) pa_nil)) pe_int (nomark _))))).pt (pss_one (ps_ret pe_non)) pss_nil)
      (pss_one (ps_ret (pe_tup (pa_cons (pe_slice (kSl K) (pv 0) po_none (po_some (pv 2))) (pa_cons (pe_callTy (kTupleB K (hc := rfl)) (by rfl) T.m_tuple boot_tuple (pa_cons (pv 3) pa_nil)) pa_nil))))))))), ?_⟩)
  exact (s_seq (s_asg (d_m1 rm_find (d_var 0) (d_str _)) (g_name 2))
      (s_seq (s_if (dt_or (dt_not (dt_test (d_chain ro_le ro_le (d_int 1) (d_var 2) (d_int 8)))) (dt_not (dt_tB (d_cb rc_all (d_cons (d_ofL (l_lc (i_str (d_sl rs_sl (d_var 0) do_none (do_some (d_var 2)))) (g_name 5) (by decide) dt_yes (d_op ro_in (d_var 5) (d_str _)))) d_nil))))) (s_ret d_non) s_nx)
      (s_seq (s_asg (d_ofL (l_lc (i_list (d_m1 rm_split (d_sl rs_sl (d_var 0) (do_some (d_op ro_add (d_var 2) (d_int 2))) do_none) (d_str _))) (g_name 4) (by decide) dt_yes (d_call (d_cons (d_var 4) (d_cons (d_var 1) d_nil))))) (g_name 3))
      (s_seq (s_if (dt_or (dt_test (d_op ro_in d_non (d_var 3))) (dt_test (d_op ro_gt (d_cb rc_len (d_cons (d_var 3) d_nil)) (d_int 3)))) (s_ret d_non) s_nx)
      (s_ret (d_tup (d_cons (d_sl rs_sl (d_var 0) do_none (do_some (d_var 2))) (d_cons (d_cb rc_tupleA (d_cons (d_var 3) d_nil)) d_nil))))))))
theorem b__law_reading (T : TX K mg w) : Binds K T.f__law_reading.fd ["_law_text"] [] := T.f__law_reading.F.bindsN fun _ _ _ _ _ _ us hl => match us, hl with | [_], _ => rfl
set_option maxHeartbeats 4000000 in
theorem ok__law_reading (T : TX K mg w) : FnOk P w K mg base (L2.CX P w) 4 T.f__law_reading.f T.f__law_reading.fd ["_law_text"] (spF ⟨K, C⟩ 1 m__law_reading) := by
  refine fn_ok T.f__law_reading.F sc__law_reading (fun cdv A outer s H E hr tk po => ⟨_, (pss_cons (ps_set (i := 1) sc__law_reading.nd rfl (Or.inl rfl) (pe_split (pv 0) pe_str))
      (pss_cons (ps_set (i := 2) sc__law_reading.nd rfl (Or.inl rfl) (pe_slice (kSl K) (pe_ix (kIx K) (pv 1) pe_int (fun _ _ => rfl)) (po_some pe_int) po_none))
      (pss_cons (ps_if ((pw_or (pt_cmpR (kNe K (hu := hr.units)) (pe_slice (kSl K) (pe_ix (kIx K) (pv 1) pe_int (fun _ _ => rfl)) po_none (po_some pe_int)) pe_str (nomark _)) (pw_or (pt_cmpR op_gt (pe_callB (kLen K) (by rfl) T.m_len PySem.boot_len (pa_cons (pv 2) pa_nil)) pe_int (nomark _)) (pw_or1 (pt_not (pt_val (pe_callS (ok__law_is_set (C := C) T) (hr.mono (by decide)) (by rfl) T.f__law_is_set.g T.f__law_is_set.F.kp (b__law_is_set T) (fun σ => passAt tk σ) (pa_cons (pv 2) (pa_cons pe_str pa_nil))))))))).pt (pss_one (ps_ret (pe_tup (pa_cons pe_str (pa_cons pe_int pa_nil))))) pss_nil)
      (pss_cons (ps_set (i := 3) sc__law_reading.nd rfl (Or.inl rfl) (pe_lst pa_nil))
      (pss_cons (ps_for po rfl (pi_range2 (by rfl) T.m_range (pa_cons pe_int (pa_cons (pe_callB (kLen K) (by rfl) T.m_len PySem.boot_len (pa_cons (pv 1) pa_nil)) pa_nil))) (pg_name (i := 4) sc__law_reading.nd rfl (Or.inl rfl)) (pss_cons (ps_set (i := 5) sc__law_reading.nd rfl (Or.inl rfl) (pe_callS (ok__law_wish_of (C := C) T) (hr.mono (by decide)) (by rfl) T.f__law_wish_of.g T.f__law_wish_of.F.kp (b__law_wish_of T) (fun σ => passAt tk σ) (pa_cons (pe_ix (kIx K) (pv 1) (pv 4) (fun _ _ => rfl)) (pa_cons (pv 2) pa_nil))))
      (pss_cons (ps_if ((pw_or (pt_cmpR op_isN (pv 5) pe_non (nomark _)) (pw_or (pt_cmpR (kEq K (hu := hr.units)) (pe_callB (kLen K) (by rfl) T.m_len PySem.boot_len (pa_cons (pv 3) pa_nil)) pe_int (nomark _)) (pw_or1 (pt_cmpR (kIn K (hu := u65 hr)) (pe_ix (kIx K) (pv 5) pe_int (fun _ _ => rfl)) (pe_lc (own := [("_law_one", 6)]) rfl sc__law_reading.nd (kPiList K (pv 3)) (blkOk_by (own := [("_law_one", 6)]) (N := N__law_reading) (sc := defScope st__law_reading) (by decide +kernel)) (fun _ _ _ _ _ => (pg_name (i := 6) sc__law_reading.nd rfl (by first | exact Or.inl rfl | exact Or.inr rfl))) (fun _ _ _ _ _ => pts_nil) (fun _ _ _ _ _ => (pe_ix (kIx K) (pv 6) pe_int (fun _ _ => rfl)))) (by rfl)))))).pt (pss_one (ps_ret (pe_tup (pa_cons pe_str (pa_cons (pv 4) pa_nil))))) pss_nil)
      (pss_one (ps_expr (pe_bm PySem.F.plainAttrs_list PySem.F.slot_list_append PySem.F.type_list_append mt_append (pv 3) (pa_cons (pv 5) pa_nil)))))))
      (pss_cons (ps_if (pt_cmpR (kEq K (hu := hr.units)) (pv 3) (pe_lst pa_nil) (nomark _)) (pss_one (ps_ret (pe_tup (pa_cons pe_str (pa_cons pe_int pa_nil))))) pss_nil)
      (pss_one (ps_ret (pe_tup (pa_cons pe_str (pa_cons (pe_tup (pa_cons (pv 2) (pa_cons (pe_callTy (kTupleB K (hc := rfl)) (by rfl) T.m_tuple boot_tuple (pa_cons (pv 3) pa_nil)) pa_nil))) pa_nil))))))))))), ?_⟩)
  exact (s_seq (s_asg (d_m1 rm_split (d_var 0) (d_str _)) (g_name 1))
      (s_seq (s_asg (d_sl rs_sl (d_op ro_ix (d_var 1) (d_int 0)) (do_some (d_int 6)) do_none) (g_name 2))
      (s_seq (s_if (dt_or (dt_test (d_op ro_ne (d_sl rs_sl (d_op ro_ix (d_var 1) (d_int 0)) do_none (do_some (d_int 6))) (d_str _))) (dt_or (dt_test (d_op ro_gt (d_cb rc_len (d_cons (d_var 2) d_nil)) (d_int 3))) (dt_not (dt_tB (d_call (d_cons (d_var 2) (d_cons (d_str _) d_nil))))))) (s_ret (d_tup (d_cons (d_str _) (d_cons (d_int 0) d_nil)))) s_nx)
      (s_seq (s_setO (l_lst d_nil))
      (s_seq (s_for (i_rng2 (d_cons (d_int 1) (d_cons (d_cb rc_len (d_cons (d_var 1) d_nil)) d_nil))) (g_name 4) (s_seq (s_asg (d_call (d_cons (d_op ro_ix (d_var 1) (d_var 4)) (d_cons (d_var 2) d_nil))) (g_name 5))
      (s_seq (s_if (dt_or (dt_test (d_op ro_isNone (d_var 5) d_non)) (dt_or (dt_test (d_op ro_eq (d_cb rc_len (d_cons (d_own 3) d_nil)) (d_int 5))) (dt_test (d_op ro_in (d_op ro_ix (d_var 5) (d_int 0)) (d_ofL (l_lcO (g_name 6) (by decide) dt_yes (d_op ro_ix (d_var 6) (d_int 0)))))))) (s_ret (d_tup (d_cons (d_str _) (d_cons (d_var 4) d_nil)))) s_nx)
      (s_app (d_var 5)))))
      (s_seq (s_if (dt_test (d_op ro_eq (d_own 3) (d_ofL (l_lst d_nil)))) (s_ret (d_tup (d_cons (d_str _) (d_cons (d_int 1) d_nil)))) s_nx)
      (s_ret (d_tup (d_cons (d_str _) (d_cons (d_tup (d_cons (d_var 2) (d_cons (d_cb rc_tupleA (d_cons (d_own 3) d_nil)) d_nil))) d_nil))))))))))
theorem b__law_told (T : TX K mg w) : Binds K T.f__law_told.fd ["_law_text"] [] := T.f__law_told.F.bindsN fun _ _ _ _ _ _ us hl => match us, hl with | [_], _ => rfl
set_option maxHeartbeats 4000000 in
theorem ok__law_told (T : TX K mg w) : FnOk P w K mg base (L2.CX P w) 8 T.f__law_told.f T.f__law_told.fd ["_law_text"] (spF ⟨K, C⟩ 1 m__law_told) := by
  refine fn_ok T.f__law_told.F sc__law_told (fun cdv A outer s H E hr tk po => ⟨_, (pss_cons (ps_set (i := 1) sc__law_told.nd rfl (Or.inl rfl) pe_non)
      (pss_cons (ps_try_TT (i := 2) rfl rfl rfl sc__law_told.nd rfl rfl ⟨by rfl, by decide, Or.inl T.y_NoText⟩ tk (fun W pn xe tk po => (pss_one (ps_set (i := 1) sc__law_told.nd rfl (Or.inl rfl) (pe_tup (pa_cons pe_str (pa_cons (pe_callS (ok_read_code (C := C) T) (hr.mono (by decide)) (by rfl) T.f_read_code.g T.f_read_code.F.kp (b_read_code T) (fun σ => passAt tk σ) (pa_cons (pv 0) pa_nil)) pa_nil)))))) (fun a pn => (pss_cons (ps_set (i := 1) sc__law_told.nd rfl (Or.inl rfl) (pe_tup (pa_cons pe_str (pa_cons (kXf K (pv 2)) pa_nil))))
      (pss_one (ps_if (pt_val (pe_callB (kIsi K) (by rfl) T.m_isinstance boot_isinstance (pa_cons (kXf K (pv 2)) (pa_cons (pe_bltn (v := .ty "bool") (by rfl) T.m_bool boot_bool rfl) pa_nil)))) (pss_one (ps_set (i := 1) sc__law_told.nd rfl (Or.inl rfl) pe_non)) pss_nil)))))
      (pss_one (ps_ret (pv 1))))), ?_⟩)
  exact (s_seq (s_asg d_non (g_name 1))
      (s_seq (s_tryH (c := "NoText") (T.x_ex "NoText" (by decide)) (fun W => (s_asg (d_tup (d_cons (d_str _) (d_cons (d_call (d_cons (d_var 0) d_nil)) d_nil))) (g_name 1))) (s_seq (s_asg (d_tup (d_cons (d_str _) (d_cons (d_xf (fun n h => by cases of_decide_eq_true h; exact ⟨T.i_NoText.xf, T.i_NoText.no⟩)) d_nil))) (g_name 1))
      (s_if (dt_tB (d_isi (d_xf (fun n h => by cases of_decide_eq_true h; exact ⟨T.i_NoText.xf, T.i_NoText.no⟩)))) (s_asg d_non (g_name 1)) s_nx)))
      (s_ret (d_var 1))))
theorem b_law (T : TX K mg w) : Binds K T.f_law.fd ["_law_script"] [] := T.f_law.F.bindsN fun _ _ _ _ _ _ us hl => match us, hl with | [_], _ => rfl
set_option maxHeartbeats 4000000 in
theorem ok_law (T : TX K mg w) : FnOk P w K mg base (L2.CX P w) 9 T.f_law.f T.f_law.fd ["_law_script"] (spF ⟨K, C⟩ 1 m_law) := by
  refine fn_ok T.f_law.F sc_law (fun cdv A outer s H E hr tk po => ⟨_, (pss_cons (ps_for po rfl (kPiList K (pe_op (kAdd K) (pe_lst (pa_cons pe_int pa_nil)) (pe_slice (kSl K) (pv 0) po_none (po_some pe_int)))) (pg_name (i := 1) sc_law.nd rfl (Or.inl rfl)) (pss_cons (ps_set (i := 2) sc_law.nd rfl (Or.inl rfl) (pe_callS (ok__law_pool (C := C) T) (hr.mono (by decide)) (by rfl) T.f__law_pool.g T.f__law_pool.F.kp (b__law_pool T) (fun σ => passAt tk σ) (pa_cons (pv 1) pa_nil)))
      (pss_cons (ps_set (i := 3) sc_law.nd rfl (Or.inl rfl) (pe_m1 PySem.F.slot_str_join PySem.F.type_str_join (kJoin K) pe_str (pe_callS (ok__law_rows (C := C) T) (hr.mono (by decide)) (by rfl) T.f__law_rows.g T.f__law_rows.F.kp (b__law_rows T) (fun σ => passAt tk σ) (pa_cons (pe_callS (ok__law_code (C := C) T) (hr.mono (by decide)) (by rfl) T.f__law_code.g T.f__law_code.F.kp (b__law_code T) (fun σ => passAt tk σ) (pa_cons (pv 2) (pa_cons pe_int pa_nil))) pa_nil))))
      (pss_one (ps_for po rfl (pi_range1 (by rfl) T.m_range (pa_cons pe_int pa_nil)) (pg_name (i := 4) sc_law.nd rfl (Or.inl rfl)) (pss_cons (ps_set (i := 5) sc_law.nd rfl (Or.inl rfl) (pv 3))
      (pss_cons (ps_for po rfl (pi_range1 (by rfl) T.m_range (pa_cons (pe_op (kAdd K) pe_int (pe_callS (ok__law_draw (C := C) T) (hr.mono (by decide)) (by rfl) T.f__law_draw.g T.f__law_draw.F.kp (b__law_draw T) (fun σ => passAt tk σ) (pa_cons (pv 2) (pa_cons pe_int pa_nil)))) pa_nil)) (pg_name (i := 6) sc_law.nd rfl (Or.inl rfl)) (pss_one (ps_set (i := 5) sc_law.nd rfl (Or.inl rfl) (pe_callS (ok__law_bent (C := C) T) (hr.mono (by decide)) (by rfl) T.f__law_bent.g T.f__law_bent.F.kp (b__law_bent T) (fun σ => passAt tk σ) (pa_cons (pv 2) (pa_cons (pv 5) pa_nil))))))
      (pss_cons (ps_set (i := 7) sc_law.nd rfl (Or.inl rfl) (pe_callS (ok__law_reading (C := C) T) (hr.mono (by decide)) (by rfl) T.f__law_reading.g T.f__law_reading.F.kp (b__law_reading T) (fun σ => passAt tk σ) (pa_cons (pv 5) pa_nil)))
      (pss_one (ps_if ((pw_or (pt_cmpR (kNe K (hu := hr.units)) (pe_callS (ok__law_told (C := C) T) (hr.mono (by decide)) (by rfl) T.f__law_told.g T.f__law_told.F.kp (b__law_told T) (fun σ => passAt tk σ) (pa_cons (pv 5) pa_nil)) (pv 7) (nomark _)) (pw_or1 ((pw_and (pt_cmpR (kEq K (hu := hr.units)) (pe_ix (kIx K) (pv 7) pe_int (fun _ _ => rfl)) pe_str (nomark _)) (pw_and1 (pt_cmpR (kNe K (hu := hr.units)) (pe_callS (ok_show_code (C := C) T) (hr.mono (by decide)) (by rfl) T.f_show_code.g T.f_show_code.F.kp (b_show_code T) (fun σ => passAt tk σ) (pa_cons (pe_ix (kIx K) (pv 7) pe_int (fun _ _ => rfl)) pa_nil)) (pv 5) (nomark _))))).pt))).pt (pss_one (ps_ret pe_bl)) pss_nil))))))))))
      (pss_one (ps_ret pe_bl))), ?_⟩)
  exact (s_seq (s_for (i_list (d_op ro_add (d_ofL (l_lst (d_cons (d_int 0) d_nil))) (d_sl rs_sl (d_var 0) do_none (do_some (d_int 12))))) (g_name 1) (s_seq (s_setO (l_call (d_cons (d_var 1) d_nil)))
      (s_seq (s_asg (d_m1 rm_join (d_str _) (d_call (d_cons (d_callP (d_cons (d_int 3) d_nil)) d_nil))) (g_name 3))
      (s_for (i_rng1 (d_cons (d_int 6) d_nil)) (g_name 4) (s_seq (s_asg (d_var 3) (g_name 5))
      (s_seq (s_for (i_rng1 (d_cons (d_op ro_add (d_int 1) (d_callP (d_cons (d_int 2) d_nil))) d_nil)) (g_name 6) (s_asg (d_callP (d_cons (d_var 5) d_nil)) (g_name 5)))
      (s_seq (s_asg (d_call (d_cons (d_var 5) d_nil)) (g_name 7))
      (s_if (dt_or (dt_test (d_op ro_ne (d_call (d_cons (d_var 5) d_nil)) (d_var 7))) (dt_and (dt_test (d_op ro_eq (d_op ro_ix (d_var 7) (d_int 0)) (d_str _))) (dt_test (d_op ro_ne (d_call (d_cons (d_op ro_ix (d_var 7) (d_int 1)) d_nil)) (d_var 5))))) (s_ret (d_bl false)) s_nx))))))))
      (s_ret (d_bl true)))
end
/-! ### the head -/
def d_is_whole : He.DefD := ⟨("is_whole", none), "is_whole", "is_whole", defArgs st_is_whole, defBody st_is_whole, defScope st_is_whole, [], []⟩
def d_is_name : He.DefD := ⟨("is_name", none), "is_name", "is_name", defArgs st_is_name, defBody st_is_name, defScope st_is_name, [], []⟩
def d_is_rising : He.DefD := ⟨("is_rising", none), "is_rising", "is_rising", defArgs st_is_rising, defBody st_is_rising, defScope st_is_rising, [], []⟩
def d_is_text_of : He.DefD := ⟨("is_text_of", none), "is_text_of", "is_text_of", defArgs st_is_text_of, defBody st_is_text_of, defScope st_is_text_of, [], []⟩
def d_are_signs : He.DefD := ⟨("are_signs", none), "are_signs", "are_signs", defArgs st_are_signs, defBody st_are_signs, defScope st_are_signs, [], []⟩
def d_is_set : He.DefD := ⟨("is_set", none), "is_set", "is_set", defArgs st_is_set, defBody st_is_set, defScope st_is_set, [], []⟩
def d_is_pattern : He.DefD := ⟨("is_pattern", none), "is_pattern", "is_pattern", defArgs st_is_pattern, defBody st_is_pattern, defScope st_is_pattern, [], []⟩
def d_is_counted : He.DefD := ⟨("is_counted", none), "is_counted", "is_counted", defArgs st_is_counted, defBody st_is_counted, defScope st_is_counted, [], []⟩
def d_is_wish : He.DefD := ⟨("is_wish", none), "is_wish", "is_wish", defArgs st_is_wish, defBody st_is_wish, defScope st_is_wish, [], []⟩
def d_are_wishes : He.DefD := ⟨("are_wishes", none), "are_wishes", "are_wishes", defArgs st_are_wishes, defBody st_are_wishes, defScope st_are_wishes, [], []⟩
def d_show_pattern : He.DefD := ⟨("show_pattern", none), "show_pattern", "show_pattern", defArgs st_show_pattern, defBody st_show_pattern, defScope st_show_pattern, [], []⟩
def d_show_wish : He.DefD := ⟨("show_wish", none), "show_wish", "show_wish", defArgs st_show_wish, defBody st_show_wish, defScope st_show_wish, [], []⟩
def d_show_code : He.DefD := ⟨("show_code", none), "show_code", "show_code", defArgs st_show_code, defBody st_show_code, defScope st_show_code, [], []⟩
def d_pattern_in : He.DefD := ⟨("pattern_in", none), "pattern_in", "pattern_in", defArgs st_pattern_in, defBody st_pattern_in, defScope st_pattern_in, [], []⟩
def d_wish_in : He.DefD := ⟨("wish_in", none), "wish_in", "wish_in", defArgs st_wish_in, defBody st_wish_in, defScope st_wish_in, [], []⟩
def d_read_code : He.DefD := ⟨("read_code", none), "read_code", "read_code", defArgs st_read_code, defBody st_read_code, defScope st_read_code, [], []⟩
def d__law_pool : He.DefD := ⟨("_law_pool", none), "_law_pool", "_law_pool", defArgs st__law_pool, defBody st__law_pool, defScope st__law_pool, [], []⟩
def d__law_draw : He.DefD := ⟨("_law_draw", none), "_law_draw", "_law_draw", defArgs st__law_draw, defBody st__law_draw, defScope st__law_draw, [], []⟩
def d__law_name : He.DefD := ⟨("_law_name", none), "_law_name", "_law_name", defArgs st__law_name, defBody st__law_name, defScope st__law_name, [], []⟩
def d__law_signs : He.DefD := ⟨("_law_signs", none), "_law_signs", "_law_signs", defArgs st__law_signs, defBody st__law_signs, defScope st__law_signs, [], []⟩
def d__law_set : He.DefD := ⟨("_law_set", none), "_law_set", "_law_set", defArgs st__law_set, defBody st__law_set, defScope st__law_set, [], []⟩
def d__law_pattern : He.DefD := ⟨("_law_pattern", none), "_law_pattern", "_law_pattern", defArgs st__law_pattern, defBody st__law_pattern, defScope st__law_pattern, [], []⟩
def d__law_code : He.DefD := ⟨("_law_code", none), "_law_code", "_law_code", defArgs st__law_code, defBody st__law_code, defScope st__law_code, [], []⟩
def d__law_rows : He.DefD := ⟨("_law_rows", none), "_law_rows", "_law_rows", defArgs st__law_rows, defBody st__law_rows, defScope st__law_rows, [], []⟩
def d__law_bent : He.DefD := ⟨("_law_bent", none), "_law_bent", "_law_bent", defArgs st__law_bent, defBody st__law_bent, defScope st__law_bent, [], []⟩
def d__law_is_set : He.DefD := ⟨("_law_is_set", none), "_law_is_set", "_law_is_set", defArgs st__law_is_set, defBody st__law_is_set, defScope st__law_is_set, [], []⟩
def d__law_pattern_of : He.DefD := ⟨("_law_pattern_of", none), "_law_pattern_of", "_law_pattern_of", defArgs st__law_pattern_of, defBody st__law_pattern_of, defScope st__law_pattern_of, [], []⟩
def d__law_wish_of : He.DefD := ⟨("_law_wish_of", none), "_law_wish_of", "_law_wish_of", defArgs st__law_wish_of, defBody st__law_wish_of, defScope st__law_wish_of, [], []⟩
def d__law_reading : He.DefD := ⟨("_law_reading", none), "_law_reading", "_law_reading", defArgs st__law_reading, defBody st__law_reading, defScope st__law_reading, [], []⟩
def d__law_told : He.DefD := ⟨("_law_told", none), "_law_told", "_law_told", defArgs st__law_told, defBody st__law_told, defScope st__law_told, [], []⟩
def d_law : He.DefD := ⟨("law", none), "law", "law", defArgs st_law, defBody st_law, defScope st_law, [], []⟩
def d_NoText : He.DefD := ⟨("NoText", some "__init__"), "__init__", "NoText.__init__", defArgs st_NoText, defBody st_NoText, defScope st_NoText, [], []⟩
def fn : List He.DefD := [d_is_whole, d_is_name, d_is_rising, d_is_text_of, d_are_signs, d_is_set, d_is_pattern, d_is_counted, d_is_wish, d_are_wishes, d_show_pattern, d_show_wish, d_show_code, d_pattern_in, d_wish_in, d_read_code, d__law_pool, d__law_draw, d__law_name, d__law_signs, d__law_set, d__law_pattern, d__law_code, d__law_rows, d__law_bent, d__law_is_set, d__law_pattern_of, d__law_wish_of, d__law_reading, d__law_told, d_law, d_NoText]
def exB (K : PySem.W.Frag) : Bool := okIs K raisedC testedC upC && (okEx K raisedC caughtC upC && (iniB K "NoText" "LadderError" "part"))
def fa : List He.Fa := [.glo "is_whole", .glo "is_name", .glo "is_rising", .glo "is_text_of", .glo "are_signs", .glo "is_set", .glo "is_pattern", .glo "is_counted", .glo "is_wish", .glo "are_wishes", .glo "show_pattern", .glo "show_wish", .glo "show_code", .glo "pattern_in", .glo "wish_in", .glo "read_code", .glo "_law_pool", .glo "_law_draw", .glo "_law_name", .glo "_law_signs", .glo "_law_set", .glo "_law_pattern", .glo "_law_code", .glo "_law_rows", .glo "_law_bent", .glo "_law_is_set", .glo "_law_pattern_of", .glo "_law_wish_of", .glo "_law_reading", .glo "_law_told", .glo "law", .free "abs", .free "all", .free "bool", .free "int", .free "isinstance", .free "len", .free "range", .free "set", .free "sorted", .free "str", .free "tuple", .glo "LadderError", .glo "NoText", .str "EDGE" "#", .int "MOST_LETTERS" 8, .int "MOST_PATTERNS" 3, .int "MOST_SIGNS" 3, .int "MOST_TIMES" 3, .int "MOST_WISHES" 5, .str "SMALL" "abcdefghijklmnopqrstuvwxyz", .glo "SETS", .glo "TIMES"]
def tbs : List TabD := [("SETS", tab_SETS), ("TIMES", tab_TIMES)]
end Lw
namespace Lw
open PySem PySem.Spec L2 Evl Dt
open TL (tl joinL tl_join tl_ofString join_eq tl_append len_tl)
/-! ### the family of laws that draw out of a pool -/
structure Pool where
  f : Int
  a : Int
  b : Int
def Pool.l (p : Pool) : List Pd := [.int p.f, .int p.a, .int p.b]
structure Pool.Ok (p : Pool) : Prop where
  f0 : 0 ≤ p.f
  a0 : 0 ≤ p.a
  a1 : p.a < 1000000403
  b0 : 0 ≤ p.b
  b1 : p.b < 1000000513
theorem pool_flat (p : Pool) : flatL p.l = true := rfl
theorem mulOk_r {i j : Int} (h0 : 0 ≤ j) (h : j < 18446744073709551616) : mulOk i j = true := by
  have : bits j ≤ 64 := bits_le (by omega)
  simp [mulOk, this]
theorem log2_small {j : Int} (h0 : 0 < j) (h : j < 1073741824) : j.natAbs.log2 < 9000 := by
  have : j.natAbs < 2 ^ 30 := by omega
  have h1 : j.natAbs ≠ 0 := by omega
  have := (Nat.log2_lt h1).mpr this
  omega
theorem m_draw {p : Pool} (hp : p.Ok) {top : Int} (h0 : 0 < top) (h1 : top < 1073741824) : ∃ (d : Int) (q : Pool), q.Ok ∧ 0 ≤ d ∧ d < top ∧ m__law_draw [.own true p.l, .d (.int top)] = .ok (.d (.int d)) [.own true q.l, .d (.int top)] := by
  obtain ⟨f0, a0, a1, b0, b1⟩ := hp
  have hl := log2_small h0 h1
  by_cases hf : 0 < p.f
  · refine ⟨p.f % top, ⟨p.f / top, p.a, p.b⟩, ⟨?_, a0, a1, b0, b1⟩, Int.emod_nonneg _ (by omega), Int.emod_lt_of_pos _ h0, ?_⟩
    · exact Int.ediv_nonneg f0 (by omega)
    · simp [m__law_draw, gOf, w__law_draw, Pool.l, atI, ixN, put_eq, hf, h0, hl]
  · generalize ha' : (p.a * 40014 + p.b + 7) % 1000000403 = a'
    have a0' : 0 ≤ a' := by rw [← ha']; exact Int.emod_nonneg _ (by omega)
    have a1' : a' < 1000000403 := by rw [← ha']; exact Int.emod_lt_of_pos _ (by omega)
    generalize hb' : (p.b * 40699 + a' * a' % 65537 + 1) % 1000000513 = b'
    have b0' : 0 ≤ b' := by rw [← hb']; exact Int.emod_nonneg _ (by omega)
    have b1' : b' < 1000000513 := by rw [← hb']; exact Int.emod_lt_of_pos _ (by omega)
    refine ⟨(a' + 7 * b') / 16 % top, ⟨p.f, a', b'⟩, ⟨f0, a0', a1', b0', b1'⟩, Int.emod_nonneg _ (by omega), Int.emod_lt_of_pos _ h0, ?_⟩
    have m1 : mulOk p.a 40014 = true := mulOk_r (by omega) (by omega)
    have m2 : mulOk p.b 40699 = true := mulOk_r (by omega) (by omega)
    have m3 : mulOk a' a' = true := mulOk_r a0' (by omega)
    have m4 : mulOk 7 b' = true := mulOk_r b0' (by omega)
    have l16 : Nat.log2 16 < 9000 := by decide
    simp [m__law_draw, gOf, w__law_draw, Pool.l, atI, ixN, put_eq, hf, h0, m1, ha', m2, m3, hb', m4, l16]
theorem m_pool (c : Int) : ∃ q : Pool, q.Ok ∧ m__law_pool [.d (.int c)] = .ok (.l q.l) [.d (.int c)] := by
  have m1 : mulOk (c % 1000000403) 48271 = true := mulOk_r (by omega) (by omega)
  by_cases h : c < 0
  · refine ⟨⟨-c, c % 1000000403, (c % 1000000403 * 48271 + 12345) % 1000000513⟩, ⟨by show 0 ≤ -c; omega, Int.emod_nonneg _ (by omega), Int.emod_lt_of_pos _ (by omega), Int.emod_nonneg _ (by omega), Int.emod_lt_of_pos _ (by omega)⟩, ?_⟩
    simp [m__law_pool, gOf, w__law_pool, Pool.l, put_eq, h, m1, sizeLine]
  · by_cases h2 : 1000000000000000000 ≤ c
    · refine ⟨⟨c, c % 1000000403, (c % 1000000403 * 48271 + 12345) % 1000000513⟩, ⟨by show 0 ≤ c; omega, Int.emod_nonneg _ (by omega), Int.emod_lt_of_pos _ (by omega), Int.emod_nonneg _ (by omega), Int.emod_lt_of_pos _ (by omega)⟩, ?_⟩
      simp [m__law_pool, gOf, w__law_pool, Pool.l, put_eq, h, m1, h2, sizeLine]
    · refine ⟨⟨0, c % 1000000403, (c % 1000000403 * 48271 + 12345) % 1000000513⟩, ⟨by show (0 : Int) ≤ 0; omega, Int.emod_nonneg _ (by omega), Int.emod_lt_of_pos _ (by omega), Int.emod_nonneg _ (by omega), Int.emod_lt_of_pos _ (by omega)⟩, ?_⟩
      simp [m__law_pool, gOf, w__law_pool, Pool.l, put_eq, h, m1, h2, sizeLine]
theorem letter_at {d : Int} (h0 : 0 ≤ d) (h1 : d < 26) : ∃ c : Nat, (97 ≤ c ∧ c ≤ 122) ∧ atI (tl abc) d = some c := by
  obtain ⟨c, e, hc⟩ := atI_some (xs := tl abc) h0 (by rw [tl_abc]; exact h1)
  exact ⟨c, (mem_abc c).mp hc, e⟩
theorem abc_z : abc.length ≤ 16777216 := by decide +kernel
theorem abc_26 : (chars abc).length = 26 := by decide +kernel
/-- the candidates for a name -/
def cands (n : Str) : List Str := n :: (tl abc).map fun c => cutS n none (some 7) ++ sg1 c
theorem cands_name {n : Str} (hn : nameL (tl n)) : ∀ z ∈ cands n, nameL (tl z) := by
  intro z hz
  rcases List.mem_cons.mp hz with rfl | hz
  · exact hn
  · obtain ⟨c, hc, rfl⟩ := List.mem_map.mp hz
    rw [tl_append, tl_take n 7 (by omega)]
    have := hn.1
    refine ⟨by rw [List.length_append]; show 1 ≤ _ + 1; omega, by rw [List.length_append, List.length_take]; show min 7 _ + 1 ≤ 8; omega, fun d hd => ?_⟩
    rcases List.mem_append.mp hd with hd | hd
    · exact hn.2.2 d (List.mem_of_mem_take hd)
    · rw [List.mem_singleton.mp hd]
      exact (mem_abc c).mp hc
theorem nodup_le {α : Type} [DecidableEq α] : ∀ {l k : List α}, l.Nodup → (∀ x ∈ l, x ∈ k) → l.length ≤ k.length
  | [], _, _, _ => Nat.zero_le _
  | a :: l, k, h, s => by
    have ha := s a List.mem_cons_self
    have h' := List.nodup_cons.mp h
    have := nodup_le (l := l) (k := k.erase a) h'.2 (fun x hx => by
      have : x ≠ a := fun e => h'.1 (e ▸ hx)
      exact (List.mem_erase_of_ne this).mpr (s x (List.mem_cons_of_mem _ hx)))
    rw [List.length_erase_of_mem ha] at this
    have := List.length_pos_of_mem ha
    simp only [List.length_cons]
    omega
theorem cands_new (n : Str) (known : List Str) (hk : known.length ≤ 20) : ∃ z ∈ cands n, z ∉ known := by
  refine Classical.byContradiction fun hno => ?_
  have hall : ∀ z ∈ cands n, z ∈ known := fun z hz => Classical.byContradiction fun h => hno ⟨z, hz, h⟩
  have nd : ((tl abc).map fun c => cutS n none (some 7) ++ sg1 c).Nodup := by
    refine List.Pairwise.map _ (fun a b hab e => hab ?_) (show (tl abc).Nodup by rw [tl_abc]; decide)
    have h1 := congrArg tl e
    rw [tl_append, tl_append] at h1
    have h2 := List.append_cancel_left h1
    exact (List.cons.inj h2).1
  have := nodup_le nd fun z hz => hall z (List.mem_cons_of_mem _ hz)
  rw [List.length_map, tl_abc] at this
  simp at this
  omega
theorem cands_len (n : Str) : (cands n).length = 27 := by
  unfold cands
  rw [List.length_cons, List.length_map, tl_abc]
  rfl
theorem ln_k2 (q : Pool) (KL : List Pd) (w n : Str) (hw : (chars w).length ≤ 100) (hn8 : n.length ≤ 8) : lcRun (put 5) (fun ρ => R.ok true ρ) ce__law_name_1 [5] (chars w) [] [.own true q.l, .d (.list KL), .d (.str w), .d (.str n), .no, .no, .no, .no] =
        .ok ([] ++ (chars w).map fun x => match x with | .str z => .str (cutS n none (some 7) ++ z) | z => z) [.own true q.l, .d (.list KL), .d (.str w), .d (.str n), .no, .no, .no, .no] := by
  refine lc_map _ (fun x hx => ?_) (by simp [sizeLine]; omega)
  obtain ⟨c, hc, rfl⟩ := List.mem_map.mp hx
  refine ⟨[.own true q.l, .d (.list KL), .d (.str w), .d (.str n), .no, .d (.str ⟨#[c]⟩), .no, .no], _, [.own true q.l, .d (.list KL), .d (.str w), .d (.str n), .no, .d (.str ⟨#[c]⟩), .no, .no], by simp [put_eq], rfl, ?_, by simp⟩
  have h1 : n.length ≤ 16777216 := by omega
  have h2 : (cutS n none (some 7)).length + (⟨#[c]⟩ : Str).length ≤ 16777216 := by
    have := cutS_length n none (some 7)
    show _ + 1 ≤ _
    omega
  simp [ce__law_name_1, h1, h2, sizeLine]
theorem ln_k3 (q : Pool) (known CL : List Str) (w n : Str) (hCL : CL.length ≤ 100) : lcRun (put 6) ct__law_name_2 ce__law_name_2 [6] (CL.map PyData.str) [] [.own true q.l, .d (.list (known.map PyData.str)), .d (.str w), .d (.str n), .d (.list (CL.map PyData.str)), .no, .no, .no] =
        .ok ((CL.filter fun z => !decide (z ∈ known)).map PyData.str) [.own true q.l, .d (.list (known.map PyData.str)), .d (.str w), .d (.str n), .d (.list (CL.map PyData.str)), .no, .no, .no] := by
  have := lc_filter (h := put 6) (ft := ct__law_name_2) (fe := ce__law_name_2) (vs := [6]) (fun x => match x with | .str z => !decide (z ∈ known) | _ => false) (fun x => x) (ρ := [.own true q.l, .d (.list (known.map PyData.str)), .d (.str w), .d (.str n), .d (.list (CL.map PyData.str)), .no, .no, .no]) (xs := CL.map PyData.str) (acc := []) (fun x hx => by
    obtain ⟨z, hz, rfl⟩ := List.mem_map.mp hx
    refine ⟨[.own true q.l, .d (.list (known.map PyData.str)), .d (.str w), .d (.str n), .d (.list (CL.map PyData.str)), .no, .d (.str z), .no], [.own true q.l, .d (.list (known.map PyData.str)), .d (.str w), .d (.str n), .d (.list (CL.map PyData.str)), .no, .d (.str z), .no], by simp [put_eq], ?_, by simp, fun _ => ⟨[.own true q.l, .d (.list (known.map PyData.str)), .d (.str w), .d (.str n), .d (.list (CL.map PyData.str)), .no, .d (.str z), .no], by simp [ce__law_name_2], by simp⟩⟩
    simp [ct__law_name_2, notInD_strs]) (by simp [sizeLine]; omega)
  rw [this, List.nil_append, List.map_id', List.filter_map]
  rfl
def tailN : Rho → R Fl := (fSeq (fAsg (f2 addD (fL (fLst (fCons (fVar 3) fNil))) (fL (fLc (fItS (fVar 2)) (put 5) (fun ρ => .ok true ρ) ce__law_name_1 [5]))) (put 4)) (fRet (f2 ixD (fL (fLc (fItL (fVar 4)) (put 6) ct__law_name_2 ce__law_name_2 [6])) (fC (.int 0)))))
theorem ln_tail (q : Pool) (known CL : List Str) (w n : Str) (hw : (chars w).length ≤ 100) (hn8 : n.length ≤ 8) (hCL : CL.length ≤ 100) (r : Str) (rest : List Str) (hr : (CL.filter fun z => !decide (z ∈ known)) = r :: rest)
    (hc : PyData.str n :: (chars w).map (fun x => match x with | .str z => .str (cutS n none (some 7) ++ z) | z => z) = CL.map PyData.str) :
    tailN [.own true q.l, .d (.list (known.map PyData.str)), .d (.str w), .d (.str n), .no, .no, .no, .no] = .ok (.rt (.str r)) [.own true q.l, .d (.list (known.map PyData.str)), .d (.str w), .d (.str n), .d (.list (CL.map PyData.str)), .no, .no, .no] := by
  have k2 := ln_k2 q (known.map PyData.str) w n hw hn8
  have k3 := ln_k3 q known CL w n hCL
  rw [List.nil_append] at k2
  rw [hr] at k3
  have z : 1 + (chars w).length ≤ 16777216 := by omega
  simp [tailN, sizeLine, put_eq, k2, z, hc, k3, atI, ixN]
def hN : Rho → R Fl := (fIfS (fAnd (fTest (f2 neD (fVar 1) (fL (fLst fNil)))) (fTest (f2 eqD (fCallP 1 0 m__law_draw (fCons (fC (.int 4)) fNil)) (fC (.int 1))))) (fAsg (fSl slD (f2 addD (f2 ixD (fVar 1) (fCallP 1 0 m__law_draw (fCons (fCB lenD (fCons (fVar 1) fNil)) fNil))) (f2 ixD (fVar 2) (fCallP 1 0 m__law_draw (fCons (fC (.int 26)) fNil)))) fNoPart (fPart (fC (.int 8)))) (put 3)) (fAsg (fM1 joinD (fC (.str "")) (fL (fLc (fRng1 (fCons (f2 addD (fC (.int 1)) (fCallP 1 0 m__law_draw (fCons (fC (.int 8)) fNil))) fNil)) (put 7) (fun ρ => .ok true ρ) ce__law_name_0 [7]))) (put 3)))
theorem w_lawname : w__law_name = fSeq (fAsg (fC (.str abc)) (put 2)) (fSeq hN tailN) := rfl
/-- texts of one drawn letter each -/
theorem ln_k1 {p : Pool} (hp : p.Ok) (KL : List Pd) (m : Nat) (hm : m ≤ 100) : ∃ (q : Pool) (cs : List Nat), q.Ok ∧ cs.length = m ∧ (∀ c ∈ cs, 97 ≤ c ∧ c ≤ 122) ∧
    lcRun (put 7) (fun ρ => R.ok true ρ) ce__law_name_0 [7] (nums 0 m) [] [.own true p.l, .d (.list KL), .d (.str abc), .no, .no, .no, .no, .no] = .ok ((cs.map sg1).map PyData.str) [.own true q.l, .d (.list KL), .d (.str abc), .no, .no, .no, .no, .no] := by
  have hlen : (nums 0 m).length = m := by simp [nums]
  obtain ⟨acc, ρ', key1, q, cs, hq, rfl, rfl, hly, hys⟩ := lc_inv0 (h := put 7) (ft := fun ρ => R.ok true ρ) (fe := ce__law_name_0) (vs := [7]) (xs := nums 0 m)
    (fun i acc ρ => ∃ (q : Pool) (cs : List Nat), q.Ok ∧ ρ = [.own true q.l, .d (.list KL), .d (.str abc), .no, .no, .no, .no, .no] ∧ acc = (cs.map sg1).map PyData.str ∧ cs.length = i ∧ ∀ c ∈ cs, 97 ≤ c ∧ c ≤ 122)
    ⟨p, [], hp, rfl, rfl, rfl, by simp⟩ (fun i x acc ρ hx hI => by
      obtain ⟨q, cs, hq, rfl, rfl, hl, hys⟩ := hI
      have hi : i < m := by
        have := (List.getElem?_eq_some_iff.mp hx).1
        omega
      obtain ⟨d, q2, hq2, d0, d1, ed⟩ := m_draw hq (top := 26) (by omega) (by omega)
      obtain ⟨c, hc, ec⟩ := letter_at d0 d1
      refine ⟨[.own true q.l, .d (.list KL), .d (.str abc), .no, .no, .no, .no, .d x], _, [.own true q2.l, .d (.list KL), .d (.str abc), .no, .no, .no, .no, .d x], .str ⟨#[c]⟩, by simp [put_eq], rfl, ?_, by simp [hl, sizeLine]; omega, q2, cs ++ [c], hq2, by simp, by simp, by simp [hl], fun y hy => ?_⟩
      · have hz := abc_z
        simp [ce__law_name_0, ed, ec, hz, sizeLine]
      · rcases List.mem_append.mp hy with hy | hy
        · exact hys y hy
        · rw [List.mem_singleton] at hy
          subst hy
          exact hc)
  rw [hlen] at hly
  exact ⟨q, cs, hq, hly, hys, key1⟩
theorem strOk_lt {z : Str} (h : ∀ c ∈ tl z, c < 1114112) : PyData.strOk z = true := by
  unfold PyData.strOk
  rw [Array.all_eq_true_iff_forall_mem]
  intro c hc
  exact decide_eq_true (h c (by unfold tl; exact Array.mem_toList_iff.mpr hc))
theorem atI_map {α β : Type} {f : α → β} {xs : List α} {i : Int} : atI (xs.map f) i = (atI xs i).map f := by
  unfold atI
  rw [List.length_map]
  cases ixN xs.length i with
  | none => rfl
  | some k => exact List.getElem?_map
theorem ne_nil_str (known : List Str) (hk : known.length ≤ 20) (hkn : ∀ z ∈ known, nameL (tl z)) : neD (.list (known.map PyData.str)) (.list []) = some (.bool (!known.isEmpty)) := by
  have h : sh 60 (.list (known.map PyData.str)) = true := by
    rw [sh_list, List.all_map, List.all_eq_true]
    intro z hz
    show sh 59 (.str z) = true
    rw [sh_str]
    exact strOk_lt fun c hc => by have := (hkn z hz).2.2 c hc; omega
  cases known with
  | nil => simp [neD, eqB_list, sh, PyData.eqvAll]
  | cons a l =>
    simp only [List.map_cons] at h ⊢
    simp [neD, eqB_list, h, sh_list, PyData.eqvAll]
theorem ln_head {p : Pool} (hp : p.Ok) (known : List Str) (hk : known.length ≤ 20) (hkn : ∀ z ∈ known, nameL (tl z)) : ∃ (n : Str) (q : Pool), q.Ok ∧ nameL (tl n) ∧
    hN [.own true p.l, .d (.list (known.map PyData.str)), .d (.str abc), .no, .no, .no, .no, .no] = .ok .nx [.own true q.l, .d (.list (known.map PyData.str)), .d (.str abc), .d (.str n), .no, .no, .no, .no] := by
  have ne := ne_nil_str known hk hkn
  have els : ∀ {p : Pool}, p.Ok → ∃ (n : Str) (q : Pool), q.Ok ∧ nameL (tl n) ∧ (fAsg (fM1 joinD (fC (.str "")) (fL (fLc (fRng1 (fCons (f2 addD (fC (.int 1)) (fCallP 1 0 m__law_draw (fCons (fC (.int 8)) fNil))) fNil)) (put 7) (fun ρ => .ok true ρ) ce__law_name_0 [7]))) (put 3)) [.own true p.l, .d (.list (known.map PyData.str)), .d (.str abc), .no, .no, .no, .no, .no] = .ok .nx [.own true q.l, .d (.list (known.map PyData.str)), .d (.str abc), .d (.str n), .no, .no, .no, .no] := by
    intro p hp
    obtain ⟨d8, q1, hq1, h0, h1, e8⟩ := m_draw hp (top := 8) (by omega) (by omega)
    obtain ⟨q, cs, hq, hl, hc, k1⟩ := ln_k1 hq1 (known.map PyData.str) (1 + d8).toNat (by omega)
    refine ⟨ofL cs, q, hq, ⟨by rw [tl_ofL]; omega, by rw [tl_ofL]; omega, by rw [tl_ofL]; exact hc⟩, ?_⟩
    have hj := join_signs cs (by omega)
    have hr : (-4611686018427387904 : Int) ≤ 1 + d8 ∧ (1 + d8 : Int) < 4611686018427387904 := by omega
    simp only [fAsg_ap, fM1_ap, fC_ap, bind_ok', res_d, fL_ap, fLc_ap, okW_cons, okW_nil]
    simp [put_eq, e8, hr.1, hr.2, k1, hj, -List.map_map]
  cases known with
  | nil =>
    obtain ⟨n, q, hq, hn, e⟩ := els hp
    refine ⟨n, q, hq, hn, ?_⟩
    rw [← e]
    unfold hN
    rw [fIfS_ap]
    simp only [List.map_nil, List.isEmpty_nil] at ne ⊢
    simp only [fAnd_ap, fTest_ap, f2_ap, fVar_ap, fL_ap, fLst_ap, fNil_ap, bind_ok', datas_nil]
    simp [sizeLine, ne, -fAsg_ap]
  | cons a l =>
    obtain ⟨d4, q1, hq1, g0, g1, e4⟩ := m_draw hp (top := 4) (by omega) (by omega)
    have hs : (l.map PyData.str).length = l.length := List.length_map _
    by_cases h4 : d4 = 1
    · subst h4
      have hk' : l.length + 1 ≤ 20 := hk
      obtain ⟨d, q2, hq2, d0, d1, ed⟩ := m_draw hq1 (top := (l.length + 1 : Int)) (by omega) (by omega)
      obtain ⟨d', q3, hq3, d0', d1', ed'⟩ := m_draw hq2 (top := 26) (by omega) (by omega)
      obtain ⟨c, hc, ec⟩ := letter_at d0' d1'
      obtain ⟨z, ez, hz⟩ := atI_some (xs := a :: l) (i := d) d0 (by simp; omega)
      have ez' : atI (PyData.str a :: l.map PyData.str) d = some (.str z) := by
        have := atI_map (f := PyData.str) (xs := a :: l) (i := d)
        rw [ez] at this
        simpa using this
      have nz := hkn z hz
      have zl : z.length ≤ 8 := by rw [len_tl]; exact nz.2.1
      refine ⟨cutS (z ++ sg1 c) none (some 8), q3, hq3, ?_, ?_⟩
      · rw [tl_take _ 8 (by omega), tl_append]
        have := nz.1
        refine ⟨?_, ?_, fun x hx => ?_⟩
        · rw [List.length_take, List.length_append]; show 1 ≤ min 8 (_ + 1); omega
        · rw [List.length_take]; show min 8 _ ≤ 8; omega
        · rcases List.mem_append.mp (List.mem_of_mem_take hx) with hx | hx
          · exact nz.2.2 x hx
          · rw [List.mem_singleton.mp hx]; exact hc
      · have h1 : z.length + (sg1 c).length ≤ 16777216 := by show _ + 1 ≤ _; omega
        have h2 : (z ++ sg1 c).length ≤ 16777216 := by rw [len_tl, tl_append, List.length_append, ← len_tl]; show _ + 1 ≤ _; omega
        have az := abc_z
        simp only [List.map_cons, List.isEmpty_cons] at ne ⊢
        simp [hN, sizeLine, ne, e4, ed, ez', ed', ec, az, h1, h2, put_eq]
    · obtain ⟨n, q, hq, hn, e⟩ := els hq1
      refine ⟨n, q, hq, hn, ?_⟩
      rw [← e]
      unfold hN
      rw [fIfS_ap]
      simp only [List.map_cons, List.isEmpty_cons] at ne ⊢
      simp [sizeLine, ne, e4, h4, -fAsg_ap]
theorem m_lawname {p : Pool} (hp : p.Ok) (known : List Str) (hk : known.length ≤ 20) (hkn : ∀ z ∈ known, nameL (tl z)) :
    ∃ (n : Str) (q : Pool), q.Ok ∧ nameL (tl n) ∧ n ∉ known ∧ m__law_name [.own true p.l, .d (.list (known.map PyData.str))] = .ok (.d (.str n)) [.own true q.l, .d (.list (known.map PyData.str))] := by
  have tail : ∀ (q : Pool) (n : Str), nameL (tl n) → ∃ r ρ', nameL (tl r) ∧ r ∉ known ∧ tailN [.own true q.l, .d (.list (known.map PyData.str)), .d (.str abc), .d (.str n), .no, .no, .no, .no] = .ok (.rt (.str r)) (.own true q.l :: .d (.list (known.map PyData.str)) :: ρ') := by
    intro q n hn
    have hn8 : n.length ≤ 8 := by rw [len_tl]; exact hn.2.1
    obtain ⟨z0, hz0, hz1⟩ := cands_new n known hk
    cases eF : (cands n).filter fun z => !decide (z ∈ known) with
    | nil =>
      have : z0 ∈ (cands n).filter fun z => !decide (z ∈ known) := List.mem_filter.mpr ⟨hz0, by simp [hz1]⟩
      rw [eF] at this
      cases this
    | cons r rest =>
      have hr : r ∈ (cands n).filter fun z => !decide (z ∈ known) := by rw [eF]; exact List.mem_cons_self
      refine ⟨r, _, cands_name hn r (List.mem_filter.mp hr).1, by simpa using (List.mem_filter.mp hr).2, ln_tail q known (cands n) abc n (by rw [abc_26]; omega) hn8 (by rw [cands_len]; omega) r rest eF ?_⟩
      unfold cands
      rw [chars_eq, List.map_cons, List.map_map, List.map_map]
      rfl
  obtain ⟨n, q, hq, hn, e⟩ := ln_head hp known hk hkn
  obtain ⟨r, ρ', h1, h2, h3⟩ := tail q n hn
  refine ⟨r, q, hq, h1, h2, ?_⟩
  have e1 : (fAsg (fC (.str abc)) (put 2)) [.own true p.l, .d (.list (known.map PyData.str)), .no, .no, .no, .no, .no, .no] = .ok .nx [.own true p.l, .d (.list (known.map PyData.str)), .d (.str abc), .no, .no, .no, .no, .no] := by
    simp [put_eq]
  unfold m__law_name gOf
  rw [w_lawname]
  simp only [List.length_cons, List.length_nil, List.replicate, List.cons_append, List.nil_append]
  rw [fSeq_ap, e1]
  simp only [fSeq_ap, e, h3]
  simp
end Lw
namespace Lw
open PySem PySem.Spec L2 Evl Dt
open TL (tl joinL tl_join tl_ofString join_eq tl_append len_tl)
/-! ### signs, sets, patterns -/
def sgs (cs : List Nat) : List Pd := (cs.map sg1).map PyData.str
theorem sgs_len (cs : List Nat) : (sgs cs).length = cs.length := by simp [sgs]
theorem sgs_app (cs : List Nat) (c : Nat) : sgs cs ++ [.str (sg1 c)] = sgs (cs ++ [c]) := by simp [sgs]
theorem sg1_inj {a b : Nat} (h : sg1 a = sg1 b) : a = b := by
  have := congrArg tl h
  exact (List.cons.inj this).1
theorem mem_sg1 {c : Nat} {cs : List Nat} : sg1 c ∈ cs.map sg1 ↔ c ∈ cs := by
  constructor
  · intro h
    obtain ⟨d, hd, e⟩ := List.mem_map.mp h
    exact sg1_inj e ▸ hd
  · exact fun h => List.mem_map_of_mem h
theorem notIn_sgs (c : Nat) (cs : List Nat) : notInD (.str (sg1 c)) (.list (sgs cs)) = some (.bool (!decide (c ∈ cs))) := by
  unfold sgs
  rw [notInD_strs]
  simp only [mem_sg1]
theorem filter_sgs (p : Nat → Bool) (cs : List Nat) : ((sgs cs).filter fun x => match x with | .str z => p ((tl z).headD 0) | _ => false).map (fun x => x) = sgs (cs.filter p) := by
  unfold sgs
  rw [List.map_id', List.filter_map, List.filter_map]
  rfl
theorem at_sgs {cs : List Nat} {d : Int} (h0 : 0 ≤ d) (h : d < cs.length) : ∃ c ∈ cs, atI (sgs cs) d = some (.str (sg1 c)) := by
  obtain ⟨c, e, hc⟩ := atI_some (xs := cs) h0 h
  refine ⟨c, hc, ?_⟩
  unfold sgs
  rw [atI_map, atI_map, e]
  rfl
theorem eq_nil_sgs {cs : List Nat} (h : ∀ c ∈ cs, c < 1114112) : eqD (.list (sgs cs)) (.list []) = some (.bool cs.isEmpty) := by
  have hs : sh 60 (.list (sgs cs)) = true := by
    unfold sgs
    rw [sh_list, List.all_map, List.all_map, List.all_eq_true]
    intro c hc
    show sh 59 (.str (sg1 c)) = true
    rw [sh_str]
    exact strOk_lt fun x hx => by rw [List.mem_singleton.mp hx]; exact h c hc
  cases cs with
  | nil => simp [eqD, eqB_list, sh, PyData.eqvAll, sgs]
  | cons a l =>
    have e : sgs (a :: l) = .str (sg1 a) :: sgs l := rfl
    rw [e] at hs ⊢
    simp [eqD, eqB_list, hs, sh_list, PyData.eqvAll]
structure SgOk (s : Str) : Prop where
  l1 : 1 ≤ (tl s).length
  l3 : (tl s).length ≤ 3
  let' : ∀ c ∈ tl s, 97 ≤ c ∧ c ≤ 122
  ris : (tl s).Pairwise (· < ·)
theorem sort_signs (cs : List Nat) (h : cs.length < 64) : ∃ ds : List Nat, ds.Perm cs ∧ ds.Pairwise (· ≤ ·) ∧ sortedD [.list (sgs cs)] = some (sgs ds) := by
  have hall : ∀ y ∈ sortS (cs.map sg1), ∃ c, y = sg1 c := fun y hy => by
    obtain ⟨c, _, e⟩ := List.mem_map.mp ((sortS_perm _).mem_iff.mp hy)
    exact ⟨c, e.symm⟩
  have he : sortS (cs.map sg1) = ((sortS (cs.map sg1)).map fun y => (tl y).headD 0).map sg1 := by
    rw [List.map_map]
    conv => lhs; rw [← List.map_id (sortS (cs.map sg1))]
    refine List.map_congr_left fun y hy => ?_
    obtain ⟨c, rfl⟩ := hall y hy
    rfl
  refine ⟨(sortS (cs.map sg1)).map fun y => (tl y).headD 0, ?_, ?_, ?_⟩
  · have := (sortS_perm (cs.map sg1)).map fun y => (tl y).headD 0
    rw [List.map_map] at this
    refine this.trans (.of_eq ?_)
    conv => rhs; rw [← List.map_id cs]
    exact List.map_congr_left fun _ _ => rfl
  · have := sortS_sorted (cs.map sg1)
    rw [he] at this
    have h2 := List.pairwise_map.mp this
    refine h2.imp fun {a b} hab => ?_
    have h3 := (leS_iff _ _).mp hab
    have h4 : ¬ ([b] < [a]) := h3
    refine Nat.le_of_not_lt fun hlt => h4 ?_
    exact List.Lex.rel hlt
  · unfold sortedD sgs
    simp only
    rw [strsD_map]
    simp only [List.length_map, h, if_true]
    rw [← he]
theorem m_signs {p : Pool} (hp : p.Ok) : ∃ (s : Str) (q : Pool), q.Ok ∧ SgOk s ∧ m__law_signs [.own true p.l] = .ok (.d (.str s)) [.own true q.l] := by
  obtain ⟨d3, q1, hq1, h0, h1, e3⟩ := m_draw hp (top := 3) (by omega) (by omega)
  have hlen : (nums 0 (1 + d3).toNat).length = (1 + d3).toNat := by simp [nums]
  obtain ⟨ρ', ef, q, cs, s3, s4, hq, hcl, hnd, hlet, i3, i4, rfl⟩ := for_inv (h := put 3) (fb := fb__law_signs_0) (xs := nums 0 (1 + d3).toNat) (ρ := [.own true q1.l, .d (.str abc), .own false [], .no, .no, .no])
    (fun i ρ => ∃ (q : Pool) (cs : List Nat) (s3 s4 : Sl), q.Ok ∧ cs.length = i ∧ cs.Nodup ∧ (∀ c ∈ cs, 97 ≤ c ∧ c ≤ 122) ∧ isIo s3 = false ∧ isIo s4 = false ∧ ρ = [.own true q.l, .d (.str abc), .own false (sgs cs), s3, s4, .no])
    (fun i x ρ hx hI => by
      obtain ⟨q, cs, s3, s4, hq, hcl, hnd, hlet, i3, i4, rfl⟩ := hI
      have hi : i < (1 + d3).toNat := by
        have := (List.getElem?_eq_some_iff.mp hx).1
        omega
      have hi3 : cs.length ≤ 2 := by omega
      have key : lcRun (put 5) ct__law_signs_1 ce__law_signs_1 [5] (chars abc) [] [.own true q.l, .d (.str abc), .own false (sgs cs), .d x, s4, .no] = .ok (sgs ((tl abc).filter fun c => !decide (c ∈ cs))) [.own true q.l, .d (.str abc), .own false (sgs cs), .d x, s4, .no] := by
        have := lc_filter (h := put 5) (ft := ct__law_signs_1) (fe := ce__law_signs_1) (vs := [5]) (fun x => match x with | .str z => !decide ((tl z).headD 0 ∈ cs) | _ => false) (fun x => x) (ρ := [.own true q.l, .d (.str abc), .own false (sgs cs), .d x, s4, .no]) (xs := chars abc) (acc := []) (fun y hy => by
          obtain ⟨c, hc, rfl⟩ := List.mem_map.mp hy
          refine ⟨[.own true q.l, .d (.str abc), .own false (sgs cs), .d x, s4, .d (.str (sg1 c))], [.own true q.l, .d (.str abc), .own false (sgs cs), .d x, s4, .d (.str (sg1 c))], by simp [put_eq], ?_, by simp, fun _ => ⟨[.own true q.l, .d (.str abc), .own false (sgs cs), .d x, s4, .d (.str (sg1 c))], by simp [ce__law_signs_1], by simp⟩⟩
          have := notIn_sgs c cs
          simp [ct__law_signs_1, this]
          rfl) (by rw [abc_26]; simp [sizeLine])
        rw [this, List.nil_append, chars_eq]
        exact congrArg (fun z => R.ok z _) (filter_sgs (fun c => !decide (c ∈ cs)) (tl abc))
      have hne : 0 < ((tl abc).filter fun c => !decide (c ∈ cs)).length := by
        refine Nat.pos_of_ne_zero fun e => ?_
        have e := List.eq_nil_of_length_eq_zero e
        have hin : ∀ c ∈ tl abc, c ∈ cs := fun c hc => Classical.byContradiction fun h => by
          have : c ∈ (tl abc).filter fun c => !decide (c ∈ cs) := List.mem_filter.mpr ⟨hc, by simp [h]⟩
          rw [e] at this
          cases this
        have := nodup_le (show (tl abc).Nodup by rw [tl_abc]; decide) hin
        rw [tl_abc] at this
        simp at this
        omega
      have hle : ((tl abc).filter fun c => !decide (c ∈ cs)).length ≤ 26 := by
        have := List.length_filter_le (fun c => !decide (c ∈ cs)) (tl abc)
        rw [tl_abc] at this
        simp at this
        rw [tl_abc]
        simpa using this
      generalize hL : (tl abc).filter (fun c => !decide (c ∈ cs)) = L at *
      obtain ⟨d, q2, hq2, d0, d1, ed⟩ := m_draw hq (top := (L.length : Int)) (by omega) (by omega)
      obtain ⟨c, hc, ec⟩ := at_sgs (cs := L) d0 d1
      rw [← hL] at hc
      obtain ⟨hc1, hc2⟩ := List.mem_filter.mp hc
      have hc2 : c ∉ cs := by simpa using hc2
      refine ⟨[.own true q.l, .d (.str abc), .own false (sgs cs), .d x, s4, .no], [.own true q2.l, .d (.str abc), .own false (sgs (cs ++ [c])), .d x, .d (.list (sgs L)), .no], by simp [put_eq, i3], .inl ?_, q2, cs ++ [c], .d x, .d (.list (sgs L)), hq2, by simp [hcl], ?_, ?_, rfl, rfl, rfl⟩
      · have hz : cs.length < 16777216 := by omega
        have io4 : okW [.own true q.l, .d (.str abc), .own false (sgs cs), .d x, s4, .no] [5] = true := rfl
        simp [fb__law_signs_0, key, put_eq, i4, sgs_len, ed, ec, hz, sizeLine, sgs_app]
      · rw [List.nodup_append]
        refine ⟨hnd, by simp, fun a ha b hb => ?_⟩
        rw [List.mem_singleton.mp hb]
        exact fun e => hc2 (e ▸ ha)
      · intro y hy
        rcases List.mem_append.mp hy with hy | hy
        · exact hlet y hy
        · rw [List.mem_singleton.mp hy]
          exact (mem_abc c).mp hc1)
    ⟨q1, [], .no, .no, hq1, rfl, .nil, by simp, rfl, rfl, rfl⟩
  rw [hlen] at hcl
  obtain ⟨ds, hpm, hsd, es⟩ := sort_signs cs (by omega)
  have hdl : ds.length = cs.length := hpm.length_eq
  refine ⟨ofL ds, q, hq, ⟨by rw [tl_ofL]; omega, by rw [tl_ofL]; omega, fun c hc => hlet c (hpm.mem_iff.mp hc), ?_⟩, ?_⟩
  · rw [tl_ofL]
    have nd : ds.Nodup := hpm.nodup_iff.mpr hnd
    exact (hsd.and nd).imp fun {a b} hab => Nat.lt_of_le_of_ne hab.1 hab.2
  · have hj := join_signs ds (by omega)
    have hj' : joinD (.str (Str.ofString "")) [.list (sgs ds)] = some (.str (ofL ds)) := hj
    have hr : (-4611686018427387904 : Int) ≤ 1 + d3 ∧ (1 + d3 : Int) < 4611686018427387904 := by omega
    simp [m__law_signs, gOf, w__law_signs, put_eq, putOwn_eq, sizeLine, e3, hr.1, hr.2, ef, es, hj']
theorem m_set {p : Pool} (hp : p.Ok) (s : Str) (h1 : 1 ≤ (tl s).length) (h2 : (tl s).length ≤ 100) (hc : ∀ c ∈ tl s, c < 1114112) :
    ∃ (cs : List Nat) (q : Pool), q.Ok ∧ cs.Sublist (tl s) ∧ cs ≠ [] ∧ m__law_set [.own true p.l, .d (.str s)] = .ok (.d (.str (ofL cs))) [.own true q.l, .d (.str s)] := by
  obtain ⟨acc, ρ', key, q, cs, hq, hsub, rfl, rfl⟩ := lc_invF (h := put 3) (ft := ct__law_set_0) (fe := ce__law_set_0) (vs := [3]) (xs := chars s) (ρ := [.own true p.l, .d (.str s), .no, .no])
    (fun i acc ρ => ∃ (q : Pool) (cs : List Nat), q.Ok ∧ cs.Sublist ((tl s).take i) ∧ acc = sgs cs ∧ ρ = [.own true q.l, .d (.str s), .no, .no]) (fun i x acc ρ hx hI => by
      obtain ⟨q, cs, hq, hsub, rfl, rfl⟩ := hI
      unfold chars at hx
      rw [List.getElem?_map] at hx
      obtain ⟨c, hx1, rfl⟩ := Option.map_eq_some_iff.mp hx
      have hx : (tl s)[i]? = some c := hx1
      obtain ⟨d, q2, hq2, d0, d1, ed⟩ := m_draw hq (top := 2) (by omega) (by omega)
      have ht : (tl s).take (i + 1) = (tl s).take i ++ [c] := by rw [List.take_succ, hx]; rfl
      refine ⟨[.own true q.l, .d (.str s), .no, .d (.str (sg1 c))], [.own true q2.l, .d (.str s), .no, .d (.str (sg1 c))], by simp [put_eq], ?_⟩
      by_cases hd : d = 1
      · refine .inr ⟨by simp [ct__law_set_0, ed, hd], [.own true q2.l, .d (.str s), .no, .d (.str (sg1 c))], .str (sg1 c), by simp [ce__law_set_0], ?_, q2, cs ++ [c], hq2, ?_, sgs_app cs c, by simp⟩
        · have := hsub.length_le
          rw [List.length_take] at this
          rw [sgs_len]
          simp [sizeLine]
          omega
        · rw [ht]
          exact hsub.append (.refl _)
      · refine .inl ⟨by simp [ct__law_set_0, ed, hd], q2, cs, hq2, ?_, rfl, by simp⟩
        rw [ht]
        exact hsub.trans (List.sublist_append_left _ _)) ⟨p, [], hp, by simp, rfl, rfl⟩
  have hle : s.length ≤ 16777216 := by rw [len_tl]; omega
  have hsub' : cs.Sublist (tl s) := by
    have : (chars s).length = (tl s).length := by unfold chars; rw [List.length_map]
    rw [this, List.take_length] at hsub
    exact hsub
  have hlc := hsub'.length_le
  have en := eq_nil_sgs (cs := cs) fun c h => hc c (hsub'.mem h)
  cases cs with
  | cons a l =>
    have hj := join_signs (a :: l) (by omega)
    have hj' : joinD (.str (Str.ofString "")) [.list (sgs (a :: l))] = some (.str (ofL (a :: l))) := hj
    exact ⟨a :: l, q, hq, hsub', by simp, by simp [m__law_set, gOf, w__law_set, put_eq, key, en, hj', sizeLine]⟩
  | nil =>
    have hz : s.length = (tl s).length := len_tl s
    obtain ⟨d, q2, hq2, d0, d1, ed⟩ := m_draw hq (top := (s.length : Int)) (by omega) (by omega)
    obtain ⟨c, ec, hcm⟩ := atI_some (xs := tl s) d0 (by omega)
    have hj := join_signs [c] (by simp)
    have hj' : joinD (.str (Str.ofString "")) [.list [.str (sg1 c)]] = some (.str (ofL [c])) := hj
    have ec' : atI s.cps.toList d = some c := ec
    refine ⟨[c], q2, hq2, List.singleton_sublist.mpr hcm, by simp, ?_⟩
    simp only [List.isEmpty_nil] at en
    simp [m__law_set, gOf, w__law_set, put_eq, key, en, hj', hle, ed, ec', sizeLine]
end Lw
namespace Lw
open PySem PySem.Spec L2 Evl Dt
open TL (tl joinL tl_join tl_ofString join_eq tl_append len_tl)
/-! ### patterns and codes -/
abbrev S (s : String) : Str := Str.ofString s
/-- a set of signs out of a text -/
def SetOf (s : Str) (a : Str) : Prop := tl a ≠ [] ∧ (tl a).Sublist (tl s)
inductive KindOk (s : Str) : List Str → Prop
  | sign {a} (h : SetOf s a) : KindOk s [S "sign", a]
  | drop {a} (h : SetOf s a) : KindOk s [S "drop", a]
  | add {a} (h : SetOf s a) : KindOk s [S "add", a]
  | change {a b} (h : SetOf s a) (g : SetOf s b) : KindOk s [S "change", a, b]
  | beside {a b} (h : SetOf (S "#" ++ s) a) (g : SetOf (S "#" ++ s) b) : KindOk s [S "beside", a, b]
structure Pat where
  k : List Str
  t : Int
def Pat.d (p : Pat) : Pd := .tuple [.tuple (p.k.map PyData.str), .int p.t]
structure Pat.Ok (s : Str) (p : Pat) : Prop where
  k : KindOk s p.k
  t1 : 1 ≤ p.t
  t3 : p.t ≤ 3
theorem m_pattern {p : Pool} (hp : p.Ok) {s : Str} (hs : SgOk s) : ∃ (t : Pat) (q : Pool), q.Ok ∧ t.Ok s ∧ m__law_pattern [.own true p.l, .d (.str s)] = .ok (.d t.d) [.own true q.l, .d (.str s)] := by
  obtain ⟨d6, q1, hq1, g0, g1, e6⟩ := m_draw hp (top := 6) (by omega) (by omega)
  have tail : ∀ (q : Pool), q.Ok → ∃ (t : Int) (q3 q4 q5 : Pool) (x y z : Int), q5.Ok ∧ 1 ≤ t ∧ t ≤ 3 ∧ 1 + x / 4 + y * z = t ∧ mulOk y z = true ∧ m__law_draw [.own true q.l, .d (.int 6)] = .ok (.d (.int x)) [.own true q3.l, .d (.int 6)] ∧
      m__law_draw [.own true q3.l, .d (.int 2)] = .ok (.d (.int y)) [.own true q4.l, .d (.int 2)] ∧ m__law_draw [.own true q4.l, .d (.int 2)] = .ok (.d (.int z)) [.own true q5.l, .d (.int 2)] := by
    intro q hq
    obtain ⟨x, q3, hq3, x0, x1, ex⟩ := m_draw hq (top := 6) (by omega) (by omega)
    obtain ⟨y, q4, hq4, y0, y1, ey⟩ := m_draw hq3 (top := 2) (by omega) (by omega)
    obtain ⟨z, q5, hq5, z0, z1, ez⟩ := m_draw hq4 (top := 2) (by omega) (by omega)
    have hy : y = 0 ∨ y = 1 := by omega
    have hz : z = 0 ∨ z = 1 := by omega
    refine ⟨1 + x / 4 + y * z, q3, q4, q5, x, y, z, hq5, ?_, ?_, rfl, mulOk_r (by omega) (by omega), ex, ey, ez⟩ <;> rcases hy with rfl | rfl <;> rcases hz with rfl | rfl <;> omega
  have hsl : ∀ c ∈ tl s, c < 1114112 := fun c hc => by have := hs.let' c hc; omega
  have hh : tl (S "#" ++ s) = 35 :: tl s := by
    rw [tl_append]
    have : tl (S "#") = [35] := by decide +kernel
    rw [this]
    rfl
  have hhl : ∀ c ∈ tl (S "#" ++ s), c < 1114112 := fun c hc => by
    rw [hh] at hc
    rcases List.mem_cons.mp hc with rfl | hc
    · omega
    · exact hsl c hc
  have l1 := hs.l1
  have l3 := hs.l3
  have l16 : Nat.log2 4 < 9000 := by decide
  have h1l : (S "#").length = 1 := by decide +kernel
  have hsz : 1 + s.length ≤ 16777216 := by rw [len_tl]; omega
  have one : ∀ (k : String), (k = "sign" ∨ k = "drop" ∨ k = "add") → ∃ (a : Str) (t : Int) (q2 q3 q4 q5 : Pool) (x y z : Int), SetOf s a ∧ q5.Ok ∧ 1 ≤ t ∧ t ≤ 3 ∧ 1 + x / 4 + y * z = t ∧ mulOk y z = true ∧ m__law_draw [.own true q2.l, .d (.int 6)] = .ok (.d (.int x)) [.own true q3.l, .d (.int 6)] ∧
      m__law_draw [.own true q3.l, .d (.int 2)] = .ok (.d (.int y)) [.own true q4.l, .d (.int 2)] ∧ m__law_draw [.own true q4.l, .d (.int 2)] = .ok (.d (.int z)) [.own true q5.l, .d (.int 2)] ∧ m__law_set [.own true q1.l, .d (.str s)] = .ok (.d (.str a)) [.own true q2.l, .d (.str s)] := by
    intro k hk
    obtain ⟨cs, q2, hq2, hsub, hne, es⟩ := m_set hq1 s l1 (by omega) hsl
    obtain ⟨t, q3, q4, q5, x, y, z, hq5, t1, t3, et, hm, ex, ey, ez⟩ := tail q2 hq2
    exact ⟨ofL cs, t, q2, q3, q4, q5, x, y, z, ⟨hne, hsub⟩, hq5, t1, t3, et, hm, ex, ey, ez, es⟩
  have two : ∀ (w : Str), 1 ≤ (tl w).length → (tl w).length ≤ 100 → (∀ c ∈ tl w, c < 1114112) → ∃ (a b : Str) (t : Int) (q2 q2' q3 q4 q5 : Pool) (x y z : Int), SetOf w a ∧ SetOf w b ∧ q5.Ok ∧ 1 ≤ t ∧ t ≤ 3 ∧ 1 + x / 4 + y * z = t ∧ mulOk y z = true ∧ m__law_draw [.own true q2'.l, .d (.int 6)] = .ok (.d (.int x)) [.own true q3.l, .d (.int 6)] ∧
      m__law_draw [.own true q3.l, .d (.int 2)] = .ok (.d (.int y)) [.own true q4.l, .d (.int 2)] ∧ m__law_draw [.own true q4.l, .d (.int 2)] = .ok (.d (.int z)) [.own true q5.l, .d (.int 2)] ∧ m__law_set [.own true q1.l, .d (.str w)] = .ok (.d (.str a)) [.own true q2.l, .d (.str w)] ∧ m__law_set [.own true q2.l, .d (.str w)] = .ok (.d (.str b)) [.own true q2'.l, .d (.str w)] := by
    intro w w1 w2 w3
    obtain ⟨cs, q2, hq2, hsub, hne, es⟩ := m_set hq1 w w1 w2 w3
    obtain ⟨cs', q2', hq2', hsub', hne', es'⟩ := m_set hq2 w w1 w2 w3
    obtain ⟨t, q3, q4, q5, x, y, z, hq5, t1, t3, et, hm, ex, ey, ez⟩ := tail q2' hq2'
    exact ⟨ofL cs, ofL cs', t, q2, q2', q3, q4, q5, x, y, z, ⟨hne, hsub⟩, ⟨hne', hsub'⟩, hq5, t1, t3, et, hm, ex, ey, ez, es, es'⟩
  have inA : ∀ a, inD (.str a) (.list [.str (S "beside"), .str (S "change")]) = some (.bool (decide (a ∈ [S "beside", S "change"]))) := fun a => inD_strs a [S "beside", S "change"]
  have n1 : decide (S "sign" = S "beside") = false := by decide +kernel
  have n2 : decide (S "drop" = S "beside") = false := by decide +kernel
  have n3 : decide (S "add" = S "beside") = false := by decide +kernel
  have n4 : decide (S "change" = S "beside") = false := by decide +kernel
  have m1 : decide (S "sign" ∈ [S "beside", S "change"]) = false := by decide +kernel
  have m2 : decide (S "drop" ∈ [S "beside", S "change"]) = false := by decide +kernel
  have m3 : decide (S "add" ∈ [S "beside", S "change"]) = false := by decide +kernel
  have m4 : decide (S "change" ∈ [S "beside", S "change"]) = true := by decide +kernel
  have m5 : decide (S "beside" ∈ [S "beside", S "change"]) = true := by decide +kernel
  have h6 : d6 = 0 ∨ d6 = 1 ∨ d6 = 2 ∨ d6 = 3 ∨ d6 = 4 ∨ d6 = 5 := by omega
  have beside : (d6 = 1 ∨ d6 = 5) → ∃ (t : Pat) (q : Pool), q.Ok ∧ t.Ok s ∧ m__law_pattern [.own true p.l, .d (.str s)] = .ok (.d t.d) [.own true q.l, .d (.str s)] := by
    intro h
    obtain ⟨a, b, t, q2, q2', q3, q4, q5, x, y, z, ha, hb, hq5, t1, t3, et, hm, ex, ey, ez, es, es'⟩ := two (S "#" ++ s) (by rw [hh]; simp) (by rw [hh, List.length_cons]; omega) hhl
    refine ⟨⟨[S "beside", a, b], t⟩, q5, hq5, ⟨.beside ha hb, t1, t3⟩, ?_⟩
    rcases h with rfl | rfl <;> simp [m__law_pattern, gOf, w__law_pattern, e6, put_eq, putOwn_eq, sizeLine, atI, ixN, h1l, hsz, es, es', inA, m5, ex, ey, ez, et, hm, l16, Pat.d, -List.mem_cons]
  rcases h6 with rfl | h6 | rfl | rfl | rfl | h6
  · obtain ⟨a, t, q2, q3, q4, q5, x, y, z, ha, hq5, t1, t3, et, hm, ex, ey, ez, es⟩ := one "sign" (.inl rfl)
    refine ⟨⟨[S "sign", a], t⟩, q5, hq5, ⟨.sign ha, t1, t3⟩, ?_⟩
    simp [m__law_pattern, gOf, w__law_pattern, e6, put_eq, putOwn_eq, sizeLine, atI, ixN, n1, es, inA, m1, ex, ey, ez, et, hm, l16, Pat.d, -List.mem_cons]
  · exact beside (.inl h6)
  · obtain ⟨a, t, q2, q3, q4, q5, x, y, z, ha, hq5, t1, t3, et, hm, ex, ey, ez, es⟩ := one "drop" (.inr (.inl rfl))
    refine ⟨⟨[S "drop", a], t⟩, q5, hq5, ⟨.drop ha, t1, t3⟩, ?_⟩
    simp [m__law_pattern, gOf, w__law_pattern, e6, put_eq, putOwn_eq, sizeLine, atI, ixN, n2, es, inA, m2, ex, ey, ez, et, hm, l16, Pat.d, -List.mem_cons]
  · obtain ⟨a, t, q2, q3, q4, q5, x, y, z, ha, hq5, t1, t3, et, hm, ex, ey, ez, es⟩ := one "add" (.inr (.inr rfl))
    refine ⟨⟨[S "add", a], t⟩, q5, hq5, ⟨.add ha, t1, t3⟩, ?_⟩
    simp [m__law_pattern, gOf, w__law_pattern, e6, put_eq, putOwn_eq, sizeLine, atI, ixN, n3, es, inA, m3, ex, ey, ez, et, hm, l16, Pat.d, -List.mem_cons]
  · obtain ⟨a, b, t, q2, q2', q3, q4, q5, x, y, z, ha, hb, hq5, t1, t3, et, hm, ex, ey, ez, es, es'⟩ := two s l1 (by omega) hsl
    refine ⟨⟨[S "change", a, b], t⟩, q5, hq5, ⟨.change ha hb, t1, t3⟩, ?_⟩
    simp [m__law_pattern, gOf, w__law_pattern, e6, put_eq, putOwn_eq, sizeLine, atI, ixN, n4, es, es', inA, m4, ex, ey, ez, et, hm, l16, Pat.d, -List.mem_cons]
  · exact beside (.inr h6)
structure Wish where
  n : Str
  ps : List Pat
def Wish.d (w : Wish) : Pd := .tuple [.str w.n, .tuple (w.ps.map Pat.d)]
structure Wish.Ok (s : Str) (w : Wish) : Prop where
  n : nameL (tl w.n)
  l1 : 1 ≤ w.ps.length
  l3 : w.ps.length ≤ 3
  ps : ∀ p ∈ w.ps, p.Ok s
structure Code where
  s : Str
  ws : List Wish
def Code.d (c : Code) : Pd := .tuple [.str c.s, .tuple (c.ws.map Wish.d)]
structure Code.Ok (m : Int) (c : Code) : Prop where
  s : SgOk c.s
  l1 : 1 ≤ c.ws.length
  lm : (c.ws.length : Int) ≤ m
  nd : (c.ws.map Wish.n).Nodup
  ws : ∀ w ∈ c.ws, w.Ok c.s
def wordL : List Str := [S "signs", S "sign", S "add", S "drop", S "change", S "beside", S "signsx"]
theorem wordL_name : ∀ z ∈ wordL, nameL (tl z) := by decide +kernel
def cutG {α : Type} (xs : List α) (lo hi : Option Int) : List α := (xs.drop (HT.sIx xs.length 0 lo)).take (HT.sIx xs.length xs.length hi - HT.sIx xs.length 0 lo)
theorem cut_map {α : Type} (f : α → Pd) (xs : List α) (lo hi : Option Int) : cutD (xs.map f) lo hi = (cutG xs lo hi).map f := by
  unfold cutD cutG
  simp [List.map_drop, List.map_take]
theorem mem_cut {α : Type} {xs : List α} {lo hi : Option Int} {x : α} (h : x ∈ cutG xs lo hi) : x ∈ xs := by
  unfold cutG at h
  exact List.mem_of_mem_drop (List.mem_of_mem_take h)
theorem cut_len {α : Type} (xs : List α) (lo hi : Option Int) : (cutG xs lo hi).length ≤ xs.length := by
  unfold cutG
  rw [List.length_take, List.length_drop]
  omega
/-- the patterns of one wish -/
theorem code_pats {p : Pool} (hp : p.Ok) {s : Str} (hs : SgOk s) (m : Nat) (hm : m ≤ 10) {s1 s3 s4 s5 s6 s7 s9 : Sl} : ∃ (q : Pool) (ps : List Pat), q.Ok ∧ ps.length = m ∧ (∀ t ∈ ps, t.Ok s) ∧
    lcRun (put 8) (fun ρ => R.ok true ρ) ce__law_code_2 [8] (nums 0 m) [] [.own true p.l, s1, .d (.str s), s3, s4, s5, s6, s7, .no, s9] = .ok (ps.map Pat.d) [.own true q.l, s1, .d (.str s), s3, s4, s5, s6, s7, .no, s9] := by
  have hlen : (nums 0 m).length = m := by simp [nums]
  obtain ⟨acc, ρ', key1, q, ps, hq, rfl, rfl, hly, hys⟩ := lc_inv0 (h := put 8) (ft := fun ρ => R.ok true ρ) (fe := ce__law_code_2) (vs := [8]) (xs := nums 0 m) (ρ := [.own true p.l, s1, .d (.str s), s3, s4, s5, s6, s7, .no, s9])
    (fun i acc ρ => ∃ (q : Pool) (ps : List Pat), q.Ok ∧ ρ = [.own true q.l, s1, .d (.str s), s3, s4, s5, s6, s7, .no, s9] ∧ acc = ps.map Pat.d ∧ ps.length = i ∧ ∀ t ∈ ps, t.Ok s)
    ⟨p, [], hp, rfl, rfl, rfl, by simp⟩ (fun i x acc ρ hx hI => by
      obtain ⟨q, ps, hq, rfl, rfl, hl, hys⟩ := hI
      have hi : i < m := by
        have := (List.getElem?_eq_some_iff.mp hx).1
        omega
      obtain ⟨t, q2, hq2, ht, et⟩ := m_pattern hq hs
      refine ⟨[.own true q.l, s1, .d (.str s), s3, s4, s5, s6, s7, .d x, s9], _, [.own true q2.l, s1, .d (.str s), s3, s4, s5, s6, s7, .d x, s9], t.d, by simp [put_eq], rfl, ?_, by simp [hl, sizeLine]; omega, q2, ps ++ [t], hq2, by simp, by simp, by simp [hl], fun y hy => ?_⟩
      · simp [ce__law_code_2, et]
      · rcases List.mem_append.mp hy with hy | hy
        · exact hys y hy
        · rw [List.mem_singleton] at hy
          subst hy
          exact ht)
  rw [hlen] at hly
  exact ⟨q, ps, hq, hly, hys, key1⟩
/-- the words that are not taken -/
theorem code_words (L known : List Str) (hL : L.length ≤ 100) {s0 s1 s2 s4 s5 s6 s7 s8 : Sl} :
    lcRun (put 9) ct__law_code_1 ce__law_code_1 [9] (L.map PyData.str) [] [s0, s1, s2, .own false (known.map PyData.str), s4, s5, s6, s7, s8, .no] = .ok ((L.filter fun z => !decide (z ∈ known)).map PyData.str) [s0, s1, s2, .own false (known.map PyData.str), s4, s5, s6, s7, s8, .no] := by
  have := lc_filter (h := put 9) (ft := ct__law_code_1) (fe := ce__law_code_1) (vs := [9]) (fun x => match x with | .str z => !decide (z ∈ known) | _ => false) (fun x => x) (ρ := [s0, s1, s2, .own false (known.map PyData.str), s4, s5, s6, s7, s8, .no]) (xs := L.map PyData.str) (acc := []) (fun x hx => by
    obtain ⟨z, hz, rfl⟩ := List.mem_map.mp hx
    refine ⟨[s0, s1, s2, .own false (known.map PyData.str), s4, s5, s6, s7, s8, .d (.str z)], [s0, s1, s2, .own false (known.map PyData.str), s4, s5, s6, s7, s8, .d (.str z)], by simp [put_eq], ?_, by simp, fun _ => ⟨[s0, s1, s2, .own false (known.map PyData.str), s4, s5, s6, s7, s8, .d (.str z)], by simp [ce__law_code_1], by simp⟩⟩
    simp [ct__law_code_1, notInD_strs]) (by simp [sizeLine]; omega)
  rw [this, List.nil_append, List.map_id', List.filter_map]
  rfl
theorem cut_last (known : List Str) (n : Str) : cutD ((known ++ [n]).map PyData.str) (some (known.length : Int)) none = [.str n] := by
  rw [cut_map]
  unfold cutG
  have e : HT.sIx (known ++ [n]).length 0 (some (known.length : Int)) = known.length := by
    rw [sIx_some _ _ _ (by omega)]
    simp
  rw [e]
  show (List.take ((known ++ [n]).length - known.length) _).map PyData.str = _
  simp
theorem at_last {known : List Pd} {x : Pd} : atI (known ++ [x]) (known.length : Int) = some x := by
  unfold atI ixN
  rw [if_pos (by omega), if_pos (by simp; omega)]
  simp
theorem ix_last {known : List Pd} {x : Pd} {m : Nat} (h : known.length = m) : ixN (known ++ [x]).length (m : Int) = some m := by
  unfold ixN
  rw [if_pos (by omega), if_pos (by simp; omega)]
  simp
theorem code_turn {p : Pool} (hp : p.Ok) {s : Str} (hs : SgOk s) (ws : List Wish) (hw : ws.length ≤ 19) (hok : ∀ w ∈ ws, w.Ok s) (hnd : (ws.map Wish.n).Nodup) {s1 s6 s7 : Sl} (i6 : isIo s6 = false) (i7 : isIo s7 = false) :
    ∃ (q : Pool) (w : Wish) (t6 t7 : Sl), q.Ok ∧ w.Ok s ∧ w.n ∉ ws.map Wish.n ∧ isIo t6 = false ∧ isIo t7 = false ∧
      fb__law_code_0 [.own true p.l, s1, .d (.str s), .own false ((ws.map Wish.n).map PyData.str), .own false (ws.map Wish.d), .d (.int ws.length), s6, s7, .no, .no] =
        .ok .nx [.own true q.l, s1, .d (.str s), .own false (((ws ++ [w]).map Wish.n).map PyData.str), .own false ((ws ++ [w]).map Wish.d), .d (.int ws.length), t6, t7, .no, .no] := by
  generalize hkn : ws.map Wish.n = known at *
  have hkl : known.length = ws.length := by rw [← hkn, List.length_map]
  obtain ⟨n, q1, hq1, hn, hnk, e1⟩ := m_lawname hp known (by omega) (fun z hz => by
    rw [← hkn] at hz
    obtain ⟨w, hw, rfl⟩ := List.mem_map.mp hz
    exact (hok w hw).n)
  obtain ⟨d8, q2, hq2, g0, g1, e8⟩ := m_draw hq1 (top := 8) (by omega) (by omega)
  have hz : (known.map PyData.str).length < 16777216 := by rw [List.length_map]; omega
  have hz2 : (ws.map Wish.d).length < 16777216 := by rw [List.length_map]; omega
  have fl : flatL q1.l = true := rfl
  have fs : flatD (PyData.str n) = true := rfl
  have al : ∀ x : Pd, atI (known.map PyData.str ++ [x]) (ws.length : Int) = some x := fun x => by
    have := at_last (known := known.map PyData.str) (x := x)
    rw [List.length_map, hkl] at this
    exact this
  by_cases h8 : d8 = 1
  · obtain ⟨d7, q3, hq3, k0, k1, e7⟩ := m_draw hq2 (top := 7) (by omega) (by omega)
    obtain ⟨d3, q4, hq4, l0, l1, e3⟩ := m_draw hq3 (top := 3) (by omega) (by omega)
    have k9 := code_words (cutG wordL (some d7) none) (known ++ [n]) (by have := cut_len wordL (some d7) none; have : wordL.length = 7 := rfl; omega)
      (s0 := .own true q3.l) (s1 := s1) (s2 := .d (.str s)) (s4 := .own false (ws.map Wish.d)) (s5 := .d (.int ws.length)) (s6 := .d (.list (wordL.map PyData.str))) (s7 := s7) (s8 := .no)
    rw [← cut_map] at k9
    obtain ⟨r, hr, hrk, er⟩ : ∃ r, nameL (tl r) ∧ r ∉ known ∧ ∃ rest, ((cutG wordL (some d7) none).filter fun z => !decide (z ∈ known ++ [n])).map PyData.str ++ cutD ((known ++ [n]).map PyData.str) (some (ws.length : Int)) none = .str r :: rest := by
      rw [← hkl, cut_last]
      cases ef : (cutG wordL (some d7) none).filter fun z => !decide (z ∈ known ++ [n]) with
      | nil => exact ⟨n, hn, hnk, [], rfl⟩
      | cons r rest =>
        have hr : r ∈ (cutG wordL (some d7) none).filter fun z => !decide (z ∈ known ++ [n]) := by rw [ef]; exact List.mem_cons_self
        obtain ⟨h1, h2⟩ := List.mem_filter.mp hr
        have h2 : r ∉ known ++ [n] := by simpa using h2
        exact ⟨r, wordL_name r (mem_cut h1), fun h => h2 (List.mem_append_left _ h), _, rfl⟩
    obtain ⟨rest, er⟩ := er
    have ln : (((cutG wordL (some d7) none).filter fun z => !decide (z ∈ known ++ [n])).map PyData.str).length + (cutD ((known ++ [n]).map PyData.str) (some (ws.length : Int)) none).length ≤ 16777216 := by
      rw [List.length_map]
      have h1 := List.length_filter_le (fun z => !decide (z ∈ known ++ [n])) (cutG wordL (some d7) none)
      have h2 := cut_len wordL (some d7) none
      have h3 : (cutD ((known ++ [n]).map PyData.str) (some (ws.length : Int)) none).length ≤ _ := cut_len ((known ++ [n]).map PyData.str) (some (ws.length : Int)) none
      have h4 : wordL.length = 7 := rfl
      rw [List.length_map, List.length_append, List.length_singleton] at h3
      omega
    obtain ⟨q5, ps, hq5, hpl, hps, kp⟩ := code_pats hq4 hs (1 + d3).toNat (by omega) (s1 := s1) (s3 := .own false (known.map PyData.str ++ [.str r])) (s4 := .own false (ws.map Wish.d)) (s5 := .d (.int ws.length)) (s6 := .d (.list (wordL.map PyData.str))) (s7 := s7) (s9 := .no)
    refine ⟨q5, ⟨r, ps⟩, .d (.list (wordL.map PyData.str)), .d (.tuple (ps.map Pat.d)), hq5, ⟨hr, by show 1 ≤ ps.length; omega, by show ps.length ≤ 3; omega, hps⟩, hrk, rfl, rfl, ?_⟩
    have hr3 : (-4611686018427387904 : Int) ≤ 1 + d3 ∧ (1 + d3 : Int) < 4611686018427387904 := by omega
    have ix := ix_last (known := known.map PyData.str) (x := .str n) (m := ws.length) (by rw [List.length_map, hkl])
    have st : (known.map PyData.str ++ [PyData.str n]).set ws.length (.str r) = known.map PyData.str ++ [.str r] := by
      rw [← hkl, ← List.length_map (f := PyData.str)]
      simp
    have eW : wordL.map PyData.str = [.str (S "signs"), .str (S "sign"), .str (S "add"), .str (S "drop"), .str (S "change"), .str (S "beside"), .str (S "signsx")] := rfl
    simp only [List.map_append, List.map_cons, List.map_nil] at er ln k9
    rw [eW] at k9 kp
    have kpt : (1 : Int) + d3 = 1 + d3 := rfl
    have a0 : ∀ rest, atI (PyData.str r :: rest) 0 = some (.str r) := fun rest => by simp [atI, ixN]
    simp only [List.map_append, List.map_cons, List.map_nil, hkn, eW]
    simp [fb__law_code_0, e1, fl, fs, hz, hz2, put_eq, i6, i7, e8, h8, e7, sizeLine, k9, er, ln, a0, ix, st, e3, hr3.1, hr3.2, kp, al, Wish.d, -List.length_append, -List.length_map, -List.mem_append]
  · obtain ⟨d3, q4, hq4, l0, l1, e3⟩ := m_draw hq2 (top := 3) (by omega) (by omega)
    obtain ⟨q5, ps, hq5, hpl, hps, kp⟩ := code_pats hq4 hs (1 + d3).toNat (by omega) (s1 := s1) (s3 := .own false (known.map PyData.str ++ [.str n])) (s4 := .own false (ws.map Wish.d)) (s5 := .d (.int ws.length)) (s6 := .d (.list (wordL.map PyData.str))) (s7 := s7) (s9 := .no)
    refine ⟨q5, ⟨n, ps⟩, .d (.list (wordL.map PyData.str)), .d (.tuple (ps.map Pat.d)), hq5, ⟨hn, by show 1 ≤ ps.length; omega, by show ps.length ≤ 3; omega, hps⟩, hnk, rfl, rfl, ?_⟩
    have hr3 : (-4611686018427387904 : Int) ≤ 1 + d3 ∧ (1 + d3 : Int) < 4611686018427387904 := by omega
    have eW : wordL.map PyData.str = [.str (S "signs"), .str (S "sign"), .str (S "add"), .str (S "drop"), .str (S "change"), .str (S "beside"), .str (S "signsx")] := rfl
    rw [eW] at kp
    simp only [List.map_append, List.map_cons, List.map_nil, hkn, eW]
    simp [fb__law_code_0, e1, fl, fs, hz, hz2, put_eq, i6, i7, e8, h8, sizeLine, e3, hr3.1, hr3.2, kp, al, Wish.d, -List.length_append, -List.length_map, -List.mem_append]
theorem m_code {p : Pool} (hp : p.Ok) (m : Int) (h0 : 0 < m) (h1 : m ≤ 19) : ∃ (c : Code) (q : Pool), q.Ok ∧ c.Ok m ∧ m__law_code [.own true p.l, .d (.int m)] = .ok (.d c.d) [.own true q.l, .d (.int m)] := by
  obtain ⟨s, q1, hq1, hs, e1⟩ := m_signs hp
  obtain ⟨dm, q2, hq2, g0, g1, e2⟩ := m_draw hq1 (top := m) (by omega) (by omega)
  have hlen : (nums 0 (1 + dm).toNat).length = (1 + dm).toNat := by simp [nums]
  obtain ⟨ρ', ef, q, ws, t5, t6, t7, hq, hwl, hok, hnd, i5, i6, i7, rfl⟩ := for_inv (h := put 5) (fb := fb__law_code_0) (xs := nums 0 (1 + dm).toNat) (ρ := [.own true q2.l, .d (.int m), .d (.str s), .own false [], .own false [], .no, .no, .no, .no, .no])
    (fun i ρ => ∃ (q : Pool) (ws : List Wish) (t5 t6 t7 : Sl), q.Ok ∧ ws.length = i ∧ (∀ w ∈ ws, w.Ok s) ∧ (ws.map Wish.n).Nodup ∧ isIo t5 = false ∧ isIo t6 = false ∧ isIo t7 = false ∧
      ρ = [.own true q.l, .d (.int m), .d (.str s), .own false ((ws.map Wish.n).map PyData.str), .own false (ws.map Wish.d), t5, t6, t7, .no, .no])
    (fun i x ρ hx hI => by
      obtain ⟨q, ws, t5, t6, t7, hq, hwl, hok, hnd, i5, i6, i7, rfl⟩ := hI
      have hi : i < (1 + dm).toNat := by
        have := (List.getElem?_eq_some_iff.mp hx).1
        omega
      have hx' : x = .int ws.length := by
        unfold nums at hx
        rw [List.getElem?_map, List.getElem?_range hi] at hx
        simp at hx
        rw [← hx, hwl]
      subst hx'
      obtain ⟨q3, w, u6, u7, hq3, hw, hwn, j6, j7, e⟩ := code_turn hq hs ws (by omega) hok hnd (s1 := .d (.int m)) i6 i7
      refine ⟨[.own true q.l, .d (.int m), .d (.str s), .own false ((ws.map Wish.n).map PyData.str), .own false (ws.map Wish.d), .d (.int ws.length), t6, t7, .no, .no], _, by simp [put_eq, i5], .inl e, q3, ws ++ [w], _, u6, u7, hq3, by simp [hwl], ?_, ?_, rfl, j6, j7, rfl⟩
      · intro y hy
        rcases List.mem_append.mp hy with hy | hy
        · exact hok y hy
        · rw [List.mem_singleton.mp hy]; exact hw
      · rw [List.map_append, List.nodup_append]
        refine ⟨hnd, by simp, fun a ha b hb => ?_⟩
        simp at hb
        subst hb
        exact fun e => hwn (e ▸ ha))
    ⟨q2, [], .no, .no, .no, hq2, rfl, by simp, .nil, rfl, rfl, rfl, rfl⟩
  rw [hlen] at hwl
  refine ⟨⟨s, ws⟩, q, hq, ⟨hs, by show 1 ≤ ws.length; omega, by show (ws.length : Int) ≤ m; omega, hnd, hok⟩, ?_⟩
  have hr : (-4611686018427387904 : Int) ≤ 1 + dm ∧ (1 + dm : Int) < 4611686018427387904 := by omega
  simp [m__law_code, gOf, w__law_code, put_eq, putOwn_eq, sizeLine, e1, e2, hr.1, hr.2, ef, Code.d]
end Lw
namespace Lw
open PySem PySem.Spec L2 Evl Dt
open TL (tl joinL tl_join tl_ofString join_eq tl_append len_tl)
theorem at0 {α : Type} (x : α) (rest : List α) : atI (x :: rest) 0 = some x := by simp [atI, ixN]
theorem at1 {α : Type} (x y : α) (rest : List α) : atI (x :: y :: rest) 1 = some y := by
  unfold atI ixN
  rw [if_pos (by omega), if_pos (by simp only [List.length_cons]; omega)]
  rfl
/-! ### texts, names, rising texts: over any data -/
def okP : Pd → Bool
  | .str x => decide (x.length ≤ 1000)
  | _ => true
def isTextD (s : Str) : Pd → Bool
  | .str z => decide (∀ c ∈ tl z, c ∈ tl s)
  | _ => false
def inTx (s : Str) : Pd → Bool
  | .str z => inStr z s
  | _ => false
theorem chars_all (z s : Str) : (chars z).all (inTx s) = decide (∀ c ∈ tl z, c ∈ tl s) := by
  unfold chars
  rw [List.all_map, Bool.eq_iff_iff, List.all_eq_true]
  simp only [decide_eq_true_eq]
  refine forall_congr' fun c => imp_congr_right fun _ => ?_
  show inStr ⟨#[c]⟩ s = true ↔ _
  rw [inStr_one, decide_eq_true_eq]
theorem m_text (d : Pd) (s : Str) (hd : okP d = true) : m_is_text_of [.d d, .d (.str s)] = .ok (.d (.bool (isTextD s d))) [.d d, .d (.str s)] := by
  cases d with
  | str z =>
    have hs : z.length ≤ 1000 := by simpa [okP] using hd
    have key : lcRun (put 2) (fun ρ => R.ok true ρ) ce_is_text_of_0 [2] (chars z) [] [.d (.str z), .d (.str s), .no] = .ok ([] ++ (chars z).map fun x => .bool (inTx s x)) [.d (.str z), .d (.str s), .no] := by
      refine lc_map _ (fun x hx => ?_) ?_
      · obtain ⟨c, hc, rfl⟩ := List.mem_map.mp hx
        exact ⟨[.d (.str z), .d (.str s), .d (.str ⟨#[c]⟩)], [.d (.str z), .d (.str s), .d (.str ⟨#[c]⟩)], [.d (.str z), .d (.str s), .d (.str ⟨#[c]⟩)], by simp [put_eq], rfl, by simp [ce_is_text_of_0, inD, inB, inTx], by simp⟩
      · have : (chars z).length = z.length := by simp [chars, len_tl]
        simp [sizeLine]
        omega
    have ea := boolsD_all (inTx s) (chars z)
    rw [chars_all, allD_list] at ea
    simp only [List.nil_append] at key
    simp [m_is_text_of, gOf, w_is_text_of, isStrD, key, ea, isTextD]
  | _ => simp [m_is_text_of, gOf, w_is_text_of, isStrD, isTextD]
def nameB : Pd → Bool
  | .str z => decide (1 ≤ (z.length : Int)) && (decide ((z.length : Int) ≤ 8) && decide (∀ c ∈ tl z, c ∈ tl abc))
  | _ => false
theorem m_isname (d : Pd) (hd : okP d = true) : m_is_name [.d d] = .ok (.d (.bool (nameB d))) [.d d] := by
  cases d with
  | str z =>
    have hs : z.length ≤ 1000 := by simpa [okP] using hd
    have hz : z.length ≤ 16777216 := by omega
    by_cases h1 : 1 ≤ (z.length : Int)
    · by_cases h2 : (z.length : Int) ≤ 8
      · have key : lcRun (put 1) (fun ρ => R.ok true ρ) ce_is_name_0 [1] (chars z) [] [.d (.str z), .no] = .ok ([] ++ (chars z).map fun x => .bool (inTx abc x)) [.d (.str z), .no] := by
          refine lc_map _ (fun x hx => ?_) ?_
          · obtain ⟨c, hc, rfl⟩ := List.mem_map.mp hx
            exact ⟨[.d (.str z), .d (.str ⟨#[c]⟩)], [.d (.str z), .d (.str ⟨#[c]⟩)], [.d (.str z), .d (.str ⟨#[c]⟩)], by simp [put_eq], rfl, by simp [ce_is_name_0, inD, inB, inTx], by simp⟩
          · have : (chars z).length = z.length := by simp [chars, len_tl]
            simp [sizeLine]
            omega
        have ea := boolsD_all (inTx abc) (chars z)
        rw [chars_all, allD_list] at ea
        simp only [List.nil_append] at key
        have eb : nameB (.str z) = decide (∀ c ∈ tl z, c ∈ tl abc) := by simp only [nameB, decide_eq_true h1, decide_eq_true h2, Bool.true_and]
        rw [eb]
        simp [m_is_name, gOf, w_is_name, isStrD, hz, sizeLine, h1, h2, key, ea]
      · have eb : nameB (.str z) = false := by simp only [nameB, decide_eq_false h2, Bool.false_and, Bool.and_false]
        rw [eb]
        simp [m_is_name, gOf, w_is_name, isStrD, hz, sizeLine, h1, h2]
    · have eb : nameB (.str z) = false := by simp only [nameB, decide_eq_false h1, Bool.false_and]
      rw [eb]
      simp [m_is_name, gOf, w_is_name, isStrD, hz, sizeLine, h1]
  | _ => simp [m_is_name, gOf, w_is_name, isStrD, nameB]
def risL : List Nat → Bool
  | [] => true
  | [_] => true
  | a :: b :: r => decide (a < b) && risL (b :: r)
theorem risL_of : ∀ {l : List Nat}, l.Pairwise (· < ·) → risL l = true
  | [], _ => rfl
  | [_], _ => rfl
  | a :: b :: r, h => by
    rw [List.pairwise_cons] at h
    simp only [risL, decide_eq_true (h.1 b (by simp)), risL_of h.2, Bool.and_self]
theorem risL_all : ∀ (l : List Nat), ((List.range (l.length - 1)).all fun k => decide (l.getD k 0 < l.getD (k + 1) 0)) = risL l
  | [] => rfl
  | [_] => rfl
  | a :: b :: r => by
    have ih := risL_all (b :: r)
    have e1 : (a :: b :: r).length - 1 = (b :: r).length - 1 + 1 := by simp
    rw [e1, List.range_succ_eq_map, List.all_cons, List.all_map]
    show (decide (a < b) && _) = _
    rw [show risL (a :: b :: r) = (decide (a < b) && risL (b :: r)) from rfl, ← ih]
    rfl
theorem lt1 (a b : Nat) : decide ([a] < [b]) = decide (a < b) := by
  rw [Bool.eq_iff_iff, decide_eq_true_eq, decide_eq_true_eq, List.cons_lt_cons_iff]
  simp
theorem at_getD {l : List Nat} {k : Nat} (h : k < l.length) : atI l (k : Int) = some (l.getD k 0) := by
  unfold atI ixN
  rw [if_pos (by omega), if_pos (by omega)]
  show l[((k : Int)).toNat]? = _
  rw [Int.toNat_natCast, List.getElem?_eq_getElem h, List.getD_eq_getElem?_getD, List.getElem?_eq_getElem h]
  rfl
theorem m_rising (z : Str) (hz : z.length ≤ 1000) : m_is_rising [.d (.str z)] = .ok (.d (.bool (risL (tl z)))) [.d (.str z)] := by
  have hz' : z.length ≤ 16777216 := by omega
  have ht := len_tl z
  have key := lc_mapM (h := put 1) (fe := ce_is_rising_0) (vs := [1]) (fun k : Nat => PyData.int (k : Int)) (fun k => .bool (decide ((tl z).getD k 0 < (tl z).getD (k + 1) 0))) (ρ := [.d (.str z), .no]) (l := List.range ((tl z).length - 1)) (fun k hk => by
    have hk' := List.mem_range.mp hk
    have a1 : atI z.cps.toList (k : Int) = some ((tl z).getD k 0) := at_getD (l := tl z) (by omega)
    have a2 : atI z.cps.toList ((k : Int) + 1) = some ((tl z).getD (k + 1) 0) := at_getD (l := tl z) (k := k + 1) (by omega)
    have l1 := lt1 ((tl z).getD k 0) ((tl z).getD (k + 1) 0)
    refine ⟨[.d (.str z), .d (.int k)], [.d (.str z), .d (.int k)], by simp [put_eq], ?_, by simp⟩
    rw [← l1]
    generalize (tl z).getD k 0 = A at *
    generalize (tl z).getD (k + 1) 0 = B at *
    simp [ce_is_rising_0, hz', sizeLine, a1, a2]) (by rw [List.length_range]; omega)
  have en : nums 0 ((z.length : Int) - 1).toNat = (List.range ((tl z).length - 1)).map fun k : Nat => PyData.int (k : Int) := by
    unfold nums
    have : ((z.length : Int) - 1).toNat = (tl z).length - 1 := by omega
    rw [this]
    refine List.map_congr_left fun k _ => ?_
    congr 1
    omega
  have hb : boolsD ((List.range ((tl z).length - 1)).map fun k => PyData.bool (decide ((tl z).getD k 0 < (tl z).getD (k + 1) 0))) = some ((List.range ((tl z).length - 1)).map fun k => decide ((tl z).getD k 0 < (tl z).getD (k + 1) 0)) := by
    generalize List.range ((tl z).length - 1) = l
    induction l with
    | nil => rfl
    | cons x l ih => simp only [List.map_cons, boolsD]; rw [ih]
  have ha : ((List.range ((tl z).length - 1)).map fun k => decide ((tl z).getD k 0 < (tl z).getD (k + 1) 0)).all id = risL (tl z) := by
    rw [List.all_map]
    exact risL_all (tl z)
  have r1 : (-4611686018427387904 : Int) ≤ (z.length : Int) - 1 ∧ (z.length : Int) - 1 < 4611686018427387904 := by omega
  generalize hB : risL (tl z) = BB at *
  generalize ((List.range ((tl z).length - 1)).map fun k => decide ((tl z).getD k 0 < (tl z).getD (k + 1) 0)) = BL at *
  generalize ((List.range ((tl z).length - 1)).map fun k => PyData.bool (decide ((tl z).getD k 0 < (tl z).getD (k + 1) 0))) = BD at *
  generalize ((List.range ((tl z).length - 1)).map fun k : Nat => PyData.int (k : Int)) = NL at *
  have hl0 : lenD [.str z] = some (.int z.length) := by
    show (if _ then _ else _) = _
    rw [if_pos (show z.length ≤ sizeLine from hz')]
  clear ht hB
  generalize (z.length : Int) = L at *
  have ej : (L - 1).toNat = L.toNat - 1 := by omega
  rw [ej] at en
  simp [m_is_rising, gOf, w_is_rising, hl0, r1.1, r1.2, en, key, hb, ha, -lenD_str]
def risD : Pd → Bool
  | .str z => risL (tl z)
  | _ => false
def signsB : Pd → Bool
  | .str z => decide (∀ c ∈ tl z, c ∈ tl abc) && (decide (1 ≤ (z.length : Int)) && (decide ((z.length : Int) ≤ 3) && risL (tl z)))
  | _ => false
theorem m_aresigns (d : Pd) (hd : okP d = true) : m_are_signs [.d d] = .ok (.d (.bool (signsB d))) [.d d] := by
  have mt := m_text d abc hd
  cases d with
  | str z =>
    have hs : z.length ≤ 1000 := by simpa [okP] using hd
    have hz : z.length ≤ 16777216 := by omega
    have mr := m_rising z hs
    have e1 : isTextD abc (.str z) = decide (∀ c ∈ tl z, c ∈ tl abc) := rfl
    rw [e1] at mt
    have e2 : signsB (.str z) = (decide (∀ c ∈ tl z, c ∈ tl abc) && (decide (1 ≤ (z.length : Int)) && (decide ((z.length : Int) ≤ 3) && risL (tl z)))) := rfl
    rw [e2]
    generalize decide (∀ c ∈ tl z, c ∈ tl abc) = B at *
    generalize risL (tl z) = C at *
    have hl0 : lenD [.str z] = some (.int z.length) := by
      show (if _ then _ else _) = _
      rw [if_pos (show z.length ≤ sizeLine from hz)]
    generalize (z.length : Int) = L at *
    cases B with
    | false => simp [m_are_signs, gOf, w_are_signs, mt]
    | true =>
      by_cases h1 : 1 ≤ L
      · by_cases h2 : L ≤ 3
        · simp [m_are_signs, gOf, w_are_signs, mt, hl0, h1, h2, mr, -lenD_str]
        · simp [m_are_signs, gOf, w_are_signs, mt, hl0, h1, h2, -lenD_str]
      · simp [m_are_signs, gOf, w_are_signs, mt, hl0, h1, -lenD_str]
  | _ => simp [isTextD] at mt; simp [m_are_signs, gOf, w_are_signs, mt, signsB]
def isE : Pd → Bool
  | .str x => decide (x = S "")
  | _ => false
def setB (s : Str) (d : Pd) : Bool := isTextD s d && (!isE d && risD d)
theorem m_isset (s : Str) (d : Pd) (hd : okP d = true) : m_is_set [.d (.str s), .d d] = .ok (.d (.bool (setB s d))) [.d (.str s), .d d] := by
  have mt := m_text d s hd
  cases d with
  | str z =>
    have hs : z.length ≤ 1000 := by simpa [okP] using hd
    have mr := m_rising z hs
    have e2 : setB s (.str z) = (isTextD s (.str z) && (!decide (z = S "") && risL (tl z))) := rfl
    rw [e2]
    generalize isTextD s (.str z) = B at *
    generalize risL (tl z) = C at *
    cases B with
    | false => simp [m_is_set, gOf, w_is_set, mt]
    | true =>
      by_cases h1 : z = S ""
      · subst h1
        simp [m_is_set, gOf, w_is_set, mt]
      · simp [m_is_set, gOf, w_is_set, mt, h1, mr]
  | _ => simp [isTextD] at mt; simp [m_is_set, gOf, w_is_set, mt, setB, isTextD]
/-! ### patterns -/
def patB (s : Str) : Pd → Bool
  | .tuple (.str k :: rest) => match tab_SETS.lookup k with
    | none => false
    | some n => decide (((rest.length + 1 : Nat) : Int) = n + 1) && rest.all (setB (if k = S "beside" then S "#" ++ s else s))
  | _ => false
def okPat : Pd → Bool
  | .tuple xs => sh 60 (.tuple xs) && (decide (xs.length ≤ 1000) && xs.all okP)
  | _ => true
theorem boolsM {α : Type} (f : α → Bool) (l : List α) : boolsD (l.map fun x => PyData.bool (f x)) = some (l.map f) := by
  induction l with
  | nil => rfl
  | cons x l ih => simp only [List.map_cons, boolsD]; rw [ih]
theorem cut1 (x : Pd) (rest : List Pd) : cutD (x :: rest) (some 1) none = rest := by
  rw [cut_drop _ _ (by omega)]
  rfl
theorem m_ispat {s : Str} (hsl : s.length ≤ 100) (d : Pd) (hd : okPat d = true) : m_is_pattern [.d (.str s), .d d] = .ok (.d (.bool (patB s d))) [.d (.str s), .d d] := by
  cases d with
  | tuple xs =>
    simp only [okPat, Bool.and_eq_true, decide_eq_true_eq] at hd
    obtain ⟨h60, hl, hall⟩ := hd
    have he : eqD (.tuple xs) (.tuple []) = some (.bool (decide (xs = []))) := by
      have h2 : sh 60 (.tuple []) = true := rfl
      simp only [eqD, eqB_tuple, h60, h2, and_self, if_true, Option.map_some]
      cases xs <;> rfl
    cases xs with
    | nil => simp [m_is_pattern, gOf, w_is_pattern, isTupD, he, patB, sizeLine]
    | cons x rest =>
      rw [decide_eq_false (by simp)] at he
      rw [List.all_cons, Bool.and_eq_true] at hall
      have hlr : rest.length ≤ 1000 := by simp at hl; omega
      cases x with
      | str k =>
        have hk : k.length ≤ 1000 := by simpa [okP] using hall.1
        cases hlk : tab_SETS.lookup k with
        | none =>
          have ep : patB s (.tuple (.str k :: rest)) = false := by simp only [patB, hlk]
          rw [ep]
          simp [m_is_pattern, gOf, w_is_pattern, isTupD, isStrD, he, at0, hlk, sizeLine]
        | some n =>
          have ep : patB s (.tuple (.str k :: rest)) = (decide (((rest.length + 1 : Nat) : Int) = n + 1) && rest.all (setB (if k = S "beside" then S "#" ++ s else s))) := by simp only [patB, hlk]
          rw [ep]
          have hh : (S "#").length = 1 := by decide +kernel
          have z1 : (S "#").length + s.length ≤ 16777216 := by omega
          generalize hA : (if k = S "beside" then S "#" ++ s else s) = A
          have key := lc_mapM (h := put 3) (fe := ce_is_pattern_0) (vs := [3]) (fun x : Pd => x) (fun x => .bool (setB A x)) (ρ := [.d (.str s), .d (.tuple (.str k :: rest)), .d (.str A), .no]) (l := rest) (fun x hx => by
            have ms := m_isset A x (List.all_eq_true.mp hall.2 x hx)
            exact ⟨[.d (.str s), .d (.tuple (.str k :: rest)), .d (.str A), .d x], [.d (.str s), .d (.tuple (.str k :: rest)), .d (.str A), .d x], by simp [put_eq], by simp [ce_is_pattern_0, ms], by simp⟩) (by omega)
          rw [List.map_id'] at key
          have hb := boolsM (setB A) rest
          have hc := cut1 (.str k) rest
          have hla : (rest.map (setB A)).all id = rest.all (setB A) := by rw [List.all_map]; rfl
          generalize rest.all (setB A) = RB at *
          generalize rest.map (setB A) = RL at *
          generalize (rest.map fun x => PyData.bool (setB A x)) = RD at *
          have hlen : lenD [.tuple (PyData.str k :: rest)] = some (.int ((rest.length + 1 : Nat) : Int)) := rfl
          generalize ((rest.length + 1 : Nat) : Int) = LL at *
          by_cases hbe : k = S "beside"
          · have eb : eqD (.str k) (.str (S "beside")) = some (.bool true) := by rw [eqD_str, decide_eq_true hbe]
            rw [if_pos hbe] at hA
            subst hA
            clear hbe
            by_cases hn : LL = n + 1
            · simp [m_is_pattern, gOf, w_is_pattern, isTupD, isStrD, he, at0, hlk, eb, z1, sizeLine, put_eq, hlen, hn, hc, key, hb, hla, -lenD_tuple, -eqD_str]
            · simp [m_is_pattern, gOf, w_is_pattern, isTupD, isStrD, he, at0, hlk, eb, z1, sizeLine, put_eq, hlen, hn, hc, key, hb, hla, -lenD_tuple, -eqD_str]
          · have eb : eqD (.str k) (.str (S "beside")) = some (.bool false) := by rw [eqD_str, decide_eq_false hbe]
            rw [if_neg hbe] at hA
            subst hA
            clear hbe
            by_cases hn : LL = n + 1
            · simp [m_is_pattern, gOf, w_is_pattern, isTupD, isStrD, he, at0, hlk, eb, z1, sizeLine, put_eq, hlen, hn, hc, key, hb, hla, -lenD_tuple, -eqD_str]
            · simp [m_is_pattern, gOf, w_is_pattern, isTupD, isStrD, he, at0, hlk, eb, z1, sizeLine, put_eq, hlen, hn, hc, key, hb, hla, -lenD_tuple, -eqD_str]
      | _ => simp [m_is_pattern, gOf, w_is_pattern, isTupD, isStrD, he, at0, patB, sizeLine]
  | _ => simp [m_is_pattern, gOf, w_is_pattern, isTupD, patB]
end Lw
namespace Lw
open PySem PySem.Spec L2 Evl Dt
open TL (tl joinL tl_join tl_ofString join_eq tl_append len_tl)
theorem tup2 {xs : List Pd} (hl : xs.length = 2) : ∃ x y, xs = [x, y] := by
  cases xs with
  | nil => simp at hl
  | cons x r =>
    cases r with
    | nil => simp at hl
    | cons y r =>
      cases r with
      | nil => exact ⟨x, y, rfl⟩
      | cons _ _ => simp at hl
def wholeB : Pd → Bool
  | .int _ => true
  | _ => false
theorem m_whole (d : Pd) : m_is_whole [.d d] = .ok (.d (.bool (wholeB d))) [.d d] := by
  cases d <;> simp [m_is_whole, gOf, w_is_whole, isIntD, isBoolD, wholeB]
def timesB : Pd → Bool
  | .int i => decide (1 ≤ i) && decide (i ≤ 3)
  | _ => false
def cntB (s : Str) : Pd → Bool
  | .tuple [p, t] => patB s p && timesB t
  | _ => false
def okCnt : Pd → Bool
  | .tuple [p, _] => okPat p
  | _ => true
theorem m_iscnt {s : Str} (hsl : s.length ≤ 100) (d : Pd) (hd : okCnt d = true) : m_is_counted [.d (.str s), .d d] = .ok (.d (.bool (cntB s d))) [.d (.str s), .d d] := by
  cases d with
  | tuple xs =>
    by_cases hl : xs.length = 2
    · obtain ⟨p, t, rfl⟩ := tup2 hl
      have mp := m_ispat hsl p hd
      have mw := m_whole t
      have e : cntB s (.tuple [p, t]) = (patB s p && timesB t) := rfl
      rw [e]
      generalize patB s p = B at *
      cases B with
      | false => simp [m_is_counted, gOf, w_is_counted, isTupD, at0, mp]
      | true =>
        cases t with
        | int i =>
          have mw' : m_is_whole [.d (.int i)] = .ok (.d (.bool true)) [.d (.int i)] := mw
          by_cases h1 : 1 ≤ i
          · simp [m_is_counted, gOf, w_is_counted, isTupD, at0, at1, mp, mw', h1, timesB]
          · simp [m_is_counted, gOf, w_is_counted, isTupD, at0, at1, mp, mw', h1, timesB]
        | _ =>
          simp only [wholeB] at mw
          simp [m_is_counted, gOf, w_is_counted, isTupD, at0, at1, mp, mw, timesB]
    · have hl' : ¬ ((xs.length : Int) = 2) := by omega
      have e : cntB s (.tuple xs) = false := by
        unfold cntB
        split
        · rename_i h
          cases h
          simp at hl
        · rfl
      rw [e]
      simp [m_is_counted, gOf, w_is_counted, isTupD, hl']
  | _ => simp [m_is_counted, gOf, w_is_counted, isTupD, cntB]
def patsB (s : Str) : Pd → Bool
  | .tuple ps => decide (1 ≤ (ps.length : Int)) && (decide ((ps.length : Int) ≤ 3) && ps.all (cntB s))
  | _ => false
def wishB (s : Str) : Pd → Bool
  | .tuple [n, q] => nameB n && patsB s q
  | _ => false
def okPats : Pd → Bool
  | .tuple ps => ps.all okCnt
  | _ => true
def okWish : Pd → Bool
  | .tuple [n, q] => okP n && okPats q
  | _ => true
theorem m_iswish {s : Str} (hsl : s.length ≤ 100) (d : Pd) (hd : okWish d = true) : m_is_wish [.d (.str s), .d d] = .ok (.d (.bool (wishB s d))) [.d (.str s), .d d] := by
  cases d with
  | tuple xs =>
    by_cases hl : xs.length = 2
    · obtain ⟨n, q, rfl⟩ := tup2 hl
      simp only [okWish, Bool.and_eq_true] at hd
      have mn := m_isname n hd.1
      have e : wishB s (.tuple [n, q]) = (nameB n && patsB s q) := rfl
      rw [e]
      generalize nameB n = B at *
      cases B with
      | false => simp [m_is_wish, gOf, w_is_wish, isTupD, at0, mn]
      | true =>
        cases q with
        | tuple ps =>
          have e2 : patsB s (.tuple ps) = (decide (1 ≤ (ps.length : Int)) && (decide ((ps.length : Int) ≤ 3) && ps.all (cntB s))) := rfl
          rw [e2]
          by_cases h1 : 1 ≤ (ps.length : Int)
          · by_cases h3 : (ps.length : Int) ≤ 3
            · have key := lc_mapM (h := put 3) (fe := ce_is_wish_0) (vs := [3]) (fun x : Pd => x) (fun x => .bool (cntB s x)) (ρ := [.d (.str s), .d (.tuple [n, .tuple ps]), .d (.tuple ps), .no]) (l := ps) (fun x hx => by
                have ms := m_iscnt hsl x (List.all_eq_true.mp hd.2 x hx)
                exact ⟨[.d (.str s), .d (.tuple [n, .tuple ps]), .d (.tuple ps), .d x], [.d (.str s), .d (.tuple [n, .tuple ps]), .d (.tuple ps), .d x], by simp [put_eq], by simp [ce_is_wish_0, ms], by simp⟩) (by omega)
              rw [List.map_id'] at key
              have hb := boolsM (cntB s) ps
              have hla : (ps.map (cntB s)).all id = ps.all (cntB s) := by rw [List.all_map]; rfl
              generalize ps.all (cntB s) = RB at *
              generalize ps.map (cntB s) = RL at *
              generalize (ps.map fun x => PyData.bool (cntB s x)) = RD at *
              have hlen : lenD [.tuple ps] = some (.int (ps.length : Int)) := rfl
              generalize (ps.length : Int) = LL at *
              have hlen2 : lenD [.tuple [n, .tuple ps]] = some (.int 2) := rfl
              simp [m_is_wish, gOf, w_is_wish, isTupD, at0, at1, mn, put_eq, hlen, hlen2, h1, h3, key, hb, hla, -lenD_tuple]
            · simp [m_is_wish, gOf, w_is_wish, isTupD, at0, at1, mn, put_eq, h1, h3]
          · simp [m_is_wish, gOf, w_is_wish, isTupD, at0, at1, mn, put_eq, h1]
        | _ => simp [m_is_wish, gOf, w_is_wish, isTupD, at0, at1, mn, put_eq, patsB]
    · have hl' : ¬ ((xs.length : Int) = 2) := by omega
      have e : wishB s (.tuple xs) = false := by
        unfold wishB
        split
        · rename_i h
          cases h
          simp at hl
        · rfl
      rw [e]
      simp [m_is_wish, gOf, w_is_wish, isTupD, hl']
  | _ => simp [m_is_wish, gOf, w_is_wish, isTupD, wishB]
/-- the name of a wish -/
def nmD : Pd → Str
  | .tuple (.str n :: _) => n
  | _ => S ""
theorem wish_nm {s : Str} {d : Pd} (h : wishB s d = true) : ∃ r, d = .tuple (.str (nmD d) :: r) := by
  unfold wishB at h
  split at h
  · rename_i n q
    rw [Bool.and_eq_true] at h
    cases n with
    | str z => exact ⟨[q], rfl⟩
    | _ => simp [nameB] at h
  · cases h
def wishesB (s : Str) : Pd → Bool
  | .tuple ws => decide (1 ≤ (ws.length : Int)) && (decide ((ws.length : Int) ≤ 5) && (ws.all (wishB s) && decide (((newN (ws.map nmD) (ws.map nmD).length : Nat) : Int) = (ws.length : Int))))
  | _ => false
def okWishes : Pd → Bool
  | .tuple ws => ws.all okWish
  | _ => true
theorem m_arewishes {s : Str} (hsl : s.length ≤ 100) (d : Pd) (hd : okWishes d = true) : m_are_wishes [.d (.str s), .d d] = .ok (.d (.bool (wishesB s d))) [.d (.str s), .d d] := by
  cases d with
  | tuple ws =>
    have e2 : wishesB s (.tuple ws) = (decide (1 ≤ (ws.length : Int)) && (decide ((ws.length : Int) ≤ 5) && (ws.all (wishB s) && decide (((newN (ws.map nmD) (ws.map nmD).length : Nat) : Int) = (ws.length : Int))))) := rfl
    rw [e2]
    by_cases h1 : 1 ≤ (ws.length : Int)
    · by_cases h5 : (ws.length : Int) ≤ 5
      · have key := lc_mapM (h := put 2) (fe := ce_are_wishes_0) (vs := [2]) (fun x : Pd => x) (fun x => .bool (wishB s x)) (ρ := [.d (.str s), .d (.tuple ws), .no]) (l := ws) (fun x hx => by
          have ms := m_iswish hsl x (List.all_eq_true.mp hd x hx)
          exact ⟨[.d (.str s), .d (.tuple ws), .d x], [.d (.str s), .d (.tuple ws), .d x], by simp [put_eq], by simp [ce_are_wishes_0, ms], by simp⟩) (by omega)
        rw [List.map_id'] at key
        have hb := boolsM (wishB s) ws
        have hla : (ws.map (wishB s)).all id = ws.all (wishB s) := by rw [List.all_map]; rfl
        have hlen : lenD [.tuple ws] = some (.int (ws.length : Int)) := rfl
        have hl5 : (ws.map nmD).length ≤ 1000 := by rw [List.length_map]; omega
        cases hw : ws.all (wishB s) with
        | false =>
          rw [hw] at hla
          generalize ws.map (wishB s) = RL at *
          generalize (ws.map fun x => PyData.bool (wishB s x)) = RD at *
          clear hw
          generalize (ws.length : Int) = LL at *
          simp [m_are_wishes, gOf, w_are_wishes, isTupD, hlen, h1, h5, key, hb, hla, -lenD_tuple]
        | true =>
          rw [hw] at hla
          have key2 := lc_mapM (h := put 2) (fe := ce_are_wishes_1) (vs := [2]) (fun x : Pd => x) (fun x => .str (nmD x)) (ρ := [.d (.str s), .d (.tuple ws), .no]) (l := ws) (fun x hx => by
            obtain ⟨r, hr⟩ := wish_nm (List.all_eq_true.mp hw x hx)
            have ei : ixD x (.int 0) = some (.str (nmD x)) := by
              conv => lhs; rw [hr]
              rw [ixD_tuple, at0]
            exact ⟨[.d (.str s), .d (.tuple ws), .d x], [.d (.str s), .d (.tuple ws), .d x], by simp [put_eq], by simp [ce_are_wishes_1, ei], by simp⟩) (by omega)
          rw [List.map_id'] at key2
          have hst : strsD (ws.map fun x => PyData.str (nmD x)) = some (ws.map nmD) := by
            have := strsD_map (ws.map nmD)
            rw [List.map_map] at this
            exact this
          have els : lenSetD (.list (ws.map fun x => PyData.str (nmD x))) = some (.int ((newN (ws.map nmD) (ws.map nmD).length : Nat) : Int)) := by
            rw [lenSetD_list, hst]
            simp only
            rw [if_pos hl5]
          generalize ((newN (ws.map nmD) (ws.map nmD).length : Nat) : Int) = NN at *
          generalize ws.map (wishB s) = RL at *
          generalize (ws.map fun x => PyData.bool (wishB s x)) = RD at *
          generalize (ws.map fun x => PyData.str (nmD x)) = SD at *
          clear hw
          generalize (ws.length : Int) = LL at *
          simp [m_are_wishes, gOf, w_are_wishes, isTupD, hlen, h1, h5, key, hb, hla, key2, els, -lenD_tuple, -lenSetD_list]
      · simp [m_are_wishes, gOf, w_are_wishes, isTupD, h1, h5]
    · simp [m_are_wishes, gOf, w_are_wishes, isTupD, h1]
  | _ => simp [m_are_wishes, gOf, w_are_wishes, isTupD, wishesB]
/-! ### how many are new -/
theorem newN_nodup : ∀ (zs : List Str) (i : Nat), i ≤ zs.length → ((zs.take i).Nodup ↔ newN zs i = i)
  | zs, 0, _ => by simp [newN]
  | zs, i + 1, h => by
    have hi : i < zs.length := by omega
    have ih := newN_nodup zs i (by omega)
    have le := newN_le zs i
    have e : zs.take (i + 1) = zs.take i ++ [zs.getD i Str.empty] := by
      rw [List.take_add_one, List.getD_eq_getElem?_getD, List.getElem?_eq_getElem hi]
      rfl
    rw [e, List.nodup_append]
    unfold newN
    by_cases hm : zs.getD i Str.empty ∈ zs.take i
    · have hc : (zs.take i).any (· == zs.getD i Str.empty) = true := List.any_eq_true.mpr ⟨_, hm, by simp⟩
      rw [if_pos hc]
      constructor
      · intro ⟨_, _, h3⟩
        exact absurd rfl (h3 _ hm _ (by simp))
      · intro h; omega
    · have hc : ¬ ((zs.take i).any (· == zs.getD i Str.empty) = true) := by
        intro z
        obtain ⟨x, hx, hb⟩ := List.any_eq_true.mp z
        rw [eq_of_beq hb] at hx
        exact hm hx
      rw [if_neg hc]
      constructor
      · intro ⟨h1, _, _⟩
        rw [ih.mp h1]
      · intro h
        refine ⟨ih.mpr (by omega), by simp, fun a ha b hb => ?_⟩
        rw [List.mem_singleton.mp hb]
        intro eab
        exact hm (eab ▸ ha)
theorem newN_iff (zs : List Str) : newN zs zs.length = zs.length ↔ zs.Nodup := by
  have := newN_nodup zs zs.length (Nat.le_refl _)
  rw [List.take_length] at this
  exact this.symm
end Lw
namespace Lw
open PySem PySem.Spec L2 Evl Dt
open TL (tl joinL tl_join tl_ofString join_eq tl_append len_tl)
/-! ### joined texts -/
theorem apl (a b : Str) : (a ++ b).length = a.length + b.length := by rw [len_tl, tl_append, List.length_append, ← len_tl, ← len_tl]
theorem jl_len (y : List Nat) : ∀ (l : List (List Nat)), (joinL y l).length ≤ (l.map List.length).sum + l.length * y.length
  | [] => by simp [joinL]
  | [p] => by simp [joinL]
  | p :: q :: r => by
    have := jl_len y (q :: r)
    have e : (q :: r).length * y.length + y.length = (p :: q :: r).length * y.length := by
      rw [List.length_cons (a := p), Nat.succ_mul]
    simp only [joinL, List.length_append, List.map_cons, List.sum_cons] at this ⊢
    omega
theorem sum_bd (B : Nat) : ∀ (zs : List Str), (∀ z ∈ zs, z.length ≤ B) → (zs.map (·.length)).sum ≤ zs.length * B
  | [], _ => by simp
  | z :: zs, h => by
    have := sum_bd B zs fun x hx => h x (List.mem_cons_of_mem _ hx)
    have hz := h z List.mem_cons_self
    rw [List.map_cons, List.sum_cons, List.length_cons, Nat.succ_mul]
    omega
theorem join_bd {y : Str} {zs : List Str} (B n : Nat) (hB : ∀ z ∈ zs, z.length ≤ B) (hn : zs.length ≤ n) (hy : y.length ≤ 2) (hh : n * (B + 2) ≤ 2000) :
    joinD (.str y) [.list (zs.map PyData.str)] = some (.str (Txt.join y zs)) ∧ joinD (.str y) [.tuple (zs.map PyData.str)] = some (.str (Txt.join y zs)) ∧ (Txt.join y zs).length ≤ n * (B + 2) := by
  have h1 := sum_bd B zs hB
  have h2 : zs.length * B ≤ n * B := Nat.mul_le_mul_right _ hn
  have h3 : zs.length * y.length ≤ n * 2 := Nat.mul_le_mul hn hy
  have h4 : n * (B + 2) = n * B + n * 2 := Nat.mul_add ..
  have hs : (zs.map (·.length)).sum + zs.length * y.length ≤ 16777216 := by omega
  refine ⟨?_, ?_, ?_⟩
  · simp only [joinD]
    rw [strsD_map]
    simp only
    rw [if_pos hs]
  · simp only [joinD]
    rw [strsD_map]
    simp only
    rw [if_pos hs]
  · rw [len_tl, join_eq, tl_join]
    refine Nat.le_trans (jl_len _ _) ?_
    have e1 : ((zs.map tl).map List.length).sum = (zs.map (·.length)).sum := by
      rw [List.map_map]
      exact congrArg List.sum (List.map_congr_left fun z _ => by show (tl z).length = z.length; rw [len_tl])
    rw [e1, List.length_map, ← len_tl]
    omega
theorem jl_snoc (y x : List Nat) : ∀ (l : List (List Nat)), l ≠ [] → joinL y (l ++ [x]) = joinL y l ++ (y ++ x)
  | [], h => absurd rfl h
  | [p], _ => by simp [joinL]
  | p :: q :: r, _ => by
    have := jl_snoc y x (q :: r) (by simp)
    show p ++ (y ++ joinL y ((q :: r) ++ [x])) = _
    rw [this]
    simp [joinL]
theorem join_snoc {y x : Str} {zs : List Str} (h : zs ≠ []) : Txt.join y (zs ++ [x]) = Txt.join y zs ++ (y ++ x) := by
  refine str_ext ?_
  rw [join_eq, join_eq, tl_join, tl_append, tl_append, tl_join, List.map_append, List.map_cons, List.map_nil, jl_snoc _ _ _ (by simpa using h)]
/-! ### codes as texts -/
def tS (t : Int) : Str := if t = 2 then S "*2" else S "*3"
def wordsP (p : Pat) : List Str := p.k ++ (if p.t = 1 then [] else [tS p.t])
def patS (p : Pat) : Str := Txt.join (S " ") (wordsP p)
def wishS (w : Wish) : Str := w.n ++ S ": " ++ Txt.join (S ", ") (w.ps.map patS)
def rowsC (c : Code) : List Str := (S "signs " ++ c.s) :: c.ws.map wishS
def codeS (c : Code) : Str := Txt.join (S "\n") (rowsC c)
/-- a text of a code's signs, edge, letters -/
def Plain (z : Str) : Prop := z.length ≤ 6 ∧ ∀ c ∈ tl z, c = 35 ∨ (97 ≤ c ∧ c ≤ 122)
theorem tl_hash (x : Str) : tl (S "#" ++ x) = 35 :: tl x := by
  rw [tl_append]
  have : tl (S "#") = [35] := by decide +kernel
  rw [this]
  rfl
theorem set_plain {s a : Str} (hs : SgOk s) (h : SetOf s a) : Plain a ∧ setB s (.str a) = true := by
  have hl := h.2.length_le
  have l3 := hs.l3
  have ht := len_tl a
  refine ⟨⟨by omega, fun c hc => .inr (hs.let' c (h.2.subset hc))⟩, ?_⟩
  have e1 : isTextD s (.str a) = true := decide_eq_true fun c hc => h.2.subset hc
  have e2 : isE (.str a) = false := decide_eq_false fun e => h.1 (by rw [e]; decide +kernel)
  have e3 : risD (.str a) = true := risL_of (hs.ris.sublist h.2)
  simp only [setB, e1, e2, e3, Bool.not_false, Bool.and_self]
theorem set_plainE {s a : Str} (hs : SgOk s) (h : SetOf (S "#" ++ s) a) : Plain a ∧ setB (S "#" ++ s) (.str a) = true := by
  have hl := h.2.length_le
  have l3 := hs.l3
  have ht := len_tl a
  rw [tl_hash, List.length_cons] at hl
  have hin : ∀ c ∈ tl a, c = 35 ∨ (97 ≤ c ∧ c ≤ 122) := fun c hc => by
    have := h.2.subset hc
    rw [tl_hash] at this
    rcases List.mem_cons.mp this with e | e
    · exact .inl e
    · exact .inr (hs.let' c e)
  refine ⟨⟨by omega, hin⟩, ?_⟩
  have e1 : isTextD (S "#" ++ s) (.str a) = true := decide_eq_true fun c hc => h.2.subset hc
  have e2 : isE (.str a) = false := decide_eq_false fun e => h.1 (by rw [e]; decide +kernel)
  have e3 : risD (.str a) = true := by
    refine risL_of (List.Pairwise.sublist h.2 ?_)
    rw [tl_hash, List.pairwise_cons]
    exact ⟨fun c hc => by have := hs.let' c hc; omega, hs.ris⟩
  simp only [setB, e1, e2, e3, Bool.not_false, Bool.and_self]
theorem kind_lit : Plain (S "sign") ∧ Plain (S "drop") ∧ Plain (S "add") ∧ Plain (S "change") ∧ Plain (S "beside") := by
  unfold Plain
  refine ⟨⟨by decide +kernel, by decide +kernel⟩, ⟨by decide +kernel, by decide +kernel⟩, ⟨by decide +kernel, by decide +kernel⟩, ⟨by decide +kernel, by decide +kernel⟩, ⟨by decide +kernel, by decide +kernel⟩⟩
theorem look_kinds : tab_SETS.lookup (S "sign") = some 1 ∧ tab_SETS.lookup (S "drop") = some 1 ∧ tab_SETS.lookup (S "add") = some 1 ∧ tab_SETS.lookup (S "change") = some 2 ∧ tab_SETS.lookup (S "beside") = some 2 := by
  decide +kernel
theorem ne_kinds : ¬ (S "sign" = S "beside") ∧ ¬ (S "drop" = S "beside") ∧ ¬ (S "add" = S "beside") ∧ ¬ (S "change" = S "beside") := by
  decide +kernel
theorem kind_ok' {s : Str} (hs : SgOk s) {k : List Str} (h : KindOk s k) : k ≠ [] ∧ k.length ≤ 3 ∧ (∀ z ∈ k, Plain z) ∧ patB s (.tuple (k.map PyData.str)) = true := by
  obtain ⟨p1, p2, p3, p4, p5⟩ := kind_lit
  obtain ⟨l1, l2, l3, l4, l5⟩ := look_kinds
  obtain ⟨n1, n2, n3, n4⟩ := ne_kinds
  have one : ∀ (k a : Str), Plain k → tab_SETS.lookup k = some 1 → ¬ (k = S "beside") → SetOf s a → (∀ z ∈ [k, a], Plain z) ∧ patB s (.tuple ([k, a].map PyData.str)) = true := fun k a pk lk nk h => by
    obtain ⟨q1, q2⟩ := set_plain hs h
    refine ⟨by intro z hz; simp at hz; rcases hz with rfl | rfl <;> assumption, ?_⟩
    show patB s (.tuple [.str k, .str a]) = true
    simp only [patB, lk, if_neg nk, List.all_cons, List.all_nil, q2]
    rfl
  cases h with
  | sign h => obtain ⟨h1, h2⟩ := one _ _ p1 l1 n1 h; exact ⟨by simp, by simp, h1, h2⟩
  | drop h => obtain ⟨h1, h2⟩ := one _ _ p2 l2 n2 h; exact ⟨by simp, by simp, h1, h2⟩
  | add h => obtain ⟨h1, h2⟩ := one _ _ p3 l3 n3 h; exact ⟨by simp, by simp, h1, h2⟩
  | @change a b h g =>
    obtain ⟨q1, q2⟩ := set_plain hs h
    obtain ⟨q3, q4⟩ := set_plain hs g
    refine ⟨by simp, by simp, by intro z hz; simp at hz; rcases hz with rfl | rfl | rfl <;> assumption, ?_⟩
    show patB s (.tuple [.str (S "change"), .str a, .str b]) = true
    simp only [patB, l4, if_neg n4, List.all_cons, List.all_nil, q2, q4]
    rfl
  | @beside a b h g =>
    obtain ⟨q1, q2⟩ := set_plainE hs h
    obtain ⟨q3, q4⟩ := set_plainE hs g
    refine ⟨by simp, by simp, by intro z hz; simp at hz; rcases hz with rfl | rfl | rfl <;> assumption, ?_⟩
    show patB s (.tuple [.str (S "beside"), .str a, .str b]) = true
    simp only [patB, l5, if_true, List.all_cons, List.all_nil, q2, q4]
    rfl
theorem plain_ok {z : Str} (h : Plain z) : PyData.strOk z = true := strOk_lt fun c hc => by rcases h.2 c hc with h | h <;> omega
theorem pat_okPat {k : List Str} (hl : k.length ≤ 3) (h : ∀ z ∈ k, Plain z) : okPat (.tuple (k.map PyData.str)) = true := by
  simp only [okPat, Bool.and_eq_true, decide_eq_true_eq, List.length_map]
  refine ⟨?_, by omega, ?_⟩
  · rw [sh_tuple, List.all_map, List.all_eq_true]
    intro z hz
    show sh 59 (.str z) = true
    rw [sh_str]
    exact plain_ok (h z hz)
  · rw [List.all_map, List.all_eq_true]
    intro z hz
    have := (h z hz).1
    simp only [Function.comp_apply, okP, decide_eq_true_eq]
    omega
theorem pat_facts {s : Str} (hs : SgOk s) {p : Pat} (hp : p.Ok s) : okCnt p.d = true ∧ cntB s p.d = true := by
  obtain ⟨h1, h2, h3, h4⟩ := kind_ok' hs hp.k
  refine ⟨pat_okPat h2 h3, ?_⟩
  show (patB s (.tuple (p.k.map PyData.str)) && (decide (1 ≤ p.t) && decide (p.t ≤ 3))) = true
  rw [h4, decide_eq_true hp.t1, decide_eq_true hp.t3]
  rfl
theorem name_facts {z : Str} (h : nameL (tl z)) : okP (.str z) = true ∧ nameB (.str z) = true := by
  obtain ⟨h1, h2, h3⟩ := h
  have ht := len_tl z
  refine ⟨by simp only [okP, decide_eq_true_eq]; omega, ?_⟩
  simp only [nameB, Bool.and_eq_true, decide_eq_true_eq]
  exact ⟨by omega, by omega, fun c hc => (mem_abc c).mpr (h3 c hc)⟩
theorem wish_facts {s : Str} (hs : SgOk s) {w : Wish} (hw : w.Ok s) : okWish w.d = true ∧ wishB s w.d = true ∧ nmD w.d = w.n := by
  obtain ⟨n1, n2⟩ := name_facts hw.n
  have a1 : (w.ps.map Pat.d).all okCnt = true := by
    rw [List.all_map, List.all_eq_true]
    exact fun p hp => (pat_facts hs (hw.ps p hp)).1
  have a2 : (w.ps.map Pat.d).all (cntB s) = true := by
    rw [List.all_map, List.all_eq_true]
    exact fun p hp => (pat_facts hs (hw.ps p hp)).2
  refine ⟨?_, ?_, rfl⟩
  · show (okP (.str w.n) && (w.ps.map Pat.d).all okCnt) = true
    rw [n1, a1]
    rfl
  · show (nameB (.str w.n) && (decide (1 ≤ ((w.ps.map Pat.d).length : Int)) && (decide (((w.ps.map Pat.d).length : Int) ≤ 3) && (w.ps.map Pat.d).all (cntB s)))) = true
    have l1 := hw.l1
    have l3 := hw.l3
    rw [n2, a2, List.length_map, decide_eq_true (by omega), decide_eq_true (by omega)]
    rfl
theorem wishes_facts {s : Str} (hs : SgOk s) {ws : List Wish} (h1 : 1 ≤ ws.length) (h5 : ws.length ≤ 5) (hw : ∀ w ∈ ws, w.Ok s) (hn : (ws.map Wish.n).Nodup) : okWishes (.tuple (ws.map Wish.d)) = true ∧ wishesB s (.tuple (ws.map Wish.d)) = true := by
  have a1 : (ws.map Wish.d).all okWish = true := by
    rw [List.all_map, List.all_eq_true]
    exact fun p hp => (wish_facts hs (hw p hp)).1
  have a2 : (ws.map Wish.d).all (wishB s) = true := by
    rw [List.all_map, List.all_eq_true]
    exact fun p hp => (wish_facts hs (hw p hp)).2.1
  refine ⟨a1, ?_⟩
  have e : (ws.map Wish.d).map nmD = ws.map Wish.n := by rw [List.map_map]; rfl
  have k := (newN_iff (ws.map Wish.n)).mpr hn
  show (decide (1 ≤ ((ws.map Wish.d).length : Int)) && (decide (((ws.map Wish.d).length : Int) ≤ 5) && ((ws.map Wish.d).all (wishB s) && decide (((newN ((ws.map Wish.d).map nmD) ((ws.map Wish.d).map nmD).length : Nat) : Int) = ((ws.map Wish.d).length : Int))))) = true
  rw [e, a2, k, List.length_map, List.length_map, decide_eq_true (by omega), decide_eq_true (by omega)]
  simp
end Lw
namespace Lw
open PySem PySem.Spec L2 Evl Dt
open TL (tl joinL tl_join tl_ofString join_eq tl_append len_tl)
theorem lS : (S " ").length = 1 ∧ (S ", ").length = 2 ∧ (S ": ").length = 2 ∧ (S "\n").length = 1 ∧ (S " *").length = 2 ∧ (S "signs ").length = 6 ∧ (S "").length = 0 ∧ (S "2").length = 1 ∧ (S "3").length = 1 := by decide +kernel
theorem tS_plain (t : Int) : (tS t).length = 2 ∧ ∀ c ∈ tl (tS t), c = 42 ∨ c = 50 ∨ c = 51 := by
  unfold tS
  split
  · exact ⟨by decide +kernel, by decide +kernel⟩
  · exact ⟨by decide +kernel, by decide +kernel⟩
/-- the signs in a pattern's words -/
def WordOk (z : Str) : Prop := z.length ≤ 6 ∧ ∀ c ∈ tl z, c ≠ 32 ∧ c ≠ 44 ∧ c ≠ 10
theorem words_ok {s : Str} (hs : SgOk s) {p : Pat} (hp : p.Ok s) : wordsP p ≠ [] ∧ (wordsP p).length ≤ 4 ∧ ∀ z ∈ wordsP p, WordOk z := by
  obtain ⟨h1, h2, h3, _⟩ := kind_ok' hs hp.k
  unfold wordsP
  refine ⟨by simp [h1], ?_, ?_⟩
  · rw [List.length_append]
    split <;> simp <;> omega
  · intro z hz
    rcases List.mem_append.mp hz with hz | hz
    · have := h3 z hz
      exact ⟨this.1, fun c hc => by rcases this.2 c hc with h | h <;> omega⟩
    · split at hz
      · cases hz
      · rw [List.mem_singleton.mp hz]
        obtain ⟨a, b⟩ := tS_plain p.t
        exact ⟨by omega, fun c hc => by rcases b c hc with h | h | h <;> omega⟩
theorem patS_len {s : Str} (hs : SgOk s) {p : Pat} (hp : p.Ok s) : (patS p).length ≤ 32 ∧ ∀ c ∈ tl (patS p), c ≠ 44 ∧ c ≠ 10 := by
  obtain ⟨h1, h2, h3⟩ := words_ok hs hp
  obtain ⟨s1, _⟩ := lS
  refine ⟨(join_bd 6 4 (fun z hz => (h3 z hz).1) h2 (by omega) (by omega)).2.2, ?_⟩
  intro c hc
  unfold patS at hc
  rw [join_eq, tl_join] at hc
  have key : ∀ (l : List (List Nat)), (∀ x ∈ l, ∀ c ∈ x, c ≠ 44 ∧ c ≠ 10) → ∀ c ∈ joinL (tl (S " ")) l, c ≠ 44 ∧ c ≠ 10 := by
    have et : tl (S " ") = [32] := by decide +kernel
    rw [et]
    intro l
    induction l with
    | nil => intro _ c hc; simp [joinL] at hc
    | cons x l ih =>
      intro hl c hc
      cases l with
      | nil => exact hl x (by simp) c hc
      | cons y l =>
        simp only [joinL, List.mem_append, List.mem_singleton] at hc
        rcases hc with hc | hc | hc
        · exact hl x (by simp) c hc
        · omega
        · exact ih (fun z hz => hl z (List.mem_cons_of_mem _ hz)) c hc
  refine key _ ?_ c hc
  intro x hx c hc
  obtain ⟨z, hz, rfl⟩ := List.mem_map.mp hx
  have := (h3 z hz).2 c hc
  exact ⟨this.2.1, this.2.2⟩
theorem wishS_len {s : Str} (hs : SgOk s) {w : Wish} (hw : w.Ok s) : (Txt.join (S ", ") (w.ps.map patS)).length ≤ 102 ∧ (wishS w).length ≤ 112 ∧ ∀ c ∈ tl (wishS w), c ≠ 10 := by
  obtain ⟨s1, s2, s3, _⟩ := lS
  have hB : ∀ z ∈ w.ps.map patS, z.length ≤ 32 := fun z hz => by
    obtain ⟨p, hp, rfl⟩ := List.mem_map.mp hz
    exact (patS_len hs (hw.ps p hp)).1
  have hj := (join_bd (y := S ", ") 32 3 hB (by rw [List.length_map]; exact hw.l3) (by omega) (by omega)).2.2
  have hn := hw.n
  have hnl := len_tl w.n
  refine ⟨hj, ?_, ?_⟩
  · unfold wishS
    rw [apl, apl]
    have := hn.2.1
    omega
  · intro c hc
    unfold wishS at hc
    rw [tl_append, tl_append, List.mem_append, List.mem_append] at hc
    rcases hc with (hc | hc) | hc
    · have := hn.2.2 c hc; omega
    · have e : tl (S ": ") = [58, 32] := by decide +kernel
      rw [e] at hc
      simp at hc
      omega
    · rw [join_eq, tl_join] at hc
      have et : tl (S ", ") = [44, 32] := by decide +kernel
      rw [et] at hc
      have key : ∀ (l : List (List Nat)), (∀ x ∈ l, ∀ c ∈ x, c ≠ 10) → ∀ c ∈ joinL [44, 32] l, c ≠ 10 := by
        intro l
        induction l with
        | nil => intro _ c hc; simp [joinL] at hc
        | cons x l ih =>
          intro hl c hc
          cases l with
          | nil => exact hl x (by simp) c hc
          | cons y l =>
            simp only [joinL, List.mem_append, List.mem_cons, List.not_mem_nil, or_false] at hc
            rcases hc with hc | hc | hc
            · exact hl x (by simp) c hc
            · omega
            · exact ih (fun z hz => hl z (List.mem_cons_of_mem _ hz)) c hc
      refine key _ ?_ c hc
      intro x hx c hc
      obtain ⟨z, hz, rfl⟩ := List.mem_map.mp hx
      obtain ⟨p, hp, rfl⟩ := List.mem_map.mp hz
      exact ((patS_len hs (hw.ps p hp)).2 c hc).2
/-! ### shown -/
theorem str_times {t : Int} (h1 : 1 ≤ t) (h3 : t ≤ 3) (hn : ¬ (t = 1)) : strD [.int t] = some (.str (if t = 2 then S "2" else S "3")) ∧ S " *" ++ (if t = 2 then S "2" else S "3") = S " " ++ tS t := by
  have : t = 2 ∨ t = 3 := by omega
  have t2 : Str.ofString (toString (2 : Int)) = S "2" := by decide +kernel
  have t3 : Str.ofString (toString (3 : Int)) = S "3" := by decide +kernel
  rcases this with rfl | rfl
  · refine ⟨?_, by decide +kernel⟩
    rw [strD_int, if_pos (by decide), if_pos rfl, ← t2]
  · refine ⟨?_, by decide +kernel⟩
    rw [strD_int, if_pos (by decide), if_neg (by decide), ← t3]
theorem app_assoc (a b c : Str) : a ++ b ++ c = a ++ (b ++ c) := by
  refine str_ext ?_
  rw [tl_append, tl_append, tl_append, tl_append, List.append_assoc]
theorem app_nil (a : Str) : a ++ S "" = a := by
  refine str_ext ?_
  rw [tl_append]
  have : tl (S "") = [] := by decide +kernel
  rw [this, List.append_nil]
theorem rows_bd {s : Str} (hs : SgOk s) {ws : List Wish} (h5 : ws.length ≤ 5) (hw : ∀ w ∈ ws, w.Ok s) : (∀ z ∈ rowsC ⟨s, ws⟩, z.length ≤ 112) ∧ (rowsC ⟨s, ws⟩).length ≤ 6 ∧ ∀ z ∈ rowsC ⟨s, ws⟩, 10 ∉ tl z := by
  obtain ⟨s1, s2, s3, s4, s5, s6, s7, s8, s9⟩ := lS
  have l3 := hs.l3
  have hsl := len_tl s
  refine ⟨?_, by simp [rowsC]; omega, ?_⟩
  · intro z hz
    rcases List.mem_cons.mp hz with rfl | hz
    · show (S "signs " ++ s).length ≤ 112
      rw [apl]; omega
    · obtain ⟨w, hw', rfl⟩ := List.mem_map.mp hz
      exact (wishS_len hs (hw w hw')).2.1
  · intro z hz
    rcases List.mem_cons.mp hz with rfl | hz
    · intro hc
      rw [tl_append, List.mem_append] at hc
      rcases hc with hc | hc
      · revert hc; decide +kernel
      · have := hs.let' 10 hc; omega
    · obtain ⟨w, hw', rfl⟩ := List.mem_map.mp hz
      exact fun hc => (wishS_len hs (hw w hw')).2.2 10 hc rfl
end Lw
namespace Lw
open PySem PySem.Spec L2 Evl Dt
open TL (tl joinL tl_join tl_ofString join_eq tl_append len_tl)
/-! ### the law's rows -/
theorem row_pat {s : Str} (hs : SgOk s) {p : Pat} (hp : p.Ok s) (F : List Pd) (hF : F.length ≤ 100) {s0 s1 s2 s3 : Sl} :
    fb__law_rows_1 [s0, s1, s2, s3, .own false F, .d (.tuple (p.k.map PyData.str)), .d (.int p.t)] = .ok .nx [s0, s1, s2, s3, .own false (F ++ [.str (patS p)]), .d (.tuple (p.k.map PyData.str)), .d (.int p.t)] := by
  obtain ⟨h1, h2, h3, _⟩ := kind_ok' hs hp.k
  obtain ⟨s1', s2', s3', s4', s5, s6, s7, s8, s9⟩ := lS
  obtain ⟨_, hj, hl⟩ := join_bd (y := S " ") 6 3 (fun z hz => (h3 z hz).1) h2 (by omega) (by omega)
  have e0 : patS p = if p.t = 1 then Txt.join (S " ") p.k else Txt.join (S " ") p.k ++ (S " " ++ tS p.t) := by
    unfold patS wordsP
    split
    · rw [List.append_nil]
    · exact join_snoc h1
  have hz : F.length < 16777216 := by omega
  have c1 : intOfD [.bool true] = some (.int 1) := rfl
  have c0 : intOfD [.bool false] = some (.int 0) := rfl
  by_cases ht : p.t = 1
  · rw [e0, if_pos ht, ht]
    have st1 : strD [.int 1] = some (.str (S "1")) := by
      have t1 : Str.ofString (toString (1 : Int)) = S "1" := by decide +kernel
      rw [strD_int, if_pos (by decide), ← t1]
    have l1 : (S " *").length + (S "1").length ≤ 16777216 := by decide +kernel
    have z1 : (Txt.join (S " ") p.k).length + (S "").length ≤ 16777216 := by omega
    have en := app_nil (Txt.join (S " ") p.k)
    generalize p.k.map PyData.str = PK at *
    generalize Txt.join (S " ") p.k = J at *
    simp [fb__law_rows_1, hj, st1, sizeLine, l1, c1, at1, z1, en, hz, -strD_int]
  · obtain ⟨q1, q2⟩ := str_times hp.t1 hp.t3 ht
    rw [e0, if_neg ht, ← q2]
    have hll : (if p.t = 2 then S "2" else S "3").length = 1 := by split <;> assumption
    generalize (if p.t = 2 then S "2" else S "3") = TX at *
    have l1 : (S " *").length + TX.length ≤ 16777216 := by omega
    have z1 : (Txt.join (S " ") p.k).length + (S " *" ++ TX).length ≤ 16777216 := by rw [apl]; omega
    generalize p.k.map PyData.str = PK at *
    generalize Txt.join (S " ") p.k = J at *
    generalize p.t = T at *
    simp [fb__law_rows_1, hj, q1, sizeLine, l1, ht, c0, at0, z1, hz, -strD_int]
theorem row_pats {s : Str} (hs : SgOk s) {s0 s1 s2 s3 : Sl} : ∀ (ps : List Pat) (F : List Pd) (s5 s6 : Sl), F.length + ps.length ≤ 100 → (∀ p ∈ ps, p.Ok s) → isIo s5 = false → isIo s6 = false →
    ∃ t5 t6, isIo t5 = false ∧ isIo t6 = false ∧ forRun (putTup 2 (putCons (put 5) (putCons (put 6) putNil))) fb__law_rows_1 (ps.map Pat.d) [s0, s1, s2, s3, .own false F, s5, s6] = .ok .nx [s0, s1, s2, s3, .own false (F ++ ps.map fun p => PyData.str (patS p)), t5, t6]
  | [], F, s5, s6, _, _, i5, i6 => ⟨s5, s6, i5, i6, by simp⟩
  | p :: ps, F, s5, s6, hl, hp, i5, i6 => by
    rw [List.length_cons] at hl
    have e := row_pat hs (hp p List.mem_cons_self) F (by omega) (s0 := s0) (s1 := s1) (s2 := s2) (s3 := s3)
    obtain ⟨t5, t6, h5, h6, er⟩ := row_pats hs ps (F ++ [.str (patS p)]) (.d (.tuple (p.k.map PyData.str))) (.d (.int p.t)) (by rw [List.length_append, List.length_cons, List.length_nil]; omega) (fun u hu => hp u (List.mem_cons_of_mem _ hu)) rfl rfl
    refine ⟨t5, t6, h5, h6, ?_⟩
    rw [List.map_cons, for_go (ρ1 := [s0, s1, s2, s3, .own false F, .d (.tuple (p.k.map PyData.str)), .d (.int p.t)]) (by simp [Pat.d, put_eq, i5, i6]) e, er, List.append_assoc]
    rfl
theorem row_wish {s : Str} (hs : SgOk s) {w : Wish} (hw : w.Ok s) (F : List Pd) (hF : F.length ≤ 100) {s0 s4 s5 s6 : Sl} (i4 : isIo s4 = false) (i5 : isIo s5 = false) (i6 : isIo s6 = false) :
    ∃ t4 t5 t6, isIo t4 = false ∧ isIo t5 = false ∧ isIo t6 = false ∧ fb__law_rows_0 [s0, .own false F, .d (.str w.n), .d (.tuple (w.ps.map Pat.d)), s4, s5, s6] = .ok .nx [s0, .own false (F ++ [.str (wishS w)]), .d (.str w.n), .d (.tuple (w.ps.map Pat.d)), t4, t5, t6] := by
  obtain ⟨s1, s2, s3, s4', _⟩ := lS
  have l3 := hw.l3
  obtain ⟨t5, t6, h5, h6, er⟩ := row_pats hs (s0 := s0) (s1 := .own false F) (s2 := .d (.str w.n)) (s3 := .d (.tuple (w.ps.map Pat.d))) w.ps [] s5 s6 (by simp; omega) hw.ps i5 i6
  rw [List.nil_append] at er
  have hB : ∀ z ∈ w.ps.map patS, z.length ≤ 32 := fun z hz => by
    obtain ⟨p, hp, rfl⟩ := List.mem_map.mp hz
    exact (patS_len hs (hw.ps p hp)).1
  obtain ⟨hj, _, hl⟩ := join_bd (y := S ", ") 32 3 hB (by rw [List.length_map]; exact hw.l3) (by omega) (by omega)
  rw [List.map_map] at hj
  have hj' : joinD (.str (S ", ")) [.list (w.ps.map fun p => PyData.str (patS p))] = some (.str (Txt.join (S ", ") (w.ps.map patS))) := hj
  have hn := hw.n.2.1
  have hnl := len_tl w.n
  have z1 : w.n.length + (S ": ").length ≤ 16777216 := by omega
  have z2 : (w.n ++ S ": ").length + (Txt.join (S ", ") (w.ps.map patS)).length ≤ 16777216 := by rw [apl]; omega
  have hz : F.length < 16777216 := by omega
  refine ⟨.own false (w.ps.map fun p => PyData.str (patS p)), t5, t6, rfl, h5, h6, ?_⟩
  unfold wishS
  generalize Txt.join (S ", ") (w.ps.map patS) = J at *
  generalize (w.ps.map fun p => PyData.str (patS p)) = KD at *
  generalize w.ps.map Pat.d = PD at *
  simp [fb__law_rows_0, sizeLine, putOwn_eq, i4, er, hj', z1, z2, hz]
theorem row_wishes {s : Str} (hs : SgOk s) {s0 : Sl} : ∀ (ws : List Wish) (F : List Pd) (s2 s3 s4 s5 s6 : Sl), F.length + ws.length ≤ 100 → (∀ w ∈ ws, w.Ok s) → isIo s2 = false → isIo s3 = false → isIo s4 = false → isIo s5 = false → isIo s6 = false →
    ∃ t2 t3 t4 t5 t6, isIo t2 = false ∧ isIo t3 = false ∧ isIo t4 = false ∧ isIo t5 = false ∧ isIo t6 = false ∧
      forRun (putTup 2 (putCons (put 2) (putCons (put 3) putNil))) fb__law_rows_0 (ws.map Wish.d) [s0, .own false F, s2, s3, s4, s5, s6] = .ok .nx [s0, .own false (F ++ ws.map fun w => PyData.str (wishS w)), t2, t3, t4, t5, t6]
  | [], F, s2, s3, s4, s5, s6, _, _, i2, i3, i4, i5, i6 => ⟨s2, s3, s4, s5, s6, i2, i3, i4, i5, i6, by simp⟩
  | w :: ws, F, s2, s3, s4, s5, s6, hl, hw, i2, i3, i4, i5, i6 => by
    rw [List.length_cons] at hl
    obtain ⟨u4, u5, u6, j4, j5, j6, e⟩ := row_wish hs (hw w List.mem_cons_self) F (by omega) (s0 := s0) i4 i5 i6
    obtain ⟨t2, t3, t4, t5, t6, h2, h3, h4, h5, h6, er⟩ := row_wishes hs (s0 := s0) ws (F ++ [.str (wishS w)]) (.d (.str w.n)) (.d (.tuple (w.ps.map Pat.d))) u4 u5 u6 (by rw [List.length_append, List.length_cons, List.length_nil]; omega) (fun u hu => hw u (List.mem_cons_of_mem _ hu)) rfl rfl j4 j5 j6
    refine ⟨t2, t3, t4, t5, t6, h2, h3, h4, h5, h6, ?_⟩
    rw [List.map_cons, for_go (ρ1 := [s0, .own false F, .d (.str w.n), .d (.tuple (w.ps.map Pat.d)), s4, s5, s6]) (by simp [Wish.d, put_eq, i2, i3]) e, er, List.append_assoc]
    rfl
theorem m_rows {s : Str} (hs : SgOk s) {ws : List Wish} (h5 : ws.length ≤ 5) (hw : ∀ w ∈ ws, w.Ok s) : m__law_rows [.d (Code.d ⟨s, ws⟩)] = .ok (.d (.list ((rowsC ⟨s, ws⟩).map PyData.str))) [.d (Code.d ⟨s, ws⟩)] := by
  obtain ⟨s1, s2, s3, s4, s5, s6, s7, s8, s9⟩ := lS
  have l3 := hs.l3
  have hsl := len_tl s
  obtain ⟨t2, t3, t4, t5, t6, i2, i3, i4, i5, i6, er⟩ := row_wishes hs (s0 := .d (Code.d ⟨s, ws⟩)) ws [.str (S "signs " ++ s)] .no .no .no .no .no (by simp; omega) hw rfl rfl rfl rfl rfl
  have e1 : (rowsC ⟨s, ws⟩).map PyData.str = .str (S "signs " ++ s) :: ws.map fun w => PyData.str (wishS w) := by
    show _ :: _ = _
    rw [List.map_map]
    rfl
  rw [e1]
  rw [List.singleton_append] at er
  have z1 : (S "signs ").length + s.length ≤ 16777216 := by omega
  have ea : addD (.str (S "signs ")) (.str s) = some (.str (S "signs " ++ s)) := by
    rw [addD_str, if_pos (show _ ≤ sizeLine from z1)]
  have ed : Code.d ⟨s, ws⟩ = .tuple [.str s, .tuple (ws.map Wish.d)] := rfl
  rw [ed] at er ⊢
  generalize (ws.map fun w => PyData.str (wishS w)) = KD at *
  generalize ws.map Wish.d = WD at *
  generalize S "signs " ++ s = SS at *
  simp [m__law_rows, gOf, w__law_rows, at0, at1, ea, sizeLine, putOwn_eq, er, -addD_str]
/-! ### read -/
theorem atLast {α : Type} (l : List α) (x : α) : atI (l ++ [x]) (-1) = some x := by
  unfold atI ixN
  rw [if_neg (by omega), if_pos (by rw [List.length_append, List.length_cons, List.length_nil]; omega)]
  have : (-1 + ((l ++ [x]).length : Int)).toNat = l.length := by rw [List.length_append, List.length_cons, List.length_nil]; omega
  simp only [Option.bind_some]
  rw [this, List.getElem?_append_right (Nat.le_refl _), Nat.sub_self]
  rfl
theorem cutLast (l : List Pd) (x : Pd) : cutD (l ++ [x]) none (some (-1)) = l := by
  unfold cutD
  have e1 : HT.sIx (l ++ [x]).length 0 none = 0 := rfl
  have e2 : HT.sIx (l ++ [x]).length (l ++ [x]).length (some (-1)) = l.length := by
    show (if (-1 : Int) < 0 then ((-1 : Int) + ((l ++ [x]).length : Int)).toNat else min (-1 : Int).toNat (l ++ [x]).length) = l.length
    rw [if_pos (by omega), List.length_append, List.length_cons, List.length_nil]
    omega
  rw [e1, e2, List.drop_zero, Nat.sub_zero, List.take_left]
theorem times_no {z : Str} (h : Plain z) : tab_TIMES.lookup z = none := by
  have n2 : z ≠ S "*2" := fun e => by
    rcases h.2 42 (by rw [e]; decide +kernel) with h | h <;> omega
  have n3 : z ≠ S "*3" := fun e => by
    rcases h.2 42 (by rw [e]; decide +kernel) with h | h <;> omega
  have b2 : (z == Str.ofString "*2") = false := by simpa using n2
  have b3 : (z == Str.ofString "*3") = false := by simpa using n3
  simp only [tab_TIMES, List.lookup_cons, List.lookup_nil, b2, b3]
theorem m_patin {s : Str} (hs : SgOk s) {p : Pat} (hp : p.Ok s) : m_pattern_in [.d (.str s), .d (.str (patS p))] = .ok (.d p.d) [.d (.str s), .d (.str (patS p))] := by
  obtain ⟨h1, h2, h3, _⟩ := kind_ok' hs hp.k
  obtain ⟨w1, w2, w3⟩ := words_ok hs hp
  obtain ⟨hl, _⟩ := patS_len hs hp
  obtain ⟨f1, f2⟩ := pat_facts hs hp
  have l3 := hs.l3
  have hsl := len_tl s
  have mc := m_iscnt (s := s) (by omega) p.d f1
  rw [f2] at mc
  have et : tl (S " ") = [32] := by decide +kernel
  have hsp : Txt.split (patS p) (S " ") = wordsP p := by
    refine TL.split_join et (by decide +kernel) w1 ?_
    intro z hz hc
    exact ((w3 z hz).2 32 hc).1 rfl
  have esp : splitD (.str (patS p)) [.str (S " ")] = some (.list ((wordsP p).map PyData.str)) := by
    rw [splitD_str, if_pos ⟨by decide +kernel, show _ ≤ sizeLine by simp only [sizeLine]; omega⟩, hsp]
  have ed : p.d = .tuple [.tuple (p.k.map PyData.str), .int p.t] := rfl
  by_cases ht : p.t = 1
  · have ew : wordsP p = p.k := by unfold wordsP; rw [if_pos ht, List.append_nil]
    rw [ew] at esp
    obtain ⟨y, r, er⟩ : ∃ y r, p.k = r ++ [y] := ⟨p.k.getLast h1, p.k.dropLast, (List.dropLast_concat_getLast h1).symm⟩
    have hno := times_no (h3 y (by rw [er]; simp))
    have ea : atI (p.k.map PyData.str) (-1) = some (.str y) := by rw [er, List.map_append]; exact atLast _ _
    rw [ed, ht] at mc ⊢
    generalize p.k.map PyData.str = PK at *
    generalize patS p = TX at *
    simp [m_pattern_in, gOf, w_pattern_in, esp, put_eq, ea, hno, sizeLine, mc, -splitD_str]
  · have ew : wordsP p = p.k ++ [tS p.t] := by unfold wordsP; rw [if_neg ht]
    rw [ew, List.map_append] at esp
    have ea : atI (p.k.map PyData.str ++ [.str (tS p.t)]) (-1) = some (.str (tS p.t)) := atLast _ _
    have ec := cutLast (p.k.map PyData.str) (.str (tS p.t))
    have el : tab_TIMES.lookup (tS p.t) = some p.t := by
      have h1 := hp.t1
      have h3 := hp.t3
      have : p.t = 2 ∨ p.t = 3 := by omega
      rcases this with e | e <;> rw [e] <;> decide +kernel
    rw [ed] at mc ⊢
    simp only [List.map_cons, List.map_nil] at esp
    generalize p.k.map PyData.str = PK at *
    generalize patS p = TX at *
    generalize tS p.t = TT at *
    generalize p.t = T at *
    simp [m_pattern_in, gOf, w_pattern_in, esp, put_eq, ea, el, ec, sizeLine, mc, -splitD_str]
end Lw
namespace Lw
open PySem PySem.Spec L2 Evl Dt
open TL (tl joinL tl_join tl_ofString join_eq tl_append len_tl)
theorem sh_pat {s : Str} (hs : SgOk s) {p : Pat} (hp : p.Ok s) (n : Nat) : sh (n + 2) p.d = true := by
  obtain ⟨h1, h2, h3, _⟩ := kind_ok' hs hp.k
  show sh (n + 2) (.tuple [.tuple (p.k.map PyData.str), .int p.t]) = true
  rw [sh_tuple, List.all_cons, sh_tuple]
  simp only [List.all_cons, List.all_nil, sh_int, Bool.and_true]
  rw [List.all_map, List.all_eq_true]
  intro z hz
  show sh n (.str z) = true
  rw [sh_str]
  exact plain_ok (h3 z hz)
theorem eqv_none (p : Pat) : PyData.eqv p.d .none = false := rfl
theorem none_no {s : Str} (hs : SgOk s) {ps : List Pat} (hp : ∀ p ∈ ps, p.Ok s) : inD .none (.tuple (ps.map Pat.d)) = some (.bool false) := by
  have h60 : sh 60 (.tuple (ps.map Pat.d)) = true := by
    rw [sh_tuple, List.all_map, List.all_eq_true]
    exact fun p hp' => sh_pat hs (hp p hp') 57
  have ha : ((ps.map Pat.d).any fun y => PyData.eqv y .none) = false := by
    rw [List.any_map, List.any_eq_false]
    intro p hp'
    simp [eqv_none]
  unfold inD inB
  cases ps with
  | nil => rfl
  | cons p ps =>
    have hf : ¬ (flatD PyData.none = true ∧ ((p :: ps).map Pat.d).all flatD = true) := by
      intro ⟨_, h⟩
      rw [List.map_cons, List.all_cons, Bool.and_eq_true] at h
      exact absurd h.1 (by simp [Pat.d, flatD])
    simp only [hf, if_false, h60, sh_none, and_self, if_true, ha, Option.map_some]
theorem m_wishin {s : Str} (hs : SgOk s) {w : Wish} (hw : w.Ok s) : m_wish_in [.d (.str s), .d (.str (wishS w))] = .ok (.d w.d) [.d (.str s), .d (.str (wishS w))] := by
  obtain ⟨lj, lw, _⟩ := wishS_len hs hw
  obtain ⟨n1, n2⟩ := name_facts hw.n
  have mn := m_isname (.str w.n) n1
  rw [n2] at mn
  have et : tl (S ": ") = [58, 32] := by decide +kernel
  have na : 58 ∉ tl w.n := fun hc => by have := hw.n.2.2 58 hc; omega
  have hp := TL.partition_app et (a := w.n) (b := Txt.join (S ", ") (w.ps.map patS)) na
  have hp' : Txt.partition (wishS w) (S ": ") = (w.n, S ": ", Txt.join (S ", ") (w.ps.map patS)) := hp
  have epa : partD (.str (wishS w)) [.str (S ": ")] = some (.tuple [.str w.n, .str (S ": "), .str (Txt.join (S ", ") (w.ps.map patS))]) := by
    show (if _ then _ else _) = _
    rw [if_pos ⟨by decide +kernel, show _ ≤ sizeLine by simp only [sizeLine]; omega⟩, hp']
  have hne : ¬ (S ": " = S "") := by decide +kernel
  have et2 : tl (S ", ") = [44, 32] := by decide +kernel
  have l1 := hw.l1
  have l3 := hw.l3
  have hsp : Txt.split (Txt.join (S ", ") (w.ps.map patS)) (S ", ") = w.ps.map patS := by
    refine TL.split_join et2 (by decide +kernel) ?_ ?_
    · intro e
      have := congrArg List.length e
      rw [List.length_map, List.length_nil] at this
      omega
    · intro z hz hc
      obtain ⟨p, hp, rfl⟩ := List.mem_map.mp hz
      exact ((patS_len hs (hw.ps p hp)).2 44 hc).1 rfl
  have esp : splitD (.str (Txt.join (S ", ") (w.ps.map patS))) [.str (S ", ")] = some (.list (w.ps.map fun p => PyData.str (patS p))) := by
    rw [splitD_str, if_pos ⟨by decide +kernel, show _ ≤ sizeLine by simp only [sizeLine]; omega⟩, hsp, List.map_map]
    rfl
  have hno := none_no hs hw.ps
  have key := lc_mapM (h := put 6) (fe := ce_wish_in_0) (vs := [6]) (fun p : Pat => PyData.str (patS p)) Pat.d (ρ := [.d (.str s), .d (.str (wishS w)), .d (.str w.n), .d (.str (S ": ")), .d (.str (Txt.join (S ", ") (w.ps.map patS))), .no, .no]) (l := w.ps) (fun p hp => by
    have ms := m_patin hs (hw.ps p hp)
    refine ⟨[.d (.str s), .d (.str (wishS w)), .d (.str w.n), .d (.str (S ": ")), .d (.str (Txt.join (S ", ") (w.ps.map patS))), .no, .d (.str (patS p))], [.d (.str s), .d (.str (wishS w)), .d (.str w.n), .d (.str (S ": ")), .d (.str (Txt.join (S ", ") (w.ps.map patS))), .no, .d (.str (patS p))], by simp [put_eq], ?_, by simp⟩
    generalize patS p = TT at *
    generalize p.d = PD at *
    simp [ce_wish_in_0, ms]) (by omega)
  have ed : w.d = .tuple [.str w.n, .tuple (w.ps.map Pat.d)] := rfl
  rw [ed]
  clear hp hp' hsp
  generalize Txt.join (S ", ") (w.ps.map patS) = J at *
  generalize wishS w = TX at *
  generalize (w.ps.map fun p => PyData.str (patS p)) = KD at *
  generalize w.ps.map Pat.d = PD at *
  simp [m_wish_in, gOf, w_wish_in, epa, put_eq, hne, mn, esp, key, hno, sizeLine, -splitD_str, -partD_str]
theorem atN {l : List Pd} {x : Pd} {k : Nat} (h : l[k]? = some x) : atI l (k : Int) = some x := by
  have hk := (List.getElem?_eq_some_iff.mp h).1
  unfold atI ixN
  rw [if_pos (by omega), if_pos (by omega)]
  show l[((k : Int)).toNat]? = _
  rw [Int.toNat_natCast]
  exact h
end Lw
namespace Lw
open PySem PySem.Spec L2 Evl Dt
open TL (tl joinL tl_join tl_ofString join_eq tl_append len_tl spl par pre)
theorem tl_ofLs (ps : List (List Nat)) : (ps.map ofL).map tl = ps := by
  rw [List.map_map]
  conv => rhs; rw [← List.map_id ps]
  exact List.map_congr_left fun _ _ => rfl
theorem split_ofL (x y : Str) (hy : tl y ≠ []) (hk : y.cps.all (· < 256) = true) : Txt.split x y = (spl (tl y) 0 [] (tl x)).map ofL := by
  refine TL.map_tl_inj ?_
  rw [TL.split_spl x y hy (TL.kind_ok hk), tl_ofLs]
def Fit (z : Str) : Prop := PyData.strOk z = true ∧ z.length ≤ 1000
/-! ### a pattern's text, whatever it is -/
def parseW (W : List Str) : Pd := match tab_TIMES.lookup (W.getLastD (S "")) with
  | some t => .tuple [.tuple (W.dropLast.map PyData.str), .int t]
  | none => .tuple [.tuple (W.map PyData.str), .int 1]
def patR (s : Str) (W : List Str) : Pd := if cntB s (parseW W) = true then parseW W else .none
theorem okPat_fit {W : List Str} (hl : W.length ≤ 1000) (h : ∀ z ∈ W, Fit z) : okPat (.tuple (W.map PyData.str)) = true := by
  simp only [okPat, Bool.and_eq_true, decide_eq_true_eq, List.length_map]
  refine ⟨?_, by omega, ?_⟩
  · rw [sh_tuple, List.all_map, List.all_eq_true]
    intro z hz
    show sh 59 (.str z) = true
    rw [sh_str]
    exact (h z hz).1
  · rw [List.all_map, List.all_eq_true]
    intro z hz
    have := (h z hz).2
    simp only [Function.comp_apply, okP, decide_eq_true_eq]
    omega
theorem sh_strs {W : List Str} (h : ∀ z ∈ W, Fit z) (n : Nat) : sh (n + 1) (.tuple (W.map PyData.str)) = true := by
  rw [sh_tuple, List.all_map, List.all_eq_true]
  intro z hz
  show sh n (.str z) = true
  rw [sh_str]
  exact (h z hz).1
theorem patR_sh {s : Str} {W : List Str} (h : ∀ z ∈ W, Fit z) : sh 59 (patR s W) = true := by
  unfold patR
  split
  · unfold parseW
    split
    · rw [sh_tuple]
      simp only [List.all_cons, List.all_nil, sh_int, Bool.and_true]
      exact sh_strs (fun z hz => h z ((List.dropLast_sublist _).subset hz)) 57
    · rw [sh_tuple]
      simp only [List.all_cons, List.all_nil, sh_int, Bool.and_true]
      exact sh_strs h 57
  · rfl
theorem m_patany {s x : Str} {W : List Str} (hsl : s.length ≤ 100) (hx : x.length ≤ 1000) (hW : Txt.split x (S " ") = W) (hne : W ≠ []) (hl : W.length ≤ 1000) (h : ∀ z ∈ W, Fit z) : m_pattern_in [.d (.str s), .d (.str x)] = .ok (.d (patR s W)) [.d (.str s), .d (.str x)] := by
  have esp : splitD (.str x) [.str (S " ")] = some (.list (W.map PyData.str)) := by
    rw [splitD_str, if_pos ⟨by decide +kernel, show _ ≤ sizeLine by simp only [sizeLine]; omega⟩, hW]
  obtain ⟨r, y, er⟩ : ∃ r y, W = r ++ [y] := ⟨W.dropLast, W.getLast hne, (List.dropLast_concat_getLast hne).symm⟩
  have ea : atI (W.map PyData.str) (-1) = some (.str y) := by rw [er, List.map_append]; exact atLast _ _
  have ey : W.getLastD (S "") = y := by rw [er]; simp
  have ed : W.dropLast = r := by rw [er]; simp
  have ec : cutD (W.map PyData.str) none (some (-1)) = r.map PyData.str := by
    rw [er, List.map_append]
    exact cutLast _ _
  cases hlk : tab_TIMES.lookup y with
  | none =>
    have ep : parseW W = .tuple [.tuple (W.map PyData.str), .int 1] := by unfold parseW; rw [ey, hlk]
    have mc := m_iscnt (s := s) hsl (parseW W) (by rw [ep]; exact okPat_fit hl h)
    have eR : patR s W = if cntB s (parseW W) = true then parseW W else .none := rfl
    rw [eR]
    rw [ep] at mc ⊢
    generalize cntB s (.tuple [.tuple (W.map PyData.str), .int 1]) = B at *
    generalize W.map PyData.str = WD at *
    cases B <;> simp [m_pattern_in, gOf, w_pattern_in, esp, put_eq, ea, hlk, sizeLine, mc, -splitD_str]
  | some t =>
    have ep : parseW W = .tuple [.tuple (r.map PyData.str), .int t] := by unfold parseW; rw [ey, hlk, ed]
    have mc := m_iscnt (s := s) hsl (parseW W) (by rw [ep]; exact okPat_fit (by rw [er] at hl; simp at hl; omega) (fun z hz => h z (by rw [er]; simp [hz])))
    have eR : patR s W = if cntB s (parseW W) = true then parseW W else .none := rfl
    rw [eR]
    rw [ep] at mc ⊢
    generalize cntB s (.tuple [.tuple (r.map PyData.str), .int t]) = B at *
    generalize W.map PyData.str = WD at *
    generalize r.map PyData.str = RD at *
    cases B <;> simp [m_pattern_in, gOf, w_pattern_in, esp, put_eq, ea, hlk, ec, sizeLine, mc, -splitD_str]
/-! ### what surely fails -/
def kindN (k : List Nat) : Option Nat := if k = [115, 105, 103, 110] then some 1 else if k = [100, 114, 111, 112] then some 1 else if k = [97, 100, 100] then some 1 else if k = [99, 104, 97, 110, 103, 101] then some 2 else if k = [98, 101, 115, 105, 100, 101] then some 2 else none
def setBad (e : Bool) (z : List Nat) : Bool := z == [] || (z.any fun c => !(decide (97 ≤ c) && decide (c ≤ 122)) && !(e && c == 35)) || !risL z
def mfW (ws : List (List Nat)) : Bool := match ws with
  | [] => true
  | k :: rest => match kindN k with
    | none => true
    | some n => rest.length != n || rest.any (setBad (k == [98, 101, 115, 105, 100, 101]))
def mf (ws : List (List Nat)) : Bool := if ws.getLastD [] = [42, 50] ∨ ws.getLastD [] = [42, 51] then mfW ws.dropLast else mfW ws
theorem set_no {s : Str} {z : Str} {c : Nat} (hc : c ∈ tl z) (hn : c ∉ tl s) : setB s (.str z) = false := by
  have : isTextD s (.str z) = false := decide_eq_false fun h => hn (h c hc)
  simp only [setB, this, Bool.false_and]
theorem set_ris {s : Str} {z : Str} (h : risL (tl z) = false) : setB s (.str z) = false := by
  have : risD (.str z) = false := h
  simp only [setB, this, Bool.and_false]
theorem set_e (s : Str) : setB s (.str (S "")) = false := by
  have : isE (.str (S "")) = true := by simp [isE]
  simp only [setB, this, Bool.not_true, Bool.false_and, Bool.and_false]
theorem ofL_beq (l m : List Nat) : (ofL l == ofL m) = decide (l = m) := by
  rw [Bool.eq_iff_iff, beq_iff_eq, decide_eq_true_eq]
  constructor
  · intro h; exact congrArg tl h
  · intro h; rw [h]
theorem times_look (l : List Nat) : tab_TIMES.lookup (ofL l) = if l = [42, 50] then some 2 else if l = [42, 51] then some 3 else none := by
  have e2 : Str.ofString "*2" = ofL [42, 50] := by decide +kernel
  have e3 : Str.ofString "*3" = ofL [42, 51] := by decide +kernel
  simp only [tab_TIMES, List.lookup_cons, List.lookup_nil, e2, e3, ofL_beq]
  by_cases h2 : l = [42, 50]
  · simp [h2]
  · by_cases h3 : l = [42, 51]
    · simp [h3]
    · simp [h2, h3]
theorem kinds_look (l : List Nat) : tab_SETS.lookup (ofL l) = (kindN l).map fun n => (n : Int) := by
  have e1 : Str.ofString "sign" = ofL [115, 105, 103, 110] := by decide +kernel
  have e2 : Str.ofString "drop" = ofL [100, 114, 111, 112] := by decide +kernel
  have e3 : Str.ofString "add" = ofL [97, 100, 100] := by decide +kernel
  have e4 : Str.ofString "change" = ofL [99, 104, 97, 110, 103, 101] := by decide +kernel
  have e5 : Str.ofString "beside" = ofL [98, 101, 115, 105, 100, 101] := by decide +kernel
  simp only [tab_SETS, List.lookup_cons, List.lookup_nil, e1, e2, e3, e4, e5, ofL_beq, kindN]
  by_cases h1 : l = [115, 105, 103, 110]
  · simp [h1]
  · by_cases h2 : l = [100, 114, 111, 112]
    · simp [h2]
    · by_cases h3 : l = [97, 100, 100]
      · simp [h3]
      · by_cases h4 : l = [99, 104, 97, 110, 103, 101]
        · simp [h4]
        · by_cases h5 : l = [98, 101, 115, 105, 100, 101]
          · simp [h5]
          · simp [h1, h2, h3, h4, h5]
theorem setBad_ok {s : Str} (hs : SgOk s) {e : Bool} {z : List Nat} (h : setBad e z = true) : setB (if e = true then S "#" ++ s else s) (.str (ofL z)) = false := by
  unfold setBad at h
  rw [Bool.or_eq_true, Bool.or_eq_true] at h
  rcases h with (h | h) | h
  · have : z = [] := by simpa using h
    subst this
    exact set_e _
  · obtain ⟨c, hc, hb⟩ := List.any_eq_true.mp h
    rw [Bool.and_eq_true] at hb
    obtain ⟨h1, h2⟩ := hb
    have n1 : ¬ (97 ≤ c ∧ c ≤ 122) := by
      intro ⟨a, b⟩
      rw [decide_eq_true a, decide_eq_true b] at h1
      cases h1
    refine set_no (c := c) hc ?_
    cases e with
    | false =>
      intro hm
      exact n1 (hs.let' c hm)
    | true =>
      intro hm
      have hm' : c ∈ 35 :: tl s := by rw [← tl_hash]; exact hm
      rcases List.mem_cons.mp hm' with hm | hm
      · subst hm
        cases h2
      · exact n1 (hs.let' c hm)
  · have h' : risL z = false := by simpa using h
    exact set_ris h'
theorem mfW_ok {s : Str} (hs : SgOk s) {ws : List (List Nat)} (h : mfW ws = true) : patB s (.tuple ((ws.map ofL).map PyData.str)) = false := by
  cases ws with
  | nil => rfl
  | cons k rest =>
    have hk := kinds_look k
    show (match tab_SETS.lookup (ofL k) with
      | none => false
      | some n => decide (((((rest.map ofL).map PyData.str).length + 1 : Nat) : Int) = n + 1) && ((rest.map ofL).map PyData.str).all (setB (if ofL k = S "beside" then S "#" ++ s else s))) = false
    rw [hk]
    unfold mfW at h
    simp only at h
    cases hn : kindN k with
    | none => rfl
    | some n =>
      rw [hn] at h
      rw [Bool.or_eq_true] at h
      show (decide (((((rest.map ofL).map PyData.str).length + 1 : Nat) : Int) = (n : Int) + 1) && ((rest.map ofL).map PyData.str).all (setB (if ofL k = S "beside" then S "#" ++ s else s))) = false
      rcases h with h | h
      · have hne : rest.length ≠ n := by simpa using h
        have : ¬ (((((rest.map ofL).map PyData.str).length + 1 : Nat) : Int) = (n : Int) + 1) := by
          rw [List.length_map, List.length_map]; omega
        rw [decide_eq_false this, Bool.false_and]
      · obtain ⟨z, hz, hb⟩ := List.any_eq_true.mp h
        have hb' := setBad_ok hs hb
        have eb : (ofL k = S "beside") ↔ ((k == [98, 101, 115, 105, 100, 101]) = true) := by
          have e5 : S "beside" = ofL [98, 101, 115, 105, 100, 101] := by decide +kernel
          rw [e5, beq_iff_eq]
          constructor
          · intro h; exact congrArg tl h
          · intro h; rw [h]
        have : ((rest.map ofL).map PyData.str).all (setB (if ofL k = S "beside" then S "#" ++ s else s)) = false := by
          rw [List.all_eq_false]
          refine ⟨.str (ofL z), by rw [List.map_map]; exact List.mem_map.mpr ⟨z, hz, rfl⟩, ?_⟩
          have : setB (if ofL k = S "beside" then S "#" ++ s else s) (.str (ofL z)) = false := by
            by_cases hk5 : ofL k = S "beside"
            · rw [if_pos (eb.mp hk5)] at hb'
              rw [if_pos hk5]
              exact hb'
            · rw [if_neg (fun z => hk5 (eb.mpr z))] at hb'
              rw [if_neg hk5]
              exact hb'
          rw [this]
          simp
        rw [this, Bool.and_false]
theorem getLastD_map (ws : List (List Nat)) (h : ws ≠ []) : (ws.map ofL).getLastD (S "") = ofL (ws.getLastD []) := by
  obtain ⟨r, y, rfl⟩ : ∃ r y, ws = r ++ [y] := ⟨ws.dropLast, ws.getLast h, (List.dropLast_concat_getLast h).symm⟩
  simp
theorem mf_ok {s : Str} (hs : SgOk s) {ws : List (List Nat)} (hne : ws ≠ []) (h : mf ws = true) : patR s (ws.map ofL) = .none := by
  have key : cntB s (parseW (ws.map ofL)) = false := by
    unfold parseW
    rw [getLastD_map ws hne, times_look]
    unfold mf at h
    by_cases h2 : ws.getLastD [] = [42, 50]
    · rw [if_pos (.inl h2)] at h
      rw [if_pos h2]
      simp only
      have e : (ws.map ofL).dropLast = ws.dropLast.map ofL := by rw [List.map_dropLast]
      rw [e]
      show (patB s (.tuple ((ws.dropLast.map ofL).map PyData.str)) && timesB (.int 2)) = false
      rw [mfW_ok hs h, Bool.false_and]
    · by_cases h3 : ws.getLastD [] = [42, 51]
      · rw [if_pos (.inr h3)] at h
        rw [if_neg h2, if_pos h3]
        simp only
        have e : (ws.map ofL).dropLast = ws.dropLast.map ofL := by rw [List.map_dropLast]
        rw [e]
        show (patB s (.tuple ((ws.dropLast.map ofL).map PyData.str)) && timesB (.int 3)) = false
        rw [mfW_ok hs h, Bool.false_and]
      · rw [if_neg (by intro z; rcases z with z | z <;> contradiction)] at h
        rw [if_neg h2, if_neg h3]
        simp only
        show (patB s (.tuple ((ws.map ofL).map PyData.str)) && timesB (.int 1)) = false
        rw [mfW_ok hs h, Bool.false_and]
  unfold patR
  rw [key]
  rfl
end Lw
namespace Lw
open PySem PySem.Spec L2 Evl Dt
open TL (tl joinL tl_join tl_ofString join_eq tl_append len_tl)
theorem m_showpat {s : Str} (hs : SgOk s) {p : Pat} (hp : p.Ok s) : m_show_pattern [.d p.d] = .ok (.d (.str (patS p))) [.d p.d] := by
  obtain ⟨h1, h2, h3, _⟩ := kind_ok' hs hp.k
  obtain ⟨s1, s2, s3, s4, s5, s6, s7, s8, s9⟩ := lS
  obtain ⟨_, hj, hl⟩ := join_bd (y := S " ") 6 3 (fun z hz => (h3 z hz).1) h2 (by omega) (by omega)
  have e0 : patS p = if p.t = 1 then Txt.join (S " ") p.k else Txt.join (S " ") p.k ++ (S " " ++ tS p.t) := by
    unfold patS wordsP
    split
    · rw [List.append_nil]
    · exact join_snoc h1
  have ed : p.d = .tuple [.tuple (p.k.map PyData.str), .int p.t] := rfl
  by_cases ht : p.t = 1
  · rw [e0, if_pos ht, ed, ht]
    generalize p.k.map PyData.str = PK at *
    generalize Txt.join (S " ") p.k = J at *
    simp [m_show_pattern, gOf, w_show_pattern, put_eq, hj]
  · obtain ⟨q1, q2⟩ := str_times hp.t1 hp.t3 ht
    rw [e0, if_neg ht, ed, ← q2]
    have hll : (if p.t = 2 then S "2" else S "3").length = 1 := by split <;> assumption
    generalize (if p.t = 2 then S "2" else S "3") = TX at *
    rw [← app_assoc]
    have z1 : (Txt.join (S " ") p.k).length + (S " *").length ≤ 16777216 := by omega
    have z2 : (Txt.join (S " ") p.k ++ S " *").length + TX.length ≤ 16777216 := by rw [apl]; omega
    generalize p.k.map PyData.str = PK at *
    generalize Txt.join (S " ") p.k = J at *
    generalize p.t = T at *
    simp [m_show_pattern, gOf, w_show_pattern, put_eq, hj, ht, sizeLine, z1, q1, z2, -strD_int]
theorem m_showwish {s : Str} (hs : SgOk s) {w : Wish} (hw : w.Ok s) : m_show_wish [.d w.d] = .ok (.d (.str (wishS w))) [.d w.d] := by
  obtain ⟨s1, s2, s3, s4, s5, s6, s7, s8, s9⟩ := lS
  have hB : ∀ z ∈ w.ps.map patS, z.length ≤ 32 := fun z hz => by
    obtain ⟨p, hp, rfl⟩ := List.mem_map.mp hz
    exact (patS_len hs (hw.ps p hp)).1
  obtain ⟨hj, _, hl⟩ := join_bd (y := S ", ") 32 3 hB (by rw [List.length_map]; exact hw.l3) (by omega) (by omega)
  have hn := hw.n.2.1
  have hnl := len_tl w.n
  have l3 := hw.l3
  have key := lc_mapM (h := put 1) (fe := ce_show_wish_0) (vs := [1]) Pat.d (fun p => .str (patS p)) (ρ := [.d w.d, .no]) (l := w.ps) (fun p hp => by
    have ms := m_showpat hs (hw.ps p hp)
    refine ⟨[.d w.d, .d p.d], [.d w.d, .d p.d], by simp [put_eq], ?_, by simp⟩
    generalize p.d = PD at *
    generalize w.d = WD at *
    simp [ce_show_wish_0, ms]) (by omega)
  rw [List.map_map] at hj
  have hj' : joinD (.str (S ", ")) [.list (w.ps.map fun p => PyData.str (patS p))] = some (.str (Txt.join (S ", ") (w.ps.map patS))) := hj
  have ed : w.d = .tuple [.str w.n, .tuple (w.ps.map Pat.d)] := rfl
  have z1 : w.n.length + (S ": ").length ≤ 16777216 := by omega
  have z2 : (w.n ++ S ": ").length + (Txt.join (S ", ") (w.ps.map patS)).length ≤ 16777216 := by rw [apl]; omega
  unfold wishS
  rw [ed] at key ⊢
  generalize Txt.join (S ", ") (w.ps.map patS) = J at *
  generalize (w.ps.map fun p => PyData.str (patS p)) = KD at *
  generalize w.ps.map Pat.d = PD at *
  simp [m_show_wish, gOf, w_show_wish, at0, at1, key, hj', sizeLine, z1, z2]
theorem m_showcode {s : Str} (hs : SgOk s) {ws : List Wish} (h5 : ws.length ≤ 5) (hw : ∀ w ∈ ws, w.Ok s) : m_show_code [.d (Code.d ⟨s, ws⟩)] = .ok (.d (.str (codeS ⟨s, ws⟩))) [.d (Code.d ⟨s, ws⟩)] := by
  obtain ⟨s1, s2, s3, s4, s5, s6, s7, s8, s9⟩ := lS
  obtain ⟨r1, r2, _⟩ := rows_bd hs h5 hw
  obtain ⟨hj, _, hl⟩ := join_bd (y := S "\n") 112 6 r1 r2 (by omega) (by omega)
  have l3 := hs.l3
  have hsl := len_tl s
  have key := lc_mapM (h := put 1) (fe := ce_show_code_0) (vs := [1]) Wish.d (fun w => .str (wishS w)) (ρ := [.d (Code.d ⟨s, ws⟩), .no]) (l := ws) (fun w hw' => by
    have ms := m_showwish hs (hw w hw')
    refine ⟨[.d (Code.d ⟨s, ws⟩), .d w.d], [.d (Code.d ⟨s, ws⟩), .d w.d], by simp [put_eq], ?_, by simp⟩
    generalize w.d = WD at *
    generalize Code.d ⟨s, ws⟩ = CD at *
    simp [ce_show_code_0, ms]) (by omega)
  have e1 : (rowsC ⟨s, ws⟩).map PyData.str = .str (S "signs " ++ s) :: ws.map fun w => PyData.str (wishS w) := by
    show _ :: _ = _
    rw [List.map_map]
    rfl
  rw [e1] at hj
  have ed : Code.d ⟨s, ws⟩ = .tuple [.str s, .tuple (ws.map Wish.d)] := rfl
  have z1 : (S "signs ").length + s.length ≤ 16777216 := by omega
  have z2 : 1 + (ws.map fun w => PyData.str (wishS w)).length ≤ 16777216 := by rw [List.length_map]; omega
  unfold codeS
  rw [ed] at key ⊢
  generalize Txt.join (S "\n") (rowsC ⟨s, ws⟩) = J at *
  generalize (ws.map fun w => PyData.str (wishS w)) = KD at *
  generalize ws.map Wish.d = WD at *
  have ea : addD (.str (S "signs ")) (.str s) = some (.str (S "signs " ++ s)) := by
    rw [addD_str, if_pos (show _ ≤ sizeLine from z1)]
  generalize S "signs " ++ s = SS at *
  simp [m_show_code, gOf, w_show_code, at0, at1, key, hj, sizeLine, z1, z2, ea, -addD_str]
end Lw
namespace Lw
open PySem PySem.Spec L2 Evl Dt
open TL (tl joinL tl_join tl_ofString join_eq tl_append len_tl spl par pre)
/-! ### cut and put together again -/
theorem pre_eq {S l : List Nat} (h : pre S l = true) : l = S ++ l.drop S.length := by
  have e : l.take S.length = S := eq_of_beq h
  conv => lhs; rw [← List.take_append_drop S.length l, e]
theorem jl_cons (S p : List Nat) {r : List (List Nat)} (h : r ≠ []) : joinL S (p :: r) = p ++ (S ++ joinL S r) := by
  cases r with
  | nil => exact absurd rfl h
  | cons q r => rfl
theorem join_spl {S : List Nat} (hS : S ≠ []) : ∀ (n : Nat) (l acc : List Nat), l.length ≤ n → spl S 0 acc l ≠ [] ∧ joinL S (spl S 0 acc l) = acc ++ l ∧ (spl S 0 acc l).length ≤ l.length + 1
  | _, [], acc, _ => by
    rw [TL.spl_nil]
    exact ⟨by simp, by simp [joinL], by simp⟩
  | 0, c :: r, acc, h => by simp at h
  | n + 1, c :: r, acc, h => by
    cases hp : pre S (c :: r) with
    | false =>
      obtain ⟨h1, h2, h3⟩ := join_spl hS n r (acc ++ [c]) (by simpa using h)
      rw [TL.spl_miss hp]
      exact ⟨h1, by rw [h2]; simp, by simp; omega⟩
    | true =>
      have e := pre_eq hp
      have hl : 1 ≤ S.length := by
        cases S with
        | nil => exact absurd rfl hS
        | cons _ _ => simp
      have ed : r.drop (S.length - 1) = (c :: r).drop S.length := by
        obtain ⟨k, hk⟩ : ∃ k, S.length = k + 1 := ⟨S.length - 1, by omega⟩
        rw [hk]
        rfl
      rw [TL.spl_hit hp, TL.spl_pass, ed]
      have hlen : ((c :: r).drop S.length).length ≤ n := by rw [List.length_drop]; simp at h ⊢; omega
      obtain ⟨h1, h2, h3⟩ := join_spl hS n ((c :: r).drop S.length) [] hlen
      refine ⟨by simp, ?_, ?_⟩
      · rw [jl_cons _ _ h1, h2, List.nil_append, ← e]
      · rw [List.length_cons]
        rw [List.length_drop] at h3
        rw [List.length_cons] at h3 ⊢
        omega
theorem jl_mem (S : List Nat) : ∀ (ps : List (List Nat)) (p : List Nat), p ∈ ps → p.length ≤ (joinL S ps).length ∧ ∀ c ∈ p, c ∈ joinL S ps
  | [], p, h => by cases h
  | [q], p, h => by
    rw [List.mem_singleton.mp h]
    exact ⟨Nat.le_refl _, fun c hc => hc⟩
  | q :: r :: t, p, h => by
    rw [jl_cons S q (by simp)]
    rcases List.mem_cons.mp h with rfl | h
    · exact ⟨by simp, fun c hc => List.mem_append_left _ hc⟩
    · obtain ⟨h1, h2⟩ := jl_mem S (r :: t) p h
      refine ⟨?_, fun c hc => List.mem_append_right _ (List.mem_append_right _ (h2 c hc))⟩
      rw [List.length_append, List.length_append]
      omega
def Ft (z : Str) : Prop := z.length ≤ 1000 ∧ ∀ c ∈ tl z, c < 1114112
theorem Ft.fit {z : Str} (h : Ft z) : Fit z := ⟨strOk_lt h.2, h.1⟩
theorem split_facts {x y : Str} (hy : tl y ≠ []) (hk : y.cps.all (· < 256) = true) (hx : Ft x) : Txt.split x y ≠ [] ∧ (Txt.split x y).length ≤ 1001 ∧ Txt.join y (Txt.split x y) = x ∧ ∀ z ∈ Txt.split x y, Ft z := by
  have e := split_ofL x y hy hk
  obtain ⟨h1, h2, h3⟩ := join_spl hy (tl x).length (tl x) [] (Nat.le_refl _)
  have hl := len_tl x
  have hx1 := hx.1
  refine ⟨?_, ?_, ?_, ?_⟩
  · rw [e]; simpa using h1
  · rw [e, List.length_map]; omega
  · refine str_ext ?_
    rw [join_eq, tl_join, e, tl_ofLs, h2, List.nil_append]
  · intro z hz
    rw [e] at hz
    obtain ⟨p, hp, rfl⟩ := List.mem_map.mp hz
    obtain ⟨g1, g2⟩ := jl_mem (tl y) _ p hp
    rw [h2, List.nil_append] at g1 g2
    exact ⟨by rw [len_tl, tl_ofL]; omega, fun c hc => hx.2 c (g2 c hc)⟩
theorem par_some {S : List Nat} : ∀ (l acc a b : List Nat), par S acc l = some (a, b) → acc ++ l = a ++ (S ++ b)
  | [], acc, a, b, h => by simp [TL.par] at h
  | c :: r, acc, a, b, h => by
    cases hp : pre S (c :: r) with
    | false =>
      rw [TL.par_miss hp] at h
      have := par_some r (acc ++ [c]) a b h
      rw [← this]
      simp
    | true =>
      rw [TL.par_hit hp] at h
      cases h
      rw [← pre_eq hp]
theorem find_par (x y : Str) (hy : tl y ≠ []) : Txt.find x y = (match par (tl y) [] (tl x) with | some (a, _) => (a.length : Int) | none => -1) := by
  have hx := len_tl x
  have hl := len_tl y
  unfold Txt.find
  rcases PySem.StrLaws.occ_head x y 1 (Nat.le_refl 1) with ⟨h0, hn⟩ | ⟨i, r, h0, hi, hn⟩
  · have run := TL.par_run (tl y) (tl x) (tl x).length 0 [] (by omega) (fun k _ _ => TL.no_at hy (hn k))
    rw [List.drop_zero, Nat.zero_add, List.drop_length] at run
    rw [h0, run]
    rfl
  · have hb : i + y.length ≤ x.length := hi.1
    have run := TL.par_run (tl y) (tl x) i 0 [] (by omega) (fun k _ k2 => TL.no_at hy (hn k (by omega)))
    rw [List.drop_zero, Nat.zero_add, List.nil_append, TL.par_at hy ((TL.at_iff hy i).mp hi)] at run
    rw [h0, run]
    simp only
    rw [List.length_take]
    congr 1
    omega
end Lw
namespace Lw
open PySem PySem.Spec L2 Evl Dt
open TL (tl joinL tl_join tl_ofString join_eq tl_append len_tl spl par pre)
theorem m_lis (z a : Str) (hz : z.length ≤ 1000) : m__law_is_set [.d (.str z), .d (.str a)] = .ok (.d (.bool (setB a (.str z)))) [.d (.str z), .d (.str a)] := by
  have hz' : z.length ≤ 16777216 := by omega
  have ht := len_tl z
  have keyA : lcRun (put 3) (fun ρ => R.ok true ρ) ce__law_is_set_0 [3] (chars z) [] [.d (.str z), .d (.str a), .no, .no] = .ok ([] ++ (chars z).map fun x => .bool (inTx a x)) [.d (.str z), .d (.str a), .no, .no] := by
    refine lc_map _ (fun x hx => ?_) ?_
    · obtain ⟨c, hc, rfl⟩ := List.mem_map.mp hx
      exact ⟨[.d (.str z), .d (.str a), .no, .d (.str ⟨#[c]⟩)], [.d (.str z), .d (.str a), .no, .d (.str ⟨#[c]⟩)], [.d (.str z), .d (.str a), .no, .d (.str ⟨#[c]⟩)], by simp [put_eq], rfl, by simp [ce__law_is_set_0, inD, inB, inTx], by simp⟩
    · have : (chars z).length = z.length := by simp [chars, len_tl]
      simp [sizeLine]
      omega
  have ea := boolsD_all (inTx a) (chars z)
  rw [chars_all, allD_list] at ea
  simp only [List.nil_append] at keyA
  have key := lc_mapM (h := put 2) (fe := ce__law_is_set_1) (vs := [2]) (fun k : Nat => PyData.int (k : Int)) (fun k => .bool (decide ((tl z).getD k 0 < (tl z).getD (k + 1) 0))) (ρ := [.d (.str z), .d (.str a), .no, .no]) (l := List.range ((tl z).length - 1)) (fun k hk => by
    have hk' := List.mem_range.mp hk
    have a1 : atI z.cps.toList (k : Int) = some ((tl z).getD k 0) := at_getD (l := tl z) (by omega)
    have a2 : atI z.cps.toList ((k : Int) + 1) = some ((tl z).getD (k + 1) 0) := at_getD (l := tl z) (k := k + 1) (by omega)
    have l1 := lt1 ((tl z).getD k 0) ((tl z).getD (k + 1) 0)
    refine ⟨[.d (.str z), .d (.str a), .d (.int k), .no], [.d (.str z), .d (.str a), .d (.int k), .no], by simp [put_eq], ?_, by simp⟩
    rw [← l1]
    generalize (tl z).getD k 0 = A at *
    generalize (tl z).getD (k + 1) 0 = B at *
    simp [ce__law_is_set_1, hz', sizeLine, a1, a2]) (by rw [List.length_range]; omega)
  have en : nums 0 ((z.length : Int) - 1).toNat = (List.range ((tl z).length - 1)).map fun k : Nat => PyData.int (k : Int) := by
    unfold nums
    have : ((z.length : Int) - 1).toNat = (tl z).length - 1 := by omega
    rw [this]
    refine List.map_congr_left fun k _ => ?_
    congr 1
    omega
  have hb : boolsD ((List.range ((tl z).length - 1)).map fun k => PyData.bool (decide ((tl z).getD k 0 < (tl z).getD (k + 1) 0))) = some ((List.range ((tl z).length - 1)).map fun k => decide ((tl z).getD k 0 < (tl z).getD (k + 1) 0)) := by
    generalize List.range ((tl z).length - 1) = l
    induction l with
    | nil => rfl
    | cons x l ih => simp only [List.map_cons, boolsD]; rw [ih]
  have ha : ((List.range ((tl z).length - 1)).map fun k => decide ((tl z).getD k 0 < (tl z).getD (k + 1) 0)).all id = risL (tl z) := by
    rw [List.all_map]
    exact risL_all (tl z)
  have r1 : (-4611686018427387904 : Int) ≤ (z.length : Int) - 1 ∧ (z.length : Int) - 1 < 4611686018427387904 := by omega
  have e2 : setB a (.str z) = (decide (∀ c ∈ tl z, c ∈ tl a) && (!decide (z = S "") && risL (tl z))) := rfl
  rw [e2]
  generalize decide (∀ c ∈ tl z, c ∈ tl a) = AA at *
  generalize hB : risL (tl z) = BB at *
  generalize ((List.range ((tl z).length - 1)).map fun k => decide ((tl z).getD k 0 < (tl z).getD (k + 1) 0)) = BL at *
  generalize ((List.range ((tl z).length - 1)).map fun k => PyData.bool (decide ((tl z).getD k 0 < (tl z).getD (k + 1) 0))) = BD at *
  generalize ((List.range ((tl z).length - 1)).map fun k : Nat => PyData.int (k : Int)) = NL at *
  have hl0 : lenD [.str z] = some (.int z.length) := by
    show (if _ then _ else _) = _
    rw [if_pos (show z.length ≤ sizeLine from hz')]
  clear ht hB
  generalize (z.length : Int) = L at *
  have ej : (L - 1).toNat = L.toNat - 1 := by omega
  rw [ej] at en
  by_cases h0 : z = S ""
  · subst h0
    simp [m__law_is_set, gOf, w__law_is_set]
  · cases AA with
    | false => simp [m__law_is_set, gOf, w__law_is_set, h0, keyA, ea]
    | true => simp [m__law_is_set, gOf, w__law_is_set, h0, keyA, ea, hl0, r1.1, r1.2, en, key, hb, ha, -lenD_str]
def sizesD : List (Pd × Pd) := dcD [("sign", 2), ("drop", 2), ("add", 2), ("change", 3), ("beside", 3)]
theorem sizes_look (k : Str) : lookD (.inr k) sizesD = (tab_SETS.lookup k).map fun n => PyData.int (n + 1) := by
  have e : ∀ z : Str, (keyD (.str z) = some (.inr k)) ↔ z = k := fun z => by
    constructor
    · intro h
      have h1 : some (Sum.inr z : Key) = some (Sum.inr k) := h
      exact Sum.inr.inj (Option.some.inj h1)
    · intro h; rw [h]; rfl
  simp only [sizesD, dcD, List.map_cons, List.map_nil, lookD, e, tab_SETS, List.lookup_cons, List.lookup_nil]
  have b : ∀ z : Str, (k == z) = decide (z = k) := fun z => by
    by_cases h : z = k
    · subst h; simp
    · have : ¬ k = z := fun q => h q.symm
      simp [h, this]
  simp only [b]
  by_cases h1 : Str.ofString "sign" = k
  · simp [h1]
  · by_cases h2 : Str.ofString "drop" = k
    · simp [h1, h2]
    · by_cases h3 : Str.ofString "add" = k
      · simp [h1, h2, h3]
      · by_cases h4 : Str.ofString "change" = k
        · simp [h1, h2, h3, h4]
        · by_cases h5 : Str.ofString "beside" = k
          · simp [h1, h2, h3, h4, h5]
          · simp [h1, h2, h3, h4, h5]
def poTail : Rho → R Fl :=
  (fSeq (fAsg (fC (.dict sizesD)) (put 4))
  (fSeq (fIfS (fOr (fTest (f2 eqD (fOwn 2) (fL (fLst fNil)))) (fTest (f2 neD (fCB lenD (fCons (fOwn 2) fNil)) (fDGet2 (fVar 4) (f2 ixD (fOwn 2) (fC (.int 0))) (fC (.int 0)))))) (fRet (fC .none)) fNx)
  (fSeq (fAsg (f2 addD (f2 ixD (fL (fLst (fCons (fC (.str "")) (fCons (fC (.str "#")) fNil)))) (fCB intOfD (fCons (f2 eqD (f2 ixD (fOwn 2) (fC (.int 0))) (fC (.str "beside"))) fNil))) (fVar 1)) (put 5))
  (fSeq (fIfS (fNot (fTest (fCB allD (fCons (fL (fLc (fItL (fSl slD (fOwn 2) (fPart (fC (.int 1))) fNoPart)) (put 6) (fun ρ => .ok true ρ) ce__law_pattern_of_0 [6])) fNil)))) (fRet (fC .none)) fNx)
  (fRet (fTup (fCons (fCB tupleA (fCons (fOwn 2) fNil)) (fCons (fVar 3) fNil))))))))
def poHead : Rho → R Fl := (fIfS (fTest (f2 inD (f2 ixD (fOwn 2) (f1 negD (fC (.int 1)))) (fL (fLst (fCons (fC (.str "*2")) (fCons (fC (.str "*3")) fNil)))))) (fAsg (fCB intSD (fCons (fSl slD (fPop 2) (fPart (fC (.int 1))) fNoPart) fNil)) (put 3)) fNx)
theorem po_eq : w__law_pattern_of = fSeq (fSetO (fSplitL (fVar 0) (fC (.str " "))) 2) (fSeq (fAsg (fC (.int 1)) (put 3)) (fSeq poHead poTail)) := rfl
theorem eq_nil_strs {V : List Str} (h : ∀ z ∈ V, Fit z) : eqD (.list (V.map PyData.str)) (.list []) = some (.bool V.isEmpty) := by
  have hs : sh 60 (.list (V.map PyData.str)) = true := by
    rw [sh_list, List.all_map, List.all_eq_true]
    intro z hz
    show sh 59 (.str z) = true
    rw [sh_str]
    exact (h z hz).1
  cases V with
  | nil => simp [eqD, eqB_list, sh, PyData.eqvAll]
  | cons a l =>
    simp only [List.map_cons] at hs ⊢
    simp [eqD, eqB_list, hs, sh_list, PyData.eqvAll]
def pick (b : Bool) (d : Pd) : Pd := match b with
  | true => d
  | false => .none
theorem po_tail {x s : Str} (hs : s.length ≤ 100) {V : List Str} (hl : V.length ≤ 1001) (h : ∀ z ∈ V, Fit z) (t : Int) :
    ∃ ρ', poTail [.d (.str x), .d (.str s), .own false (V.map PyData.str), .d (.int t), .no, .no, .no] = .ok (.rt (pick (patB s (.tuple (V.map PyData.str))) (.tuple [.tuple (V.map PyData.str), .int t]))) ρ' := by
  have en := eq_nil_strs h
  cases V with
  | nil =>
    simp only [List.map_nil, List.isEmpty_nil] at en ⊢
    have e0 : patB s (.tuple []) = false := rfl
    rw [e0]
    exact ⟨_, by simp [poTail, put_eq, en, sizeLine, pick]; rfl⟩
  | cons k rest =>
    have hln : lenD [.list ((k :: rest).map PyData.str)] = some (.int ((rest.length + 1 : Nat) : Int)) := by rw [lenD_list]; simp
    have hi0 : ixD (.list ((k :: rest).map PyData.str)) (.int 0) = some (.str k) := at0 _ _
    have hc1 : cutD ((k :: rest).map PyData.str) (some 1) none = rest.map PyData.str := cut1 _ _
    have hlk := sizes_look k
    simp only [List.isEmpty_cons] at en
    have ep : patB s (.tuple ((k :: rest).map PyData.str)) = (match tab_SETS.lookup k with
      | none => false
      | some n => decide (((rest.length + 1 : Nat) : Int) = n + 1) && rest.all (fun z => setB (if k = S "beside" then S "#" ++ s else s) (.str z))) := by
      show (match tab_SETS.lookup k with
      | none => false
      | some n => decide ((((rest.map PyData.str).length + 1 : Nat) : Int) = n + 1) && (rest.map PyData.str).all (setB (if k = S "beside" then S "#" ++ s else s))) = _
      rw [List.length_map, List.all_map]
      rfl
    rw [ep]
    cases elk : tab_SETS.lookup k with
    | none =>
      rw [elk] at hlk
      have hne : neD (.int ((rest.length + 1 : Nat) : Int)) (.int 0) = some (.bool true) := by
        simp [neD, eqB]
        omega
      generalize (k :: rest).map PyData.str = KR at *
      generalize ((rest.length + 1 : Nat) : Int) = M at *
      exact ⟨_, by simp [poTail, put_eq, en, sizeLine, hln, hi0, hlk, hne, pick, -lenD_list, -ixD_list]; rfl⟩
    | some n =>
      rw [elk] at hlk
      simp only
      by_cases hn : ((rest.length + 1 : Nat) : Int) = n + 1
      · have hne : neD (.int ((rest.length + 1 : Nat) : Int)) (.int (n + 1)) = some (.bool false) := by
          rw [hn]; simp [neD, eqB]
        have hH : (S "#").length = 1 := by decide +kernel
        have hE : (S "").length = 0 := by decide +kernel
        have hadd : ∀ z : Str, z.length ≤ 1 → addD (.str z) (.str s) = some (.str (z ++ s)) := fun z hz => by
          rw [addD_str, if_pos (show _ ≤ sizeLine by simp only [sizeLine]; omega)]
        have hadd0 := hadd (S "") (by omega)
        have hadd1 := hadd (S "#") (by omega)
        have hne0 : S "" ++ s = s := str_ext (by rw [tl_append]; have : tl (S "") = [] := by decide +kernel
                                                 rw [this]; rfl)
        rw [hne0] at hadd0
        have hi1 : ixD (.list [PyData.str (S ""), PyData.str (S "#")]) (.int 1) = some (.str (S "#")) := rfl
        have hi2 : ixD (.list [PyData.str (S ""), PyData.str (S "#")]) (.int 0) = some (.str (S "")) := rfl
        have key : ∀ a : Str, lcRun (put 6) (fun ρ => R.ok true ρ) ce__law_pattern_of_0 [6] (rest.map PyData.str) [] [.d (.str x), .d (.str s), .own false ((k :: rest).map PyData.str), .d (.int t), .d (.dict sizesD), .d (.str a), .no] = .ok ([] ++ rest.map fun z => .bool (setB a (.str z))) [.d (.str x), .d (.str s), .own false ((k :: rest).map PyData.str), .d (.int t), .d (.dict sizesD), .d (.str a), .no] := fun a => by
          have := lc_mapM (h := put 6) (fe := ce__law_pattern_of_0) (vs := [6]) (fun z : Str => PyData.str z) (fun z => .bool (setB a (.str z))) (ρ := [.d (.str x), .d (.str s), .own false ((k :: rest).map PyData.str), .d (.int t), .d (.dict sizesD), .d (.str a), .no]) (l := rest) (fun z hz => by
            have ml := m_lis z a (h z (List.mem_cons_of_mem _ hz)).2
            generalize (k :: rest).map PyData.str = KR
            generalize setB a (.str z) = BB at *
            exact ⟨[.d (.str x), .d (.str s), .own false KR, .d (.int t), .d (.dict sizesD), .d (.str a), .d (.str z)], [.d (.str x), .d (.str s), .own false KR, .d (.int t), .d (.dict sizesD), .d (.str a), .d (.str z)], by simp [put_eq], by simp [ce__law_pattern_of_0, ml], by simp⟩) (by simp at hl; omega)
          exact this
        have hbs : ∀ a : Str, boolsD (rest.map fun z => PyData.bool (setB a (.str z))) = some (rest.map fun z => setB a (.str z)) := fun a => boolsM _ _
        have hal : ∀ a : Str, (rest.map fun z => setB a (.str z)).all id = rest.all fun z => setB a (.str z) := fun a => by rw [List.all_map]; rfl
        rw [decide_eq_true hn, Bool.true_and]
        have io1 : intOfD [.bool true] = some (.int 1) := rfl
        have io0 : intOfD [.bool false] = some (.int 0) := rfl
        have hkl : ((k :: rest).map PyData.str).length ≤ 16777216 := by rw [List.length_map]; omega
        by_cases hk : k = S "beside"
        · have hkb : eqD (.str k) (.str (S "beside")) = some (.bool true) := by rw [hk]; simp
          simp only [if_pos hk]
          have k1 := key (S "#" ++ s)
          have k2 := hbs (S "#" ++ s)
          have k3 := hal (S "#" ++ s)
          clear key hbs hal
          generalize S "#" ++ s = AM at *
          generalize (rest.all fun z => setB AM (.str z)) = BB at *
          generalize (rest.map fun z => PyData.bool (setB AM (.str z))) = RL at *
          generalize (rest.map fun z => setB AM (.str z)) = RB at *
          generalize rest.map PyData.str = RS at *
          generalize (k :: rest).map PyData.str = KR at *
          generalize ((rest.length + 1 : Nat) : Int) = M at *
          rw [List.nil_append] at k1
          cases BB with
          | true => exact ⟨_, by simp [poTail, put_eq, en, sizeLine, hln, hi0, hlk, hne, hkb, hi1, hadd1, hc1, k1, k2, k3, hkl, io0, io1, pick, -lenD_list, -ixD_list, -addD_str]; rfl⟩
          | false => exact ⟨_, by simp [poTail, put_eq, en, sizeLine, hln, hi0, hlk, hne, hkb, hi1, hadd1, hc1, k1, k2, k3, hkl, io0, io1, pick, -lenD_list, -ixD_list, -addD_str]; rfl⟩
        · have hkb : eqD (.str k) (.str (S "beside")) = some (.bool false) := by simp [hk]
          simp only [if_neg hk]
          have k1 := key s
          have k2 := hbs s
          have k3 := hal s
          clear key hbs hal
          generalize (rest.all fun z => setB s (.str z)) = BB at *
          generalize (rest.map fun z => PyData.bool (setB s (.str z))) = RL at *
          generalize (rest.map fun z => setB s (.str z)) = RB at *
          generalize rest.map PyData.str = RS at *
          generalize (k :: rest).map PyData.str = KR at *
          generalize ((rest.length + 1 : Nat) : Int) = M at *
          rw [List.nil_append] at k1
          cases BB with
          | true => exact ⟨_, by simp [poTail, put_eq, en, sizeLine, hln, hi0, hlk, hne, hkb, hi2, hadd0, hc1, k1, k2, k3, hkl, io0, io1, pick, -lenD_list, -ixD_list, -addD_str]; rfl⟩
          | false => exact ⟨_, by simp [poTail, put_eq, en, sizeLine, hln, hi0, hlk, hne, hkb, hi2, hadd0, hc1, k1, k2, k3, hkl, io0, io1, pick, -lenD_list, -ixD_list, -addD_str]; rfl⟩
      · have hne : neD (.int ((rest.length + 1 : Nat) : Int)) (.int (n + 1)) = some (.bool true) := by
          simp [neD, eqB]
          omega
        rw [decide_eq_false hn, Bool.false_and]
        generalize (k :: rest).map PyData.str = KR at *
        generalize ((rest.length + 1 : Nat) : Int) = M at *
        exact ⟨_, by simp [poTail, put_eq, en, sizeLine, hln, hi0, hlk, hne, pick, -lenD_list, -ixD_list]; rfl⟩
end Lw
namespace Lw
open PySem PySem.Spec L2 Evl Dt
open TL (tl joinL tl_join tl_ofString join_eq tl_append len_tl spl par pre)
theorem seq_nx {f g : Rho → R Fl} {ρ ρ' : Rho} (h : f ρ = .ok .nx ρ') : fSeq f g ρ = g ρ' := by
  simp [h]
theorem in_times (y : Str) : inD (.str y) (.list [.str (S "*2"), .str (S "*3")]) = some (.bool (decide (y = S "*2") || decide (y = S "*3"))) := by
  have h := inD_strs y [S "*2", S "*3"]
  have e : decide (y ∈ [S "*2", S "*3"]) = (decide (y = S "*2") || decide (y = S "*3")) := by
    rw [Bool.eq_iff_iff, decide_eq_true_eq, Bool.or_eq_true, decide_eq_true_eq, decide_eq_true_eq]
    simp
  rw [e] at h
  exact h
theorem outs2 (x y : Pd) (ρ : Rho) : outs [.d x, .d y] ρ = [.d x, .d y] := by
  cases ρ with
  | nil => rfl
  | cons a ρ => cases ρ <;> rfl
theorem look_times (y : Str) : tab_TIMES.lookup y = if y = S "*2" then some 2 else if y = S "*3" then some 3 else none := by
  simp only [tab_TIMES, List.lookup_cons, List.lookup_nil]
  by_cases h2 : y = S "*2"
  · simp [h2]
  · by_cases h3 : y = S "*3"
    · subst h3; decide +kernel
    · have b2 : (y == Str.ofString "*2") = false := by simpa using h2
      have b3 : (y == Str.ofString "*3") = false := by simpa using h3
      simp [b2, b3, h2, h3]
theorem patR_eq (s : Str) (V : List Str) (t : Int) (h1 : 1 ≤ t) (h3 : t ≤ 3) : (if cntB s (.tuple [.tuple (V.map PyData.str), .int t]) = true then PyData.tuple [.tuple (V.map PyData.str), .int t] else .none) = pick (patB s (.tuple (V.map PyData.str))) (.tuple [.tuple (V.map PyData.str), .int t]) := by
  have e : cntB s (.tuple [.tuple (V.map PyData.str), .int t]) = patB s (.tuple (V.map PyData.str)) := by
    show (patB s _ && (decide (1 ≤ t) && decide (t ≤ 3))) = _
    rw [decide_eq_true h1, decide_eq_true h3, Bool.and_self, Bool.and_true]
  simp only [e]
  cases patB s (.tuple (V.map PyData.str)) <;> rfl
theorem m_lpat {s x : Str} (hs : s.length ≤ 100) (hx : Ft x) : m__law_pattern_of [.d (.str x), .d (.str s)] = .ok (.d (patR s (Txt.split x (S " ")))) [.d (.str x), .d (.str s)] := by
  have et : tl (S " ") = [32] := by decide +kernel
  obtain ⟨hne, hl, _, hf⟩ := split_facts (x := x) (y := S " ") (by rw [et]; simp) (by decide +kernel) hx
  have hx1 := hx.1
  have hA : (fSetO (fSplitL (fVar 0) (fC (.str " "))) 2) [.d (.str x), .d (.str s), .no, .no, .no, .no, .no] = .ok .nx [.d (.str x), .d (.str s), .own false ((Txt.split x (S " ")).map PyData.str), .no, .no, .no, .no] := by
    have h1 : ¬ ((S " ").length = 0) := by decide +kernel
    have h2 : x.length ≤ 16777214 := by omega
    simp [putOwn_eq, sizeLine, h1, h2]
  generalize Txt.split x (S " ") = W at *
  obtain ⟨r, y, er⟩ : ∃ r y, W = r ++ [y] := ⟨W.dropLast, W.getLast hne, (List.dropLast_concat_getLast hne).symm⟩
  have ea : atI (W.map PyData.str) (-1) = some (.str y) := by rw [er, List.map_append]; exact atLast _ _
  have ea' : ixD (.list (W.map PyData.str)) (.int (-1)) = some (.str y) := ea
  have ey : W.getLastD (S "") = y := by rw [er]; simp
  have ed : W.dropLast = r := by rw [er]; simp
  have eg : (W.map PyData.str)[(W.map PyData.str).length - 1]? = some (.str y) := by rw [er]; simp
  have edd : (W.map PyData.str).dropLast = r.map PyData.str := by rw [er, List.map_append]; simp
  have hy : y ∈ W := by rw [er]; simp
  have hfit : ∀ z ∈ W, Fit z := fun z hz => (hf z hz).fit
  have hB : (fAsg (fC (.int 1)) (put 3)) [.d (.str x), .d (.str s), .own false (W.map PyData.str), .no, .no, .no, .no] = .ok .nx [.d (.str x), .d (.str s), .own false (W.map PyData.str), .d (.int 1), .no, .no, .no] := by
    simp [put_eq]
  have hin := in_times y
  have hlk := look_times y
  show endF _ (w__law_pattern_of [.d (.str x), .d (.str s), .no, .no, .no, .no, .no]) = _
  rw [po_eq, seq_nx hA, seq_nx hB]
  unfold patR parseW
  rw [ey, hlk, ed]
  have yl : y.length ≤ 16777216 := by have := (hf y hy).1; omega
  have pop : ∀ t : Int, tl y = [42, 48 + t.toNat] → t = 2 ∨ t = 3 → slD (.str y) (some 1) none = some (.str (ofL [48 + t.toNat])) ∧ intSD [.str (ofL [48 + t.toNat])] = some (.int t) := fun t hy ht => by
    constructor
    · have hz : tl (cutS y (some 1) none) = [48 + t.toNat] := by rw [tl_drop _ _ (by omega), hy]; rfl
      rw [slD_str, if_pos (show _ ≤ sizeLine by simp only [sizeLine]; omega)]
      congr 2
      exact str_ext hz
    · rcases ht with rfl | rfl
      · have hl : (ofL [48 + (2 : Int).toNat]).length ≤ 640 := by decide +kernel
        have hi : PySem.intText? (ofL [48 + (2 : Int).toNat]) = some 2 := by decide +kernel
        unfold intSD
        simp only [if_pos hl, hi]
        rfl
      · have hl : (ofL [48 + (3 : Int).toNat]).length ≤ 640 := by decide +kernel
        have hi : PySem.intText? (ofL [48 + (3 : Int).toNat]) = some 3 := by decide +kernel
        unfold intSD
        simp only [if_pos hl, hi]
        rfl
  by_cases h2 : y = S "*2"
  · have t2 : tl y = [42, 50] := by rw [h2]; decide +kernel
    obtain ⟨p1, p2⟩ := pop 2 t2 (.inl rfl)
    have hC : poHead [.d (.str x), .d (.str s), .own false (W.map PyData.str), .d (.int 1), .no, .no, .no] = .ok .nx [.d (.str x), .d (.str s), .own false (r.map PyData.str), .d (.int 2), .no, .no, .no] := by
      have hin' : inD (.str y) (.list [.str (S "*2"), .str (S "*3")]) = some (.bool true) := by rw [hin]; simp [h2]
      generalize W.map PyData.str = WM at *
      generalize ofL [48 + (2 : Int).toNat] = TW at *
      generalize r.map PyData.str = RM at *
      simp [poHead, ea', hin', eg, edd, p1, p2, put_eq, sizeLine, -ixD_list, -slD_str]
    obtain ⟨ρ', e⟩ := po_tail (x := x) hs (V := r) (by rw [er] at hl; simp at hl; omega) (fun z hz => hfit z (by rw [er]; exact List.mem_append_left _ hz)) 2
    rw [seq_nx hC, e, if_pos h2]
    simp only
    rw [patR_eq s r 2 (by omega) (by omega), endF_rt, outs2]
  · by_cases h3 : y = S "*3"
    · have t2 : tl y = [42, 51] := by rw [h3]; decide +kernel
      obtain ⟨p1, p2⟩ := pop 3 t2 (.inr rfl)
      have hC : poHead [.d (.str x), .d (.str s), .own false (W.map PyData.str), .d (.int 1), .no, .no, .no] = .ok .nx [.d (.str x), .d (.str s), .own false (r.map PyData.str), .d (.int 3), .no, .no, .no] := by
        have hin' : inD (.str y) (.list [.str (S "*2"), .str (S "*3")]) = some (.bool true) := by rw [hin]; simp [h3]
        generalize W.map PyData.str = WM at *
        generalize ofL [48 + (3 : Int).toNat] = TW at *
        generalize r.map PyData.str = RM at *
        simp [poHead, ea', hin', eg, edd, p1, p2, put_eq, sizeLine, -ixD_list, -slD_str]
      obtain ⟨ρ', e⟩ := po_tail (x := x) hs (V := r) (by rw [er] at hl; simp at hl; omega) (fun z hz => hfit z (by rw [er]; exact List.mem_append_left _ hz)) 3
      rw [seq_nx hC, e, if_neg h2, if_pos h3]
      simp only
      rw [patR_eq s r 3 (by omega) (by omega), endF_rt, outs2]
    · have hC : poHead [.d (.str x), .d (.str s), .own false (W.map PyData.str), .d (.int 1), .no, .no, .no] = .ok .nx [.d (.str x), .d (.str s), .own false (W.map PyData.str), .d (.int 1), .no, .no, .no] := by
        have hin' : inD (.str y) (.list [.str (S "*2"), .str (S "*3")]) = some (.bool false) := by rw [hin]; simp [h2, h3]
        generalize W.map PyData.str = WM at *
        simp [poHead, ea', hin', sizeLine, -ixD_list]
      obtain ⟨ρ', e⟩ := po_tail (x := x) hs (V := W) hl hfit 1
      rw [seq_nx hC, e, if_neg h2, if_neg h3]
      simp only
      rw [patR_eq s W 1 (by omega) (by omega), endF_rt, outs2]
end Lw
namespace Lw
open PySem PySem.Spec L2 Evl Dt
open TL (tl joinL tl_join tl_ofString join_eq tl_append len_tl spl par pre)
/-! ### what is read is a pattern -/
theorem ris_sub : ∀ {m l : List Nat}, l.Pairwise (· < ·) → m.Pairwise (· < ·) → (∀ c ∈ l, c ∈ m) → l.Sublist m
  | [], l, _, _, h => by
    cases l with
    | nil => exact List.Sublist.refl _
    | cons a l => exact absurd (h a (by simp)) (by simp)
  | b :: m, [], _, _, _ => List.nil_sublist _
  | b :: m, a :: l, hl, hm, h => by
    rw [List.pairwise_cons] at hl hm
    by_cases e : a = b
    · subst e
      refine List.Sublist.cons_cons a (ris_sub hl.2 hm.2 fun c hc => ?_)
      have h1 := h c (List.mem_cons_of_mem _ hc)
      have h2 := hl.1 c hc
      rcases List.mem_cons.mp h1 with h3 | h3
      · omega
      · exact h3
    · have ha : a ∈ m := by
        rcases List.mem_cons.mp (h a (by simp)) with h3 | h3
        · exact absurd h3 e
        · exact h3
      have hb := hm.1 a ha
      refine List.Sublist.cons b (ris_sub (List.pairwise_cons.mpr hl) hm.2 fun c hc => ?_)
      rcases List.mem_cons.mp (h c hc) with h3 | h3
      · rcases List.mem_cons.mp hc with h4 | h4
        · omega
        · have := hl.1 c h4; omega
      · exact h3
theorem risL_pw : ∀ {l : List Nat}, risL l = true → l.Pairwise (· < ·)
  | [], _ => List.Pairwise.nil
  | [_], _ => by simp
  | a :: b :: r, h => by
    rw [show risL (a :: b :: r) = (decide (a < b) && risL (b :: r)) from rfl, Bool.and_eq_true, decide_eq_true_eq] at h
    have ih := risL_pw h.2
    refine List.pairwise_cons.mpr ⟨fun c hc => ?_, ih⟩
    rcases List.mem_cons.mp hc with rfl | hc
    · exact h.1
    · have := (List.pairwise_cons.mp ih).1 c hc
      omega
theorem setB_of {s a : Str} (hs : (tl s).Pairwise (· < ·)) (h : setB s (.str a) = true) : SetOf s a := by
  have e2 : setB s (.str a) = (decide (∀ c ∈ tl a, c ∈ tl s) && (!decide (a = S "") && risL (tl a))) := rfl
  rw [e2, Bool.and_eq_true, Bool.and_eq_true, decide_eq_true_eq] at h
  obtain ⟨h1, h2, h3⟩ := h
  refine ⟨fun e => ?_, ris_sub (risL_pw h3) hs h1⟩
  have : a = S "" := str_ext (by rw [e]; decide +kernel)
  rw [this] at h2
  simp at h2
theorem look_sets (y : Str) : tab_SETS.lookup y = if y = S "sign" then some 1 else if y = S "drop" then some 1 else if y = S "add" then some 1 else if y = S "change" then some 2 else if y = S "beside" then some 2 else none := by
  simp only [tab_SETS, List.lookup_cons, List.lookup_nil]
  have b : ∀ z : Str, (y == z) = decide (y = z) := fun z => by
    rw [Bool.eq_iff_iff, beq_iff_eq, decide_eq_true_eq]
  simp only [b]
  by_cases h1 : y = S "sign"
  · rw [decide_eq_true h1, if_pos h1]
  · rw [decide_eq_false h1, if_neg h1]
    by_cases h2 : y = S "drop"
    · rw [decide_eq_true h2, if_pos h2]
    · rw [decide_eq_false h2, if_neg h2]
      by_cases h3 : y = S "add"
      · rw [decide_eq_true h3, if_pos h3]
      · rw [decide_eq_false h3, if_neg h3]
        by_cases h4 : y = S "change"
        · rw [decide_eq_true h4, if_pos h4]
        · rw [decide_eq_false h4, if_neg h4]
          by_cases h5 : y = S "beside"
          · rw [decide_eq_true h5, if_pos h5]
          · rw [decide_eq_false h5, if_neg h5]
theorem patB_of {s : Str} (hs : SgOk s) {V : List Str} (h : patB s (.tuple (V.map PyData.str)) = true) : KindOk s V := by
  obtain ⟨n1, n2, n3, n4⟩ := ne_kinds
  have hpe : (tl (S "#" ++ s)).Pairwise (· < ·) := by
    rw [tl_hash, List.pairwise_cons]
    exact ⟨fun c hc => by have := hs.let' c hc; omega, hs.ris⟩
  cases V with
  | nil => cases h
  | cons k rest =>
    have e : patB s (.tuple ((k :: rest).map PyData.str)) = (match tab_SETS.lookup k with
      | none => false
      | some n => decide (((rest.length + 1 : Nat) : Int) = n + 1) && rest.all (fun z => setB (if k = S "beside" then S "#" ++ s else s) (.str z))) := by
      show (match tab_SETS.lookup k with
      | none => false
      | some n => decide ((((rest.map PyData.str).length + 1 : Nat) : Int) = n + 1) && (rest.map PyData.str).all (setB (if k = S "beside" then S "#" ++ s else s))) = _
      rw [List.length_map, List.all_map]
      rfl
    rw [e, look_sets] at h
    clear e
    have one : ∀ {k : Str}, ¬ (k = S "beside") → (decide (((rest.length + 1 : Nat) : Int) = 1 + 1) && rest.all (fun z => setB (if k = S "beside" then S "#" ++ s else s) (.str z))) = true → ∃ a, rest = [a] ∧ SetOf s a := fun {k} nk h => by
      rw [Bool.and_eq_true, decide_eq_true_eq] at h
      obtain ⟨h1, h2⟩ := h
      match rest, h1, h2 with
      | [], h1, _ => simp at h1
      | [a], _, h2 =>
        refine ⟨a, rfl, setB_of hs.ris ?_⟩
        rw [List.all_cons, Bool.and_eq_true, if_neg nk] at h2
        exact h2.1
      | _ :: _ :: _, h1, _ => simp at h1; omega
    have two : ∀ {u : Str}, (tl u).Pairwise (· < ·) → (decide (((rest.length + 1 : Nat) : Int) = 2 + 1) && rest.all (fun z => setB u (.str z))) = true → ∃ a b, rest = [a, b] ∧ SetOf u a ∧ SetOf u b := fun {u} hu h => by
      rw [Bool.and_eq_true, decide_eq_true_eq] at h
      obtain ⟨h1, h2⟩ := h
      match rest, h1, h2 with
      | [], h1, _ => simp at h1
      | [a], h1, h2 => simp at h1
      | [a, b], _, h2 =>
        rw [List.all_cons, List.all_cons, Bool.and_eq_true, Bool.and_eq_true] at h2
        exact ⟨a, b, rfl, setB_of hu h2.1, setB_of hu h2.2.1⟩
      | _ :: _ :: _ :: _, h1, _ => simp at h1; omega
    by_cases h1 : k = S "sign"
    · rw [if_pos h1] at h
      obtain ⟨a, rfl, ha⟩ := one (by rw [h1]; exact n1) h
      rw [h1]
      exact .sign ha
    · rw [if_neg h1] at h
      by_cases h2 : k = S "drop"
      · rw [if_pos h2] at h
        obtain ⟨a, rfl, ha⟩ := one (by rw [h2]; exact n2) h
        rw [h2]
        exact .drop ha
      · rw [if_neg h2] at h
        by_cases h3 : k = S "add"
        · rw [if_pos h3] at h
          obtain ⟨a, rfl, ha⟩ := one (by rw [h3]; exact n3) h
          rw [h3]
          exact .add ha
        · rw [if_neg h3] at h
          by_cases h4 : k = S "change"
          · rw [if_pos h4] at h
            have nk : ¬ (k = S "beside") := by rw [h4]; exact n4
            simp only [if_neg nk] at h
            obtain ⟨a, b, rfl, ha, hb⟩ := two hs.ris h
            rw [h4]
            exact .change ha hb
          · rw [if_neg h4] at h
            by_cases h5 : k = S "beside"
            · rw [if_pos h5] at h
              simp only [if_pos h5] at h
              obtain ⟨a, b, rfl, ha, hb⟩ := two hpe h
              rw [h5]
              exact .beside ha hb
            · rw [if_neg h5] at h
              cases h
theorem cnt_of {s : Str} (hs : SgOk s) {V : List Str} {t : Int} (h : cntB s (.tuple [.tuple (V.map PyData.str), .int t]) = true) : Pat.Ok s ⟨V, t⟩ := by
  have e : cntB s (.tuple [.tuple (V.map PyData.str), .int t]) = (patB s (.tuple (V.map PyData.str)) && (decide (1 ≤ t) && decide (t ≤ 3))) := rfl
  rw [e, Bool.and_eq_true, Bool.and_eq_true, decide_eq_true_eq, decide_eq_true_eq] at h
  exact ⟨patB_of hs h.1, h.2.1, h.2.2⟩
theorem rd_pat {s x : Str} (hs : SgOk s) (hx : Ft x) : patR s (Txt.split x (S " ")) = .none ∨ ∃ p : Pat, p.Ok s ∧ patR s (Txt.split x (S " ")) = p.d ∧ patS p = x := by
  have et : tl (S " ") = [32] := by decide +kernel
  obtain ⟨hne, _, hj, _⟩ := split_facts (x := x) (y := S " ") (by rw [et]; simp) (by decide +kernel) hx
  generalize Txt.split x (S " ") = W at *
  obtain ⟨r, y, er⟩ : ∃ r y, W = r ++ [y] := ⟨W.dropLast, W.getLast hne, (List.dropLast_concat_getLast hne).symm⟩
  have ey : W.getLastD (S "") = y := by rw [er]; simp
  have ed : W.dropLast = r := by rw [er]; simp
  have n12 : ¬ ((2 : Int) = 1) := by decide
  have n13 : ¬ ((3 : Int) = 1) := by decide
  unfold patR
  by_cases hc : cntB s (parseW W) = true
  · rw [if_pos hc]
    refine .inr ?_
    unfold parseW at hc ⊢
    rw [ey, look_times, ed] at hc ⊢
    by_cases h2 : y = S "*2"
    · rw [if_pos h2] at hc ⊢
      refine ⟨⟨r, 2⟩, cnt_of hs hc, rfl, ?_⟩
      have : wordsP ⟨r, 2⟩ = W := by rw [er, h2]; rfl
      unfold patS
      rw [this, hj]
    · rw [if_neg h2] at hc ⊢
      by_cases h3 : y = S "*3"
      · rw [if_pos h3] at hc ⊢
        refine ⟨⟨r, 3⟩, cnt_of hs hc, rfl, ?_⟩
        have : wordsP ⟨r, 3⟩ = W := by rw [er, h3]; rfl
        unfold patS
        rw [this, hj]
      · rw [if_neg h3] at hc ⊢
        refine ⟨⟨W, 1⟩, cnt_of hs hc, rfl, ?_⟩
        have : wordsP ⟨W, 1⟩ = W := by unfold wordsP; simp
        unfold patS
        rw [this, hj]
  · rw [if_neg hc]
    exact .inl rfl
theorem none_inT {xs : List Pd} (h : ∀ x ∈ xs, sh 59 x = true) : inD .none (.tuple xs) = some (.bool (xs.any isNon)) ∧ inD .none (.list xs) = some (.bool (xs.any isNon)) := by
  have h60 : sh 60 (.tuple xs) = true := by rw [sh_tuple, List.all_eq_true]; exact h
  have h61 : sh 60 (.list xs) = true := by rw [sh_list, List.all_eq_true]; exact h
  have ha : (xs.any fun y => PyData.eqv y .none) = xs.any isNon := by
    congr 1
    funext y
    cases y <;> rfl
  constructor
  · unfold inD inB
    simp only [ha, h60, sh_none, and_self, if_true]
    split <;> rfl
  · unfold inD inB
    simp only [ha, h61, sh_none, and_self, if_true]
    split <;> rfl
theorem rd_pats {s : Str} (hs : SgOk s) : ∀ (PS : List Str), (∀ z ∈ PS, Ft z) → ((PS.map fun z => patR s (Txt.split z (S " "))).any isNon = true) ∨ ∃ ps : List Pat, (∀ p ∈ ps, p.Ok s) ∧ (PS.map fun z => patR s (Txt.split z (S " "))) = ps.map Pat.d ∧ ps.map patS = PS
  | [], _ => .inr ⟨[], by simp, rfl, rfl⟩
  | z :: PS, h => by
    rcases rd_pat hs (h z (by simp)) with e | ⟨p, hp, e1, e2⟩
    · left
      rw [List.map_cons, List.any_cons, e]
      rfl
    · rcases rd_pats hs PS fun u hu => h u (List.mem_cons_of_mem _ hu) with e | ⟨ps, h1, h2, h3⟩
      · left
        rw [List.map_cons, List.any_cons, e, Bool.or_true]
      · right
        refine ⟨p :: ps, ?_, ?_, ?_⟩
        · intro u hu
          rcases List.mem_cons.mp hu with rfl | hu
          · exact hp
          · exact h1 u hu
        · rw [List.map_cons, List.map_cons, h2, e1]
        · rw [List.map_cons, h3, e2]
theorem pats_any {s : Str} {ps : List Pat} : (ps.map Pat.d).any isNon = false := by
  rw [List.any_map, List.any_eq_false]
  intro p _
  simp [Pat.d, Dt.isNon]
end Lw
namespace Lw
open PySem PySem.Spec L2 Evl Dt
open TL (tl joinL tl_join tl_ofString join_eq tl_append len_tl spl par pre)
/-! ### a row as a wish -/
theorem wp_no {s x : Str} (hx : Ft x) (h : par [58, 32] [] (tl x) = none) : m_wish_in [.d (.str s), .d (.str x)] = .ok (.d .none) [.d (.str s), .d (.str x)] ∧ m__law_wish_of [.d (.str x), .d (.str s)] = .ok (.d .none) [.d (.str x), .d (.str s)] := by
  have et : tl (S ": ") = [58, 32] := by decide +kernel
  have hp := TL.partition_par x (S ": ") (by rw [et]; simp)
  have hf := find_par x (S ": ") (by rw [et]; simp)
  rw [et, h] at hp hf
  have emp : Str.empty = S "" := by decide +kernel
  have hx1 := hx.1
  have epa : partD (.str x) [.str (S ": ")] = some (.tuple [.str x, .str (S ""), .str (S "")]) := by
    show (if _ then _ else _) = _
    rw [if_pos ⟨by decide +kernel, show _ ≤ sizeLine by simp only [sizeLine]; omega⟩, hp, emp]
  have hfd : findD (.str x) [.str (S ": ")] = some (.int (-1)) := by
    show some (PyData.int (Txt.find x (S ": "))) = _
    rw [hf]
  constructor
  · simp [m_wish_in, gOf, w_wish_in, epa, put_eq, -partD_str]
  · simp [m__law_wish_of, gOf, w__law_wish_of, hfd, put_eq, -findD_str]
structure Parted (x A B : Str) (M : Int) : Prop where
  m0 : 0 ≤ M
  ml : M = (A.length : Int)
  fd : findD (.str x) [.str (S ": ")] = some (.int M)
  pa : partD (.str x) [.str (S ": ")] = some (.tuple [.str A, .str (S ": "), .str B])
  sa : slD (.str x) none (some M) = some (.str A)
  sb : slD (.str x) (some (M + 2)) none = some (.str B)
  fa : Ft A
  fb : Ft B
  eq : A ++ S ": " ++ B = x
theorem parted_of {x : Str} (hx : Ft x) {a b : List Nat} (h : par [58, 32] [] (tl x) = some (a, b)) : ∃ M, Parted x (ofL a) (ofL b) M := by
  have et : tl (S ": ") = [58, 32] := by decide +kernel
  have hp := TL.partition_par x (S ": ") (by rw [et]; simp)
  have hf := find_par x (S ": ") (by rw [et]; simp)
  have he := par_some _ _ _ _ h
  rw [List.nil_append] at he
  rw [et, h] at hp hf
  simp only at hp hf
  have hx1 := hx.1
  have hxl := len_tl x
  have hl := congrArg List.length he
  rw [List.length_append, List.length_append] at hl
  simp only [List.length_cons, List.length_nil] at hl
  have la : (ofL a).length = a.length := by rw [len_tl, tl_ofL]
  have lb : (ofL b).length = b.length := by rw [len_tl, tl_ofL]
  refine ⟨(a.length : Int), by omega, by rw [la], ?_, ?_, ?_, ?_, ?_, ?_, ?_⟩
  · show some (PyData.int (Txt.find x (S ": "))) = _
    rw [hf]
  · show (if _ then _ else _) = _
    rw [if_pos ⟨by decide +kernel, show _ ≤ sizeLine by simp only [sizeLine]; omega⟩, hp]
    rfl
  · rw [slD_str, if_pos (show _ ≤ sizeLine by simp only [sizeLine]; omega)]
    congr 2
    refine str_ext ?_
    rw [tl_take _ _ (by omega), tl_ofL, he, Int.toNat_natCast, List.take_left]
  · rw [slD_str, if_pos (show _ ≤ sizeLine by simp only [sizeLine]; omega)]
    congr 2
    refine str_ext ?_
    have e2 : ((a.length : Int) + 2).toNat = a.length + 2 := by omega
    rw [tl_drop _ _ (by omega), tl_ofL, he, e2, ← List.append_assoc]
    exact List.drop_left' (by simp)
  · exact ⟨by omega, fun c hc => hx.2 c (by rw [he]; rw [tl_ofL] at hc; exact List.mem_append_left _ hc)⟩
  · exact ⟨by omega, fun c hc => hx.2 c (by rw [he]; rw [tl_ofL] at hc; exact List.mem_append_right _ (List.mem_append_right _ hc))⟩
  · refine str_ext ?_
    rw [tl_append, tl_append, tl_ofL, tl_ofL, et, he, List.append_assoc]
theorem lw_key {x s A : Str} {M : Int} (hA : Ft A) : ∃ BL, lcRun (put 5) (fun ρ => R.ok true ρ) ce__law_wish_of_0 [5] (chars A) [] [.d (.str x), .d (.str s), .d (.int M), .no, .no, .no] = .ok BL [.d (.str x), .d (.str s), .d (.int M), .no, .no, .no] ∧ allD [.list BL] = some (.bool (decide (∀ c ∈ tl A, c ∈ tl abc))) := by
  have hA1 := hA.1
  have keyA : lcRun (put 5) (fun ρ => R.ok true ρ) ce__law_wish_of_0 [5] (chars A) [] [.d (.str x), .d (.str s), .d (.int M), .no, .no, .no] = .ok ([] ++ (chars A).map fun x => .bool (inTx abc x)) [.d (.str x), .d (.str s), .d (.int M), .no, .no, .no] := by
    refine lc_map _ (fun y hy => ?_) ?_
    · obtain ⟨c, hc, rfl⟩ := List.mem_map.mp hy
      refine ⟨[.d (.str x), .d (.str s), .d (.int M), .no, .no, .d (.str ⟨#[c]⟩)], [.d (.str x), .d (.str s), .d (.int M), .no, .no, .d (.str ⟨#[c]⟩)], [.d (.str x), .d (.str s), .d (.int M), .no, .no, .d (.str ⟨#[c]⟩)], by simp [put_eq], rfl, ?_, by simp⟩
      simp [ce__law_wish_of_0, inD, inB, inTx]
    · have : (chars A).length = A.length := by simp [chars, len_tl]
      simp [sizeLine]
      omega
  have ea := boolsD_all (inTx abc) (chars A)
  rw [chars_all] at ea
  exact ⟨_, by rw [keyA, List.nil_append], ea⟩
theorem nameB_iff (A : Str) : nameB (.str A) = (decide (1 ≤ (A.length : Int)) && (decide ((A.length : Int) ≤ 8) && decide (∀ c ∈ tl A, c ∈ tl abc))) := rfl
theorem wp_name {s x A B : Str} {M : Int} (P : Parted x A B M) (hn : nameB (.str A) = false) : m_wish_in [.d (.str s), .d (.str x)] = .ok (.d .none) [.d (.str s), .d (.str x)] ∧ m__law_wish_of [.d (.str x), .d (.str s)] = .ok (.d .none) [.d (.str x), .d (.str s)] := by
  obtain ⟨h0, ml, fd, pa, sa, sb, fa, fb, _⟩ := P
  have ha := fa.1
  have mn := m_isname (.str A) (by simp only [okP, decide_eq_true_eq]; omega)
  rw [hn] at mn
  have hne : ¬ (S ": " = S "") := by decide +kernel
  refine ⟨by simp [m_wish_in, gOf, w_wish_in, pa, put_eq, hne, mn, -partD_str], ?_⟩
  rw [nameB_iff, ← ml] at hn
  obtain ⟨BL, key, hal⟩ := lw_key (x := x) (s := s) (M := M) fa
  clear ml mn
  by_cases h1 : 1 ≤ M
  · by_cases h8 : M ≤ 8
    · rw [decide_eq_true h1, decide_eq_true h8, Bool.true_and, Bool.true_and] at hn
      rw [hn] at hal
      simp [m__law_wish_of, gOf, w__law_wish_of, fd, put_eq, h1, h8, sa, key, hal, -slD_str, -allD_list, -findD_str]
    · simp [m__law_wish_of, gOf, w__law_wish_of, fd, put_eq, h1, h8, -findD_str]
  · simp [m__law_wish_of, gOf, w__law_wish_of, fd, put_eq, h1, -findD_str]
end Lw
namespace Lw
open PySem PySem.Spec L2 Evl Dt
open TL (tl joinL tl_join tl_ofString join_eq tl_append len_tl spl par pre)
theorem split_len {x y : Str} (hy : tl y ≠ []) (hk : y.cps.all (· < 256) = true) : (Txt.split x y).length ≤ x.length + 1 ∧ ∀ z ∈ Txt.split x y, z.length ≤ x.length := by
  have e := split_ofL x y hy hk
  obtain ⟨h1, h2, h3⟩ := join_spl hy (tl x).length (tl x) [] (Nat.le_refl _)
  have hl := len_tl x
  refine ⟨?_, ?_⟩
  · rw [e, List.length_map]; omega
  · intro z hz
    rw [e] at hz
    obtain ⟨p, hp, rfl⟩ := List.mem_map.mp hz
    obtain ⟨g1, g2⟩ := jl_mem (tl y) _ p hp
    rw [h2, List.nil_append] at g1
    rw [len_tl, tl_ofL]
    omega
theorem Parted.len {x A B : Str} {M : Int} (hx : Ft x) (P : Parted x A B M) : B.length ≤ 998 := by
  have h := congrArg (fun z : Str => z.length) P.eq
  simp only [apl] at h
  have h2 : (S ": ").length = 2 := by decide +kernel
  have := hx.1
  omega
def rdL (s B : Str) : List Pd := (Txt.split B (S ", ")).map fun z => patR s (Txt.split z (S " "))
theorem rdL_facts {s B : Str} (hB : Ft B) : (∀ x ∈ rdL s B, sh 59 x = true) ∧ (rdL s B).length ≤ 1001 ∧ splitD (.str B) [.str (S ", ")] = some (.list ((Txt.split B (S ", ")).map PyData.str)) ∧ (∀ z ∈ Txt.split B (S ", "), Ft z) ∧ (Txt.split B (S ", ")).length ≤ 1001 := by
  have et : tl (S ", ") = [44, 32] := by decide +kernel
  have et3 : tl (S " ") = [32] := by decide +kernel
  obtain ⟨_, hl, _, hf⟩ := split_facts (x := B) (y := S ", ") (by rw [et]; simp) (by decide +kernel) hB
  have hB1 := hB.1
  refine ⟨?_, ?_, ?_, hf, hl⟩
  · intro x hx
    obtain ⟨z, hz, rfl⟩ := List.mem_map.mp hx
    obtain ⟨_, _, _, g⟩ := split_facts (x := z) (y := S " ") (by rw [et3]; simp) (by decide +kernel) (hf z hz)
    exact patR_sh fun u hu => (g u hu).fit
  · unfold rdL
    rw [List.length_map]
    exact hl
  · rw [splitD_str, if_pos ⟨by decide +kernel, show _ ≤ sizeLine by simp only [sizeLine]; omega⟩]
theorem wi_pats {s x A B : Str} {M : Int} (hs : SgOk s) (hx : Ft x) (P : Parted x A B M) (hn : nameB (.str A) = true) : m_wish_in [.d (.str s), .d (.str x)] = .ok (.d (pick (!(rdL s B).any isNon) (.tuple [.str A, .tuple (rdL s B)]))) [.d (.str s), .d (.str x)] := by
  have hB := P.len hx
  obtain ⟨h0, ml, fd, pa, sa, sb, fa, fb, _⟩ := P
  have ha := fa.1
  have l3 := hs.l3
  have hsl := len_tl s
  have mn := m_isname (.str A) (by simp only [okP, decide_eq_true_eq]; omega)
  rw [hn] at mn
  have hne : ¬ (S ": " = S "") := by decide +kernel
  have et3 : tl (S " ") = [32] := by decide +kernel
  have et2 : tl (S ", ") = [44, 32] := by decide +kernel
  obtain ⟨h59, hL, esp, hf, hl⟩ := rdL_facts (s := s) fb
  have key := lc_mapM (h := put 6) (fe := ce_wish_in_0) (vs := [6]) (fun z : Str => PyData.str z) (fun z => patR s (Txt.split z (S " "))) (ρ := [.d (.str s), .d (.str x), .d (.str A), .d (.str (S ": ")), .d (.str B), .no, .no]) (l := Txt.split B (S ", ")) (fun z hz => by
    obtain ⟨g1, g2, _, g4⟩ := split_facts (x := z) (y := S " ") (by rw [et3]; simp) (by decide +kernel) (hf z hz)
    have k1 := (split_len (x := B) (y := S ", ") (by rw [et2]; simp) (by decide +kernel)).2 z hz
    have k2 := (split_len (x := z) (y := S " ") (by rw [et3]; simp) (by decide +kernel)).1
    have ms := m_patany (s := s) (x := z) (by omega) (hf z hz).1 rfl g1 (by omega) (fun u hu => (g4 u hu).fit)
    refine ⟨[.d (.str s), .d (.str x), .d (.str A), .d (.str (S ": ")), .d (.str B), .no, .d (.str z)], [.d (.str s), .d (.str x), .d (.str A), .d (.str (S ": ")), .d (.str B), .no, .d (.str z)], by simp [put_eq], ?_, by simp⟩
    generalize patR s (Txt.split z (S " ")) = PR at *
    simp [ce_wish_in_0, ms]) (by omega)
  have hno := (none_inT h59).1
  have e0 : (Txt.split B (S ", ")).map (fun z => patR s (Txt.split z (S " "))) = rdL s B := rfl
  rw [e0] at key
  clear e0
  generalize rdL s B = L at *
  generalize (Txt.split B (S ", ")).map PyData.str = KD at *
  generalize L.any isNon = BB at *
  clear hf
  cases BB with
  | true => simp [m_wish_in, gOf, w_wish_in, pa, put_eq, hne, mn, esp, key, hno, sizeLine, pick, -splitD_str, -partD_str]
  | false => simp [m_wish_in, gOf, w_wish_in, pa, put_eq, hne, mn, esp, key, hno, sizeLine, pick, -splitD_str, -partD_str]
theorem lw_pats {s x A B : Str} {M : Int} (hs : SgOk s) (hx : Ft x) (P : Parted x A B M) (hn : nameB (.str A) = true) : m__law_wish_of [.d (.str x), .d (.str s)] = .ok (.d (pick (!(rdL s B).any isNon && decide ((rdL s B).length ≤ 3)) (.tuple [.str A, .tuple (rdL s B)]))) [.d (.str x), .d (.str s)] := by
  have hB := P.len hx
  obtain ⟨h0, ml, fd, pa, sa, sb, fa, fb, _⟩ := P
  have ha := fa.1
  have l3 := hs.l3
  have hsl := len_tl s
  rw [nameB_iff, ← ml, Bool.and_eq_true, Bool.and_eq_true, decide_eq_true_eq, decide_eq_true_eq] at hn
  obtain ⟨h1, h8, hal⟩ := hn
  obtain ⟨BL, key0, hall⟩ := lw_key (x := x) (s := s) (M := M) fa
  rw [hal] at hall
  obtain ⟨h59, hL, esp, hf, hl⟩ := rdL_facts (s := s) fb
  have key := lc_mapM (h := put 4) (fe := ce__law_wish_of_1) (vs := [4]) (fun z : Str => PyData.str z) (fun z => patR s (Txt.split z (S " "))) (ρ := [.d (.str x), .d (.str s), .d (.int M), .no, .no, .no]) (l := Txt.split B (S ", ")) (fun z hz => by
    have ms := m_lpat (s := s) (by omega) (hf z hz)
    refine ⟨[.d (.str x), .d (.str s), .d (.int M), .no, .d (.str z), .no], [.d (.str x), .d (.str s), .d (.int M), .no, .d (.str z), .no], by simp [put_eq], ?_, by simp⟩
    generalize patR s (Txt.split z (S " ")) = PR at *
    simp [ce__law_wish_of_1, ms]) (by omega)
  have hno := (none_inT h59).2
  have e0 : (Txt.split B (S ", ")).map (fun z => patR s (Txt.split z (S " "))) = rdL s B := rfl
  rw [e0] at key
  clear e0
  have hlen : lenD [.list (rdL s B)] = some (.int ((rdL s B).length : Int)) := rfl
  have hdec : decide ((rdL s B).length ≤ 3) = !decide (3 < ((rdL s B).length : Int)) := by
    by_cases h : (rdL s B).length ≤ 3
    · have : ¬ (3 < ((rdL s B).length : Int)) := by omega
      simp [h, this]
    · have : 3 < ((rdL s B).length : Int) := by omega
      simp [h, this]
  rw [hdec]
  clear hdec hal ml
  have htu : tupleA [.list (rdL s B)] = some (.tuple (rdL s B)) := rfl
  have M1 : (-4611686018427387904 : Int) ≤ M + 2 ∧ M + 2 < 4611686018427387904 := by omega
  generalize rdL s B = L at *
  generalize (Txt.split B (S ", ")).map PyData.str = KD at *
  generalize L.any isNon = BB at *
  generalize (L.length : Int) = LL at *
  clear hf
  cases BB with
  | true => simp [m__law_wish_of, gOf, w__law_wish_of, fd, put_eq, h1, h8, sa, sb, key0, hall, esp, key, hno, pick, -slD_str, -allD_list, -findD_str, -splitD_str]
  | false =>
    by_cases h3 : 3 < LL
    · simp [m__law_wish_of, gOf, w__law_wish_of, fd, put_eq, h1, h8, sa, sb, key0, hall, esp, key, hno, hlen, h3, pick, -slD_str, -allD_list, -findD_str, -splitD_str, -lenD_list]
    · simp [m__law_wish_of, gOf, w__law_wish_of, fd, put_eq, h1, h8, sa, sb, key0, hall, esp, key, hno, hlen, h3, htu, sizeLine, pick, -slD_str, -allD_list, -findD_str, -splitD_str, -lenD_list]
/-- a row, read by the program and by the law -/
inductive RowR (s x : Str) : Prop
  | no (a : m_wish_in [.d (.str s), .d (.str x)] = .ok (.d .none) [.d (.str s), .d (.str x)]) (b : m__law_wish_of [.d (.str x), .d (.str s)] = .ok (.d .none) [.d (.str x), .d (.str s)])
  | long (d : Pd) (n : isNon d = false) (o : okWish d = true) (f : wishB s d = false) (a : m_wish_in [.d (.str s), .d (.str x)] = .ok (.d d) [.d (.str s), .d (.str x)]) (b : m__law_wish_of [.d (.str x), .d (.str s)] = .ok (.d .none) [.d (.str x), .d (.str s)])
  | wish (w : Wish) (hw : w.Ok s) (e : wishS w = x) (a : m_wish_in [.d (.str s), .d (.str x)] = .ok (.d w.d) [.d (.str s), .d (.str x)]) (b : m__law_wish_of [.d (.str x), .d (.str s)] = .ok (.d w.d) [.d (.str x), .d (.str s)])
theorem row_read {s x : Str} (hs : SgOk s) (hx : Ft x) : RowR s x := by
  cases hp : par [58, 32] [] (tl x) with
  | none =>
    obtain ⟨a, b⟩ := wp_no (s := s) hx hp
    exact .no a b
  | some ab =>
    obtain ⟨M, P⟩ := parted_of hx (a := ab.1) (b := ab.2) hp
    generalize ofL ab.1 = A at P
    generalize ofL ab.2 = B at P
    cases hn : nameB (.str A) with
    | false =>
      obtain ⟨a, b⟩ := wp_name (s := s) P hn
      exact .no a b
    | true =>
      have a := wi_pats hs hx P hn
      have b := lw_pats hs hx P hn
      have fb := P.fb
      have hA := P.fa.1
      have hB := P.len hx
      obtain ⟨h59, hL, esp, hf, hl⟩ := rdL_facts (s := s) fb
      have et2 : tl (S ", ") = [44, 32] := by decide +kernel
      obtain ⟨hne, _, hj, _⟩ := split_facts (x := B) (y := S ", ") (by rw [et2]; simp) (by decide +kernel) fb
      have hk1 := (split_len (x := B) (y := S ", ") (by rw [et2]; simp) (by decide +kernel)).1
      rcases rd_pats hs (Txt.split B (S ", ")) hf with h | ⟨ps, h1, h2, h3⟩
      · have h' : (rdL s B).any isNon = true := h
        rw [h'] at a b
        exact .no a b
      · have h2' : rdL s B = ps.map Pat.d := h2
        have hany : (rdL s B).any isNon = false := by rw [h2']; exact pats_any (s := s)
        rw [hany] at a b
        rw [h2'] at a b
        have hlp : ps.length = (Txt.split B (S ", ")).length := by rw [← h3, List.length_map]
        by_cases h4 : ps.length ≤ 3
        · rw [decide_eq_true (show (ps.map Pat.d).length ≤ 3 by rw [List.length_map]; exact h4)] at b
          have hnm : nameL (tl A) := by
            rw [nameB_iff, Bool.and_eq_true, Bool.and_eq_true, decide_eq_true_eq, decide_eq_true_eq, decide_eq_true_eq] at hn
            have := len_tl A
            exact ⟨by omega, by omega, fun c hc => (mem_abc c).mp (hn.2.2 c hc)⟩
          have hne' : 1 ≤ ps.length := by
            rw [hlp]
            cases hq : Txt.split B (S ", ") with
            | nil => exact absurd hq hne
            | cons _ _ => simp
          refine .wish ⟨A, ps⟩ ⟨hnm, hne', h4, h1⟩ ?_ a b
          show A ++ S ": " ++ Txt.join (S ", ") (ps.map patS) = x
          rw [h3, hj]
          exact P.eq
        · rw [decide_eq_false (show ¬ (ps.map Pat.d).length ≤ 3 by rw [List.length_map]; exact h4)] at b
          refine .long (.tuple [.str A, .tuple (ps.map Pat.d)]) rfl ?_ ?_ a b
          · show (okP (.str A) && (ps.map Pat.d).all okCnt) = true
            rw [Bool.and_eq_true]
            refine ⟨by simp only [okP, decide_eq_true_eq]; omega, ?_⟩
            rw [List.all_map, List.all_eq_true]
            exact fun p hp => (pat_facts hs (h1 p hp)).1
          · show (nameB (.str A) && (decide (1 ≤ ((ps.map Pat.d).length : Int)) && (decide (((ps.map Pat.d).length : Int) ≤ 3) && (ps.map Pat.d).all (cntB s)))) = false
            rw [decide_eq_false (show ¬ ((ps.map Pat.d).length : Int) ≤ 3 by rw [List.length_map]; omega), Bool.false_and, Bool.and_false, Bool.and_false]
end Lw
namespace Lw
open PySem PySem.Spec L2 Evl Dt
open TL (tl joinL tl_join tl_ofString join_eq tl_append len_tl spl par pre)
abbrev noP (P : Pd) : XD := ⟨"NoText", some [("part", P)]⟩
theorem for_ex {h : Pd → Rho → Option Rho} {fb : Rho → R Fl} {x : Pd} {xs : List Pd} {ρ ρ1 ρ2 : Rho} {e : XD} (e1 : h x ρ = some ρ1) (e2 : fb ρ1 = .ex e ρ2) : forRun h fb (x :: xs) ρ = .ex e ρ2 := by
  rw [forRun_cons, e1]
  simp only
  rw [e2]
theorem nums_succ (i : Int) (n : Nat) : nums i (n + 1) = .int i :: nums (i + 1) n := by
  unfold nums
  rw [List.range_succ_eq_map, List.map_cons, List.map_map]
  congr 1
  · congr 1
    omega
  · refine List.map_congr_left fun k _ => ?_
    show PyData.int (i + ((k + 1 : Nat) : Int)) = .int (i + 1 + (k : Int))
    congr 1
    omega
/-! ### read_code, row by row -/
abbrev R8 (T : Pd) (R : List Pd) (f g s : Str) (W : List Pd) (s6 s7 : Sl) : Rho := [.d T, .d (.list R), .d (.str f), .d (.str g), .d (.str s), .d (.tuple W), s6, s7]
theorem read_row {s : Str} (hs : SgOk s) (T : Pd) (R : List Pd) (f g : Str) {ws : List Wish} {w : Wish} (h5 : ws.length < 5) (hw : ∀ u ∈ ws ++ [w], u.Ok s) (hn : ((ws ++ [w]).map Wish.n).Nodup) (k : Nat) (hk : R[k]? = some (.str (wishS w))) {s7 : Sl} (i7 : isIo s7 = false) :
    fb_read_code_0 (R8 T R f g s (ws.map Wish.d) (.d (.int k)) s7) = .ok .nx (R8 T R f g s ((ws ++ [w]).map Wish.d) (.d (.int k)) (.d w.d)) := by
  have l3 := hs.l3
  have hsl := len_tl s
  have mw := m_wishin hs (hw w (by simp))
  obtain ⟨f1, f2⟩ := wishes_facts hs (ws := ws ++ [w]) (by simp) (by simp; omega) hw hn
  have ma := m_arewishes (s := s) (by omega) _ f1
  rw [f2] at ma
  have ei : ixD (.list R) (.int (k : Int)) = some (.str (wishS w)) := atN hk
  have em : (ws ++ [w]).map Wish.d = ws.map Wish.d ++ [w.d] := by simp
  rw [em] at ma ⊢
  have ea : addD (.tuple (ws.map Wish.d)) (.tuple [w.d]) = some (.tuple (ws.map Wish.d ++ [w.d])) := by
    rw [addD_tuple, if_pos (show _ ≤ sizeLine by simp only [sizeLine, List.length_map, List.length_cons, List.length_nil]; omega)]
  have en : isNoneD w.d .none = some (.bool false) := rfl
  clear em
  generalize ws.map Wish.d ++ [w.d] = W2 at *
  generalize ws.map Wish.d = W1 at *
  generalize w.d = WD at *
  generalize wishS w = TX at *
  generalize ((k : Nat) : Int) = M at *
  unfold R8
  simp [fb_read_code_0, ei, mw, put_eq, i7, en, sizeLine, ea, ma, -ixD_list, -addD_tuple]
/-- a row at fault behind such wishes -/
def Bad (s : Str) (ws : List Wish) (r : Str) : Prop := m_wish_in [.d (.str s), .d (.str r)] = .ok (.d .none) [.d (.str s), .d (.str r)] ∨
  ∃ x : Pd, isNon x = false ∧ m_wish_in [.d (.str s), .d (.str r)] = .ok (.d x) [.d (.str s), .d (.str r)] ∧ m_are_wishes [.d (.str s), .d (.tuple (ws.map Wish.d ++ [x]))] = .ok (.d (.bool false)) [.d (.str s), .d (.tuple (ws.map Wish.d ++ [x]))]
theorem bad_row {s r : Str} {ws : List Wish} (T : Pd) (R : List Pd) (f g : Str) (h5 : ws.length ≤ 5) (hb : Bad s ws r) (k : Nat) (hk : R[k]? = some (.str r)) {s7 : Sl} (i7 : isIo s7 = false) :
    ∃ ρ', fb_read_code_0 (R8 T R f g s (ws.map Wish.d) (.d (.int k)) s7) = .ex (noP (.int k)) ρ' := by
  have ei : ixD (.list R) (.int (k : Int)) = some (.str r) := atN hk
  rcases hb with mw | ⟨x, hx, mw, ma⟩
  · have en : isNoneD .none .none = some (.bool true) := rfl
    generalize ws.map Wish.d = W1 at *
    generalize ((k : Nat) : Int) = M at *
    unfold R8
    exact ⟨_, by simp [fb_read_code_0, ei, mw, put_eq, i7, en, -ixD_list]; rfl⟩
  · have en : isNoneD x .none = some (.bool false) := by show some (PyData.bool (isNon x)) = _; rw [hx]
    have ea : addD (.tuple (ws.map Wish.d)) (.tuple [x]) = some (.tuple (ws.map Wish.d ++ [x])) := by
      rw [addD_tuple, if_pos (show _ ≤ sizeLine by simp only [sizeLine, List.length_map, List.length_cons, List.length_nil]; omega)]
    generalize ws.map Wish.d ++ [x] = W2 at *
    generalize ws.map Wish.d = W1 at *
    generalize ((k : Nat) : Int) = M at *
    unfold R8
    exact ⟨_, by simp [fb_read_code_0, ei, mw, put_eq, i7, en, sizeLine, ea, ma, -ixD_list, -addD_tuple]; rfl⟩
/-! ### the law's reading, row by row -/
abbrev L7 (T : Pd) (R : List Pd) (s : Str) (W : List Pd) (s4 s5 : Sl) : Rho := [.d T, .d (.list R), .d (.str s), .own false W, s4, s5, .no]
abbrev noneP (k : Int) : Pd := .tuple [.str (S "none"), .int k]
theorem law_no {s r : Str} (T : Pd) (R W : List Pd) (mw : m__law_wish_of [.d (.str r), .d (.str s)] = .ok (.d .none) [.d (.str r), .d (.str s)]) (k : Nat) (hk : R[k]? = some (.str r)) {s5 : Sl} (i5 : isIo s5 = false) :
    ∃ ρ', fb__law_reading_0 (L7 T R s W (.d (.int k)) s5) = .ok (.rt (noneP k)) ρ' := by
  have ei : ixD (.list R) (.int (k : Int)) = some (.str r) := atN hk
  have en : isNoneD .none .none = some (.bool true) := rfl
  generalize ((k : Nat) : Int) = M at *
  unfold L7
  exact ⟨_, by simp [fb__law_reading_0, ei, mw, put_eq, i5, en, sizeLine, -ixD_list]; rfl⟩
theorem law_names {s : Str} {T : Pd} {R : List Pd} {k : Int} {ws : List Wish} (h5 : ws.length ≤ 5) {x : Pd} : fLcO 3 (put 6) (fun ρ => .ok true ρ) ce__law_reading_1 [6] (L7 T R s (ws.map Wish.d) (.d (.int k)) (.d x)) = .ok ((ws.map Wish.n).map PyData.str) (L7 T R s (ws.map Wish.d) (.d (.int k)) (.d x)) := by
  have := fLcO_map (i0 := 3) (h := put 6) (fe := ce__law_reading_1) (vs := [6]) (b := false) (xs := ws.map Wish.d) (fun d => .str (nmD d)) (ρ := L7 T R s (ws.map Wish.d) (.d (.int k)) (.d x)) rfl rfl (by rw [List.length_map]; omega) rfl (fun d hd => by
    obtain ⟨w, hw, rfl⟩ := List.mem_map.mp hd
    have ei : ixD w.d (.int 0) = some (.str (nmD w.d)) := by
      show atI _ 0 = _
      rw [at0]
      rfl
    refine ⟨[.d T, .d (.list R), .d (.str s), .own false (ws.map Wish.d), .d (.int k), .d x, .d w.d], [.d T, .d (.list R), .d (.str s), .own false (ws.map Wish.d), .d (.int k), .d x, .d w.d], ?_, ?_, ?_⟩
    · unfold L7
      simp [put_eq]
    · generalize w.d = WD at *
      generalize ws.map Wish.d = W1 at *
      simp [ce__law_reading_1, ei]
    · unfold L7
      simp)
  rw [this, List.map_map, List.map_map]
  rfl
theorem law_wish {s r : Str} (T : Pd) (R : List Pd) {ws : List Wish} {w : Wish} (h5 : ws.length ≤ 5) (mw : m__law_wish_of [.d (.str r), .d (.str s)] = .ok (.d w.d) [.d (.str r), .d (.str s)]) (k : Nat) (hk : R[k]? = some (.str r)) {s5 : Sl} (i5 : isIo s5 = false) :
    ((ws.length = 5 ∨ w.n ∈ ws.map Wish.n) → ∃ ρ', fb__law_reading_0 (L7 T R s (ws.map Wish.d) (.d (.int k)) s5) = .ok (.rt (noneP k)) ρ') ∧
    (¬ (ws.length = 5 ∨ w.n ∈ ws.map Wish.n) → fb__law_reading_0 (L7 T R s (ws.map Wish.d) (.d (.int k)) s5) = .ok .nx (L7 T R s ((ws ++ [w]).map Wish.d) (.d (.int k)) (.d w.d))) := by
  have ei : ixD (.list R) (.int (k : Int)) = some (.str r) := atN hk
  have en : isNoneD w.d .none = some (.bool false) := rfl
  have e0 : ixD w.d (.int 0) = some (.str w.n) := by
    show atI _ 0 = _
    rw [at0]
  have hin := inD_strs w.n (ws.map Wish.n)
  have key := law_names (s := s) (T := T) (R := R) (k := (k : Int)) (x := w.d) h5
  have hl : lenD [.list (ws.map Wish.d)] = some (.int (ws.length : Int)) := by rw [lenD_list, List.length_map]
  have em : (ws ++ [w]).map Wish.d = ws.map Wish.d ++ [w.d] := by simp
  have z : (ws.map Wish.d).length < 16777216 := by rw [List.length_map]; omega
  have z2 : (ws.map Wish.d).length + 1 ≤ 16777216 := by rw [List.length_map]; omega
  have z3 : (ws.map Wish.d).length ≤ 16777216 := by rw [List.length_map]; omega
  rw [em]
  by_cases hfive : ws.length = 5
  · have hl' : (ws.length : Int) = 5 := by omega
    rw [hl'] at hl
    refine ⟨fun _ => ?_, fun h => absurd (.inl hfive) h⟩
    unfold L7
    clear em
    generalize ws.map Wish.d = W1 at *
    generalize w.d = WD at *
    generalize ((k : Nat) : Int) = M at *
    exact ⟨_, by simp [fb__law_reading_0, ei, mw, put_eq, i5, en, hl, z3, sizeLine, -ixD_list, -lenD_list]; rfl⟩
  · have hl' : ¬ ((ws.length : Int) = 5) := by omega
    by_cases hm : w.n ∈ ws.map Wish.n
    · refine ⟨fun _ => ?_, fun h => absurd (.inr hm) h⟩
      rw [decide_eq_true hm] at hin
      clear hm em
      unfold L7 at *
      generalize (ws.map Wish.n).map PyData.str = NL at *
      generalize ws.map Wish.d = W1 at *
      generalize (ws.length : Int) = LL at *
      generalize w.d = WD at *
      generalize ((k : Nat) : Int) = M at *
      exact ⟨_, by simp [fb__law_reading_0, ei, mw, put_eq, i5, en, hl, hl', z3, e0, key, hin, sizeLine, -ixD_list, -lenD_list]; rfl⟩
    · refine ⟨fun h => (h.elim hfive hm).elim, fun _ => ?_⟩
      rw [decide_eq_false hm] at hin
      clear hm em
      unfold L7 at *
      generalize (ws.map Wish.n).map PyData.str = NL at *
      generalize ws.map Wish.d = W1 at *
      generalize (ws.length : Int) = LL at *
      generalize w.d = WD at *
      generalize ((k : Nat) : Int) = M at *
      simp [fb__law_reading_0, ei, mw, put_eq, i5, en, hl, hl', z3, e0, key, hin, sizeLine, z, z2, -ixD_list, -lenD_list]
/-! ### the whole -/
def rdProg (g : Rho → R AV) : Rho → R Fl :=
  (fSeq (fIfS (fNot (fTest (f1 (isiD "str") (fVar 0)))) (fRaiseP "NoText" "part" (fC .none)) fNx)
  (fSeq (fAsg (fM1 splitD (fVar 0) (fC (.str "\n"))) (put 1))
  (fSeq (fAsg (fM1 partD (f2 ixD (fVar 1) (fC (.int 0))) (fC (.str " "))) (putTup 3 (putCons (put 2) (putCons (put 3) (putCons (put 4) putNil)))))
  (fSeq (fIfS (fOr (fTest (f2 neD (fVar 2) (fC (.str "signs")))) (fOr (fTest (f2 eqD (fVar 3) (fC (.str "")))) (fNot (fTest (fCall 1 m_are_signs (fCons (fVar 4) fNil)))))) (fRaiseP "NoText" "part" (fC (.int 0))) fNx)
  (fSeq (fAsg (fTup fNil) (put 5))
  (fSeq (fFor (fRng2 (fCons (fC (.int 1)) (fCons g fNil))) (put 6) fb_read_code_0)
  (fSeq (fIfS (fTest (f2 eqD (fVar 5) (fTup fNil))) (fRaiseP "NoText" "part" (fC (.int 1))) fNx)
  (fRet (fTup (fCons (fVar 4) (fCons (fVar 5) fNil)))))))))))
theorem rd_eq : m_read_code = gOf 8 (rdProg (fCB lenD (fCons (fVar 1) fNil))) := rfl
section
variable {TX s SS : Str} {RR WD : List Pd} {M : Int} {s6 s7 : Sl} {g : Rho → R AV}
theorem read_fin (esp : splitD (.str TX) [.str (S "\n")] = some (.list RR)) (hix : ixD (.list RR) (.int 0) = some (.str SS)) (epa : partD (.str SS) [.str (S " ")] = some (.tuple [.str (S "signs"), .str (S " "), .str s])) (msg : m_are_signs [.d (.str s)] = .ok (.d (.bool true)) [.d (.str s)])
    (hg : g (R8 (.str TX) RR (S "signs") (S " ") s [] .no .no) = .ok (.d (.int M)) (R8 (.str TX) RR (S "signs") (S " ") s [] .no .no)) (hr : (-4611686018427387904 : Int) ≤ M ∧ M < 4611686018427387904)
    (e : forRun (put 6) fb_read_code_0 (nums 1 (M.toNat - 1)) (R8 (.str TX) RR (S "signs") (S " ") s [] .no .no) = .ok .nx (R8 (.str TX) RR (S "signs") (S " ") s WD s6 s7)) (ewn : eqD (.tuple WD) (.tuple []) = some (.bool false)) : gOf 8 (rdProg g) [.d (.str TX)] = .ok (.d (.tuple [.str s, .tuple WD])) [.d (.str TX)] := by
  have hne : ¬ (S " " = S "") := by decide +kernel
  unfold R8 at e hg
  simp [gOf, rdProg, isStrD, esp, put_eq, hix, epa, hne, msg, sizeLine, hg, hr.1, hr.2, e, ewn, -splitD_str, -partD_str, -ixD_list]
theorem read_finX {P : Pd} {ρ' : Rho} (esp : splitD (.str TX) [.str (S "\n")] = some (.list RR)) (hix : ixD (.list RR) (.int 0) = some (.str SS)) (epa : partD (.str SS) [.str (S " ")] = some (.tuple [.str (S "signs"), .str (S " "), .str s])) (msg : m_are_signs [.d (.str s)] = .ok (.d (.bool true)) [.d (.str s)])
    (hg : g (R8 (.str TX) RR (S "signs") (S " ") s [] .no .no) = .ok (.d (.int M)) (R8 (.str TX) RR (S "signs") (S " ") s [] .no .no)) (hr : (-4611686018427387904 : Int) ≤ M ∧ M < 4611686018427387904)
    (e : forRun (put 6) fb_read_code_0 (nums 1 (M.toNat - 1)) (R8 (.str TX) RR (S "signs") (S " ") s [] .no .no) = .ex (noP P) ρ') : ∃ as, gOf 8 (rdProg g) [.d (.str TX)] = .ex (noP P) as := by
  have hne : ¬ (S " " = S "") := by decide +kernel
  unfold R8 at e hg
  exact ⟨_, by simp [gOf, rdProg, isStrD, esp, put_eq, hix, epa, hne, msg, sizeLine, hg, hr.1, hr.2, e, -splitD_str, -partD_str, -ixD_list]; rfl⟩
/-- the first row at fault -/
theorem read_0 {a b c : Str} (esp : splitD (.str TX) [.str (S "\n")] = some (.list RR)) (hix : ixD (.list RR) (.int 0) = some (.str SS)) (epa : partD (.str SS) [.str (S " ")] = some (.tuple [.str a, .str b, .str c])) (h : a ≠ S "signs" ∨ b = S "" ∨ (c.length ≤ 1000 ∧ signsB (.str c) = false)) : ∃ as, m_read_code [.d (.str TX)] = .ex (noP (.int 0)) as := by
  by_cases ha : a = S "signs"
  · by_cases hb : b = S ""
    · exact ⟨_, by simp [m_read_code, gOf, w_read_code, isStrD, esp, put_eq, hix, epa, ha, hb, -splitD_str, -partD_str, -ixD_list]; rfl⟩
    · have hc : c.length ≤ 1000 ∧ signsB (.str c) = false := by
        rcases h with h | h | h
        · exact absurd ha h
        · exact absurd h hb
        · exact h
      have msg := m_aresigns (.str c) (by simp only [okP, decide_eq_true_eq]; omega)
      rw [hc.2] at msg
      exact ⟨_, by simp [m_read_code, gOf, w_read_code, isStrD, esp, put_eq, hix, epa, ha, hb, msg, -splitD_str, -partD_str, -ixD_list]; rfl⟩
  · exact ⟨_, by simp [m_read_code, gOf, w_read_code, isStrD, esp, put_eq, hix, epa, ha, -splitD_str, -partD_str, -ixD_list]; rfl⟩
end
end Lw
namespace Lw
open PySem PySem.Spec L2 Evl Dt
open TL (tl joinL tl_join tl_ofString join_eq tl_append len_tl spl par pre)
theorem okws {s : Str} (hs : SgOk s) {ws : List Wish} (hw : ∀ w ∈ ws, w.Ok s) {x : Pd} (hx : okWish x = true) : okWishes (.tuple (ws.map Wish.d ++ [x])) = true := by
  show (ws.map Wish.d ++ [x]).all okWish = true
  rw [List.all_append, List.all_map, Bool.and_eq_true, List.all_eq_true]
  refine ⟨fun w hw' => (wish_facts hs (hw w hw')).1, ?_⟩
  rw [List.all_cons, hx]
  rfl
theorem bad_of {s r : Str} (hs : SgOk s) {ws : List Wish} (hw : ∀ w ∈ ws, w.Ok s) {x : Pd} (hn : isNon x = false) (hx : okWish x = true) (mw : m_wish_in [.d (.str s), .d (.str r)] = .ok (.d x) [.d (.str s), .d (.str r)]) (hf : wishesB s (.tuple (ws.map Wish.d ++ [x])) = false) : Bad s ws r := by
  have l3 := hs.l3
  have hsl := len_tl s
  have ma := m_arewishes (s := s) (by omega) _ (okws hs hw hx)
  rw [hf] at ma
  exact .inr ⟨x, hn, mw, ma⟩
theorem both_row {s r : Str} (hs : SgOk s) (hr : Ft r) (T : Pd) (R : List Pd) (f g : Str) {ws : List Wish} (h5 : ws.length ≤ 5) (hw : ∀ w ∈ ws, w.Ok s) (hn : (ws.map Wish.n).Nodup) (k : Nat) (hk : R[k]? = some (.str r)) {s7 s5 : Sl} (i7 : isIo s7 = false) (i5 : isIo s5 = false) :
    ((∃ ρ', fb_read_code_0 (R8 T R f g s (ws.map Wish.d) (.d (.int k)) s7) = .ex (noP (.int k)) ρ') ∧ ∃ ρ', fb__law_reading_0 (L7 T R s (ws.map Wish.d) (.d (.int k)) s5) = .ok (.rt (noneP k)) ρ') ∨
    (∃ w : Wish, w.Ok s ∧ wishS w = r ∧ ws.length < 5 ∧ ((ws ++ [w]).map Wish.n).Nodup ∧ fb_read_code_0 (R8 T R f g s (ws.map Wish.d) (.d (.int k)) s7) = .ok .nx (R8 T R f g s ((ws ++ [w]).map Wish.d) (.d (.int k)) (.d w.d)) ∧
      fb__law_reading_0 (L7 T R s (ws.map Wish.d) (.d (.int k)) s5) = .ok .nx (L7 T R s ((ws ++ [w]).map Wish.d) (.d (.int k)) (.d w.d))) := by
  rcases row_read hs hr with ⟨a, b⟩ | ⟨d, n, o, hf, a, b⟩ | ⟨w, hwk, e, a, b⟩
  · exact .inl ⟨bad_row T R f g h5 (.inl a) k hk i7, law_no T R _ b k hk i5⟩
  · refine .inl ⟨bad_row T R f g h5 (bad_of hs hw n o a ?_) k hk i7, law_no T R _ b k hk i5⟩
    have : (ws.map Wish.d ++ [d]).all (wishB s) = false := by
      rw [List.all_append, List.all_cons, hf, Bool.false_and, Bool.and_false]
    simp only [wishesB, this, Bool.false_and, Bool.and_false]
  · obtain ⟨y1, y2⟩ := law_wish T R (ws := ws) h5 b k hk i5
    obtain ⟨f1, f2, f3⟩ := wish_facts hs hwk
    by_cases hc : ws.length = 5 ∨ w.n ∈ ws.map Wish.n
    · refine .inl ⟨bad_row T R f g h5 (bad_of hs hw (x := w.d) rfl f1 a ?_) k hk i7, y1 hc⟩
      rcases hc with hc | hc
      · have : decide (((ws.map Wish.d ++ [w.d]).length : Int) ≤ 5) = false := decide_eq_false (by rw [List.length_append, List.length_map, hc]; simp)
        simp only [wishesB, this, Bool.false_and, Bool.and_false]
      · have : decide (((newN ((ws.map Wish.d ++ [w.d]).map nmD) ((ws.map Wish.d ++ [w.d]).map nmD).length : Nat) : Int) = ((ws.map Wish.d ++ [w.d]).length : Int)) = false := by
          refine decide_eq_false fun h => ?_
          have h' := Int.ofNat_inj.mp h
          rw [← List.length_map (f := nmD) (as := ws.map Wish.d ++ [w.d]), newN_iff] at h'
          rw [List.map_append, List.map_cons, List.map_nil] at h'
          have := (List.nodup_append.mp h').2.2 (nmD w.d) (by
            rw [List.map_map, f3]
            exact hc) (nmD w.d) (by simp)
          exact this rfl
        simp only [wishesB, this, Bool.and_false]
    · have h5' : ws.length < 5 := by
        have : ¬ ws.length = 5 := fun h => hc (.inl h)
        omega
      have hn' : ((ws ++ [w]).map Wish.n).Nodup := by
        rw [List.map_append, List.map_cons, List.map_nil, List.nodup_append]
        refine ⟨hn, by simp, fun a ha b hb => ?_⟩
        rw [List.mem_singleton.mp hb]
        intro eab
        exact hc (.inr (eab ▸ ha))
      refine .inr ⟨w, hwk, e, h5', hn', ?_, y2 hc⟩
      refine read_row hs T R f g h5' ?_ hn' k (by rw [e]; exact hk) i7
      intro u hu
      rcases List.mem_append.mp hu with hu | hu
      · exact hw u hu
      · rw [List.mem_singleton.mp hu]; exact hwk
theorem both_loop {s : Str} (hs : SgOk s) (T : Pd) (R : List Pd) (f g : Str) : ∀ (todo : List Str) (ws : List Wish) (s6 s7 s4 s5 : Sl), isIo s6 = false → isIo s7 = false → isIo s4 = false → isIo s5 = false → ws.length ≤ 5 → (∀ w ∈ ws, w.Ok s) → (ws.map Wish.n).Nodup → (∀ z ∈ todo, Ft z) →
    (∀ j (hj : j < todo.length), R[ws.length + 1 + j]? = some (.str todo[j])) →
    (∃ m : Int, (∃ ρ', forRun (put 6) fb_read_code_0 (nums ((ws.length + 1 : Nat) : Int) todo.length) (R8 T R f g s (ws.map Wish.d) s6 s7) = .ex (noP (.int m)) ρ') ∧ ∃ ρ', forRun (put 4) fb__law_reading_0 (nums ((ws.length + 1 : Nat) : Int) todo.length) (L7 T R s (ws.map Wish.d) s4 s5) = .ok (.rt (noneP m)) ρ') ∨
    (∃ vs : List Wish, vs.length ≤ 5 ∧ (∀ w ∈ vs, w.Ok s) ∧ (vs.map Wish.n).Nodup ∧ vs.map wishS = ws.map wishS ++ todo ∧ (∃ t6 t7, forRun (put 6) fb_read_code_0 (nums ((ws.length + 1 : Nat) : Int) todo.length) (R8 T R f g s (ws.map Wish.d) s6 s7) = .ok .nx (R8 T R f g s (vs.map Wish.d) t6 t7)) ∧
      ∃ t4 t5, forRun (put 4) fb__law_reading_0 (nums ((ws.length + 1 : Nat) : Int) todo.length) (L7 T R s (ws.map Wish.d) s4 s5) = .ok .nx (L7 T R s (vs.map Wish.d) t4 t5))
  | [], ws, s6, s7, s4, s5, i6, i7, i4, i5, h5, hw, hn, hz, hR => .inr ⟨ws, h5, hw, hn, by simp, ⟨s6, s7, rfl⟩, ⟨s4, s5, rfl⟩⟩
  | r :: todo, ws, s6, s7, s4, s5, i6, i7, i4, i5, h5, hw, hn, hz, hR => by
    have hk := hR 0 (by simp)
    have eN : nums ((ws.length + 1 : Nat) : Int) (r :: todo).length = .int ((ws.length + 1 : Nat) : Int) :: nums ((ws.length + 1 + 1 : Nat) : Int) todo.length := by
      rw [List.length_cons, nums_succ]
      rfl
    have p1 : put 6 (.int ((ws.length + 1 : Nat) : Int)) (R8 T R f g s (ws.map Wish.d) s6 s7) = some (R8 T R f g s (ws.map Wish.d) (.d (.int ((ws.length + 1 : Nat) : Int))) s7) := by
      generalize ((ws.length + 1 : Nat) : Int) = M
      simp [put_eq, i6]
    have p2 : put 4 (.int ((ws.length + 1 : Nat) : Int)) (L7 T R s (ws.map Wish.d) s4 s5) = some (L7 T R s (ws.map Wish.d) (.d (.int ((ws.length + 1 : Nat) : Int))) s5) := by
      generalize ((ws.length + 1 : Nat) : Int) = M
      simp [put_eq, i4]
    rw [eN]
    rcases both_row hs (hz r (by simp)) T R f g h5 hw hn (ws.length + 1) hk i7 i5 with ⟨⟨ρ1, e1⟩, ⟨ρ2, e2⟩⟩ | ⟨w, hwk, er, h5', hn', e1, e2⟩
    · exact .inl ⟨_, ⟨ρ1, for_ex p1 e1⟩, ⟨ρ2, for_ret p2 e2⟩⟩
    · have hw' : ∀ u ∈ ws ++ [w], u.Ok s := fun u hu => by
        rcases List.mem_append.mp hu with hu | hu
        · exact hw u hu
        · rw [List.mem_singleton.mp hu]; exact hwk
      have ld : (ws ++ [w]).length = ws.length + 1 := by simp
      have ih := both_loop hs T R f g todo (ws ++ [w]) (.d (.int ((ws.length + 1 : Nat) : Int))) (.d w.d) (.d (.int ((ws.length + 1 : Nat) : Int))) (.d w.d) rfl rfl rfl rfl (by omega) hw' hn' (fun z hz' => hz z (List.mem_cons_of_mem _ hz')) (fun j hj => by
        have := hR (j + 1) (by simp; omega)
        rw [ld]
        have e3 : ws.length + 1 + (j + 1) = ws.length + 1 + 1 + j := by omega
        rw [e3] at this
        simpa using this)
      rw [ld] at ih
      rw [for_go p1 e1, for_go p2 e2]
      rcases ih with h | ⟨vs, a1, a2, a3, a4, a5, a6⟩
      · exact .inl h
      · refine .inr ⟨vs, a1, a2, a3, ?_, a5, a6⟩
        rw [a4, List.map_append, List.map_cons, List.map_nil, er]
        simp
end Lw
namespace Lw
open PySem PySem.Spec L2 Evl Dt
open TL (tl joinL tl_join tl_ofString join_eq tl_append len_tl spl par pre)
def lwProg (g : Rho → R AV) : Rho → R Fl :=
  (fSeq (fAsg (fM1 splitD (fVar 0) (fC (.str "\n"))) (put 1))
  (fSeq (fAsg (fSl slD (f2 ixD (fVar 1) (fC (.int 0))) (fPart (fC (.int 6))) fNoPart) (put 2))
  (fSeq (fIfS (fOr (fTest (f2 neD (fSl slD (f2 ixD (fVar 1) (fC (.int 0))) fNoPart (fPart (fC (.int 6)))) (fC (.str "signs ")))) (fOr (fTest (f2 gtD (fCB lenD (fCons (fVar 2) fNil)) (fC (.int 3)))) (fNot (fTest (fCall 2 m__law_is_set (fCons (fVar 2) (fCons (fC (.str "abcdefghijklmnopqrstuvwxyz")) fNil))))))) (fRet (fTup (fCons (fC (.str "none")) (fCons (fC (.int 0)) fNil)))) fNx)
  (fSeq (fSetO (fLst fNil) 3)
  (fSeq (fFor (fRng2 (fCons (fC (.int 1)) (fCons g fNil))) (put 4) fb__law_reading_0)
  (fSeq (fIfS (fTest (f2 eqD (fOwn 3) (fL (fLst fNil)))) (fRet (fTup (fCons (fC (.str "none")) (fCons (fC (.int 1)) fNil)))) fNx)
  (fRet (fTup (fCons (fC (.str "read")) (fCons (fTup (fCons (fVar 2) (fCons (fCB tupleA (fCons (fOwn 3) fNil)) fNil))) fNil))))))))))
theorem lw_eq : m__law_reading = gOf 7 (lwProg (fCB lenD (fCons (fVar 1) fNil))) := rfl
theorem outs1 (x : Pd) (ρ : Rho) : outs [.d x] ρ = [.d x] := by
  cases ρ <;> rfl
section
variable {TX s SS : Str} {RR WD : List Pd} {M : Int} {s4 s5 : Sl} {g : Rho → R AV}
theorem law_fin0 (esp : splitD (.str TX) [.str (S "\n")] = some (.list RR)) (hix : ixD (.list RR) (.int 0) = some (.str SS)) {a b : Str} (sa : slD (.str SS) none (some 6) = some (.str a)) (sb : slD (.str SS) (some 6) none = some (.str b)) (hb : b.length ≤ 1000) (h : ¬ (a = S "signs ") ∨ 3 < b.length ∨ setB abc (.str b) = false) :
    m__law_reading [.d (.str TX)] = .ok (.d (noneP 0)) [.d (.str TX)] := by
  have hl : lenD [.str b] = some (.int b.length) := by
    show (if _ then _ else _) = _
    rw [if_pos (show b.length ≤ sizeLine by simp only [sizeLine]; omega)]
  have ms := m_lis b abc hb
  have hS : S "abcdefghijklmnopqrstuvwxyz" = abc := rfl
  rw [lw_eq]
  by_cases ha : a = S "signs "
  · by_cases h3 : 3 < b.length
    · have h3' : 3 < (b.length : Int) := by omega
      generalize (b.length : Int) = LL at *
      simp [gOf, lwProg, esp, put_eq, hix, sa, sb, ha, hl, h3', sizeLine, -splitD_str, -slD_str, -ixD_list, -lenD_str]
    · have h3' : ¬ (3 < (b.length : Int)) := by omega
      have h4 : setB abc (.str b) = false := by
        rcases h with h | h | h
        · exact absurd ha h
        · exact absurd h h3
        · exact h
      rw [h4] at ms
      clear hb
      generalize (b.length : Int) = LL at *
      simp [gOf, lwProg, esp, put_eq, hix, sa, sb, ha, hl, h3', hS, ms, sizeLine, -splitD_str, -slD_str, -ixD_list, -lenD_str]
  · simp [gOf, lwProg, esp, put_eq, hix, sa, sb, ha, sizeLine, -splitD_str, -slD_str, -ixD_list, -lenD_str]
structure LwHead (TX s SS : Str) (RR : List Pd) (M : Int) (g : Rho → R AV) : Prop where
  esp : splitD (.str TX) [.str (S "\n")] = some (.list RR)
  hix : ixD (.list RR) (.int 0) = some (.str SS)
  sa : slD (.str SS) none (some 6) = some (.str (S "signs "))
  sb : slD (.str SS) (some 6) none = some (.str s)
  hl : lenD [.str s] = some (.int s.length)
  h3 : ¬ (3 < (s.length : Int))
  ms : m__law_is_set [.d (.str s), .d (.str (S "abcdefghijklmnopqrstuvwxyz"))] = .ok (.d (.bool true)) [.d (.str s), .d (.str (S "abcdefghijklmnopqrstuvwxyz"))]
  hg : g (L7 (.str TX) RR s [] .no .no) = .ok (.d (.int M)) (L7 (.str TX) RR s [] .no .no)
  hr : (-4611686018427387904 : Int) ≤ M ∧ M < 4611686018427387904
theorem law_fin1 (h : LwHead TX s SS RR M g) {m : Int} {ρ' : Rho} (e : forRun (put 4) fb__law_reading_0 (nums 1 (M.toNat - 1)) (L7 (.str TX) RR s [] .no .no) = .ok (.rt (noneP m)) ρ') : gOf 7 (lwProg g) [.d (.str TX)] = .ok (.d (noneP m)) [.d (.str TX)] := by
  obtain ⟨esp, hix, sa, sb, hl, h3, ms, hg, hr⟩ := h
  unfold L7 at e hg
  generalize (s.length : Int) = LL at *
  simp [gOf, lwProg, esp, put_eq, putOwn_eq, hix, sa, sb, hl, h3, ms, sizeLine, hg, hr.1, hr.2, e, outs1, -splitD_str, -slD_str, -ixD_list, -lenD_str]
theorem law_fin2 (h : LwHead TX s SS RR M g) (e : forRun (put 4) fb__law_reading_0 (nums 1 (M.toNat - 1)) (L7 (.str TX) RR s [] .no .no) = .ok .nx (L7 (.str TX) RR s WD s4 s5)) (hW : WD.length ≤ 1000) (ewn : eqD (.list WD) (.list []) = some (.bool false)) : gOf 7 (lwProg g) [.d (.str TX)] = .ok (.d (.tuple [.str (S "read"), .tuple [.str s, .tuple WD]])) [.d (.str TX)] := by
  obtain ⟨esp, hix, sa, sb, hl, h3, ms, hg, hr⟩ := h
  unfold L7 at e hg
  have z : WD.length ≤ 16777216 := by omega
  generalize (s.length : Int) = LL at *
  simp [gOf, lwProg, esp, put_eq, putOwn_eq, hix, sa, sb, hl, h3, ms, sizeLine, hg, hr.1, hr.2, e, z, ewn, -splitD_str, -slD_str, -ixD_list, -lenD_str]
theorem law_fin3 (h : LwHead TX s SS RR M g) (e : forRun (put 4) fb__law_reading_0 (nums 1 (M.toNat - 1)) (L7 (.str TX) RR s [] .no .no) = .ok .nx (L7 (.str TX) RR s [] s4 s5)) : gOf 7 (lwProg g) [.d (.str TX)] = .ok (.d (noneP 1)) [.d (.str TX)] := by
  obtain ⟨esp, hix, sa, sb, hl, h3, ms, hg, hr⟩ := h
  unfold L7 at e hg
  have ewn : eqD (.list []) (.list []) = some (.bool true) := rfl
  generalize (s.length : Int) = LL at *
  simp [gOf, lwProg, esp, put_eq, putOwn_eq, hix, sa, sb, hl, h3, ms, sizeLine, hg, hr.1, hr.2, e, ewn, -splitD_str, -slD_str, -ixD_list, -lenD_str]
theorem read_fin1 {s6 s7 : Sl} (esp : splitD (.str TX) [.str (S "\n")] = some (.list RR)) (hix : ixD (.list RR) (.int 0) = some (.str SS)) (epa : partD (.str SS) [.str (S " ")] = some (.tuple [.str (S "signs"), .str (S " "), .str s])) (msg : m_are_signs [.d (.str s)] = .ok (.d (.bool true)) [.d (.str s)])
    (hg : g (R8 (.str TX) RR (S "signs") (S " ") s [] .no .no) = .ok (.d (.int M)) (R8 (.str TX) RR (S "signs") (S " ") s [] .no .no)) (hr : (-4611686018427387904 : Int) ≤ M ∧ M < 4611686018427387904)
    (e : forRun (put 6) fb_read_code_0 (nums 1 (M.toNat - 1)) (R8 (.str TX) RR (S "signs") (S " ") s [] .no .no) = .ok .nx (R8 (.str TX) RR (S "signs") (S " ") s [] s6 s7)) : ∃ as, gOf 8 (rdProg g) [.d (.str TX)] = .ex (noP (.int 1)) as := by
  have hne : ¬ (S " " = S "") := by decide +kernel
  have ewn : eqD (.tuple []) (.tuple []) = some (.bool true) := rfl
  unfold R8 at e hg
  exact ⟨_, by simp [gOf, rdProg, isStrD, esp, put_eq, hix, epa, hne, msg, sizeLine, hg, hr.1, hr.2, e, ewn, -splitD_str, -partD_str, -ixD_list]; rfl⟩
end
/-! ### a wish as data -/
theorem sh_wish {s : Str} (hs : SgOk s) {w : Wish} (hw : w.Ok s) (n : Nat) : sh (n + 4) w.d = true := by
  show sh (n + 4) (.tuple [.str w.n, .tuple (w.ps.map Pat.d)]) = true
  rw [sh_tuple, List.all_cons, List.all_cons, List.all_nil, sh_str, sh_tuple, Bool.and_true, Bool.and_eq_true]
  refine ⟨strOk_lt fun c hc => by have := hw.n.2.2 c hc; omega, ?_⟩
  rw [List.all_map, List.all_eq_true]
  exact fun p hp' => sh_pat hs (hw.ps p hp') n
theorem ne_nil {s : Str} (hs : SgOk s) {ws : List Wish} (hw : ∀ w ∈ ws, w.Ok s) (h1 : 1 ≤ ws.length) : eqD (.tuple (ws.map Wish.d)) (.tuple []) = some (.bool false) ∧ eqD (.list (ws.map Wish.d)) (.list []) = some (.bool false) := by
  have h60 : sh 60 (.tuple (ws.map Wish.d)) = true := by
    rw [sh_tuple, List.all_map, List.all_eq_true]
    exact fun w hw' => sh_wish hs (hw w hw') 55
  have h61 : sh 60 (.list (ws.map Wish.d)) = true := by
    rw [sh_list, List.all_map, List.all_eq_true]
    exact fun w hw' => sh_wish hs (hw w hw') 55
  have h2 : sh 60 (.tuple []) = true := rfl
  have h3 : sh 60 (.list []) = true := rfl
  constructor
  · simp only [eqD, eqB_tuple, h60, h2, and_self, if_true, Option.map_some]
    cases ws with
    | nil => simp at h1
    | cons _ _ => rfl
  · simp only [eqD, eqB_list, h61, h3, and_self, if_true, Option.map_some]
    cases ws with
    | nil => simp at h1
    | cons _ _ => rfl
/-! ### the first row -/
theorem sgOk_of {c : Str} (h : signsB (.str c) = true) : SgOk c := by
  simp only [signsB, Bool.and_eq_true, decide_eq_true_eq] at h
  obtain ⟨h1, h2, h3, h4⟩ := h
  have := len_tl c
  exact ⟨by omega, by omega, fun d hd => (mem_abc d).mp (h1 d hd), risL_pw h4⟩
theorem signs_set (c : Str) : signsB (.str c) = (setB abc (.str c) && decide (c.length ≤ 3)) := by
  have e1 : signsB (.str c) = (decide (∀ d ∈ tl c, d ∈ tl abc) && (decide (1 ≤ (c.length : Int)) && (decide ((c.length : Int) ≤ 3) && risL (tl c)))) := rfl
  have e2 : setB abc (.str c) = (decide (∀ d ∈ tl c, d ∈ tl abc) && (!decide (c = S "") && risL (tl c))) := rfl
  have hl := len_tl c
  have h0 : c = S "" ↔ (tl c).length = 0 := by
    constructor
    · intro h; rw [h]; decide +kernel
    · intro h
      refine str_ext ?_
      rw [List.eq_nil_of_length_eq_zero h]
      decide +kernel
  rw [e1, e2, Bool.eq_iff_iff]
  simp only [Bool.and_eq_true, decide_eq_true_eq, Bool.not_eq_true', decide_eq_false_iff_not, h0]
  constructor
  · intro ⟨a, b, c, d⟩
    exact ⟨⟨a, by omega, d⟩, by omega⟩
  · intro ⟨⟨a, b, d⟩, c⟩
    exact ⟨a, by omega, by omega, d⟩
/-- the first row is at fault for both, or the signs are told -/
theorem first_both {r : Str} (hr : Ft r) : ∃ a b x y z : Str, slD (.str r) none (some 6) = some (.str a) ∧ slD (.str r) (some 6) none = some (.str b) ∧ b.length ≤ 1000 ∧ partD (.str r) [.str (S " ")] = some (.tuple [.str x, .str y, .str z]) ∧
    (((¬ (a = S "signs ") ∨ 3 < b.length ∨ setB abc (.str b) = false) ∧ (x ≠ S "signs" ∨ y = S "" ∨ (z.length ≤ 1000 ∧ signsB (.str z) = false))) ∨
     (a = S "signs " ∧ x = S "signs" ∧ y = S " " ∧ z = b ∧ SgOk b ∧ r = S "signs " ++ b)) := by
  have hr1 := hr.1
  have hrl := len_tl r
  have e6 : tl (S "signs ") = [115, 105, 103, 110, 115, 32] := by decide +kernel
  have e5 : tl (S "signs") = [115, 105, 103, 110, 115] := by decide +kernel
  have e1 : tl (S " ") = [32] := by decide +kernel
  have emp : Str.empty = S "" := by decide +kernel
  have sa : slD (.str r) none (some 6) = some (.str (ofL ((tl r).take 6))) := by
    rw [slD_str, if_pos (show _ ≤ sizeLine by simp only [sizeLine]; omega)]
    congr 2
    refine str_ext ?_
    rw [tl_take _ _ (by omega), tl_ofL]
    rfl
  have sb : slD (.str r) (some 6) none = some (.str (ofL ((tl r).drop 6))) := by
    rw [slD_str, if_pos (show _ ≤ sizeLine by simp only [sizeLine]; omega)]
    congr 2
    refine str_ext ?_
    rw [tl_drop _ _ (by omega), tl_ofL]
    rfl
  have lb : (ofL ((tl r).drop 6)).length ≤ 1000 := by rw [len_tl, tl_ofL, List.length_drop]; omega
  have pa : ∀ {x y z : Str}, Txt.partition r (S " ") = (x, y, z) → partD (.str r) [.str (S " ")] = some (.tuple [.str x, .str y, .str z]) := fun {x y z} h => by
    show (if _ then _ else _) = _
    rw [if_pos ⟨by decide +kernel, show _ ≤ sizeLine by simp only [sizeLine]; omega⟩, h]
  by_cases ha : (tl r).take 6 = [115, 105, 103, 110, 115, 32]
  · have er : r = S "signs" ++ S " " ++ ofL ((tl r).drop 6) := by
      refine str_ext ?_
      rw [tl_append, tl_append, tl_ofL, e5, e1]
      show _ = [115, 105, 103, 110, 115, 32] ++ _
      rw [← ha, List.take_append_drop]
    have hp := TL.partition_app e1 (a := S "signs") (b := ofL ((tl r).drop 6)) (by decide +kernel)
    rw [← er] at hp
    refine ⟨_, _, _, _, _, sa, sb, lb, pa hp, ?_⟩
    have ea : ofL ((tl r).take 6) = S "signs " := str_ext (by rw [tl_ofL, ha, e6])
    have eo : S "signs " = S "signs" ++ S " " := by decide +kernel
    rw [ea]
    have hss := signs_set (ofL ((tl r).drop 6))
    cases hc : signsB (.str (ofL ((tl r).drop 6))) with
    | true => exact .inr ⟨rfl, rfl, rfl, rfl, sgOk_of hc, by rw [eo]; exact er⟩
    | false =>
      refine .inl ⟨.inr ?_, .inr (.inr ⟨lb, rfl⟩)⟩
      rw [hc] at hss
      rcases Bool.and_eq_false_iff.mp hss.symm with h | h
      · exact .inr h
      · exact .inl (by have := of_decide_eq_false h; omega)
  · have hn : ¬ (ofL ((tl r).take 6) = S "signs ") := fun h => ha (by have := congrArg tl h; rw [tl_ofL, e6] at this; exact this)
    have hp := TL.partition_par r (S " ") (by rw [e1]; simp)
    rw [e1] at hp
    cases hpar : par [32] [] (tl r) with
    | none =>
      rw [hpar] at hp
      refine ⟨_, _, _, _, _, sa, sb, lb, pa hp, .inl ⟨.inl hn, .inr (.inl emp)⟩⟩
    | some ab =>
      rw [hpar] at hp
      simp only at hp
      have he := par_some _ _ _ _ (show par [32] [] (tl r) = some (ab.1, ab.2) from hpar)
      rw [List.nil_append] at he
      refine ⟨_, _, _, _, _, sa, sb, lb, pa hp, .inl ⟨.inl hn, .inl fun h => ha ?_⟩⟩
      have h' : ab.1 = [115, 105, 103, 110, 115] := by
        have := congrArg tl h
        rw [e5] at this
        exact this
      rw [he, h']
      rfl
end Lw
namespace Lw
open PySem PySem.Spec L2 Evl Dt
open TL (tl joinL tl_join tl_ofString join_eq tl_append len_tl spl par pre)
abbrev readP (s : Str) (ws : List Wish) : Pd := .tuple [.str (S "read"), Code.d ⟨s, ws⟩]
theorem reading_both {T : Str} (hT : Ft T) : (∃ m : Int, (∃ as, m_read_code [.d (.str T)] = .ex (noP (.int m)) as) ∧ m__law_reading [.d (.str T)] = .ok (.d (noneP m)) [.d (.str T)]) ∨
    ∃ (s : Str) (ws : List Wish), SgOk s ∧ 1 ≤ ws.length ∧ ws.length ≤ 5 ∧ (∀ w ∈ ws, w.Ok s) ∧ codeS ⟨s, ws⟩ = T ∧ m_read_code [.d (.str T)] = .ok (.d (Code.d ⟨s, ws⟩)) [.d (.str T)] ∧ m__law_reading [.d (.str T)] = .ok (.d (readP s ws)) [.d (.str T)] := by
  have et : tl (S "\n") = [10] := by decide +kernel
  obtain ⟨hne, hl, hj, hf⟩ := split_facts (x := T) (y := S "\n") (by rw [et]; simp) (by decide +kernel) hT
  have hT1 := hT.1
  have esp : splitD (.str T) [.str (S "\n")] = some (.list ((Txt.split T (S "\n")).map PyData.str)) := by
    rw [splitD_str, if_pos ⟨by decide +kernel, show _ ≤ sizeLine by simp only [sizeLine]; omega⟩]
  generalize Txt.split T (S "\n") = RS at *
  cases RS with
  | nil => exact absurd rfl hne
  | cons r todo =>
    have hix : ixD (.list ((r :: todo).map PyData.str)) (.int 0) = some (.str r) := at0 _ _
    obtain ⟨a, b, x, y, z, sa, sb, lb, pa, h⟩ := first_both (hf r (by simp))
    rcases h with ⟨h1, h2⟩ | ⟨ha, hx, hy, hz, hs, er⟩
    · exact .inl ⟨0, read_0 esp hix pa h2, law_fin0 esp hix sa sb lb h1⟩
    · have ms := m_lis b abc lb
      have hsg : signsB (.str b) = true := by
        have l1 := hs.l1
        have l3 := hs.l3
        have hsl := len_tl b
        simp only [signsB, Bool.and_eq_true, decide_eq_true_eq]
        exact ⟨fun c hc => (mem_abc c).mpr (hs.let' c hc), by omega, by omega, risL_of hs.ris⟩
      have hss := signs_set b
      rw [hsg] at hss
      have hss' := Bool.and_eq_true_iff.mp hss.symm
      rw [hss'.1] at ms
      have msg := m_aresigns (.str b) (by simp only [okP, decide_eq_true_eq]; omega)
      rw [hsg] at msg
      have l3 := of_decide_eq_true hss'.2
      have hlb : lenD [.str b] = some (.int b.length) := by
        show (if _ then _ else _) = _
        rw [if_pos (show b.length ≤ sizeLine by simp only [sizeLine]; omega)]
      rw [hx, hy, hz] at pa
      rw [ha] at sa
      have hlen : lenD [.list ((r :: todo).map PyData.str)] = some (.int ((todo.length + 1 : Nat) : Int)) := by rw [lenD_list, List.length_map, List.length_cons]
      have hlt : todo.length ≤ 1000 := by simp at hl; omega
      have eN : nums ((([] : List Wish).length + 1 : Nat) : Int) todo.length = nums 1 (((todo.length + 1 : Nat) : Int).toNat - 1) := by
        have e1 : ((todo.length + 1 : Nat) : Int).toNat - 1 = todo.length := by omega
        rw [e1]
        rfl
      have hg1 : ∀ ρ : Rho, ρ[1]? = some (.d (.list ((r :: todo).map PyData.str))) → (fCB lenD (fCons (fVar 1) fNil)) ρ = .ok (.d (.int ((todo.length + 1 : Nat) : Int))) ρ := fun ρ h => by
        generalize (r :: todo).map PyData.str = RR at *
        generalize ((todo.length + 1 : Nat) : Int) = M at *
        simp [h, hlen, -lenD_list]
      have H : LwHead T b r ((r :: todo).map PyData.str) ((todo.length + 1 : Nat) : Int) (fCB lenD (fCons (fVar 1) fNil)) := ⟨esp, hix, sa, sb, hlb, by omega, ms, hg1 _ rfl, by omega⟩
      rcases both_loop hs (.str T) ((r :: todo).map PyData.str) (S "signs") (S " ") todo [] .no .no .no .no rfl rfl rfl rfl (by simp) (by simp) (by simp) (fun z hz => hf z (List.mem_cons_of_mem _ hz)) (fun j hj => by
        have e0 : ([] : List Wish).length + 1 + j = j + 1 := by simp; omega
        rw [e0, List.map_cons, List.getElem?_cons_succ, List.getElem?_map, List.getElem?_eq_getElem hj]
        rfl) with ⟨m, ⟨ρ1, q1⟩, ⟨ρ2, q2⟩⟩ | ⟨vs, v5, vok, vnd, ve, ⟨t6, t7, q1⟩, ⟨t4, t5, q2⟩⟩
      · rw [eN] at q1 q2
        refine .inl ⟨m, ?_, ?_⟩
        · rw [rd_eq]
          exact read_finX esp hix pa msg (hg1 _ rfl) (by omega) q1
        · rw [lw_eq]
          exact law_fin1 H q2
      · rw [eN] at q1 q2
        by_cases hv : 1 ≤ vs.length
        · obtain ⟨n1, n2⟩ := ne_nil hs vok hv
          refine .inr ⟨b, vs, hs, hv, v5, vok, ?_, ?_, ?_⟩
          · unfold codeS
            have : rowsC ⟨b, vs⟩ = r :: todo := by
              show (S "signs " ++ b) :: vs.map wishS = _
              rw [ve, ← er]
              rfl
            rw [this, hj]
          · rw [rd_eq]
            exact read_fin esp hix pa msg (hg1 _ rfl) (by omega) q1 n1
          · rw [lw_eq]
            exact law_fin2 H q2 (by rw [List.length_map]; show vs.length ≤ 1000; omega) n2
        · have e0 : vs = [] := List.eq_nil_of_length_eq_zero (by omega)
          subst e0
          refine .inl ⟨1, ?_, ?_⟩
          · rw [rd_eq]
            exact read_fin1 esp hix pa msg (hg1 _ rfl) (by omega) q1
          · rw [lw_eq]
            exact law_fin3 H q2
/-! ### told -/
theorem told_ex {T : Str} {m : Int} {as : Rho} (h : m_read_code [.d (.str T)] = .ex (noP (.int m)) as) : m__law_told [.d (.str T)] = .ok (.d (noneP m)) [.d (.str T)] := by
  have e1 : ft__law_told [.d (.str T), .d .none, .no] = .ex (noP (.int m)) [.d (.str T), .d .none, .no] := by simp [ft__law_told, h]
  have e3 : fh__law_told [.d (.str T), .d .none, .x (noP (.int m))] = .ok .nx [.d (.str T), .d (noneP m), .x (noP (.int m))] := by
    simp [fh__law_told, put_eq, sizeLine, List.lookup]
    rfl
  have e2 : fTryH (sb "NoText") ft__law_told 2 fh__law_told [.d (.str T), .d .none, .no] = .ok .nx [.d (.str T), .d (noneP m), .no] := fTryH_ex (sub := sb "NoText") (i := 2) (si := .no) (sj := .x (noP (.int m))) e1 (by rfl) rfl rfl e3 rfl rfl
  simp [m__law_told, gOf, w__law_told, put_eq, e2]
theorem told_ok {T : Str} {d : Pd} (h : m_read_code [.d (.str T)] = .ok (.d d) [.d (.str T)]) : m__law_told [.d (.str T)] = .ok (.d (.tuple [.str (S "read"), d])) [.d (.str T)] := by
  have e1 : ft__law_told [.d (.str T), .d .none, .no] = .ok .nx [.d (.str T), .d (.tuple [.str (S "read"), d]), .no] := by simp [ft__law_told, h, put_eq, sizeLine]
  have e2 := fTryH_ok (sub := sb "NoText") (i := 2) (fh := fh__law_told) e1
  simp [m__law_told, gOf, w__law_told, put_eq, e2]
end Lw
namespace Lw
open PySem PySem.Spec L2 Evl Dt
open TL (tl joinL tl_join tl_ofString join_eq tl_append len_tl spl par pre)
def wt (zs : List Str) : Nat := (zs.map (·.length)).sum + zs.length
theorem wt_app (a b : List Str) : wt (a ++ b) = wt a + wt b := by
  unfold wt
  rw [List.map_append, List.sum_append, List.length_append]
  omega
theorem wt_rev (a : List Str) : wt a.reverse = wt a := by
  unfold wt
  rw [List.map_reverse, List.sum_reverse, List.length_reverse]
theorem wt_len (a : List Str) : a.length ≤ wt a := by unfold wt; omega
theorem nlen : (S "\n").length = 1 := by decide +kernel
theorem jl_len1 (y : List Nat) (hy : y.length = 1) : ∀ (l : List (List Nat)), l ≠ [] → (joinL y l).length + 1 = (l.map List.length).sum + l.length
  | [], h => absurd rfl h
  | [p], _ => by simp [joinL]
  | p :: q :: r, _ => by
    have := jl_len1 y hy (q :: r) (by simp)
    simp only [joinL, List.length_append, List.map_cons, List.sum_cons, List.length_cons] at this ⊢
    omega
theorem map_tl_len (zs : List Str) : ((zs.map tl).map List.length).sum + (zs.map tl).length = wt zs := by
  unfold wt
  rw [List.map_map, List.length_map]
  rfl
theorem join_wt {zs : List Str} (h : zs ≠ []) : (Txt.join (S "\n") zs).length + 1 = wt zs := by
  have ht : (tl (S "\n")).length = 1 := by decide +kernel
  rw [len_tl, join_eq, tl_join, jl_len1 _ ht _ (by simpa using h), map_tl_len]
theorem join_le (zs : List Str) : (Txt.join (S "\n") zs).length ≤ wt zs := by
  cases zs with
  | nil =>
    rw [len_tl, join_eq, tl_join]
    simp [joinL]
  | cons z zs =>
    have := join_wt (zs := z :: zs) (by simp)
    omega
theorem joinN {zs : List Str} (h : wt zs ≤ 100000) : joinD (.str (S "\n")) [.list (zs.map PyData.str)] = some (.str (Txt.join (S "\n") zs)) := by
  simp only [joinD]
  rw [strsD_map]
  simp only
  unfold wt at h
  rw [if_pos (by rw [nlen]; omega)]
theorem jl_mem2 (y : List Nat) : ∀ (l : List (List Nat)) (c : Nat), c ∈ joinL y l → c ∈ y ∨ ∃ p ∈ l, c ∈ p
  | [], c, h => by simp [joinL] at h
  | [p], c, h => .inr ⟨p, by simp, h⟩
  | p :: q :: r, c, h => by
    simp only [joinL, List.mem_append] at h
    rcases h with h | h | h
    · exact .inr ⟨p, by simp, h⟩
    · exact .inl h
    · rcases jl_mem2 y (q :: r) c h with h | ⟨z, hz, h⟩
      · exact .inl h
      · exact .inr ⟨z, List.mem_cons_of_mem _ hz, h⟩
def Fb (n : Nat) (z : Str) : Prop := z.length ≤ n ∧ ∀ c ∈ tl z, c < 1114112
theorem Fb.ft {n : Nat} {z : Str} (h : Fb n z) (hn : n ≤ 1000) : Ft z := ⟨Nat.le_trans h.1 hn, h.2⟩
theorem Fb.mono {n m : Nat} {z : Str} (h : Fb n z) (hn : n ≤ m) : Fb m z := ⟨Nat.le_trans h.1 hn, h.2⟩
theorem join_fb {n : Nat} {zs : List Str} (hw : wt zs ≤ n) (h : ∀ z ∈ zs, ∀ c ∈ tl z, c < 1114112) : Fb n (Txt.join (S "\n") zs) := by
  refine ⟨Nat.le_trans (join_le zs) hw, fun c hc => ?_⟩
  rw [join_eq, tl_join] at hc
  rcases jl_mem2 _ _ c hc with hc | ⟨p, hp, hc⟩
  · have et : tl (S "\n") = [10] := by decide +kernel
    rw [et] at hc
    have := List.mem_singleton.mp hc
    omega
  · obtain ⟨z, hz, rfl⟩ := List.mem_map.mp hp
    exact h z hz c hc
def oddL : List Str := [S "", S " ", S ",", S ":", S "*", S "#", S "2", S "a", S "b", S "\n", S ", ", S " *2", S "sign a", S "drop", S "x", S ": "]
theorem oddL_ok : ∀ z ∈ oddL, z.length ≤ 6 ∧ ∀ c ∈ tl z, c < 1114112 := by decide +kernel
theorem odd_at {d : Int} (h0 : 0 ≤ d) (h1 : d < 16) : ∃ z ∈ oddL, ixD (.list (oddL.map PyData.str)) (.int d) = some (.str z) := by
  obtain ⟨k, rfl⟩ : ∃ k : Nat, d = (k : Int) := ⟨d.toNat, by omega⟩
  have hk : k < oddL.length := by show k < 16; omega
  refine ⟨oddL[k], List.getElem_mem hk, atN ?_⟩
  rw [List.getElem?_map, List.getElem?_eq_getElem hk]
  rfl
def bA (g : Rho → R AV) : Rho → R Fl := (fAsg g (put 3))
def bOdd : Rho → R Fl := (fSeq (fAsg (fL (fLst (fCons (fC (.str "")) (fCons (fC (.str " ")) (fCons (fC (.str ",")) (fCons (fC (.str ":")) (fCons (fC (.str "*")) (fCons (fC (.str "#")) (fCons (fC (.str "2")) (fCons (fC (.str "a")) (fCons (fC (.str "b")) (fCons (fC (.str "\n")) (fCons (fC (.str ", ")) (fCons (fC (.str " *2")) (fCons (fC (.str "sign a")) (fCons (fC (.str "drop")) (fCons (fC (.str "x")) (fCons (fC (.str ": ")) fNil)))))))))))))))))) (put 4))
  (fRet (f2 addD (f2 addD (fSl slD (fVar 1) fNoPart (fPart (fVar 3))) (f2 ixD (fVar 4) (fCallP 1 0 m__law_draw (fCons (fC (.int 16)) fNil)))) (fSl slD (fVar 1) (fPart (f2 addD (fVar 3) (fCallP 1 0 m__law_draw (fCons (fC (.int 3)) fNil)))) fNoPart))))
def bRow (g : Rho → R AV) : Rho → R Fl := (fSeq (fAsg (fM1 splitD (fVar 1) (fC (.str "\n"))) (put 5))
  (fSeq (fAsg g (put 6))
  (fSeq (fIfS (fTest (f2 eqD (fVar 2) (fC (.int 3)))) (fRet (fM1 joinD (fC (.str "\n")) (f2 addD (fSl slD (fVar 5) fNoPart (fPart (fVar 6))) (fSl slD (fVar 5) (fPart (f2 addD (fVar 6) (fC (.int 1)))) fNoPart)))) fNx)
  (fSeq (fAsg (fSl slD (fVar 5) (fPart (fVar 6)) (fPart (f2 addD (fVar 6) (fC (.int 2))))) (put 7))
  (fRet (fM1 joinD (fC (.str "\n")) (f2 addD (f2 addD (fSl slD (fVar 5) fNoPart (fPart (fVar 6))) (f1 revD (fVar 7))) (fSl slD (fVar 5) (fPart (f2 addD (fVar 6) (fC (.int 2)))) fNoPart))))))))
theorem bent_eq : w__law_bent = fSeq (fAsg (fCallP 1 0 m__law_draw (fCons (fC (.int 5)) fNil)) (put 2)) (fSeq (bA (fCallP 1 0 m__law_draw (fCons (f2 addD (fCB lenD (fCons (fVar 1) fNil)) (fC (.int 1))) fNil))) (fSeq (fIfS (fTest (f2 ltD (fVar 2) (fC (.int 3)))) bOdd fNx) (bRow (fCallP 1 0 m__law_draw (fCons (fCB lenD (fCons (fVar 5) fNil)) fNil))))) := rfl
theorem bent_odd {q : Pool} (hq : q.Ok) {T : Str} {n : Nat} (hT : Fb n T) (hn : n ≤ 900) {P A : Int} (hA : 0 ≤ A) : ∃ (T' : Str) (q' : Pool) (ρ' : Rho), q'.Ok ∧ Fb (n + 6) T' ∧ bOdd [.own true q.l, .d (.str T), .d (.int P), .d (.int A), .no, .no, .no, .no] = .ok (.rt (.str T')) (.own true q'.l :: ρ') := by
  obtain ⟨d, q2, hq2, d0, d1, ed⟩ := m_draw hq (top := 16) (by omega) (by omega)
  obtain ⟨z, hz, ez⟩ := odd_at d0 d1
  obtain ⟨e, q3, hq3, e0, e1, ee⟩ := m_draw hq2 (top := 3) (by omega) (by omega)
  obtain ⟨z1, z2⟩ := oddL_ok z hz
  have hT1 := hT.1
  have hTl := len_tl T
  have sa : slD (.str T) none (some A) = some (.str (ofL ((tl T).take A.toNat))) := by
    rw [slD_str, if_pos (show _ ≤ sizeLine by simp only [sizeLine]; omega)]
    congr 2
    exact str_ext (by rw [tl_take _ _ hA, tl_ofL])
  have sb : slD (.str T) (some (A + e)) none = some (.str (ofL ((tl T).drop (A + e).toNat))) := by
    rw [slD_str, if_pos (show _ ≤ sizeLine by simp only [sizeLine]; omega)]
    congr 2
    exact str_ext (by rw [tl_drop _ _ (by omega), tl_ofL])
  have l1 : (ofL ((tl T).take A.toNat)).length = min A.toNat (tl T).length := by rw [len_tl, tl_ofL, List.length_take]
  have l2 : (ofL ((tl T).drop (A + e).toNat)).length = (tl T).length - (A + e).toNat := by rw [len_tl, tl_ofL, List.length_drop]
  have a1 : addD (.str (ofL ((tl T).take A.toNat))) (.str z) = some (.str (ofL ((tl T).take A.toNat) ++ z)) := by
    rw [addD_str, if_pos (show _ ≤ sizeLine by simp only [sizeLine]; omega)]
  have a2 : addD (.str (ofL ((tl T).take A.toNat) ++ z)) (.str (ofL ((tl T).drop (A + e).toNat))) = some (.str (ofL ((tl T).take A.toNat) ++ z ++ ofL ((tl T).drop (A + e).toNat))) := by
    rw [addD_str, if_pos (show _ ≤ sizeLine by rw [apl]; simp only [sizeLine]; omega)]
  have eo : oddL.map PyData.str = [PyData.str (S ""), .str (S " "), .str (S ","), .str (S ":"), .str (S "*"), .str (S "#"), .str (S "2"), .str (S "a"), .str (S "b"), .str (S "\n"), .str (S ", "), .str (S " *2"), .str (S "sign a"), .str (S "drop"), .str (S "x"), .str (S ": ")] := rfl
  refine ⟨ofL ((tl T).take A.toNat) ++ z ++ ofL ((tl T).drop (A + e).toNat), q3, ?_, hq3, ⟨?_, ?_⟩, ?_⟩
  · exact [.d (.str T), .d (.int P), .d (.int A), .d (.list (oddL.map PyData.str)), .no, .no, .no]
  · rw [apl, apl]; omega
  · intro c hc
    rw [tl_append, tl_append, List.mem_append, List.mem_append, tl_ofL, tl_ofL] at hc
    rcases hc with (hc | hc) | hc
    · exact hT.2 c (List.mem_of_mem_take hc)
    · exact z2 c hc
    · exact hT.2 c (List.mem_of_mem_drop hc)
  · clear l1 l2
    generalize ofL ((tl T).take A.toNat) ++ z ++ ofL ((tl T).drop (A + e).toNat) = T3 at *
    generalize ofL ((tl T).take A.toNat) ++ z = T2 at *
    generalize ofL ((tl T).take A.toNat) = T1 at *
    generalize ofL ((tl T).drop (A + e).toNat) = T0 at *
    generalize q.l = Q1 at *
    generalize q2.l = Q2 at *
    generalize q3.l = Q3 at *
    rw [eo] at ez ⊢
    simp [bOdd, put_eq, sizeLine, sa, sb, ed, ez, a1, ee, a2, -slD_str, -addD_str, -ixD_list]
theorem cutL (zs : List Str) (k : Int) (h : 0 ≤ k) : cutD (zs.map PyData.str) none (some k) = (zs.take k.toNat).map PyData.str := by rw [cut_take _ _ h, List.map_take]
theorem cutR (zs : List Str) (k : Int) (h : 0 ≤ k) : cutD (zs.map PyData.str) (some k) none = (zs.drop k.toNat).map PyData.str := by rw [cut_drop _ _ h, List.map_drop]
theorem bent_row {q : Pool} (hq : q.Ok) {T : Str} {n : Nat} (hT : Fb n T) (hn : n ≤ 900) {P A : Int} : ∃ (T' : Str) (q' : Pool) (ρ' : Rho), q'.Ok ∧ Fb (n + 6) T' ∧ bRow (fCallP 1 0 m__law_draw (fCons (fCB lenD (fCons (fVar 5) fNil)) fNil)) [.own true q.l, .d (.str T), .d (.int P), .d (.int A), .no, .no, .no, .no] = .ok (.rt (.str T')) (.own true q'.l :: ρ') := by
  have et : tl (S "\n") = [10] := by decide +kernel
  obtain ⟨hne, hl, hj, hf⟩ := split_facts (x := T) (y := S "\n") (by rw [et]; simp) (by decide +kernel) (hT.ft (by omega))
  have hT1 := hT.1
  have esp : splitD (.str T) [.str (S "\n")] = some (.list ((Txt.split T (S "\n")).map PyData.str)) := by
    rw [splitD_str, if_pos ⟨by decide +kernel, show _ ≤ sizeLine by simp only [sizeLine]; omega⟩]
  generalize Txt.split T (S "\n") = RS at *
  have hw := join_wt hne
  rw [hj] at hw
  have hc : ∀ z ∈ RS, ∀ c ∈ tl z, c < 1114112 := fun z hz => (hf z hz).2
  have hpos : 0 < RS.length := by
    cases RS with
    | nil => exact absurd rfl hne
    | cons _ _ => simp
  obtain ⟨d, q2, hq2, d0, d1, ed⟩ := m_draw hq (top := (RS.length : Int)) (by omega) (by omega)
  have hlen : lenD [.list (RS.map PyData.str)] = some (.int (RS.length : Int)) := by rw [lenD_list, List.length_map]
  have c1 := cutL RS d d0
  have c2 := cutR RS (d + 1) (by omega)
  have c3 := cutR RS (d + 2) (by omega)
  have c4 : cutD (RS.map PyData.str) (some d) (some (d + 2)) = ((RS.drop d.toNat).take 2).map PyData.str := by
    rw [cut_mid _ _ _ d0 (by omega), List.map_take, List.map_drop]
    congr 1
    omega
  have eA : RS = RS.take d.toNat ++ ((RS.drop d.toNat).take 2 ++ RS.drop (d + 2).toNat) := by
    have e1 : (d + 2).toNat = d.toNat + 2 := by omega
    rw [e1, ← List.drop_drop, List.take_append_drop, List.take_append_drop]
  have eB : wt (RS.take d.toNat) + wt (RS.drop (d + 1).toNat) ≤ wt RS := by
    have e1 : (d + 1).toNat = d.toNat + 1 := by omega
    have e2 : RS = RS.take d.toNat ++ ((RS.drop d.toNat).take 1 ++ RS.drop (d + 1).toNat) := by
      rw [e1, ← List.drop_drop, List.take_append_drop, List.take_append_drop]
    have := congrArg wt e2
    rw [wt_app, wt_app] at this
    omega
  have wA := congrArg wt eA
  rw [wt_app, wt_app] at wA
  have f1 : Fb (n + 6) (Txt.join (S "\n") (RS.take d.toNat ++ RS.drop (d + 1).toNat)) := join_fb (by rw [wt_app]; omega) (fun z hz => by
    rcases List.mem_append.mp hz with h | h
    · exact hc z (List.mem_of_mem_take h)
    · exact hc z (List.mem_of_mem_drop h))
  have j1 := joinN (zs := RS.take d.toNat ++ RS.drop (d + 1).toNat) (by rw [wt_app]; omega)
  have f2 : Fb (n + 6) (Txt.join (S "\n") (RS.take d.toNat ++ ((RS.drop d.toNat).take 2).reverse ++ RS.drop (d + 2).toNat)) := join_fb (by rw [wt_app, wt_app, wt_rev]; omega) (fun z hz => by
    rcases List.mem_append.mp hz with h | h
    · rcases List.mem_append.mp h with h | h
      · exact hc z (List.mem_of_mem_take h)
      · exact hc z (List.mem_of_mem_drop (List.mem_of_mem_take (List.mem_reverse.mp h)))
    · exact hc z (List.mem_of_mem_drop h))
  have j2 := joinN (zs := RS.take d.toNat ++ ((RS.drop d.toNat).take 2).reverse ++ RS.drop (d + 2).toNat) (by rw [wt_app, wt_app, wt_rev]; omega)
  rw [List.map_append] at j1
  rw [List.map_append, List.map_append, List.map_reverse] at j2
  have k1 := wt_len (RS.take d.toNat)
  have k2 := wt_len (RS.drop (d + 1).toNat)
  have k3 := wt_len ((RS.drop d.toNat).take 2)
  have k4 := wt_len (RS.drop (d + 2).toNat)
  have z1 : ((RS.take d.toNat).map PyData.str).length + ((RS.drop (d + 1).toNat).map PyData.str).length ≤ 16777216 := by rw [List.length_map, List.length_map]; omega
  have z2 : ((RS.take d.toNat).map PyData.str).length + ((RS.drop d.toNat).take 2 |>.map PyData.str).reverse.length ≤ 16777216 := by rw [List.length_reverse, List.length_map, List.length_map]; omega
  have z3 : ((RS.take d.toNat).map PyData.str ++ ((RS.drop d.toNat).take 2 |>.map PyData.str).reverse).length + ((RS.drop (d + 2).toNat).map PyData.str).length ≤ 16777216 := by rw [List.length_append, List.length_reverse, List.length_map, List.length_map, List.length_map]; omega
  have a1 : addD (.list ((RS.take d.toNat).map PyData.str)) (.list ((RS.drop (d + 1).toNat).map PyData.str)) = some (.list ((RS.take d.toNat).map PyData.str ++ (RS.drop (d + 1).toNat).map PyData.str)) := by
    rw [addD_list, if_pos (show _ ≤ sizeLine from z1)]
  have a2 : addD (.list ((RS.take d.toNat).map PyData.str)) (.list ((RS.drop d.toNat).take 2 |>.map PyData.str).reverse) = some (.list ((RS.take d.toNat).map PyData.str ++ ((RS.drop d.toNat).take 2 |>.map PyData.str).reverse)) := by
    rw [addD_list, if_pos (show _ ≤ sizeLine from z2)]
  have a3 : addD (.list ((RS.take d.toNat).map PyData.str ++ ((RS.drop d.toNat).take 2 |>.map PyData.str).reverse)) (.list ((RS.drop (d + 2).toNat).map PyData.str)) = some (.list ((RS.take d.toNat).map PyData.str ++ ((RS.drop d.toNat).take 2 |>.map PyData.str).reverse ++ (RS.drop (d + 2).toNat).map PyData.str)) := by
    rw [addD_list, if_pos (show _ ≤ sizeLine from z3)]
  clear z1 z2 z3 k1 k2 k3 k4 eA eB wA hc hf hpos hj hl hw hne
  by_cases h3 : P = 3
  · refine ⟨_, q2, [.d (.str T), .d (.int P), .d (.int A), .no, .d (.list (RS.map PyData.str)), .d (.int d), .no], hq2, f1, ?_⟩
    generalize (RS.take d.toNat).map PyData.str ++ (RS.drop (d + 1).toNat).map PyData.str = X2 at *
    generalize (RS.take d.toNat).map PyData.str = X0 at *
    generalize (RS.drop (d + 1).toNat).map PyData.str = X1 at *
    generalize Txt.join (S "\n") (RS.take d.toNat ++ RS.drop (d + 1).toNat) = J1 at *
    generalize RS.map PyData.str = RL at *
    generalize (RS.length : Int) = LL at *
    generalize q.l = Q1 at *
    generalize q2.l = Q2 at *
    simp [bRow, esp, put_eq, hlen, ed, h3, c1, c2, a1, j1, -splitD_str, -lenD_list, -addD_list]
  · refine ⟨_, q2, [.d (.str T), .d (.int P), .d (.int A), .no, .d (.list (RS.map PyData.str)), .d (.int d), .d (.list ((RS.drop d.toNat).take 2 |>.map PyData.str))], hq2, f2, ?_⟩
    generalize (RS.take d.toNat).map PyData.str ++ ((RS.drop d.toNat).take 2 |>.map PyData.str).reverse ++ (RS.drop (d + 2).toNat).map PyData.str = X4 at *
    generalize (RS.take d.toNat).map PyData.str ++ ((RS.drop d.toNat).take 2 |>.map PyData.str).reverse = X3 at *
    generalize ((RS.drop d.toNat).take 2 |>.map PyData.str) = X2 at *
    generalize (RS.take d.toNat).map PyData.str = X0 at *
    generalize (RS.drop (d + 2).toNat).map PyData.str = X1 at *
    generalize Txt.join (S "\n") (RS.take d.toNat ++ ((RS.drop d.toNat).take 2).reverse ++ RS.drop (d + 2).toNat) = J1 at *
    generalize RS.map PyData.str = RL at *
    generalize (RS.length : Int) = LL at *
    generalize q.l = Q1 at *
    generalize q2.l = Q2 at *
    simp [bRow, esp, put_eq, hlen, ed, h3, c1, c3, c4, a2, a3, j2, -splitD_str, -lenD_list, -addD_list]
theorem m_bent {q : Pool} (hq : q.Ok) {T : Str} {n : Nat} (hT : Fb n T) (hn : n ≤ 900) : ∃ (T' : Str) (q' : Pool), q'.Ok ∧ Fb (n + 6) T' ∧ m__law_bent [.own true q.l, .d (.str T)] = .ok (.d (.str T')) [.own true q'.l, .d (.str T)] := by
  obtain ⟨P, q2, hq2, p0, p1, ep⟩ := m_draw hq (top := 5) (by omega) (by omega)
  have hT1 := hT.1
  have hlen : lenD [.str T] = some (.int T.length) := by
    show (if _ then _ else _) = _
    rw [if_pos (show T.length ≤ sizeLine by simp only [sizeLine]; omega)]
  obtain ⟨A, q3, hq3, a0, a1, ea⟩ := m_draw hq2 (top := (T.length : Int) + 1) (by omega) (by omega)
  have X1 : (fAsg (fCallP 1 0 m__law_draw (fCons (fC (.int 5)) fNil)) (put 2)) [.own true q.l, .d (.str T), .no, .no, .no, .no, .no, .no] = .ok .nx [.own true q2.l, .d (.str T), .d (.int P), .no, .no, .no, .no, .no] := by
    simp [ep, put_eq]
  have X2 : bA (fCallP 1 0 m__law_draw (fCons (f2 addD (fCB lenD (fCons (fVar 1) fNil)) (fC (.int 1))) fNil)) [.own true q2.l, .d (.str T), .d (.int P), .no, .no, .no, .no, .no] = .ok .nx [.own true q3.l, .d (.str T), .d (.int P), .d (.int A), .no, .no, .no, .no] := by
    clear a1
    generalize (T.length : Int) = LL at *
    simp [bA, hlen, ea, put_eq, -lenD_str]
  have fin : ∀ {T' : Str} {q' : Pool} {ρ' : Rho}, (endF [.own true q.l, .d (.str T)] (.ok (.rt (.str T')) (.own true q'.l :: .d (.str T) :: ρ'))) = .ok (.d (.str T')) [.own true q'.l, .d (.str T)] := fun {T' q' ρ'} => rfl
  have fin' : ∀ {T' : Str} {q' : Pool} {ρ' : Rho}, (endF [.own true q.l, .d (.str T)] (.ok (.rt (.str T')) (.own true q'.l :: ρ'))) = .ok (.d (.str T')) [.own true q'.l, .d (.str T)] := fun {T' q' ρ'} => by
    cases ρ' with
    | nil => rfl
    | cons a ρ' => rfl
  by_cases h3 : P < 3
  · obtain ⟨T', q4, ρ', hq4, hT', e⟩ := bent_odd hq3 hT hn (P := P) a0
    have X3 : (fIfS (fTest (f2 ltD (fVar 2) (fC (.int 3)))) bOdd fNx) [.own true q3.l, .d (.str T), .d (.int P), .d (.int A), .no, .no, .no, .no] = .ok (.rt (.str T')) (.own true q4.l :: ρ') := by
      generalize bOdd = bo at *
      simp [h3, e]
    refine ⟨T', q4, hq4, hT', ?_⟩
    show endF _ (w__law_bent [.own true q.l, .d (.str T), .no, .no, .no, .no, .no, .no]) = _
    rw [bent_eq, seq_nx X1, seq_nx X2, fSeq_ap, X3]
    exact fin'
  · obtain ⟨T', q4, ρ', hq4, hT', e⟩ := bent_row hq3 hT hn (P := P) (A := A)
    have X3 : (fIfS (fTest (f2 ltD (fVar 2) (fC (.int 3)))) bOdd fNx) [.own true q3.l, .d (.str T), .d (.int P), .d (.int A), .no, .no, .no, .no] = .ok .nx [.own true q3.l, .d (.str T), .d (.int P), .d (.int A), .no, .no, .no, .no] := by
      generalize bOdd = bo at *
      simp [h3]
    refine ⟨T', q4, hq4, hT', ?_⟩
    show endF _ (w__law_bent [.own true q.l, .d (.str T), .no, .no, .no, .no, .no, .no]) = _
    rw [bent_eq, seq_nx X1, seq_nx X2, seq_nx X3, e]
    exact fin'
end Lw
namespace Lw
open PySem PySem.Spec L2 Evl Dt
open TL (tl joinL tl_join tl_ofString join_eq tl_append len_tl spl par pre)
theorem eqvAll_self {xs : List Pd} (h : ∀ x ∈ xs, PyData.eqv x x = true) : PyData.eqvAll xs xs = true := by
  induction xs with
  | nil => rfl
  | cons x xs ih =>
    simp only [PyData.eqvAll, h x List.mem_cons_self, ih fun y hy => h y (List.mem_cons_of_mem _ hy), Bool.and_self]
theorem eqv_s (z : Str) : PyData.eqv (.str z) (.str z) = true := by rw [eqv_str]; simp
theorem eqv_pat (p : Pat) : PyData.eqv p.d p.d = true := by
  show PyData.eqvAll [.tuple (p.k.map PyData.str), .int p.t] [.tuple (p.k.map PyData.str), .int p.t] = true
  refine eqvAll_self ?_
  intro x hx
  simp only [List.mem_cons, List.not_mem_nil, or_false] at hx
  rcases hx with rfl | rfl
  · show PyData.eqvAll _ _ = true
    refine eqvAll_self fun x hx => ?_
    obtain ⟨z, _, rfl⟩ := List.mem_map.mp hx
    exact eqv_s z
  · simp [PyData.eqv]
theorem eqv_wish (w : Wish) : PyData.eqv w.d w.d = true := by
  show PyData.eqvAll [.str w.n, .tuple (w.ps.map Pat.d)] [.str w.n, .tuple (w.ps.map Pat.d)] = true
  refine eqvAll_self ?_
  intro x hx
  simp only [List.mem_cons, List.not_mem_nil, or_false] at hx
  rcases hx with rfl | rfl
  · exact eqv_s _
  · show PyData.eqvAll _ _ = true
    refine eqvAll_self fun x hx => ?_
    obtain ⟨p, _, rfl⟩ := List.mem_map.mp hx
    exact eqv_pat p
theorem eqv_code (s : Str) (ws : List Wish) : PyData.eqv (Code.d ⟨s, ws⟩) (Code.d ⟨s, ws⟩) = true := by
  show PyData.eqvAll [.str s, .tuple (ws.map Wish.d)] [.str s, .tuple (ws.map Wish.d)] = true
  refine eqvAll_self ?_
  intro x hx
  simp only [List.mem_cons, List.not_mem_nil, or_false] at hx
  rcases hx with rfl | rfl
  · exact eqv_s _
  · show PyData.eqvAll _ _ = true
    refine eqvAll_self fun x hx => ?_
    obtain ⟨w, _, rfl⟩ := List.mem_map.mp hx
    exact eqv_wish w
theorem ne_read {s : Str} (hs : SgOk s) {ws : List Wish} (hw : ∀ w ∈ ws, w.Ok s) : neD (readP s ws) (readP s ws) = some (.bool false) := by
  have h60 : sh 60 (readP s ws) = true := by
    show sh 60 (.tuple [.str (S "read"), .tuple [.str s, .tuple (ws.map Wish.d)]]) = true
    rw [sh_tuple, List.all_cons, List.all_cons, List.all_nil, sh_str, sh_tuple, List.all_cons, List.all_cons, List.all_nil, sh_str, sh_tuple, Bool.and_true, Bool.and_true, Bool.and_eq_true, Bool.and_eq_true]
    refine ⟨by decide +kernel, strOk_lt fun c hc => by have := hs.let' c hc; omega, ?_⟩
    rw [List.all_map, List.all_eq_true]
    exact fun w hw' => sh_wish hs (hw w hw') 53
  have he : PyData.eqvAll [.str (S "read"), Code.d ⟨s, ws⟩] [.str (S "read"), Code.d ⟨s, ws⟩] = true := by
    refine eqvAll_self ?_
    intro x hx
    simp only [List.mem_cons, List.not_mem_nil, or_false] at hx
    rcases hx with rfl | rfl
    · exact eqv_s _
    · exact eqv_code s ws
  simp only [neD, eqB_tuple, h60, he, and_self, if_true, Option.map_some, Bool.not_true]
theorem ne_none (m : Int) : neD (noneP m) (noneP m) = some (.bool false) := by
  have h60 : sh 60 (noneP m) = true := by
    show sh 60 (.tuple [.str (S "none"), .int m]) = true
    rw [sh_tuple, List.all_cons, List.all_cons, List.all_nil, sh_str, sh_int, Bool.and_true, Bool.and_true]
    decide +kernel
  have he : PyData.eqvAll [.str (S "none"), .int m] [.str (S "none"), .int m] = true := by
    refine eqvAll_self ?_
    intro x hx
    simp only [List.mem_cons, List.not_mem_nil, or_false] at hx
    rcases hx with rfl | rfl
    · exact eqv_s _
    · simp [PyData.eqv]
  simp only [neD, eqB_tuple, h60, he, and_self, if_true, Option.map_some, Bool.not_true]
/-! ### the text at first -/
theorem join_ch {y : Str} {zs : List Str} {c : Nat} (hc : c ∈ tl (Txt.join y zs)) : c ∈ tl y ∨ ∃ z ∈ zs, c ∈ tl z := by
  rw [join_eq, tl_join] at hc
  rcases jl_mem2 _ _ c hc with hc | ⟨p, hp, hc⟩
  · exact .inl hc
  · obtain ⟨z, hz, rfl⟩ := List.mem_map.mp hp
    exact .inr ⟨z, hz, hc⟩
theorem pat_ch {s : Str} (hs : SgOk s) {p : Pat} (hp : p.Ok s) {c : Nat} (hc : c ∈ tl (patS p)) : c < 128 := by
  have e1 : tl (S " ") = [32] := by decide +kernel
  rcases join_ch hc with h | ⟨z, hz, h⟩
  · rw [e1] at h
    have := List.mem_singleton.mp h
    omega
  · rcases List.mem_append.mp hz with hz | hz
    · rcases ((kind_ok' hs hp.k).2.2.1 z hz).2 c h with h | h <;> omega
    · split at hz
      · cases hz
      · rw [List.mem_singleton.mp hz] at h
        rcases (tS_plain p.t).2 c h with h | h | h <;> omega
theorem wish_ch {s : Str} (hs : SgOk s) {w : Wish} (hw : w.Ok s) {c : Nat} (hc : c ∈ tl (wishS w)) : c < 128 := by
  have e1 : tl (S ", ") = [44, 32] := by decide +kernel
  have e2 : tl (S ": ") = [58, 32] := by decide +kernel
  unfold wishS at hc
  rw [tl_append, tl_append, List.mem_append, List.mem_append, e2] at hc
  rcases hc with (hc | hc) | hc
  · have := hw.n.2.2 c hc; omega
  · simp at hc; omega
  · rcases join_ch hc with h | ⟨z, hz, h⟩
    · rw [e1] at h; simp at h; omega
    · obtain ⟨p, hp, rfl⟩ := List.mem_map.mp hz
      exact pat_ch hs (hw.ps p hp) h
theorem code_fb {s : Str} (hs : SgOk s) {ws : List Wish} (h5 : ws.length ≤ 5) (hw : ∀ w ∈ ws, w.Ok s) : Fb 700 (codeS ⟨s, ws⟩) := by
  obtain ⟨s1, s2, s3, s4, s5, s6, s7, s8, s9⟩ := lS
  obtain ⟨r1, r2, _⟩ := rows_bd hs h5 hw
  obtain ⟨_, _, hl⟩ := join_bd (y := S "\n") 112 6 r1 r2 (by omega) (by omega)
  refine ⟨by unfold codeS; omega, fun c hc => ?_⟩
  have e1 : tl (S "\n") = [10] := by decide +kernel
  rcases join_ch hc with h | ⟨z, hz, h⟩
  · rw [e1] at h; simp at h; omega
  · rcases List.mem_cons.mp hz with rfl | hz
    · rw [tl_append, List.mem_append] at h
      rcases h with h | h
      · have e6 : tl (S "signs ") = [115, 105, 103, 110, 115, 32] := by decide +kernel
        rw [e6] at h; simp at h; omega
      · have := hs.let' c h; omega
    · obtain ⟨w, hw', rfl⟩ := List.mem_map.mp hz
      have := wish_ch hs (hw w hw') h
      omega
/-! ### the law -/
abbrev V8 (sc : Pd) (c : Int) (q : List Pd) (T : Str) (s4 s5 s6 s7 : Sl) : Rho := [.d sc, .d (.int c), .own false q, .d (.str T), s4, s5, s6, s7]
theorem one_bent {q : Pool} (hq : q.Ok) {sc : Pd} {c : Int} {T X : Str} {n : Nat} (hX : Fb n X) (hn : n ≤ 900) {s4 s6 s7 : Sl} : ∃ (X' : Str) (q' : Pool), q'.Ok ∧ Fb (n + 6) X' ∧ fb_law_2 (V8 sc c q.l T s4 (.d (.str X)) s6 s7) = .ok .nx (V8 sc c q'.l T s4 (.d (.str X')) s6 s7) := by
  obtain ⟨X', q', hq', hX', e⟩ := m_bent hq hX hn
  refine ⟨X', q', hq', hX', ?_⟩
  generalize q.l = Q1 at *
  generalize q'.l = Q2 at *
  unfold V8
  simp [fb_law_2, e, put_eq]
theorem bents {sc : Pd} {c : Int} {T : Str} {s4 s7 : Sl} : ∀ (xs : List Pd) (n : Nat) {q : Pool} (hq : q.Ok) {X : Str} {s6 : Sl} (i6 : isIo s6 = false) (hX : Fb n X) (hn : n + 6 * xs.length ≤ 900), ∃ (X' : Str) (q' : Pool) (t6 : Sl), q'.Ok ∧ isIo t6 = false ∧ Fb (n + 6 * xs.length) X' ∧ forRun (put 6) fb_law_2 xs (V8 sc c q.l T s4 (.d (.str X)) s6 s7) = .ok .nx (V8 sc c q'.l T s4 (.d (.str X')) t6 s7)
  | [], n, q, hq, X, s6, i6, hX, hn => ⟨X, q, s6, hq, i6, hX, rfl⟩
  | x :: xs, n, q, hq, X, s6, i6, hX, hn => by
    rw [List.length_cons] at hn
    obtain ⟨X1, q1, hq1, hX1, e⟩ := one_bent hq (sc := sc) (c := c) (T := T) hX (by omega) (s4 := s4) (s6 := .d x) (s7 := s7)
    obtain ⟨X2, q2, t6, hq2, i2, hX2, e2⟩ := bents xs (n + 6) hq1 (s6 := .d x) rfl hX1 (by omega)
    refine ⟨X2, q2, t6, hq2, i2, hX2.mono (by rw [List.length_cons]; omega), ?_⟩
    rw [for_go (ρ1 := V8 sc c q.l T s4 (.d (.str X)) (.d x) s7) (by unfold V8; simp [put_eq, i6]) e, e2]
def last1 : Rho → R Fl := (fIfS (fOr (fTest (f2 neD (fCall 1 m__law_told (fCons (fVar 5) fNil)) (fVar 7))) (fAnd (fTest (f2 eqD (f2 ixD (fVar 7) (fC (.int 0))) (fC (.str "read")))) (fTest (f2 neD (fCall 1 m_show_code (fCons (f2 ixD (fVar 7) (fC (.int 1))) fNil)) (fVar 5))))) (fRet (fC (.bool false))) fNx)
theorem fb1_eq : fb_law_1 = fSeq (fAsg (fVar 3) (put 5)) (fSeq (fFor (fRng1 (fCons (f2 addD (fC (.int 1)) (fCallP 1 2 m__law_draw (fCons (fC (.int 2)) fNil))) fNil)) (put 6) fb_law_2) (fSeq (fAsg (fCall 1 m__law_reading (fCons (fVar 5) fNil)) (put 7)) last1)) := rfl
theorem look {q : List Pd} {sc : Pd} {c : Int} {T X : Str} (hX : Ft X) {s4 s6 s7 : Sl} (i7 : isIo s7 = false) : ∃ d : Pd, (fAsg (fCall 1 m__law_reading (fCons (fVar 5) fNil)) (put 7)) (V8 sc c q T s4 (.d (.str X)) s6 s7) = .ok .nx (V8 sc c q T s4 (.d (.str X)) s6 (.d d)) ∧ last1 (V8 sc c q T s4 (.d (.str X)) s6 (.d d)) = .ok .nx (V8 sc c q T s4 (.d (.str X)) s6 (.d d)) := by
  rcases reading_both hX with ⟨m, ⟨as, e1⟩, e2⟩ | ⟨s, ws, hs, h1, h5, hw, ec, e1, e2⟩
  · refine ⟨noneP m, ?_, ?_⟩
    · unfold V8
      generalize noneP m = D at *
      simp [e2, put_eq, i7]
    · have e3 := told_ex e1
      have hn := ne_none m
      have i0 : ixD (noneP m) (.int 0) = some (.str (S "none")) := rfl
      have hne : ¬ (S "none" = S "read") := by decide +kernel
      unfold V8
      generalize noneP m = D at *
      simp [last1, e3, hn, i0, hne]
  · refine ⟨readP s ws, ?_, ?_⟩
    · unfold V8
      generalize readP s ws = D at *
      simp [e2, put_eq, i7]
    · have e3 := told_ok e1
      have e3' : m__law_told [.d (.str X)] = .ok (.d (readP s ws)) [.d (.str X)] := e3
      have hn := ne_read hs hw
      have i0 : ixD (readP s ws) (.int 0) = some (.str (S "read")) := rfl
      have i1 : ixD (readP s ws) (.int 1) = some (Code.d ⟨s, ws⟩) := rfl
      have e4 := m_showcode hs h5 hw
      rw [ec] at e4
      have nx : neD (.str X) (.str X) = some (.bool false) := by simp
      clear e3
      unfold V8
      generalize Code.d ⟨s, ws⟩ = CD at *
      generalize readP s ws = D at *
      simp [last1, e3', hn, i0, i1, e4, nx]
theorem one_turn {q : Pool} (hq : q.Ok) {sc : Pd} {c : Int} {T : Str} (hT : Fb 700 T) {s4 s5 s6 s7 : Sl} (i5 : isIo s5 = false) (i6 : isIo s6 = false) (i7 : isIo s7 = false) : ∃ (q' : Pool) (t5 t6 t7 : Sl), q'.Ok ∧ isIo t5 = false ∧ isIo t6 = false ∧ isIo t7 = false ∧ fb_law_1 (V8 sc c q.l T s4 s5 s6 s7) = .ok .nx (V8 sc c q'.l T s4 t5 t6 t7) := by
  obtain ⟨d, q2, hq2, d0, d1, ed⟩ := m_draw hq (top := 2) (by omega) (by omega)
  have X1 : (fAsg (fVar 3) (put 5)) (V8 sc c q.l T s4 s5 s6 s7) = .ok .nx (V8 sc c q.l T s4 (.d (.str T)) s6 s7) := by
    unfold V8
    simp [put_eq, i5]
  have hln : (nums 0 (1 + d).toNat).length ≤ 2 := by
    unfold nums
    rw [List.length_map, List.length_range]
    omega
  obtain ⟨X', q', t6, hq', j6, hX', e⟩ := bents (sc := sc) (c := c) (T := T) (s4 := s4) (s7 := s7) (nums 0 (1 + d).toNat) 700 hq2 (X := T) i6 hT (by omega)
  have X2 : (fFor (fRng1 (fCons (f2 addD (fC (.int 1)) (fCallP 1 2 m__law_draw (fCons (fC (.int 2)) fNil))) fNil)) (put 6) fb_law_2) (V8 sc c q.l T s4 (.d (.str T)) s6 s7) = .ok .nx (V8 sc c q'.l T s4 (.d (.str X')) t6 s7) := by
    unfold V8 at e ⊢
    have r1 : (-4611686018427387904 : Int) ≤ 1 + d ∧ 1 + d < 4611686018427387904 := by omega
    generalize q.l = Q1 at *
    generalize q2.l = Q2 at *
    generalize q'.l = Q3 at *
    simp [ed, r1.1, r1.2, e]
  obtain ⟨dd, X3, X4⟩ := look (q := q'.l) (sc := sc) (c := c) (T := T) (s4 := s4) (s6 := t6) (s7 := s7) (hX'.ft (by omega)) i7
  refine ⟨q', .d (.str X'), t6, .d dd, hq', rfl, j6, rfl, ?_⟩
  rw [fb1_eq, seq_nx X1, seq_nx X2, seq_nx X3, X4]
theorem turns {sc : Pd} {c : Int} {T : Str} (hT : Fb 700 T) : ∀ (xs : List Pd) {q : Pool} (hq : q.Ok) {s4 s5 s6 s7 : Sl} (i4 : isIo s4 = false) (i5 : isIo s5 = false) (i6 : isIo s6 = false) (i7 : isIo s7 = false), ∃ (q' : Pool) (t4 t5 t6 t7 : Sl), q'.Ok ∧ isIo t4 = false ∧ isIo t5 = false ∧ isIo t6 = false ∧ isIo t7 = false ∧ forRun (put 4) fb_law_1 xs (V8 sc c q.l T s4 s5 s6 s7) = .ok .nx (V8 sc c q'.l T t4 t5 t6 t7)
  | [], q, hq, s4, s5, s6, s7, i4, i5, i6, i7 => ⟨q, s4, s5, s6, s7, hq, i4, i5, i6, i7, rfl⟩
  | x :: xs, q, hq, s4, s5, s6, s7, i4, i5, i6, i7 => by
    obtain ⟨q1, t5, t6, t7, hq1, j5, j6, j7, e⟩ := one_turn hq (sc := sc) (c := c) hT (s4 := .d x) i5 i6 i7
    obtain ⟨q2, u4, u5, u6, u7, hq2, k4, k5, k6, k7, e2⟩ := turns hT xs hq1 (s4 := .d x) rfl j5 j6 j7
    refine ⟨q2, u4, u5, u6, u7, hq2, k4, k5, k6, k7, ?_⟩
    rw [for_go (ρ1 := V8 sc c q.l T (.d x) s5 s6 s7) (by unfold V8; simp [put_eq, i4]) e, e2]
theorem turn {cell : Int} {sc : Pd} {s2 s3 s4 s5 s6 s7 : Sl} (i2 : isIo s2 = false) (i3 : isIo s3 = false) (i4 : isIo s4 = false) (i5 : isIo s5 = false) (i6 : isIo s6 = false) (i7 : isIo s7 = false) : ∃ t2 t3 t4 t5 t6 t7, isIo t2 = false ∧ isIo t3 = false ∧ isIo t4 = false ∧ isIo t5 = false ∧ isIo t6 = false ∧ isIo t7 = false ∧ fb_law_0 [.d sc, .d (.int cell), s2, s3, s4, s5, s6, s7] = .ok .nx [.d sc, .d (.int cell), t2, t3, t4, t5, t6, t7] := by
  obtain ⟨q, hq, e0⟩ := m_pool cell
  obtain ⟨c, q2, hq2, hc, e1⟩ := m_code hq 3 (by omega) (by omega)
  obtain ⟨s, ws⟩ := c
  have hs : SgOk s := hc.s
  have h4 : ws.length ≤ 3 := by have := hc.lm; simp only at this; omega
  have hw : ∀ w ∈ ws, w.Ok s := hc.ws
  have mr := m_rows hs (ws := ws) (by omega) hw
  obtain ⟨r1, r2, r3⟩ := rows_bd hs (ws := ws) (by omega) hw
  obtain ⟨jw, _, _⟩ := join_bd (y := S "\n") 112 6 r1 r2 (by rw [nlen]; omega) (by omega)
  have hT := code_fb hs (ws := ws) (by omega) hw
  obtain ⟨q3, t4, t5, t6, t7, hq3, j4, j5, j6, j7, e⟩ := turns (sc := sc) (c := cell) hT (nums 0 6) hq2 i4 i5 i6 i7
  refine ⟨.own false q3.l, .d (.str (codeS ⟨s, ws⟩)), t4, t5, t6, t7, rfl, rfl, j4, j5, j6, j7, ?_⟩
  unfold codeS at *
  unfold V8 at e
  clear hT
  generalize q.l = Q0 at *
  generalize q2.l = Q2 at *
  generalize q3.l = Q3 at *
  generalize Txt.join (S "\n") (rowsC ⟨s, ws⟩) = T at *
  generalize (rowsC ⟨s, ws⟩).map PyData.str = RR at *
  generalize Code.d ⟨s, ws⟩ = CD at *
  simp [fb_law_0, e0, putOwn_eq, i2, e1, put_eq, i3, mr, jw, e]
def lawP (fb : Rho → R Fl) : Rho → R Fl :=
  (fSeq (fFor (fItL (f2 addD (fL (fLst (fCons (fC (.int 0)) fNil))) (fSl slD (fVar 0) fNoPart (fPart (fC (.int 12)))))) (put 1) fb)
  (fRet (fC (.bool true))))
theorem law_eq : m_law = gOf 8 (lawP fb_law_0) := rfl
theorem law_fin {fb : Rho → R Fl} {NS CS : List Pd} {s1 s2 s3 s4 s5 s6 s7 : Sl} (hc : cutD NS none (some 12) = CS) (z : 1 + CS.length ≤ 16777216) (e : forRun (put 1) fb (.int 0 :: CS) [.d (.list NS), .no, .no, .no, .no, .no, .no, .no] = .ok .nx [.d (.list NS), s1, s2, s3, s4, s5, s6, s7]) : gOf 8 (lawP fb) [.d (.list NS)] = .ok (.d (.bool true)) [.d (.list NS)] := by
  simp [gOf, lawP, sizeLine, hc, z, e]
theorem math (ns : List Int) (h : ns.length ≤ 63) (hb : ∀ z ∈ ns, Dt.bits z ≤ 1048576) : ∃ as', m_law [.d (.list (ns.map PyData.int))] = .ok (.d (.bool true)) as' := by
  have hcut : ∀ x ∈ cutD (ns.map PyData.int) none (some 12), ∃ c, x = .int c := fun x hx => by
    unfold cutD at hx
    have hx := List.mem_of_mem_drop (List.mem_of_mem_take hx)
    obtain ⟨c, hc, rfl⟩ := List.mem_map.mp hx
    exact ⟨c, rfl⟩
  have hlen : (cutD (ns.map PyData.int) none (some 12)).length ≤ 63 := by
    unfold cutD
    rw [List.length_take, List.length_drop, List.length_map]
    omega
  obtain ⟨ρ', e, s1, s2, s3, s4, s5, s6, s7, i1, i2, i3, i4, i5, i6, i7, rfl⟩ := for_inv (h := put 1) (fb := fb_law_0) (xs := .int 0 :: cutD (ns.map PyData.int) none (some 12)) (ρ := [.d (.list (ns.map PyData.int)), .no, .no, .no, .no, .no, .no, .no])
    (fun i ρ => ∃ s1 s2 s3 s4 s5 s6 s7 : Sl, isIo s1 = false ∧ isIo s2 = false ∧ isIo s3 = false ∧ isIo s4 = false ∧ isIo s5 = false ∧ isIo s6 = false ∧ isIo s7 = false ∧ ρ = [.d (.list (ns.map PyData.int)), s1, s2, s3, s4, s5, s6, s7])
    (fun i x ρ hx hI => by
      obtain ⟨s1, s2, s3, s4, s5, s6, s7, i1, i2, i3, i4, i5, i6, i7, rfl⟩ := hI
      obtain ⟨c, rfl⟩ : ∃ c, x = .int c := by
        rcases List.mem_cons.mp (List.mem_of_getElem? hx) with rfl | hx
        · exact ⟨0, rfl⟩
        · exact hcut x hx
      obtain ⟨t2, t3, t4, t5, t6, t7, j2, j3, j4, j5, j6, j7, e⟩ := turn (sc := .list (ns.map PyData.int)) (cell := c) i2 i3 i4 i5 i6 i7
      exact ⟨_, _, by simp [put_eq, i1], .inl e, _, t2, t3, t4, t5, t6, t7, rfl, j2, j3, j4, j5, j6, j7, rfl⟩)
    ⟨.no, .no, .no, .no, .no, .no, .no, rfl, rfl, rfl, rfl, rfl, rfl, rfl, rfl⟩
  have z : 1 + (cutD (ns.map PyData.int) none (some 12)).length ≤ 16777216 := by omega
  exact ⟨_, by rw [law_eq]; exact law_fin rfl z e⟩
end Lw
namespace Lw
open PySem PySem.Spec L2 Evl Dt
abbrev Rr : PySem.W.OpenRow := PySem.W.OpenLaw.row PySem.Challenge.rw_wishladder_k06_whole_texts_of_codes
abbrev hk : PySem.W.Hook := hookF 4 fa fn exB tbs
def ob (s : PySem.W.SharedT) : AlF := obsF 4 fa fn exB tbs (HandSHeadRun.getT s)
theorem ob_eq (s : PySem.W.SharedT) : ob s = hk.obs s.abs := obsF_eq (HandSHeadRun.getT_eq s)
theorem run (w : World) : HandSHeadRun.RunEq Rr (PySem.W.view Rr.prog [46]) hk ob 6000 [("LadderError" : PySem.Str), ("NoText" : PySem.Str), ("SMALL" : PySem.Str), ("EDGE" : PySem.Str), ("MOST_LETTERS" : PySem.Str), ("is_whole" : PySem.Str), ("is_name" : PySem.Str), ("is_rising" : PySem.Str), ("is_text_of" : PySem.Str), ("MOST_SIGNS" : PySem.Str), ("MOST_WISHES" : PySem.Str), ("MOST_TIMES" : PySem.Str), ("MOST_PATTERNS" : PySem.Str), ("SETS" : PySem.Str), ("are_signs" : PySem.Str), ("is_set" : PySem.Str), ("is_pattern" : PySem.Str), ("is_counted" : PySem.Str), ("is_wish" : PySem.Str), ("are_wishes" : PySem.Str), ("TIMES" : PySem.Str), ("show_pattern" : PySem.Str), ("show_wish" : PySem.Str), ("show_code" : PySem.Str), ("pattern_in" : PySem.Str), ("wish_in" : PySem.Str), ("read_code" : PySem.Str), ("_law_pool" : PySem.Str), ("_law_draw" : PySem.Str), ("_law_name" : PySem.Str), ("_law_signs" : PySem.Str), ("_law_set" : PySem.Str), ("_law_pattern" : PySem.Str), ("_law_code" : PySem.Str), ("_law_rows" : PySem.Str), ("_law_bent" : PySem.Str), ("_law_is_set" : PySem.Str), ("_law_pattern_of" : PySem.Str), ("_law_wish_of" : PySem.Str), ("_law_reading" : PySem.Str), ("_law_told" : PySem.Str)] w := by
  refine PySem.W.byRow2 "special-get-raises" (P := fun w => HandSHeadRun.RunEq Rr (PySem.W.view Rr.prog [46]) hk ob 6000 [("LadderError" : PySem.Str), ("NoText" : PySem.Str), ("SMALL" : PySem.Str), ("EDGE" : PySem.Str), ("MOST_LETTERS" : PySem.Str), ("is_whole" : PySem.Str), ("is_name" : PySem.Str), ("is_rising" : PySem.Str), ("is_text_of" : PySem.Str), ("MOST_SIGNS" : PySem.Str), ("MOST_WISHES" : PySem.Str), ("MOST_TIMES" : PySem.Str), ("MOST_PATTERNS" : PySem.Str), ("SETS" : PySem.Str), ("are_signs" : PySem.Str), ("is_set" : PySem.Str), ("is_pattern" : PySem.Str), ("is_counted" : PySem.Str), ("is_wish" : PySem.Str), ("are_wishes" : PySem.Str), ("TIMES" : PySem.Str), ("show_pattern" : PySem.Str), ("show_wish" : PySem.Str), ("show_code" : PySem.Str), ("pattern_in" : PySem.Str), ("wish_in" : PySem.Str), ("read_code" : PySem.Str), ("_law_pool" : PySem.Str), ("_law_draw" : PySem.Str), ("_law_name" : PySem.Str), ("_law_signs" : PySem.Str), ("_law_set" : PySem.Str), ("_law_pattern" : PySem.Str), ("_law_code" : PySem.Str), ("_law_rows" : PySem.Str), ("_law_bent" : PySem.Str), ("_law_is_set" : PySem.Str), ("_law_pattern_of" : PySem.Str), ("_law_wish_of" : PySem.Str), ("_law_reading" : PySem.Str), ("_law_told" : PySem.Str)] w) (fun w => ?_) (fun w => ?_) w
  · intro os
    kernel_rfl
  · intro os
    kernel_rfl
theorem facts {P : Program} {w : World} {K : PySem.W.Frag} {h : Heap} {mg : Str → Option Value} {f : Addr} (X : K.In h) (G : h.Ns mainGlobals mg) (hfa : mg ("law" : Str) = some (.ref f)) (c : He.SaysD fa fn K) (xb : exB K = true) (tb : ∀ (i : Nat) {t : TabD}, tbs[i]? = some t → TabK K w (He.ga K t.1) t.2) :
    ∃ (C : Str → Addr) (fd : FuncData), (∀ (s : Shared) (v : Value), BindsTo s fd ⟨[v], []⟩ [("_law_script", v)]) ∧ ∀ base : Heap, K.In base → base.Ns mainGlobals mg → FnOk P w K mg base (L2.CX P w) 9 f fd ["_law_script"] (spF ⟨K, C⟩ 1 m_law) := by
  obtain ⟨fd0, F0⟩ := c.def_ 0 (d := d_is_whole) rfl
  obtain ⟨fd1, F1⟩ := c.def_ 1 (d := d_is_name) rfl
  obtain ⟨fd2, F2⟩ := c.def_ 2 (d := d_is_rising) rfl
  obtain ⟨fd3, F3⟩ := c.def_ 3 (d := d_is_text_of) rfl
  obtain ⟨fd4, F4⟩ := c.def_ 4 (d := d_are_signs) rfl
  obtain ⟨fd5, F5⟩ := c.def_ 5 (d := d_is_set) rfl
  obtain ⟨fd6, F6⟩ := c.def_ 6 (d := d_is_pattern) rfl
  obtain ⟨fd7, F7⟩ := c.def_ 7 (d := d_is_counted) rfl
  obtain ⟨fd8, F8⟩ := c.def_ 8 (d := d_is_wish) rfl
  obtain ⟨fd9, F9⟩ := c.def_ 9 (d := d_are_wishes) rfl
  obtain ⟨fd10, F10⟩ := c.def_ 10 (d := d_show_pattern) rfl
  obtain ⟨fd11, F11⟩ := c.def_ 11 (d := d_show_wish) rfl
  obtain ⟨fd12, F12⟩ := c.def_ 12 (d := d_show_code) rfl
  obtain ⟨fd13, F13⟩ := c.def_ 13 (d := d_pattern_in) rfl
  obtain ⟨fd14, F14⟩ := c.def_ 14 (d := d_wish_in) rfl
  obtain ⟨fd15, F15⟩ := c.def_ 15 (d := d_read_code) rfl
  obtain ⟨fd16, F16⟩ := c.def_ 16 (d := d__law_pool) rfl
  obtain ⟨fd17, F17⟩ := c.def_ 17 (d := d__law_draw) rfl
  obtain ⟨fd18, F18⟩ := c.def_ 18 (d := d__law_name) rfl
  obtain ⟨fd19, F19⟩ := c.def_ 19 (d := d__law_signs) rfl
  obtain ⟨fd20, F20⟩ := c.def_ 20 (d := d__law_set) rfl
  obtain ⟨fd21, F21⟩ := c.def_ 21 (d := d__law_pattern) rfl
  obtain ⟨fd22, F22⟩ := c.def_ 22 (d := d__law_code) rfl
  obtain ⟨fd23, F23⟩ := c.def_ 23 (d := d__law_rows) rfl
  obtain ⟨fd24, F24⟩ := c.def_ 24 (d := d__law_bent) rfl
  obtain ⟨fd25, F25⟩ := c.def_ 25 (d := d__law_is_set) rfl
  obtain ⟨fd26, F26⟩ := c.def_ 26 (d := d__law_pattern_of) rfl
  obtain ⟨fd27, F27⟩ := c.def_ 27 (d := d__law_wish_of) rfl
  obtain ⟨fd28, F28⟩ := c.def_ 28 (d := d__law_reading) rfl
  obtain ⟨fd29, F29⟩ := c.def_ 29 (d := d__law_told) rfl
  obtain ⟨fd30, F30⟩ := c.def_ 30 (d := d_law) rfl
  obtain ⟨fi0, Fi0⟩ := c.def_ 31 (d := d_NoText) rfl
  let T : TX K mg w := {
    f_is_whole := ⟨_, fd0, F0, He.glo_ok X G (c.fact 0 (f := .glo "is_whole") rfl)⟩,
    f_is_name := ⟨_, fd1, F1, He.glo_ok X G (c.fact 1 (f := .glo "is_name") rfl)⟩,
    f_is_rising := ⟨_, fd2, F2, He.glo_ok X G (c.fact 2 (f := .glo "is_rising") rfl)⟩,
    f_is_text_of := ⟨_, fd3, F3, He.glo_ok X G (c.fact 3 (f := .glo "is_text_of") rfl)⟩,
    f_are_signs := ⟨_, fd4, F4, He.glo_ok X G (c.fact 4 (f := .glo "are_signs") rfl)⟩,
    f_is_set := ⟨_, fd5, F5, He.glo_ok X G (c.fact 5 (f := .glo "is_set") rfl)⟩,
    f_is_pattern := ⟨_, fd6, F6, He.glo_ok X G (c.fact 6 (f := .glo "is_pattern") rfl)⟩,
    f_is_counted := ⟨_, fd7, F7, He.glo_ok X G (c.fact 7 (f := .glo "is_counted") rfl)⟩,
    f_is_wish := ⟨_, fd8, F8, He.glo_ok X G (c.fact 8 (f := .glo "is_wish") rfl)⟩,
    f_are_wishes := ⟨_, fd9, F9, He.glo_ok X G (c.fact 9 (f := .glo "are_wishes") rfl)⟩,
    f_show_pattern := ⟨_, fd10, F10, He.glo_ok X G (c.fact 10 (f := .glo "show_pattern") rfl)⟩,
    f_show_wish := ⟨_, fd11, F11, He.glo_ok X G (c.fact 11 (f := .glo "show_wish") rfl)⟩,
    f_show_code := ⟨_, fd12, F12, He.glo_ok X G (c.fact 12 (f := .glo "show_code") rfl)⟩,
    f_pattern_in := ⟨_, fd13, F13, He.glo_ok X G (c.fact 13 (f := .glo "pattern_in") rfl)⟩,
    f_wish_in := ⟨_, fd14, F14, He.glo_ok X G (c.fact 14 (f := .glo "wish_in") rfl)⟩,
    f_read_code := ⟨_, fd15, F15, He.glo_ok X G (c.fact 15 (f := .glo "read_code") rfl)⟩,
    f__law_pool := ⟨_, fd16, F16, He.glo_ok X G (c.fact 16 (f := .glo "_law_pool") rfl)⟩,
    f__law_draw := ⟨_, fd17, F17, He.glo_ok X G (c.fact 17 (f := .glo "_law_draw") rfl)⟩,
    f__law_name := ⟨_, fd18, F18, He.glo_ok X G (c.fact 18 (f := .glo "_law_name") rfl)⟩,
    f__law_signs := ⟨_, fd19, F19, He.glo_ok X G (c.fact 19 (f := .glo "_law_signs") rfl)⟩,
    f__law_set := ⟨_, fd20, F20, He.glo_ok X G (c.fact 20 (f := .glo "_law_set") rfl)⟩,
    f__law_pattern := ⟨_, fd21, F21, He.glo_ok X G (c.fact 21 (f := .glo "_law_pattern") rfl)⟩,
    f__law_code := ⟨_, fd22, F22, He.glo_ok X G (c.fact 22 (f := .glo "_law_code") rfl)⟩,
    f__law_rows := ⟨_, fd23, F23, He.glo_ok X G (c.fact 23 (f := .glo "_law_rows") rfl)⟩,
    f__law_bent := ⟨_, fd24, F24, He.glo_ok X G (c.fact 24 (f := .glo "_law_bent") rfl)⟩,
    f__law_is_set := ⟨_, fd25, F25, He.glo_ok X G (c.fact 25 (f := .glo "_law_is_set") rfl)⟩,
    f__law_pattern_of := ⟨_, fd26, F26, He.glo_ok X G (c.fact 26 (f := .glo "_law_pattern_of") rfl)⟩,
    f__law_wish_of := ⟨_, fd27, F27, He.glo_ok X G (c.fact 27 (f := .glo "_law_wish_of") rfl)⟩,
    f__law_reading := ⟨_, fd28, F28, He.glo_ok X G (c.fact 28 (f := .glo "_law_reading") rfl)⟩,
    f__law_told := ⟨_, fd29, F29, He.glo_ok X G (c.fact 29 (f := .glo "_law_told") rfl)⟩,
    f_law := ⟨_, fd30, F30, He.glo_ok X G (c.fact 30 (f := .glo "law") rfl)⟩,
    m_abs := He.free_ok X G (c.fact 31 (f := .free "abs") rfl),
    m_all := He.free_ok X G (c.fact 32 (f := .free "all") rfl),
    m_bool := He.free_ok X G (c.fact 33 (f := .free "bool") rfl),
    m_int := He.free_ok X G (c.fact 34 (f := .free "int") rfl),
    m_isinstance := He.free_ok X G (c.fact 35 (f := .free "isinstance") rfl),
    m_len := He.free_ok X G (c.fact 36 (f := .free "len") rfl),
    m_range := He.free_ok X G (c.fact 37 (f := .free "range") rfl),
    m_set := He.free_ok X G (c.fact 38 (f := .free "set") rfl),
    m_sorted := He.free_ok X G (c.fact 39 (f := .free "sorted") rfl),
    m_str := He.free_ok X G (c.fact 40 (f := .free "str") rfl),
    m_tuple := He.free_ok X G (c.fact 41 (f := .free "tuple") rfl),
    y_LadderError := He.glo_ok X G (c.fact 42 (f := .glo "LadderError") rfl),
    y_NoText := He.glo_ok X G (c.fact 43 (f := .glo "NoText") rfl),
    c_EDGE := He.str_ok X G (c.fact 44 (f := .str "EDGE" "#") rfl),
    c_MOST_LETTERS := He.int_ok X G (c.fact 45 (f := .int "MOST_LETTERS" 8) rfl),
    c_MOST_PATTERNS := He.int_ok X G (c.fact 46 (f := .int "MOST_PATTERNS" 3) rfl),
    c_MOST_SIGNS := He.int_ok X G (c.fact 47 (f := .int "MOST_SIGNS" 3) rfl),
    c_MOST_TIMES := He.int_ok X G (c.fact 48 (f := .int "MOST_TIMES" 3) rfl),
    c_MOST_WISHES := He.int_ok X G (c.fact 49 (f := .int "MOST_WISHES" 5) rfl),
    c_SMALL := He.str_ok X G (c.fact 50 (f := .str "SMALL" "abcdefghijklmnopqrstuvwxyz") rfl),
    t_SETS := ⟨_, He.glo_ok X G (c.fact 51 (f := .glo "SETS") rfl), tb 0 (t := ("SETS", tab_SETS)) rfl⟩,
    t_TIMES := ⟨_, He.glo_ok X G (c.fact 52 (f := .glo "TIMES") rfl), tb 1 (t := ("TIMES", tab_TIMES)) rfl⟩,
    x_is := okIs_ok (Bool.and_eq_true_iff.mp xb).1,
    x_ex := okEx_ok (Bool.and_eq_true_iff.mp (Bool.and_eq_true_iff.mp xb).2).1,
    i_NoText := InI.of Fi0 (He.glo_ok X G (c.fact 43 (f := .glo "NoText") rfl)) (Bool.and_eq_true_iff.mp (Bool.and_eq_true_iff.mp xb).2).2 }
  have e := hfa.symm.trans (He.glo_ok X G (c.fact 30 (f := .glo "law") rfl))
  cases e
  have b := FunD.bindsA (ps := ["_law_script"]) F30 fun _ _ _ _ _ _ us hl => match us, hl with | [_], _ => rfl
  exact ⟨fun _ => 0, fd30, fun s v => b s [v] rfl, fun base _ _ => ok_law T⟩
end Lw
open PySem PySem.W PySem.Calls PyProof.Rows
set_option maxHeartbeats 0 in
theorem PySem.Challenge.cw_wishladder_k06_whole_texts_of_codes_holds : PySem.Challenge.rw_wishladder_k06_whole_texts_of_codes.Holds := by
  w_on; o_law
  refine HandSHeadRun.head_any (r := OpenLaw.row PySem.Challenge.rw_wishladder_k06_whole_texts_of_codes) (q := view (OpenLaw.row PySem.Challenge.rw_wishladder_k06_whole_texts_of_codes).prog [46]) (H := Lw.hk) (ob := Lw.ob) (M := 6000) (loose := [("LadderError" : PySem.Str), ("NoText" : PySem.Str), ("SMALL" : PySem.Str), ("EDGE" : PySem.Str), ("MOST_LETTERS" : PySem.Str), ("is_whole" : PySem.Str), ("is_name" : PySem.Str), ("is_rising" : PySem.Str), ("is_text_of" : PySem.Str), ("MOST_SIGNS" : PySem.Str), ("MOST_WISHES" : PySem.Str), ("MOST_TIMES" : PySem.Str), ("MOST_PATTERNS" : PySem.Str), ("SETS" : PySem.Str), ("are_signs" : PySem.Str), ("is_set" : PySem.Str), ("is_pattern" : PySem.Str), ("is_counted" : PySem.Str), ("is_wish" : PySem.Str), ("are_wishes" : PySem.Str), ("TIMES" : PySem.Str), ("show_pattern" : PySem.Str), ("show_wish" : PySem.Str), ("show_code" : PySem.Str), ("pattern_in" : PySem.Str), ("wish_in" : PySem.Str), ("read_code" : PySem.Str), ("_law_pool" : PySem.Str), ("_law_draw" : PySem.Str), ("_law_name" : PySem.Str), ("_law_signs" : PySem.Str), ("_law_set" : PySem.Str), ("_law_pattern" : PySem.Str), ("_law_code" : PySem.Str), ("_law_rows" : PySem.Str), ("_law_bent" : PySem.Str), ("_law_is_set" : PySem.Str), ("_law_pattern_of" : PySem.Str), ("_law_wish_of" : PySem.Str), ("_law_reading" : PySem.Str), ("_law_told" : PySem.Str)]) (d := HandSHeadRun.topDef (OpenLaw.row PySem.Challenge.rw_wishladder_k06_whole_texts_of_codes).prog 46) (kwd := []) Lw.ob_eq
    (by kernel_rfl) (fun s => by kernel_rfl) Lw.run (by kernel_rfl) (by kernel_rfl) (by kernel_rfl) (by rfl) (by first | assumption | decide +kernel) (by decide +kernel) ⟨rfl, rfl, rfl, rfl, rfl, by decide +kernel⟩ ?hw ?hc
  case hw => w_witness2
  case hc =>
    refine Dt.walk_D (l := PySem.Challenge.rw_wishladder_k06_whole_texts_of_codes) (n := 63) (k := 9) (x := "_law_script") (m := Lw.m_law) rfl (by decide) (by kernel_rfl) ⟨rfl, by decide, by decide⟩ ?F Lw.math
    intro w mg fa h Y G hmg0
    obtain ⟨K, KX, c⟩ := Y
    have hmg : mg ("law" : PySem.Str) = some (.ref fa) := by
      have e : (HandSHeadRun.topDef (OpenLaw.row PySem.Challenge.rw_wishladder_k06_whole_texts_of_codes).prog 46).name = ("law" : PySem.Str) := by kernel_rfl
      rw [← e]
      exact hmg0
    obtain ⟨C, fd, hb, hF⟩ := Lw.facts (P := (PySem.Challenge.rw_wishladder_k06_whole_texts_of_codes).prog) (w := w) KX G hmg (Dt.saysF_d c) (Dt.saysF_x c) (fun i _ h => Dt.saysF_t c i h)
    exact ⟨K, C, fd, KX, hb, hF⟩
