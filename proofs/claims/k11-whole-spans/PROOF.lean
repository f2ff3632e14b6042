import PyProof.Rows.All
import Wide.All
import OpenK.AllK
import Wide.FinOn
import HandS.ForMost
import HandS.ForExc
import HandS.IsInst
import HandS.Wide
import HandS.WideBits
import HandS.FStr
import HandS.TupLe
import HandS.Flow
import HandS.Lambda
import HandS.TryMany
import HandS.CallSlots
import HandS.ExcField
import HandS.HotCalls
import HandS.Star
import HandS.Property
import HandS.MakeKw
import HandS.EndBits
import HandS.SortInts
import PyProof.ReprRoads
import HandS.NoneIn
import KE.KCallOwn
import KE.KOpsOwn
import PyProof.InstNe
import HandS.RaiseMore
import PyProof.StrLawsRepr
import HandS.ClsMeth
import KE.DatumOrd
import HandS.Dict
import HandS.ExcInit
import KE.KExcInit
import HandS.ExcIs
import PySem.Challenge.RW_abreast_k11_whole_spans_by_own_sums
set_option Elab.async false
set_option maxRecDepth 100000
set_option maxHeartbeats 4000000
set_option linter.all false
/-! DL: values as data. -/
namespace DL
open PySem L2

inductive D where
  | non
  | bl (b : Bool)
  | int (i : Int)
  | str (x : Str)
  | ty (n : String)
  | ref (a : Addr)
  | tup (xs : List D)
  | lst (xs : List D)
  | scr (xs : List D)
  | dic (kvs : List (Key × D))
  | ob (c : Nat) (xs : List D)
  | exc (a dd : Addr) (c : Nat) (xs : List D)
  | fn (f c : Addr) (q : Str) (vs : List V) (xs : List D)

/-- a class of the program: where it stands, its instances' fields in their order -/
structure CI where
  addr : Addr
  flds : List Str
abbrev CT := Nat → CI

mutual
inductive Rep (G : CT) (F : Hp) : V → D → Prop where
  | non : Rep G F .non .non
  | bl (b : Bool) : Rep G F (.bl b) (.bl b)
  | int (i : Int) : Rep G F (.int i) (.int i)
  | str (x : Str) : Rep G F (.str x) (.str x)
  | ty (n : String) : Rep G F (.ty n) (.ty n)
  | ref (a : Addr) : Rep G F (.ref a) (.ref a)
  | tup {a : Addr} {vs : List V} {xs : List D} (h : F a = some (.tup vs)) (r : Reps G F vs xs) : Rep G F (.ref a) (.tup xs)
  | lst {a : Addr} {vs : List V} {xs : List D} (h : F a = some (.lst vs)) (r : Reps G F vs xs) : Rep G F (.ref a) (.lst xs)
  | lsz {a : Addr} {o : Obj} {vs : List V} {xs : List D} (h : F a = some (.frz o (.lst vs))) (r : Reps G F vs xs) : Rep G F (.ref a) (.scr xs)
  | dic {a : Addr} {kvs : List (Key × V)} {xs : List (Key × D)} (h : F a = some (.dK kvs)) (e : kvs.map (·.1) = xs.map (·.1)) (r : Reps G F (kvs.map (·.2)) (xs.map (·.2))) : Rep G F (.ref a) (.dic xs)
  | ob {a dx : Addr} {c : Nat} {fs : List (Str × V)} {xs : List D} (h : F a = some (.ins (G c).addr dx fs)) (e : fs.map (·.1) = (G c).flds) (r : Reps G F (fs.map (·.2)) xs) : Rep G F (.ref a) (.ob c xs)
  | exc {a dd : Addr} {c : Nat} {gs : List (Str × V)} {xs : List D} (h : F dd = some (.xd gs)) (e : gs.map (·.1) = (G c).flds) (r : Reps G F (gs.map (·.2)) xs) : Rep G F (.ref a) (.exc a dd c xs)
  | fn {f c : Addr} {q : Str} {vs : List V} {xs : List D} (h : F c = some (LamX.CodeO c q)) (r : Reps G F vs xs) : Rep G F (.ref f) (.fn f c q vs xs)
inductive Reps (G : CT) (F : Hp) : List V → List D → Prop where
  | nil : Reps G F [] []
  | cons {v : V} {d : D} {vs : List V} {ds : List D} (h : Rep G F v d) (r : Reps G F vs ds) : Reps G F (v :: vs) (d :: ds)
end

abbrev Le (F F' : Hp) : Prop := ∀ a o, F a = some o → F' a = some o
theorem Le.refl (F : Hp) : Le F F := fun _ _ h => h
theorem Le.trans {F F1 F2 : Hp} (a : Le F F1) (b : Le F1 F2) : Le F F2 := fun x o h => b x o (a x o h)

mutual
theorem Rep.le {G : CT} {F F' : Hp} (l : Le F F') : ∀ {v : V} {d : D}, Rep G F v d → Rep G F' v d
  | _, _, .non => .non
  | _, _, .bl b => .bl b
  | _, _, .int i => .int i
  | _, _, .str x => .str x
  | _, _, .ty n => .ty n
  | _, _, .ref a => .ref a
  | _, _, .tup h r => .tup (l _ _ h) (Reps.le l r)
  | _, _, .lst h r => .lst (l _ _ h) (Reps.le l r)
  | _, _, .lsz h r => .lsz (l _ _ h) (Reps.le l r)
  | _, _, .dic h e r => .dic (l _ _ h) e (Reps.le l r)
  | _, _, .ob h e r => .ob (l _ _ h) e (Reps.le l r)
  | _, _, .exc h e r => .exc (l _ _ h) e (Reps.le l r)
  | _, _, .fn h r => .fn (l _ _ h) (Reps.le l r)
theorem Reps.le {G : CT} {F F' : Hp} (l : Le F F') : ∀ {vs : List V} {ds : List D}, Reps G F vs ds → Reps G F' vs ds
  | _, _, .nil => .nil
  | _, _, .cons h r => .cons (Rep.le l h) (Reps.le l r)
end
theorem Reps.length {G : CT} {F : Hp} : ∀ {vs : List V} {ds : List D}, Reps G F vs ds → vs.length = ds.length
  | _, _, .nil => rfl
  | _, _, .cons _ r => congrArg (· + 1) (Reps.length r)
theorem Reps.get {G : CT} {F : Hp} : ∀ {vs : List V} {ds : List D} {i : Nat} {d : D}, Reps G F vs ds → ds[i]? = some d → ∃ v, vs[i]? = some v ∧ Rep G F v d
  | _, _, _, _, .nil, there => by simp at there
  | _, _, 0, _, .cons h _, e => by simp at e; subst e; exact ⟨_, by simp, h⟩
  | _, _, i + 1, _, .cons _ r, e => by
    obtain ⟨v, h1, h2⟩ := Reps.get (i := i) r (by simpa using e)
    exact ⟨v, by simpa using h1, h2⟩
theorem Reps.append {G : CT} {F : Hp} : ∀ {vs ws : List V} {ds es : List D}, Reps G F vs ds → Reps G F ws es → Reps G F (vs ++ ws) (ds ++ es)
  | _, _, _, _, .nil, r => r
  | _, _, _, _, .cons h t, r => .cons h (Reps.append t r)
theorem Reps.take {G : CT} {F : Hp} : ∀ {vs : List V} {ds : List D} (n : Nat), Reps G F vs ds → Reps G F (vs.take n) (ds.take n)
  | _, _, 0, _ => by simp; exact .nil
  | _, _, _ + 1, .nil => by simp; exact .nil
  | _, _, n + 1, .cons h t => by simp; exact .cons h (Reps.take n t)
theorem Reps.drop {G : CT} {F : Hp} : ∀ {vs : List V} {ds : List D} (n : Nat), Reps G F vs ds → Reps G F (vs.drop n) (ds.drop n)
  | _, _, 0, r => by simpa using r
  | _, _, _ + 1, .nil => by simp; exact .nil
  | _, _, n + 1, .cons h t => by simp; exact Reps.drop n t
theorem Reps.set {G : CT} {F : Hp} {v : V} {d : D} (h : Rep G F v d) : ∀ {vs : List V} {ds : List D} (n : Nat), Reps G F vs ds → Reps G F (vs.set n v) (ds.set n d)
  | _, _, _, .nil => by simp; exact .nil
  | _, _, 0, .cons _ t => by simp; exact .cons h t
  | _, _, n + 1, .cons k t => by simp; exact .cons k (Reps.set h n t)
theorem Reps.ints {G : CT} {F : Hp} : ∀ ns : List Int, Reps G F (ns.map V.int) (ns.map D.int)
  | [] => .nil
  | n :: r => .cons (.int n) (Reps.ints r)

/-! ### the few objects that change -/
inductive MO where
  | lst (xs : List D)
  | dic (kvs : List (Key × D))
  | ob (c : Nat) (fs : List (Str × D))
  | tbl (q : Str)
abbrev M := Addr → Option MO
def mset (m : M) (a : Addr) (o : MO) : M := fun b => if b = a then some o else m b
def mdel (m : M) (a : Addr) : M := fun b => if b = a then none else m b
theorem mset_same {m : M} {a : Addr} {o : MO} : mset m a o a = some o := if_pos rfl
theorem mset_ne {m : M} {a b : Addr} {o : MO} (h : b ≠ a) : mset m a o b = m b := if_neg h
theorem mset_mset {m : M} {a : Addr} {o u : MO} : mset (mset m a o) a u = mset m a u := by
  funext b; unfold mset; split <;> rfl
theorem mdel_mset {m : M} {a : Addr} {o : MO} (h : m a = none) : mdel (mset m a o) a = m := by
  funext b; unfold mset mdel
  split
  · rename_i e; subst e; exact h.symm
  · rename_i e; exact if_neg e
theorem mset_self {m : M} {a : Addr} {o : MO} (h : m a = some o) : mset m a o = m := by
  funext b; unfold mset
  split
  · rename_i e; subst e; exact h.symm
  · rfl
def Held (G : CT) (F H : Hp) (a : Addr) : MO → Prop
  | .lst xs => ∃ vs, H a = some (.lst vs) ∧ Reps G F vs xs
  | .dic kvs => ∃ vs, H a = some (.dK vs) ∧ vs.map (·.1) = kvs.map (·.1) ∧ Reps G F (vs.map (·.2)) (kvs.map (·.2))
  | .ob c fs => ∃ dx gs, H a = some (.ins (G c).addr dx gs) ∧ gs.map (·.1) = fs.map (·.1) ∧ Reps G F (gs.map (·.2)) (fs.map (·.2))
  | .tbl q => ∃ ps, H a = some (.tbl ps) ∧ TriplesOk ps.toList ∧ ∀ (pos : Pos) (cv : Value), codeAmong pos ps.toList = some cv → ∃ c, cv = .ref c ∧ F c = some (LamX.CodeO c q)
theorem Held.some {G : CT} {F H : Hp} {a : Addr} : ∀ {o : MO}, Held G F H a o → ∃ u, H a = some u
  | .lst _, ⟨_, h, _⟩ => ⟨_, h⟩
  | .dic _, ⟨_, h, _⟩ => ⟨_, h⟩
  | .ob _ _, ⟨_, _, h, _⟩ => ⟨_, h⟩
  | .tbl _, ⟨_, h, _⟩ => ⟨_, h⟩
theorem Held.le {G : CT} {F F' H H' : Hp} {a : Addr} (l : Le F F') (e : H' a = H a) : ∀ {o : MO}, Held G F H a o → Held G F' H' a o
  | .lst _, ⟨vs, h, r⟩ => ⟨vs, e.trans h, r.le l⟩
  | .dic _, ⟨vs, h, e2, r⟩ => ⟨vs, e.trans h, e2, r.le l⟩
  | .ob _ _, ⟨dx, gs, h, e2, r⟩ => ⟨dx, gs, e.trans h, e2, r.le l⟩
  | .tbl _, ⟨ps, h, t, k⟩ => ⟨ps, e.trans h, t, fun p cv z => let ⟨c, e1, e2⟩ := k p cv z; ⟨c, e1, l _ _ e2⟩⟩

/-- F: what never changes, and the data lean on it; R: what stands behind our back; m: what changes -/
structure Hst (G : CT) (F R H : Hp) (m : M) : Prop where
  fz : ∀ a o, F a = some o → H a = some o
  rs : ∀ a o, R a = some o → H a = some o ∧ F a = none ∧ m a = none
  mt : ∀ a o, m a = some o → F a = none ∧ Held G F H a o
abbrev DSt := List (Option D)
structure SL (G : CT) (F : Hp) (σ : St) (ds : DSt) : Prop where
  len : σ.length = ds.length
  at_ : ∀ (i : Nat) (d : D), ds[i]? = some (some d) → ∃ v, σ[i]? = some (some v) ∧ Rep G F v d
section
variable {G : CT} {F F' R H H' : Hp} {m : M} {σ : St} {ds : DSt} {p : Addr} {o : HO}
theorem SL.le (l : Le F F') (s : SL G F σ ds) : SL G F' σ ds := ⟨s.len, fun i d e => let ⟨v, h1, h2⟩ := s.at_ i d e; ⟨v, h1, h2.le l⟩⟩
theorem SL.set {v : V} {d : D} (i : Nat) (s : SL G F σ ds) (r : Rep G F v d) : SL G F (σ.set i (some v)) (ds.set i (some d)) := by
  refine ⟨by simp [s.len], fun j e h => ?_⟩
  by_cases hj : i = j
  · subst hj
    by_cases hl : i < ds.length
    · rw [List.getElem?_set_self hl] at h
      cases h
      exact ⟨v, by rw [List.getElem?_set_self (by rw [s.len]; exact hl)], r⟩
    · rw [List.getElem?_eq_none (by simpa using hl)] at h
      cases h
  · rw [List.getElem?_set_ne hj] at h
    rw [List.getElem?_set_ne hj]
    exact s.at_ j e h
theorem SL.forget (i : Nat) (s : SL G F σ ds) (x : Option V) : SL G F (σ.set i x) (ds.set i none) := by
  refine ⟨by simp [s.len], fun j e h => ?_⟩
  by_cases hj : i = j
  · subst hj
    by_cases hl : i < ds.length
    · rw [List.getElem?_set_self hl] at h
      cases h
    · rw [List.getElem?_eq_none (by simpa using hl)] at h
      cases h
  · rw [List.getElem?_set_ne hj] at h
    rw [List.getElem?_set_ne hj]
    exact s.at_ j e h
theorem Hst.mnone (s : Hst G F R H m) (h : H p = none) : m p = none := by
  cases q : m p with
  | none => rfl
  | some u =>
    obtain ⟨_, k⟩ := s.mt p u q
    obtain ⟨u', e⟩ := k.some
    rw [h] at e; cases e
theorem Hst.fnone (s : Hst G F R H m) (h : H p = none) : F p = none := by
  cases q : F p with
  | none => rfl
  | some u => have e := s.fz p u q; rw [h] at e; cases e
theorem Hst.rnone (s : Hst G F R H m) (h : H p = none) : R p = none := by
  cases q : R p with
  | none => rfl
  | some u => have e := (s.rs p u q).1; rw [h] at e; cases e
/-- a new object that nobody looks at -/
theorem Hst.grow (s : Hst G F R H m) (h : H p = none) : Hst G F R (upd H p o) m := by
  refine ⟨fun a u e => ?_, fun a u e => ?_, fun a u e => ?_⟩
  · rw [upd_ne (ne_of_none (s.fz a u e) h)]; exact s.fz a u e
  · obtain ⟨h1, h2, h3⟩ := s.rs a u e
    rw [upd_ne (ne_of_none h1 h)]; exact ⟨h1, h2, h3⟩
  · obtain ⟨h1, k⟩ := s.mt a u e
    obtain ⟨u', e'⟩ := k.some
    exact ⟨h1, k.le (Le.refl F) (upd_ne (ne_of_none e' h))⟩
theorem le_upd (h : F p = none) : Le F (upd F p o) := fun a u e => by rw [upd_ne (ne_of_none e h)]; exact e
/-- a new object that stays as it is -/
theorem Hst.new (s : Hst G F R H m) (h : H p = none) : Hst G (upd F p o) R (upd H p o) m := by
  have hf := s.fnone h
  refine ⟨fun a u e => ?_, fun a u e => ?_, fun a u e => ?_⟩
  · by_cases q : a = p
    · subst q; rw [upd_same] at e; rw [upd_same]; exact e
    · rw [upd_ne q] at e; rw [upd_ne q]; exact s.fz a u e
  · obtain ⟨h1, h2, h3⟩ := s.rs a u e
    rw [upd_ne (ne_of_none h1 h), upd_ne (ne_of_none h1 h)]; exact ⟨h1, h2, h3⟩
  · obtain ⟨h1, k⟩ := s.mt a u e
    obtain ⟨u', e'⟩ := k.some
    rw [upd_ne (ne_of_none e' h)]
    exact ⟨h1, k.le (le_upd hf) (upd_ne (ne_of_none e' h))⟩
/-- a new object that may change -/
theorem Hst.newM {u : MO} (s : Hst G F R H m) (h : H p = none) (k : Held G F (upd H p o) p u) : Hst G F R (upd H p o) (mset m p u) := by
  have g := s.grow (o := o) h
  refine ⟨g.fz, fun a v e => ?_, fun a v e => ?_⟩
  · obtain ⟨h1, h2, h3⟩ := g.rs a v e
    refine ⟨h1, h2, ?_⟩
    rw [mset_ne (ne_of_none (s.rs a v e).1 h)]; exact h3
  · by_cases q : a = p
    · subst q; rw [mset_same] at e; cases e; exact ⟨s.fnone h, k⟩
    · rw [mset_ne q] at e; exact g.mt a v e
/-- a tracked object is changed -/
theorem Hst.put {u u' : MO} (s : Hst G F R H m) (h : m p = some u) (k : Held G F (upd H p o) p u') : Hst G F R (upd H p o) (mset m p u') := by
  obtain ⟨hf, hk⟩ := s.mt p u h
  refine ⟨fun a v e => ?_, fun a v e => ?_, fun a v e => ?_⟩
  · rw [upd_ne (ne_of_none e hf)]; exact s.fz a v e
  · obtain ⟨h1, h2, h3⟩ := s.rs a v e
    have q : a ≠ p := fun q => by rw [q, h] at h3; cases h3
    rw [upd_ne q, mset_ne q]; exact ⟨h1, h2, h3⟩
  · by_cases q : a = p
    · subst q; rw [mset_same] at e; cases e; exact ⟨hf, k⟩
    · rw [mset_ne q] at e
      obtain ⟨h1, k1⟩ := s.mt a v e
      exact ⟨h1, k1.le (Le.refl F) (upd_ne q)⟩
/-- a tracked object is from now on as it is -/
theorem Hst.freeze {u : MO} (s : Hst G F R H m) (h : m p = some u) (e : H p = some o) : Hst G (upd F p o) R H (mdel m p) ∧ Le F (upd F p o) := by
  obtain ⟨hf, hk⟩ := s.mt p u h
  refine ⟨⟨fun a v q => ?_, fun a v q => ?_, fun a v q => ?_⟩, le_upd hf⟩
  · by_cases z : a = p
    · subst z; rw [upd_same] at q; cases q; exact e
    · rw [upd_ne z] at q; exact s.fz a v q
  · obtain ⟨h1, h2, h3⟩ := s.rs a v q
    have z : a ≠ p := fun z => by rw [z, h] at h3; cases h3
    rw [upd_ne z]
    exact ⟨h1, h2, (if_neg z).trans h3⟩
  · have z : a ≠ p := fun z => by unfold mdel at q; rw [if_pos z] at q; cases q
    have q' : m a = some v := (if_neg z).symm.trans q
    obtain ⟨h1, k1⟩ := s.mt a v q'
    rw [upd_ne z]
    exact ⟨h1, k1.le (le_upd hf) rfl⟩
end

/-! ### readings over data -/
abbrev DK := D → M → Prop
/-- an exception with its class and fields, at these slots -/
abbrev EK := DSt → Nat → List D → M → Prop
abbrev DTE := EK → DSt → M → DK → Prop
abbrev DTT := EK → DSt → M → (Bool → M → Prop) → Prop
abbrev DTA := EK → DSt → M → (List D → M → Prop) → Prop
structure DEnds where
  nx : DSt → M → Prop
  rt : DK
  bk : DSt → M → Prop := fun _ _ => False
  ct : DSt → M → Prop := fun _ _ => False
  ex : EK := fun _ _ _ _ => False
abbrev DTS := DEnds → DSt → M → Prop

def XD (G : CT) (F H : Hp) (c : Nat) (d : Option Addr) (xs : List D) : Prop :=
  (d = none ∧ xs = [] ∧ (G c).flds = []) ∨ ∃ a gs, d = some a ∧ F a = some (.xd gs) ∧ gs.map (·.1) = (G c).flds ∧ Reps G F (gs.map (·.2)) xs
def XOK (G : CT) (W : WX) (F R : Hp) (x : EK) : Prop :=
  ∀ ds c xs m' F' σ' d H', x ds c xs m' → Le F F' → Hst G F' R H' m' → SL G F' σ' ds → XD G F' H' c d xs → W (.ref (G c).addr) d σ' H'
theorem XOK.le {G : CT} {W : WX} {F F' R : Hp} {x : EK} (k : XOK G W F R x) (l : Le F F') : XOK G W F' R x := fun ds c xs m' F2 σ' d H' h l2 => k ds c xs m' F2 σ' d H' h (l.trans l2)
def lE (G : CT) (W : WX) (t : DTE) : TE := fun σ H Q => ∃ F R m ds Q0 x, Hst G F R H m ∧ SL G F σ ds ∧ t x ds m Q0 ∧ XOK G W F R x ∧
  ∀ d m' F' v H', Q0 d m' → Le F F' → Hst G F' R H' m' → Rep G F' v d → Q v H'
def lT (G : CT) (W : WX) (t : DTT) : TT := fun σ H Q => ∃ F R m ds Q0 x, Hst G F R H m ∧ SL G F σ ds ∧ t x ds m Q0 ∧ XOK G W F R x ∧
  ∀ b m' F' H', Q0 b m' → Le F F' → Hst G F' R H' m' → Q b H'
def lA (G : CT) (W : WX) (t : DTA) : TA := fun σ H Q => ∃ F R m ds Q0 x, Hst G F R H m ∧ SL G F σ ds ∧ t x ds m Q0 ∧ XOK G W F R x ∧
  ∀ xs m' F' vs H', Q0 xs m' → Le F F' → Hst G F' R H' m' → Reps G F' vs xs → Q vs H'
structure EndsOK (G : CT) (W : WX) (F R : Hp) (E : DEnds) (D : Ends) : Prop where
  nx : ∀ ds m' F' σ' H', E.nx ds m' → Le F F' → Hst G F' R H' m' → SL G F' σ' ds → D.nx σ' H'
  rt : ∀ d m' F' v H', E.rt d m' → Le F F' → Hst G F' R H' m' → Rep G F' v d → D.rt v H'
  bk : ∀ ds m' F' σ' H', E.bk ds m' → Le F F' → Hst G F' R H' m' → SL G F' σ' ds → D.bk σ' H'
  ct : ∀ ds m' F' σ' H', E.ct ds m' → Le F F' → Hst G F' R H' m' → SL G F' σ' ds → D.ct σ' H'
  ex : XOK G W F R E.ex
theorem EndsOK.le {G : CT} {W : WX} {F F' R : Hp} {E : DEnds} {D : Ends} (k : EndsOK G W F R E D) (l : Le F F') : EndsOK G W F' R E D :=
  ⟨fun a b c d e h l2 => k.nx a b c d e h (l.trans l2), fun a b c d e h l2 => k.rt a b c d e h (l.trans l2), fun a b c d e h l2 => k.bk a b c d e h (l.trans l2), fun a b c d e h l2 => k.ct a b c d e h (l.trans l2), k.ex.le l⟩
def lS (G : CT) (W : WX) (t : DTS) : TS := fun D σ H => ∃ F R m ds E, Hst G F R H m ∧ SL G F σ ds ∧ t E ds m ∧ EndsOK G W F R E D

abbrev DE (X : Cx) (G : CT) (W : WX) (e : Expr) (t : DTE) : Prop := PE X e (lE G W t)
abbrev DT (X : Cx) (G : CT) (W : WX) (e : Expr) (t : DTT) : Prop := PT X e (lT G W t)
abbrev DA (X : Cx) (G : CT) (W : WX) (es : List Expr) (t : DTA) : Prop := PA X es (lA G W t)
abbrev DS (X : Cx) (G : CT) (W : WX) (st : Stmt) (t : DTS) : Prop := PS X st (lS G W t)
abbrev DSs (X : Cx) (G : CT) (W : WX) (st : List Stmt) (t : DTS) : Prop := PSs X st (lS G W t)

theorem _root_.L2.PE.imp {X : Cx} {e : Expr} {t t' : TE} (h : PE X e t) (i : ∀ σ H Q, t' σ H Q → t σ H Q) : PE X e t' := ⟨fun pins s σ H Q I w => h.run pins s σ H Q I (i _ _ _ w)⟩
theorem _root_.L2.PT.imp {X : Cx} {e : Expr} {t t' : TT} (h : PT X e t) (i : ∀ σ H Q, t' σ H Q → t σ H Q) : PT X e t' := ⟨fun pins s σ H Q I w => h.run pins s σ H Q I (i _ _ _ w)⟩
theorem _root_.L2.PA.imp {X : Cx} {e : List Expr} {t t' : TA} (h : PA X e t) (i : ∀ σ H Q, t' σ H Q → t σ H Q) : PA X e t' := ⟨fun pos pins s σ H Q I w => h.run pos pins s σ H Q I (i _ _ _ w)⟩
theorem _root_.L2.PS.imp {X : Cx} {e : Stmt} {t t' : TS} (h : PS X e t) (i : ∀ D σ H, t' D σ H → t D σ H) : PS X e t' := ⟨fun pins s σ H D I w => h.run pins s σ H D I (i _ _ _ w)⟩
theorem _root_.L2.PSs.imp {X : Cx} {e : List Stmt} {t t' : TS} (h : PSs X e t) (i : ∀ D σ H, t' D σ H → t D σ H) : PSs X e t' := ⟨fun pins s σ H D I w => h.run pins s σ H D I (i _ _ _ w)⟩

section
variable {X : Cx} {G : CT} {W : WX} {a b e : Expr} {ta tb te : DTE} {pos : Pos}

/-! ### expressions -/
def nmD (i : Nat) (ds : DSt) (m : M) (Q : DK) : Prop := ∃ d, ds[i]? = some (some d) ∧ Q d m
theorem de_nm {i : Nat} {x : Str} (h : PE X (.Name x pos) (tVar i)) : DE X G W (.Name x pos) (fun _ ds m Q => nmD i ds m Q) :=
  h.imp fun σ H Q ⟨F, R, m, ds, Q0, x, st, sl, ⟨d, e, q⟩, _, k⟩ => by
    obtain ⟨v, e1, r⟩ := sl.at_ _ _ e
    exact ⟨v, e1, k d m F v H q (Le.refl F) st r⟩
/-- a value that is known -/
theorem de_c {v : V} {d : D} (h : PE X e (tC v)) (r : ∀ F, Rep G F v d) : DE X G W e (fun _ _ m Q => Q d m) :=
  h.imp fun _ H _ ⟨F, R, m, ds, Q0, x, st, sl, q, _, k⟩ => k d m F v H q (Le.refl F) st (r F)

/-- an operation on two values -/
abbrev DR2 := D → D → M → DK → Prop
def lR (G : CT) (r : DR2) : R2 := fun x y H Q => ∃ F R m dx dy Q0, Hst G F R H m ∧ Rep G F x dx ∧ Rep G F y dy ∧ r dx dy m Q0 ∧ ∀ d m' F' v H', Q0 d m' → Le F F' → Hst G F' R H' m' → Rep G F' v d → Q v H'
abbrev OpD (X : Cx) (G : CT) (f : Value → Value → Sem Value) (r : DR2) : Prop := OpR X f (lR G r)
theorem OpR.imp {f : Value → Value → Sem Value} {r r' : R2} (h : OpR X f r) (i : ∀ x y H Q, r' x y H Q → r x y H Q) : OpR X f r' := fun pins s σ H x y v u Q I rx ry w => h pins s σ H x y v u Q I rx ry (i _ _ _ _ w)
theorem CallR.imp {f : Value} {r r' : List V → Hp → VK → Prop} (h : CallR X f r) (i : ∀ xs H Q, r' xs H Q → r xs H Q) : CallR X f r' := fun pins s σ H xs us Q I rx w => h pins s σ H xs us Q I rx (i _ _ _ w)
def bD (r : DR2) (ta tb : DTE) : DTE := fun x ds m Q => ta x ds m fun p m1 => tb x ds m1 fun q m2 => r p q m2 Q
theorem bin_imp {r : DR2} {σ : St} {H : Hp} {Q : VK} (h : lE G W (bD r ta tb) σ H Q) : tOp (lR G r) (lE G W ta) (lE G W tb) σ H Q := by
  obtain ⟨F, R, m, ds, Q0, x, st, sl, t, xk, k⟩ := h
  refine ⟨F, R, m, ds, _, x, st, sl, t, xk, fun p m1 F1 v H1 h1 l1 s1 r1 => ?_⟩
  refine ⟨F1, R, m1, ds, _, x, s1, sl.le l1, h1, xk.le l1, fun q m2 F2 u H2 h2 l2 s2 r2 => ?_⟩
  exact ⟨F2, R, m2, p, q, Q0, s2, r1.le l2, r2, h2, fun d m' F' v' H' hq l st' rp => k d m' F' v' H' hq ((l1.trans l2).trans l) st' rp⟩
theorem de_op {op : Operator} {r : DR2} (ho : OpD X G (binaryOp op) r) (ha : DE X G W a ta) (hb : DE X G W b tb) : DE X G W (.BinOp a op b pos) (bD r ta tb) :=
  (pe_op ho ha hb).imp fun _ _ _ h => bin_imp h
theorem de_cmp {op : CmpOp} {r : DR2} (ho : OpD X G (compareOp op) r) (ha : DE X G W a ta) (hb : DE X G W b tb) (hm : behindInMarks op b = false) : DE X G W (.Compare a [op] [b] pos) (bD r ta tb) :=
  (pe_cmpR ho ha hb hm).imp fun _ _ _ h => bin_imp h
/-- as a test -/
def isB (d : D) (m : M) (Q : Bool → M → Prop) : Prop := ∃ b, d = .bl b ∧ Q b m
def tB (te : DTE) : DTT := fun x ds m Q => te x ds m fun d m1 => isB d m1 Q
theorem test_imp {σ : St} {H : Hp} {Q : Bool → Hp → Prop} (h : lT G W (tB te) σ H Q) : L2.tB (lE G W te) σ H Q := by
  obtain ⟨F, R, m, ds, Q0, x, st, sl, t, xk, k⟩ := h
  refine ⟨F, R, m, ds, _, x, st, sl, t, xk, fun d m1 F1 v H1 ⟨b, e, h1⟩ l1 s1 r1 => ?_⟩
  subst e
  cases r1
  exact ⟨b, rfl, k b m1 F1 H1 h1 l1 s1⟩
theorem dt_val (he : DE X G W e te) (hw : ∀ whole, isTrue e X.env whole = (do let v ← whole; standAt e.pos; holding [v] (truthy v)) := by intro _; rfl) : DT X G W e (tB te) :=
  (pt_val he hw).imp fun _ _ _ h => test_imp h
theorem dt_cmp {op : CmpOp} {r : DR2} (ho : OpD X G (compareOp op) r) (ha : DE X G W a ta) (hb : DE X G W b tb) (hm : behindInMarks op b = false) : DT X G W (.Compare a [op] [b] pos) (tB (bD r ta tb)) :=
  (pt_cmpR ho ha hb hm).imp fun σ H Q h => by
    obtain ⟨F, R, m, ds, Q0, x, st, sl, t, xk, k⟩ := h
    exact bin_imp ⟨F, R, m, ds, _, x, st, sl, t, xk, fun d m1 F1 v H1 ⟨b, e, h1⟩ l1 s1 r1 => by
      subst e
      cases r1
      exact ⟨b, rfl, k b m1 F1 H1 h1 l1 s1⟩⟩

/-! and, or, not -/
variable {tA tB' : DTT} {rest : List Expr}
def tAnd (t u : DTT) : DTT := fun x ds m Q => t x ds m fun c m1 => if c = true then u x ds m1 Q else Q false m1
def tOr (t u : DTT) : DTT := fun x ds m Q => t x ds m fun c m1 => if c = true then Q true m1 else u x ds m1 Q
def tNot (t : DTT) : DTT := fun x ds m Q => t x ds m fun c m1 => Q (!c) m1
theorem and_imp {t u : DTT} {σ : St} {H : Hp} {Q : Bool → Hp → Prop} (h : lT G W (tAnd t u) σ H Q) : L2.tAnd (lT G W t) (lT G W u) σ H Q := by
  obtain ⟨F, R, m, ds, Q0, x, st, sl, h, xk, k⟩ := h
  refine ⟨F, R, m, ds, _, x, st, sl, h, xk, fun c m1 F1 H1 h1 l1 s1 => ?_⟩
  cases c with
  | true => exact ⟨F1, R, m1, ds, Q0, x, s1, sl.le l1, h1, xk.le l1, fun b m' F' H' q l st' => k b m' F' H' q (l1.trans l) st'⟩
  | false => exact k false m1 F1 H1 h1 l1 s1
theorem or_imp {t u : DTT} {σ : St} {H : Hp} {Q : Bool → Hp → Prop} (h : lT G W (tOr t u) σ H Q) : L2.tOr (lT G W t) (lT G W u) σ H Q := by
  obtain ⟨F, R, m, ds, Q0, x, st, sl, h, xk, k⟩ := h
  refine ⟨F, R, m, ds, _, x, st, sl, h, xk, fun c m1 F1 H1 h1 l1 s1 => ?_⟩
  cases c with
  | false => exact ⟨F1, R, m1, ds, Q0, x, s1, sl.le l1, h1, xk.le l1, fun b m' F' H' q l st' => k b m' F' H' q (l1.trans l) st'⟩
  | true => exact k true m1 F1 H1 h1 l1 s1
abbrev DW (X : Cx) (G : CT) (W : WX) (e : Expr) (t : DTT) : Prop := PW X e (lT G W t)
theorem _root_.L2.PW.imp {e : Expr} {t t' : TT} (h : PW X e t) (i : ∀ σ H Q, t' σ H Q → t σ H Q) : PW X e t' := ⟨fun wh pins s σ H Q I w => h.run wh pins s σ H Q I (i _ _ _ w)⟩
theorem dw_and1 (ha : DT X G W a tA) : DW X G W (.BoolOp .And [a] pos) tA := pw_and1 ha
theorem dw_or1 (ha : DT X G W a tA) : DW X G W (.BoolOp .Or [a] pos) tA := pw_or1 ha
theorem dw_and (ha : DT X G W a tA) (hb : DW X G W (.BoolOp .And (b :: rest) pos) tB') : DW X G W (.BoolOp .And (a :: b :: rest) pos) (tAnd tA tB') := L2.PW.imp (pw_and ha hb) fun _ _ _ h => and_imp h
theorem dw_or (ha : DT X G W a tA) (hb : DW X G W (.BoolOp .Or (b :: rest) pos) tB') : DW X G W (.BoolOp .Or (a :: b :: rest) pos) (tOr tA tB') := L2.PW.imp (pw_or ha hb) fun _ _ _ h => or_imp h
theorem dt_not (ha : DT X G W a tA) : DT X G W (.UnaryOp .Not a pos) (tNot tA) := (pt_not ha).imp fun σ H Q h => by
  obtain ⟨F, R, m, ds, Q0, x, st, sl, h, xk, k⟩ := h
  exact ⟨F, R, m, ds, _, x, st, sl, h, xk, fun c m1 F1 H1 h1 l1 s1 => k (!c) m1 F1 H1 h1 l1 s1⟩
/-- and, or as values: all but the last are truths -/
def eAnd (ta tb : DTE) : DTE := fun x ds m Q => ta x ds m fun d m1 => isB d m1 fun c m1 => if c = true then tb x ds m1 Q else Q (.bl false) m1
def eOr (ta tb : DTE) : DTE := fun x ds m Q => ta x ds m fun d m1 => isB d m1 fun c m1 => if c = true then Q (.bl true) m1 else tb x ds m1 Q
def eNot (ta : DTE) : DTE := fun x ds m Q => ta x ds m fun d m1 => isB d m1 fun c m1 => Q (.bl (!c)) m1
theorem de_one {op} {t : DTE} (h : DE X G W a t) : DE X G W (.BoolOp op [a] pos) t := pe_one h
theorem de_and (ha : DE X G W a ta) (hb : DE X G W (.BoolOp .And (b :: rest) pos) tb) : DE X G W (.BoolOp .And (a :: b :: rest) pos) (eAnd ta tb) := (pe_and ha hb).imp fun σ H Q h => by
  obtain ⟨F, R, m, ds, Q0, x, st, sl, h, xk, k⟩ := h
  refine ⟨F, R, m, ds, _, x, st, sl, h, xk, fun d m1 F1 v H1 ⟨c, e, h1⟩ l1 s1 r1 => ?_⟩
  subst e
  cases r1
  refine ⟨c, rfl, ?_⟩
  cases c with
  | true => exact ⟨F1, R, m1, ds, Q0, x, s1, sl.le l1, h1, xk.le l1, fun b m' F' v H' q l st' r => k b m' F' v H' q (l1.trans l) st' r⟩
  | false => exact k (.bl false) m1 F1 (.bl false) H1 h1 l1 s1 (.bl false)
theorem de_or (ha : DE X G W a ta) (hb : DE X G W (.BoolOp .Or (b :: rest) pos) tb) : DE X G W (.BoolOp .Or (a :: b :: rest) pos) (eOr ta tb) := (pe_or ha hb).imp fun σ H Q h => by
  obtain ⟨F, R, m, ds, Q0, x, st, sl, h, xk, k⟩ := h
  refine ⟨F, R, m, ds, _, x, st, sl, h, xk, fun d m1 F1 v H1 ⟨c, e, h1⟩ l1 s1 r1 => ?_⟩
  subst e
  cases r1
  refine ⟨c, rfl, ?_⟩
  cases c with
  | false => exact ⟨F1, R, m1, ds, Q0, x, s1, sl.le l1, h1, xk.le l1, fun b m' F' v H' q l st' r => k b m' F' v H' q (l1.trans l) st' r⟩
  | true => exact k (.bl true) m1 F1 (.bl true) H1 h1 l1 s1 (.bl true)
theorem de_not (ha : DE X G W a ta) : DE X G W (.UnaryOp .Not a pos) (eNot ta) := (pe_not ha).imp fun σ H Q h => by
  obtain ⟨F, R, m, ds, Q0, x, st, sl, h, xk, k⟩ := h
  refine ⟨F, R, m, ds, _, x, st, sl, h, xk, fun d m1 F1 v H1 ⟨c, e, h1⟩ l1 s1 r1 => ?_⟩
  subst e
  cases r1
  exact ⟨c, rfl, k _ m1 F1 _ H1 h1 l1 s1 (.bl (!c))⟩
def eIf (t : DTT) (ta tb : DTE) : DTE := fun x ds m Q => t x ds m fun c m1 => if c = true then ta x ds m1 Q else tb x ds m1 Q
theorem de_if {c : Expr} (hc : DT X G W c tA) (ha : DE X G W a ta) (hb : DE X G W b tb) : DE X G W (.IfExp c a b pos) (eIf tA ta tb) := (pe_ifExp hc ha hb).imp fun σ H Q h => by
  obtain ⟨F, R, m, ds, Q0, x, st, sl, h, xk, k⟩ := h
  refine ⟨F, R, m, ds, _, x, st, sl, h, xk, fun c m1 F1 H1 h1 l1 s1 => ?_⟩
  cases c with
  | true => exact ⟨F1, R, m1, ds, Q0, x, s1, sl.le l1, h1, xk.le l1, fun b m' F' v H' q l st' r => k b m' F' v H' q (l1.trans l) st' r⟩
  | false => exact ⟨F1, R, m1, ds, Q0, x, s1, sl.le l1, h1, xk.le l1, fun b m' F' v H' q l st' r => k b m' F' v H' q (l1.trans l) st' r⟩
/-- a < b < c -/
def eChain (r r' : DR2) (ta tb tc : DTE) : DTE := fun x ds m Q => ta x ds m fun p m1 => tb x ds m1 fun q m2 => r p q m2 fun z m3 => isB z m3 fun k m3 => if k = true then tc x ds m3 fun u m4 => r' q u m4 Q else Q (.bl false) m3

/-! ### arguments, displays -/
def aNil : DTA := fun _ _ m Q => Q [] m
def aCons (ta : DTE) (tr : DTA) : DTA := fun x ds m Q => ta x ds m fun d m1 => tr x ds m1 fun r m2 => Q (d :: r) m2
theorem da_nil : DA X G W [] aNil := pa_nil.imp fun σ H Q h => by
  obtain ⟨F, R, m, ds, Q0, x, st, sl, h, xk, k⟩ := h
  exact k [] m F [] H h (Le.refl F) st .nil
theorem da_cons {es : List Expr} {t : DTA} (ha : DE X G W e te) (hr : DA X G W es t) (hs : starEach (e :: es) X.env = (false, eval e X.env) :: starEach es X.env := by rfl) : DA X G W (e :: es) (aCons te t) := (pa_cons ha hr hs).imp fun σ H Q h => by
  obtain ⟨F, R, m, ds, Q0, x, st, sl, h, xk, k⟩ := h
  refine ⟨F, R, m, ds, _, x, st, sl, h, xk, fun d m1 F1 v H1 h1 l1 s1 r1 => ?_⟩
  exact ⟨F1, R, m1, ds, _, x, s1, sl.le l1, h1, xk.le l1, fun xs m2 F2 vs H2 h2 l2 s2 r2 => k _ m2 F2 _ H2 h2 (l1.trans l2) s2 (.cons (r1.le l2) r2)⟩
def eTup (t : DTA) : DTE := fun x ds m Q => t x ds m fun xs m1 => xs.length ≤ sizeLine ∧ Q (.tup xs) m1
def eLst (t : DTA) : DTE := fun x ds m Q => t x ds m fun xs m1 => xs.length ≤ sizeLine ∧ Q (.lst xs) m1
/-- a list that will change -/
def eLstM (t : DTA) : DTE := fun x ds m Q => t x ds m fun xs m1 => xs.length ≤ sizeLine ∧ ∀ p, m1 p = none → Q (.ref p) (mset m1 p (.lst xs))
theorem de_tup {es : List Expr} {t : DTA} {x1} (h : DA X G W es t) : DE X G W (.Tuple es x1 pos) (eTup t) := (pe_tup h).imp fun σ H Q h => by
  obtain ⟨F, R, m, ds, Q0, x, st, sl, h, xk, k⟩ := h
  refine ⟨F, R, m, ds, _, x, st, sl, h, xk, fun xs m1 F1 vs H1 ⟨hl, h1⟩ l1 s1 r1 => ⟨by rw [r1.length]; exact hl, fun p hp => ?_⟩⟩
  have hf := s1.fnone hp
  exact k _ m1 _ _ _ h1 (l1.trans (le_upd hf)) (s1.new hp) (.tup upd_same (r1.le (le_upd hf)))
theorem de_lst {es : List Expr} {t : DTA} (h : DA X G W es t) : DE X G W (.List es pos) (eLst t) := (pe_lst h).imp fun σ H Q h => by
  obtain ⟨F, R, m, ds, Q0, x, st, sl, h, xk, k⟩ := h
  refine ⟨F, R, m, ds, _, x, st, sl, h, xk, fun xs m1 F1 vs H1 ⟨hl, h1⟩ l1 s1 r1 => ⟨by rw [r1.length]; exact hl, fun p hp => ?_⟩⟩
  have hf := s1.fnone hp
  exact k _ m1 _ _ _ h1 (l1.trans (le_upd hf)) (s1.new hp) (.lst upd_same (r1.le (le_upd hf)))
theorem de_lstM {es : List Expr} {t : DTA} (h : DA X G W es t) : DE X G W (.List es pos) (eLstM t) := (pe_lst h).imp fun σ H Q h => by
  obtain ⟨F, R, m, ds, Q0, x, st, sl, h, xk, k⟩ := h
  refine ⟨F, R, m, ds, _, x, st, sl, h, xk, fun xs m1 F1 vs H1 ⟨hl, h1⟩ l1 s1 r1 => ⟨by rw [r1.length]; exact hl, fun p hp => ?_⟩⟩
  exact k _ _ _ _ _ (h1 p (s1.mnone hp)) l1 (s1.newM hp ⟨_, upd_same, r1⟩) (.ref p)
end
end DL

namespace DL
open PySem L2
section
variable {X : Cx} {G : CT} {W : WX} {a b e : Expr} {ta tb te : DTE} {pos : Pos}

/-! ### statements -/
def sNext : DTS := fun E ds m => E.nx ds m
def sSeq (t u : DTS) : DTS := fun E ds m => t { E with nx := u E } ds m
theorem dss_nil : DSs X G W [] sNext := (pss_nil (X := X)).imp fun D σ H ⟨F, R, m, ds, E, st, sl, h, k⟩ => k.nx ds m F σ H h (Le.refl F) st sl
theorem EndsOK.seq {F R : Hp} {E : DEnds} {D : Ends} {u : DTS} (k : EndsOK G W F R E D) : EndsOK G W F R { E with nx := u E } { D with nx := lS G W u D } :=
  ⟨fun ds m' F' σ' H' h l st sl => ⟨F', R, m', ds, E, st, sl, h, k.le l⟩, k.rt, k.bk, k.ct, k.ex⟩
theorem dss_cons {st : Stmt} {rest : List Stmt} {t u : DTS} (h1 : DS X G W st t) (h2 : DSs X G W rest u) : DSs X G W (st :: rest) (sSeq t u) := (pss_cons h1 h2).imp fun D σ H ⟨F, R, m, ds, E, st, sl, h, k⟩ =>
  ⟨F, R, m, ds, { E with nx := u E }, st, sl, h, k.seq⟩
theorem dss_one {st : Stmt} {t : DTS} (h1 : DS X G W st t) : DSs X G W [st] t := pss_one h1
theorem ds_pass : DS X G W (.Pass pos) sNext := (ps_pass (X := X)).imp fun D σ H ⟨F, R, m, ds, E, st, sl, h, k⟩ => k.nx ds m F σ H h (Le.refl F) st sl
def sBreak : DTS := fun E ds m => E.bk ds m
def sCont : DTS := fun E ds m => E.ct ds m
theorem ds_break : DS X G W (.Break pos) sBreak := (ps_break (X := X)).imp fun D σ H ⟨F, R, m, ds, E, st, sl, h, k⟩ => k.bk ds m F σ H h (Le.refl F) st sl
theorem ds_continue : DS X G W (.Continue pos) sCont := (ps_continue (X := X)).imp fun D σ H ⟨F, R, m, ds, E, st, sl, h, k⟩ => k.ct ds m F σ H h (Le.refl F) st sl
def sDrop (te : DTE) : DTS := fun E ds m => te E.ex ds m fun _ m1 => E.nx ds m1
theorem ds_expr (he : DE X G W e te) (hs : swapsWith e none pos.line X.env = pure false := by rfl) : DS X G W (.Expr e pos) (sDrop te) := (ps_expr he hs).imp fun D σ H ⟨F, R, m, ds, E, st, sl, h, k⟩ =>
  ⟨F, R, m, ds, _, E.ex, st, sl, h, k.ex, fun d m1 F1 v H1 q l s1 _ => k.nx ds m1 F1 σ H1 q l s1 (sl.le l)⟩
def sRet (te : DTE) : DTS := fun E ds m => te E.ex ds m E.rt
theorem ds_ret (he : DE X G W e te) : DS X G W (.Return (some e) pos) (sRet te) := (ps_ret he).imp fun D σ H ⟨F, R, m, ds, E, st, sl, h, k⟩ =>
  ⟨F, R, m, ds, _, E.ex, st, sl, h, k.ex, fun d m1 F1 v H1 q l s1 r => k.rt d m1 F1 v H1 q l s1 r⟩
def sRetN : DTS := fun E _ m => E.rt .non m
theorem ds_retN : DS X G W (.Return none pos) sRetN := (ps_retN (X := X)).imp fun D σ H ⟨F, R, m, ds, E, st, sl, h, k⟩ => k.rt .non m F .non H h (Le.refl F) st .non
def sIf (c : DTT) (t u : DTS) : DTS := fun E ds m => c E.ex ds m fun b m1 => if b = true then t E ds m1 else u E ds m1
theorem ds_if {c : Expr} {p q : List Stmt} {tc : DTT} {t u : DTS} (hc : DT X G W c tc) (ha : DSs X G W p t) (hb : DSs X G W q u) : DS X G W (.If c p q pos) (sIf tc t u) := (ps_if hc ha hb).imp fun D σ H ⟨F, R, m, ds, E, st, sl, h, k⟩ =>
  ⟨F, R, m, ds, _, E.ex, st, sl, h, k.ex, fun b m1 F1 H1 q l s1 => by
    cases b with
    | true => exact ⟨F1, R, m1, ds, E, s1, sl.le l, q, k.le l⟩
    | false => exact ⟨F1, R, m1, ds, E, s1, sl.le l, q, k.le l⟩⟩
def sNever : DTS := fun _ _ _ => False
theorem ds_never {st : Stmt} : DS X G W st sNever := (ps_never (X := X) (st := st)).imp fun D σ H ⟨F, R, m, ds, E, st, sl, h, k⟩ => h.elim

/-! ### targets -/
abbrev DTG := EK → D → DSt → M → (DSt → M → Prop) → Prop
abbrev DTGs := EK → List D → DSt → M → (DSt → M → Prop) → Prop
def lG (G : CT) (W : WX) (t : DTG) : TG := fun v σ H Q => ∃ F R m ds d Q0 x, Hst G F R H m ∧ SL G F σ ds ∧ Rep G F v d ∧ t x d ds m Q0 ∧ XOK G W F R x ∧
  ∀ ds' m' F' σ' H', Q0 ds' m' → Le F F' → Hst G F' R H' m' → SL G F' σ' ds' → Q σ' H'
def lGs (G : CT) (W : WX) (t : DTGs) : TGs := fun vs σ H Q => ∃ F R m ds d Q0 x, Hst G F R H m ∧ SL G F σ ds ∧ Reps G F vs d ∧ t x d ds m Q0 ∧ XOK G W F R x ∧
  ∀ ds' m' F' σ' H', Q0 ds' m' → Le F F' → Hst G F' R H' m' → SL G F' σ' ds' → Q σ' H'
abbrev DG (X : Cx) (G : CT) (W : WX) (e : Expr) (t : DTG) : Prop := PG X e (lG G W t)
abbrev DGs (X : Cx) (G : CT) (W : WX) (es : List Expr) (t : DTGs) : Prop := PGs X es (lGs G W t)
theorem _root_.L2.PG.imp {e : Expr} {t t' : TG} (h : PG X e t) (i : ∀ v σ H Q, t' v σ H Q → t v σ H Q) : PG X e t' := ⟨fun pins s σ H v u Q I r w => h.run pins s σ H v u Q I r (i _ _ _ _ w)⟩
theorem _root_.L2.PGs.imp {e : List Expr} {t t' : TGs} (h : PGs X e t) (i : ∀ v σ H Q, t' v σ H Q → t v σ H Q) : PGs X e t' := ⟨fun pins s σ H v u Q I r w => h.run pins s σ H v u Q I r (i _ _ _ _ w)⟩
def gNm (i : Nat) : DTG := fun _ d ds m Q => Q (ds.set i (some d)) m
theorem dg_name {i : Nat} {x : Str} (h : PG X (.Name x pos) (L2.gName i)) : DG X G W (.Name x pos) (gNm i) := h.imp fun v σ H Q ⟨F, R, m, ds, d, Q0, x, st, sl, r, h, _, k⟩ => k _ m F _ H h (Le.refl F) st (sl.set i r)
def gsNil : DTGs := fun _ xs ds m Q => xs = [] ∧ Q ds m
def gsCons (t : DTG) (u : DTGs) : DTGs := fun x xs ds m Q => match xs with
  | d :: r => t x d ds m fun ds' m' => u x r ds' m' Q
  | [] => False
theorem dgs_nil : DGs X G W [] gsNil := (pgs_nil (X := X)).imp fun v σ H Q ⟨F, R, m, ds, d, Q0, x, st, sl, r, ⟨e, h⟩, _, k⟩ => by
  subst e
  cases r
  exact ⟨rfl, k _ m F _ H h (Le.refl F) st sl⟩
theorem dgs_cons {es : List Expr} {t : DTG} {u : DTGs} (h1 : DG X G W e t) (h2 : DGs X G W es u) (hs : (assignEach (e :: es) X.env).map (·.2) = assign e X.env :: (assignEach es X.env).map (·.2) := by rfl) : DGs X G W (e :: es) (gsCons t u) :=
  (pgs_cons h1 h2 hs).imp fun v σ H Q ⟨F, R, m, ds, d, Q0, x, st, sl, r, h, xk, k⟩ => by
    cases r with
    | nil => exact h.elim
    | @cons v d vs xs r1 rr =>
      refine ⟨v, vs, rfl, F, R, m, ds, d, _, x, st, sl, r1, h, xk, fun ds1 m1 F1 σ1 H1 h1 l1 s1 sl1 => ?_⟩
      exact ⟨F1, R, m1, ds1, xs, Q0, x, s1, sl1, rr.le l1, h1, xk.le l1, fun ds' m' F' σ' H' q l => k ds' m' F' σ' H' q (l1.trans l)⟩
def gTp (n : Nat) (t : DTGs) : DTG := fun x d ds m Q => match d with
  | .tup xs => xs.length = n ∧ t x xs ds m Q
  | _ => False
theorem dg_tup {es : List Expr} {k : Nat} {t : DTGs} {n : Nat} (hc : X.calm = true) (h : DGs X G W es t) (hn : (assignEach es X.env).length = n := by rfl) (hst : (assignEach es X.env).findIdx? (·.1) = none := by rfl) : DG X G W (.Tuple es k pos) (gTp n t) :=
  (pg_tup hc h hn hst).imp fun v σ H Q ⟨F, R, m, ds, d, Q0, x, st, sl, r, h, xk, kk⟩ => by
    cases r with
    | @tup a vs xs ha r => exact ⟨a, vs, rfl, .inl (.inl (st.fz _ _ ha)), r.length.trans h.1, F, R, m, ds, xs, Q0, x, st, sl, r, h.2, xk, kk⟩
    | _ => exact h.elim
def sAsg (te : DTE) (g : DTG) : DTS := fun E ds m => te E.ex ds m fun d m1 => g E.ex d ds m1 E.nx
theorem asg_imp {g : DTG} {D : Ends} {σ : St} {H : Hp} (h : lS G W (sAsg te g) D σ H) : tAsg (lE G W te) (lG G W g) D σ H := by
  obtain ⟨F, R, m, ds, E, st, sl, h, k⟩ := h
  exact ⟨F, R, m, ds, _, E.ex, st, sl, h, k.ex, fun d m1 F1 v H1 q l s1 r => ⟨F1, R, m1, ds, d, E.nx, E.ex, s1, sl.le l, r, q, k.ex.le l, fun ds' m' F' σ' H' q' l' => k.nx ds' m' F' σ' H' q' (l.trans l')⟩⟩
theorem ds_asg {tg : Expr} {g : DTG} (he : DE X G W e te) (hg : DG X G W tg g) (hs : swapsWithSole [tg] e pos.line X.env = pure false := by rfl) (hw : swappedStores [tg] e X.env = pure none := by rfl)
    (h1 : (assignEach [tg] X.env).map (·.2) = [assign tg X.env] := by rfl) : DS X G W (.Assign [tg] e pos) (sAsg te g) := (ps_asg he hg hs hw h1).imp fun _ _ _ h => asg_imp h
theorem ds_set {i : Nat} {x : Str} {pos' : Pos} (h : ∀ {t : TE}, PE X e t → PS X (.Assign [.Name x pos'] e pos) (tAsg t (L2.gName i))) (he : DE X G W e te) : DS X G W (.Assign [.Name x pos'] e pos) (sAsg te (gNm i)) := (h he).imp fun D σ H ⟨F, R, m, ds, E, st, sl, h, k⟩ =>
  ⟨F, R, m, ds, _, E.ex, st, sl, h, k.ex, fun d m1 F1 v H1 q l s1 r => k.nx _ m1 F1 _ H1 q l s1 ((sl.le l).set i r)⟩
/-- a, b = x, y -/
def sPar (i j : Nat) (ta : DTA) : DTS := fun E ds m => ta E.ex ds m fun xs m1 => match xs with
  | [p, q] => E.nx ((ds.set i (some p)).set j (some q)) m1
  | _ => False
theorem ds_par {i j : Nat} {st : Stmt} {t : DTA} {es : List Expr} (h : ∀ {t : TA}, PA X es t → PS X st (tPar i j t)) (ha : DA X G W es t) : DS X G W st (sPar i j t) := (h ha).imp fun D σ H ⟨F, R, m, ds, E, s, sl, h, k⟩ =>
  ⟨F, R, m, ds, _, E.ex, s, sl, h, k.ex, fun xs m1 F1 vs H1 q l s1 r => by
    match xs, vs, r, q with
    | [p, q'], [v, w], .cons r1 (.cons r2 .nil), q => exact ⟨v, w, rfl, k.nx _ m1 F1 _ H1 q l s1 (((sl.le l).set i r1).set j r2)⟩⟩
/-- xs[i] = d, the list one that changes -/
def gIx (to ti : DTE) : DTG := fun x d ds m Q => to x ds m fun o m1 => ti x ds m1 fun k m2 => ∃ (p : Addr) (xs : List D) (n : Nat), o = .ref p ∧ k = .int (n : Int) ∧ m2 p = some (.lst xs) ∧ n < xs.length ∧ Q ds (mset m2 p (.lst (xs.set n d)))
theorem ixN_of {n : Nat} {k : Nat} (h : k < n) : ixN n (k : Int) = some k := by
  simp only [ixN, show (0 : Int) ≤ (n : Int) from Int.natCast_nonneg n, if_true, Int.ofNat_lt, h]
  simp
theorem dg_ix {o i : Expr} {to ti : DTE} (ho : DE X G W o to) (hi : DE X G W i ti)
    (ha : ∀ v, assign (.Subscript o i pos) X.env v = (do let ob ← holding [v] (eval o X.env); let ix ← holding [v, ob] (eval i X.env); standAt pos; holding [v, ob, ix] (setItem ob ix v); release [v, ob, ix] []) := by intro _; rfl) : DG X G W (.Subscript o i pos) (gIx to ti) := (pg_sub ho hi set_list ha).imp fun v σ H Q ⟨F, R, m, ds, d, Q0, x, st, sl, r, h, xk, k⟩ => by
  refine ⟨F, R, m, ds, _, x, st, sl, h, xk, fun o m1 F1 ov H1 h1 l1 s1 r1 => ?_⟩
  refine ⟨F1, R, m1, ds, _, x, s1, sl.le l1, h1, xk.le l1, fun kk m2 F2 iv H2 ⟨p, xs, n, e1, e2, hm, hn, q⟩ l2 s2 r2 => ?_⟩
  subst e1; subst e2
  cases r1
  cases r2
  obtain ⟨hf, vs, hv, rv⟩ := s2.mt p _ hm
  refine ⟨p, vs, n, n, rfl, rfl, hv, ixN_of (by rw [rv.length]; exact hn), ?_⟩
  exact k ds _ F2 σ _ q (l1.trans l2) (s2.put hm ⟨_, upd_same, rv.set (r.le (l1.trans l2)) n⟩) ((sl.le l1).le l2)

/-! ### loops over what stands still -/
abbrev DTI := EK → DSt → M → (List D → M → Prop) → Prop
/-- the iterator gives these, whatever grows -/
def Gives (G : CT) (F : Hp) (J : It) (xs : List D) : Prop := ∀ F' R' m' H', Le F F' → Hst G F' R' H' m' → ∀ i : Nat,
  (xs.length ≤ i → J.stop i H') ∧ (∀ d, xs[i]? = some d → J.go i H' ∧ ∀ v H3, J.yld i H' v H3 → ∃ F3, Le F' F3 ∧ Hst G F3 R' H3 m' ∧ Rep G F3 v d)
def lI (G : CT) (W : WX) (t : DTI) : TI := fun σ H Rr => ∃ F R m ds Q0 x, Hst G F R H m ∧ SL G F σ ds ∧ t x ds m Q0 ∧ XOK G W F R x ∧
  ∀ xs m' F' H', Q0 xs m' → Le F F' → Hst G F' R H' m' → ∃ J, Gives G F' J xs ∧ ∃ H2 F2, Le F' F2 ∧ Hst G F2 R H2 m' ∧ Rr J H2
abbrev DI (X : Cx) (G : CT) (W : WX) (tg it : Expr) (t : DTI) : Prop := ∃ wi, PI X tg it wi ∧ ∀ σ H Rr, (∃ F R m ds Q0 x, Hst G F R H m ∧ SL G F σ ds ∧ t x ds m Q0 ∧ XOK G W F R x ∧
  ∀ xs m' F' H' J, Q0 xs m' → Le F F' → Hst G F' R H' m' → Gives G F' J xs → Rr J H') → wi σ H Rr
theorem gives_list {K : PySem.W.Frag} {F : Hp} {p : Addr} {vs : List V} {xs : List D} (h : F p = some (.lst vs) ∨ ∃ o, F p = some (.frz o (.lst vs))) (r : Reps G F vs xs) : Gives G F (Itl K p) xs := by
  intro F' R' m' H' l st i
  have hq : ∀ F2 H2, Le F' F2 → Hst G F2 R' H2 m' → SqL K H2 p vs := fun F2 H2 l2 s2 => by
    rcases h with h | ⟨o, h⟩
    · exact .inl (.inl (s2.fz _ _ (l2 _ _ (l _ _ h))))
    · exact .inl (.inr ⟨o, s2.fz _ _ (l2 _ _ (l _ _ h))⟩)
  refine ⟨fun hi => ⟨vs, hq F' H' (Le.refl _) st, by rw [r.length]; exact hi⟩, fun d hd => ?_⟩
  obtain ⟨v, hv, rv⟩ := r.get hd
  refine ⟨⟨vs, v, hq F' H' (Le.refl _) st, hv⟩, fun u H3 ⟨e, y⟩ => ?_⟩
  subst e
  have e2 := y vs (hq F' H3 (Le.refl _) st)
  rw [hv] at e2
  cases e2
  exact ⟨F', Le.refl _, st, rv.le l⟩
theorem gives_tup {K : PySem.W.Frag} {F : Hp} {p : Addr} {vs : List V} {xs : List D} (h : F p = some (.tup vs)) (r : Reps G F vs xs) : Gives G F (Itt K p) xs := by
  intro F' R' m' H' l st i
  have hq : ∀ F2 H2, Le F' F2 → Hst G F2 R' H2 m' → SqT K H2 p vs := fun F2 H2 l2 s2 => .inl (.inl (s2.fz _ _ (l2 _ _ (l _ _ h))))
  refine ⟨fun hi => ⟨vs, hq F' H' (Le.refl _) st, by rw [r.length]; exact hi⟩, fun d hd => ?_⟩
  obtain ⟨v, hv, rv⟩ := r.get hd
  refine ⟨⟨vs, v, hq F' H' (Le.refl _) st, hv⟩, fun u H3 ⟨e, y⟩ => ?_⟩
  subst e
  have e2 := y vs (hq F' H3 (Le.refl _) st)
  rw [hv] at e2
  cases e2
  exact ⟨F', Le.refl _, st, rv.le l⟩
def iLst (te : DTE) : DTI := fun x ds m Q => te x ds m fun d m1 => match d with
  | .lst xs => Q xs m1
  | .scr xs => Q xs m1
  | _ => False
def iTupD (te : DTE) : DTI := fun x ds m Q => te x ds m fun d m1 => match d with
  | .tup xs => Q xs m1
  | _ => False
theorem di_list {tg : Expr} (he : DE X G W e te) : DI X G W tg e (iLst te) := ⟨_, pi_list he, fun σ H Rr ⟨F, R, m, ds, Q0, x, st, sl, h, xk, k⟩ => by
  refine ⟨F, R, m, ds, _, x, st, sl, h, xk, fun d m1 F1 v H1 q l1 s1 r1 => ?_⟩
  cases r1 with
  | @lst p vs xs hp r => exact ⟨p, rfl, ⟨vs, .inl (.inl (s1.fz _ _ hp))⟩, k xs m1 F1 H1 _ q l1 s1 (gives_list (.inl hp) r)⟩
  | @lsz p o vs xs hp r => exact ⟨p, rfl, ⟨vs, .inl (.inr ⟨o, s1.fz _ _ hp⟩)⟩, k xs m1 F1 H1 _ q l1 s1 (gives_list (.inr ⟨o, hp⟩) r)⟩
  | _ => exact q.elim⟩
theorem di_tup {tg : Expr} (he : DE X G W e te) : DI X G W tg e (iTupD te) := ⟨_, pi_tup he, fun σ H Rr ⟨F, R, m, ds, Q0, x, st, sl, h, xk, k⟩ => by
  refine ⟨F, R, m, ds, _, x, st, sl, h, xk, fun d m1 F1 v H1 q l1 s1 r1 => ?_⟩
  cases r1 with
  | @tup p vs xs hp r => exact ⟨p, rfl, ⟨vs, .inl (.inl (s1.fz _ _ hp))⟩, k xs m1 F1 H1 _ q l1 s1 (gives_tup hp r)⟩
  | _ => exact q.elim⟩
def rng (lo : Int) (n : Nat) : List D := (List.range n).map fun (i : Nat) => D.int (lo + (i : Int))
theorem rng_len (lo : Int) (n : Nat) : (rng lo n).length = n := by simp [rng]
theorem rng_get {lo : Int} {n i : Nat} {d : D} (h : (rng lo n)[i]? = some d) : i < n ∧ d = .int (lo + (i : Int)) := by
  unfold rng at h
  rw [List.getElem?_map] at h
  cases q : (List.range n)[i]? with
  | none => rw [q] at h; cases h
  | some j =>
    rw [q] at h
    obtain ⟨h1, h2⟩ := List.getElem?_eq_some_iff.mp q
    simp at h1 h2
    subst h2
    cases h
    exact ⟨h1, rfl⟩
theorem gives_rng {F : Hp} {lo : Int} {n : Nat} : Gives G F (Itr lo n) (rng lo n) := by
  intro F' R' m' H' l st i
  refine ⟨fun hi => by rw [rng_len] at hi; exact hi, fun d hd => ?_⟩
  obtain ⟨h1, h2⟩ := rng_get hd
  subst h2
  refine ⟨h1, fun v H3 ⟨e, y⟩ => ?_⟩
  subst e y
  exact ⟨F', Le.refl _, st, .int _⟩
def iR1 (ta : DTA) : DTI := fun x ds m Q => ta x ds m fun xs m1 => match xs with
  | [.int j] => (-(2 ^ 62) ≤ j ∧ j < 2 ^ 62) ∧ Q (rng 0 j.toNat) m1
  | _ => False
def iR2 (ta : DTA) : DTI := fun x ds m Q => ta x ds m fun xs m1 => match xs with
  | [.int i, .int j] => (-(2 ^ 62) ≤ i ∧ i < 2 ^ 62 ∧ -(2 ^ 62) ≤ j ∧ j < 2 ^ 62) ∧ Q (rng i (j - i).toNat) m1
  | _ => False
theorem di_range1 {tg : Expr} {p : Pos} {t : DTA} (hg : Gl X "range") (hm : X.mg "range" = none) (ha : DA X G W [a] t) (hs : starEach [a] X.env = [(false, eval a X.env)] := by rfl) : DI X G W tg (.Call (.Name "range" p) [a] [] pos) (iR1 t) :=
  ⟨_, pi_range1 hg hm ha hs, fun σ H Rr ⟨F, R, m, ds, Q0, x, st, sl, h, xk, k⟩ => by
    refine ⟨F, R, m, ds, _, x, st, sl, h, xk, fun xs m1 F1 vs H1 q l1 s1 r1 => ?_⟩
    match xs, vs, r1, q with
    | [.int j], [v], .cons r .nil, q => cases r; exact ⟨j, rfl, q.1.1, q.1.2, k _ m1 F1 H1 _ q.2 l1 s1 gives_rng⟩⟩
theorem di_range2 {tg : Expr} {p : Pos} {t : DTA} (hg : Gl X "range") (hm : X.mg "range" = none) (ha : DA X G W [a, b] t) (hs : starEach [a, b] X.env = [(false, eval a X.env), (false, eval b X.env)] := by rfl) (hs2 : starEach [b] X.env = [(false, eval b X.env)] := by rfl) :
    DI X G W tg (.Call (.Name "range" p) [a, b] [] pos) (iR2 t) :=
  ⟨_, pi_range2 hg hm ha hs hs2, fun σ H Rr ⟨F, R, m, ds, Q0, x, st, sl, h, xk, k⟩ => by
    refine ⟨F, R, m, ds, _, x, st, sl, h, xk, fun xs m1 F1 vs H1 q l1 s1 r1 => ?_⟩
    match xs, vs, r1, q with
    | [.int i, .int j], [v, w], .cons r (.cons r' .nil), q => cases r; cases r'; exact ⟨i, j, rfl, q.1, k _ m1 F1 H1 _ q.2 l1 s1 gives_rng⟩⟩
/-- enumerate of a list -/
def enumD (xs : List D) : List D := xs.zipIdx.map fun p => D.tup [.int (p.2 : Nat), p.1]
theorem enumD_get {xs : List D} {i : Nat} {d : D} (h : (enumD xs)[i]? = some d) : ∃ y, xs[i]? = some y ∧ d = .tup [.int (i : Nat), y] := by
  unfold enumD at h
  rw [List.getElem?_map, List.getElem?_zipIdx] at h
  cases q : xs[i]? with
  | none => rw [q] at h; cases h
  | some y =>
    rw [q] at h
    simp at h
    exact ⟨y, rfl, h.symm⟩
theorem gives_enum {K : PySem.W.Frag} {F : Hp} {p : Addr} {vs : List V} {xs : List D} (h : F p = some (.lst vs)) (r : Reps G F vs xs) : Gives G F (Ite K p) (enumD xs) := by
  intro F' R' m' H' l st i
  have hq : ∀ F2 H2, Le F' F2 → Hst G F2 R' H2 m' → SqL K H2 p vs := fun F2 H2 l2 s2 => .inl (.inl (s2.fz _ _ (l2 _ _ (l _ _ h))))
  refine ⟨fun hi => ⟨vs, hq F' H' (Le.refl _) st, by rw [r.length]; simpa [enumD] using hi⟩, fun d hd => ?_⟩
  obtain ⟨y, hy, e⟩ := enumD_get hd
  subst e
  obtain ⟨v, hv, rv⟩ := r.get hy
  refine ⟨⟨vs, v, hq F' H' (Le.refl _) st, hv⟩, fun u H3 ⟨T, x, e1, hT, e3, y3⟩ => ?_⟩
  subst e1 e3
  have e2 := y3 vs (hq F' H' (Le.refl _) st)
  rw [hv] at e2
  cases e2
  exact ⟨_, le_upd (st.fnone hT), st.new hT, .tup upd_same (.cons (.int _) (.cons ((rv.le l).le (le_upd (st.fnone hT))) .nil))⟩
def iEnm (ta : DTA) : DTI := fun x ds m Q => ta x ds m fun xs m1 => match xs with
  | [.lst ys] => Q (enumD ys) m1
  | [.scr ys] => Q (enumD ys) m1
  | _ => False
theorem gives_enumz {K : PySem.W.Frag} {F : Hp} {p : Addr} {o : Obj} {vs : List V} {xs : List D} (h : F p = some (.frz o (.lst vs))) (r : Reps G F vs xs) : Gives G F (Ite K p) (enumD xs) := by
  intro F' R' m' H' l st i
  have hq : SqL K H' p vs := .inl (.inr ⟨o, st.fz _ _ (l _ _ h)⟩)
  refine ⟨fun hi => ⟨vs, hq, by rw [r.length]; simpa [enumD] using hi⟩, fun d hd => ?_⟩
  obtain ⟨y, hy, e⟩ := enumD_get hd
  subst e
  obtain ⟨v, hv, rv⟩ := r.get hy
  refine ⟨⟨vs, v, hq, hv⟩, fun u H3 ⟨T, x, e1, hT, e3, y3⟩ => ?_⟩
  subst e1 e3
  have e2 := y3 vs hq
  rw [hv] at e2
  cases e2
  exact ⟨_, le_upd (st.fnone hT), st.new hT, .tup upd_same (.cons (.int _) (.cons ((rv.le l).le (le_upd (st.fnone hT))) .nil))⟩
theorem di_enum {elts : List Expr} {kk : Nat} {tpos p : Pos} {t : DTA} (hg : Gl X "enumerate") (hm : X.mg "enumerate" = none) (ha : DA X G W [e] t) (hs : starEach [e] X.env = [(false, eval e X.env)] := by rfl) :
    DI X G W (.Tuple elts kk tpos) (.Call (.Name "enumerate" p) [e] [] pos) (iEnm t) := ⟨_, pi_enum hg hm ha hs, fun σ H Rr ⟨F, R, m, ds, Q0, x, st, sl, h, xk, k⟩ => by
    refine ⟨F, R, m, ds, _, x, st, sl, h, xk, fun xs m1 F1 vs H1 q l1 s1 r1 => ?_⟩
    match xs, vs, r1, q with
    | [.lst ys], [v], .cons r .nil, q =>
      cases r with
      | @lst p ws _ hp rr => exact ⟨p, ws, rfl, .inl (.inl (s1.fz _ _ hp)), k _ m1 F1 H1 _ q l1 s1 (gives_enum hp rr)⟩
    | [.scr ys], [v], .cons r .nil, q =>
      cases r with
      | @lsz p o ws _ hp rr => exact ⟨p, ws, rfl, .inl (.inr ⟨o, s1.fz _ _ hp⟩), k _ m1 F1 H1 _ q l1 s1 (gives_enumz hp rr)⟩⟩

/-- the turns -/
def forD (g : DTG) (tb : DTS) (E : DEnds) : List D → DSt → M → Prop
  | [], ds, m => E.nx ds m
  | d :: r, ds, m => g E.ex d ds m fun ds' m' => tb { E with nx := forD g tb E r, ct := forD g tb E r, bk := E.nx } ds' m'
def sFor (ti : DTI) (g : DTG) (tb : DTS) : DTS := fun E ds m => ti E.ex ds m fun xs m1 => forD g tb E xs ds m1
theorem ds_for {tg it : Expr} {body : List Stmt} {ti : DTI} {g : DTG} {tb : DTS} (hp : PassesOwn (model X.prog X.w) X.A X.env X.xe) (hc : X.calm = true) (hi : DI X G W tg it ti) (hg : DG X G W tg g) (hb : DSs X G W body tb)
    (hs : ∀ x, foldedSetIterable it X.env x = pure x := by intro _; rfl) : DS X G W (.For tg it body [] pos) (sFor ti g tb) := by
  obtain ⟨wi, hi, hw⟩ := hi
  refine (ps_for hp hc hi hg hb hs).imp fun D σ H ⟨F, R, m, ds, E, st, sl, h, k⟩ => ?_
  refine hw σ H _ ⟨F, R, m, ds, _, E.ex, st, sl, h, k.ex, fun xs m1 F1 H1 J q l1 s1 gv => ?_⟩
  refine ⟨fun i n σ' H' => ∃ F' m' ds', n = xs.length - i ∧ i ≤ xs.length ∧ Le F1 F' ∧ Hst G F' R H' m' ∧ SL G F' σ' ds' ∧ forD g tb E (xs.drop i) ds' m', ⟨xs.length, F1, m1, ds, by simp, Nat.zero_le _, Le.refl _, s1, sl.le l1, by simpa using q⟩, ?_⟩
  rintro i n σ' H' ⟨F', m', ds', rfl, hi', l', s', sl', f⟩
  obtain ⟨g1, g2⟩ := gv F' R m' H' l' s' i
  by_cases hlt : i < xs.length
  · obtain ⟨hgo, hy⟩ := g2 xs[i] (by simp [hlt])
    rw [List.drop_eq_getElem_cons hlt] at f
    refine .inr ⟨hgo, fun σ2 H2 => ∃ F2 m2 ds2, Le F1 F2 ∧ Hst G F2 R H2 m2 ∧ SL G F2 σ2 ds2 ∧ forD g tb E (xs.drop (i + 1)) ds2 m2, fun σ2 H2 ⟨F2, m2, ds2, l2, s2, sl2, f2⟩ => ⟨xs.length - (i + 1), by omega, F2, m2, ds2, rfl, hlt, l2, s2, sl2, f2⟩, fun v H3 y => ?_⟩
    obtain ⟨F3, l3, s3, r3⟩ := hy v H3 y
    have lA : Le F F3 := (l1.trans l').trans l3
    refine ⟨F3, R, m', ds', xs[i], _, E.ex, s3, sl'.le l3, r3, f, k.ex.le lA, fun ds4 m4 F4 σ4 H4 q4 l4 s4 sl4 => ?_⟩
    refine ⟨F4, R, m4, ds4, _, s4, sl4, q4, ?_⟩
    have lB : Le F F4 := lA.trans l4
    have lC : Le F1 F4 := (l'.trans l3).trans l4
    refine ⟨fun dsx mx Fx σx Hx hx lx sx slx => ⟨Fx, mx, dsx, lC.trans lx, sx, slx, hx⟩, (k.le lB).rt, (k.le lB).nx, fun dsx mx Fx σx Hx hx lx sx slx => ⟨Fx, mx, dsx, lC.trans lx, sx, slx, hx⟩, k.ex.le lB⟩
  · have e : i = xs.length := by omega
    subst e
    rw [List.drop_length] at f
    exact .inl ⟨g1 (Nat.le_refl _), k.nx _ m' F' σ' H' f (l1.trans l') s' sl'⟩
/-- while, by a word and a measure -/
def sWhile (c : DTT) (tb : DTS) : DTS := fun E ds m => ∃ P : Nat → DSt → M → Prop, (∃ n, P n ds m) ∧ ∀ n ds m, P n ds m → c E.ex ds m fun b m1 => if b = true then tb { E with nx := fun ds' m' => ∃ n', n' < n ∧ P n' ds' m', ct := fun ds' m' => ∃ n', n' < n ∧ P n' ds' m', bk := E.nx } ds m1 else E.nx ds m1
theorem ds_while {c : Expr} {body : List Stmt} {tc : DTT} {tb : DTS} (hp : PassesOwn (model X.prog X.w) X.A X.env X.xe) (hc : DT X G W c tc) (hb : DSs X G W body tb) : DS X G W (.While c body [] pos) (sWhile tc tb) := by
  refine (ps_while hp hc hb).imp fun D σ H ⟨F, R, m, ds, E, st, sl, ⟨P, ⟨n0, p0⟩, tn⟩, k⟩ => ?_
  refine ⟨fun n σ' H' => ∃ F' m' ds', Le F F' ∧ Hst G F' R H' m' ∧ SL G F' σ' ds' ∧ P n ds' m', ⟨n0, F, m, ds, Le.refl _, st, sl, p0⟩, ?_⟩
  rintro n σ' H' ⟨F', m', ds', l', s', sl', p'⟩
  refine ⟨F', R, m', ds', _, E.ex, s', sl', tn n ds' m' p', k.ex.le l', fun b m1 F1 H1 q l1 s1 => ?_⟩
  have lA : Le F F1 := l'.trans l1
  cases b with
  | true =>
    refine ⟨fun σ2 H2 => ∃ F2 m2 ds2 n2, n2 < n ∧ Le F F2 ∧ Hst G F2 R H2 m2 ∧ SL G F2 σ2 ds2 ∧ P n2 ds2 m2, fun σ2 H2 ⟨F2, m2, ds2, n2, hn, l2, s2, sl2, p2⟩ => ⟨n2, hn, F2, m2, ds2, l2, s2, sl2, p2⟩, ?_⟩
    refine ⟨F1, R, m1, ds', _, s1, sl'.le l1, q, ?_⟩
    exact ⟨fun dsx mx Fx σx Hx ⟨nn, hn, hx⟩ lx sx slx => ⟨Fx, mx, dsx, nn, hn, lA.trans lx, sx, slx, hx⟩, (k.le lA).rt, (k.le lA).nx, fun dsx mx Fx σx Hx ⟨nn, hn, hx⟩ lx sx slx => ⟨Fx, mx, dsx, nn, hn, lA.trans lx, sx, slx, hx⟩, k.ex.le lA⟩
  | false => exact k.nx _ m1 F1 σ' H1 q lA s1 (sl'.le l1)
end
end DL

namespace DL
open PySem L2
abbrev WF : WX := fun _ _ _ _ => False
def noX : EK := fun _ _ _ _ => False
theorem noX_ok {G : CT} {W : WX} {F R : Hp} : XOK G W F R noX := fun _ _ _ _ _ _ _ _ h => h.elim
/-! ### slots forgotten -/
def wipeD (ds : DSt) : List Nat → DSt
  | [] => ds
  | v :: vs => (wipeD ds vs).set v none
theorem SL.wipe {G : CT} {F : Hp} {σ : St} {ds : DSt} (s : SL G F σ ds) : ∀ vs : List Nat, SL G F (L2.wipe σ vs) (wipeD ds vs)
  | [] => s
  | v :: vs => (SL.wipe s vs).forget v none
theorem wipe_at (σ : St) (j : Nat) : ∀ vs : List Nat, (L2.wipe σ vs)[j]? = if j ∈ vs ∧ j < σ.length then some none else σ[j]?
  | [] => by simp [L2.wipe]
  | v :: vs => by
    unfold L2.wipe
    have ih := wipe_at σ j vs
    have hl := wipe_length σ vs
    by_cases hv : v = j
    · subst hv
      by_cases hj : v < σ.length
      · rw [List.getElem?_set_self (by rw [hl]; exact hj), if_pos ⟨List.mem_cons_self, hj⟩]
      · rw [List.getElem?_eq_none (by rw [List.length_set, hl]; omega), if_neg (fun z => hj z.2), List.getElem?_eq_none (by omega)]
    · rw [List.getElem?_set_ne hv, ih]
      have e : (j ∈ vs ∧ j < σ.length) ↔ (j ∈ v :: vs ∧ j < σ.length) := by
        constructor
        · exact fun z => ⟨List.mem_cons_of_mem _ z.1, z.2⟩
        · intro z
          refine ⟨?_, z.2⟩
          rcases List.mem_cons.mp z.1 with q | q
          · exact absurd q.symm hv
          · exact q
      by_cases c : j ∈ vs ∧ j < σ.length
      · rw [if_pos c, if_pos (e.mp c)]
      · rw [if_neg c, if_neg (fun z => c (e.mpr z))]
theorem wipe_same {σ τ : St} {vs : List Nat} (hl : σ.length = τ.length) (h : ∀ j, j ∉ vs → σ[j]? = τ[j]?) : L2.wipe σ vs = L2.wipe τ vs := by
  refine List.ext_getElem? fun j => ?_
  rw [wipe_at, wipe_at, hl]
  by_cases c : j ∈ vs ∧ j < τ.length
  · rw [if_pos c, if_pos c]
  · rw [if_neg c, if_neg c]
    by_cases q : j ∈ vs
    · have z : ¬ j < τ.length := fun z => c ⟨q, z⟩
      rw [List.getElem?_eq_none (by omega), List.getElem?_eq_none (by omega)]
    · exact h j q
theorem wipe_set1 {σ : St} {vs : List Nat} {i : Nat} {x : Option V} (hi : i ∈ vs) : L2.wipe ((L2.wipe σ vs).set i x) vs = L2.wipe σ vs := by
  refine (wipe_same ?_ fun j hj => ?_)
  · rw [List.length_set, wipe_length]
  · have e : i ≠ j := fun z => hj (z ▸ hi)
    rw [List.getElem?_set_ne e, wipe_at, if_neg (fun z => hj z.1)]
theorem wipe_set2 {σ : St} {vs : List Nat} {i k : Nat} {x y : Option V} (hi : i ∈ vs) (hk : k ∈ vs) : L2.wipe (((L2.wipe σ vs).set i x).set k y) vs = L2.wipe σ vs := by
  refine (wipe_same ?_ fun j hj => ?_)
  · rw [List.length_set, List.length_set, wipe_length]
  · have e : i ≠ j := fun z => hj (z ▸ hi)
    have e2 : k ≠ j := fun z => hj (z ▸ hk)
    rw [List.getElem?_set_ne e2, List.getElem?_set_ne e, wipe_at, if_neg (fun z => hj z.1)]
section
variable {G : CT} {F R H : Hp} {m : M} {p : Addr} {o o' : HO}
theorem Hst.newR (s : Hst G F R H m) (h : H p = none) : Hst G F (upd R p o) (upd H p o) m := by
  have g := s.grow (o := o) h
  refine ⟨g.fz, fun a v e => ?_, g.mt⟩
  by_cases q : a = p
  · subst q
    rw [upd_same] at e
    cases e
    exact ⟨upd_same, s.fnone h, s.mnone h⟩
  · rw [upd_ne q] at e
    exact g.rs a v e
theorem Hst.putR (s : Hst G F (upd R p o) H m) : Hst G F (upd R p o') (upd H p o') m := by
  obtain ⟨h1, h2, h3⟩ := s.rs p o upd_same
  refine ⟨fun a v e => ?_, fun a v e => ?_, fun a v e => ?_⟩
  · have q : a ≠ p := fun q => by rw [q, h2] at e; cases e
    rw [upd_ne q]; exact s.fz a v e
  · by_cases q : a = p
    · subst q
      rw [upd_same] at e
      cases e
      exact ⟨upd_same, h2, h3⟩
    · rw [upd_ne q] at e
      rw [upd_ne q]
      exact s.rs a v (by rw [upd_ne q]; exact e)
  · have q : a ≠ p := fun q => by rw [q, h3] at e; cases e
    obtain ⟨k1, k2⟩ := s.mt a v e
    exact ⟨k1, k2.le (Le.refl F) (upd_ne q)⟩
theorem Hst.thawR (s : Hst G F (upd R p o) H m) (hR : R p = none) : Hst G (upd F p o) R H m ∧ Le F (upd F p o) := by
  obtain ⟨h1, h2, h3⟩ := s.rs p o upd_same
  refine ⟨⟨fun a v e => ?_, fun a v e => ?_, fun a v e => ?_⟩, le_upd h2⟩
  · by_cases q : a = p
    · subst q; rw [upd_same] at e; cases e; exact h1
    · rw [upd_ne q] at e; exact s.fz a v e
  · have q : a ≠ p := fun q => by rw [q, hR] at e; cases e
    obtain ⟨k1, k2, k3⟩ := s.rs a v (by rw [upd_ne q]; exact e)
    rw [upd_ne q]
    exact ⟨k1, k2, k3⟩
  · have q : a ≠ p := fun q => by rw [q, h3] at e; cases e
    obtain ⟨k1, k2⟩ := s.mt a v e
    rw [upd_ne q]
    exact ⟨k1, k2.le (le_upd h2) rfl⟩
end

/-! ### comprehensions -/
/-- the slots that a turn's item is given to -/
inductive Tgt where
  | one (i : Nat)
  | two (i j : Nat)
def Tgt.ix : Tgt → List Nat
  | .one i => [i]
  | .two i j => [i, j]
def Tgt.put : Tgt → D → DSt → (DSt → Prop) → Prop
  | .one i, d, ds, Q => Q (ds.set i (some d))
  | .two i j, d, ds, Q => match d with
    | .tup [p, q] => Q ((ds.set i (some p)).set j (some q))
    | _ => False
def Tgt.tg (K : PySem.W.Frag) : Tgt → TG
  | .one i => gName i
  | .two i j => gTup K 2 (gCons (gName i) (gCons (gName j) gNil))
def lcD (tg : Tgt) (tt : DTT) (te : DTE) (vs : List Nat) (ds : DSt) (Q : DK) : List D → List D → M → Prop
  | [], acc, m => Q (.lst acc) m
  | d :: r, acc, m => tg.put d (wipeD ds vs) fun ds2 => tt noX ds2 m fun b m1 => if b = true then te noX ds2 m1 fun y m2 => lcD tg tt te vs ds Q r (acc ++ [y]) m2 else lcD tg tt te vs ds Q r acc m1
def eLc (ti : DTI) (tg : Tgt) (tt : DTT) (te : DTE) (vs : List Nat) : DTE := fun x ds m Q => ti x ds m fun xs m1 => xs.length < sizeLine ∧ lcD tg tt te vs ds Q xs [] m1
section
variable {X : Cx} {G : CT} {W : WX}
theorem lc_imp {tg it : Expr} {ti : DTI} {tgt : Tgt} {tt : DTT} {te : DTE} {vs : List Nat} {wi : TI} (hv : ∀ i ∈ tgt.ix, i ∈ vs)
    (hw : ∀ σ H Rr, (∃ F R m ds Q0 x, Hst G F R H m ∧ SL G F σ ds ∧ ti x ds m Q0 ∧ XOK G W F R x ∧ ∀ xs m' F' H' J, Q0 xs m' → Le F F' → Hst G F' R H' m' → Gives G F' J xs → Rr J H') → wi σ H Rr)
    {σ : St} {H : Hp} {Q : VK} (h : lE G W (eLc ti tgt tt te vs) σ H Q) : tLc wi (tgt.tg X.K) (lT G WF tt) (lE G WF te) vs σ H Q := by
  obtain ⟨F, R, m, ds, Q0, x, st, sl, h, xk, k⟩ := h
  refine hw σ H _ ⟨F, R, m, ds, _, x, st, sl, h, xk, fun xs m1 F1 H1 J ⟨hz, q⟩ l1 s1 gv => fun Dl hD => ?_⟩
  have hR : R Dl = none := s1.rnone hD
  refine ⟨fun i n H' => ∃ F' m' accV acc, n = xs.length - i ∧ i ≤ xs.length ∧ acc.length ≤ i ∧ Le F1 F' ∧ Hst G F' (upd R Dl (.lst accV)) H' m' ∧ Reps G F' accV acc ∧ lcD tgt tt te vs ds Q0 (xs.drop i) acc m',
    ⟨xs.length, F1, m1, [], [], by simp, Nat.zero_le _, Nat.le_refl _, Le.refl _, s1.newR hD, .nil, by simpa using q⟩, ?_⟩
  rintro i n H' ⟨F', m', accV, acc, rfl, hi, ha, l', s', ra, f⟩
  obtain ⟨g1, g2⟩ := gv F' _ m' H' l' s' i
  by_cases hlt : i < xs.length
  · obtain ⟨hgo, hy⟩ := g2 xs[i] (by simp [hlt])
    rw [List.drop_eq_getElem_cons hlt] at f
    refine .inr ⟨hgo, fun H2 => ∃ F2 m2 accV2 acc2, acc2.length ≤ i + 1 ∧ Le F1 F2 ∧ Hst G F2 (upd R Dl (.lst accV2)) H2 m2 ∧ Reps G F2 accV2 acc2 ∧ lcD tgt tt te vs ds Q0 (xs.drop (i + 1)) acc2 m2,
      fun H2 ⟨F2, m2, accV2, acc2, ha2, l2, s2, ra2, f2⟩ => ⟨xs.length - (i + 1), by omega, F2, m2, accV2, acc2, rfl, hlt, ha2, l2, s2, ra2, f2⟩, fun v H3 y => ?_⟩
    obtain ⟨F3, l3, s3, r3⟩ := hy v H3 y
    have lA : Le F F3 := (l1.trans l').trans l3
    have slw : SL G F3 (L2.wipe σ vs) (wipeD ds vs) := (sl.le lA).wipe vs
    -- the rest, from the slots of the turn
    have turn : ∀ (σ2 : St) (ds2 : DSt), SL G F3 σ2 ds2 → L2.wipe σ2 vs = L2.wipe σ vs → (tt noX ds2 m' fun b m1 => if b = true then te noX ds2 m1 fun y m2 => lcD tgt tt te vs ds Q0 (xs.drop (i + 1)) (acc ++ [y]) m2 else lcD tgt tt te vs ds Q0 (xs.drop (i + 1)) acc m1) →
        L2.wipe σ2 vs = L2.wipe σ vs ∧ lT G WF tt σ2 H3 fun b H4 => if b = true then lE G WF te σ2 H4 fun y H5 => ∃ acc, H5 Dl = some (.lst acc) ∧ acc.length < sizeLine ∧ ∃ F2 m2 accV2 acc2, acc2.length ≤ i + 1 ∧ Le F1 F2 ∧ Hst G F2 (upd R Dl (.lst accV2)) (upd H5 Dl (.lst (acc ++ [y]))) m2 ∧ Reps G F2 accV2 acc2 ∧ lcD tgt tt te vs ds Q0 (xs.drop (i + 1)) acc2 m2
          else ∃ F2 m2 accV2 acc2, acc2.length ≤ i + 1 ∧ Le F1 F2 ∧ Hst G F2 (upd R Dl (.lst accV2)) H4 m2 ∧ Reps G F2 accV2 acc2 ∧ lcD tgt tt te vs ds Q0 (xs.drop (i + 1)) acc2 m2 := fun σ2 ds2 sl2 hw2 f2 => by
      refine ⟨hw2, F3, _, m', ds2, _, noX, s3, sl2, f2, noX_ok, fun b m4 F4 H4 q4 l4 s4 => ?_⟩
      cases b with
      | false => exact ⟨F4, m4, accV, acc, by omega, (l'.trans l3).trans l4, s4, (ra.le l3).le l4, q4⟩
      | true =>
        refine ⟨F4, _, m4, ds2, _, noX, s4, sl2.le l4, q4, noX_ok, fun y5 m5 F5 u5 H5 q5 l5 s5 r5 => ?_⟩
        refine ⟨accV, (s5.rs Dl _ upd_same).1, ?_, F5, m5, accV ++ [u5], acc ++ [y5], by simp; omega, ((l'.trans l3).trans l4).trans l5, s5.putR, (((ra.le l3).le l4).le l5).append (.cons r5 .nil), q5⟩
        rw [ra.length]
        omega
    cases tgt with
    | one a =>
      have ha' : a ∈ vs := hv a (by simp [Tgt.ix])
      exact turn _ _ (slw.set a r3) (wipe_set1 ha') f
    | two a b =>
      have ha' : a ∈ vs := hv a (by simp [Tgt.ix])
      have hb' : b ∈ vs := hv b (by simp [Tgt.ix])
      generalize hd : xs[i] = d at f r3
      match d, r3, f with
      | .tup [p, q], r3, f =>
        cases r3 with
        | tup hp rr =>
          cases rr with
          | cons rp rr =>
            cases rr with
            | cons rq rr =>
              cases rr
              refine ⟨_, _, rfl, .inl (.inl (s3.fz _ _ hp)), rfl, _, _, rfl, _, _, rfl, rfl, ?_⟩
              exact turn _ _ ((slw.set a rp).set b rq) (wipe_set2 ha' hb') f
  · have e : i = xs.length := by omega
    subst e
    rw [List.drop_length] at f
    obtain ⟨s6, l6⟩ := s'.thawR hR
    exact .inl ⟨g1 (Nat.le_refl _), k _ m' _ _ H' f ((l1.trans l').trans l6) s6 (.lst upd_same (ra.le l6))⟩
def ttYes : DTT := fun _ _ m Q => Q true m
abbrev DTs (X : Cx) (G : CT) (ifs : List Expr) (t : DTT) : Prop := PTs X ifs (lT G WF t)
theorem dts_nil : DTs X G [] ttYes := ⟨fun pins s σ H Q I h => (pts_nil (X := X)).run pins s σ H Q I (by
  obtain ⟨F, R, m, ds, Q0, x, st, sl, h, xk, k⟩ := h
  exact k true m F H h (Le.refl F) st)⟩
theorem dts_one {c : Expr} {t : DTT} (h : DT X G WF c t) : DTs X G [c] t := pts_one h
theorem de_lc {elt tg it : Expr} {ifs : List Expr} {scope : Scope} {own : List (Str × Nat)} {pos : Pos} {ti : DTI} {tgt : Tgt} {tt : DTT} {te : DTE} (hc : X.calm = true) (hN : X.N.Nodup) (hv : ∀ i ∈ tgt.ix, i ∈ own.map (·.2)) (hi : DI X G W tg it ti) (ok : BlkOk X.N X.env.scope scope own)
    (hg : ∀ (s : Shared) (H : Hp) (C : Addr) (cl : List (Str × Addr)) (fp : List Addr), PG (X.blk s H scope (compEnvC scope cl C X.env) fp) tg (tgt.tg X.K))
    (ht : ∀ (s : Shared) (H : Hp) (C : Addr) (cl : List (Str × Addr)) (fp : List Addr), DTs (X.blk s H scope (compEnvC scope cl C X.env) fp) G ifs tt)
    (he : ∀ (s : Shared) (H : Hp) (C : Addr) (cl : List (Str × Addr)) (fp : List Addr), DE (X.blk s H scope (compEnvC scope cl C X.env) fp) G WF elt te) (hs : ∀ x, foldedSetIterable it X.env x = pure x := by intro _; rfl) :
    DE X G W (.ListComp elt [⟨tg, it, ifs, 0⟩] scope pos) (eLc ti tgt tt te (own.map (·.2))) := by
  obtain ⟨wi, hi, hw⟩ := hi
  exact (pe_lc hc hN hi ok hg ht he hs).imp fun σ H Q h => lc_imp (X := X) (tg := tg) (it := it) hv hw h
/-- y = [..] on one line -/
theorem ds_setLc {i : Nat} {y : Str} {py : Pos} {elt tg it : Expr} {ifs : List Expr} {scope : Scope} {own : List (Str × Nat)} {pos spos : Pos} {ti : DTI} {tgt : Tgt} {tt : DTT} {te : DTE} (hc : X.calm = true) (hN : X.N.Nodup) (hy : X.N[i]? = some y) (hyl : X.env.scope.names.lookup y = some .local)
    (hsw : swapsWith (.ListComp elt [⟨tg, it, ifs, 0⟩] scope pos) (some (.Name y py)) spos.line X.env = pure true) (hv : ∀ i ∈ tgt.ix, i ∈ own.map (·.2)) (hi : DI X G W tg it ti) (ok : BlkOk X.N X.env.scope scope own)
    (hg : ∀ (s : Shared) (H : Hp) (C : Addr) (cl : List (Str × Addr)) (fp : List Addr), PG (X.blk s H scope (compEnvC scope cl C X.env) fp) tg (tgt.tg X.K))
    (ht : ∀ (s : Shared) (H : Hp) (C : Addr) (cl : List (Str × Addr)) (fp : List Addr), DTs (X.blk s H scope (compEnvC scope cl C X.env) fp) G ifs tt)
    (he : ∀ (s : Shared) (H : Hp) (C : Addr) (cl : List (Str × Addr)) (fp : List Addr), DE (X.blk s H scope (compEnvC scope cl C X.env) fp) G WF elt te) (hs : ∀ x, foldedSetIterable it X.env x = pure x := by intro _; rfl) :
    DS X G W (.Assign [.Name y py] (.ListComp elt [⟨tg, it, ifs, 0⟩] scope pos) spos) (sAsg (eLc ti tgt tt te (own.map (·.2))) (gNm i)) := by
  obtain ⟨wi, hi, hw⟩ := hi
  refine (ps_setLc hc hN hy hyl hsw hi ok hg ht he hs).imp fun D σ H ⟨F, R, m, ds, E, st, sl, h, k⟩ => ?_
  exact lc_imp (X := X) (tg := tg) (it := it) (G := G) (W := W) hv hw ⟨F, R, m, ds, _, E.ex, st, sl, h, k.ex, fun d m1 F1 v H1 q l s1 r => k.nx _ m1 F1 _ H1 q l s1 ((sl.le l).set i r)⟩
end
end DL

namespace DL
open PySem PySem.Spec PyProof.Rows L2
open L2H (RoomH)
/-! ### what a def promises, over data -/
abbrev DX := Nat → List D → M → Prop
abbrev DSp := List D → M → DK → DX → Prop
def spL (G : CT) (sp : DSp) : Sp := fun vs H Q E => ∃ F R m xs Q0 x, Hst G F R H m ∧ Reps G F vs xs ∧ sp xs m Q0 x ∧
  (∀ d m' F' v H', Q0 d m' → Le F F' → Hst G F' R H' m' → Rep G F' v d → Q v H') ∧
  (∀ c ys m' F' d H', x c ys m' → Le F F' → Hst G F' R H' m' → XD G F' H' c d ys → E (.ref (G c).addr) d H')
/-- room; nothing is handled unless hot; no repr runs around if grd -/
structure Rm (hot grd : Bool) (k : Nat) (A : Around) : Prop where
  room : RoomH k A
  calm : hot = false → A.handled = none
  gd : grd = true → A.guards = some []
theorem Rm.mono {hot grd : Bool} {j k : Nat} {A : Around} (r : Rm hot grd k A) (h : j ≤ k) : Rm hot grd j A := ⟨r.room.mono h, r.calm, r.gd⟩
theorem Rm.noG {hot grd : Bool} {k : Nat} {A : Around} (r : Rm hot grd k A) : Rm hot false k A := ⟨r.room, r.calm, (fun z => nomatch z)⟩
theorem Rm.hotF {hot grd : Bool} {k : Nat} {A : Around} (r : Rm hot grd k A) : Rm true grd k A := ⟨r.room, (fun z => nomatch z), r.gd⟩
theorem Rm.r {grd : Bool} {k : Nat} {A : Around} (r : Rm false grd k A) : Room k A := ⟨r.calm rfl, r.room.dp, r.room.un⟩
structure FnG (hot grd : Bool) (P : Program) (w : World) (K : PySem.W.Frag) (mg : Str → Option Value) (base : Heap) (k : Nat) (f : Addr) (fd : FuncData) (ps : List Str) (sp : Sp) : Prop where
  len : ∀ vs H Q E, sp vs H Q E → vs.length = ps.length
  go : ∀ (A : Around) (outer : List Env) (s : Shared) (H : Hp) (args : Args) (us : List Value) (vs : List V) (Q : VK) (E : XK), Rm hot grd k A → Env0 P w K mg base A outer s H → BindsTo s fd args (ps.zip us) → Vals vs us → sp vs H Q E →
    codeAny (model P w) A (.call (.ref f) args) (CR (L2.CX P w) outer P w H s Q E) s
section
variable {hot grd : Bool} {P : Program} {w : World} {K : PySem.W.Frag} {mg : Str → Option Value} {base : Heap}
theorem FnG.ok {k : Nat} {f : Addr} {fd : FuncData} {ps : List Str} {sp : Sp} (F : FnG hot false P w K mg base k f fd ps sp) : FnOk P w K mg base (L2.CX P w) k f fd ps sp :=
  ⟨F.len, fun A o s H args us vs Q E hr => F.go A o s H args us vs Q E ⟨⟨hr.dp, hr.un⟩, fun _ => hr.hd, (fun z => nomatch z)⟩⟩
theorem FnG.mono {j k : Nat} {f : Addr} {fd : FuncData} {ps : List Str} {sp : Sp} (F : FnG hot grd P w K mg base j f fd ps sp) (h : j ≤ k) : FnG hot grd P w K mg base k f fd ps sp :=
  ⟨F.len, fun A o s H args us vs Q E hr => F.go A o s H args us vs Q E (hr.mono h)⟩
theorem FnG.imp {k : Nat} {f : Addr} {fd : FuncData} {ps : List Str} {sp sp' : Sp} (F : FnG hot grd P w K mg base k f fd ps sp) (h : ∀ vs H Q E, sp' vs H Q E → sp vs H Q E) : FnG hot grd P w K mg base k f fd ps sp' :=
  ⟨fun vs H Q E q => F.len vs H Q E (h _ _ _ _ q), fun A o s H args us vs Q E hr he hb hv q => F.go A o s H args us vs Q E hr he hb hv (h _ _ _ _ q)⟩
/-- a promise with more kinds of places -/
theorem FnG.at_ {k : Nat} {f : Addr} {fd : FuncData} {ps : List Str} {sp : Sp} (F : FnG true false P w K mg base k f fd ps sp) : FnG hot grd P w K mg base k f fd ps sp :=
  ⟨F.len, fun A o s H args us vs Q E hr => F.go A o s H args us vs Q E (hr.hotF.noG)⟩
theorem FnG.any {k : Nat} {f : Addr} {fd : FuncData} {ps : List Str} {sp : Sp} (F : FnG hot false P w K mg base k f fd ps sp) : FnG hot grd P w K mg base k f fd ps sp :=
  ⟨F.len, fun A o s H args us vs Q E hr => F.go A o s H args us vs Q E hr.noG⟩
end
/-- the context of a def's body -/
def cxG (hot : Bool) (P : Program) (w : World) (K : PySem.W.Frag) (mg : Str → Option Value) (base : Heap) (N : List Str) (qual : Str) (scope : Scope) (f : Addr) (cd : Value) (A : Around) (outer : List Env) (s : Shared) (H : Hp) (E : XK) : Cx :=
  { cxOf (L2.CX P w) P w K mg base N qual scope f cd A outer s H E with calm := !hot }
theorem inv_cxG {hot : Bool} {P : Program} {w : World} {K : PySem.W.Frag} {mg : Str → Option Value} {base : Heap} {N : List Str} {qual : Str} {scope : Scope} {f : Addr} {cd : Value} {A : Around} {outer : List Env} {s s1 : Shared} {H : Hp} {E : XK} {σ : L2.St}
    (hc : hot = false → A.handled = none) (e0 : Env0 P w K mg base A outer s H) (I : Inv (cxOf (L2.CX P w) P w K mg base N qual scope f cd { A with handled := none } outer s H E) [] σ H s1) : Inv (cxG hot P w K mg base N qual scope f cd A outer s H E) [] σ H s1 := by
  obtain ⟨o, i1, i2, i3, i4, i5, i6, i7, i8, i9, i10⟩ := I
  refine ⟨⟨o.mod, o.kind, o.glob, o.blt, o.above, o.inj, o.has, o.cab, fun z => ?_, Around.frames_deeper e0.frames, o.stk, o.exf, o.bs, o.bsz, o.noex, o.exfs, o.funs, o.frf⟩, i1, i2, i3, i4, i5, i6, i7, i8, i9, i10⟩
  cases hot with
  | false => exact hc rfl
  | true => exact Bool.noConfusion (show false = true from z)
def startD (N : List Str) (xs : List D) : DSt := xs.map some ++ List.replicate (N.length - xs.length) none
theorem sl_start {G : CT} {F : Hp} {vs : List V} {xs : List D} (N : List Str) (r : Reps G F vs xs) : SL G F (L2.start N vs) (startD N xs) := by
  have hl := r.length
  refine ⟨by simp [L2.start, startD, hl], fun i d h => ?_⟩
  unfold startD at h
  by_cases hi : i < xs.length
  · rw [List.getElem?_append_left (by simpa using hi), List.getElem?_map] at h
    cases q : xs[i]? with
    | none => rw [q] at h; cases h
    | some y =>
      rw [q] at h
      cases h
      obtain ⟨v, h1, h2⟩ := r.get q
      refine ⟨v, ?_, h2⟩
      unfold L2.start
      rw [List.getElem?_append_left (by rw [List.length_map, hl]; exact hi), List.getElem?_map, h1]
      rfl
  · rw [List.getElem?_append_right (by simpa using hi), List.getElem?_replicate] at h
    split at h <;> cases h
section
variable {hot grd : Bool} {P : Program} {w : World} {K : PySem.W.Frag} {mg : Str → Option Value} {base : Heap}
/-- THE RULE for a def: its body's term, and what is wanted of it over data -/
theorem fn_okG {x qual : Str} {st : Stmt} {f : Addr} {fd : FuncData} {N ps : List Str} {k : Nat} {G : CT} {sp : DSp} (F : Fun K x qual st f fd) (S : FnScope N ps (defScope st)) (hlen : ∀ xs m Q x, sp xs m Q x → xs.length = ps.length)
    (hbody : ∀ (cdv : Value) (A : Around) (outer : List Env) (s : Shared) (H : Hp) (E : XK) (xs : List D) (m : M) (Q : DK) (x : DX), Rm hot grd k (A.deeper (envOfC qual (defScope st) s.heap.objs.size f cdv)) → sp xs m Q x →
      ∃ t, DSs (cxG hot P w K mg base N qual (defScope st) f cdv A outer s H E) G (fun cls d _ H' => E cls d H') (defBody st) t ∧ t { nx := fun _ m' => Q .non m', rt := Q, ex := fun _ => x } (startD N xs) m) : FnG hot grd P w K mg base (k + 1) f fd ps (spL G sp) := by
  obtain ⟨oc, od, kV, doc, pm, an, cdv, ct, osl, hfd, lk, hcd⟩ := F.ex
  subst hfd
  refine ⟨fun vs H Q E ⟨F0, R, m, xs, Q0, x0, st0, r0, h0, _⟩ => r0.length.trans (hlen _ _ _ _ h0), fun A outer s H args us vs Q E hr e0 hb hv hsp => ?_⟩
  obtain ⟨F0, R, m, xs, Q0, x0, st0, r0, h0, kq, kx⟩ := hsp
  have vl : vs.length = ps.length := r0.length.trans (hlen _ _ _ _ h0)
  have KX : K.In s.heap := e0.mod.kin.keeps fun b o q => (e0.bs b o q).1
  have lim : s.heap.NoLimit := e0.mod.nolimit.keeps fun b o q => (e0.bs b o q).1
  refine codeAny_call_function hr.room.depth (KX f _ lk) rfl S.co S.gen rfl (PySem.W.codeRec_of KX hcd) (hb _ _ _ _ (wpAny_newFunctionEnv_cells S.kind (fun y hy => ?_) fun env he s1 ic => ?_))
  · obtain ⟨n, u⟩ := y
    exact (S.par n (List.of_mem_zip hy).1).imp id fun isCell => ⟨isCell, PySem.W.cellsFrom_some _ _ _ (.inl isCell)⟩
  · subst he
    refine ⟨lim.keeps ic.toInCall.keep, codeAny_func ?_⟩
    have rm : Rm hot grd k (A.deeper (envOfC qual (defScope st) s.heap.objs.size f cdv)) := ⟨hr.room.deeper _, hr.calm, hr.gd⟩
    obtain ⟨t, ht, hq⟩ := hbody cdv A outer s H E xs m Q0 x0 rm h0
    have e1 : Env0 P w K mg base { A with handled := none } outer s H := ⟨e0.frames, e0.mod, e0.bs, e0.bsz, e0.funs, e0.frf, e0.hok, e0.bare⟩
    have I := inv_cxG (hot := hot) (A := A) (E := E) hr.calm e0 (inv_start (CX := L2.CX P w) S rfl e1 vl hv ic)
    have tot : lS G (fun cls d _ H' => E cls d H') t { nx := fun _ H' => Q .non H', rt := Q } (L2.start N vs) H :=
      ⟨F0, R, m, startD N xs, _, st0, sl_start N r0, hq, fun ds m' F' σ' H' q l s' _ => kq .non m' F' .non H' q l s' .non, fun d m' F' v H' q l s' r => kq d m' F' v H' q l s' r, fun _ _ _ _ _ q => q.elim, fun _ _ _ _ _ q => q.elim,
        fun ds c ys m' F' σ' d H' q l s' _ xd => kx c ys m' F' d H' q l s' xd⟩
    refine wpAny_mono (ht.run [] s1 _ H _ I tot) (fun fl s' hs => ?_) fun e s' hs => hs
    cases fl with
    | ret u => exact let ⟨v, σ', H', J, rv, q⟩ := hs; ⟨v, H', J.os, J.bare, J.base, J.hok, rv, q⟩
    | next => exact let ⟨σ', H', J, q⟩ := hs; ⟨V.non, H', J.os, J.bare, J.base, J.hok, rfl, q⟩
    | brk => exact let ⟨_, _, _, q⟩ := hs; False.elim q
    | cont => exact let ⟨_, _, _, q⟩ := hs; False.elim q
end
/-! ### calls of defs -/
section
variable {X : Cx} {G : CT} {W : WX} {hot grd : Bool} {k : Nat} {f : Addr} {fd : FuncData} {ps : List Str} {sp : DSp} {x : Str} {p pos : Pos} {e : Expr} {es : List Expr} {ta : DTA}
theorem run_G {pins : List (Addr × Obj)} {σ : L2.St} {H : Hp} {s : Shared} {Q : VK} {us : List Value} {vs : List V} {sq : Sp} (F : FnG hot grd X.prog X.w X.K X.mg X.base k f fd ps sq) (hr : Rm hot grd k X.A) (hb : Binds X.K fd ps []) (tk : Takes X W)
    (I : Inv X pins σ H s) (r : Vals vs us) (h : sq vs H Q (fun cls d H' => W cls d σ H')) : wpAny (model X.prog X.w) X.A (call (.ref f) us) (EP X pins σ Q) X.xe s := by
  have b := hb s us I.kIn (by rw [List.append_nil, ← r.length]; exact F.len _ _ _ _ h)
  rw [List.append_nil] at b
  refine wpAny_call (codeAny_mono (F.go X.A X.stack s H ⟨us, []⟩ us vs Q _ hr I.env0 b r h) fun q s' hq => ?_)
  match q, hq with
  | .error e, hq => exact passAt tk σ pins H s e s' I hq
  | .ok (.ret u), hq => exact I.after hq
  | .ok .next, hq => exact hq.elim
  | .ok .brk, hq => exact hq.elim
  | .ok .cont, hq => exact hq.elim
def eCall (sp : DSp) (ta : DTA) : DTE := fun x ds m Q => ta x ds m fun xs m1 => sp xs m1 Q (x ds)
theorem spL_of {sp : DSp} {F R H : Hp} {m : M} {xs : List D} {vs : List V} {Q0 : DK} {x : EK} {ds : DSt} {σ : L2.St} {Q : VK} (st : Hst G F R H m) (sl : SL G F σ ds) (r : Reps G F vs xs) (h : sp xs m Q0 (x ds)) (xk : XOK G W F R x)
    (k : ∀ d m' F' v H', Q0 d m' → Le F F' → Hst G F' R H' m' → Rep G F' v d → Q v H') : spL G sp vs H Q (fun cls d H' => W cls d σ H') :=
  ⟨F, R, m, xs, Q0, x ds, st, r, h, k, fun c ys m' F' d H' q l s' xd => xk ds c ys m' F' σ d H' q l s' (sl.le l) xd⟩
theorem de_call (F : FnG hot grd X.prog X.w X.K X.mg X.base k f fd ps (spL G sp)) (hr : Rm hot grd k X.A) (hg : Gl X x) (hm : X.mg x = some (.ref f)) (hk : PySem.W.keepIn X.K (.ref f) = true) (hb : Binds X.K fd ps []) (tk : Takes X W)
    (ha : DA X G W (e :: es) ta) (hdb : (x == ("__debug__" : Str)) = false := by decide) (he : starEach (e :: es) X.env = (false, eval e X.env) :: starEach es X.env := by rfl) (hpl : (backTo pos (starEach es X.env)).any (·.1) = false := by rfl) :
    DE X G W (.Call (.Name x p) (e :: es) [] pos) (eCall sp ta) := by
  refine ⟨fun pins s σ H Q I ⟨F0, R, m, ds, Q0, xx, st, sl, h, xk, kk⟩ => ?_⟩
  refine wpAny_Call_Name_kw (ld_glob I hg hm ?_ hdb)
  have ha' := ha.run pos pins s σ H (fun vs H1 => spL G sp vs H1 Q (fun cls d H' => W cls d σ H')) I ⟨F0, R, m, ds, _, xx, st, sl, h, xk, fun xs m1 F1 vs H1 q l s1 r1 =>
    spL_of s1 (sl.le l) r1 q (xk.le l) fun d m' F' v H' q' l' => kk d m' F' v H' q' (l.trans l')⟩
  refine PySem.W.callWith_K (h₀ := X.base) I.ok.mod.kin hk (thn ha' fun us s1 ⟨vs, H1, I1, r, q⟩ => ⟨I1.kIn, ?_⟩) he hpl
  exact run_G F hr hb tk I1 r q
end
/-! ### calls of built-ins -/
section
variable {X : Cx} {G : CT} {W : WX}
abbrev DR := List D → M → DK → Prop
def lC (G : CT) (r : DR) : List V → Hp → VK → Prop := fun vs H Q => ∃ F R m xs Q0, Hst G F R H m ∧ Reps G F vs xs ∧ r xs m Q0 ∧ ∀ d m' F' v H', Q0 d m' → Le F F' → Hst G F' R H' m' → Rep G F' v d → Q v H'
abbrev CallD (X : Cx) (G : CT) (f : Value) (r : DR) : Prop := CallR X f (lC G r)
def eCB (r : DR) (ta : DTA) : DTE := fun x ds m Q => ta x ds m fun xs m1 => r xs m1 Q
theorem cb_imp {r : DR} {ta : DTA} {σ : L2.St} {H : Hp} {Q : VK} (h : lE G W (eCB r ta) σ H Q) : tCB (lC G r) (lA G W ta) σ H Q := by
  obtain ⟨F, R, m, ds, Q0, x, st, sl, h, xk, k⟩ := h
  exact ⟨F, R, m, ds, _, x, st, sl, h, xk, fun xs m1 F1 vs H1 q l s1 r1 => ⟨F1, R, m1, xs, Q0, s1, r1, q, fun d m' F' v H' q' l' => k d m' F' v H' q' (l.trans l')⟩⟩
theorem de_callB {id : String} {r : DR} {x : Str} {e : Expr} {es : List Expr} {ta : DTA} {p pos : Pos} (hc : CallD X G (.builtin id) r) (hg : Gl X x) (hm : X.mg x = none) (hv : bootBuiltins x = some (.builtin id)) (ha : DA X G W (e :: es) ta) (hn : x ≠ "__name__" := by decide) (hdb : (x == ("__debug__" : Str)) = false := by decide)
    (he : starEach (e :: es) X.env = (false, eval e X.env) :: starEach es X.env := by rfl) (hpl : (backTo pos (starEach es X.env)).any (·.1) = false := by rfl) : DE X G W (.Call (.Name x p) (e :: es) [] pos) (eCB r ta) :=
  (pe_callB hc hg hm hv ha hn hdb he hpl).imp fun _ _ _ h => cb_imp h
theorem de_callTy {id : String} {r : DR} {x : Str} {e : Expr} {es : List Expr} {ta : DTA} {p pos : Pos} (hc : CallD X G (.type id) r) (hg : Gl X x) (hm : X.mg x = none) (hv : bootBuiltins x = some (.type id)) (ha : DA X G W (e :: es) ta) (hn : x ≠ "__name__" := by decide) (hdb : (x == ("__debug__" : Str)) = false := by decide)
    (he : starEach (e :: es) X.env = (false, eval e X.env) :: starEach es X.env := by rfl) (hpl : (backTo pos (starEach es X.env)).any (·.1) = false := by rfl) : DE X G W (.Call (.Name x p) (e :: es) [] pos) (eCB r ta) :=
  (pe_callTy hc hg hm hv ha hn hdb he hpl).imp fun _ _ _ h => cb_imp h
end
end DL

namespace DL
open PySem PySem.Spec PyProof.Rows L2
section
variable {X : Cx} {G : CT} {W : WX}
/-! ### arithmetic -/
def addD : DR2 := fun x y m Q => match x, y with
  | .int i, .int j => Q (.int (i + j)) m
  | .str a, .str b => a.length + b.length ≤ sizeLine ∧ Q (.str (a ++ b)) m
  | .lst a, .lst b => a.length + b.length ≤ sizeLine ∧ Q (.lst (a ++ b)) m
  | _, _ => False
theorem od_add : OpD X G (binaryOp .Add) addD := OpR.imp (op_add.or (op_add_str.or op_cat)) fun x y H Q hh => by
  obtain ⟨F, R, m, dx, dy, Q0, st, rx, ry, h, k⟩ := hh
  cases rx <;> cases ry <;> first | exact False.elim h | skip
  · exact .inl ⟨_, _, rfl, rfl, k _ m F _ H h (Le.refl F) st (.int _)⟩
  · exact .inr (.inl ⟨_, _, rfl, rfl, h.1, k _ m F _ H h.2 (Le.refl F) st (.str _)⟩)
  · rename_i a vs xs ha ra b ws ys hb rb
    refine .inr (.inr ⟨a, b, vs, ws, rfl, rfl, st.fz _ _ ha, st.fz _ _ hb, by rw [ra.length, rb.length]; exact h.1, fun p hp => ?_⟩)
    have l := le_upd (o := .lst (vs ++ ws)) (st.fnone hp)
    exact k _ m _ _ _ h.2 l (st.new hp) (.lst upd_same ((ra.append rb).le l))
def subD : DR2 := fun x y m Q => match x, y with
  | .int i, .int j => Q (.int (i - j)) m
  | _, _ => False
theorem od_sub : OpD X G (binaryOp .Sub) subD := OpR.imp op_sub fun x y H Q hh => by
  obtain ⟨F, R, m, dx, dy, Q0, st, rx, ry, h, k⟩ := hh
  cases rx <;> cases ry <;> first | exact False.elim h | skip
  · exact ⟨_, _, rfl, rfl, k _ m F _ H h (Le.refl F) st (.int _)⟩
/-- few bits together -/
def MulOk (i j : Int) : Prop := CMulX i j
theorem mulOk {i j : Int} {a b : Nat} (ha : i.natAbs < 2 ^ a) (hb : j.natAbs < 2 ^ b) (h : a + b ≤ 134217728) : MulOk i j := mulx_ok ha hb h
theorem reps_rep {F : Hp} {vs : List V} {xs : List D} (r : Reps G F vs xs) : ∀ k : Nat, Reps G F (List.replicate k vs).flatten (List.replicate k xs).flatten
  | 0 => .nil
  | k + 1 => by
    rw [List.replicate_succ, List.replicate_succ, List.flatten_cons, List.flatten_cons]
    exact r.append (reps_rep r k)
def mulD : DR2 := fun x y m Q => match x, y with
  | .int i, .int j => MulOk i j ∧ Q (.int (i * j)) m
  | .lst xs, .int k => (k < 2 ^ 62 ∧ -(2 ^ 62) < k ∧ xs.length * k.toNat ≤ sizeLine) ∧ Q (.lst (List.replicate k.toNat xs).flatten) m
  | _, _ => False
theorem od_mul : OpD X G (binaryOp .Mult) mulD := OpR.imp (op_mulX.or op_rep) fun x y H Q hh => by
  obtain ⟨F, R, m, dx, dy, Q0, st, rx, ry, h, k⟩ := hh
  cases rx <;> cases ry <;> first | exact False.elim h | skip
  · exact .inl ⟨_, _, rfl, rfl, h.1, k _ m F _ H h.2 (Le.refl F) st (.int _)⟩
  · rename_i a vs xs ha ra j
    obtain ⟨⟨h1, h2, h3⟩, q⟩ := h
    refine .inr ⟨a, j, vs, rfl, rfl, st.fz _ _ ha, by omega, by omega, by rw [ra.length]; exact h3, fun p hp => ?_⟩
    have l := le_upd (o := .lst (List.replicate j.toNat vs).flatten) (st.fnone hp)
    exact k _ m _ _ _ q l (st.new hp) (.lst upd_same ((reps_rep ra _).le l))
def divD : DR2 := fun x y m Q => match x, y with
  | .int i, .int j => (0 < j ∧ j.natAbs < 2 ^ 8000) ∧ Q (.int (i / j)) m
  | _, _ => False
theorem od_div : OpD X G (binaryOp .FloorDiv) divD := OpR.imp op_fdivW fun x y H Q hh => by
  obtain ⟨F, R, m, dx, dy, Q0, st, rx, ry, h, k⟩ := hh
  cases rx <;> cases ry <;> first | exact False.elim h | skip
  · exact ⟨_, _, rfl, rfl, wide_div h.1.1 h.1.2 (by decide) (by decide), k _ m F _ H h.2 (Le.refl F) st (.int _)⟩
def modD : DR2 := fun x y m Q => match x, y with
  | .int i, .int j => 0 < j ∧ Q (.int (i % j)) m
  | _, _ => False
theorem od_mod : OpD X G (binaryOp .Mod) modD := OpR.imp op_mod fun x y H Q hh => by
  obtain ⟨F, R, m, dx, dy, Q0, st, rx, ry, h, k⟩ := hh
  cases rx <;> cases ry <;> first | exact False.elim h | skip
  · exact ⟨_, _, rfl, rfl, h.1, k _ m F _ H h.2 (Le.refl F) st (.int _)⟩
def powD : DR2 := fun x y m Q => match x, y with
  | .int i, .int j => (0 ≤ j ∧ j ≤ 1000000 ∧ i.natAbs < 2 ^ 64) ∧ Q (.int (i ^ j.toNat)) m
  | _, _ => False
theorem od_pow : OpD X G (binaryOp .Pow) powD := OpR.imp op_pow fun x y H Q hh => by
  obtain ⟨F, R, m, dx, dy, Q0, st, rx, ry, h, k⟩ := hh
  cases rx <;> cases ry <;> first | exact False.elim h | skip
  · exact ⟨_, _, rfl, rfl, h.1, k _ m F _ H h.2 (Le.refl F) st (.int _)⟩
abbrev DR1 := D → M → DK → Prop
def negD : DR1 := fun x m Q => match x with
  | .int i => Q (.int (-i)) m
  | _ => False
def eUn (r : DR1) (ta : DTE) : DTE := fun x ds m Q => ta x ds m fun p m1 => r p m1 Q
theorem de_neg {a : Expr} {ta : DTE} {pos : Pos} (ha : DE X G W a ta) : DE X G W (.UnaryOp .USub a pos) (eUn negD ta) := (pe_un un_neg ha).imp fun σ H Q ⟨F, R, m, ds, Q0, x, st, sl, h, xk, k⟩ => by
  refine ⟨F, R, m, ds, _, x, st, sl, h, xk, fun d m1 F1 v H1 q l1 s1 r1 => ?_⟩
  cases r1 <;> first | exact False.elim q | skip
  exact ⟨_, rfl, k _ m1 F1 _ H1 q l1 s1 (.int _)⟩

/-! ### comparisons -/
def sltD : DR2 := fun x y m Q => match x, y with
  | .int i, .int j => Q (.bl (decide (i < j))) m
  | _, _ => False
def fEq : D → D → Bool
  | .int i, .int j => i == j
  | .str a, .str b => a == b
  | _, _ => false
/-- items of tuples that are compared: two ints, two texts -/
def alike : D → D → Bool
  | .int _, .int _ => true
  | .str _, .str _ => true
  | _, _ => false
def alikes : List D → List D → Bool
  | x :: xs, y :: ys => alike x y && alikes xs ys
  | _, _ => true
def fLt : D → D → Bool
  | .int i, .int j => decide (i < j)
  | .str a, .str b => decide (a.cps.toList < b.cps.toList)
  | _, _ => false
def fLe : D → D → Bool
  | .int i, .int j => decide (i ≤ j)
  | .str a, .str b => !decide (b.cps.toList < a.cps.toList)
  | _, _ => false
/-- z: both end; z1: the left ends first -/
def lexD (r : D → D → Bool) (z z1 : Bool) : List D → List D → Bool
  | [], [] => z
  | [], _ :: _ => z1
  | _ :: _, [] => !z1
  | x :: xs, y :: ys => if fEq x y = true then lexD r z z1 xs ys else r x y
def ltD : DR2 := fun x y m Q => match x, y with
  | .int i, .int j => Q (.bl (decide (i < j))) m
  | .str a, .str b => Q (.bl (decide (a.cps.toList < b.cps.toList))) m
  | .tup xs, .tup ys => alikes xs ys = true ∧ Q (.bl (lexD fLt false true xs ys)) m
  | _, _ => False
def leD : DR2 := fun x y m Q => match x, y with
  | .int i, .int j => Q (.bl (decide (i ≤ j))) m
  | .tup xs, .tup ys => alikes xs ys = true ∧ Q (.bl (lexD fLe true true xs ys)) m
  | _, _ => False
def gtD : DR2 := fun x y m Q => match x, y with
  | .int i, .int j => Q (.bl (decide (j < i))) m
  | .tup xs, .tup ys => alikes xs ys = true ∧ Q (.bl (lexD (fun x y => fLt y x) false false xs ys)) m
  | _, _ => False
def geD : DR2 := fun x y m Q => match x, y with
  | .int i, .int j => Q (.bl (decide (j ≤ i))) m
  | .tup xs, .tup ys => alikes xs ys = true ∧ Q (.bl (lexD (fun x y => fLe y x) true false xs ys)) m
  | _, _ => False

theorem lex_eq (r : D → D → Bool) (z z1 : Bool) (Z : Bool) : ∀ (k : Nat) (xs ys : List D) (i : Nat), k = min xs.length ys.length - i → i ≤ min xs.length ys.length → (xs.length = ys.length → Z = z) → (xs.length < ys.length → Z = z1) → (ys.length < xs.length → Z = !z1) →
    Ob.lexAt (fun j => fEq (xs.getD j .non) (ys.getD j .non)) (fun j => r (xs.getD j .non) (ys.getD j .non)) Z i k = lexD r z z1 (xs.drop i) (ys.drop i)
  | 0, xs, ys, i, hk, hi, e1, e2, e3 => by
    rw [Ob.lexAt_zero]
    rcases Nat.lt_trichotomy xs.length ys.length with h | h | h
    · rw [e2 h, List.drop_eq_nil_of_le (by omega : xs.length ≤ i)]
      cases q : ys.drop i with
      | nil => have := congrArg List.length q; rw [List.length_drop, List.length_nil] at this; omega
      | cons a b => rfl
    · rw [e1 h, List.drop_eq_nil_of_le (by omega : xs.length ≤ i), List.drop_eq_nil_of_le (by omega : ys.length ≤ i)]
      rfl
    · rw [e3 h, List.drop_eq_nil_of_le (by omega : ys.length ≤ i)]
      cases q : xs.drop i with
      | nil => have := congrArg List.length q; rw [List.length_drop, List.length_nil] at this; omega
      | cons a b => rfl
  | k + 1, xs, ys, i, hk, hi, e1, e2, e3 => by
    have h1 : i < xs.length := by omega
    have h2 : i < ys.length := by omega
    rw [Ob.lexAt_succ, List.drop_eq_getElem_cons h1, List.drop_eq_getElem_cons h2, lex_eq r z z1 Z k xs ys (i + 1) (by omega) (by omega) e1 e2 e3]
    have g1 : xs.getD i .non = xs[i] := by simp [h1]
    have g2 : ys.getD i .non = ys[i] := by simp [h2]
    rw [g1, g2]
    rfl
theorem alikes_at : ∀ {xs ys : List D} (j : Nat), alikes xs ys = true → j < xs.length → j < ys.length → alike (xs.getD j .non) (ys.getD j .non) = true
  | x :: xs, y :: ys, 0, h, _, _ => by
    unfold alikes at h
    exact (Bool.and_eq_true_iff.mp h).1
  | x :: xs, y :: ys, j + 1, h, h1, h2 => by
    unfold alikes at h
    have := alikes_at (xs := xs) (ys := ys) j (Bool.and_eq_true_iff.mp h).2 (by simpa using h1) (by simpa using h2)
    simpa using this
/-- the order of two tuples, item by item -/
theorem tup_ord {op : CmpOp} {zf : Nat → Nat → Bool} {r : D → D → Bool} {z z1 : Bool} (hu : X.A.units < cLine)
    (T : ∀ {A : Around} {s : Shared} {l b : Addr} {items items2 : Array Value} {e r : Nat → Bool}, s.heap.IsTuple l items → s.heap.IsTuple b items2 → A.units < cLine → (∀ j (h1 : j < items.size) (h2 : j < items2.size), SeqAt.EqAt A.in1 s items[j] items2[j] (e j)) →
      (∀ j (h1 : j < items.size) (h2 : j < items2.size), e j = false → Ob.RcOp op A.in1 s items[j] items2[j] (r j)) → Ob.RcOp op A s (.ref l) (.ref b) (Ob.lexAt e r (zf items.size items2.size) 0 (min items.size items2.size)))
    (hi : ∀ (A : Around) (s : Shared) (a : Int) (t : Tok) (b : Int) (u : Tok), Ob.RcOp op A s (.int a t) (.int b u) (r (.int a) (.int b))) (hs : ∀ (A : Around) (s : Shared) (a : Str) (t : Tok) (b : Str) (u : Tok), Ob.RcOp op A s (.str a t) (.str b u) (r (.str a) (.str b)))
    (e1 : ∀ n m, n = m → zf n m = z) (e2 : ∀ n m, n < m → zf n m = z1) (e3 : ∀ n m, m < n → zf n m = !z1) (ho : ∀ a b : Value, richCompare op a b = compareOp op a b) :
    OpD X G (compareOp op) (fun x y m Q => match x, y with
      | .tup xs, .tup ys => alikes xs ys = true ∧ Q (.bl (lexD r z z1 xs ys)) m
      | _, _ => False) := by
  intro pins s σ H x y v u Q I rx ry hh
  obtain ⟨F, R, m, dx, dy, Q0, st, px, py, h, k⟩ := hh
  cases px <;> cases py <;> first | exact False.elim h | skip
  rename_i a vs xs ha ra b ws ys hb rb
  obtain ⟨hal, hq⟩ := h
  cases rx
  cases ry
  obtain ⟨its, v1, p1, _⟩ := I.tuple (a := a) (xs := vs) (.inl (.inl (st.fz _ _ ha)))
  obtain ⟨its2, v2, p2, _⟩ := I.tuple (a := b) (xs := ws) (.inl (.inl (st.fz _ _ hb)))
  have n1 : its.toArray.size = xs.length := by rw [List.size_toArray, ← v1.length, ra.length]
  have n2 : its2.toArray.size = ys.length := by rw [List.size_toArray, ← v2.length, rb.length]
  -- the j-th items
  have at1 : ∀ j (h1 : j < its.toArray.size), ∃ w, RelV w its.toArray[j] ∧ Rep G F w (xs.getD j .non) := fun j h1 => by
    have hj : j < xs.length := by omega
    obtain ⟨w, hw, rw'⟩ := ra.get (List.getElem?_eq_getElem hj)
    obtain ⟨u', hu', ru⟩ := v1.get hw
    refine ⟨w, ?_, ?_⟩
    · have e : its.toArray[j] = u' := by
        have := (List.getElem?_eq_some_iff.mp hu').2
        simpa using this
      rw [e]; exact ru
    · have e : xs.getD j .non = xs[j] := by simp [hj]
      rw [e]; exact rw'
  have at2 : ∀ j (h1 : j < its2.toArray.size), ∃ w, RelV w its2.toArray[j] ∧ Rep G F w (ys.getD j .non) := fun j h1 => by
    have hj : j < ys.length := by omega
    obtain ⟨w, hw, rw'⟩ := rb.get (List.getElem?_eq_getElem hj)
    obtain ⟨u', hu', ru⟩ := v2.get hw
    refine ⟨w, ?_, ?_⟩
    · have e : its2.toArray[j] = u' := by
        have := (List.getElem?_eq_some_iff.mp hu').2
        simpa using this
      rw [e]; exact ru
    · have e : ys.getD j .non = ys[j] := by simp [hj]
      rw [e]; exact rw'
  have two : ∀ j (h1 : j < its.toArray.size) (h2 : j < its2.toArray.size), SeqAt.EqAt X.A.in1 s its.toArray[j] its2.toArray[j] (fEq (xs.getD j .non) (ys.getD j .non)) ∧ Ob.RcOp op X.A.in1 s its.toArray[j] its2.toArray[j] (r (xs.getD j .non) (ys.getD j .non)) := fun j h1 h2 => by
    obtain ⟨w1, q1, r1⟩ := at1 j h1
    obtain ⟨w2, q2, r2⟩ := at2 j h2
    have al := alikes_at j hal (by omega) (by omega)
    generalize xs.getD j .non = d1 at r1 al
    generalize ys.getD j .non = d2 at r2 al
    cases r1 <;> cases r2 <;> first | exact absurd al Bool.false_ne_true | skip
    · obtain ⟨t, e⟩ := q1
      obtain ⟨t', e'⟩ := q2
      rw [e, e']
      exact ⟨SeqAt.EqAt.int_int _ _ _ _, hi _ _ _ _ _ _⟩
    · obtain ⟨t, e⟩ := q1
      obtain ⟨t', e'⟩ := q2
      rw [e, e']
      exact ⟨SeqAt.EqAt.str_str _ _ _ _, hs _ _ _ _ _ _⟩
  have RR := T (A := X.A) (s := s) (l := a) (b := b) (e := fun j => fEq (xs.getD j .non) (ys.getD j .non)) (r := fun j => r (xs.getD j .non) (ys.getD j .non)) p1 p2 hu (fun j h1 h2 => (two j h1 h2).1) (fun j h1 h2 _ => (two j h1 h2).2)
  rw [n1, n2, lex_eq r z z1 _ _ xs ys 0 (by simp) (Nat.zero_le _) (e1 _ _) (e2 _ _) (e3 _ _)] at RR
  rw [← ho]
  exact RR X.prog X.w X.xe (EP X pins σ Q) ⟨.bl _, H, I, rfl, k _ m F _ H hq (Le.refl F) st (.bl _)⟩
theorem opr_ord {op : CmpOp} {r : DR2} {rI : R2} {rS : DR2} (hi : OpR X (compareOp op) rI) (ht : OpD X G (compareOp op) rS) (i : ∀ x y H Q, lR G r x y H Q → rI x y H Q ∨ lR G rS x y H Q) : OpD X G (compareOp op) r := OpR.imp (hi.or ht) i
theorem od_lt (hu : X.A.units < cLine) : OpD X G (compareOp .Lt) ltD := by
  refine OpR.imp ((op_lt.or op_lt_str).or (tup_ord (X := X) (G := G) (zf := fun n m => decide (n < m)) (r := fLt) (z := false) (z1 := true) hu (fun a b c d e => Ob.RcOp.tuples_lt a b c d e) (fun _ _ a t b u => Ob.RcOp.lt_int a b t u) (fun _ _ a t b u _ _ _ _ q => PyProof.Rows.lt_str q) (fun n m e => by simp [e]) (fun n m e => by simp [e]) (fun n m e => by simp; omega) (fun _ _ => rfl))) fun x y H Q hh => ?_
  obtain ⟨F, R, m, dx, dy, Q0, st, rx, ry, h, k⟩ := hh
  cases rx <;> cases ry <;> first | exact False.elim h | skip
  · exact .inl (.inl ⟨_, _, rfl, rfl, k _ m F _ H h (Le.refl F) st (.bl _)⟩)
  · exact .inl (.inr ⟨_, _, rfl, rfl, k _ m F _ H h (Le.refl F) st (.bl _)⟩)
  · rename_i a vs xs ha ra b ws ys hb rb
    exact .inr ⟨F, R, m, _, _, Q0, st, .tup ha ra, .tup hb rb, h, k⟩
theorem od_le (hu : X.A.units < cLine) : OpD X G (compareOp .LtE) leD := by
  refine OpR.imp (op_le.or (tup_ord (X := X) (G := G) (zf := fun n m => decide (n ≤ m)) (r := fLe) (z := true) (z1 := true) hu (fun a b c d e => Ob.RcOp.tuples_le a b c d e) (fun _ _ a t b u => Ob.RcOp.le_int a b t u) (fun _ _ a t b u _ _ _ _ q => PySem.P.le_str q) (fun n m e => by simp [e]) (fun n m e => by simp; omega) (fun n m e => by simp; omega) (fun _ _ => rfl))) fun x y H Q hh => ?_
  obtain ⟨F, R, m, dx, dy, Q0, st, rx, ry, h, k⟩ := hh
  cases rx <;> cases ry <;> first | exact False.elim h | skip
  · exact .inl ⟨_, _, rfl, rfl, k _ m F _ H h (Le.refl F) st (.bl _)⟩
  · rename_i a vs xs ha ra b ws ys hb rb
    exact .inr ⟨F, R, m, _, _, Q0, st, .tup ha ra, .tup hb rb, h, k⟩
theorem od_gt (hu : X.A.units < cLine) : OpD X G (compareOp .Gt) gtD := by
  refine OpR.imp (op_gt.or (tup_ord (X := X) (G := G) (zf := fun n m => decide (n > m)) (r := fun x y => fLt y x) (z := false) (z1 := false) hu (fun a b c d e => Ob.RcOp.tuples_gt a b c d e) (fun _ _ a t b u => Ob.RcOp.gt_int a b t u) (fun _ _ a t b u _ _ _ _ q => PySem.P.gt_str q) (fun n m e => by simp [e]) (fun n m e => by simp; omega) (fun n m e => by simp [e]) (fun _ _ => rfl))) fun x y H Q hh => ?_
  obtain ⟨F, R, m, dx, dy, Q0, st, rx, ry, h, k⟩ := hh
  cases rx <;> cases ry <;> first | exact False.elim h | skip
  · exact .inl ⟨_, _, rfl, rfl, k _ m F _ H h (Le.refl F) st (.bl _)⟩
  · rename_i a vs xs ha ra b ws ys hb rb
    exact .inr ⟨F, R, m, _, _, Q0, st, .tup ha ra, .tup hb rb, h, k⟩
theorem od_ge (hu : X.A.units < cLine) : OpD X G (compareOp .GtE) geD := by
  refine OpR.imp (op_ge.or (tup_ord (X := X) (G := G) (zf := fun n m => decide (n ≥ m)) (r := fun x y => fLe y x) (z := true) (z1 := false) hu (fun a b c d e => Ob.RcOp.tuples_ge a b c d e) (fun _ _ a t b u => Ob.RcOp.ge_int a b t u) (fun _ _ a t b u _ _ _ _ q => PySem.P.ge_str q) (fun n m e => by simp [e]) (fun n m e => by simp; omega) (fun n m e => by simp; omega) (fun _ _ => rfl))) fun x y H Q hh => ?_
  obtain ⟨F, R, m, dx, dy, Q0, st, rx, ry, h, k⟩ := hh
  cases rx <;> cases ry <;> first | exact False.elim h | skip
  · exact .inl ⟨_, _, rfl, rfl, k _ m F _ H h (Le.refl F) st (.bl _)⟩
  · rename_i a vs xs ha ra b ws ys hb rb
    exact .inr ⟨F, R, m, _, _, Q0, st, .tup ha ra, .tup hb rb, h, k⟩
end
end DL

namespace DL
open PySem PySem.Spec PyProof.Rows L2
/-! ### as PyData -/
mutual
def pyD : D → PyData
  | .bl b => .bool b
  | .int i => .int i
  | .str x => .str x
  | .tup xs => .tuple (pysD xs)
  | .lst xs => .list (pysD xs)
  | .scr xs => .list (pysD xs)
  | .non | .ty _ | .ref _ | .dic _ | .ob _ _ | .exc _ _ _ _ | .fn _ _ _ _ _ => .none
def pysD : List D → List PyData
  | [] => []
  | x :: xs => pyD x :: pysD xs
end
mutual
/-- plain data: None, truths, ints, texts, lists, tuples -/
def pln : D → Bool
  | .non | .bl _ | .int _ | .str _ => true
  | .tup xs | .lst xs | .scr xs => plns xs
  | .ty _ | .ref _ | .dic _ | .ob _ _ | .exc _ _ _ _ | .fn _ _ _ _ _ => false
def plns : List D → Bool
  | [] => true
  | x :: xs => pln x && plns xs
end
section
variable {X : Cx} {G : CT} {W : WX}
mutual
theorem dp_of {K : PySem.W.Frag} {F H : Hp} (fz : ∀ a o, F a = some o → H a = some o) : ∀ {v : V} {d : D}, Rep G F v d → pln d = true → Dp K H v (pyD d)
  | _, _, .non, _ => .non
  | _, _, .bl b, _ => .bl b
  | _, _, .int i, _ => .int i
  | _, _, .str x, _ => .str x
  | _, _, .tup h r, p => .tup (.inl (.inl (fz _ _ h))) (dps_of fz r (by unfold pln at p; exact p))
  | _, _, .lst h r, p => .lst (.inl (.inl (fz _ _ h))) (dps_of fz r (by unfold pln at p; exact p))
  | _, _, .lsz h r, p => .lst (.inl (.inr ⟨_, fz _ _ h⟩)) (dps_of fz r (by unfold pln at p; exact p))
  | _, _, .ty n, p => by unfold pln at p; cases p
  | _, _, .ref a, p => by unfold pln at p; cases p
  | _, _, .dic h e r, p => by unfold pln at p; cases p
  | _, _, .ob h e r, p => by unfold pln at p; cases p
  | _, _, .exc h e r, p => by unfold pln at p; cases p
  | _, _, .fn h r, p => by unfold pln at p; cases p
theorem dps_of {K : PySem.W.Frag} {F H : Hp} (fz : ∀ a o, F a = some o → H a = some o) : ∀ {vs : List V} {ds : List D}, Reps G F vs ds → plns ds = true → DpAll K H vs (pysD ds)
  | _, _, .nil, _ => .nil
  | _, _, .cons h r, p => by
    unfold plns at p
    exact .cons (dp_of fz h (Bool.and_eq_true_iff.mp p).1) (dps_of fz r (Bool.and_eq_true_iff.mp p).2)
end
def scl : D → Bool
  | .non | .bl _ | .int _ | .str _ => true
  | _ => false
/-- == of scalars; a truth beside an int: not told -/
def sEq : D → D → Bool
  | .non, .non => true
  | .bl a, .bl b => a == b
  | .int a, .int b => a == b
  | .str a, .str b => a == b
  | _, _ => false
def mixd : D → D → Bool
  | .bl _, .int _ | .int _, .bl _ => true
  | _, _ => false
def eqOk (x y : D) : Bool := if scl x && scl y then !mixd x y else pln x && pln y && SeqAt.shaped (pyD x) && SeqAt.shaped (pyD y)
def eqB (x y : D) : Bool := if scl x && scl y then sEq x y else PyData.eqv (pyD x) (pyD y)
def eqD : DR2 := fun x y m Q => eqOk x y = true ∧ Q (.bl (eqB x y)) m
def neD : DR2 := fun x y m Q => eqOk x y = true ∧ Q (.bl (!eqB x y)) m
theorem sEq_of {F : Hp} {v w : V} {x y : D} (rx : Rep G F v x) (ry : Rep G F w y) (h : (scl x && scl y) = true) (hm : mixd x y = false) : scal v w = true ∧ decide (v = w) = sEq x y := by
  cases rx <;> cases ry <;> first | exact absurd h Bool.false_ne_true | exact absurd (show true = false from hm) (by decide) | skip
  all_goals first
    | exact ⟨rfl, rfl⟩
    | exact ⟨rfl, dec_int⟩
    | exact ⟨rfl, dec_bl⟩
    | exact ⟨rfl, dec_str⟩
    | exact ⟨rfl, decide_eq_false (by intro q; cases q)⟩
theorem od_eq (hu : X.A.units + 64 < cLine) : OpD X G (compareOp .Eq) eqD := OpR.imp (op_eq.or (op_eqD hu)) fun x y H Q hh => by
  obtain ⟨F, R, m, dx, dy, Q0, st, rx, ry, ⟨h, q⟩, k⟩ := hh
  unfold eqOk at h
  unfold eqB at q
  by_cases c : (scl dx && scl dy) = true
  · rw [if_pos c] at h q
    obtain ⟨e1, e2⟩ := sEq_of rx ry c (by simpa using h)
    refine .inl ⟨e1, ?_⟩
    rw [e2]
    exact k _ m F _ H q (Le.refl F) st (.bl _)
  · rw [if_neg c] at h q
    obtain ⟨h123, h4⟩ := Bool.and_eq_true_iff.mp h
    obtain ⟨h12, h3⟩ := Bool.and_eq_true_iff.mp h123
    obtain ⟨h1, h2⟩ := Bool.and_eq_true_iff.mp h12
    exact .inr ⟨pyD dx, pyD dy, dp_of st.fz rx h1, dp_of st.fz ry h2, h3, h4, k _ m F _ H q (Le.refl F) st (.bl _)⟩
theorem od_ne (hu : X.A.units + 64 < cLine) : OpD X G (compareOp .NotEq) neD := OpR.imp (op_ne.or (op_neD hu)) fun x y H Q hh => by
  obtain ⟨F, R, m, dx, dy, Q0, st, rx, ry, ⟨h, q⟩, k⟩ := hh
  unfold eqOk at h
  unfold eqB at q
  by_cases c : (scl dx && scl dy) = true
  · rw [if_pos c] at h q
    obtain ⟨e1, e2⟩ := sEq_of rx ry c (by simpa using h)
    refine .inl ⟨e1, ?_⟩
    rw [e2]
    exact k _ m F _ H q (Le.refl F) st (.bl _)
  · rw [if_neg c] at h q
    obtain ⟨h123, h4⟩ := Bool.and_eq_true_iff.mp h
    obtain ⟨h12, h3⟩ := Bool.and_eq_true_iff.mp h123
    obtain ⟨h1, h2⟩ := Bool.and_eq_true_iff.mp h12
    exact .inr ⟨pyD dx, pyD dy, dp_of st.fz rx h1, dp_of st.fz ry h2, h3, h4, k _ m F _ H q (Le.refl F) st (.bl _)⟩
/-- is None -/
def isNon : D → Bool
  | .non => true
  | _ => false
def isND : DR2 := fun x y m Q => match y with
  | .non => Q (.bl (isNon x)) m
  | _ => False
def ntND : DR2 := fun x y m Q => match y with
  | .non => Q (.bl (!isNon x)) m
  | _ => False
theorem isNon_of {F : Hp} {v : V} {x : D} (r : Rep G F v x) : decide (v = .non) = isNon x := by
  cases r <;> first | rfl | exact decide_eq_false (by intro q; cases q)
theorem od_is : OpD X G (compareOp .Is) isND := OpR.imp op_isN fun x y H Q hh => by
  obtain ⟨F, R, m, dx, dy, Q0, st, rx, ry, h, k⟩ := hh
  cases ry <;> first | exact False.elim h | skip
  exact ⟨rfl, by rw [isNon_of rx]; exact k _ m F _ H h (Le.refl F) st (.bl _)⟩
theorem od_isnot : OpD X G (compareOp .IsNot) ntND := OpR.imp op_notN fun x y H Q hh => by
  obtain ⟨F, R, m, dx, dy, Q0, st, rx, ry, h, k⟩ := hh
  cases ry <;> first | exact False.elim h | skip
  exact ⟨rfl, by rw [isNon_of rx]; exact k _ m F _ H h (Le.refl F) st (.bl _)⟩
/-- x in xs: flat things; a text in a text -/
def flt : D → Bool
  | .non | .bl _ | .int _ | .str _ => true
  | _ => false
def fltEq : D → D → Bool
  | .non, .non => true
  | .bl a, .bl b => a == b
  | .bl t, .int n => (if t then 1 else 0) == n
  | .int n, .bl t => n == (if t then 1 else 0)
  | .int a, .int b => a == b
  | .str a, .str b => a == b
  | _, _ => false
theorem flt_of {F : Hp} {v : V} {x : D} (r : Rep G F v x) (h : flt x = true) : flatV v = true := by
  cases r <;> first | rfl | exact absurd h Bool.false_ne_true
theorem fltEq_of {F : Hp} {v w : V} {x y : D} (rx : Rep G F v x) (ry : Rep G F w y) (h : flt x = true) (h' : flt y = true) : eqV v w = fltEq x y := by
  cases rx <;> cases ry <;> first | rfl | exact absurd h Bool.false_ne_true | exact absurd h' Bool.false_ne_true
def inXs (x : D) (xs : List D) : Bool := xs.any fun y => fltEq y x
theorem flts_of {F : Hp} : ∀ {vs : List V} {xs : List D}, Reps G F vs xs → xs.all flt = true → vs.all flatV = true
  | _, _, .nil, _ => rfl
  | _, _, .cons h r, p => by
    rw [List.all_cons, Bool.and_eq_true] at p
    rw [List.all_cons, Bool.and_eq_true]
    exact ⟨flt_of h p.1, flts_of r p.2⟩
theorem inXs_of {F : Hp} {v : V} {x : D} (rx : Rep G F v x) (h : flt x = true) : ∀ {vs : List V} {xs : List D}, Reps G F vs xs → xs.all flt = true → inV v vs = inXs x xs
  | _, _, .nil, _ => rfl
  | _, _, .cons hh r, p => by
    rw [List.all_cons, Bool.and_eq_true] at p
    have ih := inXs_of rx h r p.2
    unfold inV inXs at ih ⊢
    rw [List.any_cons, List.any_cons, ih, fltEq_of hh rx p.1 h]
/-- a text within a text -/
def subS (x y : Str) : Bool := !(Builtin.Str.occurrences y x 0 y.length 1).isEmpty
def inD : DR2 := fun x y m Q => match y with
  | .lst xs => (flt x = true ∧ xs.all flt = true) ∧ Q (.bl (inXs x xs)) m
  | .tup xs => (flt x = true ∧ xs.all flt = true) ∧ Q (.bl (inXs x xs)) m
  | .str b => match x with
    | .str a => Q (.bl (subS a b)) m
    | _ => False
  | _ => False
def ninD : DR2 := fun x y m Q => inD x y m fun d m => isB d m fun b m => Q (.bl (!b)) m
theorem od_in : OpD X G (compareOp .In) inD := OpR.imp (op_in_seq.or op_in_str) fun x y H Q hh => by
  obtain ⟨F, R, m, dx, dy, Q0, st, rx, ry, h, k⟩ := hh
  cases ry <;> first | exact False.elim h | skip
  · cases rx <;> first | exact False.elim h | skip
    exact .inr ⟨_, _, rfl, rfl, k _ m F _ H h (Le.refl F) st (.bl _)⟩
  · rename_i a vs xs ha ra
    obtain ⟨⟨h1, h2⟩, q⟩ := h
    refine .inl ⟨a, vs, rfl, .inr (.inl (.inl (st.fz _ _ ha))), flt_of rx h1, flts_of ra h2, ?_⟩
    show Q (.bl (inV x vs)) H
    rw [inXs_of rx h1 ra h2]
    exact k _ m F _ H q (Le.refl F) st (.bl _)
  · rename_i a vs xs ha ra
    obtain ⟨⟨h1, h2⟩, q⟩ := h
    refine .inl ⟨a, vs, rfl, .inl (.inl (.inl (st.fz _ _ ha))), flt_of rx h1, flts_of ra h2, ?_⟩
    show Q (.bl (inV x vs)) H
    rw [inXs_of rx h1 ra h2]
    exact k _ m F _ H q (Le.refl F) st (.bl _)
theorem od_notin : OpD X G (compareOp .NotIn) ninD := OpR.imp (op_notIn_seq.or op_notin_str) fun x y H Q hh => by
  obtain ⟨F, R, m, dx, dy, Q0, st, rx, ry, h, k⟩ := hh
  unfold ninD at h
  cases ry <;> first | exact False.elim h | skip
  · cases rx <;> first | exact False.elim h | skip
    obtain ⟨b, e, q⟩ := h
    cases e
    exact .inr ⟨_, _, rfl, rfl, k _ m F _ H q (Le.refl F) st (.bl _)⟩
  · rename_i a vs xs ha ra
    obtain ⟨⟨h1, h2⟩, b, e, q⟩ := h
    cases e
    refine .inl ⟨a, vs, rfl, .inr (.inl (.inl (st.fz _ _ ha))), flt_of rx h1, flts_of ra h2, ?_⟩
    show Q (.bl (!inV x vs)) H
    rw [inXs_of rx h1 ra h2]
    exact k _ m F _ H q (Le.refl F) st (.bl _)
  · rename_i a vs xs ha ra
    obtain ⟨⟨h1, h2⟩, b, e, q⟩ := h
    cases e
    refine .inl ⟨a, vs, rfl, .inl (.inl (.inl (st.fz _ _ ha))), flt_of rx h1, flts_of ra h2, ?_⟩
    show Q (.bl (!inV x vs)) H
    rw [inXs_of rx h1 ra h2]
    exact k _ m F _ H q (Le.refl F) st (.bl _)
/-! ### items, slices -/
def itD : DR2 := fun x y m Q => match x, y with
  | .lst xs, .int i => ∃ d, atI xs i = some d ∧ Q d m
  | .tup xs, .int i => ∃ d, atI xs i = some d ∧ Q d m
  | .scr xs, .int i => ∃ d, atI xs i = some d ∧ Q d m
  | .str z, .int i => z.length ≤ sizeLine ∧ ∃ c, atI z.cps.toList i = some c ∧ Q (.str ⟨#[c]⟩) m
  | .ref a, .int i => ∃ xs d, m a = some (.lst xs) ∧ atI xs i = some d ∧ Q d m
  | _, _ => False
theorem atI_of {F : Hp} {vs : List V} {xs : List D} {i : Int} {d : D} (r : Reps G F vs xs) (h : atI xs i = some d) : ∃ v, atI vs i = some v ∧ Rep G F v d := by
  unfold atI at h ⊢
  rw [r.length]
  cases q : ixN xs.length i with
  | none => rw [q] at h; cases h
  | some j => rw [q] at h; exact r.get h
theorem od_it : IxR X (lR G itD) := by
  intro value slice pins s σ H x y v u Q I rx ry hh hs
  refine ix_seq value slice pins s σ H x y v u Q I rx ry ?_ hs
  obtain ⟨F, R, m, dx, dy, Q0, st, px, py, h, k⟩ := hh
  cases px <;> cases py <;> first | exact False.elim h | skip
  · obtain ⟨hz, c, hc, q⟩ := h
    exact .inr (.inr ⟨_, _, c, rfl, rfl, hz, hc, k _ m F _ H q (Le.refl F) st (.str _)⟩)
  · rename_i a i
    obtain ⟨xs, d, hm, hd, q⟩ := h
    obtain ⟨_, vs, hv, rv⟩ := st.mt _ _ hm
    obtain ⟨w, hw, rw'⟩ := atI_of rv hd
    exact .inl ⟨a, vs, i, w, rfl, rfl, .inl (.inl hv), hw, k _ m F _ H q (Le.refl F) st rw'⟩
  · rename_i a vs xs ha ra i
    obtain ⟨d, hd, q⟩ := h
    obtain ⟨w, hw, rw'⟩ := atI_of ra hd
    exact .inr (.inl ⟨a, vs, i, w, rfl, rfl, .inl (.inl (st.fz _ _ ha)), hw, k _ m F _ H q (Le.refl F) st rw'⟩)
  · rename_i a vs xs ha ra i
    obtain ⟨d, hd, q⟩ := h
    obtain ⟨w, hw, rw'⟩ := atI_of ra hd
    exact .inl ⟨a, vs, i, w, rfl, rfl, .inl (.inl (st.fz _ _ ha)), hw, k _ m F _ H q (Le.refl F) st rw'⟩
  · rename_i a o vs xs ha ra i
    obtain ⟨d, hd, q⟩ := h
    obtain ⟨w, hw, rw'⟩ := atI_of ra hd
    exact .inl ⟨a, vs, i, w, rfl, rfl, .inl (.inr ⟨o, st.fz _ _ ha⟩), hw, k _ m F _ H q (Le.refl F) st rw'⟩
theorem de_ix {a b : Expr} {ta tb : DTE} {pos : Pos} (ha : DE X G W a ta) (hb : DE X G W b tb) (hs : PlainIx b) : DE X G W (.Subscript a b pos) (bD itD ta tb) := (pe_ix od_it ha hb hs).imp fun _ _ _ h => bin_imp h
/-- a part of a slice -/
abbrev DTO := EK → DSt → M → (Option Int → M → Prop) → Prop
def oNone : DTO := fun _ _ m Q => Q none m
def oSome (t : DTE) : DTO := fun x ds m Q => t x ds m fun d m1 => match d with
  | .int i => Q (some i) m1
  | _ => False
def lO (G : CT) (W : WX) (t : DTO) : TO := fun σ H Q => ∃ F R m ds Q0 x, Hst G F R H m ∧ SL G F σ ds ∧ t x ds m Q0 ∧ XOK G W F R x ∧ ∀ o m' F' H', Q0 o m' → Le F F' → Hst G F' R H' m' → Q o H'
abbrev DO (X : Cx) (G : CT) (W : WX) (e : Option Expr) (t : DTO) : Prop := PO X e (lO G W t)
theorem _root_.L2.PO.imp {e : Option Expr} {t t' : TO} (h : PO X e t) (i : ∀ σ H Q, t' σ H Q → t σ H Q) : PO X e t' := by
  obtain ⟨r⟩ := h
  exact ⟨fun pins s σ H Q I w => r pins s σ H Q I (i _ _ _ w)⟩
theorem do_none : DO X G W none oNone := L2.PO.imp po_none fun σ H Q ⟨F, R, m, ds, Q0, x, st, sl, h, xk, k⟩ => k none m F H h (Le.refl F) st
theorem do_some {e : Expr} {te : DTE} (h : DE X G W e te) : DO X G W (some e) (oSome te) := L2.PO.imp (po_some h) fun σ H Q ⟨F, R, m, ds, Q0, x, st, sl, h, xk, k⟩ => by
  refine ⟨F, R, m, ds, _, x, st, sl, h, xk, fun d m1 F1 v H1 q l1 s1 r1 => ?_⟩
  cases r1 <;> first | exact False.elim q | skip
  exact ⟨_, rfl, k _ m1 F1 H1 q l1 s1⟩
def cutD (xs : List D) (lo hi : Option Int) : List D := (xs.drop (HT.sIx xs.length 0 lo)).take (HT.sIx xs.length xs.length hi - HT.sIx xs.length 0 lo)
def slD : D → Option Int → Option Int → M → DK → Prop := fun x lo hi m Q => match x with
  | .lst xs => Q (.lst (cutD xs lo hi)) m
  | .scr xs => Q (.lst (cutD xs lo hi)) m
  | .ref a => ∃ xs, m a = some (.lst xs) ∧ Q (.lst (cutD xs lo hi)) m
  | _ => False
theorem cut_of {F : Hp} {vs : List V} {xs : List D} (r : Reps G F vs xs) (lo hi : Option Int) : Reps G F (cutV vs lo hi) (cutD xs lo hi) := by
  unfold cutV cutD
  rw [r.length]
  exact (r.drop _).take _
def eSl (te : DTE) (tl th : DTO) : DTE := fun x ds m Q => te x ds m fun d m1 => tl x ds m1 fun lo m2 => th x ds m2 fun hi m3 => slD d lo hi m3 Q
theorem de_slice {e : Expr} {lo hi : Option Expr} {te : DTE} {tl th : DTO} {pos p2 : Pos} (he : DE X G W e te) (hl : DO X G W lo tl) (hh : DO X G W hi th) : DE X G W (.Subscript e (.Slice lo hi none p2) pos) (eSl te tl th) :=
  (pe_slice sl_list he hl hh).imp fun σ H Q ⟨F, R, m, ds, Q0, x, st, sl, h, xk, k⟩ => by
    refine ⟨F, R, m, ds, _, x, st, sl, h, xk, fun d m1 F1 v H1 h1 l1 s1 r1 => ?_⟩
    refine ⟨F1, R, m1, ds, _, x, s1, sl.le l1, h1, xk.le l1, fun lo' m2 F2 H2 h2 l2 s2 => ?_⟩
    refine ⟨F2, R, m2, ds, _, x, s2, sl.le (l1.trans l2), h2, xk.le (l1.trans l2), fun hi' m3 F3 H3 h3 l3 s3 => ?_⟩
    have r3 := (r1.le l2).le l3
    cases r3 <;> first | exact False.elim h3 | skip
    · rename_i a
      obtain ⟨xs, hm, q⟩ := h3
      obtain ⟨_, vs, hv, rv⟩ := s3.mt _ _ hm
      refine ⟨a, vs, rfl, .inl (.inl hv), fun p hp => ?_⟩
      have l := le_upd (o := .lst (cutV vs lo' hi')) (s3.fnone hp)
      exact k _ m3 _ _ _ q (((l1.trans l2).trans l3).trans l) (s3.new hp) (.lst upd_same ((cut_of rv _ _).le l))
    · rename_i a vs xs ha ra
      refine ⟨a, vs, rfl, .inl (.inl (s3.fz _ _ ha)), fun p hp => ?_⟩
      have l := le_upd (o := .lst (cutV vs lo' hi')) (s3.fnone hp)
      exact k _ m3 _ _ _ h3 (((l1.trans l2).trans l3).trans l) (s3.new hp) (.lst upd_same ((cut_of ra _ _).le l))
    · rename_i a o vs xs ha ra
      refine ⟨a, vs, rfl, .inl (.inr ⟨o, s3.fz _ _ ha⟩), fun p hp => ?_⟩
      have l := le_upd (o := .lst (cutV vs lo' hi')) (s3.fnone hp)
      exact k _ m3 _ _ _ h3 (((l1.trans l2).trans l3).trans l) (s3.new hp) (.lst upd_same ((cut_of ra _ _).le l))

/-! ### built-ins -/
def lenD : DR := fun xs m Q => match xs with
  | [.lst ys] => Q (.int ys.length) m
  | [.tup ys] => Q (.int ys.length) m
  | [.scr ys] => Q (.int ys.length) m
  | [.dic ys] => Q (.int ys.length) m
  | [.str z] => z.length ≤ sizeLine ∧ Q (.int z.length) m
  | [.ref a] => (∃ ys, m a = some (.lst ys) ∧ Q (.int ys.length) m) ∨ ∃ ys, m a = some (.dic ys) ∧ Q (.int ys.length) m
  | _ => False
theorem cd_len : CallD X G (.builtin "len") lenD := CallR.imp (call_len_seq.or (call_len_str.or call_lenD)) fun vs H Q hh => by
  obtain ⟨F, R, m, xs, Q0, st, r, h, k⟩ := hh
  cases r with
  | nil => exact False.elim h
  | cons r rr =>
    cases rr with
    | cons _ _ => cases r <;> exact False.elim h
    | nil =>
      cases r <;> first | exact False.elim h | skip
      · exact .inr (.inl ⟨_, rfl, h.1, k _ m F _ H h.2 (Le.refl F) st (.int _)⟩)
      · rename_i a
        rcases h with ⟨ys, hm, q⟩ | ⟨ys, hm, q⟩
        · obtain ⟨_, vs, hv, rv⟩ := st.mt _ _ hm
          refine .inl ⟨a, vs, rfl, .inl (.inl (.inl hv)), ?_⟩
          rw [rv.length]
          exact k _ m F _ H q (Le.refl F) st (.int _)
        · obtain ⟨_, vs, hv, e, rv⟩ := st.mt _ _ hm
          refine .inr (.inr ⟨a, vs, rfl, hv, ?_⟩)
          have el : vs.length = ys.length := by simpa using congrArg List.length e
          rw [el]
          exact k _ m F _ H q (Le.refl F) st (.int _)
      · rename_i a vs xs ha ra
        refine .inl ⟨a, vs, rfl, .inr (.inl (.inl (st.fz _ _ ha))), ?_⟩
        rw [ra.length]
        exact k _ m F _ H h (Le.refl F) st (.int _)
      · rename_i a vs xs ha ra
        refine .inl ⟨a, vs, rfl, .inl (.inl (.inl (st.fz _ _ ha))), ?_⟩
        rw [ra.length]
        exact k _ m F _ H h (Le.refl F) st (.int _)
      · rename_i a o vs xs ha ra
        refine .inl ⟨a, vs, rfl, .inl (.inl (.inr ⟨o, st.fz _ _ ha⟩)), ?_⟩
        rw [ra.length]
        exact k _ m F _ H h (Le.refl F) st (.int _)
      · rename_i a kvs xs ha e ra
        refine .inr (.inr ⟨a, kvs, rfl, st.fz _ _ ha, ?_⟩)
        have el : kvs.length = xs.length := by simpa using congrArg List.length e
        rw [el]
        exact k _ m F _ H h (Le.refl F) st (.int _)
def absD : DR := fun xs m Q => match xs with
  | [.int i] => Q (.int (if i < 0 then -i else i)) m
  | _ => False
theorem cd_abs : CallD X G (.builtin "abs") absD := CallR.imp call_abs fun vs H Q hh => by
  obtain ⟨F, R, m, xs, Q0, st, r, h, k⟩ := hh
  match xs, vs, r, h with
  | [.int i], [v], .cons r .nil, h => cases r; exact ⟨i, rfl, k _ m F _ H h (Le.refl F) st (.int _)⟩
theorem reps_ints {F : Hp} : ∀ {vs : List V} {ns : List Int}, Reps G F vs (ns.map D.int) → vs = ns.map V.int
  | _, [], .nil => rfl
  | _, n :: ns, .cons h r => by
    cases h
    rw [reps_ints r]
    rfl
def maxD : DR := fun xs m Q => match xs with
  | [.int i, .int j] => Q (.int (if j > i then j else i)) m
  | [.lst ys] => ∃ ns : List Int, ys = ns.map D.int ∧ 0 < ns.length ∧ ∀ k, k ∈ ns → (∀ y, y ∈ ns → y ≤ k) → Q (.int k) m
  | _ => False
def minD : DR := fun xs m Q => match xs with
  | [.int i, .int j] => Q (.int (if j < i then j else i)) m
  | [.lst ys] => ∃ ns : List Int, ys = ns.map D.int ∧ 0 < ns.length ∧ ∀ k, k ∈ ns → (∀ y, y ∈ ns → k ≤ y) → Q (.int k) m
  | _ => False
theorem cd_max (hc : X.calm = true) : CallD X G (.builtin "max") maxD := CallR.imp ((call_max2 hc).or (cr_max hc)) fun vs H Q hh => by
  obtain ⟨F, R, m, xs, Q0, st, r, h, k⟩ := hh
  match xs, vs, r, h with
  | [.int i, .int j], [v, w], .cons r (.cons r' .nil), h => cases r; cases r'; exact .inl ⟨i, j, rfl, k _ m F _ H h (Le.refl F) st (.int _)⟩
  | [.lst ys], [v], .cons r .nil, h =>
    cases r with
    | @lst a ws _ ha ra =>
      obtain ⟨ns, e, hn, q⟩ := h
      subst e
      have e2 := reps_ints ra
      subst e2
      exact .inr ⟨a, ns, rfl, .inl (.inl (st.fz _ _ ha)), hn, fun kk h1 h2 => k _ m F _ H (q kk h1 h2) (Le.refl F) st (.int _)⟩
theorem cd_min (hc : X.calm = true) : CallD X G (.builtin "min") minD := CallR.imp ((call_min2 hc).or (cr_min hc)) fun vs H Q hh => by
  obtain ⟨F, R, m, xs, Q0, st, r, h, k⟩ := hh
  match xs, vs, r, h with
  | [.int i, .int j], [v, w], .cons r (.cons r' .nil), h => cases r; cases r'; exact .inl ⟨i, j, rfl, k _ m F _ H h (Le.refl F) st (.int _)⟩
  | [.lst ys], [v], .cons r .nil, h =>
    cases r with
    | @lst a ws _ ha ra =>
      obtain ⟨ns, e, hn, q⟩ := h
      subst e
      have e2 := reps_ints ra
      subst e2
      exact .inr ⟨a, ns, rfl, .inl (.inl (st.fz _ _ ha)), hn, fun kk h1 h2 => k _ m F _ H (q kk h1 h2) (Le.refl F) st (.int _)⟩
def intD : DR := fun xs m Q => match xs with
  | [.int i] => Q (.int i) m
  | [.bl b] => Q (.int (if b then 1 else 0)) m
  | _ => False
theorem cd_int : CallD X G (.type "int") intD := CallR.imp call_int1 fun vs H Q hh => by
  obtain ⟨F, R, m, xs, Q0, st, r, h, k⟩ := hh
  match xs, vs, r, h with
  | [.int i], [v], .cons r .nil, h => cases r; exact .inl ⟨i, rfl, k _ m F _ H h (Le.refl F) st (.int _)⟩
  | [.bl i], [v], .cons r .nil, h => cases r; exact .inr ⟨i, rfl, k _ m F _ H h (Le.refl F) st (.int _)⟩
/-- few digits -/
def Few (i : Int) : Prop := i.natAbs < 2 ^ 1900
theorem few_log {i : Int} (h : Few i) : i.natAbs.log2 < 1920 := by
  have := PySem.Flt.log2_lt_of (n := i.natAbs) (k := 1900) (by decide) h
  omega
def istr (i : Int) : Str := toString i
def strD : DR := fun xs m Q => match xs with
  | [.int i] => Few i ∧ Q (.str (istr i)) m
  | _ => False
theorem cd_str : CallD X G (.type "str") strD := CallR.imp call_str_int fun vs H Q hh => by
  obtain ⟨F, R, m, xs, Q0, st, r, h, k⟩ := hh
  match xs, vs, r, h with
  | [.int i], [v], .cons r .nil, h => cases r; exact ⟨i, rfl, few_log h.1, k _ m F _ H h.2 (Le.refl F) st (.str _)⟩
def sortD : DR := fun xs m Q => match xs with
  | [.lst ys] => ∃ ns : List Int, ys = ns.map D.int ∧ ∀ ns' : List Int, ns'.Perm ns → ns'.Pairwise (· ≤ ·) → Q (.lst (ns'.map D.int)) m
  | _ => False
theorem cd_sorted : CallD X G (.builtin "sorted") sortD := CallR.imp cr_sortedI fun vs H Q hh => by
  obtain ⟨F, R, m, xs, Q0, st, r, h, k⟩ := hh
  match xs, vs, r, h with
  | [.lst ys], [v], .cons r .nil, h =>
    cases r with
    | @lst a ws _ ha ra =>
      obtain ⟨ns, e, q⟩ := h
      subst e
      have e2 := reps_ints ra
      subst e2
      exact ⟨a, ns, rfl, .inl (.inl (st.fz _ _ ha)), fun ns' p h1 h2 hp => k _ m _ _ _ (q ns' h1 h2) (le_upd (st.fnone hp)) (st.new hp) (.lst upd_same (Reps.ints ns'))⟩
def tupD : DR := fun xs m Q => match xs with
  | [.lst ys] => Q (.tup ys) m
  | [.tup ys] => Q (.tup ys) m
  | _ => False
theorem cd_tuple : CallD X G (.type "tuple") tupD := CallR.imp call_tuple_of fun vs H Q hh => by
  obtain ⟨F, R, m, xs, Q0, st, r, h, k⟩ := hh
  match xs, vs, r, h with
  | [.lst ys], [v], .cons r .nil, h =>
    cases r with
    | @lst a ws _ ha ra =>
      exact ⟨a, ws, rfl, .inl ⟨.inl (.inl (st.fz _ _ ha)), fun p hp => k _ m _ _ _ h (le_upd (st.fnone hp)) (st.new hp) (.tup upd_same (ra.le (le_upd (st.fnone hp))))⟩⟩
  | [.tup ys], [v], .cons r .nil, h =>
    cases r with
    | @tup a ws _ ha ra =>
      exact ⟨a, ws, rfl, .inr ⟨.inl (.inl (st.fz _ _ ha)), k _ m F _ H h (Le.refl F) st (.tup ha ra)⟩⟩
def listD : DR := fun xs m Q => match xs with
  | [.lst ys] => Q (.lst ys) m
  | [.tup ys] => Q (.lst ys) m
  | [.scr ys] => Q (.lst ys) m
  | _ => False
theorem cd_list : CallD X G (.type "list") listD := CallR.imp call_list_of fun vs H Q hh => by
  obtain ⟨F, R, m, xs, Q0, st, r, h, k⟩ := hh
  match xs, vs, r, h with
  | [.lst ys], [v], .cons r .nil, h =>
    cases r with
    | @lst a ws _ ha ra => exact ⟨a, ws, rfl, .inl (.inl (.inl (st.fz _ _ ha))), fun p hp => k _ m _ _ _ h (le_upd (st.fnone hp)) (st.new hp) (.lst upd_same (ra.le (le_upd (st.fnone hp))))⟩
  | [.tup ys], [v], .cons r .nil, h =>
    cases r with
    | @tup a ws _ ha ra => exact ⟨a, ws, rfl, .inr (.inl (.inl (st.fz _ _ ha))), fun p hp => k _ m _ _ _ h (le_upd (st.fnone hp)) (st.new hp) (.lst upd_same (ra.le (le_upd (st.fnone hp))))⟩
  | [.scr ys], [v], .cons r .nil, h =>
    cases r with
    | @lsz a o ws _ ha ra => exact ⟨a, ws, rfl, .inl (.inl (.inr ⟨o, st.fz _ _ ha⟩)), fun p hp => k _ m _ _ _ h (le_upd (st.fnone hp)) (st.new hp) (.lst upd_same (ra.le (le_upd (st.fnone hp))))⟩
def divmodD : DR := fun xs m Q => match xs with
  | [.int i, .int j] => (0 < j ∧ j.natAbs < 2 ^ 8000) ∧ Q (.tup [.int (i / j), .int (i % j)]) m
  | _ => False
theorem cd_divmod : CallD X G (.builtin "divmod") divmodD := CallR.imp call_divmodW fun vs H Q hh => by
  obtain ⟨F, R, m, xs, Q0, st, r, h, k⟩ := hh
  match xs, vs, r, h with
  | [.int i, .int j], [v, w], .cons r (.cons r' .nil), h =>
    cases r
    cases r'
    have hl := PySem.Flt.log2_lt_of (n := j.natAbs) (k := 8000) (by decide) h.1.2
    exact ⟨i, j, rfl, ⟨h.1.1, PyProof.noPylong_of_log2 (by omega)⟩, fun p hp => k _ m _ _ _ h.2 (le_upd (st.fnone hp)) (st.new hp) (.tup upd_same (.cons (.int _) (.cons (.int _) .nil)))⟩
theorem reps_bls {F : Hp} : ∀ {vs : List V} {ns : List Bool}, Reps G F vs (ns.map D.bl) → vs = ns.map V.bl
  | _, [], .nil => rfl
  | _, n :: ns, .cons h r => by
    cases h
    rw [reps_bls r]
    rfl
def allD : DR := fun xs m Q => match xs with
  | [.lst ys] => ∃ bs : List Bool, ys = bs.map D.bl ∧ Q (.bl (bs.all id)) m
  | _ => False
def anyD : DR := fun xs m Q => match xs with
  | [.lst ys] => ∃ bs : List Bool, ys = bs.map D.bl ∧ Q (.bl (bs.any id)) m
  | _ => False
theorem cd_all (hc : X.calm = true) : CallD X G (.builtin "all") allD := CallR.imp (cr_all hc) fun vs H Q hh => by
  obtain ⟨F, R, m, xs, Q0, st, r, h, k⟩ := hh
  match xs, vs, r, h with
  | [.lst ys], [v], .cons r .nil, h =>
    cases r with
    | @lst a ws _ ha ra =>
      obtain ⟨bs, e, q⟩ := h
      subst e
      have e2 := reps_bls ra
      subst e2
      exact ⟨a, bs, rfl, .inl (.inl (st.fz _ _ ha)), k _ m F _ H q (Le.refl F) st (.bl _)⟩
theorem cd_any (hc : X.calm = true) : CallD X G (.builtin "any") anyD := CallR.imp (cr_any hc) fun vs H Q hh => by
  obtain ⟨F, R, m, xs, Q0, st, r, h, k⟩ := hh
  match xs, vs, r, h with
  | [.lst ys], [v], .cons r .nil, h =>
    cases r with
    | @lst a ws _ ha ra =>
      obtain ⟨bs, e, q⟩ := h
      subst e
      have e2 := reps_bls ra
      subst e2
      exact ⟨a, bs, rfl, .inl (.inl (st.fz _ _ ha)), k _ m F _ H q (Le.refl F) st (.bl _)⟩
end
end DL

namespace DL
open PySem PySem.Spec PyProof.Rows L2
open L2H (RoomH)
/-! ### keywords: picked by place -/
def pick {α : Type} (ix : List Nat) (ws : List α) : List α := ix.filterMap fun i => ws[i]?
theorem pick_vals {vs : List V} {us : List Value} (r : Vals vs us) : ∀ ix : List Nat, Vals (pick ix vs) (pick ix us)
  | [] => .nil
  | i :: ix => by
    unfold pick
    cases q : vs[i]? with
    | none =>
      have q2 := r.none_of q
      rw [List.filterMap_cons_none q, List.filterMap_cons_none q2]
      exact pick_vals r ix
    | some v =>
      obtain ⟨u, h1, h2⟩ := r.get q
      rw [List.filterMap_cons_some q, List.filterMap_cons_some h1]
      exact .cons h2 (pick_vals r ix)
theorem pick_reps {G : CT} {F : Hp} {vs : List V} {xs : List D} (r : Reps G F vs xs) : ∀ ix : List Nat, Reps G F (pick ix vs) (pick ix xs)
  | [] => .nil
  | i :: ix => by
    unfold pick
    cases q : xs[i]? with
    | none =>
      have q2 : vs[i]? = none := by
        rw [List.getElem?_eq_none_iff] at q ⊢
        rw [r.length]; exact q
      rw [List.filterMap_cons_none q, List.filterMap_cons_none q2]
      exact pick_reps r ix
    | some v =>
      obtain ⟨u, h1, h2⟩ := r.get q
      rw [List.filterMap_cons_some q, List.filterMap_cons_some h1]
      exact .cons h2 (pick_reps r ix)
/-- n values by place, then the keywords ks, that go to the places ix -/
structure KwB (K : PySem.W.Frag) (fd : FuncData) (ps : List Str) (n : Nat) (ks : List Str) (ix : List Nat) : Prop where
  to : ∀ (s : Shared) (us ws : List Value), K.In s.heap → us.length = n → ws.length = ks.length → BindsTo s fd ⟨us, ks.zip ws⟩ (ps.zip (us ++ pick ix ws))
theorem Binds.kw {K : PySem.W.Frag} {fd : FuncData} {ps : List Str} (b : Binds K fd ps []) : KwB K fd ps ps.length [] [] :=
  ⟨fun s us ws X h1 h2 => by
    have e : ws = [] := List.eq_nil_of_length_eq_zero h2
    subst e
    have h := b s us X (by rw [List.append_nil]; exact h1)
    rw [List.append_nil] at h
    show BindsTo s fd ⟨us, []⟩ (ps.zip (us ++ []))
    rw [List.append_nil]
    exact h⟩
section
variable {X : Cx} {G : CT} {W : WX} {hot grd : Bool} {k : Nat} {f C : Addr} {fd : FuncData} {ps ks : List Str} {sp : DSp} {x : Str} {p pos apos : Pos} {e o : Expr} {es : List Expr} {kws : List Keyword} {ta tk : DTA} {te : DTE}
/-- a def runs, from any place within the body -/
theorem run_GA {A : Around} {pins : List (Addr × Obj)} {σ : L2.St} {H : Hp} {s : Shared} {Q : VK} {args : Args} {us : List Value} {vs : List V} {sq : Sp} (F : FnG hot grd X.prog X.w X.K X.mg X.base k f fd ps sq) (hr : Rm hot grd k A) (fr : A.frames = X.A.frames) (hb : BindsTo s fd args (ps.zip us)) (tk : Takes X W)
    (I : Inv X pins σ H s) (r : Vals vs us) (h : sq vs H Q (fun cls d H' => W cls d σ H')) : codeAny (model X.prog X.w) A (.call (.ref f) args) (wants (EP X pins σ Q) X.xe) s := by
  have e := I.env0
  refine codeAny_mono (F.go A X.stack s H args us vs Q _ hr ⟨fr.trans e.frames, e.mod, e.bs, e.bsz, e.funs, e.frf, e.hok, e.bare⟩ hb r h) fun q s' hq => ?_
  match q, hq with
  | .error e, hq => exact passAt tk σ pins H s e s' I hq
  | .ok (.ret u), hq => exact I.after hq
  | .ok .next, hq => exact hq.elim
  | .ok .brk, hq => exact hq.elim
  | .ok .cont, hq => exact hq.elim
theorem run_G1 {A : Around} {pins : List (Addr × Obj)} {σ : L2.St} {H : Hp} {s : Shared} {Q : VK} {us : List Value} {vs : List V} {sq : Sp} (F : FnG hot grd X.prog X.w X.K X.mg X.base k f fd ps sq) (hr : Rm hot grd k A) (fr : A.frames = X.A.frames) (hb : Binds X.K fd ps []) (tk : Takes X W)
    (I : Inv X pins σ H s) (r : Vals vs us) (h : sq vs H Q (fun cls d H' => W cls d σ H')) : wpAny (model X.prog X.w) A (call (.ref f) us) (EP X pins σ Q) X.xe s := by
  have b := hb s us I.kIn (by rw [List.append_nil, ← r.length]; exact F.len _ _ _ _ h)
  rw [List.append_nil] at b
  exact wpAny_call (run_GA F hr fr b tk I r h)
theorem Rm.in1 {A : Around} (r : Rm hot grd (k + 1) A) : Rm hot grd k A.in1 :=
  ⟨⟨by have := r.room.dp; show A.depth + 3 * k + 5 < _; omega, by have := r.room.un; show A.units + 1 + 16 * k + 200 < _; omega⟩, r.calm, r.gd⟩
/-! ### new instances -/
theorem make_gd {A : Around} {C : Addr} {us : List Value} {kw : List (Str × Value)} : (A.under (.builtin "type.__call__" ⟨.ref C :: us, kw⟩)).guards = pushGuards [] A.guards := by
  first | rfl | simp [Around.under, Code.guards, Code.isGuard, guardIds]
theorem Rm.make {A : Around} (r : Rm hot grd (k + 1) A) (C : Addr) (us : List Value) (kw : List (Str × Value)) : Rm hot grd k (A.under (.builtin "type.__call__" ⟨.ref C :: us, kw⟩)) :=
  ⟨⟨by have := r.room.dp; rw [make_depth]; omega, by have := r.room.un; rw [make_units]; omega⟩, r.calm, fun h => by
    rw [make_gd, r.gd h]
    rfl⟩
theorem make_fr {A : Around} {C : Addr} {us : List Value} {kw : List (Str × Value)} : (A.under (.builtin "type.__call__" ⟨.ref C :: us, kw⟩)).frames = A.frames := by
  first | rfl | simp [Around.under, Code.envs, Code.isFrame, pushEnvs] | (cases A with | mk a b c d e => cases c <;> rfl)
theorem run_mk {pins : List (Addr × Obj)} {σ : L2.St} {H : Hp} {s : Shared} {Q : VK} {us ws : List Value} {vs zs : List V} {sq : Sp} {n : Nat} {ix : List Nat} (Mm : Mk X.K C f) (F : FnG hot grd X.prog X.w X.K X.mg X.base k f fd ps sq) (hr : Rm hot grd (k + 1) X.A) (hb : KwB X.K fd ps (n + 1) ks ix) (tk : Takes X W)
    (I : Inv X pins σ H s) (r : Vals vs us) (l1 : vs.length = n) (rz : Vals zs ws) (l2 : zs.length = ks.length) (h : ∀ x dx, H x = none → H dx = none → dx ≠ x → sq (.ref x :: (vs ++ pick ix zs)) (upd (upd H dx (.own x)) x (.ins C dx [])) (fun v H2 => v = .non ∧ Q (.ref x) H2) (fun cls d H' => W cls d σ H')) : wpAny (model X.prog X.w) X.A (call (.ref C) us (ks.zip ws)) (EP X pins σ Q) X.xe s := by
  have I2 := I.made (C := C)
  have hq := h (s.heap.objs.size + 1) _ (I.hok.fresh (Nat.le_add_right _ 1)) (I.hok.fresh (Nat.le_refl _)) (Nat.ne_of_lt (Nat.lt_add_one _))
  have b := hb.to _ (Value.ref (s.heap.objs.size + 1) :: us) ws I2.kIn (by rw [List.length_cons, ← r.length, l1]) (rz.length.symm.trans l2)
  have rr : Vals (V.ref (s.heap.objs.size + 1) :: (vs ++ pick ix zs)) (Value.ref (s.heap.objs.size + 1) :: us ++ pick ix ws) := .cons rfl (r.append (pick_vals rz ix))
  refine wpAny_call (make_map (f := f) I.kIn Mm.makes Mm.init (beq_iff_eq.mp Mm.fn) (codeAny_mono (run_GA F (hr.make C us (ks.zip ws)) make_fr b tk I2 rr hq) fun q s' hq' => ?_))
  match q, hq' with
  | .ok (.ret u), hq' =>
    obtain ⟨v, H', I3, rv, ev, q3⟩ := hq'
    subst ev
    exact ⟨rv, V.ref (s.heap.objs.size + 1), H', I3, rfl, q3⟩
  | .error e, hq' => exact hq'
  | .ok .next, hq' => exact hq'.elim
  | .ok .brk, hq' => exact hq'.elim
  | .ok .cont, hq' => exact hq'.elim
/-- what a new object of the class must have become -/
def mkD (c : Nat) (flds : List Str) (sp : DSp) (xs : List D) (m : M) (Q : DK) (x : DX) : Prop :=
  ∀ p, m p = none → sp (.ref p :: xs) (mset m p (.ob c [])) (fun d m1 => d = .non ∧ ∃ fs, m1 p = some (.ob c fs) ∧ fs.map (·.1) = flds ∧ Q (.ob c (fs.map (·.2))) (mdel m1 p)) x
theorem mk_imp {c : Nat} {F R H : Hp} {m : M} {xs : List D} {vs : List V} {Q0 : DK} {x0 : DX} {Q : VK} {E : XK} (st : Hst G F R H m) (r : Reps G F vs xs) (h : mkD c (G c).flds sp xs m Q0 x0)
    (kq : ∀ d m' F' v H', Q0 d m' → Le F F' → Hst G F' R H' m' → Rep G F' v d → Q v H') (kx : ∀ c ys m' F' d H', x0 c ys m' → Le F F' → Hst G F' R H' m' → XD G F' H' c d ys → E (.ref (G c).addr) d H') :
    ∀ x dx, H x = none → H dx = none → dx ≠ x → spL G sp (.ref x :: vs) (upd (upd H dx (.own x)) x (.ins (G c).addr dx [])) (fun v H2 => v = .non ∧ Q (.ref x) H2) E := by
  intro x dx hx hdx hne
  have s1 := st.grow (o := .own x) hdx
  have hx1 : upd H dx (.own x) x = none := by rw [upd_ne (Ne.symm hne)]; exact hx
  have s2 := s1.newM (o := .ins (G c).addr dx []) (u := .ob c []) hx1 ⟨dx, [], upd_same, rfl, .nil⟩
  refine ⟨F, R, _, .ref x :: xs, _, x0, s2, .cons (.ref x) r, h x (st.mnone hx), fun d m' F' v H' ⟨e, fs, hm, hf, q⟩ l s' rd => ?_, kx⟩
  subst e
  cases rd
  refine ⟨rfl, ?_⟩
  obtain ⟨hf0, dx', gs, hg, e2, rg⟩ := s'.mt x _ hm
  obtain ⟨s3, l3⟩ := s'.freeze hm hg
  exact kq _ _ _ _ _ q (l.trans l3) s3 (.ob (dx := dx') (fs := gs) upd_same (e2.trans hf) (rg.le l3))
def eMake (c : Nat) (flds : List Str) (sp : DSp) (ta : DTA) : DTE := fun x ds m Q => ta x ds m fun xs m1 => mkD c flds sp xs m1 Q (x ds)
theorem de_make {c : Nat} (Mm : Mk X.K (G c).addr f) (F : FnG hot grd X.prog X.w X.K X.mg X.base k f fd ps (spL G sp)) (hr : Rm hot grd (k + 1) X.A) (hg : Gl X x) (hm : X.mg x = some (.ref (G c).addr)) (hb : Binds X.K fd ps []) (tk : Takes X W) (ha : DA X G W (e :: es) ta)
    (hdb : (x == ("__debug__" : Str)) = false := by decide) (he : starEach (e :: es) X.env = (false, eval e X.env) :: starEach es X.env := by rfl) (hpl : (backTo pos (starEach es X.env)).any (·.1) = false := by rfl) :
    DE X G W (.Call (.Name x p) (e :: es) [] pos) (eMake c (G c).flds sp ta) := by
  refine ⟨fun pins s σ H Q I ⟨F0, R, m, ds, Q0, xx, st, sl, h, xk, kk⟩ => ?_⟩
  refine wpAny_Call_Name_kw (ld_glob I hg hm ?_ hdb)
  have ha' := ha.run pos pins s σ H (fun vs H1 => ∀ x dx, H1 x = none → H1 dx = none → dx ≠ x → spL G sp (.ref x :: vs) (upd (upd H1 dx (.own x)) x (.ins (G c).addr dx [])) (fun v H2 => v = .non ∧ Q (.ref x) H2) (fun cls d H' => W cls d σ H')) I
    ⟨F0, R, m, ds, _, xx, st, sl, h, xk, fun xs m1 F1 vs H1 q l s1 r1 => mk_imp s1 r1 q (fun d m' F' v H' q' l' => kk d m' F' v H' q' (l.trans l')) fun c ys m' F' d H' q' l' s' xd => xk ds c ys m' F' σ d H' q' (l.trans l') s' (sl.le (l.trans l')) xd⟩
  refine PySem.W.callWith_K (h₀ := X.base) I.ok.mod.kin Mm.kp (thn ha' fun us s1 ⟨vs, H1, I1, r, q⟩ => ⟨I1.kIn, ?_⟩) he hpl
  have hv : (vs.length + 1) = ps.length := by
    have := F.len _ _ _ _ (q (s1.heap.objs.size + 1) s1.heap.objs.size (I1.hok.fresh (Nat.le_succ _)) (I1.hok.fresh (Nat.le_refl _)) (Nat.ne_of_lt (Nat.lt_succ_self _)))
    simpa using this
  have hb' := Binds.kw hb
  rw [← hv] at hb'
  exact run_mk (ws := []) (zs := []) (ks := []) (ix := []) Mm F hr hb' tk I1 r rfl .nil rfl (by intro x dx h1 h2 h3; simpa [pick] using q x dx h1 h2 h3)
/-- C(k = v, ..) -/
def eMakeK (c : Nat) (flds : List Str) (ix : List Nat) (n : Nat) (sp : DSp) (tk : DTA) : DTE := fun x ds m Q => tk x ds m fun zs m1 => zs.length = n ∧ mkD c flds sp (pick ix zs) m1 Q (x ds)
abbrev DKw (X : Cx) (G : CT) (W : WX) (kws : List Keyword) (t : DTA) : Prop := PK X kws (lA G W t)
theorem _root_.L2.PK.imp {kws : List Keyword} {t t' : TA} (h : PK X kws t) (i : ∀ σ H Q, t' σ H Q → t σ H Q) : PK X kws t' := by
  obtain ⟨r⟩ := h
  exact ⟨fun pos pins s σ H Q I w => r pos pins s σ H Q I (i _ _ _ w)⟩
theorem dk_nil : DKw X G W [] aNil := L2.PK.imp pk_nil fun σ H Q h => by
  obtain ⟨F, R, m, ds, Q0, x, st, sl, h, xk, k⟩ := h
  exact k [] m F [] H h (Le.refl F) st .nil
theorem dk_cons {nm : Option Str} {kpos : Pos} (ha : DE X G W e te) (hr : DKw X G W kws tk) : DKw X G W (⟨nm, e, kpos⟩ :: kws) (aCons te tk) := L2.PK.imp (pk_cons ha hr) fun σ H Q h => by
  obtain ⟨F, R, m, ds, Q0, x, st, sl, h, xk, k⟩ := h
  refine ⟨F, R, m, ds, _, x, st, sl, h, xk, fun d m1 F1 v H1 h1 l1 s1 r1 => ?_⟩
  exact ⟨F1, R, m1, ds, _, x, s1, sl.le l1, h1, xk.le l1, fun xs m2 F2 vs H2 h2 l2 s2 r2 => k _ m2 F2 _ H2 h2 (l1.trans l2) s2 (.cons (r1.le l2) r2)⟩
theorem de_makeK {c : Nat} {ix : List Nat} (Mm : Mk X.K (G c).addr f) (F : FnG hot grd X.prog X.w X.K X.mg X.base k f fd ps (spL G sp)) (hr : Rm hot grd (k + 1) X.A) (hg : Gl X x) (hm : X.mg x = some (.ref (G c).addr)) (hb : KwB X.K fd ps 1 ks ix) (tkk : Takes X W) (hkw : DKw X G W kws tk) (hall : (backToKw pos (keywordEach kws X.env)).all (·.1.isSome) = true := by rfl) (hks : (backToKw pos (keywordEach kws X.env)).filterMap (·.1) = ks := by rfl) (hdb : (x == ("__debug__" : Str)) = false := by decide) (hpl : ((backTo pos (starEach [] X.env)).any (·.1) || (backToKw pos (keywordEach kws X.env)).any (·.1.isNone)) = false := by rfl) :
    DE X G W (.Call (.Name x p) [] kws pos) (eMakeK c (G c).flds ix ks.length sp tk) := by
  refine ⟨fun pins s σ H Q I ⟨F0, R, m, ds, Q0, xx, st, sl, h, xk, kk⟩ => ?_⟩
  refine wpAny_Call_Name_kw (ld_glob I hg hm ?_ hdb)
  have ha' := hkw.run pos pins s σ H (fun vs H1 => vs.length = ks.length ∧ ∀ x dx, H1 x = none → H1 dx = none → dx ≠ x → spL G sp (.ref x :: pick ix vs) (upd (upd H1 dx (.own x)) x (.ins (G c).addr dx [])) (fun v H2 => v = .non ∧ Q (.ref x) H2) (fun cls d H' => W cls d σ H')) I
    ⟨F0, R, m, ds, _, xx, st, sl, h, xk, fun xs m1 F1 vs H1 q l s1 r1 => ⟨r1.length.trans q.1, mk_imp s1 (pick_reps r1 ix) q.2 (fun d m' F' v H' q' l' => kk d m' F' v H' q' (l.trans l')) fun c ys m' F' d H' q' l' s' xd => xk ds c ys m' F' σ d H' q' (l.trans l') s' (sl.le (l.trans l')) xd⟩⟩
  refine PySem.W.callWith_KW0 (h₀ := X.base) I.ok.mod.kin Mm.kp hall ?_ hpl
  refine thn ha' fun ws s2 ⟨zs, H2, I2, rz, l2, q2⟩ => ⟨I2.kIn, ?_⟩
  rw [hks]
  exact run_mk (us := []) (vs := []) (n := 0) Mm F hr hb tkk I2 .nil rfl rz l2 (by simpa using q2)
end
end DL

namespace DL
open PySem PySem.Spec PyProof.Rows L2
open L2H (RoomH)
/-! ### fields -/
theorem zip_look {G : CT} {F : Hp} : ∀ {fs : List (Str × V)} {ns : List Str} {xs : List D} {n : Str} {d : D}, fs.map (·.1) = ns → Reps G F (fs.map (·.2)) xs → (ns.zip xs).lookup n = some d → ∃ v, fs.lookup n = some v ∧ Rep G F v d
  | [], _, _, _, _, e, _, h => by subst e; simp at h
  | (a, v) :: fs, _, _, n, d, e, .cons rv rr, h => by
    subst e
    rw [List.map_cons, List.zip_cons_cons, List.lookup_cons] at h
    rw [List.lookup_cons]
    cases q : n == a with
    | true => rw [q] at h; cases h; exact ⟨v, rfl, rv⟩
    | false => rw [q] at h; exact zip_look rfl rr h
theorem look_reps {G : CT} {F : Hp} : ∀ {gs : List (Str × V)} {fs : List (Str × D)} {n : Str} {d : D}, gs.map (·.1) = fs.map (·.1) → Reps G F (gs.map (·.2)) (fs.map (·.2)) → fs.lookup n = some d → ∃ v, gs.lookup n = some v ∧ Rep G F v d
  | [], [], _, _, _, _, h => by simp at h
  | [], _ :: _, _, _, e, _, _ => by simp at e
  | _ :: _, [], _, _, e, _, _ => by simp at e
  | (a, v) :: gs, (b, w) :: fs, n, d, e, .cons rv rr, h => by
    simp only [List.map_cons, List.cons.injEq] at e
    obtain ⟨e1, e2⟩ := e
    subst e1
    rw [List.lookup_cons] at h ⊢
    cases q : n == a with
    | true => rw [q] at h; cases h; exact ⟨v, rfl, rv⟩
    | false => rw [q] at h; exact look_reps e2 rr h
theorem look_none {fs : List (Str × V)} {ns : List Str} {n : Str} (e : fs.map (·.1) = ns) (h : ns.contains n = false) : fs.lookup n = none := by
  subst e
  induction fs with
  | nil => rfl
  | cons q fs ih =>
    obtain ⟨a, v⟩ := q
    rw [List.map_cons, List.contains_cons, Bool.or_eq_false_iff] at h
    rw [List.lookup_cons, h.1]
    exact ih h.2
def putD (f : Str) (v : D) : List (Str × D) → List (Str × D)
  | [] => [(f, v)]
  | (g, x) :: r => if g = f then (g, v) :: r else (g, x) :: putD f v r
theorem put_rel {G : CT} {F : Hp} {f : Str} {v : V} {d : D} (rv : Rep G F v d) : ∀ {gs : List (Str × V)} {fs : List (Str × D)}, gs.map (·.1) = fs.map (·.1) → Reps G F (gs.map (·.2)) (fs.map (·.2)) → (putF f v gs).map (·.1) = (putD f d fs).map (·.1) ∧ Reps G F ((putF f v gs).map (·.2)) ((putD f d fs).map (·.2))
  | [], [], _, _ => ⟨rfl, .cons rv .nil⟩
  | [], _ :: _, e, _ => by simp at e
  | _ :: _, [], e, _ => by simp at e
  | (a, x) :: gs, (b, y) :: fs, e, .cons rx rr => by
    simp only [List.map_cons, List.cons.injEq] at e
    obtain ⟨e1, e2⟩ := e
    subst e1
    unfold putF putD
    by_cases q : a = f
    · rw [if_pos q, if_pos q]
      exact ⟨by simp [e2], .cons rv rr⟩
    · rw [if_neg q, if_neg q]
      obtain ⟨h1, h2⟩ := put_rel rv e2 rr
      exact ⟨by simp [h1], .cons rx h2⟩
section
variable {X : Cx} {G : CT} {W : WX} {hot grd : Bool} {k c : Nat} {f : Addr} {fd : FuncData} {ps ks : List Str} {sp : DSp} {x n : Str} {p pos pos' apos : Pos} {e o a b value : Expr} {es : List Expr} {kws : List Keyword} {ta tk : DTA} {te tv tb to : DTE}
def eFld (G : CT) (c : Nat) (n : Str) (te : DTE) : DTE := fun x ds m Q => te x ds m fun d m1 => ∃ xs v, d = .ob c xs ∧ ((G c).flds.zip xs).lookup n = some v ∧ Q v m1
theorem de_fld (hC : Cls X.K (G c).addr) (hn : NoAttr X.K (G c).addr n) (he : DE X G W e te) (hb : attributeBase e n X.env (eval e X.env) = eval e X.env := by rfl) : DE X G W (.Attribute e n pos) (eFld G c n te) :=
  (pe_fld he hb).imp fun σ H Q ⟨F, R, m, ds, Q0, x, st, sl, h, xk, kk⟩ => by
    refine ⟨F, R, m, ds, _, x, st, sl, h, xk, fun d m1 F1 v H1 ⟨xs, u, e1, lk, q⟩ l1 s1 r1 => ?_⟩
    subst e1
    cases r1 with
    | @ob a dx _ fs _ hh ee rr =>
      obtain ⟨w, hw, rw_⟩ := zip_look ee rr lk
      exact ⟨a, _, dx, fs, w, rfl, s1.fz _ _ hh, hC, hn, hw, kk _ _ _ _ _ q l1 s1 rw_⟩
/-- the same of an object that may change -/
def eFldM (c : Nat) (n : Str) (te : DTE) : DTE := fun x ds m Q => te x ds m fun d m1 => ∃ p fs v, d = .ref p ∧ m1 p = some (.ob c fs) ∧ fs.lookup n = some v ∧ Q v m1
theorem de_fldM (hC : Cls X.K (G c).addr) (hn : NoAttr X.K (G c).addr n) (he : DE X G W e te) (hb : attributeBase e n X.env (eval e X.env) = eval e X.env := by rfl) : DE X G W (.Attribute e n pos) (eFldM c n te) :=
  (pe_fld he hb).imp fun σ H Q ⟨F, R, m, ds, Q0, x, st, sl, h, xk, kk⟩ => by
    refine ⟨F, R, m, ds, _, x, st, sl, h, xk, fun d m1 F1 v H1 ⟨p, fs, u, e1, hm, lk, q⟩ l1 s1 r1 => ?_⟩
    subst e1
    cases r1
    obtain ⟨_, dx, gs, hg, e2, rr⟩ := s1.mt _ _ hm
    obtain ⟨w, hw, rw_⟩ := look_reps e2 rr lk
    exact ⟨p, _, dx, gs, w, rfl, hg, hC, hn, hw, kk _ _ _ _ _ q l1 s1 rw_⟩
def sFldM (c : Nat) (n : Str) (to tv : DTE) : DTS := fun E ds m => tv E.ex ds m fun y m1 => to E.ex ds m1 fun x m2 => ∃ p fs, x = .ref p ∧ m2 p = some (.ob c fs) ∧ fs.length < 1000 ∧ E.nx ds (mset m2 p (.ob c (putD n y fs)))
theorem ds_fld (hC : Cls X.K (G c).addr) (hn : NoAttr X.K (G c).addr n) (ho : DE X G W o to) (hv : DE X G W value tv) (hs : swapsWith value (some (.Attribute o n pos')) pos.line X.env = pure false := by rfl) :
    DS X G W (.Assign [.Attribute o n pos'] value pos) (sFldM c n to tv) :=
  (ps_fld ho hv hs).imp fun D σ H ⟨F, R, m, ds, E, st, sl, h, ok⟩ => by
    refine ⟨F, R, m, ds, _, E.ex, st, sl, h, ok.ex, fun y m1 F1 vy H1 h1 l1 s1 r1 => ?_⟩
    refine ⟨F1, R, m1, ds, _, E.ex, s1, sl.le l1, h1, ok.ex.le l1, fun d m2 F2 v H2 ⟨p, fs, e1, hm, hl, q⟩ l2 s2 r2 => ?_⟩
    subst e1
    cases r2
    obtain ⟨_, dx, gs, hg, e2, rr⟩ := s2.mt _ _ hm
    obtain ⟨h3, h4⟩ := put_rel (f := n) (r1.le l2) e2 rr
    have hlen : gs.length = fs.length := by simpa using congrArg List.length e2
    refine ⟨p, _, dx, gs, rfl, hg, hC, hn, by omega, ?_⟩
    exact ok.nx _ _ F2 _ _ q (l1.trans l2) (s2.put hm ⟨dx, _, upd_same, h3, h4⟩) (sl.le (l1.trans l2))
/-! ### methods -/
def eMeth (c : Nat) (sp : DSp) (to : DTE) (ta : DTA) : DTE := fun x ds m Q => to x ds m fun d m1 => ∃ ys, d = .ob c ys ∧ ta x ds m1 fun xs m2 => sp (.ob c ys :: xs) m2 Q (x ds)
def eMethK (c nn : Nat) (ix : List Nat) (sp : DSp) (to : DTE) (ta tk : DTA) : DTE := fun x ds m Q => to x ds m fun d m1 => ∃ ys, d = .ob c ys ∧ ta x ds m1 fun xs m2 => tk x ds m2 fun zs m3 => zs.length = nn ∧ sp (.ob c ys :: (xs ++ pick ix zs)) m3 Q (x ds)
theorem meth_run {pins : List (Addr × Obj)} {σ : L2.St} {H : Hp} {s : Shared} {Q : VK} {u : Value} {us ws : List Value} {v : V} {vs zs : List V} {sq : Sp} {nn : Nat} {ix : List Nat} (F : FnG hot grd X.prog X.w X.K X.mg X.base k f fd ps sq) (hr : Rm hot grd k X.A) (hb : KwB X.K fd ps (nn + 1) ks ix) (tk : Takes X W)
    (I : Inv X pins σ H s) (r0 : RelV v u) (r : Vals vs us) (rz : Vals zs ws) (l1 : vs.length = nn) (l2 : zs.length = ks.length) (h : sq (v :: (vs ++ pick ix zs)) H Q (fun cls d H' => W cls d σ H')) :
    wpAny (model X.prog X.w) X.A (call (.ref f) (u :: us) (ks.zip ws)) (EP X pins σ Q) X.xe s := by
  have b := hb.to s (u :: us) ws I.kIn (by rw [List.length_cons, ← r.length, l1]) (rz.length.symm.trans l2)
  exact wpAny_call (run_GA F hr rfl b tk I (.cons r0 (r.append (pick_vals rz ix))) h)
theorem de_meth {pl : Sem Bool} (hC : Cls X.K (G c).addr) (hM : Meth X.K (G c).addr n f) (hf : (G c).flds.contains n = false) (F : FnG hot grd X.prog X.w X.K X.mg X.base k f fd ps (spL G sp)) (hr : Rm hot grd k X.A) (hb : Binds X.K fd ps []) (tkk : Takes X W) (ho : DE X G W o to) (ha : DA X G W (e :: es) ta)
    (hst : starEach (e :: es) X.env = (false, eval e X.env) :: starEach es X.env := by rfl) (hpl : (backTo pos (starEach es X.env)).any (·.1) = false := by rfl)
    (ht : eval (.Call (.Attribute o n apos) (e :: es) [] pos) X.env = (do
      let ov ← eval o X.env
      standAt apos.atName
      let (f, first) ← holding [ov] (getMethod ov n pl)
      callWith pos f first (backTo pos (starEach (e :: es) X.env)) (backToKw pos (keywordEach [] X.env))) := by rfl) :
    DE X G W (.Call (.Attribute o n apos) (e :: es) [] pos) (eMeth c sp to ta) := by
  refine ⟨fun pins s σ H Q I ⟨F0, R, m, ds, Q0, xx, st, sl, h, xk, kk⟩ => ?_⟩
  refine PySem.W.methodCall_KW (pl := pl) (thn (ho.run pins s σ H (fun v H1 => ∃ a dx fs, v = .ref a ∧ H1 a = some (.ins (G c).addr dx fs) ∧ fs.lookup n = none ∧ lA G W ta σ H1 (fun vs H2 => spL G sp (v :: vs) H2 Q (fun cls d H' => W cls d σ H'))) I
    ⟨F0, R, m, ds, _, xx, st, sl, h, xk, fun d m1 F1 v H1 ⟨ys, ed, h1⟩ l1 s1 r1 => ?_⟩) fun u s1 ⟨v, H1, I1, rx, aa, dx, fs, ex, ea, l, q⟩ => ?_) ht
  · subst ed
    have rr := r1
    cases r1 with
    | @ob aa dx _ fs _ hh ee _ =>
      refine ⟨aa, dx, fs, rfl, s1.fz _ _ hh, look_none ee hf, F1, R, m1, ds, _, xx, s1, sl.le l1, h1, xk.le l1, fun xs m2 F2 vs H2 q l2 s2 r2 => ?_⟩
      exact spL_of s2 (sl.le (l1.trans l2)) (.cons (rr.le l2) r2) q (xk.le (l1.trans l2)) fun d m' F' v H' q' l' => kk d m' F' v H' q' ((l1.trans l2).trans l')
  · subst ex
    obtain rfl : u = Value.ref aa := rx
    refine getmeth_ok I1 ea hC hM l ?_
    refine PySem.W.callWith_K (first := [.ref aa]) (h₀ := X.base) I.ok.mod.kin hM.kp (thn (ha.run pos pins s1 σ H1 _ I1 q) fun us s2 ⟨vs, H2, I2, r, q2⟩ => ⟨I2.kIn, ?_⟩) hst hpl
    have hl := F.len _ _ _ _ q2
    have hb' := Binds.kw hb
    rw [← hl] at hb'
    have := meth_run (ws := []) (zs := []) (ks := []) (ix := []) (u := .ref aa) (v := .ref aa) (vs := vs) (us := us) F hr hb' tkk I2 rfl r .nil rfl rfl (by simpa [pick] using q2)
    simpa using this
theorem de_methK {pl : Sem Bool} {ix : List Nat} (hC : Cls X.K (G c).addr) (hM : Meth X.K (G c).addr n f) (hf : (G c).flds.contains n = false) (F : FnG hot grd X.prog X.w X.K X.mg X.base k f fd ps (spL G sp)) (hr : Rm hot grd k X.A) (hb : KwB X.K fd ps 1 ks ix) (tkk : Takes X W) (ho : DE X G W o to) (hkw : DKw X G W kws tk)
    (hall : (backToKw pos (keywordEach kws X.env)).all (·.1.isSome) = true := by rfl) (hks : (backToKw pos (keywordEach kws X.env)).filterMap (·.1) = ks := by rfl)
    (hpl : ((backTo pos (starEach [] X.env)).any (·.1) || (backToKw pos (keywordEach kws X.env)).any (·.1.isNone)) = false := by rfl)
    (ht : eval (.Call (.Attribute o n apos) [] kws pos) X.env = (do
      let ov ← eval o X.env
      standAt apos.atName
      let (f, first) ← holding [ov] (getMethod ov n pl)
      callWith pos f first (backTo pos (starEach [] X.env)) (backToKw pos (keywordEach kws X.env))) := by rfl) :
    DE X G W (.Call (.Attribute o n apos) [] kws pos) (eMethK c ks.length ix sp to aNil tk) := by
  refine ⟨fun pins s σ H Q I ⟨F0, R, m, ds, Q0, xx, st, sl, h, xk, kk⟩ => ?_⟩
  refine PySem.W.methodCall_KW (pl := pl) (thn (ho.run pins s σ H (fun v H1 => ∃ a dx fs, v = .ref a ∧ H1 a = some (.ins (G c).addr dx fs) ∧ fs.lookup n = none ∧ lA G W tk σ H1 (fun zs H2 => zs.length = ks.length ∧ spL G sp (v :: pick ix zs) H2 Q (fun cls d H' => W cls d σ H'))) I
    ⟨F0, R, m, ds, _, xx, st, sl, h, xk, fun d m1 F1 v H1 ⟨ys, ed, h1⟩ l1 s1 r1 => ?_⟩) fun u s1 ⟨v, H1, I1, rx, aa, dx, fs, ex, ea, l, q⟩ => ?_) ht
  · subst ed
    have rr := r1
    cases r1 with
    | @ob aa dx _ fs _ hh ee _ =>
      refine ⟨aa, dx, fs, rfl, s1.fz _ _ hh, look_none ee hf, F1, R, m1, ds, _, xx, s1, sl.le l1, h1, xk.le l1, fun zs m2 F2 vs H2 q l2 s2 r2 => ⟨r2.length.trans q.1, ?_⟩⟩
      exact spL_of s2 (sl.le (l1.trans l2)) (.cons (rr.le l2) (pick_reps r2 ix)) q.2 (xk.le (l1.trans l2)) fun d m' F' v H' q' l' => kk d m' F' v H' q' ((l1.trans l2).trans l')
  · subst ex
    obtain rfl : u = Value.ref aa := rx
    refine getmeth_ok I1 ea hC hM l ?_
    refine PySem.W.callWith_KW0 (first := [.ref aa]) (h₀ := X.base) I.ok.mod.kin hM.kp hall (thn (hkw.run pos pins s1 σ H1 _ I1 q) fun ws s2 ⟨zs, H2, I2, rz, l2, q2⟩ => ⟨I2.kIn, ?_⟩) hpl
    rw [hks]
    have := meth_run (us := []) (vs := []) (nn := 0) (u := .ref aa) (v := .ref aa) F hr hb tkk I2 rfl .nil rz rfl l2 (by simpa using q2)
    simpa using this
/-! ### calls that let nothing out -/
theorem takes0 : Takes (X.wish fun _ _ => False) (fun _ _ _ _ => False) := fun u s' ⟨_, _, _, _, _, _, _, _, _, _, _, _, _, _, _, _, w⟩ => w
theorem ep_unwish {pins : List (Addr × Obj)} {σ : L2.St} {Q : VK} {E : Value → Shared → Prop} {u : Value} {s : Shared} (h : EP (X.wish E) pins σ Q u s) : EP X pins σ Q u s :=
  let ⟨v, H, I, r, q⟩ := h; ⟨v, H, I.unwish, r, q⟩
theorem run_GA0 {A : Around} {pins : List (Addr × Obj)} {σ : L2.St} {H : Hp} {s : Shared} {Q : VK} {args : Args} {us : List Value} {vs : List V} {sq : Sp} (F : FnG hot grd X.prog X.w X.K X.mg X.base k f fd ps sq) (hr : Rm hot grd k A) (fr : A.frames = X.A.frames) (hb : BindsTo s fd args (ps.zip us))
    (I : Inv X pins σ H s) (r : Vals vs us) (h : sq vs H Q (fun _ _ _ => False)) : codeAny (model X.prog X.w) A (.call (.ref f) args) (wants (EP X pins σ Q) (fun _ _ => False)) s := by
  refine codeAny_mono (run_GA (X := X.wish fun _ _ => False) F hr fr hb takes0 (I.wish _) r h) fun q s' hq => ?_
  match q, hq with
  | .ok (.ret u), hq => exact ep_unwish hq
  | .error e, hq => exact hq
  | .ok .next, hq => exact hq.elim
  | .ok .brk, hq => exact hq.elim
  | .ok .cont, hq => exact hq.elim
theorem run_G0 {A : Around} {pins : List (Addr × Obj)} {σ : L2.St} {H : Hp} {s : Shared} {Q : VK} {us : List Value} {vs : List V} {sq : Sp} (F : FnG hot grd X.prog X.w X.K X.mg X.base k f fd ps sq) (hr : Rm hot grd k A) (fr : A.frames = X.A.frames) (hb : Binds X.K fd ps [])
    (I : Inv X pins σ H s) (r : Vals vs us) (h : sq vs H Q (fun _ _ _ => False)) {E : Value → Shared → Prop} : wpAny (model X.prog X.w) A (call (.ref f) us) (EP X pins σ Q) E s := by
  have b := hb s us I.kIn (by rw [List.append_nil, ← r.length]; exact F.len _ _ _ _ h)
  rw [List.append_nil] at b
  refine wpAny_call (codeAny_mono (run_GA0 F hr fr b I r h) fun q s' hq => ?_)
  match q, hq with
  | .ok (.ret u), hq => exact hq
/-- a promise that is kept without an error -/
theorem spL_of0 {sp : DSp} {F R H : Hp} {m : M} {xs : List D} {vs : List V} {Q0 : DK} {Q : VK} (st : Hst G F R H m) (r : Reps G F vs xs) (h : sp xs m Q0 (fun _ _ _ => False))
    (k : ∀ d m' F' v H', Q0 d m' → Le F F' → Hst G F' R H' m' → Rep G F' v d → Q v H') : spL G sp vs H Q (fun _ _ _ => False) :=
  ⟨F, R, m, xs, Q0, _, st, r, h, k, fun c ys m' F' d H' q l s' xd => q.elim⟩
/-! ### properties -/
def eProp (c : Nat) (sp : DSp) (te : DTE) : DTE := fun x ds m Q => te x ds m fun d m1 => ∃ ys, d = .ob c ys ∧ sp [.ob c ys] m1 Q (fun _ _ _ => False)
theorem de_prop {pr : Addr} (hC : Cls X.K (G c).addr) (hP : PropOf X.K (G c).addr n pr f) (F : FnG hot grd X.prog X.w X.K X.mg X.base k f fd ps (spL G sp)) (hr : Rm hot grd (k + 1) X.A) (hb : Binds X.K fd ps []) (he : DE X G W e te)
    (hab : attributeBase e n X.env (eval e X.env) = eval e X.env := by rfl) : DE X G W (.Attribute e n pos) (eProp c sp te) := by
  refine ⟨fun pins s σ H Q I ⟨F0, R, m, ds, Q0, xx, st, sl, h, xk, kk⟩ => ?_⟩
  refine attr_of hab (thn (he.run pins s σ H (fun v H1 => ∃ a dx fs, v = .ref a ∧ H1 a = some (.ins (G c).addr dx fs) ∧ spL G sp [v] H1 Q (fun _ _ _ => False)) I
    ⟨F0, R, m, ds, _, xx, st, sl, h, xk, fun d m1 F1 v H1 ⟨ys, ed, h1⟩ l1 s1 r1 => ?_⟩) fun u s1 ⟨v, H1, I1, rx, aa, dx, fs, ex, ea, q⟩ => ?_)
  · subst ed
    have rr := r1
    cases r1 with
    | @ob aa dx _ fs _ hh ee _ =>
      exact ⟨aa, dx, fs, rfl, s1.fz _ _ hh, spL_of0 s1 (.cons rr .nil) h1 fun d m' F' v H' q' l' => kk d m' F' v H' q' (l1.trans l')⟩
  · subst ex
    obtain rfl : u = Value.ref aa := rx
    obtain ⟨mA, O, _, _, _, _⟩ := ins_get I1.hok ea
    obtain ⟨od, J, _⟩ := O.look
    obtain ⟨rest, hrec⟩ := hP.rec_
    have I2 := I1.tok (s1.toks + 1)
    have hc : (PySem.W.clsIn X.K (G c).addr).isSome = true := by
      obtain ⟨cd, hc, _⟩ := PySem.W.any_some hC.hd
      rw [hc]
      rfl
    refine PySem.W.get_bind I1.kIn J (PySem.W.plainGet_of (hC.get n)).1 (PySem.W.findObj_data hc hP.at_ hP.get hP.tak) (PySem.W.plainGet_of (hC.get n)).2 (wpAny_call (PySem.W.prop_get (s := { s1 with toks := s1.toks + 1 }) I1.kIn hrec ?_))
    have hl := F.len _ _ _ _ q
    have b := hb _ [Value.ref aa] I2.kIn (by simpa using hl)
    rw [List.append_nil] at b
    have rv : Vals [V.ref aa] [Value.ref aa] := .cons (rfl : RelV (.ref aa) (.ref aa)) .nil
    refine codeAny_mono (run_GA0 F hr.in1 rfl b I2 rv q) fun r s' hq => ?_
    match r, hq with
    | .ok (.ret u), ⟨v, H', I3, rv, q3⟩ =>
      have out : handedOut u = pure u := PySem.W.handedOut_of (handed_of rv)
      (show wpAny _ _ (handedOut u) _ _ _; rw [out]; exact wpAny_pure ⟨v, H', I3, rv, q3⟩)
end
end DL

/-! own operators -/
namespace PySem.W
open PySem PySem.Spec PySem.Calls PyProof.Rows
section
variable {prog : Program} {w : World} {A : Around} {E : Value → Shared → Prop} {s : Shared} {K : Frag} {x C L f : Addr} {h₀ : Heap} {m : Str → Option Value} {ox : Obj} {od : Option Obj} {b : Value} {B T : String}
/-- the own method of that name answers -/
theorem try_own {Q : Value → Shared → Prop} {name : Str} (kin : K.In s.heap) (inst : InstAt s.heap x ox C od) (own : findIn K (.ref C) name = some (some (.ref f))) (isF : isFn K (.ref f) = true)
    (ans : wpAny (model prog w) A (call (.ref f) [.ref x, b]) (CmpBack Q) E s) : wpAny (model prog w) A (tryCompare (.ref x) name b) (fun r s' => ∃ v, r = some v ∧ Q v s') E s := by
  simp only [tryCompare]
  refine wpAny_bind (ifBound_K kin inst own isF (wpAny_mono ans ?_ fun _ _ z => z))
  intro v s' back
  cases v <;> first | exact False.elim back | exact wpAny_pure ⟨_, rfl, back⟩
/-- object's != asks the own == -/
theorem inner_ne {Q : Value → Shared → Prop} (hu : A.units + 1 < cLine) (kin : K.In s.heap) (inst : InstAt s.heap x ox C od) (own : findIn K (.ref C) "__eq__" = some (some (.ref f))) (isF : isFn K (.ref f) = true)
    (ans : wpAny (model prog w) A.in1 (call (.ref f) [.ref x, b]) (fun v s' => ∃ k, v = .bool k ∧ Q (.bool (!k)) s') E s) :
    wpAny (model prog w) A.in1 (Builtin.«object.__ne__» ⟨[.ref x, b], []⟩) (fun fin s' => ∃ v, fin = .done (.ret v) ∧ v ≠ .notImplemented ∧ Q v s') E s := by
  delta Builtin.«object.__ne__»
  have asked : wpAny (model prog w) A.in1 (callSpecialIfBound? (.ref x) (Str.ofString "__eq__") [b]) (fun r s' => ∃ k, r = some (.bool k) ∧ Q (.bool (!k)) s') E s :=
    ifBound_K kin inst own isF (wpAny_mono ans (fun v s' ⟨k, e, q⟩ => ⟨k, congrArg some e, q⟩) fun _ _ z => z)
  refine wpAny_bind (wpAny_of_eq (a := (Value.ref x, [b])) (by first | rfl | (simp only [slotArgs]; rfl)) (wpAny_bind (wpAny_cRoomFor hu (wpAny_bind (wpAny_mono asked ?_ fun _ _ z => z)))))
  rintro _ s' ⟨k, rfl, q⟩
  exact wpAny_bind (m := truthy (.bool k)) (wpAny_truthy_bool (wpAny_pure ⟨_, rfl, Value.noConfusion, q⟩))
theorem try_ne {Q : Value → Shared → Prop} (hu : A.units + 1 < cLine) (kin : K.In s.heap) (inst : InstAt s.heap x ox C od) (noNe : findIn K (.ref C) "__ne__" = some (some (.builtin "object.__ne__"))) (own : findIn K (.ref C) "__eq__" = some (some (.ref f))) (isF : isFn K (.ref f) = true)
    (isO : subIn K (.ref C) (.type "object") = some true) (ans : wpAny (model prog w) A.in1 (call (.ref f) [.ref x, b]) (fun v s' => ∃ k, v = .bool k ∧ Q (.bool (!k)) s') E s) : wpAny (model prog w) A (tryCompare (.ref x) "__ne__" b) (fun r s' => ∃ v, r = some v ∧ Q v s') E s := by
  have kind := inst.type (M := model prog w)
  have run : wpAny (model prog w) A (call (.builtin "object.__ne__") [.ref x, b]) (fun v s' => v ≠ .notImplemented ∧ Q v s') E s := by
    apply wpAny_call
    apply codeAny_call_builtin F.cmp_object.ne.plain F.cmpEntry_ne
    apply @check_slot (model prog w) _ _ s "object.__ne__" "object" "__ne__" (.ref x) [b] [] _ F.cmpKind_ne F.cmpSplit_ne (kind.andThen (looks_subIn kin isO)) (F.cmpArgs_ne _ _)
    refine wpAny_mono (inner_ne hu kin inst own isF ans) ?_ fun _ _ z => z
    rintro _ s' ⟨v, rfl, both⟩
    exact both
  have told : wpAny (model prog w) A (call (.builtin "object.__ne__") ([.ref x] ++ [b]) >>= fun v => pure (some v)) (fun r s' => ∃ v, r = some v ∧ v ≠ .notImplemented ∧ Q v s') E s := wpAny_bind (wpAny_mono run (fun v s' both => wpAny_pure ⟨v, rfl, both⟩) fun _ _ z => z)
  simp only [tryCompare, callSpecialIfBound?, bindSpecialIfBound?]
  refine wpAny_bind (wpAny_holding (wpAny_bind (wpAny_bind (wpAny_bind (kind.here ((looks_findIn kin noNe).here ?_))))))
  simp only [F.cmp_object.ne.bind]
  have last : ∀ (r : Option Value) (s' : Shared), (∃ v, r = some v ∧ v ≠ .notImplemented ∧ Q v s') → wpAny (model prog w) A (match r with | some .notImplemented | none => pure none | some v => pure (some v)) (fun r s' => ∃ v, r = some v ∧ Q v s') E s' := by
    rintro _ s' ⟨v, rfl, h1, h2⟩
    cases v <;> first | exact absurd rfl h1 | exact wpAny_pure ⟨_, rfl, h2⟩
  have fin := wpAny_mono told last fun _ _ z => z
  apply wpAny_bind
  apply wpAny_askSetting
  apply wpAny_ite
  split <;> first | exact wpAny_bind (wpAny_pure (wpAny_pure (by exact fin))) | exact wpAny_tryCatch (wpAny_bind (wpAny_pure (wpAny_pure (by exact fin))))
/-- the own side stands at the left -/
theorem cmp_left {op : CmpOp} {Q : Value → Shared → Prop} {tb : Value} (hu : A.units < cLine) (kin : K.In s.heap) (inst : InstAt s.heap x ox C od) (kb : Looks (model prog w) s.heap (typeOf b) tb) (hn : notFirst K C tb = true)
    (one : wpAny (model prog w) A (tryCompare (.ref x) (cmpInfo op).2.1 b) (fun r s' => ∃ v, r = some v ∧ Q v s') E s) : wpAny (model prog w) A (richCompare op (.ref x) b) Q E s := by
  delta richCompare
  dsimp only
  rw [oneThing_ref]
  refine wpAny_holding (wpAny_bind (wpAny_cRoomFor hu (wpAny_bind ((inst.type (M := model prog w)).here (wpAny_bind (kb.here ?_))))))
  split
  · next differ =>
    have isLess : subIn K tb (.ref C) = some false := (Bool.or_eq_true_iff.mp hn).elim (fun same => by simp [eq_of_beq same] at differ) eq_of_beq
    refine wpAny_bind ((looks_subIn kin isLess).here ?_)
    simp only [if_neg Bool.false_ne_true]
    exact wpAny_bind (wpAny_mono one (fun _ s' ⟨v, e, q⟩ => e ▸ wpAny_pure q) fun _ _ z => z)
  · apply wpAny_bind
    apply wpAny_pure
    simp only [if_neg Bool.false_ne_true]
    exact wpAny_bind (wpAny_mono one (fun _ s' ⟨v, e, q⟩ => e ▸ wpAny_pure q) fun _ _ z => z)
/-- the own side stands at the right: the left one declines -/
theorem cmp_right {op : CmpOp} {Q : Value → Shared → Prop} (hu : A.units < cLine) (kin : K.In s.heap) (inst : InstAt s.heap x ox C od) (tb : s.TypeIs b T) (apart : subIn K (.ref C) (.type T) = some false)
    (dec : ∀ R : Option Value → Shared → Prop, R none s → wpAny (model prog w) A (tryCompare b (cmpInfo op).2.1 (.ref x)) R E s) (one : wpAny (model prog w) A (tryCompare (.ref x) (cmpInfo op).2.2 b) (fun r s' => ∃ v, r = some v ∧ Q v s') E s) :
    wpAny (model prog w) A (richCompare op b (.ref x)) Q E s := by
  have differ : (Value.type T != Value.ref C) = true := bne_iff_ne.mpr Value.noConfusion
  delta richCompare
  dsimp only
  rw [tb.oneThing_none]
  refine wpAny_holding (wpAny_bind (wpAny_cRoomFor hu (wpAny_bind (wpAny_typeOf tb (wpAny_bind ((inst.type (M := model prog w)).here ?_))))))
  simp only [differ, ↓reduceIte]
  refine wpAny_bind ((looks_subIn kin apart).here (wpAny_bind (dec _ (wpAny_bind (wpAny_mono one ?_ fun _ _ z => z)))))
  rintro _ s' ⟨v, rfl, q⟩
  exact wpAny_pure q
/-- b + x by the own __radd__: b's kind has no + for numbers, or declines -/
theorem add_right {Q : Value → Shared → Prop} {fp : Addr} {l : Bool} (kin : K.In s.heap) (inst : InstAt s.heap x ox C od) (tb : s.TypeIs b T) (fills : fillsNumberSlot (.type T) "add" = pure l) (first : selfFirst K C = true)
    (plus : findIn K (.ref C) (PySem.dunder "add") = some (some (.ref fp))) (own : findIn K (.ref C) (dunderR "add") = some (some (.ref f))) (isF : isFn K (.ref f) = true) (apart : subIn K (.ref C) (.type T) = some false)
    (dec : l = true → ∀ R : Option Value → Shared → Prop, R none s → wpAny (model prog w) A (tryMethod b (PySem.dunder "add") (.ref x)) R E s) (ans : wpAny (model prog w) A (call (.ref f) [.ref x, b]) (CmpBack Q) E s) : wpAny (model prog w) A (binaryOp .Add b (.ref x)) Q E s := by
  obtain ⟨r, more, looked, line⟩ := ksp_first first
  have rightFills : Looks (model prog w) s.heap (fillsNumberSlot (.ref C) "add") true := fills_K kin looked line plus
  have one := ksp_try kin inst own isF ans
  have differ : (Value.type T == Value.ref C) = false := beq_eq_false_iff_ne.mpr Value.noConfusion
  have noPy : numberSlotInPython (.type T) "add" = pure false := rfl
  have last : ∀ (v? : Option Value) (s' : Shared), (∃ v, v? = some v ∧ Q v s') → ∃ v, v? = some v ∧ Q v s' := fun _ _ z => z
  have way : wpAny (model prog w) A (binaryOp1 "add" b (.ref x)) (fun r s' => ∃ v, r = some v ∧ Q v s') E s := by
    delta binaryOp1
    dsimp only
    refine wpAny_bind (wpAny_typeOf tb (wpAny_bind ((inst.type (M := model prog w)).here (wpAny_bind (wpAny_of_eq fills ?_)))))
    rw [if_neg (Bool.eq_false_iff.mp differ)]
    refine wpAny_bind (rightFills.here ?_)
    cases l with
    | false =>
      simp only [Bool.false_and, Bool.false_eq_true, ↓reduceIte, pure_bind, Bool.not_false, Bool.and_self]
      refine wpAny_bind (wpAny_mono one ?_ fun _ _ z => z)
      rintro _ s' ⟨v, rfl, q⟩
      exact wpAny_bind (wpAny_rule (wpAny_pure ⟨v, rfl, q⟩))
    | true =>
      simp only [Bool.and_self, ↓reduceIte]
      refine wpAny_bind ((looks_subIn kin apart).here ?_)
      simp only [Bool.false_eq_true, ↓reduceIte, pure_bind, Bool.not_false, Bool.and_self, noPy]
      refine wpAny_bind (dec rfl _ (wpAny_bind (wpAny_mono one ?_ fun _ _ z => z)))
      rintro _ s' ⟨v, rfl, q⟩
      exact wpAny_bind (wpAny_rule (wpAny_pure ⟨v, rfl, q⟩))
  delta binaryOp
  refine wpAny_holding (wpAny_bind (wpAny_mono way ?_ fun _ _ z => z))
  rintro _ s' ⟨v, rfl, q⟩
  exact wpAny_pure q
/-- a built-in's method, called on a value of its own kind, declines -/
theorem declines_by {id : String} {name : Str} {B : Builtin} {Q : Value → Shared → Prop} (slot : Slot T name id) (tb : s.TypeIs b T) (entry : entryFor table id = some B) (args : argsOk id ⟨[b, .ref x], []⟩)
    (body : wpAny (model prog w) A.in1 (B ⟨[b, .ref x], []⟩) (fun fin s' => ∃ v, fin = .done (.ret v) ∧ v = .notImplemented ∧ s' = s) E s) (h : Q .notImplemented s) : wpAny (model prog w) A (call (.builtin id) [b, .ref x]) Q E s := by
  apply wpAny_call
  apply codeAny_call_builtin slot.plain entry
  apply slot.check _ _ _ _ _ _ _ _ tb args
  refine wpAny_mono body ?_ fun _ _ z => z
  rintro _ _ ⟨_, rfl, rfl, rfl⟩
  exact h
/-- a number declines an object of the program's own -/
theorem num_add_declines {v : Value} {i : Int} (inst : InstAt s.heap x ox C od) (plain : ox.data = .plain) (self : asInt? v = pure (some i)) :
    wpAny (model prog w) A (Builtin.«int.__add__» ⟨[v, .ref x], []⟩) (fun fin s' => ∃ u, fin = .done (.ret u) ∧ u = .notImplemented ∧ s' = s) E s := by
  have at_ := inst.at_
  have me : Builtin.Int.intOfSelf v = pure i := by (unfold Builtin.Int.intOfSelf; rw [self]; rfl)
  delta Builtin.«int.__add__» Builtin.Int.intBinary
  refine wpAny_bind (wpAny_of_eq (a := (v, [Value.ref x])) (by first | rfl | (simp only [slotArgs]; rfl)) (wpAny_bind (wpAny_of_eq me ?_)))
  refine wpAny_bind (m := asInt? (.ref x)) ?_
  unfold asInt?
  refine wpAny_bind (wpAny_load at_ ?_)
  rw [plain]
  exact wpAny_pure (wpAny_bind (wpAny_rule (wpAny_pure ⟨_, rfl, rfl, rfl⟩)))
end
end PySem.W

namespace DL
open PySem PySem.Spec PyProof.Rows L2
open L2H (RoomH)
/-! ### operations on two values, perhaps with an error -/
abbrev DX2 := D → D → M → DK → DX → Prop
def OpX (X : Cx) (G : CT) (W : WX) (f : Value → Value → Sem Value) (r : DX2) : Prop :=
  ∀ (pins : List (Addr × Obj)) (s : Shared) (σ : L2.St) (H : Hp) (x y : V) (v u : Value) (Q : VK) (F R : Hp) (m : M) (dx dy : D) (Q0 : DK) (x0 : DX), Inv X pins σ H s → RelV x v → RelV y u → Hst G F R H m → Rep G F x dx → Rep G F y dy → r dx dy m Q0 x0 →
    (∀ d m' F' v H', Q0 d m' → Le F F' → Hst G F' R H' m' → Rep G F' v d → Q v H') → (∀ c ys m' F' d H', x0 c ys m' → Le F F' → Hst G F' R H' m' → XD G F' H' c d ys → W (.ref (G c).addr) d σ H') →
    wpAny (model X.prog X.w) X.A (f v u) (EP X pins σ Q) X.xe  s
def xD (r : DX2) (ta tb : DTE) : DTE := fun x ds m Q => ta x ds m fun p m1 => tb x ds m1 fun q m2 => r p q m2 Q (x ds)
section
variable {X : Cx} {G : CT} {W : WX} {hot grd : Bool} {k c : Nat} {f : Addr} {fd : FuncData} {ps : List Str} {sp : DSp} {pos : Pos} {a b e : Expr} {ta tb tc te : DTE}
theorem OpD.x {f : Value → Value → Sem Value} {r : DR2} (h : OpD X G f r) : OpX X G W f (fun p q m Q _ => r p q m Q) := fun pins s σ H x y v u Q F R m dx dy Q0 x0 I rx ry st px py q kq kx =>
  h pins s σ H x y v u Q I rx ry ⟨F, R, m, dx, dy, Q0, st, px, py, q, kq⟩
theorem x_run {f : Value → Value → Sem Value} {r : DX2} (ho : OpX X G W f r) (ha : DE X G W a ta) (hb : DE X G W b tb) {pins : List (Addr × Obj)} {s : Shared} {σ : L2.St} {H : Hp} {Q : VK} (I : Inv X pins σ H s) (h : lE G W (xD r ta tb) σ H Q) :
    wpAny (model X.prog X.w) X.A (eval a X.env) (fun v s₁ => wpAny (model X.prog X.w) X.A (eval b X.env) (fun u s₂ => wpAny (model X.prog X.w) X.A (f v u) (EP X pins σ Q) X.xe s₂) X.xe s₁) X.xe s := by
  obtain ⟨F, R, m, ds, Q0, xx, st, sl, h, xk, kk⟩ := h
  refine binT (R := fun x y H2 => ∃ F2 m2 dx dy, Le F F2 ∧ Hst G F2 R H2 m2 ∧ Rep G F2 x dx ∧ Rep G F2 y dy ∧ r dx dy m2 Q0 (xx ds)) ha hb I ?_ fun v u s2 x y H2 I2 rx ry ⟨F2, m2, dx, dy, l2, s2', px, py, q⟩ => ?_
  · refine ⟨F, R, m, ds, _, xx, st, sl, h, xk, fun p m1 F1 v H1 h1 l1 s1 r1 => ?_⟩
    exact ⟨F1, R, m1, ds, _, xx, s1, sl.le l1, h1, xk.le l1, fun q m2 F2 u H2 h2 l2 s2 r2 => ⟨F2, m2, p, q, l1.trans l2, s2, r1.le l2, r2, h2⟩⟩
  · exact ho pins s2 σ H2 x y v u Q F2 R m2 dx dy Q0 _ I2 rx ry s2' px py q (fun d m' F' v H' q' l' => kk d m' F' v H' q' (l2.trans l')) fun c ys m' F' d H' q' l' s' xd => xk ds c ys m' F' σ d H' q' (l2.trans l') s' (sl.le (l2.trans l')) xd
theorem de_opX {op : Operator} {r : DX2} (ho : OpX X G W (binaryOp op) r) (ha : DE X G W a ta) (hb : DE X G W b tb) : DE X G W (.BinOp a op b pos) (xD r ta tb) :=
  ⟨fun pins s σ H Q I h => wpAny_BinOp (x_run ho ha hb I h)⟩
theorem de_cmpX {op : CmpOp} {r : DX2} (ho : OpX X G W (compareOp op) r) (ha : DE X G W a ta) (hb : DE X G W b tb) (hm : behindInMarks op b = false) : DE X G W (.Compare a [op] [b] pos) (xD r ta tb) :=
  ⟨fun pins s σ H Q I h => wpAny_Compare1 (x_run ho ha hb I h) hm⟩
theorem dt_cmpX {op : CmpOp} {r : DX2} (ho : OpX X G W (compareOp op) r) (ha : DE X G W a ta) (hb : DE X G W b tb) (hm : behindInMarks op b = false) : DT X G W (.Compare a [op] [b] pos) (tB (xD r ta tb)) := by
  constructor
  intro pins s σ H Q I h
  have hw : lE G W (xD r ta tb) σ H (fun v H' => ∃ k, v = .bl k ∧ Q k H') := by
    obtain ⟨F, R, m, ds, Q0, x, st, sl, h, xk, kk⟩ := h
    refine ⟨F, R, m, ds, _, x, st, sl, h, xk, fun d m1 F1 v H1 ⟨b, e, h1⟩ l1 s1 r1 => ?_⟩
    subst e
    cases r1
    exact ⟨b, rfl, kk b m1 F1 H1 h1 l1 s1⟩
  refine wpAny_isTrue_Compare1 (thn (x_run ho ha hb I hw) fun v s1 hv => thn hv fun u s2 hu => thn hu fun c s3 ⟨z, H3, I3, r3, k, e, q3⟩ => ?_) hm
  subst e
  cases r3
  exact wpAny_truthy_bool (⟨H3, I3, q3⟩)
/-! a op1 b op2 c -/
theorem de_chain {op op' : CmpOp} {r r' : DR2} (ho : OpD X G (compareOp op) r) (ho' : OpD X G (compareOp op') r') (ha : DE X G W a ta) (hb : DE X G W b tb) (hc : DE X G W e tc)
    (hm : lastMarks [op, op'] [b, e] = false := by with_unfolding_all rfl) : DE X G W (.Compare a [op, op'] [b, e] pos) (eChain r r' ta tb tc) := (pe_chain ho ho' ha hb hc hm).imp fun σ H Q ⟨F, R, m, ds, Q0, x, st, sl, h, xk, kk⟩ => by
  refine ⟨F, R, m, ds, _, x, st, sl, h, xk, fun p m1 F1 v H1 h1 l1 s1 r1 => ?_⟩
  refine ⟨F1, R, m1, ds, _, x, s1, sl.le l1, h1, xk.le l1, fun q m2 F2 u H2 h2 l2 s2 r2 => ?_⟩
  refine ⟨F2, R, m2, p, q, _, s2, r1.le l2, r2, h2, fun d m3 F3 v3 H3 ⟨b, e, h3⟩ l3 s3 r3 => ?_⟩
  subst e
  cases r3
  refine ⟨b, rfl, ?_⟩
  cases b with
  | false => exact kk _ _ _ _ _ h3 ((l1.trans l2).trans l3) s3 (.bl false)
  | true =>
    refine ⟨F3, R, m3, ds, _, x, s3, sl.le ((l1.trans l2).trans l3), h3, xk.le ((l1.trans l2).trans l3), fun y m4 F4 w4 H4 h4 l4 s4 r4 => ?_⟩
    exact ⟨F4, R, m4, q, y, Q0, s4, r2.le (l3.trans l4), r4, h4, fun d m' F' v' H' hq l st' rp => kk d m' F' v' H' hq ((((l1.trans l2).trans l3).trans l4).trans l) st' rp⟩
/-! own methods behind operators -/
theorem cmpBack {pins : List (Addr × Obj)} {σ : L2.St} {Q : VK} {u : Value} {s : Shared} (h : EP X pins σ Q u s) : PySem.W.CmpBack (EP X pins σ Q) u s := by
  obtain ⟨v, H, I, r, q⟩ := id h
  cases u <;> first | exact h | (exfalso; cases v <;> first | (cases (show _ = _ from r)) | (obtain ⟨_, z⟩ := (show ∃ t, _ = _ from r); cases z))
theorem run_sp {pins : List (Addr × Obj)} {s : Shared} {σ : L2.St} {H : Hp} {vs : List V} {us : List Value} {Q : VK} {F0 R : Hp} {m : M} {xs : List D} {Q0 : DK} {x0 : DX} {A : Around} (F : FnG hot grd X.prog X.w X.K X.mg X.base k f fd ps (spL G sp)) (hr : Rm hot grd k A) (fr : A.frames = X.A.frames) (hb : Binds X.K fd ps []) (tk : Takes X W) (I : Inv X pins σ H s) (r : Vals vs us)
    (st : Hst G F0 R H m) (rp : Reps G F0 vs xs) (q : sp xs m Q0 x0) (kq : ∀ d m' F' v H', Q0 d m' → Le F0 F' → Hst G F' R H' m' → Rep G F' v d → Q v H') (kx : ∀ c ys m' F' d H', x0 c ys m' → Le F0 F' → Hst G F' R H' m' → XD G F' H' c d ys → W (.ref (G c).addr) d σ H') :
    wpAny (model X.prog X.w) A (call (.ref f) us) (EP X pins σ Q) X.xe s := run_G1 F hr fr hb tk I r ⟨F0, R, m, xs, Q0, x0, st, rp, q, kq, kx⟩
theorem refV {a : Addr} : RelV (.ref a) (.ref a) := rfl
theorem _root_.DL.Rm.u0 {A : Around} (r : Rm hot grd k A) : A.units < cLine := by
  have h := r.room.un
  omega
structure Own (K : PySem.W.Frag) (C : Addr) (n : Str) (f : Addr) : Prop where
  (at_ : PySem.W.findIn K (.ref C) n = some (some (.ref f))) (fn : PySem.W.isFn K (.ref f) = true)
/-- both of the one class -/
def rSame (c : Nat) (sp : DSp) : DX2 := fun p q m Q x => (∃ xs, p = .ob c xs) ∧ (∃ ys, q = .ob c ys) ∧ sp [p, q] m Q x
theorem ox_same {op : Operator} (hO : Own X.K (G c).addr (PySem.dunder op.info.2) f) (hc : PySem.W.selfFirst X.K (G c).addr = true) (F : FnG hot grd X.prog X.w X.K X.mg X.base k f fd ps (spL G sp)) (hr : Rm hot grd k X.A) (hb : Binds X.K fd ps []) (tk : Takes X W) : OpX X G W (binaryOp op) (rSame c sp) := by
  rintro pins s σ H x y v u Q F0 R m dx dy Q0 x0 I rx ry st px py ⟨⟨xs, rfl⟩, ⟨ys, rfl⟩, q⟩ kq kx
  have px' := px
  have py' := py
  cases px with
  | @ob a dx _ fs _ hh ee rr =>
    cases py with
    | @ob a' dx' _ fs' _ hh' ee' rr' =>
      cases (show v = (Value.ref a) from rx)
      cases (show u = Value.ref a' from ry)
      obtain ⟨mA, O, _⟩ := ins_get I.hok (st.fz _ _ hh)
      obtain ⟨mB, O', _⟩ := ins_get I.hok (st.fz _ _ hh')
      obtain ⟨od, J, _⟩ := O.look
      obtain ⟨od', J', _⟩ := O'.look
      obtain ⟨m0, hF⟩ := I.fr
      refine PySem.W.binop_K (op := op) hF I.ok.mod.kin J J'.type hc hO.at_ hO.fn (wpAny_mono (run_sp F hr rfl hb tk I (.cons refV (.cons refV .nil)) st (.cons px' (.cons py' .nil)) q kq kx) (fun r s' hq => cmpBack hq) fun _ _ e => e)
/-- a whole number at the right -/
def rInt (c : Nat) (sp : DSp) : DX2 := fun p q m Q x => (∃ xs, p = .ob c xs) ∧ (∃ i, q = .int i) ∧ sp [p, q] m Q x
structure OwnI (K : PySem.W.Frag) (C : Addr) (op : Operator) : Prop where
  r : ∃ rc, PySem.W.findIn K (.ref C) (dunderR op.info.2) = some rc ∧ (rc = none ∨ ∃ g : Addr, rc = some (.ref g))
  i : ∃ fo ro, PySem.W.findIn K (.type "int") (PySem.dunder op.info.2) = some fo ∧ PySem.W.findIn K (.type "int") (dunderR op.info.2) = some ro
  s : PySem.W.subIn K (.type "int") (.ref C) = some false
theorem ox_int {op : Operator} (hO : Own X.K (G c).addr (PySem.dunder op.info.2) f) (hc : PySem.W.selfFirst X.K (G c).addr = true) (hI : OwnI X.K (G c).addr op) (F : FnG hot grd X.prog X.w X.K X.mg X.base k f fd ps (spL G sp)) (hr : Rm hot grd k X.A) (hb : Binds X.K fd ps []) (tk : Takes X W) : OpX X G W (binaryOp op) (rInt c sp) := by
  rintro pins s σ H x y v u Q F0 R m dx dy Q0 x0 I rx ry st px py ⟨⟨xs, rfl⟩, ⟨i, rfl⟩, q⟩ kq kx
  have px' := px
  cases px with
  | @ob a dx _ fs _ hh ee rr =>
    cases py
    cases (show v = (Value.ref a) from rx)
    obtain ⟨t, rfl⟩ := (show ∃ tk, u = Value.int i tk from ry)
    obtain ⟨mA, O, _⟩ := ins_get I.hok (st.fz _ _ hh)
    obtain ⟨od, J, _⟩ := O.look
    obtain ⟨m0, hF⟩ := I.fr
    obtain ⟨rc, h1, h2⟩ := hI.r
    obtain ⟨fo, ro, h3, h4⟩ := hI.i
    refine PySem.W.ksp_binT (T := "int") hF I.ok.mod.kin J rfl hc hO.at_ hO.fn h1 h2 h3 h4 hI.s (wpAny_mono (run_sp F hr rfl hb tk I (.cons refV (.cons ry .nil)) st (.cons px' (.cons (.int i) .nil)) q kq kx) (fun r s' hq => cmpBack hq) fun _ _ e => e)
/-- a whole number at the left of + -/
def rIntL (c : Nat) (sp : DSp) : DX2 := fun p q m Q x => (∃ i, p = .int i) ∧ (∃ ys, q = .ob c ys) ∧ sp [q, p] m Q x
theorem ox_radd {fp : Addr} (hP : PySem.W.findIn X.K (.ref (G c).addr) (PySem.dunder "add") = some (some (.ref fp))) (hO : Own X.K (G c).addr (dunderR "add") f) (hc : PySem.W.selfFirst X.K (G c).addr = true) (hi : PySem.W.subIn X.K (.ref (G c).addr) (.type "int") = some false)
    (F : FnG hot grd X.prog X.w X.K X.mg X.base k f fd ps (spL G sp)) (hr : Rm hot grd k X.A) (hb : Binds X.K fd ps []) (tk : Takes X W) : OpX X G W (binaryOp .Add) (rIntL c sp) := by
  rintro pins s σ H x y v u Q F0 R m dx dy Q0 x0 I rx ry st px py ⟨⟨i, rfl⟩, ⟨ys, rfl⟩, q⟩ kq kx
  have py' := py
  cases py with
  | @ob a dx _ fs _ hh ee rr =>
    cases px
    cases (show u = (Value.ref a) from ry)
    obtain ⟨t, rfl⟩ := (show ∃ t, v = Value.int i t from rx)
    obtain ⟨mA, O, _⟩ := ins_get I.hok (st.fz _ _ hh)
    obtain ⟨od, J, _⟩ := O.look
    have ans := wpAny_mono (run_sp (Q := Q) (pins := pins) F hr rfl hb tk I (.cons refV (.cons rx .nil)) st (.cons py' (.cons (.int i) .nil)) q kq kx) (fun r s' hq => cmpBack hq) fun _ _ e => e
    have self : asInt? (Value.int i t) = pure (some i) := rfl
    apply PySem.W.add_right (T := "int") (l := true) I.kIn J (PySem.typeIs_int s i t) PySem.F.fills_int_add hc hP hO.at_ hO.fn hi (fun _ R hR => ?_) ans
    have body := PySem.W.num_add_declines (prog := X.prog) (w := X.w) (A := X.A.in1) (E := X.xe) J (ox := _) rfl self
    apply wpAny_tryMethod_declines (PySem.typeIs_int s i t) PySem.F.slot_int_add
    exact PySem.W.declines_by PySem.F.slot_int_add (PySem.typeIs_int s i t) PySem.F.entry_int_add (PySem.F.args_int_add_2 _ _) body ⟨rfl, hR⟩
/-! comparisons of two of the class -/
theorem ox_cmp {op : CmpOp} (ho : op = .Lt ∨ op = .LtE ∨ op = .Gt ∨ op = .GtE ∨ op = .Eq) (hO : Own X.K (G c).addr (cmpInfo op).2.1 f) (F : FnG hot grd X.prog X.w X.K X.mg X.base k f fd ps (spL G sp)) (hr : Rm hot grd k X.A) (hb : Binds X.K fd ps []) (tk : Takes X W) : OpX X G W (compareOp op) (rSame c sp) := by
  rintro pins s σ H x y v u Q F0 R m dx dy Q0 x0 I rx ry st px py ⟨⟨xs, rfl⟩, ⟨ys, rfl⟩, q⟩ kq kx
  have px' := px
  have py' := py
  cases px with
  | @ob a dx _ fs _ hh ee rr =>
    cases py with
    | @ob a' dx' _ fs' _ hh' ee' rr' =>
      cases (show v = (Value.ref a) from rx)
      cases (show u = Value.ref a' from ry)
      obtain ⟨mA, O, _⟩ := ins_get I.hok (st.fz _ _ hh)
      obtain ⟨mB, O', _⟩ := ins_get I.hok (st.fz _ _ hh')
      obtain ⟨od, J, _⟩ := O.look
      obtain ⟨od', J', _⟩ := O'.look
      obtain ⟨m0, hF⟩ := I.fr
      have hc : compareOp op = richCompare op := by rcases ho with rfl | rfl | rfl | rfl | rfl <;> rfl
      rw [hc]
      exact PySem.W.cmp_K (op := op) (tb := .ref (G c).addr) hr.u0 hF I.ok.mod.kin J J'.type (by simp [PySem.W.notFirst]) hO.at_ hO.fn (wpAny_mono (run_sp F hr rfl hb tk I (.cons refV (.cons refV .nil)) st (.cons px' (.cons py' .nil)) q kq kx) (fun r s' hq => cmpBack hq) fun _ _ e => e)
/-- the answer turned about -/
def rNe (c : Nat) (sp : DSp) : DX2 := fun p q m Q x => (∃ xs, p = .ob c xs) ∧ (∃ ys, q = .ob c ys) ∧ sp [p, q] m (fun d m' => isB d m' fun b m' => Q (.bl (!b)) m') x
theorem ox_ne (hN : PySem.W.findIn X.K (.ref (G c).addr) "__ne__" = some (some (.builtin "object.__ne__"))) (hO : Own X.K (G c).addr "__eq__" f) (hB : PySem.W.subIn X.K (.ref (G c).addr) (.type "object") = some true)
    (F : FnG hot grd X.prog X.w X.K X.mg X.base k f fd ps (spL G sp)) (hr : Rm hot grd (k + 1) X.A) (hb : Binds X.K fd ps []) (tk : Takes X W) : OpX X G W (compareOp .NotEq) (rNe c sp) := by
  rintro pins s σ H x y v u Q F0 R m dx dy Q0 x0 I rx ry st px py ⟨⟨xs, rfl⟩, ⟨ys, rfl⟩, q⟩ kq kx
  have px' := px
  have py' := py
  cases px with
  | @ob a dx _ fs _ hh ee rr =>
    cases py with
    | @ob a' dx' _ fs' _ hh' ee' rr' =>
      cases (show v = (Value.ref a) from rx)
      cases (show u = Value.ref a' from ry)
      obtain ⟨mA, O, _⟩ := ins_get I.hok (st.fz _ _ hh)
      obtain ⟨mB, O', _⟩ := ins_get I.hok (st.fz _ _ hh')
      obtain ⟨od, J, _⟩ := O.look
      obtain ⟨od', J', _⟩ := O'.look
      refine PySem.W.cmp_left (op := .NotEq) (tb := .ref (G c).addr) hr.u0 I.kIn J J'.type (by simp [PySem.W.notFirst]) (PySem.W.try_ne hr.in1.u0 I.kIn J hN hO.at_ hO.fn hB (wpAny_mono (run_sp (Q := fun w H' => ∃ k, w = .bl k ∧ Q (.bl (!k)) H') F hr.in1 rfl hb tk I (.cons refV (.cons refV .nil)) st (.cons px' (.cons py' .nil)) q ?_ kx) ?_ fun _ _ e => e))
      · rintro d m' F' w H' ⟨b, rfl, h⟩ l s' r
        cases r
        exact ⟨b, rfl, kq _ _ _ _ _ h l s' (.bl _)⟩
      · rintro r s' ⟨w, H', I', rw_, b, rfl, h⟩
        cases rw_
        exact ⟨b, rfl, .bl (!b), H', I', (rfl : RelV (.bl (!b)) (.bool (!b))), h⟩
/-- v in x by the own __contains__ -/
def rIn (c : Nat) (sp : DSp) : DX2 := fun p q m Q x => (∃ ys, q = .ob c ys) ∧ sp [q, p] m (fun d m' => isB d m' fun b m' => Q (.bl b) m') x
theorem ox_in (hO : Own X.K (G c).addr "__contains__" f) (F : FnG hot grd X.prog X.w X.K X.mg X.base k f fd ps (spL G sp)) (hr : Rm hot grd k X.A) (hb : Binds X.K fd ps []) (tk : Takes X W) : OpX X G W (compareOp .In) (rIn c sp) := by
  rintro pins s σ H x y v u Q F0 R m dx dy Q0 x0 I rx ry st px py ⟨⟨ys, rfl⟩, q⟩ kq kx
  have py' := py
  cases py with
  | @ob a' dx' _ fs' _ hh' ee' rr' =>
    cases (show u = Value.ref a' from ry)
    obtain ⟨mB, O', _⟩ := ins_get I.hok (st.fz _ _ hh')
    obtain ⟨od', J', _⟩ := O'.look
    obtain ⟨m0, hF⟩ := I.fr
    refine PySem.W.in_K hF I.ok.mod.kin J' hO.at_ hO.fn (wpAny_mono (run_sp (Q := fun w H' => ∃ k, w = .bl k ∧ Q (.bl k) H') F hr rfl hb tk I (.cons refV (.cons rx .nil)) st (.cons py' (.cons px .nil)) q ?_ kx) ?_ fun _ _ e => e)
    · rintro d m' F' w H' ⟨b, rfl, h⟩ l s' r
      cases r
      exact ⟨b, rfl, kq _ _ _ _ _ h l s' (.bl _)⟩
    · rintro r s' ⟨w, H', I', rw_, b, rfl, h⟩
      cases rw_
      exact wpAny_truthy_bool ⟨.bl b, H', I', (rfl : RelV (.bl b) (.bool b)), h⟩
/-- -x by the own __neg__ -/
def eNegO (c : Nat) (sp : DSp) (ta : DTE) : DTE := fun x ds m Q => ta x ds m fun p m1 => (∃ xs, p = .ob c xs) ∧ sp [p] m1 Q (x ds)
theorem de_negO (hO : Own X.K (G c).addr "__neg__" f) (F : FnG hot grd X.prog X.w X.K X.mg X.base k f fd ps (spL G sp)) (hr : Rm hot grd k X.A) (hb : Binds X.K fd ps []) (tk : Takes X W) (ha : DE X G W a ta) : DE X G W (.UnaryOp .USub a pos) (eNegO c sp ta) := by
  refine ⟨fun pins s σ H Q I ⟨F0, R, m, ds, Q0, xx, st, sl, h, xk, kk⟩ => ?_⟩
  refine UnaryOp_ (thn (ha.run pins s σ H (fun v H1 => ∃ F1 m1 d, Le F0 F1 ∧ Hst G F1 R H1 m1 ∧ Rep G F1 v d ∧ (∃ xs, d = .ob c xs) ∧ sp [d] m1 Q0 (xx ds)) I ⟨F0, R, m, ds, _, xx, st, sl, h, xk, fun d m1 F1 v H1 h1 l1 s1 r1 => ⟨F1, m1, d, l1, s1, r1, h1⟩⟩) fun u s1 ⟨v, H1, I1, rx, F1, m1, d, l1, s1', r1, ⟨xs, e⟩, q⟩ => ?_)
  subst e
  have r1' := r1
  cases r1 with
  | @ob a' dx' _ fs' _ hh' ee' rr' =>
    cases (show u = Value.ref a' from rx)
    obtain ⟨mB, O', _⟩ := ins_get I1.hok (s1'.fz _ _ hh')
    obtain ⟨od', J', _⟩ := O'.look
    obtain ⟨m0, hF⟩ := I1.fr
    refine PySem.W.ksp_neg hF I1.ok.mod.kin J' hO.at_ hO.fn (run_sp F hr rfl hb tk I1 (.cons refV .nil) s1' (.cons r1' .nil) q (fun d m' F' v H' q' l' => kk d m' F' v H' q' (l1.trans l')) fun c ys m' F' d H' q' l' s' xd => xk ds c ys m' F' σ d H' q' (l1.trans l') s' (sl.le (l1.trans l')) xd)
end
end DL

namespace DL
open PySem PySem.Spec PyProof.Rows L2
open L2H (RoomH)
/-! ### texts of data -/
/-- no more than n signs, none too great -/
structure Sh (n : Nat) (x : Str) : Prop where
  len : x.length ≤ n
  cps : ∀ c ∈ x.cps.toList, c < 16 ^ 8
theorem Sh.mono {n k : Nat} {x : Str} (h : Sh n x) (l : n ≤ k) : Sh k x := ⟨Nat.le_trans h.len l, h.cps⟩
theorem Sh.app {n k : Nat} {x y : Str} (h : Sh n x) (g : Sh k y) : Sh (n + k) (x ++ y) := ⟨by rw [strLen_append]; have := h.len; have := g.len; omega, fun c hc => by
  have e : (x ++ y).cps.toList = x.cps.toList ++ y.cps.toList := by
    show (x.cps ++ y.cps).toList = _
    rw [Array.toList_append]
  rw [e] at hc
  rcases List.mem_append.mp hc with q | q
  · exact h.cps c q
  · exact g.cps c q⟩
theorem Sh.lit {n : Nat} {x : Str} (h : (decide (x.length ≤ n) && x.cps.toList.all fun c => decide (c < 16 ^ 8)) = true) : Sh n x := by
  obtain ⟨h1, h2⟩ := Bool.and_eq_true_iff.mp h
  exact ⟨of_decide_eq_true h1, fun c hc => of_decide_eq_true (List.all_eq_true.mp h2 c hc)⟩
theorem Sh.of {n : Nat} {s : String} (h : s.length ≤ n) : Sh n (Str.ofString s) := by
  refine ⟨by rw [PySem.ofString_length]; exact h, fun c hc => ?_⟩
  rw [Str.ofString_eq_toList] at hc
  have e : ((⟨(s.toList.map Char.toNat).toArray⟩ : Str)).cps.toList = s.toList.map Char.toNat := by first | rfl | simp
  rw [e] at hc
  obtain ⟨ch, _, rfl⟩ := List.mem_map.mp hc
  have : ch.val.toNat < 2 ^ 32 := ch.val.toNat_lt
  exact Nat.lt_of_lt_of_le this (by decide)
theorem istr_len {i : Int} (h : Few i) : (toString i).length ≤ 1901 := by
  have e := int_text_length_le (a := i) (k := 1900) (by decide) (PySem.Flt.log2_lt_of (n := i.natAbs) (k := 1900) (by decide) h)
  exact e
theorem Sh.istr {i : Int} (h : Few i) : Sh 1901 (istr i) := Sh.of (istr_len h)
/-- how it is shown -/
def shD (d : D) : Str := (pyD d).shown
mutual
theorem plain_noDict : ∀ d : D, (pyD d).hasDict = false
  | .non | .bl _ | .int _ | .str _ | .ty _ | .ref _ | .dic _ | .ob _ _ | .exc _ _ _ _ | .fn _ _ _ _ _ => by simp only [pyD, PyData.hasDict]
  | .tup xs | .lst xs | .scr xs => by simp only [pyD, PyData.hasDict]; exact plain_noDicts xs
theorem plain_noDicts : ∀ xs : List D, PyData.hasDictAll (pysD xs) = false
  | [] => by simp only [pysD, PyData.hasDictAll]
  | x :: xs => by simp only [pysD, PyData.hasDictAll, plain_noDict x, plain_noDicts xs, Bool.or_self]
end
/-- it can be shown, in n signs, k deep -/
structure RO (k n : Nat) (d : D) : Prop where
  pl : pln d = true
  sh : (pyD d).showable = true
  dp : (pyD d).depth ≤ k
  len : (shD d).length ≤ n
structure ROs (k n : Nat) (ds : List D) : Prop where
  pl : plns ds = true
  sh : PyData.showableAll (pysD ds) = true
  dp : PyData.depthAll (pysD ds) ≤ k
  len : piled (PyData.shownAll (pysD ds)) ≤ n
theorem RO.mono {k k' n n' : Nat} {d : D} (h : RO k n d) (a : k ≤ k') (b : n ≤ n') : RO k' n' d := ⟨h.pl, h.sh, Nat.le_trans h.dp a, Nat.le_trans h.len b⟩
theorem RO.non : RO 0 4 .non := ⟨rfl, rfl, by simp [pyD, PyData.depth], by simp only [shD, pyD, PyData.shown]; decide⟩
theorem RO.bl (b : Bool) : RO 0 5 (.bl b) := ⟨rfl, rfl, by simp [pyD, PyData.depth], by cases b <;> (simp only [shD, pyD, PyData.shown]; decide)⟩
theorem RO.int {i : Int} (h : Few i) : RO 0 1901 (.int i) := ⟨rfl, by simp only [pyD, PyData.showable]; exact decide_eq_true (few_log h), by simp [pyD, PyData.depth], by
  simp only [shD, pyD, PyData.shown]
  exact (Sh.istr h).len⟩
theorem RO.str {n : Nat} {x : Str} (h : Sh n x) : RO 0 (10 * n + 2) (.str x) := ⟨rfl, rfl, by simp [pyD, PyData.depth], by
  simp only [shD, pyD, PyData.shown]
  have := StrLaws.reprText_len x h.cps
  have := h.len
  omega⟩
theorem ROs.nil {k : Nat} : ROs k 0 [] := ⟨rfl, rfl, by simp [pysD, PyData.depthAll], by simp [pysD, PyData.shownAll, piled]⟩
theorem ROs.cons {k n n' : Nat} {d : D} {ds : List D} (h : RO k n d) (r : ROs k n' ds) : ROs k (n + 2 + n') (d :: ds) := ⟨by simp only [plns, h.pl, r.pl, Bool.and_self], by simp only [pysD, PyData.showableAll, h.sh, r.sh, Bool.and_self],
  by simp only [pysD, PyData.depthAll]; have := h.dp; have := r.dp; omega, by
    simp only [pysD, PyData.shownAll, piled_cons]
    have h1 := h.len
    have h2 := r.len
    unfold shD at h1
    omega⟩
theorem ROs.all {k n : Nat} : ∀ {ds : List D}, (∀ d ∈ ds, RO k n d) → ROs k ((n + 2) * ds.length) ds
  | [], _ => ROs.nil
  | d :: ds, h => by
    have h1 := ROs.cons (h d (List.mem_cons_self ..)) (ROs.all fun x hx => h x (List.mem_cons_of_mem _ hx))
    have e : n + 2 + (n + 2) * ds.length = (n + 2) * (d :: ds).length := by simp [Nat.mul_add, Nat.add_comm]
    rw [e] at h1
    exact h1
theorem listText_le (ts : List Str) : (listText ts).length ≤ piled ts + 2 := by
  unfold listText
  rw [strLen_append]
  have e1 : (("]" : String) : Str).length = 1 := rfl
  rw [e1]
  cases ts with
  | nil => show (("[" : String) : Str).length + 1 ≤ _; decide
  | cons t r =>
    show (textFrom 1 (("[" : Str) ++ (if 0 > 0 then ", " else "" : String) ++ t) r).length + 1 ≤ _
    rw [textFrom_length_pos r 1 _ Nat.one_pos, strLen_append, strLen_append, piled_cons]
    have e2 : (("[" : String) : Str).length = 1 := rfl
    have e3 : ((if 0 > 0 then ", " else "" : String) : Str).length = 0 := rfl
    rw [e2, e3]
    omega
theorem tupleText_le (ts : List Str) : (tupleText ts).length ≤ piled ts + 3 := by
  unfold tupleText
  have e1 : ((("(" : String) : Str)).length = 1 := rfl
  simp only [strLen_append]
  have e3 : (((if ts.length == 1 then ",)" else ")" : String) : Str)).length ≤ 2 := by split <;> decide
  rw [e1]
  by_cases h : ts = []
  · subst h
    have e4 : (Str.join ", " []).length = 0 := rfl
    rw [e4]
    have e5 : piled [] = 0 := rfl
    rw [e5]
    omega
  · exact (by have joined := join_length_add ts h; omega)
theorem RO.lst {k n : Nat} {ds : List D} (h : ROs k n ds) : RO (k + 1) (n + 3) (.lst ds) := ⟨h.pl, by simp only [pyD, PyData.showable]; exact h.sh, by simp only [pyD, PyData.depth]; have := h.dp; omega, by
  simp only [shD, pyD, PyData.shown]
  have := listText_le (PyData.shownAll (pysD ds))
  have := h.len
  omega⟩
theorem RO.tup {k n : Nat} {ds : List D} (h : ROs k n ds) : RO (k + 1) (n + 3) (.tup ds) := ⟨h.pl, by simp only [pyD, PyData.showable]; exact h.sh, by simp only [pyD, PyData.depth]; have := h.dp; omega, by
  simp only [shD, pyD, PyData.shown]
  have := tupleText_le (PyData.shownAll (pysD ds))
  have := h.len
  omega⟩
/-- it can be shown -/
def okR (d : D) : Prop := ∃ k n, RO k n d ∧ k ≤ 90 ∧ n ≤ 2 ^ 24
theorem okR.of {k n : Nat} {d : D} (h : RO k n d) (hk : k ≤ 90 := by decide) (hn : n ≤ 2 ^ 24 := by decide) : okR d := ⟨k, n, h, hk, hn⟩
section
variable {X : Cx} {G : CT} {W : WX} {hot grd : Bool} {k c : Nat} {f : Addr} {fd : FuncData} {ps : List Str} {sp : DSp} {pos : Pos} {a b e : Expr} {ta tb tc te : DTE}
def repD : DR := fun xs m Q => match xs with
  | [x] => okR x ∧ Q (.str (shD x)) m
  | _ => False
theorem cd_repr (hr : Rm hot true k X.A) : CallD X G (.builtin "repr") repD := by
  rintro pins s σ H vs us Q I r ⟨F, R, m, xs, Q0, st, rr, h, kk⟩
  match xs, vs, us, r, rr, h with
  | [x], [v], [u], .cons rv .nil, .cons rx .nil, ⟨⟨kd, n, hx, hk, hn⟩, q⟩ =>
    have hsz : (pyD x).shown.length ≤ sizeLine := Nat.le_trans hx.len hn
    have key : ∀ (z : Str) (s' : Shared) (t : Tok), z = shD x → Inv X pins σ H s' → EP X pins σ Q (.str z t) s' := fun z s' t e I' => ⟨.str z, H, I', ⟨t, rfl⟩, by rw [e]; exact kk _ m F _ H q (Le.refl F) st (.str _)⟩
    have hp := dp_of (K := X.K) st.fz rx hx.pl
    have hu := hr.room.un
    have viaRef : ∀ aa, u = .ref aa → wpAny (model X.prog X.w) X.A (call (.builtin "repr") [u]) (EP X pins σ Q) X.xe s := fun aa e => by
      subst e
      obtain ⟨as, hr'⟩ := Dp.reads I (pyD x) v _ hp rv
      exact repr_of_reads' hr' hx.sh (PyData.noDict_hsm (plain_noDict x)) (hr.gd rfl) (by have := hx.dp; omega) (fun _ _ z => z) (fun h' u tk hk' => key _ _ _ rfl (I.kept hk')) hsz
    cases rx with
    | non => cases (show u = Value.none from rv); exact P.repr_of_none (key _ _ _ rfl (I.tok _))
    | bl b => cases (show u = Value.bool b from rv); exact P.repr_of_bool (key _ _ _ (by simp only [shD, pyD, PyData.shown]) (I.tok _))
    | int i =>
      obtain ⟨t, rfl⟩ := (show ∃ t, u = Value.int i t from rv)
      exact P.repr_of_int (by have := hx.sh; simp only [pyD, PyData.showable] at this; exact of_decide_eq_true this) (key _ _ _ (by simp only [shD, pyD, PyData.shown]) (I.tok _))
    | str y =>
      obtain ⟨t, rfl⟩ := (show ∃ t, u = Value.str y t from rv)
      exact P.repr_of_str (key _ _ _ (by simp only [shD, pyD, PyData.shown]) (I.tok _)) (by simp only [pyD, PyData.shown] at hsz; exact hsz)
    | tup h r => exact viaRef _ rv
    | lst h r => exact viaRef _ rv
    | lsz h r => exact viaRef _ rv
    | ty n => exact absurd hx.pl (by simp [pln])
    | ref n => exact absurd hx.pl (by simp [pln])
    | dic h e r => exact absurd hx.pl (by simp [pln])
    | ob h e r => exact absurd hx.pl (by simp [pln])
    | exc h e r => exact absurd hx.pl (by simp [pln])
    | fn h r => exact absurd hx.pl (by simp [pln])
/-! own texts -/
theorem strBack {pins : List (Addr × Obj)} {σ : L2.St} {Q : VK} {u : Value} {s : Shared} (h : EP X pins σ (fun v H' => ∃ y, v = .str y ∧ Q v H') u s) : PySem.W.StrBack (EP X pins σ Q) u s := by
  obtain ⟨v, H, I, r, y, rfl, q⟩ := h
  obtain ⟨t, rfl⟩ := (show ∃ t, u = Value.str y t from r)
  exact ⟨.str y, H, I, ⟨t, rfl⟩, q⟩
def txtO (c : Nat) (sp : DSp) : DR := fun xs m Q => match xs with
  | [x] => (∃ ys, x = .ob c ys) ∧ sp [x] m (fun d m' => ∃ y, d = .str y ∧ Q (.str y) m') (fun _ _ _ => False)
  | _ => False
theorem cd_reprO (hO : Own X.K (G c).addr "__repr__" f) (F : FnG hot grd X.prog X.w X.K X.mg X.base k f fd ps (spL G sp)) (hr : Rm hot grd (k + 1) X.A) (hb : Binds X.K fd ps []) : CallD X G (.builtin "repr") (txtO c sp) := by
  rintro pins s σ H vs us Q I r ⟨F0, R, m, xs, Q0, st, rr, h, kk⟩
  match xs, vs, us, r, rr, h with
  | [x], [v], [u], .cons rv .nil, .cons rx .nil, ⟨⟨ys, e⟩, q⟩ =>
    subst e
    have rx' := rx
    cases rx with
    | @ob a dx _ fs _ hh ee rr =>
      cases (show u = Value.ref a from rv)
      obtain ⟨mA, O, _⟩ := ins_get I.hok (st.fz _ _ hh)
      obtain ⟨od, J, _⟩ := O.look
      obtain ⟨m0, hF⟩ := I.fr
      refine PySem.W.repr_K hr.in1.u0 hF I.ok.mod.kin J hO.at_ hO.fn (wpAny_mono (run_G0 (Q := fun v H' => ∃ y, v = .str y ∧ Q v H') F hr.in1 rfl hb I (.cons refV .nil) (spL_of0 st (.cons rx' .nil) q ?_)) (fun r s' hq => strBack hq) fun _ _ e => e)
      rintro d m' F' w H' ⟨y, rfl, h⟩ l s' r
      cases r
      exact ⟨y, rfl, kk _ _ _ _ _ h l s' (.str _)⟩
theorem cd_strO (hO : Own X.K (G c).addr "__str__" f) (F : FnG hot grd X.prog X.w X.K X.mg X.base k f fd ps (spL G sp)) (hr : Rm hot grd (k + 2) X.A) (hb : Binds X.K fd ps []) : CallD X G (.type "str") (txtO c sp) := by
  rintro pins s σ H vs us Q I r ⟨F0, R, m, xs, Q0, st, rr, h, kk⟩
  match xs, vs, us, r, rr, h with
  | [x], [v], [u], .cons rv .nil, .cons rx .nil, ⟨⟨ys, e⟩, q⟩ =>
    subst e
    have rx' := rx
    cases rx with
    | @ob a dx _ fs _ hh ee rr =>
      cases (show u = Value.ref a from rv)
      obtain ⟨mA, O, _⟩ := ins_get I.hok (st.fz _ _ hh)
      obtain ⟨od, J, _⟩ := O.look
      refine PySem.W.kso_call hr.in1.in1.u0 I.kIn J hO.at_ hO.fn (wpAny_mono (run_G0 (Q := fun v H' => ∃ y, v = .str y ∧ Q v H') F hr.in1.in1 rfl hb I (.cons refV .nil) (spL_of0 st (.cons rx' .nil) q ?_)) (fun r s' hq => strBack hq) fun _ _ e => e)
      rintro d m' F' w H' ⟨y, rfl, h⟩ l s' r
      cases r
      exact ⟨y, rfl, kk _ _ _ _ _ h l s' (.str _)⟩
/-! f-strings -/
def eFmt (te : DTE) : DTE := fun x ds m Q => te x ds m fun d m1 => match d with
  | .str y => y.length ≤ sizeLine ∧ Q (.str y) m1
  | .int i => Few i ∧ Q (.str (istr i)) m1
  | _ => False
theorem de_fmt (he : DE X G W e te) : DE X G W (.FormattedValue e (-1) none pos) (eFmt te) := (pe_fmt he).imp fun σ H Q ⟨F, R, m, ds, Q0, x, st, sl, h, xk, kk⟩ => by
  refine ⟨F, R, m, ds, _, x, st, sl, h, xk, fun d m1 F1 v H1 q l1 s1 r1 => ?_⟩
  cases r1 <;> first | exact False.elim q | skip
  · exact .inr ⟨_, rfl, few_log q.1, kk _ _ _ _ _ q.2 l1 s1 (.str _)⟩
  · exact .inl ⟨_, rfl, q.1, kk _ _ _ _ _ q.2 l1 s1 (.str _)⟩
inductive DJ (X : Cx) (G : CT) (W : WX) : List Expr → List DTE → Prop where
  | nil : DJ X G W [] []
  | cons {e : Expr} {t : DTE} {es : List Expr} {ts : List DTE} (h : DE X G W e t) (r : DJ X G W es ts) : DJ X G W (e :: es) (t :: ts)
theorem DJ.pj : ∀ {es : List Expr} {ts : List DTE}, DJ X G W es ts → PJ X es (ts.map (lE G W))
  | _, _, .nil => .nil
  | _, _, .cons h r => .cons h r.pj
def eJs : List DTE → Str → DTE
  | [], acc => fun _ _ m Q => Q (.str acc) m
  | t :: ts, acc => fun x ds m Q => t x ds m fun d m1 => ∃ y, d = .str y ∧ (acc ++ y).length ≤ sizeLine ∧ eJs ts (acc ++ y) x ds m1 Q
theorem js_imp : ∀ (ts : List DTE) (acc : Str) {σ : L2.St} {H : Hp} {Q : VK}, lE G W (eJs ts acc) σ H Q → tJs (ts.map (lE G W)) acc σ H fun out H1 => Q (.str out) H1
  | [], acc, σ, H, Q, ⟨F, R, m, ds, Q0, x, st, sl, h, xk, kk⟩ => kk _ _ F _ _ h (Le.refl F) st (.str _)
  | t :: ts, acc, σ, H, Q, ⟨F, R, m, ds, Q0, x, st, sl, h, xk, kk⟩ => by
    refine ⟨F, R, m, ds, _, x, st, sl, h, xk, fun d m1 F1 v H1 ⟨y, e, hl, q⟩ l1 s1 r1 => ?_⟩
    subst e
    cases r1
    exact ⟨y, rfl, hl, js_imp ts (acc ++ y) ⟨F1, R, m1, ds, Q0, x, s1, sl.le l1, q, xk.le l1, fun d m' F' v' H' hq l st' rp => kk d m' F' v' H' hq (l1.trans l) st' rp⟩⟩
theorem de_joined {v1 v2 : Expr} {rest : List Expr} {ts : List DTE} (h : DJ X G W (v1 :: v2 :: rest) ts) : DE X G W (.JoinedStr (v1 :: v2 :: rest) pos) (eJs ts Str.empty) := (pe_joined h.pj).imp fun σ H Q hh => js_imp ts Str.empty hh
/-! isinstance -/
structure IsC (K : PySem.W.Frag) (C : Addr) : Prop where
  cl : Cls K C
  (ha : PySem.W.findIn K (.ref C) "__class__" = some (some (.builtin "object.__class__"))) (hn : PySem.W.specialIn K (.builtin "object.__class__") "__get__" = some (some (.builtin "getset_descriptor.__get__"))) (ht : PySem.W.takesIn K (.builtin "object.__class__") = some true) (hm : PySem.W.mroIn K C (.type "object") = some true)
def tyD (G : CT) : D → Option Value
  | .non => some (.type "NoneType")
  | .bl _ => some (.type "bool")
  | .int _ => some (.type "int")
  | .str _ => some (.type "str")
  | .tup _ => some (.type "tuple")
  | .lst _ | .scr _ => some (.type "list")
  | .dic _ => some (.type "dict")
  | .ob c _ => some (.ref (G c).addr)
  | _ => none
def clD : D → Option Value
  | .ty n => some (.type n)
  | .ref a => some (.ref a)
  | _ => none
theorem ty_of {K : PySem.W.Frag} {F H : Hp} {v : V} {x : D} {t : Value} (fz : ∀ a o, F a = some o → H a = some o) (r : Rep G F v x) (h : tyD G x = some t) (hI : ∀ c ys, x = .ob c ys → IsC K (G c).addr) : TyX K H v t := by
  cases r with
  | non => cases h; exact .base .non
  | bl b => cases h; exact .base (.bl b)
  | int i => cases h; exact .base (.int i)
  | str y => cases h; exact .base (.str y)
  | ty n => cases h
  | ref a => cases h
  | tup hh r => cases h; exact .base (.tup (fz _ _ hh))
  | lst hh r => cases h; exact .base (.lst (fz _ _ hh))
  | lsz hh r => cases h; exact .base (.frz (fz _ _ hh))
  | dic hh e r => cases h; exact .base (.dK (fz _ _ hh))
  | ob hh e r => cases h; have := hI _ _ rfl; exact .base (.ins (fz _ _ hh) this.cl this.ha this.hn this.ht this.hm)
  | exc hh e r => cases h
  | fn hh r => cases h
theorem cl_of {F : Hp} {v : V} {x : D} {u : Value} (r : Rep G F v x) (h : clD x = some u) : ClsV v u := by
  cases r <;> first | (cases h; done) | (cases h; first | exact .ty _ | exact .own _)
def isiD (G : CT) (K : PySem.W.Frag) : DR := fun xs m Q => ∃ x c t u b, xs = [x, c] ∧ tyD G x = some t ∧ clD c = some u ∧ (∀ c ys, x = .ob c ys → IsC K (G c).addr) ∧ PySem.W.kitOne K t u = some b ∧ Q (.bl b) m
theorem cd_isi : CallD X G (.builtin "isinstance") (isiD G X.K) := by
  refine CallR.imp call_isi ?_
  intro vs H Q hh
  obtain ⟨F, R, m, xs, Q0, st, r, h, k⟩ := hh
  obtain ⟨x, c, t, u, b, e, ht, hu, hI, hk, q⟩ := h
  subst e
  cases r with
  | cons r1 r2 =>
    cases r2 with
    | cons r2 r3 =>
      cases r3
      have e1 : Q (.bl b) H := k (.bl b) m F (.bl b) H q (Le.refl F) st (.bl b)
      have e2 := ty_of (K := X.K) st.fz r1 ht hI
      have e3 := cl_of r2 hu
      exact ⟨_, _, t, u, b, rfl, e3, e2, hk, e1⟩
/-! lists that change -/
def eApp (to te : DTE) : DTE := fun x ds m Q => to x ds m fun d m1 => ∃ p xs, d = .ref p ∧ m1 p = some (.lst xs) ∧ te x ds m1 fun y m2 => ∃ zs, m2 p = some (.lst zs) ∧ zs.length < sizeLine ∧ Q .non (mset m2 p (.lst (zs ++ [y])))
theorem de_append {o e : Expr} {to te : DTE} {apos cpos : Pos} (ho : DE X G W o to) (he : DE X G W e te)
    (hbase : attributeBase o "append" X.env (eval o X.env) = eval o X.env := by rfl)
    (hfew : ((backTo cpos (starEach [e] X.env)).all (fun x => !x.1) && (backToKw cpos (keywordEach [] X.env)).all (fun x => x.1.isSome) && decide (([e] : List Expr).length + ([] : List Keyword).length + (if ([] : List Keyword).isEmpty then 0 else 1) < 30)) = true := by rfl) (hline : (apos.endLine == cpos.line) = true := by rfl) (hs : starEach [e] X.env = (false, eval e X.env) :: starEach [] X.env := by rfl) (hplain : (backTo cpos (starEach [] X.env)).any (·.1) = false := by rfl) :
    DE X G W (.Call (.Attribute o "append" apos) [e] [] cpos) (eApp to te) :=
  (pe_bm PySem.F.plainAttrs_list PySem.F.slot_list_append PySem.F.type_list_append mt_append ho (pa_cons he pa_nil hs) hbase hfew hline hs hplain).imp fun σ H Q ⟨F, R, m, ds, Q0, x, st, sl, h, xk, kk⟩ => by
    refine ⟨F, R, m, ds, _, x, st, sl, h, xk, fun d m1 F1 v H1 ⟨p, xs, e, hp, q⟩ l1 s1 r1 => ?_⟩
    subst e
    cases r1
    obtain ⟨_, vs, hv, _⟩ := s1.mt _ _ hp
    refine ⟨.inl ⟨rfl, _, .inl (.inl hv)⟩, F1, R, m1, ds, _, x, s1, sl.le l1, q, xk.le l1, fun y m2 F2 w H2 ⟨zs, hz, hl, q2⟩ l2 s2 r2 => ?_⟩
    obtain ⟨_, ws, hw, rw_⟩ := s2.mt _ _ hz
    refine ⟨p, ws, w, rfl, rfl, hw, by rw [rw_.length]; exact hl, ?_⟩
    exact kk _ _ F2 _ _ q2 (l1.trans l2) (s2.put hz ⟨_, upd_same, rw_.append (.cons r2 .nil)⟩) .non
end
end DL

namespace DL
open PySem PySem.Spec PyProof.Rows L2
open L2H (RoomH)
section
variable {P : Program} {w : World} {mg : Str → Option Value} {base : Heap} {K : PySem.W.Frag}
/-- def f(*v): over data -/
theorem fn_starG {x qual : Str} {st : Stmt} {f : Addr} {fd : FuncData} {N : List Str} {pv : Str} {k : Nat} {G : CT} {sp : DSp} (F : Fun K x qual st f fd) (S : FnScope N [pv] (defScope st))
    (hb : ∀ rest : List Value, bindArgs fd ⟨rest, []⟩ = (newTuple rest >>= fun t => pure [(pv, t)]))
    (hbody : ∀ (cdv : Value) (A : Around) (outer : List Env) (s : Shared) (H : Hp) (E : XK) (xs : List D) (m : M) (Q : DK) (x : DX), Room k (A.deeper (envOfC qual (defScope st) s.heap.objs.size f cdv)) → sp [.tup xs] m Q x →
      ∃ t, DSs (cxOf (L2.CX P w) P w K mg base N qual (defScope st) f cdv A outer s H E) G (fun cls d _ H' => E cls d H') (defBody st) t ∧ t { nx := fun _ m' => Q .non m', rt := Q, ex := fun _ => x } (startD N [.tup xs]) m) :
    FnR P w K mg base (L2.CX P w) (k + 1) f (fun vs H Q E => vs.length ≤ sizeLine ∧ spL G (fun xs m Q x => sp [.tup xs] m Q x) vs H Q E) := by
  obtain ⟨oc, od, kV, doc, pm, an, cdv, ct, osl, hfd, lk, hcd⟩ := F.ex
  subst hfd
  have base := StX.fn_star (CX := L2.CX P w) (ps := []) (pv := pv) (mg := mg) (base := base) (w := w) (P := P) lk hcd S StX.cxUp (fun us rest h => by
      have e : us = [] := List.eq_nil_of_length_eq_zero h
      subst e
      exact hb rest) (k := k) (sp := fun vs H Q E => ∃ p, vs = [.ref p] ∧ ∃ F R m xs Q0 x ws, Hst G F R H m ∧ F p = some (.tup ws) ∧ Reps G F ws xs ∧ sp [.tup xs] m Q0 x ∧ (∀ d m' F' v H', Q0 d m' → Le F F' → Hst G F' R H' m' → Rep G F' v d → Q v H') ∧
        (∀ c ys m' F' d H', x c ys m' → Le F F' → Hst G F' R H' m' → XD G F' H' c d ys → E (.ref (G c).addr) d H'))
    (fun A outer s H vs Q E hr ⟨p, ev, F0, R, m, xs, Q0, x, ws, st0, hp, rw0, h0, kq, kx⟩ => by
      subst ev
      obtain ⟨t, ht, hq⟩ := hbody cdv A outer s H E xs m Q0 x hr h0
      refine ⟨_, ht, F0, R, m, startD N [.tup xs], _, st0, sl_start N (.cons (.tup hp rw0) .nil), hq, fun ds m' F' σ' H' q l s' _ => kq .non m' F' .non H' q l s' .non, fun d m' F' v H' q l s' r => kq d m' F' v H' q l s' r, fun _ _ _ _ _ q => q.elim, fun _ _ _ _ _ q => q.elim,
        fun ds c ys m' F' σ' d H' q l s' _ xd => kx c ys m' F' d H' q l s' xd⟩)
  refine base.imp fun vs H Q E ⟨hz, F0, R, m, xs, Q0, x, st0, r0, h0, kq, kx⟩ => ⟨[], vs, rfl, rfl, hz, fun p hp => ⟨p, rfl, ?_⟩⟩
  have hf := st0.fnone hp
  have l1 := le_upd (o := HO.tup vs) hf
  exact ⟨_, R, m, xs, Q0, x, vs, st0.new hp, upd_same, r0.le l1, h0, fun d m' F' v H' q l => kq d m' F' v H' q (l1.trans l), fun c ys m' F' d H' q l => kx c ys m' F' d H' q (l1.trans l)⟩
end
/-! ### C.m(..), m a static method -/
structure SMet (K : PySem.W.Frag) (C : Addr) (mc : Value) (m : Str) (p g : Addr) : Prop where
  (rd : PySem.W.readsIn K C mc = true) (ga : PySem.W.specialIn K (.ref C) "__getattribute__" = some (some (.builtin "type.__getattribute__")))
  at_ : PySem.W.findCls K (.ref C) mc m = some (.get (.builtin "staticmethod.__get__") (.ref p) .none (.ref C))
  rc : ∃ rest, PySem.W.recIn K p "staticmethod" = some (.ref g :: rest)
  kp : PySem.W.keepIn K (.ref g) = true
section
variable {X : Cx} {G : CT} {W : WX} {hot grd : Bool} {k c : Nat} {f g C pr : Addr} {mc : Value} {fd : FuncData} {ps : List Str} {sp : DSp} {n x : Str} {p pos apos : Pos} {a b e o : Expr} {es : List Expr} {ta : DTA} {te : DTE}
theorem takesC {A : Around} {outer : List Env} {s : Shared} {H : Hp} {E : XK} {P : Program} {w : World} {K : PySem.W.Frag} {mg : Str → Option Value} {base : Heap} {N : List Str} {qual : Str} {scope : Scope} {cd : Value} :
    Takes (cxOf (L2.CX P w) P w K mg base N qual scope f cd A outer s H E) (fun cls d _ H => E cls d H) := takes_of rfl rfl rfl rfl
theorem takesG {hot : Bool} {A : Around} {outer : List Env} {s : Shared} {H : Hp} {E : XK} {P : Program} {w : World} {K : PySem.W.Frag} {mg : Str → Option Value} {base : Heap} {N : List Str} {qual : Str} {scope : Scope} {cd : Value} :
    Takes (cxG hot P w K mg base N qual scope f cd A outer s H E) (fun cls d _ H => E cls d H) := takes_of rfl rfl rfl rfl
def eStat (sp : DSp) (ta : DTA) : DTE := fun x ds m Q => ta x ds m fun xs m1 => xs.length ≤ sizeLine ∧ sp xs m1 Q (x ds)
theorem de_static {pl : Sem Bool} (S : SMet X.K C mc n pr g) (F : FnR X.prog X.w X.K X.mg X.base (L2.CX X.prog X.w) k g (fun vs H Q E => vs.length ≤ sizeLine ∧ spL G sp vs H Q E)) (hr : Room k X.A) (hg : Gl X x) (hm : X.mg x = some (.ref C)) (tk : Takes X W) (ha : DA X G W (e :: es) ta)
    (hdb : (x == ("__debug__" : Str)) = false := by decide) (hst : starEach (e :: es) X.env = (false, eval e X.env) :: starEach es X.env := by rfl) (hpl : (backTo pos (starEach es X.env)).any (·.1) = false := by rfl)
    (ht : eval (.Call (.Attribute (.Name x p) n apos) (e :: es) [] pos) X.env = (do
      let ov ← eval (.Name x p) X.env
      standAt apos.atName
      let (f, first) ← holding [ov] (getMethod ov n pl)
      callWith pos f first (backTo pos (starEach (e :: es) X.env)) (backToKw pos (keywordEach [] X.env))) := by rfl) :
    DE X G W (.Call (.Attribute (.Name x p) n apos) (e :: es) [] pos) (eStat sp ta) := by
  refine ⟨fun pins s σ H Q I ⟨F0, R, m, ds, Q0, xx, st, sl, h, xk, kk⟩ => ?_⟩
  refine PySem.W.methodCall_KW (pl := pl) (ld_glob I hg hm ?_ hdb) ht
  obtain ⟨rest, hrc⟩ := S.rc
  refine PySem.W.method_cls I.kIn S.ga (PySem.W.cls_bind I.kIn S.rd S.at_ (wpAny_call (PySem.W.sm_get (s := { s with toks := s.toks + 1 }) I.kIn hrc (PySem.W.handed_on (v := .ref g) rfl ?_))))
  have I1 := I.tok (s.toks + 1)
  refine PySem.W.callWith_K (h₀ := X.base) I.ok.mod.kin S.kp (thn (ha.run pos pins _ σ H (fun vs H1 => vs.length ≤ sizeLine ∧ spL G sp vs H1 Q (fun cls d H' => W cls d σ H')) I1 ⟨F0, R, m, ds, _, xx, st, sl, h, xk, fun xs m1 F1 vs H1 q l s1 r1 => ⟨by rw [r1.length]; exact q.1, spL_of s1 (sl.le l) r1 q.2 (xk.le l) fun d m' F' v H' q' l' => kk d m' F' v H' q' (l.trans l')⟩⟩) fun us s1 ⟨vs, H1, I2, r, q⟩ => ⟨I2.kIn, ?_⟩) hst hpl
  refine wpAny_call (codeAny_mono (F X.A X.stack s1 H1 us vs Q _ hr I2.env0 r q) fun r s' hq => ?_)
  match r, hq with
  | .error e, hq => exact passAt tk σ pins H1 s1 e s' I2 hq
  | .ok (.ret u), hq => exact I2.after hq
  | .ok .next, hq => exact hq.elim
  | .ok .brk, hq => exact hq.elim
  | .ok .cont, hq => exact hq.elim
/-! ### the greatest, the least -/
def mxL (ns : List Int) : Int := ns.tail.foldl max (ns.headD 0)
def mnL (ns : List Int) : Int := ns.tail.foldl min (ns.headD 0)
theorem foldl_max_ge : ∀ (ns : List Int) (a : Int), a ≤ ns.foldl max a ∧ (∀ y ∈ ns, y ≤ ns.foldl max a) ∧ (ns.foldl max a = a ∨ ns.foldl max a ∈ ns)
  | [], a => ⟨Int.le_refl _, (fun _ h => nomatch h), .inl rfl⟩
  | n :: ns, a => by
    obtain ⟨h1, h2, h3⟩ := foldl_max_ge ns (max a n)
    refine ⟨Int.le_trans (Int.le_max_left ..) h1, fun y hy => ?_, ?_⟩
    · exact (List.mem_cons.mp hy).elim (fun z => Int.le_trans (z ▸ Int.le_max_right a n) h1) (h2 y)
    · rw [List.foldl_cons]
      rcases h3 with h3 | h3
      · by_cases q : a ≤ n
        · right; rw [h3, Int.max_eq_right q]; exact List.mem_cons_self ..
        · left; rw [h3, Int.max_eq_left (by omega)]
      · exact .inr (List.mem_cons_of_mem _ h3)
theorem foldl_min_le : ∀ (ns : List Int) (a : Int), ns.foldl min a ≤ a ∧ (∀ y ∈ ns, ns.foldl min a ≤ y) ∧ (ns.foldl min a = a ∨ ns.foldl min a ∈ ns)
  | [], a => ⟨Int.le_refl _, (fun _ h => nomatch h), .inl rfl⟩
  | n :: ns, a => by
    obtain ⟨h1, h2, h3⟩ := foldl_min_le ns (min a n)
    refine ⟨Int.le_trans h1 (Int.min_le_left ..), fun y hy => ?_, ?_⟩
    · exact (List.mem_cons.mp hy).elim (fun z => Int.le_trans h1 (z ▸ Int.min_le_right a n)) (h2 y)
    · rw [List.foldl_cons]
      rcases h3 with h3 | h3
      · by_cases q : a ≤ n
        · left; rw [h3, Int.min_eq_left q]
        · right; rw [h3, Int.min_eq_right (by omega)]; exact List.mem_cons_self ..
      · exact .inr (List.mem_cons_of_mem _ h3)
theorem mxL_mem {ns : List Int} (h : ns ≠ []) : mxL ns ∈ ns ∧ ∀ y ∈ ns, y ≤ mxL ns := by
  match ns, h with
  | n :: ns, _ =>
    obtain ⟨h1, h2, h3⟩ := foldl_max_ge ns n
    refine ⟨?_, fun y hy => ?_⟩
    · rcases h3 with h3 | h3
      · show ns.foldl max n ∈ _; rw [h3]; exact List.mem_cons_self ..
      · exact List.mem_cons_of_mem _ h3
    · exact (List.mem_cons.mp hy).elim (fun z => z ▸ h1) (h2 y)
theorem mnL_mem {ns : List Int} (h : ns ≠ []) : mnL ns ∈ ns ∧ ∀ y ∈ ns, mnL ns ≤ y := by
  match ns, h with
  | n :: ns, _ =>
    obtain ⟨h1, h2, h3⟩ := foldl_min_le ns n
    refine ⟨?_, fun y hy => ?_⟩
    · rcases h3 with h3 | h3
      · show ns.foldl min n ∈ _; rw [h3]; exact List.mem_cons_self ..
      · exact List.mem_cons_of_mem _ h3
    · exact (List.mem_cons.mp hy).elim (fun z => z ▸ h1) (h2 y)
def mxD : DR := fun xs m Q => (∃ i j : Int, xs = [.int i, .int j] ∧ Q (.int (max i j)) m) ∨ ∃ (ns : List Int), (xs = [.lst (ns.map D.int)] ∨ xs = [.tup (ns.map D.int)]) ∧ ns ≠ [] ∧ Q (.int (mxL ns)) m
def mnD : DR := fun xs m Q => (∃ i j : Int, xs = [.int i, .int j] ∧ Q (.int (min i j)) m) ∨ ∃ (ns : List Int), (xs = [.lst (ns.map D.int)] ∨ xs = [.tup (ns.map D.int)]) ∧ ns ≠ [] ∧ Q (.int (mnL ns)) m
def rMaxT (K : PySem.W.Frag) : List V → Hp → VK → Prop := fun vs H Q => ∃ a ns, vs = [.ref a] ∧ SqT K H a (ns.map V.int) ∧ ns ≠ [] ∧ Q (.int (mxL ns)) H
def rMinT (K : PySem.W.Frag) : List V → Hp → VK → Prop := fun vs H Q => ∃ a ns, vs = [.ref a] ∧ SqT K H a (ns.map V.int) ∧ ns ≠ [] ∧ Q (.int (mnL ns)) H
theorem readsI {h : Heap} : ∀ {ns : List Int} {its : List Value}, Vals (ns.map V.int) its → ReadsAll h its (ns.map PyData.int) []
  | [], _, .nil => .nil
  | n :: ns, _, .cons r rr => by
    obtain ⟨t, e⟩ := (show ∃ t, _ = Value.int n t from r)
    subst e
    exact .cons (as := []) (bs := []) (.int n t) (readsI rr)
theorem depth_ints : ∀ l : List Int, PyData.depthAll (l.map PyData.int) = 0 := fun l => by
  induction l with
  | nil => simp only [List.map_nil, PyData.depthAll]
  | cons a l ih => simp only [List.map_cons, PyData.depthAll, PyData.depth, ih, Nat.max_self]
theorem call_maxT (hc : X.calm = true) (hu : X.A.units + 8 < cLine) : CallR X (.builtin "max") (rMaxT X.K) := by
  rintro pins s σ H vs us Q I r ⟨a, ns, rfl, hs, hne, q⟩
  obtain ⟨its, rv, hl, _⟩ := I.tuple hs
  rw [Vals.ref1 r]
  cases ns with
  | nil => exact absurd rfl hne
  | cons n ns =>
    have e1 : ReadsAll s.heap its.toArray.toList (PyData.int n :: ns.map PyData.int) [] := readsI (ns := n :: ns) rv
    have e2 : PySem.W.AlikeAll (PyData.int n :: ns.map PyData.int) := PySem.W.alikeAll_datum (α := Int) (n :: ns)
    have e3 : X.A.units + 1 + PyData.depthAll (PyData.int n :: ns.map PyData.int) < cLine := by
      have e5 := depth_ints (n :: ns)
      rw [List.map_cons] at e5
      rw [e5]
      omega
    have e4 : s.heap.IsTuple a its.toArray := hl
    refine @PySem.W.max_tuple_data X.prog X.w X.A X.xe s a its.toArray (.int n) (ns.map PyData.int) [] _ (I.ok.hd hc) e4 e1 e2 e3 ?_
    intro i v h' tk bs hi rd hk
    rw [PySem.W.maxD_ints] at rd
    cases rd
    exact ⟨.int _, H, I.kept hk, ⟨_, rfl⟩, q⟩
theorem call_minT (hc : X.calm = true) (hu : X.A.units + 8 < cLine) : CallR X (.builtin "min") (rMinT X.K) := by
  rintro pins s σ H vs us Q I r ⟨a, ns, rfl, hs, hne, q⟩
  obtain ⟨its, rv, hl, _⟩ := I.tuple hs
  rw [Vals.ref1 r]
  cases ns with
  | nil => exact absurd rfl hne
  | cons n ns =>
    have e1 : ReadsAll s.heap its.toArray.toList (PyData.int n :: ns.map PyData.int) [] := readsI (ns := n :: ns) rv
    have e2 : PySem.W.AlikeAll (PyData.int n :: ns.map PyData.int) := PySem.W.alikeAll_datum (α := Int) (n :: ns)
    have e3 : X.A.units + 1 + PyData.depthAll (PyData.int n :: ns.map PyData.int) < cLine := by
      have e5 := depth_ints (n :: ns)
      rw [List.map_cons] at e5
      rw [e5]
      omega
    have e4 : s.heap.IsTuple a its.toArray := hl
    refine @PySem.W.min_tuple_data X.prog X.w X.A X.xe s a its.toArray (.int n) (ns.map PyData.int) [] _ (I.ok.hd hc) e4 e1 e2 e3 ?_
    intro i v h' tk bs hi rd hk
    rw [PySem.W.minD_ints] at rd
    cases rd
    exact ⟨.int _, H, I.kept hk, ⟨_, rfl⟩, q⟩
theorem cd_mx (hc : X.calm = true) (hu : X.A.units + 8 < cLine) : CallD X G (.builtin "max") mxD := CallR.imp (((call_max2 hc).or (cr_max hc)).or (call_maxT hc hu)) fun vs H Q hh => by
  obtain ⟨F, R, m, xs, Q0, st, r, h, k⟩ := hh
  rcases h with ⟨i, j, e, q⟩ | ⟨ns, e, hne, q⟩
  · subst e
    rcases r with _ | ⟨r, rr⟩
    rcases rr with _ | ⟨r', rr⟩
    cases rr
    · cases r; cases r'
      refine .inl (.inl ⟨i, j, rfl, ?_⟩)
      have e : max i j = if j > i then j else i := by split <;> omega
      rw [e] at q
      exact k _ m F _ H q (Le.refl F) st (.int _)
  · rcases e with e | e
    · subst e
      rcases r with _ | ⟨r, rr⟩
      cases rr
      · cases r with
        | @lst a ws _ ha ra =>
          have e2 := reps_ints ra
          subst e2
          refine .inl (.inr ⟨a, ns, rfl, .inl (.inl (st.fz _ _ ha)), (by cases ns; exact absurd rfl hne; exact Nat.succ_pos _), fun kk h1 h2 => ?_⟩)
          obtain ⟨h3, h4⟩ := mxL_mem hne
          have e3 : kk = mxL ns := Int.le_antisymm (h4 _ h1) (h2 _ h3)
          subst e3
          exact k _ m F _ H q (Le.refl F) st (.int _)
    · subst e
      rcases r with _ | ⟨r, rr⟩
      cases rr
      · cases r with
        | @tup a ws _ ha ra =>
          have e2 := reps_ints ra
          subst e2
          exact .inr ⟨a, ns, rfl, .inl (.inl (st.fz _ _ ha)), hne, k _ m F _ H q (Le.refl F) st (.int _)⟩
theorem cd_mn (hc : X.calm = true) (hu : X.A.units + 8 < cLine) : CallD X G (.builtin "min") mnD := CallR.imp (((call_min2 hc).or (cr_min hc)).or (call_minT hc hu)) fun vs H Q hh => by
  obtain ⟨F, R, m, xs, Q0, st, r, h, k⟩ := hh
  rcases h with ⟨i, j, e, q⟩ | ⟨ns, e, hne, q⟩
  · subst e
    rcases r with _ | ⟨r, rr⟩
    rcases rr with _ | ⟨r', rr⟩
    cases rr
    · cases r; cases r'
      refine .inl (.inl ⟨i, j, rfl, ?_⟩)
      have e : min i j = if j < i then j else i := by split <;> omega
      rw [e] at q
      exact k _ m F _ H q (Le.refl F) st (.int _)
  · rcases e with e | e
    · subst e
      rcases r with _ | ⟨r, rr⟩
      cases rr
      · cases r with
        | @lst a ws _ ha ra =>
          have e2 := reps_ints ra
          subst e2
          refine .inl (.inr ⟨a, ns, rfl, .inl (.inl (st.fz _ _ ha)), (by cases ns; exact absurd rfl hne; exact Nat.succ_pos _), fun kk h1 h2 => ?_⟩)
          obtain ⟨h3, h4⟩ := mnL_mem hne
          have e3 : kk = mnL ns := Int.le_antisymm (h2 _ h3) (h4 _ h1)
          subst e3
          exact k _ m F _ H q (Le.refl F) st (.int _)
    · subst e
      rcases r with _ | ⟨r, rr⟩
      cases rr
      · cases r with
        | @tup a ws _ ha ra =>
          have e2 := reps_ints ra
          subst e2
          exact .inr ⟨a, ns, rfl, .inl (.inl (st.fz _ _ ha)), hne, k _ m F _ H q (Le.refl F) st (.int _)⟩
end
end DL

namespace DL
open PySem PySem.Spec PyProof.Rows L2
open L2H (RoomH)
section
variable {X : Cx} {G : CT} {W : WX} {hot grd : Bool} {k c : Nat} {f g C pr : Addr} {fd : FuncData} {ps : List Str} {n x : Str} {p pos apos : Pos} {a b e o : Expr} {es : List Expr} {ta : DTA} {te : DTE}
theorem Rm.u8 {A : Around} (r : Rm hot grd k A) : A.units + 8 < cLine := by have h := r.room.un; omega
theorem Rm.u64 {A : Around} (r : Rm hot grd k A) : A.units + 64 < cLine := by have h := r.room.un; omega
theorem passesG {hot : Bool} {A : Around} {outer : List Env} {s : Shared} {H : Hp} {E : XK} {P : Program} {w : World} {K : PySem.W.Frag} {mg : Str → Option Value} {base : Heap} {N : List Str} {qual : Str} {scope : Scope} {cd : Value} :
    PassesOwn (model P w) (cxG hot P w K mg base N qual scope f cd A outer s H E).A (cxG hot P w K mg base N qual scope f cd A outer s H E).env (cxG hot P w K mg base N qual scope f cd A outer s H E).xe :=
  L2.passes_of (X := cxG hot P w K mg base N qual scope f cd A outer s H E) (K := fun e s'' => L2.CX P w outer H s E e s'') rfl
theorem passesC {A : Around} {outer : List Env} {s : Shared} {H : Hp} {E : XK} {P : Program} {w : World} {K : PySem.W.Frag} {mg : Str → Option Value} {base : Heap} {N : List Str} {qual : Str} {scope : Scope} {cd : Value} :
    PassesOwn (model P w) (cxOf (L2.CX P w) P w K mg base N qual scope f cd A outer s H E).A (cxOf (L2.CX P w) P w K mg base N qual scope f cd A outer s H E).env (cxOf (L2.CX P w) P w K mg base N qual scope f cd A outer s H E).xe :=
  L2.passes_of (X := cxOf (L2.CX P w) P w K mg base N qual scope f cd A outer s H E) (K := fun e s'' => L2.CX P w outer H s E e s'') rfl
/-- {} that stays as it is -/
def eDic0 : DTE := fun _ _ m Q => Q (.dic []) m
theorem de_dic0 : DE X G W (.Dict [] [] pos) eDic0 := pe_dnewK.imp fun σ H Q ⟨F, R, m, ds, Q0, x, st, sl, h, xk, kk⟩ => fun p hp =>
  kk _ _ _ _ _ h (le_upd (st.fnone hp)) (st.new hp) (.dic upd_same rfl .nil)
/-- a list that has changed is from now on as it is -/
def sFrz (i : Nat) (t : DTS) : DTS := fun E ds m => ∃ p xs, ds[i]? = some (some (.ref p)) ∧ m p = some (.lst xs) ∧ t E (ds.set i (some (.lst xs))) (mdel m p)
theorem dss_freeze (i : Nat) {st : List Stmt} {t : DTS} (h : DSs X G W st t) : DSs X G W st (sFrz i t) := h.imp fun D σ H ⟨F, R, m, ds, E, st, sl, ⟨p, xs, hi, hm, h⟩, ok⟩ => by
  obtain ⟨_, vs, hv, rv⟩ := st.mt _ _ hm
  obtain ⟨s2, l2⟩ := st.freeze hm hv
  refine ⟨_, R, _, ds.set i (some (.lst xs)), E, s2, ?_, h, ok.le l2⟩
  obtain ⟨u, hu, ru⟩ := sl.at_ _ _ hi
  cases ru
  have e : σ.set i (some (.ref p)) = σ := by
    apply List.ext_getElem?
    intro j
    by_cases q : i = j
    · subst q
      rw [hu]
      have hl : i < σ.length := by
        rcases Nat.lt_or_ge i σ.length with z | z
        · exact z
        · rw [List.getElem?_eq_none z] at hu; cases hu
      rw [List.getElem?_set_self hl]
    · rw [List.getElem?_set_ne q]
  have := (sl.le l2).set i (v := .ref p) (d := .lst xs) (.lst upd_same (rv.le l2))
  rw [e] at this
  exact this
theorem FnG.at_' {P : Program} {w : World} {K : PySem.W.Frag} {mg : Str → Option Value} {base : Heap} {k : Nat} {f : Addr} {fd : FuncData} {ps : List Str} {sp : Sp} (F : FnG true false P w K mg base k f fd ps sp) : FnG hot grd P w K mg base k f fd ps sp := F.at_
theorem dw_pt {e : Expr} {t : DTT} (h : DW X G W e t) : DT X G W e t := L2.PW.pt h
theorem startD_1 {N : List Str} {x : D} : startD N [x] = some x :: List.replicate (N.length - 1) none := rfl
end
/-! ### the law's end -/
theorem callerA_gd : callerA.guards = some [] := by first | rfl | simp [callerA]
/-- an error that nobody lets out -/
theorem cx_no {P : Program} {w : World} {outer : List Env} {H : Hp} {s : Shared} {e : Value} {s' : Shared} (h : L2.CX P w outer H s (fun _ _ _ => False) e s') : False := by
  obtain ⟨a, B, H', cls, d, ea, fl, hok, ub, na, os, ag, he⟩ := h
  exact he
/-- no list stands in the written part -/
def noLists (K : PySem.W.Frag) : Bool := K.all fun p => !(p.2.cls == Value.type "list")
theorem noLists_at {K : PySem.W.Frag} (h : noLists K = true) {a : Addr} {o : Obj} (e : K.lookup a = some o) : o.cls ≠ .type "list" := by
  have m : (a, o) ∈ K := by
    clear h
    revert e
    show K.lookup a = some o → _
    induction K with
    | nil => intro e; cases e
    | cons p r ih =>
      obtain ⟨b, u⟩ := p
      intro e
      have e' : (match a == b with | true => some u | false => List.lookup a r) = some o := e
      cases q : a == b with
      | true =>
        rw [q] at e'
        cases e'
        cases beq_iff_eq.mp q
        exact List.mem_cons_self ..
      | false =>
        rw [q] at e'
        exact List.mem_cons_of_mem _ (ih e')
  have := List.all_eq_true.mp h _ m
  intro z
  dsimp only at this
  rw [z] at this
  simp at this
theorem callG {P : Program} {w : World} {K : PySem.W.Frag} {mg mb : Str → Option Value} {k : Nat} {fa a : Addr} {fd : FuncData} {x : Str} {G : CT} {sp : DSp} {s₁ : Shared} {vs : List Value} {ns : List Int} (KX : K.In s₁.heap) (hns : s₁.heap.Ns mainGlobals mg) (hb : s₁.heap.Ns builtinsNs mb) (hbb : ∀ x : Str, x ≠ "__name__" → mb x = bootBuiltins x) (hlim : s₁.heap.NoLimit) (hg : s₁.gens = #[])
    (ha : s₁.heap.get? a = some { cls := .type "list", data := .seq vs.toArray }) (hi : IntsAre vs ns) (hl : ns.length ≤ sizeLine) (hr : RoomH k callerA) (hK : noLists K = true)
    (Fp : ∀ base : Heap, K.In base → base.Ns mainGlobals mg → FnG false true P w K mg base k fa fd [x] (spL G sp)) (hbind : ∀ (s : Shared) (u : Value), BindsTo s fd ⟨[u], []⟩ [(x, u)])
    (hsp : ∀ m, sp [.scr (ns.map D.int)] m (fun d _ => d = .bl true) fun _ _ _ => False) : codeAny (model P w) callerA (.call (.ref fa) ⟨[.ref a], []⟩) (fun r s' => r = .ok (.ret (.bool true)) ∧ OldK s₁.heap s'.heap ∧ s'.os = s₁.os ∧ AllBare s'.gens) s₁ := by
  have rv := vals_ints hi
  have hka : ∀ o, K.lookup a = some o → False := fun o e => noLists_at hK e (by have := KX a o e; rw [ha] at this; cases this; rfl)
  let ho : HO := .frz { cls := .type "list", data := .seq vs.toArray } (.lst (ns.map V.int))
  let H : Hp := fun b => if b = a then some ho else none
  have Hat : H a = some ho := if_pos rfl
  have Hno : ∀ {b : Addr}, b ≠ a → H b = none := fun n => if_neg n
  have Hof : ∀ {b : Addr} {u : HO}, H b = some u → b = a ∧ u = ho := fun {b u} e => by
    by_cases q : b = a
    · subst q; rw [Hat] at e; exact ⟨rfl, (Option.some.inj e).symm⟩
    · rw [Hno q] at e; cases e
  have hok : HOk P w H s₁.heap := fun b u e => by
    obtain ⟨rfl, rfl⟩ := Hof e
    exact ⟨ha, List.length_map (as := ns) V.int ▸ hl, vs, _, rv, ha⟩
  have keepB : ∀ {b : Addr} {o : Obj}, s₁.heap.get? b = some o → b ≠ a → (hidT s₁.heap H).get? b = some o := fun e n => hidT_get e (Hno n)
  have nsB : ∀ {b : Addr} {m : Str → Option Value}, s₁.heap.Ns b m → (hidT s₁.heap H).Ns b m := fun {b m} z => by
    obtain ⟨o, es, ep, e, d, r⟩ := z
    refine ⟨o, es, ep, keepB e (fun q => ?_), d, r⟩
    subst q
    rw [ha] at e
    cases e
    cases (show Data.seq vs.toArray _ = Data.dict es ep from d)
  have hKb : K.In (hidT s₁.heap H) := fun b o e => keepB (KX b o e) fun q => by subst q; exact hka o e
  obtain ⟨mc, c1, c2⟩ := hlim
  have hM : Mod K mg (hidT s₁.heap H) := ⟨hKb, nsB hns, ⟨mb, nsB hb, hbb⟩, mc, nsB c1, c2⟩
  have e0 : Env0 P w K mg (hidT s₁.heap H) callerA [] s₁ H := by
    refine ⟨rfl, hM, fun b o e => of_hidT e, Nat.le_of_eq (hidT_size _ _), trivial, fun b hb => ?_, hok, .of_eq hg⟩
    exact absurd (show b ∈ ([] : List Addr) from hb) (by simp)
  have st : Hst G H (fun _ => none) H (fun _ => none) := ⟨fun b u e => e, fun b u e => (nomatch (show (none : Option HO) = some u from e)), fun b u e => (nomatch (show (none : Option MO) = some u from e))⟩
  have rp : Reps G H [.ref a] [.scr (ns.map D.int)] := .cons (.lsz Hat (Reps.ints ns)) .nil
  have hq : spL G sp [.ref a] H (fun v _ => v = .bl true) (fun _ _ _ => False) := ⟨H, fun _ => none, fun _ => none, _, _, _, st, rp, hsp _, fun d m' F' v H' e _ _ r => by subst e; cases r; rfl, fun c ys m' F' d H' e _ _ _ => e⟩
  refine codeAny_mono ((Fp _ hKb (nsB hns)).go callerA [] s₁ H ⟨[.ref a], []⟩ [.ref a] [.ref a] _ _ ⟨hr, fun _ => by first | rfl | simp [callerA], fun _ => callerA_gd⟩ e0 (hbind s₁ (.ref a)) (.cons (show RelV (.ref a) (.ref a) from rfl) .nil) hq) fun r s' h => ?_
  match r, h with
  | .error e, h => exact (cx_no h).elim
  | .ok .next, h => exact False.elim h
  | .ok .brk, h => exact False.elim h
  | .ok .cont, h => exact False.elim h
  | .ok (.ret u), ⟨v, H', os, bare, un, hok', r', (q : v = .bl true)⟩ =>
    subst q
    cases (show u = Value.bool true from r')
    refine ⟨rfl, OldK.of_keep ?_, os, bare⟩
    intro b o e
    by_cases z : b = a
    · subst z
      have z2 := un.frzs b _ _ Hat
      obtain ⟨e2, _⟩ := hok' b _ z2
      rw [ha] at e
      cases e
      exact e2
    · exact un.keep b o e (Hno z) (by intro y; exact absurd (show b ∈ ([] : List Addr) from y) (by simp)) (by simp)
/-- the goal that k_head leaves, from the law's promise -/
theorem walkG {l : PySem.W.OpenLaw} {n k : Nat} {q : Program} {loose : List Str} {XP : (Str → Option Value) → Heap → Prop} {YP : World → Heap → Prop} {d : DefRec} {K : Params → PySem.W.Frag} {x : Str} {sp : DSp}
    (hn : l.most = some n) (hn2 : n ≤ sizeLine) (hdf : d.params.defaults = []) (hr : RoomH k callerA) (hK : ∀ P, noLists (K P) = true) (hY : ∀ (w : World) (h : Heap), YP w h → (K w.params).In h) (F : ∀ (w : World) (mg : Str → Option Value) (fa : Addr) (h : Heap), (K w.params).In h → h.Ns mainGlobals mg → mg d.name = some (.ref fa) →
      ∃ (fd : FuncData) (G : CT), (∀ (s : Shared) (u : Value), BindsTo s fd ⟨[u], []⟩ [(x, u)]) ∧
        ∀ base : Heap, (K w.params).In base → base.Ns mainGlobals mg → FnG false true l.prog w (K w.params) mg base k fa fd [x] (spL G sp))
    (hsp : ∀ (m : M) (ns : List Int), ns.length ≤ n → (∀ z ∈ ns, Builtin.Int.intBits z ≤ 1048576) → sp [.scr (ns.map D.int)] m (fun d _ => d = .bl true) fun _ _ _ => False) : PySem.W.WalkO q loose XP YP l.row.toRowW d [] (fun f vs => PySem.call f vs) := by
  refine Att.attach_callB hn hdf fun w s₀ s₁ mg mb fa o pm cd doc a vs ns g Y ho hd hcd hmg hobj hints hlen hbits hgen => ?_
  have KX := hY w _ Y
  obtain ⟨fd, G, hb, hF⟩ := F w mg fa _ KX g.T.g hmg
  exact callG KX g.T.g g.T.b g.T.builtins g.T.nolimit hgen hobj hints (Nat.le_trans hlen hn2) hr (hK _) hF hb fun m => hsp m ns hlen hbits
end DL
namespace DL
open PySem L2
theorem takesF {X : Cx} : Takes X WF := fun _ _ ⟨_, _, _, _, _, _, _, _, _, _, _, _, _, _, _, _, w⟩ => False.elim w
end DL

/-! reading lemmas: what the operations do to data that are known -/
namespace DL
open PySem L2
variable {m : M} {Q : DK} {i j : Int} {x y z : D} {xs ys : List D} {s t : Str} {p : Addr} {b : Bool}
theorem addI : addD (.int i) (.int j) m Q = Q (.int (i + j)) m := rfl
theorem addS : addD (.str s) (.str t) m Q = (s.length + t.length ≤ sizeLine ∧ Q (.str (s ++ t)) m) := rfl
theorem addL : addD (.lst xs) (.lst ys) m Q = (xs.length + ys.length ≤ sizeLine ∧ Q (.lst (xs ++ ys)) m) := rfl
theorem subI : subD (.int i) (.int j) m Q = Q (.int (i - j)) m := rfl
theorem negI : negD (.int i) m Q = Q (.int (-i)) m := rfl
theorem mulI : mulD (.int i) (.int j) m Q = (MulOk i j ∧ Q (.int (i * j)) m) := rfl
theorem mulL : mulD (.lst xs) (.int j) m Q = ((j < 2 ^ 62 ∧ -(2 ^ 62) < j ∧ xs.length * j.toNat ≤ sizeLine) ∧ Q (.lst (List.replicate j.toNat xs).flatten) m) := rfl
theorem divI : divD (.int i) (.int j) m Q = ((0 < j ∧ j.natAbs < 2 ^ 8000) ∧ Q (.int (i / j)) m) := rfl
theorem modI : modD (.int i) (.int j) m Q = (0 < j ∧ Q (.int (i % j)) m) := rfl
theorem powI : powD (.int i) (.int j) m Q = ((0 ≤ j ∧ j ≤ 1000000 ∧ i.natAbs < 2 ^ 64) ∧ Q (.int (i ^ j.toNat)) m) := rfl
theorem ltI : ltD (.int i) (.int j) m Q = Q (.bl (decide (i < j))) m := rfl
theorem leI : leD (.int i) (.int j) m Q = Q (.bl (decide (i ≤ j))) m := rfl
theorem gtI : gtD (.int i) (.int j) m Q = Q (.bl (decide (j < i))) m := rfl
theorem geI : geD (.int i) (.int j) m Q = Q (.bl (decide (j ≤ i))) m := rfl
theorem eqI : eqD (.int i) (.int j) m Q = Q (.bl (decide (i = j))) m := by
  have e : eqB (.int i) (.int j) = decide (i = j) := by
    show (i == j) = decide (i = j)
    by_cases h : i = j
    · subst h; simp
    · rw [decide_eq_false h]; exact beq_eq_false_iff_ne.mpr h
  show (true = true ∧ Q (.bl (eqB (.int i) (.int j))) m) = _
  rw [e]
  exact propext ⟨fun h => h.2, fun h => ⟨rfl, h⟩⟩
theorem neI : neD (.int i) (.int j) m Q = Q (.bl (!decide (i = j))) m := by
  have e : eqB (.int i) (.int j) = decide (i = j) := by
    show (i == j) = decide (i = j)
    by_cases h : i = j
    · subst h; simp
    · rw [decide_eq_false h]; exact beq_eq_false_iff_ne.mpr h
  show (true = true ∧ Q (.bl (!eqB (.int i) (.int j))) m) = _
  rw [e]
  exact propext ⟨fun h => h.2, fun h => ⟨rfl, h⟩⟩
theorem str_beq : (s == t) = decide (s = t) := by
  by_cases h : s = t
  · subst h; simp
  · rw [decide_eq_false h]; exact beq_eq_false_iff_ne.mpr h
theorem eqS : eqD (.str s) (.str t) m Q = Q (.bl (decide (s = t))) m := by
  have e : eqB (.str s) (.str t) = decide (s = t) := str_beq
  show (true = true ∧ Q (.bl (eqB (.str s) (.str t))) m) = _
  rw [e]
  exact propext ⟨fun h => h.2, fun h => ⟨rfl, h⟩⟩
theorem neS : neD (.str s) (.str t) m Q = Q (.bl (!decide (s = t))) m := by
  have e : eqB (.str s) (.str t) = decide (s = t) := str_beq
  show (true = true ∧ Q (.bl (!eqB (.str s) (.str t))) m) = _
  rw [e]
  exact propext ⟨fun h => h.2, fun h => ⟨rfl, h⟩⟩
theorem mx2 : mxD [.int i, .int j] m Q = Q (.int (max i j)) m := by
  apply propext
  constructor
  · rintro (⟨i', j', e, q⟩ | ⟨ns, e, _⟩)
    · cases e; exact q
    · rcases e with e | e <;> cases e
  · exact fun q => .inl ⟨i, j, rfl, q⟩
theorem mn2 : mnD [.int i, .int j] m Q = Q (.int (min i j)) m := by
  apply propext
  constructor
  · rintro (⟨i', j', e, q⟩ | ⟨ns, e, _⟩)
    · cases e; exact q
    · rcases e with e | e <;> cases e
  · exact fun q => .inl ⟨i, j, rfl, q⟩
theorem lenL : lenD [.lst xs] m Q = Q (.int xs.length) m := rfl
theorem lenT : lenD [.tup xs] m Q = Q (.int xs.length) m := rfl
theorem lenC : lenD [.scr xs] m Q = Q (.int xs.length) m := rfl
theorem absI : absD [.int i] m Q = Q (.int (if i < 0 then -i else i)) m := rfl
theorem intI : DL.intD [.int i] m Q = Q (.int i) m := rfl
theorem strI : strD [.int i] m Q = (Few i ∧ Q (.str (istr i)) m) := rfl
theorem repX : repD [x] m Q = (okR x ∧ Q (.str (shD x)) m) := rfl
theorem tupL : tupD [.lst xs] m Q = Q (.tup xs) m := rfl
theorem dmI : divmodD [.int i, .int j] m Q = ((0 < j ∧ j.natAbs < 2 ^ 8000) ∧ Q (.tup [.int (i / j), .int (i % j)]) m) := rfl
theorem itG {l : List D} {d : D} (h : atI l i = some d) : (∃ e, atI l i = some e ∧ Q e m) = Q d m := by
  rw [h]
  exact propext ⟨fun ⟨e, h1, h2⟩ => by cases h1; exact h2, fun h2 => ⟨_, rfl, h2⟩⟩
theorem it0 : itD (.tup (x :: xs)) (.int 0) m Q = Q x m := itG (by unfold atI ixN; rw [if_pos (by omega), if_pos (by simp)]; rfl)
theorem it1 : itD (.tup (x :: y :: xs)) (.int 1) m Q = Q y m := itG (by unfold atI ixN; rw [if_pos (by omega), if_pos (by simp; omega)]; rfl)
theorem itL0 : itD (.lst (x :: xs)) (.int 0) m Q = Q x m := itG (by unfold atI ixN; rw [if_pos (by omega), if_pos (by simp)]; rfl)
theorem itR : itD (.ref p) (.int i) m Q = ∃ xs d, m p = some (.lst xs) ∧ atI xs i = some d ∧ Q d m := rfl
theorem itLn {n : Nat} {l : List D} {d : D} (h : l[n]? = some d) : itD (.lst l) (.int (n : Nat)) m Q = Q d m := itG (by
  have hl : n < l.length := (List.getElem?_eq_some_iff.mp h).1
  unfold atI ixN
  rw [if_pos (by omega), if_pos (by omega)]
  show l[((n : Nat) : Int).toNat]? = some d
  rw [Int.toNat_natCast]
  exact h)
theorem itCn {n : Nat} {l : List D} {d : D} (h : l[n]? = some d) : itD (.scr l) (.int (n : Nat)) m Q = Q d m := itLn h
theorem gTp2 {n : Nat} {u v : DTG} {e : EK} {ds : DSt} {Q : DSt → M → Prop} (hn : n = 2) : gTp n (gsCons u (gsCons v gsNil)) e (.tup [x, y]) ds m Q = u e x ds m fun ds1 m1 => v e y ds1 m1 Q := by
  subst hn
  show (2 = 2 ∧ u e x ds m fun ds1 m1 => v e y ds1 m1 fun ds2 m2 => ([] : List D) = [] ∧ Q ds2 m2) = _
  have : (fun ds2 m2 => ([] : List D) = [] ∧ Q ds2 m2) = Q := by funext a b; exact propext ⟨fun h => h.2, fun h => ⟨rfl, h⟩⟩
  rw [this]
  exact propext ⟨fun h => h.2, fun h => ⟨rfl, h⟩⟩
theorem gTp2' {u v : DTG} {e : EK} {ds : DSt} {Q : DSt → M → Prop} : gTp 2 (gsCons u (gsCons v gsNil)) e (.tup [x, y]) ds m Q = u e x ds m fun ds1 m1 => v e y ds1 m1 Q := gTp2 rfl
theorem emp_app (x : Str) : Str.empty ++ x = x := by
  show (⟨(#[] : Array Nat) ++ x.cps⟩ : Str) = x
  rw [Array.empty_append]
theorem fits {n : Nat} {x : Str} (h : Sh n x) (hn : n ≤ 2 ^ 24) : x.length ≤ sizeLine := Nat.le_trans h.len hn
theorem small2 : 2 ≤ sizeLine := by decide
theorem smallN {n : Nat} (h : n ≤ 1000) : n ≤ sizeLine := Nat.le_trans h (by decide)
/-! fields, by their numbers -/
theorem look_eq {ns : List Str} {n : Str} {d : D} {Q : D → Prop} (h : (ns.zip xs).lookup n = some d) : (∃ e, (ns.zip xs).lookup n = some e ∧ Q e) = Q d := by
  rw [h]
  exact propext ⟨fun ⟨e, h1, h2⟩ => by cases h1; exact h2, fun h2 => ⟨_, rfl, h2⟩⟩
/-! comprehensions and loops -/
theorem lc_map {Q : DK} {k : Nat} {te : DTE} {vs : List Nat} {ds : DSt} {f : D → D} : ∀ {xs : List D} (h : ∀ d, d ∈ xs → ∀ (m : M) (Q : DK), Q (f d) m → te noX ((wipeD ds vs).set k (some d)) m Q) (acc : List D) (m : M), Q (.lst (acc ++ xs.map f)) m → lcD (.one k) ttYes te vs ds Q xs acc m
  | [], _, acc, m, q => by simpa [lcD] using q
  | d :: xs, h, acc, m, q => by
    show te noX _ m fun y m2 => lcD (.one k) ttYes te vs ds Q xs (acc ++ [y]) m2
    refine h d (List.mem_cons_self ..) m _ (lc_map (fun e he => h e (List.mem_cons_of_mem _ he)) _ m ?_)
    simpa using q
theorem lc_st {Q : DK} {k : Nat} {te : DTE} {vs : List Nat} {ds : DSt} {S : M → Prop} {R : D → Prop} : ∀ {xs : List D} (h : ∀ d, d ∈ xs → ∀ (m : M) (Q : DK), S m → (∀ y m', R y → S m' → Q y m') → te noX ((wipeD ds vs).set k (some d)) m Q) (acc : List D) (m : M), S m →
    (∀ ys m', ys.length = xs.length → (∀ y ∈ ys, R y) → S m' → Q (.lst (acc ++ ys)) m') → lcD (.one k) ttYes te vs ds Q xs acc m
  | [], _, acc, m, s, q => by
    have := q [] m rfl (fun _ h => nomatch h) s
    simpa [lcD] using this
  | d :: xs, h, acc, m, s, q => by
    show te noX _ m fun y m2 => lcD (.one k) ttYes te vs ds Q xs (acc ++ [y]) m2
    refine h d (List.mem_cons_self ..) m _ s fun y m' hy s' => lc_st (fun e he => h e (List.mem_cons_of_mem _ he)) _ m' s' fun ys m2 hl hys s2 => ?_
    have := q (y :: ys) m2 (by simp [hl]) (fun z hz => by rcases List.mem_cons.mp hz with rfl | hz; exact hy; exact hys z hz) s2
    simpa using this
theorem for_inv {g : DTG} {tb : DTS} {E : DEnds} {I : DSt → M → Prop} : ∀ {xs : List D} (h : ∀ d, d ∈ xs → ∀ (K : DSt → M → Prop) (ds : DSt) (m : M), I ds m → (∀ ds' m', I ds' m' → K ds' m') → g E.ex d ds m fun ds' m' => tb { E with nx := K, ct := K, bk := E.nx } ds' m') (ds : DSt) (m : M), I ds m → (∀ ds m, I ds m → E.nx ds m) → forD g tb E xs ds m
  | [], _, ds, m, i, q => q ds m i
  | d :: xs, h, ds, m, i, q => h d (List.mem_cons_self ..) _ ds m i fun ds' m' i' => for_inv (fun e he => h e (List.mem_cons_of_mem _ he)) ds' m' i' q
theorem okRb {bs : List Bool} (h : bs.length ≤ 1000) : okR (.lst (bs.map D.bl)) := by
  have h1 : ROs 0 ((5 + 2) * (bs.map D.bl).length) (bs.map D.bl) := ROs.all fun d hd => by
    obtain ⟨b, _, rfl⟩ := List.mem_map.mp hd
    exact RO.bl b
  exact ⟨_, _, .lst h1, by decide, by rw [List.length_map]; omega⟩
/-! places in lists -/
section
variable {x0 x1 x2 x3 x4 x5 x6 x7 x8 : D}
theorem itL1 : itD (.lst (x0 :: x1 :: xs)) (.int 1) m Q = Q x1 m := itLn (n := 1) rfl
theorem itL2 : itD (.lst (x0 :: x1 :: x2 :: xs)) (.int 2) m Q = Q x2 m := itLn (n := 2) rfl
theorem itL3 : itD (.lst (x0 :: x1 :: x2 :: x3 :: xs)) (.int 3) m Q = Q x3 m := itLn (n := 3) rfl
theorem itL4 : itD (.lst (x0 :: x1 :: x2 :: x3 :: x4 :: xs)) (.int 4) m Q = Q x4 m := itLn (n := 4) rfl
theorem itL5 : itD (.lst (x0 :: x1 :: x2 :: x3 :: x4 :: x5 :: xs)) (.int 5) m Q = Q x5 m := itLn (n := 5) rfl
theorem itL6 : itD (.lst (x0 :: x1 :: x2 :: x3 :: x4 :: x5 :: x6 :: xs)) (.int 6) m Q = Q x6 m := itLn (n := 6) rfl
theorem itT2 : itD (.tup (x0 :: x1 :: x2 :: xs)) (.int 2) m Q = Q x2 m := itLn (n := 2) rfl
theorem itT3 : itD (.tup (x0 :: x1 :: x2 :: x3 :: xs)) (.int 3) m Q = Q x3 m := itLn (n := 3) rfl
theorem itT4 : itD (.tup (x0 :: x1 :: x2 :: x3 :: x4 :: xs)) (.int 4) m Q = Q x4 m := itLn (n := 4) rfl
end
theorem for_ix {g : DTG} {tb : DTS} {E : DEnds} {I : Nat → DSt → M → Prop} : ∀ {xs : List D} (n : Nat) (h : ∀ i d, xs[i]? = some d → ∀ (K : DSt → M → Prop) (ds : DSt) (m : M), I (n + i) ds m → (∀ ds' m', I (n + i + 1) ds' m' → K ds' m') → g E.ex d ds m fun ds' m' => tb { E with nx := K, ct := K, bk := E.nx } ds' m') (ds : DSt) (m : M), I n ds m → (∀ ds m, I (n + xs.length) ds m → E.nx ds m) → forD g tb E xs ds m
  | [], n, _, ds, m, i, q => q ds m i
  | d :: xs, n, h, ds, m, i, q => h 0 d rfl _ ds m i fun ds' m' i' => for_ix (n + 1) (fun j e he K ds m hi hK => h (j + 1) e he K ds m (by rw [show n + (j + 1) = n + 1 + j by omega]; exact hi) (fun ds' m' hi' => hK ds' m' (by rw [show n + 1 + j + 1 = n + (j + 1) + 1 by omega]; exact hi'))) ds' m' i' fun ds m hi => q ds m (by rw [show n + (d :: xs).length = n + 1 + xs.length by simp; omega]; exact hi)
/-- a proof that two ways share -/
theorem share {R : Int → M → Prop} {goal : Prop} (C : Int → M → Prop) (h1 : (∀ b m1, C b m1 → R b m1) → goal) (h2 : ∀ b m1, C b m1 → R b m1) : goal := h1 h2
theorem rng_at {d : D} {n : Nat} {a : Int} (h : d ∈ rng a n) : ∃ k : Nat, d = .int (a + k) ∧ k < n := by
  unfold rng at h
  obtain ⟨k, hk, rfl⟩ := List.mem_map.mp h
  exact ⟨k, rfl, List.mem_range.mp hk⟩
theorem bls_true : ∀ {zs : List D}, (∀ y ∈ zs, y = .bl true) → ∃ bs : List Bool, zs = bs.map D.bl ∧ bs.all id = true
  | [], _ => ⟨[], rfl, rfl⟩
  | z :: zs, h => by
    obtain ⟨bs, e, a⟩ := bls_true (zs := zs) fun y hy => h y (List.mem_cons_of_mem _ hy)
    exact ⟨true :: bs, by rw [h z (List.mem_cons_self ..), e]; rfl, by simpa using a⟩
end DL

/-! own exception classes over any of the built-ins: making one, its fields -/
namespace PySem
namespace DLX
open PySem.W PySem.Calls PyProof.Rows PySem.HandSPX Builtin Builtin.ObjectAttr
/-- own classes, then the built-in's mro -/
def refsG (T : List Value) : List Value → Bool
  | .ref _ :: r => refsG T r
  | l => l == T
/-- what the tail must be -/
structure TailOk (T : List Value) : Prop where
  noref : ∀ c r, T ≠ .ref c :: r
  pass : ∀ self, refuseLoop self "__setattr__" T = pure ()
  obj : T.contains (.type "object") = true
  ne : T.isEmpty = false
theorem refsG_cases {T : List Value} : ∀ l : List Value, refsG T l = true → (∃ c r, l = .ref c :: r ∧ refsG T r = true) ∨ l = T
  | [], e => Or.inr (eq_of_beq (a := ([] : List Value)) e)
  | v :: r, e => by
    cases v <;> first | exact .inr (beq_iff_eq.mp e) | exact .inl ⟨_, r, rfl, e⟩
theorem refsG_pass {T : List Value} (ok : TailOk T) (self : Value) : ∀ l : List Value, refsG T l = true → refuseLoop self "__setattr__" l = pure () := by
  intro l
  induction l with
  | nil => intro e; have : [] = T := beq_iff_eq.mp e; rw [this]; exact ok.pass self
  | cons v r ih =>
    intro e
    rcases refsG_cases (v :: r) e with ⟨c, r', q, h⟩ | q
    · cases q
      rw [refuseLoop_ref]
      exact ih h
    · rw [q]; exact ok.pass self
theorem refsG_has {T : List Value} (Y : String) : ∀ l : List Value, refsG T l = true → l.contains (.type Y) = T.contains (.type Y) := by
  intro l
  induction l with
  | nil => intro e; have : [] = T := beq_iff_eq.mp e; rw [this]
  | cons v r ih =>
    intro e
    rcases refsG_cases (v :: r) e with ⟨c, r', q, h⟩ | q
    · cases q
      rw [List.contains_cons, ih h]
      rfl
    · rw [q]
theorem refsG_ne {T : List Value} (ok : TailOk T) {l : List Value} (e : refsG T l = true) : l.isEmpty = false := by
  rcases refsG_cases l e with ⟨c, r, q, _⟩ | q
  · rw [q]; rfl
  · rw [q]; exact ok.ne
theorem tail_RT : TailOk [.type "RuntimeError", .type "Exception", .type "BaseException", .type "object"] := ⟨(fun c r z => by cases z), fun self => F.store_RuntimeError.passes self, by decide +kernel, rfl⟩
theorem tail_LK : TailOk [.type "LookupError", .type "Exception", .type "BaseException", .type "object"] := ⟨(fun c r z => by cases z), fun self => F.store_LookupError.passes self, by decide +kernel, rfl⟩
theorem tail_AR : TailOk [.type "ArithmeticError", .type "Exception", .type "BaseException", .type "object"] := ⟨(fun c r z => by cases z), fun self => F.store_ArithmeticError.passes self, by decide +kernel, rfl⟩
theorem tail_VE : TailOk veTail := ⟨(fun c r z => by cases z), fun self => F.store_ValueError.passes self, by decide +kernel, rfl⟩
section
variable {prog : Program} {w : World} {A : Around} {R : Result → Shared → Prop} {K : W.Frag} {T : List Value} {hp : Heap} {g : Array GenState} {d : Drawn} {t : Nat} {os : OsState} {n : Str} {tk : Tok} {v : Value} {x C : Addr} {row : ClassData}
/-- the rest of a storing: the object's own dict takes the value; Done tells of the heap behind it -/
def InOwn (prog : Program) (w : World) (x C : Addr) (n : Str) (tk : Tok) (v : Value) (s : Shared) (Done : Heap → Prop) : Prop :=
  ∀ (B : Around) (Q : PySem.Fin → Shared → Prop) (E : Value → Shared → Prop), (∀ (h' : Heap) (tk' : Nat), Done h' → Q (.done (.ret .none)) { s with heap := h', toks := tk' }) → wpAny (model prog w) B (storeInOwnDict (.ref x) (.ref C) (.str n tk) n v false) Q E s
/-- what all of an own exception's storings have in common -/
theorem osa_any {ox : Obj} {od : Option Obj} {Done : Heap → Prop} (ok : TailOk T) (kin : K.In hp) (inst : W.InstAt hp x ox C od) (hrow : W.clsIn K C = some row) (tail : refsG T row.mro = true) (bare : W.findIn K (.ref C) n = some none)
    (rest : InOwn prog w x C n tk v ⟨hp, g, d, t, os⟩ Done) (hq : ∀ (h' : Heap) (tk' : Nat), Done h' → R (.ok (.ret .none)) ⟨h', g, d, tk', os⟩) : codeAny (model prog w) A (.call (.builtin "object.__setattr__") ⟨[.ref x, .str n tk, v], []⟩) R ⟨hp, g, d, t, os⟩ := by
  have top : W.mroIn K C (.type "object") = some true := by
    unfold W.mroIn
    simp only [hrow, Option.bind_some, refsG_ne ok tail, refsG_has "object" _ tail, ok.obj, Bool.false_eq_true, ↓reduceIte]
  have so := F.store_object
  have kindX := inst.type (M := model prog w)
  apply codeAny_call_builtin so.slot.plain so.entry
  apply @W.check_slot (model prog w) _ _ ⟨hp, g, d, t, os⟩ "object.__setattr__" "object" "__setattr__" (.ref x) [.str n tk, v] [] _ so.kind so.split (kindX.andThen (W.looks_mroIn kin top)) (so.args (.ref x) (.str n tk) v)
  rw [W.osa_eq, refuse_eq]
  have mros : W.Looks (model prog w) hp (mroOf (.ref C)) row.mro := (W.looks_clsIn kin hrow).andThen .now
  refine wpAny_bind (wpAny_bind (kindX.at (wpAny_bind (mros.at ?_))))
  rw [refsG_pass ok (.ref x) row.mro tail]
  have nobody : W.Looks (model prog w) hp (storeTaker? none) none := .now
  exact wpAny_pure (wpAny_bind (kindX.at (wpAny_bind ((W.looks_findIn kin bare).at (wpAny_bind (nobody.at (rest _ _ _ hq)))))))
/-- no field so far: the dict is made -/
theorem inOwn_new {fv : Array Value} (kin : K.In hp) (self : hp.get? x = some { cls := .ref C, data := .fields fv }) (hrow : W.clsIn K C = some row) (own : row.hasDict = true) :
    InOwn prog w x C n tk v ⟨hp, g, d, t, os⟩ fun h' => ∃ dx, hp.objs.size ≤ dx ∧ dx ≠ x ∧ h'.get? x = some { cls := .ref C, dict := some dx, data := .fields fv } ∧ (h'.Ns1 dx fun y => if y = n then some v else none) ∧ ∀ b o, b ≠ x → hp.get? b = some o → h'.get? b = some o := by
  intro B Q E done
  have far : x ≠ hp.objs.size := Nat.ne_of_lt (Heap.lt_size self)
  have ofC : W.Looks (model prog w) hp (classData C) row := W.looks_clsIn kin hrow
  have pushed := fun {b : Addr} {o : Obj} (there : hp.get? b = some o) => Heap.get?_push_of_some { cls := .type "dict", data := .dict #[] } there
  cases row with
  | mk rn rb rm rs rq rd rl ru ra rc rx =>
    cases (show rd = true from own)
    (unfold storeInOwnDict; unfold ownDictForStores)
    repeat (first | (with_reducible refine store_in_new ?_ ?_) | (with_reducible refine wpAny_loadPart_at self ?_) | (with_reducible refine ofC.at ?_) | wp_step)
    · exact ⟨_, #[], _, (Heap.get?_update_ne _ _ _ _ far.symm).trans (Heap.get?_push_at rfl rfl), rfl, fun e he => absurd he (by simp), fun _ => rfl⟩
    · intro h' tk' names only
      refine done h' tk' ⟨hp.objs.size, Nat.le_refl _, far.symm, (only.2 x far).trans (Heap.get?_update_self _ (pushed self) rfl), names, fun b o off there => ?_⟩
      rw [only.2 b (Nat.ne_of_lt (Heap.lt_size there)), Heap.get?_update_ne _ _ _ _ off]
      exact pushed there
/-- the dict is there -/
theorem inOwn_old {fv : Array Value} {dx : Addr} {m0 : Str → Option Value} {nl : List Str} (kin : K.In hp) (self : hp.get? x = some { cls := .ref C, dict := some dx, data := .fields fv }) (names : hp.Ns1 dx m0) (few : Within m0 nl) (line : nl.length ≤ 1000)
    (hrow : W.clsIn K C = some row) (own : row.hasDict = true) :
    InOwn prog w x C n tk v ⟨hp, g, d, t, os⟩ fun h' => (h'.Ns1 dx fun y => if y = n then some v else m0 y) ∧ ∀ b o, b ≠ dx → hp.get? b = some o → h'.get? b = some o := by
  intro B Q E done
  have ofC : W.Looks (model prog w) hp (classData C) row := W.looks_clsIn kin hrow
  cases row with
  | mk rn rb rm rs rq rd rl ru ra rc rx =>
    cases (show rd = true from own)
    (unfold storeInOwnDict; unfold ownDictForStores)
    repeat (first | (with_reducible refine OEX.store_in_old names few line ?_) | (with_reducible refine wpAny_loadPart_at self ?_) | (with_reducible refine ofC.at ?_) | wp_step)
    exact fun h' tk' now only => done h' tk' ⟨now, fun b o off there => (only.2 b off).trans there⟩
end
end DLX
end PySem
namespace DL
open PySem PySem.Spec PyProof.Rows L2
open L2H (RoomH)
/-- an own exception class over the built-in B, in the written part -/
structure OexG (K : PySem.W.Frag) (C : Addr) (B newId initId : String) (T : List Value) : Prop where
  bf : ExcBaseFacts B newId initId T
  tl : DLX.TailOk T
  cls : ∃ nm q N bs bm sn sub ab col dd k0 k1 k2 k3 k5, K.lookup C = some (excClassObj nm q C N bs bm true sn sub ab col dd k0 k1 k2 k3 k5 newId) ∧ DLX.refsG T bm = true
  (sa : PySem.W.findIn K (.ref C) "__setattr__" = some (some (.builtin "object.__setattr__"))) (exC : PySem.W.subIn K (.ref C) (.type "BaseException") = some true) (tyC : PySem.W.typeIn K (.ref C) = some (.type "type")) (kC : PySem.W.keepIn K (.ref C) = true)
section
variable {X : Cx} {pins : List (Addr × Obj)} {σ : L2.St} {H : Hp} {s : Shared} {a C dx : Addr} {f : Str} {y : V} {u : Value} {fs : List (Str × V)} {Q : Unit → Shared → Prop} {E : Value → Shared → Prop} {A : Around} {B newId initId : String} {T : List Value}
/-- the class's own record -/
theorem OexG.row {K : PySem.W.Frag} (Z : OexG K C B newId initId T) : ∃ r, PySem.W.clsIn K C = some r ∧ DLX.refsG T r.mro = true ∧ r.hasDict = true := by
  obtain ⟨nm, q, N, bs, bm, sn, sub, ab, col, dd, k0, k1, k2, k3, k5, looked, tail⟩ := Z.cls
  refine ⟨{ name := nm, bases := bs, mro := .ref C :: bm, ns := N, qualname := q, hasDict := true, slotNames := sn, subclasses := sub, abstract := ab, collection := col, hasDel := false }, ?_, tail, rfl⟩
  unfold PySem.W.clsIn
  rw [looked] <;> rfl
/-- the exception's first field: the heap of readings gets its dict -/
theorem firstField {h' : Heap} {tk' : Nat} (I : Inv X pins σ H s) (e : H a = some (exo a C none)) (ry : RelV y u) (young : s.heap.objs.size ≤ dx) (off : dx ≠ a) (hx : ∃ t0 : Addr, h'.get? a = some { cls := .ref C, dict := some dx, data := .fields #[.ref t0, .none, .none, .none, .bool false, .none] })
    (names : h'.Ns1 dx fun z => if z = f then some u else none) (same : ∀ b o, b ≠ a → s.heap.get? b = some o → h'.get? b = some o) : Inv X pins σ (upd (upd H dx (exd dx [(f, y)])) a (exo a C (some dx))) { s with heap := h', toks := tk' } := by
  obtain ⟨t0, hx⟩ := hx
  have free : H dx = none := I.hok.fresh young
  have offA : ∀ {b : Addr}, H b = none → b ≠ a := fun hb hba => by rw [hba, e] at hb; cases hb
  have offD : ∀ {b : Addr} {o : Obj}, s.heap.get? b = some o → b ≠ dx := fun there => Nat.ne_of_lt (Nat.lt_of_lt_of_le (Heap.lt_size there) young)
  have keeps : ∀ {b : Addr} {o : HO}, b ≠ a → H b = some o → upd (upd H dx (exd dx [(f, y)])) a (exo a C (some dx)) b = some o := fun hb ho => by rw [upd_ne hb, upd_ne (ne_of_none ho free)]; exact ho
  refine I.un (t' := tk') ?_ ?_
  · constructor
    · exact fun b o there out _ _ => same b o (offA out) there
    · exact fun b o there out _ _ => ⟨o.slots, same b o (offA out) there⟩
    · exact fun b o there out _ => by rw [upd_ne (offA out), upd_ne (offD there)]; exact out
    · intro b o there _
      rcases Decidable.em (b = a) with rfl | hb
      · exact ⟨_, hx⟩
      · exact ⟨o, same b o hb there⟩
    · exact fun b xs q => keeps (at_ne e q exo_tup) q
    · exact fun b o w q => keeps (at_ne e q exo_frz) q
    · exact fun b ps q => ⟨#[], by rw [keeps (at_ne e q exo_tbl) q, Array.append_empty]⟩
  · intro b o q
    rcases Decidable.em (b = a) with rfl | hb
    · rw [upd_same] at q
      exact Option.some.inj q ▸ exo_ok hx
    rw [upd_ne hb] at q
    rcases Decidable.em (b = dx) with rfl | hd
    · rw [upd_same] at q
      exact Option.some.inj q ▸ exd_ok names (relO_put (fs := []) ry fun _ => True.intro)
    rw [upd_ne hd] at q
    exact (I.hok b o q).stay (fun c w own there => same c w (own.elim (fun z => z ▸ hb) fun z => at_ne e z exo_own) there) (fun c z => keeps (at_ne e z exo_own) z) fun c xs z => keeps (at_ne e z exo_tup) z
theorem st_new (Z : OexG X.K C B newId initId T) (I : Inv X pins σ H s) (e : H a = some (exo a C none)) (hno : PySem.W.findIn X.K (.ref C) f = some none) (ry : RelV y u)
    (go : ∀ dx s', H dx = none → dx ≠ a → Inv X pins σ (upd (upd H dx (exd dx [(f, y)])) a (exo a C (some dx))) s' → Q () s') : wpAny (model X.prog X.w) A (setAttr (.ref a) f u) Q E s := by
  obtain ⟨r, looked, tail, own⟩ := Z.row
  obtain ⟨t0, at_⟩ := exo_at I.hok e
  obtain ⟨hp, gs, dr, tk, os⟩ := s
  have inst : PySem.W.InstAt hp a { cls := .ref C, dict := none, data := .fields #[.ref t0, .none, .none, .none, .bool false, .none] } C none := ⟨at_, rfl, rfl, True.intro⟩
  refine PySem.W.set_plain I.kIn inst Z.sa (PySem.DLX.osa_any Z.tl I.kIn inst looked tail hno (PySem.DLX.inOwn_new I.kIn at_ looked own) ?_)
  rintro h' tk' ⟨dx, young, off, hx, names, same⟩
  exact go dx _ (I.hok.fresh young) off (firstField I e ry young off ⟨t0, hx⟩ names same)
theorem st_old (Z : OexG X.K C B newId initId T) (I : Inv X pins σ H s) (e : H a = some (exo a C (some dx))) (ed : H dx = some (exd dx fs)) (few : fs.length ≤ 900) (hno : PySem.W.findIn X.K (.ref C) f = some none) (ry : RelV y u)
    (go : ∀ s', Inv X pins σ (upd H dx (exd dx ((f, y) :: fs))) s' → Q () s') : wpAny (model X.prog X.w) A (setAttr (.ref a) f u) Q E s := by
  obtain ⟨r, looked, tail, own⟩ := Z.row
  obtain ⟨t0, at_⟩ := exo_at I.hok e
  obtain ⟨m0, names, rel⟩ := exd_at I.hok ed
  obtain ⟨hp, gs, dr, tk, os⟩ := s
  obtain ⟨od, _, _, atD, _⟩ := names.count (within_of rel)
  have inst : PySem.W.InstAt hp a { cls := .ref C, dict := some dx, data := .fields #[.ref t0, .none, .none, .none, .bool false, .none] } C (some od) := ⟨at_, rfl, rfl, atD⟩
  have line : (fs.map (·.1)).length ≤ 1000 := by rw [List.length_map]; exact Nat.le_trans few (by decide)
  refine PySem.W.set_plain I.kIn inst Z.sa (PySem.DLX.osa_any Z.tl I.kIn inst looked tail hno (PySem.DLX.inOwn_old I.kIn at_ names (within_of rel) line looked own) ?_)
  rintro h' tk' ⟨now, same⟩
  refine go _ (I.write (t' := tk') (x := dx) (e := dx) (o := exd dx ((f, y) :: fs)) (ed ▸ True.intro) (.inl rfl) same ?_ (exd_ok now (relO_put ry rel)))
  exact now.elim fun o both => both.elim fun _ z => z.elim fun _ z => ⟨o, z.1⟩
end
/-- the dict's reading behind self.f = y -/
def FieldPut (C a : Addr) (f : Str) (y : V) (H : Hp) (Q : Hp → Prop) : Prop :=
  (H a = some (exo a C none) ∧ ∀ dx, H dx = none → dx ≠ a → Q (upd (upd H dx (exd dx [(f, y)])) a (exo a C (some dx)))) ∨
  (∃ dx fs, H a = some (exo a C (some dx)) ∧ H dx = some (exd dx fs) ∧ fs.length ≤ 900 ∧ Q (upd H dx (exd dx ((f, y) :: fs))))
/-- self.f = e, in the __init__ of such a class -/
def tStG (C : Addr) (f : Str) (to te : TE) : TS := fun D σ H => te σ H fun y H1 => to σ H1 fun x H2 => ∃ a : Addr, x = .ref a ∧ FieldPut C a f y H2 (D.nx σ)
section
variable {X : Cx} {C : Addr} {o e : Expr} {es : List Expr} {to te : TE} {ta : TA} {f : Str} {p p' pos : Pos} {B newId initId : String} {T : List Value}
theorem ps_stG (Z : OexG X.K C B newId initId T) (hno : PySem.W.findIn X.K (.ref C) f = some none) (ho : PE X o to) (he : PE X e te) (hs : swapsWith e (some (.Attribute o f p')) pos.line X.env = pure false := by rfl) : PS X (.Assign [.Attribute o f p'] e pos) (tStG C f to te) := by
  constructor
  intro pins s σ H D I h
  refine plainObj_wpAny_Assign_Attribute (wpAny_mono (he.run pins s σ H _ I h) ?_ fun _ _ z => z) hs
  rintro v s1 ⟨y, H1, I1, ry, h1⟩
  refine wpAny_mono (ho.run pins s1 σ H1 _ I1 h1) ?_ fun _ _ z => z
  rintro u s2 ⟨_, H2, I2, rx, a, rfl, put⟩
  refine (show u = Value.ref a from rx) ▸ put.elim (fun new => st_new Z I2 new.1 hno ry fun dx s' free off J => ⟨σ, _, J, new.2 dx free off⟩) ?_
  rintro ⟨dx, fs, ea, ed, few, q⟩
  exact st_old Z I2 ea ed few hno ry fun s' J => ⟨σ, _, J, q⟩
/-- what an __init__ that keeps its parameters promises -/
def spKeep (C : Addr) (fl : List Str) : Sp := fun vs H Q _ => ∃ a ys, vs = .ref a :: ys ∧ ys.length = fl.length ∧ H a = some (exo a C none) ∧
  ∀ d H', H d = none → d ≠ a → H' a = some (exo a C (some d)) → H' d = some (exd d ((fl.zip ys).reverse)) → (∀ b, b ≠ a → b ≠ d → H' b = H b) → Q .non H'
/-- the heaps behind a kept exception: told without the object, with its fields -/
theorem kept_eq {H1 H' : Hp} {a d : Addr} {fs : List (Str × V)} (new : H1 a = none) (same : ∀ b, b ≠ a → b ≠ d → H' b = upd H1 a (exo a C none) b) : upd (del H' a) d (.xd fs) = upd H1 d (.xd fs) := by
  funext b
  rcases Decidable.em (b = d) with rfl | hd
  · rw [upd_same, upd_same]
  rw [upd_ne hd, upd_ne hd]
  rcases Decidable.em (b = a) with rfl | ha
  · rw [del_same, new]
  · rw [del_ne ha, same b ha hd, upd_ne ha]
/-- C(e, ..) where C's __init__ keeps its parameters -/
theorem pmkG {x : Str} {fI : Addr} {k : Nat} {fd : FuncData} {ps : List Str} {fl : List Str} {hot grd : Bool} (Z : OexG X.K C B newId initId T) (iC : PySem.W.findIn X.K (.ref C) "__init__" = some (some (.ref fI))) (tI : PySem.W.typeIn X.K (.ref fI) = some (.type "function"))
    (F1 : FnG hot grd X.prog X.w X.K X.mg X.base k fI fd ps (spKeep C fl)) (hr : Rm hot grd (k + 1) X.A) (hb : Binds X.K fd ps []) (hg : Gl X x) (hm : X.mg x = some (.ref C)) (ha : PA X (e :: es) ta)
    (hdb : (x == ("__debug__" : Str)) = false := by decide) (hst : starEach (e :: es) X.env = (false, eval e X.env) :: starEach es X.env := by rfl) (hpl : (backTo pos (starEach es X.env)).any (·.1) = false := by rfl) :
    PMk X (.Call (.Name x p) (e :: es) [] pos) (fun σ H Q => ta σ H fun vs H1 => vs.length ≤ 1000 ∧ vs.length = fl.length ∧ ∀ d, H1 d = none → Q (.ref C) (some d) (upd H1 d (.xd ((fl.zip vs).reverse)))) := by
  intro pins s σ H Q I h
  obtain ⟨nm, q, N, bs, bm, sn, sub, ab, col, dd, k0, k1, k2, k3, k5, looked, tail⟩ := Z.cls
  have args := ha.run pos pins s σ H _ I h
  refine wpAny_Call_Name_kw (ld_glob I hg hm (PySem.W.callWith_K (h₀ := X.base) I.ok.mod.kin Z.kC (wpAny_mono args ?_ fun _ _ z => z) hst hpl) hdb)
  rintro us ⟨hp, gs, dr, tk, os⟩ ⟨vs, H1, I1, r1, short, hlen, q1⟩
  refine ⟨I1.kIn, ?_⟩
  -- the argument tuple stands at the heap's end, the exception behind it
  let a : Addr := hp.objs.size + 1
  let two : Heap := (hp.push (PySem.W.kdv_tup us)).push (PySem.HandSPX.excO C hp.objs.size)
  have below : hp.objs.size ≤ a := Nat.le_add_right _ 1
  have newA : H1 a = none := I1.hok.fresh below
  have kept : ∀ b o, hp.get? b = some o → two.get? b = some o := fun b o there => Heap.get?_push_of_some _ (Heap.get?_push_of_some _ there)
  have standsA : two.get? a = some (PySem.HandSPX.excO C hp.objs.size) := by
    show ((hp.push (PySem.W.kdv_tup us)).push (PySem.HandSPX.excO C hp.objs.size)).get? (hp.objs.size + 1) = _
    heap_get
  have I2 : Inv X pins σ (upd H1 a (exo a C none)) ⟨two, gs, dr, tk, os⟩ := I1.laid (t' := tk) kept below (exo_ok standsA)
  have rows : Vals (V.ref a :: vs) (Value.ref a :: us) := .cons (show RelV (.ref a) (.ref a) from rfl) r1
  have line : us.length ≤ sizeLine := by
    have := Paired.length r1
    rw [sizeLine_eq]
    omega
  have prom : spKeep C fl (V.ref a :: vs) (upd H1 a (exo a C none)) (fun v H2 => v = .non ∧ ∃ (d : Addr) (fs : List (Str × V)), H2 a = some (exo a C (some d)) ∧ H2 d = some (exd d fs) ∧ H1 d = none ∧ Q (.ref C) (some d) (upd (del H2 a) d (.xd fs))) fun _ _ _ => False := by
    refine ⟨a, vs, rfl, hlen, upd_same, fun d H' out off hA hD same => ⟨rfl, d, _, hA, hD, ?_⟩⟩
    rw [upd_ne off] at out
    exact ⟨out, (kept_eq (fs := (fl.zip vs).reverse) newA same) ▸ q1 d out⟩
  have binds := hb _ (Value.ref a :: us) I2.kIn (by rw [List.append_nil, ← rows.length]; exact F1.len _ _ _ _ prom)
  rw [List.append_nil] at binds
  have init := F1.go _ X.stack _ _ _ _ _ _ _ (hr.make C us []) (I2.env0.make C us []) binds rows prom
  refine wpAny_call (PySem.HandSPX.call_own Z.bf (fun Y => PySem.DLX.refsG_has Y bm tail) (I1.kIn _ _ looked) (PySem.W.looks_findIn I1.kIn iC) (fun self => PySem.W.bind_fn I1.kIn self tI) line (codeAny_mono init ?_))
  rintro (er | fl') s2 end_
  · exact (cx_no end_).elim
  · cases fl' with
    | ret u =>
      obtain ⟨_, H2, os2, bare2, un2, hok2, ru, rfl, d, fs, ea, ed, out, q2⟩ := end_
      exact ⟨ru, mk_end (raises_own Z.exC Z.tyC) I1 below kept un2 hok2 os2 bare2 ea ed out q2⟩
    | next => exact (show False from end_).elim
    | brk => exact (show False from end_).elim
    | cont => exact (show False from end_).elim
/-! ### the __init__ itself -/
end
section
variable {hot grd : Bool} {P : Program} {w : World} {K : PySem.W.Frag} {mg : Str → Option Value} {base : Heap}
/-- a def, told of the heap -/
theorem fn_okV {x qual : Str} {st : Stmt} {f : Addr} {fd : FuncData} {N ps : List Str} {k : Nat} {sp : Sp} (F : Fun K x qual st f fd) (S : FnScope N ps (defScope st)) (hlen : ∀ vs H Q E, sp vs H Q E → vs.length = ps.length)
    (hbody : ∀ (cdv : Value) (A : Around) (outer : List Env) (s : Shared) (H : Hp) (E : XK) (vs : List V) (Q : VK), Rm hot grd k (A.deeper (envOfC qual (defScope st) s.heap.objs.size f cdv)) → sp vs H Q E →
      ∃ t, PSs (cxG hot P w K mg base N qual (defScope st) f cdv A outer s H E) (defBody st) t ∧ t { nx := fun _ H' => Q .non H', rt := Q } (L2.start N vs) H) : FnG hot grd P w K mg base (k + 1) f fd ps sp := by
  obtain ⟨oc, od, kV, doc, pm, an, cdv, ct, osl, hfd, lk, hcd⟩ := F.ex
  subst hfd
  refine ⟨hlen, fun A outer s H args us vs Q E hr e0 hb hv hsp => ?_⟩
  have vl : vs.length = ps.length := hlen _ _ _ _ hsp
  have KX : K.In s.heap := e0.mod.kin.keeps fun b o q => (e0.bs b o q).1
  have lim : s.heap.NoLimit := e0.mod.nolimit.keeps fun b o q => (e0.bs b o q).1
  refine codeAny_call_function hr.room.depth (KX f _ lk) rfl S.co S.gen rfl (PySem.W.codeRec_of KX hcd) (hb _ _ _ _ (wpAny_newFunctionEnv_cells S.kind (fun y hy => ?_) fun env he s1 ic => ?_))
  · obtain ⟨n, u⟩ := y
    cases S.par n (List.of_mem_zip hy).1 with
    | inl isLocal => exact .inl isLocal
    | inr isCell => exact .inr ⟨isCell, PySem.W.cellsFrom_some _ _ _ (.inl isCell)⟩
  · subst he
    refine ⟨lim.keeps ic.toInCall.keep, codeAny_func ?_⟩
    have rm : Rm hot grd k (A.deeper (envOfC qual (defScope st) s.heap.objs.size f cdv)) := ⟨hr.room.deeper _, hr.calm, hr.gd⟩
    obtain ⟨t, ht, hq⟩ := hbody cdv A outer s H E vs Q rm hsp
    have e1 : Env0 P w K mg base { A with handled := none } outer s H := ⟨e0.frames, e0.mod, e0.bs, e0.bsz, e0.funs, e0.frf, e0.hok, e0.bare⟩
    have I := inv_cxG (hot := hot) (A := A) (E := E) hr.calm e0 (inv_start (CX := L2.CX P w) S rfl e1 vl hv ic)
    refine wpAny_mono (ht.run [] s1 _ H _ I hq) (fun fl s' hs => ?_) fun e s' hs => hs
    cases fl with
    | ret u => exact let ⟨v, σ', H', J, rv, q⟩ := hs; ⟨v, H', J.os, J.bare, J.base, J.hok, rv, q⟩
    | next => exact let ⟨σ', H', J, q⟩ := hs; ⟨V.non, H', J.os, J.bare, J.base, J.hok, rfl, q⟩
    | brk => exact let ⟨_, _, _, q⟩ := hs; False.elim q
    | cont => exact let ⟨_, _, _, q⟩ := hs; False.elim q
theorem keep_len {C : Addr} {fl ps : List Str} (h : ps.length = fl.length + 1) : ∀ vs H Q E, spKeep C fl vs H Q E → vs.length = ps.length := fun vs H Q E ⟨a, ys, e, hl, _⟩ => by
  rw [e, List.length_cons, hl, h]
theorem keep1 {x1 qual p1 f1 : Str} {st : Stmt} {f C : Addr} {fd : FuncData} {B newId initId : String} {T : List Value} {a1 a2 a3 : Pos} {b1 : Pos} (F : Fun K "__init__" qual st f fd) (S : FnScope ["self", p1] ["self", p1] (defScope st)) (Z : OexG K C B newId initId T) (n1 : PySem.W.findIn K (.ref C) f1 = some none)
    (hb : defBody st = [.Assign [.Attribute (.Name "self" a1) f1 a2] (.Name p1 a3) b1])
    (v0 : Vis (defScope st) "self") (v1 : Vis (defScope st) p1) (d1 : (p1 == ("__debug__" : Str)) = false) (c1 : (p1 == ("__classdict__" : Str)) = false) :
    FnG hot grd P w K mg base 1 f fd ["self", p1] (spKeep C [f1]) := by
  refine fn_okV F S (keep_len rfl) (fun cdv A outer s H E vs Q hr ⟨a, ys, e, hl, ha, q⟩ => ?_)
  subst e
  rw [hb]
  match ys, hl with
  | [y1], _ =>
    refine ⟨_, pss_one (ps_stG Z n1 (pv 0 rfl v0) (pv 1 rfl v1 d1 c1) rfl), ?_⟩
    refine ⟨y1, rfl, .ref a, rfl, a, rfl, .inl ⟨ha, fun dx hd ne => ?_⟩⟩
    exact q dx _ hd ne upd_same (by rw [upd_ne ne, upd_same]; rfl) (fun b z y => by rw [upd_ne z, upd_ne y])
theorem keep2 {qual p1 p2 f1 f2 : Str} {st : Stmt} {f C : Addr} {fd : FuncData} {B newId initId : String} {T : List Value} {a1 a2 a3 a4 a5 a6 : Pos} {b1 b2 : Pos} (F : Fun K "__init__" qual st f fd) (S : FnScope ["self", p1, p2] ["self", p1, p2] (defScope st)) (Z : OexG K C B newId initId T) (n1 : PySem.W.findIn K (.ref C) f1 = some none)
    (n2 : PySem.W.findIn K (.ref C) f2 = some none) (hb : defBody st = [.Assign [.Attribute (.Name "self" a1) f1 a2] (.Name p1 a3) b1, .Assign [.Attribute (.Name "self" a4) f2 a5] (.Name p2 a6) b2])
    (v0 : Vis (defScope st) "self") (v1 : Vis (defScope st) p1) (v2 : Vis (defScope st) p2) (d1 : (p1 == ("__debug__" : Str)) = false) (d2 : (p2 == ("__debug__" : Str)) = false) (c1 : (p1 == ("__classdict__" : Str)) = false) (c2 : (p2 == ("__classdict__" : Str)) = false) :
    FnG hot grd P w K mg base 1 f fd ["self", p1, p2] (spKeep C [f1, f2]) := by
  refine fn_okV F S (keep_len rfl) (fun cdv A outer s H E vs Q hr ⟨a, ys, e, hl, ha, q⟩ => ?_)
  subst e
  rw [hb]
  match ys, hl with
  | [y1, y2], _ =>
    refine ⟨_, pss_cons (ps_stG Z n1 (pv 0 rfl v0) (pv 1 rfl v1 d1 c1) rfl) (pss_one (ps_stG Z n2 (pv 0 rfl v0) (pv 2 rfl v2 d2 c2) rfl)), ?_⟩
    refine ⟨y1, rfl, .ref a, rfl, a, rfl, .inl ⟨ha, fun dx hd ne => ?_⟩⟩
    refine ⟨y2, rfl, .ref a, rfl, a, rfl, .inr ⟨dx, [(f1, y1)], upd_same, by rw [upd_ne ne, upd_same], Nat.le_trans (Nat.le_refl 1) (by decide), ?_⟩⟩
    exact q dx _ hd ne (by rw [upd_ne ne.symm, upd_same]) (by rw [upd_same]; rfl) (fun b z y => by rw [upd_ne y, upd_ne z, upd_ne y])
end
/-! ### raise, over data -/
theorem Reps.rev {G : CT} {F : Hp} {vs : List V} {xs : List D} (r : Reps G F vs xs) : Reps G F vs.reverse xs.reverse := by
  induction vs generalizing xs with
  | nil => cases r; exact .nil
  | cons v vs ih =>
    cases r with
    | cons h t =>
      simpa only [List.reverse_cons] using (ih t).append (.cons h .nil)
def sRaise (c n : Nat) (ta : DTA) : DTS := fun E ds m => ta E.ex ds m fun xs m1 => xs.length = n ∧ E.ex ds c xs.reverse m1
section
variable {X : Cx} {G : CT} {W : WX} {hot grd : Bool} {k c : Nat} {fI : Addr} {fd : FuncData} {ps fl : List Str} {x : Str} {p pos rpos : Pos} {e : Expr} {es : List Expr} {ta : DTA} {B newId initId : String} {T : List Value}
theorem ds_raise (hc : X.calm = true) (tk : Takes X W) (Z : OexG X.K (G c).addr B newId initId T) (iC : PySem.W.findIn X.K (.ref (G c).addr) "__init__" = some (some (.ref fI))) (tI : PySem.W.typeIn X.K (.ref fI) = some (.type "function"))
    (F1 : FnG hot grd X.prog X.w X.K X.mg X.base k fI fd ps (spKeep (G c).addr fl)) (hr : Rm hot grd (k + 1) X.A) (hb : Binds X.K fd ps []) (hg : Gl X x) (hm : X.mg x = some (.ref (G c).addr)) (hfl : (G c).flds = fl.reverse) (hn : fl.length ≤ 1000) (ha : DA X G W (e :: es) ta)
    (hdb : (x == ("__debug__" : Str)) = false := by decide) (hst : starEach (e :: es) X.env = (false, eval e X.env) :: starEach es X.env := by rfl) (hpl : (backTo pos (starEach es X.env)).any (·.1) = false := by rfl) :
    DS X G W (.Raise (some (.Call (.Name x p) (e :: es) [] pos)) none rpos) (sRaise c fl.length ta) :=
  (ps_raise hc tk (pmkG Z iC tI F1 hr hb hg hm ha hdb hst hpl)).imp fun Dd σ H ⟨F, R, m, ds, E, st, sl, h, ok⟩ => by
    refine ⟨F, R, m, ds, _, E.ex, st, sl, h, ok.ex, fun xs m1 F1 vs H1 ⟨hl, q⟩ l1 s1 r1 => ?_⟩
    have hl' : vs.length = fl.length := r1.length.trans hl
    refine ⟨by rw [hl']; exact hn, hl', fun d hd => ?_⟩
    have l2 := le_upd (o := HO.xd ((fl.zip vs).reverse)) (s1.fnone hd)
    refine ok.ex ds c _ m1 _ σ (some d) _ q (l1.trans l2) (s1.new hd) (sl.le (l1.trans l2)) (.inr ⟨d, _, rfl, upd_same, ?_, ?_⟩)
    · rw [List.map_reverse, List.map_fst_zip (by omega), hfl]
    · rw [List.map_reverse, List.map_snd_zip (by omega)]
      exact (r1.le l2).rev
end
end DL

/-! caught exceptions: their class, their fields, try/except as -/
namespace PySem
namespace DLX
open PySem.W PySem.Spec PySem.Calls PyProof.Rows
section
variable {prog : Program} {w : World} {A : Around} {E : Value → Shared → Prop} {s : Shared} {K : Frag} {x D : Addr} {ox od : Obj}
/-- what the written part tells of an own exception class D, for e.__class__ -/
structure ClassRead (K : Frag) (D : Addr) : Prop where
  (ga : findIn K (.ref D) "__getattribute__" = some (some (.builtin "BaseException.__getattribute__"))) (noGa : findIn K (.ref D) "__getattr__" = some none) (isExc : subIn K (.ref D) (.type "BaseException") = some true) (dict : hasDictIn K D = true)
  (cl : findIn K (.ref D) "__class__" = some (some (.builtin "object.__class__"))) (get : specialIn K (.builtin "object.__class__") "__get__" = some (some (.builtin "getset_descriptor.__get__"))) (data : takesIn K (.builtin "object.__class__") = some true) (isObj : mroIn K D (.type "object") = some true)
/-- the built-in's own reading: found in the class, a descriptor that is asked -/
theorem base_reads {Q : Value → Shared → Prop} {hp : Heap} {g : Array GenState} {d : Drawn} {t : Nat} {os : OsState} {tx : Tok} (Z : ClassRead K D) (KX : K.In hp) (J : InstAt hp x ox D (some od)) (h : Q (.ref D) ⟨hp, g, d, t, os⟩) :
    wpAny (model prog w) A (call (.builtin "BaseException.__getattribute__") [.ref x, .str "__class__" tx]) Q E ⟨hp, g, d, t, os⟩ := by
  have kind := J.type (M := model prog w)
  have found : findObj K D (some od) "__class__" = some (.bind (.builtin "getset_descriptor.__get__") (.builtin "object.__class__")) := by
    obtain ⟨r, looked, _⟩ := any_some Z.dict
    exact findObj_data (looked ▸ rfl) Z.cl Z.get Z.data
  have va := PySem.F.excAttr_ValueError.ga
  apply wpAny_call
  apply codeAny_call_builtin va.plain PySem.F.entry_bexc_ga
  apply @check_slot (model prog w) _ _ ⟨hp, g, d, t, os⟩ "BaseException.__getattribute__" "BaseException" "__getattribute__" (.ref x) [.str "__class__" tx] [] _ (by decide +kernel) (by decide +kernel) (kind.andThen (looks_subIn KX Z.isExc)) (PySem.F.args_bexc_ga (.ref x) (.str "__class__" tx))
  delta Builtin.«object.__getattribute__»
  refine wpAny_bind (wpAny_of_eq (a := (Value.ref x, [Value.str "__class__" tx])) (by first | rfl | (simp only [slotArgs]; rfl)) (wpAny_bind (wpAny_pure (wpAny_bind (kind.at (wpAny_bind ((looks_find KX J found).at ?_)))))))
  have asked : wpAny (model prog w) A.in1 (call (.builtin "getset_descriptor.__get__") [.builtin "object.__class__", .ref x, .ref D]) (fun v s' => v = .ref D ∧ s' = ⟨hp, g, d, t, os⟩) (fun _ _ => False) ⟨hp, g, d, t, os⟩ :=
    wpAny_call (class_get (s := ⟨hp, g, d, t, os⟩) (ox := ox) (od := some od) KX J Z.isObj ⟨rfl, rfl⟩)
  refine wpAny_bind (m := holding [Value.builtin "object.__class__"] (call (.builtin "getset_descriptor.__get__") [.builtin "object.__class__", .ref x, .ref D])) (wpAny_holding (wpAny_mono asked ?_ fun _ _ z => z.elim))
  rintro _ _ ⟨rfl, rfl⟩
  exact wpAny_pure h
/-- the class's own __getattribute__ is that built-in -/
theorem own_reads {Q : Value → Shared → Prop} {hp : Heap} {g : Array GenState} {d : Drawn} {t : Nat} {os : OsState} {tx : Tok} (Z : ClassRead K D) (KX : K.In hp) (J : InstAt hp x ox D (some od)) (h : Q (.ref D) ⟨hp, g, d, t, os⟩) :
    wpAny (model prog w) A (getAttrByItsOwn (.ref x) (.str "__class__" tx) (.ref D) (.builtin "BaseException.__getattribute__") false false) Q E ⟨hp, g, d, t, os⟩ := by
  have heapD : onTheHeap (Value.ref D) = true := rfl
  have outside : (false && onTheHeap (Value.builtin "BaseException.__getattribute__")) = false := rfl
  (unfold getAttrByItsOwn; unfold hookBefore)
  rw [if_pos heapD]
  refine wpAny_bind ((looks_findIn (M := model prog w) KX Z.noGa).at (wpAny_bind (wpAny_attempt (wpAny_holding ?_))))
  (unfold callGetattribute; rw [outside, if_neg Bool.false_ne_true]; unfold boundAndCalled)
  have bound := PySem.F.excAttr_ValueError.ga.bind (.ref x)
  rw [bound]
  refine wpAny_bind (wpAny_pure (base_reads (A := A) Z KX J ?_))
  have out : handedOut (Value.ref D) = pure (Value.ref D) := handedOut_of rfl
  (show wpAny (model prog w) A (handedOut (Value.ref D)) Q E _; rw [out]; exact wpAny_pure h)
theorem cls_at {Q : Option Value → Shared → Prop} (Z : ClassRead K D) (KX : K.In s.heap) (J : InstAt s.heap x ox D (some od)) (h : Q (some (.ref D)) { s with toks := s.toks + 1 }) : wpAny (model prog w) A (getAttr? (.ref x) "__class__") Q E s := by
  obtain ⟨hp, g, d, t, os⟩ := s
  have other : (Value.builtin "BaseException.__getattribute__" == Value.builtin "object.__getattribute__") = false := by decide +kernel
  (unfold getAttr?; unfold getAttrBy?; unfold getAttrBy)
  refine wpAny_bind (wpAny_mkText (wpAny_bind (wpAny_attempt (wpAny_holding (wpAny_bind ((J.type (M := model prog w)).at (wpAny_bind ((looks_findIn (M := model prog w) KX Z.ga).at ?_))))))))
  simp only [other, Bool.and_false, Bool.false_eq_true, ↓reduceIte]
  exact own_reads Z KX J (wpAny_pure h)
theorem kit_exc (Z : ClassRead K D) :
    KitX K (.ref x) (.ref D) (fun h => ∃ od, InstAt h x ox D (some od)) := by
  obtain ⟨cdD, hcD, _⟩ := any_some Z.dict
  have hrec : ∃ c' d' cd' sl', K.lookup D = some ⟨c', d', .cls cd', sl'⟩ := by
    unfold clsIn at hcD
    split at hcD
    · rename_i c' d' cd' sl' ho
      exact ⟨c', d', cd', sl', ho⟩
    · cases hcD
  obtain ⟨c', d', cd', sl', ho⟩ := hrec
  refine ⟨fun _ _ _ ⟨_, J⟩ => J.type, fun _ _ KX _ => ?_, fun h tp dd its n sl KX htp => ?_, fun KX ⟨_, J⟩ k => cls_at Z KX J k⟩
  · intro A' Q' E' s' k q
    unfold isType loadHead
    exact wpAny_bind (wpAny_loadPart (k _ _ (KX _ _ ho)) (wpAny_pure q))
  · refine Bool.eq_false_iff.mpr fun q => ?_
    cases Value.ref.inj (beq_iff_eq.mp q)
    cases (KX _ _ ho).symm.trans htp
end
end DLX
end PySem
namespace DL
open PySem PySem.Spec PyProof.Rows L2
open L2H (RoomH)
section
variable {X : Cx} {G : CT} {W : WX} {a dd : Addr} {oe : Obj} {cls : Value} {d : Option Addr} {pn : List (Addr × Obj)} {e : Expr} {te : DTE} {pos : Pos} {n : Str} {c i : Nat}
/-- e.f, e the error that the suite holds -/
def eXf (G : CT) (cls : Value) (d : Option Addr) (a : Addr) (c : Nat) (n : Str) (te : DTE) : DTE := fun x ds m Q => te x ds m fun v m1 => ∃ dd xs u, cls = .ref (G c).addr ∧ d = some dd ∧ v = .exc a dd c xs ∧ ((G c).flds.zip xs).lookup n = some u ∧ Q u m1
theorem de_xf (T : XfC X.K (G c).addr) (hno : PySem.W.findIn X.K (.ref (G c).addr) n = some none) (hz : Zc cls d oe) (hf : ∃ vs, oe.data = .fields vs) (he : DE (X.suite a ((a, oe) :: pn)) G W e te) (hb : attributeBase e n X.env (eval e X.env) = eval e X.env := by rfl) :
    DE (X.suite a ((a, oe) :: pn)) G W (.Attribute e n pos) (eXf G cls d a c n te) := (pe_xf T hno hz hf he hb).imp fun σ H Q ⟨F, R, m, ds, Q0, x, st, sl, h, xk, kk⟩ => by
  refine ⟨F, R, m, ds, _, x, st, sl, h, xk, fun v m1 F1 u H1 ⟨dd, xs, w, e1, e2, e3, lk, q⟩ l1 s1 r1 => ?_⟩
  subst e3
  cases r1 with
  | @exc _ _ _ gs _ hh ee rr =>
    obtain ⟨y, hy, ry⟩ := zip_look ee rr lk
    exact ⟨rfl, e1, dd, gs, y, e2, s1.fz _ _ hh, hy, kk _ _ _ _ _ q l1 s1 ry⟩
/-- isinstance(e, c) and isinstance(e, (c, ..)) -/
def isxD (G : CT) (K : PySem.W.Frag) (cls : Value) (d : Option Addr) (a : Addr) (c : Nat) : DR := fun xs m Q => ∃ dd ys y b, cls = .ref (G c).addr ∧ d = some dd ∧ xs = [.exc a dd c ys, y] ∧
  ((∃ u, clD y = some u ∧ PySem.W.kitOne K (.ref (G c).addr) u = some b) ∨ ∃ cs us, y = .tup cs ∧ cs.map clD = us.map some ∧ PySem.W.kitAny K (.ref (G c).addr) us = some b) ∧ Q (.bl b) m
theorem clDs {F : Hp} : ∀ {vs : List V} {cs : List D} {us : List Value}, Reps G F vs cs → cs.map clD = us.map some → Paired ClsV vs us
  | _, [], [], .nil, _ => .nil
  | _, [], u :: us, .nil, e => by simp at e
  | _, c :: cs, [], _, e => by simp at e
  | v :: vs, c :: cs, u :: us, .cons r rr, e => by
    exact .cons (cl_of r (List.cons.inj e).1) (clDs rr (List.cons.inj e).2)
theorem cd_isx (C : ExcC X.K (G c).addr) (hz : Zc cls d oe) (hf : ∃ vs, oe.data = .fields vs) : CallD (X.suite a ((a, oe) :: pn)) G (.builtin "isinstance") (isxD G X.K cls d a c) := by
  rintro pins s σ H vs us Q I r ⟨F, R, m, xs, Q0, st, rr, ⟨dd, ys, y, b, e1, e2, e3, h, q⟩, kk⟩
  subst e3
  subst e1
  subst e2
  cases rr with
  | cons rx rr =>
    cases rr with
    | cons ry rr =>
      cases rr
      obtain ⟨ux, uy, rfl, vx, vy⟩ := vals2 r
      cases rx with
      | @exc _ _ _ gs _ hh ee rg =>
        cases (show ux = Value.ref a from vx)
        have hget := (I.pin (a, oe) (List.mem_append_left _ List.mem_cons_self)).1
        obtain ⟨fv, hv⟩ := hf
        obtain ⟨mA, hns, _⟩ := (show ObjOk X.prog X.w H s.heap dd (.xd gs) from I.hok dd _ (st.fz _ _ hh))
        obtain ⟨od, ho, _⟩ := lookIn_ns hns
        have J : ∃ od, PySem.W.InstAt s.heap a oe (G c).addr (some od) := by
          refine ⟨od, ?_⟩
          obtain ⟨oc, od', oda, osl⟩ := oe
          obtain ⟨h1, h2⟩ := hz
          dsimp only at h1 h2 hv
          subst h1 h2 hv
          exact ⟨hget, rfl, rfl, ho⟩
        have fin : ∀ tk, EP (X.suite a ((a, oe) :: pn)) pins σ Q (.bool b) { s with toks := tk } := fun tk => ⟨.bl b, H, I.kept (t' := tk) fun _ _ z => z, rfl, kk _ _ F _ _ q (Le.refl F) st (.bl _)⟩
        have kit : PySem.W.KitX X.K (.ref a) (.ref (G c).addr) (fun h => ∃ od, PySem.W.InstAt h a oe (G c).addr (some od)) := PySem.DLX.kit_exc (x := a) (ox := oe) ⟨C.hg, C.hk, C.hs, C.hd, C.ha, C.hn, C.ht, C.hm⟩
        have KX : X.K.In s.heap := I.kIn
        rcases h with ⟨u, hu, hk⟩ | ⟨cs, us, ey, hus, hk⟩
        · have e4 := (cl_of ry hu).eq vy
          subst e4
          exact PySem.W.kia_one kit KX J hk (fun z => nomatch z) fin
        · subst ey
          cases ry with
          | @tup p ws _ hp rc =>
            cases (show uy = Value.ref p from vy)
            obtain ⟨_, its, rv, o, h1, h2, n, h3⟩ := (show ObjOk X.prog X.w H s.heap p (.tup ws) from I.hok p _ (st.fz _ _ hp))
            have e3 := ClsV.all (clDs rc hus) rv
            subst e3
            obtain ⟨oc, od, dt, sl⟩ := o
            dsimp only at h2 h3
            subst h2 h3
            exact PySem.W.kia_tup kit KX J h1 hk (fun z => nomatch z) fin
/-! ### try: .. except C as n: .. -/
def sTry (G : CT) (K : PySem.W.Frag) (cv : Value) (i : Nat) (tb : DTS) (ts : Addr → Value → Option Addr → DTS) : DTS := fun E ds m => tb { E with ex := fun ds1 cn xs m1 => ∃ b, PySem.W.exmOne K (.ref (G cn).addr) cv = some b ∧
  (b = true → (G cn).flds ≠ [] ∧ ∀ a dd, ts a (.ref (G cn).addr) (some dd) { nx := fun ds2 m2 => E.nx (ds2.set i none) m2, rt := E.rt, bk := fun ds2 m2 => E.bk (ds2.set i none) m2, ct := fun ds2 m2 => E.ct (ds2.set i none) m2, ex := fun _ _ _ _ => False } (ds1.set i (some (.exc a dd cn xs))) m1) ∧ (b = false → E.ex ds1 cn xs m1) } ds m
theorem ds_try_as {x n : Str} {cv : Value} {body suite : List Stmt} {b₀ : Stmt} {np pos pos' : Pos} {tb : DTS} {ts : Addr → Value → Option Addr → DTS} (hs : X.stack = X.env :: X.outer) (hf : X.env.frame = some X.env.locals) (hN : X.N.Nodup) (hi : X.N[i]? = some n) (hln : X.env.kindOf n = some .local) (hc : Names X x cv) (tk : Takes X W)
    (hb : ∀ (W : WX) (pn : List (Addr × Obj)) (xe : Value → Shared → Prop), Takes (X.tr pn xe) W → PassesOwn (model X.prog X.w) X.A X.env xe → DSs (X.tr pn xe) G W body tb)
    (hsu : ∀ (a : Addr) (oe : Obj) (cls : Value) (d : Option Addr) (pn : List (Addr × Obj)), Zc cls d oe → (∃ vs, oe.data = .fields vs) → DSs (X.suite a ((a, oe) :: pn)) G WF (b₀ :: suite) (ts a cls d)) :
    DS X G W (.Try body [.ExceptHandler (some (.Name x np)) (some n) (b₀ :: suite) pos'] [] [] pos) (sTry G X.K cv i tb ts) :=
  (ps_try_as (Wout := W) (tb := fun W => lS G W tb) (ts := fun a cls d => lS G WF (ts a cls d)) hs hf hN hi hln hc tk hb hsu).imp fun Dd σ H ⟨F, R, m, ds, E, st, sl, h, ok⟩ => by
    refine ⟨F, R, m, ds, _, st, sl, h, ok.nx, ok.rt, ok.bk, ok.ct, fun ds1 cn xs m1 F1 σ1 d1 H1 ⟨b, hb, hy, hn⟩ l1 s1 sl1 xd => ⟨b, hb, fun e a ha => ?_, fun e => ok.ex _ _ _ _ _ _ _ _ (hn e) l1 s1 sl1 xd⟩⟩
    obtain ⟨hne, q⟩ := hy e
    rcases xd with ⟨e1, e2, e3⟩ | ⟨dd, gs, e1, hh, ee, rr⟩
    · exact absurd e3 hne
    · subst e1
      refine ⟨F1, R, m1, _, _, s1, sl1.set i (.exc hh ee rr), q a dd, fun ds2 m2 F2 σ2 H2 q2 l2 s2 sl2 => ok.nx _ _ _ _ _ q2 (l1.trans l2) s2 (sl2.forget i none), fun d2 m2 F2 v2 H2 q2 l2 s2 r2 => ok.rt _ _ _ _ _ q2 (l1.trans l2) s2 r2,
        fun ds2 m2 F2 σ2 H2 q2 l2 s2 sl2 => ok.bk _ _ _ _ _ q2 (l1.trans l2) s2 (sl2.forget i none), fun ds2 m2 F2 σ2 H2 q2 l2 s2 sl2 => ok.ct _ _ _ _ _ q2 (l1.trans l2) s2 (sl2.forget i none), fun _ _ _ _ _ _ _ _ z => False.elim z⟩
end
end DL
namespace DL
open PySem L2
theorem Rm.suite {hot grd : Bool} {k : Nat} {A : Around} {o : Option Value} (r : Rm hot grd k A) : Rm true grd k (A.mark o) :=
  ⟨⟨r.room.dp, r.room.un⟩, (fun z => nomatch z), r.gd⟩
end DL
namespace DL
open PySem L2
section
variable {K : PySem.W.Frag} {C D : Addr} {b : Bool} {T : String}
theorem kit_rt (h : PySem.W.subIn K (.ref C) (.type T) = some b) (hm : PySem.W.kitMeta T = true) : PySem.W.kitOne K (.ref C) (.type T) = some b := by
  unfold PySem.W.kitOne
  rw [if_neg (by simp)]
  show (if PySem.W.kitMeta T = true then PySem.W.subIn K (.ref C) (.type T) else none) = some b
  rw [if_pos hm]
  exact h
theorem kit_rr1 (h : PySem.W.subIn K (.ref C) (.ref D) = some true) (hc : PySem.W.isClsIn K D = true) (ht : PySem.W.typeIn K (.ref D) = some (.type "type")) : PySem.W.kitOne K (.ref C) (.ref D) = some true := by
  have e2 : ((PySem.W.clsIn K D).isSome && PySem.W.typeIn K (.ref D) == some (.type "type")) = true := by
    have h2' : (PySem.W.clsIn K D).isSome = true := hc
    rw [h2', ht] <;> rfl
  unfold PySem.W.kitOne
  split
  · rfl
  · show (if ((PySem.W.clsIn K D).isSome && PySem.W.typeIn K (.ref D) == some (.type "type")) = true then PySem.W.subIn K (.ref C) (.ref D) else none) = some true
    rw [if_pos e2]
    exact h
theorem kit_rr0 (h : PySem.W.subIn K (.ref C) (.ref D) = some false) (hs : PySem.W.subIn K (.ref C) (.ref C) = some true) (hc : PySem.W.isClsIn K D = true) (ht : PySem.W.typeIn K (.ref D) = some (.type "type")) : PySem.W.kitOne K (.ref C) (.ref D) = some false := by
  have e2 : ((PySem.W.clsIn K D).isSome && PySem.W.typeIn K (.ref D) == some (.type "type")) = true := by
    have h2' : (PySem.W.clsIn K D).isSome = true := hc
    rw [h2', ht] <;> rfl
  have ne : C ≠ D := fun e => by
    subst e
    rw [h] at hs
    cases hs
  unfold PySem.W.kitOne
  rw [if_neg (by simpa using ne)]
  show (if ((PySem.W.clsIn K D).isSome && PySem.W.typeIn K (.ref D) == some (.type "type")) = true then PySem.W.subIn K (.ref C) (.ref D) else none) = some false
  rw [if_pos e2]
  exact h
theorem kitA_cons {t c : Value} {cs : List Value} (h1 : PySem.W.kitOne K t c = some false) (h2 : PySem.W.kitAny K t cs = some b) : PySem.W.kitAny K t (c :: cs) = some b := by
  unfold PySem.W.kitAny
  rw [h1]
  exact h2
theorem kitA_nil {t : Value} : PySem.W.kitAny K t [] = some false := rfl
end
end DL

namespace K11
open PySem PySem.Spec PyProof.Rows L2 DL
def top (i : Nat) : Stmt := PySem.Challenge.pw_abreast_k11_whole_spans_by_own_sums.main.body.getD i (.Pass ⟨0, 0, 0, 0⟩)
abbrev s_is_integer : Stmt := (top 10)
def N_is_integer : List Str := ["value"]
theorem sc_is_integer : FnScope ["value"] ["value"] (defScope s_is_integer) := ⟨rfl, rfl, rfl, by decide +kernel, rfl, by decide +kernel, by decide +kernel⟩
abbrev s_want_level : Stmt := (top 11)
def N_want_level : List Str := ["value"]
theorem sc_want_level : FnScope ["value"] ["value"] (defScope s_want_level) := ⟨rfl, rfl, rfl, by decide +kernel, rfl, by decide +kernel, by decide +kernel⟩
abbrev s_want_span : Stmt := (top 14)
def N_want_span : List Str := ["value"]
theorem sc_want_span : FnScope ["value"] ["value"] (defScope s_want_span) := ⟨rfl, rfl, rfl, by decide +kernel, rfl, by decide +kernel, by decide +kernel⟩
abbrev s_Apart___init__ : Stmt := (inClass (top 7) 0)
def N_Apart___init__ : List Str := ["self", "one", "other"]
theorem sc_Apart___init__ : FnScope ["self", "one", "other"] ["self", "one", "other"] (defScope s_Apart___init__) := ⟨rfl, rfl, rfl, by decide +kernel, rfl, by decide +kernel, by decide +kernel⟩
abbrev s_Span___init__ : Stmt := (inClass (top 13) 0)
def N_Span___init__ : List Str := ["self", "low", "high"]
theorem sc_Span___init__ : FnScope ["self", "low", "high"] ["self", "low", "high"] (defScope s_Span___init__) := ⟨rfl, rfl, rfl, by decide +kernel, rfl, by decide +kernel, by decide +kernel⟩
abbrev s_Span_around : Stmt := (inClass (top 13) 1)
def N_Span_around : List Str := ["numbers", "number"]
theorem sc_Span_around : FnScope ["numbers", "number"] ["numbers"] (defScope s_Span_around) := ⟨rfl, rfl, rfl, by decide +kernel, rfl, by decide +kernel, by decide +kernel⟩
abbrev s_Span_low : Stmt := (inClass (top 13) 2)
def N_Span_low : List Str := ["self"]
theorem sc_Span_low : FnScope ["self"] ["self"] (defScope s_Span_low) := ⟨rfl, rfl, rfl, by decide +kernel, rfl, by decide +kernel, by decide +kernel⟩
abbrev s_Span_high : Stmt := (inClass (top 13) 3)
def N_Span_high : List Str := ["self"]
theorem sc_Span_high : FnScope ["self"] ["self"] (defScope s_Span_high) := ⟨rfl, rfl, rfl, by decide +kernel, rfl, by decide +kernel, by decide +kernel⟩
abbrev s_Span_width : Stmt := (inClass (top 13) 4)
def N_Span_width : List Str := ["self"]
theorem sc_Span_width : FnScope ["self"] ["self"] (defScope s_Span_width) := ⟨rfl, rfl, rfl, by decide +kernel, rfl, by decide +kernel, by decide +kernel⟩
abbrev s_Span_is_within : Stmt := (inClass (top 13) 5)
def N_Span_is_within : List Str := ["self", "other"]
theorem sc_Span_is_within : FnScope ["self", "other"] ["self", "other"] (defScope s_Span_is_within) := ⟨rfl, rfl, rfl, by decide +kernel, rfl, by decide +kernel, by decide +kernel⟩
abbrev s_Span___contains__ : Stmt := (inClass (top 13) 6)
def N_Span___contains__ : List Str := ["self", "value"]
theorem sc_Span___contains__ : FnScope ["self", "value"] ["self", "value"] (defScope s_Span___contains__) := ⟨rfl, rfl, rfl, by decide +kernel, rfl, by decide +kernel, by decide +kernel⟩
abbrev s_Span___and__ : Stmt := (inClass (top 13) 7)
def N_Span___and__ : List Str := ["self", "other"]
theorem sc_Span___and__ : FnScope ["self", "other"] ["self", "other"] (defScope s_Span___and__) := ⟨rfl, rfl, rfl, by decide +kernel, rfl, by decide +kernel, by decide +kernel⟩
abbrev s_Span___or__ : Stmt := (inClass (top 13) 8)
def N_Span___or__ : List Str := ["self", "other"]
theorem sc_Span___or__ : FnScope ["self", "other"] ["self", "other"] (defScope s_Span___or__) := ⟨rfl, rfl, rfl, by decide +kernel, rfl, by decide +kernel, by decide +kernel⟩
abbrev s_Span___add__ : Stmt := (inClass (top 13) 9)
def N_Span___add__ : List Str := ["self", "number"]
theorem sc_Span___add__ : FnScope ["self", "number"] ["self", "number"] (defScope s_Span___add__) := ⟨rfl, rfl, rfl, by decide +kernel, rfl, by decide +kernel, by decide +kernel⟩
abbrev s_Span___radd__ : Stmt := (inClass (top 13) 10)
def N_Span___radd__ : List Str := ["self", "number"]
theorem sc_Span___radd__ : FnScope ["self", "number"] ["self", "number"] (defScope s_Span___radd__) := ⟨rfl, rfl, rfl, by decide +kernel, rfl, by decide +kernel, by decide +kernel⟩
abbrev s_Span___sub__ : Stmt := (inClass (top 13) 11)
def N_Span___sub__ : List Str := ["self", "number"]
theorem sc_Span___sub__ : FnScope ["self", "number"] ["self", "number"] (defScope s_Span___sub__) := ⟨rfl, rfl, rfl, by decide +kernel, rfl, by decide +kernel, by decide +kernel⟩
abbrev s_Span___neg__ : Stmt := (inClass (top 13) 12)
def N_Span___neg__ : List Str := ["self"]
theorem sc_Span___neg__ : FnScope ["self"] ["self"] (defScope s_Span___neg__) := ⟨rfl, rfl, rfl, by decide +kernel, rfl, by decide +kernel, by decide +kernel⟩
abbrev s_Span___lt__ : Stmt := (inClass (top 13) 13)
def N_Span___lt__ : List Str := ["self", "other"]
theorem sc_Span___lt__ : FnScope ["self", "other"] ["self", "other"] (defScope s_Span___lt__) := ⟨rfl, rfl, rfl, by decide +kernel, rfl, by decide +kernel, by decide +kernel⟩
abbrev s_Span___le__ : Stmt := (inClass (top 13) 14)
def N_Span___le__ : List Str := ["self", "other"]
theorem sc_Span___le__ : FnScope ["self", "other"] ["self", "other"] (defScope s_Span___le__) := ⟨rfl, rfl, rfl, by decide +kernel, rfl, by decide +kernel, by decide +kernel⟩
abbrev s_Span___gt__ : Stmt := (inClass (top 13) 15)
def N_Span___gt__ : List Str := ["self", "other"]
theorem sc_Span___gt__ : FnScope ["self", "other"] ["self", "other"] (defScope s_Span___gt__) := ⟨rfl, rfl, rfl, by decide +kernel, rfl, by decide +kernel, by decide +kernel⟩
abbrev s_Span___ge__ : Stmt := (inClass (top 13) 16)
def N_Span___ge__ : List Str := ["self", "other"]
theorem sc_Span___ge__ : FnScope ["self", "other"] ["self", "other"] (defScope s_Span___ge__) := ⟨rfl, rfl, rfl, by decide +kernel, rfl, by decide +kernel, by decide +kernel⟩
abbrev s_Span___eq__ : Stmt := (inClass (top 13) 17)
def N_Span___eq__ : List Str := ["self", "other"]
theorem sc_Span___eq__ : FnScope ["self", "other"] ["self", "other"] (defScope s_Span___eq__) := ⟨rfl, rfl, rfl, by decide +kernel, rfl, by decide +kernel, by decide +kernel⟩
abbrev s_Span___str__ : Stmt := (inClass (top 13) 18)
def N_Span___str__ : List Str := ["self"]
theorem sc_Span___str__ : FnScope ["self"] ["self"] (defScope s_Span___str__) := ⟨rfl, rfl, rfl, by decide +kernel, rfl, by decide +kernel, by decide +kernel⟩
abbrev s_Span___repr__ : Stmt := (inClass (top 13) 19)
def N_Span___repr__ : List Str := ["self"]
theorem sc_Span___repr__ : FnScope ["self"] ["self"] (defScope s_Span___repr__) := ⟨rfl, rfl, rfl, by decide +kernel, rfl, by decide +kernel, by decide +kernel⟩
abbrev s__law_pot : Stmt := (top 16)
def N__law_pot : List Str := ["_law_script", "_law_k", "_law_cell"]
theorem sc__law_pot : FnScope ["_law_script", "_law_k", "_law_cell"] ["_law_script", "_law_k"] (defScope s__law_pot) := ⟨rfl, rfl, rfl, by decide +kernel, rfl, by decide +kernel, by decide +kernel⟩
abbrev s__law_draw : Stmt := (top 17)
def N__law_draw : List Str := ["_law_pot_here", "_law_many", "_law_digit"]
theorem sc__law_draw : FnScope ["_law_pot_here", "_law_many", "_law_digit"] ["_law_pot_here", "_law_many"] (defScope s__law_draw) := ⟨rfl, rfl, rfl, by decide +kernel, rfl, by decide +kernel, by decide +kernel⟩
abbrev s__law_number : Stmt := (top 18)
def N__law_number : List Str := ["_law_pot_here", "_law_way", "_law_far"]
theorem sc__law_number : FnScope ["_law_pot_here", "_law_way", "_law_far"] ["_law_pot_here"] (defScope s__law_number) := ⟨rfl, rfl, rfl, by decide +kernel, rfl, by decide +kernel, by decide +kernel⟩
abbrev s__law_bounds : Stmt := (top 19)
def N__law_bounds : List Str := ["_law_pot_here", "_law_base"]
theorem sc__law_bounds : FnScope ["_law_pot_here", "_law_base"] ["_law_pot_here", "_law_base"] (defScope s__law_bounds) := ⟨rfl, rfl, rfl, by decide +kernel, rfl, by decide +kernel, by decide +kernel⟩
abbrev s__law_made : Stmt := (top 20)
def N__law_made : List Str := ["_law_bounds_here"]
theorem sc__law_made : FnScope ["_law_bounds_here"] ["_law_bounds_here"] (defScope s__law_made) := ⟨rfl, rfl, rfl, by decide +kernel, rfl, by decide +kernel, by decide +kernel⟩
abbrev s__law_is : Stmt := (top 21)
def N__law_is : List Str := ["_law_made_here", "_law_bounds_here", "_law_told", "_law_shown", "_law_least", "_law_most"]
theorem sc__law_is : FnScope ["_law_made_here", "_law_bounds_here", "_law_told", "_law_shown", "_law_least", "_law_most"] ["_law_made_here", "_law_bounds_here"] (defScope s__law_is) := ⟨rfl, rfl, rfl, by decide +kernel, rfl, by decide +kernel, by decide +kernel⟩
abbrev s__law_shared : Stmt := (top 22)
def N__law_shared : List Str := ["_law_this", "_law_mate", "_law_told", "e", "_law_fits"]
theorem sc__law_shared : FnScope ["_law_this", "_law_mate", "_law_told", "e", "_law_fits"] ["_law_this", "_law_mate"] (defScope s__law_shared) := ⟨rfl, rfl, rfl, by decide +kernel, rfl, by decide +kernel, by decide +kernel⟩
abbrev s__law_two_right : Stmt := (top 23)
def N__law_two_right : List Str := ["_law_bounds_here", "_law_more", "_law_told", "_law_due", "_law_this", "_law_mate", "_law_least", "_law_most"]
theorem sc__law_two_right : FnScope ["_law_bounds_here", "_law_more", "_law_told", "_law_due", "_law_this", "_law_mate", "_law_least", "_law_most"] ["_law_bounds_here", "_law_more"] (defScope s__law_two_right) := ⟨rfl, rfl, rfl, by decide +kernel, rfl, by decide +kernel, by decide +kernel⟩
abbrev s__law_within_right : Stmt := (top 24)
def N__law_within_right : List Str := ["_law_bounds_here", "_law_some", "_law_odd", "_law_made_here", "_law_least", "_law_most", "_law_near", "_law_thing"]
theorem sc__law_within_right : FnScope ["_law_bounds_here", "_law_some", "_law_odd", "_law_made_here", "_law_least", "_law_most", "_law_near", "_law_thing"] ["_law_bounds_here"] (defScope s__law_within_right) := ⟨rfl, rfl, rfl, by decide +kernel, rfl, by decide +kernel, by decide +kernel⟩
abbrev s__law_moved_right : Stmt := (top 25)
def N__law_moved_right : List Str := ["_law_bounds_here", "_law_more", "_law_moved", "_law_made_here", "_law_least", "_law_most"]
theorem sc__law_moved_right : FnScope ["_law_bounds_here", "_law_more", "_law_moved", "_law_made_here", "_law_least", "_law_most"] ["_law_bounds_here", "_law_more"] (defScope s__law_moved_right) := ⟨rfl, rfl, rfl, by decide +kernel, rfl, by decide +kernel, by decide +kernel⟩
abbrev s__law_around_right : Stmt := (top 26)
def N__law_around_right : List Str := ["_law_pot_here", "_law_base", "_law_some", "_law_told", "_law_made_here", "_law_k", "_law_turn"]
theorem sc__law_around_right : FnScope ["_law_pot_here", "_law_base", "_law_some", "_law_told", "_law_made_here", "_law_k", "_law_turn"] ["_law_pot_here", "_law_base"] (defScope s__law_around_right) := ⟨rfl, rfl, rfl, by decide +kernel, rfl, by decide +kernel, by decide +kernel⟩
abbrev s__law_step : Stmt := (top 27)
def N__law_step : List Str := ["_law_pot_here", "_law_made_here", "_law_bounds_here", "_law_near", "_law_way", "_law_more", "_law_moved", "_law_by", "_law_least", "_law_most"]
theorem sc__law_step : FnScope ["_law_pot_here", "_law_made_here", "_law_bounds_here", "_law_near", "_law_way", "_law_more", "_law_moved", "_law_by", "_law_least", "_law_most"] ["_law_pot_here", "_law_made_here", "_law_bounds_here"] (defScope s__law_step) := ⟨rfl, rfl, rfl, by decide +kernel, rfl, by decide +kernel, by decide +kernel⟩
abbrev s__law_right : Stmt := (top 28)
def N__law_right : List Str := ["_law_pot_here", "_law_base", "_law_some", "_law_bounds_here", "_law_turn", "_law_made_here", "_law_before", "_law_kept", "_law_more"]
theorem sc__law_right : FnScope ["_law_pot_here", "_law_base", "_law_some", "_law_bounds_here", "_law_turn", "_law_made_here", "_law_before", "_law_kept", "_law_more"] ["_law_pot_here"] (defScope s__law_right) := ⟨rfl, rfl, rfl, by decide +kernel, rfl, by decide +kernel, by decide +kernel⟩
abbrev s_law : Stmt := (top 29)
def N_law : List Str := ["_law_script", "_law_k"]
theorem sc_law : FnScope ["_law_script", "_law_k"] ["_law_script"] (defScope s_law) := ⟨rfl, rfl, rfl, by decide +kernel, rfl, by decide +kernel, by decide +kernel⟩
/-- where things stand -/
structure Ad where
  Span : Addr
  InvalidLevel : Addr
  InvalidSpan : Addr
  EmptySpan : Addr
  Apart : Addr
  StateError : Addr
  AbreastError : Addr
  MissingError : Addr
  LimitError : Addr
  f_is_integer : Addr
  f_want_level : Addr
  f_want_span : Addr
  f_Apart___init__ : Addr
  f_Span___init__ : Addr
  f_Span_around : Addr
  f_Span_low : Addr
  f_Span_high : Addr
  f_Span_width : Addr
  f_Span_is_within : Addr
  f_Span___contains__ : Addr
  f_Span___and__ : Addr
  f_Span___or__ : Addr
  f_Span___add__ : Addr
  f_Span___radd__ : Addr
  f_Span___sub__ : Addr
  f_Span___neg__ : Addr
  f_Span___lt__ : Addr
  f_Span___le__ : Addr
  f_Span___gt__ : Addr
  f_Span___ge__ : Addr
  f_Span___eq__ : Addr
  f_Span___str__ : Addr
  f_Span___repr__ : Addr
  f__law_pot : Addr
  f__law_draw : Addr
  f__law_number : Addr
  f__law_bounds : Addr
  f__law_made : Addr
  f__law_is : Addr
  f__law_shared : Addr
  f__law_two_right : Addr
  f__law_within_right : Addr
  f__law_moved_right : Addr
  f__law_around_right : Addr
  f__law_step : Addr
  f__law_right : Addr
  f_law : Addr
  p_low : Addr
  p_high : Addr
  p_width : Addr
  p_around : Addr
  mc : Value
/-- the function objects -/
structure Fd where
  f_is_integer : FuncData
  f_want_level : FuncData
  f_want_span : FuncData
  f_Apart___init__ : FuncData
  f_Span___init__ : FuncData
  f_Span_around : FuncData
  f_Span_low : FuncData
  f_Span_high : FuncData
  f_Span_width : FuncData
  f_Span_is_within : FuncData
  f_Span___contains__ : FuncData
  f_Span___and__ : FuncData
  f_Span___or__ : FuncData
  f_Span___add__ : FuncData
  f_Span___radd__ : FuncData
  f_Span___sub__ : FuncData
  f_Span___neg__ : FuncData
  f_Span___lt__ : FuncData
  f_Span___le__ : FuncData
  f_Span___gt__ : FuncData
  f_Span___ge__ : FuncData
  f_Span___eq__ : FuncData
  f_Span___str__ : FuncData
  f_Span___repr__ : FuncData
  f__law_pot : FuncData
  f__law_draw : FuncData
  f__law_number : FuncData
  f__law_bounds : FuncData
  f__law_made : FuncData
  f__law_is : FuncData
  f__law_shared : FuncData
  f__law_two_right : FuncData
  f__law_within_right : FuncData
  f__law_moved_right : FuncData
  f__law_around_right : FuncData
  f__law_step : FuncData
  f__law_right : FuncData
  f_law : FuncData
def G (a : Ad) : CT := fun c => match c with
  | 0 => ⟨a.Span, ["own_low", "own_high"]⟩
  | 1 => ⟨a.InvalidLevel, ["value"]⟩
  | 2 => ⟨a.InvalidSpan, ["value"]⟩
  | 3 => ⟨a.EmptySpan, ["least", "greatest"]⟩
  | 4 => ⟨a.Apart, ["other", "one"]⟩
  | _ => ⟨0, []⟩
structure Tx (K : PySem.W.Frag) (mg : Str → Option Value) (a : Ad) (d : Fd) : Prop where
  m_Span : mg "Span" = some (.ref a.Span)
  m_InvalidLevel : mg "InvalidLevel" = some (.ref a.InvalidLevel)
  m_InvalidSpan : mg "InvalidSpan" = some (.ref a.InvalidSpan)
  m_EmptySpan : mg "EmptySpan" = some (.ref a.EmptySpan)
  m_Apart : mg "Apart" = some (.ref a.Apart)
  m_StateError : mg "StateError" = some (.ref a.StateError)
  m_AbreastError : mg "AbreastError" = some (.ref a.AbreastError)
  m_MissingError : mg "MissingError" = some (.ref a.MissingError)
  m_LimitError : mg "LimitError" = some (.ref a.LimitError)
  m_is_integer : mg "is_integer" = some (.ref a.f_is_integer)
  F_is_integer : Fun K "is_integer" "is_integer" s_is_integer a.f_is_integer d.f_is_integer
  b_is_integer : Binds K d.f_is_integer ["value"] []
  m_want_level : mg "want_level" = some (.ref a.f_want_level)
  F_want_level : Fun K "want_level" "want_level" s_want_level a.f_want_level d.f_want_level
  b_want_level : Binds K d.f_want_level ["value"] []
  m_want_span : mg "want_span" = some (.ref a.f_want_span)
  F_want_span : Fun K "want_span" "want_span" s_want_span a.f_want_span d.f_want_span
  b_want_span : Binds K d.f_want_span ["value"] []
  F_Apart___init__ : Fun K "__init__" "Apart.__init__" s_Apart___init__ a.f_Apart___init__ d.f_Apart___init__
  b_Apart___init__ : Binds K d.f_Apart___init__ ["self", "one", "other"] []
  F_Span___init__ : Fun K "__init__" "Span.__init__" s_Span___init__ a.f_Span___init__ d.f_Span___init__
  b_Span___init__ : Binds K d.f_Span___init__ ["self", "low", "high"] []
  bk_Span___init__ : KwB K d.f_Span___init__ ["self", "low", "high"] 1 ["high", "low"] [1, 0]
  F_Span_around : Fun K "around" "Span.around" s_Span_around a.f_Span_around d.f_Span_around
  F_Span_low : Fun K "low" "Span.low" s_Span_low a.f_Span_low d.f_Span_low
  b_Span_low : Binds K d.f_Span_low ["self"] []
  F_Span_high : Fun K "high" "Span.high" s_Span_high a.f_Span_high d.f_Span_high
  b_Span_high : Binds K d.f_Span_high ["self"] []
  F_Span_width : Fun K "width" "Span.width" s_Span_width a.f_Span_width d.f_Span_width
  b_Span_width : Binds K d.f_Span_width ["self"] []
  F_Span_is_within : Fun K "is_within" "Span.is_within" s_Span_is_within a.f_Span_is_within d.f_Span_is_within
  b_Span_is_within : Binds K d.f_Span_is_within ["self", "other"] []
  bk_Span_is_within : KwB K d.f_Span_is_within ["self", "other"] 1 ["other"] [0]
  F_Span___contains__ : Fun K "__contains__" "Span.__contains__" s_Span___contains__ a.f_Span___contains__ d.f_Span___contains__
  b_Span___contains__ : Binds K d.f_Span___contains__ ["self", "value"] []
  o_Span___contains__ : Own K a.Span "__contains__" a.f_Span___contains__
  F_Span___and__ : Fun K "__and__" "Span.__and__" s_Span___and__ a.f_Span___and__ d.f_Span___and__
  b_Span___and__ : Binds K d.f_Span___and__ ["self", "other"] []
  o_Span___and__ : Own K a.Span "__and__" a.f_Span___and__
  F_Span___or__ : Fun K "__or__" "Span.__or__" s_Span___or__ a.f_Span___or__ d.f_Span___or__
  b_Span___or__ : Binds K d.f_Span___or__ ["self", "other"] []
  o_Span___or__ : Own K a.Span "__or__" a.f_Span___or__
  F_Span___add__ : Fun K "__add__" "Span.__add__" s_Span___add__ a.f_Span___add__ d.f_Span___add__
  b_Span___add__ : Binds K d.f_Span___add__ ["self", "number"] []
  o_Span___add__ : Own K a.Span "__add__" a.f_Span___add__
  F_Span___radd__ : Fun K "__radd__" "Span.__radd__" s_Span___radd__ a.f_Span___radd__ d.f_Span___radd__
  b_Span___radd__ : Binds K d.f_Span___radd__ ["self", "number"] []
  o_Span___radd__ : Own K a.Span "__radd__" a.f_Span___radd__
  F_Span___sub__ : Fun K "__sub__" "Span.__sub__" s_Span___sub__ a.f_Span___sub__ d.f_Span___sub__
  b_Span___sub__ : Binds K d.f_Span___sub__ ["self", "number"] []
  o_Span___sub__ : Own K a.Span "__sub__" a.f_Span___sub__
  F_Span___neg__ : Fun K "__neg__" "Span.__neg__" s_Span___neg__ a.f_Span___neg__ d.f_Span___neg__
  b_Span___neg__ : Binds K d.f_Span___neg__ ["self"] []
  o_Span___neg__ : Own K a.Span "__neg__" a.f_Span___neg__
  F_Span___lt__ : Fun K "__lt__" "Span.__lt__" s_Span___lt__ a.f_Span___lt__ d.f_Span___lt__
  b_Span___lt__ : Binds K d.f_Span___lt__ ["self", "other"] []
  o_Span___lt__ : Own K a.Span "__lt__" a.f_Span___lt__
  F_Span___le__ : Fun K "__le__" "Span.__le__" s_Span___le__ a.f_Span___le__ d.f_Span___le__
  b_Span___le__ : Binds K d.f_Span___le__ ["self", "other"] []
  o_Span___le__ : Own K a.Span "__le__" a.f_Span___le__
  F_Span___gt__ : Fun K "__gt__" "Span.__gt__" s_Span___gt__ a.f_Span___gt__ d.f_Span___gt__
  b_Span___gt__ : Binds K d.f_Span___gt__ ["self", "other"] []
  o_Span___gt__ : Own K a.Span "__gt__" a.f_Span___gt__
  F_Span___ge__ : Fun K "__ge__" "Span.__ge__" s_Span___ge__ a.f_Span___ge__ d.f_Span___ge__
  b_Span___ge__ : Binds K d.f_Span___ge__ ["self", "other"] []
  o_Span___ge__ : Own K a.Span "__ge__" a.f_Span___ge__
  F_Span___eq__ : Fun K "__eq__" "Span.__eq__" s_Span___eq__ a.f_Span___eq__ d.f_Span___eq__
  b_Span___eq__ : Binds K d.f_Span___eq__ ["self", "other"] []
  o_Span___eq__ : Own K a.Span "__eq__" a.f_Span___eq__
  F_Span___str__ : Fun K "__str__" "Span.__str__" s_Span___str__ a.f_Span___str__ d.f_Span___str__
  b_Span___str__ : Binds K d.f_Span___str__ ["self"] []
  o_Span___str__ : Own K a.Span "__str__" a.f_Span___str__
  F_Span___repr__ : Fun K "__repr__" "Span.__repr__" s_Span___repr__ a.f_Span___repr__ d.f_Span___repr__
  b_Span___repr__ : Binds K d.f_Span___repr__ ["self"] []
  o_Span___repr__ : Own K a.Span "__repr__" a.f_Span___repr__
  m__law_pot : mg "_law_pot" = some (.ref a.f__law_pot)
  F__law_pot : Fun K "_law_pot" "_law_pot" s__law_pot a.f__law_pot d.f__law_pot
  b__law_pot : Binds K d.f__law_pot ["_law_script", "_law_k"] []
  m__law_draw : mg "_law_draw" = some (.ref a.f__law_draw)
  F__law_draw : Fun K "_law_draw" "_law_draw" s__law_draw a.f__law_draw d.f__law_draw
  b__law_draw : Binds K d.f__law_draw ["_law_pot_here", "_law_many"] []
  m__law_number : mg "_law_number" = some (.ref a.f__law_number)
  F__law_number : Fun K "_law_number" "_law_number" s__law_number a.f__law_number d.f__law_number
  b__law_number : Binds K d.f__law_number ["_law_pot_here"] []
  m__law_bounds : mg "_law_bounds" = some (.ref a.f__law_bounds)
  F__law_bounds : Fun K "_law_bounds" "_law_bounds" s__law_bounds a.f__law_bounds d.f__law_bounds
  b__law_bounds : Binds K d.f__law_bounds ["_law_pot_here", "_law_base"] []
  m__law_made : mg "_law_made" = some (.ref a.f__law_made)
  F__law_made : Fun K "_law_made" "_law_made" s__law_made a.f__law_made d.f__law_made
  b__law_made : Binds K d.f__law_made ["_law_bounds_here"] []
  m__law_is : mg "_law_is" = some (.ref a.f__law_is)
  F__law_is : Fun K "_law_is" "_law_is" s__law_is a.f__law_is d.f__law_is
  b__law_is : Binds K d.f__law_is ["_law_made_here", "_law_bounds_here"] []
  m__law_shared : mg "_law_shared" = some (.ref a.f__law_shared)
  F__law_shared : Fun K "_law_shared" "_law_shared" s__law_shared a.f__law_shared d.f__law_shared
  b__law_shared : Binds K d.f__law_shared ["_law_this", "_law_mate"] []
  m__law_two_right : mg "_law_two_right" = some (.ref a.f__law_two_right)
  F__law_two_right : Fun K "_law_two_right" "_law_two_right" s__law_two_right a.f__law_two_right d.f__law_two_right
  b__law_two_right : Binds K d.f__law_two_right ["_law_bounds_here", "_law_more"] []
  m__law_within_right : mg "_law_within_right" = some (.ref a.f__law_within_right)
  F__law_within_right : Fun K "_law_within_right" "_law_within_right" s__law_within_right a.f__law_within_right d.f__law_within_right
  b__law_within_right : Binds K d.f__law_within_right ["_law_bounds_here"] []
  m__law_moved_right : mg "_law_moved_right" = some (.ref a.f__law_moved_right)
  F__law_moved_right : Fun K "_law_moved_right" "_law_moved_right" s__law_moved_right a.f__law_moved_right d.f__law_moved_right
  b__law_moved_right : Binds K d.f__law_moved_right ["_law_bounds_here", "_law_more"] []
  m__law_around_right : mg "_law_around_right" = some (.ref a.f__law_around_right)
  F__law_around_right : Fun K "_law_around_right" "_law_around_right" s__law_around_right a.f__law_around_right d.f__law_around_right
  b__law_around_right : Binds K d.f__law_around_right ["_law_pot_here", "_law_base"] []
  m__law_step : mg "_law_step" = some (.ref a.f__law_step)
  F__law_step : Fun K "_law_step" "_law_step" s__law_step a.f__law_step d.f__law_step
  b__law_step : Binds K d.f__law_step ["_law_pot_here", "_law_made_here", "_law_bounds_here"] []
  m__law_right : mg "_law_right" = some (.ref a.f__law_right)
  F__law_right : Fun K "_law_right" "_law_right" s__law_right a.f__law_right d.f__law_right
  b__law_right : Binds K d.f__law_right ["_law_pot_here"] []
  m_law : mg "law" = some (.ref a.f_law)
  F_law : Fun K "law" "law" s_law a.f_law d.f_law
  b_law : Binds K d.f_law ["_law_script"] []
  Z_Apart : OexG K a.Apart "RuntimeError" "RuntimeError.__new__" "RuntimeError.__init__" [.type "RuntimeError", .type "Exception", .type "BaseException", .type "object"]
  iC_Apart : PySem.W.findIn K (.ref a.Apart) "__init__" = some (some (.ref a.f_Apart___init__))
  tI_Apart : PySem.W.typeIn K (.ref a.f_Apart___init__) = some (.type "function")
  n_Apart_one : PySem.W.findIn K (.ref a.Apart) "one" = some none
  n_Apart_other : PySem.W.findIn K (.ref a.Apart) "other" = some none
  x_Apart : XfC K a.Apart
  q_Apart : ExcC K a.Apart
  k_Apart1 : PySem.W.kitOne K (.ref a.Apart) (.ref a.StateError) = some true
  k_Apart2 : PySem.W.kitOne K (.ref a.Apart) (.type "RuntimeError") = some true
  k_Apart3 : PySem.W.kitAny K (.ref a.Apart) [.ref a.AbreastError, .ref a.MissingError, .ref a.LimitError] = some false
  e_Apart : PySem.W.exmOne K (.ref a.Apart) (.ref a.Apart) = some true
  z_RuntimeError : mg "RuntimeError" = none
  c_Span : Cls K a.Span
  is_Span : IsC K a.Span
  n_Span_own_low : NoAttr K a.Span "own_low"
  n_Span_own_high : NoAttr K a.Span "own_high"
  M_Span : Mk K a.Span a.f_Span___init__
  me_Span_is_within : Meth K a.Span "is_within" a.f_Span_is_within
  sf_Span : PySem.W.selfFirst K a.Span = true
  ni_Span : PySem.W.subIn K (.ref a.Span) (.type "int") = some false
  ne_Span : PySem.W.findIn K (.ref a.Span) "__ne__" = some (some (.builtin "object.__ne__"))
  ob_Span : PySem.W.subIn K (.ref a.Span) (.type "object") = some true
  ki_int : PySem.W.kitOne K (.ref a.Span) (.type "int") = some false
  ki_bool : PySem.W.kitOne K (.ref a.Span) (.type "bool") = some false
  oi_Span___add__ : OwnI K a.Span .Add
  oi_Span___sub__ : OwnI K a.Span .Sub
  s_Span_around : SMet K a.Span a.mc "around" a.p_around a.f_Span_around
  b_Span_around : ∀ rest : List Value, bindArgs d.f_Span_around ⟨rest, []⟩ = (newTuple rest >>= fun t => pure [(("numbers" : Str), t)])
  p_Span_low : PropOf K a.Span "low" a.p_low a.f_Span_low
  p_Span_high : PropOf K a.Span "high" a.p_high a.f_Span_high
  p_Span_width : PropOf K a.Span "width" a.p_width a.f_Span_width
  z_isinstance : mg "isinstance" = none
  z_min : mg "min" = none
  z_max : mg "max" = none
  z_len : mg "len" = none
  z_abs : mg "abs" = none
  z_int : mg "int" = none
  z_divmod : mg "divmod" = none
  z_tuple : mg "tuple" = none
  z_sorted : mg "sorted" = none
  z_str : mg "str" = none
  z_repr : mg "repr" = none
  z_range : mg "range" = none
  z_all : mg "all" = none
  z_enumerate : mg "enumerate" = none
  z_bool : mg "bool" = none
section
variable {P : Program} {w : World} {K : PySem.W.Frag} {mg : Str → Option Value} {base : Heap} {a : Ad} {d : Fd}

/-! ### data -/
abbrev spv (l h : Int) : D := .ob 0 [.int l, .int h]
def okV : D → Prop
  | .ty _ | .ref _ | .exc _ _ _ _ | .fn _ _ _ _ _ => False
  | .ob c _ => c = 0
  | _ => True
def isIB : D → Bool
  | .int _ | .bl _ => true
  | _ => false
def isBo : D → Bool
  | .bl _ => true
  | _ => false
def isI : D → Bool
  | .int _ => true
  | _ => false
theorem isi_int (T : Tx K mg a d) {v : D} (h : okV v) {m : M} {Q : DK} (q : Q (.bl (isIB v)) m) : isiD (G a) K [v, .ty "int"] m Q := by
  cases v with
  | non => exact ⟨_, _, _, _, _, rfl, rfl, rfl, (fun c ys z => by cases z), kit_ty (r := false) (by decide +kernel), q⟩
  | bl b => exact ⟨_, _, _, _, _, rfl, rfl, rfl, (fun c ys z => by cases z), kit_ty (r := true) (by decide +kernel), q⟩
  | int b => exact ⟨_, _, _, _, _, rfl, rfl, rfl, (fun c ys z => by cases z), kit_ty (r := true) (by decide +kernel), q⟩
  | str b => exact ⟨_, _, _, _, _, rfl, rfl, rfl, (fun c ys z => by cases z), kit_ty (r := false) (by decide +kernel), q⟩
  | tup b => exact ⟨_, _, _, _, _, rfl, rfl, rfl, (fun c ys z => by cases z), kit_ty (r := false) (by decide +kernel), q⟩
  | lst b => exact ⟨_, _, _, _, _, rfl, rfl, rfl, (fun c ys z => by cases z), kit_ty (r := false) (by decide +kernel), q⟩
  | scr b => exact ⟨_, _, _, _, _, rfl, rfl, rfl, (fun c ys z => by cases z), kit_ty (r := false) (by decide +kernel), q⟩
  | dic b => exact ⟨_, _, _, _, _, rfl, rfl, rfl, (fun c ys z => by cases z), kit_ty (r := false) (by decide +kernel), q⟩
  | ob c b =>
    cases (show c = 0 from h)
    exact ⟨_, _, _, _, _, rfl, rfl, rfl, (fun c ys z => by cases z; exact T.is_Span), T.ki_int, q⟩
  | ty n => exact h.elim
  | ref n => exact h.elim
  | exc _ _ _ _ => exact h.elim
  | fn _ _ _ _ _ => exact h.elim
theorem isi_bool (T : Tx K mg a d) {v : D} (h : okV v) {m : M} {Q : DK} (q : Q (.bl (isBo v)) m) : isiD (G a) K [v, .ty "bool"] m Q := by
  cases v with
  | non => exact ⟨_, _, _, _, _, rfl, rfl, rfl, (fun c ys z => by cases z), kit_ty (r := false) (by decide +kernel), q⟩
  | bl b => exact ⟨_, _, _, _, _, rfl, rfl, rfl, (fun c ys z => by cases z), kit_ty (r := true) (by decide +kernel), q⟩
  | int b => exact ⟨_, _, _, _, _, rfl, rfl, rfl, (fun c ys z => by cases z), kit_ty (r := false) (by decide +kernel), q⟩
  | str b => exact ⟨_, _, _, _, _, rfl, rfl, rfl, (fun c ys z => by cases z), kit_ty (r := false) (by decide +kernel), q⟩
  | tup b => exact ⟨_, _, _, _, _, rfl, rfl, rfl, (fun c ys z => by cases z), kit_ty (r := false) (by decide +kernel), q⟩
  | lst b => exact ⟨_, _, _, _, _, rfl, rfl, rfl, (fun c ys z => by cases z), kit_ty (r := false) (by decide +kernel), q⟩
  | scr b => exact ⟨_, _, _, _, _, rfl, rfl, rfl, (fun c ys z => by cases z), kit_ty (r := false) (by decide +kernel), q⟩
  | dic b => exact ⟨_, _, _, _, _, rfl, rfl, rfl, (fun c ys z => by cases z), kit_ty (r := false) (by decide +kernel), q⟩
  | ob c b =>
    cases (show c = 0 from h)
    exact ⟨_, _, _, _, _, rfl, rfl, rfl, (fun c ys z => by cases z; exact T.is_Span), T.ki_bool, q⟩
  | ty n => exact h.elim
  | ref n => exact h.elim
  | exc _ _ _ _ => exact h.elim
  | fn _ _ _ _ _ => exact h.elim
theorem isi_span (T : Tx K mg a d) {ys : List D} {m : M} {Q : DK} (q : Q (.bl true) m) : isiD (G a) K [.ob 0 ys, .ref a.Span] m Q :=
  ⟨_, _, _, _, _, rfl, rfl, rfl, (fun c ys z => by cases z; exact T.is_Span), by show (if (Value.ref a.Span == Value.ref a.Span) = true then some true else _) = some true; rw [if_pos (by simp)], q⟩
theorem lk_low {a : Ad} {l h : D} : ((G a 0).flds.zip [l, h]).lookup ("own_low" : Str) = some l := by rfl
theorem lk_high {a : Ad} {l h : D} : ((G a 0).flds.zip [l, h]).lookup ("own_high" : Str) = some h := by
  show List.lookup _ [(("own_low" : Str), l), ("own_high", h)] = _
  rw [List.lookup_cons, show (("own_high" : Str) == "own_low") = false from by decide +kernel]
  rfl
theorem lk_other {a : Ad} {l h : D} : ((G a 4).flds.zip [l, h]).lookup ("other" : Str) = some l := by rfl
theorem lk_one {a : Ad} {l h : D} : ((G a 4).flds.zip [l, h]).lookup ("one" : Str) = some h := by
  show List.lookup _ [(("other" : Str), l), ("one", h)] = _
  rw [List.lookup_cons, show (("one" : Str) == "other") = false from by decide +kernel]
  rfl
theorem put_high {l h : D} : putD ("own_high" : Str) h (putD ("own_low" : Str) l []) = [(("own_low" : Str), l), (("own_high" : Str), h)] := by
  show (if ("own_low" : Str) = "own_high" then _ else (("own_low" : Str), l) :: putD "own_high" h []) = _
  rw [if_neg (by decide +kernel)]
  rfl
/-! ### promises -/
def s_isint : DSp := fun xs m Q _ => ∃ v, xs = [v] ∧ okV v ∧ Q (.bl (isI v)) m
def s_wlev : DSp := fun xs m Q _ => ∃ i, xs = [.int i] ∧ Q .non m
def s_wspan : DSp := fun xs m Q _ => ∃ ys, xs = [.ob 0 ys] ∧ Q .non m
def s_init : DSp := fun xs m Q _ => ∃ p l h, xs = [.ref p, .int l, .int h] ∧ l ≤ h ∧ m p = some (.ob 0 []) ∧ Q .non (mset m p (.ob 0 [("own_low", .int l), ("own_high", .int h)]))
def s_get (f : Int → Int → D) : DSp := fun xs m Q _ => ∃ l h, xs = [spv l h] ∧ Q (f l h) m
def s_two (f : Int → Int → Int → Int → D) : DSp := fun xs m Q _ => ∃ l h l2 h2, xs = [spv l h, spv l2 h2] ∧ l ≤ h ∧ l2 ≤ h2 ∧ Q (f l h l2 h2) m
def s_int (f : Int → Int → Int → D) : DSp := fun xs m Q _ => ∃ l h n, xs = [spv l h, .int n] ∧ l ≤ h ∧ Q (f l h n) m
def s_neg : DSp := fun xs m Q _ => ∃ l h, xs = [spv l h] ∧ l ≤ h ∧ Q (spv (-h) (-l)) m
def inS (l h : Int) : D → Bool
  | .int i => decide (l ≤ i) && decide (i ≤ h)
  | _ => false
def s_cont : DSp := fun xs m Q _ => ∃ l h v, xs = [spv l h, v] ∧ okV v ∧ Q (.bl (inS l h v)) m
def aprt (l h l2 h2 : Int) : Prop := l2 > h ∨ l > h2
instance {l h l2 h2 : Int} : Decidable (aprt l h l2 h2) := by unfold aprt; infer_instance
def s_and : DSp := fun xs m Q x => ∃ l h l2 h2, xs = [spv l h, spv l2 h2] ∧ l ≤ h ∧ l2 ≤ h2 ∧ (if aprt l h l2 h2 then x 4 [spv l2 h2, spv l h] m else Q (spv (max l l2) (min h h2)) m)
def strS (l h : Int) : Str := istr l ++ ".." ++ istr h
def repS (l h : Int) : Str := "Span(" ++ istr l ++ ", " ++ istr h ++ ")"
def s_txt (f : Int → Int → Str) : DSp := fun xs m Q _ => ∃ l h, xs = [spv l h] ∧ Few l ∧ Few h ∧ Q (.str (f l h)) m
def s_around : DSp := fun xs m Q _ => ∃ ns : List Int, xs = ns.map D.int ∧ ns ≠ [] ∧ ns.length ≤ 100 ∧ Q (spv (mnL ns) (mxL ns)) m
/-! the law's own -/
def PotV (a b : Int) : Prop := 0 ≤ a ∧ 0 ≤ b ∧ b < 2 ^ 32
def potM (a b : Int) : MO := .lst [.int a, .int b]
def Pot (p : Addr) (m : M) : Prop := ∃ a b, m p = some (potM a b) ∧ PotV a b
def Pst (p : Addr) (m m' : M) : Prop := ∃ a b, PotV a b ∧ m' = mset m p (potM a b)
theorem Pst.pot {p : Addr} {m m' : M} : Pst p m m' → Pot p m' := fun ⟨a, b, h, e⟩ => ⟨a, b, by rw [e]; exact mset_same, h⟩
theorem Pst.trans {p : Addr} {m m1 m2 : M} : Pst p m m1 → Pst p m1 m2 → Pst p m m2 := fun ⟨a, b, h, e⟩ ⟨c, d, h2, e2⟩ => ⟨c, d, h2, by rw [e2, e, mset_mset]⟩
theorem Pot.refl {p : Addr} {m : M} : Pot p m → Pst p m m := fun ⟨a, b, h, v⟩ => ⟨a, b, v, (mset_self h).symm⟩
def Sm (i : Int) : Prop := -(10 ^ 60) ≤ i ∧ i ≤ 10 ^ 60
theorem Sm.few {i : Int} (h : Sm i) : Few i := by
  unfold Few
  have : i.natAbs ≤ 10 ^ 60 := by have := h.1; have := h.2; omega
  exact Nat.lt_of_le_of_lt this (by decide +kernel)
def s_pot : DSp := fun xs m Q _ => ∃ (ns : List Int) (k : Int), xs = [.scr (ns.map D.int), .int k] ∧ 0 ≤ k ∧ k < 5 ∧ ∀ p a b, m p = none → PotV a b → Q (.ref p) (mset m p (potM a b))
def s_draw : DSp := fun xs m Q _ => ∃ (p : Addr) (n : Int), xs = [.ref p, .int n] ∧ 0 < n ∧ n ≤ 10 ^ 13 ∧ Pot p m ∧ ∀ i m', 0 ≤ i → i < n → Pst p m m' → Q (.int i) m'
def s_num : DSp := fun xs m Q _ => ∃ p : Addr, xs = [.ref p] ∧ Pot p m ∧ ∀ i m', -(10 ^ 26) ≤ i → i ≤ 10 ^ 26 → Pst p m m' → Q (.int i) m'
def s_bnd : DSp := fun xs m Q _ => ∃ (p : Addr) (b : Int), xs = [.ref p, .int b] ∧ Pot p m ∧ ∀ l h m', l ≤ h → b - 3 ≤ l → h ≤ b + 3 → Pst p m m' → Q (.tup [.int l, .int h]) m'
def s_made : DSp := fun xs m Q _ => ∃ l h, xs = [.tup [.int l, .int h]] ∧ l ≤ h ∧ Q (spv l h) m
def s_is : DSp := fun xs m Q _ => ∃ l h, xs = [spv l h, .tup [.int l, .int h]] ∧ Few l ∧ Few h ∧ Few (h - l) ∧ Q (.bl true) m
def s_shared : DSp := fun xs m Q _ => ∃ l h l2 h2, xs = [spv l h, spv l2 h2] ∧ l ≤ h ∧ l2 ≤ h2 ∧ (Sm l ∧ Sm h ∧ Sm l2 ∧ Sm h2) ∧ Q (if aprt l h l2 h2 then .lst [.str "apart", .str (repS l h), .str (repS l2 h2), .bl true] else spv (max l l2) (min h h2)) m
def s_2r : DSp := fun xs m Q _ => ∃ l h l2 h2, xs = [.tup [.int l, .int h], .tup [.int l2, .int h2]] ∧ l ≤ h ∧ l2 ≤ h2 ∧ (Sm l ∧ Sm h ∧ Sm l2 ∧ Sm h2) ∧ Q (.bl true) m
def s_wr : DSp := fun xs m Q _ => ∃ l h, xs = [.tup [.int l, .int h]] ∧ l ≤ h ∧ (Sm l ∧ Sm h) ∧ Q (.bl true) m
def s_mv : DSp := fun xs m Q _ => ∃ l h n, xs = [.tup [.int l, .int h], .int n] ∧ l ≤ h ∧ (Sm l ∧ Sm h ∧ Sm n) ∧ Q (.bl true) m
def s_ar : DSp := fun xs m Q _ => ∃ (p : Addr) (b : Int), xs = [.ref p, .int b] ∧ Pot p m ∧ Sm b ∧ ∀ m', Pst p m m' → Q (.bl true) m'
def s_step : DSp := fun xs m Q _ => ∃ (p : Addr) (l h B : Int), xs = [.ref p, spv l h, .tup [.int l, .int h]] ∧ l ≤ h ∧ (-B ≤ l ∧ h ≤ B ∧ 0 ≤ B ∧ B ≤ 10 ^ 59) ∧ Pot p m ∧ ∀ l' h' m', l' ≤ h' → -(B + 10 ^ 27) ≤ l' → h' ≤ B + 10 ^ 27 → Pst p m m' → Q (.tup [spv l' h', .tup [.int l', .int h']]) m'
def s_right : DSp := fun xs m Q _ => ∃ p : Addr, xs = [.ref p] ∧ Pot p m ∧ ∀ m', Pst p m m' → Q (.bl true) m'
def s_lw : DSp := fun xs m Q _ => ∃ ns : List Int, xs = [.scr (ns.map D.int)] ∧ ns.length ≤ 63 ∧ ∀ m', Q (.bl true) m'
theorem len1 {xs : List D} {v : D} (e : xs = [v]) : xs.length = 1 := by rw [e]; rfl
theorem len2 {xs : List D} {v w : D} (e : xs = [v, w]) : xs.length = 2 := by rw [e]; rfl
theorem len3 {xs : List D} {v w u : D} (e : xs = [v, w, u]) : xs.length = 3 := by rw [e]; rfl
theorem made_eq {l h : Int} {m : M} {Q : DK} {x : DX} : s_made [.tup [.int l, .int h]] m Q x = (l ≤ h ∧ Q (spv l h) m) := propext ⟨fun ⟨_, _, e, h1, h2⟩ => by cases e; exact ⟨h1, h2⟩, fun ⟨h1, h2⟩ => ⟨_, _, rfl, h1, h2⟩⟩
theorem get_eq {f : Int → Int → D} {l h : Int} {m : M} {Q : DK} {x : DX} : s_get f [.ob 0 [.int l, .int h]] m Q x = Q (f l h) m := propext ⟨fun ⟨_, _, e, h1⟩ => by cases e; exact h1, fun h1 => ⟨_, _, rfl, h1⟩⟩
theorem two_eq {f : Int → Int → Int → Int → D} {l h l2 h2 : Int} {m : M} {Q : DK} {x : DX} : s_two f [.ob 0 [.int l, .int h], .ob 0 [.int l2, .int h2]] m Q x = (l ≤ h ∧ l2 ≤ h2 ∧ Q (f l h l2 h2) m) := propext ⟨fun ⟨_, _, _, _, e, h1, h2, h3⟩ => by cases e; exact ⟨h1, h2, h3⟩, fun ⟨h1, h2, h3⟩ => ⟨_, _, _, _, rfl, h1, h2, h3⟩⟩
theorem int_eq {f : Int → Int → Int → D} {l h n : Int} {m : M} {Q : DK} {x : DX} : s_int f [.ob 0 [.int l, .int h], .int n] m Q x = (l ≤ h ∧ Q (f l h n) m) := propext ⟨fun ⟨_, _, _, e, h1, h2⟩ => by cases e; exact ⟨h1, h2⟩, fun ⟨h1, h2⟩ => ⟨_, _, _, rfl, h1, h2⟩⟩
theorem neg_eq {l h : Int} {m : M} {Q : DK} {x : DX} : s_neg [.ob 0 [.int l, .int h]] m Q x = (l ≤ h ∧ Q (spv (-h) (-l)) m) := propext ⟨fun ⟨_, _, e, h1, h2⟩ => by cases e; exact ⟨h1, h2⟩, fun ⟨h1, h2⟩ => ⟨_, _, rfl, h1, h2⟩⟩
theorem txt_eq {f : Int → Int → Str} {l h : Int} {m : M} {Q : DK} : txtO 0 (s_txt f) [.ob 0 [.int l, .int h]] m Q = (Few l ∧ Few h ∧ Q (.str (f l h)) m) := propext ⟨fun ⟨_, _, _, e, h1, h2, y, e2, h3⟩ => by cases e; cases e2; exact ⟨h1, h2, h3⟩, fun ⟨h1, h2, h3⟩ => ⟨⟨_, rfl⟩, _, _, rfl, h1, h2, _, rfl, h3⟩⟩
theorem is_eq {l h l2 h2 : Int} {m : M} {Q : DK} {x : DX} : s_is [.ob 0 [.int l, .int h], .tup [.int l2, .int h2]] m Q x = (l = l2 ∧ h = h2 ∧ Few l ∧ Few h ∧ Few (h - l) ∧ Q (.bl true) m) := propext ⟨fun ⟨_, _, e, h1, h2, h3, h4⟩ => by cases e; exact ⟨rfl, rfl, h1, h2, h3, h4⟩, fun ⟨e1, e2, h1, h2, h3, h4⟩ => by subst e1; subst e2; exact ⟨_, _, rfl, h1, h2, h3, h4⟩⟩
theorem shared_eq {l h l2 h2 : Int} {m : M} {Q : DK} {x : DX} : s_shared [.ob 0 [.int l, .int h], .ob 0 [.int l2, .int h2]] m Q x = (l ≤ h ∧ l2 ≤ h2 ∧ (Sm l ∧ Sm h ∧ Sm l2 ∧ Sm h2) ∧ Q (if aprt l h l2 h2 then .lst [.str "apart", .str (repS l h), .str (repS l2 h2), .bl true] else spv (max l l2) (min h h2)) m) :=
  propext ⟨fun ⟨_, _, _, _, e, h1⟩ => by cases e; exact h1, fun h1 => ⟨_, _, _, _, rfl, h1⟩⟩
theorem cont_eq {l h : Int} {v : D} {m : M} {Q : DK} {x : DX} : s_cont [.ob 0 [.int l, .int h], v] m Q x = (okV v ∧ Q (.bl (inS l h v)) m) := propext ⟨fun ⟨_, _, _, e, h1, h2⟩ => by cases e; exact ⟨h1, h2⟩, fun ⟨h1, h2⟩ => ⟨_, _, _, rfl, h1, h2⟩⟩
theorem leT {xs ys : List D} {m : M} {Q : DK} : leD (.tup xs) (.tup ys) m Q = (alikes xs ys = true ∧ Q (.bl (lexD fLe true true xs ys)) m) := rfl
theorem ltT {xs ys : List D} {m : M} {Q : DK} : ltD (.tup xs) (.tup ys) m Q = (alikes xs ys = true ∧ Q (.bl (lexD fLt false true xs ys)) m) := rfl
theorem geT {xs ys : List D} {m : M} {Q : DK} : geD (.tup xs) (.tup ys) m Q = (alikes xs ys = true ∧ Q (.bl (lexD (fun x y => fLe y x) true false xs ys)) m) := rfl
theorem gtT {xs ys : List D} {m : M} {Q : DK} : gtD (.tup xs) (.tup ys) m Q = (alikes xs ys = true ∧ Q (.bl (lexD (fun x y => fLt y x) false false xs ys)) m) := rfl
theorem eqT {xs ys : List D} {m : M} {Q : DK} : eqD (.tup xs) (.tup ys) m Q = (eqOk (.tup xs) (.tup ys) = true ∧ Q (.bl (eqB (.tup xs) (.tup ys))) m) := rfl
theorem neT {xs ys : List D} {m : M} {Q : DK} : neD (.tup xs) (.tup ys) m Q = (eqOk (.tup xs) (.tup ys) = true ∧ Q (.bl (!eqB (.tup xs) (.tup ys))) m) := rfl
theorem cxK {hot : Bool} {N : List Str} {qual : Str} {scope : Scope} {f : Addr} {cd : Value} {A : Around} {outer : List Env} {s : Shared} {H : Hp} {E : XK} {w : World} {P : Program} {base : Heap} : (cxG hot P w K mg base N qual scope f cd A outer s H E).K = K := rfl
theorem isi_eq (T : Tx K mg a d) {l h : D} {m : M} {Q : DK} : isiD (G a) K [.ob 0 [l, h], .ref a.Span] m Q = Q (.bl true) m := propext ⟨fun ⟨x, c, t, u, b, e, h1, h2, h3, h4, h5⟩ => by
  cases e
  cases h1
  cases h2
  have e : PySem.W.kitOne K (.ref a.Span) (.ref a.Span) = some true := by
    show (if (Value.ref a.Span == Value.ref a.Span) = true then some true else _) = some true
    rw [if_pos (by simp)]
  have h6 := e.symm.trans h4
  cases h6
  exact h5, isi_span T⟩
theorem pick1 {x : D} : pick [0] [x] = [x] := rfl
theorem pick2 {x y : D} : pick [1, 0] [x, y] = [y, x] := rfl
theorem okR6 {b1 b2 b3 b4 b5 b6 : Bool} : okR (.lst [.bl b1, .bl b2, .bl b3, .bl b4, .bl b5, .bl b6]) := okR.of (.lst (ROs.cons (RO.bl _) (ROs.cons (RO.bl _) (ROs.cons (RO.bl _) (ROs.cons (RO.bl _) (ROs.cons (RO.bl _) (ROs.cons (RO.bl _) ROs.nil)))))))
theorem okR2 {b1 b2 : Bool} : okR (.lst [.bl b1, .bl b2]) := okR.of (.lst (ROs.cons (RO.bl _) (ROs.cons (RO.bl _) ROs.nil)))
theorem okRa {l h l2 h2 : Int} (f1 : Few l) (f2 : Few h) (f3 : Few l2) (f4 : Few h2) : okR (.lst [.str "apart", .str (repS l h), .str (repS l2 h2), .bl true]) := by
  have p1 := Sh.lit (n := 5) (x := "Span(") (by decide +kernel)
  have p2 := Sh.lit (n := 2) (x := ", ") (by decide +kernel)
  have p3 := Sh.lit (n := 1) (x := ")") (by decide +kernel)
  have p4 := Sh.lit (n := 5) (x := "apart") (by decide +kernel)
  exact okR.of (.lst (ROs.cons (RO.str p4) (ROs.cons (RO.str ((((p1.app (Sh.istr f1)).app p2).app (Sh.istr f2)).app p3)) (ROs.cons (RO.str ((((p1.app (Sh.istr f3)).app p2).app (Sh.istr f4)).app p3)) (ROs.cons (RO.bl _) ROs.nil)))))
theorem eqB2 {i j k l : Int} : eqB (.tup [.int i, .int j]) (.tup [.int k, .int l]) = (decide (i = k) && decide (j = l)) := by
  show PyData.eqv (.tuple [.int i, .int j]) (.tuple [.int k, .int l]) = _
  simp only [PyData.eqv, PyData.eqvAll]
  have e : ∀ a b : Int, (a == b) = decide (a = b) := fun a b => by
    by_cases h : a = b
    · subst h; simp
    · rw [decide_eq_false h]; exact beq_eq_false_iff_ne.mpr h
  simp only [e, Bool.and_true]
theorem mnL_same {ns ms : List Int} (hn : ns ≠ []) (hm : ms ≠ []) (h : ∀ x, x ∈ ns ↔ x ∈ ms) : mnL ns = mnL ms := by
  obtain ⟨a1, a2⟩ := mnL_mem hn
  obtain ⟨b1, b2⟩ := mnL_mem hm
  exact Int.le_antisymm (a2 _ ((h _).mpr b1)) (b2 _ ((h _).mp a1))
theorem mxL_same {ns ms : List Int} (hn : ns ≠ []) (hm : ms ≠ []) (h : ∀ x, x ∈ ns ↔ x ∈ ms) : mxL ns = mxL ms := by
  obtain ⟨a1, a2⟩ := mxL_mem hn
  obtain ⟨b1, b2⟩ := mxL_mem hm
  exact Int.le_antisymm (b2 _ ((h _).mp a1)) (a2 _ ((h _).mpr b1))
theorem and_eq {l h l2 h2 : Int} {m : M} {Q : DK} {x : DX} : s_and [.ob 0 [.int l, .int h], .ob 0 [.int l2, .int h2]] m Q x = (l ≤ h ∧ l2 ≤ h2 ∧ (if aprt l h l2 h2 then x 4 [spv l2 h2, spv l h] m else Q (spv (max l l2) (min h h2)) m)) :=
  propext ⟨fun ⟨_, _, _, _, e, h1⟩ => by cases e; exact h1, fun h1 => ⟨_, _, _, _, rfl, h1⟩⟩
theorem wr_eq {l h : Int} {m : M} {Q : DK} {x : DX} : s_wr [.tup [.int l, .int h]] m Q x = (l ≤ h ∧ (Sm l ∧ Sm h) ∧ Q (.bl true) m) := propext ⟨fun ⟨_, _, e, h1⟩ => by cases e; exact h1, fun h1 => ⟨_, _, rfl, h1⟩⟩
theorem mv_eq {l h n : Int} {m : M} {Q : DK} {x : DX} : s_mv [.tup [.int l, .int h], .int n] m Q x = (l ≤ h ∧ (Sm l ∧ Sm h ∧ Sm n) ∧ Q (.bl true) m) := propext ⟨fun ⟨_, _, _, e, h1⟩ => by cases e; exact h1, fun h1 => ⟨_, _, _, rfl, h1⟩⟩
theorem mk_span {l h : Int} (e : l ≤ h) {m : M} {Q : DK} {x : DX} (q : Q (spv l h) m) : mkD 0 (G a 0).flds s_init [.int l, .int h] m Q x := by
  intro p hp
  refine ⟨p, l, h, rfl, e, mset_same, rfl, _, mset_same, rfl, ?_⟩
  rw [mset_mset, mdel_mset hp]
  exact q

theorem ok_is_integer (T : Tx K mg a d) : FnG false false P w K mg base 1 a.f_is_integer d.f_is_integer ["value"] (spL (G a) s_isint) := by
  refine fn_okG T.F_is_integer sc_is_integer (fun _ _ _ _ ⟨_, e, _⟩ => len1 e) (fun cdv A outer s H E xs m Q x hr h => ⟨_, (dss_one (ds_ret (de_and (de_callB cd_isi (by rfl) T.z_isinstance boot_isinstance (da_cons (de_nm (pv 0)) (da_cons (de_c (pe_bltn (v := .ty _) (by rfl) T.z_int boot_int rfl) (fun _ => .ty _)) da_nil))) (de_one (de_not (de_callB cd_isi (by rfl) T.z_isinstance boot_isinstance (da_cons (de_nm (pv 0)) (da_cons (de_c (pe_bltn (v := .ty _) (by rfl) T.z_bool boot_bool rfl) (fun _ => .ty _)) da_nil)))))))), ?_⟩)
  obtain ⟨v, rfl, ok, q⟩ := h
  simp only [sSeq, sAsg, gNm, sRet, sRetN, bD, xD, nmD, startD, sIf, DL.tB, DL.tNot, DL.tAnd, DL.tOr, eAnd, eOr, eNot, eIf, isB, sDrop, sNext, sPar, eTup, eLst, eCall, eCB, aNil, aCons, eFld, eFldM, eProp, eMeth, eMethK, eNegO, eMake, eMakeK, eUn, sFldM, addI, addS, addL, subI, negI, mulI, mulL, divI, modI, powI, eqI, neI, eqS, neS, lenL, lenT, lenC, absI, intI, strI, repX, tupL, dmI, it0, it1, itL0, itL1, itL2, itL3, itL4, itL5, itL6, itR, eStat, oNone, oSome, eSl, gTp2', gIx, eLstM, eApp, rSame, rInt, rIntL, DL.rIn, DL.rNe, eFmt, eJs, eDic0, sNever, mx2, mn2, ltI, leI, gtI, geI, eChain, decide_eq_true_eq, List.map_cons, List.map_nil, List.length_cons, List.length_nil, Nat.reduceAdd, Nat.reduceSub, List.replicate_succ, List.replicate_zero, List.cons_append, List.nil_append, List.getElem?_cons_zero, List.getElem?_cons_succ, Option.some.injEq, exists_eq_left', List.set_cons_zero, List.set_cons_succ, if_true, if_false, Bool.false_eq_true, reduceIte, and_self, true_and, D.bl.injEq, D.ob.injEq, D.int.injEq, D.str.injEq, D.tup.injEq, exists_and_left, exists_eq_left, reduceCtorEq, and_true, lk_low, lk_high, exists_eq', and_self]
  refine isi_int T ok ⟨_, rfl, ?_⟩
  cases v <;> first | exact ok.elim | (exact iteT (isi_bool T ok ⟨_, rfl, q⟩)) | (exact iteF q)
theorem ok_want_level (T : Tx K mg a d) : FnG false false P w K mg base 2 a.f_want_level d.f_want_level ["value"] (spL (G a) s_wlev) := by
  refine fn_okG T.F_want_level sc_want_level (fun _ _ _ _ ⟨_, e, _⟩ => len1 e) (fun cdv A outer s H E xs m Q x hr h => ⟨_, (dss_one (ds_if (dt_not (dt_val (de_call (ok_is_integer T) (hr.mono (show 1 ≤ _ by decide)) (by rfl) T.m_is_integer T.F_is_integer.kp T.b_is_integer takesG (da_cons (de_nm (pv 0)) da_nil)))) (dss_one ds_never) dss_nil)), ?_⟩)
  obtain ⟨i, rfl, q⟩ := h
  simp only [sSeq, sAsg, gNm, sRet, sRetN, bD, xD, nmD, startD, sIf, DL.tB, DL.tNot, DL.tAnd, DL.tOr, eAnd, eOr, eNot, eIf, isB, sDrop, sNext, sPar, eTup, eLst, eCall, eCB, aNil, aCons, eFld, eFldM, eProp, eMeth, eMethK, eNegO, eMake, eMakeK, eUn, sFldM, addI, addS, addL, subI, negI, mulI, mulL, divI, modI, powI, eqI, neI, eqS, neS, lenL, lenT, lenC, absI, intI, strI, repX, tupL, dmI, it0, it1, itL0, itL1, itL2, itL3, itL4, itL5, itL6, itR, eStat, oNone, oSome, eSl, gTp2', gIx, eLstM, eApp, rSame, rInt, rIntL, DL.rIn, DL.rNe, eFmt, eJs, eDic0, sNever, mx2, mn2, ltI, leI, gtI, geI, eChain, decide_eq_true_eq, List.map_cons, List.map_nil, List.length_cons, List.length_nil, Nat.reduceAdd, Nat.reduceSub, List.replicate_succ, List.replicate_zero, List.cons_append, List.nil_append, List.getElem?_cons_zero, List.getElem?_cons_succ, Option.some.injEq, exists_eq_left', List.set_cons_zero, List.set_cons_succ, if_true, if_false, Bool.false_eq_true, reduceIte, and_self, true_and, D.bl.injEq, D.ob.injEq, D.int.injEq, D.str.injEq, D.tup.injEq, exists_and_left, exists_eq_left, reduceCtorEq, and_true, lk_low, lk_high, exists_eq', and_self]
  exact ⟨_, rfl, True.intro, _, rfl, q⟩
theorem ok_want_span (T : Tx K mg a d) : FnG false false P w K mg base 1 a.f_want_span d.f_want_span ["value"] (spL (G a) s_wspan) := by
  refine fn_okG T.F_want_span sc_want_span (fun _ _ _ _ ⟨_, e, _⟩ => len1 e) (fun cdv A outer s H E xs m Q x hr h => ⟨_, (dss_one (ds_if (dt_not (dt_val (de_callB cd_isi (by rfl) T.z_isinstance boot_isinstance (da_cons (de_nm (pv 0)) (da_cons (de_c (pe_glob (v := .ref _) (by rfl) T.m_Span rfl) (fun _ => .ref _)) da_nil))))) (dss_one ds_never) dss_nil)), ?_⟩)
  obtain ⟨ys, rfl, q⟩ := h
  simp only [sSeq, sAsg, gNm, sRet, sRetN, bD, xD, nmD, startD, sIf, DL.tB, DL.tNot, DL.tAnd, DL.tOr, eAnd, eOr, eNot, eIf, isB, sDrop, sNext, sPar, eTup, eLst, eCall, eCB, aNil, aCons, eFld, eFldM, eProp, eMeth, eMethK, eNegO, eMake, eMakeK, eUn, sFldM, addI, addS, addL, subI, negI, mulI, mulL, divI, modI, powI, eqI, neI, eqS, neS, lenL, lenT, lenC, absI, intI, strI, repX, tupL, dmI, it0, it1, itL0, itL1, itL2, itL3, itL4, itL5, itL6, itR, eStat, oNone, oSome, eSl, gTp2', gIx, eLstM, eApp, rSame, rInt, rIntL, DL.rIn, DL.rNe, eFmt, eJs, eDic0, sNever, mx2, mn2, ltI, leI, gtI, geI, eChain, decide_eq_true_eq, List.map_cons, List.map_nil, List.length_cons, List.length_nil, Nat.reduceAdd, Nat.reduceSub, List.replicate_succ, List.replicate_zero, List.cons_append, List.nil_append, List.getElem?_cons_zero, List.getElem?_cons_succ, Option.some.injEq, exists_eq_left', List.set_cons_zero, List.set_cons_succ, if_true, if_false, Bool.false_eq_true, reduceIte, and_self, true_and, D.bl.injEq, D.ob.injEq, D.int.injEq, D.str.injEq, D.tup.injEq, exists_and_left, exists_eq_left, reduceCtorEq, and_true, lk_low, lk_high, exists_eq', and_self]
  exact isi_span T ⟨_, rfl, q⟩
theorem ok_Apart___init__ {hot grd : Bool} (T : Tx K mg a d) : FnG hot grd P w K mg base 1 a.f_Apart___init__ d.f_Apart___init__ ["self", "one", "other"] (spKeep a.Apart ["one", "other"]) := keep2 T.F_Apart___init__ sc_Apart___init__ T.Z_Apart T.n_Apart_one T.n_Apart_other rfl (.inl rfl) (.inl rfl) (.inl rfl) rfl rfl rfl rfl
theorem ok_Span___init__ (T : Tx K mg a d) : FnG false false P w K mg base 3 a.f_Span___init__ d.f_Span___init__ ["self", "low", "high"] (spL (G a) s_init) := by
  refine fn_okG T.F_Span___init__ sc_Span___init__ (fun _ _ _ _ ⟨_, _, _, e, _⟩ => len3 e) (fun cdv A outer s H E xs m Q x hr h => ⟨_, (dss_cons (ds_expr (de_call (ok_want_level T) (hr.mono (show 2 ≤ _ by decide)) (by rfl) T.m_want_level T.F_want_level.kp T.b_want_level takesG (da_cons (de_nm (pv 1)) da_nil))) (dss_cons (ds_expr (de_call (ok_want_level T) (hr.mono (show 2 ≤ _ by decide)) (by rfl) T.m_want_level T.F_want_level.kp T.b_want_level takesG (da_cons (de_nm (pv 2)) da_nil))) (dss_cons (ds_if (dt_cmp (od_gt hr.u0) (de_nm (pv 1)) (de_nm (pv 2)) (nomark _)) (dss_one ds_never) dss_nil) (dss_cons (ds_fld (c := 0) T.c_Span T.n_Span_own_low (de_nm (pv 0)) (de_nm (pv 1))) (dss_one (ds_fld (c := 0) T.c_Span T.n_Span_own_high (de_nm (pv 0)) (de_nm (pv 2)))))))), ?_⟩)
  obtain ⟨p, l, h, rfl, le, hp, q⟩ := h
  simp only [sSeq, sAsg, gNm, sRet, sRetN, bD, xD, nmD, startD, sIf, DL.tB, DL.tNot, DL.tAnd, DL.tOr, eAnd, eOr, eNot, eIf, isB, sDrop, sNext, sPar, eTup, eLst, eCall, eCB, aNil, aCons, eFld, eFldM, eProp, eMeth, eMethK, eNegO, eMake, eMakeK, eUn, sFldM, addI, addS, addL, subI, negI, mulI, mulL, divI, modI, powI, eqI, neI, eqS, neS, lenL, lenT, lenC, absI, intI, strI, repX, tupL, dmI, it0, it1, itL0, itL1, itL2, itL3, itL4, itL5, itL6, itR, eStat, oNone, oSome, eSl, gTp2', gIx, eLstM, eApp, rSame, rInt, rIntL, DL.rIn, DL.rNe, eFmt, eJs, eDic0, sNever, mx2, mn2, ltI, leI, gtI, geI, eChain, decide_eq_true_eq, List.map_cons, List.map_nil, List.length_cons, List.length_nil, Nat.reduceAdd, Nat.reduceSub, List.replicate_succ, List.replicate_zero, List.cons_append, List.nil_append, List.getElem?_cons_zero, List.getElem?_cons_succ, Option.some.injEq, exists_eq_left', List.set_cons_zero, List.set_cons_succ, if_true, if_false, Bool.false_eq_true, reduceIte, and_self, true_and, D.bl.injEq, D.ob.injEq, D.int.injEq, D.str.injEq, D.tup.injEq, exists_and_left, exists_eq_left, reduceCtorEq, and_true, lk_low, lk_high, exists_eq', and_self]
  refine ⟨_, rfl, _, rfl, ?_⟩
  dsimp only
  rw [if_neg (show ¬ h < l by omega)]
  refine ⟨p, rfl, _, hp, (show 0 < 1000 by decide), p, rfl, _, mset_same, (show 1 < 1000 by decide), ?_⟩
  rw [mset_mset, put_high]
  exact q
theorem ok_Span_around (T : Tx K mg a d) : FnR P w K mg base (L2.CX P w) 5 a.f_Span_around (fun vs H Q E => vs.length ≤ sizeLine ∧ spL (G a) s_around vs H Q E) := by
  refine fn_starG T.F_Span_around sc_Span_around T.b_Span_around (sp := fun xs => match xs with | [.tup ys] => s_around ys | _ => fun _ _ _ => False) (fun cdv A outer s H E xs m Q x hr h => ?_)
  have hr2 : Rm false false 4 _ := ⟨⟨hr.dp, hr.un⟩, fun _ => hr.hd, (fun z => nomatch z)⟩
  refine ⟨_, (dss_cons (ds_for passesC rfl (di_tup (de_nm (pv 0))) (dg_name (pg_name (i := 1) sc_Span_around.nd rfl (Or.inl rfl))) (dss_one (ds_expr (de_call (ok_want_level T) (hr2.mono (show 2 ≤ _ by decide)) (by rfl) T.m_want_level T.F_want_level.kp T.b_want_level takesC (da_cons (de_nm (pv 1)) da_nil))))) (dss_cons (ds_if (dt_cmp (od_eq hr2.u64) (de_callB (cd_len) (by rfl) T.z_len boot_len (da_cons (de_nm (pv 0)) da_nil)) (de_c pe_int (fun _ => .int _)) (nomark _)) (dss_one ds_never) dss_nil) (dss_one (ds_ret (de_make (c := 0) T.M_Span (ok_Span___init__ T) (hr2.mono (show 4 ≤ _ by decide)) (by rfl) T.m_Span T.b_Span___init__ takesC (da_cons (de_callB (cd_mn (by rfl) hr2.u8) (by rfl) T.z_min boot_min (da_cons (de_nm (pv 0)) da_nil)) (da_cons (de_callB (cd_mx (by rfl) hr2.u8) (by rfl) T.z_max boot_max (da_cons (de_nm (pv 0)) da_nil)) da_nil))))))), ?_⟩
  obtain ⟨ns, rfl, hne, hl, q⟩ := h
  simp only [sSeq, sAsg, gNm, sRet, sRetN, bD, xD, nmD, startD, sIf, DL.tB, DL.tNot, DL.tAnd, DL.tOr, eAnd, eOr, eNot, eIf, isB, sDrop, sNext, sPar, eTup, eLst, eCall, eCB, aNil, aCons, eFld, eFldM, eProp, eMeth, eMethK, eNegO, eMake, eMakeK, eUn, sFldM, addI, addS, addL, subI, negI, mulI, mulL, divI, modI, powI, eqI, neI, eqS, neS, lenL, lenT, lenC, absI, intI, strI, repX, tupL, dmI, it0, it1, itL0, itL1, itL2, itL3, itL4, itL5, itL6, itR, eStat, oNone, oSome, eSl, gTp2', gIx, eLstM, eApp, rSame, rInt, rIntL, DL.rIn, DL.rNe, eFmt, eJs, eDic0, sNever, mx2, mn2, ltI, leI, gtI, geI, eChain, decide_eq_true_eq, List.map_cons, List.map_nil, List.length_cons, List.length_nil, Nat.reduceAdd, Nat.reduceSub, List.replicate_succ, List.replicate_zero, List.cons_append, List.nil_append, List.getElem?_cons_zero, List.getElem?_cons_succ, Option.some.injEq, exists_eq_left', List.set_cons_zero, List.set_cons_succ, if_true, if_false, Bool.false_eq_true, reduceIte, and_self, true_and, D.bl.injEq, D.ob.injEq, D.int.injEq, D.str.injEq, D.tup.injEq, exists_and_left, exists_eq_left, reduceCtorEq, and_true, lk_low, lk_high, exists_eq', and_self]
  have key : ∀ (E : DEnds) (ns : List Int) (ds : DSt), (∀ ds', (ds'[0]? = ds[0]? ∧ ds'.length = ds.length) → E.nx ds' m) → 1 < ds.length → forD (gNm 1) (sDrop (eCall s_wlev (aCons (fun x ds m Q => nmD 1 ds m Q) aNil))) E (ns.map D.int) ds m := by
    intro E ns
    induction ns with
    | nil => exact fun ds h _ => h ds ⟨rfl, rfl⟩
    | cons n ns ih =>
      intro ds h hl
      refine ⟨.int n, by rw [List.getElem?_set_self hl], ?_⟩
      refine ⟨n, rfl, ih _ (fun ds' hd => h ds' ⟨hd.1.trans (by rw [List.getElem?_set_ne (by decide)]), hd.2.trans (by rw [List.length_set])⟩) (by rw [List.length_set]; exact hl)⟩
  refine ⟨_, rfl, key _ ns _ (fun ds' hd => ?_) (show 1 < 2 by decide)⟩
  have h0 : ds'[0]? = some (some (D.tup (ns.map D.int))) := hd.1
  simp only [sSeq, sAsg, gNm, sRet, sRetN, bD, xD, nmD, startD, sIf, DL.tB, DL.tNot, DL.tAnd, DL.tOr, eAnd, eOr, eNot, eIf, isB, sDrop, sNext, sPar, eTup, eLst, eCall, eCB, aNil, aCons, eFld, eFldM, eProp, eMeth, eMethK, eNegO, eMake, eMakeK, eUn, sFldM, addI, addS, addL, subI, negI, mulI, mulL, divI, modI, powI, eqI, neI, eqS, neS, lenL, lenT, lenC, absI, intI, strI, repX, tupL, dmI, it0, it1, itL0, itL1, itL2, itL3, itL4, itL5, itL6, itR, eStat, oNone, oSome, eSl, gTp2', gIx, eLstM, eApp, rSame, rInt, rIntL, DL.rIn, DL.rNe, eFmt, eJs, eDic0, sNever, mx2, mn2, ltI, leI, gtI, geI, eChain, decide_eq_true_eq, List.map_cons, List.map_nil, List.length_cons, List.length_nil, Nat.reduceAdd, Nat.reduceSub, List.replicate_succ, List.replicate_zero, List.cons_append, List.nil_append, List.getElem?_cons_zero, List.getElem?_cons_succ, Option.some.injEq, exists_eq_left', List.set_cons_zero, List.set_cons_succ, if_true, if_false, Bool.false_eq_true, reduceIte, and_self, true_and, D.bl.injEq, D.ob.injEq, D.int.injEq, D.str.injEq, D.tup.injEq, exists_and_left, exists_eq_left, reduceCtorEq, and_true, lk_low, lk_high, exists_eq', and_self, h0]
  rw [if_neg (show ¬ (((ns.map D.int).length : Nat) : Int) = 0 by rw [List.length_map]; cases ns with | nil => exact absurd rfl hne | cons n ns => simp; omega)]
  refine (.inr ⟨ns, .inr rfl, hne, .inr ⟨ns, .inr rfl, hne, mk_span ?_ q⟩⟩)
  obtain ⟨a1, a2⟩ := mnL_mem hne
  exact (mxL_mem hne).2 _ a1
theorem ok_Span_low (T : Tx K mg a d) : FnG false false P w K mg base 1 a.f_Span_low d.f_Span_low ["self"] (spL (G a) (s_get (fun l _ => .int l))) := by
  refine fn_okG T.F_Span_low sc_Span_low (fun _ _ _ _ ⟨_, _, e, _⟩ => len1 e) (fun cdv A outer s H E xs m Q x hr h => ⟨_, (dss_one (ds_ret (de_fld (c := 0) T.c_Span T.n_Span_own_low (de_nm (pv 0))))), ?_⟩)
  obtain ⟨l, h, rfl, q⟩ := h
  simp only [sSeq, sAsg, gNm, sRet, sRetN, bD, xD, nmD, startD, sIf, DL.tB, DL.tNot, DL.tAnd, DL.tOr, eAnd, eOr, eNot, eIf, isB, sDrop, sNext, sPar, eTup, eLst, eCall, eCB, aNil, aCons, eFld, eFldM, eProp, eMeth, eMethK, eNegO, eMake, eMakeK, eUn, sFldM, addI, addS, addL, subI, negI, mulI, mulL, divI, modI, powI, eqI, neI, eqS, neS, lenL, lenT, lenC, absI, intI, strI, repX, tupL, dmI, it0, it1, itL0, itL1, itL2, itL3, itL4, itL5, itL6, itR, eStat, oNone, oSome, eSl, gTp2', gIx, eLstM, eApp, rSame, rInt, rIntL, DL.rIn, DL.rNe, eFmt, eJs, eDic0, sNever, mx2, mn2, ltI, leI, gtI, geI, eChain, decide_eq_true_eq, List.map_cons, List.map_nil, List.length_cons, List.length_nil, Nat.reduceAdd, Nat.reduceSub, List.replicate_succ, List.replicate_zero, List.cons_append, List.nil_append, List.getElem?_cons_zero, List.getElem?_cons_succ, Option.some.injEq, exists_eq_left', List.set_cons_zero, List.set_cons_succ, if_true, if_false, Bool.false_eq_true, reduceIte, and_self, true_and, D.bl.injEq, D.ob.injEq, D.int.injEq, D.str.injEq, D.tup.injEq, exists_and_left, exists_eq_left, reduceCtorEq, and_true, lk_low, lk_high, exists_eq', and_self]
  exact q
theorem ok_Span_high (T : Tx K mg a d) : FnG false false P w K mg base 1 a.f_Span_high d.f_Span_high ["self"] (spL (G a) (s_get (fun _ h => .int h))) := by
  refine fn_okG T.F_Span_high sc_Span_high (fun _ _ _ _ ⟨_, _, e, _⟩ => len1 e) (fun cdv A outer s H E xs m Q x hr h => ⟨_, (dss_one (ds_ret (de_fld (c := 0) T.c_Span T.n_Span_own_high (de_nm (pv 0))))), ?_⟩)
  obtain ⟨l, h, rfl, q⟩ := h
  simp only [sSeq, sAsg, gNm, sRet, sRetN, bD, xD, nmD, startD, sIf, DL.tB, DL.tNot, DL.tAnd, DL.tOr, eAnd, eOr, eNot, eIf, isB, sDrop, sNext, sPar, eTup, eLst, eCall, eCB, aNil, aCons, eFld, eFldM, eProp, eMeth, eMethK, eNegO, eMake, eMakeK, eUn, sFldM, addI, addS, addL, subI, negI, mulI, mulL, divI, modI, powI, eqI, neI, eqS, neS, lenL, lenT, lenC, absI, intI, strI, repX, tupL, dmI, it0, it1, itL0, itL1, itL2, itL3, itL4, itL5, itL6, itR, eStat, oNone, oSome, eSl, gTp2', gIx, eLstM, eApp, rSame, rInt, rIntL, DL.rIn, DL.rNe, eFmt, eJs, eDic0, sNever, mx2, mn2, ltI, leI, gtI, geI, eChain, decide_eq_true_eq, List.map_cons, List.map_nil, List.length_cons, List.length_nil, Nat.reduceAdd, Nat.reduceSub, List.replicate_succ, List.replicate_zero, List.cons_append, List.nil_append, List.getElem?_cons_zero, List.getElem?_cons_succ, Option.some.injEq, exists_eq_left', List.set_cons_zero, List.set_cons_succ, if_true, if_false, Bool.false_eq_true, reduceIte, and_self, true_and, D.bl.injEq, D.ob.injEq, D.int.injEq, D.str.injEq, D.tup.injEq, exists_and_left, exists_eq_left, reduceCtorEq, and_true, lk_low, lk_high, exists_eq', and_self]
  exact q
theorem ok_Span_width (T : Tx K mg a d) : FnG false false P w K mg base 1 a.f_Span_width d.f_Span_width ["self"] (spL (G a) (s_get (fun l h => .int (h - l)))) := by
  refine fn_okG T.F_Span_width sc_Span_width (fun _ _ _ _ ⟨_, _, e, _⟩ => len1 e) (fun cdv A outer s H E xs m Q x hr h => ⟨_, (dss_one (ds_ret (de_op od_sub (de_fld (c := 0) T.c_Span T.n_Span_own_high (de_nm (pv 0))) (de_fld (c := 0) T.c_Span T.n_Span_own_low (de_nm (pv 0)))))), ?_⟩)
  obtain ⟨l, h, rfl, q⟩ := h
  simp only [sSeq, sAsg, gNm, sRet, sRetN, bD, xD, nmD, startD, sIf, DL.tB, DL.tNot, DL.tAnd, DL.tOr, eAnd, eOr, eNot, eIf, isB, sDrop, sNext, sPar, eTup, eLst, eCall, eCB, aNil, aCons, eFld, eFldM, eProp, eMeth, eMethK, eNegO, eMake, eMakeK, eUn, sFldM, addI, addS, addL, subI, negI, mulI, mulL, divI, modI, powI, eqI, neI, eqS, neS, lenL, lenT, lenC, absI, intI, strI, repX, tupL, dmI, it0, it1, itL0, itL1, itL2, itL3, itL4, itL5, itL6, itR, eStat, oNone, oSome, eSl, gTp2', gIx, eLstM, eApp, rSame, rInt, rIntL, DL.rIn, DL.rNe, eFmt, eJs, eDic0, sNever, mx2, mn2, ltI, leI, gtI, geI, eChain, decide_eq_true_eq, List.map_cons, List.map_nil, List.length_cons, List.length_nil, Nat.reduceAdd, Nat.reduceSub, List.replicate_succ, List.replicate_zero, List.cons_append, List.nil_append, List.getElem?_cons_zero, List.getElem?_cons_succ, Option.some.injEq, exists_eq_left', List.set_cons_zero, List.set_cons_succ, if_true, if_false, Bool.false_eq_true, reduceIte, and_self, true_and, D.bl.injEq, D.ob.injEq, D.int.injEq, D.str.injEq, D.tup.injEq, exists_and_left, exists_eq_left, reduceCtorEq, and_true, lk_low, lk_high, exists_eq', and_self]
  exact q
theorem ok_Span_is_within (T : Tx K mg a d) : FnG false false P w K mg base 2 a.f_Span_is_within d.f_Span_is_within ["self", "other"] (spL (G a) (s_two fun l h l2 h2 => .bl (decide (l2 ≤ l) && decide (h ≤ h2)))) := by
  refine fn_okG T.F_Span_is_within sc_Span_is_within (fun _ _ _ _ ⟨_, _, _, _, e, _⟩ => len2 e) (fun cdv A outer s H E xs m Q x hr h => ⟨_, (dss_cons (ds_expr (de_call (ok_want_span T) (hr.mono (show 1 ≤ _ by decide)) (by rfl) T.m_want_span T.F_want_span.kp T.b_want_span takesG (da_cons (de_nm (pv 1)) da_nil))) (dss_one (ds_ret (de_and (de_cmp (od_le hr.u0) (de_fld (c := 0) T.c_Span T.n_Span_own_low (de_nm (pv 1))) (de_fld (c := 0) T.c_Span T.n_Span_own_low (de_nm (pv 0))) (nomark _)) (de_one (de_cmp (od_le hr.u0) (de_fld (c := 0) T.c_Span T.n_Span_own_high (de_nm (pv 0))) (de_fld (c := 0) T.c_Span T.n_Span_own_high (de_nm (pv 1))) (nomark _))))))), ?_⟩)
  obtain ⟨l, h, l2, h2, rfl, le1, le2, q⟩ := h
  simp only [sSeq, sAsg, gNm, sRet, sRetN, bD, xD, nmD, startD, sIf, DL.tB, DL.tNot, DL.tAnd, DL.tOr, eAnd, eOr, eNot, eIf, isB, sDrop, sNext, sPar, eTup, eLst, eCall, eCB, aNil, aCons, eFld, eFldM, eProp, eMeth, eMethK, eNegO, eMake, eMakeK, eUn, sFldM, addI, addS, addL, subI, negI, mulI, mulL, divI, modI, powI, eqI, neI, eqS, neS, lenL, lenT, lenC, absI, intI, strI, repX, tupL, dmI, it0, it1, itL0, itL1, itL2, itL3, itL4, itL5, itL6, itR, eStat, oNone, oSome, eSl, gTp2', gIx, eLstM, eApp, rSame, rInt, rIntL, DL.rIn, DL.rNe, eFmt, eJs, eDic0, sNever, mx2, mn2, ltI, leI, gtI, geI, eChain, decide_eq_true_eq, List.map_cons, List.map_nil, List.length_cons, List.length_nil, Nat.reduceAdd, Nat.reduceSub, List.replicate_succ, List.replicate_zero, List.cons_append, List.nil_append, List.getElem?_cons_zero, List.getElem?_cons_succ, Option.some.injEq, exists_eq_left', List.set_cons_zero, List.set_cons_succ, if_true, if_false, Bool.false_eq_true, reduceIte, and_self, true_and, D.bl.injEq, D.ob.injEq, D.int.injEq, D.str.injEq, D.tup.injEq, exists_and_left, exists_eq_left, reduceCtorEq, and_true, lk_low, lk_high, exists_eq', and_self]
  refine ⟨_, rfl, ?_⟩
  simp only [sSeq, sAsg, gNm, sRet, sRetN, bD, xD, nmD, startD, sIf, DL.tB, DL.tNot, DL.tAnd, DL.tOr, eAnd, eOr, eNot, eIf, isB, sDrop, sNext, sPar, eTup, eLst, eCall, eCB, aNil, aCons, eFld, eFldM, eProp, eMeth, eMethK, eNegO, eMake, eMakeK, eUn, sFldM, addI, addS, addL, subI, negI, mulI, mulL, divI, modI, powI, eqI, neI, eqS, neS, lenL, lenT, lenC, absI, intI, strI, repX, tupL, dmI, it0, it1, itL0, itL1, itL2, itL3, itL4, itL5, itL6, itR, eStat, oNone, oSome, eSl, gTp2', gIx, eLstM, eApp, rSame, rInt, rIntL, DL.rIn, DL.rNe, eFmt, eJs, eDic0, sNever, mx2, mn2, ltI, leI, gtI, geI, eChain, decide_eq_true_eq, List.map_cons, List.map_nil, List.length_cons, List.length_nil, Nat.reduceAdd, Nat.reduceSub, List.replicate_succ, List.replicate_zero, List.cons_append, List.nil_append, List.getElem?_cons_zero, List.getElem?_cons_succ, Option.some.injEq, exists_eq_left', List.set_cons_zero, List.set_cons_succ, if_true, if_false, Bool.false_eq_true, reduceIte, and_self, true_and, D.bl.injEq, D.ob.injEq, D.int.injEq, D.str.injEq, D.tup.injEq, exists_and_left, exists_eq_left, reduceCtorEq, and_true, lk_low, lk_high, exists_eq', and_self]
  have qq : Q (.bl (decide (l2 ≤ l) && decide (h ≤ h2))) m := q
  by_cases c : l2 ≤ l
  · rw [if_pos c]
    rw [decide_eq_true c] at qq
    exact qq
  · rw [if_neg c]
    rw [decide_eq_false c] at qq
    exact qq
theorem ok_Span___contains__ (T : Tx K mg a d) : FnG false false P w K mg base 2 a.f_Span___contains__ d.f_Span___contains__ ["self", "value"] (spL (G a) s_cont) := by
  refine fn_okG T.F_Span___contains__ sc_Span___contains__ (fun _ _ _ _ ⟨_, _, _, e, _⟩ => len2 e) (fun cdv A outer s H E xs m Q x hr h => ⟨_, (dss_one (ds_ret (de_and (de_call (ok_is_integer T) (hr.mono (show 1 ≤ _ by decide)) (by rfl) T.m_is_integer T.F_is_integer.kp T.b_is_integer takesG (da_cons (de_nm (pv 1)) da_nil)) (de_one (de_chain (od_le hr.u0) (od_le hr.u0) (de_fld (c := 0) T.c_Span T.n_Span_own_low (de_nm (pv 0))) (de_nm (pv 1)) (de_fld (c := 0) T.c_Span T.n_Span_own_high (de_nm (pv 0)))))))), ?_⟩)
  obtain ⟨l, h, v, rfl, ok, q⟩ := h
  simp only [sSeq, sAsg, gNm, sRet, sRetN, bD, xD, nmD, startD, sIf, DL.tB, DL.tNot, DL.tAnd, DL.tOr, eAnd, eOr, eNot, eIf, isB, sDrop, sNext, sPar, eTup, eLst, eCall, eCB, aNil, aCons, eFld, eFldM, eProp, eMeth, eMethK, eNegO, eMake, eMakeK, eUn, sFldM, addI, addS, addL, subI, negI, mulI, mulL, divI, modI, powI, eqI, neI, eqS, neS, lenL, lenT, lenC, absI, intI, strI, repX, tupL, dmI, it0, it1, itL0, itL1, itL2, itL3, itL4, itL5, itL6, itR, eStat, oNone, oSome, eSl, gTp2', gIx, eLstM, eApp, rSame, rInt, rIntL, DL.rIn, DL.rNe, eFmt, eJs, eDic0, sNever, mx2, mn2, ltI, leI, gtI, geI, eChain, decide_eq_true_eq, List.map_cons, List.map_nil, List.length_cons, List.length_nil, Nat.reduceAdd, Nat.reduceSub, List.replicate_succ, List.replicate_zero, List.cons_append, List.nil_append, List.getElem?_cons_zero, List.getElem?_cons_succ, Option.some.injEq, exists_eq_left', List.set_cons_zero, List.set_cons_succ, if_true, if_false, Bool.false_eq_true, reduceIte, and_self, true_and, D.bl.injEq, D.ob.injEq, D.int.injEq, D.str.injEq, D.tup.injEq, exists_and_left, exists_eq_left, reduceCtorEq, and_true, lk_low, lk_high, exists_eq', and_self]
  refine ⟨v, rfl, ok, _, rfl, ?_⟩
  cases v with
  | int i =>
    refine iteT ?_
    by_cases c : l ≤ i
    · have qq : Q (.bl (decide (l ≤ i) && decide (i ≤ h))) m := q
      rw [decide_eq_true c] at qq
      exact ⟨_, rfl, by rw [decide_eq_true c]; exact iteT qq⟩
    · have qq : Q (.bl (decide (l ≤ i) && decide (i ≤ h))) m := q
      rw [decide_eq_false c] at qq
      exact ⟨_, rfl, by rw [decide_eq_false c]; exact iteF qq⟩
  | ty n => exact ok.elim
  | ref n => exact ok.elim
  | exc _ _ _ _ => exact ok.elim
  | _ => exact iteF q
theorem ok_Span___and__ (T : Tx K mg a d) : FnG false false P w K mg base 5 a.f_Span___and__ d.f_Span___and__ ["self", "other"] (spL (G a) s_and) := by
  refine fn_okG T.F_Span___and__ sc_Span___and__ (fun _ _ _ _ ⟨_, _, _, _, e, _⟩ => len2 e) (fun cdv A outer s H E xs m Q x hr h => ⟨_, (dss_cons (ds_expr (de_call (ok_want_span T) (hr.mono (show 1 ≤ _ by decide)) (by rfl) T.m_want_span T.F_want_span.kp T.b_want_span takesG (da_cons (de_nm (pv 1)) da_nil))) (dss_cons (ds_if (dw_pt (dw_or (dt_cmp (od_gt hr.u0) (de_fld (c := 0) T.c_Span T.n_Span_own_low (de_nm (pv 1))) (de_fld (c := 0) T.c_Span T.n_Span_own_high (de_nm (pv 0))) (nomark _)) (dw_or1 (dt_cmp (od_gt hr.u0) (de_fld (c := 0) T.c_Span T.n_Span_own_low (de_nm (pv 0))) (de_fld (c := 0) T.c_Span T.n_Span_own_high (de_nm (pv 1))) (nomark _))))) (dss_one (ds_raise (c := 4) rfl takesG T.Z_Apart T.iC_Apart T.tI_Apart (ok_Apart___init__ (hot := false) (grd := false) T) (hr.mono (show 2 ≤ _ by decide)) T.b_Apart___init__ (by rfl) T.m_Apart rfl (by decide) (da_cons (de_nm (pv 0)) (da_cons (de_nm (pv 1)) da_nil)))) dss_nil) (dss_one (ds_ret (de_make (c := 0) T.M_Span (ok_Span___init__ T) (hr.mono (show 4 ≤ _ by decide)) (by rfl) T.m_Span T.b_Span___init__ takesG (da_cons (de_callB (cd_mx (by rfl) hr.u8) (by rfl) T.z_max boot_max (da_cons (de_fld (c := 0) T.c_Span T.n_Span_own_low (de_nm (pv 0))) (da_cons (de_fld (c := 0) T.c_Span T.n_Span_own_low (de_nm (pv 1))) da_nil))) (da_cons (de_callB (cd_mn (by rfl) hr.u8) (by rfl) T.z_min boot_min (da_cons (de_fld (c := 0) T.c_Span T.n_Span_own_high (de_nm (pv 0))) (da_cons (de_fld (c := 0) T.c_Span T.n_Span_own_high (de_nm (pv 1))) da_nil))) da_nil))))))), ?_⟩)
  obtain ⟨l, h, l2, h2, rfl, le1, le2, q⟩ := h
  simp only [sSeq, sAsg, gNm, sRet, sRetN, bD, xD, nmD, startD, sIf, DL.tB, DL.tNot, DL.tAnd, DL.tOr, eAnd, eOr, eNot, eIf, isB, sDrop, sNext, sPar, eTup, eLst, eCall, eCB, aNil, aCons, eFld, eFldM, eProp, eMeth, eMethK, eNegO, eMake, eMakeK, eUn, sFldM, addI, addS, addL, subI, negI, mulI, mulL, divI, modI, powI, eqI, neI, eqS, neS, lenL, lenT, lenC, absI, intI, strI, repX, tupL, dmI, it0, it1, itL0, itL1, itL2, itL3, itL4, itL5, itL6, itR, eStat, oNone, oSome, eSl, gTp2', gIx, eLstM, eApp, rSame, rInt, rIntL, DL.rIn, DL.rNe, eFmt, eJs, eDic0, sNever, mx2, mn2, ltI, leI, gtI, geI, eChain, decide_eq_true_eq, List.map_cons, List.map_nil, List.length_cons, List.length_nil, Nat.reduceAdd, Nat.reduceSub, List.replicate_succ, List.replicate_zero, List.cons_append, List.nil_append, List.getElem?_cons_zero, List.getElem?_cons_succ, Option.some.injEq, exists_eq_left', List.set_cons_zero, List.set_cons_succ, if_true, if_false, Bool.false_eq_true, reduceIte, and_self, true_and, D.bl.injEq, D.ob.injEq, D.int.injEq, D.str.injEq, D.tup.injEq, exists_and_left, exists_eq_left, reduceCtorEq, and_true, lk_low, lk_high, exists_eq', and_self]
  refine ⟨_, rfl, ?_⟩
  simp only [sSeq, sAsg, gNm, sRet, sRetN, bD, xD, nmD, startD, sIf, DL.tB, DL.tNot, DL.tAnd, DL.tOr, eAnd, eOr, eNot, eIf, isB, sDrop, sNext, sPar, eTup, eLst, eCall, eCB, aNil, aCons, eFld, eFldM, eProp, eMeth, eMethK, eNegO, eMake, eMakeK, eUn, sFldM, addI, addS, addL, subI, negI, mulI, mulL, divI, modI, powI, eqI, neI, eqS, neS, lenL, lenT, lenC, absI, intI, strI, repX, tupL, dmI, it0, it1, itL0, itL1, itL2, itL3, itL4, itL5, itL6, itR, eStat, oNone, oSome, eSl, gTp2', gIx, eLstM, eApp, rSame, rInt, rIntL, DL.rIn, DL.rNe, eFmt, eJs, eDic0, sNever, mx2, mn2, ltI, leI, gtI, geI, eChain, decide_eq_true_eq, List.map_cons, List.map_nil, List.length_cons, List.length_nil, Nat.reduceAdd, Nat.reduceSub, List.replicate_succ, List.replicate_zero, List.cons_append, List.nil_append, List.getElem?_cons_zero, List.getElem?_cons_succ, Option.some.injEq, exists_eq_left', List.set_cons_zero, List.set_cons_succ, if_true, if_false, Bool.false_eq_true, reduceIte, and_self, true_and, D.bl.injEq, D.ob.injEq, D.int.injEq, D.str.injEq, D.tup.injEq, exists_and_left, exists_eq_left, reduceCtorEq, and_true, lk_low, lk_high, exists_eq', and_self]
  by_cases c : aprt l h l2 h2
  · rw [if_pos c] at q
    unfold aprt at c
    by_cases c1 : h < l2
    · rw [if_pos c1]
      exact ⟨_, rfl, _, rfl, rfl, q⟩
    · rw [if_neg c1, if_pos (show h2 < l by omega)]
      exact ⟨_, rfl, _, rfl, rfl, q⟩
  · rw [if_neg c] at q
    unfold aprt at c
    rw [if_neg (show ¬ h < l2 by omega), if_neg (show ¬ h2 < l by omega)]
    exact mk_span (by omega) q
theorem ok_Span___or__ (T : Tx K mg a d) : FnG false false P w K mg base 5 a.f_Span___or__ d.f_Span___or__ ["self", "other"] (spL (G a) (s_two fun l h l2 h2 => spv (min l l2) (max h h2))) := by
  refine fn_okG T.F_Span___or__ sc_Span___or__ (fun _ _ _ _ ⟨_, _, _, _, e, _⟩ => len2 e) (fun cdv A outer s H E xs m Q x hr h => ⟨_, (dss_cons (ds_expr (de_call (ok_want_span T) (hr.mono (show 1 ≤ _ by decide)) (by rfl) T.m_want_span T.F_want_span.kp T.b_want_span takesG (da_cons (de_nm (pv 1)) da_nil))) (dss_one (ds_ret (de_make (c := 0) T.M_Span (ok_Span___init__ T) (hr.mono (show 4 ≤ _ by decide)) (by rfl) T.m_Span T.b_Span___init__ takesG (da_cons (de_callB (cd_mn (by rfl) hr.u8) (by rfl) T.z_min boot_min (da_cons (de_fld (c := 0) T.c_Span T.n_Span_own_low (de_nm (pv 0))) (da_cons (de_fld (c := 0) T.c_Span T.n_Span_own_low (de_nm (pv 1))) da_nil))) (da_cons (de_callB (cd_mx (by rfl) hr.u8) (by rfl) T.z_max boot_max (da_cons (de_fld (c := 0) T.c_Span T.n_Span_own_high (de_nm (pv 0))) (da_cons (de_fld (c := 0) T.c_Span T.n_Span_own_high (de_nm (pv 1))) da_nil))) da_nil)))))), ?_⟩)
  obtain ⟨l, h, l2, h2, rfl, le1, le2, q⟩ := h
  simp only [sSeq, sAsg, gNm, sRet, sRetN, bD, xD, nmD, startD, sIf, DL.tB, DL.tNot, DL.tAnd, DL.tOr, eAnd, eOr, eNot, eIf, isB, sDrop, sNext, sPar, eTup, eLst, eCall, eCB, aNil, aCons, eFld, eFldM, eProp, eMeth, eMethK, eNegO, eMake, eMakeK, eUn, sFldM, addI, addS, addL, subI, negI, mulI, mulL, divI, modI, powI, eqI, neI, eqS, neS, lenL, lenT, lenC, absI, intI, strI, repX, tupL, dmI, it0, it1, itL0, itL1, itL2, itL3, itL4, itL5, itL6, itR, eStat, oNone, oSome, eSl, gTp2', gIx, eLstM, eApp, rSame, rInt, rIntL, DL.rIn, DL.rNe, eFmt, eJs, eDic0, sNever, mx2, mn2, ltI, leI, gtI, geI, eChain, decide_eq_true_eq, List.map_cons, List.map_nil, List.length_cons, List.length_nil, Nat.reduceAdd, Nat.reduceSub, List.replicate_succ, List.replicate_zero, List.cons_append, List.nil_append, List.getElem?_cons_zero, List.getElem?_cons_succ, Option.some.injEq, exists_eq_left', List.set_cons_zero, List.set_cons_succ, if_true, if_false, Bool.false_eq_true, reduceIte, and_self, true_and, D.bl.injEq, D.ob.injEq, D.int.injEq, D.str.injEq, D.tup.injEq, exists_and_left, exists_eq_left, reduceCtorEq, and_true, lk_low, lk_high, exists_eq', and_self]
  refine ⟨_, rfl, ?_⟩
  simp only [sSeq, sAsg, gNm, sRet, sRetN, bD, xD, nmD, startD, sIf, DL.tB, DL.tNot, DL.tAnd, DL.tOr, eAnd, eOr, eNot, eIf, isB, sDrop, sNext, sPar, eTup, eLst, eCall, eCB, aNil, aCons, eFld, eFldM, eProp, eMeth, eMethK, eNegO, eMake, eMakeK, eUn, sFldM, addI, addS, addL, subI, negI, mulI, mulL, divI, modI, powI, eqI, neI, eqS, neS, lenL, lenT, lenC, absI, intI, strI, repX, tupL, dmI, it0, it1, itL0, itL1, itL2, itL3, itL4, itL5, itL6, itR, eStat, oNone, oSome, eSl, gTp2', gIx, eLstM, eApp, rSame, rInt, rIntL, DL.rIn, DL.rNe, eFmt, eJs, eDic0, sNever, mx2, mn2, ltI, leI, gtI, geI, eChain, decide_eq_true_eq, List.map_cons, List.map_nil, List.length_cons, List.length_nil, Nat.reduceAdd, Nat.reduceSub, List.replicate_succ, List.replicate_zero, List.cons_append, List.nil_append, List.getElem?_cons_zero, List.getElem?_cons_succ, Option.some.injEq, exists_eq_left', List.set_cons_zero, List.set_cons_succ, if_true, if_false, Bool.false_eq_true, reduceIte, and_self, true_and, D.bl.injEq, D.ob.injEq, D.int.injEq, D.str.injEq, D.tup.injEq, exists_and_left, exists_eq_left, reduceCtorEq, and_true, lk_low, lk_high, exists_eq', and_self]
  exact mk_span (by omega) q
theorem ok_Span___add__ (T : Tx K mg a d) : FnG false false P w K mg base 5 a.f_Span___add__ d.f_Span___add__ ["self", "number"] (spL (G a) (s_int (fun l h n => spv (l + n) (h + n)))) := by
  refine fn_okG T.F_Span___add__ sc_Span___add__ (fun _ _ _ _ ⟨_, _, _, e, _⟩ => len2 e) (fun cdv A outer s H E xs m Q x hr h => ⟨_, (dss_cons (ds_expr (de_call (ok_want_level T) (hr.mono (show 2 ≤ _ by decide)) (by rfl) T.m_want_level T.F_want_level.kp T.b_want_level takesG (da_cons (de_nm (pv 1)) da_nil))) (dss_one (ds_ret (de_make (c := 0) T.M_Span (ok_Span___init__ T) (hr.mono (show 4 ≤ _ by decide)) (by rfl) T.m_Span T.b_Span___init__ takesG (da_cons (de_op od_add (de_fld (c := 0) T.c_Span T.n_Span_own_low (de_nm (pv 0))) (de_nm (pv 1))) (da_cons (de_op od_add (de_fld (c := 0) T.c_Span T.n_Span_own_high (de_nm (pv 0))) (de_nm (pv 1))) da_nil)))))), ?_⟩)
  obtain ⟨l, h, n, rfl, le, q⟩ := h
  simp only [sSeq, sAsg, gNm, sRet, sRetN, bD, xD, nmD, startD, sIf, DL.tB, DL.tNot, DL.tAnd, DL.tOr, eAnd, eOr, eNot, eIf, isB, sDrop, sNext, sPar, eTup, eLst, eCall, eCB, aNil, aCons, eFld, eFldM, eProp, eMeth, eMethK, eNegO, eMake, eMakeK, eUn, sFldM, addI, addS, addL, subI, negI, mulI, mulL, divI, modI, powI, eqI, neI, eqS, neS, lenL, lenT, lenC, absI, intI, strI, repX, tupL, dmI, it0, it1, itL0, itL1, itL2, itL3, itL4, itL5, itL6, itR, eStat, oNone, oSome, eSl, gTp2', gIx, eLstM, eApp, rSame, rInt, rIntL, DL.rIn, DL.rNe, eFmt, eJs, eDic0, sNever, mx2, mn2, ltI, leI, gtI, geI, eChain, decide_eq_true_eq, List.map_cons, List.map_nil, List.length_cons, List.length_nil, Nat.reduceAdd, Nat.reduceSub, List.replicate_succ, List.replicate_zero, List.cons_append, List.nil_append, List.getElem?_cons_zero, List.getElem?_cons_succ, Option.some.injEq, exists_eq_left', List.set_cons_zero, List.set_cons_succ, if_true, if_false, Bool.false_eq_true, reduceIte, and_self, true_and, D.bl.injEq, D.ob.injEq, D.int.injEq, D.str.injEq, D.tup.injEq, exists_and_left, exists_eq_left, reduceCtorEq, and_true, lk_low, lk_high, exists_eq', and_self]
  refine ⟨_, rfl, ?_⟩
  simp only [sSeq, sAsg, gNm, sRet, sRetN, bD, xD, nmD, startD, sIf, DL.tB, DL.tNot, DL.tAnd, DL.tOr, eAnd, eOr, eNot, eIf, isB, sDrop, sNext, sPar, eTup, eLst, eCall, eCB, aNil, aCons, eFld, eFldM, eProp, eMeth, eMethK, eNegO, eMake, eMakeK, eUn, sFldM, addI, addS, addL, subI, negI, mulI, mulL, divI, modI, powI, eqI, neI, eqS, neS, lenL, lenT, lenC, absI, intI, strI, repX, tupL, dmI, it0, it1, itL0, itL1, itL2, itL3, itL4, itL5, itL6, itR, eStat, oNone, oSome, eSl, gTp2', gIx, eLstM, eApp, rSame, rInt, rIntL, DL.rIn, DL.rNe, eFmt, eJs, eDic0, sNever, mx2, mn2, ltI, leI, gtI, geI, eChain, decide_eq_true_eq, List.map_cons, List.map_nil, List.length_cons, List.length_nil, Nat.reduceAdd, Nat.reduceSub, List.replicate_succ, List.replicate_zero, List.cons_append, List.nil_append, List.getElem?_cons_zero, List.getElem?_cons_succ, Option.some.injEq, exists_eq_left', List.set_cons_zero, List.set_cons_succ, if_true, if_false, Bool.false_eq_true, reduceIte, and_self, true_and, D.bl.injEq, D.ob.injEq, D.int.injEq, D.str.injEq, D.tup.injEq, exists_and_left, exists_eq_left, reduceCtorEq, and_true, lk_low, lk_high, exists_eq', and_self]
  exact mk_span (by omega) q
theorem ok_Span___radd__ (T : Tx K mg a d) : FnG false false P w K mg base 5 a.f_Span___radd__ d.f_Span___radd__ ["self", "number"] (spL (G a) (s_int (fun l h n => spv (l + n) (h + n)))) := by
  refine fn_okG T.F_Span___radd__ sc_Span___radd__ (fun _ _ _ _ ⟨_, _, _, e, _⟩ => len2 e) (fun cdv A outer s H E xs m Q x hr h => ⟨_, (dss_cons (ds_expr (de_call (ok_want_level T) (hr.mono (show 2 ≤ _ by decide)) (by rfl) T.m_want_level T.F_want_level.kp T.b_want_level takesG (da_cons (de_nm (pv 1)) da_nil))) (dss_one (ds_ret (de_make (c := 0) T.M_Span (ok_Span___init__ T) (hr.mono (show 4 ≤ _ by decide)) (by rfl) T.m_Span T.b_Span___init__ takesG (da_cons (de_op od_add (de_fld (c := 0) T.c_Span T.n_Span_own_low (de_nm (pv 0))) (de_nm (pv 1))) (da_cons (de_op od_add (de_fld (c := 0) T.c_Span T.n_Span_own_high (de_nm (pv 0))) (de_nm (pv 1))) da_nil)))))), ?_⟩)
  obtain ⟨l, h, n, rfl, le, q⟩ := h
  simp only [sSeq, sAsg, gNm, sRet, sRetN, bD, xD, nmD, startD, sIf, DL.tB, DL.tNot, DL.tAnd, DL.tOr, eAnd, eOr, eNot, eIf, isB, sDrop, sNext, sPar, eTup, eLst, eCall, eCB, aNil, aCons, eFld, eFldM, eProp, eMeth, eMethK, eNegO, eMake, eMakeK, eUn, sFldM, addI, addS, addL, subI, negI, mulI, mulL, divI, modI, powI, eqI, neI, eqS, neS, lenL, lenT, lenC, absI, intI, strI, repX, tupL, dmI, it0, it1, itL0, itL1, itL2, itL3, itL4, itL5, itL6, itR, eStat, oNone, oSome, eSl, gTp2', gIx, eLstM, eApp, rSame, rInt, rIntL, DL.rIn, DL.rNe, eFmt, eJs, eDic0, sNever, mx2, mn2, ltI, leI, gtI, geI, eChain, decide_eq_true_eq, List.map_cons, List.map_nil, List.length_cons, List.length_nil, Nat.reduceAdd, Nat.reduceSub, List.replicate_succ, List.replicate_zero, List.cons_append, List.nil_append, List.getElem?_cons_zero, List.getElem?_cons_succ, Option.some.injEq, exists_eq_left', List.set_cons_zero, List.set_cons_succ, if_true, if_false, Bool.false_eq_true, reduceIte, and_self, true_and, D.bl.injEq, D.ob.injEq, D.int.injEq, D.str.injEq, D.tup.injEq, exists_and_left, exists_eq_left, reduceCtorEq, and_true, lk_low, lk_high, exists_eq', and_self]
  refine ⟨_, rfl, ?_⟩
  simp only [sSeq, sAsg, gNm, sRet, sRetN, bD, xD, nmD, startD, sIf, DL.tB, DL.tNot, DL.tAnd, DL.tOr, eAnd, eOr, eNot, eIf, isB, sDrop, sNext, sPar, eTup, eLst, eCall, eCB, aNil, aCons, eFld, eFldM, eProp, eMeth, eMethK, eNegO, eMake, eMakeK, eUn, sFldM, addI, addS, addL, subI, negI, mulI, mulL, divI, modI, powI, eqI, neI, eqS, neS, lenL, lenT, lenC, absI, intI, strI, repX, tupL, dmI, it0, it1, itL0, itL1, itL2, itL3, itL4, itL5, itL6, itR, eStat, oNone, oSome, eSl, gTp2', gIx, eLstM, eApp, rSame, rInt, rIntL, DL.rIn, DL.rNe, eFmt, eJs, eDic0, sNever, mx2, mn2, ltI, leI, gtI, geI, eChain, decide_eq_true_eq, List.map_cons, List.map_nil, List.length_cons, List.length_nil, Nat.reduceAdd, Nat.reduceSub, List.replicate_succ, List.replicate_zero, List.cons_append, List.nil_append, List.getElem?_cons_zero, List.getElem?_cons_succ, Option.some.injEq, exists_eq_left', List.set_cons_zero, List.set_cons_succ, if_true, if_false, Bool.false_eq_true, reduceIte, and_self, true_and, D.bl.injEq, D.ob.injEq, D.int.injEq, D.str.injEq, D.tup.injEq, exists_and_left, exists_eq_left, reduceCtorEq, and_true, lk_low, lk_high, exists_eq', and_self]
  exact mk_span (by omega) q
theorem ok_Span___sub__ (T : Tx K mg a d) : FnG false false P w K mg base 5 a.f_Span___sub__ d.f_Span___sub__ ["self", "number"] (spL (G a) (s_int (fun l h n => spv (l - n) (h - n)))) := by
  refine fn_okG T.F_Span___sub__ sc_Span___sub__ (fun _ _ _ _ ⟨_, _, _, e, _⟩ => len2 e) (fun cdv A outer s H E xs m Q x hr h => ⟨_, (dss_cons (ds_expr (de_call (ok_want_level T) (hr.mono (show 2 ≤ _ by decide)) (by rfl) T.m_want_level T.F_want_level.kp T.b_want_level takesG (da_cons (de_nm (pv 1)) da_nil))) (dss_one (ds_ret (de_make (c := 0) T.M_Span (ok_Span___init__ T) (hr.mono (show 4 ≤ _ by decide)) (by rfl) T.m_Span T.b_Span___init__ takesG (da_cons (de_op od_sub (de_fld (c := 0) T.c_Span T.n_Span_own_low (de_nm (pv 0))) (de_nm (pv 1))) (da_cons (de_op od_sub (de_fld (c := 0) T.c_Span T.n_Span_own_high (de_nm (pv 0))) (de_nm (pv 1))) da_nil)))))), ?_⟩)
  obtain ⟨l, h, n, rfl, le, q⟩ := h
  simp only [sSeq, sAsg, gNm, sRet, sRetN, bD, xD, nmD, startD, sIf, DL.tB, DL.tNot, DL.tAnd, DL.tOr, eAnd, eOr, eNot, eIf, isB, sDrop, sNext, sPar, eTup, eLst, eCall, eCB, aNil, aCons, eFld, eFldM, eProp, eMeth, eMethK, eNegO, eMake, eMakeK, eUn, sFldM, addI, addS, addL, subI, negI, mulI, mulL, divI, modI, powI, eqI, neI, eqS, neS, lenL, lenT, lenC, absI, intI, strI, repX, tupL, dmI, it0, it1, itL0, itL1, itL2, itL3, itL4, itL5, itL6, itR, eStat, oNone, oSome, eSl, gTp2', gIx, eLstM, eApp, rSame, rInt, rIntL, DL.rIn, DL.rNe, eFmt, eJs, eDic0, sNever, mx2, mn2, ltI, leI, gtI, geI, eChain, decide_eq_true_eq, List.map_cons, List.map_nil, List.length_cons, List.length_nil, Nat.reduceAdd, Nat.reduceSub, List.replicate_succ, List.replicate_zero, List.cons_append, List.nil_append, List.getElem?_cons_zero, List.getElem?_cons_succ, Option.some.injEq, exists_eq_left', List.set_cons_zero, List.set_cons_succ, if_true, if_false, Bool.false_eq_true, reduceIte, and_self, true_and, D.bl.injEq, D.ob.injEq, D.int.injEq, D.str.injEq, D.tup.injEq, exists_and_left, exists_eq_left, reduceCtorEq, and_true, lk_low, lk_high, exists_eq', and_self]
  refine ⟨_, rfl, ?_⟩
  simp only [sSeq, sAsg, gNm, sRet, sRetN, bD, xD, nmD, startD, sIf, DL.tB, DL.tNot, DL.tAnd, DL.tOr, eAnd, eOr, eNot, eIf, isB, sDrop, sNext, sPar, eTup, eLst, eCall, eCB, aNil, aCons, eFld, eFldM, eProp, eMeth, eMethK, eNegO, eMake, eMakeK, eUn, sFldM, addI, addS, addL, subI, negI, mulI, mulL, divI, modI, powI, eqI, neI, eqS, neS, lenL, lenT, lenC, absI, intI, strI, repX, tupL, dmI, it0, it1, itL0, itL1, itL2, itL3, itL4, itL5, itL6, itR, eStat, oNone, oSome, eSl, gTp2', gIx, eLstM, eApp, rSame, rInt, rIntL, DL.rIn, DL.rNe, eFmt, eJs, eDic0, sNever, mx2, mn2, ltI, leI, gtI, geI, eChain, decide_eq_true_eq, List.map_cons, List.map_nil, List.length_cons, List.length_nil, Nat.reduceAdd, Nat.reduceSub, List.replicate_succ, List.replicate_zero, List.cons_append, List.nil_append, List.getElem?_cons_zero, List.getElem?_cons_succ, Option.some.injEq, exists_eq_left', List.set_cons_zero, List.set_cons_succ, if_true, if_false, Bool.false_eq_true, reduceIte, and_self, true_and, D.bl.injEq, D.ob.injEq, D.int.injEq, D.str.injEq, D.tup.injEq, exists_and_left, exists_eq_left, reduceCtorEq, and_true, lk_low, lk_high, exists_eq', and_self]
  exact mk_span (by omega) q
theorem ok_Span___neg__ (T : Tx K mg a d) : FnG false false P w K mg base 5 a.f_Span___neg__ d.f_Span___neg__ ["self"] (spL (G a) s_neg) := by
  refine fn_okG T.F_Span___neg__ sc_Span___neg__ (fun _ _ _ _ ⟨_, _, e, _⟩ => len1 e) (fun cdv A outer s H E xs m Q x hr h => ⟨_, (dss_one (ds_ret (de_make (c := 0) T.M_Span (ok_Span___init__ T) (hr.mono (show 4 ≤ _ by decide)) (by rfl) T.m_Span T.b_Span___init__ takesG (da_cons (de_neg (de_fld (c := 0) T.c_Span T.n_Span_own_high (de_nm (pv 0)))) (da_cons (de_neg (de_fld (c := 0) T.c_Span T.n_Span_own_low (de_nm (pv 0)))) da_nil))))), ?_⟩)
  obtain ⟨l, h, rfl, le, q⟩ := h
  simp only [sSeq, sAsg, gNm, sRet, sRetN, bD, xD, nmD, startD, sIf, DL.tB, DL.tNot, DL.tAnd, DL.tOr, eAnd, eOr, eNot, eIf, isB, sDrop, sNext, sPar, eTup, eLst, eCall, eCB, aNil, aCons, eFld, eFldM, eProp, eMeth, eMethK, eNegO, eMake, eMakeK, eUn, sFldM, addI, addS, addL, subI, negI, mulI, mulL, divI, modI, powI, eqI, neI, eqS, neS, lenL, lenT, lenC, absI, intI, strI, repX, tupL, dmI, it0, it1, itL0, itL1, itL2, itL3, itL4, itL5, itL6, itR, eStat, oNone, oSome, eSl, gTp2', gIx, eLstM, eApp, rSame, rInt, rIntL, DL.rIn, DL.rNe, eFmt, eJs, eDic0, sNever, mx2, mn2, ltI, leI, gtI, geI, eChain, decide_eq_true_eq, List.map_cons, List.map_nil, List.length_cons, List.length_nil, Nat.reduceAdd, Nat.reduceSub, List.replicate_succ, List.replicate_zero, List.cons_append, List.nil_append, List.getElem?_cons_zero, List.getElem?_cons_succ, Option.some.injEq, exists_eq_left', List.set_cons_zero, List.set_cons_succ, if_true, if_false, Bool.false_eq_true, reduceIte, and_self, true_and, D.bl.injEq, D.ob.injEq, D.int.injEq, D.str.injEq, D.tup.injEq, exists_and_left, exists_eq_left, reduceCtorEq, and_true, lk_low, lk_high, exists_eq', and_self]
  exact mk_span (by omega) q
theorem ok_Span___lt__ (T : Tx K mg a d) : FnG false false P w K mg base 1 a.f_Span___lt__ d.f_Span___lt__ ["self", "other"] (spL (G a) (s_two (fun l h l2 h2 => .bl (lexD fLt false true [.int l, .int h] [.int l2, .int h2])))) := by
  refine fn_okG T.F_Span___lt__ sc_Span___lt__ (fun _ _ _ _ ⟨_, _, _, _, e, _⟩ => len2 e) (fun cdv A outer s H E xs m Q x hr h => ⟨_, (dss_cons (ds_if (dt_not (dt_val (de_callB cd_isi (by rfl) T.z_isinstance boot_isinstance (da_cons (de_nm (pv 1)) (da_cons (de_c (pe_glob (v := .ref _) (by rfl) T.m_Span rfl) (fun _ => .ref _)) da_nil))))) (dss_one ds_never) dss_nil) (dss_one (ds_ret (de_cmp (od_lt hr.u0) (de_tup (da_cons (de_fld (c := 0) T.c_Span T.n_Span_own_low (de_nm (pv 0))) (da_cons (de_fld (c := 0) T.c_Span T.n_Span_own_high (de_nm (pv 0))) da_nil))) (de_tup (da_cons (de_fld (c := 0) T.c_Span T.n_Span_own_low (de_nm (pv 1))) (da_cons (de_fld (c := 0) T.c_Span T.n_Span_own_high (de_nm (pv 1))) da_nil))) (nomark _))))), ?_⟩)
  obtain ⟨l, h, l2, h2, rfl, le1, le2, q⟩ := h
  simp only [sSeq, sAsg, gNm, sRet, sRetN, bD, xD, nmD, startD, sIf, DL.tB, DL.tNot, DL.tAnd, DL.tOr, eAnd, eOr, eNot, eIf, isB, sDrop, sNext, sPar, eTup, eLst, eCall, eCB, aNil, aCons, eFld, eFldM, eProp, eMeth, eMethK, eNegO, eMake, eMakeK, eUn, sFldM, addI, addS, addL, subI, negI, mulI, mulL, divI, modI, powI, eqI, neI, eqS, neS, lenL, lenT, lenC, absI, intI, strI, repX, tupL, dmI, it0, it1, itL0, itL1, itL2, itL3, itL4, itL5, itL6, itR, eStat, oNone, oSome, eSl, gTp2', gIx, eLstM, eApp, rSame, rInt, rIntL, DL.rIn, DL.rNe, eFmt, eJs, eDic0, sNever, mx2, mn2, ltI, leI, gtI, geI, eChain, decide_eq_true_eq, List.map_cons, List.map_nil, List.length_cons, List.length_nil, Nat.reduceAdd, Nat.reduceSub, List.replicate_succ, List.replicate_zero, List.cons_append, List.nil_append, List.getElem?_cons_zero, List.getElem?_cons_succ, Option.some.injEq, exists_eq_left', List.set_cons_zero, List.set_cons_succ, if_true, if_false, Bool.false_eq_true, reduceIte, and_self, true_and, D.bl.injEq, D.ob.injEq, D.int.injEq, D.str.injEq, D.tup.injEq, exists_and_left, exists_eq_left, reduceCtorEq, and_true, lk_low, lk_high, exists_eq', and_self]
  refine isi_span T ⟨_, rfl, ?_⟩
  first | exact ⟨small2, small2, q⟩ | exact ⟨small2, small2, rfl, q⟩
theorem ok_Span___le__ (T : Tx K mg a d) : FnG false false P w K mg base 1 a.f_Span___le__ d.f_Span___le__ ["self", "other"] (spL (G a) (s_two (fun l h l2 h2 => .bl (lexD fLe true true [.int l, .int h] [.int l2, .int h2])))) := by
  refine fn_okG T.F_Span___le__ sc_Span___le__ (fun _ _ _ _ ⟨_, _, _, _, e, _⟩ => len2 e) (fun cdv A outer s H E xs m Q x hr h => ⟨_, (dss_cons (ds_if (dt_not (dt_val (de_callB cd_isi (by rfl) T.z_isinstance boot_isinstance (da_cons (de_nm (pv 1)) (da_cons (de_c (pe_glob (v := .ref _) (by rfl) T.m_Span rfl) (fun _ => .ref _)) da_nil))))) (dss_one ds_never) dss_nil) (dss_one (ds_ret (de_cmp (od_le hr.u0) (de_tup (da_cons (de_fld (c := 0) T.c_Span T.n_Span_own_low (de_nm (pv 0))) (da_cons (de_fld (c := 0) T.c_Span T.n_Span_own_high (de_nm (pv 0))) da_nil))) (de_tup (da_cons (de_fld (c := 0) T.c_Span T.n_Span_own_low (de_nm (pv 1))) (da_cons (de_fld (c := 0) T.c_Span T.n_Span_own_high (de_nm (pv 1))) da_nil))) (nomark _))))), ?_⟩)
  obtain ⟨l, h, l2, h2, rfl, le1, le2, q⟩ := h
  simp only [sSeq, sAsg, gNm, sRet, sRetN, bD, xD, nmD, startD, sIf, DL.tB, DL.tNot, DL.tAnd, DL.tOr, eAnd, eOr, eNot, eIf, isB, sDrop, sNext, sPar, eTup, eLst, eCall, eCB, aNil, aCons, eFld, eFldM, eProp, eMeth, eMethK, eNegO, eMake, eMakeK, eUn, sFldM, addI, addS, addL, subI, negI, mulI, mulL, divI, modI, powI, eqI, neI, eqS, neS, lenL, lenT, lenC, absI, intI, strI, repX, tupL, dmI, it0, it1, itL0, itL1, itL2, itL3, itL4, itL5, itL6, itR, eStat, oNone, oSome, eSl, gTp2', gIx, eLstM, eApp, rSame, rInt, rIntL, DL.rIn, DL.rNe, eFmt, eJs, eDic0, sNever, mx2, mn2, ltI, leI, gtI, geI, eChain, decide_eq_true_eq, List.map_cons, List.map_nil, List.length_cons, List.length_nil, Nat.reduceAdd, Nat.reduceSub, List.replicate_succ, List.replicate_zero, List.cons_append, List.nil_append, List.getElem?_cons_zero, List.getElem?_cons_succ, Option.some.injEq, exists_eq_left', List.set_cons_zero, List.set_cons_succ, if_true, if_false, Bool.false_eq_true, reduceIte, and_self, true_and, D.bl.injEq, D.ob.injEq, D.int.injEq, D.str.injEq, D.tup.injEq, exists_and_left, exists_eq_left, reduceCtorEq, and_true, lk_low, lk_high, exists_eq', and_self]
  refine isi_span T ⟨_, rfl, ?_⟩
  first | exact ⟨small2, small2, q⟩ | exact ⟨small2, small2, rfl, q⟩
theorem ok_Span___gt__ (T : Tx K mg a d) : FnG false false P w K mg base 1 a.f_Span___gt__ d.f_Span___gt__ ["self", "other"] (spL (G a) (s_two (fun l h l2 h2 => .bl (lexD (fun x y => fLt y x) false false [.int l, .int h] [.int l2, .int h2])))) := by
  refine fn_okG T.F_Span___gt__ sc_Span___gt__ (fun _ _ _ _ ⟨_, _, _, _, e, _⟩ => len2 e) (fun cdv A outer s H E xs m Q x hr h => ⟨_, (dss_cons (ds_if (dt_not (dt_val (de_callB cd_isi (by rfl) T.z_isinstance boot_isinstance (da_cons (de_nm (pv 1)) (da_cons (de_c (pe_glob (v := .ref _) (by rfl) T.m_Span rfl) (fun _ => .ref _)) da_nil))))) (dss_one ds_never) dss_nil) (dss_one (ds_ret (de_cmp (od_gt hr.u0) (de_tup (da_cons (de_fld (c := 0) T.c_Span T.n_Span_own_low (de_nm (pv 0))) (da_cons (de_fld (c := 0) T.c_Span T.n_Span_own_high (de_nm (pv 0))) da_nil))) (de_tup (da_cons (de_fld (c := 0) T.c_Span T.n_Span_own_low (de_nm (pv 1))) (da_cons (de_fld (c := 0) T.c_Span T.n_Span_own_high (de_nm (pv 1))) da_nil))) (nomark _))))), ?_⟩)
  obtain ⟨l, h, l2, h2, rfl, le1, le2, q⟩ := h
  simp only [sSeq, sAsg, gNm, sRet, sRetN, bD, xD, nmD, startD, sIf, DL.tB, DL.tNot, DL.tAnd, DL.tOr, eAnd, eOr, eNot, eIf, isB, sDrop, sNext, sPar, eTup, eLst, eCall, eCB, aNil, aCons, eFld, eFldM, eProp, eMeth, eMethK, eNegO, eMake, eMakeK, eUn, sFldM, addI, addS, addL, subI, negI, mulI, mulL, divI, modI, powI, eqI, neI, eqS, neS, lenL, lenT, lenC, absI, intI, strI, repX, tupL, dmI, it0, it1, itL0, itL1, itL2, itL3, itL4, itL5, itL6, itR, eStat, oNone, oSome, eSl, gTp2', gIx, eLstM, eApp, rSame, rInt, rIntL, DL.rIn, DL.rNe, eFmt, eJs, eDic0, sNever, mx2, mn2, ltI, leI, gtI, geI, eChain, decide_eq_true_eq, List.map_cons, List.map_nil, List.length_cons, List.length_nil, Nat.reduceAdd, Nat.reduceSub, List.replicate_succ, List.replicate_zero, List.cons_append, List.nil_append, List.getElem?_cons_zero, List.getElem?_cons_succ, Option.some.injEq, exists_eq_left', List.set_cons_zero, List.set_cons_succ, if_true, if_false, Bool.false_eq_true, reduceIte, and_self, true_and, D.bl.injEq, D.ob.injEq, D.int.injEq, D.str.injEq, D.tup.injEq, exists_and_left, exists_eq_left, reduceCtorEq, and_true, lk_low, lk_high, exists_eq', and_self]
  refine isi_span T ⟨_, rfl, ?_⟩
  first | exact ⟨small2, small2, q⟩ | exact ⟨small2, small2, rfl, q⟩
theorem ok_Span___ge__ (T : Tx K mg a d) : FnG false false P w K mg base 1 a.f_Span___ge__ d.f_Span___ge__ ["self", "other"] (spL (G a) (s_two (fun l h l2 h2 => .bl (lexD (fun x y => fLe y x) true false [.int l, .int h] [.int l2, .int h2])))) := by
  refine fn_okG T.F_Span___ge__ sc_Span___ge__ (fun _ _ _ _ ⟨_, _, _, _, e, _⟩ => len2 e) (fun cdv A outer s H E xs m Q x hr h => ⟨_, (dss_cons (ds_if (dt_not (dt_val (de_callB cd_isi (by rfl) T.z_isinstance boot_isinstance (da_cons (de_nm (pv 1)) (da_cons (de_c (pe_glob (v := .ref _) (by rfl) T.m_Span rfl) (fun _ => .ref _)) da_nil))))) (dss_one ds_never) dss_nil) (dss_one (ds_ret (de_cmp (od_ge hr.u0) (de_tup (da_cons (de_fld (c := 0) T.c_Span T.n_Span_own_low (de_nm (pv 0))) (da_cons (de_fld (c := 0) T.c_Span T.n_Span_own_high (de_nm (pv 0))) da_nil))) (de_tup (da_cons (de_fld (c := 0) T.c_Span T.n_Span_own_low (de_nm (pv 1))) (da_cons (de_fld (c := 0) T.c_Span T.n_Span_own_high (de_nm (pv 1))) da_nil))) (nomark _))))), ?_⟩)
  obtain ⟨l, h, l2, h2, rfl, le1, le2, q⟩ := h
  simp only [sSeq, sAsg, gNm, sRet, sRetN, bD, xD, nmD, startD, sIf, DL.tB, DL.tNot, DL.tAnd, DL.tOr, eAnd, eOr, eNot, eIf, isB, sDrop, sNext, sPar, eTup, eLst, eCall, eCB, aNil, aCons, eFld, eFldM, eProp, eMeth, eMethK, eNegO, eMake, eMakeK, eUn, sFldM, addI, addS, addL, subI, negI, mulI, mulL, divI, modI, powI, eqI, neI, eqS, neS, lenL, lenT, lenC, absI, intI, strI, repX, tupL, dmI, it0, it1, itL0, itL1, itL2, itL3, itL4, itL5, itL6, itR, eStat, oNone, oSome, eSl, gTp2', gIx, eLstM, eApp, rSame, rInt, rIntL, DL.rIn, DL.rNe, eFmt, eJs, eDic0, sNever, mx2, mn2, ltI, leI, gtI, geI, eChain, decide_eq_true_eq, List.map_cons, List.map_nil, List.length_cons, List.length_nil, Nat.reduceAdd, Nat.reduceSub, List.replicate_succ, List.replicate_zero, List.cons_append, List.nil_append, List.getElem?_cons_zero, List.getElem?_cons_succ, Option.some.injEq, exists_eq_left', List.set_cons_zero, List.set_cons_succ, if_true, if_false, Bool.false_eq_true, reduceIte, and_self, true_and, D.bl.injEq, D.ob.injEq, D.int.injEq, D.str.injEq, D.tup.injEq, exists_and_left, exists_eq_left, reduceCtorEq, and_true, lk_low, lk_high, exists_eq', and_self]
  refine isi_span T ⟨_, rfl, ?_⟩
  first | exact ⟨small2, small2, q⟩ | exact ⟨small2, small2, rfl, q⟩
theorem ok_Span___eq__ (T : Tx K mg a d) : FnG false false P w K mg base 1 a.f_Span___eq__ d.f_Span___eq__ ["self", "other"] (spL (G a) (s_two (fun l h l2 h2 => .bl (eqB (.tup [.int l, .int h]) (.tup [.int l2, .int h2]))))) := by
  refine fn_okG T.F_Span___eq__ sc_Span___eq__ (fun _ _ _ _ ⟨_, _, _, _, e, _⟩ => len2 e) (fun cdv A outer s H E xs m Q x hr h => ⟨_, (dss_one (ds_ret (de_and (de_callB cd_isi (by rfl) T.z_isinstance boot_isinstance (da_cons (de_nm (pv 1)) (da_cons (de_c (pe_glob (v := .ref _) (by rfl) T.m_Span rfl) (fun _ => .ref _)) da_nil))) (de_one (de_cmp (od_eq hr.u64) (de_tup (da_cons (de_fld (c := 0) T.c_Span T.n_Span_own_low (de_nm (pv 0))) (da_cons (de_fld (c := 0) T.c_Span T.n_Span_own_high (de_nm (pv 0))) da_nil))) (de_tup (da_cons (de_fld (c := 0) T.c_Span T.n_Span_own_low (de_nm (pv 1))) (da_cons (de_fld (c := 0) T.c_Span T.n_Span_own_high (de_nm (pv 1))) da_nil))) (nomark _)))))), ?_⟩)
  obtain ⟨l, h, l2, h2, rfl, le1, le2, q⟩ := h
  simp only [sSeq, sAsg, gNm, sRet, sRetN, bD, xD, nmD, startD, sIf, DL.tB, DL.tNot, DL.tAnd, DL.tOr, eAnd, eOr, eNot, eIf, isB, sDrop, sNext, sPar, eTup, eLst, eCall, eCB, aNil, aCons, eFld, eFldM, eProp, eMeth, eMethK, eNegO, eMake, eMakeK, eUn, sFldM, addI, addS, addL, subI, negI, mulI, mulL, divI, modI, powI, eqI, neI, eqS, neS, lenL, lenT, lenC, absI, intI, strI, repX, tupL, dmI, it0, it1, itL0, itL1, itL2, itL3, itL4, itL5, itL6, itR, eStat, oNone, oSome, eSl, gTp2', gIx, eLstM, eApp, rSame, rInt, rIntL, DL.rIn, DL.rNe, eFmt, eJs, eDic0, sNever, mx2, mn2, ltI, leI, gtI, geI, eChain, decide_eq_true_eq, List.map_cons, List.map_nil, List.length_cons, List.length_nil, Nat.reduceAdd, Nat.reduceSub, List.replicate_succ, List.replicate_zero, List.cons_append, List.nil_append, List.getElem?_cons_zero, List.getElem?_cons_succ, Option.some.injEq, exists_eq_left', List.set_cons_zero, List.set_cons_succ, if_true, if_false, Bool.false_eq_true, reduceIte, and_self, true_and, D.bl.injEq, D.ob.injEq, D.int.injEq, D.str.injEq, D.tup.injEq, exists_and_left, exists_eq_left, reduceCtorEq, and_true, lk_low, lk_high, exists_eq', and_self]
  refine isi_span T ⟨_, rfl, ?_⟩
  first | exact ⟨small2, small2, q⟩ | exact ⟨small2, small2, rfl, q⟩
theorem ok_Span___str__ (T : Tx K mg a d) : FnG false false P w K mg base 1 a.f_Span___str__ d.f_Span___str__ ["self"] (spL (G a) (s_txt strS)) := by
  refine fn_okG T.F_Span___str__ sc_Span___str__ (fun _ _ _ _ ⟨_, _, e, _⟩ => len1 e) (fun cdv A outer s H E xs m Q x hr h => ⟨_, (dss_one (ds_ret (de_joined (DJ.cons (de_fmt (de_fld (c := 0) T.c_Span T.n_Span_own_low (de_nm (pv 0)))) (DJ.cons (de_c pe_str (fun _ => .str _)) (DJ.cons (de_fmt (de_fld (c := 0) T.c_Span T.n_Span_own_high (de_nm (pv 0)))) DJ.nil)))))), ?_⟩)
  obtain ⟨l, h, rfl, fl, fh, q⟩ := h
  simp only [sSeq, sAsg, gNm, sRet, sRetN, bD, xD, nmD, startD, sIf, DL.tB, DL.tNot, DL.tAnd, DL.tOr, eAnd, eOr, eNot, eIf, isB, sDrop, sNext, sPar, eTup, eLst, eCall, eCB, aNil, aCons, eFld, eFldM, eProp, eMeth, eMethK, eNegO, eMake, eMakeK, eUn, sFldM, addI, addS, addL, subI, negI, mulI, mulL, divI, modI, powI, eqI, neI, eqS, neS, lenL, lenT, lenC, absI, intI, strI, repX, tupL, dmI, it0, it1, itL0, itL1, itL2, itL3, itL4, itL5, itL6, itR, eStat, oNone, oSome, eSl, gTp2', gIx, eLstM, eApp, rSame, rInt, rIntL, DL.rIn, DL.rNe, eFmt, eJs, eDic0, sNever, mx2, mn2, ltI, leI, gtI, geI, eChain, decide_eq_true_eq, List.map_cons, List.map_nil, List.length_cons, List.length_nil, Nat.reduceAdd, Nat.reduceSub, List.replicate_succ, List.replicate_zero, List.cons_append, List.nil_append, List.getElem?_cons_zero, List.getElem?_cons_succ, Option.some.injEq, exists_eq_left', List.set_cons_zero, List.set_cons_succ, if_true, if_false, Bool.false_eq_true, reduceIte, and_self, true_and, D.bl.injEq, D.ob.injEq, D.int.injEq, D.str.injEq, D.tup.injEq, exists_and_left, exists_eq_left, reduceCtorEq, and_true, lk_low, lk_high, exists_eq', and_self]
  simp only [emp_app]
  have s1 := Sh.istr fl
  have s2 := s1.app (Sh.lit (n := 2) (x := "..") (by decide +kernel))
  have s3 := s2.app (Sh.istr fh)
  exact ⟨fl, fits s1 (by decide), fits s2 (by decide), fh, fits s3 (by decide), q⟩
theorem ok_Span___repr__ (T : Tx K mg a d) : FnG true false P w K mg base 1 a.f_Span___repr__ d.f_Span___repr__ ["self"] (spL (G a) (s_txt repS)) := by
  refine fn_okG T.F_Span___repr__ sc_Span___repr__ (fun _ _ _ _ ⟨_, _, e, _⟩ => len1 e) (fun cdv A outer s H E xs m Q x hr h => ⟨_, (dss_one (ds_ret (de_joined (DJ.cons (de_c pe_str (fun _ => .str _)) (DJ.cons (de_fmt (de_fld (c := 0) T.c_Span T.n_Span_own_low (de_nm (pv 0)))) (DJ.cons (de_c pe_str (fun _ => .str _)) (DJ.cons (de_fmt (de_fld (c := 0) T.c_Span T.n_Span_own_high (de_nm (pv 0)))) (DJ.cons (de_c pe_str (fun _ => .str _)) DJ.nil)))))))), ?_⟩)
  obtain ⟨l, h, rfl, fl, fh, q⟩ := h
  simp only [sSeq, sAsg, gNm, sRet, sRetN, bD, xD, nmD, startD, sIf, DL.tB, DL.tNot, DL.tAnd, DL.tOr, eAnd, eOr, eNot, eIf, isB, sDrop, sNext, sPar, eTup, eLst, eCall, eCB, aNil, aCons, eFld, eFldM, eProp, eMeth, eMethK, eNegO, eMake, eMakeK, eUn, sFldM, addI, addS, addL, subI, negI, mulI, mulL, divI, modI, powI, eqI, neI, eqS, neS, lenL, lenT, lenC, absI, intI, strI, repX, tupL, dmI, it0, it1, itL0, itL1, itL2, itL3, itL4, itL5, itL6, itR, eStat, oNone, oSome, eSl, gTp2', gIx, eLstM, eApp, rSame, rInt, rIntL, DL.rIn, DL.rNe, eFmt, eJs, eDic0, sNever, mx2, mn2, ltI, leI, gtI, geI, eChain, decide_eq_true_eq, List.map_cons, List.map_nil, List.length_cons, List.length_nil, Nat.reduceAdd, Nat.reduceSub, List.replicate_succ, List.replicate_zero, List.cons_append, List.nil_append, List.getElem?_cons_zero, List.getElem?_cons_succ, Option.some.injEq, exists_eq_left', List.set_cons_zero, List.set_cons_succ, if_true, if_false, Bool.false_eq_true, reduceIte, and_self, true_and, D.bl.injEq, D.ob.injEq, D.int.injEq, D.str.injEq, D.tup.injEq, exists_and_left, exists_eq_left, reduceCtorEq, and_true, lk_low, lk_high, exists_eq', and_self]
  simp only [emp_app]
  have s0 := Sh.lit (n := 5) (x := "Span(") (by decide +kernel)
  have s1 := s0.app (Sh.istr fl)
  have s2 := s1.app (Sh.lit (n := 2) (x := ", ") (by decide +kernel))
  have s3 := s2.app (Sh.istr fh)
  have s4 := s3.app (Sh.lit (n := 1) (x := ")") (by decide +kernel))
  exact ⟨fits s0 (by decide), fl, fits s1 (by decide), fits s2 (by decide), fh, fits s3 (by decide), fits s4 (by decide), q⟩
theorem ok__law_pot (T : Tx K mg a d) : FnG false false P w K mg base 1 a.f__law_pot d.f__law_pot ["_law_script", "_law_k"] (spL (G a) s_pot) := by
  refine fn_okG T.F__law_pot sc__law_pot (fun _ _ _ _ ⟨_, _, e, _⟩ => len2 e) (fun cdv A outer s H E xs m Q x hr h => ⟨_, (dss_cons (ds_set (i := 2) (ps_set (i := 2) sc__law_pot.nd rfl (Or.inl rfl)) (de_op od_add (de_op od_mul (de_c pe_int (fun _ => .int _)) (de_nm (pv 1))) (de_c pe_int (fun _ => .int _)))) (dss_cons (ds_if (dt_cmp (od_lt hr.u0) (de_nm (pv 1)) (de_callB (cd_len) (by rfl) T.z_len boot_len (da_cons (de_nm (pv 0)) da_nil)) (nomark _)) (dss_one (ds_set (i := 2) (ps_set (i := 2) sc__law_pot.nd rfl (Or.inl rfl)) (de_callB (cd_abs) (by rfl) T.z_abs boot_abs (da_cons (de_ix (de_nm (pv 0)) (de_nm (pv 1)) (fun _ _ => rfl)) da_nil)))) dss_nil) (dss_one (ds_ret (de_lstM (da_cons (de_callB (cd_mx (by rfl) hr.u8) (by rfl) T.z_max boot_max (da_cons (de_c pe_int (fun _ => .int _)) (da_cons (de_op od_sub (de_nm (pv 2)) (de_op od_pow (de_c pe_int (fun _ => .int _)) (de_c pe_int (fun _ => .int _)))) da_nil))) (da_cons (de_op od_add (de_op od_mod (de_op od_mul (de_callTy (cd_int) (by rfl) T.z_int boot_int (da_cons (de_op od_add (de_op od_mod (de_callTy (cd_int) (by rfl) T.z_int boot_int (da_cons (de_nm (pv 2)) da_nil)) (de_c pe_int (fun _ => .int _))) (de_c pe_int (fun _ => .int _))) da_nil)) (de_op od_pow (de_op od_add (de_op od_mul (de_c pe_int (fun _ => .int _)) (de_nm (pv 1))) (de_c pe_int (fun _ => .int _))) (de_c pe_int (fun _ => .int _)))) (de_c pe_int (fun _ => .int _))) (de_c pe_int (fun _ => .int _))) da_nil))))))), ?_⟩)
  obtain ⟨ns, k, rfl, k0, k1, q⟩ := h
  simp only [sSeq, sAsg, gNm, sRet, sRetN, bD, xD, nmD, startD, sIf, DL.tB, DL.tNot, DL.tAnd, DL.tOr, eAnd, eOr, eNot, eIf, isB, sDrop, sNext, sPar, eTup, eLst, eCall, eCB, aNil, aCons, eFld, eFldM, eProp, eMeth, eMethK, eNegO, eMake, eMakeK, eUn, sFldM, addI, addS, addL, subI, negI, mulI, mulL, divI, modI, powI, eqI, neI, eqS, neS, lenL, lenT, lenC, absI, intI, strI, repX, tupL, dmI, it0, it1, itL0, itL1, itL2, itL3, itL4, itL5, itL6, itR, eStat, oNone, oSome, eSl, gTp2', gIx, eLstM, eApp, rSame, rInt, rIntL, DL.rIn, DL.rNe, eFmt, eJs, eDic0, sNever, mx2, mn2, ltI, leI, gtI, geI, eChain, decide_eq_true_eq, List.map_cons, List.map_nil, List.length_cons, List.length_nil, Nat.reduceAdd, Nat.reduceSub, List.replicate_succ, List.replicate_zero, List.cons_append, List.nil_append, List.getElem?_cons_zero, List.getElem?_cons_succ, Option.some.injEq, exists_eq_left', List.set_cons_zero, List.set_cons_succ, if_true, if_false, Bool.false_eq_true, reduceIte, and_self, true_and, D.bl.injEq, D.ob.injEq, D.int.injEq, D.str.injEq, D.tup.injEq, exists_and_left, exists_eq_left, reduceCtorEq, and_true, lk_low, lk_high, exists_eq', and_self]
  have e18 : (0 : Int) ≤ 18 ∧ (18 : Int) ≤ 1000000 ∧ Int.natAbs 10 < 2 ^ 64 := by decide
  have hk1 : (0 : Int) ≤ 3 ∧ (3 : Int) ≤ 1000000 ∧ (2 * k + 5).natAbs < 2 ^ 64 := ⟨by decide, by decide, by omega⟩
  have hm1 : DL.MulOk 23 k := mulOk (a := 8) (b := 8) (by decide) (by omega) (by decide)
  have hm2 : DL.MulOk 2 k := mulOk (a := 8) (b := 8) (by decide) (by omega) (by decide)
  have h3 : ((2 * k + 5) ^ Int.toNat 3).natAbs < 2 ^ 16 := by
    have : k = 0 ∨ k = 1 ∨ k = 2 ∨ k = 3 ∨ k = 4 := by omega
    rcases this with rfl | rfl | rfl | rfl | rfl <;> decide
  have key : ∀ z : Int, DL.MulOk (z % 2147483549 + 3) ((2 * k + 5) ^ Int.toNat 3) := fun z => mulOk (a := 40) (b := 16) (by omega) h3 (by decide)
  have pv : ∀ z w : Int, PotV (max 0 z) (w % 2147483477 + 1) := fun z w => ⟨Int.le_max_left _ _, by omega, by omega⟩
  refine ⟨hm1, ite2 (fun c => ?_) (fun c => ?_)⟩
  · obtain ⟨n, rfl⟩ : ∃ n : Nat, k = n := ⟨k.toNat, by omega⟩
    have hn : n < ns.length := by rw [List.length_map] at c; omega
    have hd : (ns.map D.int)[n]? = some (.int ns[n]) := by rw [List.getElem?_map, List.getElem?_eq_getElem hn]; rfl
    rw [itCn hd]
    refine ⟨e18, ?_⟩
    have go : ∀ z : Int, mxD [.int 0, .int (z - 10 ^ Int.toNat 18)] m (fun d_2 m1 => DL.intD [.int z] m1 fun p m1 => modD p (.int 2147483549) m1 fun p m1 => addD p (.int 3) m1 fun d m1 => DL.intD [d] m1 fun p m1 => DL.MulOk 2 (n : Int) ∧ (0 ≤ (3 : Int) ∧ (3 : Int) ≤ 1000000 ∧ (2 * (n : Int) + 5).natAbs < 2 ^ 64) ∧
        mulD p (.int ((2 * (n : Int) + 5) ^ Int.toNat 3)) m1 fun p m1 => modD p (.int 2147483477) m1 fun p m1 => addD p (.int 1) m1 fun d m1 => 2 ≤ sizeLine ∧ ∀ p : Addr, m1 p = none → Q (.ref p) (mset m1 p (.lst [d_2, d]))) := fun z => by
      simp only [sSeq, sAsg, gNm, sRet, sRetN, bD, xD, nmD, startD, sIf, DL.tB, DL.tNot, DL.tAnd, DL.tOr, eAnd, eOr, eNot, eIf, isB, sDrop, sNext, sPar, eTup, eLst, eCall, eCB, aNil, aCons, eFld, eFldM, eProp, eMeth, eMethK, eNegO, eMake, eMakeK, eUn, sFldM, addI, addS, addL, subI, negI, mulI, mulL, divI, modI, powI, eqI, neI, eqS, neS, lenL, lenT, lenC, absI, intI, strI, repX, tupL, dmI, it0, it1, itL0, itL1, itL2, itL3, itL4, itL5, itL6, itR, eStat, oNone, oSome, eSl, gTp2', gIx, eLstM, eApp, rSame, rInt, rIntL, DL.rIn, DL.rNe, eFmt, eJs, eDic0, sNever, mx2, mn2, ltI, leI, gtI, geI, eChain, decide_eq_true_eq, List.map_cons, List.map_nil, List.length_cons, List.length_nil, Nat.reduceAdd, Nat.reduceSub, List.replicate_succ, List.replicate_zero, List.cons_append, List.nil_append, List.getElem?_cons_zero, List.getElem?_cons_succ, Option.some.injEq, exists_eq_left', List.set_cons_zero, List.set_cons_succ, if_true, if_false, Bool.false_eq_true, reduceIte, and_self, true_and, D.bl.injEq, D.ob.injEq, D.int.injEq, D.str.injEq, D.tup.injEq, exists_and_left, exists_eq_left, reduceCtorEq, and_true, lk_low, lk_high, exists_eq', and_self]
      exact ⟨by decide, hm2, hk1, key _, by decide, small2, fun p hp => q p _ _ hp (pv _ _)⟩
    exact go _
  · exact ⟨e18, by decide, hm2, hk1, key _, by decide, small2, fun p hp => q p _ _ hp (pv _ _)⟩
theorem ok__law_draw (T : Tx K mg a d) : FnG false false P w K mg base 1 a.f__law_draw d.f__law_draw ["_law_pot_here", "_law_many"] (spL (G a) s_draw) := by
  refine fn_okG T.F__law_draw sc__law_draw (fun _ _ _ _ ⟨_, _, e, _⟩ => len2 e) (fun cdv A outer s H E xs m Q x hr h => ⟨_, (dss_cons (ds_if (dt_cmp (od_gt hr.u0) (de_ix (de_nm (pv 0)) (de_c pe_int (fun _ => .int _)) (fun _ _ => rfl)) (de_c pe_int (fun _ => .int _)) (nomark _)) (dss_cons (ds_asg (de_callB (cd_divmod) (by rfl) T.z_divmod boot_divmod (da_cons (de_ix (de_nm (pv 0)) (de_c pe_int (fun _ => .int _)) (fun _ _ => rfl)) (da_cons (de_nm (pv 1)) da_nil))) (dg_tup (n := 2) rfl (dgs_cons (dg_ix (de_nm (pv 0)) (de_c pe_int (fun _ => .int _))) (dgs_cons (dg_name (pg_name (i := 2) sc__law_draw.nd rfl (Or.inl rfl))) dgs_nil)))) (dss_one (ds_ret (de_nm (pv 2))))) dss_nil) (dss_cons (ds_asg (de_op od_mod (de_callTy (cd_int) (by rfl) T.z_int boot_int (da_cons (de_op od_add (de_op od_mul (de_ix (de_nm (pv 0)) (de_c pe_int (fun _ => .int _)) (fun _ _ => rfl)) (de_c pe_int (fun _ => .int _))) (de_c pe_int (fun _ => .int _))) da_nil)) (de_c pe_int (fun _ => .int _))) (dg_ix (de_nm (pv 0)) (de_c pe_int (fun _ => .int _)))) (dss_one (ds_ret (de_op od_mod (de_callTy (cd_int) (by rfl) T.z_int boot_int (da_cons (de_op od_div (de_op od_mod (de_callTy (cd_int) (by rfl) T.z_int boot_int (da_cons (de_op od_mul (de_ix (de_nm (pv 0)) (de_c pe_int (fun _ => .int _)) (fun _ _ => rfl)) (de_ix (de_nm (pv 0)) (de_c pe_int (fun _ => .int _)) (fun _ _ => rfl))) da_nil)) (de_c pe_int (fun _ => .int _))) (de_c pe_int (fun _ => .int _))) da_nil)) (de_nm (pv 1))))))), ?_⟩)
  obtain ⟨p, n, rfl, n0, n1, ⟨a1, b1, hp, pv⟩, q⟩ := h
  simp only [sSeq, sAsg, gNm, sRet, sRetN, bD, xD, nmD, startD, sIf, DL.tB, DL.tNot, DL.tAnd, DL.tOr, eAnd, eOr, eNot, eIf, isB, sDrop, sNext, sPar, eTup, eLst, eCall, eCB, aNil, aCons, eFld, eFldM, eProp, eMeth, eMethK, eNegO, eMake, eMakeK, eUn, sFldM, addI, addS, addL, subI, negI, mulI, mulL, divI, modI, powI, eqI, neI, eqS, neS, lenL, lenT, lenC, absI, intI, strI, repX, tupL, dmI, it0, it1, itL0, itL1, itL2, itL3, itL4, itL5, itL6, itR, eStat, oNone, oSome, eSl, gTp2', gIx, eLstM, eApp, rSame, rInt, rIntL, DL.rIn, DL.rNe, eFmt, eJs, eDic0, sNever, mx2, mn2, ltI, leI, gtI, geI, eChain, decide_eq_true_eq, List.map_cons, List.map_nil, List.length_cons, List.length_nil, Nat.reduceAdd, Nat.reduceSub, List.replicate_succ, List.replicate_zero, List.cons_append, List.nil_append, List.getElem?_cons_zero, List.getElem?_cons_succ, Option.some.injEq, exists_eq_left', List.set_cons_zero, List.set_cons_succ, if_true, if_false, Bool.false_eq_true, reduceIte, and_self, true_and, D.bl.injEq, D.ob.injEq, D.int.injEq, D.str.injEq, D.tup.injEq, exists_and_left, exists_eq_left, reduceCtorEq, and_true, lk_low, lk_high, exists_eq', and_self]
  have hn : n.natAbs < 2 ^ 8000 := Nat.lt_of_le_of_lt (show n.natAbs ≤ 10 ^ 13 by omega) (by decide +kernel)
  refine ⟨_, hp, _, rfl, ⟨_, rfl, ite2 (fun c => ?_) (fun c => ?_)⟩⟩
  · refine ⟨_, hp, _, rfl, ⟨n0, hn⟩, ?_⟩
    simp only [sSeq, sAsg, gNm, sRet, sRetN, bD, xD, nmD, startD, sIf, DL.tB, DL.tNot, DL.tAnd, DL.tOr, eAnd, eOr, eNot, eIf, isB, sDrop, sNext, sPar, eTup, eLst, eCall, eCB, aNil, aCons, eFld, eFldM, eProp, eMeth, eMethK, eNegO, eMake, eMakeK, eUn, sFldM, addI, addS, addL, subI, negI, mulI, mulL, divI, modI, powI, eqI, neI, eqS, neS, lenL, lenT, lenC, absI, intI, strI, repX, tupL, dmI, it0, it1, itL0, itL1, itL2, itL3, itL4, itL5, itL6, itR, eStat, oNone, oSome, eSl, gTp2', gIx, eLstM, eApp, rSame, rInt, rIntL, DL.rIn, DL.rNe, eFmt, eJs, eDic0, sNever, mx2, mn2, ltI, leI, gtI, geI, eChain, decide_eq_true_eq, List.map_cons, List.map_nil, List.length_cons, List.length_nil, Nat.reduceAdd, Nat.reduceSub, List.replicate_succ, List.replicate_zero, List.cons_append, List.nil_append, List.getElem?_cons_zero, List.getElem?_cons_succ, Option.some.injEq, exists_eq_left', List.set_cons_zero, List.set_cons_succ, if_true, if_false, Bool.false_eq_true, reduceIte, and_self, true_and, D.bl.injEq, D.ob.injEq, D.int.injEq, D.str.injEq, D.tup.injEq, exists_and_left, exists_eq_left, reduceCtorEq, and_true, lk_low, lk_high, exists_eq', and_self]
    refine ⟨p, rfl, _, 0, rfl, hp, (show 0 < 2 by decide), q _ _ (Int.emod_nonneg _ (by omega)) (Int.emod_lt_of_pos _ n0) ⟨_, _, ⟨Int.ediv_nonneg pv.1 (by omega), pv.2⟩, rfl⟩⟩
  · refine ⟨_, hp, _, rfl, ?_⟩
    simp only [sSeq, sAsg, gNm, sRet, sRetN, bD, xD, nmD, startD, sIf, DL.tB, DL.tNot, DL.tAnd, DL.tOr, eAnd, eOr, eNot, eIf, isB, sDrop, sNext, sPar, eTup, eLst, eCall, eCB, aNil, aCons, eFld, eFldM, eProp, eMeth, eMethK, eNegO, eMake, eMakeK, eUn, sFldM, addI, addS, addL, subI, negI, mulI, mulL, divI, modI, powI, eqI, neI, eqS, neS, lenL, lenT, lenC, absI, intI, strI, repX, tupL, dmI, it0, it1, itL0, itL1, itL2, itL3, itL4, itL5, itL6, itR, eStat, oNone, oSome, eSl, gTp2', gIx, eLstM, eApp, rSame, rInt, rIntL, DL.rIn, DL.rNe, eFmt, eJs, eDic0, sNever, mx2, mn2, ltI, leI, gtI, geI, eChain, decide_eq_true_eq, List.map_cons, List.map_nil, List.length_cons, List.length_nil, Nat.reduceAdd, Nat.reduceSub, List.replicate_succ, List.replicate_zero, List.cons_append, List.nil_append, List.getElem?_cons_zero, List.getElem?_cons_succ, Option.some.injEq, exists_eq_left', List.set_cons_zero, List.set_cons_succ, if_true, if_false, Bool.false_eq_true, reduceIte, and_self, true_and, D.bl.injEq, D.ob.injEq, D.int.injEq, D.str.injEq, D.tup.injEq, exists_and_left, exists_eq_left, reduceCtorEq, and_true, lk_low, lk_high, exists_eq', and_self]
    have b2 := pv.2.1
    have b3 := pv.2.2
    have hb : 0 ≤ (b1 * 48271 + 11213) % 2147483587 ∧ (b1 * 48271 + 11213) % 2147483587 < 2147483587 := ⟨Int.emod_nonneg _ (by decide), Int.emod_lt_of_pos _ (by decide)⟩
    refine ⟨mulOk (a := 40) (b := 20) (by omega) (by decide) (by decide), by decide, p, rfl, _, 1, rfl, hp, (show 1 < 2 by decide), _, mset_same, _, rfl, _, mset_same, _, rfl, ?_⟩
    refine ⟨mulOk (a := 40) (b := 40) (by omega) (by omega) (by decide), by decide, ⟨by decide, by decide +kernel⟩, n0, ?_⟩
    exact q _ _ (Int.emod_nonneg _ (by omega)) (Int.emod_lt_of_pos _ n0) ⟨_, _, ⟨pv.1, hb.1, by omega⟩, rfl⟩
theorem ok__law_number (T : Tx K mg a d) : FnG false false P w K mg base 2 a.f__law_number d.f__law_number ["_law_pot_here"] (spL (G a) s_num) := by
  refine fn_okG T.F__law_number sc__law_number (fun _ _ _ _ ⟨_, e, _⟩ => len1 e) (fun cdv A outer s H E xs m Q x hr h => ⟨_, (dss_cons (ds_set (i := 1) (ps_set (i := 1) sc__law_number.nd rfl (Or.inl rfl)) (de_call (ok__law_draw T) (hr.mono (show 1 ≤ _ by decide)) (by rfl) T.m__law_draw T.F__law_draw.kp T.b__law_draw takesG (da_cons (de_nm (pv 0)) (da_cons (de_c pe_int (fun _ => .int _)) da_nil)))) (dss_cons (ds_if (dt_cmp (od_lt hr.u0) (de_nm (pv 1)) (de_c pe_int (fun _ => .int _)) (nomark _)) (dss_one (ds_ret (de_op od_sub (de_call (ok__law_draw T) (hr.mono (show 1 ≤ _ by decide)) (by rfl) T.m__law_draw T.F__law_draw.kp T.b__law_draw takesG (da_cons (de_nm (pv 0)) (da_cons (de_c pe_int (fun _ => .int _)) da_nil))) (de_c pe_int (fun _ => .int _))))) dss_nil) (dss_cons (ds_set (i := 2) (ps_set (i := 2) sc__law_number.nd rfl (Or.inl rfl)) (de_op od_add (de_op od_mul (de_call (ok__law_draw T) (hr.mono (show 1 ≤ _ by decide)) (by rfl) T.m__law_draw T.F__law_draw.kp T.b__law_draw takesG (da_cons (de_nm (pv 0)) (da_cons (de_op od_pow (de_c pe_int (fun _ => .int _)) (de_c pe_int (fun _ => .int _))) da_nil))) (de_op od_pow (de_c pe_int (fun _ => .int _)) (de_c pe_int (fun _ => .int _)))) (de_call (ok__law_draw T) (hr.mono (show 1 ≤ _ by decide)) (by rfl) T.m__law_draw T.F__law_draw.kp T.b__law_draw takesG (da_cons (de_nm (pv 0)) (da_cons (de_op od_pow (de_c pe_int (fun _ => .int _)) (de_c pe_int (fun _ => .int _))) da_nil))))) (dss_one (ds_ret (de_if (dt_cmp (od_eq hr.u64) (de_nm (pv 1)) (de_c pe_int (fun _ => .int _)) (nomark _)) (de_nm (pv 2)) (de_op od_sub (de_c pe_int (fun _ => .int _)) (de_nm (pv 2))))))))), ?_⟩)
  obtain ⟨p, rfl, hp, q⟩ := h
  simp only [sSeq, sAsg, gNm, sRet, sRetN, bD, xD, nmD, startD, sIf, DL.tB, DL.tNot, DL.tAnd, DL.tOr, eAnd, eOr, eNot, eIf, isB, sDrop, sNext, sPar, eTup, eLst, eCall, eCB, aNil, aCons, eFld, eFldM, eProp, eMeth, eMethK, eNegO, eMake, eMakeK, eUn, sFldM, addI, addS, addL, subI, negI, mulI, mulL, divI, modI, powI, eqI, neI, eqS, neS, lenL, lenT, lenC, absI, intI, strI, repX, tupL, dmI, it0, it1, itL0, itL1, itL2, itL3, itL4, itL5, itL6, itR, eStat, oNone, oSome, eSl, gTp2', gIx, eLstM, eApp, rSame, rInt, rIntL, DL.rIn, DL.rNe, eFmt, eJs, eDic0, sNever, mx2, mn2, ltI, leI, gtI, geI, eChain, decide_eq_true_eq, List.map_cons, List.map_nil, List.length_cons, List.length_nil, Nat.reduceAdd, Nat.reduceSub, List.replicate_succ, List.replicate_zero, List.cons_append, List.nil_append, List.getElem?_cons_zero, List.getElem?_cons_succ, Option.some.injEq, exists_eq_left', List.set_cons_zero, List.set_cons_succ, if_true, if_false, Bool.false_eq_true, reduceIte, and_self, true_and, D.bl.injEq, D.ob.injEq, D.int.injEq, D.str.injEq, D.tup.injEq, exists_and_left, exists_eq_left, reduceCtorEq, and_true, lk_low, lk_high, exists_eq', and_self]
  have e12 : (0 : Int) ≤ 12 ∧ (12 : Int) ≤ 1000000 ∧ Int.natAbs 10 < 2 ^ 64 := by decide
  have e13 : (0 : Int) ≤ 13 ∧ (13 : Int) ≤ 1000000 ∧ Int.natAbs 10 < 2 ^ 64 := by decide
  have x12 : (10 : Int) ^ Int.toNat 12 = 1000000000000 := by decide
  have x13 : (10 : Int) ^ Int.toNat 13 = 10000000000000 := by decide
  refine ⟨p, 4, rfl, by decide, by decide, hp, fun i m1 i0 i4 s1 => ?_⟩
  refine ⟨_, rfl, ite2 (fun c => ?_) (fun c => ?_)⟩
  · refine ⟨p, 9, rfl, by decide, by decide, s1.pot, fun j m2 j0 j9 s2 => ?_⟩
    exact q _ _ (by omega) (by omega) (s1.trans s2)
  · rw [x12, x13]
    refine ⟨e13, p, _, rfl, by decide, by decide, s1.pot, fun j m2 j0 j9 s2 => ?_⟩
    refine ⟨e12, mulOk (a := 60) (b := 60) (by omega) (by decide) (by decide), e12, p, _, rfl, by decide, by decide, s2.pot, fun k m3 k0 k9 s3 => ?_⟩
    have s4 := s1.trans (s2.trans s3)
    dsimp only
    rw [addI, eqI]
    refine ⟨_, rfl, ite2 (fun _ => q _ _ (by omega) (by omega) s4) (fun _ => ?_)⟩
    exact q _ _ (by omega) (by omega) s4
theorem ok__law_bounds (T : Tx K mg a d) : FnG false false P w K mg base 2 a.f__law_bounds d.f__law_bounds ["_law_pot_here", "_law_base"] (spL (G a) s_bnd) := by
  refine fn_okG T.F__law_bounds sc__law_bounds (fun _ _ _ _ ⟨_, _, e, _⟩ => len2 e) (fun cdv A outer s H E xs m Q x hr h => ⟨_, (dss_one (ds_ret (de_callTy (cd_tuple) (by rfl) T.z_tuple boot_tuple (da_cons (de_callB (cd_sorted) (by rfl) T.z_sorted boot_sorted (da_cons (de_lst (da_cons (de_op od_sub (de_op od_add (de_nm (pv 1)) (de_call (ok__law_draw T) (hr.mono (show 1 ≤ _ by decide)) (by rfl) T.m__law_draw T.F__law_draw.kp T.b__law_draw takesG (da_cons (de_nm (pv 0)) (da_cons (de_c pe_int (fun _ => .int _)) da_nil)))) (de_c pe_int (fun _ => .int _))) (da_cons (de_op od_sub (de_op od_add (de_nm (pv 1)) (de_call (ok__law_draw T) (hr.mono (show 1 ≤ _ by decide)) (by rfl) T.m__law_draw T.F__law_draw.kp T.b__law_draw takesG (da_cons (de_nm (pv 0)) (da_cons (de_c pe_int (fun _ => .int _)) da_nil)))) (de_c pe_int (fun _ => .int _))) da_nil))) da_nil)) da_nil)))), ?_⟩)
  obtain ⟨p, b, rfl, hp, q⟩ := h
  simp only [sSeq, sAsg, gNm, sRet, sRetN, bD, xD, nmD, startD, sIf, DL.tB, DL.tNot, DL.tAnd, DL.tOr, eAnd, eOr, eNot, eIf, isB, sDrop, sNext, sPar, eTup, eLst, eCall, eCB, aNil, aCons, eFld, eFldM, eProp, eMeth, eMethK, eNegO, eMake, eMakeK, eUn, sFldM, addI, addS, addL, subI, negI, mulI, mulL, divI, modI, powI, eqI, neI, eqS, neS, lenL, lenT, lenC, absI, intI, strI, repX, tupL, dmI, it0, it1, itL0, itL1, itL2, itL3, itL4, itL5, itL6, itR, eStat, oNone, oSome, eSl, gTp2', gIx, eLstM, eApp, rSame, rInt, rIntL, DL.rIn, DL.rNe, eFmt, eJs, eDic0, sNever, mx2, mn2, ltI, leI, gtI, geI, eChain, decide_eq_true_eq, List.map_cons, List.map_nil, List.length_cons, List.length_nil, Nat.reduceAdd, Nat.reduceSub, List.replicate_succ, List.replicate_zero, List.cons_append, List.nil_append, List.getElem?_cons_zero, List.getElem?_cons_succ, Option.some.injEq, exists_eq_left', List.set_cons_zero, List.set_cons_succ, if_true, if_false, Bool.false_eq_true, reduceIte, and_self, true_and, D.bl.injEq, D.ob.injEq, D.int.injEq, D.str.injEq, D.tup.injEq, exists_and_left, exists_eq_left, reduceCtorEq, and_true, lk_low, lk_high, exists_eq', and_self]
  refine ⟨p, 7, rfl, by decide, by decide, hp, fun i m1 i0 i4 s1 => ?_⟩
  dsimp only
  rw [addI, subI]
  refine ⟨p, 7, rfl, by decide, by decide, s1.pot, fun j m2 j0 j4 s2 => ?_⟩
  dsimp only
  rw [addI, subI]
  refine ⟨small2, [b + i - 3, b + j - 3], rfl, fun ns hp hs => ?_⟩
  obtain ⟨u, v, rfl⟩ : ∃ u v, ns = [u, v] := by
    have := hp.length_eq
    match ns, this with
    | [u, v], _ => exact ⟨u, v, rfl⟩
  have hu : u = b + i - 3 ∨ u = b + j - 3 := by simpa using hp.mem_iff.mp (List.mem_cons_self ..)
  have hv : v = b + i - 3 ∨ v = b + j - 3 := by simpa using hp.mem_iff.mp (List.mem_cons_of_mem _ (List.mem_cons_self ..))
  have huv : u ≤ v := by simpa using hs
  exact q u v _ huv (by omega) (by omega) (s1.trans s2)
theorem ok__law_made (T : Tx K mg a d) : FnG false false P w K mg base 5 a.f__law_made d.f__law_made ["_law_bounds_here"] (spL (G a) s_made) := by
  refine fn_okG T.F__law_made sc__law_made (fun _ _ _ _ ⟨_, _, e, _⟩ => len1 e) (fun cdv A outer s H E xs m Q x hr h => ⟨_, (dss_one (ds_ret (de_make (c := 0) T.M_Span (ok_Span___init__ T) (hr.mono (show 4 ≤ _ by decide)) (by rfl) T.m_Span T.b_Span___init__ takesG (da_cons (de_ix (de_nm (pv 0)) (de_c pe_int (fun _ => .int _)) (fun _ _ => rfl)) (da_cons (de_ix (de_nm (pv 0)) (de_c pe_int (fun _ => .int _)) (fun _ _ => rfl)) da_nil))))), ?_⟩)
  obtain ⟨l, h, rfl, le, q⟩ := h
  simp only [sSeq, sAsg, gNm, sRet, sRetN, bD, xD, nmD, startD, sIf, DL.tB, DL.tNot, DL.tAnd, DL.tOr, eAnd, eOr, eNot, eIf, isB, sDrop, sNext, sPar, eTup, eLst, eCall, eCB, aNil, aCons, eFld, eFldM, eProp, eMeth, eMethK, eNegO, eMake, eMakeK, eUn, sFldM, addI, addS, addL, subI, negI, mulI, mulL, divI, modI, powI, eqI, neI, eqS, neS, lenL, lenT, lenC, absI, intI, strI, repX, tupL, dmI, it0, it1, itL0, itL1, itL2, itL3, itL4, itL5, itL6, itR, eStat, oNone, oSome, eSl, gTp2', gIx, eLstM, eApp, rSame, rInt, rIntL, DL.rIn, DL.rNe, eFmt, eJs, eDic0, sNever, mx2, mn2, ltI, leI, gtI, geI, eChain, decide_eq_true_eq, List.map_cons, List.map_nil, List.length_cons, List.length_nil, Nat.reduceAdd, Nat.reduceSub, List.replicate_succ, List.replicate_zero, List.cons_append, List.nil_append, List.getElem?_cons_zero, List.getElem?_cons_succ, Option.some.injEq, exists_eq_left', List.set_cons_zero, List.set_cons_succ, if_true, if_false, Bool.false_eq_true, reduceIte, and_self, true_and, D.bl.injEq, D.ob.injEq, D.int.injEq, D.str.injEq, D.tup.injEq, exists_and_left, exists_eq_left, reduceCtorEq, and_true, lk_low, lk_high, exists_eq', and_self]
  exact mk_span le q
theorem ok__law_is (T : Tx K mg a d) : FnG false true P w K mg base 4 a.f__law_is d.f__law_is ["_law_made_here", "_law_bounds_here"] (spL (G a) s_is) := by
  refine fn_okG T.F__law_is sc__law_is (fun _ _ _ _ ⟨_, _, e, _⟩ => len2 e) (fun cdv A outer s H E xs m Q x hr h => ⟨_, (dss_cons (ds_asg (de_nm (pv 1)) (dg_tup (n := 2) rfl (dgs_cons (dg_name (pg_name (i := 4) sc__law_is.nd rfl (Or.inl rfl))) (dgs_cons (dg_name (pg_name (i := 5) sc__law_is.nd rfl (Or.inl rfl))) dgs_nil)))) (dss_cons (ds_set (i := 2) (ps_set (i := 2) sc__law_is.nd rfl (Or.inl rfl)) (de_lst (da_cons (de_prop (c := 0) T.c_Span T.p_Span_low (ok_Span_low T).any (hr.mono (show 2 ≤ _ by decide)) T.b_Span_low (de_nm (pv 0))) (da_cons (de_prop (c := 0) T.c_Span T.p_Span_high (ok_Span_high T).any (hr.mono (show 2 ≤ _ by decide)) T.b_Span_high (de_nm (pv 0))) (da_cons (de_prop (c := 0) T.c_Span T.p_Span_width (ok_Span_width T).any (hr.mono (show 2 ≤ _ by decide)) T.b_Span_width (de_nm (pv 0))) (da_cons (de_callTy (cd_strO (c := 0) T.o_Span___str__ (ok_Span___str__ T).any (hr.mono (show 3 ≤ _ by decide)) T.b_Span___str__) (by rfl) T.z_str boot_str (da_cons (de_nm (pv 0)) da_nil)) (da_cons (de_callB (cd_reprO (c := 0) T.o_Span___repr__ (ok_Span___repr__ T).at_' (hr.mono (show 2 ≤ _ by decide)) T.b_Span___repr__) (by rfl) T.z_repr boot_repr (da_cons (de_nm (pv 0)) da_nil)) da_nil))))))) (dss_cons (ds_set (i := 3) (ps_set (i := 3) sc__law_is.nd rfl (Or.inl rfl)) (de_lst (da_cons (de_op od_add (de_op od_add (de_callTy (cd_str) (by rfl) T.z_str boot_str (da_cons (de_nm (pv 4)) da_nil)) (de_c pe_str (fun _ => .str _))) (de_callTy (cd_str) (by rfl) T.z_str boot_str (da_cons (de_nm (pv 5)) da_nil))) (da_cons (de_op od_add (de_op od_add (de_op od_add (de_op od_add (de_c pe_str (fun _ => .str _)) (de_callTy (cd_str) (by rfl) T.z_str boot_str (da_cons (de_nm (pv 4)) da_nil))) (de_c pe_str (fun _ => .str _))) (de_callTy (cd_str) (by rfl) T.z_str boot_str (da_cons (de_nm (pv 5)) da_nil))) (de_c pe_str (fun _ => .str _))) da_nil)))) (dss_one (ds_ret (de_and (de_callB cd_isi (by rfl) T.z_isinstance boot_isinstance (da_cons (de_nm (pv 0)) (da_cons (de_c (pe_glob (v := .ref _) (by rfl) T.m_Span rfl) (fun _ => .ref _)) da_nil))) (de_one (de_cmp (od_eq hr.u64) (de_callB (cd_repr hr) (by rfl) T.z_repr boot_repr (da_cons (de_nm (pv 2)) da_nil)) (de_callB (cd_repr hr) (by rfl) T.z_repr boot_repr (da_cons (de_op od_add (de_lst (da_cons (de_nm (pv 4)) (da_cons (de_nm (pv 5)) (da_cons (de_op od_sub (de_nm (pv 5)) (de_nm (pv 4))) da_nil)))) (de_nm (pv 3))) da_nil)) (nomark _))))))))), ?_⟩)
  obtain ⟨l, h, rfl, fl, fh, fw, q⟩ := h
  simp only [sSeq, sAsg, gNm, sRet, sRetN, bD, xD, nmD, startD, sIf, DL.tB, DL.tNot, DL.tAnd, DL.tOr, eAnd, eOr, eNot, eIf, isB, sDrop, sNext, sPar, eTup, eLst, eCall, eCB, aNil, aCons, eFld, eFldM, eProp, eMeth, eMethK, eNegO, eMake, eMakeK, eUn, sFldM, addI, addS, addL, subI, negI, mulI, mulL, divI, modI, powI, eqI, neI, eqS, neS, lenL, lenT, lenC, absI, intI, strI, repX, tupL, dmI, it0, it1, itL0, itL1, itL2, itL3, itL4, itL5, itL6, itR, eStat, oNone, oSome, eSl, gTp2', gIx, eLstM, eApp, rSame, rInt, rIntL, DL.rIn, DL.rNe, eFmt, eJs, eDic0, sNever, mx2, mn2, ltI, leI, gtI, geI, eChain, decide_eq_true_eq, List.map_cons, List.map_nil, List.length_cons, List.length_nil, Nat.reduceAdd, Nat.reduceSub, List.replicate_succ, List.replicate_zero, List.cons_append, List.nil_append, List.getElem?_cons_zero, List.getElem?_cons_succ, Option.some.injEq, exists_eq_left', List.set_cons_zero, List.set_cons_succ, if_true, if_false, Bool.false_eq_true, reduceIte, and_self, true_and, D.bl.injEq, D.ob.injEq, D.int.injEq, D.str.injEq, D.tup.injEq, exists_and_left, exists_eq_left, reduceCtorEq, and_true, lk_low, lk_high, exists_eq', and_self]
  have a0 := Sh.istr fl
  have a1 := Sh.istr fh
  have p0 := Sh.lit (n := 2) (x := "..") (by decide +kernel)
  have p1 := Sh.lit (n := 5) (x := "Span(") (by decide +kernel)
  have p2 := Sh.lit (n := 2) (x := ", ") (by decide +kernel)
  have p3 := Sh.lit (n := 1) (x := ")") (by decide +kernel)
  have t1 := (a0.app p0).app a1
  have t2 := (((p1.app a0).app p2).app a1).app p3
  have ro : okR (.lst [.int l, .int h, .int (h - l), .str (strS l h), .str (repS l h)]) := okR.of (.lst (ROs.cons (.int fl) (ROs.cons (.int fh) (ROs.cons (.int fw) (ROs.cons (RO.str t1) (ROs.cons (RO.str t2) ROs.nil))))))
  have hl : ∀ {x y : Str} {n : Nat}, Sh n (x ++ y) → n ≤ 2 ^ 24 → x.length + y.length ≤ sizeLine := fun hs hn => by have := fits hs hn; rwa [strLen_append] at this
  refine ⟨l, h, rfl, l, h, rfl, l, h, rfl, ⟨⟨_, rfl⟩, l, h, rfl, fl, fh, _, rfl, ⟨⟨_, rfl⟩, l, h, rfl, fl, fh, _, rfl, ?_⟩⟩⟩
  refine ⟨smallN (by decide), fl, hl (a0.app p0) (by decide), fh, hl t1 (by decide), fl, hl (p1.app a0) (by decide), hl ((p1.app a0).app p2) (by decide), fh, hl (((p1.app a0).app p2).app a1) (by decide), hl t2 (by decide), small2, ?_⟩
  refine isi_span T ⟨_, rfl, iteT ⟨ro, smallN (by decide), smallN (by decide), ro, ?_⟩⟩
  simpa [strS, repS] using q
theorem ok__law_shared (T : Tx K mg a d) : FnG false true P w K mg base 6 a.f__law_shared d.f__law_shared ["_law_this", "_law_mate"] (spL (G a) s_shared) := by
  refine fn_okG T.F__law_shared sc__law_shared (fun _ _ _ _ ⟨_, _, _, _, e, _⟩ => len2 e) (fun cdv A outer s H E xs m Q x hr h => ⟨_, (dss_cons (ds_set (i := 2) (ps_set (i := 2) sc__law_shared.nd rfl (Or.inl rfl)) (de_c pe_non (fun _ => .non))) (dss_cons (ds_try_as (i := 3) (cv := .ref a.Apart) rfl rfl sc__law_shared.nd rfl rfl (.intro (by rfl) (.intro (by decide) (.inl T.m_Apart))) takesG (fun W pn xe tkb pob => (dss_one (ds_set (i := 2) (ps_set (i := 2) sc__law_shared.nd rfl (Or.inl rfl)) (de_opX (ox_same (c := 0) T.o_Span___and__ T.sf_Span (ok_Span___and__ T).any (hr.mono (show 5 ≤ _ by decide)) T.b_Span___and__ tkb) (de_nm (pv 0)) (de_nm (pv 1)))))) (fun ea oe cls dd pn hz hfv => (dss_cons (ds_set (i := 4) (ps_set (i := 4) sc__law_shared.nd rfl (Or.inl rfl)) (de_and (de_callB (cd_isx (c := 4) T.q_Apart hz hfv) (by rfl) T.z_isinstance boot_isinstance (da_cons (de_nm (pv 3)) (da_cons (de_c (pe_glob (v := .ref _) (by rfl) T.m_StateError rfl) (fun _ => .ref _)) da_nil))) (de_one (de_not (de_callB (cd_isx (c := 4) T.q_Apart hz hfv) (by rfl) T.z_isinstance boot_isinstance (da_cons (de_nm (pv 3)) (da_cons (de_tup (da_cons (de_c (pe_glob (v := .ref _) (by rfl) T.m_AbreastError rfl) (fun _ => .ref _)) (da_cons (de_c (pe_glob (v := .ref _) (by rfl) T.m_MissingError rfl) (fun _ => .ref _)) (da_cons (de_c (pe_glob (v := .ref _) (by rfl) T.m_LimitError rfl) (fun _ => .ref _)) da_nil)))) da_nil))))))) (dss_one (ds_set (i := 2) (ps_set (i := 2) sc__law_shared.nd rfl (Or.inl rfl)) (de_lst (da_cons (de_c pe_str (fun _ => .str _)) (da_cons (de_callB (cd_reprO (c := 0) T.o_Span___repr__ (ok_Span___repr__ T) (hr.suite.noG.mono (show 2 ≤ _ by decide)) T.b_Span___repr__) (by rfl) T.z_repr boot_repr (da_cons (de_xf (c := 4) T.x_Apart T.n_Apart_one hz hfv (de_nm (pv 3))) da_nil)) (da_cons (de_callB (cd_reprO (c := 0) T.o_Span___repr__ (ok_Span___repr__ T) (hr.suite.noG.mono (show 2 ≤ _ by decide)) T.b_Span___repr__) (by rfl) T.z_repr boot_repr (da_cons (de_xf (c := 4) T.x_Apart T.n_Apart_other hz hfv (de_nm (pv 3))) da_nil)) (da_cons (de_and (de_nm (pv 4)) (de_one (de_callB (cd_isx (c := 4) T.q_Apart hz hfv) (by rfl) T.z_isinstance boot_isinstance (da_cons (de_nm (pv 3)) (da_cons (de_c (pe_bltn (v := .ty _) (by rfl) T.z_RuntimeError PyProof.Rows.Boot.«RuntimeError» rfl) (fun _ => .ty _)) da_nil))))) da_nil)))))))))) (dss_one (ds_ret (de_nm (pv 2)))))), ?_⟩)
  obtain ⟨l, h, l2, h2, rfl, le1, le2, ⟨z1, z2, z3, z4⟩, q⟩ := h
  simp only [sSeq, sAsg, gNm, sRet, sRetN, bD, xD, nmD, startD, sIf, DL.tB, DL.tNot, DL.tAnd, DL.tOr, eAnd, eOr, eNot, eIf, isB, sDrop, sNext, sPar, eTup, eLst, eCall, eCB, aNil, aCons, eFld, eFldM, eProp, eMeth, eMethK, eNegO, eMake, eMakeK, eUn, sFldM, addI, addS, addL, subI, negI, mulI, mulL, divI, modI, powI, eqI, neI, eqS, neS, lenL, lenT, lenC, absI, intI, strI, repX, tupL, dmI, it0, it1, itL0, itL1, itL2, itL3, itL4, itL5, itL6, itR, eStat, oNone, oSome, eSl, gTp2', gIx, eLstM, eApp, rSame, rInt, rIntL, DL.rIn, DL.rNe, eFmt, eJs, eDic0, sNever, mx2, mn2, ltI, leI, gtI, geI, eChain, decide_eq_true_eq, List.map_cons, List.map_nil, List.length_cons, List.length_nil, Nat.reduceAdd, Nat.reduceSub, List.replicate_succ, List.replicate_zero, List.cons_append, List.nil_append, List.getElem?_cons_zero, List.getElem?_cons_succ, Option.some.injEq, exists_eq_left', List.set_cons_zero, List.set_cons_succ, if_true, if_false, Bool.false_eq_true, reduceIte, and_self, true_and, D.bl.injEq, D.ob.injEq, D.int.injEq, D.str.injEq, D.tup.injEq, exists_and_left, exists_eq_left, reduceCtorEq, and_true, lk_low, lk_high, exists_eq', and_self, made_eq, get_eq, two_eq, int_eq, neg_eq, txt_eq, is_eq, shared_eq, cont_eq, and_eq, wr_eq, mv_eq, pick1, pick2, leT, ltT, geT, gtT, eqT, neT, cxK, isi_eq T, Bool.not_true, Bool.not_false]
  by_cases c : aprt l h l2 h2
  · rw [if_pos c] at q
    refine ⟨_, rfl, _, rfl, ⟨_, rfl⟩, ⟨_, rfl⟩, l, h, l2, h2, rfl, le1, le2, ?_⟩
    rw [if_pos c]
    refine ⟨true, T.e_Apart, fun _ => ⟨by show [("other" : Str), "one"] ≠ []; simp, fun ea dd => ?_⟩, fun z => Bool.noConfusion z⟩
    simp only [sSeq, sAsg, gNm, sRet, sRetN, bD, xD, nmD, startD, sIf, DL.tB, DL.tNot, DL.tAnd, DL.tOr, eAnd, eOr, eNot, eIf, isB, sDrop, sNext, sPar, eTup, eLst, eCall, eCB, aNil, aCons, eFld, eFldM, eProp, eMeth, eMethK, eNegO, eMake, eMakeK, eUn, sFldM, addI, addS, addL, subI, negI, mulI, mulL, divI, modI, powI, eqI, neI, eqS, neS, lenL, lenT, lenC, absI, intI, strI, repX, tupL, dmI, it0, it1, itL0, itL1, itL2, itL3, itL4, itL5, itL6, itR, eStat, oNone, oSome, eSl, gTp2', gIx, eLstM, eApp, rSame, rInt, rIntL, DL.rIn, DL.rNe, eFmt, eJs, eDic0, sNever, mx2, mn2, ltI, leI, gtI, geI, eChain, decide_eq_true_eq, List.map_cons, List.map_nil, List.length_cons, List.length_nil, Nat.reduceAdd, Nat.reduceSub, List.replicate_succ, List.replicate_zero, List.cons_append, List.nil_append, List.getElem?_cons_zero, List.getElem?_cons_succ, Option.some.injEq, exists_eq_left', List.set_cons_zero, List.set_cons_succ, if_true, if_false, Bool.false_eq_true, reduceIte, and_self, true_and, D.bl.injEq, D.ob.injEq, D.int.injEq, D.str.injEq, D.tup.injEq, exists_and_left, exists_eq_left, reduceCtorEq, and_true, lk_low, lk_high, exists_eq', and_self, made_eq, get_eq, two_eq, int_eq, neg_eq, txt_eq, is_eq, shared_eq, cont_eq, and_eq, wr_eq, mv_eq, pick1, pick2, leT, ltT, geT, gtT, eqT, neT, cxK, isi_eq T, Bool.not_true, Bool.not_false]
    refine ⟨_, _, _, true, rfl, rfl, rfl, .inl ⟨_, rfl, T.k_Apart1⟩, _, rfl, iteT ⟨smallN (by decide), _, _, _, false, rfl, rfl, rfl, .inr ⟨_, [.ref a.AbreastError, .ref a.MissingError, .ref a.LimitError], rfl, rfl, T.k_Apart3⟩, _, rfl, ?_⟩⟩
    simp only [sSeq, sAsg, gNm, sRet, sRetN, bD, xD, nmD, startD, sIf, DL.tB, DL.tNot, DL.tAnd, DL.tOr, eAnd, eOr, eNot, eIf, isB, sDrop, sNext, sPar, eTup, eLst, eCall, eCB, aNil, aCons, eFld, eFldM, eProp, eMeth, eMethK, eNegO, eMake, eMakeK, eUn, sFldM, addI, addS, addL, subI, negI, mulI, mulL, divI, modI, powI, eqI, neI, eqS, neS, lenL, lenT, lenC, absI, intI, strI, repX, tupL, dmI, it0, it1, itL0, itL1, itL2, itL3, itL4, itL5, itL6, itR, eStat, oNone, oSome, eSl, gTp2', gIx, eLstM, eApp, rSame, rInt, rIntL, DL.rIn, DL.rNe, eFmt, eJs, eDic0, sNever, mx2, mn2, ltI, leI, gtI, geI, eChain, decide_eq_true_eq, List.map_cons, List.map_nil, List.length_cons, List.length_nil, Nat.reduceAdd, Nat.reduceSub, List.replicate_succ, List.replicate_zero, List.cons_append, List.nil_append, List.getElem?_cons_zero, List.getElem?_cons_succ, Option.some.injEq, exists_eq_left', List.set_cons_zero, List.set_cons_succ, if_true, if_false, Bool.false_eq_true, reduceIte, and_self, true_and, D.bl.injEq, D.ob.injEq, D.int.injEq, D.str.injEq, D.tup.injEq, exists_and_left, exists_eq_left, reduceCtorEq, and_true, lk_low, lk_high, exists_eq', and_self, made_eq, get_eq, two_eq, int_eq, neg_eq, txt_eq, is_eq, shared_eq, cont_eq, and_eq, wr_eq, mv_eq, pick1, pick2, leT, ltT, geT, gtT, eqT, neT, cxK, isi_eq T, Bool.not_true, Bool.not_false]
    refine ⟨_, rfl, _, _, _, rfl, rfl, rfl, lk_one, ?_⟩
    dsimp only
    rw [txt_eq]
    refine ⟨z1.few, z2.few, _, rfl, _, _, _, rfl, rfl, rfl, lk_other, ?_⟩
    dsimp only
    rw [txt_eq]
    exact ⟨z3.few, z4.few, _, _, _, true, rfl, rfl, rfl, .inl ⟨_, rfl, T.k_Apart2⟩, smallN (by decide), q⟩
  · rw [if_neg c] at q
    refine ⟨_, rfl, _, rfl, ⟨_, rfl⟩, ⟨_, rfl⟩, l, h, l2, h2, rfl, le1, le2, ?_⟩
    rw [if_neg c]
    exact ⟨_, rfl, q⟩
theorem ok__law_two_right (T : Tx K mg a d) : FnG false true P w K mg base 7 a.f__law_two_right d.f__law_two_right ["_law_bounds_here", "_law_more"] (spL (G a) s_2r) := by
  refine fn_okG T.F__law_two_right sc__law_two_right (fun _ _ _ _ ⟨_, _, _, _, e, _⟩ => len2 e) (fun cdv A outer s H E xs m Q x hr h => ⟨_, (dss_cons (ds_par (i := 4) (j := 5) (ps_par (i := 4) (j := 5) rfl sc__law_two_right.nd rfl rfl (by decide) rfl rfl · (by rfl)) (da_cons (de_call (ok__law_made T).any (hr.mono (show 5 ≤ _ by decide)) (by rfl) T.m__law_made T.F__law_made.kp T.b__law_made takesG (da_cons (de_nm (pv 0)) da_nil)) (da_cons (de_call (ok__law_made T).any (hr.mono (show 5 ≤ _ by decide)) (by rfl) T.m__law_made T.F__law_made.kp T.b__law_made takesG (da_cons (de_nm (pv 1)) da_nil)) da_nil))) (dss_cons (ds_par (i := 6) (j := 7) (ps_par (i := 6) (j := 7) rfl sc__law_two_right.nd rfl rfl (by decide) rfl rfl · (by rfl)) (da_cons (de_callB (cd_mx (by rfl) hr.u8) (by rfl) T.z_max boot_max (da_cons (de_ix (de_nm (pv 0)) (de_c pe_int (fun _ => .int _)) (fun _ _ => rfl)) (da_cons (de_ix (de_nm (pv 1)) (de_c pe_int (fun _ => .int _)) (fun _ _ => rfl)) da_nil))) (da_cons (de_callB (cd_mn (by rfl) hr.u8) (by rfl) T.z_min boot_min (da_cons (de_ix (de_nm (pv 0)) (de_c pe_int (fun _ => .int _)) (fun _ _ => rfl)) (da_cons (de_ix (de_nm (pv 1)) (de_c pe_int (fun _ => .int _)) (fun _ _ => rfl)) da_nil))) da_nil))) (dss_cons (ds_set (i := 2) (ps_set (i := 2) sc__law_two_right.nd rfl (Or.inl rfl)) (de_call (ok__law_shared T) (hr.mono (show 6 ≤ _ by decide)) (by rfl) T.m__law_shared T.F__law_shared.kp T.b__law_shared takesG (da_cons (de_nm (pv 4)) (da_cons (de_nm (pv 5)) da_nil)))) (dss_cons (ds_if (dw_pt (dw_and (dt_cmp (od_gt hr.u0) (de_nm (pv 6)) (de_nm (pv 7)) (nomark _)) (dw_and1 (dt_cmp (od_ne hr.u64) (de_callB (cd_repr hr) (by rfl) T.z_repr boot_repr (da_cons (de_nm (pv 2)) da_nil)) (de_callB (cd_repr hr) (by rfl) T.z_repr boot_repr (da_cons (de_lst (da_cons (de_c pe_str (fun _ => .str _)) (da_cons (de_callB (cd_reprO (c := 0) T.o_Span___repr__ (ok_Span___repr__ T).at_' (hr.mono (show 2 ≤ _ by decide)) T.b_Span___repr__) (by rfl) T.z_repr boot_repr (da_cons (de_nm (pv 4)) da_nil)) (da_cons (de_callB (cd_reprO (c := 0) T.o_Span___repr__ (ok_Span___repr__ T).at_' (hr.mono (show 2 ≤ _ by decide)) T.b_Span___repr__) (by rfl) T.z_repr boot_repr (da_cons (de_nm (pv 5)) da_nil)) (da_cons (de_c pe_bl (fun _ => .bl _)) da_nil))))) da_nil)) (nomark _))))) (dss_one (ds_ret (de_c pe_bl (fun _ => .bl _)))) dss_nil) (dss_cons (ds_if (dw_pt (dw_and (dt_cmp (od_le hr.u0) (de_nm (pv 6)) (de_nm (pv 7)) (nomark _)) (dw_and1 (dt_not (dt_val (de_call (ok__law_is T) (hr.mono (show 4 ≤ _ by decide)) (by rfl) T.m__law_is T.F__law_is.kp T.b__law_is takesG (da_cons (de_nm (pv 2)) (da_cons (de_tup (da_cons (de_nm (pv 6)) (da_cons (de_nm (pv 7)) da_nil))) da_nil)))))))) (dss_one (ds_ret (de_c pe_bl (fun _ => .bl _)))) dss_nil) (dss_cons (ds_if (dt_not (dt_val (de_call (ok__law_is T) (hr.mono (show 4 ≤ _ by decide)) (by rfl) T.m__law_is T.F__law_is.kp T.b__law_is takesG (da_cons (de_opX (ox_same (c := 0) T.o_Span___or__ T.sf_Span (ok_Span___or__ T).any (hr.mono (show 5 ≤ _ by decide)) T.b_Span___or__ takesG) (de_nm (pv 4)) (de_nm (pv 5))) (da_cons (de_tup (da_cons (de_callB (cd_mn (by rfl) hr.u8) (by rfl) T.z_min boot_min (da_cons (de_ix (de_nm (pv 0)) (de_c pe_int (fun _ => .int _)) (fun _ _ => rfl)) (da_cons (de_ix (de_nm (pv 1)) (de_c pe_int (fun _ => .int _)) (fun _ _ => rfl)) da_nil))) (da_cons (de_callB (cd_mx (by rfl) hr.u8) (by rfl) T.z_max boot_max (da_cons (de_ix (de_nm (pv 0)) (de_c pe_int (fun _ => .int _)) (fun _ _ => rfl)) (da_cons (de_ix (de_nm (pv 1)) (de_c pe_int (fun _ => .int _)) (fun _ _ => rfl)) da_nil))) da_nil))) da_nil))))) (dss_one (ds_ret (de_c pe_bl (fun _ => .bl _)))) dss_nil) (dss_cons (ds_set (i := 3) (ps_set (i := 3) sc__law_two_right.nd rfl (Or.inl rfl)) (de_lst (da_cons (de_cmp (od_le hr.u0) (de_nm (pv 0)) (de_nm (pv 1)) (nomark _)) (da_cons (de_cmp (od_lt hr.u0) (de_nm (pv 0)) (de_nm (pv 1)) (nomark _)) (da_cons (de_cmp (od_ge hr.u0) (de_nm (pv 0)) (de_nm (pv 1)) (nomark _)) (da_cons (de_cmp (od_gt hr.u0) (de_nm (pv 0)) (de_nm (pv 1)) (nomark _)) (da_cons (de_cmp (od_eq hr.u64) (de_nm (pv 0)) (de_nm (pv 1)) (nomark _)) (da_cons (de_cmp (od_ne hr.u64) (de_nm (pv 0)) (de_nm (pv 1)) (nomark _)) da_nil)))))))) (dss_cons (ds_if (dt_cmp (od_ne hr.u64) (de_callB (cd_repr hr) (by rfl) T.z_repr boot_repr (da_cons (de_lst (da_cons (de_cmpX (ox_cmp (c := 0) (by decide) T.o_Span___le__ (ok_Span___le__ T).any (hr.mono (show 1 ≤ _ by decide)) T.b_Span___le__ takesG) (de_nm (pv 4)) (de_nm (pv 5)) (nomark _)) (da_cons (de_cmpX (ox_cmp (c := 0) (by decide) T.o_Span___lt__ (ok_Span___lt__ T).any (hr.mono (show 1 ≤ _ by decide)) T.b_Span___lt__ takesG) (de_nm (pv 4)) (de_nm (pv 5)) (nomark _)) (da_cons (de_cmpX (ox_cmp (c := 0) (by decide) T.o_Span___ge__ (ok_Span___ge__ T).any (hr.mono (show 1 ≤ _ by decide)) T.b_Span___ge__ takesG) (de_nm (pv 4)) (de_nm (pv 5)) (nomark _)) (da_cons (de_cmpX (ox_cmp (c := 0) (by decide) T.o_Span___gt__ (ok_Span___gt__ T).any (hr.mono (show 1 ≤ _ by decide)) T.b_Span___gt__ takesG) (de_nm (pv 4)) (de_nm (pv 5)) (nomark _)) (da_cons (de_cmpX (ox_cmp (c := 0) (by decide) T.o_Span___eq__ (ok_Span___eq__ T).any (hr.mono (show 1 ≤ _ by decide)) T.b_Span___eq__ takesG) (de_nm (pv 4)) (de_nm (pv 5)) (nomark _)) (da_cons (de_cmpX (ox_ne (c := 0) T.ne_Span T.o_Span___eq__ T.ob_Span (ok_Span___eq__ T).any (hr.mono (show 2 ≤ _ by decide)) T.b_Span___eq__ takesG) (de_nm (pv 4)) (de_nm (pv 5)) (nomark _)) da_nil))))))) da_nil)) (de_callB (cd_repr hr) (by rfl) T.z_repr boot_repr (da_cons (de_nm (pv 3)) da_nil)) (nomark _)) (dss_one (ds_ret (de_c pe_bl (fun _ => .bl _)))) dss_nil) (dss_cons (ds_set (i := 3) (ps_set (i := 3) sc__law_two_right.nd rfl (Or.inl rfl)) (de_lst (da_cons (de_cmp (od_eq hr.u64) (de_tup (da_cons (de_nm (pv 6)) (da_cons (de_nm (pv 7)) da_nil))) (de_nm (pv 0)) (nomark _)) (da_cons (de_cmp (od_eq hr.u64) (de_tup (da_cons (de_nm (pv 6)) (da_cons (de_nm (pv 7)) da_nil))) (de_nm (pv 1)) (nomark _)) da_nil)))) (dss_cons (ds_if (dt_cmp (od_ne hr.u64) (de_callB (cd_repr hr) (by rfl) T.z_repr boot_repr (da_cons (de_lst (da_cons (de_meth (c := 0) T.c_Span T.me_Span_is_within rfl (ok_Span_is_within T).any (hr.mono (show 2 ≤ _ by decide)) T.b_Span_is_within takesG (de_nm (pv 4)) (da_cons (de_nm (pv 5)) da_nil)) (da_cons (de_methK (c := 0) T.c_Span T.me_Span_is_within rfl (ok_Span_is_within T).any (hr.mono (show 2 ≤ _ by decide)) T.bk_Span_is_within takesG (de_nm (pv 5)) (dk_cons (de_nm (pv 4)) dk_nil)) da_nil))) da_nil)) (de_callB (cd_repr hr) (by rfl) T.z_repr boot_repr (da_cons (de_nm (pv 3)) da_nil)) (nomark _)) (dss_one (ds_ret (de_c pe_bl (fun _ => .bl _)))) dss_nil) (dss_one (ds_ret (de_and (de_call (ok__law_is T) (hr.mono (show 4 ≤ _ by decide)) (by rfl) T.m__law_is T.F__law_is.kp T.b__law_is takesG (da_cons (de_nm (pv 4)) (da_cons (de_nm (pv 0)) da_nil))) (de_one (de_call (ok__law_is T) (hr.mono (show 4 ≤ _ by decide)) (by rfl) T.m__law_is T.F__law_is.kp T.b__law_is takesG (da_cons (de_nm (pv 5)) (da_cons (de_nm (pv 1)) da_nil))))))))))))))))), ?_⟩)
  obtain ⟨l, h, l2, h2, rfl, le1, le2, ⟨z1, z2, z3, z4⟩, q⟩ := h
  have n2 : 2 ≤ sizeLine := small2
  have n4 : 4 ≤ sizeLine := smallN (by decide)
  have n6 : 6 ≤ sizeLine := smallN (by decide)
  have sm : ∀ {i : Int}, -(10 ^ 61) ≤ i → i ≤ 10 ^ 61 → Few i := fun a b => by
    unfold Few
    exact Nat.lt_of_le_of_lt (show Int.natAbs _ ≤ 10 ^ 61 by omega) (by decide +kernel)
  obtain ⟨y1, y2⟩ := z1
  obtain ⟨y3, y4⟩ := z2
  obtain ⟨y5, y6⟩ := z3
  obtain ⟨y7, y8⟩ := z4
  have f1 : Few l := sm (by omega) (by omega)
  have f2 : Few h := sm (by omega) (by omega)
  have f3 : Few l2 := sm (by omega) (by omega)
  have f4 : Few h2 := sm (by omega) (by omega)
  have f5 : Few (min l l2) := sm (by omega) (by omega)
  have f6 : Few (max h h2) := sm (by omega) (by omega)
  have f7 : Few (max h h2 - min l l2) := sm (by omega) (by omega)
  have f8 : Few (max l l2) := sm (by omega) (by omega)
  have f9 : Few (min h h2) := sm (by omega) (by omega)
  have g0 : Few (min h h2 - max l l2) := sm (by omega) (by omega)
  have g1 : Few (h - l) := sm (by omega) (by omega)
  have g2 : Few (h2 - l2) := sm (by omega) (by omega)
  have zz : Sm l ∧ Sm h ∧ Sm l2 ∧ Sm h2 := ⟨⟨y1, y2⟩, ⟨y3, y4⟩, ⟨y5, y6⟩, ⟨y7, y8⟩⟩
  have ak : alikes [.int l, .int h] [.int l2, .int h2] = true := rfl
  have ek : ∀ i j k n : Int, eqOk (.tup [.int i, .int j]) (.tup [.int k, .int n]) = true := fun _ _ _ _ => rfl
  have ra := okRa f1 f2 f3 f4
  have w1 : (decide (max l l2 = l) && decide (min h h2 = h)) = (decide (l2 ≤ l) && decide (h ≤ h2)) := by
    rw [Bool.eq_iff_iff]
    simp only [Bool.and_eq_true, decide_eq_true_eq]
    omega
  have w2 : (decide (max l l2 = l2) && decide (min h h2 = h2)) = (decide (l ≤ l2) && decide (h2 ≤ h)) := by
    rw [Bool.eq_iff_iff]
    simp only [Bool.and_eq_true, decide_eq_true_eq]
    omega
  by_cases c : aprt l h l2 h2
  · have c1 : min h h2 < max l l2 := by unfold aprt at c; omega
    have c2 : ¬ max l l2 ≤ min h h2 := by omega
    simp only [sSeq, sAsg, gNm, sRet, sRetN, bD, xD, nmD, startD, sIf, DL.tB, DL.tNot, DL.tAnd, DL.tOr, eAnd, eOr, eNot, eIf, isB, sDrop, sNext, sPar, eTup, eLst, eCall, eCB, aNil, aCons, eFld, eFldM, eProp, eMeth, eMethK, eNegO, eMake, eMakeK, eUn, sFldM, addI, addS, addL, subI, negI, mulI, mulL, divI, modI, powI, eqI, neI, eqS, neS, lenL, lenT, lenC, absI, intI, strI, repX, tupL, dmI, it0, it1, itL0, itL1, itL2, itL3, itL4, itL5, itL6, itR, eStat, oNone, oSome, eSl, gTp2', gIx, eLstM, eApp, rSame, rInt, rIntL, DL.rIn, DL.rNe, eFmt, eJs, eDic0, sNever, mx2, mn2, ltI, leI, gtI, geI, eChain, decide_eq_true_eq, List.map_cons, List.map_nil, List.length_cons, List.length_nil, Nat.reduceAdd, Nat.reduceSub, List.replicate_succ, List.replicate_zero, List.cons_append, List.nil_append, List.getElem?_cons_zero, List.getElem?_cons_succ, Option.some.injEq, exists_eq_left', List.set_cons_zero, List.set_cons_succ, if_true, if_false, Bool.false_eq_true, reduceIte, and_self, true_and, D.bl.injEq, D.ob.injEq, D.int.injEq, D.str.injEq, D.tup.injEq, exists_and_left, exists_eq_left, reduceCtorEq, and_true, lk_low, lk_high, exists_eq', and_self, made_eq, get_eq, two_eq, int_eq, neg_eq, txt_eq, is_eq, shared_eq, cont_eq, and_eq, wr_eq, mv_eq, pick1, pick2, leT, ltT, geT, gtT, eqT, neT, cxK, isi_eq T, Bool.not_true, Bool.not_false]
    simp only [c, c1, c2, if_true, if_false, decide_true, Bool.not_true, Bool.false_eq_true, le1, le2, zz, n2, n4, n6, ra, f1, f2, f3, f4, f5, f6, f7, ak, ek, okR6, okR2, g1, g2, eqB2, w1, w2, true_and, and_true]
    exact q
  · have c1 : ¬ min h h2 < max l l2 := by unfold aprt at c; omega
    have c2 : max l l2 ≤ min h h2 := by omega
    simp only [sSeq, sAsg, gNm, sRet, sRetN, bD, xD, nmD, startD, sIf, DL.tB, DL.tNot, DL.tAnd, DL.tOr, eAnd, eOr, eNot, eIf, isB, sDrop, sNext, sPar, eTup, eLst, eCall, eCB, aNil, aCons, eFld, eFldM, eProp, eMeth, eMethK, eNegO, eMake, eMakeK, eUn, sFldM, addI, addS, addL, subI, negI, mulI, mulL, divI, modI, powI, eqI, neI, eqS, neS, lenL, lenT, lenC, absI, intI, strI, repX, tupL, dmI, it0, it1, itL0, itL1, itL2, itL3, itL4, itL5, itL6, itR, eStat, oNone, oSome, eSl, gTp2', gIx, eLstM, eApp, rSame, rInt, rIntL, DL.rIn, DL.rNe, eFmt, eJs, eDic0, sNever, mx2, mn2, ltI, leI, gtI, geI, eChain, decide_eq_true_eq, List.map_cons, List.map_nil, List.length_cons, List.length_nil, Nat.reduceAdd, Nat.reduceSub, List.replicate_succ, List.replicate_zero, List.cons_append, List.nil_append, List.getElem?_cons_zero, List.getElem?_cons_succ, Option.some.injEq, exists_eq_left', List.set_cons_zero, List.set_cons_succ, if_true, if_false, Bool.false_eq_true, reduceIte, and_self, true_and, D.bl.injEq, D.ob.injEq, D.int.injEq, D.str.injEq, D.tup.injEq, exists_and_left, exists_eq_left, reduceCtorEq, and_true, lk_low, lk_high, exists_eq', and_self, made_eq, get_eq, two_eq, int_eq, neg_eq, txt_eq, is_eq, shared_eq, cont_eq, and_eq, wr_eq, mv_eq, pick1, pick2, leT, ltT, geT, gtT, eqT, neT, cxK, isi_eq T, Bool.not_true, Bool.not_false]
    simp only [c, c1, c2, if_true, if_false, decide_true, Bool.not_true, Bool.false_eq_true, le1, le2, zz, n2, n4, n6, ra, f1, f2, f3, f4, f5, f6, f7, f8, f9, g0, ak, ek, okR6, okR2, g1, g2, eqB2, w1, w2, is_eq, true_and, and_true, D.bl.injEq, exists_eq_left']
    exact q
theorem ok__law_within_right (T : Tx K mg a d) : FnG false true P w K mg base 6 a.f__law_within_right d.f__law_within_right ["_law_bounds_here"] (spL (G a) s_wr) := by
  refine fn_okG T.F__law_within_right sc__law_within_right (fun _ _ _ _ ⟨_, _, e, _⟩ => len1 e) (fun cdv A outer s H E xs m Q x hr h => ⟨_, (dss_cons (ds_asg (de_tup (da_cons (de_call (ok__law_made T).any (hr.mono (show 5 ≤ _ by decide)) (by rfl) T.m__law_made T.F__law_made.kp T.b__law_made takesG (da_cons (de_nm (pv 0)) da_nil)) (da_cons (de_nm (pv 0)) da_nil))) (dg_tup (n := 2) rfl (dgs_cons (dg_name (pg_name (i := 3) sc__law_within_right.nd rfl (Or.inr rfl))) (dgs_cons (dg_tup (n := 2) rfl (dgs_cons (dg_name (pg_name (i := 4) sc__law_within_right.nd rfl (Or.inr rfl))) (dgs_cons (dg_name (pg_name (i := 5) sc__law_within_right.nd rfl (Or.inr rfl))) dgs_nil))) dgs_nil)))) (dss_cons (ds_set (i := 1) (ps_set (i := 1) sc__law_within_right.nd rfl (Or.inl rfl)) (de_lst (da_cons (de_op od_sub (de_nm (pv 4)) (de_c pe_int (fun _ => .int _))) (da_cons (de_nm (pv 4)) (da_cons (de_op od_div (de_op od_add (de_nm (pv 4)) (de_nm (pv 5))) (de_c pe_int (fun _ => .int _))) (da_cons (de_nm (pv 5)) (da_cons (de_op od_add (de_nm (pv 5)) (de_c pe_int (fun _ => .int _))) (da_cons (de_op od_sub (de_c pe_int (fun _ => .int _)) (de_nm (pv 4))) da_nil)))))))) (dss_cons (ds_if (dt_cmp (od_ne hr.u64) (de_callB (cd_repr hr) (by rfl) T.z_repr boot_repr (da_cons (de_lc (own := [("_law_near", 6)]) (tgt := .one 6) rfl sc__law_within_right.nd (by decide) (di_list (de_nm (pv 1))) (blkOk_by (own := [("_law_near", 6)]) (N := N__law_within_right) (sc := defScope s__law_within_right) (by decide +kernel)) (fun _ _ _ _ _ => pg_name (i := 6) sc__law_within_right.nd rfl (Or.inl rfl)) (fun _ _ _ _ _ => dts_nil) (fun _ _ _ _ _ => (de_cmpX (ox_in (c := 0) T.o_Span___contains__ (ok_Span___contains__ T).any (hr.mono (show 2 ≤ _ by decide)) T.b_Span___contains__ takesF) (de_nm (pv 6)) (de_nm (pv 3)) (by with_unfolding_all rfl)))) da_nil)) (de_callB (cd_repr hr) (by rfl) T.z_repr boot_repr (da_cons (de_lc (own := [("_law_near", 6)]) (tgt := .one 6) rfl sc__law_within_right.nd (by decide) (di_list (de_nm (pv 1))) (blkOk_by (own := [("_law_near", 6)]) (N := N__law_within_right) (sc := defScope s__law_within_right) (by decide +kernel)) (fun _ _ _ _ _ => pg_name (i := 6) sc__law_within_right.nd rfl (Or.inl rfl)) (fun _ _ _ _ _ => dts_nil) (fun _ _ _ _ _ => (de_chain (od_le hr.u0) (od_le hr.u0) (de_nm (pv 4)) (de_nm (pv 6)) (de_nm (pv 5))))) da_nil)) (nomark _)) (dss_one (ds_ret (de_c pe_bl (fun _ => .bl _)))) dss_nil) (dss_cons (ds_set (i := 2) (ps_set (i := 2) sc__law_within_right.nd rfl (Or.inl rfl)) (de_lst (da_cons (de_c pe_non (fun _ => .non)) (da_cons (de_c pe_bl (fun _ => .bl _)) (da_cons (de_c pe_bl (fun _ => .bl _)) (da_cons (de_callTy (cd_str) (by rfl) T.z_str boot_str (da_cons (de_nm (pv 4)) da_nil)) (da_cons (de_tup (da_cons (de_nm (pv 4)) da_nil)) (da_cons (de_lst (da_cons (de_nm (pv 4)) da_nil)) (da_cons (de_tup (da_cons (de_nm (pv 4)) (da_cons (de_nm (pv 5)) da_nil))) (da_cons de_dic0 (da_cons (de_c pe_str (fun _ => .str _)) (da_cons (de_nm (pv 3)) da_nil)))))))))))) (dss_one (ds_ret (de_cmp (od_eq hr.u64) (de_callB (cd_repr hr) (by rfl) T.z_repr boot_repr (da_cons (de_lc (own := [("_law_thing", 7)]) (tgt := .one 7) rfl sc__law_within_right.nd (by decide) (di_list (de_nm (pv 2))) (blkOk_by (own := [("_law_thing", 7)]) (N := N__law_within_right) (sc := defScope s__law_within_right) (by decide +kernel)) (fun _ _ _ _ _ => pg_name (i := 7) sc__law_within_right.nd rfl (Or.inl rfl)) (fun _ _ _ _ _ => dts_nil) (fun _ _ _ _ _ => (de_cmpX (ox_in (c := 0) T.o_Span___contains__ (ok_Span___contains__ T).any (hr.mono (show 2 ≤ _ by decide)) T.b_Span___contains__ takesF) (de_nm (pv 7)) (de_nm (pv 3)) (by with_unfolding_all rfl)))) da_nil)) (de_callB (cd_repr hr) (by rfl) T.z_repr boot_repr (da_cons (de_op od_mul (de_lst (da_cons (de_c pe_bl (fun _ => .bl _)) da_nil)) (de_callB (cd_len) (by rfl) T.z_len boot_len (da_cons (de_nm (pv 2)) da_nil))) da_nil)) (nomark _)))))))), ?_⟩)
  obtain ⟨l, h, rfl, le1, ⟨⟨y1, y2⟩, ⟨y3, y4⟩⟩, q⟩ := h
  have sm : ∀ {i : Int}, -(10 ^ 61) ≤ i → i ≤ 10 ^ 61 → Few i := fun a b => by
    unfold Few
    exact Nat.lt_of_le_of_lt (show Int.natAbs _ ≤ 10 ^ 61 by omega) (by decide +kernel)
  simp only [sSeq, sAsg, gNm, sRet, sRetN, bD, xD, nmD, startD, sIf, DL.tB, DL.tNot, DL.tAnd, DL.tOr, eAnd, eOr, eNot, eIf, isB, sDrop, sNext, sPar, eTup, eLst, eCall, eCB, aNil, aCons, eFld, eFldM, eProp, eMeth, eMethK, eNegO, eMake, eMakeK, eUn, sFldM, addI, addS, addL, subI, negI, mulI, mulL, divI, modI, powI, eqI, neI, eqS, neS, lenL, lenT, lenC, absI, intI, strI, repX, tupL, dmI, it0, it1, itL0, itL1, itL2, itL3, itL4, itL5, itL6, itR, eStat, oNone, oSome, eSl, gTp2', gIx, eLstM, eApp, rSame, rInt, rIntL, DL.rIn, DL.rNe, eFmt, eJs, eDic0, sNever, mx2, mn2, ltI, leI, gtI, geI, eChain, decide_eq_true_eq, List.map_cons, List.map_nil, List.length_cons, List.length_nil, Nat.reduceAdd, Nat.reduceSub, List.replicate_succ, List.replicate_zero, List.cons_append, List.nil_append, List.getElem?_cons_zero, List.getElem?_cons_succ, Option.some.injEq, exists_eq_left', List.set_cons_zero, List.set_cons_succ, if_true, if_false, Bool.false_eq_true, reduceIte, and_self, true_and, D.bl.injEq, D.ob.injEq, D.int.injEq, D.str.injEq, D.tup.injEq, exists_and_left, exists_eq_left, reduceCtorEq, and_true, lk_low, lk_high, exists_eq', and_self, made_eq, get_eq, two_eq, int_eq, neg_eq, txt_eq, is_eq, shared_eq, cont_eq, and_eq, wr_eq, mv_eq, pick1, pick2, leT, ltT, geT, gtT, eqT, neT, cxK, isi_eq T, Bool.not_true, Bool.not_false]
  have hin : ∀ (i : Int) (m : M) (Q : DK), Q (.bl (inS l h (.int i))) m → (if l ≤ i then Q (.bl (decide (i ≤ h))) m else Q (.bl false) m) := fun i m Q qq => by
    by_cases c : l ≤ i
    · rw [if_pos c]
      have e : inS l h (.int i) = decide (i ≤ h) := by show (decide (l ≤ i) && decide (i ≤ h)) = _; rw [decide_eq_true c]; rfl
      rwa [e] at qq
    · rw [if_neg c]
      have e : inS l h (.int i) = false := by show (decide (l ≤ i) && decide (i ≤ h)) = _; rw [decide_eq_false c]; rfl
      rwa [e] at qq
  refine ⟨le1, small2, ⟨by decide, by decide +kernel⟩, smallN (by decide), _, rfl, (show 6 < sizeLine by decide), lc_map (f := fun v => .bl (inS l h v)) (fun d hd m Q qq => ?_) [] _ ⟨okRb (bs := [_, _, _, _, _, _]) (show 6 ≤ 1000 by decide), _, rfl, (show 6 < sizeLine by decide), lc_map (f := fun v => .bl (inS l h v)) (fun d hd m Q qq => ?_) [] _ ⟨okRb (bs := [_, _, _, _, _, _]) (show 6 ≤ 1000 by decide), ?_⟩⟩⟩
  · have ok : okV d := by simp at hd; rcases hd with rfl | rfl | rfl | rfl | rfl | rfl <;> exact True.intro
    exact ⟨d, rfl, _, rfl, ⟨_, rfl⟩, l, h, d, rfl, ok, _, rfl, qq⟩
  · obtain ⟨i, rfl⟩ : ∃ i, d = .int i := by simp at hd; rcases hd with rfl | rfl | rfl | rfl | rfl | rfl <;> exact ⟨_, rfl⟩
    refine ⟨_, rfl, _, rfl, _, rfl, ?_⟩
    have := hin i m Q qq
    by_cases c : l ≤ i
    · rw [if_pos c] at this
      rw [decide_eq_true c]
      exact iteT ⟨_, rfl, this⟩
    · rw [if_neg c] at this
      rw [decide_eq_false c]
      exact iteF this
  · rw [decide_eq_true (p := shD _ = shD _) rfl]
    refine iteF ⟨sm (by omega) (by omega), smallN (by decide), smallN (by decide), small2, smallN (by decide), ?_⟩
    refine ⟨_, rfl, (show 10 < sizeLine by decide), lc_map (f := fun v => .bl (inS l h v)) (fun d hd m Q qq => ?_) [] _ ⟨okRb (bs := [_, _, _, _, _, _, _, _, _, _]) (show 10 ≤ 1000 by decide), smallN (by decide), by decide, okRb (bs := [_, _, _, _, _, _, _, _, _, _]) (show 10 ≤ 1000 by decide), ?_⟩⟩
    · have ok : okV d := by simp at hd; rcases hd with rfl | rfl | rfl | rfl | rfl | rfl | rfl | rfl | rfl | rfl <;> first | exact True.intro | exact rfl
      exact ⟨d, rfl, _, rfl, ⟨_, rfl⟩, l, h, d, rfl, ok, _, rfl, qq⟩
    · have e : ∀ (x y : Str) (_ : x = y), Q (.bl (decide (x = y))) m := fun x y e => by rw [decide_eq_true e]; exact q
      exact e _ _ rfl
theorem ok__law_moved_right (T : Tx K mg a d) : FnG false true P w K mg base 6 a.f__law_moved_right d.f__law_moved_right ["_law_bounds_here", "_law_more"] (spL (G a) s_mv) := by
  refine fn_okG T.F__law_moved_right sc__law_moved_right (fun _ _ _ _ ⟨_, _, _, e, _⟩ => len2 e) (fun cdv A outer s H E xs m Q x hr h => ⟨_, (dss_cons (ds_asg (de_tup (da_cons (de_call (ok__law_made T).any (hr.mono (show 5 ≤ _ by decide)) (by rfl) T.m__law_made T.F__law_made.kp T.b__law_made takesG (da_cons (de_nm (pv 0)) da_nil)) (da_cons (de_nm (pv 0)) da_nil))) (dg_tup (n := 2) rfl (dgs_cons (dg_name (pg_name (i := 3) sc__law_moved_right.nd rfl (Or.inl rfl))) (dgs_cons (dg_tup (n := 2) rfl (dgs_cons (dg_name (pg_name (i := 4) sc__law_moved_right.nd rfl (Or.inl rfl))) (dgs_cons (dg_name (pg_name (i := 5) sc__law_moved_right.nd rfl (Or.inl rfl))) dgs_nil))) dgs_nil)))) (dss_cons (ds_set (i := 2) (ps_set (i := 2) sc__law_moved_right.nd rfl (Or.inl rfl)) (de_tup (da_cons (de_op od_add (de_nm (pv 4)) (de_nm (pv 1))) (da_cons (de_op od_add (de_nm (pv 5)) (de_nm (pv 1))) da_nil)))) (dss_cons (ds_if (dw_pt (dw_or (dt_not (dt_val (de_call (ok__law_is T) (hr.mono (show 4 ≤ _ by decide)) (by rfl) T.m__law_is T.F__law_is.kp T.b__law_is takesG (da_cons (de_opX (ox_int (c := 0) T.o_Span___add__ T.sf_Span T.oi_Span___add__ (ok_Span___add__ T).any (hr.mono (show 5 ≤ _ by decide)) T.b_Span___add__ takesG) (de_nm (pv 3)) (de_nm (pv 1))) (da_cons (de_nm (pv 2)) da_nil))))) (dw_or1 (dt_not (dt_val (de_call (ok__law_is T) (hr.mono (show 4 ≤ _ by decide)) (by rfl) T.m__law_is T.F__law_is.kp T.b__law_is takesG (da_cons (de_opX (ox_radd (c := 0) T.o_Span___add__.at_ T.o_Span___radd__ T.sf_Span T.ni_Span (ok_Span___radd__ T).any (hr.mono (show 5 ≤ _ by decide)) T.b_Span___radd__ takesG) (de_nm (pv 1)) (de_nm (pv 3))) (da_cons (de_nm (pv 2)) da_nil)))))))) (dss_one (ds_ret (de_c pe_bl (fun _ => .bl _)))) dss_nil) (dss_cons (ds_if (dw_pt (dw_or (dt_not (dt_val (de_call (ok__law_is T) (hr.mono (show 4 ≤ _ by decide)) (by rfl) T.m__law_is T.F__law_is.kp T.b__law_is takesG (da_cons (de_opX (ox_int (c := 0) T.o_Span___sub__ T.sf_Span T.oi_Span___sub__ (ok_Span___sub__ T).any (hr.mono (show 5 ≤ _ by decide)) T.b_Span___sub__ takesG) (de_nm (pv 3)) (de_nm (pv 1))) (da_cons (de_tup (da_cons (de_op od_sub (de_nm (pv 4)) (de_nm (pv 1))) (da_cons (de_op od_sub (de_nm (pv 5)) (de_nm (pv 1))) da_nil))) da_nil))))) (dw_or1 (dt_not (dt_val (de_call (ok__law_is T) (hr.mono (show 4 ≤ _ by decide)) (by rfl) T.m__law_is T.F__law_is.kp T.b__law_is takesG (da_cons (de_negO (c := 0) T.o_Span___neg__ (ok_Span___neg__ T).any (hr.mono (show 5 ≤ _ by decide)) T.b_Span___neg__ takesG (de_nm (pv 3))) (da_cons (de_tup (da_cons (de_op od_sub (de_c pe_int (fun _ => .int _)) (de_nm (pv 5))) (da_cons (de_op od_sub (de_c pe_int (fun _ => .int _)) (de_nm (pv 4))) da_nil))) da_nil)))))))) (dss_one (ds_ret (de_c pe_bl (fun _ => .bl _)))) dss_nil) (dss_one (ds_ret (de_and (de_call (ok__law_is T) (hr.mono (show 4 ≤ _ by decide)) (by rfl) T.m__law_is T.F__law_is.kp T.b__law_is takesG (da_cons (de_makeK (c := 0) (ix := [1, 0]) T.M_Span (ok_Span___init__ T).any (hr.mono (show 4 ≤ _ by decide)) (by rfl) T.m_Span T.bk_Span___init__ takesG (dk_cons (de_nm (pv 5)) (dk_cons (de_nm (pv 4)) dk_nil))) (da_cons (de_nm (pv 0)) da_nil))) (de_one (de_call (ok__law_is T) (hr.mono (show 4 ≤ _ by decide)) (by rfl) T.m__law_is T.F__law_is.kp T.b__law_is takesG (da_cons (de_nm (pv 3)) (da_cons (de_nm (pv 0)) da_nil))))))))))), ?_⟩)
  obtain ⟨l, h, n, rfl, le1, ⟨⟨y1, y2⟩, ⟨y3, y4⟩, ⟨y5, y6⟩⟩, q⟩ := h
  have sm : ∀ {i : Int}, -(10 ^ 61) ≤ i → i ≤ 10 ^ 61 → Few i := fun a b => by
    unfold Few
    exact Nat.lt_of_le_of_lt (show Int.natAbs _ ≤ 10 ^ 61 by omega) (by decide +kernel)
  simp only [sSeq, sAsg, gNm, sRet, sRetN, bD, xD, nmD, startD, sIf, DL.tB, DL.tNot, DL.tAnd, DL.tOr, eAnd, eOr, eNot, eIf, isB, sDrop, sNext, sPar, eTup, eLst, eCall, eCB, aNil, aCons, eFld, eFldM, eProp, eMeth, eMethK, eNegO, eMake, eMakeK, eUn, sFldM, addI, addS, addL, subI, negI, mulI, mulL, divI, modI, powI, eqI, neI, eqS, neS, lenL, lenT, lenC, absI, intI, strI, repX, tupL, dmI, it0, it1, itL0, itL1, itL2, itL3, itL4, itL5, itL6, itR, eStat, oNone, oSome, eSl, gTp2', gIx, eLstM, eApp, rSame, rInt, rIntL, DL.rIn, DL.rNe, eFmt, eJs, eDic0, sNever, mx2, mn2, ltI, leI, gtI, geI, eChain, decide_eq_true_eq, List.map_cons, List.map_nil, List.length_cons, List.length_nil, Nat.reduceAdd, Nat.reduceSub, List.replicate_succ, List.replicate_zero, List.cons_append, List.nil_append, List.getElem?_cons_zero, List.getElem?_cons_succ, Option.some.injEq, exists_eq_left', List.set_cons_zero, List.set_cons_succ, if_true, if_false, Bool.false_eq_true, reduceIte, and_self, true_and, D.bl.injEq, D.ob.injEq, D.int.injEq, D.str.injEq, D.tup.injEq, exists_and_left, exists_eq_left, reduceCtorEq, and_true, lk_low, lk_high, exists_eq', and_self, made_eq, get_eq, two_eq, int_eq, neg_eq, txt_eq, is_eq, shared_eq, cont_eq, and_eq, wr_eq, mv_eq, pick1, pick2, leT, ltT, geT, gtT, eqT, neT, cxK, isi_eq T, Bool.not_true, Bool.not_false]
  have f : ∀ {i : Int}, -(10 ^ 61) ≤ i ∧ i ≤ 10 ^ 61 → Few i := fun a => sm a.1 a.2
  refine ⟨le1, small2, small2, le1, f (by omega), f (by omega), f (by omega), le1, f (by omega), f (by omega), f (by omega), le1, small2, f (by omega), f (by omega), f (by omega), le1, small2, by omega, by omega, f (by omega), f (by omega), f (by omega), mk_span le1 ?_⟩
  exact ⟨l, h, rfl, f (by omega), f (by omega), f (by omega), _, rfl, iteT ⟨f (by omega), f (by omega), f (by omega), q⟩⟩
theorem ok__law_around_right (T : Tx K mg a d) : FnG false true P w K mg base 6 a.f__law_around_right d.f__law_around_right ["_law_pot_here", "_law_base"] (spL (G a) s_ar) := by
  refine fn_okG T.F__law_around_right sc__law_around_right (fun _ _ _ _ ⟨_, _, e, _⟩ => len2 e) (fun cdv A outer s H E xs m Q x hr h => ⟨_, (dss_cons (ds_setLc (i := 2) (own := [("_law_turn", 6)]) (tgt := .one 6) rfl sc__law_around_right.nd rfl rfl (sw_true rfl rfl rfl (by decide +kernel)) (by decide) (di_range1 (by rfl) T.z_range (da_cons (de_c pe_int (fun _ => .int _)) da_nil)) (blkOk_by (own := [("_law_turn", 6)]) (N := N__law_around_right) (sc := defScope s__law_around_right) (by decide +kernel)) (fun _ _ _ _ _ => pg_name (i := 6) sc__law_around_right.nd rfl (Or.inl rfl)) (fun _ _ _ _ _ => dts_nil) (fun _ _ _ _ _ => (de_op od_sub (de_op od_add (de_nm (pv 1)) (de_call (ok__law_draw T).any (hr.mono (show 1 ≤ _ by decide)) (by rfl) T.m__law_draw T.F__law_draw.kp T.b__law_draw takesF (da_cons (de_nm (pv 0)) (da_cons (de_c pe_int (fun _ => .int _)) da_nil)))) (de_c pe_int (fun _ => .int _))))) (dss_cons (ds_set (i := 3) (ps_set (i := 3) sc__law_around_right.nd rfl (Or.inl rfl)) (de_lstM (da_cons (de_static T.s_Span_around (ok_Span_around T) (hr.mono (show 5 ≤ _ by decide)).r (by rfl) T.m_Span takesG (da_cons (de_ix (de_nm (pv 2)) (de_c pe_int (fun _ => .int _)) (fun _ _ => rfl)) da_nil)) (da_cons (de_static T.s_Span_around (ok_Span_around T) (hr.mono (show 5 ≤ _ by decide)).r (by rfl) T.m_Span takesG (da_cons (de_ix (de_nm (pv 2)) (de_c pe_int (fun _ => .int _)) (fun _ _ => rfl)) (da_cons (de_ix (de_nm (pv 2)) (de_c pe_int (fun _ => .int _)) (fun _ _ => rfl)) da_nil))) (da_cons (de_static T.s_Span_around (ok_Span_around T) (hr.mono (show 5 ≤ _ by decide)).r (by rfl) T.m_Span takesG (da_cons (de_ix (de_nm (pv 2)) (de_c pe_int (fun _ => .int _)) (fun _ _ => rfl)) (da_cons (de_ix (de_nm (pv 2)) (de_c pe_int (fun _ => .int _)) (fun _ _ => rfl)) (da_cons (de_ix (de_nm (pv 2)) (de_c pe_int (fun _ => .int _)) (fun _ _ => rfl)) da_nil)))) da_nil))))) (dss_cons (ds_expr (de_append (de_nm (pv 3)) (de_static T.s_Span_around (ok_Span_around T) (hr.mono (show 5 ≤ _ by decide)).r (by rfl) T.m_Span takesG (da_cons (de_ix (de_nm (pv 2)) (de_c pe_int (fun _ => .int _)) (fun _ _ => rfl)) (da_cons (de_ix (de_nm (pv 2)) (de_c pe_int (fun _ => .int _)) (fun _ _ => rfl)) (da_cons (de_ix (de_nm (pv 2)) (de_c pe_int (fun _ => .int _)) (fun _ _ => rfl)) (da_cons (de_ix (de_nm (pv 2)) (de_c pe_int (fun _ => .int _)) (fun _ _ => rfl)) da_nil))))))) (dss_freeze 3 (dss_cons (ds_set (i := 4) (ps_set (i := 4) sc__law_around_right.nd rfl (Or.inl rfl)) (de_static T.s_Span_around (ok_Span_around T) (hr.mono (show 5 ≤ _ by decide)).r (by rfl) T.m_Span takesG (da_cons (de_ix (de_nm (pv 2)) (de_c pe_int (fun _ => .int _)) (fun _ _ => rfl)) (da_cons (de_ix (de_nm (pv 2)) (de_c pe_int (fun _ => .int _)) (fun _ _ => rfl)) (da_cons (de_ix (de_nm (pv 2)) (de_c pe_int (fun _ => .int _)) (fun _ _ => rfl)) (da_cons (de_ix (de_nm (pv 2)) (de_c pe_int (fun _ => .int _)) (fun _ _ => rfl)) (da_cons (de_ix (de_nm (pv 2)) (de_c pe_int (fun _ => .int _)) (fun _ _ => rfl)) (da_cons (de_ix (de_nm (pv 2)) (de_c pe_int (fun _ => .int _)) (fun _ _ => rfl)) (da_cons (de_ix (de_nm (pv 2)) (de_c pe_int (fun _ => .int _)) (fun _ _ => rfl)) da_nil))))))))) (dss_cons (ds_if (dt_not (dt_val (de_call (ok__law_is T) (hr.mono (show 4 ≤ _ by decide)) (by rfl) T.m__law_is T.F__law_is.kp T.b__law_is takesG (da_cons (de_nm (pv 4)) (da_cons (de_tup (da_cons (de_callB (cd_mn (by rfl) hr.u8) (by rfl) T.z_min boot_min (da_cons (de_nm (pv 2)) da_nil)) (da_cons (de_callB (cd_mx (by rfl) hr.u8) (by rfl) T.z_max boot_max (da_cons (de_nm (pv 2)) da_nil)) da_nil))) da_nil))))) (dss_one (ds_ret (de_c pe_bl (fun _ => .bl _)))) dss_nil) (dss_cons (ds_for passesG rfl (di_enum (by rfl) T.z_enumerate (da_cons (de_nm (pv 3)) da_nil)) (dg_tup (n := 2) rfl (dgs_cons (dg_name (pg_name (i := 5) sc__law_around_right.nd rfl (Or.inl rfl))) (dgs_cons (dg_name (pg_name (i := 4) sc__law_around_right.nd rfl (Or.inl rfl))) dgs_nil))) (dss_one (ds_if (dt_not (dt_val (de_call (ok__law_is T) (hr.mono (show 4 ≤ _ by decide)) (by rfl) T.m__law_is T.F__law_is.kp T.b__law_is takesG (da_cons (de_nm (pv 4)) (da_cons (de_tup (da_cons (de_callB (cd_mn (by rfl) hr.u8) (by rfl) T.z_min boot_min (da_cons (de_slice (de_nm (pv 2)) do_none (do_some (de_op od_add (de_nm (pv 5)) (de_c pe_int (fun _ => .int _))))) da_nil)) (da_cons (de_callB (cd_mx (by rfl) hr.u8) (by rfl) T.z_max boot_max (da_cons (de_slice (de_nm (pv 2)) do_none (do_some (de_op od_add (de_nm (pv 5)) (de_c pe_int (fun _ => .int _))))) da_nil)) da_nil))) da_nil))))) (dss_one (ds_ret (de_c pe_bl (fun _ => .bl _)))) dss_nil))) (dss_one (ds_ret (de_c pe_bl (fun _ => .bl _))))))))))), ?_⟩)
  obtain ⟨p, b, rfl, hp, ⟨sb1, sb2⟩, q⟩ := h
  have sm : ∀ {i : Int}, -(10 ^ 61) ≤ i → i ≤ 10 ^ 61 → Few i := fun a b => by
    unfold Few
    exact Nat.lt_of_le_of_lt (show Int.natAbs _ ≤ 10 ^ 61 by omega) (by decide +kernel)
  simp only [sSeq, sAsg, gNm, sRet, sRetN, bD, xD, nmD, startD, sIf, DL.tB, DL.tNot, DL.tAnd, DL.tOr, eAnd, eOr, eNot, eIf, isB, sDrop, sNext, sPar, eTup, eLst, eCall, eCB, aNil, aCons, eFld, eFldM, eProp, eMeth, eMethK, eNegO, eMake, eMakeK, eUn, sFldM, addI, addS, addL, subI, negI, mulI, mulL, divI, modI, powI, eqI, neI, eqS, neS, lenL, lenT, lenC, absI, intI, strI, repX, tupL, dmI, it0, it1, itL0, itL1, itL2, itL3, itL4, itL5, itL6, itR, eStat, oNone, oSome, eSl, gTp2', gIx, eLstM, eApp, rSame, rInt, rIntL, DL.rIn, DL.rNe, eFmt, eJs, eDic0, sNever, mx2, mn2, ltI, leI, gtI, geI, eChain, decide_eq_true_eq, List.map_cons, List.map_nil, List.length_cons, List.length_nil, Nat.reduceAdd, Nat.reduceSub, List.replicate_succ, List.replicate_zero, List.cons_append, List.nil_append, List.getElem?_cons_zero, List.getElem?_cons_succ, Option.some.injEq, exists_eq_left', List.set_cons_zero, List.set_cons_succ, if_true, if_false, Bool.false_eq_true, reduceIte, and_self, true_and, D.bl.injEq, D.ob.injEq, D.int.injEq, D.str.injEq, D.tup.injEq, exists_and_left, exists_eq_left, reduceCtorEq, and_true, lk_low, lk_high, exists_eq', and_self, made_eq, get_eq, two_eq, int_eq, neg_eq, txt_eq, is_eq, shared_eq, cont_eq, and_eq, wr_eq, mv_eq, pick1, pick2, leT, ltT, geT, gtT, eqT, neT, cxK, isi_eq T, Bool.not_true, Bool.not_false]
  refine ⟨by decide, (show 7 < sizeLine by decide), lc_st (S := Pst p m) (R := fun y => ∃ i, y = .int i ∧ -(10 ^ 61) / 4 ≤ i ∧ i ≤ 10 ^ 61 / 4) (fun d hd m1 Q s1 qq => ?_) [] _ hp.refl (fun ys m1 hl hys s1 => ?_)⟩
  · refine ⟨_, rfl, _, rfl, p, 9, rfl, by decide, by decide, s1.pot, fun i m2 i0 i9 s2 => ?_⟩
    exact qq _ _ ⟨_, rfl, by omega, by omega⟩ (s1.trans s2)
  · obtain ⟨i0, i1, i2, i3, i4, i5, i6, rfl, e0, e1, e2, e3, e4, e5, e6⟩ : ∃ i0 i1 i2 i3 i4 i5 i6 : Int, ys = [.int i0, .int i1, .int i2, .int i3, .int i4, .int i5, .int i6] ∧ (-(10 ^ 61) / 4 ≤ i0 ∧ i0 ≤ 10 ^ 61 / 4) ∧ (-(10 ^ 61) / 4 ≤ i1 ∧ i1 ≤ 10 ^ 61 / 4) ∧ (-(10 ^ 61) / 4 ≤ i2 ∧ i2 ≤ 10 ^ 61 / 4) ∧ (-(10 ^ 61) / 4 ≤ i3 ∧ i3 ≤ 10 ^ 61 / 4) ∧
        (-(10 ^ 61) / 4 ≤ i4 ∧ i4 ≤ 10 ^ 61 / 4) ∧ (-(10 ^ 61) / 4 ≤ i5 ∧ i5 ≤ 10 ^ 61 / 4) ∧ (-(10 ^ 61) / 4 ≤ i6 ∧ i6 ≤ 10 ^ 61 / 4) := by
      match ys, hl, hys with
      | [a0, a1, a2, a3, a4, a5, a6], _, hys =>
        obtain ⟨i0, rfl, h0⟩ := hys a0 (by simp)
        obtain ⟨i1, rfl, h1⟩ := hys a1 (by simp)
        obtain ⟨i2, rfl, h2⟩ := hys a2 (by simp)
        obtain ⟨i3, rfl, h3⟩ := hys a3 (by simp)
        obtain ⟨i4, rfl, h4⟩ := hys a4 (by simp)
        obtain ⟨i5, rfl, h5⟩ := hys a5 (by simp)
        obtain ⟨i6, rfl, h6⟩ := hys a6 (by simp)
        exact ⟨i0, i1, i2, i3, i4, i5, i6, rfl, h0, h1, h2, h3, h4, h5, h6⟩
    simp only [sSeq, sAsg, gNm, sRet, sRetN, bD, xD, nmD, startD, sIf, DL.tB, DL.tNot, DL.tAnd, DL.tOr, eAnd, eOr, eNot, eIf, isB, sDrop, sNext, sPar, eTup, eLst, eCall, eCB, aNil, aCons, eFld, eFldM, eProp, eMeth, eMethK, eNegO, eMake, eMakeK, eUn, sFldM, addI, addS, addL, subI, negI, mulI, mulL, divI, modI, powI, eqI, neI, eqS, neS, lenL, lenT, lenC, absI, intI, strI, repX, tupL, dmI, it0, it1, itL0, itL1, itL2, itL3, itL4, itL5, itL6, itR, eStat, oNone, oSome, eSl, gTp2', gIx, eLstM, eApp, rSame, rInt, rIntL, DL.rIn, DL.rNe, eFmt, eJs, eDic0, sNever, mx2, mn2, ltI, leI, gtI, geI, eChain, decide_eq_true_eq, List.map_cons, List.map_nil, List.length_cons, List.length_nil, Nat.reduceAdd, Nat.reduceSub, List.replicate_succ, List.replicate_zero, List.cons_append, List.nil_append, List.getElem?_cons_zero, List.getElem?_cons_succ, Option.some.injEq, exists_eq_left', List.set_cons_zero, List.set_cons_succ, if_true, if_false, Bool.false_eq_true, reduceIte, and_self, true_and, D.bl.injEq, D.ob.injEq, D.int.injEq, D.str.injEq, D.tup.injEq, exists_and_left, exists_eq_left, reduceCtorEq, and_true, lk_low, lk_high, exists_eq', and_self, made_eq, get_eq, two_eq, int_eq, neg_eq, txt_eq, is_eq, shared_eq, cont_eq, and_eq, wr_eq, mv_eq, pick1, pick2, leT, ltT, geT, gtT, eqT, neT, cxK, isi_eq T, Bool.not_true, Bool.not_false]
    refine ⟨smallN (by decide), [i0], rfl, by simp, by simp, ?_⟩
    refine ⟨smallN (by decide), [i0, i1], rfl, by simp, by simp, ?_⟩
    refine ⟨smallN (by decide), [i0, i1, i2], rfl, by simp, by simp, ?_⟩
    refine ⟨smallN (by decide), fun r hr => ⟨r, rfl, _, mset_same, ?_⟩⟩
    refine ⟨smallN (by decide), [i0, i1, i2, i3], rfl, by simp, by simp, ?_⟩
    refine ⟨_, mset_same, (show 3 < sizeLine by decide), ?_⟩
    rw [mset_mset]
    refine ⟨r, _, rfl, mset_same, ?_⟩
    rw [mdel_mset hr]
    simp only [sSeq, sAsg, gNm, sRet, sRetN, bD, xD, nmD, startD, sIf, DL.tB, DL.tNot, DL.tAnd, DL.tOr, eAnd, eOr, eNot, eIf, isB, sDrop, sNext, sPar, eTup, eLst, eCall, eCB, aNil, aCons, eFld, eFldM, eProp, eMeth, eMethK, eNegO, eMake, eMakeK, eUn, sFldM, addI, addS, addL, subI, negI, mulI, mulL, divI, modI, powI, eqI, neI, eqS, neS, lenL, lenT, lenC, absI, intI, strI, repX, tupL, dmI, it0, it1, itL0, itL1, itL2, itL3, itL4, itL5, itL6, itR, eStat, oNone, oSome, eSl, gTp2', gIx, eLstM, eApp, rSame, rInt, rIntL, DL.rIn, DL.rNe, eFmt, eJs, eDic0, sNever, mx2, mn2, ltI, leI, gtI, geI, eChain, decide_eq_true_eq, List.map_cons, List.map_nil, List.length_cons, List.length_nil, Nat.reduceAdd, Nat.reduceSub, List.replicate_succ, List.replicate_zero, List.cons_append, List.nil_append, List.getElem?_cons_zero, List.getElem?_cons_succ, Option.some.injEq, exists_eq_left', List.set_cons_zero, List.set_cons_succ, if_true, if_false, Bool.false_eq_true, reduceIte, and_self, true_and, D.bl.injEq, D.ob.injEq, D.int.injEq, D.str.injEq, D.tup.injEq, exists_and_left, exists_eq_left, reduceCtorEq, and_true, lk_low, lk_high, exists_eq', and_self, made_eq, get_eq, two_eq, int_eq, neg_eq, txt_eq, is_eq, shared_eq, cont_eq, and_eq, wr_eq, mv_eq, pick1, pick2, leT, ltT, geT, gtT, eqT, neT, cxK, isi_eq T, Bool.not_true, Bool.not_false]
    have fw : ∀ ns : List Int, ns ≠ [] → (∀ y ∈ ns, -(10 ^ 61) / 4 ≤ y ∧ y ≤ 10 ^ 61 / 4) → Few (mnL ns) ∧ Few (mxL ns) ∧ Few (mxL ns - mnL ns) := fun ns hn hb => by
      have a1 := hb _ (mnL_mem hn).1
      have a2 := hb _ (mxL_mem hn).1
      exact ⟨sm (by omega) (by omega), sm (by omega) (by omega), sm (by omega) (by omega)⟩
    obtain ⟨g1, g2, g3⟩ := fw [i6, i5, i4, i3, i2, i1, i0] (by simp) (by simp only [List.forall_mem_cons]; exact ⟨e6, e5, e4, e3, e2, e1, e0, fun _ h => nomatch h⟩)
    refine ⟨smallN (by decide), [i6, i5, i4, i3, i2, i1, i0], rfl, by simp, by simp, ?_⟩
    have p1 : mnL [i0, i1, i2, i3, i4, i5, i6] = mnL [i6, i5, i4, i3, i2, i1, i0] := mnL_same (by simp) (by simp) (by intro x; simp; omega)
    have p2 : mxL [i0, i1, i2, i3, i4, i5, i6] = mxL [i6, i5, i4, i3, i2, i1, i0] := mxL_same (by simp) (by simp) (by intro x; simp; omega)
    refine .inr ⟨[i0, i1, i2, i3, i4, i5, i6], .inl rfl, by simp, .inr ⟨[i0, i1, i2, i3, i4, i5, i6], .inl rfl, by simp, small2, ?_⟩⟩
    rw [p1, p2]
    refine ⟨_, _, rfl, g1, g2, g3, _, rfl, iteF ⟨_, rfl, ?_⟩⟩
    have last : Q (.bl true) m1 := q _ s1
    obtain ⟨h1, h2, h3⟩ := fw [i0] (by simp) (by simp only [List.forall_mem_cons]; exact ⟨e0, fun _ h => nomatch h⟩)
    refine ⟨rfl, rfl, ?_⟩
    simp only [sSeq, sAsg, gNm, sRet, sRetN, bD, xD, nmD, startD, sIf, DL.tB, DL.tNot, DL.tAnd, DL.tOr, eAnd, eOr, eNot, eIf, isB, sDrop, sNext, sPar, eTup, eLst, eCall, eCB, aNil, aCons, eFld, eFldM, eProp, eMeth, eMethK, eNegO, eMake, eMakeK, eUn, sFldM, addI, addS, addL, subI, negI, mulI, mulL, divI, modI, powI, eqI, neI, eqS, neS, lenL, lenT, lenC, absI, intI, strI, repX, tupL, dmI, it0, it1, itL0, itL1, itL2, itL3, itL4, itL5, itL6, itR, eStat, oNone, oSome, eSl, gTp2', gIx, eLstM, eApp, rSame, rInt, rIntL, DL.rIn, DL.rNe, eFmt, eJs, eDic0, sNever, mx2, mn2, ltI, leI, gtI, geI, eChain, decide_eq_true_eq, List.map_cons, List.map_nil, List.length_cons, List.length_nil, Nat.reduceAdd, Nat.reduceSub, List.replicate_succ, List.replicate_zero, List.cons_append, List.nil_append, List.getElem?_cons_zero, List.getElem?_cons_succ, Option.some.injEq, exists_eq_left', List.set_cons_zero, List.set_cons_succ, if_true, if_false, Bool.false_eq_true, reduceIte, and_self, true_and, D.bl.injEq, D.ob.injEq, D.int.injEq, D.str.injEq, D.tup.injEq, exists_and_left, exists_eq_left, reduceCtorEq, and_true, lk_low, lk_high, exists_eq', and_self, made_eq, get_eq, two_eq, int_eq, neg_eq, txt_eq, is_eq, shared_eq, cont_eq, and_eq, wr_eq, mv_eq, pick1, pick2, leT, ltT, geT, gtT, eqT, neT, cxK, isi_eq T, Bool.not_true, Bool.not_false]
    refine .inr ⟨[i0], .inl rfl, by simp, .inr ⟨[i0], .inl rfl, by simp, small2, _, _, rfl, h1, h2, h3, _, rfl, iteF ?_⟩⟩
    obtain ⟨h1, h2, h3⟩ := fw [i0, i1] (by simp) (by simp only [List.forall_mem_cons]; exact ⟨e0, e1, fun _ h => nomatch h⟩)
    refine ⟨rfl, rfl, ?_⟩
    simp only [sSeq, sAsg, gNm, sRet, sRetN, bD, xD, nmD, startD, sIf, DL.tB, DL.tNot, DL.tAnd, DL.tOr, eAnd, eOr, eNot, eIf, isB, sDrop, sNext, sPar, eTup, eLst, eCall, eCB, aNil, aCons, eFld, eFldM, eProp, eMeth, eMethK, eNegO, eMake, eMakeK, eUn, sFldM, addI, addS, addL, subI, negI, mulI, mulL, divI, modI, powI, eqI, neI, eqS, neS, lenL, lenT, lenC, absI, intI, strI, repX, tupL, dmI, it0, it1, itL0, itL1, itL2, itL3, itL4, itL5, itL6, itR, eStat, oNone, oSome, eSl, gTp2', gIx, eLstM, eApp, rSame, rInt, rIntL, DL.rIn, DL.rNe, eFmt, eJs, eDic0, sNever, mx2, mn2, ltI, leI, gtI, geI, eChain, decide_eq_true_eq, List.map_cons, List.map_nil, List.length_cons, List.length_nil, Nat.reduceAdd, Nat.reduceSub, List.replicate_succ, List.replicate_zero, List.cons_append, List.nil_append, List.getElem?_cons_zero, List.getElem?_cons_succ, Option.some.injEq, exists_eq_left', List.set_cons_zero, List.set_cons_succ, if_true, if_false, Bool.false_eq_true, reduceIte, and_self, true_and, D.bl.injEq, D.ob.injEq, D.int.injEq, D.str.injEq, D.tup.injEq, exists_and_left, exists_eq_left, reduceCtorEq, and_true, lk_low, lk_high, exists_eq', and_self, made_eq, get_eq, two_eq, int_eq, neg_eq, txt_eq, is_eq, shared_eq, cont_eq, and_eq, wr_eq, mv_eq, pick1, pick2, leT, ltT, geT, gtT, eqT, neT, cxK, isi_eq T, Bool.not_true, Bool.not_false]
    refine .inr ⟨[i0, i1], .inl rfl, by simp, .inr ⟨[i0, i1], .inl rfl, by simp, small2, _, _, rfl, h1, h2, h3, _, rfl, iteF ?_⟩⟩
    obtain ⟨h1, h2, h3⟩ := fw [i0, i1, i2] (by simp) (by simp only [List.forall_mem_cons]; exact ⟨e0, e1, e2, fun _ h => nomatch h⟩)
    refine ⟨rfl, rfl, ?_⟩
    simp only [sSeq, sAsg, gNm, sRet, sRetN, bD, xD, nmD, startD, sIf, DL.tB, DL.tNot, DL.tAnd, DL.tOr, eAnd, eOr, eNot, eIf, isB, sDrop, sNext, sPar, eTup, eLst, eCall, eCB, aNil, aCons, eFld, eFldM, eProp, eMeth, eMethK, eNegO, eMake, eMakeK, eUn, sFldM, addI, addS, addL, subI, negI, mulI, mulL, divI, modI, powI, eqI, neI, eqS, neS, lenL, lenT, lenC, absI, intI, strI, repX, tupL, dmI, it0, it1, itL0, itL1, itL2, itL3, itL4, itL5, itL6, itR, eStat, oNone, oSome, eSl, gTp2', gIx, eLstM, eApp, rSame, rInt, rIntL, DL.rIn, DL.rNe, eFmt, eJs, eDic0, sNever, mx2, mn2, ltI, leI, gtI, geI, eChain, decide_eq_true_eq, List.map_cons, List.map_nil, List.length_cons, List.length_nil, Nat.reduceAdd, Nat.reduceSub, List.replicate_succ, List.replicate_zero, List.cons_append, List.nil_append, List.getElem?_cons_zero, List.getElem?_cons_succ, Option.some.injEq, exists_eq_left', List.set_cons_zero, List.set_cons_succ, if_true, if_false, Bool.false_eq_true, reduceIte, and_self, true_and, D.bl.injEq, D.ob.injEq, D.int.injEq, D.str.injEq, D.tup.injEq, exists_and_left, exists_eq_left, reduceCtorEq, and_true, lk_low, lk_high, exists_eq', and_self, made_eq, get_eq, two_eq, int_eq, neg_eq, txt_eq, is_eq, shared_eq, cont_eq, and_eq, wr_eq, mv_eq, pick1, pick2, leT, ltT, geT, gtT, eqT, neT, cxK, isi_eq T, Bool.not_true, Bool.not_false]
    refine .inr ⟨[i0, i1, i2], .inl rfl, by simp, .inr ⟨[i0, i1, i2], .inl rfl, by simp, small2, _, _, rfl, h1, h2, h3, _, rfl, iteF ?_⟩⟩
    obtain ⟨h1, h2, h3⟩ := fw [i0, i1, i2, i3] (by simp) (by simp only [List.forall_mem_cons]; exact ⟨e0, e1, e2, e3, fun _ h => nomatch h⟩)
    refine ⟨rfl, rfl, ?_⟩
    simp only [sSeq, sAsg, gNm, sRet, sRetN, bD, xD, nmD, startD, sIf, DL.tB, DL.tNot, DL.tAnd, DL.tOr, eAnd, eOr, eNot, eIf, isB, sDrop, sNext, sPar, eTup, eLst, eCall, eCB, aNil, aCons, eFld, eFldM, eProp, eMeth, eMethK, eNegO, eMake, eMakeK, eUn, sFldM, addI, addS, addL, subI, negI, mulI, mulL, divI, modI, powI, eqI, neI, eqS, neS, lenL, lenT, lenC, absI, intI, strI, repX, tupL, dmI, it0, it1, itL0, itL1, itL2, itL3, itL4, itL5, itL6, itR, eStat, oNone, oSome, eSl, gTp2', gIx, eLstM, eApp, rSame, rInt, rIntL, DL.rIn, DL.rNe, eFmt, eJs, eDic0, sNever, mx2, mn2, ltI, leI, gtI, geI, eChain, decide_eq_true_eq, List.map_cons, List.map_nil, List.length_cons, List.length_nil, Nat.reduceAdd, Nat.reduceSub, List.replicate_succ, List.replicate_zero, List.cons_append, List.nil_append, List.getElem?_cons_zero, List.getElem?_cons_succ, Option.some.injEq, exists_eq_left', List.set_cons_zero, List.set_cons_succ, if_true, if_false, Bool.false_eq_true, reduceIte, and_self, true_and, D.bl.injEq, D.ob.injEq, D.int.injEq, D.str.injEq, D.tup.injEq, exists_and_left, exists_eq_left, reduceCtorEq, and_true, lk_low, lk_high, exists_eq', and_self, made_eq, get_eq, two_eq, int_eq, neg_eq, txt_eq, is_eq, shared_eq, cont_eq, and_eq, wr_eq, mv_eq, pick1, pick2, leT, ltT, geT, gtT, eqT, neT, cxK, isi_eq T, Bool.not_true, Bool.not_false]
    refine .inr ⟨[i0, i1, i2, i3], .inl rfl, by simp, .inr ⟨[i0, i1, i2, i3], .inl rfl, by simp, small2, _, _, rfl, h1, h2, h3, _, rfl, iteF ?_⟩⟩
    exact last
theorem ok__law_step (T : Tx K mg a d) : FnG false true P w K mg base 6 a.f__law_step d.f__law_step ["_law_pot_here", "_law_made_here", "_law_bounds_here"] (spL (G a) s_step) := by
  refine fn_okG T.F__law_step sc__law_step (fun _ _ _ _ ⟨_, _, _, _, e, _⟩ => len3 e) (fun cdv A outer s H E xs m Q x hr h => ⟨_, (dss_cons (ds_asg (de_tup (da_cons (de_call (ok__law_draw T).any (hr.mono (show 1 ≤ _ by decide)) (by rfl) T.m__law_draw T.F__law_draw.kp T.b__law_draw takesG (da_cons (de_nm (pv 0)) (da_cons (de_c pe_int (fun _ => .int _)) da_nil))) (da_cons (de_nm (pv 2)) da_nil))) (dg_tup (n := 2) rfl (dgs_cons (dg_name (pg_name (i := 4) sc__law_step.nd rfl (Or.inl rfl))) (dgs_cons (dg_tup (n := 2) rfl (dgs_cons (dg_name (pg_name (i := 8) sc__law_step.nd rfl (Or.inl rfl))) (dgs_cons (dg_name (pg_name (i := 9) sc__law_step.nd rfl (Or.inl rfl))) dgs_nil))) dgs_nil)))) (dss_cons (ds_if (dt_cmp (od_eq hr.u64) (de_nm (pv 4)) (de_c pe_int (fun _ => .int _)) (nomark _)) (dss_one (ds_ret (de_tup (da_cons (de_negO (c := 0) T.o_Span___neg__ (ok_Span___neg__ T).any (hr.mono (show 5 ≤ _ by decide)) T.b_Span___neg__ takesG (de_nm (pv 1))) (da_cons (de_tup (da_cons (de_op od_sub (de_c pe_int (fun _ => .int _)) (de_nm (pv 9))) (da_cons (de_op od_sub (de_c pe_int (fun _ => .int _)) (de_nm (pv 8))) da_nil))) da_nil))))) dss_nil) (dss_cons (ds_if (dt_cmp (od_lt hr.u0) (de_nm (pv 4)) (de_c pe_int (fun _ => .int _)) (nomark _)) (dss_cons (ds_set (i := 5) (ps_set (i := 5) sc__law_step.nd rfl (Or.inl rfl)) (de_call (ok__law_number T).any (hr.mono (show 2 ≤ _ by decide)) (by rfl) T.m__law_number T.F__law_number.kp T.b__law_number takesG (da_cons (de_nm (pv 0)) da_nil))) (dss_cons (ds_set (i := 6) (ps_set (i := 6) sc__law_step.nd rfl (Or.inl rfl)) (de_ix (de_lst (da_cons (de_opX (ox_int (c := 0) T.o_Span___add__ T.sf_Span T.oi_Span___add__ (ok_Span___add__ T).any (hr.mono (show 5 ≤ _ by decide)) T.b_Span___add__ takesG) (de_nm (pv 1)) (de_nm (pv 5))) (da_cons (de_opX (ox_radd (c := 0) T.o_Span___add__.at_ T.o_Span___radd__ T.sf_Span T.ni_Span (ok_Span___radd__ T).any (hr.mono (show 5 ≤ _ by decide)) T.b_Span___radd__ takesG) (de_nm (pv 5)) (de_nm (pv 1))) (da_cons (de_opX (ox_int (c := 0) T.o_Span___sub__ T.sf_Span T.oi_Span___sub__ (ok_Span___sub__ T).any (hr.mono (show 5 ≤ _ by decide)) T.b_Span___sub__ takesG) (de_nm (pv 1)) (de_nm (pv 5))) da_nil)))) (de_op od_sub (de_nm (pv 4)) (de_c pe_int (fun _ => .int _))) (fun _ _ => rfl))) (dss_cons (ds_set (i := 7) (ps_set (i := 7) sc__law_step.nd rfl (Or.inl rfl)) (de_if (dt_cmp (od_eq hr.u64) (de_nm (pv 4)) (de_c pe_int (fun _ => .int _)) (nomark _)) (de_op od_sub (de_c pe_int (fun _ => .int _)) (de_nm (pv 5))) (de_nm (pv 5)))) (dss_one (ds_ret (de_tup (da_cons (de_nm (pv 6)) (da_cons (de_tup (da_cons (de_op od_add (de_nm (pv 8)) (de_nm (pv 7))) (da_cons (de_op od_add (de_nm (pv 9)) (de_nm (pv 7))) da_nil))) da_nil)))))))) dss_nil) (dss_cons (ds_set (i := 3) (ps_set (i := 3) sc__law_step.nd rfl (Or.inl rfl)) (de_call (ok__law_bounds T).any (hr.mono (show 2 ≤ _ by decide)) (by rfl) T.m__law_bounds T.F__law_bounds.kp T.b__law_bounds takesG (da_cons (de_nm (pv 0)) (da_cons (de_nm (pv 8)) da_nil)))) (dss_cons (ds_if (dt_cmp (od_eq hr.u64) (de_nm (pv 4)) (de_c pe_int (fun _ => .int _)) (nomark _)) (dss_one (ds_ret (de_tup (da_cons (de_opX (ox_same (c := 0) T.o_Span___or__ T.sf_Span (ok_Span___or__ T).any (hr.mono (show 5 ≤ _ by decide)) T.b_Span___or__ takesG) (de_nm (pv 1)) (de_call (ok__law_made T).any (hr.mono (show 5 ≤ _ by decide)) (by rfl) T.m__law_made T.F__law_made.kp T.b__law_made takesG (da_cons (de_nm (pv 3)) da_nil))) (da_cons (de_tup (da_cons (de_callB (cd_mn (by rfl) hr.u8) (by rfl) T.z_min boot_min (da_cons (de_nm (pv 8)) (da_cons (de_ix (de_nm (pv 3)) (de_c pe_int (fun _ => .int _)) (fun _ _ => rfl)) da_nil))) (da_cons (de_callB (cd_mx (by rfl) hr.u8) (by rfl) T.z_max boot_max (da_cons (de_nm (pv 9)) (da_cons (de_ix (de_nm (pv 3)) (de_c pe_int (fun _ => .int _)) (fun _ _ => rfl)) da_nil))) da_nil))) da_nil))))) dss_nil) (dss_cons (ds_if (dt_cmp (od_gt hr.u0) (de_callB (cd_mx (by rfl) hr.u8) (by rfl) T.z_max boot_max (da_cons (de_nm (pv 8)) (da_cons (de_ix (de_nm (pv 3)) (de_c pe_int (fun _ => .int _)) (fun _ _ => rfl)) da_nil))) (de_callB (cd_mn (by rfl) hr.u8) (by rfl) T.z_min boot_min (da_cons (de_nm (pv 9)) (da_cons (de_ix (de_nm (pv 3)) (de_c pe_int (fun _ => .int _)) (fun _ _ => rfl)) da_nil))) (nomark _)) (dss_one (ds_ret (de_tup (da_cons (de_nm (pv 1)) (da_cons (de_nm (pv 2)) da_nil))))) dss_nil) (dss_one (ds_ret (de_tup (da_cons (de_opX (ox_same (c := 0) T.o_Span___and__ T.sf_Span (ok_Span___and__ T).any (hr.mono (show 5 ≤ _ by decide)) T.b_Span___and__ takesG) (de_nm (pv 1)) (de_call (ok__law_made T).any (hr.mono (show 5 ≤ _ by decide)) (by rfl) T.m__law_made T.F__law_made.kp T.b__law_made takesG (da_cons (de_nm (pv 3)) da_nil))) (da_cons (de_tup (da_cons (de_callB (cd_mx (by rfl) hr.u8) (by rfl) T.z_max boot_max (da_cons (de_nm (pv 8)) (da_cons (de_ix (de_nm (pv 3)) (de_c pe_int (fun _ => .int _)) (fun _ _ => rfl)) da_nil))) (da_cons (de_callB (cd_mn (by rfl) hr.u8) (by rfl) T.z_min boot_min (da_cons (de_nm (pv 9)) (da_cons (de_ix (de_nm (pv 3)) (de_c pe_int (fun _ => .int _)) (fun _ _ => rfl)) da_nil))) da_nil))) da_nil))))))))))), ?_⟩)
  obtain ⟨p, l, h, B, rfl, le, ⟨b1, b2, b3, b4⟩, hp, q⟩ := h
  simp only [sSeq, sAsg, gNm, sRet, sRetN, bD, xD, nmD, startD, sIf, DL.tB, DL.tNot, DL.tAnd, DL.tOr, eAnd, eOr, eNot, eIf, isB, sDrop, sNext, sPar, eTup, eLst, eCall, eCB, aNil, aCons, eFld, eFldM, eProp, eMeth, eMethK, eNegO, eMake, eMakeK, eUn, sFldM, addI, addS, addL, subI, negI, mulI, mulL, divI, modI, powI, eqI, neI, eqS, neS, lenL, lenT, lenC, absI, intI, strI, repX, tupL, dmI, it0, it1, itL0, itL1, itL2, itL3, itL4, itL5, itL6, itR, eStat, oNone, oSome, eSl, gTp2', gIx, eLstM, eApp, rSame, rInt, rIntL, DL.rIn, DL.rNe, eFmt, eJs, eDic0, sNever, mx2, mn2, ltI, leI, gtI, geI, eChain, decide_eq_true_eq, List.map_cons, List.map_nil, List.length_cons, List.length_nil, Nat.reduceAdd, Nat.reduceSub, List.replicate_succ, List.replicate_zero, List.cons_append, List.nil_append, List.getElem?_cons_zero, List.getElem?_cons_succ, Option.some.injEq, exists_eq_left', List.set_cons_zero, List.set_cons_succ, if_true, if_false, Bool.false_eq_true, reduceIte, and_self, true_and, D.bl.injEq, D.ob.injEq, D.int.injEq, D.str.injEq, D.tup.injEq, exists_and_left, exists_eq_left, reduceCtorEq, and_true, lk_low, lk_high, exists_eq', and_self, made_eq, get_eq, two_eq, int_eq, neg_eq, txt_eq, is_eq, shared_eq, cont_eq, and_eq, wr_eq, mv_eq, pick1, pick2, leT, ltT, geT, gtT, eqT, neT, cxK, isi_eq T, Bool.not_true, Bool.not_false]
  refine ⟨p, 6, rfl, by decide, by decide, hp, fun w m1 w0 w6 s1 => ?_⟩
  simp only [sSeq, sAsg, gNm, sRet, sRetN, bD, xD, nmD, startD, sIf, DL.tB, DL.tNot, DL.tAnd, DL.tOr, eAnd, eOr, eNot, eIf, isB, sDrop, sNext, sPar, eTup, eLst, eCall, eCB, aNil, aCons, eFld, eFldM, eProp, eMeth, eMethK, eNegO, eMake, eMakeK, eUn, sFldM, addI, addS, addL, subI, negI, mulI, mulL, divI, modI, powI, eqI, neI, eqS, neS, lenL, lenT, lenC, absI, intI, strI, repX, tupL, dmI, it0, it1, itL0, itL1, itL2, itL3, itL4, itL5, itL6, itR, eStat, oNone, oSome, eSl, gTp2', gIx, eLstM, eApp, rSame, rInt, rIntL, DL.rIn, DL.rNe, eFmt, eJs, eDic0, sNever, mx2, mn2, ltI, leI, gtI, geI, eChain, decide_eq_true_eq, List.map_cons, List.map_nil, List.length_cons, List.length_nil, Nat.reduceAdd, Nat.reduceSub, List.replicate_succ, List.replicate_zero, List.cons_append, List.nil_append, List.getElem?_cons_zero, List.getElem?_cons_succ, Option.some.injEq, exists_eq_left', List.set_cons_zero, List.set_cons_succ, if_true, if_false, Bool.false_eq_true, reduceIte, and_self, true_and, D.bl.injEq, D.ob.injEq, D.int.injEq, D.str.injEq, D.tup.injEq, exists_and_left, exists_eq_left, reduceCtorEq, and_true, lk_low, lk_high, exists_eq', and_self, made_eq, get_eq, two_eq, int_eq, neg_eq, txt_eq, is_eq, shared_eq, cont_eq, and_eq, wr_eq, mv_eq, pick1, pick2, leT, ltT, geT, gtT, eqT, neT, cxK, isi_eq T, Bool.not_true, Bool.not_false]
  refine ⟨small2, ?_⟩
  by_cases c0 : w = 0
  · rw [if_pos c0, Int.zero_sub, Int.zero_sub]
    exact ⟨le, small2, small2, q _ _ _ (by omega) (by omega) (by omega) s1⟩
  · rw [if_neg c0]
    by_cases c4 : w < 4
    · rw [if_pos c4]
      refine ⟨p, rfl, s1.pot, fun n m2 n0 n1 s2 => ?_⟩
      simp only [sSeq, sAsg, gNm, sRet, sRetN, bD, xD, nmD, startD, sIf, DL.tB, DL.tNot, DL.tAnd, DL.tOr, eAnd, eOr, eNot, eIf, isB, sDrop, sNext, sPar, eTup, eLst, eCall, eCB, aNil, aCons, eFld, eFldM, eProp, eMeth, eMethK, eNegO, eMake, eMakeK, eUn, sFldM, addI, addS, addL, subI, negI, mulI, mulL, divI, modI, powI, eqI, neI, eqS, neS, lenL, lenT, lenC, absI, intI, strI, repX, tupL, dmI, it0, it1, itL0, itL1, itL2, itL3, itL4, itL5, itL6, itR, eStat, oNone, oSome, eSl, gTp2', gIx, eLstM, eApp, rSame, rInt, rIntL, DL.rIn, DL.rNe, eFmt, eJs, eDic0, sNever, mx2, mn2, ltI, leI, gtI, geI, eChain, decide_eq_true_eq, List.map_cons, List.map_nil, List.length_cons, List.length_nil, Nat.reduceAdd, Nat.reduceSub, List.replicate_succ, List.replicate_zero, List.cons_append, List.nil_append, List.getElem?_cons_zero, List.getElem?_cons_succ, Option.some.injEq, exists_eq_left', List.set_cons_zero, List.set_cons_succ, if_true, if_false, Bool.false_eq_true, reduceIte, and_self, true_and, D.bl.injEq, D.ob.injEq, D.int.injEq, D.str.injEq, D.tup.injEq, exists_and_left, exists_eq_left, reduceCtorEq, and_true, lk_low, lk_high, exists_eq', and_self, made_eq, get_eq, two_eq, int_eq, neg_eq, txt_eq, is_eq, shared_eq, cont_eq, and_eq, wr_eq, mv_eq, pick1, pick2, leT, ltT, geT, gtT, eqT, neT, cxK, isi_eq T, Bool.not_true, Bool.not_false]
      have s3 := s1.trans s2
      refine ⟨le, le, le, smallN (by decide), ?_⟩
      have e : ∀ z : Int, z + (0 - n) = z - n := fun z => by omega
      rcases (show w = 1 ∨ w = 2 ∨ w = 3 by omega) with rfl | rfl | rfl
      · rw [show (1 : Int) - 1 = 0 from rfl, itL0, if_neg (by decide)]
        exact ⟨small2, small2, q _ _ _ (by omega) (by omega) (by omega) s3⟩
      · rw [show (2 : Int) - 1 = 1 from rfl, itL1, if_neg (by decide)]
        exact ⟨small2, small2, q _ _ _ (by omega) (by omega) (by omega) s3⟩
      · rw [show (3 : Int) - 1 = 2 from rfl, itL2, if_pos rfl, e, e]
        exact ⟨small2, small2, q _ _ _ (by omega) (by omega) (by omega) s3⟩
    · rw [if_neg c4]
      refine ⟨p, l, rfl, s1.pot, fun l2 h2 m2 le2 e1 e2 s2 => ?_⟩
      simp only [sSeq, sAsg, gNm, sRet, sRetN, bD, xD, nmD, startD, sIf, DL.tB, DL.tNot, DL.tAnd, DL.tOr, eAnd, eOr, eNot, eIf, isB, sDrop, sNext, sPar, eTup, eLst, eCall, eCB, aNil, aCons, eFld, eFldM, eProp, eMeth, eMethK, eNegO, eMake, eMakeK, eUn, sFldM, addI, addS, addL, subI, negI, mulI, mulL, divI, modI, powI, eqI, neI, eqS, neS, lenL, lenT, lenC, absI, intI, strI, repX, tupL, dmI, it0, it1, itL0, itL1, itL2, itL3, itL4, itL5, itL6, itR, eStat, oNone, oSome, eSl, gTp2', gIx, eLstM, eApp, rSame, rInt, rIntL, DL.rIn, DL.rNe, eFmt, eJs, eDic0, sNever, mx2, mn2, ltI, leI, gtI, geI, eChain, decide_eq_true_eq, List.map_cons, List.map_nil, List.length_cons, List.length_nil, Nat.reduceAdd, Nat.reduceSub, List.replicate_succ, List.replicate_zero, List.cons_append, List.nil_append, List.getElem?_cons_zero, List.getElem?_cons_succ, Option.some.injEq, exists_eq_left', List.set_cons_zero, List.set_cons_succ, if_true, if_false, Bool.false_eq_true, reduceIte, and_self, true_and, D.bl.injEq, D.ob.injEq, D.int.injEq, D.str.injEq, D.tup.injEq, exists_and_left, exists_eq_left, reduceCtorEq, and_true, lk_low, lk_high, exists_eq', and_self, made_eq, get_eq, two_eq, int_eq, neg_eq, txt_eq, is_eq, shared_eq, cont_eq, and_eq, wr_eq, mv_eq, pick1, pick2, leT, ltT, geT, gtT, eqT, neT, cxK, isi_eq T, Bool.not_true, Bool.not_false]
      have s3 := s1.trans s2
      by_cases c5 : w = 4
      · rw [if_pos c5]
        exact ⟨le2, le, le2, small2, small2, q _ _ _ (by omega) (by omega) (by omega) s3⟩
      · rw [if_neg c5]
        by_cases c6 : min h h2 < max l l2
        · rw [if_pos c6]
          exact ⟨small2, q _ _ _ (by omega) (by omega) (by omega) s3⟩
        · rw [if_neg c6]
          have c7 : ¬ aprt l h l2 h2 := by unfold aprt; omega
          refine ⟨le2, le, le2, ?_⟩
          rw [if_neg c7]
          exact ⟨small2, small2, q _ _ _ (by omega) (by omega) (by omega) s3⟩
theorem ok__law_right (T : Tx K mg a d) : FnG false true P w K mg base 8 a.f__law_right d.f__law_right ["_law_pot_here"] (spL (G a) s_right) := by
  refine fn_okG T.F__law_right sc__law_right (fun _ _ _ _ ⟨_, e, _⟩ => len1 e) (fun cdv A outer s H E xs m Q x hr h => ⟨_, (dss_cons (ds_set (i := 1) (ps_set (i := 1) sc__law_right.nd rfl (Or.inr rfl)) (de_if (dt_cmp (od_eq hr.u64) (de_call (ok__law_draw T).any (hr.mono (show 1 ≤ _ by decide)) (by rfl) T.m__law_draw T.F__law_draw.kp T.b__law_draw takesG (da_cons (de_nm (pv 0)) (da_cons (de_c pe_int (fun _ => .int _)) da_nil))) (de_c pe_int (fun _ => .int _)) (nomark _)) (de_call (ok__law_number T).any (hr.mono (show 2 ≤ _ by decide)) (by rfl) T.m__law_number T.F__law_number.kp T.b__law_number takesG (da_cons (de_nm (pv 0)) da_nil)) (de_c pe_int (fun _ => .int _)))) (dss_cons (ds_setLc (i := 2) (own := [("_law_turn", 4)]) (tgt := .one 4) rfl sc__law_right.nd rfl rfl (sw_true rfl rfl rfl (by decide +kernel)) (by decide) (di_range1 (by rfl) T.z_range (da_cons (de_c pe_int (fun _ => .int _)) da_nil)) (blkOk_by (own := [("_law_turn", 4)]) (N := N__law_right) (sc := defScope s__law_right) (by decide +kernel)) (fun _ _ _ _ _ => pg_name (i := 4) sc__law_right.nd rfl (Or.inl rfl)) (fun _ _ _ _ _ => dts_nil) (fun _ _ _ _ _ => (de_call (ok__law_bounds T).any (hr.mono (show 2 ≤ _ by decide)) (by rfl) T.m__law_bounds T.F__law_bounds.kp T.b__law_bounds takesF (da_cons (de_nm (pv 0)) (da_cons (de_nm (pv 1)) da_nil))))) (dss_cons (ds_for passesG rfl (di_list (de_nm (pv 2))) (dg_name (pg_name (i := 3) sc__law_right.nd rfl (Or.inr rfl))) (dss_cons (ds_if (dw_pt (dw_or (dt_not (dt_val (de_call (ok__law_is T) (hr.mono (show 4 ≤ _ by decide)) (by rfl) T.m__law_is T.F__law_is.kp T.b__law_is takesG (da_cons (de_call (ok__law_made T).any (hr.mono (show 5 ≤ _ by decide)) (by rfl) T.m__law_made T.F__law_made.kp T.b__law_made takesG (da_cons (de_nm (pv 3)) da_nil)) (da_cons (de_nm (pv 3)) da_nil))))) (dw_or1 (dt_not (dt_val (de_call (ok__law_within_right T) (hr.mono (show 6 ≤ _ by decide)) (by rfl) T.m__law_within_right T.F__law_within_right.kp T.b__law_within_right takesG (da_cons (de_nm (pv 3)) da_nil))))))) (dss_one (ds_ret (de_c pe_bl (fun _ => .bl _)))) dss_nil) (dss_cons (ds_if (dt_not (dt_val (de_call (ok__law_moved_right T) (hr.mono (show 6 ≤ _ by decide)) (by rfl) T.m__law_moved_right T.F__law_moved_right.kp T.b__law_moved_right takesG (da_cons (de_nm (pv 3)) (da_cons (de_call (ok__law_number T).any (hr.mono (show 2 ≤ _ by decide)) (by rfl) T.m__law_number T.F__law_number.kp T.b__law_number takesG (da_cons (de_nm (pv 0)) da_nil)) da_nil))))) (dss_one (ds_ret (de_c pe_bl (fun _ => .bl _)))) dss_nil) (dss_one (ds_if (dt_not (dt_val (de_callB (cd_all (by rfl)) (by rfl) T.z_all boot_all (da_cons (de_lc (own := [("_law_more", 8)]) (tgt := .one 8) rfl sc__law_right.nd (by decide) (di_list (de_nm (pv 2))) (blkOk_by (own := [("_law_more", 8)]) (N := N__law_right) (sc := defScope s__law_right) (by decide +kernel)) (fun _ _ _ _ _ => pg_name (i := 8) sc__law_right.nd rfl (Or.inl rfl)) (fun _ _ _ _ _ => dts_nil) (fun _ _ _ _ _ => (de_call (ok__law_two_right T) (hr.mono (show 7 ≤ _ by decide)) (by rfl) T.m__law_two_right T.F__law_two_right.kp T.b__law_two_right takesF (da_cons (de_nm (pv 3)) (da_cons (de_nm (pv 8)) da_nil))))) da_nil)))) (dss_one (ds_ret (de_c pe_bl (fun _ => .bl _)))) dss_nil))))) (dss_cons (ds_asg (de_tup (da_cons (de_call (ok__law_made T).any (hr.mono (show 5 ≤ _ by decide)) (by rfl) T.m__law_made T.F__law_made.kp T.b__law_made takesG (da_cons (de_ix (de_nm (pv 2)) (de_c pe_int (fun _ => .int _)) (fun _ _ => rfl)) da_nil)) (da_cons (de_ix (de_nm (pv 2)) (de_c pe_int (fun _ => .int _)) (fun _ _ => rfl)) da_nil))) (dg_tup (n := 2) rfl (dgs_cons (dg_name (pg_name (i := 5) sc__law_right.nd rfl (Or.inl rfl))) (dgs_cons (dg_name (pg_name (i := 3) sc__law_right.nd rfl (Or.inr rfl))) dgs_nil)))) (dss_cons (ds_for passesG rfl (di_range1 (by rfl) T.z_range (da_cons (de_c pe_int (fun _ => .int _)) da_nil)) (dg_name (pg_name (i := 4) sc__law_right.nd rfl (Or.inl rfl))) (dss_cons (ds_par (i := 6) (j := 7) (ps_par (i := 6) (j := 7) rfl sc__law_right.nd rfl rfl (by decide) rfl rfl · (by rfl)) (da_cons (de_nm (pv 5)) (da_cons (de_nm (pv 3)) da_nil))) (dss_cons (ds_asg (de_call (ok__law_step T) (hr.mono (show 6 ≤ _ by decide)) (by rfl) T.m__law_step T.F__law_step.kp T.b__law_step takesG (da_cons (de_nm (pv 0)) (da_cons (de_nm (pv 5)) (da_cons (de_nm (pv 3)) da_nil)))) (dg_tup (n := 2) rfl (dgs_cons (dg_name (pg_name (i := 5) sc__law_right.nd rfl (Or.inl rfl))) (dgs_cons (dg_name (pg_name (i := 3) sc__law_right.nd rfl (Or.inr rfl))) dgs_nil)))) (dss_one (ds_if (dw_pt (dw_or (dt_not (dt_val (de_call (ok__law_is T) (hr.mono (show 4 ≤ _ by decide)) (by rfl) T.m__law_is T.F__law_is.kp T.b__law_is takesG (da_cons (de_nm (pv 5)) (da_cons (de_nm (pv 3)) da_nil))))) (dw_or1 (dt_not (dt_val (de_call (ok__law_is T) (hr.mono (show 4 ≤ _ by decide)) (by rfl) T.m__law_is T.F__law_is.kp T.b__law_is takesG (da_cons (de_nm (pv 6)) (da_cons (de_nm (pv 7)) da_nil)))))))) (dss_one (ds_ret (de_c pe_bl (fun _ => .bl _)))) dss_nil))))) (dss_one (ds_ret (de_call (ok__law_around_right T) (hr.mono (show 6 ≤ _ by decide)) (by rfl) T.m__law_around_right T.F__law_around_right.kp T.b__law_around_right takesG (da_cons (de_nm (pv 0)) (da_cons (de_nm (pv 1)) da_nil)))))))))), ?_⟩)
  obtain ⟨p, rfl, hp, q⟩ := h
  apply share (C := fun b m1 => -(10 ^ 26) ≤ b ∧ b ≤ 10 ^ 26 ∧ Pst p m m1)
  · intro key
    refine ⟨_, rfl, p, 2, rfl, by decide, by decide, hp, fun i m1 i0 i2 s1 => ?_⟩
    show eqD (.int i) (.int 0) m1 _
    rw [eqI]
    refine ⟨_, rfl, ite2 (fun c => ?_) (fun c => ?_)⟩
    · exact ⟨_, rfl, p, rfl, s1.pot, fun b m2 b0 b1 s2 => key b m2 ⟨b0, b1, s1.trans s2⟩⟩
    · exact key 0 m1 ⟨by decide, by decide, s1⟩
  · rintro b m1 ⟨b0, b1, s1⟩
    have sm : ∀ {i : Int}, -(10 ^ 61) ≤ i → i ≤ 10 ^ 61 → Few i := fun a b => by
      unfold Few
      exact Nat.lt_of_le_of_lt (show Int.natAbs _ ≤ 10 ^ 61 by omega) (by decide +kernel)
    have f : ∀ {i : Int}, -(10 ^ 61) ≤ i ∧ i ≤ 10 ^ 61 → Few i := fun a => sm a.1 a.2
    simp only [sSeq, sAsg, gNm, sRet, sRetN, bD, xD, nmD, startD, sIf, DL.tB, DL.tNot, DL.tAnd, DL.tOr, eAnd, eOr, eNot, eIf, isB, sDrop, sNext, sPar, eTup, eLst, eCall, eCB, aNil, aCons, eFld, eFldM, eProp, eMeth, eMethK, eNegO, eMake, eMakeK, eUn, sFldM, addI, addS, addL, subI, negI, mulI, mulL, divI, modI, powI, eqI, neI, eqS, neS, lenL, lenT, lenC, absI, intI, strI, repX, tupL, dmI, it0, it1, itL0, itL1, itL2, itL3, itL4, itL5, itL6, itR, eStat, oNone, oSome, eSl, gTp2', gIx, eLstM, eApp, rSame, rInt, rIntL, DL.rIn, DL.rNe, eFmt, eJs, eDic0, sNever, mx2, mn2, ltI, leI, gtI, geI, eChain, decide_eq_true_eq, List.map_cons, List.map_nil, List.length_cons, List.length_nil, Nat.reduceAdd, Nat.reduceSub, List.replicate_succ, List.replicate_zero, List.cons_append, List.nil_append, List.getElem?_cons_zero, List.getElem?_cons_succ, Option.some.injEq, exists_eq_left', List.set_cons_zero, List.set_cons_succ, if_true, if_false, Bool.false_eq_true, reduceIte, and_self, true_and, D.bl.injEq, D.ob.injEq, D.int.injEq, D.str.injEq, D.tup.injEq, exists_and_left, exists_eq_left, reduceCtorEq, and_true, lk_low, lk_high, exists_eq', and_self, made_eq, get_eq, two_eq, int_eq, neg_eq, txt_eq, is_eq, shared_eq, cont_eq, and_eq, wr_eq, mv_eq, pick1, pick2, leT, ltT, geT, gtT, eqT, neT, cxK, isi_eq T, Bool.not_true, Bool.not_false]
    refine ⟨by decide, (show 4 < sizeLine by decide), lc_st (S := Pst p m) (R := fun y => ∃ l h, y = .tup [.int l, .int h] ∧ l ≤ h ∧ -(10 ^ 27) ≤ l ∧ h ≤ 10 ^ 27) (fun d hd m2 Q s2 qq => ?_) [] _ s1 (fun ys m2 hl hys s2 => ?_)⟩
    · exact ⟨_, rfl, _, rfl, p, b, rfl, s2.pot, fun l h m3 le a1 a2 s3 => qq _ _ ⟨l, h, rfl, le, by omega, by omega⟩ (s2.trans s3)⟩
    · obtain ⟨y0, y1, y2, y3, rfl⟩ : ∃ y0 y1 y2 y3, ys = [y0, y1, y2, y3] := by
        match ys, hl with
        | [a0, a1, a2, a3], _ => exact ⟨a0, a1, a2, a3, rfl⟩
      rw [List.nil_append]
      obtain ⟨l0, h0, e0, le0, bl0, bh0⟩ := hys y0 (by simp)
      refine ⟨_, rfl, for_inv (I := fun ds m' => (∃ x3 x4 x5 x6 x7 x8, ds = [some (.ref p), some (.int b), some (.lst [y0, y1, y2, y3]), x3, x4, x5, x6, x7, x8]) ∧ Pst p m m') (fun v hv K ds m3 ⟨⟨x3, x4, x5, x6, x7, x8, ed⟩, s3⟩ hK => ?_) _ _ ⟨⟨_, _, _, _, _, _, rfl⟩, s2⟩ (fun ds m3 ⟨⟨x3, x4, x5, x6, x7, x8, ed⟩, s3⟩ => ?_)⟩
      rotate_left
      · subst ed
        obtain ⟨l, h, rfl, le, a1, a2⟩ := hys v hv
        simp only [sSeq, sAsg, gNm, sRet, sRetN, bD, xD, nmD, startD, sIf, DL.tB, DL.tNot, DL.tAnd, DL.tOr, eAnd, eOr, eNot, eIf, isB, sDrop, sNext, sPar, eTup, eLst, eCall, eCB, aNil, aCons, eFld, eFldM, eProp, eMeth, eMethK, eNegO, eMake, eMakeK, eUn, sFldM, addI, addS, addL, subI, negI, mulI, mulL, divI, modI, powI, eqI, neI, eqS, neS, lenL, lenT, lenC, absI, intI, strI, repX, tupL, dmI, it0, it1, itL0, itL1, itL2, itL3, itL4, itL5, itL6, itR, eStat, oNone, oSome, eSl, gTp2', gIx, eLstM, eApp, rSame, rInt, rIntL, DL.rIn, DL.rNe, eFmt, eJs, eDic0, sNever, mx2, mn2, ltI, leI, gtI, geI, eChain, decide_eq_true_eq, List.map_cons, List.map_nil, List.length_cons, List.length_nil, Nat.reduceAdd, Nat.reduceSub, List.replicate_succ, List.replicate_zero, List.cons_append, List.nil_append, List.getElem?_cons_zero, List.getElem?_cons_succ, Option.some.injEq, exists_eq_left', List.set_cons_zero, List.set_cons_succ, if_true, if_false, Bool.false_eq_true, reduceIte, and_self, true_and, D.bl.injEq, D.ob.injEq, D.int.injEq, D.str.injEq, D.tup.injEq, exists_and_left, exists_eq_left, reduceCtorEq, and_true, lk_low, lk_high, exists_eq', and_self, made_eq, get_eq, two_eq, int_eq, neg_eq, txt_eq, is_eq, shared_eq, cont_eq, and_eq, wr_eq, mv_eq, pick1, pick2, leT, ltT, geT, gtT, eqT, neT, cxK, isi_eq T, Bool.not_true, Bool.not_false]
        refine ⟨le, f (by omega), f (by omega), f (by omega), le, ⟨⟨by omega, by omega⟩, ⟨by omega, by omega⟩⟩, p, rfl, s3.pot, fun n m4 n0 n1 s4 => ?_⟩
        simp only [sSeq, sAsg, gNm, sRet, sRetN, bD, xD, nmD, startD, sIf, DL.tB, DL.tNot, DL.tAnd, DL.tOr, eAnd, eOr, eNot, eIf, isB, sDrop, sNext, sPar, eTup, eLst, eCall, eCB, aNil, aCons, eFld, eFldM, eProp, eMeth, eMethK, eNegO, eMake, eMakeK, eUn, sFldM, addI, addS, addL, subI, negI, mulI, mulL, divI, modI, powI, eqI, neI, eqS, neS, lenL, lenT, lenC, absI, intI, strI, repX, tupL, dmI, it0, it1, itL0, itL1, itL2, itL3, itL4, itL5, itL6, itR, eStat, oNone, oSome, eSl, gTp2', gIx, eLstM, eApp, rSame, rInt, rIntL, DL.rIn, DL.rNe, eFmt, eJs, eDic0, sNever, mx2, mn2, ltI, leI, gtI, geI, eChain, decide_eq_true_eq, List.map_cons, List.map_nil, List.length_cons, List.length_nil, Nat.reduceAdd, Nat.reduceSub, List.replicate_succ, List.replicate_zero, List.cons_append, List.nil_append, List.getElem?_cons_zero, List.getElem?_cons_succ, Option.some.injEq, exists_eq_left', List.set_cons_zero, List.set_cons_succ, if_true, if_false, Bool.false_eq_true, reduceIte, and_self, true_and, D.bl.injEq, D.ob.injEq, D.int.injEq, D.str.injEq, D.tup.injEq, exists_and_left, exists_eq_left, reduceCtorEq, and_true, lk_low, lk_high, exists_eq', and_self, made_eq, get_eq, two_eq, int_eq, neg_eq, txt_eq, is_eq, shared_eq, cont_eq, and_eq, wr_eq, mv_eq, pick1, pick2, leT, ltT, geT, gtT, eqT, neT, cxK, isi_eq T, Bool.not_true, Bool.not_false]
        refine ⟨le, ⟨⟨by omega, by omega⟩, ⟨by omega, by omega⟩, ⟨by omega, by omega⟩⟩, ?_⟩
        refine ⟨_, rfl, (show 4 < sizeLine by decide), lc_st (S := fun m' => m' = m4) (R := fun y => y = .bl true) (fun z hz m5 Q s5 qq => ?_) [] _ rfl (fun zs m5 hl hz s5 => ?_)⟩
        · obtain ⟨l', h', rfl, le', c1, c2⟩ := hys z hz
          exact ⟨_, rfl, _, rfl, l, h, l', h', rfl, le, le', ⟨⟨by omega, by omega⟩, ⟨by omega, by omega⟩, ⟨by omega, by omega⟩, ⟨by omega, by omega⟩⟩, qq _ _ rfl s5⟩
        · subst s5
          obtain ⟨bs, ez, hb⟩ := bls_true hz
          refine ⟨bs, ez, _, rfl, ?_⟩
          rw [hb]
          exact iteF (hK _ _ ⟨⟨_, _, _, _, _, _, rfl⟩, s3.trans s4⟩)
      · subst ed
        subst e0
        simp only [sSeq, sAsg, gNm, sRet, sRetN, bD, xD, nmD, startD, sIf, DL.tB, DL.tNot, DL.tAnd, DL.tOr, eAnd, eOr, eNot, eIf, isB, sDrop, sNext, sPar, eTup, eLst, eCall, eCB, aNil, aCons, eFld, eFldM, eProp, eMeth, eMethK, eNegO, eMake, eMakeK, eUn, sFldM, addI, addS, addL, subI, negI, mulI, mulL, divI, modI, powI, eqI, neI, eqS, neS, lenL, lenT, lenC, absI, intI, strI, repX, tupL, dmI, it0, it1, itL0, itL1, itL2, itL3, itL4, itL5, itL6, itR, eStat, oNone, oSome, eSl, gTp2', gIx, eLstM, eApp, rSame, rInt, rIntL, DL.rIn, DL.rNe, eFmt, eJs, eDic0, sNever, mx2, mn2, ltI, leI, gtI, geI, eChain, decide_eq_true_eq, List.map_cons, List.map_nil, List.length_cons, List.length_nil, Nat.reduceAdd, Nat.reduceSub, List.replicate_succ, List.replicate_zero, List.cons_append, List.nil_append, List.getElem?_cons_zero, List.getElem?_cons_succ, Option.some.injEq, exists_eq_left', List.set_cons_zero, List.set_cons_succ, if_true, if_false, Bool.false_eq_true, reduceIte, and_self, true_and, D.bl.injEq, D.ob.injEq, D.int.injEq, D.str.injEq, D.tup.injEq, exists_and_left, exists_eq_left, reduceCtorEq, and_true, lk_low, lk_high, exists_eq', and_self, made_eq, get_eq, two_eq, int_eq, neg_eq, txt_eq, is_eq, shared_eq, cont_eq, and_eq, wr_eq, mv_eq, pick1, pick2, leT, ltT, geT, gtT, eqT, neT, cxK, isi_eq T, Bool.not_true, Bool.not_false]
        refine ⟨le0, small2, ?_⟩
        refine ⟨⟨by decide, by decide⟩, for_ix (I := fun t ds m' => ∃ l h u4 u6 u7 u8, ds = [some (.ref p), some (.int b), some (.lst [.tup [.int l0, .int h0], y1, y2, y3]), some (.tup [.int l, .int h]), u4, some (spv l h), u6, u7, u8] ∧ l ≤ h ∧ (-(10 ^ 27 * ((t : Int) + 1)) ≤ l ∧ h ≤ 10 ^ 27 * ((t : Int) + 1)) ∧ Pst p m m') 0 (fun i v hv K ds m4 hI hK => ?_) _ _ ⟨l0, h0, _, _, _, _, rfl, le0, ⟨by omega, by omega⟩, s3⟩ (fun ds m4 hI => ?_)⟩
        · obtain ⟨l, h, u4, u6, u7, u8, rfl, le, ⟨a1, a2⟩, s4⟩ := hI
          obtain ⟨i10, rfl⟩ := rng_get hv
          have i10' : i < 10 := i10
          have eB : ∀ t : Nat, ((0 + t : Nat) : Int) = (t : Int) := fun t => by omega
          rw [eB] at a1 a2
          simp only [sSeq, sAsg, gNm, sRet, sRetN, bD, xD, nmD, startD, sIf, DL.tB, DL.tNot, DL.tAnd, DL.tOr, eAnd, eOr, eNot, eIf, isB, sDrop, sNext, sPar, eTup, eLst, eCall, eCB, aNil, aCons, eFld, eFldM, eProp, eMeth, eMethK, eNegO, eMake, eMakeK, eUn, sFldM, addI, addS, addL, subI, negI, mulI, mulL, divI, modI, powI, eqI, neI, eqS, neS, lenL, lenT, lenC, absI, intI, strI, repX, tupL, dmI, it0, it1, itL0, itL1, itL2, itL3, itL4, itL5, itL6, itR, eStat, oNone, oSome, eSl, gTp2', gIx, eLstM, eApp, rSame, rInt, rIntL, DL.rIn, DL.rNe, eFmt, eJs, eDic0, sNever, mx2, mn2, ltI, leI, gtI, geI, eChain, decide_eq_true_eq, List.map_cons, List.map_nil, List.length_cons, List.length_nil, Nat.reduceAdd, Nat.reduceSub, List.replicate_succ, List.replicate_zero, List.cons_append, List.nil_append, List.getElem?_cons_zero, List.getElem?_cons_succ, Option.some.injEq, exists_eq_left', List.set_cons_zero, List.set_cons_succ, if_true, if_false, Bool.false_eq_true, reduceIte, and_self, true_and, D.bl.injEq, D.ob.injEq, D.int.injEq, D.str.injEq, D.tup.injEq, exists_and_left, exists_eq_left, reduceCtorEq, and_true, lk_low, lk_high, exists_eq', and_self, made_eq, get_eq, two_eq, int_eq, neg_eq, txt_eq, is_eq, shared_eq, cont_eq, and_eq, wr_eq, mv_eq, pick1, pick2, leT, ltT, geT, gtT, eqT, neT, cxK, isi_eq T, Bool.not_true, Bool.not_false]
          refine ⟨p, l, h, 10 ^ 27 * ((i : Int) + 1), rfl, le, ⟨a1, a2, by omega, by omega⟩, s4.pot, fun l' h' m5 le' c1 c2 s5 => ?_⟩
          simp only [sSeq, sAsg, gNm, sRet, sRetN, bD, xD, nmD, startD, sIf, DL.tB, DL.tNot, DL.tAnd, DL.tOr, eAnd, eOr, eNot, eIf, isB, sDrop, sNext, sPar, eTup, eLst, eCall, eCB, aNil, aCons, eFld, eFldM, eProp, eMeth, eMethK, eNegO, eMake, eMakeK, eUn, sFldM, addI, addS, addL, subI, negI, mulI, mulL, divI, modI, powI, eqI, neI, eqS, neS, lenL, lenT, lenC, absI, intI, strI, repX, tupL, dmI, it0, it1, itL0, itL1, itL2, itL3, itL4, itL5, itL6, itR, eStat, oNone, oSome, eSl, gTp2', gIx, eLstM, eApp, rSame, rInt, rIntL, DL.rIn, DL.rNe, eFmt, eJs, eDic0, sNever, mx2, mn2, ltI, leI, gtI, geI, eChain, decide_eq_true_eq, List.map_cons, List.map_nil, List.length_cons, List.length_nil, Nat.reduceAdd, Nat.reduceSub, List.replicate_succ, List.replicate_zero, List.cons_append, List.nil_append, List.getElem?_cons_zero, List.getElem?_cons_succ, Option.some.injEq, exists_eq_left', List.set_cons_zero, List.set_cons_succ, if_true, if_false, Bool.false_eq_true, reduceIte, and_self, true_and, D.bl.injEq, D.ob.injEq, D.int.injEq, D.str.injEq, D.tup.injEq, exists_and_left, exists_eq_left, reduceCtorEq, and_true, lk_low, lk_high, exists_eq', and_self, made_eq, get_eq, two_eq, int_eq, neg_eq, txt_eq, is_eq, shared_eq, cont_eq, and_eq, wr_eq, mv_eq, pick1, pick2, leT, ltT, geT, gtT, eqT, neT, cxK, isi_eq T, Bool.not_true, Bool.not_false]
          refine ⟨f (by omega), f (by omega), f (by omega), f (by omega), f (by omega), f (by omega), hK _ _ ⟨l', h', _, _, _, _, rfl, le', ⟨by omega, by omega⟩, s4.trans s5⟩⟩
        · obtain ⟨l, h, u4, u6, u7, u8, rfl, le, ⟨a1, a2⟩, s4⟩ := hI
          exact ⟨_, rfl, _, rfl, p, b, rfl, s4.pot, ⟨by omega, by omega⟩, fun m5 s5 => q m5 (s4.trans s5)⟩
theorem ok_law (T : Tx K mg a d) : FnG false true P w K mg base 9 a.f_law d.f_law ["_law_script"] (spL (G a) s_lw) := by
  refine fn_okG T.F_law sc_law (fun _ _ _ _ ⟨_, e, _⟩ => len1 e) (fun cdv A outer s H E xs m Q x hr h => ⟨_, (dss_one (ds_ret (de_callB (cd_all (by rfl)) (by rfl) T.z_all boot_all (da_cons (de_lc (own := [("_law_k", 1)]) (tgt := .one 1) rfl sc_law.nd (by decide) (di_range1 (by rfl) T.z_range (da_cons (de_callB (cd_mx (by rfl) hr.u8) (by rfl) T.z_max boot_max (da_cons (de_c pe_int (fun _ => .int _)) (da_cons (de_callB (cd_mn (by rfl) hr.u8) (by rfl) T.z_min boot_min (da_cons (de_c pe_int (fun _ => .int _)) (da_cons (de_callB (cd_len) (by rfl) T.z_len boot_len (da_cons (de_nm (pv 0)) da_nil)) da_nil))) da_nil))) da_nil)) (blkOk_by (own := [("_law_k", 1)]) (N := N_law) (sc := defScope s_law) (by decide +kernel)) (fun _ _ _ _ _ => pg_name (i := 1) sc_law.nd rfl (Or.inl rfl)) (fun _ _ _ _ _ => dts_nil) (fun _ _ _ _ _ => (de_call (ok__law_right T) (hr.mono (show 8 ≤ _ by decide)) (by rfl) T.m__law_right T.F__law_right.kp T.b__law_right takesF (da_cons (de_call (ok__law_pot T).any (hr.mono (show 1 ≤ _ by decide)) (by rfl) T.m__law_pot T.F__law_pot.kp T.b__law_pot takesF (da_cons (de_nm (pv 0)) (da_cons (de_nm (pv 1)) da_nil))) da_nil)))) da_nil)))), ?_⟩)
  obtain ⟨ns, rfl, hl, q⟩ := h
  simp only [sSeq, sAsg, gNm, sRet, sRetN, bD, xD, nmD, startD, sIf, DL.tB, DL.tNot, DL.tAnd, DL.tOr, eAnd, eOr, eNot, eIf, isB, sDrop, sNext, sPar, eTup, eLst, eCall, eCB, aNil, aCons, eFld, eFldM, eProp, eMeth, eMethK, eNegO, eMake, eMakeK, eUn, sFldM, addI, addS, addL, subI, negI, mulI, mulL, divI, modI, powI, eqI, neI, eqS, neS, lenL, lenT, lenC, absI, intI, strI, repX, tupL, dmI, it0, it1, itL0, itL1, itL2, itL3, itL4, itL5, itL6, itR, eStat, oNone, oSome, eSl, gTp2', gIx, eLstM, eApp, rSame, rInt, rIntL, DL.rIn, DL.rNe, eFmt, eJs, eDic0, sNever, mx2, mn2, ltI, leI, gtI, geI, eChain, decide_eq_true_eq, List.map_cons, List.map_nil, List.length_cons, List.length_nil, Nat.reduceAdd, Nat.reduceSub, List.replicate_succ, List.replicate_zero, List.cons_append, List.nil_append, List.getElem?_cons_zero, List.getElem?_cons_succ, Option.some.injEq, exists_eq_left', List.set_cons_zero, List.set_cons_succ, if_true, if_false, Bool.false_eq_true, reduceIte, and_self, true_and, D.bl.injEq, D.ob.injEq, D.int.injEq, D.str.injEq, D.tup.injEq, exists_and_left, exists_eq_left, reduceCtorEq, and_true, lk_low, lk_high, exists_eq', and_self, made_eq, get_eq, two_eq, int_eq, neg_eq, txt_eq, is_eq, shared_eq, cont_eq, and_eq, wr_eq, mv_eq, pick1, pick2, leT, ltT, geT, gtT, eqT, neT, cxK, isi_eq T, Bool.not_true, Bool.not_false, eLc, iR1]
  refine ⟨⟨by omega, by omega⟩, ?_, ?_⟩
  · rw [rng_len]
    exact Nat.lt_of_le_of_lt (show _ ≤ 5 by omega) (by decide)
  · refine lc_st (S := fun _ => True) (R := fun y => y = .bl true) (fun v hv m1 Q _ qq => ?_) [] _ True.intro (fun zs m1 hl hz _ => ?_)
    · obtain ⟨k, rfl, hk⟩ := rng_at hv
      refine ⟨_, rfl, _, rfl, ns, _, rfl, by omega, by omega, fun p a b hp pv => ?_⟩
      exact ⟨p, rfl, ⟨a, b, mset_same, pv⟩, fun m' _ => qq _ _ rfl True.intro⟩
    · obtain ⟨bs, ez, hb⟩ := bls_true hz
      refine ⟨bs, ez, ?_⟩
      rw [hb]
      exact q _
end
theorem all_mk {P : Program} {w : World} {K : PySem.W.Frag} {h : Heap} {mg : Str → Option Value} {fa : Addr} (X : K.In h) (E0 : h.Ns mainGlobals mg) (hfa : mg "law" = some (.ref fa))
    {f0 f1 f2 f3 f4 f5 f6 f7 f8 f9 f10 f11 f12 f13 f14 f15 f16 f17 f18 f19 f20 f21 f22 f23 f24 f25 f26 f27 f28 f29 f30 f31 f32 f33 f34 f35 f36 f37 Span InvalidLevel InvalidSpan EmptySpan Apart StateError AbreastError MissingError LimitError p6 p7 p8 p5 : Addr} {R6 R7 R8 R5 : List Value} {fo1 fo2 fo3 fo4 : Option Value}
    {nm0 q0 : Str} {N0 : Addr} {bs0 bm0 : List Value} {sn0 : List Str} {sub0 : List Value} {ab0 : Bool} {col0 : Option Bool} {dd0 : Option Addr} {m0 m1 m2 m3 m5 : Option Value}
    {od0 an0 od1 an1 od2 an2 od3 an3 od4 an4 od5 an5 od6 an6 od7 an7 od8 an8 od9 an9 od10 an10 od11 an11 od12 an12 od13 an13 od14 an14 od15 an15 od16 an16 od17 an17 od18 an18 od19 an19 od20 an20 od21 an21 od22 an22 od23 an23 od24 an24 od25 an25 od26 an26 od27 an27 od28 an28 od29 an29 od30 an30 od31 an31 od32 an32 od33 an33 od34 an34 od35 an35 od36 an36 od37 an37 : Option Addr} {sl0 sl1 sl2 sl3 sl4 sl5 sl6 sl7 sl8 sl9 sl10 sl11 sl12 sl13 sl14 sl15 sl16 sl17 sl18 sl19 sl20 sl21 sl22 sl23 sl24 sl25 sl26 sl27 sl28 sl29 sl30 sl31 sl32 sl33 sl34 sl35 sl36 sl37 : Array (Option Value)} {oc0 kV0 dc0 pm0 cd0 ct0 oc1 kV1 dc1 pm1 cd1 ct1 oc2 kV2 dc2 pm2 cd2 ct2 oc3 kV3 dc3 pm3 cd3 ct3 oc4 kV4 dc4 pm4 cd4 ct4 oc5 kV5 dc5 pm5 cd5 ct5 oc6 kV6 dc6 pm6 cd6 ct6 oc7 kV7 dc7 pm7 cd7 ct7 oc8 kV8 dc8 pm8 cd8 ct8 oc9 kV9 dc9 pm9 cd9 ct9 oc10 kV10 dc10 pm10 cd10 ct10 oc11 kV11 dc11 pm11 cd11 ct11 oc12 kV12 dc12 pm12 cd12 ct12 oc13 kV13 dc13 pm13 cd13 ct13 oc14 kV14 dc14 pm14 cd14 ct14 oc15 kV15 dc15 pm15 cd15 ct15 oc16 kV16 dc16 pm16 cd16 ct16 oc17 kV17 dc17 pm17 cd17 ct17 oc18 kV18 dc18 pm18 cd18 ct18 oc19 kV19 dc19 pm19 cd19 ct19 oc20 kV20 dc20 pm20 cd20 ct20 oc21 kV21 dc21 pm21 cd21 ct21 oc22 kV22 dc22 pm22 cd22 ct22 oc23 kV23 dc23 pm23 cd23 ct23 oc24 kV24 dc24 pm24 cd24 ct24 oc25 kV25 dc25 pm25 cd25 ct25 oc26 kV26 dc26 pm26 cd26 ct26 oc27 kV27 dc27 pm27 cd27 ct27 oc28 kV28 dc28 pm28 cd28 ct28 oc29 kV29 dc29 pm29 cd29 ct29 oc30 kV30 dc30 pm30 cd30 ct30 oc31 kV31 dc31 pm31 cd31 ct31 oc32 kV32 dc32 pm32 cd32 ct32 oc33 kV33 dc33 pm33 cd33 ct33 oc34 kV34 dc34 pm34 cd34 ct34 oc35 kV35 dc35 pm35 cd35 ct35 oc36 kV36 dc36 pm36 cd36 ct36 oc37 kV37 dc37 pm37 cd37 ct37 : Value}
    (a0 : PySem.W.nsIn K mainGlobals "is_integer" = some (some (.ref f0)))
    (a1 : PySem.W.nsIn K mainGlobals "want_level" = some (some (.ref f1)))
    (a2 : PySem.W.nsIn K mainGlobals "want_span" = some (some (.ref f2)))
    (a24 : PySem.W.nsIn K mainGlobals "_law_pot" = some (some (.ref f24)))
    (a25 : PySem.W.nsIn K mainGlobals "_law_draw" = some (some (.ref f25)))
    (a26 : PySem.W.nsIn K mainGlobals "_law_number" = some (some (.ref f26)))
    (a27 : PySem.W.nsIn K mainGlobals "_law_bounds" = some (some (.ref f27)))
    (a28 : PySem.W.nsIn K mainGlobals "_law_made" = some (some (.ref f28)))
    (a29 : PySem.W.nsIn K mainGlobals "_law_is" = some (some (.ref f29)))
    (a30 : PySem.W.nsIn K mainGlobals "_law_shared" = some (some (.ref f30)))
    (a31 : PySem.W.nsIn K mainGlobals "_law_two_right" = some (some (.ref f31)))
    (a32 : PySem.W.nsIn K mainGlobals "_law_within_right" = some (some (.ref f32)))
    (a33 : PySem.W.nsIn K mainGlobals "_law_moved_right" = some (some (.ref f33)))
    (a34 : PySem.W.nsIn K mainGlobals "_law_around_right" = some (some (.ref f34)))
    (a35 : PySem.W.nsIn K mainGlobals "_law_step" = some (some (.ref f35)))
    (a36 : PySem.W.nsIn K mainGlobals "_law_right" = some (some (.ref f36)))
    (a37 : PySem.W.nsIn K mainGlobals "law" = some (some (.ref f37)))
    (CSpan : PySem.W.nsIn K mainGlobals "Span" = some (some (.ref Span)))
    (CInvalidLevel : PySem.W.nsIn K mainGlobals "InvalidLevel" = some (some (.ref InvalidLevel)))
    (CInvalidSpan : PySem.W.nsIn K mainGlobals "InvalidSpan" = some (some (.ref InvalidSpan)))
    (CEmptySpan : PySem.W.nsIn K mainGlobals "EmptySpan" = some (some (.ref EmptySpan)))
    (CApart : PySem.W.nsIn K mainGlobals "Apart" = some (some (.ref Apart)))
    (CStateError : PySem.W.nsIn K mainGlobals "StateError" = some (some (.ref StateError)))
    (CAbreastError : PySem.W.nsIn K mainGlobals "AbreastError" = some (some (.ref AbreastError)))
    (CMissingError : PySem.W.nsIn K mainGlobals "MissingError" = some (some (.ref MissingError)))
    (CLimitError : PySem.W.nsIn K mainGlobals "LimitError" = some (some (.ref LimitError)))
    (a3 : PySem.W.findIn K (.ref Apart) "__init__" = some (some (.ref f3)))
    (i3 : PySem.W.isFn K (.ref f3) = true)
    (a4 : PySem.W.findIn K (.ref Span) "__init__" = some (some (.ref f4)))
    (i4 : PySem.W.isFn K (.ref f4) = true)
    (a5 : PySem.W.findCls K (.ref Span) (.type "type") "around" = some (.get (.builtin "staticmethod.__get__") (.ref p5) .none (.ref Span)))
    (r5 : PySem.W.recIn K p5 "staticmethod" = some (.ref f5 :: R5))
    (g5 : PySem.W.readsIn K Span (.type "type") = true)
    (t5 : PySem.W.specialIn K (.ref Span) "__getattribute__" = some (some (.builtin "type.__getattribute__")))
    (a6 : PySem.W.findIn K (.ref Span) "low" = some (some (.ref p6)))
    (r6 : PySem.W.recIn K p6 "property" = some (.ref f6 :: R6))
    (g6 : PySem.W.specialIn K (.ref p6) "__get__" = some (some (.builtin "property.__get__")))
    (t6 : PySem.W.takesIn K (.ref p6) = some true)
    (a7 : PySem.W.findIn K (.ref Span) "high" = some (some (.ref p7)))
    (r7 : PySem.W.recIn K p7 "property" = some (.ref f7 :: R7))
    (g7 : PySem.W.specialIn K (.ref p7) "__get__" = some (some (.builtin "property.__get__")))
    (t7 : PySem.W.takesIn K (.ref p7) = some true)
    (a8 : PySem.W.findIn K (.ref Span) "width" = some (some (.ref p8)))
    (r8 : PySem.W.recIn K p8 "property" = some (.ref f8 :: R8))
    (g8 : PySem.W.specialIn K (.ref p8) "__get__" = some (some (.builtin "property.__get__")))
    (t8 : PySem.W.takesIn K (.ref p8) = some true)
    (a9 : PySem.W.findIn K (.ref Span) "is_within" = some (some (.ref f9)))
    (i9 : PySem.W.isFn K (.ref f9) = true)
    (a10 : PySem.W.findIn K (.ref Span) "__contains__" = some (some (.ref f10)))
    (i10 : PySem.W.isFn K (.ref f10) = true)
    (a11 : PySem.W.findIn K (.ref Span) "__and__" = some (some (.ref f11)))
    (i11 : PySem.W.isFn K (.ref f11) = true)
    (a12 : PySem.W.findIn K (.ref Span) "__or__" = some (some (.ref f12)))
    (i12 : PySem.W.isFn K (.ref f12) = true)
    (a13 : PySem.W.findIn K (.ref Span) "__add__" = some (some (.ref f13)))
    (i13 : PySem.W.isFn K (.ref f13) = true)
    (a14 : PySem.W.findIn K (.ref Span) "__radd__" = some (some (.ref f14)))
    (i14 : PySem.W.isFn K (.ref f14) = true)
    (a15 : PySem.W.findIn K (.ref Span) "__sub__" = some (some (.ref f15)))
    (i15 : PySem.W.isFn K (.ref f15) = true)
    (a16 : PySem.W.findIn K (.ref Span) "__neg__" = some (some (.ref f16)))
    (i16 : PySem.W.isFn K (.ref f16) = true)
    (a17 : PySem.W.findIn K (.ref Span) "__lt__" = some (some (.ref f17)))
    (i17 : PySem.W.isFn K (.ref f17) = true)
    (a18 : PySem.W.findIn K (.ref Span) "__le__" = some (some (.ref f18)))
    (i18 : PySem.W.isFn K (.ref f18) = true)
    (a19 : PySem.W.findIn K (.ref Span) "__gt__" = some (some (.ref f19)))
    (i19 : PySem.W.isFn K (.ref f19) = true)
    (a20 : PySem.W.findIn K (.ref Span) "__ge__" = some (some (.ref f20)))
    (i20 : PySem.W.isFn K (.ref f20) = true)
    (a21 : PySem.W.findIn K (.ref Span) "__eq__" = some (some (.ref f21)))
    (i21 : PySem.W.isFn K (.ref f21) = true)
    (a22 : PySem.W.findIn K (.ref Span) "__str__" = some (some (.ref f22)))
    (i22 : PySem.W.isFn K (.ref f22) = true)
    (a23 : PySem.W.findIn K (.ref Span) "__repr__" = some (some (.ref f23)))
    (i23 : PySem.W.isFn K (.ref f23) = true)
    (l0 : K.lookup f0 = some ⟨oc0, od0, .func (PySem.W.fnOf "is_integer" "is_integer" (defArgs s_is_integer) (defBody s_is_integer) (defScope s_is_integer) .none kV0 dc0 pm0 an0 cd0 ct0), sl0⟩)
    (c0 : PySem.W.codeIn K cd0 "is_integer" = true)
    (k0 : PySem.W.keepIn K (.ref f0) = true)
    (l1 : K.lookup f1 = some ⟨oc1, od1, .func (PySem.W.fnOf "want_level" "want_level" (defArgs s_want_level) (defBody s_want_level) (defScope s_want_level) .none kV1 dc1 pm1 an1 cd1 ct1), sl1⟩)
    (c1 : PySem.W.codeIn K cd1 "want_level" = true)
    (k1 : PySem.W.keepIn K (.ref f1) = true)
    (l2 : K.lookup f2 = some ⟨oc2, od2, .func (PySem.W.fnOf "want_span" "want_span" (defArgs s_want_span) (defBody s_want_span) (defScope s_want_span) .none kV2 dc2 pm2 an2 cd2 ct2), sl2⟩)
    (c2 : PySem.W.codeIn K cd2 "want_span" = true)
    (k2 : PySem.W.keepIn K (.ref f2) = true)
    (l3 : K.lookup f3 = some ⟨oc3, od3, .func (PySem.W.fnOf "__init__" "Apart.__init__" (defArgs s_Apart___init__) (defBody s_Apart___init__) (defScope s_Apart___init__) .none kV3 dc3 pm3 an3 cd3 ct3), sl3⟩)
    (c3 : PySem.W.codeIn K cd3 "Apart.__init__" = true)
    (k3 : PySem.W.keepIn K (.ref f3) = true)
    (l4 : K.lookup f4 = some ⟨oc4, od4, .func (PySem.W.fnOf "__init__" "Span.__init__" (defArgs s_Span___init__) (defBody s_Span___init__) (defScope s_Span___init__) .none kV4 dc4 pm4 an4 cd4 ct4), sl4⟩)
    (c4 : PySem.W.codeIn K cd4 "Span.__init__" = true)
    (k4 : PySem.W.keepIn K (.ref f4) = true)
    (l5 : K.lookup f5 = some ⟨oc5, od5, .func (PySem.W.fnOf "around" "Span.around" (defArgs s_Span_around) (defBody s_Span_around) (defScope s_Span_around) .none kV5 dc5 pm5 an5 cd5 ct5), sl5⟩)
    (c5 : PySem.W.codeIn K cd5 "Span.around" = true)
    (k5 : PySem.W.keepIn K (.ref f5) = true)
    (l6 : K.lookup f6 = some ⟨oc6, od6, .func (PySem.W.fnOf "low" "Span.low" (defArgs s_Span_low) (defBody s_Span_low) (defScope s_Span_low) .none kV6 dc6 pm6 an6 cd6 ct6), sl6⟩)
    (c6 : PySem.W.codeIn K cd6 "Span.low" = true)
    (k6 : PySem.W.keepIn K (.ref f6) = true)
    (l7 : K.lookup f7 = some ⟨oc7, od7, .func (PySem.W.fnOf "high" "Span.high" (defArgs s_Span_high) (defBody s_Span_high) (defScope s_Span_high) .none kV7 dc7 pm7 an7 cd7 ct7), sl7⟩)
    (c7 : PySem.W.codeIn K cd7 "Span.high" = true)
    (k7 : PySem.W.keepIn K (.ref f7) = true)
    (l8 : K.lookup f8 = some ⟨oc8, od8, .func (PySem.W.fnOf "width" "Span.width" (defArgs s_Span_width) (defBody s_Span_width) (defScope s_Span_width) .none kV8 dc8 pm8 an8 cd8 ct8), sl8⟩)
    (c8 : PySem.W.codeIn K cd8 "Span.width" = true)
    (k8 : PySem.W.keepIn K (.ref f8) = true)
    (l9 : K.lookup f9 = some ⟨oc9, od9, .func (PySem.W.fnOf "is_within" "Span.is_within" (defArgs s_Span_is_within) (defBody s_Span_is_within) (defScope s_Span_is_within) .none kV9 dc9 pm9 an9 cd9 ct9), sl9⟩)
    (c9 : PySem.W.codeIn K cd9 "Span.is_within" = true)
    (k9 : PySem.W.keepIn K (.ref f9) = true)
    (l10 : K.lookup f10 = some ⟨oc10, od10, .func (PySem.W.fnOf "__contains__" "Span.__contains__" (defArgs s_Span___contains__) (defBody s_Span___contains__) (defScope s_Span___contains__) .none kV10 dc10 pm10 an10 cd10 ct10), sl10⟩)
    (c10 : PySem.W.codeIn K cd10 "Span.__contains__" = true)
    (k10 : PySem.W.keepIn K (.ref f10) = true)
    (l11 : K.lookup f11 = some ⟨oc11, od11, .func (PySem.W.fnOf "__and__" "Span.__and__" (defArgs s_Span___and__) (defBody s_Span___and__) (defScope s_Span___and__) .none kV11 dc11 pm11 an11 cd11 ct11), sl11⟩)
    (c11 : PySem.W.codeIn K cd11 "Span.__and__" = true)
    (k11 : PySem.W.keepIn K (.ref f11) = true)
    (l12 : K.lookup f12 = some ⟨oc12, od12, .func (PySem.W.fnOf "__or__" "Span.__or__" (defArgs s_Span___or__) (defBody s_Span___or__) (defScope s_Span___or__) .none kV12 dc12 pm12 an12 cd12 ct12), sl12⟩)
    (c12 : PySem.W.codeIn K cd12 "Span.__or__" = true)
    (k12 : PySem.W.keepIn K (.ref f12) = true)
    (l13 : K.lookup f13 = some ⟨oc13, od13, .func (PySem.W.fnOf "__add__" "Span.__add__" (defArgs s_Span___add__) (defBody s_Span___add__) (defScope s_Span___add__) .none kV13 dc13 pm13 an13 cd13 ct13), sl13⟩)
    (c13 : PySem.W.codeIn K cd13 "Span.__add__" = true)
    (k13 : PySem.W.keepIn K (.ref f13) = true)
    (l14 : K.lookup f14 = some ⟨oc14, od14, .func (PySem.W.fnOf "__radd__" "Span.__radd__" (defArgs s_Span___radd__) (defBody s_Span___radd__) (defScope s_Span___radd__) .none kV14 dc14 pm14 an14 cd14 ct14), sl14⟩)
    (c14 : PySem.W.codeIn K cd14 "Span.__radd__" = true)
    (k14 : PySem.W.keepIn K (.ref f14) = true)
    (l15 : K.lookup f15 = some ⟨oc15, od15, .func (PySem.W.fnOf "__sub__" "Span.__sub__" (defArgs s_Span___sub__) (defBody s_Span___sub__) (defScope s_Span___sub__) .none kV15 dc15 pm15 an15 cd15 ct15), sl15⟩)
    (c15 : PySem.W.codeIn K cd15 "Span.__sub__" = true)
    (k15 : PySem.W.keepIn K (.ref f15) = true)
    (l16 : K.lookup f16 = some ⟨oc16, od16, .func (PySem.W.fnOf "__neg__" "Span.__neg__" (defArgs s_Span___neg__) (defBody s_Span___neg__) (defScope s_Span___neg__) .none kV16 dc16 pm16 an16 cd16 ct16), sl16⟩)
    (c16 : PySem.W.codeIn K cd16 "Span.__neg__" = true)
    (k16 : PySem.W.keepIn K (.ref f16) = true)
    (l17 : K.lookup f17 = some ⟨oc17, od17, .func (PySem.W.fnOf "__lt__" "Span.__lt__" (defArgs s_Span___lt__) (defBody s_Span___lt__) (defScope s_Span___lt__) .none kV17 dc17 pm17 an17 cd17 ct17), sl17⟩)
    (c17 : PySem.W.codeIn K cd17 "Span.__lt__" = true)
    (k17 : PySem.W.keepIn K (.ref f17) = true)
    (l18 : K.lookup f18 = some ⟨oc18, od18, .func (PySem.W.fnOf "__le__" "Span.__le__" (defArgs s_Span___le__) (defBody s_Span___le__) (defScope s_Span___le__) .none kV18 dc18 pm18 an18 cd18 ct18), sl18⟩)
    (c18 : PySem.W.codeIn K cd18 "Span.__le__" = true)
    (k18 : PySem.W.keepIn K (.ref f18) = true)
    (l19 : K.lookup f19 = some ⟨oc19, od19, .func (PySem.W.fnOf "__gt__" "Span.__gt__" (defArgs s_Span___gt__) (defBody s_Span___gt__) (defScope s_Span___gt__) .none kV19 dc19 pm19 an19 cd19 ct19), sl19⟩)
    (c19 : PySem.W.codeIn K cd19 "Span.__gt__" = true)
    (k19 : PySem.W.keepIn K (.ref f19) = true)
    (l20 : K.lookup f20 = some ⟨oc20, od20, .func (PySem.W.fnOf "__ge__" "Span.__ge__" (defArgs s_Span___ge__) (defBody s_Span___ge__) (defScope s_Span___ge__) .none kV20 dc20 pm20 an20 cd20 ct20), sl20⟩)
    (c20 : PySem.W.codeIn K cd20 "Span.__ge__" = true)
    (k20 : PySem.W.keepIn K (.ref f20) = true)
    (l21 : K.lookup f21 = some ⟨oc21, od21, .func (PySem.W.fnOf "__eq__" "Span.__eq__" (defArgs s_Span___eq__) (defBody s_Span___eq__) (defScope s_Span___eq__) .none kV21 dc21 pm21 an21 cd21 ct21), sl21⟩)
    (c21 : PySem.W.codeIn K cd21 "Span.__eq__" = true)
    (k21 : PySem.W.keepIn K (.ref f21) = true)
    (l22 : K.lookup f22 = some ⟨oc22, od22, .func (PySem.W.fnOf "__str__" "Span.__str__" (defArgs s_Span___str__) (defBody s_Span___str__) (defScope s_Span___str__) .none kV22 dc22 pm22 an22 cd22 ct22), sl22⟩)
    (c22 : PySem.W.codeIn K cd22 "Span.__str__" = true)
    (k22 : PySem.W.keepIn K (.ref f22) = true)
    (l23 : K.lookup f23 = some ⟨oc23, od23, .func (PySem.W.fnOf "__repr__" "Span.__repr__" (defArgs s_Span___repr__) (defBody s_Span___repr__) (defScope s_Span___repr__) .none kV23 dc23 pm23 an23 cd23 ct23), sl23⟩)
    (c23 : PySem.W.codeIn K cd23 "Span.__repr__" = true)
    (k23 : PySem.W.keepIn K (.ref f23) = true)
    (l24 : K.lookup f24 = some ⟨oc24, od24, .func (PySem.W.fnOf "_law_pot" "_law_pot" (defArgs s__law_pot) (defBody s__law_pot) (defScope s__law_pot) .none kV24 dc24 pm24 an24 cd24 ct24), sl24⟩)
    (c24 : PySem.W.codeIn K cd24 "_law_pot" = true)
    (k24 : PySem.W.keepIn K (.ref f24) = true)
    (l25 : K.lookup f25 = some ⟨oc25, od25, .func (PySem.W.fnOf "_law_draw" "_law_draw" (defArgs s__law_draw) (defBody s__law_draw) (defScope s__law_draw) .none kV25 dc25 pm25 an25 cd25 ct25), sl25⟩)
    (c25 : PySem.W.codeIn K cd25 "_law_draw" = true)
    (k25 : PySem.W.keepIn K (.ref f25) = true)
    (l26 : K.lookup f26 = some ⟨oc26, od26, .func (PySem.W.fnOf "_law_number" "_law_number" (defArgs s__law_number) (defBody s__law_number) (defScope s__law_number) .none kV26 dc26 pm26 an26 cd26 ct26), sl26⟩)
    (c26 : PySem.W.codeIn K cd26 "_law_number" = true)
    (k26 : PySem.W.keepIn K (.ref f26) = true)
    (l27 : K.lookup f27 = some ⟨oc27, od27, .func (PySem.W.fnOf "_law_bounds" "_law_bounds" (defArgs s__law_bounds) (defBody s__law_bounds) (defScope s__law_bounds) .none kV27 dc27 pm27 an27 cd27 ct27), sl27⟩)
    (c27 : PySem.W.codeIn K cd27 "_law_bounds" = true)
    (k27 : PySem.W.keepIn K (.ref f27) = true)
    (l28 : K.lookup f28 = some ⟨oc28, od28, .func (PySem.W.fnOf "_law_made" "_law_made" (defArgs s__law_made) (defBody s__law_made) (defScope s__law_made) .none kV28 dc28 pm28 an28 cd28 ct28), sl28⟩)
    (c28 : PySem.W.codeIn K cd28 "_law_made" = true)
    (k28 : PySem.W.keepIn K (.ref f28) = true)
    (l29 : K.lookup f29 = some ⟨oc29, od29, .func (PySem.W.fnOf "_law_is" "_law_is" (defArgs s__law_is) (defBody s__law_is) (defScope s__law_is) .none kV29 dc29 pm29 an29 cd29 ct29), sl29⟩)
    (c29 : PySem.W.codeIn K cd29 "_law_is" = true)
    (k29 : PySem.W.keepIn K (.ref f29) = true)
    (l30 : K.lookup f30 = some ⟨oc30, od30, .func (PySem.W.fnOf "_law_shared" "_law_shared" (defArgs s__law_shared) (defBody s__law_shared) (defScope s__law_shared) .none kV30 dc30 pm30 an30 cd30 ct30), sl30⟩)
    (c30 : PySem.W.codeIn K cd30 "_law_shared" = true)
    (k30 : PySem.W.keepIn K (.ref f30) = true)
    (l31 : K.lookup f31 = some ⟨oc31, od31, .func (PySem.W.fnOf "_law_two_right" "_law_two_right" (defArgs s__law_two_right) (defBody s__law_two_right) (defScope s__law_two_right) .none kV31 dc31 pm31 an31 cd31 ct31), sl31⟩)
    (c31 : PySem.W.codeIn K cd31 "_law_two_right" = true)
    (k31 : PySem.W.keepIn K (.ref f31) = true)
    (l32 : K.lookup f32 = some ⟨oc32, od32, .func (PySem.W.fnOf "_law_within_right" "_law_within_right" (defArgs s__law_within_right) (defBody s__law_within_right) (defScope s__law_within_right) .none kV32 dc32 pm32 an32 cd32 ct32), sl32⟩)
    (c32 : PySem.W.codeIn K cd32 "_law_within_right" = true)
    (k32 : PySem.W.keepIn K (.ref f32) = true)
    (l33 : K.lookup f33 = some ⟨oc33, od33, .func (PySem.W.fnOf "_law_moved_right" "_law_moved_right" (defArgs s__law_moved_right) (defBody s__law_moved_right) (defScope s__law_moved_right) .none kV33 dc33 pm33 an33 cd33 ct33), sl33⟩)
    (c33 : PySem.W.codeIn K cd33 "_law_moved_right" = true)
    (k33 : PySem.W.keepIn K (.ref f33) = true)
    (l34 : K.lookup f34 = some ⟨oc34, od34, .func (PySem.W.fnOf "_law_around_right" "_law_around_right" (defArgs s__law_around_right) (defBody s__law_around_right) (defScope s__law_around_right) .none kV34 dc34 pm34 an34 cd34 ct34), sl34⟩)
    (c34 : PySem.W.codeIn K cd34 "_law_around_right" = true)
    (k34 : PySem.W.keepIn K (.ref f34) = true)
    (l35 : K.lookup f35 = some ⟨oc35, od35, .func (PySem.W.fnOf "_law_step" "_law_step" (defArgs s__law_step) (defBody s__law_step) (defScope s__law_step) .none kV35 dc35 pm35 an35 cd35 ct35), sl35⟩)
    (c35 : PySem.W.codeIn K cd35 "_law_step" = true)
    (k35 : PySem.W.keepIn K (.ref f35) = true)
    (l36 : K.lookup f36 = some ⟨oc36, od36, .func (PySem.W.fnOf "_law_right" "_law_right" (defArgs s__law_right) (defBody s__law_right) (defScope s__law_right) .none kV36 dc36 pm36 an36 cd36 ct36), sl36⟩)
    (c36 : PySem.W.codeIn K cd36 "_law_right" = true)
    (k36 : PySem.W.keepIn K (.ref f36) = true)
    (l37 : K.lookup f37 = some ⟨oc37, od37, .func (PySem.W.fnOf "law" "law" (defArgs s_law) (defBody s_law) (defScope s_law) .none kV37 dc37 pm37 an37 cd37 ct37), sl37⟩)
    (c37 : PySem.W.codeIn K cd37 "law" = true)
    (k37 : PySem.W.keepIn K (.ref f37) = true)
    (sp1 : PySem.W.plainGet K Span Str.empty = true)
    (sp2 : PySem.W.hasDictIn K Span = true)
    (sp3 : PySem.W.plainOver K Span = true)
    (sp4 : PySem.W.findIn K (.ref Span) "__setattr__" = some (some (.builtin "object.__setattr__")))
    (sp5 : PySem.W.findIn K (.ref Span) "__class__" = some (some (.builtin "object.__class__")))
    (sp6 : PySem.W.specialIn K (.builtin "object.__class__") "__get__" = some (some (.builtin "getset_descriptor.__get__")))
    (sp7 : PySem.W.takesIn K (.builtin "object.__class__") = some true)
    (sp8 : PySem.W.mroIn K Span (.type "object") = some true)
    (sp9 : PySem.W.findIn K (.ref Span) "own_low" = some none)
    (sq1 : PySem.W.findIn K (.ref Span) "own_high" = some none)
    (sq2 : PySem.W.makesIn K Span = true)
    (sq3 : PySem.W.keepIn K (.ref Span) = true)
    (sq4 : PySem.W.selfFirst K Span = true)
    (sq5 : PySem.W.subIn K (.ref Span) (.type "int") = some false)
    (sq6 : PySem.W.findIn K (.ref Span) "__ne__" = some (some (.builtin "object.__ne__")))
    (sq7 : PySem.W.subIn K (.ref Span) (.type "object") = some true)
    (sq9 : PySem.W.subIn K (.ref Span) (.type "bool") = some false)
    (sr1 : PySem.W.findIn K (.type "int") "__add__" = some fo1)
    (sr2 : PySem.W.findIn K (.type "int") "__radd__" = some fo2)
    (sr3 : PySem.W.findIn K (.type "int") "__sub__" = some fo3)
    (sr4 : PySem.W.findIn K (.type "int") "__rsub__" = some fo4)
    (sr5 : PySem.W.subIn K (.type "int") (.ref Span) = some false)
    (sr6 : PySem.W.findIn K (.ref Span) "__rsub__" = some none)
    (ap0 : K.lookup Apart = some (excClassObj nm0 q0 Apart N0 bs0 bm0 true sn0 sub0 ab0 col0 dd0 m0 m1 m2 m3 m5 "RuntimeError.__new__"))
    (ap1 : PySem.DLX.refsG [.type "RuntimeError", .type "Exception", .type "BaseException", .type "object"] bm0 = true)
    (ap2 : PySem.W.findIn K (.ref Apart) "__setattr__" = some (some (.builtin "object.__setattr__")))
    (ap3 : PySem.W.subIn K (.ref Apart) (.type "BaseException") = some true)
    (ap4 : PySem.W.typeIn K (.ref Apart) = some (.type "type"))
    (ap5 : PySem.W.keepIn K (.ref Apart) = true)
    (ap6 : PySem.W.typeIn K (.ref f3) = some (.type "function"))
    (ap7 : PySem.W.findIn K (.ref Apart) "one" = some none)
    (ap8 : PySem.W.findIn K (.ref Apart) "other" = some none)
    (ap9 : PySem.W.findIn K (.ref Apart) "__getattribute__" = some (some (.builtin "BaseException.__getattribute__")))
    (aq1 : PySem.W.findIn K (.ref Apart) "__getattr__" = some none)
    (aq2 : PySem.W.hasDictIn K Apart = true)
    (aq3 : PySem.W.findIn K (.ref Apart) "__class__" = some (some (.builtin "object.__class__")))
    (aq4 : PySem.W.mroIn K Apart (.type "object") = some true)
    (aq5 : PySem.W.subIn K (.ref Apart) (.ref StateError) = some true)
    (aq6 : PySem.W.subIn K (.ref Apart) (.type "RuntimeError") = some true)
    (aq7 : PySem.W.subIn K (.ref Apart) (.ref Apart) = some true)
    (cl_StateError : PySem.W.isClsIn K StateError = true)
    (ct_StateError : PySem.W.typeIn K (.ref StateError) = some (.type "type"))
    (cl_AbreastError : PySem.W.isClsIn K AbreastError = true)
    (ct_AbreastError : PySem.W.typeIn K (.ref AbreastError) = some (.type "type"))
    (no_AbreastError : PySem.W.subIn K (.ref Apart) (.ref AbreastError) = some false)
    (cl_MissingError : PySem.W.isClsIn K MissingError = true)
    (ct_MissingError : PySem.W.typeIn K (.ref MissingError) = some (.type "type"))
    (no_MissingError : PySem.W.subIn K (.ref Apart) (.ref MissingError) = some false)
    (cl_LimitError : PySem.W.isClsIn K LimitError = true)
    (ct_LimitError : PySem.W.typeIn K (.ref LimitError) = some (.type "type"))
    (no_LimitError : PySem.W.subIn K (.ref Apart) (.ref LimitError) = some false)
    (z_isinstance : PySem.W.nsIn K mainGlobals "isinstance" = some none)
    (z_min : PySem.W.nsIn K mainGlobals "min" = some none)
    (z_max : PySem.W.nsIn K mainGlobals "max" = some none)
    (z_len : PySem.W.nsIn K mainGlobals "len" = some none)
    (z_abs : PySem.W.nsIn K mainGlobals "abs" = some none)
    (z_int : PySem.W.nsIn K mainGlobals "int" = some none)
    (z_divmod : PySem.W.nsIn K mainGlobals "divmod" = some none)
    (z_tuple : PySem.W.nsIn K mainGlobals "tuple" = some none)
    (z_sorted : PySem.W.nsIn K mainGlobals "sorted" = some none)
    (z_str : PySem.W.nsIn K mainGlobals "str" = some none)
    (z_repr : PySem.W.nsIn K mainGlobals "repr" = some none)
    (z_range : PySem.W.nsIn K mainGlobals "range" = some none)
    (z_all : PySem.W.nsIn K mainGlobals "all" = some none)
    (z_enumerate : PySem.W.nsIn K mainGlobals "enumerate" = some none)
    (z_bool : PySem.W.nsIn K mainGlobals "bool" = some none)
    (z_RuntimeError : PySem.W.nsIn K mainGlobals "RuntimeError" = some none)
    :
    ∃ (fd : FuncData) (G : CT), (∀ (s : Shared) (u : Value), BindsTo s fd ⟨[u], []⟩ [(("_law_script" : Str), u)]) ∧ ∀ base : Heap, K.In base → base.Ns mainGlobals mg → FnG false true P w K mg base 9 fa fd ["_law_script"] (spL G s_lw) := by
  have e := hfa.symm.trans (PySem.W.mg_of X E0 a37)
  cases e
  have F0 := fun_mk (st := s_is_integer) l0 c0 k0
  have F1 := fun_mk (st := s_want_level) l1 c1 k1
  have F2 := fun_mk (st := s_want_span) l2 c2 k2
  have F3 := fun_mk (st := s_Apart___init__) l3 c3 k3
  have F4 := fun_mk (st := s_Span___init__) l4 c4 k4
  have F5 := fun_mk (st := s_Span_around) l5 c5 k5
  have F6 := fun_mk (st := s_Span_low) l6 c6 k6
  have F7 := fun_mk (st := s_Span_high) l7 c7 k7
  have F8 := fun_mk (st := s_Span_width) l8 c8 k8
  have F9 := fun_mk (st := s_Span_is_within) l9 c9 k9
  have F10 := fun_mk (st := s_Span___contains__) l10 c10 k10
  have F11 := fun_mk (st := s_Span___and__) l11 c11 k11
  have F12 := fun_mk (st := s_Span___or__) l12 c12 k12
  have F13 := fun_mk (st := s_Span___add__) l13 c13 k13
  have F14 := fun_mk (st := s_Span___radd__) l14 c14 k14
  have F15 := fun_mk (st := s_Span___sub__) l15 c15 k15
  have F16 := fun_mk (st := s_Span___neg__) l16 c16 k16
  have F17 := fun_mk (st := s_Span___lt__) l17 c17 k17
  have F18 := fun_mk (st := s_Span___le__) l18 c18 k18
  have F19 := fun_mk (st := s_Span___gt__) l19 c19 k19
  have F20 := fun_mk (st := s_Span___ge__) l20 c20 k20
  have F21 := fun_mk (st := s_Span___eq__) l21 c21 k21
  have F22 := fun_mk (st := s_Span___str__) l22 c22 k22
  have F23 := fun_mk (st := s_Span___repr__) l23 c23 k23
  have F24 := fun_mk (st := s__law_pot) l24 c24 k24
  have F25 := fun_mk (st := s__law_draw) l25 c25 k25
  have F26 := fun_mk (st := s__law_number) l26 c26 k26
  have F27 := fun_mk (st := s__law_bounds) l27 c27 k27
  have F28 := fun_mk (st := s__law_made) l28 c28 k28
  have F29 := fun_mk (st := s__law_is) l29 c29 k29
  have F30 := fun_mk (st := s__law_shared) l30 c30 k30
  have F31 := fun_mk (st := s__law_two_right) l31 c31 k31
  have F32 := fun_mk (st := s__law_within_right) l32 c32 k32
  have F33 := fun_mk (st := s__law_moved_right) l33 c33 k33
  have F34 := fun_mk (st := s__law_around_right) l34 c34 k34
  have F35 := fun_mk (st := s__law_step) l35 c35 k35
  have F36 := fun_mk (st := s__law_right) l36 c36 k36
  have F37 := fun_mk (st := s_law) l37 c37 k37
  let a : Ad := { Span := Span, InvalidLevel := InvalidLevel, InvalidSpan := InvalidSpan, EmptySpan := EmptySpan, Apart := Apart, StateError := StateError, AbreastError := AbreastError, MissingError := MissingError, LimitError := LimitError, f_is_integer := f0, f_want_level := f1, f_want_span := f2, f_Apart___init__ := f3, f_Span___init__ := f4, f_Span_around := f5, f_Span_low := f6, f_Span_high := f7, f_Span_width := f8, f_Span_is_within := f9, f_Span___contains__ := f10, f_Span___and__ := f11, f_Span___or__ := f12, f_Span___add__ := f13, f_Span___radd__ := f14, f_Span___sub__ := f15, f_Span___neg__ := f16, f_Span___lt__ := f17, f_Span___le__ := f18, f_Span___gt__ := f19, f_Span___ge__ := f20, f_Span___eq__ := f21, f_Span___str__ := f22, f_Span___repr__ := f23, f__law_pot := f24, f__law_draw := f25, f__law_number := f26, f__law_bounds := f27, f__law_made := f28, f__law_is := f29, f__law_shared := f30, f__law_two_right := f31, f__law_within_right := f32, f__law_moved_right := f33, f__law_around_right := f34, f__law_step := f35, f__law_right := f36, f_law := fa, p_low := p6, p_high := p7, p_width := p8, p_around := p5, mc := .type "type" }
  let d : Fd := {
    f_is_integer := PySem.W.fnOf "is_integer" "is_integer" (defArgs s_is_integer) (defBody s_is_integer) (defScope s_is_integer) .none kV0 dc0 pm0 an0 cd0 ct0,
    f_want_level := PySem.W.fnOf "want_level" "want_level" (defArgs s_want_level) (defBody s_want_level) (defScope s_want_level) .none kV1 dc1 pm1 an1 cd1 ct1,
    f_want_span := PySem.W.fnOf "want_span" "want_span" (defArgs s_want_span) (defBody s_want_span) (defScope s_want_span) .none kV2 dc2 pm2 an2 cd2 ct2,
    f_Apart___init__ := PySem.W.fnOf "__init__" "Apart.__init__" (defArgs s_Apart___init__) (defBody s_Apart___init__) (defScope s_Apart___init__) .none kV3 dc3 pm3 an3 cd3 ct3,
    f_Span___init__ := PySem.W.fnOf "__init__" "Span.__init__" (defArgs s_Span___init__) (defBody s_Span___init__) (defScope s_Span___init__) .none kV4 dc4 pm4 an4 cd4 ct4,
    f_Span_around := PySem.W.fnOf "around" "Span.around" (defArgs s_Span_around) (defBody s_Span_around) (defScope s_Span_around) .none kV5 dc5 pm5 an5 cd5 ct5,
    f_Span_low := PySem.W.fnOf "low" "Span.low" (defArgs s_Span_low) (defBody s_Span_low) (defScope s_Span_low) .none kV6 dc6 pm6 an6 cd6 ct6,
    f_Span_high := PySem.W.fnOf "high" "Span.high" (defArgs s_Span_high) (defBody s_Span_high) (defScope s_Span_high) .none kV7 dc7 pm7 an7 cd7 ct7,
    f_Span_width := PySem.W.fnOf "width" "Span.width" (defArgs s_Span_width) (defBody s_Span_width) (defScope s_Span_width) .none kV8 dc8 pm8 an8 cd8 ct8,
    f_Span_is_within := PySem.W.fnOf "is_within" "Span.is_within" (defArgs s_Span_is_within) (defBody s_Span_is_within) (defScope s_Span_is_within) .none kV9 dc9 pm9 an9 cd9 ct9,
    f_Span___contains__ := PySem.W.fnOf "__contains__" "Span.__contains__" (defArgs s_Span___contains__) (defBody s_Span___contains__) (defScope s_Span___contains__) .none kV10 dc10 pm10 an10 cd10 ct10,
    f_Span___and__ := PySem.W.fnOf "__and__" "Span.__and__" (defArgs s_Span___and__) (defBody s_Span___and__) (defScope s_Span___and__) .none kV11 dc11 pm11 an11 cd11 ct11,
    f_Span___or__ := PySem.W.fnOf "__or__" "Span.__or__" (defArgs s_Span___or__) (defBody s_Span___or__) (defScope s_Span___or__) .none kV12 dc12 pm12 an12 cd12 ct12,
    f_Span___add__ := PySem.W.fnOf "__add__" "Span.__add__" (defArgs s_Span___add__) (defBody s_Span___add__) (defScope s_Span___add__) .none kV13 dc13 pm13 an13 cd13 ct13,
    f_Span___radd__ := PySem.W.fnOf "__radd__" "Span.__radd__" (defArgs s_Span___radd__) (defBody s_Span___radd__) (defScope s_Span___radd__) .none kV14 dc14 pm14 an14 cd14 ct14,
    f_Span___sub__ := PySem.W.fnOf "__sub__" "Span.__sub__" (defArgs s_Span___sub__) (defBody s_Span___sub__) (defScope s_Span___sub__) .none kV15 dc15 pm15 an15 cd15 ct15,
    f_Span___neg__ := PySem.W.fnOf "__neg__" "Span.__neg__" (defArgs s_Span___neg__) (defBody s_Span___neg__) (defScope s_Span___neg__) .none kV16 dc16 pm16 an16 cd16 ct16,
    f_Span___lt__ := PySem.W.fnOf "__lt__" "Span.__lt__" (defArgs s_Span___lt__) (defBody s_Span___lt__) (defScope s_Span___lt__) .none kV17 dc17 pm17 an17 cd17 ct17,
    f_Span___le__ := PySem.W.fnOf "__le__" "Span.__le__" (defArgs s_Span___le__) (defBody s_Span___le__) (defScope s_Span___le__) .none kV18 dc18 pm18 an18 cd18 ct18,
    f_Span___gt__ := PySem.W.fnOf "__gt__" "Span.__gt__" (defArgs s_Span___gt__) (defBody s_Span___gt__) (defScope s_Span___gt__) .none kV19 dc19 pm19 an19 cd19 ct19,
    f_Span___ge__ := PySem.W.fnOf "__ge__" "Span.__ge__" (defArgs s_Span___ge__) (defBody s_Span___ge__) (defScope s_Span___ge__) .none kV20 dc20 pm20 an20 cd20 ct20,
    f_Span___eq__ := PySem.W.fnOf "__eq__" "Span.__eq__" (defArgs s_Span___eq__) (defBody s_Span___eq__) (defScope s_Span___eq__) .none kV21 dc21 pm21 an21 cd21 ct21,
    f_Span___str__ := PySem.W.fnOf "__str__" "Span.__str__" (defArgs s_Span___str__) (defBody s_Span___str__) (defScope s_Span___str__) .none kV22 dc22 pm22 an22 cd22 ct22,
    f_Span___repr__ := PySem.W.fnOf "__repr__" "Span.__repr__" (defArgs s_Span___repr__) (defBody s_Span___repr__) (defScope s_Span___repr__) .none kV23 dc23 pm23 an23 cd23 ct23,
    f__law_pot := PySem.W.fnOf "_law_pot" "_law_pot" (defArgs s__law_pot) (defBody s__law_pot) (defScope s__law_pot) .none kV24 dc24 pm24 an24 cd24 ct24,
    f__law_draw := PySem.W.fnOf "_law_draw" "_law_draw" (defArgs s__law_draw) (defBody s__law_draw) (defScope s__law_draw) .none kV25 dc25 pm25 an25 cd25 ct25,
    f__law_number := PySem.W.fnOf "_law_number" "_law_number" (defArgs s__law_number) (defBody s__law_number) (defScope s__law_number) .none kV26 dc26 pm26 an26 cd26 ct26,
    f__law_bounds := PySem.W.fnOf "_law_bounds" "_law_bounds" (defArgs s__law_bounds) (defBody s__law_bounds) (defScope s__law_bounds) .none kV27 dc27 pm27 an27 cd27 ct27,
    f__law_made := PySem.W.fnOf "_law_made" "_law_made" (defArgs s__law_made) (defBody s__law_made) (defScope s__law_made) .none kV28 dc28 pm28 an28 cd28 ct28,
    f__law_is := PySem.W.fnOf "_law_is" "_law_is" (defArgs s__law_is) (defBody s__law_is) (defScope s__law_is) .none kV29 dc29 pm29 an29 cd29 ct29,
    f__law_shared := PySem.W.fnOf "_law_shared" "_law_shared" (defArgs s__law_shared) (defBody s__law_shared) (defScope s__law_shared) .none kV30 dc30 pm30 an30 cd30 ct30,
    f__law_two_right := PySem.W.fnOf "_law_two_right" "_law_two_right" (defArgs s__law_two_right) (defBody s__law_two_right) (defScope s__law_two_right) .none kV31 dc31 pm31 an31 cd31 ct31,
    f__law_within_right := PySem.W.fnOf "_law_within_right" "_law_within_right" (defArgs s__law_within_right) (defBody s__law_within_right) (defScope s__law_within_right) .none kV32 dc32 pm32 an32 cd32 ct32,
    f__law_moved_right := PySem.W.fnOf "_law_moved_right" "_law_moved_right" (defArgs s__law_moved_right) (defBody s__law_moved_right) (defScope s__law_moved_right) .none kV33 dc33 pm33 an33 cd33 ct33,
    f__law_around_right := PySem.W.fnOf "_law_around_right" "_law_around_right" (defArgs s__law_around_right) (defBody s__law_around_right) (defScope s__law_around_right) .none kV34 dc34 pm34 an34 cd34 ct34,
    f__law_step := PySem.W.fnOf "_law_step" "_law_step" (defArgs s__law_step) (defBody s__law_step) (defScope s__law_step) .none kV35 dc35 pm35 an35 cd35 ct35,
    f__law_right := PySem.W.fnOf "_law_right" "_law_right" (defArgs s__law_right) (defBody s__law_right) (defScope s__law_right) .none kV36 dc36 pm36 an36 cd36 ct36,
    f_law := PySem.W.fnOf "law" "law" (defArgs s_law) (defBody s_law) (defScope s_law) .none kV37 dc37 pm37 an37 cd37 ct37 }
  have T : Tx K mg a d := {
    m_Span := PySem.W.mg_of X E0 CSpan,
    m_InvalidLevel := PySem.W.mg_of X E0 CInvalidLevel,
    m_InvalidSpan := PySem.W.mg_of X E0 CInvalidSpan,
    m_EmptySpan := PySem.W.mg_of X E0 CEmptySpan,
    m_Apart := PySem.W.mg_of X E0 CApart,
    m_StateError := PySem.W.mg_of X E0 CStateError,
    m_AbreastError := PySem.W.mg_of X E0 CAbreastError,
    m_MissingError := PySem.W.mg_of X E0 CMissingError,
    m_LimitError := PySem.W.mg_of X E0 CLimitError,
    m_is_integer := PySem.W.mg_of X E0 a0,
    F_is_integer := F0,
    b_is_integer := F0.binds (ps := ["value"]) fun _ _ _ _ _ _ us hl => match us, hl with | [_], _ => rfl,
    m_want_level := PySem.W.mg_of X E0 a1,
    F_want_level := F1,
    b_want_level := F1.binds (ps := ["value"]) fun _ _ _ _ _ _ us hl => match us, hl with | [_], _ => rfl,
    m_want_span := PySem.W.mg_of X E0 a2,
    F_want_span := F2,
    b_want_span := F2.binds (ps := ["value"]) fun _ _ _ _ _ _ us hl => match us, hl with | [_], _ => rfl,
    F_Apart___init__ := F3,
    b_Apart___init__ := F3.binds (ps := ["self", "one", "other"]) fun _ _ _ _ _ _ us hl => match us, hl with | [_, _, _], _ => rfl,
    F_Span___init__ := F4,
    b_Span___init__ := F4.binds (ps := ["self", "low", "high"]) fun _ _ _ _ _ _ us hl => match us, hl with | [_, _, _], _ => rfl,
    bk_Span___init__ := ⟨fun s us ws _ h1 h2 => match us, ws, h1, h2 with | [_], [_, _], _, _ => .of_eq rfl⟩,
    F_Span_around := F5,
    F_Span_low := F6,
    b_Span_low := F6.binds (ps := ["self"]) fun _ _ _ _ _ _ us hl => match us, hl with | [_], _ => rfl,
    F_Span_high := F7,
    b_Span_high := F7.binds (ps := ["self"]) fun _ _ _ _ _ _ us hl => match us, hl with | [_], _ => rfl,
    F_Span_width := F8,
    b_Span_width := F8.binds (ps := ["self"]) fun _ _ _ _ _ _ us hl => match us, hl with | [_], _ => rfl,
    F_Span_is_within := F9,
    b_Span_is_within := F9.binds (ps := ["self", "other"]) fun _ _ _ _ _ _ us hl => match us, hl with | [_, _], _ => rfl,
    bk_Span_is_within := ⟨fun s us ws _ h1 h2 => match us, ws, h1, h2 with | [_], [_], _, _ => .of_eq rfl⟩,
    F_Span___contains__ := F10,
    b_Span___contains__ := F10.binds (ps := ["self", "value"]) fun _ _ _ _ _ _ us hl => match us, hl with | [_, _], _ => rfl,
    o_Span___contains__ := ⟨a10, i10⟩,
    F_Span___and__ := F11,
    b_Span___and__ := F11.binds (ps := ["self", "other"]) fun _ _ _ _ _ _ us hl => match us, hl with | [_, _], _ => rfl,
    o_Span___and__ := ⟨a11, i11⟩,
    F_Span___or__ := F12,
    b_Span___or__ := F12.binds (ps := ["self", "other"]) fun _ _ _ _ _ _ us hl => match us, hl with | [_, _], _ => rfl,
    o_Span___or__ := ⟨a12, i12⟩,
    F_Span___add__ := F13,
    b_Span___add__ := F13.binds (ps := ["self", "number"]) fun _ _ _ _ _ _ us hl => match us, hl with | [_, _], _ => rfl,
    o_Span___add__ := ⟨a13, i13⟩,
    F_Span___radd__ := F14,
    b_Span___radd__ := F14.binds (ps := ["self", "number"]) fun _ _ _ _ _ _ us hl => match us, hl with | [_, _], _ => rfl,
    o_Span___radd__ := ⟨a14, i14⟩,
    F_Span___sub__ := F15,
    b_Span___sub__ := F15.binds (ps := ["self", "number"]) fun _ _ _ _ _ _ us hl => match us, hl with | [_, _], _ => rfl,
    o_Span___sub__ := ⟨a15, i15⟩,
    F_Span___neg__ := F16,
    b_Span___neg__ := F16.binds (ps := ["self"]) fun _ _ _ _ _ _ us hl => match us, hl with | [_], _ => rfl,
    o_Span___neg__ := ⟨a16, i16⟩,
    F_Span___lt__ := F17,
    b_Span___lt__ := F17.binds (ps := ["self", "other"]) fun _ _ _ _ _ _ us hl => match us, hl with | [_, _], _ => rfl,
    o_Span___lt__ := ⟨a17, i17⟩,
    F_Span___le__ := F18,
    b_Span___le__ := F18.binds (ps := ["self", "other"]) fun _ _ _ _ _ _ us hl => match us, hl with | [_, _], _ => rfl,
    o_Span___le__ := ⟨a18, i18⟩,
    F_Span___gt__ := F19,
    b_Span___gt__ := F19.binds (ps := ["self", "other"]) fun _ _ _ _ _ _ us hl => match us, hl with | [_, _], _ => rfl,
    o_Span___gt__ := ⟨a19, i19⟩,
    F_Span___ge__ := F20,
    b_Span___ge__ := F20.binds (ps := ["self", "other"]) fun _ _ _ _ _ _ us hl => match us, hl with | [_, _], _ => rfl,
    o_Span___ge__ := ⟨a20, i20⟩,
    F_Span___eq__ := F21,
    b_Span___eq__ := F21.binds (ps := ["self", "other"]) fun _ _ _ _ _ _ us hl => match us, hl with | [_, _], _ => rfl,
    o_Span___eq__ := ⟨a21, i21⟩,
    F_Span___str__ := F22,
    b_Span___str__ := F22.binds (ps := ["self"]) fun _ _ _ _ _ _ us hl => match us, hl with | [_], _ => rfl,
    o_Span___str__ := ⟨a22, i22⟩,
    F_Span___repr__ := F23,
    b_Span___repr__ := F23.binds (ps := ["self"]) fun _ _ _ _ _ _ us hl => match us, hl with | [_], _ => rfl,
    o_Span___repr__ := ⟨a23, i23⟩,
    m__law_pot := PySem.W.mg_of X E0 a24,
    F__law_pot := F24,
    b__law_pot := F24.binds (ps := ["_law_script", "_law_k"]) fun _ _ _ _ _ _ us hl => match us, hl with | [_, _], _ => rfl,
    m__law_draw := PySem.W.mg_of X E0 a25,
    F__law_draw := F25,
    b__law_draw := F25.binds (ps := ["_law_pot_here", "_law_many"]) fun _ _ _ _ _ _ us hl => match us, hl with | [_, _], _ => rfl,
    m__law_number := PySem.W.mg_of X E0 a26,
    F__law_number := F26,
    b__law_number := F26.binds (ps := ["_law_pot_here"]) fun _ _ _ _ _ _ us hl => match us, hl with | [_], _ => rfl,
    m__law_bounds := PySem.W.mg_of X E0 a27,
    F__law_bounds := F27,
    b__law_bounds := F27.binds (ps := ["_law_pot_here", "_law_base"]) fun _ _ _ _ _ _ us hl => match us, hl with | [_, _], _ => rfl,
    m__law_made := PySem.W.mg_of X E0 a28,
    F__law_made := F28,
    b__law_made := F28.binds (ps := ["_law_bounds_here"]) fun _ _ _ _ _ _ us hl => match us, hl with | [_], _ => rfl,
    m__law_is := PySem.W.mg_of X E0 a29,
    F__law_is := F29,
    b__law_is := F29.binds (ps := ["_law_made_here", "_law_bounds_here"]) fun _ _ _ _ _ _ us hl => match us, hl with | [_, _], _ => rfl,
    m__law_shared := PySem.W.mg_of X E0 a30,
    F__law_shared := F30,
    b__law_shared := F30.binds (ps := ["_law_this", "_law_mate"]) fun _ _ _ _ _ _ us hl => match us, hl with | [_, _], _ => rfl,
    m__law_two_right := PySem.W.mg_of X E0 a31,
    F__law_two_right := F31,
    b__law_two_right := F31.binds (ps := ["_law_bounds_here", "_law_more"]) fun _ _ _ _ _ _ us hl => match us, hl with | [_, _], _ => rfl,
    m__law_within_right := PySem.W.mg_of X E0 a32,
    F__law_within_right := F32,
    b__law_within_right := F32.binds (ps := ["_law_bounds_here"]) fun _ _ _ _ _ _ us hl => match us, hl with | [_], _ => rfl,
    m__law_moved_right := PySem.W.mg_of X E0 a33,
    F__law_moved_right := F33,
    b__law_moved_right := F33.binds (ps := ["_law_bounds_here", "_law_more"]) fun _ _ _ _ _ _ us hl => match us, hl with | [_, _], _ => rfl,
    m__law_around_right := PySem.W.mg_of X E0 a34,
    F__law_around_right := F34,
    b__law_around_right := F34.binds (ps := ["_law_pot_here", "_law_base"]) fun _ _ _ _ _ _ us hl => match us, hl with | [_, _], _ => rfl,
    m__law_step := PySem.W.mg_of X E0 a35,
    F__law_step := F35,
    b__law_step := F35.binds (ps := ["_law_pot_here", "_law_made_here", "_law_bounds_here"]) fun _ _ _ _ _ _ us hl => match us, hl with | [_, _, _], _ => rfl,
    m__law_right := PySem.W.mg_of X E0 a36,
    F__law_right := F36,
    b__law_right := F36.binds (ps := ["_law_pot_here"]) fun _ _ _ _ _ _ us hl => match us, hl with | [_], _ => rfl,
    m_law := PySem.W.mg_of X E0 a37,
    F_law := F37,
    b_law := F37.binds (ps := ["_law_script"]) fun _ _ _ _ _ _ us hl => match us, hl with | [_], _ => rfl,
    Z_Apart := ⟨PySem.F.excBase_RuntimeError, PySem.DLX.tail_RT, ⟨_, _, _, _, _, _, _, _, _, _, _, _, _, _, _, ap0, ap1⟩, ap2, ap3, ap4, ap5⟩,
    iC_Apart := a3,
    tI_Apart := ap6,
    n_Apart_one := ap7,
    n_Apart_other := ap8,
    x_Apart := ⟨ap9, aq1, ap3, aq2⟩,
    q_Apart := ⟨ap9, aq1, ap3, aq2, aq3, sp6, sp7, aq4⟩,
    k_Apart1 := kit_rr1 aq5 cl_StateError ct_StateError,
    k_Apart2 := kit_rt aq6 (by decide +kernel),
    k_Apart3 := kitA_cons (kit_rr0 no_AbreastError aq7 cl_AbreastError ct_AbreastError) ( kitA_cons (kit_rr0 no_MissingError aq7 cl_MissingError ct_MissingError) ( kitA_cons (kit_rr0 no_LimitError aq7 cl_LimitError ct_LimitError) (kitA_nil))),
    e_Apart := PySem.W.exm_ref ap3 aq2 ap4 aq7,
    z_RuntimeError := PySem.W.mg_none_of X E0 z_RuntimeError,
    c_Span := ⟨sp1, sp2, sp3, sp4⟩,
    is_Span := ⟨⟨sp1, sp2, sp3, sp4⟩, sp5, sp6, sp7, sp8⟩,
    n_Span_own_low := sp9,
    n_Span_own_high := sq1,
    M_Span := ⟨sq2, a4, i4, sq3⟩,
    me_Span_is_within := ⟨a9, i9, k9⟩,
    sf_Span := sq4,
    ni_Span := sq5,
    ne_Span := sq6,
    ob_Span := sq7,
    ki_int := kit_rt sq5 (by decide +kernel),
    ki_bool := kit_rt sq9 (by decide +kernel),
    oi_Span___add__ := ⟨⟨_, a14, .inr ⟨_, rfl⟩⟩, ⟨_, _, sr1, sr2⟩, sr5⟩,
    oi_Span___sub__ := ⟨⟨_, sr6, .inl rfl⟩, ⟨_, _, sr3, sr4⟩, sr5⟩,
    s_Span_around := ⟨g5, t5, a5, ⟨_, r5⟩, k5⟩,
    b_Span_around := fun rest => by cases rest <;> rfl,
    p_Span_low := ⟨a6, g6, t6, ⟨_, r6⟩⟩,
    p_Span_high := ⟨a7, g7, t7, ⟨_, r7⟩⟩,
    p_Span_width := ⟨a8, g8, t8, ⟨_, r8⟩⟩,
    z_isinstance := PySem.W.mg_none_of X E0 z_isinstance,
    z_min := PySem.W.mg_none_of X E0 z_min,
    z_max := PySem.W.mg_none_of X E0 z_max,
    z_len := PySem.W.mg_none_of X E0 z_len,
    z_abs := PySem.W.mg_none_of X E0 z_abs,
    z_int := PySem.W.mg_none_of X E0 z_int,
    z_divmod := PySem.W.mg_none_of X E0 z_divmod,
    z_tuple := PySem.W.mg_none_of X E0 z_tuple,
    z_sorted := PySem.W.mg_none_of X E0 z_sorted,
    z_str := PySem.W.mg_none_of X E0 z_str,
    z_repr := PySem.W.mg_none_of X E0 z_repr,
    z_range := PySem.W.mg_none_of X E0 z_range,
    z_all := PySem.W.mg_none_of X E0 z_all,
    z_enumerate := PySem.W.mg_none_of X E0 z_enumerate,
    z_bool := PySem.W.mg_none_of X E0 z_bool }
  exact ⟨d.f_law, G a, fun s u => .of_eq rfl, fun base _ _ => ok_law T⟩
end K11
open PySem PySem.W PyProof.Rows in
set_option maxRecDepth 100000 in
set_option maxHeartbeats 0 in
theorem PySem.Challenge.cw_abreast_k11_whole_spans_by_own_sums_holds : PySem.Challenge.rw_abreast_k11_whole_spans_by_own_sums.Holds := by
  w_on; o_law; k_head; (case hw => w_witness2)
  k_fill
  refine DL.walkG (k := 9) (x := "_law_script") (sp := K11.s_lw) (l := PySem.Challenge.rw_abreast_k11_whole_spans_by_own_sums) rfl (by decide) rfl ⟨by decide, by decide⟩ ?K (fun w h Y => PySem.W.kIn_of Y) ?F (fun m ns hl _ => ⟨ns, rfl, hl, fun _ => rfl⟩)
  case K => intro P; first | k_is | exact rfl | kernel_rfl
  case F =>
    intro w mg fa h KX G hmg
    refine' K11.all_mk KX G hmg ?a0 ?a1 ?a2 ?a24 ?a25 ?a26 ?a27 ?a28 ?a29 ?a30 ?a31 ?a32 ?a33 ?a34 ?a35 ?a36 ?a37 ?CSpan ?CInvalidLevel ?CInvalidSpan ?CEmptySpan ?CApart ?CStateError ?CAbreastError ?CMissingError ?CLimitError ?a3 ?i3 ?a4 ?i4 ?a5 ?r5 ?g5 ?t5 ?a6 ?r6 ?g6 ?t6 ?a7 ?r7 ?g7 ?t7 ?a8 ?r8 ?g8 ?t8 ?a9 ?i9 ?a10 ?i10 ?a11 ?i11 ?a12 ?i12 ?a13 ?i13 ?a14 ?i14 ?a15 ?i15 ?a16 ?i16 ?a17 ?i17 ?a18 ?i18 ?a19 ?i19 ?a20 ?i20 ?a21 ?i21 ?a22 ?i22 ?a23 ?i23 ?l0 ?c0 ?k0 ?l1 ?c1 ?k1 ?l2 ?c2 ?k2 ?l3 ?c3 ?k3 ?l4 ?c4 ?k4 ?l5 ?c5 ?k5 ?l6 ?c6 ?k6 ?l7 ?c7 ?k7 ?l8 ?c8 ?k8 ?l9 ?c9 ?k9 ?l10 ?c10 ?k10 ?l11 ?c11 ?k11 ?l12 ?c12 ?k12 ?l13 ?c13 ?k13 ?l14 ?c14 ?k14 ?l15 ?c15 ?k15 ?l16 ?c16 ?k16 ?l17 ?c17 ?k17 ?l18 ?c18 ?k18 ?l19 ?c19 ?k19 ?l20 ?c20 ?k20 ?l21 ?c21 ?k21 ?l22 ?c22 ?k22 ?l23 ?c23 ?k23 ?l24 ?c24 ?k24 ?l25 ?c25 ?k25 ?l26 ?c26 ?k26 ?l27 ?c27 ?k27 ?l28 ?c28 ?k28 ?l29 ?c29 ?k29 ?l30 ?c30 ?k30 ?l31 ?c31 ?k31 ?l32 ?c32 ?k32 ?l33 ?c33 ?k33 ?l34 ?c34 ?k34 ?l35 ?c35 ?k35 ?l36 ?c36 ?k36 ?l37 ?c37 ?k37 ?sp1 ?sp2 ?sp3 ?sp4 ?sp5 ?sp6 ?sp7 ?sp8 ?sp9 ?sq1 ?sq2 ?sq3 ?sq4 ?sq5 ?sq6 ?sq7 ?sq9 ?sr1 ?sr2 ?sr3 ?sr4 ?sr5 ?sr6 ?ap0 ?ap1 ?ap2 ?ap3 ?ap4 ?ap5 ?ap6 ?ap7 ?ap8 ?ap9 ?aq1 ?aq2 ?aq3 ?aq4 ?aq5 ?aq6 ?aq7 ?cl_StateError ?ct_StateError ?cl_AbreastError ?ct_AbreastError ?no_AbreastError ?cl_MissingError ?ct_MissingError ?no_MissingError ?cl_LimitError ?ct_LimitError ?no_LimitError ?z_isinstance ?z_min ?z_max ?z_len ?z_abs ?z_int ?z_divmod ?z_tuple ?z_sorted ?z_str ?z_repr ?z_range ?z_all ?z_enumerate ?z_bool ?z_RuntimeError
    (case a0 => k_is)
    (case a1 => k_is)
    (case a2 => k_is)
    (case a24 => k_is)
    (case a25 => k_is)
    (case a26 => k_is)
    (case a27 => k_is)
    (case a28 => k_is)
    (case a29 => k_is)
    (case a30 => k_is)
    (case a31 => k_is)
    (case a32 => k_is)
    (case a33 => k_is)
    (case a34 => k_is)
    (case a35 => k_is)
    (case a36 => k_is)
    (case a37 => k_is)
    (case CSpan => k_is)
    (case CInvalidLevel => k_is)
    (case CInvalidSpan => k_is)
    (case CEmptySpan => k_is)
    (case CApart => k_is)
    (case CStateError => k_is)
    (case CAbreastError => k_is)
    (case CMissingError => k_is)
    (case CLimitError => k_is)
    (case a3 => k_is)
    (case i3 => k_is)
    (case a4 => k_is)
    (case i4 => k_is)
    (case a5 => k_is)
    (case r5 => k_is)
    (case g5 => k_is)
    (case t5 => k_is)
    (case a6 => k_is)
    (case r6 => k_is)
    (case g6 => k_is)
    (case t6 => k_is)
    (case a7 => k_is)
    (case r7 => k_is)
    (case g7 => k_is)
    (case t7 => k_is)
    (case a8 => k_is)
    (case r8 => k_is)
    (case g8 => k_is)
    (case t8 => k_is)
    (case a9 => k_is)
    (case i9 => k_is)
    (case a10 => k_is)
    (case i10 => k_is)
    (case a11 => k_is)
    (case i11 => k_is)
    (case a12 => k_is)
    (case i12 => k_is)
    (case a13 => k_is)
    (case i13 => k_is)
    (case a14 => k_is)
    (case i14 => k_is)
    (case a15 => k_is)
    (case i15 => k_is)
    (case a16 => k_is)
    (case i16 => k_is)
    (case a17 => k_is)
    (case i17 => k_is)
    (case a18 => k_is)
    (case i18 => k_is)
    (case a19 => k_is)
    (case i19 => k_is)
    (case a20 => k_is)
    (case i20 => k_is)
    (case a21 => k_is)
    (case i21 => k_is)
    (case a22 => k_is)
    (case i22 => k_is)
    (case a23 => k_is)
    (case i23 => k_is)
    (case l0 => k_is)
    (case c0 => k_is)
    (case k0 => k_is)
    (case l1 => k_is)
    (case c1 => k_is)
    (case k1 => k_is)
    (case l2 => k_is)
    (case c2 => k_is)
    (case k2 => k_is)
    (case l3 => k_is)
    (case c3 => k_is)
    (case k3 => k_is)
    (case l4 => k_is)
    (case c4 => k_is)
    (case k4 => k_is)
    (case l5 => k_is)
    (case c5 => k_is)
    (case k5 => k_is)
    (case l6 => k_is)
    (case c6 => k_is)
    (case k6 => k_is)
    (case l7 => k_is)
    (case c7 => k_is)
    (case k7 => k_is)
    (case l8 => k_is)
    (case c8 => k_is)
    (case k8 => k_is)
    (case l9 => k_is)
    (case c9 => k_is)
    (case k9 => k_is)
    (case l10 => k_is)
    (case c10 => k_is)
    (case k10 => k_is)
    (case l11 => k_is)
    (case c11 => k_is)
    (case k11 => k_is)
    (case l12 => k_is)
    (case c12 => k_is)
    (case k12 => k_is)
    (case l13 => k_is)
    (case c13 => k_is)
    (case k13 => k_is)
    (case l14 => k_is)
    (case c14 => k_is)
    (case k14 => k_is)
    (case l15 => k_is)
    (case c15 => k_is)
    (case k15 => k_is)
    (case l16 => k_is)
    (case c16 => k_is)
    (case k16 => k_is)
    (case l17 => k_is)
    (case c17 => k_is)
    (case k17 => k_is)
    (case l18 => k_is)
    (case c18 => k_is)
    (case k18 => k_is)
    (case l19 => k_is)
    (case c19 => k_is)
    (case k19 => k_is)
    (case l20 => k_is)
    (case c20 => k_is)
    (case k20 => k_is)
    (case l21 => k_is)
    (case c21 => k_is)
    (case k21 => k_is)
    (case l22 => k_is)
    (case c22 => k_is)
    (case k22 => k_is)
    (case l23 => k_is)
    (case c23 => k_is)
    (case k23 => k_is)
    (case l24 => k_is)
    (case c24 => k_is)
    (case k24 => k_is)
    (case l25 => k_is)
    (case c25 => k_is)
    (case k25 => k_is)
    (case l26 => k_is)
    (case c26 => k_is)
    (case k26 => k_is)
    (case l27 => k_is)
    (case c27 => k_is)
    (case k27 => k_is)
    (case l28 => k_is)
    (case c28 => k_is)
    (case k28 => k_is)
    (case l29 => k_is)
    (case c29 => k_is)
    (case k29 => k_is)
    (case l30 => k_is)
    (case c30 => k_is)
    (case k30 => k_is)
    (case l31 => k_is)
    (case c31 => k_is)
    (case k31 => k_is)
    (case l32 => k_is)
    (case c32 => k_is)
    (case k32 => k_is)
    (case l33 => k_is)
    (case c33 => k_is)
    (case k33 => k_is)
    (case l34 => k_is)
    (case c34 => k_is)
    (case k34 => k_is)
    (case l35 => k_is)
    (case c35 => k_is)
    (case k35 => k_is)
    (case l36 => k_is)
    (case c36 => k_is)
    (case k36 => k_is)
    (case l37 => k_is)
    (case c37 => k_is)
    (case k37 => k_is)
    (case sp1 => k_is)
    (case sp2 => k_is)
    (case sp3 => k_is)
    (case sp4 => k_is)
    (case sp5 => k_is)
    (case sp6 => k_is)
    (case sp7 => k_is)
    (case sp8 => k_is)
    (case sp9 => k_is)
    (case sq1 => k_is)
    (case sq2 => k_is)
    (case sq3 => k_is)
    (case sq4 => k_is)
    (case sq5 => k_is)
    (case sq6 => k_is)
    (case sq7 => k_is)
    (case sq9 => k_is)
    (case sr1 => k_is)
    (case sr2 => k_is)
    (case sr3 => k_is)
    (case sr4 => k_is)
    (case sr5 => k_is)
    (case sr6 => k_is)
    (case ap0 => k_is)
    (case ap1 => first | rfl | decide +kernel | k_is)
    (case ap2 => k_is)
    (case ap3 => k_is)
    (case ap4 => k_is)
    (case ap5 => k_is)
    (case ap6 => k_is)
    (case ap7 => k_is)
    (case ap8 => k_is)
    (case ap9 => k_is)
    (case aq1 => k_is)
    (case aq2 => k_is)
    (case aq3 => k_is)
    (case aq4 => k_is)
    (case aq5 => k_is)
    (case aq6 => k_is)
    (case aq7 => k_is)
    (case cl_StateError => k_is)
    (case ct_StateError => k_is)
    (case cl_AbreastError => k_is)
    (case ct_AbreastError => k_is)
    (case no_AbreastError => k_is)
    (case cl_MissingError => k_is)
    (case ct_MissingError => k_is)
    (case no_MissingError => k_is)
    (case cl_LimitError => k_is)
    (case ct_LimitError => k_is)
    (case no_LimitError => k_is)
    (case z_isinstance => k_is)
    (case z_min => k_is)
    (case z_max => k_is)
    (case z_len => k_is)
    (case z_abs => k_is)
    (case z_int => k_is)
    (case z_divmod => k_is)
    (case z_tuple => k_is)
    (case z_sorted => k_is)
    (case z_str => k_is)
    (case z_repr => k_is)
    (case z_range => k_is)
    (case z_all => k_is)
    (case z_enumerate => k_is)
    (case z_bool => k_is)
    (case z_RuntimeError => k_is)
#print axioms PySem.Challenge.cw_abreast_k11_whole_spans_by_own_sums_holds
